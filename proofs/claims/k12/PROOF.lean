import PyProof.Rows.All
import Wide.All
import OpenK.AllK
import Wide.FinOn
import HandS.ForMost
import HandS.Exc
import HandS.ExcOwn
import HandS.ExcCtx
import HandS.ExcInit
import HandS.Hot
import HandS.HotCalls
import HandS.ExcIs
import HandS.ExcField
import HandS.CallSlots
import HandS.IsInst
import HandS.Wide
import HandS.Conv
import HandS.Rev
import HandS.Ends
import HandS.List
import HandS.ExcBuiltin
import PyProof.Rows.FactsT2
import HandS.More
import HandS.SetKeys
import KE.GoesEnum
import HandS.SortInts
import HandS.TupAny
import HandS.DictComp
import HandS.FStr
import HandS.Defaults
import PySem.Challenge.RW_holdingsshut_k12_move_lists_played
section
set_option Elab.async false
set_option linter.all false
set_option maxRecDepth 100000
/-! VS, part 1: data D, how values stand for data (Rep), slots with owners (Sl), the state's word (EnvOk), a step (Stp). -/
namespace VS
open PySem L2
abbrev St := L2.St

/-- data: what a value stands for -/
inductive D where
  | non
  | bl (b : Bool)
  | int (i : Int)
  | str (x : Str)
  | lst (xs : List D)
  | tup (xs : List D)
  | rol (xs : List D)
  | dct (kvs : List (Key × D))

mutual
def Rep (K : PySem.W.Frag) (B : Hp) : D → V → Prop
  | .non, v => v = .non
  | .bl b, v => v = .bl b
  | .int i, v => v = .int i
  | .str x, v => v = .str x
  | .lst xs, v => ∃ a vs, v = .ref a ∧ B a = some (.lst vs) ∧ RepL K B xs vs
  | .tup xs, v => ∃ a vs, v = .ref a ∧ SqT K B a vs ∧ RepL K B xs vs
  | .rol xs, v => ∃ a vs, v = .ref a ∧ SqL K B a vs ∧ RepL K B xs vs
  | .dct kvs, v => ∃ a kws, v = .ref a ∧ (∃ o, B a = some (.frz o (.dK kws))) ∧ RepK K B kvs kws
def RepL (K : PySem.W.Frag) (B : Hp) : List D → List V → Prop
  | [], vs => vs = []
  | d :: ds, vs => ∃ v r, vs = v :: r ∧ Rep K B d v ∧ RepL K B ds r
def RepK (K : PySem.W.Frag) (B : Hp) : List (Key × D) → List (Key × V) → Prop
  | [], vs => vs = []
  | (k, d) :: ds, vs => ∃ v r, vs = (k, v) :: r ∧ Rep K B d v ∧ RepK K B ds r
end

/-- B knows less than B' -/
def Le (B B' : Hp) : Prop := ∀ a o, B a = some o → B' a = some o
theorem Le.refl (B : Hp) : Le B B := fun _ _ h => h
theorem Le.trans {A B C : Hp} (h : Le A B) (h' : Le B C) : Le A C := fun a o e => h' a o (h a o e)
theorem Le.sqT {K : PySem.W.Frag} {B B' : Hp} {a : Addr} {xs : List V} (e : Le B B') (h : SqT K B a xs) : SqT K B' a xs := by
  rcases h with (h | ⟨o, h⟩) | h
  · exact .inl (.inl (e _ _ h))
  · exact .inl (.inr ⟨o, e _ _ h⟩)
  · exact .inr h
theorem Le.sqL {K : PySem.W.Frag} {B B' : Hp} {a : Addr} {xs : List V} (e : Le B B') (h : SqL K B a xs) : SqL K B' a xs := by
  rcases h with (h | ⟨o, h⟩) | h
  · exact .inl (.inl (e _ _ h))
  · exact .inl (.inr ⟨o, e _ _ h⟩)
  · exact .inr h

mutual
theorem Rep.mono {K : PySem.W.Frag} {B B' : Hp} (e : Le B B') : ∀ (d : D) {v : V}, Rep K B d v → Rep K B' d v
  | .non, _, h => h
  | .bl _, _, h => h
  | .int _, _, h => h
  | .str _, _, h => h
  | .lst xs, _, h => by
    obtain ⟨a, vs, h1, h2, h3⟩ := h
    exact ⟨a, vs, h1, e _ _ h2, RepL.mono e xs h3⟩
  | .tup xs, _, h => by
    obtain ⟨a, vs, h1, h2, h3⟩ := h
    exact ⟨a, vs, h1, e.sqT h2, RepL.mono e xs h3⟩
  | .rol xs, _, h => by
    obtain ⟨a, vs, h1, h2, h3⟩ := h
    exact ⟨a, vs, h1, e.sqL h2, RepL.mono e xs h3⟩
  | .dct kvs, _, h => by
    obtain ⟨a, vs, h1, ⟨o, h2⟩, h3⟩ := h
    exact ⟨a, vs, h1, ⟨o, e _ _ h2⟩, RepK.mono e kvs h3⟩
theorem RepL.mono {K : PySem.W.Frag} {B B' : Hp} (e : Le B B') : ∀ (ds : List D) {vs : List V}, RepL K B ds vs → RepL K B' ds vs
  | [], _, h => h
  | d :: ds, _, h => by
    obtain ⟨v, r, h1, h2, h3⟩ := h
    exact ⟨v, r, h1, Rep.mono e d h2, RepL.mono e ds h3⟩
theorem RepK.mono {K : PySem.W.Frag} {B B' : Hp} (e : Le B B') : ∀ (ds : List (Key × D)) {vs : List (Key × V)}, RepK K B ds vs → RepK K B' ds vs
  | [], _, h => h
  | (k, d) :: ds, _, h => by
    obtain ⟨v, r, h1, h2, h3⟩ := h
    exact ⟨v, r, h1, Rep.mono e d h2, RepK.mono e ds h3⟩
end

theorem RepL.nil {K : PySem.W.Frag} {B : Hp} : RepL K B [] [] := rfl
theorem RepL.cons {K : PySem.W.Frag} {B : Hp} {d : D} {ds : List D} {v : V} {vs : List V} (h : Rep K B d v) (t : RepL K B ds vs) : RepL K B (d :: ds) (v :: vs) := ⟨v, vs, rfl, h, t⟩
theorem RepL.length {K : PySem.W.Frag} {B : Hp} : ∀ {ds : List D} {vs : List V}, RepL K B ds vs → vs.length = ds.length
  | [], _, h => by
    rw [show _ = [] from h]
    rfl
  | d :: ds, _, h => by
    obtain ⟨v, r, rfl, h2, h3⟩ := h
    simp only [List.length_cons, RepL.length h3]
theorem RepL.append {K : PySem.W.Frag} {B : Hp} : ∀ {ds es : List D} {vs ws : List V}, RepL K B ds vs → RepL K B es ws → RepL K B (ds ++ es) (vs ++ ws)
  | [], _, _, _, h, t => by
    rw [show _ = [] from h]
    exact t
  | d :: ds, _, _, _, h, t => by
    obtain ⟨v, r, rfl, h2, h3⟩ := h
    exact ⟨v, _, rfl, h2, RepL.append h3 t⟩
theorem RepL.get {K : PySem.W.Frag} {B : Hp} : ∀ {ds : List D} {vs : List V} {i : Nat} {d : D}, RepL K B ds vs → ds[i]? = some d → ∃ v, vs[i]? = some v ∧ Rep K B d v
  | [], _, _, _, _, e => by simp at e
  | d :: ds, _, 0, _, h, e => by
    obtain ⟨v, r, rfl, h2, h3⟩ := h
    simp at e
    subst e
    exact ⟨v, rfl, h2⟩
  | d :: ds, _, i + 1, _, h, e => by
    obtain ⟨v, r, rfl, h2, h3⟩ := h
    obtain ⟨w, h4, h5⟩ := RepL.get (i := i) h3 (by simpa using e)
    exact ⟨w, by simpa using h4, h5⟩
theorem RepL.getV {K : PySem.W.Frag} {B : Hp} : ∀ {ds : List D} {vs : List V} {i : Nat} {v : V}, RepL K B ds vs → vs[i]? = some v → ∃ d, ds[i]? = some d ∧ Rep K B d v
  | [], _, _, _, h, e => by
    rw [show _ = [] from h] at e
    simp at e
  | d :: ds, _, 0, _, h, e => by
    obtain ⟨v, r, rfl, h2, h3⟩ := h
    simp at e
    subst e
    exact ⟨d, rfl, h2⟩
  | d :: ds, _, i + 1, _, h, e => by
    obtain ⟨v, r, rfl, h2, h3⟩ := h
    obtain ⟨w, h4, h5⟩ := RepL.getV (i := i) h3 (by simpa using e)
    exact ⟨w, by simpa using h4, h5⟩
theorem RepL.take {K : PySem.W.Frag} {B : Hp} : ∀ {ds : List D} {vs : List V} (n : Nat), RepL K B ds vs → RepL K B (ds.take n) (vs.take n)
  | [], _, n, h => by
    rw [show _ = [] from h]
    simp only [List.take_nil]
    rfl
  | d :: ds, _, 0, h => by
    simp only [List.take_zero]
    rfl
  | d :: ds, _, n + 1, h => by
    obtain ⟨v, r, rfl, h2, h3⟩ := h
    exact ⟨v, _, rfl, h2, RepL.take n h3⟩
theorem RepL.drop {K : PySem.W.Frag} {B : Hp} : ∀ {ds : List D} {vs : List V} (n : Nat), RepL K B ds vs → RepL K B (ds.drop n) (vs.drop n)
  | [], _, n, h => by
    rw [show _ = [] from h]
    simp only [List.drop_nil]
    rfl
  | d :: ds, _, 0, h => by simpa only [List.drop_zero] using h
  | d :: ds, _, n + 1, h => by
    obtain ⟨v, r, rfl, h2, h3⟩ := h
    exact RepL.drop n h3
theorem RepL.reverse {K : PySem.W.Frag} {B : Hp} : ∀ {ds : List D} {vs : List V}, RepL K B ds vs → RepL K B ds.reverse vs.reverse
  | [], _, h => by
    rw [show _ = [] from h]
    rfl
  | d :: ds, _, h => by
    obtain ⟨v, r, rfl, h2, h3⟩ := h
    simp only [List.reverse_cons]
    exact (RepL.reverse h3).append ⟨v, [], rfl, h2, rfl⟩
theorem RepL.set {K : PySem.W.Frag} {B : Hp} {d : D} {v : V} (q : Rep K B d v) : ∀ {ds : List D} {vs : List V} (n : Nat), RepL K B ds vs → RepL K B (ds.set n d) (vs.set n v)
  | [], _, n, h => by
    rw [show _ = [] from h]
    rfl
  | e :: ds, _, 0, h => by
    obtain ⟨w, r, rfl, h2, h3⟩ := h
    exact ⟨v, r, rfl, q, h3⟩
  | e :: ds, _, n + 1, h => by
    obtain ⟨w, r, rfl, h2, h3⟩ := h
    exact ⟨w, _, rfl, h2, RepL.set q n h3⟩
theorem RepL.dropLast {K : PySem.W.Frag} {B : Hp} {ds : List D} {vs : List V} (h : RepL K B ds vs) : RepL K B ds.dropLast vs.dropLast := by
  rw [List.dropLast_eq_take, List.dropLast_eq_take, h.length]
  exact h.take _
theorem RepL.ints {K : PySem.W.Frag} {B : Hp} : ∀ (ns : List Int), RepL K B (ns.map D.int) (ns.map V.int)
  | [] => rfl
  | n :: ns => ⟨.int n, _, rfl, rfl, RepL.ints ns⟩
theorem RepL.strs {K : PySem.W.Frag} {B : Hp} : ∀ (ns : List Str), RepL K B (ns.map D.str) (ns.map V.str)
  | [] => rfl
  | n :: ns => ⟨.str n, _, rfl, rfl, RepL.strs ns⟩

/-! ### names and their data (an exception's fields) -/
def RepF (K : PySem.W.Frag) (B : Hp) : List (Str × D) → List (Str × V) → Prop
  | [], vs => vs = []
  | (k, d) :: ds, vs => ∃ v r, vs = (k, v) :: r ∧ Rep K B d v ∧ RepF K B ds r
theorem RepF.mono {K : PySem.W.Frag} {B B' : Hp} (e : Le B B') : ∀ (ds : List (Str × D)) {vs : List (Str × V)}, RepF K B ds vs → RepF K B' ds vs
  | [], _, h => h
  | (k, d) :: ds, _, h => by
    obtain ⟨v, r, h1, h2, h3⟩ := h
    exact ⟨v, r, h1, Rep.mono e d h2, RepF.mono e ds h3⟩
theorem RepF.look {K : PySem.W.Frag} {B : Hp} {f : Str} {d : D} : ∀ {fs : List (Str × D)} {vs : List (Str × V)}, RepF K B fs vs → fs.lookup f = some d → ∃ v, vs.lookup f = some v ∧ Rep K B d v
  | [], _, _, e => by cases e
  | (k, c) :: fs, _, h, e => by
    obtain ⟨v, r, rfl, h2, h3⟩ := h
    by_cases q : f = k
    · subst q
      simp [List.lookup] at e
      subst e
      exact ⟨v, by simp [List.lookup], h2⟩
    · have q' : (f == k) = false := by simpa using q
      simp only [List.lookup, q'] at e
      obtain ⟨w, h4, h5⟩ := RepF.look h3 e
      exact ⟨w, by simp only [List.lookup, q']; exact h4, h5⟩

/-! ### what is owned: a list, a dict -/
inductive O where
  | lst (xs : List D)
  | dct (kvs : List (Key × D))
def O.toD : O → D
  | .lst xs => .lst xs
  | .dct kvs => .dct kvs
/-- o stands at a in H, its parts known to B -/
def ORep (K : PySem.W.Frag) (B H : Hp) : O → Addr → Prop
  | .lst xs, a => ∃ vs, H a = some (.lst vs) ∧ RepL K B xs vs
  | .dct kvs, a => ∃ kws, H a = some (.dK kws) ∧ RepK K B kvs kws
theorem ORep.mono {K : PySem.W.Frag} {B B' H H' : Hp} {o : O} {a : Addr} (h : ORep K B H o a) (e : Le B B') (eh : H' a = H a) : ORep K B' H' o a := by
  cases o with
  | lst xs =>
    obtain ⟨vs, h1, h2⟩ := h
    exact ⟨vs, eh.trans h1, h2.mono e⟩
  | dct kvs =>
    obtain ⟨vs, h1, h2⟩ := h
    exact ⟨vs, eh.trans h1, h2.mono e⟩
theorem ORep.there {K : PySem.W.Frag} {B H : Hp} {o : O} {a : Addr} (h : ORep K B H o a) : ∃ u, H a = some u := by
  cases o with
  | lst xs =>
    obtain ⟨vs, h1, h2⟩ := h
    exact ⟨_, h1⟩
  | dct kvs =>
    obtain ⟨vs, h1, h2⟩ := h
    exact ⟨_, h1⟩

/-- a slot: not set, data, owned (true: borrowed from the caller), the exception that is handled -/
inductive Sl where
  | un
  | dat (d : D)
  | own (b : Bool) (o : O)
  | exc (c : Nat) (fs : List (Str × D))

/-- the exception that is handled: its record, its class, its own dict -/
structure Hx where
  p : Addr × Obj
  C : Addr
  d : Addr

/-- what is fixed: the classes by number, the handled exception -/
structure G where
  cA : Nat → Addr
  Z : Option Hx

def SlOk (K : PySem.W.Frag) (g : G) (B H : Hp) : Sl → Option V → Prop
  | .un, _ => True
  | .dat d, x => ∃ v, x = some v ∧ Rep K B d v
  | .own _ o, x => ∃ a, x = some (.ref a) ∧ B a = none ∧ ORep K B H o a
  | .exc c fs, x => ∃ z vs, g.Z = some z ∧ x = some (.ref z.p.1) ∧ g.cA c = z.C ∧ B z.d = some (.xd vs) ∧ RepF K B fs vs

/-- a is the address of an owned slot -/
def Ow (σ : St) (δ : List Sl) (a : Addr) : Prop := ∃ (i : Nat) (b : Bool) (o : O), δ[i]? = some (.own b o) ∧ σ[i]? = some (some (.ref a))

structure EnvOk (K : PySem.W.Frag) (g : G) (B H : Hp) (σ : St) (δ : List Sl) : Prop where
  le : Le B H
  len : δ.length = σ.length
  at_ : ∀ (i : Nat) (s : Sl), δ[i]? = some s → SlOk K g B H s (σ[i]?.join)
  inj : ∀ (i j : Nat) (b : Bool) (o : O) (b' : Bool) (o' : O) (a : Addr), δ[i]? = some (.own b o) → δ[j]? = some (.own b' o') → σ[i]? = some (some (.ref a)) → σ[j]? = some (some (.ref a)) → i = j

structure Stp (B H : Hp) (σ : St) (δ : List Sl) (B' H' : Hp) (σ' : St) (δ' : List Sl) : Prop where
  b : Le B B'
  nb : ∀ a u, B' a = some u → B a = none → H a = none ∨ Ow σ δ a
  fr : ∀ a u, H a = some u → ¬ Ow σ δ a → H' a = some u
  ow : ∀ a, Ow σ' δ' a → Ow σ δ a ∨ H a = none
  br : ∀ (i : Nat) (o : O), δ[i]? = some (.own true o) → ∃ o', δ'[i]? = some (.own true o') ∧ σ'[i]? = σ[i]?

theorem Stp.refl {B H : Hp} {σ : St} {δ : List Sl} : Stp B H σ δ B H σ δ :=
  ⟨Le.refl B, fun a u h n => (by rw [h] at n; cases n), fun _ _ h _ => h, fun _ h => .inl h, fun i o h => ⟨o, h, rfl⟩⟩
theorem Stp.free {B H B' H' : Hp} {σ σ' : St} {δ δ' : List Sl} (s : Stp B H σ δ B' H' σ' δ') {a : Addr} (h : H' a = none) : H a = none ∨ Ow σ δ a := by
  cases q : H a with
  | none => exact .inl rfl
  | some u =>
    by_cases w : Ow σ δ a
    · exact .inr w
    · rw [s.fr a u q w] at h
      cases h
theorem Stp.back {B H B' H' : Hp} {σ σ' : St} {δ δ' : List Sl} (s : Stp B H σ δ B' H' σ' δ') {a : Addr} (h : H' a = none ∨ Ow σ' δ' a) : H a = none ∨ Ow σ δ a := by
  rcases h with h | h
  · exact s.free h
  · exact (s.ow a h).symm
theorem Stp.trans {B H B1 H1 B2 H2 : Hp} {σ σ1 σ2 : St} {δ δ1 δ2 : List Sl} (s : Stp B H σ δ B1 H1 σ1 δ1) (t : Stp B1 H1 σ1 δ1 B2 H2 σ2 δ2) : Stp B H σ δ B2 H2 σ2 δ2 := by
  refine ⟨s.b.trans t.b, fun a u h n => ?_, fun a u h n => ?_, fun a h => ?_, fun i o h => ?_⟩
  · cases q : B1 a with
    | some w => exact s.nb a w q n
    | none => exact s.back (t.nb a u h q)
  · refine t.fr a u (s.fr a u h n) fun w => ?_
    rcases s.ow a w with w | w
    · exact n w
    · rw [h] at w
      cases w
  · rcases t.ow a h with w | w
    · exact s.ow a w
    · exact (s.free w).symm
  · obtain ⟨o1, h1, e1⟩ := s.br i o h
    obtain ⟨o2, h2, e2⟩ := t.br i o1 h1
    exact ⟨o2, h2, e2.trans e1⟩

section
variable {K : PySem.W.Frag} {g : G} {B H B' H' : Hp} {σ : St} {δ : List Sl}
theorem EnvOk.slot (E : EnvOk K g B H σ δ) {i : Nat} {d : D} (h : δ[i]? = some (.dat d)) : ∃ v, σ[i]? = some (some v) ∧ Rep K B d v := by
  obtain ⟨v, e, r⟩ := E.at_ i _ h
  exact ⟨v, Option.join_eq_some_iff.mp e, r⟩
theorem EnvOk.owned (E : EnvOk K g B H σ δ) {i : Nat} {b : Bool} {o : O} (h : δ[i]? = some (.own b o)) : ∃ a, σ[i]? = some (some (.ref a)) ∧ B a = none ∧ ORep K B H o a := by
  obtain ⟨v, e, r⟩ := E.at_ i _ h
  exact ⟨v, Option.join_eq_some_iff.mp e, r⟩
theorem EnvOk.ow (E : EnvOk K g B H σ δ) {a : Addr} (h : Ow σ δ a) : B a = none ∧ ∃ u, H a = some u := by
  obtain ⟨i, b, o, h1, h2⟩ := h
  obtain ⟨c, e, n, r⟩ := E.owned h1
  rw [h2] at e
  cases e
  exact ⟨n, r.there⟩
/-- the heap grows, nothing owned changes -/
theorem EnvOk.grow (E : EnvOk K g B H σ δ) (hb : Le B B') (hh : Le H H') (hs : Le B' H') (hn : ∀ a u, B' a = some u → B a = none → H a = none) : EnvOk K g B' H' σ δ := by
  refine ⟨hs, E.len, fun i s h => ?_, E.inj⟩
  have q := E.at_ i s h
  cases s with
  | un => exact True.intro
  | dat d =>
    obtain ⟨v, e, r⟩ := q
    exact ⟨v, e, r.mono hb⟩
  | own b o =>
    obtain ⟨a, e, n, r⟩ := q
    obtain ⟨u, hu⟩ := r.there
    refine ⟨a, e, ?_, r.mono hb ((hh a u hu).trans hu.symm)⟩
    cases z : B' a with
    | none => rfl
    | some w =>
      rw [hn a w z n] at hu
      cases hu
  | exc c fs =>
    obtain ⟨z, vs, e1, e2, e3, e4, e5⟩ := q
    exact ⟨z, vs, e1, e2, e3, hb _ _ e4, e5.mono hb⟩
theorem Stp.grow (hb : Le B B') (hh : Le H H') (hn : ∀ a u, B' a = some u → B a = none → H a = none) : Stp B H σ δ B' H' σ δ :=
  ⟨hb, fun a u h n => .inl (hn a u h n), fun a u h _ => hh a u h, fun _ h => .inl h, fun i o h => ⟨o, h, rfl⟩⟩
theorem le_upd {H : Hp} {p : Addr} {o : HO} (h : H p = none) : Le H (upd H p o) := fun a u e => by
  rw [upd_ne (ne_of_none e h)]
  exact e
theorem le_none {B H : Hp} (l : Le B H) {p : Addr} (h : H p = none) : B p = none := by
  cases q : B p with
  | none => rfl
  | some u =>
    rw [l p u q] at h
    cases h
theorem le_both {B H : Hp} {p : Addr} {o : HO} (l : Le B H) (h : H p = none) : Le (upd B p o) (upd H p o) := fun a u e => by
  by_cases q : a = p
  · subst q
    rw [upd_same] at e ⊢
    exact e
  · rw [upd_ne q] at e ⊢
    exact l a u e
theorem new_upd {B H : Hp} {p : Addr} {o : HO} (h : H p = none) : ∀ a u, upd B p o a = some u → B a = none → H a = none := fun a u e n => by
  by_cases q : a = p
  · subst q
    exact h
  · rw [upd_ne q, n] at e
    cases e
/-- a new object that B knows -/
theorem EnvOk.alloc (E : EnvOk K g B H σ δ) {p : Addr} (o : HO) (h : H p = none) : EnvOk K g (upd B p o) (upd H p o) σ δ :=
  E.grow (le_upd (le_none E.le h)) (le_upd h) (le_both E.le h) (new_upd h)
theorem Stp.alloc (E : EnvOk K g B H σ δ) {p : Addr} {o : HO} (h : H p = none) : Stp B H σ δ (upd B p o) (upd H p o) σ δ :=
  Stp.grow (le_upd (le_none E.le h)) (le_upd h) (new_upd h)
/-- a new object that B does not know -/
theorem EnvOk.allocN (E : EnvOk K g B H σ δ) {p : Addr} (o : HO) (h : H p = none) : EnvOk K g B (upd H p o) σ δ :=
  E.grow (Le.refl B) (le_upd h) (E.le.trans (le_upd h)) fun a u e n => by rw [n] at e; cases e
theorem Stp.allocN {p : Addr} {o : HO} (h : H p = none) : Stp B H σ δ B (upd H p o) σ δ :=
  Stp.grow (Le.refl B) (le_upd h) fun a u e n => by rw [n] at e; cases e
theorem EnvOk.notOw (E : EnvOk K g B H σ δ) {p : Addr} (h : H p = none) : ¬ Ow σ δ p := fun w => by
  obtain ⟨_, u, e⟩ := E.ow w
  rw [h] at e
  cases e
end
end VS
end

section
set_option Elab.async false
set_option linter.all false
set_option maxRecDepth 100000
/-! VS, part 2: results, what is wanted behind them (Post), the readings of expressions, tests, arguments, statements. -/
namespace VS
open PySem L2

inductive Res (α : Type) where
  | ok (a : α) (δ : List Sl)
  | exc (c : Nat) (fs : List (Str × D)) (δ : List Sl)
  | stuck
def Res.bind {α β : Type} (r : Res α) (k : α → List Sl → Res β) : Res β :=
  match r with
  | .ok a δ => k a δ
  | .exc c fs δ => .exc c fs δ
  | .stuck => .stuck
abbrev Den (α : Type) := List Sl → Res α
def Res.lift {α : Type} (o : Option α) (δ : List Sl) : Res α :=
  match o with
  | some a => .ok a δ
  | none => .stuck

/-- an exception of the class c: C its class, d its own dict -/
def ExcAt (K : PySem.W.Frag) (g : G) (B : Hp) (c : Nat) (fs : List (Str × D)) (C d : Addr) : Prop := g.cA c = C ∧ ∃ vs, B d = some (.xd vs) ∧ RepF K B fs vs

def Post {α : Type} (K : PySem.W.Frag) (g : G) (W : WX) (B H : Hp) (σ : St) (δ : List Sl) (r : Res α) (P : Hp → Hp → List Sl → α → Prop) : Prop :=
  match r with
  | .ok a δ' => ∀ B' H', EnvOk K g B' H' σ δ' → Stp B H σ δ B' H' σ δ' → P B' H' δ' a
  | .exc c fs δ' => ∀ B' H' C d, EnvOk K g B' H' σ δ' → Stp B H σ δ B' H' σ δ' → ExcAt K g B' c fs C d → W (.ref C) (some d) σ H'
  | .stuck => False

section
variable {α β : Type} {K : PySem.W.Frag} {g : G} {W : WX} {B H B1 H1 : Hp} {σ : St} {δ δ1 : List Sl}
theorem Post.bind {r : Res α} {k : α → List Sl → Res β} {P : Hp → Hp → List Sl → β → Prop} (h : Post K g W B H σ δ (r.bind k) P) :
    Post K g W B H σ δ r (fun B1 H1 δ1 a => Post K g W B1 H1 σ δ1 (k a δ1) P) := by
  cases r with
  | stuck => exact h
  | exc c fs δ' => exact h
  | ok a δ1 =>
    intro B1 H1 E1 S1
    have h : Post K g W B H σ δ (k a δ1) P := h
    revert h
    cases k a δ1 with
    | stuck => exact id
    | exc c fs δ' => exact fun h B' H' C d E2 S2 x => h B' H' C d E2 (S1.trans S2) x
    | ok b δ2 => exact fun h B' H' E2 S2 => h B' H' E2 (S1.trans S2)
theorem Post.bind' {r : Res α} {k : α → List Sl → Res β} {P : Hp → Hp → List Sl → β → Prop} (h : Post K g W B H σ δ (r.bind k) P) : Post K g W B H σ δ r (fun _ _ δ1 a => Post K g W B H σ δ (k a δ1) P) := by
  cases r with
  | stuck => exact h
  | exc c fs δ1 => exact h
  | ok a δ1 => exact fun B' H' E' S' => h
theorem Post.mono {r : Res α} {P P' : Hp → Hp → List Sl → α → Prop} (h : Post K g W B H σ δ r P) (i : ∀ B' H' δ' a, EnvOk K g B' H' σ δ' → Stp B H σ δ B' H' σ δ' → P B' H' δ' a → P' B' H' δ' a) : Post K g W B H σ δ r P' := by
  cases r with
  | stuck => exact h
  | exc c fs δ' => exact h
  | ok a δ1 => exact fun B1 H1 E1 S1 => i B1 H1 δ1 a E1 S1 (h B1 H1 E1 S1)
theorem Post.lift {o : Option α} {P : Hp → Hp → List Sl → α → Prop} (h : Post K g W B H σ δ (.lift o δ1) P) : ∃ a, o = some a ∧ Post K g W B H σ δ (.ok a δ1) P := by
  cases o with
  | none => exact False.elim h
  | some a => exact ⟨a, rfl, h⟩
/-- at once -/
theorem Post.here {a : α} {P : Hp → Hp → List Sl → α → Prop} (h : Post K g W B H σ δ (.ok a δ) P) (E : EnvOk K g B H σ δ) : P B H δ a := h B H E .refl
end

/-! ### readings -/
/-- f's denotation, its value a's relation to what is got, from the heap at the start -/
def tX {α β : Type} (K : PySem.W.Frag) (g : G) (W : WX) (Rl : Hp → St → List Sl → Hp → Hp → List Sl → α → β → Prop) (f : Den α) : St → Hp → (β → Hp → Prop) → Prop := fun σ H Q =>
  ∃ B δ, EnvOk K g B H σ δ ∧ Post K g W B H σ δ (f δ) (fun B' H' δ' a => ∀ v, Rl H σ δ B' H' δ' a v → Q v H')
/-- data -/
abbrev RlD (K : PySem.W.Frag) : Hp → St → List Sl → Hp → Hp → List Sl → D → V → Prop := fun _ _ _ B' _ _ d v => Rep K B' d v
/-- a truth value -/
abbrev RlB : Hp → St → List Sl → Hp → Hp → List Sl → Bool → Bool → Prop := fun _ _ _ _ _ _ b c => c = b
/-- data, one after the other -/
abbrev RlA (K : PySem.W.Frag) : Hp → St → List Sl → Hp → Hp → List Sl → List D → List V → Prop := fun _ _ _ B' _ _ ds vs => RepL K B' ds vs
/-- something new, owned by nobody yet -/
def RlN (K : PySem.W.Frag) : Hp → St → List Sl → Hp → Hp → List Sl → O → V → Prop := fun H σ δ B' H' δ' o v => ∃ a, v = .ref a ∧ B' a = none ∧ ORep K B' H' o a ∧ ¬ Ow σ δ' a ∧ (H a = none ∨ Ow σ δ a)

abbrev OE (X : Cx) (g : G) (W : WX) (e : Expr) (f : Den D) : Prop := PE X e (tX X.K g W (RlD X.K) f)
abbrev ON (X : Cx) (g : G) (W : WX) (e : Expr) (f : Den O) : Prop := PE X e (tX X.K g W (RlN X.K) f)
abbrev OT (X : Cx) (g : G) (W : WX) (e : Expr) (f : Den Bool) : Prop := PT X e (tX X.K g W RlB f)
abbrev OA (X : Cx) (g : G) (W : WX) (es : List Expr) (f : Den (List D)) : Prop := PA X es (tX X.K g W (RlA X.K) f)

theorem pe_imp {X : Cx} {e : Expr} {t t' : TE} (h : PE X e t) (i : ∀ σ H Q, t' σ H Q → t σ H Q) : PE X e t' := ⟨fun pins s σ H Q I q => h.run pins s σ H Q I (i σ H Q q)⟩
/-- something that may change is locked for good -/
def tGh (t : TE) : TE := fun σ H Q => t σ H fun v H' => Q v H' ∨ ∃ d u, H' d = some u ∧ Mut (some u) ∧ ∀ od, Q v (upd H' d (.frz od u))
theorem pe_gh {X : Cx} {e : Expr} {t : TE} (h : PE X e t) : PE X e (tGh t) := ⟨fun pins s σ H Q I hw => thn (h.run pins s σ H _ I hw) fun v s1 ⟨x, H1, I1, r, q⟩ => by
  rcases q with q | ⟨d, u, hd, mu, q⟩
  · exact ⟨x, H1, I1, r, q⟩
  · obtain ⟨od, I2⟩ := I1.lock hd mu
    exact ⟨x, _, I2, r, q od⟩⟩
theorem pt_imp {X : Cx} {e : Expr} {t t' : TT} (h : PT X e t) (i : ∀ σ H Q, t' σ H Q → t σ H Q) : PT X e t' := ⟨fun pins s σ H Q I q => h.run pins s σ H Q I (i σ H Q q)⟩
theorem pa_imp {X : Cx} {e : List Expr} {t t' : TA} (h : PA X e t) (i : ∀ σ H Q, t' σ H Q → t σ H Q) : PA X e t' := ⟨fun p pins s σ H Q I q => h.run p pins s σ H Q I (i σ H Q q)⟩
theorem ps_imp {X : Cx} {e : Stmt} {t t' : TS} (h : PS X e t) (i : ∀ D σ H, t' D σ H → t D σ H) : PS X e t' := ⟨fun pins s σ H D I q => h.run pins s σ H D I (i D σ H q)⟩
theorem pss_imp {X : Cx} {e : List Stmt} {t t' : TS} (h : PSs X e t) (i : ∀ D σ H, t' D σ H → t D σ H) : PSs X e t' := ⟨fun pins s σ H D I q => h.run pins s σ H D I (i D σ H q)⟩

/-- the use of a reading: from the state, with what is wanted behind it -/
theorem tX.use {α β : Type} {K : PySem.W.Frag} {g : G} {W : WX} {Rl : Hp → St → List Sl → Hp → Hp → List Sl → α → β → Prop} {f : Den α} {σ : St} {B H : Hp} {δ : List Sl} {Q : β → Hp → Prop} (E : EnvOk K g B H σ δ)
    (h : Post K g W B H σ δ (f δ) (fun B' H' δ' a => ∀ v, Rl H σ δ B' H' δ' a v → Q v H')) : tX K g W Rl f σ H Q := ⟨B, δ, E, h⟩

/-! ### statements -/
inductive Rv where
  | dat (d : D)
  | new (o : O)
inductive Fl where
  | nxt
  | brk
  | cnt
  | ret (r : Rv)
def RvOk (K : PySem.W.Frag) (H : Hp) (σ : St) (δ : List Sl) (B' H' : Hp) (σ' : St) (δ' : List Sl) : Rv → V → Prop
  | .dat d, v => Rep K B' d v
  | .new o, v => ∃ a, v = .ref a ∧ B' a = none ∧ ORep K B' H' o a ∧ (∀ (i : Nat) (u : O), δ'[i]? = some (.own true u) → σ'[i]? ≠ some (some (.ref a))) ∧ (H a = none ∨ Ow σ δ a)
def PostS (K : PySem.W.Frag) (g : G) (W : WX) (B H : Hp) (σ : St) (δ : List Sl) (r : Res Fl) (D : Ends) : Prop :=
  match r with
  | .ok .nxt δ' => ∀ B' H' σ', EnvOk K g B' H' σ' δ' → Stp B H σ δ B' H' σ' δ' → D.nx σ' H'
  | .ok .brk δ' => ∀ B' H' σ', EnvOk K g B' H' σ' δ' → Stp B H σ δ B' H' σ' δ' → D.bk σ' H'
  | .ok .cnt δ' => ∀ B' H' σ', EnvOk K g B' H' σ' δ' → Stp B H σ δ B' H' σ' δ' → D.ct σ' H'
  | .ok (.ret r) δ' => ∀ B' H' σ' v, EnvOk K g B' H' σ' δ' → Stp B H σ δ B' H' σ' δ' → RvOk K H σ δ B' H' σ' δ' r v → D.rt v H'
  | .exc c fs δ' => ∀ B' H' σ' C d, EnvOk K g B' H' σ' δ' → Stp B H σ δ B' H' σ' δ' → ExcAt K g B' c fs C d → W (.ref C) (some d) σ' H'
  | .stuck => False
def tS (K : PySem.W.Frag) (g : G) (W : WX) (f : Den Fl) : TS := fun D σ H => ∃ B δ, EnvOk K g B H σ δ ∧ PostS K g W B H σ δ (f δ) D
abbrev OS (X : Cx) (g : G) (W : WX) (st : Stmt) (f : Den Fl) : Prop := PS X st (tS X.K g W f)
abbrev OSs (X : Cx) (g : G) (W : WX) (st : List Stmt) (f : Den Fl) : Prop := PSs X st (tS X.K g W f)

/-- on to what follows -/
def Res.next (r : Res Fl) (k : List Sl → Res Fl) : Res Fl :=
  match r with
  | .ok .nxt δ => k δ
  | r => r
section
variable {K : PySem.W.Frag} {g : G} {W : WX} {B H B1 H1 : Hp} {σ σ1 : St} {δ δ1 : List Sl} {D : Ends}
/-- from a later state back to an earlier one -/
theorem PostS.back {r : Res Fl} (h : PostS K g W B H σ δ r D) (S : Stp B H σ δ B1 H1 σ1 δ1) : PostS K g W B1 H1 σ1 δ1 r D := by
  cases r with
  | stuck => exact h
  | exc c fs δ' => exact fun B' H' σ' C d E2 S2 x => h B' H' σ' C d E2 (S.trans S2) x
  | ok a δ' =>
    cases a with
    | nxt => exact fun B' H' σ' E2 S2 => h B' H' σ' E2 (S.trans S2)
    | brk => exact fun B' H' σ' E2 S2 => h B' H' σ' E2 (S.trans S2)
    | cnt => exact fun B' H' σ' E2 S2 => h B' H' σ' E2 (S.trans S2)
    | ret rv =>
      refine fun B' H' σ' v E2 S2 x => h B' H' σ' v E2 (S.trans S2) ?_
      cases rv with
      | dat d => exact x
      | new o =>
        obtain ⟨a, h1, h2, h3, h4, h5⟩ := x
        exact ⟨a, h1, h2, h3, h4, S.back h5⟩
theorem PostS.seq {r : Res Fl} {k : Den Fl} (h : PostS K g W B H σ δ (r.next k) D) : PostS K g W B H σ δ r { D with nx := fun σ' H' => ∃ B' δ', EnvOk K g B' H' σ' δ' ∧ PostS K g W B' H' σ' δ' (k δ') D } := by
  cases r with
  | stuck => exact h
  | exc c fs δ' => exact h
  | ok a δ' =>
    cases a with
    | brk => exact h
    | cnt => exact h
    | ret rv => exact h
    | nxt =>
      intro B' H' σ' E2 S2
      have h : PostS K g W B H σ δ (k δ') D := h
      exact ⟨B', δ', E2, h.back S2⟩
theorem PostS.ends {r : Res Fl} {D' : Ends} (h : PostS K g W B H σ δ r D) (h1 : ∀ σ H, D.nx σ H → D'.nx σ H) (h2 : ∀ v H, D.rt v H → D'.rt v H) (h3 : ∀ σ H, D.bk σ H → D'.bk σ H) (h4 : ∀ σ H, D.ct σ H → D'.ct σ H) : PostS K g W B H σ δ r D' := by
  cases r with
  | stuck => exact h
  | exc c fs δ' => exact h
  | ok a δ' =>
    cases a with
    | nxt => exact fun B' H' σ' E2 S2 => h1 _ _ (h B' H' σ' E2 S2)
    | brk => exact fun B' H' σ' E2 S2 => h3 _ _ (h B' H' σ' E2 S2)
    | cnt => exact fun B' H' σ' E2 S2 => h4 _ _ (h B' H' σ' E2 S2)
    | ret rv => exact fun B' H' σ' v E2 S2 x => h2 _ _ (h B' H' σ' v E2 S2 x)
/-- behind an expression -/
theorem PostS.bind {α : Type} {r : Res α} {k : α → List Sl → Res Fl} (h : PostS K g W B H σ δ (r.bind k) D) : Post K g W B H σ δ r (fun B1 H1 δ1 a => PostS K g W B1 H1 σ δ1 (k a δ1) D) := by
  cases r with
  | stuck => exact h
  | exc c fs δ' => exact fun B' H' C d E2 S2 x => h B' H' σ C d E2 S2 x
  | ok a δ1 =>
    intro B1 H1 E1 S1
    have h : PostS K g W B H σ δ (k a δ1) D := h
    exact h.back S1
end

/-- room for k calls, one in another -/
structure RoomZ (Z : Option Hx) (k : Nat) (A : Around) : Prop where
  calm : Z = none → Room k A
  hot : Z ≠ none → L2H.RoomH k A
  gd : A.guards = some []
theorem RoomZ.mono {Z : Option Hx} {j k : Nat} {A : Around} (r : RoomZ Z k A) (h : j ≤ k) : RoomZ Z j A := ⟨fun z => (r.calm z).mono h, fun z => (r.hot z).mono h, r.gd⟩
theorem RoomZ.un {Z : Option Hx} {k : Nat} {A : Around} (r : RoomZ Z k A) : A.units + 64 < cLine := by
  cases Z with
  | none => exact (r.calm rfl).units
  | some z =>
    have q := (r.hot (by intro h; cases h)).un
    omega
/-- the context of a def's body, of a suite -/
structure CtxOk (k : Nat) (g : G) (W : WX) (X : Cx) : Prop where
  nd : X.N.Nodup
  tk : L2N.Takes X W
  po : PassesOwn (model X.prog X.w) X.A X.env X.xe
  calm : g.Z = none → X.calm = true
  hot : ∀ z, g.Z = some z → L2H.Hot1 X.A z.p ∧ z.p ∈ X.pn ∧ Zc (.ref z.C) (some z.d) z.p.2
  room : RoomZ g.Z k X.A
theorem CtxOk.un {k : Nat} {g : G} {W : WX} {X : Cx} (c : CtxOk k g W X) : X.A.units + 64 < cLine := c.room.un
end VS
end

section
set_option Elab.async false
set_option linter.all false
set_option maxRecDepth 100000
/-! VS, part 3: expressions. -/
namespace VS
open PySem L2

/-! ### slots read -/
def dVar (i : Nat) : Den D := fun δ =>
  match δ[i]? with
  | some (.dat d) => .ok d δ
  | some (.own false o) => .ok o.toD (δ.set i (.dat o.toD))
  | _ => .stuck
section
variable {K : PySem.W.Frag} {g : G} {W : WX} {B H B1 H1 : Hp} {σ σ1 : St} {δ δ1 : List Sl} {D : Ends}
theorem SlOk.more {B' : Hp} {s : Sl} {x : Option V} (h : SlOk K g B H s x) (le : Le B B') (n : ∀ b o a, s = .own b o → x = some (.ref a) → B' a = none) : SlOk K g B' H s x := by
  cases s with
  | un => exact True.intro
  | dat d =>
    obtain ⟨v, e, r⟩ := h
    exact ⟨v, e, r.mono le⟩
  | own b o =>
    obtain ⟨a, e, m, r⟩ := h
    exact ⟨a, e, n b o a rfl e, r.mono le rfl⟩
  | exc c fs =>
    obtain ⟨z, vs, e1, e2, e3, e4, e5⟩ := h
    exact ⟨z, vs, e1, e2, e3, le _ _ e4, e5.mono le⟩
theorem set_get {α : Type} {l : List α} {i j : Nat} {x y : α} (h : (l.set i x)[j]? = some y) : (i = j ∧ y = x) ∨ (i ≠ j ∧ l[j]? = some y) := by
  by_cases e : i = j
  · subst e
    by_cases hl : i < l.length
    · rw [List.getElem?_set_self hl] at h
      exact .inl ⟨rfl, (Option.some.inj h).symm⟩
    · rw [List.getElem?_eq_none (by simpa using hl)] at h
      cases h
  · rw [List.getElem?_set_ne e] at h
    exact .inr ⟨e, h⟩
theorem set_same {α : Type} {l : List α} {i : Nat} {x y : α} (h : l[i]? = some y) : (l.set i x)[i]? = some x :=
  List.getElem?_set_self (List.getElem?_eq_some_iff.mp h).1
/-- an owned slot is given up: from now on data -/
theorem EnvOk.freeze (E : EnvOk K g B H σ δ) {i : Nat} {o : O} {a : Addr} {u : HO} {H' : Hp} (h : δ[i]? = some (.own false o)) (e : σ[i]? = some (some (.ref a))) (n : B a = none) (hu : H' a = some u) (hH : ∀ c, c ≠ a → H' c = H c)
    (rp : Rep K (upd B a u) o.toD (.ref a)) : EnvOk K g (upd B a u) H' σ (δ.set i (.dat o.toD)) ∧ Stp B H σ δ (upd B a u) H' σ (δ.set i (.dat o.toD)) := by
  have le : Le B (upd B a u) := le_upd n
  have leH : Le (upd B a u) H' := fun c w q => by
    by_cases z : c = a
    · subst z
      rw [upd_same] at q
      rw [hu]
      exact q
    · rw [upd_ne z] at q
      rw [hH c z]
      exact E.le c w q
  have ow : ∀ c, Ow σ (δ.set i (.dat o.toD)) c → Ow σ δ c := fun c ⟨j, b, p, h1, h2⟩ => by
    rcases set_get h1 with ⟨_, q⟩ | ⟨_, q⟩
    · cases q
    · exact ⟨j, b, p, q, h2⟩
  refine ⟨⟨leH, by rw [List.length_set]; exact E.len, fun j s hs => ?_, fun j k b p b' p' c h1 h2 => ?_⟩, ⟨le, fun c w h1 h2 => ?_, fun c w q nw => ?_, fun c q => .inl (ow c q), fun j p hj => ?_⟩⟩
  · rcases set_get hs with ⟨e1, q⟩ | ⟨e1, q⟩
    · subst e1 q
      exact ⟨.ref a, by rw [e]; rfl, rp⟩
    · have k := E.at_ j s q
      cases s with
      | un => exact True.intro
      | dat d =>
        obtain ⟨v, e2, r⟩ := k
        exact ⟨v, e2, r.mono le⟩
      | exc c fs =>
        obtain ⟨z, vs, k1, k2, k3, k4, k5⟩ := k
        exact ⟨z, vs, k1, k2, k3, le _ _ k4, k5.mono le⟩
      | own b p =>
        obtain ⟨c, e2, n2, r⟩ := k
        have ne : c ≠ a := fun z => e1 (E.inj i j _ _ _ _ a h q e (by rw [Option.join_eq_some_iff.mp e2, z]))
        exact ⟨c, e2, by rw [upd_ne ne]; exact n2, r.mono le (hH c ne)⟩
  · rcases set_get h1 with ⟨_, q⟩ | ⟨_, q⟩
    · cases q
    · rcases set_get h2 with ⟨_, q2⟩ | ⟨_, q2⟩
      · cases q2
      · exact E.inj j k _ _ _ _ c q q2
  · by_cases z : c = a
    · subst z
      exact .inr ⟨i, false, o, h, e⟩
    · rw [upd_ne z, h2] at h1
      cases h1
  · rw [hH c fun z => nw ⟨i, false, o, h, by rw [z]; exact e⟩]
    exact q
  · by_cases z : i = j
    · subst z
      rw [h] at hj
      cases hj
    · exact ⟨p, by rw [List.getElem?_set_ne z]; exact hj, rfl⟩
end

section
variable {X : Cx} {g : G} {W : WX} {a b c e : Expr} {f k l : Den D} {pos : Pos}
theorem o_var (i : Nat) {x : Str} (hN : X.N[i]? = some x := by rfl) (hv : Vis X.env.scope x := by first | exact Or.inl rfl | exact Or.inr (Or.inl rfl) | exact Or.inr (Or.inr rfl)) (hd : (x == ("__debug__" : Str)) = false := by decide)
    (hcd : (x == ("__classdict__" : Str)) = false := by decide) : OE X g W (.Name x pos) (dVar i) := by
  refine pe_imp (pe_gh (pe_var hN hv hd hcd)) fun σ H Q ⟨B, δ, E, p⟩ => ?_
  unfold dVar at p
  cases h : δ[i]? with
  | none =>
    rw [h] at p
    exact False.elim p
  | some s =>
    rw [h] at p
    cases s with
    | un => exact False.elim p
    | exc c fs => exact False.elim p
    | dat d =>
      obtain ⟨v, e1, r⟩ := E.slot h
      exact ⟨v, e1, .inl (p B H E .refl v r)⟩
    | own b o =>
      cases b with
      | true => exact False.elim p
      | false =>
        obtain ⟨a, e1, n, r⟩ := E.owned h
        cases o with
        | lst xs =>
          obtain ⟨vs, h1, h2⟩ := r
          have rp : Rep X.K (upd B a (.lst vs)) (O.lst xs).toD (.ref a) := ⟨a, vs, rfl, upd_same, h2.mono (le_upd n)⟩
          obtain ⟨E', S'⟩ := E.freeze (H' := H) h e1 n h1 (fun _ _ => rfl) rp
          exact ⟨.ref a, e1, .inl (p _ H E' S' _ rp)⟩
        | dct kvs =>
          obtain ⟨vs, h1, h2⟩ := r
          refine ⟨.ref a, e1, .inr ⟨a, .dK vs, h1, True.intro, fun od => ?_⟩⟩
          have rp : Rep X.K (upd B a (.frz od (.dK vs))) (O.dct kvs).toD (.ref a) := ⟨a, vs, rfl, ⟨od, upd_same⟩, h2.mono (le_upd n)⟩
          obtain ⟨E', S'⟩ := E.freeze (H' := upd H a (.frz od (.dK vs))) h e1 n upd_same (fun c z => upd_ne z) rp
          exact p _ _ E' S' _ rp
def dC (d : D) : Den D := fun δ => .ok d δ
theorem o_c {e : Expr} {v : V} {d : D} (h : PE X e (tC v)) (r : ∀ B, Rep X.K B d v) : OE X g W e (dC d) :=
  pe_imp h fun σ H Q ⟨B, δ, E, p⟩ => p B H E .refl v (r B)
theorem o_int {i : Int} {j} : OE X g W (.Constant (.int i) j pos) (dC (.int i)) := o_c pe_int fun _ => rfl
theorem o_bl {i : Bool} {j} : OE X g W (.Constant (.bool i) j pos) (dC (.bl i)) := o_c pe_bl fun _ => rfl
theorem o_non {j} : OE X g W (.Constant .none j pos) (dC .non) := o_c pe_non fun _ => rfl
theorem o_str {i : Str} {j} : OE X g W (.Constant (.str i) j pos) (dC (.str i)) := o_c pe_str fun _ => rfl
/-- a constant of the module -/
theorem o_glob {x : Str} {v : V} {u : Value} {d : D} (hg : Gl X x) (hm : X.mg x = some u) (r : RelV v u) (h : ∀ B, Rep X.K B d v) (hd : (x == ("__debug__" : Str)) = false := by decide) : OE X g W (.Name x pos) (dC d) := o_c (pe_glob hg hm r hd) h

/-! ### two places -/
def dOp (fn : D → D → Option D) (f k : Den D) : Den D := fun δ => (f δ).bind fun x δ1 => (k δ1).bind fun y δ2 => .lift (fn x y) δ2
/-- what an operation by values must grant -/
def Ok2 (K : PySem.W.Frag) (r : R2) (fn : D → D → Option D) : Prop := ∀ (g : G) (B H : Hp) (σ : St) (δ : List Sl) (x y : V) (d e z : D) (Q : VK), EnvOk K g B H σ δ → Rep K B d x → Rep K B e y → fn d e = some z →
  (∀ B' H' v, EnvOk K g B' H' σ δ → Stp B H σ δ B' H' σ δ → Rep K B' z v → Q v H') → r x y H Q
theorem tOp_of {r : R2} {fn : D → D → Option D} (hr : Ok2 X.K r fn) (σ : St) (H : Hp) (Q : VK) (h : tX X.K g W (RlD X.K) (dOp fn f k) σ H Q) : tOp r (tX X.K g W (RlD X.K) f) (tX X.K g W (RlD X.K) k) σ H Q := by
  obtain ⟨B, δ, E, p⟩ := h
  refine ⟨B, δ, E, p.bind.mono fun B1 H1 δ1 x E1 S1 p1 v rv => ⟨B1, δ1, E1, p1.bind.mono fun B2 H2 δ2 y E2 S2 p2 u ru => ?_⟩⟩
  obtain ⟨z, hz, q⟩ := p2.lift
  exact hr g B2 H2 σ δ2 v u x y z Q E2 (rv.mono S2.b) ru hz fun B' H' w E3 S3 => q B' H' E3 S3 w
theorem o_op {op : Operator} {r : R2} {fn : D → D → Option D} (ho : OpR X (binaryOp op) r) (hr : Ok2 X.K r fn) (ha : OE X g W a f) (hb : OE X g W b k) : OE X g W (.BinOp a op b pos) (dOp fn f k) :=
  pe_imp (pe_op ho ha hb) fun σ H Q h => tOp_of hr σ H Q h
theorem o_cmp {op : CmpOp} {r : R2} {fn : D → D → Option D} (ho : OpR X (compareOp op) r) (hr : Ok2 X.K r fn) (ha : OE X g W a f) (hb : OE X g W b k) (hm : behindInMarks op b = false) : OE X g W (.Compare a [op] [b] pos) (dOp fn f k) :=
  pe_imp (pe_cmpR ho ha hb hm) fun σ H Q h => tOp_of hr σ H Q h
/-- a value that is True or False, as a test -/
def dTest (f : Den D) : Den Bool := fun δ => (f δ).bind fun x δ1 => match x with
  | .bl b => .ok b δ1
  | _ => .stuck
theorem tX_test {σ : St} {H : Hp} {Q : Bool → Hp → Prop} (h : tX X.K g W RlB (dTest f) σ H Q) : tX X.K g W (RlD X.K) f σ H (fun x H' => ∃ k, x = .bl k ∧ Q k H') := by
  obtain ⟨B, δ, E, p⟩ := h
  refine ⟨B, δ, E, p.bind.mono fun B1 H1 δ1 x E1 S1 p1 v rv => ?_⟩
  cases x with
  | bl b => exact ⟨b, rv, p1 B1 H1 E1 .refl b rfl⟩
  | _ => exact False.elim p1
theorem ot_cmp {op : CmpOp} {r : R2} {fn : D → D → Option D} (ho : OpR X (compareOp op) r) (hr : Ok2 X.K r fn) (ha : OE X g W a f) (hb : OE X g W b k) (hm : behindInMarks op b = false) : OT X g W (.Compare a [op] [b] pos) (dTest (dOp fn f k)) :=
  pt_imp (pt_cmpR ho ha hb hm) fun σ H Q h => tOp_of hr σ H _ (tX_test h)
/-- any other expression whose value is True or False -/
theorem ot_val (h : OE X g W e f) (he : ∀ whole, isTrue e X.env whole = (do let v ← whole; standAt e.pos; holding [v] (truthy v)) := by intro _; rfl) : OT X g W e (dTest f) :=
  pt_imp (pt_val h he) fun σ H Q h => tX_test h
/-- a op b op c -/
def dChain (fn fn' : D → D → Option D) (f k l : Den D) : Den D := fun δ => (f δ).bind fun x δ1 => (k δ1).bind fun y δ2 => (Res.lift (fn x y) δ2).bind fun z δ3 => match z with
  | .bl true => (l δ3).bind fun w δ4 => .lift (fn' y w) δ4
  | .bl false => .ok (.bl false) δ3
  | _ => .stuck
theorem tChain_of {r r' : R2} {fn fn' : D → D → Option D} (hr : Ok2 X.K r fn) (hr' : Ok2 X.K r' fn') (σ : St) (H : Hp) (Q : VK) (h : tX X.K g W (RlD X.K) (dChain fn fn' f k l) σ H Q) :
    tChain r r' (tX X.K g W (RlD X.K) f) (tX X.K g W (RlD X.K) k) (tX X.K g W (RlD X.K) l) σ H Q := by
  obtain ⟨B, δ, E, p⟩ := h
  refine ⟨B, δ, E, p.bind.mono fun B1 H1 δ1 x E1 S1 p1 v rv => ⟨B1, δ1, E1, p1.bind.mono fun B2 H2 δ2 y E2 S2 p2 u ru => ?_⟩⟩
  obtain ⟨z, hz, q⟩ := p2.bind.lift
  refine hr g B2 H2 σ δ2 v u x y z _ E2 (rv.mono S2.b) ru hz fun B3 H3 w E3 S3 rw' => ?_
  have q3 := q B3 H3 E3 S3
  cases z with
  | bl b =>
    refine ⟨b, rw', ?_⟩
    cases b with
    | false =>
      rw [if_neg Bool.false_ne_true]
      exact q3 B3 H3 E3 .refl _ rfl
    | true =>
      rw [if_pos rfl]
      refine ⟨B3, δ2, E3, q3.bind.mono fun B4 H4 δ4 t E4 S4 p4 s rs => ?_⟩
      obtain ⟨z', hz', q'⟩ := p4.lift
      exact hr' g B4 H4 σ δ4 u s y t z' Q E4 (ru.mono (S3.trans S4).b) rs hz' fun B' H' w E5 S5 => q' B' H' E5 S5 w
  | _ => exact False.elim q3
theorem o_chain {op op' : CmpOp} {r r' : R2} {fn fn' : D → D → Option D} (ho : OpR X (compareOp op) r) (ho' : OpR X (compareOp op') r') (hr : Ok2 X.K r fn) (hr' : Ok2 X.K r' fn') (ha : OE X g W a f) (hb : OE X g W b k) (hc : OE X g W c l)
    (hm : lastMarks [op, op'] [b, c] = false := by with_unfolding_all rfl) : OE X g W (.Compare a [op, op'] [b, c] pos) (dChain fn fn' f k l) :=
  pe_imp (pe_chain ho ho' ha hb hc hm) fun σ H Q h => tChain_of hr hr' σ H Q h
theorem ot_chain {op op' : CmpOp} {r r' : R2} {fn fn' : D → D → Option D} (ho : OpR X (compareOp op) r) (ho' : OpR X (compareOp op') r') (hr : Ok2 X.K r fn) (hr' : Ok2 X.K r' fn') (ha : OE X g W a f) (hb : OE X g W b k) (hc : OE X g W c l)
    (hm : lastMarks [op, op'] [b, c] = false := by with_unfolding_all rfl) : OT X g W (.Compare a [op, op'] [b, c] pos) (dTest (dChain fn fn' f k l)) :=
  pt_imp (pt_chain ho ho' ha hb hc hm) fun σ H Q h => tChain_of hr hr' σ H _ (tX_test h)

/-! ### and, or, not -/
def dAnd (f k : Den Bool) : Den Bool := fun δ => (f δ).bind fun b δ1 => match b with
  | true => k δ1
  | false => .ok false δ1
def dOr (f k : Den Bool) : Den Bool := fun δ => (f δ).bind fun b δ1 => match b with
  | true => .ok true δ1
  | false => k δ1
def dNot (f : Den Bool) : Den Bool := fun δ => (f δ).bind fun b δ1 => .ok (!b) δ1
abbrev OW (X : Cx) (g : G) (W : WX) (e : Expr) (f : Den Bool) : Prop := PW X e (tX X.K g W RlB f)
theorem pw_imp {X : Cx} {e : Expr} {t t' : TT} (h : PW X e t) (i : ∀ σ H Q, t' σ H Q → t σ H Q) : PW X e t' := ⟨fun wh pins s σ H Q I q => h.run wh pins s σ H Q I (i σ H Q q)⟩
variable {t u : Den Bool} {rest : List Expr}
theorem ow_and1 (h : OT X g W a t) : OW X g W (.BoolOp .And [a] pos) t := pw_and1 h
theorem ow_or1 (h : OT X g W a t) : OW X g W (.BoolOp .Or [a] pos) t := pw_or1 h
theorem ow_and (h : OT X g W a t) (h2 : OW X g W (.BoolOp .And (b :: rest) pos) u) : OW X g W (.BoolOp .And (a :: b :: rest) pos) (dAnd t u) := by
  refine pw_imp (pw_and h h2) fun σ H Q ⟨B, δ, E, p⟩ => ⟨B, δ, E, p.bind.mono fun B1 H1 δ1 x E1 S1 p1 v rv => ?_⟩
  subst rv
  cases v with
  | true =>
    rw [if_pos rfl]
    exact ⟨B1, δ1, E1, p1⟩
  | false =>
    rw [if_neg Bool.false_ne_true]
    exact p1 B1 H1 E1 .refl false rfl
theorem ow_or (h : OT X g W a t) (h2 : OW X g W (.BoolOp .Or (b :: rest) pos) u) : OW X g W (.BoolOp .Or (a :: b :: rest) pos) (dOr t u) := by
  refine pw_imp (pw_or h h2) fun σ H Q ⟨B, δ, E, p⟩ => ⟨B, δ, E, p.bind.mono fun B1 H1 δ1 x E1 S1 p1 v rv => ?_⟩
  subst rv
  cases v with
  | true =>
    rw [if_pos rfl]
    exact p1 B1 H1 E1 .refl true rfl
  | false =>
    rw [if_neg Bool.false_ne_true]
    exact ⟨B1, δ1, E1, p1⟩
theorem ot_not (h : OT X g W a t) : OT X g W (.UnaryOp .Not a pos) (dNot t) := by
  refine pt_imp (pt_not h) fun σ H Q ⟨B, δ, E, p⟩ => ⟨B, δ, E, p.bind.mono fun B1 H1 δ1 x E1 S1 p1 v rv => ?_⟩
  subst rv
  exact p1 B1 H1 E1 .refl _ rfl
/-- as values: all but the last True or False -/
def dAndV (f k : Den D) : Den D := fun δ => (f δ).bind fun x δ1 => match x with
  | .bl true => k δ1
  | .bl false => .ok (.bl false) δ1
  | _ => .stuck
def dOrV (f k : Den D) : Den D := fun δ => (f δ).bind fun x δ1 => match x with
  | .bl true => .ok (.bl true) δ1
  | .bl false => k δ1
  | _ => .stuck
def dNotV (f : Den D) : Den D := fun δ => (f δ).bind fun x δ1 => match x with
  | .bl b => .ok (.bl (!b)) δ1
  | _ => .stuck
theorem o_one {op} (h : OE X g W a f) : OE X g W (.BoolOp op [a] pos) f := pe_one h
theorem o_and (h : OE X g W a f) (h2 : OE X g W (.BoolOp .And (b :: rest) pos) k) : OE X g W (.BoolOp .And (a :: b :: rest) pos) (dAndV f k) := by
  refine pe_imp (pe_and h h2) fun σ H Q ⟨B, δ, E, p⟩ => ⟨B, δ, E, p.bind.mono fun B1 H1 δ1 x E1 S1 p1 v rv => ?_⟩
  cases x with
  | bl b =>
    refine ⟨b, rv, ?_⟩
    cases b with
    | true =>
      rw [if_pos rfl]
      exact ⟨B1, δ1, E1, p1⟩
    | false =>
      rw [if_neg Bool.false_ne_true]
      exact p1 B1 H1 E1 .refl _ rfl
  | _ => exact False.elim p1
theorem o_or (h : OE X g W a f) (h2 : OE X g W (.BoolOp .Or (b :: rest) pos) k) : OE X g W (.BoolOp .Or (a :: b :: rest) pos) (dOrV f k) := by
  refine pe_imp (pe_or h h2) fun σ H Q ⟨B, δ, E, p⟩ => ⟨B, δ, E, p.bind.mono fun B1 H1 δ1 x E1 S1 p1 v rv => ?_⟩
  cases x with
  | bl b =>
    refine ⟨b, rv, ?_⟩
    cases b with
    | true =>
      rw [if_pos rfl]
      exact p1 B1 H1 E1 .refl _ rfl
    | false =>
      rw [if_neg Bool.false_ne_true]
      exact ⟨B1, δ1, E1, p1⟩
  | _ => exact False.elim p1
theorem o_not (h : OE X g W a f) : OE X g W (.UnaryOp .Not a pos) (dNotV f) := by
  refine pe_imp (pe_not h) fun σ H Q ⟨B, δ, E, p⟩ => ⟨B, δ, E, p.bind.mono fun B1 H1 δ1 x E1 S1 p1 v rv => ?_⟩
  cases x with
  | bl b => exact ⟨b, rv, p1 B1 H1 E1 .refl _ rfl⟩
  | _ => exact False.elim p1
def dIf (t : Den Bool) (f k : Den D) : Den D := fun δ => (t δ).bind fun b δ1 => match b with
  | true => f δ1
  | false => k δ1
theorem o_ifExp (h : OT X g W c t) (h1 : OE X g W a f) (h2 : OE X g W b k) : OE X g W (.IfExp c a b pos) (dIf t f k) := by
  refine pe_imp (pe_ifExp h h1 h2) fun σ H Q ⟨B, δ, E, p⟩ => ⟨B, δ, E, p.bind.mono fun B1 H1 δ1 x E1 S1 p1 v rv => ?_⟩
  subst rv
  cases v with
  | true =>
    rw [if_pos rfl]
    exact ⟨B1, δ1, E1, p1⟩
  | false =>
    rw [if_neg Bool.false_ne_true]
    exact ⟨B1, δ1, E1, p1⟩

/-! ### written lists, tuples, arguments -/
def dNil : Den (List D) := fun δ => .ok [] δ
def dCons (f : Den D) (k : Den (List D)) : Den (List D) := fun δ => (f δ).bind fun x δ1 => (k δ1).bind fun xs δ2 => .ok (x :: xs) δ2
variable {es : List Expr} {fs : Den (List D)}
theorem oa_nil : OA X g W [] dNil := pa_imp pa_nil fun σ H Q ⟨B, δ, E, p⟩ => p B H E .refl [] rfl
theorem oa_cons (h : OE X g W e f) (h2 : OA X g W es fs) (hs : starEach (e :: es) X.env = (false, eval e X.env) :: starEach es X.env := by rfl) : OA X g W (e :: es) (dCons f fs) := by
  refine pa_imp (pa_cons h h2 hs) fun σ H Q ⟨B, δ, E, p⟩ => ⟨B, δ, E, p.bind.mono fun B1 H1 δ1 x E1 S1 p1 v rv => ⟨B1, δ1, E1, p1.bind.mono fun B2 H2 δ2 xs E2 S2 p2 vs rvs => ?_⟩⟩
  exact p2 B2 H2 E2 .refl _ ⟨v, vs, rfl, rv.mono S2.b, rvs⟩
def lim (ds : List D) : Bool := decide (ds.length ≤ 100000)
theorem lim_le {n : Nat} (h : n ≤ 100000) : n ≤ sizeLine := Nat.le_trans h (by decide)
theorem lim_ok {ds : List D} (h : lim ds = true) : ds.length ≤ sizeLine := lim_le (of_decide_eq_true h)
def dLst (fs : Den (List D)) : Den D := fun δ => (fs δ).bind fun xs δ1 => match lim xs with
  | true => .ok (.lst xs) δ1
  | false => .stuck
def dTup (fs : Den (List D)) : Den D := fun δ => (fs δ).bind fun xs δ1 => match lim xs with
  | true => .ok (.tup xs) δ1
  | false => .stuck
def nLst (fs : Den (List D)) : Den O := fun δ => (fs δ).bind fun xs δ1 => match lim xs with
  | true => .ok (.lst xs) δ1
  | false => .stuck
theorem o_lst (h : OA X g W es fs) : OE X g W (.List es pos) (dLst fs) := by
  refine pe_imp (pe_lst h) fun σ H Q ⟨B, δ, E, p⟩ => ⟨B, δ, E, p.bind.mono fun B1 H1 δ1 xs E1 S1 p1 vs rv => ?_⟩
  cases q : lim xs with
  | false =>
    rw [q] at p1
    exact False.elim p1
  | true =>
    rw [q] at p1
    exact ⟨by rw [rv.length]; exact lim_ok q, fun a ha => p1 _ _ (E1.alloc _ ha) (Stp.alloc E1 ha) _ ⟨a, vs, rfl, upd_same, rv.mono (le_upd (le_none E1.le ha))⟩⟩
theorem o_tup {j} (h : OA X g W es fs) : OE X g W (.Tuple es j pos) (dTup fs) := by
  refine pe_imp (pe_tup h) fun σ H Q ⟨B, δ, E, p⟩ => ⟨B, δ, E, p.bind.mono fun B1 H1 δ1 xs E1 S1 p1 vs rv => ?_⟩
  cases q : lim xs with
  | false =>
    rw [q] at p1
    exact False.elim p1
  | true =>
    rw [q] at p1
    exact ⟨by rw [rv.length]; exact lim_ok q, fun a ha => p1 _ _ (E1.alloc _ ha) (Stp.alloc E1 ha) _ ⟨a, vs, rfl, SqT.of upd_same, rv.mono (le_upd (le_none E1.le ha))⟩⟩
theorem on_lst (h : OA X g W es fs) : ON X g W (.List es pos) (nLst fs) := by
  refine pe_imp (pe_lst h) fun σ H Q ⟨B, δ, E, p⟩ => ⟨B, δ, E, p.bind.mono fun B1 H1 δ1 xs E1 S1 p1 vs rv => ?_⟩
  cases q : lim xs with
  | false =>
    rw [q] at p1
    exact False.elim p1
  | true =>
    rw [q] at p1
    exact ⟨by rw [rv.length]; exact lim_ok q, fun a ha => p1 _ _ (E1.allocN _ ha) (Stp.allocN ha) _ ⟨a, rfl, le_none E1.le ha, ⟨vs, upd_same, rv⟩, E1.notOw ha, S1.free ha⟩⟩
end

/-! ### calls of built-ins -/
def dB (fn : List D → Option D) (fs : Den (List D)) : Den D := fun δ => (fs δ).bind fun xs δ1 => .lift (fn xs) δ1
def OkB (K : PySem.W.Frag) (r : List V → Hp → VK → Prop) (fn : List D → Option D) : Prop := ∀ (g : G) (B H : Hp) (σ : St) (δ : List Sl) (xs : List V) (ds : List D) (z : D) (Q : VK), EnvOk K g B H σ δ → RepL K B ds xs → fn ds = some z →
  (∀ B' H' v, EnvOk K g B' H' σ δ → Stp B H σ δ B' H' σ δ → Rep K B' z v → Q v H') → r xs H Q
section
variable {X : Cx} {g : G} {W : WX} {e : Expr} {es : List Expr} {fs : Den (List D)} {p pos : Pos} {x : Str} {id T : String} {r : List V → Hp → VK → Prop} {fn : List D → Option D}
theorem tCB_of (hr : OkB X.K r fn) (σ : St) (H : Hp) (Q : VK) (h : tX X.K g W (RlD X.K) (dB fn fs) σ H Q) : tCB r (tX X.K g W (RlA X.K) fs) σ H Q := by
  obtain ⟨B, δ, E, p⟩ := h
  refine ⟨B, δ, E, p.bind.mono fun B1 H1 δ1 x E1 S1 p1 v rv => ?_⟩
  obtain ⟨z, hz, q⟩ := p1.lift
  exact hr g B1 H1 σ δ1 v x z Q E1 rv hz fun B' H' w E3 S3 => q B' H' E3 S3 w
theorem o_callB (hc : CallR X (.builtin id) r) (hr : OkB X.K r fn) (hg : Gl X x) (hm : X.mg x = none) (hv : bootBuiltins x = some (.builtin id)) (ha : OA X g W (e :: es) fs) (hn : x ≠ "__name__" := by decide) (hdb : (x == ("__debug__" : Str)) = false := by decide)
    (hh : starEach (e :: es) X.env = (false, eval e X.env) :: starEach es X.env := by rfl) (hpl : (backTo pos (starEach es X.env)).any (·.1) = false := by rfl) : OE X g W (.Call (.Name x p) (e :: es) [] pos) (dB fn fs) :=
  pe_imp (pe_callB hc hg hm hv ha hn hdb hh hpl) fun σ H Q h => tCB_of hr σ H Q h
theorem o_callTy (hc : CallR X (.type T) r) (hr : OkB X.K r fn) (hg : Gl X x) (hm : X.mg x = none) (hv : bootBuiltins x = some (.type T)) (ha : OA X g W (e :: es) fs) (hn : x ≠ "__name__" := by decide) (hdb : (x == ("__debug__" : Str)) = false := by decide)
    (hh : starEach (e :: es) X.env = (false, eval e X.env) :: starEach es X.env := by rfl) (hpl : (backTo pos (starEach es X.env)).any (·.1) = false := by rfl) : OE X g W (.Call (.Name x p) (e :: es) [] pos) (dB fn fs) :=
  pe_imp (pe_callTy hc hg hm hv ha hn hdb hh hpl) fun σ H Q h => tCB_of hr σ H Q h
end
end VS
end

section
set_option Elab.async false
set_option linter.all false
set_option maxRecDepth 100000
/-! VS, part 4: what operators and built-ins do to data. -/
namespace VS
open PySem L2

section
variable {X : Cx} {K : PySem.W.Frag}
/-! ### numbers -/
def big : Nat := 2 ^ 3000
theorem big_log {n : Nat} (h : n < big) : n.log2 < 3000 := by
  by_cases z : n = 0
  · subst z
    simp [Nat.log2_zero]
  · exact (Nat.log2_lt z).mpr h
def mulOk (i j : Int) : Bool := decide (i.natAbs < 2 ^ 64) || decide (j.natAbs < 2 ^ 64) || (decide (i.natAbs < big) && decide (j.natAbs < big))
def addD : D → D → Option D
  | .int i, .int j => some (.int (i + j))
  | .str x, .str y => if x.length + y.length ≤ 100000 then some (.str (x ++ y)) else none
  | .lst xs, .lst ys => if xs.length + ys.length ≤ 100000 then some (.lst (xs ++ ys)) else none
  | .tup (x :: xs), .tup ys => if xs.length + 1 + ys.length ≤ 100000 then some (.tup (x :: xs ++ ys)) else none
  | _, _ => none
def subD : D → D → Option D
  | .int i, .int j => some (.int (i - j))
  | _, _ => none
def mulD : D → D → Option D
  | .int i, .int j => if mulOk i j = true then some (.int (i * j)) else none
  | _, _ => none
def fdivD : D → D → Option D
  | .int i, .int j => if 0 < j ∧ j.natAbs < big then some (.int (i / j)) else none
  | _, _ => none
def modD : D → D → Option D
  | .int i, .int j => if 0 < j then some (.int (i % j)) else none
  | _, _ => none
def powD : D → D → Option D
  | .int i, .int j => if 0 ≤ j ∧ j ≤ 1000 ∧ i.natAbs < 2 ^ 64 then some (.int (i ^ j.toNat)) else none
  | _, _ => none
def shlD : D → D → Option D
  | .int i, .int j => if 0 ≤ j ∧ j ≤ 100000 ∧ i.natAbs < 2 ^ 64 then some (.int (i * 2 ^ j.toNat)) else none
  | _, _ => none
abbrev rAddU (K : PySem.W.Frag) : R2 := fun x y H Q => (rI0 fun i j => .int (i + j)) x y H Q ∨ (∃ i j, x = .str i ∧ y = .str j ∧ i.length + j.length ≤ sizeLine ∧ Q (.str (i ++ j)) H) ∨ rCat x y H Q ∨ rCatT K x y H Q
theorem op_addU : OpR X (binaryOp .Add) (rAddU X.K) := op_add.or (op_add_str.or (op_cat.or op_catT))
theorem ok_add : Ok2 K (rAddU K) addD := by
  intro g B H σ δ x y d e z Q E rx ry hz q
  cases d with
  | int i =>
    cases e with
    | int j =>
      cases hz
      exact .inl ⟨i, j, rx, ry, q B H _ E .refl rfl⟩
    | _ => cases hz
  | str s =>
    cases e with
    | str t =>
      simp only [addD] at hz
      by_cases hl : s.length + t.length ≤ 100000
      · rw [if_pos hl] at hz
        cases hz
        exact .inr (.inl ⟨s, t, rx, ry, lim_le hl, q B H _ E .refl rfl⟩)
      · rw [if_neg hl] at hz
        cases hz
    | _ => cases hz
  | lst xs =>
    cases e with
    | lst ys =>
      simp only [addD] at hz
      by_cases hl : xs.length + ys.length ≤ 100000
      · rw [if_pos hl] at hz
        cases hz
        obtain ⟨a, vs, e1, h1, r1⟩ := rx
        obtain ⟨b, ws, e2, h2, r2⟩ := ry
        refine .inr (.inr (.inl ⟨a, b, vs, ws, e1, e2, E.le _ _ h1, E.le _ _ h2, ?_, fun p hp => ?_⟩))
        · rw [r1.length, r2.length]
          exact lim_le hl
        · exact q _ _ _ (E.alloc _ hp) (Stp.alloc E hp) ⟨p, _, rfl, upd_same, (r1.append r2).mono (le_upd (le_none E.le hp))⟩
      · rw [if_neg hl] at hz
        cases hz
    | _ => cases hz
  | tup xs =>
    cases xs with
    | nil => cases e <;> cases hz
    | cons x0 xs =>
      cases e with
      | tup ys =>
        simp only [addD] at hz
        by_cases hl : xs.length + 1 + ys.length ≤ 100000
        · rw [if_pos hl] at hz
          cases hz
          obtain ⟨a, vs, e1, h1, r1⟩ := rx
          obtain ⟨b, ws, e2, h2, r2⟩ := ry
          have l1 := r1.length
          have l2 := r2.length
          have ne : vs ≠ [] := fun z => by
            rw [z] at l1
            simp at l1
          refine .inr (.inr (.inr ⟨a, b, vs, ws, e1, e2, E.le.sqT h1, E.le.sqT h2, ne, ?_, fun z => ?_, fun _ p hp => ?_⟩))
          · rw [l1, l2]
            exact lim_le (by simpa using hl)
          · subst z
            have ey : ys = [] := List.eq_nil_of_length_eq_zero (by simpa using l2.symm)
            subst ey
            refine q B H _ E .refl ?_
            rw [List.append_nil]
            exact ⟨a, vs, rfl, h1, r1⟩
          · exact q _ _ _ (E.alloc _ hp) (Stp.alloc E hp) ⟨p, _, rfl, SqT.of upd_same, (r1.append r2).mono (le_upd (le_none E.le hp))⟩
        · rw [if_neg hl] at hz
          cases hz
      | _ => cases hz
  | _ => cases e <;> cases hz
/-- two ints in, a value out -/
theorem ok_I {fn : D → D → Option D} {C : Int → Int → Prop} {gv : Int → Int → V} {gd : Int → Int → D} (h1 : ∀ d e z, fn d e = some z → ∃ i j, d = .int i ∧ e = .int j ∧ z = gd i j ∧ C i j) (h2 : ∀ B i j, Rep K B (gd i j) (gv i j)) : Ok2 K (rI C gv) fn := by
  intro g B H σ δ x y d e z Q E rx ry hz q
  obtain ⟨i, j, rfl, rfl, rfl, c⟩ := h1 d e z hz
  exact ⟨i, j, rx, ry, c, q B H _ E .refl (h2 B i j)⟩
theorem ok_I0 {fn : D → D → Option D} {gv : Int → Int → V} {gd : Int → Int → D} (h1 : ∀ d e z, fn d e = some z → ∃ i j, d = .int i ∧ e = .int j ∧ z = gd i j) (h2 : ∀ B i j, Rep K B (gd i j) (gv i j)) : Ok2 K (rI0 gv) fn := by
  intro g B H σ δ x y d e z Q E rx ry hz q
  obtain ⟨i, j, rfl, rfl, rfl⟩ := h1 d e z hz
  exact ⟨i, j, rx, ry, q B H _ E .refl (h2 B i j)⟩
theorem ok_sub : Ok2 K (rI0 fun i j => .int (i - j)) subD := ok_I0 (gd := fun i j => .int (i - j)) (fun d e z h => by
  cases d <;> cases e <;> cases h
  exact ⟨_, _, rfl, rfl, rfl⟩) fun _ _ _ => rfl
theorem mul_cond {i j : Int} (h : mulOk i j = true) : CMul i j ∨ CMulW i j := by
  unfold mulOk at h
  simp only [Bool.or_eq_true, Bool.and_eq_true, decide_eq_true_eq] at h
  rcases h with (h | h) | ⟨h1, h2⟩
  · exact .inl (.inl (by omega))
  · exact .inl (.inr (by omega))
  · refine .inr ?_
    have a := big_log h1
    have b := big_log h2
    show i.natAbs.log2 + j.natAbs.log2 < 1000000
    omega
theorem op_mulU : OpR X (binaryOp .Mult) (rI (fun i j => CMul i j ∨ CMulW i j) fun i j => .int (i * j)) := by
  intro pins s σ H x y v u Q I rx ry h
  obtain ⟨i, j, e1, e2, c, q⟩ := h
  rcases c with c | c
  · exact op_mul pins s σ H x y v u Q I rx ry ⟨i, j, e1, e2, c, q⟩
  · exact op_mulW pins s σ H x y v u Q I rx ry ⟨i, j, e1, e2, c, q⟩
theorem ok_mul : Ok2 K (rI (fun i j => CMul i j ∨ CMulW i j) fun i j => .int (i * j)) mulD := ok_I (gd := fun i j => .int (i * j)) (fun d e z h => by
  cases d with
  | int i =>
    cases e with
    | int j =>
      simp only [mulD] at h
      by_cases c : mulOk i j = true
      · rw [if_pos c] at h
        cases h
        exact ⟨i, j, rfl, rfl, rfl, mul_cond c⟩
      · rw [if_neg c] at h
        cases h
    | _ => cases h
  | _ => cases e <;> cases h) fun _ _ _ => rfl
theorem ok_fdiv : Ok2 K (rI CDivW fun i j => .int (i / j)) fdivD := ok_I (gd := fun i j => .int (i / j)) (fun d e z h => by
  cases d with
  | int i =>
    cases e with
    | int j =>
      simp only [fdivD] at h
      by_cases c : 0 < j ∧ j.natAbs < big
      · rw [if_pos c] at h
        cases h
        exact ⟨i, j, rfl, rfl, rfl, c.1, Nat.lt_trans (big_log c.2) (by decide)⟩
      · rw [if_neg c] at h
        cases h
    | _ => cases h
  | _ => cases e <;> cases h) fun _ _ _ => rfl
theorem ok_mod : Ok2 K (rI (fun _ j => 0 < j) fun i j => .int (i % j)) modD := ok_I (gd := fun i j => .int (i % j)) (fun d e z h => by
  cases d with
  | int i =>
    cases e with
    | int j =>
      simp only [modD] at h
      by_cases c : 0 < j
      · rw [if_pos c] at h
        cases h
        exact ⟨i, j, rfl, rfl, rfl, c⟩
      · rw [if_neg c] at h
        cases h
    | _ => cases h
  | _ => cases e <;> cases h) fun _ _ _ => rfl
theorem ok_pow : Ok2 K (rI CPow fun i j => .int (i ^ j.toNat)) powD := ok_I (gd := fun i j => .int (i ^ j.toNat)) (fun d e z h => by
  cases d with
  | int i =>
    cases e with
    | int j =>
      simp only [powD] at h
      by_cases c : 0 ≤ j ∧ j ≤ 1000 ∧ i.natAbs < 2 ^ 64
      · rw [if_pos c] at h
        cases h
        exact ⟨i, j, rfl, rfl, rfl, c.1, Int.le_trans c.2.1 (by decide), c.2.2⟩
      · rw [if_neg c] at h
        cases h
    | _ => cases h
  | _ => cases e <;> cases h) fun _ _ _ => rfl
theorem ok_shl : Ok2 K (rI CPow fun i j => .int (i * 2 ^ j.toNat)) shlD := ok_I (gd := fun i j => .int (i * 2 ^ j.toNat)) (fun d e z h => by
  cases d with
  | int i =>
    cases e with
    | int j =>
      simp only [shlD] at h
      by_cases c : 0 ≤ j ∧ j ≤ 100000 ∧ i.natAbs < 2 ^ 64
      · rw [if_pos c] at h
        cases h
        exact ⟨i, j, rfl, rfl, rfl, c.1, Int.le_trans c.2.1 (by decide), c.2.2⟩
      · rw [if_neg c] at h
        cases h
    | _ => cases h
  | _ => cases e <;> cases h) fun _ _ _ => rfl

/-! ### comparisons -/
def ltD : D → D → Option D
  | .int i, .int j => some (.bl (decide (i < j)))
  | _, _ => none
def leD : D → D → Option D
  | .int i, .int j => some (.bl (decide (i ≤ j)))
  | _, _ => none
def gtD : D → D → Option D
  | .int i, .int j => some (.bl (decide (j < i)))
  | _, _ => none
def geD : D → D → Option D
  | .int i, .int j => some (.bl (decide (j ≤ i)))
  | _, _ => none
theorem ok_lt : Ok2 K (rI0 fun i j => .bl (decide (i < j))) ltD := ok_I0 (gd := fun i j => .bl (decide (i < j))) (fun d e z h => by
  cases d <;> cases e <;> cases h
  exact ⟨_, _, rfl, rfl, rfl⟩) fun _ _ _ => rfl
theorem ok_le : Ok2 K (rI0 fun i j => .bl (decide (i ≤ j))) leD := ok_I0 (gd := fun i j => .bl (decide (i ≤ j))) (fun d e z h => by
  cases d <;> cases e <;> cases h
  exact ⟨_, _, rfl, rfl, rfl⟩) fun _ _ _ => rfl
theorem ok_gt : Ok2 K (rI0 fun i j => .bl (decide (j < i))) gtD := ok_I0 (gd := fun i j => .bl (decide (j < i))) (fun d e z h => by
  cases d <;> cases e <;> cases h
  exact ⟨_, _, rfl, rfl, rfl⟩) fun _ _ _ => rfl
theorem ok_ge : Ok2 K (rI0 fun i j => .bl (decide (j ≤ i))) geD := ok_I0 (gd := fun i j => .bl (decide (j ≤ i))) (fun d e z h => by
  cases d <;> cases e <;> cases h
  exact ⟨_, _, rfl, rfl, rfl⟩) fun _ _ _ => rfl
mutual
def toPy : D → Option PyData
  | .non => some .none
  | .bl b => some (.bool b)
  | .int i => some (.int i)
  | .str x => some (.str x)
  | .lst xs => (toPys xs).map .list
  | .rol xs => (toPys xs).map .list
  | .tup xs => (toPys xs).map .tuple
  | .dct _ => none
def toPys : List D → Option (List PyData)
  | [] => some []
  | d :: ds => match toPy d, toPys ds with
    | some p, some ps => some (p :: ps)
    | _, _ => none
end
mutual
theorem Rep.dp {B : Hp} : ∀ (d : D) {v : V} {p : PyData}, Rep K B d v → toPy d = some p → Dp K B v p
  | .non, _, _, h, e => by cases h; cases e; exact .non
  | .bl b, _, _, h, e => by cases h; cases e; exact .bl b
  | .int i, _, _, h, e => by cases h; cases e; exact .int i
  | .str x, _, _, h, e => by cases h; cases e; exact .str x
  | .lst xs, _, _, h, e => by
    obtain ⟨a, vs, rfl, h2, h3⟩ := h
    unfold toPy at e
    obtain ⟨ps, e1, rfl⟩ := Option.map_eq_some_iff.mp e
    exact .lst (SqL.of h2) (RepL.dp xs h3 e1)
  | .rol xs, _, _, h, e => by
    obtain ⟨a, vs, rfl, h2, h3⟩ := h
    unfold toPy at e
    obtain ⟨ps, e1, rfl⟩ := Option.map_eq_some_iff.mp e
    exact .lst h2 (RepL.dp xs h3 e1)
  | .tup xs, _, _, h, e => by
    obtain ⟨a, vs, rfl, h2, h3⟩ := h
    unfold toPy at e
    obtain ⟨ps, e1, rfl⟩ := Option.map_eq_some_iff.mp e
    exact .tup h2 (RepL.dp xs h3 e1)
  | .dct _, _, _, _, e => by
    unfold toPy at e
    cases e
theorem RepL.dp {B : Hp} : ∀ (ds : List D) {vs : List V} {ps : List PyData}, RepL K B ds vs → toPys ds = some ps → DpAll K B vs ps
  | [], _, _, h, e => by
    rw [show _ = [] from h]
    unfold toPys at e
    cases e
    exact .nil
  | d :: ds, _, _, h, e => by
    obtain ⟨v, r, rfl, h2, h3⟩ := h
    unfold toPys at e
    split at e
    · rename_i p ps e1 e2
      cases e
      exact .cons (Rep.dp d h2 e1) (RepL.dp ds h3 e2)
    · cases e
end
def eqDeep (d e : D) : Option Bool := match toPy d, toPy e with
  | some p, some q => if SeqAt.shaped p = true ∧ SeqAt.shaped q = true then some (PyData.eqv p q) else none
  | _, _ => none
def eqD : D → D → Option D
  | .int i, .int j => some (.bl (decide (i = j)))
  | .str i, .str j => some (.bl (decide (i = j)))
  | .bl i, .bl j => some (.bl (decide (i = j)))
  | d, e => (eqDeep d e).map .bl
def neD : D → D → Option D
  | .int i, .int j => some (.bl (!decide (i = j)))
  | .str i, .str j => some (.bl (!decide (i = j)))
  | .bl i, .bl j => some (.bl (!decide (i = j)))
  | d, e => (eqDeep d e).map fun b => .bl (!b)
theorem Rep.dpH {B H : Hp} {d : D} {v : V} {p : PyData} (le : Le B H) (h : Rep K B d v) (e : toPy d = some p) : Dp K H v p := Rep.dp d (h.mono le) e
theorem eqDeep_ok {B H : Hp} {d e : D} {x y : V} {b : Bool} (le : Le B H) (rx : Rep K B d x) (ry : Rep K B e y) (h : eqDeep d e = some b) : ∃ p q, Dp K H x p ∧ Dp K H y q ∧ SeqAt.shaped p = true ∧ SeqAt.shaped q = true ∧ b = PyData.eqv p q := by
  unfold eqDeep at h
  split at h
  · rename_i p q e1 e2
    by_cases c : SeqAt.shaped p = true ∧ SeqAt.shaped q = true
    · rw [if_pos c] at h
      cases h
      exact ⟨p, q, rx.dpH le e1, ry.dpH le e2, c.1, c.2, rfl⟩
    · rw [if_neg c] at h
      cases h
  · cases h
abbrev rEqU (K : PySem.W.Frag) : R2 := fun x y H Q => rEq x y H Q ∨ rEqD K x y H Q
abbrev rNeU (K : PySem.W.Frag) : R2 := fun x y H Q => rNe x y H Q ∨ rNeD K x y H Q
theorem op_eqU (hu : X.A.units + 64 < cLine) : OpR X (compareOp .Eq) (rEqU X.K) := op_eq.or (op_eqD hu)
theorem op_neU (hu : X.A.units + 64 < cLine) : OpR X (compareOp .NotEq) (rNeU X.K) := op_ne.or (op_neD hu)
theorem dV_int (i j : Int) : decide (V.int i = V.int j) = decide (i = j) := by simp
theorem dV_str (i j : Str) : decide (V.str i = V.str j) = decide (i = j) := by simp
theorem dV_bl (i j : Bool) : decide (V.bl i = V.bl j) = decide (i = j) := by simp
theorem eqD_cases {d e z : D} (h : eqD d e = some z) : (∃ i j, d = .int i ∧ e = .int j ∧ z = .bl (decide (i = j))) ∨ (∃ i j, d = .str i ∧ e = .str j ∧ z = .bl (decide (i = j))) ∨ (∃ i j, d = .bl i ∧ e = .bl j ∧ z = .bl (decide (i = j))) ∨ ∃ b, eqDeep d e = some b ∧ z = .bl b := by
  unfold eqD at h
  split at h
  · cases h; exact .inl ⟨_, _, rfl, rfl, rfl⟩
  · cases h; exact .inr (.inl ⟨_, _, rfl, rfl, rfl⟩)
  · cases h; exact .inr (.inr (.inl ⟨_, _, rfl, rfl, rfl⟩))
  · obtain ⟨b, e1, rfl⟩ := Option.map_eq_some_iff.mp h
    exact .inr (.inr (.inr ⟨b, e1, rfl⟩))
theorem neD_cases {d e z : D} (h : neD d e = some z) : (∃ i j, d = .int i ∧ e = .int j ∧ z = .bl (!decide (i = j))) ∨ (∃ i j, d = .str i ∧ e = .str j ∧ z = .bl (!decide (i = j))) ∨ (∃ i j, d = .bl i ∧ e = .bl j ∧ z = .bl (!decide (i = j))) ∨ ∃ b, eqDeep d e = some b ∧ z = .bl (!b) := by
  unfold neD at h
  split at h
  · cases h; exact .inl ⟨_, _, rfl, rfl, rfl⟩
  · cases h; exact .inr (.inl ⟨_, _, rfl, rfl, rfl⟩)
  · cases h; exact .inr (.inr (.inl ⟨_, _, rfl, rfl, rfl⟩))
  · obtain ⟨b, e1, rfl⟩ := Option.map_eq_some_iff.mp h
    exact .inr (.inr (.inr ⟨b, e1, rfl⟩))
theorem ok_eq : Ok2 K (rEqU K) eqD := by
  intro g B H σ δ x y d e z Q E rx ry hz q
  rcases eqD_cases hz with ⟨i, j, rfl, rfl, rfl⟩ | ⟨i, j, rfl, rfl, rfl⟩ | ⟨i, j, rfl, rfl, rfl⟩ | ⟨b, hb, rfl⟩
  · cases rx; cases ry
    exact .inl ⟨rfl, q B H _ E .refl (by rw [dV_int]; rfl)⟩
  · cases rx; cases ry
    exact .inl ⟨rfl, q B H _ E .refl (by rw [dV_str]; rfl)⟩
  · cases rx; cases ry
    exact .inl ⟨rfl, q B H _ E .refl (by rw [dV_bl]; rfl)⟩
  · obtain ⟨p, p', h1, h2, h3, h4, rfl⟩ := eqDeep_ok E.le rx ry hb
    exact .inr ⟨p, p', h1, h2, h3, h4, q B H _ E .refl rfl⟩
theorem ok_ne : Ok2 K (rNeU K) neD := by
  intro g B H σ δ x y d e z Q E rx ry hz q
  rcases neD_cases hz with ⟨i, j, rfl, rfl, rfl⟩ | ⟨i, j, rfl, rfl, rfl⟩ | ⟨i, j, rfl, rfl, rfl⟩ | ⟨b, hb, rfl⟩
  · cases rx; cases ry
    exact .inl ⟨rfl, q B H _ E .refl (by rw [dV_int]; rfl)⟩
  · cases rx; cases ry
    exact .inl ⟨rfl, q B H _ E .refl (by rw [dV_str]; rfl)⟩
  · cases rx; cases ry
    exact .inl ⟨rfl, q B H _ E .refl (by rw [dV_bl]; rfl)⟩
  · obtain ⟨p, p', h1, h2, h3, h4, rfl⟩ := eqDeep_ok E.le rx ry hb
    exact .inr ⟨p, p', h1, h2, h3, h4, q B H _ E .refl rfl⟩
/-- is None -/
def isNon : D → Bool
  | .non => true
  | _ => false
def isND : D → D → Option D
  | d, .non => some (.bl (isNon d))
  | _, _ => none
def notND : D → D → Option D
  | d, .non => some (.bl (!isNon d))
  | _, _ => none
theorem Rep.isNon {B : Hp} {d : D} {v : V} (h : Rep K B d v) : decide (v = .non) = isNon d := by
  cases d with
  | non => cases h; rfl
  | bl b => cases h; rfl
  | int b => cases h; rfl
  | str b => cases h; rfl
  | lst xs => obtain ⟨a, vs, rfl, _⟩ := h; rfl
  | tup xs => obtain ⟨a, vs, rfl, _⟩ := h; rfl
  | rol xs => obtain ⟨a, vs, rfl, _⟩ := h; rfl
  | dct xs => obtain ⟨a, vs, rfl, _⟩ := h; rfl
theorem ok_isN : Ok2 K (fun x y H Q => y = .non ∧ Q (.bl (decide (x = .non))) H) isND := by
  intro g B H σ δ x y d e z Q E rx ry hz q
  cases e with
  | non =>
    cases hz
    exact ⟨ry, q B H _ E .refl (by rw [rx.isNon]; rfl)⟩
  | _ => cases d <;> cases hz
theorem ok_notN : Ok2 K (fun x y H Q => y = .non ∧ Q (.bl (!decide (x = .non))) H) notND := by
  intro g B H σ δ x y d e z Q E rx ry hz q
  cases e with
  | non =>
    cases hz
    exact ⟨ry, q B H _ E .refl (by rw [rx.isNon]; rfl)⟩
  | _ => cases d <;> cases hz

/-! ### in -/
def flatD : D → Bool
  | .non => true
  | .bl _ => true
  | .int _ => true
  | .str _ => true
  | _ => false
def eqF : D → D → Bool
  | .non, .non => true
  | .bl a, .bl b => a == b
  | .bl a, .int b => (if a then 1 else 0) == b
  | .int a, .bl b => a == (if b then 1 else 0)
  | .int a, .int b => a == b
  | .str a, .str b => a == b
  | _, _ => false
def mem (d : D) (ds : List D) : Bool := ds.any fun e => eqF e d
def inD : D → D → Option D
  | d, .lst ds => if (flatD d && ds.all flatD) = true then some (.bl (mem d ds)) else none
  | d, .tup ds => if (flatD d && ds.all flatD) = true then some (.bl (mem d ds)) else none
  | d, .rol ds => if (flatD d && ds.all flatD) = true then some (.bl (mem d ds)) else none
  | _, _ => none
def notInD : D → D → Option D
  | d, .lst ds => if (flatD d && ds.all flatD) = true then some (.bl (!mem d ds)) else none
  | d, .tup ds => if (flatD d && ds.all flatD) = true then some (.bl (!mem d ds)) else none
  | d, .rol ds => if (flatD d && ds.all flatD) = true then some (.bl (!mem d ds)) else none
  | _, _ => none
theorem Rep.flat {B : Hp} {d : D} {v : V} (h : Rep K B d v) (f : flatD d = true) : flatV v = true := by
  cases d with
  | non => cases h; rfl
  | bl b => cases h; rfl
  | int b => cases h; rfl
  | str b => cases h; rfl
  | _ => cases f
theorem RepL.flat {B : Hp} : ∀ {ds : List D} {vs : List V}, RepL K B ds vs → ds.all flatD = true → vs.all flatV = true
  | [], _, h, _ => by
    rw [show _ = [] from h]
    rfl
  | d :: ds, _, h, f => by
    obtain ⟨v, r, rfl, h2, h3⟩ := h
    rw [List.all_cons, Bool.and_eq_true] at f ⊢
    exact ⟨h2.flat f.1, RepL.flat h3 f.2⟩
theorem Rep.eqF {B : Hp} {d e : D} {v w : V} (h : Rep K B d v) (h' : Rep K B e w) (f : flatD d = true) (f' : flatD e = true) : eqV v w = eqF d e := by
  cases d with
  | non => cases h; cases e <;> first | (cases h'; rfl) | cases f'
  | bl b => cases h; cases e <;> first | (cases h'; rfl) | cases f'
  | int b => cases h; cases e <;> first | (cases h'; rfl) | cases f'
  | str b => cases h; cases e <;> first | (cases h'; rfl) | cases f'
  | _ => cases f
theorem RepL.mem {B : Hp} {d : D} {v : V} (h : Rep K B d v) (f : flatD d = true) : ∀ {ds : List D} {vs : List V}, RepL K B ds vs → ds.all flatD = true → inV v vs = mem d ds
  | [], _, h, _ => by
    rw [show _ = [] from h]
    rfl
  | e :: ds, _, q, f2 => by
    obtain ⟨w, r, rfl, h2, h3⟩ := q
    rw [List.all_cons, Bool.and_eq_true] at f2
    show (eqV w v || inV v r) = (VS.eqF e d || VS.mem d ds)
    rw [h2.eqF h f2.1 f, RepL.mem h f h3 f2.2]
theorem ok_in : Ok2 K (rIn K false) inD := by
  intro g B H σ δ x y d e z Q E rx ry hz q
  cases e with
  | lst ds =>
    simp only [inD] at hz
    by_cases c : (flatD d && ds.all flatD) = true
    · rw [if_pos c] at hz
      cases hz
      rw [Bool.and_eq_true] at c
      obtain ⟨a, vs, rfl, h1, r1⟩ := ry
      exact ⟨a, vs, rfl, .inl (SqL.of (E.le _ _ h1)), rx.flat c.1, r1.flat c.2, q B H _ E .refl (by rw [if_neg Bool.false_ne_true, r1.mem rx c.1 c.2]; rfl)⟩
    · rw [if_neg c] at hz
      cases hz
  | tup ds =>
    simp only [inD] at hz
    by_cases c : (flatD d && ds.all flatD) = true
    · rw [if_pos c] at hz
      cases hz
      rw [Bool.and_eq_true] at c
      obtain ⟨a, vs, rfl, h1, r1⟩ := ry
      exact ⟨a, vs, rfl, .inr (E.le.sqT h1), rx.flat c.1, r1.flat c.2, q B H _ E .refl (by rw [if_neg Bool.false_ne_true, r1.mem rx c.1 c.2]; rfl)⟩
    · rw [if_neg c] at hz
      cases hz
  | rol ds =>
    simp only [inD] at hz
    by_cases c : (flatD d && ds.all flatD) = true
    · rw [if_pos c] at hz
      cases hz
      rw [Bool.and_eq_true] at c
      obtain ⟨a, vs, rfl, h1, r1⟩ := ry
      exact ⟨a, vs, rfl, .inl (E.le.sqL h1), rx.flat c.1, r1.flat c.2, q B H _ E .refl (by rw [if_neg Bool.false_ne_true, r1.mem rx c.1 c.2]; rfl)⟩
    · rw [if_neg c] at hz
      cases hz
  | _ => cases d <;> cases hz
theorem ok_notIn : Ok2 K (rIn K true) notInD := by
  intro g B H σ δ x y d e z Q E rx ry hz q
  cases e with
  | lst ds =>
    simp only [notInD] at hz
    by_cases c : (flatD d && ds.all flatD) = true
    · rw [if_pos c] at hz
      cases hz
      rw [Bool.and_eq_true] at c
      obtain ⟨a, vs, rfl, h1, r1⟩ := ry
      exact ⟨a, vs, rfl, .inl (SqL.of (E.le _ _ h1)), rx.flat c.1, r1.flat c.2, q B H _ E .refl (by rw [if_pos rfl, r1.mem rx c.1 c.2]; rfl)⟩
    · rw [if_neg c] at hz
      cases hz
  | tup ds =>
    simp only [notInD] at hz
    by_cases c : (flatD d && ds.all flatD) = true
    · rw [if_pos c] at hz
      cases hz
      rw [Bool.and_eq_true] at c
      obtain ⟨a, vs, rfl, h1, r1⟩ := ry
      exact ⟨a, vs, rfl, .inr (E.le.sqT h1), rx.flat c.1, r1.flat c.2, q B H _ E .refl (by rw [if_pos rfl, r1.mem rx c.1 c.2]; rfl)⟩
    · rw [if_neg c] at hz
      cases hz
  | rol ds =>
    simp only [notInD] at hz
    by_cases c : (flatD d && ds.all flatD) = true
    · rw [if_pos c] at hz
      cases hz
      rw [Bool.and_eq_true] at c
      obtain ⟨a, vs, rfl, h1, r1⟩ := ry
      exact ⟨a, vs, rfl, .inl (E.le.sqL h1), rx.flat c.1, r1.flat c.2, q B H _ E .refl (by rw [if_pos rfl, r1.mem rx c.1 c.2]; rfl)⟩
    · rw [if_neg c] at hz
      cases hz
  | _ => cases d <;> cases hz
end
end VS
end

section
set_option Elab.async false
set_option linter.all false
set_option maxRecDepth 100000
/-! VS, part 5: subscripts, slices, built-ins by name. -/
namespace VS
open PySem L2

section
variable {X : Cx} {K : PySem.W.Frag} {g : G} {W : WX} {a b e : Expr} {f k : Den D} {pos : Pos}
/-! ### xs[i] -/
theorem RepL.atI {B : Hp} {ds : List D} {vs : List V} {i : Int} {d : D} (r : RepL K B ds vs) (h : L2.atI ds i = some d) : ∃ v, L2.atI vs i = some v ∧ Rep K B d v := by
  unfold L2.atI at h ⊢
  rw [r.length]
  cases q : ixN ds.length i with
  | none =>
    rw [q] at h
    cases h
  | some j =>
    rw [q] at h
    exact r.get h
def chD (c : Nat) : D := .str ⟨#[c]⟩
def ixD0 : D → D → Option D
  | .lst xs, .int i => atI xs i
  | .tup xs, .int i => atI xs i
  | .rol xs, .int i => atI xs i
  | .str z, .int i => if z.length ≤ 100000 then (atI z.cps.toList i).map chD else none
  | _, _ => none
theorem ok_ix0 : Ok2 K (rIx K) ixD0 := by
  intro g B H σ δ x y d e z Q E rx ry hz q
  cases d with
  | lst xs =>
    cases e with
    | int i =>
      obtain ⟨p, vs, rfl, h1, r1⟩ := rx
      obtain ⟨v, h2, r2⟩ := r1.atI hz
      exact .inl ⟨p, vs, i, v, rfl, ry, SqL.of (E.le _ _ h1), h2, q B H v E .refl r2⟩
    | _ => cases hz
  | tup xs =>
    cases e with
    | int i =>
      obtain ⟨p, vs, rfl, h1, r1⟩ := rx
      obtain ⟨v, h2, r2⟩ := r1.atI hz
      exact .inr (.inl ⟨p, vs, i, v, rfl, ry, E.le.sqT h1, h2, q B H v E .refl r2⟩)
    | _ => cases hz
  | rol xs =>
    cases e with
    | int i =>
      obtain ⟨p, vs, rfl, h1, r1⟩ := rx
      obtain ⟨v, h2, r2⟩ := r1.atI hz
      exact .inl ⟨p, vs, i, v, rfl, ry, E.le.sqL h1, h2, q B H v E .refl r2⟩
    | _ => cases hz
  | str w =>
    cases e with
    | int i =>
      simp only [ixD0] at hz
      by_cases c : w.length ≤ 100000
      · rw [if_pos c] at hz
        obtain ⟨ch, h1, rfl⟩ := Option.map_eq_some_iff.mp hz
        exact .inr (.inr ⟨w, i, ch, rx, ry, lim_le c, h1, q B H _ E .refl rfl⟩)
      · rw [if_neg c] at hz
        cases hz
    | _ => cases hz
  | _ => cases e <;> cases hz
theorem o_ix0 (ha : OE X g W a f) (hb : OE X g W b k) (hs : PlainIx b := by intro _ _; rfl) : OE X g W (.Subscript a b pos) (dOp ixD0 f k) := pe_imp (pe_ix ix_seq ha hb hs) fun σ H Q h => tOp_of ok_ix0 σ H Q h

/-! ### a slot that may be owned, read -/
def view : Sl → Option D
  | .dat d => some d
  | .own _ o => some o.toD
  | _ => none
def viewL (s : Option Sl) : Option (List D) := match s with
  | some (.dat (.lst xs)) => some xs
  | some (.own _ (.lst xs)) => some xs
  | _ => none
theorem EnvOk.viewL {B H : Hp} {σ : St} {δ : List Sl} (E : EnvOk K g B H σ δ) {i : Nat} {xs : List D} (h : viewL δ[i]? = some xs) : ∃ p vs, σ[i]? = some (some (.ref p)) ∧ H p = some (.lst vs) ∧ RepL K B xs vs := by
  cases q : δ[i]? with
  | none =>
    rw [q] at h
    cases h
  | some s =>
    rw [q] at h
    cases s with
    | un => cases h
    | exc c fs => cases h
    | dat d =>
      cases d with
      | lst ys =>
        cases h
        obtain ⟨v, e1, p, vs, rfl, h2, r2⟩ := E.slot q
        exact ⟨p, vs, e1, E.le _ _ h2, r2⟩
      | _ => cases h
    | own b o =>
      cases o with
      | lst ys =>
        cases h
        obtain ⟨p, e1, n, vs, h2, r2⟩ := E.owned q
        exact ⟨p, vs, e1, h2, r2⟩
      | dct ys => cases h
def dIxS (i : Nat) (k : Den D) : Den D := fun δ => match viewL δ[i]? with
  | some _ => (k δ).bind fun y δ1 => match viewL δ1[i]?, y with
    | some xs, .int j => .lift (atI xs j) δ1
    | _, _ => .stuck
  | none => .stuck
theorem o_ixS (i : Nat) {x : Str} {px : Pos} (hb : OE X g W b k) (hs : PlainIx b := by intro _ _; rfl) (hN : X.N[i]? = some x := by rfl) (hv : Vis X.env.scope x := by first | exact Or.inl rfl | exact Or.inr (Or.inl rfl) | exact Or.inr (Or.inr rfl)) (hd : (x == ("__debug__" : Str)) = false := by decide)
    (hcd : (x == ("__classdict__" : Str)) = false := by decide) : OE X g W (.Subscript (.Name x px) b pos) (dIxS i k) := by
  refine pe_imp (pe_ix ix_list (pe_var hN hv hd hcd) hb hs) fun σ H Q ⟨B, δ, E, p⟩ => ?_
  unfold dIxS at p
  split at p
  · rename_i xs0 h0
    obtain ⟨a0, vs0, e0, _, _⟩ := E.viewL h0
    refine ⟨_, e0, B, δ, E, p.bind.mono fun B1 H1 δ1 y E1 S1 p1 v rv => ?_⟩
    split at p1
    · rename_i xs j h1
      obtain ⟨z, hz, q⟩ := p1.lift
      obtain ⟨a1, vs1, e1, m1, r1⟩ := E1.viewL h1
      rw [e0] at e1
      cases e1
      obtain ⟨w, h2, r2⟩ := r1.atI hz
      exact ⟨a0, vs1, j, w, rfl, rv, SqL.of m1, h2, q B1 H1 E1 .refl w r2⟩
    · exact False.elim p1
  · exact False.elim p

/-! ### slices -/
def dPart (f : Den D) : Den (Option Int) := fun δ => (f δ).bind fun x δ1 => match x with
  | .int i => .ok (some i) δ1
  | _ => .stuck
def dNoPart : Den (Option Int) := fun δ => .ok none δ
abbrev OP (X : Cx) (g : G) (W : WX) (e : Option Expr) (f : Den (Option Int)) : Prop := PO X e (tX X.K g W (fun _ _ _ _ _ _ a v => v = a) f)
theorem po_imp {X : Cx} {e : Option Expr} {t t' : TO} (h : PO X e t) (i : ∀ σ H Q, t' σ H Q → t σ H Q) : PO X e t' := ⟨fun pins s σ H Q I q => h.run pins s σ H Q I (i σ H Q q)⟩
theorem op_none : OP X g W none dNoPart := po_imp po_none fun σ H Q ⟨B, δ, E, p⟩ => p B H E .refl none rfl
theorem op_some (h : OE X g W e f) : OP X g W (some e) (dPart f) := by
  refine po_imp (po_some h) fun σ H Q ⟨B, δ, E, p⟩ => ⟨B, δ, E, p.bind.mono fun B1 H1 δ1 x E1 S1 p1 v rv => ?_⟩
  cases x with
  | int i => exact ⟨i, rv, p1 B1 H1 E1 .refl _ rfl⟩
  | _ => exact False.elim p1
/-- the places from lo to hi -/
def cut {α : Type} (xs : List α) (lo hi : Option Int) : List α := (xs.drop (HT.sIx xs.length 0 lo)).take (HT.sIx xs.length xs.length hi - HT.sIx xs.length 0 lo)
theorem RepL.cut {B : Hp} {ds : List D} {vs : List V} (r : RepL K B ds vs) (lo hi : Option Int) : RepL K B (VS.cut ds lo hi) (cutV vs lo hi) := by
  unfold VS.cut cutV
  rw [r.length]
  exact (r.drop _).take _
def slD0 : D → Option Int → Option Int → Option D
  | .lst xs, lo, hi => some (.lst (cut xs lo hi))
  | .rol xs, lo, hi => some (.lst (cut xs lo hi))
  | _, _, _ => none
def dSl0 (f : Den D) (l h : Den (Option Int)) : Den D := fun δ => (f δ).bind fun x δ1 => (l δ1).bind fun lo δ2 => (h δ2).bind fun hi δ3 => .lift (slD0 x lo hi) δ3
theorem o_slice0 {lo hi : Option Expr} {l h : Den (Option Int)} {p2 : Pos} (ha : OE X g W a f) (hl : OP X g W lo l) (hh : OP X g W hi h) : OE X g W (.Subscript a (.Slice lo hi none p2) pos) (dSl0 f l h) := by
  refine pe_imp (pe_slice sl_list ha hl hh) fun σ H Q ⟨B, δ, E, p⟩ => ⟨B, δ, E, p.bind.mono fun B1 H1 δ1 x E1 S1 p1 v rv => ⟨B1, δ1, E1, p1.bind.mono fun B2 H2 δ2 lo E2 S2 p2 lo' elo => ⟨B2, δ2, E2, p2.bind.mono fun B3 H3 δ3 hi E3 S3 p3 hi' ehi => ?_⟩⟩⟩
  subst elo ehi
  obtain ⟨z, hz, q⟩ := p3.lift
  have rv3 := rv.mono (S2.trans S3).b
  cases x with
  | lst xs =>
    cases hz
    obtain ⟨c, vs, rfl, h1, r1⟩ := rv3
    exact ⟨c, vs, rfl, SqL.of (E3.le _ _ h1), fun n hn => q _ _ (E3.alloc _ hn) (Stp.alloc E3 hn) _ ⟨n, _, rfl, upd_same, (r1.cut _ _).mono (le_upd (le_none E3.le hn))⟩⟩
  | rol xs =>
    cases hz
    obtain ⟨c, vs, rfl, h1, r1⟩ := rv3
    exact ⟨c, vs, rfl, E3.le.sqL h1, fun n hn => q _ _ (E3.alloc _ hn) (Stp.alloc E3 hn) _ ⟨n, _, rfl, upd_same, (r1.cut _ _).mono (le_upd (le_none E3.le hn))⟩⟩
  | _ => cases hz

/-! ### built-ins -/
def intD : List D → Option D
  | [.int i] => some (.int i)
  | [.bl b] => some (.int (if b then 1 else 0))
  | _ => none
theorem ok_int1 : OkB K (fun xs H Q => (∃ i, xs = [.int i] ∧ Q (.int i) H) ∨ ∃ k, xs = [.bl k] ∧ Q (.int (if k then 1 else 0)) H) intD := by
  intro g B H σ δ xs ds z Q E r hz q
  cases ds with
  | nil => cases hz
  | cons d ds =>
    cases ds with
    | cons _ _ => cases d <;> cases hz
    | nil =>
      obtain ⟨v, r', rfl, h1, h2⟩ := r
      cases (show r' = [] from h2)
      cases d with
      | int i =>
        cases hz; cases h1
        exact .inl ⟨i, rfl, q B H _ E .refl rfl⟩
      | bl b =>
        cases hz; cases h1
        exact .inr ⟨b, rfl, q B H _ E .refl rfl⟩
      | _ => cases hz
def absD : List D → Option D
  | [.int i] => some (.int (if i < 0 then -i else i))
  | _ => none
theorem ok_abs : OkB K (fun xs H Q => ∃ i, xs = [.int i] ∧ Q (.int (if i < 0 then -i else i)) H) absD := by
  intro g B H σ δ xs ds z Q E r hz q
  cases ds with
  | nil => cases hz
  | cons d ds =>
    cases ds with
    | cons _ _ => cases d <;> cases hz
    | nil =>
      obtain ⟨v, r', rfl, h1, h2⟩ := r
      cases (show r' = [] from h2)
      cases d with
      | int i =>
        cases hz; cases h1
        exact ⟨i, rfl, q B H _ E .refl rfl⟩
      | _ => cases hz
def maxD : List D → Option D
  | [.int i, .int j] => some (.int (if j > i then j else i))
  | _ => none
def minD : List D → Option D
  | [.int i, .int j] => some (.int (if j < i then j else i))
  | _ => none
theorem two_ints {B : Hp} {d e : D} {i j : Int} {xs : List V} (r : RepL K B [.int i, .int j] xs) : xs = [.int i, .int j] := by
  obtain ⟨v, r', rfl, h1, w, r2, rfl, h2, h3⟩ := r
  cases h1; cases h2
  cases (show r2 = [] from h3)
  rfl
theorem ok_max2 : OkB K (fun xs H Q => ∃ i j, xs = [.int i, .int j] ∧ Q (.int (if j > i then j else i)) H) maxD := by
  intro g B H σ δ xs ds z Q E r hz q
  unfold maxD at hz
  split at hz
  · rename_i i j
    cases hz
    exact ⟨i, j, two_ints (d := .non) (e := .non) r, q B H _ E .refl rfl⟩
  · cases hz
theorem ok_min2 : OkB K (fun xs H Q => ∃ i j, xs = [.int i, .int j] ∧ Q (.int (if j < i then j else i)) H) minD := by
  intro g B H σ δ xs ds z Q E r hz q
  unfold minD at hz
  split at hz
  · rename_i i j
    cases hz
    exact ⟨i, j, two_ints (d := .non) (e := .non) r, q B H _ E .refl rfl⟩
  · cases hz
def lenD0 : List D → Option D
  | [.lst xs] => some (.int xs.length)
  | [.tup xs] => some (.int xs.length)
  | [.rol xs] => some (.int xs.length)
  | [.str z] => if z.length ≤ 100000 then some (.int z.length) else none
  | _ => none
theorem ok_len0 : OkB K (fun xs H Q => ∃ x n, xs = [x] ∧ LenV K x H n ∧ Q (.int n) H) lenD0 := by
  intro g B H σ δ xs ds z Q E r hz q
  cases ds with
  | nil => cases hz
  | cons d ds =>
    cases ds with
    | cons _ _ => cases d <;> cases hz
    | nil =>
      obtain ⟨v, r', rfl, h1, h2⟩ := r
      cases (show r' = [] from h2)
      cases d with
      | lst ys =>
        cases hz
        obtain ⟨c, vs, rfl, h3, r3⟩ := h1
        exact ⟨_, vs.length, rfl, .inl ⟨vs, SqL.of (E.le _ _ h3), rfl⟩, q B H _ E .refl (by rw [r3.length]; rfl)⟩
      | tup ys =>
        cases hz
        obtain ⟨c, vs, rfl, h3, r3⟩ := h1
        exact ⟨_, vs.length, rfl, .inr ⟨vs, E.le.sqT h3, rfl⟩, q B H _ E .refl (by rw [r3.length]; rfl)⟩
      | rol ys =>
        cases hz
        obtain ⟨c, vs, rfl, h3, r3⟩ := h1
        exact ⟨_, vs.length, rfl, .inl ⟨vs, E.le.sqL h3, rfl⟩, q B H _ E .refl (by rw [r3.length]; rfl)⟩
      | str w =>
        simp only [lenD0] at hz
        by_cases c : w.length ≤ 100000
        · rw [if_pos c] at hz
          cases hz; cases h1
          exact ⟨_, w.length, rfl, ⟨lim_le c, rfl⟩, q B H _ E .refl rfl⟩
        · rw [if_neg c] at hz
          cases hz
      | _ => cases hz
/-- len of a slot that may be owned -/
def dLenL (i : Nat) : Den D := fun δ => match viewL δ[i]? with
  | some xs => .ok (.int xs.length) δ
  | none => .stuck
theorem o_lenL (i : Nat) {x y : Str} {px p : Pos} (hg : Gl X y) (hm : X.mg y = none) (hv : bootBuiltins y = some (.builtin "len")) (hN : X.N[i]? = some x := by rfl) (hv : Vis X.env.scope x := by first | exact Or.inl rfl | exact Or.inr (Or.inl rfl) | exact Or.inr (Or.inr rfl)) (hd : (x == ("__debug__" : Str)) = false := by decide)
    (hcd : (x == ("__classdict__" : Str)) = false := by decide) (hn : y ≠ "__name__" := by decide) (hdb : (y == ("__debug__" : Str)) = false := by decide)
    (hh : starEach [Expr.Name x px] X.env = (false, eval (.Name x px) X.env) :: starEach [] X.env := by rfl) (hpl : (backTo pos (starEach [] X.env)).any (·.1) = false := by rfl) : OE X g W (.Call (.Name y p) [.Name x px] [] pos) (dLenL i) := by
  refine pe_imp (pe_callB call_len hg hm (by assumption) (pa_cons (pe_var hN hv hd hcd) pa_nil hh) hn hdb hh hpl) fun σ H Q ⟨B, δ, E, p⟩ => ?_
  unfold dLenL at p
  split at p
  · rename_i xs h0
    obtain ⟨a0, vs0, e0, m0, r0⟩ := E.viewL h0
    exact ⟨_, e0, _, vs0.length, rfl, .inl ⟨vs0, SqL.of m0, rfl⟩, p B H E .refl _ (by rw [r0.length]; rfl)⟩
  · exact False.elim p
/-- list(x), tuple(x) -/
def listD : List D → Option D
  | [.lst xs] => some (.lst xs)
  | [.tup xs] => some (.lst xs)
  | [.rol xs] => some (.lst xs)
  | _ => none
theorem ok_list : OkB K (fun xs H Q => ∃ p ys, xs = [.ref p] ∧ (SqL K H p ys ∨ SqT K H p ys) ∧ ∀ l, H l = none → Q (.ref l) (upd H l (.lst ys))) listD := by
  intro g B H σ δ xs ds z Q E r hz q
  cases ds with
  | nil => cases hz
  | cons d ds =>
    cases ds with
    | cons _ _ => cases d <;> cases hz
    | nil =>
      obtain ⟨v, r', rfl, h1, h2⟩ := r
      cases (show r' = [] from h2)
      cases d with
      | lst ys =>
        cases hz
        obtain ⟨c, vs, rfl, h3, r3⟩ := h1
        exact ⟨c, vs, rfl, .inl (SqL.of (E.le _ _ h3)), fun n hn => q _ _ _ (E.alloc _ hn) (Stp.alloc E hn) ⟨n, vs, rfl, upd_same, r3.mono (le_upd (le_none E.le hn))⟩⟩
      | tup ys =>
        cases hz
        obtain ⟨c, vs, rfl, h3, r3⟩ := h1
        exact ⟨c, vs, rfl, .inr (E.le.sqT h3), fun n hn => q _ _ _ (E.alloc _ hn) (Stp.alloc E hn) ⟨n, vs, rfl, upd_same, r3.mono (le_upd (le_none E.le hn))⟩⟩
      | rol ys =>
        cases hz
        obtain ⟨c, vs, rfl, h3, r3⟩ := h1
        exact ⟨c, vs, rfl, .inl (E.le.sqL h3), fun n hn => q _ _ _ (E.alloc _ hn) (Stp.alloc E hn) ⟨n, vs, rfl, upd_same, r3.mono (le_upd (le_none E.le hn))⟩⟩
      | _ => cases hz
def tupleD : List D → Option D
  | [.lst xs] => some (.tup xs)
  | [.tup xs] => some (.tup xs)
  | [.rol xs] => some (.tup xs)
  | _ => none
theorem ok_tuple : OkB K (fun xs H Q => ∃ p ys, xs = [.ref p] ∧ ((SqL K H p ys ∧ ∀ l, H l = none → Q (.ref l) (upd H l (.tup ys))) ∨ (SqT K H p ys ∧ Q (.ref p) H))) tupleD := by
  intro g B H σ δ xs ds z Q E r hz q
  cases ds with
  | nil => cases hz
  | cons d ds =>
    cases ds with
    | cons _ _ => cases d <;> cases hz
    | nil =>
      obtain ⟨v, r', rfl, h1, h2⟩ := r
      cases (show r' = [] from h2)
      cases d with
      | lst ys =>
        cases hz
        obtain ⟨c, vs, rfl, h3, r3⟩ := h1
        exact ⟨c, vs, rfl, .inl ⟨SqL.of (E.le _ _ h3), fun n hn => q _ _ _ (E.alloc _ hn) (Stp.alloc E hn) ⟨n, vs, rfl, SqT.of upd_same, r3.mono (le_upd (le_none E.le hn))⟩⟩⟩
      | tup ys =>
        cases hz
        obtain ⟨c, vs, rfl, h3, r3⟩ := h1
        exact ⟨c, vs, rfl, .inr ⟨E.le.sqT h3, q B H _ E .refl ⟨c, vs, rfl, h3, r3⟩⟩⟩
      | rol ys =>
        cases hz
        obtain ⟨c, vs, rfl, h3, r3⟩ := h1
        exact ⟨c, vs, rfl, .inl ⟨E.le.sqL h3, fun n hn => q _ _ _ (E.alloc _ hn) (Stp.alloc E hn) ⟨n, vs, rfl, SqT.of upd_same, r3.mono (le_upd (le_none E.le hn))⟩⟩⟩
      | _ => cases hz
/-- sum of ints -/
def intsOf : List D → Option (List Int)
  | [] => some []
  | .int i :: ds => (intsOf ds).map fun ns => i :: ns
  | _ :: _ => none
theorem RepL.intsOf {B : Hp} : ∀ {ds : List D} {vs : List V} {ns : List Int}, RepL K B ds vs → VS.intsOf ds = some ns → vs = ns.map V.int
  | [], _, _, r, h => by
    cases h
    rw [show _ = [] from r]
    rfl
  | d :: ds, _, _, r, h => by
    obtain ⟨v, w, rfl, h1, h2⟩ := r
    cases d with
    | int i =>
      obtain ⟨ms, e1, rfl⟩ := Option.map_eq_some_iff.mp h
      cases h1
      rw [RepL.intsOf h2 e1]
      rfl
    | _ => cases h
def sumD : List D → Option D
  | [.lst xs] => (intsOf xs).map fun ns => .int ns.sum
  | _ => none
theorem ok_sum : OkB K (rSum K) sumD := by
  intro g B H σ δ xs ds z Q E r hz q
  cases ds with
  | nil => cases hz
  | cons d ds =>
    cases ds with
    | cons _ _ => cases d <;> cases hz
    | nil =>
      obtain ⟨v, r', rfl, h1, h2⟩ := r
      cases (show r' = [] from h2)
      cases d with
      | lst ys =>
        obtain ⟨ns, e1, rfl⟩ := Option.map_eq_some_iff.mp hz
        obtain ⟨c, vs, rfl, h3, r3⟩ := h1
        have ev := r3.intsOf e1
        subst ev
        exact ⟨c, ns, rfl, SqL.of (E.le _ _ h3), q B H _ E .refl rfl⟩
      | _ => cases hz

/-! ### isinstance by a built-in class -/
inductive Ty where
  | int | bool | str | list | tuple | dict
def Ty.nm : Ty → String
  | .int => "int" | .bool => "bool" | .str => "str" | .list => "list" | .tuple => "tuple" | .dict => "dict"
def Ty.is : Ty → D → Bool
  | .int, .int _ => true
  | .int, .bl _ => true
  | .bool, .bl _ => true
  | .str, .str _ => true
  | .list, .lst _ => true
  | .list, .rol _ => true
  | .tuple, .tup _ => true
  | .dict, .dct _ => true
  | _, _ => false
def tyN : D → String
  | .non => "NoneType" | .bl _ => "bool" | .int _ => "int" | .str _ => "str" | .lst _ => "list" | .rol _ => "list" | .tup _ => "tuple" | .dct _ => "dict"
theorem Ty.kit (T : Ty) (d : D) : kitB (tyN d) T.nm = some (T.is d) := by
  cases T <;> cases d <;> (simp only [tyN, Ty.nm, Ty.is]; decide +kernel)
theorem Rep.ty {B H : Hp} {d : D} {v : V} (le : Le B H) (h : Rep K B d v) : TyX K H v (.type (tyN d)) := by
  cases d with
  | non => cases h; exact .base .non
  | bl b => cases h; exact .base (.bl _)
  | int b => cases h; exact .base (.int _)
  | str b => cases h; exact .base (.str _)
  | lst xs =>
    obtain ⟨a, vs, rfl, h2, _⟩ := h
    exact .base (.lst (le _ _ h2))
  | rol xs =>
    obtain ⟨a, vs, rfl, h2, _⟩ := h
    rcases le.sqL h2 with (h2 | ⟨o, h2⟩) | ⟨o, its, n, h2, hc, _⟩
    · exact .base (.lst h2)
    · exact .base (.frz h2)
    · exact .kList h2 hc
  | tup xs =>
    obtain ⟨a, vs, rfl, h2, _⟩ := h
    rcases le.sqT h2 with (h2 | ⟨o, h2⟩) | ⟨o, its, n, h2, hc, _⟩
    · exact .base (.tup h2)
    · exact .fTuple h2
    · exact .kTuple h2 hc
  | dct xs =>
    obtain ⟨a, vs, rfl, ⟨o, h2⟩, _⟩ := h
    exact .fDict (le _ _ h2)
def dIsi (T : Ty) (f : Den D) : Den D := fun δ => (f δ).bind fun x δ1 => .ok (.bl (T.is x)) δ1
theorem o_isi (T : Ty) {y : Str} {py p : Pos} {u : Str} (hgI : Gl X u) (hmI : X.mg u = none) (hvI : bootBuiltins u = some (.builtin "isinstance")) (ha : OE X g W e f) (hg : Gl X y) (hm : X.mg y = none) (hv : bootBuiltins y = some (.type T.nm)) (hnI : u ≠ "__name__" := by decide) (hdI : (u == ("__debug__" : Str)) = false := by decide)
    (hn : y ≠ "__name__" := by decide) (hd : (y == ("__debug__" : Str)) = false := by decide) (hs1 : starEach [e, .Name y py] X.env = (false, eval e X.env) :: starEach [.Name y py] X.env := by rfl)
    (hs2 : starEach [Expr.Name y py] X.env = (false, eval (.Name y py) X.env) :: starEach [] X.env := by rfl) (hpl : (backTo pos (starEach [Expr.Name y py] X.env)).any (·.1) = false := by rfl) : OE X g W (.Call (.Name u p) [e, .Name y py] [] pos) (dIsi T f) := by
  refine pe_imp (pe_callB call_isi hgI hmI hvI (pa_cons ha (pa_cons (pe_bltn hg hm hv (v := .ty T.nm) rfl hn hd) pa_nil hs2) hs1) hnI hdI hs1 hpl) fun σ H Q ⟨B, δ, E, p⟩ => ⟨B, δ, E, p.bind.mono fun B1 H1 δ1 x E1 S1 p1 v rv => ?_⟩
  exact ⟨v, .ty T.nm, .type (tyN x), .type T.nm, T.is x, rfl, .ty _, rv.ty E1.le, kit_ty (T.kit x), p1 B1 H1 E1 .refl _ rfl⟩
end
end VS
end

section
set_option Elab.async false
set_option linter.all false
set_option maxRecDepth 100000
/-! VS, part 6: statements and loops. -/
namespace VS
open PySem L2

section
variable {K : PySem.W.Frag} {g : G} {W : WX} {B H B1 H1 : Hp} {σ σ1 : St} {δ δ1 : List Sl} {D' : Ends}
theorem set_len {δ : List Sl} {σ : St} {i : Nat} {s : Sl} {x : Option V} (h : δ.length = σ.length) : (δ.set i s).length = (σ.set i x).length := by rw [List.length_set, List.length_set, h]
theorem set_ow {i : Nat} {s : Sl} {x : Option V} {c : Addr} (hs : ∀ b o, s ≠ .own b o) (h : Ow (σ.set i x) (δ.set i s) c) : Ow σ δ c := by
  obtain ⟨j, b, o, h1, h2⟩ := h
  rcases set_get h1 with ⟨_, q⟩ | ⟨n, q⟩
  · exact absurd q.symm (hs b o)
  · rw [List.getElem?_set_ne n] at h2
    exact ⟨j, b, o, q, h2⟩
/-- a slot is set to data (or forgotten) -/
theorem EnvOk.setD (E : EnvOk K g B H σ δ) {i : Nat} {s : Sl} {x : Option V} (hs : ∀ b o, s ≠ .own b o) (ok : SlOk K g B H s x) : EnvOk K g B H (σ.set i x) (δ.set i s) := by
  refine ⟨E.le, set_len E.len, fun j t ht => ?_, fun j k b p b' p' c h1 h2 h3 h4 => ?_⟩
  · rcases set_get ht with ⟨e, q⟩ | ⟨e, q⟩
    · subst e q
      have hi : i < σ.length := by
        have := (List.getElem?_eq_some_iff.mp ht).1
        rw [List.length_set] at this
        rw [← E.len]
        exact this
      rw [List.getElem?_set_self hi]
      exact ok
    · rw [List.getElem?_set_ne e]
      exact E.at_ j t q
  · rcases set_get h1 with ⟨_, q⟩ | ⟨e, q⟩
    · exact absurd q.symm (hs b p)
    · rcases set_get h2 with ⟨_, q2⟩ | ⟨e2, q2⟩
      · exact absurd q2.symm (hs b' p')
      · rw [List.getElem?_set_ne e] at h3
        rw [List.getElem?_set_ne e2] at h4
        exact E.inj j k _ _ _ _ c q q2 h3 h4
theorem Stp.setD {i : Nat} {s : Sl} {x : Option V} (hs : ∀ b o, s ≠ .own b o) (nb : ∀ o, δ[i]? ≠ some (.own true o)) : Stp B H σ δ B H (σ.set i x) (δ.set i s) :=
  ⟨Le.refl B, fun a u h n => (by rw [h] at n; cases n), fun _ _ h _ => h, fun c h => .inl (set_ow hs h), fun j o h => by
    have n : i ≠ j := fun e => nb o (by rw [e]; exact h)
    exact ⟨o, by rw [List.getElem?_set_ne n]; exact h, by rw [List.getElem?_set_ne n]⟩⟩
/-- a slot is set to something new -/
theorem EnvOk.setN (E : EnvOk K g B H σ δ) {i : Nat} {o : O} {a : Addr} (hn : B a = none) (r : ORep K B H o a) (nw : ¬ Ow σ δ a) : EnvOk K g B H (σ.set i (some (.ref a))) (δ.set i (.own false o)) := by
  have no : ∀ {j : Nat} {b : Bool} {p : O}, δ[j]? = some (.own b p) → σ[j]? ≠ some (some (.ref a)) := fun h1 h2 => nw ⟨_, _, _, h1, h2⟩
  refine ⟨E.le, set_len E.len, fun j t ht => ?_, fun j k b p b' p' c h1 h2 h3 h4 => ?_⟩
  · rcases set_get ht with ⟨e, q⟩ | ⟨e, q⟩
    · subst e q
      have hi : i < σ.length := by
        have := (List.getElem?_eq_some_iff.mp ht).1
        rw [List.length_set] at this
        rw [← E.len]
        exact this
      rw [List.getElem?_set_self hi]
      exact ⟨a, rfl, hn, r⟩
    · rw [List.getElem?_set_ne e]
      exact E.at_ j t q
  · rcases set_get h1 with ⟨e, q⟩ | ⟨e, q⟩
    · rcases set_get h2 with ⟨e2, q2⟩ | ⟨e2, q2⟩
      · exact e.symm.trans e2
      · subst e
        have hi : i < σ.length := by
          have := (List.getElem?_eq_some_iff.mp h1).1
          rw [List.length_set] at this
          rw [← E.len]
          exact this
        rw [List.getElem?_set_self hi] at h3
        cases h3
        rw [List.getElem?_set_ne e2] at h4
        exact absurd h4 (no q2)
    · rcases set_get h2 with ⟨e2, q2⟩ | ⟨e2, q2⟩
      · subst e2
        have hi : i < σ.length := by
          have := (List.getElem?_eq_some_iff.mp h2).1
          rw [List.length_set] at this
          rw [← E.len]
          exact this
        rw [List.getElem?_set_self hi] at h4
        cases h4
        rw [List.getElem?_set_ne e] at h3
        exact absurd h3 (no q)
      · rw [List.getElem?_set_ne e] at h3
        rw [List.getElem?_set_ne e2] at h4
        exact E.inj j k _ _ _ _ c q q2 h3 h4
theorem Stp.setN {B' H' : Hp} (S : Stp B H σ δ B' H' σ δ1) {i : Nat} {o : O} {a : Addr} (nb : ∀ o, δ1[i]? ≠ some (.own true o)) (fr : H a = none ∨ Ow σ δ a) : Stp B H σ δ B' H' (σ.set i (some (.ref a))) (δ1.set i (.own false o)) := by
  refine ⟨S.b, S.nb, S.fr, fun c h => ?_, fun j u h => ?_⟩
  · obtain ⟨j, b, p, h1, h2⟩ := h
    rcases set_get h1 with ⟨e, _⟩ | ⟨e, q⟩
    · subst e
      by_cases hi : i < σ.length
      · rw [List.getElem?_set_self hi] at h2
        cases h2
        exact fr.symm
      · rw [List.getElem?_eq_none (by simpa using hi)] at h2
        cases h2
    · rw [List.getElem?_set_ne e] at h2
      exact S.ow c ⟨j, b, p, q, h2⟩
  · obtain ⟨u', h1, _⟩ := S.br j u h
    have n : i ≠ j := fun e => nb u' (by rw [e]; exact h1)
    exact ⟨u', by rw [List.getElem?_set_ne n]; exact h1, by rw [List.getElem?_set_ne n]⟩
/-- what a slot owns is changed -/
theorem EnvOk.write (E : EnvOk K g B H σ δ) {i : Nat} {b : Bool} {o o' : O} {a : Addr} {u : HO} (h : δ[i]? = some (.own b o)) (ha : σ[i]? = some (some (.ref a))) (r : ORep K B (upd H a u) o' a) :
    EnvOk K g B (upd H a u) σ (δ.set i (.own b o')) ∧ Stp B H σ δ B (upd H a u) σ (δ.set i (.own b o')) := by
  obtain ⟨a', e1, n, _⟩ := E.owned h
  rw [ha] at e1
  cases e1
  have nB : ∀ c w, B c = some w → c ≠ a := fun c w q z => by
    rw [z, n] at q
    cases q
  have ow : ∀ c, Ow σ (δ.set i (.own b o')) c → Ow σ δ c := fun c ⟨j, b', p, h1, h2⟩ => by
    rcases set_get h1 with ⟨e, q⟩ | ⟨_, q⟩
    · subst e
      cases q
      exact ⟨i, b, o, h, h2⟩
    · exact ⟨j, b', p, q, h2⟩
  refine ⟨⟨fun c w q => by rw [upd_ne (nB c w q)]; exact E.le c w q, by rw [List.length_set]; exact E.len, fun j s hs => ?_, fun j k b1 p b2 p' c h1 h2 h3 h4 => ?_⟩, ⟨Le.refl B, fun c w q m => (by rw [q] at m; cases m), fun c w q m => ?_, fun c q => .inl (ow c q), fun j p hj => ?_⟩⟩
  · rcases set_get hs with ⟨e, q⟩ | ⟨e, q⟩
    · subst e q
      exact ⟨a, by rw [ha]; rfl, n, r⟩
    · have k := E.at_ j s q
      cases s with
      | un => exact True.intro
      | dat d => exact k
      | exc c fs => exact k
      | own b2 o2 =>
        obtain ⟨c, e2, n2, r2⟩ := k
        have ne : c ≠ a := fun z => e (E.inj i j _ _ _ _ a h q ha (by rw [Option.join_eq_some_iff.mp e2, z]))
        exact ⟨c, e2, n2, r2.mono (Le.refl B) (upd_ne ne)⟩
  · have g1 : ∃ p, δ[j]? = some (.own b1 p) := by
      rcases set_get h1 with ⟨e, q⟩ | ⟨_, q⟩
      · subst e
        cases q
        exact ⟨o, h⟩
      · exact ⟨p, q⟩
    have g2 : ∃ p, δ[k]? = some (.own b2 p) := by
      rcases set_get h2 with ⟨e, q⟩ | ⟨_, q⟩
      · subst e
        cases q
        exact ⟨o, h⟩
      · exact ⟨p', q⟩
    obtain ⟨p1, q1⟩ := g1
    obtain ⟨p2, q2⟩ := g2
    exact E.inj j k _ _ _ _ c q1 q2 h3 h4
  · rw [upd_ne (fun z => m ⟨i, b, o, h, by rw [z]; exact ha⟩)]
    exact q
  · by_cases e : i = j
    · subst e
      rw [h] at hj
      cases hj
      exact ⟨o', set_same h, rfl⟩
    · exact ⟨p, by rw [List.getElem?_set_ne e]; exact hj, rfl⟩
end

/-! ### targets -/
/-- the i-th slot may be set anew -/
def setSl (i : Nat) (s : Sl) (δ : List Sl) : Option (List Sl) := match δ[i]? with
  | some (.own true _) => none
  | none => none
  | _ => some (δ.set i s)
theorem setSl_some {i : Nat} {s : Sl} {δ δ' : List Sl} (h : setSl i s δ = some δ') : δ' = δ.set i s ∧ (∀ o, δ[i]? ≠ some (.own true o)) ∧ i < δ.length := by
  unfold setSl at h
  split at h
  · cases h
  · cases h
  · rename_i h1 h2
    cases h
    refine ⟨rfl, fun o e => h1 o e, ?_⟩
    by_cases hi : i < δ.length
    · exact hi
    · exact absurd (List.getElem?_eq_none (by simpa using hi)) h2
abbrev Tgt := D → List Sl → Option (List Sl)
def tName (i : Nat) : Tgt := fun d δ => setSl i (.dat d) δ
/-- all but the slots ts are as they were -/
def Agree (ts : List Nat) (σ σ' : St) : Prop := σ'.length = σ.length ∧ ∀ i : Nat, i ∉ ts → σ'[i]? = σ[i]?
theorem Agree.refl {ts : List Nat} {σ : St} : Agree ts σ σ := ⟨rfl, fun _ _ => rfl⟩
theorem Agree.trans {ts us : List Nat} {σ σ1 σ2 : St} (a : Agree ts σ σ1) (b : Agree us σ1 σ2) : Agree (ts ++ us) σ σ2 :=
  ⟨b.1.trans a.1, fun i n => (b.2 i fun z => n (List.mem_append_right _ z)).trans (a.2 i fun z => n (List.mem_append_left _ z))⟩
def tG (K : PySem.W.Frag) (g : G) (ts : List Nat) (s : Tgt) : TG := fun v σ H Q => ∃ B δ d δ', EnvOk K g B H σ δ ∧ Rep K B d v ∧ s d δ = some δ' ∧ ∀ σ', EnvOk K g B H σ' δ' → Stp B H σ δ B H σ' δ' → Agree ts σ σ' → Q σ' H
abbrev OG (X : Cx) (g : G) (tg : Expr) (ts : List Nat) (s : Tgt) : Prop := PG X tg (tG X.K g ts s)
theorem pg_imp {X : Cx} {e : Expr} {t t' : TG} (h : PG X e t) (i : ∀ v σ H Q, t' v σ H Q → t v σ H Q) : PG X e t' := ⟨fun pins s σ H v u Q I r q => h.run pins s σ H v u Q I r (i v σ H Q q)⟩
theorem dat_own {d : D} : ∀ b o, Sl.dat d ≠ .own b o := fun b o z => by cases z
section
variable {X : Cx} {g : G} {W : WX} {a b e : Expr} {f k : Den D} {pos px : Pos} {x : Str}
theorem og_name (nd : X.N.Nodup) (i : Nat) (hi : X.N[i]? = some x := by rfl) (hx : Loc X.env.scope x := by first | exact Or.inl rfl | exact Or.inr rfl) (hf : X.fn x = true ∨ X.env.scope.names.lookup x = some .local := by first | exact .inl rfl | exact .inr rfl) : OG X g (.Name x px) [i] (tName i) := by
  refine pg_imp (pg_name nd hi hx hf) fun v σ H Q ⟨B, δ, d, δ', E, r, hs, q⟩ => ?_
  obtain ⟨rfl, nb, _⟩ := setSl_some hs
  exact q _ (E.setD dat_own ⟨v, rfl, r⟩) (Stp.setD dat_own nb) ⟨by rw [List.length_set], fun j n => List.getElem?_set_ne (fun z => n (by rw [z]; exact List.mem_singleton.mpr rfl))⟩
/-- several targets -/
def tNames : List Tgt → List D → List Sl → Option (List Sl)
  | [], [], δ => some δ
  | s :: ss, d :: ds, δ => (s d δ).bind fun δ' => tNames ss ds δ'
  | _, _, _ => none
def tTupG (ss : List Tgt) : Tgt := fun d δ => match d with
  | .tup ds => tNames ss ds δ
  | _ => none
def tGs (K : PySem.W.Frag) (g : G) (ts : List Nat) (ss : List Tgt) : TGs := fun vs σ H Q => ∃ B δ ds δ', EnvOk K g B H σ δ ∧ RepL K B ds vs ∧ tNames ss ds δ = some δ' ∧ ∀ σ', EnvOk K g B H σ' δ' → Stp B H σ δ B H σ' δ' → Agree ts σ σ' → Q σ' H
abbrev OGs (X : Cx) (g : G) (tg : List Expr) (ts : List Nat) (s : List Tgt) : Prop := PGs X tg (tGs X.K g ts s)
theorem pgs_imp {X : Cx} {e : List Expr} {t t' : TGs} (h : PGs X e t) (i : ∀ v σ H Q, t' v σ H Q → t v σ H Q) : PGs X e t' := ⟨fun pins s σ H v u Q I r q => h.run pins s σ H v u Q I r (i v σ H Q q)⟩
theorem ogs_nil : OGs X g [] [] [] := by
  refine pgs_imp pgs_nil fun vs σ H Q ⟨B, δ, ds, δ', E, r, hs, q⟩ => ?_
  cases ds with
  | nil =>
    cases hs
    exact ⟨r, q σ E .refl .refl⟩
  | cons _ _ => cases hs
theorem ogs_cons {es : List Expr} {s : Tgt} {ss : List Tgt} {t1 t2 : List Nat} (h : OG X g e t1 s) (h2 : OGs X g es t2 ss) (hs : (assignEach (e :: es) X.env).map (·.2) = assign e X.env :: (assignEach es X.env).map (·.2) := by rfl) : OGs X g (e :: es) (t1 ++ t2) (s :: ss) := by
  refine pgs_imp (pgs_cons h h2 hs) fun vs σ H Q ⟨B, δ, ds, δ', E, r, hs, q⟩ => ?_
  cases ds with
  | nil => cases hs
  | cons d ds =>
    obtain ⟨v, w, rfl, r1, r2⟩ := r
    obtain ⟨δ1, h1, h2⟩ := Option.bind_eq_some_iff.mp hs
    exact ⟨v, w, rfl, B, δ, d, δ1, E, r1, h1, fun σ1 E1 S1 A1 => ⟨B, δ1, ds, δ', E1, r2, h2, fun σ2 E2 S2 A2 => q σ2 E2 (S1.trans S2) (A1.trans A2)⟩⟩
theorem tNames_len : ∀ {ss : List Tgt} {ds : List D} {δ δ' : List Sl}, tNames ss ds δ = some δ' → ds.length = ss.length
  | [], [], _, _, _ => rfl
  | s :: ss, d :: ds, δ, _, h => by
    obtain ⟨δ1, _, h2⟩ := Option.bind_eq_some_iff.mp h
    rw [List.length_cons, List.length_cons, tNames_len h2]
  | [], _ :: _, _, _, h => by cases h
  | _ :: _, [], _, _, h => by cases h
theorem og_tup {es : List Expr} {j : Nat} {ss : List Tgt} {ts : List Nat} (hc : X.calm = true) (h : OGs X g es ts ss) (hl : (assignEach es X.env).length = ss.length := by rfl) (hst : (assignEach es X.env).findIdx? (·.1) = none := by rfl) : OG X g (.Tuple es j px) ts (tTupG ss) := by
  refine pg_imp (pg_tup hc h hl hst) fun v σ H Q ⟨B, δ, d, δ', E, r, hs, q⟩ => ?_
  cases d with
  | tup ds =>
    obtain ⟨c, vs, rfl, h1, r1⟩ := r
    exact ⟨c, vs, rfl, E.le.sqT h1, by rw [r1.length]; exact tNames_len hs, B, δ, ds, δ', E, r1, hs, q⟩
  | _ => cases hs

/-! ### small statements -/
def dNext : Den Fl := fun δ => .ok .nxt δ
def dSeq (f k : Den Fl) : Den Fl := fun δ => (f δ).next k
variable {st : Stmt} {rest body : List Stmt} {u w : Den Fl} {t : Den Bool}
theorem oss_nil : OSs X g W [] dNext := pss_imp pss_nil fun D σ H ⟨B, δ, E, p⟩ => p B H σ E .refl
theorem oss_cons (h : OS X g W st u) (h2 : OSs X g W rest w) : OSs X g W (st :: rest) (dSeq u w) := by
  refine pss_imp (pss_cons h h2) fun D σ H ⟨B, δ, E, p⟩ => ⟨B, δ, E, ?_⟩
  exact p.seq
theorem oss_one (h : OS X g W st u) : OSs X g W [st] u := pss_one h
theorem os_pass : OS X g W (.Pass pos) dNext := ps_imp ps_pass fun D σ H ⟨B, δ, E, p⟩ => p B H σ E .refl
def dBrk : Den Fl := fun δ => .ok .brk δ
def dCnt : Den Fl := fun δ => .ok .cnt δ
theorem os_break : OS X g W (.Break pos) dBrk := ps_imp ps_break fun D σ H ⟨B, δ, E, p⟩ => p B H σ E .refl
theorem os_continue : OS X g W (.Continue pos) dCnt := ps_imp ps_continue fun D σ H ⟨B, δ, E, p⟩ => p B H σ E .refl
def dDrop (f : Den D) : Den Fl := fun δ => (f δ).bind fun _ δ1 => .ok .nxt δ1
theorem os_expr (h : OE X g W e f) (hs : swapsWith e none pos.line X.env = pure false := by rfl) : OS X g W (.Expr e pos) (dDrop f) := by
  refine ps_imp (ps_expr h hs) fun D σ H ⟨B, δ, E, p⟩ => ⟨B, δ, E, p.bind.mono fun B1 H1 δ1 x E1 S1 p1 v rv => ?_⟩
  exact p1 B1 H1 σ E1 .refl
def dRet (f : Den D) : Den Fl := fun δ => (f δ).bind fun d δ1 => .ok (.ret (.dat d)) δ1
theorem os_ret (h : OE X g W e f) : OS X g W (.Return (some e) pos) (dRet f) := by
  refine ps_imp (ps_ret h) fun D σ H ⟨B, δ, E, p⟩ => ⟨B, δ, E, p.bind.mono fun B1 H1 δ1 x E1 S1 p1 v rv => ?_⟩
  exact p1 B1 H1 σ v E1 .refl rv
def dRetN : Den Fl := fun δ => .ok (.ret (.dat .non)) δ
theorem os_retN : OS X g W (.Return none pos) dRetN := ps_imp ps_retN fun D σ H ⟨B, δ, E, p⟩ => p B H σ .non E .refl rfl
def dRetO (f : Den O) : Den Fl := fun δ => (f δ).bind fun o δ1 => .ok (.ret (.new o)) δ1
theorem os_retO {fo : Den O} (h : ON X g W e fo) : OS X g W (.Return (some e) pos) (dRetO fo) := by
  refine ps_imp (ps_ret h) fun D σ H ⟨B, δ, E, p⟩ => ⟨B, δ, E, ?_⟩
  unfold dRetO at p
  revert p
  cases fo δ with
  | stuck => exact id
  | exc c fs δ1 => exact fun p B' H' C d E2 S2 x => p B' H' σ C d E2 S2 x
  | ok o δ1 =>
    intro p B1 H1 E1 S1 v rv
    obtain ⟨c, rfl, n, r, nw, fr⟩ := rv
    exact p B1 H1 σ _ E1 S1 ⟨c, rfl, n, r, fun i u h1 h2 => nw ⟨i, true, u, h1, h2⟩, fr⟩
/-- return x, x an owned slot: it goes -/
def dRetV (i : Nat) : Den Fl := fun δ => match δ[i]? with
  | some (.dat d) => .ok (.ret (.dat d)) δ
  | some (.own false o) => .ok (.ret (.new o)) δ
  | _ => .stuck
theorem os_retV (i : Nat) (hN : X.N[i]? = some x := by rfl) (hv : Vis X.env.scope x := by first | exact Or.inl rfl | exact Or.inr (Or.inl rfl) | exact Or.inr (Or.inr rfl)) (hd : (x == ("__debug__" : Str)) = false := by decide)
    (hcd : (x == ("__classdict__" : Str)) = false := by decide) : OS X g W (.Return (some (.Name x px)) pos) (dRetV i) := by
  refine ps_imp (ps_ret (pe_var hN hv hd hcd)) fun D σ H ⟨B, δ, E, p⟩ => ?_
  unfold dRetV at p
  cases h : δ[i]? with
  | none =>
    rw [h] at p
    exact False.elim p
  | some s =>
    rw [h] at p
    cases s with
    | un => exact False.elim p
    | exc c fs => exact False.elim p
    | dat d =>
      obtain ⟨v, e1, r⟩ := E.slot h
      exact ⟨v, e1, p B H σ v E .refl r⟩
    | own b o =>
      cases b with
      | true => exact False.elim p
      | false =>
        obtain ⟨c, e1, n, r⟩ := E.owned h
        exact ⟨.ref c, e1, p B H σ _ E .refl ⟨c, rfl, n, r, fun j u h1 h2 => (by
          have z := E.inj i j _ _ _ _ c h h1 e1 h2
          subst z
          rw [h] at h1
          cases h1), .inr ⟨i, false, o, h, e1⟩⟩⟩
/-- target = e -/
def dAsg (s : Tgt) (f : Den D) : Den Fl := fun δ => (f δ).bind fun d δ1 => match s d δ1 with
  | some δ2 => .ok .nxt δ2
  | none => .stuck
theorem asg_of {s : Tgt} {ts : List Nat} (D : Ends) (σ : St) (H : Hp) (h : tS X.K g W (dAsg s f) D σ H) : tAsg (tX X.K g W (RlD X.K) f) (tG X.K g ts s) D σ H := by
  obtain ⟨B, δ, E, p⟩ := h
  refine ⟨B, δ, E, p.bind.mono fun B1 H1 δ1 x E1 S1 p1 v rv => ?_⟩
  cases q : s x δ1 with
  | none =>
    rw [q] at p1
    exact False.elim p1
  | some δ2 =>
    rw [q] at p1
    exact ⟨B1, δ1, x, δ2, E1, rv, q, fun σ2 E2 S2 _ => p1 B1 H1 σ2 E2 S2⟩
theorem os_asg {tg : Expr} {s : Tgt} {ts : List Nat} (he : OE X g W e f) (hg : OG X g tg ts s) (hs : swapsWithSole [tg] e pos.line X.env = pure false := by rfl) (hw : swappedStores [tg] e X.env = pure none := by rfl)
    (h1 : (assignEach [tg] X.env).map (·.2) = [assign tg X.env] := by rfl) : OS X g W (.Assign [tg] e pos) (dAsg s f) := ps_imp (ps_asg he hg hs hw h1) fun D σ H h => asg_of D σ H h
theorem os_set (nd : X.N.Nodup) (i : Nat) (he : OE X g W e f) (hi : X.N[i]? = some x := by rfl) (hx : Loc X.env.scope x := by first | exact Or.inl rfl | exact Or.inr rfl) (hs : swapsWith e (some (.Name x px)) pos.line X.env = pure false := by rfl)
    (hf : X.fn x = true ∨ X.env.scope.names.lookup x = some .local := by first | exact .inl rfl | exact .inr rfl) : OS X g W (.Assign [.Name x px] e pos) (dAsg (tName i) f) := by
  refine ps_imp (ps_set nd hi hx he hs hf) fun D σ H ⟨B, δ, E, p⟩ => ⟨B, δ, E, p.bind.mono fun B1 H1 δ1 x E1 S1 p1 v rv => ?_⟩
  cases q : tName i x δ1 with
  | none =>
    rw [q] at p1
    exact False.elim p1
  | some δ2 =>
    rw [q] at p1
    obtain ⟨rfl, nb, _⟩ := setSl_some q
    exact p1 B1 H1 _ (E1.setD dat_own ⟨v, rfl, rv⟩) (Stp.setD dat_own nb)
/-- x = something new, x its owner -/
def dAsgO (i : Nat) (f : Den O) : Den Fl := fun δ => (f δ).bind fun o δ1 => match setSl i (.own false o) δ1 with
  | some δ2 => .ok .nxt δ2
  | none => .stuck
theorem setO_of {i : Nat} {fo : Den O} (D : Ends) (σ : St) (H : Hp) (h : tS X.K g W (dAsgO i fo) D σ H) : tAsg (tX X.K g W (RlN X.K) fo) (gName i) D σ H := by
  obtain ⟨B, δ, E, p⟩ := h
  refine ⟨B, δ, E, ?_⟩
  unfold dAsgO at p
  revert p
  cases fo δ with
  | stuck => exact id
  | exc c fs δ1 => exact fun p B' H' C d E2 S2 x => p B' H' σ C d E2 S2 x
  | ok o δ1 =>
    intro p B1 H1 E1 S1 v rv
    obtain ⟨c, rfl, n, r, nw, fr⟩ := rv
    have p : PostS X.K g W B H σ δ (match setSl i (.own false o) δ1 with | some δ2 => .ok .nxt δ2 | none => .stuck) D := p
    cases q : setSl i (.own false o) δ1 with
    | none =>
      rw [q] at p
      exact False.elim p
    | some δ2 =>
      rw [q] at p
      obtain ⟨rfl, nb, _⟩ := setSl_some q
      exact p B1 H1 _ (E1.setN n r nw) (S1.setN nb fr)
theorem os_setO {fo : Den O} (nd : X.N.Nodup) (i : Nat) (he : ON X g W e fo) (hi : X.N[i]? = some x := by rfl) (hx : Loc X.env.scope x := by first | exact Or.inl rfl | exact Or.inr rfl) (hs : swapsWith e (some (.Name x px)) pos.line X.env = pure false := by rfl)
    (hf : X.fn x = true ∨ X.env.scope.names.lookup x = some .local := by first | exact .inl rfl | exact .inr rfl) : OS X g W (.Assign [.Name x px] e pos) (dAsgO i fo) := ps_imp (ps_set nd hi hx he hs hf) fun D σ H h => setO_of D σ H h
def dIfS (t : Den Bool) (u w : Den Fl) : Den Fl := fun δ => (t δ).bind fun b δ1 => match b with
  | true => u δ1
  | false => w δ1
theorem os_if {c : Expr} {l m : List Stmt} (h : OT X g W c t) (h1 : OSs X g W l u) (h2 : OSs X g W m w) : OS X g W (.If c l m pos) (dIfS t u w) := by
  refine ps_imp (ps_if h h1 h2) fun D σ H ⟨B, δ, E, p⟩ => ⟨B, δ, E, p.bind.mono fun B1 H1 δ1 x E1 S1 p1 v rv => ?_⟩
  subst rv
  cases v with
  | true =>
    rw [if_pos rfl]
    exact ⟨B1, δ1, E1, p1⟩
  | false =>
    rw [if_neg Bool.false_ne_true]
    exact ⟨B1, δ1, E1, p1⟩
/-- code that is never reached -/
def dNever : Den Fl := fun _ => .stuck
theorem os_never : OS X g W st dNever := ps_imp ps_never fun D σ H ⟨B, δ, E, p⟩ => p

/-! ### x += e, by its operator's rule -/
def dAug (fn : D → D → Option D) (i : Nat) (f : Den D) : Den Fl := fun δ => match δ[i]? with
  | some (.dat x) => (f δ).bind fun y δ1 => match fn x y with
    | some z => (match setSl i (.dat z) δ1 with
      | some δ2 => .ok .nxt δ2
      | none => .stuck)
    | none => .stuck
  | _ => .stuck
theorem os_aug {op : Operator} {r : R2} {fn : D → D → Option D} (nd : X.N.Nodup) (i : Nat) (ho : PIp X op r) (hr : Ok2 X.K r fn) (he : OE X g W e f) (hi : X.N[i]? = some x := by rfl) (hx : Loc X.env.scope x := by first | exact Or.inl rfl | exact Or.inr rfl)
    (hf : X.fn x = true ∨ X.env.scope.names.lookup x = some .local := by first | exact .inl rfl | exact .inr rfl) : OS X g W (.AugAssign (.Name x px) op e pos) (dAug fn i f) := by
  refine ps_imp (ps_aug nd hi hx he ho hf) fun D σ H ⟨B, δ, E, p⟩ => ?_
  unfold dAug at p
  split at p
  · rename_i d0 h0
    obtain ⟨v0, e0, r0⟩ := E.slot h0
    refine ⟨v0, e0, B, δ, E, p.bind.mono fun B1 H1 δ1 y E1 S1 p1 v rv => ?_⟩
    cases q : fn d0 y with
    | none =>
      rw [q] at p1
      exact False.elim p1
    | some z =>
      rw [q] at p1
      cases q2 : setSl i (.dat z) δ1 with
      | none =>
        simp only [q2] at p1
        exact False.elim p1
      | some δ2 =>
        simp only [q2] at p1
        obtain ⟨rfl, nb, _⟩ := setSl_some q2
        exact hr g B1 H1 σ δ1 v0 v d0 y z _ E1 (r0.mono S1.b) rv q fun B2 H2 t E2 S2 rt => p1 B2 H2 _ (E2.setD dat_own ⟨t, rfl, rt⟩) (S2.trans (Stp.setD dat_own nb))
  · exact False.elim p

/-! ### a list that a slot owns, changed -/
/-- x[i] = e -/
def dSetLL (i : Nat) (f k : Den D) : Den Fl := fun δ => (f δ).bind fun d δ1 => match viewL δ1[i]? with
  | some _ => (k δ1).bind fun y δ2 => match δ2[i]?, y with
    | some (.own b (.lst xs)), .int j => (match ixN xs.length j with
      | some n => .ok .nxt (δ2.set i (.own b (.lst (xs.set n d))))
      | none => .stuck)
    | _, _ => .stuck
  | none => .stuck
theorem os_setLL (i : Nat) {ix : Expr} {ps : Pos} (he : OE X g W e f) (hk : OE X g W ix k) (hN : X.N[i]? = some x := by rfl) (hv : Vis X.env.scope x := by first | exact Or.inl rfl | exact Or.inr (Or.inl rfl) | exact Or.inr (Or.inr rfl)) (hd : (x == ("__debug__" : Str)) = false := by decide)
    (hcd : (x == ("__classdict__" : Str)) = false := by decide)
    (ha : ∀ v, assign (.Subscript (.Name x px) ix ps) X.env v = (do
      let ov ← holding [v] (eval (.Name x px) X.env)
      let iv ← holding [v, ov] (eval ix X.env)
      standAt ps
      holding [v, ov, iv] (setItem ov iv v)
      release [v, ov, iv] []) := by intro _; rfl)
    (hs : swapsWithSole [Expr.Subscript (.Name x px) ix ps] e pos.line X.env = pure false := by rfl) (hw : swappedStores [Expr.Subscript (.Name x px) ix ps] e X.env = pure none := by rfl)
    (h1 : (assignEach [Expr.Subscript (.Name x px) ix ps] X.env).map (·.2) = [assign (.Subscript (.Name x px) ix ps) X.env] := by rfl) : OS X g W (.Assign [.Subscript (.Name x px) ix ps] e pos) (dSetLL i f k) := by
  refine ps_imp (ps_asg he (pg_sub (pe_var hN hv hd hcd) hk set_list ha) hs hw h1) fun D σ H ⟨B, δ, E, p⟩ => ⟨B, δ, E, p.bind.mono fun B1 H1 δ1 d E1 S1 p1 v rv => ?_⟩
  split at p1
  · rename_i xs0 h0
    obtain ⟨a0, vs0, e0, _, _⟩ := E1.viewL h0
    refine ⟨.ref a0, e0, B1, δ1, E1, p1.bind.mono fun B2 H2 δ2 y E2 S2 p2 w rw' => ?_⟩
    split at p2
    · rename_i b xs j h2
      split at p2
      · rename_i n hn
        obtain ⟨a1, e1, m1, vs, h3, r3⟩ := E2.owned h2
        rw [e0] at e1
        cases e1
        have hw2 := E2.write (o' := .lst (xs.set n d)) (u := .lst (vs.set n v)) h2 e0 ⟨_, upd_same, r3.set (rv.mono S2.b) n⟩
        exact ⟨a0, vs, j, n, rfl, rw', h3, by rw [r3.length]; exact hn, p2 B2 _ σ hw2.1 hw2.2⟩
      · exact False.elim p2
    · exact False.elim p2
  · exact False.elim p1
/-- x.append(e) -/
def dApp (i : Nat) (f : Den D) : Den Fl := fun δ => match viewL δ[i]? with
  | some _ => (f δ).bind fun d δ1 => match δ1[i]? with
    | some (.own b (.lst xs)) => (match decide (xs.length < 100000) with
      | true => .ok .nxt (δ1.set i (.own b (.lst (xs ++ [d]))))
      | false => .stuck)
    | _ => .stuck
  | none => .stuck
theorem os_app (i : Nat) {pa pc : Pos} (he : OE X g W e f) (hN : X.N[i]? = some x := by rfl) (hv : Vis X.env.scope x := by first | exact Or.inl rfl | exact Or.inr (Or.inl rfl) | exact Or.inr (Or.inr rfl)) (hd : (x == ("__debug__" : Str)) = false := by decide)
    (hcd : (x == ("__classdict__" : Str)) = false := by decide) {t : TA} (hp : PE X (.Call (.Attribute (.Name x px) "append" pa) [e] [] pc) (tBM X.K "list" rAppend (tVar i) (tCons (tX X.K g W (RlD X.K) f) tNil)))
    (hs : swapsWith (.Call (.Attribute (.Name x px) "append" pa) [e] [] pc) none pos.line X.env = pure false := by rfl) : OS X g W (.Expr (.Call (.Attribute (.Name x px) "append" pa) [e] [] pc) pos) (dApp i f) := by
  refine ps_imp (ps_expr hp hs) fun D σ H ⟨B, δ, E, p⟩ => ?_
  unfold dApp at p
  split at p
  · rename_i xs0 h0
    obtain ⟨a0, vs0, e0, m0, r0⟩ := E.viewL h0
    refine ⟨.ref a0, e0, .inl ⟨rfl, _, SqL.of m0⟩, B, δ, E, p.bind.mono fun B1 H1 δ1 d E1 S1 p1 v rv => ?_⟩
    split at p1
    · rename_i b xs h2
      obtain ⟨a1, e1, m1, vs, h3, r3⟩ := E1.owned h2
      rw [e0] at e1
      cases e1
      split at p1
      · rename_i hl
        have hw2 := E1.write (o' := .lst (xs ++ [d])) (u := .lst (vs ++ [v])) h2 e0 ⟨_, upd_same, r3.append (RepL.cons rv RepL.nil)⟩
        exact ⟨a0, vs, v, rfl, rfl, h3, by rw [r3.length]; exact Nat.lt_of_lt_of_le (of_decide_eq_true hl) (by decide), p1 B1 _ σ hw2.1 hw2.2⟩
      · exact False.elim p1
    · exact False.elim p1
  · exact False.elim p

/-! ### loops -/
/-- a turn of a loop, then k -/
def Res.turn (r : Res Fl) (k : Den Fl) : Res Fl := match r with
  | .ok .nxt δ => k δ
  | .ok .cnt δ => k δ
  | .ok .brk δ => .ok .nxt δ
  | r => r
theorem PostS.turn {K : PySem.W.Frag} {B H : Hp} {σ : St} {δ : List Sl} {D : Ends} {r : Res Fl} {k : Den Fl} (h : PostS K g W B H σ δ (r.turn k) D) {N : St → Hp → Prop}
    (hN : ∀ B' H' σ' δ', EnvOk K g B' H' σ' δ' → Stp B H σ δ B' H' σ' δ' → PostS K g W B' H' σ' δ' (k δ') D → N σ' H') : PostS K g W B H σ δ r { D with nx := N, ct := N, bk := D.nx } := by
  cases r with
  | stuck => exact h
  | exc c fs δ' => exact h
  | ok a δ' =>
    cases a with
    | brk => exact h
    | ret rv => exact h
    | nxt =>
      have h : PostS K g W B H σ δ (k δ') D := h
      exact fun B' H' σ' E2 S2 => hN B' H' σ' δ' E2 S2 (h.back S2)
    | cnt =>
      have h : PostS K g W B H σ δ (k δ') D := h
      exact fun B' H' σ' E2 S2 => hN B' H' σ' δ' E2 S2 (h.back S2)
def dWhile (t : Den Bool) (u : Den Fl) : Nat → Den Fl
  | 0, _ => .stuck
  | n + 1, δ => (t δ).bind fun b δ1 => match b with
    | true => (u δ1).turn (dWhile t u n)
    | false => .ok .nxt δ1
theorem os_while {c : Expr} (n : Nat) (po : PassesOwn (model X.prog X.w) X.A X.env X.xe) (h : OT X g W c t) (hb : OSs X g W body u) : OS X g W (.While c body [] pos) (dWhile t u n) := by
  refine ps_imp (ps_while po h hb) fun D σ H ⟨B, δ, E, p⟩ => ?_
  refine ⟨fun m σ' H' => ∃ B' δ', EnvOk X.K g B' H' σ' δ' ∧ PostS X.K g W B' H' σ' δ' (dWhile t u m δ') D, ⟨n, B, δ, E, p⟩, ?_⟩
  rintro m σ1 H1 ⟨B1, δ1, E1, p1⟩
  cases m with
  | zero => exact False.elim p1
  | succ m =>
    refine ⟨B1, δ1, E1, p1.bind.mono fun B2 H2 δ2 b E2 S2 p2 b' eb => ?_⟩
    subst eb
    cases b' with
    | false =>
      rw [if_neg Bool.false_ne_true]
      exact p2 B2 H2 σ1 E2 .refl
    | true =>
      rw [if_pos rfl]
      exact ⟨fun σ' H' => ∃ B' δ', EnvOk X.K g B' H' σ' δ' ∧ PostS X.K g W B' H' σ' δ' (dWhile t u m δ') D, fun σ' H' q => ⟨m, Nat.lt_succ_self m, q⟩, B2, δ2, E2, p2.turn fun B' H' σ' δ' E3 S3 q => ⟨B', δ', E3, q⟩⟩

/-- what an iterator gives, once B is known -/
def IterOk (K : PySem.W.Frag) (g : G) (B : Hp) (J : It) (ds : List D) : Prop := ∀ B2 H2 σ δ, EnvOk K g B2 H2 σ δ → Le B B2 →
  (∀ (i : Nat) (d : D), ds[i]? = some d → J.go i H2 ∧ ∀ x H3, J.yld i H2 x H3 → ∃ B3, EnvOk K g B3 H3 σ δ ∧ Stp B2 H2 σ δ B3 H3 σ δ ∧ Rep K B3 d x) ∧ J.stop ds.length H2
def tI (K : PySem.W.Frag) (g : G) (W : WX) (f : Den (List D)) : TI := fun σ H R => ∃ B δ, EnvOk K g B H σ δ ∧ Post K g W B H σ δ (f δ) (fun B' H' δ' ds => ∀ J, IterOk K g B' J ds → R J H')
abbrev OI (X : Cx) (g : G) (W : WX) (tg iter : Expr) (f : Den (List D)) : Prop := PI X tg iter (tI X.K g W f)
theorem pi_imp {X : Cx} {tg e : Expr} {t t' : TI} (h : PI X tg e t) (i : ∀ σ H R, t' σ H R → t σ H R) : PI X tg e t' := ⟨fun pins s σ H R I q => h.run pins s σ H R I (i σ H R q)⟩
def itemsD : D → Option (List D)
  | .lst xs => some xs
  | .rol xs => some xs
  | _ => none
def dItems (f : Den D) : Den (List D) := fun δ => (f δ).bind fun x δ1 => .lift (itemsD x) δ1
theorem oi_list {tg iter : Expr} (h : OE X g W iter f) : OI X g W tg iter (dItems f) := by
  refine pi_imp (pi_list h) fun σ H R ⟨B, δ, E, p⟩ => ⟨B, δ, E, p.bind.mono fun B1 H1 δ1 x E1 S1 p1 v rv => ?_⟩
  obtain ⟨ds, hz, q⟩ := p1.lift
  have q := q B1 H1 E1 .refl
  cases x with
  | lst xs =>
    cases hz
    obtain ⟨c, vs, rfl, h1, r1⟩ := rv
    exact ⟨c, rfl, ⟨vs, SqL.of (E1.le _ _ h1)⟩, q _ fun B2 H2 σ δ E le => (by
      have h2 : SqL X.K H2 c vs := (le.trans E.le).sqL (SqL.of h1)
      refine ⟨fun i d hd => ?_, ⟨vs, h2, by rw [r1.length]; exact Nat.le_refl _⟩⟩
      obtain ⟨v, hv, rv⟩ := r1.get hd
      refine ⟨⟨vs, v, h2, hv⟩, fun x H3 ⟨e, q⟩ => ?_⟩
      subst e
      have z := q vs h2
      rw [hv] at z
      cases z
      exact ⟨B2, E, .refl, rv.mono le⟩)⟩
  | rol xs =>
    cases hz
    obtain ⟨c, vs, rfl, h1, r1⟩ := rv
    exact ⟨c, rfl, ⟨vs, E1.le.sqL h1⟩, q _ fun B2 H2 σ δ E le => (by
      have h2 : SqL X.K H2 c vs := (le.trans E.le).sqL h1
      refine ⟨fun i d hd => ?_, ⟨vs, h2, by rw [r1.length]; exact Nat.le_refl _⟩⟩
      obtain ⟨v, hv, rv⟩ := r1.get hd
      refine ⟨⟨vs, v, h2, hv⟩, fun x H3 ⟨e, q⟩ => ?_⟩
      subst e
      have z := q vs h2
      rw [hv] at z
      cases z
      exact ⟨B2, E, .refl, rv.mono le⟩)⟩
  | _ => cases hz
def itemsT : D → Option (List D)
  | .tup xs => some xs
  | _ => none
def dItemsT (f : Den D) : Den (List D) := fun δ => (f δ).bind fun x δ1 => .lift (itemsT x) δ1
theorem oi_tup {tg iter : Expr} (h : OE X g W iter f) : OI X g W tg iter (dItemsT f) := by
  refine pi_imp (pi_tup h) fun σ H R ⟨B, δ, E, p⟩ => ⟨B, δ, E, p.bind.mono fun B1 H1 δ1 x E1 S1 p1 v rv => ?_⟩
  obtain ⟨ds, hz, q⟩ := p1.lift
  have q := q B1 H1 E1 .refl
  cases x with
  | tup xs =>
    cases hz
    obtain ⟨c, vs, rfl, h1, r1⟩ := rv
    exact ⟨c, rfl, ⟨vs, E1.le.sqT h1⟩, q _ fun B2 H2 σ δ E le => (by
      have h2 : SqT X.K H2 c vs := (le.trans E.le).sqT h1
      refine ⟨fun i d hd => ?_, ⟨vs, h2, by rw [r1.length]; exact Nat.le_refl _⟩⟩
      obtain ⟨v, hv, rv⟩ := r1.get hd
      refine ⟨⟨vs, v, h2, hv⟩, fun x H3 ⟨e, q⟩ => ?_⟩
      subst e
      have z := q vs h2
      rw [hv] at z
      cases z
      exact ⟨B2, E, .refl, rv.mono le⟩)⟩
  | _ => cases hz
/-- lo, lo + 1, .. -/
@[irreducible] def upto (lo : Int) (n : Nat) : List D := (List.range n).map fun (i : Nat) => D.int (lo + (i : Int))
theorem iter_range {K : PySem.W.Frag} {B : Hp} {lo : Int} {n : Nat} : IterOk K g B (Itr lo n) (upto lo n) := by
  intro B2 H2 σ δ E le
  have ln : (upto lo n).length = n := by unfold upto; rw [List.length_map, List.length_range]
  refine ⟨fun i d hd => ?_, by rw [ln]; exact Nat.le_refl _⟩
  have hi : i < n := by
    have := (List.getElem?_eq_some_iff.mp hd).1
    rw [ln] at this
    exact this
  have ed : d = .int (lo + i) := by
    unfold upto at hd
    rw [List.getElem?_map, List.getElem?_range hi] at hd
    exact (Option.some.inj hd).symm
  refine ⟨hi, fun x H3 ⟨e, q⟩ => ?_⟩
  subst e ed
  exact ⟨B2, E, .refl, q⟩
@[irreducible] def okR (j : Int) : Bool := decide (-(2 ^ 62) ≤ j ∧ j < 2 ^ 62)
theorem okR_iff {j : Int} : okR j = true ↔ -(2 ^ 62) ≤ j ∧ j < 2 ^ 62 := by
  unfold okR
  exact decide_eq_true_iff
def rng1 : List D → Option (List D)
  | [.int j] => if okR j = true then some (upto 0 j.toNat) else none
  | _ => none
def rng2 : List D → Option (List D)
  | [.int i, .int j] => if okR i = true ∧ okR j = true then some (upto i (j - i).toNat) else none
  | _ => none
def dRng (rg : List D → Option (List D)) (fs : Den (List D)) : Den (List D) := fun δ => (fs δ).bind fun ds δ1 => .lift (rg ds) δ1
variable {fs : Den (List D)}
theorem rng1_of {ds xs : List D} (h : rng1 ds = some xs) : ∃ j, ds = [.int j] ∧ (-(2 ^ 62) ≤ j ∧ j < 2 ^ 62) ∧ xs = upto 0 j.toNat := by
  unfold rng1 at h
  split at h
  · rename_i j
    by_cases c : okR j = true
    · rw [if_pos c] at h
      cases h
      exact ⟨j, rfl, okR_iff.mp c, rfl⟩
    · rw [if_neg c] at h
      cases h
  · cases h
theorem rng2_of {ds xs : List D} (h : rng2 ds = some xs) : ∃ i j, ds = [.int i, .int j] ∧ (-(2 ^ 62) ≤ i ∧ i < 2 ^ 62 ∧ -(2 ^ 62) ≤ j ∧ j < 2 ^ 62) ∧ xs = upto i (j - i).toNat := by
  unfold rng2 at h
  split at h
  · rename_i i j
    by_cases c : okR i = true ∧ okR j = true
    · rw [if_pos c] at h
      cases h
      exact ⟨i, j, rfl, ⟨(okR_iff.mp c.1).1, (okR_iff.mp c.1).2, (okR_iff.mp c.2).1, (okR_iff.mp c.2).2⟩, rfl⟩
    · rw [if_neg c] at h
      cases h
  · cases h
theorem one_int {K : PySem.W.Frag} {B : Hp} {j : Int} {xs : List V} (r : RepL K B [.int j] xs) : xs = [.int j] := by
  obtain ⟨v, r', rfl, h1, h2⟩ := r
  cases h1
  cases (show r' = [] from h2)
  rfl
theorem rng1_R {σ : St} {H : Hp} {R : It → Hp → Prop} (h : tI X.K g W (dRng rng1 fs) σ H R) : iRng1 (tX X.K g W (RlA X.K) fs) σ H R := by
  obtain ⟨B, δ, E, p⟩ := h
  refine ⟨B, δ, E, p.bind.mono fun B1 H1 δ1 ds E1 S1 p1 vs rv => ?_⟩
  obtain ⟨xs, hz, q⟩ := p1.lift
  obtain ⟨j, rfl, c, rfl⟩ := rng1_of hz
  exact ⟨j, one_int rv, c.1, c.2, q B1 H1 E1 .refl _ iter_range⟩
theorem rng2_R {σ : St} {H : Hp} {R : It → Hp → Prop} (h : tI X.K g W (dRng rng2 fs) σ H R) : iRng2 (tX X.K g W (RlA X.K) fs) σ H R := by
  obtain ⟨B, δ, E, p⟩ := h
  refine ⟨B, δ, E, p.bind.mono fun B1 H1 δ1 ds E1 S1 p1 vs rv => ?_⟩
  obtain ⟨xs, hz, q⟩ := p1.lift
  obtain ⟨i, j, rfl, c, rfl⟩ := rng2_of hz
  exact ⟨i, j, two_ints (d := .non) (e := .non) rv, c, q B1 H1 E1 .refl _ iter_range⟩
theorem oi_range1 {tg : Expr} {p : Pos} (hg : Gl X "range") (hm : X.mg "range" = none) (ha : OA X g W [a] fs) (hs : starEach [a] X.env = [(false, eval a X.env)] := by rfl) : OI X g W tg (.Call (.Name "range" p) [a] [] pos) (dRng rng1 fs) :=
  pi_imp (pi_range1 hg hm ha hs) fun σ H R h => rng1_R h
theorem oi_range2 {tg : Expr} {p : Pos} (hg : Gl X "range") (hm : X.mg "range" = none) (ha : OA X g W [a, b] fs) (hs : starEach [a, b] X.env = [(false, eval a X.env), (false, eval b X.env)] := by rfl) (hs2 : starEach [b] X.env = [(false, eval b X.env)] := by rfl) :
    OI X g W tg (.Call (.Name "range" p) [a, b] [] pos) (dRng rng2 fs) := pi_imp (pi_range2 hg hm ha hs hs2) fun σ H R h => rng2_R h
abbrev OIH (X : Cx) (g : G) (W : WX) (tg iter : Expr) (f : Den (List D)) : Prop := L2H.PIH X tg iter (tI X.K g W f)
theorem oih_range1 {tg : Expr} {p : Pos} (hg : Gl X "range") (hm : X.mg "range" = none) (ha : OA X g W [a] fs) (hs : starEach [a] X.env = [(false, eval a X.env)] := by rfl) : OIH X g W tg (.Call (.Name "range" p) [a] [] pos) (dRng rng1 fs) :=
  ⟨fun pins s σ H R I h => (L2H.pi_range1H hg hm ha hs).run pins s σ H R I (rng1_R h)⟩

/-- the turns over the items -/
def dLoop (s : Tgt) (u : Den Fl) : List D → Den Fl
  | [], δ => .ok .nxt δ
  | d :: ds, δ => match s d δ with
    | none => .stuck
    | some δ1 => (u δ1).turn (dLoop s u ds)
def dFor (fi : Den (List D)) (s : Tgt) (u : Den Fl) : Den Fl := fun δ => (fi δ).bind fun ds δ1 => dLoop s u ds δ1
theorem for_of {fi : Den (List D)} {s : Tgt} {ts : List Nat} (D : Ends) (σ : St) (H : Hp) (h : tS X.K g W (dFor fi s u) D σ H) : tFor (tI X.K g W fi) (tG X.K g ts s) (tS X.K g W u) D σ H := by
  obtain ⟨B, δ, E, p⟩ := h
  refine ⟨B, δ, E, p.bind.mono fun B1 H1 δ1 ds E1 S1 p1 J hJ => ?_⟩
  refine ⟨fun i m σ' H' => m + i = ds.length ∧ ∃ B' δ', EnvOk X.K g B' H' σ' δ' ∧ Le B1 B' ∧ PostS X.K g W B' H' σ' δ' (dLoop s u (ds.drop i) δ') D, ⟨ds.length, by simp, B1, δ1, E1, Le.refl B1, by rw [List.drop_zero]; exact p1⟩, ?_⟩
  rintro i m σ2 H2 ⟨hm, B2, δ2, E2, le, p2⟩
  obtain ⟨hgo, hst⟩ := hJ B2 H2 σ2 δ2 E2 le
  cases m with
  | zero =>
    have e : i = ds.length := by omega
    subst e
    rw [List.drop_length] at p2
    exact .inl ⟨hst, p2 B2 H2 σ2 E2 .refl⟩
  | succ m =>
    have hi : i < ds.length := by omega
    obtain ⟨go, yl⟩ := hgo i ds[i] (List.getElem?_eq_getElem hi)
    rw [List.drop_eq_getElem_cons hi] at p2
    refine .inr ⟨go, fun σ' H' => m + (i + 1) = ds.length ∧ ∃ B' δ', EnvOk X.K g B' H' σ' δ' ∧ Le B1 B' ∧ PostS X.K g W B' H' σ' δ' (dLoop s u (ds.drop (i + 1)) δ') D, fun σ' H' q => ⟨m, Nat.lt_succ_self m, q⟩, fun x H3 y3 => ?_⟩
    obtain ⟨B3, E3, S3, r3⟩ := yl x H3 y3
    unfold dLoop at p2
    cases q : s ds[i] δ2 with
    | none =>
      rw [q] at p2
      exact False.elim p2
    | some δ4 =>
      rw [q] at p2
      refine ⟨B3, δ2, ds[i], δ4, E3, r3, q, fun σ4 E4 S4 _ => ⟨B3, δ4, E4, ?_⟩⟩
      refine (PostS.turn (k := dLoop s u (ds.drop (i + 1))) (p2.back (S3.trans S4)) fun B' H' σ' δ' E5 S5 q5 => ⟨by omega, B', δ', E5, ?_, q5⟩)
      exact le.trans ((S3.trans S4).b.trans S5.b)
theorem os_for {tg iter : Expr} {fi : Den (List D)} {s : Tgt} {ts : List Nat} (po : PassesOwn (model X.prog X.w) X.A X.env X.xe) (hc : X.calm = true) (hi : OI X g W tg iter fi) (hg : OG X g tg ts s) (hb : OSs X g W body u)
    (hs : ∀ x, foldedSetIterable iter X.env x = pure x := by intro _; rfl) : OS X g W (.For tg iter body [] pos) (dFor fi s u) := ps_imp (ps_for po hc hi hg hb hs) fun D σ H h => for_of D σ H h
theorem os_forH {tg iter : Expr} {fi : Den (List D)} {s : Tgt} {ts : List Nat} (po : PassesOwn (model X.prog X.w) X.A X.env X.xe) (hc : L2H.HotC X) (hi : OIH X g W tg iter fi) (hg : OG X g tg ts s) (hb : OSs X g W body u)
    (hs : ∀ x, foldedSetIterable iter X.env x = pure x := by intro _; rfl) : OS X g W (.For tg iter body [] pos) (dFor fi s u) := ps_imp (L2H.ps_forH po hc hi hg hb hs) fun D σ H h => for_of D σ H h
end
end VS
end

section
set_option Elab.async false
set_option linter.all false
set_option maxRecDepth 100000
/-! VS, part 7: defs and calls. -/
namespace VS
open PySem PySem.Spec PyProof.Rows L2

/-- what a call ends with: its value and what its borrowed parameters own, or an exception -/
inductive Cr where
  | ret (r : Rv) (os : List Sl)
  | exc (c : Nat) (fs : List (Str × D)) (os : List Sl)
  | stuck
/-- what the borrowed parameters own behind the body -/
def outs : List Sl → List Sl → List Sl
  | .own _ _ :: as, .own true o :: δ => .own true o :: outs as δ
  | _ :: as, _ :: δ => .un :: outs as δ
  | _ :: as, [] => .un :: outs as []
  | [], _ => []
theorem outs_len : ∀ {as δ : List Sl}, (outs as δ).length = as.length
  | [], _ => by simp [outs]
  | a :: as, [] => by
    have ih := outs_len (as := as) (δ := [])
    cases a <;> simp [outs, ih]
  | a :: as, d :: δ => by
    have ih := outs_len (as := as) (δ := δ)
    cases a with
    | own b1 o1 =>
      cases d with
      | own b2 o2 => cases b2 <;> simp [outs, ih]
      | _ => simp [outs, ih]
    | _ => cases d <;> simp [outs, ih]
theorem outs_get : ∀ {as δ : List Sl} {i : Nat} {b : Bool} {o : O}, (outs as δ)[i]? = some (.own b o) → b = true ∧ δ[i]? = some (.own true o) ∧ ∃ b' o', as[i]? = some (.own b' o')
  | [], _, i, b, o, h => by simp [outs] at h
  | a :: as, [], 0, b, o, h => by cases a <;> simp [outs] at h
  | a :: as, [], i + 1, b, o, h => by
    have h : (outs as [])[i]? = some (.own b o) := by cases a <;> simpa [outs] using h
    obtain ⟨h1, h2, h3⟩ := outs_get h
    exact ⟨h1, by simp at h2, h3⟩
  | a :: as, d :: δ, 0, b, o, h => by
    cases a with
    | own b1 o1 =>
      cases d with
      | own b2 o2 =>
        cases b2 with
        | true =>
          simp [outs] at h
          obtain ⟨rfl, rfl⟩ := h
          exact ⟨rfl, rfl, b1, o1, rfl⟩
        | false => simp [outs] at h
      | _ => simp [outs] at h
    | _ => cases d <;> simp [outs] at h
  | a :: as, d :: δ, i + 1, b, o, h => by
    have h : (outs as δ)[i]? = some (.own b o) := by
      cases a with
      | own b1 o1 =>
        cases d with
        | own b2 o2 => cases b2 <;> simpa [outs] using h
        | _ => simpa [outs] using h
      | _ => cases d <;> simpa [outs] using h
    obtain ⟨h1, h2, h3⟩ := outs_get h
    exact ⟨h1, by simpa using h2, h3⟩
theorem outs_set : ∀ {as δ : List Sl} {i : Nat} {b : Bool} {o o' : O}, as[i]? = some (.own b o) → δ[i]? = some (.own true o') → (outs as δ)[i]? = some (.own true o')
  | [], _, i, b, o, o', h, _ => by simp at h
  | a :: as, [], i, b, o, o', _, h => by simp at h
  | a :: as, d :: δ, 0, b, o, o', h, h' => by
    simp at h h'
    subst h h'
    simp [outs]
  | a :: as, d :: δ, i + 1, b, o, o', h, h' => by
    have q : (outs as δ)[i]? = some (.own true o') := outs_set (by simpa using h) (by simpa using h')
    cases a with
    | own b1 o1 =>
      cases d with
      | own b2 o2 => cases b2 <;> simpa [outs] using q
      | _ => simpa [outs] using q
    | _ => cases d <;> simpa [outs] using q
/-- an argument -/
def isArg : Sl → Bool
  | .dat _ => true
  | .own true _ => true
  | .exc _ _ => true
  | _ => false
/-- a def by its body: np parameters, n names -/
def runF (np n : Nat) (u : Den Fl) (args : List Sl) : Cr := match decide (args.length = np) with
  | true => (match u (args ++ List.replicate (n - np) .un) with
    | .ok (.ret r) δ => .ret r (outs args δ)
    | .ok .nxt δ => .ret (.dat .non) (outs args δ)
    | .exc c fs δ => .exc c fs (outs args δ)
    | _ => .stuck)
  | false => .stuck
def RvC (K : PySem.W.Frag) (H B' H' : Hp) : Rv → V → Prop
  | .dat d, v => Rep K B' d v
  | .new o, v => ∃ a, v = .ref a ∧ B' a = none ∧ ORep K B' H' o a ∧ H a = none
/-- what is wanted behind a call -/
def PostC (K : PySem.W.Frag) (g : G) (B H : Hp) (vs : List V) (args : List Sl) (r : Cr) (Q : VK) (E : XK) : Prop := match r with
  | .ret r os => ∀ B' H' v, EnvOk K g B' H' (vs.map some) os → Stp B H (vs.map some) args B' H' (vs.map some) os → RvC K H B' H' r v → Q v H'
  | .exc c fs os => ∀ B' H' C d, EnvOk K g B' H' (vs.map some) os → Stp B H (vs.map some) args B' H' (vs.map some) os → ExcAt K g B' c fs C d → E (.ref C) (some d) H'
  | .stuck => False
/-- the promise of a def that does what F says -/
def spD (K : PySem.W.Frag) (g : G) (np : Nat) (F : List Sl → Cr) : Sp := fun vs H Q E => ∃ B args, vs.length = np ∧ EnvOk K g B H (vs.map some) args ∧ args.all isArg = true ∧ PostC K g B H vs args (F args) Q E
structure FnG (P : Program) (w : World) (K : PySem.W.Frag) (mg : Str → Option Value) (base : Heap) (cA : Nat → Addr) (hotOk : Bool) (k : Nat) (f : Addr) (fd : FuncData) (ps : List Str) (F : List Sl → Cr) : Prop where
  run : ∀ (Z : Option Hx) (A : Around) (outer : List Env) (s : Shared) (H : Hp) (args : Args) (us : List Value) (vs : List V) (Q : VK) (E : XK), (Z = none ∨ hotOk = true) → RoomZ Z k A →
    (∀ z, Z = some z → L2H.Hot1 A z.p ∧ L2H.PinOk outer H s z.p ∧ Zc (.ref z.C) (some z.d) z.p.2) → Env0 P w K mg base A outer s H → BindsTo s fd args (ps.zip us) → Vals vs us → spD K ⟨cA, Z⟩ ps.length F vs H Q E →
    codeAny (model P w) A (.call (.ref f) args) (CR (L2N.CX P w) outer P w H s Q E) s
theorem FnG.mono {P : Program} {w : World} {K : PySem.W.Frag} {mg : Str → Option Value} {base : Heap} {cA : Nat → Addr} {b : Bool} {j k : Nat} {f : Addr} {fd : FuncData} {ps : List Str} {F : List Sl → Cr} (h : FnG P w K mg base cA b j f fd ps F) (l : j ≤ k) :
    FnG P w K mg base cA b k f fd ps F := ⟨fun Z A outer s H args us vs Q E hz hr => h.run Z A outer s H args us vs Q E hz (hr.mono l)⟩

/-- a body's context, calm or not -/
abbrev cxG (P : Program) (w : World) (K : PySem.W.Frag) (mg : Str → Option Value) (base : Heap) (N : List Str) (qual : Str) (scope : Scope) (f : Addr) (cd : Value) (A : Around) (outer : List Env) (s : Shared) (H : Hp) (E : XK) (calm : Bool) (pn : List (Addr × Obj)) : Cx :=
  { cxOf (L2N.CX P w) P w K mg base N qual scope f cd A outer s H E with calm := calm, pn := pn }
abbrev pnZ : Option Hx → List (Addr × Obj)
  | none => []
  | some z => [z.p]
abbrev WOf (E : XK) : WX := fun cls d _ H => E cls d H

section
variable {K : PySem.W.Frag} {g : G} {B H B' H' : Hp} {vs : List V} {args : List Sl} {N : List Str}
theorem get_start {i : Nat} {v : V} (h : (vs.map some)[i]? = some (some v)) : (L2.start N vs)[i]? = some (some v) := by
  unfold L2.start
  rw [List.getElem?_append_left (List.getElem?_eq_some_iff.mp h).1]
  exact h
theorem start_get {i : Nat} {v : V} (h : (L2.start N vs)[i]? = some (some v)) : (vs.map some)[i]? = some (some v) := by
  unfold L2.start at h
  by_cases hi : i < (vs.map some).length
  · rw [List.getElem?_append_left hi] at h
    exact h
  · rw [List.getElem?_append_right (by omega), List.getElem?_replicate] at h
    split at h <;> cases h
theorem pad_get {n i : Nat} {s : Sl} (h : (args ++ List.replicate n .un)[i]? = some s) : args[i]? = some s ∨ (s = .un ∧ args.length ≤ i) := by
  by_cases hi : i < args.length
  · rw [List.getElem?_append_left hi] at h
    exact .inl h
  · rw [List.getElem?_append_right (by omega), List.getElem?_replicate] at h
    split at h
    · cases h
      exact .inr ⟨rfl, by omega⟩
    · cases h
theorem pad_set {n i : Nat} {s : Sl} (h : args[i]? = some s) : (args ++ List.replicate n .un)[i]? = some s := by
  rw [List.getElem?_append_left (List.getElem?_eq_some_iff.mp h).1]
  exact h
theorem ow_pad {n : Nat} {a : Addr} : Ow (L2.start N vs) (args ++ List.replicate n .un) a ↔ Ow (vs.map some) args a := by
  constructor
  · rintro ⟨i, b, o, h1, h2⟩
    rcases pad_get h1 with h1 | ⟨h1, _⟩
    · exact ⟨i, b, o, h1, start_get h2⟩
    · cases h1
  · rintro ⟨i, b, o, h1, h2⟩
    exact ⟨i, b, o, pad_set h1, get_start h2⟩
theorem EnvOk.pad (E : EnvOk K g B H (vs.map some) args) : EnvOk K g B H (L2.start N vs) (args ++ List.replicate (N.length - vs.length) .un) := by
  have hl : args.length = vs.length := by rw [E.len, List.length_map]
  refine ⟨E.le, ?_, fun i s h => ?_, fun i j b o b' o' a h1 h2 h3 h4 => ?_⟩
  · unfold L2.start
    rw [List.length_append, List.length_append, List.length_replicate, List.length_replicate, List.length_map, hl]
  · rcases pad_get h with h | ⟨h, _⟩
    · have q := E.at_ i s h
      have hi : i < (vs.map some).length := by
        rw [← E.len]
        exact (List.getElem?_eq_some_iff.mp h).1
      unfold L2.start
      rw [List.getElem?_append_left hi]
      exact q
    · subst h
      exact True.intro
  · rcases pad_get h1 with h1 | ⟨h1, _⟩
    · rcases pad_get h2 with h2 | ⟨h2, _⟩
      · exact E.inj i j _ _ _ _ a h1 h2 (start_get h3) (start_get h4)
      · cases h2
    · cases h1
theorem arg_own {i : Nat} {b : Bool} {o : O} (h : args.all isArg = true) (e : args[i]? = some (.own b o)) : b = true := by
  have q := List.all_eq_true.mp h _ (List.mem_of_getElem? e)
  cases b with
  | true => rfl
  | false => cases q
/-- back behind the body: the parameters alone -/
theorem EnvOk.outs {σ' : St} {δ' : List Sl} {n : Nat} (E : EnvOk K g B H (vs.map some) args) (ha : args.all isArg = true) (E' : EnvOk K g B' H' σ' δ') (S : Stp B H (L2.start N vs) (args ++ List.replicate n .un) B' H' σ' δ') :
    EnvOk K g B' H' (vs.map some) (VS.outs args δ') ∧ Stp B H (vs.map some) args B' H' (vs.map some) (VS.outs args δ') := by
  have same : ∀ {i : Nat} {b : Bool} {o : O}, args[i]? = some (.own b o) → ∃ o', δ'[i]? = some (.own true o') ∧ σ'[i]? = (vs.map some)[i]? := fun {i b o} h => by
    have eb := arg_own ha h
    subst eb
    obtain ⟨o', h1, h2⟩ := S.br i o (pad_set h)
    obtain ⟨a, e, _, _⟩ := E.owned h
    exact ⟨o', h1, by rw [h2, e, get_start e]⟩
  refine ⟨⟨E'.le, by rw [outs_len]; exact E.len, fun i s h => ?_, fun i j b o b' o' a h1 h2 h3 h4 => ?_⟩, ⟨S.b, fun a u h n => ?_, fun a u h n => S.fr a u h fun w => n (ow_pad.mp w), fun a h => ?_, fun i o h => ?_⟩⟩
  · cases s with
    | un => exact True.intro
    | dat d =>
      exfalso
      have hl : i < args.length := by
        have := (List.getElem?_eq_some_iff.mp h).1
        rw [outs_len] at this
        exact this
      revert h
      have key : ∀ (as δ : List Sl) (i : Nat), (VS.outs as δ)[i]? ≠ some (.dat d) := by
        intro as
        induction as with
        | nil => intro δ i h; simp [VS.outs] at h
        | cons a as ih =>
          intro δ i h
          cases δ with
          | nil =>
            cases i with
            | zero => cases a <;> simp [VS.outs] at h
            | succ i => exact ih [] i (by cases a <;> simpa [VS.outs] using h)
          | cons e δ =>
            cases i with
            | zero =>
              cases a with
              | own b1 o1 =>
                cases e with
                | own b2 o2 => cases b2 <;> simp [VS.outs] at h
                | _ => simp [VS.outs] at h
              | _ => cases e <;> simp [VS.outs] at h
            | succ i =>
              refine ih δ i ?_
              cases a with
              | own b1 o1 =>
                cases e with
                | own b2 o2 => cases b2 <;> simpa [VS.outs] using h
                | _ => simpa [VS.outs] using h
              | _ => cases e <;> simpa [VS.outs] using h
      exact key args δ' i
    | exc c fs =>
      exfalso
      revert h
      have key : ∀ (as δ : List Sl) (i : Nat), (VS.outs as δ)[i]? ≠ some (.exc c fs) := by
        intro as
        induction as with
        | nil => intro δ i h; simp [VS.outs] at h
        | cons a as ih =>
          intro δ i h
          cases δ with
          | nil =>
            cases i with
            | zero => cases a <;> simp [VS.outs] at h
            | succ i => exact ih [] i (by cases a <;> simpa [VS.outs] using h)
          | cons e δ =>
            cases i with
            | zero =>
              cases a with
              | own b1 o1 =>
                cases e with
                | own b2 o2 => cases b2 <;> simp [VS.outs] at h
                | _ => simp [VS.outs] at h
              | _ => cases e <;> simp [VS.outs] at h
            | succ i =>
              refine ih δ i ?_
              cases a with
              | own b1 o1 =>
                cases e with
                | own b2 o2 => cases b2 <;> simpa [VS.outs] using h
                | _ => simpa [VS.outs] using h
              | _ => cases e <;> simpa [VS.outs] using h
      exact key args δ' i
    | own b o =>
      obtain ⟨rfl, h1, b', o', h2⟩ := outs_get h
      obtain ⟨o2, h3, h4⟩ := same h2
      rw [← h4]
      exact E'.at_ i _ h1
  · obtain ⟨rfl, k1, b1, o1, m1⟩ := outs_get h1
    obtain ⟨rfl, k2, b2, o2, m2⟩ := outs_get h2
    obtain ⟨_, _, e1⟩ := same m1
    obtain ⟨_, _, e2⟩ := same m2
    exact E'.inj i j _ _ _ _ a k1 k2 (by rw [e1]; exact h3) (by rw [e2]; exact h4)
  · rcases S.nb a u h n with q | q
    · exact .inl q
    · exact .inr (ow_pad.mp q)
  · obtain ⟨i, b, o, h1, h2⟩ := h
    obtain ⟨_, _, b1, o1, m1⟩ := outs_get h1
    exact .inl ⟨i, b1, o1, m1, h2⟩
  · obtain ⟨o', h1, _⟩ := same h
    exact ⟨o', outs_set h h1, rfl⟩
end

section
variable {P : Program} {w : World} {K : PySem.W.Frag} {mg : Str → Option Value} {base : Heap} {cA : Nat → Addr} {hotOk : Bool} {k : Nat} {f : Addr} {N ps : List Str}
/-- the body's reading grants the promise -/
theorem body_of {g : G} {u : Den Fl} {vs : List V} {H : Hp} {Q : VK} {E : XK} {np : Nat} (h : spD K g np (runF np N.length u) vs H Q E) : tS K g (WOf E) u { nx := fun _ H' => Q .non H', rt := Q } (L2.start N vs) H := by
  obtain ⟨B, args, hl, En, ha, p⟩ := h
  have hl2 : args.length = np := by rw [En.len, List.length_map, hl]
  refine ⟨B, args ++ List.replicate (N.length - np) .un, by rw [← hl]; exact En.pad, ?_⟩
  unfold runF at p
  rw [decide_eq_true hl2] at p
  have back : ∀ {B' H' : Hp} {σ' : St} {δ' : List Sl}, EnvOk K g B' H' σ' δ' → Stp B H (L2.start N vs) (args ++ List.replicate (N.length - np) .un) B' H' σ' δ' → _ := fun {B' H' σ' δ'} E2 S2 => En.outs ha E2 S2
  revert p
  cases u (args ++ List.replicate (N.length - np) .un) with
  | stuck => exact id
  | exc c fs δ' => exact fun p B' H' σ' C d E2 S2 x => p B' H' C d (back E2 S2).1 (back E2 S2).2 x
  | ok a δ' =>
    cases a with
    | brk => exact False.elim
    | cnt => exact False.elim
    | nxt => exact fun p B' H' σ' E2 S2 => p B' H' .non (back E2 S2).1 (back E2 S2).2 rfl
    | ret r =>
      refine fun p B' H' σ' v E2 S2 x => p B' H' v (back E2 S2).1 (back E2 S2).2 ?_
      cases r with
      | dat d => exact x
      | new o =>
        obtain ⟨a, e, n, ro, nb, fr⟩ := x
        refine ⟨a, e, n, ro, ?_⟩
        rcases fr with fr | fr
        · exact fr
        · exfalso
          obtain ⟨i, b, o', h1, h2⟩ := ow_pad.mp fr
          have eb := arg_own ha h1
          subst eb
          obtain ⟨o2, h3, h4⟩ := S2.br i o' (pad_set h1)
          exact nb i o2 h3 (by rw [h4]; exact get_start h2)
/-- THE RULE: a def keeps what its denotation says -/
theorem fn_g {x qual : Str} {st : Stmt} {fd : FuncData} {u : Den Fl} (F : Fun K x qual st f fd) (S : FnScope N ps (defScope st)) (hbody : ∀ (Z : Option Hx) (cdv : Value) (A : Around) (outer : List Env) (s : Shared) (H : Hp) (E : XK), (Z = none ∨ hotOk = true) →
      CtxOk k ⟨cA, Z⟩ (WOf E) (cxG P w K mg base N qual (defScope st) f cdv A outer s H E Z.isNone (pnZ Z)) →
      OSs (cxG P w K mg base N qual (defScope st) f cdv A outer s H E Z.isNone (pnZ Z)) ⟨cA, Z⟩ (WOf E) (defBody st) u) : FnG P w K mg base cA hotOk (k + 1) f fd ps (runF ps.length N.length u) := by
  refine ⟨fun Z A outer s H args us vs Q E hz hr hp e0 hb r hsp => ?_⟩
  obtain ⟨oc, od, kV, doc, pm, an, cdv, ct, osl, rfl, lk, hcd⟩ := F.ex
  have ctx : ∀ (A' : Around), RoomZ Z k (A'.deeper (envOfC qual (defScope st) s.heap.objs.size f cdv)) → (∀ z, Z = some z → L2H.Hot1 (A'.deeper (envOfC qual (defScope st) s.heap.objs.size f cdv)) z.p) →
      (∀ z, Z = some z → Zc (.ref z.C) (some z.d) z.p.2) → ∀ H E, CtxOk k ⟨cA, Z⟩ (WOf E) (cxG P w K mg base N qual (defScope st) f cdv A' outer s H E Z.isNone (pnZ Z)) := fun A' rz hh hq H E =>
    ⟨S.nd, L2N.takes_of rfl rfl rfl rfl, passes_of rfl, (fun z => by
      have z : Z = none := z
      subst z
      rfl), (fun z hzz => by
      have hzz : Z = some z := hzz
      subst hzz
      exact ⟨hh z rfl, List.mem_singleton.mpr rfl, hq z rfl⟩), rz⟩
  cases Z with
  | none =>
    have rc := hr.calm rfl
    obtain ⟨_, _, hl, _⟩ := id hsp
    have kin : K.In s.heap := e0.mod.kin.keeps fun b o e => (e0.bs b o e).1
    have noLim : s.heap.NoLimit := e0.mod.nolimit.keeps fun b o e => (e0.bs b o e).1
    refine codeAny_call_function rc.depth (kin _ _ lk) rfl S.co S.gen rfl (PySem.W.codeRec_of kin hcd) (hb _ _ _ _ ?_)
    refine wpAny_newFunctionEnv_cells S.kind (fun y hy => ?_) fun env he s1 hin => ?_
    · obtain ⟨yn, yv⟩ := y
      rcases S.par yn (List.of_mem_zip hy).1 with q | q
      · exact .inl q
      · exact .inr ⟨q, PySem.W.cellsFrom_some _ _ _ (.inl q)⟩
    · subst he
      refine ⟨noLim.keeps hin.toInCall.keep, codeAny_func ?_⟩
      have C := ctx A ⟨fun _ => rc.deeper _, (fun q => absurd rfl q), hr.gd⟩ (fun z' e => (by cases e)) (fun z' e => (by cases e)) H E
      have bd := hbody none cdv A outer s H E (.inl rfl) C
      have I : Inv (cxG P w K mg base N qual (defScope st) f cdv A outer s H E true []) [] (L2.start N vs) H s1 := L2.inv_start S rc.hd e0 hl r hin
      refine wpAny_mono (bd.run [] s1 (L2.start N vs) H _ I (body_of hsp)) (fun fl s' hs => ?_) fun e s' hs => hs
      have done : ∀ {σ' : St} {H' : Hp} {v : V} {u' : Value}, Inv (cxG P w K mg base N qual (defScope st) f cdv A outer s H E true []) [] σ' H' s' → RelV v u' → Q v H' → CE outer P w H s Q u' s' :=
        fun {σ' H' v u'} J rv q => ⟨v, H', J.os, J.bare, J.base, J.hok, rv, q⟩
      cases fl with
      | ret u' =>
        obtain ⟨v, σ', H', J, rv, q⟩ := hs
        exact done J rv q
      | next =>
        obtain ⟨σ', H', J, q⟩ := hs
        exact done (v := V.non) (u' := Value.none) J rfl q
      | brk =>
        obtain ⟨_, _, _, q⟩ := hs
        exact False.elim q
      | cont =>
        obtain ⟨_, _, _, q⟩ := hs
        exact False.elim q
  | some z =>
    have hrh := hr.hot (by intro q; cases q)
    obtain ⟨hot, hpin, hq⟩ := hp z rfl
    obtain ⟨_, _, hl, _⟩ := id hsp
    have KX : K.In s.heap := e0.mod.kin.keeps fun b o e => (e0.bs b o e).1
    have noLim : s.heap.NoLimit := e0.mod.nolimit.keeps fun b o e => (e0.bs b o e).1
    refine codeAny_call_function hrh.depth (KX _ _ lk) rfl S.co S.gen rfl (PySem.W.codeRec_of KX hcd) (hb _ _ _ _ ?_)
    refine wpAny_newFunctionEnv_cells S.kind (fun y hy => ?_) fun env he s1 hin => ?_
    · obtain ⟨yn, yv⟩ := y
      rcases S.par yn (List.of_mem_zip hy).1 with q | q
      · exact .inl q
      · exact .inr ⟨q, PySem.W.cellsFrom_some _ _ _ (.inl q)⟩
    · subst he
      refine ⟨noLim.keeps hin.toInCall.keep, codeAny_func ?_⟩
      have hot2 : L2H.Hot1 (A.deeper (envOfC qual (defScope st) s.heap.objs.size f cdv)) z.p := hot
      have C := ctx A ⟨(fun q => by cases q), fun _ => hrh.deeper _, hr.gd⟩ (fun z' e => (by cases e; exact hot2)) (fun z' e => (by cases e; exact hq)) H E
      have bd := hbody (some z) cdv A outer s H E hz C
      have I : Inv (cxG P w K mg base N qual (defScope st) f cdv A outer s H E false [z.p]) [] (L2.start N vs) H s1 := L2H.inv_startH S hpin e0 hl r hin
      refine wpAny_mono (bd.run [] s1 (L2.start N vs) H _ I (body_of hsp)) (fun fl s' hs => ?_) fun e s' hs => hs
      have done : ∀ {σ' : St} {H' : Hp} {v : V} {u' : Value}, Inv (cxG P w K mg base N qual (defScope st) f cdv A outer s H E false [z.p]) [] σ' H' s' → RelV v u' → Q v H' → CE outer P w H s Q u' s' :=
        fun {σ' H' v u'} J rv q => ⟨v, H', J.os, J.bare, J.base, J.hok, rv, q⟩
      cases fl with
      | ret u' =>
        obtain ⟨v, σ', H', J, rv, q⟩ := hs
        exact done J rv q
      | next =>
        obtain ⟨σ', H', J, q⟩ := hs
        exact done (v := V.non) (u' := Value.none) J rfl q
      | brk =>
        obtain ⟨_, _, _, q⟩ := hs
        exact False.elim q
      | cont =>
        obtain ⟨_, _, _, q⟩ := hs
        exact False.elim q
end
end VS
end

section
set_option Elab.async false
set_option linter.all false
set_option maxRecDepth 100000
/-! VS, part 8: a call of a def: its arguments, what is given back. -/
namespace VS
open PySem PySem.Spec PyProof.Rows L2

/-! ### arguments: data, or what a slot holds -/
/-- bs: none for a computed argument, some i for the name in slot i -/
def ArOk (K : PySem.W.Frag) (B : Hp) (σ : St) : List (Option Nat) → List (Option D) → List V → Prop
  | [], [], vs => vs = []
  | none :: bs, some d :: ds, vs => ∃ v r, vs = v :: r ∧ Rep K B d v ∧ ArOk K B σ bs ds r
  | some i :: bs, none :: ds, vs => ∃ v r, vs = v :: r ∧ σ[i]? = some (some v) ∧ ArOk K B σ bs ds r
  | _, _, _ => False
theorem ArOk.mono {K : PySem.W.Frag} {B B' : Hp} {σ : St} (le : Le B B') : ∀ {bs : List (Option Nat)} {ds : List (Option D)} {vs : List V}, ArOk K B σ bs ds vs → ArOk K B' σ bs ds vs
  | [], [], _, h => h
  | none :: bs, some d :: ds, _, h => by
    obtain ⟨v, r, h1, h2, h3⟩ := h
    exact ⟨v, r, h1, h2.mono le, h3.mono le⟩
  | some i :: bs, none :: ds, _, h => by
    obtain ⟨v, r, h1, h2, h3⟩ := h
    exact ⟨v, r, h1, h2, h3.mono le⟩
  | [], _ :: _, _, h => h.elim
  | none :: _, [], _, h => h.elim
  | none :: _, none :: _, _, h => h.elim
  | some _ :: _, [], _, h => h.elim
  | some _ :: _, some _ :: _, _, h => h.elim
/-- the arguments as slots -/
def fill (δ : List Sl) : List (Option Nat) → List (Option D) → Option (List Sl)
  | [], [] => some []
  | none :: bs, some d :: ds => (fill δ bs ds).map fun as => .dat d :: as
  | some i :: bs, none :: ds => match δ[i]? with
    | some (.dat d) => (fill δ bs ds).map fun as => .dat d :: as
    | some (.own _ o) => (fill δ bs ds).map fun as => .own true o :: as
    | some (.exc c fs) => (fill δ bs ds).map fun as => .exc c fs :: as
    | _ => none
  | _, _ => none
/-- what the call's parameters own goes back to the caller's slots -/
def give : List (Option Nat) → List Sl → List Sl → List Sl
  | some i :: bs, .own _ o :: os, δ => give bs os (match δ[i]? with
    | some (.own b _) => δ.set i (.own b o)
    | _ => δ)
  | _ :: bs, _ :: os, δ => give bs os δ
  | _, _, δ => δ
def dNoArg : Den (List (Option D)) := fun δ => .ok [] δ
def dArg (f : Den D) (k : Den (List (Option D))) : Den (List (Option D)) := fun δ => (f δ).bind fun x δ1 => (k δ1).bind fun xs δ2 => .ok (some x :: xs) δ2
def isSet : Option Sl → Bool
  | some (.dat _) => true
  | some (.own _ _) => true
  | some (.exc _ _) => true
  | _ => false
def dArgS (i : Nat) (k : Den (List (Option D))) : Den (List (Option D)) := fun δ => match isSet δ[i]? with
  | true => (k δ).bind fun xs δ1 => .ok (none :: xs) δ1
  | false => .stuck
abbrev OR (X : Cx) (g : G) (W : WX) (es : List Expr) (bs : List (Option Nat)) (f : Den (List (Option D))) : Prop := PA X es (tX X.K g W (fun _ σ _ B' _ _ ds vs => ArOk X.K B' σ bs ds vs) f)
section
variable {X : Cx} {g : G} {W : WX} {e : Expr} {es : List Expr} {f : Den D} {k : Den (List (Option D))} {bs : List (Option Nat)} {x : Str} {px : Pos}
theorem or_nil : OR X g W [] [] dNoArg := pa_imp pa_nil fun σ H Q ⟨B, δ, E, p⟩ => p B H E .refl [] rfl
theorem or_cons (h : OE X g W e f) (h2 : OR X g W es bs k) (hs : starEach (e :: es) X.env = (false, eval e X.env) :: starEach es X.env := by rfl) : OR X g W (e :: es) (none :: bs) (dArg f k) := by
  refine pa_imp (pa_cons h h2 hs) fun σ H Q ⟨B, δ, E, p⟩ => ⟨B, δ, E, p.bind.mono fun B1 H1 δ1 y E1 S1 p1 v rv => ⟨B1, δ1, E1, p1.bind.mono fun B2 H2 δ2 xs E2 S2 p2 vs rvs => ?_⟩⟩
  exact p2 B2 H2 E2 .refl _ ⟨v, vs, rfl, rv.mono S2.b, rvs⟩
theorem EnvOk.isSet {K : PySem.W.Frag} {B H : Hp} {σ : St} {δ : List Sl} (E : EnvOk K g B H σ δ) {i : Nat} (h : isSet δ[i]? = true) : ∃ v, σ[i]? = some (some v) := by
  cases q : δ[i]? with
  | none =>
    rw [q] at h
    cases h
  | some s =>
    have z := E.at_ i s q
    rw [q] at h
    cases s with
    | un => cases h
    | dat d =>
      obtain ⟨v, e, _⟩ := z
      exact ⟨v, Option.join_eq_some_iff.mp e⟩
    | own b o =>
      obtain ⟨v, e, _⟩ := z
      exact ⟨_, Option.join_eq_some_iff.mp e⟩
    | exc c fs =>
      obtain ⟨_, _, _, e, _⟩ := z
      exact ⟨_, Option.join_eq_some_iff.mp e⟩
theorem or_slot (i : Nat) (h2 : OR X g W es bs k) (hs : starEach (Expr.Name x px :: es) X.env = (false, eval (.Name x px) X.env) :: starEach es X.env := by rfl) (hN : X.N[i]? = some x := by rfl) (hv : Vis X.env.scope x := by first | exact Or.inl rfl | exact Or.inr (Or.inl rfl) | exact Or.inr (Or.inr rfl)) (hd : (x == ("__debug__" : Str)) = false := by decide)
    (hcd : (x == ("__classdict__" : Str)) = false := by decide) : OR X g W (.Name x px :: es) (some i :: bs) (dArgS i k) := by
  refine pa_imp (pa_cons (pe_var hN hv hd hcd) h2 hs) fun σ H Q ⟨B, δ, E, p⟩ => ?_
  unfold dArgS at p
  cases q : VS.isSet δ[i]? with
  | false =>
    rw [q] at p
    exact False.elim p
  | true =>
    rw [q] at p
    obtain ⟨v, e0⟩ := E.isSet q
    refine ⟨v, e0, B, δ, E, p.bind.mono fun B1 H1 δ1 xs E1 S1 p1 vs rvs => ?_⟩
    exact p1 B1 H1 E1 .refl _ ⟨v, vs, rfl, e0, rvs⟩
end

/-! ### the state at the call, and behind it -/
def idxs : List (Option Nat) → List Nat
  | [] => []
  | none :: bs => idxs bs
  | some i :: bs => i :: idxs bs
theorem mem_idxs {bs : List (Option Nat)} {j i : Nat} (h : bs[j]? = some (some i)) : i ∈ idxs bs := by
  induction bs generalizing j with
  | nil => simp at h
  | cons b bs ih =>
    cases j with
    | zero =>
      simp at h
      subst h
      simp [idxs]
    | succ j =>
      have q := ih (by simpa using h)
      cases b <;> simp [idxs, q]
theorem idxs_inj {bs : List (Option Nat)} (hn : (idxs bs).Nodup) {j k i : Nat} (h1 : bs[j]? = some (some i)) (h2 : bs[k]? = some (some i)) : j = k := by
  induction bs generalizing j k with
  | nil => simp at h1
  | cons b bs ih =>
    cases b with
    | none =>
      cases j with
      | zero => simp at h1
      | succ j =>
        cases k with
        | zero => simp at h2
        | succ k =>
          have q : j = k := ih hn (by simpa using h1) (by simpa using h2)
          rw [q]
    | some z =>
      have hn' : z ∉ idxs bs ∧ (idxs bs).Nodup := by simpa [idxs] using hn
      cases j with
      | zero =>
        simp at h1
        subst h1
        cases k with
        | zero => rfl
        | succ k => exact absurd (mem_idxs (by simpa using h2)) hn'.1
      | succ j =>
        cases k with
        | zero =>
          simp at h2
          subst h2
          exact absurd (mem_idxs (by simpa using h1)) hn'.1
        | succ k =>
          have q : j = k := ih hn'.2 (by simpa using h1) (by simpa using h2)
          rw [q]
section
variable {K : PySem.W.Frag} {g : G} {B H B' H' : Hp} {σ : St} {δ : List Sl}
/-- an argument's slot, one by one -/
theorem fill_get : ∀ {bs : List (Option Nat)} {ds : List (Option D)} {vs : List V} {as : List Sl} {j : Nat} {s : Sl}, ArOk K B σ bs ds vs → fill δ bs ds = some as → as[j]? = some s →
    ∃ v, vs[j]? = some v ∧ ((∃ d, s = .dat d ∧ Rep K B d v) ∨ ∃ i, bs[j]? = some (some i) ∧ σ[i]? = some (some v) ∧ ((∃ d, s = .dat d ∧ δ[i]? = some (.dat d)) ∨ (∃ b o, s = .own true o ∧ δ[i]? = some (.own b o)) ∨ ∃ c fs, s = .exc c fs ∧ δ[i]? = some (.exc c fs)))
  | [], [], _, _, j, s, h, e, q => by
    cases e
    simp at q
  | none :: bs, some d :: ds, _, _, j, s, h, e, q => by
    obtain ⟨v, r, rfl, h2, h3⟩ := h
    obtain ⟨as, e1, rfl⟩ := Option.map_eq_some_iff.mp e
    cases j with
    | zero =>
      simp at q
      subst q
      exact ⟨v, rfl, .inl ⟨d, rfl, h2⟩⟩
    | succ j =>
      obtain ⟨w, hw, z⟩ := fill_get h3 e1 (by simpa using q)
      refine ⟨w, by simpa using hw, ?_⟩
      rcases z with z | ⟨i, z1, z2⟩
      · exact .inl z
      · exact .inr ⟨i, by simpa using z1, z2⟩
  | some i :: bs, none :: ds, _, _, j, s, h, e, q => by
    obtain ⟨v, r, rfl, h2, h3⟩ := h
    unfold fill at e
    have tail : ∀ {t : Sl} {as : List Sl}, fill δ bs ds = some as → (t :: as)[j + 1 - 1]? = some s ∨ True → True := fun _ _ => True.intro
    split at e
    · rename_i d hd
      obtain ⟨as, e1, rfl⟩ := Option.map_eq_some_iff.mp e
      cases j with
      | zero =>
        simp at q
        subst q
        exact ⟨v, rfl, .inr ⟨i, rfl, h2, .inl ⟨d, rfl, hd⟩⟩⟩
      | succ j =>
        obtain ⟨w, hw, z⟩ := fill_get h3 e1 (by simpa using q)
        refine ⟨w, by simpa using hw, ?_⟩
        rcases z with z | ⟨i, z1, z2⟩
        · exact .inl z
        · exact .inr ⟨i, by simpa using z1, z2⟩
    · rename_i b o hd
      obtain ⟨as, e1, rfl⟩ := Option.map_eq_some_iff.mp e
      cases j with
      | zero =>
        simp at q
        subst q
        exact ⟨v, rfl, .inr ⟨i, rfl, h2, .inr (.inl ⟨b, o, rfl, hd⟩)⟩⟩
      | succ j =>
        obtain ⟨w, hw, z⟩ := fill_get h3 e1 (by simpa using q)
        refine ⟨w, by simpa using hw, ?_⟩
        rcases z with z | ⟨i, z1, z2⟩
        · exact .inl z
        · exact .inr ⟨i, by simpa using z1, z2⟩
    · rename_i c fs hd
      obtain ⟨as, e1, rfl⟩ := Option.map_eq_some_iff.mp e
      cases j with
      | zero =>
        simp at q
        subst q
        exact ⟨v, rfl, .inr ⟨i, rfl, h2, .inr (.inr ⟨c, fs, rfl, hd⟩)⟩⟩
      | succ j =>
        obtain ⟨w, hw, z⟩ := fill_get h3 e1 (by simpa using q)
        refine ⟨w, by simpa using hw, ?_⟩
        rcases z with z | ⟨i, z1, z2⟩
        · exact .inl z
        · exact .inr ⟨i, by simpa using z1, z2⟩
    · cases e
  | [], _ :: _, _, _, _, _, h, _, _ => h.elim
  | none :: _, [], _, _, _, _, h, _, _ => h.elim
  | none :: _, none :: _, _, _, _, _, h, _, _ => h.elim
  | some _ :: _, [], _, _, _, _, h, _, _ => h.elim
  | some _ :: _, some _ :: _, _, _, _, _, h, _, _ => h.elim
theorem fill_len : ∀ {bs : List (Option Nat)} {ds : List (Option D)} {vs : List V} {as : List Sl}, ArOk K B σ bs ds vs → fill δ bs ds = some as → as.length = vs.length ∧ as.length = bs.length
  | [], [], _, _, h, e => by
    cases e
    rw [show _ = [] from h]
    exact ⟨rfl, rfl⟩
  | none :: bs, some d :: ds, _, _, h, e => by
    obtain ⟨v, r, rfl, h2, h3⟩ := h
    obtain ⟨as, e1, rfl⟩ := Option.map_eq_some_iff.mp e
    have ih := fill_len h3 e1
    simp [ih.1, ← ih.2]
  | some i :: bs, none :: ds, _, _, h, e => by
    obtain ⟨v, r, rfl, h2, h3⟩ := h
    unfold fill at e
    split at e
    · obtain ⟨as, e1, rfl⟩ := Option.map_eq_some_iff.mp e
      have ih := fill_len h3 e1
      simp [ih.1, ← ih.2]
    · obtain ⟨as, e1, rfl⟩ := Option.map_eq_some_iff.mp e
      have ih := fill_len h3 e1
      simp [ih.1, ← ih.2]
    · obtain ⟨as, e1, rfl⟩ := Option.map_eq_some_iff.mp e
      have ih := fill_len h3 e1
      simp [ih.1, ← ih.2]
    · cases e
  | [], _ :: _, _, _, h, _ => h.elim
  | none :: _, [], _, _, h, _ => h.elim
  | none :: _, none :: _, _, _, h, _ => h.elim
  | some _ :: _, [], _, _, h, _ => h.elim
  | some _ :: _, some _ :: _, _, _, h, _ => h.elim
/-- an owned slot among the arguments comes from an owned slot of the caller -/
theorem fill_own {bs : List (Option Nat)} {ds : List (Option D)} {vs : List V} {as : List Sl} {j : Nat} {b : Bool} {o : O} (h : ArOk K B σ bs ds vs) (e : fill δ bs ds = some as) (q : as[j]? = some (.own b o)) :
    b = true ∧ ∃ i b' v, bs[j]? = some (some i) ∧ vs[j]? = some v ∧ σ[i]? = some (some v) ∧ δ[i]? = some (.own b' o) := by
  obtain ⟨v, hv, z⟩ := fill_get h e q
  rcases z with ⟨d, z, _⟩ | ⟨i, z1, z2, z3⟩
  · cases z
  · rcases z3 with ⟨d, z, _⟩ | ⟨b', o', z, z4⟩ | ⟨c, fs, z, _⟩
    · cases z
    · cases z
      exact ⟨rfl, i, b', v, z1, hv, z2, z4⟩
    · cases z
theorem EnvOk.fill (E : EnvOk K g B H σ δ) {bs : List (Option Nat)} {ds : List (Option D)} {vs : List V} {as : List Sl} (hn : (idxs bs).Nodup) (h : ArOk K B σ bs ds vs) (e : VS.fill δ bs ds = some as) : EnvOk K g B H (vs.map some) as ∧ as.all isArg = true := by
  refine ⟨⟨E.le, by rw [(fill_len h e).1, List.length_map], fun j s hs => ?_, fun j k b o b' o' a h1 h2 h3 h4 => ?_⟩, List.all_eq_true.mpr fun s hs => ?_⟩
  · obtain ⟨v, hv, z⟩ := fill_get h e hs
    have ev : ((vs.map some)[j]?).join = some v := by rw [List.getElem?_map, hv]; rfl
    rw [ev]
    rcases z with ⟨d, rfl, r⟩ | ⟨i, z1, z2, z3⟩
    · exact ⟨v, rfl, r⟩
    · have jo : (σ[i]?).join = some v := by rw [z2]; rfl
      rcases z3 with ⟨d, rfl, z⟩ | ⟨b', o', rfl, z⟩ | ⟨c, fs, rfl, z⟩
      · have q := E.at_ i _ z
        rw [jo] at q
        exact q
      · have q := E.at_ i _ z
        rw [jo] at q
        exact q
      · have q := E.at_ i _ z
        rw [jo] at q
        exact q
  · obtain ⟨_, i1, b1, v1, k1, l1, m1, n1⟩ := fill_own h e h1
    obtain ⟨_, i2, b2, v2, k2, l2, m2, n2⟩ := fill_own h e h2
    rw [List.getElem?_map, l1] at h3
    rw [List.getElem?_map, l2] at h4
    cases h3; cases h4
    have ei := E.inj i1 i2 _ _ _ _ a n1 n2 m1 m2
    subst ei
    exact idxs_inj hn k1 k2
  · obtain ⟨j, hj, ej⟩ := List.mem_iff_getElem.mp hs
    have hs' : as[j]? = some s := by rw [List.getElem?_eq_getElem hj, ej]
    obtain ⟨v, hv, z⟩ := fill_get h e hs'
    rcases z with ⟨d, rfl, r⟩ | ⟨i, z1, z2, z3⟩
    · rfl
    · rcases z3 with ⟨d, rfl, z⟩ | ⟨b', o', rfl, z⟩ | ⟨c, fs, rfl, z⟩ <;> rfl
theorem give_len : ∀ {bs : List (Option Nat)} {os δ : List Sl}, (give bs os δ).length = δ.length
  | [], _, δ => by simp [give]
  | b :: bs, [], δ => by cases b <;> simp [give]
  | none :: bs, o :: os, δ => by
    have ih := give_len (bs := bs) (os := os) (δ := δ)
    cases o <;> simpa [give] using ih
  | some i :: bs, o :: os, δ => by
    cases o with
    | own b1 o1 =>
      simp only [give]
      rw [give_len]
      split
      · rw [List.length_set]
      · rfl
    | _ =>
      have ih := give_len (bs := bs) (os := os) (δ := δ)
      simpa [give] using ih
/-- a slot behind the call: as it was, or what the parameter owns now -/
theorem give_get : ∀ {bs : List (Option Nat)} {os δ : List Sl} (i : Nat), (idxs bs).Nodup →
    ((give bs os δ)[i]? = δ[i]? ∧ ∀ (j : Nat) (b : Bool) (o : O) (b' : Bool) (o' : O), bs[j]? = some (some i) → os[j]? = some (.own b o) → δ[i]? ≠ some (.own b' o')) ∨
      ∃ (j : Nat) (b : Bool) (o : O) (b' : Bool) (o' : O), bs[j]? = some (some i) ∧ os[j]? = some (.own b o) ∧ δ[i]? = some (.own b' o') ∧ (give bs os δ)[i]? = some (.own b' o)
  | [], os, δ, i, _ => .inl ⟨by simp [give], fun j b o b' o' h => by simp at h⟩
  | b :: bs, [], δ, i, _ => .inl ⟨by cases b <;> simp [give], fun j b o b' o' _ h => by simp at h⟩
  | none :: bs, s :: os, δ, i, hn => by
    have eg : give (none :: bs) (s :: os) δ = give bs os δ := by cases s <;> rfl
    rw [eg]
    rcases give_get (bs := bs) (os := os) (δ := δ) i hn with ⟨h1, h2⟩ | ⟨j, b, o, b', o', h1, h2, h3, h4⟩
    · refine .inl ⟨h1, fun j b o b' o' q1 q2 => ?_⟩
      cases j with
      | zero => simp at q1
      | succ j => exact h2 j b o b' o' (by simpa using q1) (by simpa using q2)
    · exact .inr ⟨j + 1, b, o, b', o', by simpa using h1, by simpa using h2, h3, h4⟩
  | some k :: bs, s :: os, δ, i, hn => by
    have hn' : k ∉ idxs bs ∧ (idxs bs).Nodup := by simpa [idxs] using hn
    have rest : ∀ δ' : List Sl, δ'[i]? = δ[i]? ∨ k = i → ((give bs os δ')[i]? = δ'[i]? ∧ ∀ (j : Nat) (b : Bool) (o : O) (b' : Bool) (o' : O), bs[j]? = some (some i) → os[j]? = some (.own b o) → δ'[i]? ≠ some (.own b' o')) ∨
      ∃ (j : Nat) (b : Bool) (o : O) (b' : Bool) (o' : O), bs[j]? = some (some i) ∧ os[j]? = some (.own b o) ∧ δ'[i]? = some (.own b' o') ∧ (give bs os δ')[i]? = some (.own b' o) := fun δ' _ => give_get (bs := bs) (os := os) (δ := δ') i hn'.2
    have away : k = i → ∀ j, bs[j]? ≠ some (some i) := fun e j q => hn'.1 (by rw [e]; exact mem_idxs q)
    have plain : give (some k :: bs) (s :: os) δ = give bs os δ → (k = i → ∀ b o, s ≠ .own b o ∨ ∀ b' o', δ[i]? ≠ some (.own b' o')) → ((give (some k :: bs) (s :: os) δ)[i]? = δ[i]? ∧ ∀ (j : Nat) (b : Bool) (o : O) (b' : Bool) (o' : O), (some k :: bs)[j]? = some (some i) → (s :: os)[j]? = some (.own b o) → δ[i]? ≠ some (.own b' o')) ∨
      ∃ (j : Nat) (b : Bool) (o : O) (b' : Bool) (o' : O), (some k :: bs)[j]? = some (some i) ∧ (s :: os)[j]? = some (.own b o) ∧ δ[i]? = some (.own b' o') ∧ (give (some k :: bs) (s :: os) δ)[i]? = some (.own b' o) := fun eg hk => by
      rw [eg]
      rcases rest δ (.inl rfl) with ⟨h1, h2⟩ | ⟨j, b, o, b', o', h1, h2, h3, h4⟩
      · refine .inl ⟨h1, fun j b o b' o' q1 q2 => ?_⟩
        cases j with
        | zero =>
          simp at q1 q2
          rcases hk q1 b o with z | z
          · exact absurd q2 z
          · exact z b' o'
        | succ j => exact h2 j b o b' o' (by simpa using q1) (by simpa using q2)
      · exact .inr ⟨j + 1, b, o, b', o', by simpa using h1, by simpa using h2, h3, h4⟩
    cases s with
    | un => exact plain rfl fun _ b o => .inl fun z => by cases z
    | dat d => exact plain rfl fun _ b o => .inl fun z => by cases z
    | exc c fs => exact plain rfl fun _ b o => .inl fun z => by cases z
    | own b1 o1 =>
      cases q : δ[k]? with
      | none =>
        refine plain (by simp only [give, q]) fun e b o => .inr fun b' o' z => ?_
        rw [← e, q] at z
        cases z
      | some t =>
        cases t with
        | un =>
          refine plain (by simp only [give, q]) fun e b o => .inr fun b' o' z => ?_
          rw [← e, q] at z
          cases z
        | dat d =>
          refine plain (by simp only [give, q]) fun e b o => .inr fun b' o' z => ?_
          rw [← e, q] at z
          cases z
        | exc c fs =>
          refine plain (by simp only [give, q]) fun e b o => .inr fun b' o' z => ?_
          rw [← e, q] at z
          cases z
        | own b2 o2 =>
          have eg : give (some k :: bs) (.own b1 o1 :: os) δ = give bs os (δ.set k (.own b2 o1)) := by simp only [give, q]
          by_cases e : k = i
          · subst e
            rcases rest (δ.set k (.own b2 o1)) (.inr rfl) with ⟨h1, h2⟩ | ⟨j, b, o, b', o', h1, _⟩
            · exact .inr ⟨0, b1, o1, b2, o2, rfl, rfl, q, by rw [eg, h1, set_same q]⟩
            · exact absurd h1 (away rfl j)
          · have es : (δ.set k (.own b2 o1))[i]? = δ[i]? := List.getElem?_set_ne e
            rw [eg]
            rcases rest (δ.set k (.own b2 o1)) (.inl es) with ⟨h1, h2⟩ | ⟨j, b, o, b', o', h1, h2, h3, h4⟩
            · refine .inl ⟨h1.trans es, fun j b o b' o' q1 q2 => ?_⟩
              cases j with
              | zero =>
                simp at q1
                exact absurd q1 e
              | succ j =>
                rw [← es]
                exact h2 j b o b' o' (by simpa using q1) (by simpa using q2)
            · exact .inr ⟨j + 1, b, o, b', o', by simpa using h1, by simpa using h2, by rw [← es]; exact h3, h4⟩
/-- behind the call: the caller's slots -/
theorem EnvOk.give (E : EnvOk K g B H σ δ) {bs : List (Option Nat)} {ds : List (Option D)} {vs : List V} {as os : List Sl} (hn : (idxs bs).Nodup) (h : ArOk K B σ bs ds vs) (e : VS.fill δ bs ds = some as)
    (E' : EnvOk K g B' H' (vs.map some) os) (S : Stp B H (vs.map some) as B' H' (vs.map some) os) : EnvOk K g B' H' σ (VS.give bs os δ) ∧ Stp B H σ δ B' H' σ (VS.give bs os δ) := by
  have ow1 : ∀ {a}, Ow (vs.map some) as a → Ow σ δ a := fun {a} ⟨j, b, o, h1, h2⟩ => by
    obtain ⟨_, i, b', v, k1, k2, k3, k4⟩ := fill_own h e h1
    rw [List.getElem?_map, k2] at h2
    cases h2
    exact ⟨i, b', o, k4, k3⟩
  -- an owned slot that is not handed over
  have keep : ∀ {i : Nat} {b : Bool} {o : O} {a : Addr}, δ[i]? = some (.own b o) → σ[i]? = some (some (.ref a)) → (∀ j, bs[j]? = some (some i) → False) → ¬ Ow (vs.map some) as a := fun {i b o a} h1 h2 h3 ⟨j, b', o', h4, h5⟩ => by
    obtain ⟨_, i', b2, v, k1, k2, k3, k4⟩ := fill_own h e h4
    rw [List.getElem?_map, k2] at h5
    cases h5
    have ei := E.inj i' i _ _ _ _ a k4 h1 k3 h2
    subst ei
    exact h3 j k1
  -- what is handed over comes back
  have handed : ∀ {i j : Nat} {b : Bool} {o : O}, bs[j]? = some (some i) → δ[i]? = some (.own b o) → ∃ o', as[j]? = some (.own true o) ∧ os[j]? = some (.own true o') ∧ (vs.map some)[j]? = σ[i]? := fun {i j b o} h1 h2 => by
    have hj : j < as.length := by
      rw [(fill_len h e).2]
      exact (List.getElem?_eq_some_iff.mp h1).1
    have ha : as[j]? = some as[j] := List.getElem?_eq_getElem hj
    obtain ⟨v, hv, z⟩ := fill_get h e ha
    -- the argument at j is the slot i
    have key : ∀ {bs : List (Option Nat)} {ds : List (Option D)} {vs : List V} {as : List Sl} {j : Nat}, ArOk K B σ bs ds vs → VS.fill δ bs ds = some as → bs[j]? = some (some i) → as[j]? = some (.own true o) ∧ ∃ v, vs[j]? = some v ∧ σ[i]? = some (some v) := by
      intro bs
      induction bs with
      | nil => intro ds vs as j _ _ q; simp at q
      | cons b0 bs ih =>
        intro ds vs as j hA hF q
        cases b0 with
        | none =>
          cases ds with
          | nil => exact hA.elim
          | cons d ds =>
            cases d with
            | none => exact hA.elim
            | some d =>
              obtain ⟨v, r, rfl, h2, h3⟩ := hA
              obtain ⟨as, e1, rfl⟩ := Option.map_eq_some_iff.mp hF
              cases j with
              | zero => simp at q
              | succ j => simpa using ih h3 e1 (by simpa using q)
        | some k =>
          cases ds with
          | nil => exact hA.elim
          | cons d ds =>
            cases d with
            | some d => exact hA.elim
            | none =>
              obtain ⟨v, r, rfl, h4, h3⟩ := hA
              cases j with
              | zero =>
                simp at q
                subst q
                unfold VS.fill at hF
                rw [h2] at hF
                obtain ⟨as, e1, rfl⟩ := Option.map_eq_some_iff.mp hF
                exact ⟨rfl, v, rfl, h4⟩
              | succ j =>
                unfold VS.fill at hF
                split at hF
                · obtain ⟨as, e1, rfl⟩ := Option.map_eq_some_iff.mp hF
                  simpa using ih h3 e1 (by simpa using q)
                · obtain ⟨as, e1, rfl⟩ := Option.map_eq_some_iff.mp hF
                  simpa using ih h3 e1 (by simpa using q)
                · obtain ⟨as, e1, rfl⟩ := Option.map_eq_some_iff.mp hF
                  simpa using ih h3 e1 (by simpa using q)
                · cases hF
    obtain ⟨k1, w, k2, k3⟩ := key h e h1
    obtain ⟨o', k4, _⟩ := S.br j o k1
    exact ⟨o', k1, k4, by rw [List.getElem?_map, k2, k3]; rfl⟩
  have shape : ∀ {i : Nat} {b : Bool} {o : O}, (VS.give bs os δ)[i]? = some (.own b o) → ∃ o', δ[i]? = some (.own b o') := fun {i b o} q => by
    rcases give_get (bs := bs) (os := os) (δ := δ) i hn with ⟨h1, _⟩ | ⟨j, b1, o1, b', o', h1, h2, h3, h4⟩
    · exact ⟨o, by rw [← h1]; exact q⟩
    · rw [h4] at q
      cases q
      exact ⟨o', h3⟩
  refine ⟨⟨E'.le, by rw [give_len]; exact E.len, fun i s hs => ?_, fun i j b o b' o' a h1 h2 h3 h4 => ?_⟩, ⟨S.b, fun a u q n => (S.nb a u q n).imp id ow1, fun a u q n => S.fr a u q fun w => n (ow1 w), fun a q => ?_, fun i o q => ?_⟩⟩
  · rcases give_get (bs := bs) (os := os) (δ := δ) i hn with ⟨h1, h2⟩ | ⟨j, b, o, b', o', h1, h2, h3, h4⟩
    · rw [h1] at hs
      have q := E.at_ i s hs
      cases s with
      | un => exact True.intro
      | dat d =>
        obtain ⟨v, k1, k2⟩ := q
        exact ⟨v, k1, k2.mono S.b⟩
      | exc c fs =>
        obtain ⟨z, ws, e1, e2, e3, e4, e5⟩ := q
        exact ⟨z, ws, e1, e2, e3, S.b _ _ e4, e5.mono S.b⟩
      | own b o =>
        obtain ⟨a, k1, k2, k3⟩ := q
        have k1' := Option.join_eq_some_iff.mp k1
        have no : ∀ j, bs[j]? = some (some i) → False := fun j hj => by
          obtain ⟨o', m1, m2, _⟩ := handed hj hs
          exact h2 j true o' b o hj m2 hs
        have nw := keep hs k1' no
        obtain ⟨u, hu⟩ := k3.there
        have hu' := S.fr a u hu nw
        refine ⟨a, k1, ?_, k3.mono S.b (hu'.trans hu.symm)⟩
        cases z : B' a with
        | none => rfl
        | some w =>
          rcases S.nb a w z k2 with y | y
          · rw [hu] at y
            cases y
          · exact absurd y nw
    · rw [h4] at hs
      cases hs
      obtain ⟨o2, m1, m2, m3⟩ := handed h1 h3
      rw [h2] at m2
      cases m2
      have q := E'.at_ j _ h2
      rw [m3] at q
      exact q
  · obtain ⟨o1, q1⟩ := shape h1
    obtain ⟨o2, q2⟩ := shape h2
    exact E.inj i j _ _ _ _ a q1 q2 h3 h4
  · obtain ⟨i, b, o, h1, h2⟩ := q
    obtain ⟨o1, q1⟩ := shape h1
    exact .inl ⟨i, b, o1, q1, h2⟩
  · rcases give_get (bs := bs) (os := os) (δ := δ) i hn with ⟨h1, _⟩ | ⟨j, b1, o1, b', o', h1, h2, h3, h4⟩
    · exact ⟨o, h1.trans q, rfl⟩
    · rw [q] at h3
      cases h3
      exact ⟨o1, h4, rfl⟩
end
end VS
end

section
set_option Elab.async false
set_option linter.all false
set_option maxRecDepth 100000
/-! VS, part 9: calls as expressions; what is new and is given up. -/
namespace VS
open PySem PySem.Spec PyProof.Rows L2

section
variable {K : PySem.W.Frag} {g : G} {B H B1 H1 : Hp} {σ : St} {δ δ1 : List Sl}
/-- something new that nobody owns becomes known -/
theorem EnvOk.know (E : EnvOk K g B H σ δ) {a : Addr} {u : HO} {H' : Hp} (n : B a = none) (hu : H' a = some u) (hH : ∀ c, c ≠ a → H' c = H c) (nw : ¬ Ow σ δ a) : EnvOk K g (upd B a u) H' σ δ := by
  have le : Le B (upd B a u) := le_upd n
  refine ⟨fun c w q => ?_, E.len, fun i s hs => ?_, E.inj⟩
  · by_cases z : c = a
    · subst z
      rw [upd_same] at q
      rw [hu]
      exact q
    · rw [upd_ne z] at q
      rw [hH c z]
      exact E.le c w q
  · have k := E.at_ i s hs
    cases s with
    | un => exact True.intro
    | dat d =>
      obtain ⟨v, e2, r⟩ := k
      exact ⟨v, e2, r.mono le⟩
    | exc c fs =>
      obtain ⟨z, vs, k1, k2, k3, k4, k5⟩ := k
      exact ⟨z, vs, k1, k2, k3, le _ _ k4, k5.mono le⟩
    | own b p =>
      obtain ⟨c, e2, n2, r⟩ := k
      have ne : c ≠ a := fun z => nw ⟨i, b, p, hs, by rw [Option.join_eq_some_iff.mp e2, z]⟩
      exact ⟨c, e2, by rw [upd_ne ne]; exact n2, r.mono le (hH c ne)⟩
theorem Stp.know (S : Stp B H σ δ B1 H1 σ δ1) {a : Addr} {u : HO} {H' : Hp} (n : B1 a = none) (hH : ∀ c, c ≠ a → H' c = H1 c) (fr : H a = none ∨ Ow σ δ a) : Stp B H σ δ (upd B1 a u) H' σ δ1 :=
  ⟨S.b.trans (le_upd n), fun c w q m => (by
    by_cases z : c = a
    · subst z
      exact fr
    · rw [upd_ne z] at q
      exact S.nb c w q m), fun c w q m => (by
    by_cases z : c = a
    · subst z
      rcases fr with h | h
      · rw [q] at h
        cases h
      · exact absurd h m
    · rw [hH c z]
      exact S.fr c w q m), S.ow, S.br⟩
/-- what is new and given up, known -/
theorem ORep.know {a : Addr} {o : O} {P : Hp → Hp → Prop} (r : ORep K B1 H1 o a) (n : B1 a = none) (E : EnvOk K g B1 H1 σ δ1) (S : Stp B H σ δ B1 H1 σ δ1) (nw : ¬ Ow σ δ1 a) (fr : H a = none ∨ Ow σ δ a) {Q : V → Hp → Prop}
    (p : ∀ B' H', EnvOk K g B' H' σ δ1 → Stp B H σ δ B' H' σ δ1 → Rep K B' o.toD (.ref a) → Q (.ref a) H') : Q (.ref a) H1 ∨ ∃ d u, H1 d = some u ∧ Mut (some u) ∧ ∀ od, Q (.ref a) (upd H1 d (.frz od u)) := by
  cases o with
  | lst xs =>
    obtain ⟨vs, h1, h2⟩ := r
    exact .inl (p (upd B1 a (.lst vs)) H1 (E.know n h1 (fun _ _ => rfl) nw) (S.know n (fun _ _ => rfl) fr) ⟨a, vs, rfl, upd_same, h2.mono (le_upd n)⟩)
  | dct kvs =>
    obtain ⟨vs, h1, h2⟩ := r
    refine .inr ⟨a, .dK vs, h1, True.intro, fun od => ?_⟩
    exact p (upd B1 a (.frz od (.dK vs))) _ (E.know n upd_same (fun c z => upd_ne z) nw) (S.know n (fun c z => upd_ne z) fr) ⟨a, vs, rfl, ⟨od, upd_same⟩, h2.mono (le_upd n)⟩
end

def Rv.toD : Rv → D
  | .dat d => d
  | .new o => o.toD
/-- a call's value: data, or something new -/
def RlR (K : PySem.W.Frag) : Hp → St → List Sl → Hp → Hp → List Sl → Rv → V → Prop := fun H σ δ B' H' δ' r v => match r with
  | .dat d => Rep K B' d v
  | .new o => RlN K H σ δ B' H' δ' o v
abbrev OC (X : Cx) (g : G) (W : WX) (e : Expr) (f : Den Rv) : Prop := PE X e (tX X.K g W (RlR X.K) f)
def dOfC (f : Den Rv) : Den D := fun δ => (f δ).bind fun r δ1 => .ok r.toD δ1
def dOfN (f : Den O) : Den D := fun δ => (f δ).bind fun r δ1 => .ok r.toD δ1
section
variable {X : Cx} {g : G} {W : WX} {e : Expr} {es : List Expr} {pos px p : Pos} {x : Str}
theorem ofN_of {fo : Den O} (σ : St) (H : Hp) (Q : VK) (h : tX X.K g W (RlD X.K) (dOfN fo) σ H Q) : tGh (tX X.K g W (RlN X.K) fo) σ H Q := by
  obtain ⟨B, δ, E, p⟩ := h
  refine ⟨B, δ, E, ?_⟩
  unfold dOfN at p
  revert p
  cases fo δ with
  | stuck => exact id
  | exc c fs δ1 => exact id
  | ok o δ1 =>
    intro p B1 H1 E1 S1 v rv
    obtain ⟨a, rfl, n, r, nw, fr⟩ := rv
    exact r.know (P := fun _ _ => True) n E1 S1 nw fr fun B' H' E' S' rp => p B' H' E' S' _ rp
theorem ofN_ofL {fo : Den O} (hl : ∀ δ o δ', fo δ = .ok o δ' → ∃ xs, o = .lst xs) (σ : St) (H : Hp) (Q : VK) (h : tX X.K g W (RlD X.K) (dOfN fo) σ H Q) : tX X.K g W (RlN X.K) fo σ H Q := by
  obtain ⟨B, δ, E, p⟩ := h
  refine ⟨B, δ, E, ?_⟩
  unfold dOfN at p
  revert p
  cases q : fo δ with
  | stuck => exact id
  | exc c fs δ1 => exact id
  | ok o δ1 =>
    obtain ⟨xs, rfl⟩ := hl _ _ _ q
    intro p B1 H1 E1 S1 v rv
    obtain ⟨a, rfl, n, r, nw, fr⟩ := rv
    obtain ⟨vs, h1, h2⟩ := r
    exact p (upd B1 a (.lst vs)) H1 (E1.know n h1 (fun _ _ => rfl) nw) (S1.know n (fun _ _ => rfl) fr) _ ⟨a, vs, rfl, upd_same, h2.mono (le_upd n)⟩
theorem o_ofN {fo : Den O} (h : ON X g W e fo) : OE X g W e (dOfN fo) := pe_imp (pe_gh h) fun σ H Q q => ofN_of σ H Q q
theorem ofC_of {fr : Den Rv} (σ : St) (H : Hp) (Q : VK) (h : tX X.K g W (RlD X.K) (dOfC fr) σ H Q) : tGh (tX X.K g W (RlR X.K) fr) σ H Q := by
  obtain ⟨B, δ, E, p⟩ := h
  refine ⟨B, δ, E, ?_⟩
  unfold dOfC at p
  revert p
  cases fr δ with
  | stuck => exact id
  | exc c fs δ1 => exact id
  | ok r δ1 =>
    cases r with
    | dat d => exact fun p B1 H1 E1 S1 v rv => .inl (p B1 H1 E1 S1 v rv)
    | new o =>
      intro p B1 H1 E1 S1 v rv
      obtain ⟨a, rfl, n, r, nw, fr⟩ := rv
      exact r.know (P := fun _ _ => True) n E1 S1 nw fr fun B' H' E' S' rp => p B' H' E' S' _ rp
theorem o_ofC {fr : Den Rv} (h : OC X g W e fr) : OE X g W e (dOfC fr) := pe_imp (pe_gh h) fun σ H Q q => ofC_of σ H Q q
/-- x = f(..), x owns what is new -/
def dAsgR (i : Nat) (f : Den Rv) : Den Fl := fun δ => (f δ).bind fun r δ1 => match (match r with
  | .dat d => setSl i (.dat d) δ1
  | .new o => setSl i (.own false o) δ1) with
  | some δ2 => .ok .nxt δ2
  | none => .stuck
theorem setR_of {i : Nat} {fr : Den Rv} (D : Ends) (σ : St) (H : Hp) (h : tS X.K g W (dAsgR i fr) D σ H) : tAsg (tX X.K g W (RlR X.K) fr) (gName i) D σ H := by
  obtain ⟨B, δ, E, p⟩ := h
  refine ⟨B, δ, E, ?_⟩
  unfold dAsgR at p
  revert p
  cases fr δ with
  | stuck => exact id
  | exc c fs δ1 => exact fun p B' H' C d E2 S2 x => p B' H' σ C d E2 S2 x
  | ok r δ1 =>
    cases r with
    | dat d =>
      intro p B1 H1 E1 S1 v rv
      have p : PostS X.K g W B H σ δ (match setSl i (.dat d) δ1 with | some δ2 => .ok .nxt δ2 | none => .stuck) D := p
      cases q : setSl i (.dat d) δ1 with
      | none =>
        rw [q] at p
        exact False.elim p
      | some δ2 =>
        rw [q] at p
        obtain ⟨rfl, nb, _⟩ := setSl_some q
        exact p B1 H1 _ (E1.setD dat_own ⟨v, rfl, rv⟩) (S1.trans (Stp.setD dat_own nb))
    | new o =>
      intro p B1 H1 E1 S1 v rv
      obtain ⟨c, rfl, n, r, nw, fr⟩ := rv
      have p : PostS X.K g W B H σ δ (match setSl i (.own false o) δ1 with | some δ2 => .ok .nxt δ2 | none => .stuck) D := p
      cases q : setSl i (.own false o) δ1 with
      | none =>
        rw [q] at p
        exact False.elim p
      | some δ2 =>
        rw [q] at p
        obtain ⟨rfl, nb, _⟩ := setSl_some q
        exact p B1 H1 _ (E1.setN n r nw) (S1.setN nb fr)
theorem os_setR {fr : Den Rv} (nd : X.N.Nodup) (i : Nat) (he : OC X g W e fr) (hi : X.N[i]? = some x := by rfl) (hx : Loc X.env.scope x := by first | exact Or.inl rfl | exact Or.inr rfl) (hs : swapsWith e (some (.Name x px)) pos.line X.env = pure false := by rfl)
    (hf : X.fn x = true ∨ X.env.scope.names.lookup x = some .local := by first | exact .inl rfl | exact .inr rfl) : OS X g W (.Assign [.Name x px] e pos) (dAsgR i fr) := ps_imp (ps_set nd hi hx he hs hf) fun D σ H h => setR_of D σ H h
/-- return f(..) -/
def dRetR (f : Den Rv) : Den Fl := fun δ => (f δ).bind fun r δ1 => .ok (.ret r) δ1
theorem os_retR {fr : Den Rv} (h : OC X g W e fr) : OS X g W (.Return (some e) pos) (dRetR fr) := by
  refine ps_imp (ps_ret h) fun D σ H ⟨B, δ, E, p⟩ => ⟨B, δ, E, ?_⟩
  unfold dRetR at p
  revert p
  cases fr δ with
  | stuck => exact id
  | exc c fs δ1 => exact fun p B' H' C d E2 S2 x => p B' H' σ C d E2 S2 x
  | ok r δ1 =>
    intro p B1 H1 E1 S1 v rv
    refine p B1 H1 σ _ E1 S1 ?_
    cases r with
    | dat d => exact rv
    | new o =>
      obtain ⟨c, rfl, n, r, nw, fr⟩ := rv
      exact ⟨c, rfl, n, r, fun i u h1 h2 => nw ⟨i, true, u, h1, h2⟩, fr⟩

/-! ### the call of a def -/
def dCall (F : List Sl → Cr) (bs : List (Option Nat)) (k : Den (List (Option D))) : Den Rv := fun δ => (k δ).bind fun ds δ1 => match fill δ1 bs ds with
  | some as => (match F as with
    | .ret r os => .ok r (give bs os δ1)
    | .exc c fs os => .exc c fs (give bs os δ1)
    | .stuck => .stuck)
  | none => .stuck
theorem give_ow {bs : List (Option Nat)} {os δ : List Sl} {σ : St} {a : Addr} (hn : (idxs bs).Nodup) (h : Ow σ (give bs os δ) a) : Ow σ δ a := by
  obtain ⟨i, b, o, h1, h2⟩ := h
  rcases give_get (bs := bs) (os := os) (δ := δ) i hn with ⟨q, _⟩ | ⟨j, b1, o1, b', o', q1, q2, q3, q4⟩
  · exact ⟨i, b, o, by rw [← q]; exact h1, h2⟩
  · exact ⟨i, b', o', q3, h2⟩
variable {k j : Nat} {hotOk : Bool} {f : Addr} {fd : FuncData} {ps : List Str} {F : List Sl → Cr} {bs : List (Option Nat)} {fa : Den (List (Option D))}
theorem call_of (hn : (idxs bs).Nodup) (hl : bs.length = ps.length) (σ : St) (H : Hp) (Q : VK) (h : tX X.K g W (RlR X.K) (dCall F bs fa) σ H Q) :
    tCallS (spD X.K g ps.length F) (WE W) (tX X.K g W (fun _ σ _ B' _ _ ds vs => ArOk X.K B' σ bs ds vs) fa) σ H Q := by
  obtain ⟨B, δ, E, p⟩ := h
  refine ⟨B, δ, E, ?_⟩
  unfold dCall at p
  revert p
  cases fa δ with
  | stuck => exact id
  | exc c fs δ1 => exact id
  | ok ds δ1 =>
    intro p B1 H1 E1 S1 vs rvs
    have p : Post X.K g W B H σ δ (match fill δ1 bs ds with
      | some as => (match F as with
        | .ret r os => .ok r (give bs os δ1)
        | .exc c fs os => .exc c fs (give bs os δ1)
        | .stuck => .stuck)
      | none => .stuck) _ := p
    cases ef : fill δ1 bs ds with
    | none =>
      rw [ef] at p
      exact False.elim p
    | some as =>
      simp only [ef] at p
      have fl := E1.fill hn rvs ef
      refine ⟨B1, as, ?_, fl.1, fl.2, ?_⟩
      · rw [← (fill_len rvs ef).1, (fill_len rvs ef).2, hl]
      · cases eF : F as with
        | stuck =>
          rw [eF] at p
          exact False.elim p
        | exc c fs os =>
          simp only [eF] at p
          exact fun B' H' C d E2 S2 x => (let z := E1.give hn rvs ef E2 S2; p B' H' C d z.1 (S1.trans z.2) x)
        | ret r os =>
          simp only [eF] at p
          intro B' H' v E2 S2 rv
          have z := E1.give hn rvs ef E2 S2
          refine p B' H' z.1 (S1.trans z.2) v ?_
          cases r with
          | dat d => exact rv
          | new o =>
            obtain ⟨a, e1, n, ro, fr⟩ := rv
            exact ⟨a, e1, n, ro, fun w => E1.notOw fr (give_ow hn w), S1.free fr⟩
theorem run_g (C : CtxOk k g W X) (hF : FnG X.prog X.w X.K X.mg X.base g.cA hotOk j f fd ps F) (hj : j ≤ k) (hz : g.Z = none ∨ hotOk = true) (hb : Binds X.K fd ps []) {pins : List (Addr × Obj)} {σ : St} {H : Hp} {s : Shared} {Q : VK} {us : List Value} {vs : List V}
    (I : Inv X pins σ H s) (r : Vals vs us) (h : spD X.K g ps.length F vs H Q (WE W σ)) : wpAny (model X.prog X.w) X.A (call (.ref f) us) (EP X pins σ Q) X.xe s := by
  obtain ⟨_, _, hv, _⟩ := id h
  have hl : us.length = ps.length := by rw [← r.length]; exact hv
  have bd := hb s us I.kIn (by rw [List.append_nil]; exact hl)
  rw [List.append_nil] at bd
  have hp : ∀ z, g.Z = some z → L2H.Hot1 X.A z.p ∧ L2H.PinOk X.stack H s z.p ∧ Zc (.ref z.C) (some z.d) z.p.2 := fun z ez => by
    obtain ⟨h1, h2, h3⟩ := C.hot z ez
    obtain ⟨q1, q2, q3, q4, q5⟩ := I.pin z.p (List.mem_append_left _ h2)
    exact ⟨h1, ⟨q1, q2, fun hm => (List.mem_cons.mp (I.stkSub z.p.1 hm)).elim q3 q4, q5⟩, h3⟩
  refine wpAny_call (codeAny_mono (hF.run g.Z X.A X.stack s H ⟨us, []⟩ us vs Q (WE W σ) hz (C.room.mono hj) hp I.env0 bd r h) fun r s' hq => ?_)
  cases r with
  | error er => exact L2N.passAt C.tk σ pins H s er s' I hq
  | ok fl =>
    cases fl with
    | ret u => exact I.after hq
    | next => exact False.elim hq
    | brk => exact False.elim hq
    | cont => exact False.elim hq
theorem oc_call (C : CtxOk k g W X) (hF : FnG X.prog X.w X.K X.mg X.base g.cA hotOk j f fd ps F) (hj : j ≤ k) (hz : g.Z = none ∨ hotOk = true) (hg : Gl X x) (hm : X.mg x = some (.ref f)) (hk : PySem.W.keepIn X.K (.ref f) = true) (hb : Binds X.K fd ps []) (ha : OR X g W (e :: es) bs fa)
    (hn : (idxs bs).Nodup := by decide) (hl : bs.length = ps.length := by rfl) (hdb : (x == ("__debug__" : Str)) = false := by decide) (he : starEach (e :: es) X.env = (false, eval e X.env) :: starEach es X.env := by rfl) (hpl : (backTo pos (starEach es X.env)).any (·.1) = false := by rfl) :
    OC X g W (.Call (.Name x p) (e :: es) [] pos) (dCall F bs fa) := by
  refine pe_imp (t := tCallS (spD X.K g ps.length F) (WE W) (tX X.K g W (fun _ σ _ B' _ _ ds vs => ArOk X.K B' σ bs ds vs) fa)) ⟨fun pins s σ H Q I h => ?_⟩ fun σ H Q h => call_of hn hl σ H Q h
  refine wpAny_Call_Name_kw (ld_glob I hg hm ?_ hdb)
  exact PySem.W.callWith_K (h₀ := X.base) I.ok.mod.kin hk (thn (ha.run pos pins s σ H _ I h) fun us s1 ⟨vs, H1, I1, rv, q⟩ => ⟨I1.kIn, run_g C hF hj hz hb I1 rv q⟩) he hpl
theorem oc_call0 (C : CtxOk k g W X) (hF : FnG X.prog X.w X.K X.mg X.base g.cA hotOk j f fd [] F) (hj : j ≤ k) (hz : g.Z = none ∨ hotOk = true) (hg : Gl X x) (hm : X.mg x = some (.ref f)) (hk : PySem.W.keepIn X.K (.ref f) = true) (hb : Binds X.K fd [] [])
    (hdb : (x == ("__debug__" : Str)) = false := by decide) : OC X g W (.Call (.Name x p) [] [] pos) (dCall F [] dNoArg) := by
  refine ⟨fun pins s σ H Q I h => ?_⟩
  refine wpAny_Call_Name_kw (ld_glob I hg hm ?_ hdb)
  have q : tCallS (spD X.K g 0 F) (WE W) (tX X.K g W (fun _ σ _ B' _ _ ds vs => ArOk X.K B' σ [] ds vs) dNoArg) σ H Q := call_of (ps := []) (by decide) rfl σ H Q h
  obtain ⟨B, δ, E, q⟩ := q
  exact PySem.W.callWith_K0 I.kIn hk (run_g (us := []) C hF hj hz hb I .nil (q B H E .refl [] rfl))
end
end VS
end

section
set_option Elab.async false
set_option linter.all false
set_option maxRecDepth 100000
/-! VS, part 10: own exceptions: made, raised, caught, looked at. -/
namespace VS
open PySem PySem.Spec PyProof.Rows L2

/-! ### an exception's fields -/
def flds {α : Type} (w : α) (names : List Str) (ds : List α) : List (Str × α) := ((("word" : Str), w) :: names.zip ds).reverse
theorem RepF.append {K : PySem.W.Frag} {B : Hp} : ∀ {fs gs : List (Str × D)} {vs ws : List (Str × V)}, RepF K B fs vs → RepF K B gs ws → RepF K B (fs ++ gs) (vs ++ ws)
  | [], _, _, _, h, t => by
    rw [show _ = [] from h]
    exact t
  | (n, d) :: ds, _, _, _, h, t => by
    obtain ⟨v, r, rfl, h2, h3⟩ := h
    exact ⟨v, _, rfl, h2, RepF.append h3 t⟩
theorem RepF.reverse {K : PySem.W.Frag} {B : Hp} : ∀ {fs : List (Str × D)} {vs : List (Str × V)}, RepF K B fs vs → RepF K B fs.reverse vs.reverse
  | [], _, h => by
    rw [show _ = [] from h]
    rfl
  | (n, d) :: ds, _, h => by
    obtain ⟨v, r, rfl, h2, h3⟩ := h
    simp only [List.reverse_cons]
    exact (RepF.reverse h3).append ⟨v, [], rfl, h2, rfl⟩
theorem RepF.zip {K : PySem.W.Frag} {B : Hp} : ∀ {names : List Str} {ds : List D} {vs : List V}, RepL K B ds vs → RepF K B (names.zip ds) (names.zip vs)
  | [], _, _, _ => rfl
  | n :: ns, [], _, h => by
    rw [show _ = [] from h]
    rfl
  | n :: ns, d :: ds, _, h => by
    obtain ⟨v, r, rfl, h2, h3⟩ := h
    exact ⟨v, _, rfl, h2, RepF.zip h3⟩
theorem RepF.flds {K : PySem.W.Frag} {B : Hp} {w : Str} {names : List Str} {ds : List D} {vs : List V} (h : RepL K B ds vs) : RepF K B (VS.flds (.str w) names ds) (VS.flds (.str w) names vs) :=
  RepF.reverse ⟨.str w, _, rfl, rfl, RepF.zip h⟩

/-- the promise of such an __init__: self.word = w, then the parameters by their names -/
def spI (C : Addr) (w : Str) (names : List Str) : Sp := fun vs H Q _ => ∃ a args, vs = .ref a :: args ∧ args.length = names.length ∧ H a = some (exo a C none) ∧
  ∀ d, H d = none → d ≠ a → Q .non (upd (upd H a (exo a C (some d))) d (exd d (flds (.str w) names args)))
/-- what is to be known of such a class -/
structure ExK (P : Program) (w : World) (K : PySem.W.Frag) (mg : Str → Option Value) (base : Heap) (x : Str) (C : Addr) (word : Str) (names : List Str) : Prop where
  T : OexC K C
  m : mg x = some (.ref C)
  init : ∃ (fI : Addr) (fd : FuncData) (ps : List Str), PySem.W.findIn K (.ref C) "__init__" = some (some (.ref fI)) ∧ PySem.W.typeIn K (.ref fI) = some (.type "function") ∧ FnOk P w K mg base CX0 1 fI fd ps (spI C word names) ∧ Binds K fd ps []

section
variable {X : Cx} {g : G} {W : WX} {e : Expr} {es : List Expr} {pos p p1 : Pos} {x : Str} {C : Addr} {word : Str} {names : List Str} {k : Nat} {fs : Den (List D)}
/-- C(e, ..) where nothing is handled: the exception's context is None -/
theorem make_calm {CXt : CXT} {kk : Nat} {fI : Addr} {fd : FuncData} {ps : List Str} {sp : Sp} {ta : TA} (T : OexC X.K C) (iC : PySem.W.findIn X.K (.ref C) "__init__" = some (some (.ref fI))) (tI : PySem.W.typeIn X.K (.ref fI) = some (.type "function"))
    (F1 : FnOk X.prog X.w X.K X.mg X.base CXt kk fI fd ps sp) (hr : Room (kk + 1) X.A) (hb : Binds X.K fd ps []) (hx : Passes CXt X (fun _ _ _ => False)) (hg : Gl X x) (hm : X.mg x = some (.ref C)) (ha : PA X (e :: es) ta)
    (hdb : (x == ("__debug__" : Str)) = false) (he : starEach (e :: es) X.env = (false, eval e X.env) :: starEach es X.env) (hpl : (backTo pos (starEach es X.env)).any (·.1) = false) :
    L2N.PMk X (.Call (.Name x p) (e :: es) [] pos) (tMkO C sp [] ta) := by
  intro pins s0 σ0 H0 Q0 I0 rd
  obtain ⟨c1, c2, cN, cB, cM, c6, c7, c8, c9, c10, d0, d1, d2, d3, d5, hC, hM⟩ := T.cls
  refine wpAny_Call_Name_kw (ld_glob I0 hg hm ?_ hdb)
  refine PySem.W.callWith_K (h₀ := X.base) I0.ok.mod.kin T.kC (thn (ha.run pos pins s0 σ0 H0 _ I0 rd) fun us sA ⟨vs, HA, IA, rA, zA, qA⟩ => ⟨IA.kIn, ?_⟩) he hpl
  obtain ⟨hA, gA, drA, tkA, osA⟩ := sA
  have le1 : hA.objs.size ≤ hA.objs.size + 1 := Nat.le_succ _
  have fresh : HA (hA.objs.size + 1) = none := IA.hok.fresh le1
  have prom := qA (hA.objs.size + 1) fresh
  rw [List.append_nil] at prom
  generalize hB : (hA.push (PySem.W.kdv_tup us)).push (PySem.HandSPX.excO C hA.objs.size) = hNew at *
  have keepAB : ∀ b o, hA.get? b = some o → hNew.get? b = some o := fun b o q => by
    rw [← hB]
    exact Heap.get?_push_of_some _ (Heap.get?_push_of_some _ q)
  have there : hNew.get? (hA.objs.size + 1) = some (PySem.HandSPX.excO C hA.objs.size) := by
    rw [← hB]
    heap_get
  have IB : Inv X pins σ0 (upd HA (hA.objs.size + 1) (exo (hA.objs.size + 1) C none)) ⟨hNew, gA, drA, tkA, osA⟩ := IA.laid (t' := tkA) (o := exo (hA.objs.size + 1) C none) keepAB le1 (exo_ok there)
  have rB : Vals (V.ref (hA.objs.size + 1) :: vs) (Value.ref (hA.objs.size + 1) :: us) := .cons rfl rA
  have lenB : (Value.ref (hA.objs.size + 1) :: us ++ []).length = ps.length := by
    rw [List.append_nil, ← rB.length]
    exact F1.len _ _ _ _ prom
  have lenU : us.length ≤ sizeLine := by
    have z := Paired.length rA
    rw [sizeLine_eq]
    omega
  have bdB := hb _ (Value.ref (hA.objs.size + 1) :: us) IB.kIn lenB
  rw [List.append_nil] at bdB
  have run := F1.run _ X.stack ⟨hNew, gA, drA, tkA, osA⟩ _ ⟨Value.ref (hA.objs.size + 1) :: us, []⟩ (Value.ref (hA.objs.size + 1) :: us) _ _ (fun _ _ _ => False) (hr.make C us []) (IB.env0.make C us []) bdB rB prom
  rw [← hB] at run
  show wpAny _ _ (call (.ref C) us) _ _ _
  refine wpAny_call (PySem.HandSPX.call_own F.excBase_ValueError (fun Y => PySem.HandSPX.refsVE_contains Y cM hM) (IA.kIn _ _ hC) (PySem.W.looks_findIn IA.kIn iC) (fun self => PySem.W.bind_fn IA.kIn self tI) lenU (codeAny_mono run fun r sE hE => ?_))
  rw [hB] at hE
  cases r with
  | error er => exact hx pins σ0 _ _ er sE IB hE
  | ok fl =>
    cases fl with
    | ret u =>
      obtain ⟨v, HE, osE, bareE, unE, hokE, rvE, evE, d, fsE, ea, ed, hd1, qE⟩ := hE
      subst evE
      obtain ⟨h2, g2, dr2, t2, os2⟩ := sE
      obtain ⟨t0, GH, J, kG, ge, hoe, na⟩ := mk_end0 (d2 := dr2) (t2 := t2) IA le1 keepAB unE hokE osE bareE ea ed hd1
      exact ⟨rvE, hA.objs.size + 1, _, _, ⟨GH, g2, dr2, t2, os2⟩, _, .ref C, some d, rfl, J, kG, ge, hoe, ⟨rfl, rfl, fun ws ew => (by cases ew; rfl)⟩, rfl, rfl, na, rfl, bareE, raises_own T.exC T.tyC, qE⟩
    | next => exact False.elim hE
    | brk => exact False.elim hE
    | cont => exact False.elim hE
/-- raise C(e, ..) -/
def dRaise (c : Nat) (word : Str) (names : List Str) (fs : Den (List D)) : Den Fl := fun δ => (fs δ).bind fun ds δ1 => match decide (ds.length = names.length ∧ ds.length ≤ 1000) with
  | true => .exc c (flds (.str word) names ds) δ1
  | false => .stuck
theorem os_raise {c : Nat} (Cx0 : CtxOk k g W X) (h1 : 2 ≤ k) (hz : g.Z = none) (hc : g.cA c = C) (T : ExK X.prog X.w X.K X.mg X.base x C word names) (hg : Gl X x) (ha : OA X g W (e :: es) fs)
    (hdb : (x == ("__debug__" : Str)) = false := by decide) (he : starEach (e :: es) X.env = (false, eval e X.env) :: starEach es X.env := by rfl) (hpl : (backTo p1 (starEach es X.env)).any (·.1) = false := by rfl) :
    OS X g W (.Raise (some (.Call (.Name x p) (e :: es) [] p1)) none pos) (dRaise c word names fs) := by
  obtain ⟨fI, fd, ps, iC, tI, F1, hb⟩ := T.init
  refine ps_imp (L2N.ps_raise (Cx0.calm hz) Cx0.tk (make_calm T.T iC tI F1 ((Cx0.room.calm hz).mono h1) hb pass0 hg T.m ha hdb he hpl)) fun D σ H ⟨B, δ, E, q⟩ => ⟨B, δ, E, q.bind.mono fun B1 H1 δ1 ds E1 S1 q1 vs rv => ?_⟩
  cases dl : decide (ds.length = names.length ∧ ds.length ≤ 1000) with
  | false =>
    rw [dl] at q1
    exact False.elim q1
  | true =>
    rw [dl] at q1
    obtain ⟨dl1, dl2⟩ := of_decide_eq_true dl
    have lv := rv.length
    refine ⟨by rw [lv]; exact dl2, fun a na => ⟨a, vs, by rw [List.append_nil], by rw [lv]; exact dl1, upd_same, fun d nd dna => ?_⟩⟩
    have nd1 : H1 d = none := by
      rw [upd_ne dna] at nd
      exact nd
    refine ⟨rfl, d, _, ?_, upd_same, nd1, ?_⟩
    · rw [upd_ne (Ne.symm dna), upd_same]
    · have eqH : upd (L2.del (upd (upd (upd H1 a (exo a C none)) a (exo a C (some d))) d (exd d (flds (.str word) names vs))) a) d (.xd (flds (.str word) names vs)) = upd H1 d (.xd (flds (.str word) names vs)) := by
        funext b
        by_cases hb1 : b = d
        · rw [hb1, upd_same, upd_same]
        · rw [upd_ne hb1, upd_ne hb1]
          by_cases hb2 : b = a
          · rw [hb2, L2.del_same, na]
          · rw [L2.del_ne hb2, upd_ne hb1, upd_ne hb2, upd_ne hb2]
      rw [eqH]
      exact q1 (upd B1 d (.xd (flds (.str word) names vs))) _ σ C d (E1.alloc _ nd1) (Stp.alloc E1 nd1) ⟨hc, _, upd_same, (RepF.flds rv).mono (le_upd (le_none E1.le nd1))⟩
end

/-! ### try: body, except Base as n: suite -/
/-- the suite's end: the name goes; no handled exception stays in a slot -/
def noExc : List Sl → Bool
  | [] => true
  | .exc _ _ :: _ => false
  | _ :: δ => noExc δ
def leave (i : Nat) (r : Res Fl) : Res Fl := match r with
  | .ok a δ => (match setSl i .un δ with
    | some δ' => (match noExc δ' with
      | true => .ok a δ'
      | false => .stuck)
    | none => .stuck)
  | _ => .stuck
/-- cat c: does the clause take an exception of the class c? -/
def dTry (cat : Nat → Option Bool) (i : Nat) (u w : Den Fl) : Den Fl := fun δ => match u δ with
  | .exc c fs δ1 => (match cat c with
    | some true => (match setSl i (.exc c fs) δ1 with
      | some δ2 => leave i (w δ2)
      | none => .stuck)
    | some false => .exc c fs δ1
    | none => .stuck)
  | r => r
theorem noExc_get : ∀ {δ : List Sl} {i : Nat} {c : Nat} {fs : List (Str × D)}, noExc δ = true → δ[i]? ≠ some (.exc c fs)
  | [], i, c, fs, _ => by simp
  | s :: δ, 0, c, fs, h => by
    cases s <;> first | (simp [noExc] at h; done) | simp
  | s :: δ, i + 1, c, fs, h => by
    have h' : noExc δ = true := by
      cases s <;> first | (simp [noExc] at h; done) | (simpa [noExc] using h)
    simpa using noExc_get h'
section
variable {K : PySem.W.Frag} {g : G} {B H : Hp} {σ : St} {δ : List Sl}
theorem SlOk.reg {g' : G} {s : Sl} {x : Option V} (h : SlOk K g B H s x) (n : ∀ c fs, s ≠ .exc c fs) : SlOk K g' B H s x := by
  cases s with
  | exc c fs => exact absurd rfl (n c fs)
  | un => exact h
  | dat d => exact h
  | own b o => exact h
theorem EnvOk.calmTo {g' : G} (hz : g.Z = none) (E : EnvOk K g B H σ δ) : EnvOk K g' B H σ δ :=
  ⟨E.le, E.len, fun i s h => (E.at_ i s h).reg fun c fs e => (by
    subst e
    obtain ⟨z, vs, e1, _⟩ := E.at_ i _ h
    rw [hz] at e1
    cases e1), E.inj⟩
theorem EnvOk.noExc {g' : G} (E : EnvOk K g B H σ δ) (h : VS.noExc δ = true) : EnvOk K g' B H σ δ :=
  ⟨E.le, E.len, fun i s hs => (E.at_ i s hs).reg fun c fs e => (by
    subst e
    exact noExc_get h hs), E.inj⟩
end
theorem exc_own {c : Nat} {fs : List (Str × D)} : ∀ b o, Sl.exc c fs ≠ .own b o := fun b o z => by cases z
theorem un_own : ∀ b o, Sl.un ≠ .own b o := fun b o z => by cases z

section
variable {X : Cx} {g : G} {W : WX} {x n : Str} {c0 : Value} {i k : Nat} {body suite : List Stmt} {b0 : Stmt} {np pos pos' : Pos} {u w : Den Fl} {cat : Nat → Option Bool}
theorem os_try (C0 : CtxOk k g W X) (hz : g.Z = none) (hs : X.stack = X.env :: X.outer) (hf : X.env.frame = some X.env.locals) (hi : X.N[i]? = some n) (hln : X.env.kindOf n = some .local) (hc : Names X x c0)
    (hcat : ∀ c b, cat c = some b → PySem.W.exmOne X.K (.ref (g.cA c)) c0 = some b)
    (hb : ∀ (W' : WX) (pn : List (Addr × Obj)) (xe : Value → Shared → Prop), CtxOk k g W' (X.tr pn xe) → OSs (X.tr pn xe) g W' body u)
    (hsu : ∀ (z : Hx) (pn : List (Addr × Obj)), CtxOk k ⟨g.cA, some z⟩ (fun _ _ _ _ => False) (X.suite z.p.1 (z.p :: pn)) → OSs (X.suite z.p.1 (z.p :: pn)) ⟨g.cA, some z⟩ (fun _ _ _ _ => False) (b0 :: suite) w) :
    OS X g W (.Try body [.ExceptHandler (some (.Name x np)) (some n) (b0 :: suite) pos'] [] [] pos) (dTry cat i u w) := by
  have hr := C0.room.calm hz
  refine ps_imp (L2N.ps_try_as (tb := fun W' => tS X.K g W' u) (ts := fun a cls d D σ H => ∃ C d', cls = .ref C ∧ d = some d' ∧ ∀ oe : Obj, Zc cls d oe → tS X.K ⟨g.cA, some ⟨(a, oe), C, d'⟩⟩ (fun _ _ _ _ => False) w D σ H) hs hf C0.nd hi hln hc C0.tk
    (fun W' pn xe tk po => hb W' pn xe ⟨C0.nd, tk, po, C0.calm, (fun z ez => by rw [hz] at ez; cases ez), C0.room⟩) (fun a oe cls d pn hzn hfl => ?_)) fun D σ H h => ?_
  · refine ⟨fun pins s σ H D I h => ?_⟩
    obtain ⟨vs0, hv0⟩ := hfl
    obtain ⟨C, d', rfl, rfl, h⟩ := h
    refine (hsu ⟨(a, oe), C, d'⟩ pn ⟨C0.nd, ?_, ?_, (fun q => by cases q), (fun z ez => by
      cases ez
      exact ⟨⟨rfl, vs0, hv0, hzn.2.2 vs0 hv0⟩, List.mem_cons_self, hzn.zc⟩), ⟨(fun q => by cases q), fun _ => ⟨hr.dp, hr.un⟩, C0.room.gd⟩⟩).run pins s σ H D I (h oe hzn.zc)
    · exact fun u s' ⟨_, _, _, _, _, _, _, _, _, _, _, _, _, _, _, _, q⟩ => q
    · exact PassesOwn.never
  · obtain ⟨B, δ, E, p⟩ := h
    refine ⟨B, δ, E, ?_⟩
    unfold dTry at p
    revert p
    cases u δ with
    | stuck => exact id
    | ok a δ1 =>
      cases a with
      | nxt => exact id
      | brk => exact id
      | cnt => exact id
      | ret r => exact id
    | exc c fs δ1 =>
      intro p B1 H1 σ1 C d E1 S1 x1
      obtain ⟨hC, vs, hd, rf⟩ := x1
      have p : PostS X.K g W B H σ δ (match cat c with
        | some true => (match setSl i (.exc c fs) δ1 with
          | some δ2 => leave i (w δ2)
          | none => .stuck)
        | some false => .exc c fs δ1
        | none => .stuck) D := p
      cases ec : cat c with
      | none =>
        rw [ec] at p
        exact False.elim p
      | some b =>
        refine ⟨b, by rw [← hC]; exact hcat c b ec, fun hb1 a na => ?_, fun hb1 => ?_⟩
        · subst hb1
          simp only [ec] at p
          cases e2 : setSl i (.exc c fs) δ1 with
          | none =>
            simp only [e2] at p
            exact False.elim p
          | some δ2 =>
            simp only [e2] at p
            obtain ⟨rfl, nb, _⟩ := setSl_some e2
            refine ⟨C, d, rfl, rfl, fun oe hzc => ⟨B1, δ1.set i (.exc c fs), (E1.calmTo hz).setD exc_own ⟨_, vs, rfl, rfl, hC, hd, rf⟩, ?_⟩⟩
            have S2 : Stp B H σ δ B1 H1 (σ1.set i (some (.ref a))) (δ1.set i (.exc c fs)) := S1.trans (Stp.setD exc_own nb)
            revert p
            cases w (δ1.set i (.exc c fs)) with
            | stuck => exact id
            | exc c' fs' δ3 => exact False.elim
            | ok fl δ3 =>
              intro p
              have p : PostS X.K g W B H σ δ (match setSl i .un δ3 with
                | some δ' => (match noExc δ' with
                  | true => .ok fl δ'
                  | false => .stuck)
                | none => .stuck) D := p
              cases e3 : setSl i .un δ3 with
              | none =>
                rw [e3] at p
                exact False.elim p
              | some δ4 =>
                simp only [e3] at p
                obtain ⟨rfl, nb3, _⟩ := setSl_some e3
                cases e4 : noExc (δ3.set i .un) with
                | false =>
                  rw [e4] at p
                  exact False.elim p
                | true =>
                  simp only [e4] at p
                  have back : ∀ {B3 H3 : Hp} {σ3 : St}, EnvOk X.K ⟨g.cA, some ⟨(a, oe), C, d⟩⟩ B3 H3 σ3 δ3 → Stp B1 H1 (σ1.set i (some (.ref a))) (δ1.set i (.exc c fs)) B3 H3 σ3 δ3 →
                      EnvOk X.K g B3 H3 (σ3.set i none) (δ3.set i .un) ∧ Stp B H σ δ B3 H3 (σ3.set i none) (δ3.set i .un) := fun {B3 H3 σ3} E3 S3 =>
                    ⟨(E3.setD un_own True.intro).noExc e4, (S2.trans S3).trans (Stp.setD un_own nb3)⟩
                  cases fl with
                  | nxt => exact fun B3 H3 σ3 E3 S3 => p B3 H3 _ (back E3 S3).1 (back E3 S3).2
                  | brk => exact fun B3 H3 σ3 E3 S3 => p B3 H3 _ (back E3 S3).1 (back E3 S3).2
                  | cnt => exact fun B3 H3 σ3 E3 S3 => p B3 H3 _ (back E3 S3).1 (back E3 S3).2
                  | ret r =>
                    refine fun B3 H3 σ3 v E3 S3 rv => p B3 H3 _ v (back E3 S3).1 (back E3 S3).2 ?_
                    cases r with
                    | dat d => exact rv
                    | new o =>
                      obtain ⟨a', q1, q2, q3, q4, q5⟩ := rv
                      refine ⟨a', q1, q2, q3, fun j o' h1 h2 => ?_, S2.back q5⟩
                      rcases set_get h1 with ⟨_, z⟩ | ⟨z, h1⟩
                      · cases z
                      · rw [List.getElem?_set_ne z] at h2
                        exact q4 j o' h1 h2
        · subst hb1
          simp only [ec] at p
          exact p B1 H1 σ1 C d E1 S1 ⟨hC, vs, hd, rf⟩
end
end VS
end

section
set_option Elab.async false
set_option linter.all false
set_option maxRecDepth 100000
set_option maxHeartbeats 4000000
/-! VS, part 11: the handled exception looked at: isinstance and its fields. -/
namespace PySem.W
open PySem PySem.Spec PySem.Calls PyProof.Rows
section
variable {prog : Program} {w : World} {A : Around} {E : Value → Shared → Prop} {s : Shared} {K : Frag} {x C : Addr} {ox : Obj} {od : Option Obj}
/-- the class of an own exception, whether or not it has a dict of its own -/
theorem vs_class {Q : Option Value → Shared → Prop} (T : L2.ExcC K C) (inK : K.In s.heap) (at_ : InstAt s.heap x ox C od) (hQ : Q (some (.ref C)) { s with toks := s.toks + 1 }) : wpAny (model prog w) A (getAttr? (.ref x) "__class__") Q E s := by
  obtain ⟨cdat, hcd, _⟩ := any_some T.hd
  have found : findObj K C od "__class__" = some (.bind (.builtin "getset_descriptor.__get__") (.builtin "object.__class__")) := by
    unfold findObj
    rw [hcd, Option.bind_some, T.ha, Option.bind_some]
    simp [T.hn, T.ht]
  obtain ⟨hp, gs, dr, tk, os⟩ := s
  have ty0 := at_.type (M := model prog w)
  have ga0 := looks_findIn (M := model prog w) inK T.hg
  have gt0 := looks_findIn (M := model prog w) inK T.hk
  have fd0 := looks_find (M := model prog w) inK at_ found
  have exc0 : Looks (model prog w) hp (isInstance (.ref x) (.type "BaseException")) true := ty0.andThen (looks_subIn inK T.hs)
  have no0 : (onTheHeap (Value.ref C) && Value.builtin "BaseException.__getattribute__" == Value.builtin "object.__getattribute__") = false := by
    have z : (Value.builtin "BaseException.__getattribute__" == Value.builtin "object.__getattribute__") = false := by decide +kernel
    rw [z]
    rfl
  unfold getAttr? getAttrBy? getAttrBy
  refine wpAny_bind (wpAny_mkText (wpAny_bind (wpAny_attempt (wpAny_holding (wpAny_bind (ty0.at (wpAny_bind (ga0.at ?_))))))))
  show wpAny _ _ (if (onTheHeap (Value.ref C) && Value.builtin "BaseException.__getattribute__" == Value.builtin "object.__getattribute__") = true then _ else _) _ _ _
  rw [no0, if_neg Bool.false_ne_true]
  unfold getAttrByItsOwn hookBefore
  refine wpAny_bind ?_
  rw [if_pos (show onTheHeap (Value.ref C) = true from rfl)]
  refine gt0.at (wpAny_bind (wpAny_attempt (wpAny_holding ?_)))
  unfold callGetattribute
  rw [show (false && onTheHeap (Value.builtin "BaseException.__getattribute__")) = false from rfl, if_neg Bool.false_ne_true]
  unfold boundAndCalled
  rw [PySem.F.excAttr_ValueError.ga.bind (.ref x)]
  refine wpAny_bind (wpAny_pure ?_)
  show wpAny _ _ (call (.builtin "BaseException.__getattribute__") [.ref x, .str "__class__" tk]) _ _ _
  refine wpAny_call (codeAny_call_builtin PySem.F.excAttr_ValueError.ga.plain PySem.F.entry_bexc_ga ?_)
  refine @check_slot (model prog w) _ _ ⟨hp, gs, dr, tk + 1, os⟩ "BaseException.__getattribute__" "BaseException" "__getattribute__" (.ref x) [.str "__class__" tk] [] _ (by decide +kernel) (by decide +kernel) exc0 (PySem.F.args_bexc_ga (.ref x) (.str "__class__" tk)) ?_
  unfold Builtin.«object.__getattribute__»
  refine wpAny_bind (wpAny_of_eq (a := ((Value.ref x : Value), [Value.str "__class__" tk])) (by first | rfl | (simp only [slotArgs]; rfl)) ?_)
  refine wpAny_bind (wpAny_pure (wpAny_bind (ty0.at (wpAny_bind (fd0.at ?_)))))
  show wpAny _ _ (holding [Value.builtin "object.__class__"] (call (.builtin "getset_descriptor.__get__") [.builtin "object.__class__", .ref x, .ref C]) >>= ret) _ _ _
  refine wpAny_bind (wpAny_holding (wpAny_call (class_get (s := ⟨hp, gs, dr, tk + 1, os⟩) (ox := ox) (od := od) inK at_ T.hm ?_)))
  refine wpAny_pure ?_
  show wpAny _ _ (handedOut (.ref C)) _ _ _
  rw [handedOut_of (v := .ref C) rfl]
  first
    | exact wpAny_pure (wpAny_pure hQ)
    | exact wpAny_pure hQ
    | exact wpAny_pure (wpAny_bind (wpAny_pure (wpAny_pure hQ)))
theorem vs_kit (T : L2.ExcC K C) : KitX K (.ref x) (.ref C) (fun h => InstAt h x ox C od) := by
  obtain ⟨cdat, hcd, _⟩ := any_some T.hd
  have obj : ∃ c' d' sl', K.lookup C = some ⟨c', d', .cls cdat, sl'⟩ := by
    unfold clsIn at hcd
    split at hcd
    · rename_i c' d' cd' sl' ho
      cases hcd
      exact ⟨_, _, _, ho⟩
    · cases hcd
  obtain ⟨c', d', sl', ho⟩ := obj
  refine ⟨fun _ _ _ I => I.type, fun _ _ inK _ A' Q' E' s' k q => ?_, fun h tp dd its n sl inK htp => Bool.eq_false_iff.mpr fun q => ?_, fun inK I k => vs_class T inK I k⟩
  · unfold isType loadHead
    exact wpAny_bind (wpAny_loadPart (k _ _ (inK _ _ ho)) (wpAny_pure q))
  · have e : C = tp := Value.ref.inj (beq_iff_eq.mp q)
    subst e
    have z := (inK _ _ ho).symm.trans htp
    cases z
end
end PySem.W

namespace VS
open PySem PySem.Spec PyProof.Rows L2
section
variable {X : Cx} {g : G} {W : WX} {pos px pc p : Pos} {x y u : Str} {k i : Nat}
/-- isinstance(e, C), e the handled exception in slot i; sub c: is the class c one of C's? -/
def dIsE (sub : Nat → Option Bool) (i : Nat) : Den D := fun δ => match δ[i]? with
  | some (.exc c _) => (match sub c with
    | some b => .ok (.bl b) δ
    | none => .stuck)
  | _ => .stuck
/-- a class by its name -/
def ClsAt (X : Cx) (y : Str) (v : V) (cv : Value) : Prop := (∀ (pos : Pos), PE X (.Name y pos) (tC v)) ∧ ∀ u, RelV v u → u = cv
theorem clsAt_own {C : Addr} (hg : Gl X y) (hm : X.mg y = some (.ref C)) (hd : (y == ("__debug__" : Str)) = false := by decide) : ClsAt X y (.ref C) (.ref C) := ⟨fun pos => pe_glob hg hm rfl hd, fun u h => h⟩
theorem clsAt_ty {n : String} (hg : Gl X y) (hm : X.mg y = none) (hv : bootBuiltins y = some (.type n)) (hn : y ≠ "__name__" := by decide) (hd : (y == ("__debug__" : Str)) = false := by decide) : ClsAt X y (.ty n) (.type n) := ⟨fun pos => pe_bltn hg hm hv rfl hn hd, fun u h => h⟩
theorem o_isE (C : CtxOk k g W X) {sub : Nat → Option Bool} (i : Nat) {v : V} {cv : Value} (hsub : ∀ c b, sub c = some b → ExcC X.K (g.cA c) ∧ PySem.W.kitOne X.K (.ref (g.cA c)) cv = some b) (hc : ClsAt X y v cv) (hgI : Gl X u) (hmI : X.mg u = none) (hvI : bootBuiltins u = some (.builtin "isinstance"))
    (hN : X.N[i]? = some x := by rfl) (hv : Vis X.env.scope x := by first | exact Or.inl rfl | exact Or.inr (Or.inl rfl) | exact Or.inr (Or.inr rfl)) (hd : (x == ("__debug__" : Str)) = false := by decide) (hcd : (x == ("__classdict__" : Str)) = false := by decide)
    (hnI : u ≠ "__name__" := by decide) (hdI : (u == ("__debug__" : Str)) = false := by decide)
    (hs1 : starEach [.Name x px, .Name y pc] X.env = (false, eval (.Name x px) X.env) :: starEach [.Name y pc] X.env := by rfl) (hs2 : starEach [Expr.Name y pc] X.env = (false, eval (.Name y pc) X.env) :: starEach [] X.env := by rfl)
    (hpl : (backTo pos (starEach [Expr.Name y pc] X.env)).any (·.1) = false := by rfl) : OE X g W (.Call (.Name u p) [.Name x px, .Name y pc] [] pos) (dIsE sub i) := by
  refine pe_imp (t := fun σ H Q => ∃ B δ c fs, EnvOk X.K g B H σ δ ∧ δ[i]? = some (.exc c fs) ∧ ∃ b, sub c = some b ∧ Q (.bl b) H) ⟨fun pins s σ H Q I h => ?_⟩ fun σ H Q ⟨B, δ, E, p⟩ => ?_
  · obtain ⟨B, δ, c, fs, E, hδ, b, hb, q⟩ := h
    obtain ⟨z, vs, ez, es, ec, ed, _⟩ := E.at_ i _ hδ
    have es' := Option.join_eq_some_iff.mp es
    obtain ⟨hot, hp, hzc⟩ := C.hot z ez
    obtain ⟨_, vf, hvf, _⟩ := hot
    obtain ⟨T, hk⟩ := hsub c b hb
    have args : PA X [.Name x px, .Name y pc] (tCons (tVar i) (tCons (tC v) tNil)) := pa_cons (pe_var hN hv hd hcd) (pa_cons (hc.1 pc) pa_nil hs2) hs1
    refine wpAny_Call_Name_kw (ld_blt I hgI hmI hvI ?_ hnI hdI)
    refine PyProof.Rows.callWith_builtin1 (thn (args.run pos pins s σ H (fun ws H1 => ws = [.ref z.p.1, v] ∧ H1 = H) I ⟨_, es', rfl, rfl⟩) fun us s1 hh => ?_) hs1 hpl
    obtain ⟨ws, H1, I1, rv, ew, eH⟩ := hh
    subst ew eH
    obtain ⟨u1, u2, rfl, r1, r2⟩ := vals2 rv
    cases (show u1 = Value.ref z.p.1 from r1)
    cases hc.2 u2 r2
    obtain ⟨hget, _⟩ := I1.pin z.p (List.mem_append_left _ hp)
    obtain ⟨mA, hns, _⟩ : ∃ mA, s1.heap.Ns1 z.d mA ∧ ∀ f, RelO (vs.lookup f) (mA f) := I1.hok z.d _ (E.le _ _ ed)
    obtain ⟨od, ho, _⟩ := lookIn_ns hns
    have J : PySem.W.InstAt s1.heap z.p.1 z.p.2 z.C (some od) := ⟨hget, hzc.1, by unfold PySem.W.notCls; rw [hvf] <;> rfl, by rw [hzc.2]; exact ho⟩
    rw [ec] at T hk
    exact PySem.W.kia_one (PySem.W.vs_kit T) I1.kIn J hk (fun q => nomatch q) fun tk => ⟨.bl b, H1, I1.kept (t' := tk) fun _ _ q => q, rfl, q⟩
  · unfold dIsE at p
    split at p
    · rename_i c fs hδ
      split at p
      · rename_i b hb
        exact ⟨B, δ, c, fs, E, hδ, b, hb, p B H E .refl _ rfl⟩
      · exact False.elim p
    · exact False.elim p
/-- e.f -/
def dFld (knows : Nat → Bool) (i : Nat) (f : Str) : Den D := fun δ => match δ[i]? with
  | some (.exc c fs) => (match knows c with
    | true => .lift (fs.lookup f) δ
    | false => .stuck)
  | _ => .stuck
theorem o_fld (C : CtxOk k g W X) {knows : Nat → Bool} (i : Nat) {f : Str} (hkn : ∀ c, knows c = true → XfC X.K (g.cA c) ∧ PySem.W.findIn X.K (.ref (g.cA c)) f = some none)
    (hN : X.N[i]? = some x := by rfl) (hv : Vis X.env.scope x := by first | exact Or.inl rfl | exact Or.inr (Or.inl rfl) | exact Or.inr (Or.inr rfl)) (hd : (x == ("__debug__" : Str)) = false := by decide) (hcd : (x == ("__classdict__" : Str)) = false := by decide)
    (hb : attributeBase (.Name x px) f X.env (eval (.Name x px) X.env) = eval (.Name x px) X.env := by rfl) : OE X g W (.Attribute (.Name x px) f pos) (dFld knows i f) := by
  refine pe_imp (t := fun σ H Q => ∃ B δ c fs d, EnvOk X.K g B H σ δ ∧ δ[i]? = some (.exc c fs) ∧ knows c = true ∧ fs.lookup f = some d ∧ ∀ v, Rep X.K B d v → Q v H) ⟨fun pins s σ H Q I h => ?_⟩ fun σ H Q ⟨B, δ, E, p⟩ => ?_
  · obtain ⟨B, δ, c, fs, d, E, hδ, hk, hl, q⟩ := h
    obtain ⟨z, vs, ez, es, ec, ed, rf⟩ := E.at_ i _ hδ
    have es' := Option.join_eq_some_iff.mp es
    obtain ⟨hot, hp, hzc⟩ := C.hot z ez
    obtain ⟨_, vf, hvf, _⟩ := hot
    obtain ⟨T, hno⟩ := hkn c hk
    obtain ⟨v, lv, rv⟩ := rf.look hl
    refine attr_of hb (thn ((pe_var hN hv hd hcd).run pins s σ H (fun w H1 => w = .ref z.p.1 ∧ H1 = H) I ⟨_, es', rfl, rfl⟩) fun u s1 hh => ?_)
    obtain ⟨w, H1, I1, rw', ew, eH⟩ := hh
    subst ew eH
    cases (show u = Value.ref z.p.1 from rw')
    obtain ⟨hget, _⟩ := I1.pin z.p (List.mem_append_left _ hp)
    obtain ⟨mA, hns, hr⟩ : ∃ mA, s1.heap.Ns1 z.d mA ∧ ∀ f, RelO (vs.lookup f) (mA f) := I1.hok z.d _ (E.le _ _ ed)
    obtain ⟨od, ho, hlk⟩ := lookIn_ns hns
    obtain ⟨u, hu, ru⟩ := RelO.some_of (v := v) (o := mA f) (by rw [← lv]; exact hr f)
    have J : PySem.W.InstAt s1.heap z.p.1 z.p.2 z.C (some od) := ⟨hget, hzc.1, by unfold PySem.W.notCls; rw [hvf] <;> rfl, by rw [hzc.2]; exact ho⟩
    rw [ec] at T hno
    exact HandSPX.exc_get I1.kIn J T.ga T.gg T.exC (PySem.W.findObj_own T.hdC hno rfl (by rw [hlk, hu])) (handed_of ru) ⟨v, H1, I1.tok _, ru, q v rv⟩
  · unfold dFld at p
    split at p
    · rename_i c fs hδ
      split at p
      · rename_i hk
        obtain ⟨d, hd, q⟩ := p.lift
        exact ⟨B, δ, c, fs, d, E, hδ, hk, hd, fun v rv => q B H E .refl v rv⟩
      · exact False.elim p
    · exact False.elim p
end
end VS
end

section
set_option Elab.async false
set_option linter.all false
set_option maxRecDepth 100000
/-! VS, part 12: list comprehensions. -/
namespace VS
open PySem PySem.Spec PyProof.Rows L2

def Res.noexc {α : Type} (r : Res α) : Res α := match r with
  | .exc _ _ _ => .stuck
  | r => r
theorem Res.noexc_ok {α : Type} {r : Res α} {a : α} {δ : List Sl} (h : r.noexc = .ok a δ) : r = .ok a δ := by
  cases r with
  | ok b δ' => exact h
  | exc c fs δ' => cases h
  | stuck => cases h
theorem Res.bind_ok {α β : Type} {r : Res α} {k : α → List Sl → Res β} {b : β} {δ : List Sl} (h : r.bind k = .ok b δ) : ∃ a δ', r = .ok a δ' ∧ k a δ' = .ok b δ := by
  cases r with
  | ok a δ' => exact ⟨a, δ', rfl, h⟩
  | exc c fs δ' => cases h
  | stuck => cases h
/-- the comprehension's own slots forgotten -/
def wipeC : List Nat → List Sl → Option (List Sl)
  | [], δ => some δ
  | v :: vs, δ => (wipeC vs δ).bind fun δ' => setSl v .un δ'
/-- they are as they were, behind it -/
def restore (δ1 : List Sl) : List Nat → List Sl → List Sl
  | [], δ => δ
  | v :: vs, δ => match δ1[v]? with
    | some s => (restore δ1 vs δ).set v s
    | none => restore δ1 vs δ
def noOwn (δ : List Sl) (vs : List Nat) : Bool := vs.all fun v => match δ[v]? with
  | some (.own _ _) => false
  | some (.exc _ _) => false
  | _ => true
/-- the turns -/
def lcL (vs : List Nat) (s : Tgt) (t : Den Bool) (f : Den D) : List D → List Sl → Res (List D)
  | [], δ => .ok [] δ
  | d :: ds, δ => match s d δ with
    | none => .stuck
    | some δ1 => (t δ1).noexc.bind fun b δ2 => match b with
      | true => (f δ2).noexc.bind fun y δ3 => (match wipeC vs δ3 with
        | some δ4 => (lcL vs s t f ds δ4).bind fun ys δ5 => .ok (y :: ys) δ5
        | none => .stuck)
      | false => (match wipeC vs δ2 with
        | some δ4 => lcL vs s t f ds δ4
        | none => .stuck)
def dLc (fi : Den (List D)) (vs : List Nat) (s : Tgt) (t : Den Bool) (f : Den D) : Den O := fun δ => (fi δ).bind fun ds δ1 => match noOwn δ1 vs with
  | true => (match wipeC vs δ1 with
    | some δw => (lcL vs s t f ds δw).bind fun ys δ2 => (match lim ys with
      | true => .ok (.lst ys) (restore δ1 vs δ2)
      | false => .stuck)
    | none => .stuck)
  | false => .stuck

theorem dLc_lst {fi : Den (List D)} {vs : List Nat} {s : Tgt} {t : Den Bool} {f : Den D} {δ δ' : List Sl} {o : O} (h : dLc fi vs s t f δ = .ok o δ') : ∃ xs, o = .lst xs := by
  obtain ⟨ds, δ1, _, h1⟩ := Res.bind_ok h
  split at h1
  · split at h1
    · obtain ⟨ys, δ2, _, h2⟩ := Res.bind_ok h1
      split at h2
      · cases h2
        exact ⟨_, rfl⟩
      · cases h2
    · cases h1
  · cases h1
theorem Res.noexc_ne {α : Type} {r : Res α} {c : Nat} {fs : List (Str × D)} {δ : List Sl} : r.noexc ≠ .exc c fs δ := by
  cases r <;> intro h <;> cases h
theorem Res.bind_ne {α β : Type} {r : Res α} {k : α → List Sl → Res β} {c : Nat} {fs : List (Str × D)} {δ : List Sl} (h1 : ∀ c fs δ, r ≠ .exc c fs δ) (h2 : ∀ a δ', k a δ' ≠ .exc c fs δ) : r.bind k ≠ .exc c fs δ := by
  cases r with
  | ok a δ' => exact h2 a δ'
  | stuck => exact fun h => by cases h
  | exc c' fs' δ' => exact absurd rfl (h1 c' fs' δ')
theorem lcL_ne {vs : List Nat} {s : Tgt} {t : Den Bool} {f : Den D} : ∀ (ds : List D) (δ : List Sl) {c : Nat} {fs : List (Str × D)} {δ' : List Sl}, lcL vs s t f ds δ ≠ .exc c fs δ'
  | [], δ, c, fs, δ' => fun h => by cases h
  | d :: ds, δ, c, fs, δ' => by
    unfold lcL
    split
    · exact fun h => by cases h
    · refine Res.bind_ne (fun _ _ _ => Res.noexc_ne) fun b δ2 => ?_
      cases b with
      | false =>
        dsimp only
        split
        · exact lcL_ne ds _
        · exact fun h => by cases h
      | true =>
        dsimp only
        refine Res.bind_ne (fun _ _ _ => Res.noexc_ne) fun y δ3 => ?_
        split
        · exact Res.bind_ne (fun _ _ _ => lcL_ne ds _) fun ys δ5 h => by cases h
        · exact fun h => by cases h
section
variable {K : PySem.W.Frag} {g : G} {B H B1 H1 : Hp} {σ : St} {δ δ1 δ2 : List Sl}
theorem wipe_get : ∀ {vs : List Nat} {σ : St} (i : Nat), (i ∈ vs ∧ i < σ.length ∧ (wipe σ vs)[i]? = some none) ∨ ((i ∉ vs ∨ σ.length ≤ i) ∧ (wipe σ vs)[i]? = σ[i]?)
  | [], σ, i => .inr ⟨.inl (by simp), rfl⟩
  | v :: vs, σ, i => by
    have ew : wipe σ (v :: vs) = (wipe σ vs).set v none := rfl
    rw [ew]
    by_cases e : v = i
    · subst e
      by_cases hl : v < σ.length
      · exact .inl ⟨List.mem_cons_self, hl, List.getElem?_set_self (by rw [wipe_length]; exact hl)⟩
      · refine .inr ⟨.inr (by omega), ?_⟩
        rw [List.getElem?_eq_none (by rw [List.length_set, wipe_length]; omega), List.getElem?_eq_none (by omega)]
    · rw [List.getElem?_set_ne e]
      rcases wipe_get (vs := vs) (σ := σ) i with ⟨h1, h2, h3⟩ | ⟨h1, h2⟩
      · exact .inl ⟨List.mem_cons_of_mem _ h1, h2, h3⟩
      · refine .inr ⟨?_, h2⟩
        rcases h1 with h1 | h1
        · exact .inl fun z => by
            rcases List.mem_cons.mp z with z | z
            · exact e z.symm
            · exact h1 z
        · exact .inr h1
theorem wipe_agree {ts vs : List Nat} {σ σ' : St} (a : Agree ts σ σ') (h : ∀ i ∈ ts, i ∈ vs) : wipe σ' vs = wipe σ vs := by
  refine List.ext_getElem? fun i => ?_
  rcases wipe_get (vs := vs) (σ := σ) i with ⟨h1, h2, h3⟩ | ⟨h1, h2⟩
  · rcases wipe_get (vs := vs) (σ := σ') i with ⟨k1, k2, k3⟩ | ⟨k1, k2⟩
    · rw [h3, k3]
    · rcases k1 with k1 | k1
      · exact absurd h1 k1
      · rw [a.1] at k1
        omega
  · rcases wipe_get (vs := vs) (σ := σ') i with ⟨k1, k2, k3⟩ | ⟨k1, k2⟩
    · rcases h1 with h1 | h1
      · exact absurd k1 h1
      · rw [a.1] at k2
        omega
    · rw [h2, k2]
      rcases h1 with h1 | h1
      · exact a.2 i fun z => h1 (h i z)
      · rw [List.getElem?_eq_none h1, List.getElem?_eq_none (by rw [a.1]; exact h1)]
theorem wipe_wipe {vs : List Nat} {σ : St} : wipe (wipe σ vs) vs = wipe σ vs :=
  wipe_agree (ts := vs) ⟨wipe_length σ vs, fun i n => (by
    rcases wipe_get (vs := vs) (σ := σ) i with ⟨h1, _, _⟩ | ⟨_, h2⟩
    · exact absurd h1 n
    · exact h2)⟩ fun i h => h
theorem EnvOk.wipe : ∀ {vs : List Nat} {δ' : List Sl}, EnvOk K g B H σ δ → wipeC vs δ = some δ' → EnvOk K g B H (L2.wipe σ vs) δ' ∧ Stp B H σ δ B H (L2.wipe σ vs) δ'
  | [], δ', E, h => by
    cases h
    exact ⟨E, .refl⟩
  | v :: vs, δ', E, h => by
    obtain ⟨δ3, h1, h2⟩ := Option.bind_eq_some_iff.mp h
    obtain ⟨E3, S3⟩ := EnvOk.wipe E h1
    obtain ⟨rfl, nb, _⟩ := setSl_some h2
    exact ⟨E3.setD un_own True.intro, S3.trans (Stp.setD un_own nb)⟩
theorem wipeC_get : ∀ {vs : List Nat} {δ δ' : List Sl}, wipeC vs δ = some δ' → δ'.length = δ.length ∧ ∀ i : Nat, (i ∈ vs → ∀ s, δ'[i]? = some s → s = .un) ∧ (i ∉ vs → δ'[i]? = δ[i]?)
  | [], δ, δ', h => by
    cases h
    exact ⟨rfl, fun i => ⟨fun z => absurd z (by simp), fun _ => rfl⟩⟩
  | v :: vs, δ, δ', h => by
    obtain ⟨δ3, h1, h2⟩ := Option.bind_eq_some_iff.mp h
    obtain ⟨l3, q3⟩ := wipeC_get h1
    obtain ⟨rfl, nb, _⟩ := setSl_some h2
    refine ⟨by rw [List.length_set]; exact l3, fun i => ⟨fun z s hs => ?_, fun z => ?_⟩⟩
    · rcases set_get hs with ⟨_, e⟩ | ⟨e, hs⟩
      · exact e
      · rcases List.mem_cons.mp z with z | z
        · exact absurd z.symm e
        · exact (q3 i).1 z s hs
    · have e : v ≠ i := fun e => z (by rw [e]; exact List.mem_cons_self)
      rw [List.getElem?_set_ne e]
      exact (q3 i).2 fun y => z (List.mem_cons_of_mem _ y)
theorem restore_get : ∀ {vs : List Nat} {δ2 : List Sl}, δ2.length = δ1.length → (restore δ1 vs δ2).length = δ2.length ∧ ∀ i : Nat, (i ∈ vs → (restore δ1 vs δ2)[i]? = δ1[i]?) ∧ (i ∉ vs → (restore δ1 vs δ2)[i]? = δ2[i]?)
  | [], δ2, hl => ⟨rfl, fun i => ⟨fun z => absurd z (by simp), fun _ => rfl⟩⟩
  | v :: vs, δ2, hl => by
    obtain ⟨l, q⟩ := restore_get (vs := vs) (δ2 := δ2) hl
    unfold restore
    cases e : δ1[v]? with
    | none =>
      refine ⟨l, fun i => ⟨fun z => ?_, fun z => (q i).2 fun y => z (List.mem_cons_of_mem _ y)⟩⟩
      rcases List.mem_cons.mp z with z | z
      · subst z
        rw [e, List.getElem?_eq_none]
        rw [l, hl]
        exact List.getElem?_eq_none_iff.mp e
      · exact (q i).1 z
    | some s =>
      refine ⟨by rw [List.length_set]; exact l, fun i => ⟨fun z => ?_, fun z => ?_⟩⟩
      · by_cases h : v = i
        · subst h
          rw [List.getElem?_set_self (by rw [l, hl]; exact (List.getElem?_eq_some_iff.mp e).1), e]
        · rw [List.getElem?_set_ne h]
          rcases List.mem_cons.mp z with z | z
          · exact absurd z.symm h
          · exact (q i).1 z
      · have h : v ≠ i := fun e => z (by rw [e]; exact List.mem_cons_self)
        rw [List.getElem?_set_ne h]
        exact (q i).2 fun y => z (List.mem_cons_of_mem _ y)
theorem noOwn_get {vs : List Nat} (h : noOwn δ vs = true) {i : Nat} (hi : i ∈ vs) {s : Sl} (hs : δ[i]? = some s) : (∀ b o, s ≠ .own b o) ∧ ∀ c fs, s ≠ .exc c fs := by
  have q := List.all_eq_true.mp h i hi
  rw [hs] at q
  cases s with
  | own b o => cases q
  | exc c fs => cases q
  | un => exact ⟨fun b o z => (by cases z), fun c fs z => (by cases z)⟩
  | dat d => exact ⟨fun b o z => (by cases z), fun c fs z => (by cases z)⟩
/-- behind the comprehension -/
theorem EnvOk.restore {vs : List Nat} {δw : List Sl} (E1 : EnvOk K g B H σ δ1) (no : noOwn δ1 vs = true) (hw : wipeC vs δ1 = some δw) (E2 : EnvOk K g B1 H1 (L2.wipe σ vs) δ2) (S : Stp B H (L2.wipe σ vs) δw B1 H1 (L2.wipe σ vs) δ2) :
    EnvOk K g B1 H1 σ (VS.restore δ1 vs δ2) ∧ Stp B H σ δ1 B1 H1 σ (VS.restore δ1 vs δ2) := by
  have l2 : δ2.length = δ1.length := by rw [E2.len, wipe_length, E1.len]
  obtain ⟨lr, qr⟩ := restore_get (vs := vs) l2
  obtain ⟨lw, qw⟩ := wipeC_get hw
  have out : ∀ {i : Nat}, i ∉ vs → (L2.wipe σ vs)[i]? = σ[i]? := fun {i} n => by
    rcases wipe_get (vs := vs) (σ := σ) i with ⟨h1, _, _⟩ | ⟨_, h2⟩
    · exact absurd h1 n
    · exact h2
  have own : ∀ {i : Nat} {b : Bool} {o : O}, (VS.restore δ1 vs δ2)[i]? = some (.own b o) → i ∉ vs ∧ δ2[i]? = some (.own b o) := fun {i b o} h => by
    by_cases z : i ∈ vs
    · rw [(qr i).1 z] at h
      exact absurd rfl ((noOwn_get no z h).1 b o)
    · exact ⟨z, by rw [← (qr i).2 z]; exact h⟩
  have oww : ∀ {a}, Ow (L2.wipe σ vs) δw a ↔ Ow σ δ1 a := fun {a} => by
    constructor
    · rintro ⟨i, b, o, h1, h2⟩
      by_cases z : i ∈ vs
      · have := (qw i).1 z _ h1
        cases this
      · exact ⟨i, b, o, by rw [← (qw i).2 z]; exact h1, by rw [← out z]; exact h2⟩
    · rintro ⟨i, b, o, h1, h2⟩
      by_cases z : i ∈ vs
      · exact absurd rfl ((noOwn_get no z h1).1 b o)
      · exact ⟨i, b, o, by rw [(qw i).2 z]; exact h1, by rw [out z]; exact h2⟩
  refine ⟨⟨E2.le, by rw [lr, l2]; exact E1.len, fun i s hs => ?_, fun i j b o b' o' a h1 h2 h3 h4 => ?_⟩, ⟨S.b, fun a u h n => (S.nb a u h n).imp id oww.mp, fun a u h n => S.fr a u h fun w => n (oww.mp w), fun a h => ?_, fun i o h => ?_⟩⟩
  · by_cases z : i ∈ vs
    · rw [(qr i).1 z] at hs
      have q := (E1.at_ i s hs).more (B' := B1) S.b fun b o a es _ => absurd es ((noOwn_get no z hs).1 b o)
      cases s with
      | own b o => exact absurd rfl ((noOwn_get no z hs).1 b o)
      | un => exact q
      | dat d => exact q
      | exc c fs => exact q
    · rw [(qr i).2 z] at hs
      rw [← out z]
      exact E2.at_ i s hs
  · obtain ⟨z1, q1⟩ := own h1
    obtain ⟨z2, q2⟩ := own h2
    exact E2.inj i j _ _ _ _ a q1 q2 (by rw [out z1]; exact h3) (by rw [out z2]; exact h4)
  · obtain ⟨i, b, o, h1, h2⟩ := h
    obtain ⟨z1, q1⟩ := own h1
    exact (S.ow a ⟨i, b, o, q1, by rw [out z1]; exact h2⟩).imp oww.mp id
  · by_cases z : i ∈ vs
    · exact absurd rfl ((noOwn_get no z h).1 true o)
    · obtain ⟨o', h1, h2⟩ := S.br i o (by rw [(qw i).2 z]; exact h)
      exact ⟨o', by rw [(qr i).2 z]; exact h1, rfl⟩
/-- what nobody owns and B does not know may change -/
theorem EnvOk.touch (E : EnvOk K g B H σ δ) {a : Addr} (u : HO) (n : B a = none) (nw : ¬ Ow σ δ a) : EnvOk K g B (upd H a u) σ δ := by
  refine ⟨fun c w q => ?_, E.len, fun i s hs => ?_, E.inj⟩
  · rw [upd_ne (fun z => by rw [z, n] at q; cases q)]
    exact E.le c w q
  · have q := E.at_ i s hs
    cases s with
    | un => exact q
    | dat d => exact q
    | exc c fs => exact q
    | own b o =>
      obtain ⟨c, e, n2, r⟩ := q
      exact ⟨c, e, n2, r.mono (Le.refl B) (upd_ne fun z => nw ⟨i, b, o, hs, by rw [Option.join_eq_some_iff.mp e, z]⟩)⟩
theorem Stp.touch {σ' : St} {δ' : List Sl} (S : Stp B H σ δ B1 H1 σ' δ') {a : Addr} (u : HO) (n : H a = none) : Stp B H σ δ B1 (upd H1 a u) σ' δ' :=
  ⟨S.b, S.nb, fun c w q m => (by rw [upd_ne (ne_of_none q n)]; exact S.fr c w q m), S.ow, S.br⟩
end

/-- the new list, held by nobody -/
def Loose (B H : Hp) (σ : St) (δ : List Sl) (a : Addr) (xs : List V) : Prop := H a = some (.lst xs) ∧ B a = none ∧ ¬ Ow σ δ a
theorem Loose.on {B H B' H' : Hp} {σ σ' : St} {δ δ' : List Sl} {a : Addr} {xs : List V} (l : Loose B H σ δ a xs) (S : Stp B H σ δ B' H' σ' δ') : Loose B' H' σ' δ' a xs := by
  obtain ⟨h1, h2, h3⟩ := l
  refine ⟨S.fr a _ h1 h3, ?_, fun w => ?_⟩
  · cases q : B' a with
    | none => rfl
    | some u =>
      rcases S.nb a u q h2 with z | z
      · rw [h1] at z
        cases z
      · exact absurd z h3
  · rcases S.ow a w with z | z
    · exact h3 z
    · rw [h1] at z
      cases z
abbrev WF : WX := fun _ _ _ _ => False
section
variable {X : Cx} {g : G} {W : WX} {fi : Den (List D)} {s : Tgt} {t : Den Bool} {f : Den D} {vs ts : List Nat}
theorem lc_of (hts : ∀ i ∈ ts, i ∈ vs) (σ : St) (H : Hp) (Q : VK) (h : tX X.K g W (RlN X.K) (dLc fi vs s t f) σ H Q) : tLc (tI X.K g W fi) (tG X.K g ts s) (tX X.K g WF RlB t) (tX X.K g WF (RlD X.K) f) vs σ H Q := by
  obtain ⟨B, δ, E, p⟩ := h
  refine ⟨B, δ, E, ?_⟩
  unfold dLc at p
  revert p
  cases fi δ with
  | stuck => exact id
  | exc c fs δ1 => exact id
  | ok ds δ1 =>
    intro p B1 H1 E1 S1 J hJ L nL
    have p : Post X.K g W B H σ δ (match noOwn δ1 vs with
      | true => (match wipeC vs δ1 with
        | some δw => (lcL vs s t f ds δw).bind fun ys δ2 => (match lim ys with
          | true => Res.ok (O.lst ys) (VS.restore δ1 vs δ2)
          | false => Res.stuck)
        | none => Res.stuck)
      | false => Res.stuck) _ := p
    cases no : noOwn δ1 vs with
    | false =>
      rw [no] at p
      exact False.elim p
    | true =>
    simp only [no] at p
    cases hw : wipeC vs δ1 with
    | none =>
      rw [hw] at p
      exact False.elim p
    | some δw =>
    simp only [hw] at p
    cases run : lcL vs s t f ds δw with
    | stuck =>
      rw [run] at p
      exact False.elim p
    | exc c fs δ2 =>
      exact absurd run (lcL_ne ds δw)
    | ok ys δ2 =>
    rw [run] at p
    have p : Post X.K g W B H σ δ (match lim ys with
          | true => Res.ok (O.lst ys) (VS.restore δ1 vs δ2)
          | false => Res.stuck) _ := p
    cases hlim : lim ys with
    | false =>
      rw [hlim] at p
      exact False.elim p
    | true =>
    simp only [hlim] at p
    have hlen : ys.length ≤ 100000 := of_decide_eq_true hlim
    obtain ⟨Ew, Sw⟩ := E1.wipe hw
    refine ⟨fun i m H' => m + i = ds.length ∧ ∃ B' δ' acc done rest, ys = done ++ rest ∧ lcL vs s t f (ds.drop i) δ' = .ok rest δ2 ∧ EnvOk X.K g B' H' (wipe σ vs) δ' ∧ Stp B1 H1 (wipe σ vs) δw B' H' (wipe σ vs) δ' ∧ Loose B' H' (wipe σ vs) δ' L acc ∧ RepL X.K B' done acc,
      ⟨ds.length, by simp, B1, δw, [], [], ys, rfl, by rw [List.drop_zero]; exact run, Ew.allocN _ nL, Stp.allocN nL, ⟨upd_same, le_none E1.le nL, Ew.notOw nL⟩, rfl⟩, ?_⟩
    rintro i m H2 ⟨hm, B2, δa, acc, done, rest, ey, er, E2, S2, lo, ra⟩
    obtain ⟨hgo, hst⟩ := hJ B2 H2 _ δa E2 S2.b
    cases m with
    | zero =>
      have e : i = ds.length := by omega
      subst e
      rw [List.drop_length] at er
      unfold lcL at er
      cases er
      rw [List.append_nil] at ey
      subst ey
      refine .inl ⟨hst, ?_⟩
      have back := E1.restore no hw E2 S2
      refine p B2 H2 back.1 (S1.trans back.2) (.ref L) ⟨L, rfl, lo.2.1, ⟨acc, lo.1, ra⟩, fun w => ?_, S1.free nL⟩
      rcases back.2.ow L w with z | z
      · obtain ⟨_, u, hu⟩ := E1.ow z
        rw [nL] at hu
        cases hu
      · exact lo.2.2 (by
          obtain ⟨j, b, o, q1, q2⟩ := w
          have l2 : δ2.length = δ1.length := by rw [E2.len, wipe_length, E1.len]
          obtain ⟨_, qr⟩ := restore_get (δ1 := δ1) (vs := vs) (δ2 := δ2) l2
          by_cases zj : j ∈ vs
          · rw [(qr j).1 zj] at q1
            exact absurd rfl ((noOwn_get no zj q1).1 b o)
          · refine ⟨j, b, o, by rw [← (qr j).2 zj]; exact q1, ?_⟩
            rcases wipe_get (vs := vs) (σ := σ) j with ⟨k1, _, _⟩ | ⟨_, k2⟩
            · exact absurd k1 zj
            · rw [k2]
              exact q2)
    | succ m =>
      have hi : i < ds.length := by omega
      obtain ⟨go, yl⟩ := hgo i ds[i] (List.getElem?_eq_getElem hi)
      rw [List.drop_eq_getElem_cons hi] at er
      refine .inr ⟨go, fun H' => m + (i + 1) = ds.length ∧ ∃ B' δ' acc done rest, ys = done ++ rest ∧ lcL vs s t f (ds.drop (i + 1)) δ' = .ok rest δ2 ∧ EnvOk X.K g B' H' (wipe σ vs) δ' ∧ Stp B1 H1 (wipe σ vs) δw B' H' (wipe σ vs) δ' ∧ Loose B' H' (wipe σ vs) δ' L acc ∧ RepL X.K B' done acc, fun H' q => ⟨m, Nat.lt_succ_self m, q⟩, fun x H3 y3 => ?_⟩
      obtain ⟨B3, E3, S3, r3⟩ := yl x H3 y3
      unfold lcL at er
      cases es : s ds[i] δa with
      | none =>
        rw [es] at er
        cases er
      | some δ4 =>
      rw [es] at er
      obtain ⟨b, δ5, et, er⟩ := Res.bind_ok er
      have et := Res.noexc_ok et
      refine ⟨B3, δa, ds[i], δ4, E3, r3, es, fun σ4 E4 S4 A4 => ?_⟩
      have ew : wipe σ4 vs = wipe σ vs := (wipe_agree A4 hts).trans wipe_wipe
      refine ⟨ew, B3, δ4, E4, ?_⟩
      rw [et]
      intro B5 H5 E5 S5 b' eb
      subst eb
      have SS5 : Stp B2 H2 (wipe σ vs) δa B5 H5 σ4 δ5 := (S3.trans S4).trans S5
      cases b' with
      | false =>
        rw [if_neg Bool.false_ne_true]
        have er : (match wipeC vs δ5 with | some δ6 => lcL vs s t f (ds.drop (i + 1)) δ6 | none => .stuck) = Res.ok rest δ2 := er
        cases ewc : wipeC vs δ5 with
        | none =>
          rw [ewc] at er
          cases er
        | some δ6 =>
          rw [ewc] at er
          obtain ⟨E6, S6⟩ := E5.wipe ewc
          rw [ew] at E6 S6
          exact ⟨by omega, B5, δ6, acc, done, rest, ey, er, E6, (S2.trans SS5).trans S6, lo.on (SS5.trans S6), ra.mono (SS5.trans S6).b⟩
      | true =>
        rw [if_pos rfl]
        have er : ((f δ5).noexc.bind fun y δ3 => (match wipeC vs δ3 with
          | some δ4 => (lcL vs s t f (ds.drop (i + 1)) δ4).bind fun ys δ5 => .ok (y :: ys) δ5
          | none => .stuck)) = Res.ok rest δ2 := er
        obtain ⟨y, δ6, ef, er⟩ := Res.bind_ok er
        have ef := Res.noexc_ok ef
        refine ⟨B5, δ5, E5, ?_⟩
        rw [ef]
        intro B6 H6 E6 S6 v rv
        have SS6 := SS5.trans S6
        have lo6 := lo.on SS6
        cases ewc : wipeC vs δ6 with
        | none =>
          rw [ewc] at er
          cases er
        | some δ7 =>
          rw [ewc] at er
          obtain ⟨zs, δ8, e8, er⟩ := Res.bind_ok er
          cases er
          have la : acc.length < sizeLine := by
            rw [ra.length]
            have : ys.length = done.length + (zs.length + 1) := by rw [ey, List.length_append, List.length_cons]
            exact Nat.lt_of_lt_of_le (show done.length < 100001 by omega) (by decide)
          refine ⟨acc, lo6.1, la, by omega, B6, δ7, acc ++ [v], done ++ [y], zs, by rw [ey, List.append_assoc]; rfl, e8, ?_⟩
          have E7 := E6.touch (.lst (acc ++ [v])) lo6.2.1 lo6.2.2
          obtain ⟨E8, S8⟩ := E7.wipe ewc
          rw [ew] at E8 S8
          have S7 : Stp B1 H1 (wipe σ vs) δw B6 (upd H6 L (.lst (acc ++ [v]))) σ4 δ6 := (S2.trans SS6).touch _ nL
          exact ⟨E8, S7.trans S8, Loose.on ⟨upd_same, lo6.2.1, lo6.2.2⟩ S8, (ra.mono SS6.b).append (RepL.cons rv RepL.nil)⟩

variable {tg iter elt : Expr} {ifs : List Expr} {scope : Scope} {own : List (Str × Nat)} {pos px spos : Pos} {x : Str}
abbrev OTs (X : Cx) (g : G) (W : WX) (ifs : List Expr) (f : Den Bool) : Prop := PTs X ifs (tX X.K g W RlB f)
def dYes : Den Bool := fun δ => .ok true δ
theorem pts_imp {X : Cx} {e : List Expr} {t t' : TT} (h : PTs X e t) (i : ∀ σ H Q, t' σ H Q → t σ H Q) : PTs X e t' := ⟨fun pins s σ H Q I q => h.run pins s σ H Q I (i σ H Q q)⟩
theorem ots_nil : OTs X g W [] dYes := pts_imp pts_nil fun σ H Q ⟨B, δ, E, p⟩ => p B H E .refl true rfl
theorem ots_one {c : Expr} {t : Den Bool} (h : OT X g W c t) : OTs X g W [c] t := pts_one h
theorem on_lc (hc : X.calm = true) (hN : X.N.Nodup) (hi : OI X g W tg iter fi) (ok : BlkOk X.N X.env.scope scope own) (hts : ∀ i ∈ ts, i ∈ own.map (·.2))
    (hg : ∀ (s0 : Shared) (H : Hp) (C : Addr) (cl : List (Str × Addr)) (fp : List Addr), OG (X.blk s0 H scope (compEnvC scope cl C X.env) fp) g tg ts s) (ht : ∀ (s0 : Shared) (H : Hp) (C : Addr) (cl : List (Str × Addr)) (fp : List Addr), OTs (X.blk s0 H scope (compEnvC scope cl C X.env) fp) g WF ifs t)
    (he : ∀ (s0 : Shared) (H : Hp) (C : Addr) (cl : List (Str × Addr)) (fp : List Addr), OE (X.blk s0 H scope (compEnvC scope cl C X.env) fp) g WF elt f) (hs : ∀ x, foldedSetIterable iter X.env x = pure x := by intro _; rfl) :
    ON X g W (.ListComp elt [⟨tg, iter, ifs, 0⟩] scope pos) (dLc fi (own.map (·.2)) s t f) := pe_imp (pe_lc hc hN hi ok hg ht he hs) fun σ H Q h => lc_of hts σ H Q h
theorem o_lc (hc : X.calm = true) (hN : X.N.Nodup) (hi : OI X g W tg iter fi) (ok : BlkOk X.N X.env.scope scope own) (hts : ∀ i ∈ ts, i ∈ own.map (·.2))
    (hg : ∀ (s0 : Shared) (H : Hp) (C : Addr) (cl : List (Str × Addr)) (fp : List Addr), OG (X.blk s0 H scope (compEnvC scope cl C X.env) fp) g tg ts s) (ht : ∀ (s0 : Shared) (H : Hp) (C : Addr) (cl : List (Str × Addr)) (fp : List Addr), OTs (X.blk s0 H scope (compEnvC scope cl C X.env) fp) g WF ifs t)
    (he : ∀ (s0 : Shared) (H : Hp) (C : Addr) (cl : List (Str × Addr)) (fp : List Addr), OE (X.blk s0 H scope (compEnvC scope cl C X.env) fp) g WF elt f) (hs : ∀ x, foldedSetIterable iter X.env x = pure x := by intro _; rfl) :
    OE X g W (.ListComp elt [⟨tg, iter, ifs, 0⟩] scope pos) (dOfN (dLc fi (own.map (·.2)) s t f)) := o_ofN (on_lc hc hN hi ok hts hg ht he hs)
/-- x = [..] on one row -/
theorem os_setLc (i : Nat) (hc : X.calm = true) (hN : X.N.Nodup) (hi : OI X g W tg iter fi) (ok : BlkOk X.N X.env.scope scope own) (hts : ∀ i ∈ ts, i ∈ own.map (·.2))
    (hg : ∀ (s0 : Shared) (H : Hp) (C : Addr) (cl : List (Str × Addr)) (fp : List Addr), OG (X.blk s0 H scope (compEnvC scope cl C X.env) fp) g tg ts s) (ht : ∀ (s0 : Shared) (H : Hp) (C : Addr) (cl : List (Str × Addr)) (fp : List Addr), OTs (X.blk s0 H scope (compEnvC scope cl C X.env) fp) g WF ifs t)
    (he : ∀ (s0 : Shared) (H : Hp) (C : Addr) (cl : List (Str × Addr)) (fp : List Addr), OE (X.blk s0 H scope (compEnvC scope cl C X.env) fp) g WF elt f) (hy : X.N[i]? = some x := by rfl) (hyl : X.env.scope.names.lookup x = some .local := by rfl)
    (hsw : swapsWith (.ListComp elt [⟨tg, iter, ifs, 0⟩] scope pos) (some (.Name x px)) spos.line X.env = pure true := by exact sw_true rfl rfl rfl (by decide +kernel)) (hs : ∀ x, foldedSetIterable iter X.env x = pure x := by intro _; rfl) :
    OS X g W (.Assign [.Name x px] (.ListComp elt [⟨tg, iter, ifs, 0⟩] scope pos) spos) (dAsg (tName i) (dOfN (dLc fi (own.map (·.2)) s t f))) := by
  refine ps_imp (ps_setLc (wi := tI X.K g W fi) (g := tG X.K g ts s) (tt := tX X.K g WF RlB t) (te := tX X.K g WF (RlD X.K) f) hc hN hy hyl hsw hi ok hg ht he hs) fun D σ H h => ?_
  obtain ⟨B, δ, E, p⟩ := h
  have q : tX X.K g W (RlD X.K) (dOfN (dLc fi (own.map (·.2)) s t f)) σ H (fun v H1 => D.nx (σ.set i (some v)) H1) := by
    refine ⟨B, δ, E, p.bind.mono fun B1 H1 δ1 d E1 S1 p1 v rv => ?_⟩
    cases q : tName i d δ1 with
    | none =>
      rw [q] at p1
      exact False.elim p1
    | some δ2 =>
      rw [q] at p1
      obtain ⟨rfl, nb, _⟩ := setSl_some q
      exact p1 B1 H1 _ (E1.setD dat_own ⟨v, rfl, rv⟩) (Stp.setD dat_own nb)
  exact lc_of hts σ H _ (ofN_ofL (fun _ _ _ => dLc_lst) σ H _ q)
end
end VS
end

section
set_option Elab.async false
set_option linter.all false
set_option maxRecDepth 100000
set_option maxHeartbeats 2000000
/-! VS, part 13: lists walked while an exception is handled; one form of loops and comprehensions for both. -/
namespace VS
open PySem PySem.Spec PyProof.Rows L2 HotX

theorem next_list_end_hot {prog : Program} {w : World} {A : Around} {E : Value → Shared → Prop} {s : Shared} {it l x1 : Addr} {i : Nat} {items : Array Value} {Q : Option Value → Shared → Prop} (hot : HotAt A x1 s.heap)
    (hne : x1 ≠ it) (hit : s.heap.IsListIter it l i) (hl : s.heap.IsList l items) (hx : items[i]? = none)
    (hQ : ∀ h', (∀ b o, b ≠ it → s.heap.get? b = some o → h'.get? b = some o) → Q none { s with heap := h' }) : wpAny (model prog w) A (pyNext (.ref it)) Q E s := by
  obtain ⟨o, ho, hc, hd⟩ := id hit
  obtain ⟨ol, hol, _, nl, hdl⟩ := hl
  obtain ⟨hh, o1, vs1, h1, d1, c1⟩ := hot
  have old : ∀ b ob, b ≠ it → s.heap.get? b = some ob → (s.heap.update it (Obj.mapFields (·.setIfInBounds 0 .none))).get? b = some ob := fun b ob n e => by
    rw [Heap.get?_update_other _ _ (Ne.symm n)]
    exact e
  unfold pyNext
  refine wpAny_bind (wpAny_attempt (wpAny_callSpecial?_slot (name := Str.ofString "__next__") hit.typeIs slot_listiter_next
    (wpAny_call_entry slot_listiter_next hit.typeIs entry_listiter_next ?_ (args_listiter_next _))))
  show wpAny _ _ (field (.ref it) 0 >>= _) _ _ s
  refine wpAny_bind (wpAny_field ho hd (x := .ref l) rfl ?_)
  show wpAny _ _ (if (Value.ref l == Value.none) = true then _ else _) _ _ s
  rw [if_neg (show ¬ ((Value.ref l == Value.none) = true) from Bool.false_ne_true)]
  show wpAny _ _ (field (.ref it) 1 >>= _) _ _ s
  refine wpAny_bind (wpAny_field ho hd (x := .int i 0) rfl ?_)
  show wpAny _ _ (seqItems? (.ref l) >>= _) _ _ s
  refine wpAny_bind (wpAny_seqItems hol hdl ?_)
  simp only [Int.toNat_natCast, hx]
  refine wpAny_bind (wpAny_rule (wpAny_bind (wpAny_setField ho hd (by simp) ?_)))
  show wpAny _ _ (newExc (.type "StopIteration") [] >>= _) _ _ _
  refine wpAny_bind ?_
  simp only [newExc, newTuple]
  refine wpAny_bind (wpAny_newObj_type ?_ (by size_fits))
  refine wpAny_bind (m := firstArgMember _ _) (wpAny_of_eq (a := Value.none) (by first | rfl | (simp only [firstArgMember]; rfl)) ?_)
  refine wpAny_newObj_type ?_ (by size_fits)
  refine raiseNew_hot ⟨hh, o1, vs1, Heap.get?_push_of_some _ (Heap.get?_push_of_some _ (old _ _ hne h1)), d1, c1⟩ (Nat.ne_of_lt (Heap.lt_size (Heap.get?_push_of_some _ (old _ _ hne h1)))) (Heap.get?_push_size _ rfl) rfl
    (by first | (simp; done) | (simp; omega) | (simp only [Array.size_append]; simp; omega)) ?_
  refine wpAny_bind (wpAny_isInstance (T := "StopIteration") (b := true) ⟨_, Heap.get?_update_self _ (Heap.get?_push_size _ rfl) rfl, rfl⟩ isSubtype_stop ?_)
  refine wpAny_pure (hQ _ fun b ob n e => ?_)
  rw [Heap.get?_update_other _ _ (Nat.ne_of_gt (Heap.lt_size (Heap.get?_push_of_some _ (old b ob n e))))]
  exact Heap.get?_push_of_some _ (Heap.get?_push_of_some _ (old b ob n e))

section
variable {X : Cx} {tg : Expr}
theorem turn_listH {P : Program} {w : World} {K : PySem.W.Frag} (a it : Addr) : L2H.TurnH P w K tg (Itl K a) [it] it (fun i h => h.IsListIter it a i) where
  mem := (turn_list (P := P) (w := w) (K := K) (tg := tg) a it).mem
  obj := (turn_list (P := P) (w := w) (K := K) (tg := tg) a it).obj
  keep := (turn_list (P := P) (w := w) (K := K) (tg := tg) a it).keep
  self := (turn_list (P := P) (w := w) (K := K) (tg := tg) a it).self
  item := by
    rintro X rfl rfl rfl hc i pins s σ H E I hf st ⟨xs, x, hq, hx⟩
    obtain ⟨its, rv, p, hz⟩ := I.list hq
    obtain ⟨u, hu, ru⟩ := rv.get hx
    obtain ⟨n0, n1, _, n3, n4, n5⟩ := hf it (List.mem_singleton.mpr rfl)
    refine wpAny_pyNext_list_item st p.isList (x := u) (by simpa using hu) fun h' st' sb => ⟨u, rfl, ?_⟩
    obtain ⟨o, e, c, d⟩ := id st'
    exact go_of (s := { s with heap := h' }) e c d (by decide) ⟨x, H, I.turned (t' := s.toks) (fun b o hb e => (sb.2 b hb).trans e) n0 n1 n3 n4 n5, ru, ⟨rfl, fun ys hy => by rw [I.list_inj hy hq]; exact hx⟩, st', fun b hb => (hf b hb).1⟩
  done := by
    rintro X rfl rfl rfl ⟨q, ⟨hh, vs, dq, cq⟩, hq⟩ i pins s σ H E I hf st ⟨xs, hs, hx⟩
    obtain ⟨its, rv, p, hz⟩ := I.list hs
    obtain ⟨n0, n1, _, n3, n4, n5⟩ := hf it (List.mem_singleton.mpr rfl)
    have hl := rv.length
    exact next_list_end_hot ⟨hh, q.2, vs, (I.pin q (List.mem_append_left _ hq)).1, dq, cq⟩ (n5 q (List.mem_append_left _ hq)) st p.isList (by simp; omega) fun h' k => ⟨rfl, I.turned (t' := s.toks) (fun b o hb e => k b o hb e) n0 n1 n3 n4 n5⟩
theorem pi_listH {l : Expr} {tl : TE} (hl : PE X l tl) : L2H.PIH X tg l (iList X.K tl) := by
  refine ⟨fun pins s σ H R I h => thn (hl.run pins s σ H _ I h) fun v s1 ⟨x, H1, I1, r1, a, e, ⟨xs, hq⟩, q⟩ => ?_⟩
  subst e
  cases r1
  obtain ⟨its, rv, p, hz⟩ := I1.list hq
  refine wpAny_pyIter_list p.isList ?_
  refine ⟨s1.heap.objs.size, [s1.heap.objs.size], _, _, H1, rfl, I1.kept (t' := s1.toks) fun b o e => Heap.get?_push_of_some _ e, turn_listH a _, ⟨_, Heap.get?_push_size _ rfl, rfl, rfl⟩, fun b hb => ?_, q⟩
  cases List.mem_singleton.mp hb
  exact I1.fpOk (Nat.le_refl _) (I1.hok.fresh (Nat.le_refl _))
theorem pi_range2H {a b : Expr} {ta : TA} {p pos : Pos} (hg : Gl X "range") (hm : X.mg "range" = none) (ha : PA X [a, b] ta) (hs : starEach [a, b] X.env = [(false, eval a X.env), (false, eval b X.env)] := by rfl) (hs2 : starEach [b] X.env = [(false, eval b X.env)] := by rfl) :
    L2H.PIH X tg (.Call (.Name "range" p) [a, b] [] pos) (iRng2 ta) := by
  refine ⟨fun pins s σ H R I h => Call_ (ld_blt I hg hm boot_range (PyProof.Rows.callWith_type1 (thn (ha.run pos pins s σ H _ I h) fun us s1 ⟨vs, H1, I1, r1, i, j, e, ⟨q1, q2, q3, q4⟩, q⟩ => ?_) (by rw [hs, hs2]) (by rw [hs2]; rfl)))⟩
  subst e
  cases r1 with
  | cons ra rr =>
  cases rr with
  | cons rb rr =>
  cases rr
  obtain ⟨ka, rfl⟩ := ra
  obtain ⟨kb, rfl⟩ := rb
  exact call_range_2 (L2H.range_itH I1 q1 q2 q3 q4 q)
end

/-- a block's context that bears pins of its own -/
abbrev blkP (X : Cx) (s : Shared) (H : Hp) (scope : Scope) (cenv : Env) (fp : List Addr) (pn : List (Addr × Obj)) : Cx := { X.blk s H scope cenv fp with pn := pn }
section
variable {X : Cx} {pins : List (Addr × Obj)} {σ : St} {H : Hp} {s : Shared} {E : Value → Shared → Prop}
theorem block_startP {scope : Scope} {own : List (Str × Nat)} {fp : List Addr} {z : Addr × Obj} (I : Inv X pins σ H s) (ok : BlkOk X.N X.env.scope scope own) (hN : X.N.Nodup) (hfp : ∀ b ∈ fp, FpOk X pins H b ∧ b < s.heap.objs.size) (hz : z ∈ X.pn) :
    Inv (blkP X s H scope (compEnvC scope (cellsFrom (s.heap.objs.size + 1) scope.names (cloFrom X.env.cells scope.names [])) s.heap.objs.size X.env) fp [z]) [] (wipe σ (own.map (·.2))) H { s with heap := pushCells (s.heap.push { cls := .type "dict", data := .dict #[] }) scope.names } := by
  have J := block_start I ok hN hfp
  obtain ⟨h1, h2, h3, h4, h5⟩ := I.pin z (List.mem_append_left _ hz)
  have hlt : z.1 < s.heap.objs.size := Heap.lt_size h1
  exact ⟨⟨J.ok.mod, J.ok.kind, J.ok.glob, J.ok.blt, J.ok.above, J.ok.inj, J.ok.has, J.ok.cab, J.ok.hd, J.ok.frames, J.ok.stk, J.ok.exf, J.ok.bs, J.ok.bsz, J.ok.noex, J.ok.exfs, J.ok.funs, J.ok.frf⟩, J.os, J.bare, J.base, J.loc, J.cell, J.free, J.freeC, fun p hp => (by
    have e : p = z := by simpa using hp
    subst e
    refine ⟨pushCells_keeps _ _ _ _ (Heap.get?_push_of_some _ h1), h2, Nat.ne_of_lt hlt, fun hm => ?_, h5⟩
    rcases List.mem_cons.mp (I.stkSub p.1 hm) with q | q
    · exact h3 q
    · exact h4 q), J.hok, J.len⟩
/-- a list comprehension's walk there -/
theorem lc_hot {Q : VK} {elt tg iter : Expr} {ifs : List Expr} {scope : Scope} {own : List (Str × Nat)} {pos pos' : Pos} {wi : TI} {g : TG} {tt : TT} {te : TE} {use : Option (Value → Sem Unit)} {Qf : Value → Shared → Prop} {z : Addr × Obj}
    (hz1 : L2H.Hot1 X.A z) (hz2 : z ∈ X.pn) (hN : X.N.Nodup) (I : Inv X pins σ H s) (hi : L2H.PIH X tg iter wi) (ok : BlkOk X.N X.env.scope scope own)
    (hg : ∀ (s : Shared) (H : Hp) (C : Addr) (cl : List (Str × Addr)) (fp : List Addr), PG (blkP X s H scope (compEnvC scope cl C X.env) fp [z]) tg g) (ht : ∀ (s : Shared) (H : Hp) (C : Addr) (cl : List (Str × Addr)) (fp : List Addr), PTs (blkP X s H scope (compEnvC scope cl C X.env) fp [z]) ifs tt)
    (he : ∀ (s : Shared) (H : Hp) (C : Addr) (cl : List (Str × Addr)) (fp : List Addr), PE (blkP X s H scope (compEnvC scope cl C X.env) fp [z]) elt te) (hs : ∀ x, foldedSetIterable iter X.env x = pure x)
    (h : tLc wi g tt te (own.map (·.2)) σ H Q)
    (hRR : ∀ D C s' m H', Inv X pins σ H' s' → Q (.ref D) H' → s'.heap.Ns C m → FpOk X pins H' C → compPost (model X.prog X.w) X.A X.xe use Qf (.ref D) C (.ok .next) s') :
    wpAny (model X.prog X.w) X.A (comprehension (.ListComp elt [⟨tg, iter, ifs, 0⟩] scope pos) scope X.env pos' (newList []) false (eval iter X.env) use) Qf X.xe s := by
  have hfree : ∀ y ∈ scope.names, y.2 = .free → ∃ c, X.env.cells.lookup y.1 = some c := fun y hy e => (ok.free y hy e).elim (fun k => I.ok.has _ (.inl k)) fun k => I.ok.has _ (.inr k)
  refine wpAny_comprehension_free (use := use) rfl hs (closure_ok hfree) ok.kind (fun y hy e => by rw [ok.uniq y hy, e])
    (thn (hi.run pins s σ H _ I h) fun xv s1 hx => thn hx fun itv s2 ⟨it, fp, tn, J, H2, e, I2, T, st2, f2, q⟩ => ?_)
  subst e
  refine wpAny_newObj_type (newEnv_comp ?_) (by show 0 ≤ sizeLine; decide)
  generalize hD : s2.heap.objs.size = L
  obtain ⟨U, ⟨m0, u0⟩, turn⟩ := q L (I2.hok.fresh (Nat.le_of_eq hD))
  generalize hs3 : ({ s2 with heap := s2.heap.push { cls := .type "list", data := .seq ([] : List Value).toArray } } : Shared) = s3
  have h3 : s3.heap = s2.heap.push { cls := .type "list", data := .seq ([] : List Value).toArray } := by rw [← hs3]
  have I3 : Inv X pins σ (upd H2 L (.lst [])) s3 := by
    rw [← hs3]
    refine I2.laid (t' := s2.toks) (fun b o e => Heap.get?_push_of_some _ e) (Nat.le_of_eq hD) ⟨Nat.zero_le _, [], 0, .nil, ?_⟩
    rw [← hD]
    exact Heap.get?_push_size _ rfl
  have f3 : ∀ b ∈ fp, FpOk X pins (upd H2 L (.lst [])) b ∧ b < s3.heap.objs.size := fun b hb => by
    obtain ⟨o, e, _⟩ := T.obj _ _ st2 b hb
    have hlt : b < s2.heap.objs.size := Heap.lt_size e
    refine ⟨⟨?_, (f2 b hb).2⟩, by rw [h3, Heap.size_push]; exact Nat.lt_succ_of_lt hlt⟩
    rw [upd_ne (by rw [← hD]; exact Nat.ne_of_lt hlt)]
    exact (f2 b hb).1
  have st3 : tn 0 s3.heap := T.keep _ _ _ st2 fun b _ o e => by rw [h3]; exact Heap.get?_push_of_some _ e
  have I4 := block_startP I3 ok hN f3 hz2
  have pg := hg s3 (upd H2 L (.lst [])) s3.heap.objs.size (cellsFrom (s3.heap.objs.size + 1) scope.names (cloFrom X.env.cells scope.names [])) fp
  have pt := ht s3 (upd H2 L (.lst [])) s3.heap.objs.size (cellsFrom (s3.heap.objs.size + 1) scope.names (cloFrom X.env.cells scope.names [])) fp
  have pe := he s3 (upd H2 L (.lst [])) s3.heap.objs.size (cellsFrom (s3.heap.objs.size + 1) scope.names (cloFrom X.env.cells scope.names [])) fp
  show codeAny _ _ (.compStart (.ListComp elt [⟨tg, iter, ifs, 0⟩] scope pos) 0 (.ref it) (.ref L) (compEnvC scope (cellsFrom (s3.heap.objs.size + 1) scope.names (cloFrom X.env.cells scope.names [])) s3.heap.objs.size X.env)) (compPost (model X.prog X.w) X.A X.xe use Qf (.ref L) s3.heap.objs.size) { s3 with heap := pushCells (s3.heap.push { cls := .type "dict", data := .dict #[] }) scope.names }
  have nfp : ∀ b ∈ fp, (upd H2 L (.lst [])) b = none := fun b hb => (f3 b hb).1.1
  generalize hce : compEnvC scope (cellsFrom (s3.heap.objs.size + 1) scope.names (cloFrom X.env.cells scope.names [])) s3.heap.objs.size X.env = ce at I4 pg pt pe ⊢
  have cL : ce.locals = s3.heap.objs.size := by subst hce; rfl
  generalize hH3 : upd H2 L (.lst []) = H3 at I3 I4 pg pt pe u0 nfp f3
  generalize hs4 : ({ s3 with heap := pushCells (s3.heap.push { cls := .type "dict", data := .dict #[] }) scope.names } : Shared) = s4 at I4 ⊢
  have st4 : tn 0 s4.heap := T.keep _ _ _ st3 fun b _ o e => by rw [← hs4]; exact pushCells_keeps _ _ _ _ (Heap.get?_push_of_some _ e)
  have hot : L2H.HotC (blkP X s3 H3 scope ce fp [z]) := ⟨z, hz1, List.mem_singleton.mpr rfl⟩
  have npz : ∀ b ∈ fp, z.1 ≠ b := fun b hb => (f3 b hb).1.2.2.2.2.2 z (List.mem_append_left _ hz2)
  have stat : ∀ {σ' : L2.St} {H' : Hp} {s' : Shared}, Inv (blkP X s3 H3 scope ce fp [z]) [] σ' H' s' → (∀ b ∈ fp, H' b = none) → ∀ b ∈ fp, FpOk (blkP X s3 H3 scope ce fp [z]) [] H' b := fun {σ' H' s'} I' hn b hb =>
    ⟨hn b hb, (I'.ok.exf b hb).1, I'.ok.exfs b hb, .inl hb, fun x c e => (I'.ok.exf b hb).2 x c e, fun p hp => (by
      have e : p = z := by simpa using hp
      subst e
      exact npz b hb)⟩
  have loop : codeAny (model X.prog X.w) X.A (.compLoop (.ListComp elt [⟨tg, iter, ifs, 0⟩] scope pos) 0 (.ref it) (.ref L) ce) (compPost (model X.prog X.w) X.A X.xe use Qf (.ref L) s3.heap.objs.size) s4 := by
    refine compLoop_any (fun n s' => ∃ i H', Inv (blkP X s3 H3 scope ce fp [z]) [] (wipe σ (own.map (·.2))) H' s' ∧ tn i s'.heap ∧ (∀ b ∈ fp, H' b = none) ∧ U i n H') ?_ m0 ⟨0, H3, I4, st4, nfp, u0⟩
    rintro n s5 ⟨i, H5, I5, st5, n5, u5⟩
    rcases turn i n H5 u5 with ⟨stop, qq⟩ | ⟨go, Nx, hNx, step⟩
    · refine thnF (T.done (blkP X s3 H3 scope ce fp [z]) rfl rfl rfl hot i [] s5 _ H5 (fun _ _ => False) I5 (stat I5 n5) st5 stop) fun r s6 ⟨hr, I6⟩ => ?_
      subst hr
      have I7 : Inv X pins σ H5 s6 := I3.call' (ch := fp) I6.os I6.base I6.hok I6.bare fun b hb => ⟨(f3 b hb).1.2.2.2.1, (f3 b hb).1.2.1, (f3 b hb).1.2.2.2.2.1, (f3 b hb).1.2.2.2.2.2⟩
      obtain ⟨m, hn, _⟩ := I6.loc
      have nC : H5 ce.locals = none := I6.free
      have hn : s6.heap.Ns ce.locals m := hn
      rw [cL] at hn nC
      exact hRR L s3.heap.objs.size s6 m H5 I7 qq hn (I3.fpOk (Nat.le_refl _) nC)
    · refine thnF (T.item (blkP X s3 H3 scope ce fp [z]) rfl rfl rfl hot i [] s5 _ H5 (fun _ _ => False) I5 (stat I5 n5) st5 go) fun r s6 ⟨u, hr, h6⟩ => ?_
      subst hr
      refine thnF h6 fun _ s7 ⟨x, H7, I7, r7, y7, st7, n7⟩ => ?_
      refine thnF (pg.run _ s7 _ H7 x u _ (I7.pinned (stat I7 n7) (T.obj _ _ st7)) r7 (step x H7 y7)) fun _ s8 ⟨σ8, H8, I8, hw8, q8⟩ => ?_
      refine thnF (pt.run _ s8 σ8 H8 _ I8 q8) fun b s9 ⟨H9, I9, q9⟩ => ?_
      have fin : ∀ {s' : Shared} {H' : Hp}, Inv (blkP X s3 H3 scope ce fp [z]) ([] ++ pinsAt fp s7.heap) σ8 H' s' → Nx H' → ∃ m, m < n ∧ ∃ i H', Inv (blkP X s3 H3 scope ce fp [z]) [] (wipe σ (own.map (·.2))) H' s' ∧ tn i s'.heap ∧ (∀ b ∈ fp, H' b = none) ∧ U i m H' := fun {s' H'} I' nx => by
        obtain ⟨m', hm, w'⟩ := hNx H' nx
        have at' : ∀ b ∈ fp, ∀ o, s7.heap.get? b = some o → s'.heap.get? b = some o ∧ H' b = none := fun b hb o e =>
          ⟨(I'.pin (b, o) (List.mem_append_right _ (List.mem_append_right _ (mem_pinsAt hb e)))).1, (I'.pin (b, o) (List.mem_append_right _ (List.mem_append_right _ (mem_pinsAt hb e)))).2.1⟩
        refine ⟨m', hm, i + 1, H', (I'.unpinned (pins := [])).weak (by rw [← hw8, wipe_length]) (fun j v e => ?_), T.keep _ _ _ st7 fun b hb o e => (at' b hb o e).1, fun b hb => ?_, w'⟩
        · rw [← hw8] at e
          exact (wipe_some e).1
        · obtain ⟨o, e, _⟩ := T.obj _ _ st7 b hb
          exact (at' b hb o e).2
      cases b with
      | false =>
        simp only [Bool.false_eq_true, if_false] at q9 ⊢
        exact fin I9 q9
      | true =>
        simp only [if_true] at q9 ⊢
        refine thnF (pe.run _ s9 σ8 H9 _ I9 q9) fun v s10 ⟨yv, H10, I10, r10, acc, hD10, hz10, nx⟩ => ?_
        exact app_ok (X := blkP X s3 H3 scope ce fp [z]) I10 hD10 hz10 r10 fun s11 I11 => fin I11 nx
  exact codeAny_compStart_list loop (T.self X.A 0 _ _ _ st4 loop)
end

section
variable {X : Cx} {g : G} {W : WX} {k : Nat} {fi : Den (List D)} {s : Tgt} {t : Den Bool} {f : Den D} {ts : List Nat} {tg iter elt : Expr} {ifs : List Expr} {scope : Scope} {own : List (Str × Nat)} {pos px spos : Pos} {x : Str} {u : Den Fl} {body : List Stmt} {fs : Den (List D)} {a b : Expr} {p : Pos}
/-- an iteration, calm or not -/
structure OJ (X : Cx) (g : G) (W : WX) (tg iter : Expr) (f : Den (List D)) : Prop where
  calm : X.calm = true → OI X g W tg iter f
  hot : L2H.HotC X → OIH X g W tg iter f
theorem list_R {X : Cx} {g : G} {W : WX} {f : Den D} {σ : L2.St} {H : Hp} {R : It → Hp → Prop} (h : tI X.K g W (dItems f) σ H R) : iList X.K (tX X.K g W (RlD X.K) f) σ H R := by
  obtain ⟨B, δ, E, p⟩ := h
  refine ⟨B, δ, E, p.bind.mono fun B1 H1 δ1 x E1 S1 p1 v rv => ?_⟩
  obtain ⟨ds, hz, q⟩ := p1.lift
  have q := q B1 H1 E1 .refl
  have fin : ∀ {c : Addr} {vs : List V}, SqL X.K B1 c vs → RepL X.K B1 ds vs → IterOk X.K g B1 (Itl X.K c) ds := fun {c vs} hc r1 B2 H2 σ δ E le => by
    have h2 : SqL X.K H2 c vs := (le.trans E.le).sqL hc
    refine ⟨fun i d hd => ?_, ⟨vs, h2, by rw [r1.length]; exact Nat.le_refl _⟩⟩
    obtain ⟨v, hv, rv⟩ := r1.get hd
    refine ⟨⟨vs, v, h2, hv⟩, fun x H3 ⟨e, q⟩ => ?_⟩
    subst e
    have z := q vs h2
    rw [hv] at z
    cases z
    exact ⟨B2, E, .refl, rv.mono le⟩
  cases x with
  | lst xs =>
    cases hz
    obtain ⟨c, vs, rfl, h1, r1⟩ := rv
    exact ⟨c, rfl, ⟨vs, SqL.of (E1.le _ _ h1)⟩, q _ (fin (SqL.of h1) r1)⟩
  | rol xs =>
    cases hz
    obtain ⟨c, vs, rfl, h1, r1⟩ := rv
    exact ⟨c, rfl, ⟨vs, E1.le.sqL h1⟩, q _ (fin h1 r1)⟩
  | _ => cases hz
theorem oj_list {f : Den D} (h : OE X g W iter f) : OJ X g W tg iter (dItems f) := ⟨fun _ => oi_list h, fun _ => ⟨fun pins s σ H R I q => (pi_listH h).run pins s σ H R I (list_R q)⟩⟩
theorem oj_tup {f : Den D} (hc : X.calm = true) (h : OE X g W iter f) : OJ X g W tg iter (dItemsT f) :=
  ⟨fun _ => oi_tup h, fun ⟨z, hz, _⟩ => ⟨fun pins s σ H R I q => by
    have e := I.ok.hd hc
    rw [hz.1] at e
    cases e⟩⟩
theorem oj_range1 (hg : Gl X "range") (hm : X.mg "range" = none) (ha : OA X g W [a] fs) (hs : starEach [a] X.env = [(false, eval a X.env)] := by rfl) : OJ X g W tg (.Call (.Name "range" p) [a] [] pos) (dRng rng1 fs) :=
  ⟨fun _ => oi_range1 hg hm ha hs, fun _ => oih_range1 hg hm ha hs⟩
theorem oj_range2 (hg : Gl X "range") (hm : X.mg "range" = none) (ha : OA X g W [a, b] fs) (hs : starEach [a, b] X.env = [(false, eval a X.env), (false, eval b X.env)] := by rfl) (hs2 : starEach [b] X.env = [(false, eval b X.env)] := by rfl) :
    OJ X g W tg (.Call (.Name "range" p) [a, b] [] pos) (dRng rng2 fs) :=
  ⟨fun _ => oi_range2 hg hm ha hs hs2, fun _ => ⟨fun pins s σ H R I h => (pi_range2H hg hm ha hs hs2).run pins s σ H R I (rng2_R h)⟩⟩
theorem os_forG (C : CtxOk k g W X) (hi : OJ X g W tg iter fi) (hg : OG X g tg ts s) (hb : OSs X g W body u) (hs : ∀ x, foldedSetIterable iter X.env x = pure x := by intro _; rfl) : OS X g W (.For tg iter body [] pos) (dFor fi s u) := by
  cases hz : g.Z with
  | none => exact os_for C.po (C.calm hz) (hi.calm (C.calm hz)) hg hb hs
  | some z => exact os_forH C.po ⟨z.p, (C.hot z hz).1, (C.hot z hz).2.1⟩ (hi.hot ⟨z.p, (C.hot z hz).1, (C.hot z hz).2.1⟩) hg hb hs
theorem CtxOk.blk (C : CtxOk k g W X) (s0 : Shared) (H : Hp) (cenv : Env) (fp : List Addr) : CtxOk k g WF (blkP X s0 H scope cenv fp (pnZ g.Z)) :=
  ⟨C.nd, (fun _ _ ⟨_, _, _, _, _, _, _, _, _, _, _, _, _, _, _, _, q⟩ => q), PassesOwn.never, C.calm, fun z hz => ⟨(C.hot z hz).1, by
    show z.p ∈ pnZ g.Z
    rw [hz]
    exact List.mem_singleton.mpr rfl, (C.hot z hz).2.2⟩, C.room⟩
theorem on_lcG (C : CtxOk k g W X) (hi : OJ X g W tg iter fi) (ok : BlkOk X.N X.env.scope scope own) (hts : ∀ i ∈ ts, i ∈ own.map (·.2))
    (hg : ∀ (s0 : Shared) (H : Hp) (C : Addr) (cl : List (Str × Addr)) (fp : List Addr), OG (blkP X s0 H scope (compEnvC scope cl C X.env) fp (pnZ g.Z)) g tg ts s) (ht : ∀ (s0 : Shared) (H : Hp) (C : Addr) (cl : List (Str × Addr)) (fp : List Addr), OTs (blkP X s0 H scope (compEnvC scope cl C X.env) fp (pnZ g.Z)) g WF ifs t)
    (he : ∀ (s0 : Shared) (H : Hp) (C : Addr) (cl : List (Str × Addr)) (fp : List Addr), OE (blkP X s0 H scope (compEnvC scope cl C X.env) fp (pnZ g.Z)) g WF elt f) (hs : ∀ x, foldedSetIterable iter X.env x = pure x := by intro _; rfl) :
    ON X g W (.ListComp elt [⟨tg, iter, ifs, 0⟩] scope pos) (dLc fi (own.map (·.2)) s t f) := by
  cases hz : g.Z with
  | none =>
    rw [hz] at hg ht he
    exact on_lc (C.calm hz) C.nd (hi.calm (C.calm hz)) ok hts hg ht he hs
  | some z =>
    rw [hz] at hg ht he
    refine ⟨fun pins s σ H Q I h => ?_⟩
    rw [eval_ListComp]
    refine lc_hot (C.hot z hz).1 (C.hot z hz).2.1 C.nd I (hi.hot ⟨z.p, (C.hot z hz).1, (C.hot z hz).2.1⟩) ok hg ht he hs (lc_of hts σ H Q h) fun L Z s' m H' I' q hn ⟨n0, n1, _, n3, n4, n5⟩ => ⟨m, hn, fun h2 sb => ?_⟩
    exact ⟨.ref L, H', I'.turned (t' := s'.toks) (fun b o hb e => (sb.2 b hb).trans e) n0 n1 n3 n4 n5, rfl, q⟩
theorem o_lcG (C : CtxOk k g W X) (hi : OJ X g W tg iter fi) (ok : BlkOk X.N X.env.scope scope own) (hts : ∀ i ∈ ts, i ∈ own.map (·.2))
    (hg : ∀ (s0 : Shared) (H : Hp) (C : Addr) (cl : List (Str × Addr)) (fp : List Addr), OG (blkP X s0 H scope (compEnvC scope cl C X.env) fp (pnZ g.Z)) g tg ts s) (ht : ∀ (s0 : Shared) (H : Hp) (C : Addr) (cl : List (Str × Addr)) (fp : List Addr), OTs (blkP X s0 H scope (compEnvC scope cl C X.env) fp (pnZ g.Z)) g WF ifs t)
    (he : ∀ (s0 : Shared) (H : Hp) (C : Addr) (cl : List (Str × Addr)) (fp : List Addr), OE (blkP X s0 H scope (compEnvC scope cl C X.env) fp (pnZ g.Z)) g WF elt f) (hs : ∀ x, foldedSetIterable iter X.env x = pure x := by intro _; rfl) :
    OE X g W (.ListComp elt [⟨tg, iter, ifs, 0⟩] scope pos) (dOfN (dLc fi (own.map (·.2)) s t f)) := o_ofN (on_lcG C hi ok hts hg ht he hs)
/-- x = [..] on one row -/
theorem os_setLcG (i : Nat) (C : CtxOk k g W X) (hi : OJ X g W tg iter fi) (ok : BlkOk X.N X.env.scope scope own) (hts : ∀ i ∈ ts, i ∈ own.map (·.2))
    (hg : ∀ (s0 : Shared) (H : Hp) (C : Addr) (cl : List (Str × Addr)) (fp : List Addr), OG (blkP X s0 H scope (compEnvC scope cl C X.env) fp (pnZ g.Z)) g tg ts s) (ht : ∀ (s0 : Shared) (H : Hp) (C : Addr) (cl : List (Str × Addr)) (fp : List Addr), OTs (blkP X s0 H scope (compEnvC scope cl C X.env) fp (pnZ g.Z)) g WF ifs t)
    (he : ∀ (s0 : Shared) (H : Hp) (C : Addr) (cl : List (Str × Addr)) (fp : List Addr), OE (blkP X s0 H scope (compEnvC scope cl C X.env) fp (pnZ g.Z)) g WF elt f) (hc : g.Z = none) (hy : X.N[i]? = some x := by rfl) (hyl : X.env.scope.names.lookup x = some .local := by rfl)
    (hsw : swapsWith (.ListComp elt [⟨tg, iter, ifs, 0⟩] scope pos) (some (.Name x px)) spos.line X.env = pure true := by exact sw_true rfl rfl rfl (by decide +kernel)) (hs : ∀ x, foldedSetIterable iter X.env x = pure x := by intro _; rfl) :
    OS X g W (.Assign [.Name x px] (.ListComp elt [⟨tg, iter, ifs, 0⟩] scope pos) spos) (dAsg (tName i) (dOfN (dLc fi (own.map (·.2)) s t f))) := by
  rw [hc] at hg ht he
  exact os_setLc i (C.calm hc) C.nd (hi.calm (C.calm hc)) ok hts hg ht he hy hyl hsw hs
end
end VS
end

section
set_option Elab.async false
set_option linter.all false
set_option maxRecDepth 100000
set_option maxHeartbeats 2000000
/-! VS, part 14: list(reversed(x)); an exception's __init__; the stuck def; the law's end. -/
namespace VS
open PySem PySem.Spec PyProof.Rows L2

/-! ### list(reversed(x)) -/
section
variable {prog : Program} {w : World} {A : Around} {E : Value → Shared → Prop} {s : Shared} {it l : Addr} {items : Array Value}
theorem fill_rev {S : Addr} {R : Result → Shared → Prop} (hh : A.in1.handled = none) (hS : s.heap.get? S = some { cls := .type "list", data := .seq #[] }) (hit : s.heap.IsRevIter it l ((items.size : Int) - 1)) (hl : s.heap.IsList l items) (hne : l ≠ it) (hSi : S ≠ it) (hSl : S ≠ l) (hn : items.size ≤ sizeLine)
    (hR : ∀ (h' : Heap) (tk : Nat) (acc : Array Value) (c : Nat), (∀ b o, b ≠ it → b ≠ S → s.heap.get? b = some o → h'.get? b = some o) → h'.get? S = some { cls := .type "list", dict := none, data := .seq acc c, slots := #[] } → ItemsOf (fun i v => items[items.size - 1 - i]? = some v) acc items.size →
      R (.ok (.ret .none)) { s with heap := h', toks := tk }) :
    wpAny (model prog w) A.in1 (Builtin.«list.__init__» ⟨[.ref S, .ref it], []⟩)
      (fun fin s' => match fin with | .done f => R (.ok f) s' | .again c' => c'.quiet = true ∧ codeAny (model prog w) A c' R s') (fun e s' => R (.error e) s') s := by
  have W := (Walks.listRev (prog := prog) (w := w) (A := A.in1) hh it l hne items).toS
  show wpAny _ A.in1 (do let old ← Builtin.List.listItems (.ref S); Builtin.List.listUpdate (.ref S) (fun _ => #[]); letGo old.toList.reverse; Builtin.List.listExtendWith (.ref S) (.ref it) .none) _ _ s
  refine wpAny_bind ?_
  unfold Builtin.List.listItems
  refine wpAny_bind (wpAny_seqItems hS rfl (wpAny_pure ?_))
  show wpAny _ A.in1 (updateSeq S (fun _ => #[]) >>= fun _ => letGo (#[] : Array Value).toList.reverse >>= fun _ => Builtin.List.listExtendWith (.ref S) (.ref it) .none) _ _ s
  refine wpAny_bind (wpAny_updateSeq hS rfl ?_)
  have hS2 := Heap.get?_update_self (Obj.mapSeq (fun _ => (#[] : Array Value))) hS rfl
  have oth : ∀ b o, b ≠ S → s.heap.get? b = some o → (s.heap.update S (Obj.mapSeq (fun _ => (#[] : Array Value)))).get? b = some o := fun b o hb e => (Heap.get?_update_other _ _ (Ne.symm hb)).trans e
  refine wpAny_bind (wpAny_letGo ?_)
  generalize hH : s.heap.update S (Obj.mapSeq (fun _ => (#[] : Array Value))) = h1 at hS2 oth
  have hit1 : h1.IsRevIter it l ((items.size : Int) - 1) := hit.at fun o e => oth it o (Ne.symm hSi) e
  have hl1 : h1.IsList l items := hl.at fun o e => oth l o (Ne.symm hSl) e
  have hT : ({ s with heap := h1 } : Shared).TypeIs (.ref it) "list_reverseiterator" := Heap.IsRevIter.typeIs (s := { s with heap := h1 }) hit1
  have hr1 : Builtin.List.listSameRef (.ref S) (.ref it) = false := by simp [Builtin.List.listSameRef, hSi]
  unfold Builtin.List.listExtendWith
  refine wpAny_bind (wpAny_typeOf hT ?_)
  rw [if_neg (by rw [hr1]; decide)]
  refine wpAny_bind (wpAny_pyIter_revIter (s := { s with heap := h1 }) hit1 ?_)
  refine wpAny_bind (wpAny_holding ?_)
  unfold Builtin.List.listLengthHint
  refine wpAny_bind (wpAny_specialOf hT RT.nolen_lri ?_)
  show wpAny _ A.in1 (specialOf (Value.ref it) (Str.ofString "__length_hint__") >>= _) _ _ _
  refine wpAny_bind (wpAny_specialOf hT RT.hint_lri ?_)
  generalize hid : ("list_reverseiterator.__length_hint__" : String) = id0
  wp_delta
  rw [show splitId id0 = some ("list_reverseiterator", "__length_hint__") from by subst hid; decide +kernel]
  subst hid
  refine wpAny_bind (wpAny_isInstance (b := true) hT (by rw [isSubtype_type]; kernel_rfl) ?_)
  refine wpAny_pure ?_
  rw [if_neg (by decide)]
  have e0 : ((items.size : Nat) : Int) - 1 - ((0 : Nat) : Int) = (items.size : Int) - 1 := by omega
  have hSf : S ∉ [it, l] := by simp only [List.mem_cons, List.not_mem_nil, or_false, not_or]; exact ⟨hSi, hSl⟩
  refine wpAny_pure ⟨plainId_quiet F.plain_extend_loop _, codeAny_extend_loopS W hn _ hSf _ items.size 0 _ _ _ rfl (Nat.zero_le _) ⟨Nat.zero_le _, by rw [e0]; exact hit1, hl1⟩ hS2 (ItemsOf.nil _) fun s' acc' c' hm hS' hacc => ?_⟩
  rw [Moved.eq_with hm]
  refine hR s'.heap s'.toks acc' c' (fun b o h1 h2 e => hm.heap b o (fun hmem => ?_) (oth b o h2 e)) hS' hacc
  rcases List.mem_cons.mp hmem with e' | hmem
  · exact h2 e'
  · exact h1 (List.mem_singleton.mp hmem)
theorem call_list_rev {Q : Value → Shared → Prop} (hh : A.handled = none) (hit : s.heap.IsRevIter it l ((items.size : Int) - 1)) (hl : s.heap.IsList l items) (hne : l ≠ it) (hn : items.size ≤ sizeLine)
    (hQ : ∀ (h' : Heap) (tk : Nat) (acc : Array Value) (c : Nat), (∀ b o, b ≠ it → s.heap.get? b = some o → h'.get? b = some o) → h'.get? s.heap.objs.size = some { cls := .type "list", dict := none, data := .seq acc c, slots := #[] } → ItemsOf (fun i v => items[items.size - 1 - i]? = some v) acc items.size →
      Q (.ref s.heap.objs.size) { s with heap := h', toks := tk }) :
    wpAny (model prog w) A (call (.type "list") [.ref it]) Q E s := by
  refine callType_codes (Q₁ := fun obj s1 => obj = .ref s.heap.objs.size ∧ s1 = { s with heap := s.heap.push { cls := .type "list", data := .seq #[] } }) F.called_list (F.typeCall_list_1 _) F.entry_list_init
    (code_list_new _ ⟨rfl, rfl⟩) fun obj s1 h1 => ?_
  obtain ⟨rfl, rfl⟩ := h1
  obtain ⟨oi, hoi, _⟩ := id hit
  obtain ⟨ol, hol, _⟩ := id hl
  have hS : (s.heap.push { cls := .type "list", data := .seq #[] }).get? s.heap.objs.size = some { cls := .type "list", data := .seq #[] } := Heap.get?_push_size _ rfl
  refine ⟨⟨_, hS, rfl⟩, F.args_list_init_2 _ _, fill_rev (s := { s with heap := s.heap.push { cls := .type "list", data := .seq #[] } }) hh hS (hit.at fun o e => Heap.get?_push_of_some _ e) (hl.push _) hne (Nat.ne_of_gt (Heap.lt_size hoi)) (Nat.ne_of_gt (Heap.lt_size hol)) hn fun h' tk acc c k g i => ?_⟩
  exact ⟨rfl, hQ h' tk acc c (fun b o hb e => k b o hb (Nat.ne_of_lt (Heap.lt_size e)) (Heap.get?_push_of_some _ e)) g i⟩
end
section
variable {X : Cx} {g : G} {W : WX} {e : Expr} {f : Den D} {p p2 pos pos2 : Pos}
def tLRev (K : PySem.W.Frag) (te : TE) : TE := fun σ H Q => te σ H fun v H1 => ∃ (a : Addr) (xs : List V), v = .ref a ∧ SqL K H1 a xs ∧ ∀ q, H1 q = none → Q (.ref q) (upd H1 q (.lst xs.reverse))
theorem pe_listRev {te : TE} (hc : X.calm = true) (hg : Gl X "list") (hm : X.mg "list" = none) (hg2 : Gl X "reversed") (hm2 : X.mg "reversed" = none) (he : PE X e te)
    (hs : starEach [e] X.env = (false, eval e X.env) :: starEach [] X.env := by rfl)
    (hs2 : starEach [.Call (.Name "reversed" p2) [e] [] pos2] X.env = (false, eval (.Call (.Name "reversed" p2) [e] [] pos2) X.env) :: starEach [] X.env := by rfl) :
    PE X (.Call (.Name "list" p) [.Call (.Name "reversed" p2) [e] [] pos2] [] pos) (tLRev X.K te) := by
  refine ⟨fun pins s σ H Q I h => ?_⟩
  refine Call_ (ld_blt I hg hm boot_list (PyProof.Rows.callWith_type1 (args_cons (Call_ (ld_blt I hg2 hm2 PyProof.Rows.boot_reversed (PyProof.Rows.callWith_type1 (args_cons (thn (he.run pins s σ H _ I h) fun u s1 ⟨v, H1, I1, r1, q1⟩ => args_nil ?_) hs) hs rfl))) hs2) hs2 rfl))
  obtain ⟨a, xs, rfl, hq, q⟩ := q1
  obtain rfl : u = Value.ref a := r1
  obtain ⟨its, rv, p', hz⟩ := I1.list hq
  refine call_reversed_list p'.isList (args_nil ?_)
  have I2 : Inv X pins σ H1 { s1 with heap := s1.heap.push (revObj a ((its.toArray.size : Int) - 1)) } := I1.kept (t' := s1.toks) fun b o e => Heap.get?_push_of_some _ e
  obtain ⟨f0, f1, f2, f3, f4, f5⟩ := I1.fpOk (H' := H1) (b := s1.heap.objs.size) (Nat.le_refl _) (I1.hok.fresh (Nat.le_refl _))
  have hl := p'.isList
  obtain ⟨ol, hol, _⟩ := id hl
  have hn : its.toArray.size ≤ sizeLine := by rw [List.size_toArray, ← rv.length]; exact hz
  refine call_list_rev (s := { s1 with heap := s1.heap.push (revObj a ((its.toArray.size : Int) - 1)) }) (I1.ok.hd hc) ⟨_, Heap.get?_push_size _ rfl, rfl, rfl⟩ (hl.push _) (Nat.ne_of_lt (Heap.lt_size hol)) hn fun h' tk acc c hk hget hi => ?_
  have hlt : s1.heap.objs.size < (s1.heap.push (revObj a ((its.toArray.size : Int) - 1))).objs.size := by rw [Heap.size_push]; exact Nat.lt_succ_self _
  have I3 : Inv X pins σ H1 { s1 with heap := h', toks := tk } := I2.turned (t' := tk) (fun b o hb e => hk b o hb e) f0 f1 f3 f4 f5
  have hfree : H1 (s1.heap.push (revObj a ((its.toArray.size : Int) - 1))).objs.size = none := I2.hok.fresh (Nat.le_refl _)
  refine ⟨.ref (s1.heap.push (revObj a ((its.toArray.size : Int) - 1))).objs.size, upd H1 (s1.heap.push (revObj a ((its.toArray.size : Int) - 1))).objs.size (.lst xs.reverse), ?_, rfl, q _ hfree⟩
  have rr := RT.vals_rev rv hi
  have sz : s1.heap.objs.size ≤ (s1.heap.push (revObj a ((its.toArray.size : Int) - 1))).objs.size := Nat.le_of_lt hlt
  have big := I1.laid (t' := tk) (a := (s1.heap.push (revObj a ((its.toArray.size : Int) - 1))).objs.size) (o := .lst xs.reverse) (h' := h') (fun b o e => hk b o (Nat.ne_of_lt (Heap.lt_size e)) (Heap.get?_push_of_some _ e)) sz
    (show ObjOk X.prog X.w _ _ _ (.lst xs.reverse) from ⟨by rw [List.length_reverse]; exact hz, acc.toList, c, rr, by rw [hget]⟩)
  exact big
def revD : D → Option D
  | .lst xs => some (.lst xs.reverse)
  | .rol xs => some (.lst xs.reverse)
  | _ => none
def dRev (f : Den D) : Den D := fun δ => (f δ).bind fun x δ1 => .lift (revD x) δ1
theorem RepL.rev {K : PySem.W.Frag} {B : Hp} : ∀ {ds : List D} {vs : List V}, RepL K B ds vs → RepL K B ds.reverse vs.reverse
  | [], _, h => by
    rw [show _ = [] from h]
    rfl
  | d :: ds, _, h => by
    obtain ⟨v, r, rfl, h2, h3⟩ := h
    simp only [List.reverse_cons]
    exact (RepL.rev h3).append (RepL.cons h2 RepL.nil)
theorem o_listRev (hc : X.calm = true) (he : OE X g W e f) (hg : Gl X "list" := by rfl) (hg2 : Gl X "reversed" := by rfl) (hm : X.mg "list" = none) (hm2 : X.mg "reversed" = none)
    (hs : starEach [e] X.env = (false, eval e X.env) :: starEach [] X.env := by rfl)
    (hs2 : starEach [.Call (.Name "reversed" p2) [e] [] pos2] X.env = (false, eval (.Call (.Name "reversed" p2) [e] [] pos2) X.env) :: starEach [] X.env := by rfl) :
    OE X g W (.Call (.Name "list" p) [.Call (.Name "reversed" p2) [e] [] pos2] [] pos) (dRev f) := by
  refine pe_imp (pe_listRev hc hg hm hg2 hm2 he hs hs2) fun σ H Q ⟨B, δ, E, q⟩ => ⟨B, δ, E, q.bind.mono fun B1 H1 δ1 d E1 S1 q1 v rv => ?_⟩
  obtain ⟨z, hz, q1⟩ := q1.lift
  have fin : ∀ {ys : List D} {c : Addr} {vs : List V}, v = .ref c → SqL X.K H1 c vs → RepL X.K B1 ys vs → z = .lst ys.reverse → ∃ (a : Addr) (xs : List V), v = .ref a ∧ SqL X.K H1 a xs ∧ ∀ q, H1 q = none → Q (.ref q) (upd H1 q (.lst xs.reverse)) := fun {ys c vs} ev h3 r3 ez => by
    subst ev ez
    exact ⟨c, vs, rfl, h3, fun n hn => q1 _ _ (E1.alloc _ hn) (Stp.alloc E1 hn) _ ⟨n, vs.reverse, rfl, upd_same, (RepL.rev r3).mono (le_upd (le_none E1.le hn))⟩⟩
  cases d with
  | lst ys =>
    cases hz
    obtain ⟨c, vs, rfl, h3, r3⟩ := rv
    exact fin rfl (SqL.of (E1.le _ _ h3)) r3 rfl
  | rol ys =>
    cases hz
    obtain ⟨c, vs, rfl, h3, r3⟩ := rv
    exact fin rfl (E1.le.sqL h3) r3 rfl
  | _ => cases hz
end

/-! ### an exception's __init__ -/
section
variable {P : Program} {w : World} {K : PySem.W.Frag} {mg : Str → Option Value} {base : Heap} {C fI : Addr} {fd : FuncData} {x qual word n1 n2 : Str} {st : Stmt}
theorem ost_first {X : Cx} {to te : TE} {D : Ends} {σ : L2.St} {H : Hp} {f : Str} {y : V} {a : Addr} (T : OexC X.K C) (hf : PySem.W.findIn X.K (.ref C) f = some none) (h1 : ∀ Q, Q y H → te σ H Q) (h2 : ∀ Q, Q (.ref a) H → to σ H Q) (ea : H a = some (exo a C none))
    (q : ∀ dx, H dx = none → dx ≠ a → D.nx σ (upd (upd H dx (exd dx [(f, y)])) a (exo a C (some dx)))) : tOst X.K f to te D σ H :=
  h1 _ (h2 _ ⟨a, C, rfl, T, hf, .inl ⟨ea, q⟩⟩)
theorem ost_more {X : Cx} {to te : TE} {D : Ends} {σ : L2.St} {H : Hp} {f : Str} {y : V} {a dx : Addr} {fs : List (Str × V)} (T : OexC X.K C) (hf : PySem.W.findIn X.K (.ref C) f = some none) (h1 : ∀ Q, Q y H → te σ H Q) (h2 : ∀ Q, Q (.ref a) H → to σ H Q) (ea : H a = some (exo a C (some dx))) (ed : H dx = some (exd dx fs)) (hl : fs.length ≤ 900)
    (q : D.nx σ (upd H dx (exd dx ((f, y) :: fs)))) : tOst X.K f to te D σ H :=
  h1 _ (h2 _ ⟨a, C, rfl, T, hf, .inr ⟨dx, fs, ea, ed, hl, q⟩⟩)
theorem upd_upd {H : Hp} {a : Addr} {u v : HO} : upd (upd H a u) a v = upd H a v := by
  funext b
  by_cases h : b = a
  · subst h
    rw [upd_same, upd_same]
  · rw [upd_ne h, upd_ne h, upd_ne h]
theorem upd_comm {H : Hp} {a b : Addr} {u v : HO} (h : a ≠ b) : upd (upd H a u) b v = upd (upd H b v) a u := by
  funext c
  by_cases h1 : c = a
  · subst h1
    rw [upd_ne h, upd_same, upd_same]
  · by_cases h2 : c = b
    · subst h2
      rw [upd_same, upd_ne h1, upd_same]
    · rw [upd_ne h2, upd_ne h1, upd_ne h1, upd_ne h2]
theorem init1 {p1 p2 p3 p4 p5 p6 q1 q2 : Pos} {j : Nat} (F : Fun K x qual st fI fd) (T : OexC K C) (S : FnScope ["self", n1] ["self", n1] (defScope st)) (f0 : PySem.W.findIn K (.ref C) "word" = some none) (f1 : PySem.W.findIn K (.ref C) n1 = some none)
    (hb : defBody st = [.Assign [.Attribute (.Name "self" p1) "word" p2] (.Constant (.str word) j p3) q1, .Assign [.Attribute (.Name "self" p4) n1 p5] (.Name n1 p6) q2])
    (v0 : Vis (defScope st) "self") (v1 : Vis (defScope st) n1) (d1 : (n1 == ("__debug__" : Str)) = false) (d2 : (n1 == ("__classdict__" : Str)) = false)
    (hsw : ∀ env, swapsWith (.Name n1 p6) (some (.Attribute (.Name "self" p4) n1 p5)) q2.line env = pure false) : FnOk P w K mg base CX0 1 fI fd ["self", n1] (spI C word [n1]) := by
  obtain ⟨oc, od, kV, doc, pm, an, cdv, ct, osl, rfl, lk, hcd⟩ := F.ex
  rw [hb] at *
  refine fn_of lk hcd S (fun vs H Q E ⟨a, args, e, hl, _, _⟩ => ?_) (fun A outer s H vs Q E hr ⟨a, args, e, hl, ea, q⟩ => ?_)
  · rw [e, List.length_cons, hl]
    rfl
  · obtain ⟨v, rfl⟩ : ∃ v, args = [v] := by
      match args, hl with
      | [v], _ => exact ⟨v, rfl⟩
    subst e
    refine ⟨_, pss_cons (ps_ost (pe_var (i := 0) rfl v0) pe_str) (pss_cons (ps_ost (pe_var (i := 0) rfl v0) (pe_var (i := 1) rfl v1 d1 d2) (hsw _)) pss_nil), ?_⟩
    refine ost_first T f0 (fun _ q => q) (fun _ q => ⟨.ref a, rfl, q⟩) ea fun dx hdx dxa => ?_
    show tOst K n1 (tVar 0) (tVar 1) { nx := fun _ H' => Q .non H', rt := Q } (L2.start ["self", n1] [.ref a, v]) (upd (upd H dx (exd dx [("word", .str word)])) a (exo a C (some dx)))
    refine ost_more (X := cxOf CX0 P w K mg base ["self", n1] qual (defScope st) fI cdv A outer s H E) (dx := dx) (fs := [("word", .str word)]) T f1 (fun _ q => ⟨v, rfl, q⟩) (fun _ q => ⟨.ref a, rfl, q⟩) upd_same (by rw [upd_ne dxa, upd_same]) (by show 1 ≤ 900; decide) ?_
    have z := q dx hdx dxa
    have e : upd (upd (upd H dx (exd dx [("word", .str word)])) a (exo a C (some dx))) dx (exd dx [(n1, v), ("word", .str word)]) = upd (upd H a (exo a C (some dx))) dx (exd dx (flds (.str word) [n1] [v])) := by
      rw [upd_comm dxa, upd_upd]
      rfl
    show Q .non _
    rw [e]
    exact z
end

/-! ### the stuck def -/
theorem fn_stuck {P : Program} {w : World} {K : PySem.W.Frag} {mg : Str → Option Value} {base : Heap} {cA : Nat → Addr} {hotOk : Bool} {k : Nat} {f : Addr} {fd : FuncData} {ps : List Str} : FnG P w K mg base cA hotOk k f fd ps (fun _ => .stuck) :=
  ⟨fun _ _ _ _ _ _ _ _ _ _ _ _ _ _ _ _ ⟨_, _, _, _, _, h⟩ => False.elim h⟩

/-! ### the law's end -/
/-- what is asked of the law's def -/
def spAll (K : PySem.W.Frag) (F : List Sl → Cr) : Sp := fun vs H Q E => ∀ cA, spD K ⟨cA, none⟩ 1 F vs H Q E
theorem repL_ints {K : PySem.W.Frag} {B : Hp} : ∀ ns : List Int, RepL K B (ns.map D.int) (ns.map V.int)
  | [] => rfl
  | n :: ns => ⟨.int n, _, rfl, rfl, repL_ints ns⟩
theorem law_sp {K : PySem.W.Frag} {F : List Sl → Cr} {H : Hp} {a : Addr} {ns : List Int} (hS : SqL K H a (ns.map V.int)) (hF : ∃ os, F [.dat (.rol (ns.map D.int))] = .ret (.dat (.bl true)) os) : spAll K F [.ref a] H (fun v _ => v = .bl true) fun _ _ _ => False := by
  intro cA
  obtain ⟨os, hF⟩ := hF
  refine ⟨H, [.dat (.rol (ns.map D.int))], rfl, ⟨Le.refl H, rfl, fun i s h => ?_, fun i j b o b' o' c h1 h2 h3 h4 => ?_⟩, rfl, ?_⟩
  · match i, h with
    | 0, h =>
      cases h
      exact ⟨.ref a, rfl, a, _, rfl, hS, repL_ints ns⟩
    | i + 1, h => simp at h
  · match i, h1 with
    | 0, h1 => cases h1
    | i + 1, h1 => simp at h1
  · rw [hF]
    intro B' H' v E S r
    exact r
section
variable {P : Program} {w : World} {K : PySem.W.Frag} {mg mb : Str → Option Value} {k : Nat} {fa a : Addr} {fd : FuncData} {x : Str} {F : List Sl → Cr} {t1 : Shared} {vs : List Value} {ns : List Int}
/-- the law's call, the script tracked as H says -/
theorem law_at (kin : K.In t1.heap) (nsM : t1.heap.Ns mainGlobals mg) (nsB : t1.heap.Ns builtinsNs mb) (hbb : ∀ y : Str, y ≠ "__name__" → mb y = bootBuiltins y) (lim : t1.heap.NoLimit) (gn : t1.gens = #[])
    (ga : t1.heap.get? a = some { cls := .type "list", data := .seq vs.toArray }) (hr : Room k callerA) (hG : ∀ base : Heap, K.In base → base.Ns mainGlobals mg → ∃ cA, FnG P w K mg base cA false k fa fd [x] F)
    (bi : ∀ (s : Shared) (u : Value), BindsTo s fd ⟨[u], []⟩ [(x, u)]) (hF : ∃ os, F [.dat (.rol (ns.map D.int))] = .ret (.dat (.bl true)) os)
    (H : Hp) (hO : L2.Only H) (hS : SqL K H a (ns.map V.int)) (hok : HOk P w H t1.heap) (hA : ∀ b, H b ≠ none → b = a) (hK : H a ≠ none → K.lookup a = none) :
    codeAny (model P w) callerA (.call (.ref fa) ⟨[.ref a], []⟩) (fun r t2 => r = .ok (.ret (.bool true)) ∧ OldK t1.heap t2.heap ∧ t2.os = t1.os ∧ AllBare t2.gens) t1 := by
  have seen : ∀ {b : Addr} {o : Obj}, t1.heap.get? b = some o → H b = none → (hidT t1.heap H).get? b = some o := fun e n => hidT_get e n
  have free : ∀ {b : Addr} {o : Obj} {es : Array DictEntry} {ep : Nat}, t1.heap.get? b = some o → o.data = .dict es ep → H b = none := by
    intro b o es ep e d
    by_cases q : H b = none
    · exact q
    · have e' := hA b q
      subst e'
      rw [ga] at e
      cases e
      cases (show Data.seq vs.toArray _ = Data.dict es ep from d)
  have keepNs : ∀ {b : Addr} {m : Str → Option Value}, t1.heap.Ns b m → (hidT t1.heap H).Ns b m := fun ⟨o, es, ep, e, d, r⟩ => ⟨o, es, ep, seen e (free e d), d, r⟩
  have kb : K.In (hidT t1.heap H) := by
    intro b o e
    refine seen (kin b o e) ?_
    by_cases q : H b = none
    · exact q
    · have e' := hA b q
      subst e'
      rw [hK q] at e
      cases e
  have env : Env0 P w K mg (hidT t1.heap H) callerA [] t1 H :=
    ⟨rfl, ⟨kb, keepNs nsM, ⟨mb, keepNs nsB, hbb⟩, (by obtain ⟨mc, l1, l2⟩ := lim; exact ⟨mc, keepNs l1, l2⟩)⟩, fun b o e => of_hidT e, Nat.le_of_eq (hidT_size _ _), trivial, (fun b hb => by cases (show b ∈ ([] : List Addr) from hb)), hok, .of_eq gn⟩
  obtain ⟨cA, g⟩ := hG _ kb (keepNs nsM)
  have go := g.run none callerA [] t1 H ⟨[.ref a], []⟩ [.ref a] [.ref a] (fun v _ => v = .bl true) (fun _ _ _ => False) (.inl rfl) ⟨fun _ => hr, (fun q => absurd rfl q), rfl⟩ (fun z hz => by cases hz) env (bi t1 (.ref a)) (.cons rfl .nil) (law_sp hS hF cA)
  refine codeAny_mono go fun r t2 h => ?_
  cases r with
  | error e =>
    obtain ⟨_, _, _, _, _, _, _, _, _, _, _, _, z⟩ := h
    exact False.elim z
  | ok fl =>
    cases fl with
    | ret u =>
      obtain ⟨v, H', os, bare, un, hok', r', q⟩ := h
      have q : v = .bl true := q
      subst q
      have hu : u = Value.bool true := r'
      subst hu
      refine ⟨rfl, OldK.of_keep fun b o e => ?_, os, bare⟩
      rcases hO b with z | ⟨ob, xs, z⟩
      · exact un.keep b o e z (by intro y; cases (show b ∈ ([] : List Addr) from y)) (by simp)
      · obtain ⟨e1, _⟩ := hok b _ z
        obtain ⟨e2, _⟩ := hok' b _ (un.frzs b ob _ z)
        rw [e1] at e
        cases e
        exact e2
    | next => exact False.elim h
    | brk => exact False.elim h
    | cont => exact False.elim h
end
theorem law_walk {l : PySem.W.OpenLaw} {k : Nat} {q : Program} {loose : List Str} {XP : (Str → Option Value) → Heap → Prop} {YP : World → Heap → Prop} {d : DefRec} {K : Params → PySem.W.Frag} (F : List Sl → Cr) (hn : l.most = some 63) (hdf : d.params.defaults = []) (hr : Room k callerA)
    (hY : ∀ (w : World) (h : Heap), YP w h → (K w.params).In h) (hF : ∀ ns : List Int, ns.length ≤ 63 → ∃ os, F [.dat (.rol (ns.map D.int))] = .ret (.dat (.bl true)) os)
    (hG : ∀ (w : World) (mg : Str → Option Value) (fa : Addr) (h : Heap), (K w.params).In h → h.Ns mainGlobals mg → mg d.name = some (.ref fa) →
      ∃ fd : FuncData, (∀ (s : Shared) (u : Value), BindsTo s fd ⟨[u], []⟩ [("script", u)]) ∧ ∃ cA, ∀ base : Heap, (K w.params).In base → base.Ns mainGlobals mg → FnG l.prog w (K w.params) mg base cA false k fa fd ["script"] F) :
    PySem.W.WalkO q loose XP YP l.row.toRowW d [] (fun f vs => PySem.call f vs) :=
  by
  refine Att.attach_call hn hdf fun w t0 t1 mg mb fa o pm cd doc a vs ns G Y ho hd hcd hmg hobj hints hlen hg => ?_
  have kin := hY w _ Y
  obtain ⟨fd, bi, cA, gg⟩ := hG w mg fa _ kin G.T.g hmg
  have rv := vals_ints hints
  have lenV := hints.length
  have small : ns.length ≤ sizeLine := Nat.le_trans hlen (by decide)
  have core := law_at (P := l.prog) (x := "script") kin G.T.g G.T.b G.T.builtins G.T.nolimit hg hobj hr (fun base b1 b2 => ⟨cA, gg base b1 b2⟩) bi (hF ns hlen)
  cases hk : (K w.params).lookup a with
  | some ob =>
    have e := kin a ob hk
    rw [hobj] at e
    cases e
    exact core (fun _ => none) (fun _ => .inl rfl) (.inr ⟨_, vs.toArray, _, hk, rfl, rfl, rfl, by rw [List.size_toArray, lenV]; exact small, by simpa using rv⟩) (fun b u z => by cases (show (none : Option HO) = some u from z)) (fun b z => absurd rfl z) (fun z => absurd rfl z)
  | none =>
    have he : ∀ b, (if b = a then some (HO.frz { cls := .type "list", data := .seq vs.toArray } (.lst (ns.map V.int))) else none) ≠ none → b = a := fun b z => by
      by_cases q : b = a
      · exact q
      · exact absurd (if_neg q) z
    refine core (fun b => if b = a then some (.frz { cls := .type "list", data := .seq vs.toArray } (.lst (ns.map V.int))) else none) (fun b => ?_) (.inl (.inr ⟨{ cls := .type "list", data := .seq vs.toArray }, if_pos rfl⟩)) (fun b u z => ?_) he (fun _ => hk)
    · by_cases q : b = a
      · exact .inr ⟨_, _, if_pos q⟩
      · exact .inl (if_neg q)
    · have q := he b (by intro y; have y' := z.symm.trans y; cases y')
      have y := (if_pos q).symm.trans z
      cases y
      subst q
      exact ⟨hobj, by rw [List.length_map]; exact small, vs, _, rv, hobj⟩
end VS
end

section
set_option Elab.async false
set_option linter.all false
set_option maxRecDepth 100000
/-! VS, part 15: small forms for the printer. -/
namespace VS
open PySem PySem.Spec PyProof.Rows L2
section
variable {X : Cx} {g : G} {W : WX} {e : Expr} {f : Den D} {x : Str} {px pos : Pos}
/-- x.append(e) -/
theorem os_appd (i : Nat) {pa pc : Pos} (he : OE X g W e f) (hN : X.N[i]? = some x := by rfl) (hv : Vis X.env.scope x := by first | exact Or.inl rfl | exact Or.inr (Or.inl rfl) | exact Or.inr (Or.inr rfl)) (hd : (x == ("__debug__" : Str)) = false := by decide)
    (hcd : (x == ("__classdict__" : Str)) = false := by decide) (hbase : attributeBase (.Name x px) "append" X.env (eval (.Name x px) X.env) = eval (.Name x px) X.env := by rfl)
    (hfew : ((backTo pc (starEach [e] X.env)).all (fun x => !x.1) && (backToKw pc (keywordEach [] X.env)).all (fun x => x.1.isSome)
      && decide ([e].length + ([] : List Keyword).length + (if ([] : List Keyword).isEmpty then 0 else 1) < 30)) = true := by rfl)
    (hline : (pa.endLine == pc.line) = true := by rfl) (hst : starEach [e] X.env = (false, eval e X.env) :: starEach [] X.env := by rfl) (hplain : (backTo pc (starEach [] X.env)).any (·.1) = false := by rfl)
    (hs : swapsWith (.Call (.Attribute (.Name x px) "append" pa) [e] [] pc) none pos.line X.env = pure false := by rfl) : OS X g W (.Expr (.Call (.Attribute (.Name x px) "append" pa) [e] [] pc) pos) (dApp i f) :=
  os_app i he hN hv hd hcd (t := tCons (tX X.K g W (RlD X.K) f) tNil) (hs := hs) (hp := pe_bm PySem.F.plainAttrs_list PySem.F.slot_list_append PySem.F.type_list_append mt_append (pe_var hN hv hd hcd) (pa_cons he pa_nil hst) hbase hfew hline hst hplain)
/-- x += e on ints -/
def addI : D → D → Option D
  | .int i, .int j => some (.int (i + j))
  | _, _ => none
theorem ok_addI {K : PySem.W.Frag} : Ok2 K (rI0 fun i j => .int (i + j)) addI := ok_I0 (gd := fun i j => .int (i + j)) (fun d e z h => by
  cases d <;> cases e <;> cases h
  exact ⟨_, _, rfl, rfl, rfl⟩) fun _ _ _ => rfl
end
end VS
end

section
set_option Elab.async false
set_option linter.all false
set_option maxRecDepth 100000
/-! VS, part 16: what the top has written, read. -/
namespace VS
open PySem PySem.Spec PyProof.Rows L2
/-- plain values of the module -/
def dAbs : Value → Option D
  | .none => some .non
  | .bool b => some (.bl b)
  | .int i _ => some (.int i)
  | .str x _ => some (.str x)
  | _ => none
theorem dAbs_ok {K : PySem.W.Frag} {B : Hp} {u : Value} {d : D} (h : dAbs u = some d) : ∃ v, RelV v u ∧ Rep K B d v := by
  cases u with
  | none => cases h; exact ⟨.non, rfl, rfl⟩
  | bool b => cases h; exact ⟨.bl b, rfl, rfl⟩
  | int i t => cases h; exact ⟨.int i, ⟨t, rfl⟩, rfl⟩
  | str x t => cases h; exact ⟨.str x, ⟨t, rfl⟩, rfl⟩
  | _ => cases h
def dAbsL : List Value → Option (List D)
  | [] => some []
  | u :: us => match dAbs u, dAbsL us with
    | some d, some ds => some (d :: ds)
    | _, _ => none
theorem dAbsL_ok {K : PySem.W.Frag} {B : Hp} : ∀ {us : List Value} {ds : List D}, dAbsL us = some ds → ∃ vs, Vals vs us ∧ RepL K B ds vs
  | [], ds, h => by
    cases h
    exact ⟨[], .nil, rfl⟩
  | u :: us, ds, h => by
    unfold dAbsL at h
    cases h1 : dAbs u with
    | none =>
      rw [h1] at h
      cases h
    | some d =>
      cases h2 : dAbsL us with
      | none =>
        rw [h1, h2] at h
        cases h
      | some ds' =>
        rw [h1, h2] at h
        cases h
        obtain ⟨v, r1, q1⟩ := dAbs_ok (K := K) (B := B) h1
        obtain ⟨vs, r2, q2⟩ := dAbsL_ok (K := K) (B := B) h2
        exact ⟨v :: vs, .cons r1 r2, v, vs, rfl, q1, q2⟩
/-- a tuple of the module -/
theorem rep_tup {K : PySem.W.Frag} {a : Addr} {od : Option Addr} {its : Array Value} {n : Nat} {sl : Array (Option Value)} {ds : List D} (h : K.lookup a = some ⟨.type "tuple", od, .seq its n, sl⟩) (hs : dAbsL its.toList = some ds) (hz : its.size ≤ sizeLine) :
    ∀ B, Rep K B (.tup ds) (.ref a) := fun B => by
  obtain ⟨vs, r, q⟩ := dAbsL_ok (K := K) (B := B) hs
  exact ⟨a, vs, rfl, .inr ⟨_, its, n, h, rfl, rfl, hz, r⟩, q⟩
section
variable {K : PySem.W.Frag} {t : Value} {S C : Addr} {T : String} {b : Bool}
theorem kitCls_of (h1 : PySem.W.isClsIn K S = true) (h2 : PySem.W.typeIn K (.ref S) = some (.type "type")) (h3 : PySem.W.subIn K t (.ref S) = some b) : PySem.W.kitCls K t (.ref S) = some b := by
  have e : ((PySem.W.clsIn K S).isSome && PySem.W.typeIn K (.ref S) == some (.type "type")) = true := by
    have h1' : (PySem.W.clsIn K S).isSome = true := h1
    rw [h1', h2] <;> rfl
  show (if ((PySem.W.clsIn K S).isSome && PySem.W.typeIn K (.ref S) == some (.type "type")) = true then PySem.W.subIn K t (.ref S) else none) = some b
  rw [if_pos e]
  exact h3
theorem kit_yes (h1 : PySem.W.isClsIn K S = true) (h2 : PySem.W.typeIn K (.ref S) = some (.type "type")) (h3 : PySem.W.subIn K t (.ref S) = some true) : PySem.W.kitOne K t (.ref S) = some true := by
  unfold PySem.W.kitOne
  split
  · rfl
  · exact kitCls_of h1 h2 h3
theorem kit_no (h1 : PySem.W.isClsIn K S = true) (h2 : PySem.W.typeIn K (.ref S) = some (.type "type")) (h3 : PySem.W.subIn K (.ref C) (.ref S) = some false) (n : (C == S) = false) : PySem.W.kitOne K (.ref C) (.ref S) = some false := by
  unfold PySem.W.kitOne
  rw [if_neg (fun z => by
    have e : C = S := Value.ref.inj (beq_iff_eq.mp z)
    rw [e] at n
    simp at n)]
  exact kitCls_of h1 h2 h3
theorem kit_ty (h1 : PySem.W.kitMeta T = true) (h3 : PySem.W.subIn K (.ref C) (.type T) = some b) : PySem.W.kitOne K (.ref C) (.type T) = some b := by
  unfold PySem.W.kitOne
  rw [if_neg (fun z => by
    have e : Value.ref C = .type T := beq_iff_eq.mp z
    cases e)]
  show (if PySem.W.kitMeta T = true then PySem.W.subIn K (.ref C) (.type T) else none) = some b
  rw [if_pos h1]
  exact h3
theorem exm_cls (h0 : PySem.W.subIn K (.ref S) (.type "BaseException") = some true) (h1 : PySem.W.isClsIn K S = true) (h2 : PySem.W.typeIn K (.ref S) = some (.type "type")) (h3 : PySem.W.subIn K t (.ref S) = some b) : PySem.W.exmOne K t (.ref S) = some b := by
  have e : (PySem.W.subIn K (.ref S) (.type "BaseException") == some true) = true := by rw [h0] <;> rfl
  show (if (PySem.W.subIn K (.ref S) (.type "BaseException") == some true) = true then PySem.W.kitCls K t (.ref S) else none) = some b
  rw [if_pos e]
  exact kitCls_of h1 h2 h3
end
end VS
end

section
set_option Elab.async false
set_option linter.all false
set_option maxRecDepth 100000
/-! VT, part 1: several rules for one construct; methods of owned lists. -/
namespace VS
open PySem PySem.Spec PyProof.Rows L2
section
variable {X : Cx} {g : G} {W : WX} {e : Expr} {st : Stmt} {tg : Expr}
theorem tX_congr {α β : Type} {Rl : Hp → St → List Sl → Hp → Hp → List Sl → α → β → Prop} {K : PySem.W.Frag} {f f1 f2 : Den α} (h : ∀ δ, f δ = f1 δ ∨ f δ = f2 δ) {σ : St} {H : Hp} {Q : β → Hp → Prop} (q : tX K g W Rl f σ H Q) :
    tX K g W Rl f1 σ H Q ∨ tX K g W Rl f2 σ H Q := by
  obtain ⟨B, δ, E, p⟩ := q
  rcases h δ with e | e
  · exact .inl ⟨B, δ, E, by rw [← e]; exact p⟩
  · exact .inr ⟨B, δ, E, by rw [← e]; exact p⟩
theorem pe_or {α : Type} {Rl : Hp → St → List Sl → Hp → Hp → List Sl → α → V → Prop} {f f1 f2 : Den α} (h1 : PE X e (tX X.K g W Rl f1)) (h2 : PE X e (tX X.K g W Rl f2)) (h : ∀ δ, f δ = f1 δ ∨ f δ = f2 δ) : PE X e (tX X.K g W Rl f) :=
  ⟨fun pins s σ H Q I q => (tX_congr h q).elim (fun q => h1.run pins s σ H Q I q) fun q => h2.run pins s σ H Q I q⟩
theorem oe_or {f f1 f2 : Den D} (h1 : OE X g W e f1) (h2 : OE X g W e f2) (h : ∀ δ, f δ = f1 δ ∨ f δ = f2 δ) : OE X g W e f := pe_or h1 h2 h
theorem ot_or {f f1 f2 : Den Bool} (h1 : OT X g W e f1) (h2 : OT X g W e f2) (h : ∀ δ, f δ = f1 δ ∨ f δ = f2 δ) : OT X g W e f :=
  ⟨fun pins s σ H Q I q => (tX_congr h q).elim (fun q => h1.run pins s σ H Q I q) fun q => h2.run pins s σ H Q I q⟩
theorem os_or {f f1 f2 : Den Fl} (h1 : OS X g W st f1) (h2 : OS X g W st f2) (h : ∀ δ, f δ = f1 δ ∨ f δ = f2 δ) : OS X g W st f :=
  ⟨fun pins s σ H D I ⟨B, δ, E, p⟩ => (h δ).elim (fun q => h1.run pins s σ H D I ⟨B, δ, E, by rw [← q]; exact p⟩) fun q => h2.run pins s σ H D I ⟨B, δ, E, by rw [← q]; exact p⟩⟩
theorem oi_or {f f1 f2 : Den (List D)} (h1 : OI X g W tg e f1) (h2 : OI X g W tg e f2) (h : ∀ δ, f δ = f1 δ ∨ f δ = f2 δ) : OI X g W tg e f :=
  ⟨fun pins s σ H R I ⟨B, δ, E, p⟩ => (h δ).elim (fun q => h1.run pins s σ H R I ⟨B, δ, E, by rw [← q]; exact p⟩) fun q => h2.run pins s σ H R I ⟨B, δ, E, by rw [← q]; exact p⟩⟩
/-- two operations, the first that knows the operands -/
def orF {α β γ : Type} (f1 f2 : α → β → Option γ) (a : α) (b : β) : Option γ := match f1 a b with
  | some z => some z
  | none => f2 a b
theorem dOp_or {f1 f2 : D → D → Option D} {f k : Den D} (δ : List Sl) : dOp (orF f1 f2) f k δ = dOp f1 f k δ ∨ dOp (orF f1 f2) f k δ = dOp f2 f k δ := by
  unfold dOp
  cases f δ with
  | stuck => exact .inl rfl
  | exc c fs δ1 => exact .inl rfl
  | ok x δ1 =>
    show ((k δ1).bind fun y δ2 => _) = ((k δ1).bind fun y δ2 => _) ∨ ((k δ1).bind fun y δ2 => _) = ((k δ1).bind fun y δ2 => _)
    cases k δ1 with
    | stuck => exact .inl rfl
    | exc c fs δ2 => exact .inl rfl
    | ok y δ2 =>
      show Res.lift (orF f1 f2 x y) δ2 = Res.lift (f1 x y) δ2 ∨ Res.lift (orF f1 f2 x y) δ2 = Res.lift (f2 x y) δ2
      unfold orF
      cases f1 x y with
      | some z => exact .inl rfl
      | none => exact .inr rfl
/-- the same for one argument list -/
def orL {α γ : Type} (f1 f2 : α → Option γ) (a : α) : Option γ := match f1 a with
  | some z => some z
  | none => f2 a
theorem dB_or {f1 f2 : List D → Option D} {fs : Den (List D)} (δ : List Sl) : dB (orL f1 f2) fs δ = dB f1 fs δ ∨ dB (orL f1 f2) fs δ = dB f2 fs δ := by
  unfold dB
  cases fs δ with
  | stuck => exact .inl rfl
  | exc c fs δ1 => exact .inl rfl
  | ok x δ1 =>
    show Res.lift (orL f1 f2 x) δ1 = Res.lift (f1 x) δ1 ∨ Res.lift (orL f1 f2 x) δ1 = Res.lift (f2 x) δ1
    unfold orL
    cases f1 x with
    | some z => exact .inl rfl
    | none => exact .inr rfl
/-! what is new or data, as a call's value -/
def dRvN (f : Den O) : Den Rv := fun δ => (f δ).bind fun o δ1 => .ok (.new o) δ1
def dRvD (f : Den D) : Den Rv := fun δ => (f δ).bind fun d δ1 => .ok (.dat d) δ1
theorem oc_n {fo : Den O} (h : ON X g W e fo) : OC X g W e (dRvN fo) :=
  pe_imp h fun σ H Q ⟨B, δ, E, p⟩ => ⟨B, δ, E, p.bind.mono fun B1 H1 δ1 o E1 S1 p1 v rv => p1 B1 H1 E1 .refl v rv⟩
theorem oc_d {f : Den D} (h : OE X g W e f) : OC X g W e (dRvD f) :=
  pe_imp h fun σ H Q ⟨B, δ, E, p⟩ => ⟨B, δ, E, p.bind.mono fun B1 H1 δ1 o E1 S1 p1 v rv => p1 B1 H1 E1 .refl v rv⟩
end
/-! methods of what is owned -/
def OkM (K : PySem.W.Frag) (r : V → List V → Hp → VK → Prop) (op : O → List D → Option (O × D)) : Prop := ∀ (B H : Hp) (o o' : O) (a : Addr) (ds : List D) (xs : List V) (d : D) (Q : VK), ORep K B H o a → Le B H → RepL K B ds xs → op o ds = some (o', d) →
  (∀ u v, ORep K B (upd H a u) o' a → Rep K B d v → Q v (upd H a u)) → r (.ref a) xs H Q
def isLst : O → Bool
  | .lst _ => true
  | .dct _ => false
def isDct : O → Bool
  | .lst _ => false
  | .dct _ => true
def TyO (K : PySem.W.Frag) (T : String) (isT : O → Bool) : Prop := ∀ (B H : Hp) (o : O) (a : Addr), isT o = true → ORep K B H o a → tyV K T (.ref a) H
theorem tyO_list {K : PySem.W.Frag} : TyO K "list" isLst := fun B H o a h r => by
  cases o with
  | lst xs =>
    obtain ⟨vs, h1, _⟩ := r
    exact .inl ⟨rfl, _, SqL.of h1⟩
  | dct kvs => cases h
theorem tyO_dict {K : PySem.W.Frag} : TyO K "dict" isDct := fun B H o a h r => by
  cases o with
  | lst xs => cases h
  | dct kvs =>
    obtain ⟨vs, h1, _⟩ := r
    exact .inr (.inr (.inl ⟨rfl, .inl ⟨_, h1⟩⟩))
def dMeth (isT : O → Bool) (op : O → List D → Option (O × D)) (i : Nat) (fs : Den (List D)) : Den D := fun δ => match δ[i]? with
  | some (.own _ o) => (match isT o with
    | true => (fs δ).bind fun ds δ1 => (match δ1[i]? with
      | some (.own b o1) => (match op o1 ds with
        | some (o2, d) => .ok d (δ1.set i (.own b o2))
        | none => .stuck)
      | _ => .stuck)
    | false => .stuck)
  | _ => .stuck
section
variable {X : Cx} {g : G} {W : WX} {e : Expr} {es : List Expr} {fs : Den (List D)} {x : Str} {px apos cpos pos : Pos} {name : Str} {T id : String} {r : V → List V → Hp → VK → Prop} {op : O → List D → Option (O × D)} {isT : O → Bool}
theorem meth_of (hr : OkM X.K r op) (ht : TyO X.K T isT) (i : Nat) (σ : St) (H : Hp) (Q : VK) (h : tX X.K g W (RlD X.K) (dMeth isT op i fs) σ H Q) : tBM X.K T r (tVar i) (tX X.K g W (RlA X.K) fs) σ H Q := by
  obtain ⟨B, δ, E, p⟩ := h
  unfold dMeth at p
  split at p
  · rename_i b0 o0 h0
    obtain ⟨a0, e0, n0, r0⟩ := E.owned h0
    split at p
    · rename_i hT
      refine ⟨.ref a0, e0, ht B H o0 a0 hT r0, B, δ, E, p.bind.mono fun B1 H1 δ1 ds E1 S1 p1 xs rv => ?_⟩
      split at p1
      · rename_i b1 o1 h1
        obtain ⟨a1, e1, n1, r1⟩ := E1.owned h1
        rw [e0] at e1
        cases e1
        split at p1
        · rename_i o2 d h2
          refine hr B1 H1 o1 o2 a0 ds xs d Q r1 E1.le rv h2 fun u v ru rd => ?_
          have hw := E1.write (o' := o2) (u := u) h1 e0 ru
          exact p1 B1 _ hw.1 hw.2 v rd
        · exact False.elim p1
      · exact False.elim p1
    · exact False.elim p
  · exact False.elim p
theorem o_meth (i : Nat) (pa : PlainAttrs T) (slot : Slot T name id) (hty : typeOf (.builtin id) = pure (.type "method_descriptor")) (hm : MtR X id r) (hr : OkM X.K r op) (ht : TyO X.K T isT) (ha : OA X g W (e :: es) fs)
    (hN : X.N[i]? = some x := by rfl) (hv : Vis X.env.scope x := by first | exact Or.inl rfl | exact Or.inr (Or.inl rfl) | exact Or.inr (Or.inr rfl)) (hd : (x == ("__debug__" : Str)) = false := by decide)
    (hcd : (x == ("__classdict__" : Str)) = false := by decide) (hbase : attributeBase (.Name x px) name X.env (eval (.Name x px) X.env) = eval (.Name x px) X.env := by rfl)
    (hfew : ((backTo cpos (starEach (e :: es) X.env)).all (fun x => !x.1) && (backToKw cpos (keywordEach [] X.env)).all (fun x => x.1.isSome)
      && decide ((e :: es).length + ([] : List Keyword).length + (if ([] : List Keyword).isEmpty then 0 else 1) < 30)) = true := by rfl)
    (hline : (apos.endLine == cpos.line) = true := by rfl) (hs : starEach (e :: es) X.env = (false, eval e X.env) :: starEach es X.env := by rfl) (hplain : (backTo cpos (starEach es X.env)).any (·.1) = false := by rfl) :
    OE X g W (.Call (.Attribute (.Name x px) name apos) (e :: es) [] cpos) (dMeth isT op i fs) :=
  pe_imp (pe_bm pa slot hty hm (pe_var hN hv hd hcd) ha hbase hfew hline hs hplain) fun σ H Q h => meth_of hr ht i σ H Q h
theorem o_meth0 (i : Nat) (pa : PlainAttrs T) (slot : Slot T name id) (hty : typeOf (.builtin id) = pure (.type "method_descriptor")) (hm : MtR X id r) (hr : OkM X.K r op) (ht : TyO X.K T isT)
    (hN : X.N[i]? = some x := by rfl) (hv : Vis X.env.scope x := by first | exact Or.inl rfl | exact Or.inr (Or.inl rfl) | exact Or.inr (Or.inr rfl)) (hd : (x == ("__debug__" : Str)) = false := by decide)
    (hcd : (x == ("__classdict__" : Str)) = false := by decide) (hbase : attributeBase (.Name x px) name X.env (eval (.Name x px) X.env) = eval (.Name x px) X.env := by rfl)
    (hline : (apos.endLine == cpos.line) = true := by rfl) :
    OE X g W (.Call (.Attribute (.Name x px) name apos) [] [] cpos) (dMeth isT op i dNil) :=
  pe_imp (pe_bm0 pa slot hty hm (pe_var hN hv hd hcd) hbase hline) fun σ H Q h => by
    obtain ⟨v, h1, h2, B, δ, E, p⟩ := meth_of hr ht i σ H Q h
    exact ⟨v, h1, h2, p B H E .refl [] rfl⟩
end
/-! lists: pop(), pop(i), insert(i, y), extend(ys), append(y) -/
def popO : O → List D → Option (O × D)
  | .lst xs, [] => (xs[xs.length - 1]?).map fun d => (.lst xs.dropLast, d)
  | _, _ => none
theorem ok_pop {K : PySem.W.Frag} : OkM K rPop popO := fun B H o o' a ds xs d Q r le rl h q => by
  cases o with
  | dct kvs => cases h
  | lst ys =>
    cases ds with
    | cons _ _ => cases h
    | nil =>
      cases (show xs = [] from rl)
      obtain ⟨vs, h1, h2⟩ := r
      cases z : ys[ys.length - 1]? with
      | none =>
        rw [show popO (.lst ys) [] = (ys[ys.length - 1]?).map fun d => (O.lst ys.dropLast, d) from rfl, z] at h
        cases h
      | some y =>
        rw [show popO (.lst ys) [] = (ys[ys.length - 1]?).map fun d => (O.lst ys.dropLast, d) from rfl, z] at h
        cases h
        obtain ⟨v, h3, h4⟩ := h2.get z
        refine ⟨a, vs, v, rfl, rfl, h1, by rw [h2.length]; exact h3, q _ v ⟨_, upd_same, h2.dropLast⟩ h4⟩
def ixP (n : Nat) (i : Int) : Option Nat := if 0 ≤ i ∧ i < n then some i.toNat else none
def popAtO : O → List D → Option (O × D)
  | .lst xs, [.int i] => if 0 ≤ i ∧ i < xs.length ∧ xs.length ≤ 100000 then (xs[i.toNat]?).map fun d => (.lst (xs.eraseIdx i.toNat), d) else none
  | _, _ => none
theorem RepL.eraseIdx {K : PySem.W.Frag} {B : Hp} : ∀ {ds : List D} {vs : List V} (n : Nat), RepL K B ds vs → RepL K B (ds.eraseIdx n) (vs.eraseIdx n)
  | [], _, n, h => by
    rw [show _ = [] from h]
    rfl
  | d :: ds, _, 0, h => by
    obtain ⟨v, r, rfl, h2, h3⟩ := h
    exact h3
  | d :: ds, _, n + 1, h => by
    obtain ⟨v, r, rfl, h2, h3⟩ := h
    exact ⟨v, _, rfl, h2, RepL.eraseIdx n h3⟩
theorem ok_popAt {K : PySem.W.Frag} : OkM K rPopAt popAtO := fun B H o o' a ds xs d Q r le rl h q => by
  cases o with
  | dct kvs => cases h
  | lst ys =>
    match ds, h with
    | [.int i], h =>
      obtain ⟨v, w, rfl, h1, h2⟩ := rl
      cases (show v = .int i from h1)
      cases (show w = [] from h2)
      obtain ⟨vs, h3, h4⟩ := r
      have h : (if 0 ≤ i ∧ i < ys.length ∧ ys.length ≤ 100000 then (ys[i.toNat]?).map fun d => (O.lst (ys.eraseIdx i.toNat), d) else none) = some (o', d) := h
      split at h
      · rename_i c
        cases z : ys[i.toNat]? with
        | none =>
          rw [z] at h
          cases h
        | some y =>
          rw [z] at h
          cases h
          obtain ⟨v, h5, h6⟩ := h4.get z
          refine ⟨a, vs, i, i.toNat, v, rfl, rfl, h3, by omega, by omega, ?_, h5, q _ v ⟨_, upd_same, h4.eraseIdx _⟩ h6⟩
          unfold seqIndex?
          rw [h4.length]
          simp only []
          have e1 : ¬ i < 0 := by omega
          simp [e1, c.2.1, c.1]
      · cases h
def insertO : O → List D → Option (O × D)
  | .lst xs, [.int i, y] => if 0 ≤ i ∧ i < 2 ^ 63 ∧ xs.length < 100000 then some (.lst (xs.take i.toNat ++ [y] ++ xs.drop i.toNat), .non) else none
  | _, _ => none
abbrev rInsert : V → List V → Hp → VK → Prop := fun x vs H Q => ∃ (l : Addr) (xs : List V) (i : Int) (y : V), x = .ref l ∧ vs = [.int i, y] ∧ H l = some (.lst xs) ∧ xs.length < sizeLine ∧ 0 ≤ i ∧ i < 2 ^ 63 ∧
    Q .non (upd H l (.lst (xs.take i.toNat ++ [y] ++ xs.drop i.toNat)))
theorem ok_insert {K : PySem.W.Frag} : OkM K rInsert insertO := fun B H o o' a ds xs d Q r le rl h q => by
  cases o with
  | dct kvs => cases h
  | lst ys =>
    match ds, h with
    | [.int i, y], h =>
      obtain ⟨v, w, rfl, h1, h2⟩ := rl
      cases (show v = .int i from h1)
      obtain ⟨v, w', rfl, h5, h6⟩ := h2
      cases (show w' = [] from h6)
      obtain ⟨vs, h3, h4⟩ := r
      have h : (if 0 ≤ i ∧ i < 2 ^ 63 ∧ ys.length < 100000 then some (O.lst (ys.take i.toNat ++ [y] ++ ys.drop i.toNat), D.non) else none) = some (o', d) := h
      split at h
      · rename_i c
        cases h
        exact ⟨a, vs, i, v, rfl, rfl, h3, by rw [h4.length]; exact Nat.lt_of_lt_of_le c.2.2 (by decide), c.1, c.2.1, q _ .non ⟨_, upd_same, ((h4.take _).append (RepL.cons h5 RepL.nil)).append (h4.drop _)⟩ rfl⟩
      · cases h
def extendO : O → List D → Option (O × D)
  | .lst xs, [.lst ys] => if xs.length + ys.length ≤ 100000 then some (.lst (xs ++ ys), .non) else none
  | _, _ => none
theorem ok_extend {K : PySem.W.Frag} : OkM K rExtend extendO := fun B H o o' a ds xs d Q r le rl h q => by
  cases o with
  | dct kvs => cases h
  | lst ys =>
    match ds, h with
    | [.lst zs], h =>
      obtain ⟨v, w, rfl, h1, h2⟩ := rl
      cases (show w = [] from h2)
      obtain ⟨b, ws, rfl, h5, h6⟩ := h1
      obtain ⟨vs, h3, h4⟩ := r
      have h : (if ys.length + zs.length ≤ 100000 then some (O.lst (ys ++ zs), D.non) else none) = some (o', d) := h
      split at h
      · rename_i c
        cases h
        exact ⟨a, b, vs, ws, rfl, rfl, h3, le _ _ h5, by rw [h4.length, h6.length]; exact Nat.le_trans c (by decide), q _ .non ⟨_, upd_same, h4.append h6⟩ rfl⟩
      · cases h
end VS
end

section
set_option Elab.async false
set_option linter.all false
set_option maxRecDepth 100000
/-! VT, part 2: dicts whose keys are numbers and texts. -/
namespace VS
open PySem PySem.Spec PyProof.Rows L2
def keyD : D → Option Key
  | .int i => some (.inl i)
  | .str x => some (.inr x)
  | _ => none
theorem Rep.key {K : PySem.W.Frag} {B : Hp} {d : D} {k : Key} {v : V} (h : Rep K B d v) (e : keyD d = some k) : v = kV k := by
  cases d with
  | int i => cases e; exact h
  | str x => cases e; exact h
  | _ => cases e
def kD : Key → D
  | .inl i => .int i
  | .inr x => .str x
theorem rep_kD {K : PySem.W.Frag} {B : Hp} (k : Key) : Rep K B (kD k) (kV k) := by cases k <;> rfl
def dVal {α : Type} (kvs : List (Key × α)) (k : Key) : Option α := (kvs.find? fun kv => decide (kv.1 = k)).map (·.2)
def dPut {α : Type} (kvs : List (Key × α)) (k : Key) (v : α) : List (Key × α) :=
  if (kvs.any fun kv => decide (kv.1 = k)) = true then kvs.map (fun kv => if kv.1 = k then (kv.1, v) else kv) else kvs ++ [(k, v)]
def dDel {α : Type} (kvs : List (Key × α)) (k : Key) : List (Key × α) := kvs.filter fun kv => decide (kv.1 ≠ k)
def dMrg {α : Type} (kvs more : List (Key × α)) : List (Key × α) := more.foldl (fun acc kv => dPut acc kv.1 kv.2) kvs
section
variable {K : PySem.W.Frag} {B : Hp}
theorem RepK.length : ∀ {kvs : List (Key × D)} {kws : List (Key × V)}, RepK K B kvs kws → kws.length = kvs.length
  | [], _, h => by rw [show _ = [] from h]; rfl
  | (k, d) :: r, _, h => by
    obtain ⟨v, r', rfl, h2, h3⟩ := h
    simp only [List.length_cons, RepK.length h3]
theorem RepK.keys : ∀ {kvs : List (Key × D)} {kws : List (Key × V)}, RepK K B kvs kws → kws.map (·.1) = kvs.map (·.1)
  | [], _, h => by rw [show _ = [] from h]; rfl
  | (k, d) :: r, _, h => by
    obtain ⟨v, r', rfl, h2, h3⟩ := h
    simp only [List.map_cons, RepK.keys h3]
theorem RepK.val (k : Key) : ∀ {kvs : List (Key × D)} {kws : List (Key × V)}, RepK K B kvs kws → (dVal kvs k = none ∧ valV kws k = none) ∨ ∃ d v, dVal kvs k = some d ∧ valV kws k = some v ∧ Rep K B d v
  | [], _, h => by rw [show _ = [] from h]; exact .inl ⟨rfl, rfl⟩
  | (j, d) :: r, _, h => by
    obtain ⟨v, r', rfl, h2, h3⟩ := h
    by_cases e : j = k
    · refine .inr ⟨d, v, ?_, ?_, h2⟩
      · unfold dVal
        rw [List.find?_cons_of_pos (by simpa using e)]
        rfl
      · exact valV_pos e
    · have e1 : dVal ((j, d) :: r) k = dVal r k := by
        unfold dVal
        rw [List.find?_cons_of_neg (by simpa using e)]
      have e2 : valV ((j, v) :: r') k = valV r' k := valV_neg e
      rw [e1, e2]
      exact RepK.val k h3
theorem any_keys {α : Type} (k : Key) (l : List (Key × α)) : (l.any fun kv => decide (kv.1 = k)) = (l.map (·.1)).any fun j => decide (j = k) := by
  rw [List.any_map]
  rfl
theorem RepK.any (k : Key) {kvs : List (Key × D)} {kws : List (Key × V)} (h : RepK K B kvs kws) : (kws.any fun kv => decide (kv.1 = k)) = kvs.any fun kv => decide (kv.1 = k) := by
  rw [any_keys, any_keys, h.keys]
theorem RepK.append : ∀ {kvs kvs2 : List (Key × D)} {kws kws2 : List (Key × V)}, RepK K B kvs kws → RepK K B kvs2 kws2 → RepK K B (kvs ++ kvs2) (kws ++ kws2)
  | [], _, _, _, h, t => by rw [show _ = [] from h]; exact t
  | (k, d) :: r, _, _, _, h, t => by
    obtain ⟨v, r', rfl, h2, h3⟩ := h
    exact ⟨v, _, rfl, h2, RepK.append h3 t⟩
theorem RepK.repl (k : Key) {d : D} {v : V} (q : Rep K B d v) : ∀ {kvs : List (Key × D)} {kws : List (Key × V)}, RepK K B kvs kws → RepK K B (kvs.map fun kv => if kv.1 = k then (kv.1, d) else kv) (kws.map fun kv => if kv.1 = k then (kv.1, v) else kv)
  | [], _, h => by rw [show _ = [] from h]; rfl
  | (j, e) :: r, _, h => by
    obtain ⟨w, r', rfl, h2, h3⟩ := h
    simp only [List.map_cons]
    by_cases z : j = k
    · rw [if_pos z, if_pos z]
      exact ⟨v, _, rfl, q, RepK.repl k q h3⟩
    · rw [if_neg z, if_neg z]
      exact ⟨w, _, rfl, h2, RepK.repl k q h3⟩
theorem RepK.put (k : Key) {d : D} {v : V} (q : Rep K B d v) {kvs : List (Key × D)} {kws : List (Key × V)} (h : RepK K B kvs kws) : RepK K B (dPut kvs k d) (putK kws k v) := by
  unfold dPut putK
  rw [h.any k]
  split
  · exact h.repl k q
  · exact h.append ⟨v, [], rfl, q, rfl⟩
theorem RepK.drop (k : Key) : ∀ {kvs : List (Key × D)} {kws : List (Key × V)}, RepK K B kvs kws → RepK K B (dDel kvs k) (dropK kws k)
  | [], _, h => by rw [show _ = [] from h]; rfl
  | (j, e) :: r, _, h => by
    obtain ⟨w, r', rfl, h2, h3⟩ := h
    unfold dDel dropK
    by_cases z : j = k
    · rw [List.filter_cons_of_neg (by simpa using z), List.filter_cons_of_neg (by simpa using z)]
      exact RepK.drop k h3
    · rw [List.filter_cons_of_pos (by simpa using z), List.filter_cons_of_pos (by simpa using z)]
      exact ⟨w, _, rfl, h2, RepK.drop k h3⟩
theorem RepK.merge : ∀ {more : List (Key × D)} {rs : List (Key × V)} {kvs : List (Key × D)} {kws : List (Key × V)}, RepK K B more rs → RepK K B kvs kws → RepK K B (dMrg kvs more) (mergeK kws rs)
  | [], _, _, _, h, t => by rw [show _ = [] from h]; exact t
  | (k, d) :: r, _, kvs, kws, h, t => by
    obtain ⟨v, r', rfl, h2, h3⟩ := h
    exact RepK.merge (kvs := dPut kvs k d) (kws := putK kws k v) h3 (t.put k h2)
end
def viewK (s : Option Sl) : Option (List (Key × D)) := match s with
  | some (.dat (.dct xs)) => some xs
  | some (.own _ (.dct xs)) => some xs
  | _ => none
section
variable {K : PySem.W.Frag} {g : G} {B H : Hp} {σ : St} {δ : List Sl}
theorem EnvOk.viewK (E : EnvOk K g B H σ δ) {i : Nat} {xs : List (Key × D)} (h : viewK δ[i]? = some xs) : ∃ p vs, σ[i]? = some (some (.ref p)) ∧ Rd H p (.dK vs) ∧ RepK K B xs vs := by
  cases q : δ[i]? with
  | none =>
    rw [q] at h
    cases h
  | some s =>
    rw [q] at h
    cases s with
    | un => cases h
    | exc c fs => cases h
    | dat d =>
      cases d with
      | dct ys =>
        cases h
        obtain ⟨v, e1, p, vs, rfl, ⟨o, h2⟩, r2⟩ := E.slot q
        exact ⟨p, vs, e1, .inr ⟨o, E.le _ _ h2⟩, r2⟩
      | _ => cases h
    | own b o =>
      cases o with
      | lst ys => cases h
      | dct ys =>
        cases h
        obtain ⟨p, e1, n, vs, h2, r2⟩ := E.owned q
        exact ⟨p, vs, e1, .inl h2, r2⟩
end
/-! displays -/
def nDct0 : Den O := fun δ => .ok (.dct []) δ
def dPairs : List (Den D × Den D) → Den (List (D × D))
  | [], δ => .ok [] δ
  | (fk, fv) :: r, δ => (fk δ).bind fun x δ1 => (fv δ1).bind fun y δ2 => (dPairs r δ2).bind fun ps δ3 => .ok ((x, y) :: ps) δ3
def keysD : List (D × D) → Option (List (Key × D))
  | [] => some []
  | (x, y) :: r => match keyD x, keysD r with
    | some k, some kvs => some ((k, y) :: kvs)
    | _, _ => none
def nDct (l : List (Den D × Den D)) : Den O := fun δ => (dPairs l δ).bind fun ps δ1 => match keysD ps with
  | some kvs => (match decide (kvs.length ≤ 15) with
    | true => .ok (.dct (dMrg [] kvs)) δ1
    | false => .stuck)
  | none => .stuck
/-- pairs: what they stand for -/
def RepP (K : PySem.W.Frag) (B : Hp) : List (D × D) → List (V × V) → Prop
  | [], vs => vs = []
  | (x, y) :: r, vs => ∃ v w r', vs = (v, w) :: r' ∧ Rep K B x v ∧ Rep K B y w ∧ RepP K B r r'
section
variable {K : PySem.W.Frag} {g : G} {W : WX}
theorem tPairs_of : ∀ (l : List (Den D × Den D)) {B H : Hp} {σ : St} {δ : List Sl} {Q : List (V × V) → Hp → Prop}, EnvOk K g B H σ δ →
    Post K g W B H σ δ (dPairs l δ) (fun B' H' δ' ps => ∀ vs, RepP K B' ps vs → Q vs H') → tPairs (l.map fun p => (tX K g W (RlD K) p.1, tX K g W (RlD K) p.2)) σ H Q
  | [], B, H, σ, δ, Q, E, p => p B H E .refl [] rfl
  | (fk, fv) :: r, B, H, σ, δ, Q, E, p => by
    refine ⟨B, δ, E, p.bind.mono fun B1 H1 δ1 x E1 S1 p1 v rv => ⟨B1, δ1, E1, p1.bind.mono fun B2 H2 δ2 y E2 S2 p2 w rw' => ?_⟩⟩
    refine tPairs_of r E2 (p2.bind.mono fun B3 H3 δ3 ps E3 S3 p3 vs rp => ?_)
    exact p3 B3 H3 E3 .refl _ ⟨v, w, vs, rfl, (rv.mono S2.b).mono S3.b, rw'.mono S3.b, rp⟩
theorem keysD_rep {B : Hp} : ∀ {ps : List (D × D)} {kvs : List (Key × D)} {vs : List (V × V)}, keysD ps = some kvs → RepP K B ps vs → ∃ kws : List (Key × V), RepK K B kvs kws ∧ vs = kws.map fun kv => (kV kv.1, kv.2)
  | [], _, _, h, r => by
    cases h
    exact ⟨[], rfl, r⟩
  | (x, y) :: ps, _, _, h, r => by
    obtain ⟨v, w, r', rfl, h1, h2, h3⟩ := r
    unfold keysD at h
    split at h
    · rename_i k kvs e1 e2
      cases h
      obtain ⟨kws, h4, rfl⟩ := keysD_rep e2 h3
      refine ⟨(k, w) :: kws, ⟨w, kws, rfl, h2, h4⟩, ?_⟩
      rw [h1.key e1]
      rfl
    · cases h
end
section
variable {X : Cx} {g : G} {W : WX} {a b e f' : Expr} {f k u : Den D} {x : Str} {px pos : Pos}
theorem on_dct0 : ON X g W (.Dict [] [] pos) nDct0 := by
  refine pe_imp pe_dnewK fun σ H Q ⟨B, δ, E, p⟩ => fun a ha => ?_
  exact p _ _ (E.allocN _ ha) (Stp.allocN ha) _ ⟨a, rfl, le_none E.le ha, ⟨[], upd_same, rfl⟩, E.notOw ha, .inl ha⟩
theorem on_dct {keys : List (Option Expr)} {values : List Expr} {l : List (Den D × Den D)} (h : PPs X pos keys values (l.map fun p => (tX X.K g W (RlD X.K) p.1, tX X.K g W (RlD X.K) p.2))) (hall : keys.all (·.isSome) = true := by rfl) (hl : keys.length = values.length := by rfl)
    (h0 : keys ≠ [] := by simp) (h15 : keys.length ≤ 15 := by decide) : ON X g W (.Dict keys values pos) (nDct l) := by
  refine pe_imp (pe_disp h hall hl h0 h15) fun σ H Q ⟨B, δ, E, p⟩ => fun a ha => ?_
  have E0 := E.allocN (.dK []) ha
  have S0 : Stp B H σ δ B (upd H a (.dK [])) σ δ := Stp.allocN ha
  have q : Post X.K g W B (upd H a (.dK [])) σ δ (dPairs l δ) (fun B1 H1 δ1 ps => Post X.K g W B H σ δ (match keysD ps with
      | some kvs => (match decide (kvs.length ≤ 15) with
        | true => Res.ok (O.dct (dMrg [] kvs)) δ1
        | false => .stuck)
      | none => .stuck) (fun B' H' δ' o => ∀ v, RlN X.K H σ δ B' H' δ' o v → Q v H')) := by
    unfold nDct Res.bind at p
    unfold Post at p ⊢
    revert p
    cases dPairs l δ with
    | stuck => exact id
    | ok o δ' => exact fun p B' H' E' S' => p
    | exc c fs δ' => exact fun p B' H' C d E' S' r => p B' H' C d E' (S0.trans S') r
  refine tPairs_of l E0 (q.mono fun B1 H1 δ1 ps E1 S1 p1 vs rp => ?_)
  have n0 : ¬ Ow σ δ a := E.notOw ha
  have hp : H1 a = some (.dK []) := S1.fr a _ upd_same n0
  have nB1 : B1 a = none := by
    cases z : B1 a with
    | none => rfl
    | some w =>
      rcases S1.nb a w z (le_none E.le ha) with h | h
      · rw [upd_same] at h
        cases h
      · exact absurd h n0
  have n1 : ¬ Ow σ δ1 a := fun w => by
    rcases S1.ow a w with h | h
    · exact n0 h
    · rw [upd_same] at h
      cases h
  refine ⟨hp, ?_⟩
  cases hk : keysD ps with
  | none =>
    rw [hk] at p1
    exact False.elim p1
  | some kvs =>
    rw [hk] at p1
    cases hz : decide (kvs.length ≤ 15) with
    | false =>
      simp only [hz] at p1
      exact False.elim p1
    | true =>
      simp only [hz] at p1
      obtain ⟨kws, r1, r2⟩ := keysD_rep hk rp
      refine ⟨kws, r2, by rw [r1.length]; exact of_decide_eq_true hz, ?_⟩
      have hrep : ORep X.K B1 (upd H1 a (.dK (mergeK [] kws))) (.dct (dMrg [] kvs)) a := ⟨_, upd_same, r1.merge (show RepK X.K B1 [] [] from rfl)⟩
      exact p1 B1 _ (E1.touch _ nB1 n1) ((S0.trans S1).touch _ ha) _ ⟨a, rfl, nB1, hrep, n1, .inl ha⟩
end
end VS
end

section
set_option Elab.async false
set_option linter.all false
set_option maxRecDepth 100000
/-! VT, part 3: dicts read and written. -/
namespace VS
open PySem PySem.Spec PyProof.Rows L2
/-! d[k] -/
def ixK : D → D → Option D
  | .dct kvs, y => match keyD y with
    | some k => dVal kvs k
    | none => none
  | _, _ => none
def ixD : D → D → Option D
  | .lst xs, .int i => atI xs i
  | .tup xs, .int i => atI xs i
  | .rol xs, .int i => atI xs i
  | .str z, .int i => if z.length ≤ 100000 then (atI z.cps.toList i).map chD else none
  | .dct kvs, y => match keyD y with
    | some k => dVal kvs k
    | none => none
  | _, _ => none
theorem ixD_two (x y : D) : ixD x y = ixD0 x y ∨ ixD x y = ixK x y := by
  cases x <;> first | exact .inr rfl | (cases y <;> first | exact .inl rfl | exact .inr rfl)
theorem dOp_two {f0 f1 f2 : D → D → Option D} (h : ∀ x y, f0 x y = f1 x y ∨ f0 x y = f2 x y) {f k : Den D} (δ : List Sl) : dOp f0 f k δ = dOp f1 f k δ ∨ dOp f0 f k δ = dOp f2 f k δ := by
  unfold dOp
  cases f δ with
  | stuck => exact .inl rfl
  | exc c fs δ1 => exact .inl rfl
  | ok x δ1 =>
    show ((k δ1).bind fun y δ2 => _) = ((k δ1).bind fun y δ2 => _) ∨ ((k δ1).bind fun y δ2 => _) = ((k δ1).bind fun y δ2 => _)
    cases k δ1 with
    | stuck => exact .inl rfl
    | exc c fs δ2 => exact .inl rfl
    | ok y δ2 =>
      show Res.lift (f0 x y) δ2 = Res.lift (f1 x y) δ2 ∨ Res.lift (f0 x y) δ2 = Res.lift (f2 x y) δ2
      rcases h x y with e | e
      · exact .inl (by rw [e])
      · exact .inr (by rw [e])
theorem dB_two {f0 f1 f2 : List D → Option D} (h : ∀ x, f0 x = f1 x ∨ f0 x = f2 x) {fs : Den (List D)} (δ : List Sl) : dB f0 fs δ = dB f1 fs δ ∨ dB f0 fs δ = dB f2 fs δ := by
  unfold dB
  cases fs δ with
  | stuck => exact .inl rfl
  | exc c fs δ1 => exact .inl rfl
  | ok x δ1 =>
    show Res.lift (f0 x) δ1 = Res.lift (f1 x) δ1 ∨ Res.lift (f0 x) δ1 = Res.lift (f2 x) δ1
    rcases h x with e | e
    · exact .inl (by rw [e])
    · exact .inr (by rw [e])
theorem Rd.le {B H : Hp} (le : Le B H) {a : Addr} {u : HO} (h : ∃ o, B a = some (.frz o u)) : Rd H a u := by
  obtain ⟨o, h⟩ := h
  exact .inr ⟨o, le _ _ h⟩
abbrev rDGet : R2 := fun x y H Q => ∃ a v, x = .ref a ∧ DGet H a y (some v) ∧ Q v H
theorem ok_ixK {K : PySem.W.Frag} : Ok2 K rDGet ixK := by
  intro g B H σ δ x y d e z Q E rx ry h q
  cases d with
  | dct kvs =>
    cases hk : keyD e with
    | none => simp only [ixK, hk] at h; cases h
    | some k =>
      simp only [ixK, hk] at h
      obtain ⟨a, kws, rfl, hB, r⟩ := rx
      rcases r.val k with ⟨h1, _⟩ | ⟨d', v, h1, h2, h3⟩
      · rw [h1] at h
        cases h
      · rw [h1] at h
        cases h
        exact ⟨a, v, rfl, .inl ⟨kws, k, Rd.le E.le hB, ry.key hk, h2.symm⟩, q B H v E .refl h3⟩
  | _ => cases h
section
variable {X : Cx} {g : G} {W : WX} {a b e : Expr} {f k u : Den D} {x : Str} {px pos : Pos}
theorem o_ix (hu : X.A.units + 64 < cLine) (ha : OE X g W a f) (hb : OE X g W b k) (hs : PlainIx b := by intro _ _; rfl) : OE X g W (.Subscript a b pos) (dOp ixD f k) :=
  oe_or (o_ix0 ha hb hs) (pe_imp (pe_dget (by omega) ha hb hs) fun σ H Q h => tOp_of ok_ixK σ H Q h) fun δ => dOp_two ixD_two δ
/-- x[k], x a dict that may be owned -/
def dIxK (i : Nat) (k : Den D) : Den D := fun δ => match viewK δ[i]? with
  | some _ => (k δ).bind fun y δ1 => match viewK δ1[i]?, keyD y with
    | some kvs, some j => .lift (dVal kvs j) δ1
    | _, _ => .stuck
  | none => .stuck
theorem o_ixK (hu : X.A.units + 64 < cLine) (i : Nat) (hb : OE X g W b k) (hs : PlainIx b := by intro _ _; rfl) (hN : X.N[i]? = some x := by rfl) (hv : Vis X.env.scope x := by first | exact Or.inl rfl | exact Or.inr (Or.inl rfl) | exact Or.inr (Or.inr rfl)) (hd : (x == ("__debug__" : Str)) = false := by decide)
    (hcd : (x == ("__classdict__" : Str)) = false := by decide) : OE X g W (.Subscript (.Name x px) b pos) (dIxK i k) := by
  refine pe_imp (pe_dget (by omega) (pe_var hN hv hd hcd) hb hs) fun σ H Q ⟨B, δ, E, p⟩ => ?_
  unfold dIxK at p
  split at p
  · rename_i xs0 h0
    obtain ⟨a0, vs0, e0, _, _⟩ := E.viewK h0
    refine ⟨_, e0, B, δ, E, p.bind.mono fun B1 H1 δ1 y E1 S1 p1 v rv => ?_⟩
    split at p1
    · rename_i kvs j h1 hk
      obtain ⟨z, hz, q⟩ := p1.lift
      obtain ⟨a1, vs1, e1, m1, r1⟩ := E1.viewK h1
      rw [e0] at e1
      cases e1
      rcases r1.val j with ⟨h2, _⟩ | ⟨d', w, h2, h3, h4⟩
      · rw [h2] at hz
        cases hz
      · rw [h2] at hz
        cases hz
        exact ⟨a0, w, rfl, .inl ⟨vs1, j, m1, rv.key hk, h3.symm⟩, q B1 H1 E1 .refl w h4⟩
    · exact False.elim p1
  · exact False.elim p
/-- x[k], x a list or a dict -/
def dIxA (i : Nat) (k : Den D) : Den D := fun δ => match viewK δ[i]? with
  | some _ => dIxK i k δ
  | none => dIxS i k δ
theorem o_ixA (hu : X.A.units + 64 < cLine) (i : Nat) (hb : OE X g W b k) (hs : PlainIx b := by intro _ _; rfl) (hN : X.N[i]? = some x := by rfl) (hv : Vis X.env.scope x := by first | exact Or.inl rfl | exact Or.inr (Or.inl rfl) | exact Or.inr (Or.inr rfl)) (hd : (x == ("__debug__" : Str)) = false := by decide)
    (hcd : (x == ("__classdict__" : Str)) = false := by decide) : OE X g W (.Subscript (.Name x px) b pos) (dIxA i k) :=
  oe_or (o_ixK hu i hb hs hN hv hd hcd) (o_ixS i hb hs hN hv hd hcd) fun δ => by
    unfold dIxA
    split
    · exact .inl rfl
    · exact .inr rfl
/-! d.get(k), d.get(k, x) -/
def dGet1 (f k : Den D) : Den D := fun δ => (f δ).bind fun x δ1 => match x with
  | .dct kvs => (k δ1).bind fun y δ2 => match keyD y with
    | some j => .ok ((dVal kvs j).getD .non) δ2
    | none => .stuck
  | _ => .stuck
def dGet2 (f k l : Den D) : Den D := fun δ => (f δ).bind fun x δ1 => match x with
  | .dct kvs => (k δ1).bind fun y δ2 => (l δ2).bind fun z δ3 => match keyD y with
    | some j => .ok ((dVal kvs j).getD z) δ3
    | none => .stuck
  | _ => .stuck
def dGet1S (i : Nat) (k : Den D) : Den D := fun δ => match viewK δ[i]? with
  | some _ => (k δ).bind fun y δ2 => match viewK δ2[i]?, keyD y with
    | some kvs, some j => .ok ((dVal kvs j).getD .non) δ2
    | _, _ => .stuck
  | none => .stuck
def dGet2S (i : Nat) (k l : Den D) : Den D := fun δ => match viewK δ[i]? with
  | some _ => (k δ).bind fun y δ2 => (l δ2).bind fun z δ3 => match viewK δ3[i]?, keyD y with
    | some kvs, some j => .ok ((dVal kvs j).getD z) δ3
    | _, _ => .stuck
  | none => .stuck
theorem getD_rep {K : PySem.W.Frag} {B : Hp} {kvs : List (Key × D)} {kws : List (Key × V)} (r : RepK K B kvs kws) (j : Key) {z : D} {w : V} (rz : Rep K B z w) : Rep K B ((dVal kvs j).getD z) ((valV kws j).getD w) := by
  rcases r.val j with ⟨h1, h2⟩ | ⟨d, v, h1, h2, h3⟩
  · rw [h1, h2]
    exact rz
  · rw [h1, h2]
    exact h3
variable {apos cpos : Pos}
theorem o_get1 (hu : X.A.units + 64 < cLine) (ha : OE X g W a f) (hb : OE X g W b k) (m : M1 X a "get" apos b cpos := by exact ⟨rfl, rfl, rfl, rfl⟩) : OE X g W (.Call (.Attribute a "get" apos) [b] [] cpos) (dGet1 f k) := by
  refine pe_imp (pe_dget1 (by omega) ha hb m) fun σ H Q ⟨B, δ, E, p⟩ => ⟨B, δ, E, p.bind.mono fun B1 H1 δ1 x E1 S1 p1 v rv => ?_⟩
  split at p1
  · rename_i kvs
    obtain ⟨a0, kws, rfl, ⟨o0, hB⟩, r⟩ := rv
    refine ⟨a0, rfl, .inl ⟨kws, Rd.le E1.le ⟨o0, hB⟩⟩, B1, δ1, E1, p1.bind.mono fun B2 H2 δ2 y E2 S2 p2 w rw' => ?_⟩
    split at p2
    · rename_i j hj
      exact ⟨_, .inl ⟨kws, j, Rd.le E2.le ⟨o0, S2.b _ _ hB⟩, rw'.key hj, rfl⟩, p2 B2 H2 E2 .refl _ (getD_rep (RepK.mono S2.b _ r) j (z := .non) rfl)⟩
    · exact False.elim p2
  · exact False.elim p1
theorem o_get2 (hu : X.A.units + 64 < cLine) (ha : OE X g W a f) (hb : OE X g W b k) (he : OE X g W e u) (m : M2 X a "get" apos b e cpos := by exact ⟨rfl, rfl, rfl, rfl⟩) : OE X g W (.Call (.Attribute a "get" apos) [b, e] [] cpos) (dGet2 f k u) := by
  refine pe_imp (pe_dget2 (by omega) ha hb he m) fun σ H Q ⟨B, δ, E, p⟩ => ⟨B, δ, E, p.bind.mono fun B1 H1 δ1 x E1 S1 p1 v rv => ?_⟩
  split at p1
  · rename_i kvs
    obtain ⟨a0, kws, rfl, ⟨o0, hB⟩, r⟩ := rv
    refine ⟨a0, rfl, .inl ⟨kws, Rd.le E1.le ⟨o0, hB⟩⟩, B1, δ1, E1, p1.bind.mono fun B2 H2 δ2 y E2 S2 p2 w rw' => ⟨B2, δ2, E2, p2.bind.mono fun B3 H3 δ3 z E3 S3 p3 t rt => ?_⟩⟩
    split at p3
    · rename_i j hj
      exact ⟨_, .inl ⟨kws, j, Rd.le E3.le ⟨o0, S3.b _ _ (S2.b _ _ hB)⟩, rw'.key hj, rfl⟩, p3 B3 H3 E3 .refl _ (getD_rep (RepK.mono S3.b _ (RepK.mono S2.b _ r)) j rt)⟩
    · exact False.elim p3
  · exact False.elim p1
theorem o_get1S (hu : X.A.units + 64 < cLine) (i : Nat) (hb : OE X g W b k) (hN : X.N[i]? = some x := by rfl) (hv : Vis X.env.scope x := by first | exact Or.inl rfl | exact Or.inr (Or.inl rfl) | exact Or.inr (Or.inr rfl)) (hd : (x == ("__debug__" : Str)) = false := by decide)
    (hcd : (x == ("__classdict__" : Str)) = false := by decide) (m : M1 X (.Name x px) "get" apos b cpos := by exact ⟨rfl, rfl, rfl, rfl⟩) : OE X g W (.Call (.Attribute (.Name x px) "get" apos) [b] [] cpos) (dGet1S i k) := by
  refine pe_imp (pe_dget1 (by omega) (pe_var hN hv hd hcd) hb m) fun σ H Q ⟨B, δ, E, p⟩ => ?_
  unfold dGet1S at p
  split at p
  · rename_i xs0 h0
    obtain ⟨a0, vs0, e0, m0, _⟩ := E.viewK h0
    refine ⟨_, e0, a0, rfl, .inl ⟨_, m0⟩, B, δ, E, p.bind.mono fun B1 H1 δ1 y E1 S1 p1 v rv => ?_⟩
    split at p1
    · rename_i kvs j h1 hk
      obtain ⟨a1, vs1, e1, m1, r1⟩ := E1.viewK h1
      rw [e0] at e1
      cases e1
      exact ⟨_, .inl ⟨vs1, j, m1, rv.key hk, rfl⟩, p1 B1 H1 E1 .refl _ (getD_rep r1 j (z := .non) rfl)⟩
    · exact False.elim p1
  · exact False.elim p
theorem o_get2S (hu : X.A.units + 64 < cLine) (i : Nat) (hb : OE X g W b k) (he : OE X g W e u) (hN : X.N[i]? = some x := by rfl) (hv : Vis X.env.scope x := by first | exact Or.inl rfl | exact Or.inr (Or.inl rfl) | exact Or.inr (Or.inr rfl)) (hd : (x == ("__debug__" : Str)) = false := by decide)
    (hcd : (x == ("__classdict__" : Str)) = false := by decide) (m : M2 X (.Name x px) "get" apos b e cpos := by exact ⟨rfl, rfl, rfl, rfl⟩) : OE X g W (.Call (.Attribute (.Name x px) "get" apos) [b, e] [] cpos) (dGet2S i k u) := by
  refine pe_imp (pe_dget2 (by omega) (pe_var hN hv hd hcd) hb he m) fun σ H Q ⟨B, δ, E, p⟩ => ?_
  unfold dGet2S at p
  split at p
  · rename_i xs0 h0
    obtain ⟨a0, vs0, e0, m0, _⟩ := E.viewK h0
    refine ⟨_, e0, a0, rfl, .inl ⟨_, m0⟩, B, δ, E, p.bind.mono fun B1 H1 δ1 y E1 S1 p1 v rv => ⟨B1, δ1, E1, p1.bind.mono fun B2 H2 δ2 z E2 S2 p2 t rt => ?_⟩⟩
    split at p2
    · rename_i kvs j h1 hk
      obtain ⟨a1, vs1, e1, m1, r1⟩ := E2.viewK h1
      rw [e0] at e1
      cases e1
      exact ⟨_, .inl ⟨vs1, j, m1, (rv.mono S2.b).key hk, rfl⟩, p2 B2 H2 E2 .refl _ (getD_rep r1 j rt)⟩
    · exact False.elim p2
  · exact False.elim p
/-! k in d -/
def inK : D → D → Option D
  | y, .dct kvs => (keyD y).map fun k => .bl (dVal kvs k).isSome
  | _, _ => none
def notInK : D → D → Option D
  | y, .dct kvs => (keyD y).map fun k => .bl (!(dVal kvs k).isSome)
  | _, _ => none
def inA : D → D → Option D
  | d, .lst ds => if (flatD d && ds.all flatD) = true then some (.bl (mem d ds)) else none
  | d, .tup ds => if (flatD d && ds.all flatD) = true then some (.bl (mem d ds)) else none
  | d, .rol ds => if (flatD d && ds.all flatD) = true then some (.bl (mem d ds)) else none
  | y, .dct kvs => (keyD y).map fun k => .bl (dVal kvs k).isSome
  | _, _ => none
def notInA : D → D → Option D
  | d, .lst ds => if (flatD d && ds.all flatD) = true then some (.bl (!mem d ds)) else none
  | d, .tup ds => if (flatD d && ds.all flatD) = true then some (.bl (!mem d ds)) else none
  | d, .rol ds => if (flatD d && ds.all flatD) = true then some (.bl (!mem d ds)) else none
  | y, .dct kvs => (keyD y).map fun k => .bl (!(dVal kvs k).isSome)
  | _, _ => none
theorem inA_two (x y : D) : inA x y = inD x y ∨ inA x y = inK x y := by cases y <;> first | exact .inl rfl | exact .inr rfl
theorem notInA_two (x y : D) : notInA x y = notInD x y ∨ notInA x y = notInK x y := by cases y <;> first | exact .inl rfl | exact .inr rfl
theorem val_isSome {K : PySem.W.Frag} {B : Hp} {kvs : List (Key × D)} {kws : List (Key × V)} (r : RepK K B kvs kws) (j : Key) : (valV kws j).isSome = (dVal kvs j).isSome := by
  rcases r.val j with ⟨h1, h2⟩ | ⟨d, v, h1, h2, h3⟩
  · rw [h1, h2]
    rfl
  · rw [h1, h2]
    rfl
theorem ok_inK {K : PySem.W.Frag} : Ok2 K (fun y x H Q => ∃ a o, x = .ref a ∧ DGet H a y o ∧ Q (.bl o.isSome) H) inK := by
  intro g B H σ δ x y d e z Q E rx ry h q
  cases e with
  | dct kvs =>
    cases hk : keyD d with
    | none => simp only [inK, hk] at h; cases h
    | some k =>
      simp only [inK, hk] at h
      cases h
      obtain ⟨a, kws, rfl, hB, r⟩ := ry
      exact ⟨a, _, rfl, .inl ⟨kws, k, Rd.le E.le hB, rx.key hk, rfl⟩, by rw [val_isSome r]; exact q B H _ E .refl rfl⟩
  | _ => cases h
theorem ok_notInK {K : PySem.W.Frag} : Ok2 K (fun y x H Q => ∃ a o, x = .ref a ∧ DGet H a y o ∧ Q (.bl (!o.isSome)) H) notInK := by
  intro g B H σ δ x y d e z Q E rx ry h q
  cases e with
  | dct kvs =>
    cases hk : keyD d with
    | none => simp only [notInK, hk] at h; cases h
    | some k =>
      simp only [notInK, hk] at h
      cases h
      obtain ⟨a, kws, rfl, hB, r⟩ := ry
      exact ⟨a, _, rfl, .inl ⟨kws, k, Rd.le E.le hB, rx.key hk, rfl⟩, by rw [val_isSome r]; exact q B H _ E .refl rfl⟩
  | _ => cases h
theorem o_in (hu : X.A.units + 64 < cLine) (ha : OE X g W a f) (hb : OE X g W b k) (hm : behindInMarks .In b = false := by rfl) : OE X g W (.Compare a [.In] [b] pos) (dOp inA f k) :=
  oe_or (o_cmp op_in_seq ok_in ha hb hm) (pe_imp (pe_cmp (pc_din (by omega) ha hb) hm) fun σ H Q h => tOp_of ok_inK σ H Q h) fun δ => dOp_two inA_two δ
theorem o_notIn (hu : X.A.units + 64 < cLine) (ha : OE X g W a f) (hb : OE X g W b k) (hm : behindInMarks .NotIn b = false := by rfl) : OE X g W (.Compare a [.NotIn] [b] pos) (dOp notInA f k) :=
  oe_or (o_cmp op_notIn_seq ok_notIn ha hb hm) (pe_imp (pe_cmp (pc_dnotin (by omega) ha hb) hm) fun σ H Q h => tOp_of ok_notInK σ H Q h) fun δ => dOp_two notInA_two δ
/-- k in x, x a dict that may be owned -/
def dInS (neg : Bool) (f : Den D) (i : Nat) : Den D := fun δ => (f δ).bind fun y δ1 => match viewK δ1[i]?, keyD y with
  | some kvs, some j => .ok (.bl (if neg then !(dVal kvs j).isSome else (dVal kvs j).isSome)) δ1
  | _, _ => .stuck
theorem o_inS (hu : X.A.units + 64 < cLine) (i : Nat) (ha : OE X g W a f) (hN : X.N[i]? = some x := by rfl) (hv : Vis X.env.scope x := by first | exact Or.inl rfl | exact Or.inr (Or.inl rfl) | exact Or.inr (Or.inr rfl)) (hd : (x == ("__debug__" : Str)) = false := by decide)
    (hcd : (x == ("__classdict__" : Str)) = false := by decide) (hm : behindInMarks .In (.Name x px) = false := by rfl) : OE X g W (.Compare a [.In] [.Name x px] pos) (dInS false f i) := by
  refine pe_imp (pe_cmp (pc_din (by omega) ha (pe_var hN hv hd hcd)) hm) fun σ H Q ⟨B, δ, E, p⟩ => ⟨B, δ, E, p.bind.mono fun B1 H1 δ1 y E1 S1 p1 v rv => ?_⟩
  split at p1
  · rename_i kvs j h1 hk
    obtain ⟨a1, vs1, e1, m1, r1⟩ := E1.viewK h1
    refine ⟨_, e1, a1, _, rfl, .inl ⟨vs1, j, m1, rv.key hk, rfl⟩, ?_⟩
    rw [val_isSome r1]
    exact p1 B1 H1 E1 .refl _ rfl
  · exact False.elim p1
theorem o_notInS (hu : X.A.units + 64 < cLine) (i : Nat) (ha : OE X g W a f) (hN : X.N[i]? = some x := by rfl) (hv : Vis X.env.scope x := by first | exact Or.inl rfl | exact Or.inr (Or.inl rfl) | exact Or.inr (Or.inr rfl)) (hd : (x == ("__debug__" : Str)) = false := by decide)
    (hcd : (x == ("__classdict__" : Str)) = false := by decide) (hm : behindInMarks .NotIn (.Name x px) = false := by rfl) : OE X g W (.Compare a [.NotIn] [.Name x px] pos) (dInS true f i) := by
  refine pe_imp (pe_cmp (pc_dnotin (by omega) ha (pe_var hN hv hd hcd)) hm) fun σ H Q ⟨B, δ, E, p⟩ => ⟨B, δ, E, p.bind.mono fun B1 H1 δ1 y E1 S1 p1 v rv => ?_⟩
  split at p1
  · rename_i kvs j h1 hk
    obtain ⟨a1, vs1, e1, m1, r1⟩ := E1.viewK h1
    refine ⟨_, e1, a1, _, rfl, .inl ⟨vs1, j, m1, rv.key hk, rfl⟩, ?_⟩
    rw [val_isSome r1]
    exact p1 B1 H1 E1 .refl _ rfl
  · exact False.elim p1
end
end VS
end

section
set_option Elab.async false
set_option linter.all false
set_option maxRecDepth 100000
/-! VT, part 4: dicts changed; len and truth. -/
namespace VS
open PySem PySem.Spec PyProof.Rows L2
section
variable {X : Cx} {g : G} {W : WX} {a b e : Expr} {f k u : Den D} {x : Str} {px pos : Pos}
/-- x[k] = e, x a dict -/
def dSetK (i : Nat) (f k : Den D) : Den Fl := fun δ => (f δ).bind fun d δ1 => match viewK δ1[i]? with
  | some _ => (k δ1).bind fun y δ2 => match δ2[i]?, keyD y with
    | some (.own b (.dct kvs)), some j => (match decide (kvs.length < 100000) with
      | true => .ok .nxt (δ2.set i (.own b (.dct (dPut kvs j d))))
      | false => .stuck)
    | _, _ => .stuck
  | none => .stuck
theorem os_setK (hu : X.A.units + 64 < cLine) (i : Nat) {ix : Expr} {ps : Pos} (he : OE X g W e f) (hk : OE X g W ix k) (hN : X.N[i]? = some x := by rfl) (hv : Vis X.env.scope x := by first | exact Or.inl rfl | exact Or.inr (Or.inl rfl) | exact Or.inr (Or.inr rfl)) (hd : (x == ("__debug__" : Str)) = false := by decide)
    (hcd : (x == ("__classdict__" : Str)) = false := by decide) (hs : swapsWith e (some (.Subscript (.Name x px) ix ps)) pos.line X.env = pure false := by rfl) : OS X g W (.Assign [.Subscript (.Name x px) ix ps] e pos) (dSetK i f k) := by
  refine ps_imp (ps_dput (by omega) (pe_var hN hv hd hcd) hk he hs) fun D σ H ⟨B, δ, E, p⟩ => ⟨B, δ, E, p.bind.mono fun B1 H1 δ1 d E1 S1 p1 v rv => ?_⟩
  split at p1
  · rename_i xs0 h0
    obtain ⟨a0, vs0, e0, _, _⟩ := E1.viewK h0
    refine ⟨.ref a0, e0, B1, δ1, E1, p1.bind.mono fun B2 H2 δ2 y E2 S2 p2 w rw' => ?_⟩
    split at p2
    · rename_i b kvs j h2 hj
      obtain ⟨a1, e1, m1, vs, h3, r3⟩ := E2.owned h2
      rw [e0] at e1
      cases e1
      split at p2
      · rename_i hl
        have hw2 := E2.write (o' := .dct (dPut kvs j d)) (u := .dK (putK vs j v)) h2 e0 ⟨_, upd_same, r3.put j (rv.mono S2.b)⟩
        exact ⟨a0, _, rfl, .inl ⟨vs, j, h3, rw'.key hj, by rw [r3.length]; exact Nat.lt_of_lt_of_le (of_decide_eq_true hl) (by decide), rfl⟩, p2 B2 _ σ hw2.1 hw2.2⟩
      · exact False.elim p2
    · exact False.elim p2
  · exact False.elim p1
/-- x[k] = e, x a list or a dict -/
def dSetL (i : Nat) (f k : Den D) : Den Fl := fun δ => (f δ).bind fun d δ1 => match δ1[i]? with
  | some (.own b (.dct _)) => (k δ1).bind fun y δ2 => (match δ2[i]?, keyD y with
    | some (.own b (.dct kvs)), some j => (match decide (kvs.length < 100000) with
      | true => .ok .nxt (δ2.set i (.own b (.dct (dPut kvs j d))))
      | false => .stuck)
    | _, _ => .stuck)
  | some (.own _ (.lst _)) => (k δ1).bind fun y δ2 => (match δ2[i]?, y with
    | some (.own b (.lst xs)), .int j => (match ixN xs.length j with
      | some n => .ok .nxt (δ2.set i (.own b (.lst (xs.set n d))))
      | none => .stuck)
    | _, _ => .stuck)
  | _ => .stuck
theorem dSetL_two (i : Nat) (f k : Den D) (δ : List Sl) : dSetL i f k δ = dSetK i f k δ ∨ dSetL i f k δ = dSetLL i f k δ ∨ dSetL i f k δ = .stuck := by
  unfold dSetL dSetK dSetLL
  cases f δ with
  | stuck => exact .inl rfl
  | exc c fs δ1 => exact .inl rfl
  | ok d δ1 =>
    simp only [Res.bind]
    cases h : δ1[i]? with
    | none => exact .inr (.inr rfl)
    | some s =>
      cases s with
      | own b o =>
        cases o with
        | lst xs => exact .inr (.inl rfl)
        | dct kvs => exact .inl rfl
      | _ => exact .inr (.inr rfl)
theorem os_setL (hu : X.A.units + 64 < cLine) (i : Nat) {ix : Expr} {ps : Pos} (he : OE X g W e f) (hk : OE X g W ix k) (hN : X.N[i]? = some x := by rfl) (hv : Vis X.env.scope x := by first | exact Or.inl rfl | exact Or.inr (Or.inl rfl) | exact Or.inr (Or.inr rfl)) (hd : (x == ("__debug__" : Str)) = false := by decide)
    (hcd : (x == ("__classdict__" : Str)) = false := by decide) (hs : swapsWith e (some (.Subscript (.Name x px) ix ps)) pos.line X.env = pure false := by rfl)
    (ha : ∀ v, assign (.Subscript (.Name x px) ix ps) X.env v = (do
      let ov ← holding [v] (eval (.Name x px) X.env)
      let iv ← holding [v, ov] (eval ix X.env)
      standAt ps
      holding [v, ov, iv] (setItem ov iv v)
      release [v, ov, iv] []) := by intro _; rfl)
    (hs' : swapsWithSole [Expr.Subscript (.Name x px) ix ps] e pos.line X.env = pure false := by rfl) (hw : swappedStores [Expr.Subscript (.Name x px) ix ps] e X.env = pure none := by rfl)
    (h1 : (assignEach [Expr.Subscript (.Name x px) ix ps] X.env).map (·.2) = [assign (.Subscript (.Name x px) ix ps) X.env] := by rfl) : OS X g W (.Assign [.Subscript (.Name x px) ix ps] e pos) (dSetL i f k) :=
  ⟨fun pins s σ H D I ⟨B, δ, E, p⟩ => by
    rcases dSetL_two i f k δ with q | q | q
    · exact (os_setK hu i he hk hN hv hd hcd hs).run pins s σ H D I ⟨B, δ, E, by rw [← q]; exact p⟩
    · exact (os_setLL i he hk hN hv hd hcd ha hs' hw h1).run pins s σ H D I ⟨B, δ, E, by rw [← q]; exact p⟩
    · rw [q] at p
      exact False.elim p⟩
/-- x[k] op= e, x a dict -/
def dAugK (fn : D → D → Option D) (i : Nat) (k f : Den D) : Den Fl := fun δ => match viewK δ[i]? with
  | some _ => (k δ).bind fun y δ1 => match viewK δ1[i]?, keyD y with
    | some kvs, some j => (match dVal kvs j with
      | some d => (f δ1).bind fun e δ2 => (match fn d e, δ2[i]? with
        | some z, some (.own b (.dct kvs2)) => (match decide (kvs2.length < 100000) with
          | true => .ok .nxt (δ2.set i (.own b (.dct (dPut kvs2 j z))))
          | false => .stuck)
        | _, _ => .stuck)
      | none => .stuck)
    | _, _ => .stuck
  | none => .stuck
theorem os_augK {op : Operator} {r : R2} {fn : D → D → Option D} (hu : X.A.units + 64 < cLine) (i : Nat) {ix : Expr} {ps : Pos} (ho : InOp X op r) (hr : Ok2 X.K r fn) (hk : OE X g W ix k) (he : OE X g W e f) (hN : X.N[i]? = some x := by rfl) (hv : Vis X.env.scope x := by first | exact Or.inl rfl | exact Or.inr (Or.inl rfl) | exact Or.inr (Or.inr rfl)) (hd : (x == ("__debug__" : Str)) = false := by decide)
    (hcd : (x == ("__classdict__" : Str)) = false := by decide) (ha : ∀ ov iv new, augStore ix ov iv new = (do holding [new, ov, iv] (setItem ov iv new); release [new, ov, iv] []; pure .next) := by intro _ _ _; rfl) : OS X g W (.AugAssign (.Subscript (.Name x px) ix ps) op e pos) (dAugK fn i k f) := by
  refine ps_imp (ps_daug (by omega) (pe_var hN hv hd hcd) hk he ho ha) fun D σ H ⟨B, δ, E, p⟩ => ?_
  unfold dAugK at p
  split at p
  · rename_i xs0 h0
    obtain ⟨a0, vs0, e0, m0, _⟩ := E.viewK h0
    refine ⟨_, e0, B, δ, E, p.bind.mono fun B1 H1 δ1 y E1 S1 p1 v rv => ?_⟩
    split at p1
    · rename_i kvs j h1 hj
      obtain ⟨a1, vs1, e1, m1, r1⟩ := E1.viewK h1
      rw [e0] at e1
      cases e1
      split at p1
      · rename_i d hd'
        rcases r1.val j with ⟨h2, _⟩ | ⟨d', w, h2, h3, h4⟩
        · rw [h2] at hd'
          cases hd'
        · rw [h2] at hd'
          cases hd'
          refine ⟨a0, w, rfl, .inl ⟨vs1, j, m1, rv.key hj, h3.symm⟩, B1, δ1, E1, p1.bind.mono fun B2 H2 δ2 t E2 S2 p2 w2 rw2 => ?_⟩
          split at p2
          · rename_i z b kvs2 hz h5
            obtain ⟨a2, e2, m2, vs2, h6, r6⟩ := E2.owned h5
            rw [e0] at e2
            cases e2
            split at p2
            · rename_i hl
              refine hr g B2 H2 σ δ2 w w2 d t z _ E2 (h4.mono S2.b) rw2 hz fun B3 H3 w3 E3 S3 r3 => ?_
              obtain ⟨a3, e3, m3, vs3, h7, r7⟩ := E3.owned h5
              rw [e0] at e3
              cases e3
              have hw3 := E3.write (o' := .dct (dPut kvs2 j z)) (u := .dK (putK vs3 j w3)) h5 e0 ⟨_, upd_same, r7.put j r3⟩
              exact ⟨_, .inl ⟨vs3, j, h7, rv.key hj, by rw [r7.length]; exact Nat.lt_of_lt_of_le (of_decide_eq_true hl) (by decide), rfl⟩, p2 B3 _ σ hw3.1 (S3.trans hw3.2)⟩
            · exact False.elim p2
          · exact False.elim p2
      · exact False.elim p1
    · exact False.elim p1
  · exact False.elim p
/-- del x[k] -/
def dDelK (i : Nat) (k : Den D) : Den Fl := fun δ => match viewK δ[i]? with
  | some _ => (k δ).bind fun y δ1 => match δ1[i]?, keyD y with
    | some (.own b (.dct kvs)), some j => (match (dVal kvs j).isSome with
      | true => .ok .nxt (δ1.set i (.own b (.dct (dDel kvs j))))
      | false => .stuck)
    | _, _ => .stuck
  | none => .stuck
theorem os_delK (i : Nat) {ix : Expr} {ps : Pos} (hk : OE X g W ix k) (hN : X.N[i]? = some x := by rfl) (hv : Vis X.env.scope x := by first | exact Or.inl rfl | exact Or.inr (Or.inl rfl) | exact Or.inr (Or.inr rfl)) (hd : (x == ("__debug__" : Str)) = false := by decide)
    (hcd : (x == ("__classdict__" : Str)) = false := by decide) : OS X g W (.Delete [.Subscript (.Name x px) ix ps] pos) (dDelK i k) := by
  refine ps_imp (ps_ddel (pe_var hN hv hd hcd) hk) fun D σ H ⟨B, δ, E, p⟩ => ?_
  unfold dDelK at p
  split at p
  · rename_i xs0 h0
    obtain ⟨a0, vs0, e0, m0, _⟩ := E.viewK h0
    refine ⟨_, e0, B, δ, E, p.bind.mono fun B1 H1 δ1 y E1 S1 p1 v rv => ?_⟩
    split at p1
    · rename_i b kvs j h2 hj
      obtain ⟨a1, e1, m1, vs, h3, r3⟩ := E1.owned h2
      rw [e0] at e1
      cases e1
      split at p1
      · rename_i hl
        have hw2 := E1.write (o' := .dct (dDel kvs j)) (u := .dK (dropK vs j)) h2 e0 ⟨_, upd_same, r3.drop j⟩
        exact ⟨a0, vs, j, rfl, h3, rv.key hj, by rw [val_isSome r3]; exact hl, p1 B1 _ σ hw2.1 hw2.2⟩
      · exact False.elim p1
    · exact False.elim p1
  · exact False.elim p
end
/-! d.pop(k) -/
def popKO : O → List D → Option (O × D)
  | .dct kvs, [y] => match keyD y with
    | some j => (dVal kvs j).map fun d => (.dct (dDel kvs j), d)
    | none => none
  | _, _ => none
abbrev rDPop : V → List V → Hp → VK → Prop := fun x xs H Q => ∃ a kvs k v, x = .ref a ∧ xs = [kV k] ∧ H a = some (.dK kvs) ∧ valV kvs k = some v ∧ Q v (upd H a (.dK (dropK kvs k)))
theorem mt_dpop {X : Cx} : MtR X "dict.pop" rDPop := by
  intro pins s σ H x xs v us Q I rx rxs h
  obtain ⟨a, kvs, k, w, rfl, rfl, hH, hv, q⟩ := h
  obtain ⟨u, rfl, ru⟩ := rxs.one
  obtain rfl : v = Value.ref a := rx
  exact d_pop I hH ru hv (.inl rfl) fun w' s' I' rw' => ⟨w, _, I', rw', q⟩
theorem ok_popK {K : PySem.W.Frag} : OkM K rDPop popKO := fun B H o o' a ds xs d Q r le rl h q => by
  cases o with
  | lst ys => cases h
  | dct kvs =>
    match ds, h with
    | [y], h =>
      obtain ⟨v, w, rfl, h1, h2⟩ := rl
      cases (show w = [] from h2)
      obtain ⟨vs, h3, h4⟩ := r
      cases hj : keyD y with
      | none => simp only [popKO, hj] at h; cases h
      | some j =>
        simp only [popKO, hj] at h
        rcases h4.val j with ⟨h5, _⟩ | ⟨d', v', h5, h6, h7⟩
        · rw [h5] at h
          cases h
        · rw [h5] at h
          cases h
          exact ⟨a, vs, j, v', rfl, by rw [h1.key hj], h3, h6, q _ v' ⟨_, upd_same, h4.drop j⟩ h7⟩
/-! len -/
def lenK : List D → Option D
  | [.dct kvs] => some (.int kvs.length)
  | _ => none
def lenD : List D → Option D
  | [.lst xs] => some (.int xs.length)
  | [.tup xs] => some (.int xs.length)
  | [.rol xs] => some (.int xs.length)
  | [.str z] => if z.length ≤ 100000 then some (.int z.length) else none
  | [.dct kvs] => some (.int kvs.length)
  | _ => none
theorem lenD_two (xs : List D) : lenD xs = lenD0 xs ∨ lenD xs = lenK xs := by
  cases xs with
  | nil => exact .inl rfl
  | cons x xs =>
    cases xs with
    | nil => cases x <;> first | exact .inl rfl | exact .inr rfl
    | cons _ _ => cases x <;> exact .inl rfl
abbrev rLenK : List V → Hp → VK → Prop := fun xs H Q => ∃ a kvs, xs = [V.ref a] ∧ Rd H a (.dK kvs) ∧ Q (.int kvs.length) H
theorem call_lenK {X : Cx} : CallR X (.builtin "len") rLenK := by
  intro pins s σ H xs us Q I r h
  obtain ⟨a, kvs, rfl, hH, q⟩ := h
  obtain ⟨u, rfl, ru⟩ := Vals.one r
  obtain rfl : u = Value.ref a := ru
  exact d_len I hH fun t s' I' => ⟨V.int kvs.length, _, I', ⟨t, rfl⟩, q⟩
theorem ok_lenK {K : PySem.W.Frag} : OkB K rLenK lenK := by
  intro g B H σ δ xs ds z Q E r h q
  match ds, h with
  | [.dct kvs], h =>
    obtain ⟨v, w, rfl, h1, h2⟩ := r
    cases (show w = [] from h2)
    obtain ⟨a, kws, rfl, hB, r⟩ := h1
    cases h
    refine ⟨a, kws, rfl, Rd.le E.le hB, ?_⟩
    rw [r.length]
    exact q B H _ E .refl rfl
section
variable {X : Cx} {g : G} {W : WX} {a b e : Expr} {es : List Expr} {f k u : Den D} {fs : Den (List D)} {x y : Str} {p px pos : Pos}
theorem o_len (hg : Gl X x) (hm : X.mg x = none) (hv : bootBuiltins x = some (.builtin "len")) (ha : OA X g W [e] fs) (hn : x ≠ "__name__" := by decide) (hdb : (x == ("__debug__" : Str)) = false := by decide)
    (hh : starEach [e] X.env = (false, eval e X.env) :: starEach [] X.env := by rfl) (hpl : (backTo pos (starEach [] X.env)).any (·.1) = false := by rfl) : OE X g W (.Call (.Name x p) [e] [] pos) (dB lenD fs) :=
  oe_or (o_callB call_len ok_len0 hg hm hv ha hn hdb hh hpl) (o_callB call_lenK ok_lenK hg hm hv ha hn hdb hh hpl) fun δ => dB_two lenD_two δ
/-- len(x), x owned -/
def dLenK (i : Nat) : Den D := fun δ => match viewK δ[i]? with
  | some kvs => .ok (.int kvs.length) δ
  | none => .stuck
theorem o_lenKS (i : Nat) (hg : Gl X y) (hm : X.mg y = none) (hv : bootBuiltins y = some (.builtin "len")) (hN : X.N[i]? = some x := by rfl) (hvv : Vis X.env.scope x := by first | exact Or.inl rfl | exact Or.inr (Or.inl rfl) | exact Or.inr (Or.inr rfl)) (hd : (x == ("__debug__" : Str)) = false := by decide)
    (hcd : (x == ("__classdict__" : Str)) = false := by decide) (hn : y ≠ "__name__" := by decide) (hdb : (y == ("__debug__" : Str)) = false := by decide)
    (hh : starEach [Expr.Name x px] X.env = (false, eval (.Name x px) X.env) :: starEach [] X.env := by rfl) (hpl : (backTo pos (starEach [] X.env)).any (·.1) = false := by rfl) : OE X g W (.Call (.Name y p) [.Name x px] [] pos) (dLenK i) := by
  refine pe_imp (pe_callB call_lenK hg hm hv (pa_cons (pe_var hN hvv hd hcd) pa_nil hh) hn hdb hh hpl) fun σ H Q ⟨B, δ, E, q⟩ => ?_
  unfold dLenK at q
  split at q
  · rename_i kvs h0
    obtain ⟨a0, vs0, e0, m0, r0⟩ := E.viewK h0
    refine ⟨_, e0, a0, vs0, rfl, m0, ?_⟩
    rw [r0.length]
    exact q B H E .refl _ rfl
  · exact False.elim q
def lenV (s : Option Sl) : Option Nat := match s with
  | some (.dat (.lst xs)) => some xs.length
  | some (.own _ (.lst xs)) => some xs.length
  | some (.dat (.dct xs)) => some xs.length
  | some (.own _ (.dct xs)) => some xs.length
  | _ => none
def dLenS (i : Nat) : Den D := fun δ => match lenV δ[i]? with
  | some n => .ok (.int n) δ
  | none => .stuck
theorem dLenS_two (i : Nat) (δ : List Sl) : dLenS i δ = dLenL i δ ∨ dLenS i δ = dLenK i δ := by
  unfold dLenS dLenL dLenK
  cases δ[i]? with
  | none => exact .inl rfl
  | some s =>
    cases s with
    | un => exact .inl rfl
    | exc c fs => exact .inl rfl
    | own b o => cases o <;> first | exact .inl rfl | exact .inr rfl
    | dat d => cases d <;> first | exact .inl rfl | exact .inr rfl
theorem o_lenS (i : Nat) (hg : Gl X y) (hm : X.mg y = none) (hv : bootBuiltins y = some (.builtin "len")) (hN : X.N[i]? = some x := by rfl) (hvv : Vis X.env.scope x := by first | exact Or.inl rfl | exact Or.inr (Or.inl rfl) | exact Or.inr (Or.inr rfl)) (hd : (x == ("__debug__" : Str)) = false := by decide)
    (hcd : (x == ("__classdict__" : Str)) = false := by decide) (hn : y ≠ "__name__" := by decide) (hdb : (y == ("__debug__" : Str)) = false := by decide)
    (hh : starEach [Expr.Name x px] X.env = (false, eval (.Name x px) X.env) :: starEach [] X.env := by rfl) (hpl : (backTo pos (starEach [] X.env)).any (·.1) = false := by rfl) : OE X g W (.Call (.Name y p) [.Name x px] [] pos) (dLenS i) :=
  oe_or (o_lenL i hg hm hv hN hvv hd hcd hn hdb hh hpl) (o_lenKS i hg hm hv hN hvv hd hcd hn hdb hh hpl) fun δ => dLenS_two i δ
/-! truth -/
def truD : D → Option Bool
  | .non => some false
  | .bl b => some b
  | .int i => some (i != 0)
  | .str x => if x.length ≤ 100000 then some ((x.length : Int) != 0) else none
  | .lst xs => some (!xs.isEmpty)
  | .tup xs => some (!xs.isEmpty)
  | .rol xs => some (!xs.isEmpty)
  | .dct kvs => some (!kvs.isEmpty)
def dTru (f : Den D) : Den Bool := fun δ => (f δ).bind fun x δ1 => .lift (truD x) δ1
def truL : D → Option Bool
  | .dct _ => none
  | d => truD d
def truK : D → Option Bool
  | .dct kvs => some (!kvs.isEmpty)
  | _ => none
theorem RepL.isEmpty {K : PySem.W.Frag} {B : Hp} {ds : List D} {vs : List V} (r : RepL K B ds vs) : vs.isEmpty = ds.isEmpty := by
  cases ds with
  | nil => rw [show vs = [] from r]; rfl
  | cons d ds =>
    obtain ⟨v, w, rfl, _, _⟩ := r
    rfl
theorem RepK.isEmpty {K : PySem.W.Frag} {B : Hp} {ds : List (Key × D)} {vs : List (Key × V)} (r : RepK K B ds vs) : vs.isEmpty = ds.isEmpty := by
  cases ds with
  | nil => rw [show vs = [] from r]; rfl
  | cons d ds =>
    obtain ⟨k, d⟩ := d
    obtain ⟨v, w, rfl, _, _⟩ := r
    rfl
theorem Rep.tru {K : PySem.W.Frag} {B H : Hp} {d : D} {v : V} {b : Bool} (le : Le B H) (r : Rep K B d v) (h : truL d = some b) : TruV K v H b := by
  cases d with
  | non => cases r; cases h; rfl
  | bl c => cases r; cases h; rfl
  | int i => cases r; cases h; rfl
  | str x =>
    cases r
    have h : (if x.length ≤ 100000 then some ((x.length : Int) != 0) else none) = some b := h
    split at h
    · rename_i c
      cases h
      exact ⟨Nat.le_trans c (by decide), rfl⟩
    · cases h
  | lst xs =>
    obtain ⟨a, vs, rfl, h2, h3⟩ := r
    cases h
    exact .inl ⟨vs, SqL.of (le _ _ h2), by rw [h3.isEmpty]⟩
  | rol xs =>
    obtain ⟨a, vs, rfl, h2, h3⟩ := r
    cases h
    exact .inl ⟨vs, le.sqL h2, by rw [h3.isEmpty]⟩
  | tup xs =>
    obtain ⟨a, vs, rfl, h2, h3⟩ := r
    cases h
    exact .inr (.inl ⟨vs, le.sqT h2, by rw [h3.isEmpty]⟩)
  | dct xs => cases h
theorem pt_truthK {ta : TE} (ha : PE X a ta) (he : ∀ whole, isTrue a X.env whole = (do let v ← whole; standAt a.pos; holding [v] (truthy v))) :
    PT X a (fun σ H Q => ta σ H fun x H' => ∃ d kvs, x = .ref d ∧ Rd H' d (.dK kvs) ∧ Q (!kvs.isEmpty) H') := by
  refine ⟨fun pins s σ H Q I h => ?_⟩
  refine isTrue_plain (thn (ha.run pins s σ H _ I h) fun v s1 ⟨x, H1, I1, r1, d, kvs, ex, hd, q1⟩ => ?_) (he _)
  subst ex
  obtain rfl : v = Value.ref d := r1
  exact d_truth I1 hd fun s' I' => ⟨H1, I', q1⟩
theorem ot_tru (h : OE X g W e f) (he : ∀ whole, isTrue e X.env whole = (do let v ← whole; standAt e.pos; holding [v] (truthy v)) := by intro _; rfl) : OT X g W e (dTru f) := by
  refine ot_or (f1 := fun δ => (f δ).bind fun x δ1 => .lift (truL x) δ1) (f2 := fun δ => (f δ).bind fun x δ1 => .lift (truK x) δ1) ?_ ?_ fun δ => ?_
  · refine pt_imp (pt_truth h he) fun σ H Q ⟨B, δ, E, p⟩ => ⟨B, δ, E, p.bind.mono fun B1 H1 δ1 x E1 S1 p1 v rv => ?_⟩
    obtain ⟨b, hb, q⟩ := p1.lift
    exact ⟨b, rv.tru E1.le hb, q B1 H1 E1 .refl b rfl⟩
  · refine pt_imp (pt_truthK h he) fun σ H Q ⟨B, δ, E, p⟩ => ⟨B, δ, E, p.bind.mono fun B1 H1 δ1 x E1 S1 p1 v rv => ?_⟩
    obtain ⟨b, hb, q⟩ := p1.lift
    cases x with
    | dct kvs =>
      cases hb
      obtain ⟨a, kws, rfl, hB, r⟩ := rv
      refine ⟨a, kws, rfl, Rd.le E1.le hB, ?_⟩
      rw [r.isEmpty]
      exact q B1 H1 E1 .refl _ rfl
    | _ => cases hb
  · unfold dTru
    cases f δ with
    | stuck => exact .inl rfl
    | exc c fs δ1 => exact .inl rfl
    | ok x δ1 => cases x <;> first | exact .inl rfl | exact .inr rfl
/-- x as a test, x a dict or a list that may be owned -/
def truS (s : Option Sl) : Option Bool := match s with
  | some (.own _ (.lst xs)) => some (!xs.isEmpty)
  | some (.own _ (.dct xs)) => some (!xs.isEmpty)
  | some (.dat d) => truD d
  | _ => none
def dTruS (i : Nat) : Den Bool := fun δ => match truS δ[i]? with
  | some b => .ok b δ
  | none => .stuck
theorem ot_truS (i : Nat) (hN : X.N[i]? = some x := by rfl) (hv : Vis X.env.scope x := by first | exact Or.inl rfl | exact Or.inr (Or.inl rfl) | exact Or.inr (Or.inr rfl)) (hd : (x == ("__debug__" : Str)) = false := by decide)
    (hcd : (x == ("__classdict__" : Str)) = false := by decide) (he : ∀ whole, isTrue (.Name x px) X.env whole = (do let v ← whole; standAt (Expr.Name x px).pos; holding [v] (truthy v)) := by intro _; rfl) : OT X g W (.Name x px) (dTruS i) := by
  refine ⟨fun pins s σ H Q I ⟨B, δ, E, p⟩ => ?_⟩
  unfold dTruS at p
  cases h : δ[i]? with
  | none =>
    rw [h] at p
    exact False.elim p
  | some sl =>
    rw [h] at p
    cases sl with
    | un => exact False.elim p
    | exc c fs => exact False.elim p
    | dat d =>
      obtain ⟨v, e1, r⟩ := E.slot h
      cases hb : truD d with
      | none =>
        rw [show truS (some (Sl.dat d)) = truD d from rfl, hb] at p
        exact False.elim p
      | some b =>
        rw [show truS (some (Sl.dat d)) = truD d from rfl, hb] at p
        cases d with
        | dct kvs =>
          cases hb
          obtain ⟨a, kws, rfl, hB, r⟩ := r
          exact (pt_truthK (pe_var hN hv hd hcd) he).run pins s σ H Q I ⟨_, e1, a, kws, rfl, Rd.le E.le hB, by rw [r.isEmpty]; exact p B H E .refl _ rfl⟩
        | _ => exact (pt_truth (pe_var hN hv hd hcd) he).run pins s σ H Q I ⟨v, e1, b, r.tru E.le hb, p B H E .refl _ rfl⟩
    | own b o =>
      obtain ⟨a, e1, n, r⟩ := E.owned h
      cases o with
      | lst xs =>
        obtain ⟨vs, h1, h2⟩ := r
        exact (pt_truth (pe_var hN hv hd hcd) he).run pins s σ H Q I ⟨_, e1, _, .inl ⟨vs, SqL.of h1, rfl⟩, by rw [h2.isEmpty]; exact p B H E .refl _ rfl⟩
      | dct kvs =>
        obtain ⟨vs, h1, h2⟩ := r
        exact (pt_truthK (pe_var hN hv hd hcd) he).run pins s σ H Q I ⟨_, e1, a, vs, rfl, .inl h1, by rw [h2.isEmpty]; exact p B H E .refl _ rfl⟩
end
end VS
end

section
set_option Elab.async false
set_option linter.all false
set_option maxRecDepth 100000
/-! VT, part 5: what is walked: enumerate, zip, a text, a dict, its items. -/
namespace VS
open PySem PySem.Spec PyProof.Rows L2
theorem meets_enumerate_new1 {v : Value} {o : Obj} {H : Heap → Prop} (B : Begins v o H) :
    Meets (Builtin.«enumerate.__new__» ⟨[.type "enumerate", v], []⟩) (fun _ R s => H s.heap ∧
      R (.ok (.ret (.ref (s.heap.push o).objs.size))) { s with heap := (s.heap.push o).push { cls := .type "enumerate", data := .fields #[.none, .bool false, .ref s.heap.objs.size, rawInt 0, .none, .none] } }) :=
  .of_wp fun prog w A R s h => by
    obtain ⟨hp, g, d, tk, os⟩ := s; obtain ⟨h1, h⟩ := h
    have hsub := sub_enumerate
    have q1 : ∀ {A' : Around} {E : Value → Shared → Prop} {Q : Value → Shared → Prop}, Q (.ref hp.objs.size) ⟨hp.push o, g, d, tk, os⟩ → wpAny (model prog w) A' (pyIter v) Q E ⟨hp, g, d, tk, os⟩ :=
      fun q => B.iter prog w _ _ ⟨hp, g, d, tk, os⟩ _ h1 q
    wp_walk using q1
    refine wpAny_stack_any fun st => wpAny_pure ?_
    split
    · rename_i c _ _ _ _ _
      cases (c == Value.type "enumerate")
      · wp_walk using q1
        exact ⟨_, rfl, h⟩
      · wp_walk using q1
        exact ⟨_, rfl, h⟩
    · wp_walk using q1
      exact ⟨_, rfl, h⟩
theorem enum_begins1 {prog : Program} {w : World} {A : Around} {E : Value → Shared → Prop} {s : Shared} {v : Value} {o : Obj} {H : Heap → Prop} {Q : Value → Shared → Prop} (B : Begins v o H) (h1 : H s.heap)
    (h : ∀ h', IsEnum h' (s.heap.objs.size + 1) s.heap.objs.size 0 .none → h'.get? s.heap.objs.size = some o → h'.objs.size = s.heap.objs.size + 2 →
      (∀ b o, s.heap.get? b = some o → h'.get? b = some o) → Q (.ref (s.heap.objs.size + 1)) { s with heap := h' }) :
    wpAny (model prog w) A (call (.type "enumerate") [v]) Q E s := by
  refine callType_new F.called_enumerate (by decide) (F.typeCall_enumerate_1 _) (F.newCall_enumerate_1 _) (fun obj => F.args_object_init_2 obj _) F.entry_enumerate_new
    (meets_enumerate_new1 B) ⟨h1, ?_⟩
  have hz : (s.heap.push o).objs.size = s.heap.objs.size + 1 := Heap.size_push ..
  show _ ∧ _
  rw [hz]
  have he : IsEnum ((s.heap.push o).push { cls := .type "enumerate", data := .fields #[.none, .bool false, .ref s.heap.objs.size, rawInt 0, .none, .none] }) (s.heap.objs.size + 1) s.heap.objs.size 0 .none := by
    have := Heap.get?_push_size (s.heap.push o) (o := { cls := .type "enumerate", data := .fields #[.none, .bool false, .ref s.heap.objs.size, rawInt 0, .none, .none] }) rfl
    rw [hz] at this; exact this
  exact ⟨⟨_, he, rfl⟩, h _ he (Heap.get?_push_of_some _ (Heap.get?_push_size _ B.free)) (by rw [Heap.size_push, hz]) fun b o x => Heap.get?_push_of_some _ (Heap.get?_push_of_some _ x)⟩
/-- the tuple at a, each item in a new pair -/
def IteT (K : PySem.W.Frag) (a : Addr) : It :=
  ⟨fun i H => ∃ (xs : List V) (x : V), SqT K H a xs ∧ xs[i]? = some x, fun i H v H' => ∃ T x, v = .ref T ∧ H T = none ∧ H' = upd H T (.tup [.int (i : Nat), x]) ∧ ∀ xs, SqT K H a xs → xs[i]? = some x, fun i H => ∃ xs : List V, SqT K H a xs ∧ xs.length = i⟩
theorem turn_enumT {P : Program} {w : World} {K : PySem.W.Frag} {elts : List Expr} {kk : Nat} {tpos : Pos} (a e it : Addr) :
    Turn P w K (.Tuple elts kk tpos) (IteT K a) [e, it] e (fun i h => (∃ old, IsEnum h e it ((i : Nat) : Int) old) ∧ h.IsTupleIter it a i ∧ e ≠ it ∧ a ≠ it ∧ e ≠ a) where
  mem := by simp
  obj := fun i h st b hb => by
    obtain ⟨⟨old, he⟩, ⟨o, ho, hc, hd⟩, _⟩ := st
    have e' : b = e ∨ b = it := by simpa using hb
    rcases e' with z | z
    · rw [z]; exact ⟨_, he, fun v q => nomatch q⟩
    · rw [z]; exact ⟨o, ho, fun v q => by rw [hd] at q; cases q⟩
  keep := fun i h h' st k => let ⟨⟨old, he⟩, hi, hne⟩ := st; ⟨⟨old, k e (by simp) _ he⟩, hi.at fun o q => k it (by simp) o q, hne⟩
  item := by
    intro X hP hw hK hc i pins s σ H E I hf st hg
    subst hP hw hK
    obtain ⟨⟨old, he⟩, hit, hne, hai, hea⟩ := st
    obtain ⟨xs, x, hq, hx⟩ := hg
    obtain ⟨its, rv, p, hz⟩ := I.tuple hq
    obtain ⟨u, hu, ru⟩ := rv.get hx
    have hel : e < s.heap.objs.size := Heap.lt_size he
    have hil : it < s.heap.objs.size := by obtain ⟨_, q, _⟩ := hit; exact Heap.lt_size q
    have hlen : i < its.toArray.size := by
      have := (List.getElem?_eq_some_iff.mp hu).1
      simpa using this
    refine wpAny_pyNext_enum_itemC (Draws.tuple (prog := X.prog) (w := X.w) (A := X.A.in1) (show X.A.in1.handled = none from I.ok.hd hc) it a hai its.toArray) he ⟨hit, p⟩ hlen hne (by simp [hne, hea]) fun y h'' tk hy ho hst hT hsz hk => ?_
    have ey : y = u := by
      have : its.toArray[i]? = some u := by simpa using hu
      have hy : its.toArray[i]? = some y := hy
      rw [this] at hy
      exact (Option.some.inj hy).symm
    subst ey
    refine ⟨_, rfl, wpAny_letOwnedTupleGo_enum (s := { s with heap := h'', toks := tk + 1 }) ho fun h3 he' sb => ?_⟩
    have hT2 : h3.get? s.heap.objs.size = some { cls := .type "tuple", data := .seq #[.int i tk, y] } := (sb.2 _ (Nat.ne_of_gt hel)).trans hT
    have new : ObjOk X.prog X.w (upd H s.heap.objs.size (.tup [.int (i : Nat), x])) h3 s.heap.objs.size (.tup [.int (i : Nat), x]) :=
      ⟨by show 2 ≤ sizeLine; decide, [.int i tk, y], .cons ⟨_, rfl⟩ (.cons ru .nil), ⟨_, hT2, rfl, _, rfl⟩⟩
    have I1 : Inv X pins σ (upd H s.heap.objs.size (.tup [.int (i : Nat), x])) { s with heap := h3, toks := tk + 1 } :=
      I.turnedNew (ch := [e, it]) (fun b ob hb q => (sb.2 b (fun z => hb (by simp [z]))).trans (hk b ob (fun z => hb (by simp [z])) (fun z => hb (by simp [z])) q)) hf (Nat.le_refl _) new
    refine ⟨.ref s.heap.objs.size, _, I1, rfl, ⟨_, x, rfl, I.hok.fresh (Nat.le_refl _), rfl, fun ys hy => by rw [I.tuple_inj hy hq]; exact hx⟩, ⟨⟨y, ?_⟩, hst.1.at fun o q => (sb.2 it (Ne.symm hne)).trans q, hne, hai, hea⟩, fun b hb => ?_⟩
    · have e1 : ((i + 1 : Nat) : Int) = (i : Int) + 1 := by omega
      rw [e1]; exact he'
    · have hb' : b < s.heap.objs.size := by
        have e' : b = e ∨ b = it := by simpa using hb
        rcases e' with z | z
        · rw [z]; exact hel
        · rw [z]; exact hil
      rw [upd_ne (Nat.ne_of_lt hb')]
      exact (hf b hb).1
  done := by
    intro X hP hw hK hc i pins s σ H E I hf st hg
    subst hP hw hK
    obtain ⟨⟨old, he⟩, hit, hne, hai, hea⟩ := st
    obtain ⟨xs, hq, hx⟩ := hg
    obtain ⟨its, rv, p, hz⟩ := I.tuple hq
    obtain ⟨f0, f1, f2, f3, f4, f5⟩ := hf it (by simp)
    have hl := rv.length
    have e1 : its.toArray.size = i := by simp only [List.size_toArray]; omega
    exact wpAny_pyNext_enum_endD (Draws.tuple (prog := X.prog) (w := X.w) (A := X.A.in1) (show X.A.in1.handled = none from I.ok.hd hc) it a hai its.toArray) he ⟨by rw [e1]; exact hit, p⟩ fun h' eb => ⟨rfl, I.turned (t' := s.toks) (fun b o hb q => eb b o hb q) f0 f1 f3 f4 f5⟩
  self := fun A i s Q E st h => let ⟨⟨_, he⟩, _⟩ := st; wpAny_pyIter_enum he h
def iEnumT (K : PySem.W.Frag) (ta : TA) : TI := fun σ H R => ta σ H fun vs H1 => ∃ a xs, vs = [.ref a] ∧ SqT K H1 a xs ∧ R (IteT K a) H1
theorem pi_enumT {X : Cx} {e : Expr} {ta : TA} {p pos tpos : Pos} {elts : List Expr} {kk : Nat} (hg : Gl X "enumerate") (hm : X.mg "enumerate" = none) (ha : PA X [e] ta) (hs : starEach [e] X.env = [(false, eval e X.env)] := by rfl) :
    PI X (.Tuple elts kk tpos) (.Call (.Name "enumerate" p) [e] [] pos) (iEnumT X.K ta) := by
  refine ⟨fun pins s σ H R I h => ?_⟩
  refine Call_ (ld_blt I hg hm boot_enumerate (PyProof.Rows.callWith_type1 (thn (ha.run pos pins s σ H _ I h) fun us s1 ⟨vs, H1, I1, r1, q1⟩ => ?_) hs rfl))
  obtain ⟨a, xs, ex, hq, q⟩ := q1
  subst ex
  cases r1 with
  | cons r rr =>
    cases rr
    cases r
    obtain ⟨its, rv, p', hz⟩ := I1.tuple hq
    have hal : a < s1.heap.objs.size := by
      obtain ⟨o, q, _⟩ := (show s1.heap.IsTuple a its.toArray from p')
      exact Heap.lt_size q
    refine enum_begins1 (begins_tuple a its.toArray) p' fun h' he hit hsz hk => wpAny_pyIter_enum he ?_
    have I2 : Inv X pins σ H1 { s1 with heap := h' } := I1.kept (t' := s1.toks) hk
    refine ⟨s1.heap.objs.size + 1, [s1.heap.objs.size + 1, s1.heap.objs.size], _, _, H1, rfl, I2, turn_enumT a (s1.heap.objs.size + 1) s1.heap.objs.size, ⟨⟨.none, he⟩, ⟨_, hit, rfl, rfl⟩, Nat.succ_ne_self _, Nat.ne_of_lt hal, Ne.symm (Nat.ne_of_lt (Nat.lt_succ_of_lt hal))⟩, fun b hb => ?_, q⟩
    have e' : b = s1.heap.objs.size + 1 ∨ b = s1.heap.objs.size := by simpa using hb
    have hle : s1.heap.objs.size ≤ b := by
      rcases e' with z | z
      · rw [z]; exact Nat.le_add_right _ _
      · rw [z]; exact Nat.le_refl _
    exact I1.fpOk hle (I1.hok.fresh hle)
/-! over data -/
def pairsFrom (k : Int) : List D → List D
  | [] => []
  | d :: ds => .tup [.int k, d] :: pairsFrom (k + 1) ds
theorem pairsFrom_get : ∀ (ds : List D) (k : Int) (i : Nat) (z : D), (pairsFrom k ds)[i]? = some z → ∃ d, ds[i]? = some d ∧ z = .tup [.int (k + i), d]
  | [], k, i, z, h => by simp [pairsFrom] at h
  | d :: ds, k, 0, z, h => by
    simp only [pairsFrom, List.getElem?_cons_zero, Option.some.injEq] at h
    exact ⟨d, rfl, by rw [← h]; simp⟩
  | d :: ds, k, i + 1, z, h => by
    simp only [pairsFrom, List.getElem?_cons_succ] at h
    obtain ⟨d', h1, h2⟩ := pairsFrom_get ds (k + 1) i z h
    refine ⟨d', by simpa using h1, ?_⟩
    rw [h2]
    congr 2
    congr 1
    omega
theorem pairsFrom_len : ∀ (ds : List D) (k : Int), (pairsFrom k ds).length = ds.length
  | [], k => rfl
  | d :: ds, k => by simp only [pairsFrom, List.length_cons, pairsFrom_len ds]
def enumD : List D → Option (List D)
  | [.lst xs] => some (pairsFrom 0 xs)
  | [.rol xs] => some (pairsFrom 0 xs)
  | [.tup xs] => some (pairsFrom 0 xs)
  | _ => none
def enumDL : List D → Option (List D)
  | [.lst xs] => some (pairsFrom 0 xs)
  | [.rol xs] => some (pairsFrom 0 xs)
  | _ => none
def enumDT : List D → Option (List D)
  | [.tup xs] => some (pairsFrom 0 xs)
  | _ => none
section
variable {X : Cx} {g : G} {W : WX} {tg e e2 : Expr} {f k : Den D} {fs : Den (List D)} {p pos tpos apos cpos : Pos}
theorem dRng_two {f0 f1 f2 : List D → Option (List D)} (h : ∀ x, f0 x = f1 x ∨ f0 x = f2 x) (δ : List Sl) : dRng f0 fs δ = dRng f1 fs δ ∨ dRng f0 fs δ = dRng f2 fs δ := by
  unfold dRng
  cases fs δ with
  | stuck => exact .inl rfl
  | exc c gs δ1 => exact .inl rfl
  | ok x δ1 =>
    show Res.lift (f0 x) δ1 = Res.lift (f1 x) δ1 ∨ Res.lift (f0 x) δ1 = Res.lift (f2 x) δ1
    rcases h x with e | e
    · exact .inl (by rw [e])
    · exact .inr (by rw [e])
/-- a pair that an iterator lays anew -/
theorem pair_new {K : PySem.W.Frag} {g : G} {B H : Hp} {σ : St} {δ : List Sl} (E : EnvOk K g B H σ δ) {T : Addr} (hT : H T = none) {x y : V} {a b : D} (ra : Rep K B a x) (rb : Rep K B b y) :
    ∃ B3, EnvOk K g B3 (upd H T (.tup [x, y])) σ δ ∧ Stp B H σ δ B3 (upd H T (.tup [x, y])) σ δ ∧ Rep K B3 (.tup [a, b]) (.ref T) := by
  have le : Le B (upd B T (.tup [x, y])) := le_upd (le_none E.le hT)
  exact ⟨_, E.alloc _ hT, Stp.alloc E hT, T, _, rfl, .inl (.inl upd_same), RepL.cons (ra.mono le) (RepL.cons (rb.mono le) RepL.nil)⟩
theorem oi_enumL {elts : List Expr} {kk : Nat} (hg : Gl X "enumerate") (hm : X.mg "enumerate" = none) (ha : OA X g W [e] fs) (hs : starEach [e] X.env = [(false, eval e X.env)] := by rfl) :
    OI X g W (.Tuple elts kk tpos) (.Call (.Name "enumerate" p) [e] [] pos) (dRng enumDL fs) := by
  refine pi_imp (pi_enum hg hm ha hs) fun σ H R ⟨B, δ, E, q⟩ => ⟨B, δ, E, q.bind.mono fun B1 H1 δ1 x E1 S1 p1 v rv => ?_⟩
  obtain ⟨ds, hz, q⟩ := p1.lift
  have q := q B1 H1 E1 .refl
  have main : ∀ (c : Addr) (vs : List V) (xs : List D), SqL X.K B1 c vs → RepL X.K B1 xs vs → ds = pairsFrom 0 xs → IterOk X.K g B1 (Ite X.K c) ds := by
    intro c vs xs h1 r1 e0 B2 H2 σ2 δ2 E2 le
    subst e0
    have h2 : SqL X.K H2 c vs := (le.trans E2.le).sqL h1
    refine ⟨fun i d hd => ?_, ⟨vs, h2, by rw [r1.length, pairsFrom_len]; exact Nat.le_refl _⟩⟩
    obtain ⟨d', hd', rfl⟩ := pairsFrom_get _ _ _ _ hd
    obtain ⟨v, hv, rv⟩ := r1.get hd'
    refine ⟨⟨vs, v, h2, hv⟩, fun x H3 ⟨T, x', e, hT, e3, q⟩ => ?_⟩
    subst e e3
    have z := q vs h2
    rw [hv] at z
    cases z
    have h := pair_new E2 hT (a := .int (0 + (i : Int))) (b := d') (x := .int (i : Nat)) (show V.int (i : Nat) = V.int (0 + (i : Int)) by rw [Int.zero_add]) (rv.mono le)
    exact h
  match x, hz with
  | [.lst xs], hz =>
    cases hz
    obtain ⟨v, w, rfl, h1, h2⟩ := rv
    cases (show w = [] from h2)
    obtain ⟨c, vs, rfl, h3, r3⟩ := h1
    exact ⟨c, vs, rfl, SqL.of (E1.le _ _ h3), q _ (main c vs xs (SqL.of h3) r3 rfl)⟩
  | [.rol xs], hz =>
    cases hz
    obtain ⟨v, w, rfl, h1, h2⟩ := rv
    cases (show w = [] from h2)
    obtain ⟨c, vs, rfl, h3, r3⟩ := h1
    exact ⟨c, vs, rfl, E1.le.sqL h3, q _ (main c vs xs h3 r3 rfl)⟩
theorem oi_enumT {elts : List Expr} {kk : Nat} (hg : Gl X "enumerate") (hm : X.mg "enumerate" = none) (ha : OA X g W [e] fs) (hs : starEach [e] X.env = [(false, eval e X.env)] := by rfl) :
    OI X g W (.Tuple elts kk tpos) (.Call (.Name "enumerate" p) [e] [] pos) (dRng enumDT fs) := by
  refine pi_imp (pi_enumT hg hm ha hs) fun σ H R ⟨B, δ, E, q⟩ => ⟨B, δ, E, q.bind.mono fun B1 H1 δ1 x E1 S1 p1 v rv => ?_⟩
  obtain ⟨ds, hz, q⟩ := p1.lift
  have q := q B1 H1 E1 .refl
  match x, hz with
  | [.tup xs], hz =>
    cases hz
    obtain ⟨v, w, rfl, h1, h2⟩ := rv
    cases (show w = [] from h2)
    obtain ⟨c, vs, rfl, h3, r3⟩ := h1
    refine ⟨c, vs, rfl, E1.le.sqT h3, q _ fun B2 H2 σ2 δ2 E2 le => ?_⟩
    have h2 : SqT X.K H2 c vs := (le.trans E2.le).sqT h3
    refine ⟨fun i d hd => ?_, ⟨vs, h2, by rw [r3.length, pairsFrom_len]⟩⟩
    obtain ⟨d', hd', rfl⟩ := pairsFrom_get _ _ _ _ hd
    obtain ⟨v, hv, rv⟩ := r3.get hd'
    refine ⟨⟨vs, v, h2, hv⟩, fun x H3 ⟨T, x', e, hT, e3, q⟩ => ?_⟩
    subst e e3
    have z := q vs h2
    rw [hv] at z
    cases z
    exact pair_new E2 hT (a := .int (0 + (i : Int))) (b := d') (x := .int (i : Nat)) (show V.int (i : Nat) = V.int (0 + (i : Int)) by rw [Int.zero_add]) (rv.mono le)
theorem enumD_two (x : List D) : enumD x = enumDL x ∨ enumD x = enumDT x := by
  match x with
  | [] => exact .inl rfl
  | [d] => cases d <;> first | exact .inl rfl | exact .inr rfl
  | d :: _ :: _ => cases d <;> exact .inl rfl
theorem oi_enum {elts : List Expr} {kk : Nat} (hg : Gl X "enumerate") (hm : X.mg "enumerate" = none) (ha : OA X g W [e] fs) (hs : starEach [e] X.env = [(false, eval e X.env)] := by rfl) :
    OI X g W (.Tuple elts kk tpos) (.Call (.Name "enumerate" p) [e] [] pos) (dRng enumD fs) :=
  oi_or (oi_enumL hg hm ha hs) (oi_enumT hg hm ha hs) fun δ => dRng_two enumD_two δ
/-! for k in d, for k, v in d.items() -/
def keysIt : D → Option (List D)
  | .dct kvs => some (kvs.map fun kv => kD kv.1)
  | _ => none
def itemsIt : D → Option (List D)
  | .dct kvs => some (kvs.map fun kv => .tup [kD kv.1, kv.2])
  | _ => none
theorem RepK.getI {K : PySem.W.Frag} {B : Hp} : ∀ {kvs : List (Key × D)} {kws : List (Key × V)} {i : Nat} {p : Key × D}, RepK K B kvs kws → kvs[i]? = some p → ∃ v, kws[i]? = some (p.1, v) ∧ Rep K B p.2 v
  | [], _, _, _, _, e => by simp at e
  | (k, d) :: r, _, 0, _, h, e => by
    obtain ⟨v, r', rfl, h2, h3⟩ := h
    simp at e
    subst e
    exact ⟨v, rfl, h2⟩
  | (k, d) :: r, _, i + 1, _, h, e => by
    obtain ⟨v, r', rfl, h2, h3⟩ := h
    obtain ⟨w, h4, h5⟩ := RepK.getI (i := i) h3 (by simpa using e)
    exact ⟨w, by simpa using h4, h5⟩
def dKeysIt (f : Den D) : Den (List D) := fun δ => (f δ).bind fun x δ1 => .lift (keysIt x) δ1
def dItemsIt (f : Den D) : Den (List D) := fun δ => (f δ).bind fun x δ1 => .lift (itemsIt x) δ1
theorem oi_keys (he : OE X g W e f) : OI X g W tg e (dKeysIt f) := by
  refine pi_imp (pi_keys he) fun σ H R ⟨B, δ, E, q⟩ => ⟨B, δ, E, q.bind.mono fun B1 H1 δ1 x E1 S1 p1 v rv => ?_⟩
  obtain ⟨ds, hz, q⟩ := p1.lift
  have q := q B1 H1 E1 .refl
  cases x with
  | dct kvs =>
    cases hz
    obtain ⟨c, kws, rfl, ⟨o, hB⟩, r⟩ := rv
    refine ⟨c, o, rfl, .inl ⟨kws, E1.le _ _ hB, q _ fun B2 H2 σ2 δ2 E2 le => ?_⟩⟩
    have h2 := E2.le _ _ (le _ _ hB)
    refine ⟨fun i d hd => ?_, ⟨h2, by rw [r.length, List.length_map]; exact Nat.le_refl _⟩⟩
    rw [List.getElem?_map] at hd
    cases hp : kvs[i]? with
    | none => rw [hp] at hd; cases hd
    | some pr =>
      rw [hp] at hd
      cases hd
      obtain ⟨v, hv, rv⟩ := r.getI hp
      refine ⟨⟨h2, (List.getElem?_eq_some_iff.mp hv).1⟩, fun x H3 ⟨e3, k', v', hk, ex⟩ => ?_⟩
      subst e3 ex
      rw [hv] at hk
      cases hk
      exact ⟨B2, E2, .refl, rep_kD pr.1⟩
  | _ => cases hz
theorem oi_items {elts : List Expr} {kk : Nat} (he : OE X g W e f) (hbase : attributeBase e "items" X.env (eval e X.env) = eval e X.env := by rfl) (hline : (apos.endLine == cpos.line) = true := by rfl) :
    OI X g W (.Tuple elts kk tpos) (.Call (.Attribute e "items" apos) [] [] cpos) (dItemsIt f) := by
  refine pi_imp (pi_items he hbase hline) fun σ H R ⟨B, δ, E, q⟩ => ⟨B, δ, E, q.bind.mono fun B1 H1 δ1 x E1 S1 p1 v rv => ?_⟩
  obtain ⟨ds, hz, q⟩ := p1.lift
  have q := q B1 H1 E1 .refl
  cases x with
  | dct kvs =>
    cases hz
    obtain ⟨c, kws, rfl, ⟨o, hB⟩, r⟩ := rv
    refine ⟨c, o, kws, rfl, E1.le _ _ hB, q _ fun B2 H2 σ2 δ2 E2 le => ?_⟩
    have h2 := E2.le _ _ (le _ _ hB)
    refine ⟨fun i d hd => ?_, ⟨h2, by rw [r.length, List.length_map]; exact Nat.le_refl _⟩⟩
    rw [List.getElem?_map] at hd
    cases hp : kvs[i]? with
    | none => rw [hp] at hd; cases hd
    | some pr =>
      rw [hp] at hd
      cases hd
      obtain ⟨v, hv, rv⟩ := r.getI hp
      refine ⟨⟨h2, (List.getElem?_eq_some_iff.mp hv).1⟩, fun x H3 ⟨T, k', v', hk, ex, hT, e3⟩ => ?_⟩
      subst ex e3
      rw [hv] at hk
      cases hk
      exact pair_new E2 hT (rep_kD pr.1) (rv.mono le)
  | _ => cases hz
/-! for c in text -/
def signsD : D → Option (List D)
  | .str x => some (x.cps.toList.map chD)
  | _ => none
def dSigns (f : Den D) : Den (List D) := fun δ => (f δ).bind fun x δ1 => .lift (signsD x) δ1
theorem oi_str (he : OE X g W e f) : OI X g W tg e (dSigns f) := by
  refine pi_imp (pi_str he) fun σ H R ⟨B, δ, E, q⟩ => ⟨B, δ, E, q.bind.mono fun B1 H1 δ1 x E1 S1 p1 v rv => ?_⟩
  obtain ⟨ds, hz, q⟩ := p1.lift
  have q := q B1 H1 E1 .refl
  cases x with
  | str x =>
    cases hz
    cases rv
    refine ⟨x, rfl, q _ fun B2 H2 σ2 δ2 E2 le => ?_⟩
    refine ⟨fun i d hd => ?_, by show x.cps.size ≤ _; rw [List.length_map, Array.length_toList]; exact Nat.le_refl _⟩
    rw [List.getElem?_map] at hd
    cases hp : x.cps.toList[i]? with
    | none => rw [hp] at hd; cases hd
    | some c =>
      rw [hp] at hd
      cases hd
      have hp' : x.cps[i]? = some c := by simpa using hp
      refine ⟨(Array.getElem?_eq_some_iff.mp hp').1, fun y H3 ⟨e3, c', hc, ey⟩ => ?_⟩
      subst e3 ey
      rw [hp'] at hc
      cases hc
      exact ⟨B2, E2, .refl, rfl⟩
  | _ => cases hz
/-- list, dict or text: what is walked -/
def dWalk3 (f : Den D) : Den (List D) := fun δ => (f δ).bind fun x δ1 => .lift (match x with
  | .lst xs => some xs
  | .rol xs => some xs
  | .tup xs => some xs
  | .dct kvs => some (kvs.map fun kv => kD kv.1)
  | .str x => some (x.cps.toList.map chD)
  | _ => none) δ1
theorem oi_walk (he : OE X g W e f) : OI X g W tg e (dWalk3 f) := by
  have h : ∀ δ, dWalk3 f δ = dItems f δ ∨ dWalk3 f δ = dItemsT f δ ∨ dWalk3 f δ = dKeysIt f δ ∨ dWalk3 f δ = dSigns f δ := fun δ => by
    unfold dWalk3 dItems dItemsT dKeysIt dSigns
    cases f δ with
    | stuck => exact .inl rfl
    | exc c gs δ1 => exact .inl rfl
    | ok x δ1 => cases x <;> first | exact .inl rfl | exact .inr (.inl rfl) | exact .inr (.inr (.inl rfl)) | exact .inr (.inr (.inr rfl))
  refine ⟨fun pins s σ H R I ⟨B, δ, E, p⟩ => ?_⟩
  rcases h δ with q | q | q | q
  · exact (oi_list he).run pins s σ H R I ⟨B, δ, E, by rw [← q]; exact p⟩
  · exact (oi_tup he).run pins s σ H R I ⟨B, δ, E, by rw [← q]; exact p⟩
  · exact (oi_keys he).run pins s σ H R I ⟨B, δ, E, by rw [← q]; exact p⟩
  · exact (oi_str he).run pins s σ H R I ⟨B, δ, E, by rw [← q]; exact p⟩
end
end VS
end

section
set_option Elab.async false
set_option linter.all false
set_option maxRecDepth 100000
set_option maxHeartbeats 2000000
/-! VT, part 6: texts; slices; lists times numbers; -x; sorting of texts at any length. -/
namespace VS
open PySem PySem.Spec PyProof.Rows L2
/-! slices of lists, tuples, texts -/
def slD : D → Option Int → Option Int → Option D
  | .lst xs, lo, hi => some (.lst (cut xs lo hi))
  | .rol xs, lo, hi => some (.lst (cut xs lo hi))
  | .tup xs, lo, hi => some (.tup (cut xs lo hi))
  | .str z, lo, hi => if z.length ≤ 100000 then some (.str (cutS z lo hi)) else none
  | _, _, _ => none
def slD1 : D → Option Int → Option Int → Option D
  | .tup xs, lo, hi => some (.tup (cut xs lo hi))
  | _, _, _ => none
def slD2 : D → Option Int → Option Int → Option D
  | .str z, lo, hi => if z.length ≤ 100000 then some (.str (cutS z lo hi)) else none
  | _, _, _ => none
def dSlF (fn : D → Option Int → Option Int → Option D) (f : Den D) (l h : Den (Option Int)) : Den D := fun δ => (f δ).bind fun x δ1 => (l δ1).bind fun lo δ2 => (h δ2).bind fun hi δ3 => .lift (fn x lo hi) δ3
def dSl (f : Den D) (l h : Den (Option Int)) : Den D := fun δ => (f δ).bind fun x δ1 => (l δ1).bind fun lo δ2 => (h δ2).bind fun hi δ3 => .lift (slD x lo hi) δ3
theorem cut_whole {α : Type} (xs : List α) {lo hi : Option Int} (h : HT.sIx xs.length 0 lo = 0 ∧ HT.sIx xs.length xs.length hi = xs.length) : cut xs lo hi = xs := by
  unfold cut
  rw [h.1, h.2]
  simp
section
variable {X : Cx} {g : G} {W : WX} {a b e : Expr} {es : List Expr} {f k u : Den D} {fs : Den (List D)} {x : Str} {px pos apos cpos : Pos} {l h : Den (Option Int)} {lo hi : Option Expr} {p2 : Pos}
theorem o_slice1 (ha : OE X g W a f) (hl : OP X g W lo l) (hh : OP X g W hi h) : OE X g W (.Subscript a (.Slice lo hi none p2) pos) (dSlF slD1 f l h) := by
  refine pe_imp (pe_slice sl_tupA ha hl hh) fun σ H Q ⟨B, δ, E, p⟩ => ⟨B, δ, E, p.bind.mono fun B1 H1 δ1 x E1 S1 p1 v rv => ⟨B1, δ1, E1, p1.bind.mono fun B2 H2 δ2 lo E2 S2 p2 lo' elo => ⟨B2, δ2, E2, p2.bind.mono fun B3 H3 δ3 hi E3 S3 p3 hi' ehi => ?_⟩⟩⟩
  subst elo ehi
  obtain ⟨z, hz, q⟩ := p3.lift
  have rv3 := rv.mono (S2.trans S3).b
  cases x with
  | tup xs =>
    cases hz
    obtain ⟨c, vs, rfl, h1, r1⟩ := rv3
    refine ⟨c, vs, rfl, E3.le.sqT h1, fun hw => ?_, fun _ n hn => q _ _ (E3.alloc _ hn) (Stp.alloc E3 hn) _ ⟨n, _, rfl, .inl (.inl upd_same), (r1.cut _ _).mono (le_upd (le_none E3.le hn))⟩⟩
    rw [r1.length] at hw
    exact q _ _ E3 .refl _ ⟨c, vs, rfl, h1, by rw [cut_whole _ hw]; exact r1⟩
  | _ => cases hz
theorem o_slice2 (ha : OE X g W a f) (hl : OP X g W lo l) (hh : OP X g W hi h) : OE X g W (.Subscript a (.Slice lo hi none p2) pos) (dSlF slD2 f l h) := by
  refine pe_imp (pe_slice sl_str ha hl hh) fun σ H Q ⟨B, δ, E, p⟩ => ⟨B, δ, E, p.bind.mono fun B1 H1 δ1 x E1 S1 p1 v rv => ⟨B1, δ1, E1, p1.bind.mono fun B2 H2 δ2 lo E2 S2 p2 lo' elo => ⟨B2, δ2, E2, p2.bind.mono fun B3 H3 δ3 hi E3 S3 p3 hi' ehi => ?_⟩⟩⟩
  subst elo ehi
  obtain ⟨z, hz, q⟩ := p3.lift
  have rv3 := rv.mono (S2.trans S3).b
  cases x with
  | str y =>
    cases rv3
    have hz : (if y.length ≤ 100000 then some (D.str (cutS y lo' hi')) else none) = some z := hz
    split at hz
    · rename_i c
      cases hz
      exact ⟨y, rfl, Nat.le_trans c (by decide), q _ _ E3 .refl _ rfl⟩
    · cases hz
  | _ => cases hz
theorem o_slice (ha : OE X g W a f) (hl : OP X g W lo l) (hh : OP X g W hi h) : OE X g W (.Subscript a (.Slice lo hi none p2) pos) (dSl f l h) := by
  have key : ∀ δ, dSl f l h δ = dSl0 f l h δ ∨ dSl f l h δ = dSlF slD1 f l h δ ∨ dSl f l h δ = dSlF slD2 f l h δ := fun δ => by
    unfold dSl dSl0 dSlF
    cases f δ with
    | stuck => exact .inl rfl
    | exc c gs δ1 => exact .inl rfl
    | ok x δ1 =>
      simp only [Res.bind]
      cases l δ1 with
      | stuck => exact .inl rfl
      | exc c gs δ2 => exact .inl rfl
      | ok lo δ2 =>
        simp only []
        cases h δ2 with
        | stuck => exact .inl rfl
        | exc c gs δ3 => exact .inl rfl
        | ok hi δ3 => cases x <;> first | exact .inl rfl | exact .inr (.inl rfl) | exact .inr (.inr rfl)
  refine ⟨fun pins s σ H Q I ⟨B, δ, E, p⟩ => ?_⟩
  rcases key δ with q | q | q
  · exact (o_slice0 ha hl hh).run pins s σ H Q I ⟨B, δ, E, by rw [← q]; exact p⟩
  · exact (o_slice1 ha hl hh).run pins s σ H Q I ⟨B, δ, E, by rw [← q]; exact p⟩
  · exact (o_slice2 ha hl hh).run pins s σ H Q I ⟨B, δ, E, by rw [← q]; exact p⟩
/-! -x -/
def negD : D → Option D
  | .int i => some (.int (-i))
  | _ => none
def dNeg (f : Den D) : Den D := fun δ => (f δ).bind fun x δ1 => .lift (negD x) δ1
theorem o_neg (ha : OE X g W a f) : OE X g W (.UnaryOp .USub a pos) (dNeg f) := by
  refine pe_imp (pe_un un_neg ha) fun σ H Q ⟨B, δ, E, p⟩ => ⟨B, δ, E, p.bind.mono fun B1 H1 δ1 x E1 S1 p1 v rv => ?_⟩
  obtain ⟨z, hz, q⟩ := p1.lift
  cases x with
  | int i =>
    cases hz
    cases rv
    exact ⟨i, rfl, q _ _ E1 .refl _ rfl⟩
  | _ => cases hz
end
/-! xs * n, text * n, i * j -/
def repL {α : Type} (n : Nat) (xs : List α) : List α := (List.replicate n xs).flatten
theorem RepL.rep {K : PySem.W.Frag} {B : Hp} {ds : List D} {vs : List V} (r : RepL K B ds vs) : ∀ n : Nat, RepL K B (repL n ds) (repL n vs)
  | 0 => rfl
  | n + 1 => by
    unfold repL
    rw [List.replicate_succ, List.flatten_cons, List.replicate_succ, List.flatten_cons]
    exact r.append (RepL.rep r n)
def repD : D → D → Option D
  | .lst xs, .int k => if -(2 ^ 63) ≤ k ∧ k < 2 ^ 63 ∧ xs.length * k.toNat ≤ 100000 then some (.lst (repL k.toNat xs)) else none
  | _, _ => none
def mulTD : D → D → Option D
  | .str x, .int k => if 1 ≤ k ∧ k ≤ 1000 ∧ x.length ≤ 1000 then some (.str (PySem.Txt.mul x k)) else none
  | _, _ => none
def mulA : D → D → Option D
  | .int i, .int j => if mulOk i j = true then some (.int (i * j)) else none
  | .lst xs, .int k => if -(2 ^ 63) ≤ k ∧ k < 2 ^ 63 ∧ xs.length * k.toNat ≤ 100000 then some (.lst (repL k.toNat xs)) else none
  | .str x, .int k => if 1 ≤ k ∧ k ≤ 1000 ∧ x.length ≤ 1000 then some (.str (PySem.Txt.mul x k)) else none
  | _, _ => none
theorem ok_rep {K : PySem.W.Frag} : Ok2 K rRep repD := by
  intro g B H σ δ x y d e z Q E rx ry hz q
  cases d with
  | lst xs =>
    cases e with
    | int k =>
      cases ry
      obtain ⟨a, vs, rfl, h1, r⟩ := rx
      have hz : (if -(2 ^ 63) ≤ k ∧ k < 2 ^ 63 ∧ xs.length * k.toNat ≤ 100000 then some (D.lst (repL k.toNat xs)) else none) = some z := hz
      split at hz
      · rename_i c
        cases hz
        exact ⟨a, k, vs, rfl, rfl, E.le _ _ h1, c.1, c.2.1, by rw [r.length]; exact Nat.le_trans c.2.2 (by decide), fun n hn => q _ _ _ (E.alloc _ hn) (Stp.alloc E hn) ⟨n, _, rfl, upd_same, (r.rep _).mono (le_upd (le_none E.le hn))⟩⟩
      · cases hz
    | _ => cases hz
  | _ => cases hz
abbrev rMulT : R2 := fun x y H Q => ∃ z k, x = .str z ∧ y = .int k ∧ 1 ≤ k ∧ k ≤ 1000 ∧ z.length ≤ 1000 ∧ Q (.str (PySem.Txt.mul z k)) H
theorem op_mulT {X : Cx} : OpR X (binaryOp .Mult) rMulT := by
  intro pins s σ H x y v u Q I rx ry h
  obtain ⟨z, k, rfl, rfl, h1, h2, hz, q⟩ := h
  obtain ⟨t, rfl⟩ := rx
  obtain ⟨t', rfl⟩ := ry
  refine PySem.SB.mul ⟨?_, fun _ _ => ?_, fun _ _ => ?_⟩ fun t' k' => ⟨.str _, H, I.tok _, ⟨_, rfl⟩, q⟩
  · rw [decide_eq_false (by omega), decide_eq_false (by omega)]
    rfl
  · have : (z.length : Int) ≤ 1000 := by omega
    have h3 : (1000 : Int) ≤ (2 ^ 63 - 1) / k := by
      refine (Int.le_ediv_iff_mul_le (by omega)).mpr ?_
      omega
    omega
  · have h3 : z.length * k.toNat ≤ 1000 * 1000 := Nat.mul_le_mul hz (by omega)
    unfold Builtin.Str.tooLong
    exact decide_eq_false (by rw [sizeLine_eq]; omega)
theorem ok_mulT {K : PySem.W.Frag} : Ok2 K rMulT mulTD := by
  intro g B H σ δ x y d e z Q E rx ry hz q
  cases d with
  | str w =>
    cases e with
    | int k =>
      cases rx
      cases ry
      have hz : (if 1 ≤ k ∧ k ≤ 1000 ∧ w.length ≤ 1000 then some (D.str (PySem.Txt.mul w k)) else none) = some z := hz
      split at hz
      · rename_i c
        cases hz
        exact ⟨w, k, rfl, rfl, c.1, c.2.1, c.2.2, q _ _ _ E .refl rfl⟩
      · cases hz
    | _ => cases hz
  | _ => cases hz
section
variable {X : Cx} {g : G} {W : WX} {a b e : Expr} {es : List Expr} {f k u : Den D} {fs : Den (List D)} {x : Str} {p px pos apos cpos : Pos}
theorem o_mulA (ha : OE X g W a f) (hb : OE X g W b k) : OE X g W (.BinOp a .Mult b pos) (dOp mulA f k) := by
  have h : ∀ x y, mulA x y = mulD x y ∨ mulA x y = repD x y ∨ mulA x y = mulTD x y := fun x y => by
    cases x <;> cases y <;> first | exact .inl rfl | exact .inr (.inl rfl) | exact .inr (.inr rfl)
  have h2 : ∀ δ, dOp mulA f k δ = dOp mulD f k δ ∨ dOp mulA f k δ = dOp repD f k δ ∨ dOp mulA f k δ = dOp mulTD f k δ := fun δ => by
    unfold dOp
    cases f δ with
    | stuck => exact .inl rfl
    | exc c fs δ1 => exact .inl rfl
    | ok x δ1 =>
      simp only [Res.bind]
      cases k δ1 with
      | stuck => exact .inl rfl
      | exc c fs δ2 => exact .inl rfl
      | ok y δ2 =>
        rcases h x y with e | e | e
        · exact .inl (by simp only [e])
        · exact .inr (.inl (by simp only [e]))
        · exact .inr (.inr (by simp only [e]))
  refine ⟨fun pins s σ H Q I ⟨B, δ, E, p⟩ => ?_⟩
  rcases h2 δ with q | q | q
  · exact (o_op op_mulU ok_mul ha hb).run pins s σ H Q I ⟨B, δ, E, by rw [← q]; exact p⟩
  · exact (o_op op_rep ok_rep ha hb).run pins s σ H Q I ⟨B, δ, E, by rw [← q]; exact p⟩
  · exact (o_op op_mulT ok_mulT ha hb).run pins s σ H Q I ⟨B, δ, E, by rw [← q]; exact p⟩
end
/-! methods of texts: by value -/
def OkV (K : PySem.W.Frag) (r : V → List V → Hp → VK → Prop) (fn : Str → List D → Option D) : Prop := ∀ (g : G) (B H : Hp) (σ : St) (δ : List Sl) (x : Str) (xs : List V) (ds : List D) (z : D) (Q : VK), EnvOk K g B H σ δ → RepL K B ds xs → fn x ds = some z →
  (∀ B' H' v, EnvOk K g B' H' σ δ → Stp B H σ δ B' H' σ δ → Rep K B' z v → Q v H') → r (.str x) xs H Q
def dMd (fn : Str → List D → Option D) (f : Den D) (fs : Den (List D)) : Den D := fun δ => (f δ).bind fun x δ1 => match x with
  | .str y => (fs δ1).bind fun xs δ2 => .lift (fn y xs) δ2
  | _ => .stuck
section
variable {X : Cx} {g : G} {W : WX} {o e : Expr} {es : List Expr} {f k u : Den D} {fs : Den (List D)} {px pos apos cpos : Pos} {name : Str} {id : String} {r : V → List V → Hp → VK → Prop} {fn : Str → List D → Option D}
theorem md_of (hr : OkV X.K r fn) (σ : St) (H : Hp) (Q : VK) (h : tX X.K g W (RlD X.K) (dMd fn f fs) σ H Q) : tBM X.K "str" r (tX X.K g W (RlD X.K) f) (tX X.K g W (RlA X.K) fs) σ H Q := by
  obtain ⟨B, δ, E, p⟩ := h
  refine ⟨B, δ, E, p.bind.mono fun B1 H1 δ1 x E1 S1 p1 v rv => ?_⟩
  cases x with
  | str y =>
    cases rv
    refine ⟨rfl, B1, δ1, E1, p1.bind.mono fun B2 H2 δ2 xs E2 S2 p2 vs rvs => ?_⟩
    obtain ⟨z, hz, q⟩ := p2.lift
    exact hr g B2 H2 σ δ2 y vs xs z Q E2 rvs hz fun B' H' v' E3 S3 rz => q B' H' E3 S3 v' rz
  | _ => exact False.elim p1
theorem o_md (slot : Slot "str" name id) (hty : typeOf (.builtin id) = pure (.type "method_descriptor")) (hm : MtR X id r) (hr : OkV X.K r fn) (ho : OE X g W o f) (ha : OA X g W (e :: es) fs)
    (hbase : attributeBase o name X.env (eval o X.env) = eval o X.env := by rfl)
    (hfew : ((backTo cpos (starEach (e :: es) X.env)).all (fun x => !x.1) && (backToKw cpos (keywordEach [] X.env)).all (fun x => x.1.isSome)
      && decide ((e :: es).length + ([] : List Keyword).length + (if ([] : List Keyword).isEmpty then 0 else 1) < 30)) = true := by rfl)
    (hline : (apos.endLine == cpos.line) = true := by rfl) (hs : starEach (e :: es) X.env = (false, eval e X.env) :: starEach es X.env := by rfl) (hplain : (backTo cpos (starEach es X.env)).any (·.1) = false := by rfl) :
    OE X g W (.Call (.Attribute o name apos) (e :: es) [] cpos) (dMd fn f fs) :=
  pe_imp (pe_bm PySem.F.plainAttrs_str slot hty hm ho ha hbase hfew hline hs hplain) fun σ H Q h => md_of hr σ H Q h
theorem o_md0 (slot : Slot "str" name id) (hty : typeOf (.builtin id) = pure (.type "method_descriptor")) (hm : MtR X id r) (hr : OkV X.K r fn) (ho : OE X g W o f)
    (hbase : attributeBase o name X.env (eval o X.env) = eval o X.env := by rfl) (hline : (apos.endLine == cpos.line) = true := by rfl) :
    OE X g W (.Call (.Attribute o name apos) [] [] cpos) (dMd fn f dNil) :=
  pe_imp (pe_bm0 PySem.F.plainAttrs_str slot hty hm ho hbase hline) fun σ H Q h => by
    obtain ⟨B, δ, E, p⟩ := md_of hr σ H Q h
    exact ⟨B, δ, E, p.mono fun B1 H1 δ1 x E1 S1 p1 v rv => ⟨(p1 v rv).1, by
      obtain ⟨B2, δ2, E2, p2⟩ := (p1 v rv).2
      exact p2 B2 _ E2 .refl [] rfl⟩⟩
end
def endsD : Str → List D → Option D
  | a, [.str b] => some (.bl (Txt.endswith a b))
  | _, _ => none
def startsD : Str → List D → Option D
  | a, [.str b] => some (.bl (Txt.startswith a b))
  | _, _ => none
def findD : Str → List D → Option D
  | a, [.str b] => some (.int (Txt.find a b))
  | _, _ => none
def isdigitD : Str → List D → Option D
  | a, [] => some (.bl (Txt.isdigit a))
  | _, _ => none
def strsOf : List D → Option (List Str)
  | [] => some []
  | .str x :: r => (strsOf r).map (x :: ·)
  | _ => none
theorem strsOf_map : ∀ xs : List Str, strsOf (xs.map D.str) = some xs
  | [] => rfl
  | x :: xs => by
    show (strsOf (xs.map D.str)).map _ = _
    rw [strsOf_map xs]
    rfl
theorem RepL.strsOf {K : PySem.W.Frag} {B : Hp} : ∀ {ds : List D} {vs : List V} {xs : List Str}, RepL K B ds vs → VS.strsOf ds = some xs → vs = xs.map V.str ∧ ds = xs.map D.str
  | [], _, _, r, h => by
    cases h
    rw [show _ = [] from r]
    exact ⟨rfl, rfl⟩
  | d :: ds, _, xs, r, h => by
    obtain ⟨v, w, rfl, h1, h2⟩ := r
    cases d with
    | str x =>
      have h : (VS.strsOf ds).map (x :: ·) = some xs := h
      cases e : VS.strsOf ds with
      | none => rw [e] at h; cases h
      | some ys =>
        rw [e] at h
        cases h
        cases h1
        obtain ⟨e1, e2⟩ := RepL.strsOf h2 e
        exact ⟨by rw [e1]; rfl, by rw [e2]; rfl⟩
    | _ => cases h
def joinD : Str → List D → Option D
  | a, [.lst ys] => match strsOf ys with
    | some xs => if (xs.map (·.length)).sum + xs.length * a.length ≤ 100000 then some (.str (Txt.join a xs)) else none
    | none => none
  | _, _ => none
def splitD : Str → List D → Option D
  | a, [.str b] => if b.length ≠ 0 ∧ a.length ≤ 100000 then some (.lst ((Txt.split a b).map D.str)) else none
  | _, _ => none
section
variable {K : PySem.W.Frag}
theorem ok_ends : OkV K (fun x xs H Q => ∃ a b, x = .str a ∧ xs = [.str b] ∧ Q (.bl (Txt.endswith a b)) H) endsD := by
  intro g B H σ δ x xs ds z Q E r h q
  match ds, h with
  | [.str b], h =>
    obtain ⟨v, w, rfl, h1, h2⟩ := r
    cases (show w = [] from h2)
    cases h1
    cases h
    exact ⟨x, b, rfl, rfl, q _ _ _ E .refl rfl⟩
theorem ok_starts : OkV K (fun x xs H Q => ∃ a b, x = .str a ∧ xs = [.str b] ∧ Q (.bl (Txt.startswith a b)) H) startsD := by
  intro g B H σ δ x xs ds z Q E r h q
  match ds, h with
  | [.str b], h =>
    obtain ⟨v, w, rfl, h1, h2⟩ := r
    cases (show w = [] from h2)
    cases h1
    cases h
    exact ⟨x, b, rfl, rfl, q _ _ _ E .refl rfl⟩
theorem ok_find : OkV K (fun x xs H Q => ∃ a b, x = .str a ∧ xs = [.str b] ∧ Q (.int (Txt.find a b)) H) findD := by
  intro g B H σ δ x xs ds z Q E r h q
  match ds, h with
  | [.str b], h =>
    obtain ⟨v, w, rfl, h1, h2⟩ := r
    cases (show w = [] from h2)
    cases h1
    cases h
    exact ⟨x, b, rfl, rfl, q _ _ _ E .refl rfl⟩
theorem ok_isdigit : OkV K (fun x xs H Q => ∃ a, x = .str a ∧ xs = [] ∧ True ∧ Q (.bl (Txt.isdigit a)) H) isdigitD := by
  intro g B H σ δ x xs ds z Q E r h q
  match ds, h with
  | [], h =>
    cases h
    exact ⟨x, rfl, r, True.intro, q _ _ _ E .refl rfl⟩
theorem ok_join : OkV K (fun x xs H Q => ∃ a p, ∃ ys : List Str, x = .str a ∧ xs = [.ref p] ∧ (SqL K H p (ys.map V.str) ∨ SqT K H p (ys.map V.str)) ∧ (ys.map (·.length)).sum + ys.length * a.length ≤ 16777216 ∧ Q (.str (Txt.join a ys)) H) joinD := by
  intro g B H σ δ x xs ds z Q E r h q
  match ds, h with
  | [.lst ys], h =>
    obtain ⟨v, w, rfl, h1, h2⟩ := r
    cases (show w = [] from h2)
    obtain ⟨a, vs, rfl, hB, r1⟩ := h1
    cases e : strsOf ys with
    | none => simp only [joinD, e] at h; cases h
    | some zs =>
      simp only [joinD, e] at h
      split at h
      · rename_i c
        cases h
        obtain ⟨e1, _⟩ := r1.strsOf e
        exact ⟨x, a, zs, rfl, rfl, .inl (SqL.of (by rw [← e1]; exact E.le _ _ hB)), Nat.le_trans c (by decide), q _ _ _ E .refl rfl⟩
      · cases h
theorem ok_split : OkV K (fun x xs H Q => ∃ a b, x = .str a ∧ xs = [.str b] ∧ (b.length == 0) = false ∧ a.length + 2 ≤ sizeLine ∧ rNewStrs (Txt.split a b) H Q) splitD := by
  intro g B H σ δ x xs ds z Q E r h q
  match ds, h with
  | [.str b], h =>
    obtain ⟨v, w, rfl, h1, h2⟩ := r
    cases (show w = [] from h2)
    cases h1
    have h : (if b.length ≠ 0 ∧ x.length ≤ 100000 then some (D.lst ((Txt.split x b).map D.str)) else none) = some z := h
    split at h
    · rename_i c
      cases h
      refine ⟨x, b, rfl, rfl, by simpa using c.1, Nat.le_trans (Nat.add_le_add_right c.2 2) (by decide), fun n hn => q _ _ _ (E.alloc _ hn) (Stp.alloc E hn) ⟨n, _, rfl, upd_same, RepL.strs _⟩⟩
    · cases h
end
/-! str(i), int(text), a sign in a text -/
def strD : List D → Option D
  | [.int i] => if i.natAbs.log2 < 1920 then some (.str (toString i)) else none
  | _ => none
theorem ok_str {K : PySem.W.Frag} : OkB K (fun xs H Q => ∃ i, xs = [.int i] ∧ i.natAbs.log2 < 1920 ∧ Q (.str (toString i)) H) strD := by
  intro g B H σ δ xs ds z Q E r h q
  match ds, h with
  | [.int i], h =>
    obtain ⟨v, w, rfl, h1, h2⟩ := r
    cases (show w = [] from h2)
    cases h1
    have h : (if i.natAbs.log2 < 1920 then some (D.str (toString i)) else none) = some z := h
    split at h
    · rename_i c
      cases h
      exact ⟨i, rfl, c, q _ _ _ E .refl rfl⟩
    · cases h
def intTD : List D → Option D
  | [.str x] => if x.length ≤ 640 then (PySem.intText? x).map D.int else none
  | _ => none
theorem ok_intT {K : PySem.W.Frag} : OkB K (fun xs H Q => ∃ a n, xs = [.str a] ∧ PySem.intText? a = some n ∧ a.length ≤ 640 ∧ Q (.int n) H) intTD := by
  intro g B H σ δ xs ds z Q E r h q
  match ds, h with
  | [.str x], h =>
    obtain ⟨v, w, rfl, h1, h2⟩ := r
    cases (show w = [] from h2)
    cases h1
    have h : (if x.length ≤ 640 then (PySem.intText? x).map D.int else none) = some z := h
    split at h
    · rename_i c
      cases e : PySem.intText? x with
      | none => rw [e] at h; cases h
      | some n =>
        rw [e] at h
        cases h
        exact ⟨x, n, rfl, e, c, q _ _ _ E .refl rfl⟩
    · cases h
def intA : List D → Option D
  | [.int i] => some (.int i)
  | [.bl b] => some (.int (if b then 1 else 0))
  | [.str x] => if x.length ≤ 640 then (PySem.intText? x).map D.int else none
  | _ => none
theorem intA_two (xs : List D) : intA xs = intD xs ∨ intA xs = intTD xs := by
  match xs with
  | [] => exact .inl rfl
  | [d] => cases d <;> first | exact .inl rfl | exact .inr rfl
  | d :: _ :: _ => cases d <;> exact .inl rfl
/-- the signs that stand in a text -/
def hasSign (z : Str) (x : Str) : Option Bool := match x.cps.toList with
  | [c] => some (decide (c ∈ z.cps.toList))
  | _ => none
def inSign : D → D → Option D
  | .str x, .str z => (hasSign z x).map .bl
  | _, _ => none
def notInSign : D → D → Option D
  | .str x, .str z => (hasSign z x).map fun b => .bl (!b)
  | _, _ => none
theorem one_sign {x z : Str} {b : Bool} (h : hasSign z x = some b) : ∃ c, x = ⟨#[c]⟩ ∧ b = decide (c ∈ z.cps.toList) := by
  unfold hasSign at h
  split at h
  · rename_i c e
    cases h
    refine ⟨c, ?_, rfl⟩
    have : x.cps = #[c] := by
      rw [← Array.toList_inj]
      exact e
    cases x
    simp only at this
    rw [this]
  · cases h
theorem ok_inSign {K : PySem.W.Frag} : Ok2 K (fun x y H Q => ∃ (c : Nat) (z : Str), x = .str ⟨#[c]⟩ ∧ y = .str z ∧ Q (.bl (decide (c ∈ z.cps.toList))) H) inSign := by
  intro g B H σ δ x y d e z Q E rx ry hz q
  cases d with
  | str w =>
    cases e with
    | str t =>
      cases rx
      cases ry
      have hz : (hasSign t w).map D.bl = some z := hz
      cases e : hasSign t w with
      | none => rw [e] at hz; cases hz
      | some b =>
        rw [e] at hz
        cases hz
        obtain ⟨c, rfl, rfl⟩ := one_sign e
        exact ⟨c, t, rfl, rfl, q _ _ _ E .refl rfl⟩
    | _ => cases hz
  | _ => cases hz
theorem ok_notInSign {K : PySem.W.Frag} : Ok2 K (fun x y H Q => ∃ (c : Nat) (z : Str), x = .str ⟨#[c]⟩ ∧ y = .str z ∧ Q (.bl (!decide (c ∈ z.cps.toList))) H) notInSign := by
  intro g B H σ δ x y d e z Q E rx ry hz q
  cases d with
  | str w =>
    cases e with
    | str t =>
      cases rx
      cases ry
      have hz : ((hasSign t w).map fun b => D.bl (!b)) = some z := hz
      cases e : hasSign t w with
      | none => rw [e] at hz; cases hz
      | some b =>
        rw [e] at hz
        cases hz
        obtain ⟨c, rfl, rfl⟩ := one_sign e
        exact ⟨c, t, rfl, rfl, q _ _ _ E .refl rfl⟩
    | _ => cases hz
  | _ => cases hz
def inT : D → D → Option D
  | .str x, .str z => (hasSign z x).map .bl
  | d, e => inA d e
def notInT : D → D → Option D
  | .str x, .str z => (hasSign z x).map fun b => .bl (!b)
  | d, e => notInA d e
theorem inT_two (x y : D) : inT x y = inA x y ∨ inT x y = inSign x y := by cases x <;> first | exact .inl rfl | (cases y <;> first | exact .inl rfl | exact .inr rfl)
theorem notInT_two (x y : D) : notInT x y = notInA x y ∨ notInT x y = notInSign x y := by cases x <;> first | exact .inl rfl | (cases y <;> first | exact .inl rfl | exact .inr rfl)
section
variable {X : Cx} {g : G} {W : WX} {a b e : Expr} {es : List Expr} {f k u : Den D} {fs : Den (List D)} {x : Str} {p px pos apos cpos : Pos}
theorem o_inT (hu : X.A.units + 64 < cLine) (ha : OE X g W a f) (hb : OE X g W b k) (hm : behindInMarks .In b = false := by rfl) : OE X g W (.Compare a [.In] [b] pos) (dOp inT f k) :=
  oe_or (o_in hu ha hb hm) (o_cmp op_in_sign ok_inSign ha hb hm) fun δ => dOp_two inT_two δ
theorem o_notInT (hu : X.A.units + 64 < cLine) (ha : OE X g W a f) (hb : OE X g W b k) (hm : behindInMarks .NotIn b = false := by rfl) : OE X g W (.Compare a [.NotIn] [b] pos) (dOp notInT f k) :=
  oe_or (o_notIn hu ha hb hm) (o_cmp op_notIn_sign ok_notInSign ha hb hm) fun δ => dOp_two notInT_two δ
theorem o_intA (hg : Gl X x) (hm : X.mg x = none) (hv : bootBuiltins x = some (.type "int")) (ha : OA X g W [e] fs) (hn : x ≠ "__name__" := by decide) (hdb : (x == ("__debug__" : Str)) = false := by decide)
    (hh : starEach [e] X.env = (false, eval e X.env) :: starEach [] X.env := by rfl) (hpl : (backTo pos (starEach [] X.env)).any (·.1) = false := by rfl) : OE X g W (.Call (.Name x p) [e] [] pos) (dB intA fs) :=
  oe_or (o_callTy call_int1 ok_int1 hg hm hv ha hn hdb hh hpl) (o_callTy call_int_str ok_intT hg hm hv ha hn hdb hh hpl) fun δ => dB_two intA_two δ
end
end VS
end

section
set_option Elab.async false
set_option linter.all false
set_option maxRecDepth 100000
set_option maxHeartbeats 2000000
/-! VT, part 7: sorting of texts, of any length. -/
namespace VS
open PySem PySem.Spec PyProof.Rows L2 SrtO
def ltS (a b : Str) : Bool := decide (a.cps.toList < b.cps.toList)
theorem ltS_irr (a : Str) : ltS a a = false := decide_eq_false (List.lt_irrefl _)
theorem ltS_trans {a b c : Str} (h : ltS a b = true) (h' : ltS b c = true) : ltS a c = true := decide_eq_true (List.lt_trans (of_decide_eq_true h) (of_decide_eq_true h'))
theorem ltS_asymm {a b : Str} (h : ltS a b = true) : ltS b a = false := by
  cases e : ltS b a with
  | false => rfl
  | true =>
    have := ltS_trans h e
    rw [ltS_irr] at this
    cases this
theorem ltS_eq {a b : Str} (h : ltS a b = false) (h' : ltS b a = false) : a = b := by
  have h1 : b.cps.toList ≤ a.cps.toList := List.not_lt.mp (of_decide_eq_false h)
  have h2 : a.cps.toList ≤ b.cps.toList := List.not_lt.mp (of_decide_eq_false h')
  have e := List.le_antisymm h2 h1
  cases a
  cases b
  simp only at e
  rw [Array.toList_inj.mp e]
theorem ltS_le_trans {a b c : Str} (h : ltS b a = false) (h' : ltS c b = false) : ltS c a = false := by
  cases e : ltS c a with
  | false => rfl
  | true =>
    cases e2 : ltS a b with
    | true =>
      have := ltS_trans e e2
      rw [h'] at this
      cases this
    | false =>
      have := ltS_eq e2 h
      subst this
      rw [h'] at e
      cases e
def insS (x : Str) : List Str → List Str
  | [] => [x]
  | y :: ys => if ltS y x then y :: insS x ys else x :: y :: ys
def sortS : List Str → List Str
  | [] => []
  | x :: xs => insS x (sortS xs)
def SS (l : List Str) : Prop := l.Pairwise fun a b => ltS b a = false
theorem insS_perm (x : Str) : ∀ ys : List Str, (insS x ys).Perm (x :: ys)
  | [] => List.Perm.refl _
  | y :: ys => by
    unfold insS
    split
    · exact ((insS_perm x ys).cons y).trans (List.Perm.swap x y ys)
    · exact List.Perm.refl _
theorem sortS_perm : ∀ xs : List Str, (sortS xs).Perm xs
  | [] => List.Perm.refl _
  | x :: xs => (insS_perm x _).trans ((sortS_perm xs).cons x)
theorem insS_ss (x : Str) : ∀ ys : List Str, SS ys → SS (insS x ys)
  | [], _ => List.pairwise_singleton _ _
  | y :: ys, h => by
    have h1 := List.pairwise_cons.mp h
    unfold insS
    split
    · rename_i c
      refine List.pairwise_cons.mpr ⟨fun z hz => ?_, insS_ss x ys h1.2⟩
      rcases List.mem_cons.mp ((insS_perm x ys).mem_iff.mp hz) with e | e
      · subst e
        exact ltS_asymm c
      · exact h1.1 z e
    · rename_i c
      have c : ltS y x = false := by simpa using c
      refine List.pairwise_cons.mpr ⟨fun z hz => ?_, h⟩
      rcases List.mem_cons.mp hz with e | e
      · subst e
        exact c
      · exact ltS_le_trans c (h1.1 z e)
theorem sortS_ss : ∀ xs : List Str, SS (sortS xs)
  | [] => List.Pairwise.nil
  | x :: xs => insS_ss x _ (sortS_ss xs)
theorem ss_uniq : ∀ {xs ys : List Str}, SS xs → SS ys → xs.Perm ys → xs = ys
  | [], ys, _, _, p => (List.nil_perm.mp p).symm ▸ rfl
  | x :: xs, [], _, _, p => by cases List.perm_nil.mp p
  | x :: xs, y :: ys, h, h', p => by
    have h1 := List.pairwise_cons.mp h
    have h2 := List.pairwise_cons.mp h'
    have e : x = y := by
      have hx : x ∈ y :: ys := p.mem_iff.mp List.mem_cons_self
      have hy : y ∈ x :: xs := p.mem_iff.mpr List.mem_cons_self
      rcases List.mem_cons.mp hx with e | e
      · exact e
      · rcases List.mem_cons.mp hy with e2 | e2
        · exact e2.symm
        · exact ltS_eq (h1.1 y e2 |> fun q => by
            cases z : ltS x y with
            | false => rfl
            | true =>
              have := h2.1 x e
              rw [z] at this
              cases this) (h1.1 y e2)
    subst e
    rw [ss_uniq h1.2 h2.2 (List.perm_cons x |>.mp p)]
theorem sortS_of {xs ys : List Str} (p : ys.Perm xs) (h : SS ys) : ys = sortS xs := ss_uniq h (sortS_ss xs) (p.trans (sortS_perm xs).symm)
/-! the machine's sort -/
def sv : Value → Str
  | .str x _ => x
  | _ => Str.empty
def ltSv (v u : Value) : Bool := ltS (sv v) (sv u)
theorem swo_str : Swo ltSv := ⟨fun x y h => ltS_asymm h, fun x y z h1 h2 => ltS_le_trans h1 h2⟩
theorem strs_mem : ∀ {vs : List Value} {ns : List Str}, StrsAre vs ns → ∀ v ∈ vs, ∃ i t, v = Value.str i t
  | _, _, .nil, v, h => absurd h (by simp)
  | _, _, .cons n t r, v, h => by
    rcases List.mem_cons.mp h with e | h
    · exact ⟨n, t, e⟩
    · exact strs_mem r v h
theorem strs_sv : ∀ {vs : List Value}, (∀ v ∈ vs, ∃ i t, v = Value.str i t) → StrsAre vs (vs.map sv)
  | [], _ => .nil
  | v :: vs, h => by
    obtain ⟨i, t, e⟩ := h v List.mem_cons_self
    subst e
    exact .cons i t (strs_sv fun u hu => h u (List.mem_cons_of_mem _ hu))
theorem sv_strs : ∀ {vs : List Value} {ns : List Str}, StrsAre vs ns → vs.map sv = ns
  | _, _, .nil => rfl
  | _, _, .cons n t r => congrArg (n :: ·) (sv_strs r)
section
variable {prog : Program} {w : World} {A : Around} {E : Value → Shared → Prop} {s : Shared}
theorem str_cmp {vs : List Value} {ns : List Str} (hI : StrsAre vs ns) : Cmp prog w A s oneType' (fun p => p.1 ∈ vs) (lt2 ltSv) := by
  intro p q hm hm'
  obtain ⟨a, t, e⟩ := strs_mem hI _ hm
  obtain ⟨b, u, e'⟩ := strs_mem hI _ hm'
  show wpAny (model prog w) A (keyLt' oneType' p.1 q.1) (fun r s' => s' = s ∧ r = ltSv p.1 q.1) (fun _ _ => False) s
  rw [e, e', keyLt'_oneType]
  exact oneLt_str ⟨rfl, rfl⟩
theorem strs_sortable {a : Addr} {vs : List Value} {ns : List Str} (hI : StrsAre vs ns) (h2 : 2 ≤ vs.length) : SortableO prog w A s a vs ltSv := by
  intro h' _
  refine ⟨oneType', fun Q E hq => ?_, str_cmp hI⟩
  match vs, hI, h2 with
  | v1 :: v2 :: rest, hI, _ =>
    rw [keyKind_strs hI]
    exact wpAny_pure hq
  | [], _, h => exact absurd h (by decide)
  | [v], _, h => exact absurd h (by simp)
theorem strs_out {vs out : List Value} {ns : List Str} (hI : StrsAre vs ns) (hs : Srtd ltSv out) (hb : Stb ltSv out vs) : StrsAre out (out.map sv) ∧ out.map sv = sortS ns := by
  refine ⟨strs_sv fun v hv => strs_mem hI v (hb.perm.mem_iff.mp hv), sortS_of ?_ ?_⟩
  · have q := hb.perm.map sv
    rw [sv_strs hI] at q
    exact q
  · exact List.pairwise_map.mpr (hs.imp fun {x y} h => h)
end
abbrev rSortT (K : PySem.W.Frag) : List V → Hp → VK → Prop := fun vs H Q => ∃ (a : Addr) (ns : List Str), vs = [V.ref a] ∧ SqL K H a (ns.map V.str) ∧ ∀ p : Addr, H p = none → Q (.ref p) (upd H p (.lst ((sortS ns).map V.str)))
abbrev rSortDT : List V → Hp → VK → Prop := fun vs H Q => ∃ (a : Addr) (kvs : List (Key × V)) (ks : List Str), vs = [V.ref a] ∧ Rd H a (.dK kvs) ∧ kvs.map (·.1) = ks.map Sum.inr ∧ ∀ p : Addr, H p = none → Q (.ref p) (upd H p (.lst ((sortS ks).map V.str)))
section
variable {X : Cx}
theorem cr_sortT : CallR X (.builtin "sorted") (rSortT X.K) := by
  intro pins s σ H vs us Q I r h
  obtain ⟨a, ns, rfl, hs, q⟩ := h
  obtain ⟨its, rv, hl, hz⟩ := I.list hs
  rw [Vals.ref1 r]
  have hi := rv.strs
  refine SrtO.sorted_ord swo_str hl.isList (by rw [← rv.length]; exact hz) (fun h2 h₁ a' _ _ => strs_sortable hi h2) fun out h1 h2 => ?_
  obtain ⟨k1, k2⟩ := strs_out hi h1 h2
  obtain ⟨ep, he'⟩ := PyProof.Rows.sortedAll_at s.heap its out.toArray
  rw [k2] at k1
  have hlen : ((sortS ns).map V.str).length ≤ sizeLine := by
    rw [List.length_map, (sortS_perm ns).length_eq]
    rw [List.length_map] at hz
    exact hz
  exact ⟨.ref _, upd H (s.heap.objs.size + 1) (.lst ((sortS ns).map V.str)), I.laid (t' := s.toks) (fun _ _ => PyProof.Rows.sortedAll_old) (Nat.le_succ _) ⟨hlen, out, ep, vals_of_strs k1, he'⟩, rfl, q _ (I.hok.fresh (Nat.le_succ _))⟩
theorem cr_sortDT (hcalm : X.calm = true) : CallR X (.builtin "sorted") rSortDT := by
  intro pins s σ H xs us Q I r q
  obtain ⟨a, kvs, ks, ex, hd, hks, q⟩ := q
  subst ex
  obtain ⟨u, eu, rx⟩ := Vals.one r
  subst eu
  cases rx
  obtain ⟨z, lo, vs, rel, dd⟩ := dk_rd I.hok hd
  obtain ⟨ep, hat⟩ := dd.dictAt
  have hkeys : vs.map (·.1) = ks.map Sum.inr := rel.keys.symm.trans hks
  have hl : vs.length = ks.length := by
    have e := congrArg List.length hkeys
    rw [List.length_map, List.length_map] at e
    exact e
  have h16 : vs.length ≤ sizeLine := by rw [← rel.length]; exact z
  refine Calls.call_function_entry PyProof.Rows.kind_sorted PyProof.Rows.plain_sorted PyProof.Rows.entry_sorted (PyProof.Rows.args_sorted1 _) ?_
  unfold Builtin.«sorted»
  refine wpAny_bind (m := checkCount "sorted" 1 1 _) (wpAny_pure ?_)
  refine wpAny_bind (PySem.W.kdu_collect (A := X.A.in1) (PySem.W.kdl_dict (knd := mixKind X.prog X.w) (kvs := vs) (ep := ep) lo) (I.ok.hd hcalm) hat h16 fun h' tk acc hk hacc => ?_)
  have hal : acc.toList.length = ks.length := by rw [Array.length_toList, hacc.1, hl]
  have hS : StrsAre acc.toList ks := strs_at hal fun j v e => by
    obtain ⟨k, x, e1, e2⟩ := hacc.2 j v (by rw [← Array.getElem?_toList]; exact e)
    have e3 : (vs.map (·.1))[j]? = some k := by rw [List.getElem?_map, e1]; all_goals rfl
    rw [hkeys, List.getElem?_map] at e3
    cases e4 : ks[j]? with
    | none => rw [e4] at e3; cases e3
    | some y =>
      rw [e4] at e3
      have e5 : Sum.inr y = k := Option.some.inj e3
      subst e5
      obtain ⟨t, ev⟩ := Value.isStrOf_shape (x := y) (v := v) e2
      exact ⟨y, t, rfl, ev⟩
  have I1 : Inv X pins σ H { s with heap := h', toks := tk } := I.kept hk
  have hz2 : acc.toList.length ≤ sizeLine := by rw [hal, ← hl]; exact h16
  refine wpAny_bind (wpAny_newList ?_ hz2)
  have hoL : (h'.push (seqObj "list" acc.toList.toArray 0)).get? h'.objs.size = some (seqObj "list" acc.toList.toArray 0) := Heap.get?_push_size _ rfl
  show wpAny _ _ _ _ _ { s with heap := h'.push (seqObj "list" acc.toList.toArray 0), toks := tk }
  refine wpAny_bind (wpAny_holding (wpAny_call_entry PyProof.Rows.slot_list_sort ⟨_, hoL, rfl⟩ PyProof.Rows.entry_list_sort
    (SrtO.list_sort_ord swo_str (s := { s with heap := h'.push (seqObj "list" acc.toList.toArray 0), toks := tk }) hoL hz2 (fun h2 => strs_sortable hS h2) fun out hs hb => ⟨_, rfl, ?_⟩)
    (PyProof.Rows.args_list_sort _)))
  obtain ⟨k1, k2⟩ := strs_out hS hs hb
  obtain ⟨ep2, he2⟩ := PyProof.Rows.sortedHeap_at (vs := acc.toList) (out := out.toArray) hoL
  rw [k2] at k1
  have hlen : ((sortS ks).map V.str).length ≤ sizeLine := by
    rw [List.length_map, (sortS_perm ks).length_eq, ← hl]
    exact h16
  refine wpAny_pure ⟨_, rfl, ?_⟩
  exact ⟨.ref _, upd H h'.objs.size (.lst ((sortS ks).map V.str)), I1.laid (t' := tk) (fun b u hb => by
    rw [PyProof.Rows.sortedHeap_old (Nat.ne_of_lt (Heap.lt_size hb)) (by rw [Heap.size_push]; exact Nat.lt_succ_of_lt (Heap.lt_size hb))]
    exact Heap.get?_push_of_some _ hb) (Nat.le_refl _) ⟨hlen, out, ep2, vals_of_strs k1, he2⟩, rfl, q _ (I1.hok.fresh (Nat.le_refl _))⟩
end
end VS
end

section
set_option Elab.async false
set_option linter.all false
set_option maxRecDepth 100000
set_option maxHeartbeats 2000000
/-! VT, part 8: dict comprehensions; built-ins that give something new; f-strings; calls by keywords. -/
namespace VS
open PySem PySem.Spec PyProof.Rows L2
def dcL (vs : List Nat) (s : Tgt) (t : Den Bool) (f fv : Den D) : List D → List Sl → Res (List (Key × D))
  | [], δ => .ok [] δ
  | d :: ds, δ => match s d δ with
    | none => .stuck
    | some δ1 => (t δ1).noexc.bind fun b δ2 => match b with
      | true => (f δ2).noexc.bind fun y δ3 => (fv δ3).noexc.bind fun z δ3 => (match keyD y, wipeC vs δ3 with
        | some k, some δ4 => (dcL vs s t f fv ds δ4).bind fun ys δ5 => .ok ((k, z) :: ys) δ5
        | _, _ => .stuck)
      | false => (match wipeC vs δ2 with
        | some δ4 => dcL vs s t f fv ds δ4
        | none => .stuck)
def dDc (fi : Den (List D)) (vs : List Nat) (s : Tgt) (t : Den Bool) (f fv : Den D) : Den O := fun δ => (fi δ).bind fun ds δ1 => match noOwn δ1 vs with
  | true => (match wipeC vs δ1 with
    | some δw => (dcL vs s t f fv ds δw).bind fun ys δ2 => (match decide (ys.length ≤ 100000) with
      | true => .ok (.dct (dMrg [] ys)) (restore δ1 vs δ2)
      | false => .stuck)
    | none => .stuck)
  | false => .stuck
theorem dcL_ne {vs : List Nat} {s : Tgt} {t : Den Bool} {f fv : Den D} : ∀ (ds : List D) (δ : List Sl) {c : Nat} {fs : List (Str × D)} {δ' : List Sl}, dcL vs s t f fv ds δ ≠ .exc c fs δ'
  | [], δ, c, fs, δ' => fun h => by cases h
  | d :: ds, δ, c, fs, δ' => by
    unfold dcL
    split
    · exact fun h => by cases h
    · refine Res.bind_ne (fun _ _ _ => Res.noexc_ne) fun b δ2 => ?_
      cases b with
      | false =>
        dsimp only
        split
        · exact dcL_ne ds _
        · exact fun h => by cases h
      | true =>
        dsimp only
        refine Res.bind_ne (fun _ _ _ => Res.noexc_ne) fun y δ3 => ?_
        refine Res.bind_ne (fun _ _ _ => Res.noexc_ne) fun z δ3 => ?_
        split
        · exact Res.bind_ne (fun _ _ _ => dcL_ne ds _) fun ys δ5 h => by cases h
        · exact fun h => by cases h
/-- the new dict, held by nobody -/
def LooseD (B H : Hp) (σ : St) (δ : List Sl) (a : Addr) (xs : List (Key × V)) : Prop := H a = some (.dK xs) ∧ B a = none ∧ ¬ Ow σ δ a
theorem LooseD.on {B H B' H' : Hp} {σ σ' : St} {δ δ' : List Sl} {a : Addr} {xs : List (Key × V)} (l : LooseD B H σ δ a xs) (S : Stp B H σ δ B' H' σ' δ') : LooseD B' H' σ' δ' a xs := by
  obtain ⟨h1, h2, h3⟩ := l
  refine ⟨S.fr a _ h1 h3, ?_, fun w => ?_⟩
  · cases z : B' a with
    | none => rfl
    | some w =>
      rcases S.nb a w z h2 with h | h
      · rw [h1] at h
        cases h
      · exact absurd h h3
  · rcases S.ow a w with h | h
    · exact h3 h
    · rw [h1] at h
      cases h
section
variable {X : Cx} {g : G} {W : WX} {fi : Den (List D)} {s : Tgt} {ts vs : List Nat} {t : Den Bool} {f fv : Den D}
theorem dc_of (hts : ∀ i ∈ ts, i ∈ vs) (σ : St) (H : Hp) (Q : VK) (h : tX X.K g W (RlN X.K) (dDc fi vs s t f fv) σ H Q) : tDc (tI X.K g W fi) (tG X.K g ts s) (tX X.K g WF RlB t) (tX X.K g WF (RlD X.K) f) (tX X.K g WF (RlD X.K) fv) vs σ H Q := by
  obtain ⟨B, δ, E, p⟩ := h
  refine ⟨B, δ, E, ?_⟩
  unfold dDc at p
  revert p
  cases fi δ with
  | stuck => exact id
  | exc c fs δ1 => exact id
  | ok ds δ1 =>
    intro p B1 H1 E1 S1 J hJ L nL
    have p : Post X.K g W B H σ δ (match noOwn δ1 vs with
      | true => (match wipeC vs δ1 with
        | some δw => (dcL vs s t f fv ds δw).bind fun ys δ2 => (match decide (ys.length ≤ 100000) with
          | true => Res.ok (O.dct (dMrg [] ys)) (VS.restore δ1 vs δ2)
          | false => Res.stuck)
        | none => Res.stuck)
      | false => Res.stuck) _ := p
    cases no : noOwn δ1 vs with
    | false =>
      rw [no] at p
      exact False.elim p
    | true =>
    simp only [no] at p
    cases hw : wipeC vs δ1 with
    | none =>
      rw [hw] at p
      exact False.elim p
    | some δw =>
    simp only [hw] at p
    cases run : dcL vs s t f fv ds δw with
    | stuck =>
      rw [run] at p
      exact False.elim p
    | exc c fs δ2 =>
      exact absurd run (dcL_ne ds δw)
    | ok ys δ2 =>
    rw [run] at p
    have p : Post X.K g W B H σ δ (match decide (ys.length ≤ 100000) with
          | true => Res.ok (O.dct (dMrg [] ys)) (VS.restore δ1 vs δ2)
          | false => Res.stuck) _ := p
    cases hlim : decide (ys.length ≤ 100000) with
    | false =>
      rw [hlim] at p
      exact False.elim p
    | true =>
    simp only [hlim] at p
    have hlen : ys.length ≤ 100000 := of_decide_eq_true hlim
    obtain ⟨Ew, Sw⟩ := E1.wipe hw
    refine ⟨fun i m H' => m + i = ds.length ∧ ∃ B' δ' acc done rest, ys = done ++ rest ∧ dcL vs s t f fv (ds.drop i) δ' = .ok rest δ2 ∧ EnvOk X.K g B' H' (wipe σ vs) δ' ∧ Stp B1 H1 (wipe σ vs) δw B' H' (wipe σ vs) δ' ∧ LooseD B' H' (wipe σ vs) δ' L acc ∧ RepK X.K B' (dMrg [] done) acc ∧ acc.length ≤ done.length,
      ⟨ds.length, by simp, B1, δw, [], [], ys, rfl, by rw [List.drop_zero]; exact run, Ew.allocN _ nL, Stp.allocN nL, ⟨upd_same, le_none E1.le nL, Ew.notOw nL⟩, rfl, Nat.le_refl _⟩, ?_⟩
    rintro i m H2 ⟨hm, B2, δa, acc, done, rest, ey, er, E2, S2, lo, ra, la0⟩
    obtain ⟨hgo, hst⟩ := hJ B2 H2 _ δa E2 S2.b
    cases m with
    | zero =>
      have e : i = ds.length := by omega
      subst e
      rw [List.drop_length] at er
      unfold dcL at er
      cases er
      rw [List.append_nil] at ey
      subst ey
      refine .inl ⟨hst, ?_⟩
      have back := E1.restore no hw E2 S2
      refine p B2 H2 back.1 (S1.trans back.2) (.ref L) ⟨L, rfl, lo.2.1, ⟨acc, lo.1, ra⟩, fun w => ?_, S1.free nL⟩
      rcases back.2.ow L w with z | z
      · obtain ⟨_, u, hu⟩ := E1.ow z
        rw [nL] at hu
        cases hu
      · exact lo.2.2 (by
          obtain ⟨j, b, o, q1, q2⟩ := w
          have l2 : δ2.length = δ1.length := by rw [E2.len, wipe_length, E1.len]
          obtain ⟨_, qr⟩ := restore_get (δ1 := δ1) (vs := vs) (δ2 := δ2) l2
          by_cases zj : j ∈ vs
          · rw [(qr j).1 zj] at q1
            exact absurd rfl ((noOwn_get no zj q1).1 b o)
          · refine ⟨j, b, o, by rw [← (qr j).2 zj]; exact q1, ?_⟩
            rcases wipe_get (vs := vs) (σ := σ) j with ⟨k1, _, _⟩ | ⟨_, k2⟩
            · exact absurd k1 zj
            · rw [k2]
              exact q2)
    | succ m =>
      have hi : i < ds.length := by omega
      obtain ⟨go, yl⟩ := hgo i ds[i] (List.getElem?_eq_getElem hi)
      rw [List.drop_eq_getElem_cons hi] at er
      refine .inr ⟨go, fun H' => m + (i + 1) = ds.length ∧ ∃ B' δ' acc done rest, ys = done ++ rest ∧ dcL vs s t f fv (ds.drop (i + 1)) δ' = .ok rest δ2 ∧ EnvOk X.K g B' H' (wipe σ vs) δ' ∧ Stp B1 H1 (wipe σ vs) δw B' H' (wipe σ vs) δ' ∧ LooseD B' H' (wipe σ vs) δ' L acc ∧ RepK X.K B' (dMrg [] done) acc ∧ acc.length ≤ done.length, fun H' q => ⟨m, Nat.lt_succ_self m, q⟩, fun x H3 y3 => ?_⟩
      obtain ⟨B3, E3, S3, r3⟩ := yl x H3 y3
      unfold dcL at er
      cases es : s ds[i] δa with
      | none =>
        rw [es] at er
        cases er
      | some δ4 =>
      rw [es] at er
      obtain ⟨b, δ5, et, er⟩ := Res.bind_ok er
      have et := Res.noexc_ok et
      refine ⟨B3, δa, ds[i], δ4, E3, r3, es, fun σ4 E4 S4 A4 => ?_⟩
      have ew : wipe σ4 vs = wipe σ vs := (wipe_agree A4 hts).trans wipe_wipe
      refine ⟨ew, B3, δ4, E4, ?_⟩
      rw [et]
      intro B5 H5 E5 S5 b' eb
      subst eb
      have SS5 : Stp B2 H2 (wipe σ vs) δa B5 H5 σ4 δ5 := (S3.trans S4).trans S5
      cases b' with
      | false =>
        rw [if_neg Bool.false_ne_true]
        have er : (match wipeC vs δ5 with | some δ6 => dcL vs s t f fv (ds.drop (i + 1)) δ6 | none => .stuck) = Res.ok rest δ2 := er
        cases ewc : wipeC vs δ5 with
        | none =>
          rw [ewc] at er
          cases er
        | some δ6 =>
          rw [ewc] at er
          obtain ⟨E6, S6⟩ := E5.wipe ewc
          rw [ew] at E6 S6
          exact ⟨by omega, B5, δ6, acc, done, rest, ey, er, E6, (S2.trans SS5).trans S6, lo.on (SS5.trans S6), RepK.mono (SS5.trans S6).b _ ra, la0⟩
      | true =>
        rw [if_pos rfl]
        have er : ((f δ5).noexc.bind fun y δ3 => (fv δ3).noexc.bind fun z δ3 => (match keyD y, wipeC vs δ3 with
          | some k, some δ4 => (dcL vs s t f fv (ds.drop (i + 1)) δ4).bind fun ys δ5 => .ok ((k, z) :: ys) δ5
          | _, _ => .stuck)) = Res.ok rest δ2 := er
        obtain ⟨y, δ6, ef, er⟩ := Res.bind_ok er
        have ef := Res.noexc_ok ef
        obtain ⟨z, δ6b, efv, er⟩ := Res.bind_ok er
        have efv := Res.noexc_ok efv
        refine ⟨B5, δ5, E5, ?_⟩
        rw [ef]
        intro B6a H6a E6a S6a vk rvk
        refine ⟨B6a, δ6, E6a, ?_⟩
        rw [efv]
        intro B6 H6 E6 S6b v rv
        have SS6 := (SS5.trans S6a).trans S6b
        have lo6 := lo.on SS6
        cases ek : keyD y with
        | none =>
          rw [ek] at er
          cases er
        | some kk =>
        cases ewc : wipeC vs δ6b with
        | none =>
          rw [ek, ewc] at er
          cases er
        | some δ7 =>
          rw [ek, ewc] at er
          obtain ⟨zs, δ8, e8, er⟩ := Res.bind_ok er
          cases er
          have hl2 : ys.length = done.length + (zs.length + 1) := by rw [ey, List.length_append, List.length_cons]
          have la : acc.length < sizeLine := Nat.lt_of_lt_of_le (show acc.length < 100001 by omega) (by decide)
          have em : dMrg [] (done ++ [(kk, z)]) = dPut (dMrg [] done) kk z := by
            unfold dMrg
            rw [List.foldl_append]
            rfl
          have lp := length_putK acc kk v
          refine ⟨acc, kk, (rvk.mono S6b.b).key ek, lo6.1, la, by omega, B6, δ7, putK acc kk v, done ++ [(kk, z)], zs, by rw [ey, List.append_assoc]; rfl, e8, ?_⟩
          have E7 := E6.touch (.dK (putK acc kk v)) lo6.2.1 lo6.2.2
          obtain ⟨E8, S8⟩ := E7.wipe ewc
          rw [ew] at E8 S8
          have S7 : Stp B1 H1 (wipe σ vs) δw B6 (upd H6 L (.dK (putK acc kk v))) σ4 δ6b := (S2.trans SS6).touch _ nL
          exact ⟨E8, S7.trans S8, LooseD.on ⟨upd_same, lo6.2.1, lo6.2.2⟩ S8, by rw [em]; exact RepK.put kk rv (RepK.mono SS6.b _ ra), by rw [List.length_append, List.length_singleton]; omega⟩
end
section
variable {X : Cx} {k : Nat} {g : G} {W : WX} {fi : Den (List D)} {s : Tgt} {ts vs : List Nat} {t : Den Bool} {f fv : Den D} {tg iter kx vx : Expr} {ifs : List Expr} {scope : Scope} {own : List (Str × Nat)} {pos px spos : Pos} {x : Str}
theorem on_dc (hz : g.Z = none) (C : CtxOk k g W X) (hi : OJ X g W tg iter fi) (ok : BlkOk X.N X.env.scope scope own) (hts : ∀ i ∈ ts, i ∈ own.map (·.2))
    (hg : ∀ (s0 : Shared) (H : Hp) (C : Addr) (cl : List (Str × Addr)) (fp : List Addr), OG (blkP X s0 H scope (compEnvC scope cl C X.env) fp (pnZ g.Z)) g tg ts s) (ht : ∀ (s0 : Shared) (H : Hp) (C : Addr) (cl : List (Str × Addr)) (fp : List Addr), OTs (blkP X s0 H scope (compEnvC scope cl C X.env) fp (pnZ g.Z)) g WF ifs t)
    (hk : ∀ (s0 : Shared) (H : Hp) (C : Addr) (cl : List (Str × Addr)) (fp : List Addr), OE (blkP X s0 H scope (compEnvC scope cl C X.env) fp (pnZ g.Z)) g WF kx f)
    (he : ∀ (s0 : Shared) (H : Hp) (C : Addr) (cl : List (Str × Addr)) (fp : List Addr), OE (blkP X s0 H scope (compEnvC scope cl C X.env) fp (pnZ g.Z)) g WF vx fv) (hs : ∀ x, foldedSetIterable iter X.env x = pure x := by intro _; rfl) :
    ON X g W (.DictComp kx vx [⟨tg, iter, ifs, 0⟩] scope pos) (dDc fi (own.map (·.2)) s t f fv) := by
  rw [hz] at hg ht hk he
  exact pe_imp (pe_dc (C.calm hz) C.nd (hi.calm (C.calm hz)) ok hg ht hk he hs) fun σ H Q h => dc_of hts σ H Q h
theorem oj_of (hc : X.calm = true) (h : OI X g W tg iter fi) : OJ X g W tg iter fi := ⟨fun _ => h, fun ⟨z, hz, _⟩ => ⟨fun pins s σ H R I q => by
    have e := I.ok.hd hc
    rw [hz.1] at e
    cases e⟩⟩
end
/-! built-ins that give something new -/
def OkF (K : PySem.W.Frag) (r : List V → Hp → VK → Prop) (fn : List D → Option O) : Prop := ∀ (B H : Hp) (xs : List V) (ds : List D) (o : O) (Q : VK), Le B H → RepL K B ds xs → fn ds = some o →
  (∀ p u, H p = none → ORep K B (upd H p u) o p → Q (.ref p) (upd H p u)) → r xs H Q
def nB (fn : List D → Option O) (fs : Den (List D)) : Den O := fun δ => (fs δ).bind fun xs δ1 => .lift (fn xs) δ1
section
variable {X : Cx} {g : G} {W : WX} {e : Expr} {es : List Expr} {fs : Den (List D)} {p pos : Pos} {x : Str} {id T : String} {r : List V → Hp → VK → Prop} {fn : List D → Option O}
theorem nB_of (hr : OkF X.K r fn) (σ : St) (H : Hp) (Q : VK) (h : tX X.K g W (RlN X.K) (nB fn fs) σ H Q) : tCB r (tX X.K g W (RlA X.K) fs) σ H Q := by
  obtain ⟨B, δ, E, q⟩ := h
  refine ⟨B, δ, E, q.bind'.mono fun B1 H1 δ1 xs E1 S1 p1 vs rv => ?_⟩
  cases hz : fn xs with
  | none =>
    rw [hz] at p1
    exact False.elim p1
  | some o =>
    rw [hz] at p1
    exact hr B1 H1 vs xs o Q E1.le rv hz fun a u ha ro => p1 B1 _ (E1.allocN u ha) (S1.trans (Stp.allocN ha)) (.ref a) ⟨a, rfl, le_none E1.le ha, ro, E1.notOw ha, S1.free ha⟩
theorem on_callB (hc : CallR X (.builtin id) r) (hr : OkF X.K r fn) (hg : Gl X x) (hm : X.mg x = none) (hv : bootBuiltins x = some (.builtin id)) (ha : OA X g W (e :: es) fs) (hn : x ≠ "__name__" := by decide) (hdb : (x == ("__debug__" : Str)) = false := by decide)
    (hh : starEach (e :: es) X.env = (false, eval e X.env) :: starEach es X.env := by rfl) (hpl : (backTo pos (starEach es X.env)).any (·.1) = false := by rfl) : ON X g W (.Call (.Name x p) (e :: es) [] pos) (nB fn fs) :=
  pe_imp (pe_callB hc hg hm hv ha hn hdb hh hpl) fun σ H Q h => nB_of hr σ H Q h
theorem on_callTy (hc : CallR X (.type T) r) (hr : OkF X.K r fn) (hg : Gl X x) (hm : X.mg x = none) (hv : bootBuiltins x = some (.type T)) (ha : OA X g W (e :: es) fs) (hn : x ≠ "__name__" := by decide) (hdb : (x == ("__debug__" : Str)) = false := by decide)
    (hh : starEach (e :: es) X.env = (false, eval e X.env) :: starEach es X.env := by rfl) (hpl : (backTo pos (starEach es X.env)).any (·.1) = false := by rfl) : ON X g W (.Call (.Name x p) (e :: es) [] pos) (nB fn fs) :=
  pe_imp (pe_callTy hc hg hm hv ha hn hdb hh hpl) fun σ H Q h => nB_of hr σ H Q h
theorem on_or {f f1 f2 : Den O} (h1 : ON X g W e f1) (h2 : ON X g W e f2) (h : ∀ δ, f δ = f1 δ ∨ f δ = f2 δ) : ON X g W e f := pe_or h1 h2 h
theorem nB_two {f0 f1 f2 : List D → Option O} (h : ∀ x, f0 x = f1 x ∨ f0 x = f2 x) {fs : Den (List D)} (δ : List Sl) : nB f0 fs δ = nB f1 fs δ ∨ nB f0 fs δ = nB f2 fs δ := by
  unfold nB
  cases fs δ with
  | stuck => exact .inl rfl
  | exc c fs δ1 => exact .inl rfl
  | ok x δ1 =>
    show Res.lift (f0 x) δ1 = Res.lift (f1 x) δ1 ∨ Res.lift (f0 x) δ1 = Res.lift (f2 x) δ1
    rcases h x with e | e
    · exact .inl (by rw [e])
    · exact .inr (by rw [e])
end
def listO : List D → Option O
  | [.lst xs] => some (.lst xs)
  | [.tup xs] => some (.lst xs)
  | [.rol xs] => some (.lst xs)
  | _ => none
theorem ok_listF {K : PySem.W.Frag} : OkF K (fun xs H Q => ∃ p ys, xs = [.ref p] ∧ (SqL K H p ys ∨ SqT K H p ys) ∧ ∀ l, H l = none → Q (.ref l) (upd H l (.lst ys))) listO := by
  intro B H xs ds o Q le r h q
  match ds, h with
  | [.lst ys], h =>
    obtain ⟨v, w, rfl, h1, h2⟩ := r
    cases (show w = [] from h2)
    cases h
    obtain ⟨a, vs, rfl, hB, r1⟩ := h1
    exact ⟨a, vs, rfl, .inl (SqL.of (le _ _ hB)), fun l hl => q l _ hl ⟨vs, upd_same, r1⟩⟩
  | [.tup ys], h =>
    obtain ⟨v, w, rfl, h1, h2⟩ := r
    cases (show w = [] from h2)
    cases h
    obtain ⟨a, vs, rfl, hB, r1⟩ := h1
    exact ⟨a, vs, rfl, .inr (le.sqT hB), fun l hl => q l _ hl ⟨vs, upd_same, r1⟩⟩
  | [.rol ys], h =>
    obtain ⟨v, w, rfl, h1, h2⟩ := r
    cases (show w = [] from h2)
    cases h
    obtain ⟨a, vs, rfl, hB, r1⟩ := h1
    exact ⟨a, vs, rfl, .inl (le.sqL hB), fun l hl => q l _ hl ⟨vs, upd_same, r1⟩⟩
/-! sorted -/
def sortL : List D → Option O
  | [.lst xs] => match strsOf xs with
    | some ys => some (.lst ((sortS ys).map D.str))
    | none => none
  | _ => none
def keysT : List (Key × D) → Option (List Str)
  | [] => some []
  | (.inr x, _) :: r => (keysT r).map (x :: ·)
  | (.inl _, _) :: _ => none
def sortDT : List D → Option O
  | [.dct kvs] => match keysT kvs with
    | some ys => some (.lst ((sortS ys).map D.str))
    | none => none
  | _ => none
def sortO : List D → Option O
  | [.lst xs] => match strsOf xs with
    | some ys => some (.lst ((sortS ys).map D.str))
    | none => none
  | [.dct kvs] => match keysT kvs with
    | some ys => some (.lst ((sortS ys).map D.str))
    | none => none
  | _ => none
theorem sortO_two (xs : List D) : sortO xs = sortL xs ∨ sortO xs = sortDT xs := by
  match xs with
  | [] => exact .inl rfl
  | [d] => cases d <;> first | exact .inl rfl | exact .inr rfl
  | d :: _ :: _ => cases d <;> exact .inl rfl
theorem keysT_keys : ∀ {kvs : List (Key × D)} {ks : List Str}, keysT kvs = some ks → kvs.map (·.1) = ks.map Sum.inr
  | [], ks, h => by cases h; rfl
  | (.inr x, d) :: r, ks, h => by
    have h : (keysT r).map (x :: ·) = some ks := h
    cases e : keysT r with
    | none => rw [e] at h; cases h
    | some ys =>
      rw [e] at h
      cases h
      rw [List.map_cons, keysT_keys e]
      rfl
  | (.inl i, d) :: r, ks, h => by cases h
theorem ok_sortL {K : PySem.W.Frag} : OkF K (rSortT K) sortL := by
  intro B H xs ds o Q le r h q
  match ds, h with
  | [.lst ys], h =>
    obtain ⟨v, w, rfl, h1, h2⟩ := r
    cases (show w = [] from h2)
    obtain ⟨a, vs, rfl, hB, r1⟩ := h1
    cases e : strsOf ys with
    | none => simp only [sortL, e] at h; cases h
    | some zs =>
      simp only [sortL, e] at h
      cases h
      obtain ⟨e1, _⟩ := r1.strsOf e
      exact ⟨a, zs, rfl, SqL.of (by rw [← e1]; exact le _ _ hB), fun l hl => q l _ hl ⟨_, upd_same, RepL.strs _⟩⟩
theorem ok_sortDT {K : PySem.W.Frag} : OkF K rSortDT sortDT := by
  intro B H xs ds o Q le r h q
  match ds, h with
  | [.dct kvs], h =>
    obtain ⟨v, w, rfl, h1, h2⟩ := r
    cases (show w = [] from h2)
    obtain ⟨a, kws, rfl, hB, r1⟩ := h1
    cases e : keysT kvs with
    | none => simp only [sortDT, e] at h; cases h
    | some zs =>
      simp only [sortDT, e] at h
      cases h
      exact ⟨a, kws, zs, rfl, Rd.le le hB, r1.keys.trans (keysT_keys e), fun l hl => q l _ hl ⟨_, upd_same, RepL.strs _⟩⟩
section
variable {X : Cx} {g : G} {W : WX} {e : Expr} {es : List Expr} {fs : Den (List D)} {p pos : Pos} {x : Str}
theorem on_sorted (hcalm : X.calm = true) (hg : Gl X x) (hm : X.mg x = none) (hv : bootBuiltins x = some (.builtin "sorted")) (ha : OA X g W [e] fs) (hn : x ≠ "__name__" := by decide) (hdb : (x == ("__debug__" : Str)) = false := by decide)
    (hh : starEach [e] X.env = (false, eval e X.env) :: starEach [] X.env := by rfl) (hpl : (backTo pos (starEach [] X.env)).any (·.1) = false := by rfl) : ON X g W (.Call (.Name x p) [e] [] pos) (nB sortO fs) :=
  on_or (on_callB cr_sortT ok_sortL hg hm hv ha hn hdb hh hpl) (on_callB (cr_sortDT hcalm) ok_sortDT hg hm hv ha hn hdb hh hpl) fun δ => nB_two sortO_two δ
end
/-! all, any of a list of truth values -/
def blsOf : List D → Option (List Bool)
  | [] => some []
  | .bl b :: r => (blsOf r).map (b :: ·)
  | _ => none
theorem blsOf_map : ∀ bs : List Bool, blsOf (bs.map D.bl) = some bs
  | [] => rfl
  | b :: bs => by
    show (blsOf (bs.map D.bl)).map _ = _
    rw [blsOf_map bs]
    rfl
theorem RepL.blsOf {K : PySem.W.Frag} {B : Hp} : ∀ {ds : List D} {vs : List V} {bs : List Bool}, RepL K B ds vs → VS.blsOf ds = some bs → vs = bs.map V.bl
  | [], _, _, r, h => by
    cases h
    rw [show _ = [] from r]
    rfl
  | d :: ds, _, bs, r, h => by
    obtain ⟨v, w, rfl, h1, h2⟩ := r
    cases d with
    | bl b =>
      have h : (VS.blsOf ds).map (b :: ·) = some bs := h
      cases e : VS.blsOf ds with
      | none => rw [e] at h; cases h
      | some ys =>
        rw [e] at h
        cases h
        cases h1
        rw [RepL.blsOf h2 e]
        rfl
    | _ => cases h
def allD : List D → Option D
  | [.lst xs] => (blsOf xs).map fun bs => .bl (bs.all id)
  | _ => none
def anyD : List D → Option D
  | [.lst xs] => (blsOf xs).map fun bs => .bl (bs.any id)
  | _ => none
theorem ok_all {K : PySem.W.Frag} : OkB K (rAll K) allD := by
  intro g B H σ δ xs ds z Q E r h q
  match ds, h with
  | [.lst ys], h =>
    obtain ⟨v, w, rfl, h1, h2⟩ := r
    cases (show w = [] from h2)
    obtain ⟨a, vs, rfl, hB, r1⟩ := h1
    have h : (blsOf ys).map (fun bs => D.bl (bs.all id)) = some z := h
    cases e : blsOf ys with
    | none => rw [e] at h; cases h
    | some bs =>
      rw [e] at h
      cases h
      exact ⟨a, bs, rfl, SqL.of (by rw [← r1.blsOf e]; exact E.le _ _ hB), q _ _ _ E .refl rfl⟩
theorem ok_any {K : PySem.W.Frag} : OkB K (rAny K) anyD := by
  intro g B H σ δ xs ds z Q E r h q
  match ds, h with
  | [.lst ys], h =>
    obtain ⟨v, w, rfl, h1, h2⟩ := r
    cases (show w = [] from h2)
    obtain ⟨a, vs, rfl, hB, r1⟩ := h1
    have h : (blsOf ys).map (fun bs => D.bl (bs.any id)) = some z := h
    cases e : blsOf ys with
    | none => rw [e] at h; cases h
    | some bs =>
      rw [e] at h
      cases h
      exact ⟨a, bs, rfl, SqL.of (by rw [← r1.blsOf e]; exact E.le _ _ hB), q _ _ _ E .refl rfl⟩
/-! f-strings of texts and numbers -/
def fmtD : D → Option D
  | .str x => if x.length ≤ 100000 then some (.str x) else none
  | .int i => if i.natAbs.log2 < 1920 then some (.str (toString i)) else none
  | _ => none
def dFmt (f : Den D) : Den D := fun δ => (f δ).bind fun x δ1 => .lift (fmtD x) δ1
def dJs : List (Den D) → Str → Den D
  | [], acc, δ => .ok (.str acc) δ
  | f :: fs, acc, δ => (f δ).bind fun x δ1 => match x with
    | .str y => (match decide ((acc ++ y).length ≤ 100000) with
      | true => dJs fs (acc ++ y) δ1
      | false => .stuck)
    | _ => .stuck
section
variable {X : Cx} {g : G} {W : WX} {e v1 v2 : Expr} {rest : List Expr} {f : Den D} {pos : Pos}
theorem o_fmt (he : OE X g W e f) : OE X g W (.FormattedValue e (-1) none pos) (dFmt f) := by
  refine pe_imp (pe_fmt he) fun σ H Q ⟨B, δ, E, p⟩ => ⟨B, δ, E, p.bind.mono fun B1 H1 δ1 x E1 S1 p1 v rv => ?_⟩
  obtain ⟨z, hz, q⟩ := p1.lift
  cases x with
  | str y =>
    cases rv
    have hz : (if y.length ≤ 100000 then some (D.str y) else none) = some z := hz
    split at hz
    · rename_i c
      cases hz
      exact .inl ⟨y, rfl, Nat.le_trans c (by decide), q _ _ E1 .refl _ rfl⟩
    · cases hz
  | int i =>
    cases rv
    have hz : (if i.natAbs.log2 < 1920 then some (D.str (toString i)) else none) = some z := hz
    split at hz
    · rename_i c
      cases hz
      exact .inr ⟨i, rfl, c, q _ _ E1 .refl _ rfl⟩
    · cases hz
  | _ => cases hz
/-- the parts -/
inductive OJs (X : Cx) (g : G) (W : WX) : List Expr → List (Den D) → Prop where
  | nil : OJs X g W [] []
  | cons {e : Expr} {f : Den D} {es : List Expr} {fs : List (Den D)} (h : OE X g W e f) (r : OJs X g W es fs) : OJs X g W (e :: es) (f :: fs)
theorem OJs.pj {es : List Expr} {fs : List (Den D)} (h : OJs X g W es fs) : PJ X es (fs.map fun f => tX X.K g W (RlD X.K) f) := by
  induction h with
  | nil => exact .nil
  | cons h r ih => exact .cons h ih
theorem tJs_of : ∀ (fs : List (Den D)) (acc : Str) {B H : Hp} {σ : St} {δ : List Sl} {Q : Str → Hp → Prop}, EnvOk X.K g B H σ δ → Post X.K g W B H σ δ (dJs fs acc δ) (fun B' H' δ' d => ∀ v, Rep X.K B' d v → ∀ y, v = .str y → Q y H') → tJs (fs.map fun f => tX X.K g W (RlD X.K) f) acc σ H Q
  | [], acc, B, H, σ, δ, Q, E, p => p B H E .refl (.str acc) rfl acc rfl
  | f :: fs, acc, B, H, σ, δ, Q, E, p => by
    refine ⟨B, δ, E, p.bind.mono fun B1 H1 δ1 x E1 S1 p1 v rv => ?_⟩
    cases x with
    | str y =>
      cases rv
      cases hc : decide ((acc ++ y).length ≤ 100000) with
      | false =>
        simp only [hc] at p1
        exact False.elim p1
      | true =>
        simp only [hc] at p1
        exact ⟨y, rfl, Nat.le_trans (of_decide_eq_true hc) (by decide), tJs_of fs (acc ++ y) E1 p1⟩
    | _ => exact False.elim p1
theorem o_joined {fs : List (Den D)} (h : OJs X g W (v1 :: v2 :: rest) fs) : OE X g W (.JoinedStr (v1 :: v2 :: rest) pos) (dJs fs Str.empty) :=
  pe_imp (pe_joined h.pj) fun σ H Q ⟨B, δ, E, p⟩ => tJs_of fs Str.empty E (p.mono fun B1 H1 δ1 d E1 S1 q v rv y ey => by
    subst ey
    exact q _ rv)
theorem o_joined1 (h : OE X g W e f) : OE X g W (.JoinedStr [e] pos) f := ⟨(pe_joined1 h).run⟩
end
end VS
end

section
set_option Elab.async false
set_option linter.all false
set_option maxRecDepth 100000
set_option maxHeartbeats 2000000
/-! VT, part 9: calls by keywords; texts of the module. -/
namespace VS
open PySem PySem.Spec PyProof.Rows L2
/-- the keywords named ks stand behind n positional values, in the parameters' order -/
def BindsK (K : PySem.W.Frag) (fd : FuncData) (ps ks : List Str) (n : Nat) : Prop := ∀ (s : Shared) (us ws : List Value), us.length = n → ws.length = ks.length → K.In s.heap → BindsTo s fd ⟨us, ks.zip ws⟩ (ps.zip (us ++ ws))
abbrev OKw (X : Cx) (g : G) (W : WX) (kws : List Keyword) (f : Den (List D)) : Prop := PK X kws (tX X.K g W (RlA X.K) f)
def dArgsK (fa : Den (List (Option D))) (fk : Den (List D)) : Den (List (Option D)) := fun δ => (fa δ).bind fun ds δ1 => (fk δ1).bind fun es δ2 => .ok (ds ++ es.map some) δ2
theorem ArOk.app {K : PySem.W.Frag} {B : Hp} {σ : St} {es : List D} {ws : List V} (r : RepL K B es ws) : ∀ {bs : List (Option Nat)} {ds : List (Option D)} {vs : List V}, ArOk K B σ bs ds vs → ArOk K B σ (bs ++ List.replicate es.length none) (ds ++ es.map some) (vs ++ ws)
  | [], [], _, h => by
    rw [show _ = [] from h]
    clear h
    induction es generalizing ws with
    | nil => exact r
    | cons e es ih =>
      obtain ⟨v, w, rfl, h1, h2⟩ := r
      exact ⟨v, w, rfl, h1, ih h2⟩
  | none :: bs, some d :: ds, _, h => by
    obtain ⟨v, w, rfl, h2, h3⟩ := h
    exact ⟨v, _, rfl, h2, h3.app r⟩
  | some i :: bs, none :: ds, _, h => by
    obtain ⟨v, w, rfl, h2, h3⟩ := h
    exact ⟨v, _, rfl, h2, h3.app r⟩
  | [], _ :: _, _, h => h.elim
  | none :: _, [], _, h => h.elim
  | none :: _, none :: _, _, h => h.elim
  | some _ :: _, [], _, h => h.elim
  | some _ :: _, some _ :: _, _, h => h.elim
section
variable {X : Cx} {g : G} {W : WX} {e : Expr} {es : List Expr} {f : Den D} {fs fk : Den (List D)} {fa : Den (List (Option D))} {kws : List Keyword} {nm : Option Str} {kpos p pos : Pos} {bs : List (Option Nat)} {k j n m : Nat} {hotOk : Bool} {fd : FuncData} {a : Addr} {ps ks : List Str} {F : List Sl → Cr} {x : Str}
theorem okw_nil : OKw X g W [] dNil := ⟨fun pos pins s σ H Q I ⟨B, δ, E, p⟩ => pk_nil.run pos pins s σ H Q I (p B H E .refl [] rfl)⟩
theorem okw_cons (h : OE X g W e f) (h2 : OKw X g W kws fs) : OKw X g W (⟨nm, e, kpos⟩ :: kws) (dCons f fs) := ⟨fun pos pins s σ H Q I ⟨B, δ, E, p⟩ => (pk_cons h h2).run pos pins s σ H Q I
  ⟨B, δ, E, p.bind.mono fun B1 H1 δ1 y E1 S1 p1 v rv => ⟨B1, δ1, E1, p1.bind.mono fun B2 H2 δ2 xs E2 S2 p2 vs rvs => p2 B2 H2 E2 .refl _ (RepL.cons (rv.mono S2.b) rvs)⟩⟩⟩
theorem argsK_of {σ : St} {H : Hp} {R : List V → Hp → Prop} (hm : ∀ δ es δ', fk δ = .ok es δ' → es.length = m) (h : tX X.K g W (fun _ σ _ B' _ _ ds vs => ArOk X.K B' σ (bs ++ List.replicate m none) ds vs) (dArgsK fa fk) σ H R) :
    tX X.K g W (fun _ σ _ B' _ _ ds vs => ArOk X.K B' σ bs ds vs) fa σ H fun vs H1 => tX X.K g W (RlA X.K) fk σ H1 fun ws H2 => R (vs ++ ws) H2 := by
  obtain ⟨B, δ, E, p⟩ := h
  refine ⟨B, δ, E, p.bind.mono fun B1 H1 δ1 ds E1 S1 p1 vs rv => ⟨B1, δ1, E1, ?_⟩⟩
  revert p1
  cases q : fk δ1 with
  | stuck => exact id
  | exc c fs δ2 => exact id
  | ok es δ2 =>
    intro p1 B2 H2 E2 S2 ws rws
    have hl := hm _ _ _ q
    exact p1 B2 H2 E2 S2 _ (by rw [← hl]; exact (rv.mono S2.b).app rws)
theorem cons_len {m : Nat} (h : ∀ δ es δ', fs δ = .ok es δ' → es.length = m) : ∀ δ es δ', dCons f fs δ = .ok es δ' → es.length = m + 1 := fun δ es δ' q => by
  obtain ⟨y, δ1, _, q⟩ := Res.bind_ok q
  obtain ⟨ys, δ2, q2, q⟩ := Res.bind_ok q
  cases q
  rw [List.length_cons, h _ _ _ q2]
theorem nil_len : ∀ δ es δ', dNil δ = .ok es δ' → es.length = 0 := fun δ es δ' q => by cases q; rfl
theorem run_gK (C : CtxOk k g W X) (hF : FnG X.prog X.w X.K X.mg X.base g.cA hotOk j a fd ps F) (hj : j ≤ k) (hz : g.Z = none ∨ hotOk = true) (hb : BindsK X.K fd ps ks n) {pins : List (Addr × Obj)} {σ : St} {H : Hp} {s : Shared} {Q : VK} {us ws : List Value} {vs zs : List V}
    (I : Inv X pins σ H s) (r : Vals vs us) (rz : Vals zs ws) (l1 : vs.length = n) (l2 : zs.length = ks.length) (h : spD X.K g ps.length F (vs ++ zs) H Q (WE W σ)) : wpAny (model X.prog X.w) X.A (call (.ref a) us (ks.zip ws)) (EP X pins σ Q) X.xe s := by
  have bd := hb s us ws (by rw [← r.length]; exact l1) (by rw [← rz.length]; exact l2) I.kIn
  have hp : ∀ z, g.Z = some z → L2H.Hot1 X.A z.p ∧ L2H.PinOk X.stack H s z.p ∧ Zc (.ref z.C) (some z.d) z.p.2 := fun z ez => by
    obtain ⟨h1, h2, h3⟩ := C.hot z ez
    obtain ⟨q1, q2, q3, q4, q5⟩ := I.pin z.p (List.mem_append_left _ h2)
    exact ⟨h1, ⟨q1, q2, fun hm => (List.mem_cons.mp (I.stkSub z.p.1 hm)).elim q3 q4, q5⟩, h3⟩
  refine wpAny_call (codeAny_mono (hF.run g.Z X.A X.stack s H ⟨us, ks.zip ws⟩ (us ++ ws) (vs ++ zs) Q (WE W σ) hz (C.room.mono hj) hp I.env0 bd (r.append rz) h) fun r s' hq => ?_)
  cases r with
  | error er => exact L2N.passAt C.tk σ pins H s er s' I hq
  | ok fl =>
    cases fl with
    | ret u => exact I.after hq
    | next => exact False.elim hq
    | brk => exact False.elim hq
    | cont => exact False.elim hq
theorem ArOk.len {K : PySem.W.Frag} {B : Hp} {σ : St} : ∀ {bs : List (Option Nat)} {ds : List (Option D)} {vs : List V}, ArOk K B σ bs ds vs → vs.length = bs.length
  | [], [], _, h => by rw [show _ = [] from h]; rfl
  | none :: bs, some d :: ds, _, h => by
    obtain ⟨v, w, rfl, h2, h3⟩ := h
    rw [List.length_cons, List.length_cons, h3.len]
  | some i :: bs, none :: ds, _, h => by
    obtain ⟨v, w, rfl, h2, h3⟩ := h
    rw [List.length_cons, List.length_cons, h3.len]
  | [], _ :: _, _, h => h.elim
  | none :: _, [], _, h => h.elim
  | none :: _, none :: _, _, h => h.elim
  | some _ :: _, [], _, h => h.elim
  | some _ :: _, some _ :: _, _, h => h.elim
theorem oc_callK (C : CtxOk k g W X) (hF : FnG X.prog X.w X.K X.mg X.base g.cA hotOk j a fd ps F) (hj : j ≤ k) (hz : g.Z = none ∨ hotOk = true) (hg : Gl X x) (hm : X.mg x = some (.ref a)) (hk : PySem.W.keepIn X.K (.ref a) = true) (hb : BindsK X.K fd ps ks n)
    (ha : OR X g W (e :: es) bs fa) (hkw : OKw X g W kws fk) (hlen : ∀ δ es δ', fk δ = .ok es δ' → es.length = m) (hm2 : ks.length = m := by rfl) (hbl : bs.length = n := by rfl)
    (hn : (idxs (bs ++ List.replicate m none)).Nodup := by decide) (hl : (bs ++ List.replicate m none).length = ps.length := by rfl) (hall : (backToKw pos (keywordEach kws X.env)).all (·.1.isSome) = true := by rfl) (hks : (backToKw pos (keywordEach kws X.env)).filterMap (·.1) = ks := by rfl)
    (hdb : (x == ("__debug__" : Str)) = false := by decide) (he : starEach (e :: es) X.env = (false, eval e X.env) :: starEach es X.env := by rfl)
    (hpl : ((backTo pos (starEach (e :: es) X.env)).any (·.1) || (backToKw pos (keywordEach kws X.env)).any (·.1.isNone)) = false := by rfl) :
    OC X g W (.Call (.Name x p) (e :: es) kws pos) (dCall F (bs ++ List.replicate m none) (dArgsK fa fk)) := by
  refine ⟨fun pins s σ H Q I h => ?_⟩
  have h := argsK_of (R := fun vs H1 => spD X.K g ps.length F vs H1 Q (WE W σ)) hlen (call_of hn hl σ H Q h)
  refine wpAny_Call_Name_kw (ld_glob I hg hm ?_ hdb)
  have h' : tX X.K g W (fun _ σ _ B' _ _ ds vs => ArOk X.K B' σ bs ds vs) fa σ H fun vs H1 => vs.length = n ∧ tX X.K g W (RlA X.K) fk σ H1 fun ws H2 => ws.length = m ∧ spD X.K g ps.length F (vs ++ ws) H2 Q (WE W σ) := by
    obtain ⟨B, δ, E, q⟩ := h
    refine ⟨B, δ, E, q.mono fun B1 H1 δ1 ds E1 S1 q1 vs rv => ⟨by rw [rv.len]; exact hbl, ?_⟩⟩
    obtain ⟨B2, δ2, E2, q2⟩ := q1 vs rv
    refine ⟨B2, δ2, E2, ?_⟩
    revert q2
    cases qq : fk δ2 with
    | stuck => exact id
    | exc c fs δ3 => exact id
    | ok es δ3 => exact fun q2 B3 H3 E3 S3 ws rws => ⟨by rw [RepL.length rws]; exact hlen _ _ _ qq, q2 B3 H3 E3 S3 ws rws⟩
  refine PySem.W.callWith_KW (h₀ := X.base) I.ok.mod.kin hk hall (thn (ha.run pos pins s σ H _ I h') fun us s1 ⟨vs, H1, I1, r, l1, q⟩ => ?_) hpl he
  refine thn (hkw.run pos pins s1 σ H1 _ I1 q) fun ws s2 ⟨zs, H2, I2, rz, l2, q2⟩ => ⟨I2.kIn, ?_⟩
  rw [hks]
  exact run_gK C hF hj hz hb I2 r rz l1 (l2.trans hm2.symm) q2
end
end VS
end

section
set_option Elab.async false
set_option linter.all false
set_option maxRecDepth 100000
set_option maxHeartbeats 2000000
/-! VT, part 10: in, not in as tests; y = [..] where y owns it. -/
namespace VS
open PySem PySem.Spec PyProof.Rows L2
section
variable {X : Cx} {g : G} {W : WX} {a b e : Expr} {f k : Den D} {x : Str} {px pos : Pos}
theorem ot_dcmp {op : CmpOp} {r : R2} {fn : D → D → Option D} (h : PC X op a b (tOp r (tX X.K g W (RlD X.K) f) (tX X.K g W (RlD X.K) k))) (hr : Ok2 X.K r fn) (hm : behindInMarks op b = false) : OT X g W (.Compare a [op] [b] pos) (dTest (dOp fn f k)) :=
  pt_imp (pt_cmp h hm) fun σ H Q q => by
    obtain ⟨B, δ, E, p⟩ := tX_test q
    exact tOp_of hr σ H _ ⟨B, δ, E, p⟩
theorem dTest_or {f0 f1 f2 : Den D} (h : ∀ δ, f0 δ = f1 δ ∨ f0 δ = f2 δ) (δ : List Sl) : dTest f0 δ = dTest f1 δ ∨ dTest f0 δ = dTest f2 δ := by
  unfold dTest
  rcases h δ with e | e
  · exact .inl (by rw [e])
  · exact .inr (by rw [e])
theorem ot_in (hu : X.A.units + 64 < cLine) (ha : OE X g W a f) (hb : OE X g W b k) (hm : behindInMarks .In b = false) : OT X g W (.Compare a [.In] [b] pos) (dTest (dOp inA f k)) :=
  ot_or (ot_cmp op_in_seq ok_in ha hb hm) (ot_dcmp (pc_din (by omega) ha hb) ok_inK hm) fun δ => dTest_or (fun δ => dOp_two inA_two δ) δ
theorem ot_notIn (hu : X.A.units + 64 < cLine) (ha : OE X g W a f) (hb : OE X g W b k) (hm : behindInMarks .NotIn b = false) : OT X g W (.Compare a [.NotIn] [b] pos) (dTest (dOp notInA f k)) :=
  ot_or (ot_cmp op_notIn_seq ok_notIn ha hb hm) (ot_dcmp (pc_dnotin (by omega) ha hb) ok_notInK hm) fun δ => dTest_or (fun δ => dOp_two notInA_two δ) δ
theorem ot_inT (hu : X.A.units + 64 < cLine) (ha : OE X g W a f) (hb : OE X g W b k) (hm : behindInMarks .In b = false := by rfl) : OT X g W (.Compare a [.In] [b] pos) (dTest (dOp inT f k)) :=
  ot_or (ot_in hu ha hb hm) (ot_cmp op_in_sign ok_inSign ha hb hm) fun δ => dTest_or (fun δ => dOp_two inT_two δ) δ
theorem ot_notInT (hu : X.A.units + 64 < cLine) (ha : OE X g W a f) (hb : OE X g W b k) (hm : behindInMarks .NotIn b = false := by rfl) : OT X g W (.Compare a [.NotIn] [b] pos) (dTest (dOp notInT f k)) :=
  ot_or (ot_notIn hu ha hb hm) (ot_cmp op_notIn_sign ok_notInSign ha hb hm) fun δ => dTest_or (fun δ => dOp_two notInT_two δ) δ
theorem inS_test {neg : Bool} {i : Nat} {σ : St} {H : Hp} {Q : Bool → Hp → Prop} (h : tX X.K g W RlB (dTest (dInS neg f i)) σ H Q) : tX X.K g W (RlD X.K) (dInS neg f i) σ H (fun x H' => ∃ k, x = .bl k ∧ Q k H') := tX_test h
theorem ot_inS (hu : X.A.units + 64 < cLine) (i : Nat) (ha : OE X g W a f) (hN : X.N[i]? = some x := by rfl) (hv : Vis X.env.scope x := by first | exact Or.inl rfl | exact Or.inr (Or.inl rfl) | exact Or.inr (Or.inr rfl)) (hd : (x == ("__debug__" : Str)) = false := by decide)
    (hcd : (x == ("__classdict__" : Str)) = false := by decide) (hm : behindInMarks .In (.Name x px) = false := by rfl) : OT X g W (.Compare a [.In] [.Name x px] pos) (dTest (dInS false f i)) := by
  refine pt_imp (pt_cmp (pc_din (by omega) ha (pe_var hN hv hd hcd)) hm) fun σ H Q q => ?_
  obtain ⟨B, δ, E, p⟩ := tX_test q
  refine ⟨B, δ, E, p.bind.mono fun B1 H1 δ1 y E1 S1 p1 v rv => ?_⟩
  split at p1
  · rename_i kvs j h1 hk
    obtain ⟨a1, vs1, e1, m1, r1⟩ := E1.viewK h1
    refine ⟨_, e1, a1, _, rfl, .inl ⟨vs1, j, m1, rv.key hk, rfl⟩, ?_⟩
    rw [val_isSome r1]
    exact p1 B1 H1 E1 .refl _ rfl
  · exact False.elim p1
theorem ot_notInS (hu : X.A.units + 64 < cLine) (i : Nat) (ha : OE X g W a f) (hN : X.N[i]? = some x := by rfl) (hv : Vis X.env.scope x := by first | exact Or.inl rfl | exact Or.inr (Or.inl rfl) | exact Or.inr (Or.inr rfl)) (hd : (x == ("__debug__" : Str)) = false := by decide)
    (hcd : (x == ("__classdict__" : Str)) = false := by decide) (hm : behindInMarks .NotIn (.Name x px) = false := by rfl) : OT X g W (.Compare a [.NotIn] [.Name x px] pos) (dTest (dInS true f i)) := by
  refine pt_imp (pt_cmp (pc_dnotin (by omega) ha (pe_var hN hv hd hcd)) hm) fun σ H Q q => ?_
  obtain ⟨B, δ, E, p⟩ := tX_test q
  refine ⟨B, δ, E, p.bind.mono fun B1 H1 δ1 y E1 S1 p1 v rv => ?_⟩
  split at p1
  · rename_i kvs j h1 hk
    obtain ⟨a1, vs1, e1, m1, r1⟩ := E1.viewK h1
    refine ⟨_, e1, a1, _, rfl, .inl ⟨vs1, j, m1, rv.key hk, rfl⟩, ?_⟩
    rw [val_isSome r1]
    exact p1 B1 H1 E1 .refl _ rfl
  · exact False.elim p1
end
theorem PostS.bind' {α : Type} {K : PySem.W.Frag} {g : G} {W : WX} {B H : Hp} {σ : St} {δ : List Sl} {D : Ends} {r : Res α} {k : α → List Sl → Res Fl} (h : PostS K g W B H σ δ (r.bind k) D) : Post K g W B H σ δ r (fun _ _ δ1 a => PostS K g W B H σ δ (k a δ1) D) := by
  cases r with
  | stuck => exact h
  | exc c fs δ1 => exact fun B' H' C d E' S' x => h B' H' σ C d E' S' x
  | ok a δ1 => exact fun B' H' E' S' => h
section
variable {X : Cx} {g : G} {W : WX} {fi : Den (List D)} {s : Tgt} {ts : List Nat} {t : Den Bool} {f : Den D} {tg iter elt : Expr} {ifs : List Expr} {scope : Scope} {own : List (Str × Nat)} {pos px spos : Pos} {x : Str} {k : Nat}
theorem os_setLcO (i : Nat) (C : CtxOk k g W X) (hi : OJ X g W tg iter fi) (ok : BlkOk X.N X.env.scope scope own) (hts : ∀ i ∈ ts, i ∈ own.map (·.2))
    (hg : ∀ (s0 : Shared) (H : Hp) (C : Addr) (cl : List (Str × Addr)) (fp : List Addr), OG (blkP X s0 H scope (compEnvC scope cl C X.env) fp (pnZ g.Z)) g tg ts s) (ht : ∀ (s0 : Shared) (H : Hp) (C : Addr) (cl : List (Str × Addr)) (fp : List Addr), OTs (blkP X s0 H scope (compEnvC scope cl C X.env) fp (pnZ g.Z)) g WF ifs t)
    (he : ∀ (s0 : Shared) (H : Hp) (C : Addr) (cl : List (Str × Addr)) (fp : List Addr), OE (blkP X s0 H scope (compEnvC scope cl C X.env) fp (pnZ g.Z)) g WF elt f) (hc : g.Z = none) (hy : X.N[i]? = some x := by rfl) (hyl : X.env.scope.names.lookup x = some .local := by rfl)
    (hsw : swapsWith (.ListComp elt [⟨tg, iter, ifs, 0⟩] scope pos) (some (.Name x px)) spos.line X.env = pure true := by exact sw_true rfl rfl rfl (by decide +kernel)) (hs : ∀ x, foldedSetIterable iter X.env x = pure x := by intro _; rfl) :
    OS X g W (.Assign [.Name x px] (.ListComp elt [⟨tg, iter, ifs, 0⟩] scope pos) spos) (dAsgO i (dLc fi (own.map (·.2)) s t f)) := by
  rw [hc] at hg ht he
  refine ps_imp (ps_setLc (wi := tI X.K g W fi) (g := tG X.K g ts s) (tt := tX X.K g WF RlB t) (te := tX X.K g WF (RlD X.K) f) (C.calm hc) C.nd hy hyl hsw (hi.calm (C.calm hc)) ok hg ht he hs) fun D σ H h => ?_
  obtain ⟨B, δ, E, p⟩ := h
  refine lc_of hts σ H _ ⟨B, δ, E, (PostS.bind' p).mono fun B1 H1 δ1 o E1 S1 p1 v rv => ?_⟩
  cases q : setSl i (.own false o) δ1 with
  | none =>
    rw [q] at p1
    exact False.elim p1
  | some δ2 =>
    rw [q] at p1
    obtain ⟨rfl, nb, _⟩ := setSl_some q
    obtain ⟨a, rfl, n, r, nw, fr⟩ := rv
    exact p1 B1 H1 _ (E1.setN n r nw) (S1.setN nb fr)
end
end VS
end

section
set_option Elab.async false
set_option linter.all false
set_option maxRecDepth 100000
set_option maxHeartbeats 2000000
/-! VT, part 11: y = {k: v for ..} on one row. -/
namespace VS
open PySem PySem.Spec PyProof.Rows L2
theorem sw_trueD {kx vx : Expr} {gs : List Comprehension} {scope : Scope} {pos py : Pos} {y : Str} {l : Nat} {env : Env} (hk : env.scope.kind = .function) (hy : env.scope.names.lookup y = some .local) (hl : (py.line == pos.line) = true)
    (ha : (scope.names.any fun (n, k) => n == y && (k == .local || k == .cell)) = false) : swapsWith (.DictComp kx vx gs scope pos) (some (.Name y py)) l env = pure true := by
  have ky : env.kindOf y = some .local := hy
  have hb : env.blockKind = .function := by unfold Env.blockKind; rw [hk]; rfl
  unfold swapsWith
  simp only [hb, ky, ha, Expr.pos, hl]
  rfl
section
variable {X : Cx} {g : G} {W : WX} {fi : Den (List D)} {s : Tgt} {ts : List Nat} {t : Den Bool} {f fv : Den D} {tg iter kx vx : Expr} {ifs : List Expr} {scope : Scope} {own : List (Str × Nat)} {pos px spos : Pos} {x : Str} {k : Nat}
theorem ps_setDc {i : Nat} {wi : TI} {gt : TG} {tt : TT} {tk tv : TE} (hc : X.calm = true) (hN : X.N.Nodup) (hy : X.N[i]? = some x) (hyl : X.env.scope.names.lookup x = some .local)
    (hsw : swapsWith (.DictComp kx vx [⟨tg, iter, ifs, 0⟩] scope pos) (some (.Name x px)) spos.line X.env = pure true) (hi : PI X tg iter wi) (ok : BlkOk X.N X.env.scope scope own)
    (hg : ∀ (s : Shared) (H : Hp) (C : Addr) (cl : List (Str × Addr)) (fp : List Addr), PG (X.blk s H scope (compEnvC scope cl C X.env) fp) tg gt) (ht : ∀ (s : Shared) (H : Hp) (C : Addr) (cl : List (Str × Addr)) (fp : List Addr), PTs (X.blk s H scope (compEnvC scope cl C X.env) fp) ifs tt)
    (hk : ∀ (s : Shared) (H : Hp) (C : Addr) (cl : List (Str × Addr)) (fp : List Addr), PE (X.blk s H scope (compEnvC scope cl C X.env) fp) kx tk)
    (he : ∀ (s : Shared) (H : Hp) (C : Addr) (cl : List (Str × Addr)) (fp : List Addr), PE (X.blk s H scope (compEnvC scope cl C X.env) fp) vx tv) (hs : ∀ x, foldedSetIterable iter X.env x = pure x) :
    PS X (.Assign [.Name x px] (.DictComp kx vx [⟨tg, iter, ifs, 0⟩] scope pos) spos) (tAsg (tDc wi gt tt tk tv (own.map (·.2))) (gName i)) := by
  refine ⟨fun pins s σ H D I h => ?_⟩
  rw [exec_Assign_Name_used _ _ _ _ hsw]
  refine wpAny_bind (wpAny_standAt (wpAny_bind ?_))
  show wpAny _ X.A (do let _ ← comprehension (.DictComp kx vx [⟨tg, iter, ifs, 0⟩] scope pos) scope X.env (firstIterPos [⟨tg, iter, ifs, 0⟩] pos) newDict false (eval iter X.env) (some (assign (.Name x px) X.env))) _ _ s
  have h : tDc wi gt tt tk tv (own.map (·.2)) σ H (fun x H1 => gName i x σ H1 D.nx) := h
  refine wpAny_bind (thn (dc_core (Qf := fun _ s' => SP X pins D .next s') hc hN I hi ok hg ht hk he hs h fun L C s' m H' I' q hn f => ?_) fun _ s' hq => wpAny_pure (wpAny_pure hq))
  show wpAny _ _ (assign (.Name x px) X.env (.ref L)) _ _ _
  refine wpAny_assign_Name (store_ok2 (v := V.ref L) I' hN hy (.inl hyl) rfl (fun s2 I2 ⟨a, sb, ha⟩ => ?_) (.inr hyl))
  obtain ⟨f0, f1, f2, f3, f4, f5⟩ := f
  have haC : C ≠ a := by
    rcases ha with z | z
    · rw [z]; exact f1
    · exact fun e => f4 x a z e.symm
  refine ⟨m, hn.sameBut sb haC, fun h3 sb3 => ?_⟩
  exact ⟨_, H', I2.turned (t' := s2.toks) (fun b o hb e => (sb3.2 b hb).trans e) f0 f1 f3 f4 f5, q⟩
theorem os_setDcO (i : Nat) (C : CtxOk k g W X) (hi : OJ X g W tg iter fi) (ok : BlkOk X.N X.env.scope scope own) (hts : ∀ i ∈ ts, i ∈ own.map (·.2))
    (hg : ∀ (s0 : Shared) (H : Hp) (C : Addr) (cl : List (Str × Addr)) (fp : List Addr), OG (blkP X s0 H scope (compEnvC scope cl C X.env) fp (pnZ g.Z)) g tg ts s) (ht : ∀ (s0 : Shared) (H : Hp) (C : Addr) (cl : List (Str × Addr)) (fp : List Addr), OTs (blkP X s0 H scope (compEnvC scope cl C X.env) fp (pnZ g.Z)) g WF ifs t)
    (hk : ∀ (s0 : Shared) (H : Hp) (C : Addr) (cl : List (Str × Addr)) (fp : List Addr), OE (blkP X s0 H scope (compEnvC scope cl C X.env) fp (pnZ g.Z)) g WF kx f)
    (he : ∀ (s0 : Shared) (H : Hp) (C : Addr) (cl : List (Str × Addr)) (fp : List Addr), OE (blkP X s0 H scope (compEnvC scope cl C X.env) fp (pnZ g.Z)) g WF vx fv) (hc : g.Z = none) (hy : X.N[i]? = some x := by rfl) (hyl : X.env.scope.names.lookup x = some .local := by rfl)
    (hsw : swapsWith (.DictComp kx vx [⟨tg, iter, ifs, 0⟩] scope pos) (some (.Name x px)) spos.line X.env = pure true := by exact sw_trueD rfl rfl rfl (by decide +kernel)) (hs : ∀ x, foldedSetIterable iter X.env x = pure x := by intro _; rfl) :
    OS X g W (.Assign [.Name x px] (.DictComp kx vx [⟨tg, iter, ifs, 0⟩] scope pos) spos) (dAsgO i (dDc fi (own.map (·.2)) s t f fv)) := by
  rw [hc] at hg ht hk he
  refine ps_imp (ps_setDc (wi := tI X.K g W fi) (gt := tG X.K g ts s) (tt := tX X.K g WF RlB t) (tk := tX X.K g WF (RlD X.K) f) (tv := tX X.K g WF (RlD X.K) fv) (C.calm hc) C.nd hy hyl hsw (hi.calm (C.calm hc)) ok hg ht hk he hs) fun D σ H h => ?_
  obtain ⟨B, δ, E, p⟩ := h
  refine dc_of hts σ H _ ⟨B, δ, E, (PostS.bind' p).mono fun B1 H1 δ1 o E1 S1 p1 v rv => ?_⟩
  cases q : setSl i (.own false o) δ1 with
  | none =>
    rw [q] at p1
    exact False.elim p1
  | some δ2 =>
    rw [q] at p1
    obtain ⟨rfl, nb, _⟩ := setSl_some q
    obtain ⟨a, rfl, n, r, nw, fr⟩ := rv
    exact p1 B1 H1 _ (E1.setN n r nw) (S1.setN nb fr)
end
end VS
end

section
set_option Elab.async false
set_option linter.all false
set_option maxRecDepth 100000
set_option maxHeartbeats 2000000
/-! VT, part 12: a + b of lists, as something new; a list that is owned stays so. -/
namespace VS
open PySem PySem.Spec PyProof.Rows L2
def catO (xs ys : List D) (δ : List Sl) : Res O := match decide (xs.length + ys.length ≤ 100000) with
  | true => .ok (.lst (xs ++ ys)) δ
  | false => .stuck
def nAdd (f k : Den D) : Den O := fun δ => (f δ).bind fun x δ1 => (k δ1).bind fun y δ2 => match x, y with
  | .lst xs, .lst ys => catO xs ys δ2
  | _, _ => .stuck
def nAddR (f : Den D) (i : Nat) : Den O := fun δ => (f δ).bind fun x δ1 => match x, viewL δ1[i]? with
  | .lst xs, some ys => catO xs ys δ1
  | _, _ => .stuck
def nAddL (i : Nat) (k : Den D) : Den O := fun δ => match viewL δ[i]? with
  | some _ => (k δ).bind fun y δ1 => (match viewL δ1[i]?, y with
    | some xs, .lst ys => catO xs ys δ1
    | _, _ => .stuck)
  | none => .stuck
section
variable {K : PySem.W.Frag} {X : Cx} {g : G} {W : WX} {B H B2 H2 : Hp} {σ : St} {δ δ2 : List Sl} {Q : VK} {a b : Expr} {f k : Den D} {pos px : Pos} {x : Str} {xs ys : List D} {vs ws : List V} {p q : Addr}
theorem cat_fin (E2 : EnvOk K g B2 H2 σ δ2) (S : Stp B H σ δ B2 H2 σ δ2) (h1 : H2 p = some (.lst vs)) (r1 : RepL K B2 xs vs) (h2 : H2 q = some (.lst ws)) (r2 : RepL K B2 ys ws)
    (p2 : Post K g W B2 H2 σ δ2 (catO xs ys δ2) (fun B' H' δ' o => ∀ v, RlN K H σ δ B' H' δ' o v → Q v H')) : rCat (.ref p) (.ref q) H2 Q := by
  unfold catO at p2
  split at p2
  · rename_i hl
    refine ⟨p, q, vs, ws, rfl, rfl, h1, h2, ?_, fun t ht => ?_⟩
    · rw [r1.length, r2.length]
      exact lim_le (of_decide_eq_true hl)
    · exact p2 B2 _ (E2.allocN _ ht) (Stp.allocN ht) (.ref t) ⟨t, rfl, le_none E2.le ht, ⟨_, upd_same, r1.append r2⟩, E2.notOw ht, S.free ht⟩
  · exact False.elim p2
theorem on_add (ha : OE X g W a f) (hb : OE X g W b k) : ON X g W (.BinOp a .Add b pos) (nAdd f k) := by
  refine pe_imp (pe_op op_addU ha hb) fun σ H Q ⟨B, δ, E, p⟩ => ⟨B, δ, E, p.bind.mono fun B1 H1 δ1 x E1 S1 p1 v rv => ⟨B1, δ1, E1, p1.bind.mono fun B2 H2 δ2 y E2 S2 p2 u ru => ?_⟩⟩
  split at p2
  · have rv := rv.mono S2.b
    obtain ⟨a, vs, rfl, h1, r1⟩ := rv
    obtain ⟨b, ws, rfl, h2, r2⟩ := ru
    exact .inr (.inr (.inl (cat_fin E2 (S1.trans S2) (E2.le _ _ h1) r1 (E2.le _ _ h2) r2 p2)))
  · exact False.elim p2
theorem on_addR (i : Nat) (ha : OE X g W a f) (hN : X.N[i]? = some x := by rfl) (hv : Vis X.env.scope x := by first | exact Or.inl rfl | exact Or.inr (Or.inl rfl) | exact Or.inr (Or.inr rfl)) (hd : (x == ("__debug__" : Str)) = false := by decide)
    (hcd : (x == ("__classdict__" : Str)) = false := by decide) : ON X g W (.BinOp a .Add (.Name x px) pos) (nAddR f i) := by
  refine pe_imp (pe_op op_addU ha (pe_var hN hv hd hcd)) fun σ H Q ⟨B, δ, E, p⟩ => ⟨B, δ, E, p.bind.mono fun B1 H1 δ1 x E1 S1 p1 v rv => ?_⟩
  split at p1
  · rename_i xs ys h0
    obtain ⟨a1, vs1, e1, m1, r2⟩ := E1.viewL h0
    obtain ⟨a, vs, rfl, h1, r1⟩ := rv
    exact ⟨_, e1, .inr (.inr (.inl (cat_fin E1 S1 (E1.le _ _ h1) r1 m1 r2 p1)))⟩
  · exact False.elim p1
theorem on_addL (i : Nat) (hb : OE X g W b k) (hN : X.N[i]? = some x := by rfl) (hv : Vis X.env.scope x := by first | exact Or.inl rfl | exact Or.inr (Or.inl rfl) | exact Or.inr (Or.inr rfl)) (hd : (x == ("__debug__" : Str)) = false := by decide)
    (hcd : (x == ("__classdict__" : Str)) = false := by decide) : ON X g W (.BinOp (.Name x px) .Add b pos) (nAddL i k) := by
  refine pe_imp (pe_op op_addU (pe_var hN hv hd hcd) hb) fun σ H Q ⟨B, δ, E, p⟩ => ?_
  unfold nAddL at p
  split at p
  · rename_i xs0 h0
    obtain ⟨a0, vs0, e0, _, _⟩ := E.viewL h0
    refine ⟨_, e0, B, δ, E, p.bind.mono fun B1 H1 δ1 y E1 S1 p1 v rv => ?_⟩
    split at p1
    · rename_i xs ys h1
      obtain ⟨a1, vs1, e1, m1, r1⟩ := E1.viewL h1
      rw [e0] at e1
      cases e1
      obtain ⟨b, ws, rfl, h2, r2⟩ := rv
      exact .inr (.inr (.inl (cat_fin E1 S1 m1 r1 (E1.le _ _ h2) r2 p1)))
    · exact False.elim p1
  · exact False.elim p
end
end VS
end

section
set_option Elab.async false
set_option linter.all false
set_option maxRecDepth 100000
/-! VM, part 1: denotations walked: what must hold behind them. No program in sight. -/
namespace VS
open PySem PySem.Spec PyProof.Rows L2
def Res.W {α : Type} (r : Res α) (Q : α → List Sl → Prop) (E : Nat → List (Str × D) → List Sl → Prop) : Prop := match r with
  | .ok a δ => Q a δ
  | .exc c fs δ => E c fs δ
  | .stuck => False
def W {α : Type} (f : Den α) (δ : List Sl) (Q : α → List Sl → Prop) (E : Nat → List (Str × D) → List Sl → Prop) : Prop := (f δ).W Q E
def Cr.W (r : Cr) (Q : Rv → List Sl → Prop) (E : Nat → List (Str × D) → List Sl → Prop) : Prop := match r with
  | .ret r os => Q r os
  | .exc c fs os => E c fs os
  | .stuck => False
abbrev NoE : Nat → List (Str × D) → List Sl → Prop := fun _ _ _ => False
section
variable {α β : Type} {Q : α → List Sl → Prop} {E : Nat → List (Str × D) → List Sl → Prop} {δ : List Sl}
theorem Res.W.bind {r : Res β} {k : β → List Sl → Res α} (h : r.W (fun b δ1 => (k b δ1).W Q E) E) : (r.bind k).W Q E := by
  cases r with
  | ok b δ1 => exact h
  | exc c fs δ1 => exact h
  | stuck => exact h
theorem Res.W.mono {r : Res α} {Q' : α → List Sl → Prop} {E' : Nat → List (Str × D) → List Sl → Prop} (h : r.W Q E) (h1 : ∀ a δ, Q a δ → Q' a δ) (h2 : ∀ c fs δ, E c fs δ → E' c fs δ) : r.W Q' E' := by
  cases r with
  | ok b δ1 => exact h1 _ _ h
  | exc c fs δ1 => exact h2 _ _ _ h
  | stuck => exact h
theorem Cr.W.mono {r : Cr} {Q Q' : Rv → List Sl → Prop} {E' : Nat → List (Str × D) → List Sl → Prop} (h : r.W Q E) (h1 : ∀ a δ, Q a δ → Q' a δ) (h2 : ∀ c fs δ, E c fs δ → E' c fs δ) : r.W Q' E' := by
  cases r with
  | ret b δ1 => exact h1 _ _ h
  | exc c fs δ1 => exact h2 _ _ _ h
  | stuck => exact h
theorem Res.W.lift {o : Option α} {z : α} (h : o = some z) (q : Q z δ) : (Res.lift o δ).W Q E := by
  subst h
  exact q
end
section
variable {Q : D → List Sl → Prop} {E : Nat → List (Str × D) → List Sl → Prop} {δ : List Sl} {f k l : Den D} {fn fn' : D → D → Option D}
theorem w_var {i : Nat} {d : D} (h : δ[i]? = some (.dat d)) (q : Q d δ) : W (dVar i) δ Q E := by
  unfold W dVar
  rw [h]
  exact q
theorem w_c {d : D} (q : Q d δ) : W (dC d) δ Q E := q
/-- an operation: its value is z -/
def Op (fn : D → D → Option D) (x y : D) (q : D → Prop) : Prop := ∃ z, fn x y = some z ∧ q z
theorem w_op (h : W f δ (fun x δ1 => W k δ1 (fun y δ2 => Op fn x y fun z => Q z δ2) E) E) : W (dOp fn f k) δ Q E := by
  refine Res.W.bind (Res.W.mono h (fun x δ1 h1 => Res.W.bind (Res.W.mono h1 (fun y δ2 ⟨z, e, q⟩ => Res.W.lift e q) fun _ _ _ h => h)) fun _ _ _ h => h)
theorem w_chain (h : W f δ (fun x δ1 => W k δ1 (fun y δ2 => Op fn x y fun z => (z = .bl true ∧ W l δ2 (fun w δ4 => Op fn' y w fun z => Q z δ4) E) ∨ (z = .bl false ∧ Q (.bl false) δ2)) E) E) : W (dChain fn fn' f k l) δ Q E := by
  refine Res.W.bind (Res.W.mono h (fun x δ1 h1 => Res.W.bind (Res.W.mono h1 (fun y δ2 ⟨z, e, q⟩ => Res.W.bind (Res.W.lift e ?_)) fun _ _ _ h => h)) fun _ _ _ h => h)
  rcases q with ⟨rfl, q⟩ | ⟨rfl, q⟩
  · exact Res.W.bind (Res.W.mono q (fun w δ4 ⟨z, e, q⟩ => Res.W.lift e q) fun _ _ _ h => h)
  · exact q
/-- a value that is True or False -/
def IsB (d : D) (q : Bool → Prop) : Prop := ∃ b, d = .bl b ∧ q b
theorem w_test {Q : Bool → List Sl → Prop} (h : W f δ (fun x δ1 => IsB x fun b => Q b δ1) E) : W (dTest f) δ Q E := by
  refine Res.W.bind (Res.W.mono h (fun x δ1 ⟨b, e, q⟩ => ?_) fun _ _ _ h => h)
  subst e
  exact q
theorem w_and {Q : Bool → List Sl → Prop} {t u : Den Bool} (h : W t δ (fun b δ1 => (b = true → W u δ1 Q E) ∧ (b = false → Q false δ1)) E) : W (dAnd t u) δ Q E := by
  refine Res.W.bind (Res.W.mono h (fun b δ1 q => ?_) fun _ _ _ h => h)
  cases b with
  | true => exact q.1 rfl
  | false => exact q.2 rfl
theorem w_or {Q : Bool → List Sl → Prop} {t u : Den Bool} (h : W t δ (fun b δ1 => (b = true → Q true δ1) ∧ (b = false → W u δ1 Q E)) E) : W (dOr t u) δ Q E := by
  refine Res.W.bind (Res.W.mono h (fun b δ1 q => ?_) fun _ _ _ h => h)
  cases b with
  | true => exact q.1 rfl
  | false => exact q.2 rfl
theorem w_not {Q : Bool → List Sl → Prop} {t : Den Bool} (h : W t δ (fun b δ1 => Q (!b) δ1) E) : W (dNot t) δ Q E := Res.W.bind h
theorem w_andV (h : W f δ (fun x δ1 => IsB x fun b => (b = true → W k δ1 Q E) ∧ (b = false → Q (.bl false) δ1)) E) : W (dAndV f k) δ Q E := by
  refine Res.W.bind (Res.W.mono h (fun x δ1 ⟨b, e, q⟩ => ?_) fun _ _ _ h => h)
  subst e
  cases b with
  | true => exact q.1 rfl
  | false => exact q.2 rfl
theorem w_orV (h : W f δ (fun x δ1 => IsB x fun b => (b = true → Q (.bl true) δ1) ∧ (b = false → W k δ1 Q E)) E) : W (dOrV f k) δ Q E := by
  refine Res.W.bind (Res.W.mono h (fun x δ1 ⟨b, e, q⟩ => ?_) fun _ _ _ h => h)
  subst e
  cases b with
  | true => exact q.1 rfl
  | false => exact q.2 rfl
theorem w_notV (h : W f δ (fun x δ1 => IsB x fun b => Q (.bl (!b)) δ1) E) : W (dNotV f) δ Q E := by
  refine Res.W.bind (Res.W.mono h (fun x δ1 ⟨b, e, q⟩ => ?_) fun _ _ _ h => h)
  subst e
  exact q
theorem w_ifE {t : Den Bool} (h : W t δ (fun b δ1 => (b = true → W f δ1 Q E) ∧ (b = false → W k δ1 Q E)) E) : W (dIf t f k) δ Q E := by
  refine Res.W.bind (Res.W.mono h (fun b δ1 q => ?_) fun _ _ _ h => h)
  cases b with
  | true => exact q.1 rfl
  | false => exact q.2 rfl
theorem w_nil {Q : List D → List Sl → Prop} (q : Q [] δ) : W dNil δ Q E := q
theorem w_cons {Q : List D → List Sl → Prop} {fs : Den (List D)} (h : W f δ (fun x δ1 => W fs δ1 (fun xs δ2 => Q (x :: xs) δ2) E) E) : W (dCons f fs) δ Q E := Res.W.bind (Res.W.mono h (fun x δ1 q => Res.W.bind q) fun _ _ _ h => h)
theorem w_lst {fs : Den (List D)} (h : W fs δ (fun xs δ1 => lim xs = true ∧ Q (.lst xs) δ1) E) : W (dLst fs) δ Q E := by
  refine Res.W.bind (Res.W.mono h (fun xs δ1 ⟨e, q⟩ => ?_) fun _ _ _ h => h)
  try dsimp only
  rw [e]
  exact q
theorem w_tup {fs : Den (List D)} (h : W fs δ (fun xs δ1 => lim xs = true ∧ Q (.tup xs) δ1) E) : W (dTup fs) δ Q E := by
  refine Res.W.bind (Res.W.mono h (fun xs δ1 ⟨e, q⟩ => ?_) fun _ _ _ h => h)
  try dsimp only
  rw [e]
  exact q
theorem w_nlst {Q : O → List Sl → Prop} {fs : Den (List D)} (h : W fs δ (fun xs δ1 => lim xs = true ∧ Q (.lst xs) δ1) E) : W (nLst fs) δ Q E := by
  refine Res.W.bind (Res.W.mono h (fun xs δ1 ⟨e, q⟩ => ?_) fun _ _ _ h => h)
  try dsimp only
  rw [e]
  exact q
def Op1 (fn : List D → Option D) (xs : List D) (q : D → Prop) : Prop := ∃ z, fn xs = some z ∧ q z
theorem w_b {fn : List D → Option D} {fs : Den (List D)} (h : W fs δ (fun xs δ1 => Op1 fn xs fun z => Q z δ1) E) : W (dB fn fs) δ Q E := by
  refine Res.W.bind (Res.W.mono h (fun xs δ1 ⟨z, e, q⟩ => ?_) fun _ _ _ h => h)
  exact Res.W.lift e q
theorem w_ixS {i : Nat} {xs : List D} (h0 : viewL δ[i]? = some xs) (h : W k δ (fun y δ1 => ∃ xs1 j z, viewL δ1[i]? = some xs1 ∧ y = .int j ∧ atI xs1 j = some z ∧ Q z δ1) E) : W (dIxS i k) δ Q E := by
  unfold W dIxS
  rw [h0]
  refine Res.W.bind (Res.W.mono h (fun y δ1 ⟨xs1, j, z, h1, h2, h3, q⟩ => ?_) fun _ _ _ h => h)
  subst h2
  try dsimp only
  rw [h1]
  exact Res.W.lift h3 q
theorem w_part {Q : Option Int → List Sl → Prop} (h : W f δ (fun x δ1 => ∃ i, x = .int i ∧ Q (some i) δ1) E) : W (dPart f) δ Q E := by
  refine Res.W.bind (Res.W.mono h (fun x δ1 ⟨i, e, q⟩ => ?_) fun _ _ _ h => h)
  subst e
  exact q
theorem w_noPart {Q : Option Int → List Sl → Prop} (q : Q none δ) : W dNoPart δ Q E := q
theorem w_sl {lo hi : Den (Option Int)} (h : W f δ (fun x δ1 => W lo δ1 (fun a δ2 => W hi δ2 (fun b δ3 => ∃ z, slD x a b = some z ∧ Q z δ3) E) E) E) : W (dSl f lo hi) δ Q E :=
  Res.W.bind (Res.W.mono h (fun x δ1 h1 => Res.W.bind (Res.W.mono h1 (fun a δ2 h2 => Res.W.bind (Res.W.mono h2 (fun b δ3 ⟨z, e, q⟩ => Res.W.lift e q) fun _ _ _ h => h)) fun _ _ _ h => h)) fun _ _ _ h => h)
theorem w_lenS {i n : Nat} (h0 : lenV δ[i]? = some n) (q : Q (.int n) δ) : W (dLenS i) δ Q E := by
  unfold W dLenS
  rw [h0]
  exact q
theorem w_isi {T : Ty} (h : W f δ (fun x δ1 => Q (.bl (T.is x)) δ1) E) : W (dIsi T f) δ Q E := Res.W.bind h
theorem w_isE {sub : Nat → Option Bool} {i c : Nat} {fs : List (Str × D)} {b : Bool} (h : δ[i]? = some (.exc c fs)) (hb : sub c = some b) (q : Q (.bl b) δ) : W (dIsE sub i) δ Q E := by
  unfold W dIsE
  rw [h]
  try dsimp only
  rw [hb]
  exact q
theorem w_fld {kn : Nat → Bool} {i c : Nat} {fs : List (Str × D)} {x : Str} {d : D} (h : δ[i]? = some (.exc c fs)) (hb : kn c = true) (hl : fs.lookup x = some d) (q : Q d δ) : W (dFld kn i x) δ Q E := by
  unfold W dFld
  rw [h]
  try dsimp only
  rw [hb]
  exact Res.W.lift hl q
theorem w_rev (h : W f δ (fun x δ1 => ∃ z, revD x = some z ∧ Q z δ1) E) : W (dRev f) δ Q E := Res.W.bind (Res.W.mono h (fun x δ1 ⟨z, e, q⟩ => Res.W.lift e q) fun _ _ _ h => h)
theorem w_ofC {fr : Den Rv} (h : W fr δ (fun r δ1 => Q r.toD δ1) E) : W (dOfC fr) δ Q E := Res.W.bind h
theorem w_ofN {fo : Den O} (h : W fo δ (fun r δ1 => Q r.toD δ1) E) : W (dOfN fo) δ Q E := Res.W.bind h
theorem w_noArg {Q : List (Option D) → List Sl → Prop} (q : Q [] δ) : W dNoArg δ Q E := q
theorem w_arg {Q : List (Option D) → List Sl → Prop} {fa : Den (List (Option D))} (h : W f δ (fun x δ1 => W fa δ1 (fun xs δ2 => Q (some x :: xs) δ2) E) E) : W (dArg f fa) δ Q E := Res.W.bind (Res.W.mono h (fun x δ1 q => Res.W.bind q) fun _ _ _ h => h)
theorem w_argS {Q : List (Option D) → List Sl → Prop} {i : Nat} {fa : Den (List (Option D))} (hi : isSet δ[i]? = true) (h : W fa δ (fun xs δ2 => Q (none :: xs) δ2) E) : W (dArgS i fa) δ Q E := by
  unfold W dArgS
  rw [hi]
  exact Res.W.bind h
theorem w_call {Q : Rv → List Sl → Prop} {F : List Sl → Cr} {bs : List (Option Nat)} {fa : Den (List (Option D))} (h : W fa δ (fun ds δ1 => ∃ as, fill δ1 bs ds = some as ∧ (F as).W (fun r os => Q r (give bs os δ1)) (fun c fs os => E c fs (give bs os δ1))) E) : W (dCall F bs fa) δ Q E := by
  refine Res.W.bind (Res.W.mono h (fun ds δ1 ⟨as, e, q⟩ => ?_) fun _ _ _ h => h)
  try dsimp only
  rw [e]
  try dsimp only
  revert q
  cases F as with
  | ret r os => exact id
  | exc c fs os => exact id
  | stuck => exact id
end
section
variable {Q : Fl → List Sl → Prop} {E : Nat → List (Str × D) → List Sl → Prop} {δ : List Sl} {f k : Den D} {u v : Den Fl}
theorem w_next (q : Q .nxt δ) : W dNext δ Q E := q
theorem w_brk (q : Q .brk δ) : W dBrk δ Q E := q
theorem w_cnt (q : Q .cnt δ) : W dCnt δ Q E := q
/-- how a statement went on -/
def Sq (fl : Fl) (n : Prop) (o : Fl → Prop) : Prop := match fl with
  | .nxt => n
  | fl => o fl
theorem w_seq (h : W u δ (fun fl δ1 => Sq fl (W v δ1 Q E) fun fl => Q fl δ1) E) : W (dSeq u v) δ Q E := by
  unfold W dSeq
  unfold W at h
  revert h
  cases u δ with
  | ok fl δ1 => cases fl <;> exact id
  | exc c fs δ1 => exact id
  | stuck => exact id
theorem w_drop (h : W f δ (fun _ δ1 => Q .nxt δ1) E) : W (dDrop f) δ Q E := Res.W.bind h
theorem w_ret (h : W f δ (fun d δ1 => Q (.ret (.dat d)) δ1) E) : W (dRet f) δ Q E := Res.W.bind h
theorem w_retN (q : Q (.ret (.dat .non)) δ) : W dRetN δ Q E := q
theorem w_retO {fo : Den O} (h : W fo δ (fun o δ1 => Q (.ret (.new o)) δ1) E) : W (dRetO fo) δ Q E := Res.W.bind h
theorem w_retR {fr : Den Rv} (h : W fr δ (fun r δ1 => Q (.ret r) δ1) E) : W (dRetR fr) δ Q E := Res.W.bind h
theorem w_retVd {i : Nat} {d : D} (h : δ[i]? = some (.dat d)) (q : Q (.ret (.dat d)) δ) : W (dRetV i) δ Q E := by
  unfold W dRetV
  rw [h]
  exact q
theorem w_retVo {i : Nat} {o : O} (h : δ[i]? = some (.own false o)) (q : Q (.ret (.new o)) δ) : W (dRetV i) δ Q E := by
  unfold W dRetV
  rw [h]
  exact q
theorem w_asg {s : Tgt} (h : W f δ (fun d δ1 => ∃ δ2, s d δ1 = some δ2 ∧ Q .nxt δ2) E) : W (dAsg s f) δ Q E := by
  refine Res.W.bind (Res.W.mono h (fun d δ1 ⟨δ2, e, q⟩ => ?_) fun _ _ _ h => h)
  try dsimp only
  rw [e]
  exact q
theorem w_asgO {i : Nat} {fo : Den O} (h : W fo δ (fun o δ1 => ∃ δ2, setSl i (.own false o) δ1 = some δ2 ∧ Q .nxt δ2) E) : W (dAsgO i fo) δ Q E := by
  refine Res.W.bind (Res.W.mono h (fun d δ1 ⟨δ2, e, q⟩ => ?_) fun _ _ _ h => h)
  try dsimp only
  rw [e]
  exact q
def slR : Rv → Sl
  | .dat d => .dat d
  | .new o => .own false o
theorem w_asgR {i : Nat} {fr : Den Rv} (h : W fr δ (fun r δ1 => ∃ δ2, setSl i (slR r) δ1 = some δ2 ∧ Q .nxt δ2) E) : W (dAsgR i fr) δ Q E := by
  refine Res.W.bind (Res.W.mono h (fun r δ1 ⟨δ2, e, q⟩ => ?_) fun _ _ _ h => h)
  cases r with
  | dat d =>
    have e : setSl i (.dat d) δ1 = some δ2 := e
    try dsimp only
    rw [e]
    exact q
  | new o =>
    have e : setSl i (.own false o) δ1 = some δ2 := e
    try dsimp only
    rw [e]
    exact q
theorem w_if {t : Den Bool} (h : W t δ (fun b δ1 => (b = true → W u δ1 Q E) ∧ (b = false → W v δ1 Q E)) E) : W (dIfS t u v) δ Q E := by
  refine Res.W.bind (Res.W.mono h (fun b δ1 q => ?_) fun _ _ _ h => h)
  cases b with
  | true => exact q.1 rfl
  | false => exact q.2 rfl
theorem w_aug {fn : D → D → Option D} {i : Nat} {x : D} (hx : δ[i]? = some (.dat x)) (h : W f δ (fun y δ1 => Op fn x y fun z => ∃ δ2, setSl i (.dat z) δ1 = some δ2 ∧ Q .nxt δ2) E) : W (dAug fn i f) δ Q E := by
  unfold W dAug
  rw [hx]
  refine Res.W.bind (Res.W.mono h (fun y δ1 ⟨z, e, δ2, e2, q⟩ => ?_) fun _ _ _ h => h)
  try dsimp only
  rw [e]
  try dsimp only
  rw [e2]
  exact q
theorem w_setL {i : Nat} (h : W f δ (fun d δ1 => ∃ xs0, viewL δ1[i]? = some xs0 ∧ W k δ1 (fun y δ2 => ∃ b xs j n, δ2[i]? = some (.own b (.lst xs)) ∧ y = .int j ∧ ixN xs.length j = some n ∧ Q .nxt (δ2.set i (.own b (.lst (xs.set n d))))) E) E) : W (dSetLL i f k) δ Q E := by
  refine Res.W.bind (Res.W.mono h (fun d δ1 ⟨xs0, e, h1⟩ => ?_) fun _ _ _ h => h)
  try dsimp only
  rw [e]
  refine Res.W.bind (Res.W.mono h1 (fun y δ2 ⟨b, xs, j, n, e1, e2, e3, q⟩ => ?_) fun _ _ _ h => h)
  subst e2
  try dsimp only
  rw [e1]
  try dsimp only
  rw [e3]
  exact q
theorem w_app {i : Nat} {xs0 : List D} (h0 : viewL δ[i]? = some xs0) (h : W f δ (fun d δ1 => ∃ b xs, δ1[i]? = some (.own b (.lst xs)) ∧ xs.length < 100000 ∧ Q .nxt (δ1.set i (.own b (.lst (xs ++ [d]))))) E) : W (dApp i f) δ Q E := by
  unfold W dApp
  rw [h0]
  refine Res.W.bind (Res.W.mono h (fun d δ1 ⟨b, xs, e1, e2, q⟩ => ?_) fun _ _ _ h => h)
  try dsimp only
  rw [e1]
  try dsimp only
  rw [decide_eq_true e2]
  exact q
/-! loops -/
/-- a turn of a loop has ended -/
def Tn (fl : Fl) (on : Prop) (out : Prop) (r : Rv → Prop) : Prop := match fl with
  | .nxt => on
  | .cnt => on
  | .brk => out
  | .ret v => r v
theorem Res.W.turn {r : Res Fl} (h : r.W (fun fl δ' => Tn fl (VS.W v δ' Q E) (Q .nxt δ') fun x => Q (.ret x) δ') E) : (r.turn v).W Q E := by
  cases r with
  | ok fl δ1 => cases fl <;> exact h
  | exc c fs δ1 => exact h
  | stuck => exact h
theorem w_loop {s : Tgt} (I : List D → List Sl → Prop) : ∀ (ds : List D) (δ : List Sl), I ds δ → (∀ δ, I [] δ → Q .nxt δ) →
    (∀ d ds δ, I (d :: ds) δ → ∃ δ1, s d δ = some δ1 ∧ W u δ1 (fun fl δ' => Tn fl (I ds δ') (Q .nxt δ') fun x => Q (.ret x) δ') E) → W (dLoop s u ds) δ Q E
  | [], δ, h, he, hs => he δ h
  | d :: ds, δ, h, he, hs => by
    obtain ⟨δ1, e, h1⟩ := hs d ds δ h
    unfold W dLoop
    rw [e]
    refine Res.W.turn (Res.W.mono h1 (fun fl δ' q => ?_) fun _ _ _ h => h)
    cases fl with
    | nxt => exact w_loop I ds δ' q he hs
    | cnt => exact w_loop I ds δ' q he hs
    | brk => exact q
    | ret x => exact q
theorem w_for {fi : Den (List D)} {s : Tgt} (h : W fi δ (fun ds δ1 => W (dLoop s u ds) δ1 Q E) E) : W (dFor fi s u) δ Q E := Res.W.bind h
theorem w_items {Q : List D → List Sl → Prop} (h : W f δ (fun x δ1 => ∃ z, itemsD x = some z ∧ Q z δ1) E) : W (dItems f) δ Q E := Res.W.bind (Res.W.mono h (fun x δ1 ⟨z, e, q⟩ => Res.W.lift e q) fun _ _ _ h => h)
theorem w_itemsT {Q : List D → List Sl → Prop} (h : W f δ (fun x δ1 => ∃ z, itemsT x = some z ∧ Q z δ1) E) : W (dItemsT f) δ Q E := Res.W.bind (Res.W.mono h (fun x δ1 ⟨z, e, q⟩ => Res.W.lift e q) fun _ _ _ h => h)
theorem w_rng {Q : List D → List Sl → Prop} {rg : List D → Option (List D)} {fs : Den (List D)} (h : W fs δ (fun xs δ1 => ∃ z, rg xs = some z ∧ Q z δ1) E) : W (dRng rg fs) δ Q E := Res.W.bind (Res.W.mono h (fun x δ1 ⟨z, e, q⟩ => Res.W.lift e q) fun _ _ _ h => h)
/-- a while loop: at most m turns are left -/
theorem w_while {t : Den Bool} (I : Nat → List Sl → Prop) (hs : ∀ m δ, I m δ → W t δ (fun b δ1 => (b = true → ∃ m', m = m' + 1 ∧ W u δ1 (fun fl δ' => Tn fl (I m' δ') (Q .nxt δ') fun x => Q (.ret x) δ') E) ∧ (b = false → Q .nxt δ1)) E) :
    ∀ (n m : Nat) (δ : List Sl), m < n → I m δ → W (dWhile t u n) δ Q E
  | 0, m, δ, hm, h => absurd hm (Nat.not_lt_zero _)
  | n + 1, m, δ, hm, h => by
    refine Res.W.bind (Res.W.mono (hs m δ h) (fun b δ1 q => ?_) fun _ _ _ h => h)
    cases b with
    | false => exact q.2 rfl
    | true =>
      obtain ⟨m', e, q2⟩ := q.1 rfl
      subst e
      refine Res.W.turn (Res.W.mono q2 (fun fl δ' q => ?_) fun _ _ _ h => h)
      cases fl with
      | nxt => exact w_while I hs n m' δ' (by omega) q
      | cnt => exact w_while I hs n m' δ' (by omega) q
      | brk => exact q
      | ret x => exact q
end
/-! comprehensions -/
section
variable {E : Nat → List (Str × D) → List Sl → Prop} {δ : List Sl} {f : Den D} {t : Den Bool} {s : Tgt} {vs : List Nat} {fi : Den (List D)}
theorem Res.W.noexc {α : Type} {r : Res α} {Q : α → List Sl → Prop} (h : r.W Q NoE) : r.noexc.W Q E := by
  cases r with
  | ok a δ => exact h
  | exc c fs δ => exact False.elim h
  | stuck => exact h
theorem w_lc {Q : O → List Sl → Prop} (h : W fi δ (fun ds δ1 => noOwn δ1 vs = true ∧ ∃ δw, wipeC vs δ1 = some δw ∧ W (lcL vs s t f ds) δw (fun ys δ2 => lim ys = true ∧ Q (.lst ys) (restore δ1 vs δ2)) E) E) : W (dLc fi vs s t f) δ Q E := by
  refine Res.W.bind (Res.W.mono h (fun ds δ1 ⟨h1, δw, h2, h3⟩ => ?_) fun _ _ _ h => h)
  try dsimp only
  rw [h1]
  try dsimp only
  rw [h2]
  refine Res.W.bind (Res.W.mono h3 (fun ys δ2 ⟨h4, q⟩ => ?_) fun _ _ _ h => h)
  try dsimp only
  rw [h4]
  exact q
/-- the turns of a comprehension -/
theorem w_lcL {Q : List D → List Sl → Prop} (I : List D → List D → List Sl → Prop) : ∀ (ds ys : List D) (δ : List Sl), I ds ys δ → (∀ zs δ, I [] zs δ → Q zs δ) →
    (∀ d ds ys δ, I (d :: ds) ys δ → ∃ δ1, s d δ = some δ1 ∧ W t δ1 (fun b δ2 => (b = true → W f δ2 (fun y δ3 => ∃ δ4, wipeC vs δ3 = some δ4 ∧ I ds (ys ++ [y]) δ4) NoE) ∧ (b = false → ∃ δ4, wipeC vs δ2 = some δ4 ∧ I ds ys δ4)) NoE) →
    W (lcL vs s t f ds) δ (fun zs δ' => Q (ys ++ zs) δ') E
  | [], ys, δ, h, he, hs => by
    show Q (ys ++ []) δ
    rw [List.append_nil]
    exact he ys δ h
  | d :: ds, ys, δ, h, he, hs => by
    obtain ⟨δ1, e, h1⟩ := hs d ds ys δ h
    unfold W lcL
    rw [e]
    refine Res.W.bind (Res.W.noexc (Res.W.mono h1 (fun b δ2 q => ?_) fun _ _ _ h => h))
    cases b with
    | false =>
      obtain ⟨δ4, e4, q⟩ := q.2 rfl
      try dsimp only
      rw [e4]
      exact w_lcL I ds ys δ4 q he hs
    | true =>
      refine Res.W.bind (Res.W.noexc (Res.W.mono (q.1 rfl) (fun y δ3 ⟨δ4, e4, q⟩ => ?_) fun _ _ _ h => h))
      try dsimp only
      rw [e4]
      refine Res.W.bind (Res.W.mono (w_lcL I ds (ys ++ [y]) δ4 q he hs) (fun zs δ5 q => ?_) fun _ _ _ h => h)
      show Q (ys ++ y :: zs) δ5
      rw [List.append_assoc] at q
      exact q
theorem w_yes {Q : Bool → List Sl → Prop} (q : Q true δ) : W dYes δ Q E := q
end
/-! exceptions -/
section
variable {Q : Fl → List Sl → Prop} {E : Nat → List (Str × D) → List Sl → Prop} {δ : List Sl} {u v : Den Fl}
theorem w_raise {c : Nat} {w : Str} {ns : List Str} {fs : Den (List D)} (h : W fs δ (fun ds δ1 => decide (ds.length = ns.length ∧ ds.length ≤ 1000) = true ∧ E c (flds (.str w) ns ds) δ1) E) : W (dRaise c w ns fs) δ Q E := by
  refine Res.W.bind (Res.W.mono h (fun ds δ1 ⟨e, q⟩ => ?_) fun _ _ _ h => h)
  try dsimp only
  rw [e]
  exact q
theorem w_leave {r : Res Fl} {i : Nat} (h : r.W (fun a δ => ∃ δ', setSl i .un δ = some δ' ∧ noExc δ' = true ∧ Q a δ') NoE) : (leave i r).W Q E := by
  cases r with
  | ok a δ =>
    obtain ⟨δ', e1, e2, q⟩ := h
    show Res.W (match setSl i .un δ with
      | some δ' => (match noExc δ' with
        | true => .ok a δ'
        | false => .stuck)
      | none => .stuck) Q E
    rw [e1]
    try dsimp only
    rw [e2]
    exact q
  | exc c fs δ => exact False.elim h
  | stuck => exact h
theorem w_try {cat : Nat → Option Bool} {i : Nat} (h : W u δ Q (fun c fs δ1 => (cat c = some true ∧ ∃ δ2, setSl i (.exc c fs) δ1 = some δ2 ∧ W v δ2 (fun a δ3 => ∃ δ', setSl i .un δ3 = some δ' ∧ noExc δ' = true ∧ Q a δ') NoE) ∨ (cat c = some false ∧ E c fs δ1))) : W (dTry cat i u v) δ Q E := by
  unfold W dTry
  unfold W at h
  revert h
  cases u δ with
  | ok a δ1 => exact id
  | stuck => exact id
  | exc c fs δ1 =>
    rintro (⟨e, δ2, e2, q⟩ | ⟨e, q⟩)
    · dsimp only
      rw [e]
      try dsimp only
      rw [e2]
      exact w_leave q
    · dsimp only
      rw [e]
      exact q
/-- a call from outside -/
theorem w_run {np n : Nat} {args : List Sl} {Q : Rv → List Sl → Prop} (hl : args.length = np) (h : W u (args ++ List.replicate (n - np) .un) (fun fl δ => match fl with
    | .ret r => Q r (outs args δ)
    | .nxt => Q (.dat .non) (outs args δ)
    | _ => False) (fun c fs δ => E c fs (outs args δ))) : (runF np n u args).W Q E := by
  unfold runF
  rw [decide_eq_true hl]
  unfold W at h
  revert h
  try dsimp only
  cases u (args ++ List.replicate (n - np) .un) with
  | ok fl δ => cases fl <;> exact id
  | exc c fs δ => exact id
  | stuck => exact id
theorem Cr.W.eq {r : Cr} {v : Rv} {os : List Sl} (h : r.W (fun a b => a = v ∧ b = os) NoE) : r = .ret v os := by
  cases r with
  | ret a b =>
    obtain ⟨rfl, rfl⟩ := h
    rfl
  | exc c fs δ => exact False.elim h
  | stuck => exact False.elim h
theorem Cr.W.eqx {r : Cr} {c : Nat} {fs : List (Str × D)} {os : List Sl} (h : r.W (fun _ _ => False) (fun a b d => a = c ∧ b = fs ∧ d = os)) : r = .exc c fs os := by
  cases r with
  | ret a b => exact False.elim h
  | exc c fs δ =>
    obtain ⟨rfl, rfl, rfl⟩ := h
    rfl
  | stuck => exact False.elim h
theorem Cr.W.of {r : Cr} {v : Rv} {os : List Sl} {Q : Rv → List Sl → Prop} (h : r = .ret v os) (q : Q v os) : r.W Q E := by
  subst h
  exact q
theorem Cr.W.ofx {r : Cr} {c : Nat} {fs : List (Str × D)} {os : List Sl} {Q : Rv → List Sl → Prop} (h : r = .exc c fs os) (q : E c fs os) : r.W Q E := by
  subst h
  exact q
end
end VS
end

section
set_option Elab.async false
set_option linter.all false
set_option maxRecDepth 100000
/-! VM, part 2: single operations, branches, ends. -/
namespace VS
open PySem PySem.Spec PyProof.Rows L2
section
variable {q : D → Prop} {i j : Int}
theorem op_addN (h : q (.int (i + j))) : Op addD (.int i) (.int j) q := ⟨_, rfl, h⟩
theorem op_subN (h : q (.int (i - j))) : Op subD (.int i) (.int j) q := ⟨_, rfl, h⟩
theorem op_addIN (h : q (.int (i + j))) : Op addI (.int i) (.int j) q := ⟨_, rfl, h⟩
theorem mulOk_l (h : i.natAbs < 2 ^ 64) : mulOk i j = true := by
  unfold mulOk
  rw [decide_eq_true h]
  rfl
theorem mulOk_r (h : j.natAbs < 2 ^ 64) : mulOk i j = true := by
  unfold mulOk
  rw [decide_eq_true h]
  cases decide (i.natAbs < 2 ^ 64) <;> rfl
theorem mulOk_b (h1 : i.natAbs < big) (h2 : j.natAbs < big) : mulOk i j = true := by
  unfold mulOk
  rw [decide_eq_true h1, decide_eq_true h2]
  cases decide (i.natAbs < 2 ^ 64) <;> cases decide (j.natAbs < 2 ^ 64) <;> rfl
theorem op_mulN (c : mulOk i j = true) (h : q (.int (i * j))) : Op mulD (.int i) (.int j) q := ⟨.int (i * j), if_pos c, h⟩
theorem op_modN (c : 0 < j) (h : ∀ r, r = i % j → 0 ≤ r → r < j → q (.int r)) : Op modD (.int i) (.int j) q :=
  ⟨.int (i % j), if_pos c, h _ rfl (Int.emod_nonneg _ (by omega)) (Int.emod_lt_of_pos _ c)⟩
theorem op_fdivN (c : 0 < j) (c2 : j.natAbs < big) (h : q (.int (i / j))) : Op fdivD (.int i) (.int j) q := ⟨.int (i / j), if_pos ⟨c, c2⟩, h⟩
theorem op_powN (c : 0 ≤ j ∧ j ≤ 1000 ∧ i.natAbs < 2 ^ 64) (h : q (.int (i ^ j.toNat))) : Op powD (.int i) (.int j) q := ⟨.int (i ^ j.toNat), if_pos c, h⟩
theorem op_catN {xs ys : List D} (c : xs.length + ys.length ≤ 100000) (h : q (.lst (xs ++ ys))) : Op addD (.lst xs) (.lst ys) q := ⟨.lst (xs ++ ys), if_pos c, h⟩
theorem op_any {fn : D → D → Option D} {x y z : D} (e : fn x y = some z) (h : q z) : Op fn x y q := ⟨_, e, h⟩
end
theorem atI_nat {α : Type} {xs : List α} {i : Int} {z : α} (c : 0 ≤ i) (e : xs[i.toNat]? = some z) : atI xs i = some z := by
  have hl := (List.getElem?_eq_some_iff.mp e).1
  unfold atI ixN
  rw [if_pos c, if_pos (by omega)]
  exact e
theorem ixN_nat {n : Nat} {i : Int} (c : 0 ≤ i) (h : i < n) : ixN n i = some i.toNat := by
  unfold ixN
  rw [if_pos c, if_pos h]
theorem op_ixN {xs : List D} {z : D} {i : Int} {q : D → Prop} (c : 0 ≤ i) (e : xs[i.toNat]? = some z) (h : q z) : Op ixD (.lst xs) (.int i) q := ⟨z, atI_nat c e, h⟩
theorem op1_any {fn : List D → Option D} {xs : List D} {z : D} {q : D → Prop} (e : fn xs = some z) (h : q z) : Op1 fn xs q := ⟨z, e, h⟩
theorem isB_mk {b : Bool} {q : Bool → Prop} (h : q b) : IsB (.bl b) q := ⟨b, rfl, h⟩
theorem ixs_mk {s : Option Sl} {xs : List D} {j : Int} {z : D} {Q : D → Prop} (h1 : viewL s = some xs) (h3 : atI xs j = some z) (q : Q z) : ∃ xs1 j' z', viewL s = some xs1 ∧ D.int j = .int j' ∧ atI xs1 j' = some z' ∧ Q z' := ⟨xs, j, z, h1, rfl, h3, q⟩
theorem setL_mk {s : Option Sl} {b : Bool} {xs : List D} {j : Int} {n : Nat} {Q : Bool → List D → Nat → Prop} (h1 : s = some (.own b (.lst xs))) (h3 : ixN xs.length j = some n) (q : Q b xs n) : ∃ b' xs' j' n', s = some (.own b' (.lst xs')) ∧ D.int j = .int j' ∧ ixN xs'.length j' = some n' ∧ Q b' xs' n' := ⟨b, xs, j, n, h1, rfl, h3, q⟩
theorem app_mk {s : Option Sl} {b : Bool} {xs : List D} {Q : Bool → List D → Prop} (h1 : s = some (.own b (.lst xs))) (h3 : xs.length < 100000) (q : Q b xs) : ∃ b' xs', s = some (.own b' (.lst xs')) ∧ xs'.length < 100000 ∧ Q b' xs' := ⟨b, xs, h1, h3, q⟩
theorem part_mk {j : Int} {Q : Int → Prop} (q : Q j) : ∃ i, D.int j = .int i ∧ Q i := ⟨j, rfl, q⟩
theorem op1_max {i j : Int} {q : D → Prop} (h : ∀ r : Int, r = max i j → q (.int r)) : Op1 maxD [.int i, .int j] q := ⟨_, rfl, h _ (by rw [Int.max_def]; split <;> split <;> omega)⟩
theorem op1_min {i j : Int} {q : D → Prop} (h : ∀ r : Int, r = min i j → q (.int r)) : Op1 minD [.int i, .int j] q := ⟨_, rfl, h _ (by rw [Int.min_def]; split <;> split <;> omega)⟩
theorem op1_abs {i : Int} {q : D → Prop} (h : ∀ r : Int, r = (i.natAbs : Int) → q (.int r)) : Op1 absD [.int i] q := ⟨_, rfl, h _ (by split <;> omega)⟩
/-! branches -/
section
variable {X Y : Prop} {p : Prop} [Decidable p] {b : Bool}
theorem br (h1 : p → X) (h2 : ¬ p → Y) : (decide p = true → X) ∧ (decide p = false → Y) := ⟨fun h => h1 (of_decide_eq_true h), fun h => h2 (of_decide_eq_false h)⟩
theorem br_t (h : X) : (true = true → X) ∧ (true = false → Y) := ⟨fun _ => h, fun z => (by cases z)⟩
theorem br_f (h : Y) : (false = true → X) ∧ (false = false → Y) := ⟨fun z => (by cases z), fun _ => h⟩
theorem br_n (h : (b = true → Y) ∧ (b = false → X)) : ((!b) = true → X) ∧ ((!b) = false → Y) := by
  cases b with
  | true => exact ⟨fun z => (by cases z), fun _ => h.1 rfl⟩
  | false => exact ⟨fun _ => h.2 rfl, fun z => (by cases z)⟩
theorem br_b (h1 : b = true → X) (h2 : b = false → Y) : (b = true → X) ∧ (b = false → Y) := ⟨h1, h2⟩
end
section
variable {n : Prop} {o : Fl → Prop} {r : Rv}
theorem sq_nxt (h : n) : Sq .nxt n o := h
theorem sq_ret (h : o (.ret r)) : Sq (.ret r) n o := h
theorem sq_brk (h : o .brk) : Sq .brk n o := h
theorem sq_cnt (h : o .cnt) : Sq .cnt n o := h
variable {on out : Prop} {rr : Rv → Prop}
theorem tn_nxt (h : on) : Tn .nxt on out rr := h
theorem tn_cnt (h : on) : Tn .cnt on out rr := h
theorem tn_brk (h : out) : Tn .brk on out rr := h
theorem tn_ret (h : rr r) : Tn (.ret r) on out rr := h
end
/-- how a def ends -/
def Fin (args : List Sl) (Q : Rv → List Sl → Prop) (fl : Fl) (δ : List Sl) : Prop := match fl with
  | .ret r => Q r (outs args δ)
  | .nxt => Q (.dat .non) (outs args δ)
  | _ => False
section
variable {args δ : List Sl} {Q : Rv → List Sl → Prop} {E : Nat → List (Str × D) → List Sl → Prop} {r : Rv} {u : Den Fl} {np n : Nat}
theorem fin_ret (h : Q r (outs args δ)) : Fin args Q (.ret r) δ := h
theorem fin_nxt (h : Q (.dat .non) (outs args δ)) : Fin args Q .nxt δ := h
theorem w_def {δ : List Sl} (hl : args.length = np) (hd : args ++ List.replicate (n - np) .un = δ) (h : W u δ (Fin args Q) (fun c fs δ => E c fs (outs args δ))) : (runF np n u args).W Q E := by
  subst hd
  refine w_run hl (Res.W.mono h (fun fl δ q => ?_) fun _ _ _ h => h)
  cases fl <;> exact q
end
theorem one_big : 1 < big := by decide
theorem w_cut {u v : Den Fl} {δ : List Sl} {Q : Fl → List Sl → Prop} {E : Nat → List (Str × D) → List Sl → Prop} (I : List Sl → Prop) (h : W u δ (fun fl δ1 => fl = .nxt ∧ I δ1) E) (h2 : ∀ δ1, I δ1 → W v δ1 Q E) : W (dSeq u v) δ Q E :=
  w_seq (Res.W.mono h (fun fl δ1 ⟨e, i⟩ => by subst e; exact h2 δ1 i) fun _ _ _ h => h)
theorem rng1_mk {j : Int} {Q : List D → Prop} (h : -(2 ^ 62) ≤ j ∧ j < 2 ^ 62) (q : Q (upto 0 j.toNat)) : ∃ z, rng1 [.int j] = some z ∧ Q z := ⟨_, if_pos (okR_iff.mpr h), q⟩
theorem rng2_mk {i j : Int} {Q : List D → Prop} (h : -(2 ^ 62) ≤ i ∧ i < 2 ^ 62 ∧ -(2 ^ 62) ≤ j ∧ j < 2 ^ 62) (q : Q (upto i (j - i).toNat)) : ∃ z, rng2 [.int i, .int j] = some z ∧ Q z := ⟨_, if_pos ⟨okR_iff.mpr ⟨h.1, h.2.1⟩, okR_iff.mpr h.2.2⟩, q⟩
/-- the turns of a range -/
theorem upto_nil {lo : Int} : upto lo 0 = [] := by unfold upto; rfl
theorem upto_cons {lo : Int} {n : Nat} : upto lo (n + 1) = .int lo :: upto (lo + 1) n := by
  unfold upto
  rw [List.range_succ_eq_map, List.map_cons, List.map_map]
  congr 1
  · show D.int (lo + ((0 : Nat) : Int)) = _
    rw [Int.natCast_zero, Int.add_zero]
  · refine List.map_congr_left fun a _ => ?_
    show D.int (lo + ((a + 1 : Nat) : Int)) = D.int (lo + 1 + (a : Int))
    congr 1
    omega
/-- a loop over a range: I at each place -/
theorem w_range {u : Den Fl} {s : Tgt} {Q : Fl → List Sl → Prop} {E : Nat → List (Str × D) → List Sl → Prop} (I : Int → List Sl → Prop) (hi : Int)
    (hs : ∀ (k : Int) δ, k < hi → I k δ → ∃ δ1, s (.int k) δ = some δ1 ∧ W u δ1 (fun fl δ' => Tn fl (I (k + 1) δ') (Q .nxt δ') fun x => Q (.ret x) δ') E) (he : ∀ δ, I hi δ → Q .nxt δ) :
    ∀ (n : Nat) (lo : Int) (δ : List Sl), lo + n = hi → I lo δ → W (dLoop s u (upto lo n)) δ Q E
  | 0, lo, δ, e, h => by
    have e : lo = hi := by omega
    subst e
    rw [upto_nil]
    exact he δ h
  | n + 1, lo, δ, e, h => by
    rw [upto_cons]
    obtain ⟨δ1, e1, h1⟩ := hs lo δ (by omega) h
    unfold W dLoop
    rw [e1]
    refine Res.W.turn (Res.W.mono h1 (fun fl δ' q => ?_) fun _ _ _ h => h)
    cases fl with
    | nxt => exact w_range I hi hs he n (lo + 1) δ' (by omega) q
    | cnt => exact w_range I hi hs he n (lo + 1) δ' (by omega) q
    | brk => exact q
    | ret x => exact q
theorem ex_wipe1 {v : Nat} {δ δ' : List Sl} {Q : List Sl → Prop} (h : setSl v .un δ = some δ') (q : Q δ') : ∃ δw, wipeC [v] δ = some δw ∧ Q δw := ⟨δ', h, q⟩
/-! data that _law_same can compare -/
def plainB : Nat → D → Bool
  | 0, _ => false
  | _ + 1, .non => true
  | _ + 1, .bl _ => true
  | _ + 1, .int _ => true
  | _ + 1, .str _ => true
  | n + 1, .lst xs => decide (xs.length ≤ 100000) && xs.all (plainB n)
  | n + 1, .tup xs => decide (xs.length ≤ 100000) && xs.all (plainB n)
  | _ + 1, _ => false
end VS
end

section
set_option Elab.async false
set_option linter.all false
set_option maxRecDepth 100000
set_option maxHeartbeats 4000000
set_option exponentiation.threshold 4000
/-! VM, part 3: helpers. -/
namespace VS
open PySem PySem.Spec PyProof.Rows L2
theorem w_lcL0 {E : Nat → List (Str × D) → List Sl → Prop} {f : Den D} {t : Den Bool} {s : Tgt} {vs : List Nat} {Q : List D → List Sl → Prop} (I : List D → List D → List Sl → Prop) (ds : List D) (δ : List Sl) (h : I ds [] δ) (he : ∀ zs δ, I [] zs δ → Q zs δ)
    (hs : ∀ d ds ys δ, I (d :: ds) ys δ → ∃ δ1, s d δ = some δ1 ∧ W t δ1 (fun b δ2 => (b = true → W f δ2 (fun y δ3 => ∃ δ4, wipeC vs δ3 = some δ4 ∧ I ds (ys ++ [y]) δ4) NoE) ∧ (b = false → ∃ δ4, wipeC vs δ2 = some δ4 ∧ I ds ys δ4)) NoE) : W (lcL vs s t f ds) δ Q E := w_lcL (Q := Q) I ds [] δ h he hs
theorem cut_map (ns : List Int) (a b : Option Int) : cut (ns.map D.int) a b = (cut ns a b).map D.int := by
  unfold cut
  rw [List.map_take, List.map_drop, List.length_map]
theorem cut_len (ns : List Int) : (cut ns none (some 63)).length ≤ 63 := by
  unfold cut
  rw [List.length_take]
  have e : HT.sIx ns.length ns.length (some 63) = min 63 ns.length := HT.sIx_nat _ _ 63
  rw [e]
  omega
theorem upto_ints : ∀ (n : Nat) (lo : Int), ∃ ms : List Int, upto lo n = ms.map D.int
  | 0, lo => ⟨[], upto_nil⟩
  | n + 1, lo => by
    obtain ⟨ms, e⟩ := upto_ints n (lo + 1)
    exact ⟨lo :: ms, by rw [upto_cons, e]; rfl⟩
theorem upto_len : ∀ (n : Nat) (lo : Int), (upto lo n).length = n := fun n lo => by
  unfold upto
  rw [List.length_map, List.length_range]
theorem Cr.ex {r : Cr} {v : Rv} (h : r.W (fun a _ => a = v) NoE) : ∃ os, r = .ret v os := by
  cases r with
  | ret a b =>
    have h : a = v := h
    subst h
    exact ⟨b, rfl⟩
  | exc c fs δ => exact False.elim h
  | stuck => exact False.elim h
def NO (s : Sl) : Prop := ∀ b o, s ≠ .own b o
theorem no_un : NO .un := fun b o z => by cases z
theorem no_dat {d : D} : NO (.dat d) := fun b o z => by cases z
theorem tset {δ : List Sl} {i : Nat} {s : Sl} {d : D} (h : δ[i]? = some s) (hs : NO s) : tName i d δ = some (δ.set i (.dat d)) := by
  unfold tName setSl
  rw [h]
  cases s with
  | own b o => exact absurd rfl (hs b o)
  | _ => rfl
theorem Cr.W.ofE {r : Cr} {v : Rv} {os : List Sl} {Q : Rv → List Sl → Prop} {E : Nat → List (Str × D) → List Sl → Prop} (h : r = .ret v os) (q : Q v os) : r.W Q E := by
  subst h
  exact q
section
variable {Q : Fl → List Sl → Prop} {E : Nat → List (Str × D) → List Sl → Prop} {u : Den Fl} {s : Tgt}
/-- a loop: each item is P, I is kept -/
theorem w_loopP (P : D → Prop) (I : List Sl → Prop) : ∀ (ds : List D) (δ : List Sl), (∀ d, d ∈ ds → P d) → I δ → (∀ δ, I δ → Q .nxt δ) →
    (∀ d δ, P d → I δ → ∃ δ1, s d δ = some δ1 ∧ W u δ1 (fun fl δ' => Tn fl (I δ') (Q .nxt δ') fun x => Q (.ret x) δ') E) → W (dLoop s u ds) δ Q E := fun ds δ hP h he hs =>
  w_loop (fun ds δ => (∀ d, d ∈ ds → P d) ∧ I δ) ds δ ⟨hP, h⟩ (fun δ h => he δ h.2) fun d ds δ ⟨h1, h2⟩ => by
    obtain ⟨δ1, e, w⟩ := hs d δ (h1 d List.mem_cons_self) h2
    refine ⟨δ1, e, Res.W.mono w (fun fl δ' q => ?_) fun _ _ _ h => h⟩
    cases fl with
    | nxt => exact ⟨fun x hx => h1 x (List.mem_cons_of_mem _ hx), q⟩
    | cnt => exact ⟨fun x hx => h1 x (List.mem_cons_of_mem _ hx), q⟩
    | brk => exact q
    | ret x => exact q
theorem w_loop_nil {δ : List Sl} (q : Q .nxt δ) : W (dLoop s u []) δ Q E := q
theorem w_loop_cons {δ : List Sl} {d : D} {ds : List D} (h : ∃ δ1, s d δ = some δ1 ∧ W u δ1 (fun fl δ' => Tn fl (W (dLoop s u ds) δ' Q E) (Q .nxt δ') fun x => Q (.ret x) δ') E) : W (dLoop s u (d :: ds)) δ Q E := by
  obtain ⟨δ1, e, h1⟩ := h
  unfold W dLoop
  rw [e]
  exact Res.W.turn h1
end
section
variable {Q : List D → List Sl → Prop} {E : Nat → List (Str × D) → List Sl → Prop} {t : Den Bool} {f : Den D} {s : Tgt} {vs : List Nat}
/-- a comprehension: the items are P, the results R, I is kept -/
theorem w_lcP (P R : D → Prop) (I : List Sl → Prop) (ds : List D) (δ : List Sl) (hP : ∀ d, d ∈ ds → P d) (h : I δ) (he : ∀ ys δ, I δ → ys.length ≤ ds.length → (∀ y, y ∈ ys → R y) → Q ys δ)
    (hs : ∀ d δ, P d → I δ → ∃ δ1, s d δ = some δ1 ∧ W t δ1 (fun b δ2 => (b = true → W f δ2 (fun y δ3 => ∃ δ4, wipeC vs δ3 = some δ4 ∧ R y ∧ I δ4) NoE) ∧ (b = false → ∃ δ4, wipeC vs δ2 = some δ4 ∧ I δ4)) NoE) : W (lcL vs s t f ds) δ Q E := by
  refine w_lcL0 (fun ds' ys δ => (∀ d, d ∈ ds' → P d) ∧ I δ ∧ ys.length + ds'.length ≤ ds.length ∧ ∀ y, y ∈ ys → R y) ds δ ⟨hP, h, by simp, fun y z => by cases z⟩ (fun zs δ ⟨_, a, b, c⟩ => he zs δ a (by simpa using b) c) ?_
  rintro d ds' ys δ ⟨h1, h2, h3, h4⟩
  obtain ⟨δ1, e, w⟩ := hs d δ (h1 d List.mem_cons_self) h2
  have h1' : ∀ d, d ∈ ds' → P d := fun x hx => h1 x (List.mem_cons_of_mem _ hx)
  refine ⟨δ1, e, Res.W.mono w (fun b δ2 q => ⟨fun hb => Res.W.mono (q.1 hb) (fun y δ3 ⟨δ4, e4, r, i⟩ => ⟨δ4, e4, h1', i, ?_, ?_⟩) fun _ _ _ h => h, fun hb => ?_⟩) fun _ _ _ h => h⟩
  · simp only [List.length_append, List.length_cons, List.length_nil] at h3 ⊢
    omega
  · intro z hz
    rcases List.mem_append.mp hz with hz | hz
    · exact h4 z hz
    · rw [List.mem_singleton.mp hz]
      exact r
  · obtain ⟨δ4, e4, i⟩ := q.2 hb
    refine ⟨δ4, e4, h1', i, ?_, h4⟩
    simp only [List.length_cons] at h3
    omega
/-- a comprehension that maps, the state kept -/
theorem w_lcMap (g : D → D) (ds : List D) (δ : List Sl) (hs : ∀ d, d ∈ ds → ∃ δ1, s d δ = some δ1 ∧ W f δ1 (fun y δ3 => y = g d ∧ wipeC vs δ3 = some δ) NoE) (q : Q (ds.map g) δ) : W (lcL vs s dYes f ds) δ Q E := by
  refine w_lcL0 (fun ds' ys δ' => δ' = δ ∧ (∀ d, d ∈ ds' → d ∈ ds) ∧ ys ++ ds'.map g = ds.map g) ds δ ⟨rfl, fun _ h => h, rfl⟩ ?_ ?_
  · rintro zs _ ⟨rfl, _, e⟩
    rw [List.map_nil, List.append_nil] at e
    rw [e]
    exact q
  · rintro d ds' ys _ ⟨rfl, h1, e⟩
    obtain ⟨δ1, e1, w⟩ := hs d (h1 d List.mem_cons_self)
    refine ⟨δ1, e1, w_yes ⟨fun _ => Res.W.mono w (fun y δ3 ⟨e2, e3⟩ => ⟨_, e3, rfl, fun x hx => h1 x (List.mem_cons_of_mem _ hx), ?_⟩) fun _ _ _ h => h, fun z => by cases z⟩⟩
    rw [e2, List.append_assoc]
    exact e
end
theorem intsOf_map : ∀ ns : List Int, intsOf (ns.map D.int) = some ns
  | [] => rfl
  | n :: ns => by
    show (intsOf (ns.map D.int)).map (fun r => n :: r) = _
    rw [intsOf_map ns]
    rfl
theorem sum_mk {ns : List Int} {xs : List D} {q : D → Prop} (h : xs = ns.map D.int) (z : q (.int ns.sum)) : Op1 sumD [.lst xs] q := by
  subst h
  refine ⟨.int ns.sum, ?_, z⟩
  show (intsOf (ns.map D.int)).map _ = _
  rw [intsOf_map]
  rfl
theorem br_yes {X Y p : Prop} [Decidable p] (hp : p) (h : X) : (decide p = true → X) ∧ (decide p = false → Y) := ⟨fun _ => h, fun z => absurd hp (of_decide_eq_false z)⟩
theorem br_not {X Y p : Prop} [Decidable p] (hp : ¬ p) (h : Y) : (decide p = true → X) ∧ (decide p = false → Y) := ⟨fun z => absurd (of_decide_eq_true z) hp, fun _ => h⟩
theorem lim_mk {xs : List D} (h : xs.length ≤ 100000) : lim xs = true := decide_eq_true h
end VS
end

section
set_option Elab.async false
set_option linter.all false
set_option maxRecDepth 100000
set_option maxHeartbeats 4000000
set_option exponentiation.threshold 4000
/-! VM, part 4: the later denotations walked. -/
namespace VS
open PySem PySem.Spec PyProof.Rows L2
def walkD : D → Option (List D)
  | .lst xs => some xs
  | .rol xs => some xs
  | .tup xs => some xs
  | .dct kvs => some (kvs.map fun kv => kD kv.1)
  | .str x => some (x.cps.toList.map chD)
  | _ => none
section
variable {Q : D → List Sl → Prop} {E : Nat → List (Str × D) → List Sl → Prop} {δ : List Sl} {f k l : Den D} {i : Nat}
theorem w_varO {o : O} (h : δ[i]? = some (.own false o)) (q : Q o.toD (δ.set i (.dat o.toD))) : W (dVar i) δ Q E := by
  unfold W dVar
  rw [h]
  exact q
theorem w_ixK {kvs0 : List (Key × D)} (h0 : viewK δ[i]? = some kvs0) (h : W k δ (fun y δ1 => ∃ kvs j z, viewK δ1[i]? = some kvs ∧ keyD y = some j ∧ dVal kvs j = some z ∧ Q z δ1) E) : W (dIxK i k) δ Q E := by
  unfold W dIxK
  rw [h0]
  refine Res.W.bind (Res.W.mono h (fun y δ1 ⟨kvs, j, z, h1, h2, h3, q⟩ => ?_) fun _ _ _ h => h)
  try dsimp only
  rw [h1, h2]
  exact Res.W.lift h3 q
theorem w_ixAK {kvs0 : List (Key × D)} (h0 : viewK δ[i]? = some kvs0) (h : W k δ (fun y δ1 => ∃ kvs j z, viewK δ1[i]? = some kvs ∧ keyD y = some j ∧ dVal kvs j = some z ∧ Q z δ1) E) : W (dIxA i k) δ Q E := by
  unfold W dIxA
  rw [h0]
  exact w_ixK h0 h
theorem w_ixAL {xs : List D} (hK : viewK δ[i]? = none) (h0 : viewL δ[i]? = some xs) (h : W k δ (fun y δ1 => ∃ xs1 j z, viewL δ1[i]? = some xs1 ∧ y = .int j ∧ atI xs1 j = some z ∧ Q z δ1) E) : W (dIxA i k) δ Q E := by
  unfold W dIxA
  rw [hK]
  exact w_ixS h0 h
theorem w_get1S {kvs0 : List (Key × D)} (h0 : viewK δ[i]? = some kvs0) (h : W k δ (fun y δ1 => ∃ kvs j, viewK δ1[i]? = some kvs ∧ keyD y = some j ∧ Q ((dVal kvs j).getD .non) δ1) E) : W (dGet1S i k) δ Q E := by
  unfold W dGet1S
  rw [h0]
  refine Res.W.bind (Res.W.mono h (fun y δ1 ⟨kvs, j, h1, h2, q⟩ => ?_) fun _ _ _ h => h)
  try dsimp only
  rw [h1, h2]
  exact q
theorem w_get2S {kvs0 : List (Key × D)} (h0 : viewK δ[i]? = some kvs0) (h : W k δ (fun y δ1 => W l δ1 (fun z δ2 => ∃ kvs j, viewK δ2[i]? = some kvs ∧ keyD y = some j ∧ Q ((dVal kvs j).getD z) δ2) E) E) : W (dGet2S i k l) δ Q E := by
  unfold W dGet2S
  rw [h0]
  refine Res.W.bind (Res.W.mono h (fun y δ1 h1 => Res.W.bind (Res.W.mono h1 (fun z δ2 ⟨kvs, j, h1, h2, q⟩ => ?_) fun _ _ _ h => h)) fun _ _ _ h => h)
  try dsimp only
  rw [h1, h2]
  exact q
theorem w_get1 (h : W f δ (fun x δ1 => ∃ kvs, x = .dct kvs ∧ W k δ1 (fun y δ2 => ∃ j, keyD y = some j ∧ Q ((dVal kvs j).getD .non) δ2) E) E) : W (dGet1 f k) δ Q E := by
  refine Res.W.bind (Res.W.mono h (fun x δ1 ⟨kvs, e, h1⟩ => ?_) fun _ _ _ h => h)
  subst e
  refine Res.W.bind (Res.W.mono h1 (fun y δ2 ⟨j, h2, q⟩ => ?_) fun _ _ _ h => h)
  try dsimp only
  rw [h2]
  exact q
theorem w_get2 (h : W f δ (fun x δ1 => ∃ kvs, x = .dct kvs ∧ W k δ1 (fun y δ2 => W l δ2 (fun z δ3 => ∃ j, keyD y = some j ∧ Q ((dVal kvs j).getD z) δ3) E) E) E) : W (dGet2 f k l) δ Q E := by
  refine Res.W.bind (Res.W.mono h (fun x δ1 ⟨kvs, e, h1⟩ => ?_) fun _ _ _ h => h)
  subst e
  refine Res.W.bind (Res.W.mono h1 (fun y δ2 h2 => Res.W.bind (Res.W.mono h2 (fun z δ3 ⟨j, h3, q⟩ => ?_) fun _ _ _ h => h)) fun _ _ _ h => h)
  try dsimp only
  rw [h3]
  exact q
theorem w_inS (h : W f δ (fun y δ1 => ∃ kvs j, viewK δ1[i]? = some kvs ∧ keyD y = some j ∧ Q (.bl (dVal kvs j).isSome) δ1) E) : W (dInS false f i) δ Q E := by
  refine Res.W.bind (Res.W.mono h (fun y δ1 ⟨kvs, j, h1, h2, q⟩ => ?_) fun _ _ _ h => h)
  try dsimp only
  rw [h1, h2]
  exact q
theorem w_notInS (h : W f δ (fun y δ1 => ∃ kvs j, viewK δ1[i]? = some kvs ∧ keyD y = some j ∧ Q (.bl (!(dVal kvs j).isSome)) δ1) E) : W (dInS true f i) δ Q E := by
  refine Res.W.bind (Res.W.mono h (fun y δ1 ⟨kvs, j, h1, h2, q⟩ => ?_) fun _ _ _ h => h)
  try dsimp only
  rw [h1, h2]
  exact q
theorem w_meth {isT : O → Bool} {op : O → List D → Option (O × D)} {fs : Den (List D)} {b0 : Bool} {o0 : O} (h0 : δ[i]? = some (.own b0 o0)) (ht : isT o0 = true) (h : W fs δ (fun ds δ1 => ∃ b o1 o2 d, δ1[i]? = some (.own b o1) ∧ op o1 ds = some (o2, d) ∧ Q d (δ1.set i (.own b o2))) E) : W (dMeth isT op i fs) δ Q E := by
  unfold W dMeth
  rw [h0]
  try dsimp only
  rw [ht]
  refine Res.W.bind (Res.W.mono h (fun ds δ1 ⟨b, o1, o2, d, h1, h2, q⟩ => ?_) fun _ _ _ h => h)
  try dsimp only
  rw [h1]
  try dsimp only
  rw [h2]
  exact q
theorem w_md {fn : Str → List D → Option D} {fs : Den (List D)} (h : W f δ (fun x δ1 => ∃ y, x = .str y ∧ W fs δ1 (fun xs δ2 => ∃ z, fn y xs = some z ∧ Q z δ2) E) E) : W (dMd fn f fs) δ Q E := by
  refine Res.W.bind (Res.W.mono h (fun x δ1 ⟨y, e, h1⟩ => ?_) fun _ _ _ h => h)
  subst e
  exact Res.W.bind (Res.W.mono h1 (fun xs δ2 ⟨z, h3, q⟩ => Res.W.lift h3 q) fun _ _ _ h => h)
theorem w_neg (h : W f δ (fun x δ1 => ∃ z, negD x = some z ∧ Q z δ1) E) : W (dNeg f) δ Q E := Res.W.bind (Res.W.mono h (fun x δ1 ⟨z, e, q⟩ => Res.W.lift e q) fun _ _ _ h => h)
theorem w_fmt (h : W f δ (fun x δ1 => ∃ z, fmtD x = some z ∧ Q z δ1) E) : W (dFmt f) δ Q E := Res.W.bind (Res.W.mono h (fun x δ1 ⟨z, e, q⟩ => Res.W.lift e q) fun _ _ _ h => h)
theorem w_jn {acc : Str} (q : Q (.str acc) δ) : W (dJs [] acc) δ Q E := q
theorem w_jc {fs : List (Den D)} {acc : Str} (h : W f δ (fun x δ1 => ∃ y, x = .str y ∧ (acc ++ y).length ≤ 100000 ∧ W (dJs fs (acc ++ y)) δ1 Q E) E) : W (dJs (f :: fs) acc) δ Q E := by
  refine Res.W.bind (Res.W.mono h (fun x δ1 ⟨y, e, hl, h1⟩ => ?_) fun _ _ _ h => h)
  subst e
  try dsimp only
  rw [decide_eq_true hl]
  exact h1
end
section
variable {E : Nat → List (Str × D) → List Sl → Prop} {δ : List Sl} {f k l : Den D} {i : Nat}
theorem w_setK {Q : Fl → List Sl → Prop} (h : W f δ (fun d δ1 => ∃ kvs0, viewK δ1[i]? = some kvs0 ∧ W k δ1 (fun y δ2 => ∃ b kvs j, δ2[i]? = some (.own b (.dct kvs)) ∧ keyD y = some j ∧ kvs.length < 100000 ∧ Q .nxt (δ2.set i (.own b (.dct (dPut kvs j d))))) E) E) : W (dSetK i f k) δ Q E := by
  refine Res.W.bind (Res.W.mono h (fun d δ1 ⟨kvs0, e, h1⟩ => ?_) fun _ _ _ h => h)
  try dsimp only
  rw [e]
  refine Res.W.bind (Res.W.mono h1 (fun y δ2 ⟨b, kvs, j, e1, e2, e3, q⟩ => ?_) fun _ _ _ h => h)
  try dsimp only
  rw [e1, e2]
  try dsimp only
  rw [decide_eq_true e3]
  exact q
theorem w_delK {Q : Fl → List Sl → Prop} {kvs0 : List (Key × D)} (h0 : viewK δ[i]? = some kvs0) (h : W k δ (fun y δ1 => ∃ b kvs j, δ1[i]? = some (.own b (.dct kvs)) ∧ keyD y = some j ∧ (dVal kvs j).isSome = true ∧ Q .nxt (δ1.set i (.own b (.dct (dDel kvs j))))) E) : W (dDelK i k) δ Q E := by
  unfold W dDelK
  rw [h0]
  refine Res.W.bind (Res.W.mono h (fun y δ1 ⟨b, kvs, j, e1, e2, e3, q⟩ => ?_) fun _ _ _ h => h)
  try dsimp only
  rw [e1, e2]
  try dsimp only
  rw [e3]
  exact q
theorem w_augK {Q : Fl → List Sl → Prop} {fn : D → D → Option D} {kvs0 : List (Key × D)} (h0 : viewK δ[i]? = some kvs0) (h : W k δ (fun y δ1 => ∃ kvs j d, viewK δ1[i]? = some kvs ∧ keyD y = some j ∧ dVal kvs j = some d ∧ W f δ1 (fun e δ2 => ∃ z b kvs2, fn d e = some z ∧ δ2[i]? = some (.own b (.dct kvs2)) ∧ kvs2.length < 100000 ∧ Q .nxt (δ2.set i (.own b (.dct (dPut kvs2 j z))))) E) E) : W (dAugK fn i k f) δ Q E := by
  unfold W dAugK
  rw [h0]
  refine Res.W.bind (Res.W.mono h (fun y δ1 ⟨kvs, j, d, e1, e2, e3, h1⟩ => ?_) fun _ _ _ h => h)
  try dsimp only
  rw [e1, e2]
  try dsimp only
  rw [e3]
  refine Res.W.bind (Res.W.mono h1 (fun e δ2 ⟨z, b, kvs2, e4, e5, e6, q⟩ => ?_) fun _ _ _ h => h)
  try dsimp only
  rw [e4, e5]
  try dsimp only
  rw [decide_eq_true e6]
  exact q
theorem w_tru {Q : Bool → List Sl → Prop} (h : W f δ (fun x δ1 => ∃ b, truD x = some b ∧ Q b δ1) E) : W (dTru f) δ Q E := Res.W.bind (Res.W.mono h (fun x δ1 ⟨z, e, q⟩ => Res.W.lift e q) fun _ _ _ h => h)
theorem w_truS {Q : Bool → List Sl → Prop} {b : Bool} (h : truS δ[i]? = some b) (q : Q b δ) : W (dTruS i) δ Q E := by
  unfold W dTruS
  rw [h]
  exact q
theorem w_rvN {Q : Rv → List Sl → Prop} {fo : Den O} (h : W fo δ (fun o δ1 => Q (.new o) δ1) E) : W (dRvN fo) δ Q E := Res.W.bind h
theorem w_rvD {Q : Rv → List Sl → Prop} (h : W f δ (fun d δ1 => Q (.dat d) δ1) E) : W (dRvD f) δ Q E := Res.W.bind h
theorem w_nb {Q : O → List Sl → Prop} {fn : List D → Option O} {fs : Den (List D)} (h : W fs δ (fun xs δ1 => ∃ o, fn xs = some o ∧ Q o δ1) E) : W (nB fn fs) δ Q E := Res.W.bind (Res.W.mono h (fun x δ1 ⟨z, e, q⟩ => Res.W.lift e q) fun _ _ _ h => h)
theorem w_dct0 {Q : O → List Sl → Prop} (q : Q (.dct []) δ) : W nDct0 δ Q E := q
theorem w_pnil {Q : List (D × D) → List Sl → Prop} (q : Q [] δ) : W (dPairs []) δ Q E := q
theorem w_pcons {Q : List (D × D) → List Sl → Prop} {r : List (Den D × Den D)} (h : W f δ (fun x δ1 => W k δ1 (fun y δ2 => W (dPairs r) δ2 (fun ps δ3 => Q ((x, y) :: ps) δ3) E) E) E) : W (dPairs ((f, k) :: r)) δ Q E :=
  Res.W.bind (Res.W.mono h (fun x δ1 h1 => Res.W.bind (Res.W.mono h1 (fun y δ2 h2 => Res.W.bind (Res.W.mono h2 (fun ps δ3 q => q) fun _ _ _ h => h)) fun _ _ _ h => h)) fun _ _ _ h => h)
theorem w_dct {Q : O → List Sl → Prop} {l : List (Den D × Den D)} (h : W (dPairs l) δ (fun ps δ1 => ∃ kvs, keysD ps = some kvs ∧ kvs.length ≤ 15 ∧ Q (.dct (dMrg [] kvs)) δ1) E) : W (nDct l) δ Q E := by
  refine Res.W.bind (Res.W.mono h (fun ps δ1 ⟨kvs, e, hl, q⟩ => ?_) fun _ _ _ h => h)
  try dsimp only
  rw [e]
  try dsimp only
  rw [decide_eq_true hl]
  exact q
theorem w_walk3 {Q : List D → List Sl → Prop} (h : W f δ (fun x δ1 => ∃ z, walkD x = some z ∧ Q z δ1) E) : W (dWalk3 f) δ Q E := Res.W.bind (Res.W.mono h (fun x δ1 ⟨z, e, q⟩ => by cases x <;> first | exact Res.W.lift e q | cases e) fun _ _ _ h => h)
theorem w_keysIt {Q : List D → List Sl → Prop} (h : W f δ (fun x δ1 => ∃ z, keysIt x = some z ∧ Q z δ1) E) : W (dKeysIt f) δ Q E := Res.W.bind (Res.W.mono h (fun x δ1 ⟨z, e, q⟩ => Res.W.lift e q) fun _ _ _ h => h)
theorem w_itemsIt {Q : List D → List Sl → Prop} (h : W f δ (fun x δ1 => ∃ z, itemsIt x = some z ∧ Q z δ1) E) : W (dItemsIt f) δ Q E := Res.W.bind (Res.W.mono h (fun x δ1 ⟨z, e, q⟩ => Res.W.lift e q) fun _ _ _ h => h)
theorem w_argsK {Q : List (Option D) → List Sl → Prop} {fa : Den (List (Option D))} {fk : Den (List D)} (h : W fa δ (fun ds δ1 => W fk δ1 (fun es δ2 => Q (ds ++ es.map some) δ2) E) E) : W (dArgsK fa fk) δ Q E := Res.W.bind (Res.W.mono h (fun x δ1 q => Res.W.bind q) fun _ _ _ h => h)
end
section
variable {E : Nat → List (Str × D) → List Sl → Prop} {δ : List Sl} {f fv : Den D} {t : Den Bool} {s : Tgt} {vs : List Nat} {fi : Den (List D)}
theorem w_dc {Q : O → List Sl → Prop} (h : W fi δ (fun ds δ1 => noOwn δ1 vs = true ∧ ∃ δw, wipeC vs δ1 = some δw ∧ W (dcL vs s t f fv ds) δw (fun ys δ2 => ys.length ≤ 100000 ∧ Q (.dct (dMrg [] ys)) (restore δ1 vs δ2)) E) E) : W (dDc fi vs s t f fv) δ Q E := by
  refine Res.W.bind (Res.W.mono h (fun ds δ1 ⟨h1, δw, h2, h3⟩ => ?_) fun _ _ _ h => h)
  try dsimp only
  rw [h1]
  try dsimp only
  rw [h2]
  refine Res.W.bind (Res.W.mono h3 (fun ys δ2 ⟨h4, q⟩ => ?_) fun _ _ _ h => h)
  try dsimp only
  rw [decide_eq_true h4]
  exact q
theorem w_dcL {Q : List (Key × D) → List Sl → Prop} (I : List D → List (Key × D) → List Sl → Prop) : ∀ (ds : List D) (ys : List (Key × D)) (δ : List Sl), I ds ys δ → (∀ zs δ, I [] zs δ → Q zs δ) →
    (∀ d ds ys δ, I (d :: ds) ys δ → ∃ δ1, s d δ = some δ1 ∧ W t δ1 (fun b δ2 => (b = true → W f δ2 (fun y δ3 => W fv δ3 (fun z δ4 => ∃ j δ5, keyD y = some j ∧ wipeC vs δ4 = some δ5 ∧ I ds (ys ++ [(j, z)]) δ5) NoE) NoE) ∧ (b = false → ∃ δ4, wipeC vs δ2 = some δ4 ∧ I ds ys δ4)) NoE) →
    W (dcL vs s t f fv ds) δ (fun zs δ' => Q (ys ++ zs) δ') E
  | [], ys, δ, h, he, hs => by
    show Q (ys ++ []) δ
    rw [List.append_nil]
    exact he ys δ h
  | d :: ds, ys, δ, h, he, hs => by
    obtain ⟨δ1, e, h1⟩ := hs d ds ys δ h
    unfold W dcL
    rw [e]
    refine Res.W.bind (Res.W.noexc (Res.W.mono h1 (fun b δ2 q => ?_) fun _ _ _ h => h))
    cases b with
    | false =>
      obtain ⟨δ4, e4, q⟩ := q.2 rfl
      try dsimp only
      rw [e4]
      exact w_dcL I ds ys δ4 q he hs
    | true =>
      refine Res.W.bind (Res.W.noexc (Res.W.mono (q.1 rfl) (fun y δ3 q => Res.W.bind (Res.W.noexc (Res.W.mono q (fun z δ4 ⟨j, δ5, e3, e4, q⟩ => ?_) fun _ _ _ h => h))) fun _ _ _ h => h))
      try dsimp only
      rw [e3, e4]
      refine Res.W.bind (Res.W.mono (w_dcL I ds (ys ++ [(j, z)]) δ5 q he hs) (fun zs δ5 q => ?_) fun _ _ _ h => h)
      show Q (ys ++ (j, z) :: zs) _
      rw [List.append_assoc] at q
      exact q
end
theorem w_dcL0 {E : Nat → List (Str × D) → List Sl → Prop} {f fv : Den D} {t : Den Bool} {s : Tgt} {vs : List Nat} {Q : List (Key × D) → List Sl → Prop} (I : List D → List (Key × D) → List Sl → Prop) (ds : List D) (δ : List Sl) (h : I ds [] δ) (he : ∀ zs δ, I [] zs δ → Q zs δ)
    (hs : ∀ d ds ys δ, I (d :: ds) ys δ → ∃ δ1, s d δ = some δ1 ∧ W t δ1 (fun b δ2 => (b = true → W f δ2 (fun y δ3 => W fv δ3 (fun z δ4 => ∃ j δ5, keyD y = some j ∧ wipeC vs δ4 = some δ5 ∧ I ds (ys ++ [(j, z)]) δ5) NoE) NoE) ∧ (b = false → ∃ δ4, wipeC vs δ2 = some δ4 ∧ I ds ys δ4)) NoE) : W (dcL vs s t f fv ds) δ Q E := w_dcL (Q := Q) I ds [] δ h he hs
/-! small steps -/
theorem ixk_mk {s : Option Sl} {kvs : List (Key × D)} {y z : D} {j : Key} {Q : D → Prop} (h1 : viewK s = some kvs) (h2 : keyD y = some j) (h3 : dVal kvs j = some z) (q : Q z) : ∃ kvs j z, viewK s = some kvs ∧ keyD y = some j ∧ dVal kvs j = some z ∧ Q z := ⟨kvs, j, z, h1, h2, h3, q⟩
theorem getk_mk {s : Option Sl} {kvs : List (Key × D)} {y : D} {j : Key} {Q : List (Key × D) → Key → Prop} (h1 : viewK s = some kvs) (h2 : keyD y = some j) (q : Q kvs j) : ∃ kvs j, viewK s = some kvs ∧ keyD y = some j ∧ Q kvs j := ⟨kvs, j, h1, h2, q⟩
theorem setk_mk {s : Option Sl} {b : Bool} {kvs : List (Key × D)} {y : D} {j : Key} {Q : Bool → List (Key × D) → Key → Prop} (h1 : s = some (.own b (.dct kvs))) (h2 : keyD y = some j) (h3 : kvs.length < 100000) (q : Q b kvs j) : ∃ b kvs j, s = some (.own b (.dct kvs)) ∧ keyD y = some j ∧ kvs.length < 100000 ∧ Q b kvs j := ⟨b, kvs, j, h1, h2, h3, q⟩
theorem dctx_mk {kvs : List (Key × D)} {Q : List (Key × D) → Prop} (q : Q kvs) : ∃ kvs', D.dct kvs = .dct kvs' ∧ Q kvs' := ⟨kvs, rfl, q⟩
theorem strx_mk {y : Str} {Q : Str → Prop} (q : Q y) : ∃ y', D.str y = .str y' ∧ Q y' := ⟨y, rfl, q⟩
section
variable {Q : O → List Sl → Prop} {E : Nat → List (Str × D) → List Sl → Prop} {δ : List Sl} {f k : Den D} {i : Nat}
theorem catO_w {xs ys : List D} (h : xs.length + ys.length ≤ 100000) (q : Q (.lst (xs ++ ys)) δ) : (catO xs ys δ).W Q E := by
  unfold catO
  rw [decide_eq_true h]
  exact q
theorem w_nadd (h : W f δ (fun x δ1 => ∃ xs, x = .lst xs ∧ W k δ1 (fun y δ2 => ∃ ys, y = .lst ys ∧ xs.length + ys.length ≤ 100000 ∧ Q (.lst (xs ++ ys)) δ2) E) E) : W (nAdd f k) δ Q E := by
  refine Res.W.bind (Res.W.mono h (fun x δ1 ⟨xs, e, h1⟩ => ?_) fun _ _ _ h => h)
  subst e
  refine Res.W.bind (Res.W.mono h1 (fun y δ2 ⟨ys, e, hl, q⟩ => ?_) fun _ _ _ h => h)
  subst e
  exact catO_w hl q
theorem w_naddR (h : W f δ (fun x δ1 => ∃ xs ys, x = .lst xs ∧ viewL δ1[i]? = some ys ∧ xs.length + ys.length ≤ 100000 ∧ Q (.lst (xs ++ ys)) δ1) E) : W (nAddR f i) δ Q E := by
  refine Res.W.bind (Res.W.mono h (fun x δ1 ⟨xs, ys, e, h1, hl, q⟩ => ?_) fun _ _ _ h => h)
  subst e
  try dsimp only
  rw [h1]
  exact catO_w hl q
theorem w_naddL {xs0 : List D} (h0 : viewL δ[i]? = some xs0) (h : W k δ (fun y δ1 => ∃ xs ys, viewL δ1[i]? = some xs ∧ y = .lst ys ∧ xs.length + ys.length ≤ 100000 ∧ Q (.lst (xs ++ ys)) δ1) E) : W (nAddL i k) δ Q E := by
  unfold W nAddL
  rw [h0]
  refine Res.W.bind (Res.W.mono h (fun y δ1 ⟨xs, ys, h1, e, hl, q⟩ => ?_) fun _ _ _ h => h)
  subst e
  try dsimp only
  rw [h1]
  exact catO_w hl q
theorem lstx_mk {y : List D} {Q : List D → Prop} (q : Q y) : ∃ y', D.lst y = .lst y' ∧ Q y' := ⟨y, rfl, q⟩
theorem addR_mk {xs ys : List D} {s : Option Sl} {Q : List D → Prop} (h : viewL s = some ys) (hl : xs.length + ys.length ≤ 100000) (q : Q (xs ++ ys)) : ∃ xs' ys', D.lst xs = .lst xs' ∧ viewL s = some ys' ∧ xs'.length + ys'.length ≤ 100000 ∧ Q (xs' ++ ys') := ⟨xs, ys, rfl, h, hl, q⟩
theorem addL_mk {xs ys : List D} {s : Option Sl} {Q : List D → Prop} (h : viewL s = some xs) (hl : xs.length + ys.length ≤ 100000) (q : Q (xs ++ ys)) : ∃ xs' ys', viewL s = some xs' ∧ D.lst ys = .lst ys' ∧ xs'.length + ys'.length ≤ 100000 ∧ Q (xs' ++ ys') := ⟨xs, ys, h, rfl, hl, q⟩
theorem nadd_mk {xs ys : List D} {Q : List D → Prop} (hl : xs.length + ys.length ≤ 100000) (q : Q (xs ++ ys)) : ∃ ys', D.lst ys = .lst ys' ∧ xs.length + ys'.length ≤ 100000 ∧ Q (xs ++ ys') := ⟨ys, rfl, hl, q⟩
end
end VS
end

section
set_option Elab.async false
set_option linter.all false
set_option maxRecDepth 100000
set_option maxHeartbeats 4000000
set_option exponentiation.threshold 4000
/-! VM, part 5: texts as lists of signs; names. -/
namespace VS
open PySem PySem.Spec PyProof.Rows L2
def mkS (l : List Nat) : Str := ⟨l.toArray⟩
theorem mkS_cps (l : List Nat) : (mkS l).cps.toList = l := by simp [mkS]
theorem mkS_of (s : Str) : s = mkS s.cps.toList := by simp [mkS]
theorem mkS_len (l : List Nat) : (mkS l).length = l.length := by simp [mkS, Str.length]
theorem mkS_app (a b : List Nat) : mkS a ++ mkS b = mkS (a ++ b) := by
  show Str.append (mkS a) (mkS b) = _
  simp [Str.append, mkS]
theorem mkS_inj {a b : List Nat} (h : mkS a = mkS b) : a = b := by
  have h := congrArg (fun s => s.cps.toList) h
  simpa [mkS] using h
theorem mkS_iff {a b : List Nat} : mkS a = mkS b ↔ a = b := ⟨mkS_inj, fun h => by rw [h]⟩
theorem mkS_cut (l : List Nat) (lo hi : Option Int) : cutS (mkS l) lo hi = mkS (cut l lo hi) := by
  unfold cutS cut
  rw [mkS_cps, mkS_len]
  rfl
theorem mkS_ends (l : List Nat) (c : Nat) : Txt.endswith (mkS l) (mkS [c]) = decide (l.getLast? = some c) := by
  unfold Txt.endswith
  rw [StrLaws.subAt_eq, mkS_len, mkS_len, mkS_cps, mkS_cps]
  rcases List.eq_nil_or_concat l with rfl | ⟨l', d, rfl⟩
  · rfl
  · simp
    by_cases h : d = c
    · subst h; simp
    · simp [h]
theorem at_one (l : List Nat) (c i : Nat) : StrLaws.At (mkS l) (mkS [c]) (mkS l).length i ↔ l[i]? = some c := by
  unfold StrLaws.At
  rw [StrLaws.subAt_eq, mkS_len, mkS_len, mkS_cps, mkS_cps]
  constructor
  · rintro ⟨h1, h2⟩
    have h2 : (l.drop i).take 1 = [c] := by simpa using h2
    have h3 : ((l.drop i).take 1)[0]? = some c := by rw [h2]; rfl
    simpa using h3
  · intro h
    obtain ⟨h1, h2⟩ := List.getElem?_eq_some_iff.mp h
    have e : l.drop i = l[i] :: l.drop (i + 1) := List.drop_eq_getElem_cons (by omega)
    refine ⟨h1, ?_⟩
    rw [e, h2]
    simp
/-- the first place of a sign -/
theorem find_app (a b : List Nat) (c : Nat) (h : c ∉ a) : Txt.find (mkS (a ++ c :: b)) (mkS [c]) = a.length := by
  have hat : (a ++ c :: b)[a.length]? = some c := by simp
  rcases find_whole (mkS (a ++ c :: b)) (mkS [c]) with ⟨_, hn⟩ | ⟨i, e, hi, hn⟩
  · exact absurd ((at_one _ _ _).mpr hat) (hn a.length)
  · rw [e]
    have hi := (at_one _ _ _).mp hi
    by_cases h1 : i < a.length
    · rw [List.getElem?_append_left h1] at hi
      exact absurd (List.mem_of_getElem? hi) h
    · by_cases h2 : a.length < i
      · exact absurd ((at_one _ _ _).mpr hat) (hn _ h2)
      · congr 1
        omega
theorem find_no (a : List Nat) (c : Nat) (h : c ∉ a) : Txt.find (mkS a) (mkS [c]) = -1 := by
  rcases find_whole (mkS a) (mkS [c]) with ⟨e, _⟩ | ⟨i, e, hi, hn⟩
  · exact e
  · exact absurd (List.mem_of_getElem? ((at_one _ _ _).mp hi)) h
theorem cut_to (l : List Nat) (n : Nat) : cut l none (some (n : Int)) = l.take n := by
  unfold cut
  rw [HT.sIx_nat, HT.sIx_none]
  simp
theorem cut_from (l : List Nat) (n : Nat) : cut l (some (n : Int)) none = l.drop n := by
  unfold cut
  rw [HT.sIx_nat, HT.sIx_none]
  by_cases h : n ≤ l.length
  · rw [Nat.min_eq_left h]
    exact List.take_of_length_le (by simp)
  · rw [Nat.min_eq_right (by omega), List.drop_length, List.drop_eq_nil_of_le (by omega)]
    simp
theorem cut_last (l : List Nat) : cut l none (some (-1)) = l.dropLast := by
  unfold cut
  have e : HT.sIx l.length l.length (some (-1)) = l.length - 1 := by
    have h := HT.clip_eq (-1) l.length l.length
    simp at h
    omega
  rw [e, HT.sIx_none, List.dropLast_eq_take]
  simp
/-! signs of names -/
def letter (c : Nat) : Bool := decide (97 ≤ c ∧ c ≤ 122)
def digit (c : Nat) : Bool := decide (48 ≤ c ∧ c ≤ 57)
def sign (c : Nat) : Bool := letter c || digit c || decide (c = 46)
def nameL (l : List Nat) : Bool := match l with
  | [] => false
  | c :: r => letter c && (c :: r).all sign && decide ((c :: r).length ≤ 20)
def oldL (l : List Nat) : Bool := decide (l.getLast? = some 126) && nameL l.dropLast
def dateL (l : List Nat) : Bool := decide (1 ≤ l.length ∧ l.length ≤ 4) && l.all digit && (decide (l.length = 1) || decide (l.head? ≠ some 48))
def before (l : List Nat) : List Nat := l.takeWhile (· ≠ 35)
def behind (l : List Nat) : List Nat := (l.dropWhile (· ≠ 35)).drop 1
def datedL (l : List Nat) : Bool := decide (35 ∈ l) && nameL (before l) && dateL (behind l)
def onD (p : List Nat → Bool) : D → Bool
  | .str s => p s.cps.toList
  | _ => false
theorem no35 : ∀ l : List Nat, 35 ∉ before l
  | [] => by simp [before]
  | c :: r => by
    unfold before
    rw [List.takeWhile_cons]
    split
    · rename_i h
      intro hm
      rcases List.mem_cons.mp hm with e | e
      · exact absurd e.symm (of_decide_eq_true h)
      · exact no35 r e
    · simp
theorem split35 {l : List Nat} (h : 35 ∈ l) : l = before l ++ 35 :: behind l ∧ 35 ∉ before l := by
  have e : l = before l ++ l.dropWhile (· ≠ 35) := (List.takeWhile_append_dropWhile).symm
  have hn := no35 l
  refine ⟨?_, hn⟩
  unfold behind
  cases q : l.dropWhile (· ≠ 35) with
  | nil =>
    rw [q, List.append_nil] at e
    rw [e] at h
    exact absurd h hn
  | cons c r =>
    have hc : c = 35 := by
      have := List.head?_dropWhile_not (p := fun x : Nat => decide (x ≠ 35)) l
      rw [q] at this
      simpa using this
    rw [hc] at q
    rw [q] at e
    exact e
theorem before_app {a b : List Nat} (h : 35 ∉ a) : before (a ++ 35 :: b) = a ∧ behind (a ++ 35 :: b) = b := by
  unfold before behind
  have e1 : ∀ x ∈ a, decide (x ≠ 35) = true := fun x hx => decide_eq_true fun e => h (e ▸ hx)
  rw [List.takeWhile_append_of_pos e1, List.dropWhile_append_of_pos e1]
  simp
theorem before_no {a : List Nat} (h : 35 ∉ a) : before a = a := by
  have e1 : ∀ x ∈ a, decide (x ≠ 35) = true := fun x hx => decide_eq_true fun e => h (e ▸ hx)
  have e := List.takeWhile_append_of_pos (l₂ := []) e1
  rw [List.append_nil, List.takeWhile_nil, List.append_nil] at e
  exact e
theorem nameL_iff {l : List Nat} : nameL l = true ↔ (∃ c r, l = c :: r ∧ letter c = true) ∧ (∀ c ∈ l, sign c = true) ∧ l.length ≤ 20 := by
  cases l with
  | nil => simp [nameL]
  | cons c r => simp [nameL, and_assoc]
theorem sign_ne {c : Nat} (h : sign c = true) : c ≠ 126 ∧ c ≠ 35 ∧ c ≠ 32 ∧ c ≠ 95 ∧ c ≠ 45 := by
  refine ⟨?_, ?_, ?_, ?_, ?_⟩ <;> (intro e; subst e; exact absurd h (by decide))
end VS
end

section
set_option Elab.async false
set_option linter.all false
set_option maxRecDepth 100000
set_option maxHeartbeats 4000000
set_option exponentiation.threshold 4000
/-! VM, part 6: walking helpers of all laws. -/
namespace VS
open PySem PySem.Spec PyProof.Rows L2
theorem w_assoc {u v w : Den Fl} {δ : List Sl} {Q : Fl → List Sl → Prop} {E : Nat → List (Str × D) → List Sl → Prop} (h : W (dSeq (dSeq u v) w) δ Q E) : W (dSeq u (dSeq v w)) δ Q E := by
  unfold W dSeq at h ⊢
  cases e : u δ with
  | stuck => rw [e] at h; exact h
  | exc c fs δ1 => rw [e] at h; exact h
  | ok fl δ1 =>
    rw [e] at h
    cases fl with
    | nxt => exact h
    | _ => exact h
theorem w_lcFM {α : Type} {Q : List D → List Sl → Prop} {E : Nat → List (Str × D) → List Sl → Prop} {t : Den Bool} {f : Den D} {s : Tgt} {vs : List Nat} (e : α → D) (p : α → Bool) (g : α → D) (xs : List α) (δ : List Sl)
    (hs : ∀ x, x ∈ xs → ∃ δ1, s (e x) δ = some δ1 ∧ W t δ1 (fun b δ2 => b = p x ∧ (b = true → W f δ2 (fun y δ3 => y = g x ∧ wipeC vs δ3 = some δ) NoE) ∧ (b = false → wipeC vs δ2 = some δ)) NoE) (q : Q ((xs.filter p).map g) δ) : W (lcL vs s t f (xs.map e)) δ Q E := by
  refine w_lcL0 (fun ds ys δ' => ∃ ws zs, xs = ws ++ zs ∧ ds = zs.map e ∧ δ' = δ ∧ ys = (ws.filter p).map g) _ δ ⟨[], xs, rfl, rfl, rfl, rfl⟩ ?_ ?_
  · rintro zs _ ⟨ws, rs, e1, e2, rfl, rfl⟩
    cases rs with
    | nil =>
      rw [List.append_nil] at e1
      subst e1
      exact q
    | cons r rs => cases e2
  · rintro d ds ys _ ⟨ws, rs, e1, e2, rfl, rfl⟩
    cases rs with
    | nil => cases e2
    | cons r rs =>
      rw [List.map_cons] at e2
      cases e2
      obtain ⟨δ1, h1, h2⟩ := hs r (by rw [e1]; simp)
      refine ⟨δ1, h1, Res.W.mono h2 (fun b δ2 ⟨hb, ht, hf⟩ => ⟨fun z => Res.W.mono (ht z) (fun y δ3 ⟨hy, hw⟩ => ⟨_, hw, ws ++ [r], rs, by rw [e1]; simp, rfl, rfl, ?_⟩) fun _ _ _ h => h, fun z => ⟨_, hf z, ws ++ [r], rs, by rw [e1]; simp, rfl, rfl, ?_⟩⟩) fun _ _ _ h => h⟩
      · rw [z] at hb
        rw [List.filter_append, List.map_append, hy]
        simp [← hb]
      · rw [z] at hb
        rw [List.filter_append, List.map_append]
        simp [← hb]
theorem ttup2 {δ : List Sl} {i j : Nat} {a b : D} {s t : Sl} (hi : δ[i]? = some s) (hs : NO s) (hj : (δ.set i (.dat a))[j]? = some t) (ht : NO t) : tTupG [tName i, tName j] (.tup [a, b]) δ = some ((δ.set i (.dat a)).set j (.dat b)) := by
  show ((tName i a δ).bind fun δ' => (tName j b δ').bind fun δ' => some δ') = _
  rw [tset hi hs]
  show ((tName j b (δ.set i (.dat a))).bind fun δ' => some δ') = _
  rw [tset hj ht]
  rfl
/-- a slot that holds nothing or data -/
def Pl (s : Sl) : Prop := s = .un ∨ ∃ d, s = .dat d
theorem pl_un : Pl .un := .inl rfl
theorem pl_dat {d : D} : Pl (.dat d) := .inr ⟨d, rfl⟩
theorem Pl.no {s : Sl} (h : Pl s) : NO s := by
  rcases h with rfl | ⟨d, rfl⟩
  · exact no_un
  · exact no_dat
theorem wipe1 {δ : List Sl} {i : Nat} {s : Sl} (h : δ[i]? = some s) (hp : Pl s) : noOwn δ [i] = true ∧ wipeC [i] δ = some (δ.set i .un) := by
  unfold noOwn wipeC wipeC
  simp only [List.all_cons, List.all_nil, Bool.and_true, h, Option.bind_some]
  unfold setSl
  rw [h]
  rcases hp with rfl | ⟨d, rfl⟩ <;> exact ⟨rfl, rfl⟩
theorem tuple_l {xs : List D} {Q : D → Prop} (q : Q (.tup xs)) : Op1 tupleD [.lst xs] Q := ⟨_, rfl, q⟩
theorem cut_sub {α : Type} (xs : List α) (a b : Option Int) : (cut xs a b).Sublist xs := (List.take_sublist _ _).trans (List.drop_sublist _ _)
theorem walk_lst {l : List D} {Q : List D → Prop} (h : Q l) : ∃ z, walkD (.lst l) = some z ∧ Q z := ⟨_, rfl, h⟩
theorem walk_tup {l : List D} {Q : List D → Prop} (h : Q l) : ∃ z, walkD (.tup l) = some z ∧ Q z := ⟨_, rfl, h⟩
theorem noOwn2 {δ : List Sl} {i j : Nat} {s t : Sl} (h : δ[i]? = some s) (hp : Pl s) (h2 : δ[j]? = some t) (hp2 : Pl t) (hij : i ≠ j) : noOwn δ [i, j] = true ∧ wipeC [i, j] δ = some ((δ.set j .un).set i .un) := by
  have w := wipe1 h2 hp2
  have h' : (δ.set j .un)[i]? = some s := by rw [List.getElem?_set_ne (by omega)]; exact h
  refine ⟨?_, ?_⟩
  · have a := (wipe1 h hp).1
    have b := w.1
    unfold noOwn at a b ⊢
    simp only [List.all_cons, List.all_nil, Bool.and_true] at a b ⊢
    rw [a, b]
    rfl
  · have a := (wipe1 h' hp).2
    show (wipeC [j] δ).bind (fun δ' => setSl i .un δ') = _
    rw [w.2]
    exact a
theorem w_dcMap {α : Type} {Q : List (Key × D) → List Sl → Prop} {E : Nat → List (Str × D) → List Sl → Prop} {f fv : Den D} {s : Tgt} {vs : List Nat} (e : α → D) (k : α → Key) (g : α → D) (xs : List α) (δ : List Sl)
    (hs : ∀ x, x ∈ xs → ∃ δ1, s (e x) δ = some δ1 ∧ W f δ1 (fun y δ2 => W fv δ2 (fun z δ3 => keyD y = some (k x) ∧ z = g x ∧ wipeC vs δ3 = some δ) NoE) NoE) (q : Q (xs.map fun x => (k x, g x)) δ) : W (dcL vs s dYes f fv (xs.map e)) δ Q E := by
  refine w_dcL0 (fun ds ys δ' => ∃ ws zs, xs = ws ++ zs ∧ ds = zs.map e ∧ δ' = δ ∧ ys = ws.map fun x => (k x, g x)) _ δ ⟨[], xs, rfl, rfl, rfl, rfl⟩ ?_ ?_
  · rintro zs _ ⟨ws, rs, e1, e2, rfl, rfl⟩
    cases rs with
    | nil =>
      rw [List.append_nil] at e1
      subst e1
      exact q
    | cons r rs => cases e2
  · rintro d ds ys _ ⟨ws, rs, e1, e2, rfl, rfl⟩
    cases rs with
    | nil => cases e2
    | cons r rs =>
      rw [List.map_cons] at e2
      cases e2
      obtain ⟨δ1, h1, h2⟩ := hs r (by rw [e1]; simp)
      refine ⟨δ1, h1, w_yes ⟨fun _ => Res.W.mono h2 (fun y δ2 h => Res.W.mono h (fun z δ3 ⟨hk, hz, hw⟩ => ⟨_, _, hk, hw, ws ++ [r], rs, by rw [e1]; simp, rfl, rfl, by rw [hz]; simp⟩) fun _ _ _ h => h) fun _ _ _ h => h, fun z => by cases z⟩⟩
theorem list_mk {xs : List D} {Q : O → Prop} (h : Q (.lst xs)) : ∃ o, listO [.lst xs] = some o ∧ Q o := ⟨_, rfl, h⟩
theorem addR_mk2 {xs ys : List D} {s : Option Sl} {Q : List D → List D → Prop} (h : viewL s = some ys) (hl : xs.length + ys.length ≤ 100000) (q : Q xs ys) : ∃ xs' ys', D.lst xs = .lst xs' ∧ viewL s = some ys' ∧ xs'.length + ys'.length ≤ 100000 ∧ Q xs' ys' := ⟨xs, ys, rfl, h, hl, q⟩
theorem ttup3 {δ δ1 δ2 δ3 : List Sl} {i j k : Nat} {a b c : D} (h1 : tName i a δ = some δ1) (h2 : tName j b δ1 = some δ2) (h3 : tName k c δ2 = some δ3) : tTupG [tName i, tName j, tName k] (.tup [a, b, c]) δ = some δ3 := by
  show ((tName i a δ).bind fun δ => (tName j b δ).bind fun δ => (tName k c δ).bind fun δ => some δ) = _
  rw [h1, Option.bind_some, h2, Option.bind_some, h3, Option.bind_some]
theorem ttup4 {δ δ1 δ2 δ3 δ4 : List Sl} {i j k m : Nat} {a b c d : D} (h1 : tName i a δ = some δ1) (h2 : tName j b δ1 = some δ2) (h3 : tName k c δ2 = some δ3) (h4 : tName m d δ3 = some δ4) : tTupG [tName i, tName j, tName k, tName m] (.tup [a, b, c, d]) δ = some δ4 := by
  show ((tName i a δ).bind fun δ => (tName j b δ).bind fun δ => (tName k c δ).bind fun δ => (tName m d δ).bind fun δ => some δ) = _
  rw [h1, Option.bind_some, h2, Option.bind_some, h3, Option.bind_some, h4, Option.bind_some]
theorem op_tix {xs : List D} {i : Int} {z : D} {q : D → Prop} (e : atI xs i = some z) (h : q z) : Op ixD (.tup xs) (.int i) q := ⟨z, e, h⟩
theorem ne_text {a b : Str} {q : D → Prop} (h : q (.bl (!decide (a = b)))) : Op neD (.str a) (.str b) q := ⟨.bl (!decide (a = b)), rfl, h⟩
theorem eq_textS {a b : Str} {q : D → Prop} (h : q (.bl (decide (a = b)))) : Op eqD (.str a) (.str b) q := ⟨.bl (decide (a = b)), rfl, h⟩
theorem items_gen {xs : List D} {Q : List D → Prop} (h : ∀ L : List D, L.map id = xs → Q (L.map id)) : ∃ z, itemsD (.lst xs) = some z ∧ Q z := ⟨xs, rfl, by have z := h xs (List.map_id xs); rwa [List.map_id] at z⟩
end VS
end

section
set_option Elab.async false
set_option linter.all false
set_option maxRecDepth 100000
set_option maxHeartbeats 4000000
set_option exponentiation.threshold 4000
/-! VT, part d: an exception's __init__ with two fields. -/
namespace VS
open PySem PySem.Spec PyProof.Rows L2
section
variable {P : Program} {w : World} {K : PySem.W.Frag} {mg : Str → Option Value} {base : Heap} {C fI : Addr} {fd : FuncData} {x qual word n1 n2 : Str} {st : Stmt}
theorem upd_three {H : Hp} {a dx : Addr} {A D1 D2 D3 : HO} (h : dx ≠ a) : upd (upd (upd (upd H dx D1) a A) dx D2) dx D3 = upd (upd H a A) dx D3 := by
  rw [upd_comm h, upd_upd, upd_upd]
theorem init2 {p1 p2 p3 p4 p5 p6 p7 p8 p9 q1 q2 q3 : Pos} {j : Nat} (F : Fun K x qual st fI fd) (T : OexC K C) (S : FnScope ["self", n1, n2] ["self", n1, n2] (defScope st)) (f0 : PySem.W.findIn K (.ref C) "word" = some none) (f1 : PySem.W.findIn K (.ref C) n1 = some none) (f2 : PySem.W.findIn K (.ref C) n2 = some none)
    (hb : defBody st = [.Assign [.Attribute (.Name "self" p1) "word" p2] (.Constant (.str word) j p3) q1, .Assign [.Attribute (.Name "self" p4) n1 p5] (.Name n1 p6) q2, .Assign [.Attribute (.Name "self" p7) n2 p8] (.Name n2 p9) q3])
    (v0 : Vis (defScope st) "self") (v1 : Vis (defScope st) n1) (v2 : Vis (defScope st) n2) (d1 : (n1 == ("__debug__" : Str)) = false) (d2 : (n1 == ("__classdict__" : Str)) = false) (d3 : (n2 == ("__debug__" : Str)) = false) (d4 : (n2 == ("__classdict__" : Str)) = false)
    (hsw : ∀ env, swapsWith (.Name n1 p6) (some (.Attribute (.Name "self" p4) n1 p5)) q2.line env = pure false) (hsw2 : ∀ env, swapsWith (.Name n2 p9) (some (.Attribute (.Name "self" p7) n2 p8)) q3.line env = pure false) : FnOk P w K mg base CX0 1 fI fd ["self", n1, n2] (spI C word [n1, n2]) := by
  obtain ⟨oc, od, kV, doc, pm, an, cdv, ct, osl, rfl, lk, hcd⟩ := F.ex
  rw [hb] at *
  refine fn_of lk hcd S (fun vs H Q E ⟨a, args, e, hl, _, _⟩ => ?_) (fun A outer s H vs Q E hr ⟨a, args, e, hl, ea, q⟩ => ?_)
  · rw [e, List.length_cons, hl]
    rfl
  · obtain ⟨v, u, rfl⟩ : ∃ v u, args = [v, u] := by
      match args, hl with
      | [v, u], _ => exact ⟨v, u, rfl⟩
    subst e
    refine ⟨_, pss_cons (ps_ost (pe_var (i := 0) rfl v0) pe_str) (pss_cons (ps_ost (pe_var (i := 0) rfl v0) (pe_var (i := 1) rfl v1 d1 d2) (hsw _)) (pss_cons (ps_ost (pe_var (i := 0) rfl v0) (pe_var (i := 2) rfl v2 d3 d4) (hsw2 _)) pss_nil)), ?_⟩
    refine ost_first T f0 (fun _ q => q) (fun _ q => ⟨.ref a, rfl, q⟩) ea fun dx hdx dxa => ?_
    show tOst K n1 (tVar 0) (tVar 1) { nx := fun σ' H' => tOst K n2 (tVar 0) (tVar 2) { nx := fun _ H' => Q .non H', rt := Q } σ' H', rt := Q } (L2.start ["self", n1, n2] [.ref a, v, u]) (upd (upd H dx (exd dx [("word", .str word)])) a (exo a C (some dx)))
    refine ost_more (X := cxOf CX0 P w K mg base ["self", n1, n2] qual (defScope st) fI cdv A outer s H E) (dx := dx) (fs := [("word", .str word)]) T f1 (fun _ q => ⟨v, rfl, q⟩) (fun _ q => ⟨.ref a, rfl, q⟩) upd_same (by rw [upd_ne dxa, upd_same]) (by show 1 ≤ 900; decide) ?_
    show tOst K n2 (tVar 0) (tVar 2) { nx := fun _ H' => Q .non H', rt := Q } (L2.start ["self", n1, n2] [.ref a, v, u]) (upd (upd (upd H dx (exd dx [("word", .str word)])) a (exo a C (some dx))) dx (exd dx [(n1, v), ("word", .str word)]))
    refine ost_more (X := cxOf CX0 P w K mg base ["self", n1, n2] qual (defScope st) fI cdv A outer s H E) (dx := dx) (fs := [(n1, v), ("word", .str word)]) T f2 (fun _ q => ⟨u, rfl, q⟩) (fun _ q => ⟨.ref a, rfl, q⟩) (by rw [upd_ne (Ne.symm dxa), upd_same]) (by rw [upd_same]) (by show 2 ≤ 900; decide) ?_
    have z := q dx hdx dxa
    have e : upd (upd (upd (upd H dx (exd dx [("word", .str word)])) a (exo a C (some dx))) dx (exd dx [(n1, v), ("word", .str word)])) dx (exd dx [(n2, u), (n1, v), ("word", .str word)]) = upd (upd H a (exo a C (some dx))) dx (exd dx (flds (.str word) [n1, n2] [v, u])) := by
      rw [upd_three dxa]
      rfl
    show Q .non _
    rw [e]
    exact z
end
end VS
end

section
set_option Elab.async false
set_option linter.all false
set_option maxRecDepth 100000
set_option maxHeartbeats 4000000
set_option exponentiation.threshold 4000
/-! VT, part e: repr of data. -/
namespace VS
open PySem PySem.Spec PyProof.Rows L2

def reprOk (p : PyData) : Bool := p.showable && !p.hasDict && decide (p.depth ≤ 20) && decide (p.shown.length ≤ sizeLine)
/-- repr of a list, of a tuple -/
def reprD : List D → Option D
  | [.lst xs] => match toPy (.lst xs) with
    | some p => if reprOk p = true then some (.str p.shown) else none
    | none => none
  | [.tup xs] => match toPy (.tup xs) with
    | some p => if reprOk p = true then some (.str p.shown) else none
    | none => none
  | _ => none
def rRepr (K : PySem.W.Frag) : List V → Hp → VK → Prop := fun xs H Q => ∃ a p, xs = [.ref a] ∧ Dp K H (.ref a) p ∧ reprOk p = true ∧ Q (.str p.shown) H
section
variable {X : Cx}
theorem cr_repr (hg : X.A.guards = some []) (hu : X.A.units + 64 < cLine) : CallR X (.builtin "repr") (rRepr X.K) := by
  intro pins s σ H xs us Q I r h
  obtain ⟨a, p, rfl, hd, hp, q⟩ := h
  unfold reprOk at hp
  simp only [Bool.and_eq_true, Bool.not_eq_true', decide_eq_true_eq] at hp
  obtain ⟨⟨⟨h1, h2⟩, h3⟩, h4⟩ := hp
  obtain ⟨u, rfl, ru⟩ := vals1 r
  obtain ⟨as, rd⟩ := Dp.reads I p (.ref a) u hd ru
  have eu : u = .ref a := ru
  subst eu
  exact repr_of_reads' rd h1 (fun z => by rw [h2] at z; cases z) hg (by omega) (fun b o e => e) (fun h' u' tk k => ⟨.str p.shown, H, I.kept k, ⟨_, rfl⟩, q⟩) h4
theorem ok_repr {K : PySem.W.Frag} : OkB K (rRepr K) reprD := by
  intro g B H σ δ xs ds z Q E r h q
  have key : ∀ (d : D) (p : PyData), ds = [d] → (∃ ys, d = .lst ys ∨ d = .tup ys) → toPy d = some p → (if reprOk p = true then some (D.str p.shown) else none) = some z → rRepr K xs H Q := by
    rintro d p rfl hd hp hz
    obtain ⟨v, w, rfl, h1, h2⟩ := r
    cases (show w = [] from h2)
    by_cases c : reprOk p = true
    · rw [if_pos c] at hz
      cases hz
      have dp := h1.dpH E.le hp
      obtain ⟨ys, rfl | rfl⟩ := hd
      · obtain ⟨a, vs, rfl, _⟩ := h1
        exact ⟨a, p, rfl, dp, c, q _ _ _ E .refl rfl⟩
      · obtain ⟨a, vs, rfl, _⟩ := h1
        exact ⟨a, p, rfl, dp, c, q _ _ _ E .refl rfl⟩
    · rw [if_neg c] at hz
      cases hz
  match ds, h with
  | [.lst ys], h =>
    have h : (match toPy (.lst ys) with
      | some p => if reprOk p = true then some (D.str p.shown) else none
      | none => none) = some z := h
    split at h
    · rename_i p e
      exact key _ p rfl ⟨ys, .inl rfl⟩ e h
    · cases h
  | [.tup ys], h =>
    have h : (match toPy (.tup ys) with
      | some p => if reprOk p = true then some (D.str p.shown) else none
      | none => none) = some z := h
    split at h
    · rename_i p e
      exact key _ p rfl ⟨ys, .inr rfl⟩ e h
    · cases h
end
end VS
end

section
set_option Elab.async false
set_option linter.all false
set_option maxRecDepth 100000
set_option maxHeartbeats 4000000
set_option exponentiation.threshold 4000
/-! VT, part f: an owned slot looked at: isinstance, is None. -/
namespace VS
open PySem PySem.Spec PyProof.Rows L2
def seeS : Option Sl → Option D
  | some (.dat d) => some d
  | some (.own _ o) => some o.toD
  | _ => none
def dIsiS (T : Ty) (i : Nat) : Den D := fun δ => match seeS δ[i]? with
  | some d => .ok (.bl (T.is d)) δ
  | none => .stuck
def dIsNS (neg : Bool) (i : Nat) : Den D := fun δ => match seeS δ[i]? with
  | some d => .ok (.bl (if neg = true then !VS.isNon d else VS.isNon d)) δ
  | none => .stuck
section
variable {K : PySem.W.Frag} {g : G} {W : WX} {B H : Hp} {σ : St} {δ : List Sl}
theorem EnvOk.see (E : EnvOk K g B H σ δ) {i : Nat} {d : D} (h : seeS δ[i]? = some d) : ∃ v, σ[i]? = some (some v) ∧ TyX K H v (.type (tyN d)) ∧ decide (v = .non) = VS.isNon d := by
  cases q : δ[i]? with
  | none => rw [q] at h; cases h
  | some s =>
    rw [q] at h
    cases s with
    | un => cases h
    | exc c fs => cases h
    | dat d' =>
      cases h
      obtain ⟨v, e, r⟩ := E.slot q
      exact ⟨v, e, r.ty E.le, r.isNon⟩
    | own b o =>
      cases h
      obtain ⟨a, e, n, r⟩ := E.owned q
      cases o with
      | lst xs =>
        obtain ⟨vs, h1, h2⟩ := r
        exact ⟨.ref a, e, .base (.lst h1), rfl⟩
      | dct xs =>
        obtain ⟨vs, h1, h2⟩ := r
        exact ⟨.ref a, e, .base (.dK h1), rfl⟩
end
section
variable {X : Cx} {g : G} {W : WX} {px pos p : Pos} {x : Str}
theorem o_isiS (T : Ty) (i : Nat) {y : Str} {py : Pos} {u : Str} (hgI : Gl X u) (hmI : X.mg u = none) (hvI : bootBuiltins u = some (.builtin "isinstance")) (hg : Gl X y) (hm : X.mg y = none) (hv : bootBuiltins y = some (.type T.nm))
    (hN : X.N[i]? = some x := by rfl) (hvv : Vis X.env.scope x := by first | exact Or.inl rfl | exact Or.inr (Or.inl rfl) | exact Or.inr (Or.inr rfl)) (hdx : (x == ("__debug__" : Str)) = false := by decide) (hcd : (x == ("__classdict__" : Str)) = false := by decide)
    (hnI : u ≠ "__name__" := by decide) (hdI : (u == ("__debug__" : Str)) = false := by decide) (hn : y ≠ "__name__" := by decide) (hd : (y == ("__debug__" : Str)) = false := by decide)
    (hs1 : starEach [Expr.Name x px, .Name y py] X.env = (false, eval (.Name x px) X.env) :: starEach [.Name y py] X.env := by rfl)
    (hs2 : starEach [Expr.Name y py] X.env = (false, eval (.Name y py) X.env) :: starEach [] X.env := by rfl) (hpl : (backTo pos (starEach [Expr.Name y py] X.env)).any (·.1) = false := by rfl) : OE X g W (.Call (.Name u p) [.Name x px, .Name y py] [] pos) (dIsiS T i) := by
  refine pe_imp (pe_callB call_isi hgI hmI hvI (pa_cons (pe_var hN hvv hdx hcd) (pa_cons (pe_bltn hg hm hv (v := .ty T.nm) rfl hn hd) pa_nil hs2) hs1) hnI hdI hs1 hpl) fun σ H Q ⟨B, δ, E, q⟩ => ?_
  unfold dIsiS at q
  split at q
  · rename_i d h0
    obtain ⟨v, e, ty, _⟩ := E.see h0
    exact ⟨v, e, v, .ty T.nm, .type (tyN d), .type T.nm, T.is d, rfl, .ty _, ty, L2.kit_ty (T.kit d), q B H E .refl _ rfl⟩
  · exact False.elim q
theorem o_isNS (i : Nat) {j} {pn : Pos} (hN : X.N[i]? = some x := by rfl) (hvv : Vis X.env.scope x := by first | exact Or.inl rfl | exact Or.inr (Or.inl rfl) | exact Or.inr (Or.inr rfl)) (hdx : (x == ("__debug__" : Str)) = false := by decide) (hcd : (x == ("__classdict__" : Str)) = false := by decide)
    (hm : behindInMarks .Is (.Constant .none j pn) = false := by rfl) : OE X g W (.Compare (.Name x px) [.Is] [.Constant .none j pn] pos) (dIsNS false i) := by
  refine pe_imp (pe_cmpR op_isN (pe_var hN hvv hdx hcd) pe_non hm) fun σ H Q ⟨B, δ, E, q⟩ => ?_
  unfold dIsNS at q
  split at q
  · rename_i d h0
    obtain ⟨v, e, ty, hn⟩ := E.see h0
    refine ⟨v, e, rfl, ?_⟩
    rw [hn]
    exact q B H E .refl _ rfl
  · exact False.elim q
theorem o_notNS (i : Nat) {j} {pn : Pos} (hN : X.N[i]? = some x := by rfl) (hvv : Vis X.env.scope x := by first | exact Or.inl rfl | exact Or.inr (Or.inl rfl) | exact Or.inr (Or.inr rfl)) (hdx : (x == ("__debug__" : Str)) = false := by decide) (hcd : (x == ("__classdict__" : Str)) = false := by decide)
    (hm : behindInMarks .IsNot (.Constant .none j pn) = false := by rfl) : OE X g W (.Compare (.Name x px) [.IsNot] [.Constant .none j pn] pos) (dIsNS true i) := by
  refine pe_imp (pe_cmpR op_notN (pe_var hN hvv hdx hcd) pe_non hm) fun σ H Q ⟨B, δ, E, q⟩ => ?_
  unfold dIsNS at q
  split at q
  · rename_i d h0
    obtain ⟨v, e, ty, hn⟩ := E.see h0
    refine ⟨v, e, rfl, ?_⟩
    rw [hn]
    exact q B H E .refl _ rfl
  · exact False.elim q
theorem ot_isNS (i : Nat) {j} {pn : Pos} (hN : X.N[i]? = some x := by rfl) (hvv : Vis X.env.scope x := by first | exact Or.inl rfl | exact Or.inr (Or.inl rfl) | exact Or.inr (Or.inr rfl)) (hdx : (x == ("__debug__" : Str)) = false := by decide) (hcd : (x == ("__classdict__" : Str)) = false := by decide)
    (hm : behindInMarks .Is (.Constant .none j pn) = false := by rfl) : OT X g W (.Compare (.Name x px) [.Is] [.Constant .none j pn] pos) (dTest (dIsNS false i)) := by
  refine pt_imp (pt_cmpR op_isN (pe_var hN hvv hdx hcd) pe_non hm) fun σ H Q ⟨B, δ, E, q⟩ => ?_
  unfold dTest dIsNS at q
  split at q
  · rename_i d h0
    obtain ⟨v, e, ty, hn⟩ := E.see h0
    refine ⟨v, e, rfl, VS.isNon d, by rw [hn], ?_⟩
    exact q B H E .refl _ rfl
  · exact False.elim q
theorem ot_notNS (i : Nat) {j} {pn : Pos} (hN : X.N[i]? = some x := by rfl) (hvv : Vis X.env.scope x := by first | exact Or.inl rfl | exact Or.inr (Or.inl rfl) | exact Or.inr (Or.inr rfl)) (hdx : (x == ("__debug__" : Str)) = false := by decide) (hcd : (x == ("__classdict__" : Str)) = false := by decide)
    (hm : behindInMarks .IsNot (.Constant .none j pn) = false := by rfl) : OT X g W (.Compare (.Name x px) [.IsNot] [.Constant .none j pn] pos) (dTest (dIsNS true i)) := by
  refine pt_imp (pt_cmpR op_notN (pe_var hN hvv hdx hcd) pe_non hm) fun σ H Q ⟨B, δ, E, q⟩ => ?_
  unfold dTest dIsNS at q
  split at q
  · rename_i d h0
    obtain ⟨v, e, ty, hn⟩ := E.see h0
    refine ⟨v, e, rfl, !VS.isNon d, by rw [hn], ?_⟩
    exact q B H E .refl _ rfl
  · exact False.elim q
end
section
variable {Q : D → List Sl → Prop} {E : Nat → List (Str × D) → List Sl → Prop} {δ : List Sl} {i : Nat} {d : D}
theorem w_isiS {T : Ty} (h : seeS δ[i]? = some d) (q : Q (.bl (T.is d)) δ) : W (dIsiS T i) δ Q E := by
  unfold W dIsiS
  rw [h]
  exact q
theorem w_isNS (h : seeS δ[i]? = some d) (q : Q (.bl (VS.isNon d)) δ) : W (dIsNS false i) δ Q E := by
  unfold W dIsNS
  rw [h]
  exact q
theorem w_notNS (h : seeS δ[i]? = some d) (q : Q (.bl (!VS.isNon d)) δ) : W (dIsNS true i) δ Q E := by
  unfold W dIsNS
  rw [h]
  exact q
end
end VS
end

section
set_option Elab.async false
set_option linter.all false
set_option maxRecDepth 100000
set_option maxHeartbeats 4000000
namespace L
open PySem PySem.Spec PyProof.Rows L2 VS
def top (i : Nat) : Stmt := PySem.Challenge.pw_holdingsshut_k12_move_lists_played.main.body.getD i (.Pass ⟨0, 0, 0, 0⟩)
abbrev si_BadCells : Stmt := inClass (top 14) 0
abbrev si_BadMove : Stmt := inClass (top 17) 0
def sub_NotPrice : Nat → Option Bool
  | 0 => some false
  | 1 => some false
  | _ => none
def sub_NotTheft : Nat → Option Bool
  | 0 => some false
  | 1 => some false
  | _ => none
def sub_NotOpen : Nat → Option Bool
  | 0 => some false
  | 1 => some false
  | _ => none
def sub_NotShut : Nat → Option Bool
  | 0 => some false
  | 1 => some false
  | _ => none
def sub_BadMove : Nat → Option Bool
  | 0 => some false
  | 1 => some true
  | _ => none
def sub_BadBlind : Nat → Option Bool
  | 0 => some false
  | 1 => some false
  | _ => none
def sub_BadStep : Nat → Option Bool
  | 0 => some false
  | 1 => some false
  | _ => none
def sub_BadCells : Nat → Option Bool
  | 0 => some true
  | 1 => some false
  | _ => none
def sub_BadTable : Nat → Option Bool
  | 0 => some false
  | 1 => some false
  | _ => none
def sub_NoNumber : Nat → Option Bool
  | 0 => some false
  | 1 => some false
  | _ => none
def sub_NoInverse : Nat → Option Bool
  | 0 => some false
  | 1 => some false
  | _ => none
def sub_BadPrime : Nat → Option Bool
  | 0 => some false
  | 1 => some false
  | _ => none
def sub_TooMany : Nat → Option Bool
  | 0 => some false
  | 1 => some false
  | _ => none
def sub_PaperError : Nat → Option Bool
  | 0 => some false
  | 1 => some true
  | _ => none
def sub_KnowError : Nat → Option Bool
  | 0 => some false
  | 1 => some false
  | _ => none
def sub_CourseError : Nat → Option Bool
  | 0 => some false
  | 1 => some false
  | _ => none
def sub_PlanError : Nat → Option Bool
  | 0 => some false
  | 1 => some false
  | _ => none
def sub_ShapeError : Nat → Option Bool
  | 0 => some false
  | 1 => some false
  | _ => none
def sub_TextError : Nat → Option Bool
  | 0 => some false
  | 1 => some false
  | _ => none
def sub_NumberError : Nat → Option Bool
  | 0 => some true
  | 1 => some false
  | _ => none
def sub_ValueError : Nat → Option Bool
  | 0 => some true
  | 1 => some true
  | _ => none
def cat_VaultError : Nat → Option Bool
  | 0 => some true
  | 1 => some true
  | _ => none
def knows_word : Nat → Bool
  | 0 => true
  | 1 => true
  | _ => false
def knows_cells : Nat → Bool
  | 0 => true
  | 1 => true
  | _ => false
def knows_at : Nat → Bool
  | 0 => true
  | 1 => true
  | _ => false
abbrev s_whole_between : Stmt := top 23
abbrev N_whole_between : List Str := ["value", "low", "high"]
theorem sc_whole_between : FnScope N_whole_between ["value", "low", "high"] (defScope s_whole_between) := ⟨rfl, rfl, rfl, by decide +kernel, rfl, by decide +kernel, by decide +kernel⟩
def d_whole_between : Den Fl :=
    (dSeq (dIfS (dOr (dTest (dIsi .bool (dVar 0))) (dNot (dTest (dIsi .int (dVar 0))))) (dRet (dC (.bl false))) dNext)
    (dRet (dChain leD leD (dVar 1) (dVar 0) (dVar 2))))
@[irreducible] def F_whole_between : List Sl → Cr := runF 3 3 d_whole_between
theorem F_whole_between_eq : F_whole_between = runF 3 3 d_whole_between := by unfold F_whole_between; rfl
abbrev s_need_cells : Stmt := top 25
abbrev N_need_cells : List Str := ["cells"]
theorem sc_need_cells : FnScope N_need_cells ["cells"] (defScope s_need_cells) := ⟨rfl, rfl, rfl, by decide +kernel, rfl, by decide +kernel, by decide +kernel⟩
def d_need_cells : Den Fl :=
    (dSeq (dIfS (dOr (dTest (dIsi .bool (dVar 0))) (dOr (dNot (dTest (dIsi .int (dVar 0)))) (dTest (dOp ltD (dVar 0) (dC (.int 1)))))) (dRaise 0 "badcells" ["cells"] (dCons (dVar 0) dNil)) dNext)
    (dRet (dVar 0)))
@[irreducible] def F_need_cells : List Sl → Cr := runF 1 1 d_need_cells
theorem F_need_cells_eq : F_need_cells = runF 1 1 d_need_cells := by unfold F_need_cells; rfl
abbrev s_round_bounds : Stmt := top 26
abbrev N_round_bounds : List Str := ["length", "cells", "bounds", "bound", "q"]
theorem sc_round_bounds : FnScope N_round_bounds ["length", "cells"] (defScope s_round_bounds) := ⟨rfl, rfl, rfl, by decide +kernel, rfl, by decide +kernel, by decide +kernel⟩
def d_round_bounds : Den Fl :=
    (dSeq (dAsgO 2 (nLst dNil))
    (dSeq (dAsg (tName 3) (dC (.int 1)))
    (dSeq (dAsg (tName 4) (dC (.int 0)))
    (dSeq (dWhile (dTest (dOp leD (dVar 3) (dVar 0))) (dSeq (dApp 2 (dVar 3))
    (dSeq (dAug addI 4 (dC (.int 1)))
    (dAsg (tName 3) (dOp fdivD (dOp mulD (dVar 3) (dOp addD (dVar 1) (dVar 4))) (dVar 4))))) 1000)
    (dRetV 2)))))
@[irreducible] def F_round_bounds : List Sl → Cr := runF 2 5 d_round_bounds
theorem F_round_bounds_eq : F_round_bounds = runF 2 5 d_round_bounds := by unfold F_round_bounds; rfl
abbrev s_steps_row : Stmt := top 27
abbrev N_steps_row : List Str := ["length", "cells", "row", "bounds", "passed", "n"]
theorem sc_steps_row : FnScope N_steps_row ["length", "cells"] (defScope s_steps_row) := ⟨rfl, rfl, rfl, by decide +kernel, rfl, by decide +kernel, by decide +kernel⟩
def d_steps_row : Den Fl :=
    (dSeq (dAsgO 2 (nLst (dCons (dC (.int 0)) dNil)))
    (dSeq (dIfS (dTest (dOp eqD (dVar 1) (dC (.int 0)))) (dRetV 2) dNext)
    (dSeq (dAsg (tName 3) (dOfC (dCall F_round_bounds [none, none] (dArg (dVar 0) (dArg (dVar 1) dNoArg)))))
    (dSeq (dAsg (tName 4) (dC (.int 0)))
    (dSeq (dFor (dRng rng2 (dCons (dC (.int 1)) (dCons (dOp addD (dVar 0) (dC (.int 1))) dNil))) (tName 5) (dSeq (dWhile (dAnd (dTest (dOp ltD (dVar 4) (dB lenD (dCons (dVar 3) dNil)))) (dTest (dOp leD (dOp ixD (dVar 3) (dVar 4)) (dVar 5)))) (dAug addI 4 (dC (.int 1))) 1000)
    (dApp 2 (dOp addD (dIxS 2 (dOp subD (dVar 5) (dC (.int 1)))) (dVar 4)))))
    (dRetV 2))))))
@[irreducible] def F_steps_row : List Sl → Cr := runF 2 6 d_steps_row
theorem F_steps_row_eq : F_steps_row = runF 2 6 d_steps_row := by unfold F_steps_row; rfl
abbrev s_least_stop : Stmt := top 28
abbrev N_least_stop : List Str := ["fewer", "same", "length", "stop", "rest"]
theorem sc_least_stop : FnScope N_least_stop ["fewer", "same", "length"] (defScope s_least_stop) := ⟨rfl, rfl, rfl, by decide +kernel, rfl, by decide +kernel, by decide +kernel⟩
def d_least_stop : Den Fl :=
    (dSeq (dFor (dRng rng2 (dCons (dC (.int 1)) (dCons (dVar 2) dNil))) (tName 3) (dSeq (dAsg (tName 4) (dOp subD (dVar 2) (dVar 3)))
    (dIfS (dAnd (dTest (dOp ltD (dVar 4) (dB lenD (dCons (dVar 0) dNil)))) (dTest (dOp eqD (dOp addD (dOp addD (dVar 3) (dOp ixD (dVar 0) (dVar 4))) (dOp ixD (dVar 1) (dOp subD (dVar 3) (dC (.int 1))))) (dOp ixD (dVar 1) (dVar 2))))) (dRet (dVar 3)) dNext)))
    (dRet (dVar 2)))
@[irreducible] def F_least_stop : List Sl → Cr := runF 3 5 d_least_stop
theorem F_least_stop_eq : F_least_stop = runF 3 5 d_least_stop := by unfold F_least_stop; rfl
abbrev s_move_list : Stmt := top 29
abbrev N_move_list : List Str := ["length", "cells", "rows", "moves", "stack", "few", "n", "source", "first", "due", "room", "stop", "spare"]
theorem sc_move_list : FnScope N_move_list ["length", "cells"] (defScope s_move_list) := ⟨rfl, rfl, rfl, by decide +kernel, rfl, by decide +kernel, by decide +kernel⟩
def d_move_list : Den Fl :=
    (dSeq (dDrop (dOfC (dCall F_need_cells [none] (dArg (dVar 1) dNoArg))))
    (dSeq (dAsg (tName 2) (dOfN (dLc (dRng rng1 (dCons (dOp addD (dVar 1) (dC (.int 1))) dNil)) [5] (tName 5) dYes (dOfC (dCall F_steps_row [none, none] (dArg (dVar 0) (dArg (dVar 5) dNoArg)))))))
    (dSeq (dAsgO 3 (nLst dNil))
    (dSeq (dAsgO 4 (nLst (dCons (dTup (dCons (dVar 0) (dCons (dC (.int 0)) (dCons (dC (.int 1)) (dCons (dC (.bl false)) dNil))))) dNil)))
    (dSeq (dWhile (dTest (dOp gtD (dLenS 4) (dC (.int 0)))) (dSeq (dAsg (tTupG [(tName 6), (tName 7), (tName 8), (tName 9)]) (dMeth isLst popO 4 dNil))
    (dSeq (dIfS (dTru (dVar 9)) (dApp 3 (dTup (dCons (dC (.str "read")) (dCons (dVar 8) dNil)))) dNext)
    (dIfS (dTest (dOp geD (dVar 6) (dC (.int 1)))) (dSeq (dAsg (tName 10) (dOp addD (dOp subD (dVar 1) (dVar 8)) (dC (.int 1))))
    (dSeq (dAsg (tName 11) (dOfC (dCall F_least_stop [none, none, none] (dArg (dOp ixD (dVar 2) (dOp subD (dVar 10) (dC (.int 1)))) (dArg (dOp ixD (dVar 2) (dVar 10)) (dArg (dVar 6) dNoArg))))))
    (dSeq (dApp 3 (dTup (dCons (dC (.str "up")) (dCons (dVar 7) (dCons (dVar 8) dNil)))))
    (dSeq (dFor (dRng rng1 (dCons (dOp subD (dVar 11) (dC (.int 1))) dNil)) (tName 12) (dApp 3 (dTup (dCons (dC (.str "up")) (dCons (dVar 8) (dCons (dVar 8) dNil))))))
    (dSeq (dApp 4 (dTup (dCons (dOp subD (dVar 11) (dC (.int 1))) (dCons (dVar 7) (dCons (dVar 8) (dCons (dC (.bl true)) dNil))))))
    (dApp 4 (dTup (dCons (dOp subD (dVar 6) (dVar 11)) (dCons (dVar 8) (dCons (dOp addD (dVar 8) (dC (.int 1))) (dCons (dC (.bl false)) dNil))))))))))) dNext))) 1000)
    (dRetV 3))))))
@[irreducible] def F_move_list : List Sl → Cr := runF 2 13 d_move_list
theorem F_move_list_eq : F_move_list = runF 2 13 d_move_list := by unfold F_move_list; rfl
abbrev s_is_up : Stmt := top 30
abbrev N_is_up : List Str := ["move", "cells"]
theorem sc_is_up : FnScope N_is_up ["move", "cells"] (defScope s_is_up) := ⟨rfl, rfl, rfl, by decide +kernel, rfl, by decide +kernel, by decide +kernel⟩
def d_is_up : Den Fl :=
    (dSeq (dIfS (dOr (dNot (dTest (dIsi .tuple (dVar 0)))) (dOr (dTest (dOp neD (dB lenD (dCons (dVar 0) dNil)) (dC (.int 3)))) (dTest (dOp neD (dOp ixD (dVar 0) (dC (.int 0))) (dC (.str "up")))))) (dRet (dC (.bl false))) dNext)
    (dRet (dAndV (dOfC (dCall F_whole_between [none, none, none] (dArg (dOp ixD (dVar 0) (dC (.int 1))) (dArg (dC (.int 0)) (dArg (dVar 1) dNoArg))))) (dOfC (dCall F_whole_between [none, none, none] (dArg (dOp ixD (dVar 0) (dC (.int 2))) (dArg (dC (.int 1)) (dArg (dVar 1) dNoArg))))))))
@[irreducible] def F_is_up : List Sl → Cr := runF 2 2 d_is_up
theorem F_is_up_eq : F_is_up = runF 2 2 d_is_up := by unfold F_is_up; rfl
abbrev s_is_read : Stmt := top 31
abbrev N_is_read : List Str := ["move", "cells"]
theorem sc_is_read : FnScope N_is_read ["move", "cells"] (defScope s_is_read) := ⟨rfl, rfl, rfl, by decide +kernel, rfl, by decide +kernel, by decide +kernel⟩
def d_is_read : Den Fl :=
    (dSeq (dIfS (dOr (dNot (dTest (dIsi .tuple (dVar 0)))) (dOr (dTest (dOp neD (dB lenD (dCons (dVar 0) dNil)) (dC (.int 2)))) (dTest (dOp neD (dOp ixD (dVar 0) (dC (.int 0))) (dC (.str "read")))))) (dRet (dC (.bl false))) dNext)
    (dRetR (dCall F_whole_between [none, none, none] (dArg (dOp ixD (dVar 0) (dC (.int 1))) (dArg (dC (.int 1)) (dArg (dVar 1) dNoArg))))))
@[irreducible] def F_is_read : List Sl → Cr := runF 2 2 d_is_read
theorem F_is_read_eq : F_is_read = runF 2 2 d_is_read := by unfold F_is_read; rfl
abbrev s_check_moves : Stmt := top 32
abbrev N_check_moves : List Str := ["length", "cells", "moves", "held", "due", "steps", "at", "move", "index"]
theorem sc_check_moves : FnScope N_check_moves ["length", "cells", "moves"] (defScope s_check_moves) := ⟨rfl, rfl, rfl, by decide +kernel, rfl, by decide +kernel, by decide +kernel⟩
def d_check_moves : Den Fl :=
    (dSeq (dDrop (dOfC (dCall F_need_cells [none] (dArg (dVar 1) dNoArg))))
    (dSeq (dAsgR 3 (dRvN (nDct [((dC (.int 0)), (dC (.int 0)))])))
    (dSeq (dAsg (tName 4) (dVar 0))
    (dSeq (dAsg (tName 5) (dC (.int 0)))
    (dSeq (dFor (dRng enumD (dCons (dVar 2) dNil)) (tTupG [(tName 6), (tName 7)]) (dSeq (dIfS (dTest (dOp eqD (dVar 4) (dC (.int 0)))) (dRaise 1 "badmove" ["at"] (dCons (dVar 6) dNil)) dNext)
    (dIfS (dTest (dOfC (dCall F_is_up [none, none] (dArg (dVar 7) (dArg (dVar 1) dNoArg))))) (dSeq (dAsg (tName 8) (dGet2S 3 (dOp ixD (dVar 7) (dC (.int 1))) (dVar 0)))
    (dSeq (dIfS (dTest (dOp eqD (dVar 8) (dVar 0))) (dRaise 1 "badmove" ["at"] (dCons (dVar 6) dNil)) dNext)
    (dSeq (dSetK 3 (dOp addD (dVar 8) (dC (.int 1))) (dOp ixD (dVar 7) (dC (.int 2))))
    (dAug addI 5 (dC (.int 1)))))) (dIfS (dTest (dOfC (dCall F_is_read [none, none] (dArg (dVar 7) (dArg (dVar 1) dNoArg))))) (dSeq (dIfS (dTest (dOp neD (dGet2S 3 (dOp ixD (dVar 7) (dC (.int 1))) (dC (.int 0))) (dVar 4))) (dRaise 1 "badmove" ["at"] (dCons (dVar 6) dNil)) dNext)
    (dAug subD 4 (dC (.int 1)))) (dRaise 1 "badmove" ["at"] (dCons (dVar 6) dNil))))))
    (dSeq (dIfS (dTest (dOp gtD (dVar 4) (dC (.int 0)))) (dRaise 1 "badmove" ["at"] (dCons (dB lenD (dCons (dVar 2) dNil)) dNil)) dNext)
    (dRet (dVar 5))))))))
@[irreducible] def F_check_moves : List Sl → Cr := runF 3 9 d_check_moves
theorem F_check_moves_eq : F_check_moves = runF 3 9 d_check_moves := by unfold F_check_moves; rfl
abbrev s__law_store : Stmt := top 34
abbrev N__law_store : List Str := ["script", "seed", "cell"]
theorem sc__law_store : FnScope N__law_store ["script"] (defScope s__law_store) := ⟨rfl, rfl, rfl, by decide +kernel, rfl, by decide +kernel, by decide +kernel⟩
def d__law_store : Den Fl :=
    (dSeq (dAsg (tName 1) (dC (.int 1009)))
    (dSeq (dFor (dItems (dSl (dVar 0) dNoPart (dPart (dC (.int 63))))) (tName 2) (dAsg (tName 1) (dOp modD (dOp addD (dOp addD (dOp addD (dOp mulD (dVar 1) (dC (.int 1000003))) (dOp mulD (dB absD (dCons (dB intD (dCons (dVar 2) dNil)) dNil)) (dC (.int 2)))) (dB intD (dCons (dOp ltD (dB intD (dCons (dVar 2) dNil)) (dC (.int 0))) dNil))) (dC (.int 1))) (dC (.int 2147483647)))))
    (dRetO (nLst (dCons (dOfN (dLc (dItems (dSl (dVar 0) dNoPart (dPart (dC (.int 63))))) [2] (tName 2) dYes (dB intD (dCons (dVar 2) dNil)))) (dCons (dC (.int 0)) (dCons (dC (.int 0)) (dCons (dC (.int 0)) (dCons (dC (.int 0)) (dCons (dC (.int 0)) (dCons (dVar 1) dNil)))))))))))
@[irreducible] def F__law_store : List Sl → Cr := runF 1 3 d__law_store
theorem F__law_store_eq : F__law_store = runF 1 3 d__law_store := by unfold F__law_store; rfl
abbrev s__law_mix : Stmt := top 35
abbrev N__law_mix : List Str := ["n", "k", "x"]
theorem sc__law_mix : FnScope N__law_mix ["n", "k"] (defScope s__law_mix) := ⟨rfl, rfl, rfl, by decide +kernel, rfl, by decide +kernel, by decide +kernel⟩
def d__law_mix : Den Fl :=
    (dSeq (dAsg (tName 2) (dOp modD (dOp addD (dOp addD (dOp mulD (dB intD (dCons (dVar 0) dNil)) (dC (.int 48271))) (dOp mulD (dB intD (dCons (dVar 1) dNil)) (dC (.int 69621)))) (dC (.int 31))) (dC (.int 2147483647))))
    (dSeq (dAsg (tName 2) (dOp modD (dOp addD (dOp addD (dOp mulD (dVar 2) (dVar 2)) (dOp mulD (dB intD (dCons (dVar 1) dNil)) (dC (.int 16807)))) (dC (.int 17))) (dC (.int 2147483629))))
    (dSeq (dAsg (tName 2) (dOp modD (dOp addD (dOp addD (dOp mulD (dVar 2) (dVar 2)) (dOp mulD (dOp modD (dB intD (dCons (dVar 0) dNil)) (dC (.int 1000003))) (dC (.int 7)))) (dOp fdivD (dVar 2) (dC (.int 3)))) (dC (.int 2147483587))))
    (dRet (dOp fdivD (dVar 2) (dC (.int 8)))))))
@[irreducible] def F__law_mix : List Sl → Cr := runF 2 3 d__law_mix
theorem F__law_mix_eq : F__law_mix = runF 2 3 d__law_mix := by unfold F__law_mix; rfl
abbrev s__law_take : Stmt := top 36
abbrev N__law_take : List Str := ["store", "many", "cell", "digit"]
theorem sc__law_take : FnScope N__law_take ["store", "many"] (defScope s__law_take) := ⟨rfl, rfl, rfl, by decide +kernel, rfl, by decide +kernel, by decide +kernel⟩
def d__law_take : Den Fl :=
    (dSeq (dAsg (tName 1) (dB maxD (dCons (dC (.int 1)) (dCons (dB intD (dCons (dVar 1) dNil)) dNil))))
    (dSeq (dSetLL 0 (dOp addD (dB intD (dCons (dIxS 0 (dC (.int 4))) dNil)) (dC (.int 1))) (dC (.int 4)))
    (dSeq (dIfS (dAnd (dTest (dOp eqD (dB intD (dCons (dIxS 0 (dC (.int 2))) dNil)) (dC (.int 0)))) (dAnd (dTest (dOp eqD (dB intD (dCons (dIxS 0 (dC (.int 3))) dNil)) (dC (.int 0)))) (dTest (dOp ltD (dB intD (dCons (dIxS 0 (dC (.int 1))) dNil)) (dB lenD (dCons (dIxS 0 (dC (.int 0))) dNil)))))) (dSeq (dAsg (tName 2) (dB intD (dCons (dOp ixD (dIxS 0 (dC (.int 0))) (dIxS 0 (dC (.int 1)))) dNil)))
    (dSeq (dSetLL 0 (dOp addD (dB intD (dCons (dIxS 0 (dC (.int 1))) dNil)) (dC (.int 1))) (dC (.int 1)))
    (dIfS (dTest (dOp geD (dB absD (dCons (dVar 2) dNil)) (dOp powD (dC (.int 10)) (dC (.int 18))))) (dSetLL 0 (dB absD (dCons (dVar 2) dNil)) (dC (.int 2))) (dSeq (dSetLL 0 (dC (.int 4)) (dC (.int 3)))
    (dSetLL 0 (dOp addD (dOp mulD (dB absD (dCons (dVar 2) dNil)) (dC (.int 2))) (dB intD (dCons (dOp ltD (dVar 2) (dC (.int 0))) dNil))) (dC (.int 5))))))) dNext)
    (dSeq (dIfS (dTest (dOp gtD (dB intD (dCons (dIxS 0 (dC (.int 2))) dNil)) (dC (.int 0)))) (dSeq (dAsg (tName 3) (dOp modD (dB intD (dCons (dIxS 0 (dC (.int 2))) dNil)) (dVar 1)))
    (dSeq (dSetLL 0 (dOp fdivD (dB intD (dCons (dIxS 0 (dC (.int 2))) dNil)) (dVar 1)) (dC (.int 2)))
    (dRet (dVar 3)))) dNext)
    (dSeq (dIfS (dTest (dOp gtD (dB intD (dCons (dIxS 0 (dC (.int 3))) dNil)) (dC (.int 0)))) (dSeq (dSetLL 0 (dOp subD (dB intD (dCons (dIxS 0 (dC (.int 3))) dNil)) (dC (.int 1))) (dC (.int 3)))
    (dRet (dOp modD (dOfC (dCall F__law_mix [none, none] (dArg (dB intD (dCons (dIxS 0 (dC (.int 5))) dNil)) (dArg (dB intD (dCons (dIxS 0 (dC (.int 4))) dNil)) dNoArg)))) (dVar 1)))) dNext)
    (dRet (dOp modD (dOfC (dCall F__law_mix [none, none] (dArg (dB intD (dCons (dIxS 0 (dC (.int 6))) dNil)) (dArg (dB intD (dCons (dIxS 0 (dC (.int 4))) dNil)) dNoArg)))) (dVar 1))))))))
@[irreducible] def F__law_take : List Sl → Cr := runF 2 4 d__law_take
theorem F__law_take_eq : F__law_take = runF 2 4 d__law_take := by unfold F__law_take; rfl
abbrev s__law_edge : Stmt := top 37
abbrev N__law_edge : List Str := ["store", "many", "way"]
theorem sc__law_edge : FnScope N__law_edge ["store", "many"] (defScope s__law_edge) := ⟨rfl, rfl, rfl, by decide +kernel, rfl, by decide +kernel, by decide +kernel⟩
def d__law_edge : Den Fl :=
    (dSeq (dAsg (tName 2) (dOfC (dCall F__law_take [some 0, none] (dArgS 0 (dArg (dC (.int 6)) dNoArg)))))
    (dSeq (dIfS (dTest (dOp eqD (dVar 2) (dC (.int 0)))) (dRet (dC (.int 0))) dNext)
    (dSeq (dIfS (dTest (dOp eqD (dVar 2) (dC (.int 1)))) (dRet (dOp subD (dB maxD (dCons (dC (.int 1)) (dCons (dB intD (dCons (dVar 1) dNil)) dNil))) (dC (.int 1)))) dNext)
    (dRetR (dCall F__law_take [some 0, none] (dArgS 0 (dArg (dVar 1) dNoArg)))))))
@[irreducible] def F__law_edge : List Sl → Cr := runF 2 3 d__law_edge
theorem F__law_edge_eq : F__law_edge = runF 2 3 d__law_edge := by unfold F__law_edge; rfl
abbrev s__law_odds : Stmt := top 38
abbrev N__law_odds : List Str := ["store", "many"]
theorem sc__law_odds : FnScope N__law_odds ["store", "many"] (defScope s__law_odds) := ⟨rfl, rfl, rfl, by decide +kernel, rfl, by decide +kernel, by decide +kernel⟩
def d__law_odds : Den Fl :=
    (dRet (dOp eqD (dOfC (dCall F__law_take [some 0, none] (dArgS 0 (dArg (dVar 1) dNoArg)))) (dC (.int 0))))
@[irreducible] def F__law_odds : List Sl → Cr := runF 2 2 d__law_odds
theorem F__law_odds_eq : F__law_odds = runF 2 2 d__law_odds := by unfold F__law_odds; rfl
abbrev s__law_pick : Stmt := top 39
abbrev N__law_pick : List Str := ["store", "items"]
theorem sc__law_pick : FnScope N__law_pick ["store", "items"] (defScope s__law_pick) := ⟨rfl, rfl, rfl, by decide +kernel, rfl, by decide +kernel, by decide +kernel⟩
def d__law_pick : Den Fl :=
    (dRet (dOp ixD (dVar 1) (dOfC (dCall F__law_take [some 0, none] (dArgS 0 (dArg (dB lenD (dCons (dVar 1) dNil)) dNoArg))))))
@[irreducible] def F__law_pick : List Sl → Cr := runF 2 2 d__law_pick
theorem F__law_pick_eq : F__law_pick = runF 2 2 d__law_pick := by unfold F__law_pick; rfl
abbrev s__law_length : Stmt := top 40
abbrev N__law_length : List Str := ["store", "way"]
theorem sc__law_length : FnScope N__law_length ["store"] (defScope s__law_length) := ⟨rfl, rfl, rfl, by decide +kernel, rfl, by decide +kernel, by decide +kernel⟩
def d__law_length : Den Fl :=
    (dSeq (dAsg (tName 1) (dOfC (dCall F__law_take [some 0, none] (dArgS 0 (dArg (dC (.int 8)) dNoArg)))))
    (dSeq (dIfS (dTest (dOp eqD (dVar 1) (dC (.int 0)))) (dRet (dOp addD (dC (.int 1)) (dOfC (dCall F__law_edge [some 0, none] (dArgS 0 (dArg (dC (.int 120)) dNoArg)))))) dNext)
    (dSeq (dIfS (dTest (dOp eqD (dVar 1) (dC (.int 1)))) (dRet (dOp addD (dC (.int 9)) (dOfC (dCall F__law_take [some 0, none] (dArgS 0 (dArg (dC (.int 12)) dNoArg)))))) dNext)
    (dRet (dOp addD (dC (.int 1)) (dOfC (dCall F__law_take [some 0, none] (dArgS 0 (dArg (dC (.int 8)) dNoArg)))))))))
@[irreducible] def F__law_length : List Sl → Cr := runF 1 2 d__law_length
theorem F__law_length_eq : F__law_length = runF 1 2 d__law_length := by unfold F__law_length; rfl
abbrev s__law_cellcount : Stmt := top 41
abbrev N__law_cellcount : List Str := ["store"]
theorem sc__law_cellcount : FnScope N__law_cellcount ["store"] (defScope s__law_cellcount) := ⟨rfl, rfl, rfl, by decide +kernel, rfl, by decide +kernel, by decide +kernel⟩
def d__law_cellcount : Den Fl :=
    (dSeq (dIfS (dTest (dOfC (dCall F__law_odds [some 0, none] (dArgS 0 (dArg (dC (.int 8)) dNoArg))))) (dRet (dOp addD (dC (.int 1)) (dOfC (dCall F__law_edge [some 0, none] (dArgS 0 (dArg (dC (.int 120)) dNoArg)))))) dNext)
    (dRet (dOp addD (dC (.int 1)) (dOfC (dCall F__law_take [some 0, none] (dArgS 0 (dArg (dC (.int 4)) dNoArg)))))))
@[irreducible] def F__law_cellcount : List Sl → Cr := runF 1 1 d__law_cellcount
theorem F__law_cellcount_eq : F__law_cellcount = runF 1 1 d__law_cellcount := by unfold F__law_cellcount; rfl
abbrev s__law_badcells : Stmt := top 42
abbrev N__law_badcells : List Str := ["store"]
theorem sc__law_badcells : FnScope N__law_badcells ["store"] (defScope s__law_badcells) := ⟨rfl, rfl, rfl, by decide +kernel, rfl, by decide +kernel, by decide +kernel⟩
def d__law_badcells : Den Fl :=
    (dRetR (dCall F__law_pick [some 0, none] (dArgS 0 (dArg (dLst (dCons (dC (.int 0)) (dCons (dOp subD (dC (.int 0)) (dC (.int 1))) (dCons (dC (.bl true)) (dCons (dC (.bl false)) (dCons (dC (.non)) (dCons (dC (.str "1")) (dCons (dTup (dCons (dC (.int 1)) dNil)) (dCons (dLst (dCons (dC (.int 1)) dNil)) (dCons (dC (.str "")) (dCons (dOp subD (dC (.int 0)) (dOp powD (dC (.int 10)) (dC (.int 39)))) dNil))))))))))) dNoArg))))
@[irreducible] def F__law_badcells : List Sl → Cr := runF 1 1 d__law_badcells
theorem F__law_badcells_eq : F__law_badcells = runF 1 1 d__law_badcells := by unfold F__law_badcells; rfl
abbrev s__law_moves : Stmt := top 43
abbrev N__law_moves : List Str := ["store", "n", "source", "first", "last", "told", "k", "stop", "j"]
theorem sc__law_moves : FnScope N__law_moves ["store", "n", "source", "first", "last"] (defScope s__law_moves) := ⟨rfl, rfl, rfl, by decide +kernel, rfl, by decide +kernel, by decide +kernel⟩
def d__law_moves (rec : List Sl → Cr) : Den Fl :=
    (dSeq (dAsgO 5 (nLst dNil))
    (dSeq (dFor (dRng rng1 (dCons (dVar 1) dNil)) (tName 6) (dSeq (dIfS (dTest (dOp eqD (dVar 1) (dC (.int 0)))) dBrk dNext)
    (dSeq (dAsg (tName 7) (dOp addD (dC (.int 1)) (dOfC (dCall F__law_edge [some 0, none] (dArgS 0 (dArg (dVar 1) dNoArg))))))
    (dSeq (dIfS (dTest (dOp eqD (dVar 3) (dVar 4))) (dAsg (tName 7) (dVar 1)) dNext)
    (dSeq (dApp 5 (dTup (dCons (dC (.str "up")) (dCons (dVar 2) (dCons (dVar 3) dNil)))))
    (dSeq (dFor (dRng rng1 (dCons (dOp subD (dVar 7) (dC (.int 1))) dNil)) (tName 8) (dApp 5 (dTup (dCons (dC (.str "up")) (dCons (dVar 3) (dCons (dVar 3) dNil))))))
    (dSeq (dAsgR 5 (dRvN (nAddL 5 (dOfC (dCall rec [some 0, none, none, none, none] (dArgS 0 (dArg (dOp subD (dVar 1) (dVar 7)) (dArg (dVar 3) (dArg (dOp addD (dVar 3) (dC (.int 1))) (dArg (dVar 4) dNoArg))))))))))
    (dSeq (dApp 5 (dTup (dCons (dC (.str "read")) (dCons (dVar 3) dNil))))
    (dAsg (tName 1) (dOp subD (dVar 7) (dC (.int 1))))))))))))
    (dRetV 5)))
@[irreducible] def F__law_moves (n : Nat) : List Sl → Cr := Nat.rec (fun _ => .stuck) (fun _ r => runF 5 9 (d__law_moves r)) n
theorem F__law_moves_eq (n : Nat) : F__law_moves (n + 1) = runF 5 9 (d__law_moves (F__law_moves n)) := by unfold F__law_moves; rfl
theorem F__law_moves_zero : F__law_moves 0 = fun _ => .stuck := by unfold F__law_moves; rfl
abbrev s__law_isint : Stmt := top 47
abbrev N__law_isint : List Str := ["thing"]
theorem sc__law_isint : FnScope N__law_isint ["thing"] (defScope s__law_isint) := ⟨rfl, rfl, rfl, by decide +kernel, rfl, by decide +kernel, by decide +kernel⟩
def d__law_isint : Den Fl :=
    (dRet (dAndV (dIsi .int (dVar 0)) (dNotV (dIsi .bool (dVar 0)))))
@[irreducible] def F__law_isint : List Sl → Cr := runF 1 1 d__law_isint
theorem F__law_isint_eq : F__law_isint = runF 1 1 d__law_isint := by unfold F__law_isint; rfl
abbrev s__law_moveshape : Stmt := top 45
abbrev N__law_moveshape : List Str := ["move", "many", "number"]
theorem sc__law_moveshape : FnScope N__law_moveshape ["move", "many"] (defScope s__law_moveshape) := ⟨rfl, rfl, rfl, by decide +kernel, rfl, by decide +kernel, by decide +kernel⟩
def d__law_moveshape : Den Fl :=
    (dSeq (dIfS (dOr (dNot (dTest (dIsi .tuple (dVar 0)))) (dOr (dTest (dOp ltD (dB lenD (dCons (dVar 0) dNil)) (dC (.int 2)))) (dNot (dTest (dIsi .str (dOp ixD (dVar 0) (dC (.int 0)))))))) (dRet (dC (.bl false))) dNext)
    (dSeq (dFor (dWalk3 (dSl (dVar 0) (dPart (dC (.int 1))) dNoPart)) (tName 2) (dIfS (dOr (dNot (dTest (dOfC (dCall F__law_isint [none] (dArg (dVar 2) dNoArg))))) (dOr (dTest (dOp ltD (dVar 2) (dC (.int 0)))) (dTest (dOp gtD (dVar 2) (dVar 1))))) (dRet (dC (.bl false))) dNext))
    (dSeq (dIfS (dTest (dOp eqD (dOp ixD (dVar 0) (dC (.int 0))) (dC (.str "up")))) (dRet (dAndV (dOp eqD (dB lenD (dCons (dVar 0) dNil)) (dC (.int 3))) (dOp gtD (dOp ixD (dVar 0) (dC (.int 2))) (dC (.int 0))))) dNext)
    (dRet (dAndV (dOp eqD (dOp ixD (dVar 0) (dC (.int 0))) (dC (.str "read"))) (dAndV (dOp eqD (dB lenD (dCons (dVar 0) dNil)) (dC (.int 2))) (dOp gtD (dOp ixD (dVar 0) (dC (.int 1))) (dC (.int 0)))))))))
@[irreducible] def F__law_moveshape : List Sl → Cr := runF 2 3 d__law_moveshape
theorem F__law_moveshape_eq : F__law_moveshape = runF 2 3 d__law_moveshape := by unfold F__law_moveshape; rfl
abbrev s__law_play : Stmt := top 44
abbrev N__law_play : List Str := ["n", "many", "moves", "held", "due", "ups", "at", "move", "index"]
theorem sc__law_play : FnScope N__law_play ["n", "many", "moves"] (defScope s__law_play) := ⟨rfl, rfl, rfl, by decide +kernel, rfl, by decide +kernel, by decide +kernel⟩
def d__law_play : Den Fl :=
    (dSeq (dAsgR 3 (dRvN (nAdd (dLst (dCons (dC (.int 0)) dNil)) (dOp mulA (dLst (dCons (dOp subD (dC (.int 0)) (dC (.int 1))) dNil)) (dVar 1)))))
    (dSeq (dAsg (tName 4) (dVar 0))
    (dSeq (dAsg (tName 5) (dC (.int 0)))
    (dSeq (dFor (dRng rng1 (dCons (dB lenD (dCons (dVar 2) dNil)) dNil)) (tName 6) (dSeq (dAsg (tName 7) (dOp ixD (dVar 2) (dVar 6)))
    (dSeq (dIfS (dOr (dTest (dOp eqD (dVar 4) (dC (.int 0)))) (dNot (dTest (dOfC (dCall F__law_moveshape [none, none] (dArg (dVar 7) (dArg (dVar 1) dNoArg))))))) (dRet (dTup (dCons (dC (.bl false)) (dCons (dVar 6) dNil)))) dNext)
    (dIfS (dTest (dOp eqD (dOp ixD (dVar 7) (dC (.int 0))) (dC (.str "up")))) (dSeq (dAsg (tName 8) (dIxS 3 (dOp ixD (dVar 7) (dC (.int 1)))))
    (dSeq (dIfS (dOr (dTest (dOp ltD (dVar 8) (dC (.int 0)))) (dTest (dOp geD (dVar 8) (dVar 0)))) (dRet (dTup (dCons (dC (.bl false)) (dCons (dVar 6) dNil)))) dNext)
    (dSeq (dSetLL 3 (dOp addD (dVar 8) (dC (.int 1))) (dOp ixD (dVar 7) (dC (.int 2))))
    (dAsg (tName 5) (dOp addD (dVar 5) (dC (.int 1))))))) (dSeq (dIfS (dTest (dOp neD (dIxS 3 (dOp ixD (dVar 7) (dC (.int 1)))) (dVar 4))) (dRet (dTup (dCons (dC (.bl false)) (dCons (dVar 6) dNil)))) dNext)
    (dAsg (tName 4) (dOp subD (dVar 4) (dC (.int 1)))))))))
    (dSeq (dIfS (dTest (dOp gtD (dVar 4) (dC (.int 0)))) (dRet (dTup (dCons (dC (.bl false)) (dCons (dB lenD (dCons (dVar 2) dNil)) dNil)))) dNext)
    (dRet (dTup (dCons (dC (.bl true)) (dCons (dVar 5) dNil)))))))))
@[irreducible] def F__law_play : List Sl → Cr := runF 3 9 d__law_play
theorem F__law_play_eq : F__law_play = runF 3 9 d__law_play := by unfold F__law_play; rfl
abbrev s__law_leastups : Stmt := top 46
abbrev N__law_leastups : List Str := ["n", "many", "total", "part", "q"]
theorem sc__law_leastups : FnScope N__law_leastups ["n", "many"] (defScope s__law_leastups) := ⟨rfl, rfl, rfl, by decide +kernel, rfl, by decide +kernel, by decide +kernel⟩
def d__law_leastups : Den Fl :=
    (dSeq (dAsg (tName 2) (dC (.int 0)))
    (dSeq (dAsg (tName 3) (dC (.int 1)))
    (dSeq (dFor (dRng rng1 (dCons (dOp addD (dVar 0) (dC (.int 1))) dNil)) (tName 4) (dSeq (dIfS (dTest (dOp leD (dOp addD (dVar 0) (dC (.int 1))) (dVar 3))) dBrk dNext)
    (dSeq (dAsg (tName 2) (dOp subD (dOp addD (dOp addD (dVar 2) (dVar 0)) (dC (.int 1))) (dVar 3)))
    (dAsg (tName 3) (dOp fdivD (dOp mulD (dVar 3) (dOp addD (dOp addD (dVar 1) (dVar 4)) (dC (.int 1)))) (dOp addD (dVar 4) (dC (.int 1))))))))
    (dRet (dVar 2)))))
@[irreducible] def F__law_leastups : List Sl → Cr := runF 2 5 d__law_leastups
theorem F__law_leastups_eq : F__law_leastups = runF 2 5 d__law_leastups := by unfold F__law_leastups; rfl
abbrev s__law_same : Stmt := top 48
abbrev N__law_same : List Str := ["one", "two", "listed", "paired", "k", "key"]
theorem sc__law_same : FnScope N__law_same ["one", "two"] (defScope s__law_same) := ⟨rfl, rfl, rfl, by decide +kernel, rfl, by decide +kernel, by decide +kernel⟩
def d__law_same (rec : List Sl → Cr) : Den Fl :=
    (dSeq (dIfS (dOr (dTest (dOp isND (dVar 0) (dC (.non)))) (dTest (dOp isND (dVar 1) (dC (.non))))) (dRet (dAndV (dOp isND (dVar 0) (dC (.non))) (dOp isND (dVar 1) (dC (.non))))) dNext)
    (dSeq (dIfS (dOr (dTest (dIsi .bool (dVar 0))) (dTest (dIsi .bool (dVar 1)))) (dRet (dAndV (dIsi .bool (dVar 0)) (dAndV (dIsi .bool (dVar 1)) (dOp eqD (dVar 0) (dVar 1))))) dNext)
    (dSeq (dIfS (dOr (dTest (dIsi .int (dVar 0))) (dTest (dIsi .int (dVar 1)))) (dRet (dAndV (dIsi .int (dVar 0)) (dAndV (dIsi .int (dVar 1)) (dOp eqD (dVar 0) (dVar 1))))) dNext)
    (dSeq (dIfS (dOr (dTest (dIsi .str (dVar 0))) (dTest (dIsi .str (dVar 1)))) (dRet (dAndV (dIsi .str (dVar 0)) (dAndV (dIsi .str (dVar 1)) (dOp eqD (dVar 0) (dVar 1))))) dNext)
    (dSeq (dIfS (dOr (dTest (dIsi .dict (dVar 0))) (dTest (dIsi .dict (dVar 1)))) (dSeq (dIfS (dOr (dNot (dTest (dIsi .dict (dVar 0)))) (dOr (dNot (dTest (dIsi .dict (dVar 1)))) (dTest (dOp neD (dB lenD (dCons (dVar 0) dNil)) (dB lenD (dCons (dVar 1) dNil)))))) (dRet (dC (.bl false))) dNext)
    (dSeq (dFor (dItems (dVar 0)) (tName 5) (dIfS (dOr (dTest (dOp notInT (dVar 5) (dVar 1))) (dNot (dTest (dOfC (dCall rec [none, none] (dArg (dOp ixD (dVar 0) (dVar 5)) (dArg (dOp ixD (dVar 1) (dVar 5)) dNoArg))))))) (dRet (dC (.bl false))) dNext))
    (dRet (dC (.bl true))))) dNext)
    (dSeq (dAsg (tName 2) (dAndV (dIsi .list (dVar 0)) (dIsi .list (dVar 1))))
    (dSeq (dAsg (tName 3) (dAndV (dIsi .tuple (dVar 0)) (dIsi .tuple (dVar 1))))
    (dSeq (dIfS (dOr (dAnd (dNot (dTru (dVar 2))) (dNot (dTru (dVar 3)))) (dTest (dOp neD (dB lenD (dCons (dVar 0) dNil)) (dB lenD (dCons (dVar 1) dNil))))) (dRet (dC (.bl false))) dNext)
    (dSeq (dFor (dRng rng1 (dCons (dB lenD (dCons (dVar 0) dNil)) dNil)) (tName 4) (dIfS (dNot (dTest (dOfC (dCall rec [none, none] (dArg (dOp ixD (dVar 0) (dVar 4)) (dArg (dOp ixD (dVar 1) (dVar 4)) dNoArg)))))) (dRet (dC (.bl false))) dNext))
    (dRet (dC (.bl true))))))))))))
@[irreducible] def F__law_same (n : Nat) : List Sl → Cr := Nat.rec (fun _ => .stuck) (fun _ r => runF 2 6 (d__law_same r)) n
theorem F__law_same_eq (n : Nat) : F__law_same (n + 1) = runF 2 6 (d__law_same (F__law_same n)) := by unfold F__law_same; rfl
theorem F__law_same_zero : F__law_same 0 = fun _ => .stuck := by unfold F__law_same; rfl
def d__law_sameC (rec : List Sl → Cr) : Den Fl :=
    (dSeq (dIfS (dOr (dTest (dOp isND (dVar 0) (dC (.non)))) (dTest (dOp isND (dVar 1) (dC (.non))))) (dRet (dAndV (dOp isND (dVar 0) (dC (.non))) (dOp isND (dVar 1) (dC (.non))))) dNext)
    (dSeq (dIfS (dOr (dTest (dIsi .bool (dVar 0))) (dTest (dIsi .bool (dVar 1)))) (dRet (dAndV (dIsi .bool (dVar 0)) (dAndV (dIsi .bool (dVar 1)) (dOp eqD (dVar 0) (dVar 1))))) dNext)
    (dSeq (dIfS (dOr (dTest (dIsi .int (dVar 0))) (dTest (dIsi .int (dVar 1)))) (dRet (dAndV (dIsi .int (dVar 0)) (dAndV (dIsi .int (dVar 1)) (dOp eqD (dVar 0) (dVar 1))))) dNext)
    (dSeq (dIfS (dOr (dTest (dIsi .str (dVar 0))) (dTest (dIsi .str (dVar 1)))) (dRet (dAndV (dIsi .str (dVar 0)) (dAndV (dIsi .str (dVar 1)) (dOp eqD (dVar 0) (dVar 1))))) dNext)
    (dSeq (dIfS (dOr (dTest (dIsi .dict (dVar 0))) (dTest (dIsi .dict (dVar 1)))) (dSeq (dIfS (dOr (dNot (dTest (dIsi .dict (dVar 0)))) (dOr (dNot (dTest (dIsi .dict (dVar 1)))) (dTest (dOp neD (dB lenD (dCons (dVar 0) dNil)) (dB lenD (dCons (dVar 1) dNil)))))) (dRet (dC (.bl false))) dNext)
    (dSeq (dFor (dWalk3 (dVar 0)) (tName 5) (dIfS (dOr (dTest (dOp notInT (dVar 5) (dVar 1))) (dNot (dTest (dOfC (dCall rec [none, none] (dArg (dOp ixD (dVar 0) (dVar 5)) (dArg (dOp ixD (dVar 1) (dVar 5)) dNoArg))))))) (dRet (dC (.bl false))) dNext))
    (dRet (dC (.bl true))))) dNext)
    (dSeq (dAsg (tName 2) (dAndV (dIsi .list (dVar 0)) (dIsi .list (dVar 1))))
    (dSeq (dAsg (tName 3) (dAndV (dIsi .tuple (dVar 0)) (dIsi .tuple (dVar 1))))
    (dSeq (dIfS (dOr (dAnd (dNot (dTru (dVar 2))) (dNot (dTru (dVar 3)))) (dTest (dOp neD (dB lenD (dCons (dVar 0) dNil)) (dB lenD (dCons (dVar 1) dNil))))) (dRet (dC (.bl false))) dNext)
    (dSeq (dFor (dRng rng1 (dCons (dB lenD (dCons (dVar 0) dNil)) dNil)) (tName 4) (dIfS (dNot (dTest (dOfC (dCall rec [none, none] (dArg (dOp ixD (dVar 0) (dVar 4)) (dArg (dOp ixD (dVar 1) (dVar 4)) dNoArg)))))) (dRet (dC (.bl false))) dNext))
    (dRet (dC (.bl true))))))))))))
@[irreducible] def F__law_sameC (n : Nat) : List Sl → Cr := Nat.rec (fun _ => .stuck) (fun _ r => runF 2 6 (d__law_sameC r)) n
theorem F__law_sameC_eq (n : Nat) : F__law_sameC (n + 1) = runF 2 6 (d__law_sameC (F__law_sameC n)) := by unfold F__law_sameC; rfl
theorem F__law_sameC_zero : F__law_sameC 0 = fun _ => .stuck := by unfold F__law_sameC; rfl
def d__law_sameS0 : Den Fl :=
    (dSeq (dIfS (dOr (dTest (dIsNS false 0)) (dTest (dOp isND (dVar 1) (dC (.non))))) (dRet (dAndV (dIsNS false 0) (dOp isND (dVar 1) (dC (.non))))) dNext)
    (dSeq (dIfS (dOr (dTest (dIsiS .bool 0)) (dTest (dIsi .bool (dVar 1)))) (dRet (dAndV (dIsiS .bool 0) (dAndV (dIsi .bool (dVar 1)) (dOp eqD (dVar 0) (dVar 1))))) dNext)
    (dSeq (dIfS (dOr (dTest (dIsiS .int 0)) (dTest (dIsi .int (dVar 1)))) (dRet (dAndV (dIsiS .int 0) (dAndV (dIsi .int (dVar 1)) (dOp eqD (dVar 0) (dVar 1))))) dNext)
    (dSeq (dIfS (dOr (dTest (dIsiS .str 0)) (dTest (dIsi .str (dVar 1)))) (dRet (dAndV (dIsiS .str 0) (dAndV (dIsi .str (dVar 1)) (dOp eqD (dVar 0) (dVar 1))))) dNext)
    (dSeq (dIfS (dOr (dTest (dIsiS .dict 0)) (dTest (dIsi .dict (dVar 1)))) (dSeq (dIfS (dOr (dNot (dTest (dIsiS .dict 0))) (dOr (dNot (dTest (dIsi .dict (dVar 1)))) (dTest (dOp neD (dLenS 0) (dB lenD (dCons (dVar 1) dNil)))))) (dRet (dC (.bl false))) dNext)
    (dSeq (dFor (dWalk3 (dVar 0)) (tName 5) (dIfS (dOr (dTest (dOp notInT (dVar 5) (dVar 1))) (dNot (dTest (dOfC (dCall (F__law_sameC 8) [none, none] (dArg (dIxS 0 (dVar 5)) (dArg (dOp ixD (dVar 1) (dVar 5)) dNoArg))))))) (dRet (dC (.bl false))) dNext))
    (dRet (dC (.bl true))))) dNext)
    (dSeq (dAsg (tName 2) (dAndV (dIsiS .list 0) (dIsi .list (dVar 1))))
    (dSeq (dAsg (tName 3) (dAndV (dIsiS .tuple 0) (dIsi .tuple (dVar 1))))
    (dSeq (dIfS (dOr (dAnd (dNot (dTru (dVar 2))) (dNot (dTru (dVar 3)))) (dTest (dOp neD (dLenS 0) (dB lenD (dCons (dVar 1) dNil))))) (dRet (dC (.bl false))) dNext)
    (dSeq (dFor (dRng rng1 (dCons (dLenS 0) dNil)) (tName 4) (dIfS (dNot (dTest (dOfC (dCall (F__law_sameC 8) [none, none] (dArg (dIxS 0 (dVar 4)) (dArg (dOp ixD (dVar 1) (dVar 4)) dNoArg)))))) (dRet (dC (.bl false))) dNext))
    (dRet (dC (.bl true))))))))))))
@[irreducible] def F__law_sameS0 : List Sl → Cr := runF 2 6 d__law_sameS0
theorem F__law_sameS0_eq : F__law_sameS0 = runF 2 6 d__law_sameS0 := by unfold F__law_sameS0; rfl
abbrev s__law_movesbent : Stmt := top 49
abbrev N__law_movesbent : List Str := ["store", "moves", "many", "cell", "other", "odd", "way", "at"]
theorem sc__law_movesbent : FnScope N__law_movesbent ["store", "moves", "many"] (defScope s__law_movesbent) := ⟨rfl, rfl, rfl, by decide +kernel, rfl, by decide +kernel, by decide +kernel⟩
def d__law_movesbent : Den Fl :=
    (dSeq (dAsg (tName 3) (dOfC (dCall F__law_take [some 0, none] (dArgS 0 (dArg (dOp addD (dVar 2) (dC (.int 2))) dNoArg)))))
    (dSeq (dAsg (tName 4) (dOfC (dCall F__law_pick [some 0, none] (dArgS 0 (dArg (dLst (dCons (dTup (dCons (dC (.str "up")) (dCons (dVar 3) (dCons (dC (.int 1)) dNil)))) (dCons (dTup (dCons (dC (.str "up")) (dCons (dC (.int 0)) (dCons (dVar 3) dNil)))) (dCons (dTup (dCons (dC (.str "read")) (dCons (dVar 3) dNil))) (dCons (dTup (dCons (dC (.str "up")) (dCons (dVar 3) (dCons (dVar 3) dNil)))) (dCons (dTup (dCons (dC (.str "read")) (dCons (dC (.int 1)) dNil))) dNil)))))) dNoArg)))))
    (dSeq (dAsg (tName 5) (dLst (dCons (dTup (dCons (dC (.str "up")) (dCons (dC (.int 0)) dNil))) (dCons (dTup (dCons (dC (.str "read")) dNil)) (dCons (dTup (dCons (dC (.str "up")) (dCons (dC (.int 0)) (dCons (dC (.int 1)) (dCons (dC (.int 1)) dNil))))) (dCons (dLst (dCons (dC (.str "up")) (dCons (dC (.int 0)) (dCons (dC (.int 1)) dNil)))) (dCons (dLst (dCons (dC (.str "read")) (dCons (dC (.int 1)) dNil))) (dCons (dTup (dCons (dC (.str "up")) (dCons (dC (.bl true)) (dCons (dC (.int 1)) dNil)))) (dCons (dTup (dCons (dC (.str "read")) (dCons (dC (.bl true)) dNil))) (dCons (dC (.non)) dNil))))))))))
    (dSeq (dAsg (tName 5) (dOp addD (dVar 5) (dLst (dCons (dTup (dCons (dC (.str "down")) (dCons (dC (.int 1)) dNil))) (dCons (dTup (dCons (dC (.str "read")) (dCons (dC (.int 0)) dNil))) (dCons (dTup (dCons (dC (.str "read")) (dCons (dOp addD (dVar 2) (dC (.int 1))) dNil))) (dCons (dTup (dCons (dC (.str "up")) (dCons (dOp subD (dC (.int 0)) (dC (.int 1))) (dCons (dC (.int 1)) dNil)))) (dCons (dTup (dCons (dC (.str "up")) (dCons (dC (.int 0)) (dCons (dOp addD (dVar 2) (dC (.int 1))) dNil)))) (dCons (dC (.int 7)) dNil)))))))))
    (dSeq (dAsg (tName 5) (dOp addD (dVar 5) (dLst (dCons (dTup (dCons (dC (.str "up")) (dCons (dC (.str "0")) (dCons (dC (.int 1)) dNil)))) (dCons (dTup dNil) (dCons (dC (.str "read")) (dCons (dTup (dCons (dC (.str "Read")) (dCons (dC (.int 1)) dNil))) (dCons (dTup (dCons (dC (.str "up")) (dCons (dC (.int 0)) (dCons (dC (.bl true)) dNil)))) (dCons (dTup (dCons (dC (.str "up")) (dCons (dC (.non)) (dCons (dC (.int 1)) dNil)))) (dCons (dTup (dCons (dC (.str "read")) (dCons (dC (.int 1)) (dCons (dC (.int 1)) dNil)))) dNil))))))))))
    (dSeq (dAsg (tName 5) (dOp addD (dVar 5) (dLst (dCons (dTup (dCons (dC (.str "up")) (dCons (dC (.int 0)) (dCons (dC (.int 0)) dNil)))) (dCons (dTup (dCons (dC (.str "read")) (dCons (dOp subD (dC (.int 0)) (dC (.int 1))) dNil))) dNil)))))
    (dSeq (dAsg (tName 6) (dOfC (dCall F__law_take [some 0, none] (dArgS 0 (dArg (dC (.int 6)) dNoArg)))))
    (dSeq (dAsg (tName 7) (dOfC (dCall F__law_take [some 0, none] (dArgS 0 (dArg (dOp addD (dB lenD (dCons (dVar 1) dNil)) (dC (.int 1))) dNoArg)))))
    (dSeq (dIfS (dTest (dOp eqD (dVar 6) (dC (.int 0)))) (dRet (dOp addD (dOp addD (dOfN (nB listO (dCons (dSl (dVar 1) dNoPart (dPart (dVar 7))) dNil))) (dLst (dCons (dVar 4) dNil))) (dOfN (nB listO (dCons (dSl (dVar 1) (dPart (dVar 7)) dNoPart) dNil))))) dNext)
    (dSeq (dIfS (dTest (dOp eqD (dVar 6) (dC (.int 1)))) (dRet (dOp addD (dOp addD (dOfN (nB listO (dCons (dSl (dVar 1) dNoPart (dPart (dVar 7))) dNil))) (dLst (dCons (dOfC (dCall F__law_pick [some 0, none] (dArgS 0 (dArg (dVar 5) dNoArg)))) dNil))) (dOfN (nB listO (dCons (dSl (dVar 1) (dPart (dVar 7)) dNoPart) dNil))))) dNext)
    (dSeq (dIfS (dTest (dOp eqD (dVar 6) (dC (.int 2)))) (dRet (dOp addD (dOfN (nB listO (dCons (dSl (dVar 1) dNoPart (dPart (dVar 7))) dNil))) (dOfN (nB listO (dCons (dSl (dVar 1) (dPart (dOp addD (dVar 7) (dC (.int 1)))) dNoPart) dNil))))) dNext)
    (dSeq (dIfS (dTest (dOp eqD (dVar 6) (dC (.int 3)))) (dRet (dOp addD (dOp addD (dOfN (nB listO (dCons (dSl (dVar 1) dNoPart (dPart (dVar 7))) dNil))) (dOfN (nB listO (dCons (dSl (dVar 1) (dPart (dVar 7)) (dPart (dOp addD (dVar 7) (dC (.int 1))))) dNil)))) (dOfN (nB listO (dCons (dSl (dVar 1) (dPart (dVar 7)) dNoPart) dNil))))) dNext)
    (dSeq (dIfS (dTest (dOp eqD (dVar 6) (dC (.int 4)))) (dRet (dOp addD (dOp addD (dOp addD (dOfN (nB listO (dCons (dSl (dVar 1) dNoPart (dPart (dVar 7))) dNil))) (dOfN (nB listO (dCons (dSl (dVar 1) (dPart (dOp addD (dVar 7) (dC (.int 1)))) (dPart (dOp addD (dVar 7) (dC (.int 2))))) dNil)))) (dOfN (nB listO (dCons (dSl (dVar 1) (dPart (dVar 7)) (dPart (dOp addD (dVar 7) (dC (.int 1))))) dNil)))) (dOfN (nB listO (dCons (dSl (dVar 1) (dPart (dOp addD (dVar 7) (dC (.int 2)))) dNoPart) dNil))))) dNext)
    (dRet (dOp addD (dOp addD (dOfN (nB listO (dCons (dSl (dVar 1) dNoPart (dPart (dVar 7))) dNil))) (dLst (dCons (dOfC (dCall F__law_pick [some 0, none] (dArgS 0 (dArg (dOp addD (dVar 5) (dLst (dCons (dVar 4) dNil))) dNoArg)))) dNil))) (dOfN (nB listO (dCons (dSl (dVar 1) (dPart (dOp addD (dVar 7) (dC (.int 1)))) dNoPart) dNil))))))))))))))))))
@[irreducible] def F__law_movesbent : List Sl → Cr := runF 3 8 d__law_movesbent
theorem F__law_movesbent_eq : F__law_movesbent = runF 3 8 d__law_movesbent := by unfold F__law_movesbent; rfl
abbrev s__law_kinds : Stmt := top 50
abbrev N__law_kinds : List Str := ["e", "rows", "row"]
theorem sc__law_kinds : FnScope N__law_kinds ["e"] (defScope s__law_kinds) := ⟨rfl, rfl, rfl, by decide +kernel, rfl, by decide +kernel, by decide +kernel⟩
def d__law_kinds : Den Fl :=
    (dSeq (dAsg (tName 1) (dLst (dCons (dTup (dCons (dC (.str "numbererror")) (dCons (dIsE sub_NumberError 0) dNil))) (dCons (dTup (dCons (dC (.str "texterror")) (dCons (dIsE sub_TextError 0) dNil))) (dCons (dTup (dCons (dC (.str "shapeerror")) (dCons (dIsE sub_ShapeError 0) dNil))) (dCons (dTup (dCons (dC (.str "planerror")) (dCons (dIsE sub_PlanError 0) dNil))) (dCons (dTup (dCons (dC (.str "courseerror")) (dCons (dIsE sub_CourseError 0) dNil))) (dCons (dTup (dCons (dC (.str "knowerror")) (dCons (dIsE sub_KnowError 0) dNil))) (dCons (dTup (dCons (dC (.str "papererror")) (dCons (dIsE sub_PaperError 0) dNil))) (dCons (dTup (dCons (dC (.str "toomany")) (dCons (dIsE sub_TooMany 0) dNil))) (dCons (dTup (dCons (dC (.str "badprime")) (dCons (dIsE sub_BadPrime 0) dNil))) (dCons (dTup (dCons (dC (.str "noinverse")) (dCons (dIsE sub_NoInverse 0) dNil))) (dCons (dTup (dCons (dC (.str "nonumber")) (dCons (dIsE sub_NoNumber 0) dNil))) (dCons (dTup (dCons (dC (.str "badtable")) (dCons (dIsE sub_BadTable 0) dNil))) (dCons (dTup (dCons (dC (.str "badcells")) (dCons (dIsE sub_BadCells 0) dNil))) (dCons (dTup (dCons (dC (.str "badstep")) (dCons (dIsE sub_BadStep 0) dNil))) (dCons (dTup (dCons (dC (.str "badblind")) (dCons (dIsE sub_BadBlind 0) dNil))) (dCons (dTup (dCons (dC (.str "badmove")) (dCons (dIsE sub_BadMove 0) dNil))) (dCons (dTup (dCons (dC (.str "notshut")) (dCons (dIsE sub_NotShut 0) dNil))) (dCons (dTup (dCons (dC (.str "notopen")) (dCons (dIsE sub_NotOpen 0) dNil))) (dCons (dTup (dCons (dC (.str "nottheft")) (dCons (dIsE sub_NotTheft 0) dNil))) (dCons (dTup (dCons (dC (.str "notprice")) (dCons (dIsE sub_NotPrice 0) dNil))) dNil))))))))))))))))))))))
    (dRet (dOfN (dLc (dItems (dVar 1)) [2] (tName 2) (dTru (dOp ixD (dVar 2) (dC (.int 1)))) (dOp ixD (dVar 2) (dC (.int 0)))))))
@[irreducible] def F__law_kinds : List Sl → Cr := runF 1 3 d__law_kinds
theorem F__law_kinds_eq : F__law_kinds = runF 1 3 d__law_kinds := by unfold F__law_kinds; rfl
abbrev s__law_clean : Stmt := top 51
abbrev N__law_clean : List Str := ["e", "base", "word"]
theorem sc__law_clean : FnScope N__law_clean ["e", "base", "word"] (defScope s__law_clean) := ⟨rfl, rfl, rfl, by decide +kernel, rfl, by decide +kernel, by decide +kernel⟩
def d__law_clean : Den Fl :=
    (dRet (dAndV (dIsE sub_ValueError 0) (dAndV (dOfC (dCall (F__law_same 8) [none, none] (dArg (dFld knows_word 0 "word") (dArg (dVar 2) dNoArg)))) (dOp eqD (dOfC (dCall F__law_kinds [some 0] (dArgS 0 dNoArg))) (dLst (dCons (dVar 1) (dCons (dVar 2) dNil)))))))
@[irreducible] def F__law_clean : List Sl → Cr := runF 3 3 d__law_clean
theorem F__law_clean_eq : F__law_clean = runF 3 3 d__law_clean := by unfold F__law_clean; rfl
abbrev s__law_leasttable : Stmt := top 52
abbrev N__law_leasttable : List Str := ["most", "many", "c", "n"]
theorem sc__law_leasttable : FnScope N__law_leasttable ["most", "many"] (defScope s__law_leasttable) := ⟨rfl, rfl, rfl, by decide +kernel, rfl, by decide +kernel, by decide +kernel⟩
def d__law_leasttable : Den Fl :=
    (dRet (dOp addD (dLst (dCons (dLst dNil) dNil)) (dOfN (dLc (dRng rng2 (dCons (dC (.int 1)) (dCons (dOp addD (dVar 1) (dC (.int 1))) dNil))) [2] (tName 2) dYes (dOfN (dLc (dRng rng1 (dCons (dOp addD (dVar 0) (dC (.int 1))) dNil)) [3] (tName 3) dYes (dOfC (dCall F__law_leastups [none, none] (dArg (dVar 3) (dArg (dVar 2) dNoArg))))))))))
@[irreducible] def F__law_leasttable : List Sl → Cr := runF 2 4 d__law_leasttable
theorem F__law_leasttable_eq : F__law_leasttable = runF 2 4 d__law_leasttable := by unfold F__law_leasttable; rfl
abbrev s__law_stopof : Stmt := top 53
abbrev N__law_stopof : List Str := ["table", "n", "many", "stop"]
theorem sc__law_stopof : FnScope N__law_stopof ["table", "n", "many"] (defScope s__law_stopof) := ⟨rfl, rfl, rfl, by decide +kernel, rfl, by decide +kernel, by decide +kernel⟩
def d__law_stopof : Den Fl :=
    (dSeq (dIfS (dTest (dOp eqD (dVar 2) (dC (.int 1)))) (dRet (dVar 1)) dNext)
    (dSeq (dFor (dRng rng2 (dCons (dC (.int 1)) (dCons (dOp addD (dVar 1) (dC (.int 1))) dNil))) (tName 3) (dIfS (dTest (dOp eqD (dOp addD (dOp addD (dVar 3) (dOp ixD (dOp ixD (dVar 0) (dOp subD (dVar 2) (dC (.int 1)))) (dOp subD (dVar 1) (dVar 3)))) (dOp ixD (dOp ixD (dVar 0) (dVar 2)) (dOp subD (dVar 3) (dC (.int 1))))) (dOp ixD (dOp ixD (dVar 0) (dVar 2)) (dVar 1)))) (dRet (dVar 3)) dNext))
    (dRet (dVar 1))))
@[irreducible] def F__law_stopof : List Sl → Cr := runF 3 4 d__law_stopof
theorem F__law_stopof_eq : F__law_stopof = runF 3 4 d__law_stopof := by unfold F__law_stopof; rfl
abbrev s__law_listof : Stmt := top 54
abbrev N__law_listof : List Str := ["n", "many", "deep", "table", "opened", "told", "k", "size", "source", "first", "stop"]
theorem sc__law_listof : FnScope N__law_listof ["n", "many"] (defScope s__law_listof) := ⟨rfl, rfl, rfl, by decide +kernel, rfl, by decide +kernel, by decide +kernel⟩
def d__law_listof : Den Fl :=
    (dSeq (dAsg (tName 2) (dB minD (dCons (dVar 0) (dCons (dVar 1) dNil))))
    (dSeq (dAsg (tName 3) (dOfC (dCall F__law_leasttable [none, none] (dArg (dVar 0) (dArg (dVar 2) dNoArg)))))
    (dSeq (dAsgO 4 (nLst (dCons (dTup (dCons (dVar 0) (dCons (dC (.int 0)) (dCons (dC (.int 1)) dNil)))) dNil)))
    (dSeq (dAsgO 5 (nLst dNil))
    (dSeq (dFor (dRng rng1 (dCons (dOp addD (dOp mulD (dC (.int 4)) (dVar 0)) (dC (.int 4))) dNil)) (tName 6) (dSeq (dIfS (dTest (dOp eqD (dLenS 4) (dC (.int 0)))) dBrk dNext)
    (dSeq (dAsg (tTupG [(tName 7), (tName 8), (tName 9)]) (dMeth isLst popO 4 dNil))
    (dIfS (dTest (dOp isND (dVar 7) (dC (.non)))) (dApp 5 (dTup (dCons (dC (.str "read")) (dCons (dVar 8) dNil)))) (dIfS (dTest (dOp gtD (dVar 7) (dC (.int 0)))) (dSeq (dAsg (tName 10) (dOfC (dCall F__law_stopof [none, none, none] (dArg (dVar 3) (dArg (dVar 7) (dArg (dB minD (dCons (dOp addD (dOp subD (dVar 1) (dVar 9)) (dC (.int 1))) (dCons (dVar 2) dNil))) dNoArg))))))
    (dSeq (dAsgR 5 (dRvN (nAdd (dOfN (nAddL 5 (dLst (dCons (dTup (dCons (dC (.str "up")) (dCons (dVar 8) (dCons (dVar 9) dNil)))) dNil)))) (dOp mulA (dLst (dCons (dTup (dCons (dC (.str "up")) (dCons (dVar 9) (dCons (dVar 9) dNil)))) dNil)) (dOp subD (dVar 10) (dC (.int 1)))))))
    (dSeq (dApp 4 (dTup (dCons (dOp subD (dVar 10) (dC (.int 1))) (dCons (dVar 8) (dCons (dVar 9) dNil)))))
    (dSeq (dApp 4 (dTup (dCons (dC (.non)) (dCons (dVar 9) (dCons (dC (.int 0)) dNil)))))
    (dApp 4 (dTup (dCons (dOp subD (dVar 7) (dVar 10)) (dCons (dVar 9) (dCons (dOp addD (dVar 9) (dC (.int 1))) dNil))))))))) dNext)))))
    (dRetV 5))))))
@[irreducible] def F__law_listof : List Sl → Cr := runF 2 11 d__law_listof
theorem F__law_listof_eq : F__law_listof = runF 2 11 d__law_listof := by unfold F__law_listof; rfl
abbrev s__law_refusal : Stmt := top 55
abbrev N__law_refusal : List Str := ["e"]
theorem sc__law_refusal : FnScope N__law_refusal ["e"] (defScope s__law_refusal) := ⟨rfl, rfl, rfl, by decide +kernel, rfl, by decide +kernel, by decide +kernel⟩
def d__law_refusal : Den Fl :=
    (dSeq (dIfS (dAnd (dTest (dIsE sub_BadMove 0)) (dTest (dOfC (dCall F__law_clean [some 0, none, none] (dArgS 0 (dArg (dC (.str "papererror")) (dArg (dC (.str "badmove")) dNoArg))))))) (dRet (dTup (dCons (dC (.str "badmove")) (dCons (dFld knows_at 0 "at") dNil)))) dNext)
    (dSeq (dIfS (dAnd (dTest (dIsE sub_BadCells 0)) (dTest (dOfC (dCall F__law_clean [some 0, none, none] (dArgS 0 (dArg (dC (.str "numbererror")) (dArg (dC (.str "badcells")) dNoArg))))))) (dRet (dTup (dCons (dC (.str "badcells")) (dCons (dFld knows_cells 0 "cells") dNil)))) dNext)
    (dRet (dTup (dCons (dC (.str "another")) dNil)))))
@[irreducible] def F__law_refusal : List Sl → Cr := runF 1 1 d__law_refusal
theorem F__law_refusal_eq : F__law_refusal = runF 1 1 d__law_refusal := by unfold F__law_refusal; rfl
abbrev s__law_said : Stmt := top 56
abbrev N__law_said : List Str := ["n", "many", "moves", "e"]
theorem sc__law_said : FnScope N__law_said ["n", "many", "moves"] (defScope s__law_said) := ⟨rfl, rfl, rfl, by decide +kernel, rfl, by decide +kernel, by decide +kernel⟩
def d__law_said : Den Fl :=
    (dTry cat_VaultError 3 (dSeq (dIfS (dTest (dOp isND (dVar 2) (dC (.non)))) (dRet (dTup (dCons (dC (.bl true)) (dCons (dOfC (dCall F_move_list [none, none] (dArg (dVar 0) (dArg (dVar 1) dNoArg)))) dNil)))) dNext)
    (dRet (dTup (dCons (dC (.bl true)) (dCons (dOfC (dCall F_check_moves [none, none, none] (dArg (dVar 0) (dArg (dVar 1) (dArg (dVar 2) dNoArg))))) dNil))))) (dRet (dTup (dCons (dC (.bl false)) (dCons (dOfC (dCall F__law_refusal [some 3] (dArgS 3 dNoArg))) dNil)))))
@[irreducible] def F__law_said : List Sl → Cr := runF 3 4 d__law_said
theorem F__law_said_eq : F__law_said = runF 3 4 d__law_said := by unfold F__law_said; rfl
abbrev s__law_playsright : Stmt := top 57
abbrev N__law_playsright : List Str := ["n", "many", "moves", "due", "kept", "good", "number"]
theorem sc__law_playsright : FnScope N__law_playsright ["n", "many", "moves"] (defScope s__law_playsright) := ⟨rfl, rfl, rfl, by decide +kernel, rfl, by decide +kernel, by decide +kernel⟩
def d__law_playsright : Den Fl :=
    (dSeq (dAsg (tTupG [(tName 5), (tName 6)]) (dOfC (dCall F__law_play [none, none, none] (dArg (dVar 0) (dArg (dVar 1) (dArg (dVar 2) dNoArg))))))
    (dSeq (dAsg (tName 3) (dTup (dCons (dVar 5) (dCons (dVar 6) dNil))))
    (dSeq (dIfS (dNot (dTru (dVar 5))) (dAsg (tName 3) (dTup (dCons (dC (.bl false)) (dCons (dTup (dCons (dC (.str "badmove")) (dCons (dVar 6) dNil))) dNil)))) dNext)
    (dSeq (dAsg (tName 4) (dB reprD (dCons (dVar 2) dNil)))
    (dSeq (dIfS (dOr (dNot (dTest (dOfC (dCall (F__law_sameC 8) [none, none] (dArg (dOfC (dCall F__law_said [none, none, none] (dArg (dVar 0) (dArg (dVar 1) (dArg (dVar 2) dNoArg))))) (dArg (dVar 3) dNoArg)))))) (dNot (dTest (dOfC (dCall (F__law_sameC 8) [none, none] (dArg (dOfC (dCall F__law_said [none, none, none] (dArg (dVar 0) (dArg (dVar 1) (dArg (dB tupleD (dCons (dVar 2) dNil)) dNoArg))))) (dArg (dVar 3) dNoArg))))))) (dRet (dC (.bl false))) dNext)
    (dRet (dAndV (dOfC (dCall (F__law_sameC 8) [none, none] (dArg (dOfC (dCall F__law_said [none, none, none] (dArg (dVar 0) (dArg (dVar 1) (dArg (dVar 2) dNoArg))))) (dArg (dVar 3) dNoArg)))) (dOp eqD (dB reprD (dCons (dVar 2) dNil)) (dVar 4)))))))))
@[irreducible] def F__law_playsright : List Sl → Cr := runF 3 7 d__law_playsright
theorem F__law_playsright_eq : F__law_playsright = runF 3 7 d__law_playsright := by unfold F__law_playsright; rfl
abbrev s__law_listright : Stmt := top 58
abbrev N__law_listright : List Str := ["store", "n", "many", "due", "told"]
theorem sc__law_listright : FnScope N__law_listright ["store", "n", "many"] (defScope s__law_listright) := ⟨rfl, rfl, rfl, by decide +kernel, rfl, by decide +kernel, by decide +kernel⟩
def d__law_listright : Den Fl :=
    (dSeq (dAsg (tName 3) (dOfC (dCall F__law_listof [none, none] (dArg (dVar 1) (dArg (dVar 2) dNoArg)))))
    (dSeq (dAsgR 4 (dCall F_move_list [none, none] (dArg (dVar 1) (dArg (dVar 2) dNoArg))))
    (dSeq (dIfS (dOr (dNot (dTest (dOfC (dCall F__law_sameS0 [some 4, none] (dArgS 4 (dArg (dVar 3) dNoArg)))))) (dNot (dTest (dOfC (dCall (F__law_sameC 8) [none, none] (dArg (dOfC (dCall F__law_said [none, none, none] (dArg (dVar 1) (dArg (dVar 2) (dArg (dVar 3) dNoArg))))) (dArg (dTup (dCons (dC (.bl true)) (dCons (dOfC (dCall F__law_leastups [none, none] (dArg (dVar 1) (dArg (dVar 2) dNoArg)))) dNil))) dNoArg))))))) (dRet (dC (.bl false))) dNext)
    (dSeq (dApp 4 (dTup (dCons (dC (.str "read")) (dCons (dC (.int 1)) dNil))))
    (dRet (dAndV (dOfC (dCall (F__law_sameC 8) [none, none] (dArg (dOfC (dCall F_move_list [none, none] (dArg (dVar 1) (dArg (dVar 2) dNoArg)))) (dArg (dVar 3) dNoArg)))) (dOfC (dCall F__law_playsright [none, none, none] (dArg (dVar 1) (dArg (dVar 2) (dArg (dOfC (dCall F__law_movesbent [some 0, none, none] (dArgS 0 (dArg (dVar 3) (dArg (dVar 2) dNoArg))))) dNoArg)))))))))))
@[irreducible] def F__law_listright : List Sl → Cr := runF 3 5 d__law_listright
theorem F__law_listright_eq : F__law_listright = runF 3 5 d__law_listright := by unfold F__law_listright; rfl
abbrev s_law : Stmt := top 59
abbrev N_law : List Str := ["script", "store", "n", "many", "size", "right", "bent", "told", "moves", "bare", "near", "odd", "answers", "k"]
theorem sc_law : FnScope N_law ["script"] (defScope s_law) := ⟨rfl, rfl, rfl, by decide +kernel, rfl, by decide +kernel, by decide +kernel⟩
def d_law : Den Fl :=
    (dSeq (dAsgR 1 (dCall F__law_store [none] (dArg (dVar 0) dNoArg)))
    (dSeq (dAsg (tName 2) (dOp subD (dOfC (dCall F__law_length [some 1] (dArgS 1 dNoArg))) (dB intD (dCons (dOfC (dCall F__law_odds [some 1, none] (dArgS 1 (dArg (dC (.int 8)) dNoArg)))) dNil))))
    (dSeq (dAsg (tName 3) (dOfC (dCall F__law_cellcount [some 1] (dArgS 1 dNoArg))))
    (dSeq (dIfS (dNot (dTest (dOfC (dCall F__law_listright [some 1, none, none] (dArgS 1 (dArg (dVar 2) (dArg (dVar 3) dNoArg))))))) (dRet (dC (.bl false))) dNext)
    (dSeq (dAsg (tName 4) (dB minD (dCons (dVar 2) (dCons (dC (.int 40)) dNil))))
    (dSeq (dAsg (tName 5) (dOfC (dCall (F__law_moves 44) [some 1, none, none, none, none] (dArgS 1 (dArg (dVar 4) (dArg (dC (.int 0)) (dArg (dC (.int 1)) (dArg (dVar 3) dNoArg))))))))
    (dSeq (dAsg (tName 6) (dOfC (dCall F__law_movesbent [some 1, none, none] (dArgS 1 (dArg (dVar 5) (dArg (dVar 3) dNoArg))))))
    (dSeq (dAsg (tName 7) (dLst (dCons (dVar 5) (dCons (dVar 6) (dCons (dOfC (dCall F__law_movesbent [some 1, none, none] (dArgS 1 (dArg (dVar 5) (dArg (dVar 3) dNoArg))))) (dCons (dOfC (dCall F__law_movesbent [some 1, none, none] (dArgS 1 (dArg (dVar 6) (dArg (dVar 3) dNoArg))))) (dCons (dSl (dVar 5) dNoPart (dPart (dNeg (dC (.int 1))))) (dCons (dLst dNil) dNil))))))))
    (dSeq (dAsg (tName 7) (dOp addD (dVar 7) (dLst (dCons (dOp addD (dVar 5) (dLst (dCons (dTup (dCons (dC (.str "read")) (dCons (dC (.int 1)) dNil))) dNil))) (dCons (dOp addD (dVar 5) (dLst (dCons (dTup (dCons (dC (.str "up")) (dCons (dC (.int 0)) (dCons (dC (.int 1)) dNil)))) dNil))) (dCons (dSl (dVar 5) dNoPart (dPart (dOfC (dCall F__law_take [some 1, none] (dArgS 1 (dArg (dOp addD (dB lenD (dCons (dVar 5) dNil)) (dC (.int 1))) dNoArg)))))) dNil))))))
    (dSeq (dFor (dItems (dVar 7)) (tName 8) (dIfS (dNot (dTest (dOfC (dCall F__law_playsright [none, none, none] (dArg (dVar 4) (dArg (dVar 3) (dArg (dVar 8) dNoArg))))))) (dRet (dC (.bl false))) dNext))
    (dSeq (dAsg (tName 9) (dLst (dCons (dTup (dCons (dC (.str "up")) (dCons (dC (.int 0)) (dCons (dC (.int 1)) dNil)))) (dCons (dTup (dCons (dC (.str "read")) (dCons (dC (.int 1)) dNil))) dNil))))
    (dSeq (dIfS (dOr (dNot (dTest (dOfC (dCall F__law_playsright [none, none, none] (dArg (dC (.int 0)) (dArg (dVar 3) (dArg (dLst dNil) dNoArg))))))) (dOr (dNot (dTest (dOfC (dCall F__law_playsright [none, none, none] (dArg (dC (.int 0)) (dArg (dVar 3) (dArg (dVar 9) dNoArg))))))) (dNot (dTest (dOfC (dCall F__law_playsright [none, none, none] (dArg (dC (.int 1)) (dArg (dVar 3) (dArg (dVar 9) dNoArg))))))))) (dRet (dC (.bl false))) dNext)
    (dSeq (dAsg (tName 10) (dLst (dCons (dLst (dCons (dTup (dCons (dC (.str "up")) (dCons (dC (.bl false)) (dCons (dC (.int 1)) dNil)))) (dCons (dTup (dCons (dC (.str "read")) (dCons (dC (.int 1)) dNil))) dNil))) (dCons (dLst (dCons (dTup (dCons (dC (.str "up")) (dCons (dC (.int 0)) (dCons (dC (.bl true)) dNil)))) (dCons (dTup (dCons (dC (.str "read")) (dCons (dC (.int 1)) dNil))) dNil))) (dCons (dLst (dCons (dTup (dCons (dC (.str "up")) (dCons (dC (.int 0)) (dCons (dC (.int 1)) dNil)))) (dCons (dTup (dCons (dC (.str "read")) (dCons (dC (.bl true)) dNil))) dNil))) dNil)))))
    (dSeq (dFor (dItems (dOp addD (dVar 10) (dLst (dCons (dVar 9) dNil)))) (tName 8) (dIfS (dNot (dTest (dOfC (dCall F__law_playsright [none, none, none] (dArg (dC (.int 1)) (dArg (dC (.int 2)) (dArg (dVar 8) dNoArg))))))) (dRet (dC (.bl false))) dNext))
    (dSeq (dAsg (tName 11) (dOfC (dCall F__law_badcells [some 1] (dArgS 1 dNoArg))))
    (dSeq (dAsg (tName 12) (dLst (dCons (dOfC (dCall F__law_said [none, none, none] (dArg (dVar 4) (dArg (dVar 11) (dArg (dVar 6) dNoArg))))) (dCons (dOfC (dCall F__law_said [none, none, none] (dArg (dVar 2) (dArg (dVar 11) (dArg (dC (.non)) dNoArg))))) (dCons (dOfC (dCall F__law_said [none, none, none] (dArg (dVar 4) (dArg (dVar 11) (dArg (dVar 5) dNoArg))))) dNil)))))
    (dRetR (dCall (F__law_sameC 8) [none, none] (dArg (dVar 12) (dArg (dOfN (dLc (dRng rng1 (dCons (dC (.int 3)) dNil)) [13] (tName 13) dYes (dTup (dCons (dC (.bl false)) (dCons (dTup (dCons (dC (.str "badcells")) (dCons (dVar 11) dNil))) dNil))))) dNoArg))))))))))))))))))))
@[irreducible] def F_law : List Sl → Cr := runF 1 14 d_law
theorem F_law_eq : F_law = runF 1 14 d_law := by unfold F_law; rfl
structure Ad where
  f_whole_between : Addr
  d_whole_between : FuncData
  f_need_cells : Addr
  d_need_cells : FuncData
  f_round_bounds : Addr
  d_round_bounds : FuncData
  f_steps_row : Addr
  d_steps_row : FuncData
  f_least_stop : Addr
  d_least_stop : FuncData
  f_move_list : Addr
  d_move_list : FuncData
  f_is_up : Addr
  d_is_up : FuncData
  f_is_read : Addr
  d_is_read : FuncData
  f_check_moves : Addr
  d_check_moves : FuncData
  f__law_store : Addr
  d__law_store : FuncData
  f__law_mix : Addr
  d__law_mix : FuncData
  f__law_take : Addr
  d__law_take : FuncData
  f__law_edge : Addr
  d__law_edge : FuncData
  f__law_odds : Addr
  d__law_odds : FuncData
  f__law_pick : Addr
  d__law_pick : FuncData
  f__law_length : Addr
  d__law_length : FuncData
  f__law_cellcount : Addr
  d__law_cellcount : FuncData
  f__law_badcells : Addr
  d__law_badcells : FuncData
  f__law_moves : Addr
  d__law_moves : FuncData
  f__law_isint : Addr
  d__law_isint : FuncData
  f__law_moveshape : Addr
  d__law_moveshape : FuncData
  f__law_play : Addr
  d__law_play : FuncData
  f__law_leastups : Addr
  d__law_leastups : FuncData
  f__law_same : Addr
  d__law_same : FuncData
  f__law_movesbent : Addr
  d__law_movesbent : FuncData
  f__law_kinds : Addr
  d__law_kinds : FuncData
  f__law_clean : Addr
  d__law_clean : FuncData
  f__law_leasttable : Addr
  d__law_leasttable : FuncData
  f__law_stopof : Addr
  d__law_stopof : FuncData
  f__law_listof : Addr
  d__law_listof : FuncData
  f__law_refusal : Addr
  d__law_refusal : FuncData
  f__law_said : Addr
  d__law_said : FuncData
  f__law_playsright : Addr
  d__law_playsright : FuncData
  f__law_listright : Addr
  d__law_listright : FuncData
  f_law : Addr
  d_law : FuncData
  c_VaultError : Addr
  c_NumberError : Addr
  c_TextError : Addr
  c_ShapeError : Addr
  c_PlanError : Addr
  c_CourseError : Addr
  c_KnowError : Addr
  c_PaperError : Addr
  c_TooMany : Addr
  c_BadPrime : Addr
  c_NoInverse : Addr
  c_NoNumber : Addr
  c_BadTable : Addr
  c_BadCells : Addr
  c_BadStep : Addr
  c_BadBlind : Addr
  c_BadMove : Addr
  c_NotShut : Addr
  c_NotOpen : Addr
  c_NotTheft : Addr
  c_NotPrice : Addr
structure Txt (P : Program) (w : World) (K : PySem.W.Frag) (mg : Str → Option Value) (base : Heap) (cA : Nat → Addr) (a : Ad) : Prop where
  F_whole_between : Fun K "whole_between" "whole_between" s_whole_between a.f_whole_between a.d_whole_between
  m_whole_between : mg "whole_between" = some (.ref a.f_whole_between)
  k_whole_between : PySem.W.keepIn K (.ref a.f_whole_between) = true
  b_whole_between : Binds K a.d_whole_between ["value", "low", "high"] []
  F_need_cells : Fun K "need_cells" "need_cells" s_need_cells a.f_need_cells a.d_need_cells
  m_need_cells : mg "need_cells" = some (.ref a.f_need_cells)
  k_need_cells : PySem.W.keepIn K (.ref a.f_need_cells) = true
  b_need_cells : Binds K a.d_need_cells ["cells"] []
  F_round_bounds : Fun K "round_bounds" "round_bounds" s_round_bounds a.f_round_bounds a.d_round_bounds
  m_round_bounds : mg "round_bounds" = some (.ref a.f_round_bounds)
  k_round_bounds : PySem.W.keepIn K (.ref a.f_round_bounds) = true
  b_round_bounds : Binds K a.d_round_bounds ["length", "cells"] []
  F_steps_row : Fun K "steps_row" "steps_row" s_steps_row a.f_steps_row a.d_steps_row
  m_steps_row : mg "steps_row" = some (.ref a.f_steps_row)
  k_steps_row : PySem.W.keepIn K (.ref a.f_steps_row) = true
  b_steps_row : Binds K a.d_steps_row ["length", "cells"] []
  F_least_stop : Fun K "least_stop" "least_stop" s_least_stop a.f_least_stop a.d_least_stop
  m_least_stop : mg "least_stop" = some (.ref a.f_least_stop)
  k_least_stop : PySem.W.keepIn K (.ref a.f_least_stop) = true
  b_least_stop : Binds K a.d_least_stop ["fewer", "same", "length"] []
  F_move_list : Fun K "move_list" "move_list" s_move_list a.f_move_list a.d_move_list
  m_move_list : mg "move_list" = some (.ref a.f_move_list)
  k_move_list : PySem.W.keepIn K (.ref a.f_move_list) = true
  b_move_list : Binds K a.d_move_list ["length", "cells"] []
  F_is_up : Fun K "is_up" "is_up" s_is_up a.f_is_up a.d_is_up
  m_is_up : mg "is_up" = some (.ref a.f_is_up)
  k_is_up : PySem.W.keepIn K (.ref a.f_is_up) = true
  b_is_up : Binds K a.d_is_up ["move", "cells"] []
  F_is_read : Fun K "is_read" "is_read" s_is_read a.f_is_read a.d_is_read
  m_is_read : mg "is_read" = some (.ref a.f_is_read)
  k_is_read : PySem.W.keepIn K (.ref a.f_is_read) = true
  b_is_read : Binds K a.d_is_read ["move", "cells"] []
  F_check_moves : Fun K "check_moves" "check_moves" s_check_moves a.f_check_moves a.d_check_moves
  m_check_moves : mg "check_moves" = some (.ref a.f_check_moves)
  k_check_moves : PySem.W.keepIn K (.ref a.f_check_moves) = true
  b_check_moves : Binds K a.d_check_moves ["length", "cells", "moves"] []
  F__law_store : Fun K "_law_store" "_law_store" s__law_store a.f__law_store a.d__law_store
  m__law_store : mg "_law_store" = some (.ref a.f__law_store)
  k__law_store : PySem.W.keepIn K (.ref a.f__law_store) = true
  b__law_store : Binds K a.d__law_store ["script"] []
  F__law_mix : Fun K "_law_mix" "_law_mix" s__law_mix a.f__law_mix a.d__law_mix
  m__law_mix : mg "_law_mix" = some (.ref a.f__law_mix)
  k__law_mix : PySem.W.keepIn K (.ref a.f__law_mix) = true
  b__law_mix : Binds K a.d__law_mix ["n", "k"] []
  F__law_take : Fun K "_law_take" "_law_take" s__law_take a.f__law_take a.d__law_take
  m__law_take : mg "_law_take" = some (.ref a.f__law_take)
  k__law_take : PySem.W.keepIn K (.ref a.f__law_take) = true
  b__law_take : Binds K a.d__law_take ["store", "many"] []
  F__law_edge : Fun K "_law_edge" "_law_edge" s__law_edge a.f__law_edge a.d__law_edge
  m__law_edge : mg "_law_edge" = some (.ref a.f__law_edge)
  k__law_edge : PySem.W.keepIn K (.ref a.f__law_edge) = true
  b__law_edge : Binds K a.d__law_edge ["store", "many"] []
  F__law_odds : Fun K "_law_odds" "_law_odds" s__law_odds a.f__law_odds a.d__law_odds
  m__law_odds : mg "_law_odds" = some (.ref a.f__law_odds)
  k__law_odds : PySem.W.keepIn K (.ref a.f__law_odds) = true
  b__law_odds : Binds K a.d__law_odds ["store", "many"] []
  F__law_pick : Fun K "_law_pick" "_law_pick" s__law_pick a.f__law_pick a.d__law_pick
  m__law_pick : mg "_law_pick" = some (.ref a.f__law_pick)
  k__law_pick : PySem.W.keepIn K (.ref a.f__law_pick) = true
  b__law_pick : Binds K a.d__law_pick ["store", "items"] []
  F__law_length : Fun K "_law_length" "_law_length" s__law_length a.f__law_length a.d__law_length
  m__law_length : mg "_law_length" = some (.ref a.f__law_length)
  k__law_length : PySem.W.keepIn K (.ref a.f__law_length) = true
  b__law_length : Binds K a.d__law_length ["store"] []
  F__law_cellcount : Fun K "_law_cellcount" "_law_cellcount" s__law_cellcount a.f__law_cellcount a.d__law_cellcount
  m__law_cellcount : mg "_law_cellcount" = some (.ref a.f__law_cellcount)
  k__law_cellcount : PySem.W.keepIn K (.ref a.f__law_cellcount) = true
  b__law_cellcount : Binds K a.d__law_cellcount ["store"] []
  F__law_badcells : Fun K "_law_badcells" "_law_badcells" s__law_badcells a.f__law_badcells a.d__law_badcells
  m__law_badcells : mg "_law_badcells" = some (.ref a.f__law_badcells)
  k__law_badcells : PySem.W.keepIn K (.ref a.f__law_badcells) = true
  b__law_badcells : Binds K a.d__law_badcells ["store"] []
  F__law_moves : Fun K "_law_moves" "_law_moves" s__law_moves a.f__law_moves a.d__law_moves
  m__law_moves : mg "_law_moves" = some (.ref a.f__law_moves)
  k__law_moves : PySem.W.keepIn K (.ref a.f__law_moves) = true
  b__law_moves : Binds K a.d__law_moves ["store", "n", "source", "first", "last"] []
  F__law_isint : Fun K "_law_isint" "_law_isint" s__law_isint a.f__law_isint a.d__law_isint
  m__law_isint : mg "_law_isint" = some (.ref a.f__law_isint)
  k__law_isint : PySem.W.keepIn K (.ref a.f__law_isint) = true
  b__law_isint : Binds K a.d__law_isint ["thing"] []
  F__law_moveshape : Fun K "_law_moveshape" "_law_moveshape" s__law_moveshape a.f__law_moveshape a.d__law_moveshape
  m__law_moveshape : mg "_law_moveshape" = some (.ref a.f__law_moveshape)
  k__law_moveshape : PySem.W.keepIn K (.ref a.f__law_moveshape) = true
  b__law_moveshape : Binds K a.d__law_moveshape ["move", "many"] []
  F__law_play : Fun K "_law_play" "_law_play" s__law_play a.f__law_play a.d__law_play
  m__law_play : mg "_law_play" = some (.ref a.f__law_play)
  k__law_play : PySem.W.keepIn K (.ref a.f__law_play) = true
  b__law_play : Binds K a.d__law_play ["n", "many", "moves"] []
  F__law_leastups : Fun K "_law_leastups" "_law_leastups" s__law_leastups a.f__law_leastups a.d__law_leastups
  m__law_leastups : mg "_law_leastups" = some (.ref a.f__law_leastups)
  k__law_leastups : PySem.W.keepIn K (.ref a.f__law_leastups) = true
  b__law_leastups : Binds K a.d__law_leastups ["n", "many"] []
  F__law_same : Fun K "_law_same" "_law_same" s__law_same a.f__law_same a.d__law_same
  m__law_same : mg "_law_same" = some (.ref a.f__law_same)
  k__law_same : PySem.W.keepIn K (.ref a.f__law_same) = true
  b__law_same : Binds K a.d__law_same ["one", "two"] []
  F__law_movesbent : Fun K "_law_movesbent" "_law_movesbent" s__law_movesbent a.f__law_movesbent a.d__law_movesbent
  m__law_movesbent : mg "_law_movesbent" = some (.ref a.f__law_movesbent)
  k__law_movesbent : PySem.W.keepIn K (.ref a.f__law_movesbent) = true
  b__law_movesbent : Binds K a.d__law_movesbent ["store", "moves", "many"] []
  F__law_kinds : Fun K "_law_kinds" "_law_kinds" s__law_kinds a.f__law_kinds a.d__law_kinds
  m__law_kinds : mg "_law_kinds" = some (.ref a.f__law_kinds)
  k__law_kinds : PySem.W.keepIn K (.ref a.f__law_kinds) = true
  b__law_kinds : Binds K a.d__law_kinds ["e"] []
  F__law_clean : Fun K "_law_clean" "_law_clean" s__law_clean a.f__law_clean a.d__law_clean
  m__law_clean : mg "_law_clean" = some (.ref a.f__law_clean)
  k__law_clean : PySem.W.keepIn K (.ref a.f__law_clean) = true
  b__law_clean : Binds K a.d__law_clean ["e", "base", "word"] []
  F__law_leasttable : Fun K "_law_leasttable" "_law_leasttable" s__law_leasttable a.f__law_leasttable a.d__law_leasttable
  m__law_leasttable : mg "_law_leasttable" = some (.ref a.f__law_leasttable)
  k__law_leasttable : PySem.W.keepIn K (.ref a.f__law_leasttable) = true
  b__law_leasttable : Binds K a.d__law_leasttable ["most", "many"] []
  F__law_stopof : Fun K "_law_stopof" "_law_stopof" s__law_stopof a.f__law_stopof a.d__law_stopof
  m__law_stopof : mg "_law_stopof" = some (.ref a.f__law_stopof)
  k__law_stopof : PySem.W.keepIn K (.ref a.f__law_stopof) = true
  b__law_stopof : Binds K a.d__law_stopof ["table", "n", "many"] []
  F__law_listof : Fun K "_law_listof" "_law_listof" s__law_listof a.f__law_listof a.d__law_listof
  m__law_listof : mg "_law_listof" = some (.ref a.f__law_listof)
  k__law_listof : PySem.W.keepIn K (.ref a.f__law_listof) = true
  b__law_listof : Binds K a.d__law_listof ["n", "many"] []
  F__law_refusal : Fun K "_law_refusal" "_law_refusal" s__law_refusal a.f__law_refusal a.d__law_refusal
  m__law_refusal : mg "_law_refusal" = some (.ref a.f__law_refusal)
  k__law_refusal : PySem.W.keepIn K (.ref a.f__law_refusal) = true
  b__law_refusal : Binds K a.d__law_refusal ["e"] []
  F__law_said : Fun K "_law_said" "_law_said" s__law_said a.f__law_said a.d__law_said
  m__law_said : mg "_law_said" = some (.ref a.f__law_said)
  k__law_said : PySem.W.keepIn K (.ref a.f__law_said) = true
  b__law_said : Binds K a.d__law_said ["n", "many", "moves"] []
  F__law_playsright : Fun K "_law_playsright" "_law_playsright" s__law_playsright a.f__law_playsright a.d__law_playsright
  m__law_playsright : mg "_law_playsright" = some (.ref a.f__law_playsright)
  k__law_playsright : PySem.W.keepIn K (.ref a.f__law_playsright) = true
  b__law_playsright : Binds K a.d__law_playsright ["n", "many", "moves"] []
  F__law_listright : Fun K "_law_listright" "_law_listright" s__law_listright a.f__law_listright a.d__law_listright
  m__law_listright : mg "_law_listright" = some (.ref a.f__law_listright)
  k__law_listright : PySem.W.keepIn K (.ref a.f__law_listright) = true
  b__law_listright : Binds K a.d__law_listright ["store", "n", "many"] []
  F_law : Fun K "law" "law" s_law a.f_law a.d_law
  m_law : mg "law" = some (.ref a.f_law)
  k_law : PySem.W.keepIn K (.ref a.f_law) = true
  b_law : Binds K a.d_law ["script"] []
  m_VaultError : mg "VaultError" = some (.ref a.c_VaultError)
  m_NumberError : mg "NumberError" = some (.ref a.c_NumberError)
  m_TextError : mg "TextError" = some (.ref a.c_TextError)
  m_ShapeError : mg "ShapeError" = some (.ref a.c_ShapeError)
  m_PlanError : mg "PlanError" = some (.ref a.c_PlanError)
  m_CourseError : mg "CourseError" = some (.ref a.c_CourseError)
  m_KnowError : mg "KnowError" = some (.ref a.c_KnowError)
  m_PaperError : mg "PaperError" = some (.ref a.c_PaperError)
  m_TooMany : mg "TooMany" = some (.ref a.c_TooMany)
  m_BadPrime : mg "BadPrime" = some (.ref a.c_BadPrime)
  m_NoInverse : mg "NoInverse" = some (.ref a.c_NoInverse)
  m_NoNumber : mg "NoNumber" = some (.ref a.c_NoNumber)
  m_BadTable : mg "BadTable" = some (.ref a.c_BadTable)
  m_BadCells : mg "BadCells" = some (.ref a.c_BadCells)
  m_BadStep : mg "BadStep" = some (.ref a.c_BadStep)
  m_BadBlind : mg "BadBlind" = some (.ref a.c_BadBlind)
  m_BadMove : mg "BadMove" = some (.ref a.c_BadMove)
  m_NotShut : mg "NotShut" = some (.ref a.c_NotShut)
  m_NotOpen : mg "NotOpen" = some (.ref a.c_NotOpen)
  m_NotTheft : mg "NotTheft" = some (.ref a.c_NotTheft)
  m_NotPrice : mg "NotPrice" = some (.ref a.c_NotPrice)
  c_BadCells : cA 0 = a.c_BadCells
  x_BadCells : ExK P w K mg base "BadCells" a.c_BadCells "badcells" ["cells"]
  c_BadMove : cA 1 = a.c_BadMove
  x_BadMove : ExK P w K mg base "BadMove" a.c_BadMove "badmove" ["at"]
  n_ValueError : mg "ValueError" = none
  n_abs : mg "abs" = none
  n_bool : mg "bool" = none
  n_dict : mg "dict" = none
  n_enumerate : mg "enumerate" = none
  n_int : mg "int" = none
  n_isinstance : mg "isinstance" = none
  n_len : mg "len" = none
  n_list : mg "list" = none
  n_max : mg "max" = none
  n_min : mg "min" = none
  n_range : mg "range" = none
  n_repr : mg "repr" = none
  n_str : mg "str" = none
  n_tuple : mg "tuple" = none
  s_NotPrice : ∀ c b, sub_NotPrice c = some b → ExcC K (cA c) ∧ PySem.W.kitOne K (.ref (cA c)) (.ref a.c_NotPrice) = some b
  s_NotTheft : ∀ c b, sub_NotTheft c = some b → ExcC K (cA c) ∧ PySem.W.kitOne K (.ref (cA c)) (.ref a.c_NotTheft) = some b
  s_NotOpen : ∀ c b, sub_NotOpen c = some b → ExcC K (cA c) ∧ PySem.W.kitOne K (.ref (cA c)) (.ref a.c_NotOpen) = some b
  s_NotShut : ∀ c b, sub_NotShut c = some b → ExcC K (cA c) ∧ PySem.W.kitOne K (.ref (cA c)) (.ref a.c_NotShut) = some b
  s_BadMove : ∀ c b, sub_BadMove c = some b → ExcC K (cA c) ∧ PySem.W.kitOne K (.ref (cA c)) (.ref a.c_BadMove) = some b
  s_BadBlind : ∀ c b, sub_BadBlind c = some b → ExcC K (cA c) ∧ PySem.W.kitOne K (.ref (cA c)) (.ref a.c_BadBlind) = some b
  s_BadStep : ∀ c b, sub_BadStep c = some b → ExcC K (cA c) ∧ PySem.W.kitOne K (.ref (cA c)) (.ref a.c_BadStep) = some b
  s_BadCells : ∀ c b, sub_BadCells c = some b → ExcC K (cA c) ∧ PySem.W.kitOne K (.ref (cA c)) (.ref a.c_BadCells) = some b
  s_BadTable : ∀ c b, sub_BadTable c = some b → ExcC K (cA c) ∧ PySem.W.kitOne K (.ref (cA c)) (.ref a.c_BadTable) = some b
  s_NoNumber : ∀ c b, sub_NoNumber c = some b → ExcC K (cA c) ∧ PySem.W.kitOne K (.ref (cA c)) (.ref a.c_NoNumber) = some b
  s_NoInverse : ∀ c b, sub_NoInverse c = some b → ExcC K (cA c) ∧ PySem.W.kitOne K (.ref (cA c)) (.ref a.c_NoInverse) = some b
  s_BadPrime : ∀ c b, sub_BadPrime c = some b → ExcC K (cA c) ∧ PySem.W.kitOne K (.ref (cA c)) (.ref a.c_BadPrime) = some b
  s_TooMany : ∀ c b, sub_TooMany c = some b → ExcC K (cA c) ∧ PySem.W.kitOne K (.ref (cA c)) (.ref a.c_TooMany) = some b
  s_PaperError : ∀ c b, sub_PaperError c = some b → ExcC K (cA c) ∧ PySem.W.kitOne K (.ref (cA c)) (.ref a.c_PaperError) = some b
  s_KnowError : ∀ c b, sub_KnowError c = some b → ExcC K (cA c) ∧ PySem.W.kitOne K (.ref (cA c)) (.ref a.c_KnowError) = some b
  s_CourseError : ∀ c b, sub_CourseError c = some b → ExcC K (cA c) ∧ PySem.W.kitOne K (.ref (cA c)) (.ref a.c_CourseError) = some b
  s_PlanError : ∀ c b, sub_PlanError c = some b → ExcC K (cA c) ∧ PySem.W.kitOne K (.ref (cA c)) (.ref a.c_PlanError) = some b
  s_ShapeError : ∀ c b, sub_ShapeError c = some b → ExcC K (cA c) ∧ PySem.W.kitOne K (.ref (cA c)) (.ref a.c_ShapeError) = some b
  s_TextError : ∀ c b, sub_TextError c = some b → ExcC K (cA c) ∧ PySem.W.kitOne K (.ref (cA c)) (.ref a.c_TextError) = some b
  s_NumberError : ∀ c b, sub_NumberError c = some b → ExcC K (cA c) ∧ PySem.W.kitOne K (.ref (cA c)) (.ref a.c_NumberError) = some b
  s_ValueError : ∀ c b, sub_ValueError c = some b → ExcC K (cA c) ∧ PySem.W.kitOne K (.ref (cA c)) (.type "ValueError") = some b
  t_VaultError : ∀ c b, cat_VaultError c = some b → PySem.W.exmOne K (.ref (cA c)) (.ref a.c_VaultError) = some b
  k_fld_word : ∀ c, knows_word c = true → XfC K (cA c) ∧ PySem.W.findIn K (.ref (cA c)) "word" = some none
  k_fld_cells : ∀ c, knows_cells c = true → XfC K (cA c) ∧ PySem.W.findIn K (.ref (cA c)) "cells" = some none
  k_fld_at : ∀ c, knows_at c = true → XfC K (cA c) ∧ PySem.W.findIn K (.ref (cA c)) "at" = some none
section
variable {P : Program} {w : World} {K : PySem.W.Frag} {mg : Str → Option Value} {base : Heap} {cA : Nat → Addr} {a : Ad}
theorem ok_whole_between (T : Txt P w K mg base cA a) : FnG P w K mg base cA false 1 a.f_whole_between a.d_whole_between ["value", "low", "high"] F_whole_between := by
  rw [F_whole_between_eq]
  refine fn_g (N := N_whole_between) (k := 0) T.F_whole_between sc_whole_between fun Z cdv A outer s H E hz C => ?_
  obtain rfl : Z = none := hz.resolve_right Bool.false_ne_true
  exact (oss_cons (os_if ((ow_or (ot_val (o_isi .bool (by rfl) T.n_isinstance boot_isinstance (o_var 0) (by rfl) T.n_bool boot_bool)) (ow_or1 (ot_not (ot_val (o_isi .int (by rfl) T.n_isinstance boot_isinstance (o_var 0) (by rfl) T.n_int boot_int)))))).pt (oss_one (os_ret o_bl)) oss_nil)
    (oss_one (os_ret (o_chain op_le op_le ok_le ok_le (o_var 1) (o_var 0) (o_var 2)))))
theorem ok_need_cells (T : Txt P w K mg base cA a) : FnG P w K mg base cA false 3 a.f_need_cells a.d_need_cells ["cells"] F_need_cells := by
  rw [F_need_cells_eq]
  refine fn_g (N := N_need_cells) (k := 2) T.F_need_cells sc_need_cells fun Z cdv A outer s H E hz C => ?_
  obtain rfl : Z = none := hz.resolve_right Bool.false_ne_true
  exact (oss_cons (os_if ((ow_or (ot_val (o_isi .bool (by rfl) T.n_isinstance boot_isinstance (o_var 0) (by rfl) T.n_bool boot_bool)) (ow_or (ot_not (ot_val (o_isi .int (by rfl) T.n_isinstance boot_isinstance (o_var 0) (by rfl) T.n_int boot_int))) (ow_or1 (ot_cmp op_lt ok_lt (o_var 0) o_int (nomark _)))))).pt (oss_one (os_raise C (by decide) rfl (T.c_BadCells) T.x_BadCells (by rfl) (oa_cons (o_var 0) oa_nil))) oss_nil)
    (oss_one (os_ret (o_var 0))))
theorem ok_round_bounds (T : Txt P w K mg base cA a) : FnG P w K mg base cA false 1 a.f_round_bounds a.d_round_bounds ["length", "cells"] F_round_bounds := by
  rw [F_round_bounds_eq]
  refine fn_g (N := N_round_bounds) (k := 0) T.F_round_bounds sc_round_bounds fun Z cdv A outer s H E hz C => ?_
  obtain rfl : Z = none := hz.resolve_right Bool.false_ne_true
  exact (oss_cons (os_setO C.nd 2 (on_lst oa_nil))
    (oss_cons (os_set C.nd 3 o_int)
    (oss_cons (os_set C.nd 4 o_int)
    (oss_cons (os_while 1000 C.po (ot_cmp op_le ok_le (o_var 3) (o_var 0) (nomark _)) (oss_cons (os_appd 2 (o_var 3))
    (oss_cons (os_aug C.nd 4 iop_add ok_addI o_int)
    (oss_one (os_set C.nd 3 (o_op op_fdivW ok_fdiv (o_op op_mulU ok_mul (o_var 3) (o_op op_addU ok_add (o_var 1) (o_var 4))) (o_var 4)))))))
    (oss_one (os_retV 2))))))
theorem ok_steps_row (T : Txt P w K mg base cA a) : FnG P w K mg base cA false 2 a.f_steps_row a.d_steps_row ["length", "cells"] F_steps_row := by
  rw [F_steps_row_eq]
  refine fn_g (N := N_steps_row) (k := 1) T.F_steps_row sc_steps_row fun Z cdv A outer s H E hz C => ?_
  obtain rfl : Z = none := hz.resolve_right Bool.false_ne_true
  exact (oss_cons (os_setO C.nd 2 (on_lst (oa_cons o_int oa_nil)))
    (oss_cons (os_if (ot_cmp (op_eqU C.un) ok_eq (o_var 1) o_int (nomark _)) (oss_one (os_retV 2)) oss_nil)
    (oss_cons (os_set C.nd 3 (o_ofC (oc_call C (ok_round_bounds T) (by decide) (.inl rfl) (by rfl) T.m_round_bounds T.k_round_bounds T.b_round_bounds (or_cons (o_var 0) (or_cons (o_var 1) or_nil)))))
    (oss_cons (os_set C.nd 4 o_int)
    (oss_cons (os_forG C (oj_range2 (by rfl) T.n_range (oa_cons o_int (oa_cons (o_op op_addU ok_add (o_var 0) o_int) oa_nil))) (og_name C.nd 5) (oss_cons (os_while 1000 C.po ((ow_and (ot_cmp op_lt ok_lt (o_var 4) (o_len (by rfl) T.n_len boot_len (oa_cons (o_var 3) oa_nil)) (nomark _)) (ow_and1 (ot_cmp op_le ok_le (o_ix C.un (o_var 3) (o_var 4)) (o_var 5) (nomark _))))).pt (oss_one (os_aug C.nd 4 iop_add ok_addI o_int)))
    (oss_one (os_appd 2 (o_op op_addU ok_add (o_ixS 2 (o_op op_sub ok_sub (o_var 5) o_int)) (o_var 4))))))
    (oss_one (os_retV 2)))))))
theorem ok_least_stop (T : Txt P w K mg base cA a) : FnG P w K mg base cA false 1 a.f_least_stop a.d_least_stop ["fewer", "same", "length"] F_least_stop := by
  rw [F_least_stop_eq]
  refine fn_g (N := N_least_stop) (k := 0) T.F_least_stop sc_least_stop fun Z cdv A outer s H E hz C => ?_
  obtain rfl : Z = none := hz.resolve_right Bool.false_ne_true
  exact (oss_cons (os_forG C (oj_range2 (by rfl) T.n_range (oa_cons o_int (oa_cons (o_var 2) oa_nil))) (og_name C.nd 3) (oss_cons (os_set C.nd 4 (o_op op_sub ok_sub (o_var 2) (o_var 3)))
    (oss_one (os_if ((ow_and (ot_cmp op_lt ok_lt (o_var 4) (o_len (by rfl) T.n_len boot_len (oa_cons (o_var 0) oa_nil)) (nomark _)) (ow_and1 (ot_cmp (op_eqU C.un) ok_eq (o_op op_addU ok_add (o_op op_addU ok_add (o_var 3) (o_ix C.un (o_var 0) (o_var 4))) (o_ix C.un (o_var 1) (o_op op_sub ok_sub (o_var 3) o_int))) (o_ix C.un (o_var 1) (o_var 2)) (nomark _))))).pt (oss_one (os_ret (o_var 3))) oss_nil))))
    (oss_one (os_ret (o_var 2))))
theorem ok_move_list (T : Txt P w K mg base cA a) : FnG P w K mg base cA false 4 a.f_move_list a.d_move_list ["length", "cells"] F_move_list := by
  rw [F_move_list_eq]
  refine fn_g (N := N_move_list) (k := 3) T.F_move_list sc_move_list fun Z cdv A outer s H E hz C => ?_
  obtain rfl : Z = none := hz.resolve_right Bool.false_ne_true
  exact (oss_cons (os_expr (o_ofC (oc_call C (ok_need_cells T) (by decide) (.inl rfl) (by rfl) T.m_need_cells T.k_need_cells T.b_need_cells (or_cons (o_var 1) or_nil))))
    (oss_cons (os_setLcG 2 (own := [("few", 5)]) C (oj_range1 (by rfl) T.n_range (oa_cons (o_op op_addU ok_add (o_var 1) o_int) oa_nil)) (by exact blkOk_by (N := N_move_list) (sc := defScope s_move_list) (by decide +kernel)) (by decide) (fun _ _ _ _ _ => (og_name (C.blk _ _ _ _).nd 5)) (fun _ _ _ _ _ => ots_nil) (fun _ _ _ _ _ => (o_ofC (oc_call (C.blk _ _ _ _) (ok_steps_row T) (by decide) (.inl rfl) (by rfl) T.m_steps_row T.k_steps_row T.b_steps_row (or_cons (o_var 0) (or_cons (o_var 5) or_nil))))) rfl)
    (oss_cons (os_setO C.nd 3 (on_lst oa_nil))
    (oss_cons (os_setO C.nd 4 (on_lst (oa_cons (o_tup (oa_cons (o_var 0) (oa_cons o_int (oa_cons o_int (oa_cons o_bl oa_nil))))) oa_nil)))
    (oss_cons (os_while 1000 C.po (ot_cmp op_gt ok_gt (o_lenS 4 (by rfl) T.n_len boot_len) o_int (nomark _)) (oss_cons (os_asg (o_meth0 4 PySem.F.plainAttrs_list PySem.F.slot_list_pop PySem.F.type_list_pop mt_pop ok_pop tyO_list) (og_tup (C.calm rfl) (ogs_cons (og_name C.nd 6) (ogs_cons (og_name C.nd 7) (ogs_cons (og_name C.nd 8) (ogs_cons (og_name C.nd 9) ogs_nil))))))
    (oss_cons (os_if (ot_tru (o_var 9)) (oss_one (os_appd 3 (o_tup (oa_cons o_str (oa_cons (o_var 8) oa_nil))))) oss_nil)
    (oss_one (os_if (ot_cmp op_ge ok_ge (o_var 6) o_int (nomark _)) (oss_cons (os_set C.nd 10 (o_op op_addU ok_add (o_op op_sub ok_sub (o_var 1) (o_var 8)) o_int))
    (oss_cons (os_set C.nd 11 (o_ofC (oc_call C (ok_least_stop T) (by decide) (.inl rfl) (by rfl) T.m_least_stop T.k_least_stop T.b_least_stop (or_cons (o_ix C.un (o_var 2) (o_op op_sub ok_sub (o_var 10) o_int)) (or_cons (o_ix C.un (o_var 2) (o_var 10)) (or_cons (o_var 6) or_nil))))))
    (oss_cons (os_appd 3 (o_tup (oa_cons o_str (oa_cons (o_var 7) (oa_cons (o_var 8) oa_nil)))))
    (oss_cons (os_forG C (oj_range1 (by rfl) T.n_range (oa_cons (o_op op_sub ok_sub (o_var 11) o_int) oa_nil)) (og_name C.nd 12) (oss_one (os_appd 3 (o_tup (oa_cons o_str (oa_cons (o_var 8) (oa_cons (o_var 8) oa_nil)))))))
    (oss_cons (os_appd 4 (o_tup (oa_cons (o_op op_sub ok_sub (o_var 11) o_int) (oa_cons (o_var 7) (oa_cons (o_var 8) (oa_cons o_bl oa_nil))))))
    (oss_one (os_appd 4 (o_tup (oa_cons (o_op op_sub ok_sub (o_var 6) (o_var 11)) (oa_cons (o_var 8) (oa_cons (o_op op_addU ok_add (o_var 8) o_int) (oa_cons o_bl oa_nil)))))))))))) oss_nil)))))
    (oss_one (os_retV 3)))))))
theorem ok_is_up (T : Txt P w K mg base cA a) : FnG P w K mg base cA false 2 a.f_is_up a.d_is_up ["move", "cells"] F_is_up := by
  rw [F_is_up_eq]
  refine fn_g (N := N_is_up) (k := 1) T.F_is_up sc_is_up fun Z cdv A outer s H E hz C => ?_
  obtain rfl : Z = none := hz.resolve_right Bool.false_ne_true
  exact (oss_cons (os_if ((ow_or (ot_not (ot_val (o_isi .tuple (by rfl) T.n_isinstance boot_isinstance (o_var 0) (by rfl) T.n_tuple boot_tuple))) (ow_or (ot_cmp (op_neU C.un) ok_ne (o_len (by rfl) T.n_len boot_len (oa_cons (o_var 0) oa_nil)) o_int (nomark _)) (ow_or1 (ot_cmp (op_neU C.un) ok_ne (o_ix C.un (o_var 0) o_int) o_str (nomark _)))))).pt (oss_one (os_ret o_bl)) oss_nil)
    (oss_one (os_ret (o_and (o_ofC (oc_call C (ok_whole_between T) (by decide) (.inl rfl) (by rfl) T.m_whole_between T.k_whole_between T.b_whole_between (or_cons (o_ix C.un (o_var 0) o_int) (or_cons o_int (or_cons (o_var 1) or_nil))))) (o_one (o_ofC (oc_call C (ok_whole_between T) (by decide) (.inl rfl) (by rfl) T.m_whole_between T.k_whole_between T.b_whole_between (or_cons (o_ix C.un (o_var 0) o_int) (or_cons o_int (or_cons (o_var 1) or_nil))))))))))
theorem ok_is_read (T : Txt P w K mg base cA a) : FnG P w K mg base cA false 2 a.f_is_read a.d_is_read ["move", "cells"] F_is_read := by
  rw [F_is_read_eq]
  refine fn_g (N := N_is_read) (k := 1) T.F_is_read sc_is_read fun Z cdv A outer s H E hz C => ?_
  obtain rfl : Z = none := hz.resolve_right Bool.false_ne_true
  exact (oss_cons (os_if ((ow_or (ot_not (ot_val (o_isi .tuple (by rfl) T.n_isinstance boot_isinstance (o_var 0) (by rfl) T.n_tuple boot_tuple))) (ow_or (ot_cmp (op_neU C.un) ok_ne (o_len (by rfl) T.n_len boot_len (oa_cons (o_var 0) oa_nil)) o_int (nomark _)) (ow_or1 (ot_cmp (op_neU C.un) ok_ne (o_ix C.un (o_var 0) o_int) o_str (nomark _)))))).pt (oss_one (os_ret o_bl)) oss_nil)
    (oss_one (os_retR (oc_call C (ok_whole_between T) (by decide) (.inl rfl) (by rfl) T.m_whole_between T.k_whole_between T.b_whole_between (or_cons (o_ix C.un (o_var 0) o_int) (or_cons o_int (or_cons (o_var 1) or_nil)))))))
theorem ok_check_moves (T : Txt P w K mg base cA a) : FnG P w K mg base cA false 4 a.f_check_moves a.d_check_moves ["length", "cells", "moves"] F_check_moves := by
  rw [F_check_moves_eq]
  refine fn_g (N := N_check_moves) (k := 3) T.F_check_moves sc_check_moves fun Z cdv A outer s H E hz C => ?_
  obtain rfl : Z = none := hz.resolve_right Bool.false_ne_true
  exact (oss_cons (os_expr (o_ofC (oc_call C (ok_need_cells T) (by decide) (.inl rfl) (by rfl) T.m_need_cells T.k_need_cells T.b_need_cells (or_cons (o_var 1) or_nil))))
    (oss_cons (os_setR C.nd 3 (oc_n (on_dct (l := [((dC (.int 0)), (dC (.int 0)))]) (pps_cons o_int o_int pps_nil))))
    (oss_cons (os_set C.nd 4 (o_var 0))
    (oss_cons (os_set C.nd 5 o_int)
    (oss_cons (os_forG C (oj_of (C.calm rfl) (oi_enum (by rfl) T.n_enumerate (oa_cons (o_var 2) oa_nil))) (og_tup (C.calm rfl) (ogs_cons (og_name C.nd 6) (ogs_cons (og_name C.nd 7) ogs_nil))) (oss_cons (os_if (ot_cmp (op_eqU C.un) ok_eq (o_var 4) o_int (nomark _)) (oss_one (os_raise C (by decide) rfl (T.c_BadMove) T.x_BadMove (by rfl) (oa_cons (o_var 6) oa_nil))) oss_nil)
    (oss_one (os_if (ot_val (o_ofC (oc_call C (ok_is_up T) (by decide) (.inl rfl) (by rfl) T.m_is_up T.k_is_up T.b_is_up (or_cons (o_var 7) (or_cons (o_var 1) or_nil))))) (oss_cons (os_set C.nd 8 (o_get2S C.un 3 (o_ix C.un (o_var 7) o_int) (o_var 0)))
    (oss_cons (os_if (ot_cmp (op_eqU C.un) ok_eq (o_var 8) (o_var 0) (nomark _)) (oss_one (os_raise C (by decide) rfl (T.c_BadMove) T.x_BadMove (by rfl) (oa_cons (o_var 6) oa_nil))) oss_nil)
    (oss_cons (os_setK C.un 3 (o_op op_addU ok_add (o_var 8) o_int) (o_ix C.un (o_var 7) o_int))
    (oss_one (os_aug C.nd 5 iop_add ok_addI o_int))))) (oss_one (os_if (ot_val (o_ofC (oc_call C (ok_is_read T) (by decide) (.inl rfl) (by rfl) T.m_is_read T.k_is_read T.b_is_read (or_cons (o_var 7) (or_cons (o_var 1) or_nil))))) (oss_cons (os_if (ot_cmp (op_neU C.un) ok_ne (o_get2S C.un 3 (o_ix C.un (o_var 7) o_int) o_int) (o_var 4) (nomark _)) (oss_one (os_raise C (by decide) rfl (T.c_BadMove) T.x_BadMove (by rfl) (oa_cons (o_var 6) oa_nil))) oss_nil)
    (oss_one (os_aug C.nd 4 iop_sub ok_sub o_int))) (oss_one (os_raise C (by decide) rfl (T.c_BadMove) T.x_BadMove (by rfl) (oa_cons (o_var 6) oa_nil)))))))))
    (oss_cons (os_if (ot_cmp op_gt ok_gt (o_var 4) o_int (nomark _)) (oss_one (os_raise C (by decide) rfl (T.c_BadMove) T.x_BadMove (by rfl) (oa_cons (o_len (by rfl) T.n_len boot_len (oa_cons (o_var 2) oa_nil)) oa_nil))) oss_nil)
    (oss_one (os_ret (o_var 5)))))))))
theorem ok__law_store (T : Txt P w K mg base cA a) : FnG P w K mg base cA false 1 a.f__law_store a.d__law_store ["script"] F__law_store := by
  rw [F__law_store_eq]
  refine fn_g (N := N__law_store) (k := 0) T.F__law_store sc__law_store fun Z cdv A outer s H E hz C => ?_
  obtain rfl : Z = none := hz.resolve_right Bool.false_ne_true
  exact (oss_cons (os_set C.nd 1 o_int)
    (oss_cons (os_forG C (oj_list (o_slice (o_var 0) op_none (op_some o_int))) (og_name C.nd 2) (oss_one (os_set C.nd 1 (o_op op_mod ok_mod (o_op op_addU ok_add (o_op op_addU ok_add (o_op op_addU ok_add (o_op op_mulU ok_mul (o_var 1) o_int) (o_op op_mulU ok_mul (o_callB call_abs ok_abs (by rfl) T.n_abs boot_abs (oa_cons (o_callTy call_int1 ok_int1 (by rfl) T.n_int boot_int (oa_cons (o_var 2) oa_nil)) oa_nil)) o_int)) (o_callTy call_int1 ok_int1 (by rfl) T.n_int boot_int (oa_cons (o_cmp op_lt ok_lt (o_callTy call_int1 ok_int1 (by rfl) T.n_int boot_int (oa_cons (o_var 2) oa_nil)) o_int (nomark _)) oa_nil))) o_int) o_int))))
    (oss_one (os_retO (on_lst (oa_cons (o_ofN (on_lcG (own := [("cell", 2)]) C (oj_list (o_slice (o_var 0) op_none (op_some o_int))) (by exact blkOk_by (N := N__law_store) (sc := defScope s__law_store) (by decide +kernel)) (by decide) (fun _ _ _ _ _ => (og_name (C.blk _ _ _ _).nd 2)) (fun _ _ _ _ _ => ots_nil) (fun _ _ _ _ _ => (o_callTy call_int1 ok_int1 (by rfl) T.n_int boot_int (oa_cons (o_var 2) oa_nil))))) (oa_cons o_int (oa_cons o_int (oa_cons o_int (oa_cons o_int (oa_cons o_int (oa_cons (o_var 1) oa_nil))))))))))))
theorem ok__law_mix (T : Txt P w K mg base cA a) : FnG P w K mg base cA false 1 a.f__law_mix a.d__law_mix ["n", "k"] F__law_mix := by
  rw [F__law_mix_eq]
  refine fn_g (N := N__law_mix) (k := 0) T.F__law_mix sc__law_mix fun Z cdv A outer s H E hz C => ?_
  obtain rfl : Z = none := hz.resolve_right Bool.false_ne_true
  exact (oss_cons (os_set C.nd 2 (o_op op_mod ok_mod (o_op op_addU ok_add (o_op op_addU ok_add (o_op op_mulU ok_mul (o_callTy call_int1 ok_int1 (by rfl) T.n_int boot_int (oa_cons (o_var 0) oa_nil)) o_int) (o_op op_mulU ok_mul (o_callTy call_int1 ok_int1 (by rfl) T.n_int boot_int (oa_cons (o_var 1) oa_nil)) o_int)) o_int) o_int))
    (oss_cons (os_set C.nd 2 (o_op op_mod ok_mod (o_op op_addU ok_add (o_op op_addU ok_add (o_op op_mulU ok_mul (o_var 2) (o_var 2)) (o_op op_mulU ok_mul (o_callTy call_int1 ok_int1 (by rfl) T.n_int boot_int (oa_cons (o_var 1) oa_nil)) o_int)) o_int) o_int))
    (oss_cons (os_set C.nd 2 (o_op op_mod ok_mod (o_op op_addU ok_add (o_op op_addU ok_add (o_op op_mulU ok_mul (o_var 2) (o_var 2)) (o_op op_mulU ok_mul (o_op op_mod ok_mod (o_callTy call_int1 ok_int1 (by rfl) T.n_int boot_int (oa_cons (o_var 0) oa_nil)) o_int) o_int)) (o_op op_fdivW ok_fdiv (o_var 2) o_int)) o_int))
    (oss_one (os_ret (o_op op_fdivW ok_fdiv (o_var 2) o_int))))))
theorem ok__law_take (T : Txt P w K mg base cA a) : FnG P w K mg base cA false 2 a.f__law_take a.d__law_take ["store", "many"] F__law_take := by
  rw [F__law_take_eq]
  refine fn_g (N := N__law_take) (k := 1) T.F__law_take sc__law_take fun Z cdv A outer s H E hz C => ?_
  obtain rfl : Z = none := hz.resolve_right Bool.false_ne_true
  exact (oss_cons (os_set C.nd 1 (o_callB (call_max2 (C.calm rfl)) ok_max2 (by rfl) T.n_max boot_max (oa_cons o_int (oa_cons (o_callTy call_int1 ok_int1 (by rfl) T.n_int boot_int (oa_cons (o_var 1) oa_nil)) oa_nil))))
    (oss_cons (os_setLL 0 (o_op op_addU ok_add (o_callTy call_int1 ok_int1 (by rfl) T.n_int boot_int (oa_cons (o_ixS 0 o_int) oa_nil)) o_int) o_int)
    (oss_cons (os_if ((ow_and (ot_cmp (op_eqU C.un) ok_eq (o_callTy call_int1 ok_int1 (by rfl) T.n_int boot_int (oa_cons (o_ixS 0 o_int) oa_nil)) o_int (nomark _)) (ow_and (ot_cmp (op_eqU C.un) ok_eq (o_callTy call_int1 ok_int1 (by rfl) T.n_int boot_int (oa_cons (o_ixS 0 o_int) oa_nil)) o_int (nomark _)) (ow_and1 (ot_cmp op_lt ok_lt (o_callTy call_int1 ok_int1 (by rfl) T.n_int boot_int (oa_cons (o_ixS 0 o_int) oa_nil)) (o_len (by rfl) T.n_len boot_len (oa_cons (o_ixS 0 o_int) oa_nil)) (nomark _)))))).pt (oss_cons (os_set C.nd 2 (o_callTy call_int1 ok_int1 (by rfl) T.n_int boot_int (oa_cons (o_ix C.un (o_ixS 0 o_int) (o_ixS 0 o_int)) oa_nil)))
    (oss_cons (os_setLL 0 (o_op op_addU ok_add (o_callTy call_int1 ok_int1 (by rfl) T.n_int boot_int (oa_cons (o_ixS 0 o_int) oa_nil)) o_int) o_int)
    (oss_one (os_if (ot_cmp op_ge ok_ge (o_callB call_abs ok_abs (by rfl) T.n_abs boot_abs (oa_cons (o_var 2) oa_nil)) (o_op op_pow ok_pow o_int o_int) (nomark _)) (oss_one (os_setLL 0 (o_callB call_abs ok_abs (by rfl) T.n_abs boot_abs (oa_cons (o_var 2) oa_nil)) o_int)) (oss_cons (os_setLL 0 o_int o_int)
    (oss_one (os_setLL 0 (o_op op_addU ok_add (o_op op_mulU ok_mul (o_callB call_abs ok_abs (by rfl) T.n_abs boot_abs (oa_cons (o_var 2) oa_nil)) o_int) (o_callTy call_int1 ok_int1 (by rfl) T.n_int boot_int (oa_cons (o_cmp op_lt ok_lt (o_var 2) o_int (nomark _)) oa_nil))) o_int))))))) oss_nil)
    (oss_cons (os_if (ot_cmp op_gt ok_gt (o_callTy call_int1 ok_int1 (by rfl) T.n_int boot_int (oa_cons (o_ixS 0 o_int) oa_nil)) o_int (nomark _)) (oss_cons (os_set C.nd 3 (o_op op_mod ok_mod (o_callTy call_int1 ok_int1 (by rfl) T.n_int boot_int (oa_cons (o_ixS 0 o_int) oa_nil)) (o_var 1)))
    (oss_cons (os_setLL 0 (o_op op_fdivW ok_fdiv (o_callTy call_int1 ok_int1 (by rfl) T.n_int boot_int (oa_cons (o_ixS 0 o_int) oa_nil)) (o_var 1)) o_int)
    (oss_one (os_ret (o_var 3))))) oss_nil)
    (oss_cons (os_if (ot_cmp op_gt ok_gt (o_callTy call_int1 ok_int1 (by rfl) T.n_int boot_int (oa_cons (o_ixS 0 o_int) oa_nil)) o_int (nomark _)) (oss_cons (os_setLL 0 (o_op op_sub ok_sub (o_callTy call_int1 ok_int1 (by rfl) T.n_int boot_int (oa_cons (o_ixS 0 o_int) oa_nil)) o_int) o_int)
    (oss_one (os_ret (o_op op_mod ok_mod (o_ofC (oc_call C (ok__law_mix T) (by decide) (.inl rfl) (by rfl) T.m__law_mix T.k__law_mix T.b__law_mix (or_cons (o_callTy call_int1 ok_int1 (by rfl) T.n_int boot_int (oa_cons (o_ixS 0 o_int) oa_nil)) (or_cons (o_callTy call_int1 ok_int1 (by rfl) T.n_int boot_int (oa_cons (o_ixS 0 o_int) oa_nil)) or_nil)))) (o_var 1))))) oss_nil)
    (oss_one (os_ret (o_op op_mod ok_mod (o_ofC (oc_call C (ok__law_mix T) (by decide) (.inl rfl) (by rfl) T.m__law_mix T.k__law_mix T.b__law_mix (or_cons (o_callTy call_int1 ok_int1 (by rfl) T.n_int boot_int (oa_cons (o_ixS 0 o_int) oa_nil)) (or_cons (o_callTy call_int1 ok_int1 (by rfl) T.n_int boot_int (oa_cons (o_ixS 0 o_int) oa_nil)) or_nil)))) (o_var 1)))))))))
theorem ok__law_edge (T : Txt P w K mg base cA a) : FnG P w K mg base cA false 3 a.f__law_edge a.d__law_edge ["store", "many"] F__law_edge := by
  rw [F__law_edge_eq]
  refine fn_g (N := N__law_edge) (k := 2) T.F__law_edge sc__law_edge fun Z cdv A outer s H E hz C => ?_
  obtain rfl : Z = none := hz.resolve_right Bool.false_ne_true
  exact (oss_cons (os_set C.nd 2 (o_ofC (oc_call C (ok__law_take T) (by decide) (.inl rfl) (by rfl) T.m__law_take T.k__law_take T.b__law_take (or_slot 0 (or_cons o_int or_nil)))))
    (oss_cons (os_if (ot_cmp (op_eqU C.un) ok_eq (o_var 2) o_int (nomark _)) (oss_one (os_ret o_int)) oss_nil)
    (oss_cons (os_if (ot_cmp (op_eqU C.un) ok_eq (o_var 2) o_int (nomark _)) (oss_one (os_ret (o_op op_sub ok_sub (o_callB (call_max2 (C.calm rfl)) ok_max2 (by rfl) T.n_max boot_max (oa_cons o_int (oa_cons (o_callTy call_int1 ok_int1 (by rfl) T.n_int boot_int (oa_cons (o_var 1) oa_nil)) oa_nil))) o_int))) oss_nil)
    (oss_one (os_retR (oc_call C (ok__law_take T) (by decide) (.inl rfl) (by rfl) T.m__law_take T.k__law_take T.b__law_take (or_slot 0 (or_cons (o_var 1) or_nil))))))))
theorem ok__law_odds (T : Txt P w K mg base cA a) : FnG P w K mg base cA false 3 a.f__law_odds a.d__law_odds ["store", "many"] F__law_odds := by
  rw [F__law_odds_eq]
  refine fn_g (N := N__law_odds) (k := 2) T.F__law_odds sc__law_odds fun Z cdv A outer s H E hz C => ?_
  obtain rfl : Z = none := hz.resolve_right Bool.false_ne_true
  exact (oss_one (os_ret (o_cmp (op_eqU C.un) ok_eq (o_ofC (oc_call C (ok__law_take T) (by decide) (.inl rfl) (by rfl) T.m__law_take T.k__law_take T.b__law_take (or_slot 0 (or_cons (o_var 1) or_nil)))) o_int (nomark _))))
theorem ok__law_pick (T : Txt P w K mg base cA a) : FnG P w K mg base cA false 3 a.f__law_pick a.d__law_pick ["store", "items"] F__law_pick := by
  rw [F__law_pick_eq]
  refine fn_g (N := N__law_pick) (k := 2) T.F__law_pick sc__law_pick fun Z cdv A outer s H E hz C => ?_
  obtain rfl : Z = none := hz.resolve_right Bool.false_ne_true
  exact (oss_one (os_ret (o_ix C.un (o_var 1) (o_ofC (oc_call C (ok__law_take T) (by decide) (.inl rfl) (by rfl) T.m__law_take T.k__law_take T.b__law_take (or_slot 0 (or_cons (o_len (by rfl) T.n_len boot_len (oa_cons (o_var 1) oa_nil)) or_nil)))))))
theorem ok__law_length (T : Txt P w K mg base cA a) : FnG P w K mg base cA false 4 a.f__law_length a.d__law_length ["store"] F__law_length := by
  rw [F__law_length_eq]
  refine fn_g (N := N__law_length) (k := 3) T.F__law_length sc__law_length fun Z cdv A outer s H E hz C => ?_
  obtain rfl : Z = none := hz.resolve_right Bool.false_ne_true
  exact (oss_cons (os_set C.nd 1 (o_ofC (oc_call C (ok__law_take T) (by decide) (.inl rfl) (by rfl) T.m__law_take T.k__law_take T.b__law_take (or_slot 0 (or_cons o_int or_nil)))))
    (oss_cons (os_if (ot_cmp (op_eqU C.un) ok_eq (o_var 1) o_int (nomark _)) (oss_one (os_ret (o_op op_addU ok_add o_int (o_ofC (oc_call C (ok__law_edge T) (by decide) (.inl rfl) (by rfl) T.m__law_edge T.k__law_edge T.b__law_edge (or_slot 0 (or_cons o_int or_nil))))))) oss_nil)
    (oss_cons (os_if (ot_cmp (op_eqU C.un) ok_eq (o_var 1) o_int (nomark _)) (oss_one (os_ret (o_op op_addU ok_add o_int (o_ofC (oc_call C (ok__law_take T) (by decide) (.inl rfl) (by rfl) T.m__law_take T.k__law_take T.b__law_take (or_slot 0 (or_cons o_int or_nil))))))) oss_nil)
    (oss_one (os_ret (o_op op_addU ok_add o_int (o_ofC (oc_call C (ok__law_take T) (by decide) (.inl rfl) (by rfl) T.m__law_take T.k__law_take T.b__law_take (or_slot 0 (or_cons o_int or_nil))))))))))
theorem ok__law_cellcount (T : Txt P w K mg base cA a) : FnG P w K mg base cA false 4 a.f__law_cellcount a.d__law_cellcount ["store"] F__law_cellcount := by
  rw [F__law_cellcount_eq]
  refine fn_g (N := N__law_cellcount) (k := 3) T.F__law_cellcount sc__law_cellcount fun Z cdv A outer s H E hz C => ?_
  obtain rfl : Z = none := hz.resolve_right Bool.false_ne_true
  exact (oss_cons (os_if (ot_val (o_ofC (oc_call C (ok__law_odds T) (by decide) (.inl rfl) (by rfl) T.m__law_odds T.k__law_odds T.b__law_odds (or_slot 0 (or_cons o_int or_nil))))) (oss_one (os_ret (o_op op_addU ok_add o_int (o_ofC (oc_call C (ok__law_edge T) (by decide) (.inl rfl) (by rfl) T.m__law_edge T.k__law_edge T.b__law_edge (or_slot 0 (or_cons o_int or_nil))))))) oss_nil)
    (oss_one (os_ret (o_op op_addU ok_add o_int (o_ofC (oc_call C (ok__law_take T) (by decide) (.inl rfl) (by rfl) T.m__law_take T.k__law_take T.b__law_take (or_slot 0 (or_cons o_int or_nil))))))))
theorem ok__law_badcells (T : Txt P w K mg base cA a) : FnG P w K mg base cA false 4 a.f__law_badcells a.d__law_badcells ["store"] F__law_badcells := by
  rw [F__law_badcells_eq]
  refine fn_g (N := N__law_badcells) (k := 3) T.F__law_badcells sc__law_badcells fun Z cdv A outer s H E hz C => ?_
  obtain rfl : Z = none := hz.resolve_right Bool.false_ne_true
  exact (oss_one (os_retR (oc_call C (ok__law_pick T) (by decide) (.inl rfl) (by rfl) T.m__law_pick T.k__law_pick T.b__law_pick (or_slot 0 (or_cons (o_lst (oa_cons o_int (oa_cons (o_op op_sub ok_sub o_int o_int) (oa_cons o_bl (oa_cons o_bl (oa_cons o_non (oa_cons o_str (oa_cons (o_tup (oa_cons o_int oa_nil)) (oa_cons (o_lst (oa_cons o_int oa_nil)) (oa_cons o_str (oa_cons (o_op op_sub ok_sub o_int (o_op op_pow ok_pow o_int o_int)) oa_nil))))))))))) or_nil)))))
theorem ok__law_moves (T : Txt P w K mg base cA a) : ∀ n : Nat, FnG P w K mg base cA false (n + 3) a.f__law_moves a.d__law_moves ["store", "n", "source", "first", "last"] (F__law_moves n)
  | 0 => by rw [F__law_moves_zero]; exact fn_stuck
  | n + 1 => by
    have ih := ok__law_moves T n
    have r : FnG P w K mg base cA false (n + 3 + 1) a.f__law_moves a.d__law_moves ["store", "n", "source", "first", "last"] (runF 5 9 (d__law_moves (F__law_moves n))) := by
      refine fn_g (N := N__law_moves) (k := n + 3) T.F__law_moves sc__law_moves fun Z cdv A outer s H E hz C => ?_
      obtain rfl : Z = none := hz.resolve_right Bool.false_ne_true
      exact (oss_cons (os_setO C.nd 5 (on_lst oa_nil))
    (oss_cons (os_forG C (oj_range1 (by rfl) T.n_range (oa_cons (o_var 1) oa_nil)) (og_name C.nd 6) (oss_cons (os_if (ot_cmp (op_eqU C.un) ok_eq (o_var 1) o_int (nomark _)) (oss_one os_break) oss_nil)
    (oss_cons (os_set C.nd 7 (o_op op_addU ok_add o_int (o_ofC (oc_call C (ok__law_edge T) (by omega) (.inl rfl) (by rfl) T.m__law_edge T.k__law_edge T.b__law_edge (or_slot 0 (or_cons (o_var 1) or_nil))))))
    (oss_cons (os_if (ot_cmp (op_eqU C.un) ok_eq (o_var 3) (o_var 4) (nomark _)) (oss_one (os_set C.nd 7 (o_var 1))) oss_nil)
    (oss_cons (os_appd 5 (o_tup (oa_cons o_str (oa_cons (o_var 2) (oa_cons (o_var 3) oa_nil)))))
    (oss_cons (os_forG C (oj_range1 (by rfl) T.n_range (oa_cons (o_op op_sub ok_sub (o_var 7) o_int) oa_nil)) (og_name C.nd 8) (oss_one (os_appd 5 (o_tup (oa_cons o_str (oa_cons (o_var 3) (oa_cons (o_var 3) oa_nil)))))))
    (oss_cons (os_setR C.nd 5 (oc_n (on_addL 5 (o_ofC (oc_call C ih (by omega) (.inl rfl) (by rfl) T.m__law_moves T.k__law_moves T.b__law_moves (or_slot 0 (or_cons (o_op op_sub ok_sub (o_var 1) (o_var 7)) (or_cons (o_var 3) (or_cons (o_op op_addU ok_add (o_var 3) o_int) (or_cons (o_var 4) or_nil))))))))))
    (oss_cons (os_appd 5 (o_tup (oa_cons o_str (oa_cons (o_var 3) oa_nil))))
    (oss_one (os_set C.nd 1 (o_op op_sub ok_sub (o_var 7) o_int)))))))))))
    (oss_one (os_retV 5))))
    rw [F__law_moves_eq]
    exact r.mono (by omega)
theorem ok__law_isint (T : Txt P w K mg base cA a) : FnG P w K mg base cA false 1 a.f__law_isint a.d__law_isint ["thing"] F__law_isint := by
  rw [F__law_isint_eq]
  refine fn_g (N := N__law_isint) (k := 0) T.F__law_isint sc__law_isint fun Z cdv A outer s H E hz C => ?_
  obtain rfl : Z = none := hz.resolve_right Bool.false_ne_true
  exact (oss_one (os_ret (o_and (o_isi .int (by rfl) T.n_isinstance boot_isinstance (o_var 0) (by rfl) T.n_int boot_int) (o_one (o_not (o_isi .bool (by rfl) T.n_isinstance boot_isinstance (o_var 0) (by rfl) T.n_bool boot_bool))))))
theorem ok__law_moveshape (T : Txt P w K mg base cA a) : FnG P w K mg base cA false 2 a.f__law_moveshape a.d__law_moveshape ["move", "many"] F__law_moveshape := by
  rw [F__law_moveshape_eq]
  refine fn_g (N := N__law_moveshape) (k := 1) T.F__law_moveshape sc__law_moveshape fun Z cdv A outer s H E hz C => ?_
  obtain rfl : Z = none := hz.resolve_right Bool.false_ne_true
  exact (oss_cons (os_if ((ow_or (ot_not (ot_val (o_isi .tuple (by rfl) T.n_isinstance boot_isinstance (o_var 0) (by rfl) T.n_tuple boot_tuple))) (ow_or (ot_cmp op_lt ok_lt (o_len (by rfl) T.n_len boot_len (oa_cons (o_var 0) oa_nil)) o_int (nomark _)) (ow_or1 (ot_not (ot_val (o_isi .str (by rfl) T.n_isinstance boot_isinstance (o_ix C.un (o_var 0) o_int) (by rfl) T.n_str boot_str))))))).pt (oss_one (os_ret o_bl)) oss_nil)
    (oss_cons (os_forG C (oj_of (C.calm rfl) (oi_walk (o_slice (o_var 0) (op_some o_int) op_none))) (og_name C.nd 2) (oss_one (os_if ((ow_or (ot_not (ot_val (o_ofC (oc_call C (ok__law_isint T) (by decide) (.inl rfl) (by rfl) T.m__law_isint T.k__law_isint T.b__law_isint (or_cons (o_var 2) or_nil))))) (ow_or (ot_cmp op_lt ok_lt (o_var 2) o_int (nomark _)) (ow_or1 (ot_cmp op_gt ok_gt (o_var 2) (o_var 1) (nomark _)))))).pt (oss_one (os_ret o_bl)) oss_nil)))
    (oss_cons (os_if (ot_cmp (op_eqU C.un) ok_eq (o_ix C.un (o_var 0) o_int) o_str (nomark _)) (oss_one (os_ret (o_and (o_cmp (op_eqU C.un) ok_eq (o_len (by rfl) T.n_len boot_len (oa_cons (o_var 0) oa_nil)) o_int (nomark _)) (o_one (o_cmp op_gt ok_gt (o_ix C.un (o_var 0) o_int) o_int (nomark _)))))) oss_nil)
    (oss_one (os_ret (o_and (o_cmp (op_eqU C.un) ok_eq (o_ix C.un (o_var 0) o_int) o_str (nomark _)) (o_and (o_cmp (op_eqU C.un) ok_eq (o_len (by rfl) T.n_len boot_len (oa_cons (o_var 0) oa_nil)) o_int (nomark _)) (o_one (o_cmp op_gt ok_gt (o_ix C.un (o_var 0) o_int) o_int (nomark _))))))))))
theorem ok__law_play (T : Txt P w K mg base cA a) : FnG P w K mg base cA false 3 a.f__law_play a.d__law_play ["n", "many", "moves"] F__law_play := by
  rw [F__law_play_eq]
  refine fn_g (N := N__law_play) (k := 2) T.F__law_play sc__law_play fun Z cdv A outer s H E hz C => ?_
  obtain rfl : Z = none := hz.resolve_right Bool.false_ne_true
  exact (oss_cons (os_setR C.nd 3 (oc_n (on_add (o_lst (oa_cons o_int oa_nil)) (o_mulA (o_lst (oa_cons (o_op op_sub ok_sub o_int o_int) oa_nil)) (o_var 1)))))
    (oss_cons (os_set C.nd 4 (o_var 0))
    (oss_cons (os_set C.nd 5 o_int)
    (oss_cons (os_forG C (oj_range1 (by rfl) T.n_range (oa_cons (o_len (by rfl) T.n_len boot_len (oa_cons (o_var 2) oa_nil)) oa_nil)) (og_name C.nd 6) (oss_cons (os_set C.nd 7 (o_ix C.un (o_var 2) (o_var 6)))
    (oss_cons (os_if ((ow_or (ot_cmp (op_eqU C.un) ok_eq (o_var 4) o_int (nomark _)) (ow_or1 (ot_not (ot_val (o_ofC (oc_call C (ok__law_moveshape T) (by decide) (.inl rfl) (by rfl) T.m__law_moveshape T.k__law_moveshape T.b__law_moveshape (or_cons (o_var 7) (or_cons (o_var 1) or_nil))))))))).pt (oss_one (os_ret (o_tup (oa_cons o_bl (oa_cons (o_var 6) oa_nil))))) oss_nil)
    (oss_one (os_if (ot_cmp (op_eqU C.un) ok_eq (o_ix C.un (o_var 7) o_int) o_str (nomark _)) (oss_cons (os_set C.nd 8 (o_ixS 3 (o_ix C.un (o_var 7) o_int)))
    (oss_cons (os_if ((ow_or (ot_cmp op_lt ok_lt (o_var 8) o_int (nomark _)) (ow_or1 (ot_cmp op_ge ok_ge (o_var 8) (o_var 0) (nomark _))))).pt (oss_one (os_ret (o_tup (oa_cons o_bl (oa_cons (o_var 6) oa_nil))))) oss_nil)
    (oss_cons (os_setLL 3 (o_op op_addU ok_add (o_var 8) o_int) (o_ix C.un (o_var 7) o_int))
    (oss_one (os_set C.nd 5 (o_op op_addU ok_add (o_var 5) o_int)))))) (oss_cons (os_if (ot_cmp (op_neU C.un) ok_ne (o_ixS 3 (o_ix C.un (o_var 7) o_int)) (o_var 4) (nomark _)) (oss_one (os_ret (o_tup (oa_cons o_bl (oa_cons (o_var 6) oa_nil))))) oss_nil)
    (oss_one (os_set C.nd 4 (o_op op_sub ok_sub (o_var 4) o_int)))))))))
    (oss_cons (os_if (ot_cmp op_gt ok_gt (o_var 4) o_int (nomark _)) (oss_one (os_ret (o_tup (oa_cons o_bl (oa_cons (o_len (by rfl) T.n_len boot_len (oa_cons (o_var 2) oa_nil)) oa_nil))))) oss_nil)
    (oss_one (os_ret (o_tup (oa_cons o_bl (oa_cons (o_var 5) oa_nil))))))))))
theorem ok__law_leastups (T : Txt P w K mg base cA a) : FnG P w K mg base cA false 1 a.f__law_leastups a.d__law_leastups ["n", "many"] F__law_leastups := by
  rw [F__law_leastups_eq]
  refine fn_g (N := N__law_leastups) (k := 0) T.F__law_leastups sc__law_leastups fun Z cdv A outer s H E hz C => ?_
  obtain rfl : Z = none := hz.resolve_right Bool.false_ne_true
  exact (oss_cons (os_set C.nd 2 o_int)
    (oss_cons (os_set C.nd 3 o_int)
    (oss_cons (os_forG C (oj_range1 (by rfl) T.n_range (oa_cons (o_op op_addU ok_add (o_var 0) o_int) oa_nil)) (og_name C.nd 4) (oss_cons (os_if (ot_cmp op_le ok_le (o_op op_addU ok_add (o_var 0) o_int) (o_var 3) (nomark _)) (oss_one os_break) oss_nil)
    (oss_cons (os_set C.nd 2 (o_op op_sub ok_sub (o_op op_addU ok_add (o_op op_addU ok_add (o_var 2) (o_var 0)) o_int) (o_var 3)))
    (oss_one (os_set C.nd 3 (o_op op_fdivW ok_fdiv (o_op op_mulU ok_mul (o_var 3) (o_op op_addU ok_add (o_op op_addU ok_add (o_var 1) (o_var 4)) o_int)) (o_op op_addU ok_add (o_var 4) o_int)))))))
    (oss_one (os_ret (o_var 2))))))
theorem ok__law_same (T : Txt P w K mg base cA a) : ∀ n : Nat, FnG P w K mg base cA true (n + 0) a.f__law_same a.d__law_same ["one", "two"] (F__law_same n)
  | 0 => by rw [F__law_same_zero]; exact fn_stuck
  | n + 1 => by
    have ih := ok__law_same T n
    have r : FnG P w K mg base cA true (n + 0 + 1) a.f__law_same a.d__law_same ["one", "two"] (runF 2 6 (d__law_same (F__law_same n))) := by
      refine fn_g (N := N__law_same) (k := n + 0) T.F__law_same sc__law_same fun Z cdv A outer s H E hz C => ?_
      exact (oss_cons (os_if ((ow_or (ot_cmp op_isN ok_isN (o_var 0) o_non (nomark _)) (ow_or1 (ot_cmp op_isN ok_isN (o_var 1) o_non (nomark _))))).pt (oss_one (os_ret (o_and (o_cmp op_isN ok_isN (o_var 0) o_non (nomark _)) (o_one (o_cmp op_isN ok_isN (o_var 1) o_non (nomark _)))))) oss_nil)
    (oss_cons (os_if ((ow_or (ot_val (o_isi .bool (by rfl) T.n_isinstance boot_isinstance (o_var 0) (by rfl) T.n_bool boot_bool)) (ow_or1 (ot_val (o_isi .bool (by rfl) T.n_isinstance boot_isinstance (o_var 1) (by rfl) T.n_bool boot_bool))))).pt (oss_one (os_ret (o_and (o_isi .bool (by rfl) T.n_isinstance boot_isinstance (o_var 0) (by rfl) T.n_bool boot_bool) (o_and (o_isi .bool (by rfl) T.n_isinstance boot_isinstance (o_var 1) (by rfl) T.n_bool boot_bool) (o_one (o_cmp (op_eqU C.un) ok_eq (o_var 0) (o_var 1) (nomark _))))))) oss_nil)
    (oss_cons (os_if ((ow_or (ot_val (o_isi .int (by rfl) T.n_isinstance boot_isinstance (o_var 0) (by rfl) T.n_int boot_int)) (ow_or1 (ot_val (o_isi .int (by rfl) T.n_isinstance boot_isinstance (o_var 1) (by rfl) T.n_int boot_int))))).pt (oss_one (os_ret (o_and (o_isi .int (by rfl) T.n_isinstance boot_isinstance (o_var 0) (by rfl) T.n_int boot_int) (o_and (o_isi .int (by rfl) T.n_isinstance boot_isinstance (o_var 1) (by rfl) T.n_int boot_int) (o_one (o_cmp (op_eqU C.un) ok_eq (o_var 0) (o_var 1) (nomark _))))))) oss_nil)
    (oss_cons (os_if ((ow_or (ot_val (o_isi .str (by rfl) T.n_isinstance boot_isinstance (o_var 0) (by rfl) T.n_str boot_str)) (ow_or1 (ot_val (o_isi .str (by rfl) T.n_isinstance boot_isinstance (o_var 1) (by rfl) T.n_str boot_str))))).pt (oss_one (os_ret (o_and (o_isi .str (by rfl) T.n_isinstance boot_isinstance (o_var 0) (by rfl) T.n_str boot_str) (o_and (o_isi .str (by rfl) T.n_isinstance boot_isinstance (o_var 1) (by rfl) T.n_str boot_str) (o_one (o_cmp (op_eqU C.un) ok_eq (o_var 0) (o_var 1) (nomark _))))))) oss_nil)
    (oss_cons (os_if ((ow_or (ot_val (o_isi .dict (by rfl) T.n_isinstance boot_isinstance (o_var 0) (by rfl) T.n_dict boot_dict)) (ow_or1 (ot_val (o_isi .dict (by rfl) T.n_isinstance boot_isinstance (o_var 1) (by rfl) T.n_dict boot_dict))))).pt (oss_cons (os_if ((ow_or (ot_not (ot_val (o_isi .dict (by rfl) T.n_isinstance boot_isinstance (o_var 0) (by rfl) T.n_dict boot_dict))) (ow_or (ot_not (ot_val (o_isi .dict (by rfl) T.n_isinstance boot_isinstance (o_var 1) (by rfl) T.n_dict boot_dict))) (ow_or1 (ot_cmp (op_neU C.un) ok_ne (o_len (by rfl) T.n_len boot_len (oa_cons (o_var 0) oa_nil)) (o_len (by rfl) T.n_len boot_len (oa_cons (o_var 1) oa_nil)) (nomark _)))))).pt (oss_one (os_ret o_bl)) oss_nil)
    (oss_cons (os_forG C (oj_list (o_var 0)) (og_name C.nd 5) (oss_one (os_if ((ow_or (ot_notInT C.un (o_var 5) (o_var 1)) (ow_or1 (ot_not (ot_val (o_ofC (oc_call C ih (by omega) (.inr rfl) (by rfl) T.m__law_same T.k__law_same T.b__law_same (or_cons (o_ix C.un (o_var 0) (o_var 5)) (or_cons (o_ix C.un (o_var 1) (o_var 5)) or_nil))))))))).pt (oss_one (os_ret o_bl)) oss_nil)))
    (oss_one (os_ret o_bl)))) oss_nil)
    (oss_cons (os_set C.nd 2 (o_and (o_isi .list (by rfl) T.n_isinstance boot_isinstance (o_var 0) (by rfl) T.n_list boot_list) (o_one (o_isi .list (by rfl) T.n_isinstance boot_isinstance (o_var 1) (by rfl) T.n_list boot_list))))
    (oss_cons (os_set C.nd 3 (o_and (o_isi .tuple (by rfl) T.n_isinstance boot_isinstance (o_var 0) (by rfl) T.n_tuple boot_tuple) (o_one (o_isi .tuple (by rfl) T.n_isinstance boot_isinstance (o_var 1) (by rfl) T.n_tuple boot_tuple))))
    (oss_cons (os_if ((ow_or ((ow_and (ot_not (ot_tru (o_var 2))) (ow_and1 (ot_not (ot_tru (o_var 3)))))).pt (ow_or1 (ot_cmp (op_neU C.un) ok_ne (o_len (by rfl) T.n_len boot_len (oa_cons (o_var 0) oa_nil)) (o_len (by rfl) T.n_len boot_len (oa_cons (o_var 1) oa_nil)) (nomark _))))).pt (oss_one (os_ret o_bl)) oss_nil)
    (oss_cons (os_forG C (oj_range1 (by rfl) T.n_range (oa_cons (o_len (by rfl) T.n_len boot_len (oa_cons (o_var 0) oa_nil)) oa_nil)) (og_name C.nd 4) (oss_one (os_if (ot_not (ot_val (o_ofC (oc_call C ih (by omega) (.inr rfl) (by rfl) T.m__law_same T.k__law_same T.b__law_same (or_cons (o_ix C.un (o_var 0) (o_var 4)) (or_cons (o_ix C.un (o_var 1) (o_var 4)) or_nil)))))) (oss_one (os_ret o_bl)) oss_nil)))
    (oss_one (os_ret o_bl)))))))))))
    rw [F__law_same_eq]
    exact r.mono (by omega)
theorem ok__law_sameC (T : Txt P w K mg base cA a) : ∀ n : Nat, FnG P w K mg base cA false (n + 0) a.f__law_same a.d__law_same ["one", "two"] (F__law_sameC n)
  | 0 => by rw [F__law_sameC_zero]; exact fn_stuck
  | n + 1 => by
    have ih := ok__law_sameC T n
    have r : FnG P w K mg base cA false (n + 0 + 1) a.f__law_same a.d__law_same ["one", "two"] (runF 2 6 (d__law_sameC (F__law_sameC n))) := by
      refine fn_g (N := N__law_same) (k := n + 0) T.F__law_same sc__law_same fun Z cdv A outer s H E hz C => ?_
      obtain rfl : Z = none := hz.resolve_right Bool.false_ne_true
      exact (oss_cons (os_if ((ow_or (ot_cmp op_isN ok_isN (o_var 0) o_non (nomark _)) (ow_or1 (ot_cmp op_isN ok_isN (o_var 1) o_non (nomark _))))).pt (oss_one (os_ret (o_and (o_cmp op_isN ok_isN (o_var 0) o_non (nomark _)) (o_one (o_cmp op_isN ok_isN (o_var 1) o_non (nomark _)))))) oss_nil)
    (oss_cons (os_if ((ow_or (ot_val (o_isi .bool (by rfl) T.n_isinstance boot_isinstance (o_var 0) (by rfl) T.n_bool boot_bool)) (ow_or1 (ot_val (o_isi .bool (by rfl) T.n_isinstance boot_isinstance (o_var 1) (by rfl) T.n_bool boot_bool))))).pt (oss_one (os_ret (o_and (o_isi .bool (by rfl) T.n_isinstance boot_isinstance (o_var 0) (by rfl) T.n_bool boot_bool) (o_and (o_isi .bool (by rfl) T.n_isinstance boot_isinstance (o_var 1) (by rfl) T.n_bool boot_bool) (o_one (o_cmp (op_eqU C.un) ok_eq (o_var 0) (o_var 1) (nomark _))))))) oss_nil)
    (oss_cons (os_if ((ow_or (ot_val (o_isi .int (by rfl) T.n_isinstance boot_isinstance (o_var 0) (by rfl) T.n_int boot_int)) (ow_or1 (ot_val (o_isi .int (by rfl) T.n_isinstance boot_isinstance (o_var 1) (by rfl) T.n_int boot_int))))).pt (oss_one (os_ret (o_and (o_isi .int (by rfl) T.n_isinstance boot_isinstance (o_var 0) (by rfl) T.n_int boot_int) (o_and (o_isi .int (by rfl) T.n_isinstance boot_isinstance (o_var 1) (by rfl) T.n_int boot_int) (o_one (o_cmp (op_eqU C.un) ok_eq (o_var 0) (o_var 1) (nomark _))))))) oss_nil)
    (oss_cons (os_if ((ow_or (ot_val (o_isi .str (by rfl) T.n_isinstance boot_isinstance (o_var 0) (by rfl) T.n_str boot_str)) (ow_or1 (ot_val (o_isi .str (by rfl) T.n_isinstance boot_isinstance (o_var 1) (by rfl) T.n_str boot_str))))).pt (oss_one (os_ret (o_and (o_isi .str (by rfl) T.n_isinstance boot_isinstance (o_var 0) (by rfl) T.n_str boot_str) (o_and (o_isi .str (by rfl) T.n_isinstance boot_isinstance (o_var 1) (by rfl) T.n_str boot_str) (o_one (o_cmp (op_eqU C.un) ok_eq (o_var 0) (o_var 1) (nomark _))))))) oss_nil)
    (oss_cons (os_if ((ow_or (ot_val (o_isi .dict (by rfl) T.n_isinstance boot_isinstance (o_var 0) (by rfl) T.n_dict boot_dict)) (ow_or1 (ot_val (o_isi .dict (by rfl) T.n_isinstance boot_isinstance (o_var 1) (by rfl) T.n_dict boot_dict))))).pt (oss_cons (os_if ((ow_or (ot_not (ot_val (o_isi .dict (by rfl) T.n_isinstance boot_isinstance (o_var 0) (by rfl) T.n_dict boot_dict))) (ow_or (ot_not (ot_val (o_isi .dict (by rfl) T.n_isinstance boot_isinstance (o_var 1) (by rfl) T.n_dict boot_dict))) (ow_or1 (ot_cmp (op_neU C.un) ok_ne (o_len (by rfl) T.n_len boot_len (oa_cons (o_var 0) oa_nil)) (o_len (by rfl) T.n_len boot_len (oa_cons (o_var 1) oa_nil)) (nomark _)))))).pt (oss_one (os_ret o_bl)) oss_nil)
    (oss_cons (os_forG C (oj_of (C.calm rfl) (oi_walk (o_var 0))) (og_name C.nd 5) (oss_one (os_if ((ow_or (ot_notInT C.un (o_var 5) (o_var 1)) (ow_or1 (ot_not (ot_val (o_ofC (oc_call C ih (by omega) (.inl rfl) (by rfl) T.m__law_same T.k__law_same T.b__law_same (or_cons (o_ix C.un (o_var 0) (o_var 5)) (or_cons (o_ix C.un (o_var 1) (o_var 5)) or_nil))))))))).pt (oss_one (os_ret o_bl)) oss_nil)))
    (oss_one (os_ret o_bl)))) oss_nil)
    (oss_cons (os_set C.nd 2 (o_and (o_isi .list (by rfl) T.n_isinstance boot_isinstance (o_var 0) (by rfl) T.n_list boot_list) (o_one (o_isi .list (by rfl) T.n_isinstance boot_isinstance (o_var 1) (by rfl) T.n_list boot_list))))
    (oss_cons (os_set C.nd 3 (o_and (o_isi .tuple (by rfl) T.n_isinstance boot_isinstance (o_var 0) (by rfl) T.n_tuple boot_tuple) (o_one (o_isi .tuple (by rfl) T.n_isinstance boot_isinstance (o_var 1) (by rfl) T.n_tuple boot_tuple))))
    (oss_cons (os_if ((ow_or ((ow_and (ot_not (ot_tru (o_var 2))) (ow_and1 (ot_not (ot_tru (o_var 3)))))).pt (ow_or1 (ot_cmp (op_neU C.un) ok_ne (o_len (by rfl) T.n_len boot_len (oa_cons (o_var 0) oa_nil)) (o_len (by rfl) T.n_len boot_len (oa_cons (o_var 1) oa_nil)) (nomark _))))).pt (oss_one (os_ret o_bl)) oss_nil)
    (oss_cons (os_forG C (oj_range1 (by rfl) T.n_range (oa_cons (o_len (by rfl) T.n_len boot_len (oa_cons (o_var 0) oa_nil)) oa_nil)) (og_name C.nd 4) (oss_one (os_if (ot_not (ot_val (o_ofC (oc_call C ih (by omega) (.inl rfl) (by rfl) T.m__law_same T.k__law_same T.b__law_same (or_cons (o_ix C.un (o_var 0) (o_var 4)) (or_cons (o_ix C.un (o_var 1) (o_var 4)) or_nil)))))) (oss_one (os_ret o_bl)) oss_nil)))
    (oss_one (os_ret o_bl)))))))))))
    rw [F__law_sameC_eq]
    exact r.mono (by omega)
theorem ok__law_sameS0 (T : Txt P w K mg base cA a) : FnG P w K mg base cA false 10 a.f__law_same a.d__law_same ["one", "two"] F__law_sameS0 := by
  rw [F__law_sameS0_eq]
  refine fn_g (N := N__law_same) (k := 9) T.F__law_same sc__law_same fun Z cdv A outer s H E hz C => ?_
  obtain rfl : Z = none := hz.resolve_right Bool.false_ne_true
  exact (oss_cons (os_if ((ow_or (ot_isNS 0) (ow_or1 (ot_cmp op_isN ok_isN (o_var 1) o_non (nomark _))))).pt (oss_one (os_ret (o_and (o_isNS 0) (o_one (o_cmp op_isN ok_isN (o_var 1) o_non (nomark _)))))) oss_nil)
    (oss_cons (os_if ((ow_or (ot_val (o_isiS .bool 0 (by rfl) T.n_isinstance boot_isinstance (by rfl) T.n_bool boot_bool)) (ow_or1 (ot_val (o_isi .bool (by rfl) T.n_isinstance boot_isinstance (o_var 1) (by rfl) T.n_bool boot_bool))))).pt (oss_one (os_ret (o_and (o_isiS .bool 0 (by rfl) T.n_isinstance boot_isinstance (by rfl) T.n_bool boot_bool) (o_and (o_isi .bool (by rfl) T.n_isinstance boot_isinstance (o_var 1) (by rfl) T.n_bool boot_bool) (o_one (o_cmp (op_eqU C.un) ok_eq (o_var 0) (o_var 1) (nomark _))))))) oss_nil)
    (oss_cons (os_if ((ow_or (ot_val (o_isiS .int 0 (by rfl) T.n_isinstance boot_isinstance (by rfl) T.n_int boot_int)) (ow_or1 (ot_val (o_isi .int (by rfl) T.n_isinstance boot_isinstance (o_var 1) (by rfl) T.n_int boot_int))))).pt (oss_one (os_ret (o_and (o_isiS .int 0 (by rfl) T.n_isinstance boot_isinstance (by rfl) T.n_int boot_int) (o_and (o_isi .int (by rfl) T.n_isinstance boot_isinstance (o_var 1) (by rfl) T.n_int boot_int) (o_one (o_cmp (op_eqU C.un) ok_eq (o_var 0) (o_var 1) (nomark _))))))) oss_nil)
    (oss_cons (os_if ((ow_or (ot_val (o_isiS .str 0 (by rfl) T.n_isinstance boot_isinstance (by rfl) T.n_str boot_str)) (ow_or1 (ot_val (o_isi .str (by rfl) T.n_isinstance boot_isinstance (o_var 1) (by rfl) T.n_str boot_str))))).pt (oss_one (os_ret (o_and (o_isiS .str 0 (by rfl) T.n_isinstance boot_isinstance (by rfl) T.n_str boot_str) (o_and (o_isi .str (by rfl) T.n_isinstance boot_isinstance (o_var 1) (by rfl) T.n_str boot_str) (o_one (o_cmp (op_eqU C.un) ok_eq (o_var 0) (o_var 1) (nomark _))))))) oss_nil)
    (oss_cons (os_if ((ow_or (ot_val (o_isiS .dict 0 (by rfl) T.n_isinstance boot_isinstance (by rfl) T.n_dict boot_dict)) (ow_or1 (ot_val (o_isi .dict (by rfl) T.n_isinstance boot_isinstance (o_var 1) (by rfl) T.n_dict boot_dict))))).pt (oss_cons (os_if ((ow_or (ot_not (ot_val (o_isiS .dict 0 (by rfl) T.n_isinstance boot_isinstance (by rfl) T.n_dict boot_dict))) (ow_or (ot_not (ot_val (o_isi .dict (by rfl) T.n_isinstance boot_isinstance (o_var 1) (by rfl) T.n_dict boot_dict))) (ow_or1 (ot_cmp (op_neU C.un) ok_ne (o_lenS 0 (by rfl) T.n_len boot_len) (o_len (by rfl) T.n_len boot_len (oa_cons (o_var 1) oa_nil)) (nomark _)))))).pt (oss_one (os_ret o_bl)) oss_nil)
    (oss_cons (os_forG C (oj_of (C.calm rfl) (oi_walk (o_var 0))) (og_name C.nd 5) (oss_one (os_if ((ow_or (ot_notInT C.un (o_var 5) (o_var 1)) (ow_or1 (ot_not (ot_val (o_ofC (oc_call C (ok__law_sameC T 8) (by decide) (.inl rfl) (by rfl) T.m__law_same T.k__law_same T.b__law_same (or_cons (o_ixS 0 (o_var 5)) (or_cons (o_ix C.un (o_var 1) (o_var 5)) or_nil))))))))).pt (oss_one (os_ret o_bl)) oss_nil)))
    (oss_one (os_ret o_bl)))) oss_nil)
    (oss_cons (os_set C.nd 2 (o_and (o_isiS .list 0 (by rfl) T.n_isinstance boot_isinstance (by rfl) T.n_list boot_list) (o_one (o_isi .list (by rfl) T.n_isinstance boot_isinstance (o_var 1) (by rfl) T.n_list boot_list))))
    (oss_cons (os_set C.nd 3 (o_and (o_isiS .tuple 0 (by rfl) T.n_isinstance boot_isinstance (by rfl) T.n_tuple boot_tuple) (o_one (o_isi .tuple (by rfl) T.n_isinstance boot_isinstance (o_var 1) (by rfl) T.n_tuple boot_tuple))))
    (oss_cons (os_if ((ow_or ((ow_and (ot_not (ot_tru (o_var 2))) (ow_and1 (ot_not (ot_tru (o_var 3)))))).pt (ow_or1 (ot_cmp (op_neU C.un) ok_ne (o_lenS 0 (by rfl) T.n_len boot_len) (o_len (by rfl) T.n_len boot_len (oa_cons (o_var 1) oa_nil)) (nomark _))))).pt (oss_one (os_ret o_bl)) oss_nil)
    (oss_cons (os_forG C (oj_range1 (by rfl) T.n_range (oa_cons (o_lenS 0 (by rfl) T.n_len boot_len) oa_nil)) (og_name C.nd 4) (oss_one (os_if (ot_not (ot_val (o_ofC (oc_call C (ok__law_sameC T 8) (by decide) (.inl rfl) (by rfl) T.m__law_same T.k__law_same T.b__law_same (or_cons (o_ixS 0 (o_var 4)) (or_cons (o_ix C.un (o_var 1) (o_var 4)) or_nil)))))) (oss_one (os_ret o_bl)) oss_nil)))
    (oss_one (os_ret o_bl)))))))))))
theorem ok__law_movesbent (T : Txt P w K mg base cA a) : FnG P w K mg base cA false 4 a.f__law_movesbent a.d__law_movesbent ["store", "moves", "many"] F__law_movesbent := by
  rw [F__law_movesbent_eq]
  refine fn_g (N := N__law_movesbent) (k := 3) T.F__law_movesbent sc__law_movesbent fun Z cdv A outer s H E hz C => ?_
  obtain rfl : Z = none := hz.resolve_right Bool.false_ne_true
  exact (oss_cons (os_set C.nd 3 (o_ofC (oc_call C (ok__law_take T) (by decide) (.inl rfl) (by rfl) T.m__law_take T.k__law_take T.b__law_take (or_slot 0 (or_cons (o_op op_addU ok_add (o_var 2) o_int) or_nil)))))
    (oss_cons (os_set C.nd 4 (o_ofC (oc_call C (ok__law_pick T) (by decide) (.inl rfl) (by rfl) T.m__law_pick T.k__law_pick T.b__law_pick (or_slot 0 (or_cons (o_lst (oa_cons (o_tup (oa_cons o_str (oa_cons (o_var 3) (oa_cons o_int oa_nil)))) (oa_cons (o_tup (oa_cons o_str (oa_cons o_int (oa_cons (o_var 3) oa_nil)))) (oa_cons (o_tup (oa_cons o_str (oa_cons (o_var 3) oa_nil))) (oa_cons (o_tup (oa_cons o_str (oa_cons (o_var 3) (oa_cons (o_var 3) oa_nil)))) (oa_cons (o_tup (oa_cons o_str (oa_cons o_int oa_nil))) oa_nil)))))) or_nil)))))
    (oss_cons (os_set C.nd 5 (o_lst (oa_cons (o_tup (oa_cons o_str (oa_cons o_int oa_nil))) (oa_cons (o_tup (oa_cons o_str oa_nil)) (oa_cons (o_tup (oa_cons o_str (oa_cons o_int (oa_cons o_int (oa_cons o_int oa_nil))))) (oa_cons (o_lst (oa_cons o_str (oa_cons o_int (oa_cons o_int oa_nil)))) (oa_cons (o_lst (oa_cons o_str (oa_cons o_int oa_nil))) (oa_cons (o_tup (oa_cons o_str (oa_cons o_bl (oa_cons o_int oa_nil)))) (oa_cons (o_tup (oa_cons o_str (oa_cons o_bl oa_nil))) (oa_cons o_non oa_nil))))))))))
    (oss_cons (os_set C.nd 5 (o_op op_addU ok_add (o_var 5) (o_lst (oa_cons (o_tup (oa_cons o_str (oa_cons o_int oa_nil))) (oa_cons (o_tup (oa_cons o_str (oa_cons o_int oa_nil))) (oa_cons (o_tup (oa_cons o_str (oa_cons (o_op op_addU ok_add (o_var 2) o_int) oa_nil))) (oa_cons (o_tup (oa_cons o_str (oa_cons (o_op op_sub ok_sub o_int o_int) (oa_cons o_int oa_nil)))) (oa_cons (o_tup (oa_cons o_str (oa_cons o_int (oa_cons (o_op op_addU ok_add (o_var 2) o_int) oa_nil)))) (oa_cons o_int oa_nil)))))))))
    (oss_cons (os_set C.nd 5 (o_op op_addU ok_add (o_var 5) (o_lst (oa_cons (o_tup (oa_cons o_str (oa_cons o_str (oa_cons o_int oa_nil)))) (oa_cons (o_tup oa_nil) (oa_cons o_str (oa_cons (o_tup (oa_cons o_str (oa_cons o_int oa_nil))) (oa_cons (o_tup (oa_cons o_str (oa_cons o_int (oa_cons o_bl oa_nil)))) (oa_cons (o_tup (oa_cons o_str (oa_cons o_non (oa_cons o_int oa_nil)))) (oa_cons (o_tup (oa_cons o_str (oa_cons o_int (oa_cons o_int oa_nil)))) oa_nil))))))))))
    (oss_cons (os_set C.nd 5 (o_op op_addU ok_add (o_var 5) (o_lst (oa_cons (o_tup (oa_cons o_str (oa_cons o_int (oa_cons o_int oa_nil)))) (oa_cons (o_tup (oa_cons o_str (oa_cons (o_op op_sub ok_sub o_int o_int) oa_nil))) oa_nil)))))
    (oss_cons (os_set C.nd 6 (o_ofC (oc_call C (ok__law_take T) (by decide) (.inl rfl) (by rfl) T.m__law_take T.k__law_take T.b__law_take (or_slot 0 (or_cons o_int or_nil)))))
    (oss_cons (os_set C.nd 7 (o_ofC (oc_call C (ok__law_take T) (by decide) (.inl rfl) (by rfl) T.m__law_take T.k__law_take T.b__law_take (or_slot 0 (or_cons (o_op op_addU ok_add (o_len (by rfl) T.n_len boot_len (oa_cons (o_var 1) oa_nil)) o_int) or_nil)))))
    (oss_cons (os_if (ot_cmp (op_eqU C.un) ok_eq (o_var 6) o_int (nomark _)) (oss_one (os_ret (o_op op_addU ok_add (o_op op_addU ok_add (o_ofN (on_callTy call_list_of ok_listF (by rfl) T.n_list boot_list (oa_cons (o_slice (o_var 1) op_none (op_some (o_var 7))) oa_nil))) (o_lst (oa_cons (o_var 4) oa_nil))) (o_ofN (on_callTy call_list_of ok_listF (by rfl) T.n_list boot_list (oa_cons (o_slice (o_var 1) (op_some (o_var 7)) op_none) oa_nil)))))) oss_nil)
    (oss_cons (os_if (ot_cmp (op_eqU C.un) ok_eq (o_var 6) o_int (nomark _)) (oss_one (os_ret (o_op op_addU ok_add (o_op op_addU ok_add (o_ofN (on_callTy call_list_of ok_listF (by rfl) T.n_list boot_list (oa_cons (o_slice (o_var 1) op_none (op_some (o_var 7))) oa_nil))) (o_lst (oa_cons (o_ofC (oc_call C (ok__law_pick T) (by decide) (.inl rfl) (by rfl) T.m__law_pick T.k__law_pick T.b__law_pick (or_slot 0 (or_cons (o_var 5) or_nil)))) oa_nil))) (o_ofN (on_callTy call_list_of ok_listF (by rfl) T.n_list boot_list (oa_cons (o_slice (o_var 1) (op_some (o_var 7)) op_none) oa_nil)))))) oss_nil)
    (oss_cons (os_if (ot_cmp (op_eqU C.un) ok_eq (o_var 6) o_int (nomark _)) (oss_one (os_ret (o_op op_addU ok_add (o_ofN (on_callTy call_list_of ok_listF (by rfl) T.n_list boot_list (oa_cons (o_slice (o_var 1) op_none (op_some (o_var 7))) oa_nil))) (o_ofN (on_callTy call_list_of ok_listF (by rfl) T.n_list boot_list (oa_cons (o_slice (o_var 1) (op_some (o_op op_addU ok_add (o_var 7) o_int)) op_none) oa_nil)))))) oss_nil)
    (oss_cons (os_if (ot_cmp (op_eqU C.un) ok_eq (o_var 6) o_int (nomark _)) (oss_one (os_ret (o_op op_addU ok_add (o_op op_addU ok_add (o_ofN (on_callTy call_list_of ok_listF (by rfl) T.n_list boot_list (oa_cons (o_slice (o_var 1) op_none (op_some (o_var 7))) oa_nil))) (o_ofN (on_callTy call_list_of ok_listF (by rfl) T.n_list boot_list (oa_cons (o_slice (o_var 1) (op_some (o_var 7)) (op_some (o_op op_addU ok_add (o_var 7) o_int))) oa_nil)))) (o_ofN (on_callTy call_list_of ok_listF (by rfl) T.n_list boot_list (oa_cons (o_slice (o_var 1) (op_some (o_var 7)) op_none) oa_nil)))))) oss_nil)
    (oss_cons (os_if (ot_cmp (op_eqU C.un) ok_eq (o_var 6) o_int (nomark _)) (oss_one (os_ret (o_op op_addU ok_add (o_op op_addU ok_add (o_op op_addU ok_add (o_ofN (on_callTy call_list_of ok_listF (by rfl) T.n_list boot_list (oa_cons (o_slice (o_var 1) op_none (op_some (o_var 7))) oa_nil))) (o_ofN (on_callTy call_list_of ok_listF (by rfl) T.n_list boot_list (oa_cons (o_slice (o_var 1) (op_some (o_op op_addU ok_add (o_var 7) o_int)) (op_some (o_op op_addU ok_add (o_var 7) o_int))) oa_nil)))) (o_ofN (on_callTy call_list_of ok_listF (by rfl) T.n_list boot_list (oa_cons (o_slice (o_var 1) (op_some (o_var 7)) (op_some (o_op op_addU ok_add (o_var 7) o_int))) oa_nil)))) (o_ofN (on_callTy call_list_of ok_listF (by rfl) T.n_list boot_list (oa_cons (o_slice (o_var 1) (op_some (o_op op_addU ok_add (o_var 7) o_int)) op_none) oa_nil)))))) oss_nil)
    (oss_one (os_ret (o_op op_addU ok_add (o_op op_addU ok_add (o_ofN (on_callTy call_list_of ok_listF (by rfl) T.n_list boot_list (oa_cons (o_slice (o_var 1) op_none (op_some (o_var 7))) oa_nil))) (o_lst (oa_cons (o_ofC (oc_call C (ok__law_pick T) (by decide) (.inl rfl) (by rfl) T.m__law_pick T.k__law_pick T.b__law_pick (or_slot 0 (or_cons (o_op op_addU ok_add (o_var 5) (o_lst (oa_cons (o_var 4) oa_nil))) or_nil)))) oa_nil))) (o_ofN (on_callTy call_list_of ok_listF (by rfl) T.n_list boot_list (oa_cons (o_slice (o_var 1) (op_some (o_op op_addU ok_add (o_var 7) o_int)) op_none) oa_nil)))))))))))))))))))
theorem ok__law_kinds (T : Txt P w K mg base cA a) : FnG P w K mg base cA true 1 a.f__law_kinds a.d__law_kinds ["e"] F__law_kinds := by
  rw [F__law_kinds_eq]
  refine fn_g (N := N__law_kinds) (k := 0) T.F__law_kinds sc__law_kinds fun Z cdv A outer s H E hz C => ?_
  exact (oss_cons (os_set C.nd 1 (o_lst (oa_cons (o_tup (oa_cons o_str (oa_cons (o_isE C 0 T.s_NumberError (clsAt_own (by rfl) T.m_NumberError) (by rfl) T.n_isinstance boot_isinstance) oa_nil))) (oa_cons (o_tup (oa_cons o_str (oa_cons (o_isE C 0 T.s_TextError (clsAt_own (by rfl) T.m_TextError) (by rfl) T.n_isinstance boot_isinstance) oa_nil))) (oa_cons (o_tup (oa_cons o_str (oa_cons (o_isE C 0 T.s_ShapeError (clsAt_own (by rfl) T.m_ShapeError) (by rfl) T.n_isinstance boot_isinstance) oa_nil))) (oa_cons (o_tup (oa_cons o_str (oa_cons (o_isE C 0 T.s_PlanError (clsAt_own (by rfl) T.m_PlanError) (by rfl) T.n_isinstance boot_isinstance) oa_nil))) (oa_cons (o_tup (oa_cons o_str (oa_cons (o_isE C 0 T.s_CourseError (clsAt_own (by rfl) T.m_CourseError) (by rfl) T.n_isinstance boot_isinstance) oa_nil))) (oa_cons (o_tup (oa_cons o_str (oa_cons (o_isE C 0 T.s_KnowError (clsAt_own (by rfl) T.m_KnowError) (by rfl) T.n_isinstance boot_isinstance) oa_nil))) (oa_cons (o_tup (oa_cons o_str (oa_cons (o_isE C 0 T.s_PaperError (clsAt_own (by rfl) T.m_PaperError) (by rfl) T.n_isinstance boot_isinstance) oa_nil))) (oa_cons (o_tup (oa_cons o_str (oa_cons (o_isE C 0 T.s_TooMany (clsAt_own (by rfl) T.m_TooMany) (by rfl) T.n_isinstance boot_isinstance) oa_nil))) (oa_cons (o_tup (oa_cons o_str (oa_cons (o_isE C 0 T.s_BadPrime (clsAt_own (by rfl) T.m_BadPrime) (by rfl) T.n_isinstance boot_isinstance) oa_nil))) (oa_cons (o_tup (oa_cons o_str (oa_cons (o_isE C 0 T.s_NoInverse (clsAt_own (by rfl) T.m_NoInverse) (by rfl) T.n_isinstance boot_isinstance) oa_nil))) (oa_cons (o_tup (oa_cons o_str (oa_cons (o_isE C 0 T.s_NoNumber (clsAt_own (by rfl) T.m_NoNumber) (by rfl) T.n_isinstance boot_isinstance) oa_nil))) (oa_cons (o_tup (oa_cons o_str (oa_cons (o_isE C 0 T.s_BadTable (clsAt_own (by rfl) T.m_BadTable) (by rfl) T.n_isinstance boot_isinstance) oa_nil))) (oa_cons (o_tup (oa_cons o_str (oa_cons (o_isE C 0 T.s_BadCells (clsAt_own (by rfl) T.m_BadCells) (by rfl) T.n_isinstance boot_isinstance) oa_nil))) (oa_cons (o_tup (oa_cons o_str (oa_cons (o_isE C 0 T.s_BadStep (clsAt_own (by rfl) T.m_BadStep) (by rfl) T.n_isinstance boot_isinstance) oa_nil))) (oa_cons (o_tup (oa_cons o_str (oa_cons (o_isE C 0 T.s_BadBlind (clsAt_own (by rfl) T.m_BadBlind) (by rfl) T.n_isinstance boot_isinstance) oa_nil))) (oa_cons (o_tup (oa_cons o_str (oa_cons (o_isE C 0 T.s_BadMove (clsAt_own (by rfl) T.m_BadMove) (by rfl) T.n_isinstance boot_isinstance) oa_nil))) (oa_cons (o_tup (oa_cons o_str (oa_cons (o_isE C 0 T.s_NotShut (clsAt_own (by rfl) T.m_NotShut) (by rfl) T.n_isinstance boot_isinstance) oa_nil))) (oa_cons (o_tup (oa_cons o_str (oa_cons (o_isE C 0 T.s_NotOpen (clsAt_own (by rfl) T.m_NotOpen) (by rfl) T.n_isinstance boot_isinstance) oa_nil))) (oa_cons (o_tup (oa_cons o_str (oa_cons (o_isE C 0 T.s_NotTheft (clsAt_own (by rfl) T.m_NotTheft) (by rfl) T.n_isinstance boot_isinstance) oa_nil))) (oa_cons (o_tup (oa_cons o_str (oa_cons (o_isE C 0 T.s_NotPrice (clsAt_own (by rfl) T.m_NotPrice) (by rfl) T.n_isinstance boot_isinstance) oa_nil))) oa_nil))))))))))))))))))))))
    (oss_one (os_ret (o_ofN (on_lcG (own := [("row", 2)]) C (oj_list (o_var 1)) (by exact blkOk_by (N := N__law_kinds) (sc := defScope s__law_kinds) (by decide +kernel)) (by decide) (fun _ _ _ _ _ => (og_name (C.blk _ _ _ _).nd 2)) (fun _ _ _ _ _ => (ots_one (ot_tru (o_ix (C.blk _ _ _ _).un (o_var 2) o_int)))) (fun _ _ _ _ _ => (o_ix (C.blk _ _ _ _).un (o_var 2) o_int)))))))
theorem ok__law_clean (T : Txt P w K mg base cA a) : FnG P w K mg base cA true 10 a.f__law_clean a.d__law_clean ["e", "base", "word"] F__law_clean := by
  rw [F__law_clean_eq]
  refine fn_g (N := N__law_clean) (k := 9) T.F__law_clean sc__law_clean fun Z cdv A outer s H E hz C => ?_
  exact (oss_one (os_ret (o_and (o_isE C 0 T.s_ValueError (clsAt_ty (by rfl) T.n_ValueError boot_ValueError) (by rfl) T.n_isinstance boot_isinstance) (o_and (o_ofC (oc_call C (ok__law_same T 8) (by decide) (.inr rfl) (by rfl) T.m__law_same T.k__law_same T.b__law_same (or_cons (o_fld C 0 T.k_fld_word) (or_cons (o_var 2) or_nil)))) (o_one (o_cmp (op_eqU C.un) ok_eq (o_ofC (oc_call C (ok__law_kinds T) (by decide) (.inr rfl) (by rfl) T.m__law_kinds T.k__law_kinds T.b__law_kinds (or_slot 0 or_nil))) (o_lst (oa_cons (o_var 1) (oa_cons (o_var 2) oa_nil))) (nomark _)))))))
theorem ok__law_leasttable (T : Txt P w K mg base cA a) : FnG P w K mg base cA false 2 a.f__law_leasttable a.d__law_leasttable ["most", "many"] F__law_leasttable := by
  rw [F__law_leasttable_eq]
  refine fn_g (N := N__law_leasttable) (k := 1) T.F__law_leasttable sc__law_leasttable fun Z cdv A outer s H E hz C => ?_
  obtain rfl : Z = none := hz.resolve_right Bool.false_ne_true
  exact (oss_one (os_ret (o_op op_addU ok_add (o_lst (oa_cons (o_lst oa_nil) oa_nil)) (o_ofN (on_lcG (own := [("c", 2)]) C (oj_range2 (by rfl) T.n_range (oa_cons o_int (oa_cons (o_op op_addU ok_add (o_var 1) o_int) oa_nil))) (by exact blkOk_by (N := N__law_leasttable) (sc := defScope s__law_leasttable) (by decide +kernel)) (by decide) (fun _ _ _ _ _ => (og_name (C.blk _ _ _ _).nd 2)) (fun _ _ _ _ _ => ots_nil) (fun _ _ _ _ _ => (o_ofN (on_lcG (own := [("n", 3)]) (C.blk _ _ _ _) (oj_range1 (by rfl) T.n_range (oa_cons (o_op op_addU ok_add (o_var 0) o_int) oa_nil)) (by exact blkOk_by (N := N__law_leasttable) (by kernel_rfl)) (by decide) (fun _ _ _ _ _ => (og_name ((C.blk _ _ _ _).blk _ _ _ _).nd 3)) (fun _ _ _ _ _ => ots_nil) (fun _ _ _ _ _ => (o_ofC (oc_call ((C.blk _ _ _ _).blk _ _ _ _) (ok__law_leastups T) (by decide) (.inl rfl) (by rfl) T.m__law_leastups T.k__law_leastups T.b__law_leastups (or_cons (o_var 3) (or_cons (o_var 2) or_nil)))))))))))))
theorem ok__law_stopof (T : Txt P w K mg base cA a) : FnG P w K mg base cA false 1 a.f__law_stopof a.d__law_stopof ["table", "n", "many"] F__law_stopof := by
  rw [F__law_stopof_eq]
  refine fn_g (N := N__law_stopof) (k := 0) T.F__law_stopof sc__law_stopof fun Z cdv A outer s H E hz C => ?_
  obtain rfl : Z = none := hz.resolve_right Bool.false_ne_true
  exact (oss_cons (os_if (ot_cmp (op_eqU C.un) ok_eq (o_var 2) o_int (nomark _)) (oss_one (os_ret (o_var 1))) oss_nil)
    (oss_cons (os_forG C (oj_range2 (by rfl) T.n_range (oa_cons o_int (oa_cons (o_op op_addU ok_add (o_var 1) o_int) oa_nil))) (og_name C.nd 3) (oss_one (os_if (ot_cmp (op_eqU C.un) ok_eq (o_op op_addU ok_add (o_op op_addU ok_add (o_var 3) (o_ix C.un (o_ix C.un (o_var 0) (o_op op_sub ok_sub (o_var 2) o_int)) (o_op op_sub ok_sub (o_var 1) (o_var 3)))) (o_ix C.un (o_ix C.un (o_var 0) (o_var 2)) (o_op op_sub ok_sub (o_var 3) o_int))) (o_ix C.un (o_ix C.un (o_var 0) (o_var 2)) (o_var 1)) (nomark _)) (oss_one (os_ret (o_var 3))) oss_nil)))
    (oss_one (os_ret (o_var 1)))))
theorem ok__law_listof (T : Txt P w K mg base cA a) : FnG P w K mg base cA false 3 a.f__law_listof a.d__law_listof ["n", "many"] F__law_listof := by
  rw [F__law_listof_eq]
  refine fn_g (N := N__law_listof) (k := 2) T.F__law_listof sc__law_listof fun Z cdv A outer s H E hz C => ?_
  obtain rfl : Z = none := hz.resolve_right Bool.false_ne_true
  exact (oss_cons (os_set C.nd 2 (o_callB (call_min2 (C.calm rfl)) ok_min2 (by rfl) T.n_min boot_min (oa_cons (o_var 0) (oa_cons (o_var 1) oa_nil))))
    (oss_cons (os_set C.nd 3 (o_ofC (oc_call C (ok__law_leasttable T) (by decide) (.inl rfl) (by rfl) T.m__law_leasttable T.k__law_leasttable T.b__law_leasttable (or_cons (o_var 0) (or_cons (o_var 2) or_nil)))))
    (oss_cons (os_setO C.nd 4 (on_lst (oa_cons (o_tup (oa_cons (o_var 0) (oa_cons o_int (oa_cons o_int oa_nil)))) oa_nil)))
    (oss_cons (os_setO C.nd 5 (on_lst oa_nil))
    (oss_cons (os_forG C (oj_range1 (by rfl) T.n_range (oa_cons (o_op op_addU ok_add (o_op op_mulU ok_mul o_int (o_var 0)) o_int) oa_nil)) (og_name C.nd 6) (oss_cons (os_if (ot_cmp (op_eqU C.un) ok_eq (o_lenS 4 (by rfl) T.n_len boot_len) o_int (nomark _)) (oss_one os_break) oss_nil)
    (oss_cons (os_asg (o_meth0 4 PySem.F.plainAttrs_list PySem.F.slot_list_pop PySem.F.type_list_pop mt_pop ok_pop tyO_list) (og_tup (C.calm rfl) (ogs_cons (og_name C.nd 7) (ogs_cons (og_name C.nd 8) (ogs_cons (og_name C.nd 9) ogs_nil)))))
    (oss_one (os_if (ot_cmp op_isN ok_isN (o_var 7) o_non (nomark _)) (oss_one (os_appd 5 (o_tup (oa_cons o_str (oa_cons (o_var 8) oa_nil))))) (oss_one (os_if (ot_cmp op_gt ok_gt (o_var 7) o_int (nomark _)) (oss_cons (os_set C.nd 10 (o_ofC (oc_call C (ok__law_stopof T) (by decide) (.inl rfl) (by rfl) T.m__law_stopof T.k__law_stopof T.b__law_stopof (or_cons (o_var 3) (or_cons (o_var 7) (or_cons (o_callB (call_min2 (C.calm rfl)) ok_min2 (by rfl) T.n_min boot_min (oa_cons (o_op op_addU ok_add (o_op op_sub ok_sub (o_var 1) (o_var 9)) o_int) (oa_cons (o_var 2) oa_nil))) or_nil))))))
    (oss_cons (os_setR C.nd 5 (oc_n (on_add (o_ofN (on_addL 5 (o_lst (oa_cons (o_tup (oa_cons o_str (oa_cons (o_var 8) (oa_cons (o_var 9) oa_nil)))) oa_nil)))) (o_mulA (o_lst (oa_cons (o_tup (oa_cons o_str (oa_cons (o_var 9) (oa_cons (o_var 9) oa_nil)))) oa_nil)) (o_op op_sub ok_sub (o_var 10) o_int)))))
    (oss_cons (os_appd 4 (o_tup (oa_cons (o_op op_sub ok_sub (o_var 10) o_int) (oa_cons (o_var 8) (oa_cons (o_var 9) oa_nil)))))
    (oss_cons (os_appd 4 (o_tup (oa_cons o_non (oa_cons (o_var 9) (oa_cons o_int oa_nil)))))
    (oss_one (os_appd 4 (o_tup (oa_cons (o_op op_sub ok_sub (o_var 7) (o_var 10)) (oa_cons (o_var 9) (oa_cons (o_op op_addU ok_add (o_var 9) o_int) oa_nil)))))))))) oss_nil)))))))
    (oss_one (os_retV 5)))))))
theorem ok__law_refusal (T : Txt P w K mg base cA a) : FnG P w K mg base cA true 11 a.f__law_refusal a.d__law_refusal ["e"] F__law_refusal := by
  rw [F__law_refusal_eq]
  refine fn_g (N := N__law_refusal) (k := 10) T.F__law_refusal sc__law_refusal fun Z cdv A outer s H E hz C => ?_
  exact (oss_cons (os_if ((ow_and (ot_val (o_isE C 0 T.s_BadMove (clsAt_own (by rfl) T.m_BadMove) (by rfl) T.n_isinstance boot_isinstance)) (ow_and1 (ot_val (o_ofC (oc_call C (ok__law_clean T) (by decide) (.inr rfl) (by rfl) T.m__law_clean T.k__law_clean T.b__law_clean (or_slot 0 (or_cons o_str (or_cons o_str or_nil))))))))).pt (oss_one (os_ret (o_tup (oa_cons o_str (oa_cons (o_fld C 0 T.k_fld_at) oa_nil))))) oss_nil)
    (oss_cons (os_if ((ow_and (ot_val (o_isE C 0 T.s_BadCells (clsAt_own (by rfl) T.m_BadCells) (by rfl) T.n_isinstance boot_isinstance)) (ow_and1 (ot_val (o_ofC (oc_call C (ok__law_clean T) (by decide) (.inr rfl) (by rfl) T.m__law_clean T.k__law_clean T.b__law_clean (or_slot 0 (or_cons o_str (or_cons o_str or_nil))))))))).pt (oss_one (os_ret (o_tup (oa_cons o_str (oa_cons (o_fld C 0 T.k_fld_cells) oa_nil))))) oss_nil)
    (oss_one (os_ret (o_tup (oa_cons o_str oa_nil))))))
theorem ok__law_said (T : Txt P w K mg base cA a) : FnG P w K mg base cA false 12 a.f__law_said a.d__law_said ["n", "many", "moves"] F__law_said := by
  rw [F__law_said_eq]
  refine fn_g (N := N__law_said) (k := 11) T.F__law_said sc__law_said fun Z cdv A outer s H E hz C => ?_
  obtain rfl : Z = none := hz.resolve_right Bool.false_ne_true
  exact (oss_one (os_try C rfl rfl rfl rfl rfl ⟨rfl, by decide, .inl T.m_VaultError⟩ T.t_VaultError (fun _ _ _ C1 => (oss_cons (os_if (ot_cmp op_isN ok_isN (o_var 2) o_non (nomark _)) (oss_one (os_ret (o_tup (oa_cons o_bl (oa_cons (o_ofC (oc_call C1 (ok_move_list T) (by decide) (.inl rfl) (by rfl) T.m_move_list T.k_move_list T.b_move_list (or_cons (o_var 0) (or_cons (o_var 1) or_nil)))) oa_nil))))) oss_nil)
    (oss_one (os_ret (o_tup (oa_cons o_bl (oa_cons (o_ofC (oc_call C1 (ok_check_moves T) (by decide) (.inl rfl) (by rfl) T.m_check_moves T.k_check_moves T.b_check_moves (or_cons (o_var 0) (or_cons (o_var 1) (or_cons (o_var 2) or_nil))))) oa_nil))))))) (fun _ _ C2 => (oss_one (os_ret (o_tup (oa_cons o_bl (oa_cons (o_ofC (oc_call C2 (ok__law_refusal T) (by decide) (.inr rfl) (by rfl) T.m__law_refusal T.k__law_refusal T.b__law_refusal (or_slot 3 or_nil))) oa_nil))))))))
theorem ok__law_playsright (T : Txt P w K mg base cA a) : FnG P w K mg base cA false 13 a.f__law_playsright a.d__law_playsright ["n", "many", "moves"] F__law_playsright := by
  rw [F__law_playsright_eq]
  refine fn_g (N := N__law_playsright) (k := 12) T.F__law_playsright sc__law_playsright fun Z cdv A outer s H E hz C => ?_
  obtain rfl : Z = none := hz.resolve_right Bool.false_ne_true
  exact (oss_cons (os_asg (o_ofC (oc_call C (ok__law_play T) (by decide) (.inl rfl) (by rfl) T.m__law_play T.k__law_play T.b__law_play (or_cons (o_var 0) (or_cons (o_var 1) (or_cons (o_var 2) or_nil))))) (og_tup (C.calm rfl) (ogs_cons (og_name C.nd 5) (ogs_cons (og_name C.nd 6) ogs_nil))))
    (oss_cons (os_set C.nd 3 (o_tup (oa_cons (o_var 5) (oa_cons (o_var 6) oa_nil))))
    (oss_cons (os_if (ot_not (ot_tru (o_var 5))) (oss_one (os_set C.nd 3 (o_tup (oa_cons o_bl (oa_cons (o_tup (oa_cons o_str (oa_cons (o_var 6) oa_nil))) oa_nil))))) oss_nil)
    (oss_cons (os_set C.nd 4 (o_callB (cr_repr C.room.gd C.un) ok_repr (by rfl) T.n_repr boot_repr (oa_cons (o_var 2) oa_nil)))
    (oss_cons (os_if ((ow_or (ot_not (ot_val (o_ofC (oc_call C (ok__law_sameC T 8) (by decide) (.inl rfl) (by rfl) T.m__law_same T.k__law_same T.b__law_same (or_cons (o_ofC (oc_call C (ok__law_said T) (by decide) (.inl rfl) (by rfl) T.m__law_said T.k__law_said T.b__law_said (or_cons (o_var 0) (or_cons (o_var 1) (or_cons (o_var 2) or_nil))))) (or_cons (o_var 3) or_nil)))))) (ow_or1 (ot_not (ot_val (o_ofC (oc_call C (ok__law_sameC T 8) (by decide) (.inl rfl) (by rfl) T.m__law_same T.k__law_same T.b__law_same (or_cons (o_ofC (oc_call C (ok__law_said T) (by decide) (.inl rfl) (by rfl) T.m__law_said T.k__law_said T.b__law_said (or_cons (o_var 0) (or_cons (o_var 1) (or_cons (o_callTy call_tuple_of ok_tuple (by rfl) T.n_tuple boot_tuple (oa_cons (o_var 2) oa_nil)) or_nil))))) (or_cons (o_var 3) or_nil))))))))).pt (oss_one (os_ret o_bl)) oss_nil)
    (oss_one (os_ret (o_and (o_ofC (oc_call C (ok__law_sameC T 8) (by decide) (.inl rfl) (by rfl) T.m__law_same T.k__law_same T.b__law_same (or_cons (o_ofC (oc_call C (ok__law_said T) (by decide) (.inl rfl) (by rfl) T.m__law_said T.k__law_said T.b__law_said (or_cons (o_var 0) (or_cons (o_var 1) (or_cons (o_var 2) or_nil))))) (or_cons (o_var 3) or_nil)))) (o_one (o_cmp (op_eqU C.un) ok_eq (o_callB (cr_repr C.room.gd C.un) ok_repr (by rfl) T.n_repr boot_repr (oa_cons (o_var 2) oa_nil)) (o_var 4) (nomark _)))))))))))
theorem ok__law_listright (T : Txt P w K mg base cA a) : FnG P w K mg base cA false 14 a.f__law_listright a.d__law_listright ["store", "n", "many"] F__law_listright := by
  rw [F__law_listright_eq]
  refine fn_g (N := N__law_listright) (k := 13) T.F__law_listright sc__law_listright fun Z cdv A outer s H E hz C => ?_
  obtain rfl : Z = none := hz.resolve_right Bool.false_ne_true
  exact (oss_cons (os_set C.nd 3 (o_ofC (oc_call C (ok__law_listof T) (by decide) (.inl rfl) (by rfl) T.m__law_listof T.k__law_listof T.b__law_listof (or_cons (o_var 1) (or_cons (o_var 2) or_nil)))))
    (oss_cons (os_setR C.nd 4 (oc_call C (ok_move_list T) (by decide) (.inl rfl) (by rfl) T.m_move_list T.k_move_list T.b_move_list (or_cons (o_var 1) (or_cons (o_var 2) or_nil))))
    (oss_cons (os_if ((ow_or (ot_not (ot_val (o_ofC (oc_call C (ok__law_sameS0 T) (by decide) (.inl rfl) (by rfl) T.m__law_same T.k__law_same T.b__law_same (or_slot 4 (or_cons (o_var 3) or_nil)))))) (ow_or1 (ot_not (ot_val (o_ofC (oc_call C (ok__law_sameC T 8) (by decide) (.inl rfl) (by rfl) T.m__law_same T.k__law_same T.b__law_same (or_cons (o_ofC (oc_call C (ok__law_said T) (by decide) (.inl rfl) (by rfl) T.m__law_said T.k__law_said T.b__law_said (or_cons (o_var 1) (or_cons (o_var 2) (or_cons (o_var 3) or_nil))))) (or_cons (o_tup (oa_cons o_bl (oa_cons (o_ofC (oc_call C (ok__law_leastups T) (by decide) (.inl rfl) (by rfl) T.m__law_leastups T.k__law_leastups T.b__law_leastups (or_cons (o_var 1) (or_cons (o_var 2) or_nil)))) oa_nil))) or_nil))))))))).pt (oss_one (os_ret o_bl)) oss_nil)
    (oss_cons (os_appd 4 (o_tup (oa_cons o_str (oa_cons o_int oa_nil))))
    (oss_one (os_ret (o_and (o_ofC (oc_call C (ok__law_sameC T 8) (by decide) (.inl rfl) (by rfl) T.m__law_same T.k__law_same T.b__law_same (or_cons (o_ofC (oc_call C (ok_move_list T) (by decide) (.inl rfl) (by rfl) T.m_move_list T.k_move_list T.b_move_list (or_cons (o_var 1) (or_cons (o_var 2) or_nil)))) (or_cons (o_var 3) or_nil)))) (o_one (o_ofC (oc_call C (ok__law_playsright T) (by decide) (.inl rfl) (by rfl) T.m__law_playsright T.k__law_playsright T.b__law_playsright (or_cons (o_var 1) (or_cons (o_var 2) (or_cons (o_ofC (oc_call C (ok__law_movesbent T) (by decide) (.inl rfl) (by rfl) T.m__law_movesbent T.k__law_movesbent T.b__law_movesbent (or_slot 0 (or_cons (o_var 3) (or_cons (o_var 2) or_nil))))) or_nil)))))))))))))
theorem ok_law (T : Txt P w K mg base cA a) : FnG P w K mg base cA false 49 a.f_law a.d_law ["script"] F_law := by
  rw [F_law_eq]
  refine fn_g (N := N_law) (k := 48) T.F_law sc_law fun Z cdv A outer s H E hz C => ?_
  obtain rfl : Z = none := hz.resolve_right Bool.false_ne_true
  exact (oss_cons (os_setR C.nd 1 (oc_call C (ok__law_store T) (by decide) (.inl rfl) (by rfl) T.m__law_store T.k__law_store T.b__law_store (or_cons (o_var 0) or_nil)))
    (oss_cons (os_set C.nd 2 (o_op op_sub ok_sub (o_ofC (oc_call C (ok__law_length T) (by decide) (.inl rfl) (by rfl) T.m__law_length T.k__law_length T.b__law_length (or_slot 1 or_nil))) (o_callTy call_int1 ok_int1 (by rfl) T.n_int boot_int (oa_cons (o_ofC (oc_call C (ok__law_odds T) (by decide) (.inl rfl) (by rfl) T.m__law_odds T.k__law_odds T.b__law_odds (or_slot 1 (or_cons o_int or_nil)))) oa_nil))))
    (oss_cons (os_set C.nd 3 (o_ofC (oc_call C (ok__law_cellcount T) (by decide) (.inl rfl) (by rfl) T.m__law_cellcount T.k__law_cellcount T.b__law_cellcount (or_slot 1 or_nil))))
    (oss_cons (os_if (ot_not (ot_val (o_ofC (oc_call C (ok__law_listright T) (by decide) (.inl rfl) (by rfl) T.m__law_listright T.k__law_listright T.b__law_listright (or_slot 1 (or_cons (o_var 2) (or_cons (o_var 3) or_nil))))))) (oss_one (os_ret o_bl)) oss_nil)
    (oss_cons (os_set C.nd 4 (o_callB (call_min2 (C.calm rfl)) ok_min2 (by rfl) T.n_min boot_min (oa_cons (o_var 2) (oa_cons o_int oa_nil))))
    (oss_cons (os_set C.nd 5 (o_ofC (oc_call C (ok__law_moves T 44) (by decide) (.inl rfl) (by rfl) T.m__law_moves T.k__law_moves T.b__law_moves (or_slot 1 (or_cons (o_var 4) (or_cons o_int (or_cons o_int (or_cons (o_var 3) or_nil))))))))
    (oss_cons (os_set C.nd 6 (o_ofC (oc_call C (ok__law_movesbent T) (by decide) (.inl rfl) (by rfl) T.m__law_movesbent T.k__law_movesbent T.b__law_movesbent (or_slot 1 (or_cons (o_var 5) (or_cons (o_var 3) or_nil))))))
    (oss_cons (os_set C.nd 7 (o_lst (oa_cons (o_var 5) (oa_cons (o_var 6) (oa_cons (o_ofC (oc_call C (ok__law_movesbent T) (by decide) (.inl rfl) (by rfl) T.m__law_movesbent T.k__law_movesbent T.b__law_movesbent (or_slot 1 (or_cons (o_var 5) (or_cons (o_var 3) or_nil))))) (oa_cons (o_ofC (oc_call C (ok__law_movesbent T) (by decide) (.inl rfl) (by rfl) T.m__law_movesbent T.k__law_movesbent T.b__law_movesbent (or_slot 1 (or_cons (o_var 6) (or_cons (o_var 3) or_nil))))) (oa_cons (o_slice (o_var 5) op_none (op_some (o_neg o_int))) (oa_cons (o_lst oa_nil) oa_nil))))))))
    (oss_cons (os_set C.nd 7 (o_op op_addU ok_add (o_var 7) (o_lst (oa_cons (o_op op_addU ok_add (o_var 5) (o_lst (oa_cons (o_tup (oa_cons o_str (oa_cons o_int oa_nil))) oa_nil))) (oa_cons (o_op op_addU ok_add (o_var 5) (o_lst (oa_cons (o_tup (oa_cons o_str (oa_cons o_int (oa_cons o_int oa_nil)))) oa_nil))) (oa_cons (o_slice (o_var 5) op_none (op_some (o_ofC (oc_call C (ok__law_take T) (by decide) (.inl rfl) (by rfl) T.m__law_take T.k__law_take T.b__law_take (or_slot 1 (or_cons (o_op op_addU ok_add (o_len (by rfl) T.n_len boot_len (oa_cons (o_var 5) oa_nil)) o_int) or_nil)))))) oa_nil))))))
    (oss_cons (os_forG C (oj_list (o_var 7)) (og_name C.nd 8) (oss_one (os_if (ot_not (ot_val (o_ofC (oc_call C (ok__law_playsright T) (by decide) (.inl rfl) (by rfl) T.m__law_playsright T.k__law_playsright T.b__law_playsright (or_cons (o_var 4) (or_cons (o_var 3) (or_cons (o_var 8) or_nil))))))) (oss_one (os_ret o_bl)) oss_nil)))
    (oss_cons (os_set C.nd 9 (o_lst (oa_cons (o_tup (oa_cons o_str (oa_cons o_int (oa_cons o_int oa_nil)))) (oa_cons (o_tup (oa_cons o_str (oa_cons o_int oa_nil))) oa_nil))))
    (oss_cons (os_if ((ow_or (ot_not (ot_val (o_ofC (oc_call C (ok__law_playsright T) (by decide) (.inl rfl) (by rfl) T.m__law_playsright T.k__law_playsright T.b__law_playsright (or_cons o_int (or_cons (o_var 3) (or_cons (o_lst oa_nil) or_nil))))))) (ow_or (ot_not (ot_val (o_ofC (oc_call C (ok__law_playsright T) (by decide) (.inl rfl) (by rfl) T.m__law_playsright T.k__law_playsright T.b__law_playsright (or_cons o_int (or_cons (o_var 3) (or_cons (o_var 9) or_nil))))))) (ow_or1 (ot_not (ot_val (o_ofC (oc_call C (ok__law_playsright T) (by decide) (.inl rfl) (by rfl) T.m__law_playsright T.k__law_playsright T.b__law_playsright (or_cons o_int (or_cons (o_var 3) (or_cons (o_var 9) or_nil))))))))))).pt (oss_one (os_ret o_bl)) oss_nil)
    (oss_cons (os_set C.nd 10 (o_lst (oa_cons (o_lst (oa_cons (o_tup (oa_cons o_str (oa_cons o_bl (oa_cons o_int oa_nil)))) (oa_cons (o_tup (oa_cons o_str (oa_cons o_int oa_nil))) oa_nil))) (oa_cons (o_lst (oa_cons (o_tup (oa_cons o_str (oa_cons o_int (oa_cons o_bl oa_nil)))) (oa_cons (o_tup (oa_cons o_str (oa_cons o_int oa_nil))) oa_nil))) (oa_cons (o_lst (oa_cons (o_tup (oa_cons o_str (oa_cons o_int (oa_cons o_int oa_nil)))) (oa_cons (o_tup (oa_cons o_str (oa_cons o_bl oa_nil))) oa_nil))) oa_nil)))))
    (oss_cons (os_forG C (oj_list (o_op op_addU ok_add (o_var 10) (o_lst (oa_cons (o_var 9) oa_nil)))) (og_name C.nd 8) (oss_one (os_if (ot_not (ot_val (o_ofC (oc_call C (ok__law_playsright T) (by decide) (.inl rfl) (by rfl) T.m__law_playsright T.k__law_playsright T.b__law_playsright (or_cons o_int (or_cons o_int (or_cons (o_var 8) or_nil))))))) (oss_one (os_ret o_bl)) oss_nil)))
    (oss_cons (os_set C.nd 11 (o_ofC (oc_call C (ok__law_badcells T) (by decide) (.inl rfl) (by rfl) T.m__law_badcells T.k__law_badcells T.b__law_badcells (or_slot 1 or_nil))))
    (oss_cons (os_set C.nd 12 (o_lst (oa_cons (o_ofC (oc_call C (ok__law_said T) (by decide) (.inl rfl) (by rfl) T.m__law_said T.k__law_said T.b__law_said (or_cons (o_var 4) (or_cons (o_var 11) (or_cons (o_var 6) or_nil))))) (oa_cons (o_ofC (oc_call C (ok__law_said T) (by decide) (.inl rfl) (by rfl) T.m__law_said T.k__law_said T.b__law_said (or_cons (o_var 2) (or_cons (o_var 11) (or_cons o_non or_nil))))) (oa_cons (o_ofC (oc_call C (ok__law_said T) (by decide) (.inl rfl) (by rfl) T.m__law_said T.k__law_said T.b__law_said (or_cons (o_var 4) (or_cons (o_var 11) (or_cons (o_var 5) or_nil))))) oa_nil)))))
    (oss_one (os_retR (oc_call C (ok__law_sameC T 8) (by decide) (.inl rfl) (by rfl) T.m__law_same T.k__law_same T.b__law_same (or_cons (o_var 12) (or_cons (o_ofN (on_lcG (own := [("k", 13)]) C (oj_range1 (by rfl) T.n_range (oa_cons o_int oa_nil)) (by exact blkOk_by (N := N_law) (sc := defScope s_law) (by decide +kernel)) (by decide) (fun _ _ _ _ _ => (og_name (C.blk _ _ _ _).nd 13)) (fun _ _ _ _ _ => ots_nil) (fun _ _ _ _ _ => (o_tup (oa_cons o_bl (oa_cons (o_tup (oa_cons o_str (oa_cons (o_var 11) oa_nil))) oa_nil)))))) or_nil)))))))))))))))))))))
end
end L
end

section
open PySem PySem.Spec PyProof.Rows L2 VS
local macro_rules | `(tactic| walk_at "vFl") => `(tactic| (with_reducible refine w_retVo (by with_unfolding_all rfl) ?_))
local macro_rules | `(tactic| walk_at "vFl") => `(tactic| (with_reducible refine w_retVd (by with_unfolding_all rfl) ?_))
local macro_rules | `(tactic| walk_at "vFl") => `(tactic| (with_reducible refine w_app (by with_unfolding_all rfl) ?_))
local macro_rules | `(tactic| walk_at "vFl") => `(tactic| (with_reducible refine w_aug (by with_unfolding_all rfl) ?_))
local macro_rules | `(tactic| walk_at "vFl") => `(tactic| (with_reducible refine w_augK (by with_unfolding_all rfl) ?_))
local macro_rules | `(tactic| walk_at "vFl") => `(tactic| (with_reducible refine w_delK (by with_unfolding_all rfl) ?_))
local macro_rules | `(tactic| walk_at "vFl") => `(tactic| (with_reducible refine w_setK ?_))
local macro_rules | `(tactic| walk_at "vFl") => `(tactic| (with_reducible refine w_raise ?_))
local macro_rules | `(tactic| walk_at "vFl") => `(tactic| (with_reducible refine w_for ?_))
local macro_rules | `(tactic| walk_at "vFl") => `(tactic| (with_reducible refine w_setL ?_))
local macro_rules | `(tactic| walk_at "vFl") => `(tactic| (with_reducible refine w_drop ?_))
local macro_rules | `(tactic| walk_at "vFl") => `(tactic| (with_reducible refine w_cnt ?_))
local macro_rules | `(tactic| walk_at "vFl") => `(tactic| (with_reducible refine w_brk ?_))
local macro_rules | `(tactic| walk_at "vFl") => `(tactic| (with_reducible refine w_next ?_))
local macro_rules | `(tactic| walk_at "vFl") => `(tactic| (with_reducible refine w_retR ?_))
local macro_rules | `(tactic| walk_at "vFl") => `(tactic| (with_reducible refine w_retO ?_))
local macro_rules | `(tactic| walk_at "vFl") => `(tactic| (with_reducible refine w_retN ?_))
local macro_rules | `(tactic| walk_at "vFl") => `(tactic| (with_reducible refine w_ret ?_))
local macro_rules | `(tactic| walk_at "vFl") => `(tactic| (with_reducible refine w_if ?_))
local macro_rules | `(tactic| walk_at "vFl") => `(tactic| (with_reducible refine w_asgR ?_))
local macro_rules | `(tactic| walk_at "vFl") => `(tactic| (with_reducible refine w_asgO ?_))
local macro_rules | `(tactic| walk_at "vFl") => `(tactic| (with_reducible refine w_asg ?_))
local macro_rules | `(tactic| walk_at "vFl") => `(tactic| (with_reducible refine w_seq ?_))
local macro_rules | `(tactic| walk_at "vE") => `(tactic| (with_reducible refine w_ixAL (by with_unfolding_all rfl) (by with_unfolding_all rfl) ?_))
local macro_rules | `(tactic| walk_at "vE") => `(tactic| (with_reducible refine w_meth (by with_unfolding_all rfl) (by with_unfolding_all rfl) ?_))
local macro_rules | `(tactic| walk_at "vE") => `(tactic| (with_reducible refine w_lenS (by with_unfolding_all rfl) ?_))
local macro_rules | `(tactic| walk_at "vE") => `(tactic| (with_reducible refine w_ixS (by with_unfolding_all rfl) ?_))
local macro_rules | `(tactic| walk_at "vE") => `(tactic| (with_reducible refine w_get2S (by with_unfolding_all rfl) ?_))
local macro_rules | `(tactic| walk_at "vE") => `(tactic| (with_reducible refine w_get1S (by with_unfolding_all rfl) ?_))
local macro_rules | `(tactic| walk_at "vE") => `(tactic| (with_reducible refine w_ixAK (by with_unfolding_all rfl) ?_))
local macro_rules | `(tactic| walk_at "vE") => `(tactic| (with_reducible refine w_ixK (by with_unfolding_all rfl) ?_))
local macro_rules | `(tactic| walk_at "vE") => `(tactic| (with_reducible refine w_varO (by with_unfolding_all rfl) ?_))
local macro_rules | `(tactic| walk_at "vE") => `(tactic| (with_reducible refine w_jc ?_))
local macro_rules | `(tactic| walk_at "vE") => `(tactic| (with_reducible refine w_jn ?_))
local macro_rules | `(tactic| walk_at "vE") => `(tactic| (with_reducible refine w_fmt ?_))
local macro_rules | `(tactic| walk_at "vE") => `(tactic| (with_reducible refine w_neg ?_))
local macro_rules | `(tactic| walk_at "vE") => `(tactic| (with_reducible refine w_get1 ?_))
local macro_rules | `(tactic| walk_at "vE") => `(tactic| (with_reducible refine w_get2 ?_))
local macro_rules | `(tactic| walk_at "vE") => `(tactic| (with_reducible refine w_notInS ?_))
local macro_rules | `(tactic| walk_at "vE") => `(tactic| (with_reducible refine w_inS ?_))
local macro_rules | `(tactic| walk_at "vE") => `(tactic| (with_reducible refine w_md ?_))
local macro_rules | `(tactic| walk_at "vE") => `(tactic| (with_reducible refine w_ifE ?_))
local macro_rules | `(tactic| walk_at "vE") => `(tactic| (with_reducible refine w_chain ?_))
local macro_rules | `(tactic| walk_at "vE") => `(tactic| (with_reducible refine w_rev ?_))
local macro_rules | `(tactic| walk_at "vE") => `(tactic| (with_reducible refine w_sl ?_))
local macro_rules | `(tactic| walk_at "vE") => `(tactic| (with_reducible refine w_isi ?_))
local macro_rules | `(tactic| walk_at "vE") => `(tactic| (with_reducible refine w_tup ?_))
local macro_rules | `(tactic| walk_at "vE") => `(tactic| (with_reducible refine w_lst ?_))
local macro_rules | `(tactic| walk_at "vE") => `(tactic| (with_reducible refine w_notV ?_))
local macro_rules | `(tactic| walk_at "vE") => `(tactic| (with_reducible refine w_orV ?_))
local macro_rules | `(tactic| walk_at "vE") => `(tactic| (with_reducible refine w_andV ?_))
local macro_rules | `(tactic| walk_at "vE") => `(tactic| (with_reducible refine w_ofN ?_))
local macro_rules | `(tactic| walk_at "vE") => `(tactic| (with_reducible refine w_b ?_))
local macro_rules | `(tactic| walk_at "vE") => `(tactic| (with_reducible refine w_var (by with_unfolding_all rfl) ?_))
local macro_rules | `(tactic| walk_at "vE") => `(tactic| (with_reducible refine w_ofC ?_))
local macro_rules | `(tactic| walk_at "vE") => `(tactic| (with_reducible refine w_c ?_))
local macro_rules | `(tactic| walk_at "vE") => `(tactic| (with_reducible refine w_op ?_))
local macro_rules | `(tactic| walk_at "vAr") => `(tactic| (with_reducible refine w_argS (by with_unfolding_all rfl) ?_))
local macro_rules | `(tactic| walk_at "vAr") => `(tactic| (with_reducible refine w_argsK ?_))
local macro_rules | `(tactic| walk_at "vAr") => `(tactic| (with_reducible refine w_noArg ?_))
local macro_rules | `(tactic| walk_at "vAr") => `(tactic| (with_reducible refine w_arg ?_))
local macro_rules | `(tactic| walk_at "vLs") => `(tactic| (with_reducible refine w_keysIt ?_))
local macro_rules | `(tactic| walk_at "vLs") => `(tactic| (with_reducible refine w_itemsIt ?_))
local macro_rules | `(tactic| walk_at "vLs") => `(tactic| (with_reducible refine w_walk3 ?_))
local macro_rules | `(tactic| walk_at "vLs") => `(tactic| (with_reducible refine w_itemsT ?_))
local macro_rules | `(tactic| walk_at "vLs") => `(tactic| (with_reducible refine w_items ?_))
local macro_rules | `(tactic| walk_at "vLs") => `(tactic| (with_reducible refine w_rng ?_))
local macro_rules | `(tactic| walk_at "vLs") => `(tactic| (with_reducible refine w_nil ?_))
local macro_rules | `(tactic| walk_at "vLs") => `(tactic| (with_reducible refine w_cons ?_))
local macro_rules | `(tactic| walk_at "vB") => `(tactic| (with_reducible refine w_truS (by with_unfolding_all rfl) ?_))
local macro_rules | `(tactic| walk_at "vB") => `(tactic| (with_reducible refine w_tru ?_))
local macro_rules | `(tactic| walk_at "vB") => `(tactic| (with_reducible refine w_yes ?_))
local macro_rules | `(tactic| walk_at "vB") => `(tactic| (with_reducible refine w_not ?_))
local macro_rules | `(tactic| walk_at "vB") => `(tactic| (with_reducible refine w_or ?_))
local macro_rules | `(tactic| walk_at "vB") => `(tactic| (with_reducible refine w_and ?_))
local macro_rules | `(tactic| walk_at "vB") => `(tactic| (with_reducible refine w_test ?_))
local macro_rules | `(tactic| walk_at "vR") => `(tactic| (with_reducible refine w_rvD ?_))
local macro_rules | `(tactic| walk_at "vR") => `(tactic| (with_reducible refine w_rvN ?_))
local macro_rules | `(tactic| walk_at "vR") => `(tactic| (with_reducible refine w_call ?_))
local macro_rules | `(tactic| walk_at "vO") => `(tactic| (with_reducible refine w_naddL (by with_unfolding_all rfl) ?_))
local macro_rules | `(tactic| walk_at "vO") => `(tactic| (with_reducible refine w_naddR ?_))
local macro_rules | `(tactic| walk_at "vO") => `(tactic| (with_reducible refine w_nadd ?_))
local macro_rules | `(tactic| walk_at "vO") => `(tactic| (with_reducible refine w_dc ?_))
local macro_rules | `(tactic| walk_at "vO") => `(tactic| (with_reducible refine w_dct ?_))
local macro_rules | `(tactic| walk_at "vO") => `(tactic| (with_reducible refine w_dct0 ?_))
local macro_rules | `(tactic| walk_at "vO") => `(tactic| (with_reducible refine w_nb ?_))
local macro_rules | `(tactic| walk_at "vO") => `(tactic| (with_reducible refine w_lc ?_))
local macro_rules | `(tactic| walk_at "vO") => `(tactic| (with_reducible refine w_nlst ?_))
local macro_rules | `(tactic| walk_at "vP") => `(tactic| (with_reducible refine w_noPart ?_))
local macro_rules | `(tactic| walk_at "vP") => `(tactic| (with_reducible refine w_part ?_))
local macro_rules | `(tactic| walk_at "vK") => `(tactic| (with_reducible refine w_pcons ?_))
local macro_rules | `(tactic| walk_at "vK") => `(tactic| (with_reducible refine w_pnil ?_))
local macro_rules | `(tactic| walk_at "vW") => `(tactic| ((with_reducible show VS.W (α := List (D × D)) _ _ _ _); walk_at "vK"))
local macro_rules | `(tactic| walk_at "vW") => `(tactic| ((with_reducible show VS.W (α := Option Int) _ _ _ _); walk_at "vP"))
local macro_rules | `(tactic| walk_at "vW") => `(tactic| ((with_reducible show VS.W (α := O) _ _ _ _); walk_at "vO"))
local macro_rules | `(tactic| walk_at "vW") => `(tactic| ((with_reducible show VS.W (α := Rv) _ _ _ _); walk_at "vR"))
local macro_rules | `(tactic| walk_at "vW") => `(tactic| ((with_reducible show VS.W (α := Bool) _ _ _ _); walk_at "vB"))
local macro_rules | `(tactic| walk_at "vW") => `(tactic| ((with_reducible show VS.W (α := List D) _ _ _ _); walk_at "vLs"))
local macro_rules | `(tactic| walk_at "vW") => `(tactic| ((with_reducible show VS.W (α := List (Option D)) _ _ _ _); walk_at "vAr"))
local macro_rules | `(tactic| walk_at "vW") => `(tactic| ((with_reducible show VS.W (α := D) _ _ _ _); walk_at "vE"))
local macro_rules | `(tactic| walk_at "vW") => `(tactic| ((with_reducible show VS.W (α := Fl) _ _ _ _); walk_at "vFl"))
local macro_rules | `(tactic| walk_at "vn") => `(tactic| (dsimp only [Rv.toD, O.toD, VS.isNon, Ty.is]))
local macro_rules | `(tactic| walk_at "vn") => `(tactic| (with_reducible refine And.intro (a := _ = true) (by with_unfolding_all rfl) ?_))
local macro_rules | `(tactic| walk_at "vn") => `(tactic| ((with_reducible refine setk_mk (by with_unfolding_all rfl) (by with_unfolding_all rfl) ?_ ?_); first | omega | assumption))
local macro_rules | `(tactic| walk_at "vn") => `(tactic| (with_reducible refine getk_mk (by with_unfolding_all rfl) (by with_unfolding_all rfl) ?_))
local macro_rules | `(tactic| walk_at "vn") => `(tactic| (with_reducible refine part_mk ?_))
local macro_rules | `(tactic| walk_at "vn") => `(tactic| (with_reducible refine setL_mk (by with_unfolding_all rfl) (by with_unfolding_all rfl) ?_))
local macro_rules | `(tactic| walk_at "vn") => `(tactic| (with_reducible refine ixs_mk (by with_unfolding_all rfl) (by with_unfolding_all rfl) ?_))
local macro_rules | `(tactic| walk_at "vn") => `(tactic| (with_reducible refine Exists.intro _ (And.intro (by with_unfolding_all rfl) ?_)))
local macro_rules | `(tactic| walk_at "vn") => `(tactic| (with_reducible refine ex_wipe1 (by with_unfolding_all rfl) ?_))
local macro_rules | `(tactic| walk_at "vn") => `(tactic| (with_reducible refine op_any (z := .bl _) (by with_unfolding_all rfl) ?_))
local macro_rules | `(tactic| walk_at "vn") => `(tactic| (with_reducible refine op1_any (by with_unfolding_all rfl) ?_))
local macro_rules | `(tactic| walk_at "vn") => `(tactic| ((with_reducible refine op_powN ?_ ?_); decide))
local macro_rules | `(tactic| walk_at "vn") => `(tactic| ((with_reducible refine op_fdivN ?_ ?_ ?_); (first | decide | omega); (first | omega | decide)))
local macro_rules | `(tactic| walk_at "vn") => `(tactic| ((with_reducible refine op_modN ?_ ?_); (first | decide | omega); rintro _ _ _ _))
local macro_rules | `(tactic| walk_at "vn") => `(tactic| ((with_reducible refine op_mulN ?_ ?_); first | exact mulOk_r (by decide) | exact mulOk_l (by decide) | exact mulOk_l (by omega) | exact mulOk_r (by omega)))
local macro_rules | `(tactic| walk_at "vn") => `(tactic| (with_reducible refine isB_mk ?_))
local macro_rules | `(tactic| walk_at "vn") => `(tactic| (with_reducible refine br_n ?_))
local macro_rules | `(tactic| walk_at "vn") => `(tactic| (with_reducible refine br_f ?_))
local macro_rules | `(tactic| walk_at "vn") => `(tactic| (with_reducible refine br_t ?_))
local macro_rules | `(tactic| walk_at "vn") => `(tactic| (with_reducible refine strx_mk ?_))
local macro_rules | `(tactic| walk_at "vn") => `(tactic| (with_reducible refine dctx_mk ?_))
local macro_rules | `(tactic| walk_at "vn") => `(tactic| (with_reducible refine lstx_mk ?_))
local macro_rules | `(tactic| walk_at "vn") => `(tactic| (with_reducible refine op_addIN ?_))
local macro_rules | `(tactic| walk_at "vn") => `(tactic| (with_reducible refine op_subN ?_))
local macro_rules | `(tactic| walk_at "vn") => `(tactic| (with_reducible refine op_addN ?_))
local macro_rules | `(tactic| walk_at "vn") => `(tactic| (with_reducible refine fin_nxt ?_))
local macro_rules | `(tactic| walk_at "vn") => `(tactic| (with_reducible refine fin_ret ?_))
local macro_rules | `(tactic| walk_at "vn") => `(tactic| (with_reducible refine tn_ret ?_))
local macro_rules | `(tactic| walk_at "vn") => `(tactic| (with_reducible refine tn_brk ?_))
local macro_rules | `(tactic| walk_at "vn") => `(tactic| (with_reducible refine tn_cnt ?_))
local macro_rules | `(tactic| walk_at "vn") => `(tactic| (with_reducible refine tn_nxt ?_))
local macro_rules | `(tactic| walk_at "vn") => `(tactic| (with_reducible refine sq_cnt ?_))
local macro_rules | `(tactic| walk_at "vn") => `(tactic| (with_reducible refine sq_brk ?_))
local macro_rules | `(tactic| walk_at "vn") => `(tactic| (with_reducible refine sq_ret ?_))
local macro_rules | `(tactic| walk_at "vn") => `(tactic| (with_reducible refine sq_nxt ?_))
local macro_rules | `(tactic| walk_at "vn") => `(tactic| ((with_reducible refine op1_abs ?_); rintro _ _))
local macro_rules | `(tactic| walk_at "vn") => `(tactic| ((with_reducible refine op1_min ?_); rintro _ _))
local macro_rules | `(tactic| walk_at "vn") => `(tactic| ((with_reducible refine op1_max ?_); rintro _ _))
local macro_rules | `(tactic| walk_at "vn") => `(tactic| ((with_reducible refine rng2_mk ?_ ?_); (first | omega | decide)))
local macro_rules | `(tactic| walk_at "vn") => `(tactic| ((with_reducible refine rng1_mk ?_ ?_); (first | omega | decide)))
local macro_rules | `(tactic| walk_at "vn") => `(tactic| ((with_reducible show VS.W _ _ _ _); walk_at "vW"))
section
set_option Elab.async false
set_option linter.all false
set_option maxRecDepth 100000
set_option maxHeartbeats 4000000
set_option exponentiation.threshold 4000
namespace L
open PySem PySem.Spec PyProof.Rows L2 VS

section
variable {Q : Rv → List Sl → Prop} {E : Nat → List (Str × D) → List Sl → Prop}
theorem mix_ok (n k : Int) (q : ∀ r : Int, Q (.dat (.int r)) [.un, .un]) : (F__law_mix [.dat (.int n), .dat (.int k)]).W Q E := by
  rw [F__law_mix_eq]
  refine w_def (δ := [.dat (.int n), .dat (.int k), .un]) rfl rfl ?_
  unfold d__law_mix
  (repeat' (first | walk_at "vn" | (with_reducible refine br (fun _ => ?_) (fun _ => ?_)) | fail))
  exact q _
def Good (o : O) : Prop := ∃ (ns : List Int) (a b c d e f : Int), o = .lst [.lst (ns.map D.int), .int a, .int b, .int c, .int d, .int e, .int f] ∧ 0 ≤ a
theorem take_ok {o : O} {m : Int} (g : Good o) (hm : m.natAbs < big) (q : ∀ (r : Int) (o' : O), Good o' → 0 ≤ r → r < max 1 m → Q (.dat (.int r)) [.own true o', .un]) : (F__law_take [.own true o, .dat (.int m)]).W Q E := by
  have h1 := one_big
  obtain ⟨ns, a, b, c, d, e, f, rfl, ha⟩ := g
  rw [F__law_take_eq]
  refine w_def (δ := [.own true (.lst [.lst (ns.map D.int), .int a, .int b, .int c, .int d, .int e, .int f]), .dat (.int m), .un, .un]) rfl rfl ?_
  unfold d__law_take
  refine w_cut (fun δ => ∃ M, δ = [.own true (.lst [.lst (ns.map D.int), .int a, .int b, .int c, .int d, .int e, .int f]), .dat (.int M), .un, .un] ∧ M = max 1 m) ?_ ?_
  · (repeat' (first | walk_at "vn" | (with_reducible refine br (fun _ => ?_) (fun _ => ?_)) | fail))
    exact ⟨rfl, _, rfl, by assumption⟩
  rintro _ ⟨M, rfl, hM⟩
  refine w_cut (fun δ => ∃ d, δ = [.own true (.lst [.lst (ns.map D.int), .int a, .int b, .int c, .int d, .int e, .int f]), .dat (.int M), .un, .un]) ?_ ?_
  · (repeat' (first | walk_at "vn" | (with_reducible refine br (fun _ => ?_) (fun _ => ?_)) | fail))
    exact ⟨rfl, _, rfl⟩
  rintro _ ⟨d, rfl⟩
  refine w_cut (fun δ => ∃ a b c e s, δ = [.own true (.lst [.lst (ns.map D.int), .int a, .int b, .int c, .int d, .int e, .int f]), .dat (.int M), s, .un] ∧ 0 ≤ a) ?_ ?_
  · (repeat' (first | walk_at "vn" | (with_reducible refine br (fun _ => ?_) (fun _ => ?_)) | fail))
    all_goals first | exact ⟨rfl, _, _, _, _, _, rfl, by omega⟩ | skip
    rename_i hlt
    have hlt : a < ((ns.map D.int).length : Int) := hlt
    rw [List.length_map] at hlt
    have hn : a.toNat < ns.length := by omega
    refine op_ixN (z := .int (ns[a.toNat])) ha (by rw [List.getElem?_map, List.getElem?_eq_getElem hn]; rfl) ?_
    (repeat' (first | walk_at "vn" | (with_reducible refine br (fun _ => ?_) (fun _ => ?_)) | fail))
    all_goals exact ⟨rfl, _, _, _, _, _, rfl, by omega⟩
  rintro _ ⟨a, b, c, e, s, rfl, ha⟩
  (repeat' (first | (refine mix_ok _ _ (fun _ => ?_)) | walk_at "vn" | (with_reducible refine br (fun _ => ?_) (fun _ => ?_)) | fail))
  all_goals exact q _ _ ⟨ns, _, _, _, _, _, _, rfl, by omega⟩ (by omega) (by omega)
theorem store_ok (ns : List Int) (q : ∀ o, Good o → Q (.new o) [.un]) : (F__law_store [.dat (.rol (ns.map D.int))]).W Q E := by
  rw [F__law_store_eq]
  refine w_def (δ := [.dat (.rol (ns.map D.int)), .un, .un]) rfl rfl ?_
  unfold d__law_store
  have hl := cut_len ns
  refine w_cut (fun δ => ∃ k, δ = [.dat (.rol (ns.map D.int)), .dat (.int k), .un]) (by (repeat' (first | walk_at "vn" | (with_reducible refine br (fun _ => ?_) (fun _ => ?_)) | fail)); exact ⟨rfl, _, rfl⟩) ?_
  rintro _ ⟨k0, rfl⟩
  refine w_cut (fun δ => ∃ k s, δ = [.dat (.rol (ns.map D.int)), .dat (.int k), s] ∧ (s = .un ∨ ∃ j, s = .dat (.int j))) ?_ ?_
  · (repeat' (first | walk_at "vn" | (with_reducible refine br (fun _ => ?_) (fun _ => ?_)) | fail))
    rw [cut_map]
    refine w_loop (fun ds δ => (∃ ms : List Int, ds = ms.map D.int) ∧ ∃ k s, δ = [.dat (.rol (ns.map D.int)), .dat (.int k), s] ∧ (s = .un ∨ ∃ j, s = .dat (.int j))) _ _ ⟨⟨_, rfl⟩, _, _, rfl, .inl rfl⟩ ?_ ?_
    · rintro _ ⟨_, k, s, rfl, hs⟩
      exact ⟨rfl, _, _, rfl, hs⟩
    · rintro d ds _ ⟨⟨ms, hm⟩, k, s, rfl, hs⟩
      cases ms with
      | nil => cases hm
      | cons m ms =>
        rw [List.map_cons] at hm
        cases hm
        refine ⟨[.dat (.rol (ns.map D.int)), .dat (.int k), .dat (.int m)], ?_, ?_⟩
        · rcases hs with rfl | ⟨j, rfl⟩ <;> rfl
        (repeat' (first | walk_at "vn" | (with_reducible refine br (fun _ => ?_) (fun _ => ?_)) | fail))
        all_goals exact ⟨⟨_, rfl⟩, _, _, rfl, .inr ⟨_, rfl⟩⟩
  · rintro _ ⟨k, s, rfl, hs⟩
    have main : ∀ (s : Sl), (s = .un ∨ ∃ j, s = .dat (.int j)) → W (dRetO (nLst (dCons (dOfN (dLc (dItems (dSl (dVar 0) dNoPart (dPart (dC (.int 63))))) [2] (tName 2) dYes (dB VS.intD (dCons (dVar 2) dNil)))) (dCons (dC (.int 0)) (dCons (dC (.int 0)) (dCons (dC (.int 0)) (dCons (dC (.int 0)) (dCons (dC (.int 0)) (dCons (dVar 1) dNil)))))))))
        [.dat (.rol (ns.map D.int)), .dat (.int k), s] (VS.Fin [.dat (.rol (ns.map D.int))] Q) (fun c fs δ => E c fs (outs [.dat (.rol (ns.map D.int))] δ)) := by
      intro s hs
      have hs2 : noOwn [.dat (.rol (ns.map D.int)), .dat (.int k), s] [2] = true ∧ wipeC [2] [.dat (.rol (ns.map D.int)), .dat (.int k), s] = some [.dat (.rol (ns.map D.int)), .dat (.int k), .un] := by
        rcases hs with rfl | ⟨j, rfl⟩ <;> exact ⟨rfl, rfl⟩
      refine w_retO (w_nlst (w_cons (w_ofN (w_lc ?_))))
      (repeat' (first | walk_at "vn" | (with_reducible refine br (fun _ => ?_) (fun _ => ?_)) | fail))
      refine ⟨hs2.1, _, hs2.2, ?_⟩
      rw [cut_map]
      refine w_lcL0 (fun ds ys δ => (∃ ms : List Int, ds = ms.map D.int) ∧ (∃ ws : List Int, ys = ws.map D.int) ∧ ys.length + ds.length ≤ 63 ∧ δ = [.dat (.rol (ns.map D.int)), .dat (.int k), .un]) _ _ ⟨⟨_, rfl⟩, ⟨[], rfl⟩, by simpa using hl, rfl⟩ ?_ ?_
      · rintro zs _ ⟨_, ⟨ws, rfl⟩, hlen, rfl⟩
        refine ⟨decide_eq_true (by simp at hlen ⊢; omega), ?_⟩
        have e : restore [.dat (.rol (ns.map D.int)), .dat (.int k), s] [2] [.dat (.rol (ns.map D.int)), .dat (.int k), .un] = [.dat (.rol (ns.map D.int)), .dat (.int k), s] := rfl
        rw [e]
        (repeat' (first | walk_at "vn" | (with_reducible refine br (fun _ => ?_) (fun _ => ?_)) | fail))
        exact q _ ⟨ws, _, _, _, _, _, _, rfl, by decide⟩
      · rintro d ds ys _ ⟨⟨ms, hm⟩, ⟨ws, rfl⟩, hlen, rfl⟩
        cases ms with
        | nil => cases hm
        | cons m ms =>
          rw [List.map_cons] at hm
          cases hm
          refine ⟨[.dat (.rol (ns.map D.int)), .dat (.int k), .dat (.int m)], rfl, ?_⟩
          (repeat' (first | walk_at "vn" | (with_reducible refine br (fun _ => ?_) (fun _ => ?_)) | fail))
          exact ⟨⟨_, rfl⟩, ⟨ws ++ [m], by simp⟩, by simp at hlen ⊢; omega, rfl⟩
    exact main s hs
theorem pick_ok {o : O} {xs : List D} (g : Good o) (hx : 0 < xs.length) (hm : xs.length < 1000000) (q : ∀ (d : D) (o' : O), Good o' → d ∈ xs → Q (.dat d) [.own true o', .un]) : (F__law_pick [.own true o, .dat (.lst xs)]).W Q E := by
  have hb : 1000000 < big := by decide
  rw [F__law_pick_eq]
  refine w_def (δ := [.own true o, .dat (.lst xs)]) rfl rfl ?_
  unfold d__law_pick
  (repeat' (first | (refine take_ok g (by omega) (fun _ _ _ _ _ => ?_)) | walk_at "vn" | (with_reducible refine br (fun _ => ?_) (fun _ => ?_)) | fail))
  rename_i r o' g' h1 h2
  have hl : r.toNat < xs.length := by omega
  refine op_ixN h1 (List.getElem?_eq_getElem hl) ?_
  (repeat' (first | walk_at "vn" | (with_reducible refine br (fun _ => ?_) (fun _ => ?_)) | fail))
  exact q _ _ g' (List.getElem_mem hl)
end
end L
end

section
set_option Elab.async false
set_option linter.all false
set_option maxRecDepth 100000
set_option maxHeartbeats 4000000
set_option exponentiation.threshold 4000
namespace L
open PySem PySem.Spec PyProof.Rows L2 VS

section
variable {Q : Rv → List Sl → Prop} {E : Nat → List (Str × D) → List Sl → Prop}
theorem edge_ok {o : O} {m : Int} (g : Good o) (hm : m.natAbs < big) (q : ∀ (r : Int) (o' : O), Good o' → 0 ≤ r → r < max 1 m → Q (.dat (.int r)) [.own true o', .un]) : (F__law_edge [.own true o, .dat (.int m)]).W Q E := by
  have hb := one_big
  rw [F__law_edge_eq]
  refine w_def (δ := [.own true o, .dat (.int m), .un]) rfl rfl ?_
  unfold d__law_edge
  (repeat' (first | ((with_reducible show Cr.W _ _ _); refine take_ok (by assumption) (by first | decide | assumption) (fun _ _ _ _ _ => ?_)) | walk_at "vn" | (with_reducible refine br (fun _ => ?_) (fun _ => ?_)) | fail))
  all_goals exact q _ _ (by assumption) (by omega) (by omega)
end
end L
end

section
set_option Elab.async false
set_option linter.all false
set_option maxRecDepth 100000
set_option maxHeartbeats 4000000
set_option exponentiation.threshold 4000
namespace L
open PySem PySem.Spec PyProof.Rows L2 VS

section
variable {Q : Rv → List Sl → Prop} {E : Nat → List (Str × D) → List Sl → Prop}
theorem odds_ok {o : O} {m : Int} (g : Good o) (hm : m.natAbs < big) (q : ∀ (b : Bool) (o' : O), Good o' → Q (.dat (.bl b)) [.own true o', .un]) : (F__law_odds [.own true o, .dat (.int m)]).W Q E := by
  rw [F__law_odds_eq]
  refine w_def (δ := [.own true o, .dat (.int m)]) rfl rfl ?_
  unfold d__law_odds
  (repeat' (first | ((with_reducible show Cr.W _ _ _); refine take_ok g hm (fun _ _ _ _ _ => ?_)) | walk_at "vn" | fail))
  exact q _ _ (by assumption)
end
end L
end

section
set_option Elab.async false
set_option linter.all false
set_option maxRecDepth 100000
set_option maxHeartbeats 4000000
set_option exponentiation.threshold 4000
namespace L
open PySem PySem.Spec PyProof.Rows L2 VS
/-! the numbers C(c + q, c), their sums, the least counts -/
def B : Nat → Nat → Nat
  | 0 => fun _ => 1
  | c + 1 => fun q => Nat.rec 1 (fun q r => B c (q + 1) + r) q
theorem B_0 (q : Nat) : B 0 q = 1 := rfl
theorem B_c0 (c : Nat) : B c 0 = 1 := by cases c <;> rfl
theorem B_ss (c q : Nat) : B (c + 1) (q + 1) = B c (q + 1) + B (c + 1) q := rfl
theorem B_pos : ∀ c q : Nat, 1 ≤ B c q
  | 0, q => by rw [B_0]; exact Nat.le_refl 1
  | c + 1, 0 => Nat.le_refl 1
  | c + 1, q + 1 => by
    rw [B_ss]
    have := B_pos c (q + 1)
    omega
theorem B_up (c q : Nat) : B (c + 1) q + 1 ≤ B (c + 1) (q + 1) := by
  rw [B_ss]
  have := B_pos c (q + 1)
  omega
theorem B_mono (c : Nat) : ∀ {q r : Nat}, q ≤ r → B (c + 1) q ≤ B (c + 1) r := by
  intro q r h
  induction h with
  | refl => exact Nat.le_refl _
  | @step m h ih =>
    have := B_up c m
    show _ ≤ B (c + 1) (m + 1)
    omega
theorem B_lt (c : Nat) {q r : Nat} (h : q < r) : B (c + 1) q < B (c + 1) r := by
  have h1 := B_up c q
  have h2 := B_mono c (show q + 1 ≤ r from h)
  omega
theorem B_ge (c : Nat) : ∀ q : Nat, q + 1 ≤ B (c + 1) q
  | 0 => Nat.le_refl 1
  | q + 1 => by
    have := B_up c q
    have := B_ge c q
    omega
theorem B_Q (c : Nat) (P : ∀ q, (q + 1) * B c (q + 1) = (c + q + 1) * B c q) : ∀ q : Nat, (c + 1) * B (c + 1) q = (c + q + 1) * B c q
  | 0 => by rw [B_c0, B_c0]
  | q + 1 => by
    rw [B_ss, Nat.mul_add, B_Q c P q, ← P q, ← Nat.add_mul]
    congr 1
    omega
theorem B_P : ∀ c q : Nat, (q + 1) * B c (q + 1) = (c + q + 1) * B c q
  | 0, q => by rw [B_0, B_0, Nat.zero_add]
  | c + 1, 0 => by
    have h := B_P c 0
    rw [B_ss, B_c0]
    rw [B_c0] at h
    omega
  | c + 1, q + 1 => by
    have h := B_Q c (B_P c) (q + 1)
    have e : (c + 1) + (q + 1) + 1 = (q + 1 + 1) + (c + 1) := by omega
    rw [B_ss (c) (q + 1), Nat.mul_add, B_P c (q + 1), ← h, e, Nat.add_mul (q + 1 + 1)]
    omega
theorem B_next (c q : Nat) : (B c q : Int) * ((c : Int) + q + 1) / ((q : Int) + 1) = (B c (q + 1) : Nat) := by
  have h : (B c q : Int) * ((c : Int) + q + 1) = ((q : Int) + 1) * (B c (q + 1) : Nat) := by
    have z := B_P c q
    rw [Int.mul_comm]
    exact_mod_cast z.symm
  rw [h, Int.mul_ediv_cancel_left _ (by omega)]
/-- the sum of the first R -/
def S (c : Nat) : Nat → Nat
  | 0 => 0
  | R + 1 => S c R + B c R
theorem S_hock (c : Nat) : ∀ k : Nat, S c (k + 1) = B (c + 1) k
  | 0 => by show 0 + B c 0 = _; rw [B_c0, B_c0]
  | k + 1 => by
    show S c (k + 1) + B c (k + 1) = _
    rw [S_hock c k, B_ss, Nat.add_comm]
theorem S_two (c k : Nat) : S c (k + 1) + S (c + 1) k = S (c + 1) (k + 1) := by
  rw [S_hock]
  show _ = S (c + 1) k + B (c + 1) k
  omega
/-- the sum of what n + 1 exceeds the first R by -/
def T (c n : Nat) : Nat → Nat
  | 0 => 0
  | R + 1 => T c n R + (n + 1 - B c R)
/-- the first R bounds are at most n -/
def Rd (c n R : Nat) : Prop := (∀ q, q < R → B c q ≤ n) ∧ n < B c R
theorem Rd_uniq {c n R R' : Nat} (h : Rd (c + 1) n R) (h' : Rd (c + 1) n R') : R = R' := by
  rcases Nat.lt_trichotomy R R' with z | z | z
  · have := h'.1 R z
    have := h.2
    omega
  · exact z
  · have := h.1 R' z
    have := h'.2
    omega
theorem Rd_ge {c n R q : Nat} (h : Rd (c + 1) n R) (hq : R ≤ q) : n < B (c + 1) q := Nat.lt_of_lt_of_le h.2 (B_mono c hq)
theorem Rd_le {c n R : Nat} (h : Rd (c + 1) n R) : R ≤ n := by
  cases R with
  | zero => omega
  | succ r =>
    have := h.1 r (by omega)
    have := B_ge c r
    omega
theorem Rd_ex (c n : Nat) : ∃ R, Rd (c + 1) n R := by
  have h : ∀ k, (∃ R, R ≤ k ∧ Rd (c + 1) n R) ∨ ∀ q, q ≤ k → B (c + 1) q ≤ n := by
    intro k
    induction k with
    | zero =>
      by_cases z : B (c + 1) 0 ≤ n
      · exact .inr fun q hq => by rw [Nat.le_zero.mp hq]; exact z
      · exact .inl ⟨0, Nat.le_refl 0, fun q hq => by omega, by omega⟩
    | succ k ih =>
      rcases ih with ⟨R, h1, h2⟩ | ih
      · exact .inl ⟨R, by omega, h2⟩
      · by_cases z : B (c + 1) (k + 1) ≤ n
        · refine .inr fun q hq => ?_
          by_cases e : q = k + 1
          · rw [e]; exact z
          · exact ih q (by omega)
        · exact .inl ⟨k + 1, Nat.le_refl _, fun q hq => ih q (by omega), by omega⟩
  rcases h (n + 1) with ⟨R, _, h⟩ | h
  · exact ⟨R, h⟩
  · have := h (n + 1) (Nat.le_refl _)
    have := B_ge c (n + 1)
    omega
/-- what all R bounds together say -/
theorem T_ge (c n : Nat) : ∀ R, R * (n + 1) ≤ T c n R + S c R
  | 0 => by simp
  | R + 1 => by
    have h := T_ge c n R
    show _ ≤ T c n R + (n + 1 - B c R) + (S c R + B c R)
    rw [Nat.add_mul]
    omega
theorem T_eq (c n : Nat) : ∀ R, (∀ q, q < R → B c q ≤ n + 1) → T c n R + S c R = R * (n + 1)
  | 0, _ => by simp [T, S]
  | R + 1, h => by
    have h1 := T_eq c n R fun q hq => h q (by omega)
    have h2 := h R (by omega)
    show T c n R + (n + 1 - B c R) + (S c R + B c R) = _
    rw [Nat.add_mul]
    omega
theorem T_up (c n : Nat) {R R' : Nat} (h : R ≤ R') : T c n R ≤ T c n R' := by
  induction h with
  | refl => exact Nat.le_refl _
  | step h ih => exact Nat.le_trans ih (Nat.le_add_right _ _)
theorem T_stop (c n : Nat) {R R' : Nat} (h : R ≤ R') (hb : ∀ q, R ≤ q → q < R' → n + 1 ≤ B c q) : T c n R' = T c n R := by
  induction h with
  | refl => rfl
  | @step m h ih =>
    show T c n m + (n + 1 - B c m) = _
    rw [ih fun q h1 h2 => hb q h1 (by omega)]
    have h' : R ≤ m := h
    have := hb m h' (by omega)
    omega
/-- the least count of steps -/
def Lst (c n : Nat) : Nat := T c n (n + 1)
theorem Lst_Rd {c n R : Nat} (h : Rd (c + 1) n R) : Lst (c + 1) n = T (c + 1) n R :=
  T_stop _ _ (by have := Rd_le h; omega) fun q h1 _ => by have := Rd_ge h h1; omega
theorem Lst_all {c n R : Nat} (h : ∀ q, R ≤ q → n + 1 ≤ B (c + 1) q) : T (c + 1) n R ≤ Lst (c + 1) n := by
  unfold Lst
  rcases Nat.le_total R (n + 1) with z | z
  · exact T_up _ _ z
  · rw [T_stop _ _ z fun q h1 _ => by have := B_ge c q; omega]
    exact Nat.le_refl _
theorem Lst_ge (c n R : Nat) : R * (n + 1) ≤ Lst (c + 1) n + S (c + 1) R := by
  have h := T_ge (c + 1) n R
  have h2 : T (c + 1) n R ≤ Lst (c + 1) n := by
    unfold Lst
    rcases Nat.le_total R (n + 1) with z | z
    · exact T_up _ _ z
    · rw [T_stop _ _ z fun q h1 _ => by have := B_ge c q; omega]
      exact Nat.le_refl _
  omega
theorem Lst_eq {c n R : Nat} (h1 : ∀ q, q < R → B (c + 1) q ≤ n + 1) (h2 : ∀ q, R ≤ q → n + 1 ≤ B (c + 1) q) : Lst (c + 1) n + S (c + 1) R = R * (n + 1) := by
  have h := T_eq (c + 1) n R h1
  have e : Lst (c + 1) n = T (c + 1) n R := by
    unfold Lst
    rcases Nat.le_total R (n + 1) with z | z
    · exact T_stop _ _ z fun q a _ => h2 q a
    · exact (T_stop _ _ z fun q h1 _ => by have := B_ge c q; omega).symm
  omega
theorem Lst_0 (c : Nat) : Lst c 0 = 0 := by
  show 0 + (0 + 1 - B c 0) = 0
  rw [B_c0]
theorem Lst_c0 (n : Nat) : Lst 0 n = n * (n + 1) := by
  have h : ∀ R, T 0 n R = R * n := by
    intro R
    induction R with
    | zero => simp [T]
    | succ R ih =>
      show T 0 n R + (n + 1 - B 0 R) = _
      rw [ih, B_0, Nat.add_mul]
      omega
  unfold Lst
  rw [h, Nat.mul_comm]
/-- a stop's sum is at least the least one -/
theorem stop_ge {c n s : Nat} (h1 : 1 ≤ s) (h2 : s ≤ n) : Lst (c + 1 + 1) n ≤ s + Lst (c + 1) (n - s) + Lst (c + 1 + 1) (s - 1) := by
  obtain ⟨R, hR⟩ := Rd_ex (c + 1) n
  have e := Lst_eq (c := c + 1) (n := n) (R := R) (fun q hq => by have := hR.1 q hq; omega) (fun q hq => by have := Rd_ge hR hq; omega)
  cases R with
  | zero =>
    have := hR.2
    rw [B_c0] at this
    omega
  | succ k =>
    have a := Lst_ge c (n - s) (k + 1)
    have b := Lst_ge (c + 1) (s - 1) k
    have d := S_two (c + 1) k
    have e1 : n - s + 1 + s = n + 1 := by omega
    have e2 : s - 1 + 1 = s := by omega
    rw [e2] at b
    have f : (k + 1) * (n - s + 1) + (k + 1) * s = (k + 1) * (n + 1) := by rw [← Nat.mul_add, e1]
    have g : (k + 1) * s = k * s + s := Nat.succ_mul k s
    omega
/-- and one has it -/
theorem stop_ex {c n : Nat} (h : 1 ≤ n) : ∃ s, 1 ≤ s ∧ s ≤ n ∧ Lst (c + 1 + 1) n = s + Lst (c + 1) (n - s) + Lst (c + 1 + 1) (s - 1) := by
  obtain ⟨R, hR⟩ := Rd_ex (c + 1) n
  have e := Lst_eq (c := c + 1) (n := n) (R := R) (fun q hq => by have := hR.1 q hq; omega) (fun q hq => by have := Rd_ge hR hq; omega)
  cases R with
  | zero =>
    have := hR.2
    rw [B_c0] at this
    omega
  | succ k =>
    have lo := hR.1 k (by omega)
    have hi := hR.2
    rw [B_ss] at hi
    have key : ∀ s, 1 ≤ s → s ≤ n → (∀ q, q < k + 1 → B (c + 1) q ≤ n - s + 1) → n - s + 1 ≤ B (c + 1) (k + 1) → (∀ q, q < k → B (c + 1 + 1) q ≤ s) → s ≤ B (c + 1 + 1) k → Lst (c + 1 + 1) n = s + Lst (c + 1) (n - s) + Lst (c + 1 + 1) (s - 1) := by
      intro s h1 h2 a1 a2 b1 b2
      have e2 : s - 1 + 1 = s := by omega
      have a := Lst_eq (c := c) (n := n - s) (R := k + 1) a1 fun q hq => Nat.le_trans a2 (B_mono c hq)
      have b := Lst_eq (c := c + 1) (n := s - 1) (R := k) (by rw [e2]; exact b1) (by rw [e2]; exact fun q hq => Nat.le_trans b2 (B_mono _ hq))
      have d := S_two (c + 1) k
      have e1 : n - s + 1 + s = n + 1 := by omega
      rw [e2] at b
      have f : (k + 1) * (n - s + 1) + (k + 1) * s = (k + 1) * (n + 1) := by rw [← Nat.mul_add, e1]
      have g : (k + 1) * s = k * s + s := Nat.succ_mul k s
      omega
    cases k with
    | zero =>
      have hi' : n < B (c + 1) (0 + 1) + B (c + 1 + 1) 0 := hi
      rw [B_c0] at hi'
      refine ⟨1, by omega, by omega, key 1 (by omega) (by omega) (fun q hq => ?_) (by omega) (fun q hq => by omega) (by rw [B_c0]; omega)⟩
      have : q = 0 := by omega
      subst this
      rw [B_c0]
      omega
    | succ k =>
      have lo' : B (c + 1) (k + 1) + B (c + 1 + 1) k ≤ n := lo
      have hi' : n < B (c + 1) (k + 1 + 1) + B (c + 1 + 1) (k + 1) := hi
      have p1 := B_pos (c + 1 + 1) k
      have p2 := B_pos (c + 1) (k + 1)
      have m1 := B_up c (k + 1)
      have m2 := B_up (c + 1) k
      -- s = min of the upper bound and what leaves the lower one
      by_cases z : n + 1 ≤ B (c + 1) (k + 1) + B (c + 1 + 1) (k + 1)
      · refine ⟨n + 1 - B (c + 1) (k + 1), by omega, by omega, key _ (by omega) (by omega) (fun q hq => ?_) (by omega) (fun q hq => ?_) (by omega)⟩
        · have := B_mono c (show q ≤ k + 1 by omega)
          omega
        · have := B_mono (c + 1) (show q ≤ k by omega)
          omega
      · refine ⟨B (c + 1 + 1) (k + 1), B_pos _ _, by omega, key _ (B_pos _ _) (by omega) (fun q hq => ?_) (by omega) (fun q hq => ?_) (Nat.le_refl _)⟩
        · have := B_mono c (show q ≤ k + 1 by omega)
          omega
        · have := B_mono (c + 1) (show q ≤ k by omega)
          omega
theorem stop_one {n : Nat} (h : 1 ≤ n) : Lst 1 n = n + Lst 1 (n - 1) := by
  have hB : ∀ q, B 1 q = q + 1 := by
    intro q
    induction q with
    | zero => rfl
    | succ q ih =>
      rw [show B 1 (q + 1) = B 0 (q + 1) + B 1 q from rfl, B_0, ih]
      omega
  have key : ∀ R, T 1 n (R + 1) = n + T 1 (n - 1) R := by
    intro R
    induction R with
    | zero =>
      show 0 + (n + 1 - B 1 0) = n + 0
      rw [hB]
      omega
    | succ R ih =>
      show T 1 n (R + 1) + (n + 1 - B 1 (R + 1)) = n + (T 1 (n - 1) R + (n - 1 + 1 - B 1 R))
      rw [ih, hB, hB]
      omega
  show T 1 n (n + 1) = n + T 1 (n - 1) (n - 1 + 1)
  rw [key n]
  congr 2
  omega
/-- one more: the rounds are added -/
theorem Lst_step {c n R : Nat} (h : Rd (c + 1) (n + 1) R) : Lst (c + 1) (n + 1) = Lst (c + 1) n + R := by
  have e1 := Lst_Rd h
  have e2 : Lst (c + 1) n = T (c + 1) n R := by
    have a : T (c + 1) n (n + 1) = T (c + 1) n R ∨ True := .inr trivial
    unfold Lst
    rcases Nat.le_total R (n + 1) with z | z
    · exact T_stop _ _ z fun q a _ => by have := Rd_ge h a; omega
    · exact (T_stop _ _ z fun q h1 _ => by have := B_ge c q; omega).symm
  have e3 : ∀ r, r ≤ R → T (c + 1) (n + 1) r = T (c + 1) n r + r := by
    intro r
    induction r with
    | zero => intro _; rfl
    | succ r ih =>
      intro hr
      have := h.1 r (by omega)
      show T (c + 1) (n + 1) r + (n + 1 + 1 - B (c + 1) r) = T (c + 1) n r + (n + 1 - B (c + 1) r) + (r + 1)
      rw [ih (by omega)]
      omega
  rw [e1, e2, e3 R (Nat.le_refl _)]
end L
end

section
set_option Elab.async false
set_option linter.all false
set_option maxRecDepth 100000
set_option maxHeartbeats 4000000
set_option exponentiation.threshold 4000
namespace L
open PySem PySem.Spec PyProof.Rows L2 VS

section
variable {Q : Rv → List Sl → Prop} {E : Nat → List (Str × D) → List Sl → Prop}
def Bs (c R : Nat) : List D := (List.range R).map fun i => D.int (B c i : Nat)
theorem Bs_len (c R : Nat) : (Bs c R).length = R := by unfold Bs; rw [List.length_map, List.length_range]
theorem Bs_succ (c R : Nat) : Bs c (R + 1) = Bs c R ++ [D.int (B c R : Nat)] := by
  unfold Bs
  rw [List.range_succ, List.map_append]
  rfl
theorem Bs_at {c R i : Nat} (h : i < R) : (Bs c R)[i]? = some (.int (B c i : Nat)) := by
  unfold Bs
  rw [List.getElem?_map, List.getElem?_range h]
  rfl
def GC : D → Bool
  | .int k => decide (1 ≤ k)
  | _ => false
theorem need_yes {k : Int} (h : 1 ≤ k) : F_need_cells [.dat (.int k)] = .ret (.dat (.int k)) [.un] := by
  refine Cr.W.eq ?_
  rw [F_need_cells_eq]
  refine w_def (δ := [.dat (.int k)]) rfl rfl ?_
  unfold d_need_cells
  (repeat' (first | walk_at "vn" | (with_reducible refine br (fun _ => ?_) (fun _ => ?_)) | fail))
  all_goals first | exact ⟨rfl, rfl⟩ | (exfalso; omega)
theorem need_no {d : D} (h : GC d = false) : F_need_cells [.dat d] = .exc 0 (flds (.str "badcells") ["cells"] [d]) [.un] := by
  refine Cr.W.eqx ?_
  rw [F_need_cells_eq]
  refine w_def (δ := [.dat d]) rfl rfl ?_
  unfold d_need_cells
  cases d with
  | int k =>
    have h : ¬ 1 ≤ k := of_decide_eq_false h
    (repeat' (first | walk_at "vn" | (with_reducible refine br (fun _ => ?_) (fun _ => ?_)) | fail))
    all_goals first | exact ⟨rfl, rfl, rfl⟩ | (exfalso; omega)
  | non => (repeat' (first | walk_at "vn" | (with_reducible refine br (fun _ => ?_) (fun _ => ?_)) | fail)); first | exact ⟨rfl, rfl, rfl, rfl⟩ | exact ⟨rfl, rfl, rfl⟩
  | bl b => (repeat' (first | walk_at "vn" | (with_reducible refine br (fun _ => ?_) (fun _ => ?_)) | fail)); first | exact ⟨rfl, rfl, rfl, rfl⟩ | exact ⟨rfl, rfl, rfl⟩
  | str b => (repeat' (first | walk_at "vn" | (with_reducible refine br (fun _ => ?_) (fun _ => ?_)) | fail)); first | exact ⟨rfl, rfl, rfl, rfl⟩ | exact ⟨rfl, rfl, rfl⟩
  | lst b => (repeat' (first | walk_at "vn" | (with_reducible refine br (fun _ => ?_) (fun _ => ?_)) | fail)); first | exact ⟨rfl, rfl, rfl, rfl⟩ | exact ⟨rfl, rfl, rfl⟩
  | tup b => (repeat' (first | walk_at "vn" | (with_reducible refine br (fun _ => ?_) (fun _ => ?_)) | fail)); first | exact ⟨rfl, rfl, rfl, rfl⟩ | exact ⟨rfl, rfl, rfl⟩
  | rol b => (repeat' (first | walk_at "vn" | (with_reducible refine br (fun _ => ?_) (fun _ => ?_)) | fail)); first | exact ⟨rfl, rfl, rfl, rfl⟩ | exact ⟨rfl, rfl, rfl⟩
  | dct b => (repeat' (first | walk_at "vn" | (with_reducible refine br (fun _ => ?_) (fun _ => ?_)) | fail)); first | exact ⟨rfl, rfl, rfl, rfl⟩ | exact ⟨rfl, rfl, rfl⟩
theorem bounds_ok {c n : Nat} (hc : c ≤ 1000) (hn : n ≤ 900) (q : ∀ R, Rd (c + 1) n R → Q (.new (.lst (Bs (c + 1) R))) [.un, .un]) : (F_round_bounds [.dat (.int n), .dat (.int (c + 1 : Nat))]).W Q E := by
  have hb : 1000000 < big := by decide
  rw [F_round_bounds_eq]
  refine w_def (δ := [.dat (.int n), .dat (.int (c + 1 : Nat)), .un, .un, .un]) rfl rfl ?_
  unfold d_round_bounds
  (repeat' (first | walk_at "vn" | fail))
  refine w_while (fun m δ => ∃ (j : Nat) (xs : List D) (b r : Int), δ = [.dat (.int n), .dat (.int (c + 1 : Nat)), .own false (.lst xs), .dat (.int b), .dat (.int r)] ∧ xs = Bs (c + 1) j ∧ b = (B (c + 1) j : Nat) ∧ r = j ∧ (∀ i, i < j → B (c + 1) i ≤ n) ∧ m + j = n + 1) ?_ 1000 (n + 1) _ (by omega) ⟨0, _, _, _, rfl, rfl, by rw [B_c0]; rfl, rfl, fun i h => by omega, rfl⟩
  rintro m _ ⟨j, xs, b, r, rfl, h1, h2, h3, h4, h5⟩
  subst h1 h2 h3
  have h6 := B_ge c j
  (repeat' (first | walk_at "vn" | fail))
  refine br (fun hl => ?_) (fun hl => ?_)
  · refine ⟨m - 1, by omega, ?_⟩
    have h7 : (Bs (c + 1) j).length < 100000 := by rw [Bs_len]; omega
    (repeat' (first | (refine app_mk rfl h7 ?_) | walk_at "vn" | fail))
    refine ⟨j + 1, _, _, _, rfl, (Bs_succ _ _).symm, ?_, rfl, fun i hi => ?_, by omega⟩
    · rw [← Int.add_assoc]
      exact B_next (c + 1) j
    · by_cases e : i = j
      · subst e
        omega
      · exact h4 i (by omega)
  · (repeat' (first | walk_at "vn" | fail))
    exact q j ⟨h4, by omega⟩
theorem steps_sum (c n : Nat) : ∀ R : Nat, (∀ i, i < R → B c i ≤ n) → (((List.range R).map fun i => ((n : Int) + 1 - (B c i : Nat))).sum = (T c n R : Nat))
  | 0, _ => rfl
  | R + 1, h => by
    have h1 := h R (by omega)
    rw [List.range_succ, List.map_append, List.sum_append, steps_sum c n R fun i hi => h i (by omega)]
    show (T c n R : Int) + ((n : Int) + 1 - (B c R : Nat) + 0) = ((T c n R + (n + 1 - B c R) : Nat) : Int)
    omega
end
end L
end

section
set_option Elab.async false
set_option linter.all false
set_option maxRecDepth 100000
set_option maxHeartbeats 4000000
set_option exponentiation.threshold 4000
namespace L
open PySem PySem.Spec PyProof.Rows L2 VS

section
variable {Q : Rv → List Sl → Prop} {E : Nat → List (Str × D) → List Sl → Prop}
def Rw (c m : Nat) : List D := (List.range m).map fun i => D.int (Lst c i : Nat)
theorem Rw_len (c R : Nat) : (Rw c R).length = R := by unfold Rw; rw [List.length_map, List.length_range]
theorem Rw_succ (c R : Nat) : Rw c (R + 1) = Rw c R ++ [D.int (Lst c R : Nat)] := by
  unfold Rw
  rw [List.range_succ, List.map_append]
  rfl
theorem Rw_at {c R i : Nat} (h : i < R) : (Rw c R)[i]? = some (.int (Lst c i : Nat)) := by
  unfold Rw
  rw [List.getElem?_map, List.getElem?_range h]
  rfl
theorem row0_ok {n : Nat} (q : Q (.new (.lst [.int 0])) [.un, .un]) : (F_steps_row [.dat (.int n), .dat (.int 0)]).W Q E := by
  rw [F_steps_row_eq]
  refine w_def (δ := [.dat (.int n), .dat (.int 0), .un, .un, .un, .un]) rfl rfl ?_
  unfold d_steps_row
  (repeat' (first | walk_at "vn" | (with_reducible refine br (fun _ => ?_) (fun _ => ?_)) | fail))
  · exact q
  · exact absurd rfl ‹¬ _›
theorem row_ok {c n : Nat} (hc : c ≤ 1000) (hn : n ≤ 900) (q : Q (.new (.lst (Rw (c + 1) (n + 1)))) [.un, .un]) : (F_steps_row [.dat (.int n), .dat (.int (c + 1 : Nat))]).W Q E := by
  rw [F_steps_row_eq]
  refine w_def (δ := [.dat (.int n), .dat (.int (c + 1 : Nat)), .un, .un, .un, .un]) rfl rfl ?_
  unfold d_steps_row
  (repeat' (first | walk_at "vn" | fail))
  refine br (fun h => by omega) (fun _ => ?_)
  (repeat' (first | ((with_reducible show Cr.W _ _ _); refine bounds_ok hc hn (fun R hR => ?_)) | walk_at "vn" | fail))
  have hR1 := Rd_le hR
  refine w_range (fun k δ => ∃ (j p : Nat) (xs : List D) (s : Sl) (pi : Int), δ = [.dat (.int n), .dat (.int (c + 1 : Nat)), .own false (.lst xs), .dat (.lst (Bs (c + 1) R)), .dat (.int pi), s] ∧ NO s ∧ pi = p ∧ k = j + 1 ∧ xs = Rw (c + 1) (j + 1) ∧ p ≤ R ∧ ∀ i, i < p → B (c + 1) i ≤ j) (n + 1) ?_ ?_ _ _ _ (by omega) ⟨0, 0, _, _, _, rfl, no_un, rfl, rfl, ?_, by omega, fun i h => by omega⟩
  · rintro k _ hk ⟨j, p, xs, s, pi, rfl, hs, rfl, rfl, rfl, hp, hb⟩
    refine ⟨_, tset rfl hs, ?_⟩
    refine w_cut (fun δ => ∃ p : Nat, δ = [.dat (.int n), .dat (.int (c + 1 : Nat)), .own false (.lst (Rw (c + 1) (j + 1))), .dat (.lst (Bs (c + 1) R)), .dat (.int p), .dat (.int ((j : Int) + 1))] ∧ Rd (c + 1) (j + 1) p) ?_ ?_
    · refine w_while (fun m δ => ∃ (p : Nat) (pi : Int), δ = [.dat (.int n), .dat (.int (c + 1 : Nat)), .own false (.lst (Rw (c + 1) (j + 1))), .dat (.lst (Bs (c + 1) R)), .dat (.int pi), .dat (.int ((j : Int) + 1))] ∧ pi = p ∧ m + p = R ∧ ∀ i, i < p → B (c + 1) i ≤ j + 1) ?_ 1000 (R - p) _ (by omega) ⟨p, _, rfl, rfl, by omega, fun i hi => by have := hb i hi; omega⟩
      rintro m _ ⟨p, pi, rfl, rfl, h1, h2⟩
      (repeat' (first | walk_at "vn" | fail))
      rw [Bs_len]
      refine br (fun h => ?_) (fun h => ?_)
      · have hp : p < R := by omega
        (repeat' (first | (refine op_ixN (by omega) (by rw [Int.toNat_natCast]; exact Bs_at hp) ?_) | walk_at "vn" | fail))
        refine br (fun h3 => ?_) (fun h3 => ?_)
        · refine ⟨m - 1, by omega, ?_⟩
          (repeat' (first | walk_at "vn" | fail))
          refine ⟨p + 1, _, rfl, rfl, by omega, fun i hi => ?_⟩
          by_cases e : i = p
          · subst e
            omega
          · exact h2 i (by omega)
        · exact ⟨rfl, p, rfl, h2, by omega⟩
      · have e : p = R := by omega
        subst e
        refine br_f ⟨rfl, p, rfl, h2, ?_⟩
        have := hR.2
        omega
    · rintro _ ⟨p, rfl, h1⟩
      have hx : (Rw (c + 1) (j + 1))[((j : Int) + 1 - 1).toNat]? = some (.int (Lst (c + 1) j : Nat)) := by
        rw [show ((j : Int) + 1 - 1).toNat = j by omega]
        exact Rw_at (by omega)
      (repeat' (first | (refine ixs_mk rfl (atI_nat (by omega) hx) ?_) | (refine app_mk rfl (by rw [Rw_len]; omega) ?_) | walk_at "vn" | fail))
      refine ⟨j + 1, p, _, _, _, rfl, no_dat, rfl, rfl, ?_, ?_, fun i hi => h1.1 i hi⟩
      · rw [Rw_succ (c + 1) (j + 1), Lst_step h1]
        rfl
      · rcases Nat.lt_or_ge R p with z | z
        · have := h1.1 R z
          have := hR.2
          omega
        · exact z
  · rintro _ ⟨j, p, xs, s, pi, rfl, hs, rfl, hj, rfl, hp, hb⟩
    have e : j = n := by omega
    subst e
    (repeat' (first | walk_at "vn" | fail))
    exact q
  · show _ = (List.range 1).map _
    rw [List.range_succ]
    show _ = [D.int (Lst (c + 1) 0 : Nat)]
    rw [Lst_0]
    rfl
def tot (k n s : Nat) : Option Nat := if k = 1 ∧ s < n then none else some (s + Lst (k - 1) (n - s) + Lst k (s - 1))
theorem tot_ge {c n s t : Nat} (h1 : 1 ≤ s) (h2 : s ≤ n) (h : tot (c + 1) n s = some t) : Lst (c + 1) n ≤ t := by
  unfold tot at h
  split at h
  · cases h
  · rename_i hn
    have e := Option.some.inj h
    cases c with
    | zero =>
      have : s = n := by omega
      subst this
      have := stop_one h1
      have := Lst_0 0
      simp only [Nat.zero_add, Nat.sub_self] at *
      omega
    | succ c =>
      have := stop_ge (c := c) h1 h2
      simp only [Nat.add_sub_cancel] at e
      omega
theorem tot_ex {c n : Nat} (h : 1 ≤ n) : ∃ s, 1 ≤ s ∧ s ≤ n ∧ tot (c + 1) n s = some (Lst (c + 1) n) := by
  cases c with
  | zero =>
    refine ⟨n, h, Nat.le_refl n, ?_⟩
    unfold tot
    rw [if_neg (by omega)]
    have := stop_one h
    have := Lst_0 0
    simp only [Nat.zero_add, Nat.sub_self] at *
    congr 1
    omega
  | succ c =>
    obtain ⟨s, h1, h2, e⟩ := stop_ex (c := c) h
    refine ⟨s, h1, h2, ?_⟩
    unfold tot
    rw [if_neg (by omega), e]
    rfl
def Best (c n s : Nat) : Prop := 1 ≤ s ∧ s ≤ n ∧ tot (c + 1) n s = some (Lst (c + 1) n) ∧ ∀ r, 1 ≤ r → r < s → tot (c + 1) n r ≠ some (Lst (c + 1) n)
theorem Best_uniq {c n s r : Nat} (h : Best c n s) (h' : Best c n r) : s = r := by
  rcases Nat.lt_trichotomy s r with z | z | z
  · exact absurd h.2.2.1 (h'.2.2.2 s h.1 z)
  · exact z
  · exact absurd h'.2.2.1 (h.2.2.2 r h'.1 z)
theorem lstop_ok {c n : Nat} {xs : List D} (hx : (c = 0 ∧ xs = [.int 0]) ∨ ∃ b, c = b + 1 ∧ xs = Rw c (n + 1)) (hn0 : 1 ≤ n) (hn : n ≤ 900) (q : ∀ s : Nat, Best c n s → Q (.dat (.int s)) [.un, .un, .un]) :
    (F_least_stop [.dat (.lst xs), .dat (.lst (Rw (c + 1) (n + 1))), .dat (.int n)]).W Q E := by
  rw [F_least_stop_eq]
  refine w_def (δ := [.dat (.lst xs), .dat (.lst (Rw (c + 1) (n + 1))), .dat (.int n), .un, .un]) rfl rfl ?_
  unfold d_least_stop
  (repeat' (first | walk_at "vn" | fail))
  have no : ∀ r, c = 0 → r < n → tot (c + 1) n r ≠ some (Lst (c + 1) n) := by
    intro r h1 h2
    unfold tot
    rw [if_pos ⟨by omega, h2⟩]
    exact fun z => by cases z
  refine w_range (fun k δ => ∃ (j : Nat) (s1 s2 : Sl), δ = [.dat (.lst xs), .dat (.lst (Rw (c + 1) (n + 1))), .dat (.int n), s1, s2] ∧ NO s1 ∧ NO s2 ∧ k = j ∧ 1 ≤ j ∧ ∀ r, 1 ≤ r → r < j → tot (c + 1) n r ≠ some (Lst (c + 1) n)) n ?_ ?_ _ _ _ (by omega) ⟨1, _, _, rfl, no_un, no_un, rfl, by omega, fun r h1 h2 => by omega⟩
  · rintro k _ hk ⟨j, s1, s2, rfl, hs1, hs2, rfl, h1, h2⟩
    have hjn : j < n := by omega
    refine ⟨_, tset rfl hs1, ?_⟩
    refine w_cut (fun δ => δ = [.dat (.lst xs), .dat (.lst (Rw (c + 1) (n + 1))), .dat (.int n), .dat (.int j), .dat (.int ((n : Int) - j))]) ?_ ?_
    · refine w_asg ?_
      (repeat' (first | walk_at "vn" | fail))
      exact ⟨_, tset rfl hs2, rfl, rfl⟩
    rintro _ rfl
    rcases hx with ⟨hc, rfl⟩ | ⟨b, hc, rfl⟩
    · (repeat' (first | walk_at "vn" | fail))
      refine br (fun h => ?_) (fun h => ?_)
      · exfalso
        have h : (n : Int) - j < ((1 : Nat) : Int) := h
        omega
      (repeat' (first | walk_at "vn" | fail))
      exact ⟨j + 1, _, _, rfl, no_dat, no_dat, rfl, by omega, fun r _ h => no r hc (by omega)⟩
    · have ht : tot (c + 1) n j = some (j + Lst c (n - j) + Lst (c + 1) (j - 1)) := by
        unfold tot
        rw [if_neg (by omega)]
        rfl
      have x1 : (Rw c (n + 1))[((n : Int) - j).toNat]? = some (.int (Lst c (n - j) : Nat)) := by
        rw [show ((n : Int) - j).toNat = n - j by omega]
        exact Rw_at (by omega)
      have x2 : (Rw (c + 1) (n + 1))[((j : Int) - 1).toNat]? = some (.int (Lst (c + 1) (j - 1) : Nat)) := by
        rw [show ((j : Int) - 1).toNat = j - 1 by omega]
        exact Rw_at (by omega)
      have x3 : (Rw (c + 1) (n + 1))[(n : Int).toNat]? = some (.int (Lst (c + 1) n : Nat)) := by
        rw [Int.toNat_natCast]
        exact Rw_at (by omega)
      (repeat' (first | walk_at "vn" | fail))
      rw [Rw_len]
      refine br (fun h => ?_) (fun h => by omega)
      (repeat' (first | (refine op_ixN (by omega) x1 ?_) | (refine op_ixN (by omega) x2 ?_) | (refine op_ixN (by omega) x3 ?_) | walk_at "vn" | fail))
      refine br (fun h => ?_) (fun h => ?_)
      · (repeat' (first | walk_at "vn" | fail))
        refine q j ⟨h1, by omega, ?_, h2⟩
        rw [ht]
        congr 1
        omega
      · (repeat' (first | walk_at "vn" | fail))
        refine ⟨j + 1, _, _, rfl, no_dat, no_dat, rfl, by omega, fun r r1 r2 => ?_⟩
        by_cases e : r = j
        · subst e
          rw [ht]
          intro z
          have := Option.some.inj z
          omega
        · exact h2 r r1 (by omega)
  · rintro _ ⟨j, s1, s2, rfl, hs1, hs2, hj, h1, h2⟩
    (repeat' (first | walk_at "vn" | fail))
    refine q n ⟨hn0, Nat.le_refl n, ?_, fun r r1 r2 => h2 r r1 (by omega)⟩
    obtain ⟨s, a, b, e⟩ := tot_ex (c := c) hn0
    by_cases z : s = n
    · subst z
      exact e
    · exact absurd e (h2 s a (by omega))
end
end L
end

section
set_option Elab.async false
set_option linter.all false
set_option maxRecDepth 100000
set_option maxHeartbeats 4000000
set_option exponentiation.threshold 4000
namespace L
open PySem PySem.Spec PyProof.Rows L2 VS

section
variable {Q : Rv → List Sl → Prop} {E : Nat → List (Str × D) → List Sl → Prop}
theorem leastups_ok {c n : Nat} (hc : c ≤ 1000) (hn : n ≤ 900) (q : Q (.dat (.int (Lst (c + 1) n : Nat))) [.un, .un]) : (F__law_leastups [.dat (.int n), .dat (.int (c + 1 : Nat))]).W Q E := by
  have hb : 1000000 < big := by decide
  rw [F__law_leastups_eq]
  refine w_def (δ := [.dat (.int n), .dat (.int (c + 1 : Nat)), .un, .un, .un]) rfl rfl ?_
  unfold d__law_leastups
  (repeat' (first | walk_at "vn" | fail))
  refine w_range (fun k δ => ∃ (j : Nat) (t p : Int) (s : Sl), δ = [.dat (.int n), .dat (.int (c + 1 : Nat)), .dat (.int t), .dat (.int p), s] ∧ NO s ∧ k = j ∧ t = (T (c + 1) n j : Nat) ∧ p = (B (c + 1) j : Nat) ∧ ∀ i, i < j → B (c + 1) i ≤ n) (n + 1) ?_ ?_ _ _ _ (by omega) ⟨0, _, _, _, rfl, no_un, rfl, rfl, by rw [B_c0]; rfl, fun i h => by omega⟩
  · rintro k _ hk ⟨j, t, p, s, rfl, hs, rfl, rfl, rfl, h1⟩
    refine ⟨_, tset rfl hs, ?_⟩
    (repeat' (first | walk_at "vn" | fail))
    refine br (fun h => ?_) (fun h => ?_)
    · (repeat' (first | walk_at "vn" | fail))
      rw [Lst_Rd ⟨h1, by omega⟩] at q
      exact q
    · (repeat' (first | walk_at "vn" | fail))
      refine ⟨j + 1, _, _, _, rfl, no_dat, rfl, ?_, ?_, fun i hi => ?_⟩
      · show _ = ((T (c + 1) n j + (n + 1 - B (c + 1) j) : Nat) : Int)
        omega
      · have e := B_next (c + 1) j
        rw [← e]
      · by_cases e : i = j
        · subst e
          omega
        · exact h1 i (by omega)
  · rintro _ ⟨j, t, p, s, rfl, hs, hj, rfl, rfl, h1⟩
    have e : j = n + 1 := by omega
    subst e
    (repeat' (first | walk_at "vn" | fail))
    exact q
theorem cellcount_ok {o : O} (g : Good o) (q : ∀ (c : Nat) (o' : O), Good o' → c < 120 → Q (.dat (.int (c + 1 : Nat))) [.own true o']) : (F__law_cellcount [.own true o]).W Q E := by
  have hb := one_big
  rw [F__law_cellcount_eq]
  refine w_def (δ := [.own true o]) rfl rfl ?_
  unfold d__law_cellcount
  have fin : ∀ (r : Int) (o' : O), Good o' → 0 ≤ r → r < 120 → Q (.dat (.int (1 + r))) [.own true o'] := fun r o' g' h1 h2 => by
    have e : 1 + r = ((r.toNat + 1 : Nat) : Int) := by omega
    rw [e]
    exact q _ _ g' (by omega)
  (repeat' (first | ((with_reducible show Cr.W _ _ _); refine odds_ok g (by decide) (fun b o' g' => ?_)) | walk_at "vn" | fail))
  refine br_b (fun _ => ?_) (fun _ => ?_)
  · (repeat' (first | ((with_reducible show Cr.W _ _ _); refine edge_ok g' (by decide) (fun _ _ _ _ _ => ?_)) | walk_at "vn" | fail))
    exact fin _ _ (by assumption) (by assumption) (by omega)
  · (repeat' (first | ((with_reducible show Cr.W _ _ _); refine take_ok g' (by decide) (fun _ _ _ _ _ => ?_)) | walk_at "vn" | fail))
    exact fin _ _ (by assumption) (by assumption) (by omega)
theorem length_ok {o : O} (g : Good o) (q : ∀ (m : Nat) (o' : O), Good o' → 1 ≤ m → m ≤ 120 → Q (.dat (.int m)) [.own true o']) : (F__law_length [.own true o]).W Q E := by
  have hb := one_big
  rw [F__law_length_eq]
  refine w_def (δ := [.own true o, .un]) rfl rfl ?_
  unfold d__law_length
  have fin : ∀ (k r : Int) (o' : O), Good o' → 1 ≤ k → 0 ≤ r → k + r ≤ 120 → Q (.dat (.int (k + r))) [.own true o'] := fun k r o' g' h0 h1 h2 => by
    have e : k + r = (((k + r).toNat : Nat) : Int) := by omega
    rw [e]
    exact q _ _ g' (by omega) (by omega)
  (repeat' (first | ((with_reducible show Cr.W _ _ _); refine take_ok (by assumption) (by decide) (fun _ _ _ _ _ => ?_)) | ((with_reducible show Cr.W _ _ _); refine edge_ok (by assumption) (by decide) (fun _ _ _ _ _ => ?_)) | walk_at "vn" | (with_reducible refine br (fun _ => ?_) (fun _ => ?_)) | fail))
  all_goals exact fin _ _ _ (by assumption) (by omega) (by assumption) (by omega)
def bcB (d : D) : Bool := !GC d && plainB 5 d
theorem bc_of {d : D} (h : bcB d = true) : GC d = false ∧ plainB 5 d = true := by
  unfold bcB at h
  simp only [Bool.and_eq_true, Bool.not_eq_true'] at h
  exact h
theorem badcells_ok {o : O} (g : Good o) (q : ∀ (d : D) (o' : O), Good o' → bcB d = true → Q (.dat d) [.own true o']) : (F__law_badcells [.own true o]).W Q E := by
  rw [F__law_badcells_eq]
  refine w_def (δ := [.own true o]) rfl rfl ?_
  unfold d__law_badcells
  (repeat' (first | ((with_reducible show Cr.W _ _ _); refine pick_ok g (by decide) (by decide) (fun d o' g' hd => ?_)) | walk_at "vn" | fail))
  exact q _ _ g' (List.all_eq_true.mp (show List.all _ bcB = true by decide +kernel) d hd)
end
end L
end

section
set_option Elab.async false
set_option linter.all false
set_option maxRecDepth 100000
set_option maxHeartbeats 4000000
set_option exponentiation.threshold 4000
namespace L
open PySem PySem.Spec PyProof.Rows L2 VS

/-- an integer in a range -/
def numP (lo hi : Int) : D → Option Int
  | .int i => if lo ≤ i ∧ i ≤ hi then some i else none
  | _ => none
inductive Mv where
  | up (a b : Int)
  | rd (a : Int)
/-- a move as it is read, c cells -/
def mvP (c : Int) : D → Option Mv
  | .tup [.str x, a, b] => if x = Str.ofString "up" then (numP 0 c a).bind fun i => (numP 1 c b).map fun j => .up i j else none
  | .tup [.str x, a] => if x = Str.ofString "read" then (numP 1 c a).map .rd else none
  | _ => none
/-- values that stand in lists of moves: a tuple begins with a text -/
def MvB : D → Prop
  | .tup [] => True
  | .tup (.str _ :: r) => r.length ≤ 10
  | .tup _ => False
  | _ => True
def isUp (c : Int) (d : D) : Bool := match mvP c d with
  | some (.up _ _) => true
  | _ => false
def isRd (c : Int) (d : D) : Bool := match mvP c d with
  | some (.rd _) => true
  | _ => false
theorem numP_int {lo hi i : Int} : numP lo hi (.int i) = if lo ≤ i ∧ i ≤ hi then some i else none := rfl
section
variable {Q : Rv → List Sl → Prop} {E : Nat → List (Str × D) → List Sl → Prop}
theorem whole_ok {v : D} {lo hi : Int} (q : Q (.dat (.bl (numP lo hi v).isSome)) [.un, .un, .un]) : (F_whole_between [.dat v, .dat (.int lo), .dat (.int hi)]).W Q E := by
  rw [F_whole_between_eq]
  refine w_def (δ := [.dat v, .dat (.int lo), .dat (.int hi)]) rfl rfl ?_
  unfold d_whole_between
  cases v with
  | int i =>
    (repeat' (first | walk_at "vn" | fail))
    by_cases h : lo ≤ i
    · refine .inl ⟨by rw [decide_eq_true h], ?_⟩
      (repeat' (first | walk_at "vn" | fail))
      have e : (numP lo hi (.int i)).isSome = decide (i ≤ hi) := by
        rw [numP_int]
        by_cases h2 : i ≤ hi
        · rw [if_pos ⟨h, h2⟩, decide_eq_true h2]; rfl
        · rw [if_neg (fun z => h2 z.2), decide_eq_false h2]; rfl
      rw [e] at q
      exact q
    · refine .inr ⟨by rw [decide_eq_false h], ?_⟩
      have e : (numP lo hi (.int i)).isSome = false := by
        rw [numP_int, if_neg (fun z => h z.1)]; rfl
      rw [e] at q
      (repeat' (first | walk_at "vn" | fail))
      exact q
  | _ =>
    (repeat' (first | walk_at "vn" | fail))
    exact q
theorem mvP_3 {c : Int} {x : Str} {a b : D} : mvP c (.tup [.str x, a, b]) = if x = Str.ofString "up" then (numP 0 c a).bind fun i => (numP 1 c b).map fun j => .up i j else none := rfl
theorem mvP_2 {c : Int} {x : Str} {a : D} : mvP c (.tup [.str x, a]) = if x = Str.ofString "read" then (numP 1 c a).map .rd else none := rfl
theorem isUp_of {c : Int} {x : Str} {a b : D} : isUp c (.tup [.str x, a, b]) = (decide (x = Str.ofString "up") && ((numP 0 c a).isSome && (numP 1 c b).isSome)) := by
  unfold isUp
  rw [mvP_3]
  by_cases h : x = Str.ofString "up"
  · rw [if_pos h, decide_eq_true h]
    cases numP 0 c a with
    | none => rfl
    | some i => cases numP 1 c b <;> rfl
  · rw [if_neg h, decide_eq_false h]; rfl
theorem isRd_of {c : Int} {x : Str} {a : D} : isRd c (.tup [.str x, a]) = (decide (x = Str.ofString "read") && (numP 1 c a).isSome) := by
  unfold isRd
  rw [mvP_2]
  by_cases h : x = Str.ofString "read"
  · rw [if_pos h, decide_eq_true h]
    cases numP 1 c a <;> rfl
  · rw [if_neg h, decide_eq_false h]; rfl
theorem isUp_2 {c : Int} {x : Str} {a : D} : isUp c (.tup [.str x, a]) = false := by
  unfold isUp
  rw [mvP_2]
  by_cases h : x = Str.ofString "read"
  · rw [if_pos h]
    cases numP 1 c a <;> rfl
  · rw [if_neg h]
theorem isRd_3 {c : Int} {x : Str} {a b : D} : isRd c (.tup [.str x, a, b]) = false := by
  unfold isRd
  rw [mvP_3]
  by_cases h : x = Str.ofString "up"
  · rw [if_pos h]
    cases numP 0 c a with
    | none => rfl
    | some i => cases numP 1 c b <;> rfl
  · rw [if_neg h]
theorem is_up_ok {m : D} {c : Int} (hm : MvB m) (q : Q (.dat (.bl (isUp c m))) [.un, .un]) : (F_is_up [.dat m, .dat (.int c)]).W Q E := by
  rw [F_is_up_eq]
  refine w_def (δ := [.dat m, .dat (.int c)]) rfl rfl ?_
  unfold d_is_up
  cases m with
  | tup xs =>
    match xs, hm with
    | [], _ =>
      (repeat' (first | walk_at "vn" | (with_reducible refine br_yes (by first | decide | omega | (simp <;> fail) | fail) ?_) | (with_reducible refine br_not (by first | decide | omega | (simp <;> fail) | fail) ?_) | (with_reducible refine br (fun _ => ?_) (fun _ => ?_)) | fail))
      exact q
    | [.str x], _ =>
      (repeat' (first | walk_at "vn" | (with_reducible refine br_yes (by first | decide | omega | (simp <;> fail) | fail) ?_) | (with_reducible refine br_not (by first | decide | omega | (simp <;> fail) | fail) ?_) | (with_reducible refine br (fun _ => ?_) (fun _ => ?_)) | fail))
      exact q
    | [.str x, a], _ =>
      rw [isUp_2] at q
      (repeat' (first | walk_at "vn" | (with_reducible refine br_yes (by first | decide | omega | (simp <;> fail) | fail) ?_) | (with_reducible refine br_not (by first | decide | omega | (simp <;> fail) | fail) ?_) | (with_reducible refine br (fun _ => ?_) (fun _ => ?_)) | fail))
      exact q
    | [.str x, a, b], _ =>
      rw [isUp_of] at q
      (repeat' (first | (refine ne_text ?_) | (refine op_tix rfl ?_) | walk_at "vn" | (with_reducible refine br_yes (by first | decide | omega | (simp <;> fail) | fail) ?_) | (with_reducible refine br_not (by first | decide | omega | (simp <;> fail) | fail) ?_) | fail))
      refine br_b (fun h => ?_) (fun h => ?_)
      · rw [h, Bool.true_and] at q
        (repeat' (first | ((with_reducible show Cr.W _ _ _); refine whole_ok ?_) | (refine op_tix rfl ?_) | walk_at "vn" | fail))
        refine br_b (fun h2 => ?_) (fun h2 => ?_)
        · rw [h2, Bool.true_and] at q
          (repeat' (first | ((with_reducible show Cr.W _ _ _); refine whole_ok ?_) | (refine op_tix rfl ?_) | walk_at "vn" | fail))
          exact q
        · rw [h2, Bool.false_and] at q
          (repeat' (first | walk_at "vn" | fail))
          exact q
      · rw [h, Bool.false_and] at q
        (repeat' (first | walk_at "vn" | fail))
        exact q
    | .str x :: a :: b :: d :: r, hm =>
      have hm : (a :: b :: d :: r).length ≤ 10 := hm
      (repeat' (first | walk_at "vn" | fail))
      refine br_not (by intro z; simp at z; omega) ?_
      (repeat' (first | walk_at "vn" | fail))
      exact q
  | _ =>
    (repeat' (first | walk_at "vn" | (with_reducible refine br_yes (by first | decide | omega | (simp <;> fail) | fail) ?_) | (with_reducible refine br_not (by first | decide | omega | (simp <;> fail) | fail) ?_) | (with_reducible refine br (fun _ => ?_) (fun _ => ?_)) | fail))
    exact q
theorem is_rd_ok {m : D} {c : Int} (hm : MvB m) (q : Q (.dat (.bl (isRd c m))) [.un, .un]) : (F_is_read [.dat m, .dat (.int c)]).W Q E := by
  rw [F_is_read_eq]
  refine w_def (δ := [.dat m, .dat (.int c)]) rfl rfl ?_
  unfold d_is_read
  cases m with
  | tup xs =>
    match xs, hm with
    | [], _ =>
      (repeat' (first | walk_at "vn" | (with_reducible refine br_yes (by first | decide | omega | (simp <;> fail) | fail) ?_) | (with_reducible refine br_not (by first | decide | omega | (simp <;> fail) | fail) ?_) | (with_reducible refine br (fun _ => ?_) (fun _ => ?_)) | fail))
      exact q
    | [.str x], _ =>
      (repeat' (first | walk_at "vn" | (with_reducible refine br_yes (by first | decide | omega | (simp <;> fail) | fail) ?_) | (with_reducible refine br_not (by first | decide | omega | (simp <;> fail) | fail) ?_) | (with_reducible refine br (fun _ => ?_) (fun _ => ?_)) | fail))
      exact q
    | [.str x, a], _ =>
      rw [isRd_of] at q
      (repeat' (first | (refine ne_text ?_) | (refine op_tix rfl ?_) | walk_at "vn" | (with_reducible refine br_yes (by first | decide | omega | (simp <;> fail) | fail) ?_) | (with_reducible refine br_not (by first | decide | omega | (simp <;> fail) | fail) ?_) | fail))
      refine br_b (fun h => ?_) (fun h => ?_)
      · rw [h, Bool.true_and] at q
        (repeat' (first | ((with_reducible show Cr.W _ _ _); refine whole_ok ?_) | (refine op_tix rfl ?_) | walk_at "vn" | fail))
        exact q
      · rw [h, Bool.false_and] at q
        (repeat' (first | walk_at "vn" | fail))
        exact q
    | [.str x, a, b], _ =>
      rw [isRd_3] at q
      (repeat' (first | walk_at "vn" | (with_reducible refine br_yes (by first | decide | omega | (simp <;> fail) | fail) ?_) | (with_reducible refine br_not (by first | decide | omega | (simp <;> fail) | fail) ?_) | (with_reducible refine br (fun _ => ?_) (fun _ => ?_)) | fail))
      exact q
    | .str x :: a :: b :: d :: r, hm =>
      have hm : (a :: b :: d :: r).length ≤ 10 := hm
      (repeat' (first | walk_at "vn" | fail))
      refine br_not (by intro z; simp at z; omega) ?_
      (repeat' (first | walk_at "vn" | fail))
      exact q
  | _ =>
    (repeat' (first | walk_at "vn" | (with_reducible refine br_yes (by first | decide | omega | (simp <;> fail) | fail) ?_) | (with_reducible refine br_not (by first | decide | omega | (simp <;> fail) | fail) ?_) | (with_reducible refine br (fun _ => ?_) (fun _ => ?_)) | fail))
    exact q
theorem isint_ok {d : D} (q : Q (.dat (.bl (match d with
    | .int _ => true
    | _ => false))) [.un]) : (F__law_isint [.dat d]).W Q E := by
  rw [F__law_isint_eq]
  refine w_def (δ := [.dat d]) rfl rfl ?_
  unfold d__law_isint
  cases d with
  | _ =>
    (repeat' (first | walk_at "vn" | fail))
    exact q
end
end L
end

section
set_option Elab.async false
set_option linter.all false
set_option maxRecDepth 100000
set_option maxHeartbeats 4000000
set_option exponentiation.threshold 4000
namespace L
open PySem PySem.Spec PyProof.Rows L2 VS

theorem cut_1 {α : Type} (x : α) (r : List α) : cut (x :: r) (some 1) none = r := by
  unfold cut
  rw [show (some (1 : Int)) = some ((1 : Nat) : Int) from rfl, HT.sIx_nat, HT.sIx_none]
  simp
def allB (c : Int) (r : List D) : Bool := r.all fun d => (numP 0 c d).isSome
theorem numP_1 {c : Int} {d : D} : (numP 1 c d).isSome = ((numP 0 c d).isSome && match d with
    | .int i => decide (i > 0)
    | _ => false) := by
  cases d with
  | int i =>
    rw [numP_int, numP_int]
    show _ = (_ && decide (i > 0))
    by_cases h : 1 ≤ i ∧ i ≤ c
    · rw [if_pos h, if_pos ⟨by omega, h.2⟩, decide_eq_true (by omega)]; rfl
    · rw [if_neg h]
      by_cases h2 : 0 ≤ i ∧ i ≤ c
      · rw [if_pos h2, decide_eq_false (by omega)]; rfl
      · rw [if_neg h2]; rfl
  | _ => rfl
section
variable {Q : Rv → List Sl → Prop} {E : Nat → List (Str × D) → List Sl → Prop}
theorem shape_loop {Q : Fl → List Sl → Prop} {a0 a1 : Sl} {c : Int} {r : List D} {u : Den Fl} (hu : u = dIfS (dOr (dNot (dTest (dOfC (dCall F__law_isint [none] (dArg (dVar 2) dNoArg))))) (dOr (dTest (dOp ltD (dVar 2) (dC (.int 0)))) (dTest (dOp gtD (dVar 2) (dVar 1))))) (dRet (dC (.bl false))) dNext) (h1 : a1 = .dat (.int c))
    (q1 : ∀ s, Pl s → allB c r = true → Q .nxt [a0, a1, s]) (q2 : ∀ s, allB c r = false → Q (.ret (.dat (.bl false))) [a0, a1, s]) : W (dLoop (tName 2) u r) [a0, a1, .un] Q E := by
  subst hu h1
  refine w_loop (fun ds δ => ∃ s, δ = [a0, .dat (.int c), s] ∧ Pl s ∧ allB c r = allB c ds) r _ ⟨_, rfl, pl_un, rfl⟩ ?_ ?_
  · rintro _ ⟨s, rfl, hs, h⟩
    exact q1 s hs h
  · rintro d ds _ ⟨s, rfl, hs, h⟩
    refine ⟨_, tset rfl hs.no, ?_⟩
    have e : allB c (d :: ds) = ((numP 0 c d).isSome && allB c ds) := rfl
    rw [e] at h
    cases d with
    | int i =>
      rw [numP_int] at h
      (repeat' (first | ((with_reducible show Cr.W _ _ _); refine isint_ok ?_) | walk_at "vn" | (with_reducible refine br (fun _ => ?_) (fun _ => ?_)) | fail))
      · rw [if_neg (by omega)] at h
        exact q2 _ h
      · rw [if_neg (by omega)] at h
        exact q2 _ h
      · rw [if_pos (by omega)] at h
        exact ⟨pl_dat, h⟩
    | _ =>
      (repeat' (first | ((with_reducible show Cr.W _ _ _); refine isint_ok ?_) | walk_at "vn" | fail))
      exact q2 _ h
theorem shape_ok {m : D} {c : Int} (hm : MvB m) (q : Q (.dat (.bl (mvP c m).isSome)) [.un, .un]) : (F__law_moveshape [.dat m, .dat (.int c)]).W Q E := by
  rw [F__law_moveshape_eq]
  refine w_def (δ := [.dat m, .dat (.int c), .un]) rfl rfl ?_
  unfold d__law_moveshape
  have ur : Str.ofString "up" ≠ Str.ofString "read" := by decide +kernel
  cases m with
  | tup xs =>
    match xs, hm with
    | [], _ =>
      (repeat' (first | walk_at "vn" | (with_reducible refine br_yes (by first | decide | omega | (simp <;> fail) | fail) ?_) | (with_reducible refine br_not (by first | decide | omega | (simp <;> fail) | fail) ?_) | (with_reducible refine br (fun _ => ?_) (fun _ => ?_)) | fail))
      exact q
    | [.str x], _ =>
      (repeat' (first | walk_at "vn" | (with_reducible refine br_yes (by first | decide | omega | (simp <;> fail) | fail) ?_) | (with_reducible refine br_not (by first | decide | omega | (simp <;> fail) | fail) ?_) | (with_reducible refine br (fun _ => ?_) (fun _ => ?_)) | fail))
      exact q
    | [.str x, a], _ =>
      rw [show (mvP c (.tup [.str x, a])).isSome = (decide (x = Str.ofString "read") && (numP 1 c a).isSome) from by
        rw [mvP_2]
        by_cases h : x = Str.ofString "read"
        · rw [if_pos h, decide_eq_true h, Option.isSome_map]; rfl
        · rw [if_neg h, decide_eq_false h]; rfl, numP_1] at q
      (repeat' (first | (refine op_tix rfl ?_) | walk_at "vn" | (with_reducible refine br_yes (by first | decide | omega | (simp <;> fail) | fail) ?_) | (with_reducible refine br_not (by first | decide | omega | (simp <;> fail) | fail) ?_) | fail))
      rw [cut_1]
      refine shape_loop rfl rfl (fun s hs h => ?_) (fun s h => ?_)
      · have h : ((numP 0 c a).isSome && true) = true := h
        rw [Bool.and_true] at h
        rw [h, Bool.true_and] at q
        (repeat' (first | (refine op_tix rfl ?_) | (refine eq_textS ?_) | walk_at "vn" | (with_reducible refine br_yes (by first | decide | omega | (simp <;> fail) | fail) ?_) | (with_reducible refine br_not (by first | decide | omega | (simp <;> fail) | fail) ?_) | fail))
        refine br (fun hx => ?_) (fun hx => ?_)
        · rw [hx, decide_eq_false ur, Bool.false_and] at q
          (repeat' (first | walk_at "vn" | (with_reducible refine br_yes (by first | decide | omega | (simp <;> fail) | fail) ?_) | (with_reducible refine br_not (by first | decide | omega | (simp <;> fail) | fail) ?_) | fail))
          exact q
        · (repeat' (first | (refine op_tix rfl ?_) | (refine eq_textS ?_) | walk_at "vn" | (with_reducible refine br_yes (by first | decide | omega | (simp <;> fail) | fail) ?_) | (with_reducible refine br_not (by first | decide | omega | (simp <;> fail) | fail) ?_) | fail))
          refine br_b (fun hx2 => ?_) (fun hx2 => ?_)
          · rw [hx2, Bool.true_and] at q
            cases a with
            | int i =>
              (repeat' (first | (refine op_tix rfl ?_) | walk_at "vn" | (with_reducible refine br_yes (by first | decide | omega | (simp <;> fail) | fail) ?_) | (with_reducible refine br_not (by first | decide | omega | (simp <;> fail) | fail) ?_) | fail))
              exact q
            | _ => cases h
          · rw [hx2, Bool.false_and] at q
            (repeat' (first | walk_at "vn" | fail))
            exact q
      · have h : ((numP 0 c a).isSome && true) = false := h
        rw [Bool.and_true] at h
        rw [h, Bool.false_and, Bool.and_false] at q
        (repeat' (first | walk_at "vn" | fail))
        exact q
    | [.str x, a, b], hm =>
      rw [show (mvP c (.tup [.str x, a, b])).isSome = (decide (x = Str.ofString "up") && ((numP 0 c a).isSome && (numP 1 c b).isSome)) from by
        rw [mvP_3]
        by_cases h : x = Str.ofString "up"
        · rw [if_pos h, decide_eq_true h]
          cases numP 0 c a with
          | none => rfl
          | some i => cases numP 1 c b <;> rfl
        · rw [if_neg h, decide_eq_false h]; rfl, numP_1] at q
      (repeat' (first | (refine op_tix rfl ?_) | walk_at "vn" | (with_reducible refine br_yes (by first | decide | omega | (simp <;> fail) | fail) ?_) | (with_reducible refine br_not (by first | decide | omega | (simp <;> fail) | fail) ?_) | fail))
      rw [cut_1]
      refine shape_loop rfl rfl (fun s hs h => ?_) (fun s h => ?_)
      · have h : ((numP 0 c a).isSome && ((numP 0 c b).isSome && true)) = true := h
        rw [Bool.and_true, Bool.and_eq_true] at h
        rw [h.1, h.2, Bool.true_and, Bool.true_and] at q
        (repeat' (first | (refine op_tix rfl ?_) | (refine eq_textS ?_) | walk_at "vn" | (with_reducible refine br_yes (by first | decide | omega | (simp <;> fail) | fail) ?_) | (with_reducible refine br_not (by first | decide | omega | (simp <;> fail) | fail) ?_) | fail))
        refine br (fun hx => ?_) (fun hx => ?_)
        · rw [decide_eq_true hx, Bool.true_and] at q
          have hb := h.2
          cases b with
          | int i =>
            (repeat' (first | (refine op_tix rfl ?_) | walk_at "vn" | (with_reducible refine br_yes (by first | decide | omega | (simp <;> fail) | fail) ?_) | (with_reducible refine br_not (by first | decide | omega | (simp <;> fail) | fail) ?_) | fail))
            exact q
          | _ => cases hb
        · rw [decide_eq_false hx, Bool.false_and] at q
          (repeat' (first | (refine op_tix rfl ?_) | (refine eq_textS ?_) | walk_at "vn" | (with_reducible refine br_yes (by first | decide | omega | (simp <;> fail) | fail) ?_) | (with_reducible refine br_not (by first | decide | omega | (simp <;> fail) | fail) ?_) | fail))
          refine br_b (fun hx2 => ?_) (fun hx2 => ?_)
          · (repeat' (first | walk_at "vn" | (with_reducible refine br_yes (by first | decide | omega | (simp <;> fail) | fail) ?_) | (with_reducible refine br_not (by first | decide | omega | (simp <;> fail) | fail) ?_) | fail))
            exact q
          · (repeat' (first | walk_at "vn" | fail))
            exact q
      · have h : ((numP 0 c a).isSome && ((numP 0 c b).isSome && true)) = false := h
        rw [Bool.and_true] at h
        have e : ∀ M : Bool, ((numP 0 c a).isSome && ((numP 0 c b).isSome && M)) = false := fun M => by rw [← Bool.and_assoc, h, Bool.false_and]
        rw [e, Bool.and_false] at q
        (repeat' (first | walk_at "vn" | fail))
        exact q
    | .str x :: a :: b :: d :: r, hm =>
      have hm : (a :: b :: d :: r).length ≤ 10 := hm
      have q : Q (.dat (.bl false)) [.un, .un] := q
      (repeat' (first | (refine op_tix (atI_nat (by decide) rfl) ?_) | walk_at "vn" | fail))
      refine br_not (by simp; omega) ?_
      (repeat' (first | (refine op_tix (atI_nat (by decide) rfl) ?_) | walk_at "vn" | fail))
      rw [cut_1]
      refine shape_loop rfl rfl (fun s hs h => ?_) (fun s h => ?_)
      · (repeat' (first | (refine op_tix (atI_nat (by decide) rfl) ?_) | (refine eq_textS ?_) | walk_at "vn" | fail))
        refine br (fun hx => ?_) (fun hx => ?_)
        · (repeat' (first | walk_at "vn" | fail))
          refine br_not (by intro z; simp at z; omega) ?_
          (repeat' (first | walk_at "vn" | fail))
          exact q
        · (repeat' (first | (refine op_tix (atI_nat (by decide) rfl) ?_) | (refine eq_textS ?_) | walk_at "vn" | fail))
          refine br_b (fun hx2 => ?_) (fun hx2 => ?_)
          · (repeat' (first | walk_at "vn" | fail))
            refine br_not (by intro z; simp at z; omega) ?_
            (repeat' (first | walk_at "vn" | fail))
            exact q
          · (repeat' (first | walk_at "vn" | fail))
            exact q
      · (repeat' (first | walk_at "vn" | fail))
        exact q
  | _ =>
    (repeat' (first | walk_at "vn" | (with_reducible refine br_yes (by first | decide | omega | (simp <;> fail) | fail) ?_) | (with_reducible refine br_not (by first | decide | omega | (simp <;> fail) | fail) ?_) | (with_reducible refine br (fun _ => ?_) (fun _ => ?_)) | fail))
    exact q
end
end L
end

section
set_option Elab.async false
set_option linter.all false
set_option maxRecDepth 100000
set_option maxHeartbeats 4000000
set_option exponentiation.threshold 4000
namespace L
open PySem PySem.Spec PyProof.Rows L2 VS

/-- the play of a list of moves from place k on: held h (cell 0 on), due, ups -/
def playL (n c : Int) : List D → Int → List Int → Int → Int → Bool × Int
  | [], k, _, due, ups => if due > 0 then (false, k) else (true, ups)
  | m :: ms, k, h, due, ups => if due = 0 then (false, k) else match mvP c m with
    | none => (false, k)
    | some (.up a b) => if h.getD a.toNat (-1) < 0 ∨ h.getD a.toNat (-1) ≥ n then (false, k) else playL n c ms (k + 1) (h.set b.toNat (h.getD a.toNat (-1) + 1)) due (ups + 1)
    | some (.rd a) => if h.getD a.toNat (-1) ≠ due then (false, k) else playL n c ms (k + 1) h (due - 1) ups
theorem playL_nil {n c k due ups : Int} {h : List Int} : playL n c [] k h due ups = if due > 0 then (false, k) else (true, ups) := rfl
theorem playL_cons {n c k due ups : Int} {h : List Int} {m : D} {ms : List D} : playL n c (m :: ms) k h due ups = if due = 0 then (false, k) else match mvP c m with
    | none => (false, k)
    | some (.up a b) => if h.getD a.toNat (-1) < 0 ∨ h.getD a.toNat (-1) ≥ n then (false, k) else playL n c ms (k + 1) (h.set b.toNat (h.getD a.toNat (-1) + 1)) due (ups + 1)
    | some (.rd a) => if h.getD a.toNat (-1) ≠ due then (false, k) else playL n c ms (k + 1) h (due - 1) ups := rfl
def resD (r : Bool × Int) : D := .tup [.bl r.1, .int r.2]
theorem numP_some {lo hi i : Int} {d : D} (h : numP lo hi d = some i) : d = .int i ∧ lo ≤ i ∧ i ≤ hi := by
  cases d with
  | int j =>
    rw [numP_int] at h
    by_cases q : lo ≤ j ∧ j ≤ hi
    · rw [if_pos q] at h
      cases h
      exact ⟨rfl, q⟩
    · rw [if_neg q] at h
      cases h
  | _ => cases h
theorem mv_up {c a b : Int} {m : D} (hm : MvB m) (h : mvP c m = some (.up a b)) : m = .tup [.str (Str.ofString "up"), .int a, .int b] ∧ 0 ≤ a ∧ a ≤ c ∧ 1 ≤ b ∧ b ≤ c := by
  cases m with
  | tup xs =>
    match xs, hm with
    | [], _ => cases h
    | [.str x], _ => cases h
    | [.str x, d], _ =>
      rw [mvP_2] at h
      by_cases q : x = Str.ofString "read"
      · rw [if_pos q] at h
        cases e : numP 1 c d with
        | none => rw [e] at h; cases h
        | some i => rw [e] at h; cases h
      · rw [if_neg q] at h
        cases h
    | [.str x, d, e], _ =>
      rw [mvP_3] at h
      by_cases q : x = Str.ofString "up"
      · rw [if_pos q] at h
        cases e1 : numP 0 c d with
        | none => rw [e1] at h; cases h
        | some i =>
          cases e2 : numP 1 c e with
          | none => rw [e1, e2] at h; cases h
          | some j =>
            rw [e1, e2] at h
            cases h
            obtain ⟨r1, r2, r3⟩ := numP_some e1
            obtain ⟨s1, s2, s3⟩ := numP_some e2
            rw [q, r1, s1]
            exact ⟨rfl, r2, r3, s2, s3⟩
      · rw [if_neg q] at h
        cases h
    | .str x :: d :: e :: f :: r, _ => cases h
  | _ => cases h
theorem mv_rd {c a : Int} {m : D} (hm : MvB m) (h : mvP c m = some (.rd a)) : m = .tup [.str (Str.ofString "read"), .int a] ∧ 1 ≤ a ∧ a ≤ c := by
  cases m with
  | tup xs =>
    match xs, hm with
    | [], _ => cases h
    | [.str x], _ => cases h
    | [.str x, d], _ =>
      rw [mvP_2] at h
      by_cases q : x = Str.ofString "read"
      · rw [if_pos q] at h
        cases e : numP 1 c d with
        | none => rw [e] at h; cases h
        | some i =>
          rw [e] at h
          cases h
          obtain ⟨r1, r2, r3⟩ := numP_some e
          rw [q, r1]
          exact ⟨rfl, r2, r3⟩
      · rw [if_neg q] at h
        cases h
    | [.str x, d, e], _ =>
      rw [mvP_3] at h
      by_cases q : x = Str.ofString "up"
      · rw [if_pos q] at h
        cases e1 : numP 0 c d with
        | none => rw [e1] at h; cases h
        | some i =>
          cases e2 : numP 1 c e with
          | none => rw [e1, e2] at h; cases h
          | some j => rw [e1, e2] at h; cases h
      · rw [if_neg q] at h
        cases h
    | .str x :: d :: e :: f :: r, _ => cases h
  | _ => cases h
theorem drop_at {α : Type} {ms : List α} {k : Nat} (h : k < ms.length) : ms.drop k = ms[k] :: ms.drop (k + 1) := List.drop_eq_getElem_cons h
end L
end

section
set_option Elab.async false
set_option linter.all false
set_option maxRecDepth 100000
set_option maxHeartbeats 4000000
set_option exponentiation.threshold 4000
namespace L
open PySem PySem.Spec PyProof.Rows L2 VS

theorem repL_one (x : D) : ∀ m : Nat, repL m [x] = List.replicate m x
  | 0 => rfl
  | m + 1 => by
    have ih := repL_one x m
    show [x] ++ repL m [x] = _
    rw [ih]
    rfl
theorem mul_rep {x : D} {k : Int} {q : D → Prop} (h0 : 0 ≤ k) (h1 : k ≤ 10000) (h : q (.lst (List.replicate k.toNat x))) : Op mulA (.lst [x]) (.int k) q := by
  refine ⟨.lst (repL k.toNat [x]), ?_, by rw [repL_one]; exact h⟩
  exact if_pos ⟨by omega, by omega, by simp; omega⟩
def h0 (c : Int) : List Int := 0 :: List.replicate c.toNat (-1)
theorem h0_len {c : Int} (h : 0 ≤ c) : ((h0 c).length : Int) = c + 1 := by
  unfold h0
  rw [List.length_cons, List.length_replicate]
  omega
theorem ixh {h : List Int} {a : Int} {s : Option Sl} {Q : D → Prop} (h1 : viewL s = some (h.map D.int)) (ha : 0 ≤ a) (hl : a < h.length) (q : Q (.int (h.getD a.toNat (-1)))) : ∃ xs1 j' z', viewL s = some xs1 ∧ D.int a = .int j' ∧ atI xs1 j' = some z' ∧ Q z' := by
  refine ⟨h.map D.int, a, _, h1, rfl, atI_nat ha ?_, q⟩
  have e : a.toNat < h.length := by omega
  rw [List.getElem?_map, List.getElem?_eq_getElem e, List.getD_eq_getElem?_getD, List.getElem?_eq_getElem e]
  rfl
theorem seth {h : List Int} {b v : Int} {s : Option Sl} {bb : Bool} {Q : Bool → List D → Prop} (h1 : s = some (.own bb (.lst (h.map D.int)))) (hb : 0 ≤ b) (hl : b < h.length) (q : Q bb ((h.set b.toNat v).map D.int)) : ∃ b' xs' j' n', s = some (.own b' (.lst xs')) ∧ D.int b = .int j' ∧ ixN xs'.length j' = some n' ∧ Q b' (xs'.set n' (.int v)) :=
  ⟨bb, h.map D.int, b, b.toNat, h1, rfl, ixN_nat hb (by rw [List.length_map]; exact hl), by rw [← List.map_set]; exact q⟩
section
variable {Q : Rv → List Sl → Prop} {E : Nat → List (Str × D) → List Sl → Prop}
theorem play_ok {ms : List D} {n c : Int} (hn : 0 ≤ n) (hc : 1 ≤ c) (hc2 : c ≤ 1000) (hl : ms.length ≤ 100000) (hm : ∀ m ∈ ms, MvB m) (q : Q (.dat (resD (playL n c ms 0 (h0 c) n 0))) [.un, .un, .un]) : (F__law_play [.dat (.int n), .dat (.int c), .dat (.lst ms)]).W Q E := by
  rw [F__law_play_eq]
  refine w_def (δ := [.dat (.int n), .dat (.int c), .dat (.lst ms), .un, .un, .un, .un, .un, .un]) rfl rfl ?_
  unfold d__law_play
  refine w_cut (fun δ => δ = [.dat (.int n), .dat (.int c), .dat (.lst ms), .own false (.lst ((h0 c).map D.int)), .un, .un, .un, .un, .un]) ?_ ?_
  · (repeat' (first | (refine mul_rep (by omega) (by omega) ?_) | walk_at "vn" | fail))
    refine ⟨by simp; omega, ?_⟩
    refine ⟨_, rfl, rfl, ?_⟩
    unfold h0
    rw [List.map_cons, List.map_replicate]
    rfl
  rintro _ rfl
  have hlen := h0_len (c := c) (by omega)
  generalize h0 c = hh at *
  (repeat' (first | walk_at "vn" | fail))
  have ur : Str.ofString "up" ≠ Str.ofString "read" := by decide +kernel
  refine w_range (fun k δ => ∃ (h : List Int) (due ups : Int) (s6 s7 s8 : Sl), δ = [.dat (.int n), .dat (.int c), .dat (.lst ms), .own false (.lst (h.map D.int)), .dat (.int due), .dat (.int ups), s6, s7, s8] ∧ Pl s6 ∧ Pl s7 ∧ Pl s8 ∧ (h.length : Int) = c + 1 ∧ 0 ≤ k ∧ playL n c (ms.drop k.toNat) k h due ups = playL n c ms 0 hh n 0) ms.length ?_ ?_ _ _ _ (by omega) ⟨hh, n, 0, _, _, _, rfl, pl_un, pl_un, pl_un, hlen, by omega, rfl⟩
  · rintro k _ hk ⟨h, due, ups, s6, s7, s8, rfl, h6, h7, h8, hhl, hk0, hp⟩
    have hkl : k.toNat < ms.length := by omega
    rw [drop_at hkl, playL_cons] at hp
    have hmb := hm _ (List.getElem_mem hkl)
    have hix : ms[k.toNat]? = some ms[k.toNat] := List.getElem?_eq_getElem hkl
    have hk1 : (k + 1).toNat = k.toNat + 1 := by omega
    rw [← hk1] at hp
    generalize ms[k.toNat] = m at *
    have stop : ∀ {r : Bool × Int}, r = playL n c ms 0 hh n 0 → ∀ δ' : List Sl, outs [.dat (.int n), .dat (.int c), .dat (.lst ms)] δ' = [.un, .un, .un] → Q (.dat (resD r)) (outs [.dat (.int n), .dat (.int c), .dat (.lst ms)] δ') := fun e δ' ho => by rw [ho, e]; exact q
    refine ⟨_, tset rfl h6.no, ?_⟩
    refine w_cut (fun δ => δ = [.dat (.int n), .dat (.int c), .dat (.lst ms), .own false (.lst (h.map D.int)), .dat (.int due), .dat (.int ups), .dat (.int k), .dat m, s8]) ?_ ?_
    · refine w_asg ?_
      (repeat' (first | walk_at "vn" | fail))
      refine op_ixN hk0 hix ?_
      exact ⟨_, tset rfl h7.no, rfl, rfl⟩
    rintro _ rfl
    (repeat' (first | walk_at "vn" | fail))
    refine br (fun hd => ?_) (fun hd => ?_)
    · rw [if_pos hd] at hp
      (repeat' (first | walk_at "vn" | fail))
      exact stop hp _ rfl
    rw [if_neg hd] at hp
    cases e : mvP c m with
    | none =>
      rw [e] at hp
      (repeat' (first | ((with_reducible show Cr.W _ _ _); refine shape_ok hmb ?_) | walk_at "vn" | fail))
      rw [e]
      refine ⟨fun z => (by cases z), fun _ => ?_⟩
      (repeat' (first | walk_at "vn" | fail))
      exact stop hp _ rfl
    | some v =>
      rw [e] at hp
      cases v with
      | up a b =>
        obtain ⟨rfl, ha0, ha1, hb1, hb2⟩ := mv_up hmb e
        have hp : (if h.getD a.toNat (-1) < 0 ∨ h.getD a.toNat (-1) ≥ n then (false, k) else playL n c (ms.drop (k + 1).toNat) (k + 1) (h.set b.toNat (h.getD a.toNat (-1) + 1)) due (ups + 1)) = playL n c ms 0 hh n 0 := hp
        (repeat' (first | ((with_reducible show Cr.W _ _ _); refine shape_ok hmb ?_) | walk_at "vn" | fail))
        rw [e]
        refine ⟨fun _ => ?_, fun z => (by cases z)⟩
        (repeat' (first | (refine op_tix rfl ?_) | (refine eq_textS ?_) | walk_at "vn" | fail))
        refine br_yes rfl ?_
        (repeat' (first | (refine op_tix rfl ?_) | (refine ixh rfl ha0 (by omega) ?_) | (with_reducible refine Exists.intro _ (And.intro (tset rfl h8.no) ?_)) | walk_at "vn" | fail))
        generalize h.getD a.toNat (-1) = v at *
        by_cases hv : v < 0 ∨ v ≥ n
        · rw [if_pos hv] at hp
          (repeat' (first | walk_at "vn" | (with_reducible refine br (fun _ => ?_) (fun _ => ?_)) | fail))
          · exact stop hp _ rfl
          · exact stop hp _ rfl
          · exfalso; omega
        · rw [if_neg hv] at hp
          (repeat' (first | (refine op_tix rfl ?_) | (refine setL_mk rfl (ixN_nat (by omega) (by rw [List.length_map]; omega)) ?_) | walk_at "vn" | (with_reducible refine br_yes (by first | decide | omega | (simp <;> fail) | fail) ?_) | (with_reducible refine br_not (by first | decide | omega | (simp <;> fail) | fail) ?_) | fail))
          refine ⟨h.set b.toNat (v + 1), due, ups + 1, .dat (.int k), .dat (.tup [.str (Str.ofString "up"), .int a, .int b]), .dat (.int v), ?_, pl_dat, pl_dat, pl_dat, by rw [List.length_set]; exact hhl, by omega, hp⟩
          rw [List.map_set]
          rfl
      | rd a =>
        obtain ⟨rfl, ha1, ha2⟩ := mv_rd hmb e
        have hp : (if h.getD a.toNat (-1) ≠ due then (false, k) else playL n c (ms.drop (k + 1).toNat) (k + 1) h (due - 1) ups) = playL n c ms 0 hh n 0 := hp
        (repeat' (first | ((with_reducible show Cr.W _ _ _); refine shape_ok hmb ?_) | walk_at "vn" | fail))
        rw [e]
        refine ⟨fun _ => ?_, fun z => (by cases z)⟩
        (repeat' (first | (refine op_tix rfl ?_) | (refine eq_textS ?_) | walk_at "vn" | fail))
        refine br_not (fun z => ur z.symm) ?_
        (repeat' (first | (refine op_tix rfl ?_) | (refine ixh rfl (by omega) (by omega) ?_) | walk_at "vn" | fail))
        generalize h.getD a.toNat (-1) = v at *
        by_cases hv : v = due
        · rw [if_neg (fun z => z hv)] at hp
          (repeat' (first | walk_at "vn" | (with_reducible refine br_yes (by first | decide | omega | (simp <;> fail) | fail) ?_) | (with_reducible refine br_not (by first | decide | omega | (simp <;> fail) | fail) ?_) | fail))
          exact ⟨h, _, ups, _, _, _, rfl, pl_dat, pl_dat, h8, hhl, by omega, hp⟩
        · rw [if_pos hv] at hp
          (repeat' (first | walk_at "vn" | (with_reducible refine br_yes (by first | decide | omega | (simp <;> fail) | fail) ?_) | (with_reducible refine br_not (by first | decide | omega | (simp <;> fail) | fail) ?_) | fail))
          exact stop hp _ rfl
  · rintro _ ⟨h, due, ups, s6, s7, s8, rfl, h6, h7, h8, hhl, hk0, hp⟩
    rw [Int.toNat_natCast, List.drop_length, playL_nil] at hp
    (repeat' (first | walk_at "vn" | fail))
    refine br (fun hd => ?_) (fun hd => ?_)
    · rw [if_pos hd] at hp
      rw [← hp] at q
      (repeat' (first | walk_at "vn" | fail))
      exact q
    · rw [if_neg hd] at hp
      rw [← hp] at q
      (repeat' (first | walk_at "vn" | fail))
      exact q
end
end L
end

section
set_option Elab.async false
set_option linter.all false
set_option maxRecDepth 100000
set_option maxHeartbeats 4000000
set_option exponentiation.threshold 4000
namespace L
open PySem PySem.Spec PyProof.Rows L2 VS

/-! tables of integers by integers -/
abbrev TI := List (Int × Int)
def kvI (t : TI) : List (Key × D) := t.map fun e => (Sum.inl e.1, .int e.2)
def lkI (t : TI) (x : Int) : Option Int := (t.find? fun e => decide (e.1 = x)).map (·.2)
def putI (t : TI) (x c : Int) : TI := if (t.any fun e => decide (e.1 = x)) = true then t.map (fun e => if e.1 = x then (e.1, c) else e) else t ++ [(x, c)]
theorem keyI_eq {a b : Int} : ((Sum.inl a : Key) = Sum.inl b) ↔ a = b := ⟨fun h => by cases h; rfl, fun h => by rw [h]⟩
theorem lkI_cons (e : Int × Int) (t : TI) (x : Int) : lkI (e :: t) x = if e.1 = x then some e.2 else lkI t x := by
  unfold lkI
  rw [List.find?_cons]
  by_cases h : e.1 = x
  · simp [h]
  · simp [h]
theorem kvI_val (x : Int) : ∀ t : TI, dVal (kvI t) (.inl x) = (lkI t x).map D.int
  | [] => rfl
  | e :: t => by
    have ih := kvI_val x t
    rw [lkI_cons]
    unfold dVal kvI at ih ⊢
    rw [List.map_cons, List.find?_cons]
    by_cases h : e.1 = x
    · rw [if_pos h]
      simp [h]
    · rw [if_neg h, ← ih]
      simp [h]
theorem kvI_any (x : Int) (t : TI) : ((kvI t).any fun kv => decide (kv.1 = (.inl x : Key))) = t.any fun e => decide (e.1 = x) := by
  unfold kvI
  rw [List.any_map]
  congr 1
  funext e
  exact decide_eq_decide.mpr keyI_eq
theorem kvI_put (x c : Int) (t : TI) : dPut (kvI t) (.inl x) (.int c) = kvI (putI t x c) := by
  unfold dPut putI
  rw [kvI_any]
  split
  · unfold kvI
    rw [List.map_map, List.map_map]
    refine List.map_congr_left fun e _ => ?_
    simp only [Function.comp]
    by_cases h : e.1 = x
    · rw [if_pos (keyI_eq.mpr h), if_pos h]
    · rw [if_neg fun z => h (keyI_eq.mp z), if_neg h]
  · unfold kvI
    simp
theorem putI_len (t : TI) (x c : Int) : (putI t x c).length ≤ t.length + 1 := by
  unfold putI
  split <;> simp
theorem lkI_repl (x c y : Int) : ∀ t : TI, (t.any fun e => decide (e.1 = x)) = true → lkI (t.map fun e => if e.1 = x then (e.1, c) else e) y = if y = x then some c else lkI t y
  | [], h => by cases h
  | e :: t, h => by
    rw [List.map_cons, lkI_cons, lkI_cons]
    by_cases h1 : e.1 = x
    · rw [if_pos h1]
      by_cases h2 : y = x
      · rw [if_pos (h1.trans h2.symm), if_pos h2]
      · rw [if_neg (fun z => h2 (z.symm.trans h1)), if_neg h2, if_neg (fun z => h2 (z.symm.trans h1))]
        by_cases h3 : (t.any fun e => decide (e.1 = x)) = true
        · rw [lkI_repl x c y t h3, if_neg h2]
        · rw [show t.map (fun e => if e.1 = x then (e.1, c) else e) = t from by
            have e4 : t.map (fun e => if e.1 = x then (e.1, c) else e) = t.map id := List.map_congr_left fun z hz => if_neg fun q => h3 (List.any_eq_true.mpr ⟨z, hz, decide_eq_true q⟩)
            rw [e4, List.map_id]]
    · rw [if_neg h1]
      have h3 : (t.any fun e => decide (e.1 = x)) = true := by
        rw [List.any_cons, decide_eq_false h1, Bool.false_or] at h
        exact h
      rw [lkI_repl x c y t h3]
      by_cases h2 : y = x
      · rw [if_pos h2, if_neg (fun z => h1 (z.trans h2)), if_pos h2]
      · rw [if_neg h2, if_neg h2]
theorem lkI_app (x c y : Int) : ∀ t : TI, (t.any fun e => decide (e.1 = x)) ≠ true → lkI (t ++ [(x, c)]) y = if y = x then some c else lkI t y
  | [], _ => by
    rw [List.nil_append, lkI_cons]
    by_cases h : y = x
    · rw [if_pos h.symm, if_pos h]
    · rw [if_neg (fun z => h z.symm), if_neg h]
  | e :: t, h => by
    rw [List.cons_append, lkI_cons, lkI_cons]
    rw [List.any_cons] at h
    have h1 : e.1 ≠ x := fun z => h (by rw [decide_eq_true z, Bool.true_or])
    have h3 : (t.any fun e => decide (e.1 = x)) ≠ true := fun z => h (by rw [z, Bool.or_true])
    rw [lkI_app x c y t h3]
    by_cases h2 : y = x
    · rw [if_pos h2, if_neg (fun z => h1 (z.trans h2)), if_pos h2]
    · rw [if_neg h2, if_neg h2]
theorem lkI_put (t : TI) (x c y : Int) : lkI (putI t x c) y = if y = x then some c else lkI t y := by
  unfold putI
  split
  · rename_i h
    exact lkI_repl x c y t h
  · rename_i h
    exact lkI_app x c y t h
/-- the dict of cells and the list of cells -/
structure Cells (c n : Int) (t : TI) (h : List Int) : Prop where
  ln : (h.length : Int) = c + 1
  le : ∀ i : Nat, h.getD i (-1) ≤ n
  lk : ∀ a : Int, 0 ≤ a → a ≤ c → lkI t a = if h.getD a.toNat (-1) < 0 then none else some (h.getD a.toNat (-1))
theorem cells_0 {c n : Int} (hc : 0 ≤ c) (hn : 0 ≤ n) : Cells c n [(0, 0)] (h0 c) := by
  refine ⟨h0_len hc, fun i => ?_, fun a ha hac => ?_⟩
  · unfold h0
    cases i with
    | zero => exact hn
    | succ i =>
      rw [List.getD_cons_succ, List.getD_eq_getElem?_getD, List.getElem?_replicate]
      split <;> (show (-1 : Int) ≤ n; omega)
  · unfold h0
    rw [lkI_cons]
    by_cases h : (0 : Int) = a
    · subst h
      rfl
    · rw [if_neg h]
      obtain ⟨m, hm⟩ : ∃ m, a.toNat = m + 1 := ⟨a.toNat - 1, by omega⟩
      rw [hm, List.getD_cons_succ, List.getD_eq_getElem?_getD, List.getElem?_replicate]
      split <;> rfl
theorem getD_set {h : List Int} {i j : Nat} {v : Int} (hi : i < h.length) : (h.set i v).getD j (-1) = if i = j then v else h.getD j (-1) := by
  rw [List.getD_eq_getElem?_getD, List.getElem?_set]
  by_cases e : i = j
  · rw [if_pos e, if_pos e, if_pos hi]; rfl
  · rw [if_neg e, if_neg e, ← List.getD_eq_getElem?_getD]
theorem cells_put {c n b v : Int} {t : TI} {h : List Int} (C : Cells c n t h) (hb : 1 ≤ b) (hbc : b ≤ c) (hv0 : 0 ≤ v) (hvn : v ≤ n) : Cells c n (putI t b v) (h.set b.toNat v) := by
  have hl := C.ln
  have hbl : b.toNat < h.length := by omega
  refine ⟨by rw [List.length_set]; exact hl, fun i => ?_, fun y hy hyc => ?_⟩
  · rw [getD_set hbl]
    split
    · exact hvn
    · exact C.le i
  · rw [lkI_put, getD_set hbl]
    by_cases h1 : y = b
    · subst h1
      rw [if_pos rfl, if_pos rfl, if_neg (by omega)]
    · have e : b.toNat ≠ y.toNat := by omega
      rw [if_neg h1, if_neg e]
      exact C.lk y hy hyc
end L
end

section
set_option Elab.async false
set_option linter.all false
set_option maxRecDepth 100000
set_option maxHeartbeats 4000000
set_option exponentiation.threshold 4000
namespace L
open PySem PySem.Spec PyProof.Rows L2 VS

section
variable {Q : Rv → List Sl → Prop} {E : Nat → List (Str × D) → List Sl → Prop}
theorem pairs_mk {x : D} {ms : List D} {Q : List D → Prop} (hx : x = .lst ms ∨ x = .tup ms) (q : Q (pairsFrom 0 ms)) : ∃ z, enumD [x] = some z ∧ Q z := by
  rcases hx with rfl | rfl
  · exact ⟨_, rfl, q⟩
  · exact ⟨_, rfl, q⟩
theorem len_mk {x : D} {ms : List D} {q : D → Prop} (hx : x = .lst ms ∨ x = .tup ms) (h : q (.int ms.length)) : Op1 lenD [x] q := by
  rcases hx with rfl | rfl
  · exact ⟨_, rfl, h⟩
  · exact ⟨_, rfl, h⟩
theorem check_ok {x : D} {ms : List D} {n c : Int} (hx : x = .lst ms ∨ x = .tup ms) (hn : 0 ≤ n) (hc : 1 ≤ c) (hl : ms.length ≤ 50000) (hm : ∀ m ∈ ms, MvB m) (q1 : ∀ u, playL n c ms 0 (h0 c) n 0 = (true, u) → Q (.dat (.int u)) [.un, .un, .un]) (q2 : ∀ k, playL n c ms 0 (h0 c) n 0 = (false, k) → E 1 (flds (.str "badmove") ["at"] [.int k]) [.un, .un, .un]) : (F_check_moves [.dat (.int n), .dat (.int c), .dat x]).W Q E := by
  rw [F_check_moves_eq]
  refine w_def (δ := [.dat (.int n), .dat (.int c), .dat x, .un, .un, .un, .un, .un, .un]) rfl rfl ?_
  unfold d_check_moves
  have C0 := cells_0 (c := c) (n := n) (by omega) hn
  generalize h0 c = hh at *
  generalize hR : playL n c ms 0 hh n 0 = R at *
  (repeat' (first | ((with_reducible show Cr.W _ _ _); refine Cr.W.of (need_yes hc) ?_) | walk_at "vn" | fail))
  refine ⟨by decide, ?_⟩
  (repeat' (first | (refine pairs_mk hx ?_) | walk_at "vn" | fail))
  refine w_loop (fun ds δ => ∃ (r : List D) (k : Int) (t : TI) (h : List Int) (due ups : Int) (s6 s7 s8 : Sl), ds = pairsFrom k r ∧ k + r.length = ms.length ∧ δ = [.dat (.int n), .dat (.int c), .dat x, .own false (.dct (kvI t)), .dat (.int due), .dat (.int ups), s6, s7, s8] ∧ Pl s6 ∧ Pl s7 ∧ Pl s8 ∧ Cells c n t h ∧ 0 ≤ due ∧ 0 ≤ k ∧ (t.length : Int) ≤ k + 1 ∧ playL n c r k h due ups = R ∧ ∀ m ∈ r, MvB m) _ _ ⟨ms, 0, [(0, 0)], hh, n, 0, _, _, _, rfl, by omega, rfl, pl_un, pl_un, pl_un, C0, hn, by omega, by simp, hR, hm⟩ ?_ ?_
  · rintro _ ⟨r, k, t, h, due, ups, s6, s7, s8, e, hk, rfl, h6, h7, h8, C, hd, hk0, htl, hp, hr⟩
    cases r with
    | cons a r => cases e
    | nil =>
      rw [playL_nil] at hp
      have hk : k = ms.length := by simpa using hk
      (repeat' (first | (refine len_mk hx ?_) | walk_at "vn" | fail))
      refine br (fun hd => ?_) (fun hd => ?_)
      · rw [if_pos hd] at hp
        (repeat' (first | (refine len_mk hx ?_) | walk_at "vn" | fail))
        rw [← hk]
        exact q2 k hp.symm
      · rw [if_neg hd] at hp
        (repeat' (first | walk_at "vn" | fail))
        exact q1 ups hp.symm
  · rintro d ds _ ⟨r, k, t, h, due, ups, s6, s7, s8, e, hk, rfl, h6, h7, h8, C, hd0, hk0, htl, hp, hr⟩
    cases r with
    | nil => cases e
    | cons m r =>
      have e : d :: ds = .tup [.int k, m] :: pairsFrom (k + 1) r := e
      cases e
      rw [playL_cons] at hp
      have hmb := hr m List.mem_cons_self
      rw [List.length_cons] at hk
      have hkl : (kvI t).length < 100000 := by unfold kvI; rw [List.length_map]; omega
      refine ⟨_, ttup2 rfl h6.no rfl h7.no, ?_⟩
      (repeat' (first | walk_at "vn" | fail))
      refine br (fun hd => ?_) (fun hd => ?_)
      · rw [if_pos hd] at hp
        (repeat' (first | walk_at "vn" | fail))
        exact q2 k hp.symm
      rw [if_neg hd] at hp
      cases e : mvP c m with
      | none =>
        have hu : isUp c m = false := by unfold isUp; rw [e]
        have hv : isRd c m = false := by unfold isRd; rw [e]
        rw [e] at hp
        (repeat' (first | ((with_reducible show Cr.W _ _ _); refine is_up_ok hmb ?_) | walk_at "vn" | fail))
        rw [hu]
        (repeat' (first | ((with_reducible show Cr.W _ _ _); refine is_rd_ok hmb ?_) | walk_at "vn" | fail))
        rw [hv]
        (repeat' (first | walk_at "vn" | fail))
        exact q2 k hp.symm
      | some v =>
        rw [e] at hp
        cases v with
        | up a b =>
          have hu : isUp c m = true := by unfold isUp; rw [e]
          obtain ⟨rfl, ha0, ha1, hb1, hb2⟩ := mv_up hmb e
          have hp : (if h.getD a.toNat (-1) < 0 ∨ h.getD a.toNat (-1) ≥ n then (false, k) else playL n c r (k + 1) (h.set b.toNat (h.getD a.toNat (-1) + 1)) due (ups + 1)) = R := hp
          have lk := C.lk a ha0 ha1
          have le := C.le a.toNat
          have put := fun v h1 h2 => cells_put (v := v) C hb1 hb2 h1 h2
          generalize h.getD a.toNat (-1) = v at *
          (repeat' (first | ((with_reducible show Cr.W _ _ _); refine is_up_ok hmb ?_) | walk_at "vn" | fail))
          rw [hu]
          (repeat' (first | (refine op_tix rfl ?_) | (rw [kvI_val, lk]) | walk_at "vn" | fail))
          by_cases h0v : v < 0
          · rw [if_pos h0v]
            refine ⟨_, tset (d := .int n) rfl h8.no, ?_⟩
            (repeat' (first | walk_at "vn" | fail))
            refine br (fun h => ?_) (fun h => absurd rfl h)
            rw [if_pos (Or.inl h0v)] at hp
            (repeat' (first | walk_at "vn" | fail))
            exact q2 k hp.symm
          · rw [if_neg h0v]
            refine ⟨_, tset (d := .int v) rfl h8.no, ?_⟩
            (repeat' (first | walk_at "vn" | fail))
            refine br (fun h => ?_) (fun h => ?_)
            · rw [if_pos (Or.inr (by omega))] at hp
              (repeat' (first | walk_at "vn" | fail))
              exact q2 k hp.symm
            · rw [if_neg (by omega)] at hp
              (repeat' (first | (refine op_tix rfl ?_) | (refine setk_mk rfl rfl hkl ?_) | walk_at "vn" | fail))
              refine ⟨r, k + 1, putI t b (v + 1), _, due, ups + 1, .dat (.int k), .dat (.tup [.str (Str.ofString "up"), .int a, .int b]), .dat (.int v), rfl, by omega, by rw [kvI_put]; rfl, pl_dat, pl_dat, pl_dat, put (v + 1) (by omega) (by omega), hd0, by omega, ?_, hp, fun m hm => hr m (List.mem_cons_of_mem _ hm)⟩
              have := putI_len t b (v + 1)
              omega
        | rd a =>
          have hu : isUp c m = false := by unfold isUp; rw [e]
          have hv : isRd c m = true := by unfold isRd; rw [e]
          obtain ⟨rfl, ha1, ha2⟩ := mv_rd hmb e
          have hp : (if h.getD a.toNat (-1) ≠ due then (false, k) else playL n c r (k + 1) h (due - 1) ups) = R := hp
          have lk := C.lk a (by omega) ha2
          generalize h.getD a.toNat (-1) = v at *
          (repeat' (first | ((with_reducible show Cr.W _ _ _); refine is_up_ok hmb ?_) | walk_at "vn" | fail))
          rw [hu]
          (repeat' (first | ((with_reducible show Cr.W _ _ _); refine is_rd_ok hmb ?_) | walk_at "vn" | fail))
          rw [hv]
          (repeat' (first | (refine op_tix rfl ?_) | (rw [kvI_val, lk]) | walk_at "vn" | fail))
          by_cases h0v : v < 0
          · rw [if_pos h0v]
            (repeat' (first | walk_at "vn" | fail))
            refine br (fun h => ?_) (fun h => ?_)
            · omega
            · rw [if_pos (by omega)] at hp
              (repeat' (first | walk_at "vn" | fail))
              exact q2 k hp.symm
          · rw [if_neg h0v]
            (repeat' (first | walk_at "vn" | fail))
            refine br (fun h => ?_) (fun h => ?_)
            · rw [if_neg (by omega)] at hp
              (repeat' (first | walk_at "vn" | fail))
              exact ⟨r, k + 1, t, _, due - 1, ups, .dat (.int k), .dat (.tup [.str (Str.ofString "read"), .int a]), s8, rfl, by omega, rfl, pl_dat, pl_dat, h8, C, by omega, by omega, by omega, hp, fun m hm => hr m (List.mem_cons_of_mem _ hm)⟩
            · rw [if_pos h] at hp
              (repeat' (first | walk_at "vn" | fail))
              exact q2 k hp.symm
end
end L
end

section
set_option Elab.async false
set_option linter.all false
set_option maxRecDepth 100000
set_option maxHeartbeats 4000000
set_option exponentiation.threshold 4000
namespace L
open PySem PySem.Spec PyProof.Rows L2 VS

/-! the list of moves by best stops -/
def upM (a b : Nat) : D := .tup [.str (Str.ofString "up"), .int a, .int b]
def rdM (a : Nat) : D := .tup [.str (Str.ofString "read"), .int a]
theorem Best_ex {c n : Nat} (h : 1 ≤ n) : ∃ s, Best c n s := by
  have key : ∀ m s, s ≤ m → 1 ≤ s → s ≤ n → tot (c + 1) n s = some (Lst (c + 1) n) → ∃ s, Best c n s := by
    intro m
    induction m with
    | zero => intro s h1 h2; omega
    | succ m ih =>
      intro s h1 h2 h3 h4
      by_cases z : ∃ r, 1 ≤ r ∧ r < s ∧ tot (c + 1) n r = some (Lst (c + 1) n)
      · obtain ⟨r, r1, r2, r3⟩ := z
        exact ih r (by omega) r1 (by omega) r3
      · exact ⟨s, h2, h3, h4, fun r r1 r2 r3 => z ⟨r, r1, r2, r3⟩⟩
  obtain ⟨s, h1, h2, h3⟩ := tot_ex (c := c) h
  exact key s s (Nat.le_refl s) h1 h2 h3
open Classical in
noncomputable def bst (c n : Nat) : Nat := if h : ∃ s, Best c n s then Classical.choose h else n
theorem bst_best {c n : Nat} (h : 1 ≤ n) : Best c n (bst c n) := by
  unfold bst
  rw [dif_pos (Best_ex h)]
  exact Classical.choose_spec (Best_ex h)
theorem bst_of {c n s : Nat} (h : Best c n s) : bst c n = s := Best_uniq (bst_best (Nat.le_trans h.1 h.2.1)) h
noncomputable def Wl : Nat → Nat → Nat → Nat → Nat → List D
  | 0, _, _, _, _ => []
  | f + 1, r, n, a, b => if n = 0 then [] else upM a b :: (List.replicate (bst r n - 1) (upM b b) ++ (Wl f (r - 1) (n - bst r n) b (b + 1) ++ rdM b :: Wl f r (bst r n - 1) a b))
theorem Wl_0 {r n a b : Nat} : Wl 0 r n a b = [] := rfl
theorem Wl_s {f r n a b : Nat} : Wl (f + 1) r n a b = if n = 0 then [] else upM a b :: (List.replicate (bst r n - 1) (upM b b) ++ (Wl f (r - 1) (n - bst r n) b (b + 1) ++ rdM b :: Wl f r (bst r n - 1) a b)) := rfl
theorem Wl_fuel : ∀ (f g r n a b : Nat), n ≤ f → n ≤ g → Wl f r n a b = Wl g r n a b
  | 0, 0, _, _, _, _, _, _ => rfl
  | 0, g + 1, r, n, a, b, h, _ => by rw [Wl_0, Wl_s, if_pos (by omega)]
  | f + 1, 0, r, n, a, b, _, h => by rw [Wl_0, Wl_s, if_pos (by omega)]
  | f + 1, g + 1, r, n, a, b, h1, h2 => by
    rw [Wl_s, Wl_s]
    by_cases z : n = 0
    · rw [if_pos z, if_pos z]
    · rw [if_neg z, if_neg z]
      have hb := bst_best (c := r) (n := n) (by omega)
      have b1 := hb.1
      have b2 := hb.2.1
      rw [Wl_fuel f g (r - 1) (n - bst r n) b (b + 1) (by omega) (by omega), Wl_fuel f g r (bst r n - 1) a b (by omega) (by omega)]
noncomputable def Ml (r n a b : Nat) : List D := Wl n r n a b
theorem Ml_0 {r a b : Nat} : Ml r 0 a b = [] := rfl
theorem Ml_s {r n a b : Nat} (h : 1 ≤ n) : Ml r n a b = upM a b :: (List.replicate (bst r n - 1) (upM b b) ++ (Ml (r - 1) (n - bst r n) b (b + 1) ++ rdM b :: Ml r (bst r n - 1) a b)) := by
  have hb := bst_best (c := r) h
  have b1 := hb.1
  have b2 := hb.2.1
  unfold Ml
  obtain ⟨m, rfl⟩ : ∃ m, n = m + 1 := ⟨n - 1, by omega⟩
  rw [Wl_s, if_neg (by omega), Wl_fuel m (m + 1 - bst r (m + 1)) _ _ _ _ (by omega) (Nat.le_refl _), Wl_fuel m (bst r (m + 1) - 1) _ _ _ _ (by omega) (Nat.le_refl _)]
theorem len_step {x s A B : Nat} (hs : 1 ≤ s) (ha : 2 * A ≤ x * (x + 3)) (hb : 2 * B ≤ (s - 1) * (s - 1 + 3)) : 2 * (1 + (s - 1) + A + 1 + B) ≤ (x + s) * (x + s + 3) := by
  obtain ⟨t, rfl⟩ : ∃ t, s = t + 1 := ⟨s - 1, by omega⟩
  have e : t + 1 - 1 = t := by omega
  rw [e] at hb ⊢
  have e1 : x * (x + 3) = x * x + 3 * x := by rw [Nat.mul_add, Nat.mul_comm x 3]
  have e2 : t * (t + 3) = t * t + 3 * t := by rw [Nat.mul_add, Nat.mul_comm t 3]
  have e3 : (x + (t + 1)) * (x + (t + 1) + 3) = x * x + x * t + x * 1 + (t * x + t * t + t * 1 + (x + t + 1)) + (x + (t + 1)) * 3 := by
    rw [Nat.mul_add, Nat.add_mul x (t + 1), Nat.mul_add x x, Nat.mul_add x t 1, Nat.add_mul t 1, Nat.mul_add t x, Nat.mul_add t t 1]
    omega
  omega
theorem Ml_len : ∀ (m r n a b : Nat), n ≤ m → 2 * (Ml r n a b).length ≤ n * (n + 3)
  | m, r, 0, a, b, _ => by rw [Ml_0]; simp
  | 0, r, n + 1, a, b, h => by omega
  | m + 1, r, n + 1, a, b, h => by
    have hb := bst_best (c := r) (n := n + 1) (by omega)
    have b1 := hb.1
    have b2 := hb.2.1
    have h1 := Ml_len m (r - 1) (n + 1 - bst r (n + 1)) b (b + 1) (by omega)
    have h2 := Ml_len m r (bst r (n + 1) - 1) a b (by omega)
    rw [Ml_s (by omega)]
    generalize bst r (n + 1) = s at *
    have h3 := len_step b1 h1 h2
    rw [show n + 1 - s + s = n + 1 by omega] at h3
    simp only [List.length_cons, List.length_append, List.length_replicate]
    omega
/-- moves within C cells -/
def mvN (C : Nat) (m : D) : Prop := (∃ x y, x ≤ C ∧ y ≤ C ∧ m = upM x y) ∨ ∃ x, x ≤ C ∧ m = rdM x
theorem Ml_mv {C : Nat} : ∀ (m r n a b : Nat), n ≤ m → a ≤ C → (1 ≤ n → b + r = C) → ∀ x ∈ Ml r n a b, mvN C x
  | m, r, 0, a, b, _, _, _ => by rw [Ml_0]; intro x hx; cases hx
  | 0, r, n + 1, a, b, h, _, _ => by omega
  | m + 1, r, n + 1, a, b, h, ha, hr => by
    have hb := bst_best (c := r) (n := n + 1) (by omega)
    have b1 := hb.1
    have b2 := hb.2.1
    have hr := hr (by omega)
    have hz : r = 0 → n + 1 - bst r (n + 1) = 0 := by
      intro z
      have h3 := hb.2.2.1
      unfold tot at h3
      split at h3
      · cases h3
      · omega
    have h1 := Ml_mv (C := C) m (r - 1) (n + 1 - bst r (n + 1)) b (b + 1) (by omega) (by omega) (by intro z; rcases Nat.eq_zero_or_pos r with q | q; have := hz q; omega; omega)
    have h2 := Ml_mv (C := C) m r (bst r (n + 1) - 1) a b (by omega) ha (fun _ => hr)
    rw [Ml_s (by omega)]
    intro x hx
    rcases List.mem_cons.mp hx with rfl | hx
    · exact .inl ⟨a, b, ha, by omega, rfl⟩
    rcases List.mem_append.mp hx with hx | hx
    · exact .inl ⟨b, b, by omega, by omega, (List.mem_replicate.mp hx).2⟩
    rcases List.mem_append.mp hx with hx | hx
    · exact h1 x hx
    rcases List.mem_cons.mp hx with rfl | hx
    · exact .inr ⟨b, by omega, rfl⟩
    · exact h2 x hx
/-! played -/
theorem mvP_up {C x y : Nat} (hx : x ≤ C) (hy : 1 ≤ y) (hy2 : y ≤ C) : mvP C (upM x y) = some (.up x y) := by
  show (if Str.ofString "up" = Str.ofString "up" then (numP 0 C (.int x)).bind fun i => (numP 1 C (.int y)).map fun j => Mv.up i j else none) = _
  rw [if_pos rfl, numP_int, if_pos (by omega), numP_int, if_pos (by omega)]
  rfl
theorem mvP_rd {C x : Nat} (hx : 1 ≤ x) (hx2 : x ≤ C) : mvP C (rdM x) = some (.rd x) := by
  show (if Str.ofString "read" = Str.ofString "read" then (numP 1 C (.int x)).map Mv.rd else none) = _
  rw [if_pos rfl, numP_int, if_pos (by omega)]
  rfl
theorem play_up {N : Int} {C a b v : Nat} {rest : List D} {k due ups : Int} {h : List Int} (ha : a ≤ C) (hb : 1 ≤ b) (hb2 : b ≤ C) (hv : h.getD a (-1) = v) (hN : (v : Int) < N) (hd : due ≠ 0) : playL N C (upM a b :: rest) k h due ups = playL N C rest (k + 1) (h.set b ((v : Int) + 1)) due (ups + 1) := by
  rw [playL_cons, if_neg hd, mvP_up ha hb hb2]
  show (if h.getD (a : Int).toNat (-1) < 0 ∨ h.getD (a : Int).toNat (-1) ≥ N then (false, k) else playL N C rest (k + 1) (h.set (b : Int).toNat (h.getD (a : Int).toNat (-1) + 1)) due (ups + 1)) = _
  rw [Int.toNat_natCast, Int.toNat_natCast, hv, if_neg (by omega)]
theorem play_rd {N : Int} {C b : Nat} {rest : List D} {k due ups : Int} {h : List Int} (hb : 1 ≤ b) (hb2 : b ≤ C) (hv : h.getD b (-1) = due) (hd : due ≠ 0) : playL N C (rdM b :: rest) k h due ups = playL N C rest (k + 1) h (due - 1) ups := by
  rw [playL_cons, if_neg hd, mvP_rd hb hb2]
  show (if h.getD (b : Int).toNat (-1) ≠ due then (false, k) else playL N C rest (k + 1) h (due - 1) ups) = _
  rw [Int.toNat_natCast, hv, if_neg (fun z => z rfl)]
theorem getS {h : List Int} {i j : Nat} {v : Int} (hi : i < h.length) : (h.set i v).getD j (-1) = if i = j then v else h.getD j (-1) := by
  rw [List.getD_eq_getElem?_getD, List.getElem?_set]
  by_cases e : i = j
  · rw [if_pos e, if_pos e, if_pos hi]; rfl
  · rw [if_neg e, if_neg e, ← List.getD_eq_getElem?_getD]
theorem play_rep {N : Int} {C b : Nat} {rest : List D} (hb : 1 ≤ b) (hb2 : b ≤ C) : ∀ (j : Nat) (w : Nat) (k due ups : Int) (h : List Int), h.length = C + 1 → h.getD b (-1) = w → (w : Int) + j ≤ N → due ≠ 0 →
    ∃ h' : List Int, h'.length = h.length ∧ (∀ i, i ≠ b → h'.getD i (-1) = h.getD i (-1)) ∧ h'.getD b (-1) = ((w + j : Nat) : Int) ∧ playL N C (List.replicate j (upM b b) ++ rest) k h due ups = playL N C rest (k + j) h' due (ups + j)
  | 0, w, k, due, ups, h, hl, hv, hN, hd => ⟨h, rfl, fun _ _ => rfl, hv, by
    show playL N C rest k h due ups = _
    congr 1 <;> simp⟩
  | j + 1, w, k, due, ups, h, hl, hv, hN, hd => by
    have hbl : b < h.length := by omega
    obtain ⟨h', h1, h2, h3, h4⟩ := play_rep (N := N) (C := C) (rest := rest) hb hb2 j (w + 1) (k + 1) due (ups + 1) (h.set b ((w : Int) + 1)) (by rw [List.length_set]; exact hl) (by rw [getS hbl, if_pos rfl]; rfl) (by omega) hd
    refine ⟨h', by rw [h1, List.length_set], fun i hi => by rw [h2 i hi, getS hbl, if_neg (fun z => hi z.symm)], by rw [h3]; congr 1; omega, ?_⟩
    rw [List.replicate_succ, List.cons_append, play_up hb2 hb hb2 hv (by omega) hd, h4]
    congr 1 <;> omega
theorem play_Ml {N : Int} {C : Nat} : ∀ (m n r a b v : Nat) (rest : List D) (k ups : Int) (h : List Int), n ≤ m → a < b → (1 ≤ n → b + r = C) → h.length = C + 1 → h.getD a (-1) = v → ((v + n : Nat) : Int) ≤ N →
    ∃ h' : List Int, h'.length = h.length ∧ (∀ i, i < b → h'.getD i (-1) = h.getD i (-1)) ∧ playL N C (Ml r n a b ++ rest) k h ((v + n : Nat) : Int) ups = playL N C rest (k + (Ml r n a b).length) h' v (ups + (Lst (r + 1) n : Nat))
  | m, 0, r, a, b, v, rest, k, ups, h, _, _, _, _, _, _ => ⟨h, rfl, fun _ _ => rfl, by
    rw [Ml_0, Lst_0]
    show playL N C rest k h v ups = playL N C rest (k + 0) h v (ups + 0)
    congr 1 <;> simp⟩
  | 0, n + 1, r, a, b, v, rest, k, ups, h, z, _, _, _, _, _ => by omega
  | m + 1, n + 1, r, a, b, v, rest, k, ups, h, hm, hab, hr, hl, hv, hN => by
    have hb := bst_best (c := r) (n := n + 1) (by omega)
    have hr := hr (by omega)
    rw [Ml_s (by omega)]
    have b1 := hb.1
    have b2 := hb.2.1
    have b3 := hb.2.2.1
    generalize bst r (n + 1) = s at *
    have hz : (r = 0 → n + 1 - s = 0) ∧ Lst (r + 1) (n + 1) = s + Lst (r - 1 + 1) (n + 1 - s) + Lst (r + 1) (s - 1) := by
      unfold tot at b3
      split at b3
      · cases b3
      · have b4 := Option.some.inj b3
        refine ⟨by omega, ?_⟩
        rcases Nat.eq_zero_or_pos r with q | q
        · have e : n + 1 - s = 0 := by omega
          rw [e, Lst_0] at b4
          rw [e, Lst_0]
          exact b4.symm
        · rw [show r - 1 + 1 = r by omega]
          exact b4.symm
    obtain ⟨hz1, hz2⟩ := hz
    have hal : b < h.length := by omega
    have hd : ((v + (n + 1) : Nat) : Int) ≠ 0 := by omega
    rw [List.cons_append, play_up (C := C) (by omega) (by omega) (by omega) hv (by omega) hd, List.append_assoc]
    obtain ⟨h1, l1, g1, w1, e1⟩ := play_rep (N := N) (C := C) (b := b) (rest := Ml (r - 1) (n + 1 - s) b (b + 1) ++ rdM b :: Ml r (s - 1) a b ++ rest) (by omega) (by omega) (s - 1) (v + 1) (k + 1) _ (ups + 1) (h.set b ((v : Int) + 1)) (by rw [List.length_set]; exact hl) (by rw [getS hal, if_pos rfl]; rfl) (by omega) hd
    rw [e1, List.append_assoc]
    rw [List.length_set] at l1
    have ga : h1.getD a (-1) = v := by rw [g1 a (by omega), getS hal, if_neg (by omega)]; exact hv
    obtain ⟨h2, l2, g2, e2⟩ := play_Ml (N := N) (C := C) m (n + 1 - s) (r - 1) b (b + 1) (v + s) (rdM b :: Ml r (s - 1) a b ++ rest) (k + 1 + (s - 1 : Nat)) (ups + 1 + (s - 1 : Nat)) h1 (by omega) (by omega) (by intro z; rcases Nat.eq_zero_or_pos r with q | q; have := hz1 q; omega; omega) (by omega) (by rw [w1]; congr 1; omega) (by omega)
    rw [show v + s + (n + 1 - s) = v + (n + 1) by omega] at e2
    rw [e2, List.cons_append]
    have gb : h2.getD b (-1) = ((v + s : Nat) : Int) := by rw [g2 b (by omega), w1]; congr 1; omega
    rw [play_rd (by omega) (by omega) gb (by omega)]
    obtain ⟨h3, l3, g3, e3⟩ := play_Ml (N := N) (C := C) m (s - 1) r a b v rest (k + 1 + (s - 1 : Nat) + (Ml (r - 1) (n + 1 - s) b (b + 1)).length + 1) (ups + 1 + (s - 1 : Nat) + (Lst (r - 1 + 1) (n + 1 - s) : Nat)) h2 (by omega) hab (fun _ => hr) (by omega) (by rw [g2 a (by omega)]; exact ga) (by omega)
    have e4 : ((v + s : Nat) : Int) - 1 = ((v + (s - 1) : Nat) : Int) := by omega
    rw [e4, e3]
    refine ⟨h3, by omega, fun i hi => ?_, ?_⟩
    · rw [g3 i hi, g2 i (by omega), g1 i (by omega), getS hal, if_neg (by omega)]
    · rw [hz2]
      simp only [List.length_cons, List.length_append, List.length_replicate]
      congr 1
      · omega
      · omega
/-- the whole list is right, with the least ups -/
theorem play_all {n c : Nat} : playL n ((c + 1 : Nat) : Int) (Ml c n 0 1) 0 (h0 ((c + 1 : Nat) : Int)) n 0 = (true, ((Lst (c + 1) n : Nat) : Int)) := by
  obtain ⟨h', _, _, e⟩ := play_Ml (N := n) (C := c + 1) n n c 0 1 0 [] 0 0 (h0 ((c + 1 : Nat) : Int)) (Nat.le_refl n) (by omega) (by omega) (by have := h0_len (c := ((c + 1 : Nat) : Int)) (by omega); omega) rfl (by omega)
  rw [List.append_nil, Nat.zero_add] at e
  rw [e, playL_nil, if_neg (by omega)]
  congr 1
  omega
end L
end

section
set_option Elab.async false
set_option linter.all false
set_option maxRecDepth 100000
set_option maxHeartbeats 4000000
set_option exponentiation.threshold 4000
namespace L
open PySem PySem.Spec PyProof.Rows L2 VS

theorem upto_mem : ∀ (n : Nat) (lo : Int) (d : D), d ∈ upto lo n → ∃ i : Int, d = .int i ∧ lo ≤ i ∧ i < lo + n
  | 0, lo, d, h => by rw [upto_nil] at h; cases h
  | n + 1, lo, d, h => by
    rw [upto_cons] at h
    rcases List.mem_cons.mp h with rfl | h
    · exact ⟨lo, rfl, by omega, by omega⟩
    · obtain ⟨i, e, h1, h2⟩ := upto_mem n (lo + 1) d h
      exact ⟨i, e, by omega, by omega⟩
theorem upto_at : ∀ (n : Nat) (lo : Int) (i : Nat), i < n → (upto lo n)[i]? = some (.int (lo + i))
  | 0, lo, i, h => by omega
  | n + 1, lo, 0, h => by
    rw [upto_cons]
    show some (D.int lo) = _
    congr 2
    omega
  | n + 1, lo, i + 1, h => by
    rw [upto_cons, List.getElem?_cons_succ, upto_at n (lo + 1) i (by omega)]
    congr 2
    omega
/-- the rows of least counts by cells -/
def rowG (L : Nat) : D → D
  | .int i => if i = 0 then .lst [.int 0] else .lst (Rw i.toNat (L + 1))
  | d => d
theorem rowG_0 {L : Nat} : rowG L (.int 0) = .lst [.int 0] := rfl
theorem rowG_s {L c : Nat} : rowG L (.int ((c + 1 : Nat) : Int)) = .lst (Rw (c + 1) (L + 1)) := by
  show (if ((c + 1 : Nat) : Int) = 0 then D.lst [.int 0] else .lst (Rw ((c + 1 : Nat) : Int).toNat (L + 1))) = _
  rw [if_neg (by omega), Int.toNat_natCast]
def Rs (L c : Nat) : List D := (upto 0 (c + 1)).map (rowG L)
theorem Rs_at {L c i : Nat} (h : i ≤ c) : (Rs L c)[i]? = some (rowG L (.int i)) := by
  unfold Rs
  rw [List.getElem?_map, upto_at _ _ _ (by omega), Int.zero_add]
  rfl
theorem popO_app {xs : List D} {d : D} : popO (.lst (xs ++ [d])) [] = some (.lst xs, d) := by
  show ((xs ++ [d])[(xs ++ [d]).length - 1]?).map (fun d' => (O.lst (xs ++ [d]).dropLast, d')) = _
  rw [List.dropLast_concat, List.length_append]
  simp
/-- what is still to do: size, source, first, read ahead -/
abbrev En := Nat × Nat × Nat × Bool
def eD (e : En) : D := .tup [.int e.1, .int e.2.1, .int e.2.2.1, .bl e.2.2.2]
noncomputable def outE (C : Nat) (e : En) : List D := (if e.2.2.2 = true then [rdM e.2.2.1] else []) ++ Ml (C - e.2.2.1) e.1 e.2.1 e.2.2.1
noncomputable def outs' (C : Nat) : List En → List D
  | [] => []
  | e :: es => outE C e ++ outs' C es
def cost : List En → Nat
  | [] => 0
  | e :: es => 2 * e.1 + 1 + cost es
def okE (C L : Nat) (e : En) : Prop := e.2.1 < e.2.2.1 ∧ e.1 ≤ L ∧ (1 ≤ e.1 → e.2.2.1 ≤ C)
section
variable {Q : Rv → List Sl → Prop} {E : Nat → List (Str × D) → List Sl → Prop}
theorem lstopG_ok {c n m : Nat} {xs : List D} (hx : (c = 0 ∧ xs = [.int 0]) ∨ ∃ b, c = b + 1 ∧ xs = Rw c (m + 1)) (hn0 : 1 ≤ n) (hm : n ≤ m) (hn : m ≤ 900) (q : ∀ s : Nat, Best c n s → Q (.dat (.int s)) [.un, .un, .un]) :
    (F_least_stop [.dat (.lst xs), .dat (.lst (Rw (c + 1) (m + 1))), .dat (.int n)]).W Q E := by
  rw [F_least_stop_eq]
  refine w_def (δ := [.dat (.lst xs), .dat (.lst (Rw (c + 1) (m + 1))), .dat (.int n), .un, .un]) rfl rfl ?_
  unfold d_least_stop
  (repeat' (first | walk_at "vn" | fail))
  have no : ∀ r, c = 0 → r < n → tot (c + 1) n r ≠ some (Lst (c + 1) n) := by
    intro r h1 h2
    unfold tot
    rw [if_pos ⟨by omega, h2⟩]
    exact fun z => by cases z
  refine w_range (fun k δ => ∃ (j : Nat) (s1 s2 : Sl), δ = [.dat (.lst xs), .dat (.lst (Rw (c + 1) (m + 1))), .dat (.int n), s1, s2] ∧ NO s1 ∧ NO s2 ∧ k = j ∧ 1 ≤ j ∧ ∀ r, 1 ≤ r → r < j → tot (c + 1) n r ≠ some (Lst (c + 1) n)) n ?_ ?_ _ _ _ (by omega) ⟨1, _, _, rfl, no_un, no_un, rfl, by omega, fun r h1 h2 => by omega⟩
  · rintro k _ hk ⟨j, s1, s2, rfl, hs1, hs2, rfl, h1, h2⟩
    have hjn : j < n := by omega
    refine ⟨_, tset rfl hs1, ?_⟩
    refine w_cut (fun δ => δ = [.dat (.lst xs), .dat (.lst (Rw (c + 1) (m + 1))), .dat (.int n), .dat (.int j), .dat (.int ((n : Int) - j))]) ?_ ?_
    · refine w_asg ?_
      (repeat' (first | walk_at "vn" | fail))
      exact ⟨_, tset rfl hs2, rfl, rfl⟩
    rintro _ rfl
    rcases hx with ⟨hc, rfl⟩ | ⟨b, hc, rfl⟩
    · (repeat' (first | walk_at "vn" | fail))
      refine br (fun h => ?_) (fun h => ?_)
      · exfalso
        have h : (n : Int) - j < ((1 : Nat) : Int) := h
        omega
      (repeat' (first | walk_at "vn" | fail))
      exact ⟨j + 1, _, _, rfl, no_dat, no_dat, rfl, by omega, fun r _ h => no r hc (by omega)⟩
    · have ht : tot (c + 1) n j = some (j + Lst c (n - j) + Lst (c + 1) (j - 1)) := by
        unfold tot
        rw [if_neg (by omega)]
        rfl
      have x1 : (Rw c (m + 1))[((n : Int) - j).toNat]? = some (.int (Lst c (n - j) : Nat)) := by
        rw [show ((n : Int) - j).toNat = n - j by omega]
        exact Rw_at (by omega)
      have x2 : (Rw (c + 1) (m + 1))[((j : Int) - 1).toNat]? = some (.int (Lst (c + 1) (j - 1) : Nat)) := by
        rw [show ((j : Int) - 1).toNat = j - 1 by omega]
        exact Rw_at (by omega)
      have x3 : (Rw (c + 1) (m + 1))[(n : Int).toNat]? = some (.int (Lst (c + 1) n : Nat)) := by
        rw [Int.toNat_natCast]
        exact Rw_at (by omega)
      (repeat' (first | walk_at "vn" | fail))
      rw [Rw_len]
      refine br (fun h => ?_) (fun h => by omega)
      (repeat' (first | (refine op_ixN (by omega) x1 ?_) | (refine op_ixN (by omega) x2 ?_) | (refine op_ixN (by omega) x3 ?_) | walk_at "vn" | fail))
      refine br (fun h => ?_) (fun h => ?_)
      · (repeat' (first | walk_at "vn" | fail))
        refine q j ⟨h1, by omega, ?_, h2⟩
        rw [ht]
        congr 1
        omega
      · (repeat' (first | walk_at "vn" | fail))
        refine ⟨j + 1, _, _, rfl, no_dat, no_dat, rfl, by omega, fun r r1 r2 => ?_⟩
        by_cases e : r = j
        · subst e
          rw [ht]
          intro z
          have := Option.some.inj z
          omega
        · exact h2 r r1 (by omega)
  · rintro _ ⟨j, s1, s2, rfl, hs1, hs2, hj, h1, h2⟩
    (repeat' (first | walk_at "vn" | fail))
    refine q n ⟨hn0, Nat.le_refl n, ?_, fun r r1 r2 => h2 r r1 (by omega)⟩
    obtain ⟨s, a, b, e⟩ := tot_ex (c := c) hn0
    by_cases z : s = n
    · subst z
      exact e
    · exact absurd e (h2 s a (by omega))
theorem lstopR_ok {L C r n : Nat} (hr : r < C) (hn0 : 1 ≤ n) (hm : n ≤ L) (hL : L ≤ 900) {x y : D} (hx : x = rowG L (.int r)) (hy : y = rowG L (.int ((r + 1 : Nat) : Int))) (q : Q (.dat (.int (bst r n))) [.un, .un, .un]) : (F_least_stop [.dat x, .dat y, .dat (.int n)]).W Q E := by
  subst hx hy
  rw [rowG_s]
  cases r with
  | zero => exact lstopG_ok (c := 0) (.inl ⟨rfl, rfl⟩) hn0 hm hL fun s hs => by rw [← bst_of hs]; exact q
  | succ r =>
    rw [rowG_s]
    exact lstopG_ok (c := r + 1) (.inr ⟨r, rfl, rfl⟩) hn0 hm hL fun s hs => by rw [← bst_of hs]; exact q
theorem move_ok {L c : Nat} (hL : L ≤ 120) (hc : c ≤ 999) (q : Q (.new (.lst (Ml c L 0 1))) [.un, .un]) : (F_move_list [.dat (.int L), .dat (.int (c + 1 : Nat))]).W Q E := by
  have hb : 1000000 < big := by decide
  rw [F_move_list_eq]
  refine w_def (δ := [.dat (.int L), .dat (.int (c + 1 : Nat)), .un, .un, .un, .un, .un, .un, .un, .un, .un, .un, .un]) rfl rfl ?_
  unfold d_move_list
  refine w_cut (fun δ => δ = [.dat (.int L), .dat (.int (c + 1 : Nat)), .un, .un, .un, .un, .un, .un, .un, .un, .un, .un, .un]) ?_ ?_
  · (repeat' (first | ((with_reducible show Cr.W _ _ _); refine Cr.W.of (need_yes (by omega)) ?_) | walk_at "vn" | fail))
    exact ⟨rfl, rfl⟩
  rintro _ rfl
  refine w_cut (fun δ => δ = [.dat (.int L), .dat (.int (c + 1 : Nat)), .dat (.lst (Rs L (c + 1))), .un, .un, .un, .un, .un, .un, .un, .un, .un, .un]) ?_ ?_
  · (repeat' (first | walk_at "vn" | fail))
    rw [show (((c + 1 : Nat) : Int) + 1).toNat = c + 1 + 1 by omega]
    refine w_lcMap (rowG L) _ _ (fun d hd => ?_) ?_
    · obtain ⟨i, rfl, h1, h2⟩ := upto_mem _ _ _ hd
      refine ⟨_, rfl, ?_⟩
      obtain ⟨j, rfl⟩ : ∃ j : Nat, i = j := ⟨i.toNat, by omega⟩
      cases j with
      | zero =>
        (repeat' (first | ((with_reducible show Cr.W _ _ _); refine row0_ok ?_) | walk_at "vn" | fail))
        exact ⟨rfl, rfl⟩
      | succ j =>
        (repeat' (first | ((with_reducible show Cr.W _ _ _); refine row_ok (by omega) (by omega) ?_) | walk_at "vn" | fail))
        exact ⟨rowG_s.symm, rfl⟩
    · refine ⟨decide_eq_true (by rw [List.length_map, upto_len]; omega), ?_⟩
      (repeat' (first | walk_at "vn" | fail))
      exact ⟨rfl, rfl⟩
  rintro _ rfl
  have rsat : ∀ {i : Nat}, i ≤ c + 1 → (Rs L (c + 1))[i]? = some (rowG L (.int i)) := fun h => Rs_at h
  have mlen := Ml_len L c L 0 1 (Nat.le_refl L)
  have mb : L * (L + 3) ≤ 120 * 123 := Nat.mul_le_mul hL (by omega)
  generalize Rs L (c + 1) = RS at *
  generalize hT : Ml c L 0 1 = T at *
  (repeat' (first | walk_at "vn" | fail))
  refine w_while (fun m δ => ∃ (rs : List En) (ms : List D) (s6 s7 s8 s9 s10 s11 s12 : Sl), δ = [.dat (.int L), .dat (.int (c + 1 : Nat)), .dat (.lst RS), .own false (.lst ms), .own false (.lst (rs.reverse.map eD)), .un, s6, s7, s8, s9, s10, s11, s12] ∧ Pl s6 ∧ Pl s7 ∧ Pl s8 ∧ Pl s9 ∧ Pl s10 ∧ Pl s11 ∧ Pl s12 ∧ (∀ e ∈ rs, okE (c + 1) L e) ∧ ms ++ outs' (c + 1) rs = T ∧ m = cost rs ∧ m ≤ 2 * L + 1) ?_ 1000 (2 * L + 1) _ (by omega) ⟨[(L, 0, 1, false)], [], _, _, _, _, _, _, _, rfl, pl_un, pl_un, pl_un, pl_un, pl_un, pl_un, pl_un, ?_, ?_, rfl, Nat.le_refl _⟩
  · rintro m _ ⟨rs, ms, s6, s7, s8, s9, s10, s11, s12, rfl, h6, h7, h8, h9, h10, h11, h12, hok, hms, hm, hmL⟩
    cases rs with
    | nil =>
      have hms : ms = T := by rw [← hms]; exact (List.append_nil ms).symm
      subst hms
      (repeat' (first | walk_at "vn" | (with_reducible refine br_yes (by first | decide | omega | (simp <;> fail) | fail) ?_) | (with_reducible refine br_not (by first | decide | omega | (simp <;> fail) | fail) ?_) | fail))
      exact q
    | cons e rs =>
      obtain ⟨n, a, b, d⟩ := e
      have ok0 := hok _ List.mem_cons_self
      obtain ⟨ok1, ok2, ok3⟩ : a < b ∧ n ≤ L ∧ (1 ≤ n → b ≤ c + 1) := ok0
      have hok' : ∀ e ∈ rs, okE (c + 1) L e := fun e he => hok e (List.mem_cons_of_mem _ he)
      have hm : m = 2 * n + 1 + cost rs := hm
      have hms : ms ++ (((if d = true then [rdM b] else []) ++ Ml (c + 1 - b) n a b) ++ outs' (c + 1) rs) = T := hms
      have hml : ms.length ≤ 7380 := by
        have := congrArg List.length hms
        rw [List.length_append] at this
        omega
      rw [show ((n, a, b, d) :: rs).reverse.map eD = rs.reverse.map eD ++ [eD (n, a, b, d)] from by simp]
      have hst : (rs.reverse.map eD).length ≤ m := by
        have : ∀ l : List En, l.length ≤ cost l := by
          intro l
          induction l with
          | nil => exact Nat.le_refl 0
          | cons x l ih => show l.length + 1 ≤ 2 * x.1 + 1 + cost l; omega
        have := this rs
        rw [List.length_map, List.length_reverse]
        omega
      (repeat' (first | walk_at "vn" | fail))
      refine br_yes (by simp) ?_
      refine ⟨m - 1, by omega, ?_⟩
      generalize hS : rs.reverse.map eD = st at *
      refine w_cut (fun δ => δ = [.dat (.int L), .dat (.int (c + 1 : Nat)), .dat (.lst RS), .own false (.lst ms), .own false (.lst st), .un, .dat (.int n), .dat (.int a), .dat (.int b), .dat (.bl d), s10, s11, s12]) ?_ ?_
      · refine w_asg ?_
        (repeat' (first | walk_at "vn" | fail))
        refine ⟨_, _, _, _, rfl, popO_app, ?_⟩
        exact ⟨_, ttup4 (tset rfl h6.no) (tset rfl h7.no) (tset rfl h8.no) (tset rfl h9.no), rfl, rfl⟩
      rintro _ rfl
      refine w_cut (fun δ => δ = [.dat (.int L), .dat (.int (c + 1 : Nat)), .dat (.lst RS), .own false (.lst (ms ++ (if d = true then [rdM b] else []))), .own false (.lst st), .un, .dat (.int n), .dat (.int a), .dat (.int b), .dat (.bl d), s10, s11, s12]) ?_ ?_
      · (repeat' (first | walk_at "vn" | fail))
        cases d with
        | true =>
          (repeat' (first | (refine app_mk rfl (by omega) ?_) | walk_at "vn" | (with_reducible refine br_yes (by first | decide | omega | (simp <;> fail) | fail) ?_) | (with_reducible refine br_not (by first | decide | omega | (simp <;> fail) | fail) ?_) | fail))
          exact ⟨rfl, rfl⟩
        | false =>
          (repeat' (first | walk_at "vn" | (with_reducible refine br_yes (by first | decide | omega | (simp <;> fail) | fail) ?_) | (with_reducible refine br_not (by first | decide | omega | (simp <;> fail) | fail) ?_) | fail))
          rw [if_neg (by decide), List.append_nil]
          exact ⟨rfl, rfl⟩
      rintro _ rfl
      rw [← List.append_assoc, ← List.append_assoc] at hms
      have hml2 : (ms ++ (if d = true then [rdM b] else [])).length ≤ 7381 := by
        rw [List.length_append]
        split <;> simp <;> omega
      generalize ms ++ (if d = true then [rdM b] else []) = ms2 at *
      (repeat' (first | walk_at "vn" | fail))
      refine br (fun hn => ?_) (fun hn => ?_)
      · have hn1 : 1 ≤ n := by omega
        have hbc := ok3 hn1
        have hbst := bst_best (c := c + 1 - b) hn1
        have b1 := hbst.1
        have b2 := hbst.2.1
        rw [Ml_s hn1] at hms
        have lst := fun (Q : Rv → List Sl → Prop) (E : Nat → List (Str × D) → List Sl → Prop) (q : Q (.dat (.int (bst (c + 1 - b) n))) [.un, .un, .un]) => lstopR_ok (Q := Q) (E := E) (L := L) (C := c + 1) (r := c + 1 - b) (n := n) (by omega) hn1 ok2 (by omega) rfl rfl q
        have x1 : RS[((c + 1 : Nat) : Int) - b + 1 - 1 |>.toNat]? = some (rowG L (.int ((c + 1 - b : Nat) : Int))) := by
          rw [show (((c + 1 : Nat) : Int) - b + 1 - 1).toNat = c + 1 - b by omega]
          exact rsat (by omega)
        have x2 : RS[((c + 1 : Nat) : Int) - b + 1 |>.toNat]? = some (rowG L (.int ((c + 1 - b + 1 : Nat) : Int))) := by
          rw [show (((c + 1 : Nat) : Int) - b + 1).toNat = c + 1 - b + 1 by omega]
          exact rsat (by omega)
        generalize bst (c + 1 - b) n = s at *
        refine w_cut (fun δ => δ = [.dat (.int L), .dat (.int (c + 1 : Nat)), .dat (.lst RS), .own false (.lst ms2), .own false (.lst st), .un, .dat (.int n), .dat (.int a), .dat (.int b), .dat (.bl d), .dat (.int (((c + 1 : Nat) : Int) - b + 1)), s11, s12]) ?_ ?_
        · refine w_asg ?_
          (repeat' (first | walk_at "vn" | fail))
          exact ⟨_, tset rfl h10.no, rfl, rfl⟩
        rintro _ rfl
        refine w_cut (fun δ => δ = [.dat (.int L), .dat (.int (c + 1 : Nat)), .dat (.lst RS), .own false (.lst ms2), .own false (.lst st), .un, .dat (.int n), .dat (.int a), .dat (.int b), .dat (.bl d), .dat (.int (((c + 1 : Nat) : Int) - b + 1)), .dat (.int s), s12]) ?_ ?_
        · refine w_asg ?_
          (repeat' (first | (refine op_ixN (by omega) x1 ?_) | (refine op_ixN (by omega) x2 ?_) | ((with_reducible show Cr.W _ _ _); refine lst _ _ ?_) | walk_at "vn" | fail))
          exact ⟨_, tset rfl h11.no, rfl, rfl⟩
        rintro _ rfl
        (repeat' (first | (refine app_mk rfl (by omega) ?_) | walk_at "vn" | fail))
        rw [show (s : Int) - 1 = ((s - 1 : Nat) : Int) by omega, Int.toNat_natCast]
        refine w_range (fun k δ => ∃ (j : Nat) (s12 : Sl), δ = [.dat (.int L), .dat (.int (c + 1 : Nat)), .dat (.lst RS), .own false (.lst (ms2 ++ [upM a b] ++ List.replicate j (upM b b))), .own false (.lst st), .un, .dat (.int n), .dat (.int a), .dat (.int b), .dat (.bl d), .dat (.int (((c + 1 : Nat) : Int) - b + 1)), .dat (.int s), s12] ∧ Pl s12 ∧ k = j) ((s - 1 : Nat) : Int) ?_ ?_ _ _ _ (by omega) ⟨0, s12, by rw [List.replicate_zero, List.append_nil]; rfl, h12, rfl⟩
        · rintro k _ hk ⟨j, s12, rfl, h12, rfl⟩
          refine ⟨_, tset rfl h12.no, ?_⟩
          (repeat' (first | (refine app_mk rfl (by simp; omega) ?_) | walk_at "vn" | fail))
          refine ⟨j + 1, .dat (.int j), ?_, pl_dat, by omega⟩
          rw [List.replicate_succ', ← List.append_assoc]
          rfl
        · rintro _ ⟨j, s12, rfl, h12, hj⟩
          have hj : j = s - 1 := by omega
          subst hj
          (repeat' (first | (refine app_mk rfl (by first | omega | (simp; omega)) ?_) | walk_at "vn" | fail))
          refine ⟨(n - s, b, b + 1, false) :: (s - 1, a, b, true) :: rs, ms2 ++ [upM a b] ++ List.replicate (s - 1) (upM b b), .dat (.int n), .dat (.int a), .dat (.int b), .dat (.bl d), .dat (.int (((c + 1 : Nat) : Int) - b + 1)), .dat (.int s), s12, ?_, pl_dat, pl_dat, pl_dat, pl_dat, pl_dat, pl_dat, h12, ?_, ?_, ?_, by omega⟩
          · rw [List.reverse_cons, List.reverse_cons, List.map_append, List.map_append, hS]
            have e1 : (s : Int) - 1 = ((s - 1 : Nat) : Int) := by omega
            have e2 : (n : Int) - s = ((n - s : Nat) : Int) := by omega
            rw [e1, e2]
            rfl
          · intro e he
            rcases List.mem_cons.mp he with rfl | he
            · exact ⟨Nat.lt_succ_self b, by show n - s ≤ L; omega, fun z => by
                show b + 1 ≤ c + 1
                have z : 1 ≤ n - s := z
                have h3 := hbst.2.2.1
                unfold tot at h3
                split at h3
                · cases h3
                · omega⟩
            rcases List.mem_cons.mp he with rfl | he
            · exact ⟨ok1, by show s - 1 ≤ L; omega, fun _ => hbc⟩
            · exact hok' e he
          · rw [← hms]
            show _ ++ (([] ++ Ml (c + 1 - (b + 1)) (n - s) b (b + 1)) ++ (([rdM b] ++ Ml (c + 1 - b) (s - 1) a b) ++ outs' (c + 1) rs)) = _
            rw [show c + 1 - (b + 1) = c + 1 - b - 1 by omega]
            simp only [List.append_assoc, List.nil_append, List.cons_append, List.singleton_append]
          · show m - 1 = 2 * (n - s) + 1 + (2 * (s - 1) + 1 + cost rs)
            omega
      · have hn0 : n = 0 := by omega
        subst hn0
        rw [Ml_0, List.append_nil] at hms
        (repeat' (first | walk_at "vn" | fail))
        exact ⟨rs, ms2, .dat (.int (0 : Nat)), .dat (.int a), .dat (.int b), .dat (.bl d), s10, s11, s12, by rw [hS], pl_dat, pl_dat, pl_dat, pl_dat, h10, h11, h12, hok', hms, by omega, by omega⟩
  · intro e he
    rw [List.mem_singleton.mp he]
    exact ⟨Nat.one_pos, Nat.le_refl L, fun _ => Nat.succ_le_succ (Nat.zero_le c)⟩
  · show [] ++ (([] ++ Ml (c + 1 - 1) L 0 1) ++ []) = T
    simp [hT]
end
end L
end

section
set_option Elab.async false
set_option linter.all false
set_option maxRecDepth 100000
set_option maxHeartbeats 4000000
set_option exponentiation.threshold 4000
namespace L
open PySem PySem.Spec PyProof.Rows L2 VS

theorem B_one : ∀ c : Nat, B c 1 = c + 1
  | 0 => rfl
  | c + 1 => by
    rw [B_ss, B_one c, B_c0]
theorem Lst_small {c m : Nat} (h : m ≤ c + 1) : Lst (c + 1) m = m := by
  cases m with
  | zero => exact Lst_0 _
  | succ m =>
    have hR : Rd (c + 1) (m + 1) 1 := ⟨fun q hq => by rw [show q = 0 by omega, B_c0]; omega, by rw [B_one]; omega⟩
    rw [Lst_Rd hR]
    show 0 + (m + 1 + 1 - B (c + 1) 0) = m + 1
    rw [B_c0]
    omega
theorem bst_one {r m : Nat} (h1 : 1 ≤ m) (h : m ≤ r + 1) : bst r m = 1 := by
  refine bst_of ⟨Nat.le_refl 1, h1, ?_, fun q a b => by omega⟩
  unfold tot
  rw [if_neg (by omega), Lst_small h, Lst_0]
  cases r with
  | zero =>
    have e : m = 1 := by omega
    subst e
    rfl
  | succ r =>
    rw [show r + 1 + 1 - 1 = r + 1 by omega, Lst_small (by omega)]
    congr 1
    omega
theorem bst_0 {m : Nat} (h1 : 1 ≤ m) : bst 0 m = m := by
  have h := bst_best (c := 0) h1
  have h2 := h.2.1
  have h3 := h.2.2.1
  unfold tot at h3
  split at h3
  · cases h3
  · omega
theorem bst_room {L c b k m : Nat} (hm1 : 1 ≤ m) (hm : m ≤ L) (hb : 1 ≤ b) (hb2 : b ≤ c + 1) (hk : (k : Int) = min (((c + 1 : Nat) : Int) - b + 1) (min (L : Int) ((c + 1 : Nat) : Int))) : bst (k - 1) m = bst (c + 1 - b) m := by
  by_cases z : k = c + 1 - b + 1
  · rw [z]
    rfl
  · rw [bst_one hm1 (by omega), bst_one hm1 (by omega)]
def tabG (L : Nat) : D → D
  | .int i => .lst (Rw i.toNat (L + 1))
  | d => d
def lstG (c : Nat) : D → D
  | .int i => .int (Lst c i.toNat : Nat)
  | d => d
theorem lst_map {c m : Nat} : (upto 0 m).map (lstG c) = Rw c m := by
  unfold upto Rw
  rw [List.map_map]
  refine List.map_congr_left fun a _ => ?_
  show D.int ((Lst c ((0 : Int) + (a : Int)).toNat : Nat) : Int) = _
  rw [Int.zero_add, Int.toNat_natCast]
def Tb0 (L dp : Nat) : List D := .lst [] :: (upto 1 dp).map (tabG L)
theorem Tb0_at {L dp i : Nat} (h1 : 1 ≤ i) (h : i ≤ dp) : (Tb0 L dp)[i]? = some (.lst (Rw i (L + 1))) := by
  obtain ⟨j, rfl⟩ : ∃ j, i = j + 1 := ⟨i - 1, by omega⟩
  unfold Tb0
  rw [List.getElem?_cons_succ, List.getElem?_map, upto_at _ _ _ (by omega)]
  show some (D.lst (Rw ((1 : Int) + (j : Int)).toNat (L + 1))) = _
  rw [show ((1 : Int) + (j : Int)).toNat = j + 1 by omega]
theorem addL_mk2 {xs ys : List D} {s : Option Sl} {Q : List D → List D → Prop} (h : viewL s = some xs) (hl : xs.length + ys.length ≤ 100000) (q : Q xs ys) : ∃ xs' ys', viewL s = some xs' ∧ D.lst ys = .lst ys' ∧ xs'.length + ys'.length ≤ 100000 ∧ Q xs' ys' := ⟨xs, ys, h, rfl, hl, q⟩
theorem nadd_mk2 {xs ys : List D} {Q : List D → Prop} (hl : xs.length + ys.length ≤ 100000) (q : Q ys) : ∃ ys', D.lst ys = .lst ys' ∧ xs.length + ys'.length ≤ 100000 ∧ Q ys' := ⟨ys, rfl, hl, q⟩
/-- open problems: size or a read -/
abbrev Ex := Option Nat × Nat × Nat
def xD : Ex → D
  | (some m, a, b) => .tup [.int m, .int a, .int b]
  | (none, a, b) => .tup [.non, .int a, .int b]
noncomputable def outX (C : Nat) : Ex → List D
  | (some m, a, b) => Ml (C - b) m a b
  | (none, a, _) => [rdM a]
noncomputable def outsX (C : Nat) : List Ex → List D
  | [] => []
  | e :: es => outX C e ++ outsX C es
def costX1 : Ex → Nat
  | (some m, _, _) => 3 * m + 1
  | (none, _, _) => 1
def costX : List Ex → Nat
  | [] => 0
  | e :: es => costX1 e + costX es
theorem costX_len : ∀ l : List Ex, l.length ≤ costX l
  | [] => Nat.le_refl 0
  | (some m, a, b) :: l => by
    have := costX_len l
    show l.length + 1 ≤ 3 * m + 1 + costX l
    omega
  | (none, a, b) :: l => by
    have := costX_len l
    show l.length + 1 ≤ 1 + costX l
    omega
def okX (C L : Nat) : Ex → Prop
  | (some m, a, b) => a < b ∧ m ≤ L ∧ (1 ≤ m → b ≤ C)
  | (none, _, _) => True
section
variable {Q : Rv → List Sl → Prop} {E : Nat → List (Str × D) → List Sl → Prop}
theorem table_ok {L dp : Nat} (hL : L ≤ 120) (hc : dp ≤ 120) (q : Q (.dat (.lst (Tb0 L dp))) [.un, .un]) : (F__law_leasttable [.dat (.int L), .dat (.int dp)]).W Q E := by
  rw [F__law_leasttable_eq]
  refine w_def (δ := [.dat (.int L), .dat (.int dp), .un, .un]) rfl rfl ?_
  unfold d__law_leasttable
  (repeat' (first | walk_at "vn" | fail))
  rw [show ((dp : Int) + 1 - 1).toNat = dp by omega]
  refine w_lcMap (tabG L) _ _ (fun d hd => ?_) ?_
  · obtain ⟨i, rfl, h1, h2⟩ := upto_mem _ _ _ hd
    refine ⟨_, rfl, ?_⟩
    obtain ⟨j, rfl⟩ : ∃ j : Nat, i = ((j + 1 : Nat) : Int) := ⟨i.toNat - 1, by omega⟩
    (repeat' (first | walk_at "vn" | fail))
    rw [show ((L : Int) + 1).toNat = L + 1 by omega]
    refine w_lcMap (lstG (j + 1)) _ _ (fun d hd => ?_) ?_
    · obtain ⟨i, rfl, h1, h2⟩ := upto_mem _ _ _ hd
      refine ⟨_, rfl, ?_⟩
      obtain ⟨i, rfl⟩ : ∃ k : Nat, i = (k : Int) := ⟨i.toNat, by omega⟩
      (repeat' (first | ((with_reducible show Cr.W _ _ _); refine leastups_ok (by omega) (by omega) ?_) | walk_at "vn" | fail))
      exact ⟨rfl, rfl⟩
    · rw [lst_map]
      refine ⟨decide_eq_true (by rw [Rw_len]; omega), ?_⟩
      refine ⟨?_, rfl⟩
      show _ = D.lst (Rw ((j + 1 : Nat) : Int).toNat (L + 1))
      rw [Int.toNat_natCast]
      try rfl
  · refine ⟨decide_eq_true (by rw [List.length_map, upto_len]; omega), ?_⟩
    (repeat' (first | walk_at "vn" | fail))
    refine op_catN (by simp [upto_len]; omega) ?_
    (repeat' (first | walk_at "vn" | fail))
    exact q
theorem stopof_ok {L dp k n : Nat} (hk : 1 ≤ k) (hk2 : k ≤ dp) (hn1 : 1 ≤ n) (hn : n ≤ L) (hL : L ≤ 120) (hdp : dp ≤ 120) (q : Q (.dat (.int (bst (k - 1) n))) [.un, .un, .un]) : (F__law_stopof [.dat (.lst (Tb0 L dp)), .dat (.int n), .dat (.int k)]).W Q E := by
  rw [F__law_stopof_eq]
  refine w_def (δ := [.dat (.lst (Tb0 L dp)), .dat (.int n), .dat (.int k), .un]) rfl rfl ?_
  unfold d__law_stopof
  (repeat' (first | walk_at "vn" | fail))
  refine br (fun h => ?_) (fun h => ?_)
  · have e : k = 1 := by omega
    subst e
    (repeat' (first | walk_at "vn" | fail))
    rw [bst_0 hn1] at q
    exact q
  · obtain ⟨r, rfl⟩ : ∃ r, k = r + 1 + 1 := ⟨k - 2, by omega⟩
    have y1 : (Tb0 L dp)[(((r + 1 + 1 : Nat) : Int) - 1).toNat]? = some (.lst (Rw (r + 1) (L + 1))) := by
      rw [show (((r + 1 + 1 : Nat) : Int) - 1).toNat = r + 1 by omega]
      exact Tb0_at (by omega) (by omega)
    have y2 : (Tb0 L dp)[((r + 1 + 1 : Nat) : Int).toNat]? = some (.lst (Rw (r + 1 + 1) (L + 1))) := by
      rw [Int.toNat_natCast]
      exact Tb0_at (by omega) (by omega)
    generalize Tb0 L dp = tb at *
    (repeat' (first | walk_at "vn" | fail))
    rw [show ((n : Int) + 1 - 1).toNat = n by omega]
    refine w_range (fun k δ => ∃ (j : Nat) (s1 : Sl), δ = [.dat (.lst tb), .dat (.int n), .dat (.int (r + 1 + 1 : Nat)), s1] ∧ NO s1 ∧ k = j ∧ 1 ≤ j ∧ ∀ i, 1 ≤ i → i < j → tot (r + 1 + 1) n i ≠ some (Lst (r + 1 + 1) n)) (n + 1) ?_ ?_ _ _ _ (by omega) ⟨1, _, rfl, no_un, rfl, by omega, fun i h1 h2 => by omega⟩
    · rintro k _ hk ⟨j, s1, rfl, hs1, rfl, h1, h2⟩
      have hjn : j ≤ n := by omega
      refine ⟨_, tset rfl hs1, ?_⟩
      have ht : tot (r + 1 + 1) n j = some (j + Lst (r + 1) (n - j) + Lst (r + 1 + 1) (j - 1)) := by
        unfold tot
        rw [if_neg (by omega)]
        rfl
      have x1 : (Rw (r + 1) (L + 1))[((n : Int) - j).toNat]? = some (.int (Lst (r + 1) (n - j) : Nat)) := by
        rw [show ((n : Int) - j).toNat = n - j by omega]
        exact Rw_at (by omega)
      have x2 : (Rw (r + 1 + 1) (L + 1))[((j : Int) - 1).toNat]? = some (.int (Lst (r + 1 + 1) (j - 1) : Nat)) := by
        rw [show ((j : Int) - 1).toNat = j - 1 by omega]
        exact Rw_at (by omega)
      have x3 : (Rw (r + 1 + 1) (L + 1))[(n : Int).toNat]? = some (.int (Lst (r + 1 + 1) n : Nat)) := by
        rw [Int.toNat_natCast]
        exact Rw_at (by omega)
      (repeat' (first | (refine op_ixN (by omega) y1 ?_) | (refine op_ixN (by omega) y2 ?_) | (refine op_ixN (by omega) x1 ?_) | (refine op_ixN (by omega) x2 ?_) | (refine op_ixN (by omega) x3 ?_) | walk_at "vn" | fail))
      refine br (fun h => ?_) (fun h => ?_)
      · (repeat' (first | walk_at "vn" | fail))
        have hB : Best (r + 1) n j := ⟨h1, hjn, by rw [ht]; congr 1; omega, h2⟩
        rw [show r + 1 + 1 - 1 = r + 1 by omega, bst_of hB] at q
        exact q
      · (repeat' (first | walk_at "vn" | fail))
        refine ⟨j + 1, _, rfl, no_dat, rfl, by omega, fun i r1 r2 => ?_⟩
        by_cases e : i = j
        · subst e
          rw [ht]
          intro z
          have := Option.some.inj z
          omega
        · exact h2 i r1 (by omega)
    · rintro _ ⟨j, s1, rfl, hs1, hj, h1, h2⟩
      exfalso
      obtain ⟨s, a, b, e⟩ := tot_ex (c := r + 1) hn1
      exact absurd e (h2 s a (by omega))
theorem listof_ok {L c : Nat} (hL : L ≤ 120) (hc : c < 120) (q : Q (.new (.lst (Ml c L 0 1))) [.un, .un]) : (F__law_listof [.dat (.int L), .dat (.int (c + 1 : Nat))]).W Q E := by
  have hb : 1000000 < big := by decide
  rw [F__law_listof_eq]
  refine w_def (δ := [.dat (.int L), .dat (.int (c + 1 : Nat)), .un, .un, .un, .un, .un, .un, .un, .un, .un]) rfl rfl ?_
  unfold d__law_listof
  obtain ⟨dp, hdp⟩ : ∃ dp : Nat, (dp : Int) = min (L : Int) ((c + 1 : Nat) : Int) := ⟨min L (c + 1), by omega⟩
  refine w_cut (fun δ => δ = [.dat (.int L), .dat (.int (c + 1 : Nat)), .dat (.int dp), .un, .un, .un, .un, .un, .un, .un, .un]) ?_ ?_
  · (repeat' (first | walk_at "vn" | fail))
    rename_i r hr
    rw [show r = (dp : Int) by omega]
    exact ⟨rfl, rfl⟩
  rintro _ rfl
  refine w_cut (fun δ => δ = [.dat (.int L), .dat (.int (c + 1 : Nat)), .dat (.int dp), .dat (.lst (Tb0 L dp)), .un, .un, .un, .un, .un, .un, .un]) ?_ ?_
  · (repeat' (first | ((with_reducible show Cr.W _ _ _); refine table_ok hL (by omega) ?_) | walk_at "vn" | fail))
    exact ⟨rfl, rfl⟩
  rintro _ rfl
  have stp := fun (Q : Rv → List Sl → Prop) (E : Nat → List (Str × D) → List Sl → Prop) (k n : Nat) (h1 : 1 ≤ k) (h2 : k ≤ dp) (h3 : 1 ≤ n) (h4 : n ≤ L) q => stopof_ok (Q := Q) (E := E) (k := k) (n := n) h1 h2 h3 h4 hL (by omega) q
  have mlen := Ml_len L c L 0 1 (Nat.le_refl L)
  have mb : L * (L + 3) ≤ 120 * 123 := Nat.mul_le_mul hL (by omega)
  generalize Tb0 L dp = tb at *
  generalize hT : Ml c L 0 1 = T at *
  (repeat' (first | walk_at "vn" | fail))
  rw [show ((4 : Int) * L + 4).toNat = 4 * L + 4 by omega]
  refine w_range (fun k δ => ∃ (rs : List Ex) (ms : List D) (s6 s7 s8 s9 s10 : Sl), δ = [.dat (.int L), .dat (.int (c + 1 : Nat)), .dat (.int dp), .dat (.lst tb), .own false (.lst (rs.reverse.map xD)), .own false (.lst ms), s6, s7, s8, s9, s10] ∧ Pl s6 ∧ Pl s7 ∧ Pl s8 ∧ Pl s9 ∧ Pl s10 ∧ (∀ e ∈ rs, okX (c + 1) L e) ∧ ms ++ outsX (c + 1) rs = T ∧ (costX rs : Int) + k ≤ 4 * L + 4 ∧ 0 ≤ k) (4 * L + 4) ?_ ?_ _ _ _ (by omega) ⟨[(some L, 0, 1)], [], _, _, _, _, _, rfl, pl_un, pl_un, pl_un, pl_un, pl_un, ?_, ?_, ?_, by omega⟩
  · rintro k _ hk ⟨rs, ms, s6, s7, s8, s9, s10, rfl, h6, h7, h8, h9, h10, hok, hms, hm, hk0⟩
    refine ⟨_, tset rfl h6.no, ?_⟩
    cases rs with
    | nil =>
      have hms : ms = T := by rw [← hms]; exact (List.append_nil ms).symm
      subst hms
      (repeat' (first | walk_at "vn" | (with_reducible refine br_yes (by first | decide | omega | (simp <;> fail) | fail) ?_) | (with_reducible refine br_not (by first | decide | omega | (simp <;> fail) | fail) ?_) | fail))
      exact q
    | cons e rs =>
      have hcl := costX_len rs
      have hok' : ∀ e ∈ rs, okX (c + 1) L e := fun e he => hok e (List.mem_cons_of_mem _ he)
      have hml : ms.length ≤ 7380 := by
        have := congrArg List.length hms
        rw [List.length_append] at this
        omega
      rw [show (e :: rs).reverse.map xD = rs.reverse.map xD ++ [xD e] from by simp]
      have hst : (rs.reverse.map xD).length ≤ 484 := by
        have hm : ((costX1 e + costX rs : Nat) : Int) + k ≤ 4 * L + 4 := hm
        rw [List.length_map, List.length_reverse]
        omega
      (repeat' (first | walk_at "vn" | fail))
      refine br_not (by simp; omega) ?_
      generalize hS : rs.reverse.map xD = st at *
      have ok0 := hok _ List.mem_cons_self
      match e, hms, hm, ok0 with
      | (none, a, b), hms, hm, _ =>
        have hms : ms ++ ([rdM a] ++ outsX (c + 1) rs) = T := hms
        have hm : ((1 + costX rs : Nat) : Int) + k ≤ 4 * L + 4 := hm
        refine w_cut (fun δ => δ = [.dat (.int L), .dat (.int (c + 1 : Nat)), .dat (.int dp), .dat (.lst tb), .own false (.lst st), .own false (.lst ms), .dat (.int k), .dat .non, .dat (.int a), .dat (.int b), s10]) ?_ ?_
        · refine w_asg ?_
          (repeat' (first | walk_at "vn" | fail))
          refine ⟨_, _, _, _, rfl, popO_app, ?_⟩
          exact ⟨_, ttup3 (tset rfl h7.no) (tset rfl h8.no) (tset rfl h9.no), rfl, rfl⟩
        rintro _ rfl
        (repeat' (first | (refine app_mk rfl (by omega) ?_) | walk_at "vn" | (with_reducible refine br_yes (by first | decide | omega | (simp <;> fail) | fail) ?_) | (with_reducible refine br_not (by first | decide | omega | (simp <;> fail) | fail) ?_) | fail))
        exact ⟨rs, ms ++ [rdM a], .dat (.int k), .dat .non, .dat (.int a), .dat (.int b), s10, by rw [hS]; rfl, pl_dat, pl_dat, pl_dat, pl_dat, h10, hok', by rw [List.append_assoc]; exact hms, by omega, by omega⟩
      | (some n, a, b), hms, hm, ok0 =>
        obtain ⟨ok1, ok2, ok3⟩ : a < b ∧ n ≤ L ∧ (1 ≤ n → b ≤ c + 1) := ok0
        have hms : ms ++ (Ml (c + 1 - b) n a b ++ outsX (c + 1) rs) = T := hms
        have hm : ((3 * n + 1 + costX rs : Nat) : Int) + k ≤ 4 * L + 4 := hm
        refine w_cut (fun δ => δ = [.dat (.int L), .dat (.int (c + 1 : Nat)), .dat (.int dp), .dat (.lst tb), .own false (.lst st), .own false (.lst ms), .dat (.int k), .dat (.int n), .dat (.int a), .dat (.int b), s10]) ?_ ?_
        · refine w_asg ?_
          (repeat' (first | walk_at "vn" | fail))
          refine ⟨_, _, _, _, rfl, popO_app, ?_⟩
          exact ⟨_, ttup3 (tset rfl h7.no) (tset rfl h8.no) (tset rfl h9.no), rfl, rfl⟩
        rintro _ rfl
        (repeat' (first | walk_at "vn" | fail))
        refine br (fun hn => ?_) (fun hn => ?_)
        · have hn1 : 1 ≤ n := by omega
          have hbc := ok3 hn1
          have hbst := bst_best (c := c + 1 - b) hn1
          have b1 := hbst.1
          have b2 := hbst.2.1
          rw [Ml_s hn1] at hms
          refine w_cut (fun δ => δ = [.dat (.int L), .dat (.int (c + 1 : Nat)), .dat (.int dp), .dat (.lst tb), .own false (.lst st), .own false (.lst ms), .dat (.int k), .dat (.int n), .dat (.int a), .dat (.int b), .dat (.int (bst (c + 1 - b) n))]) ?_ ?_
          · refine w_asg ?_
            (repeat' (first | walk_at "vn" | fail))
            rename_i r hr
            obtain ⟨k', rfl⟩ : ∃ k' : Nat, r = k' := ⟨r.toNat, by omega⟩
            have e := bst_room (k := k') hn1 ok2 (by omega) hbc (by rw [← hdp]; exact hr)
            (repeat' (first | ((with_reducible show Cr.W _ _ _); refine stp _ _ k' n (by omega) (by omega) hn1 ok2 ?_) | walk_at "vn" | fail))
            rw [e]
            exact ⟨_, tset rfl h10.no, rfl, rfl⟩
          rintro _ rfl
          generalize bst (c + 1 - b) n = s at *
          (repeat' (first | (refine addL_mk2 rfl (by simp; omega) ?_) | (refine nadd_mk2 (by simp; omega) ?_) | (refine mul_rep (by omega) (by omega) ?_) | (refine app_mk rfl (by first | omega | (simp; omega)) ?_) | walk_at "vn" | fail))
          refine ⟨(some (n - s), b, b + 1) :: (none, b, 0) :: (some (s - 1), a, b) :: rs, ms ++ [upM a b] ++ List.replicate (s - 1) (upM b b), .dat (.int k), .dat (.int n), .dat (.int a), .dat (.int b), .dat (.int s), ?_, pl_dat, pl_dat, pl_dat, pl_dat, pl_dat, ?_, ?_, ?_, by omega⟩
          · rw [List.reverse_cons, List.reverse_cons, List.reverse_cons, List.map_append, List.map_append, List.map_append, hS]
            have e1 : (s : Int) - 1 = ((s - 1 : Nat) : Int) := by omega
            have e2 : (n : Int) - s = ((n - s : Nat) : Int) := by omega
            rw [e1, e2]
            rfl
          · intro e he
            rcases List.mem_cons.mp he with rfl | he
            · exact ⟨Nat.lt_succ_self b, by omega, fun z => by
                show b + 1 ≤ c + 1
                have h3 := hbst.2.2.1
                unfold tot at h3
                split at h3
                · cases h3
                · omega⟩
            rcases List.mem_cons.mp he with rfl | he
            · exact trivial
            rcases List.mem_cons.mp he with rfl | he
            · exact ⟨ok1, by omega, fun _ => hbc⟩
            · exact hok' e he
          · rw [← hms]
            show _ ++ (Ml (c + 1 - (b + 1)) (n - s) b (b + 1) ++ ([rdM b] ++ (Ml (c + 1 - b) (s - 1) a b ++ outsX (c + 1) rs))) = _
            rw [show c + 1 - (b + 1) = c + 1 - b - 1 by omega]
            simp only [List.append_assoc, List.nil_append, List.cons_append, List.singleton_append]
          · show ((3 * (n - s) + 1 + (1 + (3 * (s - 1) + 1 + costX rs)) : Nat) : Int) + (k + 1) ≤ 4 * L + 4
            omega
        · have hn0 : n = 0 := by omega
          subst hn0
          rw [Ml_0, List.nil_append] at hms
          (repeat' (first | walk_at "vn" | fail))
          exact ⟨rs, ms, .dat (.int k), .dat (.int (0 : Nat)), .dat (.int a), .dat (.int b), s10, by rw [hS], pl_dat, pl_dat, pl_dat, pl_dat, h10, hok', hms, by omega, by omega⟩
  · rintro _ ⟨rs, ms, s6, s7, s8, s9, s10, rfl, h6, h7, h8, h9, h10, hok, hms, hm, hk0⟩
    have hcl := costX_len rs
    have : rs = [] := List.eq_nil_of_length_eq_zero (by omega)
    subst this
    have hms : ms = T := by rw [← hms]; exact (List.append_nil ms).symm
    subst hms
    (repeat' (first | walk_at "vn" | fail))
    exact q
  · intro e he
    rw [List.mem_singleton.mp he]
    exact ⟨Nat.one_pos, Nat.le_refl L, fun _ => Nat.succ_le_succ (Nat.zero_le c)⟩
  · show [] ++ (Ml (c + 1 - 1) L 0 1 ++ []) = T
    simp [hT]
  · show ((3 * L + 1 + 0 : Nat) : Int) + 0 ≤ 4 * L + 4
    omega
end
end L
end

section
set_option Elab.async false
set_option linter.all false
set_option maxRecDepth 100000
set_option maxHeartbeats 4000000
set_option exponentiation.threshold 4000
namespace L
open PySem PySem.Spec PyProof.Rows L2 VS

/-! values whose repr is short -/
def shP (n : Nat) (p : PyData) : Prop := p.showable = true ∧ p.hasDict = false ∧ p.depth ≤ 3 ∧ p.shown.length ≤ n
def shB (n : Nat) (p : PyData) : Bool := p.showable && !p.hasDict && decide (p.depth ≤ 3) && decide (p.shown.length ≤ n)
theorem shP_of {n : Nat} {p : PyData} (h : shB n p = true) : shP n p := by
  unfold shB at h
  simp only [Bool.and_eq_true, Bool.not_eq_true', decide_eq_true_eq] at h
  exact ⟨h.1.1.1, h.1.1.2, h.1.2, h.2⟩
theorem int_sh {i : Int} (h1 : -2 ≤ i) (h2 : i ≤ 200) : (PyData.int i).showable = true ∧ (PyData.int i).shown.length ≤ 5 := by
  have h := List.all_eq_true.mp (show ((List.range 203).all fun k => (PyData.int ((k : Int) - 2)).showable && decide ((PyData.int ((k : Int) - 2)).shown.length ≤ 5)) = true by decide +kernel) (i + 2).toNat (List.mem_range.mpr (by omega))
  rw [show (((i + 2).toNat : Nat) : Int) - 2 = i by omega, Bool.and_eq_true, decide_eq_true_eq] at h
  exact h
theorem str_sh {x : Str} {n : Nat} (h : decide ((PyData.str x).shown.length ≤ n) = true) : (PyData.str x).shown.length ≤ n := of_decide_eq_true h
theorem tup3_len {a b c : Str} : (tupleText [a, b, c]).length = a.length + b.length + c.length + 6 := by
  unfold tupleText
  show (("(" : Str) ++ (a ++ ", " ++ (b ++ ", " ++ c)) ++ ")").length = _
  simp only [strLen_append]
  show 1 + (a.length + 2 + (b.length + 2 + c.length)) + 1 = _
  omega
theorem tup2_len {a b : Str} : (tupleText [a, b]).length = a.length + b.length + 4 := by
  unfold tupleText
  show (("(" : Str) ++ (a ++ ", " ++ b) ++ ")").length = _
  simp only [strLen_append]
  show 1 + (a.length + 2 + b.length) + 1 = _
  omega
theorem up_sh {a b : Int} (a1 : -2 ≤ a) (a2 : a ≤ 200) (b1 : -2 ≤ b) (b2 : b ≤ 200) : shP 100 (.tuple [.str (Str.ofString "up"), .int a, .int b]) := by
  have ha := int_sh a1 a2
  have hb := int_sh b1 b2
  have hs : (PyData.str (Str.ofString "up")).shown.length ≤ 10 := str_sh (by decide +kernel)
  refine ⟨?_, rfl, by show 1 ≤ 3; omega, ?_⟩
  · show (true && ((PyData.int a).showable && ((PyData.int b).showable && true))) = true
    rw [ha.1, hb.1]; rfl
  · show (tupleText [_, _, _]).length ≤ 100
    rw [tup3_len]
    have := ha.2
    have := hb.2
    show (PyData.str (Str.ofString "up")).shown.length + (PyData.int a).shown.length + (PyData.int b).shown.length + 6 ≤ 100
    omega
theorem rd_sh {a : Int} (a1 : -2 ≤ a) (a2 : a ≤ 200) : shP 100 (.tuple [.str (Str.ofString "read"), .int a]) := by
  have ha := int_sh a1 a2
  have hs : (PyData.str (Str.ofString "read")).shown.length ≤ 10 := str_sh (by decide +kernel)
  refine ⟨?_, rfl, by show 1 ≤ 3; omega, ?_⟩
  · show (true && ((PyData.int a).showable && true)) = true
    rw [ha.1]; rfl
  · show (tupleText [_, _]).length ≤ 100
    rw [tup2_len]
    have := ha.2
    show (PyData.str (Str.ofString "read")).shown.length + (PyData.int a).shown.length + 4 ≤ 100
    omega
/-- a value of a list of moves -/
def MvS (d : D) : Prop := MvB d ∧ ∃ p, toPy d = some p ∧ shP 100 p
theorem mvs_up {a b : Int} (a1 : -2 ≤ a) (a2 : a ≤ 200) (b1 : -2 ≤ b) (b2 : b ≤ 200) : MvS (.tup [.str (Str.ofString "up"), .int a, .int b]) := ⟨by show 2 ≤ 10; omega, _, rfl, up_sh a1 a2 b1 b2⟩
theorem mvs_rd {a : Int} (a1 : -2 ≤ a) (a2 : a ≤ 200) : MvS (.tup [.str (Str.ofString "read"), .int a]) := ⟨by show 1 ≤ 10; omega, _, rfl, rd_sh a1 a2⟩
theorem mvs_g {d : D} {p : PyData} (h : MvB d) (hp : toPy d = some p) (hs : shB 100 p = true) : MvS d := ⟨h, p, hp, shP_of hs⟩
theorem mvs_of {C : Nat} {d : D} (hC : C ≤ 120) (h : mvN C d) : MvS d := by
  rcases h with ⟨x, y, hx, hy, rfl⟩ | ⟨x, hx, rfl⟩
  · exact mvs_up (by omega) (by omega) (by omega) (by omega)
  · exact mvs_rd (by omega) (by omega)
theorem textFrom_le : ∀ (ts : List Str) (k : Nat) (acc : Str) (m : Nat), (∀ t ∈ ts, t.length ≤ m) → (textFrom k acc ts).length ≤ acc.length + ts.length * (m + 2)
  | [], k, acc, m, _ => by show acc.length ≤ acc.length + 0 * (m + 2); omega
  | t :: ts, k, acc, m, h => by
    have ih := textFrom_le ts (k + 1) (acc ++ (if k > 0 then ", " else "" : String) ++ t) m fun x hx => h x (List.mem_cons_of_mem _ hx)
    have ht := h t List.mem_cons_self
    have e : (acc ++ (if k > 0 then ", " else "" : String) ++ t).length = acc.length + (if k > 0 then 2 else 0) + t.length := by
      rw [strLen_append, strLen_append]
      split <;> rfl
    rw [e] at ih
    show (textFrom (k + 1) _ ts).length ≤ _
    rw [List.length_cons, Nat.add_mul]
    have : (if k > 0 then 2 else 0 : Nat) ≤ 2 := by split <;> omega
    omega
theorem pys_ok : ∀ ms : List D, (∀ m ∈ ms, MvS m) → ∃ ps, toPys ms = some ps ∧ PyData.showableAll ps = true ∧ PyData.hasDictAll ps = false ∧ PyData.depthAll ps ≤ 3 ∧ (∀ t ∈ PyData.shownAll ps, t.length ≤ 100) ∧ (PyData.shownAll ps).length = ms.length
  | [], _ => ⟨[], rfl, rfl, rfl, Nat.zero_le _, (fun t h => nomatch h), rfl⟩
  | m :: ms, h => by
    obtain ⟨ps, e1, e2, e3, e4, e5, e6⟩ := pys_ok ms fun x hx => h x (List.mem_cons_of_mem _ hx)
    obtain ⟨_, p, q1, q2, q3, q4, q5⟩ := h m List.mem_cons_self
    refine ⟨p :: ps, ?_, ?_, ?_, ?_, ?_, ?_⟩
    · show (match toPy m, toPys ms with
        | some p, some ps => some (p :: ps)
        | _, _ => none) = _
      rw [q1, e1]
    · show (p.showable && PyData.showableAll ps) = true
      rw [q2, e2]; rfl
    · show (p.hasDict || PyData.hasDictAll ps) = false
      rw [q3, e3]; rfl
    · show max p.depth (PyData.depthAll ps) ≤ 3
      omega
    · intro t ht
      rcases List.mem_cons.mp (show t ∈ p.shown :: PyData.shownAll ps from ht) with rfl | ht
      · exact q5
      · exact e5 t ht
    · show (PyData.shownAll ps).length + 1 = ms.length + 1
      rw [e6]
theorem repr_ok {ms : List D} (h : ∀ m ∈ ms, MvS m) (hl : ms.length ≤ 60000) : ∃ s, reprD [.lst ms] = some (.str s) := by
  obtain ⟨ps, e1, e2, e3, e4, e5, e6⟩ := pys_ok ms h
  have e : toPy (.lst ms) = some (.list ps) := by
    show (toPys ms).map PyData.list = _
    rw [e1]; rfl
  refine ⟨(PyData.list ps).shown, ?_⟩
  show (match toPy (.lst ms) with
    | some p => if reprOk p = true then some (D.str p.shown) else none
    | none => none) = _
  rw [e]
  refine if_pos ?_
  have hlen : (listText (PyData.shownAll ps)).length ≤ sizeLine := by
    unfold listText
    rw [strLen_append]
    have := textFrom_le (PyData.shownAll ps) 0 "[" 100 e5
    rw [e6] at this
    have a : ("[" : Str).length = 1 := rfl
    have b : ("]" : Str).length = 1 := rfl
    have c : ms.length * (100 + 2) ≤ 60000 * 102 := Nat.mul_le_mul hl (by omega)
    unfold sizeLine
    omega
  unfold reprOk
  have d1 : (PyData.list ps).showable = true := e2
  have d2 : (PyData.list ps).hasDict = false := e3
  have d3 : (PyData.list ps).depth ≤ 4 := by show PyData.depthAll ps + 1 ≤ 4; omega
  have d4 : (PyData.list ps).shown.length ≤ sizeLine := hlen
  rw [d1, d2, decide_eq_true (by omega), decide_eq_true d4]
  rfl
theorem MvS.plain {d : D} (h : MvS d) : MvB d := h.1
end L
end

section
set_option Elab.async false
set_option linter.all false
set_option maxRecDepth 100000
set_option maxHeartbeats 4000000
set_option exponentiation.threshold 4000
namespace L
open PySem PySem.Spec PyProof.Rows L2 VS

theorem len_step2 {x s A : Nat} (hs : 1 ≤ s) (ha : 2 * A ≤ x * (x + 3)) : 2 * (1 + (s - 1) + A + 1) + (s - 1) * (s - 1 + 3) ≤ (x + s) * (x + s + 3) := by
  obtain ⟨t, rfl⟩ : ∃ t, s = t + 1 := ⟨s - 1, by omega⟩
  have e : t + 1 - 1 = t := by omega
  rw [e]
  have e1 : x * (x + 3) = x * x + 3 * x := by rw [Nat.mul_add, Nat.mul_comm x 3]
  have e2 : t * (t + 3) = t * t + 3 * t := by rw [Nat.mul_add, Nat.mul_comm t 3]
  have e3 : (x + (t + 1)) * (x + (t + 1) + 3) = x * x + x * t + x * 1 + (t * x + t * t + t * 1 + (x + t + 1)) + (x + (t + 1)) * 3 := by
    rw [Nat.mul_add, Nat.add_mul x (t + 1), Nat.mul_add x x, Nat.mul_add x t 1, Nat.add_mul t 1, Nat.mul_add t x, Nat.mul_add t t 1]
    omega
  omega
section
variable {Q : Rv → List Sl → Prop} {E : Nat → List (Str × D) → List Sl → Prop}
theorem moves_ok {C : Nat} (hC : C ≤ 120) : ∀ (d n a b : Nat) (o : O) {Q : Rv → List Sl → Prop} {E : Nat → List (Str × D) → List Sl → Prop}, n < d → n ≤ 120 → Good o → a ≤ C → (1 ≤ n → 1 ≤ b ∧ b ≤ C) →
    (∀ (ms : List D) (o' : O), Good o' → 2 * ms.length ≤ n * (n + 3) → (∀ x ∈ ms, mvN C x) → Q (.new (.lst ms)) [.own true o', .un, .un, .un, .un]) → (F__law_moves d [.own true o, .dat (.int n), .dat (.int a), .dat (.int b), .dat (.int C)]).W Q E
  | 0, n, a, b, o, Q, E, h, _, _, _, _, _ => by omega
  | d + 1, n, a, b, o, Q, E, h, hn, g, ha, hb, q => by
    have hbig : 1000000 < big := by decide
    rw [F__law_moves_eq]
    refine w_def (δ := [.own true o, .dat (.int n), .dat (.int a), .dat (.int b), .dat (.int C), .un, .un, .un, .un]) rfl rfl ?_
    unfold d__law_moves
    have IH := fun n' a' b' o' Q E => moves_ok hC d n' a' b' o' (Q := Q) (E := E)
    have mb : n * (n + 3) ≤ 120 * 123 := Nat.mul_le_mul hn (by omega)
    generalize F__law_moves d = rec at *
    (repeat' (first | walk_at "vn" | fail))
    rw [Int.toNat_natCast]
    refine w_range (fun k δ => ∃ (m : Nat) (ms : List D) (o : O) (s6 s7 s8 : Sl), δ = [.own true o, .dat (.int m), .dat (.int a), .dat (.int b), .dat (.int C), .own false (.lst ms), s6, s7, s8] ∧ Good o ∧ Pl s6 ∧ Pl s7 ∧ Pl s8 ∧ m ≤ n ∧ 2 * ms.length + m * (m + 3) ≤ n * (n + 3) ∧ ∀ x ∈ ms, mvN C x) n ?_ ?_ _ _ _ (by omega) ⟨n, [], o, _, _, _, rfl, g, pl_un, pl_un, pl_un, Nat.le_refl n, by simp, fun x h => nomatch h⟩
    · rintro k _ hk ⟨m, ms, o, s6, s7, s8, rfl, g, h6, h7, h8, hm, hlen, hms⟩
      have hn1 : m ≠ 0 → 1 ≤ n := by omega
      refine ⟨_, tset rfl h6.no, ?_⟩
      (repeat' (first | walk_at "vn" | fail))
      refine br (fun hz => ?_) (fun hz => ?_)
      · (repeat' (first | walk_at "vn" | fail))
        exact q ms o g (by omega) hms
      have hm0 : m ≠ 0 := by omega
      have ⟨hb1, hb2⟩ := hb (hn1 hm0)
      refine w_cut (fun δ => ∃ (o : O) (s : Nat), δ = [.own true o, .dat (.int m), .dat (.int a), .dat (.int b), .dat (.int C), .own false (.lst ms), .dat (.int k), .dat (.int s), s8] ∧ Good o ∧ 1 ≤ s ∧ s ≤ m) ?_ ?_
      · refine w_asg ?_
        (repeat' (first | ((with_reducible show Cr.W _ _ _); refine edge_ok g (by omega) (fun r o' g' r1 r2 => ?_)) | walk_at "vn" | fail))
        refine ⟨_, tset rfl h7.no, rfl, o', 1 + r.toNat, ?_, g', by omega, by omega⟩
        rw [show ((1 + r.toNat : Nat) : Int) = 1 + r by omega]
        rfl
      rintro _ ⟨o, s, rfl, g, hs1, hs2⟩
      refine w_cut (fun δ => ∃ (s : Nat), δ = [.own true o, .dat (.int m), .dat (.int a), .dat (.int b), .dat (.int C), .own false (.lst ms), .dat (.int k), .dat (.int s), s8] ∧ 1 ≤ s ∧ s ≤ m ∧ (b = C → s = m)) ?_ ?_
      · (repeat' (first | walk_at "vn" | fail))
        refine br (fun he => ?_) (fun he => ?_)
        · (repeat' (first | walk_at "vn" | fail))
          exact ⟨rfl, m, rfl, by omega, Nat.le_refl m, fun _ => rfl⟩
        · (repeat' (first | walk_at "vn" | fail))
          exact ⟨rfl, s, rfl, hs1, hs2, fun e => by omega⟩
      clear hs1 hs2
      rintro _ ⟨s, rfl, hs1, hs2, hs3⟩
      (repeat' (first | (refine app_mk rfl (by omega) ?_) | walk_at "vn" | fail))
      rw [show (s : Int) - 1 = ((s - 1 : Nat) : Int) by omega, Int.toNat_natCast]
      refine w_range (fun k' δ => ∃ (j : Nat) (s8 : Sl), δ = [.own true o, .dat (.int m), .dat (.int a), .dat (.int b), .dat (.int C), .own false (.lst (ms ++ [upM a b] ++ List.replicate j (upM b b))), .dat (.int k), .dat (.int s), s8] ∧ Pl s8 ∧ k' = j) ((s - 1 : Nat) : Int) ?_ ?_ _ _ _ (by omega) ⟨0, s8, by rw [List.replicate_zero, List.append_nil]; rfl, h8, rfl⟩
      · rintro k' _ hk' ⟨j, s8, rfl, h8, rfl⟩
        refine ⟨_, tset rfl h8.no, ?_⟩
        (repeat' (first | (refine app_mk rfl (by simp; omega) ?_) | walk_at "vn" | fail))
        refine ⟨j + 1, .dat (.int j), ?_, pl_dat, by omega⟩
        rw [List.replicate_succ', ← List.append_assoc]
        rfl
      · rintro _ ⟨j, s8, rfl, h8, hj⟩
        have hj : j = s - 1 := by omega
        subst hj
        have hml : (ms ++ [upM a b] ++ List.replicate (s - 1) (upM b b)).length ≤ 10000 := by simp; omega
        have hmx : ∀ x ∈ ms ++ [upM a b] ++ List.replicate (s - 1) (upM b b), mvN C x := by
          intro x hx
          rcases List.mem_append.mp hx with hx | hx
          · rcases List.mem_append.mp hx with hx | hx
            · exact hms x hx
            · exact .inl ⟨a, b, ha, hb2, List.mem_singleton.mp hx⟩
          · exact .inl ⟨b, b, hb2, hb2, (List.mem_replicate.mp hx).2⟩
        have hmn : (ms ++ [upM a b] ++ List.replicate (s - 1) (upM b b)).length = ms.length + 1 + (s - 1) := by simp; omega
        generalize ms ++ [upM a b] ++ List.replicate (s - 1) (upM b b) = ms2 at *
        (repeat' (first | walk_at "vn" | fail))
        rw [show (m : Int) - s = ((m - s : Nat) : Int) by omega, show (b : Int) + 1 = ((b + 1 : Nat) : Int) by omega]
        refine IH (m - s) b (b + 1) o _ _ (by omega) (by omega) g hb2 (fun z => ⟨by omega, by omega⟩) (fun ms3 o' g' hl3 hm3 => ?_)
        have m3 : (m - s) * (m - s + 3) ≤ 120 * 123 := Nat.mul_le_mul (by omega) (by omega)
        (repeat' (first | (refine addL_mk2 rfl (by omega) ?_) | (refine app_mk rfl (by simp; omega) ?_) | walk_at "vn" | fail))
        have st := len_step2 (x := m - s) hs1 hl3
        rw [show m - s + s = m by omega] at st
        refine ⟨s - 1, ms2 ++ ms3 ++ [rdM b], o', .dat (.int k), .dat (.int s), s8, ?_, g', pl_dat, pl_dat, h8, by omega, by simp; omega, ?_⟩
        · rw [show ((s - 1 : Nat) : Int) = (s : Int) - 1 by omega]
          rfl
        · intro x hx
          rcases List.mem_append.mp hx with hx | hx
          · rcases List.mem_append.mp hx with hx | hx
            · exact hmx x hx
            · exact hm3 x hx
          · exact .inr ⟨b, hb2, List.mem_singleton.mp hx⟩
    · rintro _ ⟨m, ms, o, s6, s7, s8, rfl, g, h6, h7, h8, hm, hlen, hms⟩
      (repeat' (first | walk_at "vn" | fail))
      exact q ms o g (by omega) hms
/-! bent -/
theorem op_catL {xs ys : List D} {a b : Nat} {q : D → Prop} (h1 : xs.length ≤ a) (h2 : ys.length ≤ b) (h3 : a + b ≤ 100000) (h : q (.lst (xs ++ ys))) : Op addD (.lst xs) (.lst ys) q := op_catN (by omega) h
theorem lenB_le {xs : List D} {a n : Nat} (h1 : xs.length ≤ a) (h2 : a ≤ n) : xs.length ≤ n := Nat.le_trans h1 h2
theorem lenB_app {xs ys : List D} {a b : Nat} (h1 : xs.length ≤ a) (h2 : ys.length ≤ b) : (xs ++ ys).length ≤ a + b := by rw [List.length_append]; omega
theorem sub_mvs {ms : List D} (h : ∀ m ∈ ms, MvS m) (a b : Option Int) : (∀ m ∈ cut ms a b, MvS m) ∧ (cut ms a b).length ≤ ms.length := ⟨fun m hm => h m ((cut_sub ms a b).subset hm), (cut_sub ms a b).length_le⟩
theorem bent_ok {o : O} {ms : List D} {c : Nat} (g : Good o) (hc : c + 1 ≤ 120) (hl : ms.length ≤ 12000) (hm : ∀ m ∈ ms, MvS m) (q : ∀ (ms' : List D) (o' : O), Good o' → ms'.length ≤ 4 * ms.length + 1 → (∀ m ∈ ms', MvS m) → Q (.dat (.lst ms')) [.own true o', .un, .un]) : (F__law_movesbent [.own true o, .dat (.lst ms), .dat (.int (c + 1 : Nat))]).W Q E := by
  have hbig : 1000000 < big := by decide
  rw [F__law_movesbent_eq]
  refine w_def (δ := [.own true o, .dat (.lst ms), .dat (.int (c + 1 : Nat)), .un, .un, .un, .un, .un]) rfl rfl ?_
  unfold d__law_movesbent
  refine w_cut (fun δ => ∃ (o : O) (x : Int), δ = [.own true o, .dat (.lst ms), .dat (.int (c + 1 : Nat)), .dat (.int x), .un, .un, .un, .un] ∧ Good o ∧ 0 ≤ x ∧ x ≤ 122) ?_ ?_
  · (repeat' (first | ((with_reducible show Cr.W _ _ _); refine take_ok g (by omega) (fun r o' g' r1 r2 => ?_)) | walk_at "vn" | fail))
    exact ⟨rfl, o', r, rfl, g', r1, by omega⟩
  rintro _ ⟨o, x, rfl, g, hx1, hx2⟩
  refine w_cut (fun δ => ∃ (o : O) (y : D), δ = [.own true o, .dat (.lst ms), .dat (.int (c + 1 : Nat)), .dat (.int x), .dat y, .un, .un, .un] ∧ Good o ∧ MvS y) ?_ ?_
  · (repeat' (first | ((with_reducible show Cr.W _ _ _); refine pick_ok g (by simp) (by simp) (fun r o' g' r1 => ?_)) | walk_at "vn" | fail))
    refine ⟨rfl, o', r, rfl, g', ?_⟩
    simp only [List.mem_cons, List.not_mem_nil, or_false] at r1
    rcases r1 with rfl | rfl | rfl | rfl | rfl
    · exact mvs_up (by omega) (by omega) (by omega) (by omega)
    · exact mvs_up (by omega) (by omega) (by omega) (by omega)
    · exact mvs_rd (by omega) (by omega)
    · exact mvs_up (by omega) (by omega) (by omega) (by omega)
    · exact mvs_rd (by omega) (by omega)
  rintro _ ⟨o, y, rfl, g, hy⟩
  have g1 : ∀ {d : D} {p : PyData}, MvB d → toPy d = some p → shB 100 p = true → MvS d := fun h1 h2 h3 => mvs_g h1 h2 h3
  refine w_cut (fun δ => ∃ (od : List D), δ = [.own true o, .dat (.lst ms), .dat (.int (c + 1 : Nat)), .dat (.int x), .dat y, .dat (.lst od), .un, .un] ∧ od.length ≤ 20 ∧ 1 ≤ od.length ∧ ∀ m ∈ od, MvS m) ?_ ?_
  · (repeat' (first | walk_at "vn" | fail))
    refine ⟨rfl, _, rfl, by decide, by decide, ?_⟩
    simp only [List.forall_mem_cons]
    refine ⟨?_, ?_, ?_, ?_, ?_, ?_, ?_, ?_, fun x h => nomatch h⟩
    all_goals exact g1 (by first | trivial | (show _ ≤ 10; decide)) rfl (by decide +kernel)
  rintro _ ⟨od, rfl, hod, hod1, hodm⟩
  have step : ∀ {od' : List D} {fl : Fl} {δ : List Sl}, True := trivial
  refine w_cut (fun δ => ∃ (od : List D), δ = [.own true o, .dat (.lst ms), .dat (.int (c + 1 : Nat)), .dat (.int x), .dat y, .dat (.lst od), .un, .un] ∧ od.length ≤ 40 ∧ 1 ≤ od.length ∧ ∀ m ∈ od, MvS m) ?_ ?_
  · (repeat' (first | (refine op_catN (by simp; omega) ?_) | walk_at "vn" | fail))
    refine ⟨rfl, _, rfl, by simp; omega, by simp, ?_⟩
    refine List.forall_mem_append.mpr ⟨hodm, ?_⟩
    simp only [List.forall_mem_cons]
    refine ⟨?_, ?_, ?_, ?_, ?_, ?_, fun x h => nomatch h⟩
    · exact g1 (by first | trivial | (show _ ≤ 10; decide)) rfl (by decide +kernel)
    · exact g1 (by first | trivial | (show _ ≤ 10; decide)) rfl (by decide +kernel)
    · exact mvs_rd (by omega) (by omega)
    · exact mvs_up (by omega) (by omega) (by omega) (by omega)
    · exact mvs_up (by omega) (by omega) (by omega) (by omega)
    · exact g1 (by first | trivial | (show _ ≤ 10; decide)) rfl (by decide +kernel)
  clear hod hod1 hodm
  rintro _ ⟨od, rfl, hod, hod1, hodm⟩
  refine w_cut (fun δ => ∃ (od : List D), δ = [.own true o, .dat (.lst ms), .dat (.int (c + 1 : Nat)), .dat (.int x), .dat y, .dat (.lst od), .un, .un] ∧ od.length ≤ 60 ∧ 1 ≤ od.length ∧ ∀ m ∈ od, MvS m) ?_ ?_
  · (repeat' (first | (refine op_catN (by simp; omega) ?_) | walk_at "vn" | fail))
    refine ⟨rfl, _, rfl, by simp; omega, by simp, ?_⟩
    refine List.forall_mem_append.mpr ⟨hodm, ?_⟩
    simp only [List.forall_mem_cons]
    refine ⟨?_, ?_, ?_, ?_, ?_, ?_, ?_, fun x h => nomatch h⟩
    all_goals exact g1 (by first | trivial | (show _ ≤ 10; decide)) rfl (by decide +kernel)
  clear hod hod1 hodm
  rintro _ ⟨od, rfl, hod, hod1, hodm⟩
  refine w_cut (fun δ => ∃ (od : List D), δ = [.own true o, .dat (.lst ms), .dat (.int (c + 1 : Nat)), .dat (.int x), .dat y, .dat (.lst od), .un, .un] ∧ od.length ≤ 80 ∧ 1 ≤ od.length ∧ ∀ m ∈ od, MvS m) ?_ ?_
  · (repeat' (first | (refine op_catN (by simp; omega) ?_) | walk_at "vn" | fail))
    refine ⟨rfl, _, rfl, by simp; omega, by simp, ?_⟩
    refine List.forall_mem_append.mpr ⟨hodm, ?_⟩
    simp only [List.forall_mem_cons]
    refine ⟨?_, ?_, fun x h => nomatch h⟩
    · exact mvs_up (by omega) (by omega) (by omega) (by omega)
    · exact mvs_rd (by omega) (by omega)
  clear hod hod1 hodm
  rintro _ ⟨od, rfl, hod, hod1, hodm⟩
  have hsub := fun a b => sub_mvs hm a b
  have fin : ∀ (r : List D) (o' : O), Good o' → r.length ≤ 4 * ms.length + 1 → (∀ m ∈ r, MvS m) → Q (.dat (.lst r)) [.own true o', .un, .un] := fun r o' g' h1 h2 => q r o' g' h1 h2
  have hodY : ∀ m ∈ od ++ [y], MvS m := List.forall_mem_append.mpr ⟨hodm, fun m h => by rw [List.mem_singleton.mp h]; exact hy⟩
  have hod0 : 0 < od.length := hod1
  have hod2 : od.length < 1000000 := by omega
  have hod3 : 0 < (od ++ [y]).length := by simp
  have hod4 : (od ++ [y]).length < 1000000 := by simp; omega
  (repeat' (first | ((with_reducible show Cr.W _ _ _); refine take_ok (by assumption) (by omega) (fun _ _ _ _ _ => ?_)) | ((with_reducible show Cr.W _ _ _); refine pick_ok (by assumption) (by assumption) (by assumption) (fun _ _ _ _ => ?_)) | (with_reducible apply op_catL) | (exact (hsub _ _).2) | (with_reducible apply lenB_app) | (exact Nat.le_refl _) | walk_at "vn" | (with_reducible refine br (fun _ => ?_) (fun _ => ?_)) | fail))
  all_goals first | (simp only [List.length_cons, List.length_nil]; omega) | omega | skip
  all_goals refine fin _ _ (by assumption) ?_ ?_
  all_goals first | with_reducible apply lenB_le | skip
  all_goals (repeat' (first | exact (hsub _ _).2 | with_reducible apply lenB_app | exact Nat.le_refl _ | exact (hsub _ _).1 | refine List.forall_mem_append.mpr ⟨?_, ?_⟩))
  all_goals first | (simp only [List.length_cons, List.length_nil]; omega) | omega | (intro m h; rw [List.mem_singleton.mp h]; first | exact hy | exact hodm _ (by assumption) | exact hodY _ (by assumption))
end
end L
end

section
set_option Elab.async false
set_option linter.all false
set_option maxRecDepth 100000
set_option maxHeartbeats 4000000
set_option exponentiation.threshold 4000
namespace L
open PySem PySem.Spec PyProof.Rows L2 VS

section
variable {Q : Rv → List Sl → Prop} {E : Nat → List (Str × D) → List Sl → Prop}
theorem same_seqC {n : Nat} {x : D} {xs : List D} (hx : (x = .lst xs) ∨ (x = .tup xs)) (hl : xs.length ≤ 100000)
    (ih : ∀ (y : D) {Q : Rv → List Sl → Prop} {E : Nat → List (Str × D) → List Sl → Prop}, y ∈ xs → Q (.dat (.bl true)) [.un, .un] → (F__law_sameC n [.dat y, .dat y]).W Q E) (q : Q (.dat (.bl true)) [.un, .un]) : (F__law_sameC (n + 1) [.dat x, .dat x]).W Q E := by
  rw [F__law_sameC_eq]
  refine w_def (δ := [.dat x, .dat x, .un, .un, .un, .un]) rfl rfl ?_
  unfold d__law_sameC
  have loop : ∀ (a b : Bool), W (dSeq (dFor (dRng rng1 (dCons (dB lenD (dCons (dVar 0) dNil)) dNil)) (tName 4) (dIfS (dNot (dTest (dOfC (dCall (F__law_sameC n) [none, none] (dArg (dOp ixD (dVar 0) (dVar 4)) (dArg (dOp ixD (dVar 1) (dVar 4)) dNoArg)))))) (dRet (dC (.bl false))) dNext)) (dRet (dC (.bl true)))) [.dat x, .dat x, .dat (.bl a), .dat (.bl b), .un, .un] (VS.Fin [.dat x, .dat x] Q) (fun c fs δ => E c fs (outs [.dat x, .dat x] δ)) := by
    intro a b
    have fin : ∀ {j : Int} {z : D → Prop}, 0 ≤ j → (h : j.toNat < xs.length) → z xs[j.toNat] → Op ixD x (.int j) z := fun {j z} h0 h hz => by
      rcases hx with rfl | rfl
      · exact op_ixN h0 (List.getElem?_eq_getElem h) hz
      · exact ⟨_, atI_nat h0 (List.getElem?_eq_getElem h), hz⟩
    have len : ∀ {z : D → Prop}, z (.int xs.length) → Op1 lenD [x] z := fun {z} hz => by
      rcases hx with rfl | rfl
      · exact ⟨_, rfl, hz⟩
      · exact ⟨_, rfl, hz⟩
    (repeat' (first | (refine len ?_) | walk_at "vn" | (with_reducible refine br (fun _ => ?_) (fun _ => ?_)) | fail))
    refine w_range (fun k δ => 0 ≤ k ∧ ∃ s, δ = [.dat x, .dat x, .dat (.bl a), .dat (.bl b), s, .un] ∧ ∀ b o, s ≠ .own b o) xs.length ?_ ?_ _ _ _ (by omega) ⟨by decide, _, rfl, by intro b o z; cases z⟩
    · rintro k _ hk ⟨hk0, s, rfl, hs⟩
      have hlt : k.toNat < xs.length := by omega
      refine ⟨[.dat x, .dat x, .dat (.bl a), .dat (.bl b), .dat (.int k), .un], ?_, ?_⟩
      · cases s <;> first | rfl | exact absurd rfl (hs _ _)
      (repeat' (first | (refine fin hk0 hlt ?_) | (refine ih _ (List.getElem_mem hlt) ?_) | walk_at "vn" | (with_reducible refine br (fun _ => ?_) (fun _ => ?_)) | fail))
      exact ⟨by omega, _, rfl, by intro b o z; cases z⟩
    · rintro _ ⟨_, s, rfl, hs⟩
      (repeat' (first | walk_at "vn" | (with_reducible refine br (fun _ => ?_) (fun _ => ?_)) | fail))
      exact q
  rcases hx with rfl | rfl
  · (repeat' (first | walk_at "vn" | fail))
    refine br (fun _ => ?_) (fun h => absurd rfl h)
    with_reducible refine w_next ?_
    with_reducible refine sq_nxt ?_
    simp only [List.set_cons_zero, List.set_cons_succ]
    apply loop
  · (repeat' (first | walk_at "vn" | fail))
    refine br (fun _ => ?_) (fun h => absurd rfl h)
    with_reducible refine w_next ?_
    with_reducible refine sq_nxt ?_
    simp only [List.set_cons_zero, List.set_cons_succ]
    apply loop
theorem same_okC : ∀ (n : Nat) (x : D) {Q : Rv → List Sl → Prop} {E : Nat → List (Str × D) → List Sl → Prop}, plainB n x = true → Q (.dat (.bl true)) [.un, .un] → (F__law_sameC n [.dat x, .dat x]).W Q E
  | 0, x, Q, E, h, q => by cases h
  | n + 1, x, Q, E, h, q => by
    cases x with
    | lst xs =>
      have h : (decide (xs.length ≤ 100000) && xs.all (plainB n)) = true := h
      obtain ⟨h1, h2⟩ := Bool.and_eq_true_iff.mp h
      exact same_seqC (.inl rfl) (of_decide_eq_true h1) (fun y _ _ hy q => same_okC n y (List.all_eq_true.mp h2 y hy) q) q
    | tup xs =>
      have h : (decide (xs.length ≤ 100000) && xs.all (plainB n)) = true := h
      obtain ⟨h1, h2⟩ := Bool.and_eq_true_iff.mp h
      exact same_seqC (.inr rfl) (of_decide_eq_true h1) (fun y _ _ hy q => same_okC n y (List.all_eq_true.mp h2 y hy) q) q
    | rol xs => cases h
    | dct xs => cases h
    | non =>
      rw [F__law_sameC_eq]
      refine w_def (δ := [.dat .non, .dat .non, .un, .un, .un, .un]) rfl rfl ?_
      unfold d__law_sameC
      (repeat' (first | walk_at "vn" | (with_reducible refine br (fun _ => ?_) (fun _ => ?_)) | fail))
      exact q
    | bl b =>
      rw [F__law_sameC_eq]
      refine w_def (δ := [.dat (.bl b), .dat (.bl b), .un, .un, .un, .un]) rfl rfl ?_
      unfold d__law_sameC
      (repeat' (first | walk_at "vn" | fail))
      (try rw [decide_eq_true rfl])
      exact q
    | int b =>
      rw [F__law_sameC_eq]
      refine w_def (δ := [.dat (.int b), .dat (.int b), .un, .un, .un, .un]) rfl rfl ?_
      unfold d__law_sameC
      (repeat' (first | walk_at "vn" | fail))
      (try rw [decide_eq_true rfl])
      exact q
    | str b =>
      rw [F__law_sameC_eq]
      refine w_def (δ := [.dat (.str b), .dat (.str b), .un, .un, .un, .un]) rfl rfl ?_
      unfold d__law_sameC
      (repeat' (first | walk_at "vn" | fail))
      (try rw [decide_eq_true rfl])
      exact q
end
end L
end

section
set_option Elab.async false
set_option linter.all false
set_option maxRecDepth 100000
set_option maxHeartbeats 4000000
set_option exponentiation.threshold 4000
namespace L
open PySem PySem.Spec PyProof.Rows L2 VS

theorem plain8 : ∀ {n : Nat} {d : D}, plainB n d = true → plainB (n + 1) d = true
  | 0, d, h => by cases h
  | n + 1, d, h => by
    cases d with
    | lst xs =>
      have h : (decide (xs.length ≤ 100000) && xs.all (plainB n)) = true := h
      obtain ⟨h1, h2⟩ := Bool.and_eq_true_iff.mp h
      show (decide (xs.length ≤ 100000) && xs.all (plainB (n + 1))) = true
      rw [h1, Bool.true_and]
      exact List.all_eq_true.mpr fun x hx => plain8 (List.all_eq_true.mp h2 x hx)
    | tup xs =>
      have h : (decide (xs.length ≤ 100000) && xs.all (plainB n)) = true := h
      obtain ⟨h1, h2⟩ := Bool.and_eq_true_iff.mp h
      show (decide (xs.length ≤ 100000) && xs.all (plainB (n + 1))) = true
      rw [h1, Bool.true_and]
      exact List.all_eq_true.mpr fun x hx => plain8 (List.all_eq_true.mp h2 x hx)
    | rol xs => cases h
    | dct xs => cases h
    | non => rfl
    | bl b => rfl
    | int b => rfl
    | str b => rfl
section
variable {Q : Rv → List Sl → Prop} {E : Nat → List (Str × D) → List Sl → Prop}
/-- an owned list and the same list as data -/
theorem same_own {xs : List D} (hl : xs.length ≤ 100000) (hp : ∀ y ∈ xs, plainB 8 y = true) (q : Q (.dat (.bl true)) [.own true (.lst xs), .un]) : (F__law_sameS0 [.own true (.lst xs), .dat (.lst xs)]).W Q E := by
  rw [F__law_sameS0_eq]
  refine w_def (δ := [.own true (.lst xs), .dat (.lst xs), .un, .un, .un, .un]) rfl rfl ?_
  unfold d__law_sameS0
  have ih := fun (Q : Rv → List Sl → Prop) (E : Nat → List (Str × D) → List Sl → Prop) (y : D) (hy : y ∈ xs) (q : Q (.dat (.bl true)) [.un, .un]) => same_okC (Q := Q) (E := E) 8 y (hp y hy) q
  generalize F__law_sameC 8 = G8 at *
  (repeat' (first | (with_reducible refine w_isiS (by with_unfolding_all rfl) ?_) | (with_reducible refine w_isNS (by with_unfolding_all rfl) ?_) | walk_at "vn" | (with_reducible refine br_yes (by first | decide | omega | (simp <;> fail) | fail) ?_) | (with_reducible refine br_not (by first | decide | omega | (simp <;> fail) | fail) ?_) | fail))
  refine w_range (fun k δ => 0 ≤ k ∧ ∃ s, δ = [.own true (.lst xs), .dat (.lst xs), .dat (.bl true), .dat (.bl false), s, .un] ∧ Pl s) xs.length ?_ ?_ _ _ _ (by simp) ⟨by decide, _, rfl, pl_un⟩
  · rintro k _ hk ⟨hk0, s, rfl, hs⟩
    have hlt : k.toNat < xs.length := by omega
    refine ⟨_, tset rfl hs.no, ?_⟩
    (repeat' (first | (refine ixs_mk rfl (atI_nat hk0 (List.getElem?_eq_getElem hlt)) ?_) | (refine op_ixN hk0 (List.getElem?_eq_getElem hlt) ?_) | ((with_reducible show Cr.W _ _ _); refine ih _ _ _ (List.getElem_mem hlt) ?_) | walk_at "vn" | fail))
    exact ⟨by omega, _, rfl, pl_dat⟩
  · rintro _ ⟨_, s, rfl, hs⟩
    (repeat' (first | walk_at "vn" | fail))
    exact q
end
end L
end

section
set_option Elab.async false
set_option linter.all false
set_option maxRecDepth 100000
set_option maxHeartbeats 4000000
set_option exponentiation.threshold 4000
namespace L
open PySem PySem.Spec PyProof.Rows L2 VS

theorem refusal_c (d : D) : F__law_refusal [.exc 0 (flds (.str "badcells") ["cells"] [d])] = .ret (.dat (.tup [.str "badcells", d])) [.un] := by kernel_rfl
theorem refusal_m (d : D) : F__law_refusal [.exc 1 (flds (.str "badmove") ["at"] [d])] = .ret (.dat (.tup [.str "badmove", d])) [.un] := by kernel_rfl
def dueD (r : Bool × Int) : D := if r.1 = true then .tup [.bl true, .int r.2] else .tup [.bl false, .tup [.str "badmove", .int r.2]]
abbrev badc (d : D) : D := .tup [.bl false, .tup [.str "badcells", d]]
theorem said_ok {x : D} {ms : List D} {n c : Int} (hx : x = .lst ms ∨ x = .tup ms) (hn : 0 ≤ n) (hc : 1 ≤ c) (hl : ms.length ≤ 50000) (hm : ∀ m ∈ ms, MvB m) : F__law_said [.dat (.int n), .dat (.int c), .dat x] = .ret (.dat (dueD (playL n c ms 0 (h0 c) n 0))) [.un, .un, .un] := by
  refine Cr.W.eq ?_
  rw [F__law_said_eq]
  refine w_def (δ := [.dat (.int n), .dat (.int c), .dat x, .un]) rfl rfl ?_
  unfold d__law_said
  refine w_try ?_
  have chk := fun (Q : Rv → List Sl → Prop) (E : Nat → List (Str × D) → List Sl → Prop) q1 q2 => check_ok (Q := Q) (E := E) (x := x) hx hn hc hl hm q1 q2
  generalize playL n c ms 0 (h0 c) n 0 = R at *
  rcases hx with rfl | rfl
  all_goals
    (repeat' (first | ((with_reducible show Cr.W _ _ _); refine chk _ _ (fun u e => ?_) (fun k e => ?_)) | walk_at "vn" | (with_reducible refine br_yes (by first | decide | omega | (simp <;> fail) | fail) ?_) | (with_reducible refine br_not (by first | decide | omega | (simp <;> fail) | fail) ?_) | fail))
    · rw [e]
      exact ⟨rfl, rfl⟩
    · rw [e]
      refine .inl ⟨rfl, _, rfl, ?_⟩
      (repeat' (first | ((with_reducible show Cr.W _ _ _); refine Cr.W.of (refusal_m _) ?_) | walk_at "vn" | (with_reducible refine br_yes (by first | decide | omega | (simp <;> fail) | fail) ?_) | (with_reducible refine br_not (by first | decide | omega | (simp <;> fail) | fail) ?_) | fail))
      exact ⟨rfl, rfl⟩
theorem check_no {d x : D} {n : Int} (h : GC d = false) : F_check_moves [.dat (.int n), .dat d, .dat x] = .exc 0 (flds (.str "badcells") ["cells"] [d]) [.un, .un, .un] := by
  refine Cr.W.eqx ?_
  rw [F_check_moves_eq]
  refine w_def (δ := [.dat (.int n), .dat d, .dat x, .un, .un, .un, .un, .un, .un]) rfl rfl ?_
  unfold d_check_moves
  (repeat' (first | ((with_reducible show Cr.W _ _ _); refine Cr.W.ofx (need_no h) ?_) | walk_at "vn" | fail))
  exact ⟨rfl, rfl, rfl⟩
theorem move_no {d : D} {n : Int} (h : GC d = false) : F_move_list [.dat (.int n), .dat d] = .exc 0 (flds (.str "badcells") ["cells"] [d]) [.un, .un] := by
  refine Cr.W.eqx ?_
  rw [F_move_list_eq]
  refine w_def (δ := [.dat (.int n), .dat d, .un, .un, .un, .un, .un, .un, .un, .un, .un, .un, .un]) rfl rfl ?_
  unfold d_move_list
  (repeat' (first | ((with_reducible show Cr.W _ _ _); refine Cr.W.ofx (need_no h) ?_) | walk_at "vn" | fail))
  exact ⟨rfl, rfl, rfl⟩
theorem said_no {d x : D} {n : Int} (hx : x = .non ∨ ∃ ms, x = .lst ms) (h : GC d = false) : F__law_said [.dat (.int n), .dat d, .dat x] = .ret (.dat (badc d)) [.un, .un, .un] := by
  refine Cr.W.eq ?_
  rw [F__law_said_eq]
  refine w_def (δ := [.dat (.int n), .dat d, .dat x, .un]) rfl rfl ?_
  unfold d__law_said
  refine w_try ?_
  rcases hx with rfl | ⟨ms, rfl⟩
  all_goals
    (repeat' (first | ((with_reducible show Cr.W _ _ _); refine Cr.W.ofx (check_no h) ?_) | ((with_reducible show Cr.W _ _ _); refine Cr.W.ofx (move_no h) ?_) | walk_at "vn" | (with_reducible refine br_yes (by first | decide | omega | (simp <;> fail) | fail) ?_) | (with_reducible refine br_not (by first | decide | omega | (simp <;> fail) | fail) ?_) | fail))
    refine .inl ⟨rfl, _, rfl, ?_⟩
    (repeat' (first | ((with_reducible show Cr.W _ _ _); refine Cr.W.of (refusal_c _) ?_) | walk_at "vn" | (with_reducible refine br_yes (by first | decide | omega | (simp <;> fail) | fail) ?_) | (with_reducible refine br_not (by first | decide | omega | (simp <;> fail) | fail) ?_) | fail))
    exact ⟨rfl, rfl⟩
/-- a list of moves -/
def ListP (d : D) : Prop := ∃ ms, d = .lst ms ∧ ms.length ≤ 50000 ∧ ∀ m ∈ ms, MvS m
section
variable {Q : Rv → List Sl → Prop} {E : Nat → List (Str × D) → List Sl → Prop}
theorem rights_ok {n c : Int} {d : D} (hn : 0 ≤ n) (hc : 1 ≤ c) (hc2 : c ≤ 1000) (h : ListP d) (q : Q (.dat (.bl true)) [.un, .un, .un]) : (F__law_playsright [.dat (.int n), .dat (.int c), .dat d]).W Q E := by
  obtain ⟨ms, rfl, hl, hm⟩ := h
  have hmb : ∀ m ∈ ms, MvB m := fun m h => (hm m h).plain
  obtain ⟨s, hs⟩ := repr_ok hm (by omega)
  rw [F__law_playsright_eq]
  refine w_def (δ := [.dat (.int n), .dat (.int c), .dat (.lst ms), .un, .un, .un, .un]) rfl rfl ?_
  unfold d__law_playsright
  have pl := fun (Q : Rv → List Sl → Prop) (E : Nat → List (Str × D) → List Sl → Prop) q => play_ok (Q := Q) (E := E) (ms := ms) hn hc hc2 (by omega) hmb q
  have s1 := said_ok (x := .lst ms) (.inl rfl) hn hc hl hmb
  have s2 := said_ok (x := .tup ms) (.inr rfl) hn hc hl hmb
  generalize playL n c ms 0 (h0 c) n 0 = R at *
  refine w_cut (fun δ => δ = [.dat (.int n), .dat (.int c), .dat (.lst ms), .un, .un, .dat (.bl R.1), .dat (.int R.2)]) ?_ ?_
  · refine w_asg ?_
    (repeat' (first | ((with_reducible show Cr.W _ _ _); refine pl _ _ ?_) | walk_at "vn" | fail))
    first | exact rfl | exact ⟨rfl, rfl⟩ | exact ⟨_, ttup2 rfl no_un rfl no_un, rfl, rfl⟩
  rintro _ rfl
  have pd : plainB 8 (dueD R) = true := by
    unfold dueD
    split <;> rfl
  refine w_cut (fun δ => δ = [.dat (.int n), .dat (.int c), .dat (.lst ms), .dat (.tup [.bl R.1, .int R.2]), .un, .dat (.bl R.1), .dat (.int R.2)]) ?_ ?_
  · (repeat' (first | walk_at "vn" | fail))
    first | exact rfl | exact ⟨rfl, rfl⟩
  rintro _ rfl
  refine w_cut (fun δ => δ = [.dat (.int n), .dat (.int c), .dat (.lst ms), .dat (dueD R), .un, .dat (.bl R.1), .dat (.int R.2)]) ?_ ?_
  · obtain ⟨b, u⟩ := R
    cases b with
    | true =>
      (repeat' (first | walk_at "vn" | fail))
      first | exact rfl | exact ⟨rfl, rfl⟩
    | false =>
      (repeat' (first | walk_at "vn" | fail))
      first | exact rfl | exact ⟨rfl, rfl⟩
  rintro _ rfl
  generalize dueD R = du at *
  have same := fun (Q : Rv → List Sl → Prop) (E : Nat → List (Str × D) → List Sl → Prop) q => same_okC (Q := Q) (E := E) 8 du pd q
  generalize F__law_sameC 8 = G8 at *
  (repeat' (first | (refine op1_any hs ?_) | ((with_reducible show Cr.W _ _ _); refine Cr.W.of s1 ?_) | ((with_reducible show Cr.W _ _ _); refine Cr.W.of s2 ?_) | ((with_reducible show Cr.W _ _ _); refine same _ _ ?_) | (refine tuple_l ?_) | walk_at "vn" | fail))
  rw [decide_eq_true rfl]
  exact q
end
end L
end

section
set_option Elab.async false
set_option linter.all false
set_option maxRecDepth 100000
set_option maxHeartbeats 4000000
set_option exponentiation.threshold 4000
namespace L
open PySem PySem.Spec PyProof.Rows L2 VS

section
variable {Q : Rv → List Sl → Prop} {E : Nat → List (Str × D) → List Sl → Prop}
theorem plain_mv {C : Nat} {m : D} (h : mvN C m) : plainB 7 m = true := by
  rcases h with ⟨x, y, _, _, rfl⟩ | ⟨x, _, rfl⟩ <;> rfl
theorem listP_of {C : Nat} {ms : List D} (hC : C ≤ 120) (hl : ms.length ≤ 50000) (h : ∀ m ∈ ms, mvN C m) : ListP (.lst ms) := ⟨ms, rfl, hl, fun m hm => mvs_of hC (h m hm)⟩
theorem listright_ok {o : O} {L c : Nat} (g : Good o) (hL : L ≤ 120) (hc : c < 120) (q : ∀ o', Good o' → Q (.dat (.bl true)) [.own true o', .un, .un]) : (F__law_listright [.own true o, .dat (.int L), .dat (.int (c + 1 : Nat))]).W Q E := by
  rw [F__law_listright_eq]
  refine w_def (δ := [.own true o, .dat (.int L), .dat (.int (c + 1 : Nat)), .un, .un]) rfl rfl ?_
  unfold d__law_listright
  have lo := fun (Q : Rv → List Sl → Prop) (E : Nat → List (Str × D) → List Sl → Prop) q => listof_ok (Q := Q) (E := E) (L := L) (c := c) hL hc q
  have mo := fun (Q : Rv → List Sl → Prop) (E : Nat → List (Str × D) → List Sl → Prop) q => move_ok (Q := Q) (E := E) (L := L) (c := c) hL (by omega) q
  have pa := play_all (n := L) (c := c)
  have mlen := Ml_len L c L 0 1 (Nat.le_refl L)
  have mb : L * (L + 3) ≤ 120 * 123 := Nat.mul_le_mul hL (by omega)
  have mm := Ml_mv (C := c + 1) L c L 0 1 (Nat.le_refl L) (by omega) (by omega)
  generalize Ml c L 0 1 = T at *
  have mmS : ∀ m ∈ T, MvS m := fun m h => mvs_of (by omega) (mm m h)
  have mp : ∀ m ∈ T, plainB 7 m = true := fun m h => plain_mv (mm m h)
  have sd := said_ok (x := .lst T) (ms := T) (n := L) (c := ((c + 1 : Nat) : Int)) (.inl rfl) (by omega) (by omega) (by omega) (fun m h => (mmS m h).plain)
  rw [pa] at sd
  have sd : F__law_said [.dat (.int L), .dat (.int (c + 1 : Nat)), .dat (.lst T)] = .ret (.dat (.tup [.bl true, .int (Lst (c + 1) L : Nat)])) [.un, .un, .un] := sd
  have pT : plainB 8 (.lst T) = true := by
    show (decide (T.length ≤ 100000) && T.all (plainB 7)) = true
    rw [decide_eq_true (by omega), Bool.true_and]
    exact List.all_eq_true.mpr mp
  have so := fun (Q : Rv → List Sl → Prop) (E : Nat → List (Str × D) → List Sl → Prop) q => same_own (Q := Q) (E := E) (xs := T) (by omega) (fun y hy => plain8 (mp y hy)) q
  have sT := fun (Q : Rv → List Sl → Prop) (E : Nat → List (Str × D) → List Sl → Prop) q => same_okC (Q := Q) (E := E) 8 (.lst T) pT q
  have su := fun (Q : Rv → List Sl → Prop) (E : Nat → List (Str × D) → List Sl → Prop) q => same_okC (Q := Q) (E := E) 8 (.tup [.bl true, .int (Lst (c + 1) L : Nat)]) rfl q
  generalize F__law_sameC 8 = G8 at *
  generalize F__law_sameS0 = GS at *
  (repeat' (first | ((with_reducible show Cr.W _ _ _); refine lo _ _ ?_) | ((with_reducible show Cr.W _ _ _); refine mo _ _ ?_) | ((with_reducible show Cr.W _ _ _); refine so _ _ ?_) | ((with_reducible show Cr.W _ _ _); refine sT _ _ ?_) | ((with_reducible show Cr.W _ _ _); refine su _ _ ?_) | ((with_reducible show Cr.W _ _ _); refine Cr.W.of sd ?_) | ((with_reducible show Cr.W _ _ _); refine leastups_ok (by omega) (by omega) ?_) | (refine app_mk rfl (by omega) ?_) | ((with_reducible show Cr.W _ _ _); refine bent_ok g (by omega) (by omega) mmS (fun ms' o' g' hl' hm' => ?_)) | ((with_reducible show Cr.W _ _ _); refine rights_ok (by omega) (by omega) (by omega) ⟨_, rfl, by omega, by assumption⟩ ?_) | walk_at "vn" | fail))
  exact q _ (by assumption)
end
theorem plain_badc {d : D} (h : plainB 5 d = true) : plainB 7 (badc d) = true := by
  show (decide (2 ≤ 100000) && (true && ((decide (2 ≤ 100000) && (true && (plainB 5 d && true))) && true))) = true
  rw [h]
  rfl
theorem law_true (ns : List Int) (hlen : ns.length ≤ 63) : ∃ os, F_law [.dat (.rol (ns.map D.int))] = .ret (.dat (.bl true)) os := by
  refine Cr.ex ?_
  have hb : 1000000 < big := by decide
  rw [F_law_eq]
  generalize hS : Sl.dat (.rol (ns.map D.int)) = S
  refine w_def (δ := [S, .un, .un, .un, .un, .un, .un, .un, .un, .un, .un, .un, .un, .un]) rfl rfl ?_
  unfold d_law
  refine w_cut (fun δ => ∃ o, δ = [S, .own false o, .un, .un, .un, .un, .un, .un, .un, .un, .un, .un, .un, .un] ∧ Good o) ?_ ?_
  · subst hS
    (repeat' (first | ((with_reducible show Cr.W _ _ _); refine store_ok ns (fun o g => ?_)) | walk_at "vn" | fail))
    exact ⟨rfl, o, rfl, g⟩
  rintro _ ⟨o, rfl, g⟩
  refine w_cut (fun δ => ∃ (o : O) (n : Nat), δ = [S, .own false o, .dat (.int n), .un, .un, .un, .un, .un, .un, .un, .un, .un, .un, .un] ∧ Good o ∧ n ≤ 120) ?_ ?_
  · refine w_asg ?_
    (repeat' (first | ((with_reducible show Cr.W _ _ _); refine length_ok g (fun m o' g' h1 h2 => ?_)) | walk_at "vn" | fail))
    (repeat' (first | ((with_reducible show Cr.W _ _ _); refine odds_ok (by assumption) (by decide) (fun b o' g' => ?_)) | walk_at "vn" | fail))
    cases b with
    | true =>
      (repeat' (first | walk_at "vn" | fail))
      refine ⟨rfl, o', m - 1, ?_, g', by omega⟩
      rw [show ((m - 1 : Nat) : Int) = (m : Int) - 1 by omega]
      rfl
    | false =>
      (repeat' (first | walk_at "vn" | fail))
      refine ⟨rfl, o', m, ?_, g', by omega⟩
      simp only [Bool.false_eq_true, if_false, Int.sub_zero]
      rfl
  rintro _ ⟨o, n, rfl, g, hn⟩
  refine w_cut (fun δ => ∃ (o : O) (c : Nat), δ = [S, .own false o, .dat (.int n), .dat (.int (c + 1 : Nat)), .un, .un, .un, .un, .un, .un, .un, .un, .un, .un] ∧ Good o ∧ c < 120) ?_ ?_
  · (repeat' (first | ((with_reducible show Cr.W _ _ _); refine cellcount_ok g (fun c o' g' hc => ?_)) | walk_at "vn" | fail))
    exact ⟨rfl, _, _, rfl, g', hc⟩
  rintro _ ⟨o, c, rfl, g, hc⟩
  refine w_cut (fun δ => ∃ (o : O), δ = [S, .own false o, .dat (.int n), .dat (.int (c + 1 : Nat)), .un, .un, .un, .un, .un, .un, .un, .un, .un, .un] ∧ Good o) ?_ ?_
  · (repeat' (first | ((with_reducible show Cr.W _ _ _); refine listright_ok g hn hc (fun o' g' => ?_)) | walk_at "vn" | fail))
    exact ⟨rfl, _, rfl, g'⟩
  rintro _ ⟨o, rfl, g⟩
  refine w_cut (fun δ => ∃ (z : Nat), δ = [S, .own false o, .dat (.int n), .dat (.int (c + 1 : Nat)), .dat (.int z), .un, .un, .un, .un, .un, .un, .un, .un, .un] ∧ z ≤ 40) ?_ ?_
  · (repeat' (first | walk_at "vn" | fail))
    rename_i r hr
    obtain ⟨z, rfl⟩ : ∃ z : Nat, r = z := ⟨r.toNat, by omega⟩
    exact ⟨rfl, z, rfl, by omega⟩
  rintro _ ⟨z, rfl, hz⟩
  have zb : z * (z + 3) ≤ 40 * 43 := Nat.mul_le_mul hz (by omega)
  refine w_cut (fun δ => ∃ (o : O) (r : List D), δ = [S, .own false o, .dat (.int n), .dat (.int (c + 1 : Nat)), .dat (.int z), .dat (.lst r), .un, .un, .un, .un, .un, .un, .un, .un] ∧ Good o ∧ r.length ≤ 860 ∧ ∀ m ∈ r, MvS m) ?_ ?_
  · (repeat' (first | ((with_reducible show Cr.W _ _ _); refine moves_ok (C := c + 1) (by omega) 44 z 0 1 _ (by omega) (by omega) g (by omega) (by omega) (fun ms o' g' hl hm => ?_)) | walk_at "vn" | fail))
    exact ⟨rfl, _, _, rfl, g', by omega, fun m h => mvs_of (by omega) (hm m h)⟩
  rintro _ ⟨o, r, rfl, g, hrl, hrm⟩
  refine w_cut (fun δ => ∃ (o : O) (b : List D), δ = [S, .own false o, .dat (.int n), .dat (.int (c + 1 : Nat)), .dat (.int z), .dat (.lst r), .dat (.lst b), .un, .un, .un, .un, .un, .un, .un] ∧ Good o ∧ b.length ≤ 3441 ∧ ∀ m ∈ b, MvS m) ?_ ?_
  · (repeat' (first | ((with_reducible show Cr.W _ _ _); refine bent_ok g (by omega) (by omega) hrm (fun ms' o' g' hl' hm' => ?_)) | walk_at "vn" | fail))
    exact ⟨rfl, _, _, rfl, g', by omega, hm'⟩
  rintro _ ⟨o, b, rfl, g, hbl, hbm⟩
  have nilP : ListP (.lst []) := ⟨[], rfl, by simp, fun m h => nomatch h⟩
  have subP : ∀ x y, ListP (.lst (cut r x y)) := fun x y => ⟨_, rfl, by have := (cut_sub r x y).length_le; omega, fun m h => hrm m ((cut_sub r x y).subset h)⟩
  have appP : ∀ m, MvS m → ListP (.lst (r ++ [m])) := fun m hm => ⟨_, rfl, by simp; omega, List.forall_mem_append.mpr ⟨hrm, fun x hx => by rw [List.mem_singleton.mp hx]; exact hm⟩⟩
  refine w_cut (fun δ => ∃ (o : O) (ls : List D), δ = [S, .own false o, .dat (.int n), .dat (.int (c + 1 : Nat)), .dat (.int z), .dat (.lst r), .dat (.lst b), .dat (.lst ls), .un, .un, .un, .un, .un, .un] ∧ Good o ∧ ls.length ≤ 10 ∧ ∀ m ∈ ls, ListP m) ?_ ?_
  · (repeat' (first | ((with_reducible show Cr.W _ _ _); refine bent_ok (by assumption) (by omega) (by omega) (by assumption) (fun _ _ _ _ _ => ?_)) | walk_at "vn" | fail))
    rename_i b2 o2 g2 hl2 hm2 b3 o3 g3 hl3 hm3
    refine ⟨rfl, _, _, rfl, g3, by simp, ?_⟩
    simp only [List.forall_mem_cons]
    exact ⟨⟨r, rfl, by omega, hrm⟩, ⟨b, rfl, by omega, hbm⟩, ⟨b2, rfl, by omega, hm2⟩, ⟨b3, rfl, by omega, hm3⟩, subP _ _, nilP, fun x h => nomatch h⟩
  rintro _ ⟨o, ls, rfl, g, hll, hlm⟩
  refine w_cut (fun δ => ∃ (o : O) (ls : List D), δ = [S, .own false o, .dat (.int n), .dat (.int (c + 1 : Nat)), .dat (.int z), .dat (.lst r), .dat (.lst b), .dat (.lst ls), .un, .un, .un, .un, .un, .un] ∧ Good o ∧ ls.length ≤ 20 ∧ ∀ m ∈ ls, ListP m) ?_ ?_
  · (repeat' (first | ((with_reducible show Cr.W _ _ _); refine take_ok (by assumption) (by omega) (fun _ _ _ _ _ => ?_)) | (refine op_catN (by simp; omega) ?_) | walk_at "vn" | fail))
    refine ⟨rfl, _, _, rfl, by assumption, by simp; omega, List.forall_mem_append.mpr ⟨hlm, ?_⟩⟩
    simp only [List.forall_mem_cons]
    exact ⟨appP _ (mvs_rd (by omega) (by omega)), appP _ (mvs_up (by omega) (by omega) (by omega) (by omega)), subP _ _, fun x h => nomatch h⟩
  clear hll hlm ls
  rintro _ ⟨o, ls, rfl, g, hll, hlm⟩
  refine w_cut (fun δ => ∃ s, δ = [S, .own false o, .dat (.int n), .dat (.int (c + 1 : Nat)), .dat (.int z), .dat (.lst r), .dat (.lst b), .dat (.lst ls), s, .un, .un, .un, .un, .un] ∧ Pl s) ?_ ?_
  · refine w_for ?_
    (repeat' (first | walk_at "vn" | fail))
    refine w_loopP ListP (fun δ => ∃ s, δ = [S, .own false o, .dat (.int n), .dat (.int (c + 1 : Nat)), .dat (.int z), .dat (.lst r), .dat (.lst b), .dat (.lst ls), s, .un, .un, .un, .un, .un] ∧ Pl s) ls _ hlm ⟨_, rfl, pl_un⟩ ?_ ?_
    · rintro _ ⟨s, rfl, hs⟩
      exact ⟨rfl, s, rfl, hs⟩
    · rintro d _ hd ⟨s, rfl, hs⟩
      refine ⟨_, tset rfl hs.no, ?_⟩
      (repeat' (first | ((with_reducible show Cr.W _ _ _); refine rights_ok (by omega) (by omega) (by omega) hd ?_) | walk_at "vn" | fail))
      exact pl_dat
  rintro _ ⟨s, rfl, hs⟩
  have m1 : MvS (.tup [.str (Str.ofString "up"), .int 0, .int 1]) := mvs_up (by omega) (by omega) (by omega) (by omega)
  have m2 : MvS (.tup [.str (Str.ofString "read"), .int 1]) := mvs_rd (by omega) (by omega)
  have two : ∀ a b, MvS a → MvS b → ListP (.lst [a, b]) := fun a b ha hb => ⟨_, rfl, by simp, by
    simp only [List.forall_mem_cons]
    exact ⟨ha, hb, fun x h => nomatch h⟩⟩
  have bareP := two _ _ m1 m2
  refine w_cut (fun δ => δ = [S, .own false o, .dat (.int n), .dat (.int (c + 1 : Nat)), .dat (.int z), .dat (.lst r), .dat (.lst b), .dat (.lst ls), s, .dat (.lst [.tup [.str (Str.ofString "up"), .int 0, .int 1], .tup [.str (Str.ofString "read"), .int 1]]), .un, .un, .un, .un]) ?_ ?_
  · (repeat' (first | walk_at "vn" | fail))
    exact ⟨rfl, rfl⟩
  rintro _ rfl
  generalize hbare : D.lst [.tup [.str (Str.ofString "up"), .int 0, .int 1], .tup [.str (Str.ofString "read"), .int 1]] = bare at *
  refine w_cut (fun δ => δ = [S, .own false o, .dat (.int n), .dat (.int (c + 1 : Nat)), .dat (.int z), .dat (.lst r), .dat (.lst b), .dat (.lst ls), s, .dat bare, .un, .un, .un, .un]) ?_ ?_
  · (repeat' (first | ((with_reducible show Cr.W _ _ _); refine rights_ok (by omega) (by omega) (by omega) nilP ?_) | ((with_reducible show Cr.W _ _ _); refine rights_ok (by omega) (by omega) (by omega) bareP ?_) | walk_at "vn" | fail))
    exact ⟨rfl, rfl⟩
  rintro _ rfl
  refine w_cut (fun δ => ∃ near : List D, δ = [S, .own false o, .dat (.int n), .dat (.int (c + 1 : Nat)), .dat (.int z), .dat (.lst r), .dat (.lst b), .dat (.lst ls), s, .dat bare, .dat (.lst near), .un, .un, .un] ∧ near.length ≤ 3 ∧ ∀ m ∈ near, ListP m) ?_ ?_
  · (repeat' (first | walk_at "vn" | fail))
    refine ⟨rfl, _, rfl, by simp, ?_⟩
    simp only [List.forall_mem_cons]
    refine ⟨two _ _ ?_ m2, two _ _ ?_ m2, two _ _ m1 ?_, fun x h => nomatch h⟩
    all_goals exact mvs_g (by show _ ≤ 10; decide) rfl (by decide +kernel)
  rintro _ ⟨near, rfl, hnl, hnm⟩
  refine w_cut (fun δ => ∃ s, δ = [S, .own false o, .dat (.int n), .dat (.int (c + 1 : Nat)), .dat (.int z), .dat (.lst r), .dat (.lst b), .dat (.lst ls), s, .dat bare, .dat (.lst near), .un, .un, .un] ∧ Pl s) ?_ ?_
  · refine w_for ?_
    (repeat' (first | (refine op_catN (by simp; omega) ?_) | walk_at "vn" | fail))
    refine w_loopP ListP (fun δ => ∃ s, δ = [S, .own false o, .dat (.int n), .dat (.int (c + 1 : Nat)), .dat (.int z), .dat (.lst r), .dat (.lst b), .dat (.lst ls), s, .dat bare, .dat (.lst near), .un, .un, .un] ∧ Pl s) _ _ (List.forall_mem_append.mpr ⟨hnm, fun x hx => by rw [List.mem_singleton.mp hx]; exact bareP⟩) ⟨_, rfl, hs⟩ ?_ ?_
    · rintro _ ⟨s, rfl, hs⟩
      exact ⟨rfl, s, rfl, hs⟩
    · rintro d _ hd ⟨s, rfl, hs⟩
      refine ⟨_, tset rfl hs.no, ?_⟩
      (repeat' (first | ((with_reducible show Cr.W _ _ _); refine rights_ok (by omega) (by omega) (by omega) hd ?_) | walk_at "vn" | fail))
      exact pl_dat
  clear hs s
  rintro _ ⟨s, rfl, hs⟩
  refine w_cut (fun δ => ∃ (o : O) (d : D), δ = [S, .own false o, .dat (.int n), .dat (.int (c + 1 : Nat)), .dat (.int z), .dat (.lst r), .dat (.lst b), .dat (.lst ls), s, .dat bare, .dat (.lst near), .dat d, .un, .un] ∧ bcB d = true) ?_ ?_
  · (repeat' (first | ((with_reducible show Cr.W _ _ _); refine badcells_ok g (fun d o' g' hd => ?_)) | walk_at "vn" | fail))
    exact ⟨rfl, _, _, rfl, hd⟩
  rintro _ ⟨o, d, rfl, hd⟩
  obtain ⟨gd, pd⟩ := bc_of hd
  have n1 := said_no (x := .lst b) (n := z) (.inr ⟨_, rfl⟩) gd
  have n2 := said_no (x := .non) (n := n) (.inl rfl) gd
  have n3 := said_no (x := .lst r) (n := z) (.inr ⟨_, rfl⟩) gd
  have pb : plainB 8 (.lst [badc d, badc d, badc d]) = true := by
    show (decide (3 ≤ 100000) && (plainB 7 (badc d) && (plainB 7 (badc d) && (plainB 7 (badc d) && true)))) = true
    rw [plain_badc pd]
    rfl
  have sm := fun (Q : Rv → List Sl → Prop) (E : Nat → List (Str × D) → List Sl → Prop) q => same_okC (Q := Q) (E := E) 8 _ pb q
  generalize F__law_sameC 8 = G8 at *
  (repeat' (first | ((with_reducible show Cr.W _ _ _); refine Cr.W.of n1 ?_) | ((with_reducible show Cr.W _ _ _); refine Cr.W.of n2 ?_) | ((with_reducible show Cr.W _ _ _); refine Cr.W.of n3 ?_) | walk_at "vn" | fail))
  refine w_lcMap (fun _ => badc d) _ _ (fun x hx => ?_) ?_
  · obtain ⟨i, rfl, _, _⟩ := upto_mem _ _ _ hx
    refine ⟨_, rfl, ?_⟩
    (repeat' (first | walk_at "vn" | fail))
    try exact ⟨rfl, rfl⟩
  · rw [show (upto 0 (3 : Int).toNat).map (fun _ => badc d) = [badc d, badc d, badc d] from by
      rw [show (3 : Int).toNat = 0 + 1 + 1 + 1 from rfl, upto_cons, upto_cons, upto_cons, upto_nil]
      rfl]
    refine ⟨rfl, ?_⟩
    (repeat' (first | ((with_reducible show Cr.W _ _ _); refine sm _ _ ?_) | walk_at "vn" | fail))
    try exact rfl
end L
end

end
section
set_option Elab.async false
set_option linter.all false
set_option maxRecDepth 100000
set_option maxHeartbeats 8000000
namespace L
open PySem PySem.Spec PyProof.Rows L2 VS
theorem all_mk {l : PySem.W.OpenLaw} {w : World} {K : PySem.W.Frag} {h : Heap} {mg : Str → Option Value} {fa : Addr} (X : K.In h) (G : h.Ns mainGlobals mg) (hfa : mg "law" = some (.ref fa))
    {f_whole_between : Addr} {od_whole_between an_whole_between : Option Addr} {sl_whole_between : Array (Option Value)} {oc_whole_between kV_whole_between dc_whole_between pm_whole_between cd_whole_between ct_whole_between : Value}
    {f_need_cells : Addr} {od_need_cells an_need_cells : Option Addr} {sl_need_cells : Array (Option Value)} {oc_need_cells kV_need_cells dc_need_cells pm_need_cells cd_need_cells ct_need_cells : Value}
    {f_round_bounds : Addr} {od_round_bounds an_round_bounds : Option Addr} {sl_round_bounds : Array (Option Value)} {oc_round_bounds kV_round_bounds dc_round_bounds pm_round_bounds cd_round_bounds ct_round_bounds : Value}
    {f_steps_row : Addr} {od_steps_row an_steps_row : Option Addr} {sl_steps_row : Array (Option Value)} {oc_steps_row kV_steps_row dc_steps_row pm_steps_row cd_steps_row ct_steps_row : Value}
    {f_least_stop : Addr} {od_least_stop an_least_stop : Option Addr} {sl_least_stop : Array (Option Value)} {oc_least_stop kV_least_stop dc_least_stop pm_least_stop cd_least_stop ct_least_stop : Value}
    {f_move_list : Addr} {od_move_list an_move_list : Option Addr} {sl_move_list : Array (Option Value)} {oc_move_list kV_move_list dc_move_list pm_move_list cd_move_list ct_move_list : Value}
    {f_is_up : Addr} {od_is_up an_is_up : Option Addr} {sl_is_up : Array (Option Value)} {oc_is_up kV_is_up dc_is_up pm_is_up cd_is_up ct_is_up : Value}
    {f_is_read : Addr} {od_is_read an_is_read : Option Addr} {sl_is_read : Array (Option Value)} {oc_is_read kV_is_read dc_is_read pm_is_read cd_is_read ct_is_read : Value}
    {f_check_moves : Addr} {od_check_moves an_check_moves : Option Addr} {sl_check_moves : Array (Option Value)} {oc_check_moves kV_check_moves dc_check_moves pm_check_moves cd_check_moves ct_check_moves : Value}
    {f__law_store : Addr} {od__law_store an__law_store : Option Addr} {sl__law_store : Array (Option Value)} {oc__law_store kV__law_store dc__law_store pm__law_store cd__law_store ct__law_store : Value}
    {f__law_mix : Addr} {od__law_mix an__law_mix : Option Addr} {sl__law_mix : Array (Option Value)} {oc__law_mix kV__law_mix dc__law_mix pm__law_mix cd__law_mix ct__law_mix : Value}
    {f__law_take : Addr} {od__law_take an__law_take : Option Addr} {sl__law_take : Array (Option Value)} {oc__law_take kV__law_take dc__law_take pm__law_take cd__law_take ct__law_take : Value}
    {f__law_edge : Addr} {od__law_edge an__law_edge : Option Addr} {sl__law_edge : Array (Option Value)} {oc__law_edge kV__law_edge dc__law_edge pm__law_edge cd__law_edge ct__law_edge : Value}
    {f__law_odds : Addr} {od__law_odds an__law_odds : Option Addr} {sl__law_odds : Array (Option Value)} {oc__law_odds kV__law_odds dc__law_odds pm__law_odds cd__law_odds ct__law_odds : Value}
    {f__law_pick : Addr} {od__law_pick an__law_pick : Option Addr} {sl__law_pick : Array (Option Value)} {oc__law_pick kV__law_pick dc__law_pick pm__law_pick cd__law_pick ct__law_pick : Value}
    {f__law_length : Addr} {od__law_length an__law_length : Option Addr} {sl__law_length : Array (Option Value)} {oc__law_length kV__law_length dc__law_length pm__law_length cd__law_length ct__law_length : Value}
    {f__law_cellcount : Addr} {od__law_cellcount an__law_cellcount : Option Addr} {sl__law_cellcount : Array (Option Value)} {oc__law_cellcount kV__law_cellcount dc__law_cellcount pm__law_cellcount cd__law_cellcount ct__law_cellcount : Value}
    {f__law_badcells : Addr} {od__law_badcells an__law_badcells : Option Addr} {sl__law_badcells : Array (Option Value)} {oc__law_badcells kV__law_badcells dc__law_badcells pm__law_badcells cd__law_badcells ct__law_badcells : Value}
    {f__law_moves : Addr} {od__law_moves an__law_moves : Option Addr} {sl__law_moves : Array (Option Value)} {oc__law_moves kV__law_moves dc__law_moves pm__law_moves cd__law_moves ct__law_moves : Value}
    {f__law_isint : Addr} {od__law_isint an__law_isint : Option Addr} {sl__law_isint : Array (Option Value)} {oc__law_isint kV__law_isint dc__law_isint pm__law_isint cd__law_isint ct__law_isint : Value}
    {f__law_moveshape : Addr} {od__law_moveshape an__law_moveshape : Option Addr} {sl__law_moveshape : Array (Option Value)} {oc__law_moveshape kV__law_moveshape dc__law_moveshape pm__law_moveshape cd__law_moveshape ct__law_moveshape : Value}
    {f__law_play : Addr} {od__law_play an__law_play : Option Addr} {sl__law_play : Array (Option Value)} {oc__law_play kV__law_play dc__law_play pm__law_play cd__law_play ct__law_play : Value}
    {f__law_leastups : Addr} {od__law_leastups an__law_leastups : Option Addr} {sl__law_leastups : Array (Option Value)} {oc__law_leastups kV__law_leastups dc__law_leastups pm__law_leastups cd__law_leastups ct__law_leastups : Value}
    {f__law_same : Addr} {od__law_same an__law_same : Option Addr} {sl__law_same : Array (Option Value)} {oc__law_same kV__law_same dc__law_same pm__law_same cd__law_same ct__law_same : Value}
    {f__law_movesbent : Addr} {od__law_movesbent an__law_movesbent : Option Addr} {sl__law_movesbent : Array (Option Value)} {oc__law_movesbent kV__law_movesbent dc__law_movesbent pm__law_movesbent cd__law_movesbent ct__law_movesbent : Value}
    {f__law_kinds : Addr} {od__law_kinds an__law_kinds : Option Addr} {sl__law_kinds : Array (Option Value)} {oc__law_kinds kV__law_kinds dc__law_kinds pm__law_kinds cd__law_kinds ct__law_kinds : Value}
    {f__law_clean : Addr} {od__law_clean an__law_clean : Option Addr} {sl__law_clean : Array (Option Value)} {oc__law_clean kV__law_clean dc__law_clean pm__law_clean cd__law_clean ct__law_clean : Value}
    {f__law_leasttable : Addr} {od__law_leasttable an__law_leasttable : Option Addr} {sl__law_leasttable : Array (Option Value)} {oc__law_leasttable kV__law_leasttable dc__law_leasttable pm__law_leasttable cd__law_leasttable ct__law_leasttable : Value}
    {f__law_stopof : Addr} {od__law_stopof an__law_stopof : Option Addr} {sl__law_stopof : Array (Option Value)} {oc__law_stopof kV__law_stopof dc__law_stopof pm__law_stopof cd__law_stopof ct__law_stopof : Value}
    {f__law_listof : Addr} {od__law_listof an__law_listof : Option Addr} {sl__law_listof : Array (Option Value)} {oc__law_listof kV__law_listof dc__law_listof pm__law_listof cd__law_listof ct__law_listof : Value}
    {f__law_refusal : Addr} {od__law_refusal an__law_refusal : Option Addr} {sl__law_refusal : Array (Option Value)} {oc__law_refusal kV__law_refusal dc__law_refusal pm__law_refusal cd__law_refusal ct__law_refusal : Value}
    {f__law_said : Addr} {od__law_said an__law_said : Option Addr} {sl__law_said : Array (Option Value)} {oc__law_said kV__law_said dc__law_said pm__law_said cd__law_said ct__law_said : Value}
    {f__law_playsright : Addr} {od__law_playsright an__law_playsright : Option Addr} {sl__law_playsright : Array (Option Value)} {oc__law_playsright kV__law_playsright dc__law_playsright pm__law_playsright cd__law_playsright ct__law_playsright : Value}
    {f__law_listright : Addr} {od__law_listright an__law_listright : Option Addr} {sl__law_listright : Array (Option Value)} {oc__law_listright kV__law_listright dc__law_listright pm__law_listright cd__law_listright ct__law_listright : Value}
    {f_law : Addr} {od_law an_law : Option Addr} {sl_law : Array (Option Value)} {oc_law kV_law dc_law pm_law cd_law ct_law : Value}
    {C_VaultError : Addr}
    {C_NumberError : Addr}
    {C_TextError : Addr}
    {C_ShapeError : Addr}
    {C_PlanError : Addr}
    {C_CourseError : Addr}
    {C_KnowError : Addr}
    {C_PaperError : Addr}
    {C_TooMany : Addr}
    {C_BadPrime : Addr}
    {C_NoInverse : Addr}
    {C_NoNumber : Addr}
    {C_BadTable : Addr}
    {C_BadCells : Addr}
    {C_BadStep : Addr}
    {C_BadBlind : Addr}
    {C_BadMove : Addr}
    {C_NotShut : Addr}
    {C_NotOpen : Addr}
    {C_NotTheft : Addr}
    {C_NotPrice : Addr}
    {nm_BadCells q_BadCells : Str} {N_BadCells : Addr} {bs_BadCells bm_BadCells sub_BadCells : List Value} {sn_BadCells : List Str} {ab_BadCells : Bool} {col_BadCells : Option Bool} {dd_BadCells : Option Addr} {m0_BadCells m1_BadCells m2_BadCells m3_BadCells m5_BadCells : Option Value}
    {fI_BadCells : Addr} {odI_BadCells anI_BadCells : Option Addr} {slI_BadCells : Array (Option Value)} {ocI_BadCells kVI_BadCells dcI_BadCells pmI_BadCells cdI_BadCells ctI_BadCells : Value}
    {nm_BadMove q_BadMove : Str} {N_BadMove : Addr} {bs_BadMove bm_BadMove sub_BadMove : List Value} {sn_BadMove : List Str} {ab_BadMove : Bool} {col_BadMove : Option Bool} {dd_BadMove : Option Addr} {m0_BadMove m1_BadMove m2_BadMove m3_BadMove m5_BadMove : Option Value}
    {fI_BadMove : Addr} {odI_BadMove anI_BadMove : Option Addr} {slI_BadMove : Array (Option Value)} {ocI_BadMove kVI_BadMove dcI_BadMove pmI_BadMove cdI_BadMove ctI_BadMove : Value}
    (a_whole_between : PySem.W.nsIn K mainGlobals "whole_between" = some (some (.ref f_whole_between)))
    (l_whole_between : K.lookup f_whole_between = some ⟨oc_whole_between, od_whole_between, .func (PySem.W.fnOf "whole_between" "whole_between" (defArgs s_whole_between) (defBody s_whole_between) (defScope s_whole_between) .none kV_whole_between dc_whole_between pm_whole_between an_whole_between cd_whole_between ct_whole_between), sl_whole_between⟩)
    (c_whole_between : PySem.W.codeIn K cd_whole_between "whole_between" = true)
    (k_whole_between : PySem.W.keepIn K (.ref f_whole_between) = true)
    (a_need_cells : PySem.W.nsIn K mainGlobals "need_cells" = some (some (.ref f_need_cells)))
    (l_need_cells : K.lookup f_need_cells = some ⟨oc_need_cells, od_need_cells, .func (PySem.W.fnOf "need_cells" "need_cells" (defArgs s_need_cells) (defBody s_need_cells) (defScope s_need_cells) .none kV_need_cells dc_need_cells pm_need_cells an_need_cells cd_need_cells ct_need_cells), sl_need_cells⟩)
    (c_need_cells : PySem.W.codeIn K cd_need_cells "need_cells" = true)
    (k_need_cells : PySem.W.keepIn K (.ref f_need_cells) = true)
    (a_round_bounds : PySem.W.nsIn K mainGlobals "round_bounds" = some (some (.ref f_round_bounds)))
    (l_round_bounds : K.lookup f_round_bounds = some ⟨oc_round_bounds, od_round_bounds, .func (PySem.W.fnOf "round_bounds" "round_bounds" (defArgs s_round_bounds) (defBody s_round_bounds) (defScope s_round_bounds) .none kV_round_bounds dc_round_bounds pm_round_bounds an_round_bounds cd_round_bounds ct_round_bounds), sl_round_bounds⟩)
    (c_round_bounds : PySem.W.codeIn K cd_round_bounds "round_bounds" = true)
    (k_round_bounds : PySem.W.keepIn K (.ref f_round_bounds) = true)
    (a_steps_row : PySem.W.nsIn K mainGlobals "steps_row" = some (some (.ref f_steps_row)))
    (l_steps_row : K.lookup f_steps_row = some ⟨oc_steps_row, od_steps_row, .func (PySem.W.fnOf "steps_row" "steps_row" (defArgs s_steps_row) (defBody s_steps_row) (defScope s_steps_row) .none kV_steps_row dc_steps_row pm_steps_row an_steps_row cd_steps_row ct_steps_row), sl_steps_row⟩)
    (c_steps_row : PySem.W.codeIn K cd_steps_row "steps_row" = true)
    (k_steps_row : PySem.W.keepIn K (.ref f_steps_row) = true)
    (a_least_stop : PySem.W.nsIn K mainGlobals "least_stop" = some (some (.ref f_least_stop)))
    (l_least_stop : K.lookup f_least_stop = some ⟨oc_least_stop, od_least_stop, .func (PySem.W.fnOf "least_stop" "least_stop" (defArgs s_least_stop) (defBody s_least_stop) (defScope s_least_stop) .none kV_least_stop dc_least_stop pm_least_stop an_least_stop cd_least_stop ct_least_stop), sl_least_stop⟩)
    (c_least_stop : PySem.W.codeIn K cd_least_stop "least_stop" = true)
    (k_least_stop : PySem.W.keepIn K (.ref f_least_stop) = true)
    (a_move_list : PySem.W.nsIn K mainGlobals "move_list" = some (some (.ref f_move_list)))
    (l_move_list : K.lookup f_move_list = some ⟨oc_move_list, od_move_list, .func (PySem.W.fnOf "move_list" "move_list" (defArgs s_move_list) (defBody s_move_list) (defScope s_move_list) .none kV_move_list dc_move_list pm_move_list an_move_list cd_move_list ct_move_list), sl_move_list⟩)
    (c_move_list : PySem.W.codeIn K cd_move_list "move_list" = true)
    (k_move_list : PySem.W.keepIn K (.ref f_move_list) = true)
    (a_is_up : PySem.W.nsIn K mainGlobals "is_up" = some (some (.ref f_is_up)))
    (l_is_up : K.lookup f_is_up = some ⟨oc_is_up, od_is_up, .func (PySem.W.fnOf "is_up" "is_up" (defArgs s_is_up) (defBody s_is_up) (defScope s_is_up) .none kV_is_up dc_is_up pm_is_up an_is_up cd_is_up ct_is_up), sl_is_up⟩)
    (c_is_up : PySem.W.codeIn K cd_is_up "is_up" = true)
    (k_is_up : PySem.W.keepIn K (.ref f_is_up) = true)
    (a_is_read : PySem.W.nsIn K mainGlobals "is_read" = some (some (.ref f_is_read)))
    (l_is_read : K.lookup f_is_read = some ⟨oc_is_read, od_is_read, .func (PySem.W.fnOf "is_read" "is_read" (defArgs s_is_read) (defBody s_is_read) (defScope s_is_read) .none kV_is_read dc_is_read pm_is_read an_is_read cd_is_read ct_is_read), sl_is_read⟩)
    (c_is_read : PySem.W.codeIn K cd_is_read "is_read" = true)
    (k_is_read : PySem.W.keepIn K (.ref f_is_read) = true)
    (a_check_moves : PySem.W.nsIn K mainGlobals "check_moves" = some (some (.ref f_check_moves)))
    (l_check_moves : K.lookup f_check_moves = some ⟨oc_check_moves, od_check_moves, .func (PySem.W.fnOf "check_moves" "check_moves" (defArgs s_check_moves) (defBody s_check_moves) (defScope s_check_moves) .none kV_check_moves dc_check_moves pm_check_moves an_check_moves cd_check_moves ct_check_moves), sl_check_moves⟩)
    (c_check_moves : PySem.W.codeIn K cd_check_moves "check_moves" = true)
    (k_check_moves : PySem.W.keepIn K (.ref f_check_moves) = true)
    (a__law_store : PySem.W.nsIn K mainGlobals "_law_store" = some (some (.ref f__law_store)))
    (l__law_store : K.lookup f__law_store = some ⟨oc__law_store, od__law_store, .func (PySem.W.fnOf "_law_store" "_law_store" (defArgs s__law_store) (defBody s__law_store) (defScope s__law_store) .none kV__law_store dc__law_store pm__law_store an__law_store cd__law_store ct__law_store), sl__law_store⟩)
    (c__law_store : PySem.W.codeIn K cd__law_store "_law_store" = true)
    (k__law_store : PySem.W.keepIn K (.ref f__law_store) = true)
    (a__law_mix : PySem.W.nsIn K mainGlobals "_law_mix" = some (some (.ref f__law_mix)))
    (l__law_mix : K.lookup f__law_mix = some ⟨oc__law_mix, od__law_mix, .func (PySem.W.fnOf "_law_mix" "_law_mix" (defArgs s__law_mix) (defBody s__law_mix) (defScope s__law_mix) .none kV__law_mix dc__law_mix pm__law_mix an__law_mix cd__law_mix ct__law_mix), sl__law_mix⟩)
    (c__law_mix : PySem.W.codeIn K cd__law_mix "_law_mix" = true)
    (k__law_mix : PySem.W.keepIn K (.ref f__law_mix) = true)
    (a__law_take : PySem.W.nsIn K mainGlobals "_law_take" = some (some (.ref f__law_take)))
    (l__law_take : K.lookup f__law_take = some ⟨oc__law_take, od__law_take, .func (PySem.W.fnOf "_law_take" "_law_take" (defArgs s__law_take) (defBody s__law_take) (defScope s__law_take) .none kV__law_take dc__law_take pm__law_take an__law_take cd__law_take ct__law_take), sl__law_take⟩)
    (c__law_take : PySem.W.codeIn K cd__law_take "_law_take" = true)
    (k__law_take : PySem.W.keepIn K (.ref f__law_take) = true)
    (a__law_edge : PySem.W.nsIn K mainGlobals "_law_edge" = some (some (.ref f__law_edge)))
    (l__law_edge : K.lookup f__law_edge = some ⟨oc__law_edge, od__law_edge, .func (PySem.W.fnOf "_law_edge" "_law_edge" (defArgs s__law_edge) (defBody s__law_edge) (defScope s__law_edge) .none kV__law_edge dc__law_edge pm__law_edge an__law_edge cd__law_edge ct__law_edge), sl__law_edge⟩)
    (c__law_edge : PySem.W.codeIn K cd__law_edge "_law_edge" = true)
    (k__law_edge : PySem.W.keepIn K (.ref f__law_edge) = true)
    (a__law_odds : PySem.W.nsIn K mainGlobals "_law_odds" = some (some (.ref f__law_odds)))
    (l__law_odds : K.lookup f__law_odds = some ⟨oc__law_odds, od__law_odds, .func (PySem.W.fnOf "_law_odds" "_law_odds" (defArgs s__law_odds) (defBody s__law_odds) (defScope s__law_odds) .none kV__law_odds dc__law_odds pm__law_odds an__law_odds cd__law_odds ct__law_odds), sl__law_odds⟩)
    (c__law_odds : PySem.W.codeIn K cd__law_odds "_law_odds" = true)
    (k__law_odds : PySem.W.keepIn K (.ref f__law_odds) = true)
    (a__law_pick : PySem.W.nsIn K mainGlobals "_law_pick" = some (some (.ref f__law_pick)))
    (l__law_pick : K.lookup f__law_pick = some ⟨oc__law_pick, od__law_pick, .func (PySem.W.fnOf "_law_pick" "_law_pick" (defArgs s__law_pick) (defBody s__law_pick) (defScope s__law_pick) .none kV__law_pick dc__law_pick pm__law_pick an__law_pick cd__law_pick ct__law_pick), sl__law_pick⟩)
    (c__law_pick : PySem.W.codeIn K cd__law_pick "_law_pick" = true)
    (k__law_pick : PySem.W.keepIn K (.ref f__law_pick) = true)
    (a__law_length : PySem.W.nsIn K mainGlobals "_law_length" = some (some (.ref f__law_length)))
    (l__law_length : K.lookup f__law_length = some ⟨oc__law_length, od__law_length, .func (PySem.W.fnOf "_law_length" "_law_length" (defArgs s__law_length) (defBody s__law_length) (defScope s__law_length) .none kV__law_length dc__law_length pm__law_length an__law_length cd__law_length ct__law_length), sl__law_length⟩)
    (c__law_length : PySem.W.codeIn K cd__law_length "_law_length" = true)
    (k__law_length : PySem.W.keepIn K (.ref f__law_length) = true)
    (a__law_cellcount : PySem.W.nsIn K mainGlobals "_law_cellcount" = some (some (.ref f__law_cellcount)))
    (l__law_cellcount : K.lookup f__law_cellcount = some ⟨oc__law_cellcount, od__law_cellcount, .func (PySem.W.fnOf "_law_cellcount" "_law_cellcount" (defArgs s__law_cellcount) (defBody s__law_cellcount) (defScope s__law_cellcount) .none kV__law_cellcount dc__law_cellcount pm__law_cellcount an__law_cellcount cd__law_cellcount ct__law_cellcount), sl__law_cellcount⟩)
    (c__law_cellcount : PySem.W.codeIn K cd__law_cellcount "_law_cellcount" = true)
    (k__law_cellcount : PySem.W.keepIn K (.ref f__law_cellcount) = true)
    (a__law_badcells : PySem.W.nsIn K mainGlobals "_law_badcells" = some (some (.ref f__law_badcells)))
    (l__law_badcells : K.lookup f__law_badcells = some ⟨oc__law_badcells, od__law_badcells, .func (PySem.W.fnOf "_law_badcells" "_law_badcells" (defArgs s__law_badcells) (defBody s__law_badcells) (defScope s__law_badcells) .none kV__law_badcells dc__law_badcells pm__law_badcells an__law_badcells cd__law_badcells ct__law_badcells), sl__law_badcells⟩)
    (c__law_badcells : PySem.W.codeIn K cd__law_badcells "_law_badcells" = true)
    (k__law_badcells : PySem.W.keepIn K (.ref f__law_badcells) = true)
    (a__law_moves : PySem.W.nsIn K mainGlobals "_law_moves" = some (some (.ref f__law_moves)))
    (l__law_moves : K.lookup f__law_moves = some ⟨oc__law_moves, od__law_moves, .func (PySem.W.fnOf "_law_moves" "_law_moves" (defArgs s__law_moves) (defBody s__law_moves) (defScope s__law_moves) .none kV__law_moves dc__law_moves pm__law_moves an__law_moves cd__law_moves ct__law_moves), sl__law_moves⟩)
    (c__law_moves : PySem.W.codeIn K cd__law_moves "_law_moves" = true)
    (k__law_moves : PySem.W.keepIn K (.ref f__law_moves) = true)
    (a__law_isint : PySem.W.nsIn K mainGlobals "_law_isint" = some (some (.ref f__law_isint)))
    (l__law_isint : K.lookup f__law_isint = some ⟨oc__law_isint, od__law_isint, .func (PySem.W.fnOf "_law_isint" "_law_isint" (defArgs s__law_isint) (defBody s__law_isint) (defScope s__law_isint) .none kV__law_isint dc__law_isint pm__law_isint an__law_isint cd__law_isint ct__law_isint), sl__law_isint⟩)
    (c__law_isint : PySem.W.codeIn K cd__law_isint "_law_isint" = true)
    (k__law_isint : PySem.W.keepIn K (.ref f__law_isint) = true)
    (a__law_moveshape : PySem.W.nsIn K mainGlobals "_law_moveshape" = some (some (.ref f__law_moveshape)))
    (l__law_moveshape : K.lookup f__law_moveshape = some ⟨oc__law_moveshape, od__law_moveshape, .func (PySem.W.fnOf "_law_moveshape" "_law_moveshape" (defArgs s__law_moveshape) (defBody s__law_moveshape) (defScope s__law_moveshape) .none kV__law_moveshape dc__law_moveshape pm__law_moveshape an__law_moveshape cd__law_moveshape ct__law_moveshape), sl__law_moveshape⟩)
    (c__law_moveshape : PySem.W.codeIn K cd__law_moveshape "_law_moveshape" = true)
    (k__law_moveshape : PySem.W.keepIn K (.ref f__law_moveshape) = true)
    (a__law_play : PySem.W.nsIn K mainGlobals "_law_play" = some (some (.ref f__law_play)))
    (l__law_play : K.lookup f__law_play = some ⟨oc__law_play, od__law_play, .func (PySem.W.fnOf "_law_play" "_law_play" (defArgs s__law_play) (defBody s__law_play) (defScope s__law_play) .none kV__law_play dc__law_play pm__law_play an__law_play cd__law_play ct__law_play), sl__law_play⟩)
    (c__law_play : PySem.W.codeIn K cd__law_play "_law_play" = true)
    (k__law_play : PySem.W.keepIn K (.ref f__law_play) = true)
    (a__law_leastups : PySem.W.nsIn K mainGlobals "_law_leastups" = some (some (.ref f__law_leastups)))
    (l__law_leastups : K.lookup f__law_leastups = some ⟨oc__law_leastups, od__law_leastups, .func (PySem.W.fnOf "_law_leastups" "_law_leastups" (defArgs s__law_leastups) (defBody s__law_leastups) (defScope s__law_leastups) .none kV__law_leastups dc__law_leastups pm__law_leastups an__law_leastups cd__law_leastups ct__law_leastups), sl__law_leastups⟩)
    (c__law_leastups : PySem.W.codeIn K cd__law_leastups "_law_leastups" = true)
    (k__law_leastups : PySem.W.keepIn K (.ref f__law_leastups) = true)
    (a__law_same : PySem.W.nsIn K mainGlobals "_law_same" = some (some (.ref f__law_same)))
    (l__law_same : K.lookup f__law_same = some ⟨oc__law_same, od__law_same, .func (PySem.W.fnOf "_law_same" "_law_same" (defArgs s__law_same) (defBody s__law_same) (defScope s__law_same) .none kV__law_same dc__law_same pm__law_same an__law_same cd__law_same ct__law_same), sl__law_same⟩)
    (c__law_same : PySem.W.codeIn K cd__law_same "_law_same" = true)
    (k__law_same : PySem.W.keepIn K (.ref f__law_same) = true)
    (a__law_movesbent : PySem.W.nsIn K mainGlobals "_law_movesbent" = some (some (.ref f__law_movesbent)))
    (l__law_movesbent : K.lookup f__law_movesbent = some ⟨oc__law_movesbent, od__law_movesbent, .func (PySem.W.fnOf "_law_movesbent" "_law_movesbent" (defArgs s__law_movesbent) (defBody s__law_movesbent) (defScope s__law_movesbent) .none kV__law_movesbent dc__law_movesbent pm__law_movesbent an__law_movesbent cd__law_movesbent ct__law_movesbent), sl__law_movesbent⟩)
    (c__law_movesbent : PySem.W.codeIn K cd__law_movesbent "_law_movesbent" = true)
    (k__law_movesbent : PySem.W.keepIn K (.ref f__law_movesbent) = true)
    (a__law_kinds : PySem.W.nsIn K mainGlobals "_law_kinds" = some (some (.ref f__law_kinds)))
    (l__law_kinds : K.lookup f__law_kinds = some ⟨oc__law_kinds, od__law_kinds, .func (PySem.W.fnOf "_law_kinds" "_law_kinds" (defArgs s__law_kinds) (defBody s__law_kinds) (defScope s__law_kinds) .none kV__law_kinds dc__law_kinds pm__law_kinds an__law_kinds cd__law_kinds ct__law_kinds), sl__law_kinds⟩)
    (c__law_kinds : PySem.W.codeIn K cd__law_kinds "_law_kinds" = true)
    (k__law_kinds : PySem.W.keepIn K (.ref f__law_kinds) = true)
    (a__law_clean : PySem.W.nsIn K mainGlobals "_law_clean" = some (some (.ref f__law_clean)))
    (l__law_clean : K.lookup f__law_clean = some ⟨oc__law_clean, od__law_clean, .func (PySem.W.fnOf "_law_clean" "_law_clean" (defArgs s__law_clean) (defBody s__law_clean) (defScope s__law_clean) .none kV__law_clean dc__law_clean pm__law_clean an__law_clean cd__law_clean ct__law_clean), sl__law_clean⟩)
    (c__law_clean : PySem.W.codeIn K cd__law_clean "_law_clean" = true)
    (k__law_clean : PySem.W.keepIn K (.ref f__law_clean) = true)
    (a__law_leasttable : PySem.W.nsIn K mainGlobals "_law_leasttable" = some (some (.ref f__law_leasttable)))
    (l__law_leasttable : K.lookup f__law_leasttable = some ⟨oc__law_leasttable, od__law_leasttable, .func (PySem.W.fnOf "_law_leasttable" "_law_leasttable" (defArgs s__law_leasttable) (defBody s__law_leasttable) (defScope s__law_leasttable) .none kV__law_leasttable dc__law_leasttable pm__law_leasttable an__law_leasttable cd__law_leasttable ct__law_leasttable), sl__law_leasttable⟩)
    (c__law_leasttable : PySem.W.codeIn K cd__law_leasttable "_law_leasttable" = true)
    (k__law_leasttable : PySem.W.keepIn K (.ref f__law_leasttable) = true)
    (a__law_stopof : PySem.W.nsIn K mainGlobals "_law_stopof" = some (some (.ref f__law_stopof)))
    (l__law_stopof : K.lookup f__law_stopof = some ⟨oc__law_stopof, od__law_stopof, .func (PySem.W.fnOf "_law_stopof" "_law_stopof" (defArgs s__law_stopof) (defBody s__law_stopof) (defScope s__law_stopof) .none kV__law_stopof dc__law_stopof pm__law_stopof an__law_stopof cd__law_stopof ct__law_stopof), sl__law_stopof⟩)
    (c__law_stopof : PySem.W.codeIn K cd__law_stopof "_law_stopof" = true)
    (k__law_stopof : PySem.W.keepIn K (.ref f__law_stopof) = true)
    (a__law_listof : PySem.W.nsIn K mainGlobals "_law_listof" = some (some (.ref f__law_listof)))
    (l__law_listof : K.lookup f__law_listof = some ⟨oc__law_listof, od__law_listof, .func (PySem.W.fnOf "_law_listof" "_law_listof" (defArgs s__law_listof) (defBody s__law_listof) (defScope s__law_listof) .none kV__law_listof dc__law_listof pm__law_listof an__law_listof cd__law_listof ct__law_listof), sl__law_listof⟩)
    (c__law_listof : PySem.W.codeIn K cd__law_listof "_law_listof" = true)
    (k__law_listof : PySem.W.keepIn K (.ref f__law_listof) = true)
    (a__law_refusal : PySem.W.nsIn K mainGlobals "_law_refusal" = some (some (.ref f__law_refusal)))
    (l__law_refusal : K.lookup f__law_refusal = some ⟨oc__law_refusal, od__law_refusal, .func (PySem.W.fnOf "_law_refusal" "_law_refusal" (defArgs s__law_refusal) (defBody s__law_refusal) (defScope s__law_refusal) .none kV__law_refusal dc__law_refusal pm__law_refusal an__law_refusal cd__law_refusal ct__law_refusal), sl__law_refusal⟩)
    (c__law_refusal : PySem.W.codeIn K cd__law_refusal "_law_refusal" = true)
    (k__law_refusal : PySem.W.keepIn K (.ref f__law_refusal) = true)
    (a__law_said : PySem.W.nsIn K mainGlobals "_law_said" = some (some (.ref f__law_said)))
    (l__law_said : K.lookup f__law_said = some ⟨oc__law_said, od__law_said, .func (PySem.W.fnOf "_law_said" "_law_said" (defArgs s__law_said) (defBody s__law_said) (defScope s__law_said) .none kV__law_said dc__law_said pm__law_said an__law_said cd__law_said ct__law_said), sl__law_said⟩)
    (c__law_said : PySem.W.codeIn K cd__law_said "_law_said" = true)
    (k__law_said : PySem.W.keepIn K (.ref f__law_said) = true)
    (a__law_playsright : PySem.W.nsIn K mainGlobals "_law_playsright" = some (some (.ref f__law_playsright)))
    (l__law_playsright : K.lookup f__law_playsright = some ⟨oc__law_playsright, od__law_playsright, .func (PySem.W.fnOf "_law_playsright" "_law_playsright" (defArgs s__law_playsright) (defBody s__law_playsright) (defScope s__law_playsright) .none kV__law_playsright dc__law_playsright pm__law_playsright an__law_playsright cd__law_playsright ct__law_playsright), sl__law_playsright⟩)
    (c__law_playsright : PySem.W.codeIn K cd__law_playsright "_law_playsright" = true)
    (k__law_playsright : PySem.W.keepIn K (.ref f__law_playsright) = true)
    (a__law_listright : PySem.W.nsIn K mainGlobals "_law_listright" = some (some (.ref f__law_listright)))
    (l__law_listright : K.lookup f__law_listright = some ⟨oc__law_listright, od__law_listright, .func (PySem.W.fnOf "_law_listright" "_law_listright" (defArgs s__law_listright) (defBody s__law_listright) (defScope s__law_listright) .none kV__law_listright dc__law_listright pm__law_listright an__law_listright cd__law_listright ct__law_listright), sl__law_listright⟩)
    (c__law_listright : PySem.W.codeIn K cd__law_listright "_law_listright" = true)
    (k__law_listright : PySem.W.keepIn K (.ref f__law_listright) = true)
    (a_law : PySem.W.nsIn K mainGlobals "law" = some (some (.ref f_law)))
    (l_law : K.lookup f_law = some ⟨oc_law, od_law, .func (PySem.W.fnOf "law" "law" (defArgs s_law) (defBody s_law) (defScope s_law) .none kV_law dc_law pm_law an_law cd_law ct_law), sl_law⟩)
    (c_law : PySem.W.codeIn K cd_law "law" = true)
    (k_law : PySem.W.keepIn K (.ref f_law) = true)
    (ac_VaultError : PySem.W.nsIn K mainGlobals "VaultError" = some (some (.ref C_VaultError)))
    (ac_NumberError : PySem.W.nsIn K mainGlobals "NumberError" = some (some (.ref C_NumberError)))
    (ac_TextError : PySem.W.nsIn K mainGlobals "TextError" = some (some (.ref C_TextError)))
    (ac_ShapeError : PySem.W.nsIn K mainGlobals "ShapeError" = some (some (.ref C_ShapeError)))
    (ac_PlanError : PySem.W.nsIn K mainGlobals "PlanError" = some (some (.ref C_PlanError)))
    (ac_CourseError : PySem.W.nsIn K mainGlobals "CourseError" = some (some (.ref C_CourseError)))
    (ac_KnowError : PySem.W.nsIn K mainGlobals "KnowError" = some (some (.ref C_KnowError)))
    (ac_PaperError : PySem.W.nsIn K mainGlobals "PaperError" = some (some (.ref C_PaperError)))
    (ac_TooMany : PySem.W.nsIn K mainGlobals "TooMany" = some (some (.ref C_TooMany)))
    (ac_BadPrime : PySem.W.nsIn K mainGlobals "BadPrime" = some (some (.ref C_BadPrime)))
    (ac_NoInverse : PySem.W.nsIn K mainGlobals "NoInverse" = some (some (.ref C_NoInverse)))
    (ac_NoNumber : PySem.W.nsIn K mainGlobals "NoNumber" = some (some (.ref C_NoNumber)))
    (ac_BadTable : PySem.W.nsIn K mainGlobals "BadTable" = some (some (.ref C_BadTable)))
    (ac_BadCells : PySem.W.nsIn K mainGlobals "BadCells" = some (some (.ref C_BadCells)))
    (ac_BadStep : PySem.W.nsIn K mainGlobals "BadStep" = some (some (.ref C_BadStep)))
    (ac_BadBlind : PySem.W.nsIn K mainGlobals "BadBlind" = some (some (.ref C_BadBlind)))
    (ac_BadMove : PySem.W.nsIn K mainGlobals "BadMove" = some (some (.ref C_BadMove)))
    (ac_NotShut : PySem.W.nsIn K mainGlobals "NotShut" = some (some (.ref C_NotShut)))
    (ac_NotOpen : PySem.W.nsIn K mainGlobals "NotOpen" = some (some (.ref C_NotOpen)))
    (ac_NotTheft : PySem.W.nsIn K mainGlobals "NotTheft" = some (some (.ref C_NotTheft)))
    (ac_NotPrice : PySem.W.nsIn K mainGlobals "NotPrice" = some (some (.ref C_NotPrice)))
    (xL_BadCells : K.lookup C_BadCells = some (excClassObj nm_BadCells q_BadCells C_BadCells N_BadCells bs_BadCells bm_BadCells true sn_BadCells sub_BadCells ab_BadCells col_BadCells dd_BadCells m0_BadCells m1_BadCells m2_BadCells m3_BadCells m5_BadCells "ValueError.__new__"))
    (xv_BadCells : PySem.HandSPX.refsVE bm_BadCells = true)
    (sa_BadCells : PySem.W.findIn K (.ref C_BadCells) "__setattr__" = some (some (.builtin "object.__setattr__")))
    (eC_BadCells : PySem.W.subIn K (.ref C_BadCells) (.type "BaseException") = some true)
    (tC_BadCells : PySem.W.typeIn K (.ref C_BadCells) = some (.type "type"))
    (kC_BadCells : PySem.W.keepIn K (.ref C_BadCells) = true)
    (iC_BadCells : PySem.W.findIn K (.ref C_BadCells) "__init__" = some (some (.ref fI_BadCells)))
    (tI_BadCells : PySem.W.typeIn K (.ref fI_BadCells) = some (.type "function"))
    (lI_BadCells : K.lookup fI_BadCells = some ⟨ocI_BadCells, odI_BadCells, .func (PySem.W.fnOf "__init__" "BadCells.__init__" (defArgs si_BadCells) (defBody si_BadCells) (defScope si_BadCells) .none kVI_BadCells dcI_BadCells pmI_BadCells anI_BadCells cdI_BadCells ctI_BadCells), slI_BadCells⟩)
    (cI_BadCells : PySem.W.codeIn K cdI_BadCells "BadCells.__init__" = true)
    (kI_BadCells : PySem.W.keepIn K (.ref fI_BadCells) = true)
    (nf_BadCells_at : PySem.W.findIn K (.ref C_BadCells) "at" = some none)
    (nf_BadCells_cells : PySem.W.findIn K (.ref C_BadCells) "cells" = some none)
    (nf_BadCells_word : PySem.W.findIn K (.ref C_BadCells) "word" = some none)
    (hg_BadCells : PySem.W.findIn K (.ref C_BadCells) "__getattribute__" = some (some (.builtin "BaseException.__getattribute__")))
    (hk_BadCells : PySem.W.findIn K (.ref C_BadCells) "__getattr__" = some none)
    (hd_BadCells : PySem.W.hasDictIn K C_BadCells = true)
    (ha_BadCells : PySem.W.findIn K (.ref C_BadCells) "__class__" = some (some (.builtin "object.__class__")))
    (hm_BadCells : PySem.W.mroIn K C_BadCells (.type "object") = some true)
    (su_BadCells_NotPrice : PySem.W.subIn K (.ref C_BadCells) (.ref C_NotPrice) = some false)
    (ne_BadCells_NotPrice : (C_BadCells == C_NotPrice) = false)
    (su_BadCells_NotTheft : PySem.W.subIn K (.ref C_BadCells) (.ref C_NotTheft) = some false)
    (ne_BadCells_NotTheft : (C_BadCells == C_NotTheft) = false)
    (su_BadCells_NotOpen : PySem.W.subIn K (.ref C_BadCells) (.ref C_NotOpen) = some false)
    (ne_BadCells_NotOpen : (C_BadCells == C_NotOpen) = false)
    (su_BadCells_NotShut : PySem.W.subIn K (.ref C_BadCells) (.ref C_NotShut) = some false)
    (ne_BadCells_NotShut : (C_BadCells == C_NotShut) = false)
    (su_BadCells_BadMove : PySem.W.subIn K (.ref C_BadCells) (.ref C_BadMove) = some false)
    (ne_BadCells_BadMove : (C_BadCells == C_BadMove) = false)
    (su_BadCells_BadBlind : PySem.W.subIn K (.ref C_BadCells) (.ref C_BadBlind) = some false)
    (ne_BadCells_BadBlind : (C_BadCells == C_BadBlind) = false)
    (su_BadCells_BadStep : PySem.W.subIn K (.ref C_BadCells) (.ref C_BadStep) = some false)
    (ne_BadCells_BadStep : (C_BadCells == C_BadStep) = false)
    (su_BadCells_BadCells : PySem.W.subIn K (.ref C_BadCells) (.ref C_BadCells) = some true)
    (su_BadCells_BadTable : PySem.W.subIn K (.ref C_BadCells) (.ref C_BadTable) = some false)
    (ne_BadCells_BadTable : (C_BadCells == C_BadTable) = false)
    (su_BadCells_NoNumber : PySem.W.subIn K (.ref C_BadCells) (.ref C_NoNumber) = some false)
    (ne_BadCells_NoNumber : (C_BadCells == C_NoNumber) = false)
    (su_BadCells_NoInverse : PySem.W.subIn K (.ref C_BadCells) (.ref C_NoInverse) = some false)
    (ne_BadCells_NoInverse : (C_BadCells == C_NoInverse) = false)
    (su_BadCells_BadPrime : PySem.W.subIn K (.ref C_BadCells) (.ref C_BadPrime) = some false)
    (ne_BadCells_BadPrime : (C_BadCells == C_BadPrime) = false)
    (su_BadCells_TooMany : PySem.W.subIn K (.ref C_BadCells) (.ref C_TooMany) = some false)
    (ne_BadCells_TooMany : (C_BadCells == C_TooMany) = false)
    (su_BadCells_PaperError : PySem.W.subIn K (.ref C_BadCells) (.ref C_PaperError) = some false)
    (ne_BadCells_PaperError : (C_BadCells == C_PaperError) = false)
    (su_BadCells_KnowError : PySem.W.subIn K (.ref C_BadCells) (.ref C_KnowError) = some false)
    (ne_BadCells_KnowError : (C_BadCells == C_KnowError) = false)
    (su_BadCells_CourseError : PySem.W.subIn K (.ref C_BadCells) (.ref C_CourseError) = some false)
    (ne_BadCells_CourseError : (C_BadCells == C_CourseError) = false)
    (su_BadCells_PlanError : PySem.W.subIn K (.ref C_BadCells) (.ref C_PlanError) = some false)
    (ne_BadCells_PlanError : (C_BadCells == C_PlanError) = false)
    (su_BadCells_ShapeError : PySem.W.subIn K (.ref C_BadCells) (.ref C_ShapeError) = some false)
    (ne_BadCells_ShapeError : (C_BadCells == C_ShapeError) = false)
    (su_BadCells_TextError : PySem.W.subIn K (.ref C_BadCells) (.ref C_TextError) = some false)
    (ne_BadCells_TextError : (C_BadCells == C_TextError) = false)
    (su_BadCells_NumberError : PySem.W.subIn K (.ref C_BadCells) (.ref C_NumberError) = some true)
    (su_BadCells_ValueError : PySem.W.subIn K (.ref C_BadCells) (.type "ValueError") = some true)
    (su_BadCells_VaultError : PySem.W.subIn K (.ref C_BadCells) (.ref C_VaultError) = some true)
    (xL_BadMove : K.lookup C_BadMove = some (excClassObj nm_BadMove q_BadMove C_BadMove N_BadMove bs_BadMove bm_BadMove true sn_BadMove sub_BadMove ab_BadMove col_BadMove dd_BadMove m0_BadMove m1_BadMove m2_BadMove m3_BadMove m5_BadMove "ValueError.__new__"))
    (xv_BadMove : PySem.HandSPX.refsVE bm_BadMove = true)
    (sa_BadMove : PySem.W.findIn K (.ref C_BadMove) "__setattr__" = some (some (.builtin "object.__setattr__")))
    (eC_BadMove : PySem.W.subIn K (.ref C_BadMove) (.type "BaseException") = some true)
    (tC_BadMove : PySem.W.typeIn K (.ref C_BadMove) = some (.type "type"))
    (kC_BadMove : PySem.W.keepIn K (.ref C_BadMove) = true)
    (iC_BadMove : PySem.W.findIn K (.ref C_BadMove) "__init__" = some (some (.ref fI_BadMove)))
    (tI_BadMove : PySem.W.typeIn K (.ref fI_BadMove) = some (.type "function"))
    (lI_BadMove : K.lookup fI_BadMove = some ⟨ocI_BadMove, odI_BadMove, .func (PySem.W.fnOf "__init__" "BadMove.__init__" (defArgs si_BadMove) (defBody si_BadMove) (defScope si_BadMove) .none kVI_BadMove dcI_BadMove pmI_BadMove anI_BadMove cdI_BadMove ctI_BadMove), slI_BadMove⟩)
    (cI_BadMove : PySem.W.codeIn K cdI_BadMove "BadMove.__init__" = true)
    (kI_BadMove : PySem.W.keepIn K (.ref fI_BadMove) = true)
    (nf_BadMove_at : PySem.W.findIn K (.ref C_BadMove) "at" = some none)
    (nf_BadMove_cells : PySem.W.findIn K (.ref C_BadMove) "cells" = some none)
    (nf_BadMove_word : PySem.W.findIn K (.ref C_BadMove) "word" = some none)
    (hg_BadMove : PySem.W.findIn K (.ref C_BadMove) "__getattribute__" = some (some (.builtin "BaseException.__getattribute__")))
    (hk_BadMove : PySem.W.findIn K (.ref C_BadMove) "__getattr__" = some none)
    (hd_BadMove : PySem.W.hasDictIn K C_BadMove = true)
    (ha_BadMove : PySem.W.findIn K (.ref C_BadMove) "__class__" = some (some (.builtin "object.__class__")))
    (hm_BadMove : PySem.W.mroIn K C_BadMove (.type "object") = some true)
    (su_BadMove_NotPrice : PySem.W.subIn K (.ref C_BadMove) (.ref C_NotPrice) = some false)
    (ne_BadMove_NotPrice : (C_BadMove == C_NotPrice) = false)
    (su_BadMove_NotTheft : PySem.W.subIn K (.ref C_BadMove) (.ref C_NotTheft) = some false)
    (ne_BadMove_NotTheft : (C_BadMove == C_NotTheft) = false)
    (su_BadMove_NotOpen : PySem.W.subIn K (.ref C_BadMove) (.ref C_NotOpen) = some false)
    (ne_BadMove_NotOpen : (C_BadMove == C_NotOpen) = false)
    (su_BadMove_NotShut : PySem.W.subIn K (.ref C_BadMove) (.ref C_NotShut) = some false)
    (ne_BadMove_NotShut : (C_BadMove == C_NotShut) = false)
    (su_BadMove_BadMove : PySem.W.subIn K (.ref C_BadMove) (.ref C_BadMove) = some true)
    (su_BadMove_BadBlind : PySem.W.subIn K (.ref C_BadMove) (.ref C_BadBlind) = some false)
    (ne_BadMove_BadBlind : (C_BadMove == C_BadBlind) = false)
    (su_BadMove_BadStep : PySem.W.subIn K (.ref C_BadMove) (.ref C_BadStep) = some false)
    (ne_BadMove_BadStep : (C_BadMove == C_BadStep) = false)
    (su_BadMove_BadCells : PySem.W.subIn K (.ref C_BadMove) (.ref C_BadCells) = some false)
    (ne_BadMove_BadCells : (C_BadMove == C_BadCells) = false)
    (su_BadMove_BadTable : PySem.W.subIn K (.ref C_BadMove) (.ref C_BadTable) = some false)
    (ne_BadMove_BadTable : (C_BadMove == C_BadTable) = false)
    (su_BadMove_NoNumber : PySem.W.subIn K (.ref C_BadMove) (.ref C_NoNumber) = some false)
    (ne_BadMove_NoNumber : (C_BadMove == C_NoNumber) = false)
    (su_BadMove_NoInverse : PySem.W.subIn K (.ref C_BadMove) (.ref C_NoInverse) = some false)
    (ne_BadMove_NoInverse : (C_BadMove == C_NoInverse) = false)
    (su_BadMove_BadPrime : PySem.W.subIn K (.ref C_BadMove) (.ref C_BadPrime) = some false)
    (ne_BadMove_BadPrime : (C_BadMove == C_BadPrime) = false)
    (su_BadMove_TooMany : PySem.W.subIn K (.ref C_BadMove) (.ref C_TooMany) = some false)
    (ne_BadMove_TooMany : (C_BadMove == C_TooMany) = false)
    (su_BadMove_PaperError : PySem.W.subIn K (.ref C_BadMove) (.ref C_PaperError) = some true)
    (su_BadMove_KnowError : PySem.W.subIn K (.ref C_BadMove) (.ref C_KnowError) = some false)
    (ne_BadMove_KnowError : (C_BadMove == C_KnowError) = false)
    (su_BadMove_CourseError : PySem.W.subIn K (.ref C_BadMove) (.ref C_CourseError) = some false)
    (ne_BadMove_CourseError : (C_BadMove == C_CourseError) = false)
    (su_BadMove_PlanError : PySem.W.subIn K (.ref C_BadMove) (.ref C_PlanError) = some false)
    (ne_BadMove_PlanError : (C_BadMove == C_PlanError) = false)
    (su_BadMove_ShapeError : PySem.W.subIn K (.ref C_BadMove) (.ref C_ShapeError) = some false)
    (ne_BadMove_ShapeError : (C_BadMove == C_ShapeError) = false)
    (su_BadMove_TextError : PySem.W.subIn K (.ref C_BadMove) (.ref C_TextError) = some false)
    (ne_BadMove_TextError : (C_BadMove == C_TextError) = false)
    (su_BadMove_NumberError : PySem.W.subIn K (.ref C_BadMove) (.ref C_NumberError) = some false)
    (ne_BadMove_NumberError : (C_BadMove == C_NumberError) = false)
    (su_BadMove_ValueError : PySem.W.subIn K (.ref C_BadMove) (.type "ValueError") = some true)
    (su_BadMove_VaultError : PySem.W.subIn K (.ref C_BadMove) (.ref C_VaultError) = some true)
    (is_NotPrice : PySem.W.isClsIn K C_NotPrice = true)
    (ty_NotPrice : PySem.W.typeIn K (.ref C_NotPrice) = some (.type "type"))
    (is_NotTheft : PySem.W.isClsIn K C_NotTheft = true)
    (ty_NotTheft : PySem.W.typeIn K (.ref C_NotTheft) = some (.type "type"))
    (is_NotOpen : PySem.W.isClsIn K C_NotOpen = true)
    (ty_NotOpen : PySem.W.typeIn K (.ref C_NotOpen) = some (.type "type"))
    (is_NotShut : PySem.W.isClsIn K C_NotShut = true)
    (ty_NotShut : PySem.W.typeIn K (.ref C_NotShut) = some (.type "type"))
    (is_BadMove : PySem.W.isClsIn K C_BadMove = true)
    (ty_BadMove : PySem.W.typeIn K (.ref C_BadMove) = some (.type "type"))
    (is_BadBlind : PySem.W.isClsIn K C_BadBlind = true)
    (ty_BadBlind : PySem.W.typeIn K (.ref C_BadBlind) = some (.type "type"))
    (is_BadStep : PySem.W.isClsIn K C_BadStep = true)
    (ty_BadStep : PySem.W.typeIn K (.ref C_BadStep) = some (.type "type"))
    (is_BadCells : PySem.W.isClsIn K C_BadCells = true)
    (ty_BadCells : PySem.W.typeIn K (.ref C_BadCells) = some (.type "type"))
    (is_BadTable : PySem.W.isClsIn K C_BadTable = true)
    (ty_BadTable : PySem.W.typeIn K (.ref C_BadTable) = some (.type "type"))
    (is_NoNumber : PySem.W.isClsIn K C_NoNumber = true)
    (ty_NoNumber : PySem.W.typeIn K (.ref C_NoNumber) = some (.type "type"))
    (is_NoInverse : PySem.W.isClsIn K C_NoInverse = true)
    (ty_NoInverse : PySem.W.typeIn K (.ref C_NoInverse) = some (.type "type"))
    (is_BadPrime : PySem.W.isClsIn K C_BadPrime = true)
    (ty_BadPrime : PySem.W.typeIn K (.ref C_BadPrime) = some (.type "type"))
    (is_TooMany : PySem.W.isClsIn K C_TooMany = true)
    (ty_TooMany : PySem.W.typeIn K (.ref C_TooMany) = some (.type "type"))
    (is_PaperError : PySem.W.isClsIn K C_PaperError = true)
    (ty_PaperError : PySem.W.typeIn K (.ref C_PaperError) = some (.type "type"))
    (is_KnowError : PySem.W.isClsIn K C_KnowError = true)
    (ty_KnowError : PySem.W.typeIn K (.ref C_KnowError) = some (.type "type"))
    (is_CourseError : PySem.W.isClsIn K C_CourseError = true)
    (ty_CourseError : PySem.W.typeIn K (.ref C_CourseError) = some (.type "type"))
    (is_PlanError : PySem.W.isClsIn K C_PlanError = true)
    (ty_PlanError : PySem.W.typeIn K (.ref C_PlanError) = some (.type "type"))
    (is_ShapeError : PySem.W.isClsIn K C_ShapeError = true)
    (ty_ShapeError : PySem.W.typeIn K (.ref C_ShapeError) = some (.type "type"))
    (is_TextError : PySem.W.isClsIn K C_TextError = true)
    (ty_TextError : PySem.W.typeIn K (.ref C_TextError) = some (.type "type"))
    (is_NumberError : PySem.W.isClsIn K C_NumberError = true)
    (ty_NumberError : PySem.W.typeIn K (.ref C_NumberError) = some (.type "type"))
    (is_VaultError : PySem.W.isClsIn K C_VaultError = true)
    (ty_VaultError : PySem.W.typeIn K (.ref C_VaultError) = some (.type "type"))
    (be_VaultError : PySem.W.subIn K (.ref C_VaultError) (.type "BaseException") = some true)
    (hn : PySem.W.specialIn K (.builtin "object.__class__") "__get__" = some (some (.builtin "getset_descriptor.__get__")))
    (ht : PySem.W.takesIn K (.builtin "object.__class__") = some true)
    (zb_ValueError : PySem.W.nsIn K mainGlobals "ValueError" = some none)
    (zb_abs : PySem.W.nsIn K mainGlobals "abs" = some none)
    (zb_bool : PySem.W.nsIn K mainGlobals "bool" = some none)
    (zb_dict : PySem.W.nsIn K mainGlobals "dict" = some none)
    (zb_enumerate : PySem.W.nsIn K mainGlobals "enumerate" = some none)
    (zb_int : PySem.W.nsIn K mainGlobals "int" = some none)
    (zb_isinstance : PySem.W.nsIn K mainGlobals "isinstance" = some none)
    (zb_len : PySem.W.nsIn K mainGlobals "len" = some none)
    (zb_list : PySem.W.nsIn K mainGlobals "list" = some none)
    (zb_max : PySem.W.nsIn K mainGlobals "max" = some none)
    (zb_min : PySem.W.nsIn K mainGlobals "min" = some none)
    (zb_range : PySem.W.nsIn K mainGlobals "range" = some none)
    (zb_repr : PySem.W.nsIn K mainGlobals "repr" = some none)
    (zb_str : PySem.W.nsIn K mainGlobals "str" = some none)
    (zb_tuple : PySem.W.nsIn K mainGlobals "tuple" = some none)
    : ∃ fd : FuncData, (∀ (s : Shared) (v : Value), BindsTo s fd ⟨[v], []⟩ [("script", v)]) ∧ ∃ cA, ∀ base : Heap, K.In base → base.Ns mainGlobals mg → FnG l.prog w K mg base cA false 49 fa fd ["script"] F_law := by
  have e := hfa.symm.trans (PySem.W.mg_of X G a_law)
  cases e
  have F_whole_between := fun_mk (st := s_whole_between) l_whole_between c_whole_between k_whole_between
  have F_need_cells := fun_mk (st := s_need_cells) l_need_cells c_need_cells k_need_cells
  have F_round_bounds := fun_mk (st := s_round_bounds) l_round_bounds c_round_bounds k_round_bounds
  have F_steps_row := fun_mk (st := s_steps_row) l_steps_row c_steps_row k_steps_row
  have F_least_stop := fun_mk (st := s_least_stop) l_least_stop c_least_stop k_least_stop
  have F_move_list := fun_mk (st := s_move_list) l_move_list c_move_list k_move_list
  have F_is_up := fun_mk (st := s_is_up) l_is_up c_is_up k_is_up
  have F_is_read := fun_mk (st := s_is_read) l_is_read c_is_read k_is_read
  have F_check_moves := fun_mk (st := s_check_moves) l_check_moves c_check_moves k_check_moves
  have F__law_store := fun_mk (st := s__law_store) l__law_store c__law_store k__law_store
  have F__law_mix := fun_mk (st := s__law_mix) l__law_mix c__law_mix k__law_mix
  have F__law_take := fun_mk (st := s__law_take) l__law_take c__law_take k__law_take
  have F__law_edge := fun_mk (st := s__law_edge) l__law_edge c__law_edge k__law_edge
  have F__law_odds := fun_mk (st := s__law_odds) l__law_odds c__law_odds k__law_odds
  have F__law_pick := fun_mk (st := s__law_pick) l__law_pick c__law_pick k__law_pick
  have F__law_length := fun_mk (st := s__law_length) l__law_length c__law_length k__law_length
  have F__law_cellcount := fun_mk (st := s__law_cellcount) l__law_cellcount c__law_cellcount k__law_cellcount
  have F__law_badcells := fun_mk (st := s__law_badcells) l__law_badcells c__law_badcells k__law_badcells
  have F__law_moves := fun_mk (st := s__law_moves) l__law_moves c__law_moves k__law_moves
  have F__law_isint := fun_mk (st := s__law_isint) l__law_isint c__law_isint k__law_isint
  have F__law_moveshape := fun_mk (st := s__law_moveshape) l__law_moveshape c__law_moveshape k__law_moveshape
  have F__law_play := fun_mk (st := s__law_play) l__law_play c__law_play k__law_play
  have F__law_leastups := fun_mk (st := s__law_leastups) l__law_leastups c__law_leastups k__law_leastups
  have F__law_same := fun_mk (st := s__law_same) l__law_same c__law_same k__law_same
  have F__law_movesbent := fun_mk (st := s__law_movesbent) l__law_movesbent c__law_movesbent k__law_movesbent
  have F__law_kinds := fun_mk (st := s__law_kinds) l__law_kinds c__law_kinds k__law_kinds
  have F__law_clean := fun_mk (st := s__law_clean) l__law_clean c__law_clean k__law_clean
  have F__law_leasttable := fun_mk (st := s__law_leasttable) l__law_leasttable c__law_leasttable k__law_leasttable
  have F__law_stopof := fun_mk (st := s__law_stopof) l__law_stopof c__law_stopof k__law_stopof
  have F__law_listof := fun_mk (st := s__law_listof) l__law_listof c__law_listof k__law_listof
  have F__law_refusal := fun_mk (st := s__law_refusal) l__law_refusal c__law_refusal k__law_refusal
  have F__law_said := fun_mk (st := s__law_said) l__law_said c__law_said k__law_said
  have F__law_playsright := fun_mk (st := s__law_playsright) l__law_playsright c__law_playsright k__law_playsright
  have F__law_listright := fun_mk (st := s__law_listright) l__law_listright c__law_listright k__law_listright
  have F_law := fun_mk (st := s_law) l_law c_law k_law
  have b_whole_between := F_whole_between.binds (ps := ["value", "low", "high"]) fun _ _ _ _ _ _ us hl => match us, hl with | [_, _, _], _ => rfl
  have b_need_cells := F_need_cells.binds (ps := ["cells"]) fun _ _ _ _ _ _ us hl => match us, hl with | [_], _ => rfl
  have b_round_bounds := F_round_bounds.binds (ps := ["length", "cells"]) fun _ _ _ _ _ _ us hl => match us, hl with | [_, _], _ => rfl
  have b_steps_row := F_steps_row.binds (ps := ["length", "cells"]) fun _ _ _ _ _ _ us hl => match us, hl with | [_, _], _ => rfl
  have b_least_stop := F_least_stop.binds (ps := ["fewer", "same", "length"]) fun _ _ _ _ _ _ us hl => match us, hl with | [_, _, _], _ => rfl
  have b_move_list := F_move_list.binds (ps := ["length", "cells"]) fun _ _ _ _ _ _ us hl => match us, hl with | [_, _], _ => rfl
  have b_is_up := F_is_up.binds (ps := ["move", "cells"]) fun _ _ _ _ _ _ us hl => match us, hl with | [_, _], _ => rfl
  have b_is_read := F_is_read.binds (ps := ["move", "cells"]) fun _ _ _ _ _ _ us hl => match us, hl with | [_, _], _ => rfl
  have b_check_moves := F_check_moves.binds (ps := ["length", "cells", "moves"]) fun _ _ _ _ _ _ us hl => match us, hl with | [_, _, _], _ => rfl
  have b__law_store := F__law_store.binds (ps := ["script"]) fun _ _ _ _ _ _ us hl => match us, hl with | [_], _ => rfl
  have b__law_mix := F__law_mix.binds (ps := ["n", "k"]) fun _ _ _ _ _ _ us hl => match us, hl with | [_, _], _ => rfl
  have b__law_take := F__law_take.binds (ps := ["store", "many"]) fun _ _ _ _ _ _ us hl => match us, hl with | [_, _], _ => rfl
  have b__law_edge := F__law_edge.binds (ps := ["store", "many"]) fun _ _ _ _ _ _ us hl => match us, hl with | [_, _], _ => rfl
  have b__law_odds := F__law_odds.binds (ps := ["store", "many"]) fun _ _ _ _ _ _ us hl => match us, hl with | [_, _], _ => rfl
  have b__law_pick := F__law_pick.binds (ps := ["store", "items"]) fun _ _ _ _ _ _ us hl => match us, hl with | [_, _], _ => rfl
  have b__law_length := F__law_length.binds (ps := ["store"]) fun _ _ _ _ _ _ us hl => match us, hl with | [_], _ => rfl
  have b__law_cellcount := F__law_cellcount.binds (ps := ["store"]) fun _ _ _ _ _ _ us hl => match us, hl with | [_], _ => rfl
  have b__law_badcells := F__law_badcells.binds (ps := ["store"]) fun _ _ _ _ _ _ us hl => match us, hl with | [_], _ => rfl
  have b__law_moves := F__law_moves.binds (ps := ["store", "n", "source", "first", "last"]) fun _ _ _ _ _ _ us hl => match us, hl with | [_, _, _, _, _], _ => rfl
  have b__law_isint := F__law_isint.binds (ps := ["thing"]) fun _ _ _ _ _ _ us hl => match us, hl with | [_], _ => rfl
  have b__law_moveshape := F__law_moveshape.binds (ps := ["move", "many"]) fun _ _ _ _ _ _ us hl => match us, hl with | [_, _], _ => rfl
  have b__law_play := F__law_play.binds (ps := ["n", "many", "moves"]) fun _ _ _ _ _ _ us hl => match us, hl with | [_, _, _], _ => rfl
  have b__law_leastups := F__law_leastups.binds (ps := ["n", "many"]) fun _ _ _ _ _ _ us hl => match us, hl with | [_, _], _ => rfl
  have b__law_same := F__law_same.binds (ps := ["one", "two"]) fun _ _ _ _ _ _ us hl => match us, hl with | [_, _], _ => rfl
  have b__law_movesbent := F__law_movesbent.binds (ps := ["store", "moves", "many"]) fun _ _ _ _ _ _ us hl => match us, hl with | [_, _, _], _ => rfl
  have b__law_kinds := F__law_kinds.binds (ps := ["e"]) fun _ _ _ _ _ _ us hl => match us, hl with | [_], _ => rfl
  have b__law_clean := F__law_clean.binds (ps := ["e", "base", "word"]) fun _ _ _ _ _ _ us hl => match us, hl with | [_, _, _], _ => rfl
  have b__law_leasttable := F__law_leasttable.binds (ps := ["most", "many"]) fun _ _ _ _ _ _ us hl => match us, hl with | [_, _], _ => rfl
  have b__law_stopof := F__law_stopof.binds (ps := ["table", "n", "many"]) fun _ _ _ _ _ _ us hl => match us, hl with | [_, _, _], _ => rfl
  have b__law_listof := F__law_listof.binds (ps := ["n", "many"]) fun _ _ _ _ _ _ us hl => match us, hl with | [_, _], _ => rfl
  have b__law_refusal := F__law_refusal.binds (ps := ["e"]) fun _ _ _ _ _ _ us hl => match us, hl with | [_], _ => rfl
  have b__law_said := F__law_said.binds (ps := ["n", "many", "moves"]) fun _ _ _ _ _ _ us hl => match us, hl with | [_, _, _], _ => rfl
  have b__law_playsright := F__law_playsright.binds (ps := ["n", "many", "moves"]) fun _ _ _ _ _ _ us hl => match us, hl with | [_, _, _], _ => rfl
  have b__law_listright := F__law_listright.binds (ps := ["store", "n", "many"]) fun _ _ _ _ _ _ us hl => match us, hl with | [_, _, _], _ => rfl
  have b_law := F_law.binds (ps := ["script"]) fun _ _ _ _ _ _ us hl => match us, hl with | [_], _ => rfl
  have T_BadCells : OexC K C_BadCells := ⟨⟨_, _, _, _, _, _, _, _, _, _, _, _, _, _, _, xL_BadCells, xv_BadCells⟩, sa_BadCells, eC_BadCells, tC_BadCells, kC_BadCells⟩
  have FI_BadCells := fun_mk (st := si_BadCells) lI_BadCells cI_BadCells kI_BadCells
  have bI_BadCells := FI_BadCells.binds (ps := ["self", "cells"]) fun _ _ _ _ _ _ us hl => match us, hl with | [_, _], _ => rfl
  have E_BadCells : ExcC K C_BadCells := ⟨hg_BadCells, hk_BadCells, eC_BadCells, hd_BadCells, ha_BadCells, hn, ht, hm_BadCells⟩
  have Z_BadCells : XfC K C_BadCells := ⟨hg_BadCells, hk_BadCells, eC_BadCells, hd_BadCells⟩
  have T_BadMove : OexC K C_BadMove := ⟨⟨_, _, _, _, _, _, _, _, _, _, _, _, _, _, _, xL_BadMove, xv_BadMove⟩, sa_BadMove, eC_BadMove, tC_BadMove, kC_BadMove⟩
  have FI_BadMove := fun_mk (st := si_BadMove) lI_BadMove cI_BadMove kI_BadMove
  have bI_BadMove := FI_BadMove.binds (ps := ["self", "at"]) fun _ _ _ _ _ _ us hl => match us, hl with | [_, _], _ => rfl
  have E_BadMove : ExcC K C_BadMove := ⟨hg_BadMove, hk_BadMove, eC_BadMove, hd_BadMove, ha_BadMove, hn, ht, hm_BadMove⟩
  have Z_BadMove : XfC K C_BadMove := ⟨hg_BadMove, hk_BadMove, eC_BadMove, hd_BadMove⟩
  refine ⟨_, fun s v => .of_eq rfl, fun c => match c with | 0 => C_BadCells | 1 => C_BadMove | _ => 0, fun base _ _ => ok_law (a := {
    f_whole_between := f_whole_between, d_whole_between := _,
    f_need_cells := f_need_cells, d_need_cells := _,
    f_round_bounds := f_round_bounds, d_round_bounds := _,
    f_steps_row := f_steps_row, d_steps_row := _,
    f_least_stop := f_least_stop, d_least_stop := _,
    f_move_list := f_move_list, d_move_list := _,
    f_is_up := f_is_up, d_is_up := _,
    f_is_read := f_is_read, d_is_read := _,
    f_check_moves := f_check_moves, d_check_moves := _,
    f__law_store := f__law_store, d__law_store := _,
    f__law_mix := f__law_mix, d__law_mix := _,
    f__law_take := f__law_take, d__law_take := _,
    f__law_edge := f__law_edge, d__law_edge := _,
    f__law_odds := f__law_odds, d__law_odds := _,
    f__law_pick := f__law_pick, d__law_pick := _,
    f__law_length := f__law_length, d__law_length := _,
    f__law_cellcount := f__law_cellcount, d__law_cellcount := _,
    f__law_badcells := f__law_badcells, d__law_badcells := _,
    f__law_moves := f__law_moves, d__law_moves := _,
    f__law_isint := f__law_isint, d__law_isint := _,
    f__law_moveshape := f__law_moveshape, d__law_moveshape := _,
    f__law_play := f__law_play, d__law_play := _,
    f__law_leastups := f__law_leastups, d__law_leastups := _,
    f__law_same := f__law_same, d__law_same := _,
    f__law_movesbent := f__law_movesbent, d__law_movesbent := _,
    f__law_kinds := f__law_kinds, d__law_kinds := _,
    f__law_clean := f__law_clean, d__law_clean := _,
    f__law_leasttable := f__law_leasttable, d__law_leasttable := _,
    f__law_stopof := f__law_stopof, d__law_stopof := _,
    f__law_listof := f__law_listof, d__law_listof := _,
    f__law_refusal := f__law_refusal, d__law_refusal := _,
    f__law_said := f__law_said, d__law_said := _,
    f__law_playsright := f__law_playsright, d__law_playsright := _,
    f__law_listright := f__law_listright, d__law_listright := _,
    f_law := fa, d_law := _,
    c_VaultError := C_VaultError,
    c_NumberError := C_NumberError,
    c_TextError := C_TextError,
    c_ShapeError := C_ShapeError,
    c_PlanError := C_PlanError,
    c_CourseError := C_CourseError,
    c_KnowError := C_KnowError,
    c_PaperError := C_PaperError,
    c_TooMany := C_TooMany,
    c_BadPrime := C_BadPrime,
    c_NoInverse := C_NoInverse,
    c_NoNumber := C_NoNumber,
    c_BadTable := C_BadTable,
    c_BadCells := C_BadCells,
    c_BadStep := C_BadStep,
    c_BadBlind := C_BadBlind,
    c_BadMove := C_BadMove,
    c_NotShut := C_NotShut,
    c_NotOpen := C_NotOpen,
    c_NotTheft := C_NotTheft,
    c_NotPrice := C_NotPrice }) {
    F_whole_between := F_whole_between, m_whole_between := PySem.W.mg_of X G a_whole_between, k_whole_between := k_whole_between, b_whole_between := b_whole_between,
    F_need_cells := F_need_cells, m_need_cells := PySem.W.mg_of X G a_need_cells, k_need_cells := k_need_cells, b_need_cells := b_need_cells,
    F_round_bounds := F_round_bounds, m_round_bounds := PySem.W.mg_of X G a_round_bounds, k_round_bounds := k_round_bounds, b_round_bounds := b_round_bounds,
    F_steps_row := F_steps_row, m_steps_row := PySem.W.mg_of X G a_steps_row, k_steps_row := k_steps_row, b_steps_row := b_steps_row,
    F_least_stop := F_least_stop, m_least_stop := PySem.W.mg_of X G a_least_stop, k_least_stop := k_least_stop, b_least_stop := b_least_stop,
    F_move_list := F_move_list, m_move_list := PySem.W.mg_of X G a_move_list, k_move_list := k_move_list, b_move_list := b_move_list,
    F_is_up := F_is_up, m_is_up := PySem.W.mg_of X G a_is_up, k_is_up := k_is_up, b_is_up := b_is_up,
    F_is_read := F_is_read, m_is_read := PySem.W.mg_of X G a_is_read, k_is_read := k_is_read, b_is_read := b_is_read,
    F_check_moves := F_check_moves, m_check_moves := PySem.W.mg_of X G a_check_moves, k_check_moves := k_check_moves, b_check_moves := b_check_moves,
    F__law_store := F__law_store, m__law_store := PySem.W.mg_of X G a__law_store, k__law_store := k__law_store, b__law_store := b__law_store,
    F__law_mix := F__law_mix, m__law_mix := PySem.W.mg_of X G a__law_mix, k__law_mix := k__law_mix, b__law_mix := b__law_mix,
    F__law_take := F__law_take, m__law_take := PySem.W.mg_of X G a__law_take, k__law_take := k__law_take, b__law_take := b__law_take,
    F__law_edge := F__law_edge, m__law_edge := PySem.W.mg_of X G a__law_edge, k__law_edge := k__law_edge, b__law_edge := b__law_edge,
    F__law_odds := F__law_odds, m__law_odds := PySem.W.mg_of X G a__law_odds, k__law_odds := k__law_odds, b__law_odds := b__law_odds,
    F__law_pick := F__law_pick, m__law_pick := PySem.W.mg_of X G a__law_pick, k__law_pick := k__law_pick, b__law_pick := b__law_pick,
    F__law_length := F__law_length, m__law_length := PySem.W.mg_of X G a__law_length, k__law_length := k__law_length, b__law_length := b__law_length,
    F__law_cellcount := F__law_cellcount, m__law_cellcount := PySem.W.mg_of X G a__law_cellcount, k__law_cellcount := k__law_cellcount, b__law_cellcount := b__law_cellcount,
    F__law_badcells := F__law_badcells, m__law_badcells := PySem.W.mg_of X G a__law_badcells, k__law_badcells := k__law_badcells, b__law_badcells := b__law_badcells,
    F__law_moves := F__law_moves, m__law_moves := PySem.W.mg_of X G a__law_moves, k__law_moves := k__law_moves, b__law_moves := b__law_moves,
    F__law_isint := F__law_isint, m__law_isint := PySem.W.mg_of X G a__law_isint, k__law_isint := k__law_isint, b__law_isint := b__law_isint,
    F__law_moveshape := F__law_moveshape, m__law_moveshape := PySem.W.mg_of X G a__law_moveshape, k__law_moveshape := k__law_moveshape, b__law_moveshape := b__law_moveshape,
    F__law_play := F__law_play, m__law_play := PySem.W.mg_of X G a__law_play, k__law_play := k__law_play, b__law_play := b__law_play,
    F__law_leastups := F__law_leastups, m__law_leastups := PySem.W.mg_of X G a__law_leastups, k__law_leastups := k__law_leastups, b__law_leastups := b__law_leastups,
    F__law_same := F__law_same, m__law_same := PySem.W.mg_of X G a__law_same, k__law_same := k__law_same, b__law_same := b__law_same,
    F__law_movesbent := F__law_movesbent, m__law_movesbent := PySem.W.mg_of X G a__law_movesbent, k__law_movesbent := k__law_movesbent, b__law_movesbent := b__law_movesbent,
    F__law_kinds := F__law_kinds, m__law_kinds := PySem.W.mg_of X G a__law_kinds, k__law_kinds := k__law_kinds, b__law_kinds := b__law_kinds,
    F__law_clean := F__law_clean, m__law_clean := PySem.W.mg_of X G a__law_clean, k__law_clean := k__law_clean, b__law_clean := b__law_clean,
    F__law_leasttable := F__law_leasttable, m__law_leasttable := PySem.W.mg_of X G a__law_leasttable, k__law_leasttable := k__law_leasttable, b__law_leasttable := b__law_leasttable,
    F__law_stopof := F__law_stopof, m__law_stopof := PySem.W.mg_of X G a__law_stopof, k__law_stopof := k__law_stopof, b__law_stopof := b__law_stopof,
    F__law_listof := F__law_listof, m__law_listof := PySem.W.mg_of X G a__law_listof, k__law_listof := k__law_listof, b__law_listof := b__law_listof,
    F__law_refusal := F__law_refusal, m__law_refusal := PySem.W.mg_of X G a__law_refusal, k__law_refusal := k__law_refusal, b__law_refusal := b__law_refusal,
    F__law_said := F__law_said, m__law_said := PySem.W.mg_of X G a__law_said, k__law_said := k__law_said, b__law_said := b__law_said,
    F__law_playsright := F__law_playsright, m__law_playsright := PySem.W.mg_of X G a__law_playsright, k__law_playsright := k__law_playsright, b__law_playsright := b__law_playsright,
    F__law_listright := F__law_listright, m__law_listright := PySem.W.mg_of X G a__law_listright, k__law_listright := k__law_listright, b__law_listright := b__law_listright,
    F_law := F_law, m_law := PySem.W.mg_of X G a_law, k_law := k_law, b_law := b_law,
    m_VaultError := PySem.W.mg_of X G ac_VaultError,
    m_NumberError := PySem.W.mg_of X G ac_NumberError,
    m_TextError := PySem.W.mg_of X G ac_TextError,
    m_ShapeError := PySem.W.mg_of X G ac_ShapeError,
    m_PlanError := PySem.W.mg_of X G ac_PlanError,
    m_CourseError := PySem.W.mg_of X G ac_CourseError,
    m_KnowError := PySem.W.mg_of X G ac_KnowError,
    m_PaperError := PySem.W.mg_of X G ac_PaperError,
    m_TooMany := PySem.W.mg_of X G ac_TooMany,
    m_BadPrime := PySem.W.mg_of X G ac_BadPrime,
    m_NoInverse := PySem.W.mg_of X G ac_NoInverse,
    m_NoNumber := PySem.W.mg_of X G ac_NoNumber,
    m_BadTable := PySem.W.mg_of X G ac_BadTable,
    m_BadCells := PySem.W.mg_of X G ac_BadCells,
    m_BadStep := PySem.W.mg_of X G ac_BadStep,
    m_BadBlind := PySem.W.mg_of X G ac_BadBlind,
    m_BadMove := PySem.W.mg_of X G ac_BadMove,
    m_NotShut := PySem.W.mg_of X G ac_NotShut,
    m_NotOpen := PySem.W.mg_of X G ac_NotOpen,
    m_NotTheft := PySem.W.mg_of X G ac_NotTheft,
    m_NotPrice := PySem.W.mg_of X G ac_NotPrice,
    c_BadCells := rfl,
    x_BadCells := ⟨T_BadCells, PySem.W.mg_of X G ac_BadCells, fI_BadCells, _, ["self", "cells"], iC_BadCells, tI_BadCells, init1 FI_BadCells T_BadCells ⟨rfl, rfl, rfl, by decide +kernel, rfl, by decide +kernel, by decide +kernel⟩ nf_BadCells_word nf_BadCells_cells rfl (.inl rfl) (.inl rfl) (by decide +kernel) (by decide +kernel) (fun _ => rfl), bI_BadCells⟩,
    c_BadMove := rfl,
    x_BadMove := ⟨T_BadMove, PySem.W.mg_of X G ac_BadMove, fI_BadMove, _, ["self", "at"], iC_BadMove, tI_BadMove, init1 FI_BadMove T_BadMove ⟨rfl, rfl, rfl, by decide +kernel, rfl, by decide +kernel, by decide +kernel⟩ nf_BadMove_word nf_BadMove_at rfl (.inl rfl) (.inl rfl) (by decide +kernel) (by decide +kernel) (fun _ => rfl), bI_BadMove⟩,
    n_ValueError := PySem.W.mg_none_of X G zb_ValueError,
    n_abs := PySem.W.mg_none_of X G zb_abs,
    n_bool := PySem.W.mg_none_of X G zb_bool,
    n_dict := PySem.W.mg_none_of X G zb_dict,
    n_enumerate := PySem.W.mg_none_of X G zb_enumerate,
    n_int := PySem.W.mg_none_of X G zb_int,
    n_isinstance := PySem.W.mg_none_of X G zb_isinstance,
    n_len := PySem.W.mg_none_of X G zb_len,
    n_list := PySem.W.mg_none_of X G zb_list,
    n_max := PySem.W.mg_none_of X G zb_max,
    n_min := PySem.W.mg_none_of X G zb_min,
    n_range := PySem.W.mg_none_of X G zb_range,
    n_repr := PySem.W.mg_none_of X G zb_repr,
    n_str := PySem.W.mg_none_of X G zb_str,
    n_tuple := PySem.W.mg_none_of X G zb_tuple,
    s_NotPrice := fun c b h => (match c, h with
      | 0, h => (by cases h; exact ⟨E_BadCells, kit_no is_NotPrice ty_NotPrice su_BadCells_NotPrice ne_BadCells_NotPrice⟩)
      | 1, h => (by cases h; exact ⟨E_BadMove, kit_no is_NotPrice ty_NotPrice su_BadMove_NotPrice ne_BadMove_NotPrice⟩)
      | _ + 2, h => (by cases h)),
    s_NotTheft := fun c b h => (match c, h with
      | 0, h => (by cases h; exact ⟨E_BadCells, kit_no is_NotTheft ty_NotTheft su_BadCells_NotTheft ne_BadCells_NotTheft⟩)
      | 1, h => (by cases h; exact ⟨E_BadMove, kit_no is_NotTheft ty_NotTheft su_BadMove_NotTheft ne_BadMove_NotTheft⟩)
      | _ + 2, h => (by cases h)),
    s_NotOpen := fun c b h => (match c, h with
      | 0, h => (by cases h; exact ⟨E_BadCells, kit_no is_NotOpen ty_NotOpen su_BadCells_NotOpen ne_BadCells_NotOpen⟩)
      | 1, h => (by cases h; exact ⟨E_BadMove, kit_no is_NotOpen ty_NotOpen su_BadMove_NotOpen ne_BadMove_NotOpen⟩)
      | _ + 2, h => (by cases h)),
    s_NotShut := fun c b h => (match c, h with
      | 0, h => (by cases h; exact ⟨E_BadCells, kit_no is_NotShut ty_NotShut su_BadCells_NotShut ne_BadCells_NotShut⟩)
      | 1, h => (by cases h; exact ⟨E_BadMove, kit_no is_NotShut ty_NotShut su_BadMove_NotShut ne_BadMove_NotShut⟩)
      | _ + 2, h => (by cases h)),
    s_BadMove := fun c b h => (match c, h with
      | 0, h => (by cases h; exact ⟨E_BadCells, kit_no is_BadMove ty_BadMove su_BadCells_BadMove ne_BadCells_BadMove⟩)
      | 1, h => (by cases h; exact ⟨E_BadMove, kit_yes is_BadMove ty_BadMove su_BadMove_BadMove⟩)
      | _ + 2, h => (by cases h)),
    s_BadBlind := fun c b h => (match c, h with
      | 0, h => (by cases h; exact ⟨E_BadCells, kit_no is_BadBlind ty_BadBlind su_BadCells_BadBlind ne_BadCells_BadBlind⟩)
      | 1, h => (by cases h; exact ⟨E_BadMove, kit_no is_BadBlind ty_BadBlind su_BadMove_BadBlind ne_BadMove_BadBlind⟩)
      | _ + 2, h => (by cases h)),
    s_BadStep := fun c b h => (match c, h with
      | 0, h => (by cases h; exact ⟨E_BadCells, kit_no is_BadStep ty_BadStep su_BadCells_BadStep ne_BadCells_BadStep⟩)
      | 1, h => (by cases h; exact ⟨E_BadMove, kit_no is_BadStep ty_BadStep su_BadMove_BadStep ne_BadMove_BadStep⟩)
      | _ + 2, h => (by cases h)),
    s_BadCells := fun c b h => (match c, h with
      | 0, h => (by cases h; exact ⟨E_BadCells, kit_yes is_BadCells ty_BadCells su_BadCells_BadCells⟩)
      | 1, h => (by cases h; exact ⟨E_BadMove, kit_no is_BadCells ty_BadCells su_BadMove_BadCells ne_BadMove_BadCells⟩)
      | _ + 2, h => (by cases h)),
    s_BadTable := fun c b h => (match c, h with
      | 0, h => (by cases h; exact ⟨E_BadCells, kit_no is_BadTable ty_BadTable su_BadCells_BadTable ne_BadCells_BadTable⟩)
      | 1, h => (by cases h; exact ⟨E_BadMove, kit_no is_BadTable ty_BadTable su_BadMove_BadTable ne_BadMove_BadTable⟩)
      | _ + 2, h => (by cases h)),
    s_NoNumber := fun c b h => (match c, h with
      | 0, h => (by cases h; exact ⟨E_BadCells, kit_no is_NoNumber ty_NoNumber su_BadCells_NoNumber ne_BadCells_NoNumber⟩)
      | 1, h => (by cases h; exact ⟨E_BadMove, kit_no is_NoNumber ty_NoNumber su_BadMove_NoNumber ne_BadMove_NoNumber⟩)
      | _ + 2, h => (by cases h)),
    s_NoInverse := fun c b h => (match c, h with
      | 0, h => (by cases h; exact ⟨E_BadCells, kit_no is_NoInverse ty_NoInverse su_BadCells_NoInverse ne_BadCells_NoInverse⟩)
      | 1, h => (by cases h; exact ⟨E_BadMove, kit_no is_NoInverse ty_NoInverse su_BadMove_NoInverse ne_BadMove_NoInverse⟩)
      | _ + 2, h => (by cases h)),
    s_BadPrime := fun c b h => (match c, h with
      | 0, h => (by cases h; exact ⟨E_BadCells, kit_no is_BadPrime ty_BadPrime su_BadCells_BadPrime ne_BadCells_BadPrime⟩)
      | 1, h => (by cases h; exact ⟨E_BadMove, kit_no is_BadPrime ty_BadPrime su_BadMove_BadPrime ne_BadMove_BadPrime⟩)
      | _ + 2, h => (by cases h)),
    s_TooMany := fun c b h => (match c, h with
      | 0, h => (by cases h; exact ⟨E_BadCells, kit_no is_TooMany ty_TooMany su_BadCells_TooMany ne_BadCells_TooMany⟩)
      | 1, h => (by cases h; exact ⟨E_BadMove, kit_no is_TooMany ty_TooMany su_BadMove_TooMany ne_BadMove_TooMany⟩)
      | _ + 2, h => (by cases h)),
    s_PaperError := fun c b h => (match c, h with
      | 0, h => (by cases h; exact ⟨E_BadCells, kit_no is_PaperError ty_PaperError su_BadCells_PaperError ne_BadCells_PaperError⟩)
      | 1, h => (by cases h; exact ⟨E_BadMove, kit_yes is_PaperError ty_PaperError su_BadMove_PaperError⟩)
      | _ + 2, h => (by cases h)),
    s_KnowError := fun c b h => (match c, h with
      | 0, h => (by cases h; exact ⟨E_BadCells, kit_no is_KnowError ty_KnowError su_BadCells_KnowError ne_BadCells_KnowError⟩)
      | 1, h => (by cases h; exact ⟨E_BadMove, kit_no is_KnowError ty_KnowError su_BadMove_KnowError ne_BadMove_KnowError⟩)
      | _ + 2, h => (by cases h)),
    s_CourseError := fun c b h => (match c, h with
      | 0, h => (by cases h; exact ⟨E_BadCells, kit_no is_CourseError ty_CourseError su_BadCells_CourseError ne_BadCells_CourseError⟩)
      | 1, h => (by cases h; exact ⟨E_BadMove, kit_no is_CourseError ty_CourseError su_BadMove_CourseError ne_BadMove_CourseError⟩)
      | _ + 2, h => (by cases h)),
    s_PlanError := fun c b h => (match c, h with
      | 0, h => (by cases h; exact ⟨E_BadCells, kit_no is_PlanError ty_PlanError su_BadCells_PlanError ne_BadCells_PlanError⟩)
      | 1, h => (by cases h; exact ⟨E_BadMove, kit_no is_PlanError ty_PlanError su_BadMove_PlanError ne_BadMove_PlanError⟩)
      | _ + 2, h => (by cases h)),
    s_ShapeError := fun c b h => (match c, h with
      | 0, h => (by cases h; exact ⟨E_BadCells, kit_no is_ShapeError ty_ShapeError su_BadCells_ShapeError ne_BadCells_ShapeError⟩)
      | 1, h => (by cases h; exact ⟨E_BadMove, kit_no is_ShapeError ty_ShapeError su_BadMove_ShapeError ne_BadMove_ShapeError⟩)
      | _ + 2, h => (by cases h)),
    s_TextError := fun c b h => (match c, h with
      | 0, h => (by cases h; exact ⟨E_BadCells, kit_no is_TextError ty_TextError su_BadCells_TextError ne_BadCells_TextError⟩)
      | 1, h => (by cases h; exact ⟨E_BadMove, kit_no is_TextError ty_TextError su_BadMove_TextError ne_BadMove_TextError⟩)
      | _ + 2, h => (by cases h)),
    s_NumberError := fun c b h => (match c, h with
      | 0, h => (by cases h; exact ⟨E_BadCells, kit_yes is_NumberError ty_NumberError su_BadCells_NumberError⟩)
      | 1, h => (by cases h; exact ⟨E_BadMove, kit_no is_NumberError ty_NumberError su_BadMove_NumberError ne_BadMove_NumberError⟩)
      | _ + 2, h => (by cases h)),
    s_ValueError := fun c b h => (match c, h with
      | 0, h => (by cases h; exact ⟨E_BadCells, kit_ty (by decide +kernel) su_BadCells_ValueError⟩)
      | 1, h => (by cases h; exact ⟨E_BadMove, kit_ty (by decide +kernel) su_BadMove_ValueError⟩)
      | _ + 2, h => (by cases h)),
    t_VaultError := fun c b h => (match c, h with
      | 0, h => (by cases h; exact exm_cls be_VaultError is_VaultError ty_VaultError su_BadCells_VaultError)
      | 1, h => (by cases h; exact exm_cls be_VaultError is_VaultError ty_VaultError su_BadMove_VaultError)
      | _ + 2, h => (by cases h)),
    k_fld_word := fun c h => (match c, h with
      | 0, h => ⟨Z_BadCells, nf_BadCells_word⟩
      | 1, h => ⟨Z_BadMove, nf_BadMove_word⟩
      | _ + 2, h => (by cases h)),
    k_fld_cells := fun c h => (match c, h with
      | 0, h => ⟨Z_BadCells, nf_BadCells_cells⟩
      | 1, h => ⟨Z_BadMove, nf_BadMove_cells⟩
      | _ + 2, h => (by cases h)),
    k_fld_at := fun c h => (match c, h with
      | 0, h => ⟨Z_BadCells, nf_BadCells_at⟩
      | 1, h => ⟨Z_BadMove, nf_BadMove_at⟩
      | _ + 2, h => (by cases h)) }⟩
end L
open PySem PySem.W PyProof.Rows in
set_option maxRecDepth 100000 in
set_option maxHeartbeats 0 in
theorem PySem.Challenge.cw_holdingsshut_k12_move_lists_played_holds : PySem.Challenge.rw_holdingsshut_k12_move_lists_played.Holds := by
  w_on; o_law; k_head; (case hw => w_witness2)
  k_fill
  refine VS.law_walk (l := PySem.Challenge.rw_holdingsshut_k12_move_lists_played) (k := 49) L.F_law rfl rfl ⟨rfl, by decide, by decide⟩ (fun w h Y => PySem.W.kIn_of Y) L.law_true ?F
  case F =>
    intro w mg fa h KX G hmg
    refine' L.all_mk KX G hmg ?a_whole_between ?l_whole_between ?c_whole_between ?k_whole_between ?a_need_cells ?l_need_cells ?c_need_cells ?k_need_cells ?a_round_bounds ?l_round_bounds ?c_round_bounds ?k_round_bounds ?a_steps_row ?l_steps_row ?c_steps_row ?k_steps_row ?a_least_stop ?l_least_stop ?c_least_stop ?k_least_stop ?a_move_list ?l_move_list ?c_move_list ?k_move_list ?a_is_up ?l_is_up ?c_is_up ?k_is_up ?a_is_read ?l_is_read ?c_is_read ?k_is_read ?a_check_moves ?l_check_moves ?c_check_moves ?k_check_moves ?a__law_store ?l__law_store ?c__law_store ?k__law_store ?a__law_mix ?l__law_mix ?c__law_mix ?k__law_mix ?a__law_take ?l__law_take ?c__law_take ?k__law_take ?a__law_edge ?l__law_edge ?c__law_edge ?k__law_edge ?a__law_odds ?l__law_odds ?c__law_odds ?k__law_odds ?a__law_pick ?l__law_pick ?c__law_pick ?k__law_pick ?a__law_length ?l__law_length ?c__law_length ?k__law_length ?a__law_cellcount ?l__law_cellcount ?c__law_cellcount ?k__law_cellcount ?a__law_badcells ?l__law_badcells ?c__law_badcells ?k__law_badcells ?a__law_moves ?l__law_moves ?c__law_moves ?k__law_moves ?a__law_isint ?l__law_isint ?c__law_isint ?k__law_isint ?a__law_moveshape ?l__law_moveshape ?c__law_moveshape ?k__law_moveshape ?a__law_play ?l__law_play ?c__law_play ?k__law_play ?a__law_leastups ?l__law_leastups ?c__law_leastups ?k__law_leastups ?a__law_same ?l__law_same ?c__law_same ?k__law_same ?a__law_movesbent ?l__law_movesbent ?c__law_movesbent ?k__law_movesbent ?a__law_kinds ?l__law_kinds ?c__law_kinds ?k__law_kinds ?a__law_clean ?l__law_clean ?c__law_clean ?k__law_clean ?a__law_leasttable ?l__law_leasttable ?c__law_leasttable ?k__law_leasttable ?a__law_stopof ?l__law_stopof ?c__law_stopof ?k__law_stopof ?a__law_listof ?l__law_listof ?c__law_listof ?k__law_listof ?a__law_refusal ?l__law_refusal ?c__law_refusal ?k__law_refusal ?a__law_said ?l__law_said ?c__law_said ?k__law_said ?a__law_playsright ?l__law_playsright ?c__law_playsright ?k__law_playsright ?a__law_listright ?l__law_listright ?c__law_listright ?k__law_listright ?a_law ?l_law ?c_law ?k_law ?ac_VaultError ?ac_NumberError ?ac_TextError ?ac_ShapeError ?ac_PlanError ?ac_CourseError ?ac_KnowError ?ac_PaperError ?ac_TooMany ?ac_BadPrime ?ac_NoInverse ?ac_NoNumber ?ac_BadTable ?ac_BadCells ?ac_BadStep ?ac_BadBlind ?ac_BadMove ?ac_NotShut ?ac_NotOpen ?ac_NotTheft ?ac_NotPrice ?xL_BadCells ?xv_BadCells ?sa_BadCells ?eC_BadCells ?tC_BadCells ?kC_BadCells ?iC_BadCells ?tI_BadCells ?lI_BadCells ?cI_BadCells ?kI_BadCells ?nf_BadCells_at ?nf_BadCells_cells ?nf_BadCells_word ?hg_BadCells ?hk_BadCells ?hd_BadCells ?ha_BadCells ?hm_BadCells ?su_BadCells_NotPrice ?ne_BadCells_NotPrice ?su_BadCells_NotTheft ?ne_BadCells_NotTheft ?su_BadCells_NotOpen ?ne_BadCells_NotOpen ?su_BadCells_NotShut ?ne_BadCells_NotShut ?su_BadCells_BadMove ?ne_BadCells_BadMove ?su_BadCells_BadBlind ?ne_BadCells_BadBlind ?su_BadCells_BadStep ?ne_BadCells_BadStep ?su_BadCells_BadCells ?su_BadCells_BadTable ?ne_BadCells_BadTable ?su_BadCells_NoNumber ?ne_BadCells_NoNumber ?su_BadCells_NoInverse ?ne_BadCells_NoInverse ?su_BadCells_BadPrime ?ne_BadCells_BadPrime ?su_BadCells_TooMany ?ne_BadCells_TooMany ?su_BadCells_PaperError ?ne_BadCells_PaperError ?su_BadCells_KnowError ?ne_BadCells_KnowError ?su_BadCells_CourseError ?ne_BadCells_CourseError ?su_BadCells_PlanError ?ne_BadCells_PlanError ?su_BadCells_ShapeError ?ne_BadCells_ShapeError ?su_BadCells_TextError ?ne_BadCells_TextError ?su_BadCells_NumberError ?su_BadCells_ValueError ?su_BadCells_VaultError ?xL_BadMove ?xv_BadMove ?sa_BadMove ?eC_BadMove ?tC_BadMove ?kC_BadMove ?iC_BadMove ?tI_BadMove ?lI_BadMove ?cI_BadMove ?kI_BadMove ?nf_BadMove_at ?nf_BadMove_cells ?nf_BadMove_word ?hg_BadMove ?hk_BadMove ?hd_BadMove ?ha_BadMove ?hm_BadMove ?su_BadMove_NotPrice ?ne_BadMove_NotPrice ?su_BadMove_NotTheft ?ne_BadMove_NotTheft ?su_BadMove_NotOpen ?ne_BadMove_NotOpen ?su_BadMove_NotShut ?ne_BadMove_NotShut ?su_BadMove_BadMove ?su_BadMove_BadBlind ?ne_BadMove_BadBlind ?su_BadMove_BadStep ?ne_BadMove_BadStep ?su_BadMove_BadCells ?ne_BadMove_BadCells ?su_BadMove_BadTable ?ne_BadMove_BadTable ?su_BadMove_NoNumber ?ne_BadMove_NoNumber ?su_BadMove_NoInverse ?ne_BadMove_NoInverse ?su_BadMove_BadPrime ?ne_BadMove_BadPrime ?su_BadMove_TooMany ?ne_BadMove_TooMany ?su_BadMove_PaperError ?su_BadMove_KnowError ?ne_BadMove_KnowError ?su_BadMove_CourseError ?ne_BadMove_CourseError ?su_BadMove_PlanError ?ne_BadMove_PlanError ?su_BadMove_ShapeError ?ne_BadMove_ShapeError ?su_BadMove_TextError ?ne_BadMove_TextError ?su_BadMove_NumberError ?ne_BadMove_NumberError ?su_BadMove_ValueError ?su_BadMove_VaultError ?is_NotPrice ?ty_NotPrice ?is_NotTheft ?ty_NotTheft ?is_NotOpen ?ty_NotOpen ?is_NotShut ?ty_NotShut ?is_BadMove ?ty_BadMove ?is_BadBlind ?ty_BadBlind ?is_BadStep ?ty_BadStep ?is_BadCells ?ty_BadCells ?is_BadTable ?ty_BadTable ?is_NoNumber ?ty_NoNumber ?is_NoInverse ?ty_NoInverse ?is_BadPrime ?ty_BadPrime ?is_TooMany ?ty_TooMany ?is_PaperError ?ty_PaperError ?is_KnowError ?ty_KnowError ?is_CourseError ?ty_CourseError ?is_PlanError ?ty_PlanError ?is_ShapeError ?ty_ShapeError ?is_TextError ?ty_TextError ?is_NumberError ?ty_NumberError ?is_VaultError ?ty_VaultError ?be_VaultError ?hn ?ht ?zb_ValueError ?zb_abs ?zb_bool ?zb_dict ?zb_enumerate ?zb_int ?zb_isinstance ?zb_len ?zb_list ?zb_max ?zb_min ?zb_range ?zb_repr ?zb_str ?zb_tuple
    (case a_whole_between => k_is)
    (case l_whole_between => k_is)
    (case c_whole_between => k_is)
    (case k_whole_between => k_is)
    (case a_need_cells => k_is)
    (case l_need_cells => k_is)
    (case c_need_cells => k_is)
    (case k_need_cells => k_is)
    (case a_round_bounds => k_is)
    (case l_round_bounds => k_is)
    (case c_round_bounds => k_is)
    (case k_round_bounds => k_is)
    (case a_steps_row => k_is)
    (case l_steps_row => k_is)
    (case c_steps_row => k_is)
    (case k_steps_row => k_is)
    (case a_least_stop => k_is)
    (case l_least_stop => k_is)
    (case c_least_stop => k_is)
    (case k_least_stop => k_is)
    (case a_move_list => k_is)
    (case l_move_list => k_is)
    (case c_move_list => k_is)
    (case k_move_list => k_is)
    (case a_is_up => k_is)
    (case l_is_up => k_is)
    (case c_is_up => k_is)
    (case k_is_up => k_is)
    (case a_is_read => k_is)
    (case l_is_read => k_is)
    (case c_is_read => k_is)
    (case k_is_read => k_is)
    (case a_check_moves => k_is)
    (case l_check_moves => k_is)
    (case c_check_moves => k_is)
    (case k_check_moves => k_is)
    (case a__law_store => k_is)
    (case l__law_store => k_is)
    (case c__law_store => k_is)
    (case k__law_store => k_is)
    (case a__law_mix => k_is)
    (case l__law_mix => k_is)
    (case c__law_mix => k_is)
    (case k__law_mix => k_is)
    (case a__law_take => k_is)
    (case l__law_take => k_is)
    (case c__law_take => k_is)
    (case k__law_take => k_is)
    (case a__law_edge => k_is)
    (case l__law_edge => k_is)
    (case c__law_edge => k_is)
    (case k__law_edge => k_is)
    (case a__law_odds => k_is)
    (case l__law_odds => k_is)
    (case c__law_odds => k_is)
    (case k__law_odds => k_is)
    (case a__law_pick => k_is)
    (case l__law_pick => k_is)
    (case c__law_pick => k_is)
    (case k__law_pick => k_is)
    (case a__law_length => k_is)
    (case l__law_length => k_is)
    (case c__law_length => k_is)
    (case k__law_length => k_is)
    (case a__law_cellcount => k_is)
    (case l__law_cellcount => k_is)
    (case c__law_cellcount => k_is)
    (case k__law_cellcount => k_is)
    (case a__law_badcells => k_is)
    (case l__law_badcells => k_is)
    (case c__law_badcells => k_is)
    (case k__law_badcells => k_is)
    (case a__law_moves => k_is)
    (case l__law_moves => k_is)
    (case c__law_moves => k_is)
    (case k__law_moves => k_is)
    (case a__law_isint => k_is)
    (case l__law_isint => k_is)
    (case c__law_isint => k_is)
    (case k__law_isint => k_is)
    (case a__law_moveshape => k_is)
    (case l__law_moveshape => k_is)
    (case c__law_moveshape => k_is)
    (case k__law_moveshape => k_is)
    (case a__law_play => k_is)
    (case l__law_play => k_is)
    (case c__law_play => k_is)
    (case k__law_play => k_is)
    (case a__law_leastups => k_is)
    (case l__law_leastups => k_is)
    (case c__law_leastups => k_is)
    (case k__law_leastups => k_is)
    (case a__law_same => k_is)
    (case l__law_same => k_is)
    (case c__law_same => k_is)
    (case k__law_same => k_is)
    (case a__law_movesbent => k_is)
    (case l__law_movesbent => k_is)
    (case c__law_movesbent => k_is)
    (case k__law_movesbent => k_is)
    (case a__law_kinds => k_is)
    (case l__law_kinds => k_is)
    (case c__law_kinds => k_is)
    (case k__law_kinds => k_is)
    (case a__law_clean => k_is)
    (case l__law_clean => k_is)
    (case c__law_clean => k_is)
    (case k__law_clean => k_is)
    (case a__law_leasttable => k_is)
    (case l__law_leasttable => k_is)
    (case c__law_leasttable => k_is)
    (case k__law_leasttable => k_is)
    (case a__law_stopof => k_is)
    (case l__law_stopof => k_is)
    (case c__law_stopof => k_is)
    (case k__law_stopof => k_is)
    (case a__law_listof => k_is)
    (case l__law_listof => k_is)
    (case c__law_listof => k_is)
    (case k__law_listof => k_is)
    (case a__law_refusal => k_is)
    (case l__law_refusal => k_is)
    (case c__law_refusal => k_is)
    (case k__law_refusal => k_is)
    (case a__law_said => k_is)
    (case l__law_said => k_is)
    (case c__law_said => k_is)
    (case k__law_said => k_is)
    (case a__law_playsright => k_is)
    (case l__law_playsright => k_is)
    (case c__law_playsright => k_is)
    (case k__law_playsright => k_is)
    (case a__law_listright => k_is)
    (case l__law_listright => k_is)
    (case c__law_listright => k_is)
    (case k__law_listright => k_is)
    (case a_law => k_is)
    (case l_law => k_is)
    (case c_law => k_is)
    (case k_law => k_is)
    (case ac_VaultError => k_is)
    (case ac_NumberError => k_is)
    (case ac_TextError => k_is)
    (case ac_ShapeError => k_is)
    (case ac_PlanError => k_is)
    (case ac_CourseError => k_is)
    (case ac_KnowError => k_is)
    (case ac_PaperError => k_is)
    (case ac_TooMany => k_is)
    (case ac_BadPrime => k_is)
    (case ac_NoInverse => k_is)
    (case ac_NoNumber => k_is)
    (case ac_BadTable => k_is)
    (case ac_BadCells => k_is)
    (case ac_BadStep => k_is)
    (case ac_BadBlind => k_is)
    (case ac_BadMove => k_is)
    (case ac_NotShut => k_is)
    (case ac_NotOpen => k_is)
    (case ac_NotTheft => k_is)
    (case ac_NotPrice => k_is)
    (case xL_BadCells => k_is)
    (case xv_BadCells => first | rfl | decide +kernel)
    (case sa_BadCells => k_is)
    (case eC_BadCells => k_is)
    (case tC_BadCells => k_is)
    (case kC_BadCells => k_is)
    (case iC_BadCells => k_is)
    (case tI_BadCells => k_is)
    (case lI_BadCells => k_is)
    (case cI_BadCells => k_is)
    (case kI_BadCells => k_is)
    (case nf_BadCells_at => k_is)
    (case nf_BadCells_cells => k_is)
    (case nf_BadCells_word => k_is)
    (case hg_BadCells => k_is)
    (case hk_BadCells => k_is)
    (case hd_BadCells => k_is)
    (case ha_BadCells => k_is)
    (case hm_BadCells => k_is)
    (case su_BadCells_NotPrice => first | rfl | k_is)
    (case ne_BadCells_NotPrice => first | rfl | decide +kernel)
    (case su_BadCells_NotTheft => first | rfl | k_is)
    (case ne_BadCells_NotTheft => first | rfl | decide +kernel)
    (case su_BadCells_NotOpen => first | rfl | k_is)
    (case ne_BadCells_NotOpen => first | rfl | decide +kernel)
    (case su_BadCells_NotShut => first | rfl | k_is)
    (case ne_BadCells_NotShut => first | rfl | decide +kernel)
    (case su_BadCells_BadMove => first | rfl | k_is)
    (case ne_BadCells_BadMove => first | rfl | decide +kernel)
    (case su_BadCells_BadBlind => first | rfl | k_is)
    (case ne_BadCells_BadBlind => first | rfl | decide +kernel)
    (case su_BadCells_BadStep => first | rfl | k_is)
    (case ne_BadCells_BadStep => first | rfl | decide +kernel)
    (case su_BadCells_BadCells => first | rfl | k_is)
    (case su_BadCells_BadTable => first | rfl | k_is)
    (case ne_BadCells_BadTable => first | rfl | decide +kernel)
    (case su_BadCells_NoNumber => first | rfl | k_is)
    (case ne_BadCells_NoNumber => first | rfl | decide +kernel)
    (case su_BadCells_NoInverse => first | rfl | k_is)
    (case ne_BadCells_NoInverse => first | rfl | decide +kernel)
    (case su_BadCells_BadPrime => first | rfl | k_is)
    (case ne_BadCells_BadPrime => first | rfl | decide +kernel)
    (case su_BadCells_TooMany => first | rfl | k_is)
    (case ne_BadCells_TooMany => first | rfl | decide +kernel)
    (case su_BadCells_PaperError => first | rfl | k_is)
    (case ne_BadCells_PaperError => first | rfl | decide +kernel)
    (case su_BadCells_KnowError => first | rfl | k_is)
    (case ne_BadCells_KnowError => first | rfl | decide +kernel)
    (case su_BadCells_CourseError => first | rfl | k_is)
    (case ne_BadCells_CourseError => first | rfl | decide +kernel)
    (case su_BadCells_PlanError => first | rfl | k_is)
    (case ne_BadCells_PlanError => first | rfl | decide +kernel)
    (case su_BadCells_ShapeError => first | rfl | k_is)
    (case ne_BadCells_ShapeError => first | rfl | decide +kernel)
    (case su_BadCells_TextError => first | rfl | k_is)
    (case ne_BadCells_TextError => first | rfl | decide +kernel)
    (case su_BadCells_NumberError => first | rfl | k_is)
    (case su_BadCells_ValueError => first | rfl | k_is)
    (case su_BadCells_VaultError => first | rfl | k_is)
    (case xL_BadMove => k_is)
    (case xv_BadMove => first | rfl | decide +kernel)
    (case sa_BadMove => k_is)
    (case eC_BadMove => k_is)
    (case tC_BadMove => k_is)
    (case kC_BadMove => k_is)
    (case iC_BadMove => k_is)
    (case tI_BadMove => k_is)
    (case lI_BadMove => k_is)
    (case cI_BadMove => k_is)
    (case kI_BadMove => k_is)
    (case nf_BadMove_at => k_is)
    (case nf_BadMove_cells => k_is)
    (case nf_BadMove_word => k_is)
    (case hg_BadMove => k_is)
    (case hk_BadMove => k_is)
    (case hd_BadMove => k_is)
    (case ha_BadMove => k_is)
    (case hm_BadMove => k_is)
    (case su_BadMove_NotPrice => first | rfl | k_is)
    (case ne_BadMove_NotPrice => first | rfl | decide +kernel)
    (case su_BadMove_NotTheft => first | rfl | k_is)
    (case ne_BadMove_NotTheft => first | rfl | decide +kernel)
    (case su_BadMove_NotOpen => first | rfl | k_is)
    (case ne_BadMove_NotOpen => first | rfl | decide +kernel)
    (case su_BadMove_NotShut => first | rfl | k_is)
    (case ne_BadMove_NotShut => first | rfl | decide +kernel)
    (case su_BadMove_BadMove => first | rfl | k_is)
    (case su_BadMove_BadBlind => first | rfl | k_is)
    (case ne_BadMove_BadBlind => first | rfl | decide +kernel)
    (case su_BadMove_BadStep => first | rfl | k_is)
    (case ne_BadMove_BadStep => first | rfl | decide +kernel)
    (case su_BadMove_BadCells => first | rfl | k_is)
    (case ne_BadMove_BadCells => first | rfl | decide +kernel)
    (case su_BadMove_BadTable => first | rfl | k_is)
    (case ne_BadMove_BadTable => first | rfl | decide +kernel)
    (case su_BadMove_NoNumber => first | rfl | k_is)
    (case ne_BadMove_NoNumber => first | rfl | decide +kernel)
    (case su_BadMove_NoInverse => first | rfl | k_is)
    (case ne_BadMove_NoInverse => first | rfl | decide +kernel)
    (case su_BadMove_BadPrime => first | rfl | k_is)
    (case ne_BadMove_BadPrime => first | rfl | decide +kernel)
    (case su_BadMove_TooMany => first | rfl | k_is)
    (case ne_BadMove_TooMany => first | rfl | decide +kernel)
    (case su_BadMove_PaperError => first | rfl | k_is)
    (case su_BadMove_KnowError => first | rfl | k_is)
    (case ne_BadMove_KnowError => first | rfl | decide +kernel)
    (case su_BadMove_CourseError => first | rfl | k_is)
    (case ne_BadMove_CourseError => first | rfl | decide +kernel)
    (case su_BadMove_PlanError => first | rfl | k_is)
    (case ne_BadMove_PlanError => first | rfl | decide +kernel)
    (case su_BadMove_ShapeError => first | rfl | k_is)
    (case ne_BadMove_ShapeError => first | rfl | decide +kernel)
    (case su_BadMove_TextError => first | rfl | k_is)
    (case ne_BadMove_TextError => first | rfl | decide +kernel)
    (case su_BadMove_NumberError => first | rfl | k_is)
    (case ne_BadMove_NumberError => first | rfl | decide +kernel)
    (case su_BadMove_ValueError => first | rfl | k_is)
    (case su_BadMove_VaultError => first | rfl | k_is)
    (case is_NotPrice => k_is)
    (case ty_NotPrice => k_is)
    (case is_NotTheft => k_is)
    (case ty_NotTheft => k_is)
    (case is_NotOpen => k_is)
    (case ty_NotOpen => k_is)
    (case is_NotShut => k_is)
    (case ty_NotShut => k_is)
    (case is_BadMove => k_is)
    (case ty_BadMove => k_is)
    (case is_BadBlind => k_is)
    (case ty_BadBlind => k_is)
    (case is_BadStep => k_is)
    (case ty_BadStep => k_is)
    (case is_BadCells => k_is)
    (case ty_BadCells => k_is)
    (case is_BadTable => k_is)
    (case ty_BadTable => k_is)
    (case is_NoNumber => k_is)
    (case ty_NoNumber => k_is)
    (case is_NoInverse => k_is)
    (case ty_NoInverse => k_is)
    (case is_BadPrime => k_is)
    (case ty_BadPrime => k_is)
    (case is_TooMany => k_is)
    (case ty_TooMany => k_is)
    (case is_PaperError => k_is)
    (case ty_PaperError => k_is)
    (case is_KnowError => k_is)
    (case ty_KnowError => k_is)
    (case is_CourseError => k_is)
    (case ty_CourseError => k_is)
    (case is_PlanError => k_is)
    (case ty_PlanError => k_is)
    (case is_ShapeError => k_is)
    (case ty_ShapeError => k_is)
    (case is_TextError => k_is)
    (case ty_TextError => k_is)
    (case is_NumberError => k_is)
    (case ty_NumberError => k_is)
    (case is_VaultError => k_is)
    (case ty_VaultError => k_is)
    (case be_VaultError => k_is)
    (case hn => k_is)
    (case ht => k_is)
    (case zb_ValueError => k_is)
    (case zb_abs => k_is)
    (case zb_bool => k_is)
    (case zb_dict => k_is)
    (case zb_enumerate => k_is)
    (case zb_int => k_is)
    (case zb_isinstance => k_is)
    (case zb_len => k_is)
    (case zb_list => k_is)
    (case zb_max => k_is)
    (case zb_min => k_is)
    (case zb_range => k_is)
    (case zb_repr => k_is)
    (case zb_str => k_is)
    (case zb_tuple => k_is)
end
