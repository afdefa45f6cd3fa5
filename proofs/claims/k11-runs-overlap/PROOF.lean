import PyProof.Rows.All
import Wide.All
import OpenK.AllK
import Wide.FinOn
import HandS.ForMost
import HandS.NoneIn
import HandS.Walk
import HandS.Defaults
import HandS.TupAny
import HandS.Deep
import HandS.IsInst
import HandS.SortInts
import HandS.WideBits
import HandS.DictComp
import HandS.MakeKwOnly
import HandS.Zip
import HandS.SetKeys
import HandS.Style
import PyProof.Rows.RuleB_pow
import HandS.OwnEq
import HandS.Conv
import HandS.More
import KE.SortData
import HandS.Star
import HandS.Flow
import KE.KStateDown
import Lean
import HandS.Base
import HandS.Call
import HandS.Ends
import HandS.Words
import HandS.Head0
import HandS.Head1
import HandS.Head2
import HandS.HeadEnd
import HandS.HeadHook1
import HandS.HeadHook2
import KE.Datum
import PySem.Challenge.RW_runturns_k11_whole_runs_that_overlap
set_option Elab.async false
set_option linter.all false
set_option maxRecDepth 100000
set_option maxHeartbeats 4000000
/-! Data as trees over the hand layer: values told by what they hold, local containers that are owned and may change. -/
namespace DL
open PySem PySem.Spec L2

/-- a dict's key: an int or a text, or a tuple of such -/
abbrev DKey := Sum Key (List Key)
/-- a value as a tree -/
inductive D where
  | non | bl (b : Bool) | int (i : Int) | str (x : Str)
  | lst (xs : List D) | tup (xs : List D) | dct (ks : List DKey) (vs : List D) | obj (c : Str) (ns : List Str) (vs : List D)
  | purse | ty (n : String) | cl (c : Str) | scr (ns : List Int)

/-- the purses: which they are, how far their counters may have run -/
structure Pu where
  is : Addr → Bool
  n : Nat
instance : CoeFun Pu (fun _ => Addr → Bool) := ⟨Pu.is⟩
/-- a list of the written part -/
def StatL (K : PySem.W.Frag) (a : Addr) (xs : List V) : Prop :=
  ∃ (o : Obj) (its : Array Value) (n : Nat), K.lookup a = some o ∧ o.cls = .type "list" ∧ o.dict = none ∧ o.data = .seq its n ∧ its.size ≤ sizeLine ∧ Vals xs its.toList
/-- what the module's facts are about -/
structure Wd where
  K : PySem.W.Frag
  cls : Str → Option Addr
  /-- in an __init__: the object that is made, the only one that may be owned -/
  me : Option Addr := none

/-- a tuple of the written part -/
def StatT (K : PySem.W.Frag) (a : Addr) (xs : List V) : Prop :=
  ∃ (o : Obj) (its : Array Value) (n : Nat), K.lookup a = some o ∧ o.cls = .type "tuple" ∧ o.data = .seq its n ∧ its.size ≤ sizeLine ∧ Vals xs its.toList

def kD : Key → D
  | .inl i => .int i
  | .inr x => .str x
/-- a dict at a: its keys in order, its values -/
def DctAt (H : Hp) (a : Addr) (ks : List DKey) (vs : List V) : Prop :=
  ks.length = vs.length ∧ ((∃ k1 : List Key, ks = k1.map Sum.inl ∧ Rd H a (.dK (k1.zip vs))) ∨ (∃ k2 : List (List Key), k2 ≠ [] ∧ ks = k2.map Sum.inr ∧ Rd H a (.dT (k2.zip vs))))

mutual
/-- v stands for the tree, by what is seen in S -/
def Rep (W : Wd) (pu : Pu) (S : Hp) : D → V → Prop
  | .non, v => v = .non
  | .bl b, v => v = .bl b
  | .int i, v => v = .int i
  | .str x, v => v = .str x
  | .lst ds, v => ∃ a vs, v = .ref a ∧ Rd S a (.lst vs) ∧ pu a = false ∧ Reps W pu S ds vs
  | .tup ds, v => ∃ a vs, v = .ref a ∧ ((Rd S a (.tup vs) ∧ pu a = false) ∨ StatT W.K a vs) ∧ Reps W pu S ds vs
  | .dct ks ds, v => ∃ a vs, v = .ref a ∧ DctAt S a ks vs ∧ pu a = false ∧ Reps W pu S ds vs
  | .obj c ns ds, v => ∃ a C dx vs, v = .ref a ∧ W.cls c = some C ∧ S a = some (.ins C dx (ns.zip vs)) ∧ pu a = false ∧ ns.length = vs.length ∧ Reps W pu S ds vs
  | .purse, v => ∃ a, v = .ref a ∧ pu a = true
  | .ty n, v => v = .ty n
  | .cl c, v => ∃ C, W.cls c = some C ∧ v = .ref C
  | .scr ns, v => ∃ a, v = .ref a ∧ ((Rd S a (.lst (ns.map V.int)) ∧ pu a = false) ∨ StatL W.K a (ns.map V.int))
def Reps (W : Wd) (pu : Pu) (S : Hp) : List D → List V → Prop
  | [], vs => vs = []
  | d :: ds, vs => ∃ v r, vs = v :: r ∧ Rep W pu S d v ∧ Reps W pu S ds r
end

/-- a purse: four ints, the first three of at least 0, the second below the law's line -/
def PurseAt (N : Nat) (H : Hp) (a : Addr) : Prop := ∃ n m k i : Int, H a = some (.lst [.int n, .int m, .int k, .int i]) ∧ 0 ≤ n ∧ 0 ≤ m ∧ m < 2147483629 ∧ (0 ≤ k ∧ k ≤ N) ∧ 0 ≤ i ∧ i < 64

/-- what later states keep: all but the purses as it was, purses are purses -/
structure Stp (pu : Pu) (H : Hp) (pu' : Pu) (H' : Hp) : Prop where
  kp : ∀ a o, H a = some o → pu a = false → H' a = some o
  up : ∀ a, pu a = true → pu' a = true
  nw : ∀ a, pu' a = true → pu a = true ∨ H a = none
  ok : ∀ a, pu' a = true → PurseAt pu'.n H' a

theorem Stp.refl {pu : Pu} {H : Hp} (h : ∀ a, pu a = true → PurseAt pu.n H a) : Stp pu H pu H :=
  ⟨fun _ _ e _ => e, fun _ h => h, fun _ h => .inl h, h⟩
theorem Stp.some {pu pu' : Pu} {H H' : Hp} (s : Stp pu H pu' H') {a : Addr} {o : HO} (e : H a = some o) : ∃ o', H' a = some o' := by
  cases h : pu a with
  | false => exact ⟨o, s.kp a o e h⟩
  | true =>
    obtain ⟨_, _, _, _, q, _⟩ := s.ok a (s.up a h)
    exact ⟨_, q⟩
theorem Stp.none {pu pu' : Pu} {H H' : Hp} (s : Stp pu H pu' H') {a : Addr} (e : H' a = none) : H a = none := by
  cases h : H a with
  | none => rfl
  | some o =>
    obtain ⟨o', q⟩ := s.some h
    rw [e] at q; cases q
theorem Stp.trans {p0 p1 p2 : Pu} {H0 H1 H2 : Hp} (a : Stp p0 H0 p1 H1) (b : Stp p1 H1 p2 H2) : Stp p0 H0 p2 H2 where
  kp := fun x o e h => by
    have q := a.kp x o e h
    cases h1 : p1 x with
    | false => exact b.kp x o q h1
    | true =>
      rcases a.nw x h1 with z | z
      · rw [h] at z; cases z
      · rw [e] at z; cases z
  up := fun x h => b.up x (a.up x h)
  nw := fun x h => by
    rcases b.nw x h with z | z
    · exact a.nw x z
    · exact .inr (a.none z)
  ok := b.ok

def hid (h : Addr → Bool) (H : Hp) : Hp := fun a => if h a then none else H a
theorem hid_some {h : Addr → Bool} {H : Hp} {a : Addr} {o : HO} (e : hid h H a = some o) : h a = false ∧ H a = some o := by
  unfold hid at e
  cases q : h a with
  | true => rw [q] at e; simp at e
  | false => rw [q] at e; exact ⟨rfl, by simpa using e⟩
theorem hid_of {h : Addr → Bool} {H : Hp} {a : Addr} {o : HO} (q : h a = false) (e : H a = some o) : hid h H a = some o := by
  unfold hid; rw [q]; simpa using e

theorem rd_mono {S S' : Hp} {a : Addr} {u : HO} (k : ∀ o, S a = some o → S' a = some o) (h : Rd S a u) : Rd S' a u := by
  rcases h with h | ⟨o, h⟩
  · exact .inl (k _ h)
  · exact .inr ⟨o, k _ h⟩
theorem rd_there {S : Hp} {a : Addr} {u : HO} (h : Rd S a u) : ∃ o, S a = some o := by
  rcases h with h | ⟨o, h⟩
  · exact ⟨_, h⟩
  · exact ⟨_, h⟩
theorem DctAt.mono {S S' : Hp} {a : Addr} {ks : List DKey} {vs : List V} (k : ∀ o, S a = some o → S' a = some o) (h : DctAt S a ks vs) : DctAt S' a ks vs := by
  obtain ⟨h0, h⟩ := h
  refine ⟨h0, ?_⟩
  rcases h with ⟨k1, e, h⟩ | ⟨k1, e0, e, h⟩
  · exact .inl ⟨k1, e, rd_mono k h⟩
  · exact .inr ⟨k1, e0, e, rd_mono k h⟩
theorem DctAt.there {S : Hp} {a : Addr} {ks : List DKey} {vs : List V} (h : DctAt S a ks vs) : ∃ o, S a = some o := by
  rcases h.2 with ⟨_, _, h⟩ | ⟨_, _, _, h⟩ <;> exact rd_there h

section
variable {W : Wd} {pu pu' : Pu} {S S' : Hp}
/-- what a tree's standing leans on -/
structure Mo (pu : Pu) (S : Hp) (pu' : Pu) (S' : Hp) : Prop where
  kp : ∀ a o, S a = some o → pu a = false → S' a = some o
  up : ∀ a, pu a = true → pu' a = true
  nw : ∀ a, pu' a = true → pu a = true ∨ S a = none
theorem Mo.off (m : Mo pu S pu' S') {a : Addr} (h : pu a = false) (e : ∃ o, S a = some o) : pu' a = false := by
  cases q : pu' a with
  | false => rfl
  | true =>
    rcases m.nw a q with z | z
    · rw [h] at z; cases z
    · obtain ⟨o, e⟩ := e; rw [z] at e; cases e
mutual
theorem Rep.mono (m : Mo pu S pu' S') : ∀ (d : D) (v : V), Rep W pu S d v → Rep W pu' S' d v
  | .non, v, h => by simpa only [Rep] using h
  | .bl _, v, h => by simpa only [Rep] using h
  | .int _, v, h => by simpa only [Rep] using h
  | .str _, v, h => by simpa only [Rep] using h
  | .lst ds, v, h => by
    simp only [Rep] at h ⊢
    obtain ⟨a, vs, e, q, n, r⟩ := h
    exact ⟨a, vs, e, rd_mono (fun o z => m.kp a o z n) q, m.off n (rd_there q), Reps.mono m ds vs r⟩
  | .tup ds, v, h => by
    simp only [Rep] at h ⊢
    obtain ⟨a, vs, e, q, r⟩ := h
    refine ⟨a, vs, e, ?_, Reps.mono m ds vs r⟩
    rcases q with ⟨q, n⟩ | q
    · exact .inl ⟨rd_mono (fun o z => m.kp a o z n) q, m.off n (rd_there q)⟩
    · exact .inr q
  | .dct ks ds, v, h => by
    simp only [Rep] at h ⊢
    obtain ⟨a, vs, e, q, n, r⟩ := h
    exact ⟨a, vs, e, q.mono fun o z => m.kp a o z n, m.off n q.there, Reps.mono m ds vs r⟩
  | .obj c ns ds, v, h => by
    simp only [Rep] at h ⊢
    obtain ⟨a, C, dx, vs, e, hc, q, n, l, r⟩ := h
    exact ⟨a, C, dx, vs, e, hc, m.kp a _ q n, m.off n ⟨_, q⟩, l, Reps.mono m ds vs r⟩
  | .purse, v, h => by
    simp only [Rep] at h ⊢
    obtain ⟨a, e, q⟩ := h
    exact ⟨a, e, m.up a q⟩
  | .ty _, v, h => by simpa only [Rep] using h
  | .cl _, v, h => by simpa only [Rep] using h
  | .scr ns, v, h => by
    simp only [Rep] at h ⊢
    obtain ⟨a, e, q⟩ := h
    refine ⟨a, e, ?_⟩
    rcases q with ⟨q, n⟩ | q
    · exact .inl ⟨rd_mono (fun o z => m.kp a o z n) q, m.off n (rd_there q)⟩
    · exact .inr q
theorem Reps.mono (m : Mo pu S pu' S') : ∀ (ds : List D) (vs : List V), Reps W pu S ds vs → Reps W pu' S' ds vs
  | [], vs, h => by simpa only [Reps] using h
  | d :: ds, vs, h => by
    simp only [Reps] at h ⊢
    obtain ⟨v, r, e, h1, h2⟩ := h
    exact ⟨v, r, e, Rep.mono m d v h1, Reps.mono m ds r h2⟩
end
theorem Reps.length : ∀ {ds : List D} {vs : List V}, Reps W pu S ds vs → vs.length = ds.length
  | [], vs, h => by simp only [Reps] at h; rw [h]; rfl
  | d :: ds, vs, h => by
    simp only [Reps] at h
    obtain ⟨v, r, e, _, h2⟩ := h
    rw [e, List.length_cons, List.length_cons, Reps.length h2]
theorem Reps.get : ∀ {ds : List D} {vs : List V} {i : Nat} {d : D}, Reps W pu S ds vs → ds[i]? = some d → ∃ v, vs[i]? = some v ∧ Rep W pu S d v
  | [], _, _, _, _, e => by simp at e
  | d :: ds, vs, 0, d', h, e => by
    simp only [Reps] at h
    obtain ⟨v, r, e1, h1, _⟩ := h
    simp at e; subst e; subst e1
    exact ⟨v, rfl, h1⟩
  | d :: ds, vs, i + 1, d', h, e => by
    simp only [Reps] at h
    obtain ⟨v, r, e1, _, h2⟩ := h
    subst e1
    obtain ⟨u, q1, q2⟩ := Reps.get (i := i) h2 (by simpa using e)
    exact ⟨u, by simpa using q1, q2⟩
theorem Reps.at {ds : List D} {vs : List V} {i : Nat} {v : V} (h : Reps W pu S ds vs) (e : vs[i]? = some v) : ∃ d, ds[i]? = some d ∧ Rep W pu S d v := by
  have hl := h.length
  have hi : i < ds.length := by rw [← hl]; exact (List.getElem?_eq_some_iff.mp e).1
  obtain ⟨u, q1, q2⟩ := h.get (List.getElem?_eq_getElem hi)
  rw [e] at q1; cases q1
  exact ⟨_, List.getElem?_eq_getElem hi, q2⟩
theorem Reps.append : ∀ {ds es : List D} {vs us : List V}, Reps W pu S ds vs → Reps W pu S es us → Reps W pu S (ds ++ es) (vs ++ us)
  | [], _, vs, _, h, g => by simp only [Reps] at h; subst h; simpa using g
  | d :: ds, es, vs, us, h, g => by
    simp only [Reps] at h
    obtain ⟨v, r, e1, h1, h2⟩ := h
    subst e1
    show Reps W pu S (d :: (ds ++ es)) (v :: (r ++ us))
    simp only [Reps]
    exact ⟨v, _, rfl, h1, Reps.append h2 g⟩
theorem Reps.one {d : D} {v : V} (h : Rep W pu S d v) : Reps W pu S [d] [v] := by
  simp only [Reps]; exact ⟨v, [], rfl, h, rfl⟩
theorem Reps.cons {d : D} {v : V} {ds : List D} {vs : List V} (h : Rep W pu S d v) (g : Reps W pu S ds vs) : Reps W pu S (d :: ds) (v :: vs) := by
  simp only [Reps]; exact ⟨v, vs, rfl, h, g⟩
theorem Reps.nil : Reps W pu S [] [] := by simp only [Reps]
theorem Reps.of_get : ∀ {ds : List D} {vs : List V}, ds.length = vs.length → (∀ (i : Nat) (d : D) (v : V), ds[i]? = some d → vs[i]? = some v → Rep W pu S d v) → Reps W pu S ds vs
  | [], [], _, _ => Reps.nil
  | [], _ :: _, h, _ => by simp at h
  | _ :: _, [], h, _ => by simp at h
  | d :: ds, v :: vs, h, k => Reps.cons (k 0 d v rfl rfl) (Reps.of_get (by simpa using h) fun i d' v' e1 e2 => k (i + 1) d' v' (by simpa using e1) (by simpa using e2))
theorem Reps.take {ds : List D} {vs : List V} (n : Nat) (h : Reps W pu S ds vs) : Reps W pu S (ds.take n) (vs.take n) := by
  refine Reps.of_get (by rw [List.length_take, List.length_take, h.length]) fun i d v e1 e2 => ?_
  rw [List.getElem?_take] at e1 e2
  split at e1
  · rename_i hi
    rw [if_pos hi] at e2
    obtain ⟨u, q1, q2⟩ := h.get e1
    rw [e2] at q1; cases q1; exact q2
  · cases e1
theorem Reps.drop {ds : List D} {vs : List V} (n : Nat) (h : Reps W pu S ds vs) : Reps W pu S (ds.drop n) (vs.drop n) := by
  refine Reps.of_get (by rw [List.length_drop, List.length_drop, h.length]) fun i d v e1 e2 => ?_
  rw [List.getElem?_drop] at e1 e2
  obtain ⟨u, q1, q2⟩ := h.get e1
  rw [e2] at q1; cases q1; exact q2
theorem Reps.reverse {ds : List D} {vs : List V} (h : Reps W pu S ds vs) : Reps W pu S ds.reverse vs.reverse := by
  have hl := h.length
  refine Reps.of_get (by rw [List.length_reverse, List.length_reverse, hl]) fun i d v e1 e2 => ?_
  have hi : i < ds.length := by
    have := (List.getElem?_eq_some_iff.mp e1).1
    simpa using this
  rw [List.getElem?_reverse hi] at e1
  rw [List.getElem?_reverse (by omega), hl] at e2
  obtain ⟨u, q1, q2⟩ := h.get e1
  rw [e2] at q1; cases q1; exact q2
end

/-! ### slots -/
/-- what is known of a name: nothing; a value; a container that this frame alone holds; a value that may only be looked at -/
inductive Sl where
  | un | sh (d : D) | ow (d : D) | pk (d : D)

/-- the entry: the purses, what callers hide, the heap's part that must stay -/
structure Ent where
  pu : Pu
  hd : Addr → Bool
  H : Hp
  fr : Bool

def ownP (a : Addr) : Option V × Sl → Bool
  | (some (.ref b), .ow _) => a == b
  | _ => false
def own (σ : St) (ρ : List Sl) (a : Addr) : Bool := (σ.zip ρ).any (ownP a)
theorem own_iff {σ : St} {ρ : List Sl} {a : Addr} : own σ ρ a = true ↔ ∃ (i : Nat) (d : D), ρ[i]? = some (Sl.ow d) ∧ σ[i]? = some (some (V.ref a)) := by
  unfold own
  rw [List.any_eq_true]
  constructor
  · rintro ⟨⟨x, y⟩, hm, h⟩
    obtain ⟨i, hi⟩ := List.getElem?_of_mem hm
    rw [List.getElem?_zip_eq_some] at hi
    obtain ⟨h1, h2⟩ := hi
    cases x with
    | none => simp [ownP] at h
    | some x =>
      cases x with
      | ref b =>
        cases y with
        | ow d => simp [ownP] at h; subst h; exact ⟨i, d, h2, h1⟩
        | un => simp [ownP] at h
        | sh _ => simp [ownP] at h
        | pk _ => simp [ownP] at h
      | _ => cases y <;> simp [ownP] at h
  · rintro ⟨i, d, h1, h2⟩
    refine ⟨(some (.ref a), .ow d), ?_, by simp [ownP]⟩
    exact List.mem_of_getElem? (i := i) (List.getElem?_zip_eq_some.mpr ⟨h2, h1⟩)
def hdn (c : Ent) (σ : St) (ρ : List Sl) (a : Addr) : Bool := c.hd a || own σ ρ a
theorem hdn_false {c : Ent} {σ : St} {ρ : List Sl} {a : Addr} : hdn c σ ρ a = false ↔ c.hd a = false ∧ own σ ρ a = false := by
  unfold hdn; rw [Bool.or_eq_false_iff]

/-- an owned container at a -/
def OwR (W : Wd) (pu : Pu) (S H : Hp) (d : D) (a : Addr) : Prop := match d with
  | .lst ds => ∃ vs, H a = some (.lst vs) ∧ Reps W pu S ds vs
  | .dct ks ds => ∃ vs, DctAt H a ks vs ∧ (∀ o u, H a ≠ some (.frz o u)) ∧ Reps W pu S ds vs
  | .obj c ns ds => ∃ C dx vs, W.cls c = some C ∧ H a = some (.ins C dx (ns.zip vs)) ∧ ns.length = vs.length ∧ Reps W pu S ds vs ∧ W.me = some a
  | _ => False
def SlOk (W : Wd) (pu : Pu) (ow : Addr → Bool) (S H : Hp) (x : Option (Option V)) (s : Sl) : Prop := match s with
  | .un => True
  | .sh d => ∃ v, x = some (some v) ∧ Rep W pu S d v
  | .ow d => ∃ a, x = some (some (.ref a)) ∧ OwR W pu S H d a
  | .pk d => ∃ v, x = some (some v) ∧ (Rep W pu S d v ∨ ∃ a, v = .ref a ∧ pu a = false ∧ ow a = false ∧ OwR W pu S H d a)

structure EnvR (W : Wd) (c : Ent) (pu : Pu) (σ : St) (H : Hp) (ρ : List Sl) : Prop where
  len : σ.length = ρ.length
  stp : Stp c.pu c.H pu H
  hdl : ∀ a, c.hd a = true → ∃ o, H a = some o
  sl : ∀ (i : Nat) (s : Sl), ρ[i]? = some s → SlOk W pu (own σ ρ) (hid (hdn c σ ρ) H) H σ[i]? s
  apart : ∀ (i j : Nat) (di dj : D) (a : Addr), ρ[i]? = some (Sl.ow di) → ρ[j]? = some (Sl.ow dj) → σ[i]? = some (some (V.ref a)) → σ[j]? = some (some (V.ref a)) → i = j
  fresh : ∀ a, own σ ρ a = true → (c.H a = none ∧ c.hd a = false) ∧ pu a = false ∧ ∃ o, H a = some o

section
variable {W : Wd} {c : Ent} {pu pu' : Pu} {σ : St} {H H' : Hp} {ρ : List Sl}
theorem EnvR.pok (e : EnvR W c pu σ H ρ) : ∀ a, pu a = true → PurseAt pu.n H a := e.stp.ok
theorem EnvR.rfl' (e : EnvR W c pu σ H ρ) : Stp pu H pu H := Stp.refl e.pok
theorem OwR.step {S S' : Hp} {d : D} {a : Addr} (m : Mo pu S pu' S') (k : ∀ o, H a = some o → H' a = some o) (h : OwR W pu S H d a) : OwR W pu' S' H' d a := by
  cases d with
  | lst ds =>
    obtain ⟨vs, h1, h2⟩ := h
    exact ⟨vs, k _ h1, Reps.mono m ds vs h2⟩
  | dct ks ds =>
    obtain ⟨vs, h1, h3, h2⟩ := h
    obtain ⟨o, ho⟩ := h1.there
    refine ⟨vs, h1.mono k, fun o' u z => ?_, Reps.mono m ds vs h2⟩
    rw [k o ho] at z
    exact h3 o' u (ho.trans z)
  | obj c ns ds =>
    obtain ⟨C, dx, vs, hc, h1, hl, h2, h3⟩ := h
    exact ⟨C, dx, vs, hc, k _ h1, hl, Reps.mono m ds vs h2, h3⟩
  | _ => exact h
theorem OwR.there {S : Hp} {d : D} {a : Addr} (h : OwR W pu S H d a) : ∃ o, H a = some o := by
  cases d with
  | lst ds => obtain ⟨vs, q, _⟩ := h; exact ⟨_, q⟩
  | dct ks ds => obtain ⟨vs, q, _⟩ := h; exact q.there
  | obj c ns ds => obtain ⟨C, dx, vs, _, q, _⟩ := h; exact ⟨_, q⟩
  | _ => exact False.elim h
theorem mo_hid {h : Addr → Bool} (s : Stp pu H pu' H') (hn : ∀ a, pu' a = true → pu a = true ∨ hid h H a = none) : Mo pu (hid h H) pu' (hid h H') where
  kp := fun a o e n => by
    obtain ⟨q, e⟩ := hid_some e
    exact hid_of q (s.kp a o e n)
  up := s.up
  nw := hn
theorem Stp.mo (s : Stp pu H pu' H') (h : Addr → Bool) : Mo pu (hid h H) pu' (hid h H') :=
  mo_hid s fun a q => by
    rcases s.nw a q with z | z
    · exact .inl z
    · exact .inr (by unfold hid; rw [z]; split <;> rfl)
theorem Stp.mo' (s : Stp pu H pu' H') : Mo pu H pu' H' := ⟨s.kp, s.up, s.nw⟩
/-- the state goes on, the slots as they are -/
theorem EnvR.step (e : EnvR W c pu σ H ρ) (s : Stp pu H pu' H') : EnvR W c pu' σ H' ρ where
  len := e.len
  stp := e.stp.trans s
  hdl := fun a h => let ⟨_, q⟩ := e.hdl a h; s.some q
  sl := fun i x hx => by
    have q := e.sl i x hx
    cases x with
    | un => trivial
    | sh d =>
      obtain ⟨v, h1, h2⟩ := q
      exact ⟨v, h1, Rep.mono (s.mo _) d v h2⟩
    | ow d =>
      obtain ⟨a, h1, h2⟩ := q
      obtain ⟨_, n, _⟩ := e.fresh a (own_iff.mpr ⟨i, d, hx, h1⟩)
      exact ⟨a, h1, h2.step (s.mo _) fun o z => s.kp a o z n⟩
    | pk d =>
      obtain ⟨v, h1, h2⟩ := q
      refine ⟨v, h1, ?_⟩
      rcases h2 with h2 | ⟨a, h3, n, no, h2⟩
      · exact .inl (Rep.mono (s.mo _) d v h2)
      · exact .inr ⟨a, h3, s.mo'.off n h2.there, no, h2.step (s.mo _) fun o z => s.kp a o z n⟩
  apart := e.apart
  fresh := fun a h => by
    obtain ⟨h1, h2, o, h3⟩ := e.fresh a h
    refine ⟨h1, ?_, o, s.kp a o h3 h2⟩
    cases q : pu' a with
    | false => rfl
    | true =>
      rcases s.nw a q with z | z
      · rw [h2] at z; cases z
      · rw [h3] at z; cases z
end

/-! ### readings -/
/-- an expression over trees, by how far the counters have run; a test; a statement -/
abbrev TD := Nat → List Sl → (D → Nat → Prop) → Prop
abbrev TTD := Nat → List Sl → (Bool → Nat → Prop) → Prop
abbrev TAD := Nat → List Sl → (List D → Nat → Prop) → Prop
structure DEnds where
  nx : Nat → List Sl → Prop
  rt : D → Nat → Prop
  bk : Nat → List Sl → Prop := fun _ _ => False
  ct : Nat → List Sl → Prop := fun _ _ => False
abbrev TDS := DEnds → Nat → List Sl → Prop

def rdE (W : Wd) (c : Ent) (t : TD) : TE := fun σ H Q => ∃ pu ρ P, EnvR W c pu σ H ρ ∧ t pu.n ρ P ∧
  ∀ (pu' : Pu) d, P d pu'.n → ∀ v H', Stp pu H pu' H' → Rep W pu' (hid (hdn c σ ρ) H') d v → Q v H'
def rdT (W : Wd) (c : Ent) (t : TTD) : TT := fun σ H Q => ∃ pu ρ P, EnvR W c pu σ H ρ ∧ t pu.n ρ P ∧
  ∀ (pu' : Pu) b, P b pu'.n → ∀ H', Stp pu H pu' H' → Q b H'
def rdA (W : Wd) (c : Ent) (t : TAD) : TA := fun σ H Q => ∃ pu ρ P, EnvR W c pu σ H ρ ∧ t pu.n ρ P ∧
  ∀ (pu' : Pu) ds, P ds pu'.n → ∀ vs H', Stp pu H pu' H' → Reps W pu' (hid (hdn c σ ρ) H') ds vs → Q vs H'
/-- a value that goes out: where c.fr says so, a container that nobody else holds -/
def RetR (W : Wd) (c : Ent) (pu' : Pu) (d : D) (v : V) (H' : Hp) : Prop :=
  if c.fr = true then ∃ p, v = .ref p ∧ Stp c.pu c.H pu' H' ∧ c.H p = none ∧ pu' p = false ∧ OwR W pu' (hid (fun a => c.hd a || a == p) H') H' d p
  else Stp c.pu c.H pu' H' ∧ Rep W pu' (hid c.hd H') d v
def rdS (W : Wd) (c : Ent) (t : TDS) : TS := fun De σ H => ∃ pu ρ E, EnvR W c pu σ H ρ ∧ t E pu.n ρ ∧
  (∀ (pu' : Pu) ρ', E.nx pu'.n ρ' → ∀ σ' H', EnvR W c pu' σ' H' ρ' → De.nx σ' H') ∧ (∀ (pu' : Pu) d, E.rt d pu'.n → ∀ v H', RetR W c pu' d v H' → De.rt v H') ∧
  (∀ (pu' : Pu) ρ', E.bk pu'.n ρ' → ∀ σ' H', EnvR W c pu' σ' H' ρ' → De.bk σ' H') ∧ (∀ (pu' : Pu) ρ', E.ct pu'.n ρ' → ∀ σ' H', EnvR W c pu' σ' H' ρ' → De.ct σ' H')

/-- a def over trees -/
abbrev FnD := Nat → List D → (D → Nat → Prop) → Prop
def RepK (W : Wd) (pu : Pu) (h : Addr → Bool) (H : Hp) (d : D) (v : V) : Prop :=
  Rep W pu (hid h H) d v ∨ ∃ a, v = .ref a ∧ pu a = false ∧ OwR W pu (hid h H) H d a
def isObj : D → Bool
  | .obj _ _ _ => true
  | _ => false
/-- an argument that is only looked at: a value, or a container that the caller alone holds -/
def RepA (W : Wd) (pu : Pu) (h : Addr → Bool) (H : Hp) (d : D) (v : V) : Prop :=
  Rep W pu (hid h H) d v ∨ (isObj d = false ∧ ∃ a, v = .ref a ∧ pu a = false ∧ OwR W pu (hid h H) H d a)
/-- the arguments: m: this one is only looked at -/
def ArgsR (W : Wd) (pu : Pu) (h : Addr → Bool) (H : Hp) : List Bool → List D → List V → Prop
  | [], ds, vs => ds = [] ∧ vs = []
  | m :: ms, ds, vs => ∃ d ds' v vs', ds = d :: ds' ∧ vs = v :: vs' ∧ (if m = true then RepA W pu h H d v else Rep W pu (hid h H) d v) ∧ ArgsR W pu h H ms ds' vs'
/-- its promise -/
def spD (W : Wd) (ms : List Bool) (fr : Bool) (F : FnD) : Sp := fun vs H Q _ => ∃ pu hd ds P, (∀ a, pu a = true → PurseAt pu.n H a) ∧ (∀ a, hd a = true → ∃ o, H a = some o) ∧ ArgsR W pu hd H ms ds vs ∧ F pu.n ds P ∧
  ∀ (pu' : Pu) d, P d pu'.n → ∀ v H', RetR W ⟨pu, hd, H, fr⟩ pu' d v H' → Q v H'

/-- the judgements over trees -/
def PD (W : Wd) (X : Cx) (e : Expr) (t : TD) : Prop := ∀ c, PE X e (rdE W c t)
def PTD (W : Wd) (X : Cx) (e : Expr) (t : TTD) : Prop := ∀ c, PT X e (rdT W c t)
def PAD (W : Wd) (X : Cx) (es : List Expr) (t : TAD) : Prop := ∀ c, PA X es (rdA W c t)
def PSD (W : Wd) (X : Cx) (fr : Bool) (s : Stmt) (t : TDS) : Prop := ∀ c, c.fr = fr → PS X s (rdS W c t)
def PSsD (W : Wd) (X : Cx) (fr : Bool) (s : List Stmt) (t : TDS) : Prop := ∀ c, c.fr = fr → PSs X s (rdS W c t)

theorem PE_imp {X : Cx} {e : Expr} {t t' : TE} (h : PE X e t) (k : ∀ σ H Q, t' σ H Q → t σ H Q) : PE X e t' := ⟨fun pins s σ H Q I q => h.run pins s σ H Q I (k _ _ _ q)⟩
theorem PT_imp {X : Cx} {e : Expr} {t t' : TT} (h : PT X e t) (k : ∀ σ H Q, t' σ H Q → t σ H Q) : PT X e t' := ⟨fun pins s σ H Q I q => h.run pins s σ H Q I (k _ _ _ q)⟩
theorem PA_imp {X : Cx} {e : List Expr} {t t' : TA} (h : PA X e t) (k : ∀ σ H Q, t' σ H Q → t σ H Q) : PA X e t' := ⟨fun pos pins s σ H Q I q => h.run pos pins s σ H Q I (k _ _ _ q)⟩
theorem PS_imp {X : Cx} {e : Stmt} {t t' : TS} (h : PS X e t) (k : ∀ D σ H, t' D σ H → t D σ H) : PS X e t' := ⟨fun pins s σ H D I q => h.run pins s σ H D I (k _ _ _ q)⟩
theorem PSs_imp {X : Cx} {e : List Stmt} {t t' : TS} (h : PSs X e t) (k : ∀ D σ H, t' D σ H → t D σ H) : PSs X e t' := ⟨fun pins s σ H D I q => h.run pins s σ H D I (k _ _ _ q)⟩
end DL
namespace DL
open PySem PySem.Spec L2

/-! ### values that may be owned containers, seen where they stand -/
def RepsK (W : Wd) (pu : Pu) (h : Addr → Bool) (H : Hp) : List D → List V → Prop
  | [], vs => vs = []
  | d :: ds, vs => ∃ v r, vs = v :: r ∧ RepK W pu h H d v ∧ RepsK W pu h H ds r
/-- a state as values see it -/
structure Vw (pu : Pu) (h : Addr → Bool) (H : Hp) : Prop where
  ok : ∀ a, pu a = true → PurseAt pu.n H a
  th : ∀ a, h a = true → ∃ o, H a = some o
section
variable {W : Wd} {pu pu' : Pu} {h : Addr → Bool} {H H' : Hp} {c : Ent} {σ : L2.St} {ρ : List Sl}
theorem EnvR.vw (e : EnvR W c pu σ H ρ) : Vw pu (hdn c σ ρ) H where
  ok := e.pok
  th := fun a q => by
    unfold hdn at q
    rcases Bool.or_eq_true_iff.mp q with q | q
    · exact e.hdl a q
    · exact (e.fresh a q).2.2
theorem Vw.step (w : Vw pu h H) (s : Stp pu H pu' H') : Vw pu' h H' := ⟨s.ok, fun a q => let ⟨_, e⟩ := w.th a q; s.some e⟩
theorem Vw.rfl' (w : Vw pu h H) : Stp pu H pu H := Stp.refl w.ok
theorem Vw.free (w : Vw pu h H) {p : Addr} (e : H p = none) : h p = false := by
  cases q : h p with
  | false => rfl
  | true => obtain ⟨o, z⟩ := w.th p q; rw [e] at z; cases z
theorem Vw.nopu (w : Vw pu h H) {p : Addr} (e : H p = none) : pu p = false := by
  cases q : pu p with
  | false => rfl
  | true => obtain ⟨_, _, _, _, z, _⟩ := w.ok p q; rw [e] at z; cases z
theorem RepK.of {d : D} {v : V} (r : Rep W pu (hid h H) d v) : RepK W pu h H d v := .inl r
theorem RepK.step {d : D} {v : V} (s : Stp pu H pu' H') (r : RepK W pu h H d v) : RepK W pu' h H' d v := by
  rcases r with r | ⟨a, e, n, r⟩
  · exact .inl (Rep.mono (s.mo h) d v r)
  · refine .inr ⟨a, e, ?_, r.step (s.mo h) fun o z => s.kp a o z n⟩
    exact s.mo'.off n r.there
theorem RepsK.step (s : Stp pu H pu' H') : ∀ {ds : List D} {vs : List V}, RepsK W pu h H ds vs → RepsK W pu' h H' ds vs
  | [], _, r => r
  | _ :: _, _, ⟨v, r, e, h1, h2⟩ => ⟨v, r, e, h1.step s, RepsK.step s h2⟩
theorem hid_rd {a : Addr} {u : HO} (r : Rd (hid h H) a u) : Rd H a u := rd_mono (fun o e => (hid_some e).2) r
theorem RepK.lst {ds : List D} {v : V} (r : RepK W pu h H (.lst ds) v) : ∃ a vs, v = .ref a ∧ Rd H a (.lst vs) ∧ Reps W pu (hid h H) ds vs := by
  rcases r with r | ⟨a, e, n, vs, q, r⟩
  · simp only [Rep] at r
    obtain ⟨a, vs, e, q, _, r⟩ := r
    exact ⟨a, vs, e, hid_rd q, r⟩
  · exact ⟨a, vs, e, .inl q, r⟩
theorem RepK.lstL {K : PySem.W.Frag} {ds : List D} {v : V} (r : RepK W pu h H (.lst ds) v) : ∃ a vs, v = .ref a ∧ SqL K H a vs ∧ Reps W pu (hid h H) ds vs := by
  obtain ⟨a, vs, e, q, r⟩ := r.lst
  exact ⟨a, vs, e, .inl q, r⟩
theorem RepK.tup {ds : List D} {v : V} (r : RepK W pu h H (.tup ds) v) : ∃ a vs, v = .ref a ∧ SqT W.K H a vs ∧ Reps W pu (hid h H) ds vs := by
  rcases r with r | ⟨a, e, n, r⟩
  · simp only [Rep] at r
    obtain ⟨a, vs, e, q, r⟩ := r
    rcases q with ⟨q, _⟩ | q
    · exact ⟨a, vs, e, .inl (hid_rd q), r⟩
    · exact ⟨a, vs, e, .inr q, r⟩
  · exact False.elim r
theorem RepK.dct {ks : List DKey} {ds : List D} {v : V} (r : RepK W pu h H (.dct ks ds) v) : ∃ a vs, v = .ref a ∧ DctAt H a ks vs ∧ Reps W pu (hid h H) ds vs := by
  rcases r with r | ⟨a, e, n, vs, q, _, r⟩
  · simp only [Rep] at r
    obtain ⟨a, vs, e, q, _, r⟩ := r
    exact ⟨a, vs, e, q.mono fun o z => (hid_some z).2, r⟩
  · exact ⟨a, vs, e, q, r⟩
theorem RepK.obj {c' : Str} {ns : List Str} {ds : List D} {v : V} (r : RepK W pu h H (.obj c' ns ds) v) :
    ∃ a C dx vs, v = .ref a ∧ W.cls c' = some C ∧ H a = some (.ins C dx (ns.zip vs)) ∧ ns.length = vs.length ∧ Reps W pu (hid h H) ds vs := by
  rcases r with r | ⟨a, e, n, r⟩
  · simp only [Rep] at r
    obtain ⟨a, C, dx, vs, e, hc, q, _, l, r⟩ := r
    exact ⟨a, C, dx, vs, e, hc, (hid_some q).2, l, r⟩
  · obtain ⟨C, dx, vs, hc, q, l, r, _⟩ := r
    exact ⟨a, C, dx, vs, e, hc, q, l, r⟩
theorem RepK.scr {ns : List Int} {v : V} (r : RepK W pu h H (.scr ns) v) : ∃ a, v = .ref a ∧ SqL W.K H a (ns.map V.int) := by
  rcases r with r | ⟨a, e, n, r⟩
  · simp only [Rep] at r
    obtain ⟨a, e, q⟩ := r
    refine ⟨a, e, ?_⟩
    rcases q with ⟨q, _⟩ | q
    · exact .inl (hid_rd q)
    · exact .inr q
  · exact False.elim r
theorem RepK.int {i : Int} {v : V} (r : RepK W pu h H (.int i) v) : v = .int i := by
  rcases r with r | ⟨a, e, n, r⟩
  · simpa only [Rep] using r
  · exact False.elim r
theorem RepK.bl {i : Bool} {v : V} (r : RepK W pu h H (.bl i) v) : v = .bl i := by
  rcases r with r | ⟨a, e, n, r⟩
  · simpa only [Rep] using r
  · exact False.elim r
theorem RepK.str {i : Str} {v : V} (r : RepK W pu h H (.str i) v) : v = .str i := by
  rcases r with r | ⟨a, e, n, r⟩
  · simpa only [Rep] using r
  · exact False.elim r
theorem RepK.non {v : V} (r : RepK W pu h H .non v) : v = .non := by
  rcases r with r | ⟨a, e, n, r⟩
  · simpa only [Rep] using r
  · exact False.elim r
end

/-! ### readings that see owned containers; fresh containers -/
def rdK (W : Wd) (c : Ent) (t : TD) : TE := fun σ H Q => ∃ pu ρ P, EnvR W c pu σ H ρ ∧ t pu.n ρ P ∧
  ∀ (pu' : Pu) d, P d pu'.n → ∀ v H', Stp pu H pu' H' → RepK W pu' (hdn c σ ρ) H' d v → Q v H'
def rdF (W : Wd) (c : Ent) (t : TD) : TE := fun σ H Q => ∃ pu ρ P, EnvR W c pu σ H ρ ∧ t pu.n ρ P ∧
  ∀ (pu' : Pu) d, P d pu'.n → ∀ p H', Stp pu H pu' H' → H p = none → pu' p = false → OwR W pu' (hid (fun a => hdn c σ ρ a || a == p) H') H' d p → Q (.ref p) H'
def rdAK (W : Wd) (c : Ent) (t : TAD) : TA := fun σ H Q => ∃ pu ρ P, EnvR W c pu σ H ρ ∧ t pu.n ρ P ∧
  ∀ (pu' : Pu) ds, P ds pu'.n → ∀ vs H', Stp pu H pu' H' → RepsK W pu' (hdn c σ ρ) H' ds vs → Q vs H'
def PKD (W : Wd) (X : Cx) (e : Expr) (t : TD) : Prop := ∀ c, PE X e (rdK W c t)
def PFD (W : Wd) (X : Cx) (e : Expr) (t : TD) : Prop := ∀ c, PE X e (rdF W c t)
def PAK (W : Wd) (X : Cx) (es : List Expr) (t : TAD) : Prop := ∀ c, PA X es (rdAK W c t)

section
variable {W : Wd} {X : Cx} {e : Expr} {t : TD}
theorem PD.pk (h : PD W X e t) : PKD W X e t := fun c => PE_imp (h c) fun σ H Q ⟨pu, ρ, P, ev, ht, q⟩ => ⟨pu, ρ, P, ev, ht, fun pu' d hd v H' s r => q pu' d hd v H' s (.inl r)⟩
theorem ow_rep {pu : Pu} {h : Addr → Bool} {H : Hp} {d : D} {p : Addr} (np : h p = false) (nu : pu p = false) (r : OwR W pu (hid (fun a => h a || a == p) H) H d p) : Rep W pu (hid h H) d (.ref p) := by
  have m : Mo pu (hid (fun a => h a || a == p) H) pu (hid h H) := ⟨fun a o e _ => by
    obtain ⟨q, e⟩ := hid_some e
    exact hid_of (Bool.or_eq_false_iff.mp q).1 e, fun _ z => z, fun _ z => .inl z⟩
  cases d with
  | lst ds =>
    obtain ⟨vs, h1, h2⟩ := r
    simp only [Rep]
    exact ⟨p, vs, rfl, .inl (hid_of np h1), nu, Reps.mono m ds vs h2⟩
  | dct ks ds =>
    obtain ⟨vs, h1, _, h2⟩ := r
    simp only [Rep]
    refine ⟨p, vs, rfl, h1.mono fun o z => hid_of np z, nu, Reps.mono m ds vs h2⟩
  | obj c ns ds =>
    obtain ⟨C, dx, vs, hc, h1, hl, h2, _⟩ := r
    simp only [Rep]
    exact ⟨p, C, dx, vs, rfl, hc, hid_of np h1, nu, hl, Reps.mono m ds vs h2⟩
  | _ => exact False.elim r
theorem PFD.pd (h : PFD W X e t) : PD W X e t := fun c => PE_imp (h c) fun σ H Q ⟨pu, ρ, P, ev, ht, q⟩ => ⟨pu, ρ, P, ev, ht, fun pu' d hd p H' s np nu r =>
  q pu' d hd (.ref p) H' s (ow_rep (ev.vw.free np) nu r)⟩
end

/-! ### names, constants -/
def slot : List Sl → Nat → Sl
  | [], _ => .un
  | s :: _, 0 => s
  | _ :: r, n + 1 => slot r n
theorem slot_some : ∀ {ρ : List Sl} {i : Nat} {s : Sl}, slot ρ i = s → s ≠ .un → ρ[i]? = some s
  | [], _, s, e, n => by simp only [slot] at e; exact absurd e.symm n
  | x :: r, 0, s, e, n => by simp only [slot] at e; simp [e]
  | x :: r, i + 1, s, e, n => by simp only [slot] at e; simpa using slot_some (ρ := r) e n
def tVarD (i : Nat) : TD := fun n ρ Q => match slot ρ i with
  | .sh d => Q d n
  | _ => False
def tVarK (i : Nat) : TD := fun n ρ Q => match slot ρ i with
  | .sh d => Q d n
  | .ow d => Q d n
  | .pk d => Q d n
  | .un => False
def tCD (d : D) : TD := fun n _ Q => Q d n
section
variable {W : Wd} {X : Cx} {e : Expr}
theorem pd_var {i : Nat} (h : PE X e (L2.tVar i)) : PD W X e (tVarD i) := fun c => PE_imp h fun σ H Q ⟨pu, ρ, P, ev, ht, q⟩ => by
  unfold tVarD at ht
  cases hs : slot ρ i with
  | sh d =>
    rw [hs] at ht
    obtain ⟨v, e1, r⟩ := ev.sl i _ (slot_some hs (by intro z; cases z))
    exact ⟨v, e1, q pu d ht v H ev.rfl' r⟩
  | un => rw [hs] at ht; exact False.elim ht
  | ow d => rw [hs] at ht; exact False.elim ht
  | pk d => rw [hs] at ht; exact False.elim ht
theorem pk_var {i : Nat} (h : PE X e (L2.tVar i)) : PKD W X e (tVarK i) := fun c => PE_imp h fun σ H Q ⟨pu, ρ, P, ev, ht, q⟩ => by
  unfold tVarK at ht
  cases hs : slot ρ i with
  | sh d =>
    rw [hs] at ht
    obtain ⟨v, e1, r⟩ := ev.sl i _ (slot_some hs (by intro z; cases z))
    exact ⟨v, e1, q pu d ht v H ev.rfl' (.inl r)⟩
  | un => rw [hs] at ht; exact False.elim ht
  | ow d =>
    rw [hs] at ht
    have e0 := slot_some hs (by intro z; cases z)
    obtain ⟨a, e1, r⟩ := ev.sl i _ e0
    exact ⟨.ref a, e1, q pu d ht _ H ev.rfl' (.inr ⟨a, rfl, (ev.fresh a (own_iff.mpr ⟨i, d, e0, e1⟩)).2.1, r⟩)⟩
  | pk d =>
    rw [hs] at ht
    obtain ⟨v, e1, r⟩ := ev.sl i _ (slot_some hs (by intro z; cases z))
    refine ⟨v, e1, q pu d ht v H ev.rfl' ?_⟩
    rcases r with r | ⟨a, e2, n, _, r⟩
    · exact .inl r
    · exact .inr ⟨a, e2, n, r⟩
theorem pd_const {v : V} {d : D} (h : PE X e (tC v)) (r : ∀ pu S, Rep W pu S d v) : PD W X e (tCD d) := fun c => PE_imp h fun σ H Q ⟨pu, ρ, P, ev, ht, q⟩ => q pu d ht v H ev.rfl' (r _ _)
theorem pd_int {i : Int} {j pos} : PD W X (.Constant (.int i) j pos) (tCD (.int i)) := pd_const pe_int fun _ _ => by simp only [Rep]
theorem pd_bl {b : Bool} {j pos} : PD W X (.Constant (.bool b) j pos) (tCD (.bl b)) := pd_const pe_bl fun _ _ => by simp only [Rep]
theorem pd_non {j pos} : PD W X (.Constant .none j pos) (tCD .non) := pd_const pe_non fun _ _ => by simp only [Rep]
theorem pd_str {x : Str} {j pos} : PD W X (.Constant (.str x) j pos) (tCD (.str x)) := pd_const pe_str fun _ _ => by simp only [Rep]
end

/-! ### operations by values -/
def Post (W : Wd) (pu : Pu) (h : Addr → Bool) (H : Hp) (P : D → Prop) (Q : VK) : Prop := ∀ d, P d → ∀ v H', Stp pu H pu H' → Rep W pu (hid h H') d v → Q v H'
def PostF (W : Wd) (pu : Pu) (h : Addr → Bool) (H : Hp) (P : D → Prop) (Q : VK) : Prop := ∀ d, P d → ∀ p H', Stp pu H pu H' → H p = none → pu p = false → OwR W pu (hid (fun a => h a || a == p) H') H' d p → Q (.ref p) H'
def Op2 (W : Wd) (f : D → D → (D → Prop) → Prop) (r : R2) : Prop := ∀ pu h H x y v u P Q, Vw pu h H → RepK W pu h H x v → RepK W pu h H y u → f x y P → Post W pu h H P Q → r v u H Q
def Op2F (W : Wd) (f : D → D → (D → Prop) → Prop) (r : R2) : Prop := ∀ pu h H x y v u P Q, Vw pu h H → RepK W pu h H x v → RepK W pu h H y u → f x y P → PostF W pu h H P Q → r v u H Q
def Cal (W : Wd) (f : List D → (D → Prop) → Prop) (r : List V → Hp → VK → Prop) : Prop := ∀ pu h H xs vs P Q, Vw pu h H → RepsK W pu h H xs vs → f xs P → Post W pu h H P Q → r vs H Q
def CalF (W : Wd) (f : List D → (D → Prop) → Prop) (r : List V → Hp → VK → Prop) : Prop := ∀ pu h H xs vs P Q, Vw pu h H → RepsK W pu h H xs vs → f xs P → PostF W pu h H P Q → r vs H Q
section
variable {W : Wd} {X : Cx} {a b : Expr} {es : List Expr} {ta tb : TD} {tas : TAD} {pos : Pos}
def t2 (f : D → D → (D → Prop) → Prop) (ta tb : TD) : TD := fun n ρ Q => ta n ρ fun x n1 => tb n1 ρ fun y n2 => f x y fun d => Q d n2
def tCall (f : List D → (D → Prop) → Prop) (ta : TAD) : TD := fun n ρ Q => ta n ρ fun xs n1 => f xs fun d => Q d n1
theorem two_run {f : D → D → (D → Prop) → Prop} {r : R2} {c : Ent} {σ : L2.St} {H : Hp} {Q : VK} {pu : Pu} {ρ : List Sl} {P : D → Nat → Prop} (ev : EnvR W c pu σ H ρ) (ht : t2 f ta tb pu.n ρ P)
    (k : ∀ x y v u pu2 H2, Stp pu H pu2 H2 → RepK W pu2 (hdn c σ ρ) H2 x v → RepK W pu2 (hdn c σ ρ) H2 y u → f x y (fun d => P d pu2.n) → r v u H2 Q) : tOp r (rdK W c ta) (rdK W c tb) σ H Q :=
  ⟨pu, ρ, _, ev, ht, fun pu1 x hx v H1 s1 r1 => ⟨pu1, ρ, _, ev.step s1, hx, fun pu2 y hy u H2 s2 r2 => k x y v u pu2 H2 (s1.trans s2) (r1.step s2) r2 hy⟩⟩
/-- what an expression's reading goes on with -/
abbrev Kt (W : Wd) (pu : Pu) (h : Addr → Bool) (H : Hp) (P : D → Nat → Prop) (Q : VK) : Prop := ∀ (pu' : Pu) d, P d pu'.n → ∀ v H', Stp pu H pu' H' → Rep W pu' (hid h H') d v → Q v H'
abbrev KtF (W : Wd) (pu : Pu) (h : Addr → Bool) (H : Hp) (P : D → Nat → Prop) (Q : VK) : Prop := ∀ (pu' : Pu) d, P d pu'.n → ∀ p H', Stp pu H pu' H' → H p = none → pu' p = false → OwR W pu' (hid (fun a => h a || a == p) H') H' d p → Q (.ref p) H'
theorem Post.trans {pu pu1 : Pu} {h : Addr → Bool} {H H1 : Hp} {P : D → Nat → Prop} {Q : VK} (s : Stp pu H pu1 H1) (p : Kt W pu h H P Q) : Post W pu1 h H1 (fun d => P d pu1.n) Q := fun d hd v H' s' r => p pu1 d hd v H' (s.trans s') r
theorem PostF.trans {pu pu1 : Pu} {h : Addr → Bool} {H H1 : Hp} {P : D → Nat → Prop} {Q : VK} (s : Stp pu H pu1 H1) (p : KtF W pu h H P Q) : PostF W pu1 h H1 (fun d => P d pu1.n) Q := fun d hd v H' s' n nu r => p pu1 d hd v H' (s.trans s') (s.none n) nu r
theorem PostF.post {pu : Pu} {h : Addr → Bool} {H : Hp} {P : D → Prop} {Q : VK} (w : Vw pu h H) (p : Post W pu h H P Q) : PostF W pu h H P Q := fun d hd a H' s np nu r => p d hd _ H' s (ow_rep (w.free np) nu r)
theorem Op2F.op2 {f : D → D → (D → Prop) → Prop} {r : R2} (k : Op2F W f r) : Op2 W f r := fun pu h H x y v u P Q w rx ry hf p => k pu h H x y v u P Q w rx ry hf (PostF.post w p)
theorem CalF.cal {f : List D → (D → Prop) → Prop} {r : List V → Hp → VK → Prop} (k : CalF W f r) : Cal W f r := fun pu h H xs vs P Q w rx hf p => k pu h H xs vs P Q w rx hf (PostF.post w p)
theorem pd_op {op : Operator} {f : D → D → (D → Prop) → Prop} {r : R2} (ho : OpR X (binaryOp op) r) (k : Op2 W f r) (ha : PKD W X a ta) (hb : PKD W X b tb) : PD W X (.BinOp a op b pos) (t2 f ta tb) := fun c =>
  PE_imp (pe_op ho (ha c) (hb c)) fun σ H Q ⟨pu, ρ, P, ev, ht, q⟩ => two_run ev ht fun x y v u pu2 H2 s rx ry hf => k _ _ _ _ _ _ _ _ Q (ev.vw.step s) rx ry hf (Post.trans s q)
theorem pf_op {op : Operator} {f : D → D → (D → Prop) → Prop} {r : R2} (ho : OpR X (binaryOp op) r) (k : Op2F W f r) (ha : PKD W X a ta) (hb : PKD W X b tb) : PFD W X (.BinOp a op b pos) (t2 f ta tb) := fun c =>
  PE_imp (pe_op ho (ha c) (hb c)) fun σ H Q ⟨pu, ρ, P, ev, ht, q⟩ => two_run ev ht fun x y v u pu2 H2 s rx ry hf => k _ _ _ _ _ _ _ _ Q (ev.vw.step s) rx ry hf (PostF.trans s q)
theorem pd_cmp {op : CmpOp} {f : D → D → (D → Prop) → Prop} {r : R2} (ho : OpR X (compareOp op) r) (k : Op2 W f r) (ha : PKD W X a ta) (hb : PKD W X b tb) (hm : behindInMarks op b = false) : PD W X (.Compare a [op] [b] pos) (t2 f ta tb) := fun c =>
  PE_imp (pe_cmpR ho (ha c) (hb c) hm) fun σ H Q ⟨pu, ρ, P, ev, ht, q⟩ => two_run ev ht fun x y v u pu2 H2 s rx ry hf => k _ _ _ _ _ _ _ _ Q (ev.vw.step s) rx ry hf (Post.trans s q)
theorem pd_ix {f : D → D → (D → Prop) → Prop} {r : R2} (hr : IxR X r) (k : Op2 W f r) (ha : PKD W X a ta) (hb : PKD W X b tb) (hs : PlainIx b) : PD W X (.Subscript a b pos) (t2 f ta tb) := fun c =>
  PE_imp (pe_ix hr (ha c) (hb c) hs) fun σ H Q ⟨pu, ρ, P, ev, ht, q⟩ => two_run ev ht fun x y v u pu2 H2 s rx ry hf => k _ _ _ _ _ _ _ _ Q (ev.vw.step s) rx ry hf (Post.trans s q)

/-! ### argument lists -/
def tNilA : TAD := fun n _ Q => Q [] n
def tConsA (ta : TD) (tas : TAD) : TAD := fun n ρ Q => ta n ρ fun x n1 => tas n1 ρ fun xs n2 => Q (x :: xs) n2
theorem pak_nil : PAK W X [] tNilA := fun c => PA_imp pa_nil fun σ H Q ⟨pu, ρ, P, ev, ht, q⟩ => q pu [] ht [] H ev.rfl' rfl
theorem pak_cons (ha : PKD W X a ta) (hs : PAK W X es tas) (h : starEach (a :: es) X.env = (false, eval a X.env) :: starEach es X.env := by rfl) : PAK W X (a :: es) (tConsA ta tas) := fun c =>
  PA_imp (pa_cons (ha c) (hs c) h) fun σ H Q ⟨pu, ρ, P, ev, ht, q⟩ => ⟨pu, ρ, _, ev, ht, fun pu1 x hx v H1 s1 r1 => ⟨pu1, ρ, _, ev.step s1, hx, fun pu2 xs hxs vs H2 s2 r2 =>
    q pu2 (x :: xs) hxs (v :: vs) H2 (s1.trans s2) ⟨v, vs, rfl, r1.step s2, r2⟩⟩⟩
theorem pad_nil : PAD W X [] tNilA := fun c => PA_imp pa_nil fun σ H Q ⟨pu, ρ, P, ev, ht, q⟩ => q pu [] ht [] H ev.rfl' Reps.nil
theorem pad_cons (ha : PD W X a ta) (hs : PAD W X es tas) (h : starEach (a :: es) X.env = (false, eval a X.env) :: starEach es X.env := by rfl) : PAD W X (a :: es) (tConsA ta tas) := fun c =>
  PA_imp (pa_cons (ha c) (hs c) h) fun σ H Q ⟨pu, ρ, P, ev, ht, q⟩ => ⟨pu, ρ, _, ev, ht, fun pu1 x hx v H1 s1 r1 => ⟨pu1, ρ, _, ev.step s1, hx, fun pu2 xs hxs vs H2 s2 r2 =>
    q pu2 (x :: xs) hxs (v :: vs) H2 (s1.trans s2) (Reps.cons (Rep.mono (s2.mo _) x v r1) r2)⟩⟩

/-! ### calls of built-ins -/
section
variable {f : List D → (D → Prop) → Prop} {r : List V → Hp → VK → Prop} {id T : String} {x : Str} {p : Pos}
theorem cal_run {c : Ent} {σ : L2.St} {H : Hp} {Q : VK} {pu : Pu} {ρ : List Sl} {P : D → Nat → Prop} (ev : EnvR W c pu σ H ρ) (ht : tCall f tas pu.n ρ P)
    (k : ∀ xs vs pu1 H1, Stp pu H pu1 H1 → RepsK W pu1 (hdn c σ ρ) H1 xs vs → f xs (fun d => P d pu1.n) → r vs H1 Q) : tCB r (rdAK W c tas) σ H Q :=
  ⟨pu, ρ, _, ev, ht, fun pu1 xs hx vs H1 s1 r1 => k xs vs pu1 H1 s1 r1 hx⟩
theorem pd_callB (hc : CallR X (.builtin id) r) (k : Cal W f r) (hg : Gl X x) (hm : X.mg x = none) (hv : bootBuiltins x = some (.builtin id)) (ha : PAK W X (a :: es) tas) (hn : x ≠ "__name__" := by decide) (hdb : (x == ("__debug__" : Str)) = false := by decide)
    (he : starEach (a :: es) X.env = (false, eval a X.env) :: starEach es X.env := by rfl) (hpl : (backTo pos (starEach es X.env)).any (·.1) = false := by rfl) : PD W X (.Call (.Name x p) (a :: es) [] pos) (tCall f tas) := fun c =>
  PE_imp (pe_callB hc hg hm hv (ha c) hn hdb he hpl) fun σ H Q ⟨pu, ρ, P, ev, ht, q⟩ => cal_run ev ht fun pu1 xs vs H1 s r hf => k _ _ _ _ _ _ Q (ev.vw.step s) r hf (Post.trans s q)
theorem pf_callB (hc : CallR X (.builtin id) r) (k : CalF W f r) (hg : Gl X x) (hm : X.mg x = none) (hv : bootBuiltins x = some (.builtin id)) (ha : PAK W X (a :: es) tas) (hn : x ≠ "__name__" := by decide) (hdb : (x == ("__debug__" : Str)) = false := by decide)
    (he : starEach (a :: es) X.env = (false, eval a X.env) :: starEach es X.env := by rfl) (hpl : (backTo pos (starEach es X.env)).any (·.1) = false := by rfl) : PFD W X (.Call (.Name x p) (a :: es) [] pos) (tCall f tas) := fun c =>
  PE_imp (pe_callB hc hg hm hv (ha c) hn hdb he hpl) fun σ H Q ⟨pu, ρ, P, ev, ht, q⟩ => cal_run ev ht fun pu1 xs vs H1 s r hf => k _ _ _ _ _ _ Q (ev.vw.step s) r hf (PostF.trans s q)
theorem pd_callT (hc : CallR X (.type T) r) (k : Cal W f r) (hg : Gl X x) (hm : X.mg x = none) (hv : bootBuiltins x = some (.type T)) (ha : PAK W X (a :: es) tas) (hn : x ≠ "__name__" := by decide) (hdb : (x == ("__debug__" : Str)) = false := by decide)
    (he : starEach (a :: es) X.env = (false, eval a X.env) :: starEach es X.env := by rfl) (hpl : (backTo pos (starEach es X.env)).any (·.1) = false := by rfl) : PD W X (.Call (.Name x p) (a :: es) [] pos) (tCall f tas) := fun c =>
  PE_imp (pe_callTy hc hg hm hv (ha c) hn hdb he hpl) fun σ H Q ⟨pu, ρ, P, ev, ht, q⟩ => cal_run ev ht fun pu1 xs vs H1 s r hf => k _ _ _ _ _ _ Q (ev.vw.step s) r hf (Post.trans s q)
theorem pf_callT (hc : CallR X (.type T) r) (k : CalF W f r) (hg : Gl X x) (hm : X.mg x = none) (hv : bootBuiltins x = some (.type T)) (ha : PAK W X (a :: es) tas) (hn : x ≠ "__name__" := by decide) (hdb : (x == ("__debug__" : Str)) = false := by decide)
    (he : starEach (a :: es) X.env = (false, eval a X.env) :: starEach es X.env := by rfl) (hpl : (backTo pos (starEach es X.env)).any (·.1) = false := by rfl) : PFD W X (.Call (.Name x p) (a :: es) [] pos) (tCall f tas) := fun c =>
  PE_imp (pe_callTy hc hg hm hv (ha c) hn hdb he hpl) fun σ H Q ⟨pu, ρ, P, ev, ht, q⟩ => cal_run ev ht fun pu1 xs vs H1 s r hf => k _ _ _ _ _ _ Q (ev.vw.step s) r hf (PostF.trans s q)
end
end

/-! ### a new object -/
section
variable {W : Wd} {pu : Pu} {h : Addr → Bool} {H : Hp} {P : D → Prop} {Q : VK}
theorem stp_new (w : Vw pu h H) {p : Addr} {o : HO} (n : H p = none) : Stp pu H pu (upd H p o) where
  kp := fun a u e _ => by rw [upd_ne (ne_of_none e n)]; exact e
  up := fun _ z => z
  nw := fun _ z => .inl z
  ok := fun a q => by
    obtain ⟨x, y, z, i, e, r⟩ := w.ok a q
    exact ⟨x, y, z, i, by rw [upd_ne (ne_of_none e n)]; exact e, r⟩
theorem mo_new {p : Addr} {o : HO} (n : H p = none) : Mo pu (hid h H) pu (hid (fun a => h a || a == p) (upd H p o)) := ⟨fun a u e _ => by
  obtain ⟨q, e⟩ := hid_some e
  have ne := ne_of_none e n
  refine hid_of ?_ (by rw [upd_ne ne]; exact e)
  rw [q, Bool.false_or]
  exact beq_eq_false_iff_ne.mpr ne, fun _ z => z, fun _ z => .inl z⟩
theorem PostF.new (w : Vw pu h H) {ds : List D} {vs : List V} (r : Reps W pu (hid h H) ds vs) (hp : P (.lst ds)) (q : PostF W pu h H P Q) : ∀ p, H p = none → Q (.ref p) (upd H p (.lst vs)) := fun p n =>
  q _ hp p _ (stp_new w n) n (w.nopu n) ⟨vs, upd_same, Reps.mono (mo_new n) ds vs r⟩
theorem Post.tup (w : Vw pu h H) {ds : List D} {vs : List V} (r : Reps W pu (hid h H) ds vs) (hp : P (.tup ds)) (q : Post W pu h H P Q) : ∀ p, H p = none → Q (.ref p) (upd H p (.tup vs)) := fun p n => by
  refine q _ hp _ _ (stp_new w n) ?_
  simp only [Rep]
  refine ⟨p, vs, rfl, .inl ⟨.inl (hid_of (w.free n) upd_same), w.nopu n⟩, Reps.mono (stp_new w n |>.mo h) ds vs r⟩
end

/-! ### displays -/
section
variable {W : Wd} {X : Cx} {es : List Expr} {tas : TAD} {pos : Pos}
def tLstD (tas : TAD) : TD := fun n ρ Q => tas n ρ fun xs n1 => xs.length ≤ sizeLine ∧ Q (.lst xs) n1
def tTupD (tas : TAD) : TD := fun n ρ Q => tas n ρ fun xs n1 => xs.length ≤ sizeLine ∧ Q (.tup xs) n1
theorem pf_lst (h : PAD W X es tas) : PFD W X (.List es pos) (tLstD tas) := fun c => PE_imp (pe_lst (h c)) fun σ H Q ⟨pu, ρ, P, ev, ht, q⟩ =>
  ⟨pu, ρ, _, ev, ht, fun pu1 ds ⟨hz, hP⟩ vs H1 s r => ⟨by rw [r.length]; exact hz, PostF.new (P := fun d => P d pu1.n) (ev.vw.step s) r hP (PostF.trans s q)⟩⟩
theorem pd_tup {k} (h : PAD W X es tas) : PD W X (.Tuple es k pos) (tTupD tas) := fun c => PE_imp (pe_tup (h c)) fun σ H Q ⟨pu, ρ, P, ev, ht, q⟩ =>
  ⟨pu, ρ, _, ev, ht, fun pu1 ds ⟨hz, hP⟩ vs H1 s r => ⟨by rw [r.length]; exact hz, Post.tup (P := fun d => P d pu1.n) (ev.vw.step s) r hP (Post.trans s q)⟩⟩
end
end DL
namespace DL
open PySem PySem.Spec L2

/-! ### how slots change -/
section
variable {W : Wd} {c : Ent} {pu pu' : Pu} {σ : L2.St} {H H' : Hp} {ρ : List Sl} {d : D} {v : V} {a p : Addr} {i : Nat}
theorem getset {α : Type} {l : List α} {i j : Nat} {x y : α} (h : (l.set i x)[j]? = some y) : (j = i ∧ y = x) ∨ (j ≠ i ∧ l[j]? = some y) := by
  rw [List.getElem?_set] at h
  by_cases e : i = j
  · rw [if_pos e] at h
    by_cases e2 : i < l.length
    · rw [if_pos e2] at h; cases h; exact .inl ⟨e.symm, rfl⟩
    · rw [if_neg e2] at h; cases h
  · rw [if_neg e] at h; exact .inr ⟨fun z => e z.symm, h⟩
theorem own_drop {s : Sl} {x : Option V} (hs : ∀ d, s ≠ .ow d) (h : own (σ.set i x) (ρ.set i s) a = true) : own σ ρ a = true := by
  obtain ⟨j, dj, h1, h2⟩ := own_iff.mp h
  rcases getset h1 with ⟨_, e⟩ | ⟨ne, h1⟩
  · exact absurd e.symm (hs dj)
  · rw [List.getElem?_set_ne (Ne.symm ne)] at h2
    exact own_iff.mpr ⟨j, dj, h1, h2⟩
theorem mo_less {h h' : Addr → Bool} (k : ∀ a, h' a = true → h a = true) : Mo pu (hid h H) pu (hid h' H) where
  kp := fun a o e _ => by
    obtain ⟨q, e⟩ := hid_some e
    refine hid_of ?_ e
    cases z : h' a with
    | false => rfl
    | true => rw [k a z] at q; cases q
  up := fun _ z => z
  nw := fun _ z => .inl z
theorem hdn_drop {s : Sl} {x : Option V} (hs : ∀ d, s ≠ .ow d) (a : Addr) (h : hdn c (σ.set i x) (ρ.set i s) a = true) : hdn c σ ρ a = true := by
  unfold hdn at h ⊢
  rcases Bool.or_eq_true_iff.mp h with h | h
  · exact Bool.or_eq_true_iff.mpr (.inl h)
  · exact Bool.or_eq_true_iff.mpr (.inr (own_drop hs h))
theorem SlOk.less {ow ow' : Addr → Bool} {S' S : Hp} {x : Option (Option V)} {s : Sl} (m : Mo pu S' pu S) (k : ∀ a, ow' a = true → ow a = true) (h : SlOk W pu ow S' H x s) : SlOk W pu ow' S H x s := by
  cases s with
  | un => trivial
  | sh d => obtain ⟨v, h1, h2⟩ := h; exact ⟨v, h1, Rep.mono m d v h2⟩
  | ow d => obtain ⟨a, h1, h2⟩ := h; exact ⟨a, h1, h2.step m fun _ z => z⟩
  | pk d =>
    obtain ⟨v, h1, h2⟩ := h
    refine ⟨v, h1, ?_⟩
    rcases h2 with h2 | ⟨a, h3, n, no, h2⟩
    · exact .inl (Rep.mono m d v h2)
    · refine .inr ⟨a, h3, n, ?_, h2.step m fun _ z => z⟩
      cases z : ow' a with
      | false => rfl
      | true => rw [k a z] at no; cases no
/-- a slot takes what is no owned container -/
theorem EnvR.setAny {s : Sl} {x : Option V} (e : EnvR W c pu σ H ρ) (hs : ∀ d, s ≠ .ow d) (r : SlOk W pu (own (σ.set i x) (ρ.set i s)) (hid (hdn c (σ.set i x) (ρ.set i s)) H) H (some x) s) : EnvR W c pu (σ.set i x) H (ρ.set i s) where
  len := by rw [List.length_set, List.length_set]; exact e.len
  stp := e.stp
  hdl := e.hdl
  sl := fun j t ht => by
    rcases getset ht with ⟨ej, et⟩ | ⟨ne, ht⟩
    · subst ej et
      have hj : j < σ.length := by
        have := (List.getElem?_eq_some_iff.mp ht).1
        rw [List.length_set] at this
        rw [e.len]; exact this
      rw [List.getElem?_set_self hj]
      exact r
    · rw [List.getElem?_set_ne (Ne.symm ne)]
      exact (e.sl j t ht).less (mo_less (hdn_drop hs)) fun a z => own_drop hs z
  apart := fun j k dj dk a h1 h2 h3 h4 => by
    rcases getset h1 with ⟨_, z⟩ | ⟨n1, h1⟩
    · exact absurd z.symm (hs dj)
    rcases getset h2 with ⟨_, z⟩ | ⟨n2, h2⟩
    · exact absurd z.symm (hs dk)
    rw [List.getElem?_set_ne (Ne.symm n1)] at h3
    rw [List.getElem?_set_ne (Ne.symm n2)] at h4
    exact e.apart j k dj dk a h1 h2 h3 h4
  fresh := fun a z => e.fresh a (own_drop hs z)
theorem EnvR.setSh (e : EnvR W c pu σ H ρ) (r : Rep W pu (hid (hdn c σ ρ) H) d v) : EnvR W c pu (σ.set i (some v)) H (ρ.set i (.sh d)) :=
  e.setAny (fun _ z => by cases z) ⟨v, rfl, Rep.mono (mo_less (hdn_drop fun _ z => by cases z)) d v r⟩
theorem EnvR.setUn (e : EnvR W c pu σ H ρ) {x : Option V} : EnvR W c pu (σ.set i x) H (ρ.set i .un) := e.setAny (fun _ z => by cases z) trivial
/-- a slot takes a fresh container -/
theorem EnvR.setOw {H0 : Hp} (e : EnvR W c pu σ H0 ρ) (s : Stp pu H0 pu' H) (n : H0 p = none) (nu : pu' p = false) (r : OwR W pu' (hid (fun a => hdn c σ ρ a || a == p) H) H d p) :
    EnvR W c pu' (σ.set i (some (.ref p))) H (ρ.set i (.ow d)) := by
  have ow' : ∀ a, own (σ.set i (some (.ref p))) (ρ.set i (.ow d)) a = true → a = p ∨ own σ ρ a = true := fun a h => by
    obtain ⟨j, dj, h1, h2⟩ := own_iff.mp h
    rcases getset h1 with ⟨ej, _⟩ | ⟨ne, h1⟩
    · subst ej
      rcases getset h2 with ⟨_, z⟩ | ⟨z, _⟩
      · cases z; exact .inl rfl
      · exact absurd rfl z
    · rw [List.getElem?_set_ne (Ne.symm ne)] at h2
      exact .inr (own_iff.mpr ⟨j, dj, h1, h2⟩)
  have hdn' : ∀ a, hdn c (σ.set i (some (.ref p))) (ρ.set i (.ow d)) a = true → a = p ∨ hdn c σ ρ a = true := fun a h => by
    unfold hdn at h ⊢
    rcases Bool.or_eq_true_iff.mp h with h | h
    · exact .inr (Bool.or_eq_true_iff.mpr (.inl h))
    · exact (ow' a h).imp_right fun z => Bool.or_eq_true_iff.mpr (.inr z)
  have m : Mo pu (hid (hdn c σ ρ) H0) pu' (hid (hdn c (σ.set i (some (.ref p))) (ρ.set i (.ow d))) H) := by
    refine ⟨fun a o q nu => ?_, s.up, fun a q => ?_⟩
    · obtain ⟨q1, q2⟩ := hid_some q
      refine hid_of ?_ (s.kp a o q2 nu)
      cases z : hdn c (σ.set i (some (.ref p))) (ρ.set i (.ow d)) a with
      | false => rfl
      | true =>
        rcases hdn' a z with z | z
        · rw [z, n] at q2; cases q2
        · rw [z] at q1; cases q1
    · rcases s.nw a q with z | z
      · exact .inl z
      · exact .inr (by unfold hid; rw [z]; split <;> rfl)
  have cn : c.H p = none := e.stp.none n
  have ch : c.hd p = false := by
    cases z : c.hd p with
    | false => rfl
    | true => obtain ⟨o, q⟩ := e.hdl p z; rw [n] at q; cases q
  refine ⟨by rw [List.length_set, List.length_set]; exact e.len, e.stp.trans s, fun a h => let ⟨_, q⟩ := e.hdl a h; s.some q, fun j t ht => ?_, fun j k dj dk a h1 h2 h3 h4 => ?_, fun a z => ?_⟩
  · rcases getset ht with ⟨ej, et⟩ | ⟨ne, ht⟩
    · subst ej et
      have hj : j < σ.length := by
        have := (List.getElem?_eq_some_iff.mp ht).1
        rw [List.length_set] at this
        rw [e.len]; exact this
      rw [List.getElem?_set_self hj]
      refine ⟨p, rfl, r.step (mo_less fun a z => ?_) fun _ z => z⟩
      rcases hdn' a z with z | z
      · rw [z]; simp
      · rw [z]; rfl
    · rw [List.getElem?_set_ne (Ne.symm ne)]
      have q := e.sl j t ht
      cases t with
      | un => trivial
      | sh d' => obtain ⟨v, h1, h2⟩ := q; exact ⟨v, h1, Rep.mono m d' v h2⟩
      | ow d' =>
        obtain ⟨a, h1, h2⟩ := q
        obtain ⟨_, na, _⟩ := e.fresh a (own_iff.mpr ⟨j, d', ht, h1⟩)
        exact ⟨a, h1, h2.step m fun o z => s.kp a o z na⟩
      | pk d' =>
        obtain ⟨v, h1, h2⟩ := q
        refine ⟨v, h1, ?_⟩
        rcases h2 with h2 | ⟨a, h3, na, no, h2⟩
        · exact .inl (Rep.mono m d' v h2)
        · refine .inr ⟨a, h3, s.mo'.off na h2.there, ?_, h2.step m fun o z => s.kp a o z na⟩
          cases z : own (σ.set i (some (.ref p))) (ρ.set i (.ow d)) a with
          | false => rfl
          | true =>
            rcases ow' a z with z | z
            · obtain ⟨o, q⟩ := h2.there
              rw [z, n] at q; cases q
            · rw [z] at no; cases no
  · rcases getset h1 with ⟨ej, _⟩ | ⟨n1, h1'⟩
    · rcases getset h2 with ⟨ek, _⟩ | ⟨n2, h2'⟩
      · rw [ej, ek]
      · exfalso
        subst ej
        rcases getset h3 with ⟨_, z⟩ | ⟨z, _⟩
        · cases z
          rw [List.getElem?_set_ne (Ne.symm n2)] at h4
          obtain ⟨_, _, o, q⟩ := e.fresh _ (own_iff.mpr ⟨k, dk, h2', h4⟩)
          rw [n] at q; cases q
        · exact z rfl
    · rcases getset h2 with ⟨ek, _⟩ | ⟨n2, h2'⟩
      · exfalso
        subst ek
        rcases getset h4 with ⟨_, z⟩ | ⟨z, _⟩
        · cases z
          rw [List.getElem?_set_ne (Ne.symm n1)] at h3
          obtain ⟨_, _, o, q⟩ := e.fresh _ (own_iff.mpr ⟨j, dj, h1', h3⟩)
          rw [n] at q; cases q
        · exact z rfl
      · rw [List.getElem?_set_ne (Ne.symm n1)] at h3
        rw [List.getElem?_set_ne (Ne.symm n2)] at h4
        exact e.apart j k dj dk a h1' h2' h3 h4
  · rcases ow' a z with z | z
    · subst z
      exact ⟨⟨cn, ch⟩, nu, r.there⟩
    · obtain ⟨h1, h2, o, h3⟩ := e.fresh a z
      exact ⟨h1, s.mo'.off h2 ⟨o, h3⟩, o, s.kp a o h3 h2⟩
theorem own_at (e : EnvR W c pu σ H ρ) (h : ρ[i]? = some (.ow d)) : ∃ a, σ[i]? = some (some (.ref a)) ∧ OwR W pu (hid (hdn c σ ρ) H) H d a ∧ own σ ρ a = true := by
  obtain ⟨a, h1, h2⟩ := e.sl i _ h
  exact ⟨a, h1, h2, own_iff.mpr ⟨i, d, h, h1⟩⟩
theorem setsame {α : Type} {l : List α} {i : Nat} {x : α} (h : l[i]? = some x) : l.set i x = l := by
  apply List.ext_getElem?
  intro j
  rw [List.getElem?_set]
  by_cases e : i = j
  · subst e; rw [if_pos rfl, if_pos (List.getElem?_eq_some_iff.mp h).1, h]
  · rw [if_neg e]
/-- an owned container becomes a value -/
theorem EnvR.freeze (e : EnvR W c pu σ H ρ) (h : ρ[i]? = some (.ow d)) : EnvR W c pu σ H (ρ.set i (.sh d)) := by
  obtain ⟨a, h1, h2, ho⟩ := own_at e h
  have hs : ∀ d', Sl.sh d ≠ .ow d' := fun _ z => by cases z
  have na : own (σ.set i (some (.ref a))) (ρ.set i (.sh d)) a = false := by
    cases z : own (σ.set i (some (.ref a))) (ρ.set i (.sh d)) a with
    | false => rfl
    | true =>
      obtain ⟨j, dj, q1, q2⟩ := own_iff.mp z
      rcases getset q1 with ⟨_, e1⟩ | ⟨ne, q1⟩
      · cases e1
      · rw [List.getElem?_set_ne (Ne.symm ne)] at q2
        exact absurd (e.apart j i dj d a q1 h q2 h1) ne
  have q := e.setAny (i := i) (x := some (.ref a)) (s := .sh d) hs ?_
  · rwa [setsame h1] at q
  · obtain ⟨⟨_, ch⟩, nu, _⟩ := e.fresh a ho
    have nh : hdn c (σ.set i (some (.ref a))) (ρ.set i (.sh d)) a = false := hdn_false.mpr ⟨ch, na⟩
    refine ⟨.ref a, rfl, ow_rep nh nu (h2.step (mo_less fun b z => ?_) fun _ z => z)⟩
    rcases Bool.or_eq_true_iff.mp z with z | z
    · exact hdn_drop hs b z
    · have : b = a := by simpa using z
      rw [this]; unfold hdn; rw [ho]; simp
theorem slot_set_same : ∀ {ρ : List Sl} {i : Nat} {s t : Sl}, ρ[i]? = some s → slot (ρ.set i t) i = t
  | [], _, _, _, h => by simp at h
  | _ :: _, 0, _, _, _ => rfl
  | _ :: r, i + 1, _, _, h => slot_set_same (ρ := r) (by simpa using h)
/-- what an owned container holds is changed -/
theorem EnvR.mut {d' : D} {o : HO} (e : EnvR W c pu σ H ρ) (h : ρ[i]? = some (.ow d)) (ha : σ[i]? = some (some (.ref a))) (r : OwR W pu (hid (hdn c σ ρ) H) (upd H a o) d' a) : EnvR W c pu σ (upd H a o) (ρ.set i (.ow d')) := by
  have ho : own σ ρ a = true := own_iff.mpr ⟨i, d, h, ha⟩
  obtain ⟨⟨cn, ch⟩, nu, oo, hoo⟩ := e.fresh a ho
  have hiρ : i < ρ.length := (List.getElem?_eq_some_iff.mp h).1
  have ow_eq : own σ (ρ.set i (.ow d')) = own σ ρ := by
    funext b
    rw [Bool.eq_iff_iff]
    constructor
    · intro z
      obtain ⟨j, dj, q1, q2⟩ := own_iff.mp z
      rcases getset q1 with ⟨ej, _⟩ | ⟨ne, q1⟩
      · subst ej; exact own_iff.mpr ⟨j, d, h, q2⟩
      · exact own_iff.mpr ⟨j, dj, q1, q2⟩
    · intro z
      obtain ⟨j, dj, q1, q2⟩ := own_iff.mp z
      by_cases ej : j = i
      · subst ej; exact own_iff.mpr ⟨j, d', List.getElem?_set_self hiρ, q2⟩
      · exact own_iff.mpr ⟨j, dj, by rw [List.getElem?_set_ne (Ne.symm ej)]; exact q1, q2⟩
  have hdn_eq : hdn c σ (ρ.set i (.ow d')) = hdn c σ ρ := by funext b; unfold hdn; rw [ow_eq]
  have vis : hid (hdn c σ ρ) (upd H a o) = hid (hdn c σ ρ) H := by
    funext b
    unfold hid
    by_cases eb : b = a
    · subst eb
      have : hdn c σ ρ b = true := by unfold hdn; rw [ho]; simp
      rw [this]; rfl
    · rw [upd_ne eb]
  refine ⟨by rw [List.length_set]; exact e.len, ⟨fun b u q n => ?_, e.stp.up, e.stp.nw, fun b q => ?_⟩, fun b q => ?_, fun j t ht => ?_, fun j k dj dk b h1 h2 h3 h4 => ?_, fun b z => ?_⟩
  · have : b ≠ a := ne_of_none q cn
    rw [upd_ne this]; exact e.stp.kp b u q n
  · obtain ⟨x, y, z, w, q1, q2⟩ := e.pok b q
    have : b ≠ a := fun z => by rw [z, nu] at q; cases q
    exact ⟨x, y, z, w, by rw [upd_ne this]; exact q1, q2⟩
  · obtain ⟨u, q1⟩ := e.hdl b q
    have : b ≠ a := fun z => by rw [z, ch] at q; cases q
    exact ⟨u, by rw [upd_ne this]; exact q1⟩
  · rw [ow_eq, hdn_eq, vis]
    rcases getset ht with ⟨ej, et⟩ | ⟨ne, ht⟩
    · subst ej et
      exact ⟨a, ha, r⟩
    · have q := e.sl j t ht
      cases t with
      | un => trivial
      | sh d2 => exact q
      | ow d2 =>
        obtain ⟨b, h1, h2⟩ := q
        have nb : b ≠ a := fun z => ne (e.apart j i d2 d a ht h (by rw [← z]; exact h1) ha)
        exact ⟨b, h1, h2.step (mo_less fun _ z => z) fun u z => by rw [upd_ne nb]; exact z⟩
      | pk d2 =>
        obtain ⟨v, h1, h2⟩ := q
        refine ⟨v, h1, ?_⟩
        rcases h2 with h2 | ⟨b, h3, nb, no, h2⟩
        · exact .inl h2
        · have nb' : b ≠ a := fun z => by rw [z, ho] at no; cases no
          exact .inr ⟨b, h3, nb, no, h2.step (mo_less fun _ z => z) fun u z => by rw [upd_ne nb']; exact z⟩
  · have f : ∀ {m : Nat} {dm : D}, (ρ.set i (.ow d'))[m]? = some (Sl.ow dm) → ∃ dm', ρ[m]? = some (Sl.ow dm') := fun {m dm} q => by
      rcases getset q with ⟨em, _⟩ | ⟨_, q⟩
      · subst em; exact ⟨d, h⟩
      · exact ⟨dm, q⟩
    obtain ⟨dj', h1⟩ := f h1
    obtain ⟨dk', h2⟩ := f h2
    exact e.apart j k dj' dk' b h1 h2 h3 h4
  · rw [ow_eq] at z
    obtain ⟨h1, h2, u, h3⟩ := e.fresh b z
    refine ⟨h1, h2, ?_⟩
    by_cases eb : b = a
    · subst eb; exact ⟨o, upd_same⟩
    · exact ⟨u, by rw [upd_ne eb]; exact h3⟩
end

/-! ### blocks and small statements -/
section
variable {W : Wd} {X : Cx} {fr : Bool} {st : Stmt} {rest : List Stmt} {t u : TDS} {e : Expr} {te : TD} {pos : Pos}
def tNextD : TDS := fun E n ρ => E.nx n ρ
def tSeqD (t u : TDS) : TDS := fun E n ρ => t { E with nx := u E } n ρ
theorem pssd_nil : PSsD W X fr [] tNextD := fun c _ => PSs_imp pss_nil fun De σ H ⟨pu, ρ, E, ev, ht, h1, _⟩ => h1 pu ρ ht σ H ev
theorem pssd_cons (h1 : PSD W X fr st t) (h2 : PSsD W X fr rest u) : PSsD W X fr (st :: rest) (tSeqD t u) := fun c hc => PSs_imp (pss_cons (h1 c hc) (h2 c hc)) fun De σ H ⟨pu, ρ, E, ev, ht, q1, q2, q3, q4⟩ =>
  ⟨pu, ρ, { E with nx := u E }, ev, ht, fun pu' ρ' hu σ' H' ev' => ⟨pu', ρ', E, ev', hu, q1, q2, q3, q4⟩, q2, q3, q4⟩
theorem pssd_one (h1 : PSD W X fr st t) : PSsD W X fr [st] t := fun c hc => pss_one (h1 c hc)
def tNeverD : TDS := fun _ _ _ => False
theorem psd_never : PSD W X fr st tNeverD := fun c _ => PS_imp ps_never fun De σ H ⟨_, _, _, _, ht, _⟩ => ht
theorem pssd_never : PSsD W X fr rest tNeverD := fun c _ => PSs_imp pss_never fun De σ H ⟨_, _, _, _, ht, _⟩ => ht
def tBreakD : TDS := fun E n ρ => E.bk n ρ
theorem psd_pass : PSD W X fr (.Pass pos) tNextD := fun c _ => PS_imp ps_pass fun De σ H ⟨pu, ρ, E, ev, ht, h1, _⟩ => h1 pu ρ ht σ H ev
theorem psd_break : PSD W X fr (.Break pos) tBreakD := fun c _ => PS_imp ps_break fun De σ H ⟨pu, ρ, E, ev, ht, h1, h2, h3, h4⟩ => h3 pu ρ ht σ H ev
/-- the containers in some slots become values -/
def frz1 (i : Nat) (ρ : List Sl) : List Sl := match slot ρ i with
  | .ow d => ρ.set i (.sh d)
  | _ => ρ
def frzs : List Nat → List Sl → List Sl
  | [], ρ => ρ
  | i :: is, ρ => frzs is (frz1 i ρ)
theorem EnvR.frz1 {c : Ent} {pu : Pu} {σ : L2.St} {H : Hp} {ρ : List Sl} (i : Nat) (e : EnvR W c pu σ H ρ) : EnvR W c pu σ H (frz1 i ρ) := by
  unfold DL.frz1
  cases h : slot ρ i with
  | ow d => exact e.freeze (slot_some h (by intro z; cases z))
  | _ => exact e
theorem EnvR.frzs {c : Ent} {pu : Pu} {σ : L2.St} {H : Hp} : ∀ (is : List Nat) {ρ : List Sl}, EnvR W c pu σ H ρ → EnvR W c pu σ H (frzs is ρ)
  | [], _, e => e
  | i :: is, _, e => EnvR.frzs is (e.frz1 i)
def tFz (is : List Nat) (t : TDS) : TDS := fun E n ρ => t E n (frzs is ρ)
theorem psd_fz (is : List Nat) (h : PSD W X fr st t) : PSD W X fr st (tFz is t) := fun c hc => PS_imp (h c hc) fun De σ H ⟨pu, ρ, E, ev, ht, q⟩ => ⟨pu, frzs is ρ, E, ev.frzs is, ht, q⟩

def tDropD (te : TD) : TDS := fun E n ρ => te n ρ fun _ n1 => E.nx n1 ρ
theorem psd_expr (he : PD W X e te) (hs : swapsWith e none pos.line X.env = pure false := by rfl) : PSD W X fr (.Expr e pos) (tDropD te) := fun c _ => PS_imp (ps_expr (he c) hs) fun De σ H ⟨pu, ρ, E, ev, ht, h1, _⟩ =>
  ⟨pu, ρ, _, ev, ht, fun pu' d hd v H' s r => h1 pu' ρ hd σ H' (ev.step s)⟩
def tRetD (te : TD) : TDS := fun E n ρ => te n ρ E.rt
theorem psd_ret (he : PD W X e te) : PSD W X false (.Return (some e) pos) (tRetD te) := fun c hc => PS_imp (ps_ret (he c)) fun De σ H ⟨pu, ρ, E, ev, ht, h1, h2, _⟩ =>
  ⟨pu, ρ, _, ev, ht, fun pu' d hd v H' s r => h2 pu' d hd v H' (by
    unfold RetR
    rw [hc, if_neg Bool.false_ne_true]
    exact ⟨ev.stp.trans s, Rep.mono (mo_less fun a z => by unfold hdn; rw [z]; rfl) d v r⟩)⟩
theorem psd_retF (he : PFD W X e te) : PSD W X true (.Return (some e) pos) (tRetD te) := fun c hc => PS_imp (ps_ret (he c)) fun De σ H ⟨pu, ρ, E, ev, ht, h1, h2, _⟩ =>
  ⟨pu, ρ, _, ev, ht, fun pu' d hd p H' s n nu r => h2 pu' d hd (.ref p) H' (by
    unfold RetR
    rw [hc, if_pos rfl]
    refine ⟨p, rfl, ev.stp.trans s, ev.stp.none n, nu, r.step (mo_less fun a z => ?_) fun _ z => z⟩
    rcases Bool.or_eq_true_iff.mp z with z | z
    · unfold hdn; rw [z]; rfl
    · rw [z]; simp)⟩
/-- return of an owned container -/
def tRetO (i : Nat) : TDS := fun E n ρ => match slot ρ i with
  | .ow d => E.rt d n
  | _ => False
theorem psd_retO {i : Nat} (he : PE X e (L2.tVar i)) : PSD W X true (.Return (some e) pos) (tRetO i) := fun c hc => PS_imp (ps_ret he) fun De σ H ⟨pu, ρ, E, ev, ht, h1, h2, _⟩ => by
  unfold tRetO at ht
  cases hs : slot ρ i with
  | ow d =>
    rw [hs] at ht
    have e0 := slot_some hs (by intro z; cases z)
    obtain ⟨a, q1, q2, q3⟩ := own_at ev e0
    obtain ⟨⟨cn, ch⟩, nu, _⟩ := ev.fresh a q3
    refine ⟨.ref a, q1, h2 pu d ht _ H ?_⟩
    unfold RetR
    rw [hc, if_pos rfl]
    refine ⟨a, rfl, ev.stp, cn, nu, q2.step (mo_less fun b z => ?_) fun _ z => z⟩
    rcases Bool.or_eq_true_iff.mp z with z | z
    · unfold hdn; rw [z]; rfl
    · have : b = a := by simpa using z
      rw [this]; unfold hdn; rw [q3]; simp
  | un => rw [hs] at ht; exact False.elim ht
  | sh d => rw [hs] at ht; exact False.elim ht
  | pk d => rw [hs] at ht; exact False.elim ht
def tIfD (c : TTD) (t u : TDS) : TDS := fun E n ρ => c n ρ fun b n1 => if b = true then t E n1 ρ else u E n1 ρ
theorem psd_if {ce : Expr} {a b : List Stmt} {tc : TTD} (hc : PTD W X ce tc) (ha : PSsD W X fr a t) (hb : PSsD W X fr b u) : PSD W X fr (.If ce a b pos) (tIfD tc t u) := fun c hf => PS_imp (ps_if (hc c) (ha c hf) (hb c hf)) fun De σ H ⟨pu, ρ, E, ev, ht, q⟩ =>
  ⟨pu, ρ, _, ev, ht, fun pu' b hb H' s => by
    cases b with
    | true => exact iteT ⟨pu', ρ, E, ev.step s, by simpa using hb, q⟩
    | false => exact iteF ⟨pu', ρ, E, ev.step s, by simpa using hb, q⟩⟩
/-- name = value; name = a fresh container -/
def tSetD (i : Nat) (te : TD) : TDS := fun E n ρ => te n ρ fun d n1 => E.nx n1 (ρ.set i (.sh d))
def tSetO (i : Nat) (te : TD) : TDS := fun E n ρ => te n ρ fun d n1 => E.nx n1 (ρ.set i (.ow d))
theorem psd_set {i : Nat} {x : Str} {pos' : Pos} (hN : X.N.Nodup) (hi : X.N[i]? = some x) (hx : Loc X.env.scope x) (he : PD W X e te) (hs : swapsWith e (some (.Name x pos')) pos.line X.env = pure false := by rfl) (hf : X.fn x = true ∨ X.env.scope.names.lookup x = some .local := by first | exact .inl rfl | exact .inr rfl | assumption) :
    PSD W X fr (.Assign [.Name x pos'] e pos) (tSetD i te) := fun c _ => PS_imp (ps_set hN hi hx (he c) hs hf) fun De σ H ⟨pu, ρ, E, ev, ht, h1, _⟩ =>
  ⟨pu, ρ, _, ev, ht, fun pu' d hd v H' s r => h1 pu' _ hd _ H' ((ev.step s).setSh r)⟩
theorem psd_setO {i : Nat} {x : Str} {pos' : Pos} (hN : X.N.Nodup) (hi : X.N[i]? = some x) (hx : Loc X.env.scope x) (he : PFD W X e te) (hs : swapsWith e (some (.Name x pos')) pos.line X.env = pure false := by rfl) (hf : X.fn x = true ∨ X.env.scope.names.lookup x = some .local := by first | exact .inl rfl | exact .inr rfl | assumption) :
    PSD W X fr (.Assign [.Name x pos'] e pos) (tSetO i te) := fun c _ => PS_imp (ps_set hN hi hx (he c) hs hf) fun De σ H ⟨pu, ρ, E, ev, ht, h1, _⟩ =>
  ⟨pu, ρ, _, ev, ht, fun pu' d hd p H' s n nu r => h1 pu' _ hd _ H' (ev.setOw s n nu r)⟩
end

/-! ### while -/
section
variable {W : Wd} {X : Cx} {fr : Bool} {ce : Expr} {body : List Stmt} {tc : TTD} {tb : TDS} {pos : Pos}
def whD (c : TTD) (b : TDS) : Nat → TDS
  | 0 => fun _ _ _ => False
  | n + 1 => fun E m ρ => c m ρ fun k m1 => if k = true then b { E with nx := whD c b n E, ct := whD c b n E, bk := E.nx } m1 ρ else E.nx m1 ρ
def tWhileD (c : TTD) (b : TDS) : TDS := fun E m ρ => ∃ n, whD c b n E m ρ
theorem psd_while (hp : PassesOwn (model X.prog X.w) X.A X.env X.xe) (hc : PTD W X ce tc) (hb : PSsD W X fr body tb) : PSD W X fr (.While ce body [] pos) (tWhileD tc tb) := fun c hf => PS_imp (ps_while hp (hc c) (hb c hf)) fun De σ H ⟨pu, ρ, E, ev, ⟨n, ht⟩, q1, q2, q3, q4⟩ => by
  refine ⟨fun m σ H => ∃ pu ρ, EnvR W c pu σ H ρ ∧ whD tc tb m E pu.n ρ, ⟨n, pu, ρ, ev, ht⟩, ?_⟩
  rintro m σ H ⟨pu, ρ, ev, ht⟩
  cases m with
  | zero => exact False.elim ht
  | succ m =>
    refine ⟨pu, ρ, _, ev, ht, fun pu' b hb H' s => ?_⟩
    cases b with
    | true =>
      refine iteT ⟨fun σ' H' => ∃ pu ρ, EnvR W c pu σ' H' ρ ∧ whD tc tb m E pu.n ρ, fun σ' H' z => ⟨m, Nat.lt_succ_self _, z⟩, pu', ρ, { E with nx := whD tc tb m E, ct := whD tc tb m E, bk := E.nx }, ev.step s, by simpa using hb, ?_, q2, ?_, ?_⟩
      · exact fun pu' ρ' z σ' H' ev' => ⟨pu', ρ', ev', z⟩
      · exact fun pu' ρ' z σ' H' ev' => q1 pu' ρ' z σ' H' ev'
      · exact fun pu' ρ' z σ' H' ev' => ⟨pu', ρ', ev', z⟩
    | false => exact iteF (q1 pu' ρ (by simpa using hb) σ H' (ev.step s))
end
end DL
namespace DL
open PySem PySem.Spec L2

/-! ### what is walked -/
/-- J walks the values ds, while all that stood in B stands -/
def ItOk (W : Wd) (pu : Pu) (B : Hp) (h : Addr → Bool) (J : It) (ds : List D) : Prop :=
  ∃ (G : Hp → Prop) (Y : Nat → Hp → V → Hp → Prop), Walk J ds.length G Y ∧ (∀ pu' H', Stp pu B pu' H' → G H') ∧
    ∀ pu' H' h', Stp pu B pu' H' → (∀ a, h' a = true → h a = true ∨ B a = none) → (∀ a, h' a = true → ∃ o, H' a = some o) → ∀ i x H'' d, ds[i]? = some d → Y i H' x H'' → Stp pu' H' pu' H'' ∧ Rep W pu' (hid h' H'') d x
abbrev SRC := Nat → List Sl → (List D → Nat → Prop) → Prop
/-- for a comprehension; for a for -/
def rdI (W : Wd) (c : Ent) (t : SRC) : TI := fun σ H R => ∃ pu ρ P, EnvR W c pu σ H ρ ∧ t pu.n ρ P ∧ ∀ (pu1 : Pu) ds, P ds pu1.n → ∀ J H1, Stp pu H pu1 H1 → ItOk W pu1 H1 (hdn c σ ρ) J ds → R J H1
def rdJ (W : Wd) (c : Ent) (t : SRC) : TI := fun σ H R => ∃ pu ρ P, EnvR W c pu σ H ρ ∧ t pu.n ρ P ∧ ∀ (pu1 : Pu) ds, P ds pu1.n → ∀ J H1, Stp pu H pu1 H1 → ItOk W pu1 (hid (own σ ρ) H1) c.hd J ds → R J H1
def PID (W : Wd) (X : Cx) (tg e : Expr) (t : SRC) : Prop := ∀ c, PI X tg e (rdI W c t)
def PJD (W : Wd) (X : Cx) (tg e : Expr) (t : SRC) : Prop := ∀ c, PI X tg e (rdJ W c t)
theorem PI_imp {X : Cx} {tg e : Expr} {t t' : TI} (h : PI X tg e t) (k : ∀ σ H R, t' σ H R → t σ H R) : PI X tg e t' := ⟨fun pins s σ H R I q => h.run pins s σ H R I (k _ _ _ q)⟩
section
variable {W : Wd} {pu pu' : Pu} {B H' : Hp} {h h' : Addr → Bool} {a b : Addr}
theorem mo_base (s : Stp pu B pu' H') (k : ∀ a, h' a = true → h a = true ∨ B a = none) : Mo pu (hid h B) pu' (hid h' H') where
  kp := fun a o e n => by
    obtain ⟨q, e⟩ := hid_some e
    refine hid_of ?_ (s.kp a o e n)
    cases z : h' a with
    | false => rfl
    | true =>
      rcases k a z with z | z
      · rw [q] at z; cases z
      · rw [e] at z; cases z
  up := s.up
  nw := fun a q => by
    rcases s.nw a q with z | z
    · exact .inl z
    · exact .inr (by unfold hid; rw [z]; split <;> rfl)
theorem itok_list {ds : List D} {vs : List V} (q : Rd B a (.lst vs)) (n : pu a = false) (r : Reps W pu (hid h B) ds vs) : ItOk W pu B h (Itl W.K a) ds := by
  refine ⟨fun H => SqL W.K H a vs, YAt vs, ?_, fun pu' H' s => .inl (rd_mono (fun o e => s.kp a o e n) q), fun pu' H' h' s k _ i x H'' d hd hy => ?_⟩
  · rw [← r.length]; exact walk_list
  · obtain ⟨rfl, hx⟩ := hy
    refine ⟨Stp.refl s.ok, ?_⟩
    obtain ⟨v, q1, q2⟩ := r.get hd
    rw [hx] at q1; cases q1
    exact Rep.mono (mo_base s k) d x q2
theorem itok_tup {ds : List D} {vs : List V} (q : (Rd B a (.tup vs) ∧ pu a = false) ∨ StatT W.K a vs) (r : Reps W pu (hid h B) ds vs) : ItOk W pu B h (Itt W.K a) ds := by
  refine ⟨fun H => SqT W.K H a vs, YAt vs, ?_, fun pu' H' s => ?_, fun pu' H' h' s k _ i x H'' d hd hy => ?_⟩
  · rw [← r.length]; exact walk_tup
  · rcases q with ⟨q, n⟩ | q
    · exact .inl (rd_mono (fun o e => s.kp a o e n) q)
    · exact .inr q
  · obtain ⟨rfl, hx⟩ := hy
    refine ⟨Stp.refl s.ok, ?_⟩
    obtain ⟨v, q1, q2⟩ := r.get hd
    rw [hx] at q1; cases q1
    exact Rep.mono (mo_base s k) d x q2
def rangeD (lo : Int) (n : Nat) : List D := (List.range n).map fun (i : Nat) => D.int (lo + i)
theorem itok_range {lo : Int} {n : Nat} : ItOk W pu B h (Itr lo n) (rangeD lo n) := by
  refine ⟨fun _ => True, YFn fun i => .int (lo + i), ?_, fun _ _ _ => trivial, fun pu' H' h' s k _ i x H'' d hd hy => ?_⟩
  · have : (rangeD lo n).length = n := by unfold rangeD; simp
    rw [this]; exact walk_range
  · obtain ⟨rfl, rfl⟩ := hy
    refine ⟨Stp.refl s.ok, ?_⟩
    unfold rangeD at hd
    rw [List.getElem?_map] at hd
    have hi : i < n := by
      by_cases z : i < n
      · exact z
      · rw [List.getElem?_eq_none (by simp; omega)] at hd; cases hd
    rw [List.getElem?_range hi] at hd
    cases hd
    simp only [Rep]
/-- a pair new in each turn -/
theorem pair_ok {xs ys : Nat → Option V} {ds : List D} {J : It} {G : Hp → Prop} (w : Walk J ds.length G (YPair xs ys)) (hG : ∀ pu' H', Stp pu B pu' H' → G H') {f g : Nat → Option D}
    (hds : ∀ (i : Nat) d, ds[i]? = some d → ∃ x y, f i = some x ∧ g i = some y ∧ d = .tup [x, y])
    (hx : ∀ (i : Nat) d v, f i = some d → xs i = some v → Rep W pu (hid h B) d v) (hy : ∀ (i : Nat) d v, g i = some d → ys i = some v → Rep W pu (hid h B) d v) : ItOk W pu B h J ds := by
  refine ⟨G, _, w, hG, fun pu' H' h' s k th i x H'' d hd hY => ?_⟩
  obtain ⟨T, x1, y1, rfl, nT, rfl, e1, e2⟩ := hY
  obtain ⟨dx, dy, f1, f2, rfl⟩ := hds i d hd
  have vw : Vw pu' h' H' := ⟨s.ok, th⟩
  have st := stp_new vw (o := .tup [x1, y1]) nT
  refine ⟨st, ?_⟩
  simp only [Rep]
  refine ⟨T, [x1, y1], rfl, .inl ⟨.inl (hid_of (vw.free nT) upd_same), vw.nopu nT⟩, ?_⟩
  exact Reps.cons (Rep.mono (st.mo h') _ _ (Rep.mono (mo_base s k) dx x1 (hx i dx x1 f1 e1))) (Reps.one (Rep.mono (st.mo h') _ _ (Rep.mono (mo_base s k) dy y1 (hy i dy y1 f2 e2))))
def enumD (ds : List D) : List D := ds.zipIdx.map fun p => D.tup [.int (p.2 : Nat), p.1]
theorem itok_enum {ds : List D} {vs : List V} (q : Rd B a (.lst vs)) (n : pu a = false) (r : Reps W pu (hid h B) ds vs) : ItOk W pu B h (Ite W.K a) (enumD ds) := by
  have hl : (enumD ds).length = vs.length := by unfold enumD; simp [r.length]
  have w := walk_enum (K := W.K) (a := a) (xs := vs)
  rw [← hl] at w
  refine pair_ok (f := fun i => some (.int (i : Nat))) (g := fun i => ds[i]?) w (fun pu' H' s => .inl (rd_mono (fun o e => s.kp a o e n) q)) (fun i d hd => ?_) (fun i d v e1 e2 => ?_) (fun i d v e1 e2 => ?_)
  · unfold enumD at hd
    rw [List.getElem?_map, List.getElem?_zipIdx] at hd
    cases e : ds[i]? with
    | none => rw [e] at hd; simp at hd
    | some y =>
      rw [e] at hd
      simp at hd
      exact ⟨_, y, rfl, rfl, hd.symm⟩
  · cases e1; cases e2; simp only [Rep]
  · obtain ⟨u, q1, q2⟩ := r.get e1
    rw [e2] at q1; cases q1; exact q2
def zipD (ds es : List D) : List D := (ds.zip es).map fun p => D.tup [p.1, p.2]
theorem itok_zip {ds es : List D} {vs us : List V} (q : Rd B a (.lst vs)) (n : pu a = false) (r : Reps W pu (hid h B) ds vs) (q' : Rd B b (.lst us)) (n' : pu b = false) (r' : Reps W pu (hid h B) es us) : ItOk W pu B h (Itz W.K a b) (zipD ds es) := by
  have hl : (zipD ds es).length = min vs.length us.length := by unfold zipD; simp [r.length, r'.length]
  have w := walk_zip (K := W.K) (a := a) (b := b) (xs := vs) (ys := us) hl
  refine pair_ok (f := fun i => ds[i]?) (g := fun i => es[i]?) w (fun pu' H' s => ⟨.inl (rd_mono (fun o e => s.kp a o e n) q), .inl (rd_mono (fun o e => s.kp b o e n') q')⟩) (fun i d hd => ?_) (fun i d v e1 e2 => ?_) (fun i d v e1 e2 => ?_)
  · unfold zipD at hd
    rw [List.getElem?_map] at hd
    cases e : (ds.zip es)[i]? with
    | none => rw [e] at hd; simp at hd
    | some y =>
      rw [e] at hd
      simp at hd
      obtain ⟨h1, h2⟩ := List.getElem?_zip_eq_some.mp e
      exact ⟨y.1, y.2, h1, h2, hd.symm⟩
  · obtain ⟨u, q1, q2⟩ := r.get e1
    rw [e2] at q1; cases q1; exact q2
  · obtain ⟨u, q1, q2⟩ := r'.get e1
    rw [e2] at q1; cases q1; exact q2
end

section
variable {W : Wd} {X : Cx} {tg e e2 : Expr} {te te2 : TD} {tas : TAD} {p pos tpos : Pos}
/-- a value's list, a list at hand -/
theorem RepK.lstN {pu : Pu} {h : Addr → Bool} {H : Hp} {ds : List D} {v : V} (r : RepK W pu h H (.lst ds) v) : ∃ a vs, v = .ref a ∧ Rd H a (.lst vs) ∧ pu a = false ∧ Reps W pu (hid h H) ds vs := by
  rcases r with r | ⟨a, e, n, vs, q, r⟩
  · simp only [Rep] at r
    obtain ⟨a, vs, e, q, n, r⟩ := r
    exact ⟨a, vs, e, hid_rd q, n, r⟩
  · exact ⟨a, vs, e, .inl q, n, r⟩
theorem RepK.tupN {pu : Pu} {h : Addr → Bool} {H : Hp} {ds : List D} {v : V} (r : RepK W pu h H (.tup ds) v) : ∃ a vs, v = .ref a ∧ ((Rd H a (.tup vs) ∧ pu a = false) ∨ StatT W.K a vs) ∧ Reps W pu (hid h H) ds vs := by
  rcases r with r | ⟨a, e, n, r⟩
  · simp only [Rep] at r
    obtain ⟨a, vs, e, q, r⟩ := r
    refine ⟨a, vs, e, ?_, r⟩
    rcases q with ⟨q, n⟩ | q
    · exact .inl ⟨hid_rd q, n⟩
    · exact .inr q
  · exact False.elim r
def tItL (te : TD) : SRC := fun n ρ Q => te n ρ fun d n1 => match d with
  | .lst ds => Q ds n1
  | _ => False
def tItT (te : TD) : SRC := fun n ρ Q => te n ρ fun d n1 => match d with
  | .tup ds => Q ds n1
  | _ => False
theorem pi_lstD (hK : X.K = W.K) (he : PKD W X e te) : PID W X tg e (tItL te) := fun c => PI_imp (pi_list (he c)) fun σ H R ⟨pu, ρ, P, ev, ht, q⟩ => by
  refine ⟨pu, ρ, _, ev, ht, fun pu1 d hd v H1 s r => ?_⟩
  cases d with
  | lst ds =>
    obtain ⟨a, vs, rfl, q1, n, r⟩ := r.lstN
    rw [hK]
    exact ⟨a, rfl, ⟨vs, .inl q1⟩, q pu1 ds hd _ H1 s (itok_list q1 n r)⟩
  | _ => exact False.elim hd
theorem pi_tupD (hK : X.K = W.K) (he : PKD W X e te) : PID W X tg e (tItT te) := fun c => PI_imp (pi_tup (he c)) fun σ H R ⟨pu, ρ, P, ev, ht, q⟩ => by
  refine ⟨pu, ρ, _, ev, ht, fun pu1 d hd v H1 s r => ?_⟩
  cases d with
  | tup ds =>
    obtain ⟨a, vs, rfl, q1, r⟩ := r.tupN
    rw [hK]
    refine ⟨a, rfl, ⟨vs, ?_⟩, q pu1 ds hd _ H1 s (itok_tup q1 r)⟩
    rcases q1 with ⟨q1, _⟩ | q1
    · exact .inl q1
    · exact .inr q1
  | _ => exact False.elim hd
/-- .. for a for: a value -/
theorem view_own {c : Ent} {σ : L2.St} {ρ : List Sl} {H : Hp} : hid (hdn c σ ρ) H = hid c.hd (hid (own σ ρ) H) := by
  funext a
  unfold hid hdn
  cases c.hd a <;> cases own σ ρ a <;> rfl
theorem pj_lstD (hK : X.K = W.K) (he : PD W X e te) : PJD W X tg e (tItL te) := fun c => PI_imp (pi_list (he c)) fun σ H R ⟨pu, ρ, P, ev, ht, q⟩ => by
  refine ⟨pu, ρ, _, ev, ht, fun pu1 d hd v H1 s r => ?_⟩
  cases d with
  | lst ds =>
    simp only [Rep] at r
    obtain ⟨a, vs, rfl, q1, n, r⟩ := r
    rw [hK]
    rw [view_own] at q1 r
    exact ⟨a, rfl, ⟨vs, .inl (hid_rd (hid_rd q1))⟩, q pu1 ds hd _ H1 s (itok_list (hid_rd q1) n r)⟩
  | _ => exact False.elim hd
theorem pj_tupD (hK : X.K = W.K) (he : PD W X e te) : PJD W X tg e (tItT te) := fun c => PI_imp (pi_tup (he c)) fun σ H R ⟨pu, ρ, P, ev, ht, q⟩ => by
  refine ⟨pu, ρ, _, ev, ht, fun pu1 d hd v H1 s r => ?_⟩
  cases d with
  | tup ds =>
    simp only [Rep] at r
    obtain ⟨a, vs, rfl, q1, r⟩ := r
    rw [hK]
    rw [view_own] at q1 r
    refine ⟨a, rfl, ⟨vs, ?_⟩, q pu1 ds hd _ H1 s (itok_tup (q1.imp_left fun z => ⟨hid_rd z.1, z.2⟩) r)⟩
    rcases q1 with ⟨q1, _⟩ | q1
    · exact .inl (hid_rd (hid_rd q1))
    · exact .inr q1
  | _ => exact False.elim hd
/-- a name that is only looked at -/
def tItP (i : Nat) : SRC := fun n ρ Q => match slot ρ i with
  | .pk (.lst ds) => Q ds n
  | .sh (.lst ds) => Q ds n
  | _ => False
theorem pj_pk {i : Nat} (hK : X.K = W.K) (he : PE X e (L2.tVar i)) : PJD W X tg e (tItP i) := fun c => PI_imp (pi_list he) fun σ H R ⟨pu, ρ, P, ev, ht, q⟩ => by
  unfold tItP at ht
  cases hs : slot ρ i with
  | un => rw [hs] at ht; exact False.elim ht
  | ow d => rw [hs] at ht; exact False.elim ht
  | sh d =>
    rw [hs] at ht
    cases d with
    | lst ds =>
      obtain ⟨v, e1, r⟩ := ev.sl i _ (slot_some hs (by intro z; cases z))
      simp only [Rep] at r
      obtain ⟨a, vs, rfl, q1, n, r⟩ := r
      rw [hK]
      rw [view_own] at q1 r
      exact ⟨_, e1, a, rfl, ⟨vs, .inl (hid_rd (hid_rd q1))⟩, q pu ds ht _ H ev.rfl' (itok_list (hid_rd q1) n r)⟩
    | _ => exact False.elim ht
  | pk d =>
    rw [hs] at ht
    cases d with
    | lst ds =>
      obtain ⟨v, e1, r⟩ := ev.sl i _ (slot_some hs (by intro z; cases z))
      rw [hK]
      rcases r with r | ⟨a, rfl, n, no, vs, q1, r⟩
      · simp only [Rep] at r
        obtain ⟨a, vs, rfl, q1, n, r⟩ := r
        rw [view_own] at q1 r
        exact ⟨_, e1, a, rfl, ⟨vs, .inl (hid_rd (hid_rd q1))⟩, q pu ds ht _ H ev.rfl' (itok_list (hid_rd q1) n r)⟩
      · rw [view_own] at r
        exact ⟨_, e1, a, rfl, ⟨vs, .inl (.inl q1)⟩, q pu ds ht _ H ev.rfl' (itok_list (.inl (hid_of no q1)) n r)⟩
    | _ => exact False.elim ht
/-- range(n), range(a, b) -/
def rngA1 (Q : List D → Prop) : List D → Prop
  | [.int j] => -(2 ^ 62) ≤ j ∧ j < 2 ^ 62 ∧ Q (rangeD 0 j.toNat)
  | _ => False
def rngA2 (Q : List D → Prop) : List D → Prop
  | [.int i, .int j] => (-(2 ^ 62) ≤ i ∧ i < 2 ^ 62 ∧ -(2 ^ 62) ≤ j ∧ j < 2 ^ 62) ∧ Q (rangeD i (j - i).toNat)
  | _ => False
def tRng1 (ta : TD) : SRC := fun n ρ Q => ta n ρ fun x n1 => rngA1 (fun ds => Q ds n1) [x]
def tRng2 (ta tb : TD) : SRC := fun n ρ Q => ta n ρ fun x n1 => tb n1 ρ fun y n2 => rngA2 (fun ds => Q ds n2) [x, y]
theorem RepsK.one {pu : Pu} {h : Addr → Bool} {H : Hp} {d : D} {vs : List V} (r : RepsK W pu h H [d] vs) : ∃ v, vs = [v] ∧ RepK W pu h H d v := by
  obtain ⟨v, r', rfl, h1, h2⟩ := r
  have : r' = [] := h2
  subst this
  exact ⟨v, rfl, h1⟩
theorem RepsK.two {pu : Pu} {h : Addr → Bool} {H : Hp} {d e : D} {vs : List V} (r : RepsK W pu h H [d, e] vs) : ∃ v u, vs = [v, u] ∧ RepK W pu h H d v ∧ RepK W pu h H e u := by
  obtain ⟨v, r', rfl, h1, h2⟩ := r
  obtain ⟨u, rfl, h3⟩ := RepsK.one h2
  exact ⟨v, u, rfl, h1, h3⟩
theorem rng_run1 {pu : Pu} {h : Addr → Bool} {H : Hp} {Q : List D → Prop} : ∀ {xs : List D} {vs : List V}, rngA1 Q xs → RepsK W pu h H xs vs → ∃ j : Int, vs = [.int j] ∧ -(2 ^ 62) ≤ j ∧ j < 2 ^ 62 ∧ Q (rangeD 0 j.toNat)
  | [.int j], vs, ⟨h1, h2, h3⟩, r => by
    obtain ⟨v, rfl, r'⟩ := RepsK.one r
    rw [RepK.int r']
    exact ⟨j, rfl, h1, h2, h3⟩
theorem rng_run2 {pu : Pu} {h : Addr → Bool} {H : Hp} {Q : List D → Prop} : ∀ {xs : List D} {vs : List V}, rngA2 Q xs → RepsK W pu h H xs vs → ∃ i j : Int, vs = [.int i, .int j] ∧ (-(2 ^ 62) ≤ i ∧ i < 2 ^ 62 ∧ -(2 ^ 62) ≤ j ∧ j < 2 ^ 62) ∧ Q (rangeD i (j - i).toNat)
  | [.int i, .int j], vs, ⟨h1, h3⟩, r => by
    obtain ⟨v, u, rfl, r1, r2⟩ := RepsK.two r
    rw [RepK.int r1, RepK.int r2]
    exact ⟨i, j, rfl, h1, h3⟩
section
variable {a b : Expr} {ta tb : TD}
theorem pi_rng1 (hg : Gl X "range") (hm : X.mg "range" = none) (ha : PKD W X a ta) (hs : starEach [a] X.env = [(false, eval a X.env)] := by rfl) :
    PID W X tg (.Call (.Name "range" p) [a] [] pos) (tRng1 ta) := fun c => PI_imp (pi_range1 hg hm (pak_cons ha pak_nil hs c) hs) fun σ H R ⟨pu, ρ, P, ev, ht, q⟩ =>
  ⟨pu, ρ, fun xs n1 => rngA1 (fun ds => P ds n1) xs, ev, ht, fun pu1 xs hx vs H1 s r => let ⟨j, e, h1, h2, h3⟩ := rng_run1 hx r; ⟨j, e, h1, h2, q pu1 _ h3 _ H1 s itok_range⟩⟩
theorem pj_rng1 (hg : Gl X "range") (hm : X.mg "range" = none) (ha : PKD W X a ta) (hs : starEach [a] X.env = [(false, eval a X.env)] := by rfl) :
    PJD W X tg (.Call (.Name "range" p) [a] [] pos) (tRng1 ta) := fun c => PI_imp (pi_range1 hg hm (pak_cons ha pak_nil hs c) hs) fun σ H R ⟨pu, ρ, P, ev, ht, q⟩ =>
  ⟨pu, ρ, fun xs n1 => rngA1 (fun ds => P ds n1) xs, ev, ht, fun pu1 xs hx vs H1 s r => let ⟨j, e, h1, h2, h3⟩ := rng_run1 hx r; ⟨j, e, h1, h2, q pu1 _ h3 _ H1 s itok_range⟩⟩
theorem pi_rng2 (hg : Gl X "range") (hm : X.mg "range" = none) (ha : PKD W X a ta) (hb : PKD W X b tb) (hs : starEach [a, b] X.env = [(false, eval a X.env), (false, eval b X.env)] := by rfl) (hs2 : starEach [b] X.env = [(false, eval b X.env)] := by rfl) (hs3 : starEach [a, b] X.env = (false, eval a X.env) :: starEach [b] X.env := by rfl) :
    PID W X tg (.Call (.Name "range" p) [a, b] [] pos) (tRng2 ta tb) := fun c => PI_imp (pi_range2 hg hm (pak_cons ha (pak_cons hb pak_nil hs2) hs3 c) hs hs2) fun σ H R ⟨pu, ρ, P, ev, ht, q⟩ =>
  ⟨pu, ρ, fun xs n1 => rngA2 (fun ds => P ds n1) xs, ev, ht, fun pu1 xs hx vs H1 s r => let ⟨i, j, e, h1, h3⟩ := rng_run2 hx r; ⟨i, j, e, h1, q pu1 _ h3 _ H1 s itok_range⟩⟩
theorem pj_rng2 (hg : Gl X "range") (hm : X.mg "range" = none) (ha : PKD W X a ta) (hb : PKD W X b tb) (hs : starEach [a, b] X.env = [(false, eval a X.env), (false, eval b X.env)] := by rfl) (hs2 : starEach [b] X.env = [(false, eval b X.env)] := by rfl) (hs3 : starEach [a, b] X.env = (false, eval a X.env) :: starEach [b] X.env := by rfl) :
    PJD W X tg (.Call (.Name "range" p) [a, b] [] pos) (tRng2 ta tb) := fun c => PI_imp (pi_range2 hg hm (pak_cons ha (pak_cons hb pak_nil hs2) hs3 c) hs hs2) fun σ H R ⟨pu, ρ, P, ev, ht, q⟩ =>
  ⟨pu, ρ, fun xs n1 => rngA2 (fun ds => P ds n1) xs, ev, ht, fun pu1 xs hx vs H1 s r => let ⟨i, j, e, h1, h3⟩ := rng_run2 hx r; ⟨i, j, e, h1, q pu1 _ h3 _ H1 s itok_range⟩⟩
/-- enumerate(list), zip(list, list) -/
def enA (Q : List D → Prop) : List D → Prop
  | [.lst ds] => Q (enumD ds)
  | _ => False
def zpA (Q : List D → Prop) : List D → Prop
  | [.lst ds, .lst es] => Q (zipD ds es)
  | _ => False
def tEnum (ta : TD) : SRC := fun n ρ Q => ta n ρ fun x n1 => enA (fun ds => Q ds n1) [x]
def tZip (ta tb : TD) : SRC := fun n ρ Q => ta n ρ fun x n1 => tb n1 ρ fun y n2 => zpA (fun ds => Q ds n2) [x, y]
theorem en_run {pu : Pu} {h : Addr → Bool} {H : Hp} {Q : List D → Prop} : ∀ {xs : List D} {vs : List V}, enA Q xs → RepsK W pu h H xs vs → ∃ a us ds, vs = [.ref a] ∧ Rd H a (.lst us) ∧ pu a = false ∧ Reps W pu (hid h H) ds us ∧ Q (enumD ds)
  | [.lst ds], vs, hq, r => by
    obtain ⟨v, rfl, r'⟩ := RepsK.one r
    obtain ⟨a, us, rfl, q1, n, r2⟩ := RepK.lstN r'
    exact ⟨a, us, ds, rfl, q1, n, r2, hq⟩
theorem zp_run {pu : Pu} {h : Addr → Bool} {H : Hp} {Q : List D → Prop} : ∀ {xs : List D} {vs : List V}, zpA Q xs → RepsK W pu h H xs vs → ∃ a b us ws ds es, vs = [.ref a, .ref b] ∧ Rd H a (.lst us) ∧ pu a = false ∧ Reps W pu (hid h H) ds us ∧ Rd H b (.lst ws) ∧ pu b = false ∧ Reps W pu (hid h H) es ws ∧ Q (zipD ds es)
  | [.lst ds, .lst es], vs, hq, r => by
    obtain ⟨v, u, rfl, r1, r2⟩ := RepsK.two r
    obtain ⟨a, us, rfl, q1, n, r3⟩ := RepK.lstN r1
    obtain ⟨b, ws, rfl, q2, n2, r4⟩ := RepK.lstN r2
    exact ⟨a, b, us, ws, ds, es, rfl, q1, n, r3, q2, n2, r4, hq⟩
variable {elts : List Expr} {kk : Nat}
theorem pi_enumD (hK : X.K = W.K) (hg : Gl X "enumerate") (hm : X.mg "enumerate" = none) (ha : PKD W X a ta) (hs : starEach [a] X.env = [(false, eval a X.env)] := by rfl) :
    PID W X (.Tuple elts kk tpos) (.Call (.Name "enumerate" p) [a] [] pos) (tEnum ta) := fun c => PI_imp (pi_enum hg hm (pak_cons ha pak_nil hs c) hs) fun σ H R ⟨pu, ρ, P, ev, ht, q⟩ =>
  ⟨pu, ρ, fun xs n1 => enA (fun ds => P ds n1) xs, ev, ht, fun pu1 xs hx vs H1 s r => by
    obtain ⟨a, us, ds, rfl, q1, n, r2, hq⟩ := en_run hx r
    rw [hK]
    exact ⟨a, us, rfl, .inl q1, q pu1 _ hq _ H1 s (itok_enum q1 n r2)⟩⟩
theorem pi_zipD (hK : X.K = W.K) (hg : Gl X "zip") (hm : X.mg "zip" = none) (ha : PKD W X a ta) (hb : PKD W X b tb) (hs : starEach [a, b] X.env = (false, eval a X.env) :: starEach [b] X.env := by rfl) (hpl : (backTo pos (starEach [b] X.env)).any (·.1) = false := by rfl) (hs2 : starEach [b] X.env = [(false, eval b X.env)] := by rfl) :
    PID W X (.Tuple elts kk tpos) (.Call (.Name "zip" p) [a, b] [] pos) (tZip ta tb) := fun c => PI_imp (pi_zip hg hm (pak_cons ha (pak_cons hb pak_nil hs2) hs c) hs hpl) fun σ H R ⟨pu, ρ, P, ev, ht, q⟩ =>
  ⟨pu, ρ, fun xs n1 => zpA (fun ds => P ds n1) xs, ev, ht, fun pu1 xs hx vs H1 s r => by
    obtain ⟨a, b, us, ws, ds, es, rfl, q1, n, r1, q2, n2, r2, hq⟩ := zp_run hx r
    rw [hK]
    exact ⟨a, b, us, ws, rfl, .inl q1, .inl q2, q pu1 _ hq _ H1 s (itok_zip q1 n r1 q2 n2 r2)⟩⟩
end
/- .. of values, for a for -/
section
variable {a b : Expr} {ta tb : TD} {elts : List Expr} {kk : Nat}
theorem pj_enumD (hK : X.K = W.K) (hg : Gl X "enumerate") (hm : X.mg "enumerate" = none) (ha : PD W X a ta) (hs : starEach [a] X.env = [(false, eval a X.env)] := by rfl) :
    PJD W X (.Tuple elts kk tpos) (.Call (.Name "enumerate" p) [a] [] pos) (tEnum ta) := fun c => PI_imp (pi_enum hg hm (pad_cons ha pad_nil hs c) hs) fun σ H R ⟨pu, ρ, P, ev, ht, q⟩ =>
  ⟨pu, ρ, fun xs n1 => enA (fun ds => P ds n1) xs, ev, ht, fun pu1 xs hx vs H1 s r => by
    match xs, hx, r with
    | [.lst ds], hx, r =>
      simp only [Reps, Rep] at r
      obtain ⟨v, r', rfl, ⟨a, us, rfl, q1, n, r2⟩, rfl⟩ := r
      rw [view_own] at q1 r2
      rw [hK]
      exact ⟨a, us, rfl, .inl (hid_rd (hid_rd q1)), q pu1 _ hx _ H1 s (itok_enum (hid_rd q1) n r2)⟩⟩
theorem pj_zipD (hK : X.K = W.K) (hg : Gl X "zip") (hm : X.mg "zip" = none) (ha : PD W X a ta) (hb : PD W X b tb) (hs : starEach [a, b] X.env = (false, eval a X.env) :: starEach [b] X.env := by rfl) (hpl : (backTo pos (starEach [b] X.env)).any (·.1) = false := by rfl) (hs2 : starEach [b] X.env = [(false, eval b X.env)] := by rfl) :
    PJD W X (.Tuple elts kk tpos) (.Call (.Name "zip" p) [a, b] [] pos) (tZip ta tb) := fun c => PI_imp (pi_zip hg hm (pad_cons ha (pad_cons hb pad_nil hs2) hs c) hs hpl) fun σ H R ⟨pu, ρ, P, ev, ht, q⟩ =>
  ⟨pu, ρ, fun xs n1 => zpA (fun ds => P ds n1) xs, ev, ht, fun pu1 xs hx vs H1 s r => by
    match xs, hx, r with
    | [.lst ds, .lst es], hx, r =>
      simp only [Reps, Rep] at r
      obtain ⟨v, r', rfl, ⟨a, us, rfl, q1, n, r2⟩, u, r'', rfl, ⟨b, ws, rfl, q2, n2, r3⟩, rfl⟩ := r
      rw [view_own] at q1 r2 q2 r3
      rw [hK]
      exact ⟨a, b, us, ws, rfl, .inl (hid_rd (hid_rd q1)), .inl (hid_rd (hid_rd q2)), q pu1 _ hx _ H1 s (itok_zip (hid_rd q1) n r2 (hid_rd q2) n2 r3)⟩⟩
end
/-- a text's signs -/
def signsD (x : Str) : List D := x.cps.toList.map fun c => D.str ⟨#[c]⟩
def tItS (te : TD) : SRC := fun n ρ Q => te n ρ fun d n1 => match d with
  | .str x => Q (signsD x) n1
  | _ => False
theorem itok_str {pu : Pu} {B : Hp} {h : Addr → Bool} {x : Str} : ItOk W pu B h (Its x) (signsD x) := by
  refine ⟨fun _ => True, _, (by have := walk_str (z := x); rwa [show x.cps.size = (signsD x).length by unfold signsD; simp] at this), fun _ _ _ => trivial, fun pu' H' h' s k _ i v H'' d hd hy => ?_⟩
  obtain ⟨rfl, c, hc, rfl⟩ := hy
  refine ⟨Stp.refl s.ok, ?_⟩
  unfold signsD at hd
  rw [List.getElem?_map, Array.getElem?_toList, hc] at hd
  cases hd
  simp only [Rep]
theorem pi_strD (he : PKD W X e te) : PID W X tg e (tItS te) := fun c => PI_imp (pi_str (he c)) fun σ H R ⟨pu, ρ, P, ev, ht, q⟩ => by
  refine ⟨pu, ρ, _, ev, ht, fun pu1 d hd v H1 s r => ?_⟩
  cases d with
  | str x => exact ⟨x, r.str, q pu1 _ hd _ H1 s itok_str⟩
  | _ => exact False.elim hd
theorem pj_strD (he : PKD W X e te) : PJD W X tg e (tItS te) := fun c => PI_imp (pi_str (he c)) fun σ H R ⟨pu, ρ, P, ev, ht, q⟩ => by
  refine ⟨pu, ρ, _, ev, ht, fun pu1 d hd v H1 s r => ?_⟩
  cases d with
  | str x => exact ⟨x, r.str, q pu1 _ hd _ H1 s itok_str⟩
  | _ => exact False.elim hd
end

/-! ### targets -/
/-- the slots of a target, in order -/
inductive Pat where
  | nm (i : Nat) | tp (is : List Nat) | ls (is : List Nat)
def gNames : List Nat → TGs
  | [] => gNil
  | i :: is => gCons (gName i) (gNames is)
def gPat (K : PySem.W.Frag) : Pat → TG
  | .nm i => gName i
  | .tp is => gTup K is.length (gNames is)
  | .ls is => gUnl K is.length (gNames is)
def setShs : List Nat → List D → List Sl → List Sl
  | i :: is, d :: ds, ρ => setShs is ds (ρ.set i (.sh d))
  | _, _, ρ => ρ
def tPat : Pat → D → List Sl → (List Sl → Prop) → Prop
  | .nm i, d, ρ, Q => Q (ρ.set i (.sh d))
  | .tp is, .tup ds, ρ, Q => ds.length = is.length ∧ Q (setShs is ds ρ)
  | .ls is, .lst ds, ρ, Q => ds.length = is.length ∧ Q (setShs is ds ρ)
  | _, _, _, _ => False
def Pat.slots : Pat → List Nat
  | .nm i => [i]
  | .tp is => is
  | .ls is => is
section
variable {W : Wd} {c : Ent} {pu : Pu}
theorem wipe_set_in {i : Nat} {x : Option V} : ∀ {vs : List Nat} {σ : L2.St}, i ∈ vs → wipe (σ.set i x) vs = wipe σ vs
  | v :: vs, σ, h => by
    unfold wipe
    by_cases e : v = i
    · subst e
      have : ∀ (us : List Nat) (σ : L2.St), (wipe (σ.set v x) us).set v none = (wipe σ us).set v none := by
        intro us
        induction us with
        | nil => intro σ; unfold wipe; rw [List.set_set]
        | cons u us ih =>
          intro σ
          unfold wipe
          by_cases eu : u = v
          · subst eu; rw [List.set_set, List.set_set, ih]
          · rw [List.set_comm _ _ eu, ih, List.set_comm _ _ (Ne.symm eu)]
      exact this vs σ
    · rw [wipe_set_in (List.mem_of_ne_of_mem (Ne.symm e) h)]
theorem names_run : ∀ (is : List Nat) (ds : List D) (vs : List V) (σ : L2.St) (H : Hp) (ρ : List Sl) (os : List Nat) (Q : L2.St → Hp → Prop), EnvR W c pu σ H ρ → ds.length = is.length → (∀ (i : Nat) (d : D) (v : V), ds[i]? = some d → vs[i]? = some v → Rep W pu (hid (hdn c σ ρ) H) d v) → vs.length = ds.length → (∀ i ∈ is, i ∈ os) →
    (∀ σ', EnvR W c pu σ' H (setShs is ds ρ) → wipe σ' os = wipe σ os → Q σ' H) → gNames is vs σ H Q
  | [], [], vs, σ, H, ρ, os, Q, ev, _, _, hl, _, k => ⟨List.eq_nil_of_length_eq_zero hl, k σ ev rfl⟩
  | i :: is, d :: ds, v :: vs, σ, H, ρ, os, Q, ev, h, r, hl, hs, k => by
    refine ⟨v, vs, rfl, ?_⟩
    show gNames is vs (σ.set i (some v)) H Q
    have r0 := r 0 d v rfl rfl
    refine names_run is ds vs _ H _ os Q (ev.setSh r0) (by simpa using h) (fun j d' v' e1 e2 => ?_) (by simpa using hl) (fun j hj => hs j (List.mem_cons_of_mem _ hj)) fun σ' e w => k σ' e (w.trans (wipe_set_in (hs i List.mem_cons_self)))
    exact Rep.mono (mo_less (hdn_drop fun _ z => by cases z)) d' v' (r (j + 1) d' v' (by simpa using e1) (by simpa using e2))
/-- a target takes a value -/
theorem pat_run {g : Pat} {d : D} {v : V} {σ : L2.St} {H : Hp} {ρ : List Sl} {os : List Nat} {P : List Sl → Prop} {Q : L2.St → Hp → Prop} (ev : EnvR W c pu σ H ρ) (r : Rep W pu (hid (hdn c σ ρ) H) d v) (ht : tPat g d ρ P) (hs : ∀ i ∈ g.slots, i ∈ os)
    (k : ∀ σ' ρ', P ρ' → EnvR W c pu σ' H ρ' → wipe σ' os = wipe σ os → Q σ' H) : gPat W.K g v σ H Q := by
  cases g with
  | nm i => exact k _ _ ht (ev.setSh r) (wipe_set_in (hs i (List.mem_singleton.mpr rfl)))
  | tp is =>
    cases d with
    | tup ds =>
      obtain ⟨hl, hP⟩ := ht
      simp only [Rep] at r
      obtain ⟨a, vs, rfl, q, r⟩ := r
      have hv := r.length
      refine ⟨a, vs, rfl, ?_, by rw [hv, hl], names_run is ds vs σ H ρ os Q ev hl (fun j d' v' e1 e2 => ?_) hv hs fun σ' e w => k σ' _ hP e w⟩
      · rcases q with ⟨q, _⟩ | q
        · exact .inl (hid_rd q)
        · exact .inr q
      · obtain ⟨u, q1, q2⟩ := r.get e1
        rw [e2] at q1; cases q1; exact q2
    | _ => exact False.elim ht
  | ls is =>
    cases d with
    | lst ds =>
      obtain ⟨hl, hP⟩ := ht
      simp only [Rep] at r
      obtain ⟨a, vs, rfl, q, _, r⟩ := r
      have hv := r.length
      refine ⟨a, vs, rfl, .inl (hid_rd q), by rw [hv, hl], names_run is ds vs σ H ρ os Q ev hl (fun j d' v' e1 e2 => ?_) hv hs fun σ' e w => k σ' _ hP e w⟩
      obtain ⟨u, q1, q2⟩ := r.get e1
      rw [e2] at q1; cases q1; exact q2
    | _ => exact False.elim ht
end
/- target = value -/
section
variable {W : Wd} {X : Cx} {fr : Bool} {tg e : Expr} {te : TD} {g : Pat} {pos : Pos}
def tAsgD (te : TD) (g : Pat) : TDS := fun E n ρ => te n ρ fun d n1 => tPat g d ρ (E.nx n1)
theorem psd_asg (hK : X.K = W.K) (he : PD W X e te) (hg : PG X tg (gPat X.K g)) (hs : swapsWithSole [tg] e pos.line X.env = pure false := by rfl) (hw : swappedStores [tg] e X.env = pure none := by rfl)
    (h1 : (assignEach [tg] X.env).map (·.2) = [assign tg X.env] := by rfl) : PSD W X fr (.Assign [tg] e pos) (tAsgD te g) := fun c _ => PS_imp (ps_asg (he c) hg hs hw h1) fun De σ H ⟨pu, ρ, E, ev, ht, h1, _⟩ => by
  refine ⟨pu, ρ, _, ev, ht, fun pu' d hd v H' s r => ?_⟩
  rw [hK]
  exact pat_run (os := g.slots) (ev.step s) r hd (fun _ z => z) fun σ' ρ' hP e _ => h1 pu' ρ' hP σ' H' e
end
end DL
namespace DL
open PySem PySem.Spec L2

/-! ### for -/
section
variable {W : Wd} {X : Cx} {fr : Bool} {tg iter : Expr} {body : List Stmt} {src : SRC} {g : Pat} {tb : TDS} {pos : Pos}
theorem PSs_ex (h : PSsD W X fr body tb) : PSs X body (fun De σ H => ∃ c, c.fr = fr ∧ rdS W c tb De σ H) := ⟨fun pins s σ H D I ⟨c, hc, q⟩ => (h c hc).run pins s σ H D I q⟩
def forD (g : Pat) (tb : TDS) : List D → TDS
  | [] => fun E n ρ => E.nx n ρ
  | d :: ds => fun E n ρ => tPat g d ρ fun ρ' => tb { nx := forD g tb ds E, rt := E.rt, bk := E.nx, ct := forD g tb ds E } n ρ'
def tForD (src : SRC) (g : Pat) (tb : TDS) : TDS := fun E n ρ => src n ρ fun ds n1 => forD g tb ds E n1 ρ
theorem hid_none {o : Addr → Bool} {H0 H1 : Hp} {p0 p1 : Pu} (s : Stp p0 H0 p1 H1) (k : ∀ a, o a = true → H0 a = none) {a : Addr} (e : hid o H1 a = none) : H0 a = none := by
  unfold hid at e
  cases z : o a with
  | true => exact k a z
  | false => rw [z] at e; exact s.none (by simpa using e)
theorem stp_base {o : Addr → Bool} {H0 H1 H2 : Hp} {p0 p1 p2 : Pu} (s : Stp p0 H0 p1 H1) (k : ∀ a, o a = true → H0 a = none) (t : Stp p1 (hid o H1) p2 H2) : Stp p0 H0 p2 H2 where
  kp := fun a u e n => by
    have no : o a = false := by
      cases z : o a with
      | false => rfl
      | true => rw [k a z] at e; cases e
    refine t.kp a u (hid_of no (s.kp a u e n)) ?_
    cases z : p1 a with
    | false => rfl
    | true =>
      rcases s.nw a z with z | z
      · rw [n] at z; cases z
      · rw [e] at z; cases z
  up := fun a z => t.up a (s.up a z)
  nw := fun a z => by
    rcases t.nw a z with z | z
    · exact s.nw a z
    · exact .inr (hid_none s k z)
  ok := t.ok
theorem EnvR.rebase {c : Ent} {pu : Pu} {σ : L2.St} {H : Hp} {ρ : List Sl} (e : EnvR W c pu σ H ρ) : EnvR W { c with pu := pu, H := hid (own σ ρ) H } pu σ H ρ where
  len := e.len
  stp := ⟨fun a o q _ => (hid_some q).2, fun _ z => z, fun _ z => .inl z, e.pok⟩
  hdl := e.hdl
  sl := e.sl
  apart := e.apart
  fresh := fun a z => by
    obtain ⟨⟨_, h2⟩, h3⟩ := e.fresh a z
    refine ⟨⟨?_, h2⟩, h3⟩
    show hid (own σ ρ) H a = none
    unfold hid; rw [z]; rfl
theorem EnvR.unbase {c : Ent} {pu pu' : Pu} {σ σ' : L2.St} {H H' : Hp} {ρ ρ' : List Sl} (e : EnvR W c pu σ H ρ) (e' : EnvR W { c with pu := pu, H := hid (own σ ρ) H } pu' σ' H' ρ') : EnvR W c pu' σ' H' ρ' where
  len := e'.len
  stp := stp_base e.stp (fun a z => (e.fresh a z).1.1) e'.stp
  hdl := e'.hdl
  sl := e'.sl
  apart := e'.apart
  fresh := fun a z => by
    obtain ⟨⟨h1, h2⟩, h3⟩ := e'.fresh a z
    exact ⟨⟨hid_none e.stp (fun a z => (e.fresh a z).1.1) h1, h2⟩, h3⟩
theorem RetR.unbase {c : Ent} {pu pu' : Pu} {σ : L2.St} {H H' : Hp} {ρ : List Sl} {d : D} {v : V} (e : EnvR W c pu σ H ρ) (r : RetR W { c with pu := pu, H := hid (own σ ρ) H } pu' d v H') : RetR W c pu' d v H' := by
  unfold RetR at r ⊢
  by_cases hf : c.fr = true
  · rw [if_pos hf] at r ⊢
    obtain ⟨p, h1, h2, h3, h4, h5⟩ := r
    exact ⟨p, h1, stp_base e.stp (fun a z => (e.fresh a z).1.1) h2, hid_none e.stp (fun a z => (e.fresh a z).1.1) h3, h4, h5⟩
  · rw [if_neg hf] at r ⊢
    obtain ⟨h1, h2⟩ := r
    exact ⟨stp_base e.stp (fun a z => (e.fresh a z).1.1) h1, h2⟩
theorem psd_for (hK : X.K = W.K) (hp : PassesOwn (model X.prog X.w) X.A X.env X.xe) (hc : X.calm = true) (hi : PJD W X tg iter src) (hg : PG X tg (gPat X.K g)) (hb : PSsD W X fr body tb)
    (hs : ∀ x, foldedSetIterable iter X.env x = pure x := by intro _; rfl) : PSD W X fr (.For tg iter body [] pos) (tForD src g tb) := fun c hf => PS_imp (ps_for hp hc (hi c) hg (PSs_ex hb) hs) fun De σ H ⟨pu, ρ, E, ev, ht, q1, q2, q3, q4⟩ => by
  refine ⟨pu, ρ, fun ds n => forD g tb ds E n ρ, ev, ht, fun pu1 ds hds J H1 s ⟨G, Y, wk, hG, hY⟩ => ?_⟩
  have ev1 := ev.step s
  refine ⟨fun i m σ' H' => m = ds.length - i ∧ i ≤ ds.length ∧ ∃ pu' ρ', EnvR W { c with pu := pu1, H := hid (own σ ρ) H1 } pu' σ' H' ρ' ∧ forD g tb (ds.drop i) E pu'.n ρ', ⟨ds.length, by simp, Nat.zero_le _, pu1, ρ, ev1.rebase, hds⟩, ?_⟩
  rintro i m σ' H' ⟨rfl, hi', pu', ρ', ev', hgo⟩
  have hGH := hG pu' H' ev'.stp
  by_cases hlt : i < ds.length
  · have hdrop : ds.drop i = ds[i] :: ds.drop (i + 1) := List.drop_eq_getElem_cons hlt
    rw [hdrop] at hgo
    refine .inr ⟨wk.goes i H' hlt hGH, fun σ2 H2 => ∃ pu2 ρ2, EnvR W { c with pu := pu1, H := hid (own σ ρ) H1 } pu2 σ2 H2 ρ2 ∧ forD g tb (ds.drop (i + 1)) E pu2.n ρ2, fun σ2 H2 z => ⟨ds.length - (i + 1), by omega, rfl, hlt, z⟩, fun x H'' y => ?_⟩
    have hy := wk.yields i H' x H'' hlt hGH y
    obtain ⟨st, rx⟩ := hY pu' H' (hdn { c with pu := pu1, H := hid (own σ ρ) H1 } σ' ρ') ev'.stp (fun a z => by
      unfold hdn at z
      rcases Bool.or_eq_true_iff.mp z with z | z
      · exact .inl z
      · exact .inr (ev'.fresh a z).1.1) ev'.vw.th i x H'' ds[i] (List.getElem?_eq_getElem hlt) hy
    rw [hK]
    refine pat_run (os := g.slots) (ev'.step st) rx hgo (fun _ z => z) fun σ2 ρ2 hP ev2 _ => ?_
    refine ⟨{ c with pu := pu1, H := hid (own σ ρ) H1 }, hf, pu', ρ2, _, ev2, hP, fun pu3 ρ3 z σ3 H3 ev3 => ⟨pu3, ρ3, ev3, z⟩, fun pu3 d z v H3 r => q2 pu3 d z v H3 (RetR.unbase ev1 r), fun pu3 ρ3 z σ3 H3 ev3 => q1 pu3 ρ3 z σ3 H3 (ev1.unbase ev3), fun pu3 ρ3 z σ3 H3 ev3 => ⟨pu3, ρ3, ev3, z⟩⟩
  · have hn : i = ds.length := by omega
    subst hn
    rw [List.drop_length] at hgo
    exact .inl ⟨wk.stops H' hGH, q1 pu' ρ' hgo σ' H' (ev1.unbase ev')⟩
end

/-! ### list comprehensions -/
/-- in a comprehension's block owned containers are only looked at -/
def lend : List Sl → List Sl
  | [] => []
  | .ow d :: r => .pk d :: lend r
  | s :: r => s :: lend r
def wipeD (ρ : List Sl) : List Nat → List Sl
  | [] => ρ
  | v :: vs => (wipeD ρ vs).set v .un
def lcGo (g : Pat) (tt : TTD) (te : TD) (ρ0 : List Sl) : List D → Nat → List D → (List D → Nat → Prop) → Prop
  | [], n, acc, P => P acc n
  | d :: ds, n, acc, P => tPat g d ρ0 fun ρ2 => tt n ρ2 fun b n1 => if b = true then te n1 ρ2 fun y n2 => acc.length < sizeLine ∧ lcGo g tt te ρ0 ds n2 (acc ++ [y]) P else lcGo g tt te ρ0 ds n1 acc P
def tLcD (src : SRC) (g : Pat) (tt : TTD) (te : TD) (vs : List Nat) : TD := fun n ρ Q => src n ρ fun ds n1 => lcGo g tt te (wipeD (lend ρ) vs) ds n1 [] fun acc n2 => Q (.lst acc) n2
section
variable {W : Wd} {c : Ent} {pu : Pu} {σ : L2.St} {H : Hp} {ρ : List Sl}
theorem lend_length : ∀ ρ : List Sl, (lend ρ).length = ρ.length
  | [] => rfl
  | s :: r => by cases s <;> simp [lend, lend_length r]
theorem lend_get : ∀ {ρ : List Sl} {i : Nat} {s : Sl}, (lend ρ)[i]? = some s → (∃ d, s = .pk d ∧ (ρ[i]? = some (.ow d) ∨ ρ[i]? = some (.pk d))) ∨ ((∀ d, s ≠ .ow d) ∧ (∀ d, s ≠ .pk d) ∧ ρ[i]? = some s)
  | [], _, _, h => by simp [lend] at h
  | x :: r, 0, s, h => by
    cases x <;> simp [lend] at h <;> subst h
    · refine .inr ⟨?_, ?_, rfl⟩ <;> (intro _ z; cases z)
    · refine .inr ⟨?_, ?_, rfl⟩ <;> (intro _ z; cases z)
    · exact .inl ⟨_, rfl, .inl rfl⟩
    · exact .inl ⟨_, rfl, .inr rfl⟩
  | x :: r, i + 1, s, h => by
    have h' : (lend r)[i]? = some s := by cases x <;> simpa [lend] using h
    simpa using lend_get (ρ := r) h'
theorem lend_own : own σ (lend ρ) = fun _ => false := by
  funext a
  cases z : own σ (lend ρ) a with
  | false => rfl
  | true =>
    obtain ⟨i, d, h1, _⟩ := own_iff.mp z
    rcases lend_get h1 with ⟨d', e, _⟩ | ⟨n, _⟩
    · cases e
    · exact absurd rfl (n d)
theorem EnvR.wipe (e : EnvR W c pu σ H ρ) : ∀ vs : List Nat, EnvR W c pu (L2.wipe σ vs) H (wipeD ρ vs)
  | [] => e
  | v :: vs => by
    unfold L2.wipe wipeD
    exact (EnvR.wipe e vs).setUn
/-- the block's entry -/
theorem EnvR.blk {pu1 pu' : Pu} {H1 H' : Hp} {D : Addr} (e : EnvR W c pu1 σ H1 ρ) (n : H1 D = none) (s : Stp pu1 H1 pu' H') (hD : ∃ o, H' D = some o) (vs : List Nat) :
    EnvR W ⟨pu1, fun a => hdn c σ ρ a || a == D, H1, c.fr⟩ pu' (L2.wipe σ vs) H' (wipeD (lend ρ) vs) := by
  have hv : hdn ⟨pu1, fun a => hdn c σ ρ a || a == D, H1, c.fr⟩ σ (lend ρ) = fun a => hdn c σ ρ a || a == D := by
    funext a; unfold hdn; rw [lend_own]; simp
  have m : Mo pu1 (hid (hdn c σ ρ) H1) pu' (hid (fun a => hdn c σ ρ a || a == D) H') := mo_base s fun a z => by
    rcases Bool.or_eq_true_iff.mp z with z | z
    · exact .inl z
    · have : a = D := by simpa using z
      exact .inr (by rw [this]; exact n)
  refine EnvR.wipe ?_ vs
  refine ⟨by rw [lend_length]; exact e.len, s, fun a z => ?_, fun i t ht => ?_, fun i j di dj a h1 => ?_, fun a z => ?_⟩
  · rcases Bool.or_eq_true_iff.mp z with z | z
    · obtain ⟨o, q⟩ := e.vw.th a z
      exact s.some q
    · have : a = D := by simpa using z
      rw [this]; exact hD
  · rw [hv]
    rcases lend_get ht with ⟨d, rfl, h⟩ | ⟨n1, n2, h⟩
    · rcases h with h | h
      · obtain ⟨a, h1, h2⟩ := e.sl i _ h
        obtain ⟨_, nu, _⟩ := e.fresh a (own_iff.mpr ⟨i, d, h, h1⟩)
        exact ⟨.ref a, h1, .inr ⟨a, rfl, s.mo'.off nu h2.there, by rw [lend_own], h2.step m fun o z => s.kp a o z nu⟩⟩
      · obtain ⟨v, h1, h2⟩ := e.sl i _ h
        refine ⟨v, h1, ?_⟩
        rcases h2 with h2 | ⟨a, h3, nu, no, h2⟩
        · exact .inl (Rep.mono m d v h2)
        · exact .inr ⟨a, h3, s.mo'.off nu h2.there, by rw [lend_own], h2.step m fun o z => s.kp a o z nu⟩
    · have q := e.sl i _ h
      cases t with
      | un => trivial
      | sh d => obtain ⟨v, h1, h2⟩ := q; exact ⟨v, h1, Rep.mono m d v h2⟩
      | ow d => exact absurd rfl (n1 d)
      | pk d => exact absurd rfl (n2 d)
  · rcases lend_get h1 with ⟨d', e1, _⟩ | ⟨n1, _⟩
    · cases e1
    · exact absurd rfl (n1 di)
  · rw [lend_own] at z; cases z
end

def PTsD (W : Wd) (X : Cx) (ifs : List Expr) (t : TTD) : Prop := ∀ c, PTs X ifs (rdT W c t)
def tYesD : TTD := fun n _ Q => Q true n
section
variable {W : Wd} {X : Cx} {fr : Bool} {elt tg iter ce : Expr} {ifs : List Expr} {scope : Scope} {own : List (Str × Nat)} {src : SRC} {g : Pat} {tt : TTD} {te : TD} {pos : Pos}
theorem ptsd_nil : PTsD W X [] tYesD := fun c => ⟨fun pins s σ H Q I ⟨pu, ρ, P, ev, ht, q⟩ => pts_nil.run pins s σ H Q I (q pu true ht H ev.rfl')⟩
theorem ptsd_one {t : TTD} (h : PTD W X ce t) : PTsD W X [ce] t := fun c => pts_one (h c)
theorem PE_ex (h : PD W X elt te) : PE X elt (fun σ H Q => ∃ c, rdE W c te σ H Q) := ⟨fun pins s σ H Q I ⟨c, q⟩ => (h c).run pins s σ H Q I q⟩
theorem PTs_ex (h : PTsD W X ifs tt) : PTs X ifs (fun σ H Q => ∃ c, rdT W c tt σ H Q) := ⟨fun pins s σ H Q I ⟨c, q⟩ => (h c).run pins s σ H Q I q⟩
theorem iteT' {A B : Prop} (h : if true = true then A else B) : A := by rwa [if_pos rfl] at h
theorem iteF' {A B : Prop} (h : if false = true then A else B) : B := by rwa [if_neg Bool.false_ne_true] at h
theorem lc_run {c : Ent} {σ : L2.St} {H : Hp} {Q : VK} {pu : Pu} {ρ : List Sl} {P : D → Nat → Prop} {vs : List Nat} (ev : EnvR W c pu σ H ρ) (ht : tLcD src g tt te vs pu.n ρ P) (hgs : ∀ i ∈ g.slots, i ∈ vs) (q : KtF W pu (hdn c σ ρ) H P Q) :
    tLc (rdI W c src) (gPat W.K g) (fun σ H Q => ∃ c, rdT W c tt σ H Q) (fun σ H Q => ∃ c, rdE W c te σ H Q) vs σ H Q := by
  refine ⟨pu, ρ, fun ds n => lcGo g tt te (wipeD (lend ρ) vs) ds n [] fun acc n2 => P (.lst acc) n2, ev, ht, fun pu1 ds hds J H1 s ⟨G, Y, wk, hG, hY⟩ D nD => ?_⟩
  have ev1 := ev.step s
  have nuD : pu1 D = false := ev1.vw.nopu nD
  refine ⟨fun i m H' => m = ds.length - i ∧ i ≤ ds.length ∧ ∃ pu' accD accV, Stp pu1 H1 pu' H' ∧ H' D = some (.lst accV) ∧ pu' D = false ∧ Reps W pu' (hid (fun a => hdn c σ ρ a || a == D) H') accD accV ∧ lcGo g tt te (wipeD (lend ρ) vs) (ds.drop i) pu'.n accD fun acc n2 => P (.lst acc) n2,
    ⟨ds.length, by simp, Nat.zero_le _, pu1, [], [], stp_new ev1.vw nD, upd_same, nuD, Reps.nil, hds⟩, ?_⟩
  rintro i m H' ⟨rfl, hi', pu', accD, accV, st, hD, nu', ra, hgo⟩
  have hGH := hG pu' H' st
  by_cases hlt : i < ds.length
  · have hdrop : ds.drop i = ds[i] :: ds.drop (i + 1) := List.drop_eq_getElem_cons hlt
    rw [hdrop] at hgo
    refine .inr ⟨wk.goes i H' hlt hGH, fun H2 => ∃ pu' accD accV, Stp pu1 H1 pu' H2 ∧ H2 D = some (.lst accV) ∧ pu' D = false ∧ Reps W pu' (hid (fun a => hdn c σ ρ a || a == D) H2) accD accV ∧ lcGo g tt te (wipeD (lend ρ) vs) (ds.drop (i + 1)) pu'.n accD fun acc n2 => P (.lst acc) n2,
      fun H2 z => ⟨ds.length - (i + 1), by omega, rfl, hlt, z⟩, fun x H'' y => ?_⟩
    have hy := wk.yields i H' x H'' hlt hGH y
    have ev2 := ev1.blk nD st ⟨_, hD⟩ vs
    obtain ⟨st2, rx⟩ := hY pu' H' _ st (fun a z => by
      unfold hdn at z
      rcases Bool.or_eq_true_iff.mp z with z | z
      · rcases Bool.or_eq_true_iff.mp z with z | z
        · exact .inl z
        · have : a = D := by simpa using z
          exact .inr (by rw [this]; exact nD)
      · exact .inr (ev2.fresh a z).1.1) ev2.vw.th i x H'' ds[i] (List.getElem?_eq_getElem hlt) hy
    refine pat_run (os := vs) (ev2.step st2) rx hgo hgs fun σ2 ρ2 hP ev3 hw => ?_
    refine ⟨hw.trans (by
      have : ∀ (us : List Nat) (σ : L2.St), L2.wipe (L2.wipe σ us) us = L2.wipe σ us := fun us => by
        induction us with
        | nil => intro σ; rfl
        | cons u us ih =>
          intro σ
          show (L2.wipe ((L2.wipe σ us).set u none) us).set u none = (L2.wipe σ us).set u none
          by_cases hu : u ∈ us
          · rw [wipe_set_in hu, ih]
          · have sc : ∀ (ws : List Nat) (σ : L2.St), u ∉ ws → L2.wipe (σ.set u none) ws = (L2.wipe σ ws).set u none := fun ws => by
              induction ws with
              | nil => intro σ _; rfl
              | cons w ws ih2 =>
                intro σ hn
                have n1 : w ≠ u := fun z => hn (by rw [z]; exact List.mem_cons_self)
                show (L2.wipe (σ.set u none) ws).set w none = ((L2.wipe σ ws).set w none).set u none
                rw [ih2 σ fun z => hn (List.mem_cons_of_mem _ z), List.set_comm _ _ (Ne.symm n1)]
            rw [sc us _ hu, ih, List.set_set]
      exact this vs σ), ?_⟩
    refine ⟨⟨pu1, fun a => hdn c σ ρ a || a == D, H1, c.fr⟩, pu', ρ2, _, ev3, hP, fun pu3 b hb H3 s3 => ?_⟩
    have k3 : Stp pu' H' pu3 H3 := st2.trans s3
    have hD3 : H3 D = some (.lst accV) := k3.kp D _ hD nu'
    have nu3 : pu3 D = false := k3.mo'.off nu' ⟨_, hD⟩
    cases b with
    | false =>
      refine iteF ⟨pu3, accD, accV, st.trans k3, hD3, nu3, Reps.mono (k3.mo _) accD accV ra, iteF' hb⟩
    | true =>
      refine iteT ⟨⟨pu1, fun a => hdn c σ ρ a || a == D, H1, c.fr⟩, pu3, ρ2, _, ev3.step s3, iteT' hb, fun pu4 d hzd v H4 s4 r4 => ?_⟩
      obtain ⟨hz, hd⟩ := hzd
      have k4 : Stp pu' H' pu4 H4 := k3.trans s4
      have hD4 : H4 D = some (.lst accV) := k4.kp D _ hD nu'
      have nu4 : pu4 D = false := k4.mo'.off nu' ⟨_, hD⟩
      have ra4 := Reps.mono (k4.mo (fun a => hdn c σ ρ a || a == D)) accD accV ra
      have vis : hid (fun a => hdn c σ ρ a || a == D) (upd H4 D (.lst (accV ++ [v]))) = hid (fun a => hdn c σ ρ a || a == D) H4 := by
        funext a
        unfold hid
        by_cases ea : a = D
        · subst ea; simp
        · rw [upd_ne ea]
      refine ⟨accV, hD4, by rw [ra.length]; exact hz, pu4, accD ++ [d], accV ++ [v], ⟨fun a o e n => ?_, (st.trans k4).up, (st.trans k4).nw, fun a z => ?_⟩, upd_same, nu4, ?_, hd⟩
      · rw [upd_ne (ne_of_none e nD)]
        exact (st.trans k4).kp a o e n
      · obtain ⟨x1, x2, x3, x4, e1, e2⟩ := k4.ok a z
        have : a ≠ D := fun w => by rw [w, nu4] at z; cases z
        exact ⟨x1, x2, x3, x4, by rw [upd_ne this]; exact e1, e2⟩
      · rw [vis]
        exact ra4.append (Reps.one (Rep.mono (mo_less fun a z => Bool.or_eq_true_iff.mpr (.inl z)) d v r4))
  · have hn : i = ds.length := by omega
    subst hn
    rw [List.drop_length] at hgo
    exact .inl ⟨wk.stops H' hGH, q pu' _ hgo D H' (s.trans st) (s.none nD) nu' ⟨accV, hD, ra⟩⟩
theorem pf_lc (hK : X.K = W.K) (hc : X.calm = true) (hN : X.N.Nodup) (hi : PID W X tg iter src) (ok : BlkOk X.N X.env.scope scope own)
    (hg : ∀ (s : Shared) (H : Hp) (C : Addr) (cl : List (Str × Addr)) (fp : List Addr), PG (X.blk s H scope (compEnvC scope cl C X.env) fp) tg (gPat W.K g)) (hgs : ∀ i ∈ g.slots, i ∈ own.map (·.2))
    (ht : ∀ (s : Shared) (H : Hp) (C : Addr) (cl : List (Str × Addr)) (fp : List Addr), PTsD W (X.blk s H scope (compEnvC scope cl C X.env) fp) ifs tt)
    (he : ∀ (s : Shared) (H : Hp) (C : Addr) (cl : List (Str × Addr)) (fp : List Addr), PD W (X.blk s H scope (compEnvC scope cl C X.env) fp) elt te) (hs : ∀ x, foldedSetIterable iter X.env x = pure x := by intro _; rfl) :
    PFD W X (.ListComp elt [⟨tg, iter, ifs, 0⟩] scope pos) (tLcD src g tt te (own.map (·.2))) := fun c =>
  PE_imp (pe_lc hc hN (hi c) ok hg (fun s H C cl fp => PTs_ex (ht s H C cl fp)) (fun s H C cl fp => PE_ex (he s H C cl fp)) hs) fun σ H Q ⟨pu, ρ, P, ev, ht, q⟩ => lc_run ev ht hgs q
/-- name = [..] on one line -/
theorem psd_setLc {i : Nat} {y : Str} {py spos : Pos} (hK : X.K = W.K) (hc : X.calm = true) (hN : X.N.Nodup) (hy : X.N[i]? = some y) (hyl : X.env.scope.names.lookup y = some .local)
    (hsw : swapsWith (.ListComp elt [⟨tg, iter, ifs, 0⟩] scope pos) (some (.Name y py)) spos.line X.env = pure true) (hi : PID W X tg iter src) (ok : BlkOk X.N X.env.scope scope own)
    (hg : ∀ (s : Shared) (H : Hp) (C : Addr) (cl : List (Str × Addr)) (fp : List Addr), PG (X.blk s H scope (compEnvC scope cl C X.env) fp) tg (gPat W.K g)) (hgs : ∀ i ∈ g.slots, i ∈ own.map (·.2))
    (ht : ∀ (s : Shared) (H : Hp) (C : Addr) (cl : List (Str × Addr)) (fp : List Addr), PTsD W (X.blk s H scope (compEnvC scope cl C X.env) fp) ifs tt)
    (he : ∀ (s : Shared) (H : Hp) (C : Addr) (cl : List (Str × Addr)) (fp : List Addr), PD W (X.blk s H scope (compEnvC scope cl C X.env) fp) elt te) (hs : ∀ x, foldedSetIterable iter X.env x = pure x := by intro _; rfl) :
    PSD W X fr (.Assign [.Name y py] (.ListComp elt [⟨tg, iter, ifs, 0⟩] scope pos) spos) (tSetD i (tLcD src g tt te (own.map (·.2)))) := fun c _ =>
  PS_imp (ps_setLc hc hN hy hyl hsw (hi c) ok hg (fun s H C cl fp => PTs_ex (ht s H C cl fp)) (fun s H C cl fp => PE_ex (he s H C cl fp)) hs) fun De σ H ⟨pu, ρ, E, ev, ht, h1, _⟩ =>
    lc_run (Q := fun x H1 => gName i x σ H1 De.nx) ev ht hgs fun pu' d hd p H' s n nu r => h1 pu' _ hd _ H' ((ev.step s).setSh (ow_rep (ev.vw.free n) nu r))
theorem psd_setLcO {i : Nat} {y : Str} {py spos : Pos} (hK : X.K = W.K) (hc : X.calm = true) (hN : X.N.Nodup) (hy : X.N[i]? = some y) (hyl : X.env.scope.names.lookup y = some .local)
    (hsw : swapsWith (.ListComp elt [⟨tg, iter, ifs, 0⟩] scope pos) (some (.Name y py)) spos.line X.env = pure true) (hi : PID W X tg iter src) (ok : BlkOk X.N X.env.scope scope own)
    (hg : ∀ (s : Shared) (H : Hp) (C : Addr) (cl : List (Str × Addr)) (fp : List Addr), PG (X.blk s H scope (compEnvC scope cl C X.env) fp) tg (gPat W.K g)) (hgs : ∀ i ∈ g.slots, i ∈ own.map (·.2))
    (ht : ∀ (s : Shared) (H : Hp) (C : Addr) (cl : List (Str × Addr)) (fp : List Addr), PTsD W (X.blk s H scope (compEnvC scope cl C X.env) fp) ifs tt)
    (he : ∀ (s : Shared) (H : Hp) (C : Addr) (cl : List (Str × Addr)) (fp : List Addr), PD W (X.blk s H scope (compEnvC scope cl C X.env) fp) elt te) (hs : ∀ x, foldedSetIterable iter X.env x = pure x := by intro _; rfl) :
    PSD W X fr (.Assign [.Name y py] (.ListComp elt [⟨tg, iter, ifs, 0⟩] scope pos) spos) (tSetO i (tLcD src g tt te (own.map (·.2)))) := fun c _ =>
  PS_imp (ps_setLc hc hN hy hyl hsw (hi c) ok hg (fun s H C cl fp => PTs_ex (ht s H C cl fp)) (fun s H C cl fp => PE_ex (he s H C cl fp)) hs) fun De σ H ⟨pu, ρ, E, ev, ht, h1, _⟩ =>
    lc_run (Q := fun x H1 => gName i x σ H1 De.nx) ev ht hgs fun pu' d hd p H' s n nu r => h1 pu' _ hd _ H' (ev.setOw s n nu r)
end
end DL
namespace DL
open PySem PySem.Spec L2

/-! ### tests, and, or, not, if -/
section
variable {W : Wd} {X : Cx} {a b c e : Expr} {rest : List Expr} {ta tb te : TD} {t u : TTD} {pos : Pos}
def tTst (te : TD) : TTD := fun n ρ Q => te n ρ fun d n1 => match d with
  | .bl b => Q b n1
  | _ => False
def PWD (W : Wd) (X : Cx) (e : Expr) (t : TTD) : Prop := ∀ c, PW X e (rdT W c t)
theorem PW_imp {t t' : TT} (h : PW X e t) (k : ∀ σ H Q, t' σ H Q → t σ H Q) : PW X e t' := ⟨fun wh pins s σ H Q I q => h.run wh pins s σ H Q I (k _ _ _ q)⟩
theorem PWD.pt (h : PWD W X e t) : PTD W X e t := fun c => (h c).pt
theorem ptd_val (he : PKD W X e te) (h : ∀ whole, isTrue e X.env whole = (do let v ← whole; standAt e.pos; holding [v] (truthy v)) := by intro _; rfl) : PTD W X e (tTst te) := fun c => PT_imp (pt_val (he c) h) fun σ H Q ⟨pu, ρ, P, ev, ht, q⟩ => by
  refine ⟨pu, ρ, _, ev, ht, fun pu' d hd v H' s r => ?_⟩
  cases d with
  | bl k => exact ⟨k, r.bl, q pu' k hd H' s⟩
  | _ => exact False.elim hd
theorem ptd_cmp {op : CmpOp} {f : D → D → (D → Prop) → Prop} {r : R2} (ho : OpR X (compareOp op) r) (k : Op2 W f r) (ha : PKD W X a ta) (hb : PKD W X b tb) (hm : behindInMarks op b = false) : PTD W X (.Compare a [op] [b] pos) (tTst (t2 f ta tb)) := fun c =>
  PT_imp (pt_cmpR ho (ha c) (hb c) hm) fun σ H Q ⟨pu, ρ, P, ev, ht, q⟩ => two_run (P := fun d n => match d with
    | .bl b => P b n
    | _ => False) ev ht fun x y v u pu2 H2 s rx ry hf => k _ _ _ _ _ _ _ _ _ (ev.vw.step s) rx ry hf fun d hd w H' s' r => by
      cases d with
      | bl k => exact ⟨k, by simpa only [Rep] using r, q pu2 k hd H' (s.trans s')⟩
      | _ => exact False.elim hd
def tAndD (t u : TTD) : TTD := fun n ρ Q => t n ρ fun b n1 => if b = true then u n1 ρ Q else Q false n1
def tOrD (t u : TTD) : TTD := fun n ρ Q => t n ρ fun b n1 => if b = true then Q true n1 else u n1 ρ Q
def tNotD (t : TTD) : TTD := fun n ρ Q => t n ρ fun b n1 => Q (!b) n1
theorem pwd_and1 (ha : PTD W X a t) : PWD W X (.BoolOp .And [a] pos) t := fun c => pw_and1 (ha c)
theorem pwd_or1 (ha : PTD W X a t) : PWD W X (.BoolOp .Or [a] pos) t := fun c => pw_or1 (ha c)
theorem pwd_and (ha : PTD W X a t) (hb : PWD W X (.BoolOp .And (b :: rest) pos) u) : PWD W X (.BoolOp .And (a :: b :: rest) pos) (tAndD t u) := fun c => PW_imp (pw_and (ha c) (hb c)) fun σ H Q ⟨pu, ρ, P, ev, ht, q⟩ =>
  ⟨pu, ρ, _, ev, ht, fun pu1 k hk H1 s => by
    cases k with
    | true => exact iteT ⟨pu1, ρ, P, ev.step s, iteT' hk, fun pu' b hb H' s' => q pu' b hb H' (s.trans s')⟩
    | false => exact iteF (q pu1 false (iteF' hk) H1 s)⟩
theorem pwd_or (ha : PTD W X a t) (hb : PWD W X (.BoolOp .Or (b :: rest) pos) u) : PWD W X (.BoolOp .Or (a :: b :: rest) pos) (tOrD t u) := fun c => PW_imp (pw_or (ha c) (hb c)) fun σ H Q ⟨pu, ρ, P, ev, ht, q⟩ =>
  ⟨pu, ρ, _, ev, ht, fun pu1 k hk H1 s => by
    cases k with
    | true => exact iteT (q pu1 true (iteT' hk) H1 s)
    | false => exact iteF ⟨pu1, ρ, P, ev.step s, iteF' hk, fun pu' b hb H' s' => q pu' b hb H' (s.trans s')⟩⟩
theorem ptd_not (ha : PTD W X a t) : PTD W X (.UnaryOp .Not a pos) (tNotD t) := fun c => PT_imp (pt_not (ha c)) fun σ H Q ⟨pu, ρ, P, ev, ht, q⟩ => ⟨pu, ρ, _, ev, ht, fun pu1 k hk H1 s => q pu1 _ hk H1 s⟩
def tAndVD (ta tb : TD) : TD := fun n ρ Q => ta n ρ fun d n1 => match d with
  | .bl b => if b = true then tb n1 ρ Q else Q (.bl false) n1
  | _ => False
def tOrVD (ta tb : TD) : TD := fun n ρ Q => ta n ρ fun d n1 => match d with
  | .bl b => if b = true then Q (.bl true) n1 else tb n1 ρ Q
  | _ => False
def tNotVD (ta : TD) : TD := fun n ρ Q => ta n ρ fun d n1 => match d with
  | .bl b => Q (.bl (!b)) n1
  | _ => False
def tIfE (t : TTD) (ta tb : TD) : TD := fun n ρ Q => t n ρ fun b n1 => if b = true then ta n1 ρ Q else tb n1 ρ Q
theorem rep_bl {pu : Pu} {S : Hp} {b : Bool} : Rep W pu S (.bl b) (.bl b) := by simp only [Rep]
theorem pd_one {op} (h : PD W X a ta) : PD W X (.BoolOp op [a] pos) ta := fun c => pe_one (h c)
theorem pd_and (ha : PD W X a ta) (hb : PD W X (.BoolOp .And (b :: rest) pos) tb) : PD W X (.BoolOp .And (a :: b :: rest) pos) (tAndVD ta tb) := fun c => PE_imp (pe_and (ha c) (hb c)) fun σ H Q ⟨pu, ρ, P, ev, ht, q⟩ => by
  refine ⟨pu, ρ, _, ev, ht, fun pu1 d hd v H1 s r => ?_⟩
  cases d with
  | bl k =>
    refine ⟨k, by simpa only [Rep] using r, ?_⟩
    cases k with
    | true => exact iteT ⟨pu1, ρ, P, ev.step s, iteT' hd, fun pu' d hd v H' s' r => q pu' d hd v H' (s.trans s') r⟩
    | false => exact iteF (q pu1 _ (iteF' hd) _ H1 s rep_bl)
  | _ => exact False.elim hd
theorem pd_or (ha : PD W X a ta) (hb : PD W X (.BoolOp .Or (b :: rest) pos) tb) : PD W X (.BoolOp .Or (a :: b :: rest) pos) (tOrVD ta tb) := fun c => PE_imp (pe_or (ha c) (hb c)) fun σ H Q ⟨pu, ρ, P, ev, ht, q⟩ => by
  refine ⟨pu, ρ, _, ev, ht, fun pu1 d hd v H1 s r => ?_⟩
  cases d with
  | bl k =>
    refine ⟨k, by simpa only [Rep] using r, ?_⟩
    cases k with
    | true => exact iteT (q pu1 _ (iteT' hd) _ H1 s rep_bl)
    | false => exact iteF ⟨pu1, ρ, P, ev.step s, iteF' hd, fun pu' d hd v H' s' r => q pu' d hd v H' (s.trans s') r⟩
  | _ => exact False.elim hd
theorem pd_not (ha : PD W X a ta) : PD W X (.UnaryOp .Not a pos) (tNotVD ta) := fun c => PE_imp (pe_not (ha c)) fun σ H Q ⟨pu, ρ, P, ev, ht, q⟩ => by
  refine ⟨pu, ρ, _, ev, ht, fun pu1 d hd v H1 s r => ?_⟩
  cases d with
  | bl k => exact ⟨k, by simpa only [Rep] using r, q pu1 _ hd _ H1 s rep_bl⟩
  | _ => exact False.elim hd
theorem pd_ifE (hc : PTD W X c t) (ha : PD W X a ta) (hb : PD W X b tb) : PD W X (.IfExp c a b pos) (tIfE t ta tb) := fun c => PE_imp (pe_ifExp (hc c) (ha c) (hb c)) fun σ H Q ⟨pu, ρ, P, ev, ht, q⟩ =>
  ⟨pu, ρ, _, ev, ht, fun pu1 k hk H1 s => by
    cases k with
    | true => exact iteT ⟨pu1, ρ, P, ev.step s, iteT' hk, fun pu' d hd v H' s' r => q pu' d hd v H' (s.trans s') r⟩
    | false => exact iteF ⟨pu1, ρ, P, ev.step s, iteF' hk, fun pu' d hd v H' s' r => q pu' d hd v H' (s.trans s') r⟩⟩
theorem pf_ifE (hc : PTD W X c t) (ha : PFD W X a ta) (hb : PFD W X b tb) : PFD W X (.IfExp c a b pos) (tIfE t ta tb) := fun c => PE_imp (pe_ifExp (hc c) (ha c) (hb c)) fun σ H Q ⟨pu, ρ, P, ev, ht, q⟩ =>
  ⟨pu, ρ, _, ev, ht, fun pu1 k hk H1 s => by
    cases k with
    | true => exact iteT ⟨pu1, ρ, P, ev.step s, iteT' hk, fun pu' d hd v H' s' n r => q pu' d hd v H' (s.trans s') (s.none n) r⟩
    | false => exact iteF ⟨pu1, ρ, P, ev.step s, iteF' hk, fun pu' d hd v H' s' n r => q pu' d hd v H' (s.trans s') (s.none n) r⟩⟩
/-- a op1 b op2 c -/
def tChnD (f g : D → D → (D → Prop) → Prop) (ta tb tc : TD) : TD := fun n ρ Q => ta n ρ fun x n1 => tb n1 ρ fun y n2 => f x y fun z => match z with
  | .bl k => if k = true then tc n2 ρ fun w n3 => g y w fun d => Q d n3 else Q (.bl false) n2
  | _ => False
theorem chn_run {f g : D → D → (D → Prop) → Prop} {r r' : R2} {tc : TD} (k1 : Op2 W f r) (k2 : Op2 W g r') {c : Ent} {σ : L2.St} {H : Hp} {Q : VK} {pu : Pu} {ρ : List Sl} {P : D → Nat → Prop} (ev : EnvR W c pu σ H ρ) (ht : tChnD f g ta tb tc pu.n ρ P) (q : Kt W pu (hdn c σ ρ) H P Q) :
    tChain r r' (rdK W c ta) (rdK W c tb) (rdK W c tc) σ H Q := by
  refine ⟨pu, ρ, _, ev, ht, fun pu1 x hx v H1 s1 r1 => ⟨pu1, ρ, _, ev.step s1, hx, fun pu2 y hy u H2 s2 r2 => ?_⟩⟩
  refine k1 _ _ _ _ _ _ _ _ _ ((ev.step s1).step s2).vw (r1.step s2) r2 hy fun z hz w H3 s3 r3 => ?_
  cases z with
  | bl b =>
    refine ⟨b, by simpa only [Rep] using r3, ?_⟩
    cases b with
    | true => exact iteT ⟨pu2, ρ, _, ((ev.step s1).step s2).step s3, iteT' hz, fun pu4 w2 hw2 v4 H4 s4 r4 => k2 _ _ _ _ _ _ _ _ _ (((ev.step s1).step s2).step (s3.trans s4)).vw (r2.step (s3.trans s4)) r4 hw2 fun d hd v5 H5 s5 r5 =>
        q pu4 d hd v5 H5 (s1.trans (s2.trans (s3.trans (s4.trans s5)))) r5⟩
    | false => exact iteF (q pu2 _ (iteF' hz) _ H3 (s1.trans (s2.trans s3)) rep_bl)
  | _ => exact False.elim hz
theorem pd_chain {op op' : CmpOp} {f g : D → D → (D → Prop) → Prop} {r r' : R2} {tc : TD} (ho : OpR X (compareOp op) r) (ho' : OpR X (compareOp op') r') (k1 : Op2 W f r) (k2 : Op2 W g r') (ha : PKD W X a ta) (hb : PKD W X b tb) (hc : PKD W X c tc)
    (hm : lastMarks [op, op'] [b, c] = false := by with_unfolding_all rfl) : PD W X (.Compare a [op, op'] [b, c] pos) (tChnD f g ta tb tc) := fun c =>
  PE_imp (pe_chain ho ho' (ha c) (hb c) (hc c) hm) fun σ H Q ⟨pu, ρ, P, ev, ht, q⟩ => chn_run k1 k2 ev ht q
theorem ptd_chain {op op' : CmpOp} {f g : D → D → (D → Prop) → Prop} {r r' : R2} {tc : TD} (ho : OpR X (compareOp op) r) (ho' : OpR X (compareOp op') r') (k1 : Op2 W f r) (k2 : Op2 W g r') (ha : PKD W X a ta) (hb : PKD W X b tb) (hc : PKD W X c tc)
    (hm : lastMarks [op, op'] [b, c] = false := by with_unfolding_all rfl) : PTD W X (.Compare a [op, op'] [b, c] pos) (tTst (tChnD f g ta tb tc)) := fun c =>
  PT_imp (pt_chain ho ho' (ha c) (hb c) (hc c) hm) fun σ H Q ⟨pu, ρ, P, ev, ht, q⟩ => chn_run k1 k2 ev ht fun pu' d hd v H' s r => by
    cases d with
    | bl k => exact ⟨k, by simpa only [Rep] using r, q pu' k hd H' s⟩
    | _ => exact False.elim hd
end

/-! ### methods of built-in types -/
section
variable {W : Wd} {X : Cx} {fr : Bool} {o e : Expr} {es : List Expr} {to te : TD} {tas : TAD} {name : Str} {apos cpos pos : Pos} {T id : String} {r : V → List V → Hp → VK → Prop}
/-- a method that looks only: f by receiver and arguments -/
def Met (W : Wd) (T : String) (f : D → List D → (D → Prop) → Prop) (ok : D → Bool) (r : V → List V → Hp → VK → Prop) : Prop :=
  (∀ pu h H x v, Vw pu h H → RepK W pu h H x v → ok x = true → tyV W.K T v H) ∧
  ∀ pu h H x xs v vs P Q, Vw pu h H → RepK W pu h H x v → RepsK W pu h H xs vs → f x xs P → Post W pu h H P Q → r v vs H Q
def MetF (W : Wd) (T : String) (f : D → List D → (D → Prop) → Prop) (ok : D → Bool) (r : V → List V → Hp → VK → Prop) : Prop :=
  (∀ pu h H x v, Vw pu h H → RepK W pu h H x v → ok x = true → tyV W.K T v H) ∧
  ∀ pu h H x xs v vs P Q, Vw pu h H → RepK W pu h H x v → RepsK W pu h H xs vs → f x xs P → PostF W pu h H P Q → r v vs H Q
def tMet (f : D → List D → (D → Prop) → Prop) (ok : D → Bool) (to : TD) (tas : TAD) : TD := fun n ρ Q => to n ρ fun x n1 => if ok x = true then tas n1 ρ fun xs n2 => f x xs fun d => Q d n2 else False
theorem met_run {f : D → List D → (D → Prop) → Prop} {ok : D → Bool} {c : Ent} {σ : L2.St} {H : Hp} {Q : VK} {pu : Pu} {ρ : List Sl} {P : D → Nat → Prop} (hK : X.K = W.K) (hty : ∀ pu h H x v, Vw pu h H → RepK W pu h H x v → ok x = true → tyV W.K T v H) (ev : EnvR W c pu σ H ρ) (ht : tMet f ok to tas pu.n ρ P)
    (k : ∀ x xs v vs pu2 H2, Stp pu H pu2 H2 → RepK W pu2 (hdn c σ ρ) H2 x v → RepsK W pu2 (hdn c σ ρ) H2 xs vs → f x xs (fun d => P d pu2.n) → r v vs H2 Q) : tBM X.K T r (rdK W c to) (rdAK W c tas) σ H Q := by
  refine ⟨pu, ρ, _, ev, ht, fun pu1 x hx v H1 s1 r1 => ?_⟩
  by_cases hok : ok x = true
  · rw [if_pos hok] at hx
    rw [hK]
    exact ⟨hty pu1 _ H1 x v (ev.step s1).vw r1 hok, pu1, ρ, _, ev.step s1, hx, fun pu2 xs hxs vs H2 s2 r2 => k x xs v vs pu2 H2 (s1.trans s2) (r1.step s2) r2 hxs⟩
  · rw [if_neg hok] at hx; exact False.elim hx
theorem pd_bm {f : D → List D → (D → Prop) → Prop} {ok : D → Bool} (hK : X.K = W.K) (pa : PlainAttrs T) (sl : Slot T name id) (hty : typeOf (.builtin id) = pure (.type "method_descriptor")) (hm : MtR X id r) (k : Met W T f ok r) (ho : PKD W X o to) (ha : PAK W X (e :: es) tas)
    (h : ∀ c, PE X o (rdK W c to) → PA X (e :: es) (rdAK W c tas) → PE X (.Call (.Attribute o name apos) (e :: es) [] cpos) (tBM X.K T r (rdK W c to) (rdAK W c tas))) : PD W X (.Call (.Attribute o name apos) (e :: es) [] cpos) (tMet f ok to tas) := fun c =>
  PE_imp (h c (ho c) (ha c)) fun σ H Q ⟨pu, ρ, P, ev, ht, q⟩ => met_run hK k.1 ev ht fun x xs v vs pu2 H2 s rx rxs hf => k.2 _ _ _ _ _ _ _ _ _ (ev.step s).vw rx rxs hf (Post.trans s q)
theorem pf_bm {f : D → List D → (D → Prop) → Prop} {ok : D → Bool} (hK : X.K = W.K) (k : MetF W T f ok r) (ho : PKD W X o to) (ha : PAK W X (e :: es) tas)
    (h : ∀ c, PE X o (rdK W c to) → PA X (e :: es) (rdAK W c tas) → PE X (.Call (.Attribute o name apos) (e :: es) [] cpos) (tBM X.K T r (rdK W c to) (rdAK W c tas))) : PFD W X (.Call (.Attribute o name apos) (e :: es) [] cpos) (tMet f ok to tas) := fun c =>
  PE_imp (h c (ho c) (ha c)) fun σ H Q ⟨pu, ρ, P, ev, ht, q⟩ => met_run hK k.1 ev ht fun x xs v vs pu2 H2 s rx rxs hf => k.2 _ _ _ _ _ _ _ _ _ (ev.step s).vw rx rxs hf (PostF.trans s q)

/-! a method that changes a list that this frame alone holds -/
/-- f: what it holds, the arguments, what is wanted of the value and of what it holds then -/
def Mut1 (W : Wd) (f : List D → List D → (D → List D → Prop) → Prop) (r : V → List V → Hp → VK → Prop) : Prop :=
  ∀ pu h H a ds us xs vs P Q, Vw pu h H → H a = some (.lst us) → Reps W pu (hid h H) ds us → Reps W pu (hid h H) xs vs → f ds xs P → (∀ d ds', P d ds' → ∀ v us', Rep W pu (hid h H) d v → Reps W pu (hid h H) ds' us' → Q v (upd H a (.lst us'))) → r (.ref a) vs H Q
/-- the value is dropped -/
def tMutD (i : Nat) (f : List D → List D → (D → List D → Prop) → Prop) (tas : TAD) : TDS := fun E n ρ => match slot ρ i with
  | .ow (.lst ds) => tas n ρ fun xs n1 => f ds xs fun _ ds' => E.nx n1 (ρ.set i (.ow (.lst ds')))
  | _ => False
/-- the value goes to the slot j -/
def tMutV (i j : Nat) (f : List D → List D → (D → List D → Prop) → Prop) (tas : TAD) : TDS := fun E n ρ => match slot ρ i with
  | .ow (.lst ds) => tas n ρ fun xs n1 => f ds xs fun d ds' => E.nx n1 ((ρ.set i (.ow (.lst ds'))).set j (.sh d))
  | _ => False
theorem mut_run {f : List D → List D → (D → List D → Prop) → Prop} {i : Nat} {c : Ent} {σ : L2.St} {H : Hp} {pu : Pu} {ρ : List Sl} {Q : VK} {R : Nat → List Sl → D → Prop} (hK : X.K = W.K) (k : Mut1 W f r) (ev : EnvR W c pu σ H ρ) (ht : match slot ρ i with
      | .ow (.lst ds) => tas pu.n ρ fun xs n1 => f ds xs fun d ds' => R n1 (ρ.set i (.ow (.lst ds'))) d
      | _ => False)
    (q : ∀ (pu' : Pu) ρ' d v H', R pu'.n ρ' d → EnvR W c pu' σ H' ρ' → Rep W pu' (hid (hdn c σ ρ') H') d v → Q v H') : tBM X.K "list" r (L2.tVar i) (rdA W c tas) σ H Q := by
  cases hs : slot ρ i with
  | ow d =>
    rw [hs] at ht
    cases d with
    | lst ds =>
      have e0 := slot_some hs (by intro z; cases z)
      obtain ⟨a, h1, ⟨us, h2, h3⟩, ho⟩ := own_at ev e0
      refine ⟨.ref a, h1, Or.inl ⟨rfl, us, Or.inl (Or.inl h2)⟩, pu, ρ, _, ev, ht, fun pu1 xs hx vs H1 s r1 => ?_⟩
      have ev1 := ev.step s
      obtain ⟨a', h1', ⟨us', h2', h3'⟩, ho'⟩ := own_at ev1 e0
      rw [h1] at h1'; cases h1'
      have hiρ : i < ρ.length := (List.getElem?_eq_some_iff.mp e0).1
      refine k pu1 (hdn c σ ρ) H1 a ds us' xs vs _ Q ev1.vw h2' h3' r1 hx fun d ds' hd v ws rv rws => ?_
      have em := ev1.mut (d' := .lst ds') (o := .lst ws) e0 h1 ⟨ws, upd_same, rws⟩
      refine q pu1 _ d v _ hd em ?_
      have vis : hid (hdn c σ (ρ.set i (.ow (.lst ds')))) (upd H1 a (.lst ws)) = hid (hdn c σ ρ) H1 := by
        have ow_eq : own σ (ρ.set i (.ow (.lst ds'))) = own σ ρ := by
          funext b
          rw [Bool.eq_iff_iff]
          constructor
          · intro z
            obtain ⟨j, dj, q1, q2⟩ := own_iff.mp z
            rcases getset q1 with ⟨ej, _⟩ | ⟨ne, q1⟩
            · subst ej; exact own_iff.mpr ⟨j, _, e0, q2⟩
            · exact own_iff.mpr ⟨j, dj, q1, q2⟩
          · intro z
            obtain ⟨j, dj, q1, q2⟩ := own_iff.mp z
            by_cases ej : j = i
            · subst ej; exact own_iff.mpr ⟨j, _, List.getElem?_set_self hiρ, q2⟩
            · exact own_iff.mpr ⟨j, dj, by rw [List.getElem?_set_ne (Ne.symm ej)]; exact q1, q2⟩
        funext b
        unfold hid hdn
        rw [ow_eq]
        by_cases eb : b = a
        · subst eb; rw [ho']; simp
        · rw [upd_ne eb]
      rw [vis]; exact rv
    | _ => exact False.elim ht
  | un => rw [hs] at ht; exact False.elim ht
  | sh d => rw [hs] at ht; exact False.elim ht
  | pk d => rw [hs] at ht; exact False.elim ht
theorem psd_mut {f : List D → List D → (D → List D → Prop) → Prop} {i : Nat} (hK : X.K = W.K) (k : Mut1 W f r) (ha : PAD W X es tas)
    (h : ∀ t : TA, PA X es t → PE X (.Call (.Attribute o name apos) es [] cpos) (tBM X.K "list" r (L2.tVar i) t)) (hs : swapsWith (.Call (.Attribute o name apos) es [] cpos) none pos.line X.env = pure false := by rfl) :
    PSD W X fr (.Expr (.Call (.Attribute o name apos) es [] cpos) pos) (tMutD i f tas) := fun c _ => PS_imp (ps_expr (h _ (ha c)) hs) fun De σ H ⟨pu, ρ, E, ev, ht, h1, _⟩ =>
  mut_run (R := fun n ρ' _ => E.nx n ρ') hK k ev ht fun pu' ρ' d v H' hR ev' _ => h1 pu' ρ' hR σ H' ev'
theorem psd_mutV {f : List D → List D → (D → List D → Prop) → Prop} {i j : Nat} {x : Str} {pos' : Pos} (hK : X.K = W.K) (k : Mut1 W f r) (hN : X.N.Nodup) (hi : X.N[j]? = some x) (hx : Loc X.env.scope x) (ha : PAD W X es tas)
    (h : ∀ t : TA, PA X es t → PE X (.Call (.Attribute o name apos) es [] cpos) (tBM X.K "list" r (L2.tVar i) t)) (hs : swapsWith (.Call (.Attribute o name apos) es [] cpos) (some (.Name x pos')) pos.line X.env = pure false := by rfl) (hf : X.fn x = true ∨ X.env.scope.names.lookup x = some .local := by first | exact .inl rfl | exact .inr rfl | assumption) :
    PSD W X fr (.Assign [.Name x pos'] (.Call (.Attribute o name apos) es [] cpos) pos) (tMutV i j f tas) := fun c _ => PS_imp (ps_set hN hi hx (h _ (ha c)) hs hf) fun De σ H ⟨pu, ρ, E, ev, ht, h1, _⟩ =>
  mut_run (R := fun n ρ' d => E.nx n (ρ'.set j (.sh d))) hK k ev ht fun pu' ρ' d v H' hR ev' rv => h1 pu' _ hR _ H' (ev'.setSh rv)
end

/-! ### subscripts stored -/
section
variable {W : Wd} {X : Cx} {fr : Bool} {o ie e : Expr} {ti te : TD} {pos spos : Pos}
def setIxA (ds : List D) (k d : D) (Q : List D → Prop) : Prop := match k with
  | .int z => match ixN ds.length z with
    | some j => Q (ds.set j d)
    | none => False
  | _ => False
def tSetIx (i : Nat) (ti te : TD) : TDS := fun E n ρ => match slot ρ i with
  | .ow (.lst ds) => te n ρ fun d n1 => ti n1 ρ fun k n2 => setIxA ds k d fun ds' => E.nx n2 (ρ.set i (.ow (.lst ds')))
  | _ => False
theorem Reps.set {pu : Pu} {S : Hp} {ds : List D} {vs : List V} {j : Nat} {d : D} {v : V} (h : Reps W pu S ds vs) (r : Rep W pu S d v) : Reps W pu S (ds.set j d) (vs.set j v) := by
  refine Reps.of_get (by rw [List.length_set, List.length_set, h.length]) fun i d' v' e1 e2 => ?_
  rcases getset e1 with ⟨ei, e⟩ | ⟨ne, e1⟩
  · subst e
    rcases getset e2 with ⟨_, e⟩ | ⟨z, _⟩
    · subst e; exact r
    · exact absurd ei z
  · rw [List.getElem?_set_ne (Ne.symm ne)] at e2
    obtain ⟨u, q1, q2⟩ := h.get e1
    rw [e2] at q1; cases q1; exact q2
theorem psd_setIx {i : Nat} (hv : PE X o (L2.tVar i)) (hi : PKD W X ie ti) (he : PD W X e te)
    (ha : ∀ v, assign (.Subscript o ie spos) X.env v = (do
      let ov ← holding [v] (eval o X.env)
      let iv ← holding [v, ov] (eval ie X.env)
      standAt spos
      holding [v, ov, iv] (setItem ov iv v)
      release [v, ov, iv] []) := by intro _; rfl)
    (hs : swapsWithSole [.Subscript o ie spos] e pos.line X.env = pure false := by rfl) (hw : swappedStores [.Subscript o ie spos] e X.env = pure none := by rfl)
    (h1 : (assignEach [.Subscript o ie spos] X.env).map (·.2) = [assign (.Subscript o ie spos) X.env] := by rfl) : PSD W X fr (.Assign [.Subscript o ie spos] e pos) (tSetIx i ti te) := fun c _ =>
  PS_imp (ps_asg (he c) (pg_sub hv (hi c) set_list ha) hs hw h1) fun De σ H ⟨pu, ρ, E, ev, ht, h1, _⟩ => by
  unfold tSetIx at ht
  cases hs : slot ρ i with
  | ow dd =>
    rw [hs] at ht
    cases dd with
    | lst ds =>
      have e0 := slot_some hs (by intro z; cases z)
      refine ⟨pu, ρ, _, ev, ht, fun pu1 d hd v H1 s1 r1 => ?_⟩
      have ev1 := ev.step s1
      obtain ⟨a, a1, _, _⟩ := own_at ev1 e0
      refine ⟨.ref a, a1, pu1, ρ, _, ev1, hd, fun pu2 k hk u H2 s2 r2 => ?_⟩
      unfold setIxA at hk
      cases k with
      | int z =>
        cases hj : ixN ds.length z with
        | none => simp only [hj] at hk
        | some j =>
          simp only [hj] at hk
          have ev2 := ev1.step s2
          obtain ⟨a', b1, ⟨us, b2, b3⟩, _⟩ := own_at ev2 e0
          rw [a1] at b1; cases b1
          refine ⟨a, us, z, j, rfl, r2.int, b2, by rw [b3.length]; exact hj, ?_⟩
          exact h1 pu2 _ hk σ _ (ev2.mut (d' := .lst (ds.set j d)) (o := .lst (us.set j v)) e0 a1 ⟨_, upd_same, b3.set (Rep.mono (s2.mo _) d v r1)⟩)
      | _ => exact False.elim hk
    | _ => exact False.elim ht
  | un => rw [hs] at ht; exact False.elim ht
  | sh dd => rw [hs] at ht; exact False.elim ht
  | pk dd => rw [hs] at ht; exact False.elim ht
end

/-! ### slices -/
section
variable {W : Wd} {X : Cx} {fr : Bool} {e : Expr} {lo hi : Option Expr} {te : TD} {p2 pos : Pos}
abbrev TOD := Nat → List Sl → (Option Int → Nat → Prop) → Prop
def rdO (W : Wd) (c : Ent) (t : TOD) : L2.TO := fun σ H Q => ∃ pu ρ P, EnvR W c pu σ H ρ ∧ t pu.n ρ P ∧ ∀ (pu' : Pu) o, P o pu'.n → ∀ H', Stp pu H pu' H' → Q o H'
def POD (W : Wd) (X : Cx) (e : Option Expr) (t : TOD) : Prop := ∀ c, PO X e (rdO W c t)
theorem PO_imp {e : Option Expr} {t t' : L2.TO} (h : PO X e t) (k : ∀ σ H Q, t' σ H Q → t σ H Q) : PO X e t' := ⟨fun pins s σ H Q I q => h.run pins s σ H Q I (k _ _ _ q)⟩
def tNoD : TOD := fun n _ Q => Q none n
def tPartD (te : TD) : TOD := fun n ρ Q => te n ρ fun d n1 => match d with
  | .int i => Q (some i) n1
  | _ => False
theorem pod_none : POD W X none tNoD := fun c => PO_imp po_none fun σ H Q ⟨pu, ρ, P, ev, ht, q⟩ => q pu none ht H ev.rfl'
theorem pod_some (h : PKD W X e te) : POD W X (some e) (tPartD te) := fun c => PO_imp (po_some (h c)) fun σ H Q ⟨pu, ρ, P, ev, ht, q⟩ => by
  refine ⟨pu, ρ, _, ev, ht, fun pu1 d hd v H1 s r => ?_⟩
  cases d with
  | int i => exact ⟨i, r.int, q pu1 _ hd H1 s⟩
  | _ => exact False.elim hd
def SlD (W : Wd) (f : D → Option Int → Option Int → (D → Prop) → Prop) (r : V → Option Int → Option Int → Hp → VK → Prop) : Prop := ∀ pu h H x v l u P Q, Vw pu h H → RepK W pu h H x v → f x l u P → Post W pu h H P Q → r v l u H Q
def SlF (W : Wd) (f : D → Option Int → Option Int → (D → Prop) → Prop) (r : V → Option Int → Option Int → Hp → VK → Prop) : Prop := ∀ pu h H x v l u P Q, Vw pu h H → RepK W pu h H x v → f x l u P → PostF W pu h H P Q → r v l u H Q
def tSlD (f : D → Option Int → Option Int → (D → Prop) → Prop) (te : TD) (tl th : TOD) : TD := fun n ρ Q => te n ρ fun x n1 => tl n1 ρ fun l n2 => th n2 ρ fun u n3 => f x l u fun d => Q d n3
variable {tl th : TOD} {f : D → Option Int → Option Int → (D → Prop) → Prop} {r : V → Option Int → Option Int → Hp → VK → Prop}
theorem sl_run {c : Ent} {σ : L2.St} {H : Hp} {Q : VK} {pu : Pu} {ρ : List Sl} {P : D → Nat → Prop} (ev : EnvR W c pu σ H ρ) (ht : tSlD f te tl th pu.n ρ P)
    (k : ∀ x v l u pu2 H2, Stp pu H pu2 H2 → RepK W pu2 (hdn c σ ρ) H2 x v → f x l u (fun d => P d pu2.n) → r v l u H2 Q) : tSl r (rdK W c te) (rdO W c tl) (rdO W c th) σ H Q :=
  ⟨pu, ρ, _, ev, ht, fun pu1 x hx v H1 s1 r1 => ⟨pu1, ρ, _, ev.step s1, hx, fun pu2 l hl H2 s2 => ⟨pu2, ρ, _, (ev.step s1).step s2, hl, fun pu3 u hu H3 s3 => k x v l u pu3 H3 (s1.trans (s2.trans s3)) (r1.step (s2.trans s3)) hu⟩⟩⟩
theorem pd_slice (hr : SlR X r) (k : SlD W f r) (he : PKD W X e te) (hl : POD W X lo tl) (hu : POD W X hi th) : PD W X (.Subscript e (.Slice lo hi none p2) pos) (tSlD f te tl th) := fun c =>
  PE_imp (pe_slice hr (he c) (hl c) (hu c)) fun σ H Q ⟨pu, ρ, P, ev, ht, q⟩ => sl_run ev ht fun x v l u pu2 H2 s rx hf => k _ _ _ _ _ _ _ _ _ (ev.step s).vw rx hf (Post.trans s q)
theorem pf_slice (hr : SlR X r) (k : SlF W f r) (he : PKD W X e te) (hl : POD W X lo tl) (hu : POD W X hi th) : PFD W X (.Subscript e (.Slice lo hi none p2) pos) (tSlD f te tl th) := fun c =>
  PE_imp (pe_slice hr (he c) (hl c) (hu c)) fun σ H Q ⟨pu, ρ, P, ev, ht, q⟩ => sl_run ev ht fun x v l u pu2 H2 s rx hf => k _ _ _ _ _ _ _ _ _ (ev.step s).vw rx hf (PostF.trans s q)
end

/-! ### fields -/
section
variable {W : Wd} {X : Cx} {e : Expr} {te : TD} {f cn : Str} {C : Addr} {pos : Pos}
def optD (o : Option D) (Q : D → Prop) : Prop := match o with
  | some x => Q x
  | none => False
def fldA (cn f : Str) (d : D) (Q : D → Prop) : Prop := match d with
  | .obj c ns ds => c = cn ∧ optD ((ns.zip ds).lookup f) Q
  | _ => False
def tFldD (cn f : Str) (te : TD) : TD := fun n ρ Q => te n ρ fun d n1 => fldA cn f d fun x => Q x n1
theorem lookup_zip {pu : Pu} {S : Hp} : ∀ {ns : List Str} {ds : List D} {vs : List V} {f : Str} {d : D}, Reps W pu S ds vs → (ns.zip ds).lookup f = some d → ∃ v, (ns.zip vs).lookup f = some v ∧ Rep W pu S d v
  | [], _, _, _, _, _, h => by simp at h
  | _ :: _, [], _, _, _, _, h => by simp at h
  | n :: ns, d :: ds, vs, f, x, r, h => by
    simp only [Reps] at r
    obtain ⟨v, vs', rfl, r1, r2⟩ := r
    show ∃ u, ((n, v) :: ns.zip vs').lookup f = some u ∧ _
    have h : ((n, d) :: ns.zip ds).lookup f = some x := h
    rw [List.lookup_cons] at h ⊢
    cases hb : f == n with
    | true => rw [hb] at h; cases h; exact ⟨v, rfl, r1⟩
    | false => rw [hb] at h; exact lookup_zip r2 h
theorem pd_fld (hK : X.K = W.K) (hC : W.cls cn = some C) (cl : Cls W.K C) (na : NoAttr W.K C f) (he : PKD W X e te) (hb : attributeBase e f X.env (eval e X.env) = eval e X.env) : PD W X (.Attribute e f pos) (tFldD cn f te) := fun c =>
  PE_imp (pe_fld (he c) hb) fun σ H Q ⟨pu, ρ, P, ev, ht, q⟩ => by
  refine ⟨pu, ρ, _, ev, ht, fun pu1 d hd v H1 s r => ?_⟩
  cases d with
  | obj c' ns ds =>
    obtain ⟨rfl, hd⟩ := hd
    cases hl : (ns.zip ds).lookup f with
    | none => rw [hl] at hd; exact False.elim hd
    | some x =>
      rw [hl] at hd
      obtain ⟨a, C', dx, vs, rfl, hC', q1, _, r⟩ := r.obj
      rw [hC] at hC'; cases hC'
      obtain ⟨u, l1, r1⟩ := lookup_zip r hl
      rw [hK]
      exact ⟨a, C, dx, _, u, rfl, q1, cl, na, l1, q pu1 x hd u H1 s r1⟩
  | _ => exact False.elim hd
end

/-! ### calls of defs -/
/-- a def that stands at a name of the module: level, its slots' names, how its arguments are looked at, its defaults, what it does -/
structure FnAt (P : Program) (w : World) (K : PySem.W.Frag) (mg : Str → Option Value) (base : Heap) (W : Wd) (x : Str) (k : Nat) (ms : List Bool) (fr : Bool) (dd : List D) (F : FnD) : Prop where
  ex : ∃ (f : Addr) (fd : FuncData) (ps : List Str) (dvs : List V) (ds : List Value), mg x = some (.ref f) ∧ PySem.W.keepIn K (.ref f) = true ∧ FnOk P w K mg base CX0 k f fd ps (spD W ms fr F) ∧ Binds K fd ps ds ∧ Vals dvs ds ∧ ∀ pu S, Reps W pu S dd dvs
section
variable {W : Wd} {X : Cx} {fr : Bool} {x : Str} {k : Nat} {ms ms1 : List Bool} {dd : List D} {F : FnD} {p pos : Pos} {a e : Expr} {es : List Expr} {ta : TD} {tas : TAD}
def rdAM (W : Wd) (c : Ent) (ms : List Bool) (t : TAD) : TA := fun σ H Q => ∃ pu ρ P, EnvR W c pu σ H ρ ∧ t pu.n ρ P ∧
  ∀ (pu' : Pu) ds, P ds pu'.n → ∀ vs H', Stp pu H pu' H' → ArgsR W pu' (hdn c σ ρ) H' ms ds vs → Q vs H'
def PAM (W : Wd) (X : Cx) (ms : List Bool) (es : List Expr) (t : TAD) : Prop := ∀ c, PA X es (rdAM W c ms t)
theorem pam_nil : PAM W X [] [] tNilA := fun c => PA_imp pa_nil fun σ H Q ⟨pu, ρ, P, ev, ht, q⟩ => q pu [] ht [] H ev.rfl' ⟨rfl, rfl⟩
theorem pam_sh (ha : PD W X a ta) (hs : PAM W X ms es tas) (h : starEach (a :: es) X.env = (false, eval a X.env) :: starEach es X.env := by rfl) : PAM W X (false :: ms) (a :: es) (tConsA ta tas) := fun c =>
  PA_imp (pa_cons (ha c) (hs c) h) fun σ H Q ⟨pu, ρ, P, ev, ht, q⟩ => ⟨pu, ρ, _, ev, ht, fun pu1 x hx v H1 s1 r1 => ⟨pu1, ρ, _, ev.step s1, hx, fun pu2 xs hxs vs H2 s2 r2 =>
    q pu2 (x :: xs) hxs (v :: vs) H2 (s1.trans s2) ⟨x, xs, v, vs, rfl, rfl, by rw [if_neg Bool.false_ne_true]; exact Rep.mono (s2.mo _) x v r1, r2⟩⟩⟩
/-- only looked at: a value; what this frame holds -/
theorem pam_sk (ha : PD W X a ta) (hs : PAM W X ms es tas) (h : starEach (a :: es) X.env = (false, eval a X.env) :: starEach es X.env := by rfl) : PAM W X (true :: ms) (a :: es) (tConsA ta tas) := fun c =>
  PA_imp (pa_cons (ha c) (hs c) h) fun σ H Q ⟨pu, ρ, P, ev, ht, q⟩ => ⟨pu, ρ, _, ev, ht, fun pu1 x hx v H1 s1 r1 => ⟨pu1, ρ, _, ev.step s1, hx, fun pu2 xs hxs vs H2 s2 r2 =>
    q pu2 (x :: xs) hxs (v :: vs) H2 (s1.trans s2) ⟨x, xs, v, vs, rfl, rfl, by rw [if_pos rfl]; exact .inl (Rep.mono (s2.mo _) x v r1), r2⟩⟩⟩
def tConsK (ta : TD) (tas : TAD) : TAD := fun n ρ Q => ta n ρ fun x n1 => isObj x = false ∧ tas n1 ρ fun xs n2 => Q (x :: xs) n2
theorem RepK.repA {pu : Pu} {h : Addr → Bool} {H : Hp} {d : D} {v : V} (e : isObj d = false) (r : RepK W pu h H d v) : RepA W pu h H d v := r.imp id fun r => ⟨e, r⟩
theorem pam_pk (ha : PKD W X a ta) (hs : PAM W X ms es tas) (h : starEach (a :: es) X.env = (false, eval a X.env) :: starEach es X.env := by rfl) : PAM W X (true :: ms) (a :: es) (tConsK ta tas) := fun c =>
  PA_imp (pa_cons (ha c) (hs c) h) fun σ H Q ⟨pu, ρ, P, ev, ht, q⟩ => ⟨pu, ρ, _, ev, ht, fun pu1 x hx v H1 s1 r1 => ⟨pu1, ρ, _, ev.step s1, hx.2, fun pu2 xs hxs vs H2 s2 r2 =>
    q pu2 (x :: xs) hxs (v :: vs) H2 (s1.trans s2) ⟨x, xs, v, vs, rfl, rfl, by rw [if_pos rfl]; exact (r1.step s2).repA hx.1, r2⟩⟩⟩
theorem argsR_app {pu : Pu} {h : Addr → Bool} {H : Hp} : ∀ {ms : List Bool} {ds : List D} {vs : List V} {dd : List D} {dvs : List V}, ArgsR W pu h H ms ds vs → Reps W pu (hid h H) dd dvs → ArgsR W pu h H (ms ++ List.replicate dd.length false) (ds ++ dd) (vs ++ dvs)
  | [], ds, vs, dd, dvs, ⟨e1, e2⟩, r => by
    subst e1 e2
    have : ∀ (dd : List D) (dvs : List V), Reps W pu (hid h H) dd dvs → ArgsR W pu h H (List.replicate dd.length false) dd dvs := fun dd => by
      induction dd with
      | nil => intro dvs r; simp only [Reps] at r; exact ⟨rfl, r⟩
      | cons d dd ih =>
        intro dvs r
        simp only [Reps] at r
        obtain ⟨v, us, rfl, r1, r2⟩ := r
        exact ⟨d, dd, v, us, rfl, rfl, by rw [if_neg Bool.false_ne_true]; exact r1, ih us r2⟩
    exact this dd dvs r
  | m :: ms, ds, vs, dd, dvs, ⟨d, ds', v, vs', e1, e2, q, rest⟩, r => by
    subst e1 e2
    exact ⟨d, ds' ++ dd, v, vs' ++ dvs, rfl, rfl, q, argsR_app rest r⟩
def tFn (F : FnD) (dd : List D) (tas : TAD) : TD := fun n ρ Q => tas n ρ fun xs n1 => F n1 (xs ++ dd) Q
theorem fn_run {c : Ent} {σ : L2.St} {H : Hp} {Q : VK} {pu : Pu} {ρ : List Sl} {P : D → Nat → Prop} {dvs : List V} (ev : EnvR W c pu σ H ρ) (ht : tFn F dd tas pu.n ρ P) (hd : ∀ pu S, Reps W pu S dd dvs)
    (q : ∀ (pu' : Pu) d, P d pu'.n → ∀ v pu1 H1 H', Stp pu H pu1 H1 → RetR W ⟨pu1, hdn c σ ρ, H1, fr⟩ pu' d v H' → Q v H') : L2.tCall (spD W (ms1 ++ List.replicate dd.length false) fr F) dvs E0 (rdAM W c ms1 tas) σ H Q :=
  ⟨pu, ρ, _, ev, ht, fun pu1 xs hx vs H1 s r => ⟨pu1, hdn c σ ρ, xs ++ dd, P, (ev.step s).pok, (ev.step s).vw.th, argsR_app r (hd _ _), hx, fun pu' d hP v H' rr => q pu' d hP v pu1 H1 H' s rr⟩⟩
theorem pd_call (A : FnAt X.prog X.w X.K X.mg X.base W x k (ms1 ++ List.replicate dd.length false) false dd F) (hr : Room k X.A) (hg : Gl X x) (ha : PAM W X ms1 (e :: es) tas) (hdb : (x == ("__debug__" : Str)) = false := by decide) (he : starEach (e :: es) X.env = (false, eval e X.env) :: starEach es X.env := by rfl) (hpl : (backTo pos (starEach es X.env)).any (·.1) = false := by rfl) :
    PD W X (.Call (.Name x p) (e :: es) [] pos) (tFn F dd tas) := fun c => by
  obtain ⟨f, fd, ps, dvs, ds, hm, hk, G, hb, hv, hd⟩ := A.ex
  refine PE_imp (pe_call G hr hg hm hk hb hv pass0 (ha c) hdb he hpl) fun σ H Q ⟨pu, ρ, P, ev, ht, q⟩ => fn_run ev ht hd fun pu' d hP v pu1 H1 H' s rr => ?_
  unfold RetR at rr
  rw [if_neg Bool.false_ne_true] at rr
  obtain ⟨s', r'⟩ := rr
  exact q pu' d hP v H' (s.trans s') r'
theorem pf_call (A : FnAt X.prog X.w X.K X.mg X.base W x k (ms1 ++ List.replicate dd.length false) true dd F) (hr : Room k X.A) (hg : Gl X x) (ha : PAM W X ms1 (e :: es) tas) (hdb : (x == ("__debug__" : Str)) = false := by decide) (he : starEach (e :: es) X.env = (false, eval e X.env) :: starEach es X.env := by rfl) (hpl : (backTo pos (starEach es X.env)).any (·.1) = false := by rfl) :
    PFD W X (.Call (.Name x p) (e :: es) [] pos) (tFn F dd tas) := fun c => by
  obtain ⟨f, fd, ps, dvs, ds, hm, hk, G, hb, hv, hd⟩ := A.ex
  refine PE_imp (pe_call G hr hg hm hk hb hv pass0 (ha c) hdb he hpl) fun σ H Q ⟨pu, ρ, P, ev, ht, q⟩ => fn_run ev ht hd fun pu' d hP v pu1 H1 H' s rr => ?_
  unfold RetR at rr
  rw [if_pos rfl] at rr
  obtain ⟨p, rfl, s', n, nu, r'⟩ := rr
  exact q pu' d hP p H' (s.trans s') (s.none n) nu r'
end

/-! ### a def keeps its promise -/
section
variable {P : Program} {w : World} {K : PySem.W.Frag} {mg : Str → Option Value} {base : Heap}
/-- the slots at the entry -/
def startD (n : Nat) : List Bool → List D → List Sl
  | m :: ms, d :: ds => (if m = true then .pk d else .sh d) :: startD (n - 1) ms ds
  | _, _ => List.replicate n .un
/-- what a body does -/
def runD (n : Nat) (ms : List Bool) (fr : Bool) (t : TDS) : FnD := fun m ds Q => t { nx := fun m1 _ => if fr = true then False else Q .non m1, rt := Q } m (startD n ms ds)
theorem start_env {W : Wd} {pu : Pu} {h : Addr → Bool} {H : Hp} (w : Vw pu h H) (fr : Bool) : ∀ (ms : List Bool) (ds : List D) (vs : List V) (n : Nat), ArgsR W pu h H ms ds vs → vs.length ≤ n →
    (vs.map some ++ List.replicate (n - vs.length) none : L2.St).length = (startD n ms ds).length ∧ ∀ (i : Nat) (s : Sl), (startD n ms ds)[i]? = some s → (∀ d, s ≠ .ow d) ∧ SlOk W pu (fun _ => false) (hid h H) H (vs.map some ++ List.replicate (n - vs.length) none : L2.St)[i]? s
  | [], ds, vs, n, ⟨e1, e2⟩, _ => by
    subst e1 e2
    refine ⟨by simp [startD], fun i s hs => ?_⟩
    have hs : (List.replicate n Sl.un)[i]? = some s := by simpa [startD] using hs
    rw [List.getElem?_replicate] at hs
    split at hs
    · cases hs; exact ⟨fun _ z => (nomatch z), trivial⟩
    · cases hs
  | m :: ms, ds, vs, n, ⟨d, ds', v, vs', e1, e2, q, rest⟩, hl => by
    subst e1 e2
    have hl' : vs'.length ≤ n - 1 := by simp at hl; omega
    obtain ⟨h1, h2⟩ := start_env w fr ms ds' vs' (n - 1) rest hl'
    have en : n - (vs'.length + 1) = n - 1 - vs'.length := by omega
    refine ⟨?_, fun i s hs => ?_⟩
    · simp only [List.length_append, List.length_map, List.length_replicate, List.length_cons, startD] at h1 ⊢
      omega
    · cases i with
      | zero =>
        have hs : (if m = true then Sl.pk d else Sl.sh d) = s := by simpa [startD] using hs
        subst hs
        cases m with
        | true =>
          rw [if_pos rfl] at q ⊢
          refine ⟨fun _ z => (nomatch z), v, rfl, ?_⟩
          rcases q with q | ⟨_, a, e, nu, q⟩
          · exact .inl q
          · exact .inr ⟨a, e, nu, rfl, q⟩
        | false =>
          rw [if_neg Bool.false_ne_true] at q ⊢
          exact ⟨fun _ z => (nomatch z), v, rfl, q⟩
      | succ i =>
        have hs : (startD (n - 1) ms ds')[i]? = some s := by simpa [startD] using hs
        have := h2 i s hs
        simpa [en] using this
theorem env_start {W : Wd} {pu : Pu} {h : Addr → Bool} {H : Hp} (w : Vw pu h H) (fr : Bool) {ms : List Bool} {ds : List D} {vs : List V} {N : List Str} (r : ArgsR W pu h H ms ds vs) (hl : vs.length ≤ N.length) : EnvR W ⟨pu, h, H, fr⟩ pu (start N vs) H (startD N.length ms ds) := by
  obtain ⟨h1, h2⟩ := start_env w fr ms ds vs N.length r hl
  have ho : own (start N vs) (startD N.length ms ds) = fun _ => false := by
    funext a
    cases z : own (start N vs) (startD N.length ms ds) a with
    | false => rfl
    | true =>
      obtain ⟨i, d, q1, _⟩ := own_iff.mp z
      exact absurd rfl ((h2 i _ q1).1 d)
  have hv : hdn ⟨pu, h, H, fr⟩ (start N vs) (startD N.length ms ds) = h := by funext a; unfold hdn; rw [ho]; simp
  refine ⟨h1, Stp.refl w.ok, w.th, fun i s hs => ?_, fun i j di dj a q1 => absurd rfl ((h2 i _ q1).1 di), fun a z => ?_⟩
  · rw [hv, ho]; exact (h2 i s hs).2
  · rw [ho] at z; cases z
theorem argsR_len {W : Wd} {pu : Pu} {h : Addr → Bool} {H : Hp} : ∀ {ms : List Bool} {ds : List D} {vs : List V}, ArgsR W pu h H ms ds vs → vs.length = ms.length
  | [], _, _, ⟨_, e⟩ => by rw [e]; rfl
  | _ :: _, _, _, ⟨_, _, _, _, _, e2, _, rest⟩ => by rw [e2, List.length_cons, List.length_cons, argsR_len rest]
/-- THE RULE -/
theorem fn_ok {W : Wd} {x qual : Str} {params : Arguments} {body : List Stmt} {scope : Scope} {dvs : List V} {kws : List (Str × V)} {f : Addr} {fd : FuncData} {N ps : List Str} {k : Nat} {ms : List Bool} {fr : Bool} {t : TDS} (F : FunD K x qual params body scope dvs kws f fd) (S : FnScope N ps scope) (hp : ps.length = ms.length) (hN : ps.length ≤ N.length)
    (hb : ∀ (cdv : Value) (A : Around) (outer : List Env) (s : Shared) (H : Hp) (E : XK), Room k (cxOf CX0 P w K mg base N qual scope f cdv A outer s H E).nox.A → PSsD W (cxOf CX0 P w K mg base N qual scope f cdv A outer s H E).nox fr body t) :
    FnOk P w K mg base CX0 (k + 1) f fd ps (spD W ms fr (runD N.length ms fr t)) := by
  refine F.ok S (fun vs H Q E h => ?_) (fun cdv A outer s H vs Q E hr h => ?_)
  · obtain ⟨pu, hd, ds, P', _, _, r, _⟩ := h
    rw [argsR_len r, hp]
  · obtain ⟨pu, hd, ds, P', w1, w2, r, ht, q⟩ := h
    have hl : vs.length ≤ N.length := by rw [argsR_len r, ← hp]; exact hN
    have bd := hb cdv A outer s H E hr ⟨pu, hd, H, fr⟩ rfl
    refine ⟨rdS W ⟨pu, hd, H, fr⟩ t, bd.nox, pu, startD N.length ms ds, _, env_start ⟨w1, w2⟩ fr r hl, ht, fun pu' ρ' z σ' H' ev => ?_, fun pu' d hd' v H' rr => q pu' d hd' v H' rr, fun _ _ z => False.elim z, fun _ _ z => False.elim z⟩
    cases fr with
    | true => exact False.elim (iteT' (A := False) (B := P' .non pu'.n) z)
    | false =>
      refine q pu' .non (iteF' (A := False) (B := P' .non pu'.n) z) .non H' ?_
      unfold RetR
      rw [if_neg Bool.false_ne_true]
      exact ⟨ev.stp, by simp only [Rep]⟩
end
end DL
namespace DL
open PySem PySem.Spec L2

/-! ### lists at hand -/
section
variable {X : Cx}
theorem rd_lst {pins : List (Addr × Obj)} {s : Shared} {σ : L2.St} {H : Hp} {l : Addr} {xs : List V} (I : Inv X pins σ H s) (h : Rd H l (.lst xs)) : xs.length ≤ sizeLine ∧ ∃ (its : List Value) (n : Nat), Vals xs its ∧ xs.length = its.length ∧ s.heap.get? l = some { cls := .type "list", data := .seq its.toArray n } := by
  obtain ⟨z, its, n, r, e⟩ := Rd.ok h I.hok
  exact ⟨z, its, n, r, r.length, e⟩
def rCatR : R2 := fun x y H Q => ∃ l b xs zs, x = .ref l ∧ y = .ref b ∧ Rd H l (.lst xs) ∧ Rd H b (.lst zs) ∧ xs.length + zs.length ≤ sizeLine ∧ ∀ p, H p = none → Q (.ref p) (upd H p (.lst (xs ++ zs)))
theorem op_catR : OpR X (binaryOp .Add) rCatR := by
  intro pins s σ H x y v u Q I rx ry h
  obtain ⟨l, b, xs, zs, rfl, rfl, hH, hB, hz, q⟩ := h
  cases rx
  cases ry
  obtain ⟨z, its, n, r, hl, e⟩ := rd_lst I hH
  obtain ⟨z2, its2, n2, r2, hl2, e2⟩ := rd_lst I hB
  refine PySem.P.add_list e e2 ?_ (by rw [List.size_toArray, List.size_toArray]; omega)
  have ea : its.toArray ++ its2.toArray = (its ++ its2).toArray := by simp
  rw [ea]
  exact ⟨.ref _, _, I.lnew (t' := s.toks) (r.append r2) (by rw [List.length_append]; omega), rfl, q _ I.fresh⟩
theorem op_inDict (hu : X.A.units + 1 < cLine) : OpR X (compareOp .In) (fun y x H Q => ∃ a o, x = .ref a ∧ DGet H a y o ∧ Q (.bl o.isSome) H) := by
  intro pins s σ H y x v u Q I ry rx h
  obtain ⟨a, o, rfl, g, q⟩ := h
  cases rx
  exact d_in hu I g ry fun s' I' => ⟨.bl o.isSome, H, I', rfl, q⟩
theorem op_notInDict (hu : X.A.units + 1 < cLine) : OpR X (compareOp .NotIn) (fun y x H Q => ∃ a o, x = .ref a ∧ DGet H a y o ∧ Q (.bl (!o.isSome)) H) := by
  intro pins s σ H y x v u Q I ry rx h
  obtain ⟨a, o, rfl, g, q⟩ := h
  cases rx
  exact d_notIn hu I g ry fun s' I' => ⟨.bl (!o.isSome), H, I', rfl, q⟩
theorem ix_dict (hu : X.A.units + 1 < cLine) : IxR X (fun x y H Q => ∃ a v, x = .ref a ∧ DGet H a y (some v) ∧ Q v H) := by
  intro value slice pins s σ H x y v u Q I rx ry h hs
  obtain ⟨a, w, rfl, g, q⟩ := h
  cases rx
  have hT := dict_typeIs I g
  unfold PyProof.Rows.subscriptTail
  refine wpAny_bind ?_
  rw [getitemInPython_of_ne hT.not_modules]
  refine wpAny_bind (wpAny_specialOf hT PySem.F.slot_dict_getitem.lookup ?_)
  have fin : wpAny (model X.prog X.w) X.A (subscripted slice false (.ref a) u) (fun r s₃ => wpAny (model X.prog X.w) X.A (letTemporaryGo value (.ref a) r >>= fun _ => pure r) (EP X pins σ Q) X.xe s₃) X.xe s := by
    rw [hs]
    exact wpAny_operating (d_getItem hu I g ry fun w' s3 I3 rw' => wpAny_bind (wpAny_letTemporaryGo (wpAny_pure ⟨w, H, I3, rw', q⟩)))
  first
    | exact wpAny_pure (wpAny_bind fin)
    | exact wpAny_bind (wpAny_pure (wpAny_bind fin))
    | exact wpAny_bind fin
end

/-! ### plain data -/
mutual
def toPy : D → Option PyData
  | .non => some .none
  | .bl b => some (.bool b)
  | .int i => some (.int i)
  | .str x => some (.str x)
  | .lst xs => (toPys xs).map .list
  | .tup xs => (toPys xs).map .tuple
  | _ => none
def toPys : List D → Option (List PyData)
  | [] => some []
  | x :: xs => match toPy x, toPys xs with
    | some p, some ps => some (p :: ps)
    | _, _ => none
end
section
variable {W : Wd} {pu : Pu} {h : Addr → Bool} {H : Hp}
mutual
theorem dp_of : ∀ (d : D) (v : V) (p : PyData), toPy d = some p → Rep W pu (hid h H) d v → Dp W.K H v p
  | .non, v, p, e, r => by simp only [toPy] at e; cases e; simp only [Rep] at r; subst r; exact .non
  | .bl b, v, p, e, r => by simp only [toPy] at e; cases e; simp only [Rep] at r; subst r; exact .bl b
  | .int i, v, p, e, r => by simp only [toPy] at e; cases e; simp only [Rep] at r; subst r; exact .int i
  | .str x, v, p, e, r => by simp only [toPy] at e; cases e; simp only [Rep] at r; subst r; exact .str x
  | .lst xs, v, p, e, r => by
    simp only [toPy] at e
    obtain ⟨ps, e1, e2⟩ := Option.map_eq_some_iff.mp e
    subst e2
    simp only [Rep] at r
    obtain ⟨a, vs, rfl, q, _, r⟩ := r
    exact .lst (.inl (hid_rd q)) (dps_of xs vs ps e1 r)
  | .tup xs, v, p, e, r => by
    simp only [toPy] at e
    obtain ⟨ps, e1, e2⟩ := Option.map_eq_some_iff.mp e
    subst e2
    simp only [Rep] at r
    obtain ⟨a, vs, rfl, q, r⟩ := r
    refine .tup ?_ (dps_of xs vs ps e1 r)
    rcases q with ⟨q, _⟩ | q
    · exact .inl (hid_rd q)
    · exact .inr q
  | .dct _ _, _, _, e, _ => by simp only [toPy] at e; cases e
  | .obj _ _ _, _, _, e, _ => by simp only [toPy] at e; cases e
  | .purse, _, _, e, _ => by simp only [toPy] at e; cases e
  | .ty _, _, _, e, _ => by simp only [toPy] at e; cases e
  | .cl _, _, _, e, _ => by simp only [toPy] at e; cases e
  | .scr _, _, _, e, _ => by simp only [toPy] at e; cases e
theorem dps_of : ∀ (ds : List D) (vs : List V) (ps : List PyData), toPys ds = some ps → Reps W pu (hid h H) ds vs → DpAll W.K H vs ps
  | [], vs, ps, e, r => by simp only [toPys] at e; cases e; simp only [Reps] at r; subst r; exact .nil
  | d :: ds, vs, ps, e, r => by
    simp only [toPys] at e
    cases e1 : toPy d with
    | none => rw [e1] at e; simp at e
    | some p =>
      cases e2 : toPys ds with
      | none => rw [e1, e2] at e; simp at e
      | some qs =>
        rw [e1, e2] at e
        simp at e
        subst e
        simp only [Reps] at r
        obtain ⟨v, us, rfl, r1, r2⟩ := r
        exact .cons (dp_of d v p e1 r1) (dps_of ds us qs e2 r2)
end
theorem RepK.dp {d : D} {v : V} {p : PyData} (e : toPy d = some p) (r : RepK W pu h H d v) : Dp W.K H v p := by
  rcases r with r | ⟨a, rfl, _, r⟩
  · exact dp_of d v p e r
  · cases d with
    | lst ds =>
      obtain ⟨vs, q, r⟩ := r
      simp only [toPy] at e
      obtain ⟨ps, e1, e2⟩ := Option.map_eq_some_iff.mp e
      subst e2
      exact .lst (.inl (.inl q)) (dps_of ds vs ps e1 r)
    | dct ks ds => simp only [toPy] at e; cases e
    | obj _ _ _ => simp only [toPy] at e; cases e
    | _ => exact False.elim r
end

/-! ### arithmetic -/
section
variable {W : Wd} {X : Cx}
def intA (g : Int → Int → Int) : D → D → (D → Prop) → Prop
  | .int i, .int j, P => P (.int (g i j))
  | _, _, _ => False
def intC (C : Int → Int → Prop) (g : Int → Int → Int) : D → D → (D → Prop) → Prop
  | .int i, .int j, P => C i j ∧ P (.int (g i j))
  | _, _, _ => False
theorem rep_int {pu : Pu} {S : Hp} {i : Int} : Rep W pu S (.int i) (.int i) := by simp only [Rep]
theorem rep_str {pu : Pu} {S : Hp} {i : Str} : Rep W pu S (.str i) (.str i) := by simp only [Rep]
theorem k_intC {C : Int → Int → Prop} {g : Int → Int → Int} : Op2 W (intC C g) (rI C fun i j => .int (g i j)) := fun pu h H x y v u P Q w rx ry hf q => by
  cases x with
  | int i =>
    cases y with
    | int j => exact ⟨i, j, rx.int, ry.int, hf.1, q _ hf.2 _ H w.rfl' rep_int⟩
    | _ => exact False.elim hf
  | _ => exact False.elim hf
theorem k_intA {g : Int → Int → Int} : Op2 W (intA g) (rI0 fun i j => .int (g i j)) := fun pu h H x y v u P Q w rx ry hf q => by
  cases x with
  | int i =>
    cases y with
    | int j => exact ⟨i, j, rx.int, ry.int, q _ hf _ H w.rfl' rep_int⟩
    | _ => exact False.elim hf
  | _ => exact False.elim hf
def subD := intA fun i j => i - j
def mulD := intC CMul fun i j => i * j
def divD := intC CDiv fun i j => i / j
def modD := intC (fun _ j => 0 < j) fun i j => i % j
def powD := intC CPow fun i j => i ^ j.toNat
/-- a + b -/
def addD : D → D → (D → Prop) → Prop
  | .int i, .int j, P => P (.int (i + j))
  | .str a, .str b, P => a.length + b.length ≤ sizeLine ∧ P (.str (a ++ b))
  | .lst a, .lst b, P => a.length + b.length ≤ sizeLine ∧ P (.lst (a ++ b))
  | .tup a, .tup b, P => a.length + b.length ≤ sizeLine ∧ P (.tup (a ++ b))
  | _, _, _ => False
/-- lists alone -/
def catD : D → D → (D → Prop) → Prop
  | .lst a, .lst b, P => a.length + b.length ≤ sizeLine ∧ P (.lst (a ++ b))
  | _, _, _ => False
def rAddD (K : PySem.W.Frag) : R2 := fun x y H Q => rI0 (fun i j => .int (i + j)) x y H Q ∨ (∃ i j, x = .str i ∧ y = .str j ∧ i.length + j.length ≤ sizeLine ∧ Q (.str (i ++ j)) H) ∨ rCatR x y H Q ∨ rCatA K x y H Q
theorem op_addD : OpR X (binaryOp .Add) (rAddD X.K) := op_add.or (op_add_str.or (op_catR.or op_catA))
theorem RepK.tupR {pu : Pu} {h : Addr → Bool} {H : Hp} {ds : List D} {v : V} (r : RepK W pu h H (.tup ds) v) : Rep W pu (hid h H) (.tup ds) v := by
  rcases r with r | ⟨a, e, n, r⟩
  · exact r
  · exact False.elim r
theorem k_catF : Op2F W catD rCatR := fun pu h H x y v u P Q w rx ry hf q => by
  cases x with
  | lst ds =>
    cases y with
    | lst es =>
      obtain ⟨a, vs, rfl, q1, r1⟩ := rx.lst
      obtain ⟨b, us, rfl, q2, r2⟩ := ry.lst
      exact ⟨a, b, vs, us, rfl, rfl, q1, q2, by rw [r1.length, r2.length]; exact hf.1, PostF.new w (r1.append r2) hf.2 q⟩
    | _ => exact False.elim hf
  | _ => exact False.elim hf
theorem k_addD : Op2 W addD (rAddD W.K) := fun pu h H x y v u P Q w rx ry hf q => by
  cases x with
  | int i =>
    cases y with
    | int j => exact .inl ⟨i, j, rx.int, ry.int, q _ hf _ H w.rfl' rep_int⟩
    | _ => exact False.elim hf
  | str a =>
    cases y with
    | str b => exact .inr (.inl ⟨a, b, rx.str, ry.str, hf.1, q _ hf.2 _ H w.rfl' rep_str⟩)
    | _ => exact False.elim hf
  | lst ds =>
    cases y with
    | lst es => exact .inr (.inr (.inl (k_catF pu h H _ _ v u P Q w rx ry hf (PostF.post w q))))
    | _ => exact False.elim hf
  | tup ds =>
    cases y with
    | tup es =>
      refine .inr (.inr (.inr ?_))
      obtain ⟨a, vs, rfl, q1, r1⟩ := rx.tup
      obtain ⟨b, us, rfl, q2, r2⟩ := ry.tup
      refine ⟨a, b, vs, us, rfl, rfl, q1, q2, by rw [r1.length, r2.length]; exact hf.1, fun e => ?_, fun _ e => ?_, fun _ _ => Post.tup w (r1.append r2) hf.2 q⟩
      · subst e
        have : ds = [] := List.eq_nil_of_length_eq_zero (by rw [← r1.length]; rfl)
        subst this
        exact q _ hf.2 _ H w.rfl' ry.tupR
      · subst e
        have : es = [] := List.eq_nil_of_length_eq_zero (by rw [← r2.length]; rfl)
        subst this
        refine q _ hf.2 _ H w.rfl' ?_
        rw [List.append_nil]; exact rx.tupR
    | _ => exact False.elim hf
  | _ => exact False.elim hf
def negD : D → (D → Prop) → Prop
  | .int i, P => P (.int (-i))
  | _, _ => False
def tUnD (f : D → (D → Prop) → Prop) (ta : TD) : TD := fun n ρ Q => ta n ρ fun x n1 => f x fun d => Q d n1
theorem pd_neg {a : Expr} {ta : TD} {pos : Pos} (ha : PKD W X a ta) : PD W X (.UnaryOp .USub a pos) (tUnD negD ta) := fun c => PE_imp (pe_un un_neg (ha c)) fun σ H Q ⟨pu, ρ, P, ev, ht, q⟩ =>
  ⟨pu, ρ, _, ev, ht, fun pu1 x hx v H1 s r => by
    cases x with
    | int i => exact ⟨i, r.int, q pu1 _ hx _ H1 s rep_int⟩
    | _ => exact False.elim hx⟩

/-! ### comparisons -/
def cmpA (g : Int → Int → Bool) : D → D → (D → Prop) → Prop
  | .int i, .int j, P => P (.bl (g i j))
  | _, _, _ => False
theorem k_cmpA {g : Int → Int → Bool} : Op2 W (cmpA g) (rI0 fun i j => .bl (g i j)) := fun pu h H x y v u P Q w rx ry hf q => by
  cases x with
  | int i =>
    cases y with
    | int j => exact ⟨i, j, rx.int, ry.int, q _ hf _ H w.rfl' rep_bl⟩
    | _ => exact False.elim hf
  | _ => exact False.elim hf
def leD := cmpA fun i j => decide (i ≤ j)
def gtD := cmpA fun i j => decide (j < i)
def geD := cmpA fun i j => decide (j ≤ i)
def ltD : D → D → (D → Prop) → Prop
  | .int i, .int j, P => P (.bl (decide (i < j)))
  | .str i, .str j, P => P (.bl (decide (i.cps.toList < j.cps.toList)))
  | _, _, _ => False
def rLtD : R2 := fun x y H Q => rI0 (fun i j => .bl (decide (i < j))) x y H Q ∨ ∃ i j, x = .str i ∧ y = .str j ∧ Q (.bl (decide (i.cps.toList < j.cps.toList))) H
theorem op_ltD : OpR X (compareOp .Lt) rLtD := op_lt.or op_lt_str
theorem k_ltD : Op2 W ltD rLtD := fun pu h H x y v u P Q w rx ry hf q => by
  cases x with
  | int i =>
    cases y with
    | int j => exact .inl ⟨i, j, rx.int, ry.int, q _ hf _ H w.rfl' rep_bl⟩
    | _ => exact False.elim hf
  | str i =>
    cases y with
    | str j => exact .inr ⟨i, j, rx.str, ry.str, q _ hf _ H w.rfl' rep_bl⟩
    | _ => exact False.elim hf
  | _ => exact False.elim hf
def eqA (x y : D) (Q : Bool → Prop) : Prop := match toPy x, toPy y with
  | some p, some q => SeqAt.shaped p = true ∧ SeqAt.shaped q = true ∧ Q (PyData.eqv p q)
  | _, _ => False
def eqD (x y : D) (P : D → Prop) : Prop := eqA x y fun b => P (.bl b)
def neD (x y : D) (P : D → Prop) : Prop := eqA x y fun b => P (.bl (!b))
theorem k_eqD : Op2 W eqD (rEqD W.K) := fun pu h H x y v u P Q w rx ry hf q => by
  unfold eqD eqA at hf
  cases e1 : toPy x with
  | none => rw [e1] at hf; exact False.elim hf
  | some p =>
    cases e2 : toPy y with
    | none => rw [e1, e2] at hf; exact False.elim hf
    | some r =>
      rw [e1, e2] at hf
      exact ⟨p, r, rx.dp e1, ry.dp e2, hf.1, hf.2.1, q _ hf.2.2 _ H w.rfl' rep_bl⟩
theorem k_neD : Op2 W neD (rNeD W.K) := fun pu h H x y v u P Q w rx ry hf q => by
  unfold neD eqA at hf
  cases e1 : toPy x with
  | none => rw [e1] at hf; exact False.elim hf
  | some p =>
    cases e2 : toPy y with
    | none => rw [e1, e2] at hf; exact False.elim hf
    | some r =>
      rw [e1, e2] at hf
      exact ⟨p, r, rx.dp e1, ry.dp e2, hf.1, hf.2.1, q _ hf.2.2 _ H w.rfl' rep_bl⟩
/-- is None -/
def isNonB : D → Bool
  | .non => true
  | _ => false
def isND (x y : D) (P : D → Prop) : Prop := match y with
  | .non => (match x with
    | .purse => False
    | .cl _ => False
    | .scr _ => False
    | _ => P (.bl (isNonB x)))
  | _ => False
def notND (x y : D) (P : D → Prop) : Prop := match y with
  | .non => (match x with
    | .purse => False
    | .cl _ => False
    | .scr _ => False
    | _ => P (.bl (!isNonB x)))
  | _ => False
theorem isNon_dec {pu : Pu} {h : Addr → Bool} {H : Hp} {x : D} {v : V} (r : RepK W pu h H x v) : decide (v = .non) = isNonB x := by
  rcases r with r | ⟨a, rfl, _, r⟩
  · cases x with
    | non => simp only [Rep] at r; subst r; rfl
    | bl b => simp only [Rep] at r; subst r; rfl
    | int b => simp only [Rep] at r; subst r; rfl
    | str b => simp only [Rep] at r; subst r; rfl
    | lst b => simp only [Rep] at r; obtain ⟨_, _, rfl, _⟩ := r; rfl
    | tup b => simp only [Rep] at r; obtain ⟨_, _, rfl, _⟩ := r; rfl
    | dct _ _ => simp only [Rep] at r; obtain ⟨_, _, rfl, _⟩ := r; rfl
    | obj _ _ _ => simp only [Rep] at r; obtain ⟨_, _, _, _, rfl, _⟩ := r; rfl
    | purse => simp only [Rep] at r; obtain ⟨_, rfl, _⟩ := r; rfl
    | ty n => simp only [Rep] at r; subst r; rfl
    | cl n => simp only [Rep] at r; obtain ⟨_, _, rfl⟩ := r; rfl
    | scr n => simp only [Rep] at r; obtain ⟨_, rfl, _⟩ := r; rfl
  · cases x with
    | lst _ => rfl
    | dct _ _ => rfl
    | obj _ _ _ => rfl
    | _ => exact False.elim r
theorem k_isND : Op2 W isND (fun x y H Q => y = .non ∧ Q (.bl (decide (x = .non))) H) := fun pu h H x y v u P Q w rx ry hf q => by
  cases y with
  | non =>
    refine ⟨ry.non, ?_⟩
    rw [isNon_dec rx]
    refine q _ ?_ _ H w.rfl' rep_bl
    cases x <;> first | exact hf | exact False.elim hf
  | _ => exact False.elim hf
theorem k_notND : Op2 W notND (fun x y H Q => y = .non ∧ Q (.bl (!decide (x = .non))) H) := fun pu h H x y v u P Q w rx ry hf q => by
  cases y with
  | non =>
    refine ⟨ry.non, ?_⟩
    rw [isNon_dec rx]
    refine q _ ?_ _ H w.rfl' rep_bl
    cases x <;> first | exact hf | exact False.elim hf
  | _ => exact False.elim hf

/-! ### in -/
def flatD : D → Option V
  | .non => some .non
  | .bl b => some (.bl b)
  | .int i => some (.int i)
  | .str x => some (.str x)
  | _ => none
def flatDs : List D → Option (List V)
  | [] => some []
  | d :: ds => match flatD d, flatDs ds with
    | some v, some vs => some (v :: vs)
    | _, _ => none
theorem flat_rep {pu : Pu} {S : Hp} {d : D} {v u : V} (e : flatD d = some u) (r : Rep W pu S d v) : v = u ∧ flatV u = true := by
  cases d <;> simp [flatD] at e <;> subst e <;> simp only [Rep] at r <;> subst r <;> exact ⟨rfl, rfl⟩
theorem flats_rep {pu : Pu} {S : Hp} : ∀ {ds : List D} {vs us : List V}, flatDs ds = some us → Reps W pu S ds vs → vs = us ∧ us.all flatV = true
  | [], vs, us, e, r => by simp [flatDs] at e; simp only [Reps] at r; subst e; exact ⟨r, rfl⟩
  | d :: ds, vs, us, e, r => by
    simp only [flatDs] at e
    cases e1 : flatD d with
    | none => rw [e1] at e; simp at e
    | some v0 =>
      cases e2 : flatDs ds with
      | none => rw [e1, e2] at e; simp at e
      | some ws =>
        rw [e1, e2] at e; simp at e; subst e
        simp only [Reps] at r
        obtain ⟨v, vs', rfl, r1, r2⟩ := r
        obtain ⟨h1, h2⟩ := flat_rep e1 r1
        obtain ⟨h3, h4⟩ := flats_rep e2 r2
        subst h1 h3
        exact ⟨rfl, by simp [h2, h4]⟩
def keyD : D → Option DKey
  | .int i => some (.inl (.inl i))
  | .str x => some (.inl (.inr x))
  | .tup ds => (flatKs ds).map Sum.inr
  | _ => none
where flatKs : List D → Option (List Key)
  | [] => some []
  | .int i :: ds => (flatKs ds).map (Sum.inl i :: ·)
  | .str x :: ds => (flatKs ds).map (Sum.inr x :: ·)
  | _ :: _ => none
/-- the keys are of one kind, as the asked one -/
def sameKind (k : DKey) (ks : List DKey) : Bool := match k with
  | .inl _ => ks.all fun k => k.isLeft
  | .inr _ => ks.all fun k => k.isRight && !ks.isEmpty
def dctGet (ks : List DKey) (ds : List D) (k : DKey) : Option D := match ks, ds with
  | k' :: ks, d :: ds => if k' = k then some d else dctGet ks ds k
  | _, _ => none
def inA (x y : D) (Q : Bool → Prop) : Prop := match y with
  | .lst ds => (match toPy x, toPys ds with
    | some p, some ps => SeqAt.shaped p = true ∧ SeqAt.shaped (.list ps) = true ∧ Q (ps.any fun z => PyData.eqv z p)
    | _, _ => False)
  | .tup ds => (match flatD x, flatDs ds with
    | some v, some us => Q (inV v us)
    | _, _ => False)
  | .str s => (match x with
    | .str z => Q (!(Builtin.Str.occurrences s z 0 s.length 1).isEmpty)
    | _ => False)
  | _ => False
def inD (x y : D) (P : D → Prop) : Prop := inA x y fun b => P (.bl b)
def ninD (x y : D) (P : D → Prop) : Prop := inA x y fun b => P (.bl (!b))
def rInDD (K : PySem.W.Frag) : R2 := fun x y H Q => rInD K x y H Q ∨ rIn K false x y H Q ∨ ∃ i j, x = .str i ∧ y = .str j ∧ Q (.bl (!(Builtin.Str.occurrences j i 0 j.length 1).isEmpty)) H
def rNinDD (K : PySem.W.Frag) : R2 := fun x y H Q => rNotInD K x y H Q ∨ rIn K true x y H Q ∨ ∃ i j, x = .str i ∧ y = .str j ∧ Q (.bl (!(!(Builtin.Str.occurrences j i 0 j.length 1).isEmpty))) H
theorem op_inDD (hu : X.A.units + 65 < cLine) : OpR X (compareOp .In) (rInDD X.K) := (op_inD hu).or (op_in_seq.or op_in_str)
theorem op_ninDD (hu : X.A.units + 65 < cLine) : OpR X (compareOp .NotIn) (rNinDD X.K) := (op_notInD hu).or (op_notIn_seq.or op_notin_str)
theorem k_inDD : Op2 W inD (rInDD W.K) := fun pu h H x y v u P Q w rx ry hf q => by
  unfold inD inA at hf
  cases y with
  | lst ds =>
    simp only at hf
    cases e1 : toPy x with
    | none => rw [e1] at hf; exact False.elim hf
    | some p =>
      cases e2 : toPys ds with
      | none => rw [e1, e2] at hf; exact False.elim hf
      | some ps =>
        rw [e1, e2] at hf
        exact .inl ⟨p, ps, rx.dp e1, ry.dp (by simp only [toPy, e2]; rfl), hf.1, hf.2.1, q _ hf.2.2 _ H w.rfl' rep_bl⟩
  | tup ds =>
    simp only at hf
    cases e1 : flatD x with
    | none => rw [e1] at hf; exact False.elim hf
    | some z =>
      cases e2 : flatDs ds with
      | none => rw [e1, e2] at hf; exact False.elim hf
      | some us =>
        rw [e1, e2] at hf
        obtain ⟨a, vs, rfl, q1, r1⟩ := ry.tup
        obtain ⟨h3, h4⟩ := flats_rep e2 r1
        have hx : v = z ∧ flatV z = true := by
          rcases rx with rx | ⟨b, rfl, _, rx⟩
          · exact flat_rep e1 rx
          · cases x with
            | lst _ => simp [flatD] at e1
            | dct _ _ => simp [flatD] at e1
            | obj _ _ _ => simp [flatD] at e1
            | _ => exact False.elim rx
        obtain ⟨h1, h2⟩ := hx
        subst h1 h3
        exact .inr (.inl ⟨a, vs, rfl, .inr q1, h2, h4, q _ hf _ H w.rfl' rep_bl⟩)
  | str s =>
    simp only at hf
    cases x with
    | str z => exact .inr (.inr ⟨z, s, rx.str, ry.str, q _ hf _ H w.rfl' rep_bl⟩)
    | _ => exact False.elim hf
  | _ => exact False.elim hf
theorem k_ninDD : Op2 W ninD (rNinDD W.K) := fun pu h H x y v u P Q w rx ry hf q => by
  unfold ninD inA at hf
  cases y with
  | lst ds =>
    simp only at hf
    cases e1 : toPy x with
    | none => rw [e1] at hf; exact False.elim hf
    | some p =>
      cases e2 : toPys ds with
      | none => rw [e1, e2] at hf; exact False.elim hf
      | some ps =>
        rw [e1, e2] at hf
        exact .inl ⟨p, ps, rx.dp e1, ry.dp (by simp only [toPy, e2]; rfl), hf.1, hf.2.1, q _ hf.2.2 _ H w.rfl' rep_bl⟩
  | tup ds =>
    simp only at hf
    cases e1 : flatD x with
    | none => rw [e1] at hf; exact False.elim hf
    | some z =>
      cases e2 : flatDs ds with
      | none => rw [e1, e2] at hf; exact False.elim hf
      | some us =>
        rw [e1, e2] at hf
        obtain ⟨a, vs, rfl, q1, r1⟩ := ry.tup
        obtain ⟨h3, h4⟩ := flats_rep e2 r1
        have hx : v = z ∧ flatV z = true := by
          rcases rx with rx | ⟨b, rfl, _, rx⟩
          · exact flat_rep e1 rx
          · cases x with
            | lst _ => simp [flatD] at e1
            | dct _ _ => simp [flatD] at e1
            | obj _ _ _ => simp [flatD] at e1
            | _ => exact False.elim rx
        obtain ⟨h1, h2⟩ := hx
        subst h1 h3
        exact .inr (.inl ⟨a, vs, rfl, .inr q1, h2, h4, q _ hf _ H w.rfl' rep_bl⟩)
  | str s =>
    simp only at hf
    cases x with
    | str z => exact .inr (.inr ⟨z, s, rx.str, ry.str, q _ hf _ H w.rfl' rep_bl⟩)
    | _ => exact False.elim hf
  | _ => exact False.elim hf

/-! ### subscripts -/
def ixD : D → D → (D → Prop) → Prop
  | .lst ds, .int i, P => optD (atI ds i) P
  | .tup ds, .int i, P => optD (atI ds i) P
  | .str s, .int i, P => s.length ≤ sizeLine ∧ (match atI s.cps.toList i with
    | some c => P (.str ⟨#[c]⟩)
    | none => False)
  | _, _, _ => False
theorem Reps.atI {pu : Pu} {S : Hp} {ds : List D} {vs : List V} {i : Int} {d : D} (r : Reps W pu S ds vs) (e : L2.atI ds i = some d) : ∃ v, L2.atI vs i = some v ∧ Rep W pu S d v := by
  unfold L2.atI at e ⊢
  rw [r.length]
  cases hj : ixN ds.length i with
  | none => rw [hj] at e; cases e
  | some j =>
    rw [hj] at e
    obtain ⟨v, q1, q2⟩ := r.get (show ds[j]? = some d from e)
    exact ⟨v, q1, q2⟩
theorem k_ixD : Op2 W ixD (rIx W.K) := fun pu h H x y v u P Q w rx ry hf q => by
  cases x with
  | lst ds =>
    cases y with
    | int i =>
      obtain ⟨a, vs, rfl, q1, r1⟩ := rx.lst
      cases e : L2.atI ds i with
      | none => simp only [ixD, e] at hf; exact False.elim hf
      | some d =>
        simp only [ixD, e] at hf
        obtain ⟨z, e2, r2⟩ := r1.atI e
        exact .inl ⟨a, vs, i, z, rfl, ry.int, .inl q1, e2, q _ hf _ H w.rfl' r2⟩
    | _ => exact False.elim hf
  | tup ds =>
    cases y with
    | int i =>
      obtain ⟨a, vs, rfl, q1, r1⟩ := rx.tup
      cases e : L2.atI ds i with
      | none => simp only [ixD, e] at hf; exact False.elim hf
      | some d =>
        simp only [ixD, e] at hf
        obtain ⟨z, e2, r2⟩ := r1.atI e
        exact .inr (.inl ⟨a, vs, i, z, rfl, ry.int, q1, e2, q _ hf _ H w.rfl' r2⟩)
    | _ => exact False.elim hf
  | str s =>
    cases y with
    | int i =>
      cases e : L2.atI s.cps.toList i with
      | none => simp only [ixD, e] at hf; exact False.elim hf.2
      | some c =>
        simp only [ixD, e] at hf
        exact .inr (.inr ⟨s, i, c, rx.str, ry.int, hf.1, e, q _ hf.2 _ H w.rfl' rep_str⟩)
    | _ => exact False.elim hf
  | _ => exact False.elim hf
/-- slices without a step -/
def cutD (xs : List D) (lo hi : Option Int) : List D := (xs.drop (HT.sIx xs.length 0 lo)).take (HT.sIx xs.length xs.length hi - HT.sIx xs.length 0 lo)
theorem Reps.cut {pu : Pu} {S : Hp} {ds : List D} {vs : List V} {lo hi : Option Int} (r : Reps W pu S ds vs) : Reps W pu S (cutD ds lo hi) (cutV vs lo hi) := by
  unfold cutD cutV
  rw [r.length]
  exact (r.drop _).take _
def slLD : D → Option Int → Option Int → (D → Prop) → Prop
  | .lst ds, l, u, P => P (.lst (cutD ds l u))
  | .scr ns, l, u, P => P (.lst (cutD (ns.map D.int) l u))
  | _, _, _, _ => False
def slD : D → Option Int → Option Int → (D → Prop) → Prop
  | .lst ds, l, u, P => P (.lst (cutD ds l u))
  | .scr ns, l, u, P => P (.lst (cutD (ns.map D.int) l u))
  | .tup ds, l, u, P => P (.tup (cutD ds l u))
  | .str s, l, u, P => s.length ≤ sizeLine ∧ P (.str (cutS s l u))
  | _, _, _, _ => False
def rSlD (K : PySem.W.Frag) : V → Option Int → Option Int → Hp → VK → Prop := fun x lo hi H Q => rSlL K x lo hi H Q ∨ rSlA K x lo hi H Q ∨ rSlS x lo hi H Q
theorem op_slD : SlR X (rSlD X.K) := sl_list.or (sl_tupA.or sl_str)
theorem reps_intsA {pu : Pu} {S : Hp} : ∀ ns : List Int, Reps W pu S (ns.map D.int) (ns.map V.int)
  | [] => Reps.nil
  | n :: ns => Reps.cons rep_int (reps_intsA ns)
theorem k_slF : SlF W slLD (rSlL W.K) := fun pu h H x v l u P Q w rx hf q => by
  cases x with
  | lst ds =>
    obtain ⟨a, vs, rfl, q1, r1⟩ := rx.lst
    exact ⟨a, vs, rfl, .inl q1, PostF.new w r1.cut hf q⟩
  | scr ns =>
    obtain ⟨a, rfl, q1⟩ := rx.scr
    have r1 : Reps W pu (hid h H) (ns.map D.int) (ns.map V.int) := reps_intsA ns
    exact ⟨a, _, rfl, q1, PostF.new w r1.cut hf q⟩
  | _ => exact False.elim hf
theorem k_slD : SlD W slD (rSlD W.K) := fun pu h H x v l u P Q w rx hf q => by
  cases x with
  | lst ds => exact .inl (k_slF pu h H _ v l u P Q w rx hf (PostF.post w q))
  | scr ns => exact .inl (k_slF pu h H _ v l u P Q w rx hf (PostF.post w q))
  | tup ds =>
    refine .inr (.inl ?_)
    obtain ⟨a, vs, rfl, q1, r1⟩ := rx.tup
    refine ⟨a, vs, rfl, q1, fun ⟨e1, e2⟩ => ?_, fun _ => Post.tup w r1.cut hf q⟩
    refine q _ hf _ H w.rfl' ?_
    have : cutD ds l u = ds := by
      unfold cutD
      rw [← r1.length, e1, e2]
      simp [r1.length]
    rw [this]; exact rx.tupR
  | str s => exact .inr (.inr ⟨s, rx.str, hf.1, q _ hf.2 _ H w.rfl' rep_str⟩)
  | _ => exact False.elim hf
end
end DL
namespace DL
open PySem PySem.Spec L2

/-! ### names of the module and of the built-ins -/
section
variable {W : Wd} {X : Cx} {x : Str} {pos : Pos}
theorem pd_ty {n : String} (hg : Gl X x) (hm : X.mg x = none) (hv : bootBuiltins x = some (.type n)) (hn : x ≠ "__name__" := by decide) (hd : (x == ("__debug__" : Str)) = false := by decide) : PD W X (.Name x pos) (tCD (.ty n)) :=
  pd_const (pe_bltn (v := .ty n) hg hm hv rfl hn hd) fun _ _ => by simp only [Rep]
theorem pd_cl {c : Str} {C : Addr} (hg : Gl X x) (hm : X.mg x = some (.ref C)) (hC : W.cls c = some C) (hd : (x == ("__debug__" : Str)) = false := by decide) : PD W X (.Name x pos) (tCD (.cl c)) :=
  pd_const (pe_glob (v := .ref C) hg hm rfl hd) fun _ _ => by simp only [Rep]; exact ⟨C, hC, rfl⟩
theorem pd_gstr {z : Str} {t : Tok} (hg : Gl X x) (hm : X.mg x = some (.str z t)) (hd : (x == ("__debug__" : Str)) = false := by decide) : PD W X (.Name x pos) (tCD (.str z)) :=
  pd_const (pe_glob (v := .str z) hg hm ⟨t, rfl⟩ hd) fun _ _ => by simp only [Rep]
theorem pd_gint {z : Int} {t : Tok} (hg : Gl X x) (hm : X.mg x = some (.int z t)) (hd : (x == ("__debug__" : Str)) = false := by decide) : PD W X (.Name x pos) (tCD (.int z)) :=
  pd_const (pe_glob (v := .int z) hg hm ⟨t, rfl⟩ hd) fun _ _ => by simp only [Rep]
end

/-! ### isinstance -/
def isB (t n : String) : Bool := t == n || (t == "bool" && n == "int")
def tyN : D → Option String
  | .non => some "NoneType"
  | .bl _ => some "bool"
  | .int _ => some "int"
  | .str _ => some "str"
  | .lst _ => some "list"
  | .tup _ => some "tuple"
  | .dct _ _ => some "dict"
  | _ => none
abbrev sevenT : List String := ["NoneType", "bool", "int", "str", "list", "tuple", "dict"]
abbrev sixT : List String := ["bool", "int", "str", "list", "tuple", "dict"]
/-- what of the text an own class must have -/
structure ClsOk (K : PySem.W.Frag) (C : Addr) : Prop where
  cl : Cls K C
  ha : PySem.W.findIn K (.ref C) "__class__" = some (some (.builtin "object.__class__"))
  hn : PySem.W.specialIn K (.builtin "object.__class__") "__get__" = some (some (.builtin "getset_descriptor.__get__"))
  htk : PySem.W.takesIn K (.builtin "object.__class__") = some true
  hm : PySem.W.mroIn K C (.type "object") = some true
  nb : ∀ n ∈ sevenT, PySem.W.kitOne K (.type n) (.ref C) = some false
  bn : ∀ n ∈ sixT, PySem.W.kitOne K (.ref C) (.type n) = some false
structure WOk (W : Wd) : Prop where
  ok : ∀ c C, W.cls c = some C → ClsOk W.K C
  ne : ∀ c c' C C', W.cls c = some C → W.cls c' = some C' → c ≠ c' → PySem.W.kitOne W.K (.ref C) (.ref C') = some false
def isiA (x T : D) : Option Bool := match T with
  | .ty n => if sixT.contains n then (match x with
    | .obj _ _ _ => some false
    | _ => (tyN x).map fun t => isB t n) else none
  | .cl c => (match x with
    | .obj c' _ _ => some (decide (c' = c))
    | _ => (tyN x).map fun _ => false)
  | _ => none
def isiAs (x : D) : List D → Option Bool
  | [] => some false
  | T :: Ts => match isiA x T, isiAs x Ts with
    | some b, some r => some (b || r)
    | _, _ => none
def optB (o : Option Bool) (P : D → Prop) : Prop := match o with
  | some b => P (.bl b)
  | none => False
def isinD (xs : List D) (P : D → Prop) : Prop := match xs with
  | [x, .tup (T :: Ts)] => optB (isiAs x (T :: Ts)) P
  | [x, T] => optB (isiA x T) P
  | _ => False
/-- a value's type, dicts that are walked too -/
def TyY (K : PySem.W.Frag) (H : Hp) (x : V) (t : Value) : Prop := TyX K H x t ∨ ∃ a ob kvs, x = .ref a ∧ H a = some (.frz ob (.dT kvs)) ∧ t = .type "dict"
def rIsin (K : PySem.W.Frag) : List V → Hp → VK → Prop := fun xs H Q => (∃ (x c : V) (t u : Value) (b : Bool), xs = [x, c] ∧ ClsV c u ∧ TyY K H x t ∧ PySem.W.kitOne K t u = some b ∧ Q (.bl b) H) ∨
  ∃ (x : V) (tp : Addr) (cs : List V) (t : Value) (us : List Value) (b : Bool), xs = [x, .ref tp] ∧ SqT K H tp cs ∧ Paired ClsV cs us ∧ TyY K H x t ∧ PySem.W.kitAny K t us = some b ∧ Q (.bl b) H
section
variable {W : Wd} {X : Cx} {pu : Pu} {h : Addr → Bool} {H : Hp}
theorem kit_ofY {pins : List (Addr × Obj)} {σ : L2.St} {s : Shared} {x : V} {u t : Value} (I : Inv X pins σ H s) (rx : RelV x u) (ty : TyY X.K H x t) : ∃ P : Heap → Prop, PySem.W.KitX X.K u t P ∧ P s.heap ∧ u ≠ .builtin "__main__.__loader__#opaque" := by
  rcases ty with ty | ⟨a, ob, kvs, rfl, ea, rfl⟩
  · exact kit_of I rx ty
  · cases (show u = Value.ref a from rx)
    obtain ⟨_, _, _, xs, _, o, es, ep, h1, h2, _⟩ := (show ObjOk X.prog X.w H s.heap a (.frz ob (.dT kvs)) from I.hok a _ ea)
    exact ⟨_, PySem.W.kitx_dict, ⟨o, h1, h2.1⟩, fun z => nomatch z⟩
theorem op_isin : CallR X (.builtin "isinstance") (rIsin X.K) := by
  intro pins s σ H xs us Q I r h
  rcases h with ⟨x, c, t, u, b, rfl, k, ty, e, q⟩ | ⟨x, tp, cs, t, ws, b, rfl, hT, k, ty, e, q⟩
  · obtain ⟨u1, u2, rfl, r1, r2⟩ := vals2 r
    have e2 := k.eq r2
    subst e2
    obtain ⟨P, Z, p, hx⟩ := kit_ofY I r1 ty
    exact PySem.W.kia_one Z I.kIn p e hx fun tk => ⟨.bl b, H, I.tok tk, rfl, q⟩
  · obtain ⟨u1, u2, rfl, r1, r2⟩ := vals2 r
    cases (show u2 = Value.ref tp from r2)
    obtain ⟨P, Z, p, hx⟩ := kit_ofY I r1 ty
    obtain ⟨its, rv, ⟨o, h1, h2, n, h3⟩, _⟩ := I.tuple hT
    have e3 := ClsV.all k rv
    subst e3
    obtain ⟨oc, od, dt, sl⟩ := o
    simp only at h2 h3
    subst h2 h3
    exact PySem.W.kia_tup Z I.kIn p h1 e hx fun tk => ⟨.bl b, H, I.tok tk, rfl, q⟩
theorem kitB_ok : ∀ t ∈ sevenT, ∀ n ∈ sixT, kitB t n = some (isB t n) := by decide +kernel
/-- a value's type -/
theorem ty_of (hW : WOk W) {x : D} {v : V} (r : RepK W pu h H x v) (hx : (∃ t, tyN x = some t) ∨ ∃ c ns ds, x = .obj c ns ds) :
    ∃ t, TyY W.K H v t ∧ ((∃ n, tyN x = some n ∧ n ∈ sevenT ∧ t = .type n) ∨ ∃ c ns ds C, x = .obj c ns ds ∧ W.cls c = some C ∧ t = .ref C) := by
  cases x with
  | non => rw [r.non]; exact ⟨_, .inl (.base .non), .inl ⟨_, rfl, by decide, rfl⟩⟩
  | bl b => rw [r.bl]; exact ⟨_, .inl (.base (.bl b)), .inl ⟨_, rfl, by decide, rfl⟩⟩
  | int b => rw [r.int]; exact ⟨_, .inl (.base (.int b)), .inl ⟨_, rfl, by decide, rfl⟩⟩
  | str b => rw [r.str]; exact ⟨_, .inl (.base (.str b)), .inl ⟨_, rfl, by decide, rfl⟩⟩
  | lst ds =>
    obtain ⟨a, vs, rfl, q, _⟩ := r.lst
    refine ⟨.type "list", ?_, .inl ⟨_, rfl, by decide, rfl⟩⟩
    rcases q with q | ⟨o, q⟩
    · exact .inl (.base (.lst q))
    · exact .inl (.base (.frz q))
  | tup ds =>
    obtain ⟨a, vs, rfl, q, _⟩ := r.tup
    refine ⟨.type "tuple", ?_, .inl ⟨_, rfl, by decide, rfl⟩⟩
    rcases q with (q | ⟨o, q⟩) | ⟨o, its, n, q, c, _⟩
    · exact .inl (.base (.tup q))
    · exact .inl (.fTuple q)
    · exact .inl (.kTuple q c)
  | dct ks ds =>
    obtain ⟨a, vs, rfl, ⟨_, q⟩, _⟩ := r.dct
    refine ⟨.type "dict", ?_, .inl ⟨_, rfl, by decide, rfl⟩⟩
    rcases q with ⟨k1, _, q | ⟨ob, q⟩⟩ | ⟨k1, _, _, q | ⟨ob, q⟩⟩
    · exact .inl (.base (.dK q))
    · exact .inl (.fDict q)
    · exact .inl (.base (.dT q))
    · exact .inr ⟨a, ob, _, rfl, q, rfl⟩
  | obj c ns ds =>
    obtain ⟨a, C, dx, vs, rfl, hC, q, _, _⟩ := r.obj
    have k := hW.ok c C hC
    exact ⟨.ref C, .inl (.base (.ins q k.cl k.ha k.hn k.htk k.hm)), .inr ⟨c, ns, ds, C, rfl, hC, rfl⟩⟩
  | purse => rcases hx with ⟨t, e⟩ | ⟨c, ns, ds, e⟩ <;> cases e
  | ty n => rcases hx with ⟨t, e⟩ | ⟨c, ns, ds, e⟩ <;> cases e
  | cl n => rcases hx with ⟨t, e⟩ | ⟨c, ns, ds, e⟩ <;> cases e
  | scr n => rcases hx with ⟨t, e⟩ | ⟨c, ns, ds, e⟩ <;> cases e
/-- one class -/
theorem kit_one (hW : WOk W) {x T : D} {t : Value} {b : Bool} {c : V} (ht : (∃ n, tyN x = some n ∧ n ∈ sevenT ∧ t = .type n) ∨ ∃ c ns ds C, x = .obj c ns ds ∧ W.cls c = some C ∧ t = .ref C) (e : isiA x T = some b) (rT : RepK W pu h H T c) : ∃ u, ClsV c u ∧ PySem.W.kitOne W.K t u = some b := by
  cases T with
  | ty n =>
    have hc : c = .ty n := by
      rcases rT with rT | ⟨_, _, _, rT⟩
      · simpa only [Rep] using rT
      · exact False.elim rT
    subst hc
    refine ⟨.type n, .ty n, ?_⟩
    unfold isiA at e
    simp only at e
    by_cases hn : sixT.contains n = true
    · rw [if_pos hn] at e
      have hn' : n ∈ sixT := by simpa using hn
      rcases ht with ⟨m, h1, h2, rfl⟩ | ⟨c, ns, ds, C, rfl, hC, rfl⟩
      · have e' : (tyN x).map (fun t => isB t n) = some b := by
          cases x <;> first | exact e | (simp [tyN] at h1)
        rw [h1] at e'
        have e'' : isB m n = b := by simpa using e'
        rw [← e'']
        exact kit_ty (kitB_ok m h2 n hn')
      · simp only [Option.some.injEq] at e
        rw [← e]
        exact (hW.ok c C hC).bn n hn'
    · rw [if_neg hn] at e; cases e
  | cl cc =>
    have hc : ∃ C, W.cls cc = some C ∧ c = .ref C := by
      rcases rT with rT | ⟨_, _, _, rT⟩
      · simpa only [Rep] using rT
      · exact False.elim rT
    obtain ⟨C, hC, rfl⟩ := hc
    refine ⟨.ref C, .own C, ?_⟩
    unfold isiA at e
    simp only at e
    rcases ht with ⟨m, h1, h2, rfl⟩ | ⟨c, ns, ds, C', rfl, hC', rfl⟩
    · have e' : (tyN x).map (fun _ => false) = some b := by
        cases x <;> first | exact e | (simp [tyN] at h1)
      rw [h1] at e'
      have e'' : false = b := by simpa using e'
      rw [← e'']
      exact (hW.ok cc C hC).nb m h2
    · simp only [Option.some.injEq] at e
      rw [← e]
      by_cases hcc : c = cc
      · subst hcc
        rw [hC] at hC'; cases hC'
        rw [decide_eq_true rfl]
        unfold PySem.W.kitOne
        rw [if_pos (by simp)]
      · rw [decide_eq_false hcc]
        exact hW.ne c cc C' C hC' hC hcc
  | _ => simp [isiA] at e
theorem isi_x {x T : D} {b : Bool} (e : isiA x T = some b) : (∃ t, tyN x = some t) ∨ ∃ c ns ds, x = .obj c ns ds := by
  cases x with
  | purse => cases T <;> simp [isiA, tyN] at e
  | ty _ => cases T <;> simp [isiA, tyN] at e
  | cl _ => cases T <;> simp [isiA, tyN] at e
  | scr _ => cases T <;> simp [isiA, tyN] at e
  | obj c ns ds => exact .inr ⟨c, ns, ds, rfl⟩
  | _ => exact .inl ⟨_, rfl⟩
theorem kit_all (hW : WOk W) {x : D} {t : Value} (ht : (∃ n, tyN x = some n ∧ n ∈ sevenT ∧ t = .type n) ∨ ∃ c ns ds C, x = .obj c ns ds ∧ W.cls c = some C ∧ t = .ref C) : ∀ (Ts : List D) (cs : List V) (b : Bool), isiAs x Ts = some b → Reps W pu (hid h H) Ts cs → ∃ us, Paired ClsV cs us ∧ PySem.W.kitAny W.K t us = some b
  | [], cs, b, e, r => by
    simp only [isiAs] at e; cases e
    simp only [Reps] at r; subst r
    exact ⟨[], .nil, rfl⟩
  | T :: Ts, cs, b, e, r => by
    simp only [isiAs] at e
    cases e1 : isiA x T with
    | none => rw [e1] at e; simp at e
    | some b1 =>
      cases e2 : isiAs x Ts with
      | none => rw [e1, e2] at e; simp at e
      | some b2 =>
        rw [e1, e2] at e
        have eb : (b1 || b2) = b := by simpa using e
        simp only [Reps] at r
        obtain ⟨c, cs', rfl, r1, r2⟩ := r
        obtain ⟨u, k1, k2⟩ := kit_one hW ht e1 (.inl r1)
        obtain ⟨us, k3, k4⟩ := kit_all hW ht Ts cs' b2 e2 r2
        refine ⟨u :: us, .cons k1 k3, kitAny_cons k2 (fun z => ?_) (fun z => ?_)⟩
        · rw [k4, ← eb, z]; rfl
        · rw [← eb, z]; rfl
end
theorem k_isin {W : Wd} (hW : WOk W) : Cal W isinD (rIsin W.K) := by
  intro pu h H xs vs P Q w rx hf q
  have one : ∀ {x T : D} {vs : List V}, RepsK W pu h H [x, T] vs → optB (isiA x T) P → rIsin W.K vs H Q := by
    intro x T vs rx hf
    obtain ⟨v, c, rfl, r1, r2⟩ := rx.two
    cases e : isiA x T with
    | none => rw [e] at hf; exact False.elim hf
    | some b =>
      rw [e] at hf
      obtain ⟨t, k1, k2⟩ := ty_of hW r1 (isi_x e)
      obtain ⟨u, k3, k4⟩ := kit_one hW k2 e r2
      exact .inl ⟨v, c, t, u, b, rfl, k3, k1, k4, q _ hf _ H w.rfl' rep_bl⟩
  unfold isinD at hf
  split at hf
  · rename_i x T Ts
    obtain ⟨v, c, rfl, r1, r2⟩ := rx.two
    cases e : isiAs x (T :: Ts) with
    | none => rw [e] at hf; exact False.elim hf
    | some b =>
      rw [e] at hf
      obtain ⟨a, cs, rfl, q1, r3⟩ := r2.tup
      have hx : (∃ t, tyN x = some t) ∨ ∃ c ns ds, x = .obj c ns ds := by
        simp only [isiAs] at e
        cases e1 : isiA x T with
        | none => rw [e1] at e; simp at e
        | some b1 => exact isi_x e1
      obtain ⟨t, k1, k2⟩ := ty_of hW r1 hx
      obtain ⟨us, k3, k4⟩ := kit_all hW k2 _ cs b e r3
      exact .inr ⟨v, a, cs, t, us, b, rfl, q1, k3, k1, k4, q _ hf _ H w.rfl' rep_bl⟩
  · exact one rx hf
  · exact False.elim hf

/-! ### built-in functions -/
section
variable {W : Wd} {X : Cx}
def lenD (xs : List D) (P : D → Prop) : Prop := match xs with
  | [.lst ds] => P (.int ds.length)
  | [.tup ds] => P (.int ds.length)
  | [.str s] => s.length ≤ sizeLine ∧ P (.int s.length)
  | [.scr ns] => P (.int ns.length)
  | _ => False
theorem k_len : Cal W lenD (fun xs H Q => ∃ x n, xs = [x] ∧ LenV W.K x H n ∧ Q (.int n) H) := by
  intro pu h H xs vs P Q w rx hf q
  unfold lenD at hf
  split at hf
  · obtain ⟨v, rfl, r⟩ := rx.one
    obtain ⟨a, us, rfl, q1, r1⟩ := r.lst
    rename_i ds
    exact ⟨_, ds.length, rfl, .inl ⟨us, .inl q1, r1.length.symm⟩, q _ hf _ H w.rfl' rep_int⟩
  · obtain ⟨v, rfl, r⟩ := rx.one
    obtain ⟨a, us, rfl, q1, r1⟩ := r.tup
    rename_i ds
    exact ⟨_, ds.length, rfl, .inr ⟨us, q1, r1.length.symm⟩, q _ hf _ H w.rfl' rep_int⟩
  · obtain ⟨v, rfl, r⟩ := rx.one
    rename_i s
    exact ⟨_, s.length, rfl, by rw [r.str]; exact ⟨hf.1, rfl⟩, q _ hf.2 _ H w.rfl' rep_int⟩
  · obtain ⟨v, rfl, r⟩ := rx.one
    rename_i ns
    obtain ⟨a, rfl, q1⟩ := r.scr
    exact ⟨_, ns.length, rfl, .inl ⟨_, q1, by simp⟩, q _ hf _ H w.rfl' rep_int⟩
  · exact False.elim hf
/-- list(xs), tuple(xs) -/
def listD (xs : List D) (P : D → Prop) : Prop := match xs with
  | [.lst ds] => P (.lst ds)
  | [.tup ds] => P (.lst ds)
  | _ => False
def tupleD (xs : List D) (P : D → Prop) : Prop := match xs with
  | [.lst ds] => P (.tup ds)
  | [.tup ds] => P (.tup ds)
  | _ => False
theorem k_list : CalF W listD (fun xs H Q => ∃ p ys, xs = [.ref p] ∧ (SqL W.K H p ys ∨ SqT W.K H p ys) ∧ ∀ l, H l = none → Q (.ref l) (upd H l (.lst ys))) := by
  intro pu h H xs vs P Q w rx hf q
  unfold listD at hf
  split at hf
  · obtain ⟨v, rfl, r⟩ := rx.one
    obtain ⟨a, us, rfl, q1, r1⟩ := r.lst
    exact ⟨a, us, rfl, .inl (.inl q1), PostF.new w r1 hf q⟩
  · obtain ⟨v, rfl, r⟩ := rx.one
    obtain ⟨a, us, rfl, q1, r1⟩ := r.tup
    exact ⟨a, us, rfl, .inr q1, PostF.new w r1 hf q⟩
  · exact False.elim hf
theorem k_tuple : Cal W tupleD (fun xs H Q => ∃ p ys, xs = [.ref p] ∧ ((SqL W.K H p ys ∧ ∀ l, H l = none → Q (.ref l) (upd H l (.tup ys))) ∨ (SqT W.K H p ys ∧ Q (.ref p) H))) := by
  intro pu h H xs vs P Q w rx hf q
  unfold tupleD at hf
  split at hf
  · obtain ⟨v, rfl, r⟩ := rx.one
    obtain ⟨a, us, rfl, q1, r1⟩ := r.lst
    exact ⟨a, us, rfl, .inl ⟨.inl q1, Post.tup w r1 hf q⟩⟩
  · obtain ⟨v, rfl, r⟩ := rx.one
    have r0 := r.tupR
    obtain ⟨a, us, rfl, q1, r1⟩ := r.tup
    exact ⟨a, us, rfl, .inr ⟨q1, q _ hf _ H w.rfl' r0⟩⟩
  · exact False.elim hf
def intsD : List D → Option (List Int)
  | [] => some []
  | .int i :: ds => (intsD ds).map (i :: ·)
  | _ :: _ => none
def strsD : List D → Option (List Str)
  | [] => some []
  | .str i :: ds => (strsD ds).map (i :: ·)
  | _ :: _ => none
def blsD : List D → Option (List Bool)
  | [] => some []
  | .bl i :: ds => (blsD ds).map (i :: ·)
  | _ :: _ => none
theorem ints_rep {pu : Pu} {S : Hp} : ∀ {ds : List D} {vs : List V} {ns : List Int}, intsD ds = some ns → Reps W pu S ds vs → vs = ns.map V.int
  | [], vs, ns, e, r => by simp [intsD] at e; subst e; simp only [Reps] at r; exact r
  | .int i :: ds, vs, ns, e, r => by
    simp only [intsD] at e
    obtain ⟨ms, e1, rfl⟩ := Option.map_eq_some_iff.mp e
    simp only [Reps] at r
    obtain ⟨v, us, rfl, r1, r2⟩ := r
    simp only [Rep] at r1
    rw [r1, ints_rep e1 r2]; rfl
theorem strs_rep {pu : Pu} {S : Hp} : ∀ {ds : List D} {vs : List V} {ns : List Str}, strsD ds = some ns → Reps W pu S ds vs → vs = ns.map V.str
  | [], vs, ns, e, r => by simp [strsD] at e; subst e; simp only [Reps] at r; exact r
  | .str i :: ds, vs, ns, e, r => by
    simp only [strsD] at e
    obtain ⟨ms, e1, rfl⟩ := Option.map_eq_some_iff.mp e
    simp only [Reps] at r
    obtain ⟨v, us, rfl, r1, r2⟩ := r
    simp only [Rep] at r1
    rw [r1, strs_rep e1 r2]; rfl
theorem bls_rep {pu : Pu} {S : Hp} : ∀ {ds : List D} {vs : List V} {ns : List Bool}, blsD ds = some ns → Reps W pu S ds vs → vs = ns.map V.bl
  | [], vs, ns, e, r => by simp [blsD] at e; subst e; simp only [Reps] at r; exact r
  | .bl i :: ds, vs, ns, e, r => by
    simp only [blsD] at e
    obtain ⟨ms, e1, rfl⟩ := Option.map_eq_some_iff.mp e
    simp only [Reps] at r
    obtain ⟨v, us, rfl, r1, r2⟩ := r
    simp only [Rep] at r1
    rw [r1, bls_rep e1 r2]; rfl
theorem reps_ints {pu : Pu} {S : Hp} : ∀ ns : List Int, Reps W pu S (ns.map D.int) (ns.map V.int)
  | [] => Reps.nil
  | _ :: ns => Reps.cons rep_int (reps_ints ns)
theorem reps_strs {pu : Pu} {S : Hp} : ∀ ns : List Str, Reps W pu S (ns.map D.str) (ns.map V.str)
  | [] => Reps.nil
  | _ :: ns => Reps.cons rep_str (reps_strs ns)
/-- sorted(xs): ints; texts, fewer than 64 -/
def sortA (ds : List D) (P : D → Prop) : Prop := match intsD ds with
  | some ns => ∀ ns' : List Int, ns'.Perm ns → ns'.Pairwise (· ≤ ·) → P (.lst (ns'.map .int))
  | none => match strsD ds with
    | some xs => xs.length < 64 ∧ ∀ ys : List Str, ys.Perm xs → PyProof.Rows.sortedS ys = true → P (.lst (ys.map .str))
    | none => False
def sortedD (xs : List D) (P : D → Prop) : Prop := match xs with
  | [.lst ds] => sortA ds P
  | _ => False
def rSortD (K : PySem.W.Frag) : List V → Hp → VK → Prop := fun vs H Q => rSortedI K vs H Q ∨ rSortedS K vs H Q
theorem op_sortD : CallR X (.builtin "sorted") (rSortD X.K) := cr_sortedI.or cr_sortedS
theorem k_sorted : CalF W sortedD (rSortD W.K) := by
  intro pu h H xs vs P Q w rx hf q
  unfold sortedD at hf
  split at hf
  · obtain ⟨v, rfl, r⟩ := rx.one
    obtain ⟨a, us, rfl, q1, r1⟩ := r.lst
    rename_i ds
    unfold sortA at hf
    cases e : intsD ds with
    | some ns =>
      rw [e] at hf
      have eu := ints_rep e r1
      subst eu
      exact .inl ⟨a, ns, rfl, .inl q1, fun ns' p h1 h2 => PostF.new w (reps_ints ns') (hf ns' h1 h2) q p⟩
    | none =>
      rw [e] at hf
      simp only at hf
      cases e2 : strsD ds with
      | some ns =>
        rw [e2] at hf
        have eu := strs_rep e2 r1
        subst eu
        exact .inr ⟨a, ns, rfl, .inl q1, hf.1, fun ns' p h1 h2 => PostF.new w (reps_strs ns') (hf.2 ns' h1 h2) q p⟩
      | none => rw [e2] at hf; exact False.elim hf
  · exact False.elim hf
def sumD (xs : List D) (P : D → Prop) : Prop := match xs with
  | [.lst ds] => (match intsD ds with
    | some ns => P (.int ns.sum)
    | none => False)
  | _ => False
theorem k_sum : Cal W sumD (rSum W.K) := by
  intro pu h H xs vs P Q w rx hf q
  unfold sumD at hf
  split at hf
  · obtain ⟨v, rfl, r⟩ := rx.one
    obtain ⟨a, us, rfl, q1, r1⟩ := r.lst
    rename_i ds
    cases e : intsD ds with
    | none => rw [e] at hf; exact False.elim hf
    | some ns =>
      rw [e] at hf
      have eu := ints_rep e r1
      subst eu
      exact ⟨a, ns, rfl, .inl q1, q _ hf _ H w.rfl' rep_int⟩
  · exact False.elim hf
/-- min and max of two ints, of a list of ints -/
def minD (xs : List D) (P : D → Prop) : Prop := match xs with
  | [.int i, .int j] => P (.int (if j < i then j else i))
  | [.lst ds] => (match intsD ds with
    | some ns => 0 < ns.length ∧ ∀ m, m ∈ ns → (∀ y, y ∈ ns → m ≤ y) → P (.int m)
    | none => False)
  | _ => False
def maxD (xs : List D) (P : D → Prop) : Prop := match xs with
  | [.int i, .int j] => P (.int (if j > i then j else i))
  | [.lst ds] => (match intsD ds with
    | some ns => 0 < ns.length ∧ ∀ m, m ∈ ns → (∀ y, y ∈ ns → y ≤ m) → P (.int m)
    | none => False)
  | _ => False
def rMinD (K : PySem.W.Frag) : List V → Hp → VK → Prop := fun xs H Q => (∃ i j, xs = [.int i, .int j] ∧ Q (.int (if j < i then j else i)) H) ∨ rMin K xs H Q
def rMaxD' (K : PySem.W.Frag) : List V → Hp → VK → Prop := fun xs H Q => (∃ i j, xs = [.int i, .int j] ∧ Q (.int (if j > i then j else i)) H) ∨ rMax K xs H Q
theorem op_minD (hc : X.calm = true) : CallR X (.builtin "min") (rMinD X.K) := (call_min2 hc).or (cr_min hc)
theorem op_maxD (hc : X.calm = true) : CallR X (.builtin "max") (rMaxD' X.K) := (call_max2 hc).or (cr_max hc)
theorem k_min : Cal W minD (rMinD W.K) := by
  intro pu h H xs vs P Q w rx hf q
  unfold minD at hf
  split at hf
  · obtain ⟨v, u, rfl, r1, r2⟩ := rx.two
    exact .inl ⟨_, _, by rw [r1.int, r2.int], q _ hf _ H w.rfl' rep_int⟩
  · obtain ⟨v, rfl, r⟩ := rx.one
    obtain ⟨a, us, rfl, q1, r1⟩ := r.lst
    rename_i ds
    cases e : intsD ds with
    | none => rw [e] at hf; exact False.elim hf
    | some ns =>
      rw [e] at hf
      have eu := ints_rep e r1
      subst eu
      exact .inr ⟨a, ns, rfl, .inl q1, hf.1, fun m h1 h2 => q _ (hf.2 m h1 h2) _ H w.rfl' rep_int⟩
  · exact False.elim hf
theorem k_max : Cal W maxD (rMaxD' W.K) := by
  intro pu h H xs vs P Q w rx hf q
  unfold maxD at hf
  split at hf
  · obtain ⟨v, u, rfl, r1, r2⟩ := rx.two
    exact .inl ⟨_, _, by rw [r1.int, r2.int], q _ hf _ H w.rfl' rep_int⟩
  · obtain ⟨v, rfl, r⟩ := rx.one
    obtain ⟨a, us, rfl, q1, r1⟩ := r.lst
    rename_i ds
    cases e : intsD ds with
    | none => rw [e] at hf; exact False.elim hf
    | some ns =>
      rw [e] at hf
      have eu := ints_rep e r1
      subst eu
      exact .inr ⟨a, ns, rfl, .inl q1, hf.1, fun m h1 h2 => q _ (hf.2 m h1 h2) _ H w.rfl' rep_int⟩
  · exact False.elim hf
def allD (xs : List D) (P : D → Prop) : Prop := match xs with
  | [.lst ds] => (match blsD ds with
    | some ns => P (.bl (ns.all id))
    | none => False)
  | _ => False
def anyD (xs : List D) (P : D → Prop) : Prop := match xs with
  | [.lst ds] => (match blsD ds with
    | some ns => P (.bl (ns.any id))
    | none => False)
  | _ => False
theorem k_all : Cal W allD (rAll W.K) := by
  intro pu h H xs vs P Q w rx hf q
  unfold allD at hf
  split at hf
  · obtain ⟨v, rfl, r⟩ := rx.one
    obtain ⟨a, us, rfl, q1, r1⟩ := r.lst
    rename_i ds
    cases e : blsD ds with
    | none => rw [e] at hf; exact False.elim hf
    | some ns =>
      rw [e] at hf
      have eu := bls_rep e r1
      subst eu
      exact ⟨a, ns, rfl, .inl q1, q _ hf _ H w.rfl' rep_bl⟩
  · exact False.elim hf
theorem k_any : Cal W anyD (rAny W.K) := by
  intro pu h H xs vs P Q w rx hf q
  unfold anyD at hf
  split at hf
  · obtain ⟨v, rfl, r⟩ := rx.one
    obtain ⟨a, us, rfl, q1, r1⟩ := r.lst
    rename_i ds
    cases e : blsD ds with
    | none => rw [e] at hf; exact False.elim hf
    | some ns =>
      rw [e] at hf
      have eu := bls_rep e r1
      subst eu
      exact ⟨a, ns, rfl, .inl q1, q _ hf _ H w.rfl' rep_bl⟩
  · exact False.elim hf
def intD (xs : List D) (P : D → Prop) : Prop := match xs with
  | [.int i] => P (.int i)
  | [.bl k] => P (.int (if k then 1 else 0))
  | _ => False
theorem k_int : Cal W intD (fun xs H Q => (∃ i, xs = [.int i] ∧ Q (.int i) H) ∨ ∃ k, xs = [.bl k] ∧ Q (.int (if k then 1 else 0)) H) := by
  intro pu h H xs vs P Q w rx hf q
  unfold intD at hf
  split at hf
  · obtain ⟨v, rfl, r⟩ := rx.one
    exact .inl ⟨_, by rw [r.int], q _ hf _ H w.rfl' rep_int⟩
  · obtain ⟨v, rfl, r⟩ := rx.one
    exact .inr ⟨_, by rw [r.bl], q _ hf _ H w.rfl' rep_int⟩
  · exact False.elim hf
end

/-! ### methods -/
section
variable {W : Wd} {X : Cx}
def isLst : D → Bool
  | .lst _ => true
  | _ => false
def isStrB : D → Bool
  | .str _ => true
  | _ => false
theorem ty_lst {K : PySem.W.Frag} {pu : Pu} {h : Addr → Bool} {H : Hp} {x : D} {v : V} (r : RepK W pu h H x v) (e : isLst x = true) : tyV K "list" v H := by
  cases x with
  | lst ds =>
    obtain ⟨a, vs, rfl, q, _⟩ := r.lst
    exact .inl ⟨rfl, vs, .inl q⟩
  | _ => cases e
/-- xs.index(x) -/
def indexA (ds : List D) (x : D) (P : D → Prop) : Prop := match flatD x, flatDs ds with
  | some v, some us => (match us.findIdx? (fun y => eqV y v) with
    | some j => P (.int (j : Nat))
    | none => False)
  | _, _ => False
def indexD : D → List D → (D → Prop) → Prop
  | .lst ds, [x], P => indexA ds x P
  | _, _, _ => False
theorem k_index : Met W "list" indexD isLst (rIndex W.K) := by
  refine ⟨fun pu h H x v w r e => ty_lst r e, fun pu h H x xs v vs P Q w rx rxs hf q => ?_⟩
  unfold indexD at hf
  split at hf
  · rename_i ds y
    obtain ⟨a, us, rfl, q1, r1⟩ := rx.lst
    obtain ⟨z, rfl, r2⟩ := rxs.one
    unfold indexA at hf
    cases e1 : flatD y with
    | none => rw [e1] at hf; exact False.elim hf
    | some u =>
      cases e2 : flatDs ds with
      | none => rw [e1, e2] at hf; exact False.elim hf
      | some ws =>
        rw [e1, e2] at hf
        simp only at hf
        obtain ⟨h3, h4⟩ := flats_rep e2 r1
        have hx : z = u ∧ flatV u = true := by
          rcases r2 with r2 | ⟨b, rfl, _, r2⟩
          · exact flat_rep e1 r2
          · cases y with
            | lst _ => simp [flatD] at e1
            | dct _ _ => simp [flatD] at e1
            | obj _ _ _ => simp [flatD] at e1
            | _ => exact False.elim r2
        obtain ⟨h1, h2⟩ := hx
        subst h1 h3
        cases e3 : us.findIdx? (fun y => eqV y z) with
        | none => rw [e3] at hf; exact False.elim hf
        | some j =>
          rw [e3] at hf
          obtain ⟨hj, p1, p2⟩ := List.findIdx?_eq_some_iff_getElem.mp e3
          refine ⟨a, us, z, j, us[j], rfl, rfl, .inl q1, h2, h4, List.getElem?_eq_getElem hj, p1, fun m z' hm hz' => ?_, q _ hf _ H w.rfl' rep_int⟩
          obtain ⟨hm', e4⟩ := List.getElem?_eq_some_iff.mp hz'
          have := p2 m hm
          rw [← e4]; simpa using this
  · exact False.elim hf
/-- ''.join(xs) -/
def joinD : D → List D → (D → Prop) → Prop
  | .str s, [.lst ds], P => (match strsD ds with
    | some ys => (ys.map (·.length)).sum + ys.length * s.length ≤ 16777216 ∧ P (.str (Txt.join s ys))
    | none => False)
  | _, _, _ => False
theorem k_join : Met W "str" joinD isStrB (fun x xs H Q => ∃ a p, ∃ ys : List Str, x = .str a ∧ xs = [.ref p] ∧ (SqL W.K H p (ys.map V.str) ∨ SqT W.K H p (ys.map V.str)) ∧ (ys.map (·.length)).sum + ys.length * a.length ≤ 16777216 ∧ Q (.str (Txt.join a ys)) H) := by
  refine ⟨fun pu h H x v w r e => ?_, fun pu h H x xs v vs P Q w rx rxs hf q => ?_⟩
  · cases x with
    | str s => rw [r.str]; exact rfl
    | _ => cases e
  · unfold joinD at hf
    split at hf
    · rename_i s ds
      obtain ⟨z, rfl, r2⟩ := rxs.one
      obtain ⟨a, us, rfl, q1, r1⟩ := r2.lst
      cases e : strsD ds with
      | none => rw [e] at hf; exact False.elim hf
      | some ns =>
        rw [e] at hf
        have eu := strs_rep e r1
        subst eu
        exact ⟨s, a, ns, rx.str, rfl, .inl (.inl q1), hf.1, q _ hf.2 _ H w.rfl' rep_str⟩
    · exact False.elim hf

/-! what changes a list -/
def appendM (ds xs : List D) (P : D → List D → Prop) : Prop := match xs with
  | [x] => ds.length < sizeLine ∧ P .non (ds ++ [x])
  | _ => False
theorem k_append : Mut1 W appendM rAppend := by
  intro pu h H a ds us xs vs P Q w ha r rx hf q
  unfold appendM at hf
  split at hf
  · simp only [Reps] at rx
    obtain ⟨v, r', rfl, r1, rfl⟩ := rx
    exact ⟨a, us, v, rfl, rfl, ha, by rw [r.length]; exact hf.1, q _ _ hf.2 _ _ (by simp only [Rep]) (r.append (Reps.one r1))⟩
  · exact False.elim hf
def insertM (ds xs : List D) (P : D → List D → Prop) : Prop := match xs with
  | [.int i, x] => ds.length < sizeLine ∧ 0 ≤ i ∧ i < 2 ^ 63 ∧ P .non (ds.take i.toNat ++ [x] ++ ds.drop i.toNat)
  | _ => False
theorem k_insert : Mut1 W insertM (fun x vs H Q => ∃ (l : Addr) (xs : List V) (i : Int) (y : V), x = .ref l ∧ vs = [.int i, y] ∧ H l = some (.lst xs) ∧ xs.length < sizeLine ∧ 0 ≤ i ∧ i < 2 ^ 63 ∧
    Q .non (upd H l (.lst (xs.take i.toNat ++ [y] ++ xs.drop i.toNat)))) := by
  intro pu h H a ds us xs vs P Q w ha r rx hf q
  unfold insertM at hf
  split at hf
  · simp only [Reps, Rep] at rx
    obtain ⟨v, r', rfl, rfl, u, r'', rfl, r1, rfl⟩ := rx
    exact ⟨a, us, _, u, rfl, rfl, ha, by rw [r.length]; exact hf.1, hf.2.1, hf.2.2.1, q _ _ hf.2.2.2 _ _ (by simp only [Rep]) (((r.take _).append (Reps.one r1)).append (r.drop _))⟩
  · exact False.elim hf
def reverseM (ds xs : List D) (P : D → List D → Prop) : Prop := match xs with
  | [] => P .non ds.reverse
  | _ => False
theorem k_reverse : Mut1 W reverseM rReverse := by
  intro pu h H a ds us xs vs P Q w ha r rx hf q
  unfold reverseM at hf
  split at hf
  · simp only [Reps] at rx
    exact ⟨a, us, rfl, rx, ha, q _ _ hf _ _ (by simp only [Rep]) r.reverse⟩
  · exact False.elim hf
def clearM (ds xs : List D) (P : D → List D → Prop) : Prop := match xs with
  | [] => P .non []
  | _ => False
theorem k_clear : Mut1 W clearM rClear := by
  intro pu h H a ds us xs vs P Q w ha r rx hf q
  unfold clearM at hf
  split at hf
  · simp only [Reps] at rx
    exact ⟨a, us, rfl, rx, ha, q _ _ hf _ _ (by simp only [Rep]) Reps.nil⟩
  · exact False.elim hf
/-- xs.pop() -/
def popM (ds xs : List D) (P : D → List D → Prop) : Prop := match xs with
  | [] => (match ds[ds.length - 1]? with
    | some x => P x ds.dropLast
    | none => False)
  | _ => False
theorem Reps.dropLast {pu : Pu} {S : Hp} {ds : List D} {vs : List V} (r : Reps W pu S ds vs) : Reps W pu S ds.dropLast vs.dropLast := by
  rw [List.dropLast_eq_take, List.dropLast_eq_take, r.length]
  exact r.take _
theorem k_pop : Mut1 W popM rPop := by
  intro pu h H a ds us xs vs P Q w ha r rx hf q
  unfold popM at hf
  split at hf
  · simp only [Reps] at rx
    cases e : ds[ds.length - 1]? with
    | none => rw [e] at hf; exact False.elim hf
    | some x =>
      rw [e] at hf
      obtain ⟨y, q1, q2⟩ := r.get e
      exact ⟨a, us, y, rfl, rx, ha, by rw [r.length]; exact q1, q _ _ hf _ _ q2 r.dropLast⟩
  · exact False.elim hf
end
end DL
namespace DL
open PySem PySem.Spec L2

/-! ### expressions that are never reached -/
def tNevE : TD := fun _ _ _ => False
def tNevT : TTD := fun _ _ _ => False
section
variable {W : Wd} {X : Cx} {e : Expr}
theorem pd_never : PD W X e tNevE := fun c => ⟨fun pins s σ H Q I ⟨_, _, _, _, ht, _⟩ => False.elim ht⟩
theorem pf_never : PFD W X e tNevE := fun c => ⟨fun pins s σ H Q I ⟨_, _, _, _, ht, _⟩ => False.elim ht⟩
theorem ptd_never : PTD W X e tNevT := fun c => ⟨fun pins s σ H Q I ⟨_, _, _, _, ht, _⟩ => False.elim ht⟩
end

/-! ### dicts whose keys are ints and texts -/
def keyK : D → Option Key
  | .int i => some (.inl i)
  | .str x => some (.inr x)
  | _ => none
def keyA (d : D) (Q : Key → Prop) : Prop := match keyK d with
  | some k => Q k
  | none => False
section
variable {W : Wd} {pu : Pu} {h : Addr → Bool} {H : Hp}
theorem keyK_rep {d : D} {k : Key} {v : V} (e : keyK d = some k) (r : RepK W pu h H d v) : v = kV k := by
  cases d with
  | int i => simp only [keyK] at e; cases e; exact r.int
  | str x => simp only [keyK] at e; cases e; exact r.str
  | _ => simp [keyK] at e
theorem dctGet_none {S : Hp} {k : Key} : ∀ {k1 : List Key} {ds : List D} {vs : List V}, Reps W pu S ds vs → dctGet (k1.map Sum.inl) ds (.inl k) = none → k1.length = vs.length → valV (k1.zip vs) k = none
  | [], _, _, _, _, _ => by simp [valV]
  | k' :: k1, [], vs, r, _, hl => by simp only [Reps] at r; subst r; simp at hl
  | k' :: k1, d :: ds, vs, r, e, hl => by
    simp only [Reps] at r
    obtain ⟨v, us, rfl, r1, r2⟩ := r
    simp only [List.map_cons, dctGet] at e
    split at e
    · cases e
    · rename_i hk
      have ih := dctGet_none r2 e (by simpa using hl)
      have hk' : ¬ k' = k := fun z => hk (by rw [z])
      unfold valV at ih ⊢
      rw [List.zip_cons_cons, List.find?_cons_of_neg (by simpa using hk')]
      exact ih
theorem dctGet_some {S : Hp} {k : Key} {d0 : D} : ∀ {k1 : List Key} {ds : List D} {vs : List V}, Reps W pu S ds vs → dctGet (k1.map Sum.inl) ds (.inl k) = some d0 → ∃ v, valV (k1.zip vs) k = some v ∧ Rep W pu S d0 v
  | [], _, _, _, e => by simp [dctGet] at e
  | k' :: k1, [], vs, r, e => by simp [dctGet] at e
  | k' :: k1, d :: ds, vs, r, e => by
    simp only [Reps] at r
    obtain ⟨v, us, rfl, r1, r2⟩ := r
    simp only [List.map_cons, dctGet] at e
    split at e
    · rename_i hk
      cases e
      have hk' : k' = k := by injection hk
      refine ⟨v, ?_, r1⟩
      unfold valV
      rw [List.zip_cons_cons, List.find?_cons_of_pos (by simpa using hk')]
      rfl
    · rename_i hk
      obtain ⟨u, q1, q2⟩ := dctGet_some r2 e
      have hk' : ¬ k' = k := fun z => hk (by rw [z])
      refine ⟨u, ?_, q2⟩
      unfold valV at q1 ⊢
      rw [List.zip_cons_cons, List.find?_cons_of_neg (by simpa using hk')]
      exact q1
theorem dct_left {ks : List DKey} {a : Addr} {vs : List V} (hl : ks.all (·.isLeft) = true) (h : DctAt H a ks vs) : ∃ k1 : List Key, ks = k1.map Sum.inl ∧ Rd H a (.dK (k1.zip vs)) ∧ k1.length = vs.length := by
  obtain ⟨h0, h⟩ := h
  rcases h with ⟨k1, e, h⟩ | ⟨k2, e0, e, h⟩
  · exact ⟨k1, e, h, by rw [← h0, e, List.length_map]⟩
  · cases k2 with
    | nil => exact absurd rfl e0
    | cons k k2 => subst e; simp at hl
def inE (x y : D) (P : D → Prop) : Prop := match y with
  | .dct ks ds => keyA x fun k => ks.all (·.isLeft) = true ∧ P (.bl (dctGet ks ds (.inl k)).isSome)
  | _ => inD x y P
def ninE (x y : D) (P : D → Prop) : Prop := match y with
  | .dct ks ds => keyA x fun k => ks.all (·.isLeft) = true ∧ P (.bl (!(dctGet ks ds (.inl k)).isSome))
  | _ => ninD x y P
def rInE (K : PySem.W.Frag) : R2 := fun y x H Q => rInDD K y x H Q ∨ ∃ a o, x = .ref a ∧ DGet H a y o ∧ Q (.bl o.isSome) H
def rNinE (K : PySem.W.Frag) : R2 := fun y x H Q => rNinDD K y x H Q ∨ ∃ a o, x = .ref a ∧ DGet H a y o ∧ Q (.bl (!o.isSome)) H
theorem op_inE {X : Cx} (hu : X.A.units + 65 < cLine) : OpR X (compareOp .In) (rInE X.K) := (op_inDD hu).or (op_inDict (by omega))
theorem op_ninE {X : Cx} (hu : X.A.units + 65 < cLine) : OpR X (compareOp .NotIn) (rNinE X.K) := (op_ninDD hu).or (op_notInDict (by omega))
theorem dget_run {ks : List DKey} {ds : List D} {k : Key} {v : V} (hl : ks.all (·.isLeft) = true) (r : RepK W pu h H (.dct ks ds) v) : ∃ a, v = .ref a ∧ ((∃ d u, dctGet ks ds (.inl k) = some d ∧ DGet H a (kV k) (some u) ∧ Rep W pu (hid h H) d u) ∨ (dctGet ks ds (.inl k) = none ∧ DGet H a (kV k) none)) := by
  obtain ⟨a, vs, rfl, hd, rr⟩ := r.dct
  clear r
  obtain ⟨k1, e, hr, hl1⟩ := dct_left hl hd
  subst e
  refine ⟨a, rfl, ?_⟩
  cases e : dctGet (k1.map Sum.inl) ds (.inl k) with
  | none => exact .inr ⟨rfl, .inl ⟨_, k, hr, rfl, (dctGet_none rr e hl1).symm⟩⟩
  | some d =>
    obtain ⟨u, q1, q2⟩ := dctGet_some rr e
    exact .inl ⟨d, u, rfl, .inl ⟨_, k, hr, rfl, q1.symm⟩, q2⟩
end
theorem k_inE {W : Wd} : Op2 W inE (rInE W.K) := fun pu h H x y v u P Q w rx ry hf q => by
  unfold inE at hf
  split at hf
  · rename_i ks ds
    unfold keyA at hf
    cases e : keyK x with
    | none => rw [e] at hf; exact False.elim hf
    | some k =>
      rw [e] at hf
      obtain ⟨hl, hP⟩ := hf
      have hv := keyK_rep e rx
      subst hv
      obtain ⟨a, rfl, z | z⟩ := dget_run (k := k) hl ry
      · obtain ⟨d, u, e1, g, _⟩ := z
        rw [e1] at hP
        exact .inr ⟨a, _, rfl, g, q _ hP _ H w.rfl' rep_bl⟩
      · obtain ⟨e1, g⟩ := z
        rw [e1] at hP
        exact .inr ⟨a, _, rfl, g, q _ hP _ H w.rfl' rep_bl⟩
  · exact .inl (k_inDD pu h H x _ v u P Q w rx ry hf q)
theorem k_ninE {W : Wd} : Op2 W ninE (rNinE W.K) := fun pu h H x y v u P Q w rx ry hf q => by
  unfold ninE at hf
  split at hf
  · rename_i ks ds
    unfold keyA at hf
    cases e : keyK x with
    | none => rw [e] at hf; exact False.elim hf
    | some k =>
      rw [e] at hf
      obtain ⟨hl, hP⟩ := hf
      have hv := keyK_rep e rx
      subst hv
      obtain ⟨a, rfl, z | z⟩ := dget_run (k := k) hl ry
      · obtain ⟨d, u, e1, g, _⟩ := z
        rw [e1] at hP
        exact .inr ⟨a, _, rfl, g, q _ hP _ H w.rfl' rep_bl⟩
      · obtain ⟨e1, g⟩ := z
        rw [e1] at hP
        exact .inr ⟨a, _, rfl, g, q _ hP _ H w.rfl' rep_bl⟩
  · exact .inl (k_ninDD pu h H x _ v u P Q w rx ry hf q)
/-- x[y]: lists, tuples, texts; dicts -/
def ixE (x y : D) (P : D → Prop) : Prop := match x with
  | .dct ks ds => keyA y fun k => ks.all (·.isLeft) = true ∧ optD (dctGet ks ds (.inl k)) P
  | _ => ixD x y P
def rIxE (K : PySem.W.Frag) : R2 := fun x y H Q => rIx K x y H Q ∨ ∃ a v, x = .ref a ∧ DGet H a y (some v) ∧ Q v H
theorem ix_or {X : Cx} {r r' : R2} (h : IxR X r) (h' : IxR X r') : IxR X (fun x y H Q => r x y H Q ∨ r' x y H Q) := by
  intro value slice pins s σ H x y v u Q I rx ry hq hs
  rcases hq with hq | hq
  · exact h value slice pins s σ H x y v u Q I rx ry hq hs
  · exact h' value slice pins s σ H x y v u Q I rx ry hq hs
theorem k_ixE {W : Wd} : Op2 W ixE (rIxE W.K) := fun pu h H x y v u P Q w rx ry hf q => by
  unfold ixE at hf
  split at hf
  · rename_i ks ds
    unfold keyA at hf
    cases e : keyK y with
    | none => rw [e] at hf; exact False.elim hf
    | some k =>
      rw [e] at hf
      obtain ⟨hl, hP⟩ := hf
      have hv := keyK_rep e ry
      subst hv
      obtain ⟨a, rfl, z | z⟩ := dget_run (k := k) hl rx
      · obtain ⟨d, u, e1, g, r⟩ := z
        rw [e1] at hP
        exact .inr ⟨a, _, rfl, g, q _ hP _ H w.rfl' r⟩
      · obtain ⟨e1, g⟩ := z
        rw [e1] at hP
        exact False.elim hP
  · exact .inl (k_ixD pu h H _ y v u P Q w rx ry hf q)

/-! ### dict comprehensions, one generator -/
def dctOf (kvs : List (Key × D)) : D := .dct (kvs.map fun p => .inl p.1) (kvs.map (·.2))
def putKD (kvs : List (Key × D)) (k : Key) (v : D) : List (Key × D) :=
  if (kvs.any fun kv => decide (kv.1 = k)) = true then kvs.map (fun kv => if kv.1 = k then (kv.1, v) else kv) else kvs ++ [(k, v)]
def dcGo (g : Pat) (tt : TTD) (tk tv : TD) (ρ0 : List Sl) : List D → Nat → List (Key × D) → (List (Key × D) → Nat → Prop) → Prop
  | [], n, acc, P => P acc n
  | d :: ds, n, acc, P => tPat g d ρ0 fun ρ2 => tt n ρ2 fun b n1 => if b = true then tk n1 ρ2 fun y n2 => keyA y fun k => tv n2 ρ2 fun z n3 => acc.length < sizeLine ∧ dcGo g tt tk tv ρ0 ds n3 (putKD acc k z) P else dcGo g tt tk tv ρ0 ds n1 acc P
def tDcD (src : SRC) (g : Pat) (tt : TTD) (tk tv : TD) (vs : List Nat) : TD := fun n ρ Q => src n ρ fun ds n1 => dcGo g tt tk tv (wipeD (lend ρ) vs) ds n1 [] fun acc n2 => Q (dctOf acc) n2
section
variable {W : Wd} {X : Cx} {fr : Bool} {kx vx tg iter ce : Expr} {ifs : List Expr} {scope : Scope} {own : List (Str × Nat)} {src : SRC} {g : Pat} {tt : TTD} {tk tv : TD} {pos : Pos}
/-- pairs: the same keys, values that stand for the trees -/
def RepPs (W : Wd) (pu : Pu) (S : Hp) (kd : List (Key × D)) (kv : List (Key × V)) : Prop := kv.map (·.1) = kd.map (·.1) ∧ Reps W pu S (kd.map (·.2)) (kv.map (·.2))
theorem RepPs.len {pu : Pu} {S : Hp} {kd : List (Key × D)} {kv : List (Key × V)} (r : RepPs W pu S kd kv) : kv.length = kd.length := by
  have := congrArg List.length r.1; simpa using this
theorem RepPs.put {pu : Pu} {S : Hp} {k : Key} {d : D} {v : V} (hv : Rep W pu S d v) : ∀ {kd : List (Key × D)} {kv : List (Key × V)}, RepPs W pu S kd kv → RepPs W pu S (putKD kd k d) (putK kv k v) := fun {kd kv} r => by
  have ha : (kv.any fun p => decide (p.1 = k)) = (kd.any fun p => decide (p.1 = k)) := by
    have e1 : (kv.any fun p => decide (p.1 = k)) = (kv.map (·.1)).any fun z => decide (z = k) := by rw [List.any_map]; rfl
    have e2 : (kd.any fun p => decide (p.1 = k)) = (kd.map (·.1)).any fun z => decide (z = k) := by rw [List.any_map]; rfl
    rw [e1, e2, r.1]
  unfold putK putKD
  rw [ha]
  split
  · have aux : ∀ {kd : List (Key × D)} {kv : List (Key × V)}, RepPs W pu S kd kv → RepPs W pu S (kd.map fun p => if p.1 = k then (p.1, d) else p) (kv.map fun p => if p.1 = k then (p.1, v) else p) := fun {kd} => by
      induction kd with
      | nil =>
        intro kv r
        cases kv with
        | nil => exact r
        | cons _ _ => have := r.1; simp at this
      | cons p kd ih =>
        intro kv r
        cases kv with
        | nil => have := r.1; simp at this
        | cons p' kv =>
          obtain ⟨k1, d1⟩ := p
          obtain ⟨k2, v2⟩ := p'
          obtain ⟨e, rr⟩ := r
          simp only [List.map_cons, List.cons.injEq] at e
          obtain ⟨e1, e2⟩ := e
          simp only [List.map_cons, Reps] at rr
          obtain ⟨v3, us, ee, r1, r2⟩ := rr
          obtain ⟨rfl, rfl⟩ := List.cons.inj ee
          obtain ⟨i1, i2⟩ := ih ⟨e2, r2⟩
          have e1 : k2 = k1 := e1
          subst e1
          by_cases hk : k2 = k
          · refine ⟨?_, ?_⟩
            · simp only [List.map_cons, if_pos hk]; rw [i1]
            · simp only [List.map_cons, if_pos hk]; exact Reps.cons hv i2
          · refine ⟨?_, ?_⟩
            · simp only [List.map_cons, if_neg hk]; rw [i1]
            · simp only [List.map_cons, if_neg hk]; exact Reps.cons r1 i2
    exact aux r
  · refine ⟨by simp [r.1], ?_⟩
    rw [List.map_append, List.map_append]
    exact r.2.append (Reps.one hv)
theorem RepPs.mono {pu pu' : Pu} {S S' : Hp} {kd : List (Key × D)} {kv : List (Key × V)} (m : Mo pu S pu' S') (r : RepPs W pu S kd kv) : RepPs W pu' S' kd kv := ⟨r.1, Reps.mono m _ _ r.2⟩
theorem RepPs.at {pu : Pu} {S H : Hp} {a : Addr} {kd : List (Key × D)} {kv : List (Key × V)} (r : RepPs W pu S kd kv) (e : H a = some (.dK kv)) : DctAt H a (kd.map fun p => .inl p.1) (kv.map (·.2)) := by
  refine ⟨by rw [List.length_map, List.length_map, r.len], .inl ⟨kd.map (·.1), by rw [List.map_map]; rfl, .inl ?_⟩⟩
  rw [← r.1, e]
  have : ∀ l : List (Key × V), (l.map (·.1)).zip (l.map (·.2)) = l := fun l => by
    induction l with
    | nil => rfl
    | cons p l ih => simp [ih]
  rw [this]
theorem RepPs.ow {pu : Pu} {S H : Hp} {a : Addr} {kd : List (Key × D)} {kv : List (Key × V)} (r : RepPs W pu S kd kv) (e : H a = some (.dK kv)) : OwR W pu S H (dctOf kd) a := by
  refine ⟨kv.map (·.2), r.at e, fun o u z => ?_, r.2⟩
  rw [e] at z; cases z
theorem dc_run {c : Ent} {σ : L2.St} {H : Hp} {Q : VK} {pu : Pu} {ρ : List Sl} {P : D → Nat → Prop} {vs : List Nat} (ev : EnvR W c pu σ H ρ) (ht : tDcD src g tt tk tv vs pu.n ρ P) (hgs : ∀ i ∈ g.slots, i ∈ vs) (q : KtF W pu (hdn c σ ρ) H P Q) :
    tDc (rdI W c src) (gPat W.K g) (fun σ H Q => ∃ c, rdT W c tt σ H Q) (fun σ H Q => ∃ c, rdE W c tk σ H Q) (fun σ H Q => ∃ c, rdE W c tv σ H Q) vs σ H Q := by
  refine ⟨pu, ρ, fun ds n => dcGo g tt tk tv (wipeD (lend ρ) vs) ds n [] fun acc n2 => P (dctOf acc) n2, ev, ht, fun pu1 ds hds J H1 s ⟨G, Y, wk, hG, hY⟩ D nD => ?_⟩
  have ev1 := ev.step s
  have nuD : pu1 D = false := ev1.vw.nopu nD
  refine ⟨fun i m H' => m = ds.length - i ∧ i ≤ ds.length ∧ ∃ pu' accD accV, Stp pu1 H1 pu' H' ∧ H' D = some (.dK accV) ∧ pu' D = false ∧ RepPs W pu' (hid (fun a => hdn c σ ρ a || a == D) H') accD accV ∧ dcGo g tt tk tv (wipeD (lend ρ) vs) (ds.drop i) pu'.n accD fun acc n2 => P (dctOf acc) n2,
    ⟨ds.length, by simp, Nat.zero_le _, pu1, [], [], stp_new ev1.vw nD, upd_same, nuD, ⟨rfl, Reps.nil⟩, hds⟩, ?_⟩
  rintro i m H' ⟨rfl, hi', pu', accD, accV, st, hD, nu', ra, hgo⟩
  have hGH := hG pu' H' st
  by_cases hlt : i < ds.length
  · have hdrop : ds.drop i = ds[i] :: ds.drop (i + 1) := List.drop_eq_getElem_cons hlt
    rw [hdrop] at hgo
    refine .inr ⟨wk.goes i H' hlt hGH, fun H2 => ∃ pu' accD accV, Stp pu1 H1 pu' H2 ∧ H2 D = some (.dK accV) ∧ pu' D = false ∧ RepPs W pu' (hid (fun a => hdn c σ ρ a || a == D) H2) accD accV ∧ dcGo g tt tk tv (wipeD (lend ρ) vs) (ds.drop (i + 1)) pu'.n accD fun acc n2 => P (dctOf acc) n2,
      fun H2 z => ⟨ds.length - (i + 1), by omega, rfl, hlt, z⟩, fun x H'' y => ?_⟩
    have hy := wk.yields i H' x H'' hlt hGH y
    have ev2 := ev1.blk nD st ⟨_, hD⟩ vs
    obtain ⟨st2, rx⟩ := hY pu' H' _ st (fun a z => by
      unfold hdn at z
      rcases Bool.or_eq_true_iff.mp z with z | z
      · rcases Bool.or_eq_true_iff.mp z with z | z
        · exact .inl z
        · have : a = D := by simpa using z
          exact .inr (by rw [this]; exact nD)
      · exact .inr (ev2.fresh a z).1.1) ev2.vw.th i x H'' ds[i] (List.getElem?_eq_getElem hlt) hy
    refine pat_run (os := vs) (ev2.step st2) rx hgo hgs fun σ2 ρ2 hP ev3 hw => ?_
    refine ⟨hw.trans (by
      have : ∀ (us : List Nat) (σ : L2.St), L2.wipe (L2.wipe σ us) us = L2.wipe σ us := fun us => by
        induction us with
        | nil => intro σ; rfl
        | cons u us ih =>
          intro σ
          show (L2.wipe ((L2.wipe σ us).set u none) us).set u none = (L2.wipe σ us).set u none
          by_cases hu : u ∈ us
          · rw [wipe_set_in hu, ih]
          · have sc : ∀ (ws : List Nat) (σ : L2.St), u ∉ ws → L2.wipe (σ.set u none) ws = (L2.wipe σ ws).set u none := fun ws => by
              induction ws with
              | nil => intro σ _; rfl
              | cons w ws ih2 =>
                intro σ hn
                have n1 : w ≠ u := fun z => hn (by rw [z]; exact List.mem_cons_self)
                show (L2.wipe (σ.set u none) ws).set w none = ((L2.wipe σ ws).set w none).set u none
                rw [ih2 σ fun z => hn (List.mem_cons_of_mem _ z), List.set_comm _ _ (Ne.symm n1)]
            rw [sc us _ hu, ih, List.set_set]
      exact this vs σ), ?_⟩
    refine ⟨⟨pu1, fun a => hdn c σ ρ a || a == D, H1, c.fr⟩, pu', ρ2, _, ev3, hP, fun pu3 b hb H3 s3 => ?_⟩
    have k3 : Stp pu' H' pu3 H3 := st2.trans s3
    have hD3 : H3 D = some (.dK accV) := k3.kp D _ hD nu'
    have nu3 : pu3 D = false := k3.mo'.off nu' ⟨_, hD⟩
    cases b with
    | false =>
      refine iteF ⟨pu3, accD, accV, st.trans k3, hD3, nu3, ra.mono (k3.mo _), iteF' hb⟩
    | true =>
      refine iteT ⟨⟨pu1, fun a => hdn c σ ρ a || a == D, H1, c.fr⟩, pu3, ρ2, _, ev3.step s3, iteT' hb, fun pu4 dk hk y H4 s4 r4 => ?_⟩
      unfold keyA at hk
      cases ek : keyK dk with
      | none => rw [ek] at hk; exact False.elim hk
      | some k =>
      rw [ek] at hk
      have hyk := keyK_rep ek (RepK.of r4)
      refine ⟨⟨pu1, fun a => hdn c σ ρ a || a == D, H1, c.fr⟩, pu4, ρ2, _, (ev3.step s3).step s4, hk, fun pu5 d hzd v H5 s5 r5 => ?_⟩
      obtain ⟨hz, hd⟩ := hzd
      have k5 : Stp pu' H' pu5 H5 := k3.trans (s4.trans s5)
      have hD5 : H5 D = some (.dK accV) := k5.kp D _ hD nu'
      have nu5 : pu5 D = false := k5.mo'.off nu' ⟨_, hD⟩
      have ra5 := ra.mono (k5.mo (fun a => hdn c σ ρ a || a == D))
      have vis : hid (fun a => hdn c σ ρ a || a == D) (upd H5 D (.dK (putK accV k v))) = hid (fun a => hdn c σ ρ a || a == D) H5 := by
        funext a
        unfold hid
        by_cases ea : a = D
        · subst ea; simp
        · rw [upd_ne ea]
      refine ⟨accV, k, hyk, hD5, by rw [ra.len]; exact hz, pu5, putKD accD k d, putK accV k v, ⟨fun a o e n => ?_, (st.trans k5).up, (st.trans k5).nw, fun a z => ?_⟩, upd_same, nu5, ?_, hd⟩
      · rw [upd_ne (ne_of_none e nD)]
        exact (st.trans k5).kp a o e n
      · obtain ⟨x1, x2, x3, x4, e1, e2⟩ := k5.ok a z
        have : a ≠ D := fun w => by rw [w, nu5] at z; cases z
        exact ⟨x1, x2, x3, x4, by rw [upd_ne this]; exact e1, e2⟩
      · rw [vis]
        exact ra5.put (Rep.mono (mo_less fun a z => Bool.or_eq_true_iff.mpr (.inl z)) d v r5)
  · have hn : i = ds.length := by omega
    subst hn
    rw [List.drop_length] at hgo
    exact .inl ⟨wk.stops H' hGH, q pu' _ hgo D H' (s.trans st) (s.none nD) nu' (ra.ow hD)⟩
theorem pf_dc (hK : X.K = W.K) (hc : X.calm = true) (hN : X.N.Nodup) (hi : PID W X tg iter src) (ok : BlkOk X.N X.env.scope scope own)
    (hg : ∀ (s : Shared) (H : Hp) (C : Addr) (cl : List (Str × Addr)) (fp : List Addr), PG (X.blk s H scope (compEnvC scope cl C X.env) fp) tg (gPat W.K g)) (hgs : ∀ i ∈ g.slots, i ∈ own.map (·.2))
    (ht : ∀ (s : Shared) (H : Hp) (C : Addr) (cl : List (Str × Addr)) (fp : List Addr), PTsD W (X.blk s H scope (compEnvC scope cl C X.env) fp) ifs tt)
    (hk : ∀ (s : Shared) (H : Hp) (C : Addr) (cl : List (Str × Addr)) (fp : List Addr), PD W (X.blk s H scope (compEnvC scope cl C X.env) fp) kx tk)
    (he : ∀ (s : Shared) (H : Hp) (C : Addr) (cl : List (Str × Addr)) (fp : List Addr), PD W (X.blk s H scope (compEnvC scope cl C X.env) fp) vx tv) (hs : ∀ x, foldedSetIterable iter X.env x = pure x := by intro _; rfl) :
    PFD W X (.DictComp kx vx [⟨tg, iter, ifs, 0⟩] scope pos) (tDcD src g tt tk tv (own.map (·.2))) := fun c =>
  PE_imp (pe_dc hc hN (hi c) ok hg (fun s H C cl fp => PTs_ex (ht s H C cl fp)) (fun s H C cl fp => PE_ex (hk s H C cl fp)) (fun s H C cl fp => PE_ex (he s H C cl fp)) hs) fun σ H Q ⟨pu, ρ, P, ev, ht, q⟩ => dc_run ev ht hgs q
end
end DL
namespace DL
open PySem PySem.Spec L2

/-! ### own objects: __init__ -/
/-- in the __init__ of the object at x -/
def Wd.at (W : Wd) (x : Addr) : Wd := { W with me := some x }
section
variable {W : Wd} {z : Addr} {pu : Pu} {h : Addr → Bool} {S H : Hp}
mutual
theorem rep_at : ∀ (d : D) (v : V), Rep (W.at z) pu S d v ↔ Rep W pu S d v
  | .non, v => by simp only [Rep]
  | .bl b, v => by simp only [Rep]
  | .int i, v => by simp only [Rep]
  | .str x, v => by simp only [Rep]
  | .lst ds, v => by simp only [Rep, reps_at ds]
  | .tup ds, v => by simp only [Rep, reps_at ds]; rfl
  | .dct ks ds, v => by simp only [Rep, reps_at ds]
  | .obj c ns ds, v => by simp only [Rep, reps_at ds]; rfl
  | .purse, v => by simp only [Rep]
  | .ty n, v => by simp only [Rep]
  | .cl c, v => by simp only [Rep]; rfl
  | .scr ns, v => by simp only [Rep]; rfl
theorem reps_at : ∀ (ds : List D) (vs : List V), Reps (W.at z) pu S ds vs ↔ Reps W pu S ds vs
  | [], vs => by simp only [Reps]
  | d :: ds, vs => by simp only [Reps, rep_at d, reps_at ds]
end
theorem RepK.rep_obj {d : D} {v : V} (hme : W.me = none) (r : RepK W pu h H d v) (e : isObj d = true) : Rep W pu (hid h H) d v := by
  rcases r with r | ⟨a, _, _, r⟩
  · exact r
  · cases d with
    | obj c ns ds =>
      obtain ⟨_, _, _, _, _, _, _, z⟩ := r
      rw [hme] at z; cases z
    | _ => cases e
theorem RepK.repA' {d : D} {v : V} (hme : W.me = none) (r : RepK W pu h H d v) : RepA W pu h H d v := by
  cases e : isObj d with
  | true => exact .inl (r.rep_obj hme e)
  | false => exact r.repA e
theorem repA_at {d : D} {v : V} : RepA (W.at z) pu h H d v ↔ RepA W pu h H d v := by
  unfold RepA
  rw [rep_at]
  refine ⟨fun r => r.imp id fun ⟨e, a, e1, n, r⟩ => ⟨e, a, e1, n, ?_⟩, fun r => r.imp id fun ⟨e, a, e1, n, r⟩ => ⟨e, a, e1, n, ?_⟩⟩
  · cases d with
    | lst ds => obtain ⟨vs, h1, h2⟩ := r; exact ⟨vs, h1, (reps_at _ _).mp h2⟩
    | dct ks ds => obtain ⟨vs, h1, h3, h2⟩ := r; exact ⟨vs, h1, h3, (reps_at _ _).mp h2⟩
    | obj c ns ds => cases e
    | _ => exact r
  · cases d with
    | lst ds => obtain ⟨vs, h1, h2⟩ := r; exact ⟨vs, h1, (reps_at _ _).mpr h2⟩
    | dct ks ds => obtain ⟨vs, h1, h3, h2⟩ := r; exact ⟨vs, h1, h3, (reps_at _ _).mpr h2⟩
    | obj c ns ds => cases e
    | _ => exact r
theorem argsR_at : ∀ {ms : List Bool} {ds : List D} {vs : List V}, ArgsR (W.at z) pu h H ms ds vs ↔ ArgsR W pu h H ms ds vs
  | [], _, _ => Iff.rfl
  | m :: ms, ds, vs => by
    unfold ArgsR
    refine ⟨fun ⟨d, ds', v, vs', e1, e2, q, rest⟩ => ⟨d, ds', v, vs', e1, e2, ?_, argsR_at.mp rest⟩, fun ⟨d, ds', v, vs', e1, e2, q, rest⟩ => ⟨d, ds', v, vs', e1, e2, ?_, argsR_at.mpr rest⟩⟩
    · cases m with
      | true => rw [if_pos rfl] at q ⊢; exact repA_at.mp q
      | false => rw [if_neg Bool.false_ne_true] at q ⊢; exact (rep_at d v).mp q
    · cases m with
      | true => rw [if_pos rfl] at q ⊢; exact repA_at.mpr q
      | false => rw [if_neg Bool.false_ne_true] at q ⊢; exact (rep_at d v).mpr q
end
section
variable {P : Program} {w : World} {K : PySem.W.Frag} {mg : Str → Option Value} {base : Heap} {W : Wd} {x : Str} {k : Nat} {ms : List Bool} {dd : List D} {F : FnD} {z : Addr}
theorem spD_at (hme : W.me = none) {vs : List V} {H : Hp} {Q : VK} {E : XK} (h : spD (W.at z) ms false F vs H Q E) : spD W ms false F vs H Q E := by
  obtain ⟨pu, hd, ds, P', h1, h2, h3, h4, h5⟩ := h
  refine ⟨pu, hd, ds, P', h1, h2, argsR_at.mp h3, h4, fun pu' d hd' v H' rr => h5 pu' d hd' v H' ?_⟩
  unfold RetR at rr ⊢
  rw [if_neg Bool.false_ne_true] at rr ⊢
  obtain ⟨s, r⟩ := rr
  exact ⟨s, (rep_at d v).mpr r⟩
theorem fnOk_at {f : Addr} {fd : FuncData} {ps : List Str} (hme : W.me = none) (G : FnOk P w K mg base CX0 k f fd ps (spD W ms false F)) : FnOk P w K mg base CX0 k f fd ps (spD (W.at z) ms false F) :=
  G.imp (fun _ _ _ _ h => spD_at hme h)
theorem FnAt.at (hme : W.me = none) (A : FnAt P w K mg base W x k ms false dd F) : FnAt P w K mg base (W.at z) x k ms false dd F := by
  obtain ⟨f, fd, ps, dvs, ds, h1, h2, h3, h4, h5, h6⟩ := A.ex
  exact ⟨f, fd, ps, dvs, ds, h1, h2, fnOk_at hme h3, h4, h5, fun pu S => (reps_at _ _).mpr (h6 pu S)⟩
end

/-- self.f = value, a field that was not there -/
def tSetFld (i : Nat) (cn f : Str) (te : TD) : TDS := fun E n ρ => te n ρ fun d n1 => match slot ρ i with
  | .ow (.obj c ns ds) => c = cn ∧ f ∉ ns ∧ ns.length < 1000 ∧ E.nx n1 (ρ.set i (.ow (.obj c (ns ++ [f]) (ds ++ [d]))))
  | _ => False
theorem putF_new {f : Str} {v : V} : ∀ {ns : List Str} {vs : List V}, f ∉ ns → ns.length = vs.length → putF f v (ns.zip vs) = (ns ++ [f]).zip (vs ++ [v])
  | [], [], _, _ => rfl
  | [], _ :: _, _, h => by simp at h
  | _ :: _, [], _, h => by simp at h
  | n :: ns, u :: vs, hn, hl => by
    have h1 : ¬ n = f := fun e => hn (by rw [e]; exact List.mem_cons_self)
    show putF f v ((n, u) :: ns.zip vs) = (n, u) :: (ns ++ [f]).zip (vs ++ [v])
    unfold putF
    rw [if_neg h1, putF_new (fun z => hn (List.mem_cons_of_mem _ z)) (by simpa using hl)]
section
variable {W : Wd} {X : Cx} {fr : Bool} {o e : Expr} {te : TD} {f cn : Str} {C : Addr} {i : Nat} {pos pos' : Pos}
theorem psd_setFld (hK : X.K = W.K) (hC : W.cls cn = some C) (cl : Cls W.K C) (na : NoAttr W.K C f) (hv : PE X o (L2.tVar i)) (he : PD W X e te) (hs : swapsWith e (some (.Attribute o f pos')) pos.line X.env = pure false := by rfl) :
    PSD W X fr (.Assign [.Attribute o f pos'] e pos) (tSetFld i cn f te) := fun c _ => PS_imp (ps_fld hv (he c) hs) fun De σ H ⟨pu, ρ, E, ev, ht, h1, _⟩ => by
  refine ⟨pu, ρ, _, ev, ht, fun pu1 d hd v H1 s r => ?_⟩
  cases hsl : slot ρ i with
  | ow dd =>
    rw [hsl] at hd
    cases dd with
    | obj c' ns ds =>
      obtain ⟨rfl, hf, hl, hd⟩ := hd
      have e0 := slot_some hsl (by intro z; cases z)
      have ev1 := ev.step s
      obtain ⟨a, a1, ⟨C', dx, us, b0, b1, b2, b3, b4⟩, _⟩ := own_at ev1 e0
      rw [hC] at b0; cases b0
      refine ⟨.ref a, a1, a, C, dx, _, rfl, b1, by rw [hK]; exact cl, by rw [hK]; exact na, ?_, ?_⟩
      · rw [List.length_zip]; omega
      · rw [putF_new hf b2]
        exact h1 pu1 _ hd σ _ (ev1.mut (d' := .obj c' (ns ++ [f]) (ds ++ [d])) (o := .ins C dx ((ns ++ [f]).zip (us ++ [v]))) e0 a1 ⟨C, dx, us ++ [v], hC, upd_same, by simp [b2], b3.append (Reps.one r), b4⟩)
    | _ => exact False.elim hd
  | un => rw [hsl] at hd; exact False.elim hd
  | sh _ => rw [hsl] at hd; exact False.elim hd
  | pk _ => rw [hsl] at hd; exact False.elim hd
end
/-- what an __init__ promises -/
def spI (W : Wd) (cn : Str) (ms : List Bool) (F : FnD) : Sp := fun vs H Q _ => ∃ pu hd H0 x dx C ds vs' P, vs = .ref x :: vs' ∧ W.cls cn = some C ∧ H = upd (upd H0 dx (.own x)) x (.ins C dx []) ∧ H0 x = none ∧ H0 dx = none ∧ dx ≠ x ∧ Vw pu hd H0 ∧ ArgsR W pu hd H0 ms ds vs' ∧ F pu.n ds P ∧
  ∀ (pu' : Pu) d, P d pu'.n → ∀ H', Stp pu H0 pu' H' → Rep W pu' (hid hd H') d (.ref x) → Q .non H'
def selfQ (Q : D → Prop) (s : Sl) : Prop := match s with
  | .ow (.obj c ns ds) => Q (.obj c ns ds)
  | _ => False
def initD (n : Nat) (cn : Str) (ms : List Bool) (t : TDS) : FnD := fun m ds Q => t { nx := fun m1 ρ' => selfQ (fun d => Q d m1) (slot ρ' 0), rt := fun _ _ => False } m (.ow (.obj cn [] []) :: startD (n - 1) ms ds)
section
variable {P : Program} {w : World} {K : PySem.W.Frag} {mg : Str → Option Value} {base : Heap}
theorem init_ok {W : Wd} (hme : W.me = none) {cn : Str} {x qual : Str} {params : Arguments} {body : List Stmt} {scope : Scope} {dvs : List V} {kws : List (Str × V)} {f : Addr} {fd : FuncData} {N ps : List Str} {k : Nat} {ms : List Bool} {t : TDS} (F : FunD K x qual params body scope dvs kws f fd) (S : FnScope N ps scope) (hp : ps.length = ms.length + 1) (hN : ps.length ≤ N.length)
    (hb : ∀ (z : Addr) (cdv : Value) (A : Around) (outer : List Env) (s : Shared) (H : Hp) (E : XK), Room k (cxOf CX0 P w K mg base N qual scope f cdv A outer s H E).nox.A → PSsD (W.at z) (cxOf CX0 P w K mg base N qual scope f cdv A outer s H E).nox false body t) :
    FnOk P w K mg base CX0 (k + 1) f fd ps (spI W cn ms (initD N.length cn ms t)) := by
  refine F.ok S (fun vs H Q E h => ?_) (fun cdv A outer s H vs Q E hr h => ?_)
  · obtain ⟨pu, hd, H0, x, dx, C, ds, vs', P', rfl, _, _, _, _, _, _, r, _⟩ := h
    rw [List.length_cons, argsR_len r, hp]
  · obtain ⟨pu, hd, H0, x, dx, C, ds, vs', P', rfl, hC, rfl, nx, ndx, ne, vw, r, ht, q⟩ := h
    have hl : (V.non :: vs').length ≤ N.length := by rw [List.length_cons, argsR_len r, ← hp]; exact hN
    have r2 : ArgsR (W.at x) pu hd H0 (false :: ms) (.non :: ds) (.non :: vs') := ⟨.non, ds, .non, vs', rfl, rfl, by rw [if_neg Bool.false_ne_true]; simp only [Rep], argsR_at.mpr r⟩
    have ev0 := env_start (W := W.at x) vw false (N := N) r2 hl
    have st0 : Stp pu H0 pu (upd (upd H0 dx (.own x)) x (.ins C dx [])) := ⟨fun a o e _ => by
      have n1 : a ≠ x := fun z => by rw [z, nx] at e; cases e
      have n2 : a ≠ dx := fun z => by rw [z, ndx] at e; cases e
      rw [upd_ne n1, upd_ne n2]; exact e, fun _ z => z, fun _ z => .inl z, fun a z => by
      obtain ⟨y1, y2, y3, y4, e, e'⟩ := vw.ok a z
      have n1 : a ≠ x := fun z => by rw [z, nx] at e; cases e
      have n2 : a ≠ dx := fun z => by rw [z, ndx] at e; cases e
      exact ⟨y1, y2, y3, y4, by rw [upd_ne n1, upd_ne n2]; exact e, e'⟩⟩
    have ev1 := ev0.setOw (i := 0) (d := .obj cn [] []) st0 nx (vw.nopu nx) ⟨C, dx, [], hC, by rw [upd_same]; rfl, rfl, Reps.nil, rfl⟩
    have bd := hb x cdv A outer s (upd (upd H0 dx (.own x)) x (.ins C dx [])) E hr ⟨pu, hd, H0, false⟩ rfl
    have hst : (start N (V.non :: vs')).set 0 (some (.ref x)) = start N (V.ref x :: vs') := rfl
    have hro : (startD N.length (false :: ms) (.non :: ds)).set 0 (.ow (.obj cn [] [])) = .ow (.obj cn [] []) :: startD (N.length - 1) ms ds := by
      simp only [startD, List.set_cons_zero]
    rw [hst, hro] at ev1
    refine ⟨rdS (W.at x) ⟨pu, hd, H0, false⟩ t, bd.nox, pu, _, _, ev1, ht, fun pu' ρ' z σ' H' ev => ?_, fun _ d z => False.elim z, fun _ _ z => False.elim z, fun _ _ z => False.elim z⟩
    have z : selfQ (fun d => P' d pu'.n) (slot ρ' 0) := z
    cases hs : slot ρ' 0 with
    | ow d =>
      rw [hs] at z
      cases d with
      | obj c ns ds' =>
        have e0 := slot_some hs (by intro z; cases z)
        obtain ⟨a, a1, a2, a3⟩ := own_at ev e0
        have ha : a = x := by
          obtain ⟨_, _, _, _, _, _, _, k⟩ := a2
          have k : some x = some a := k
          cases k; rfl
        subst ha
        obtain ⟨⟨_, ch⟩, nu, _⟩ := ev.fresh a a3
        refine q pu' _ z H' ev.stp ((rep_at _ _).mp (ow_rep ch nu (a2.step (mo_less fun b zz => ?_) fun _ z => z)))
        rcases Bool.or_eq_true_iff.mp zz with zz | zz
        · exact Bool.or_eq_true_iff.mpr (.inl zz)
        · have : b = a := by simpa using zz
          rw [this]; unfold hdn; rw [a3]; simp
      | _ => exact False.elim z
    | un => rw [hs] at z; exact False.elim z
    | sh d => rw [hs] at z; exact False.elim z
    | pk d => rw [hs] at z; exact False.elim z
/-- a class that stands at a name of the module -/
structure MkAt (P : Program) (w : World) (K : PySem.W.Frag) (mg : Str → Option Value) (base : Heap) (W : Wd) (x cn : Str) (k : Nat) (ms : List Bool) (ks : List Str) (gV : List V → List V → List V) (F : FnD) : Prop where
  ex : ∃ (C f : Addr) (fd : FuncData) (ps : List Str) (g : List Value → List Value → List Value), mg x = some (.ref C) ∧ W.cls cn = some C ∧ Mk K C f ∧ FnOk P w K mg base CX0 k f fd ps (spI W cn ms F) ∧ (ks = [] → Binds K fd ps []) ∧ (ks ≠ [] → KBn K fd ps 1 ks g gV)
/-- a method of a class -/
structure MtAt (P : Program) (w : World) (K : PySem.W.Frag) (mg : Str → Option Value) (base : Heap) (W : Wd) (cn m : Str) (k : Nat) (ms : List Bool) (fr : Bool) (F : FnD) : Prop where
  ex : ∃ (C f : Addr) (fd : FuncData) (ps : List Str), W.cls cn = some C ∧ Cls K C ∧ Meth K C m f ∧ FnOk P w K mg base CX0 k f fd ps (spD W ms fr F) ∧ Binds K fd ps []
end
section
variable {W : Wd} {X : Cx} {x cn m : Str} {k : Nat} {ms : List Bool} {F : FnD} {p apos pos : Pos} {a e o : Expr} {es : List Expr} {ta to : TD} {tas : TAD} {fr : Bool}
theorem make_post {C : Addr} {c : Ent} {σ : L2.St} {H : Hp} {Q : VK} {pu pu1 : Pu} {ρ : List Sl} {P : D → Nat → Prop} {H1 : Hp} {xs : List D} {vs : List V} (ev : EnvR W c pu σ H ρ) (s : Stp pu H pu1 H1) (r : ArgsR W pu1 (hdn c σ ρ) H1 ms xs vs) (hF : F pu1.n xs P) (hC : W.cls cn = some C)
    (q : Kt W pu (hdn c σ ρ) H P Q) (y dx : Addr) (n1 : H1 y = none) (n2 : H1 dx = none) (ne : dx ≠ y) (E : XK) : spI W cn ms F (.ref y :: vs) (upd (upd H1 dx (.own y)) y (.ins C dx [])) (fun v H2 => v = .non ∧ Q (.ref y) H2) E :=
  ⟨pu1, hdn c σ ρ, H1, y, dx, C, xs, vs, P, rfl, hC, rfl, n1, n2, ne, (ev.step s).vw, r, hF, fun pu' d hd H' st rp => ⟨rfl, q pu' d hd _ H' (s.trans st) rp⟩⟩
theorem pd_make {gV : List V → List V → List V} (A : MkAt X.prog X.w X.K X.mg X.base W x cn k ms [] gV F) (hr : Room (k + 1) X.A) (hg : Gl X x) (ha : PAM W X ms (e :: es) tas) (hdb : (x == ("__debug__" : Str)) = false := by decide) (he : starEach (e :: es) X.env = (false, eval e X.env) :: starEach es X.env := by rfl) (hpl : (backTo pos (starEach es X.env)).any (·.1) = false := by rfl) :
    PD W X (.Call (.Name x p) (e :: es) [] pos) (tFn F [] tas) := fun c => by
  obtain ⟨C, f, fd, ps, g, hm, hC, M, G, hb, _⟩ := A.ex
  refine PE_imp (pe_make M G hr hg hm (hb rfl) .nil pass0 (ha c) hdb he hpl) fun σ H Q ⟨pu, ρ, P, ev, ht, q⟩ => ?_
  refine ⟨pu, ρ, _, ev, ht, fun pu1 xs hx vs H1 s r y dx n1 n2 ne => ?_⟩
  rw [List.append_nil] at hx ⊢
  exact make_post ev s r hx hC q y dx n1 n2 ne _
/-- the keywords' values -/
def rdKw (W : Wd) (c : Ent) (ms : List Bool) (t : TAD) : TA := rdAM W c ms t
def PKwD (W : Wd) (X : Cx) (ms : List Bool) (kws : List Keyword) (t : TAD) : Prop := ∀ c, PK X kws (rdAM W c ms t)
theorem PK_imp {kws : List Keyword} {t t' : TA} (h : PK X kws t) (k : ∀ σ H Q, t' σ H Q → t σ H Q) : PK X kws t' := ⟨fun pos pins s σ H Q I q => h.run pos pins s σ H Q I (k _ _ _ q)⟩
theorem pkw_nil : PKwD W X [] [] tNilA := fun c => PK_imp L2.pk_nil fun σ H Q ⟨pu, ρ, P, ev, ht, q⟩ => q pu [] ht [] H ev.rfl' ⟨rfl, rfl⟩
theorem pkw_sh {kws : List Keyword} {nm : Option Str} {kpos : Pos} (ha : PD W X a ta) (hs : PKwD W X ms kws tas) : PKwD W X (false :: ms) (⟨nm, a, kpos⟩ :: kws) (tConsA ta tas) := fun c =>
  PK_imp (L2.pk_cons (ha c) (hs c)) fun σ H Q ⟨pu, ρ, P, ev, ht, q⟩ => ⟨pu, ρ, _, ev, ht, fun pu1 x hx v H1 s1 r1 => ⟨pu1, ρ, _, ev.step s1, hx, fun pu2 xs hxs vs H2 s2 r2 =>
    q pu2 (x :: xs) hxs (v :: vs) H2 (s1.trans s2) ⟨x, xs, v, vs, rfl, rfl, by rw [if_neg Bool.false_ne_true]; exact Rep.mono (s2.mo _) x v r1, r2⟩⟩⟩
theorem pkw_sk {kws : List Keyword} {nm : Option Str} {kpos : Pos} (ha : PD W X a ta) (hs : PKwD W X ms kws tas) : PKwD W X (true :: ms) (⟨nm, a, kpos⟩ :: kws) (tConsA ta tas) := fun c =>
  PK_imp (L2.pk_cons (ha c) (hs c)) fun σ H Q ⟨pu, ρ, P, ev, ht, q⟩ => ⟨pu, ρ, _, ev, ht, fun pu1 x hx v H1 s1 r1 => ⟨pu1, ρ, _, ev.step s1, hx, fun pu2 xs hxs vs H2 s2 r2 =>
    q pu2 (x :: xs) hxs (v :: vs) H2 (s1.trans s2) ⟨x, xs, v, vs, rfl, rfl, by rw [if_pos rfl]; exact .inl (Rep.mono (s2.mo _) x v r1), r2⟩⟩⟩
theorem pkw_pk {kws : List Keyword} {nm : Option Str} {kpos : Pos} (ha : PKD W X a ta) (hs : PKwD W X ms kws tas) : PKwD W X (true :: ms) (⟨nm, a, kpos⟩ :: kws) (tConsK ta tas) := fun c =>
  PK_imp (L2.pk_cons (ha c) (hs c)) fun σ H Q ⟨pu, ρ, P, ev, ht, q⟩ => ⟨pu, ρ, _, ev, ht, fun pu1 x hx v H1 s1 r1 => ⟨pu1, ρ, _, ev.step s1, hx.2, fun pu2 xs hxs vs H2 s2 r2 =>
    q pu2 (x :: xs) hxs (v :: vs) H2 (s1.trans s2) ⟨x, xs, v, vs, rfl, rfl, by rw [if_pos rfl]; exact (r1.step s2).repA hx.1, r2⟩⟩⟩
/-- o.m(..) -/
def tMetD (cn m : Str) (F : FnD) (to : TD) (tas : TAD) : TD := fun n ρ Q => to n ρ fun d n1 => match d with
  | .obj c ns ds => c = cn ∧ (ns.contains m) = false ∧ tas n1 ρ fun xs n2 => F n2 (.obj c ns ds :: xs) Q
  | _ => False
theorem lookup_zip_none {m : Str} : ∀ {ns : List Str} {vs : List V}, ns.contains m = false → (ns.zip vs).lookup m = none
  | [], _, _ => by simp
  | _ :: _, [], _ => by simp
  | n :: ns, v :: vs, h => by
    simp only [List.contains_cons, Bool.or_eq_false_iff] at h
    rw [List.zip_cons_cons, List.lookup_cons, h.1]
    exact lookup_zip_none h.2
theorem meth_run {C : Addr} {c : Ent} {σ : L2.St} {H : Hp} {Q : VK} {pu : Pu} {ρ : List Sl} {P : D → Nat → Prop} {E : XK} {ms1 : List Bool} (hC : W.cls cn = some C) (ev : EnvR W c pu σ H ρ) (ht : tMetD cn m F to tas pu.n ρ P)
    (q : ∀ (pu' : Pu) d, P d pu'.n → ∀ v pu1 H1 H', Stp pu H pu1 H1 → RetR W ⟨pu1, hdn c σ ρ, H1, fr⟩ pu' d v H' → Q v H') : L2.tMeth C m (spD W (false :: ms1) fr F) [] E (rdE W c to) (rdAM W c ms1 tas) σ H Q := by
  refine ⟨pu, ρ, _, ev, ht, fun pu1 d hd v H1 s1 r1 => ?_⟩
  cases d with
  | obj c' ns ds =>
    obtain ⟨rfl, hn, hd⟩ := hd
    obtain ⟨a, C', dx, us, rfl, hC', q1, _, _⟩ := (RepK.of r1).obj
    rw [hC] at hC'; cases hC'
    refine ⟨a, dx, _, rfl, q1, lookup_zip_none hn, pu1, ρ, _, ev.step s1, hd, fun pu2 xs hx vs H2 s2 r2 => ?_⟩
    show spD W (false :: ms1) fr F (V.ref a :: (vs ++ [])) H2 Q E
    rw [List.append_nil]
    exact ⟨pu2, hdn c σ ρ, _, P, ((ev.step s1).step s2).pok, ((ev.step s1).step s2).vw.th, ⟨_, xs, _, vs, rfl, rfl, by rw [if_neg Bool.false_ne_true]; exact Rep.mono (s2.mo _) _ _ r1, r2⟩, hx, fun pu' d hP v H' rr => q pu' d hP v pu2 H2 H' (s1.trans s2) rr⟩
  | _ => exact False.elim hd
theorem pd_meth {pl : Sem Bool} {ms1 : List Bool} (A : MtAt X.prog X.w X.K X.mg X.base W cn m k (false :: ms1) false F) (hr : Room k X.A) (ho : PD W X o to) (ha : PAM W X ms1 (e :: es) tas)
    (hst : starEach (e :: es) X.env = (false, eval e X.env) :: starEach es X.env := by rfl) (hpl : (backTo pos (starEach es X.env)).any (·.1) = false := by rfl)
    (ht : eval (.Call (.Attribute o m apos) (e :: es) [] pos) X.env = (do
      let ov ← eval o X.env
      standAt apos.atName
      let (f, first) ← holding [ov] (getMethod ov m pl)
      callWith pos f first (backTo pos (starEach (e :: es) X.env)) (backToKw pos (keywordEach [] X.env))) := by rfl) : PD W X (.Call (.Attribute o m apos) (e :: es) [] pos) (tMetD cn m F to tas) := fun c => by
  obtain ⟨C, f, fd, ps, hC, cl, M, G, hb⟩ := A.ex
  refine PE_imp (pe_meth (ho c) cl M G hr hb .nil pass0 (ha c) hst hpl ht) fun σ H Q ⟨pu, ρ, P, ev, ht, q⟩ => meth_run hC ev ht fun pu' d hP v pu1 H1 H' s rr => ?_
  unfold RetR at rr
  rw [if_neg Bool.false_ne_true] at rr
  obtain ⟨s', r'⟩ := rr
  exact q pu' d hP v H' (s.trans s') r'
theorem pf_meth {pl : Sem Bool} {ms1 : List Bool} (A : MtAt X.prog X.w X.K X.mg X.base W cn m k (false :: ms1) true F) (hr : Room k X.A) (ho : PD W X o to) (ha : PAM W X ms1 (e :: es) tas)
    (hst : starEach (e :: es) X.env = (false, eval e X.env) :: starEach es X.env := by rfl) (hpl : (backTo pos (starEach es X.env)).any (·.1) = false := by rfl)
    (ht : eval (.Call (.Attribute o m apos) (e :: es) [] pos) X.env = (do
      let ov ← eval o X.env
      standAt apos.atName
      let (f, first) ← holding [ov] (getMethod ov m pl)
      callWith pos f first (backTo pos (starEach (e :: es) X.env)) (backToKw pos (keywordEach [] X.env))) := by rfl) : PFD W X (.Call (.Attribute o m apos) (e :: es) [] pos) (tMetD cn m F to tas) := fun c => by
  obtain ⟨C, f, fd, ps, hC, cl, M, G, hb⟩ := A.ex
  refine PE_imp (pe_meth (ho c) cl M G hr hb .nil pass0 (ha c) hst hpl ht) fun σ H Q ⟨pu, ρ, P, ev, ht, q⟩ => meth_run hC ev ht fun pu' d hP v pu1 H1 H' s rr => ?_
  unfold RetR at rr
  rw [if_pos rfl] at rr
  obtain ⟨p, rfl, s', n, nu, r'⟩ := rr
  exact q pu' d hP p H' (s.trans s') (s.none n) nu r'
theorem pam_tnil {c : Ent} : ∀ σ H Q, rdAM W c [] tNilA σ H Q → L2.tNil σ H Q := fun σ H Q ⟨pu, ρ, P, ev, ht, q⟩ => q pu [] ht [] H ev.rfl' ⟨rfl, rfl⟩
theorem pd_meth0 {pl : Sem Bool} (A : MtAt X.prog X.w X.K X.mg X.base W cn m k [false] false F) (hr : Room k X.A) (ho : PD W X o to)
    (ht : eval (.Call (.Attribute o m apos) [] [] pos) X.env = (do
      let ov ← eval o X.env
      standAt apos.atName
      let (f, first) ← holding [ov] (getMethod ov m pl)
      callWith pos f first (backTo pos (starEach [] X.env)) (backToKw pos (keywordEach [] X.env))) := by rfl) : PD W X (.Call (.Attribute o m apos) [] [] pos) (tMetD cn m F to tNilA) := fun c => by
  obtain ⟨C, f, fd, ps, hC, cl, M, G, hb⟩ := A.ex
  refine PE_imp (pe_meth0 (ho c) cl M G hr hb .nil pass0 ht) fun σ H Q ⟨pu, ρ, P, ev, ht, q⟩ => ?_
  have z := meth_run (ms1 := []) (fr := false) (Q := Q) (E := E0) hC ev ht fun pu' d hP v pu1 H1 H' s rr => by
    unfold RetR at rr
    rw [if_neg Bool.false_ne_true] at rr
    obtain ⟨s', r'⟩ := rr
    exact q pu' d hP v H' (s.trans s') r'
  obtain ⟨pu', ρ', P', ev', h1, h2⟩ := z
  exact ⟨pu', ρ', P', ev', h1, fun pu1 d hd v H1 s r => by
    obtain ⟨a, dx, fs, e1, e2, e3, e4⟩ := h2 pu1 d hd v H1 s r
    exact ⟨a, dx, fs, e1, e2, e3, pam_tnil _ _ _ e4⟩⟩
theorem pf_meth0 {pl : Sem Bool} (A : MtAt X.prog X.w X.K X.mg X.base W cn m k [false] true F) (hr : Room k X.A) (ho : PD W X o to)
    (ht : eval (.Call (.Attribute o m apos) [] [] pos) X.env = (do
      let ov ← eval o X.env
      standAt apos.atName
      let (f, first) ← holding [ov] (getMethod ov m pl)
      callWith pos f first (backTo pos (starEach [] X.env)) (backToKw pos (keywordEach [] X.env))) := by rfl) : PFD W X (.Call (.Attribute o m apos) [] [] pos) (tMetD cn m F to tNilA) := fun c => by
  obtain ⟨C, f, fd, ps, hC, cl, M, G, hb⟩ := A.ex
  refine PE_imp (pe_meth0 (ho c) cl M G hr hb .nil pass0 ht) fun σ H Q ⟨pu, ρ, P, ev, ht, q⟩ => ?_
  have z := meth_run (ms1 := []) (fr := true) (Q := Q) (E := E0) hC ev ht fun pu' d hP v pu1 H1 H' s rr => by
    unfold RetR at rr
    rw [if_pos rfl] at rr
    obtain ⟨p, rfl, s', n, nu, r'⟩ := rr
    exact q pu' d hP p H' (s.trans s') (s.none n) nu r'
  obtain ⟨pu', ρ', P', ev', h1, h2⟩ := z
  exact ⟨pu', ρ', P', ev', h1, fun pu1 d hd v H1 s r => by
    obtain ⟨a, dx, fs, e1, e2, e3, e4⟩ := h2 pu1 d hd v H1 s r
    exact ⟨a, dx, fs, e1, e2, e3, pam_tnil _ _ _ e4⟩⟩
end
end DL
/-! A set made of a list, keys of any kind. -/
namespace DLS
open PySem PySem.Spec

section
variable {κ : Type} [DecidableEq κ]
/-- is k among the first i; how many different ones are they -/
def seen (f : Nat → κ) : Nat → κ → Bool
  | 0, _ => false
  | i + 1, k => seen f i k || decide (k = f i)
def dist (f : Nat → κ) : Nat → Nat
  | 0 => 0
  | i + 1 => if seen f i (f i) then dist f i else dist f i + 1
theorem dist_le (f : Nat → κ) : ∀ i, dist f i ≤ i
  | 0 => Nat.le_refl _
  | i + 1 => by
    have := dist_le f i
    show (if seen f i (f i) then dist f i else dist f i + 1) ≤ i + 1
    split <;> omega
end
section
variable {prog : Program} {w : World} {κ : Type} [DecidableEq κ] (knd : KeyKind prog w κ) {A : Around}
section
variable {R : Result → Shared → Prop} {J : Addr} {fp wr : List Addr} {G : Array GenState → Array GenState → Prop} {n : Nat} {At : Nat → Value → Prop} {St : Nat → Shared → Prop}
theorem under_upd (A : Around) (x : Args) : A.under (.builtin "set.update.loop" x) = A.in1 := Around.under_plainId PyProof.Rows.F.plain_set_update_loop x
theorem upd_loop (W : WalksS prog w A.in1 J fp wr G n At St) {S : Addr} (hS : S ∉ fp) {f : Nat → κ} (hf : ∀ i v, At i v → knd.is (f i) v = true ∧ v.scannable = true) (hn : n + 1 < scanBound) (d : Nat) :
    ∀ i s, i + d = n → St i s → s.heap.SetOf knd S (seen f i) (dist f i) →
      (∀ s', Moved (S :: wr) G s s' → s'.heap.SetOf knd S (seen f n) (dist f n) → R (.ok (.ret .none)) s') → codeAny (model prog w) A (.builtin "set.update.loop" ⟨[.ref S, .ref J], []⟩) R s := by
  have out : S ∉ wr := fun z => hS (W.sub _ z)
  have more : ∀ b ∈ wr, b ∈ S :: wr := fun b z => .tail _ z
  have stay : ∀ {i : Nat} {s s' : Shared}, Moved wr G s s' → s.heap.SetOf knd S (seen f i) (dist f i) → s'.heap.SetOf knd S (seen f i) (dist f i) := fun m ⟨o, es, ep, t, e, z⟩ => ⟨o, es, ep, t, m.heap S _ out e, z⟩
  induction d with
  | zero =>
    intro i s e st hs k
    have e : i = n := e
    subst e
    refine codeAny_builtin PyProof.Rows.F.entry_set_update_loop ?_
    rw [under_upd]
    exact wpAny_bind (W.done s _ _ st fun s' m => wpAny_pure (k s' (m.mono more) (stay m hs)))
  | succ d rec =>
    intro i s e st hs k
    have lt : i < n := by omega
    refine codeAny_builtin PyProof.Rows.F.entry_set_update_loop ?_
    rw [under_upd]
    refine wpAny_bind (W.item i s _ _ lt st fun v s1 hv st1 m => wpAny_bind (wpAny_holding (wpAny_holding (wpAny_bind (knd.pyHash (hf i v hv).1 ?_)))))
    have le := dist_le f i
    refine wpAny_setAddHashed_of (knd := knd) (s := { s1 with toks := s1.toks + 1 }) (hf i v hv).1 (hf i v hv).2 (stay (s' := s1) m hs) (by omega) fun h2 sb hs2 => wpAny_pure ⟨plainId_quiet PyProof.Rows.F.plain_set_update_loop _, ?_⟩
    refine rec (i + 1) _ (by omega) (W.frame _ s1 _ _ st1 (Nat.le_succ _) fun b z o q => (sb.2 b fun c => hS (c ▸ z)).trans q) hs2 fun s3 m3 z => k s3 (Moved.trans W.gtrans ((m.mono more).then_heap (Nat.le_succ _) fun b o z q => (sb.2 b fun c => z (c ▸ .head _)).trans q) m3) z
end
/-- set(l): the fresh object is the set of the list's keys -/
theorem call_set {E : Value → Shared → Prop} {s : Shared} {l : Addr} {items : Array Value} {f : Nat → κ} {Q : Value → Shared → Prop} (hh : A.handled = none) (hl : s.heap.IsList l items) (hf : ∀ i v, items[i]? = some v → knd.is (f i) v = true ∧ v.scannable = true) (hb : items.size + 1 < scanBound)
    (h : ∀ (h' : Heap) (tk : Nat), h'.SetOf knd s.heap.objs.size (seen f items.size) (dist f items.size) → (∀ b o, b < s.heap.objs.size → s.heap.get? b = some o → h'.get? b = some o) → Q (.ref s.heap.objs.size) { s with heap := h', toks := tk }) :
    wpAny (model prog w) A (call (.type "set") [.ref l]) Q E s := by
  obtain ⟨c, tl, mro⟩ := F.called_set.mro
  have c1 := F.called_set.made; have c2 := F.called_set.sub; have c3 := F.called_set.notType; have c4 := F.called_set.canCreate; have c5 := F.typeCall_set_1 (.ref l)
  refine wpAny_call (codeAny_of_tree (wpAny_pure ⟨Code.quiet_builtin _ (by decide +kernel), codeAny_builtin PySem.F.entry_type_call ?_⟩))
  rw [Around.under_plain (weight_type_call_type "set" [.ref l] []) rfl]
  repeat any_goals (first | assumption | wp_step)
  refine codeAny_mono (code_set_new_1 (.ref l) (E := E) (Q₁ := fun ob s1 => ∃ z : Bool, ob = .ref s.heap.objs.size ∧ s1 = { s with heap := s.heap.push { cls := .type "set", dict := none, data := .set #[] 0 (.fresh 0 0 z) } }) fun z => ⟨z, rfl, rfl⟩) fun r s1 hr => ?_
  match r, hr with
  | .error _, hr => exact hr
  | .ok (.ret ob), ⟨z, e1, e2⟩ =>
    subst e1 e2
    have hS := Heap.get?_push_size s.heap (o := { cls := .type "set", dict := none, data := .set #[] 0 (.fresh 0 0 z) }) rfl
    have hT : Shared.TypeIs { s with heap := s.heap.push { cls := .type "set", dict := none, data := .set #[] 0 (.fresh 0 0 z) } } (.ref s.heap.objs.size) "set" := ⟨_, hS, rfl⟩
    have c6 := F.called_set.init.lookup; have c7 := F.called_set.init.bind (.ref s.heap.objs.size)
    repeat any_goals (first | assumption | wp_step)
    have lt0 : l < s.heap.objs.size := by obtain ⟨o, e, _⟩ := hl; exact Heap.lt_size e
    refine codeAny_mono (codeAny_call_builtin (R := wants (fun r s2 => r = .none ∧ ∃ h2 t2, s2 = { s with heap := h2, toks := t2 } ∧ h2.SetOf knd s.heap.objs.size (seen f items.size) (dist f items.size) ∧ ∀ b o, b < s.heap.objs.size → s.heap.get? b = some o → h2.get? b = some o) E) F.called_set.init.plain F.entry_set_init (check_set_init_1 hT ?_)) fun r2 s2 hr2 => ?_
    · have hl2 : (s.heap.push { cls := .type "set", dict := none, data := .set #[] 0 (.fresh 0 0 z) }).IsList l items := by
        obtain ⟨o, e1, e2, n, e3⟩ := hl
        exact ⟨o, Heap.get?_push_of_some _ e1, e2, n, e3⟩
      obtain ⟨⟨oc, od, oda, osl⟩, ol, o1, n, o2⟩ := id hl2
      simp only at o1 o2
      subst o1 o2
      have d1 := F.sub_list_set; have d2 := F.sub_list_frozenset; have d3 : (Value.type "list" == Value.type "dict") = false := by decide
      unfold Builtin.«set.__init__» noKeywords Builtin.Frozenset.updateFrom
      generalize e0 : pyIter = it
      wp_walk
      subst e0
      have far : ∀ b, b < s.heap.objs.size → b ≠ (s.heap.push { cls := .type "set", dict := none, data := .set #[] 0 (.fresh 0 0 z) }).objs.size := fun b q => by rw [Heap.size_push]; omega
      have out : s.heap.objs.size ∉ [(s.heap.push { cls := .type "set", dict := none, data := .set #[] 0 (.fresh 0 0 z) }).objs.size, l] := fun q => by
        rcases List.mem_cons.mp q with q | q
        · rw [Heap.size_push] at q; exact absurd q (Nat.ne_of_lt (Nat.lt_succ_self _))
        · exact absurd (List.mem_singleton.mp q) (Nat.ne_of_gt lt0)
      refine wpAny_pyIter_list hl2 (wpAny_bind (wpAny_runValue ?_))
      refine upd_loop knd ((Walks.list (by simp [hh]) _ l (far l lt0) items).toS) out (f := f) (fun i v q => hf i v q) hb items.size 0 _ (Nat.zero_add _) ⟨⟨_, Heap.get?_push_size _ rfl, rfl, rfl⟩, hl2.push _⟩ ?_ fun s3 m hs3 => ?_
      · exact (PyProof.Rows.setObjOf_fresh (knd := knd) z).setOf (Heap.get?_push_of_some _ hS) (by unfold scanBound; omega)
      · obtain ⟨h3, g3, d3, t3, o3⟩ := s3
        have i1 : g3 = s.gens := m.gens
        have i2 : d3 = s.drawn := m.drawn
        have i3 : o3 = s.os := m.os
        subst i1 i2 i3
        refine wpAny_pure (wpAny_pure ⟨rfl, h3, t3, rfl, hs3, fun b o q e => m.heap b o (fun c => ?_) (Heap.get?_push_of_some _ (Heap.get?_push_of_some _ e))⟩)
        rcases List.mem_cons.mp c with c | c
        · exact Nat.ne_of_lt q c
        · exact far b q (List.mem_singleton.mp c)
    · match r2, hr2 with
      | .error _, hr2 => exact hr2
      | .ok (.ret _), ⟨e1, h2, t2, e2, k1, k2⟩ =>
        subst e1 e2
        repeat any_goals (first | assumption | wp_step)
        exact h _ _ k1 k2
      | .ok .next, hr2 => exact hr2.elim
      | .ok .brk, hr2 => exact hr2.elim
      | .ok .cont, hr2 => exact hr2.elim
  | .ok .next, hr => exact hr.elim
  | .ok .brk, hr => exact hr.elim
  | .ok .cont, hr => exact hr.elim
end
end DLS
namespace DL
open PySem PySem.Spec L2

/-! ### len(set(list of ints and texts)) -/
def keysK : List D → Option (List Key)
  | [] => some []
  | d :: ds => match keyK d, keysK ds with
    | some k, some ks => some (k :: ks)
    | _, _ => none
def dcount (ks : List Key) : Nat := DLS.dist (fun i => ks.getD i (.inl 0)) ks.length
def tLenSetD (te : TD) : TD := fun n ρ Q => te n ρ fun d n1 => match d with
  | .lst ds => (match keysK ds with
    | some ks => ks.length + 1 < scanBound ∧ Q (.int (dcount ks)) n1
    | none => False)
  | _ => False
def tLenSetK (K : PySem.W.Frag) (ta : TE) : TE := fun σ H Q => ta σ H fun x H1 => ∃ (l : Addr) (ks : List Key), x = .ref l ∧ SqL K H1 l (ks.map kV) ∧ ks.length + 1 < scanBound ∧ Q (.int (dcount ks)) H1
section
variable {W : Wd} {X : Cx} {a : Expr} {ta : TE} {te : TD} {p p2 q pos : Pos}
theorem vals_key {ks : List Key} {its : List Value} (r : Vals (ks.map kV) its) (i : Nat) (v : Value) (e : its[i]? = some v) : RelV (kV (ks.getD i (.inl 0))) v := by
  have hi : i < (ks.map kV).length := by rw [r.length]; exact (List.getElem?_eq_some_iff.mp e).1
  obtain ⟨u, q1, q2⟩ := r.get (List.getElem?_eq_getElem hi)
  rw [e] at q1
  cases q1
  rw [List.length_map] at hi
  rw [List.getElem_map] at q2
  rw [List.getD_eq_getElem?_getD, List.getElem?_eq_getElem hi]
  exact q2
theorem pe_lenSetK (hc : X.calm = true) (hg : Gl X "len") (hm : X.mg "len" = none) (hg2 : Gl X "set") (hm2 : X.mg "set" = none) (ha : PE X a ta) (na : starEach [a] X.env = (false, eval a X.env) :: starEach [] X.env := by rfl) :
    PE X (.Call (.Name "len" p) [.Call (.Name "set" p2) [a] [] q] [] pos) (tLenSetK X.K ta) :=
  ⟨fun pins s σ H Q I h => by
    refine PyProof.Rows.Call_ (ld_blt I hg hm boot_len (PyProof.Rows.callWith_builtin1 (PyProof.Rows.args_cons (PyProof.Rows.Call_ (ld_blt I hg2 hm2 PyProof.Rows.boot_set ?_)) rfl) rfl rfl))
    refine PyProof.Rows.callWith_type1 (PyProof.Rows.args_cons (thn (ha.run pins s σ H _ I h) fun v s1 ⟨x, H1, I1, r1, l, ks, ex, hq, hl, q1⟩ => PyProof.Rows.args_nil ?_) na) na rfl
    subst ex
    cases r1
    obtain ⟨its, r, pl, hz⟩ := I1.list hq
    have len : its.toArray.size = ks.length := by rw [List.size_toArray, ← r.length, List.length_map]
    refine DLS.call_set (mixKind X.prog X.w) (f := fun i => ks.getD i (.inl 0)) (I1.ok.hd hc) pl.isList (fun i v e => ?_) (by rw [len]; exact hl) fun h' tk hS hk => PyProof.Rows.args_nil ?_
    · have rv := vals_key r i v (by simpa using e)
      exact ⟨kV_is rv, key_scan rv⟩
    · rw [len] at hS
      obtain ⟨o, es, ep, t, ho, hex, hd, _, _, _, hf, hn⟩ := hS
      have I2 : Inv X pins σ H1 { s1 with heap := h', toks := tk } := I1.kept fun b o e => hk b o (Heap.lt_size e) e
      have le : dcount ks ≤ ks.length := DLS.dist_le _ _
      have hn : es.size = dcount ks := hn
      exact PySem.call_len_set ho hex hd hf (by rw [hn]; unfold scanBound at hl; omega) ⟨.int (dcount ks), H1, I2.tok _, ⟨_, by rw [hn]⟩, q1⟩⟩
theorem keys_rep {pu : Pu} {S : Hp} : ∀ {ds : List D} {vs : List V} {ks : List Key}, keysK ds = some ks → Reps W pu S ds vs → vs = ks.map kV
  | [], vs, ks, e, r => by simp only [keysK] at e; cases e; simp only [Reps] at r; rw [r]; rfl
  | d :: ds, vs, ks, e, r => by
    simp only [keysK] at e
    cases e1 : keyK d with
    | none => rw [e1] at e; simp at e
    | some k =>
      cases e2 : keysK ds with
      | none => rw [e1, e2] at e; simp at e
      | some ks' =>
        rw [e1, e2] at e
        simp at e
        subst e
        simp only [Reps] at r
        obtain ⟨v, us, rfl, r1, r2⟩ := r
        have hv : v = kV k := by
          cases d with
          | int i => simp only [keyK] at e1; cases e1; simp only [Rep] at r1; rw [r1]; rfl
          | str x => simp only [keyK] at e1; cases e1; simp only [Rep] at r1; rw [r1]; rfl
          | _ => simp [keyK] at e1
        rw [hv, keys_rep e2 r2]; rfl
theorem pd_lenSet (hK : X.K = W.K) (hc : X.calm = true) (hg : Gl X "len") (hm : X.mg "len" = none) (hg2 : Gl X "set") (hm2 : X.mg "set" = none) (ha : PKD W X a te) (na : starEach [a] X.env = (false, eval a X.env) :: starEach [] X.env := by rfl) :
    PD W X (.Call (.Name "len" p) [.Call (.Name "set" p2) [a] [] q] [] pos) (tLenSetD te) := fun c => PE_imp (pe_lenSetK hc hg hm hg2 hm2 (ha c) na) fun σ H Q ⟨pu, ρ, P, ev, ht, q⟩ => by
  refine ⟨pu, ρ, _, ev, ht, fun pu1 d hd v H1 s r => ?_⟩
  cases d with
  | lst ds =>
    cases e : keysK ds with
    | none => simp only [e] at hd
    | some ks =>
      simp only [e] at hd
      obtain ⟨b, vs, rfl, q1, r1⟩ := r.lst
      have := keys_rep e r1
      subst this
      exact ⟨b, ks, rfl, .inl q1, hd.1, q pu1 _ hd.2 _ H1 s rep_int⟩
  | _ => exact False.elim hd

/-! ### l[::-1] -/
def tRevD (te : TD) : TD := fun n ρ Q => te n ρ fun d n1 => match d with
  | .lst ds => Q (.lst ds.reverse) n1
  | _ => False
theorem pf_rev {k : Nat} {p1 p3 : Pos} (hK : X.K = W.K) (ha : PKD W X a te) : PFD W X (.Subscript a (.Slice none none (some (.UnaryOp .USub (.Constant (.int 1) k p1) p2)) p3) pos) (tRevD te) := fun c =>
  PE_imp (pe_revL (ha c)) fun σ H Q ⟨pu, ρ, P, ev, ht, q⟩ => by
  refine ⟨pu, ρ, _, ev, ht, fun pu1 d hd v H1 s r => ?_⟩
  cases d with
  | lst ds =>
    obtain ⟨b, vs, rfl, q1, r1⟩ := r.lst
    exact ⟨b, vs, rfl, .inl q1, PostF.new (P := fun d => P d pu1.n) (ev.step s).vw r1.reverse hd (PostF.trans s q)⟩
  | _ => exact False.elim hd
end

/-! ### a, b = x, y (stored one by one) -/
section
variable {W : Wd} {X : Cx} {fr : Bool} {a b : Expr} {ta tb : TD} {px py pt pos : Pos}
/-- o: it is a fresh container -/
def OutR (W : Wd) (pu : Pu) (h : Addr → Bool) (H0 H' : Hp) (o : Bool) (d : D) (v : V) : Prop :=
  if o = true then ∃ p, v = .ref p ∧ H0 p = none ∧ pu p = false ∧ OwR W pu (hid (fun a => h a || a == p) H') H' d p else Rep W pu (hid h H') d v
def rdX (W : Wd) (c : Ent) (o : Bool) (t : TD) : TE := fun σ H Q => ∃ pu ρ P, EnvR W c pu σ H ρ ∧ t pu.n ρ P ∧ ∀ (pu' : Pu) d, P d pu'.n → ∀ v H', Stp pu H pu' H' → OutR W pu' (hdn c σ ρ) H H' o d v → Q v H'
def PXD (W : Wd) (X : Cx) (o : Bool) (e : Expr) (t : TD) : Prop := ∀ c, PE X e (rdX W c o t)
theorem PD.pxd (h : PD W X a ta) : PXD W X false a ta := fun c => PE_imp (h c) fun σ H Q ⟨pu, ρ, P, ev, ht, q⟩ => ⟨pu, ρ, P, ev, ht, fun pu' d hd v H' s r => q pu' d hd v H' s (by unfold OutR; rw [if_neg Bool.false_ne_true]; exact r)⟩
theorem PFD.pxd (h : PFD W X a ta) : PXD W X true a ta := fun c => PE_imp (h c) fun σ H Q ⟨pu, ρ, P, ev, ht, q⟩ => ⟨pu, ρ, P, ev, ht, fun pu' d hd p H' s n nu r => q pu' d hd _ H' s (by unfold OutR; rw [if_pos rfl]; exact ⟨p, rfl, n, nu, r⟩)⟩
def mkS (o : Bool) (d : D) : Sl := if o = true then .ow d else .sh d
theorem OutR.set {c : Ent} {pu pu' : Pu} {σ : L2.St} {H H' : Hp} {ρ : List Sl} {o : Bool} {d : D} {v : V} {i : Nat} (ev : EnvR W c pu σ H ρ) (s : Stp pu H pu' H') (r : OutR W pu' (hdn c σ ρ) H H' o d v) : EnvR W c pu' (σ.set i (some v)) H' (ρ.set i (mkS o d)) := by
  cases o with
  | true =>
    unfold OutR at r
    rw [if_pos rfl] at r
    obtain ⟨p, rfl, n, nu, r⟩ := r
    exact ev.setOw s n nu r
  | false =>
    unfold OutR at r
    rw [if_neg Bool.false_ne_true] at r
    exact (ev.step s).setSh r
/-- a fresh container is hidden from what is computed next -/
theorem EnvR.hide {c : Ent} {pu pu1 : Pu} {σ : L2.St} {H H1 : Hp} {ρ : List Sl} {p : Addr} (e : EnvR W c pu σ H ρ) (s : Stp pu H pu1 H1) (n : H p = none) (hp : ∃ o, H1 p = some o) : EnvR W { c with hd := fun a => c.hd a || a == p } pu1 σ H1 ρ := by
  have e1 := e.step s
  have hv : hdn { c with hd := fun a => c.hd a || a == p } σ ρ = fun a => hdn c σ ρ a || a == p := by
    funext a
    show ((c.hd a || a == p) || own σ ρ a) = ((c.hd a || own σ ρ a) || a == p)
    cases c.hd a <;> cases own σ ρ a <;> cases (a == p) <;> rfl
  have m : Mo pu (hid (hdn c σ ρ) H) pu1 (hid (fun a => hdn c σ ρ a || a == p) H1) := mo_base s fun a z => by
    rcases Bool.or_eq_true_iff.mp z with z | z
    · exact .inl z
    · have : a = p := by simpa using z
      exact .inr (by rw [this]; exact n)
  refine ⟨e.len, e1.stp, fun a z => ?_, fun i t ht => ?_, e.apart, fun a z => ?_⟩
  · rcases Bool.or_eq_true_iff.mp z with z | z
    · exact e1.hdl a z
    · have : a = p := by simpa using z
      rw [this]; exact hp
  · rw [hv]
    have q := e.sl i t ht
    cases t with
    | un => trivial
    | sh d =>
      obtain ⟨v, h1, h2⟩ := q
      exact ⟨v, h1, Rep.mono m d v h2⟩
    | ow d =>
      obtain ⟨a, h1, h2⟩ := q
      obtain ⟨_, nu, _⟩ := e.fresh a (own_iff.mpr ⟨i, d, ht, h1⟩)
      exact ⟨a, h1, h2.step m fun o z => s.kp a o z nu⟩
    | pk d =>
      obtain ⟨v, h1, h2⟩ := q
      refine ⟨v, h1, ?_⟩
      rcases h2 with h2 | ⟨a, h3, nu, no, h2⟩
      · exact .inl (Rep.mono m d v h2)
      · exact .inr ⟨a, h3, s.mo'.off nu h2.there, no, h2.step m fun o z => s.kp a o z nu⟩
  · obtain ⟨⟨cn, ch⟩, nu, o, ho⟩ := e.fresh a z
    have ne : a ≠ p := fun z => by rw [z, n] at ho; cases ho
    refine ⟨⟨cn, ?_⟩, s.mo'.off nu ⟨o, ho⟩, o, s.kp a o ho nu⟩
    show (c.hd a || a == p) = false
    rw [ch]; simpa using ne
def tParD (o1 o2 : Bool) (i j : Nat) (ta tb : TD) : TDS := fun E n ρ => ta n ρ fun x n1 => tb n1 ρ fun y n2 => E.nx n2 ((ρ.set i (mkS o1 x)).set j (mkS o2 y))
/-- the first value, then the second one -/
theorem two_out {o1 o2 : Bool} {c : Ent} {σ : L2.St} {H : Hp} {pu : Pu} {ρ : List Sl} {i j : Nat} {R : Nat → List Sl → Prop} {Q : V → V → Hp → Prop} {x y : Expr} (ha : PXD W X o1 x ta) (hb : PXD W X o2 y tb) (ev : EnvR W c pu σ H ρ) (ht : ta pu.n ρ fun x n1 => tb n1 ρ fun y n2 => R n2 ((ρ.set i (mkS o1 x)).set j (mkS o2 y)))
    (q : ∀ v w (pu' : Pu) H' ρ', R pu'.n ρ' → EnvR W c pu' ((σ.set i (some v)).set j (some w)) H' ρ' → Q v w H') : rdX W c o1 ta σ H fun v H1 => (∃ c, rdX W c o2 tb σ H1 fun w H2 => Q v w H2) := by
  refine ⟨pu, ρ, _, ev, ht, fun pu1 d hd v H1 s1 r1 => ?_⟩
  have e0 := r1.set (i := i) ev s1
  have fin : ∀ (h2 : Addr → Bool), (∀ a, hdn c (σ.set i (some v)) (ρ.set i (mkS o1 d)) a = true → h2 a = true) → ∀ d2 (pu2 : Pu), R pu2.n ((ρ.set i (mkS o1 d)).set j (mkS o2 d2)) → ∀ w H2, Stp pu1 H1 pu2 H2 → OutR W pu2 h2 H1 H2 o2 d2 w → Q v w H2 := fun h2 hs d2 pu2 hR w H2 s2 r2 => by
    refine q v w pu2 H2 _ hR (OutR.set e0 s2 ?_)
    unfold OutR at r2 ⊢
    cases o2 with
    | false => rw [if_neg Bool.false_ne_true] at r2 ⊢; exact Rep.mono (mo_less hs) d2 w r2
    | true =>
      rw [if_pos rfl] at r2 ⊢
      obtain ⟨p, e, n, nu, r2⟩ := r2
      exact ⟨p, e, n, nu, r2.step (mo_less fun a z => by
        rcases Bool.or_eq_true_iff.mp z with z | z
        · exact Bool.or_eq_true_iff.mpr (.inl (hs a z))
        · exact Bool.or_eq_true_iff.mpr (.inr z)) fun _ z => z⟩
  cases o1 with
  | false =>
    refine ⟨c, pu1, ρ, _, ev.step s1, hd, fun pu2 d2 hR w H2 s2 r2 => fin _ (fun a z => ?_) d2 pu2 hR w H2 s2 r2⟩
    exact hdn_drop (fun _ z => by unfold mkS at z; rw [if_neg Bool.false_ne_true] at z; cases z) a z
  | true =>
    unfold OutR at r1
    rw [if_pos rfl] at r1
    obtain ⟨p, rfl, n, nu, r1⟩ := r1
    refine ⟨{ c with hd := fun a => c.hd a || a == p }, pu1, ρ, _, ev.hide s1 n r1.there, hd, fun pu2 d2 hR w H2 s2 r2 => fin _ (fun a z => ?_) d2 pu2 hR w H2 s2 r2⟩
    unfold hdn at z ⊢
    rcases Bool.or_eq_true_iff.mp z with z | z
    · show ((c.hd a || a == p) || own σ ρ a) = true
      rw [z]; rfl
    · obtain ⟨k, dk, h1, h2⟩ := own_iff.mp z
      show ((c.hd a || a == p) || own σ ρ a) = true
      rcases getset h1 with ⟨ek, _⟩ | ⟨ne, h1⟩
      · subst ek
        rcases getset h2 with ⟨_, z⟩ | ⟨z, _⟩
        · cases z; simp
        · exact absurd rfl z
      · rw [List.getElem?_set_ne (Ne.symm ne)] at h2
        rw [own_iff.mpr ⟨k, dk, h1, h2⟩]; simp
theorem PXD.ex {o : Bool} (h : PXD W X o a ta) : PE X a (fun σ H Q => ∃ c, rdX W c o ta σ H Q) := ⟨fun pins s σ H Q I ⟨c, q⟩ => (h c).run pins s σ H Q I q⟩
theorem psd_par {o1 o2 : Bool} {i j : Nat} {x y : Str} {kt k2 pt2} (hc : X.calm = true) (hN : X.N.Nodup) (hi : X.N[i]? = some x) (hj : X.N[j]? = some y) (hij : i ≠ j)
    (hx : X.env.scope.names.lookup x = some .local) (hy : X.env.scope.names.lookup y = some .local) (ha : PXD W X o1 a ta) (hb : PXD W X o2 b tb)
    (hw : swappedStores [.Tuple [.Name x px, .Name y py] kt pt] (.Tuple [a, b] k2 pt2) X.env = pure (some [x, y])) (h1 : starEach [a, b] X.env = (false, eval a X.env) :: starEach [b] X.env := by rfl) (h2 : starEach [b] X.env = (false, eval b X.env) :: starEach [] X.env := by rfl)
    (hs : swapsWithSole [.Tuple [.Name x px, .Name y py] kt pt] (.Tuple [a, b] k2 pt2) pos.line X.env = pure false := by rfl) :
    PSD W X fr (.Assign [.Tuple [.Name x px, .Name y py] kt pt] (.Tuple [a, b] k2 pt2) pos) (tParD o1 o2 i j ta tb) := fun c _ =>
  PS_imp (ps_par hc hN hi hj hij hx hy (pa_cons (ha c) (pa_cons (PXD.ex hb) pa_nil h2) h1) hw hs) fun De σ H ⟨pu, ρ, E, ev, ht, q1, _⟩ => by
  have z := two_out (i := i) (j := j) ha hb ev ht (Q := fun v w H2 => De.nx ((σ.set i (some v)).set j (some w)) H2) fun v w pu' H' ρ' hR ev' => q1 pu' ρ' hR _ H' ev'
  obtain ⟨pu, ρ, P, ev, ht, q⟩ := z
  refine ⟨pu, ρ, P, ev, ht, fun pu1 d hd v H1 s1 r1 => ?_⟩
  obtain ⟨c2, pu2, ρ2, P2, e2, t2, q2⟩ := q pu1 d hd v H1 s1 r1
  exact ⟨c2, pu2, ρ2, P2, e2, t2, fun pu3 d2 hd2 w H3 s3 r3 => ⟨v, w, rfl, q2 pu3 d2 hd2 w H3 s3 r3⟩⟩
end
end DL
namespace DL
open PySem PySem.Spec L2

/-! ### methods that change a list, without arguments; moves -/
section
variable {W : Wd} {X : Cx} {fr : Bool} {o e : Expr} {name : Str} {apos cpos pos : Pos} {r : V → List V → Hp → VK → Prop}
theorem psd_mut0 {f : List D → List D → (D → List D → Prop) → Prop} {i : Nat} (hK : X.K = W.K) (k : Mut1 W f r)
    (h : PE X (.Call (.Attribute o name apos) [] [] cpos) (tBM0 X.K "list" r (L2.tVar i))) (hs : swapsWith (.Call (.Attribute o name apos) [] [] cpos) none pos.line X.env = pure false := by rfl) :
    PSD W X fr (.Expr (.Call (.Attribute o name apos) [] [] cpos) pos) (tMutD i f tNilA) := fun c _ => PS_imp (ps_expr h hs) fun De σ H ⟨pu, ρ, E, ev, ht, h1, _⟩ => by
  obtain ⟨x, e1, ty, pu', ρ', P', ev', hp, q⟩ := mut_run (Q := fun _ H1 => De.nx σ H1) (R := fun n ρ' _ => E.nx n ρ') hK k ev ht fun pu' ρ' d v H' hR ev' _ => h1 pu' ρ' hR σ H' ev'
  exact ⟨x, e1, ty, q pu' [] hp [] H ev'.rfl' Reps.nil⟩
/-- y = x: the container that this frame alone holds goes over to y, x is forgotten -/
theorem EnvR.move {c : Ent} {pu : Pu} {σ : L2.St} {H : Hp} {ρ : List Sl} {i j : Nat} {d : D} {v : V} (e : EnvR W c pu σ H ρ) (hi : ρ[i]? = some (.ow d)) (hv : σ[i]? = some (some v)) (hij : i ≠ j) : EnvR W c pu (σ.set j (some v)) H ((ρ.set i .un).set j (.ow d)) := by
  obtain ⟨a, a1, a2, a3⟩ := own_at e hi
  rw [hv] at a1
  cases a1
  have e1 : EnvR W c pu σ H (ρ.set i .un) := by
    have z := e.setUn (i := i) (x := some (.ref a))
    rwa [setsame hv] at z
  obtain ⟨⟨cn, ch⟩, nu, _⟩ := e.fresh a a3
  have na : own σ (ρ.set i .un) a = false := by
    cases z : own σ (ρ.set i .un) a with
    | false => rfl
    | true =>
      obtain ⟨k, dk, h1, h2⟩ := own_iff.mp z
      rcases getset h1 with ⟨_, z⟩ | ⟨ne, h1⟩
      · cases z
      · exact absurd (e.apart k i dk d a h1 hi h2 hv) ne
  have own2 : ∀ b, own (σ.set j (some (.ref a))) ((ρ.set i .un).set j (.ow d)) b = true → b = a ∨ own σ (ρ.set i .un) b = true := fun b z => by
    obtain ⟨k, dk, h1, h2⟩ := own_iff.mp z
    rcases getset h1 with ⟨ek, _⟩ | ⟨ne, h1⟩
    · subst ek
      rcases getset h2 with ⟨_, z⟩ | ⟨z, _⟩
      · cases z; exact .inl rfl
      · exact absurd rfl z
    · rw [List.getElem?_set_ne (Ne.symm ne)] at h2
      exact .inr (own_iff.mpr ⟨k, dk, h1, h2⟩)
  have ownL : ∀ b, own σ (ρ.set i .un) b = true → own σ ρ b = true := fun b z => by
    obtain ⟨k, dk, h1, h2⟩ := own_iff.mp z
    rcases getset h1 with ⟨_, z⟩ | ⟨ne, h1⟩
    · cases z
    · exact own_iff.mpr ⟨k, dk, h1, h2⟩
  have hle : ∀ b, hdn c (σ.set j (some (.ref a))) ((ρ.set i .un).set j (.ow d)) b = true → hdn c σ ρ b = true := fun b z => by
    unfold hdn at z ⊢
    rcases Bool.or_eq_true_iff.mp z with z | z
    · rw [z]; rfl
    · rcases own2 b z with z | z
      · rw [z, a3]; simp
      · rw [ownL b z]; simp
  have m := mo_less (pu := pu) (H := H) hle
  refine ⟨by simp [e.len], e.stp, e.hdl, fun k t ht => ?_, fun k l dk dl b h1 h2 h3 h4 => ?_, fun b z => ?_⟩
  · rcases getset ht with ⟨ek, et⟩ | ⟨ne, ht⟩
    · subst ek et
      have hj : k < σ.length := by
        have := (List.getElem?_eq_some_iff.mp ht).1
        rw [List.length_set, List.length_set] at this
        rw [e.len]; exact this
      exact ⟨a, List.getElem?_set_self hj, a2.step m fun _ z => z⟩
    · rw [List.getElem?_set_ne (Ne.symm ne)]
      rcases getset ht with ⟨_, et⟩ | ⟨n2, ht⟩
      · subst et; trivial
      · have q := e.sl k t ht
        cases t with
        | un => trivial
        | sh d2 => obtain ⟨w, q1, q2⟩ := q; exact ⟨w, q1, Rep.mono m d2 w q2⟩
        | ow d2 => obtain ⟨w, q1, q2⟩ := q; exact ⟨w, q1, q2.step m fun _ z => z⟩
        | pk d2 =>
          obtain ⟨w, q1, q2⟩ := q
          refine ⟨w, q1, ?_⟩
          rcases q2 with q2 | ⟨b, q3, nb, no, q2⟩
          · exact .inl (Rep.mono m d2 w q2)
          · refine .inr ⟨b, q3, nb, ?_, q2.step m fun _ z => z⟩
            cases z : own (σ.set j (some (.ref a))) ((ρ.set i .un).set j (.ow d)) b with
            | false => rfl
            | true =>
              rcases own2 b z with z | z
              · rw [z, a3] at no; cases no
              · rw [ownL b z] at no; cases no
  · have key : ∀ {k : Nat} {dk : D}, ((ρ.set i .un).set j (.ow d))[k]? = some (Sl.ow dk) → (σ.set j (some (.ref a)))[k]? = some (some (V.ref b)) → (k = j ∧ b = a) ∨ (k ≠ j ∧ ρ[k]? = some (Sl.ow dk) ∧ σ[k]? = some (some (V.ref b)) ∧ b ≠ a) := fun {k dk} g1 g3 => by
      rcases getset g1 with ⟨ek, _⟩ | ⟨ne, g1⟩
      · subst ek
        rcases getset g3 with ⟨_, z⟩ | ⟨z, _⟩
        · cases z; exact .inl ⟨rfl, rfl⟩
        · exact absurd rfl z
      · rw [List.getElem?_set_ne (Ne.symm ne)] at g3
        rcases getset g1 with ⟨_, z⟩ | ⟨n2, g1⟩
        · cases z
        · refine .inr ⟨ne, g1, g3, fun z => ?_⟩
          rw [z] at g3
          exact n2 (e.apart k i dk d a g1 hi g3 hv)
    rcases key h1 h3 with ⟨k1, k2⟩ | ⟨k1, k2, k3, k4⟩
    · rcases key h2 h4 with ⟨l1, _⟩ | ⟨_, _, _, l4⟩
      · rw [k1, l1]
      · exact absurd k2 l4
    · rcases key h2 h4 with ⟨_, l2⟩ | ⟨l1, l2, l3, _⟩
      · exact absurd l2 k4
      · exact e.apart k l dk dl b k2 l2 k3 l3
  · rcases own2 b z with z | z
    · subst z; exact e.fresh b a3
    · exact e.fresh b (ownL b z)
def tMoveD (i j : Nat) : TDS := fun E n ρ => match slot ρ i with
  | .ow d => i ≠ j ∧ E.nx n ((ρ.set i .un).set j (.ow d))
  | _ => False
/-- y = a if t else b, both held by this frame alone -/
theorem psd_moveIf {i1 i2 j : Nat} {x : Str} {pos' ipos : Pos} {ce a b : Expr} {t : TTD} (hN : X.N.Nodup) (hj : X.N[j]? = some x) (hx : Loc X.env.scope x) (hc : PTD W X ce t) (h1 : PE X a (L2.tVar i1)) (h2 : PE X b (L2.tVar i2)) (hs : swapsWith (.IfExp ce a b ipos) (some (.Name x pos')) pos.line X.env = pure false := by rfl)
    (hf : X.fn x = true ∨ X.env.scope.names.lookup x = some .local := by first | exact .inl rfl | exact .inr rfl | assumption) :
    PSD W X fr (.Assign [.Name x pos'] (.IfExp ce a b ipos) pos) (tIfD t (tMoveD i1 j) (tMoveD i2 j)) := fun c _ => PS_imp (ps_set hN hj hx (pe_ifExp (hc c) h1 h2) hs hf) fun De σ H ⟨pu, ρ, E, ev, ht, q1, _⟩ => by
  have go : ∀ i (pu1 : Pu) H1, Stp pu H pu1 H1 → tMoveD i j E pu1.n ρ → L2.tVar i σ H1 fun v H2 => De.nx (σ.set j (some v)) H2 := fun i pu1 H1 s hm => by
    unfold tMoveD at hm
    cases hsl : slot ρ i with
    | ow d =>
      simp only [hsl] at hm
      have e0 := slot_some hsl (by intro z; cases z)
      have ev1 := ev.step s
      obtain ⟨a, a1, _, _⟩ := own_at ev1 e0
      exact ⟨_, a1, q1 pu1 _ hm.2 _ H1 (ev1.move e0 a1 hm.1)⟩
    | un => simp only [hsl] at hm
    | sh d => simp only [hsl] at hm
    | pk d => simp only [hsl] at hm
  refine ⟨pu, ρ, _, ev, ht, fun pu1 k hk H1 s => ?_⟩
  cases k with
  | true => exact iteT (go i1 pu1 H1 s (iteT' hk))
  | false => exact iteF (go i2 pu1 H1 s (iteF' hk))
end
end DL
namespace DL
open PySem PySem.Spec L2

theorem hdn_mut {c : Ent} {σ : L2.St} {ρ : List Sl} {i : Nat} {d d' : D} {a : Addr} (h : ρ[i]? = some (.ow d)) (ha : σ[i]? = some (some (.ref a))) : hdn c σ (ρ.set i (.ow d')) = hdn c σ ρ := by
  have hi : i < ρ.length := (List.getElem?_eq_some_iff.mp h).1
  have : own σ (ρ.set i (.ow d')) = own σ ρ := by
    funext b
    rw [Bool.eq_iff_iff]
    refine ⟨fun z => ?_, fun z => ?_⟩
    · obtain ⟨j, dj, q1, q2⟩ := own_iff.mp z
      rcases getset q1 with ⟨ej, _⟩ | ⟨_, q1⟩
      · subst ej; exact own_iff.mpr ⟨j, d, h, q2⟩
      · exact own_iff.mpr ⟨j, dj, q1, q2⟩
    · obtain ⟨j, dj, q1, q2⟩ := own_iff.mp z
      by_cases ej : j = i
      · subst ej; exact own_iff.mpr ⟨j, d', List.getElem?_set_self hi, q2⟩
      · exact own_iff.mpr ⟨j, dj, by rw [List.getElem?_set_ne (Ne.symm ej)]; exact q1, q2⟩
  funext b
  unfold hdn
  rw [this]
theorem hid_mut {c : Ent} {σ : L2.St} {ρ : List Sl} {a : Addr} {H : Hp} {o : HO} (ho : own σ ρ a = true) : hid (hdn c σ ρ) (upd H a o) = hid (hdn c σ ρ) H := by
  funext b
  unfold hid
  by_cases e : b = a
  · subst e
    have : hdn c σ ρ b = true := by unfold hdn; rw [ho]; simp
    rw [this]; rfl
  · rw [upd_ne e]
/-! ### room -/
theorem u65 {k : Nat} {A : Around} (r : Room k A) : A.units + 65 < cLine := by have := r.un; omega
theorem u1 {k : Nat} {A : Around} (r : Room k A) : A.units + 1 < cLine := by have := r.un; omega
section
variable {W : Wd} {X : Cx} {fr : Bool} {o e a b : Expr} {es : List Expr} {to te ta tb : TD} {tas : TAD} {px py pt apos cpos pos : Pos}
theorem pd_index (hK : X.K = W.K) (ho : PKD W X o to) (ha : PAK W X (e :: es) tas)
    (h : ∀ c, PE X o (rdK W c to) → PA X (e :: es) (rdAK W c tas) → PE X (.Call (.Attribute o "index" apos) (e :: es) [] cpos) (tBM X.K "list" (rIndex X.K) (rdK W c to) (rdAK W c tas))) : PD W X (.Call (.Attribute o "index" apos) (e :: es) [] cpos) (tMet indexD isLst to tas) :=
  pd_bm hK PySem.F.plainAttrs_list PySem.F.slot_list_index PySem.F.type_list_index mt_index (by rw [hK]; exact k_index) ho ha h
theorem pd_join (hK : X.K = W.K) (ho : PKD W X o to) (ha : PKD W X e te) (hs : starEach [e] X.env = [(false, eval e X.env)] := by rfl) (hbase : attributeBase o "join" X.env (eval o X.env) = eval o X.env := by rfl) (hline : (apos.endLine == cpos.line) = true := by rfl) :
    PD W X (.Call (.Attribute o "join" apos) [e] [] cpos) (tMet joinD isStrB to (tConsA te tNilA)) := fun c => PE_imp (pe_join (ho c) (ha c) hs hbase hline) fun σ H Q ⟨pu, ρ, P, ev, ht, q⟩ => by
  refine ⟨pu, ρ, _, ev, ht, fun pu1 x hx v H1 s1 r1 => ?_⟩
  by_cases hok : isStrB x = true
  · rw [if_pos hok] at hx
    cases x with
    | str z =>
      refine ⟨⟨z, r1.str⟩, pu1, ρ, _, ev.step s1, hx, fun pu2 y hy u H2 s2 r2 => ?_⟩
      rw [hK]
      exact k_join.2 pu2 (hdn c σ ρ) H2 _ [y] v [u] _ Q ((ev.step s1).step s2).vw (r1.step s2) ⟨u, [], rfl, r2, rfl⟩ hy (Post.trans (s1.trans s2) q)
    | _ => cases hok
  · rw [if_neg hok] at hx; exact False.elim hx
/-- a, b = x, y through a tuple -/
theorem psd_parT {o1 o2 : Bool} {i j : Nat} {x y : Expr} {kt k2 pt2} (hc : X.calm = true) (hx : PG X x (gName i)) (hy : PG X y (gName j)) (ha : PXD W X o1 a ta) (hb : PXD W X o2 b tb)
    (hw : swappedStores [.Tuple [x, y] kt pt] (.Tuple [a, b] k2 pt2) X.env = pure none := by rfl) (h1 : starEach [a, b] X.env = (false, eval a X.env) :: starEach [b] X.env := by rfl) (h2 : starEach [b] X.env = (false, eval b X.env) :: starEach [] X.env := by rfl)
    (hs : swapsWithSole [.Tuple [x, y] kt pt] (.Tuple [a, b] k2 pt2) pos.line X.env = pure false := by rfl) (hn : (assignEach [x, y] X.env).length = 2 := by rfl) (hst : (assignEach [x, y] X.env).findIdx? (·.1) = none := by rfl)
    (ha1 : (assignEach [x, y] X.env).map (·.2) = assign x X.env :: (assignEach [y] X.env).map (·.2) := by rfl) (ha2 : (assignEach [y] X.env).map (·.2) = assign y X.env :: (assignEach [] X.env).map (·.2) := by rfl)
    (ha3 : (assignEach [.Tuple [x, y] kt pt] X.env).map (·.2) = [assign (.Tuple [x, y] kt pt) X.env] := by rfl) :
    PSD W X fr (.Assign [.Tuple [x, y] kt pt] (.Tuple [a, b] k2 pt2) pos) (tParD o1 o2 i j ta tb) := fun c _ =>
  PS_imp (ps_asg (pe_tup (pa_cons (ha c) (pa_cons (PXD.ex hb) pa_nil h2) h1)) (pg_tup hc (pgs_cons hx (pgs_cons hy pgs_nil ha2) ha1) hn hst) hs hw ha3) fun De σ H ⟨pu, ρ, E, ev, ht, q1, _⟩ => by
  have z := two_out (i := i) (j := j) ha hb ev ht (Q := fun v w H2 => ∀ p, H2 p = none → De.nx ((σ.set i (some v)).set j (some w)) (upd H2 p (.tup [v, w]))) fun v w pu' H' ρ' hR ev' p n => q1 pu' ρ' hR _ _ (ev'.step (stp_new ev'.vw n))
  obtain ⟨pu, ρ, P, ev, ht, q⟩ := z
  refine ⟨pu, ρ, P, ev, ht, fun pu1 d hd v H1 s1 r1 => ?_⟩
  obtain ⟨c2, pu2, ρ2, P2, e2, t2, q2⟩ := q pu1 d hd v H1 s1 r1
  exact ⟨c2, pu2, ρ2, P2, e2, t2, fun pu3 d2 hd2 w H3 s3 r3 => ⟨by show 2 ≤ sizeLine; decide, fun p n => ⟨p, [v, w], rfl, .inl (.inl upd_same), rfl, v, [w], rfl, w, [], rfl, rfl, q2 pu3 d2 hd2 w H3 s3 r3 p n⟩⟩⟩
/-- l[i], l[j] = x, y, l held by this frame alone -/
def tSwapD (l : Nat) (ti tj ta tb : TD) : TDS := fun E n ρ => match slot ρ l with
  | .ow (.lst ds) => ta n ρ fun x n1 => tb n1 ρ fun y n2 => ti n2 ρ fun k n3 => setIxA ds k x fun ds1 => tj n3 (ρ.set l (.ow (.lst ds1))) fun k2 n4 => setIxA ds1 k2 y fun ds2 => E.nx n4 (ρ.set l (.ow (.lst ds2)))
  | _ => False
theorem psd_swap {l : Nat} {o2 i j : Expr} {ti tj : TD} {p1 p2 : Pos} {kt k2 pt2} (hc : X.calm = true) (h1 : PE X o (L2.tVar l)) (h2 : PE X o2 (L2.tVar l)) (hi : PKD W X i ti) (hj : PKD W X j tj) (ha : PD W X a ta) (hb : PD W X b tb)
    (a1 : ∀ v, assign (.Subscript o i p1) X.env v = (do
      let ov ← holding [v] (eval o X.env)
      let iv ← holding [v, ov] (eval i X.env)
      standAt p1
      holding [v, ov, iv] (setItem ov iv v)
      release [v, ov, iv] []) := by intro _; rfl)
    (a2 : ∀ v, assign (.Subscript o2 j p2) X.env v = (do
      let ov ← holding [v] (eval o2 X.env)
      let iv ← holding [v, ov] (eval j X.env)
      standAt p2
      holding [v, ov, iv] (setItem ov iv v)
      release [v, ov, iv] []) := by intro _; rfl)
    (hw : swappedStores [.Tuple [.Subscript o i p1, .Subscript o2 j p2] kt pt] (.Tuple [a, b] k2 pt2) X.env = pure none := by rfl) (e1 : starEach [a, b] X.env = (false, eval a X.env) :: starEach [b] X.env := by rfl) (e2 : starEach [b] X.env = (false, eval b X.env) :: starEach [] X.env := by rfl)
    (hs : swapsWithSole [.Tuple [.Subscript o i p1, .Subscript o2 j p2] kt pt] (.Tuple [a, b] k2 pt2) pos.line X.env = pure false := by rfl) (hn : (assignEach [.Subscript o i p1, .Subscript o2 j p2] X.env).length = 2 := by rfl) (hst : (assignEach [.Subscript o i p1, .Subscript o2 j p2] X.env).findIdx? (·.1) = none := by rfl)
    (ha1 : (assignEach [.Subscript o i p1, .Subscript o2 j p2] X.env).map (·.2) = assign (.Subscript o i p1) X.env :: (assignEach [.Subscript o2 j p2] X.env).map (·.2) := by rfl) (ha2 : (assignEach [.Subscript o2 j p2] X.env).map (·.2) = assign (.Subscript o2 j p2) X.env :: (assignEach [] X.env).map (·.2) := by rfl)
    (ha3 : (assignEach [.Tuple [.Subscript o i p1, .Subscript o2 j p2] kt pt] X.env).map (·.2) = [assign (.Tuple [.Subscript o i p1, .Subscript o2 j p2] kt pt) X.env] := by rfl) :
    PSD W X fr (.Assign [.Tuple [.Subscript o i p1, .Subscript o2 j p2] kt pt] (.Tuple [a, b] k2 pt2) pos) (tSwapD l ti tj ta tb) := fun c _ =>
  PS_imp (ps_asg (pe_tup (pa_cons (ha c) (pa_cons (hb c) pa_nil e2) e1)) (pg_tup hc (pgs_cons (pg_sub h1 (hi c) set_list a1) (pgs_cons (pg_sub h2 (hj c) set_list a2) pgs_nil ha2) ha1) hn hst) hs hw ha3) fun De σ H ⟨pu, ρ, E, ev, ht, q1, _⟩ => by
  unfold tSwapD at ht
  cases hsl : slot ρ l with
  | un => simp only [hsl] at ht
  | sh d => simp only [hsl] at ht
  | pk d => simp only [hsl] at ht
  | ow d =>
    rw [hsl] at ht
    cases d with
    | lst ds =>
      have e0 := slot_some hsl (by intro z; cases z)
      have hl : l < ρ.length := (List.getElem?_eq_some_iff.mp e0).1
      refine ⟨pu, ρ, _, ev, ht, fun pu1 x hx v H1 s1 r1 => ⟨pu1, ρ, _, ev.step s1, hx, fun pu2 y hy w H2 s2 r2 => ⟨by show 2 ≤ sizeLine; decide, fun p n => ⟨p, [v, w], rfl, .inl (.inl upd_same), rfl, v, [w], rfl, ?_⟩⟩⟩⟩
      have ev2 := (ev.step s1).step s2
      have s3 := stp_new ev2.vw (o := .tup [v, w]) n
      have ev3 := ev2.step s3
      obtain ⟨q, a1, _, ho⟩ := own_at ev3 e0
      refine ⟨.ref q, a1, pu2, ρ, _, ev3, hy, fun pu4 k hk u H4 s4 r4 => ?_⟩
      unfold setIxA at hk
      cases k with
      | int z =>
        cases hj : ixN ds.length z with
        | none => simp only [hj] at hk
        | some m =>
          simp only [hj] at hk
          have ev4 := ev3.step s4
          obtain ⟨q', b1, ⟨us, b2, b3⟩, _⟩ := own_at ev4 e0
          rw [a1] at b1; cases b1
          have rv : Rep W pu4 (hid (hdn c σ ρ) H4) x v := Rep.mono (((s2.trans s3).trans s4).mo _) x v r1
          have ev5 := ev4.mut (d' := .lst (ds.set m x)) (o := .lst (us.set m v)) e0 a1 ⟨_, upd_same, b3.set rv⟩
          refine ⟨q, us, z, m, rfl, r4.int, b2, by rw [b3.length]; exact hj, w, [], rfl, ?_⟩
          have e5 : (ρ.set l (.ow (.lst (ds.set m x))))[l]? = some (.ow (.lst (ds.set m x))) := List.getElem?_set_self hl
          refine ⟨.ref q, a1, pu4, _, _, ev5, hk, fun pu6 k2 hk2 u2 H6 s6 r6 => ?_⟩
          unfold setIxA at hk2
          cases k2 with
          | int z2 =>
            cases hj2 : ixN (ds.set m x).length z2 with
            | none => simp only [hj2] at hk2
            | some m2 =>
              simp only [hj2] at hk2
              have ev6 := ev5.step s6
              obtain ⟨q2, c1, ⟨ws, c2, c3⟩, _⟩ := own_at ev6 e5
              rw [a1] at c1; cases c1
              refine ⟨q, ws, z2, m2, rfl, r6.int, c2, by rw [c3.length]; exact hj2, rfl, ?_⟩
              have vis : hdn c σ (ρ.set l (.ow (.lst (ds.set m x)))) = hdn c σ ρ := hdn_mut e0 a1
              have rw4 : Rep W pu4 (hid (hdn c σ ρ) H4) y w := Rep.mono ((s3.trans s4).mo _) y w r2
              have rw5 : Rep W pu4 (hid (hdn c σ ρ) (upd H4 q (.lst (us.set m v)))) y w := by
                rw [hid_mut ho]; exact rw4
              have rw6 : Rep W pu6 (hid (hdn c σ (ρ.set l (.ow (.lst (ds.set m x))))) H6) y w := by
                rw [vis]; exact Rep.mono (s6.mo _) y w rw5
              have ev7 := ev6.mut (d' := .lst ((ds.set m x).set m2 y)) (o := .lst (ws.set m2 w)) e5 a1 ⟨_, upd_same, c3.set rw6⟩
              rw [List.set_set] at ev7
              exact q1 pu6 _ hk2 σ _ ev7
          | _ => exact False.elim hk2
      | _ => exact False.elim hk
    | _ => exact False.elim ht
/-- {} -/
theorem pf_dict0 : PFD W X (.Dict [] [] pos) (fun n _ Q => Q (.dct [] []) n) := fun c => PE_imp pe_dnewK fun σ H Q ⟨pu, ρ, P, ev, ht, q⟩ p n => by
  refine q pu _ ht p _ (stp_new ev.vw n) n (ev.vw.nopu n) ?_
  refine ⟨[], ⟨rfl, .inl ⟨[], rfl, .inl upd_same⟩⟩, fun o u z => ?_, Reps.nil⟩
  rw [upd_same] at z; cases z
end
end DL
namespace DL
open PySem PySem.Spec L2

/-! ### purses -/
section
variable {W : Wd} {X : Cx} {fr : Bool} {o e : Expr} {es : List Expr} {te t0 t1 t2' t3 : TD} {i : Nat} {apos p0 p1 spos pos : Pos} {j0 : Option Str}
theorem PurseAt.le {n m : Nat} {H : Hp} {a : Addr} (h : PurseAt n H a) (hn : n ≤ m) : PurseAt m H a := by
  obtain ⟨x, y, z, w, e, h1, h2, h3, ⟨h4, h5⟩, h6⟩ := h
  exact ⟨x, y, z, w, e, h1, h2, h3, ⟨h4, by omega⟩, h6⟩
theorem EnvR.purse {c : Ent} {pu : Pu} {σ : L2.St} {H : Hp} {ρ : List Sl} {a : Addr} {u : HO} {m : Nat} (e : EnvR W c pu σ H ρ) (ha : pu a = true) (hm : pu.n ≤ m) (hp : PurseAt m (upd H a u) a) : EnvR W c ⟨pu.is, m⟩ σ (upd H a u) ρ := by
  refine e.step ⟨fun b o q n => ?_, fun _ z => z, fun _ z => .inl z, fun b q => ?_⟩
  · have : b ≠ a := fun z => by rw [z, ha] at n; cases n
    rw [upd_ne this]; exact q
  · by_cases eb : b = a
    · subst eb; exact hp
    · obtain ⟨x, y, z, w, q1, q2⟩ := (e.pok b q).le hm
      exact ⟨x, y, z, w, by rw [upd_ne eb]; exact q1, q2⟩
/-- purse[k] -/
def tPurIx (i : Nat) (k : Int) : TD := fun N ρ Q => match slot ρ i with
  | .sh .purse => (k = 0 ∨ k = 1 ∨ k = 2 ∨ k = 3) ∧ ∀ n : Int, 0 ≤ n → (k = 1 → n < 2147483629) → (k = 2 → n ≤ N) → (k = 3 → n < 64) → Q (.int n) N
  | _ => False
theorem pur_slot {c : Ent} {pu : Pu} {σ : L2.St} {H : Hp} {ρ : List Sl} (ev : EnvR W c pu σ H ρ) (h : slot ρ i = .sh .purse) : ∃ a, σ[i]? = some (some (.ref a)) ∧ pu a = true ∧ PurseAt pu.n H a := by
  obtain ⟨v, h1, h2⟩ := ev.sl i _ (slot_some h (by intro z; cases z))
  simp only [Rep] at h2
  obtain ⟨a, rfl, h2⟩ := h2
  exact ⟨a, h1, h2, ev.pok a h2⟩
theorem pd_purIx {k : Int} (hv : PE X o (L2.tVar i)) (hk : PE X e (tC (.int k))) (hs : PlainIx e) : PD W X (.Subscript o e pos) (tPurIx i k) := fun c => PE_imp (pe_ix ix_list hv hk hs) fun σ H Q ⟨pu, ρ, P, ev, ht, q⟩ => by
  unfold tPurIx at ht
  split at ht
  · rename_i hsl
    obtain ⟨a, a1, a2, n, m, l, r, e1, h1, h2, h3, ⟨h4, h4'⟩, h5, h6⟩ := pur_slot ev hsl
    refine ⟨.ref a, a1, ?_⟩
    obtain ⟨hk, ht⟩ := ht
    rcases hk with rfl | rfl | rfl | rfl
    · exact ⟨a, _, 0, .int n, rfl, rfl, .inl (.inl e1), rfl, q pu _ (ht n h1 (fun z => by cases z) (fun z => by cases z) (fun z => by cases z)) _ H ev.rfl' rep_int⟩
    · exact ⟨a, _, 1, .int m, rfl, rfl, .inl (.inl e1), rfl, q pu _ (ht m h2 (fun _ => h3) (fun z => by cases z) (fun z => by cases z)) _ H ev.rfl' rep_int⟩
    · exact ⟨a, _, 2, .int l, rfl, rfl, .inl (.inl e1), rfl, q pu _ (ht l h4 (fun z => by cases z) (fun _ => h4') (fun z => by cases z)) _ H ev.rfl' rep_int⟩
    · exact ⟨a, _, 3, .int r, rfl, rfl, .inl (.inl e1), rfl, q pu _ (ht r h5 (fun z => by cases z) (fun z => by cases z) (fun _ => h6)) _ H ev.rfl' rep_int⟩
  · exact False.elim ht
/-- purse[k] = e, k not the seed's place -/
def tPurSet (i : Nat) (k : Int) (te : TD) : TDS := fun E N ρ => te N ρ fun d N1 => match d with
  | .int n => slot ρ i = .sh .purse ∧ (k = 0 ∨ k = 2) ∧ 0 ≤ n ∧ (k = 2 → n ≤ N1 + 1) ∧ E.nx (if k = 2 then N1 + 1 else N1) ρ
  | _ => False
theorem psd_purSet {k : Int} (hv : PE X o (L2.tVar i)) (hk : PE X e (tC (.int k))) {v : Expr} (he : PD W X v te)
    (ha : ∀ v, assign (.Subscript o e spos) X.env v = (do
      let ov ← holding [v] (eval o X.env)
      let iv ← holding [v, ov] (eval e X.env)
      standAt spos
      holding [v, ov, iv] (setItem ov iv v)
      release [v, ov, iv] []) := by intro _; rfl)
    (hs : swapsWithSole [.Subscript o e spos] v pos.line X.env = pure false := by rfl) (hw : swappedStores [.Subscript o e spos] v X.env = pure none := by rfl)
    (h1 : (assignEach [.Subscript o e spos] X.env).map (·.2) = [assign (.Subscript o e spos) X.env] := by rfl) : PSD W X fr (.Assign [.Subscript o e spos] v pos) (tPurSet i k te) := fun c _ =>
  PS_imp (ps_asg (he c) (pg_sub hv hk set_list ha) hs hw h1) fun De σ H ⟨pu, ρ, E, ev, ht, q1, _⟩ => by
  refine ⟨pu, ρ, _, ev, ht, fun pu1 d hd u H1 s1 r1 => ?_⟩
  cases d with
  | int z =>
    have hu : u = .int z := by simpa only [Rep] using r1
    subst hu
    obtain ⟨hsl, hk, hz, hz2, hd⟩ := hd
    have ev1 := ev.step s1
    obtain ⟨a, a1, a2, n, m, l, r, e1, g1, g2, g3, ⟨g4, g4'⟩, g5, g6⟩ := pur_slot ev1 hsl
    refine ⟨.ref a, a1, ?_⟩
    rcases hk with rfl | rfl
    · exact ⟨a, _, 0, 0, rfl, rfl, e1, rfl, q1 ⟨pu1.is, pu1.n⟩ ρ hd σ _ (ev1.purse a2 (Nat.le_refl _) ⟨z, m, l, r, upd_same, hz, g2, g3, ⟨g4, g4'⟩, g5, g6⟩)⟩
    · exact ⟨a, _, 2, 2, rfl, rfl, e1, rfl, q1 ⟨pu1.is, pu1.n + 1⟩ ρ hd σ _ (ev1.purse a2 (Nat.le_succ _) ⟨n, m, z, r, upd_same, g1, g2, g3, ⟨hz, by have := hz2 rfl; omega⟩, g5, g6⟩)⟩
  | _ => exact False.elim hd
/-- return [.., .., .., ..]: a new purse -/
def purA (xs : List D) (Q : D → Prop) : Prop := match xs with
  | [.int n, .int m, .int k, .int i] => (0 ≤ n ∧ 0 ≤ m ∧ m < 2147483629 ∧ k = 0 ∧ 0 ≤ i ∧ i < 64) ∧ Q .purse
  | _ => False
def tRetPur (tas : TAD) : TDS := fun E n ρ => tas n ρ fun xs n1 => purA xs fun d => E.rt d n1
theorem psd_retPur {tas : TAD} (h : PAD W X es tas) : PSD W X false (.Return (some (.List es p0)) pos) (tRetPur tas) := fun c hc => PS_imp (ps_ret (pe_lst (h c))) fun De σ H ⟨pu, ρ, E, ev, ht, h1, h2, _⟩ => by
  refine ⟨pu, ρ, _, ev, ht, fun pu1 xs hx vs H1 s r => ?_⟩
  unfold purA at hx
  split at hx
  · rename_i n m k i
    obtain ⟨hb, hq⟩ := hx
    have e := reps_ints_of r
    subst e
    obtain ⟨b1, b2, b3, b4, b5⟩ := hb
    refine ⟨by show 4 ≤ sizeLine; decide, fun p np => h2 ⟨fun a => pu1 a || a == p, pu1.n⟩ _ hq _ _ ?_⟩
    unfold RetR
    rw [hc, if_neg Bool.false_ne_true]
    have ev1 := ev.step s
    refine ⟨⟨fun a o q nu => ?_, fun a z => ?_, fun a z => ?_, fun a z => ?_⟩, ?_⟩
    · have q2 := ev1.stp.kp a o q nu
      rw [upd_ne (ne_of_none q2 np)]; exact q2
    · show (pu1 a || a == p) = true
      rw [ev1.stp.up a z]; rfl
    · rcases Bool.or_eq_true_iff.mp z with z | z
      · exact ev1.stp.nw a z
      · have : a = p := by simpa using z
        exact .inr (ev1.stp.none (by rw [this]; exact np))
    · by_cases ea : a = p
      · subst ea; exact ⟨n, m, k, i, upd_same, b1, b2, b3, ⟨by omega, by omega⟩, b5⟩
      · have z : pu1 a = true := by
          rcases Bool.or_eq_true_iff.mp z with z | z
          · exact z
          · exact absurd (by simpa using z) ea
        obtain ⟨x, y, w, u, e1, e2⟩ := ev1.pok a z
        exact ⟨x, y, w, u, by rw [upd_ne ea]; exact e1, e2⟩
    · simp only [Rep]
      exact ⟨p, rfl, by show (pu1 p || p == p) = true; simp⟩
  · exact False.elim hx
where reps_ints_of {pu : Pu} {S : Hp} {n m k i : Int} {vs : List V} (r : Reps W pu S [.int n, .int m, .int k, .int i] vs) : vs = [.int n, .int m, .int k, .int i] := ints_rep (ns := [n, m, k, i]) rfl r
/-- i.bit_length() -/
def tBitsD (te : TD) : TD := fun n ρ Q => te n ρ fun d n1 => match d with
  | .int i => Q (.int (Builtin.Int.intBits i : Nat)) n1
  | _ => False
theorem pd_bits (he : PKD W X o te) (h : ∀ t, PE X o t → PE X (.Call (.Attribute o "bit_length" apos) [] [] pos) (tBits t)) : PD W X (.Call (.Attribute o "bit_length" apos) [] [] pos) (tBitsD te) := fun c => PE_imp (h _ (he c)) fun σ H Q ⟨pu, ρ, P, ev, ht, q⟩ => by
  refine ⟨pu, ρ, _, ev, ht, fun pu1 d hd v H1 s r => ?_⟩
  cases d with
  | int z => exact ⟨z, r.int, q pu1 _ hd _ H1 s rep_int⟩
  | _ => exact False.elim hd
/-- i ** j, great i -/
def CPowB (i j : Int) : Prop := 0 ≤ j ∧ (Builtin.Int.intBits i : Int) * j ≤ 134217728
theorem op_powB : OpR X (binaryOp .Pow) (rI CPowB fun i j => .int (i ^ j.toNat)) := opI fun _ _ _ _ _ _ _ hc q => PyProof.Rows.pow_int hc.1 (by have := hc.2; omega) q
def powBD := intC CPowB fun i j => i ^ j.toNat
end
end DL
namespace DL
open PySem PySem.Spec L2

/-! ### calls by keywords alone -/
def pick {α : Type} (sel : List Nat) (xs : List α) : List α := sel.filterMap fun i => xs[i]?
section
variable {W : Wd} {pu : Pu} {h : Addr → Bool} {H : Hp}
theorem ArgsR.get : ∀ {ms : List Bool} {ds : List D} {vs : List V} {i : Nat}, ArgsR W pu h H ms ds vs → i < ms.length → ∃ m d v, ms[i]? = some m ∧ ds[i]? = some d ∧ vs[i]? = some v ∧ (if m = true then RepA W pu h H d v else Rep W pu (hid h H) d v)
  | [], _, _, _, _, hi => by simp at hi
  | m :: ms, _, _, 0, ⟨d, ds', v, vs', e1, e2, q, _⟩, _ => by subst e1 e2; exact ⟨m, d, v, rfl, rfl, rfl, q⟩
  | m :: ms, _, _, i + 1, ⟨d, ds', v, vs', e1, e2, _, rest⟩, hi => by
    subst e1 e2
    obtain ⟨m', d', v', q1, q2, q3, q4⟩ := ArgsR.get rest (i := i) (by simpa using hi)
    exact ⟨m', d', v', by simpa using q1, by simpa using q2, by simpa using q3, q4⟩
theorem ArgsR.pick {ms : List Bool} {ds : List D} {vs : List V} (r : ArgsR W pu h H ms ds vs) : ∀ {sel : List Nat}, (∀ i ∈ sel, i < ms.length) → ArgsR W pu h H (DL.pick sel ms) (DL.pick sel ds) (DL.pick sel vs)
  | [], _ => ⟨rfl, rfl⟩
  | i :: sel, hs => by
    obtain ⟨m, d, v, q1, q2, q3, q4⟩ := r.get (hs i List.mem_cons_self)
    have rest := ArgsR.pick r (sel := sel) fun j hj => hs j (List.mem_cons_of_mem _ hj)
    unfold DL.pick at rest ⊢
    rw [List.filterMap_cons_some q1, List.filterMap_cons_some q2, List.filterMap_cons_some q3]
    exact ⟨d, _, v, _, rfl, rfl, q4, rest⟩
theorem vals_pick {vs : List V} {us : List Value} (r : Vals vs us) : ∀ sel : List Nat, Vals (pick sel vs) (pick sel us)
  | [] => .nil
  | i :: sel => by
    have rest := vals_pick r sel
    unfold pick at rest ⊢
    cases e : vs[i]? with
    | none =>
      have e2 : us[i]? = none := by
        rw [List.getElem?_eq_none_iff] at e ⊢
        rw [← r.length]; exact e
      rw [List.filterMap_cons_none e, List.filterMap_cons_none e2]; exact rest
    | some v =>
      obtain ⟨u, e2, rv⟩ := r.get e
      rw [List.filterMap_cons_some e, List.filterMap_cons_some e2]
      exact .cons rv rest
end
section
variable {K : PySem.W.Frag} {x qual : Str} {params : Arguments} {body : List Stmt} {scope : Scope} {f : Addr} {fd : FuncData} {ps ks : List Str}
theorem kb_fun {kws : List (Str × V)} (F : FunD K x qual params body scope [] kws f fd) (sel : List Nat)
    (h : ∀ (kV doc pm : Value) (an : Option Addr) (cdv ct : Value) (ws : List Value), ws.length = ks.length → bindArgs (PySem.W.fnOf x qual params body scope .none kV doc pm an cdv ct) ⟨[], ks.zip ws⟩ = pure (ps.zip (pick sel ws))) : KBn K fd ps 0 ks (fun _ ws => pick sel ws) (fun _ zs => pick sel zs) := by
  obtain ⟨oc, od, dV, kV, doc, pm, an, cdv, ct, osl, rfl, lk, hcd, hD, hK⟩ := F.ex
  rcases hD with ⟨_, rfl⟩ | ⟨e, _⟩
  · refine ⟨fun s us ws _ l1 l2 => ?_, fun _ r => vals_pick r sel⟩
    have : us = [] := List.eq_nil_of_length_eq_zero l1
    subst this
    exact .of_eq (h kV doc pm an cdv ct ws l2)
  · exact absurd rfl e
theorem kb_init {kws : List (Str × V)} (F : FunD K x qual params body scope [] kws f fd) (sel : List Nat)
    (h : ∀ (kV doc pm : Value) (an : Option Addr) (cdv ct : Value) (u : Value) (ws : List Value), ws.length = ks.length → bindArgs (PySem.W.fnOf x qual params body scope .none kV doc pm an cdv ct) ⟨[u], ks.zip ws⟩ = pure (ps.zip (u :: pick sel ws))) : KBn K fd ps 1 ks (fun us ws => us ++ pick sel ws) (fun vs zs => vs ++ pick sel zs) := by
  obtain ⟨oc, od, dV, kV, doc, pm, an, cdv, ct, osl, rfl, lk, hcd, hD, hK⟩ := F.ex
  rcases hD with ⟨_, rfl⟩ | ⟨e, _⟩
  · refine ⟨fun s us ws _ l1 l2 => ?_, fun r1 r => r1.append (vals_pick r sel)⟩
    match us, l1 with
    | [u], _ => exact .of_eq (h kV doc pm an cdv ct u ws l2)
  · exact absurd rfl e
end
/-- a def, its arguments by keywords ks -/
structure FnKw (P : Program) (w : World) (K : PySem.W.Frag) (mg : Str → Option Value) (base : Heap) (W : Wd) (x : Str) (k : Nat) (ks : List Str) (sel : List Nat) (ms : List Bool) (fr : Bool) (F : FnD) : Prop where
  ex : ∃ (f : Addr) (fd : FuncData) (ps : List Str), mg x = some (.ref f) ∧ PySem.W.keepIn K (.ref f) = true ∧ FnOk P w K mg base CX0 k f fd ps (spD W ms fr F) ∧ KBn K fd ps 0 ks (fun _ ws => pick sel ws) (fun _ zs => pick sel zs)
structure MkKw (P : Program) (w : World) (K : PySem.W.Frag) (mg : Str → Option Value) (base : Heap) (W : Wd) (x cn : Str) (k : Nat) (ks : List Str) (sel : List Nat) (ms : List Bool) (F : FnD) : Prop where
  ex : ∃ (C f : Addr) (fd : FuncData) (ps : List Str), mg x = some (.ref C) ∧ W.cls cn = some C ∧ Mk K C f ∧ FnOk P w K mg base CX0 k f fd ps (spI W cn ms F) ∧ KBn K fd ps 1 ks (fun us ws => us ++ pick sel ws) (fun vs zs => vs ++ pick sel zs)
section
variable {W : Wd} {X : Cx} {fr : Bool} {x cn : Str} {k : Nat} {ks : List Str} {sel : List Nat} {msK : List Bool} {F : FnD} {kws : List Keyword} {tas : TAD} {p pos : Pos}
def tFnK (F : FnD) (sel : List Nat) (tas : TAD) : TD := fun n ρ Q => tas n ρ fun xs n1 => F n1 (pick sel xs) Q
def tCallK0 (sp : Sp) (m : Nat) (gV : List V → List V) (E : XK) (tk : TA) : TE := fun σ H Q => tk σ H fun zs H2 => zs.length = m ∧ sp (gV zs) H2 Q E
theorem pe_callK0 {CX : CXT} {f : Addr} {fd : FuncData} {ps : List Str} {sp : Sp} {E : XK} {g : List Value → List Value → List Value} {gV : List V → List V → List V} {tk : TA} (G : FnOk X.prog X.w X.K X.mg X.base CX k f fd ps sp) (hr : Room k X.A) (hg : Gl X x) (hm : X.mg x = some (.ref f)) (hk : PySem.W.keepIn X.K (.ref f) = true) (hb : KBn X.K fd ps 0 ks g gV) (hx : Passes CX X E) (hkw : PK X kws tk)
    (hall : (backToKw pos (keywordEach kws X.env)).all (·.1.isSome) = true := by rfl) (hks : (backToKw pos (keywordEach kws X.env)).filterMap (·.1) = ks := by rfl) (hdb : (x == ("__debug__" : Str)) = false := by decide)
    (hpl : ((backTo pos (starEach [] X.env)).any (·.1) || (backToKw pos (keywordEach kws X.env)).any (·.1.isNone)) = false := by rfl) : PE X (.Call (.Name x p) [] kws pos) (tCallK0 sp ks.length (gV []) E tk) := by
  refine ⟨fun pins s σ H Q I h => wpAny_Call_Name_kw (ld_glob I hg hm ?_ hdb)⟩
  refine PySem.W.callWith_KW0 (h₀ := X.base) I.ok.mod.kin hk hall (thn (hkw.run pos pins s σ H _ I h) fun ws s2 ⟨zs, H2, I2, rz, l2, q2⟩ => ⟨I2.kIn, ?_⟩) hpl
  rw [hks]
  have r2 := hb.rel (vs := []) (us := []) .nil rz
  have l3 : ws.length = ks.length := rz.length.symm.trans l2
  refine wpAny_call (codeAny_mono (G.run X.A X.stack s2 H2 ⟨[], ks.zip ws⟩ (g [] ws) (gV [] zs) Q E hr I2.env0 (hb.to s2 [] ws I2.kIn rfl l3) r2 q2) fun r s' hq => ?_)
  match r, hq with
  | .error e, hq => exact hx pins σ H2 s2 e s' I2 hq
  | .ok (.ret u), hq => exact I2.after hq
  | .ok .next, hq => exact False.elim hq
  | .ok .brk, hq => exact False.elim hq
  | .ok .cont, hq => exact False.elim hq
theorem fnk_run {c : Ent} {σ : L2.St} {H : Hp} {Q : VK} {pu : Pu} {ρ : List Sl} {P : D → Nat → Prop} (ev : EnvR W c pu σ H ρ) (ht : tFnK F sel tas pu.n ρ P) (hl : msK.length = ks.length) (hs : ∀ i ∈ sel, i < msK.length)
    (q : ∀ (pu' : Pu) d, P d pu'.n → ∀ v pu1 H1 H', Stp pu H pu1 H1 → RetR W ⟨pu1, hdn c σ ρ, H1, fr⟩ pu' d v H' → Q v H') : tCallK0 (spD W (pick sel msK) fr F) ks.length (fun zs => pick sel zs) E0 (rdAM W c msK tas) σ H Q :=
  ⟨pu, ρ, _, ev, ht, fun pu1 xs hx vs H1 s r => ⟨by rw [argsR_len r, hl], pu1, hdn c σ ρ, _, P, (ev.step s).pok, (ev.step s).vw.th, r.pick hs, hx, fun pu' d hP v H' rr => q pu' d hP v pu1 H1 H' s rr⟩⟩
theorem pd_callK (A : FnKw X.prog X.w X.K X.mg X.base W x k ks sel (pick sel msK) false F) (hr : Room k X.A) (hg : Gl X x) (hkw : PKwD W X msK kws tas) (hl : msK.length = ks.length := by rfl) (hs : ∀ i ∈ sel, i < msK.length := by decide)
    (hall : (backToKw pos (keywordEach kws X.env)).all (·.1.isSome) = true := by rfl) (hks : (backToKw pos (keywordEach kws X.env)).filterMap (·.1) = ks := by rfl) (hdb : (x == ("__debug__" : Str)) = false := by decide)
    (hpl : ((backTo pos (starEach [] X.env)).any (·.1) || (backToKw pos (keywordEach kws X.env)).any (·.1.isNone)) = false := by rfl) : PD W X (.Call (.Name x p) [] kws pos) (tFnK F sel tas) := fun c => by
  obtain ⟨f, fd, ps, hm, hk, G, hb⟩ := A.ex
  refine PE_imp (pe_callK0 G hr hg hm hk hb pass0 (hkw c) hall hks hdb hpl) fun σ H Q ⟨pu, ρ, P, ev, ht, q⟩ => fnk_run ev ht hl hs fun pu' d hP v pu1 H1 H' s rr => ?_
  unfold RetR at rr
  rw [if_neg Bool.false_ne_true] at rr
  obtain ⟨s', r'⟩ := rr
  exact q pu' d hP v H' (s.trans s') r'
theorem pd_makeK (A : MkKw X.prog X.w X.K X.mg X.base W x cn k ks sel (pick sel msK) F) (hr : Room (k + 1) X.A) (hg : Gl X x) (hkw : PKwD W X msK kws tas) (hl : msK.length = ks.length := by rfl) (hs : ∀ i ∈ sel, i < msK.length := by decide)
    (hall : (backToKw pos (keywordEach kws X.env)).all (·.1.isSome) = true := by rfl) (hks : (backToKw pos (keywordEach kws X.env)).filterMap (·.1) = ks := by rfl) (hdb : (x == ("__debug__" : Str)) = false := by decide)
    (hpl : ((backTo pos (starEach [] X.env)).any (·.1) || (backToKw pos (keywordEach kws X.env)).any (·.1.isNone)) = false := by rfl) : PD W X (.Call (.Name x p) [] kws pos) (tFnK F sel tas) := fun c => by
  obtain ⟨C, f, fd, ps, hm, hC, M, G, hb⟩ := A.ex
  refine PE_imp (pe_makeK0 M G hr hg hm hb pass0 (hkw c) hall hks hdb hpl) fun σ H Q ⟨pu, ρ, P, ev, ht, q⟩ => ?_
  exact ⟨pu, ρ, _, ev, ht, fun pu1 xs hx vs H1 s r => ⟨rfl, by rw [argsR_len r, hl], fun y dx n1 n2 ne => make_post ev s (r.pick hs) hx hC q y dx n1 n2 ne _⟩⟩
end
end DL
namespace DL
open PySem PySem.Spec L2

/-! ### == and != where an own __eq__ is asked -/
/-- what is asked of the class -/
structure EqC (K : PySem.W.Frag) (C : Addr) : Prop where
  ne : PySem.W.findIn K (.ref C) "__ne__" = some (some (.builtin "object.__ne__"))
  ob : PySem.W.subIn K (.ref C) (.type "object") = some true
  nf : ∀ n ∈ sevenT, PySem.W.notFirst K C (.type n) = true
  sf : ∀ n ∈ sevenT, PySem.W.subIn K (.ref C) (.type n) = some false
section
variable {W : Wd} {X : Cx} {pins : List (Addr × Obj)} {s : Shared} {σ : L2.St} {H : Hp} {pu : Pu} {h : Addr → Bool}
theorem look_of {M : Model} {hp : Heap} {a : Addr} {o : Obj} (e : hp.get? a = some o) : PySem.W.Looks M hp (typeOf (.ref a)) o.cls := (PySem.W.Looks.ld e).andThen .now
theorem look_ty {M : Model} {a : Addr} {T : String} (e : s.TypeIs (.ref a) T) : PySem.W.Looks M s.heap (typeOf (.ref a)) (.type T) := by
  obtain ⟨o, e1, e2⟩ := e
  rw [← e2]; exact look_of e1
/-- the type of a value -/
theorem ty_look {M : Model} (hK : X.K = W.K) (I : Inv X pins σ H s) {x : D} {v : V} {u : Value} (r : RepK W pu h H x v) (rv : RelV v u) (hx : ∃ t, tyN x = some t) :
    ∃ n ∈ sevenT, PySem.W.Looks M s.heap (typeOf u) (.type n) := by
  cases x with
  | non => rw [r.non] at rv; cases rv; exact ⟨"NoneType", by decide, .of_pure rfl⟩
  | bl b => rw [r.bl] at rv; cases rv; exact ⟨"bool", by decide, .of_pure rfl⟩
  | int i => rw [r.int] at rv; obtain ⟨t, rfl⟩ := rv; exact ⟨"int", by decide, .of_pure rfl⟩
  | str z => rw [r.str] at rv; obtain ⟨t, rfl⟩ := rv; exact ⟨"str", by decide, .of_pure rfl⟩
  | lst ds =>
    obtain ⟨a, vs, rfl, q, _⟩ := r.lst
    cases rv
    obtain ⟨_, its, n, _, _, e⟩ := rd_lst I q
    exact ⟨"list", by decide, look_of e⟩
  | tup ds =>
    obtain ⟨a, vs, rfl, q, _⟩ := r.tup
    cases rv
    rw [← hK] at q
    obtain ⟨its, _, ⟨o, e1, e2, _⟩, _⟩ := I.tuple q
    exact ⟨"tuple", by decide, e2 ▸ look_of e1⟩
  | dct ks ds =>
    obtain ⟨a, vs, rfl, ⟨_, q⟩, _⟩ := r.dct
    cases rv
    have d : IsD H a := by
      rcases q with ⟨k1, _, q⟩ | ⟨k1, _, _, q⟩
      · exact .inl ⟨_, q⟩
      · exact .inr ⟨_, q⟩
    exact ⟨"dict", by decide, look_ty (isD_at I d).1⟩
  | obj c ns ds => obtain ⟨t, e⟩ := hx; cases e
  | purse => obtain ⟨t, e⟩ := hx; cases e
  | ty n => obtain ⟨t, e⟩ := hx; cases e
  | cl n => obtain ⟨t, e⟩ := hx; cases e
  | scr n => obtain ⟨t, e⟩ := hx; cases e
end
def blP (P : D → Nat → Prop) (d : D) (n : Nat) : Prop := match d with
  | .bl _ => P d n
  | _ => False
def negP (P : D → Nat → Prop) (d : D) (n : Nat) : Prop := match d with
  | .bl b => P (.bl (!b)) n
  | _ => False
/-- an operation that may call a def -/
def Op2N (W : Wd) (f : Nat → D → D → (D → Nat → Prop) → Prop) (r : R2) : Prop := ∀ (pu : Pu) h H x y v u P Q, Vw pu h H → RepK W pu h H x v → RepK W pu h H y u → f pu.n x y P → Kt W pu h H P Q → r v u H Q
def t2N (f : Nat → D → D → (D → Nat → Prop) → Prop) (ta tb : TD) : TD := fun n ρ Q => ta n ρ fun x n1 => tb n1 ρ fun y n2 => f n2 x y Q
section
variable {W : Wd} {X : Cx} {a b : Expr} {ta tb : TD} {pos : Pos}
theorem two_runN {f : Nat → D → D → (D → Nat → Prop) → Prop} {r : R2} {c : Ent} {σ : L2.St} {H : Hp} {Q : VK} {pu : Pu} {ρ : List Sl} {P : D → Nat → Prop} (k : Op2N W f r) (ev : EnvR W c pu σ H ρ) (ht : t2N f ta tb pu.n ρ P) (q : Kt W pu (hdn c σ ρ) H P Q) : tOp r (rdK W c ta) (rdK W c tb) σ H Q :=
  ⟨pu, ρ, _, ev, ht, fun pu1 x hx v H1 s1 r1 => ⟨pu1, ρ, _, ev.step s1, hx, fun pu2 y hy u H2 s2 r2 => k pu2 (hdn c σ ρ) H2 x y v u P Q ((ev.step s1).step s2).vw (r1.step s2) r2 hy fun pu3 d hd w H3 s3 r3 => q pu3 d hd w H3 (s1.trans (s2.trans s3)) r3⟩⟩
theorem pd_cmpN {op : CmpOp} {f : Nat → D → D → (D → Nat → Prop) → Prop} {r : R2} (ho : OpR X (compareOp op) r) (k : Op2N W f r) (ha : PKD W X a ta) (hb : PKD W X b tb) (hm : behindInMarks op b = false) : PD W X (.Compare a [op] [b] pos) (t2N f ta tb) := fun c =>
  PE_imp (pe_cmpR ho (ha c) (hb c) hm) fun σ H Q ⟨pu, ρ, P, ev, ht, q⟩ => two_runN k ev ht q
theorem ptd_cmpN {op : CmpOp} {f : Nat → D → D → (D → Nat → Prop) → Prop} {r : R2} (ho : OpR X (compareOp op) r) (k : Op2N W f r) (ha : PKD W X a ta) (hb : PKD W X b tb) (hm : behindInMarks op b = false) : PTD W X (.Compare a [op] [b] pos) (tTst (t2N f ta tb)) := fun c =>
  PT_imp (pt_cmpR ho (ha c) (hb c) hm) fun σ H Q ⟨pu, ρ, P, ev, ht, q⟩ => two_runN (P := fun d n => match d with
    | .bl b => P b n
    | _ => False) k ev ht fun pu' d hd v H' s r => by
      cases d with
      | bl k => exact ⟨k, by simpa only [Rep] using r, q pu' k hd H' s⟩
      | _ => exact False.elim hd
end
def okE (cn : Str) (e : D) : Prop := (∃ t, tyN e = some t) ∨ ∃ ns ds, e = .obj cn ns ds
/-- x == y, an object of the class cn on the left; != -/
def rEqO (W : Wd) (cn : Str) (F : FnD) (neg : Bool) : R2 := fun x y H Q => ∃ (pu : Pu) (h : Addr → Bool) (d e : D) (P : D → Nat → Prop), W.me = none ∧ Vw pu h H ∧ RepK W pu h H d x ∧ RepK W pu h H e y ∧ (∃ ns ds, d = .obj cn ns ds) ∧ okE cn e ∧ F pu.n [d, e] P ∧
  ∀ (pu' : Pu) r, P r pu'.n → ∃ b, r = .bl b ∧ ∀ H', Stp pu H pu' H' → Q (.bl (if neg = true then !b else b)) H'
section
variable {W : Wd} {X : Cx} {cn : Str} {k : Nat} {F : FnD}
theorem eq_run {A : Around} {pins : List (Addr × Obj)} {s : Shared} {σ : L2.St} {H : Hp} {f : Addr} {fd : FuncData} {ps : List Str} {x y : V} {u v : Value} {Q : Bool → Hp → Prop} {pu : Pu} {h : Addr → Bool} {d e : D} {P : D → Nat → Prop} (G : FnOk X.prog X.w X.K X.mg X.base CX0 k f fd ps (spD W [false, true] false F)) (hb : Binds X.K fd ps []) (hr : Room k A) (hfr : A.frames = X.A.frames)
    (I : Inv X pins σ H s) (rx : RelV x u) (ry : RelV y v) (hme : W.me = none) (w : Vw pu h H) (r1 : RepK W pu h H d x) (r2 : RepK W pu h H e y) (hd : isObj d = true) (hF : F pu.n [d, e] P) (q : ∀ (pu' : Pu) r, P r pu'.n → ∃ b, r = .bl b ∧ ∀ H', Stp pu H pu' H' → Q b H') :
    wpAny (model X.prog X.w) A (call (.ref f) [u, v]) (fun z s' => ∃ b H', z = .bool b ∧ Inv X pins σ H' s' ∧ Q b H') X.xe s := by
  have e0 : Env0 X.prog X.w X.K X.mg X.base A X.stack s H := by
    have e := I.env0
    exact ⟨by rw [hfr]; exact e.frames, e.mod, e.bs, e.bsz, e.funs, e.frf, e.hok, e.bare⟩
  have rv : Vals [x, y] [u, v] := .cons rx (.cons ry .nil)
  have hsp : spD W [false, true] false F [x, y] H (fun z H' => ∃ b, z = .bl b ∧ Q b H') E0 := by
    refine ⟨pu, h, [d, e], P, w.ok, w.th, ⟨d, [e], x, [y], rfl, rfl, by rw [if_neg Bool.false_ne_true]; exact r1.rep_obj hme hd, e, [], y, [], rfl, rfl, by rw [if_pos rfl]; exact r2.repA' hme, rfl, rfl⟩, hF, fun pu' r hP z H' rr => ?_⟩
    unfold RetR at rr
    rw [if_neg Bool.false_ne_true] at rr
    obtain ⟨st, rr⟩ := rr
    obtain ⟨b, rfl, q⟩ := q pu' r hP
    exact ⟨b, by simpa only [Rep] using rr, q H' st⟩
  have hl := G.len _ _ _ _ hsp
  have hbs := hb s [u, v] I.kIn (by simpa using hl)
  rw [List.append_nil] at hbs
  refine wpAny_call (codeAny_mono (G.run A X.stack s H ⟨[u, v], []⟩ [u, v] [x, y] _ E0 hr e0 hbs rv hsp) fun r s' hq => ?_)
  match r, hq with
  | .error er, hq => exact pass0 pins σ H s er s' I hq
  | .ok (.ret z), hq =>
    obtain ⟨z', H', I', rz, b, e1, q⟩ := I.after hq
    subst e1
    cases rz
    exact ⟨b, H', rfl, I', q⟩
  | .ok .next, hq => exact False.elim hq
  | .ok .brk, hq => exact False.elim hq
  | .ok .cont, hq => exact False.elim hq
theorem not_first {K : PySem.W.Frag} {C : Addr} {M : Model} {hp : Heap} {u : Value} (E : EqC K C) (hc : ∀ C', W.cls cn = some C' → C' = C) (t : (∃ n ∈ sevenT, PySem.W.Looks M hp (typeOf u) (.type n)) ∨ ∃ C', W.cls cn = some C' ∧ PySem.W.Looks M hp (typeOf u) (.ref C')) :
    ∃ tb, PySem.W.Looks M hp (typeOf u) tb ∧ PySem.W.notFirst K C tb = true := by
  rcases t with ⟨n, hn, l⟩ | ⟨C', h, l⟩
  · exact ⟨_, l, E.nf n hn⟩
  · rw [hc C' h] at l
    exact ⟨_, l, by unfold PySem.W.notFirst; simp⟩
theorem ty_cn {M : Model} {pins : List (Addr × Obj)} {s : Shared} {σ : L2.St} {H : Hp} {pu : Pu} {h : Addr → Bool} (hK : X.K = W.K) (I : Inv X pins σ H s) {x : D} {v : V} {u : Value} (r : RepK W pu h H x v) (rv : RelV v u) (hx : okE cn x) :
    (∃ n ∈ sevenT, PySem.W.Looks M s.heap (typeOf u) (.type n)) ∨ ∃ C, W.cls cn = some C ∧ PySem.W.Looks M s.heap (typeOf u) (.ref C) := by
  rcases hx with e | ⟨ns, ds, rfl⟩
  · exact .inl (ty_look hK I r rv e)
  · obtain ⟨a, C, dx, vs, rfl, hC, q, _, _⟩ := r.obj
    cases rv
    obtain ⟨mA, J, _⟩ := ins_get I.hok q
    obtain ⟨od, J, _⟩ := J.look
    exact .inr ⟨C, hC, J.type⟩
theorem op_eqO (hK : X.K = W.K) (A : MtAt X.prog X.w X.K X.mg X.base W cn "__eq__" k [false, true] false F) (hE : ∀ C, W.cls cn = some C → EqC X.K C) (hr : Room k X.A) : OpR X (compareOp .Eq) (rEqO W cn F false) := by
  obtain ⟨C, f, fd, ps, hC, cl, M, G, hb⟩ := A.ex
  intro pins s σ H x y u v Q I rx ry hq
  obtain ⟨pu, h, d, e, P, hme, w, r1, r2, ⟨ns, ds, rfl⟩, ho, hF, q⟩ := hq
  show wpAny (model X.prog X.w) X.A (richCompare .Eq u v) (EP X pins σ Q) X.xe s
  obtain ⟨tb, hl, hn⟩ := not_first (u := v) (hE C hC) (fun C' z => by rw [hC] at z; exact (Option.some.inj z).symm) (ty_cn (M := model X.prog X.w) hK I r2 ry ho)
  obtain ⟨a, C', dx, vs, rfl, hC', q1, _, _⟩ := r1.obj
  rw [hC] at hC'; cases hC'
  have hrun := eq_run (Q := fun b H' => Q (.bl b) H') G hb hr rfl I rx ry hme w r1 r2 rfl hF fun pu' r z => by obtain ⟨b, e1, e2⟩ := q pu' r z; exact ⟨b, e1, fun H' st => by simpa using e2 H' st⟩
  cases rx
  obtain ⟨mA, J, _⟩ := ins_get I.hok q1
  obtain ⟨od, J, _⟩ := J.look
  obtain ⟨m, hFr⟩ := I.fr
  refine PySem.W.cmp_K (op := .Eq) (tb := tb) hr.units0 hFr I.ok.mod.kin J hl hn M.at_ M.fn (wpAny_mono hrun (fun z s' hz => ?_) fun _ _ z => z)
  obtain ⟨b, H', rfl, I', q⟩ := hz
  exact ⟨.bl b, H', I', rfl, q⟩
/-- a builtin slot of object is found for an instance -/
theorem bound_slot {M : Model} {A : Around} {E : Value → Shared → Prop} {s : Shared} {K : PySem.W.Frag} {x C : Addr} {ox : Obj} {od : Option Obj} {name : Str} {id : String} {args : List Value} {Q : Option Value → Shared → Prop} (Z : K.In s.heap) (J : PySem.W.InstAt s.heap x ox C od) (hs : PySem.W.findIn K (.ref C) name = some (some (.builtin id))) (S : Slot "object" name id)
    (q : wpAny M A (call (.builtin id) (.ref x :: args)) (fun v => Q (some v)) E s) : wpAny M A (callSpecialIfBound? (.ref x) name args) Q E s := by
  simp only [callSpecialIfBound?, bindSpecialIfBound?]
  refine wpAny_holding (wpAny_bind (wpAny_bind (wpAny_bind (J.type.here ((PySem.W.looks_findIn Z hs).here ?_)))))
  simp only [S.bind]
  have fin : wpAny M A (call (.builtin id) ([.ref x] ++ args) >>= fun v => pure (some v)) Q E s := wpAny_bind (wpAny_mono q (fun v s' z => wpAny_pure z) fun _ _ z => z)
  refine wpAny_bind (wpAny_askSetting (wpAny_ite ?_))
  split
  · exact wpAny_bind (wpAny_pure (wpAny_pure fin))
  · exact wpAny_tryCatch (wpAny_bind (wpAny_pure (wpAny_pure fin)))
theorem op_neO (hK : X.K = W.K) (A : MtAt X.prog X.w X.K X.mg X.base W cn "__eq__" k [false, true] false F) (hE : ∀ C, W.cls cn = some C → EqC X.K C) (hr : Room (k + 1) X.A) : OpR X (compareOp .NotEq) (rEqO W cn F true) := by
  obtain ⟨C, f, fd, ps, hC, cl, M, G, hb⟩ := A.ex
  intro pins s σ H x y u v Q I rx ry hq
  obtain ⟨pu, h, d, e, P, hme, w, r1, r2, ⟨ns, ds, rfl⟩, ho, hF, q⟩ := hq
  show wpAny (model X.prog X.w) X.A (richCompare .NotEq u v) (EP X pins σ Q) X.xe s
  obtain ⟨tb, hl, hn⟩ := not_first (u := v) (hE C hC) (fun C' z => by rw [hC] at z; exact (Option.some.inj z).symm) (ty_cn (M := model X.prog X.w) hK I r2 ry ho)
  obtain ⟨a, C', dx, vs, rfl, hC', q1, _, _⟩ := r1.obj
  rw [hC] at hC'; cases hC'
  cases rx
  obtain ⟨mA, J, _⟩ := ins_get I.hok q1
  obtain ⟨od, J, _⟩ := J.look
  obtain ⟨m, hFr⟩ := I.fr
  have Z := I.kIn
  have EC := hE C hC
  have hr1 : Room k X.A.in1 := hr.in1
  have hrun := eq_run (A := X.A.in1) (Q := fun b H' => Q (.bl (!b)) H') G hb hr1 rfl I (x := .ref a) (u := .ref a) rfl ry hme w r1 r2 rfl hF fun pu' r z => by obtain ⟨b, e1, e2⟩ := q pu' r z; exact ⟨b, e1, fun H' st => by simpa using e2 H' st⟩
  have slot := PySem.F.cmp_object.ne
  have one : wpAny (model X.prog X.w) X.A (tryCompare (.ref a) "__ne__" v) (fun r s' => ∃ b H', r = some (.bool (!b)) ∧ Inv X pins σ H' s' ∧ Q (.bl (!b)) H') X.xe s := by
    unfold tryCompare
    refine wpAny_bind (bound_slot Z J EC.ne slot (wpAny_call (codeAny_call_builtin slot.plain PySem.F.cmpEntry_ne (PySem.W.check_slot PySem.F.cmpKind_ne PySem.F.cmpSplit_ne (J.type.andThen (PySem.W.looks_subIn Z EC.ob)) (PySem.F.cmpArgs_ne _ _) ?_))))
    show wpAny _ X.A.in1 (cRoomFor "comparison" [.ref a, v] >>= fun _ => (callSpecialIfBound? (.ref a) "__eq__" [v] >>= fun r => match r with
      | some .notImplemented | none => ret .notImplemented
      | some r => truthy r >>= fun z => ret (.bool (!z)))) _ _ _
    refine wpAny_bind (wpAny_cRoomFor hr1.units0 (wpAny_bind (PySem.W.ifBound_K Z J M.at_ M.fn (wpAny_mono hrun (fun z s' hz => ?_) fun _ _ z => z))))
    obtain ⟨b, H', rfl, I', q⟩ := hz
    exact wpAny_bind (wpAny_truthy_bool (wpAny_pure (wpAny_pure ⟨b, H', rfl, I', q⟩)))
  have fin : ∀ (b : Bool) (H' : Hp) (s' : Shared), Inv X pins σ H' s' → Q (.bl (!b)) H' → EP X pins σ Q (.bool (!b)) s' := fun b H' s' I' q => ⟨.bl (!b), H', I', rfl, q⟩
  unfold richCompare
  simp only [oneThing_ref]
  refine wpAny_holding (wpAny_bind (wpAny_cRoomFor hr.units0 (wpAny_bind (J.type.here (wpAny_bind (hl.here ?_))))))
  split
  · rename_i hne
    have e : PySem.W.subIn X.K tb (.ref C) = some false := by
      rcases Bool.or_eq_true_iff.mp hn with e | e
      · rw [beq_iff_eq.mp e] at hne; simp at hne
      · exact beq_iff_eq.mp e
    refine wpAny_bind ((PySem.W.looks_subIn Z e).here ?_)
    simp only [Bool.false_eq_true, if_false]
    refine wpAny_bind (wpAny_mono one (fun r s' z => ?_) fun _ _ z => z)
    obtain ⟨b, H', rfl, I', q⟩ := z
    exact wpAny_pure (fin b H' s' I' q)
  · refine wpAny_bind (wpAny_pure ?_)
    simp only [Bool.false_eq_true, if_false]
    refine wpAny_bind (wpAny_mono one (fun r s' z => ?_) fun _ _ z => z)
    obtain ⟨b, H', rfl, I', q⟩ := z
    exact wpAny_pure (fin b H' s' I' q)
end
/-! as operators over trees -/
def eqO (cn : Str) (F : FnD) (n : Nat) (x y : D) (P : D → Nat → Prop) : Prop := match x with
  | .obj c ns ds => c = cn ∧ okE cn y ∧ F n [.obj c ns ds, y] (blP P)
  | _ => eqD x y fun d => P d n
def neO (cn : Str) (F : FnD) (n : Nat) (x y : D) (P : D → Nat → Prop) : Prop := match x with
  | .obj c ns ds => c = cn ∧ okE cn y ∧ F n [.obj c ns ds, y] (negP P)
  | _ => neD x y fun d => P d n
section
variable {W : Wd} {cn : Str} {F : FnD}
theorem Kt.post {pu : Pu} {h : Addr → Bool} {H : Hp} {P : D → Nat → Prop} {Q : VK} (q : Kt W pu h H P Q) : Post W pu h H (fun d => P d pu.n) Q := fun d hd v H' s r => q pu d hd v H' s r
theorem k_eqO (hme : W.me = none := by rfl) : Op2N W (eqO cn F) (fun x y H Q => rEqD W.K x y H Q ∨ rEqO W cn F false x y H Q) := fun pu h H x y v u P Q w rx ry hf q => by
  unfold eqO at hf
  split at hf
  · obtain ⟨rfl, ho, hF⟩ := hf
    refine .inr ⟨pu, h, _, y, blP P, hme, w, rx, ry, ⟨_, _, rfl⟩, ho, hF, fun pu' r hr => ?_⟩
    cases r with
    | bl b => exact ⟨b, rfl, fun H' st => q pu' _ hr _ H' st (by simp only [Rep]; simp)⟩
    | _ => exact False.elim hr
  · exact .inl (k_eqD pu h H _ _ v u _ Q w rx ry hf (Kt.post q))
theorem k_neO (hme : W.me = none := by rfl) : Op2N W (neO cn F) (fun x y H Q => rNeD W.K x y H Q ∨ rEqO W cn F true x y H Q) := fun pu h H x y v u P Q w rx ry hf q => by
  unfold neO at hf
  split at hf
  · obtain ⟨rfl, ho, hF⟩ := hf
    refine .inr ⟨pu, h, _, y, negP P, hme, w, rx, ry, ⟨_, _, rfl⟩, ho, hF, fun pu' r hr => ?_⟩
    cases r with
    | bl b => exact ⟨b, rfl, fun H' st => q pu' _ hr _ H' st (by simp only [Rep]; simp)⟩
    | _ => exact False.elim hr
  · exact .inl (k_neD pu h H _ _ v u _ Q w rx ry hf (Kt.post q))
end
end DL
namespace DL
open PySem PySem.Spec L2

/-! ### for x in (fresh, fresh, ..): x holds each container alone -/
section
variable {W : Wd} {X : Cx} {fr : Bool} {c : Ent} {pu pu' : Pu} {σ : L2.St} {H H' : Hp} {ρ : List Sl}
def cS (c : Ent) (S : Addr → Bool) : Ent := { c with hd := fun a => c.hd a || S a }
theorem hdn_cS {S : Addr → Bool} (a : Addr) : hdn (cS c S) σ ρ a = (hdn c σ ρ a || S a) := by
  show ((c.hd a || S a) || own σ ρ a) = ((c.hd a || own σ ρ a) || S a)
  cases c.hd a <;> cases S a <;> cases own σ ρ a <;> rfl
/-- fewer are hidden -/
theorem EnvR.unhide {S : Addr → Bool} (e : EnvR W (cS c S) pu σ H ρ) : EnvR W c pu σ H ρ where
  len := e.len
  stp := e.stp
  hdl := fun a z => e.hdl a (by show (c.hd a || S a) = true; rw [z]; rfl)
  sl := fun i t ht => (e.sl i t ht).less (mo_less fun a z => by rw [hdn_cS, z]; rfl) fun _ z => z
  apart := e.apart
  fresh := fun a z => by
    obtain ⟨⟨h1, h2⟩, h3⟩ := e.fresh a z
    exact ⟨⟨h1, (Bool.or_eq_false_iff.mp h2).1⟩, h3⟩
theorem RetR.unhide {S : Addr → Bool} {d : D} {v : V} (r : RetR W (cS c S) pu d v H') : RetR W c pu d v H' := by
  unfold RetR at r ⊢
  by_cases hf : c.fr = true
  · rw [if_pos (show (cS c S).fr = true from hf)] at r
    rw [if_pos hf]
    obtain ⟨p, h1, h2, h3, h4, h5⟩ := r
    refine ⟨p, h1, h2, h3, h4, h5.step (mo_less fun a z => ?_) fun _ z => z⟩
    show ((c.hd a || S a) || a == p) = true
    rcases Bool.or_eq_true_iff.mp z with z | z
    · rw [z]; rfl
    · rw [z]; simp
  · rw [if_neg (show ¬ (cS c S).fr = true from hf)] at r
    rw [if_neg hf]
    obtain ⟨h1, h2⟩ := r
    exact ⟨h1, Rep.mono (mo_less fun a z => by show (c.hd a || S a) = true; rw [z]; rfl) d v h2⟩
/-- a hidden container comes to a slot -/
def noPk : List Sl → Bool
  | [] => true
  | .pk _ :: _ => false
  | _ :: r => noPk r
theorem noPk_get : ∀ {ρ : List Sl} {i : Nat} {d : D}, noPk ρ = true → ρ[i]? ≠ some (.pk d)
  | [], _, _, _ => by simp
  | s :: r, 0, d, h => by cases s <;> simp [noPk] at h ⊢
  | s :: r, i + 1, d, h => by
    have h' : noPk r = true := by cases s <;> simp [noPk] at h <;> exact h
    simpa using noPk_get (ρ := r) (i := i) (d := d) h'
theorem EnvR.adopt {S S' : Addr → Bool} {p : Addr} {d : D} {i : Nat} (e : EnvR W (cS c S) pu σ H ρ) (hp : S p = true) (hS : ∀ a, S' a = true → S a = true) (hn : S' p = false) (cn : c.H p = none) (ch : c.hd p = false) (nu : pu p = false)
    (hk : noPk ρ = true) (r : OwR W pu (hid (hdn (cS c S) σ ρ) H) H d p) : EnvR W (cS c S') pu (σ.set i (some (.ref p))) H (ρ.set i (.ow d)) := by
  have np : own σ ρ p = false := by
    cases z : own σ ρ p with
    | false => rfl
    | true =>
      have h2 := (e.fresh p z).1.2
      have h2 : (c.hd p || S p) = false := h2
      rw [hp] at h2; simp at h2
  have ow' : ∀ a, own (σ.set i (some (.ref p))) (ρ.set i (.ow d)) a = true → a = p ∨ own σ ρ a = true := fun a h => by
    obtain ⟨j, dj, h1, h2⟩ := own_iff.mp h
    rcases getset h1 with ⟨ej, _⟩ | ⟨ne, h1⟩
    · subst ej
      rcases getset h2 with ⟨_, z⟩ | ⟨z, _⟩
      · cases z; exact .inl rfl
      · exact absurd rfl z
    · rw [List.getElem?_set_ne (Ne.symm ne)] at h2
      exact .inr (own_iff.mpr ⟨j, dj, h1, h2⟩)
  have hle : ∀ a, hdn (cS c S') (σ.set i (some (.ref p))) (ρ.set i (.ow d)) a = true → hdn (cS c S) σ ρ a = true := fun a h => by
    rcases Bool.or_eq_true_iff.mp h with h | h
    · show ((c.hd a || S a) || own σ ρ a) = true
      rcases Bool.or_eq_true_iff.mp h with h | h
      · rw [h]; rfl
      · rw [hS a h]; simp
    · show ((c.hd a || S a) || own σ ρ a) = true
      rcases ow' a h with h | h
      · rw [h, hp]; simp
      · rw [h]; simp
  have m := mo_less (pu := pu) (H := H) hle
  have fre : ∀ a, own σ ρ a = true → c.hd a = false ∧ S' a = false := fun a z => by
    obtain ⟨⟨_, h2⟩, _⟩ := e.fresh a z
    obtain ⟨h3, h4⟩ := Bool.or_eq_false_iff.mp h2
    refine ⟨h3, ?_⟩
    cases q : S' a with
    | false => rfl
    | true => rw [hS a q] at h4; cases h4
  refine ⟨by rw [List.length_set, List.length_set]; exact e.len, e.stp, fun a z => ?_, fun j t ht => ?_, fun j k dj dk a h1 h2 h3 h4 => ?_, fun a z => ?_⟩
  · refine e.hdl a ?_
    show (c.hd a || S a) = true
    rcases Bool.or_eq_true_iff.mp z with z | z
    · rw [z]; rfl
    · rw [hS a z]; simp
  · rcases getset ht with ⟨ej, et⟩ | ⟨ne, ht⟩
    · subst ej et
      have hj : j < σ.length := by
        have := (List.getElem?_eq_some_iff.mp ht).1
        rw [List.length_set] at this
        rw [e.len]; exact this
      exact ⟨p, List.getElem?_set_self hj, r.step m fun _ z => z⟩
    · rw [List.getElem?_set_ne (Ne.symm ne)]
      have q := e.sl j t ht
      cases t with
      | un => trivial
      | sh d2 => obtain ⟨w, q1, q2⟩ := q; exact ⟨w, q1, Rep.mono m d2 w q2⟩
      | ow d2 => obtain ⟨w, q1, q2⟩ := q; exact ⟨w, q1, q2.step m fun _ z => z⟩
      | pk d2 => exact absurd ht (noPk_get hk)
  · rcases getset h1 with ⟨ej, _⟩ | ⟨n1, h1'⟩
    · rcases getset h2 with ⟨ek, _⟩ | ⟨n2, h2'⟩
      · rw [ej, ek]
      · exfalso
        subst ej
        rcases getset h3 with ⟨_, z⟩ | ⟨z, _⟩
        · cases z
          rw [List.getElem?_set_ne (Ne.symm n2)] at h4
          rw [own_iff.mpr ⟨k, dk, h2', h4⟩] at np
          cases np
        · exact z rfl
    · rcases getset h2 with ⟨ek, _⟩ | ⟨n2, h2'⟩
      · exfalso
        subst ek
        rcases getset h4 with ⟨_, z⟩ | ⟨z, _⟩
        · cases z
          rw [List.getElem?_set_ne (Ne.symm n1)] at h3
          rw [own_iff.mpr ⟨j, dj, h1', h3⟩] at np
          cases np
        · exact z rfl
      · rw [List.getElem?_set_ne (Ne.symm n1)] at h3
        rw [List.getElem?_set_ne (Ne.symm n2)] at h4
        exact e.apart j k dj dk a h1' h2' h3 h4
  · rcases ow' a z with z | z
    · subst z
      exact ⟨⟨cn, by show (c.hd a || S' a) = false; rw [ch, hn]; rfl⟩, nu, r.there⟩
    · obtain ⟨⟨h1, _⟩, h3, h4⟩ := e.fresh a z
      obtain ⟨f1, f2⟩ := fre a z
      exact ⟨⟨h1, by show (c.hd a || S' a) = false; rw [f1, f2]; rfl⟩, h3, h4⟩
/-- values, each a container of its own -/
def OwRs (W : Wd) (pu : Pu) (S H : Hp) : List D → List Addr → Prop
  | [], ps => ps = []
  | d :: ds, ps => ∃ p qs, ps = p :: qs ∧ pu p = false ∧ OwR W pu S H d p ∧ OwRs W pu S H ds qs
theorem OwRs.step {S S' : Hp} (m : Mo pu S pu' S') : ∀ {ds : List D} {ps : List Addr}, (∀ p ∈ ps, ∀ o, H p = some o → H' p = some o) → (∀ p ∈ ps, pu p = false → (∃ o, H p = some o) → pu' p = false) → OwRs W pu S H ds ps → OwRs W pu' S' H' ds ps
  | [], _, _, _, h => h
  | d :: ds, _, k, n, ⟨p, qs, e, n1, h1, h2⟩ => by
    subst e
    exact ⟨p, qs, rfl, n p (.head _) n1 h1.there, h1.step m (k p (.head _)), OwRs.step m (fun q hq => k q (.tail _ hq)) (fun q hq => n q (.tail _ hq)) h2⟩
def FreshR (W : Wd) (pu : Pu) (h : Addr → Bool) (H0 H : Hp) (ds : List D) (vs : List V) : Prop :=
  ∃ ps : List Addr, vs = ps.map V.ref ∧ ps.Nodup ∧ (∀ p ∈ ps, H0 p = none) ∧ OwRs W pu (hid (fun a => h a || ps.contains a) H) H ds ps
def rdAF (W : Wd) (c : Ent) (t : TAD) : TA := fun σ H Q => ∃ pu ρ P, EnvR W c pu σ H ρ ∧ t pu.n ρ P ∧ ∀ (pu' : Pu) ds, P ds pu'.n → ∀ vs H', Stp pu H pu' H' → FreshR W pu' (hdn c σ ρ) H H' ds vs → Q vs H'
def PAF (W : Wd) (X : Cx) (es : List Expr) (t : TAD) : Prop := ∀ c, PA X es (rdAF W c t)
theorem paf_nil : PAF W X [] tNilA := fun c => PA_imp pa_nil fun σ H Q ⟨pu, ρ, P, ev, ht, q⟩ => q pu [] ht [] H ev.rfl' ⟨[], rfl, List.nodup_nil, fun p hp => (by cases hp), rfl⟩
theorem PA_ex {es : List Expr} {t : TAD} (h : PAF W X es t) : PA X es (fun σ H Q => ∃ c, rdAF W c t σ H Q) := ⟨fun pos pins s σ H Q I ⟨c, q⟩ => (h c).run pos pins s σ H Q I q⟩
theorem paf_cons {a : Expr} {es : List Expr} {ta : TD} {tas : TAD} (ha : PFD W X a ta) (hs : PAF W X es tas) (h : starEach (a :: es) X.env = (false, eval a X.env) :: starEach es X.env := by rfl) : PAF W X (a :: es) (tConsA ta tas) := fun c =>
  PA_imp (pa_cons (ha c) (PA_ex hs) h) fun σ H Q ⟨pu, ρ, P, ev, ht, q⟩ => by
  refine ⟨pu, ρ, _, ev, ht, fun pu1 d hd p H1 s1 n nu r => ⟨cS c (fun a => a == p), pu1, ρ, _, ev.hide s1 n r.there, hd, fun pu2 ds hds vs H2 s2 fr => ?_⟩⟩
  obtain ⟨ps, rfl, nd, np, ow⟩ := fr
  have hp : p ∉ ps := fun z => by
    obtain ⟨o, e⟩ := r.there
    rw [np p z] at e; cases e
  have hv : (fun a => hdn (cS c fun a => a == p) σ ρ a || ps.contains a) = fun a => hdn c σ ρ a || (p :: ps).contains a := by
    funext a
    rw [hdn_cS, List.contains_cons]
    cases hdn c σ ρ a <;> cases (a == p) <;> cases ps.contains a <;> rfl
  have m : Mo pu1 (hid (fun a => hdn c σ ρ a || a == p) H1) pu2 (hid (fun a => hdn c σ ρ a || (p :: ps).contains a) H2) := mo_base s2 fun a z => by
    rcases Bool.or_eq_true_iff.mp z with z | z
    · exact .inl (by rw [z]; rfl)
    · rw [List.contains_cons] at z
      rcases Bool.or_eq_true_iff.mp z with z | z
      · exact .inl (by rw [z]; simp)
      · exact .inr (np a (by simpa using z))
  refine q pu2 (d :: ds) hds (.ref p :: ps.map V.ref) H2 (s1.trans s2) ⟨p :: ps, rfl, List.nodup_cons.mpr ⟨hp, nd⟩, fun x hx => ?_, ?_⟩
  · rcases List.mem_cons.mp hx with rfl | hx
    · exact n
    · exact s1.none (np x hx)
  · rw [hv] at ow
    obtain ⟨o, e⟩ := r.there
    exact ⟨p, ps, rfl, s2.mo'.off nu ⟨o, e⟩, r.step m fun o z => s2.kp p o z nu, ow⟩
theorem EnvR.hideS {S : Addr → Bool} {pu1 : Pu} {H1 : Hp} (e : EnvR W c pu σ H ρ) (s : Stp pu H pu1 H1) (n : ∀ p, S p = true → H p = none) (hp : ∀ p, S p = true → ∃ o, H1 p = some o) : EnvR W (cS c S) pu1 σ H1 ρ := by
  have e1 := e.step s
  have m : Mo pu (hid (hdn c σ ρ) H) pu1 (hid (hdn (cS c S) σ ρ) H1) := mo_base s fun a z => by
    rw [hdn_cS] at z
    rcases Bool.or_eq_true_iff.mp z with z | z
    · exact .inl z
    · exact .inr (n a z)
  refine ⟨e.len, e1.stp, fun a z => ?_, fun i t ht => ?_, e.apart, fun a z => ?_⟩
  · rcases Bool.or_eq_true_iff.mp z with z | z
    · exact e1.hdl a z
    · exact hp a z
  · have q := e.sl i t ht
    cases t with
    | un => trivial
    | sh d =>
      obtain ⟨v, h1, h2⟩ := q
      exact ⟨v, h1, Rep.mono m d v h2⟩
    | ow d =>
      obtain ⟨a, h1, h2⟩ := q
      obtain ⟨_, nu, _⟩ := e.fresh a (own_iff.mpr ⟨i, d, ht, h1⟩)
      exact ⟨a, h1, h2.step m fun o z => s.kp a o z nu⟩
    | pk d =>
      obtain ⟨v, h1, h2⟩ := q
      refine ⟨v, h1, ?_⟩
      rcases h2 with h2 | ⟨a, h3, nu, no, h2⟩
      · exact .inl (Rep.mono m d v h2)
      · exact .inr ⟨a, h3, s.mo'.off nu h2.there, no, h2.step m fun o z => s.kp a o z nu⟩
  · obtain ⟨⟨cn, ch⟩, nu, o, ho⟩ := e.fresh a z
    have ns : S a = false := by
      cases q : S a with
      | false => rfl
      | true => rw [n a q] at ho; cases ho
    exact ⟨⟨cn, by show (c.hd a || S a) = false; rw [ch, ns]; rfl⟩, s.mo'.off nu ⟨o, ho⟩, o, s.kp a o ho nu⟩
theorem OwRs.nop {S : Hp} : ∀ {ds : List D} {ps : List Addr}, OwRs W pu S H ds ps → ∀ p ∈ ps, pu p = false ∧ ∃ o, H p = some o
  | [], _, h, p, hp => by have h : _ = [] := h; subst h; cases hp
  | d :: ds, _, ⟨p, qs, e, n1, h1, h2⟩, x, hx => by
    subst e
    rcases List.mem_cons.mp hx with rfl | hx
    · exact ⟨n1, h1.there⟩
    · exact OwRs.nop h2 x hx
def forF (i : Nat) (tb : TDS) : List D → TDS
  | [] => fun E n ρ => E.nx n ρ
  | d :: ds => fun E n ρ => noPk ρ = true ∧ tb { E with nx := forF i tb ds E, ct := forF i tb ds E, bk := E.nx } n (ρ.set i (.ow d))
def tForFr (tas : TAD) (i : Nat) (tb : TDS) : TDS := fun E n ρ => tas n ρ fun ds n1 => ds.length ≤ sizeLine ∧ forF i tb ds E n1 ρ
theorem psd_forFr {es : List Expr} {tas : TAD} {tg : Expr} {i : Nat} {body : List Stmt} {tb : TDS} {k0} {tpos pos : Pos} (hp : PassesOwn (model X.prog X.w) X.A X.env X.xe) (hc : X.calm = true) (ha : PAF W X es tas) (hg : PG X tg (gName i)) (hb : PSsD W X fr body tb)
    (hs : ∀ x, foldedSetIterable (.Tuple es k0 tpos) X.env x = pure x := by intro _; rfl) : PSD W X fr (.For tg (.Tuple es k0 tpos) body [] pos) (tForFr tas i tb) := fun c hf => PS_imp (ps_for hp hc (pi_tup (pe_tup (ha c))) hg (PSs_ex hb) hs) fun De σ H ⟨pu, ρ, E, ev, ht, q1, q2, q3, q4⟩ => by
  refine ⟨pu, ρ, _, ev, ht, fun pu1 ds ⟨hz, hgo⟩ vs H1 s1 fR => ?_⟩
  obtain ⟨ps, rfl, nd, np, ow⟩ := fR
  have hlen : ∀ {ds : List D} {ps : List Addr} {pu : Pu} {S H : Hp}, OwRs W pu S H ds ps → ps.length = ds.length := fun {ds} => by
    induction ds with
    | nil => intro ps pu S H h; have h : ps = [] := h; rw [h]; rfl
    | cons d ds ih => intro ps pu S H ⟨p, qs, e, _, _, h2⟩; rw [e, List.length_cons, List.length_cons, ih h2]
  refine ⟨by rw [List.length_map, hlen ow]; exact hz, fun T nT => ⟨T, rfl, ⟨_, .inl (.inl upd_same)⟩, ?_⟩⟩
  have hcp : ∀ q ∈ ps, c.H q = none ∧ c.hd q = false := fun q hq => ⟨ev.stp.none (np q hq), by
    cases z : c.hd q with
    | false => rfl
    | true => obtain ⟨o, e⟩ := ev.hdl q z; rw [np q hq] at e; cases e⟩
  have hT : ∀ q ∈ ps, q ≠ T := fun q hq z => by
    obtain ⟨_, o, e⟩ := ow.nop q hq
    rw [z, nT] at e; cases e
  have ev0 : EnvR W (cS c fun a => ps.contains a) pu1 σ H1 ρ := ev.hideS s1 (fun p z => np p (by simpa using z)) fun p z => (ow.nop p (by simpa using z)).2
  have sT := stp_new ev0.vw (o := .tup (ps.map V.ref)) nT
  have ev1 := ev0.step sT
  refine for_tup (g := gName i) (tb := fun De σ H => ∃ c, c.fr = fr ∧ rdS W c tb De σ H) (D := De) (K := X.K) (a := T) (xs := ps.map V.ref) (fun j σ' H' => ∃ pu' ρ', EnvR W (cS c fun a => (ps.drop j).contains a) pu' σ' H' ρ' ∧ H' T = some (.tup (ps.map V.ref)) ∧ pu' T = false ∧ own σ' ρ' T = false ∧
    OwRs W pu' (hid (hdn (cS c fun a => (ps.drop j).contains a) σ' ρ') H') H' (ds.drop j) (ps.drop j) ∧ forF i tb (ds.drop j) E pu'.n ρ') ⟨pu1, ρ, ev1, upd_same, ev0.vw.nopu nT, ?_, ?_, hgo⟩ (fun j σ' H' _ ⟨pu', ρ', _, h, _⟩ => .inl (.inl h)) ?_ ?_
  · cases z : own σ ρ T with
    | false => rfl
    | true => obtain ⟨_, _, o, e⟩ := ev0.fresh T z; rw [nT] at e; cases e
  · have hv : (fun a => hdn c σ ρ a || ps.contains a) = hdn (cS c fun a => ps.contains a) σ ρ := by funext a; rw [hdn_cS]
    rw [hv] at ow
    exact ow.step (sT.mo _) (fun p hp o e => by rw [upd_ne (hT p hp)]; exact e) fun p _ n _ => n
  · rintro j x σ' H' hx ⟨pu', ρ', ev', hTT, nuT, noT, owj, hgo⟩
    rw [List.getElem?_map] at hx
    cases hpj : ps[j]? with
    | none => rw [hpj] at hx; cases hx
    | some p =>
    rw [hpj] at hx
    cases hx
    have hj := (List.getElem?_eq_some_iff.mp hpj).1
    have hd1 : ps.drop j = p :: ps.drop (j + 1) := by
      rw [List.drop_eq_getElem_cons hj, (List.getElem?_eq_some_iff.mp hpj).2]
    have hjd : j < ds.length := by rw [← hlen ow]; exact hj
    have hd2 : ds.drop j = ds[j] :: ds.drop (j + 1) := List.drop_eq_getElem_cons hjd
    rw [hd1, hd2] at owj
    rw [hd2] at hgo
    obtain ⟨p', qs, e, nup, owp, owq⟩ := owj
    obtain ⟨rfl, rfl⟩ := List.cons.inj e
    obtain ⟨hk, hgo⟩ := hgo
    have pin : p ∈ ps := List.mem_of_getElem? hpj
    have nd2 : p ∉ ps.drop (j + 1) := by
      have := (hd1 ▸ nd.sublist (List.drop_sublist j ps) : (p :: ps.drop (j + 1)).Nodup)
      exact (List.nodup_cons.mp this).1
    have sub : ∀ a, (ps.drop (j + 1)).contains a = true → (p :: ps.drop (j + 1)).contains a = true := fun a z => by rw [List.contains_cons, z]; simp
    rw [hd1] at ev'
    have evA := ev'.adopt (S' := fun a => (ps.drop (j + 1)).contains a) (p := p) (d := ds[j]) (i := i) (by simp) sub (by simpa using nd2) (hcp p pin).1 (hcp p pin).2 nup hk owp
    have own2 : ∀ a, own (σ'.set i (some (.ref p))) (ρ'.set i (.ow ds[j])) a = true → a = p ∨ own σ' ρ' a = true := fun a h => by
      obtain ⟨m, dm, h1, h2⟩ := own_iff.mp h
      rcases getset h1 with ⟨ej, _⟩ | ⟨ne, h1⟩
      · subst ej
        rcases getset h2 with ⟨_, z⟩ | ⟨z, _⟩
        · cases z; exact .inl rfl
        · exact absurd rfl z
      · rw [List.getElem?_set_ne (Ne.symm ne)] at h2
        exact .inr (own_iff.mpr ⟨m, dm, h1, h2⟩)
    have hidp : ∀ a, hdn (cS c fun a => (p :: ps.drop (j + 1)).contains a) σ' ρ' a = false → own (σ'.set i (some (.ref p))) (ρ'.set i (.ow ds[j])) a = false := fun a z => by
      cases q : own (σ'.set i (some (.ref p))) (ρ'.set i (.ow ds[j])) a with
      | false => rfl
      | true =>
        rw [hdn_cS] at z
        obtain ⟨z1, z2⟩ := Bool.or_eq_false_iff.mp z
        rcases own2 a q with q | q
        · rw [q] at z2; simp at z2
        · unfold hdn at z1; rw [q] at z1; simp at z1
    have kT : hid (own (σ'.set i (some (.ref p))) (ρ'.set i (.ow ds[j]))) H' T = some (.tup (ps.map V.ref)) := hid_of (by
      cases q : own (σ'.set i (some (.ref p))) (ρ'.set i (.ow ds[j])) T with
      | false => rfl
      | true =>
        rcases own2 T q with q | q
        · exact absurd q.symm (hT p pin)
        · rw [q] at noT; cases noT) hTT
    have next : ∀ (pu3 : Pu) ρ3, forF i tb (ds.drop (j + 1)) E pu3.n ρ3 → ∀ σ3 H3, EnvR W { (cS c fun a => (ps.drop (j + 1)).contains a) with pu := pu', H := hid (own (σ'.set i (some (.ref p))) (ρ'.set i (.ow ds[j]))) H' } pu3 σ3 H3 ρ3 →
        ∃ pu' ρ', EnvR W (cS c fun a => (ps.drop (j + 1)).contains a) pu' σ3 H3 ρ' ∧ H3 T = some (.tup (ps.map V.ref)) ∧ pu' T = false ∧ own σ3 ρ' T = false ∧ OwRs W pu' (hid (hdn (cS c fun a => (ps.drop (j + 1)).contains a) σ3 ρ') H3) H3 (ds.drop (j + 1)) (ps.drop (j + 1)) ∧ forF i tb (ds.drop (j + 1)) E pu'.n ρ' := fun pu3 ρ3 z σ3 H3 ev3 => by
      have own3 : ∀ a o, hid (own (σ'.set i (some (.ref p))) (ρ'.set i (.ow ds[j]))) H' a = some o → own σ3 ρ3 a = false := fun a o e => by
        cases q : own σ3 ρ3 a with
        | false => rfl
        | true =>
          have h := (ev3.fresh a q).1.1
          have h : hid (own (σ'.set i (some (.ref p))) (ρ'.set i (.ow ds[j]))) H' a = none := h
          rw [e] at h; cases h
      refine ⟨pu3, ρ3, evA.unbase ev3, ev3.stp.kp T _ kT nuT, ev3.stp.mo'.off nuT ⟨_, kT⟩, own3 T _ kT, owq.step ⟨fun a o e n => ?_, ev3.stp.up, fun a q => ?_⟩ (fun q hq o e => ?_) (fun q hq n ⟨o, e⟩ => ?_), z⟩
      · obtain ⟨e1, e2⟩ := hid_some e
        have e3 := hid_of (hidp a e1) e2
        refine hid_of ?_ (ev3.stp.kp a o e3 n)
        rw [hdn_cS] at e1 ⊢
        obtain ⟨z1, z2⟩ := Bool.or_eq_false_iff.mp e1
        have z3 : (ps.drop (j + 1)).contains a = false := by
          cases q : (ps.drop (j + 1)).contains a with
          | false => rfl
          | true => rw [sub a q] at z2; cases z2
        show ((c.hd a || own σ3 ρ3 a) || (ps.drop (j + 1)).contains a) = false
        rw [own3 a o e3, z3, (Bool.or_eq_false_iff.mp z1).1]; rfl
      · rcases ev3.stp.nw a q with q | q
        · exact .inl q
        · right
          unfold hid
          cases y : hdn (cS c fun a => (p :: ps.drop (j + 1)).contains a) σ' ρ' a with
          | true => rfl
          | false =>
            have q : hid (own (σ'.set i (some (.ref p))) (ρ'.set i (.ow ds[j]))) H' a = none := q
            unfold hid at q
            rw [hidp a y] at q
            simpa using q
      all_goals
        have hq2 : q ∈ ps := List.mem_of_mem_drop hq
        have o2 : own (σ'.set i (some (.ref p))) (ρ'.set i (.ow ds[j])) q = false := by
          cases y : own (σ'.set i (some (.ref p))) (ρ'.set i (.ow ds[j])) q with
          | false => rfl
          | true =>
            rcases own2 q y with y | y
            · rw [y] at hq; exact absurd hq nd2
            · have h2 := (ev'.fresh q y).1.2
              have h2 : (c.hd q || (p :: ps.drop (j + 1)).contains q) = false := h2
              rw [sub q (by simpa using hq)] at h2; simp at h2
      · exact ev3.stp.kp q o (hid_of o2 e) (owq.nop q hq).1
      · exact ev3.stp.mo'.off n ⟨o, hid_of o2 e⟩
    refine ⟨{ (cS c fun a => (ps.drop (j + 1)).contains a) with pu := pu', H := hid (own (σ'.set i (some (.ref p))) (ρ'.set i (.ow ds[j]))) H' }, hf, pu', _, _, evA.rebase, hgo, fun pu3 ρ3 z σ3 H3 ev3 => next pu3 ρ3 z σ3 H3 ev3, fun pu3 d z v H3 r => q2 pu3 d z v H3 (RetR.unbase evA r).unhide, fun pu3 ρ3 z σ3 H3 ev3 => q1 pu3 ρ3 z σ3 H3 (evA.unbase ev3).unhide, fun pu3 ρ3 z σ3 H3 ev3 => next pu3 ρ3 z σ3 H3 ev3⟩
  · rintro σ' H' ⟨pu', ρ', ev', _, _, _, owj, hgo⟩
    rw [List.length_map] at owj hgo
    have : ds.drop ps.length = [] := by rw [hlen ow, List.drop_length]
    rw [this] at hgo
    exact q1 pu' ρ' hgo σ' H' ev'.unhide
end

/-! ### xs.pop(i) -/
def popAtM (ds xs : List D) (P : D → List D → Prop) : Prop := match xs with
  | [.int k] => (-(2 ^ 63) ≤ k ∧ k < 2 ^ 63) ∧ (match seqIndex? k ds.length with
    | some j => (match ds[j]? with
      | some d => P d (ds.eraseIdx j)
      | none => False)
    | none => False)
  | _ => False
theorem Reps.erase {W : Wd} {pu : Pu} {S : Hp} {ds : List D} {vs : List V} (r : Reps W pu S ds vs) (j : Nat) : Reps W pu S (ds.eraseIdx j) (vs.eraseIdx j) := by
  rw [List.eraseIdx_eq_take_drop_succ, List.eraseIdx_eq_take_drop_succ]
  exact (r.take j).append (r.drop (j + 1))
theorem k_popAt {W : Wd} : Mut1 W popAtM rPopAt := by
  intro pu h H a ds us xs vs P Q w ha r rx hf q
  unfold popAtM at hf
  split at hf
  · rename_i k
    obtain ⟨hb, hf⟩ := hf
    cases e : seqIndex? k ds.length with
    | none => rw [e] at hf; exact False.elim hf
    | some j =>
      rw [e] at hf
      simp only at hf
      cases e2 : ds[j]? with
      | none => rw [e2] at hf; exact False.elim hf
      | some d =>
        rw [e2] at hf
        obtain ⟨u, g1, g2⟩ := r.get e2
        have hv : vs = [.int k] := by
          simp only [Reps, Rep] at rx
          obtain ⟨v, t, e3, e4, e5⟩ := rx
          rw [e3, e4, e5]
        subst hv
        exact ⟨a, us, k, j, u, rfl, rfl, ha, hb.1, hb.2, by rw [r.length]; exact e, g1, q d _ hf u _ g2 (r.erase j)⟩
  · exact False.elim hf
section
variable {W : Wd} {X : Cx} {x : Str} {k : Nat} {ks : List Str} {sel : List Nat} {msK : List Bool} {F : FnD} {kws : List Keyword} {tas : TAD} {p pos : Pos}
theorem pf_callK (A : FnKw X.prog X.w X.K X.mg X.base W x k ks sel (pick sel msK) true F) (hr : Room k X.A) (hg : Gl X x) (hkw : PKwD W X msK kws tas) (hl : msK.length = ks.length := by rfl) (hs : ∀ i ∈ sel, i < msK.length := by decide)
    (hall : (backToKw pos (keywordEach kws X.env)).all (·.1.isSome) = true := by rfl) (hks : (backToKw pos (keywordEach kws X.env)).filterMap (·.1) = ks := by rfl) (hdb : (x == ("__debug__" : Str)) = false := by decide)
    (hpl : ((backTo pos (starEach [] X.env)).any (·.1) || (backToKw pos (keywordEach kws X.env)).any (·.1.isNone)) = false := by rfl) : PFD W X (.Call (.Name x p) [] kws pos) (tFnK F sel tas) := fun c => by
  obtain ⟨f, fd, ps, hm, hk, G, hb⟩ := A.ex
  refine PE_imp (pe_callK0 G hr hg hm hk hb pass0 (hkw c) hall hks hdb hpl) fun σ H Q ⟨pu, ρ, P, ev, ht, q⟩ => fnk_run ev ht hl hs fun pu' d hP v pu1 H1 H' s rr => ?_
  unfold RetR at rr
  rw [if_pos rfl] at rr
  obtain ⟨p, rfl, s', n, nu, r'⟩ := rr
  exact q pu' d hP p H' (s.trans s') (s.none n) nu r'
end
end DL
namespace DL
open PySem PySem.Spec L2

/-! ### a builtin's == declines an instance -/
section
variable {prog : Program} {w : World} {A : Around} {E : Value → Shared → Prop} {s : Shared} {a C dx : Addr} {K : PySem.W.Frag} {Q : Value → Shared → Prop}
theorem dec_none (q : Q .notImplemented s) : wpAny (model prog w) A (call (.builtin "NoneType.__eq__") [.none, .ref a]) Q E s := by
  refine GQ.call_here PySem.F.slot_NoneType_eq rfl PySem.F.entry_NoneType_eq (PySem.F.args_NoneType_eq_2 _ _) ?_
  obtain ⟨hp, g, d, tk, os⟩ := s
  wp_walk
  exact q
theorem dec_int {i : Int} {t : Tok} (e : s.heap.get? a = some (PySem.W.instObj C dx)) (q : Q .notImplemented s) : wpAny (model prog w) A (call (.builtin "int.__eq__") [.int i t, .ref a]) Q E s := by
  refine GQ.call_here PySem.F.slot_int_eq (typeIs_int s i t) PySem.F.entry_int_eq (PySem.F.args_int_eq_2 _ _) ?_
  obtain ⟨hp, g, d, tk, os⟩ := s
  unfold PySem.W.instObj at e
  wp_walk using SeqAt.AutoSeq1.wpAny_loadPart' e, wpAny_load e
  exact q
theorem dec_bl {b : Bool} (e : s.heap.get? a = some (PySem.W.instObj C dx)) (q : Q .notImplemented s) : wpAny (model prog w) A (call (.builtin "int.__eq__") [.bool b, .ref a]) Q E s := by
  refine GQ.call_here PySem.F.slot_bool_eq rfl PySem.F.entry_int_eq (PySem.F.args_int_eq_2 _ _) ?_
  obtain ⟨hp, g, d, tk, os⟩ := s
  unfold PySem.W.instObj at e
  wp_walk using SeqAt.AutoSeq1.wpAny_loadPart' e, wpAny_load e
  exact q
theorem dec_str {x : Str} {t : Tok} (e : s.heap.get? a = some (PySem.W.instObj C dx)) (q : Q .notImplemented s) : wpAny (model prog w) A (call (.builtin "str.__eq__") [.str x t, .ref a]) Q E s := by
  refine GQ.call_here PySem.F.slot_str_eq (typeIs_str s x t) PySem.F.entry_str_eq (PySem.F.args_str_eq_2 _ _) ?_
  obtain ⟨hp, g, d, tk, os⟩ := s
  unfold PySem.W.instObj at e
  wp_walk using SeqAt.AutoSeq1.wpAny_loadPart' e, wpAny_load e
  exact q
theorem inst_sub {hp : Heap} (X : K.In hp) {n : String} (sf : PySem.W.subIn K (.ref C) (.type n) = some false) {Q : Bool → Shared → Prop} {g d tk os} (q : Q false ⟨hp, g, d, tk, os⟩) : wpAny (model prog w) A (isSubtype (.ref C) (.type n)) Q E ⟨hp, g, d, tk, os⟩ := (PySem.W.looks_subIn X sf).here q
theorem dec_list {l : Addr} {items : Array Value} {n : Nat} {dd : Option Addr} {sl : Array (Option Value)} (X : K.In s.heap) (sf : PySem.W.subIn K (.ref C) (.type "list") = some false) (el : s.heap.get? l = some { cls := .type "list", dict := dd, data := .seq items n, slots := sl }) (e : s.heap.get? a = some (PySem.W.instObj C dx)) (q : Q .notImplemented s) :
    wpAny (model prog w) A (call (.builtin "list.__eq__") [.ref l, .ref a]) Q E s := by
  refine GQ.call_here PySem.F.slot_list_eq ⟨_, el, rfl⟩ PySem.F.entry_list_eq (PySem.F.args_list_eq_2 _ _) ?_
  obtain ⟨hp, g, d, tk, os⟩ := s
  unfold PySem.W.instObj at e
  wp_walk using SeqAt.AutoSeq1.wpAny_loadPart' e, SeqAt.AutoSeq1.wpAny_loadPart' el, inst_sub X sf
  exact q
theorem dec_tuple {l : Addr} {items : Array Value} {n : Nat} {dd : Option Addr} {sl : Array (Option Value)} (X : K.In s.heap) (sf : PySem.W.subIn K (.ref C) (.type "tuple") = some false) (el : s.heap.get? l = some { cls := .type "tuple", dict := dd, data := .seq items n, slots := sl }) (e : s.heap.get? a = some (PySem.W.instObj C dx)) (q : Q .notImplemented s) :
    wpAny (model prog w) A (call (.builtin "tuple.__eq__") [.ref l, .ref a]) Q E s := by
  refine GQ.call_here PySem.F.slot_tuple_eq ⟨_, el, rfl⟩ PySem.F.entry_tuple_eq (PySem.F.args_tuple_eq_2 _ _) ?_
  obtain ⟨hp, g, d, tk, os⟩ := s
  unfold PySem.W.instObj at e
  wp_walk using SeqAt.AutoSeq1.wpAny_loadPart' e, SeqAt.AutoSeq1.wpAny_loadPart' el, inst_sub X sf
  exact q
theorem dec_dict {l : Addr} {ol : Obj} (X : K.In s.heap) (sf : PySem.W.subIn K (.ref C) (.type "dict") = some false) (el : s.heap.get? l = some ol) (hc : ol.cls = .type "dict") (e : s.heap.get? a = some (PySem.W.instObj C dx)) (q : Q .notImplemented s) :
    wpAny (model prog w) A (call (.builtin "dict.__eq__") [.ref l, .ref a]) Q E s := by
  refine GQ.call_here PySem.F.slot_dict_eq ⟨_, el, hc⟩ PySem.F.entry_dict_eq (PySem.F.args_dict_eq_2 _ _) ?_
  obtain ⟨hp, g, d, tk, os⟩ := s
  unfold PySem.W.instObj at e
  obtain ⟨oc, od, dt, os2⟩ := ol
  simp only at hc
  subst hc
  wp_walk using SeqAt.AutoSeq1.wpAny_loadPart' e, SeqAt.AutoSeq1.wpAny_loadPart' el, inst_sub X sf
  exact q
theorem rc_refl {u : Value} {T ida : String} {f : Addr} {ox : Obj} {od : Option Obj} (hT : s.TypeIs u T) (slot : Slot T (cmpInfo .Eq).2.1 ida) (hdec : ∀ Q' : Value → Shared → Prop, Q' .notImplemented s → wpAny (model prog w) A (call (.builtin ida) [u, .ref a]) Q' E s) (hu : A.units < cLine) (X : K.In s.heap) (J : PySem.W.InstAt s.heap a ox C od)
    (sf : PySem.W.subIn K (.ref C) (.type T) = some false) (hs : PySem.W.findIn K (.ref C) "__eq__" = some (some (.ref f))) (hf : PySem.W.isFn K (.ref f) = true) (h : wpAny (model prog w) A (call (.ref f) [.ref a, u]) (PySem.W.CmpBack Q) E s) : wpAny (model prog w) A (richCompare .Eq u (.ref a)) Q E s := by
  have one : wpAny (model prog w) A (tryCompare (.ref a) "__eq__" u) (fun r s' => ∃ v, r = some v ∧ Q v s') E s := by
    unfold tryCompare
    refine wpAny_bind (PySem.W.ifBound_K X J hs hf (wpAny_mono h (fun v s' hv => ?_) fun _ _ e => e))
    cases v <;> first | exact hv.elim | exact wpAny_pure ⟨_, rfl, hv⟩
  have hne : (Value.type T != Value.ref C) = true := rfl
  unfold richCompare
  simp only [hT.oneThing_none]
  refine wpAny_holding (wpAny_bind (wpAny_cRoomFor hu (wpAny_bind (wpAny_typeOf hT (wpAny_bind (J.type.here ?_))))))
  rw [if_pos hne]
  refine wpAny_bind ((PySem.W.looks_subIn X sf).here ?_)
  simp only [Bool.false_eq_true, if_false, Bool.not_false, if_true]
  refine wpAny_bind (m := tryCompare u _ _) (wpAny_tryCompare_declines hT slot (hdec _ ⟨rfl, ?_⟩))
  refine wpAny_bind (m := tryCompare _ _ _) (wpAny_mono one (fun r s' z => ?_) fun _ _ e => e)
  obtain ⟨v, rfl, hq⟩ := z
  exact wpAny_pure hq
end
/-- x == y, y an object of the class cn, x of a built-in type -/
def rEqR (W : Wd) (cn : Str) (F : FnD) : R2 := fun x y H Q => ∃ (pu : Pu) (h : Addr → Bool) (d e : D) (P : D → Nat → Prop), W.me = none ∧ Vw pu h H ∧ RepK W pu h H d x ∧ RepK W pu h H e y ∧ (∃ ns ds, e = .obj cn ns ds) ∧ (∃ t, tyN d = some t) ∧ F pu.n [e, d] P ∧
  ∀ (pu' : Pu) r, P r pu'.n → ∃ b, r = .bl b ∧ ∀ H', Stp pu H pu' H' → Q (.bl b) H'
section
variable {W : Wd} {X : Cx} {cn : Str} {k : Nat} {F : FnD}
theorem op_eqR (hK : X.K = W.K) (A : MtAt X.prog X.w X.K X.mg X.base W cn "__eq__" k [false, true] false F) (hE : ∀ C, W.cls cn = some C → EqC X.K C) (hr : Room k X.A) : OpR X (compareOp .Eq) (rEqR W cn F) := by
  obtain ⟨C, f, fd, ps, hC, cl, M, G, hb⟩ := A.ex
  intro pins s σ H x y u v Q I rx ry hq
  obtain ⟨pu, h, d, e, P, hme, w, r1, r2, ⟨ns, ds, rfl⟩, ho, hF, q⟩ := hq
  show wpAny (model X.prog X.w) X.A (richCompare .Eq u v) (EP X pins σ Q) X.xe s
  obtain ⟨a, C', dx, vs, rfl, hC', q1, _, _⟩ := r2.obj
  rw [hC] at hC'; cases hC'
  have hrun := eq_run (Q := fun b H' => Q (.bl b) H') G hb hr rfl I ry rx hme w r2 r1 rfl hF q
  cases ry
  obtain ⟨mA, J0, _⟩ := ins_get I.hok q1
  obtain ⟨od, J, _⟩ := J0.look
  have Z := I.kIn
  have EC := hE C hC
  have ei : s.heap.get? a = some (PySem.W.instObj C dx) := J0.1
  have fin : wpAny (model X.prog X.w) X.A (call (.ref f) [.ref a, u]) (PySem.W.CmpBack (EP X pins σ Q)) X.xe s := wpAny_mono hrun (fun z s' hz => by
    obtain ⟨b, H', rfl, I', q⟩ := hz
    exact ⟨.bl b, H', I', rfl, q⟩) fun _ _ z => z
  cases d with
  | non =>
    rw [r1.non] at rx; cases rx
    exact rc_refl (T := "NoneType") rfl PySem.F.slot_NoneType_eq (fun _ q => dec_none q) hr.units0 Z J (EC.sf _ (by decide)) M.at_ M.fn fin
  | bl b =>
    rw [r1.bl] at rx; cases rx
    exact rc_refl (T := "bool") rfl PySem.F.slot_bool_eq (fun _ q => dec_bl ei q) hr.units0 Z J (EC.sf _ (by decide)) M.at_ M.fn fin
  | int i =>
    rw [r1.int] at rx; obtain ⟨t, rfl⟩ := rx
    exact rc_refl (T := "int") (typeIs_int s i t) PySem.F.slot_int_eq (fun _ q => dec_int ei q) hr.units0 Z J (EC.sf _ (by decide)) M.at_ M.fn fin
  | str z =>
    rw [r1.str] at rx; obtain ⟨t, rfl⟩ := rx
    exact rc_refl (T := "str") (typeIs_str s z t) PySem.F.slot_str_eq (fun _ q => dec_str ei q) hr.units0 Z J (EC.sf _ (by decide)) M.at_ M.fn fin
  | lst es =>
    obtain ⟨l, us, rfl, q2, _⟩ := r1.lst
    cases rx
    obtain ⟨_, its, n, _, _, e⟩ := rd_lst I q2
    exact rc_refl (T := "list") ⟨_, e, rfl⟩ PySem.F.slot_list_eq (fun _ q => dec_list Z (EC.sf _ (by decide)) e ei q) hr.units0 Z J (EC.sf _ (by decide)) M.at_ M.fn fin
  | tup es =>
    obtain ⟨l, us, rfl, q2, _⟩ := r1.tup
    cases rx
    rw [← hK] at q2
    obtain ⟨its, _, ⟨⟨oc, od2, dt, sl⟩, e1, e2, n, e3⟩, _⟩ := I.tuple q2
    simp only at e2 e3
    subst e2 e3
    exact rc_refl (T := "tuple") ⟨_, e1, rfl⟩ PySem.F.slot_tuple_eq (fun _ q => dec_tuple Z (EC.sf _ (by decide)) e1 ei q) hr.units0 Z J (EC.sf _ (by decide)) M.at_ M.fn fin
  | dct ks es =>
    obtain ⟨l, us, rfl, ⟨_, q2⟩, _⟩ := r1.dct
    cases rx
    have dd : IsD H l := by
      rcases q2 with ⟨k1, _, q⟩ | ⟨k1, _, _, q⟩
      · exact .inl ⟨_, q⟩
      · exact .inr ⟨_, q⟩
    have ty := (isD_at I dd).1
    obtain ⟨ol, e1, e2⟩ := id ty
    exact rc_refl (T := "dict") ty PySem.F.slot_dict_eq (fun _ q => dec_dict Z (EC.sf _ (by decide)) e1 e2 ei q) hr.units0 Z J (EC.sf _ (by decide)) M.at_ M.fn fin
  | _ => obtain ⟨t, e⟩ := ho; cases e
end
/-- == with an own __eq__ on either side -/
def eqQ (cn : Str) (F : FnD) (n : Nat) (x y : D) (P : D → Nat → Prop) : Prop := match y with
  | .obj c ns ds => (match x with
    | .obj _ _ _ => eqO cn F n x y P
    | _ => c = cn ∧ (∃ t, tyN x = some t) ∧ F n [.obj c ns ds, x] (blP P))
  | _ => eqO cn F n x y P
theorem k_eqQ {W : Wd} {cn : Str} {F : FnD} (hme : W.me = none := by rfl) : Op2N W (eqQ cn F) (fun x y H Q => (rEqD W.K x y H Q ∨ rEqO W cn F false x y H Q) ∨ rEqR W cn F x y H Q) := fun pu h H x y v u P Q w rx ry hf q => by
  unfold eqQ at hf
  split at hf
  · split at hf
    · exact .inl (k_eqO hme pu h H _ _ v u P Q w rx ry hf q)
    · obtain ⟨rfl, ho, hF⟩ := hf
      refine .inr ⟨pu, h, x, _, blP P, hme, w, rx, ry, ⟨_, _, rfl⟩, ho, hF, fun pu' r hr => ?_⟩
      cases r with
      | bl b => exact ⟨b, rfl, fun H' st => q pu' _ hr _ H' st (by simp only [Rep])⟩
      | _ => exact False.elim hr
  · exact .inl (k_eqO hme pu h H _ _ v u P Q w rx ry hf q)
end DL
namespace DL
open PySem PySem.Spec L2

/-- what Lean's checker can't unfold -/
noncomputable def sealD (a : FnD) : FnD := Classical.choose (⟨a, rfl⟩ : ∃ b : FnD, b = a)
theorem sealD_eq (a : FnD) : sealD a = a := Classical.choose_spec (⟨a, rfl⟩ : ∃ b : FnD, b = a)

/-! ### list(x): a list, a tuple, a text, a dict's keys -/
theorem call_list_signs {X : Cx} (hc : X.calm = true) : CallR X (.type "list") (fun xs H Q => ∃ z : Str, xs = [.str z] ∧ z.cps.size ≤ sizeLine ∧ ∀ l, H l = none → Q (.ref l) (upd H l (.lst (z.cps.toList.map fun c => V.str ⟨#[c]⟩)))) := by
  intro pins s σ H xs us Q I r h
  obtain ⟨z, ex, hz, q⟩ := h
  subst ex
  obtain ⟨u, eu, t, eu2⟩ := vals1 r
  subst eu eu2
  refine call_list_str (I.ok.hd hc) z t (fun h' tk acc c' hk e' hi => ?_) hz
  refine ⟨.ref s.heap.objs.size, upd H s.heap.objs.size (.lst (z.cps.toList.map fun c => V.str ⟨#[c]⟩)), I.laid (t' := tk) hk (Nat.le_refl _) (show ObjOk X.prog X.w _ _ _ (.lst (z.cps.toList.map fun c => V.str ⟨#[c]⟩)) from ⟨by rw [List.length_map, Array.length_toList]; exact hz, acc.toList, c', ?_, by rw [Array.toArray_toList]; exact e'⟩), rfl, q _ (I.hok.fresh (Nat.le_refl _))⟩
  refine vals_of_at (by rw [List.length_map, Array.length_toList, Array.length_toList, hi.1]) fun j x v h1 h2 => ?_
  obtain ⟨c, t2, e1, e2⟩ := hi.2 j v (by rw [← Array.getElem?_toList]; exact h2)
  rw [List.getElem?_map, Array.getElem?_toList, e1] at h1
  cases h1
  exact ⟨t2, e2⟩
def keyBack : DKey → D
  | .inl k => kD k
  | .inr _ => .non
def listE (xs : List D) (P : D → Prop) : Prop := match xs with
  | [.lst ds] => P (.lst ds)
  | [.tup ds] => P (.lst ds)
  | [.str s] => s.cps.size ≤ sizeLine ∧ P (.lst (signsD s))
  | [.dct ks ds] => ks.all (·.isLeft) = true ∧ P (.lst (ks.map keyBack))
  | _ => False
def rListE (K : PySem.W.Frag) : List V → Hp → VK → Prop := fun xs H Q => (∃ p ys, xs = [.ref p] ∧ (SqL K H p ys ∨ SqT K H p ys) ∧ ∀ l, H l = none → Q (.ref l) (upd H l (.lst ys))) ∨
  (∃ z : Str, xs = [.str z] ∧ z.cps.size ≤ sizeLine ∧ ∀ l, H l = none → Q (.ref l) (upd H l (.lst (z.cps.toList.map fun c => V.str ⟨#[c]⟩)))) ∨
  (∃ (a : Addr) (kvs : List (Key × V)), xs = [.ref a] ∧ Rd H a (.dK kvs) ∧ ∀ p, H p = none → Q (.ref p) (upd H p (.lst (kvs.map fun kv => kV kv.1))))
theorem call_listE {X : Cx} (hc : X.calm = true) : CallR X (.type "list") (rListE X.K) := call_list_of.or ((call_list_signs hc).or (call_listD hc))
theorem reps_signs {W : Wd} {pu : Pu} {S : Hp} : ∀ cs : List Nat, Reps W pu S (cs.map fun c => D.str ⟨#[c]⟩) (cs.map fun c => V.str ⟨#[c]⟩)
  | [] => Reps.nil
  | _ :: cs => Reps.cons rep_str (reps_signs cs)
theorem rep_kD {W : Wd} {pu : Pu} {S : Hp} : ∀ k : Key, Rep W pu S (kD k) (kV k)
  | .inl _ => rep_int
  | .inr _ => rep_str
theorem reps_keys {W : Wd} {pu : Pu} {S : Hp} : ∀ (ks : List Key) (vs : List V), ks.length = vs.length → Reps W pu S ((ks.map Sum.inl).map keyBack) ((ks.zip vs).map fun kv => kV kv.1)
  | [], _, _ => by simp only [List.map_nil, List.zip_nil_left]; exact Reps.nil
  | k :: ks, [], h => by simp at h
  | k :: ks, v :: vs, h => by
    simp only [List.map_cons, List.zip_cons_cons]
    exact Reps.cons (rep_kD k) (reps_keys ks vs (by simpa using h))
theorem k_listE {W : Wd} : CalF W listE (rListE W.K) := by
  intro pu h H xs vs P Q w rx hf q
  unfold listE at hf
  split at hf
  · obtain ⟨v, rfl, r⟩ := rx.one
    obtain ⟨a, us, rfl, q1, r1⟩ := r.lst
    exact .inl ⟨a, us, rfl, .inl (.inl q1), PostF.new w r1 hf q⟩
  · obtain ⟨v, rfl, r⟩ := rx.one
    obtain ⟨a, us, rfl, q1, r1⟩ := r.tup
    exact .inl ⟨a, us, rfl, .inr q1, PostF.new w r1 hf q⟩
  · obtain ⟨v, rfl, r⟩ := rx.one
    rename_i s
    exact .inr (.inl ⟨s, by rw [r.str], hf.1, PostF.new w (reps_signs s.cps.toList) hf.2 q⟩)
  · obtain ⟨v, rfl, r⟩ := rx.one
    obtain ⟨a, us, rfl, hd, rr⟩ := r.dct
    obtain ⟨k1, ek, hd2, hl⟩ := dct_left hf.1 hd
    subst ek
    exact .inr (.inr ⟨a, _, rfl, hd2, PostF.new w (reps_keys k1 us hl) hf.2 q⟩)
  · exact False.elim hf
end DL
namespace DL
open PySem PySem.Spec L2

/-! ### sorted of any data -/
/-- a tree as data -/
def dpy (d : D) : PyData := (toPy d).getD .none
def rSortG (K : PySem.W.Frag) : List V → Hp → VK → Prop := fun vs H Q => ∃ (a : Addr) (ps : List (V × D)), vs = [.ref a] ∧ SqL K H a (ps.map (·.1)) ∧ (∀ p ∈ ps, Dp K H p.1 (dpy p.2)) ∧ PySem.W.AllAlike (ps.map fun p => dpy p.2) ∧ PySem.W.Sortable (ps.map fun p => dpy p.2) ∧
  (∀ p ∈ ps, (dpy p.2).depth ≤ 60) ∧ ps.length ≤ sizeLine ∧ ∀ p, H p = none → Q (.ref p) (upd H p (.lst ((ps.mergeSort (PySem.W.dataLe false fun p => dpy p.2)).map (·.1))))
theorem cr_sortG {X : Cx} (hu : X.A.units + 64 < cLine) : CallR X (.builtin "sorted") (rSortG X.K) := by
  intro pins s σ H vs us Q I r h
  obtain ⟨a, ps, rfl, hs, hd, hal, hk, hdep, hL, q⟩ := h
  obtain ⟨its, rv, hl, hz⟩ := I.list hs
  rw [Vals.ref1 r]
  have e : PySem.W.EachIs (fun (u : Value) (p : V × D) => RelV p.1 u) its ps := by
    have : ∀ (ps : List (V × D)) (its : List Value), Vals (ps.map (·.1)) its → PySem.W.EachIs (fun (u : Value) (p : V × D) => RelV p.1 u) its ps := by
      intro ps
      induction ps with
      | nil => intro its h; cases h; exact .nil
      | cons p ps ih => intro its h; cases h with | cons h1 h2 => exact .cons h1 (ih _ h2)
    exact this ps its rv
  have er : PySem.W.EachIs (fun (u : Value) (p : V × D) => ∃ as, Reads s.heap u (dpy p.2) as) its ps := by
    have : ∀ (ps : List (V × D)) (its : List Value), (∀ p ∈ ps, Dp X.K H p.1 (dpy p.2)) → PySem.W.EachIs (fun (u : Value) (p : V × D) => RelV p.1 u) its ps → PySem.W.EachIs (fun (u : Value) (p : V × D) => ∃ as, Reads s.heap u (dpy p.2) as) its ps := by
      intro ps
      induction ps with
      | nil => intro its _ h; cases h; exact .nil
      | cons p ps ih =>
        intro its hd h
        cases h with
        | cons h1 h2 => exact .cons (Dp.reads I _ _ _ (hd p List.mem_cons_self) h1) (ih _ (fun q hq => hd q (List.mem_cons_of_mem _ hq)) h2)
    exact this ps its hd e
  refine PySem.W.sorted_data hl.isList e er hal hk hL (fun p hp => by have := hdep p hp; omega) fun out h1 h2 => ?_
  obtain ⟨ep, he'⟩ := PyProof.Rows.sortedAll_at s.heap its out.toArray
  have hv : Vals ((ps.mergeSort (PySem.W.dataLe false fun p => dpy p.2)).map (·.1)) out := by
    have : ∀ (out : List Value) (ps : List (V × D)), PySem.W.EachIs (fun (u : Value) (p : V × D) => RelV p.1 u) out ps → Vals (ps.map (·.1)) out := by
      intro out ps h
      induction h with
      | nil => exact .nil
      | cons h1 _ ih => exact .cons h1 ih
    exact this _ _ h2
  exact ⟨.ref _, upd H (s.heap.objs.size + 1) (.lst ((ps.mergeSort (PySem.W.dataLe false fun p => dpy p.2)).map (·.1))), I.laid (t' := s.toks) (fun _ _ => PyProof.Rows.sortedAll_old) (Nat.le_succ _) ⟨by rw [List.length_map, List.length_mergeSort]; exact hL, out, ep, hv, he'⟩, rfl, q _ (I.hok.fresh (Nat.le_succ _))⟩
/-- the trees in order -/
def sortD (ds : List D) : List D := ds.mergeSort (PySem.W.dataLe false dpy)
def sortG (ds : List D) (P : D → Prop) : Prop := ∃ ps, toPys ds = some ps ∧ PySem.W.AllAlike ps ∧ PySem.W.Sortable ps ∧ (∀ p ∈ ps, p.depth ≤ 60) ∧ ds.length ≤ sizeLine ∧ P (.lst (sortD ds))
def sortGD (xs : List D) (P : D → Prop) : Prop := match xs with
  | [.lst ds] => sortG ds P
  | _ => False
theorem toPys_map : ∀ {ds : List D} {ps : List PyData}, toPys ds = some ps → ps = ds.map dpy
  | [], ps, h => by simp only [toPys] at h; cases h; rfl
  | d :: ds, ps, h => by
    simp only [toPys] at h
    cases e1 : toPy d with
    | none => rw [e1] at h; simp at h
    | some p =>
      cases e2 : toPys ds with
      | none => rw [e1, e2] at h; simp at h
      | some qs =>
        rw [e1, e2] at h
        cases h
        rw [List.map_cons, ← toPys_map e2]
        simp [dpy, e1]
theorem toPys_each : ∀ {ds : List D} {ps : List PyData}, toPys ds = some ps → ∀ d ∈ ds, toPy d = some (dpy d)
  | d :: ds, ps, h, x, hx => by
    simp only [toPys] at h
    cases e1 : toPy d with
    | none => rw [e1] at h; simp at h
    | some p =>
      cases e2 : toPys ds with
      | none => rw [e1, e2] at h; simp at h
      | some qs =>
        rcases List.mem_cons.mp hx with rfl | hx
        · simp [dpy, e1]
        · exact toPys_each e2 x hx
theorem reps_zip {W : Wd} {pu : Pu} {S : Hp} : ∀ {ds : List D} {us : List V}, Reps W pu S ds us → (us.zip ds).map (·.1) = us ∧ (us.zip ds).map (·.2) = ds ∧ ∀ p ∈ us.zip ds, Rep W pu S p.2 p.1 ∧ p.2 ∈ ds
  | [], us, r => by simp only [Reps] at r; subst r; exact ⟨rfl, rfl, fun p hp => by cases hp⟩
  | d :: ds, us, r => by
    simp only [Reps] at r
    obtain ⟨v, us', rfl, r1, r2⟩ := r
    obtain ⟨h1, h2, h3⟩ := reps_zip r2
    refine ⟨by simp [h1], by simp [h2], fun p hp => ?_⟩
    rw [List.zip_cons_cons] at hp
    rcases List.mem_cons.mp hp with rfl | hp
    · exact ⟨r1, List.mem_cons_self⟩
    · exact ⟨(h3 p hp).1, List.mem_cons_of_mem _ (h3 p hp).2⟩
theorem reps_of {W : Wd} {pu : Pu} {S : Hp} : ∀ {ps : List (V × D)}, (∀ p ∈ ps, Rep W pu S p.2 p.1) → Reps W pu S (ps.map (·.2)) (ps.map (·.1))
  | [], _ => Reps.nil
  | p :: ps, h => Reps.cons (h p List.mem_cons_self) (reps_of fun q hq => h q (List.mem_cons_of_mem _ hq))
theorem k_sortG {W : Wd} : CalF W sortGD (rSortG W.K) := by
  intro pu h H xs vs P Q w rx hf q
  unfold sortGD at hf
  split at hf
  · rename_i ds
    obtain ⟨v, rfl, r⟩ := rx.one
    obtain ⟨a, us, rfl, q1, r1⟩ := r.lst
    obtain ⟨ps, e, hal, hk, hdep, hL, hP⟩ := hf
    have em := toPys_map e
    subst em
    obtain ⟨z1, z2, z3⟩ := reps_zip r1
    have ed : ((us.zip ds).map fun p => dpy p.2) = ds.map dpy := by
      conv => rhs; rw [← z2]
      rw [List.map_map]; rfl
    have hsort : ((us.zip ds).mergeSort (PySem.W.dataLe false fun p => dpy p.2)).map (·.2) = sortD ds := by
      unfold sortD
      rw [List.map_mergeSort (f := fun p : V × D => p.2) (s := PySem.W.dataLe false dpy) (r := PySem.W.dataLe false fun p : V × D => dpy p.2) (fun _ _ _ _ => rfl), z2]
    refine ⟨a, us.zip ds, rfl, by rw [z1]; exact .inl q1, fun p hp => dp_of _ _ _ (toPys_each e _ (z3 p hp).2) (z3 p hp).1, by rw [ed]; exact hal, by rw [ed]; exact hk, fun p hp => hdep _ (List.mem_map.mpr ⟨_, (z3 p hp).2, rfl⟩), ?_, ?_⟩
    · have := congrArg List.length z2
      rw [List.length_map] at this
      omega
    · refine PostF.new w ?_ hP q
      rw [← hsort]
      exact reps_of fun p hp => (z3 p (List.mem_mergeSort.mp hp)).1
  · exact False.elim hf

/-! ### list * int -/
def rRepR : R2 := fun x y H Q => ∃ l k xs, x = .ref l ∧ y = .int k ∧ Rd H l (.lst xs) ∧ -(2 ^ 63) ≤ k ∧ k < 2 ^ 63 ∧ xs.length * k.toNat ≤ sizeLine ∧ ∀ p, H p = none → Q (.ref p) (upd H p (.lst (List.replicate k.toNat xs).flatten))
theorem rep_fold (us : List Value) (m : Nat) : List.foldl (fun x y => x ++ y) #[] (List.replicate m us.toArray) = (List.replicate m us).flatten.toArray := by
  simpa using foldl_rep us m []
theorem op_repR {X : Cx} : OpR X (binaryOp .Mult) rRepR := by
  intro pins s σ H x y v w Q I rx ry ⟨a, m, us, ex, ey, ha, lo, hi, fit, q⟩
  subst ex ey
  cases rx
  obtain ⟨tk, rfl⟩ := ry
  obtain ⟨_, vals, c, rel, len, at'⟩ := rd_lst I ha
  have fit' : vals.toArray.size * m.toNat ≤ sizeLine := by simpa [← len] using fit
  have line : (sizeLine : Nat) ≤ (2 ^ 63 - 1) / 8 := by decide
  have both := fitsIndex_both lo hi
  have long := notLongL fit'
  have new : List.foldl (fun x y => x ++ y) #[] (List.replicate (if vals.toArray.isEmpty = true then 0 else m.toNat) vals.toArray) = (List.replicate m.toNat vals).flatten.toArray := by
    rw [rep_fold]
    cases vals <;> simp
  have inner := AutoListH.list___mul___list_int_3 a vals.toArray c m tk (by rw [both]; decide) (Nat.not_lt.mpr (Nat.le_trans fit' line)) (by rw [long]; decide)
  refine wpAny_binaryOp_repeat_ref (T := "list") (U := "int") (by decide) ⟨_, at', rfl⟩ (fun z => typeIs_int z m tk) noFill_list_mul F.fills_int_mul F.slot_int_rmul repeat_list F.slot_int_index.lookup ?_
  refine call_meets F.slot_int_rmul (typeIs_int s m tk) F.entry_int_rmul (F.args_int_rmul_2 _ _) (int___rmul___int_list m tk a vals.toArray c) ⟨at', rfl, ⟨_, at', rfl⟩, ?_⟩
  refine call_meets F.slot_list_mul ⟨_, at', rfl⟩ F.entry_list_mul (F.args_list_mul_2 _ _) inner ⟨at', ?_⟩
  rw [new]
  refine ⟨.ref _, _, I.lnew (t' := s.toks) (rel.rep m.toNat) ?_, rfl, q _ I.fresh⟩
  rw [PyProof.Rows.lm_len_rep_flat, Nat.mul_comm]
  exact fit
def repLD : D → D → (D → Prop) → Prop
  | .lst ds, .int k, P => -(2 ^ 63) ≤ k ∧ k < 2 ^ 63 ∧ ds.length * k.toNat ≤ sizeLine ∧ P (.lst (List.replicate k.toNat ds).flatten)
  | _, _, _ => False
theorem reps_rep {W : Wd} {pu : Pu} {S : Hp} {ds : List D} {us : List V} (r : Reps W pu S ds us) : ∀ k : Nat, Reps W pu S (List.replicate k ds).flatten (List.replicate k us).flatten
  | 0 => Reps.nil
  | k + 1 => by
    rw [List.replicate_succ, List.replicate_succ, List.flatten_cons, List.flatten_cons]
    exact r.append (reps_rep r k)
theorem k_repLD {W : Wd} : Op2F W repLD rRepR := fun pu h H x y v u P Q w rx ry hf q => by
  cases x with
  | lst ds =>
    cases y with
    | int k =>
      obtain ⟨a, us, rfl, q1, r1⟩ := rx.lst
      obtain ⟨h1, h2, h3, hP⟩ := hf
      exact ⟨a, k, us, rfl, ry.int, q1, h1, h2, by rw [r1.length]; exact h3, PostF.new w (reps_rep r1 k.toNat) hP q⟩
    | _ => exact False.elim hf
  | _ => exact False.elim hf
end DL
namespace DL
open PySem PySem.Spec L2

/-! ### list comprehensions, two generators -/
theorem wipe_set_no {u : Nat} : ∀ (ws : List Nat) (σ : L2.St), u ∉ ws → L2.wipe (σ.set u none) ws = (L2.wipe σ ws).set u none
  | [], _, _ => rfl
  | w :: ws, σ, hn => by
    have n1 : w ≠ u := fun z => hn (by rw [z]; exact List.mem_cons_self)
    show (L2.wipe (σ.set u none) ws).set w none = ((L2.wipe σ ws).set w none).set u none
    rw [wipe_set_no ws σ fun z => hn (List.mem_cons_of_mem _ z), List.set_comm _ _ (Ne.symm n1)]
theorem wipe_wipe : ∀ (us : List Nat) (σ : L2.St), L2.wipe (L2.wipe σ us) us = L2.wipe σ us
  | [], _ => rfl
  | u :: us, σ => by
    show (L2.wipe ((L2.wipe σ us).set u none) us).set u none = (L2.wipe σ us).set u none
    by_cases hu : u ∈ us
    · rw [wipe_set_in hu, wipe_wipe us]
    · rw [wipe_set_no us _ hu, wipe_wipe us, List.set_set]
theorem own_wipe {a : Addr} : ∀ (vs : List Nat) {σ : L2.St} {ρ : List Sl}, own (L2.wipe σ vs) (wipeD ρ vs) a = true → own σ ρ a = true
  | [], _, _, h => h
  | v :: vs, σ, ρ, h => by
    obtain ⟨i, d, h1, h2⟩ := own_iff.mp h
    unfold L2.wipe at h2
    unfold wipeD at h1
    by_cases e : v = i
    · subst e
      by_cases hl : v < (wipeD ρ vs).length
      · rw [List.getElem?_set_self hl] at h1; cases h1
      · rw [List.getElem?_eq_none (by rw [List.length_set]; omega)] at h1; cases h1
    · rw [List.getElem?_set_ne e] at h1 h2
      exact own_wipe vs (own_iff.mpr ⟨i, d, h1, h2⟩)
def lcGo2 (i0 : Nat) (tt : TTD) (src1 : SRC) (g1 : Pat) (tt1 : TTD) (te : TD) (vs1 : List Nat) (ρ0 : List Sl) : List D → Nat → List D → (List D → Nat → Prop) → Prop
  | [], n, acc, P => P acc n
  | d :: ds, n, acc, P => tt n (ρ0.set i0 (.sh d)) fun b n1 => if b = true then src1 n1 (ρ0.set i0 (.sh d)) fun es n2 => lcGo g1 tt1 te (wipeD (ρ0.set i0 (.sh d)) vs1) es n2 acc fun acc' n3 => lcGo2 i0 tt src1 g1 tt1 te vs1 ρ0 ds n3 acc' P else lcGo2 i0 tt src1 g1 tt1 te vs1 ρ0 ds n1 acc P
def tLc2D (src : SRC) (i0 : Nat) (tt : TTD) (src1 : SRC) (g1 : Pat) (tt1 : TTD) (te : TD) (vs vs1 : List Nat) : TD := fun n ρ Q => src n ρ fun ds n1 => lcGo2 i0 tt src1 g1 tt1 te vs1 (wipeD (lend ρ) vs) ds n1 [] fun acc n2 => Q (.lst acc) n2
/-- for a comprehension's second source -/
def rdI2 (W : Wd) (c : Ent) (t : SRC) : TI := fun σ H R => ∃ pu ρ P, EnvR W c pu σ H ρ ∧ t pu.n ρ P ∧ ∀ (pu1 : Pu) ds, P ds pu1.n → ∀ J H1, Stp pu H pu1 H1 → ItOk W pu1 (hid (hdn c σ ρ) H1) (fun _ => false) J ds → R J H1
def PI2D (W : Wd) (X : Cx) (tg e : Expr) (t : SRC) : Prop := ∀ c, PI X tg e (rdI2 W c t)
section
variable {W : Wd} {X : Cx} {fr : Bool} {elt tg iter tg1 iter1 ce : Expr} {ifs ifs1 : List Expr} {scope : Scope} {own : List (Str × Nat)} {src src1 : SRC} {g1 : Pat} {i0 : Nat} {tt tt1 : TTD} {te : TD} {pos : Pos}
theorem PI2_ex (h : PI2D W X tg1 iter1 src1) : PI X tg1 iter1 (fun σ H R => ∃ c, rdI2 W c src1 σ H R) := ⟨fun pins s σ H R I ⟨c, q⟩ => (h c).run pins s σ H R I q⟩
theorem hid_no {S : Hp} : hid (fun _ => false) S = S := by funext a; rfl
theorem pi2_lstD (hK : X.K = W.K) (he : PD W X iter1 te) : PI2D W X tg1 iter1 (tItL te) := fun c => PI_imp (pi_list (he c)) fun σ H R ⟨pu, ρ, P, ev, ht, q⟩ => by
  refine ⟨pu, ρ, _, ev, ht, fun pu1 d hd v H1 s r => ?_⟩
  cases d with
  | lst ds =>
    simp only [Rep] at r
    obtain ⟨a, vs, rfl, q1, n, r⟩ := r
    rw [hK]
    exact ⟨a, rfl, ⟨vs, .inl (hid_rd q1)⟩, q pu1 ds hd _ H1 s (itok_list q1 n (by rw [hid_no]; exact r))⟩
  | _ => exact False.elim hd
theorem pi2_tupD (hK : X.K = W.K) (he : PD W X iter1 te) : PI2D W X tg1 iter1 (tItT te) := fun c => PI_imp (pi_tup (he c)) fun σ H R ⟨pu, ρ, P, ev, ht, q⟩ => by
  refine ⟨pu, ρ, _, ev, ht, fun pu1 d hd v H1 s r => ?_⟩
  cases d with
  | tup ds =>
    simp only [Rep] at r
    obtain ⟨a, vs, rfl, q1, r⟩ := r
    rw [hK]
    refine ⟨a, rfl, ⟨vs, ?_⟩, q pu1 ds hd _ H1 s (itok_tup q1 (by rw [hid_no]; exact r))⟩
    rcases q1 with ⟨q1, _⟩ | q1
    · exact .inl (hid_rd q1)
    · exact .inr q1
  | _ => exact False.elim hd
section
variable {a b : Expr} {ta tb : TD} {p pos : Pos}
theorem pi2_rng1 (hg : Gl X "range") (hm : X.mg "range" = none) (ha : PKD W X a ta) (hs : starEach [a] X.env = [(false, eval a X.env)] := by rfl) :
    PI2D W X tg1 (.Call (.Name "range" p) [a] [] pos) (tRng1 ta) := fun c => PI_imp (pi_range1 hg hm (pak_cons ha pak_nil hs c) hs) fun σ H R ⟨pu, ρ, P, ev, ht, q⟩ =>
  ⟨pu, ρ, fun xs n1 => rngA1 (fun ds => P ds n1) xs, ev, ht, fun pu1 xs hx vs H1 s r => let ⟨j, e, h1, h2, h3⟩ := rng_run1 hx r; ⟨j, e, h1, h2, q pu1 _ h3 _ H1 s itok_range⟩⟩
theorem pi2_rng2 (hg : Gl X "range") (hm : X.mg "range" = none) (ha : PKD W X a ta) (hb : PKD W X b tb) (hs : starEach [a, b] X.env = [(false, eval a X.env), (false, eval b X.env)] := by rfl) (hs2 : starEach [b] X.env = [(false, eval b X.env)] := by rfl) (hs3 : starEach [a, b] X.env = (false, eval a X.env) :: starEach [b] X.env := by rfl) :
    PI2D W X tg1 (.Call (.Name "range" p) [a, b] [] pos) (tRng2 ta tb) := fun c => PI_imp (pi_range2 hg hm (pak_cons ha (pak_cons hb pak_nil hs2) hs3 c) hs hs2) fun σ H R ⟨pu, ρ, P, ev, ht, q⟩ =>
  ⟨pu, ρ, fun xs n1 => rngA2 (fun ds => P ds n1) xs, ev, ht, fun pu1 xs hx vs H1 s r => let ⟨i, j, e, h1, h3⟩ := rng_run2 hx r; ⟨i, j, e, h1, q pu1 _ h3 _ H1 s itok_range⟩⟩
end
theorem stp_sub {B B' H' : Hp} {pu pu' : Pu} (s : Stp pu B pu' H') (k : ∀ a o, B' a = some o → B a = some o) : Stp pu B' pu' H' :=
  ⟨fun a o e n => s.kp a o (k a o e) n, s.up, fun a z => (s.nw a z).imp_right fun e => (by
    cases h : B' a with
    | none => rfl
    | some o => rw [k a o h] at e; cases e), s.ok⟩
theorem stp_upd {B H' : Hp} {pu pu' : Pu} {D0 : Addr} {o : HO} (s : Stp pu (hid (fun a => a == D0) B) pu' H') (n : pu' D0 = false) : Stp pu (hid (fun a => a == D0) B) pu' (upd H' D0 o) where
  kp := fun a u e q => by
    have : a ≠ D0 := fun z => by
      have := (hid_some e).1
      rw [z] at this
      simp at this
    rw [upd_ne this]
    exact s.kp a u e q
  up := s.up
  nw := s.nw
  ok := fun a z => by
    obtain ⟨x1, x2, x3, x4, e1, e2⟩ := s.ok a z
    have : a ≠ D0 := fun w => by rw [w, n] at z; cases z
    exact ⟨x1, x2, x3, x4, by rw [upd_ne this]; exact e1, e2⟩
theorem hid_hid {h k : Addr → Bool} {S : Hp} (q : ∀ a, k a = true → h a = true) : hid h (hid k S) = hid h S := by
  funext a
  unfold hid
  cases z : h a with
  | true => rfl
  | false =>
    cases y : k a with
    | false => rfl
    | true => rw [q a y] at z; cases z
/-- what stands in the list that is made -/
def AccOk (W : Wd) (h : Addr → Bool) (D0 : Addr) (pu1 : Pu) (H1 : Hp) (pu' : Pu) (H' : Hp) (accD : List D) : Prop :=
  Stp pu1 H1 pu' H' ∧ pu' D0 = false ∧ ∃ accV, H' D0 = some (.lst accV) ∧ Reps W pu' (hid h H') accD accV
theorem AccOk.step {h : Addr → Bool} {D0 : Addr} {pu1 pu2 pu3 : Pu} {H1 H2 H3 : Hp} {accD : List D} (a : AccOk W h D0 pu1 H1 pu2 H2 accD) (s : Stp pu2 H2 pu3 H3) : AccOk W h D0 pu1 H1 pu3 H3 accD := by
  obtain ⟨a1, a2, accV, a3, a4⟩ := a
  exact ⟨a1.trans s, s.mo'.off a2 ⟨_, a3⟩, accV, s.kp D0 _ a3 a2, Reps.mono (s.mo _) _ _ a4⟩
/-- one more item -/
theorem AccOk.push {h : Addr → Bool} {D0 : Addr} {pu1 pu2 : Pu} {H1 H2 : Hp} {accD : List D} {d : D} {v : V} (a : AccOk W h D0 pu1 H1 pu2 H2 accD) (n1 : H1 D0 = none) (hD : h D0 = true) (r : Rep W pu2 (hid h H2) d v) :
    ∃ accV, H2 D0 = some (.lst accV) ∧ accV.length = accD.length ∧ AccOk W h D0 pu1 H1 pu2 (upd H2 D0 (.lst (accV ++ [v]))) (accD ++ [d]) := by
  obtain ⟨a1, a2, accV, a3, a4⟩ := a
  have vis : hid h (upd H2 D0 (.lst (accV ++ [v]))) = hid h H2 := by
    funext a
    unfold hid
    by_cases ea : a = D0
    · subst ea; simp [hD]
    · rw [upd_ne ea]
  refine ⟨accV, a3, a4.length, ⟨fun a o e n => ?_, a1.up, a1.nw, fun a z => ?_⟩, a2, accV ++ [v], upd_same, ?_⟩
  · rw [upd_ne (ne_of_none e n1)]
    exact a1.kp a o e n
  · obtain ⟨x1, x2, x3, x4, e1, e2⟩ := a1.ok a z
    have : a ≠ D0 := fun w => by rw [w, a2] at z; cases z
    exact ⟨x1, x2, x3, x4, by rw [upd_ne this]; exact e1, e2⟩
  · rw [vis]
    exact a4.append (Reps.one r)
theorem lc2_run {c : Ent} {σ : L2.St} {H : Hp} {Q : VK} {pu : Pu} {ρ : List Sl} {P : D → Nat → Prop} {vs vs1 : List Nat} (ev : EnvR W c pu σ H ρ) (ht : tLc2D src i0 tt src1 g1 tt1 te vs vs1 pu.n ρ P) (hi0 : i0 ∈ vs) (hgs1 : ∀ i ∈ g1.slots, i ∈ vs1) (q : KtF W pu (hdn c σ ρ) H P Q) :
    tLc2 (rdI W c src) (gName i0) (fun σ H Q => ∃ c, rdT W c tt σ H Q) (fun σ H R => ∃ c, rdI2 W c src1 σ H R) (gPat W.K g1) (fun σ H Q => ∃ c, rdT W c tt1 σ H Q) (fun σ H Q => ∃ c, rdE W c te σ H Q) vs vs1 σ H Q := by
  refine ⟨pu, ρ, fun ds n => lcGo2 i0 tt src1 g1 tt1 te vs1 (wipeD (lend ρ) vs) ds n [] fun acc n2 => P (.lst acc) n2, ev, ht, fun pu1 ds hds J H1 s ⟨G, Y, wk, hG, hY⟩ D0 nD => ?_⟩
  have ev1 := ev.step s
  have nuD : pu1 D0 = false := ev1.vw.nopu nD
  let hh : Addr → Bool := fun a => hdn c σ ρ a || a == D0
  have hhD : hh D0 = true := by simp [hh]
  have cond : ∀ (σ' : L2.St) (ρ' : List Sl) (pu' : Pu) (H' : Hp), EnvR W ⟨pu1, hh, H1, c.fr⟩ pu' σ' H' ρ' → ∀ a, hdn ⟨pu1, hh, H1, c.fr⟩ σ' ρ' a = true → hdn c σ ρ a = true ∨ H1 a = none := fun σ' ρ' pu' H' e a z => by
    unfold hdn at z
    rcases Bool.or_eq_true_iff.mp z with z | z
    · rcases Bool.or_eq_true_iff.mp z with z | z
      · exact .inl z
      · have : a = D0 := by simpa using z
        exact .inr (by rw [this]; exact nD)
    · exact .inr (e.fresh a z).1.1
  refine ⟨fun i m H' => m = ds.length - i ∧ i ≤ ds.length ∧ ∃ pu' accD, AccOk W hh D0 pu1 H1 pu' H' accD ∧ lcGo2 i0 tt src1 g1 tt1 te vs1 (wipeD (lend ρ) vs) (ds.drop i) pu'.n accD fun acc n2 => P (.lst acc) n2,
    ⟨ds.length, by simp, Nat.zero_le _, pu1, [], ⟨stp_new ev1.vw nD, nuD, [], upd_same, Reps.nil⟩, hds⟩, ?_⟩
  rintro i m H' ⟨rfl, hi', pu', accD, ac, hgo⟩
  have hGH := hG pu' H' ac.1
  by_cases hlt : i < ds.length
  · rw [List.drop_eq_getElem_cons hlt] at hgo
    refine .inr ⟨wk.goes i H' hlt hGH, fun H2 => ∃ pu' accD, AccOk W hh D0 pu1 H1 pu' H2 accD ∧ lcGo2 i0 tt src1 g1 tt1 te vs1 (wipeD (lend ρ) vs) (ds.drop (i + 1)) pu'.n accD fun acc n2 => P (.lst acc) n2,
      fun H2 z => ⟨ds.length - (i + 1), by omega, rfl, hlt, z⟩, fun x H'' y => ?_⟩
    have hy := wk.yields i H' x H'' hlt hGH y
    obtain ⟨_, _, accV, acD, _⟩ := id ac
    have ev2 : EnvR W ⟨pu1, hh, H1, c.fr⟩ pu' (L2.wipe σ vs) H' (wipeD (lend ρ) vs) := ev1.blk nD ac.1 ⟨_, acD⟩ vs
    obtain ⟨st2, rx⟩ := hY pu' H' _ ac.1 (cond _ _ _ _ ev2) ev2.vw.th i x H'' ds[i] (List.getElem?_eq_getElem hlt) hy
    have ev3 := (ev2.step st2).setSh (i := i0) rx
    refine ⟨wipe_set_in hi0 |>.trans (wipe_wipe vs σ), ?_⟩
    simp only [lcGo2] at hgo
    refine ⟨⟨pu1, hh, H1, c.fr⟩, pu', _, _, ev3, hgo, fun pu3 b hb H3 s3 => ?_⟩
    have ac3 := ac.step (st2.trans s3)
    cases b with
    | false => exact iteF ⟨pu3, accD, ac3, iteF' hb⟩
    | true =>
      have ev4 := ev3.step s3
      refine iteT ⟨⟨pu1, hh, H1, c.fr⟩, pu3, _, _, ev4, iteT' hb, fun pu4 es hes J1 H4 s4 ⟨G1, Y1, wk1, hG1, hY1⟩ => ?_⟩
      have ac4 := ac3.step s4
      have ev5 := ev4.step s4
      have rx4 := Rep.mono ((s3.trans s4).mo _) _ _ rx
      refine ⟨fun j k Hj => k = es.length - j ∧ j ≤ es.length ∧ ∃ puj accj, Stp pu4 (hid (fun a => a == D0) H4) puj Hj ∧ AccOk W hh D0 pu1 H1 puj Hj accj ∧ lcGo g1 tt1 te (wipeD ((wipeD (lend ρ) vs).set i0 (.sh ds[i])) vs1) (es.drop j) puj.n accj fun acc' n3 => lcGo2 i0 tt src1 g1 tt1 te vs1 (wipeD (lend ρ) vs) (ds.drop (i + 1)) n3 acc' fun acc n2 => P (.lst acc) n2,
        ⟨es.length, by simp, Nat.zero_le _, pu4, accD, stp_sub (Stp.refl s4.ok) fun a o e => (hid_some e).2, ac4, hes⟩, ?_⟩
      rintro j k Hj ⟨rfl, hj', puj, accj, sj, acj, hgoj⟩
      have hsubD : ∀ a, (a == D0) = true → hdn ⟨pu1, hh, H1, c.fr⟩ ((L2.wipe σ vs).set i0 (some x)) ((wipeD (lend ρ) vs).set i0 (.sh ds[i])) a = true := fun a z => by
        have : a = D0 := by simpa using z
        subst this
        unfold hdn
        rw [show (Ent.hd ⟨pu1, hh, H1, c.fr⟩) a = true from hhD]
        rfl
      have sjB : Stp pu4 (hid (hdn ⟨pu1, hh, H1, c.fr⟩ ((L2.wipe σ vs).set i0 (some x)) ((wipeD (lend ρ) vs).set i0 (.sh ds[i]))) H4) puj Hj := stp_sub sj fun a o e => by
        obtain ⟨e1, e2⟩ := hid_some e
        refine hid_of ?_ e2
        cases z : (a == D0) with
        | false => rfl
        | true => rw [hsubD a z] at e1; cases e1
      have hG1j := hG1 puj Hj sjB
      by_cases hltj : j < es.length
      · rw [List.drop_eq_getElem_cons hltj] at hgoj
        refine .inr ⟨wk1.goes j Hj hltj hG1j, fun H2 => ∃ puj accj, Stp pu4 (hid (fun a => a == D0) H4) puj H2 ∧ AccOk W hh D0 pu1 H1 puj H2 accj ∧ lcGo g1 tt1 te (wipeD ((wipeD (lend ρ) vs).set i0 (.sh ds[i])) vs1) (es.drop (j + 1)) puj.n accj fun acc' n3 => lcGo2 i0 tt src1 g1 tt1 te vs1 (wipeD (lend ρ) vs) (ds.drop (i + 1)) n3 acc' fun acc n2 => P (.lst acc) n2,
          fun H2 z => ⟨es.length - (j + 1), by omega, rfl, hltj, z⟩, fun x1 Hx y1 => ?_⟩
        have hy1 := wk1.yields j Hj x1 Hx hltj hG1j y1
        obtain ⟨_, _, accV1, acD1, _⟩ := id acj
        have ev6 : EnvR W ⟨pu1, hh, H1, c.fr⟩ puj (L2.wipe σ vs) Hj (wipeD (lend ρ) vs) := ev1.blk nD acj.1 ⟨_, acD1⟩ vs
        have hD1 : ∀ a, (a == D0) = true → hdn ⟨pu1, hh, H1, c.fr⟩ (L2.wipe σ vs) (wipeD (lend ρ) vs) a = true := fun a z => by
          have : a = D0 := by simpa using z
          subst this
          unfold hdn
          rw [show (Ent.hd ⟨pu1, hh, H1, c.fr⟩) a = true from hhD]
          rfl
        have rxj : Rep W puj (hid (hdn ⟨pu1, hh, H1, c.fr⟩ (L2.wipe σ vs) (wipeD (lend ρ) vs)) Hj) ds[i] x := by
          have m := mo_base (h := hdn ⟨pu1, hh, H1, c.fr⟩ (L2.wipe σ vs) (wipeD (lend ρ) vs)) (h' := hdn ⟨pu1, hh, H1, c.fr⟩ (L2.wipe σ vs) (wipeD (lend ρ) vs)) sj fun a z => .inl z
          rw [hid_hid hD1] at m
          exact Rep.mono m _ _ rx4
        have ev7 := ev6.setSh (i := i0) rxj
        have ev8 := EnvR.wipe ev7 vs1
        obtain ⟨st6, rx1⟩ := hY1 puj Hj (hdn ⟨pu1, hh, H1, c.fr⟩ (L2.wipe ((L2.wipe σ vs).set i0 (some x)) vs1) (wipeD ((wipeD (lend ρ) vs).set i0 (.sh ds[i])) vs1)) sjB (fun a z => .inr (by
          have hz : hdn ⟨pu1, hh, H1, c.fr⟩ ((L2.wipe σ vs).set i0 (some x)) ((wipeD (lend ρ) vs).set i0 (.sh ds[i])) a = true := by
            unfold hdn at z ⊢
            rcases Bool.or_eq_true_iff.mp z with z | z
            · exact Bool.or_eq_true_iff.mpr (.inl z)
            · exact Bool.or_eq_true_iff.mpr (.inr (own_wipe vs1 z))
          unfold hid
          rw [hz]
          rfl)) ev8.vw.th j x1 Hx es[j] (List.getElem?_eq_getElem hltj) hy1
        simp only [lcGo] at hgoj
        refine pat_run (os := vs1) (ev8.step st6) rx1 hgoj hgs1 fun σ3 ρ3 hP3 ev9 hw3 => ⟨hw3.trans (wipe_wipe vs1 _), ⟨pu1, hh, H1, c.fr⟩, puj, ρ3, _, ev9, hP3, fun pu6 b1 hb1 H6 s6 => ?_⟩
        have acx := acj.step (st6.trans s6)
        have sx := sj.trans (st6.trans s6)
        cases b1 with
        | false => exact iteF ⟨pu6, accj, sx, acx, iteF' hb1⟩
        | true =>
          refine iteT ⟨⟨pu1, hh, H1, c.fr⟩, pu6, ρ3, _, ev9.step s6, iteT' hb1, fun pu7 w hzw v H7 s7 r7 => ?_⟩
          obtain ⟨hz, hw'⟩ := hzw
          have acy := acx.step s7
          have ry : Rep W pu7 (hid hh H7) w v := Rep.mono (mo_less fun a z => Bool.or_eq_true_iff.mpr (.inl z)) w v r7
          obtain ⟨accV2, e1, e2, acz⟩ := acy.push nD hhD ry
          exact ⟨accV2, e1, by rw [e2]; exact hz, pu7, accj ++ [w], stp_upd (sx.trans s7) acy.2.1, acz, hw'⟩
      · have hn : j = es.length := by omega
        subst hn
        rw [List.drop_length] at hgoj
        simp only [lcGo] at hgoj
        exact .inl ⟨wk1.stops Hj hG1j, puj, accj, acj, hgoj⟩
  · have hn : i = ds.length := by omega
    subst hn
    rw [List.drop_length] at hgo
    obtain ⟨a1, a2, accV, a3, a4⟩ := ac
    exact .inl ⟨wk.stops H' hGH, q pu' _ hgo D0 H' (s.trans a1) (s.none nD) a2 ⟨accV, a3, a4⟩⟩
theorem pf_lc2 (hK : X.K = W.K) (hc : X.calm = true) (hN : X.N.Nodup) {vs1 : List Nat} (hi : PID W X tg iter src) (ok : BlkOk X.N X.env.scope scope own) (hv : ∀ i ∈ vs1, i ∈ own.map (·.2)) (hi0 : i0 ∈ own.map (·.2)) (hgs1 : ∀ i ∈ g1.slots, i ∈ vs1)
    (hg : ∀ (s : Shared) (H : Hp) (C : Addr) (cl : List (Str × Addr)) (fp : List Addr), PG (X.blk s H scope (compEnvC scope cl C X.env) fp) tg (gName i0))
    (ht : ∀ (s : Shared) (H : Hp) (C : Addr) (cl : List (Str × Addr)) (fp : List Addr), PTsD W (X.blk s H scope (compEnvC scope cl C X.env) fp) ifs tt)
    (hi1 : ∀ (s : Shared) (H : Hp) (C : Addr) (cl : List (Str × Addr)) (fp : List Addr), PI2D W (X.blk s H scope (compEnvC scope cl C X.env) fp) tg1 iter1 src1)
    (hg1 : ∀ (s : Shared) (H : Hp) (C : Addr) (cl : List (Str × Addr)) (fp : List Addr), PG (X.blk s H scope (compEnvC scope cl C X.env) fp) tg1 (gPat W.K g1))
    (ht1 : ∀ (s : Shared) (H : Hp) (C : Addr) (cl : List (Str × Addr)) (fp : List Addr), PTsD W (X.blk s H scope (compEnvC scope cl C X.env) fp) ifs1 tt1)
    (he : ∀ (s : Shared) (H : Hp) (C : Addr) (cl : List (Str × Addr)) (fp : List Addr), PD W (X.blk s H scope (compEnvC scope cl C X.env) fp) elt te) (hs : ∀ x, foldedSetIterable iter X.env x = pure x := by intro _; rfl) (hs1 : ∀ env x, foldedSetIterable iter1 env x = pure x := by intro _ _; rfl) :
    PFD W X (.ListComp elt [⟨tg, iter, ifs, 0⟩, ⟨tg1, iter1, ifs1, 0⟩] scope pos) (tLc2D src i0 tt src1 g1 tt1 te (own.map (·.2)) vs1) := fun c =>
  PE_imp (pe_lc2 hc hN (hi c) ok hv hg (fun s H C cl fp => PTs_ex (ht s H C cl fp)) (fun s H C cl fp => PI2_ex (hi1 s H C cl fp)) hg1 (fun s H C cl fp => PTs_ex (ht1 s H C cl fp)) (fun s H C cl fp => PE_ex (he s H C cl fp)) hs hs1) fun σ H Q ⟨pu, ρ, P, ev, ht, q⟩ => lc2_run ev ht hi0 hgs1 q
end
end DL
namespace DL
open PySem PySem.Spec L2

section
variable {W : Wd} {X : Cx} {fr : Bool} {elt tg iter tg1 iter1 ce : Expr} {ifs ifs1 : List Expr} {scope : Scope} {own : List (Str × Nat)} {src src1 : SRC} {g1 : Pat} {i0 : Nat} {tt tt1 : TTD} {te : TD} {pos : Pos}
/-- name = [.. for .. for ..] on one line -/
theorem psd_setLc2 {i : Nat} {y : Str} {py spos : Pos} (hK : X.K = W.K) (hc : X.calm = true) (hN : X.N.Nodup) (hy : X.N[i]? = some y) (hyl : X.env.scope.names.lookup y = some .local)
    (hsw : swapsWith (.ListComp elt [⟨tg, iter, ifs, 0⟩, ⟨tg1, iter1, ifs1, 0⟩] scope pos) (some (.Name y py)) spos.line X.env = pure true) {vs1 : List Nat} (hi : PID W X tg iter src) (ok : BlkOk X.N X.env.scope scope own) (hv : ∀ i ∈ vs1, i ∈ own.map (·.2)) (hi0 : i0 ∈ own.map (·.2)) (hgs1 : ∀ i ∈ g1.slots, i ∈ vs1)
    (hg : ∀ (s : Shared) (H : Hp) (C : Addr) (cl : List (Str × Addr)) (fp : List Addr), PG (X.blk s H scope (compEnvC scope cl C X.env) fp) tg (gName i0))
    (ht : ∀ (s : Shared) (H : Hp) (C : Addr) (cl : List (Str × Addr)) (fp : List Addr), PTsD W (X.blk s H scope (compEnvC scope cl C X.env) fp) ifs tt)
    (hi1 : ∀ (s : Shared) (H : Hp) (C : Addr) (cl : List (Str × Addr)) (fp : List Addr), PI2D W (X.blk s H scope (compEnvC scope cl C X.env) fp) tg1 iter1 src1)
    (hg1 : ∀ (s : Shared) (H : Hp) (C : Addr) (cl : List (Str × Addr)) (fp : List Addr), PG (X.blk s H scope (compEnvC scope cl C X.env) fp) tg1 (gPat W.K g1))
    (ht1 : ∀ (s : Shared) (H : Hp) (C : Addr) (cl : List (Str × Addr)) (fp : List Addr), PTsD W (X.blk s H scope (compEnvC scope cl C X.env) fp) ifs1 tt1)
    (he : ∀ (s : Shared) (H : Hp) (C : Addr) (cl : List (Str × Addr)) (fp : List Addr), PD W (X.blk s H scope (compEnvC scope cl C X.env) fp) elt te) (hs : ∀ x, foldedSetIterable iter X.env x = pure x := by intro _; rfl) (hs1 : ∀ env x, foldedSetIterable iter1 env x = pure x := by intro _ _; rfl) :
    PSD W X fr (.Assign [.Name y py] (.ListComp elt [⟨tg, iter, ifs, 0⟩, ⟨tg1, iter1, ifs1, 0⟩] scope pos) spos) (tSetD i (tLc2D src i0 tt src1 g1 tt1 te (own.map (·.2)) vs1)) := fun c _ =>
  PS_imp (ps_setLc2 hc hN hy hyl hsw (hi c) ok hv hg (fun s H C cl fp => PTs_ex (ht s H C cl fp)) (fun s H C cl fp => PI2_ex (hi1 s H C cl fp)) hg1 (fun s H C cl fp => PTs_ex (ht1 s H C cl fp)) (fun s H C cl fp => PE_ex (he s H C cl fp)) hs hs1) fun De σ H ⟨pu, ρ, E, ev, ht, h1, _⟩ =>
    lc2_run (Q := fun x H1 => gName i x σ H1 De.nx) ev ht hi0 hgs1 fun pu' d hd p H' s n nu r => h1 pu' _ hd _ H' ((ev.step s).setSh (ow_rep (ev.vw.free n) nu r))
end

/-! ### list(range(..)) -/
def lrgA (Q : D → Prop) : List D → Prop
  | [.int j] => -(2 ^ 62) ≤ j ∧ j < 2 ^ 62 ∧ j ≤ 16777216 ∧ Q (.lst (rangeD 0 j.toNat))
  | [.int i, .int j] => (-(2 ^ 62) ≤ i ∧ i < 2 ^ 62 ∧ -(2 ^ 62) ≤ j ∧ j < 2 ^ 62) ∧ j - i ≤ 16777216 ∧ Q (.lst (rangeD i (j - i).toNat))
  | _ => False
def tLRg1 (ta : TD) : TD := fun n ρ Q => ta n ρ fun x n1 => lrgA (fun d => Q d n1) [x]
def tLRg2 (ta tb : TD) : TD := fun n ρ Q => ta n ρ fun x n1 => tb n1 ρ fun y n2 => lrgA (fun d => Q d n2) [x, y]
theorem reps_range {W : Wd} {pu : Pu} {S : Hp} (a : Int) : ∀ is : List Nat, Reps W pu S (is.map fun (i : Nat) => D.int (a + i)) (is.map fun (i : Nat) => V.int (a + i))
  | [] => Reps.nil
  | i :: is => Reps.cons rep_int (reps_range a is)
section
variable {W : Wd} {X : Cx} {a b : Expr} {ta tb : TD} {p p1 p2 pos : Pos}
theorem pf_lrg1 (hc : X.calm = true) (hgl : Gl X "list") (hml : X.mg "list" = none) (hg : Gl X "range") (hm : X.mg "range" = none) (ha : PKD W X a ta) (na : starEach [a] X.env = (false, eval a X.env) :: starEach [] X.env := by rfl)
    (nb : starEach [.Call (.Name "range" p) [a] [] p1] X.env = (false, eval (.Call (.Name "range" p) [a] [] p1) X.env) :: starEach [] X.env := by rfl) : PFD W X (.Call (.Name "list" p2) [.Call (.Name "range" p) [a] [] p1] [] pos) (tLRg1 ta) := fun c =>
  PE_imp (pe_listRg hc hgl hml (prg_1 hg hm (ha c) na) nb) fun σ H Q ⟨pu, ρ, P, ev, ht, q⟩ => by
  refine ⟨pu, ρ, _, ev, ht, fun pu1 d hd v H1 s r => ?_⟩
  cases d with
  | int j =>
    obtain ⟨h1, h2, h3, hP⟩ := hd
    refine ⟨j, r.int, ⟨by omega, by omega, h1, h2, by omega⟩, fun l nl => ?_⟩
    have := PostF.new (W := W) (P := fun d => P d pu1.n) (ev.step s).vw (ds := rangeD 0 j.toNat) (vs := rgV 0 j) (by
      unfold rangeD rgV
      rw [Int.sub_zero]
      exact reps_range 0 _) hP (PostF.trans s q)
    exact this l nl
  | _ => exact False.elim hd
theorem pf_lrg2 (hc : X.calm = true) (hgl : Gl X "list") (hml : X.mg "list" = none) (hg : Gl X "range") (hm : X.mg "range" = none) (ha : PKD W X a ta) (hb : PKD W X b tb) (na : starEach [a, b] X.env = (false, eval a X.env) :: starEach [b] X.env := by rfl)
    (nb : starEach [b] X.env = (false, eval b X.env) :: starEach [] X.env := by rfl) (hp : (backTo p1 (starEach [b] X.env)).any (·.1) = false := by rfl)
    (nc : starEach [.Call (.Name "range" p) [a, b] [] p1] X.env = (false, eval (.Call (.Name "range" p) [a, b] [] p1) X.env) :: starEach [] X.env := by rfl) : PFD W X (.Call (.Name "list" p2) [.Call (.Name "range" p) [a, b] [] p1] [] pos) (tLRg2 ta tb) := fun c =>
  PE_imp (pe_listRg hc hgl hml (prg_2 hg hm (PE_imp (ha c) fun _ _ _ q => q) (show PE X b (fun σ H Q => ∃ c, rdK W c tb σ H Q) from ⟨fun pins s σ H Q I ⟨c, q⟩ => (hb c).run pins s σ H Q I q⟩) na nb hp) nc) fun σ H Q ⟨pu, ρ, P, ev, ht, q⟩ => by
  refine ⟨pu, ρ, _, ev, ht, fun pu1 x hx v H1 s1 r1 => ⟨c, pu1, ρ, _, ev.step s1, hx, fun pu2 y hy w H2 s2 r2 => ?_⟩⟩
  cases x with
  | int i =>
    cases y with
    | int j =>
      obtain ⟨⟨h1, h2, h3, h4⟩, h5, hP⟩ := hy
      refine ⟨i, j, r1.int, r2.int, ⟨h1, h2, h3, h4, by omega⟩, fun l nl => ?_⟩
      have := PostF.new (W := W) (P := fun d => P d pu2.n) ((ev.step s1).step s2).vw (ds := rangeD i (j - i).toNat) (vs := rgV i j) (reps_range i _) hP (PostF.trans (s1.trans s2) q)
      exact this l nl
    | _ => exact False.elim hy
  | _ => exact False.elim (by cases hy)
end

/-! ### a def called without arguments -/
section
variable {W : Wd} {X : Cx} {x : Str} {k : Nat} {dd : List D} {F : FnD} {p pos : Pos}
theorem rdAM_nil {c : Ent} {σ : L2.St} {H : Hp} {Q : List V → Hp → Prop} (h : rdAM W c [] tNilA σ H Q) : L2.tNil σ H Q := by
  obtain ⟨pu, ρ, P, ev, ht, q⟩ := h
  exact q pu [] ht [] H ev.rfl' ⟨rfl, rfl⟩
theorem pd_call0 (A : FnAt X.prog X.w X.K X.mg X.base W x k ([] ++ List.replicate dd.length false) false dd F) (hr : Room k X.A) (hg : Gl X x) (hdb : (x == ("__debug__" : Str)) = false := by decide) :
    PD W X (.Call (.Name x p) [] [] pos) (tFn F dd tNilA) := fun c => by
  obtain ⟨f, fd, ps, dvs, ds, hm, hk, G, hb, hv, hd⟩ := A.ex
  refine PE_imp (pe_call0 G hr hg hm hk hb hv pass0 hdb) fun σ H Q ⟨pu, ρ, P, ev, ht, q⟩ => ?_
  refine rdAM_nil (c := c) (fn_run ev ht hd fun pu' d hP v pu1 H1 H' s rr => ?_)
  unfold RetR at rr
  rw [if_neg Bool.false_ne_true] at rr
  obtain ⟨s', r'⟩ := rr
  exact q pu' d hP v H' (s.trans s') r'
theorem pf_call0 (A : FnAt X.prog X.w X.K X.mg X.base W x k ([] ++ List.replicate dd.length false) true dd F) (hr : Room k X.A) (hg : Gl X x) (hdb : (x == ("__debug__" : Str)) = false := by decide) :
    PFD W X (.Call (.Name x p) [] [] pos) (tFn F dd tNilA) := fun c => by
  obtain ⟨f, fd, ps, dvs, ds, hm, hk, G, hb, hv, hd⟩ := A.ex
  refine PE_imp (pe_call0 G hr hg hm hk hb hv pass0 hdb) fun σ H Q ⟨pu, ρ, P, ev, ht, q⟩ => ?_
  refine rdAM_nil (c := c) (fn_run ev ht hd fun pu' d hP v pu1 H1 H' s rr => ?_)
  unfold RetR at rr
  rw [if_pos rfl] at rr
  obtain ⟨a, rfl, s', n, nu, r'⟩ := rr
  exact q pu' d hP a H' (s.trans s') (s.none n) nu r'
end
end DL
namespace DL
open PySem PySem.Spec L2

/-! ### zip of lists, of tuples -/
theorem walk_zipT {K : PySem.W.Frag} {a b : Addr} {us ws : List V} {n : Nat} (hn : n = min us.length ws.length) : Walk (RZ.ItzT K a b) n (fun H => SqT K H a us ∧ SqT K H b ws) (YPair (fun i => us[i]?) (fun i => ws[i]?)) where
  goes := fun i _ hi q => by
    have h1 : i < us.length := by omega
    have h2 : i < ws.length := by omega
    exact ⟨us, ws, us[i], ws[i], q.1, q.2, List.getElem?_eq_getElem h1, List.getElem?_eq_getElem h2⟩
  stops := fun _ q => ⟨us, ws, q.1, q.2, by omega⟩
  yields := fun i H v H' _ q y => by
    obtain ⟨T, x, z, h1, h2, h3, h4, h5⟩ := y
    exact ⟨T, x, z, h1, h2, h3, h4 us q.1, h5 ws q.2⟩
def zpB (Q : List D → Prop) : List D → Prop
  | [.lst ds, .lst es] => Q (zipD ds es)
  | [.tup ds, .tup es] => Q (zipD ds es)
  | _ => False
def tZipA (ta tb : TD) : SRC := fun n ρ Q => ta n ρ fun x n1 => tb n1 ρ fun y n2 => zpB (fun ds => Q ds n2) [x, y]
section
variable {W : Wd} {pu : Pu} {B : Hp} {h : Addr → Bool} {a b : Addr}
theorem itok_zipT {ds es : List D} {vs us : List V} (q : (Rd B a (.tup vs) ∧ pu a = false) ∨ StatT W.K a vs) (r : Reps W pu (hid h B) ds vs) (q' : (Rd B b (.tup us) ∧ pu b = false) ∨ StatT W.K b us) (r' : Reps W pu (hid h B) es us) : ItOk W pu B h (RZ.ItzT W.K a b) (zipD ds es) := by
  have hl : (zipD ds es).length = min vs.length us.length := by unfold zipD; simp [r.length, r'.length]
  have w := walk_zipT (K := W.K) (a := a) (b := b) (us := vs) (ws := us) hl
  have keep : ∀ {c : Addr} {xs : List V} {pu' : Pu} {H' : Hp}, Stp pu B pu' H' → ((Rd B c (.tup xs) ∧ pu c = false) ∨ StatT W.K c xs) → SqT W.K H' c xs := fun s z => by
    rcases z with ⟨z, n⟩ | z
    · exact .inl (rd_mono (fun o e => s.kp _ o e n) z)
    · exact .inr z
  refine pair_ok (f := fun i => ds[i]?) (g := fun i => es[i]?) w (fun pu' H' s => ⟨keep s q, keep s q'⟩) (fun i d hd => ?_) (fun i d v e1 e2 => ?_) (fun i d v e1 e2 => ?_)
  · unfold zipD at hd
    rw [List.getElem?_map] at hd
    cases e : (ds.zip es)[i]? with
    | none => rw [e] at hd; simp at hd
    | some y =>
      rw [e] at hd
      simp at hd
      obtain ⟨h1, h2⟩ := List.getElem?_zip_eq_some.mp e
      exact ⟨y.1, y.2, h1, h2, hd.symm⟩
  · obtain ⟨u, q1, q2⟩ := r.get e1
    rw [e2] at q1; cases q1; exact q2
  · obtain ⟨u, q1, q2⟩ := r'.get e1
    rw [e2] at q1; cases q1; exact q2
end
section
variable {W : Wd} {X : Cx} {a b : Expr} {ta tb : TD} {elts : List Expr} {kk : Nat} {p pos tpos : Pos}
theorem pi_zipB (hK : X.K = W.K) (hg : Gl X "zip") (hm : X.mg "zip" = none) (ha : PKD W X a ta) (hb : PKD W X b tb) (hs : starEach [a, b] X.env = (false, eval a X.env) :: starEach [b] X.env := by rfl) (hpl : (backTo pos (starEach [b] X.env)).any (·.1) = false := by rfl) (hs2 : starEach [b] X.env = [(false, eval b X.env)] := by rfl) :
    PID W X (.Tuple elts kk tpos) (.Call (.Name "zip" p) [a, b] [] pos) (tZipA ta tb) := fun c => PI_imp (RZ.pi_zipA hg hm (pak_cons ha (pak_cons hb pak_nil hs2) hs c) hs hpl) fun σ H R ⟨pu, ρ, P, ev, ht, q⟩ =>
  ⟨pu, ρ, fun xs n1 => zpB (fun ds => P ds n1) xs, ev, ht, fun pu1 xs hx vs H1 s r => by
    rw [hK]
    match xs, hx, r with
    | [.lst ds, .lst es], hx, r =>
      obtain ⟨v, u, rfl, r1, r2⟩ := RepsK.two r
      obtain ⟨a, us, rfl, q1, n, r3⟩ := RepK.lstN r1
      obtain ⟨b, ws, rfl, q2, n2, r4⟩ := RepK.lstN r2
      exact ⟨a, b, us, ws, rfl, .inl ⟨.inl q1, .inl q2, q pu1 _ hx _ H1 s (itok_zip q1 n r3 q2 n2 r4)⟩⟩
    | [.tup ds, .tup es], hx, r =>
      obtain ⟨v, u, rfl, r1, r2⟩ := RepsK.two r
      obtain ⟨a, us, rfl, q1, r3⟩ := RepK.tupN r1
      obtain ⟨b, ws, rfl, q2, r4⟩ := RepK.tupN r2
      exact ⟨a, b, us, ws, rfl, .inr ⟨q1.imp_left (·.1), q2.imp_left (·.1), q pu1 _ hx _ H1 s (itok_zipT q1 r3 q2 r4)⟩⟩⟩
end
end DL
namespace DL
open PySem PySem.Spec L2
/-! ### starred items of displays -/
def itemsD : D → Option (List D)
  | .lst ds => some ds
  | .tup ds => some ds
  | _ => none
def tStarA (ta : TD) (tas : TAD) : TAD := fun n ρ Q => ta n ρ fun x n1 => match itemsD x with
  | some ds => tas n1 ρ fun xs n2 => Q (ds ++ xs) n2
  | none => False
section
variable {W : Wd} {X : Cx} {a : Expr} {es : List Expr} {ta : TD} {tas : TAD} {p : Pos}
theorem pad_star (hK : X.K = W.K) (ha : PKD W X a ta) (hs : PAD W X es tas) (h : starEach (.Starred a p :: es) X.env = (true, eval a X.env) :: starEach es X.env := by rfl) : PAD W X (.Starred a p :: es) (tStarA ta tas) := fun c =>
  PA_imp (StX.pa_star (ha c) (hs c) h) fun σ H Q ⟨pu, ρ, P, ev, ht, q⟩ => ⟨pu, ρ, _, ev, ht, fun pu1 x hx v H1 s1 r1 => by
    have go : ∀ {ds : List D} {b : Addr} {vs : List V}, v = .ref b → (SqT X.K H1 b vs ∨ SqL X.K H1 b vs) → Reps W pu1 (hid (hdn c σ ρ) H1) ds vs → tas pu1.n ρ (fun xs n2 => P (ds ++ xs) n2) → ∃ b vs, v = V.ref b ∧ (SqT X.K H1 b vs ∨ SqL X.K H1 b vs) ∧ rdA W c tas σ H1 fun ys H2 => Q (vs ++ ys) H2 := fun {ds b vs} e hq r ht1 =>
      ⟨b, vs, e, hq, pu1, ρ, _, ev.step s1, ht1, fun pu2 xs hxs us H2 s2 r2 => q pu2 (ds ++ xs) hxs (vs ++ us) H2 (s1.trans s2) (Reps.append (Reps.mono (s2.mo _) ds vs r) r2)⟩
    cases x with
    | lst ds =>
      obtain ⟨b, vs, e, h1, h2⟩ := r1.lstL (K := X.K)
      exact go e (.inr h1) h2 hx
    | tup ds =>
      obtain ⟨b, vs, e, h1, h2⟩ := r1.tup
      exact go e (.inl (hK ▸ h1)) h2 hx
    | _ => exact False.elim hx⟩
end
end DL
namespace DL
open PySem PySem.Spec L2
/-! ### a display of fresh lists, looked at, then its lists changed in place (what was told is spoilt) -/
def Ext (H H' : Hp) : Prop := ∀ a o, H a = some o → H' a = some o
theorem Ext.upd {H : Hp} {p : Addr} {o : HO} (n : H p = none) : Ext H (upd H p o) := fun a u e => by rw [upd_ne (ne_of_none e n)]; exact e
def tAny : TE := fun _ H Q => ∀ v H', Ext H H' → Q v H'
section
variable {X : Cx} {e e1 : Expr} {pos : Pos}
theorem any_C {v : V} (h : PE X e (tC v)) : PE X e tAny := PE_imp h fun σ H Q q => q v H fun _ _ z => z
theorem any_tup0 {k} : PE X (.Tuple [] k pos) tAny := PE_imp (pe_tup pa_nil) fun σ H Q q => ⟨Nat.zero_le _, fun p n => q _ _ (Ext.upd n)⟩
theorem any_tup1 {k} {v : V} (h : PE X e (tC v)) (hs : starEach [e] X.env = (false, eval e X.env) :: starEach [] X.env := by rfl) : PE X (.Tuple [e] k pos) tAny := PE_imp (pe_tup (pa_cons h pa_nil hs)) fun σ H Q q => ⟨(by decide : 1 ≤ sizeLine), fun p n => q _ _ (Ext.upd n)⟩
theorem any_tup2 {k} {v u : V} (h : PE X e (tC v)) (h1 : PE X e1 (tC u)) (hs : starEach [e, e1] X.env = (false, eval e X.env) :: starEach [e1] X.env := by rfl) (hs1 : starEach [e1] X.env = (false, eval e1 X.env) :: starEach [] X.env := by rfl) : PE X (.Tuple [e, e1] k pos) tAny := PE_imp (pe_tup (pa_cons h (pa_cons h1 pa_nil hs1) hs)) fun σ H Q q => ⟨(by decide : 2 ≤ sizeLine), fun p n => q _ _ (Ext.upd n)⟩
end

/-- the state behind the display: σ0, H0 ahead of it -/
structure SpSt (W : Wd) (c : Ent) (i : Nat) (fl : List Bool) (j : Nat) (ds : List D) (pu0 : Pu) (σ0 : L2.St) (H0 : Hp) (ρ : List Sl) (pu : Pu) (σ : L2.St) (H : Hp) (p : Addr) (vs : List V) : Prop where
  ev : EnvR W c pu0 σ0 H0 ρ
  st : Stp pu0 H0 pu H
  ii : i < ρ.length
  sg : σ = σ0.set i (some (.ref p))
  hp : H p = some (.lst vs)
  np : pu p = false
  kid : ∀ (k : Nat) es, fl[k]? = some true → ds[k]? = some (.lst es) → ∃ q us, vs[k]? = some (V.ref q) ∧ H0 q = none ∧ pu q = false ∧ q ≠ p ∧ H q = some (.lst us) ∧ us.length ≤ es.length + j ∧ es.length ≤ us.length
structure EndOk (W : Wd) (c : Ent) (E : DEnds) (De : L2.Ends) : Prop where
  nx : ∀ (pu' : Pu) ρ', E.nx pu'.n ρ' → ∀ σ' H', EnvR W c pu' σ' H' ρ' → De.nx σ' H'
  rt : ∀ (pu' : Pu) d, E.rt d pu'.n → ∀ v H', RetR W c pu' d v H' → De.rt v H'
  bk : ∀ (pu' : Pu) ρ', E.bk pu'.n ρ' → ∀ σ' H', EnvR W c pu' σ' H' ρ' → De.bk σ' H'
  ct : ∀ (pu' : Pu) ρ', E.ct pu'.n ρ' → ∀ σ' H', EnvR W c pu' σ' H' ρ' → De.ct σ' H'
/-- behind a change -/
def PSp (W : Wd) (X : Cx) (fr : Bool) (i : Nat) (fl : List Bool) (j : Nat) (ss : List Stmt) (t : List D → TDS) : Prop := ∀ c, c.fr = fr → PSs X ss fun De σ H => ∃ ds pu0 σ0 H0 ρ pu p vs E, SpSt W c i fl j ds pu0 σ0 H0 ρ pu σ H p vs ∧ t ds E pu.n (ρ.set i .un) ∧ EndOk W c E De
/-- ahead of the first change: the display may be looked at -/
def PSa (W : Wd) (X : Cx) (fr : Bool) (i : Nat) (fl : List Bool) (ss : List Stmt) (t : List D → TDS) : Prop := ∀ c, c.fr = fr → PSs X ss fun De σ H => ∃ ds pu0 σ0 H0 ρ pu p vs E, SpSt W c i fl 0 ds pu0 σ0 H0 ρ pu σ H p vs ∧ EnvR W c pu σ H (ρ.set i (.sh (.lst ds))) ∧ t ds E pu.n (ρ.set i (.sh (.lst ds))) ∧ EndOk W c E De
section
variable {W : Wd} {X : Cx} {fr : Bool} {i j : Nat} {fl : List Bool} {rest : List Stmt}
theorem SpSt.out {c : Ent} {ds : List D} {pu0 : Pu} {σ0 : L2.St} {H0 : Hp} {ρ : List Sl} {pu : Pu} {σ : L2.St} {H : Hp} {p : Addr} {vs : List V} (s : SpSt W c i fl j ds pu0 σ0 H0 ρ pu σ H p vs) : EnvR W c pu σ H (ρ.set i .un) := by
  rw [s.sg]
  exact (s.ev.step s.st).setUn
def tSpEnd (t : TDS) : List D → TDS := fun _ => t
theorem psp_end {t : TDS} (h : PSsD W X fr rest t) : PSp W X fr i fl j rest (tSpEnd t) := fun c hc => PSs_imp (h c hc) fun De σ H ⟨ds, pu0, σ0, H0, ρ, pu, p, vs, E, s, ht, z⟩ => ⟨pu, _, E, s.out, ht, z.nx, z.rt, z.bk, z.ct⟩
theorem SpSt.var {c : Ent} {ds : List D} {pu0 : Pu} {σ0 : L2.St} {H0 : Hp} {ρ : List Sl} {pu : Pu} {σ : L2.St} {H : Hp} {p : Addr} {vs : List V} (s : SpSt W c i fl j ds pu0 σ0 H0 ρ pu σ H p vs) : σ[i]? = some (some (.ref p)) := by
  rw [s.sg]
  exact List.getElem?_set_self (by rw [s.ev.len]; exact s.ii)
/-- one of the lists is changed -/
theorem SpSt.mut {c : Ent} {ds : List D} {pu0 : Pu} {σ0 : L2.St} {H0 : Hp} {ρ : List Sl} {pu : Pu} {σ : L2.St} {H H1 : Hp} {p q : Addr} {vs us ws : List V} (s : SpSt W c i fl j ds pu0 σ0 H0 ρ pu σ H p vs) (x : Ext H H1) (hq0 : H0 q = none) (hqu : pu q = false) (hqp : q ≠ p) (hq : H q = some (.lst us)) (h1 : ws.length ≤ us.length + 1) (h2 : us.length ≤ ws.length) :
    SpSt W c i fl (j + 1) ds pu0 σ0 H0 ρ pu σ (upd H1 q (.lst ws)) p vs where
  ev := s.ev
  st := {
    kp := fun a o e n => by
      have ne : a ≠ q := ne_of_none e hq0
      rw [upd_ne ne]
      exact x a o (s.st.kp a o e n)
    up := s.st.up
    nw := s.st.nw
    ok := fun a h => by
      obtain ⟨n, m, k, l, e, r⟩ := s.st.ok a h
      have ne : a ≠ q := fun z => by rw [z, hqu] at h; cases h
      exact ⟨n, m, k, l, by rw [upd_ne ne]; exact x _ _ e, r⟩ }
  ii := s.ii
  sg := s.sg
  hp := by rw [upd_ne (Ne.symm hqp)]; exact x _ _ s.hp
  np := s.np
  kid := fun k es h h' => by
    obtain ⟨r, ts, k1, k2, k3, k4, k5, k6, k7⟩ := s.kid k es h h'
    by_cases e : r = q
    · subst e
      rw [hq] at k5; cases k5
      exact ⟨r, ws, k1, k2, k3, k4, upd_same, by omega, by omega⟩
    · exact ⟨r, ts, k1, k2, k3, k4, by rw [upd_ne e]; exact x _ _ k5, by omega, k7⟩
theorem atI_nat' {vs : List V} {k : Nat} {v : V} (h : vs[k]? = some v) : L2.atI vs (k : Int) = some v := by
  have hk := (List.getElem?_eq_some_iff.mp h).1
  unfold L2.atI ixN
  rw [if_pos (by omega), if_pos (by omega), Int.toNat_natCast]
  exact h
def tSpApp (fl : List Bool) (k j : Nat) (t : List D → TDS) : List D → TDS := fun ds E n ρ => (fl[k]? = some true ∧ ∃ es, ds[k]? = some (.lst es) ∧ es.length + j < sizeLine) ∧ t ds E n ρ
def tSpSet (fl : List Bool) (k m : Nat) (t : List D → TDS) : List D → TDS := fun ds E n ρ => (fl[k]? = some true ∧ ∃ es, ds[k]? = some (.lst es) ∧ m < es.length) ∧ t ds E n ρ
def tSpGo (i : Nat) (t : List D → TDS) : List D → TDS := fun ds E n ρ => t ds E n (ρ.set i .un)
def tSpIf (tc : TTD) (ta : TDS) (t : List D → TDS) : List D → TDS := fun ds E n ρ => tc n ρ fun b n1 => if b = true then ta { E with nx := fun _ _ => False } n1 ρ else t ds E n1 ρ
/-- told[k].append(x) -/
theorem psp_app {k : Nat} {o x : Expr} {kp sp apos cpos pos : Pos} {jj} {t : List D → TDS} (hv : PE X o (L2.tVar i)) (hx : PE X x tAny) (h : PSp W X fr i fl (j + 1) rest t)
    (hm : ∀ t : TA, PA X [x] t → PE X (.Subscript o (.Constant (.int (k : Nat)) jj kp) sp) (tOp (rIxL X.K) (L2.tVar i) (tC (.int (k : Nat)))) → PE X (.Call (.Attribute (.Subscript o (.Constant (.int (k : Nat)) jj kp) sp) "append" apos) [x] [] cpos) (tBM X.K "list" rAppend (tOp (rIxL X.K) (L2.tVar i) (tC (.int (k : Nat)))) t))
    (hi : PE X (.Subscript o (.Constant (.int (k : Nat)) jj kp) sp) (tOp (rIxL X.K) (L2.tVar i) (tC (.int (k : Nat)))))
    (hst : starEach [x] X.env = (false, eval x X.env) :: starEach [] X.env := by rfl)
    (hs : swapsWith (.Call (.Attribute (.Subscript o (.Constant (.int (k : Nat)) jj kp) sp) "append" apos) [x] [] cpos) none pos.line X.env = pure false := by rfl) :
    PSp W X fr i fl j (.Expr (.Call (.Attribute (.Subscript o (.Constant (.int (k : Nat)) jj kp) sp) "append" apos) [x] [] cpos) pos :: rest)
      (tSpApp fl k j t) := fun c hc =>
  PSs_imp (pss_cons (ps_expr (hm _ (pa_cons hx pa_nil hst) hi) hs) (h c hc)) fun De σ H ⟨ds, pu0, σ0, H0, ρ, pu, p, vs, E, s, ⟨⟨hf, es, hd, hl⟩, ht⟩, z⟩ => by
    obtain ⟨q, us, k1, k2, k3, k4, k5, k6, k7⟩ := s.kid k es hf hd
    refine ⟨.ref p, s.var, p, vs, (k : Nat), .ref q, rfl, rfl, .inl (.inl s.hp), atI_nat' k1, ?_⟩
    refine ⟨.inl ⟨rfl, us, .inl (.inl k5)⟩, fun v H1 x => ?_⟩
    refine ⟨q, us, v, rfl, rfl, x _ _ k5, by omega, ?_⟩
    exact ⟨ds, pu0, σ0, H0, ρ, pu, p, vs, E, s.mut x k2 k3 k4 k5 (by rw [List.length_append, List.length_singleton]; omega) (by rw [List.length_append]; omega), ht, z⟩
/-- told[k][m] = x -/
theorem psp_set {k m : Nat} {o x : Expr} {kp mp sp sp2 pos : Pos} {jj jj2} {t : List D → TDS} (hx : PE X x tAny) (h : PSp W X fr i fl (j + 1) rest t)
    (hi : PE X (.Subscript o (.Constant (.int (k : Nat)) jj kp) sp) (tOp (rIxL X.K) (L2.tVar i) (tC (.int (k : Nat)))))
    (ha : ∀ v, assign (.Subscript (.Subscript o (.Constant (.int (k : Nat)) jj kp) sp) (.Constant (.int (m : Nat)) jj2 mp) sp2) X.env v = (do
      let ov ← holding [v] (eval (.Subscript o (.Constant (.int (k : Nat)) jj kp) sp) X.env)
      let iv ← holding [v, ov] (eval (.Constant (.int (m : Nat)) jj2 mp) X.env)
      standAt sp2
      holding [v, ov, iv] (setItem ov iv v)
      release [v, ov, iv] []) := by intro _; rfl)
    (hs : swapsWithSole [.Subscript (.Subscript o (.Constant (.int (k : Nat)) jj kp) sp) (.Constant (.int (m : Nat)) jj2 mp) sp2] x pos.line X.env = pure false := by rfl)
    (hw : swappedStores [.Subscript (.Subscript o (.Constant (.int (k : Nat)) jj kp) sp) (.Constant (.int (m : Nat)) jj2 mp) sp2] x X.env = pure none := by rfl)
    (h1 : (assignEach [.Subscript (.Subscript o (.Constant (.int (k : Nat)) jj kp) sp) (.Constant (.int (m : Nat)) jj2 mp) sp2] X.env).map (·.2) = [assign (.Subscript (.Subscript o (.Constant (.int (k : Nat)) jj kp) sp) (.Constant (.int (m : Nat)) jj2 mp) sp2) X.env] := by rfl) :
    PSp W X fr i fl j (.Assign [.Subscript (.Subscript o (.Constant (.int (k : Nat)) jj kp) sp) (.Constant (.int (m : Nat)) jj2 mp) sp2] x pos :: rest)
      (tSpSet fl k m t) := fun c hc =>
  PSs_imp (pss_cons (ps_asg hx (pg_sub hi pe_int set_list ha) hs hw h1) (h c hc)) fun De σ H ⟨ds, pu0, σ0, H0, ρ, pu, p, vs, E, s, ⟨⟨hf, es, hd, hl⟩, ht⟩, z⟩ => by
    obtain ⟨q, us, k1, k2, k3, k4, k5, k6, k7⟩ := s.kid k es hf hd
    intro v H1 x
    refine ⟨.ref p, s.var, p, vs, (k : Nat), .ref q, rfl, rfl, .inl (.inl (x _ _ s.hp)), atI_nat' k1, ?_⟩
    refine ⟨q, us, (m : Nat), m, rfl, rfl, x _ _ k5, ?_, ?_⟩
    · unfold ixN
      rw [if_pos (by omega), if_pos (by omega), Int.toNat_natCast]
    · exact ⟨ds, pu0, σ0, H0, ρ, pu, p, vs, E, s.mut x k2 k3 k4 k5 (by rw [List.length_set]; omega) (by rw [List.length_set]; exact Nat.le_refl _), ht, z⟩
/-- the changes begin -/
theorem psa_mut {t : List D → TDS} (h : PSp W X fr i fl 0 rest t) : PSa W X fr i fl rest (tSpGo i t) := fun c hc => PSs_imp (h c hc) fun De σ H ⟨ds, pu0, σ0, H0, ρ, pu, p, vs, E, s, ev, ht, z⟩ =>
  ⟨ds, pu0, σ0, H0, ρ, pu, p, vs, E, s, by simp only [tSpGo, List.set_set] at ht; exact ht, z⟩
/-- a test, and out -/
theorem psa_if {ce : Expr} {a : List Stmt} {pos : Pos} {tc : TTD} {ta : TDS} {t : List D → TDS} (hc : PTD W X ce tc) (ha : PSsD W X fr a ta) (h : PSa W X fr i fl rest t) : PSa W X fr i fl (.If ce a [] pos :: rest) (tSpIf tc ta t) := fun c hf =>
  PSs_imp (pss_cons (ps_if (hc c) (ha c hf) pss_nil) (h c hf)) fun De σ H ⟨ds, pu0, σ0, H0, ρ, pu, p, vs, E, s, ev, ht, z⟩ => by
    refine ⟨pu, _, _, ev, ht, fun pu' b hb H' s' => ?_⟩
    cases b with
    | true => exact iteT ⟨pu', _, { E with nx := fun _ _ => False }, ev.step s', by simpa using hb, fun _ _ q => False.elim q, z.rt, z.bk, z.ct⟩
    | false =>
      refine iteF ?_
      have hb : t ds E pu'.n (ρ.set i (.sh (.lst ds))) := by simpa using hb
      refine ⟨ds, pu0, σ0, H0, ρ, pu', p, vs, E, ⟨s.ev, s.st.trans s', s.ii, s.sg, s'.kp _ _ s.hp s.np, s'.mo'.off s.np ⟨_, s.hp⟩, fun k es h1 h2 => ?_⟩, ev.step s', hb, z⟩
      obtain ⟨q, us, k1, k2, k3, k4, k5, k6, k7⟩ := s.kid k es h1 h2
      exact ⟨q, us, k1, k2, s'.mo'.off k3 ⟨_, k5⟩, k4, s'.kp _ _ k5 k3, k6, k7⟩
end
/-! the display -/
def rdSp (W : Wd) (c : Ent) (fl : List Bool) (t : TAD) : TA := fun σ H Q => ∃ pu ρ P, EnvR W c pu σ H ρ ∧ t pu.n ρ P ∧
  ∀ (pu' : Pu) ds, P ds pu'.n → ∀ vs H', Stp pu H pu' H' → Reps W pu' (hid (hdn c σ ρ) H') ds vs →
    (∀ (k : Nat) es, fl[k]? = some true → ds[k]? = some (.lst es) → ∃ q us, vs[k]? = some (V.ref q) ∧ H q = none ∧ pu' q = false ∧ H' q = some (.lst us) ∧ us.length = es.length) → Q vs H'
def PXA (W : Wd) (X : Cx) (es : List Expr) (fl : List Bool) (t : TAD) : Prop := ∀ c, PA X es (rdSp W c fl t)
section
variable {W : Wd} {X : Cx} {fr : Bool} {i : Nat} {fl : List Bool} {rest : List Stmt} {a : Expr} {es : List Expr} {ta : TD} {tas : TAD}
theorem pxa_nil : PXA W X [] [] tNilA := fun c => PA_imp pa_nil fun σ H Q ⟨pu, ρ, P, ev, ht, q⟩ => q pu [] ht [] H ev.rfl' Reps.nil fun k es h => by simp at h
theorem pxa_sh (ha : PD W X a ta) (hs : PXA W X es fl tas) (h : starEach (a :: es) X.env = (false, eval a X.env) :: starEach es X.env := by rfl) : PXA W X (a :: es) (false :: fl) (tConsA ta tas) := fun c =>
  PA_imp (pa_cons (ha c) (hs c) h) fun σ H Q ⟨pu, ρ, P, ev, ht, q⟩ => ⟨pu, ρ, _, ev, ht, fun pu1 x hx v H1 s1 r1 => ⟨pu1, ρ, _, ev.step s1, hx, fun pu2 xs hxs vs H2 s2 r2 kd =>
    q pu2 (x :: xs) hxs (v :: vs) H2 (s1.trans s2) (Reps.cons (Rep.mono (s2.mo _) x v r1) r2) fun k es hk hd => by
      cases k with
      | zero => simp at hk
      | succ k =>
        obtain ⟨p, us, k1, k2, k3⟩ := kd k es (by simpa using hk) (by simpa using hd)
        exact ⟨p, us, by simpa using k1, s1.none k2, k3⟩⟩⟩
theorem pxa_fr (ha : PFD W X a ta) (hs : PXA W X es fl tas) (h : starEach (a :: es) X.env = (false, eval a X.env) :: starEach es X.env := by rfl) : PXA W X (a :: es) (true :: fl) (tConsA ta tas) := fun c =>
  PA_imp (pa_cons (ha c) (hs c) h) fun σ H Q ⟨pu, ρ, P, ev, ht, q⟩ => ⟨pu, ρ, _, ev, ht, fun pu1 x hx v H1 s1 n1 nu r1 => ⟨pu1, ρ, _, ev.step s1, hx, fun pu2 xs hxs vs H2 s2 r2 kd =>
    q pu2 (x :: xs) hxs (.ref v :: vs) H2 (s1.trans s2) (Reps.cons (Rep.mono (s2.mo _) x _ (ow_rep (ev.vw.free n1) nu r1)) r2) fun k es hk hd => by
      cases k with
      | zero =>
        have hd : x = .lst es := by simpa using hd
        subst hd
        obtain ⟨us, h1, h2⟩ := r1
        exact ⟨v, us, rfl, n1, s2.mo'.off nu ⟨_, h1⟩, s2.kp _ _ h1 nu, h2.length⟩
      | succ k =>
        obtain ⟨p, us, k1, k2, k3⟩ := kd k es (by simpa using hk) (by simpa using hd)
        exact ⟨p, us, by simpa using k1, s1.none k2, k3⟩⟩⟩
/-- told = [..] -/
def tSpoil (i : Nat) (tas : TAD) (t : List D → TDS) : TDS := fun E n ρ => i < ρ.length ∧ tas n ρ fun ds n1 => ds.length ≤ sizeLine ∧ t ds E n1 (ρ.set i (.sh (.lst ds)))
theorem pssd_spoil {x : Str} {pos' pos lpos : Pos} {t : List D → TDS} (hN : X.N.Nodup) (hi : X.N[i]? = some x) (hx : Loc X.env.scope x) (ha : PXA W X es fl tas) (h : PSa W X fr i fl rest t)
    (hs : swapsWith (.List es lpos) (some (.Name x pos')) pos.line X.env = pure false := by rfl) (hf : X.fn x = true ∨ X.env.scope.names.lookup x = some .local := by first | exact .inl rfl | exact .inr rfl | assumption) :
    PSsD W X fr (.Assign [.Name x pos'] (.List es lpos) pos :: rest) (tSpoil i tas t) := fun c hc =>
  PSs_imp (pss_cons (ps_set hN hi hx (pe_lst (ha c)) hs hf) (h c hc)) fun De σ H ⟨pu, ρ, E, ev, ⟨hii, ht⟩, z1, z2, z3, z4⟩ =>
    ⟨pu, ρ, _, ev, ht, fun pu1 ds ⟨hz, hP⟩ vs H1 s r kd => ⟨by rw [r.length]; exact hz, fun p n => by
      have ev1 := ev.step s
      have s2 : Stp pu1 H1 pu1 (upd H1 p (.lst vs)) := stp_new ev1.vw n
      have ev2 := ev1.step s2
      refine ⟨ds, pu, σ, H, ρ, pu1, p, vs, E, ⟨ev, s.trans s2, hii, rfl, upd_same, ev1.vw.nopu n, fun k es h1 h2 => ?_⟩, ?_, hP, z1, z2, z3, z4⟩
      · obtain ⟨q, us, k1, k2, k3, k4, k5⟩ := kd k es h1 h2
        have ne : q ≠ p := ne_of_none k4 n
        exact ⟨q, us, k1, k2, k3, ne, by rw [upd_ne ne]; exact k4, by omega, by omega⟩
      · refine ev2.setSh ?_
        simp only [Rep]
        exact ⟨p, vs, rfl, .inl (hid_of (ev1.vw.free n) upd_same), ev1.vw.nopu n, Reps.mono (s2.mo _) ds vs r⟩⟩⟩
theorem pssd_fz (is : List Nat) {ss : List Stmt} {t : TDS} (h : PSsD W X fr ss t) : PSsD W X fr ss (tFz is t) := fun c hc => PSs_imp (h c hc) fun De σ H ⟨pu, ρ, E, ev, ht, q⟩ => ⟨pu, frzs is ρ, E, ev.frzs is, ht, q⟩
end
end DL
namespace L2
open PySem PySem.Spec PyProof.Rows
section
variable {X : Cx} {a b c d : Expr} {ta tb tc td : TE} {pos : Pos}
/-- a op1 b op2 c op3 d -/
def tChain3 (r1 r2 r3 : R2) (ta tb tc td : TE) : TE := fun σ H Q => ta σ H fun x H1 => tb σ H1 fun y H2 => r1 x y H2 fun z H3 => ∃ k, z = .bl k ∧
  (if k = true then tc σ H3 fun w H4 => r2 y w H4 fun z2 H5 => ∃ k2, z2 = .bl k2 ∧ (if k2 = true then td σ H5 fun u H6 => r3 w u H6 Q else Q (.bl false) H5) else Q (.bl false) H3)
theorem pe_chain3 {op1 op2 op3 : CmpOp} {r1 r2 r3 : R2} (h1 : OpR X (compareOp op1) r1) (h2 : OpR X (compareOp op2) r2) (h3 : OpR X (compareOp op3) r3) (ha : PE X a ta) (hb : PE X b tb) (hc : PE X c tc) (hd : PE X d td)
    (hm : lastMarks [op1, op2, op3] [b, c, d] = false := by with_unfolding_all rfl) : PE X (.Compare a [op1, op2, op3] [b, c, d] pos) (tChain3 r1 r2 r3 ta tb tc td) := by
  refine ⟨fun pins s σ H Q I h => ?_⟩
  refine Compare_chain (thn (ha.run pins s σ H _ I h) fun v s1 ⟨x, H1, I1, e1, q1⟩ => chain_link (thn (hb.run pins s1 σ H1 _ I1 q1) fun u s2 ⟨y, H2, I2, e2, q2⟩ =>
    thn (h1 pins s2 σ H2 x y v u _ I2 e1 e2 q2) fun d1 s3 ⟨z, H3, I3, e3, k, e, q3⟩ => ?_)) hm
  subst e
  cases e3
  refine wpAny_truthy_bool ?_
  cases k with
  | false => exact ite_ff ⟨.bl false, H3, I3, rfl, q3⟩
  | true =>
    refine ite_tt (chain_link (thn (hc.run pins s3 σ H3 _ I3 q3) fun w s4 ⟨z4, H4, I4, e4, q4⟩ => thn (h2 pins s4 σ H4 y z4 u w _ I4 e2 e4 q4) fun d2 s5 ⟨z5, H5, I5, e5, k2, e, q5⟩ => ?_))
    subst e
    cases e5
    refine wpAny_truthy_bool ?_
    cases k2 with
    | false => exact ite_ff ⟨.bl false, H5, I5, rfl, q5⟩
    | true => exact ite_tt (chain_last (thn (hd.run pins s5 σ H5 _ I5 q5) fun w' s6 ⟨z6, H6, I6, e6, q6⟩ => h3 pins s6 σ H6 z4 z6 w w' Q I6 e4 e6 q6))
theorem pt_chain3 {op1 op2 op3 : CmpOp} {r1 r2 r3 : R2} (h1 : OpR X (compareOp op1) r1) (h2 : OpR X (compareOp op2) r2) (h3 : OpR X (compareOp op3) r3) (ha : PE X a ta) (hb : PE X b tb) (hc : PE X c tc) (hd : PE X d td)
    (hm : lastMarks [op1, op2, op3] [b, c, d] = false := by with_unfolding_all rfl) : PT X (.Compare a [op1, op2, op3] [b, c, d] pos) (tTest (tChain3 r1 r2 r3 ta tb tc td)) := by
  refine ⟨fun pins s σ H Q I h => ?_⟩
  refine isTrue_chain (thn (ha.run pins s σ H _ I h) fun v s1 ⟨x, H1, I1, e1, q1⟩ => test_link (thn (hb.run pins s1 σ H1 _ I1 q1) fun u s2 ⟨y, H2, I2, e2, q2⟩ =>
    thn (h1 pins s2 σ H2 x y v u _ I2 e1 e2 q2) fun d1 s3 ⟨z, H3, I3, e3, k, e, q3⟩ => ?_)) hm
  subst e
  cases e3
  refine wpAny_truthy_bool ?_
  cases k with
  | false =>
    obtain ⟨k', e', q'⟩ := q3
    cases e'
    exact ite_ff ⟨H3, I3, q'⟩
  | true =>
    refine ite_tt (test_link (thn (hc.run pins s3 σ H3 _ I3 q3) fun w s4 ⟨z4, H4, I4, e4, q4⟩ => thn (h2 pins s4 σ H4 y z4 u w _ I4 e2 e4 q4) fun d2 s5 ⟨z5, H5, I5, e5, k2, e, q5⟩ => ?_))
    subst e
    cases e5
    refine wpAny_truthy_bool ?_
    cases k2 with
    | false =>
      obtain ⟨k', e', q'⟩ := q5
      cases e'
      exact ite_ff ⟨H5, I5, q'⟩
    | true =>
      refine ite_tt (test_last (thn (hd.run pins s5 σ H5 _ I5 q5) fun w' s6 ⟨z6, H6, I6, e6, q6⟩ => thn (h3 pins s6 σ H6 z4 z6 w w' _ I6 e4 e6 q6) fun d' s7 ⟨z7, H7, I7, e7, k3, e, q7⟩ => ?_))
      subst e
      cases e7
      exact wpAny_truthy_bool ⟨H7, I7, q7⟩
end
end L2
namespace DL
open PySem PySem.Spec L2
section
variable {W : Wd} {X : Cx} {fr : Bool} {a b c d : Expr} {ta tb tc td : TD} {pos : Pos}
def tChn3 (f g k : D → D → (D → Prop) → Prop) (ta tb tc td : TD) : TD := fun n ρ Q => ta n ρ fun x n1 => tb n1 ρ fun y n2 => f x y fun z => match z with
  | .bl b1 => if b1 = true then tc n2 ρ fun w n3 => g y w fun z2 => (match z2 with
    | .bl b2 => if b2 = true then td n3 ρ fun u n4 => k w u fun d => Q d n4 else Q (.bl false) n3
    | _ => False) else Q (.bl false) n2
  | _ => False
theorem chn3_run {f g k : D → D → (D → Prop) → Prop} {r1 r2 r3 : R2} (k1 : Op2 W f r1) (k2 : Op2 W g r2) (k3 : Op2 W k r3) {c : Ent} {σ : L2.St} {H : Hp} {Q : VK} {pu : Pu} {ρ : List Sl} {P : D → Nat → Prop} (ev : EnvR W c pu σ H ρ) (ht : tChn3 f g k ta tb tc td pu.n ρ P) (q : Kt W pu (hdn c σ ρ) H P Q) :
    tChain3 r1 r2 r3 (rdK W c ta) (rdK W c tb) (rdK W c tc) (rdK W c td) σ H Q := by
  refine ⟨pu, ρ, _, ev, ht, fun pu1 x hx v H1 s1 e1 => ⟨pu1, ρ, _, ev.step s1, hx, fun pu2 y hy u H2 s2 e2 => ?_⟩⟩
  refine k1 _ _ _ _ _ _ _ _ _ ((ev.step s1).step s2).vw (e1.step s2) e2 hy fun z hz w H3 s3 e3 => ?_
  cases z with
  | bl b1 =>
    refine ⟨b1, by simpa only [Rep] using e3, ?_⟩
    have s0 := s1.trans (s2.trans s3)
    cases b1 with
    | true =>
      refine iteT ⟨pu2, ρ, _, ev.step s0, iteT' hz, fun pu4 w2 hw2 v4 H4 s4 e4 => ?_⟩
      refine k2 _ _ _ _ _ _ _ _ _ ((ev.step s0).step s4).vw (e2.step (s3.trans s4)) e4 hw2 fun z2 hz2 w5 H5 s5 e5 => ?_
      cases z2 with
      | bl b2 =>
        refine ⟨b2, by simpa only [Rep] using e5, ?_⟩
        have s6 := s0.trans (s4.trans s5)
        cases b2 with
        | true =>
          exact iteT ⟨pu4, ρ, _, ev.step s6, iteT' hz2, fun pu7 w7 hw7 v7 H7 s7 e7 => k3 _ _ _ _ _ _ _ _ _ ((ev.step s6).step s7).vw (e4.step (s5.trans s7)) e7 hw7 fun d hd v8 H8 s8 e8 => q pu7 d hd v8 H8 (s6.trans (s7.trans s8)) e8⟩
        | false => exact iteF (q pu4 _ (iteF' hz2) _ H5 s6 rep_bl)
      | _ => exact False.elim hz2
    | false => exact iteF (q pu2 _ (iteF' hz) _ H3 s0 rep_bl)
  | _ => exact False.elim hz
theorem pd_chain3 {op1 op2 op3 : CmpOp} {f g k : D → D → (D → Prop) → Prop} {r1 r2 r3 : R2} (h1 : OpR X (compareOp op1) r1) (h2 : OpR X (compareOp op2) r2) (h3 : OpR X (compareOp op3) r3) (k1 : Op2 W f r1) (k2 : Op2 W g r2) (k3 : Op2 W k r3) (ha : PKD W X a ta) (hb : PKD W X b tb) (hc : PKD W X c tc) (hd : PKD W X d td)
    (hm : lastMarks [op1, op2, op3] [b, c, d] = false := by with_unfolding_all rfl) : PD W X (.Compare a [op1, op2, op3] [b, c, d] pos) (tChn3 f g k ta tb tc td) := fun c =>
  PE_imp (pe_chain3 h1 h2 h3 (ha c) (hb c) (hc c) (hd c) hm) fun σ H Q ⟨pu, ρ, P, ev, ht, q⟩ => chn3_run k1 k2 k3 ev ht q
theorem ptd_chain3 {op1 op2 op3 : CmpOp} {f g k : D → D → (D → Prop) → Prop} {r1 r2 r3 : R2} (h1 : OpR X (compareOp op1) r1) (h2 : OpR X (compareOp op2) r2) (h3 : OpR X (compareOp op3) r3) (k1 : Op2 W f r1) (k2 : Op2 W g r2) (k3 : Op2 W k r3) (ha : PKD W X a ta) (hb : PKD W X b tb) (hc : PKD W X c tc) (hd : PKD W X d td)
    (hm : lastMarks [op1, op2, op3] [b, c, d] = false := by with_unfolding_all rfl) : PTD W X (.Compare a [op1, op2, op3] [b, c, d] pos) (tTst (tChn3 f g k ta tb tc td)) := fun c =>
  PT_imp (pt_chain3 h1 h2 h3 (ha c) (hb c) (hc c) (hd c) hm) fun σ H Q ⟨pu, ρ, P, ev, ht, q⟩ => chn3_run k1 k2 k3 ev ht fun pu' d hd v H' s r => by
    cases d with
    | bl k => exact ⟨k, by simpa only [Rep] using r, q pu' k hd H' s⟩
    | _ => exact False.elim hd

/-! ### x = y = value -/
def tSet2 (i j : Nat) (te : TD) : TDS := fun E n ρ => te n ρ fun d n1 => E.nx n1 ((ρ.set i (.sh d)).set j (.sh d))
theorem setSh2 {c : Ent} {pu : Pu} {σ : L2.St} {H : Hp} {ρ : List Sl} {i j : Nat} {d d2 : D} {v v2 : V} (e : EnvR W c pu σ H ρ) (r : Rep W pu (hid (hdn c σ ρ) H) d v) (r2 : Rep W pu (hid (hdn c σ ρ) H) d2 v2) : EnvR W c pu ((σ.set i (some v)).set j (some v2)) H ((ρ.set i (.sh d)).set j (.sh d2)) :=
  (e.setSh r).setSh (Rep.mono (mo_less (hdn_drop fun _ z => by cases z)) d2 v2 r2)
theorem psd_set2 {i j : Nat} {x y e : Expr} {te : TD} (hx : PG X x (gName i)) (hy : PG X y (gName j)) (he : PD W X e te)
    (h : ∀ t : TE, PE X e t → PS X (.Assign [x, y] e pos) (tAsg2 t (gName i) (gName j))) : PSD W X fr (.Assign [x, y] e pos) (tSet2 i j te) := fun c _ =>
  PS_imp (h _ (he c)) fun De σ H ⟨pu, ρ, E, ev, ht, h1, _⟩ => ⟨pu, ρ, _, ev, ht, fun pu' d hd v H' s r => h1 pu' _ hd _ H' (setSh2 (ev.step s) r r)⟩

/-! ### x, y, z = three values, the last one perhaps a fresh container -/
def tPar3D (o : Bool) (i j l : Nat) (ta tb tc : TD) : TDS := fun E n ρ => ta n ρ fun x n1 => tb n1 ρ fun y n2 => tc n2 ρ fun z n3 => E.nx n3 (((ρ.set i (.sh x)).set j (.sh y)).set l (mkS o z))
theorem three_out {o : Bool} {c : Ent} {σ : L2.St} {H : Hp} {pu : Pu} {ρ : List Sl} {i j l : Nat} {E : DEnds} {x y z : Expr} {Q : V → V → V → Hp → Prop} (ev : EnvR W c pu σ H ρ) (ht : tPar3D o i j l ta tb tc E pu.n ρ)
    (q : ∀ u v w (pu' : Pu) H' ρ', E.nx pu'.n ρ' → EnvR W c pu' (((σ.set i (some u)).set j (some v)).set l (some w)) H' ρ' → Q u v w H') : rdE W c ta σ H fun u H1 => rdE W c tb σ H1 fun v H2 => rdX W c o tc σ H2 fun w H3 => Q u v w H3 := by
  refine ⟨pu, ρ, _, ev, ht, fun pu1 d1 hd1 u H1 s1 r1 => ⟨pu1, ρ, _, ev.step s1, hd1, fun pu2 d2 hd2 v H2 s2 r2 => ⟨pu2, ρ, _, (ev.step s1).step s2, hd2, fun pu3 d3 hd3 w H3 s3 r3 => ?_⟩⟩⟩
  have e0 := setSh2 (i := i) (j := j) ((ev.step s1).step s2) (Rep.mono (s2.mo _) _ _ r1) r2
  refine q u v w pu3 H3 _ hd3 (OutR.set e0 s3 ?_)
  have hs : ∀ a, hdn c ((σ.set i (some u)).set j (some v)) ((ρ.set i (.sh d1)).set j (.sh d2)) a = true → hdn c σ ρ a = true := fun a z => hdn_drop (fun _ z => by cases z) a (hdn_drop (fun _ z => by cases z) a z)
  unfold OutR at r3 ⊢
  cases o with
  | false => rw [if_neg Bool.false_ne_true] at r3 ⊢; exact Rep.mono (mo_less hs) d3 w r3
  | true =>
    rw [if_pos rfl] at r3 ⊢
    obtain ⟨p, e, n, nu, r3⟩ := r3
    exact ⟨p, e, n, nu, r3.step (mo_less fun a z => by
      rcases Bool.or_eq_true_iff.mp z with z | z
      · exact Bool.or_eq_true_iff.mpr (.inl (hs a z))
      · exact Bool.or_eq_true_iff.mpr (.inr z)) fun _ z => z⟩
theorem psd_par3 {o : Bool} {i j l : Nat} {px py pz pt : Pos} {x y z : Str} {kt k2 pt2} (hc : X.calm = true) (hN : X.N.Nodup) (hi : X.N[i]? = some x) (hj : X.N[j]? = some y) (hl : X.N[l]? = some z) (hij : i ≠ j) (hil : i ≠ l) (hjl : j ≠ l)
    (hx : X.env.scope.names.lookup x = some .local) (hy : X.env.scope.names.lookup y = some .local) (hz : X.env.scope.names.lookup z = some .local) (ha : PD W X a ta) (hb : PD W X b tb) (hd : PXD W X o c tc)
    (h : ∀ t : TA, PA X [a, b, c] t → PS X (.Assign [.Tuple [.Name x px, .Name y py, .Name z pz] kt pt] (.Tuple [a, b, c] k2 pt2) pos) (tPar3 i j l t))
    (h1 : starEach [a, b, c] X.env = (false, eval a X.env) :: starEach [b, c] X.env := by rfl) (h2 : starEach [b, c] X.env = (false, eval b X.env) :: starEach [c] X.env := by rfl) (h3 : starEach [c] X.env = (false, eval c X.env) :: starEach [] X.env := by rfl) :
    PSD W X fr (.Assign [.Tuple [.Name x px, .Name y py, .Name z pz] kt pt] (.Tuple [a, b, c] k2 pt2) pos) (tPar3D o i j l ta tb tc) := fun c0 _ =>
  PS_imp (h _ (pa_cons (ha c0) (pa_cons (hb c0) (pa_cons (hd c0) pa_nil h3) h2) h1)) fun De σ H ⟨pu, ρ, E, ev, ht, q1, _⟩ => by
  have z := three_out (x := a) (y := b) (z := c) (Q := fun u v w H2 => De.nx (((σ.set i (some u)).set j (some v)).set l (some w)) H2) ev ht fun u v w pu' H' ρ' hR ev' => q1 pu' ρ' hR _ H' ev'
  obtain ⟨pu, ρ, P, ev, ht, q⟩ := z
  refine ⟨pu, ρ, P, ev, ht, fun pu1 d hd v H1 s1 r1 => ?_⟩
  obtain ⟨pu2, ρ2, P2, e2, t2, q2⟩ := q pu1 d hd v H1 s1 r1
  refine ⟨pu2, ρ2, P2, e2, t2, fun pu3 d2 hd2 w H3 s3 r3 => ?_⟩
  obtain ⟨pu4, ρ4, P4, e4, t4, q4⟩ := q2 pu3 d2 hd2 w H3 s3 r3
  exact ⟨pu4, ρ4, P4, e4, t4, fun pu5 d5 hd5 w5 H5 s5 r5 => ⟨v, w, w5, rfl, q4 pu5 d5 hd5 w5 H5 s5 r5⟩⟩
theorem psd_par3T {o : Bool} {i j l : Nat} {x y z : Expr} {pt : Pos} {kt k2 pt2} (hc : X.calm = true) (hx : PG X x (gName i)) (hy : PG X y (gName j)) (hz : PG X z (gName l)) (ha : PD W X a ta) (hb : PD W X b tb) (hd : PXD W X o c tc)
    (hw : swappedStores [.Tuple [x, y, z] kt pt] (.Tuple [a, b, c] k2 pt2) X.env = pure none := by rfl) (h1 : starEach [a, b, c] X.env = (false, eval a X.env) :: starEach [b, c] X.env := by rfl) (h2 : starEach [b, c] X.env = (false, eval b X.env) :: starEach [c] X.env := by rfl) (h3 : starEach [c] X.env = (false, eval c X.env) :: starEach [] X.env := by rfl)
    (hs : swapsWithSole [.Tuple [x, y, z] kt pt] (.Tuple [a, b, c] k2 pt2) pos.line X.env = pure false := by rfl) (hn : (assignEach [x, y, z] X.env).length = 3 := by rfl) (hst : (assignEach [x, y, z] X.env).findIdx? (·.1) = none := by rfl)
    (ha1 : (assignEach [x, y, z] X.env).map (·.2) = assign x X.env :: (assignEach [y, z] X.env).map (·.2) := by rfl) (ha2 : (assignEach [y, z] X.env).map (·.2) = assign y X.env :: (assignEach [z] X.env).map (·.2) := by rfl) (ha4 : (assignEach [z] X.env).map (·.2) = assign z X.env :: (assignEach [] X.env).map (·.2) := by rfl)
    (ha3 : (assignEach [.Tuple [x, y, z] kt pt] X.env).map (·.2) = [assign (.Tuple [x, y, z] kt pt) X.env] := by rfl) :
    PSD W X fr (.Assign [.Tuple [x, y, z] kt pt] (.Tuple [a, b, c] k2 pt2) pos) (tPar3D o i j l ta tb tc) := fun c0 _ =>
  PS_imp (ps_asg (pe_tup (pa_cons (ha c0) (pa_cons (hb c0) (pa_cons (hd c0) pa_nil h3) h2) h1)) (pg_tup hc (pgs_cons hx (pgs_cons hy (pgs_cons hz pgs_nil ha4) ha2) ha1) hn hst) hs hw ha3) fun De σ H ⟨pu, ρ, E, ev, ht, q1, _⟩ => by
  have z := three_out (x := a) (y := b) (z := c) (Q := fun u v w H2 => ∀ p, H2 p = none → De.nx (((σ.set i (some u)).set j (some v)).set l (some w)) (upd H2 p (.tup [u, v, w]))) ev ht fun u v w pu' H' ρ' hR ev' p n => q1 pu' ρ' hR _ _ (ev'.step (stp_new ev'.vw n))
  obtain ⟨pu, ρ, P, ev, ht, q⟩ := z
  refine ⟨pu, ρ, P, ev, ht, fun pu1 d hd v H1 s1 r1 => ?_⟩
  obtain ⟨pu2, ρ2, P2, e2, t2, q2⟩ := q pu1 d hd v H1 s1 r1
  refine ⟨pu2, ρ2, P2, e2, t2, fun pu3 d2 hd2 w H3 s3 r3 => ?_⟩
  obtain ⟨pu4, ρ4, P4, e4, t4, q4⟩ := q2 pu3 d2 hd2 w H3 s3 r3
  exact ⟨pu4, ρ4, P4, e4, t4, fun pu5 d5 hd5 w5 H5 s5 r5 => ⟨by show 3 ≤ sizeLine; decide, fun p n => ⟨p, [v, w, w5], rfl, .inl (.inl upd_same), rfl, v, [w, w5], rfl, w, [w5], rfl, w5, [], rfl, rfl, q4 pu5 d5 hd5 w5 H5 s5 r5 p n⟩⟩⟩
end
end DL
/-! The head: facts of the written part, more of them by a decision of one's own. -/
namespace DL
open PySem PySem.Spec L2

section
variable {K : PySem.W.Frag}
/-- a class whose objects are told of -/
def clsB (K : PySem.W.Frag) (C : Addr) : Bool :=
  decide (PySem.W.findIn K (.ref C) "__class__" = some (some (.builtin "object.__class__"))) && (decide (PySem.W.specialIn K (.builtin "object.__class__") "__get__" = some (some (.builtin "getset_descriptor.__get__"))) &&
    (decide (PySem.W.takesIn K (.builtin "object.__class__") = some true) && (decide (PySem.W.mroIn K C (.type "object") = some true) &&
    (sevenT.all (fun n => decide (PySem.W.kitOne K (.type n) (.ref C) = some false)) && sixT.all (fun n => decide (PySem.W.kitOne K (.ref C) (.type n) = some false))))))
def eqB (K : PySem.W.Frag) (C : Addr) : Bool :=
  decide (PySem.W.findIn K (.ref C) "__ne__" = some (some (.builtin "object.__ne__"))) && (decide (PySem.W.subIn K (.ref C) (.type "object") = some true) &&
    (sevenT.all (fun n => PySem.W.notFirst K C (.type n)) && sevenT.all (fun n => decide (PySem.W.subIn K (.ref C) (.type n) = some false))))
theorem clsB_ok {C : Addr} (cl : Cls K C) (h : clsB K C = true) : ClsOk K C := by
  unfold clsB at h
  simp only [Bool.and_eq_true, decide_eq_true_eq, List.all_eq_true] at h
  obtain ⟨h1, h2, h3, h4, h5, h6⟩ := h
  exact ⟨cl, h1, h2, h3, h4, fun n hn => h5 n hn, fun n hn => h6 n hn⟩
theorem eqB_ok {C : Addr} (h : eqB K C = true) : EqC K C := by
  unfold eqB at h
  simp only [Bool.and_eq_true, decide_eq_true_eq, List.all_eq_true] at h
  obtain ⟨h1, h2, h3, h4⟩ := h
  exact ⟨h1, h2, fun n hn => h3 n hn, fun n hn => h4 n hn⟩
end
/-- .. of the classes cs, es -/
def exB (cs es : List Str) (K : PySem.W.Frag) : Bool := cs.all (fun x => clsB K (He.ga K x)) && es.all (fun x => eqB K (He.ga K x))
def obsE (n : Nat) (fa : List He.Fa) (fn : List He.DefD) (cs es : List Str) (g : Addr → Option Obj) : Bool × He.AlD := (exB cs es (He.frG g (He.asD g n)), He.obsD fa fn (He.frG g (He.asD g n)))
def hookE (n : Nat) (fa : List He.Fa) (fn : List He.DefD) (cs es : List Str) : PySem.W.Hook where
  α := Bool × He.AlD
  obs := fun s => obsE n fa fn cs es s.heap.get?
  val := fun _ => (true, He.valD fn)
  says := fun _ h => ∃ K : PySem.W.Frag, K.In h ∧ He.SaysD fa fn K ∧ exB cs es K = true
  of := fun _ _ e => ⟨_, He.frG_in, congrArg Prod.snd e, congrArg Prod.fst e⟩
  keeps := fun _ _ _ ⟨K, hK, c⟩ k => ⟨K, PySem.W.Frag.In.keeps hK k, c⟩
theorem obsE_eq {n : Nat} {fa : List He.Fa} {fn : List He.DefD} {cs es : List Str} {g : Addr → Option Obj} {s : Shared} (h : ∀ a, g a = s.heap.get? a) : obsE n fa fn cs es g = (hookE n fa fn cs es).obs s := by
  have e : g = s.heap.get? := funext h
  rw [e] <;> rfl
/-- the token of a constant of the module -/
def tokOf (mg : Str → Option Value) (x : Str) : Tok := match mg x with
  | some (.str _ t) => t
  | some (.int _ t) => t
  | _ => default
theorem tok_str {mg : Str → Option Value} {x z : Str} (h : ∃ t, mg x = some (.str z t)) : mg x = some (.str z (tokOf mg x)) := by
  obtain ⟨t, e⟩ := h
  unfold tokOf; rw [e]
theorem tok_int {mg : Str → Option Value} {x : Str} {i : Int} (h : ∃ t, mg x = some (.int i t)) : mg x = some (.int i (tokOf mg x)) := by
  obtain ⟨t, e⟩ := h
  unfold tokOf; rw [e]
/-- the law's promise -/
theorem law_sp {W : Wd} {F : FnD} (hF : ∀ ns : List Int, ns.length ≤ 63 → F 0 [.scr ns] (fun d _ => d = .bl true)) (H : Hp) (a : Addr) (ns : List Int) (hl : ns.length ≤ 63) (hS : SqL W.K H a (ns.map V.int)) : spD W [false] false F [.ref a] H (fun v _ => v = .bl true) fun _ _ _ => False := by
  refine ⟨⟨fun _ => false, 0⟩, fun _ => false, [.scr ns], _, fun _ z => by (cases z), fun _ z => by (cases z), ?_, hF ns hl, fun pu' d hd v H' rr => ?_⟩
  · refine ⟨.scr ns, [], .ref a, [], rfl, rfl, ?_, rfl, rfl⟩
    rw [if_neg Bool.false_ne_true]
    simp only [Rep]
    refine ⟨a, rfl, ?_⟩
    rcases hS with q | q
    · exact .inl ⟨rd_mono (fun o z => hid_of rfl z) q, trivial⟩
    · exact .inr q
  · subst hd
    unfold RetR at rr
    rw [if_neg Bool.false_ne_true] at rr
    obtain ⟨_, r⟩ := rr
    simpa only [Rep] using r
theorem FunD_same {K : PySem.W.Frag} {x qual : Str} {params : Arguments} {body : List Stmt} {scope : Scope} {dvs : List V} {kws : List (Str × V)} {f : Addr} {fd fd2 : FuncData} (D : FunD K x qual params body scope dvs kws f fd) (D2 : FunD K x qual params body scope dvs kws f fd2) : fd = fd2 := by
  obtain ⟨oc, od, dV, kV, doc, pm, an, cdv, ct, osl, e1, lk, _⟩ := D.ex
  obtain ⟨oc2, od2, dV2, kV2, doc2, pm2, an2, cdv2, ct2, osl2, e2, lk2, _⟩ := D2.ex
  rw [lk] at lk2
  injection lk2 with z
  injection z with _ _ z _
  injection z
end DL
namespace PL
open PySem PySem.Spec L2 DL

/-! ### loops -/
theorem forD_ind {g : Pat} {tb : TDS} {E : DEnds} {ds : List D} (I : Nat → Nat → List Sl → Prop)
    (step : ∀ (i : Nat) (d : D) (n : Nat) (ρ : List Sl) (K : Nat → List Sl → Prop), ds[i]? = some d → I i n ρ → (∀ n' ρ', I (i + 1) n' ρ' → K n' ρ') → tPat g d ρ fun ρ' => tb { nx := K, rt := E.rt, bk := E.nx, ct := K } n ρ')
    (fin : ∀ n ρ, I ds.length n ρ → E.nx n ρ) {n : Nat} {ρ : List Sl} (h0 : I 0 n ρ) : forD g tb ds E n ρ := by
  have key : ∀ (k : Nat) (rest : List D) (i n : Nat) (ρ : List Sl), rest.length = k → ds.drop i = rest → i + k = ds.length → I i n ρ → forD g tb rest E n ρ := by
    intro k
    induction k with
    | zero =>
      intro rest i n ρ hl he hi h
      cases rest with
      | nil => simp only [forD]; exact fin n ρ (by rw [← hi]; exact h)
      | cons _ _ => simp at hl
    | succ k ih =>
      intro rest i n ρ hl he hi h
      cases rest with
      | nil => simp at hl
      | cons d rest =>
        have e1 : ds[i]? = some d := by
          have := congrArg List.head? he
          rw [List.head?_drop] at this
          exact this
        have e2 : ds.drop (i + 1) = rest := by
          have := congrArg List.tail he
          rw [List.tail_drop] at this
          exact this
        simp only [forD]
        exact step i d n ρ _ e1 h fun n' ρ' h' => ih rest (i + 1) n' ρ' (by simpa using hl) e2 (by omega) h'
  exact key ds.length ds 0 n ρ rfl rfl (by omega) h0

/-! ### comprehensions -/
theorem lcGo_ind {g : Pat} {tt : TTD} {te : TD} {ρ0 : List Sl} {P : List D → Nat → Prop} {ds : List D} (hz : ds.length ≤ sizeLine) (I : Nat → List D → Nat → Prop)
    (step : ∀ (i : Nat) (d : D) (acc : List D) (n : Nat) (K : D → Nat → Prop) (K0 : Nat → Prop), ds[i]? = some d → I i acc n → (∀ y n', I (i + 1) (acc ++ [y]) n' → K y n') → (∀ n', I (i + 1) acc n' → K0 n') →
      tPat g d ρ0 fun ρ2 => tt n ρ2 fun b n1 => if b = true then te n1 ρ2 K else K0 n1)
    (fin : ∀ acc n, I ds.length acc n → P acc n) {n : Nat} (h0 : I 0 [] n) : lcGo g tt te ρ0 ds n [] P := by
  have key : ∀ (k : Nat) (rest : List D) (i n : Nat) (acc : List D), rest.length = k → ds.drop i = rest → i + k = ds.length → acc.length ≤ i → I i acc n → lcGo g tt te ρ0 rest n acc P := by
    intro k
    induction k with
    | zero =>
      intro rest i n acc hl he hi ha h
      cases rest with
      | nil => simp only [lcGo]; exact fin acc n (by rw [← hi]; exact h)
      | cons _ _ => simp at hl
    | succ k ih =>
      intro rest i n acc hl he hi ha h
      cases rest with
      | nil => simp at hl
      | cons d rest =>
        have e1 : ds[i]? = some d := by
          have := congrArg List.head? he
          rw [List.head?_drop] at this
          exact this
        have e2 : ds.drop (i + 1) = rest := by
          have := congrArg List.tail he
          rw [List.tail_drop] at this
          exact this
        simp only [lcGo]
        exact step i d acc n _ _ e1 h (fun y n' h' => ⟨by omega, ih rest (i + 1) n' (acc ++ [y]) (by simpa using hl) e2 (by omega) (by simp; omega) h'⟩) fun n' h' => ih rest (i + 1) n' acc (by simpa using hl) e2 (by omega) (by omega) h'
  exact key ds.length ds 0 n [] rfl rfl (by omega) (Nat.zero_le _) h0
/-- no test, no draw -/
theorem lcGo_map {α : Type} {g : Pat} {te : TD} {ρ0 : List Sl} {P : List D → Nat → Prop} {c f : α → D} {xs : List α} {n : Nat} (hz : xs.length ≤ sizeLine)
    (step : ∀ x ∈ xs, ∀ (K : D → Nat → Prop), K (f x) n → tPat g (c x) ρ0 fun ρ2 => te n ρ2 K) (h : P (xs.map f) n) : lcGo g tYesD te ρ0 (xs.map c) n [] P := by
  refine lcGo_ind (by simpa using hz) (fun i acc n' => n' = n ∧ acc = (xs.take i).map f) ?_ ?_ ⟨rfl, by simp⟩
  · intro i d acc n' K K0 hd ⟨hn, ha⟩ hK _
    subst hn ha
    rw [List.getElem?_map] at hd
    obtain ⟨x, hx, rfl⟩ := Option.map_eq_some_iff.mp hd
    have := step x (List.mem_of_getElem? hx) K (hK _ _ ⟨rfl, by rw [List.take_add_one, hx]; simp⟩)
    revert this
    simp only [tYesD, if_true]
    exact fun z => z
  · intro acc n' ⟨hn, ha⟩
    subst hn ha
    rw [List.length_map, List.take_length]
    exact h
/-- a test, no draw -/
theorem lcGo_filter {α : Type} {g : Pat} {tt : TTD} {te : TD} {ρ0 : List Sl} {P : List D → Nat → Prop} {c f : α → D} {p : α → Bool} {xs : List α} {n : Nat} (hz : xs.length ≤ sizeLine)
    (step : ∀ x ∈ xs, ∀ (K : D → Nat → Prop) (K0 : Nat → Prop), (p x = true → K (f x) n) → (p x = false → K0 n) → tPat g (c x) ρ0 fun ρ2 => tt n ρ2 fun b n1 => if b = true then te n1 ρ2 K else K0 n1) (h : P ((xs.filter p).map f) n) : lcGo g tt te ρ0 (xs.map c) n [] P := by
  refine lcGo_ind (by simpa using hz) (fun i acc n' => n' = n ∧ acc = ((xs.take i).filter p).map f) ?_ ?_ ⟨rfl, by simp⟩
  · intro i d acc n' K K0 hd ⟨hn, ha⟩ hK hK0
    subst hn ha
    rw [List.getElem?_map] at hd
    obtain ⟨x, hx, rfl⟩ := Option.map_eq_some_iff.mp hd
    refine step x (List.mem_of_getElem? hx) K K0 (fun hp => hK _ _ ⟨rfl, ?_⟩) (fun hp => hK0 _ ⟨rfl, ?_⟩)
    · rw [List.take_add_one, hx]; simp [hp]
    · rw [List.take_add_one, hx]; simp [hp]
  · intro acc n' ⟨hn, ha⟩
    subst hn ha
    rw [List.length_map, List.take_length]
    exact h
/-- no test, draws -/
theorem lcGo_draw {α β : Type} {g : Pat} {te : TD} {ρ0 : List Sl} {P : List D → Nat → Prop} {c : α → D} {c' : β → D} {G : α → β → Prop} {xs : List α} {n : Nat} (cost lim : Nat) (hz : xs.length ≤ sizeLine)
    (step : ∀ x ∈ xs, ∀ (n : Nat) (K : D → Nat → Prop), n + cost ≤ lim → (∀ y n', G x y → n' ≤ n + cost → K (c' y) n') → tPat g (c x) ρ0 fun ρ2 => te n ρ2 K) (hl : n + cost * xs.length ≤ lim)
    (h : ∀ (ys : List β) n', ys.length = xs.length → (∀ (i : Nat) x y, xs[i]? = some x → ys[i]? = some y → G x y) → n' ≤ n + cost * xs.length → P (ys.map c') n') : lcGo g tYesD te ρ0 (xs.map c) n [] P := by
  refine lcGo_ind (by simpa using hz) (fun i acc n' => n' ≤ n + cost * i ∧ ∃ ys : List β, acc = ys.map c' ∧ ys.length = i ∧ ∀ (i : Nat) x y, xs[i]? = some x → ys[i]? = some y → G x y) ?_ ?_ ⟨by simp, [], rfl, rfl, fun i x y _ h => by simp at h⟩
  · intro i d acc n' K K0 hd ⟨hn, ys, ha, hy, hG⟩ hK _
    subst ha
    rw [List.getElem?_map] at hd
    obtain ⟨x, hx, rfl⟩ := Option.map_eq_some_iff.mp hd
    have hi : i < xs.length := by
      obtain ⟨z, _⟩ := List.getElem?_eq_some_iff.mp hx
      exact z
    have hm : cost * i + cost ≤ cost * xs.length := by
      have := Nat.mul_le_mul_left cost (show i + 1 ≤ xs.length from hi)
      rw [Nat.mul_add, Nat.mul_one] at this
      exact this
    have := step x (List.mem_of_getElem? hx) n' K (by omega) (fun y n'' hy' hn' => hK _ _ ⟨by rw [Nat.mul_add, Nat.mul_one]; omega, ys ++ [y], by simp, by simp [hy], fun j x' y' hx' hy'' => by
      rw [List.getElem?_append] at hy''
      split at hy''
      · exact hG j x' y' hx' hy''
      · rename_i hj
        have hj2 : j - ys.length = 0 := by
          cases e : j - ys.length with
          | zero => rfl
          | succ m => rw [e] at hy''; simp at hy''
        have : j = i := by omega
        subst this
        rw [hx] at hx'; cases hx'
        rw [hj2] at hy''; simp at hy''; subst hy''
        exact hy'⟩)
    revert this
    simp only [tYesD, if_true]
    exact fun z => z
  · intro acc n' ⟨hn, ys, ha, hy, hG⟩
    subst ha
    rw [List.length_map] at hn hy
    exact h ys n' hy hG hn

/-! ### lists of texts, of ints -/
abbrev lS (xs : List Str) : D := .lst (xs.map D.str)
abbrev lI (xs : List Int) : D := .lst (xs.map D.int)
theorem toPys_strs : ∀ xs : List Str, toPys (xs.map D.str) = some (xs.map PyData.str)
  | [] => rfl
  | x :: xs => by simp only [List.map_cons, toPys, toPy, toPys_strs xs]
theorem toPys_ints : ∀ xs : List Int, toPys (xs.map D.int) = some (xs.map PyData.int)
  | [] => rfl
  | x :: xs => by simp only [List.map_cons, toPys, toPy, toPys_ints xs]
theorem flats_strs : ∀ xs : List Str, flatDs (xs.map D.str) = some (xs.map V.str)
  | [] => rfl
  | x :: xs => by simp only [List.map_cons, flatDs, flatD, flats_strs xs]
theorem keys_strs : ∀ xs : List Str, keysK (xs.map D.str) = some (xs.map Sum.inr)
  | [] => rfl
  | x :: xs => by simp only [List.map_cons, keysK, keyK, keys_strs xs]
theorem strsD_strs : ∀ xs : List Str, strsD (xs.map D.str) = some xs
  | [] => rfl
  | x :: xs => by simp [strsD, strsD_strs xs]
theorem intsD_ints : ∀ xs : List Int, intsD (xs.map D.int) = some xs
  | [] => rfl
  | x :: xs => by simp [intsD, intsD_ints xs]
theorem blsD_bls : ∀ xs : List Bool, blsD (xs.map D.bl) = some xs
  | [] => rfl
  | x :: xs => by simp [blsD, blsD_bls xs]
def okS (x : Str) : Bool := PyData.canLay0 (.str x)
theorem canLay_strs : ∀ {xs : List Str}, (∀ x ∈ xs, okS x = true) → PyData.canLayAll0 (xs.map PyData.str) = true
  | [], _ => rfl
  | x :: xs, h => by
    rw [List.map_cons, PyData.canLayAll0, Bool.and_eq_true]
    exact ⟨h x List.mem_cons_self, canLay_strs fun y hy => h y (List.mem_cons_of_mem _ hy)⟩
theorem depth_strs : ∀ xs : List Str, PyData.depthAll (xs.map PyData.str) = 0
  | [] => rfl
  | x :: xs => by rw [List.map_cons, PyData.depthAll, depth_strs xs]; rfl
theorem shaped_str {x : Str} (h : okS x = true) : SeqAt.shaped (.str x) = true := by
  unfold SeqAt.shaped
  rw [show PyData.canLay0 (.str x) = true from h]
  rfl
theorem shaped_strs {xs : List Str} (h : ∀ x ∈ xs, okS x = true) : SeqAt.shaped (.list (xs.map PyData.str)) = true := by
  unfold SeqAt.shaped
  rw [PyData.canLay0, canLay_strs h, PyData.depth, depth_strs]
  rfl
theorem eqv_strs (xs ys : List Str) : PyData.eqv (.list (xs.map PyData.str)) (.list (ys.map PyData.str)) = decide (xs = ys) := PySem.W.Datum.eqv xs ys
theorem eqv_str (x y : Str) : PyData.eqv (.str x) (.str y) = decide (x = y) := PySem.W.Datum.eqv x y
theorem eqA_strs {xs ys : List Str} {Q : Bool → Prop} (hx : ∀ x ∈ xs, okS x = true) (hy : ∀ x ∈ ys, okS x = true) (q : Q (decide (xs = ys))) : eqA (lS xs) (lS ys) Q := by
  unfold eqA
  simp only [toPy, toPys_strs, Option.map_some]
  exact ⟨shaped_strs hx, shaped_strs hy, by rw [eqv_strs]; exact q⟩
theorem eqA_str {x y : Str} {Q : Bool → Prop} (hx : okS x = true) (hy : okS y = true) (q : Q (decide (x = y))) : eqA (.str x) (.str y) Q := by
  unfold eqA
  simp only [toPy]
  exact ⟨shaped_str hx, shaped_str hy, by rw [eqv_str]; exact q⟩
theorem eqA_int {x y : Int} {Q : Bool → Prop} (q : Q (decide (x = y))) : eqA (.int x) (.int y) Q := by
  unfold eqA
  simp only [toPy]
  exact ⟨rfl, rfl, by rw [show PyData.eqv (.int x) (.int y) = decide (x = y) from PySem.W.Datum.eqv x y]; exact q⟩
theorem eqA_bl {x y : Bool} {Q : Bool → Prop} (q : Q (decide (x = y))) : eqA (.bl x) (.bl y) Q := by
  unfold eqA
  simp only [toPy]
  exact ⟨rfl, rfl, by rw [show PyData.eqv (.bool x) (.bool y) = decide (x = y) from PySem.W.Datum.eqv x y]; exact q⟩
theorem any_strs (x : Str) : ∀ xs : List Str, ((xs.map PyData.str).any fun z => PyData.eqv z (.str x)) = decide (x ∈ xs)
  | [] => by simp
  | y :: ys => by
    rw [List.map_cons, List.any_cons, any_strs x ys, eqv_str, ← Bool.decide_or]
    exact decide_eq_decide.mpr (by rw [List.mem_cons, eq_comm (a := x)])
theorem inA_strs {x : Str} {xs : List Str} {Q : Bool → Prop} (hx : okS x = true) (hy : ∀ x ∈ xs, okS x = true) (q : Q (decide (x ∈ xs))) : inA (.str x) (lS xs) Q := by
  unfold inA
  simp only [toPy, toPys_strs]
  exact ⟨shaped_str hx, shaped_strs hy, by rw [any_strs]; exact q⟩
/-- plain data of a small depth, lists not long -/
def plainB : Nat → D → Bool
  | 0, .non => true
  | 0, .bl _ => true
  | 0, .int _ => true
  | 0, .str x => okS x
  | k + 1, .lst ds => decide (ds.length ≤ 100000) && ds.all (plainB k)
  | k + 1, .tup ds => decide (ds.length ≤ 100000) && ds.all (plainB k)
  | k + 1, d => plainB k d
  | 0, _ => false
theorem plain_lst {k : Nat} {ds : List D} (hl : ds.length ≤ 100000) (h : ∀ d ∈ ds, plainB k d = true) : plainB (k + 1) (.lst ds) = true := by
  simp only [plainB, Bool.and_eq_true, decide_eq_true_eq, List.all_eq_true]
  exact ⟨hl, h⟩
theorem plain_up : ∀ (k : Nat) (d : D), plainB k d = true → plainB (k + 1) d = true
  | 0, d, h => by cases d <;> simp_all [plainB]
  | k + 1, d, h => by
    cases d with
    | lst ds =>
      simp only [plainB, Bool.and_eq_true, List.all_eq_true] at h ⊢
      exact ⟨h.1, fun x hx => plain_up k x (h.2 x hx)⟩
    | tup ds =>
      simp only [plainB, Bool.and_eq_true, List.all_eq_true] at h ⊢
      exact ⟨h.1, fun x hx => plain_up k x (h.2 x hx)⟩
    | _ => simpa [plainB] using h
theorem plain_le {k m : Nat} {d : D} (h : plainB k d = true) (hm : k ≤ m) : plainB m d = true := by
  induction hm with
  | refl => exact h
  | step _ ih => exact plain_up _ _ ih
theorem plain_int {k : Nat} {i : Int} : plainB k (.int i) = true := plain_le (k := 0) rfl (Nat.zero_le _)
theorem plain_bl {k : Nat} {i : Bool} : plainB k (.bl i) = true := plain_le (k := 0) rfl (Nat.zero_le _)
theorem plain_str {k : Nat} {x : Str} (h : okS x = true) : plainB k (.str x) = true := plain_le (k := 0) h (Nat.zero_le _)
theorem plain_lS {k : Nat} {xs : List Str} (hl : xs.length ≤ 100000) (h : ∀ x ∈ xs, okS x = true) : plainB (k + 1) (lS xs) = true :=
  plain_lst (by rw [List.length_map]; exact hl) fun d hd => by
    obtain ⟨x, hx, rfl⟩ := List.mem_map.mp hd
    exact plain_str (h x hx)
theorem plain_lI {k : Nat} {xs : List Int} (hl : xs.length ≤ 100000) : plainB (k + 1) (lI xs) = true :=
  plain_lst (by rw [List.length_map]; exact hl) fun d hd => by
    obtain ⟨x, hx, rfl⟩ := List.mem_map.mp hd
    exact plain_int
theorem zip_self {α : Type} : ∀ xs : List α, xs.zip xs = xs.map fun x => (x, x)
  | [] => rfl
  | x :: xs => by rw [List.zip_cons_cons, zip_self xs]; rfl
theorem zipD_self (ds : List D) : zipD ds ds = ds.map fun d => .tup [d, d] := by
  unfold zipD
  rw [zip_self, List.map_map]
  rfl
mutual
theorem toPy_plain : ∀ (k : Nat) (d : D), plainB k d = true → ∃ p, toPy d = some p ∧ p.canLay0 = true ∧ p.depth ≤ k ∧ p.plain = true
  | k, .non, _ => ⟨_, rfl, rfl, Nat.zero_le _, rfl⟩
  | k, .bl _, _ => ⟨_, rfl, rfl, Nat.zero_le _, rfl⟩
  | k, .int _, _ => ⟨_, rfl, rfl, Nat.zero_le _, rfl⟩
  | k, .str x, h => ⟨_, rfl, by
      have : ∀ k, plainB k (.str x) = true → okS x = true := fun k => by
        induction k with
        | zero => exact id
        | succ k ih => exact ih
      exact this k h, Nat.zero_le _, rfl⟩
  | k + 1, .lst ds, h => by
    simp only [plainB, Bool.and_eq_true, List.all_eq_true] at h
    obtain ⟨ps, e, h1, h2, h3⟩ := toPys_plain k ds h.2
    exact ⟨.list ps, by simp only [toPy, e, Option.map_some], h1, by simp only [PyData.depth]; omega, h3⟩
  | k + 1, .tup ds, h => by
    simp only [plainB, Bool.and_eq_true, List.all_eq_true] at h
    obtain ⟨ps, e, h1, h2, h3⟩ := toPys_plain k ds h.2
    exact ⟨.tuple ps, by simp only [toPy, e, Option.map_some], h1, by simp only [PyData.depth]; omega, h3⟩
  | 0, .lst _, h => by simp [plainB] at h
  | 0, .tup _, h => by simp [plainB] at h
  | k, .dct _ _, h => by
    have : ∀ k, plainB k (.dct ‹_› ‹_›) = false := fun k => by
      induction k with
      | zero => rfl
      | succ k ih => exact ih
    rw [this] at h; cases h
  | k, .obj _ _ _, h => by
    have : ∀ k, plainB k (.obj ‹_› ‹_› ‹_›) = false := fun k => by
      induction k with
      | zero => rfl
      | succ k ih => exact ih
    rw [this] at h; cases h
  | k, .purse, h => by
    have : ∀ k, plainB k .purse = false := fun k => by
      induction k with
      | zero => rfl
      | succ k ih => exact ih
    rw [this] at h; cases h
  | k, .ty x, h => by
    have : ∀ k, plainB k (.ty x) = false := fun k => by
      induction k with
      | zero => rfl
      | succ k ih => exact ih
    rw [this] at h; cases h
  | k, .cl x, h => by
    have : ∀ k, plainB k (.cl x) = false := fun k => by
      induction k with
      | zero => rfl
      | succ k ih => exact ih
    rw [this] at h; cases h
  | k, .scr x, h => by
    have : ∀ k, plainB k (.scr x) = false := fun k => by
      induction k with
      | zero => rfl
      | succ k ih => exact ih
    rw [this] at h; cases h
theorem toPys_plain : ∀ (k : Nat) (ds : List D), (∀ d ∈ ds, plainB k d = true) → ∃ ps, toPys ds = some ps ∧ PyData.canLayAll0 ps = true ∧ PyData.depthAll ps ≤ k ∧ PyData.plainAll ps = true
  | k, [], _ => ⟨[], rfl, rfl, Nat.zero_le _, rfl⟩
  | k, d :: ds, h => by
    obtain ⟨p, e, h1, h2, h3⟩ := toPy_plain k d (h d List.mem_cons_self)
    obtain ⟨ps, e', h1', h2', h3'⟩ := toPys_plain k ds fun x hx => h x (List.mem_cons_of_mem _ hx)
    exact ⟨p :: ps, by simp only [toPys, e, e'], by rw [PyData.canLayAll0, h1, h1']; rfl, by rw [PyData.depthAll]; omega, by rw [PyData.plainAll, h3, h3']; rfl⟩
end
theorem eqA_self {k : Nat} {d : D} {Q : Bool → Prop} (h : plainB k d = true) (hk : k ≤ 64) (q : Q true) : eqA d d Q := by
  obtain ⟨p, e, h1, h2, h3⟩ := toPy_plain k d h
  unfold eqA
  rw [e]
  have hs : SeqAt.shaped p = true := by
    unfold SeqAt.shaped
    rw [h1, Bool.true_and, decide_eq_true_eq]
    omega
  exact ⟨hs, hs, by rw [PySem.SeqAt.eqv_refl_plain p h3]; exact q⟩
end PL
namespace PL
open PySem PySem.Spec L2 DL
theorem isi_bool_non : isiA .non (.ty "bool") = some false := rfl
theorem isi_bool_bl {b : Bool} : isiA (.bl b) (.ty "bool") = some true := rfl
theorem isi_bool_int {i : Int} : isiA (.int i) (.ty "bool") = some false := rfl
theorem isi_bool_str {s : Str} : isiA (.str s) (.ty "bool") = some false := rfl
theorem isi_bool_lst {ds : List D} : isiA (.lst ds) (.ty "bool") = some false := rfl
theorem isi_bool_tup {ds : List D} : isiA (.tup ds) (.ty "bool") = some false := rfl
theorem isi_bool_dct {ks : List DKey} {ds : List D} : isiA (.dct ks ds) (.ty "bool") = some false := rfl
theorem isi_bool_obj {c : Str} {ns : List Str} {ds : List D} : isiA (.obj c ns ds) (.ty "bool") = some false := rfl
theorem isi_int_non : isiA .non (.ty "int") = some false := rfl
theorem isi_int_bl {b : Bool} : isiA (.bl b) (.ty "int") = some true := rfl
theorem isi_int_int {i : Int} : isiA (.int i) (.ty "int") = some true := rfl
theorem isi_int_str {s : Str} : isiA (.str s) (.ty "int") = some false := rfl
theorem isi_int_lst {ds : List D} : isiA (.lst ds) (.ty "int") = some false := rfl
theorem isi_int_tup {ds : List D} : isiA (.tup ds) (.ty "int") = some false := rfl
theorem isi_int_dct {ks : List DKey} {ds : List D} : isiA (.dct ks ds) (.ty "int") = some false := rfl
theorem isi_int_obj {c : Str} {ns : List Str} {ds : List D} : isiA (.obj c ns ds) (.ty "int") = some false := rfl
theorem isi_str_non : isiA .non (.ty "str") = some false := rfl
theorem isi_str_bl {b : Bool} : isiA (.bl b) (.ty "str") = some false := rfl
theorem isi_str_int {i : Int} : isiA (.int i) (.ty "str") = some false := rfl
theorem isi_str_str {s : Str} : isiA (.str s) (.ty "str") = some true := rfl
theorem isi_str_lst {ds : List D} : isiA (.lst ds) (.ty "str") = some false := rfl
theorem isi_str_tup {ds : List D} : isiA (.tup ds) (.ty "str") = some false := rfl
theorem isi_str_dct {ks : List DKey} {ds : List D} : isiA (.dct ks ds) (.ty "str") = some false := rfl
theorem isi_str_obj {c : Str} {ns : List Str} {ds : List D} : isiA (.obj c ns ds) (.ty "str") = some false := rfl
theorem isi_list_non : isiA .non (.ty "list") = some false := rfl
theorem isi_list_bl {b : Bool} : isiA (.bl b) (.ty "list") = some false := rfl
theorem isi_list_int {i : Int} : isiA (.int i) (.ty "list") = some false := rfl
theorem isi_list_str {s : Str} : isiA (.str s) (.ty "list") = some false := rfl
theorem isi_list_lst {ds : List D} : isiA (.lst ds) (.ty "list") = some true := rfl
theorem isi_list_tup {ds : List D} : isiA (.tup ds) (.ty "list") = some false := rfl
theorem isi_list_dct {ks : List DKey} {ds : List D} : isiA (.dct ks ds) (.ty "list") = some false := rfl
theorem isi_list_obj {c : Str} {ns : List Str} {ds : List D} : isiA (.obj c ns ds) (.ty "list") = some false := rfl
theorem isi_tuple_non : isiA .non (.ty "tuple") = some false := rfl
theorem isi_tuple_bl {b : Bool} : isiA (.bl b) (.ty "tuple") = some false := rfl
theorem isi_tuple_int {i : Int} : isiA (.int i) (.ty "tuple") = some false := rfl
theorem isi_tuple_str {s : Str} : isiA (.str s) (.ty "tuple") = some false := rfl
theorem isi_tuple_lst {ds : List D} : isiA (.lst ds) (.ty "tuple") = some false := rfl
theorem isi_tuple_tup {ds : List D} : isiA (.tup ds) (.ty "tuple") = some true := rfl
theorem isi_tuple_dct {ks : List DKey} {ds : List D} : isiA (.dct ks ds) (.ty "tuple") = some false := rfl
theorem isi_tuple_obj {c : Str} {ns : List Str} {ds : List D} : isiA (.obj c ns ds) (.ty "tuple") = some false := rfl
theorem isi_dict_non : isiA .non (.ty "dict") = some false := rfl
theorem isi_dict_bl {b : Bool} : isiA (.bl b) (.ty "dict") = some false := rfl
theorem isi_dict_int {i : Int} : isiA (.int i) (.ty "dict") = some false := rfl
theorem isi_dict_str {s : Str} : isiA (.str s) (.ty "dict") = some false := rfl
theorem isi_dict_lst {ds : List D} : isiA (.lst ds) (.ty "dict") = some false := rfl
theorem isi_dict_tup {ds : List D} : isiA (.tup ds) (.ty "dict") = some false := rfl
theorem isi_dict_dct {ks : List DKey} {ds : List D} : isiA (.dct ks ds) (.ty "dict") = some true := rfl
theorem isi_dict_obj {c : Str} {ns : List Str} {ds : List D} : isiA (.obj c ns ds) (.ty "dict") = some false := rfl
theorem isi_cl_non {k : Str} : isiA .non (.cl k) = some false := rfl
theorem isi_cl_bl {b : Bool} {k : Str} : isiA (.bl b) (.cl k) = some false := rfl
theorem isi_cl_int {i : Int} {k : Str} : isiA (.int i) (.cl k) = some false := rfl
theorem isi_cl_str {s : Str} {k : Str} : isiA (.str s) (.cl k) = some false := rfl
theorem isi_cl_lst {ds : List D} {k : Str} : isiA (.lst ds) (.cl k) = some false := rfl
theorem isi_cl_tup {ds : List D} {k : Str} : isiA (.tup ds) (.cl k) = some false := rfl
theorem isi_cl_dct {ks : List DKey} {ds : List D} {k : Str} : isiA (.dct ks ds) (.cl k) = some false := rfl
theorem isi_own {c : Str} {ns : List Str} {ds : List D} : isiA (.obj c ns ds) (.cl c) = some true := by simp [isiA]
theorem ixE_lst {ds : List D} {y : D} {P : D → Prop} : ixE (.lst ds) y P = (ixD (.lst ds) y P) := rfl
theorem ixE_tup {ds : List D} {y : D} {P : D → Prop} : ixE (.tup ds) y P = (ixD (.tup ds) y P) := rfl
theorem ixE_str {s : Str} {y : D} {P : D → Prop} : ixE (.str s) y P = (ixD (.str s) y P) := rfl
theorem inE_lst {ds : List D} {x : D} {P : D → Prop} : inE x (.lst ds) P = (inA x (.lst ds) fun b => P (.bl b)) := rfl
theorem inE_tup {ds : List D} {x : D} {P : D → Prop} : inE x (.tup ds) P = (inA x (.tup ds) fun b => P (.bl b)) := rfl
theorem inE_str {s : Str} {x : D} {P : D → Prop} : inE x (.str s) P = (inA x (.str s) fun b => P (.bl b)) := rfl
theorem ninE_lst {ds : List D} {x : D} {P : D → Prop} : ninE x (.lst ds) P = (inA x (.lst ds) fun b => P (.bl (!b))) := rfl
theorem ninE_tup {ds : List D} {x : D} {P : D → Prop} : ninE x (.tup ds) P = (inA x (.tup ds) fun b => P (.bl (!b))) := rfl
theorem ninE_str {s : Str} {x : D} {P : D → Prop} : ninE x (.str s) P = (inA x (.str s) fun b => P (.bl (!b))) := rfl
def metQ (cn m : Str) (F : FnD) (d : D) (n : Nat) (Q : D → Nat → Prop) : Prop := match d with
  | .obj c ns ds => c = cn ∧ (ns.contains m) = false ∧ F n [.obj c ns ds] Q
  | _ => False
theorem tMetD_eq (cn m : Str) (F : FnD) (to : TD) : tMetD cn m F to tNilA = fun n ρ Q => to n ρ fun d n1 => metQ cn m F d n1 Q := rfl
theorem listE_lst {ds : List D} {P : D → Prop} : (listE [.lst ds] P) = (P (.lst ds)) := rfl
theorem listE_tup {ds : List D} {P : D → Prop} : (listE [.tup ds] P) = (P (.lst ds)) := rfl
theorem listE_str {s : Str} {P : D → Prop} : (listE [.str s] P) = ((s.cps.size ≤ sizeLine ∧ P (.lst (signsD s)))) := rfl
theorem lenD_lst {ds : List D} {P : D → Prop} : (lenD [.lst ds] P) = (P (.int ds.length)) := rfl
theorem lenD_tup {ds : List D} {P : D → Prop} : (lenD [.tup ds] P) = (P (.int ds.length)) := rfl
theorem lenD_str {s : Str} {P : D → Prop} : (lenD [.str s] P) = ((s.length ≤ sizeLine ∧ P (.int s.length))) := rfl
theorem lenD_scr {ns : List Int} {P : D → Prop} : (lenD [.scr ns] P) = (P (.int ns.length)) := rfl
theorem addD_int {i j : Int} {P : D → Prop} : (addD (.int i) (.int j) P) = (P (.int (i + j))) := rfl
theorem addD_str {a b : Str} {P : D → Prop} : (addD (.str a) (.str b) P) = ((a.length + b.length ≤ sizeLine ∧ P (.str (a ++ b)))) := rfl
theorem addD_lst {a b : List D} {P : D → Prop} : (addD (.lst a) (.lst b) P) = ((a.length + b.length ≤ sizeLine ∧ P (.lst (a ++ b)))) := rfl
theorem addD_tup {a b : List D} {P : D → Prop} : (addD (.tup a) (.tup b) P) = ((a.length + b.length ≤ sizeLine ∧ P (.tup (a ++ b)))) := rfl
theorem catD_lst {a b : List D} {P : D → Prop} : (catD (.lst a) (.lst b) P) = ((a.length + b.length ≤ sizeLine ∧ P (.lst (a ++ b)))) := rfl
theorem intA_int {g : Int → Int → Int} {i j : Int} {P : D → Prop} : (intA g (.int i) (.int j) P) = (P (.int (g i j))) := rfl
theorem intC_int {C : Int → Int → Prop} {g : Int → Int → Int} {i j : Int} {P : D → Prop} : (intC C g (.int i) (.int j) P) = ((C i j ∧ P (.int (g i j)))) := rfl
theorem cmpA_int {g : Int → Int → Bool} {i j : Int} {P : D → Prop} : (cmpA g (.int i) (.int j) P) = (P (.bl (g i j))) := rfl
theorem ltD_int {i j : Int} {P : D → Prop} : (ltD (.int i) (.int j) P) = (P (.bl (decide (i < j)))) := rfl
theorem ltD_str {i j : Str} {P : D → Prop} : (ltD (.str i) (.str j) P) = (P (.bl (decide (i.cps.toList < j.cps.toList)))) := rfl
theorem intD_int {i : Int} {P : D → Prop} : (intD [.int i] P) = (P (.int i)) := rfl
theorem intD_bl {k : Bool} {P : D → Prop} : (intD [.bl k] P) = (P (.int (if k then 1 else 0))) := rfl
theorem slD_lst {ds : List D} {l u : Option Int} {P : D → Prop} : (slD (.lst ds) l u P) = (P (.lst (cutD ds l u))) := rfl
theorem slD_tup {ds : List D} {l u : Option Int} {P : D → Prop} : (slD (.tup ds) l u P) = (P (.tup (cutD ds l u))) := rfl
theorem slD_scr {ns : List Int} {l u : Option Int} {P : D → Prop} : (slD (.scr ns) l u P) = (P (.lst (cutD (ns.map D.int) l u))) := rfl
theorem slD_str {s : Str} {l u : Option Int} {P : D → Prop} : (slD (.str s) l u P) = ((s.length ≤ sizeLine ∧ P (.str (cutS s l u)))) := rfl
theorem minD_two {i j : Int} {P : D → Prop} : (minD [.int i, .int j] P) = (P (.int (if j < i then j else i))) := rfl
theorem maxD_two {i j : Int} {P : D → Prop} : (maxD [.int i, .int j] P) = (P (.int (if j > i then j else i))) := rfl
theorem ixD_zero {x : D} {r : List D} {P : D → Prop} : ixD (.lst (x :: r)) (.int 0) P = P x := by
  show optD (L2.atI (x :: r) 0) P = P x
  unfold L2.atI ixN
  rw [if_pos (by decide), if_pos (by rw [List.length_cons]; omega)]
  rfl
theorem ixD_one {x y : D} {r : List D} {P : D → Prop} : ixD (.lst (x :: y :: r)) (.int 1) P = P y := by
  show optD (L2.atI (x :: y :: r) 1) P = P y
  unfold L2.atI ixN
  rw [if_pos (by decide), if_pos (by rw [List.length_cons, List.length_cons]; omega)]
  rfl
local macro_rules | `(tactic| law_fe) => `(tactic| simp only [tSeqD, tIfD, tSetD, tSetO, tRetD, tRetO, tNextD, tDropD, tNeverD, tBreakD, tForD, tLcD, tDcD, tItL, tItT, tItS, tRng1, tRng2, rngA1, rngA2, tEnum, enA, tZip, zpA, t2, t2N, tTst, tNotD, tOrD, tAndD, tAndVD, tOrVD, tNotVD, tIfE, tChnD, tVarD, tVarK, tCD, DL.tCall, tConsA, tConsK, tNilA, tFn, tMet, tMetD_eq, tMutD, tMutV, tFz, frzs, frz1, tLstD, tTupD, slot, startD, tPurIx, tPurSet, tBitsD, tParD, mkS, tMoveD, tAsgD, tPat, setShs, tSlD, tPartD, tNoD, tLenSetD, tRevD, tSetFld, tFldD, selfQ, allD, anyD, tSwapD, tSetIx, tUnD, tRetPur, purA, wipeD, lend, isStrB, isLst, DL.isObj, subD, mulD, modD, divD, powBD, gtD, leD, geD, joinD, sumD, optD, isinD, isiAs, optB, Bool.or_false, Bool.or_true, Bool.false_or, Bool.true_or, Bool.not_true, Bool.not_false, Option.some.injEq, isi_bool_non, isi_bool_bl, isi_bool_int, isi_bool_str, isi_bool_lst, isi_bool_tup, isi_bool_dct, isi_bool_obj, isi_int_non, isi_int_bl, isi_int_int, isi_int_str, isi_int_lst, isi_int_tup, isi_int_dct, isi_int_obj, isi_str_non, isi_str_bl, isi_str_int, isi_str_str, isi_str_lst, isi_str_tup, isi_str_dct, isi_str_obj, isi_list_non, isi_list_bl, isi_list_int, isi_list_str, isi_list_lst, isi_list_tup, isi_list_dct, isi_list_obj, isi_tuple_non, isi_tuple_bl, isi_tuple_int, isi_tuple_str, isi_tuple_lst, isi_tuple_tup, isi_tuple_dct, isi_tuple_obj, isi_dict_non, isi_dict_bl, isi_dict_int, isi_dict_str, isi_dict_lst, isi_dict_tup, isi_dict_dct, isi_dict_obj, isi_cl_non, isi_cl_bl, isi_cl_int, isi_cl_str, isi_cl_lst, isi_cl_tup, isi_cl_dct, isi_own, eqD, neD, ixE_lst, ixE_tup, ixE_str, inE_lst, inE_tup, inE_str, ninE_lst, ninE_tup, ninE_str, appendM, insertM, reverseM, clearM, keyA, keyK, List.set, List.length_cons, List.length_nil, List.replicate, List.cons_append, List.nil_append, List.append_nil, Bool.false_eq_true, if_false, if_true, true_and, and_true, true_or, or_true, listE_lst, listE_tup, listE_str, lenD_lst, lenD_tup, lenD_str, lenD_scr, addD_int, addD_str, addD_lst, addD_tup, catD_lst, intA_int, intC_int, cmpA_int, ltD_int, ltD_str, intD_int, intD_bl, slD_lst, slD_tup, slD_scr, slD_str, minD_two, maxD_two, ixD_zero, ixD_one, false_or, or_false, Int.reduceEq, false_implies, true_implies, implies_true])
/-- the letters -/
theorem bits26 {m : Int} (h0 : 0 < m) (h1 : m < 2 ^ 26) : Builtin.Int.intBits m < 28 := by
  unfold Builtin.Int.intBits
  split
  · omega
  · have h : m.natAbs.log2 < 26 := (Nat.log2_lt (by omega)).mpr (by omega)
    omega
theorem sortA_strs {xs : List Str} {P : D → Prop} (hz : xs.length < 64) (h : ∀ ys : List Str, ys.Perm xs → PyProof.Rows.sortedS ys = true → P (lS ys)) : sortA (xs.map D.str) P := by
  unfold sortA
  cases xs with
  | nil =>
    simp only [List.map_nil, intsD]
    intro ns hp _
    have := hp.eq_nil
    subst this
    exact h [] (List.Perm.refl _) rfl
  | cons x xs =>
    rw [strsD_strs]
    simp only [List.map_cons, intsD]
    exact ⟨hz, h⟩
theorem sortedD_strs {xs : List Str} {P : D → Prop} (hz : xs.length < 64) (h : ∀ ys : List Str, ys.Perm xs → PyProof.Rows.sortedS ys = true → P (lS ys)) : sortedD [lS xs] P := sortA_strs hz h
theorem dist_of {κ : Type} [DecidableEq κ] (f : Nat → κ) : ∀ n, (∀ i j, i < j → j < n → f i ≠ f j) → DLS.dist f n = n
  | 0, _ => rfl
  | n + 1, h => by
    have hs : ∀ m k, (∀ i, i < m → f i ≠ k) → DLS.seen f m k = false := by
      intro m k hm
      induction m with
      | zero => rfl
      | succ m ih =>
        simp only [DLS.seen]
        rw [ih fun i hi => hm i (by omega)]
        have := hm m (by omega)
        simpa using fun e => this e.symm
    simp only [DLS.dist]
    rw [hs n (f n) fun i hi => h i n hi (by omega), dist_of f n fun i j h1 h2 => h i j h1 (by omega)]
    rfl
theorem dcount_nodup {ks : List Key} (h : ks.Nodup) : dcount ks = ks.length := by
  unfold dcount
  refine dist_of _ _ fun i j hi hj e => ?_
  have h1 : i < ks.length := by omega
  rw [List.getD_eq_getElem?_getD, List.getD_eq_getElem?_getD, List.getElem?_eq_getElem h1, List.getElem?_eq_getElem hj] at e
  exact (List.pairwise_iff_getElem.mp (List.nodup_iff_pairwise_ne.mp h)) i j h1 hj hi e
theorem put_new {kvs : List (Key × D)} {k : Key} {v : D} (h : k ∉ kvs.map (·.1)) : putKD kvs k v = kvs ++ [(k, v)] := by
  unfold putKD
  rw [if_neg]
  intro z
  rw [List.any_eq_true] at z
  obtain ⟨p, hp, e⟩ := z
  exact h (List.mem_map.mpr ⟨p, hp, by simpa using e⟩)
/-- a dict comprehension whose keys are unlike -/
theorem dcGo_new {α : Type} {g : Pat} {tk tv : TD} {ρ0 : List Sl} {P : List (Key × D) → Nat → Prop} {c : α → D} {key : α → Key} {val : α → D} {n : Nat} : ∀ {xs : List α} {pre : List α}, ((pre ++ xs).map key).Nodup → (pre ++ xs).length ≤ sizeLine →
    (∀ x ∈ xs, ∀ (R : Key → D → Nat → Prop), R (key x) (val x) n → tPat g (c x) ρ0 fun ρ2 => tk n ρ2 fun y n2 => keyA y fun k => tv n2 ρ2 fun z n3 => R k z n3) → P ((pre ++ xs).map fun x => (key x, val x)) n →
    dcGo g tYesD tk tv ρ0 (xs.map c) n (pre.map fun x => (key x, val x)) P
  | [], pre, _, _, _, h => by simpa only [List.map_nil, dcGo, List.append_nil] using h
  | x :: xs, pre, hn, hz, hs, h => by
    have e : pre ++ x :: xs = (pre ++ [x]) ++ xs := by simp
    rw [e] at hn hz h
    have ih := dcGo_new (pre := pre ++ [x]) (xs := xs) hn hz (fun y hy => hs y (List.mem_cons_of_mem _ hy)) h
    rw [List.map_cons]
    simp only [dcGo, tYesD, if_true]
    refine hs x List.mem_cons_self (fun k z n3 => (pre.map fun x => (key x, val x)).length < sizeLine ∧ dcGo g tYesD tk tv ρ0 (xs.map c) n3 (putKD (pre.map fun x => (key x, val x)) k z) P) ⟨?_, ?_⟩
    · simp at hz ⊢; omega
    · rw [put_new, show (pre.map fun x => (key x, val x)) ++ [(key x, val x)] = (pre ++ [x]).map fun x => (key x, val x) by simp]
      · exact ih
      · rw [List.map_map]
        intro hm
        rw [List.map_append, List.map_append, List.nodup_append] at hn
        have h1 := hn.1
        rw [List.nodup_append] at h1
        obtain ⟨a, ha, e⟩ := List.mem_map.mp hm
        exact h1.2.2 (key a) (List.mem_map.mpr ⟨a, ha, rfl⟩) (key x) (by simp) e
theorem rising_pw : ∀ (xs : List Str) (p : Str), PyProof.Rows.risingS p xs = true → (∀ x ∈ xs, p.cps.toList ≤ x.cps.toList) ∧ xs.Pairwise fun a b => a.cps.toList ≤ b.cps.toList
  | [], _, _ => ⟨fun x hx => (by cases hx), List.Pairwise.nil⟩
  | x :: xs, p, h => by
    unfold PyProof.Rows.risingS at h
    rw [Bool.and_eq_true] at h
    have h1 : p.cps.toList ≤ x.cps.toList := by
      have := h.1
      rw [PyProof.Rows.ltCps_eq] at this
      intro z
      rw [decide_eq_true z] at this
      cases this
    obtain ⟨h2, h3⟩ := rising_pw xs x h.2
    refine ⟨fun y hy => ?_, List.Pairwise.cons h2 h3⟩
    rcases List.mem_cons.mp hy with rfl | hy
    · exact h1
    · exact List.le_trans h1 (h2 y hy)
theorem sorted_pw {xs : List Str} (h : PyProof.Rows.sortedS xs = true) : xs.Pairwise fun a b => a.cps.toList ≤ b.cps.toList := by
  cases xs with
  | nil => exact List.Pairwise.nil
  | cons x xs =>
    obtain ⟨h1, h2⟩ := rising_pw xs x h
    exact List.Pairwise.cons h1 h2
theorem sorted_eq {xs ys : List Str} (hx : PyProof.Rows.sortedS xs = true) (hy : PyProof.Rows.sortedS ys = true) (p : xs.Perm ys) : xs = ys :=
  List.Perm.eq_of_pairwise (fun a b _ _ h1 h2 => by
    have e := List.le_antisymm h1 h2
    cases a; cases b
    congr 1
    exact Array.toList_inj.mp e) (sorted_pw hx) (sorted_pw hy) p
theorem index_strs {xs : List Str} {x : Str} {P : D → Prop} (h : x ∈ xs) (q : P (.int (xs.idxOf x : Nat))) : indexD (lS xs) [.str x] P := by
  show indexA (xs.map D.str) (.str x) P
  unfold indexA
  rw [flats_strs]
  simp only [flatD]
  have : (xs.map V.str).findIdx? (fun y => eqV y (.str x)) = some (xs.idxOf x) := by
    rw [List.findIdx?_map, show ((fun y => eqV y (V.str x)) ∘ V.str) = fun y => y == x from rfl, List.findIdx?_eq_some_iff_findIdx_eq]
    exact ⟨List.idxOf_lt_length_of_mem h, rfl⟩
  rw [this]
  exact q
end PL
namespace PL
open PySem PySem.Spec L2 DL
theorem ix_nat {ds : List D} {i : Int} {d : D} {P : D → Prop} (h0 : 0 ≤ i) (h : ds[i.toNat]? = some d) (q : P d) : ixD (.lst ds) (.int i) P := by
  show optD (L2.atI ds i) P
  have hl : i.toNat < ds.length := by
    obtain ⟨z, _⟩ := List.getElem?_eq_some_iff.mp h
    exact z
  unfold L2.atI ixN
  rw [if_pos h0, if_pos (by omega)]
  show optD ds[i.toNat]? P
  rw [h]
  exact q
theorem ix_str {xs : List Str} {i : Int} {x : Str} {P : D → Prop} (h0 : 0 ≤ i) (h : xs[i.toNat]? = some x) (q : P (.str x)) : ixD (lS xs) (.int i) P :=
  ix_nat h0 (by rw [List.getElem?_map, h]; rfl) q
theorem ix_last {xs : List Str} {x : Str} {P : D → Prop} (h : xs.getLast? = some x) (q : P (.str x)) : ixD (lS xs) (.int (-1)) P := by
  show optD (L2.atI (xs.map D.str) (-1)) P
  have hne : xs ≠ [] := fun e => by subst e; cases h
  have hl : 0 < xs.length := List.length_pos_iff.mpr hne
  unfold L2.atI ixN
  rw [if_neg (by decide), if_pos (by rw [List.length_map]; omega)]
  show optD (xs.map D.str)[((-1 : Int) + ((xs.map D.str).length : Nat)).toNat]? P
  rw [List.getElem?_map, List.length_map, show ((-1 : Int) + (xs.length : Nat)).toNat = xs.length - 1 by omega, ← List.getLast?_eq_getElem?, h]
  exact q
theorem first_ix {b : List Str} {x : Str} (h : x ∈ b) : ((List.range b.length).filter fun i => decide (b[i]? = some x)).head? = some (b.idxOf x) := by
  rw [List.head?_filter, List.find?_range_eq_some]
  have hl := List.idxOf_lt_length_of_mem h
  refine ⟨?_, by simpa using hl, fun j hj => ?_⟩
  · rw [decide_eq_true_eq, List.getElem?_eq_getElem hl]
    have := List.findIdx_getElem (xs := b) (p := (· == x)) (w := hl)
    simpa using this
  · have hj2 : j < b.length := by omega
    have := List.not_of_lt_findIdx (xs := b) (p := (· == x)) hj
    rw [List.getElem?_eq_getElem hj2]
    simpa using this
/-- a test's value, whatever comes behind it -/
theorem tt_val (b : Bool) {t : TTD} {n : Nat} {ρ : List Sl} {K : Bool → Nat → Prop} (h : ∀ K : Bool → Nat → Prop, K b n → t n ρ K) (q : K b n) : t n ρ K := h K q
/-- an expression's value -/
theorem td_val (d : D) {t : TD} {n : Nat} {ρ : List Sl} {K : D → Nat → Prop} (h : ∀ K : D → Nat → Prop, K d n → t n ρ K) (q : K d n) : t n ρ K := h K q
/-- plain data without tuples -/
def listB : Nat → D → Bool
  | 0, .lst _ => false
  | k + 1, .lst ds => decide (ds.length ≤ 100000) && ds.all (listB k)
  | _, .non => true
  | _, .bl _ => true
  | _, .int _ => true
  | _, .str x => okS x
  | _, _ => false
theorem list_lst {k : Nat} {ds : List D} (hl : ds.length ≤ 100000) (h : ∀ d ∈ ds, listB k d = true) : listB (k + 1) (.lst ds) = true := by
  simp only [listB, Bool.and_eq_true, decide_eq_true_eq, List.all_eq_true]
  exact ⟨hl, h⟩
theorem list_plain : ∀ (k : Nat) (d : D), listB k d = true → plainB k d = true
  | k, .non, _ => plain_le (k := 0) rfl (Nat.zero_le _)
  | k, .bl _, _ => plain_bl
  | k, .int _, _ => plain_int
  | k, .str x, h => plain_str (by cases k <;> simpa only [listB] using h)
  | k + 1, .lst ds, h => by
    simp only [listB, Bool.and_eq_true, decide_eq_true_eq, List.all_eq_true] at h
    exact plain_lst h.1 fun d hd => list_plain k d (h.2 d hd)
  | 0, .lst _, h => by simp [listB] at h
  | k, .tup _, h => by cases k <;> simp [listB] at h
  | k, .dct _ _, h => by cases k <;> simp [listB] at h
  | k, .obj _ _ _, h => by cases k <;> simp [listB] at h
  | k, .purse, h => by cases k <;> simp [listB] at h
  | k, .ty _, h => by cases k <;> simp [listB] at h
  | k, .cl _, h => by cases k <;> simp [listB] at h
  | k, .scr _, h => by cases k <;> simp [listB] at h
theorem list_int {k : Nat} {i : Int} : listB k (.int i) = true := by cases k <;> rfl
theorem list_bl {k : Nat} {i : Bool} : listB k (.bl i) = true := by cases k <;> rfl
theorem list_str {k : Nat} {x : Str} (h : okS x = true) : listB k (.str x) = true := by cases k <;> exact h
theorem list_lS {k : Nat} {xs : List Str} (hl : xs.length ≤ 100000) (h : ∀ x ∈ xs, okS x = true) : listB (k + 1) (lS xs) = true :=
  list_lst (by rw [List.length_map]; exact hl) fun d hd => by
    obtain ⟨x, hx, rfl⟩ := List.mem_map.mp hd
    exact list_str (h x hx)
theorem list_lI {k : Nat} {xs : List Int} (hl : xs.length ≤ 100000) : listB (k + 1) (lI xs) = true :=
  list_lst (by rw [List.length_map]; exact hl) fun d hd => by
    obtain ⟨x, hx, rfl⟩ := List.mem_map.mp hd
    exact list_int
theorem enum_strs (b : List Str) : enumD (b.map D.str) = b.zipIdx.map fun p : Str × Nat => .tup [.int (p.2 : Nat), .str p.1] := by
  unfold enumD
  apply List.ext_getElem (by simp)
  intro i h1 h2
  simp
theorem set_ix {ds : List D} {i : Int} {d : D} {P : List D → Prop} (h : 0 ≤ i ∧ i < ds.length) (q : P (ds.set i.toNat d)) : setIxA ds (.int i) d P := by
  unfold setIxA ixN
  dsimp only
  rw [if_pos h.1, if_pos h.2]
  exact q
theorem swap_perm {α : Type} [DecidableEq α] {xs : List α} {i j : Nat} (hi : i < xs.length) (hj : j < xs.length) : ((xs.set i xs[j]).set j xs[i]).Perm xs := by
  refine List.perm_iff_count.mpr fun a => ?_
  have hj2 : j < (xs.set i xs[j]).length := by rw [List.length_set]; exact hj
  rw [List.count_set hj2, List.count_set hi]
  have e : (xs.set i xs[j])[j] = xs[j] := by
    rw [List.getElem_set]
    split
    · rfl
    · rfl
  rw [e]
  have h1 : xs[i] = a → 0 < xs.count a := fun e => List.count_pos_iff.mpr (e ▸ List.getElem_mem hi)
  have h2 : xs[j] = a → 0 < xs.count a := fun e => List.count_pos_iff.mpr (e ▸ List.getElem_mem hj)
  generalize xs.count a = c at h1 h2 ⊢
  by_cases e1 : xs[i] = a <;> by_cases e2 : xs[j] = a <;> simp [e1, e2] at h1 h2 ⊢ <;> omega
theorem pop0 {ds : List D} {P : D → List D → Prop} (h : ds ≠ []) (q : ∀ d ds', P d ds') : popAtM ds [.int 0] P := by
  unfold popAtM
  refine ⟨by decide, ?_⟩
  have hl := List.length_pos_iff.mpr h
  rw [(ixN_seq (n := ds.length) (i := 0) (j := 0) (by unfold ixN; rw [if_pos (by decide), if_pos (by omega)]; rfl)).1]
  dsimp only
  rw [List.getElem?_eq_getElem hl]
  exact q _ _
theorem sIx_one {n d : Nat} : HT.sIx n d (some 1) = min 1 n := HT.sIx_nat n d 1
theorem cutD_map {α : Type} (f : α → D) (xs : List α) (l u : Option Int) : cutD (xs.map f) l u = ((xs.drop (HT.sIx xs.length 0 l)).take (HT.sIx xs.length xs.length u - HT.sIx xs.length 0 l)).map f := by
  unfold cutD
  rw [List.length_map, ← List.map_drop, ← List.map_take]
theorem cut_from1 {α : Type} (f : α → D) (xs : List α) : cutD (xs.map f) (some 1) none = (xs.drop 1).map f := by
  rw [cutD_map, sIx_one, HT.sIx_none]
  congr 1
  cases xs with
  | nil => rfl
  | cons x xs =>
    rw [show min 1 (x :: xs).length = 1 by rw [List.length_cons]; omega]
    exact List.take_of_length_le (by simp)
theorem cut_to1 {α : Type} (f : α → D) (xs : List α) : cutD (xs.map f) none (some 1) = (xs.take 1).map f := by
  rw [cutD_map, sIx_one, HT.sIx_none]
  congr 1
  cases xs with
  | nil => rfl
  | cons x xs =>
    rw [show min 1 (x :: xs).length = 1 by rw [List.length_cons]; omega]
    rfl
theorem ins_perm {α : Type} (xs : List α) (k : Nat) (x : α) : (xs.take k ++ [x] ++ xs.drop k).Perm (xs ++ [x]) := by
  conv => rhs; rw [← List.take_append_drop k xs]
  rw [List.append_assoc, List.append_assoc]
  exact List.Perm.append_left _ List.perm_append_comm
theorem nodup_sub {α : Type} {xs ys : List α} (h : ys.Nodup) (s : xs.Sublist ys) : xs.Nodup := List.nodup_iff_pairwise_ne.mpr ((List.nodup_iff_pairwise_ne.mp h).sublist s)
/-- an expression that may come to several values -/
theorem td_any {G : D → Nat → Prop} {t : TD} {n : Nat} {ρ : List Sl} {K : D → Nat → Prop} (h : ∀ K : D → Nat → Prop, (∀ d n', G d n' → K d n') → t n ρ K) (q : ∀ d n', G d n' → K d n') : t n ρ K := h K q
/-- a statement -/
theorem ts_any {G : Nat → List Sl → Prop} {t : TDS} {E : DEnds} {n : Nat} {ρ : List Sl} (h : ∀ K : Nat → List Sl → Prop, (∀ n' ρ', G n' ρ' → K n' ρ') → t { E with nx := K } n ρ) (q : ∀ n' ρ', G n' ρ' → E.nx n' ρ') : t E n ρ := h E.nx q
/-- one statement, then the rest -/
theorem sq_any (G : Nat → List Sl → Prop) {A B : TDS} {E : DEnds} {n : Nat} {ρ : List Sl} (h : ∀ K : Nat → List Sl → Prop, (∀ n' ρ', G n' ρ' → K n' ρ') → A { nx := K, rt := E.rt, bk := E.bk, ct := E.ct } n ρ) (q : ∀ n' ρ', G n' ρ' → B E n' ρ') : tSeqD A B E n ρ := h (B E) q
theorem for_lst (G : List D → Nat → Prop) {te : TD} {g : Pat} {tb : TDS} {E : DEnds} {n : Nat} {ρ : List Sl} (h : ∀ K : D → Nat → Prop, (∀ ds n', G ds n' → K (.lst ds) n') → te n ρ K) (q : ∀ ds n', G ds n' → forD g tb ds E n' ρ) : tForD (tItL te) g tb E n ρ := h _ q
theorem for_tup (G : List D → Nat → Prop) {te : TD} {g : Pat} {tb : TDS} {E : DEnds} {n : Nat} {ρ : List Sl} (h : ∀ K : D → Nat → Prop, (∀ ds n', G ds n' → K (.tup ds) n') → te n ρ K) (q : ∀ ds n', G ds n' → forD g tb ds E n' ρ) : tForD (tItT te) g tb E n ρ := h _ q
theorem for_rng (G : Int → Nat → Prop) {te : TD} {g : Pat} {tb : TDS} {E : DEnds} {n : Nat} {ρ : List Sl} (h : ∀ K : D → Nat → Prop, (∀ i n', G i n' → K (.int i) n') → te n ρ K) (q : ∀ i n', G i n' → (-(2 ^ 62) ≤ i ∧ i < 2 ^ 62) ∧ forD g tb (rangeD 0 i.toNat) E n' ρ) : tForD (tRng1 te) g tb E n ρ :=
  h _ fun i n' hg => ⟨(q i n' hg).1.1, (q i n' hg).1.2, (q i n' hg).2⟩
/-- a test, then one of two -/
theorem if_any (G : Bool → Nat → Prop) {c : TTD} {t u : TDS} {E : DEnds} {n : Nat} {ρ : List Sl} (h : ∀ K : Bool → Nat → Prop, (∀ b n', G b n' → K b n') → c n ρ K) (qt : ∀ n', G true n' → t E n' ρ) (qf : ∀ n', G false n' → u E n' ρ) : tIfD c t u E n ρ :=
  h _ fun b n' hg => by
    cases b
    · exact qf n' hg
    · exact qt n' hg
/-- a store -/
theorem set_any (G : D → Nat → Prop) {i : Nat} {te : TD} {E : DEnds} {n : Nat} {ρ : List Sl} (h : ∀ K : D → Nat → Prop, (∀ d n', G d n' → K d n') → te n ρ K) (q : ∀ d n', G d n' → E.nx n' (ρ.set i (.sh d))) : tSetD i te E n ρ := h _ q
theorem ret_any (G : D → Nat → Prop) {te : TD} {E : DEnds} {n : Nat} {ρ : List Sl} (h : ∀ K : D → Nat → Prop, (∀ d n', G d n' → K d n') → te n ρ K) (q : ∀ d n', G d n' → E.rt d n') : tRetD te E n ρ := h _ q
theorem eqQ_lst {cn : Str} {F : FnD} {n : Nat} {a b : List D} {P : D → Nat → Prop} : eqQ cn F n (.lst a) (.lst b) P = eqA (.lst a) (.lst b) fun k => P (.bl k) n := rfl
theorem eqO_lst {cn : Str} {F : FnD} {n : Nat} {a b : List D} {P : D → Nat → Prop} : eqO cn F n (.lst a) (.lst b) P = eqA (.lst a) (.lst b) fun k => P (.bl k) n := rfl
theorem neO_lst {cn : Str} {F : FnD} {n : Nat} {a b : List D} {P : D → Nat → Prop} : neO cn F n (.lst a) (.lst b) P = eqA (.lst a) (.lst b) fun k => P (.bl (!k)) n := rfl
theorem cons_val (d : D) {ta : TD} {tas : TAD} {n : Nat} {ρ : List Sl} {K : List D → Nat → Prop} (h : ∀ K : D → Nat → Prop, K d n → ta n ρ K) (q : tas n ρ fun xs n2 => K (d :: xs) n2) : tConsA ta tas n ρ K := h _ q
theorem nil_val {n : Nat} {ρ : List Sl} {K : List D → Nat → Prop} (q : K [] n) : tNilA n ρ K := q
theorem tup_val {tas : TAD} {n : Nat} {ρ : List Sl} {K : D → Nat → Prop} (q : tas n ρ fun xs n1 => xs.length ≤ sizeLine ∧ K (.tup xs) n1) : tTupD tas n ρ K := q
theorem lst_val {tas : TAD} {n : Nat} {ρ : List Sl} {K : D → Nat → Prop} (q : tas n ρ fun xs n1 => xs.length ≤ sizeLine ∧ K (.lst xs) n1) : tLstD tas n ρ K := q
theorem eqQ_int {cn : Str} {F : FnD} {n : Nat} {a b : Int} {P : D → Nat → Prop} : eqQ cn F n (.int a) (.int b) P = eqA (.int a) (.int b) fun k => P (.bl k) n := rfl
theorem neO_bl {cn : Str} {F : FnD} {n : Nat} {a b : Bool} {P : D → Nat → Prop} : neO cn F n (.bl a) (.bl b) P = eqA (.bl a) (.bl b) fun k => P (.bl (!k)) n := rfl
theorem drop_any (G : D → Nat → Prop) {te : TD} {E : DEnds} {n : Nat} {ρ : List Sl} (h : ∀ K : D → Nat → Prop, (∀ d n', G d n' → K d n') → te n ρ K) (q : ∀ d n', G d n' → E.nx n' ρ) : tDropD te E n ρ := h _ q
end PL
namespace PL
open PySem PySem.Spec L2 DL
theorem dpy_str (x : Str) : dpy (.str x) = .str x := rfl
theorem alike_strs : ∀ xs ys : List Str, PySem.W.alikeAll (xs.map PyData.str) (ys.map PyData.str) = true
  | [], ys => by cases ys <;> rfl
  | x :: xs, [] => rfl
  | x :: xs, y :: ys => by
    rw [List.map_cons, List.map_cons, PySem.W.alikeAll, alike_strs xs ys]
    rfl
theorem sortGD_strs {xs : List Str} {P : D → Prop} (hz : xs.length < 64) (h : ∀ ys : List Str, ys.Perm xs → PyProof.Rows.sortedS ys = true → P (lS ys)) : sortGD [lS xs] P := by
  have hp : ∀ p ∈ xs.map PyData.str, ∃ x, p = .str x := fun p hp => by
    obtain ⟨x, _, rfl⟩ := List.mem_map.mp hp
    exact ⟨x, rfl⟩
  refine ⟨xs.map PyData.str, toPys_strs xs, ?_, .inr ?_, ?_, by rw [List.length_map, sizeLine_eq]; omega, ?_⟩
  · intro d hd d' hd'
    obtain ⟨x, rfl⟩ := hp d hd
    obtain ⟨y, rfl⟩ := hp d' hd'
    rfl
  · intro d hd
    obtain ⟨x, rfl⟩ := hp d hd
    exact ⟨by simp, by simp⟩
  · intro d hd
    obtain ⟨x, rfl⟩ := hp d hd
    exact Nat.zero_le _
  · have e : sortD (xs.map D.str) = (xs.mergeSort (PySem.W.dataLe false fun x => PyData.str x)).map D.str := by
      unfold sortD
      rw [List.map_mergeSort (r := PySem.W.dataLe false fun x : Str => PyData.str x) (s := PySem.W.dataLe false dpy) (f := D.str) (fun _ _ _ _ => rfl)]
    rw [e]
    refine h _ (List.mergeSort_perm _ _) ?_
    rw [PySem.W.dataLe_str fun x => x]
    have pw := List.pairwise_mergeSort (le := fun a b : Str => decide (a.cps.toList ≤ b.cps.toList)) (fun a b c h1 h2 => by
      have h1 := of_decide_eq_true h1
      have h2 := of_decide_eq_true h2
      exact decide_eq_true (List.le_trans h1 h2)) (fun a b => by
      rcases Std.le_total (a := a.cps.toList) (b := b.cps.toList) with z | z
      · simp [z]
      · simp [z]) xs
    refine PyProof.Rows.sortedS_of_pairwise _ (pw.imp fun {a b} hab => ?_)
    have hab := of_decide_eq_true hab
    rw [PyProof.Rows.ltCps_eq]
    exact decide_eq_false hab
end PL
namespace PL
open PySem PySem.Spec L2 DL
/-- while, with a bound that falls -/
theorem wh_ind {c : TTD} {b : TDS} {E : DEnds} (I : Nat → Nat → List Sl → Prop)
    (step : ∀ (m n : Nat) (ρ : List Sl) (K : Nat → List Sl → Prop), I m n ρ → (∀ m' n' ρ', m' < m → I m' n' ρ' → K n' ρ') → c n ρ fun kb n1 => if kb = true then b { E with nx := K, ct := K, bk := E.nx } n1 ρ else E.nx n1 ρ) {m n : Nat} {ρ : List Sl} (h : I m n ρ) : tWhileD c b E n ρ := by
  have key : ∀ (k m n : Nat) (ρ : List Sl), m < k → I m n ρ → whD c b k E n ρ := by
    intro k
    induction k with
    | zero => intro m n ρ hm _; omega
    | succ k ih =>
      intro m n ρ hm h
      simp only [whD]
      exact step m n ρ _ h fun m' n' ρ' hm' h' => ih m' n' ρ' (by omega) h'
  exact ⟨m + 1, key (m + 1) m n ρ (by omega) h⟩
/-- lists of natural numbers -/
abbrev lN (xs : List Nat) : D := .lst (xs.map fun x => D.int ((x : Nat) : Int))
theorem lN_lI (xs : List Nat) : lN xs = lI (xs.map fun x : Nat => (x : Int)) := by rw [lN, lI, List.map_map]; rfl
theorem sum_cast : ∀ xs : List Nat, (xs.map fun x : Nat => (x : Int)).sum = ((xs.sum : Nat) : Int)
  | [] => rfl
  | x :: xs => by rw [List.map_cons, List.sum_cons, List.sum_cons, sum_cast xs]; omega
theorem intsD_nats (xs : List Nat) : intsD (xs.map fun x => D.int ((x : Nat) : Int)) = some (xs.map fun x : Nat => (x : Int)) := by
  have := intsD_ints (xs.map fun x : Nat => (x : Int))
  rwa [List.map_map] at this
theorem sum_set : ∀ (xs : List Nat) (i v : Nat), i < xs.length → (xs.set i v).sum + xs.getD i 0 = xs.sum + v
  | [], _, _, h => by simp at h
  | x :: xs, 0, v, _ => by simp; omega
  | x :: xs, i + 1, v, h => by
    have := sum_set xs i v (by simpa using h)
    rw [List.set_cons_succ, List.sum_cons, List.sum_cons, List.getD_cons_succ]
    omega
theorem ix_nats {xs : List Nat} {i : Int} {P : D → Prop} (h0 : 0 ≤ i) (h1 : i < xs.length) (q : P (.int ((xs.getD i.toNat 0 : Nat) : Int))) : ixD (lN xs) (.int i) P := by
  have hl : i.toNat < xs.length := by omega
  refine ix_nat h0 (d := .int ((xs[i.toNat] : Nat) : Int)) (by rw [List.getElem?_map, List.getElem?_eq_getElem hl]; rfl) ?_
  rwa [List.getD_eq_getElem?_getD, List.getElem?_eq_getElem hl] at q
theorem eqA_ints {xs ys : List Int} {Q : Bool → Prop} (q : Q (decide (xs = ys))) : eqA (lI xs) (lI ys) Q := by
  have sh : ∀ zs : List Int, SeqAt.shaped (.list (zs.map PyData.int)) = true := fun zs => by
    have h1 : ∀ zs : List Int, PyData.canLayAll0 (zs.map PyData.int) = true := fun zs => by
      induction zs with
      | nil => rfl
      | cons z zs ih => rw [List.map_cons, PyData.canLayAll0, ih]; rfl
    unfold SeqAt.shaped
    rw [PyData.canLay0, h1, PyData.depth, PySem.W.depth_ints]
    rfl
  unfold eqA
  simp only [toPy, toPys_ints, Option.map_some]
  exact ⟨sh xs, sh ys, by rw [show PyData.eqv (.list (xs.map PyData.int)) (.list (ys.map PyData.int)) = decide (xs = ys) from PySem.W.Datum.eqv xs ys]; exact q⟩
end PL
namespace PL
open PySem PySem.Spec L2 DL

/-! ### a core's nodes -/
inductive Kd where
  | any | crossed | book | heap
  deriving DecidableEq
def Kd.s : Kd → Str
  | .any => "any"
  | .crossed => "crossed"
  | .book => "book"
  | .heap => "heap"
theorem Kd.ok (k : Kd) : okS k.s = true := by cases k <;> decide +kernel
theorem Kd.crossed_s (k : Kd) : decide (k.s = "crossed") = decide (k = .crossed) := by cases k <;> decide +kernel
theorem Kd.any_s (k : Kd) : decide (k.s = "any") = decide (k = .any) := by cases k <;> decide +kernel
theorem Kd.heap_s (k : Kd) : decide (k.s = "heap") = decide (k = .heap) := by cases k <;> decide +kernel
structure Nd where
  kind : Kd
  start : Nat
  many : Nat
  parts : List Nat
  nums : List Nat
def ndD (x : Nd) : D := .lst [.str x.kind.s, .int (x.start : Nat), .int (x.many : Nat), lN x.parts, lN x.nums]
abbrev ndsD (ns : List Nd) : D := .lst (ns.map ndD)
def kidK (cr : Bool) (v : Nat) : Kd := if cr = true then .any else if 1 < v then .crossed else .book
def kids (cr : Bool) : Nat → List Nat → List Nd
  | _, [] => []
  | st, v :: vs => ⟨kidK cr v, st, v, [], []⟩ :: kids cr (st + v) vs
theorem kids_len (cr : Bool) : ∀ (vs : List Nat) (st : Nat), (kids cr st vs).length = vs.length
  | [], _ => rfl
  | v :: vs, st => by simp [kids, kids_len cr vs]
theorem kids_app (cr : Bool) : ∀ (vs ws : List Nat) (st : Nat), kids cr st (vs ++ ws) = kids cr st vs ++ kids cr (st + vs.sum) ws
  | [], ws, st => by simp [kids]
  | v :: vs, ws, st => by
    simp only [List.cons_append, kids, kids_app cr vs ws, List.sum_cons]
    rw [Nat.add_assoc]
theorem kids_mem (cr : Bool) : ∀ (vs : List Nat) (st : Nat) (x : Nd), x ∈ kids cr st vs → x.many ∈ vs ∧ x.kind = kidK cr x.many ∧ x.parts = [] ∧ x.nums = [] ∧ st ≤ x.start ∧ x.start + x.many ≤ st + vs.sum
  | [], _, x, h => by cases h
  | v :: vs, st, x, h => by
    simp only [kids] at h
    rcases List.mem_cons.mp h with rfl | h
    · exact ⟨List.mem_cons_self, rfl, rfl, rfl, Nat.le_refl _, by rw [List.sum_cons]; show st + v ≤ _; omega⟩
    · obtain ⟨h1, h2, h3, h4, h5, h6⟩ := kids_mem cr vs (st + v) x h
      exact ⟨List.mem_cons_of_mem _ h1, h2, h3, h4, by omega, by rw [List.sum_cons]; omega⟩
/-- the parts cover st .. en, one behind the other -/
def Cov (ns : List Nd) : Nat → List Nat → Nat → Prop
  | st, [], en => st = en
  | st, p :: ps, en => ∃ x, ns[p]? = some x ∧ x.start = st ∧ 1 ≤ x.many ∧ Cov ns (st + x.many) ps en
def crRows (k : Nat) : List (List Nat) :=
  if k = 4 then [[1, 3, 0, 2]] else if k = 5 then [[1, 3, 0, 4, 2], [1, 4, 2, 0, 3], [2, 0, 4, 1, 3]] else if k = 6 then [[1, 3, 5, 0, 2, 4], [1, 4, 0, 3, 5, 2], [2, 0, 4, 1, 5, 3]] else []
/-- a heap, whose parts are books or crossed; a crossed one -/
def Fm (ns : List Nd) (kd : Kd) (parts nums : List Nat) : Prop :=
  (kd = .heap ∧ nums = List.range parts.length ∧ ∀ p ∈ parts, ∀ y, ns[p]? = some y → y.many = 1 ∨ (y.kind = .crossed ∧ 4 ≤ y.many)) ∨ (kd = .crossed ∧ nums ∈ crRows parts.length)
def Ok1 (ns : List Nd) (size i : Nat) (x : Nd) : Prop :=
  1 ≤ x.many ∧ x.start + x.many ≤ size ∧ ((x.many = 1 ∧ x.parts = [] ∧ x.kind ≠ .crossed ∧ x.kind ≠ .heap) ∨ (1 < x.many ∧ 2 ≤ x.parts.length ∧ (∀ p ∈ x.parts, i < p ∧ p < ns.length) ∧ Cov ns x.start x.parts (x.start + x.many) ∧ x.nums.Perm (List.range x.parts.length) ∧ Fm ns x.kind x.parts x.nums))
/-- not looked at yet -/
def Ok0 (size : Nat) (x : Nd) : Prop := 1 ≤ x.many ∧ x.start + x.many ≤ size ∧ x.parts = [] ∧ (x.kind = .crossed → 4 ≤ x.many) ∧ x.kind ≠ .heap ∧ (x.kind = .book → x.many = 1)
def wt (ns : List Nd) : Nat := (ns.map fun x => 2 * x.many - 1).sum
structure NInv (ns : List Nd) (size k : Nat) : Prop where
  le : k ≤ ns.length
  ne : ∃ x, ns[0]? = some x ∧ x.start = 0 ∧ x.many = size
  done : ∀ i x, i < k → ns[i]? = some x → Ok1 ns size i x
  todo : ∀ i x, k ≤ i → ns[i]? = some x → Ok0 size x
  wt : k + wt (ns.drop k) ≤ 2 * size - 1
  par : ∀ j, 0 < j → j < ns.length → ∃ i x, i < j ∧ ns[i]? = some x ∧ j ∈ x.parts
/-- the first nodes may be put anew with the same place, more may come -/
theorem Cov.mono {ns ms : List Nd} (h : ∀ (i : Nat) x, ns[i]? = some x → ∃ y, ms[i]? = some y ∧ y.start = x.start ∧ y.many = x.many) : ∀ {ps : List Nat} {st en : Nat}, Cov ns st ps en → Cov ms st ps en
  | [], _, _, c => c
  | p :: ps, st, en, ⟨x, h1, h2, h3, h4⟩ => by
    obtain ⟨y, k1, k2, k3⟩ := h p x h1
    exact ⟨y, k1, by rw [k2]; exact h2, by rw [k3]; exact h3, by rw [k3]; exact Cov.mono h h4⟩
theorem cov_kids (cr : Bool) : ∀ (vs : List Nat) (pre post : List Nd) (st : Nat), (∀ v ∈ vs, 1 ≤ v) → Cov (pre ++ kids cr st vs ++ post) st ((List.range vs.length).map (pre.length + ·)) (st + vs.sum)
  | [], _, _, st, _ => by simp [Cov]
  | v :: vs, pre, post, st, h => by
    rw [List.length_cons, List.range_succ_eq_map, List.map_cons, List.map_map]
    refine ⟨⟨kidK cr v, st, v, [], []⟩, ?_, rfl, h v List.mem_cons_self, ?_⟩
    · rw [List.append_assoc, List.getElem?_append_right (by omega)]
      simp [kids]
    · have ih := cov_kids cr vs (pre ++ [⟨kidK cr v, st, v, [], []⟩]) post (st + v) fun w hw => h w (List.mem_cons_of_mem _ hw)
      rw [List.sum_cons, ← Nat.add_assoc]
      simp only [kids, List.append_assoc, List.cons_append, List.nil_append, List.length_append, List.length_cons, List.length_nil] at ih ⊢
      rw [show ((fun x => pre.length + x) ∘ Nat.succ) = fun x => pre.length + (0 + 1) + x by funext x; simp only [Function.comp]; omega]
      exact ih
theorem wt_kids (cr : Bool) : ∀ (vs : List Nat) (st : Nat), (∀ v ∈ vs, 1 ≤ v) → wt (kids cr st vs) + vs.length = 2 * vs.sum
  | [], _, _ => rfl
  | v :: vs, st, h => by
    have ih := wt_kids cr vs (st + v) fun w hw => h w (List.mem_cons_of_mem _ hw)
    have hv := h v List.mem_cons_self
    unfold wt at ih ⊢
    simp only [kids, List.map_cons, List.sum_cons, List.length_cons]
    omega
theorem wt_app (a b : List Nd) : wt (a ++ b) = wt a + wt b := by unfold wt; rw [List.map_append, List.sum_append]
theorem wt_len : ∀ ns : List Nd, (∀ x ∈ ns, 1 ≤ x.many) → ns.length ≤ wt ns
  | [], _ => Nat.zero_le _
  | x :: ns, h => by
    have ih := wt_len ns fun y hy => h y (List.mem_cons_of_mem _ hy)
    have hx := h x List.mem_cons_self
    unfold wt at ih ⊢
    simp only [List.map_cons, List.sum_cons, List.length_cons]
    omega
/-- a leaf is passed -/
theorem NInv.leaf {ns : List Nd} {size k : Nat} {x : Nd} (h : NInv ns size k) (e : ns[k]? = some x) (h1 : x.many = 1) : NInv ns size (k + 1) := by
  obtain ⟨hl, hx⟩ := List.getElem?_eq_some_iff.mp e
  obtain ⟨o1, o2, o3, o4, o5, o6⟩ := h.todo k x (Nat.le_refl _) e
  refine ⟨hl, h.ne, fun i y hi ey => ?_, fun i y hi ey => h.todo i y (by omega) ey, ?_, h.par⟩
  · by_cases z : i < k
    · exact h.done i y z ey
    · have : i = k := by omega
      subst this
      rw [e] at ey; cases ey
      exact ⟨o1, o2, .inl ⟨h1, o3, fun z => by have := o4 z; omega, o5⟩⟩
  · have := h.wt
    rw [List.drop_eq_getElem_cons hl, hx] at this
    unfold PL.wt at this ⊢
    rw [List.map_cons, List.sum_cons, h1] at this
    omega
/-- a node gets its parts -/
theorem NInv.split {ns : List Nd} {size k : Nat} {x : Nd} {cr : Bool} {vs nums : List Nat} {kd : Kd} (h : NInv ns size k) (e : ns[k]? = some x) (h1 : 1 < x.many) (hv : ∀ v ∈ vs, 1 ≤ v) (hs : vs.sum = x.many) (h2 : 2 ≤ vs.length) (hc : ∀ v ∈ vs, kidK cr v = .crossed → 4 ≤ v) (hn : nums.Perm (List.range vs.length)) (hf : (kd = .heap ∧ cr = false ∧ nums = List.range vs.length) ∨ (kd = .crossed ∧ cr = true ∧ nums ∈ crRows vs.length)) (hx0 : x.kind = .crossed → cr = true) :
    NInv ((ns ++ kids cr x.start vs).set k ⟨kd, x.start, x.many, (List.range vs.length).map (ns.length + ·), nums⟩) size (k + 1) := by
  obtain ⟨hl, hx⟩ := List.getElem?_eq_some_iff.mp e
  obtain ⟨o1, o2, o3, o4, o5, o6⟩ := h.todo k x (Nat.le_refl _) e
  have hlk : (ns ++ kids cr x.start vs).length = ns.length + vs.length := by rw [List.length_append, kids_len]
  have hk2 : k < (ns ++ kids cr x.start vs).length := by omega
  have keep : ∀ (i : Nat) y, ns[i]? = some y → ∃ z, ((ns ++ kids cr x.start vs).set k ⟨kd, x.start, x.many, (List.range vs.length).map (ns.length + ·), nums⟩)[i]? = some z ∧ z.start = y.start ∧ z.many = y.many ∧ (y.kind = .crossed → z.kind = .crossed) := fun i y ey => by
    obtain ⟨hi, _⟩ := List.getElem?_eq_some_iff.mp ey
    by_cases z : k = i
    · subst z
      rw [e] at ey; cases ey
      refine ⟨_, List.getElem?_set_self hk2, rfl, rfl, fun hk => ?_⟩
      rcases hf with q | q
      · have := hx0 hk
        rw [q.2.1] at this; cases this
      · exact q.1
    · exact ⟨y, by rw [List.getElem?_set_ne z, List.getElem?_append_left hi]; exact ey, rfl, rfl, id⟩
  have keep0 : ∀ (i : Nat) y, ns[i]? = some y → ∃ z, ((ns ++ kids cr x.start vs).set k ⟨kd, x.start, x.many, (List.range vs.length).map (ns.length + ·), nums⟩)[i]? = some z ∧ z.start = y.start ∧ z.many = y.many := fun i y ey => by
    obtain ⟨z, h1, h2, h3, _⟩ := keep i y ey
    exact ⟨z, h1, h2, h3⟩
  have keep2 : ∀ (i : Nat) y, (ns ++ kids cr x.start vs)[i]? = some y → ∃ z, ((ns ++ kids cr x.start vs).set k ⟨kd, x.start, x.many, (List.range vs.length).map (ns.length + ·), nums⟩)[i]? = some z ∧ z.start = y.start ∧ z.many = y.many := fun i y ey => by
    by_cases z : k = i
    · subst z
      rw [List.getElem?_append_left hl, e] at ey; cases ey
      exact ⟨_, List.getElem?_set_self hk2, rfl, rfl⟩
    · exact ⟨y, by rw [List.getElem?_set_ne z]; exact ey, rfl, rfl⟩
  refine ⟨by rw [List.length_set]; omega, ?_, fun i y hi ey => ?_, fun i y hi ey => ?_, ?_, fun j hj0 hj => ?_⟩
  · obtain ⟨y, e0, h3, h4⟩ := h.ne
    obtain ⟨z, e1, h5, h6, _⟩ := keep 0 y e0
    exact ⟨z, e1, by rw [h5]; exact h3, by rw [h6]; exact h4⟩
  · by_cases z : i < k
    · rw [List.getElem?_set_ne (by omega), List.getElem?_append_left (by omega)] at ey
      obtain ⟨d1, d2, d3⟩ := h.done i y z ey
      refine ⟨d1, d2, d3.imp id fun ⟨q1, q2, q3, q4, q5, q6⟩ => ⟨q1, q2, fun p hp => ⟨(q3 p hp).1, by rw [List.length_set]; have := (q3 p hp).2; omega⟩, Cov.mono keep0 q4, q5, q6.imp (fun ⟨w1, w2, w3⟩ => ⟨w1, w2, fun p hp y ey => ?_⟩) id⟩⟩
      have hpl := (q3 p hp).2
      have e0 : ns[p]? = some ns[p] := List.getElem?_eq_getElem hpl
      obtain ⟨z, k1, k2, k3, k4⟩ := keep p _ e0
      rw [k1] at ey; cases ey
      rw [k3]
      exact (w3 p hp _ e0).imp id fun w => ⟨k4 w.1, w.2⟩
    · have : k = i := by omega
      subst this
      rw [List.getElem?_set_self hk2] at ey
      cases ey
      refine ⟨o1, o2, .inr ⟨h1, by simpa using h2, fun p hp => ?_, ?_, by simpa using hn, ?_⟩⟩
      · obtain ⟨j, hj, rfl⟩ := List.mem_map.mp hp
        have := List.mem_range.mp hj
        rw [List.length_set]
        omega
      · have := cov_kids cr vs ns [] x.start hv
        rw [List.append_nil, hs] at this
        exact Cov.mono keep2 this
      · rcases hf with ⟨q1, q2, q3⟩ | ⟨q1, q2, q3⟩
        · refine .inl ⟨q1, by simpa using q3, fun p hp y ey => ?_⟩
          obtain ⟨j, hj, rfl⟩ := List.mem_map.mp hp
          have hj := List.mem_range.mp hj
          rw [List.getElem?_set_ne (by omega), List.getElem?_append_right (by omega)] at ey
          obtain ⟨m1, m2, m3, m4, m5, m6⟩ := kids_mem cr vs x.start y (List.mem_of_getElem? ey)
          by_cases z : 1 < y.many
          · have hk : kidK cr y.many = .crossed := by unfold kidK; rw [q2, if_neg (by simp), if_pos z]
            exact .inr ⟨m2.trans hk, hc _ m1 hk⟩
          · have := hv _ m1
            exact .inl (by omega)
        · exact .inr ⟨q1, by simpa using q3⟩
  · rw [List.getElem?_set_ne (by omega)] at ey
    by_cases z : i < ns.length
    · rw [List.getElem?_append_left z] at ey
      exact h.todo i y (by omega) ey
    · rw [List.getElem?_append_right (by omega)] at ey
      obtain ⟨m1, m2, m3, m4, m5, m6⟩ := kids_mem cr vs x.start y (List.mem_of_getElem? ey)
      refine ⟨hv _ m1, by omega, m3, fun hk => hc _ m1 (m2 ▸ hk), fun hk => ?_, fun hk => ?_⟩
      · rw [m2] at hk
        unfold kidK at hk
        split at hk
        · cases hk
        · split at hk <;> cases hk
      · rw [m2] at hk
        unfold kidK at hk
        split at hk
        · cases hk
        · split at hk
          · cases hk
          · have := hv _ m1; omega
  · have := h.wt
    rw [List.drop_eq_getElem_cons hl, hx] at this
    rw [List.drop_set_of_lt (by omega), List.drop_append_of_le_length (by omega), wt_app]
    have wk := wt_kids cr vs x.start hv
    unfold PL.wt at this wk ⊢
    rw [List.map_cons, List.sum_cons] at this
    omega
  · rw [List.length_set, hlk] at hj
    by_cases z : j < ns.length
    · obtain ⟨i, y, hi, ey, hm⟩ := h.par j hj0 z
      by_cases zk : k = i
      · subst zk
        rw [e] at ey; cases ey
        rw [o3] at hm; cases hm
      · exact ⟨i, y, hi, by rw [List.getElem?_set_ne zk, List.getElem?_append_left (by omega)]; exact ey, hm⟩
    · exact ⟨k, _, by omega, List.getElem?_set_self hk2, List.mem_map.mpr ⟨j - ns.length, List.mem_range.mpr (by omega), by omega⟩⟩
theorem range_lN (n : Nat) : D.lst (rangeD 0 n) = lN (List.range n) := by
  unfold rangeD lN
  congr 1
  exact List.map_congr_left fun i _ => by rw [Int.zero_add]
theorem sum_two {xs : List Nat} {m : Nat} (h : xs.sum = m) (h1 : ∀ x ∈ xs, x < m) (h2 : 0 < m) : 2 ≤ xs.length := by
  match xs, h, h1 with
  | [], h, _ => simp at h; omega
  | [x], h, h1 => have := h1 x (by simp); simp at h; omega
  | _ :: _ :: _, _, _ => simp
theorem len_sum : ∀ {xs : List Nat}, (∀ x ∈ xs, 1 ≤ x) → xs.length ≤ xs.sum
  | [], _ => Nat.le_refl _
  | x :: xs, h => by
    have := len_sum fun y hy => h y (List.mem_cons_of_mem _ hy)
    have := h x List.mem_cons_self
    rw [List.length_cons, List.sum_cons]; omega
end PL
namespace PL
open PySem PySem.Spec L2 DL
def lend1 : Sl → Sl
  | .ow d => .pk d
  | s => s
theorem lend_cons (s : Sl) (r : List Sl) : lend (s :: r) = lend1 s :: lend r := by cases s <;> rfl
theorem lend1_sh {d : D} : lend1 (.sh d) = .sh d := rfl
theorem lend1_ow {d : D} : lend1 (.ow d) = .pk d := rfl
theorem lend1_pk {d : D} : lend1 (.pk d) = .pk d := rfl
theorem lend1_un : lend1 .un = .un := rfl
theorem cut_to {α : Type} (f : α → D) (xs : List α) {k : Nat} (h : k ≤ xs.length) : cutD (xs.map f) none (some (k : Int)) = (xs.take k).map f := by
  rw [cutD_map, HT.sIx_none, HT.sIx_nat, Nat.min_eq_left h]
  simp
theorem cut_from {α : Type} (f : α → D) (xs : List α) {k : Nat} (h : k ≤ xs.length) : cutD (xs.map f) (some (k : Int)) none = (xs.drop k).map f := by
  rw [cutD_map, HT.sIx_none, HT.sIx_nat, Nat.min_eq_left h]
  rw [List.take_of_length_le (by rw [List.length_drop]; omega)]
theorem cut_mid {α : Type} (f : α → D) (xs : List α) {a b : Nat} (ha : a ≤ xs.length) (hb : b ≤ xs.length) : cutD (xs.map f) (some (a : Int)) (some (b : Int)) = ((xs.drop a).take (b - a)).map f := by
  rw [cutD_map, HT.sIx_nat, HT.sIx_nat, Nat.min_eq_left ha, Nat.min_eq_left hb]
/-- what a node covers -/
def ivl (ns : List Nd) (i : Nat) : List Nat := match ns[i]? with
  | some x => List.range' x.start x.many
  | none => []
def wt1 (ns : List Nd) (i : Nat) : Nat := match ns[i]? with
  | some x => 2 * x.many - 1
  | none => 0
theorem cov_flat {ns : List Nd} : ∀ {ps : List Nat} {st en : Nat}, Cov ns st ps en → st ≤ en ∧ ps.flatMap (ivl ns) = List.range' st (en - st) ∧ (ps.map (wt1 ns)).sum + ps.length = 2 * (en - st)
  | [], st, en, h => by cases (show st = en from h); simp
  | p :: ps, st, en, ⟨x, h1, h2, h3, h4⟩ => by
    obtain ⟨i1, i2, i3⟩ := cov_flat h4
    refine ⟨by omega, ?_, ?_⟩
    · rw [List.flatMap_cons, i2]
      unfold ivl
      rw [h1]
      dsimp only
      rw [h2, show en - st = x.many + (en - (st + x.many)) by omega, ← List.range'_append]
      simp
    · rw [List.map_cons, List.sum_cons, List.length_cons]
      have : wt1 ns p = 2 * x.many - 1 := by unfold wt1; rw [h1]
      omega
theorem getD_range (ps : List Nat) : (List.range ps.length).map (fun i => ps.getD i 0) = ps := by
  apply List.ext_getElem (by simp)
  intro i h1 h2
  simp [List.getD_eq_getElem?_getD, List.getElem?_eq_getElem h2]
theorem pick_perm {nums ps : List Nat} (h : nums.Perm (List.range ps.length)) : (nums.map fun i => ps.getD i 0).Perm ps := by
  have := h.map fun i => ps.getD i 0
  rwa [getD_range] at this
/-- the places below a node, in the order of the home row -/
def exp (ns : List Nd) : Nat → Nat → List Nat
  | 0, i => [i]
  | f + 1, i => match ns[i]? with
    | some x => if x.parts = [] then [i] else (x.nums.map fun j => x.parts.getD j 0).flatMap (exp ns f)
    | none => [i]
theorem NInv.of {ns : List Nd} {size i : Nat} {x : Nd} (h : NInv ns size ns.length) (e : ns[i]? = some x) : Ok1 ns size i x := h.done i x (List.getElem?_eq_some_iff.mp e).1 e
/-- a node with parts -/
theorem Ok1.parts {ns : List Nd} {size i : Nat} {x : Nd} (h : Ok1 ns size i x) (hp : x.parts ≠ []) : 1 < x.many ∧ 2 ≤ x.parts.length ∧ (∀ p ∈ x.parts, i < p ∧ p < ns.length) ∧ Cov ns x.start x.parts (x.start + x.many) ∧ x.nums.Perm (List.range x.parts.length) ∧ Fm ns x.kind x.parts x.nums := by
  rcases h.2.2 with z | z
  · exact absurd z.2.1 hp
  · exact z
theorem exp_fuel {ns : List Nd} {size : Nat} (h : NInv ns size ns.length) : ∀ (f g i : Nat), ns.length ≤ i + f → ns.length ≤ i + g → exp ns f i = exp ns g i
  | 0, 0, _, _, _ => rfl
  | 0, g + 1, i, hf, _ => by
    have : ns[i]? = none := List.getElem?_eq_none (by omega)
    simp [exp, this]
  | f + 1, 0, i, _, hg => by
    have : ns[i]? = none := List.getElem?_eq_none (by omega)
    simp [exp, this]
  | f + 1, g + 1, i, hf, hg => by
    cases e : ns[i]? with
    | none => simp [exp, e]
    | some x =>
      simp only [exp, e]
      by_cases hp : x.parts = []
      · rw [if_pos hp, if_pos hp]
      · rw [if_neg hp, if_neg hp]
        obtain ⟨_, _, p3, _, p5, _⟩ := (h.of e).parts hp
        have : ∀ l : List Nat, (∀ p ∈ l, i < p) → l.flatMap (exp ns f) = l.flatMap (exp ns g) := fun l => by
          induction l with
          | nil => intro _; rfl
          | cons p l ih =>
            intro hl
            have := hl p List.mem_cons_self
            rw [List.flatMap_cons, List.flatMap_cons, exp_fuel h f g p (by omega) (by omega), ih fun q hq => hl q (List.mem_cons_of_mem _ hq)]
        exact this _ fun p hp' => (p3 p ((pick_perm p5).mem_iff.mp hp')).1
theorem exp_leaf {ns : List Nd} {x : Nd} {f i : Nat} (e : ns[i]? = some x) (hp : x.parts = []) : exp ns f i = [i] := by
  cases f with
  | zero => rfl
  | succ f => simp [exp, e, hp]
theorem exp_node {ns : List Nd} {size : Nat} (h : NInv ns size ns.length) {x : Nd} {i : Nat} (e : ns[i]? = some x) (hp : x.parts ≠ []) : exp ns ns.length i = (x.nums.map fun j => x.parts.getD j 0).flatMap (exp ns ns.length) := by
  have hl := (List.getElem?_eq_some_iff.mp e).1
  rw [exp_fuel h ns.length (ns.length + 1) i (by omega) (by omega)]
  conv => lhs; unfold exp
  rw [e]
  exact if_neg hp
structure HInv (ns : List Nd) (size : Nat) (row : List Nat) (k : Nat) : Prop where
  le : k ≤ row.length
  all : ∀ i ∈ row, i < ns.length
  leaf : ∀ i ∈ row.take k, ∀ x, ns[i]? = some x → x.many = 1
  fl : (row.flatMap (ivl ns)).Perm (List.range size)
  wt : k + ((row.drop k).map (wt1 ns)).sum ≤ 2 * size - 1
  ex : row.flatMap (exp ns ns.length) = exp ns ns.length 0
theorem HInv.start {ns : List Nd} {size : Nat} (h : NInv ns size ns.length) : HInv ns size [0] 0 := by
  obtain ⟨x, e, h1, h2⟩ := h.ne
  obtain ⟨hl, _⟩ := List.getElem?_eq_some_iff.mp e
  refine ⟨by simp, fun i hi => by rw [List.mem_singleton] at hi; subst hi; exact hl, fun i hi => by simp at hi, ?_, ?_, by simp⟩
  · rw [List.flatMap_cons, List.flatMap_nil, List.append_nil]
    unfold ivl
    rw [e]
    dsimp only
    rw [h1, h2, List.range_eq_range']
  · simp only [List.drop_zero, List.map_cons, List.map_nil, List.sum_cons, List.sum_nil]
    unfold wt1
    rw [e, ← h2]
    simp
theorem HInv.step {ns : List Nd} {size k i : Nat} {row : List Nat} {x : Nd} (h : HInv ns size row k) (e : row[k]? = some i) (ex : ns[i]? = some x) (h1 : x.many = 1) : HInv ns size row (k + 1) := by
  obtain ⟨hl, hi⟩ := List.getElem?_eq_some_iff.mp e
  refine ⟨hl, h.all, fun j hj y ey => ?_, h.fl, ?_, h.ex⟩
  · rw [List.take_add_one, e] at hj
    rcases List.mem_append.mp hj with hj | hj
    · exact h.leaf j hj y ey
    · have : j = i := by simpa using hj
      subst this
      rw [ex] at ey; cases ey
      exact h1
  · have := h.wt
    rw [List.drop_eq_getElem_cons hl, hi, List.map_cons, List.sum_cons] at this
    have : wt1 ns i = 1 := by unfold wt1; rw [ex]; dsimp only; omega
    omega
theorem HInv.put {ns : List Nd} {size k i : Nat} {row : List Nat} {x : Nd} (hI : NInv ns size ns.length) (h : HInv ns size row k) (e : row[k]? = some i) (ex : ns[i]? = some x) (h2 : 2 ≤ x.parts.length) (hp : ∀ p ∈ x.parts, p < ns.length) (hc : Cov ns x.start x.parts (x.start + x.many)) (hn : x.nums.Perm (List.range x.parts.length)) :
    HInv ns size (row.take k ++ (x.nums.map fun j => x.parts.getD j 0) ++ row.drop (k + 1)) k ∧ 2 * size - (k + ((((row.take k ++ (x.nums.map fun j => x.parts.getD j 0) ++ row.drop (k + 1)).drop k).map (wt1 ns)).sum)) > 2 * size - (k + ((row.drop k).map (wt1 ns)).sum) := by
  obtain ⟨hl, hi⟩ := List.getElem?_eq_some_iff.mp e
  have pp := pick_perm hn
  obtain ⟨c1, c2, c3⟩ := cov_flat hc
  have htl : (row.take k).length = k := by rw [List.length_take]; omega
  have ed : (row.take k ++ (x.nums.map fun j => x.parts.getD j 0) ++ row.drop (k + 1)).drop k = (x.nums.map fun j => x.parts.getD j 0) ++ row.drop (k + 1) := by
    rw [List.append_assoc, List.drop_append_of_le_length (by omega), List.drop_eq_nil_of_le (by omega), List.nil_append]
  have er : row.drop k = i :: row.drop (k + 1) := by rw [List.drop_eq_getElem_cons hl, hi]
  have w0 := h.wt
  have ws : ((x.nums.map fun j => x.parts.getD j 0).map (wt1 ns)).sum = (x.parts.map (wt1 ns)).sum := (pp.map _).sum_nat
  have wi : wt1 ns i = 2 * x.many - 1 := by unfold wt1; rw [ex]
  refine ⟨⟨?_, fun j hj => ?_, fun j hj y ey => ?_, ?_, ?_, ?_⟩, ?_⟩
  · rw [List.length_append, List.length_append, htl]; omega
  · rcases List.mem_append.mp hj with hj | hj
    · rcases List.mem_append.mp hj with hj | hj
      · exact h.all j (List.mem_of_mem_take hj)
      · exact hp j (pp.mem_iff.mp hj)
    · exact h.all j (List.mem_of_mem_drop hj)
  · rw [List.append_assoc, List.take_append_of_le_length (by omega), List.take_of_length_le (by omega)] at hj
    exact h.leaf j hj y ey
  · refine List.Perm.trans ?_ h.fl
    conv => rhs; rw [← List.take_append_drop k row, er]
    rw [List.flatMap_append, List.flatMap_append, List.flatMap_append, List.flatMap_cons, List.append_assoc]
    refine List.Perm.append_left _ (List.Perm.append_right _ ?_)
    refine (pp.flatMap_right _).trans ?_
    rw [c2]
    unfold ivl
    rw [ex]
    dsimp only
    rw [Nat.add_sub_cancel_left]
  · rw [ed, List.map_append, List.sum_append, ws]
    rw [er, List.map_cons, List.sum_cons, wi] at w0
    omega
  · rw [← h.ex]
    conv => rhs; rw [← List.take_append_drop k row, er]
    rw [List.flatMap_append, List.flatMap_append, List.flatMap_append, List.flatMap_cons, List.append_assoc, exp_node hI ex (fun z => by rw [z] at h2; simp at h2)]
  · rw [ed, List.map_append, List.sum_append, ws]
    rw [er, List.map_cons, List.sum_cons, wi] at w0 ⊢
    omega
/-- the home row of the books -/
def homeOf (ns : List Nd) (cat : List Str) : List Str := (exp ns ns.length 0).map fun i => cat.getD ((ns[i]?.map (·.start)).getD 0) ⟨#[]⟩
theorem HInv.row {ns : List Nd} {size : Nat} {row : List Nat} (hI : NInv ns size ns.length) (h : HInv ns size row row.length) : row = exp ns ns.length 0 := by
  have : ∀ l : List Nat, (∀ i ∈ l, i < ns.length ∧ ∀ x, ns[i]? = some x → x.many = 1) → l.flatMap (exp ns ns.length) = l := by
    intro l
    induction l with
    | nil => intro _; rfl
    | cons i l ih =>
      intro hl
      obtain ⟨h1, h2⟩ := hl i List.mem_cons_self
      have ex : ns[i]? = some ns[i] := List.getElem?_eq_getElem h1
      have hp : ns[i].parts = [] := by
        rcases (hI.of ex).2.2 with z | z
        · exact z.2.1
        · have := h2 _ ex; omega
      rw [List.flatMap_cons, ih fun j hj => hl j (List.mem_cons_of_mem _ hj), exp_leaf ex hp]
      rfl
  rw [← h.ex, this row fun i hi => ⟨h.all i hi, h.leaf i (by rw [List.take_length]; exact hi)⟩]
/-- at the end the row is an arrangement of the places -/
theorem HInv.ends {ns : List Nd} {size : Nat} {row : List Nat} (h : HInv ns size row row.length) {cat : List Str} (hc : cat.length = size) : (row.map fun i => cat.getD ((ns[i]?.map (·.start)).getD 0) ⟨#[]⟩).Perm cat := by
  have e : row.flatMap (ivl ns) = row.map fun i => (ns[i]?.map (·.start)).getD 0 := by
    have : ∀ l : List Nat, (∀ i ∈ l, i < ns.length ∧ ∀ x, ns[i]? = some x → x.many = 1) → l.flatMap (ivl ns) = l.map fun i => (ns[i]?.map (·.start)).getD 0 := by
      intro l
      induction l with
      | nil => intro _; rfl
      | cons i l ih =>
        intro hl
        obtain ⟨h1, h2⟩ := hl i List.mem_cons_self
        have ex : ns[i]? = some ns[i] := List.getElem?_eq_getElem h1
        rw [List.flatMap_cons, ih fun j hj => hl j (List.mem_cons_of_mem _ hj), List.map_cons]
        have : ivl ns i = [ns[i].start] := by
          unfold ivl
          rw [ex]
          dsimp only
          rw [h2 _ ex]
          rfl
        rw [this, ex]
        rfl
    exact this row fun i hi => ⟨h.all i hi, h.leaf i (by rw [List.take_length]; exact hi)⟩
  have := h.fl
  rw [e] at this
  have := this.map fun j => cat.getD j ⟨#[]⟩
  rw [List.map_map] at this
  refine this.trans (List.Perm.of_eq ?_)
  rw [← hc]
  apply List.ext_getElem (by simp)
  intro i h1 h2
  simp [List.getD_eq_getElem?_getD, List.getElem?_eq_getElem h2]
/-- what stands below a node -/
theorem exp_ivl {ns : List Nd} {size : Nat} (h : NInv ns size ns.length) : ∀ (g i : Nat) (x : Nd), ns.length ≤ i + g → ns[i]? = some x → ((exp ns ns.length i).flatMap (ivl ns)).Perm (List.range' x.start x.many)
  | 0, i, x, hg, e => by
    have := (List.getElem?_eq_some_iff.mp e).1
    omega
  | g + 1, i, x, hg, e => by
    by_cases hp : x.parts = []
    · rw [exp_leaf e hp, List.flatMap_cons, List.flatMap_nil, List.append_nil]
      unfold ivl
      rw [e]
    · obtain ⟨_, _, p3, p4, p5, _⟩ := (h.of e).parts hp
      rw [exp_node h e hp]
      have step : ∀ l : List Nat, (∀ p ∈ l, i < p ∧ p < ns.length) → ((l.flatMap (exp ns ns.length)).flatMap (ivl ns)).Perm (l.flatMap (ivl ns)) := fun l => by
        induction l with
        | nil => intro _; exact .refl _
        | cons p l ih =>
          intro hl
          obtain ⟨h1, h2⟩ := hl p List.mem_cons_self
          have ep : ns[p]? = some ns[p] := List.getElem?_eq_getElem h2
          rw [List.flatMap_cons, List.flatMap_append, List.flatMap_cons]
          refine List.Perm.append ?_ (ih fun q hq => hl q (List.mem_cons_of_mem _ hq))
          have z := exp_ivl h g p _ (by omega) ep
          have : ivl ns p = List.range' ns[p].start ns[p].many := by unfold ivl; rw [ep]
          rw [this]; exact z
      have pp := pick_perm p5
      refine (step _ fun p hp' => p3 p (pp.mem_iff.mp hp')).trans ((pp.flatMap_right _).trans ?_)
      rw [(cov_flat p4).2.1, Nat.add_sub_cancel_left]
/-- each node stands together in the home row -/
theorem exp_in {ns : List Nd} {size : Nat} (h : NInv ns size ns.length) : ∀ (i : Nat), i < ns.length → ∃ pre post, exp ns ns.length 0 = pre ++ exp ns ns.length i ++ post := by
  intro i
  induction i using Nat.strongRecOn with
  | _ i ih =>
    intro hi
    by_cases h0 : i = 0
    · subst h0; exact ⟨[], [], by simp⟩
    · obtain ⟨j, x, hj, ex, hm⟩ := h.par i (by omega) hi
      obtain ⟨pre, post, e⟩ := ih j hj (by omega)
      have hp : x.parts ≠ [] := fun z => by rw [z] at hm; cases hm
      obtain ⟨_, _, p3, p4, p5, _⟩ := (h.of ex).parts hp
      have := (pick_perm p5).mem_iff.mpr hm
      obtain ⟨a, b, eab⟩ := List.append_of_mem this
      rw [exp_node h ex hp, eab, List.flatMap_append, List.flatMap_cons] at e
      exact ⟨pre ++ a.flatMap (exp ns ns.length), b.flatMap (exp ns ns.length) ++ post, by rw [e]; simp⟩
end PL
namespace PL
open PySem PySem.Spec L2 DL
theorem tupleD_lst {ds : List D} {P : D → Prop} : tupleD [.lst ds] P = P (.tup ds) := rfl
theorem tupleD_tup {ds : List D} {P : D → Prop} : tupleD [.tup ds] P = P (.tup ds) := rfl
/-- tuples of texts -/
abbrev tS (t : List Str) : D := .tup (t.map D.str)
def tP (t : List Str) : PyData := .tuple (t.map PyData.str)
theorem toPy_tS (t : List Str) : toPy (tS t) = some (tP t) := by
  simp only [tS, toPy, toPys_strs, Option.map_some, tP]
theorem toPys_tS : ∀ ts : List (List Str), toPys (ts.map tS) = some (ts.map tP)
  | [] => rfl
  | t :: ts => by simp only [List.map_cons, toPys, toPy_tS, toPys_tS ts]
def leT : List Str → List Str → Bool := PySem.W.dataLe false tP
theorem sortGD_tups {ts : List (List Str)} {P : D → Prop} (hne : ∀ t ∈ ts, t ≠ []) (hl : ts.length ≤ 16777216) (h : P (.lst ((ts.mergeSort leT).map tS))) : sortGD [.lst (ts.map tS)] P := by
  refine ⟨ts.map tP, toPys_tS ts, ?_, .inl ?_, ?_, by rw [List.length_map, sizeLine_eq]; exact hl, ?_⟩
  · intro d hd d' hd'
    obtain ⟨x, _, rfl⟩ := List.mem_map.mp hd
    obtain ⟨y, _, rfl⟩ := List.mem_map.mp hd'
    unfold tP
    rw [PySem.W.alike]
    exact alike_strs x y
  · intro d hd
    obtain ⟨x, hx, rfl⟩ := List.mem_map.mp hd
    cases x with
    | nil => exact absurd rfl (hne _ hx)
    | cons y r => exact ⟨.str y, r.map PyData.str, rfl⟩
  · intro d hd
    obtain ⟨x, _, rfl⟩ := List.mem_map.mp hd
    unfold tP
    rw [PyData.depth, depth_strs]
    omega
  · have e : sortD (ts.map tS) = (ts.mergeSort leT).map tS := by
      unfold sortD
      rw [List.map_mergeSort (r := leT) (s := PySem.W.dataLe false dpy) (f := tS) (fun a _ b _ => by
        unfold leT
        rw [show tP = fun t => dpy (tS t) from funext fun t => by unfold dpy; rw [toPy_tS]; rfl]
        rfl)]
    rw [e]
    exact h
theorem cov_get {ns : List Nd} : ∀ {ps : List Nat} {st en : Nat}, Cov ns st ps en → ∀ (j : Nat) p, ps[j]? = some p → ∃ x, ns[p]? = some x ∧ st ≤ x.start ∧ 1 ≤ x.many ∧ x.start + x.many ≤ en ∧ ∀ (l : Nat) p', j < l → ps[l]? = some p' → ∀ y, ns[p']? = some y → x.start + x.many ≤ y.start
  | [], _, _, _, j, p, h => by simp at h
  | p0 :: ps, st, en, ⟨x, h1, h2, h3, h4⟩, 0, p, h => by
    have : p0 = p := by simpa using h
    subst this
    refine ⟨x, h1, by omega, h3, by have := (cov_flat h4).1; omega, fun l p' hl hp' y hy => ?_⟩
    cases l with
    | zero => omega
    | succ l =>
      obtain ⟨z, z1, z2, z3, _⟩ := cov_get h4 l p' (by simpa using hp')
      rw [hy] at z1; cases z1
      omega
  | p0 :: ps, st, en, ⟨x, h1, h2, h3, h4⟩, j + 1, p, h => by
    obtain ⟨z, z1, z2, z3, z4, z5⟩ := cov_get h4 j p (by simpa using h)
    refine ⟨z, z1, by omega, z3, z4, fun l p' hl hp' y hy => ?_⟩
    cases l with
    | zero => omega
    | succ l => exact z5 l p' (by omega) (by simpa using hp') y hy
/-- a piece of a catalogue -/
theorem piece {cat : List Str} {a b : Nat} (h1 : a < b) (h2 : b ≤ cat.length) : (cat.drop a).take (b - a) ≠ [] ∧ (∀ x ∈ (cat.drop a).take (b - a), x ∈ cat) ∧ ((cat.drop a).take (b - a)).length ≤ cat.length := by
  refine ⟨fun z => ?_, fun x hx => List.mem_of_mem_drop (List.mem_of_mem_take hx), by rw [List.length_take, List.length_drop]; omega⟩
  have := congrArg List.length z
  rw [List.length_take, List.length_drop, List.length_nil] at this
  omega
theorem ixD_two {x y z : D} {r : List D} {P : D → Prop} : ixD (.lst (x :: y :: z :: r)) (.int 2) P = P z := by
  show optD (L2.atI (x :: y :: z :: r) 2) P = P z
  unfold L2.atI ixN
  rw [if_pos (by decide), if_pos (by simp only [List.length_cons]; omega)]
  rfl
theorem for_rng2v {ta tb : TD} {g : Pat} {t : TDS} {E : DEnds} {n : Nat} {ρ : List Sl} (i j : Int) (ha : ∀ K : D → Nat → Prop, K (.int i) n → ta n ρ K) (hb : ∀ K : D → Nat → Prop, K (.int j) n → tb n ρ K) (hi : -(2 ^ 62) ≤ i ∧ i < 2 ^ 62) (hj : -(2 ^ 62) ≤ j ∧ j < 2 ^ 62) (q : forD g t (rangeD i (j - i).toNat) E n ρ) : tForD (tRng2 ta tb) g t E n ρ :=
  ha _ (hb _ ⟨⟨hi.1, hi.2, hj.1, hj.2⟩, q⟩)
end PL
namespace PL
open PySem PySem.Spec L2 DL
theorem inV_strs (x : Str) : ∀ b : List Str, inV (.str x) (b.map V.str) = decide (x ∈ b)
  | [] => by simp [inV]
  | y :: b => by
    have ih := inV_strs x b
    unfold inV at ih ⊢
    rw [List.map_cons, List.any_cons, ih, show eqV (V.str y) (V.str x) = decide (y = x) from PySem.W.beq_decide y x, ← Bool.decide_or]
    exact decide_eq_decide.mpr (by rw [List.mem_cons, eq_comm (a := x)])
theorem inA_tS {x : Str} {b : List Str} {Q : Bool → Prop} (q : Q (decide (x ∈ b))) : inA (.str x) (tS b) Q := by
  show (match flatD (.str x), flatDs (b.map D.str) with
    | some v, some us => Q (inV v us)
    | _, _ => False)
  rw [flats_strs]
  show Q (inV (.str x) (b.map V.str))
  rw [inV_strs]
  exact q
theorem ix_lastD {ds : List D} {d : D} {P : D → Prop} (h : ds.getLast? = some d) (q : P d) : ixD (.lst ds) (.int (-1)) P := by
  show optD (L2.atI ds (-1)) P
  have hne : ds ≠ [] := fun e => by subst e; cases h
  have hl : 0 < ds.length := List.length_pos_iff.mpr hne
  unfold L2.atI ixN
  rw [if_neg (by decide), if_pos (by omega)]
  show optD ds[((-1 : Int) + (ds.length : Nat)).toNat]? P
  rw [show ((-1 : Int) + (ds.length : Nat)).toNat = ds.length - 1 by omega, ← List.getLast?_eq_getElem?, h]
  exact q
/-- the first and the last place -/
theorem ends_of {n : Nat} {p : Nat → Bool} (h : ∃ i, i < n ∧ p i = true) : ∃ a b, ((List.range n).filter p).head? = some a ∧ ((List.range n).filter p).getLast? = some b ∧ a ≤ b ∧ b < n := by
  obtain ⟨i, hi, hp⟩ := h
  have hm : i ∈ (List.range n).filter p := List.mem_filter.mpr ⟨List.mem_range.mpr hi, hp⟩
  have pw : ((List.range n).filter p).Pairwise (· < ·) := (List.pairwise_lt_range).filter p
  cases e : (List.range n).filter p with
  | nil => rw [e] at hm; cases hm
  | cons a r =>
    rw [e] at pw
    obtain ⟨b, hb⟩ : ∃ b, (a :: r).getLast? = some b := ⟨_, List.getLast?_eq_some_getLast (by simp)⟩
    have hbm : b ∈ a :: r := List.mem_of_getLast? hb
    have hbn : b < n := by
      have : b ∈ (List.range n).filter p := by rw [e]; exact hbm
      exact List.mem_range.mp (List.mem_filter.mp this).1
    refine ⟨a, b, rfl, hb, ?_, hbn⟩
    rcases List.mem_cons.mp hbm with z | z
    · omega
    · exact Nat.le_of_lt ((List.pairwise_cons.mp pw).1 b z)
theorem turn_perm {α : Type} (xs : List α) {a b : Nat} (h : a ≤ b) : (xs.take a ++ ((xs.drop a).take (b - a)).reverse ++ xs.drop b).Perm xs := by
  have e : xs = xs.take a ++ (xs.drop a).take (b - a) ++ xs.drop b := by
    conv => lhs; rw [← List.take_append_drop a xs, ← List.take_append_drop (b - a) (xs.drop a), List.drop_drop, show a + (b - a) = b by omega]
    rw [List.append_assoc]
  conv => rhs; rw [e]
  exact List.Perm.append_right _ (List.Perm.append_left _ (List.reverse_perm _))
end PL
namespace PL
open PySem PySem.Spec L2 DL
/-- a stretch, both ends in it -/
def seg {α : Type} (xs : List α) (a c : Nat) : List α := (xs.drop a).take (c + 1 - a)
theorem seg_sub {α : Type} (xs : List α) (a c : Nat) : (seg xs a c).Sublist xs := (List.take_sublist _ _).trans (List.drop_sublist _ _)
theorem seg_len {α : Type} {xs : List α} {a c : Nat} (h1 : a ≤ c + 1) (h2 : c < xs.length) : (seg xs a c).length = c + 1 - a := by
  unfold seg
  rw [List.length_take, List.length_drop]; omega
theorem seg_get {α : Type} {xs : List α} {a c i : Nat} (h : a + i ≤ c) : (seg xs a c)[i]? = xs[a + i]? := by
  unfold seg
  rw [List.getElem?_take, if_pos (by omega), List.getElem?_drop]
theorem seg_map {α β : Type} (f : α → β) (xs : List α) (a c : Nat) : seg (xs.map f) a c = (seg xs a c).map f := by
  unfold seg
  rw [List.map_take, List.map_drop]
theorem seg_snoc {α : Type} {xs : List α} {a c : Nat} {x : α} (h : a ≤ c + 1) (e : xs[c + 1]? = some x) : seg xs a (c + 1) = seg xs a c ++ [x] := by
  unfold seg
  rw [show c + 1 + 1 - a = (c + 1 - a) + 1 by omega, List.take_add_one, List.getElem?_drop, show a + (c + 1 - a) = c + 1 by omega, e]
  rfl
theorem seg_one {α : Type} {xs : List α} {a : Nat} {x : α} (e : xs[a]? = some x) : seg xs a a = [x] := by
  unfold seg
  obtain ⟨h, e⟩ := List.getElem?_eq_some_iff.mp e
  rw [show a + 1 - a = 1 by omega, List.drop_eq_getElem_cons h, List.take_succ_cons, List.take_zero, e]
theorem idx_get {xs : List Str} {x : Str} {i : Nat} (h : xs.Nodup) (e : xs[i]? = some x) : xs.idxOf x = i := by
  obtain ⟨hi, e⟩ := List.getElem?_eq_some_iff.mp e
  rw [← e]
  exact h.idxOf_getElem i hi
theorem get_idx {xs : List Str} {x : Str} (h : x ∈ xs) : xs[xs.idxOf x]? = some x := by
  have hl := List.idxOf_lt_length_of_mem h
  rw [List.getElem?_eq_getElem hl, List.getElem_idxOf hl]
theorem mem_seg {xs : List Str} (hn : xs.Nodup) {a c : Nat} {x : Str} : x ∈ seg xs a c ↔ x ∈ xs ∧ a ≤ xs.idxOf x ∧ xs.idxOf x ≤ c := by
  constructor
  · intro h
    obtain ⟨i, e⟩ := List.mem_iff_getElem?.mp h
    have hi : i < c + 1 - a := by
      obtain ⟨hi, _⟩ := List.getElem?_eq_some_iff.mp e
      unfold seg at hi
      rw [List.length_take] at hi
      omega
    rw [seg_get (by omega)] at e
    rw [idx_get hn e]
    exact ⟨List.mem_of_getElem? e, by omega, by omega⟩
  · rintro ⟨h, h1, h2⟩
    refine List.mem_of_getElem? (i := xs.idxOf x - a) ?_
    rw [seg_get (by omega), show a + (xs.idxOf x - a) = xs.idxOf x by omega]
    exact get_idx h
/-- least and greatest -/
def lo (ns : List Nat) : Nat := ns.foldl min (ns.headD 0)
def hi (ns : List Nat) : Nat := ns.foldl max (ns.headD 0)
theorem foldl_min_le : ∀ (ns : List Nat) (a : Nat), ns.foldl min a ≤ a ∧ (∀ y ∈ ns, ns.foldl min a ≤ y) ∧ (ns.foldl min a = a ∨ ns.foldl min a ∈ ns)
  | [], a => ⟨Nat.le_refl _, by simp, .inl rfl⟩
  | x :: ns, a => by
    obtain ⟨h1, h2, h3⟩ := foldl_min_le ns (min a x)
    rw [List.foldl_cons]
    refine ⟨by omega, fun y hy => ?_, ?_⟩
    · rcases List.mem_cons.mp hy with rfl | hy
      · omega
      · exact h2 y hy
    · rcases h3 with h3 | h3
      · by_cases h : a ≤ x
        · exact .inl (by omega)
        · exact .inr (List.mem_cons.mpr (.inl (by omega)))
      · exact .inr (List.mem_cons_of_mem _ h3)
theorem foldl_max_le : ∀ (ns : List Nat) (a : Nat), a ≤ ns.foldl max a ∧ (∀ y ∈ ns, y ≤ ns.foldl max a) ∧ (ns.foldl max a = a ∨ ns.foldl max a ∈ ns)
  | [], a => ⟨Nat.le_refl _, by simp, .inl rfl⟩
  | x :: ns, a => by
    obtain ⟨h1, h2, h3⟩ := foldl_max_le ns (max a x)
    rw [List.foldl_cons]
    refine ⟨by omega, fun y hy => ?_, ?_⟩
    · rcases List.mem_cons.mp hy with rfl | hy
      · omega
      · exact h2 y hy
    · rcases h3 with h3 | h3
      · by_cases h : x ≤ a
        · exact .inl (by omega)
        · exact .inr (List.mem_cons.mpr (.inl (by omega)))
      · exact .inr (List.mem_cons_of_mem _ h3)
theorem lo_le {ns : List Nat} {y : Nat} (h : y ∈ ns) : lo ns ≤ y := (foldl_min_le ns _).2.1 y h
theorem le_hi {ns : List Nat} {y : Nat} (h : y ∈ ns) : y ≤ hi ns := (foldl_max_le ns _).2.1 y h
theorem lo_mem {ns : List Nat} (h : ns ≠ []) : lo ns ∈ ns := by
  cases ns with
  | nil => exact absurd rfl h
  | cons x ns =>
    rcases (foldl_min_le (x :: ns) x).2.2 with z | z
    · exact List.mem_cons.mpr (.inl z)
    · exact z
theorem hi_mem {ns : List Nat} (h : ns ≠ []) : hi ns ∈ ns := by
  cases ns with
  | nil => exact absurd rfl h
  | cons x ns =>
    rcases (foldl_max_le (x :: ns) x).2.2 with z | z
    · exact List.mem_cons.mpr (.inl z)
    · exact z
theorem lo_snoc {ns : List Nat} (h : ns ≠ []) (x : Nat) : lo (ns ++ [x]) = min (lo ns) x := by
  cases ns with
  | nil => exact absurd rfl h
  | cons y ns =>
    unfold lo
    rw [List.cons_append, List.headD_cons, List.headD_cons, ← List.cons_append, List.foldl_append]
    rfl
theorem hi_snoc {ns : List Nat} (h : ns ≠ []) (x : Nat) : hi (ns ++ [x]) = max (hi ns) x := by
  cases ns with
  | nil => exact absurd rfl h
  | cons y ns =>
    unfold hi
    rw [List.cons_append, List.headD_cons, List.headD_cons, ← List.cons_append, List.foldl_append]
    rfl
theorem lo_hi {ns : List Nat} (h : ns ≠ []) : lo ns ≤ hi ns := le_hi (lo_mem h)
theorem lo_eq {ns : List Nat} {m : Nat} (h : m ∈ ns) (q : ∀ y ∈ ns, m ≤ y) : lo ns = m :=
  Nat.le_antisymm (lo_le h) (q _ (lo_mem (List.ne_nil_of_mem h)))
theorem hi_eq {ns : List Nat} {m : Nat} (h : m ∈ ns) (q : ∀ y ∈ ns, y ≤ m) : hi ns = m :=
  Nat.le_antisymm (q _ (hi_mem (List.ne_nil_of_mem h))) (le_hi h)
theorem minD_nats {ns : List Nat} {P : D → Prop} (h : ns ≠ []) (q : P (.int (lo ns : Nat))) : minD [lN ns] P := by
  show (match intsD (ns.map fun x => D.int ((x : Nat) : Int)) with
    | some ns => 0 < ns.length ∧ ∀ m, m ∈ ns → (∀ y, y ∈ ns → m ≤ y) → P (.int m)
    | none => False)
  rw [intsD_nats]
  refine ⟨by rw [List.length_map]; exact List.length_pos_iff.mpr h, fun m hm hy => ?_⟩
  obtain ⟨k, hk, rfl⟩ := List.mem_map.mp hm
  rwa [← lo_eq hk fun y hyy => by have := hy y (List.mem_map.mpr ⟨y, hyy, rfl⟩); omega]
theorem maxD_nats {ns : List Nat} {P : D → Prop} (h : ns ≠ []) (q : P (.int (hi ns : Nat))) : maxD [lN ns] P := by
  show (match intsD (ns.map fun x => D.int ((x : Nat) : Int)) with
    | some ns => 0 < ns.length ∧ ∀ m, m ∈ ns → (∀ y, y ∈ ns → y ≤ m) → P (.int m)
    | none => False)
  rw [intsD_nats]
  refine ⟨by rw [List.length_map]; exact List.length_pos_iff.mpr h, fun m hm hy => ?_⟩
  obtain ⟨k, hk, rfl⟩ := List.mem_map.mp hm
  rwa [← hi_eq hk fun y hyy => by have := hy y (List.mem_map.mpr ⟨y, hyy, rfl⟩); omega]
theorem nd_len {α : Type} [DecidableEq α] : ∀ {l xs : List α}, l.Nodup → (∀ a ∈ l, a ∈ xs) → l.length ≤ xs.length
  | [], _, _, _ => Nat.zero_le _
  | a :: l, xs, hn, h => by
    have ha := h a List.mem_cons_self
    rw [List.nodup_cons] at hn
    have ih := nd_len (xs := xs.erase a) hn.2 fun b hb => (List.mem_erase_of_ne (fun e => hn.1 (by rw [← e]; exact hb))).mpr (h b (List.mem_cons_of_mem _ hb))
    rw [List.length_erase_of_mem ha] at ih
    have := List.length_pos_of_mem ha
    rw [List.length_cons]; omega
theorem nd_onto {α : Type} [DecidableEq α] {l xs : List α} (hn : l.Nodup) (h : ∀ a ∈ l, a ∈ xs) (hl : xs.length ≤ l.length) : ∀ a ∈ xs, a ∈ l := fun a ha => by
  by_cases z : a ∈ l
  · exact z
  · have := nd_len (l := a :: l) (xs := xs) (List.nodup_cons.mpr ⟨z, hn⟩) fun b hb => by
      rcases List.mem_cons.mp hb with rfl | hb
      · exact ha
      · exact h b hb
    rw [List.length_cons] at this
    omega
/-- the ranks of a row -/
def rk (cat row : List Str) : List Nat := row.map cat.idxOf
/-- the run at places b to e, if there is one -/
def runAt (cat : List Str) (ns : List Nat) (b e : Nat) : Option (List Str) :=
  if hi (seg ns b e) - lo (seg ns b e) = e - b then some (seg cat (lo (seg ns b e)) (hi (seg ns b e))) else none
/-- all runs as they are found -/
def runsL (cat : List Str) (ns : List Nat) : List (List Str) :=
  (List.range ns.length).flatMap fun b => (List.range (ns.length - 1 - b)).filterMap fun j => runAt cat ns b (b + 1 + j)
theorem mem_runsL {cat : List Str} {ns : List Nat} {t : List Str} : t ∈ runsL cat ns ↔ ∃ b e, b < e ∧ e < ns.length ∧ runAt cat ns b e = some t := by
  unfold runsL
  rw [List.mem_flatMap]
  constructor
  · rintro ⟨b, hb, h⟩
    obtain ⟨j, hj, e⟩ := List.mem_filterMap.mp h
    have := List.mem_range.mp hb
    have := List.mem_range.mp hj
    exact ⟨b, b + 1 + j, by omega, by omega, e⟩
  · rintro ⟨b, e, h1, h2, h⟩
    refine ⟨b, List.mem_range.mpr (by omega), List.mem_filterMap.mpr ⟨e - b - 1, List.mem_range.mpr (by omega), ?_⟩⟩
    rwa [show b + 1 + (e - b - 1) = e by omega]
structure Sh (cat row : List Str) : Prop where
  nd : cat.Nodup
  pm : row.Perm cat
theorem Sh.nr {cat row : List Str} (h : Sh cat row) : row.Nodup := h.pm.nodup_iff.mpr h.nd
theorem Sh.rkl {cat row : List Str} (h : Sh cat row) : (rk cat row).length = cat.length := by unfold rk; rw [List.length_map, h.pm.length_eq]
theorem Sh.rkne {cat row : List Str} (h : Sh cat row) {b e : Nat} (h1 : b ≤ e) (h2 : e < cat.length) : seg (rk cat row) b e ≠ [] := by
  intro z
  have := seg_len (xs := rk cat row) (a := b) (c := e) (by omega) (by rw [h.rkl]; exact h2)
  rw [z, List.length_nil] at this
  omega
theorem Sh.rk_lt {cat row : List Str} (h : Sh cat row) {b e y : Nat} (hy : y ∈ seg (rk cat row) b e) : y < cat.length := by
  unfold rk at hy
  rw [seg_map] at hy
  obtain ⟨x, hx, rfl⟩ := List.mem_map.mp hy
  exact List.idxOf_lt_length_of_mem (h.pm.mem_iff.mp ((seg_sub _ _ _).mem hx))
/-- what a run is -/
theorem Sh.run {cat row : List Str} (h : Sh cat row) {b e : Nat} {t : List Str} (h1 : b ≤ e) (h2 : e < cat.length) (ht : runAt cat (rk cat row) b e = some t) :
    ∃ a c, a ≤ c ∧ c < cat.length ∧ c - a = e - b ∧ t = seg cat a c ∧ ∀ x, x ∈ seg cat a c ↔ x ∈ seg row b e := by
  unfold runAt at ht
  split at ht
  · rename_i hd
    have hne := h.rkne h1 h2
    have hh := h.rk_lt (hi_mem hne)
    have hlh := lo_hi hne
    refine ⟨_, _, hlh, hh, hd, (Option.some.inj ht).symm, ?_⟩
    have fw : ∀ x ∈ seg row b e, x ∈ seg cat (lo (seg (rk cat row) b e)) (hi (seg (rk cat row) b e)) := fun x hx => by
      have hm : cat.idxOf x ∈ seg (rk cat row) b e := by
        unfold rk
        rw [seg_map]
        exact List.mem_map.mpr ⟨x, hx, rfl⟩
      exact (mem_seg h.nd).mpr ⟨h.pm.mem_iff.mp ((seg_sub _ _ _).mem hx), lo_le hm, le_hi hm⟩
    refine fun x => ⟨fun hx => ?_, fw x⟩
    refine nd_onto ((h.nr).sublist (seg_sub _ _ _)) fw ?_ x hx
    rw [seg_len (by omega) hh, seg_len (by omega) (by rw [h.pm.length_eq]; exact h2)]
    omega
  · cases ht
/-- a step of the closure: the hull of s in the row, then in the catalogue -/
theorem Sh.step {cat row s : List Str} (h : Sh cat row) (hs : s ≠ []) (hn : s.Nodup) (hc : ∀ x ∈ s, x ∈ cat) {b e a c : Nat}
    (hb : b = lo (s.map row.idxOf)) (he : e = hi (s.map row.idxOf)) (ha : a = lo (seg (rk cat row) b e)) (hcc : c = hi (seg (rk cat row) b e)) :
    b ≤ e ∧ e < cat.length ∧ a ≤ c ∧ c < cat.length ∧ (∀ x ∈ s, x ∈ seg cat a c) ∧ s.length ≤ c + 1 - a ∧
    (∀ t ∈ runsL cat (rk cat row), (∀ x ∈ s, x ∈ t) → ∀ x ∈ seg cat a c, x ∈ t) ∧
    (2 ≤ s.length → c + 1 - a ≤ s.length → seg cat a c ∈ runsL cat (rk cat row)) := by
  have hne : s.map row.idxOf ≠ [] := fun z => hs (List.map_eq_nil_iff.mp z)
  have hbe : b ≤ e := by rw [hb, he]; exact lo_hi hne
  have hel : e < cat.length := by
    obtain ⟨x, hx, z⟩ := List.mem_map.mp (hi_mem hne)
    rw [he, ← z, ← h.pm.length_eq]
    exact List.idxOf_lt_length_of_mem (h.pm.mem_iff.mpr (hc x hx))
  have hr := h.rkne hbe hel
  have hac : a ≤ c := by rw [ha, hcc]; exact lo_hi hr
  have hcl : c < cat.length := by rw [hcc]; exact h.rk_lt (hi_mem hr)
  have s1 : ∀ x ∈ s, x ∈ seg row b e := fun x hx => (mem_seg h.nr).mpr ⟨h.pm.mem_iff.mpr (hc x hx), by rw [hb]; exact lo_le (List.mem_map.mpr ⟨x, hx, rfl⟩), by rw [he]; exact le_hi (List.mem_map.mpr ⟨x, hx, rfl⟩)⟩
  have s2 : ∀ x ∈ seg row b e, x ∈ seg cat a c := fun x hx => by
    have hm : cat.idxOf x ∈ seg (rk cat row) b e := by
      unfold rk
      rw [seg_map]
      exact List.mem_map.mpr ⟨x, hx, rfl⟩
    exact (mem_seg h.nd).mpr ⟨h.pm.mem_iff.mp ((seg_sub _ _ _).mem hx), by rw [ha]; exact lo_le hm, by rw [hcc]; exact le_hi hm⟩
  have l1 := nd_len hn s1
  have l2 := nd_len ((h.nr).sublist (seg_sub row b e)) s2
  rw [seg_len (by omega) (by rw [h.pm.length_eq]; exact hel)] at l1
  rw [seg_len (by omega) (by rw [h.pm.length_eq]; exact hel), seg_len (by omega) hcl] at l2
  refine ⟨hbe, hel, hac, hcl, fun x hx => s2 x (s1 x hx), by omega, fun t ht hst x hx => ?_, fun h2 hle => ?_⟩
  · obtain ⟨b', e', hbe', hel', hrun⟩ := mem_runsL.mp ht
    rw [h.rkl] at hel'
    obtain ⟨a', c', h3, h4, h5, rfl, h6⟩ := h.run (by omega) hel' hrun
    have t1 : ∀ x ∈ s, b' ≤ row.idxOf x ∧ row.idxOf x ≤ e' := fun x hx => ((mem_seg h.nr).mp ((h6 x).mp (hst x hx))).2
    have hbb : b' ≤ b := by
      obtain ⟨x, hx, z⟩ := List.mem_map.mp (lo_mem hne)
      rw [hb, ← z]; exact (t1 x hx).1
    have hee : e ≤ e' := by
      obtain ⟨x, hx, z⟩ := List.mem_map.mp (hi_mem hne)
      rw [he, ← z]; exact (t1 x hx).2
    have t2 : ∀ x ∈ seg row b e, a' ≤ cat.idxOf x ∧ cat.idxOf x ≤ c' := fun x hx => by
      have := (mem_seg h.nr).mp hx
      exact ((mem_seg h.nd).mp ((h6 x).mpr ((mem_seg h.nr).mpr ⟨this.1, by omega, by omega⟩))).2
    have haa : a' ≤ a := by
      have := lo_mem hr
      unfold rk at this
      rw [seg_map] at this
      obtain ⟨x, hx, z⟩ := List.mem_map.mp this
      have z : cat.idxOf x = a := by rw [ha]; unfold rk; rw [seg_map]; exact z
      rw [← z]; exact (t2 x hx).1
    have hcc' : c ≤ c' := by
      have := hi_mem hr
      unfold rk at this
      rw [seg_map] at this
      obtain ⟨x, hx, z⟩ := List.mem_map.mp this
      have z : cat.idxOf x = c := by rw [hcc]; unfold rk; rw [seg_map]; exact z
      rw [← z]; exact (t2 x hx).2
    have := (mem_seg h.nd).mp hx
    exact (mem_seg h.nd).mpr ⟨this.1, by omega, by omega⟩
  · refine mem_runsL.mpr ⟨b, e, by omega, by rw [h.rkl]; exact hel, ?_⟩
    unfold runAt
    rw [← ha, ← hcc, if_pos (by omega)]
/-- the least run with some books -/
structure Least (cat row B R : List Str) : Prop where
  run : R ∈ runsL cat (rk cat row)
  has : ∀ x ∈ B, x ∈ R
  min : ∀ t ∈ runsL cat (rk cat row), (∀ x ∈ B, x ∈ t) → ∀ x ∈ R, x ∈ t
theorem run_sub {cat : List Str} {ns : List Nat} {t : List Str} (h : t ∈ runsL cat ns) : t.Sublist cat := by
  obtain ⟨b, e, _, _, ht⟩ := mem_runsL.mp h
  unfold runAt at ht
  split at ht
  · rw [← Option.some.inj ht]; exact seg_sub _ _ _
  · cases ht
theorem sub_eq {cat s : List Str} (hn : cat.Nodup) (h : s.Sublist cat) : s = cat.filter (fun x => decide (x ∈ s)) := by
  induction h with
  | slnil => rfl
  | cons a h ih =>
    rw [List.nodup_cons] at hn
    rw [List.filter_cons, if_neg (by simpa using fun z => hn.1 (h.mem z))]
    exact ih hn.2
  | @cons_cons s l a h ih =>
    rw [List.nodup_cons] at hn
    rw [List.filter_cons, if_pos (by simp)]
    refine congrArg (a :: ·) ((ih hn.2).trans (List.filter_congr fun x hx => ?_))
    refine decide_eq_decide.mpr ⟨List.mem_cons_of_mem _, fun z => ?_⟩
    rcases List.mem_cons.mp z with rfl | z
    · exact absurd hx hn.1
    · exact z
theorem sub_ext {cat s t : List Str} (hn : cat.Nodup) (hs : s.Sublist cat) (ht : t.Sublist cat) (h : ∀ x, x ∈ s ↔ x ∈ t) : s = t := by
  rw [sub_eq hn hs, sub_eq hn ht]
  exact List.filter_congr fun x _ => decide_eq_decide.mpr (h x)
theorem Least.best {cat row B R : List Str} (hs : Sh cat row) (h : Least cat row B R) {t : List Str} (ht : t ∈ runsL cat (rk cat row)) (hB : ∀ x ∈ B, x ∈ t) : R.length ≤ t.length ∧ (t.length ≤ R.length → t = R) := by
  have hsub := h.min t ht hB
  have hR := (hs.nd).sublist (run_sub h.run)
  refine ⟨nd_len hR hsub, fun hl => ?_⟩
  exact sub_ext hs.nd (run_sub ht) (run_sub h.run) fun x => ⟨nd_onto hR hsub hl x, hsub x⟩
theorem Least.uniq {cat row B B' R R' : List Str} (hs : Sh cat row) (h : Least cat row B R) (h' : Least cat row B' R') (e : ∀ x, x ∈ B ↔ x ∈ B') : R = R' :=
  sub_ext hs.nd (run_sub h.run) (run_sub h'.run) fun x => ⟨h.min R' h'.run (fun y hy => h'.has y ((e y).mp hy)) x, h'.min R h.run (fun y hy => h.has y ((e y).mpr hy)) x⟩
theorem Least.self {cat row R R' : List Str} (hs : Sh cat row) (h : Least cat row R R') (hR : R ∈ runsL cat (rk cat row)) : R' = R :=
  sub_ext hs.nd (run_sub h.run) (run_sub hR) fun x => ⟨h.min R hR (fun _ z => z) x, h.has x⟩
theorem run_ne {cat : List Str} {row : List Str} (hs : Sh cat row) {t : List Str} (h : t ∈ runsL cat (rk cat row)) : 2 ≤ t.length := by
  obtain ⟨b, e, h1, h2, ht⟩ := mem_runsL.mp h
  rw [hs.rkl] at h2
  obtain ⟨a, c, h3, h4, h5, rfl, _⟩ := hs.run (by omega) h2 ht
  rw [seg_len (by omega) h4]; omega
theorem runsL_len (cat : List Str) (ns : List Nat) (h : ns.length ≤ 100) : (runsL cat ns).length ≤ 10000 := by
  unfold runsL
  rw [List.length_flatMap]
  have : ∀ l : List Nat, (l.map fun b => ((List.range (ns.length - 1 - b)).filterMap fun j => runAt cat ns b (b + 1 + j)).length).sum ≤ l.length * 100 := fun l => by
    induction l with
    | nil => simp
    | cons x l ih =>
      rw [List.map_cons, List.sum_cons, List.length_cons, Nat.add_mul]
      have := List.length_filterMap_le (fun j => runAt cat ns x (x + 1 + j)) (List.range (ns.length - 1 - x))
      rw [List.length_range] at this
      omega
  have := this (List.range ns.length)
  rw [List.length_range] at this
  omega
end PL
namespace PL
open PySem PySem.Spec L2 DL
theorem lcGo_mapA {α : Type} {g : Pat} {te : TD} {ρ0 : List Sl} {P : List D → Nat → Prop} {c f : α → D} {n : Nat} : ∀ {xs : List α} {acc : List D}, acc.length + xs.length ≤ sizeLine →
    (∀ x ∈ xs, ∀ (K : D → Nat → Prop), K (f x) n → tPat g (c x) ρ0 fun ρ2 => te n ρ2 K) → P (acc ++ xs.map f) n → lcGo g tYesD te ρ0 (xs.map c) n acc P
  | [], acc, _, _, h => by rw [List.map_nil, List.append_nil] at h; exact h
  | x :: xs, acc, hl, st, h => by
    rw [List.length_cons] at hl
    have := st x List.mem_cons_self (fun y n' => acc.length < sizeLine ∧ lcGo g tYesD te ρ0 (xs.map c) n' (acc ++ [y]) P) ⟨by omega, lcGo_mapA (by rw [List.length_append, List.length_singleton]; omega) (fun y hy => st y (List.mem_cons_of_mem _ hy)) (by rw [List.append_assoc]; exact h)⟩
    simp only [List.map_cons, lcGo]
    revert this
    simp only [tYesD, if_true]
    exact fun z => z
/-- two generators, the first without a test -/
theorem lc2_map {α : Type} {i0 : Nat} {src1 : SRC} {g1 : Pat} {tt1 : TTD} {te : TD} {vs1 : List Nat} {ρ0 : List Sl} {P : List D → Nat → Prop} {c : α → D} {fs : α → List D} {n : Nat} :
    ∀ {xs : List α} {acc : List D}, acc.length + (xs.flatMap fs).length ≤ sizeLine → (∀ x ∈ xs, ∀ (acc : List D) (K : List D → Nat → Prop), acc.length + (fs x).length ≤ sizeLine → K (acc ++ fs x) n → src1 n (ρ0.set i0 (.sh (c x))) fun es n2 => lcGo g1 tt1 te (wipeD (ρ0.set i0 (.sh (c x))) vs1) es n2 acc K) →
    P (acc ++ xs.flatMap fs) n → lcGo2 i0 tYesD src1 g1 tt1 te vs1 ρ0 (xs.map c) n acc P
  | [], acc, _, _, h => by rw [List.flatMap_nil, List.append_nil] at h; exact h
  | x :: xs, acc, hl, st, h => by
    rw [List.flatMap_cons, List.length_append] at hl
    simp only [List.map_cons, lcGo2, tYesD, if_true]
    exact st x List.mem_cons_self acc (fun r n' => lcGo2 i0 tYesD src1 g1 tt1 te vs1 ρ0 (xs.map c) n' r P) (by omega) (lc2_map (by rw [List.length_append]; omega) (fun y hy => st y (List.mem_cons_of_mem _ hy)) (by rw [List.append_assoc, ← List.flatMap_cons]; exact h))
/-- none or a tuple -/
def optT : Option (List Str) → D
  | none => .non
  | some t => tS t
theorem ints_rk (cat row : List Str) : (row.map fun x => ((cat.idxOf x : Nat) : Int)).map D.int = (rk cat row).map fun x : Nat => D.int (x : Int) := by
  unfold rk
  rw [List.map_map, List.map_map]; rfl
theorem rng_from (i : Int) (k : Nat) : rangeD i k = (List.range k).map fun j : Nat => D.int (i + (j : Int)) := rfl
theorem rng_at {i : Int} {k j : Nat} {d : D} (h : (rangeD i k)[j]? = some d) : j < k ∧ d = .int (i + (j : Int)) := by
  obtain ⟨z, _⟩ := List.getElem?_eq_some_iff.mp h
  rw [rangeD, List.length_map, List.length_range] at z
  unfold rangeD at h
  rw [List.getElem?_map, List.getElem?_range z] at h
  exact ⟨z, (Option.some.inj h).symm⟩
theorem rng_len (i : Int) (k : Nat) : (rangeD i k).length = k := by rw [rangeD, List.length_map, List.length_range]
theorem opts_some (os : List (Option (List Str))) : (os.filter Option.isSome).map optT = (os.filterMap id).map tS := by
  induction os with
  | nil => rfl
  | cons o os ih =>
    cases o with
    | none => simpa using ih
    | some t => simpa [optT] using ih
def runsO (cat : List Str) (ns : List Nat) : List (Option (List Str)) :=
  (List.range ns.length).flatMap fun b => (List.range (ns.length - 1 - b)).map fun j => runAt cat ns b (b + 1 + j)
theorem runsO_L (cat : List Str) (ns : List Nat) : (runsO cat ns).filterMap id = runsL cat ns := by
  unfold runsO runsL
  generalize List.range ns.length = l
  induction l with
  | nil => rfl
  | cons b l ih =>
    rw [List.flatMap_cons, List.flatMap_cons, List.filterMap_append, ih, List.filterMap_map]
    rfl
theorem runsO_len (cat : List Str) (ns : List Nat) (h : ns.length ≤ 100) : (runsO cat ns).length ≤ 10000 := by
  unfold runsO
  rw [List.length_flatMap]
  have : ∀ l : List Nat, (l.map fun b => ((List.range (ns.length - 1 - b)).map fun j => runAt cat ns b (b + 1 + j)).length).sum ≤ l.length * 100 := fun l => by
    induction l with
    | nil => simp
    | cons x l ih =>
      rw [List.map_cons, List.sum_cons, List.length_cons, Nat.add_mul, List.length_map, List.length_range]
      omega
  have := this (List.range ns.length)
  rw [List.length_range] at this
  omega
theorem cut_seg {α : Type} (f : α → D) (xs : List α) {a k : Nat} (h : a + k ≤ xs.length) : cutD (xs.map f) (some (a : Int)) (some ((a + k : Nat) : Int)) = ((xs.drop a).take k).map f := by
  rw [cut_mid f xs (by omega) (by omega), show a + k - a = k by omega]
end PL
namespace PL
variable {α : Type} [DecidableEq α]
/-- the books of t stand together in row -/
def Blk (row t : List α) : Prop := ∃ pre mid post, row = pre ++ mid ++ post ∧ ∀ x, x ∈ mid ↔ x ∈ t
/-- t is a stretch of cat, in its order -/
def Seg (cat t : List α) : Prop := ∃ pre post, cat = pre ++ t ++ post
/-- the row with the books of t turned -/
def turn (t row : List α) : List α :=
  row.takeWhile (fun x => !decide (x ∈ t)) ++ (row.filter (fun x => decide (x ∈ t))).reverse ++ (row.dropWhile (fun x => !decide (x ∈ t))).filter (fun x => !decide (x ∈ t))
theorem filter_none {p : α → Bool} {l : List α} (h : ∀ x ∈ l, p x = false) : l.filter p = [] := List.filter_eq_nil_iff.mpr fun x hx => by rw [h x hx]; simp
theorem filter_all {p : α → Bool} {l : List α} (h : ∀ x ∈ l, p x = true) : l.filter p = l := List.filter_eq_self.mpr h
theorem turn_eq {t p m q : List α} (h1 : ∀ x ∈ p, x ∉ t) (h2 : ∀ x ∈ m, x ∈ t) (h3 : ∀ x ∈ q, x ∉ t) : turn t (p ++ m ++ q) = p ++ m.reverse ++ q := by
  have a1 : ∀ x ∈ p, (!decide (x ∈ t)) = true := fun x hx => by simpa using h1 x hx
  have a2 : ∀ x ∈ m, decide (x ∈ t) = true := fun x hx => by simpa using h2 x hx
  have a3 : ∀ x ∈ q, (!decide (x ∈ t)) = true := fun x hx => by simpa using h3 x hx
  unfold turn
  rw [List.append_assoc p m q, List.takeWhile_append_of_pos a1, List.dropWhile_append_of_pos a1]
  rw [List.filter_append, List.filter_append, filter_none (l := p) fun x hx => by simpa using h1 x hx, filter_all a2, filter_none (l := q) fun x hx => by simpa using h3 x hx, List.nil_append, List.append_nil]
  cases m with
  | nil =>
    have e3 : q.takeWhile (fun x => !decide (x ∈ t)) = q := by
      have := List.takeWhile_append_of_pos (l₂ := []) a3
      simpa using this
    have e4 : q.dropWhile (fun x => !decide (x ∈ t)) = [] := by
      have := List.dropWhile_append_of_pos (l₂ := []) a3
      simpa using this
    rw [List.nil_append, e3, e4]
    simp
  | cons x m =>
    have hx := h2 x List.mem_cons_self
    rw [List.cons_append, List.takeWhile_cons, if_neg (by simpa using hx), List.dropWhile_cons, if_neg (by simpa using hx), List.append_nil, ← List.cons_append, List.filter_append,
      filter_none (l := x :: m) fun y hy => by simpa using h2 y hy, List.nil_append, filter_all a3]
theorem nd3 {p m q : List α} (h : (p ++ m ++ q).Nodup) : (∀ x ∈ p, x ∉ m) ∧ (∀ x ∈ q, x ∉ m) ∧ (∀ x ∈ p, x ∉ q) ∧ m.Nodup := by
  rw [List.nodup_append, List.nodup_append] at h
  obtain ⟨⟨h1, h2, h3⟩, h4, h5⟩ := h
  exact ⟨fun x hx hm => h3 x hx x hm rfl, fun x hx hm => h5 x (List.mem_append_right _ hm) x hx rfl, fun x hx hq => h5 x (List.mem_append_left _ hx) x hq rfl, h2⟩
theorem turn_blk {t p m q : List α} (h : (p ++ m ++ q).Nodup) (e : ∀ x, x ∈ m ↔ x ∈ t) : turn t (p ++ m ++ q) = p ++ m.reverse ++ q := by
  obtain ⟨h1, h2, _⟩ := nd3 h
  exact turn_eq (fun x hx z => h1 x hx ((e x).mpr z)) (fun x hx => (e x).mp hx) (fun x hx z => h2 x hx ((e x).mpr z))
theorem turn_perm' {t row : List α} (h : row.Nodup) (b : Blk row t) : (turn t row).Perm row := by
  obtain ⟨p, m, q, rfl, e⟩ := b
  rw [turn_blk h e]
  exact List.Perm.append_right _ (List.Perm.append_left _ (List.reverse_perm m))
theorem turn_back {t row : List α} (h : row.Nodup) (b : Blk row t) : Blk (turn t row) t ∧ turn t (turn t row) = row := by
  have hp := turn_perm' h b
  obtain ⟨p, m, q, rfl, e⟩ := b
  rw [turn_blk h e] at hp ⊢
  refine ⟨⟨p, m.reverse, q, rfl, fun x => by rw [List.mem_reverse]; exact e x⟩, ?_⟩
  rw [turn_blk (hp.nodup_iff.mpr h) (fun x => by rw [List.mem_reverse]; exact e x), List.reverse_reverse]
/-- how two stretches of one row may stand -/
theorem two_split {p1 A q1 p2 B q2 : List α} (h : p1 ++ A ++ q1 = p2 ++ B ++ q2) :
    (∃ m, p2 = p1 ++ A ++ m ∧ q1 = m ++ B ++ q2) ∨ (∃ m, p1 = p2 ++ B ++ m ∧ q2 = m ++ A ++ q1) ∨
    (∃ d e, p1 = p2 ++ d ∧ q1 = e ++ q2 ∧ B = d ++ A ++ e) ∨ (∃ d e, p2 = p1 ++ d ∧ q2 = e ++ q1 ∧ A = d ++ B ++ e) ∨
    (∃ d f c, p2 = p1 ++ d ∧ q1 = c ++ q2 ∧ A = d ++ f ∧ B = f ++ c ∧ d ≠ [] ∧ f ≠ [] ∧ c ≠ []) ∨
    (∃ d f c, p1 = p2 ++ d ∧ q2 = c ++ q1 ∧ B = d ++ f ∧ A = f ++ c ∧ d ≠ [] ∧ f ≠ [] ∧ c ≠ []) := by
  have go : ∀ {p1 A q1 p2 B q2 c : List α}, p2 ++ B = p1 ++ A ++ c → q1 = c ++ q2 →
      (∃ m, p2 = p1 ++ A ++ m ∧ q1 = m ++ B ++ q2) ∨ (∃ d e, p1 = p2 ++ d ∧ q1 = e ++ q2 ∧ B = d ++ A ++ e) ∨ (∃ d e, p2 = p1 ++ d ∧ q2 = e ++ q1 ∧ A = d ++ B ++ e) ∨
      (∃ d f c, p2 = p1 ++ d ∧ q1 = c ++ q2 ∧ A = d ++ f ∧ B = f ++ c ∧ d ≠ [] ∧ f ≠ [] ∧ c ≠ []) := by
    intro p1 A q1 p2 B q2 c h e
    rw [List.append_assoc] at h
    rcases List.append_eq_append_iff.mp h with ⟨d, h1, h2⟩ | ⟨d, h1, h2⟩
    · exact .inr (.inl ⟨d, c, h1, e, by rw [h2, List.append_assoc]⟩)
    · rcases List.append_eq_append_iff.mp h2 with ⟨f, h3, h4⟩ | ⟨f, h3, h4⟩
      · exact .inl ⟨f, by rw [h1, h3, List.append_assoc], by rw [e, h4]⟩
      · by_cases hc : c = []
        · subst hc
          refine .inr (.inr (.inl ⟨d, [], h1, by rw [e]; rfl, ?_⟩))
          rw [h3, h4]; simp
        by_cases hd : d = []
        · subst hd
          refine .inr (.inl ⟨[], c, by rw [h1, List.append_nil, List.append_nil], e, ?_⟩)
          rw [h3, h4]; simp
        by_cases hf : f = []
        · subst hf
          refine .inl ⟨[], ?_, ?_⟩
          · rw [h1, h3]; simp
          · rw [e, h4]; simp
        exact .inr (.inr (.inr ⟨d, f, c, h1, e, h3, h4, hd, hf, hc⟩))
  rcases List.append_eq_append_iff.mp h with ⟨c, h1, h2⟩ | ⟨c, h1, h2⟩
  · rcases go h1 h2 with z | z | z | z
    · exact .inl z
    · exact .inr (.inr (.inl z))
    · exact .inr (.inr (.inr (.inl z)))
    · exact .inr (.inr (.inr (.inr (.inl z))))
  · rcases go h1 h2 with z | z | z | z
    · exact .inr (.inl z)
    · exact .inr (.inr (.inr (.inl z)))
    · exact .inr (.inr (.inl z))
    · exact .inr (.inr (.inr (.inr (.inr z))))
/-- two lots that do not overlap -/
def NOv (a b : List α) : Prop := (∀ x ∈ a, x ∉ b) ∨ (∀ x ∈ a, x ∈ b) ∨ (∀ x ∈ b, x ∈ a)
theorem NOv.symm {a b : List α} (h : NOv a b) : NOv b a := by
  rcases h with h | h | h
  · exact .inl fun x hx z => h x z hx
  · exact .inr (.inr h)
  · exact .inr (.inl h)
theorem mem_of_ne {l : List α} (h : l ≠ []) : ∃ x, x ∈ l := by
  cases l with
  | nil => exact absurd rfl h
  | cons x l => exact ⟨x, List.mem_cons_self⟩
/-- where both stand in one row and do not overlap: both rows that a turn makes, and both turns -/
theorem turn_two {row a b : List α} (h : row.Nodup) (ha : Blk row a) (hb : Blk row b) (hn : NOv a b) : Blk (turn a row) b ∧ turn a (turn b row) = turn b (turn a row) := by
  have pa := turn_perm' h ha
  have pb := turn_perm' h hb
  obtain ⟨p1, A, q1, e1, m1⟩ := ha
  obtain ⟨p2, B, q2, e2, m2⟩ := hb
  have ta : turn a row = p1 ++ A.reverse ++ q1 := by rw [e1]; exact turn_blk (e1 ▸ h) m1
  have tb : turn b row = p2 ++ B.reverse ++ q2 := by rw [e2]; exact turn_blk (e2 ▸ h) m2
  have na := pa.nodup_iff.mpr h
  have nb := pb.nodup_iff.mpr h
  have no : ∀ {d f c : List α}, d ≠ [] → f ≠ [] → c ≠ [] → ((d ++ f) ++ c).Nodup → (∀ x, x ∈ d ++ f → x ∉ f ++ c) ∨ (∀ x, x ∈ d ++ f → x ∈ f ++ c) ∨ (∀ x, x ∈ f ++ c → x ∈ d ++ f) → False := by
    intro d f c hd hf hc hnd hh
    obtain ⟨n1, n2, n3, _⟩ := nd3 hnd
    obtain ⟨x, hx⟩ := mem_of_ne hd
    obtain ⟨y, hy⟩ := mem_of_ne hf
    obtain ⟨z, hz⟩ := mem_of_ne hc
    rcases hh with hh | hh | hh
    · exact hh y (List.mem_append_right _ hy) (List.mem_append_left _ hy)
    · rcases List.mem_append.mp (hh x (List.mem_append_left _ hx)) with w | w
      · exact n1 x hx w
      · exact n3 x hx w
    · rcases List.mem_append.mp (hh z (List.mem_append_right _ hz)) with w | w
      · exact n3 z w hz
      · exact n2 z hz w
  rcases two_split (e1 ▸ e2) with ⟨m, h1, h2⟩ | ⟨m, h1, h2⟩ | ⟨d, e, h1, h2, h3⟩ | ⟨d, e, h1, h2, h3⟩ | ⟨d, f, c, h1, h2, h3, h4, hd, hf, hc⟩ | ⟨d, f, c, h1, h2, h3, h4, hd, hf, hc⟩
  · subst h1 h2
    have ta' : turn a row = (p1 ++ A.reverse ++ m) ++ B ++ q2 := by rw [ta]; simp
    have tb' : turn b row = p1 ++ A ++ (m ++ B.reverse ++ q2) := by rw [tb]; simp
    refine ⟨⟨_, B, _, ta', m2⟩, ?_⟩
    rw [tb', ta', turn_blk (ta' ▸ na) m2, turn_blk (tb' ▸ nb) m1]; simp
  · subst h1 h2
    have ta' : turn a row = p2 ++ B ++ (m ++ A.reverse ++ q1) := by rw [ta]; simp
    have tb' : turn b row = (p2 ++ B.reverse ++ m) ++ A ++ q1 := by rw [tb]; simp
    refine ⟨⟨_, B, _, ta', m2⟩, ?_⟩
    rw [tb', ta', turn_blk (ta' ▸ na) m2, turn_blk (tb' ▸ nb) m1]; simp
  · subst h1 h2 h3
    have ta' : turn a row = p2 ++ (d ++ A.reverse ++ e) ++ q2 := by rw [ta]; simp
    have mb : ∀ x, x ∈ d ++ A.reverse ++ e ↔ x ∈ b := fun x => by rw [← m2 x]; simp
    have ma : ∀ x, x ∈ A.reverse ↔ x ∈ a := fun x => by rw [List.mem_reverse]; exact m1 x
    have tb' : turn b row = (p2 ++ e.reverse) ++ A.reverse ++ (d.reverse ++ q2) := by rw [tb]; simp
    refine ⟨⟨_, _, _, ta', mb⟩, ?_⟩
    rw [tb', ta', turn_blk (ta' ▸ na) mb, turn_blk (tb' ▸ nb) ma]; simp
  · subst h1 h2 h3
    have tb' : turn b row = p1 ++ (d ++ B.reverse ++ e) ++ q1 := by rw [tb]; simp
    have ma : ∀ x, x ∈ d ++ B.reverse ++ e ↔ x ∈ a := fun x => by rw [← m1 x]; simp
    have mb : ∀ x, x ∈ B.reverse ↔ x ∈ b := fun x => by rw [List.mem_reverse]; exact m2 x
    have ta' : turn a row = (p1 ++ e.reverse) ++ B.reverse ++ (d.reverse ++ q1) := by rw [ta]; simp
    refine ⟨⟨_, _, _, ta', mb⟩, ?_⟩
    rw [tb', ta', turn_blk (ta' ▸ na) mb, turn_blk (tb' ▸ nb) ma]; simp
  · exfalso
    subst h1 h2 h3 h4
    refine no hd hf hc ?_ ?_
    · rw [e1, show p1 ++ (d ++ f) ++ (c ++ q2) = (p1 ++ (d ++ f ++ c)) ++ q2 by simp] at h
      exact (h.sublist (List.sublist_append_left _ _)).sublist (List.sublist_append_right _ _)
    · rcases hn with hn | hn | hn
      · exact .inl fun x hx z => hn x ((m1 x).mp hx) ((m2 x).mp z)
      · exact .inr (.inl fun x hx => (m2 x).mpr (hn x ((m1 x).mp hx)))
      · exact .inr (.inr fun x hx => (m1 x).mpr (hn x ((m2 x).mp hx)))
  · exfalso
    subst h1 h2 h3 h4
    refine no hd hf hc ?_ ?_
    · rw [e2, show p2 ++ (d ++ f) ++ (c ++ q1) = (p2 ++ (d ++ f ++ c)) ++ q1 by simp] at h
      exact (h.sublist (List.sublist_append_left _ _)).sublist (List.sublist_append_right _ _)
    · rcases hn with hn | hn | hn
      · exact .inl fun x hx z => hn x ((m1 x).mp z) ((m2 x).mp hx)
      · exact .inr (.inr fun x hx => (m2 x).mpr (hn x ((m1 x).mp hx)))
      · exact .inr (.inl fun x hx => (m1 x).mpr (hn x ((m2 x).mp hx)))
/-- what stands between two books of a lot that stands together -/
theorem blk_between {row t : List α} (h : row.Nodup) (b : Blk row t) {i j k : Nat} {x y z : α} (hij : i < j) (hjk : j < k) (hx : row[i]? = some x) (hy : row[j]? = some y) (hz : row[k]? = some z) (tx : x ∈ t) (tz : z ∈ t) : y ∈ t := by
  obtain ⟨p, m, q, rfl, e⟩ := b
  obtain ⟨n1, n2, _, _⟩ := nd3 h
  have k1 : ¬ i < p.length := fun hi => by
    rw [List.append_assoc, List.getElem?_append_left hi] at hx
    exact n1 x (List.mem_of_getElem? hx) ((e x).mpr tx)
  have k2 : ¬ p.length + m.length ≤ k := fun hk => by
    rw [List.getElem?_append_right (by rw [List.length_append]; exact hk)] at hz
    exact n2 z (List.mem_of_getElem? hz) ((e z).mpr tz)
  rw [List.append_assoc, List.getElem?_append_right (by omega), List.getElem?_append_left (by omega)] at hy
  exact (e y).mp (List.mem_of_getElem? hy)
/-- two that overlap: the one does not stand together behind the other one's turn -/
theorem turn_lost {row a b : List α} (h : row.Nodup) (ha : Blk row a) (hb : Blk row b) (hb' : Blk (turn a row) b) : NOv a b := by
  have pa := turn_perm' h ha
  have na := pa.nodup_iff.mpr h
  obtain ⟨p1, A, q1, e1, m1⟩ := ha
  obtain ⟨p2, B, q2, e2, m2⟩ := hb
  have ta : turn a row = p1 ++ A.reverse ++ q1 := by rw [e1]; exact turn_blk (e1 ▸ h) m1
  have mem3 : ∀ {p f d c q : List α} (N : (p ++ f ++ d ++ c ++ q).Nodup), d ≠ [] → f ≠ [] → c ≠ [] → Blk (p ++ f ++ d ++ c ++ q) b → (∀ x ∈ f, x ∈ b) → (∀ x ∈ c, x ∈ b) → ∃ y ∈ d, y ∈ b := by
    intro p f d c q N hd hf hc B1 h1 h2
    obtain ⟨y, d', rfl⟩ := List.exists_cons_of_ne_nil hd
    obtain ⟨x, f', rfl⟩ := List.exists_cons_of_ne_nil hf
    obtain ⟨z, c', rfl⟩ := List.exists_cons_of_ne_nil hc
    refine ⟨y, List.mem_cons_self, blk_between N B1 (i := p.length) (j := p.length + (x :: f').length) (k := p.length + (x :: f').length + (y :: d').length) (x := x) (z := z) (by simp) (by simp) ?_ ?_ ?_ (h1 x List.mem_cons_self) (h2 z List.mem_cons_self)⟩
    · simp
    · rw [List.append_assoc (p ++ x :: f'), List.append_assoc (p ++ x :: f'), List.getElem?_append_right (by simp)]; simp
    · rw [List.append_assoc (p ++ x :: f' ++ y :: d'), List.getElem?_append_right (by simp only [List.length_append, List.length_cons]; omega)]
      rw [show p.length + (x :: f').length + (y :: d').length - (p ++ x :: f' ++ y :: d').length = 0 by simp only [List.length_append, List.length_cons]; omega]
      rfl
  rcases two_split (e1 ▸ e2) with ⟨m, h1, h2⟩ | ⟨m, h1, h2⟩ | ⟨d, e, h1, h2, h3⟩ | ⟨d, e, h1, h2, h3⟩ | ⟨d, f, c, h1, h2, h3, h4, hd, hf, hc⟩ | ⟨d, f, c, h1, h2, h3, h4, hd, hf, hc⟩
  · subst h2
    obtain ⟨_, n2, _⟩ := nd3 (e1 ▸ h)
    exact .inl fun x hx z => n2 x (List.mem_append_left _ (List.mem_append_right _ ((m2 x).mpr z))) ((m1 x).mpr hx)
  · subst h1
    obtain ⟨n1, _, _⟩ := nd3 (e1 ▸ h)
    exact .inl fun x hx z => n1 x (List.mem_append_left _ (List.mem_append_right _ ((m2 x).mpr z))) ((m1 x).mpr hx)
  · exact .inr (.inl fun x hx => (m2 x).mp (by rw [h3]; simp [(m1 x).mpr hx]))
  · exact .inr (.inr fun x hx => (m1 x).mp (by rw [h3]; simp [(m2 x).mpr hx]))
  · exfalso
    subst h1 h2 h3 h4
    have e3 : turn a row = p1 ++ f.reverse ++ d.reverse ++ c ++ q2 := by rw [ta]; simp
    obtain ⟨y, hy, hyb⟩ := mem3 (e3 ▸ na) (by simpa using hd) (by simpa using hf) hc (e3 ▸ hb') (fun x hx => (m2 x).mp (by simp at hx; simp [hx])) (fun x hx => (m2 x).mp (by simp [hx]))
    obtain ⟨n1, _, _⟩ := nd3 (e2 ▸ h)
    exact n1 y (List.mem_append_right _ (by simpa using hy)) ((m2 y).mpr hyb)
  · exfalso
    subst h1 h2 h3 h4
    have e3 : turn a row = p2 ++ d ++ c.reverse ++ f.reverse ++ q1 := by rw [ta]; simp
    obtain ⟨y, hy, hyb⟩ := mem3 (e3 ▸ na) (by simpa using hc) hd (by simpa using hf) (e3 ▸ hb') (fun x hx => (m2 x).mp (by simp [hx])) (fun x hx => (m2 x).mp (by simp at hx; simp [hx]))
    obtain ⟨_, n2, _⟩ := nd3 (e2 ▸ h)
    exact n2 y (List.mem_append_left _ (by simpa using hy)) ((m2 y).mpr hyb)
/-- turns one behind the other -/
def led (row : List α) (ts : List (List α)) : List α := ts.foldl (fun r t => turn t r) row
/-- a lot: all stand together, none overlaps another -/
def Lot (row : List α) (ts : List (List α)) : Prop := (∀ t ∈ ts, Blk row t) ∧ ∀ s ∈ ts, ∀ t ∈ ts, NOv s t
theorem Lot.sub {row : List α} {ts us : List (List α)} (h : Lot row ts) (k : ∀ t ∈ us, t ∈ ts) : Lot row us := ⟨fun t ht => h.1 t (k t ht), fun s hs t ht => h.2 s (k s hs) t (k t ht)⟩
theorem Lot.next {row : List α} {t : List α} {ts : List (List α)} (nd : row.Nodup) (h : Lot row ts) (ht : t ∈ ts) : (turn t row).Nodup ∧ Lot (turn t row) ts :=
  ⟨(turn_perm' nd (h.1 t ht)).nodup_iff.mpr nd, fun s hs => (turn_two nd (h.1 t ht) (h.1 s hs) (h.2 t ht s hs)).1, h.2⟩
theorem Lot.led : ∀ {us : List (List α)} {row : List α} {ts : List (List α)}, row.Nodup → Lot row ts → (∀ t ∈ us, t ∈ ts) → (PL.led row us).Nodup ∧ (PL.led row us).Perm row ∧ Lot (PL.led row us) ts
  | [], row, ts, nd, h, _ => ⟨nd, .refl _, h⟩
  | t :: us, row, ts, nd, h, k => by
    obtain ⟨n1, l1⟩ := h.next nd (k t List.mem_cons_self)
    obtain ⟨n2, p2, l2⟩ := Lot.led n1 l1 fun s hs => k s (List.mem_cons_of_mem _ hs)
    exact ⟨n2, p2.trans (turn_perm' nd (h.1 t (k t List.mem_cons_self))), l2⟩
theorem led_perm {us vs : List (List α)} (p : us.Perm vs) : ∀ {row : List α}, row.Nodup → Lot row us → led row us = led row vs := by
  induction p with
  | nil => intro _ _ _; rfl
  | cons x p ih =>
    intro row nd h
    obtain ⟨n1, l1⟩ := h.next nd List.mem_cons_self
    exact ih n1 (l1.sub fun t ht => List.mem_cons_of_mem _ ht)
  | swap x y l =>
    intro row nd h
    show led (turn x (turn y row)) l = led (turn y (turn x row)) l
    rw [(turn_two nd (h.1 x (by simp)) (h.1 y (by simp)) (h.2 x (by simp) y (by simp))).2]
  | trans p1 p2 ih1 ih2 =>
    intro row nd h
    rw [ih1 nd h, ih2 nd (h.sub fun t ht => p1.mem_iff.mpr ht)]
theorem led_app {row : List α} {us vs : List (List α)} : led row (us ++ vs) = led (led row us) vs := List.foldl_append
theorem led_back : ∀ {us : List (List α)} {row : List α}, row.Nodup → Lot row us → led (led row us) us.reverse = row
  | [], row, _, _ => rfl
  | t :: us, row, nd, h => by
    obtain ⟨n1, l1⟩ := h.next nd List.mem_cons_self
    rw [List.reverse_cons, led_app]
    show led (led (led (turn t row) us) us.reverse) [t] = row
    rw [led_back n1 (l1.sub fun t ht => List.mem_cons_of_mem _ ht)]
    exact (turn_back nd (h.1 t List.mem_cons_self)).2
theorem led_twice {us vs ws : List (List α)} {row : List α} (nd : row.Nodup) (h : Lot row ws) (p1 : us.Perm ws) (p2 : vs.Perm ws) : led (led row us) vs = row := by
  have l1 := h.sub (us := us) fun t ht => p1.mem_iff.mp ht
  obtain ⟨n1, _, l2⟩ := l1.led nd fun t ht => ht
  rw [led_perm (p2.trans (p1.symm.trans (List.reverse_perm us).symm)) n1 (l2.sub fun t ht => p1.mem_iff.mpr (p2.mem_iff.mp ht))]
  exact led_back nd l1
end PL
namespace PL
open PySem PySem.Spec L2 DL
/-! ### the home of a core, its turnable runs -/
theorem seg_split {α : Type} (xs : List α) {a c : Nat} (h : a ≤ c + 1) : xs = xs.take a ++ seg xs a c ++ xs.drop (c + 1) := by
  unfold seg
  have : xs.drop (c + 1) = (xs.drop a).drop (c + 1 - a) := by rw [List.drop_drop]; congr 1; omega
  rw [this, List.append_assoc, List.take_append_drop, List.take_append_drop]
/-- what a run is: a stretch of both -/
theorem run_iff {cat row t : List Str} (h : Sh cat row) : t ∈ runsL cat (rk cat row) ↔ 2 ≤ t.length ∧ Seg cat t ∧ Blk row t := by
  constructor
  · intro ht
    obtain ⟨b, e, h1, h2, hr⟩ := mem_runsL.mp ht
    rw [h.rkl] at h2
    obtain ⟨a, c, h3, h4, h5, rfl, h6⟩ := h.run (by omega) h2 hr
    refine ⟨by rw [seg_len (by omega) h4]; omega, ⟨_, _, seg_split cat (by omega)⟩, ⟨_, _, _, seg_split row (a := b) (c := e) (by omega), fun x => (h6 x).symm⟩⟩
  · rintro ⟨h2, ⟨p, q, ec⟩, ⟨pr, m, po, er, hm⟩⟩
    have nt : t.Nodup := by
      have := h.nd
      rw [ec] at this
      exact (nd3 this).2.2.2
    have nm : m.Nodup := by
      have := h.nr
      rw [er] at this
      exact (nd3 this).2.2.2
    have hl : m.length = t.length := Nat.le_antisymm (nd_len nm fun x hx => (hm x).mp hx) (nd_len nt fun x hx => (hm x).mpr hx)
    have hrl : row.length = pr.length + m.length + po.length := by rw [er]; simp only [List.length_append]
    have hcl : cat.length = p.length + t.length + q.length := by rw [ec]; simp only [List.length_append]
    have hrc := h.pm.length_eq
    refine mem_runsL.mpr ⟨pr.length, pr.length + m.length - 1, by omega, by rw [h.rkl]; omega, ?_⟩
    have sr : seg row pr.length (pr.length + m.length - 1) = m := by
      unfold seg
      rw [er, List.append_assoc, List.drop_left, show pr.length + m.length - 1 + 1 - pr.length = m.length by omega, List.take_left]
    have sc : seg cat p.length (p.length + t.length - 1) = t := by
      unfold seg
      rw [ec, List.append_assoc, List.drop_left, show p.length + t.length - 1 + 1 - p.length = t.length by omega, List.take_left]
    have ix : ∀ i, (hi : i < t.length) → cat.idxOf t[i] = p.length + i := fun i hi => by
      refine idx_get h.nd ?_
      rw [ec, List.append_assoc, List.getElem?_append_right (by omega), List.getElem?_append_left (by omega), Nat.add_sub_cancel_left]
      exact List.getElem?_eq_getElem hi
    have bd : ∀ y ∈ m.map cat.idxOf, p.length ≤ y ∧ y ≤ p.length + t.length - 1 := fun y hy => by
      obtain ⟨x, hx, rfl⟩ := List.mem_map.mp hy
      obtain ⟨i, hi, rfl⟩ := List.getElem_of_mem ((hm x).mp hx)
      rw [ix i hi]; omega
    have at0 : ∀ i, (hi : i < t.length) → p.length + i ∈ m.map cat.idxOf := fun i hi => List.mem_map.mpr ⟨t[i], (hm _).mpr (List.getElem_mem hi), ix i hi⟩
    have el : lo (m.map cat.idxOf) = p.length := lo_eq (at0 0 (by omega)) fun y hy => (bd y hy).1
    have eh : hi (m.map cat.idxOf) = p.length + t.length - 1 := by
      have := at0 (t.length - 1) (by omega)
      rw [show p.length + (t.length - 1) = p.length + t.length - 1 by omega] at this
      exact hi_eq this fun y hy => (bd y hy).2
    unfold runAt
    rw [show seg (rk cat row) pr.length (pr.length + m.length - 1) = m.map cat.idxOf by unfold rk; rw [seg_map, sr], el, eh, if_pos (by omega), sc]
theorem ovl_nov {a b : List Str} (ha : a.Nodup) (hb : b.Nodup) : ¬ (0 < (a.filter fun x => decide (x ∈ b)).length ∧ (a.filter fun x => decide (x ∈ b)).length < min a.length b.length) ↔ NOv a b := by
  have hf : (a.filter fun x => decide (x ∈ b)).Nodup := ha.sublist List.filter_sublist
  have l1 : (a.filter fun x => decide (x ∈ b)).length ≤ a.length := List.length_filter_le _ _
  have l2 : (a.filter fun x => decide (x ∈ b)).length ≤ b.length := nd_len hf fun x hx => by simpa using (List.mem_filter.mp hx).2
  constructor
  · intro h
    by_cases h0 : (a.filter fun x => decide (x ∈ b)).length = 0
    · left
      intro x hx hxb
      have : x ∈ a.filter fun x => decide (x ∈ b) := List.mem_filter.mpr ⟨hx, by simpa using hxb⟩
      rw [List.length_eq_zero_iff.mp h0] at this; cases this
    · right
      by_cases h1 : a.length ≤ (a.filter fun x => decide (x ∈ b)).length
      · left
        intro x hx
        have := nd_onto hf (xs := a) (fun y hy => (List.mem_filter.mp hy).1) h1 x hx
        simpa using (List.mem_filter.mp this).2
      · right
        intro x hx
        have := nd_onto hf (xs := b) (fun y hy => by simpa using (List.mem_filter.mp hy).2) (by omega) x hx
        exact (List.mem_filter.mp this).1
  · rintro h ⟨h0, h1⟩
    rcases h with h | h | h
    · obtain ⟨x, hx⟩ := List.exists_mem_of_length_pos h0
      have := List.mem_filter.mp hx
      exact h x this.1 (by simpa using this.2)
    · have : (a.filter fun x => decide (x ∈ b)) = a := List.filter_eq_self.mpr fun x hx => by simpa using h x hx
      rw [this] at h1; omega
    · have := nd_len hb (xs := a.filter fun x => decide (x ∈ b)) fun x hx => List.mem_filter.mpr ⟨h x hx, by simpa using hx⟩
      omega
/-- a piece of a list -/
def pc (cat : List Str) (a b : Nat) : List Str := (cat.drop a).take (b - a)
def stOf (ns : List Nd) (i : Nat) : Nat := (ns[i]?.map (·.start)).getD 0
def enOf (ns : List Nd) (i : Nat) : Nat := (ns[i]?.map fun x => x.start + x.many).getD 0
theorem pc_seg {cat : List Str} {a b : Nat} (h1 : a ≤ b) (h2 : b ≤ cat.length) : Seg cat (pc cat a b) := by
  refine ⟨cat.take a, cat.drop b, ?_⟩
  unfold pc
  have : cat.drop b = (cat.drop a).drop (b - a) := by rw [List.drop_drop]; congr 1; omega
  rw [this, List.append_assoc, List.take_append_drop, List.take_append_drop]
theorem pc_len {cat : List Str} {a b : Nat} (h1 : a ≤ b) (h2 : b ≤ cat.length) : (pc cat a b).length = b - a := by
  unfold pc
  rw [List.length_take, List.length_drop]; omega
def turnsN (ns : List Nd) (cat : List Str) (x : Nd) : List (List Str) :=
  (if x.kind = .crossed then [pc cat x.start (x.start + x.many)] else []) ++
  (if x.kind = .heap then (List.range x.parts.length).flatMap fun f => (List.range (x.parts.length - 1 - f)).map fun l => pc cat (stOf ns (x.parts.getD f 0)) (enOf ns (x.parts.getD (f + 1 + l) 0)) else [])
/-- the turnable runs of a core -/
def turnsOf (ns : List Nd) (cat : List Str) : List (List Str) := ns.flatMap (turnsN ns cat)
theorem cov_app {ns : List Nd} : ∀ {A B : List Nat} {st en : Nat}, Cov ns st (A ++ B) en → ∃ m, Cov ns st A m ∧ Cov ns m B en
  | [], _, st, _, h => ⟨st, rfl, h⟩
  | p :: A, B, st, en, ⟨x, h1, h2, h3, h4⟩ => by
    obtain ⟨m, k1, k2⟩ := cov_app h4
    exact ⟨m, ⟨x, h1, h2, h3, k1⟩, k2⟩
theorem cov_st {ns : List Nd} {A : List Nat} {p st en : Nat} (h : Cov ns st (p :: A) en) : stOf ns p = st := by
  obtain ⟨x, h1, h2, _⟩ := h
  unfold stOf
  rw [h1]; exact h2
theorem cov_en {ns : List Nd} : ∀ {A : List Nat} {p st en : Nat}, Cov ns st A en → A.getLast? = some p → enOf ns p = en
  | [], _, _, _, _, h => by cases h
  | [p0], p, st, en, ⟨x, h1, h2, h3, h4⟩, h => by
    have : p0 = p := by simpa using h
    subst this
    have h4 : st + x.many = en := h4
    unfold enOf
    rw [h1]
    show x.start + x.many = en
    omega
  | p0 :: p1 :: A, p, st, en, ⟨x, h1, h2, h3, h4⟩, h => cov_en h4 (by rw [List.getLast?_cons_cons] at h; exact h)
theorem leaf_exp {ns : List Nd} {size : Nat} (h : NInv ns size ns.length) : ∀ (g i j : Nat), ns.length ≤ i + g → i < ns.length → j ∈ exp ns ns.length i → ∃ x, ns[j]? = some x ∧ x.many = 1
  | 0, i, j, hg, hi, _ => by omega
  | g + 1, i, j, hg, hi, hj => by
    have e : ns[i]? = some ns[i] := List.getElem?_eq_getElem hi
    by_cases hp : ns[i].parts = []
    · rw [exp_leaf e hp, List.mem_singleton] at hj
      subst hj
      refine ⟨_, e, ?_⟩
      rcases (h.of e).2.2 with z | z
      · exact z.1
      · have := z.2.1; rw [hp] at this; simp at this
    · obtain ⟨_, _, p3, p4, p5, _⟩ := (h.of e).parts hp
      rw [exp_node h e hp] at hj
      obtain ⟨p, hp1, hp2⟩ := List.mem_flatMap.mp hj
      obtain ⟨k1, k2⟩ := p3 p ((pick_perm p5).mem_iff.mp hp1)
      exact leaf_exp h g p j (by omega) k2 hp2
theorem ivl_leaf {ns : List Nd} : ∀ l : List Nat, (∀ j ∈ l, ∃ x, ns[j]? = some x ∧ x.many = 1) → l.flatMap (ivl ns) = l.map (stOf ns)
  | [], _ => rfl
  | j :: l, h => by
    obtain ⟨x, e, h1⟩ := h j List.mem_cons_self
    rw [List.flatMap_cons, List.map_cons, ivl_leaf l fun k hk => h k (List.mem_cons_of_mem _ hk)]
    have : ivl ns j = [stOf ns j] := by
      unfold ivl stOf
      rw [e]
      dsimp only
      rw [h1]; rfl
    rw [this]; rfl
theorem getD_pc {cat : List Str} {a b : Nat} (h1 : a ≤ b) (h2 : b ≤ cat.length) : (List.range' a (b - a)).map (fun i => cat.getD i ⟨#[]⟩) = pc cat a b := by
  apply List.ext_getElem?
  intro i
  rw [List.getElem?_map]
  unfold pc
  rw [List.getElem?_take, List.getElem?_drop]
  by_cases h : i < b - a
  · rw [List.getElem?_range' h, if_pos h, Option.map_some, Nat.one_mul, List.getD_eq_getElem?_getD, List.getElem?_eq_getElem (show a + i < cat.length by omega)]
    rfl
  · rw [List.getElem?_eq_none (by simpa using h), if_neg h]
    rfl
theorem blk_of {ns : List Nd} {size : Nat} {cat : List Str} {l : List Nat} {st en : Nat} {pre post : List Nat} (h : NInv ns size ns.length) (hc : Cov ns st l en) (hl : ∀ p ∈ l, p < ns.length) (he : exp ns ns.length 0 = pre ++ l.flatMap (exp ns ns.length) ++ post) (hen : en ≤ cat.length) :
    Blk (homeOf ns cat) (pc cat st en) := by
  obtain ⟨c1, c2, _⟩ := cov_flat hc
  have pm : ((l.flatMap (exp ns ns.length)).map (stOf ns)).Perm (List.range' st (en - st)) := by
    rw [← ivl_leaf _ fun j hj => ?_]
    · rw [← c2]
      have : ∀ l : List Nat, (∀ p ∈ l, p < ns.length) → ((l.flatMap (exp ns ns.length)).flatMap (ivl ns)).Perm (l.flatMap (ivl ns)) := fun l => by
        induction l with
        | nil => intro _; exact .refl _
        | cons p l ih =>
          intro hl
          have hpl := hl p List.mem_cons_self
          have ep : ns[p]? = some ns[p] := List.getElem?_eq_getElem hpl
          rw [List.flatMap_cons, List.flatMap_append, List.flatMap_cons]
          refine List.Perm.append ?_ (ih fun q hq => hl q (List.mem_cons_of_mem _ hq))
          have z := exp_ivl h ns.length p _ (by omega) ep
          have : ivl ns p = List.range' ns[p].start ns[p].many := by unfold ivl; rw [ep]
          rw [this]; exact z
      exact this l hl
    · obtain ⟨p, hp1, hp2⟩ := List.mem_flatMap.mp hj
      exact leaf_exp h ns.length p j (by omega) (hl p hp1) hp2
  refine ⟨pre.map fun i => cat.getD (stOf ns i) ⟨#[]⟩, (l.flatMap (exp ns ns.length)).map fun i => cat.getD (stOf ns i) ⟨#[]⟩, post.map fun i => cat.getD (stOf ns i) ⟨#[]⟩, ?_, fun x => ?_⟩
  · unfold homeOf
    rw [he, List.map_append, List.map_append]
    rfl
  · have := pm.map fun i => cat.getD i ⟨#[]⟩
    rw [List.map_map, getD_pc c1 hen] at this
    exact this.mem_iff
theorem turns_blk {ns : List Nd} {size : Nat} {cat : List Str} (h : NInv ns size ns.length) (hc : cat.length = size) : ∀ t ∈ turnsOf ns cat, 2 ≤ t.length ∧ Seg cat t ∧ Blk (homeOf ns cat) t := by
  intro t ht
  obtain ⟨x, hx, ht⟩ := List.mem_flatMap.mp ht
  obtain ⟨i, hi, rfl⟩ := List.getElem_of_mem hx
  have e : ns[i]? = some ns[i] := List.getElem?_eq_getElem hi
  have hok := h.of e
  generalize ns[i] = x at *
  unfold turnsN at ht
  rcases List.mem_append.mp ht with ht | ht
  · split at ht
    · rename_i hk
      rw [List.mem_singleton] at ht
      subst ht
      rcases hok.2.2 with z | ⟨p1, p2, p3, p4, p5, p6⟩
      · exact absurd hk z.2.2.1
      obtain ⟨pre, post, ee⟩ := exp_in h i hi
      have b : Blk (homeOf ns cat) (pc cat x.start (x.start + x.many)) := blk_of (l := [i]) (pre := pre) (post := post) h ⟨x, e, rfl, hok.1, rfl⟩ (fun p hp => by rw [List.mem_singleton] at hp; subst hp; exact hi) (by rw [ee]; simp) (by have := hok.2.1; omega)
      have hl := hok.2.1
      exact ⟨by rw [pc_len (by omega) (by omega)]; omega, pc_seg (by omega) (by omega), b⟩
    · cases ht
  · split at ht
    · rename_i hk
      obtain ⟨f, hf, ht⟩ := List.mem_flatMap.mp ht
      obtain ⟨l, hl, rfl⟩ := List.mem_map.mp ht
      have hf := List.mem_range.mp hf
      have hl := List.mem_range.mp hl
      have hp : x.parts ≠ [] := fun z => by rw [z] at hf; simp at hf
      obtain ⟨p1, p2, p3, p4, p5, p6⟩ := hok.parts hp
      rcases p6 with ⟨_, q2, _⟩ | ⟨q1, _⟩
      · have hsp := seg_split x.parts (a := f) (c := f + 1 + l) (by omega)
        have hsl := seg_len (xs := x.parts) (a := f) (c := f + 1 + l) (by omega) (by omega)
        have hc0 := p4
        rw [hsp, List.append_assoc] at hc0
        obtain ⟨m1, c1, c2⟩ := cov_app hc0
        obtain ⟨m2, c2, c3⟩ := cov_app c2
        have e1 : stOf ns (x.parts.getD f 0) = m1 := by
          have g0 := seg_get (xs := x.parts) (a := f) (c := f + 1 + l) (i := 0) (by omega)
          cases hs : seg x.parts f (f + 1 + l) with
          | nil => rw [hs] at hsl; simp at hsl; omega
          | cons p A =>
            rw [hs] at c2 g0
            rw [Nat.add_zero] at g0
            rw [List.getD_eq_getElem?_getD, ← g0]
            exact cov_st c2
        have e2 : enOf ns (x.parts.getD (f + 1 + l) 0) = m2 := by
          refine cov_en c2 ?_
          rw [List.getLast?_eq_getElem?, hsl, seg_get (by omega), List.getD_eq_getElem?_getD, show f + (f + 1 + l + 1 - f - 1) = f + 1 + l by omega, List.getElem?_eq_getElem (show f + 1 + l < x.parts.length by omega)]
          rfl
        have hcl := (cov_flat c2)
        have hm2 : m2 ≤ x.start + x.many := (cov_flat c3).1
        have hb := hok.2.1
        obtain ⟨pre, post, ee⟩ := exp_in h i hi
        rw [exp_node h e hp, q2, getD_range, hsp, List.flatMap_append, List.flatMap_append] at ee
        have b : Blk (homeOf ns cat) (pc cat m1 m2) := blk_of (l := seg x.parts f (f + 1 + l)) (pre := pre ++ (x.parts.take f).flatMap (exp ns ns.length)) (post := (x.parts.drop (f + 1 + l + 1)).flatMap (exp ns ns.length) ++ post) h c2
          (fun p hp => (p3 p ((seg_sub _ _ _).mem hp)).2) (by rw [ee]; simp) (by omega)
        have h3 : 2 ≤ m2 - m1 := by
          have := hcl.2.2
          have hw : ∀ l : List Nat, (∀ p ∈ l, p < ns.length) → l.length ≤ (l.map (wt1 ns)).sum := fun l => by
            induction l with
            | nil => intro _; simp
            | cons i l ih =>
              intro hl
              have hil := hl i List.mem_cons_self
              have e : ns[i]? = some ns[i] := List.getElem?_eq_getElem hil
              have := ih fun j hj => hl j (List.mem_cons_of_mem _ hj)
              have w : 1 ≤ wt1 ns i := by
                unfold wt1
                rw [e]
                have := (h.of e).1
                dsimp only
                omega
              rw [List.map_cons, List.sum_cons, List.length_cons]
              omega
          have := hw (seg x.parts f (f + 1 + l)) fun p hp => (p3 p ((seg_sub _ _ _).mem hp)).2
          omega
        rw [e1, e2]
        exact ⟨by rw [pc_len (by omega) (by omega)]; omega, pc_seg (by omega) (by omega), b⟩
      · rw [hk] at q1; cases q1
    · cases ht
end PL
namespace PL
open PySem PySem.Spec L2 DL
/-! ### data of one kind: how it compares -/
structure Enc (α : Type) [DecidableEq α] where
  d : α → D
  p : α → PyData
  ok : α → Prop
  dep : Nat
  py : ∀ x, toPy (d x) = some (p x)
  eqv : ∀ x y, PyData.eqv (p x) (p y) = decide (x = y)
  lay : ∀ x, ok x → (p x).canLay0 = true
  dp : ∀ x, (p x).depth ≤ dep
section
variable {α : Type} [DecidableEq α] (e : Enc α)
theorem Enc.pys : ∀ xs : List α, toPys (xs.map e.d) = some (xs.map e.p)
  | [] => rfl
  | x :: xs => by simp only [List.map_cons, toPys, e.py, Enc.pys xs]
theorem Enc.eqvs : ∀ xs ys : List α, PyData.eqvAll (xs.map e.p) (ys.map e.p) = decide (xs = ys)
  | [], [] => by simp only [List.map_nil, PyData.eqvAll, decide_true]
  | [], _ :: _ => by simp [PyData.eqvAll]
  | _ :: _, [] => by simp [PyData.eqvAll]
  | x :: xs, y :: ys => by
    rw [List.map_cons, List.map_cons, PyData.eqvAll, e.eqv x y, Enc.eqvs xs ys, ← Bool.decide_and]
    exact decide_eq_decide.mpr (by rw [List.cons.injEq])
theorem Enc.lays : ∀ xs : List α, (∀ x ∈ xs, e.ok x) → PyData.canLayAll0 (xs.map e.p) = true
  | [], _ => rfl
  | x :: xs, h => by
    rw [List.map_cons, PyData.canLayAll0, e.lay x (h x List.mem_cons_self), Enc.lays xs fun y hy => h y (List.mem_cons_of_mem _ hy)]; rfl
theorem Enc.dps : ∀ xs : List α, PyData.depthAll (xs.map e.p) ≤ e.dep
  | [] => Nat.zero_le _
  | x :: xs => by
    rw [List.map_cons, PyData.depthAll]
    have := e.dp x
    have := Enc.dps xs
    omega
theorem Enc.shaped (hd : e.dep ≤ 64) {x : α} (h : e.ok x) : SeqAt.shaped (e.p x) = true := by
  unfold SeqAt.shaped
  have := e.dp x
  rw [e.lay x h, Bool.true_and, decide_eq_true_eq]
  omega
theorem Enc.eqA {x y : α} {Q : Bool → Prop} (hx : e.ok x) (hy : e.ok y) (q : Q (decide (x = y))) (hd : e.dep ≤ 60 := by decide) : eqA (e.d x) (e.d y) Q := by
  unfold DL.eqA
  rw [e.py, e.py]
  exact ⟨e.shaped (by omega) hx, e.shaped (by omega) hy, by rw [e.eqv]; exact q⟩
theorem Enc.anys (x : α) : ∀ xs : List α, ((xs.map e.p).any fun z => PyData.eqv z (e.p x)) = decide (x ∈ xs)
  | [] => by simp
  | y :: ys => by
    rw [List.map_cons, List.any_cons, Enc.anys x ys, e.eqv, ← Bool.decide_or]
    exact decide_eq_decide.mpr (by rw [List.mem_cons, eq_comm (a := x)])
theorem Enc.inA {x : α} {xs : List α} {Q : Bool → Prop} (hx : e.ok x) (hy : ∀ x ∈ xs, e.ok x) (q : Q (decide (x ∈ xs))) (hd : e.dep ≤ 60 := by decide) : inA (e.d x) (.lst (xs.map e.d)) Q := by
  unfold DL.inA
  simp only [e.py, e.pys]
  refine ⟨e.shaped (by omega) hx, ?_, by rw [e.anys]; exact q⟩
  unfold SeqAt.shaped
  have := e.dps xs
  rw [PyData.canLay0, e.lays xs hy, Bool.true_and, decide_eq_true_eq, PyData.depth]
  omega
end
theorem dec_irr {p : Prop} {Q : Bool → Prop} (i j : Decidable p) (h : Q (@decide p i)) : Q (@decide p j) := by
  have e : i = j := Subsingleton.elim i j
  subst e
  exact h
def encS : Enc Str := ⟨D.str, PyData.str, fun x => okS x = true, 0, fun _ => rfl, eqv_str, fun _ h => h, fun _ => Nat.le_refl _⟩
def encL {α : Type} [DecidableEq α] (e : Enc α) : Enc (List α) := ⟨fun xs => .lst (xs.map e.d), fun xs => .list (xs.map e.p), fun xs => ∀ x ∈ xs, e.ok x, e.dep + 1, fun xs => by simp only [toPy, e.pys, Option.map_some],
  fun xs ys => by rw [PyData.eqv]; exact e.eqvs xs ys, fun xs h => e.lays xs h, fun xs => by rw [PyData.depth]; have := e.dps xs; omega⟩
def encT {α : Type} [DecidableEq α] (e : Enc α) : Enc (List α) := ⟨fun xs => .tup (xs.map e.d), fun xs => .tuple (xs.map e.p), fun xs => ∀ x ∈ xs, e.ok x, e.dep + 1, fun xs => by simp only [toPy, e.pys, Option.map_some],
  fun xs ys => by rw [PyData.eqv]; exact e.eqvs xs ys, fun xs h => e.lays xs h, fun xs => by rw [PyData.depth]; have := e.dps xs; omega⟩
theorem eqA_tS {a b : List Str} {Q : Bool → Prop} (ha : ∀ x ∈ a, okS x = true) (hb : ∀ x ∈ b, okS x = true) (q : Q (decide (a = b))) : eqA (tS a) (tS b) Q := (encT encS).eqA ha hb q
theorem inA_tSs {a : List Str} {ts : List (List Str)} {Q : Bool → Prop} (ha : ∀ x ∈ a, okS x = true) (hb : ∀ t ∈ ts, ∀ x ∈ t, okS x = true) (q : Q (decide (a ∈ ts))) : inA (tS a) (.lst (ts.map tS)) Q := (encT encS).inA ha hb (dec_irr _ _ q)
theorem eqA_tSs {a b : List (List Str)} {Q : Bool → Prop} (ha : ∀ t ∈ a, ∀ x ∈ t, okS x = true) (hb : ∀ t ∈ b, ∀ x ∈ t, okS x = true) (q : Q (decide (a = b))) : eqA (.lst (a.map tS)) (.lst (b.map tS)) Q := (encL (encT encS)).eqA ha hb q
theorem eqA_lSs {a b : List (List Str)} {Q : Bool → Prop} (ha : ∀ t ∈ a, ∀ x ∈ t, okS x = true) (hb : ∀ t ∈ b, ∀ x ∈ t, okS x = true) (q : Q (decide (a = b))) : eqA (.lst (a.map lS)) (.lst (b.map lS)) Q := (encL (encL encS)).eqA ha hb q
/-- a tuple and something that is none of that kind -/
theorem eqA_non_tS {a : List Str} {Q : Bool → Prop} (ha : ∀ x ∈ a, okS x = true) (q : Q false) : eqA .non (tS a) Q := by
  unfold DL.eqA
  rw [toPy_tS]
  simp only [toPy]
  exact ⟨rfl, (encT encS).shaped (by decide) ha, by rw [show PyData.eqv .none (tP a) = false from rfl]; exact q⟩
end PL
namespace PL
open PySem PySem.Spec L2 DL
/-- the place at which some books begin -/
def plc (row t : List Str) : Nat := lo (t.map row.idxOf)
theorem plc_blk {row t pr m po : List Str} (nd : row.Nodup) (e : row = pr ++ m ++ po) (hm : ∀ x, x ∈ m ↔ x ∈ t) (ht : t ≠ []) : plc row t = pr.length := by
  have ix : ∀ i, (hi : i < m.length) → row.idxOf m[i] = pr.length + i := fun i hi => by
    refine idx_get nd ?_
    rw [e, List.append_assoc, List.getElem?_append_right (by omega), List.getElem?_append_left (by omega), Nat.add_sub_cancel_left]
    exact List.getElem?_eq_getElem hi
  have hm0 : 0 < m.length := by
    obtain ⟨x, hx⟩ := mem_of_ne ht
    exact List.length_pos_iff.mpr (List.ne_nil_of_mem ((hm x).mpr hx))
  refine lo_eq (List.mem_map.mpr ⟨m[0], (hm _).mp (List.getElem_mem hm0), by rw [ix 0 hm0]; rfl⟩) fun y hy => ?_
  obtain ⟨x, hx, rfl⟩ := List.mem_map.mp hy
  obtain ⟨i, hi, rfl⟩ := List.getElem_of_mem ((hm x).mpr hx)
  rw [ix i hi]; omega
theorem plc_lt {cat row t : List Str} (h : Sh cat row) (ht : t ≠ []) (nt : t.Nodup) (hc : ∀ x ∈ t, x ∈ cat) : plc row t + t.length ≤ cat.length := by
  -- the places are apart, all from the least one on
  have h1 : (t.map row.idxOf).Nodup := by
    have : ∀ l : List Str, l.Nodup → (∀ x ∈ l, x ∈ row) → (l.map row.idxOf).Nodup := fun l => by
      induction l with
      | nil => intro _ _; simp
      | cons x l ih =>
        intro hn hl
        rw [List.nodup_cons] at hn
        rw [List.map_cons, List.nodup_cons]
        refine ⟨fun z => ?_, ih hn.2 fun y hy => hl y (List.mem_cons_of_mem _ hy)⟩
        obtain ⟨y, hy, e⟩ := List.mem_map.mp z
        have e1 := get_idx (hl x List.mem_cons_self)
        have e2 := get_idx (hl y (List.mem_cons_of_mem _ hy))
        rw [e, e1] at e2
        cases e2
        exact hn.1 hy
    exact this t nt fun x hx => h.pm.mem_iff.mpr (hc x hx)
  have h2 : ∀ y ∈ t.map row.idxOf, plc row t ≤ y ∧ y < cat.length := fun y hy => by
    refine ⟨lo_le hy, ?_⟩
    obtain ⟨x, hx, rfl⟩ := List.mem_map.mp hy
    rw [← h.pm.length_eq]
    exact List.idxOf_lt_length_of_mem (h.pm.mem_iff.mpr (hc x hx))
  have h3 := nd_len (xs := List.range' (plc row t) (cat.length - plc row t)) h1 fun y hy => by
    have := h2 y hy
    exact List.mem_range'_1.mpr (by omega)
  rw [List.length_map, List.length_range'] at h3
  have : t.length ≠ 0 := fun z => ht (List.length_eq_zero_iff.mp z)
  omega
/-- a run is found at its place -/
theorem runAt_plc {cat row t : List Str} (h : Sh cat row) (ht : t ∈ runsL cat (rk cat row)) : runAt cat (rk cat row) (plc row t) (plc row t + t.length - 1) = some t ∧ ∃ a, a + t.length ≤ cat.length ∧ t = (cat.drop a).take t.length ∧ ∃ x, t.head? = some x ∧ cat.idxOf x = a := by
  have h2 := run_ne h ht
  obtain ⟨b, e, h1, h3, hr⟩ := mem_runsL.mp ht
  rw [h.rkl] at h3
  obtain ⟨a, c, h4, h5, h6, et, h7⟩ := h.run (by omega) h3 hr
  have hl : t.length = c + 1 - a := by rw [et]; exact seg_len (by omega) h5
  have hp : plc row t = b := by
    have hrl := h.pm.length_eq
    have := plc_blk (row := row) (t := t) (pr := row.take b) (m := seg row b e) (po := row.drop (e + 1)) h.nr (seg_split row (by omega)) (fun x => by rw [et]; exact (h7 x).symm) (fun z => by rw [z] at h2; simp at h2)
    rw [this, List.length_take]; omega
  refine ⟨by rw [hp, show b + t.length - 1 = e by omega]; exact hr, a, by omega, by rw [hl]; exact et, ?_⟩
  have g := seg_get (xs := cat) (a := a) (c := c) (i := 0) (by omega)
  rw [Nat.add_zero, List.getElem?_eq_getElem (show a < cat.length by omega)] at g
  refine ⟨cat[a], by rw [et, List.head?_eq_getElem?]; exact g, h.nd.idxOf_getElem a (by omega)⟩
theorem runAt_mem {cat row t : List Str} {b k : Nat} (h : Sh cat row) (h2 : 2 ≤ k) (hb : b + k ≤ cat.length) (e : runAt cat (rk cat row) b (b + k - 1) = some t) : t ∈ runsL cat (rk cat row) :=
  mem_runsL.mpr ⟨b, b + k - 1, by omega, by rw [h.rkl]; omega, e⟩
/-- a shelf behind a turn -/
theorem Sh.turn {cat row t : List Str} (h : Sh cat row) (b : Blk row t) : Sh cat (turn t row) := ⟨h.nd, (turn_perm' h.nr b).trans h.pm⟩
theorem turn_ne {cat row t : List Str} (h : Sh cat row) (b : Blk row t) (h2 : 2 ≤ t.length) (nt : t.Nodup) : turn t row ≠ row := by
  obtain ⟨p, m, q, e, hm⟩ := b
  have hl : t.length ≤ m.length := nd_len nt fun x hx => (hm x).mpr hx
  rw [e, turn_blk (e ▸ h.nr) hm]
  intro z
  have z := List.append_cancel_left (List.append_cancel_right z)
  have nm := (nd3 (e ▸ h.nr)).2.2.2
  match m, hl, z, nm with
  | [], hl, _, _ => rw [List.length_nil] at hl; omega
  | [x], hl, _, _ => rw [List.length_singleton] at hl; omega
  | x :: y :: r, _, z, nm =>
    have e1 : (x :: y :: r).reverse.head? = some x := by rw [z]; rfl
    rw [List.head?_reverse] at e1
    have e2 : x ∈ y :: r := by
      rw [List.getLast?_cons_cons] at e1
      exact List.mem_of_getLast? e1
    exact (List.nodup_cons.mp nm).1 e2
/-- the runs behind a turn: those that do not overlap it -/
theorem run_turn {cat row t s : List Str} (h : Sh cat row) (ht : t ∈ runsL cat (rk cat row)) (hs : s ∈ runsL cat (rk cat row)) : s ∈ runsL cat (rk cat (turn t row)) ↔ NOv t s := by
  obtain ⟨_, _, bt⟩ := (run_iff h).mp ht
  obtain ⟨s2, ss, bs⟩ := (run_iff h).mp hs
  rw [run_iff (h.turn bt)]
  exact ⟨fun z => turn_lost h.nr bt bs z.2.2, fun z => ⟨s2, ss, (turn_two h.nr bt bs z).1⟩⟩
theorem run_self {cat row t : List Str} (h : Sh cat row) (ht : t ∈ runsL cat (rk cat row)) : t ∈ runsL cat (rk cat (turn t row)) := (run_turn h ht ht).mpr (.inr (.inl fun _ z => z))
theorem run_nd {cat row t : List Str} (h : Sh cat row) (ht : t ∈ runsL cat (rk cat row)) : t.Nodup := h.nd.sublist (run_sub ht)
theorem run_mem {cat row t : List Str} (ht : t ∈ runsL cat (rk cat row)) : ∀ x ∈ t, x ∈ cat := fun x hx => (run_sub ht).mem hx
/-- the whole is a run -/
theorem run_all {cat row : List Str} (h : Sh cat row) (h2 : 2 ≤ cat.length) : cat ∈ runsL cat (rk cat row) :=
  (run_iff h).mpr ⟨h2, ⟨[], [], by simp⟩, ⟨[], row, [], by simp, fun x => h.pm.mem_iff⟩⟩
end PL
namespace PL
variable {α : Type} [DecidableEq α]
/-- two that overlap in one row: three pieces -/
theorem ov_split {row a b : List α} (nd : row.Nodup) (ha : Blk row a) (hb : Blk row b) (ho : ¬ NOv a b) :
    ∃ p d f c q, row = p ++ d ++ f ++ c ++ q ∧ d ≠ [] ∧ f ≠ [] ∧ c ≠ [] ∧ (((∀ x, x ∈ d ++ f ↔ x ∈ a) ∧ ∀ x, x ∈ f ++ c ↔ x ∈ b) ∨ ((∀ x, x ∈ d ++ f ↔ x ∈ b) ∧ ∀ x, x ∈ f ++ c ↔ x ∈ a)) := by
  obtain ⟨p1, A, q1, e1, m1⟩ := ha
  obtain ⟨p2, B, q2, e2, m2⟩ := hb
  rcases two_split (e1 ▸ e2) with ⟨m, h1, h2⟩ | ⟨m, h1, h2⟩ | ⟨d, e, h1, h2, h3⟩ | ⟨d, e, h1, h2, h3⟩ | ⟨d, f, c, h1, h2, h3, h4, hd, hf, hc⟩ | ⟨d, f, c, h1, h2, h3, h4, hd, hf, hc⟩
  · exfalso
    subst h2
    obtain ⟨_, n2, _⟩ := nd3 (e1 ▸ nd)
    exact ho (.inl fun x hx z => n2 x (List.mem_append_left _ (List.mem_append_right _ ((m2 x).mpr z))) ((m1 x).mpr hx))
  · exfalso
    subst h1
    obtain ⟨n1, _, _⟩ := nd3 (e1 ▸ nd)
    exact ho (.inl fun x hx z => n1 x (List.mem_append_left _ (List.mem_append_right _ ((m2 x).mpr z))) ((m1 x).mpr hx))
  · exact absurd (.inr (.inl fun x hx => (m2 x).mp (by rw [h3]; simp [(m1 x).mpr hx]))) ho
  · exact absurd (.inr (.inr fun x hx => (m1 x).mp (by rw [h3]; simp [(m2 x).mpr hx]))) ho
  · subst h1 h2 h3 h4
    exact ⟨p1, d, f, c, q2, by rw [e1]; simp, hd, hf, hc, .inl ⟨m1, m2⟩⟩
  · subst h1 h2 h3 h4
    exact ⟨p2, d, f, c, q1, by rw [e2]; simp, hd, hf, hc, .inr ⟨m2, m1⟩⟩
theorem nd5 {p d f c q : List α} (h : (p ++ d ++ f ++ c ++ q).Nodup) : (∀ x ∈ d, x ∉ f) ∧ (∀ x ∈ d, x ∉ c) ∧ (∀ x ∈ f, x ∉ c) := by
  rw [show p ++ d ++ f ++ c ++ q = p ++ (d ++ f ++ c) ++ q by simp] at h
  have h := (nd3 h).2.2.2
  obtain ⟨h1, h2, h3, _⟩ := nd3 h
  exact ⟨h1, h3, fun x hx z => h2 x z hx⟩
/-- what both have, what one has, what just the one has -/
theorem ov_blk {row a b : List α} (nd : row.Nodup) (ha : Blk row a) (hb : Blk row b) (ho : ¬ NOv a b) :
    (∀ t : List α, (∀ x, x ∈ t ↔ x ∈ a ∧ x ∈ b) → t ≠ [] ∧ Blk row t) ∧ (∀ t : List α, (∀ x, x ∈ t ↔ x ∈ a ∨ x ∈ b) → t ≠ [] ∧ Blk row t) ∧
    (∀ t : List α, (∀ x, x ∈ t ↔ x ∈ a ∧ x ∉ b) → t ≠ [] ∧ Blk row t) ∧ (∀ t : List α, (∀ x, x ∈ t ↔ x ∈ b ∧ x ∉ a) → t ≠ [] ∧ Blk row t) := by
  obtain ⟨p, d, f, c, q, e, hd, hf, hc, hm⟩ := ov_split nd ha hb ho
  obtain ⟨n1, n2, n3⟩ := nd5 (e ▸ nd)
  have mk : ∀ (s t : List α), s ≠ [] → (∃ p q, row = p ++ s ++ q) → (∀ x, x ∈ s ↔ x ∈ t) → t ≠ [] ∧ Blk row t := fun s t hs ⟨p, q, e⟩ h => by
    refine ⟨fun z => ?_, ⟨p, s, q, e, h⟩⟩
    obtain ⟨x, hx⟩ := mem_of_ne hs
    have := (h x).mp hx
    rw [z] at this
    cases this
  have Sd : ∃ p q, row = p ++ d ++ q := ⟨p, f ++ c ++ q, by rw [e]; simp⟩
  have Sf : ∃ p q, row = p ++ f ++ q := ⟨p ++ d, c ++ q, by rw [e]; simp⟩
  have Sc : ∃ p q, row = p ++ c ++ q := ⟨p ++ d ++ f, q, e⟩
  have Sa : ∃ p q, row = p ++ (d ++ f ++ c) ++ q := ⟨p, q, by rw [e]; simp⟩
  have ha0 : d ++ f ++ c ≠ [] := fun z => hd (by simp at z; exact z.1)
  rcases hm with ⟨m1, m2⟩ | ⟨m1, m2⟩
  · refine ⟨fun t ht => mk f t hf Sf fun x => ?_, fun t ht => mk _ t ha0 Sa fun x => ?_, fun t ht => mk d t hd Sd fun x => ?_, fun t ht => mk c t hc Sc fun x => ?_⟩
    all_goals
      rw [ht, ← m1, ← m2]
      simp only [List.mem_append]
      have := n1 x; have := n2 x; have := n3 x
      by_cases hxd : x ∈ d <;> by_cases hxf : x ∈ f <;> by_cases hxc : x ∈ c <;> simp_all
  · refine ⟨fun t ht => mk f t hf Sf fun x => ?_, fun t ht => mk _ t ha0 Sa fun x => ?_, fun t ht => mk c t hc Sc fun x => ?_, fun t ht => mk d t hd Sd fun x => ?_⟩
    all_goals
      rw [ht, ← m1, ← m2]
      simp only [List.mem_append]
      have := n1 x; have := n2 x; have := n3 x
      by_cases hxd : x ∈ d <;> by_cases hxf : x ∈ f <;> by_cases hxc : x ∈ c <;> simp_all
end PL
namespace PL
open PySem PySem.Spec L2 DL
theorem seg_of_blk {cat t : List Str} (nd : cat.Nodup) (hs : t.Sublist cat) (b : Blk cat t) : Seg cat t := by
  obtain ⟨p, m, q, e, hm⟩ := b
  have : m = t := sub_ext nd (by rw [e]; exact (List.sublist_append_right p m).trans (List.sublist_append_left _ _)) hs hm
  exact ⟨p, q, this ▸ e⟩
theorem blk_of_seg {cat t : List Str} (h : Seg cat t) : Blk cat t := by
  obtain ⟨p, q, e⟩ := h
  exact ⟨p, t, q, e, fun _ => .rfl⟩
/-- the pieces of two runs that overlap -/
theorem ov_run {cat row a b t : List Str} (h : Sh cat row) (ra : a ∈ runsL cat (rk cat row)) (rb : b ∈ runsL cat (rk cat row)) (ho : ¬ NOv a b) (ht : t.Sublist cat)
    (k : (∀ x, x ∈ t ↔ x ∈ a ∧ x ∈ b) ∨ (∀ x, x ∈ t ↔ x ∈ a ∨ x ∈ b) ∨ (∀ x, x ∈ t ↔ x ∈ a ∧ x ∉ b) ∨ (∀ x, x ∈ t ↔ x ∈ b ∧ x ∉ a)) : t ≠ [] ∧ (1 < t.length → t ∈ runsL cat (rk cat row)) := by
  obtain ⟨a2, as, ab⟩ := (run_iff h).mp ra
  obtain ⟨b2, bs, bb⟩ := (run_iff h).mp rb
  obtain ⟨c1, c2, c3, c4⟩ := ov_blk h.nd (blk_of_seg as) (blk_of_seg bs) ho
  obtain ⟨r1, r2, r3, r4⟩ := ov_blk h.nr ab bb ho
  have go : (t ≠ [] ∧ Blk cat t) → (t ≠ [] ∧ Blk row t) → t ≠ [] ∧ (1 < t.length → t ∈ runsL cat (rk cat row)) := fun x y => ⟨x.1, fun hl => (run_iff h).mpr ⟨hl, seg_of_blk h.nd ht x.2, y.2⟩⟩
  rcases k with k | k | k | k
  · exact go (c1 t k) (r1 t k)
  · exact go (c2 t k) (r2 t k)
  · exact go (c3 t k) (r3 t k)
  · exact go (c4 t k) (r4 t k)
end PL
namespace K11
open PySem PySem.Spec L2 DL
def top (i : Nat) : Stmt := PySem.Challenge.pw_runturns_k11_whole_runs_that_overlap.main.body.getD i (.Pass ⟨0, 0, 0, 0⟩)

structure Fx (K : PySem.W.Frag) (mg : Str → Option Value) (cls : Str → Option Addr) (tk : Str → Tok) (C_Shelf : Addr) : Prop where
  wok : WOk ⟨K, cls, none⟩
  f_all : mg "all" = none
  f_any : mg "any" = none
  f_bool : mg "bool" = none
  f_dict : mg "dict" = none
  f_enumerate : mg "enumerate" = none
  f_int : mg "int" = none
  f_isinstance : mg "isinstance" = none
  f_len : mg "len" = none
  f_list : mg "list" = none
  f_max : mg "max" = none
  f_min : mg "min" = none
  f_range : mg "range" = none
  f_set : mg "set" = none
  f_sorted : mg "sorted" = none
  f_str : mg "str" = none
  f_sum : mg "sum" = none
  f_tuple : mg "tuple" = none
  f_zip : mg "zip" = none
  k_LETTERS : mg "LETTERS" = some (.str "abcdefghijklmnopqrstuvwxyz" (tk "LETTERS"))
  c_Shelf : cls "Shelf" = some C_Shelf
  m_Shelf : mg "Shelf" = some (.ref C_Shelf)
  cl_Shelf : Cls K C_Shelf
  q_Shelf : EqC K C_Shelf
  na_Shelf_books : NoAttr K C_Shelf "books"
  na_Shelf_entries : NoAttr K C_Shelf "entries"
  na_Shelf_order : NoAttr K C_Shelf "order"
  na_Shelf_ranks : NoAttr K C_Shelf "ranks"
  d_is_spelt : ∃ (a : Addr) (fd : FuncData), mg "is_spelt" = some (.ref a) ∧ FunD K "is_spelt" "is_spelt" (defArgs (top 8)) (defBody (top 8)) (defScope (top 8)) [] [] a fd
  d_are_books : ∃ (a : Addr) (fd : FuncData), mg "are_books" = some (.ref a) ∧ FunD K "are_books" "are_books" (defArgs (top 10)) (defBody (top 10)) (defScope (top 10)) [] [] a fd
  d_check_catalogue : ∃ (a : Addr) (fd : FuncData), mg "check_catalogue" = some (.ref a) ∧ FunD K "check_catalogue" "check_catalogue" (defArgs (top 11)) (defBody (top 11)) (defScope (top 11)) [] [] a fd
  d_Shelf_init : ∃ (a : Addr) (fd : FuncData), Mk K C_Shelf a ∧ FunD K "__init__" "Shelf.__init__" (defArgs (inClass (top 12) 0)) (defBody (inClass (top 12) 0)) (defScope (inClass (top 12) 0)) [] [] a fd
  d_Shelf_catalogue : ∃ (a : Addr) (fd : FuncData), Meth K C_Shelf "catalogue" a ∧ FunD K "catalogue" "Shelf.catalogue" (defArgs (inClass (top 12) 1)) (defBody (inClass (top 12) 1)) (defScope (inClass (top 12) 1)) [] [] a fd
  d_Shelf_row : ∃ (a : Addr) (fd : FuncData), Meth K C_Shelf "row" a ∧ FunD K "row" "Shelf.row" (defArgs (inClass (top 12) 2)) (defBody (inClass (top 12) 2)) (defScope (inClass (top 12) 2)) [] [] a fd
  d_Shelf_eq : ∃ (a : Addr) (fd : FuncData), Meth K C_Shelf "__eq__" a ∧ FunD K "__eq__" "Shelf.__eq__" (defArgs (inClass (top 12) 3)) (defBody (inClass (top 12) 3)) (defScope (inClass (top 12) 3)) [] [] a fd
  d_check_shelf : ∃ (a : Addr) (fd : FuncData), mg "check_shelf" = some (.ref a) ∧ FunD K "check_shelf" "check_shelf" (defArgs (top 13)) (defBody (top 13)) (defScope (top 13)) [] [] a fd
  d_run_from : ∃ (a : Addr) (fd : FuncData), mg "run_from" = some (.ref a) ∧ FunD K "run_from" "run_from" (defArgs (top 15)) (defBody (top 15)) (defScope (top 15)) [] [] a fd
  d_runs_of : ∃ (a : Addr) (fd : FuncData), mg "runs_of" = some (.ref a) ∧ FunD K "runs_of" "runs_of" (defArgs (top 16)) (defBody (top 16)) (defScope (top 16)) [] [] a fd
  d_span : ∃ (a : Addr) (fd : FuncData), mg "span" = some (.ref a) ∧ FunD K "span" "span" (defArgs (top 17)) (defBody (top 17)) (defScope (top 17)) [] [] a fd
  d_is_run_of : ∃ (a : Addr) (fd : FuncData), mg "is_run_of" = some (.ref a) ∧ FunD K "is_run_of" "is_run_of" (defArgs (top 18)) (defBody (top 18)) (defScope (top 18)) [] [] a fd
  d_check_run : ∃ (a : Addr) (fd : FuncData), mg "check_run" = some (.ref a) ∧ FunD K "check_run" "check_run" (defArgs (top 19)) (defBody (top 19)) (defScope (top 19)) [] [] a fd
  d_is_run : ∃ (a : Addr) (fd : FuncData), mg "is_run" = some (.ref a) ∧ FunD K "is_run" "is_run" (defArgs (top 20)) (defBody (top 20)) (defScope (top 20)) [] [] a fd
  d_common : ∃ (a : Addr) (fd : FuncData), mg "common" = some (.ref a) ∧ FunD K "common" "common" (defArgs (top 21)) (defBody (top 21)) (defScope (top 21)) [] [] a fd
  d_overlaps : ∃ (a : Addr) (fd : FuncData), mg "overlaps" = some (.ref a) ∧ FunD K "overlaps" "overlaps" (defArgs (top 22)) (defBody (top 22)) (defScope (top 22)) [] [] a fd
  d_check_both : ∃ (a : Addr) (fd : FuncData), mg "check_both" = some (.ref a) ∧ FunD K "check_both" "check_both" (defArgs (top 23)) (defBody (top 23)) (defScope (top 23)) [] [] a fd
  d_overlap : ∃ (a : Addr) (fd : FuncData), mg "overlap" = some (.ref a) ∧ FunD K "overlap" "overlap" (defArgs (top 24)) (defBody (top 24)) (defScope (top 24)) [] [] a fd
  d_overlapping : ∃ (a : Addr) (fd : FuncData), mg "overlapping" = some (.ref a) ∧ FunD K "overlapping" "overlapping" (defArgs (top 25)) (defBody (top 25)) (defScope (top 25)) [] [] a fd
  d_check_overlap : ∃ (a : Addr) (fd : FuncData), mg "check_overlap" = some (.ref a) ∧ FunD K "check_overlap" "check_overlap" (defArgs (top 26)) (defBody (top 26)) (defScope (top 26)) [] [] a fd
  d_meet_of : ∃ (a : Addr) (fd : FuncData), mg "meet_of" = some (.ref a) ∧ FunD K "meet_of" "meet_of" (defArgs (top 27)) (defBody (top 27)) (defScope (top 27)) [] [] a fd
  d_union_of : ∃ (a : Addr) (fd : FuncData), mg "union_of" = some (.ref a) ∧ FunD K "union_of" "union_of" (defArgs (top 28)) (defBody (top 28)) (defScope (top 28)) [] [] a fd
  d_rests_of : ∃ (a : Addr) (fd : FuncData), mg "rests_of" = some (.ref a) ∧ FunD K "rests_of" "rests_of" (defArgs (top 29)) (defBody (top 29)) (defScope (top 29)) [] [] a fd
  d_law_purse : ∃ (a : Addr) (fd : FuncData), mg "_law_purse" = some (.ref a) ∧ FunD K "_law_purse" "_law_purse" (defArgs (top 31)) (defBody (top 31)) (defScope (top 31)) [] [] a fd
  d_law_mixed : ∃ (a : Addr) (fd : FuncData), mg "_law_mixed" = some (.ref a) ∧ FunD K "_law_mixed" "_law_mixed" (defArgs (top 32)) (defBody (top 32)) (defScope (top 32)) [] [] a fd
  d_law_draw : ∃ (a : Addr) (fd : FuncData), mg "_law_draw" = some (.ref a) ∧ FunD K "_law_draw" "_law_draw" (defArgs (top 33)) (defBody (top 33)) (defScope (top 33)) [] [] a fd
  d_law_purses : ∃ (a : Addr) (fd : FuncData), mg "_law_purses" = some (.ref a) ∧ FunD K "_law_purses" "_law_purses" (defArgs (top 34)) (defBody (top 34)) (defScope (top 34)) [] [] a fd
  d_law_one_of : ∃ (a : Addr) (fd : FuncData), mg "_law_one_of" = some (.ref a) ∧ FunD K "_law_one_of" "_law_one_of" (defArgs (top 35)) (defBody (top 35)) (defScope (top 35)) [] [] a fd
  d_law_shuffled : ∃ (a : Addr) (fd : FuncData), mg "_law_shuffled" = some (.ref a) ∧ FunD K "_law_shuffled" "_law_shuffled" (defArgs (top 36)) (defBody (top 36)) (defScope (top 36)) [] [] a fd
  d_law_exact : ∃ (a : Addr) (fd : FuncData), mg "_law_exact" = some (.ref a) ∧ FunD K "_law_exact" "_law_exact" (defArgs (top 37)) (defBody (top 37)) (defScope (top 37)) [] [] a fd
  d_law_word : ∃ (a : Addr) (fd : FuncData), mg "_law_word" = some (.ref a) ∧ FunD K "_law_word" "_law_word" (defArgs (top 38)) (defBody (top 38)) (defScope (top 38)) [] [] a fd
  d_law_words : ∃ (a : Addr) (fd : FuncData), mg "_law_words" = some (.ref a) ∧ FunD K "_law_words" "_law_words" (defArgs (top 39)) (defBody (top 39)) (defScope (top 39)) [] [] a fd
  d_law_catalogue : ∃ (a : Addr) (fd : FuncData), mg "_law_catalogue" = some (.ref a) ∧ FunD K "_law_catalogue" "_law_catalogue" (defArgs (top 40)) (defBody (top 40)) (defScope (top 40)) [] [] a fd
  d_law_sizes : ∃ (a : Addr) (fd : FuncData), mg "_law_sizes" = some (.ref a) ∧ FunD K "_law_sizes" "_law_sizes" (defArgs (top 41)) (defBody (top 41)) (defScope (top 41)) [] [] a fd
  d_law_crossed_rows : ∃ (a : Addr) (fd : FuncData), mg "_law_crossed_rows" = some (.ref a) ∧ FunD K "_law_crossed_rows" "_law_crossed_rows" (defArgs (top 42)) (defBody (top 42)) (defScope (top 42)) [] [] a fd
  d_law_heap_sizes : ∃ (a : Addr) (fd : FuncData), mg "_law_heap_sizes" = some (.ref a) ∧ FunD K "_law_heap_sizes" "_law_heap_sizes" (defArgs (top 43)) (defBody (top 43)) (defScope (top 43)) [] [] a fd
  d_law_nodes : ∃ (a : Addr) (fd : FuncData), mg "_law_nodes" = some (.ref a) ∧ FunD K "_law_nodes" "_law_nodes" (defArgs (top 44)) (defBody (top 44)) (defScope (top 44)) [] [] a fd
  d_law_home_row : ∃ (a : Addr) (fd : FuncData), mg "_law_home_row" = some (.ref a) ∧ FunD K "_law_home_row" "_law_home_row" (defArgs (top 45)) (defBody (top 45)) (defScope (top 45)) [] [] a fd
  d_law_turnables : ∃ (a : Addr) (fd : FuncData), mg "_law_turnables" = some (.ref a) ∧ FunD K "_law_turnables" "_law_turnables" (defArgs (top 46)) (defBody (top 46)) (defScope (top 46)) [] [] a fd
  d_law_overlap : ∃ (a : Addr) (fd : FuncData), mg "_law_overlap" = some (.ref a) ∧ FunD K "_law_overlap" "_law_overlap" (defArgs (top 47)) (defBody (top 47)) (defScope (top 47)) [] [] a fd
  d_law_drawn_lot : ∃ (a : Addr) (fd : FuncData), mg "_law_drawn_lot" = some (.ref a) ∧ FunD K "_law_drawn_lot" "_law_drawn_lot" (defArgs (top 48)) (defBody (top 48)) (defScope (top 48)) [] [] a fd
  d_law_turn : ∃ (a : Addr) (fd : FuncData), mg "_law_turn" = some (.ref a) ∧ FunD K "_law_turn" "_law_turn" (defArgs (top 49)) (defBody (top 49)) (defScope (top 49)) [] [] a fd
  d_law_led : ∃ (a : Addr) (fd : FuncData), mg "_law_led" = some (.ref a) ∧ FunD K "_law_led" "_law_led" (defArgs (top 50)) (defBody (top 50)) (defScope (top 50)) [] [] a fd
  d_law_class : ∃ (a : Addr) (fd : FuncData), mg "_law_class" = some (.ref a) ∧ FunD K "_law_class" "_law_class" (defArgs (top 51)) (defBody (top 51)) (defScope (top 51)) [] [] a fd
  d_law_free : ∃ (a : Addr) (fd : FuncData), mg "_law_free" = some (.ref a) ∧ FunD K "_law_free" "_law_free" (defArgs (top 52)) (defBody (top 52)) (defScope (top 52)) [] [] a fd
  d_law_world : ∃ (a : Addr) (fd : FuncData), mg "_law_world" = some (.ref a) ∧ FunD K "_law_world" "_law_world" (defArgs (top 53)) (defBody (top 53)) (defScope (top 53)) [] [] a fd
  d_law_shelf : ∃ (a : Addr) (fd : FuncData), mg "_law_shelf" = some (.ref a) ∧ FunD K "_law_shelf" "_law_shelf" (defArgs (top 54)) (defBody (top 54)) (defScope (top 54)) [] [] a fd
  d_law_ranks : ∃ (a : Addr) (fd : FuncData), mg "_law_ranks" = some (.ref a) ∧ FunD K "_law_ranks" "_law_ranks" (defArgs (top 55)) (defBody (top 55)) (defScope (top 55)) [] [] a fd
  d_law_runs : ∃ (a : Addr) (fd : FuncData), mg "_law_runs" = some (.ref a) ∧ FunD K "_law_runs" "_law_runs" (defArgs (top 56)) (defBody (top 56)) (defScope (top 56)) [] [] a fd
  d_law_unspoilt : ∃ (a : Addr) (fd : FuncData), mg "_law_unspoilt" = some (.ref a) ∧ FunD K "_law_unspoilt" "_law_unspoilt" (defArgs (top 57)) (defBody (top 57)) (defScope (top 57)) [] [] a fd
  d_law_many : ∃ (a : Addr) (fd : FuncData), mg "_law_many" = some (.ref a) ∧ FunD K "_law_many" "_law_many" (defArgs (top 58)) (defBody (top 58)) (defScope (top 58)) [] [] a fd
  d_law_pair_right : ∃ (a : Addr) (fd : FuncData), mg "_law_pair_right" = some (.ref a) ∧ FunD K "_law_pair_right" "_law_pair_right" (defArgs (top 59)) (defBody (top 59)) (defScope (top 59)) [] [] a fd
  d_law_right : ∃ (a : Addr) (fd : FuncData), mg "_law_right" = some (.ref a) ∧ FunD K "_law_right" "_law_right" (defArgs (top 60)) (defBody (top 60)) (defScope (top 60)) [] [] a fd
  d_law : ∃ (a : Addr) (fd : FuncData), mg "law" = some (.ref a) ∧ FunD K "law" "law" (defArgs (top 61)) (defBody (top 61)) (defScope (top 61)) [] [] a fd
section
variable {P : Program} {w : World} {K : PySem.W.Frag} {mg : Str → Option Value} {base : Heap} {cls : Str → Option Addr} {tk : Str → Tok} {C_Shelf : Addr}
def N_is_spelt : List Str := ["value", "letter"]
theorem sc_is_spelt : FnScope N_is_spelt ["value"] (defScope (top 8)) := ⟨rfl, rfl, rfl, by decide +kernel, rfl, by decide +kernel, by decide +kernel⟩
def W_is_spelt : TDS := (tSeqD (tIfD (tOrD (tNotD (tTst (tCall isinD (tConsA (tVarK 0) (tConsA (tCD (.ty "str")) tNilA))))) (tNotD (tTst (tChnD ltD ltD (tCD (.int 0)) (tCall lenD (tConsA (tVarK 0) tNilA)) (tCD (.int 9)))))) (tRetD (tCD (.bl false))) tNextD) (tSeqD (tForD (tItS (tVarK 0)) (.nm 1) (tIfD (tTst (t2 ninE (tVarK 1) (tCD (.str "abcdefghijklmnopqrstuvwxyz")))) (tRetD (tCD (.bl false))) tNextD)) (tRetD (tCD (.bl true)))))
noncomputable def F_is_spelt : FnD := sealD (runD 2 [false] false W_is_spelt)
theorem F_is_spelt_eq : F_is_spelt = runD 2 [false] false W_is_spelt := sealD_eq _
theorem ok_is_spelt (T : Fx K mg cls tk C_Shelf) : ∃ (a : Addr) (fd : FuncData), mg "is_spelt" = some (.ref a) ∧ FunD K "is_spelt" "is_spelt" (defArgs (top 8)) (defBody (top 8)) (defScope (top 8)) [] [] a fd ∧ FnOk P w K mg base CX0 1 a fd ["value"] (spD ⟨K, cls, none⟩ [false] false F_is_spelt) := by
  rw [F_is_spelt_eq]
  obtain ⟨a, fd, hm, D⟩ := T.d_is_spelt
  refine ⟨a, fd, hm, D, fn_ok D sc_is_spelt rfl (by decide) (fun cdv A outer s H E hr => ?_)⟩
  have S := sc_is_spelt
  exact (pssd_cons (psd_if (PWD.pt (pwd_or (ptd_not (ptd_val (PD.pk (pd_callB op_isin (k_isin T.wok) rfl T.f_isinstance (by kernel_rfl) (pak_cons (pk_var (pv 0)) (pak_cons (PD.pk (pd_ty rfl T.f_str (by kernel_rfl))) pak_nil)))))) (pwd_or1 (ptd_not (ptd_chain op_ltD op_ltD k_ltD k_ltD (PD.pk pd_int) (PD.pk (pd_callB call_len k_len rfl T.f_len (by kernel_rfl) (pak_cons (pk_var (pv 0)) pak_nil))) (PD.pk pd_int)))))) (pssd_one (psd_ret pd_bl))
    pssd_nil)
    (pssd_cons (psd_for rfl PassesOwn.never rfl (pj_strD (pk_var (pv 0))) (pg_name (i := 1) S.nd rfl (Or.inl rfl))
    (pssd_one (psd_if (ptd_cmp (op_ninE (u65 hr)) k_ninE (pk_var (pv 1)) (PD.pk (pd_gstr rfl T.k_LETTERS)) (by rfl)) (pssd_one (psd_ret pd_bl))
    pssd_nil)))
    (pssd_one (psd_ret pd_bl))))
theorem at_is_spelt (T : Fx K mg cls tk C_Shelf) : FnAt P w K mg base ⟨K, cls, none⟩ "is_spelt" 1 [false] false [] F_is_spelt := by
  obtain ⟨a, fd, hm, D, G⟩ := ok_is_spelt T
  exact ⟨a, fd, ["value"], [], [], hm, D.kp, G, D.bindsN fun _ _ _ _ _ _ us hl => match us, hl with | [_], _ => rfl, .nil, fun _ _ => Reps.nil⟩
def N_are_books : List Str := ["value", "book"]
theorem sc_are_books : FnScope N_are_books ["value"] (defScope (top 10)) := ⟨rfl, rfl, rfl, by decide +kernel, rfl, by decide +kernel, by decide +kernel⟩
def W_are_books : TDS := (tSeqD (tIfD (tOrD (tNotD (tTst (tCall isinD (tConsA (tVarK 0) (tConsA (tCD (.ty "list")) tNilA))))) (tOrD (tTst (t2 eqD (tVarK 0) (tLstD tNilA))) (tNotD (tTst (tCall allD (tConsA (tLcD (tItL (tVarK 0)) (.nm 1) tYesD (tFn F_is_spelt [] (tConsA (tVarD 1) tNilA)) [1]) tNilA)))))) (tRetD (tCD (.bl false))) tNextD) (tRetD (t2 eqD (tLenSetD (tVarK 0)) (tCall lenD (tConsA (tVarK 0) tNilA)))))
noncomputable def F_are_books : FnD := sealD (runD 2 [false] false W_are_books)
theorem F_are_books_eq : F_are_books = runD 2 [false] false W_are_books := sealD_eq _
theorem ok_are_books (T : Fx K mg cls tk C_Shelf) : ∃ (a : Addr) (fd : FuncData), mg "are_books" = some (.ref a) ∧ FunD K "are_books" "are_books" (defArgs (top 10)) (defBody (top 10)) (defScope (top 10)) [] [] a fd ∧ FnOk P w K mg base CX0 2 a fd ["value"] (spD ⟨K, cls, none⟩ [false] false F_are_books) := by
  rw [F_are_books_eq]
  obtain ⟨a, fd, hm, D⟩ := T.d_are_books
  refine ⟨a, fd, hm, D, fn_ok D sc_are_books rfl (by decide) (fun cdv A outer s H E hr => ?_)⟩
  have S := sc_are_books
  exact (pssd_cons (psd_if (PWD.pt (pwd_or (ptd_not (ptd_val (PD.pk (pd_callB op_isin (k_isin T.wok) rfl T.f_isinstance (by kernel_rfl) (pak_cons (pk_var (pv 0)) (pak_cons (PD.pk (pd_ty rfl T.f_list (by kernel_rfl))) pak_nil)))))) (pwd_or (ptd_cmp (op_eqD hr.units) k_eqD (pk_var (pv 0)) (PD.pk (PFD.pd (pf_lst pad_nil))) (nomark _)) (pwd_or1 (ptd_not (ptd_val (PD.pk (pd_callB (cr_all rfl) k_all rfl T.f_all (by kernel_rfl) (pak_cons (PD.pk (PFD.pd (pf_lc (own := [("book", 1)]) (g := (.nm 1)) rfl rfl S.nd (pi_lstD rfl (pk_var (pv 0))) (blkOk_by (N := N_are_books) (own := [("book", 1)]) (sc := defScope (top 10)) (by decide +kernel)) (fun _ _ _ _ _ => (pg_name (i := 1) S.nd rfl (Or.inl rfl))) (by decide) (fun _ _ _ _ _ => ptsd_nil) (fun _ _ _ _ _ => (pd_call (ms1 := [false]) (dd := []) ((at_is_spelt T)) (hr.mono (by decide)) rfl (pam_sh (pd_var (pv 1)) pam_nil)))))) pak_nil))))))))) (pssd_one (psd_ret pd_bl))
    pssd_nil)
    (pssd_one (psd_ret (pd_cmp (op_eqD hr.units) k_eqD (PD.pk (pd_lenSet rfl rfl rfl T.f_len rfl T.f_set (pk_var (pv 0)))) (PD.pk (pd_callB call_len k_len rfl T.f_len (by kernel_rfl) (pak_cons (pk_var (pv 0)) pak_nil))) (nomark _)))))
theorem at_are_books (T : Fx K mg cls tk C_Shelf) : FnAt P w K mg base ⟨K, cls, none⟩ "are_books" 2 [false] false [] F_are_books := by
  obtain ⟨a, fd, hm, D, G⟩ := ok_are_books T
  exact ⟨a, fd, ["value"], [], [], hm, D.kp, G, D.bindsN fun _ _ _ _ _ _ us hl => match us, hl with | [_], _ => rfl, .nil, fun _ _ => Reps.nil⟩
def N_check_catalogue : List Str := ["value"]
theorem sc_check_catalogue : FnScope N_check_catalogue ["value"] (defScope (top 11)) := ⟨rfl, rfl, rfl, by decide +kernel, rfl, by decide +kernel, by decide +kernel⟩
def W_check_catalogue : TDS := (tIfD (tNotD (tTst (tFn F_are_books [] (tConsA (tVarD 0) tNilA)))) tNeverD tNextD)
noncomputable def F_check_catalogue : FnD := sealD (runD 1 [false] false W_check_catalogue)
theorem F_check_catalogue_eq : F_check_catalogue = runD 1 [false] false W_check_catalogue := sealD_eq _
theorem ok_check_catalogue (T : Fx K mg cls tk C_Shelf) : ∃ (a : Addr) (fd : FuncData), mg "check_catalogue" = some (.ref a) ∧ FunD K "check_catalogue" "check_catalogue" (defArgs (top 11)) (defBody (top 11)) (defScope (top 11)) [] [] a fd ∧ FnOk P w K mg base CX0 3 a fd ["value"] (spD ⟨K, cls, none⟩ [false] false F_check_catalogue) := by
  rw [F_check_catalogue_eq]
  obtain ⟨a, fd, hm, D⟩ := T.d_check_catalogue
  refine ⟨a, fd, hm, D, fn_ok D sc_check_catalogue rfl (by decide) (fun cdv A outer s H E hr => ?_)⟩
  have S := sc_check_catalogue
  exact (pssd_one (psd_if (ptd_not (ptd_val (PD.pk (pd_call (ms1 := [false]) (dd := []) ((at_are_books T)) (hr.mono (by decide)) rfl (pam_sh (pd_var (pv 0)) pam_nil))))) (pssd_one psd_never)
    pssd_nil))
theorem at_check_catalogue (T : Fx K mg cls tk C_Shelf) : FnAt P w K mg base ⟨K, cls, none⟩ "check_catalogue" 3 [false] false [] F_check_catalogue := by
  obtain ⟨a, fd, hm, D, G⟩ := ok_check_catalogue T
  exact ⟨a, fd, ["value"], [], [], hm, D.kp, G, D.bindsN fun _ _ _ _ _ _ us hl => match us, hl with | [_], _ => rfl, .nil, fun _ _ => Reps.nil⟩
def N_Shelf_init : List Str := ["self", "catalogue", "row", "at", "book"]
theorem sc_Shelf_init : FnScope N_Shelf_init ["self", "catalogue", "row"] (defScope (inClass (top 12) 0)) := ⟨rfl, rfl, rfl, by decide +kernel, rfl, by decide +kernel, by decide +kernel⟩
def W_Shelf_init : TDS := (tSeqD (tDropD (tFn F_check_catalogue [] (tConsA (tVarD 1) tNilA))) (tSeqD (tIfD (tOrD (tNotD (tTst (tFn F_are_books [] (tConsA (tVarD 2) tNilA)))) (tTst (t2 neD (tCall sortGD (tConsA (tVarK 2) tNilA)) (tCall sortGD (tConsA (tVarK 1) tNilA))))) tNeverD tNextD) (tSeqD (tSetFld 0 "Shelf" "books" (tCall listE (tConsA (tVarK 1) tNilA))) (tSeqD (tSetFld 0 "Shelf" "order" (tCall listE (tConsA (tVarK 2) tNilA))) (tSeqD (tSetFld 0 "Shelf" "entries" (tDcD (tEnum (tVarK 1)) (.tp [3, 4]) tYesD (tVarD 4) (tVarD 3) [3, 4])) (tSetFld 0 "Shelf" "ranks" (tLcD (tItL (tVarK 2)) (.nm 4) tYesD (t2 ixE (tFldD "Shelf" "entries" (tVarK 0)) (tVarK 4)) [4])))))))
noncomputable def F_Shelf_init : FnD := sealD (initD 5 "Shelf" [false, false] W_Shelf_init)
theorem F_Shelf_init_eq : F_Shelf_init = initD 5 "Shelf" [false, false] W_Shelf_init := sealD_eq _
theorem ok_Shelf_init (T : Fx K mg cls tk C_Shelf) : ∃ (a : Addr) (fd : FuncData), Mk K C_Shelf a ∧ FunD K "__init__" "Shelf.__init__" (defArgs (inClass (top 12) 0)) (defBody (inClass (top 12) 0)) (defScope (inClass (top 12) 0)) [] [] a fd ∧ FnOk P w K mg base CX0 4 a fd ["self", "catalogue", "row"] (spI ⟨K, cls, none⟩ "Shelf" [false, false] F_Shelf_init) := by
  rw [F_Shelf_init_eq]
  obtain ⟨a, fd, M, D⟩ := T.d_Shelf_init
  refine ⟨a, fd, M, D, init_ok rfl D sc_Shelf_init rfl (by decide) (fun z cdv A outer s H E hr => ?_)⟩
  have S := sc_Shelf_init
  exact (pssd_cons (psd_expr (pd_call (ms1 := [false]) (dd := []) ((at_check_catalogue T).at rfl) (hr.mono (by decide)) rfl (pam_sh (pd_var (pv 1)) pam_nil)))
    (pssd_cons (psd_if (PWD.pt (pwd_or (ptd_not (ptd_val (PD.pk (pd_call (ms1 := [false]) (dd := []) ((at_are_books T).at rfl) (hr.mono (by decide)) rfl (pam_sh (pd_var (pv 2)) pam_nil))))) (pwd_or1 (ptd_cmp (op_neD hr.units) k_neD (PD.pk (PFD.pd (pf_callB (cr_sortG hr.units) k_sortG rfl T.f_sorted (by kernel_rfl) (pak_cons (pk_var (pv 2)) pak_nil)))) (PD.pk (PFD.pd (pf_callB (cr_sortG hr.units) k_sortG rfl T.f_sorted (by kernel_rfl) (pak_cons (pk_var (pv 1)) pak_nil)))) (nomark _))))) (pssd_one psd_never)
    pssd_nil)
    (pssd_cons (psd_setFld rfl T.c_Shelf T.cl_Shelf T.na_Shelf_books (pv 0) (PFD.pd (pf_callT (call_listE rfl) k_listE rfl T.f_list (by kernel_rfl) (pak_cons (pk_var (pv 1)) pak_nil))))
    (pssd_cons (psd_setFld rfl T.c_Shelf T.cl_Shelf T.na_Shelf_order (pv 0) (PFD.pd (pf_callT (call_listE rfl) k_listE rfl T.f_list (by kernel_rfl) (pak_cons (pk_var (pv 2)) pak_nil))))
    (pssd_cons (psd_setFld rfl T.c_Shelf T.cl_Shelf T.na_Shelf_entries (pv 0) (PFD.pd (pf_dc (own := [("at", 3), ("book", 4)]) (g := (.tp [3, 4])) rfl rfl S.nd (pi_enumD rfl rfl T.f_enumerate (pk_var (pv 1))) (blkOk_by (N := N_Shelf_init) (own := [("at", 3), ("book", 4)]) (sc := defScope (inClass (top 12) 0)) (by decide +kernel)) (fun _ _ _ _ _ => (pg_tup rfl (pgs_cons (pg_name (i := 3) S.nd rfl (Or.inl rfl)) (pgs_cons (pg_name (i := 4) S.nd rfl (Or.inl rfl)) pgs_nil)))) (by decide) (fun _ _ _ _ _ => ptsd_nil) (fun _ _ _ _ _ => (pd_var (pv 4))) (fun _ _ _ _ _ => (pd_var (pv 3))))))
    (pssd_one (psd_setFld rfl T.c_Shelf T.cl_Shelf T.na_Shelf_ranks (pv 0) (PFD.pd (pf_lc (own := [("book", 4)]) (g := (.nm 4)) rfl rfl S.nd (pi_lstD rfl (pk_var (pv 2))) (blkOk_by (N := N_Shelf_init) (own := [("book", 4)]) (sc := defScope (inClass (top 12) 0)) (by decide +kernel)) (fun _ _ _ _ _ => (pg_name (i := 4) S.nd rfl (Or.inl rfl))) (by decide) (fun _ _ _ _ _ => ptsd_nil) (fun _ _ _ _ _ => (pd_ix (ix_or ix_seq (ix_dict (u1 hr))) k_ixE (PD.pk (pd_fld rfl T.c_Shelf T.cl_Shelf T.na_Shelf_entries (pk_var (pv 0)) (by rfl))) (pk_var (pv 4)) (fun _ _ => rfl))))))))))))
theorem at_Shelf_init (T : Fx K mg cls tk C_Shelf) : MkAt P w K mg base ⟨K, cls, none⟩ "Shelf" "Shelf" 4 [false, false] [] (fun vs _ => vs) F_Shelf_init := by
  obtain ⟨a, fd, M, D, G⟩ := ok_Shelf_init T
  exact ⟨_, a, fd, ["self", "catalogue", "row"], fun us _ => us, T.m_Shelf, T.c_Shelf, M, G, fun _ => D.bindsN fun _ _ _ _ _ _ us hl => match us, hl with | [_, _, _], _ => rfl, fun z => absurd rfl z⟩
def N_Shelf_catalogue : List Str := ["self"]
theorem sc_Shelf_catalogue : FnScope N_Shelf_catalogue ["self"] (defScope (inClass (top 12) 1)) := ⟨rfl, rfl, rfl, by decide +kernel, rfl, by decide +kernel, by decide +kernel⟩
def W_Shelf_catalogue : TDS := (tRetD (tCall listE (tConsA (tFldD "Shelf" "books" (tVarK 0)) tNilA)))
noncomputable def F_Shelf_catalogue : FnD := sealD (runD 1 [false] false W_Shelf_catalogue)
theorem F_Shelf_catalogue_eq : F_Shelf_catalogue = runD 1 [false] false W_Shelf_catalogue := sealD_eq _
theorem ok_Shelf_catalogue (T : Fx K mg cls tk C_Shelf) : ∃ (a : Addr) (fd : FuncData), Meth K C_Shelf "catalogue" a ∧ FunD K "catalogue" "Shelf.catalogue" (defArgs (inClass (top 12) 1)) (defBody (inClass (top 12) 1)) (defScope (inClass (top 12) 1)) [] [] a fd ∧ FnOk P w K mg base CX0 1 a fd ["self"] (spD ⟨K, cls, none⟩ [false] false F_Shelf_catalogue) := by
  rw [F_Shelf_catalogue_eq]
  obtain ⟨a, fd, M, D⟩ := T.d_Shelf_catalogue
  refine ⟨a, fd, M, D, fn_ok D sc_Shelf_catalogue rfl (by decide) (fun cdv A outer s H E hr => ?_)⟩
  have S := sc_Shelf_catalogue
  exact (pssd_one (psd_ret (PFD.pd (pf_callT (call_listE rfl) k_listE rfl T.f_list (by kernel_rfl) (pak_cons (PD.pk (pd_fld rfl T.c_Shelf T.cl_Shelf T.na_Shelf_books (pk_var (pv 0)) (by rfl))) pak_nil)))))
theorem at_Shelf_catalogue (T : Fx K mg cls tk C_Shelf) : MtAt P w K mg base ⟨K, cls, none⟩ "Shelf" "catalogue" 1 [false] false F_Shelf_catalogue := by
  obtain ⟨a, fd, M, D, G⟩ := ok_Shelf_catalogue T
  exact ⟨_, a, fd, ["self"], T.c_Shelf, T.cl_Shelf, M, G, D.bindsN fun _ _ _ _ _ _ us hl => match us, hl with | [_], _ => rfl⟩
def N_Shelf_row : List Str := ["self"]
theorem sc_Shelf_row : FnScope N_Shelf_row ["self"] (defScope (inClass (top 12) 2)) := ⟨rfl, rfl, rfl, by decide +kernel, rfl, by decide +kernel, by decide +kernel⟩
def W_Shelf_row : TDS := (tRetD (tCall listE (tConsA (tFldD "Shelf" "order" (tVarK 0)) tNilA)))
noncomputable def F_Shelf_row : FnD := sealD (runD 1 [false] false W_Shelf_row)
theorem F_Shelf_row_eq : F_Shelf_row = runD 1 [false] false W_Shelf_row := sealD_eq _
theorem ok_Shelf_row (T : Fx K mg cls tk C_Shelf) : ∃ (a : Addr) (fd : FuncData), Meth K C_Shelf "row" a ∧ FunD K "row" "Shelf.row" (defArgs (inClass (top 12) 2)) (defBody (inClass (top 12) 2)) (defScope (inClass (top 12) 2)) [] [] a fd ∧ FnOk P w K mg base CX0 1 a fd ["self"] (spD ⟨K, cls, none⟩ [false] false F_Shelf_row) := by
  rw [F_Shelf_row_eq]
  obtain ⟨a, fd, M, D⟩ := T.d_Shelf_row
  refine ⟨a, fd, M, D, fn_ok D sc_Shelf_row rfl (by decide) (fun cdv A outer s H E hr => ?_)⟩
  have S := sc_Shelf_row
  exact (pssd_one (psd_ret (PFD.pd (pf_callT (call_listE rfl) k_listE rfl T.f_list (by kernel_rfl) (pak_cons (PD.pk (pd_fld rfl T.c_Shelf T.cl_Shelf T.na_Shelf_order (pk_var (pv 0)) (by rfl))) pak_nil)))))
theorem at_Shelf_row (T : Fx K mg cls tk C_Shelf) : MtAt P w K mg base ⟨K, cls, none⟩ "Shelf" "row" 1 [false] false F_Shelf_row := by
  obtain ⟨a, fd, M, D, G⟩ := ok_Shelf_row T
  exact ⟨_, a, fd, ["self"], T.c_Shelf, T.cl_Shelf, M, G, D.bindsN fun _ _ _ _ _ _ us hl => match us, hl with | [_], _ => rfl⟩
def N_Shelf_eq : List Str := ["self", "other"]
theorem sc_Shelf_eq : FnScope N_Shelf_eq ["self", "other"] (defScope (inClass (top 12) 3)) := ⟨rfl, rfl, rfl, by decide +kernel, rfl, by decide +kernel, by decide +kernel⟩
def W_Shelf_eq : TDS := (tRetD (tAndVD (tCall isinD (tConsA (tVarK 1) (tConsA (tCD (.cl "Shelf")) tNilA))) (tAndVD (t2 eqD (tFldD "Shelf" "books" (tVarK 0)) (tFldD "Shelf" "books" (tVarK 1))) (t2 eqD (tFldD "Shelf" "order" (tVarK 0)) (tFldD "Shelf" "order" (tVarK 1))))))
noncomputable def F_Shelf_eq : FnD := sealD (runD 2 [false, true] false W_Shelf_eq)
theorem F_Shelf_eq_eq : F_Shelf_eq = runD 2 [false, true] false W_Shelf_eq := sealD_eq _
theorem ok_Shelf_eq (T : Fx K mg cls tk C_Shelf) : ∃ (a : Addr) (fd : FuncData), Meth K C_Shelf "__eq__" a ∧ FunD K "__eq__" "Shelf.__eq__" (defArgs (inClass (top 12) 3)) (defBody (inClass (top 12) 3)) (defScope (inClass (top 12) 3)) [] [] a fd ∧ FnOk P w K mg base CX0 1 a fd ["self", "other"] (spD ⟨K, cls, none⟩ [false, true] false F_Shelf_eq) := by
  rw [F_Shelf_eq_eq]
  obtain ⟨a, fd, M, D⟩ := T.d_Shelf_eq
  refine ⟨a, fd, M, D, fn_ok D sc_Shelf_eq rfl (by decide) (fun cdv A outer s H E hr => ?_)⟩
  have S := sc_Shelf_eq
  exact (pssd_one (psd_ret (pd_and (pd_callB op_isin (k_isin T.wok) rfl T.f_isinstance (by kernel_rfl) (pak_cons (pk_var (pv 1)) (pak_cons (PD.pk (pd_cl rfl T.m_Shelf T.c_Shelf)) pak_nil))) (pd_and (pd_cmp (op_eqD hr.units) k_eqD (PD.pk (pd_fld rfl T.c_Shelf T.cl_Shelf T.na_Shelf_books (pk_var (pv 0)) (by rfl))) (PD.pk (pd_fld rfl T.c_Shelf T.cl_Shelf T.na_Shelf_books (pk_var (pv 1)) (by rfl))) (nomark _)) (pd_one (pd_cmp (op_eqD hr.units) k_eqD (PD.pk (pd_fld rfl T.c_Shelf T.cl_Shelf T.na_Shelf_order (pk_var (pv 0)) (by rfl))) (PD.pk (pd_fld rfl T.c_Shelf T.cl_Shelf T.na_Shelf_order (pk_var (pv 1)) (by rfl))) (nomark _)))))))
theorem at_Shelf_eq (T : Fx K mg cls tk C_Shelf) : MtAt P w K mg base ⟨K, cls, none⟩ "Shelf" "__eq__" 1 [false, true] false F_Shelf_eq := by
  obtain ⟨a, fd, M, D, G⟩ := ok_Shelf_eq T
  exact ⟨_, a, fd, ["self", "other"], T.c_Shelf, T.cl_Shelf, M, G, D.bindsN fun _ _ _ _ _ _ us hl => match us, hl with | [_, _], _ => rfl⟩
theorem eqc_Shelf (T : Fx K mg cls tk C_Shelf) (C : Addr) (h : (⟨K, cls, none⟩ : Wd).cls "Shelf" = some C) : EqC K C := by
  have z := T.c_Shelf.symm.trans h
  cases z
  exact T.q_Shelf
def N_check_shelf : List Str := ["value"]
theorem sc_check_shelf : FnScope N_check_shelf ["value"] (defScope (top 13)) := ⟨rfl, rfl, rfl, by decide +kernel, rfl, by decide +kernel, by decide +kernel⟩
def W_check_shelf : TDS := (tIfD (tNotD (tTst (tCall isinD (tConsA (tVarK 0) (tConsA (tCD (.cl "Shelf")) tNilA))))) tNeverD tNextD)
noncomputable def F_check_shelf : FnD := sealD (runD 1 [false] false W_check_shelf)
theorem F_check_shelf_eq : F_check_shelf = runD 1 [false] false W_check_shelf := sealD_eq _
theorem ok_check_shelf (T : Fx K mg cls tk C_Shelf) : ∃ (a : Addr) (fd : FuncData), mg "check_shelf" = some (.ref a) ∧ FunD K "check_shelf" "check_shelf" (defArgs (top 13)) (defBody (top 13)) (defScope (top 13)) [] [] a fd ∧ FnOk P w K mg base CX0 1 a fd ["value"] (spD ⟨K, cls, none⟩ [false] false F_check_shelf) := by
  rw [F_check_shelf_eq]
  obtain ⟨a, fd, hm, D⟩ := T.d_check_shelf
  refine ⟨a, fd, hm, D, fn_ok D sc_check_shelf rfl (by decide) (fun cdv A outer s H E hr => ?_)⟩
  have S := sc_check_shelf
  exact (pssd_one (psd_if (ptd_not (ptd_val (PD.pk (pd_callB op_isin (k_isin T.wok) rfl T.f_isinstance (by kernel_rfl) (pak_cons (pk_var (pv 0)) (pak_cons (PD.pk (pd_cl rfl T.m_Shelf T.c_Shelf)) pak_nil)))))) (pssd_one psd_never)
    pssd_nil))
theorem at_check_shelf (T : Fx K mg cls tk C_Shelf) : FnAt P w K mg base ⟨K, cls, none⟩ "check_shelf" 1 [false] false [] F_check_shelf := by
  obtain ⟨a, fd, hm, D, G⟩ := ok_check_shelf T
  exact ⟨a, fd, ["value"], [], [], hm, D.kp, G, D.bindsN fun _ _ _ _ _ _ us hl => match us, hl with | [_], _ => rfl, .nil, fun _ _ => Reps.nil⟩
def N_run_from : List Str := ["shelf", "place", "size", "some", "least"]
theorem sc_run_from : FnScope N_run_from ["shelf", "place", "size"] (defScope (top 15)) := ⟨rfl, rfl, rfl, by decide +kernel, rfl, by decide +kernel, by decide +kernel⟩
def W_run_from : TDS := (tSeqD (tSetD 3 (tSlD slD (tFldD "Shelf" "ranks" (tVarK 0)) (tPartD (tVarK 1)) (tPartD (t2 addD (tVarK 1) (tVarK 2))))) (tSeqD (tSetD 4 (tCall minD (tConsA (tVarK 3) tNilA))) (tRetD (tIfE (tTst (t2 eqD (t2 subD (tCall maxD (tConsA (tVarK 3) tNilA)) (tVarK 4)) (t2 subD (tVarK 2) (tCD (.int 1))))) (tCall tupleD (tConsA (tSlD slD (tFldD "Shelf" "books" (tVarK 0)) (tPartD (tVarK 4)) (tPartD (t2 addD (tVarK 4) (tVarK 2)))) tNilA)) (tCD .non)))))
noncomputable def F_run_from : FnD := sealD (runD 5 [false, false, false] false W_run_from)
theorem F_run_from_eq : F_run_from = runD 5 [false, false, false] false W_run_from := sealD_eq _
theorem ok_run_from (T : Fx K mg cls tk C_Shelf) : ∃ (a : Addr) (fd : FuncData), mg "run_from" = some (.ref a) ∧ FunD K "run_from" "run_from" (defArgs (top 15)) (defBody (top 15)) (defScope (top 15)) [] [] a fd ∧ FnOk P w K mg base CX0 1 a fd ["shelf", "place", "size"] (spD ⟨K, cls, none⟩ [false, false, false] false F_run_from) := by
  rw [F_run_from_eq]
  obtain ⟨a, fd, hm, D⟩ := T.d_run_from
  refine ⟨a, fd, hm, D, fn_ok D sc_run_from rfl (by decide) (fun cdv A outer s H E hr => ?_)⟩
  have S := sc_run_from
  exact (pssd_cons (psd_set (i := 3) S.nd rfl (Or.inl rfl) (pd_slice op_slD k_slD (PD.pk (pd_fld rfl T.c_Shelf T.cl_Shelf T.na_Shelf_ranks (pk_var (pv 0)) (by rfl))) (pod_some (pk_var (pv 1))) (pod_some (PD.pk (pd_op op_addD k_addD (pk_var (pv 1)) (pk_var (pv 2)))))))
    (pssd_cons (psd_set (i := 4) S.nd rfl (Or.inl rfl) (pd_callB (op_minD rfl) k_min rfl T.f_min (by kernel_rfl) (pak_cons (pk_var (pv 3)) pak_nil)))
    (pssd_one (psd_ret (pd_ifE (ptd_cmp (op_eqD hr.units) k_eqD (PD.pk (pd_op op_sub k_intA (PD.pk (pd_callB (op_maxD rfl) k_max rfl T.f_max (by kernel_rfl) (pak_cons (pk_var (pv 3)) pak_nil))) (pk_var (pv 4)))) (PD.pk (pd_op op_sub k_intA (pk_var (pv 2)) (PD.pk pd_int))) (nomark _)) (pd_callT call_tuple_of k_tuple rfl T.f_tuple (by kernel_rfl) (pak_cons (PD.pk (pd_slice op_slD k_slD (PD.pk (pd_fld rfl T.c_Shelf T.cl_Shelf T.na_Shelf_books (pk_var (pv 0)) (by rfl))) (pod_some (pk_var (pv 4))) (pod_some (PD.pk (pd_op op_addD k_addD (pk_var (pv 4)) (pk_var (pv 2))))))) pak_nil)) pd_non)))))
theorem at_run_from (T : Fx K mg cls tk C_Shelf) : FnAt P w K mg base ⟨K, cls, none⟩ "run_from" 1 [false, false, false] false [] F_run_from := by
  obtain ⟨a, fd, hm, D, G⟩ := ok_run_from T
  exact ⟨a, fd, ["shelf", "place", "size"], [], [], hm, D.kp, G, D.bindsN fun _ _ _ _ _ _ us hl => match us, hl with | [_, _, _], _ => rfl, .nil, fun _ _ => Reps.nil⟩
def N_runs_of : List Str := ["shelf", "many", "found", "place", "size", "run"]
theorem sc_runs_of : FnScope N_runs_of ["shelf"] (defScope (top 16)) := ⟨rfl, rfl, rfl, by decide +kernel, rfl, by decide +kernel, by decide +kernel⟩
def W_runs_of : TDS := (tSeqD (tSetD 1 (tCall lenD (tConsA (tFldD "Shelf" "books" (tVarK 0)) tNilA))) (tSeqD (tSetD 2 (tLc2D (tRng1 (tVarK 1)) 3 tYesD (tRng2 (tCD (.int 2)) (t2 addD (t2 subD (tVarK 1) (tVarK 3)) (tCD (.int 1)))) (.nm 4) tYesD (tFn F_run_from [] (tConsA (tVarD 0) (tConsA (tVarD 3) (tConsA (tVarD 4) tNilA)))) [3, 4] [4])) (tRetD (tCall sortGD (tConsA (tLcD (tItL (tVarK 2)) (.nm 5) (tTst (t2 notND (tVarK 5) (tCD .non))) (tVarD 5) [5]) tNilA)))))
noncomputable def F_runs_of : FnD := sealD (runD 6 [false] false W_runs_of)
theorem F_runs_of_eq : F_runs_of = runD 6 [false] false W_runs_of := sealD_eq _
theorem ok_runs_of (T : Fx K mg cls tk C_Shelf) : ∃ (a : Addr) (fd : FuncData), mg "runs_of" = some (.ref a) ∧ FunD K "runs_of" "runs_of" (defArgs (top 16)) (defBody (top 16)) (defScope (top 16)) [] [] a fd ∧ FnOk P w K mg base CX0 2 a fd ["shelf"] (spD ⟨K, cls, none⟩ [false] false F_runs_of) := by
  rw [F_runs_of_eq]
  obtain ⟨a, fd, hm, D⟩ := T.d_runs_of
  refine ⟨a, fd, hm, D, fn_ok D sc_runs_of rfl (by decide) (fun cdv A outer s H E hr => ?_)⟩
  have S := sc_runs_of
  exact (pssd_cons (psd_set (i := 1) S.nd rfl (Or.inr rfl) (pd_callB call_len k_len rfl T.f_len (by kernel_rfl) (pak_cons (PD.pk (pd_fld rfl T.c_Shelf T.cl_Shelf T.na_Shelf_books (pk_var (pv 0)) (by rfl))) pak_nil)))
    (pssd_cons (psd_setLc2 (i := 2) (own := [("place", 3), ("size", 4)]) (i0 := 3) (g1 := (.nm 4)) (vs1 := [4]) rfl rfl S.nd rfl rfl (sw_true rfl rfl rfl (by decide +kernel)) (pi_rng1 rfl T.f_range (pk_var (pv 1))) (blkOk_by (N := N_runs_of) (own := [("place", 3), ("size", 4)]) (sc := defScope (top 16)) (by decide +kernel)) (by decide) (by decide) (by decide) (fun _ _ _ _ _ => (pg_name (i := 3) S.nd rfl (Or.inl rfl))) (fun _ _ _ _ _ => ptsd_nil) (fun _ _ _ _ _ => (pi2_rng2 rfl T.f_range (PD.pk pd_int) (PD.pk (pd_op op_addD k_addD (PD.pk (pd_op op_sub k_intA (pk_var (pv 1)) (pk_var (pv 3)))) (PD.pk pd_int))))) (fun _ _ _ _ _ => (pg_name (i := 4) S.nd rfl (Or.inl rfl))) (fun _ _ _ _ _ => ptsd_nil) (fun _ _ _ _ _ => (pd_call (ms1 := [false, false, false]) (dd := []) ((at_run_from T)) (hr.mono (by decide)) rfl (pam_sh (pd_var (pv 0)) (pam_sh (pd_var (pv 3)) (pam_sh (pd_var (pv 4)) pam_nil))))))
    (pssd_one (psd_ret (PFD.pd (pf_callB (cr_sortG hr.units) k_sortG rfl T.f_sorted (by kernel_rfl) (pak_cons (PD.pk (PFD.pd (pf_lc (own := [("run", 5)]) (g := (.nm 5)) rfl rfl S.nd (pi_lstD rfl (pk_var (pv 2))) (blkOk_by (N := N_runs_of) (own := [("run", 5)]) (sc := defScope (top 16)) (by decide +kernel)) (fun _ _ _ _ _ => (pg_name (i := 5) S.nd rfl (Or.inl rfl))) (by decide) (fun _ _ _ _ _ => (ptsd_one (ptd_cmp op_notN k_notND (pk_var (pv 5)) (PD.pk pd_non) (nomark _)))) (fun _ _ _ _ _ => (pd_var (pv 5)))))) pak_nil)))))))
theorem at_runs_of (T : Fx K mg cls tk C_Shelf) : FnAt P w K mg base ⟨K, cls, none⟩ "runs_of" 2 [false] false [] F_runs_of := by
  obtain ⟨a, fd, hm, D, G⟩ := ok_runs_of T
  exact ⟨a, fd, ["shelf"], [], [], hm, D.kp, G, D.bindsN fun _ _ _ _ _ _ us hl => match us, hl with | [_], _ => rfl, .nil, fun _ _ => Reps.nil⟩
def N_span : List Str := ["shelf", "run", "book"]
theorem sc_span : FnScope N_span ["shelf", "run"] (defScope (top 17)) := ⟨rfl, rfl, rfl, by decide +kernel, rfl, by decide +kernel, by decide +kernel⟩
def W_span : TDS := (tRetD (tTupD (tConsA (tCall minD (tConsA (tLcD (tItT (tVarK 1)) (.nm 2) tYesD (tMet indexD isLst (tFldD "Shelf" "order" (tVarK 0)) (tConsA (tVarK 2) tNilA)) [2]) tNilA)) (tConsA (tCall lenD (tConsA (tVarK 1) tNilA)) tNilA))))
noncomputable def F_span : FnD := sealD (runD 3 [false, false] false W_span)
theorem F_span_eq : F_span = runD 3 [false, false] false W_span := sealD_eq _
theorem ok_span (T : Fx K mg cls tk C_Shelf) : ∃ (a : Addr) (fd : FuncData), mg "span" = some (.ref a) ∧ FunD K "span" "span" (defArgs (top 17)) (defBody (top 17)) (defScope (top 17)) [] [] a fd ∧ FnOk P w K mg base CX0 1 a fd ["shelf", "run"] (spD ⟨K, cls, none⟩ [false, false] false F_span) := by
  rw [F_span_eq]
  obtain ⟨a, fd, hm, D⟩ := T.d_span
  refine ⟨a, fd, hm, D, fn_ok D sc_span rfl (by decide) (fun cdv A outer s H E hr => ?_)⟩
  have S := sc_span
  exact (pssd_one (psd_ret (pd_tup (pad_cons (pd_callB (op_minD rfl) k_min rfl T.f_min (by kernel_rfl) (pak_cons (PD.pk (PFD.pd (pf_lc (own := [("book", 2)]) (g := (.nm 2)) rfl rfl S.nd (pi_tupD rfl (pk_var (pv 1))) (blkOk_by (N := N_span) (own := [("book", 2)]) (sc := defScope (top 17)) (by decide +kernel)) (fun _ _ _ _ _ => (pg_name (i := 2) S.nd rfl (Or.inl rfl))) (by decide) (fun _ _ _ _ _ => ptsd_nil) (fun _ _ _ _ _ => (pd_index rfl (PD.pk (pd_fld rfl T.c_Shelf T.cl_Shelf T.na_Shelf_order (pk_var (pv 0)) (by rfl))) (pak_cons (pk_var (pv 2)) pak_nil) (fun _ ho ha => pe_bm PySem.F.plainAttrs_list PySem.F.slot_list_index PySem.F.type_list_index mt_index ho ha)))))) pak_nil)) (pad_cons (pd_callB call_len k_len rfl T.f_len (by kernel_rfl) (pak_cons (pk_var (pv 1)) pak_nil)) pad_nil)))))
theorem at_span (T : Fx K mg cls tk C_Shelf) : FnAt P w K mg base ⟨K, cls, none⟩ "span" 1 [false, false] false [] F_span := by
  obtain ⟨a, fd, hm, D, G⟩ := ok_span T
  exact ⟨a, fd, ["shelf", "run"], [], [], hm, D.kp, G, D.bindsN fun _ _ _ _ _ _ us hl => match us, hl with | [_, _], _ => rfl, .nil, fun _ _ => Reps.nil⟩
def N_is_run_of : List Str := ["shelf", "value", "first", "book"]
theorem sc_is_run_of : FnScope N_is_run_of ["shelf", "value"] (defScope (top 18)) := ⟨rfl, rfl, rfl, by decide +kernel, rfl, by decide +kernel, by decide +kernel⟩
def W_is_run_of : TDS := (tSeqD (tIfD (tOrD (tNotD (tTst (tCall isinD (tConsA (tVarK 1) (tConsA (tCD (.ty "tuple")) tNilA))))) (tTst (t2 ltD (tCall lenD (tConsA (tVarK 1) tNilA)) (tCD (.int 2))))) (tRetD (tCD (.bl false))) tNextD) (tSeqD (tIfD (tNotD (tTst (tCall allD (tConsA (tLcD (tItT (tVarK 1)) (.nm 3) tYesD (tAndVD (tFn F_is_spelt [] (tConsA (tVarD 3) tNilA)) (t2 inE (tVarK 3) (tFldD "Shelf" "entries" (tVarK 0)))) [3]) tNilA)))) (tRetD (tCD (.bl false))) tNextD) (tSeqD (tSetD 2 (t2 ixE (tFldD "Shelf" "entries" (tVarK 0)) (t2 ixE (tVarK 1) (tCD (.int 0))))) (tSeqD (tIfD (tTst (t2 neD (tCall listE (tConsA (tVarK 1) tNilA)) (tSlD slD (tFldD "Shelf" "books" (tVarK 0)) (tPartD (tVarK 2)) (tPartD (t2 addD (tVarK 2) (tCall lenD (tConsA (tVarK 1) tNilA))))))) (tRetD (tCD (.bl false))) tNextD) (tRetD (t2 eqD (tFn F_run_from [] (tConsA (tVarD 0) (tConsA (t2 ixE (tFn F_span [] (tConsA (tVarD 0) (tConsA (tVarD 1) tNilA))) (tCD (.int 0))) (tConsA (tCall lenD (tConsA (tVarK 1) tNilA)) tNilA)))) (tVarK 1)))))))
noncomputable def F_is_run_of : FnD := sealD (runD 4 [false, false] false W_is_run_of)
theorem F_is_run_of_eq : F_is_run_of = runD 4 [false, false] false W_is_run_of := sealD_eq _
theorem ok_is_run_of (T : Fx K mg cls tk C_Shelf) : ∃ (a : Addr) (fd : FuncData), mg "is_run_of" = some (.ref a) ∧ FunD K "is_run_of" "is_run_of" (defArgs (top 18)) (defBody (top 18)) (defScope (top 18)) [] [] a fd ∧ FnOk P w K mg base CX0 2 a fd ["shelf", "value"] (spD ⟨K, cls, none⟩ [false, false] false F_is_run_of) := by
  rw [F_is_run_of_eq]
  obtain ⟨a, fd, hm, D⟩ := T.d_is_run_of
  refine ⟨a, fd, hm, D, fn_ok D sc_is_run_of rfl (by decide) (fun cdv A outer s H E hr => ?_)⟩
  have S := sc_is_run_of
  exact (pssd_cons (psd_if (PWD.pt (pwd_or (ptd_not (ptd_val (PD.pk (pd_callB op_isin (k_isin T.wok) rfl T.f_isinstance (by kernel_rfl) (pak_cons (pk_var (pv 1)) (pak_cons (PD.pk (pd_ty rfl T.f_tuple (by kernel_rfl))) pak_nil)))))) (pwd_or1 (ptd_cmp op_ltD k_ltD (PD.pk (pd_callB call_len k_len rfl T.f_len (by kernel_rfl) (pak_cons (pk_var (pv 1)) pak_nil))) (PD.pk pd_int) (nomark _))))) (pssd_one (psd_ret pd_bl))
    pssd_nil)
    (pssd_cons (psd_if (ptd_not (ptd_val (PD.pk (pd_callB (cr_all rfl) k_all rfl T.f_all (by kernel_rfl) (pak_cons (PD.pk (PFD.pd (pf_lc (own := [("book", 3)]) (g := (.nm 3)) rfl rfl S.nd (pi_tupD rfl (pk_var (pv 1))) (blkOk_by (N := N_is_run_of) (own := [("book", 3)]) (sc := defScope (top 18)) (by decide +kernel)) (fun _ _ _ _ _ => (pg_name (i := 3) S.nd rfl (Or.inl rfl))) (by decide) (fun _ _ _ _ _ => ptsd_nil) (fun _ _ _ _ _ => (pd_and (pd_call (ms1 := [false]) (dd := []) ((at_is_spelt T)) (hr.mono (by decide)) rfl (pam_sh (pd_var (pv 3)) pam_nil)) (pd_one (pd_cmp (op_inE (u65 hr)) k_inE (pk_var (pv 3)) (PD.pk (pd_fld rfl T.c_Shelf T.cl_Shelf T.na_Shelf_entries (pk_var (pv 0)) (by rfl))) (by rfl)))))))) pak_nil))))) (pssd_one (psd_ret pd_bl))
    pssd_nil)
    (pssd_cons (psd_set (i := 2) S.nd rfl (Or.inl rfl) (pd_ix (ix_or ix_seq (ix_dict (u1 hr))) k_ixE (PD.pk (pd_fld rfl T.c_Shelf T.cl_Shelf T.na_Shelf_entries (pk_var (pv 0)) (by rfl))) (PD.pk (pd_ix (ix_or ix_seq (ix_dict (u1 hr))) k_ixE (pk_var (pv 1)) (PD.pk pd_int) (fun _ _ => rfl))) (fun _ _ => rfl)))
    (pssd_cons (psd_if (ptd_cmp (op_neD hr.units) k_neD (PD.pk (PFD.pd (pf_callT (call_listE rfl) k_listE rfl T.f_list (by kernel_rfl) (pak_cons (pk_var (pv 1)) pak_nil)))) (PD.pk (pd_slice op_slD k_slD (PD.pk (pd_fld rfl T.c_Shelf T.cl_Shelf T.na_Shelf_books (pk_var (pv 0)) (by rfl))) (pod_some (pk_var (pv 2))) (pod_some (PD.pk (pd_op op_addD k_addD (pk_var (pv 2)) (PD.pk (pd_callB call_len k_len rfl T.f_len (by kernel_rfl) (pak_cons (pk_var (pv 1)) pak_nil)))))))) (nomark _)) (pssd_one (psd_ret pd_bl))
    pssd_nil)
    (pssd_one (psd_ret (pd_cmp (op_eqD hr.units) k_eqD (PD.pk (pd_call (ms1 := [false, false, false]) (dd := []) ((at_run_from T)) (hr.mono (by decide)) rfl (pam_sh (pd_var (pv 0)) (pam_sh (pd_ix (ix_or ix_seq (ix_dict (u1 hr))) k_ixE (PD.pk (pd_call (ms1 := [false, false]) (dd := []) ((at_span T)) (hr.mono (by decide)) rfl (pam_sh (pd_var (pv 0)) (pam_sh (pd_var (pv 1)) pam_nil)))) (PD.pk pd_int) (fun _ _ => rfl)) (pam_sh (pd_callB call_len k_len rfl T.f_len (by kernel_rfl) (pak_cons (pk_var (pv 1)) pak_nil)) pam_nil))))) (pk_var (pv 1)) (nomark _))))))))
theorem at_is_run_of (T : Fx K mg cls tk C_Shelf) : FnAt P w K mg base ⟨K, cls, none⟩ "is_run_of" 2 [false, false] false [] F_is_run_of := by
  obtain ⟨a, fd, hm, D, G⟩ := ok_is_run_of T
  exact ⟨a, fd, ["shelf", "value"], [], [], hm, D.kp, G, D.bindsN fun _ _ _ _ _ _ us hl => match us, hl with | [_, _], _ => rfl, .nil, fun _ _ => Reps.nil⟩
def N_check_run : List Str := ["shelf", "value"]
theorem sc_check_run : FnScope N_check_run ["shelf", "value"] (defScope (top 19)) := ⟨rfl, rfl, rfl, by decide +kernel, rfl, by decide +kernel, by decide +kernel⟩
def W_check_run : TDS := (tIfD (tNotD (tTst (tFn F_is_run_of [] (tConsA (tVarD 0) (tConsA (tVarD 1) tNilA))))) tNeverD tNextD)
noncomputable def F_check_run : FnD := sealD (runD 2 [false, false] false W_check_run)
theorem F_check_run_eq : F_check_run = runD 2 [false, false] false W_check_run := sealD_eq _
theorem ok_check_run (T : Fx K mg cls tk C_Shelf) : ∃ (a : Addr) (fd : FuncData), mg "check_run" = some (.ref a) ∧ FunD K "check_run" "check_run" (defArgs (top 19)) (defBody (top 19)) (defScope (top 19)) [] [] a fd ∧ FnOk P w K mg base CX0 3 a fd ["shelf", "value"] (spD ⟨K, cls, none⟩ [false, false] false F_check_run) := by
  rw [F_check_run_eq]
  obtain ⟨a, fd, hm, D⟩ := T.d_check_run
  refine ⟨a, fd, hm, D, fn_ok D sc_check_run rfl (by decide) (fun cdv A outer s H E hr => ?_)⟩
  have S := sc_check_run
  exact (pssd_one (psd_if (ptd_not (ptd_val (PD.pk (pd_call (ms1 := [false, false]) (dd := []) ((at_is_run_of T)) (hr.mono (by decide)) rfl (pam_sh (pd_var (pv 0)) (pam_sh (pd_var (pv 1)) pam_nil)))))) (pssd_one psd_never)
    pssd_nil))
theorem at_check_run (T : Fx K mg cls tk C_Shelf) : FnAt P w K mg base ⟨K, cls, none⟩ "check_run" 3 [false, false] false [] F_check_run := by
  obtain ⟨a, fd, hm, D, G⟩ := ok_check_run T
  exact ⟨a, fd, ["shelf", "value"], [], [], hm, D.kp, G, D.bindsN fun _ _ _ _ _ _ us hl => match us, hl with | [_, _], _ => rfl, .nil, fun _ _ => Reps.nil⟩
def N_is_run : List Str := ["shelf", "value"]
theorem sc_is_run : FnScope N_is_run ["shelf", "value"] (defScope (top 20)) := ⟨rfl, rfl, rfl, by decide +kernel, rfl, by decide +kernel, by decide +kernel⟩
def W_is_run : TDS := (tSeqD (tDropD (tFn F_check_shelf [] (tConsA (tVarD 0) tNilA))) (tRetD (tFn F_is_run_of [] (tConsA (tVarD 0) (tConsA (tVarD 1) tNilA)))))
noncomputable def F_is_run : FnD := sealD (runD 2 [false, false] false W_is_run)
theorem F_is_run_eq : F_is_run = runD 2 [false, false] false W_is_run := sealD_eq _
theorem ok_is_run (T : Fx K mg cls tk C_Shelf) : ∃ (a : Addr) (fd : FuncData), mg "is_run" = some (.ref a) ∧ FunD K "is_run" "is_run" (defArgs (top 20)) (defBody (top 20)) (defScope (top 20)) [] [] a fd ∧ FnOk P w K mg base CX0 3 a fd ["shelf", "value"] (spD ⟨K, cls, none⟩ [false, false] false F_is_run) := by
  rw [F_is_run_eq]
  obtain ⟨a, fd, hm, D⟩ := T.d_is_run
  refine ⟨a, fd, hm, D, fn_ok D sc_is_run rfl (by decide) (fun cdv A outer s H E hr => ?_)⟩
  have S := sc_is_run
  exact (pssd_cons (psd_expr (pd_call (ms1 := [false]) (dd := []) ((at_check_shelf T)) (hr.mono (by decide)) rfl (pam_sh (pd_var (pv 0)) pam_nil)))
    (pssd_one (psd_ret (pd_call (ms1 := [false, false]) (dd := []) ((at_is_run_of T)) (hr.mono (by decide)) rfl (pam_sh (pd_var (pv 0)) (pam_sh (pd_var (pv 1)) pam_nil))))))
theorem at_is_run (T : Fx K mg cls tk C_Shelf) : FnAt P w K mg base ⟨K, cls, none⟩ "is_run" 3 [false, false] false [] F_is_run := by
  obtain ⟨a, fd, hm, D, G⟩ := ok_is_run T
  exact ⟨a, fd, ["shelf", "value"], [], [], hm, D.kp, G, D.bindsN fun _ _ _ _ _ _ us hl => match us, hl with | [_, _], _ => rfl, .nil, fun _ _ => Reps.nil⟩
def N_common : List Str := ["one", "other", "book"]
theorem sc_common : FnScope N_common ["one", "other"] (defScope (top 21)) := ⟨rfl, rfl, rfl, by decide +kernel, rfl, by decide +kernel, by decide +kernel⟩
def W_common : TDS := (tRetD (tCall tupleD (tConsA (tLcD (tItT (tVarK 0)) (.nm 2) (tTst (t2 inE (tVarK 2) (tVarK 1))) (tVarD 2) [2]) tNilA)))
noncomputable def F_common : FnD := sealD (runD 3 [false, false] false W_common)
theorem F_common_eq : F_common = runD 3 [false, false] false W_common := sealD_eq _
theorem ok_common (T : Fx K mg cls tk C_Shelf) : ∃ (a : Addr) (fd : FuncData), mg "common" = some (.ref a) ∧ FunD K "common" "common" (defArgs (top 21)) (defBody (top 21)) (defScope (top 21)) [] [] a fd ∧ FnOk P w K mg base CX0 1 a fd ["one", "other"] (spD ⟨K, cls, none⟩ [false, false] false F_common) := by
  rw [F_common_eq]
  obtain ⟨a, fd, hm, D⟩ := T.d_common
  refine ⟨a, fd, hm, D, fn_ok D sc_common rfl (by decide) (fun cdv A outer s H E hr => ?_)⟩
  have S := sc_common
  exact (pssd_one (psd_ret (pd_callT call_tuple_of k_tuple rfl T.f_tuple (by kernel_rfl) (pak_cons (PD.pk (PFD.pd (pf_lc (own := [("book", 2)]) (g := (.nm 2)) rfl rfl S.nd (pi_tupD rfl (pk_var (pv 0))) (blkOk_by (N := N_common) (own := [("book", 2)]) (sc := defScope (top 21)) (by decide +kernel)) (fun _ _ _ _ _ => (pg_name (i := 2) S.nd rfl (Or.inl rfl))) (by decide) (fun _ _ _ _ _ => (ptsd_one (ptd_cmp (op_inE (u65 hr)) k_inE (pk_var (pv 2)) (pk_var (pv 1)) (by rfl)))) (fun _ _ _ _ _ => (pd_var (pv 2)))))) pak_nil))))
theorem at_common (T : Fx K mg cls tk C_Shelf) : FnAt P w K mg base ⟨K, cls, none⟩ "common" 1 [false, false] false [] F_common := by
  obtain ⟨a, fd, hm, D, G⟩ := ok_common T
  exact ⟨a, fd, ["one", "other"], [], [], hm, D.kp, G, D.bindsN fun _ _ _ _ _ _ us hl => match us, hl with | [_, _], _ => rfl, .nil, fun _ _ => Reps.nil⟩
def N_overlaps : List Str := ["one", "other"]
theorem sc_overlaps : FnScope N_overlaps ["one", "other"] (defScope (top 22)) := ⟨rfl, rfl, rfl, by decide +kernel, rfl, by decide +kernel, by decide +kernel⟩
def W_overlaps : TDS := (tRetD (tChnD ltD ltD (tCD (.int 0)) (tCall lenD (tConsA (tFn F_common [] (tConsA (tVarD 0) (tConsA (tVarD 1) tNilA))) tNilA)) (tCall minD (tConsA (tCall lenD (tConsA (tVarK 0) tNilA)) (tConsA (tCall lenD (tConsA (tVarK 1) tNilA)) tNilA)))))
noncomputable def F_overlaps : FnD := sealD (runD 2 [false, false] false W_overlaps)
theorem F_overlaps_eq : F_overlaps = runD 2 [false, false] false W_overlaps := sealD_eq _
theorem ok_overlaps (T : Fx K mg cls tk C_Shelf) : ∃ (a : Addr) (fd : FuncData), mg "overlaps" = some (.ref a) ∧ FunD K "overlaps" "overlaps" (defArgs (top 22)) (defBody (top 22)) (defScope (top 22)) [] [] a fd ∧ FnOk P w K mg base CX0 2 a fd ["one", "other"] (spD ⟨K, cls, none⟩ [false, false] false F_overlaps) := by
  rw [F_overlaps_eq]
  obtain ⟨a, fd, hm, D⟩ := T.d_overlaps
  refine ⟨a, fd, hm, D, fn_ok D sc_overlaps rfl (by decide) (fun cdv A outer s H E hr => ?_)⟩
  have S := sc_overlaps
  exact (pssd_one (psd_ret (pd_chain op_ltD op_ltD k_ltD k_ltD (PD.pk pd_int) (PD.pk (pd_callB call_len k_len rfl T.f_len (by kernel_rfl) (pak_cons (PD.pk (pd_call (ms1 := [false, false]) (dd := []) ((at_common T)) (hr.mono (by decide)) rfl (pam_sh (pd_var (pv 0)) (pam_sh (pd_var (pv 1)) pam_nil)))) pak_nil))) (PD.pk (pd_callB (op_minD rfl) k_min rfl T.f_min (by kernel_rfl) (pak_cons (PD.pk (pd_callB call_len k_len rfl T.f_len (by kernel_rfl) (pak_cons (pk_var (pv 0)) pak_nil))) (pak_cons (PD.pk (pd_callB call_len k_len rfl T.f_len (by kernel_rfl) (pak_cons (pk_var (pv 1)) pak_nil))) pak_nil)))))))
theorem at_overlaps (T : Fx K mg cls tk C_Shelf) : FnAt P w K mg base ⟨K, cls, none⟩ "overlaps" 2 [false, false] false [] F_overlaps := by
  obtain ⟨a, fd, hm, D, G⟩ := ok_overlaps T
  exact ⟨a, fd, ["one", "other"], [], [], hm, D.kp, G, D.bindsN fun _ _ _ _ _ _ us hl => match us, hl with | [_, _], _ => rfl, .nil, fun _ _ => Reps.nil⟩
def N_check_both : List Str := ["shelf", "one", "other"]
theorem sc_check_both : FnScope N_check_both ["shelf", "one", "other"] (defScope (top 23)) := ⟨rfl, rfl, rfl, by decide +kernel, rfl, by decide +kernel, by decide +kernel⟩
def W_check_both : TDS := (tSeqD (tDropD (tFn F_check_shelf [] (tConsA (tVarD 0) tNilA))) (tSeqD (tDropD (tFn F_check_run [] (tConsA (tVarD 0) (tConsA (tVarD 1) tNilA)))) (tDropD (tFn F_check_run [] (tConsA (tVarD 0) (tConsA (tVarD 2) tNilA))))))
noncomputable def F_check_both : FnD := sealD (runD 3 [false, false, false] false W_check_both)
theorem F_check_both_eq : F_check_both = runD 3 [false, false, false] false W_check_both := sealD_eq _
theorem ok_check_both (T : Fx K mg cls tk C_Shelf) : ∃ (a : Addr) (fd : FuncData), mg "check_both" = some (.ref a) ∧ FunD K "check_both" "check_both" (defArgs (top 23)) (defBody (top 23)) (defScope (top 23)) [] [] a fd ∧ FnOk P w K mg base CX0 4 a fd ["shelf", "one", "other"] (spD ⟨K, cls, none⟩ [false, false, false] false F_check_both) := by
  rw [F_check_both_eq]
  obtain ⟨a, fd, hm, D⟩ := T.d_check_both
  refine ⟨a, fd, hm, D, fn_ok D sc_check_both rfl (by decide) (fun cdv A outer s H E hr => ?_)⟩
  have S := sc_check_both
  exact (pssd_cons (psd_expr (pd_call (ms1 := [false]) (dd := []) ((at_check_shelf T)) (hr.mono (by decide)) rfl (pam_sh (pd_var (pv 0)) pam_nil)))
    (pssd_cons (psd_expr (pd_call (ms1 := [false, false]) (dd := []) ((at_check_run T)) (hr.mono (by decide)) rfl (pam_sh (pd_var (pv 0)) (pam_sh (pd_var (pv 1)) pam_nil))))
    (pssd_one (psd_expr (pd_call (ms1 := [false, false]) (dd := []) ((at_check_run T)) (hr.mono (by decide)) rfl (pam_sh (pd_var (pv 0)) (pam_sh (pd_var (pv 2)) pam_nil)))))))
theorem at_check_both (T : Fx K mg cls tk C_Shelf) : FnAt P w K mg base ⟨K, cls, none⟩ "check_both" 4 [false, false, false] false [] F_check_both := by
  obtain ⟨a, fd, hm, D, G⟩ := ok_check_both T
  exact ⟨a, fd, ["shelf", "one", "other"], [], [], hm, D.kp, G, D.bindsN fun _ _ _ _ _ _ us hl => match us, hl with | [_, _, _], _ => rfl, .nil, fun _ _ => Reps.nil⟩
def N_overlap : List Str := ["shelf", "one", "other"]
theorem sc_overlap : FnScope N_overlap ["shelf", "one", "other"] (defScope (top 24)) := ⟨rfl, rfl, rfl, by decide +kernel, rfl, by decide +kernel, by decide +kernel⟩
def W_overlap : TDS := (tSeqD (tDropD (tFn F_check_both [] (tConsA (tVarD 0) (tConsA (tVarD 1) (tConsA (tVarD 2) tNilA))))) (tRetD (tFn F_overlaps [] (tConsA (tVarD 1) (tConsA (tVarD 2) tNilA)))))
noncomputable def F_overlap : FnD := sealD (runD 3 [false, false, false] false W_overlap)
theorem F_overlap_eq : F_overlap = runD 3 [false, false, false] false W_overlap := sealD_eq _
theorem ok_overlap (T : Fx K mg cls tk C_Shelf) : ∃ (a : Addr) (fd : FuncData), mg "overlap" = some (.ref a) ∧ FunD K "overlap" "overlap" (defArgs (top 24)) (defBody (top 24)) (defScope (top 24)) [] [] a fd ∧ FnOk P w K mg base CX0 5 a fd ["shelf", "one", "other"] (spD ⟨K, cls, none⟩ [false, false, false] false F_overlap) := by
  rw [F_overlap_eq]
  obtain ⟨a, fd, hm, D⟩ := T.d_overlap
  refine ⟨a, fd, hm, D, fn_ok D sc_overlap rfl (by decide) (fun cdv A outer s H E hr => ?_)⟩
  have S := sc_overlap
  exact (pssd_cons (psd_expr (pd_call (ms1 := [false, false, false]) (dd := []) ((at_check_both T)) (hr.mono (by decide)) rfl (pam_sh (pd_var (pv 0)) (pam_sh (pd_var (pv 1)) (pam_sh (pd_var (pv 2)) pam_nil)))))
    (pssd_one (psd_ret (pd_call (ms1 := [false, false]) (dd := []) ((at_overlaps T)) (hr.mono (by decide)) rfl (pam_sh (pd_var (pv 1)) (pam_sh (pd_var (pv 2)) pam_nil))))))
theorem at_overlap (T : Fx K mg cls tk C_Shelf) : FnAt P w K mg base ⟨K, cls, none⟩ "overlap" 5 [false, false, false] false [] F_overlap := by
  obtain ⟨a, fd, hm, D, G⟩ := ok_overlap T
  exact ⟨a, fd, ["shelf", "one", "other"], [], [], hm, D.kp, G, D.bindsN fun _ _ _ _ _ _ us hl => match us, hl with | [_, _, _], _ => rfl, .nil, fun _ _ => Reps.nil⟩
def N_overlapping : List Str := ["shelf", "run", "other"]
theorem sc_overlapping : FnScope N_overlapping ["shelf", "run"] (defScope (top 25)) := ⟨rfl, rfl, rfl, by decide +kernel, rfl, by decide +kernel, by decide +kernel⟩
def W_overlapping : TDS := (tSeqD (tDropD (tFn F_check_shelf [] (tConsA (tVarD 0) tNilA))) (tSeqD (tDropD (tFn F_check_run [] (tConsA (tVarD 0) (tConsA (tVarD 1) tNilA)))) (tRetD (tLcD (tItL (tFn F_runs_of [] (tConsA (tVarD 0) tNilA))) (.nm 2) (tTst (tFn F_overlaps [] (tConsA (tVarD 1) (tConsA (tVarD 2) tNilA)))) (tVarD 2) [2]))))
noncomputable def F_overlapping : FnD := sealD (runD 3 [false, false] true W_overlapping)
theorem F_overlapping_eq : F_overlapping = runD 3 [false, false] true W_overlapping := sealD_eq _
theorem ok_overlapping (T : Fx K mg cls tk C_Shelf) : ∃ (a : Addr) (fd : FuncData), mg "overlapping" = some (.ref a) ∧ FunD K "overlapping" "overlapping" (defArgs (top 25)) (defBody (top 25)) (defScope (top 25)) [] [] a fd ∧ FnOk P w K mg base CX0 4 a fd ["shelf", "run"] (spD ⟨K, cls, none⟩ [false, false] true F_overlapping) := by
  rw [F_overlapping_eq]
  obtain ⟨a, fd, hm, D⟩ := T.d_overlapping
  refine ⟨a, fd, hm, D, fn_ok D sc_overlapping rfl (by decide) (fun cdv A outer s H E hr => ?_)⟩
  have S := sc_overlapping
  exact (pssd_cons (psd_expr (pd_call (ms1 := [false]) (dd := []) ((at_check_shelf T)) (hr.mono (by decide)) rfl (pam_sh (pd_var (pv 0)) pam_nil)))
    (pssd_cons (psd_expr (pd_call (ms1 := [false, false]) (dd := []) ((at_check_run T)) (hr.mono (by decide)) rfl (pam_sh (pd_var (pv 0)) (pam_sh (pd_var (pv 1)) pam_nil))))
    (pssd_one (psd_retF (pf_lc (own := [("other", 2)]) (g := (.nm 2)) rfl rfl S.nd (pi_lstD rfl (PD.pk (pd_call (ms1 := [false]) (dd := []) ((at_runs_of T)) (hr.mono (by decide)) rfl (pam_sh (pd_var (pv 0)) pam_nil)))) (blkOk_by (N := N_overlapping) (own := [("other", 2)]) (sc := defScope (top 25)) (by decide +kernel)) (fun _ _ _ _ _ => (pg_name (i := 2) S.nd rfl (Or.inl rfl))) (by decide) (fun _ _ _ _ _ => (ptsd_one (ptd_val (PD.pk (pd_call (ms1 := [false, false]) (dd := []) ((at_overlaps T)) (hr.mono (by decide)) rfl (pam_sh (pd_var (pv 1)) (pam_sh (pd_var (pv 2)) pam_nil))))))) (fun _ _ _ _ _ => (pd_var (pv 2))))))))
theorem at_overlapping (T : Fx K mg cls tk C_Shelf) : FnAt P w K mg base ⟨K, cls, none⟩ "overlapping" 4 [false, false] true [] F_overlapping := by
  obtain ⟨a, fd, hm, D, G⟩ := ok_overlapping T
  exact ⟨a, fd, ["shelf", "run"], [], [], hm, D.kp, G, D.bindsN fun _ _ _ _ _ _ us hl => match us, hl with | [_, _], _ => rfl, .nil, fun _ _ => Reps.nil⟩
def N_check_overlap : List Str := ["shelf", "one", "other"]
theorem sc_check_overlap : FnScope N_check_overlap ["shelf", "one", "other"] (defScope (top 26)) := ⟨rfl, rfl, rfl, by decide +kernel, rfl, by decide +kernel, by decide +kernel⟩
def W_check_overlap : TDS := (tSeqD (tDropD (tFn F_check_both [] (tConsA (tVarD 0) (tConsA (tVarD 1) (tConsA (tVarD 2) tNilA))))) (tIfD (tNotD (tTst (tFn F_overlaps [] (tConsA (tVarD 1) (tConsA (tVarD 2) tNilA))))) tNeverD tNextD))
noncomputable def F_check_overlap : FnD := sealD (runD 3 [false, false, false] false W_check_overlap)
theorem F_check_overlap_eq : F_check_overlap = runD 3 [false, false, false] false W_check_overlap := sealD_eq _
theorem ok_check_overlap (T : Fx K mg cls tk C_Shelf) : ∃ (a : Addr) (fd : FuncData), mg "check_overlap" = some (.ref a) ∧ FunD K "check_overlap" "check_overlap" (defArgs (top 26)) (defBody (top 26)) (defScope (top 26)) [] [] a fd ∧ FnOk P w K mg base CX0 5 a fd ["shelf", "one", "other"] (spD ⟨K, cls, none⟩ [false, false, false] false F_check_overlap) := by
  rw [F_check_overlap_eq]
  obtain ⟨a, fd, hm, D⟩ := T.d_check_overlap
  refine ⟨a, fd, hm, D, fn_ok D sc_check_overlap rfl (by decide) (fun cdv A outer s H E hr => ?_)⟩
  have S := sc_check_overlap
  exact (pssd_cons (psd_expr (pd_call (ms1 := [false, false, false]) (dd := []) ((at_check_both T)) (hr.mono (by decide)) rfl (pam_sh (pd_var (pv 0)) (pam_sh (pd_var (pv 1)) (pam_sh (pd_var (pv 2)) pam_nil)))))
    (pssd_one (psd_if (ptd_not (ptd_val (PD.pk (pd_call (ms1 := [false, false]) (dd := []) ((at_overlaps T)) (hr.mono (by decide)) rfl (pam_sh (pd_var (pv 1)) (pam_sh (pd_var (pv 2)) pam_nil)))))) (pssd_one psd_never)
    pssd_nil)))
theorem at_check_overlap (T : Fx K mg cls tk C_Shelf) : FnAt P w K mg base ⟨K, cls, none⟩ "check_overlap" 5 [false, false, false] false [] F_check_overlap := by
  obtain ⟨a, fd, hm, D, G⟩ := ok_check_overlap T
  exact ⟨a, fd, ["shelf", "one", "other"], [], [], hm, D.kp, G, D.bindsN fun _ _ _ _ _ _ us hl => match us, hl with | [_, _, _], _ => rfl, .nil, fun _ _ => Reps.nil⟩
def N_meet_of : List Str := ["shelf", "one", "other"]
theorem sc_meet_of : FnScope N_meet_of ["shelf", "one", "other"] (defScope (top 27)) := ⟨rfl, rfl, rfl, by decide +kernel, rfl, by decide +kernel, by decide +kernel⟩
def W_meet_of : TDS := (tSeqD (tDropD (tFn F_check_overlap [] (tConsA (tVarD 0) (tConsA (tVarD 1) (tConsA (tVarD 2) tNilA))))) (tRetD (tFn F_common [] (tConsA (tVarD 1) (tConsA (tVarD 2) tNilA)))))
noncomputable def F_meet_of : FnD := sealD (runD 3 [false, false, false] false W_meet_of)
theorem F_meet_of_eq : F_meet_of = runD 3 [false, false, false] false W_meet_of := sealD_eq _
theorem ok_meet_of (T : Fx K mg cls tk C_Shelf) : ∃ (a : Addr) (fd : FuncData), mg "meet_of" = some (.ref a) ∧ FunD K "meet_of" "meet_of" (defArgs (top 27)) (defBody (top 27)) (defScope (top 27)) [] [] a fd ∧ FnOk P w K mg base CX0 6 a fd ["shelf", "one", "other"] (spD ⟨K, cls, none⟩ [false, false, false] false F_meet_of) := by
  rw [F_meet_of_eq]
  obtain ⟨a, fd, hm, D⟩ := T.d_meet_of
  refine ⟨a, fd, hm, D, fn_ok D sc_meet_of rfl (by decide) (fun cdv A outer s H E hr => ?_)⟩
  have S := sc_meet_of
  exact (pssd_cons (psd_expr (pd_call (ms1 := [false, false, false]) (dd := []) ((at_check_overlap T)) (hr.mono (by decide)) rfl (pam_sh (pd_var (pv 0)) (pam_sh (pd_var (pv 1)) (pam_sh (pd_var (pv 2)) pam_nil)))))
    (pssd_one (psd_ret (pd_call (ms1 := [false, false]) (dd := []) ((at_common T)) (hr.mono (by decide)) rfl (pam_sh (pd_var (pv 1)) (pam_sh (pd_var (pv 2)) pam_nil))))))
theorem at_meet_of (T : Fx K mg cls tk C_Shelf) : FnAt P w K mg base ⟨K, cls, none⟩ "meet_of" 6 [false, false, false] false [] F_meet_of := by
  obtain ⟨a, fd, hm, D, G⟩ := ok_meet_of T
  exact ⟨a, fd, ["shelf", "one", "other"], [], [], hm, D.kp, G, D.bindsN fun _ _ _ _ _ _ us hl => match us, hl with | [_, _, _], _ => rfl, .nil, fun _ _ => Reps.nil⟩
def N_union_of : List Str := ["shelf", "one", "other", "book"]
theorem sc_union_of : FnScope N_union_of ["shelf", "one", "other"] (defScope (top 28)) := ⟨rfl, rfl, rfl, by decide +kernel, rfl, by decide +kernel, by decide +kernel⟩
def W_union_of : TDS := (tSeqD (tDropD (tFn F_check_overlap [] (tConsA (tVarD 0) (tConsA (tVarD 1) (tConsA (tVarD 2) tNilA))))) (tRetD (tCall tupleD (tConsA (tLcD (tItL (tFldD "Shelf" "books" (tVarK 0))) (.nm 3) (tOrD (tTst (t2 inE (tVarK 3) (tVarK 1))) (tTst (t2 inE (tVarK 3) (tVarK 2)))) (tVarD 3) [3]) tNilA))))
noncomputable def F_union_of : FnD := sealD (runD 4 [false, false, false] false W_union_of)
theorem F_union_of_eq : F_union_of = runD 4 [false, false, false] false W_union_of := sealD_eq _
theorem ok_union_of (T : Fx K mg cls tk C_Shelf) : ∃ (a : Addr) (fd : FuncData), mg "union_of" = some (.ref a) ∧ FunD K "union_of" "union_of" (defArgs (top 28)) (defBody (top 28)) (defScope (top 28)) [] [] a fd ∧ FnOk P w K mg base CX0 6 a fd ["shelf", "one", "other"] (spD ⟨K, cls, none⟩ [false, false, false] false F_union_of) := by
  rw [F_union_of_eq]
  obtain ⟨a, fd, hm, D⟩ := T.d_union_of
  refine ⟨a, fd, hm, D, fn_ok D sc_union_of rfl (by decide) (fun cdv A outer s H E hr => ?_)⟩
  have S := sc_union_of
  exact (pssd_cons (psd_expr (pd_call (ms1 := [false, false, false]) (dd := []) ((at_check_overlap T)) (hr.mono (by decide)) rfl (pam_sh (pd_var (pv 0)) (pam_sh (pd_var (pv 1)) (pam_sh (pd_var (pv 2)) pam_nil)))))
    (pssd_one (psd_ret (pd_callT call_tuple_of k_tuple rfl T.f_tuple (by kernel_rfl) (pak_cons (PD.pk (PFD.pd (pf_lc (own := [("book", 3)]) (g := (.nm 3)) rfl rfl S.nd (pi_lstD rfl (PD.pk (pd_fld rfl T.c_Shelf T.cl_Shelf T.na_Shelf_books (pk_var (pv 0)) (by rfl)))) (blkOk_by (N := N_union_of) (own := [("book", 3)]) (sc := defScope (top 28)) (by decide +kernel)) (fun _ _ _ _ _ => (pg_name (i := 3) S.nd rfl (Or.inl rfl))) (by decide) (fun _ _ _ _ _ => (ptsd_one (PWD.pt (pwd_or (ptd_cmp (op_inE (u65 hr)) k_inE (pk_var (pv 3)) (pk_var (pv 1)) (by rfl)) (pwd_or1 (ptd_cmp (op_inE (u65 hr)) k_inE (pk_var (pv 3)) (pk_var (pv 2)) (by rfl))))))) (fun _ _ _ _ _ => (pd_var (pv 3)))))) pak_nil)))))
theorem at_union_of (T : Fx K mg cls tk C_Shelf) : FnAt P w K mg base ⟨K, cls, none⟩ "union_of" 6 [false, false, false] false [] F_union_of := by
  obtain ⟨a, fd, hm, D, G⟩ := ok_union_of T
  exact ⟨a, fd, ["shelf", "one", "other"], [], [], hm, D.kp, G, D.bindsN fun _ _ _ _ _ _ us hl => match us, hl with | [_, _, _], _ => rfl, .nil, fun _ _ => Reps.nil⟩
def N_rests_of : List Str := ["shelf", "one", "other", "book"]
theorem sc_rests_of : FnScope N_rests_of ["shelf", "one", "other"] (defScope (top 29)) := ⟨rfl, rfl, rfl, by decide +kernel, rfl, by decide +kernel, by decide +kernel⟩
def W_rests_of : TDS := (tSeqD (tDropD (tFn F_check_overlap [] (tConsA (tVarD 0) (tConsA (tVarD 1) (tConsA (tVarD 2) tNilA))))) (tRetD (tLstD (tConsA (tCall tupleD (tConsA (tLcD (tItT (tVarK 1)) (.nm 3) (tTst (t2 ninE (tVarK 3) (tVarK 2))) (tVarD 3) [3]) tNilA)) (tConsA (tCall tupleD (tConsA (tLcD (tItT (tVarK 2)) (.nm 3) (tTst (t2 ninE (tVarK 3) (tVarK 1))) (tVarD 3) [3]) tNilA)) tNilA)))))
noncomputable def F_rests_of : FnD := sealD (runD 4 [false, false, false] true W_rests_of)
theorem F_rests_of_eq : F_rests_of = runD 4 [false, false, false] true W_rests_of := sealD_eq _
theorem ok_rests_of (T : Fx K mg cls tk C_Shelf) : ∃ (a : Addr) (fd : FuncData), mg "rests_of" = some (.ref a) ∧ FunD K "rests_of" "rests_of" (defArgs (top 29)) (defBody (top 29)) (defScope (top 29)) [] [] a fd ∧ FnOk P w K mg base CX0 6 a fd ["shelf", "one", "other"] (spD ⟨K, cls, none⟩ [false, false, false] true F_rests_of) := by
  rw [F_rests_of_eq]
  obtain ⟨a, fd, hm, D⟩ := T.d_rests_of
  refine ⟨a, fd, hm, D, fn_ok D sc_rests_of rfl (by decide) (fun cdv A outer s H E hr => ?_)⟩
  have S := sc_rests_of
  exact (pssd_cons (psd_expr (pd_call (ms1 := [false, false, false]) (dd := []) ((at_check_overlap T)) (hr.mono (by decide)) rfl (pam_sh (pd_var (pv 0)) (pam_sh (pd_var (pv 1)) (pam_sh (pd_var (pv 2)) pam_nil)))))
    (pssd_one (psd_retF (pf_lst (pad_cons (pd_callT call_tuple_of k_tuple rfl T.f_tuple (by kernel_rfl) (pak_cons (PD.pk (PFD.pd (pf_lc (own := [("book", 3)]) (g := (.nm 3)) rfl rfl S.nd (pi_tupD rfl (pk_var (pv 1))) (blkOk_by (N := N_rests_of) (own := [("book", 3)]) (sc := defScope (top 29)) (by decide +kernel)) (fun _ _ _ _ _ => (pg_name (i := 3) S.nd rfl (Or.inl rfl))) (by decide) (fun _ _ _ _ _ => (ptsd_one (ptd_cmp (op_ninE (u65 hr)) k_ninE (pk_var (pv 3)) (pk_var (pv 2)) (by rfl)))) (fun _ _ _ _ _ => (pd_var (pv 3)))))) pak_nil)) (pad_cons (pd_callT call_tuple_of k_tuple rfl T.f_tuple (by kernel_rfl) (pak_cons (PD.pk (PFD.pd (pf_lc (own := [("book", 3)]) (g := (.nm 3)) rfl rfl S.nd (pi_tupD rfl (pk_var (pv 2))) (blkOk_by (N := N_rests_of) (own := [("book", 3)]) (sc := defScope (top 29)) (by decide +kernel)) (fun _ _ _ _ _ => (pg_name (i := 3) S.nd rfl (Or.inl rfl))) (by decide) (fun _ _ _ _ _ => (ptsd_one (ptd_cmp (op_ninE (u65 hr)) k_ninE (pk_var (pv 3)) (pk_var (pv 1)) (by rfl)))) (fun _ _ _ _ _ => (pd_var (pv 3)))))) pak_nil)) pad_nil))))))
theorem at_rests_of (T : Fx K mg cls tk C_Shelf) : FnAt P w K mg base ⟨K, cls, none⟩ "rests_of" 6 [false, false, false] true [] F_rests_of := by
  obtain ⟨a, fd, hm, D, G⟩ := ok_rests_of T
  exact ⟨a, fd, ["shelf", "one", "other"], [], [], hm, D.kp, G, D.bindsN fun _ _ _ _ _ _ us hl => match us, hl with | [_, _, _], _ => rfl, .nil, fun _ _ => Reps.nil⟩
def N_law_purse : List Str := ["_law_script", "_law_at", "_law_seed"]
theorem sc_law_purse : FnScope N_law_purse ["_law_script", "_law_at"] (defScope (top 31)) := ⟨rfl, rfl, rfl, by decide +kernel, rfl, by decide +kernel, by decide +kernel⟩
def W_law_purse : TDS := (tSeqD (tSetD 2 (tCall sumD (tConsA (tSlD slD (tVarK 0) (tPartD (tVarK 1)) (tPartD (t2 addD (tVarK 1) (tCD (.int 1))))) tNilA))) (tRetPur (tConsA (t2 modD (tCall intD (tConsA (tCall maxD (tConsA (t2 subD (tVarK 2) (t2 powBD (tCD (.int 10)) (tCD (.int 18)))) (tConsA (tCD (.int 0)) tNilA))) tNilA)) (t2 powBD (t2 powBD (tCD (.int 10)) (tCD (.int 60))) (tCD (.int 8)))) (tConsA (t2 modD (tCall intD (tConsA (tVarK 2) tNilA)) (tCD (.int 2147483629))) (tConsA (tCD (.int 0)) (tConsA (tVarD 1) tNilA))))))
noncomputable def F_law_purse : FnD := sealD (runD 3 [false, false] false W_law_purse)
theorem F_law_purse_eq : F_law_purse = runD 3 [false, false] false W_law_purse := sealD_eq _
theorem ok_law_purse (T : Fx K mg cls tk C_Shelf) : ∃ (a : Addr) (fd : FuncData), mg "_law_purse" = some (.ref a) ∧ FunD K "_law_purse" "_law_purse" (defArgs (top 31)) (defBody (top 31)) (defScope (top 31)) [] [] a fd ∧ FnOk P w K mg base CX0 1 a fd ["_law_script", "_law_at"] (spD ⟨K, cls, none⟩ [false, false] false F_law_purse) := by
  rw [F_law_purse_eq]
  obtain ⟨a, fd, hm, D⟩ := T.d_law_purse
  refine ⟨a, fd, hm, D, fn_ok D sc_law_purse rfl (by decide) (fun cdv A outer s H E hr => ?_)⟩
  have S := sc_law_purse
  exact (pssd_cons (psd_set (i := 2) S.nd rfl (Or.inl rfl) (pd_callB (cr_sum rfl) k_sum rfl T.f_sum (by kernel_rfl) (pak_cons (PD.pk (pd_slice op_slD k_slD (pk_var (pv 0)) (pod_some (pk_var (pv 1))) (pod_some (PD.pk (pd_op op_addD k_addD (pk_var (pv 1)) (PD.pk pd_int)))))) pak_nil)))
    (pssd_one (psd_retPur (pad_cons (pd_op op_mod k_intC (PD.pk (pd_callT call_int1 k_int rfl T.f_int (by kernel_rfl) (pak_cons (PD.pk (pd_callB (op_maxD rfl) k_max rfl T.f_max (by kernel_rfl) (pak_cons (PD.pk (pd_op op_sub k_intA (pk_var (pv 2)) (PD.pk (pd_op op_powB k_intC (PD.pk pd_int) (PD.pk pd_int))))) (pak_cons (PD.pk pd_int) pak_nil)))) pak_nil))) (PD.pk (pd_op op_powB k_intC (PD.pk (pd_op op_powB k_intC (PD.pk pd_int) (PD.pk pd_int))) (PD.pk pd_int)))) (pad_cons (pd_op op_mod k_intC (PD.pk (pd_callT call_int1 k_int rfl T.f_int (by kernel_rfl) (pak_cons (pk_var (pv 2)) pak_nil))) (PD.pk pd_int)) (pad_cons pd_int (pad_cons (pd_var (pv 1)) pad_nil)))))))
theorem at_law_purse (T : Fx K mg cls tk C_Shelf) : FnAt P w K mg base ⟨K, cls, none⟩ "_law_purse" 1 [false, false] false [] F_law_purse := by
  obtain ⟨a, fd, hm, D, G⟩ := ok_law_purse T
  exact ⟨a, fd, ["_law_script", "_law_at"], [], [], hm, D.kp, G, D.bindsN fun _ _ _ _ _ _ us hl => match us, hl with | [_, _], _ => rfl, .nil, fun _ _ => Reps.nil⟩
def N_law_mixed : List Str := ["_law_seed", "_law_turn_here", "_law_at", "_law_mixed_here"]
theorem sc_law_mixed : FnScope N_law_mixed ["_law_seed", "_law_turn_here", "_law_at"] (defScope (top 32)) := ⟨rfl, rfl, rfl, by decide +kernel, rfl, by decide +kernel, by decide +kernel⟩
def W_law_mixed : TDS := (tSeqD (tSetD 3 (t2 addD (t2 mulD (tVarK 0) (tCD (.int 69069))) (t2 mulD (t2 mulD (tCD (.int 104729)) (tVarK 1)) (tVarK 1)))) (tSeqD (tSetD 3 (t2 modD (tCall intD (tConsA (t2 addD (t2 addD (tVarK 3) (t2 mulD (tCD (.int 7919)) (tVarK 2))) (tVarK 1)) tNilA)) (tCD (.int 2147483647)))) (tSeqD (tSetD 3 (t2 modD (tCall intD (tConsA (t2 addD (t2 mulD (tVarK 3) (tVarK 3)) (tCD (.int 40503))) tNilA)) (tCD (.int 2147483629)))) (tRetD (t2 modD (tCall intD (tConsA (t2 mulD (tVarK 3) (tCD (.int 48271))) tNilA)) (tCD (.int 2147483587)))))))
noncomputable def F_law_mixed : FnD := sealD (runD 4 [false, false, false] false W_law_mixed)
theorem F_law_mixed_eq : F_law_mixed = runD 4 [false, false, false] false W_law_mixed := sealD_eq _
theorem ok_law_mixed (T : Fx K mg cls tk C_Shelf) : ∃ (a : Addr) (fd : FuncData), mg "_law_mixed" = some (.ref a) ∧ FunD K "_law_mixed" "_law_mixed" (defArgs (top 32)) (defBody (top 32)) (defScope (top 32)) [] [] a fd ∧ FnOk P w K mg base CX0 1 a fd ["_law_seed", "_law_turn_here", "_law_at"] (spD ⟨K, cls, none⟩ [false, false, false] false F_law_mixed) := by
  rw [F_law_mixed_eq]
  obtain ⟨a, fd, hm, D⟩ := T.d_law_mixed
  refine ⟨a, fd, hm, D, fn_ok D sc_law_mixed rfl (by decide) (fun cdv A outer s H E hr => ?_)⟩
  have S := sc_law_mixed
  exact (pssd_cons (psd_set (i := 3) S.nd rfl (Or.inl rfl) (pd_op op_addD k_addD (PD.pk (pd_op op_mul k_intC (pk_var (pv 0)) (PD.pk pd_int))) (PD.pk (pd_op op_mul k_intC (PD.pk (pd_op op_mul k_intC (PD.pk pd_int) (pk_var (pv 1)))) (pk_var (pv 1))))))
    (pssd_cons (psd_set (i := 3) S.nd rfl (Or.inl rfl) (pd_op op_mod k_intC (PD.pk (pd_callT call_int1 k_int rfl T.f_int (by kernel_rfl) (pak_cons (PD.pk (pd_op op_addD k_addD (PD.pk (pd_op op_addD k_addD (pk_var (pv 3)) (PD.pk (pd_op op_mul k_intC (PD.pk pd_int) (pk_var (pv 2)))))) (pk_var (pv 1)))) pak_nil))) (PD.pk pd_int)))
    (pssd_cons (psd_set (i := 3) S.nd rfl (Or.inl rfl) (pd_op op_mod k_intC (PD.pk (pd_callT call_int1 k_int rfl T.f_int (by kernel_rfl) (pak_cons (PD.pk (pd_op op_addD k_addD (PD.pk (pd_op op_mul k_intC (pk_var (pv 3)) (pk_var (pv 3)))) (PD.pk pd_int))) pak_nil))) (PD.pk pd_int)))
    (pssd_one (psd_ret (pd_op op_mod k_intC (PD.pk (pd_callT call_int1 k_int rfl T.f_int (by kernel_rfl) (pak_cons (PD.pk (pd_op op_mul k_intC (pk_var (pv 3)) (PD.pk pd_int))) pak_nil))) (PD.pk pd_int)))))))
theorem at_law_mixed (T : Fx K mg cls tk C_Shelf) : FnAt P w K mg base ⟨K, cls, none⟩ "_law_mixed" 1 [false, false, false] false [] F_law_mixed := by
  obtain ⟨a, fd, hm, D, G⟩ := ok_law_mixed T
  exact ⟨a, fd, ["_law_seed", "_law_turn_here", "_law_at"], [], [], hm, D.kp, G, D.bindsN fun _ _ _ _ _ _ us hl => match us, hl with | [_, _, _], _ => rfl, .nil, fun _ _ => Reps.nil⟩
def N_law_draw : List Str := ["_law_purse_here", "_law_many_here", "_law_found", "_law_piece", "_law_drawn"]
theorem sc_law_draw : FnScope N_law_draw ["_law_purse_here", "_law_many_here"] (defScope (top 33)) := ⟨rfl, rfl, rfl, by decide +kernel, rfl, by decide +kernel, by decide +kernel⟩
def W_law_draw : TDS := (tSeqD (tIfD (tTst (t2 gtD (tPurIx 0 0) (tCD (.int 0)))) (tSeqD (tSetD 4 (t2 modD (tCall intD (tConsA (tPurIx 0 0) tNilA)) (tVarK 1))) (tSeqD (tPurSet 0 0 (t2 divD (tPurIx 0 0) (tVarK 1))) (tRetD (tVarD 4)))) tNextD) (tSeqD (tSetD 2 (tCD (.int 0))) (tSeqD (tForD (tRng1 (t2 addD (tCD (.int 1)) (t2 divD (tBitsD (tVarK 1)) (tCD (.int 28))))) (.nm 3) (tSeqD (tPurSet 0 2 (t2 addD (tPurIx 0 2) (tCD (.int 1)))) (tSetD 2 (t2 addD (t2 mulD (tVarK 2) (tCD (.int 2147483587))) (tFn F_law_mixed [] (tConsA (tPurIx 0 1) (tConsA (tPurIx 0 2) (tConsA (tPurIx 0 3) tNilA)))))))) (tRetD (t2 modD (tCall intD (tConsA (tVarK 2) tNilA)) (tVarK 1))))))
noncomputable def F_law_draw : FnD := sealD (runD 5 [false, false] false W_law_draw)
theorem F_law_draw_eq : F_law_draw = runD 5 [false, false] false W_law_draw := sealD_eq _
theorem ok_law_draw (T : Fx K mg cls tk C_Shelf) : ∃ (a : Addr) (fd : FuncData), mg "_law_draw" = some (.ref a) ∧ FunD K "_law_draw" "_law_draw" (defArgs (top 33)) (defBody (top 33)) (defScope (top 33)) [] [] a fd ∧ FnOk P w K mg base CX0 2 a fd ["_law_purse_here", "_law_many_here"] (spD ⟨K, cls, none⟩ [false, false] false F_law_draw) := by
  rw [F_law_draw_eq]
  obtain ⟨a, fd, hm, D⟩ := T.d_law_draw
  refine ⟨a, fd, hm, D, fn_ok D sc_law_draw rfl (by decide) (fun cdv A outer s H E hr => ?_)⟩
  have S := sc_law_draw
  exact (pssd_cons (psd_if (ptd_cmp op_gt k_cmpA (PD.pk (pd_purIx (pv 0) pe_int (fun _ _ => rfl))) (PD.pk pd_int) (nomark _)) (pssd_cons (psd_set (i := 4) S.nd rfl (Or.inl rfl) (pd_op op_mod k_intC (PD.pk (pd_callT call_int1 k_int rfl T.f_int (by kernel_rfl) (pak_cons (PD.pk (pd_purIx (pv 0) pe_int (fun _ _ => rfl))) pak_nil))) (pk_var (pv 1))))
    (pssd_cons (psd_purSet (pv 0) pe_int (pd_op op_fdiv k_intC (PD.pk (pd_purIx (pv 0) pe_int (fun _ _ => rfl))) (pk_var (pv 1))))
    (pssd_one (psd_ret (pd_var (pv 4))))))
    pssd_nil)
    (pssd_cons (psd_set (i := 2) S.nd rfl (Or.inl rfl) pd_int)
    (pssd_cons (psd_for rfl PassesOwn.never rfl (pj_rng1 rfl T.f_range (PD.pk (pd_op op_addD k_addD (PD.pk pd_int) (PD.pk (pd_op op_fdiv k_intC (PD.pk (pd_bits (pk_var (pv 1)) (fun _ h => pe_bits h))) (PD.pk pd_int)))))) (pg_name (i := 3) S.nd rfl (Or.inl rfl))
    (pssd_cons (psd_purSet (pv 0) pe_int (pd_op op_addD k_addD (PD.pk (pd_purIx (pv 0) pe_int (fun _ _ => rfl))) (PD.pk pd_int)))
    (pssd_one (psd_set (i := 2) S.nd rfl (Or.inl rfl) (pd_op op_addD k_addD (PD.pk (pd_op op_mul k_intC (pk_var (pv 2)) (PD.pk pd_int))) (PD.pk (pd_call (ms1 := [false, false, false]) (dd := []) ((at_law_mixed T)) (hr.mono (by decide)) rfl (pam_sh (pd_purIx (pv 0) pe_int (fun _ _ => rfl)) (pam_sh (pd_purIx (pv 0) pe_int (fun _ _ => rfl)) (pam_sh (pd_purIx (pv 0) pe_int (fun _ _ => rfl)) pam_nil))))))))))
    (pssd_one (psd_ret (pd_op op_mod k_intC (PD.pk (pd_callT call_int1 k_int rfl T.f_int (by kernel_rfl) (pak_cons (pk_var (pv 2)) pak_nil))) (pk_var (pv 1))))))))
theorem at_law_draw (T : Fx K mg cls tk C_Shelf) : FnAt P w K mg base ⟨K, cls, none⟩ "_law_draw" 2 [false, false] false [] F_law_draw := by
  obtain ⟨a, fd, hm, D, G⟩ := ok_law_draw T
  exact ⟨a, fd, ["_law_purse_here", "_law_many_here"], [], [], hm, D.kp, G, D.bindsN fun _ _ _ _ _ _ us hl => match us, hl with | [_, _], _ => rfl, .nil, fun _ _ => Reps.nil⟩
def N_law_purses : List Str := ["_law_script", "_law_few", "_law_at"]
theorem sc_law_purses : FnScope N_law_purses ["_law_script", "_law_few"] (defScope (top 34)) := ⟨rfl, rfl, rfl, by decide +kernel, rfl, by decide +kernel, by decide +kernel⟩
def W_law_purses : TDS := (tRetD (tLcD (tRng1 (tCall maxD (tConsA (tCD (.int 1)) (tConsA (tCall minD (tConsA (tVarK 1) (tConsA (tCall lenD (tConsA (tVarK 0) tNilA)) tNilA))) tNilA)))) (.nm 2) tYesD (tFn F_law_purse [] (tConsA (tVarD 0) (tConsA (tVarD 2) tNilA))) [2]))
noncomputable def F_law_purses : FnD := sealD (runD 3 [false, false] false W_law_purses)
theorem F_law_purses_eq : F_law_purses = runD 3 [false, false] false W_law_purses := sealD_eq _
theorem ok_law_purses (T : Fx K mg cls tk C_Shelf) : ∃ (a : Addr) (fd : FuncData), mg "_law_purses" = some (.ref a) ∧ FunD K "_law_purses" "_law_purses" (defArgs (top 34)) (defBody (top 34)) (defScope (top 34)) [] [] a fd ∧ FnOk P w K mg base CX0 2 a fd ["_law_script", "_law_few"] (spD ⟨K, cls, none⟩ [false, false] false F_law_purses) := by
  rw [F_law_purses_eq]
  obtain ⟨a, fd, hm, D⟩ := T.d_law_purses
  refine ⟨a, fd, hm, D, fn_ok D sc_law_purses rfl (by decide) (fun cdv A outer s H E hr => ?_)⟩
  have S := sc_law_purses
  exact (pssd_one (psd_ret (PFD.pd (pf_lc (own := [("_law_at", 2)]) (g := (.nm 2)) rfl rfl S.nd (pi_rng1 rfl T.f_range (PD.pk (pd_callB (op_maxD rfl) k_max rfl T.f_max (by kernel_rfl) (pak_cons (PD.pk pd_int) (pak_cons (PD.pk (pd_callB (op_minD rfl) k_min rfl T.f_min (by kernel_rfl) (pak_cons (pk_var (pv 1)) (pak_cons (PD.pk (pd_callB call_len k_len rfl T.f_len (by kernel_rfl) (pak_cons (pk_var (pv 0)) pak_nil))) pak_nil)))) pak_nil))))) (blkOk_by (N := N_law_purses) (own := [("_law_at", 2)]) (sc := defScope (top 34)) (by decide +kernel)) (fun _ _ _ _ _ => (pg_name (i := 2) S.nd rfl (Or.inl rfl))) (by decide) (fun _ _ _ _ _ => ptsd_nil) (fun _ _ _ _ _ => (pd_call (ms1 := [false, false]) (dd := []) ((at_law_purse T)) (hr.mono (by decide)) rfl (pam_sh (pd_var (pv 0)) (pam_sh (pd_var (pv 2)) pam_nil))))))))
theorem at_law_purses (T : Fx K mg cls tk C_Shelf) : FnAt P w K mg base ⟨K, cls, none⟩ "_law_purses" 2 [false, false] false [] F_law_purses := by
  obtain ⟨a, fd, hm, D, G⟩ := ok_law_purses T
  exact ⟨a, fd, ["_law_script", "_law_few"], [], [], hm, D.kp, G, D.bindsN fun _ _ _ _ _ _ us hl => match us, hl with | [_, _], _ => rfl, .nil, fun _ _ => Reps.nil⟩
def N_law_one_of : List Str := ["_law_purse_here", "_law_some"]
theorem sc_law_one_of : FnScope N_law_one_of ["_law_purse_here", "_law_some"] (defScope (top 35)) := ⟨rfl, rfl, rfl, by decide +kernel, rfl, by decide +kernel, by decide +kernel⟩
def W_law_one_of : TDS := (tRetD (t2 ixE (tVarK 1) (tFn F_law_draw [] (tConsA (tVarD 0) (tConsA (tCall lenD (tConsA (tVarK 1) tNilA)) tNilA)))))
noncomputable def F_law_one_of : FnD := sealD (runD 2 [false, false] false W_law_one_of)
theorem F_law_one_of_eq : F_law_one_of = runD 2 [false, false] false W_law_one_of := sealD_eq _
theorem ok_law_one_of (T : Fx K mg cls tk C_Shelf) : ∃ (a : Addr) (fd : FuncData), mg "_law_one_of" = some (.ref a) ∧ FunD K "_law_one_of" "_law_one_of" (defArgs (top 35)) (defBody (top 35)) (defScope (top 35)) [] [] a fd ∧ FnOk P w K mg base CX0 3 a fd ["_law_purse_here", "_law_some"] (spD ⟨K, cls, none⟩ [false, false] false F_law_one_of) := by
  rw [F_law_one_of_eq]
  obtain ⟨a, fd, hm, D⟩ := T.d_law_one_of
  refine ⟨a, fd, hm, D, fn_ok D sc_law_one_of rfl (by decide) (fun cdv A outer s H E hr => ?_)⟩
  have S := sc_law_one_of
  exact (pssd_one (psd_ret (pd_ix (ix_or ix_seq (ix_dict (u1 hr))) k_ixE (pk_var (pv 1)) (PD.pk (pd_call (ms1 := [false, false]) (dd := []) ((at_law_draw T)) (hr.mono (by decide)) rfl (pam_sh (pd_var (pv 0)) (pam_sh (pd_callB call_len k_len rfl T.f_len (by kernel_rfl) (pak_cons (pk_var (pv 1)) pak_nil)) pam_nil)))) (fun _ _ => rfl))))
theorem at_law_one_of (T : Fx K mg cls tk C_Shelf) : FnAt P w K mg base ⟨K, cls, none⟩ "_law_one_of" 3 [false, false] false [] F_law_one_of := by
  obtain ⟨a, fd, hm, D, G⟩ := ok_law_one_of T
  exact ⟨a, fd, ["_law_purse_here", "_law_some"], [], [], hm, D.kp, G, D.bindsN fun _ _ _ _ _ _ us hl => match us, hl with | [_, _], _ => rfl, .nil, fun _ _ => Reps.nil⟩
def N_law_shuffled : List Str := ["_law_purse_here", "_law_some", "_law_found", "_law_item"]
theorem sc_law_shuffled : FnScope N_law_shuffled ["_law_purse_here", "_law_some"] (defScope (top 36)) := ⟨rfl, rfl, rfl, by decide +kernel, rfl, by decide +kernel, by decide +kernel⟩
def W_law_shuffled : TDS := (tSeqD (tSetO 2 (tLstD tNilA)) (tSeqD (tForD (tItP 1) (.nm 3) (tMutD 2 insertM (tConsA (tFn F_law_draw [] (tConsA (tVarD 0) (tConsA (t2 addD (tCall lenD (tConsA (tVarK 2) tNilA)) (tCD (.int 1))) tNilA))) (tConsA (tVarD 3) tNilA)))) (tFz [2] (tRetD (tVarD 2)))))
noncomputable def F_law_shuffled : FnD := sealD (runD 4 [false, true] false W_law_shuffled)
theorem F_law_shuffled_eq : F_law_shuffled = runD 4 [false, true] false W_law_shuffled := sealD_eq _
theorem ok_law_shuffled (T : Fx K mg cls tk C_Shelf) : ∃ (a : Addr) (fd : FuncData), mg "_law_shuffled" = some (.ref a) ∧ FunD K "_law_shuffled" "_law_shuffled" (defArgs (top 36)) (defBody (top 36)) (defScope (top 36)) [] [] a fd ∧ FnOk P w K mg base CX0 3 a fd ["_law_purse_here", "_law_some"] (spD ⟨K, cls, none⟩ [false, true] false F_law_shuffled) := by
  rw [F_law_shuffled_eq]
  obtain ⟨a, fd, hm, D⟩ := T.d_law_shuffled
  refine ⟨a, fd, hm, D, fn_ok D sc_law_shuffled rfl (by decide) (fun cdv A outer s H E hr => ?_)⟩
  have S := sc_law_shuffled
  exact (pssd_cons (psd_setO (i := 2) S.nd rfl (Or.inl rfl) (pf_lst pad_nil))
    (pssd_cons (psd_for rfl PassesOwn.never rfl (pj_pk rfl (pv 1)) (pg_name (i := 3) S.nd rfl (Or.inl rfl))
    (pssd_one (psd_mut rfl k_insert (pad_cons (pd_call (ms1 := [false, false]) (dd := []) ((at_law_draw T)) (hr.mono (by decide)) rfl (pam_sh (pd_var (pv 0)) (pam_sh (pd_op op_addD k_addD (PD.pk (pd_callB call_len k_len rfl T.f_len (by kernel_rfl) (pak_cons (pk_var (pv 2)) pak_nil))) (PD.pk pd_int)) pam_nil))) (pad_cons (pd_var (pv 3)) pad_nil)) (fun _ h => pe_bm PySem.F.plainAttrs_list PySem.F.slot_list_insert PySem.F.type_list_insert mt_insert (pv 2) h))))
    (pssd_one (psd_fz [2] (psd_ret (pd_var (pv 2)))))))
theorem at_law_shuffled (T : Fx K mg cls tk C_Shelf) : FnAt P w K mg base ⟨K, cls, none⟩ "_law_shuffled" 3 [false, true] false [] F_law_shuffled := by
  obtain ⟨a, fd, hm, D, G⟩ := ok_law_shuffled T
  exact ⟨a, fd, ["_law_purse_here", "_law_some"], [], [], hm, D.kp, G, D.bindsN fun _ _ _ _ _ _ us hl => match us, hl with | [_, _], _ => rfl, .nil, fun _ _ => Reps.nil⟩
def N_law_exact : List Str := ["_law_mine", "_law_theirs", "_law_alike", "_law_a", "_law_b", "_law_key"]
theorem sc_law_exact : FnScope N_law_exact ["_law_mine", "_law_theirs"] (defScope (top 37)) := ⟨rfl, rfl, rfl, by decide +kernel, rfl, by decide +kernel, by decide +kernel⟩
def W_law_exact (R : FnD) : TDS := (tSeqD (tIfD (tTst (tCall isinD (tConsA (tVarK 0) (tConsA (tTupD (tConsA (tCD (.ty "list")) (tConsA (tCD (.ty "tuple")) tNilA))) tNilA)))) (tSeqD (tSetD 2 (tAndVD (t2 eqD (tCall isinD (tConsA (tVarK 1) (tConsA (tCD (.ty "list")) tNilA))) (tCall isinD (tConsA (tVarK 0) (tConsA (tCD (.ty "list")) tNilA)))) (t2 eqD (tCall isinD (tConsA (tVarK 1) (tConsA (tCD (.ty "tuple")) tNilA))) (tCall isinD (tConsA (tVarK 0) (tConsA (tCD (.ty "tuple")) tNilA)))))) (tRetD (tAndVD (tVarD 2) (tAndVD (t2 eqD (tCall lenD (tConsA (tVarK 0) tNilA)) (tCall lenD (tConsA (tVarK 1) tNilA))) (tCall allD (tConsA (tLcD (tZipA (tVarK 0) (tVarK 1)) (.tp [3, 4]) tYesD (tFn R [] (tConsA (tVarD 3) (tConsA (tVarD 4) tNilA))) [3, 4]) tNilA)))))) tNextD) (tSeqD (tIfD (tTst (tCall isinD (tConsA (tVarK 0) (tConsA (tCD (.ty "dict")) tNilA)))) (tSeqD (tSetD 2 (tAndVD (tCall isinD (tConsA (tVarK 1) (tConsA (tCD (.ty "dict")) tNilA))) (tFn R [] (tConsA (tCall listE (tConsA (tVarK 0) tNilA)) (tConsA (tCall listE (tConsA (tVarK 1) tNilA)) tNilA))))) (tRetD (tAndVD (tVarD 2) (tCall allD (tConsA (tLcD (tItL (tVarK 0)) (.nm 5) tYesD (tFn R [] (tConsA (t2 ixE (tVarK 0) (tVarK 5)) (tConsA (t2 ixE (tVarK 1) (tVarK 5)) tNilA))) [5]) tNilA))))) tNextD) (tRetD (tAndVD (t2 eqD (tCall isinD (tConsA (tVarK 0) (tConsA (tCD (.ty "bool")) tNilA))) (tCall isinD (tConsA (tVarK 1) (tConsA (tCD (.ty "bool")) tNilA)))) (t2 eqD (tVarK 0) (tVarK 1))))))
def R_law_exact : Nat → FnD
  | 0 => runD 6 [true, false] false tNeverD
  | n + 1 => runD 6 [true, false] false (W_law_exact (R_law_exact n))
theorem okr_law_exact (T : Fx K mg cls tk C_Shelf) : ∀ n, ∃ (a : Addr) (fd : FuncData), mg "_law_exact" = some (.ref a) ∧ FunD K "_law_exact" "_law_exact" (defArgs (top 37)) (defBody (top 37)) (defScope (top 37)) [] [] a fd ∧ FnOk P w K mg base CX0 (n + 1) a fd ["_law_mine", "_law_theirs"] (spD ⟨K, cls, none⟩ [true, false] false (R_law_exact n)) := by
  intro n
  induction n with
  | zero =>
    obtain ⟨a, fd, hm, D⟩ := T.d_law_exact
    exact ⟨a, fd, hm, D, FnOk.mono (fn_ok (k := 0) D sc_law_exact rfl (by decide) (fun cdv A outer s H E hr => pssd_never)) (by omega)⟩
  | succ n rec =>
    have ih : FnAt P w K mg base ⟨K, cls, none⟩ "_law_exact" (n + 1) [true, false] false [] (R_law_exact n) := by
      obtain ⟨a, fd, hm, D, G⟩ := rec
      exact ⟨a, fd, ["_law_mine", "_law_theirs"], [], [], hm, D.kp, G, D.bindsN fun _ _ _ _ _ _ us hl => match us, hl with | [_, _], _ => rfl, .nil, fun _ _ => Reps.nil⟩
    obtain ⟨a, fd, hm, D⟩ := T.d_law_exact
    refine ⟨a, fd, hm, D, FnOk.mono (fn_ok (k := n + 1) D sc_law_exact rfl (by decide) (fun cdv A outer s H E hr => ?_)) (by omega)⟩
    have S := sc_law_exact
    exact (pssd_cons (psd_if (ptd_val (PD.pk (pd_callB op_isin (k_isin T.wok) rfl T.f_isinstance (by kernel_rfl) (pak_cons (pk_var (pv 0)) (pak_cons (PD.pk (pd_tup (pad_cons (pd_ty rfl T.f_list (by kernel_rfl)) (pad_cons (pd_ty rfl T.f_tuple (by kernel_rfl)) pad_nil)))) pak_nil))))) (pssd_cons (psd_set (i := 2) S.nd rfl (Or.inl rfl) (pd_and (pd_cmp (op_eqD hr.units) k_eqD (PD.pk (pd_callB op_isin (k_isin T.wok) rfl T.f_isinstance (by kernel_rfl) (pak_cons (pk_var (pv 1)) (pak_cons (PD.pk (pd_ty rfl T.f_list (by kernel_rfl))) pak_nil)))) (PD.pk (pd_callB op_isin (k_isin T.wok) rfl T.f_isinstance (by kernel_rfl) (pak_cons (pk_var (pv 0)) (pak_cons (PD.pk (pd_ty rfl T.f_list (by kernel_rfl))) pak_nil)))) (nomark _)) (pd_one (pd_cmp (op_eqD hr.units) k_eqD (PD.pk (pd_callB op_isin (k_isin T.wok) rfl T.f_isinstance (by kernel_rfl) (pak_cons (pk_var (pv 1)) (pak_cons (PD.pk (pd_ty rfl T.f_tuple (by kernel_rfl))) pak_nil)))) (PD.pk (pd_callB op_isin (k_isin T.wok) rfl T.f_isinstance (by kernel_rfl) (pak_cons (pk_var (pv 0)) (pak_cons (PD.pk (pd_ty rfl T.f_tuple (by kernel_rfl))) pak_nil)))) (nomark _)))))
    (pssd_one (psd_ret (pd_and (pd_var (pv 2)) (pd_and (pd_cmp (op_eqD hr.units) k_eqD (PD.pk (pd_callB call_len k_len rfl T.f_len (by kernel_rfl) (pak_cons (pk_var (pv 0)) pak_nil))) (PD.pk (pd_callB call_len k_len rfl T.f_len (by kernel_rfl) (pak_cons (pk_var (pv 1)) pak_nil))) (nomark _)) (pd_one (pd_callB (cr_all rfl) k_all rfl T.f_all (by kernel_rfl) (pak_cons (PD.pk (PFD.pd (pf_lc (own := [("_law_a", 3), ("_law_b", 4)]) (g := (.tp [3, 4])) rfl rfl S.nd (pi_zipB rfl rfl T.f_zip (pk_var (pv 0)) (pk_var (pv 1))) (blkOk_by (N := N_law_exact) (own := [("_law_a", 3), ("_law_b", 4)]) (sc := defScope (top 37)) (by decide +kernel)) (fun _ _ _ _ _ => (pg_tup rfl (pgs_cons (pg_name (i := 3) S.nd rfl (Or.inl rfl)) (pgs_cons (pg_name (i := 4) S.nd rfl (Or.inl rfl)) pgs_nil)))) (by decide) (fun _ _ _ _ _ => ptsd_nil) (fun _ _ _ _ _ => (pd_call (ms1 := [true, false]) (dd := []) ih (hr.mono (by omega)) rfl (pam_sk (pd_var (pv 3)) (pam_sh (pd_var (pv 4)) pam_nil))))))) pak_nil))))))))
    pssd_nil)
    (pssd_cons (psd_if (ptd_val (PD.pk (pd_callB op_isin (k_isin T.wok) rfl T.f_isinstance (by kernel_rfl) (pak_cons (pk_var (pv 0)) (pak_cons (PD.pk (pd_ty rfl T.f_dict (by kernel_rfl))) pak_nil))))) (pssd_cons (psd_set (i := 2) S.nd rfl (Or.inl rfl) (pd_and (pd_callB op_isin (k_isin T.wok) rfl T.f_isinstance (by kernel_rfl) (pak_cons (pk_var (pv 1)) (pak_cons (PD.pk (pd_ty rfl T.f_dict (by kernel_rfl))) pak_nil))) (pd_one (pd_call (ms1 := [true, false]) (dd := []) ih (hr.mono (by omega)) rfl (pam_sk (PFD.pd (pf_callT (call_listE rfl) k_listE rfl T.f_list (by kernel_rfl) (pak_cons (pk_var (pv 0)) pak_nil))) (pam_sh (PFD.pd (pf_callT (call_listE rfl) k_listE rfl T.f_list (by kernel_rfl) (pak_cons (pk_var (pv 1)) pak_nil))) pam_nil))))))
    (pssd_one (psd_ret (pd_and (pd_var (pv 2)) (pd_one (pd_callB (cr_all rfl) k_all rfl T.f_all (by kernel_rfl) (pak_cons (PD.pk (PFD.pd (pf_lc (own := [("_law_key", 5)]) (g := (.nm 5)) rfl rfl S.nd (pi_lstD rfl (pk_var (pv 0))) (blkOk_by (N := N_law_exact) (own := [("_law_key", 5)]) (sc := defScope (top 37)) (by decide +kernel)) (fun _ _ _ _ _ => (pg_name (i := 5) S.nd rfl (Or.inl rfl))) (by decide) (fun _ _ _ _ _ => ptsd_nil) (fun _ _ _ _ _ => (pd_call (ms1 := [true, false]) (dd := []) ih (hr.mono (by omega)) rfl (pam_sk (pd_ix (ix_or ix_seq (ix_dict (u1 hr))) k_ixE (pk_var (pv 0)) (pk_var (pv 5)) (fun _ _ => rfl)) (pam_sh (pd_ix (ix_or ix_seq (ix_dict (u1 hr))) k_ixE (pk_var (pv 1)) (pk_var (pv 5)) (fun _ _ => rfl)) pam_nil))))))) pak_nil)))))))
    pssd_nil)
    (pssd_one (psd_ret (pd_and (pd_cmp (op_eqD hr.units) k_eqD (PD.pk (pd_callB op_isin (k_isin T.wok) rfl T.f_isinstance (by kernel_rfl) (pak_cons (pk_var (pv 0)) (pak_cons (PD.pk (pd_ty rfl T.f_bool (by kernel_rfl))) pak_nil)))) (PD.pk (pd_callB op_isin (k_isin T.wok) rfl T.f_isinstance (by kernel_rfl) (pak_cons (pk_var (pv 1)) (pak_cons (PD.pk (pd_ty rfl T.f_bool (by kernel_rfl))) pak_nil)))) (nomark _)) (pd_one (pd_cmp (op_eqD hr.units) k_eqD (pk_var (pv 0)) (pk_var (pv 1)) (nomark _))))))))
noncomputable def F_law_exact : FnD := sealD (R_law_exact 8)
theorem F_law_exact_eq : F_law_exact = R_law_exact 8 := sealD_eq _
theorem ok_law_exact (T : Fx K mg cls tk C_Shelf) : ∃ (a : Addr) (fd : FuncData), mg "_law_exact" = some (.ref a) ∧ FunD K "_law_exact" "_law_exact" (defArgs (top 37)) (defBody (top 37)) (defScope (top 37)) [] [] a fd ∧ FnOk P w K mg base CX0 9 a fd ["_law_mine", "_law_theirs"] (spD ⟨K, cls, none⟩ [true, false] false F_law_exact) := by rw [F_law_exact_eq]; exact okr_law_exact T 8
theorem at_law_exact (T : Fx K mg cls tk C_Shelf) : FnAt P w K mg base ⟨K, cls, none⟩ "_law_exact" 9 [true, false] false [] F_law_exact := by
  obtain ⟨a, fd, hm, D, G⟩ := ok_law_exact T
  exact ⟨a, fd, ["_law_mine", "_law_theirs"], [], [], hm, D.kp, G, D.bindsN fun _ _ _ _ _ _ us hl => match us, hl with | [_, _], _ => rfl, .nil, fun _ _ => Reps.nil⟩
def N_law_word : List Str := ["_law_purse_here", "_law_size", "_law_turn_here"]
theorem sc_law_word : FnScope N_law_word ["_law_purse_here"] (defScope (top 38)) := ⟨rfl, rfl, rfl, by decide +kernel, rfl, by decide +kernel, by decide +kernel⟩
def W_law_word : TDS := (tSeqD (tSetD 1 (t2 addD (tCD (.int 1)) (tFn F_law_draw [] (tConsA (tVarD 0) (tConsA (tIfE (tTst (t2 eqD (tFn F_law_draw [] (tConsA (tVarD 0) (tConsA (tCD (.int 3)) tNilA))) (tCD (.int 0)))) (tCD (.int 8)) (tCD (.int 3))) tNilA))))) (tRetD (tMet joinD isStrB (tCD (.str "")) (tConsA (tLcD (tRng1 (tVarK 1)) (.nm 2) tYesD (t2 ixE (tCD (.str "abcdefghijklmnopqrstuvwxyz")) (tFn F_law_draw [] (tConsA (tVarD 0) (tConsA (tCD (.int 26)) tNilA)))) [2]) tNilA))))
noncomputable def F_law_word : FnD := sealD (runD 3 [false] false W_law_word)
theorem F_law_word_eq : F_law_word = runD 3 [false] false W_law_word := sealD_eq _
theorem ok_law_word (T : Fx K mg cls tk C_Shelf) : ∃ (a : Addr) (fd : FuncData), mg "_law_word" = some (.ref a) ∧ FunD K "_law_word" "_law_word" (defArgs (top 38)) (defBody (top 38)) (defScope (top 38)) [] [] a fd ∧ FnOk P w K mg base CX0 3 a fd ["_law_purse_here"] (spD ⟨K, cls, none⟩ [false] false F_law_word) := by
  rw [F_law_word_eq]
  obtain ⟨a, fd, hm, D⟩ := T.d_law_word
  refine ⟨a, fd, hm, D, fn_ok D sc_law_word rfl (by decide) (fun cdv A outer s H E hr => ?_)⟩
  have S := sc_law_word
  exact (pssd_cons (psd_set (i := 1) S.nd rfl (Or.inl rfl) (pd_op op_addD k_addD (PD.pk pd_int) (PD.pk (pd_call (ms1 := [false, false]) (dd := []) ((at_law_draw T)) (hr.mono (by decide)) rfl (pam_sh (pd_var (pv 0)) (pam_sh (pd_ifE (ptd_cmp (op_eqD hr.units) k_eqD (PD.pk (pd_call (ms1 := [false, false]) (dd := []) ((at_law_draw T)) (hr.mono (by decide)) rfl (pam_sh (pd_var (pv 0)) (pam_sh pd_int pam_nil)))) (PD.pk pd_int) (nomark _)) pd_int pd_int) pam_nil))))))
    (pssd_one (psd_ret (pd_join rfl (PD.pk pd_str) (PD.pk (PFD.pd (pf_lc (own := [("_law_turn_here", 2)]) (g := (.nm 2)) rfl rfl S.nd (pi_rng1 rfl T.f_range (pk_var (pv 1))) (blkOk_by (N := N_law_word) (own := [("_law_turn_here", 2)]) (sc := defScope (top 38)) (by decide +kernel)) (fun _ _ _ _ _ => (pg_name (i := 2) S.nd rfl (Or.inl rfl))) (by decide) (fun _ _ _ _ _ => ptsd_nil) (fun _ _ _ _ _ => (pd_ix (ix_or ix_seq (ix_dict (u1 hr))) k_ixE (PD.pk pd_str) (PD.pk (pd_call (ms1 := [false, false]) (dd := []) ((at_law_draw T)) (hr.mono (by decide)) rfl (pam_sh (pd_var (pv 0)) (pam_sh pd_int pam_nil)))) (fun _ _ => rfl))))))))))
theorem at_law_word (T : Fx K mg cls tk C_Shelf) : FnAt P w K mg base ⟨K, cls, none⟩ "_law_word" 3 [false] false [] F_law_word := by
  obtain ⟨a, fd, hm, D, G⟩ := ok_law_word T
  exact ⟨a, fd, ["_law_purse_here"], [], [], hm, D.kp, G, D.bindsN fun _ _ _ _ _ _ us hl => match us, hl with | [_], _ => rfl, .nil, fun _ _ => Reps.nil⟩
def N_law_words : List Str := ["_law_purse_here", "_law_many_here", "_law_base", "_law_near", "_law_spot", "_law_found", "_law_turn_here", "_law_word_here", "_law_letter"]
theorem sc_law_words : FnScope N_law_words ["_law_purse_here", "_law_many_here"] (defScope (top 39)) := ⟨rfl, rfl, rfl, by decide +kernel, rfl, by decide +kernel, by decide +kernel⟩
def W_law_words : TDS := (tSeqD (tParD false false 2 3 (tFn F_law_word [] (tConsA (tVarD 0) tNilA)) (t2 eqD (tFn F_law_draw [] (tConsA (tVarD 0) (tConsA (tCD (.int 3)) tNilA))) (tCD (.int 0)))) (tSeqD (tParD false true 4 5 (tFn F_law_draw [] (tConsA (tVarD 0) (tConsA (tCall lenD (tConsA (tVarK 2) tNilA)) tNilA))) (tLstD tNilA)) (tSeqD (tForD (tRng1 (tVarK 1)) (.nm 6) (tSeqD (tSetD 7 (t2 addD (t2 addD (tSlD slD (tVarK 2) tNoD (tPartD (tVarK 4))) (t2 ixE (tCD (.str "abcdefghijklmnopqrstuvwxyz")) (tFn F_law_draw [] (tConsA (tVarD 0) (tConsA (tCD (.int 26)) tNilA))))) (tSlD slD (tVarK 2) (tPartD (t2 addD (tVarK 4) (tCD (.int 1)))) tNoD))) (tSeqD (tIfD (tNotD (tTst (tVarK 3))) (tSetD 7 (tFn F_law_word [] (tConsA (tVarD 0) tNilA))) tNextD) (tSeqD (tIfD (tTst (t2 inE (tVarK 7) (tVarK 5))) (tSetD 7 (t2 ixE (tLcD (tItL (tCall listE (tConsA (tCD (.str "abcdefghijklmnopqrstuvwxyz")) tNilA))) (.nm 8) (tTst (t2 ninE (tVarK 8) (tVarK 5))) (tVarD 8) [8]) (tCD (.int 0)))) tNextD) (tMutD 5 appendM (tConsA (tVarD 7) tNilA)))))) (tFz [5] (tRetD (tVarD 5))))))
noncomputable def F_law_words : FnD := sealD (runD 9 [false, false] false W_law_words)
theorem F_law_words_eq : F_law_words = runD 9 [false, false] false W_law_words := sealD_eq _
theorem ok_law_words (T : Fx K mg cls tk C_Shelf) : ∃ (a : Addr) (fd : FuncData), mg "_law_words" = some (.ref a) ∧ FunD K "_law_words" "_law_words" (defArgs (top 39)) (defBody (top 39)) (defScope (top 39)) [] [] a fd ∧ FnOk P w K mg base CX0 4 a fd ["_law_purse_here", "_law_many_here"] (spD ⟨K, cls, none⟩ [false, false] false F_law_words) := by
  rw [F_law_words_eq]
  obtain ⟨a, fd, hm, D⟩ := T.d_law_words
  refine ⟨a, fd, hm, D, fn_ok D sc_law_words rfl (by decide) (fun cdv A outer s H E hr => ?_)⟩
  have S := sc_law_words
  exact (pssd_cons (psd_par (i := 2) (j := 3) rfl S.nd rfl rfl (by decide) rfl rfl (PD.pxd (pd_call (ms1 := [false]) (dd := []) ((at_law_word T)) (hr.mono (by decide)) rfl (pam_sh (pd_var (pv 0)) pam_nil))) (PD.pxd (pd_cmp (op_eqD hr.units) k_eqD (PD.pk (pd_call (ms1 := [false, false]) (dd := []) ((at_law_draw T)) (hr.mono (by decide)) rfl (pam_sh (pd_var (pv 0)) (pam_sh pd_int pam_nil)))) (PD.pk pd_int) (nomark _))) (by rfl))
    (pssd_cons (psd_parT rfl (pg_name (i := 4) S.nd rfl (Or.inl rfl)) (pg_name (i := 5) S.nd rfl (Or.inr rfl)) (PD.pxd (pd_call (ms1 := [false, false]) (dd := []) ((at_law_draw T)) (hr.mono (by decide)) rfl (pam_sh (pd_var (pv 0)) (pam_sh (pd_callB call_len k_len rfl T.f_len (by kernel_rfl) (pak_cons (pk_var (pv 2)) pak_nil)) pam_nil)))) (PFD.pxd (pf_lst pad_nil)))
    (pssd_cons (psd_for rfl PassesOwn.never rfl (pj_rng1 rfl T.f_range (pk_var (pv 1))) (pg_name (i := 6) S.nd rfl (Or.inl rfl))
    (pssd_cons (psd_set (i := 7) S.nd rfl (Or.inl rfl) (pd_op op_addD k_addD (PD.pk (pd_op op_addD k_addD (PD.pk (pd_slice op_slD k_slD (pk_var (pv 2)) pod_none (pod_some (pk_var (pv 4))))) (PD.pk (pd_ix (ix_or ix_seq (ix_dict (u1 hr))) k_ixE (PD.pk pd_str) (PD.pk (pd_call (ms1 := [false, false]) (dd := []) ((at_law_draw T)) (hr.mono (by decide)) rfl (pam_sh (pd_var (pv 0)) (pam_sh pd_int pam_nil)))) (fun _ _ => rfl))))) (PD.pk (pd_slice op_slD k_slD (pk_var (pv 2)) (pod_some (PD.pk (pd_op op_addD k_addD (pk_var (pv 4)) (PD.pk pd_int)))) pod_none))))
    (pssd_cons (psd_if (ptd_not (ptd_val (pk_var (pv 3)))) (pssd_one (psd_set (i := 7) S.nd rfl (Or.inl rfl) (pd_call (ms1 := [false]) (dd := []) ((at_law_word T)) (hr.mono (by decide)) rfl (pam_sh (pd_var (pv 0)) pam_nil))))
    pssd_nil)
    (pssd_cons (psd_if (ptd_cmp (op_inE (u65 hr)) k_inE (pk_var (pv 7)) (pk_var (pv 5)) (by rfl)) (pssd_one (psd_set (i := 7) S.nd rfl (Or.inl rfl) (pd_ix (ix_or ix_seq (ix_dict (u1 hr))) k_ixE (PD.pk (PFD.pd (pf_lc (own := [("_law_letter", 8)]) (g := (.nm 8)) rfl rfl S.nd (pi_lstD rfl (PD.pk (PFD.pd (pf_callT (call_listE rfl) k_listE rfl T.f_list (by kernel_rfl) (pak_cons (PD.pk pd_str) pak_nil))))) (blkOk_by (N := N_law_words) (own := [("_law_letter", 8)]) (sc := defScope (top 39)) (by decide +kernel)) (fun _ _ _ _ _ => (pg_name (i := 8) S.nd rfl (Or.inl rfl))) (by decide) (fun _ _ _ _ _ => (ptsd_one (ptd_cmp (op_ninE (u65 hr)) k_ninE (pk_var (pv 8)) (pk_var (pv 5)) (by rfl)))) (fun _ _ _ _ _ => (pd_var (pv 8)))))) (PD.pk pd_int) (fun _ _ => rfl))))
    pssd_nil)
    (pssd_one (psd_mut rfl k_append (pad_cons (pd_var (pv 7)) pad_nil) (fun _ h => pe_bm PySem.F.plainAttrs_list PySem.F.slot_list_append PySem.F.type_list_append mt_append (pv 5) h)))))))
    (pssd_one (psd_fz [5] (psd_ret (pd_var (pv 5))))))))
theorem at_law_words (T : Fx K mg cls tk C_Shelf) : FnAt P w K mg base ⟨K, cls, none⟩ "_law_words" 4 [false, false] false [] F_law_words := by
  obtain ⟨a, fd, hm, D, G⟩ := ok_law_words T
  exact ⟨a, fd, ["_law_purse_here", "_law_many_here"], [], [], hm, D.kp, G, D.bindsN fun _ _ _ _ _ _ us hl => match us, hl with | [_, _], _ => rfl, .nil, fun _ _ => Reps.nil⟩
def N_law_catalogue : List Str := ["_law_purse_here", "_law_many_here", "_law_words_here"]
theorem sc_law_catalogue : FnScope N_law_catalogue ["_law_purse_here", "_law_many_here"] (defScope (top 40)) := ⟨rfl, rfl, rfl, by decide +kernel, rfl, by decide +kernel, by decide +kernel⟩
def W_law_catalogue : TDS := (tSeqD (tSetD 2 (tFn F_law_words [] (tConsA (tVarD 0) (tConsA (tVarD 1) tNilA)))) (tRetD (tIfE (tTst (t2 eqD (tFn F_law_draw [] (tConsA (tVarD 0) (tConsA (tCD (.int 2)) tNilA))) (tCD (.int 0)))) (tCall sortGD (tConsA (tVarK 2) tNilA)) (tFn F_law_shuffled [] (tConsA (tVarD 0) (tConsA (tVarD 2) tNilA))))))
noncomputable def F_law_catalogue : FnD := sealD (runD 3 [false, false] false W_law_catalogue)
theorem F_law_catalogue_eq : F_law_catalogue = runD 3 [false, false] false W_law_catalogue := sealD_eq _
theorem ok_law_catalogue (T : Fx K mg cls tk C_Shelf) : ∃ (a : Addr) (fd : FuncData), mg "_law_catalogue" = some (.ref a) ∧ FunD K "_law_catalogue" "_law_catalogue" (defArgs (top 40)) (defBody (top 40)) (defScope (top 40)) [] [] a fd ∧ FnOk P w K mg base CX0 5 a fd ["_law_purse_here", "_law_many_here"] (spD ⟨K, cls, none⟩ [false, false] false F_law_catalogue) := by
  rw [F_law_catalogue_eq]
  obtain ⟨a, fd, hm, D⟩ := T.d_law_catalogue
  refine ⟨a, fd, hm, D, fn_ok D sc_law_catalogue rfl (by decide) (fun cdv A outer s H E hr => ?_)⟩
  have S := sc_law_catalogue
  exact (pssd_cons (psd_set (i := 2) S.nd rfl (Or.inl rfl) (pd_call (ms1 := [false, false]) (dd := []) ((at_law_words T)) (hr.mono (by decide)) rfl (pam_sh (pd_var (pv 0)) (pam_sh (pd_var (pv 1)) pam_nil))))
    (pssd_one (psd_ret (pd_ifE (ptd_cmp (op_eqD hr.units) k_eqD (PD.pk (pd_call (ms1 := [false, false]) (dd := []) ((at_law_draw T)) (hr.mono (by decide)) rfl (pam_sh (pd_var (pv 0)) (pam_sh pd_int pam_nil)))) (PD.pk pd_int) (nomark _)) (PFD.pd (pf_callB (cr_sortG hr.units) k_sortG rfl T.f_sorted (by kernel_rfl) (pak_cons (pk_var (pv 2)) pak_nil))) (pd_call (ms1 := [false, true]) (dd := []) ((at_law_shuffled T)) (hr.mono (by decide)) rfl (pam_sh (pd_var (pv 0)) (pam_sk (pd_var (pv 2)) pam_nil)))))))
theorem at_law_catalogue (T : Fx K mg cls tk C_Shelf) : FnAt P w K mg base ⟨K, cls, none⟩ "_law_catalogue" 5 [false, false] false [] F_law_catalogue := by
  obtain ⟨a, fd, hm, D, G⟩ := ok_law_catalogue T
  exact ⟨a, fd, ["_law_purse_here", "_law_many_here"], [], [], hm, D.kp, G, D.bindsN fun _ _ _ _ _ _ us hl => match us, hl with | [_, _], _ => rfl, .nil, fun _ _ => Reps.nil⟩
def N_law_sizes : List Str := ["_law_purse_here", "_law_size", "_law_many_here", "_law_sizes_here", "_law_turn_here", "_law_at"]
theorem sc_law_sizes : FnScope N_law_sizes ["_law_purse_here", "_law_size", "_law_many_here"] (defScope (top 41)) := ⟨rfl, rfl, rfl, by decide +kernel, rfl, by decide +kernel, by decide +kernel⟩
def W_law_sizes : TDS := (tSeqD (tSetO 3 (t2 repLD (tLstD (tConsA (tCD (.int 1)) tNilA)) (tVarK 2))) (tSeqD (tForD (tRng1 (t2 subD (tVarK 1) (tVarK 2))) (.nm 4) (tSeqD (tSetD 5 (tFn F_law_draw [] (tConsA (tVarD 0) (tConsA (tVarD 2) tNilA)))) (tSetIx 3 (tVarK 5) (t2 addD (t2 ixE (tVarK 3) (tVarK 5)) (tCD (.int 1)))))) (tFz [3] (tRetD (tVarD 3)))))
noncomputable def F_law_sizes : FnD := sealD (runD 6 [false, false, false] false W_law_sizes)
theorem F_law_sizes_eq : F_law_sizes = runD 6 [false, false, false] false W_law_sizes := sealD_eq _
theorem ok_law_sizes (T : Fx K mg cls tk C_Shelf) : ∃ (a : Addr) (fd : FuncData), mg "_law_sizes" = some (.ref a) ∧ FunD K "_law_sizes" "_law_sizes" (defArgs (top 41)) (defBody (top 41)) (defScope (top 41)) [] [] a fd ∧ FnOk P w K mg base CX0 3 a fd ["_law_purse_here", "_law_size", "_law_many_here"] (spD ⟨K, cls, none⟩ [false, false, false] false F_law_sizes) := by
  rw [F_law_sizes_eq]
  obtain ⟨a, fd, hm, D⟩ := T.d_law_sizes
  refine ⟨a, fd, hm, D, fn_ok D sc_law_sizes rfl (by decide) (fun cdv A outer s H E hr => ?_)⟩
  have S := sc_law_sizes
  exact (pssd_cons (psd_setO (i := 3) S.nd rfl (Or.inl rfl) (pf_op op_repR k_repLD (PD.pk (PFD.pd (pf_lst (pad_cons pd_int pad_nil)))) (pk_var (pv 2))))
    (pssd_cons (psd_for rfl PassesOwn.never rfl (pj_rng1 rfl T.f_range (PD.pk (pd_op op_sub k_intA (pk_var (pv 1)) (pk_var (pv 2))))) (pg_name (i := 4) S.nd rfl (Or.inl rfl))
    (pssd_cons (psd_set (i := 5) S.nd rfl (Or.inl rfl) (pd_call (ms1 := [false, false]) (dd := []) ((at_law_draw T)) (hr.mono (by decide)) rfl (pam_sh (pd_var (pv 0)) (pam_sh (pd_var (pv 2)) pam_nil))))
    (pssd_one (psd_setIx (pv 3) (pk_var (pv 5)) (pd_op op_addD k_addD (PD.pk (pd_ix (ix_or ix_seq (ix_dict (u1 hr))) k_ixE (pk_var (pv 3)) (pk_var (pv 5)) (fun _ _ => rfl))) (PD.pk pd_int))))))
    (pssd_one (psd_fz [3] (psd_ret (pd_var (pv 3)))))))
theorem at_law_sizes (T : Fx K mg cls tk C_Shelf) : FnAt P w K mg base ⟨K, cls, none⟩ "_law_sizes" 3 [false, false, false] false [] F_law_sizes := by
  obtain ⟨a, fd, hm, D, G⟩ := ok_law_sizes T
  exact ⟨a, fd, ["_law_purse_here", "_law_size", "_law_many_here"], [], [], hm, D.kp, G, D.bindsN fun _ _ _ _ _ _ us hl => match us, hl with | [_, _, _], _ => rfl, .nil, fun _ _ => Reps.nil⟩
def N_law_crossed_rows : List Str := ["_law_many_here"]
theorem sc_law_crossed_rows : FnScope N_law_crossed_rows ["_law_many_here"] (defScope (top 42)) := ⟨rfl, rfl, rfl, by decide +kernel, rfl, by decide +kernel, by decide +kernel⟩
def W_law_crossed_rows : TDS := (tSeqD (tIfD (tTst (t2 eqD (tVarK 0) (tCD (.int 4)))) (tRetD (tLstD (tConsA (tLstD (tConsA (tCD (.int 1)) (tConsA (tCD (.int 3)) (tConsA (tCD (.int 0)) (tConsA (tCD (.int 2)) tNilA))))) tNilA))) tNextD) (tSeqD (tIfD (tTst (t2 eqD (tVarK 0) (tCD (.int 5)))) (tRetD (tLstD (tConsA (tLstD (tConsA (tCD (.int 1)) (tConsA (tCD (.int 3)) (tConsA (tCD (.int 0)) (tConsA (tCD (.int 4)) (tConsA (tCD (.int 2)) tNilA)))))) (tConsA (tLstD (tConsA (tCD (.int 1)) (tConsA (tCD (.int 4)) (tConsA (tCD (.int 2)) (tConsA (tCD (.int 0)) (tConsA (tCD (.int 3)) tNilA)))))) (tConsA (tLstD (tConsA (tCD (.int 2)) (tConsA (tCD (.int 0)) (tConsA (tCD (.int 4)) (tConsA (tCD (.int 1)) (tConsA (tCD (.int 3)) tNilA)))))) tNilA))))) tNextD) (tRetD (tLstD (tConsA (tLstD (tConsA (tCD (.int 1)) (tConsA (tCD (.int 3)) (tConsA (tCD (.int 5)) (tConsA (tCD (.int 0)) (tConsA (tCD (.int 2)) (tConsA (tCD (.int 4)) tNilA))))))) (tConsA (tLstD (tConsA (tCD (.int 1)) (tConsA (tCD (.int 4)) (tConsA (tCD (.int 0)) (tConsA (tCD (.int 3)) (tConsA (tCD (.int 5)) (tConsA (tCD (.int 2)) tNilA))))))) (tConsA (tLstD (tConsA (tCD (.int 2)) (tConsA (tCD (.int 0)) (tConsA (tCD (.int 4)) (tConsA (tCD (.int 1)) (tConsA (tCD (.int 5)) (tConsA (tCD (.int 3)) tNilA))))))) tNilA)))))))
noncomputable def F_law_crossed_rows : FnD := sealD (runD 1 [false] false W_law_crossed_rows)
theorem F_law_crossed_rows_eq : F_law_crossed_rows = runD 1 [false] false W_law_crossed_rows := sealD_eq _
theorem ok_law_crossed_rows (T : Fx K mg cls tk C_Shelf) : ∃ (a : Addr) (fd : FuncData), mg "_law_crossed_rows" = some (.ref a) ∧ FunD K "_law_crossed_rows" "_law_crossed_rows" (defArgs (top 42)) (defBody (top 42)) (defScope (top 42)) [] [] a fd ∧ FnOk P w K mg base CX0 1 a fd ["_law_many_here"] (spD ⟨K, cls, none⟩ [false] false F_law_crossed_rows) := by
  rw [F_law_crossed_rows_eq]
  obtain ⟨a, fd, hm, D⟩ := T.d_law_crossed_rows
  refine ⟨a, fd, hm, D, fn_ok D sc_law_crossed_rows rfl (by decide) (fun cdv A outer s H E hr => ?_)⟩
  have S := sc_law_crossed_rows
  exact (pssd_cons (psd_if (ptd_cmp (op_eqD hr.units) k_eqD (pk_var (pv 0)) (PD.pk pd_int) (nomark _)) (pssd_one (psd_ret (PFD.pd (pf_lst (pad_cons (PFD.pd (pf_lst (pad_cons pd_int (pad_cons pd_int (pad_cons pd_int (pad_cons pd_int pad_nil)))))) pad_nil)))))
    pssd_nil)
    (pssd_cons (psd_if (ptd_cmp (op_eqD hr.units) k_eqD (pk_var (pv 0)) (PD.pk pd_int) (nomark _)) (pssd_one (psd_ret (PFD.pd (pf_lst (pad_cons (PFD.pd (pf_lst (pad_cons pd_int (pad_cons pd_int (pad_cons pd_int (pad_cons pd_int (pad_cons pd_int pad_nil))))))) (pad_cons (PFD.pd (pf_lst (pad_cons pd_int (pad_cons pd_int (pad_cons pd_int (pad_cons pd_int (pad_cons pd_int pad_nil))))))) (pad_cons (PFD.pd (pf_lst (pad_cons pd_int (pad_cons pd_int (pad_cons pd_int (pad_cons pd_int (pad_cons pd_int pad_nil))))))) pad_nil)))))))
    pssd_nil)
    (pssd_one (psd_ret (PFD.pd (pf_lst (pad_cons (PFD.pd (pf_lst (pad_cons pd_int (pad_cons pd_int (pad_cons pd_int (pad_cons pd_int (pad_cons pd_int (pad_cons pd_int pad_nil)))))))) (pad_cons (PFD.pd (pf_lst (pad_cons pd_int (pad_cons pd_int (pad_cons pd_int (pad_cons pd_int (pad_cons pd_int (pad_cons pd_int pad_nil)))))))) (pad_cons (PFD.pd (pf_lst (pad_cons pd_int (pad_cons pd_int (pad_cons pd_int (pad_cons pd_int (pad_cons pd_int (pad_cons pd_int pad_nil)))))))) pad_nil)))))))))
theorem at_law_crossed_rows (T : Fx K mg cls tk C_Shelf) : FnAt P w K mg base ⟨K, cls, none⟩ "_law_crossed_rows" 1 [false] false [] F_law_crossed_rows := by
  obtain ⟨a, fd, hm, D, G⟩ := ok_law_crossed_rows T
  exact ⟨a, fd, ["_law_many_here"], [], [], hm, D.kp, G, D.bindsN fun _ _ _ _ _ _ us hl => match us, hl with | [_], _ => rfl, .nil, fun _ _ => Reps.nil⟩
def N_law_heap_sizes : List Str := ["_law_purse_here", "_law_size", "_law_sizes_here", "_law_rest"]
theorem sc_law_heap_sizes : FnScope N_law_heap_sizes ["_law_purse_here", "_law_size"] (defScope (top 43)) := ⟨rfl, rfl, rfl, by decide +kernel, rfl, by decide +kernel, by decide +kernel⟩
def W_law_heap_sizes : TDS := (tSeqD (tSetO 2 (tLstD tNilA)) (tSeqD (tWhileD (tTst (t2 ltD (tCall sumD (tConsA (tVarK 2) tNilA)) (tVarK 1))) (tSeqD (tSetD 3 (t2 subD (tVarK 1) (tCall sumD (tConsA (tVarK 2) tNilA)))) (tIfD (tAndD (tTst (t2 gtD (tVarK 3) (tCD (.int 4)))) (tTst (t2 eqD (tFn F_law_draw [] (tConsA (tVarD 0) (tConsA (tCD (.int 3)) tNilA))) (tCD (.int 0))))) (tMutD 2 appendM (tConsA (t2 addD (tCD (.int 4)) (tFn F_law_draw [] (tConsA (tVarD 0) (tConsA (tCall minD (tConsA (tCD (.int 3)) (tConsA (t2 subD (tVarK 3) (tCD (.int 4))) tNilA))) tNilA)))) tNilA)) (tIfD (tAndD (tTst (t2 gtD (tVarK 3) (tCD (.int 3)))) (tAndD (tTst (t2 neD (tVarK 2) (tLstD tNilA))) (tTst (t2 eqD (tFn F_law_draw [] (tConsA (tVarD 0) (tConsA (tCD (.int 3)) tNilA))) (tCD (.int 0)))))) (tMutD 2 appendM (tConsA (t2 addD (tCD (.int 4)) (tFn F_law_draw [] (tConsA (tVarD 0) (tConsA (t2 subD (tVarK 3) (tCD (.int 3))) tNilA)))) tNilA)) (tMutD 2 appendM (tConsA (tCD (.int 1)) tNilA)))))) (tFz [2] (tRetD (tVarD 2)))))
noncomputable def F_law_heap_sizes : FnD := sealD (runD 4 [false, false] false W_law_heap_sizes)
theorem F_law_heap_sizes_eq : F_law_heap_sizes = runD 4 [false, false] false W_law_heap_sizes := sealD_eq _
theorem ok_law_heap_sizes (T : Fx K mg cls tk C_Shelf) : ∃ (a : Addr) (fd : FuncData), mg "_law_heap_sizes" = some (.ref a) ∧ FunD K "_law_heap_sizes" "_law_heap_sizes" (defArgs (top 43)) (defBody (top 43)) (defScope (top 43)) [] [] a fd ∧ FnOk P w K mg base CX0 3 a fd ["_law_purse_here", "_law_size"] (spD ⟨K, cls, none⟩ [false, false] false F_law_heap_sizes) := by
  rw [F_law_heap_sizes_eq]
  obtain ⟨a, fd, hm, D⟩ := T.d_law_heap_sizes
  refine ⟨a, fd, hm, D, fn_ok D sc_law_heap_sizes rfl (by decide) (fun cdv A outer s H E hr => ?_)⟩
  have S := sc_law_heap_sizes
  exact (pssd_cons (psd_setO (i := 2) S.nd rfl (Or.inl rfl) (pf_lst pad_nil))
    (pssd_cons (psd_while PassesOwn.never (ptd_cmp op_ltD k_ltD (PD.pk (pd_callB (cr_sum rfl) k_sum rfl T.f_sum (by kernel_rfl) (pak_cons (pk_var (pv 2)) pak_nil))) (pk_var (pv 1)) (nomark _)) (pssd_cons (psd_set (i := 3) S.nd rfl (Or.inl rfl) (pd_op op_sub k_intA (pk_var (pv 1)) (PD.pk (pd_callB (cr_sum rfl) k_sum rfl T.f_sum (by kernel_rfl) (pak_cons (pk_var (pv 2)) pak_nil)))))
    (pssd_one (psd_if (PWD.pt (pwd_and (ptd_cmp op_gt k_cmpA (pk_var (pv 3)) (PD.pk pd_int) (nomark _)) (pwd_and1 (ptd_cmp (op_eqD hr.units) k_eqD (PD.pk (pd_call (ms1 := [false, false]) (dd := []) ((at_law_draw T)) (hr.mono (by decide)) rfl (pam_sh (pd_var (pv 0)) (pam_sh pd_int pam_nil)))) (PD.pk pd_int) (nomark _))))) (pssd_one (psd_mut rfl k_append (pad_cons (pd_op op_addD k_addD (PD.pk pd_int) (PD.pk (pd_call (ms1 := [false, false]) (dd := []) ((at_law_draw T)) (hr.mono (by decide)) rfl (pam_sh (pd_var (pv 0)) (pam_sh (pd_callB (op_minD rfl) k_min rfl T.f_min (by kernel_rfl) (pak_cons (PD.pk pd_int) (pak_cons (PD.pk (pd_op op_sub k_intA (pk_var (pv 3)) (PD.pk pd_int))) pak_nil))) pam_nil))))) pad_nil) (fun _ h => pe_bm PySem.F.plainAttrs_list PySem.F.slot_list_append PySem.F.type_list_append mt_append (pv 2) h)))
    (pssd_one (psd_if (PWD.pt (pwd_and (ptd_cmp op_gt k_cmpA (pk_var (pv 3)) (PD.pk pd_int) (nomark _)) (pwd_and (ptd_cmp (op_neD hr.units) k_neD (pk_var (pv 2)) (PD.pk (PFD.pd (pf_lst pad_nil))) (nomark _)) (pwd_and1 (ptd_cmp (op_eqD hr.units) k_eqD (PD.pk (pd_call (ms1 := [false, false]) (dd := []) ((at_law_draw T)) (hr.mono (by decide)) rfl (pam_sh (pd_var (pv 0)) (pam_sh pd_int pam_nil)))) (PD.pk pd_int) (nomark _)))))) (pssd_one (psd_mut rfl k_append (pad_cons (pd_op op_addD k_addD (PD.pk pd_int) (PD.pk (pd_call (ms1 := [false, false]) (dd := []) ((at_law_draw T)) (hr.mono (by decide)) rfl (pam_sh (pd_var (pv 0)) (pam_sh (pd_op op_sub k_intA (pk_var (pv 3)) (PD.pk pd_int)) pam_nil))))) pad_nil) (fun _ h => pe_bm PySem.F.plainAttrs_list PySem.F.slot_list_append PySem.F.type_list_append mt_append (pv 2) h)))
    (pssd_one (psd_mut rfl k_append (pad_cons pd_int pad_nil) (fun _ h => pe_bm PySem.F.plainAttrs_list PySem.F.slot_list_append PySem.F.type_list_append mt_append (pv 2) h)))))))))
    (pssd_one (psd_fz [2] (psd_ret (pd_var (pv 2)))))))
theorem at_law_heap_sizes (T : Fx K mg cls tk C_Shelf) : FnAt P w K mg base ⟨K, cls, none⟩ "_law_heap_sizes" 3 [false, false] false [] F_law_heap_sizes := by
  obtain ⟨a, fd, hm, D, G⟩ := ok_law_heap_sizes T
  exact ⟨a, fd, ["_law_purse_here", "_law_size"], [], [], hm, D.kp, G, D.bindsN fun _ _ _ _ _ _ us hl => match us, hl with | [_, _], _ => rfl, .nil, fun _ _ => Reps.nil⟩
def N_law_nodes : List Str := ["_law_purse_here", "_law_size", "_law_nodes_here", "_law_at", "_law_kind", "_law_start", "_law_many_here", "_law_parts", "_law_numbers", "_law_is_crossed", "_law_sizes_here", "_law_piece"]
theorem sc_law_nodes : FnScope N_law_nodes ["_law_purse_here", "_law_size"] (defScope (top 44)) := ⟨rfl, rfl, rfl, by decide +kernel, rfl, by decide +kernel, by decide +kernel⟩
def W_law_nodes : TDS := (tSeqD (tParD true false 2 3 (tLstD (tConsA (tLstD (tConsA (tCD (.str "any")) (tConsA (tCD (.int 0)) (tConsA (tVarD 1) (tConsA (tLstD tNilA) (tConsA (tLstD tNilA) tNilA)))))) tNilA)) (tCD (.int 0))) (tSeqD (tWhileD (tTst (t2 ltD (tVarK 3) (tCall lenD (tConsA (tVarK 2) tNilA)))) (tSeqD (tAsgD (t2 ixE (tVarK 2) (tVarK 3)) (.ls [4, 5, 6, 7, 8])) (tSeqD (tSetD 9 (tOrVD (t2 eqD (tVarK 4) (tCD (.str "crossed"))) (tAndVD (t2 eqD (tVarK 4) (tCD (.str "any"))) (tAndVD (t2 gtD (tVarK 6) (tCD (.int 3))) (t2 eqD (tFn F_law_draw [] (tConsA (tVarD 0) (tConsA (tCD (.int 3)) tNilA))) (tCD (.int 0))))))) (tSeqD (tIfD (tTst (t2 gtD (tVarK 6) (tCD (.int 1)))) (tSeqD (tSetD 10 (tIfE (tTst (tVarK 9)) (tLstD tNilA) (tFn F_law_heap_sizes [] (tConsA (tVarD 0) (tConsA (tVarD 6) tNilA))))) (tSeqD (tIfD (tTst (tVarK 9)) (tSetD 10 (tFn F_law_sizes [] (tConsA (tVarD 0) (tConsA (tVarD 6) (tConsA (t2 addD (tCD (.int 4)) (tFn F_law_draw [] (tConsA (tVarD 0) (tConsA (tCall minD (tConsA (tCD (.int 3)) (tConsA (t2 subD (tVarK 6) (tCD (.int 3))) tNilA))) tNilA)))) tNilA))))) tNextD) (tSeqD (tSetD 8 (tLRg1 (tCall lenD (tConsA (tVarK 10) tNilA)))) (tSeqD (tIfD (tTst (tVarK 9)) (tSetD 8 (tFn F_law_one_of [] (tConsA (tVarD 0) (tConsA (tFn F_law_crossed_rows [] (tConsA (tCall lenD (tConsA (tVarK 10) tNilA)) tNilA)) tNilA)))) tNextD) (tSeqD (tForD (tItL (tVarD 10)) (.nm 11) (tSeqD (tSetD 7 (t2 addD (tVarK 7) (tLstD (tConsA (tCall lenD (tConsA (tVarK 2) tNilA)) tNilA)))) (tSeqD (tMutD 2 appendM (tConsA (tLstD (tConsA (tIfE (tTst (tVarK 9)) (tCD (.str "any")) (tIfE (tTst (t2 gtD (tVarK 11) (tCD (.int 1)))) (tCD (.str "crossed")) (tCD (.str "book")))) (tConsA (tVarD 5) (tConsA (tVarD 11) (tConsA (tLstD tNilA) (tConsA (tLstD tNilA) tNilA)))))) tNilA)) (tSetD 5 (t2 addD (tVarK 5) (tVarK 11)))))) (tSetIx 2 (tVarK 3) (tLstD (tConsA (tIfE (tTst (tVarK 9)) (tCD (.str "crossed")) (tCD (.str "heap"))) (tConsA (t2 ixE (t2 ixE (tVarK 2) (tVarK 3)) (tCD (.int 1))) (tConsA (tVarD 6) (tConsA (tVarD 7) (tConsA (tVarD 8) tNilA)))))))))))) tNextD) (tSetD 3 (t2 addD (tVarK 3) (tCD (.int 1)))))))) (tFz [2] (tRetD (tVarD 2)))))
noncomputable def F_law_nodes : FnD := sealD (runD 12 [false, false] false W_law_nodes)
theorem F_law_nodes_eq : F_law_nodes = runD 12 [false, false] false W_law_nodes := sealD_eq _
theorem ok_law_nodes (T : Fx K mg cls tk C_Shelf) : ∃ (a : Addr) (fd : FuncData), mg "_law_nodes" = some (.ref a) ∧ FunD K "_law_nodes" "_law_nodes" (defArgs (top 44)) (defBody (top 44)) (defScope (top 44)) [] [] a fd ∧ FnOk P w K mg base CX0 4 a fd ["_law_purse_here", "_law_size"] (spD ⟨K, cls, none⟩ [false, false] false F_law_nodes) := by
  rw [F_law_nodes_eq]
  obtain ⟨a, fd, hm, D⟩ := T.d_law_nodes
  refine ⟨a, fd, hm, D, fn_ok D sc_law_nodes rfl (by decide) (fun cdv A outer s H E hr => ?_)⟩
  have S := sc_law_nodes
  exact (pssd_cons (psd_par (i := 2) (j := 3) rfl S.nd rfl rfl (by decide) rfl rfl (PFD.pxd (pf_lst (pad_cons (PFD.pd (pf_lst (pad_cons pd_str (pad_cons pd_int (pad_cons (pd_var (pv 1)) (pad_cons (PFD.pd (pf_lst pad_nil)) (pad_cons (PFD.pd (pf_lst pad_nil)) pad_nil))))))) pad_nil))) (PD.pxd pd_int) (by rfl))
    (pssd_cons (psd_while PassesOwn.never (ptd_cmp op_ltD k_ltD (pk_var (pv 3)) (PD.pk (pd_callB call_len k_len rfl T.f_len (by kernel_rfl) (pak_cons (pk_var (pv 2)) pak_nil))) (nomark _)) (pssd_cons (psd_asg rfl (pd_ix (ix_or ix_seq (ix_dict (u1 hr))) k_ixE (pk_var (pv 2)) (pk_var (pv 3)) (fun _ _ => rfl)) (pg_unl rfl (pgs_cons (pg_name (i := 4) S.nd rfl (Or.inl rfl)) (pgs_cons (pg_name (i := 5) S.nd rfl (Or.inl rfl)) (pgs_cons (pg_name (i := 6) S.nd rfl (Or.inl rfl)) (pgs_cons (pg_name (i := 7) S.nd rfl (Or.inl rfl)) (pgs_cons (pg_name (i := 8) S.nd rfl (Or.inl rfl)) pgs_nil)))))))
    (pssd_cons (psd_set (i := 9) S.nd rfl (Or.inl rfl) (pd_or (pd_cmp (op_eqD hr.units) k_eqD (pk_var (pv 4)) (PD.pk pd_str) (nomark _)) (pd_one (pd_and (pd_cmp (op_eqD hr.units) k_eqD (pk_var (pv 4)) (PD.pk pd_str) (nomark _)) (pd_and (pd_cmp op_gt k_cmpA (pk_var (pv 6)) (PD.pk pd_int) (nomark _)) (pd_one (pd_cmp (op_eqD hr.units) k_eqD (PD.pk (pd_call (ms1 := [false, false]) (dd := []) ((at_law_draw T)) (hr.mono (by decide)) rfl (pam_sh (pd_var (pv 0)) (pam_sh pd_int pam_nil)))) (PD.pk pd_int) (nomark _))))))))
    (pssd_cons (psd_if (ptd_cmp op_gt k_cmpA (pk_var (pv 6)) (PD.pk pd_int) (nomark _)) (pssd_cons (psd_set (i := 10) S.nd rfl (Or.inl rfl) (pd_ifE (ptd_val (pk_var (pv 9))) (PFD.pd (pf_lst pad_nil)) (pd_call (ms1 := [false, false]) (dd := []) ((at_law_heap_sizes T)) (hr.mono (by decide)) rfl (pam_sh (pd_var (pv 0)) (pam_sh (pd_var (pv 6)) pam_nil)))))
    (pssd_cons (psd_if (ptd_val (pk_var (pv 9))) (pssd_one (psd_set (i := 10) S.nd rfl (Or.inl rfl) (pd_call (ms1 := [false, false, false]) (dd := []) ((at_law_sizes T)) (hr.mono (by decide)) rfl (pam_sh (pd_var (pv 0)) (pam_sh (pd_var (pv 6)) (pam_sh (pd_op op_addD k_addD (PD.pk pd_int) (PD.pk (pd_call (ms1 := [false, false]) (dd := []) ((at_law_draw T)) (hr.mono (by decide)) rfl (pam_sh (pd_var (pv 0)) (pam_sh (pd_callB (op_minD rfl) k_min rfl T.f_min (by kernel_rfl) (pak_cons (PD.pk pd_int) (pak_cons (PD.pk (pd_op op_sub k_intA (pk_var (pv 6)) (PD.pk pd_int))) pak_nil))) pam_nil))))) pam_nil))))))
    pssd_nil)
    (pssd_cons (psd_set (i := 8) S.nd rfl (Or.inl rfl) (PFD.pd (pf_lrg1 rfl rfl T.f_list rfl T.f_range (PD.pk (pd_callB call_len k_len rfl T.f_len (by kernel_rfl) (pak_cons (pk_var (pv 10)) pak_nil))))))
    (pssd_cons (psd_if (ptd_val (pk_var (pv 9))) (pssd_one (psd_set (i := 8) S.nd rfl (Or.inl rfl) (pd_call (ms1 := [false, false]) (dd := []) ((at_law_one_of T)) (hr.mono (by decide)) rfl (pam_sh (pd_var (pv 0)) (pam_sh (pd_call (ms1 := [false]) (dd := []) ((at_law_crossed_rows T)) (hr.mono (by decide)) rfl (pam_sh (pd_callB call_len k_len rfl T.f_len (by kernel_rfl) (pak_cons (pk_var (pv 10)) pak_nil)) pam_nil)) pam_nil)))))
    pssd_nil)
    (pssd_cons (psd_for rfl PassesOwn.never rfl (pj_lstD rfl (pd_var (pv 10))) (pg_name (i := 11) S.nd rfl (Or.inl rfl))
    (pssd_cons (psd_set (i := 7) S.nd rfl (Or.inl rfl) (pd_op op_addD k_addD (pk_var (pv 7)) (PD.pk (PFD.pd (pf_lst (pad_cons (pd_callB call_len k_len rfl T.f_len (by kernel_rfl) (pak_cons (pk_var (pv 2)) pak_nil)) pad_nil))))))
    (pssd_cons (psd_mut rfl k_append (pad_cons (PFD.pd (pf_lst (pad_cons (pd_ifE (ptd_val (pk_var (pv 9))) pd_str (pd_ifE (ptd_cmp op_gt k_cmpA (pk_var (pv 11)) (PD.pk pd_int) (nomark _)) pd_str pd_str)) (pad_cons (pd_var (pv 5)) (pad_cons (pd_var (pv 11)) (pad_cons (PFD.pd (pf_lst pad_nil)) (pad_cons (PFD.pd (pf_lst pad_nil)) pad_nil))))))) pad_nil) (fun _ h => pe_bm PySem.F.plainAttrs_list PySem.F.slot_list_append PySem.F.type_list_append mt_append (pv 2) h))
    (pssd_one (psd_set (i := 5) S.nd rfl (Or.inl rfl) (pd_op op_addD k_addD (pk_var (pv 5)) (pk_var (pv 11))))))))
    (pssd_one (psd_setIx (pv 2) (pk_var (pv 3)) (PFD.pd (pf_lst (pad_cons (pd_ifE (ptd_val (pk_var (pv 9))) pd_str pd_str) (pad_cons (pd_ix (ix_or ix_seq (ix_dict (u1 hr))) k_ixE (PD.pk (pd_ix (ix_or ix_seq (ix_dict (u1 hr))) k_ixE (pk_var (pv 2)) (pk_var (pv 3)) (fun _ _ => rfl))) (PD.pk pd_int) (fun _ _ => rfl)) (pad_cons (pd_var (pv 6)) (pad_cons (pd_var (pv 7)) (pad_cons (pd_var (pv 8)) pad_nil))))))))))))))
    pssd_nil)
    (pssd_one (psd_set (i := 3) S.nd rfl (Or.inl rfl) (pd_op op_addD k_addD (pk_var (pv 3)) (PD.pk pd_int))))))))
    (pssd_one (psd_fz [2] (psd_ret (pd_var (pv 2)))))))
theorem at_law_nodes (T : Fx K mg cls tk C_Shelf) : FnAt P w K mg base ⟨K, cls, none⟩ "_law_nodes" 4 [false, false] false [] F_law_nodes := by
  obtain ⟨a, fd, hm, D, G⟩ := ok_law_nodes T
  exact ⟨a, fd, ["_law_purse_here", "_law_size"], [], [], hm, D.kp, G, D.bindsN fun _ _ _ _ _ _ us hl => match us, hl with | [_, _], _ => rfl, .nil, fun _ _ => Reps.nil⟩
def N_law_home_row : List Str := ["_law_nodes_here", "_law_catalogue_here", "_law_row", "_law_at", "_law_kind", "_law_start", "_law_many_here", "_law_parts", "_law_numbers", "_law_number"]
theorem sc_law_home_row : FnScope N_law_home_row ["_law_nodes_here", "_law_catalogue_here"] (defScope (top 45)) := ⟨rfl, rfl, rfl, by decide +kernel, rfl, by decide +kernel, by decide +kernel⟩
def W_law_home_row : TDS := (tSeqD (tParD false false 2 3 (tLstD (tConsA (tCD (.int 0)) tNilA)) (tCD (.int 0))) (tSeqD (tWhileD (tTst (t2 ltD (tVarK 3) (tCall lenD (tConsA (tVarK 2) tNilA)))) (tSeqD (tAsgD (t2 ixE (tVarK 0) (t2 ixE (tVarK 2) (tVarK 3))) (.ls [4, 5, 6, 7, 8])) (tIfD (tTst (t2 eqD (tVarK 7) (tLstD tNilA))) (tSetD 3 (t2 addD (tVarK 3) (tCD (.int 1)))) (tSetD 2 (t2 addD (t2 addD (tSlD slD (tVarK 2) tNoD (tPartD (tVarK 3))) (tLcD (tItL (tVarK 8)) (.nm 9) tYesD (t2 ixE (tVarK 7) (tVarK 9)) [9])) (tSlD slD (tVarK 2) (tPartD (t2 addD (tVarK 3) (tCD (.int 1)))) tNoD)))))) (tRetD (tLcD (tItL (tVarK 2)) (.nm 9) tYesD (t2 ixE (tVarK 1) (t2 ixE (t2 ixE (tVarK 0) (tVarK 9)) (tCD (.int 1)))) [9]))))
noncomputable def F_law_home_row : FnD := sealD (runD 10 [false, false] false W_law_home_row)
theorem F_law_home_row_eq : F_law_home_row = runD 10 [false, false] false W_law_home_row := sealD_eq _
theorem ok_law_home_row (T : Fx K mg cls tk C_Shelf) : ∃ (a : Addr) (fd : FuncData), mg "_law_home_row" = some (.ref a) ∧ FunD K "_law_home_row" "_law_home_row" (defArgs (top 45)) (defBody (top 45)) (defScope (top 45)) [] [] a fd ∧ FnOk P w K mg base CX0 1 a fd ["_law_nodes_here", "_law_catalogue_here"] (spD ⟨K, cls, none⟩ [false, false] false F_law_home_row) := by
  rw [F_law_home_row_eq]
  obtain ⟨a, fd, hm, D⟩ := T.d_law_home_row
  refine ⟨a, fd, hm, D, fn_ok D sc_law_home_row rfl (by decide) (fun cdv A outer s H E hr => ?_)⟩
  have S := sc_law_home_row
  exact (pssd_cons (psd_par (i := 2) (j := 3) rfl S.nd rfl rfl (by decide) rfl rfl (PD.pxd (PFD.pd (pf_lst (pad_cons pd_int pad_nil)))) (PD.pxd pd_int) (by rfl))
    (pssd_cons (psd_while PassesOwn.never (ptd_cmp op_ltD k_ltD (pk_var (pv 3)) (PD.pk (pd_callB call_len k_len rfl T.f_len (by kernel_rfl) (pak_cons (pk_var (pv 2)) pak_nil))) (nomark _)) (pssd_cons (psd_asg rfl (pd_ix (ix_or ix_seq (ix_dict (u1 hr))) k_ixE (pk_var (pv 0)) (PD.pk (pd_ix (ix_or ix_seq (ix_dict (u1 hr))) k_ixE (pk_var (pv 2)) (pk_var (pv 3)) (fun _ _ => rfl))) (fun _ _ => rfl)) (pg_unl rfl (pgs_cons (pg_name (i := 4) S.nd rfl (Or.inl rfl)) (pgs_cons (pg_name (i := 5) S.nd rfl (Or.inl rfl)) (pgs_cons (pg_name (i := 6) S.nd rfl (Or.inl rfl)) (pgs_cons (pg_name (i := 7) S.nd rfl (Or.inr rfl)) (pgs_cons (pg_name (i := 8) S.nd rfl (Or.inl rfl)) pgs_nil)))))))
    (pssd_one (psd_if (ptd_cmp (op_eqD hr.units) k_eqD (pk_var (pv 7)) (PD.pk (PFD.pd (pf_lst pad_nil))) (nomark _)) (pssd_one (psd_set (i := 3) S.nd rfl (Or.inl rfl) (pd_op op_addD k_addD (pk_var (pv 3)) (PD.pk pd_int))))
    (pssd_one (psd_set (i := 2) S.nd rfl (Or.inl rfl) (pd_op op_addD k_addD (PD.pk (pd_op op_addD k_addD (PD.pk (pd_slice op_slD k_slD (pk_var (pv 2)) pod_none (pod_some (pk_var (pv 3))))) (PD.pk (PFD.pd (pf_lc (own := [("_law_number", 9)]) (g := (.nm 9)) rfl rfl S.nd (pi_lstD rfl (pk_var (pv 8))) (blkOk_by (N := N_law_home_row) (own := [("_law_number", 9)]) (sc := defScope (top 45)) (by decide +kernel)) (fun _ _ _ _ _ => (pg_name (i := 9) S.nd rfl (Or.inl rfl))) (by decide) (fun _ _ _ _ _ => ptsd_nil) (fun _ _ _ _ _ => (pd_ix (ix_or ix_seq (ix_dict (u1 hr))) k_ixE (pk_var (pv 7)) (pk_var (pv 9)) (fun _ _ => rfl)))))))) (PD.pk (pd_slice op_slD k_slD (pk_var (pv 2)) (pod_some (PD.pk (pd_op op_addD k_addD (pk_var (pv 3)) (PD.pk pd_int)))) pod_none)))))))))
    (pssd_one (psd_ret (PFD.pd (pf_lc (own := [("_law_number", 9)]) (g := (.nm 9)) rfl rfl S.nd (pi_lstD rfl (pk_var (pv 2))) (blkOk_by (N := N_law_home_row) (own := [("_law_number", 9)]) (sc := defScope (top 45)) (by decide +kernel)) (fun _ _ _ _ _ => (pg_name (i := 9) S.nd rfl (Or.inl rfl))) (by decide) (fun _ _ _ _ _ => ptsd_nil) (fun _ _ _ _ _ => (pd_ix (ix_or ix_seq (ix_dict (u1 hr))) k_ixE (pk_var (pv 1)) (PD.pk (pd_ix (ix_or ix_seq (ix_dict (u1 hr))) k_ixE (PD.pk (pd_ix (ix_or ix_seq (ix_dict (u1 hr))) k_ixE (pk_var (pv 0)) (pk_var (pv 9)) (fun _ _ => rfl))) (PD.pk pd_int) (fun _ _ => rfl))) (fun _ _ => rfl)))))))))
theorem at_law_home_row (T : Fx K mg cls tk C_Shelf) : FnAt P w K mg base ⟨K, cls, none⟩ "_law_home_row" 1 [false, false] false [] F_law_home_row := by
  obtain ⟨a, fd, hm, D, G⟩ := ok_law_home_row T
  exact ⟨a, fd, ["_law_nodes_here", "_law_catalogue_here"], [], [], hm, D.kp, G, D.bindsN fun _ _ _ _ _ _ us hl => match us, hl with | [_, _], _ => rfl, .nil, fun _ _ => Reps.nil⟩
def N_law_turnables : List Str := ["_law_nodes_here", "_law_catalogue_here", "_law_found", "_law_kind", "_law_start", "_law_many_here", "_law_parts", "_law_numbers", "_law_first", "_law_last", "_law_begin", "_law_late", "_law_end"]
theorem sc_law_turnables : FnScope N_law_turnables ["_law_nodes_here", "_law_catalogue_here"] (defScope (top 46)) := ⟨rfl, rfl, rfl, by decide +kernel, rfl, by decide +kernel, by decide +kernel⟩
def W_law_turnables : TDS := (tSeqD (tSetO 2 (tLstD tNilA)) (tSeqD (tForD (tItL (tVarD 0)) (.ls [3, 4, 5, 6, 7]) (tSeqD (tIfD (tTst (t2 eqD (tVarK 3) (tCD (.str "crossed")))) (tMutD 2 appendM (tConsA (tCall tupleD (tConsA (tSlD slD (tVarK 1) (tPartD (tVarK 4)) (tPartD (t2 addD (tVarK 4) (tVarK 5)))) tNilA)) tNilA)) tNextD) (tForD (tRng1 (tIfE (tTst (t2 eqD (tVarK 3) (tCD (.str "heap")))) (tCall lenD (tConsA (tVarK 6) tNilA)) (tCD (.int 0)))) (.nm 8) (tForD (tRng2 (t2 addD (tVarK 8) (tCD (.int 1))) (tCall lenD (tConsA (tVarK 6) tNilA))) (.nm 9) (tSeqD (tParD false false 10 11 (t2 ixE (t2 ixE (tVarK 0) (t2 ixE (tVarK 6) (tVarK 8))) (tCD (.int 1))) (t2 ixE (tVarK 0) (t2 ixE (tVarK 6) (tVarK 9)))) (tSeqD (tSetD 12 (t2 addD (t2 ixE (tVarK 11) (tCD (.int 1))) (t2 ixE (tVarK 11) (tCD (.int 2))))) (tMutD 2 appendM (tConsA (tCall tupleD (tConsA (tSlD slD (tVarK 1) (tPartD (tVarK 10)) (tPartD (tVarK 12))) tNilA)) tNilA)))))))) (tRetD (tCall sortGD (tConsA (tVarK 2) tNilA)))))
noncomputable def F_law_turnables : FnD := sealD (runD 13 [false, false] false W_law_turnables)
theorem F_law_turnables_eq : F_law_turnables = runD 13 [false, false] false W_law_turnables := sealD_eq _
theorem ok_law_turnables (T : Fx K mg cls tk C_Shelf) : ∃ (a : Addr) (fd : FuncData), mg "_law_turnables" = some (.ref a) ∧ FunD K "_law_turnables" "_law_turnables" (defArgs (top 46)) (defBody (top 46)) (defScope (top 46)) [] [] a fd ∧ FnOk P w K mg base CX0 1 a fd ["_law_nodes_here", "_law_catalogue_here"] (spD ⟨K, cls, none⟩ [false, false] false F_law_turnables) := by
  rw [F_law_turnables_eq]
  obtain ⟨a, fd, hm, D⟩ := T.d_law_turnables
  refine ⟨a, fd, hm, D, fn_ok D sc_law_turnables rfl (by decide) (fun cdv A outer s H E hr => ?_)⟩
  have S := sc_law_turnables
  exact (pssd_cons (psd_setO (i := 2) S.nd rfl (Or.inl rfl) (pf_lst pad_nil))
    (pssd_cons (psd_for rfl PassesOwn.never rfl (pj_lstD rfl (pd_var (pv 0))) (pg_unl rfl (pgs_cons (pg_name (i := 3) S.nd rfl (Or.inl rfl)) (pgs_cons (pg_name (i := 4) S.nd rfl (Or.inl rfl)) (pgs_cons (pg_name (i := 5) S.nd rfl (Or.inl rfl)) (pgs_cons (pg_name (i := 6) S.nd rfl (Or.inl rfl)) (pgs_cons (pg_name (i := 7) S.nd rfl (Or.inl rfl)) pgs_nil))))))
    (pssd_cons (psd_if (ptd_cmp (op_eqD hr.units) k_eqD (pk_var (pv 3)) (PD.pk pd_str) (nomark _)) (pssd_one (psd_mut rfl k_append (pad_cons (pd_callT call_tuple_of k_tuple rfl T.f_tuple (by kernel_rfl) (pak_cons (PD.pk (pd_slice op_slD k_slD (pk_var (pv 1)) (pod_some (pk_var (pv 4))) (pod_some (PD.pk (pd_op op_addD k_addD (pk_var (pv 4)) (pk_var (pv 5))))))) pak_nil)) pad_nil) (fun _ h => pe_bm PySem.F.plainAttrs_list PySem.F.slot_list_append PySem.F.type_list_append mt_append (pv 2) h)))
    pssd_nil)
    (pssd_one (psd_for rfl PassesOwn.never rfl (pj_rng1 rfl T.f_range (PD.pk (pd_ifE (ptd_cmp (op_eqD hr.units) k_eqD (pk_var (pv 3)) (PD.pk pd_str) (nomark _)) (pd_callB call_len k_len rfl T.f_len (by kernel_rfl) (pak_cons (pk_var (pv 6)) pak_nil)) pd_int))) (pg_name (i := 8) S.nd rfl (Or.inl rfl))
    (pssd_one (psd_for rfl PassesOwn.never rfl (pj_rng2 rfl T.f_range (PD.pk (pd_op op_addD k_addD (pk_var (pv 8)) (PD.pk pd_int))) (PD.pk (pd_callB call_len k_len rfl T.f_len (by kernel_rfl) (pak_cons (pk_var (pv 6)) pak_nil)))) (pg_name (i := 9) S.nd rfl (Or.inl rfl))
    (pssd_cons (psd_par (i := 10) (j := 11) rfl S.nd rfl rfl (by decide) rfl rfl (PD.pxd (pd_ix (ix_or ix_seq (ix_dict (u1 hr))) k_ixE (PD.pk (pd_ix (ix_or ix_seq (ix_dict (u1 hr))) k_ixE (pk_var (pv 0)) (PD.pk (pd_ix (ix_or ix_seq (ix_dict (u1 hr))) k_ixE (pk_var (pv 6)) (pk_var (pv 8)) (fun _ _ => rfl))) (fun _ _ => rfl))) (PD.pk pd_int) (fun _ _ => rfl))) (PD.pxd (pd_ix (ix_or ix_seq (ix_dict (u1 hr))) k_ixE (pk_var (pv 0)) (PD.pk (pd_ix (ix_or ix_seq (ix_dict (u1 hr))) k_ixE (pk_var (pv 6)) (pk_var (pv 9)) (fun _ _ => rfl))) (fun _ _ => rfl))) (by rfl))
    (pssd_cons (psd_set (i := 12) S.nd rfl (Or.inl rfl) (pd_op op_addD k_addD (PD.pk (pd_ix (ix_or ix_seq (ix_dict (u1 hr))) k_ixE (pk_var (pv 11)) (PD.pk pd_int) (fun _ _ => rfl))) (PD.pk (pd_ix (ix_or ix_seq (ix_dict (u1 hr))) k_ixE (pk_var (pv 11)) (PD.pk pd_int) (fun _ _ => rfl)))))
    (pssd_one (psd_mut rfl k_append (pad_cons (pd_callT call_tuple_of k_tuple rfl T.f_tuple (by kernel_rfl) (pak_cons (PD.pk (pd_slice op_slD k_slD (pk_var (pv 1)) (pod_some (pk_var (pv 10))) (pod_some (pk_var (pv 12))))) pak_nil)) pad_nil) (fun _ h => pe_bm PySem.F.plainAttrs_list PySem.F.slot_list_append PySem.F.type_list_append mt_append (pv 2) h)))))))))))
    (pssd_one (psd_ret (PFD.pd (pf_callB (cr_sortG hr.units) k_sortG rfl T.f_sorted (by kernel_rfl) (pak_cons (pk_var (pv 2)) pak_nil)))))))
theorem at_law_turnables (T : Fx K mg cls tk C_Shelf) : FnAt P w K mg base ⟨K, cls, none⟩ "_law_turnables" 1 [false, false] false [] F_law_turnables := by
  obtain ⟨a, fd, hm, D, G⟩ := ok_law_turnables T
  exact ⟨a, fd, ["_law_nodes_here", "_law_catalogue_here"], [], [], hm, D.kp, G, D.bindsN fun _ _ _ _ _ _ us hl => match us, hl with | [_, _], _ => rfl, .nil, fun _ _ => Reps.nil⟩
def N_law_overlap : List Str := ["_law_first", "_law_second", "_law_both", "_law_book"]
theorem sc_law_overlap : FnScope N_law_overlap ["_law_first", "_law_second"] (defScope (top 47)) := ⟨rfl, rfl, rfl, by decide +kernel, rfl, by decide +kernel, by decide +kernel⟩
def W_law_overlap : TDS := (tSeqD (tSetD 2 (tLcD (tItT (tVarK 0)) (.nm 3) (tTst (t2 inE (tVarK 3) (tVarK 1))) (tVarD 3) [3])) (tRetD (tChnD ltD ltD (tCD (.int 0)) (tCall lenD (tConsA (tVarK 2) tNilA)) (tCall minD (tConsA (tCall lenD (tConsA (tVarK 0) tNilA)) (tConsA (tCall lenD (tConsA (tVarK 1) tNilA)) tNilA))))))
noncomputable def F_law_overlap : FnD := sealD (runD 4 [false, false] false W_law_overlap)
theorem F_law_overlap_eq : F_law_overlap = runD 4 [false, false] false W_law_overlap := sealD_eq _
theorem ok_law_overlap (T : Fx K mg cls tk C_Shelf) : ∃ (a : Addr) (fd : FuncData), mg "_law_overlap" = some (.ref a) ∧ FunD K "_law_overlap" "_law_overlap" (defArgs (top 47)) (defBody (top 47)) (defScope (top 47)) [] [] a fd ∧ FnOk P w K mg base CX0 1 a fd ["_law_first", "_law_second"] (spD ⟨K, cls, none⟩ [false, false] false F_law_overlap) := by
  rw [F_law_overlap_eq]
  obtain ⟨a, fd, hm, D⟩ := T.d_law_overlap
  refine ⟨a, fd, hm, D, fn_ok D sc_law_overlap rfl (by decide) (fun cdv A outer s H E hr => ?_)⟩
  have S := sc_law_overlap
  exact (pssd_cons (psd_setLc (i := 2) (own := [("_law_book", 3)]) (g := (.nm 3)) rfl rfl S.nd rfl rfl (sw_true rfl rfl rfl (by decide +kernel)) (pi_tupD rfl (pk_var (pv 0))) (blkOk_by (N := N_law_overlap) (own := [("_law_book", 3)]) (sc := defScope (top 47)) (by decide +kernel)) (fun _ _ _ _ _ => (pg_name (i := 3) S.nd rfl (Or.inl rfl))) (by decide) (fun _ _ _ _ _ => (ptsd_one (ptd_cmp (op_inE (u65 hr)) k_inE (pk_var (pv 3)) (pk_var (pv 1)) (by rfl)))) (fun _ _ _ _ _ => (pd_var (pv 3))))
    (pssd_one (psd_ret (pd_chain op_ltD op_ltD k_ltD k_ltD (PD.pk pd_int) (PD.pk (pd_callB call_len k_len rfl T.f_len (by kernel_rfl) (pak_cons (pk_var (pv 2)) pak_nil))) (PD.pk (pd_callB (op_minD rfl) k_min rfl T.f_min (by kernel_rfl) (pak_cons (PD.pk (pd_callB call_len k_len rfl T.f_len (by kernel_rfl) (pak_cons (pk_var (pv 0)) pak_nil))) (pak_cons (PD.pk (pd_callB call_len k_len rfl T.f_len (by kernel_rfl) (pak_cons (pk_var (pv 1)) pak_nil))) pak_nil))))))))
theorem at_law_overlap (T : Fx K mg cls tk C_Shelf) : FnAt P w K mg base ⟨K, cls, none⟩ "_law_overlap" 1 [false, false] false [] F_law_overlap := by
  obtain ⟨a, fd, hm, D, G⟩ := ok_law_overlap T
  exact ⟨a, fd, ["_law_first", "_law_second"], [], [], hm, D.kp, G, D.bindsN fun _ _ _ _ _ _ us hl => match us, hl with | [_, _], _ => rfl, .nil, fun _ _ => Reps.nil⟩
def N_law_drawn_lot : List Str := ["_law_purse_here", "_law_turnables_here", "_law_most", "_law_lot", "_law_run", "_law_kept", "_law_theirs"]
theorem sc_law_drawn_lot : FnScope N_law_drawn_lot ["_law_purse_here", "_law_turnables_here", "_law_most"] (defScope (top 48)) := ⟨rfl, rfl, rfl, by decide +kernel, rfl, by decide +kernel, by decide +kernel⟩
def W_law_drawn_lot : TDS := (tSeqD (tSetO 3 (tLstD tNilA)) (tSeqD (tForD (tItL (tFn F_law_shuffled [] (tConsA (tVarD 0) (tConsA (tVarD 1) tNilA)))) (.nm 4) (tIfD (tAndD (tTst (t2 ltD (tCall lenD (tConsA (tVarK 3) tNilA)) (tVarK 2))) (tNotD (tTst (tCall anyD (tConsA (tLcD (tItL (tVarK 3)) (.nm 6) tYesD (tFn F_law_overlap [] (tConsA (tVarD 4) (tConsA (tVarD 6) tNilA))) [6]) tNilA))))) (tMutD 3 appendM (tConsA (tVarD 4) tNilA)) tNextD)) (tSeqD (tSetD 5 (tIfE (tTst (t2 eqD (tFn F_law_draw [] (tConsA (tVarD 0) (tConsA (tCD (.int 2)) tNilA))) (tCD (.int 0)))) (tCall lenD (tConsA (tVarK 3) tNilA)) (tFn F_law_draw [] (tConsA (tVarD 0) (tConsA (t2 addD (tCall lenD (tConsA (tVarK 3) tNilA)) (tCD (.int 1))) tNilA))))) (tRetD (tCall sortGD (tConsA (tSlD slD (tFn F_law_shuffled [] (tConsA (tVarD 0) (tConsK (tVarK 3) tNilA))) tNoD (tPartD (tVarK 5))) tNilA))))))
noncomputable def F_law_drawn_lot : FnD := sealD (runD 7 [false, false, false] false W_law_drawn_lot)
theorem F_law_drawn_lot_eq : F_law_drawn_lot = runD 7 [false, false, false] false W_law_drawn_lot := sealD_eq _
theorem ok_law_drawn_lot (T : Fx K mg cls tk C_Shelf) : ∃ (a : Addr) (fd : FuncData), mg "_law_drawn_lot" = some (.ref a) ∧ FunD K "_law_drawn_lot" "_law_drawn_lot" (defArgs (top 48)) (defBody (top 48)) (defScope (top 48)) [] [] a fd ∧ FnOk P w K mg base CX0 4 a fd ["_law_purse_here", "_law_turnables_here", "_law_most"] (spD ⟨K, cls, none⟩ [false, false, false] false F_law_drawn_lot) := by
  rw [F_law_drawn_lot_eq]
  obtain ⟨a, fd, hm, D⟩ := T.d_law_drawn_lot
  refine ⟨a, fd, hm, D, fn_ok D sc_law_drawn_lot rfl (by decide) (fun cdv A outer s H E hr => ?_)⟩
  have S := sc_law_drawn_lot
  exact (pssd_cons (psd_setO (i := 3) S.nd rfl (Or.inl rfl) (pf_lst pad_nil))
    (pssd_cons (psd_for rfl PassesOwn.never rfl (pj_lstD rfl (pd_call (ms1 := [false, true]) (dd := []) ((at_law_shuffled T)) (hr.mono (by decide)) rfl (pam_sh (pd_var (pv 0)) (pam_sk (pd_var (pv 1)) pam_nil)))) (pg_name (i := 4) S.nd rfl (Or.inr rfl))
    (pssd_one (psd_if (PWD.pt (pwd_and (ptd_cmp op_ltD k_ltD (PD.pk (pd_callB call_len k_len rfl T.f_len (by kernel_rfl) (pak_cons (pk_var (pv 3)) pak_nil))) (pk_var (pv 2)) (nomark _)) (pwd_and1 (ptd_not (ptd_val (PD.pk (pd_callB (cr_any rfl) k_any rfl T.f_any (by kernel_rfl) (pak_cons (PD.pk (PFD.pd (pf_lc (own := [("_law_theirs", 6)]) (g := (.nm 6)) rfl rfl S.nd (pi_lstD rfl (pk_var (pv 3))) (blkOk_by (N := N_law_drawn_lot) (own := [("_law_theirs", 6)]) (sc := defScope (top 48)) (by decide +kernel)) (fun _ _ _ _ _ => (pg_name (i := 6) S.nd rfl (Or.inl rfl))) (by decide) (fun _ _ _ _ _ => ptsd_nil) (fun _ _ _ _ _ => (pd_call (ms1 := [false, false]) (dd := []) ((at_law_overlap T)) (hr.mono (by decide)) rfl (pam_sh (pd_var (pv 4)) (pam_sh (pd_var (pv 6)) pam_nil))))))) pak_nil)))))))) (pssd_one (psd_mut rfl k_append (pad_cons (pd_var (pv 4)) pad_nil) (fun _ h => pe_bm PySem.F.plainAttrs_list PySem.F.slot_list_append PySem.F.type_list_append mt_append (pv 3) h)))
    pssd_nil)))
    (pssd_cons (psd_set (i := 5) S.nd rfl (Or.inl rfl) (pd_ifE (ptd_cmp (op_eqD hr.units) k_eqD (PD.pk (pd_call (ms1 := [false, false]) (dd := []) ((at_law_draw T)) (hr.mono (by decide)) rfl (pam_sh (pd_var (pv 0)) (pam_sh pd_int pam_nil)))) (PD.pk pd_int) (nomark _)) (pd_callB call_len k_len rfl T.f_len (by kernel_rfl) (pak_cons (pk_var (pv 3)) pak_nil)) (pd_call (ms1 := [false, false]) (dd := []) ((at_law_draw T)) (hr.mono (by decide)) rfl (pam_sh (pd_var (pv 0)) (pam_sh (pd_op op_addD k_addD (PD.pk (pd_callB call_len k_len rfl T.f_len (by kernel_rfl) (pak_cons (pk_var (pv 3)) pak_nil))) (PD.pk pd_int)) pam_nil)))))
    (pssd_one (psd_ret (PFD.pd (pf_callB (cr_sortG hr.units) k_sortG rfl T.f_sorted (by kernel_rfl) (pak_cons (PD.pk (pd_slice op_slD k_slD (PD.pk (pd_call (ms1 := [false, true]) (dd := []) ((at_law_shuffled T)) (hr.mono (by decide)) rfl (pam_sh (pd_var (pv 0)) (pam_pk (pk_var (pv 3)) pam_nil)))) pod_none (pod_some (pk_var (pv 5))))) pak_nil))))))))
theorem at_law_drawn_lot (T : Fx K mg cls tk C_Shelf) : FnAt P w K mg base ⟨K, cls, none⟩ "_law_drawn_lot" 4 [false, false, false] false [] F_law_drawn_lot := by
  obtain ⟨a, fd, hm, D, G⟩ := ok_law_drawn_lot T
  exact ⟨a, fd, ["_law_purse_here", "_law_turnables_here", "_law_most"], [], [], hm, D.kp, G, D.bindsN fun _ _ _ _ _ _ us hl => match us, hl with | [_, _, _], _ => rfl, .nil, fun _ _ => Reps.nil⟩
def N_law_turn : List Str := ["_law_world_here", "_law_run", "_law_catalogue_here", "_law_row", "_law_places", "_law_begin", "_law_end", "_law_at"]
theorem sc_law_turn : FnScope N_law_turn ["_law_world_here", "_law_run"] (defScope (top 49)) := ⟨rfl, rfl, rfl, by decide +kernel, rfl, by decide +kernel, by decide +kernel⟩
def W_law_turn : TDS := (tSeqD (tAsgD (tVarD 0) (.ls [2, 3])) (tSeqD (tSetD 4 (tLcD (tRng1 (tCall lenD (tConsA (tVarK 3) tNilA))) (.nm 7) (tTst (t2 inE (t2 ixE (tVarK 3) (tVarK 7)) (tVarK 1))) (tVarD 7) [7])) (tSeqD (tParD false false 5 6 (t2 ixE (tVarK 4) (tCD (.int 0))) (t2 addD (t2 ixE (tVarK 4) (tUnD negD (tCD (.int 1)))) (tCD (.int 1)))) (tRetD (tLstD (tConsA (tVarD 2) (tConsA (t2 addD (t2 addD (tSlD slD (tVarK 3) tNoD (tPartD (tVarK 5))) (tRevD (tSlD slD (tVarK 3) (tPartD (tVarK 5)) (tPartD (tVarK 6))))) (tSlD slD (tVarK 3) (tPartD (tVarK 6)) tNoD)) tNilA)))))))
noncomputable def F_law_turn : FnD := sealD (runD 8 [false, false] false W_law_turn)
theorem F_law_turn_eq : F_law_turn = runD 8 [false, false] false W_law_turn := sealD_eq _
theorem ok_law_turn (T : Fx K mg cls tk C_Shelf) : ∃ (a : Addr) (fd : FuncData), mg "_law_turn" = some (.ref a) ∧ FunD K "_law_turn" "_law_turn" (defArgs (top 49)) (defBody (top 49)) (defScope (top 49)) [] [] a fd ∧ FnOk P w K mg base CX0 1 a fd ["_law_world_here", "_law_run"] (spD ⟨K, cls, none⟩ [false, false] false F_law_turn) := by
  rw [F_law_turn_eq]
  obtain ⟨a, fd, hm, D⟩ := T.d_law_turn
  refine ⟨a, fd, hm, D, fn_ok D sc_law_turn rfl (by decide) (fun cdv A outer s H E hr => ?_)⟩
  have S := sc_law_turn
  exact (pssd_cons (psd_asg rfl (pd_var (pv 0)) (pg_unl rfl (pgs_cons (pg_name (i := 2) S.nd rfl (Or.inl rfl)) (pgs_cons (pg_name (i := 3) S.nd rfl (Or.inr rfl)) pgs_nil))))
    (pssd_cons (psd_setLc (i := 4) (own := [("_law_at", 7)]) (g := (.nm 7)) rfl rfl S.nd rfl rfl (sw_true rfl rfl rfl (by decide +kernel)) (pi_rng1 rfl T.f_range (PD.pk (pd_callB call_len k_len rfl T.f_len (by kernel_rfl) (pak_cons (pk_var (pv 3)) pak_nil)))) (blkOk_by (N := N_law_turn) (own := [("_law_at", 7)]) (sc := defScope (top 49)) (by decide +kernel)) (fun _ _ _ _ _ => (pg_name (i := 7) S.nd rfl (Or.inl rfl))) (by decide) (fun _ _ _ _ _ => (ptsd_one (ptd_cmp (op_inE (u65 hr)) k_inE (PD.pk (pd_ix (ix_or ix_seq (ix_dict (u1 hr))) k_ixE (pk_var (pv 3)) (pk_var (pv 7)) (fun _ _ => rfl))) (pk_var (pv 1)) (by rfl)))) (fun _ _ _ _ _ => (pd_var (pv 7))))
    (pssd_cons (psd_par (i := 5) (j := 6) rfl S.nd rfl rfl (by decide) rfl rfl (PD.pxd (pd_ix (ix_or ix_seq (ix_dict (u1 hr))) k_ixE (pk_var (pv 4)) (PD.pk pd_int) (fun _ _ => rfl))) (PD.pxd (pd_op op_addD k_addD (PD.pk (pd_ix (ix_or ix_seq (ix_dict (u1 hr))) k_ixE (pk_var (pv 4)) (PD.pk (pd_neg (PD.pk pd_int))) (fun _ _ => rfl))) (PD.pk pd_int))) (by rfl))
    (pssd_one (psd_ret (PFD.pd (pf_lst (pad_cons (pd_var (pv 2)) (pad_cons (pd_op op_addD k_addD (PD.pk (pd_op op_addD k_addD (PD.pk (pd_slice op_slD k_slD (pk_var (pv 3)) pod_none (pod_some (pk_var (pv 5))))) (PD.pk (PFD.pd (pf_rev rfl (PD.pk (pd_slice op_slD k_slD (pk_var (pv 3)) (pod_some (pk_var (pv 5))) (pod_some (pk_var (pv 6)))))))))) (PD.pk (pd_slice op_slD k_slD (pk_var (pv 3)) (pod_some (pk_var (pv 6))) pod_none))) pad_nil)))))))))
theorem at_law_turn (T : Fx K mg cls tk C_Shelf) : FnAt P w K mg base ⟨K, cls, none⟩ "_law_turn" 1 [false, false] false [] F_law_turn := by
  obtain ⟨a, fd, hm, D, G⟩ := ok_law_turn T
  exact ⟨a, fd, ["_law_world_here", "_law_run"], [], [], hm, D.kp, G, D.bindsN fun _ _ _ _ _ _ us hl => match us, hl with | [_, _], _ => rfl, .nil, fun _ _ => Reps.nil⟩
def N_law_led : List Str := ["_law_world_here", "_law_turns", "_law_run"]
theorem sc_law_led : FnScope N_law_led ["_law_world_here", "_law_turns"] (defScope (top 50)) := ⟨rfl, rfl, rfl, by decide +kernel, rfl, by decide +kernel, by decide +kernel⟩
def W_law_led : TDS := (tSeqD (tForD (tItL (tVarD 1)) (.nm 2) (tSetD 0 (tFn F_law_turn [] (tConsA (tVarD 0) (tConsA (tVarD 2) tNilA))))) (tRetD (tVarD 0)))
noncomputable def F_law_led : FnD := sealD (runD 3 [false, false] false W_law_led)
theorem F_law_led_eq : F_law_led = runD 3 [false, false] false W_law_led := sealD_eq _
theorem ok_law_led (T : Fx K mg cls tk C_Shelf) : ∃ (a : Addr) (fd : FuncData), mg "_law_led" = some (.ref a) ∧ FunD K "_law_led" "_law_led" (defArgs (top 50)) (defBody (top 50)) (defScope (top 50)) [] [] a fd ∧ FnOk P w K mg base CX0 2 a fd ["_law_world_here", "_law_turns"] (spD ⟨K, cls, none⟩ [false, false] false F_law_led) := by
  rw [F_law_led_eq]
  obtain ⟨a, fd, hm, D⟩ := T.d_law_led
  refine ⟨a, fd, hm, D, fn_ok D sc_law_led rfl (by decide) (fun cdv A outer s H E hr => ?_)⟩
  have S := sc_law_led
  exact (pssd_cons (psd_for rfl PassesOwn.never rfl (pj_lstD rfl (pd_var (pv 1))) (pg_name (i := 2) S.nd rfl (Or.inl rfl))
    (pssd_one (psd_set (i := 0) S.nd rfl (Or.inl rfl) (pd_call (ms1 := [false, false]) (dd := []) ((at_law_turn T)) (hr.mono (by decide)) rfl (pam_sh (pd_var (pv 0)) (pam_sh (pd_var (pv 2)) pam_nil))))))
    (pssd_one (psd_ret (pd_var (pv 0)))))
theorem at_law_led (T : Fx K mg cls tk C_Shelf) : FnAt P w K mg base ⟨K, cls, none⟩ "_law_led" 2 [false, false] false [] F_law_led := by
  obtain ⟨a, fd, hm, D, G⟩ := ok_law_led T
  exact ⟨a, fd, ["_law_world_here", "_law_turns"], [], [], hm, D.kp, G, D.bindsN fun _ _ _ _ _ _ us hl => match us, hl with | [_, _], _ => rfl, .nil, fun _ _ => Reps.nil⟩
def N_law_class : List Str := ["_law_purse_here", "_law_many_here", "_law_shelves", "_law_catalogue_here", "_law_nodes_here", "_law_home", "_law_turnables_here", "_law_lots", "_law_turn_here", "_law_lot"]
theorem sc_law_class : FnScope N_law_class ["_law_purse_here", "_law_many_here", "_law_shelves"] (defScope (top 51)) := ⟨rfl, rfl, rfl, by decide +kernel, rfl, by decide +kernel, by decide +kernel⟩
def W_law_class : TDS := (tSeqD (tSetD 3 (tFn F_law_catalogue [] (tConsA (tVarD 0) (tConsA (tVarD 1) tNilA)))) (tSeqD (tSetD 4 (tFn F_law_nodes [] (tConsA (tVarD 0) (tConsA (tVarD 1) tNilA)))) (tSeqD (tParD false false 5 6 (tLstD (tConsA (tVarD 3) (tConsA (tFn F_law_home_row [] (tConsA (tVarD 4) (tConsA (tVarD 3) tNilA))) tNilA))) (tFn F_law_turnables [] (tConsA (tVarD 4) (tConsA (tVarD 3) tNilA)))) (tSeqD (tSetD 7 (tLcD (tRng1 (tVarK 2)) (.nm 8) tYesD (tFn F_law_drawn_lot [] (tConsA (tVarD 0) (tConsA (tVarD 6) (tConsA (tCD (.int 12)) tNilA)))) [8])) (tRetD (tLstD (tConsA (tVarD 5) (tConsA (tVarD 6) (tConsA (tVarD 7) (tConsA (tLcD (tItL (tVarK 7)) (.nm 9) tYesD (tFn F_law_led [] (tConsA (tVarD 5) (tConsA (tFn F_law_shuffled [] (tConsA (tVarD 0) (tConsA (tVarD 9) tNilA))) tNilA))) [9]) tNilA))))))))))
noncomputable def F_law_class : FnD := sealD (runD 10 [false, false, false] false W_law_class)
theorem F_law_class_eq : F_law_class = runD 10 [false, false, false] false W_law_class := sealD_eq _
theorem ok_law_class (T : Fx K mg cls tk C_Shelf) : ∃ (a : Addr) (fd : FuncData), mg "_law_class" = some (.ref a) ∧ FunD K "_law_class" "_law_class" (defArgs (top 51)) (defBody (top 51)) (defScope (top 51)) [] [] a fd ∧ FnOk P w K mg base CX0 6 a fd ["_law_purse_here", "_law_many_here", "_law_shelves"] (spD ⟨K, cls, none⟩ [false, false, false] false F_law_class) := by
  rw [F_law_class_eq]
  obtain ⟨a, fd, hm, D⟩ := T.d_law_class
  refine ⟨a, fd, hm, D, fn_ok D sc_law_class rfl (by decide) (fun cdv A outer s H E hr => ?_)⟩
  have S := sc_law_class
  exact (pssd_cons (psd_set (i := 3) S.nd rfl (Or.inl rfl) (pd_call (ms1 := [false, false]) (dd := []) ((at_law_catalogue T)) (hr.mono (by decide)) rfl (pam_sh (pd_var (pv 0)) (pam_sh (pd_var (pv 1)) pam_nil))))
    (pssd_cons (psd_set (i := 4) S.nd rfl (Or.inl rfl) (pd_call (ms1 := [false, false]) (dd := []) ((at_law_nodes T)) (hr.mono (by decide)) rfl (pam_sh (pd_var (pv 0)) (pam_sh (pd_var (pv 1)) pam_nil))))
    (pssd_cons (psd_parT rfl (pg_name (i := 5) S.nd rfl (Or.inr rfl)) (pg_name (i := 6) S.nd rfl (Or.inr rfl)) (PD.pxd (PFD.pd (pf_lst (pad_cons (pd_var (pv 3)) (pad_cons (pd_call (ms1 := [false, false]) (dd := []) ((at_law_home_row T)) (hr.mono (by decide)) rfl (pam_sh (pd_var (pv 4)) (pam_sh (pd_var (pv 3)) pam_nil))) pad_nil))))) (PD.pxd (pd_call (ms1 := [false, false]) (dd := []) ((at_law_turnables T)) (hr.mono (by decide)) rfl (pam_sh (pd_var (pv 4)) (pam_sh (pd_var (pv 3)) pam_nil)))))
    (pssd_cons (psd_setLc (i := 7) (own := [("_law_turn_here", 8)]) (g := (.nm 8)) rfl rfl S.nd rfl rfl (sw_true rfl rfl rfl (by decide +kernel)) (pi_rng1 rfl T.f_range (pk_var (pv 2))) (blkOk_by (N := N_law_class) (own := [("_law_turn_here", 8)]) (sc := defScope (top 51)) (by decide +kernel)) (fun _ _ _ _ _ => (pg_name (i := 8) S.nd rfl (Or.inl rfl))) (by decide) (fun _ _ _ _ _ => ptsd_nil) (fun _ _ _ _ _ => (pd_call (ms1 := [false, false, false]) (dd := []) ((at_law_drawn_lot T)) (hr.mono (by decide)) rfl (pam_sh (pd_var (pv 0)) (pam_sh (pd_var (pv 6)) (pam_sh pd_int pam_nil))))))
    (pssd_one (psd_ret (PFD.pd (pf_lst (pad_cons (pd_var (pv 5)) (pad_cons (pd_var (pv 6)) (pad_cons (pd_var (pv 7)) (pad_cons (PFD.pd (pf_lc (own := [("_law_lot", 9)]) (g := (.nm 9)) rfl rfl S.nd (pi_lstD rfl (pk_var (pv 7))) (blkOk_by (N := N_law_class) (own := [("_law_lot", 9)]) (sc := defScope (top 51)) (by decide +kernel)) (fun _ _ _ _ _ => (pg_name (i := 9) S.nd rfl (Or.inl rfl))) (by decide) (fun _ _ _ _ _ => ptsd_nil) (fun _ _ _ _ _ => (pd_call (ms1 := [false, false]) (dd := []) ((at_law_led T)) (hr.mono (by decide)) rfl (pam_sh (pd_var (pv 5)) (pam_sh (pd_call (ms1 := [false, true]) (dd := []) ((at_law_shuffled T)) (hr.mono (by decide)) rfl (pam_sh (pd_var (pv 0)) (pam_sk (pd_var (pv 9)) pam_nil))) pam_nil)))))) pad_nil))))))))))))
theorem at_law_class (T : Fx K mg cls tk C_Shelf) : FnAt P w K mg base ⟨K, cls, none⟩ "_law_class" 6 [false, false, false] false [] F_law_class := by
  obtain ⟨a, fd, hm, D, G⟩ := ok_law_class T
  exact ⟨a, fd, ["_law_purse_here", "_law_many_here", "_law_shelves"], [], [], hm, D.kp, G, D.bindsN fun _ _ _ _ _ _ us hl => match us, hl with | [_, _, _], _ => rfl, .nil, fun _ _ => Reps.nil⟩
def N_law_free : List Str := ["_law_purse_here", "_law_many_here", "_law_catalogue_here"]
theorem sc_law_free : FnScope N_law_free ["_law_purse_here", "_law_many_here"] (defScope (top 52)) := ⟨rfl, rfl, rfl, by decide +kernel, rfl, by decide +kernel, by decide +kernel⟩
def W_law_free : TDS := (tSeqD (tSetD 2 (tFn F_law_catalogue [] (tConsA (tVarD 0) (tConsA (tVarD 1) tNilA)))) (tRetD (tLstD (tConsA (tVarD 2) (tConsA (tFn F_law_shuffled [] (tConsA (tVarD 0) (tConsA (tVarD 2) tNilA))) tNilA)))))
noncomputable def F_law_free : FnD := sealD (runD 3 [false, false] false W_law_free)
theorem F_law_free_eq : F_law_free = runD 3 [false, false] false W_law_free := sealD_eq _
theorem ok_law_free (T : Fx K mg cls tk C_Shelf) : ∃ (a : Addr) (fd : FuncData), mg "_law_free" = some (.ref a) ∧ FunD K "_law_free" "_law_free" (defArgs (top 52)) (defBody (top 52)) (defScope (top 52)) [] [] a fd ∧ FnOk P w K mg base CX0 6 a fd ["_law_purse_here", "_law_many_here"] (spD ⟨K, cls, none⟩ [false, false] false F_law_free) := by
  rw [F_law_free_eq]
  obtain ⟨a, fd, hm, D⟩ := T.d_law_free
  refine ⟨a, fd, hm, D, fn_ok D sc_law_free rfl (by decide) (fun cdv A outer s H E hr => ?_)⟩
  have S := sc_law_free
  exact (pssd_cons (psd_set (i := 2) S.nd rfl (Or.inl rfl) (pd_call (ms1 := [false, false]) (dd := []) ((at_law_catalogue T)) (hr.mono (by decide)) rfl (pam_sh (pd_var (pv 0)) (pam_sh (pd_var (pv 1)) pam_nil))))
    (pssd_one (psd_ret (PFD.pd (pf_lst (pad_cons (pd_var (pv 2)) (pad_cons (pd_call (ms1 := [false, true]) (dd := []) ((at_law_shuffled T)) (hr.mono (by decide)) rfl (pam_sh (pd_var (pv 0)) (pam_sk (pd_var (pv 2)) pam_nil))) pad_nil)))))))
theorem at_law_free (T : Fx K mg cls tk C_Shelf) : FnAt P w K mg base ⟨K, cls, none⟩ "_law_free" 6 [false, false] false [] F_law_free := by
  obtain ⟨a, fd, hm, D, G⟩ := ok_law_free T
  exact ⟨a, fd, ["_law_purse_here", "_law_many_here"], [], [], hm, D.kp, G, D.bindsN fun _ _ _ _ _ _ us hl => match us, hl with | [_, _], _ => rfl, .nil, fun _ _ => Reps.nil⟩
def N_law_world : List Str := ["_law_purse_here", "_law_many_here"]
theorem sc_law_world : FnScope N_law_world ["_law_purse_here", "_law_many_here"] (defScope (top 53)) := ⟨rfl, rfl, rfl, by decide +kernel, rfl, by decide +kernel, by decide +kernel⟩
def W_law_world : TDS := (tRetD (tIfE (tTst (t2 eqD (tFn F_law_draw [] (tConsA (tVarD 0) (tConsA (tCD (.int 4)) tNilA))) (tCD (.int 0)))) (tFn F_law_free [] (tConsA (tVarD 0) (tConsA (tVarD 1) tNilA))) (t2 ixE (t2 ixE (tFn F_law_class [] (tConsA (tVarD 0) (tConsA (tVarD 1) (tConsA (tCD (.int 1)) tNilA)))) (tCD (.int 3))) (tCD (.int 0)))))
noncomputable def F_law_world : FnD := sealD (runD 2 [false, false] false W_law_world)
theorem F_law_world_eq : F_law_world = runD 2 [false, false] false W_law_world := sealD_eq _
theorem ok_law_world (T : Fx K mg cls tk C_Shelf) : ∃ (a : Addr) (fd : FuncData), mg "_law_world" = some (.ref a) ∧ FunD K "_law_world" "_law_world" (defArgs (top 53)) (defBody (top 53)) (defScope (top 53)) [] [] a fd ∧ FnOk P w K mg base CX0 7 a fd ["_law_purse_here", "_law_many_here"] (spD ⟨K, cls, none⟩ [false, false] false F_law_world) := by
  rw [F_law_world_eq]
  obtain ⟨a, fd, hm, D⟩ := T.d_law_world
  refine ⟨a, fd, hm, D, fn_ok D sc_law_world rfl (by decide) (fun cdv A outer s H E hr => ?_)⟩
  have S := sc_law_world
  exact (pssd_one (psd_ret (pd_ifE (ptd_cmp (op_eqD hr.units) k_eqD (PD.pk (pd_call (ms1 := [false, false]) (dd := []) ((at_law_draw T)) (hr.mono (by decide)) rfl (pam_sh (pd_var (pv 0)) (pam_sh pd_int pam_nil)))) (PD.pk pd_int) (nomark _)) (pd_call (ms1 := [false, false]) (dd := []) ((at_law_free T)) (hr.mono (by decide)) rfl (pam_sh (pd_var (pv 0)) (pam_sh (pd_var (pv 1)) pam_nil))) (pd_ix (ix_or ix_seq (ix_dict (u1 hr))) k_ixE (PD.pk (pd_ix (ix_or ix_seq (ix_dict (u1 hr))) k_ixE (PD.pk (pd_call (ms1 := [false, false, false]) (dd := []) ((at_law_class T)) (hr.mono (by decide)) rfl (pam_sh (pd_var (pv 0)) (pam_sh (pd_var (pv 1)) (pam_sh pd_int pam_nil))))) (PD.pk pd_int) (fun _ _ => rfl))) (PD.pk pd_int) (fun _ _ => rfl)))))
theorem at_law_world (T : Fx K mg cls tk C_Shelf) : FnAt P w K mg base ⟨K, cls, none⟩ "_law_world" 7 [false, false] false [] F_law_world := by
  obtain ⟨a, fd, hm, D, G⟩ := ok_law_world T
  exact ⟨a, fd, ["_law_purse_here", "_law_many_here"], [], [], hm, D.kp, G, D.bindsN fun _ _ _ _ _ _ us hl => match us, hl with | [_, _], _ => rfl, .nil, fun _ _ => Reps.nil⟩
def N_law_shelf : List Str := ["_law_world_here"]
theorem sc_law_shelf : FnScope N_law_shelf ["_law_world_here"] (defScope (top 54)) := ⟨rfl, rfl, rfl, by decide +kernel, rfl, by decide +kernel, by decide +kernel⟩
def W_law_shelf : TDS := (tRetD (tFn F_Shelf_init [] (tConsA (tCall listE (tConsA (t2 ixE (tVarK 0) (tCD (.int 0))) tNilA)) (tConsA (tCall listE (tConsA (t2 ixE (tVarK 0) (tCD (.int 1))) tNilA)) tNilA))))
noncomputable def F_law_shelf : FnD := sealD (runD 1 [false] false W_law_shelf)
theorem F_law_shelf_eq : F_law_shelf = runD 1 [false] false W_law_shelf := sealD_eq _
theorem ok_law_shelf (T : Fx K mg cls tk C_Shelf) : ∃ (a : Addr) (fd : FuncData), mg "_law_shelf" = some (.ref a) ∧ FunD K "_law_shelf" "_law_shelf" (defArgs (top 54)) (defBody (top 54)) (defScope (top 54)) [] [] a fd ∧ FnOk P w K mg base CX0 6 a fd ["_law_world_here"] (spD ⟨K, cls, none⟩ [false] false F_law_shelf) := by
  rw [F_law_shelf_eq]
  obtain ⟨a, fd, hm, D⟩ := T.d_law_shelf
  refine ⟨a, fd, hm, D, fn_ok D sc_law_shelf rfl (by decide) (fun cdv A outer s H E hr => ?_)⟩
  have S := sc_law_shelf
  exact (pssd_one (psd_ret (pd_make (at_Shelf_init T) (hr.mono (by decide)) rfl (pam_sh (PFD.pd (pf_callT (call_listE rfl) k_listE rfl T.f_list (by kernel_rfl) (pak_cons (PD.pk (pd_ix (ix_or ix_seq (ix_dict (u1 hr))) k_ixE (pk_var (pv 0)) (PD.pk pd_int) (fun _ _ => rfl))) pak_nil))) (pam_sh (PFD.pd (pf_callT (call_listE rfl) k_listE rfl T.f_list (by kernel_rfl) (pak_cons (PD.pk (pd_ix (ix_or ix_seq (ix_dict (u1 hr))) k_ixE (pk_var (pv 0)) (PD.pk pd_int) (fun _ _ => rfl))) pak_nil))) pam_nil)))))
theorem at_law_shelf (T : Fx K mg cls tk C_Shelf) : FnAt P w K mg base ⟨K, cls, none⟩ "_law_shelf" 6 [false] false [] F_law_shelf := by
  obtain ⟨a, fd, hm, D, G⟩ := ok_law_shelf T
  exact ⟨a, fd, ["_law_world_here"], [], [], hm, D.kp, G, D.bindsN fun _ _ _ _ _ _ us hl => match us, hl with | [_], _ => rfl, .nil, fun _ _ => Reps.nil⟩
def N_law_ranks : List Str := ["_law_world_here", "_law_book"]
theorem sc_law_ranks : FnScope N_law_ranks ["_law_world_here"] (defScope (top 55)) := ⟨rfl, rfl, rfl, by decide +kernel, rfl, by decide +kernel, by decide +kernel⟩
def W_law_ranks : TDS := (tRetD (tLcD (tItL (t2 ixE (tVarK 0) (tCD (.int 1)))) (.nm 1) tYesD (tMet indexD isLst (t2 ixE (tVarK 0) (tCD (.int 0))) (tConsA (tVarK 1) tNilA)) [1]))
noncomputable def F_law_ranks : FnD := sealD (runD 2 [false] false W_law_ranks)
theorem F_law_ranks_eq : F_law_ranks = runD 2 [false] false W_law_ranks := sealD_eq _
theorem ok_law_ranks (T : Fx K mg cls tk C_Shelf) : ∃ (a : Addr) (fd : FuncData), mg "_law_ranks" = some (.ref a) ∧ FunD K "_law_ranks" "_law_ranks" (defArgs (top 55)) (defBody (top 55)) (defScope (top 55)) [] [] a fd ∧ FnOk P w K mg base CX0 1 a fd ["_law_world_here"] (spD ⟨K, cls, none⟩ [false] false F_law_ranks) := by
  rw [F_law_ranks_eq]
  obtain ⟨a, fd, hm, D⟩ := T.d_law_ranks
  refine ⟨a, fd, hm, D, fn_ok D sc_law_ranks rfl (by decide) (fun cdv A outer s H E hr => ?_)⟩
  have S := sc_law_ranks
  exact (pssd_one (psd_ret (PFD.pd (pf_lc (own := [("_law_book", 1)]) (g := (.nm 1)) rfl rfl S.nd (pi_lstD rfl (PD.pk (pd_ix (ix_or ix_seq (ix_dict (u1 hr))) k_ixE (pk_var (pv 0)) (PD.pk pd_int) (fun _ _ => rfl)))) (blkOk_by (N := N_law_ranks) (own := [("_law_book", 1)]) (sc := defScope (top 55)) (by decide +kernel)) (fun _ _ _ _ _ => (pg_name (i := 1) S.nd rfl (Or.inl rfl))) (by decide) (fun _ _ _ _ _ => ptsd_nil) (fun _ _ _ _ _ => (pd_index rfl (PD.pk (pd_ix (ix_or ix_seq (ix_dict (u1 hr))) k_ixE (pk_var (pv 0)) (PD.pk pd_int) (fun _ _ => rfl))) (pak_cons (pk_var (pv 1)) pak_nil) (fun _ ho ha => pe_bm PySem.F.plainAttrs_list PySem.F.slot_list_index PySem.F.type_list_index mt_index ho ha)))))))
theorem at_law_ranks (T : Fx K mg cls tk C_Shelf) : FnAt P w K mg base ⟨K, cls, none⟩ "_law_ranks" 1 [false] false [] F_law_ranks := by
  obtain ⟨a, fd, hm, D, G⟩ := ok_law_ranks T
  exact ⟨a, fd, ["_law_world_here"], [], [], hm, D.kp, G, D.bindsN fun _ _ _ _ _ _ us hl => match us, hl with | [_], _ => rfl, .nil, fun _ _ => Reps.nil⟩
def N_law_runs : List Str := ["_law_world_here", "_law_entries", "_law_found", "_law_begin", "_law_least", "_law_most", "_law_end"]
theorem sc_law_runs : FnScope N_law_runs ["_law_world_here"] (defScope (top 56)) := ⟨rfl, rfl, rfl, by decide +kernel, rfl, by decide +kernel, by decide +kernel⟩
def W_law_runs : TDS := (tSeqD (tParD false true 1 2 (tFn F_law_ranks [] (tConsA (tVarD 0) tNilA)) (tLstD tNilA)) (tSeqD (tForD (tRng1 (tCall lenD (tConsA (tVarK 1) tNilA))) (.nm 3) (tSeqD (tParD false false 4 5 (t2 ixE (tVarK 1) (tVarK 3)) (t2 ixE (tVarK 1) (tVarK 3))) (tForD (tRng2 (t2 addD (tVarK 3) (tCD (.int 1))) (tCall lenD (tConsA (tVarK 1) tNilA))) (.nm 6) (tSeqD (tParD false false 4 5 (tCall minD (tConsA (tVarK 4) (tConsA (t2 ixE (tVarK 1) (tVarK 6)) tNilA))) (tCall maxD (tConsA (tVarK 5) (tConsA (t2 ixE (tVarK 1) (tVarK 6)) tNilA)))) (tIfD (tTst (t2 eqD (t2 subD (tVarK 5) (tVarK 4)) (t2 subD (tVarK 6) (tVarK 3)))) (tMutD 2 appendM (tConsA (tCall tupleD (tConsA (tSlD slD (t2 ixE (tVarK 0) (tCD (.int 0))) (tPartD (tVarK 4)) (tPartD (t2 addD (tVarK 5) (tCD (.int 1))))) tNilA)) tNilA)) tNextD))))) (tRetD (tCall sortGD (tConsA (tVarK 2) tNilA)))))
noncomputable def F_law_runs : FnD := sealD (runD 7 [false] false W_law_runs)
theorem F_law_runs_eq : F_law_runs = runD 7 [false] false W_law_runs := sealD_eq _
theorem ok_law_runs (T : Fx K mg cls tk C_Shelf) : ∃ (a : Addr) (fd : FuncData), mg "_law_runs" = some (.ref a) ∧ FunD K "_law_runs" "_law_runs" (defArgs (top 56)) (defBody (top 56)) (defScope (top 56)) [] [] a fd ∧ FnOk P w K mg base CX0 2 a fd ["_law_world_here"] (spD ⟨K, cls, none⟩ [false] false F_law_runs) := by
  rw [F_law_runs_eq]
  obtain ⟨a, fd, hm, D⟩ := T.d_law_runs
  refine ⟨a, fd, hm, D, fn_ok D sc_law_runs rfl (by decide) (fun cdv A outer s H E hr => ?_)⟩
  have S := sc_law_runs
  exact (pssd_cons (psd_par (i := 1) (j := 2) rfl S.nd rfl rfl (by decide) rfl rfl (PD.pxd (pd_call (ms1 := [false]) (dd := []) ((at_law_ranks T)) (hr.mono (by decide)) rfl (pam_sh (pd_var (pv 0)) pam_nil))) (PFD.pxd (pf_lst pad_nil)) (by rfl))
    (pssd_cons (psd_for rfl PassesOwn.never rfl (pj_rng1 rfl T.f_range (PD.pk (pd_callB call_len k_len rfl T.f_len (by kernel_rfl) (pak_cons (pk_var (pv 1)) pak_nil)))) (pg_name (i := 3) S.nd rfl (Or.inl rfl))
    (pssd_cons (psd_par (i := 4) (j := 5) rfl S.nd rfl rfl (by decide) rfl rfl (PD.pxd (pd_ix (ix_or ix_seq (ix_dict (u1 hr))) k_ixE (pk_var (pv 1)) (pk_var (pv 3)) (fun _ _ => rfl))) (PD.pxd (pd_ix (ix_or ix_seq (ix_dict (u1 hr))) k_ixE (pk_var (pv 1)) (pk_var (pv 3)) (fun _ _ => rfl))) (by rfl))
    (pssd_one (psd_for rfl PassesOwn.never rfl (pj_rng2 rfl T.f_range (PD.pk (pd_op op_addD k_addD (pk_var (pv 3)) (PD.pk pd_int))) (PD.pk (pd_callB call_len k_len rfl T.f_len (by kernel_rfl) (pak_cons (pk_var (pv 1)) pak_nil)))) (pg_name (i := 6) S.nd rfl (Or.inl rfl))
    (pssd_cons (psd_par (i := 4) (j := 5) rfl S.nd rfl rfl (by decide) rfl rfl (PD.pxd (pd_callB (op_minD rfl) k_min rfl T.f_min (by kernel_rfl) (pak_cons (pk_var (pv 4)) (pak_cons (PD.pk (pd_ix (ix_or ix_seq (ix_dict (u1 hr))) k_ixE (pk_var (pv 1)) (pk_var (pv 6)) (fun _ _ => rfl))) pak_nil)))) (PD.pxd (pd_callB (op_maxD rfl) k_max rfl T.f_max (by kernel_rfl) (pak_cons (pk_var (pv 5)) (pak_cons (PD.pk (pd_ix (ix_or ix_seq (ix_dict (u1 hr))) k_ixE (pk_var (pv 1)) (pk_var (pv 6)) (fun _ _ => rfl))) pak_nil)))) (by rfl))
    (pssd_one (psd_if (ptd_cmp (op_eqD hr.units) k_eqD (PD.pk (pd_op op_sub k_intA (pk_var (pv 5)) (pk_var (pv 4)))) (PD.pk (pd_op op_sub k_intA (pk_var (pv 6)) (pk_var (pv 3)))) (nomark _)) (pssd_one (psd_mut rfl k_append (pad_cons (pd_callT call_tuple_of k_tuple rfl T.f_tuple (by kernel_rfl) (pak_cons (PD.pk (pd_slice op_slD k_slD (PD.pk (pd_ix (ix_or ix_seq (ix_dict (u1 hr))) k_ixE (pk_var (pv 0)) (PD.pk pd_int) (fun _ _ => rfl))) (pod_some (pk_var (pv 4))) (pod_some (PD.pk (pd_op op_addD k_addD (pk_var (pv 5)) (PD.pk pd_int)))))) pak_nil)) pad_nil) (fun _ h => pe_bm PySem.F.plainAttrs_list PySem.F.slot_list_append PySem.F.type_list_append mt_append (pv 2) h)))
    pssd_nil)))))))
    (pssd_one (psd_ret (PFD.pd (pf_callB (cr_sortG hr.units) k_sortG rfl T.f_sorted (by kernel_rfl) (pak_cons (pk_var (pv 2)) pak_nil)))))))
theorem at_law_runs (T : Fx K mg cls tk C_Shelf) : FnAt P w K mg base ⟨K, cls, none⟩ "_law_runs" 2 [false] false [] F_law_runs := by
  obtain ⟨a, fd, hm, D, G⟩ := ok_law_runs T
  exact ⟨a, fd, ["_law_world_here"], [], [], hm, D.kp, G, D.bindsN fun _ _ _ _ _ _ us hl => match us, hl with | [_], _ => rfl, .nil, fun _ _ => Reps.nil⟩
def N_law_unspoilt : List Str := ["_law_shelf_here", "_law_world_here"]
theorem sc_law_unspoilt : FnScope N_law_unspoilt ["_law_shelf_here", "_law_world_here"] (defScope (top 57)) := ⟨rfl, rfl, rfl, by decide +kernel, rfl, by decide +kernel, by decide +kernel⟩
def W_law_unspoilt : TDS := (tRetD (tAndVD (tFn F_law_exact [] (tConsA (tLstD (tConsA (tMetD "Shelf" "catalogue" F_Shelf_catalogue (tVarD 0) tNilA) (tConsA (tMetD "Shelf" "row" F_Shelf_row (tVarD 0) tNilA) tNilA))) (tConsA (tLstD (tConsA (tCall listE (tConsA (t2 ixE (tVarK 1) (tCD (.int 0))) tNilA)) (tConsA (tCall listE (tConsA (t2 ixE (tVarK 1) (tCD (.int 1))) tNilA)) tNilA))) tNilA))) (t2N (eqQ "Shelf" F_Shelf_eq) (tVarK 0) (tFn F_law_shelf [] (tConsA (tVarD 1) tNilA)))))
noncomputable def F_law_unspoilt : FnD := sealD (runD 2 [false, false] false W_law_unspoilt)
theorem F_law_unspoilt_eq : F_law_unspoilt = runD 2 [false, false] false W_law_unspoilt := sealD_eq _
theorem ok_law_unspoilt (T : Fx K mg cls tk C_Shelf) : ∃ (a : Addr) (fd : FuncData), mg "_law_unspoilt" = some (.ref a) ∧ FunD K "_law_unspoilt" "_law_unspoilt" (defArgs (top 57)) (defBody (top 57)) (defScope (top 57)) [] [] a fd ∧ FnOk P w K mg base CX0 10 a fd ["_law_shelf_here", "_law_world_here"] (spD ⟨K, cls, none⟩ [false, false] false F_law_unspoilt) := by
  rw [F_law_unspoilt_eq]
  obtain ⟨a, fd, hm, D⟩ := T.d_law_unspoilt
  refine ⟨a, fd, hm, D, fn_ok D sc_law_unspoilt rfl (by decide) (fun cdv A outer s H E hr => ?_)⟩
  have S := sc_law_unspoilt
  exact (pssd_one (psd_ret (pd_and (pd_call (ms1 := [true, false]) (dd := []) ((at_law_exact T)) (hr.mono (by decide)) rfl (pam_sk (PFD.pd (pf_lst (pad_cons (pd_meth0 (at_Shelf_catalogue T) (hr.mono (by decide)) (pd_var (pv 0))) (pad_cons (pd_meth0 (at_Shelf_row T) (hr.mono (by decide)) (pd_var (pv 0))) pad_nil)))) (pam_sh (PFD.pd (pf_lst (pad_cons (PFD.pd (pf_callT (call_listE rfl) k_listE rfl T.f_list (by kernel_rfl) (pak_cons (PD.pk (pd_ix (ix_or ix_seq (ix_dict (u1 hr))) k_ixE (pk_var (pv 1)) (PD.pk pd_int) (fun _ _ => rfl))) pak_nil))) (pad_cons (PFD.pd (pf_callT (call_listE rfl) k_listE rfl T.f_list (by kernel_rfl) (pak_cons (PD.pk (pd_ix (ix_or ix_seq (ix_dict (u1 hr))) k_ixE (pk_var (pv 1)) (PD.pk pd_int) (fun _ _ => rfl))) pak_nil))) pad_nil)))) pam_nil))) (pd_one (pd_cmpN (((op_eqD hr.units).or (op_eqO rfl (at_Shelf_eq T) (eqc_Shelf T) (hr.mono (by decide)))).or (op_eqR rfl (at_Shelf_eq T) (eqc_Shelf T) (hr.mono (by decide)))) k_eqQ (pk_var (pv 0)) (PD.pk (pd_call (ms1 := [false]) (dd := []) ((at_law_shelf T)) (hr.mono (by decide)) rfl (pam_sh (pd_var (pv 1)) pam_nil))) (nomark _))))))
theorem at_law_unspoilt (T : Fx K mg cls tk C_Shelf) : FnAt P w K mg base ⟨K, cls, none⟩ "_law_unspoilt" 10 [false, false] false [] F_law_unspoilt := by
  obtain ⟨a, fd, hm, D, G⟩ := ok_law_unspoilt T
  exact ⟨a, fd, ["_law_shelf_here", "_law_world_here"], [], [], hm, D.kp, G, D.bindsN fun _ _ _ _ _ _ us hl => match us, hl with | [_, _], _ => rfl, .nil, fun _ _ => Reps.nil⟩
def N_law_many : List Str := ["_law_purse_here"]
theorem sc_law_many : FnScope N_law_many ["_law_purse_here"] (defScope (top 58)) := ⟨rfl, rfl, rfl, by decide +kernel, rfl, by decide +kernel, by decide +kernel⟩
def W_law_many : TDS := (tRetD (tIfE (tTst (t2 eqD (tFn F_law_draw [] (tConsA (tVarD 0) (tConsA (tCD (.int 4)) tNilA))) (tCD (.int 0)))) (t2 ixE (tLstD (tConsA (tCD (.int 1)) (tConsA (tCD (.int 2)) (tConsA (tCD (.int 3)) (tConsA (tCD (.int 12)) tNilA))))) (tFn F_law_draw [] (tConsA (tVarD 0) (tConsA (tCD (.int 4)) tNilA)))) (t2 addD (tCD (.int 3)) (tFn F_law_draw [] (tConsA (tVarD 0) (tConsA (tCD (.int 7)) tNilA))))))
noncomputable def F_law_many : FnD := sealD (runD 1 [false] false W_law_many)
theorem F_law_many_eq : F_law_many = runD 1 [false] false W_law_many := sealD_eq _
theorem ok_law_many (T : Fx K mg cls tk C_Shelf) : ∃ (a : Addr) (fd : FuncData), mg "_law_many" = some (.ref a) ∧ FunD K "_law_many" "_law_many" (defArgs (top 58)) (defBody (top 58)) (defScope (top 58)) [] [] a fd ∧ FnOk P w K mg base CX0 3 a fd ["_law_purse_here"] (spD ⟨K, cls, none⟩ [false] false F_law_many) := by
  rw [F_law_many_eq]
  obtain ⟨a, fd, hm, D⟩ := T.d_law_many
  refine ⟨a, fd, hm, D, fn_ok D sc_law_many rfl (by decide) (fun cdv A outer s H E hr => ?_)⟩
  have S := sc_law_many
  exact (pssd_one (psd_ret (pd_ifE (ptd_cmp (op_eqD hr.units) k_eqD (PD.pk (pd_call (ms1 := [false, false]) (dd := []) ((at_law_draw T)) (hr.mono (by decide)) rfl (pam_sh (pd_var (pv 0)) (pam_sh pd_int pam_nil)))) (PD.pk pd_int) (nomark _)) (pd_ix (ix_or ix_seq (ix_dict (u1 hr))) k_ixE (PD.pk (PFD.pd (pf_lst (pad_cons pd_int (pad_cons pd_int (pad_cons pd_int (pad_cons pd_int pad_nil))))))) (PD.pk (pd_call (ms1 := [false, false]) (dd := []) ((at_law_draw T)) (hr.mono (by decide)) rfl (pam_sh (pd_var (pv 0)) (pam_sh pd_int pam_nil)))) (fun _ _ => rfl)) (pd_op op_addD k_addD (PD.pk pd_int) (PD.pk (pd_call (ms1 := [false, false]) (dd := []) ((at_law_draw T)) (hr.mono (by decide)) rfl (pam_sh (pd_var (pv 0)) (pam_sh pd_int pam_nil))))))))
theorem at_law_many (T : Fx K mg cls tk C_Shelf) : FnAt P w K mg base ⟨K, cls, none⟩ "_law_many" 3 [false] false [] F_law_many := by
  obtain ⟨a, fd, hm, D, G⟩ := ok_law_many T
  exact ⟨a, fd, ["_law_purse_here"], [], [], hm, D.kp, G, D.bindsN fun _ _ _ _ _ _ us hl => match us, hl with | [_], _ => rfl, .nil, fun _ _ => Reps.nil⟩
def N_law_pair_right : List Str := ["_law_world_here", "_law_shelf_here", "_law_one", "_law_other", "_law_runs_here", "_law_is_so", "_law_both", "_law_some", "_law_rests", "_law_turn_here", "_law_piece", "_law_told", "_law_book"]
theorem sc_law_pair_right : FnScope N_law_pair_right ["_law_world_here", "_law_shelf_here", "_law_one", "_law_other", "_law_runs_here"] (defScope (top 59)) := ⟨rfl, rfl, rfl, by decide +kernel, rfl, by decide +kernel, by decide +kernel⟩
def W_law_pair_right : TDS := (tSeqD (tSetD 5 (tFn F_law_overlap [] (tConsA (tVarD 2) (tConsA (tVarD 3) tNilA)))) (tSeqD (tIfD (tNotD (tTst (tFn F_law_exact [] (tConsA (tLstD (tConsA (tFn F_overlap [] (tConsA (tVarD 1) (tConsA (tVarD 2) (tConsA (tVarD 3) tNilA)))) (tConsA (tFn F_overlap [] (tConsA (tVarD 1) (tConsA (tVarD 3) (tConsA (tVarD 2) tNilA)))) tNilA))) (tConsA (tLstD (tConsA (tVarD 5) (tConsA (tVarD 5) tNilA))) tNilA))))) (tRetD (tCD (.bl false))) tNextD) (tSeqD (tIfD (tNotD (tTst (tVarK 5))) (tRetD (tCD (.bl true))) tNextD) (tSeqD (tParD false false 6 7 (tLcD (tItT (tVarK 2)) (.nm 12) (tTst (t2 inE (tVarK 12) (tVarK 3))) (tVarD 12) [12]) (tLcD (tItL (t2 ixE (tVarK 0) (tCD (.int 0)))) (.nm 12) (tOrD (tTst (t2 inE (tVarK 12) (tVarK 2))) (tTst (t2 inE (tVarK 12) (tVarK 3)))) (tVarD 12) [12])) (tSeqD (tSetD 8 (tLstD (tConsA (tCall tupleD (tConsA (tLcD (tItT (tVarK 2)) (.nm 12) (tTst (t2 ninE (tVarK 12) (tVarK 3))) (tVarD 12) [12]) tNilA)) (tConsA (tCall tupleD (tConsA (tLcD (tItT (tVarK 3)) (.nm 12) (tTst (t2 ninE (tVarK 12) (tVarK 2))) (tVarD 12) [12]) tNilA)) tNilA)))) (tSeqD (tForD (tRng1 (tCD (.int 2))) (.nm 9) (tSpoil 11 (tConsA (tFn F_meet_of [] (tConsA (tVarD 1) (tConsA (tVarD 2) (tConsA (tVarD 3) tNilA)))) (tConsA (tFn F_union_of [] (tConsA (tVarD 1) (tConsA (tVarD 2) (tConsA (tVarD 3) tNilA)))) (tConsA (tFn F_rests_of [] (tConsA (tVarD 1) (tConsA (tVarD 2) (tConsA (tVarD 3) tNilA)))) (tConsA (tFn F_rests_of [] (tConsA (tVarD 1) (tConsA (tVarD 3) (tConsA (tVarD 2) tNilA)))) tNilA)))) (tSpIf (tNotD (tTst (tFn F_law_exact [] (tConsA (tVarD 11) (tConsA (tLstD (tConsA (tCall tupleD (tConsA (tVarK 6) tNilA)) (tConsA (tCall tupleD (tConsA (tVarK 7) tNilA)) (tConsA (tVarD 8) (tConsA (tRevD (tVarK 8)) tNilA))))) tNilA))))) (tRetD (tCD (.bl false))) (tSpGo 11 (tSpApp [false, false, true, true] 2 0 (tSpSet [false, false, true, true] 3 0 (tSpEnd tNextD))))))) (tSeqD (tIfD (tNotD (tTst (tFn F_law_exact [] (tConsA (tLstD (tConsA (tFn F_meet_of [] (tConsA (tVarD 1) (tConsA (tVarD 3) (tConsA (tVarD 2) tNilA)))) (tConsA (tFn F_union_of [] (tConsA (tVarD 1) (tConsA (tVarD 3) (tConsA (tVarD 2) tNilA)))) tNilA))) (tConsA (tLstD (tConsA (tCall tupleD (tConsA (tVarK 6) tNilA)) (tConsA (tCall tupleD (tConsA (tVarK 7) tNilA)) tNilA))) tNilA))))) (tRetD (tCD (.bl false))) tNextD) (tSeqD (tForD (tItL (t2 addD (tLstD (tConsA (tCall tupleD (tConsA (tVarK 6) tNilA)) (tConsA (tCall tupleD (tConsA (tVarK 7) tNilA)) tNilA))) (tVarK 8))) (.nm 10) (tIfD (tOrD (tAndD (tTst (t2 ninE (tVarK 10) (tVarK 4))) (tTst (t2 neD (tCall lenD (tConsA (tVarK 10) tNilA)) (tCD (.int 1))))) (tTst (t2 neD (tFn F_is_run [] (tConsA (tVarD 1) (tConsA (tVarD 10) tNilA))) (t2 gtD (tCall lenD (tConsA (tVarK 10) tNilA)) (tCD (.int 1)))))) (tRetD (tCD (.bl false))) tNextD)) (tRetD (tCD (.bl true)))))))))))
noncomputable def F_law_pair_right : FnD := sealD (runD 13 [false, false, false, false, false] false W_law_pair_right)
theorem F_law_pair_right_eq : F_law_pair_right = runD 13 [false, false, false, false, false] false W_law_pair_right := sealD_eq _
theorem ok_law_pair_right (T : Fx K mg cls tk C_Shelf) : ∃ (a : Addr) (fd : FuncData), mg "_law_pair_right" = some (.ref a) ∧ FunD K "_law_pair_right" "_law_pair_right" (defArgs (top 59)) (defBody (top 59)) (defScope (top 59)) [] [] a fd ∧ FnOk P w K mg base CX0 10 a fd ["_law_world_here", "_law_shelf_here", "_law_one", "_law_other", "_law_runs_here"] (spD ⟨K, cls, none⟩ [false, false, false, false, false] false F_law_pair_right) := by
  rw [F_law_pair_right_eq]
  obtain ⟨a, fd, hm, D⟩ := T.d_law_pair_right
  refine ⟨a, fd, hm, D, fn_ok D sc_law_pair_right rfl (by decide) (fun cdv A outer s H E hr => ?_)⟩
  have S := sc_law_pair_right
  exact (pssd_cons (psd_set (i := 5) S.nd rfl (Or.inl rfl) (pd_call (ms1 := [false, false]) (dd := []) ((at_law_overlap T)) (hr.mono (by decide)) rfl (pam_sh (pd_var (pv 2)) (pam_sh (pd_var (pv 3)) pam_nil))))
    (pssd_cons (psd_if (ptd_not (ptd_val (PD.pk (pd_call (ms1 := [true, false]) (dd := []) ((at_law_exact T)) (hr.mono (by decide)) rfl (pam_sk (PFD.pd (pf_lst (pad_cons (pd_call (ms1 := [false, false, false]) (dd := []) ((at_overlap T)) (hr.mono (by decide)) rfl (pam_sh (pd_var (pv 1)) (pam_sh (pd_var (pv 2)) (pam_sh (pd_var (pv 3)) pam_nil)))) (pad_cons (pd_call (ms1 := [false, false, false]) (dd := []) ((at_overlap T)) (hr.mono (by decide)) rfl (pam_sh (pd_var (pv 1)) (pam_sh (pd_var (pv 3)) (pam_sh (pd_var (pv 2)) pam_nil)))) pad_nil)))) (pam_sh (PFD.pd (pf_lst (pad_cons (pd_var (pv 5)) (pad_cons (pd_var (pv 5)) pad_nil)))) pam_nil)))))) (pssd_one (psd_ret pd_bl))
    pssd_nil)
    (pssd_cons (psd_if (ptd_not (ptd_val (pk_var (pv 5)))) (pssd_one (psd_ret pd_bl))
    pssd_nil)
    (pssd_cons (psd_par (i := 6) (j := 7) rfl S.nd rfl rfl (by decide) rfl rfl (PD.pxd (PFD.pd (pf_lc (own := [("_law_book", 12)]) (g := (.nm 12)) rfl rfl S.nd (pi_tupD rfl (pk_var (pv 2))) (blkOk_by (N := N_law_pair_right) (own := [("_law_book", 12)]) (sc := defScope (top 59)) (by decide +kernel)) (fun _ _ _ _ _ => (pg_name (i := 12) S.nd rfl (Or.inl rfl))) (by decide) (fun _ _ _ _ _ => (ptsd_one (ptd_cmp (op_inE (u65 hr)) k_inE (pk_var (pv 12)) (pk_var (pv 3)) (by rfl)))) (fun _ _ _ _ _ => (pd_var (pv 12)))))) (PD.pxd (PFD.pd (pf_lc (own := [("_law_book", 12)]) (g := (.nm 12)) rfl rfl S.nd (pi_lstD rfl (PD.pk (pd_ix (ix_or ix_seq (ix_dict (u1 hr))) k_ixE (pk_var (pv 0)) (PD.pk pd_int) (fun _ _ => rfl)))) (blkOk_by (N := N_law_pair_right) (own := [("_law_book", 12)]) (sc := defScope (top 59)) (by decide +kernel)) (fun _ _ _ _ _ => (pg_name (i := 12) S.nd rfl (Or.inl rfl))) (by decide) (fun _ _ _ _ _ => (ptsd_one (PWD.pt (pwd_or (ptd_cmp (op_inE (u65 hr)) k_inE (pk_var (pv 12)) (pk_var (pv 2)) (by rfl)) (pwd_or1 (ptd_cmp (op_inE (u65 hr)) k_inE (pk_var (pv 12)) (pk_var (pv 3)) (by rfl))))))) (fun _ _ _ _ _ => (pd_var (pv 12)))))) (by rfl))
    (pssd_cons (psd_set (i := 8) S.nd rfl (Or.inl rfl) (PFD.pd (pf_lst (pad_cons (pd_callT call_tuple_of k_tuple rfl T.f_tuple (by kernel_rfl) (pak_cons (PD.pk (PFD.pd (pf_lc (own := [("_law_book", 12)]) (g := (.nm 12)) rfl rfl S.nd (pi_tupD rfl (pk_var (pv 2))) (blkOk_by (N := N_law_pair_right) (own := [("_law_book", 12)]) (sc := defScope (top 59)) (by decide +kernel)) (fun _ _ _ _ _ => (pg_name (i := 12) S.nd rfl (Or.inl rfl))) (by decide) (fun _ _ _ _ _ => (ptsd_one (ptd_cmp (op_ninE (u65 hr)) k_ninE (pk_var (pv 12)) (pk_var (pv 3)) (by rfl)))) (fun _ _ _ _ _ => (pd_var (pv 12)))))) pak_nil)) (pad_cons (pd_callT call_tuple_of k_tuple rfl T.f_tuple (by kernel_rfl) (pak_cons (PD.pk (PFD.pd (pf_lc (own := [("_law_book", 12)]) (g := (.nm 12)) rfl rfl S.nd (pi_tupD rfl (pk_var (pv 3))) (blkOk_by (N := N_law_pair_right) (own := [("_law_book", 12)]) (sc := defScope (top 59)) (by decide +kernel)) (fun _ _ _ _ _ => (pg_name (i := 12) S.nd rfl (Or.inl rfl))) (by decide) (fun _ _ _ _ _ => (ptsd_one (ptd_cmp (op_ninE (u65 hr)) k_ninE (pk_var (pv 12)) (pk_var (pv 2)) (by rfl)))) (fun _ _ _ _ _ => (pd_var (pv 12)))))) pak_nil)) pad_nil)))))
    (pssd_cons (psd_for rfl PassesOwn.never rfl (pj_rng1 rfl T.f_range (PD.pk pd_int)) (pg_name (i := 9) S.nd rfl (Or.inl rfl))
    (pssd_spoil (i := 11) (fl := [false, false, true, true]) S.nd rfl (Or.inl rfl) (pxa_sh (pd_call (ms1 := [false, false, false]) (dd := []) ((at_meet_of T)) (hr.mono (by decide)) rfl (pam_sh (pd_var (pv 1)) (pam_sh (pd_var (pv 2)) (pam_sh (pd_var (pv 3)) pam_nil)))) (pxa_sh (pd_call (ms1 := [false, false, false]) (dd := []) ((at_union_of T)) (hr.mono (by decide)) rfl (pam_sh (pd_var (pv 1)) (pam_sh (pd_var (pv 2)) (pam_sh (pd_var (pv 3)) pam_nil)))) (pxa_fr (pf_call (ms1 := [false, false, false]) (dd := []) ((at_rests_of T)) (hr.mono (by decide)) rfl (pam_sh (pd_var (pv 1)) (pam_sh (pd_var (pv 2)) (pam_sh (pd_var (pv 3)) pam_nil)))) (pxa_fr (pf_call (ms1 := [false, false, false]) (dd := []) ((at_rests_of T)) (hr.mono (by decide)) rfl (pam_sh (pd_var (pv 1)) (pam_sh (pd_var (pv 3)) (pam_sh (pd_var (pv 2)) pam_nil)))) pxa_nil))))
    (psa_if (ptd_not (ptd_val (PD.pk (pd_call (ms1 := [true, false]) (dd := []) ((at_law_exact T)) (hr.mono (by decide)) rfl (pam_sk (pd_var (pv 11)) (pam_sh (PFD.pd (pf_lst (pad_cons (pd_callT call_tuple_of k_tuple rfl T.f_tuple (by kernel_rfl) (pak_cons (pk_var (pv 6)) pak_nil)) (pad_cons (pd_callT call_tuple_of k_tuple rfl T.f_tuple (by kernel_rfl) (pak_cons (pk_var (pv 7)) pak_nil)) (pad_cons (pd_var (pv 8)) (pad_cons (PFD.pd (pf_rev rfl (pk_var (pv 8)))) pad_nil)))))) pam_nil)))))) (pssd_one (psd_ret pd_bl))
    (psa_mut (psp_app (k := 2) (pv 11) any_tup0 (psp_set (k := 3) (m := 0) (any_C pe_str) (psp_end pssd_nil) (pe_ix ix_list (pv 11) pe_int (fun _ _ => rfl))) (fun _ h h0 => pe_bm PySem.F.plainAttrs_list PySem.F.slot_list_append PySem.F.type_list_append mt_append h0 h) (pe_ix ix_list (pv 11) pe_int (fun _ _ => rfl)))))))
    (pssd_cons (psd_if (ptd_not (ptd_val (PD.pk (pd_call (ms1 := [true, false]) (dd := []) ((at_law_exact T)) (hr.mono (by decide)) rfl (pam_sk (PFD.pd (pf_lst (pad_cons (pd_call (ms1 := [false, false, false]) (dd := []) ((at_meet_of T)) (hr.mono (by decide)) rfl (pam_sh (pd_var (pv 1)) (pam_sh (pd_var (pv 3)) (pam_sh (pd_var (pv 2)) pam_nil)))) (pad_cons (pd_call (ms1 := [false, false, false]) (dd := []) ((at_union_of T)) (hr.mono (by decide)) rfl (pam_sh (pd_var (pv 1)) (pam_sh (pd_var (pv 3)) (pam_sh (pd_var (pv 2)) pam_nil)))) pad_nil)))) (pam_sh (PFD.pd (pf_lst (pad_cons (pd_callT call_tuple_of k_tuple rfl T.f_tuple (by kernel_rfl) (pak_cons (pk_var (pv 6)) pak_nil)) (pad_cons (pd_callT call_tuple_of k_tuple rfl T.f_tuple (by kernel_rfl) (pak_cons (pk_var (pv 7)) pak_nil)) pad_nil)))) pam_nil)))))) (pssd_one (psd_ret pd_bl))
    pssd_nil)
    (pssd_cons (psd_for rfl PassesOwn.never rfl (pj_lstD rfl (pd_op op_addD k_addD (PD.pk (PFD.pd (pf_lst (pad_cons (pd_callT call_tuple_of k_tuple rfl T.f_tuple (by kernel_rfl) (pak_cons (pk_var (pv 6)) pak_nil)) (pad_cons (pd_callT call_tuple_of k_tuple rfl T.f_tuple (by kernel_rfl) (pak_cons (pk_var (pv 7)) pak_nil)) pad_nil))))) (pk_var (pv 8)))) (pg_name (i := 10) S.nd rfl (Or.inl rfl))
    (pssd_one (psd_if (PWD.pt (pwd_or (PWD.pt (pwd_and (ptd_cmp (op_ninE (u65 hr)) k_ninE (pk_var (pv 10)) (pk_var (pv 4)) (by rfl)) (pwd_and1 (ptd_cmp (op_neD hr.units) k_neD (PD.pk (pd_callB call_len k_len rfl T.f_len (by kernel_rfl) (pak_cons (pk_var (pv 10)) pak_nil))) (PD.pk pd_int) (nomark _))))) (pwd_or1 (ptd_cmp (op_neD hr.units) k_neD (PD.pk (pd_call (ms1 := [false, false]) (dd := []) ((at_is_run T)) (hr.mono (by decide)) rfl (pam_sh (pd_var (pv 1)) (pam_sh (pd_var (pv 10)) pam_nil)))) (PD.pk (pd_cmp op_gt k_cmpA (PD.pk (pd_callB call_len k_len rfl T.f_len (by kernel_rfl) (pak_cons (pk_var (pv 10)) pak_nil))) (PD.pk pd_int) (nomark _))) (nomark _))))) (pssd_one (psd_ret pd_bl))
    pssd_nil)))
    (pssd_one (psd_ret pd_bl))))))))))
theorem at_law_pair_right (T : Fx K mg cls tk C_Shelf) : FnAt P w K mg base ⟨K, cls, none⟩ "_law_pair_right" 10 [false, false, false, false, false] false [] F_law_pair_right := by
  obtain ⟨a, fd, hm, D, G⟩ := ok_law_pair_right T
  exact ⟨a, fd, ["_law_world_here", "_law_shelf_here", "_law_one", "_law_other", "_law_runs_here"], [], [], hm, D.kp, G, D.bindsN fun _ _ _ _ _ _ us hl => match us, hl with | [_, _, _, _, _], _ => rfl, .nil, fun _ _ => Reps.nil⟩
def N_law_right : List Str := ["_law_purse_here", "_law_world_here", "_law_shelf_here", "_law_runs_here", "_law_some", "_law_dues", "_law_twos", "_law_told", "_law_row", "_law_two", "_law_one", "_law_other", "_law_rests", "_law_due", "_law_turn_here", "_law_book"]
theorem sc_law_right : FnScope N_law_right ["_law_purse_here"] (defScope (top 60)) := ⟨rfl, rfl, rfl, by decide +kernel, rfl, by decide +kernel, by decide +kernel⟩
def W_law_right : TDS := (tSeqD (tSetD 1 (tFn F_law_world [] (tConsA (tVarD 0) (tConsA (tFn F_law_many [] (tConsA (tVarD 0) tNilA)) tNilA)))) (tSeqD (tParD false false 2 3 (tFn F_law_shelf [] (tConsA (tVarD 1) tNilA)) (tFn F_law_runs [] (tConsA (tVarD 1) tNilA))) (tSeqD (tSetD 4 (tSlD slD (tFn F_law_shuffled [] (tConsA (tVarD 0) (tConsA (tVarD 3) tNilA))) tNoD (tPartD (tCD (.int 30))))) (tSeqD (tSetD 5 (tLcD (tItL (tVarK 4)) (.nm 10) tYesD (tLcD (tItL (tVarK 3)) (.nm 11) (tTst (tFn F_law_overlap [] (tConsA (tVarD 10) (tConsA (tVarD 11) tNilA)))) (tVarD 11) [11]) [10])) (tSeqD (tIfD (tNotD (tTst (tFn F_law_exact [] (tConsA (tLcD (tItL (tVarK 4)) (.nm 10) tYesD (tFn F_overlapping [] (tConsA (tVarD 2) (tConsA (tVarD 10) tNilA))) [10]) (tConsA (tVarD 5) tNilA))))) (tRetD (tCD (.bl false))) tNextD) (tSeqD (tSetD 6 (tSlD slD (tLcD (tZipA (tVarK 4) (tVarK 5)) (.tp [10, 8]) (tTst (t2 neD (tVarK 8) (tLstD tNilA))) (tTupD (tConsA (tVarD 10) (tConsA (t2 ixE (tVarK 8) (tCD (.int 0))) tNilA))) [10, 8]) tNoD (tPartD (tCD (.int 6))))) (tSeqD (tSetO 7 (tLcD (tItL (tVarK 6)) (.tp [10, 11]) tYesD (tFn F_rests_of [] (tConsA (tVarD 2) (tConsA (tVarD 10) (tConsA (tVarD 11) tNilA)))) [10, 11])) (tSeqD (tFz [7] (tForD (tZip (tVarD 7) (tVarD 6)) (.tp [8, 9]) (tSeqD (tAsgD (tVarD 9) (.tp [10, 11])) (tSeqD (tSetD 12 (tLstD (tConsA (tCall tupleD (tConsA (tLcD (tItT (tVarK 10)) (.nm 15) (tTst (t2 ninE (tVarK 15) (tVarK 11))) (tVarD 15) [15]) tNilA)) (tConsA (tCall tupleD (tConsA (tLcD (tItT (tVarK 11)) (.nm 15) (tTst (t2 ninE (tVarK 15) (tVarK 10))) (tVarD 15) [15]) tNilA)) tNilA)))) (tIfD (tNotD (tTst (tFn F_law_exact [] (tConsA (tVarD 8) (tConsA (tVarD 12) tNilA))))) (tRetD (tCD (.bl false))) tNextD))))) (tSeqD (tForD (tItL (tVarD 4)) (.nm 10) (tSeqD (tSetD 13 (tLcD (tItL (tVarK 3)) (.nm 11) (tTst (tFn F_law_overlap [] (tConsA (tVarD 10) (tConsA (tVarD 11) tNilA)))) (tVarD 11) [11])) (tSeqD (tForD (tRng1 (tCD (.int 2))) (.nm 14) (tSeqD (tSetO 7 (tFn F_overlapping [] (tConsA (tVarD 2) (tConsA (tVarD 10) tNilA)))) (tSeqD (tIfD (tNotD (tTst (tFn F_law_exact [] (tConsK (tVarK 7) (tConsA (tVarD 13) tNilA))))) (tRetD (tCD (.bl false))) tNextD) (tMutD 7 appendM (tConsA (tVarD 10) tNilA))))) (tForD (tItL (tVarD 4)) (.nm 11) (tIfD (tNotD (tTst (tFn F_law_pair_right [] (tConsA (tVarD 1) (tConsA (tVarD 2) (tConsA (tVarD 10) (tConsA (tVarD 11) (tConsA (tVarD 3) tNilA)))))))) (tRetD (tCD (.bl false))) tNextD))))) (tRetD (tFn F_law_unspoilt [] (tConsA (tVarD 2) (tConsA (tVarD 1) tNilA)))))))))))))
noncomputable def F_law_right : FnD := sealD (runD 16 [false] false W_law_right)
theorem F_law_right_eq : F_law_right = runD 16 [false] false W_law_right := sealD_eq _
theorem ok_law_right (T : Fx K mg cls tk C_Shelf) : ∃ (a : Addr) (fd : FuncData), mg "_law_right" = some (.ref a) ∧ FunD K "_law_right" "_law_right" (defArgs (top 60)) (defBody (top 60)) (defScope (top 60)) [] [] a fd ∧ FnOk P w K mg base CX0 11 a fd ["_law_purse_here"] (spD ⟨K, cls, none⟩ [false] false F_law_right) := by
  rw [F_law_right_eq]
  obtain ⟨a, fd, hm, D⟩ := T.d_law_right
  refine ⟨a, fd, hm, D, fn_ok D sc_law_right rfl (by decide) (fun cdv A outer s H E hr => ?_)⟩
  have S := sc_law_right
  exact (pssd_cons (psd_set (i := 1) S.nd rfl (Or.inl rfl) (pd_call (ms1 := [false, false]) (dd := []) ((at_law_world T)) (hr.mono (by decide)) rfl (pam_sh (pd_var (pv 0)) (pam_sh (pd_call (ms1 := [false]) (dd := []) ((at_law_many T)) (hr.mono (by decide)) rfl (pam_sh (pd_var (pv 0)) pam_nil)) pam_nil))))
    (pssd_cons (psd_parT rfl (pg_name (i := 2) S.nd rfl (Or.inr rfl)) (pg_name (i := 3) S.nd rfl (Or.inr rfl)) (PD.pxd (pd_call (ms1 := [false]) (dd := []) ((at_law_shelf T)) (hr.mono (by decide)) rfl (pam_sh (pd_var (pv 1)) pam_nil))) (PD.pxd (pd_call (ms1 := [false]) (dd := []) ((at_law_runs T)) (hr.mono (by decide)) rfl (pam_sh (pd_var (pv 1)) pam_nil))))
    (pssd_cons (psd_set (i := 4) S.nd rfl (Or.inl rfl) (pd_slice op_slD k_slD (PD.pk (pd_call (ms1 := [false, true]) (dd := []) ((at_law_shuffled T)) (hr.mono (by decide)) rfl (pam_sh (pd_var (pv 0)) (pam_sk (pd_var (pv 3)) pam_nil)))) pod_none (pod_some (PD.pk pd_int))))
    (pssd_cons (psd_setLc (i := 5) (own := [("_law_one", 10)]) (g := (.nm 10)) rfl rfl S.nd rfl rfl (sw_true rfl rfl rfl (by decide +kernel)) (pi_lstD rfl (pk_var (pv 4))) (blkOk_by (N := N_law_right) (own := [("_law_one", 10)]) (sc := defScope (top 60)) (by decide +kernel)) (fun _ _ _ _ _ => (pg_name (i := 10) S.nd rfl (Or.inr rfl))) (by decide) (fun _ _ _ _ _ => ptsd_nil) (fun _ _ _ _ _ => (PFD.pd (pf_lc (own := [("_law_other", 11)]) (g := (.nm 11)) rfl rfl S.nd (pi_lstD rfl (pk_var (pv 3))) (blkOk_by (own := [("_law_other", 11)]) (by kernel_rfl)) (fun _ _ _ _ _ => (pg_name (i := 11) S.nd rfl (Or.inl rfl))) (by decide) (fun _ _ _ _ _ => (ptsd_one (ptd_val (PD.pk (pd_call (ms1 := [false, false]) (dd := []) ((at_law_overlap T)) (hr.mono (by decide)) rfl (pam_sh (pd_var (pv 10)) (pam_sh (pd_var (pv 11)) pam_nil))))))) (fun _ _ _ _ _ => (pd_var (pv 11)))))))
    (pssd_cons (psd_if (ptd_not (ptd_val (PD.pk (pd_call (ms1 := [true, false]) (dd := []) ((at_law_exact T)) (hr.mono (by decide)) rfl (pam_sk (PFD.pd (pf_lc (own := [("_law_one", 10)]) (g := (.nm 10)) rfl rfl S.nd (pi_lstD rfl (pk_var (pv 4))) (blkOk_by (N := N_law_right) (own := [("_law_one", 10)]) (sc := defScope (top 60)) (by decide +kernel)) (fun _ _ _ _ _ => (pg_name (i := 10) S.nd rfl (Or.inl rfl))) (by decide) (fun _ _ _ _ _ => ptsd_nil) (fun _ _ _ _ _ => (PFD.pd (pf_call (ms1 := [false, false]) (dd := []) ((at_overlapping T)) (hr.mono (by decide)) rfl (pam_sh (pd_var (pv 2)) (pam_sh (pd_var (pv 10)) pam_nil))))))) (pam_sh (pd_var (pv 5)) pam_nil)))))) (pssd_one (psd_ret pd_bl))
    pssd_nil)
    (pssd_cons (psd_set (i := 6) S.nd rfl (Or.inl rfl) (pd_slice op_slD k_slD (PD.pk (PFD.pd (pf_lc (own := [("_law_one", 10), ("_law_row", 8)]) (g := (.tp [10, 8])) rfl rfl S.nd (pi_zipB rfl rfl T.f_zip (pk_var (pv 4)) (pk_var (pv 5))) (blkOk_by (N := N_law_right) (own := [("_law_one", 10), ("_law_row", 8)]) (sc := defScope (top 60)) (by decide +kernel)) (fun _ _ _ _ _ => (pg_tup rfl (pgs_cons (pg_name (i := 10) S.nd rfl (Or.inl rfl)) (pgs_cons (pg_name (i := 8) S.nd rfl (Or.inl rfl)) pgs_nil)))) (by decide) (fun _ _ _ _ _ => (ptsd_one (ptd_cmp (op_neD hr.units) k_neD (pk_var (pv 8)) (PD.pk (PFD.pd (pf_lst pad_nil))) (nomark _)))) (fun _ _ _ _ _ => (pd_tup (pad_cons (pd_var (pv 10)) (pad_cons (pd_ix (ix_or ix_seq (ix_dict (u1 hr))) k_ixE (pk_var (pv 8)) (PD.pk pd_int) (fun _ _ => rfl)) pad_nil))))))) pod_none (pod_some (PD.pk pd_int))))
    (pssd_cons (psd_setLcO (i := 7) (own := [("_law_one", 10), ("_law_other", 11)]) (g := (.tp [10, 11])) rfl rfl S.nd rfl rfl (sw_true rfl rfl rfl (by decide +kernel)) (pi_lstD rfl (pk_var (pv 6))) (blkOk_by (N := N_law_right) (own := [("_law_one", 10), ("_law_other", 11)]) (sc := defScope (top 60)) (by decide +kernel)) (fun _ _ _ _ _ => (pg_tup rfl (pgs_cons (pg_name (i := 10) S.nd rfl (Or.inl rfl)) (pgs_cons (pg_name (i := 11) S.nd rfl (Or.inl rfl)) pgs_nil)))) (by decide) (fun _ _ _ _ _ => ptsd_nil) (fun _ _ _ _ _ => (PFD.pd (pf_call (ms1 := [false, false, false]) (dd := []) ((at_rests_of T)) (hr.mono (by decide)) rfl (pam_sh (pd_var (pv 2)) (pam_sh (pd_var (pv 10)) (pam_sh (pd_var (pv 11)) pam_nil)))))))
    (pssd_cons (psd_fz [7] (psd_for rfl PassesOwn.never rfl (pj_zipD rfl rfl T.f_zip (pd_var (pv 7)) (pd_var (pv 6))) (pg_tup rfl (pgs_cons (pg_name (i := 8) S.nd rfl (Or.inl rfl)) (pgs_cons (pg_name (i := 9) S.nd rfl (Or.inl rfl)) pgs_nil)))
    (pssd_cons (psd_asg rfl (pd_var (pv 9)) (pg_tup rfl (pgs_cons (pg_name (i := 10) S.nd rfl (Or.inr rfl)) (pgs_cons (pg_name (i := 11) S.nd rfl (Or.inr rfl)) pgs_nil))))
    (pssd_cons (psd_set (i := 12) S.nd rfl (Or.inl rfl) (PFD.pd (pf_lst (pad_cons (pd_callT call_tuple_of k_tuple rfl T.f_tuple (by kernel_rfl) (pak_cons (PD.pk (PFD.pd (pf_lc (own := [("_law_book", 15)]) (g := (.nm 15)) rfl rfl S.nd (pi_tupD rfl (pk_var (pv 10))) (blkOk_by (N := N_law_right) (own := [("_law_book", 15)]) (sc := defScope (top 60)) (by decide +kernel)) (fun _ _ _ _ _ => (pg_name (i := 15) S.nd rfl (Or.inl rfl))) (by decide) (fun _ _ _ _ _ => (ptsd_one (ptd_cmp (op_ninE (u65 hr)) k_ninE (pk_var (pv 15)) (pk_var (pv 11)) (by rfl)))) (fun _ _ _ _ _ => (pd_var (pv 15)))))) pak_nil)) (pad_cons (pd_callT call_tuple_of k_tuple rfl T.f_tuple (by kernel_rfl) (pak_cons (PD.pk (PFD.pd (pf_lc (own := [("_law_book", 15)]) (g := (.nm 15)) rfl rfl S.nd (pi_tupD rfl (pk_var (pv 11))) (blkOk_by (N := N_law_right) (own := [("_law_book", 15)]) (sc := defScope (top 60)) (by decide +kernel)) (fun _ _ _ _ _ => (pg_name (i := 15) S.nd rfl (Or.inl rfl))) (by decide) (fun _ _ _ _ _ => (ptsd_one (ptd_cmp (op_ninE (u65 hr)) k_ninE (pk_var (pv 15)) (pk_var (pv 10)) (by rfl)))) (fun _ _ _ _ _ => (pd_var (pv 15)))))) pak_nil)) pad_nil)))))
    (pssd_one (psd_if (ptd_not (ptd_val (PD.pk (pd_call (ms1 := [true, false]) (dd := []) ((at_law_exact T)) (hr.mono (by decide)) rfl (pam_sk (pd_var (pv 8)) (pam_sh (pd_var (pv 12)) pam_nil)))))) (pssd_one (psd_ret pd_bl))
    pssd_nil))))))
    (pssd_cons (psd_for rfl PassesOwn.never rfl (pj_lstD rfl (pd_var (pv 4))) (pg_name (i := 10) S.nd rfl (Or.inr rfl))
    (pssd_cons (psd_setLc (i := 13) (own := [("_law_other", 11)]) (g := (.nm 11)) rfl rfl S.nd rfl rfl (sw_true rfl rfl rfl (by decide +kernel)) (pi_lstD rfl (pk_var (pv 3))) (blkOk_by (N := N_law_right) (own := [("_law_other", 11)]) (sc := defScope (top 60)) (by decide +kernel)) (fun _ _ _ _ _ => (pg_name (i := 11) S.nd rfl (Or.inl rfl))) (by decide) (fun _ _ _ _ _ => (ptsd_one (ptd_val (PD.pk (pd_call (ms1 := [false, false]) (dd := []) ((at_law_overlap T)) (hr.mono (by decide)) rfl (pam_sh (pd_var (pv 10)) (pam_sh (pd_var (pv 11)) pam_nil))))))) (fun _ _ _ _ _ => (pd_var (pv 11))))
    (pssd_cons (psd_for rfl PassesOwn.never rfl (pj_rng1 rfl T.f_range (PD.pk pd_int)) (pg_name (i := 14) S.nd rfl (Or.inl rfl))
    (pssd_cons (psd_setO (i := 7) S.nd rfl (Or.inl rfl) (pf_call (ms1 := [false, false]) (dd := []) ((at_overlapping T)) (hr.mono (by decide)) rfl (pam_sh (pd_var (pv 2)) (pam_sh (pd_var (pv 10)) pam_nil))))
    (pssd_cons (psd_if (ptd_not (ptd_val (PD.pk (pd_call (ms1 := [true, false]) (dd := []) ((at_law_exact T)) (hr.mono (by decide)) rfl (pam_pk (pk_var (pv 7)) (pam_sh (pd_var (pv 13)) pam_nil)))))) (pssd_one (psd_ret pd_bl))
    pssd_nil)
    (pssd_one (psd_mut rfl k_append (pad_cons (pd_var (pv 10)) pad_nil) (fun _ h => pe_bm PySem.F.plainAttrs_list PySem.F.slot_list_append PySem.F.type_list_append mt_append (pv 7) h))))))
    (pssd_one (psd_for rfl PassesOwn.never rfl (pj_lstD rfl (pd_var (pv 4))) (pg_name (i := 11) S.nd rfl (Or.inr rfl))
    (pssd_one (psd_if (ptd_not (ptd_val (PD.pk (pd_call (ms1 := [false, false, false, false, false]) (dd := []) ((at_law_pair_right T)) (hr.mono (by decide)) rfl (pam_sh (pd_var (pv 1)) (pam_sh (pd_var (pv 2)) (pam_sh (pd_var (pv 10)) (pam_sh (pd_var (pv 11)) (pam_sh (pd_var (pv 3)) pam_nil))))))))) (pssd_one (psd_ret pd_bl))
    pssd_nil)))))))
    (pssd_one (psd_ret (pd_call (ms1 := [false, false]) (dd := []) ((at_law_unspoilt T)) (hr.mono (by decide)) rfl (pam_sh (pd_var (pv 2)) (pam_sh (pd_var (pv 1)) pam_nil))))))))))))))
theorem at_law_right (T : Fx K mg cls tk C_Shelf) : FnAt P w K mg base ⟨K, cls, none⟩ "_law_right" 11 [false] false [] F_law_right := by
  obtain ⟨a, fd, hm, D, G⟩ := ok_law_right T
  exact ⟨a, fd, ["_law_purse_here"], [], [], hm, D.kp, G, D.bindsN fun _ _ _ _ _ _ us hl => match us, hl with | [_], _ => rfl, .nil, fun _ _ => Reps.nil⟩
def N_law : List Str := ["_law_script", "_law_purse_here"]
theorem sc_law : FnScope N_law ["_law_script"] (defScope (top 61)) := ⟨rfl, rfl, rfl, by decide +kernel, rfl, by decide +kernel, by decide +kernel⟩
def W_law : TDS := (tSeqD (tForD (tItL (tFn F_law_purses [] (tConsA (tVarD 0) (tConsA (tCD (.int 2)) tNilA)))) (.nm 1) (tIfD (tNotD (tTst (tFn F_law_right [] (tConsA (tVarD 1) tNilA)))) (tRetD (tCD (.bl false))) tNextD)) (tRetD (tCD (.bl true))))
noncomputable def F_law : FnD := sealD (runD 2 [false] false W_law)
theorem F_law_eq : F_law = runD 2 [false] false W_law := sealD_eq _
theorem ok_law (T : Fx K mg cls tk C_Shelf) : ∃ (a : Addr) (fd : FuncData), mg "law" = some (.ref a) ∧ FunD K "law" "law" (defArgs (top 61)) (defBody (top 61)) (defScope (top 61)) [] [] a fd ∧ FnOk P w K mg base CX0 12 a fd ["_law_script"] (spD ⟨K, cls, none⟩ [false] false F_law) := by
  rw [F_law_eq]
  obtain ⟨a, fd, hm, D⟩ := T.d_law
  refine ⟨a, fd, hm, D, fn_ok D sc_law rfl (by decide) (fun cdv A outer s H E hr => ?_)⟩
  have S := sc_law
  exact (pssd_cons (psd_for rfl PassesOwn.never rfl (pj_lstD rfl (pd_call (ms1 := [false, false]) (dd := []) ((at_law_purses T)) (hr.mono (by decide)) rfl (pam_sh (pd_var (pv 0)) (pam_sh pd_int pam_nil)))) (pg_name (i := 1) S.nd rfl (Or.inl rfl))
    (pssd_one (psd_if (ptd_not (ptd_val (PD.pk (pd_call (ms1 := [false]) (dd := []) ((at_law_right T)) (hr.mono (by decide)) rfl (pam_sh (pd_var (pv 1)) pam_nil))))) (pssd_one (psd_ret pd_bl))
    pssd_nil)))
    (pssd_one (psd_ret pd_bl)))
theorem at_law (T : Fx K mg cls tk C_Shelf) : FnAt P w K mg base ⟨K, cls, none⟩ "law" 12 [false] false [] F_law := by
  obtain ⟨a, fd, hm, D, G⟩ := ok_law T
  exact ⟨a, fd, ["_law_script"], [], [], hm, D.kp, G, D.bindsN fun _ _ _ _ _ _ us hl => match us, hl with | [_], _ => rfl, .nil, fun _ _ => Reps.nil⟩
end
/-! ### the head -/
def fa : List He.Fa := [.free "all", .free "any", .free "bool", .free "dict", .free "enumerate", .free "int", .free "isinstance", .free "len", .free "list", .free "max", .free "min", .free "range", .free "set", .free "sorted", .free "str", .free "sum", .free "tuple", .free "zip", .str "LETTERS" "abcdefghijklmnopqrstuvwxyz", .glo "Shelf", .cls "Shelf", .noat "Shelf" "books", .noat "Shelf" "entries", .noat "Shelf" "order", .noat "Shelf" "ranks", .glo "is_spelt", .glo "are_books", .glo "check_catalogue", .mkr "Shelf", .meth "Shelf" "catalogue", .meth "Shelf" "row", .meth "Shelf" "__eq__", .glo "check_shelf", .glo "run_from", .glo "runs_of", .glo "span", .glo "is_run_of", .glo "check_run", .glo "is_run", .glo "common", .glo "overlaps", .glo "check_both", .glo "overlap", .glo "overlapping", .glo "check_overlap", .glo "meet_of", .glo "union_of", .glo "rests_of", .glo "_law_purse", .glo "_law_mixed", .glo "_law_draw", .glo "_law_purses", .glo "_law_one_of", .glo "_law_shuffled", .glo "_law_exact", .glo "_law_word", .glo "_law_words", .glo "_law_catalogue", .glo "_law_sizes", .glo "_law_crossed_rows", .glo "_law_heap_sizes", .glo "_law_nodes", .glo "_law_home_row", .glo "_law_turnables", .glo "_law_overlap", .glo "_law_drawn_lot", .glo "_law_turn", .glo "_law_led", .glo "_law_class", .glo "_law_free", .glo "_law_world", .glo "_law_shelf", .glo "_law_ranks", .glo "_law_runs", .glo "_law_unspoilt", .glo "_law_many", .glo "_law_pair_right", .glo "_law_right", .glo "law"]
def fn : List He.DefD := [⟨("is_spelt", none), "is_spelt", "is_spelt", defArgs (top 8), defBody (top 8), defScope (top 8), [], []⟩,
  ⟨("are_books", none), "are_books", "are_books", defArgs (top 10), defBody (top 10), defScope (top 10), [], []⟩,
  ⟨("check_catalogue", none), "check_catalogue", "check_catalogue", defArgs (top 11), defBody (top 11), defScope (top 11), [], []⟩,
  ⟨("Shelf", some "__init__"), "__init__", "Shelf.__init__", defArgs (inClass (top 12) 0), defBody (inClass (top 12) 0), defScope (inClass (top 12) 0), [], []⟩,
  ⟨("Shelf", some "catalogue"), "catalogue", "Shelf.catalogue", defArgs (inClass (top 12) 1), defBody (inClass (top 12) 1), defScope (inClass (top 12) 1), [], []⟩,
  ⟨("Shelf", some "row"), "row", "Shelf.row", defArgs (inClass (top 12) 2), defBody (inClass (top 12) 2), defScope (inClass (top 12) 2), [], []⟩,
  ⟨("Shelf", some "__eq__"), "__eq__", "Shelf.__eq__", defArgs (inClass (top 12) 3), defBody (inClass (top 12) 3), defScope (inClass (top 12) 3), [], []⟩,
  ⟨("check_shelf", none), "check_shelf", "check_shelf", defArgs (top 13), defBody (top 13), defScope (top 13), [], []⟩,
  ⟨("run_from", none), "run_from", "run_from", defArgs (top 15), defBody (top 15), defScope (top 15), [], []⟩,
  ⟨("runs_of", none), "runs_of", "runs_of", defArgs (top 16), defBody (top 16), defScope (top 16), [], []⟩,
  ⟨("span", none), "span", "span", defArgs (top 17), defBody (top 17), defScope (top 17), [], []⟩,
  ⟨("is_run_of", none), "is_run_of", "is_run_of", defArgs (top 18), defBody (top 18), defScope (top 18), [], []⟩,
  ⟨("check_run", none), "check_run", "check_run", defArgs (top 19), defBody (top 19), defScope (top 19), [], []⟩,
  ⟨("is_run", none), "is_run", "is_run", defArgs (top 20), defBody (top 20), defScope (top 20), [], []⟩,
  ⟨("common", none), "common", "common", defArgs (top 21), defBody (top 21), defScope (top 21), [], []⟩,
  ⟨("overlaps", none), "overlaps", "overlaps", defArgs (top 22), defBody (top 22), defScope (top 22), [], []⟩,
  ⟨("check_both", none), "check_both", "check_both", defArgs (top 23), defBody (top 23), defScope (top 23), [], []⟩,
  ⟨("overlap", none), "overlap", "overlap", defArgs (top 24), defBody (top 24), defScope (top 24), [], []⟩,
  ⟨("overlapping", none), "overlapping", "overlapping", defArgs (top 25), defBody (top 25), defScope (top 25), [], []⟩,
  ⟨("check_overlap", none), "check_overlap", "check_overlap", defArgs (top 26), defBody (top 26), defScope (top 26), [], []⟩,
  ⟨("meet_of", none), "meet_of", "meet_of", defArgs (top 27), defBody (top 27), defScope (top 27), [], []⟩,
  ⟨("union_of", none), "union_of", "union_of", defArgs (top 28), defBody (top 28), defScope (top 28), [], []⟩,
  ⟨("rests_of", none), "rests_of", "rests_of", defArgs (top 29), defBody (top 29), defScope (top 29), [], []⟩,
  ⟨("_law_purse", none), "_law_purse", "_law_purse", defArgs (top 31), defBody (top 31), defScope (top 31), [], []⟩,
  ⟨("_law_mixed", none), "_law_mixed", "_law_mixed", defArgs (top 32), defBody (top 32), defScope (top 32), [], []⟩,
  ⟨("_law_draw", none), "_law_draw", "_law_draw", defArgs (top 33), defBody (top 33), defScope (top 33), [], []⟩,
  ⟨("_law_purses", none), "_law_purses", "_law_purses", defArgs (top 34), defBody (top 34), defScope (top 34), [], []⟩,
  ⟨("_law_one_of", none), "_law_one_of", "_law_one_of", defArgs (top 35), defBody (top 35), defScope (top 35), [], []⟩,
  ⟨("_law_shuffled", none), "_law_shuffled", "_law_shuffled", defArgs (top 36), defBody (top 36), defScope (top 36), [], []⟩,
  ⟨("_law_exact", none), "_law_exact", "_law_exact", defArgs (top 37), defBody (top 37), defScope (top 37), [], []⟩,
  ⟨("_law_word", none), "_law_word", "_law_word", defArgs (top 38), defBody (top 38), defScope (top 38), [], []⟩,
  ⟨("_law_words", none), "_law_words", "_law_words", defArgs (top 39), defBody (top 39), defScope (top 39), [], []⟩,
  ⟨("_law_catalogue", none), "_law_catalogue", "_law_catalogue", defArgs (top 40), defBody (top 40), defScope (top 40), [], []⟩,
  ⟨("_law_sizes", none), "_law_sizes", "_law_sizes", defArgs (top 41), defBody (top 41), defScope (top 41), [], []⟩,
  ⟨("_law_crossed_rows", none), "_law_crossed_rows", "_law_crossed_rows", defArgs (top 42), defBody (top 42), defScope (top 42), [], []⟩,
  ⟨("_law_heap_sizes", none), "_law_heap_sizes", "_law_heap_sizes", defArgs (top 43), defBody (top 43), defScope (top 43), [], []⟩,
  ⟨("_law_nodes", none), "_law_nodes", "_law_nodes", defArgs (top 44), defBody (top 44), defScope (top 44), [], []⟩,
  ⟨("_law_home_row", none), "_law_home_row", "_law_home_row", defArgs (top 45), defBody (top 45), defScope (top 45), [], []⟩,
  ⟨("_law_turnables", none), "_law_turnables", "_law_turnables", defArgs (top 46), defBody (top 46), defScope (top 46), [], []⟩,
  ⟨("_law_overlap", none), "_law_overlap", "_law_overlap", defArgs (top 47), defBody (top 47), defScope (top 47), [], []⟩,
  ⟨("_law_drawn_lot", none), "_law_drawn_lot", "_law_drawn_lot", defArgs (top 48), defBody (top 48), defScope (top 48), [], []⟩,
  ⟨("_law_turn", none), "_law_turn", "_law_turn", defArgs (top 49), defBody (top 49), defScope (top 49), [], []⟩,
  ⟨("_law_led", none), "_law_led", "_law_led", defArgs (top 50), defBody (top 50), defScope (top 50), [], []⟩,
  ⟨("_law_class", none), "_law_class", "_law_class", defArgs (top 51), defBody (top 51), defScope (top 51), [], []⟩,
  ⟨("_law_free", none), "_law_free", "_law_free", defArgs (top 52), defBody (top 52), defScope (top 52), [], []⟩,
  ⟨("_law_world", none), "_law_world", "_law_world", defArgs (top 53), defBody (top 53), defScope (top 53), [], []⟩,
  ⟨("_law_shelf", none), "_law_shelf", "_law_shelf", defArgs (top 54), defBody (top 54), defScope (top 54), [], []⟩,
  ⟨("_law_ranks", none), "_law_ranks", "_law_ranks", defArgs (top 55), defBody (top 55), defScope (top 55), [], []⟩,
  ⟨("_law_runs", none), "_law_runs", "_law_runs", defArgs (top 56), defBody (top 56), defScope (top 56), [], []⟩,
  ⟨("_law_unspoilt", none), "_law_unspoilt", "_law_unspoilt", defArgs (top 57), defBody (top 57), defScope (top 57), [], []⟩,
  ⟨("_law_many", none), "_law_many", "_law_many", defArgs (top 58), defBody (top 58), defScope (top 58), [], []⟩,
  ⟨("_law_pair_right", none), "_law_pair_right", "_law_pair_right", defArgs (top 59), defBody (top 59), defScope (top 59), [], []⟩,
  ⟨("_law_right", none), "_law_right", "_law_right", defArgs (top 60), defBody (top 60), defScope (top 60), [], []⟩,
  ⟨("law", none), "law", "law", defArgs (top 61), defBody (top 61), defScope (top 61), [], []⟩]
abbrev R : PySem.W.OpenRow := PySem.W.OpenLaw.row PySem.Challenge.rw_runturns_k11_whole_runs_that_overlap
def cs : List Str := ["Shelf"]
def es : List Str := ["Shelf"]
abbrev hk : PySem.W.Hook := hookE 4 fa fn cs es
def ob (s : PySem.W.SharedT) : Bool × He.AlD := obsE 4 fa fn cs es (HandSHeadRun.getT s)
theorem ob_eq (s : PySem.W.SharedT) : ob s = hk.obs s.abs := obsE_eq (HandSHeadRun.getT_eq s)
def loose : List Str := (["__name__", "ShelfError", "InvalidCatalogue", "InvalidRow", "InvalidShelf", "InvalidRun"] : List Str) ++ (["LETTERS", "is_spelt", "are_books", "check_catalogue", "Shelf", "check_shelf"] : List Str) ++ (["run_from", "runs_of", "span", "is_run_of", "check_run", "is_run"] : List Str) ++ (["common", "overlaps", "check_both", "overlap", "overlapping", "check_overlap"] : List Str) ++ (["meet_of", "union_of", "rests_of", "_law_purse", "_law_mixed", "_law_draw"] : List Str) ++ (["_law_purses", "_law_one_of", "_law_shuffled", "_law_exact", "_law_word", "_law_words"] : List Str) ++ (["_law_catalogue", "_law_sizes", "_law_crossed_rows", "_law_heap_sizes", "_law_nodes", "_law_home_row"] : List Str) ++ (["_law_turnables", "_law_overlap", "_law_drawn_lot", "_law_turn", "_law_led", "_law_class"] : List Str) ++ (["_law_free", "_law_world", "_law_shelf", "_law_ranks", "_law_runs", "_law_unspoilt"] : List Str) ++ (["_law_many", "_law_pair_right", "_law_right"] : List Str)
def steps : Nat := 14000
theorem run (w : World) : HandSHeadRun.RunEq R (PySem.W.view R.prog [61]) hk ob steps loose w := by
  intro os
  kernel_rfl
def clsOf (K : PySem.W.Frag) (x : Str) : Option Addr := if x = "Shelf" then some (He.ga K "Shelf") else none
theorem fx {K : PySem.W.Frag} {h : Heap} {mg : Str → Option Value} (X : K.In h) (G : h.Ns mainGlobals mg) (c : He.SaysD fa fn K) (e : exB cs es K = true) : Fx K mg (clsOf K) (tokOf mg) (He.ga K "Shelf") where
  wok := ⟨(fun c0 C h => by
    by_cases z : c0 = "Shelf"
    · have h : clsOf K c0 = some C := h
      unfold clsOf at h
      rw [if_pos z] at h
      cases h
      exact clsB_ok (He.cls_ok (c.fact 20)) (List.all_eq_true.mp (Bool.and_eq_true_iff.mp e).1 "Shelf" (by simp [cs]))
    · have h : clsOf K c0 = some C := h
      unfold clsOf at h
      rw [if_neg z] at h
      cases h), (fun c0 c1 C C1 h h1 n => by
    have g : ∀ {x : Str} {C : Addr}, clsOf K x = some C → x = "Shelf" := fun {x C} h => by
      by_cases z : x = "Shelf"
      · exact z
      · unfold clsOf at h
        rw [if_neg z] at h
        cases h
    exact absurd ((g h).trans (g h1).symm) n)⟩
  f_all := He.free_ok X G (c.fact 0)
  f_any := He.free_ok X G (c.fact 1)
  f_bool := He.free_ok X G (c.fact 2)
  f_dict := He.free_ok X G (c.fact 3)
  f_enumerate := He.free_ok X G (c.fact 4)
  f_int := He.free_ok X G (c.fact 5)
  f_isinstance := He.free_ok X G (c.fact 6)
  f_len := He.free_ok X G (c.fact 7)
  f_list := He.free_ok X G (c.fact 8)
  f_max := He.free_ok X G (c.fact 9)
  f_min := He.free_ok X G (c.fact 10)
  f_range := He.free_ok X G (c.fact 11)
  f_set := He.free_ok X G (c.fact 12)
  f_sorted := He.free_ok X G (c.fact 13)
  f_str := He.free_ok X G (c.fact 14)
  f_sum := He.free_ok X G (c.fact 15)
  f_tuple := He.free_ok X G (c.fact 16)
  f_zip := He.free_ok X G (c.fact 17)
  k_LETTERS := tok_str (He.str_ok X G (c.fact 18))
  c_Shelf := rfl
  m_Shelf := He.glo_ok X G (c.fact 19)
  cl_Shelf := He.cls_ok (c.fact 20)
  q_Shelf := eqB_ok (List.all_eq_true.mp (Bool.and_eq_true_iff.mp e).2 "Shelf" (by simp [es]))
  na_Shelf_books := He.noat_ok (c.fact 21)
  na_Shelf_entries := He.noat_ok (c.fact 22)
  na_Shelf_order := He.noat_ok (c.fact 23)
  na_Shelf_ranks := He.noat_ok (c.fact 24)
  d_is_spelt := (c.def_ 0).elim fun fd F => ⟨_, fd, He.glo_ok X G (c.fact 25), F⟩
  d_are_books := (c.def_ 1).elim fun fd F => ⟨_, fd, He.glo_ok X G (c.fact 26), F⟩
  d_check_catalogue := (c.def_ 2).elim fun fd F => ⟨_, fd, He.glo_ok X G (c.fact 27), F⟩
  d_Shelf_init := (c.def_ 3).elim fun fd F => ⟨_, fd, He.mkr_ok (c.fact 28), F⟩
  d_Shelf_catalogue := (c.def_ 4).elim fun fd F => ⟨_, fd, He.meth_ok (c.fact 29), F⟩
  d_Shelf_row := (c.def_ 5).elim fun fd F => ⟨_, fd, He.meth_ok (c.fact 30), F⟩
  d_Shelf_eq := (c.def_ 6).elim fun fd F => ⟨_, fd, He.meth_ok (c.fact 31), F⟩
  d_check_shelf := (c.def_ 7).elim fun fd F => ⟨_, fd, He.glo_ok X G (c.fact 32), F⟩
  d_run_from := (c.def_ 8).elim fun fd F => ⟨_, fd, He.glo_ok X G (c.fact 33), F⟩
  d_runs_of := (c.def_ 9).elim fun fd F => ⟨_, fd, He.glo_ok X G (c.fact 34), F⟩
  d_span := (c.def_ 10).elim fun fd F => ⟨_, fd, He.glo_ok X G (c.fact 35), F⟩
  d_is_run_of := (c.def_ 11).elim fun fd F => ⟨_, fd, He.glo_ok X G (c.fact 36), F⟩
  d_check_run := (c.def_ 12).elim fun fd F => ⟨_, fd, He.glo_ok X G (c.fact 37), F⟩
  d_is_run := (c.def_ 13).elim fun fd F => ⟨_, fd, He.glo_ok X G (c.fact 38), F⟩
  d_common := (c.def_ 14).elim fun fd F => ⟨_, fd, He.glo_ok X G (c.fact 39), F⟩
  d_overlaps := (c.def_ 15).elim fun fd F => ⟨_, fd, He.glo_ok X G (c.fact 40), F⟩
  d_check_both := (c.def_ 16).elim fun fd F => ⟨_, fd, He.glo_ok X G (c.fact 41), F⟩
  d_overlap := (c.def_ 17).elim fun fd F => ⟨_, fd, He.glo_ok X G (c.fact 42), F⟩
  d_overlapping := (c.def_ 18).elim fun fd F => ⟨_, fd, He.glo_ok X G (c.fact 43), F⟩
  d_check_overlap := (c.def_ 19).elim fun fd F => ⟨_, fd, He.glo_ok X G (c.fact 44), F⟩
  d_meet_of := (c.def_ 20).elim fun fd F => ⟨_, fd, He.glo_ok X G (c.fact 45), F⟩
  d_union_of := (c.def_ 21).elim fun fd F => ⟨_, fd, He.glo_ok X G (c.fact 46), F⟩
  d_rests_of := (c.def_ 22).elim fun fd F => ⟨_, fd, He.glo_ok X G (c.fact 47), F⟩
  d_law_purse := (c.def_ 23).elim fun fd F => ⟨_, fd, He.glo_ok X G (c.fact 48), F⟩
  d_law_mixed := (c.def_ 24).elim fun fd F => ⟨_, fd, He.glo_ok X G (c.fact 49), F⟩
  d_law_draw := (c.def_ 25).elim fun fd F => ⟨_, fd, He.glo_ok X G (c.fact 50), F⟩
  d_law_purses := (c.def_ 26).elim fun fd F => ⟨_, fd, He.glo_ok X G (c.fact 51), F⟩
  d_law_one_of := (c.def_ 27).elim fun fd F => ⟨_, fd, He.glo_ok X G (c.fact 52), F⟩
  d_law_shuffled := (c.def_ 28).elim fun fd F => ⟨_, fd, He.glo_ok X G (c.fact 53), F⟩
  d_law_exact := (c.def_ 29).elim fun fd F => ⟨_, fd, He.glo_ok X G (c.fact 54), F⟩
  d_law_word := (c.def_ 30).elim fun fd F => ⟨_, fd, He.glo_ok X G (c.fact 55), F⟩
  d_law_words := (c.def_ 31).elim fun fd F => ⟨_, fd, He.glo_ok X G (c.fact 56), F⟩
  d_law_catalogue := (c.def_ 32).elim fun fd F => ⟨_, fd, He.glo_ok X G (c.fact 57), F⟩
  d_law_sizes := (c.def_ 33).elim fun fd F => ⟨_, fd, He.glo_ok X G (c.fact 58), F⟩
  d_law_crossed_rows := (c.def_ 34).elim fun fd F => ⟨_, fd, He.glo_ok X G (c.fact 59), F⟩
  d_law_heap_sizes := (c.def_ 35).elim fun fd F => ⟨_, fd, He.glo_ok X G (c.fact 60), F⟩
  d_law_nodes := (c.def_ 36).elim fun fd F => ⟨_, fd, He.glo_ok X G (c.fact 61), F⟩
  d_law_home_row := (c.def_ 37).elim fun fd F => ⟨_, fd, He.glo_ok X G (c.fact 62), F⟩
  d_law_turnables := (c.def_ 38).elim fun fd F => ⟨_, fd, He.glo_ok X G (c.fact 63), F⟩
  d_law_overlap := (c.def_ 39).elim fun fd F => ⟨_, fd, He.glo_ok X G (c.fact 64), F⟩
  d_law_drawn_lot := (c.def_ 40).elim fun fd F => ⟨_, fd, He.glo_ok X G (c.fact 65), F⟩
  d_law_turn := (c.def_ 41).elim fun fd F => ⟨_, fd, He.glo_ok X G (c.fact 66), F⟩
  d_law_led := (c.def_ 42).elim fun fd F => ⟨_, fd, He.glo_ok X G (c.fact 67), F⟩
  d_law_class := (c.def_ 43).elim fun fd F => ⟨_, fd, He.glo_ok X G (c.fact 68), F⟩
  d_law_free := (c.def_ 44).elim fun fd F => ⟨_, fd, He.glo_ok X G (c.fact 69), F⟩
  d_law_world := (c.def_ 45).elim fun fd F => ⟨_, fd, He.glo_ok X G (c.fact 70), F⟩
  d_law_shelf := (c.def_ 46).elim fun fd F => ⟨_, fd, He.glo_ok X G (c.fact 71), F⟩
  d_law_ranks := (c.def_ 47).elim fun fd F => ⟨_, fd, He.glo_ok X G (c.fact 72), F⟩
  d_law_runs := (c.def_ 48).elim fun fd F => ⟨_, fd, He.glo_ok X G (c.fact 73), F⟩
  d_law_unspoilt := (c.def_ 49).elim fun fd F => ⟨_, fd, He.glo_ok X G (c.fact 74), F⟩
  d_law_many := (c.def_ 50).elim fun fd F => ⟨_, fd, He.glo_ok X G (c.fact 75), F⟩
  d_law_pair_right := (c.def_ 51).elim fun fd F => ⟨_, fd, He.glo_ok X G (c.fact 76), F⟩
  d_law_right := (c.def_ 52).elim fun fd F => ⟨_, fd, He.glo_ok X G (c.fact 77), F⟩
  d_law := (c.def_ 53).elim fun fd F => ⟨_, fd, He.glo_ok X G (c.fact 78), F⟩
theorem holds (hF : ∀ ns : List Int, ns.length ≤ 63 → F_law 0 [.scr ns] (fun d _ => d = .bl true)) : PySem.Challenge.rw_runturns_k11_whole_runs_that_overlap.Holds := by
  open PySem.W PySem.Calls PyProof.Rows in
  w_on; o_law
  refine HandSHeadRun.head_any (r := OpenLaw.row PySem.Challenge.rw_runturns_k11_whole_runs_that_overlap) (q := view (OpenLaw.row PySem.Challenge.rw_runturns_k11_whole_runs_that_overlap).prog [61]) (H := hk) (ob := ob) (M := steps) (loose := loose) (d := HandSHeadRun.topDef (OpenLaw.row PySem.Challenge.rw_runturns_k11_whole_runs_that_overlap).prog 61) (kwd := []) ob_eq
    (by kernel_rfl) (fun s => by kernel_rfl) run (by kernel_rfl) (by kernel_rfl) (by kernel_rfl) (by rfl) (by first | assumption | decide +kernel) (by decide +kernel) ⟨rfl, rfl, rfl, rfl, rfl, by decide +kernel⟩ ?hw ?hc
  case hw => w_witness2
  case hc =>
    refine L2.walk_ofE (l := PySem.Challenge.rw_runturns_k11_whole_runs_that_overlap) (n := 63) (k := 12) (x := "_law_script") (CX := L2.CX0) rfl (by decide) (by kernel_rfl) ⟨rfl, by decide, by decide⟩ ?F (fun _ _ _ _ z => z)
    intro w mg fa h Y G hmg0
    obtain ⟨K, KX, c, e⟩ := Y
    have hmg : mg ("law" : PySem.Str) = some (.ref fa) := by
      have e : (HandSHeadRun.topDef (OpenLaw.row PySem.Challenge.rw_runturns_k11_whole_runs_that_overlap).prog 61).name = ("law" : PySem.Str) := by kernel_rfl
      rw [← e]
      exact hmg0
    have T := fx KX G c e
    obtain ⟨a, fd, hm, D⟩ := T.d_law
    have ea : fa = a := by
      have z := hmg.symm.trans hm
      cases z; rfl
    subst ea
    have b := FunD.bindsA (ps := ["_law_script"]) D fun _ _ _ _ _ _ us hl => match us, hl with | [_], _ => rfl
    refine ⟨K, fd, spD ⟨K, clsOf K, none⟩ [false] false F_law, KX, fun s v => b s [v] rfl, fun H a ns hl _ hS => law_sp hF H a ns hl hS, fun base _ _ => ?_⟩
    obtain ⟨a2, fd2, hm2, D2, G2⟩ := ok_law (P := (PySem.Challenge.rw_runturns_k11_whole_runs_that_overlap).prog) (w := w) (base := base) T
    have ea : fa = a2 := by
      have z := hm.symm.trans hm2
      cases z; rfl
    subst ea
    have ef : fd = fd2 := FunD_same D D2
    subst ef
    exact G2
end K11
namespace K11
open PySem PySem.Spec L2 DL PL
local macro_rules | `(tactic| law_fe) => `(tactic| simp only [tSeqD, tIfD, tSetD, tSetO, tRetD, tRetO, tNextD, tDropD, tNeverD, tBreakD, tForD, tLcD, tDcD, tItL, tItT, tItS, tRng1, tRng2, rngA1, rngA2, tEnum, enA, tZip, zpA, t2, t2N, tTst, tNotD, tOrD, tAndD, tAndVD, tOrVD, tNotVD, tIfE, tChnD, tVarD, tVarK, tCD, DL.tCall, tConsA, tConsK, tNilA, tFn, tMet, tMetD_eq, tMutD, tMutV, tFz, frzs, frz1, tLstD, tTupD, slot, startD, tPurIx, tPurSet, tBitsD, tParD, mkS, tMoveD, tAsgD, tPat, setShs, tSlD, tPartD, tNoD, tLenSetD, tRevD, tSetFld, tFldD, selfQ, allD, anyD, tSwapD, tSetIx, tUnD, tRetPur, purA, wipeD, lend, isStrB, isLst, DL.isObj, subD, mulD, modD, divD, powBD, gtD, leD, geD, joinD, sumD, optD, isinD, isiAs, optB, Bool.or_false, Bool.or_true, Bool.false_or, Bool.true_or, Bool.not_true, Bool.not_false, Option.some.injEq, isi_bool_non, isi_bool_bl, isi_bool_int, isi_bool_str, isi_bool_lst, isi_bool_tup, isi_bool_dct, isi_bool_obj, isi_int_non, isi_int_bl, isi_int_int, isi_int_str, isi_int_lst, isi_int_tup, isi_int_dct, isi_int_obj, isi_str_non, isi_str_bl, isi_str_int, isi_str_str, isi_str_lst, isi_str_tup, isi_str_dct, isi_str_obj, isi_list_non, isi_list_bl, isi_list_int, isi_list_str, isi_list_lst, isi_list_tup, isi_list_dct, isi_list_obj, isi_tuple_non, isi_tuple_bl, isi_tuple_int, isi_tuple_str, isi_tuple_lst, isi_tuple_tup, isi_tuple_dct, isi_tuple_obj, isi_dict_non, isi_dict_bl, isi_dict_int, isi_dict_str, isi_dict_lst, isi_dict_tup, isi_dict_dct, isi_dict_obj, isi_cl_non, isi_cl_bl, isi_cl_int, isi_cl_str, isi_cl_lst, isi_cl_tup, isi_cl_dct, isi_own, eqD, neD, ixE_lst, ixE_tup, ixE_str, inE_lst, inE_tup, inE_str, ninE_lst, ninE_tup, ninE_str, appendM, insertM, reverseM, clearM, keyA, keyK, List.set, List.length_cons, List.length_nil, List.replicate, List.cons_append, List.nil_append, List.append_nil, Bool.false_eq_true, if_false, if_true, true_and, and_true, true_or, or_true, listE_lst, listE_tup, listE_str, lenD_lst, lenD_tup, lenD_str, lenD_scr, addD_int, addD_str, addD_lst, addD_tup, catD_lst, intA_int, intC_int, cmpA_int, ltD_int, ltD_str, intD_int, intD_bl, slD_lst, slD_tup, slD_scr, slD_str, minD_two, maxD_two, ixD_zero, ixD_one, false_or, or_false, Int.reduceEq, false_implies, true_implies, implies_true])
theorem mixed_ok {n : Nat} {a b c : Int} {Q : D → Nat → Prop} (ha : 0 ≤ a ∧ a < 2147483629) (hb : 0 ≤ b ∧ b < 2 ^ 40) (hc : 0 ≤ c ∧ c < 64) (h : ∀ v : Int, 0 ≤ v → v < 2147483587 → Q (.int v) n) : F_law_mixed n [.int a, .int b, .int c] Q := by
  rw [F_law_mixed_eq]; unfold runD W_law_mixed
  law_fe
  refine ⟨.inr (by omega), .inl (by omega), .inr (by omega), .inl (by omega), by omega, .inl (by omega), by omega, .inr (by omega), by omega, h _ (by omega) (by omega)⟩
theorem draw_ok {n : Nat} {m : Int} {Q : D → Nat → Prop} (hm : 0 < m ∧ m < 2 ^ 26) (hn : n + 1 < 2 ^ 40) (h : ∀ (v : Int) n', 0 ≤ v → v < m → n' ≤ n + 1 → Q (.int v) n') : F_law_draw n [.purse, .int m] Q := by
  have hb := bits26 hm.1 hm.2
  rw [F_law_draw_eq]; unfold runD W_law_draw
  law_fe
  intro k hk
  split
  · intro k2 hk2
    refine ⟨hm.1, fun k3 hk3 => ⟨⟨hm.1, by omega⟩, Int.ediv_nonneg hk3 (by omega), ?_⟩⟩
    exact h _ _ (Int.emod_nonneg _ (by omega)) (Int.emod_lt_of_pos _ hm.1) (by omega)
  · refine ⟨⟨by omega, by omega⟩, by omega, by omega, ?_⟩
    have e : (1 + (Builtin.Int.intBits m : Int) / 28).toNat = 1 := by omega
    rw [e]
    show forD _ _ [D.int (0 + (0 : Nat))] _ _ _
    simp only [forD]
    law_fe
    refine fun k2 hk2 h2 => ⟨by omega, by omega, .inl (by omega), fun k3 hk3 h3 k4 hk4 h4 k5 hk5 h5 => ?_⟩
    refine mixed_ok ⟨hk3, h3⟩ ⟨hk4, by omega⟩ ⟨hk5, h5⟩ fun v h0 h1 => ?_
    exact ⟨hm.1, h _ _ (Int.emod_nonneg _ (by omega)) (Int.emod_lt_of_pos _ hm.1) (by omega)⟩
theorem c3 : CPowB ((10 : Int) ^ (60 : Int).toNat) 8 := by unfold CPowB; decide +kernel
theorem cut_map {α : Type} (f : α → D) (xs : List α) (l u : Option Int) : cutD (xs.map f) l u = ((xs.drop (HT.sIx xs.length 0 l)).take (HT.sIx xs.length xs.length u - HT.sIx xs.length 0 l)).map f := by
  unfold cutD
  rw [List.length_map, ← List.map_drop, ← List.map_take]
theorem purse_ok {n : Nat} {ns : List Int} {k : Int} {Q : D → Nat → Prop} (hk : 0 ≤ k ∧ k < 64) (h : Q .purse n) : F_law_purse n [.scr ns, .int k] Q := by
  rw [F_law_purse_eq]; unfold runD W_law_purse
  law_fe
  rw [cut_map, intsD_ints]
  law_fe
  generalize (List.sum (α := Int) _) = s
  have c4 : (0 : Int) < ((10 : Int) ^ (60 : Int).toNat) ^ (8 : Int).toNat := Int.pow_pos (Int.pow_pos (by decide))
  have c1 : CPowB 10 18 := by unfold CPowB; decide +kernel
  have c2 : CPowB 10 60 := by unfold CPowB; decide +kernel
  refine ⟨c1, c2, c3, c4, by decide, ⟨Int.emod_nonneg _ (Int.ne_of_gt c4), Int.emod_nonneg _ (by decide), Int.emod_lt_of_pos _ (by decide), hk.1, hk.2⟩, h⟩
theorem purses_ok {n : Nat} {ns : List Int} {Q : D → Nat → Prop} (h : ∀ k, k ≤ 2 → Q (.lst (List.replicate k .purse)) n) : F_law_purses n [.scr ns, .int 2] Q := by
  rw [F_law_purses_eq]; unfold runD W_law_purses
  law_fe
  generalize hj : (if (if (ns.length : Int) < 2 then (ns.length : Int) else 2) > 1 then if (ns.length : Int) < 2 then (ns.length : Int) else 2 else 1) = j
  have hj2 : 0 ≤ j ∧ j ≤ 2 := by omega
  refine ⟨by omega, by omega, ?_⟩
  unfold rangeD
  refine lcGo_map (f := fun _ => .purse) (by rw [List.length_range, sizeLine_eq]; omega) (fun i hi K hK => ?_) ?_
  · show F_law_purse n [D.scr ns, D.int (0 + (i:Int))] K
    have := List.mem_range.mp hi
    exact purse_ok ⟨by omega, by omega⟩ hK
  · rw [List.map_const', List.length_range]
    exact h _ (by omega)
end K11
namespace K11
open PySem PySem.Spec L2 DL PL
local macro_rules | `(tactic| law_fe) => `(tactic| simp only [tSeqD, tIfD, tSetD, tSetO, tRetD, tRetO, tNextD, tDropD, tNeverD, tBreakD, tForD, tLcD, tDcD, tItL, tItT, tItS, tRng1, tRng2, rngA1, rngA2, tEnum, enA, tZip, zpA, t2, t2N, tTst, tNotD, tOrD, tAndD, tAndVD, tOrVD, tNotVD, tIfE, tChnD, tVarD, tVarK, tCD, DL.tCall, tConsA, tConsK, tNilA, tFn, tMet, tMetD_eq, tMutD, tMutV, tFz, frzs, frz1, tLstD, tTupD, slot, startD, tPurIx, tPurSet, tBitsD, tParD, mkS, tMoveD, tAsgD, tPat, setShs, tSlD, tPartD, tNoD, tLenSetD, tRevD, tSetFld, tFldD, selfQ, allD, anyD, tSwapD, tSetIx, tUnD, tRetPur, purA, wipeD, lend, isStrB, isLst, DL.isObj, subD, mulD, modD, divD, powBD, gtD, leD, geD, joinD, sumD, optD, isinD, isiAs, optB, Bool.or_false, Bool.or_true, Bool.false_or, Bool.true_or, Bool.not_true, Bool.not_false, Option.some.injEq, isi_bool_non, isi_bool_bl, isi_bool_int, isi_bool_str, isi_bool_lst, isi_bool_tup, isi_bool_dct, isi_bool_obj, isi_int_non, isi_int_bl, isi_int_int, isi_int_str, isi_int_lst, isi_int_tup, isi_int_dct, isi_int_obj, isi_str_non, isi_str_bl, isi_str_int, isi_str_str, isi_str_lst, isi_str_tup, isi_str_dct, isi_str_obj, isi_list_non, isi_list_bl, isi_list_int, isi_list_str, isi_list_lst, isi_list_tup, isi_list_dct, isi_list_obj, isi_tuple_non, isi_tuple_bl, isi_tuple_int, isi_tuple_str, isi_tuple_lst, isi_tuple_tup, isi_tuple_dct, isi_tuple_obj, isi_dict_non, isi_dict_bl, isi_dict_int, isi_dict_str, isi_dict_lst, isi_dict_tup, isi_dict_dct, isi_dict_obj, isi_cl_non, isi_cl_bl, isi_cl_int, isi_cl_str, isi_cl_lst, isi_cl_tup, isi_cl_dct, isi_own, eqD, neD, ixE_lst, ixE_tup, ixE_str, inE_lst, inE_tup, inE_str, ninE_lst, ninE_tup, ninE_str, appendM, insertM, reverseM, clearM, keyA, keyK, List.set, List.length_cons, List.length_nil, List.replicate, List.cons_append, List.nil_append, List.append_nil, Bool.false_eq_true, if_false, if_true, true_and, and_true, true_or, or_true, tItP, DL.isObj, listE_lst, listE_tup, listE_str, lenD_lst, lenD_tup, lenD_str, lenD_scr, addD_int, addD_str, addD_lst, addD_tup, catD_lst, intA_int, intC_int, cmpA_int, ltD_int, ltD_str, intD_int, intD_bl, slD_lst, slD_tup, slD_scr, slD_str, minD_two, maxD_two, ixD_zero, ixD_one, false_or, or_false, Int.reduceEq, false_implies, true_implies, implies_true])
def lowC (c : Nat) : Prop := 97 ≤ c ∧ c < 123
/-- one to eight small letters -/
def Sp (s : Str) : Prop := 0 < s.cps.size ∧ s.cps.size < 9 ∧ ∀ c ∈ s.cps.toList, lowC c
theorem Sp.ok {s : Str} (h : Sp s) : okS s = true := by
  unfold okS PyData.canLay0 PyData.strOk
  rw [Array.all_eq_true]
  intro i hi
  have := h.2.2 s.cps[i] (by simp)
  unfold lowC at this
  simpa using (by omega : s.cps[i] < 1114112)
theorem alph_cps : (("abcdefghijklmnopqrstuvwxyz" : Str)).cps.toList = (List.range 26).map (97 + ·) := by decide +kernel
theorem alph_len : (("abcdefghijklmnopqrstuvwxyz" : Str)).length ≤ sizeLine := by decide +kernel
theorem alph_at {v : Int} (h0 : 0 ≤ v) (h1 : v < 26) : L2.atI (("abcdefghijklmnopqrstuvwxyz" : Str)).cps.toList v = some (97 + v.toNat) := by
  rw [alph_cps]
  unfold L2.atI ixN
  rw [if_pos h0, if_pos (by simp; omega)]
  simp only [Option.bind_some, List.getElem?_map]
  rw [List.getElem?_range (by omega)]
  rfl
theorem ix_alph {v : Int} {P : D → Prop} (h0 : 0 ≤ v) (h1 : v < 26) (h : ∀ c, lowC c → P (.str ⟨#[c]⟩)) : ixD (.str "abcdefghijklmnopqrstuvwxyz") (.int v) P := by
  unfold ixD
  refine ⟨alph_len, ?_⟩
  rw [alph_at h0 h1]
  exact h _ (by unfold lowC; omega)
theorem glue_go : ∀ (cs : List Nat) (a : Array Nat), (cs.map fun c => (⟨#[c]⟩ : Str)).foldl (fun acc p => acc ++ (("" : Str)).cps ++ p.cps) a = a ++ cs.toArray
  | [], a => by simp
  | c :: cs, a => by
    rw [List.map_cons, List.foldl_cons, glue_go cs]
    have : (("" : Str)).cps = #[] := by decide +kernel
    rw [this]
    simp
theorem glue_signs (cs : List Nat) : Txt.join "" (cs.map fun c => (⟨#[c]⟩ : Str)) = ⟨cs.toArray⟩ := by
  unfold Txt.join Builtin.Str.glued
  cases cs with
  | nil => rfl
  | cons c cs =>
    rw [List.map_cons, List.drop_succ_cons, List.drop_zero, List.headD_cons, glue_go]
    simp
theorem eqD_int {x y : Int} {P : D → Prop} (h : P (.bl (decide (x = y)))) : eqD (.int x) (.int y) P := eqA_int h
theorem word_ok {n : Nat} {Q : D → Nat → Prop} (hn : n + 12 < 2 ^ 40) (h : ∀ (s : Str) n', Sp s → n' ≤ n + 12 → Q (.str s) n') : F_law_word n [.purse] Q := by
  rw [F_law_word_eq]; unfold runD W_law_word
  law_fe
  refine draw_ok (by decide) (by omega) fun v n1 h0 h1 hn1 => ?_
  refine eqA_int ?_
  split <;>
  · refine draw_ok (by decide) (by omega) fun v n2 h2 h3 hn2 => ?_
    law_fe
    refine ⟨by omega, by omega, ?_⟩
    unfold rangeD
    refine lcGo_draw (β := Nat) (c' := fun c => D.str ⟨#[c]⟩) (G := fun _ c => lowC c) 1 (n + 11) (by rw [List.length_range, sizeLine_eq]; omega) (fun i hi n3 K hl hK => ?_) (by rw [List.length_range]; omega) fun cs n3 hlen hG hn3 => ?_
    · law_fe
      refine draw_ok (by decide) (by omega) fun v n4 h4 h5 hn4 => ?_
      exact ix_alph h4 h5 fun c hc => hK c n4 hc hn4
    · rw [List.length_range] at hlen hn3
      rw [show (cs.map fun c => D.str ⟨#[c]⟩) = (cs.map fun c => (⟨#[c]⟩ : Str)).map D.str by rw [List.map_map]; rfl, strsD_strs]
      dsimp only
      rw [glue_signs]
      have e0 : (("" : Str)).length = 0 := by decide +kernel
      have e1 : ∀ cs : List Nat, ((cs.map fun c => (⟨#[c]⟩ : Str)).map fun x => x.length).sum = cs.length := by
        intro cs
        induction cs with
        | nil => rfl
        | cons c cs ih => rw [List.map_cons, List.map_cons, List.sum_cons, ih, List.length_cons]; show 1 + _ = _; omega
      refine ⟨by rw [e0, e1]; omega, h _ _ ⟨?_, ?_, fun c hc => ?_⟩ (by omega)⟩
      · simp; omega
      · simp; omega
      · obtain ⟨j, hj, he⟩ := List.getElem_of_mem (show c ∈ cs by simpa using hc)
        exact hG j j c (by rw [List.getElem?_range]; omega) (by rw [← he]; simp)
theorem shuf_ok {α : Type} (c : α → D) {n : Nat} {xs : List α} {Q : D → Nat → Prop} (hz : xs.length < 1000000) (hn : n + xs.length < 2 ^ 40) (h : ∀ (ys : List α) n', ys.Perm xs → n' ≤ n + xs.length → Q (.lst (ys.map c)) n') : F_law_shuffled n [.purse, .lst (xs.map c)] Q := by
  rw [F_law_shuffled_eq]; unfold runD W_law_shuffled
  law_fe
  refine ⟨by decide, ?_⟩
  refine forD_ind (fun i n' ρ => n' ≤ n + i ∧ ∃ (ys : List α) (s3 : Sl), ys.Perm (xs.take i) ∧ ρ = [.sh .purse, .pk (.lst (xs.map c)), .ow (.lst (ys.map c)), s3]) ?_ ?_ ⟨by omega, [], .un, by simp, rfl⟩
  · rintro i d n1 ρ K hd ⟨hn1, ys, s3, hp, rfl⟩ hK
    rw [List.getElem?_map] at hd
    obtain ⟨x, hx, rfl⟩ := Option.map_eq_some_iff.mp hd
    obtain ⟨hi, hx2⟩ := List.getElem?_eq_some_iff.mp hx
    have hl : ys.length = i := by rw [hp.length_eq, List.length_take]; omega
    law_fe
    rw [List.length_map, hl]
    refine draw_ok (by omega) (by omega) fun v n2 h0 h1 hn2 => ⟨by rw [sizeLine_eq]; omega, h0, by omega, hK _ _ ⟨by omega, ys.take v.toNat ++ [x] ++ ys.drop v.toNat, .sh (c x), ?_, ?_⟩⟩
    · rw [List.take_add_one, hx]
      have e : (ys.take v.toNat ++ [x] ++ ys.drop v.toNat).Perm (ys ++ [x]) := by
        conv => rhs; rw [← List.take_append_drop v.toNat ys]
        rw [List.append_assoc, List.append_assoc]
        exact List.Perm.append_left _ List.perm_append_comm
      exact e.trans (List.Perm.append_right _ hp)
    · simp only [List.map_append, List.map_take, List.map_drop, List.map_cons, List.map_nil]
  · rintro n1 ρ ⟨hn1, ys, s3, hp, rfl⟩
    law_fe
    rw [List.length_map] at hn1
    refine h ys n1 ?_ hn1
    rwa [List.length_map, List.take_length] at hp
theorem shuffled_ok {n : Nat} {xs : List Str} {Q : D → Nat → Prop} (hz : xs.length < 100) (hn : n + xs.length < 2 ^ 40) (h : ∀ (ys : List Str) n', ys.Perm xs → n' ≤ n + xs.length → Q (lS ys) n') : F_law_shuffled n [.purse, lS xs] Q := shuf_ok D.str (by omega) hn h
theorem nodup_len {α : Type} [DecidableEq α] : ∀ {l xs : List α}, l.Nodup → (∀ a ∈ l, a ∈ xs) → l.length ≤ xs.length
  | [], _, _, _ => Nat.zero_le _
  | a :: l, xs, hn, h => by
    have ha := h a List.mem_cons_self
    rw [List.nodup_cons] at hn
    have ih := nodup_len (xs := xs.erase a) hn.2 fun b hb => (List.mem_erase_of_ne (fun e => hn.1 (by rw [← e]; exact hb))).mpr (h b (List.mem_cons_of_mem _ hb))
    rw [List.length_erase_of_mem ha] at ih
    have := List.length_pos_of_mem ha
    rw [List.length_cons]; omega
/-- the first letter that is no item -/
theorem pick_ok {l : List Nat} {xs : List Str} {P : D → Prop} (hl : l.Nodup) (h : xs.length < l.length) (q : ∀ c ∈ l, (⟨#[c]⟩ : Str) ∉ xs → P (.str ⟨#[c]⟩)) :
    ixD (.lst ((l.filter fun c => decide ((⟨#[c]⟩ : Str) ∉ xs)).map fun c => D.str ⟨#[c]⟩)) (.int 0) P := by
  cases e : l.filter fun c => decide ((⟨#[c]⟩ : Str) ∉ xs) with
  | nil =>
    rw [List.filter_eq_nil_iff] at e
    have h1 : (l.map fun c => (⟨#[c]⟩ : Str)).Nodup := by
      rw [List.nodup_iff_pairwise_ne] at hl ⊢
      exact List.pairwise_map.mpr (hl.imp fun hne z => hne (by simpa using z))
    have h2 := nodup_len (xs := xs) h1 fun a ha => by
      obtain ⟨c, hc, rfl⟩ := List.mem_map.mp ha
      have := e c hc
      simpa using this
    rw [List.length_map] at h2
    omega
  | cons c r =>
    have hc : c ∈ l.filter fun c => decide ((⟨#[c]⟩ : Str) ∉ xs) := by rw [e]; exact List.mem_cons_self
    rw [List.mem_filter] at hc
    simp only [List.map_cons, ixD]
    unfold L2.atI ixN
    rw [if_pos (by omega), if_pos (by rw [List.length_cons]; omega)]
    exact q c hc.1 (by simpa using hc.2)
theorem Sp.letter {c : Nat} (h : lowC c) : Sp ⟨#[c]⟩ := ⟨Nat.zero_lt_one, (show 1 < 9 by omega), fun x hx => (show x = c by simpa using hx) ▸ h⟩
theorem Sp.cut {s : Str} {c : Nat} {i : Int} (h : Sp s) (hc : lowC c) (h0 : 0 ≤ i) (h1 : i < s.length) : Sp (cutS s none (some i) ++ ⟨#[c]⟩ ++ cutS s (some (i + 1)) none) := by
  obtain ⟨k, rfl⟩ : ∃ k : Nat, i = k := ⟨i.toNat, by omega⟩
  have e : (cutS s none (some (k : Int)) ++ ⟨#[c]⟩ ++ cutS s (some ((k : Int) + 1)) none).cps.toList = s.cps.toList.take k ++ [c] ++ s.cps.toList.drop (k + 1) := by
    show (((cutS s none (some (k : Int))).cps ++ #[c]) ++ (cutS s (some ((k : Int) + 1)) none).cps).toList = _
    unfold cutS
    rw [HT.sIx_none, HT.sIx_none, HT.sIx_nat, show ((k : Int) + 1) = ((k + 1 : Nat) : Int) by omega, HT.sIx_nat]
    have hk : k < s.length := by omega
    rw [Nat.min_eq_left (by omega), Nat.min_eq_left (by omega)]
    simp only [Array.toList_append, List.drop_zero, Nat.sub_zero]
    rw [List.take_of_length_le (l := s.cps.toList.drop (k + 1)) (by simp [Str.length])]
  have hlen : (cutS s none (some (k : Int)) ++ ⟨#[c]⟩ ++ cutS s (some ((k : Int) + 1)) none).cps.size = s.cps.size := by
    rw [← Array.length_toList, e]
    have : k < s.cps.size := by unfold Str.length at h1; omega
    simp; omega
  refine ⟨by rw [hlen]; exact h.1, by rw [hlen]; exact h.2.1, fun x hx => ?_⟩
  rw [e] at hx
  rcases List.mem_append.mp hx with hx | hx
  · rcases List.mem_append.mp hx with hx | hx
    · exact h.2.2 x (List.mem_of_mem_take hx)
    · rw [List.mem_singleton] at hx; subst hx; exact hc
  · exact h.2.2 x (List.mem_of_mem_drop hx)
theorem cut_len {s : Str} {l u : Option Int} : (cutS s l u).length ≤ s.length := by
  unfold cutS Str.length
  simp
  omega
theorem words_ok {n : Nat} {m : Int} {Q : D → Nat → Prop} (hm : 0 ≤ m ∧ m ≤ 12) (hn : n + 200 < 2 ^ 40) (h : ∀ (xs : List Str) n', (∀ x ∈ xs, Sp x) → xs.Nodup → xs.length = m.toNat → n' ≤ n + 200 → Q (lS xs) n') : F_law_words n [.purse, .int m] Q := by
  rw [F_law_words_eq]; unfold runD W_law_words
  law_fe
  refine word_ok (by omega) fun base n1 hb hn1 => ?_
  refine draw_ok (by decide) (by omega) fun v n2 h0 h1 hn2 => ?_
  refine eqA_int ?_
  have hbl : base.length ≤ sizeLine := by
    have := hb.2.1
    unfold Str.length
    rw [sizeLine_eq]; omega
  refine ⟨hbl, draw_ok ⟨?_, ?_⟩ (by omega) fun spot n3 h2 h3 hn3 => ⟨by decide, by omega, by omega, ?_⟩⟩
  · have := hb.1
    unfold Str.length; omega
  · have := hb.2.1
    unfold Str.length; omega
  generalize decide (v = 0) = near
  refine forD_ind (fun i n' ρ => n' ≤ n + 20 + 14 * i ∧ ∃ (xs : List Str) (s6 s7 s8 : Sl), (∀ x ∈ xs, Sp x) ∧ xs.Nodup ∧ xs.length = i ∧ ρ = [.sh .purse, .sh (.int m), .sh (.str base), .sh (.bl near), .sh (.int spot), .ow (lS xs), s6, s7, s8]) ?_ ?_ ⟨by omega, [], .un, .un, .un, by simp, by simp, rfl, rfl⟩
  · rintro i d n1 ρ K hd ⟨hn1, xs, s6, s7, s8, hs, hnd, hlen, rfl⟩ hK
    have hi : i < m.toNat := by
      obtain ⟨hi, _⟩ := List.getElem?_eq_some_iff.mp hd
      simpa [rangeD] using hi
    unfold rangeD at hd
    rw [List.getElem?_map] at hd
    obtain ⟨x, hx, rfl⟩ := Option.map_eq_some_iff.mp hd
    law_fe
    have hb3 := hb.2.1
    have hxs : ∀ x ∈ xs, okS x = true := fun x hx => (hs x hx).ok
    have hsz := sizeLine_eq
    have hc1 := cut_len (s := base) (l := none) (u := some spot)
    have hc2 := cut_len (s := base) (l := some (spot + 1)) (u := none)
    have hbs : base.length < 9 := hb3
    refine ⟨hbl, draw_ok (by decide) (by omega) fun v n4 h4 h5 hn4 => ix_alph h4 h5 fun c hc => ?_⟩
    have hw := Sp.cut hb hc h2 h3
    law_fe
    have hone : (⟨#[c]⟩ : Str).length = 1 := rfl
    have happ : ∀ a b : Str, (a ++ b).length = a.length + b.length := fun a b => by show (a.cps ++ b.cps).size = _; simp [Str.length]
    refine ⟨by omega, hbl, by rw [happ]; omega, ?_⟩
    have tail : ∀ (w : Str) n', Sp w → n' ≤ n1 + 14 → ∀ w', w' ∉ xs → Sp w' → K n' [Sl.sh D.purse, Sl.sh (D.int m), Sl.sh (D.str base), Sl.sh (D.bl near), Sl.sh (D.int spot), Sl.ow (D.lst (List.map D.str xs ++ [.str w'])), Sl.sh (D.int (0 + (x : Int))), Sl.sh (.str w'), s8] := fun w n' h1 h2 w' h3 h4 =>
      hK _ _ ⟨by omega, xs ++ [w'], .sh (.int (0 + (x : Int))), .sh (.str w'), s8, fun y hy => by
        rcases List.mem_append.mp hy with hy | hy
        · exact hs y hy
        · rw [List.mem_singleton] at hy; subst hy; exact h4, by
        rw [List.nodup_append]
        refine ⟨hnd, by simp, fun a ha b hb e => ?_⟩
        rw [List.mem_singleton] at hb
        subst hb e
        exact h3 ha, by simp [hlen], by rw [lS, List.map_append]; rfl⟩
    have last : ∀ (w : Str) (n' : Nat), Sp w → n' ≤ n1 + 14 → inA (.str w) (lS xs) fun b => if b = true then
        (Str.ofString "abcdefghijklmnopqrstuvwxyz").cps.size ≤ sizeLine ∧ lcGo (Pat.nm 8) (tTst (t2 ninE (tVarK 8) (tVarK 5))) (tVarD 8)
          (Sl.sh D.purse :: Sl.sh (D.int m) :: Sl.sh (D.str base) :: Sl.sh (D.bl near) :: Sl.sh (D.int spot) :: Sl.pk (lS xs) :: Sl.sh (D.int (0 + (x : Int))) :: Sl.sh (.str w) :: (lend [s8]).set 0 Sl.un)
          (signsD (Str.ofString "abcdefghijklmnopqrstuvwxyz")) n' [] fun acc n2 => ixD (D.lst acc) (D.int 0) fun d => (List.map D.str xs).length < sizeLine ∧
            K n2 [Sl.sh D.purse, Sl.sh (D.int m), Sl.sh (D.str base), Sl.sh (D.bl near), Sl.sh (D.int spot), Sl.ow (D.lst (List.map D.str xs ++ [d])), Sl.sh (D.int (0 + (x : Int))), Sl.sh d, s8]
        else (List.map D.str xs).length < sizeLine ∧ K n' [Sl.sh D.purse, Sl.sh (D.int m), Sl.sh (D.str base), Sl.sh (D.bl near), Sl.sh (D.int spot), Sl.ow (D.lst (List.map D.str xs ++ [.str w])), Sl.sh (D.int (0 + (x : Int))), Sl.sh (.str w), s8] := by
      intro w n' hw hn'
      refine inA_strs hw.ok hxs ?_
      have hle : (List.map D.str xs).length < sizeLine := by rw [List.length_map]; omega
      by_cases hin : w ∈ xs
      · rw [if_pos (by simpa using hin)]
        refine ⟨alph_len, ?_⟩
        unfold signsD
        refine lcGo_filter (f := fun c => D.str ⟨#[c]⟩) (p := fun c => decide ((⟨#[c]⟩ : Str) ∉ xs)) (by rw [Array.length_toList]; exact alph_len) (fun c hc K' K0 hp hp0 => ?_) ?_
        · have hlc : lowC c := by
            rw [alph_cps] at hc
            obtain ⟨i, hi, rfl⟩ := List.mem_map.mp hc
            have := List.mem_range.mp hi
            unfold lowC; omega
          cases s8 <;>
          · law_fe
            refine inA_strs (Sp.letter hlc).ok hxs ?_
            by_cases hcx : (⟨#[c]⟩ : Str) ∈ xs
            · rw [if_neg (by simpa using hcx)]
              exact hp0 (by simpa using hcx)
            · rw [if_pos (by simpa using hcx)]
              exact hp (by simpa using hcx)
        · rw [alph_cps]
          refine pick_ok (by decide) (by rw [hlen]; simp; omega) fun c hc hcx => ⟨hle, ?_⟩
          obtain ⟨i, hi, rfl⟩ := List.mem_map.mp hc
          have := List.mem_range.mp hi
          exact tail w n' hw hn' _ hcx (Sp.letter (by unfold lowC; omega))
      · rw [if_neg (by simpa using hin)]
        exact ⟨hle, tail w n' hw hn' w hin hw⟩
    split
    · refine word_ok (by omega) fun w n5 hw5 hn5 => last w n5 hw5 (by omega)
    · exact last _ n4 hw (by omega)
  · rintro n1 ρ ⟨hn1, xs, s6, s7, s8, hs, hnd, hlen, rfl⟩
    law_fe
    unfold rangeD at hlen hn1
    rw [List.length_map, List.length_range] at hlen hn1
    exact h xs n1 hs hnd hlen (by omega)
theorem catalogue_ok {n : Nat} {m : Int} {Q : D → Nat → Prop} (hm : 0 ≤ m ∧ m ≤ 12) (hn : n + 250 < 2 ^ 40) (h : ∀ (xs : List Str) n', (∀ x ∈ xs, Sp x) → xs.Nodup → xs.length = m.toNat → n' ≤ n + 220 → Q (lS xs) n') : F_law_catalogue n [.purse, .int m] Q := by
  rw [F_law_catalogue_eq]; unfold runD W_law_catalogue
  law_fe
  refine words_ok hm (by omega) fun xs n1 hs hd hl hn1 => ?_
  refine draw_ok (by decide) (by omega) fun v n2 h0 h1 hn2 => ?_
  refine eqA_int ?_
  split
  · refine sortGD_strs (xs := xs) (by omega) ?_
    intro ys hp _
    exact h ys n2 (fun x hx => hs x (hp.mem_iff.mp hx)) (hp.nodup_iff.mpr hd) (by rw [hp.length_eq, hl]) (by omega)
  · exact shuffled_ok (by omega) (by omega) fun ys n3 hp hn3 => h ys n3 (fun x hx => hs x (hp.mem_iff.mp hx)) (hp.nodup_iff.mpr hd) (by rw [hp.length_eq, hl]) (by omega)
theorem free_ok {n : Nat} {m : Int} {Q : D → Nat → Prop} (hm : 0 ≤ m ∧ m ≤ 12) (hn : n + 300 < 2 ^ 40) (h : ∀ (xs ys : List Str) n', (∀ x ∈ xs, Sp x) → xs.Nodup → xs.length = m.toNat → ys.Perm xs → n' ≤ n + 240 → Q (.lst [lS xs, lS ys]) n') : F_law_free n [.purse, .int m] Q := by
  rw [F_law_free_eq]; unfold runD W_law_free
  law_fe
  refine catalogue_ok hm (by omega) fun xs n1 hs hd hl hn1 => ?_
  refine shuffled_ok (by omega) (by omega) fun ys n2 hp hn2 => ?_
  exact ⟨by decide, h xs ys n2 hs hd hl hp (by omega)⟩
end K11
namespace K11
open PySem PySem.Spec L2 DL PL
local macro_rules | `(tactic| law_fe) => `(tactic| simp only [tSeqD, tIfD, tSetD, tSetO, tRetD, tRetO, tNextD, tDropD, tNeverD, tBreakD, tForD, tLcD, tDcD, tItL, tItT, tItS, tRng1, tRng2, rngA1, rngA2, tEnum, enA, tZip, zpA, t2, t2N, tTst, tNotD, tOrD, tAndD, tAndVD, tOrVD, tNotVD, tIfE, tChnD, tVarD, tVarK, tCD, DL.tCall, tConsA, tConsK, tNilA, tFn, tMet, tMetD_eq, tMutD, tMutV, tFz, frzs, frz1, tLstD, tTupD, slot, startD, tPurIx, tPurSet, tBitsD, tParD, mkS, tMoveD, tAsgD, tPat, setShs, tSlD, tPartD, tNoD, tLenSetD, tRevD, tSetFld, tFldD, selfQ, allD, anyD, tSwapD, tSetIx, tUnD, tRetPur, purA, wipeD, lend, isStrB, isLst, DL.isObj, subD, mulD, modD, divD, powBD, gtD, leD, geD, joinD, sumD, optD, isinD, isiAs, optB, Bool.or_false, Bool.or_true, Bool.false_or, Bool.true_or, Bool.not_true, Bool.not_false, Option.some.injEq, isi_bool_non, isi_bool_bl, isi_bool_int, isi_bool_str, isi_bool_lst, isi_bool_tup, isi_bool_dct, isi_bool_obj, isi_int_non, isi_int_bl, isi_int_int, isi_int_str, isi_int_lst, isi_int_tup, isi_int_dct, isi_int_obj, isi_str_non, isi_str_bl, isi_str_int, isi_str_str, isi_str_lst, isi_str_tup, isi_str_dct, isi_str_obj, isi_list_non, isi_list_bl, isi_list_int, isi_list_str, isi_list_lst, isi_list_tup, isi_list_dct, isi_list_obj, isi_tuple_non, isi_tuple_bl, isi_tuple_int, isi_tuple_str, isi_tuple_lst, isi_tuple_tup, isi_tuple_dct, isi_tuple_obj, isi_dict_non, isi_dict_bl, isi_dict_int, isi_dict_str, isi_dict_lst, isi_dict_tup, isi_dict_dct, isi_dict_obj, isi_cl_non, isi_cl_bl, isi_cl_int, isi_cl_str, isi_cl_lst, isi_cl_tup, isi_cl_dct, isi_own, eqD, neD, ixE_lst, ixE_tup, ixE_str, inE_lst, inE_tup, inE_str, ninE_lst, ninE_tup, ninE_str, appendM, insertM, reverseM, clearM, keyA, keyK, List.set, List.length_cons, List.length_nil, List.replicate, List.cons_append, List.nil_append, List.append_nil, Bool.false_eq_true, if_false, if_true, true_and, and_true, true_or, or_true, listE_lst, listE_tup, listE_str, lenD_lst, lenD_tup, lenD_str, lenD_scr, addD_int, addD_str, addD_lst, addD_tup, catD_lst, intA_int, intC_int, cmpA_int, ltD_int, ltD_str, intD_int, intD_bl, slD_lst, slD_tup, slD_scr, slD_str, minD_two, maxD_two, ixD_zero, ixD_one, false_or, or_false, Int.reduceEq, false_implies, true_implies, implies_true])
structure Good (b : List Str) : Prop where
  ne : b ≠ []
  sp : ∀ x ∈ b, Sp x
  nd : b.Nodup
  le : b.length ≤ 30
theorem Good.ok {b : List Str} (h : Good b) : ∀ x ∈ b, okS x = true := fun x hx => (h.sp x hx).ok
theorem Good.perm {b r : List Str} (h : Good b) (p : r.Perm b) : Good r := ⟨fun e => h.ne (by subst e; exact p.symm.eq_nil), fun x hx => h.sp x (p.mem_iff.mp hx), p.nodup_iff.mpr h.nd, by rw [p.length_eq]; exact h.le⟩
theorem alph_occ : ∀ k : Fin 26, (Builtin.Str.occurrences (Str.ofString "abcdefghijklmnopqrstuvwxyz") ⟨#[97 + k.val]⟩ 0 (Str.ofString "abcdefghijklmnopqrstuvwxyz").length 1).isEmpty = false := by decide +kernel
theorem alph_in {c : Nat} (h : lowC c) : (Builtin.Str.occurrences (Str.ofString "abcdefghijklmnopqrstuvwxyz") ⟨#[c]⟩ 0 (Str.ofString "abcdefghijklmnopqrstuvwxyz").length 1).isEmpty = false := by
  have := alph_occ ⟨c - 97, by unfold lowC at h; omega⟩
  rwa [show 97 + (⟨c - 97, by unfold lowC at h; omega⟩ : Fin 26).val = c by unfold lowC at h; show 97 + (c - 97) = c; omega] at this
theorem is_spelt_ok {n : Nat} {s : Str} {Q : D → Nat → Prop} (h : Sp s) (q : Q (.bl true) n) : F_is_spelt n [.str s] Q := by
  have h1 := h.1
  have h2 := h.2.1
  rw [F_is_spelt_eq]; unfold runD W_is_spelt
  law_fe
  unfold Str.length
  refine ⟨by rw [sizeLine_eq]; omega, ?_⟩
  rw [if_pos (by simpa using h1), if_neg (by simp; omega)]
  refine forD_ind (fun i n' ρ => n' = n ∧ ∃ s1, ρ = [.sh (.str s), s1]) ?_ ?_ ⟨rfl, _, rfl⟩
  · rintro i d n1 ρ K hd ⟨rfl, s1, rfl⟩ hK
    unfold signsD at hd
    rw [List.getElem?_map] at hd
    obtain ⟨c, hc, rfl⟩ := Option.map_eq_some_iff.mp hd
    law_fe
    unfold inA
    dsimp only
    rw [alph_in (h.2.2 c (List.mem_of_getElem? hc))]
    law_fe
    exact hK _ _ ⟨rfl, _, rfl⟩
  · rintro n1 ρ ⟨rfl, s1, rfl⟩
    exact q
theorem are_books_ok {n : Nat} {b : List Str} {Q : D → Nat → Prop} (h : Good b) (q : Q (.bl true) n) : F_are_books n [lS b] Q := by
  have hle := h.le
  rw [F_are_books_eq]; unfold runD W_are_books
  law_fe
  refine ⟨by decide, eqA_strs (ys := []) h.ok (by simp) ?_⟩
  rw [if_neg (by simpa using h.ne)]
  refine lcGo_map (f := fun _ => .bl true) (by rw [sizeLine_eq]; omega) (fun x hx K hK => ?_) ?_
  · law_fe
    exact is_spelt_ok (h.sp x hx) hK
  · rw [show (b.map fun _ => D.bl true) = (b.map fun _ => true).map D.bl by simp]
    rw [blsD_bls, keys_strs]
    have : ((b.map fun _ => true).all id) = true := by simp
    dsimp only
    rw [this]
    rw [if_neg (by simp)]
    have hnd : (b.map (Sum.inr : Str → Key)).Nodup := by
      have := h.nd
      rw [List.nodup_iff_pairwise_ne] at this ⊢
      exact List.pairwise_map.mpr (this.imp fun hne z => hne (by simpa using z))
    rw [dcount_nodup hnd, List.length_map, List.length_map]
    refine ⟨by unfold scanBound; omega, eqA_int ?_⟩
    simpa using q
theorem check_catalogue_ok {n : Nat} {b : List Str} {Q : D → Nat → Prop} (h : Good b) (q : Q .non n) : F_check_catalogue n [lS b] Q := by
  rw [F_check_catalogue_eq]; unfold runD W_check_catalogue
  law_fe
  refine are_books_ok h ?_
  law_fe
  exact q
/-- the dict of entries -/
def entD (b : List Str) : D := dctOf (b.zipIdx.map fun p => (Sum.inr p.1, D.int (p.2 : Nat)))
theorem get_ent {x : Str} : ∀ {b : List Str} {k : Nat}, x ∈ b → dctGet ((b.zipIdx k).map fun p => (Sum.inl (Sum.inr p.1) : DKey)) ((b.zipIdx k).map fun p => D.int (p.2 : Nat)) (.inl (.inr x)) = some (.int ((k + b.idxOf x : Nat) : Int))
  | [], _, h => by cases h
  | y :: b, k, h => by
    rw [List.zipIdx_cons, List.map_cons, List.map_cons]
    simp only [dctGet]
    by_cases e : y = x
    · subst e
      rw [if_pos rfl, List.idxOf_cons_self]
      rfl
    · have hx : x ∈ b := by
        rcases List.mem_cons.mp h with h | h
        · exact absurd h.symm e
        · exact h
      rw [if_neg (by simpa using e), get_ent hx, List.idxOf_cons, show (y == x) = false by simpa using e, cond_false]
      congr 2
      omega
theorem ent_ix {b : List Str} {x : Str} {P : D → Prop} (h : x ∈ b) (q : P (.int (b.idxOf x : Nat))) : ixE (entD b) (.str x) P := by
  unfold entD dctOf ixE keyA keyK
  dsimp only
  refine ⟨by simp, ?_⟩
  rw [List.map_map, List.map_map]
  have := get_ent (k := 0) h
  rw [show ((fun p : Key × D => (Sum.inl p.1 : DKey)) ∘ fun p : Str × Nat => ((Sum.inr p.1 : Key), D.int (p.2 : Nat))) = fun p => Sum.inl (Sum.inr p.1) from rfl,
    show (((·.2) : Key × D → D) ∘ fun p : Str × Nat => ((Sum.inr p.1 : Key), D.int (p.2 : Nat))) = fun p => D.int (p.2 : Nat) from rfl, this]
  simpa [optD] using q
theorem ent_nin {b : List Str} {x : Str} {P : D → Prop} (h : x ∈ b) (q : P (.bl false)) : ninE (.str x) (entD b) P := by
  unfold entD dctOf ninE keyA keyK
  dsimp only
  refine ⟨by simp, ?_⟩
  rw [List.map_map, List.map_map]
  have := get_ent (k := 0) h
  rw [show ((fun p : Key × D => (Sum.inl p.1 : DKey)) ∘ fun p : Str × Nat => ((Sum.inr p.1 : Key), D.int (p.2 : Nat))) = fun p => Sum.inl (Sum.inr p.1) from rfl,
    show (((·.2) : Key × D → D) ∘ fun p : Str × Nat => ((Sum.inr p.1 : Key), D.int (p.2 : Nat))) = fun p => D.int (p.2 : Nat) from rfl, this]
  exact q
abbrev idx (b r : List Str) : List Int := r.map fun x => ((b.idxOf x : Nat) : Int)
/-- the object -/
def shD (b r : List Str) : D := .obj "Shelf" ["books", "order", "entries", "ranks"] [lS b, lS r, entD b, lI (idx b r)]
theorem nm1 : (("order" : Str) == "books") = false := by decide +kernel
theorem nm2 : (("entries" : Str) == "books") = false := by decide +kernel
theorem nm3 : (("entries" : Str) == "order") = false := by decide +kernel
theorem nm4 : (("ranks" : Str) == "books") = false := by decide +kernel
theorem nm5 : (("ranks" : Str) == "order") = false := by decide +kernel
theorem nm6 : (("ranks" : Str) == "entries") = false := by decide +kernel
theorem fld_books {b r : List Str} {Q : D → Prop} : fldA "Shelf" "books" (shD b r) Q = Q (lS b) := by
  unfold fldA shD
  simp [List.lookup, optD]
theorem fld_order {b r : List Str} {Q : D → Prop} : fldA "Shelf" "order" (shD b r) Q = Q (lS r) := by
  unfold fldA shD
  simp [List.lookup, optD, nm1]
theorem fld_entries {b r : List Str} {Q : D → Prop} : fldA "Shelf" "entries" (shD b r) Q = Q (entD b) := by
  unfold fldA shD
  simp [List.lookup, optD, nm2, nm3]
theorem fld_ranks {b r : List Str} {Q : D → Prop} : fldA "Shelf" "ranks" (shD b r) Q = Q (lI (idx b r)) := by
  unfold fldA shD
  simp [List.lookup, optD, nm4, nm5, nm6]
theorem fld_e3 {x y z : D} {Q : D → Prop} : fldA "Shelf" "entries" (.obj "Shelf" ["books", "order", "entries"] [x, y, z]) Q = Q z := by
  unfold fldA
  simp [List.lookup, optD, nm2, nm3]
theorem init_ok {n : Nat} {b r : List Str} {Q : D → Nat → Prop} (h : Good b) (p : r.Perm b) (q : Q (shD b r) n) : F_Shelf_init n [lS b, lS r] Q := by
  have hle := h.le
  have hlr := p.length_eq
  have hr := h.perm p
  rw [F_Shelf_init_eq]; unfold initD W_Shelf_init
  law_fe
  refine check_catalogue_ok h (are_books_ok hr ?_)
  law_fe
  refine sortGD_strs (xs := r) (by omega) fun ys py sy => sortGD_strs (xs := b) (by omega) fun zs pz sz => ?_
  have e : ys = zs := sorted_eq sy sz ((py.trans p).trans pz.symm)
  subst e
  refine eqA_strs (h.perm pz).ok (h.perm pz).ok ?_
  law_fe
  rw [if_neg (by simp)]
  refine ⟨by simp, by omega, by simpa using nm1, by omega, ?_⟩
  unfold enumD
  rw [show (b.map D.str).zipIdx = b.zipIdx.map fun p => (D.str p.1, p.2) from ?_, List.map_map]
  refine dcGo_new (pre := []) (key := fun p : Str × Nat => Sum.inr p.1) (val := fun p => D.int (p.2 : Nat)) ?_ ?_ (fun x hx R hR => ?_) ?_
  · rw [List.nil_append, show (b.zipIdx.map fun p : Str × Nat => (Sum.inr p.1 : Key)) = b.map Sum.inr by rw [← List.zipIdx_map_fst 0 b, List.map_map]; simp [Function.comp_def]]
    have := h.nd
    rw [List.nodup_iff_pairwise_ne] at this ⊢
    exact List.pairwise_map.mpr (this.imp fun hne z => hne (by simpa using z))
  · rw [List.nil_append, List.length_zipIdx, sizeLine_eq]; omega
  · show tPat (.tp [3, 4]) (.tup [.int (x.2 : Nat), .str x.1]) _ _
    law_fe
    exact hR
  · refine ⟨by simp [nm2, nm3, ← beq_iff_eq], by omega, ?_⟩
    rw [List.nil_append]
    refine lcGo_map (f := fun x => .int (b.idxOf x : Nat)) (by rw [sizeLine_eq]; omega) (fun x hx K hK => ?_) ?_
    · law_fe
      rw [fld_e3]
      exact ent_ix (p.mem_iff.mp hx) hK
    · refine ⟨by simp [nm4, nm5, nm6, ← beq_iff_eq], by omega, ?_⟩
      rw [show (r.map fun x => D.int (b.idxOf x : Nat)) = (idx b r).map D.int by rw [List.map_map]; rfl]
      exact q
  · apply List.ext_getElem?
    intro i
    simp
    cases b[i]? <;> rfl
local macro_rules | `(tactic| law_fe) => `(tactic| simp only [tSeqD, tIfD, tSetD, tSetO, tRetD, tRetO, tNextD, tDropD, tNeverD, tBreakD, tForD, tLcD, tDcD, tItL, tItT, tItS, tRng1, tRng2, rngA1, rngA2, tEnum, enA, tZip, zpA, t2, t2N, tTst, tNotD, tOrD, tAndD, tAndVD, tOrVD, tNotVD, tIfE, tChnD, tVarD, tVarK, tCD, DL.tCall, tConsA, tConsK, tNilA, tFn, tMet, tMetD_eq, tMutD, tMutV, tFz, frzs, frz1, tLstD, tTupD, slot, startD, tPurIx, tPurSet, tBitsD, tParD, mkS, tMoveD, tAsgD, tPat, setShs, tSlD, tPartD, tNoD, tLenSetD, tRevD, tSetFld, tFldD, selfQ, allD, anyD, tSwapD, tSetIx, tUnD, tRetPur, purA, wipeD, lend, isStrB, isLst, DL.isObj, subD, mulD, modD, divD, powBD, gtD, leD, geD, joinD, sumD, optD, isinD, isiAs, optB, Bool.or_false, Bool.or_true, Bool.false_or, Bool.true_or, Bool.not_true, Bool.not_false, Option.some.injEq, isi_bool_non, isi_bool_bl, isi_bool_int, isi_bool_str, isi_bool_lst, isi_bool_tup, isi_bool_dct, isi_bool_obj, isi_int_non, isi_int_bl, isi_int_int, isi_int_str, isi_int_lst, isi_int_tup, isi_int_dct, isi_int_obj, isi_str_non, isi_str_bl, isi_str_int, isi_str_str, isi_str_lst, isi_str_tup, isi_str_dct, isi_str_obj, isi_list_non, isi_list_bl, isi_list_int, isi_list_str, isi_list_lst, isi_list_tup, isi_list_dct, isi_list_obj, isi_tuple_non, isi_tuple_bl, isi_tuple_int, isi_tuple_str, isi_tuple_lst, isi_tuple_tup, isi_tuple_dct, isi_tuple_obj, isi_dict_non, isi_dict_bl, isi_dict_int, isi_dict_str, isi_dict_lst, isi_dict_tup, isi_dict_dct, isi_dict_obj, isi_cl_non, isi_cl_bl, isi_cl_int, isi_cl_str, isi_cl_lst, isi_cl_tup, isi_cl_dct, isi_own, eqD, neD, ixE_lst, ixE_tup, ixE_str, inE_lst, inE_tup, inE_str, ninE_lst, ninE_tup, ninE_str, appendM, insertM, reverseM, clearM, keyA, keyK, List.set, List.length_cons, List.length_nil, List.replicate, List.cons_append, List.nil_append, List.append_nil, Bool.false_eq_true, if_false, if_true, true_and, and_true, true_or, or_true, fld_books, fld_order, fld_entries, fld_ranks, listE_lst, listE_tup, listE_str, lenD_lst, lenD_tup, lenD_str, lenD_scr, addD_int, addD_str, addD_lst, addD_tup, catD_lst, intA_int, intC_int, cmpA_int, ltD_int, ltD_str, intD_int, intD_bl, slD_lst, slD_tup, slD_scr, slD_str, minD_two, maxD_two, ixD_zero, ixD_one, false_or, or_false, Int.reduceEq, false_implies, true_implies, implies_true])
theorem met_cat {b r : List Str} {F : FnD} {n : Nat} {Q : D → Nat → Prop} : metQ "Shelf" "catalogue" F (shD b r) n Q = F n [shD b r] Q := by
  have : (["books", "order", "entries", "ranks"] : List Str).contains "catalogue" = false := by decide +kernel
  show (("Shelf" : Str) = "Shelf" ∧ _ = false ∧ _) = _
  rw [this]
  simp [shD]
theorem met_row {b r : List Str} {F : FnD} {n : Nat} {Q : D → Nat → Prop} : metQ "Shelf" "row" F (shD b r) n Q = F n [shD b r] Q := by
  have : (["books", "order", "entries", "ranks"] : List Str).contains "row" = false := by decide +kernel
  show (("Shelf" : Str) = "Shelf" ∧ _ = false ∧ _) = _
  rw [this]
  simp [shD]
theorem isi_sh {b r : List Str} : isiA (shD b r) (.cl "Shelf") = some true := isi_own
theorem cat_ok {n : Nat} {b r : List Str} {Q : D → Nat → Prop} (q : Q (lS b) n) : F_Shelf_catalogue n [shD b r] Q := by
  rw [F_Shelf_catalogue_eq]; unfold runD W_Shelf_catalogue
  law_fe
  exact q
theorem row_ok {n : Nat} {b r : List Str} {Q : D → Nat → Prop} (q : Q (lS r) n) : F_Shelf_row n [shD b r] Q := by
  rw [F_Shelf_row_eq]; unfold runD W_Shelf_row
  law_fe
  exact q
theorem check_shelf_ok {n : Nat} {b r : List Str} {Q : D → Nat → Prop} (q : Q .non n) : F_check_shelf n [shD b r] Q := by
  rw [F_check_shelf_eq]; unfold runD W_check_shelf
  law_fe
  rw [isi_sh]
  exact q
theorem sh_eq_ok {n : Nat} {b r b' r' : List Str} {Q : D → Nat → Prop} (h : Good b) (p : r.Perm b) (h' : Good b') (p' : r'.Perm b') (q : Q (.bl (decide (b = b' ∧ r = r'))) n) : F_Shelf_eq n [shD b r, shD b' r'] Q := by
  rw [F_Shelf_eq_eq]; unfold runD W_Shelf_eq
  law_fe
  rw [isi_sh]
  law_fe
  refine eqA_strs h.ok h'.ok ?_
  by_cases e1 : b = b'
  · rw [if_pos (by simpa using e1)]
    refine eqA_strs (h.perm p).ok (h'.perm p').ok ?_
    simpa [e1] using q
  · rw [if_neg (by simpa using e1)]
    simpa [e1] using q
theorem sh_eq_no {n : Nat} {b r : List Str} {d : D} {Q : D → Nat → Prop} (hd : ∃ t, tyN d = some t) (q : Q (.bl false) n) : F_Shelf_eq n [shD b r, d] Q := by
  rw [F_Shelf_eq_eq]; unfold runD W_Shelf_eq
  law_fe
  have : isiA d (.cl "Shelf") = some false := by
    obtain ⟨t, ht⟩ := hd
    cases d <;> simp [tyN] at ht <;> rfl
  rw [this]
  exact q
end K11
namespace K11
open PySem PySem.Spec L2 DL PL
local macro_rules | `(tactic| law_fe) => `(tactic| simp only [tSeqD, tIfD, tSetD, tSetO, tRetD, tRetO, tNextD, tDropD, tNeverD, tBreakD, tForD, tLcD, tDcD, tItL, tItT, tItS, tRng1, tRng2, rngA1, rngA2, tEnum, enA, tZip, zpA, t2, t2N, tTst, tNotD, tOrD, tAndD, tAndVD, tOrVD, tNotVD, tIfE, tChnD, tVarD, tVarK, tCD, DL.tCall, tConsA, tConsK, tNilA, tFn, tMet, tMetD_eq, tMutD, tMutV, tFz, frzs, frz1, tLstD, tTupD, slot, startD, tPurIx, tPurSet, tBitsD, tParD, mkS, tMoveD, tAsgD, tPat, setShs, tSlD, tPartD, tNoD, tLenSetD, tRevD, tSetFld, tFldD, selfQ, allD, anyD, tSwapD, tSetIx, tUnD, tRetPur, purA, wipeD, lend, isStrB, isLst, DL.isObj, subD, mulD, modD, divD, powBD, gtD, leD, geD, joinD, sumD, optD, isinD, isiAs, optB, Bool.or_false, Bool.or_true, Bool.false_or, Bool.true_or, Bool.not_true, Bool.not_false, Option.some.injEq, isi_bool_non, isi_bool_bl, isi_bool_int, isi_bool_str, isi_bool_lst, isi_bool_tup, isi_bool_dct, isi_bool_obj, isi_int_non, isi_int_bl, isi_int_int, isi_int_str, isi_int_lst, isi_int_tup, isi_int_dct, isi_int_obj, isi_str_non, isi_str_bl, isi_str_int, isi_str_str, isi_str_lst, isi_str_tup, isi_str_dct, isi_str_obj, isi_list_non, isi_list_bl, isi_list_int, isi_list_str, isi_list_lst, isi_list_tup, isi_list_dct, isi_list_obj, isi_tuple_non, isi_tuple_bl, isi_tuple_int, isi_tuple_str, isi_tuple_lst, isi_tuple_tup, isi_tuple_dct, isi_tuple_obj, isi_dict_non, isi_dict_bl, isi_dict_int, isi_dict_str, isi_dict_lst, isi_dict_tup, isi_dict_dct, isi_dict_obj, isi_cl_non, isi_cl_bl, isi_cl_int, isi_cl_str, isi_cl_lst, isi_cl_tup, isi_cl_dct, isi_own, eqD, neD, ixE_lst, ixE_tup, ixE_str, inE_lst, inE_tup, inE_str, ninE_lst, ninE_tup, ninE_str, appendM, insertM, reverseM, clearM, keyA, keyK, List.set, List.length_cons, List.length_nil, List.replicate, List.cons_append, List.nil_append, List.append_nil, Bool.false_eq_true, if_false, if_true, true_and, and_true, true_or, or_true, tZipA, zpB, listE_lst, listE_tup, listE_str, lenD_lst, lenD_tup, lenD_str, lenD_scr, addD_int, addD_str, addD_lst, addD_tup, catD_lst, intA_int, intC_int, cmpA_int, ltD_int, ltD_str, intD_int, intD_bl, slD_lst, slD_tup, slD_scr, slD_str, minD_two, maxD_two, ixD_zero, ixD_one, false_or, or_false, Int.reduceEq, false_implies, true_implies, implies_true])
theorem R_lst {k n : Nat} {ds : List D} {Q : D → Nat → Prop} (hl : ds.length ≤ 100000) (h : ∀ d ∈ ds, ∀ n (Q : D → Nat → Prop), Q (.bl true) n → R_law_exact k n [d, d] Q) (q : Q (.bl true) n) : R_law_exact (k + 1) n [.lst ds, .lst ds] Q := by
  unfold R_law_exact runD W_law_exact
  simp only [tSeqD, tIfD]
  refine tt_val true (fun K hK => by law_fe; exact ⟨by decide, hK⟩) ?_
  simp only [if_true, tSetD]
  refine td_val (.bl true) (fun K hK => by law_fe; refine eqA_bl ?_; rw [if_pos (by simp)]; exact eqA_bl hK) ?_
  simp only [tRetD]
  refine td_val (.bl true) (fun K hK => ?_) q
  law_fe
  refine eqA_int ?_
  rw [if_pos (by simp), zipD_self]
  refine lcGo_map (f := fun _ => .bl true) (by rw [sizeLine_eq]; omega) (fun d hd K hK => ?_) ?_
  · law_fe
    exact h d hd n K hK
  · rw [show (ds.map fun _ => D.bl true) = (ds.map fun _ => true).map D.bl by simp, blsD_bls]
    have : ((ds.map fun _ => true).all id) = true := by simp
    dsimp only
    rw [this]
    exact hK
theorem R_tup {k n : Nat} {ds : List D} {Q : D → Nat → Prop} (hl : ds.length ≤ 100000) (h : ∀ d ∈ ds, ∀ n (Q : D → Nat → Prop), Q (.bl true) n → R_law_exact k n [d, d] Q) (q : Q (.bl true) n) : R_law_exact (k + 1) n [.tup ds, .tup ds] Q := by
  unfold R_law_exact runD W_law_exact
  simp only [tSeqD, tIfD]
  refine tt_val true (fun K hK => by law_fe; exact ⟨by decide, hK⟩) ?_
  simp only [if_true, tSetD]
  refine td_val (.bl true) (fun K hK => by law_fe; refine eqA_bl ?_; rw [if_pos (by simp)]; exact eqA_bl hK) ?_
  simp only [tRetD]
  refine td_val (.bl true) (fun K hK => ?_) q
  law_fe
  refine eqA_int ?_
  rw [if_pos (by simp), zipD_self]
  refine lcGo_map (f := fun _ => .bl true) (by rw [sizeLine_eq]; omega) (fun d hd K hK => ?_) ?_
  · law_fe
    exact h d hd n K hK
  · rw [show (ds.map fun _ => D.bl true) = (ds.map fun _ => true).map D.bl by simp, blsD_bls]
    have : ((ds.map fun _ => true).all id) = true := by simp
    dsimp only
    rw [this]
    exact hK
theorem R_self : ∀ (k : Nat) (d : D) (n : Nat) (Q : D → Nat → Prop), plainB k d = true → k ≤ 60 → Q (.bl true) n → R_law_exact (k + 1) n [d, d] Q
  | k, .non, n, Q, h, hk, q => by
    unfold R_law_exact runD W_law_exact
    simp only [tSeqD, tIfD]
    refine tt_val false (fun K hK => by law_fe; exact ⟨by decide, hK⟩) ?_
    simp only [Bool.false_eq_true, if_false, tNextD, tSeqD, tIfD]
    refine tt_val false (fun K hK => by law_fe; exact hK) ?_
    simp only [Bool.false_eq_true, if_false, tNextD, tRetD]
    refine td_val (.bl true) (fun K hK => ?_) q
    law_fe
    refine eqA_bl ?_
    rw [if_pos (by simp)]
    exact eqA_self h (by omega) hK
  | k, .bl _, n, Q, h, hk, q => by
    unfold R_law_exact runD W_law_exact
    simp only [tSeqD, tIfD]
    refine tt_val false (fun K hK => by law_fe; exact ⟨by decide, hK⟩) ?_
    simp only [Bool.false_eq_true, if_false, tNextD, tSeqD, tIfD]
    refine tt_val false (fun K hK => by law_fe; exact hK) ?_
    simp only [Bool.false_eq_true, if_false, tNextD, tRetD]
    refine td_val (.bl true) (fun K hK => ?_) q
    law_fe
    refine eqA_bl ?_
    rw [if_pos (by simp)]
    exact eqA_self h (by omega) hK
  | k, .int _, n, Q, h, hk, q => by
    unfold R_law_exact runD W_law_exact
    simp only [tSeqD, tIfD]
    refine tt_val false (fun K hK => by law_fe; exact ⟨by decide, hK⟩) ?_
    simp only [Bool.false_eq_true, if_false, tNextD, tSeqD, tIfD]
    refine tt_val false (fun K hK => by law_fe; exact hK) ?_
    simp only [Bool.false_eq_true, if_false, tNextD, tRetD]
    refine td_val (.bl true) (fun K hK => ?_) q
    law_fe
    refine eqA_bl ?_
    rw [if_pos (by simp)]
    exact eqA_self h (by omega) hK
  | k, .str _, n, Q, h, hk, q => by
    unfold R_law_exact runD W_law_exact
    simp only [tSeqD, tIfD]
    refine tt_val false (fun K hK => by law_fe; exact ⟨by decide, hK⟩) ?_
    simp only [Bool.false_eq_true, if_false, tNextD, tSeqD, tIfD]
    refine tt_val false (fun K hK => by law_fe; exact hK) ?_
    simp only [Bool.false_eq_true, if_false, tNextD, tRetD]
    refine td_val (.bl true) (fun K hK => ?_) q
    law_fe
    refine eqA_bl ?_
    rw [if_pos (by simp)]
    exact eqA_self h (by omega) hK
  | k + 1, .lst ds, n, Q, h, hk, q => by
    simp only [plainB, Bool.and_eq_true, List.all_eq_true, decide_eq_true_eq] at h
    exact R_lst h.1 (fun d hd n Q q => R_self k d n Q (h.2 d hd) (by omega) q) q
  | 0, .lst _, _, _, h, _, _ => by simp [plainB] at h
  | k + 1, .tup ds, n, Q, h, hk, q => by
    simp only [plainB, Bool.and_eq_true, List.all_eq_true, decide_eq_true_eq] at h
    exact R_tup h.1 (fun d hd n Q q => R_self k d n Q (h.2 d hd) (by omega) q) q
  | 0, .tup _, _, _, h, _, _ => by simp [plainB] at h
  | k, .dct _ _, _, _, h, _, _ => by obtain ⟨p, e, _⟩ := toPy_plain k _ h; simp [toPy] at e
  | k, .obj _ _ _, _, _, h, _, _ => by obtain ⟨p, e, _⟩ := toPy_plain k _ h; simp [toPy] at e
  | k, .purse, _, _, h, _, _ => by obtain ⟨p, e, _⟩ := toPy_plain k _ h; simp [toPy] at e
  | k, .ty _, _, _, h, _, _ => by obtain ⟨p, e, _⟩ := toPy_plain k _ h; simp [toPy] at e
  | k, .cl _, _, _, h, _, _ => by obtain ⟨p, e, _⟩ := toPy_plain k _ h; simp [toPy] at e
  | k, .scr _, _, _, h, _, _ => by obtain ⟨p, e, _⟩ := toPy_plain k _ h; simp [toPy] at e
theorem exact_ok {n : Nat} {d : D} {Q : D → Nat → Prop} (h : plainB 7 d = true) (q : Q (.bl true) n) : F_law_exact n [d, d] Q := by
  rw [F_law_exact_eq]
  exact R_self 7 d n Q h (by omega) q
end K11
namespace K11
open PySem PySem.Spec L2 DL PL
local macro_rules | `(tactic| law_fe) => `(tactic| simp only [tSeqD, tIfD, tSetD, tSetO, tRetD, tRetO, tNextD, tDropD, tNeverD, tBreakD, tForD, tLcD, tDcD, tItL, tItT, tItS, tRng1, tRng2, rngA1, rngA2, tEnum, enA, tZip, zpA, t2, t2N, tTst, tNotD, tOrD, tAndD, tAndVD, tOrVD, tNotVD, tIfE, tChnD, tVarD, tVarK, tCD, DL.tCall, tConsA, tConsK, tNilA, tFn, tMet, tMetD_eq, tMutD, tMutV, tFz, frzs, frz1, tLstD, tTupD, slot, startD, tPurIx, tPurSet, tBitsD, tParD, mkS, tMoveD, tAsgD, tPat, setShs, tSlD, tPartD, tNoD, tLenSetD, tRevD, tSetFld, tFldD, selfQ, allD, anyD, tSwapD, tSetIx, tUnD, tRetPur, purA, wipeD, lend, isStrB, isLst, DL.isObj, subD, mulD, modD, divD, powBD, gtD, leD, geD, joinD, sumD, optD, isinD, isiAs, optB, Bool.or_false, Bool.or_true, Bool.false_or, Bool.true_or, Bool.not_true, Bool.not_false, Option.some.injEq, isi_bool_non, isi_bool_bl, isi_bool_int, isi_bool_str, isi_bool_lst, isi_bool_tup, isi_bool_dct, isi_bool_obj, isi_int_non, isi_int_bl, isi_int_int, isi_int_str, isi_int_lst, isi_int_tup, isi_int_dct, isi_int_obj, isi_str_non, isi_str_bl, isi_str_int, isi_str_str, isi_str_lst, isi_str_tup, isi_str_dct, isi_str_obj, isi_list_non, isi_list_bl, isi_list_int, isi_list_str, isi_list_lst, isi_list_tup, isi_list_dct, isi_list_obj, isi_tuple_non, isi_tuple_bl, isi_tuple_int, isi_tuple_str, isi_tuple_lst, isi_tuple_tup, isi_tuple_dct, isi_tuple_obj, isi_dict_non, isi_dict_bl, isi_dict_int, isi_dict_str, isi_dict_lst, isi_dict_tup, isi_dict_dct, isi_dict_obj, isi_cl_non, isi_cl_bl, isi_cl_int, isi_cl_str, isi_cl_lst, isi_cl_tup, isi_cl_dct, isi_own, eqD, neD, ixE_lst, ixE_tup, ixE_str, inE_lst, inE_tup, inE_str, ninE_lst, ninE_tup, ninE_str, appendM, insertM, reverseM, clearM, keyA, keyK, List.set, List.length_cons, List.length_nil, List.replicate, List.cons_append, List.nil_append, List.append_nil, Bool.false_eq_true, if_false, if_true, true_and, and_true, true_or, or_true, listE_lst, listE_tup, listE_str, lenD_lst, lenD_tup, lenD_str, lenD_scr, addD_int, addD_str, addD_lst, addD_tup, catD_lst, intA_int, intC_int, cmpA_int, ltD_int, ltD_str, intD_int, intD_bl, slD_lst, slD_tup, slD_scr, slD_str, minD_two, maxD_two, ixD_zero, ixD_one, false_or, or_false, Int.reduceEq, false_implies, true_implies, implies_true])
theorem one_of_ok {n : Nat} {ds : List D} {Q : D → Nat → Prop} (h0 : 0 < ds.length) (h1 : ds.length < 1000000) (hn : n + 1 < 2 ^ 40) (q : ∀ d n', d ∈ ds → n' ≤ n + 1 → Q d n') : F_law_one_of n [.purse, .lst ds] Q := by
  rw [F_law_one_of_eq]; unfold runD W_law_one_of
  law_fe
  refine draw_ok (by omega) hn fun v n' hv hv' hn' => ?_
  have hl : v.toNat < ds.length := by omega
  exact ix_nat (d := ds[v.toNat]) hv (List.getElem?_eq_getElem hl) (q _ _ (List.getElem_mem hl) hn')
theorem sizes_ok {n size many : Nat} {Q : D → Nat → Prop} (h0 : 0 < many) (h1 : many ≤ size) (h2 : size ≤ 100) (hn : n + 200 < 2 ^ 40) (q : ∀ xs n', xs.length = many → (∀ x ∈ xs, 1 ≤ x) → xs.sum = size → n' ≤ n + 100 → Q (lN xs) n') : F_law_sizes n [.purse, .int size, .int many] Q := by
  have hz := sizeLine_eq
  rw [F_law_sizes_eq]; unfold runD W_law_sizes
  simp only [startD, List.replicate, Bool.false_eq_true, if_false]
  refine sq_any (fun n' ρ' => n = n' ∧ ρ' = [.sh .purse, .sh (.int size), .sh (.int many), .ow (lN (List.replicate many 1)), .un, .un]) (fun K hK => ?_) ?_
  · law_fe
    refine ⟨by omega, ?_⟩
    show _ ∧ _ ∧ _ ∧ _
    refine ⟨by omega, by omega, by simp; omega, ?_⟩
    rw [show (List.replicate ((many : Int).toNat) [D.int 1]).flatten = (List.replicate many 1).map fun x : Nat => D.int ((x : Nat) : Int) from ?_]
    · exact hK _ _ ⟨rfl, rfl⟩
    · rw [Int.toNat_natCast]
      clear hK q hn h0 h1
      induction many with
      | zero => rfl
      | succ k ih => rw [List.replicate_succ, List.flatten_cons, ih, List.replicate_succ, List.map_cons]; rfl
  rintro _ _ ⟨rfl, rfl⟩
  refine sq_any (fun n' ρ' => n' ≤ n + 100 ∧ ∃ xs s4 s5, xs.length = many ∧ (∀ x ∈ xs, 1 ≤ x) ∧ xs.sum = size ∧ ρ' = [.sh .purse, .sh (.int size), .sh (.int many), .ow (lN xs), s4, s5]) (fun K hK => ?_) ?_
  · refine for_rng (fun i n' => n = n' ∧ i = (size : Int) - many) (fun K' hK' => by law_fe; exact hK' _ _ ⟨rfl, rfl⟩) ?_
    rintro _ _ ⟨rfl, rfl⟩
    refine ⟨by omega, ?_⟩
    refine forD_ind (fun i n' ρ' => n' ≤ n + i ∧ ∃ xs s4 s5, xs.length = many ∧ (∀ x ∈ xs, 1 ≤ x) ∧ xs.sum = many + i ∧ ρ' = [.sh .purse, .sh (.int size), .sh (.int many), .ow (lN xs), s4, s5]) ?_ ?_ ⟨by omega, List.replicate many 1, _, _, by simp, fun x hx => by rw [List.eq_of_mem_replicate hx]; omega, by simp, rfl⟩
    · rintro i d n1 _ K' hd ⟨hn1, xs, s4, s5, hl, h1', hs, rfl⟩ hK'
      have hi : i < size - many := by
        obtain ⟨z, _⟩ := List.getElem?_eq_some_iff.mp hd
        rw [rangeD, List.length_map, List.length_range] at z
        omega
      law_fe
      refine draw_ok (by omega) (by omega) fun v n2 h3 h4 hn2 => ?_
      refine ix_nats h3 (by rw [hl]; exact h4) ?_
      law_fe
      refine set_ix (by rw [List.length_map, hl]; exact ⟨h3, h4⟩) (hK' _ _ ⟨by omega, xs.set v.toNat (xs.getD v.toNat 0 + 1), .sh d, .sh (.int v), by rw [List.length_set]; exact hl, fun x hx => ?_, ?_, ?_⟩)
      · rcases List.mem_or_eq_of_mem_set hx with hx | hx
        · exact h1' x hx
        · omega
      · have := sum_set xs v.toNat (xs.getD v.toNat 0 + 1) (by omega)
        omega
      · rw [lN, List.map_set]
        simp
    · rintro n1 _ ⟨hn1, xs, s4, s5, hl, h1', hs, rfl⟩
      rw [rangeD, List.length_map, List.length_range] at hs hn1
      exact hK _ _ ⟨by omega, xs, _, _, hl, h1', by omega, rfl⟩
  rintro n1 _ ⟨hn1, xs, s4, s5, hl, h1', hs, rfl⟩
  law_fe
  exact q xs n1 hl h1' hs hn1
theorem heap_sizes_ok {n size : Nat} {Q : D → Nat → Prop} (h1 : 1 < size) (h2 : size ≤ 100) (hn : n + 1000 < 2 ^ 40) (q : ∀ xs n', (∀ x ∈ xs, x = 1 ∨ 4 ≤ x) → (∀ x ∈ xs, x < size) → xs.sum = size → n' ≤ n + 500 → Q (lN xs) n') : F_law_heap_sizes n [.purse, .int size] Q := by
  have hz := sizeLine_eq
  rw [F_law_heap_sizes_eq]; unfold runD W_law_heap_sizes
  simp only [startD, List.replicate, Bool.false_eq_true, if_false]
  refine sq_any (fun n' ρ' => n = n' ∧ ρ' = [.sh .purse, .sh (.int size), .ow (lN []), .un]) (fun K hK => by law_fe; exact ⟨by decide, hK _ _ ⟨rfl, rfl⟩⟩) ?_
  rintro _ _ ⟨rfl, rfl⟩
  refine sq_any (fun n' ρ' => n' ≤ n + 500 ∧ ∃ (xs : List Nat) (s3 : Sl), (∀ x ∈ xs, x = 1 ∨ 4 ≤ x) ∧ (∀ x ∈ xs, x < size) ∧ xs.sum = size ∧ ρ' = [.sh .purse, .sh (.int size), .ow (lN xs), s3]) (fun K hK => ?_) ?_
  · refine wh_ind (fun m n' ρ' => n' + 4 * m ≤ n + 4 * size ∧ ∃ (xs : List Nat) (s3 : Sl), (∀ x ∈ xs, x = 1 ∨ 4 ≤ x) ∧ (∀ x ∈ xs, x < size) ∧ xs.sum + m = size ∧ xs.length ≤ xs.sum ∧ ρ' = [.sh .purse, .sh (.int size), .ow (lN xs), s3]) ?_ (m := size) ⟨by omega, [], .un, fun x hx => (by cases hx), fun x hx => (by cases hx), by simp, by simp, rfl⟩
    rintro m n1 _ K' ⟨hn1, xs, s3, hp, hlt, hs, hlen, rfl⟩ hK'
    law_fe
    rw [intsD_nats]
    dsimp only
    rw [sum_cast]
    by_cases hm : m = 0
    · rw [if_neg (by simp; omega)]
      exact hK _ _ ⟨by omega, xs, _, hp, hlt, by omega, rfl⟩
    rw [if_pos (by simp; omega)]
    have app : ∀ (v n' : Nat) (w : Sl), 1 ≤ v → v ≤ m → v < size → (v = 1 ∨ 4 ≤ v) → n' ≤ n1 + 4 → K' n' [.sh .purse, .sh (.int size), .ow (.lst ((xs.map fun x => D.int ((x : Nat) : Int)) ++ [D.int (v : Int)])), w] := fun v n' w h3 h4 h5 h6 h7 =>
      hK' (m - v) _ _ (by omega) ⟨by omega, xs ++ [v], w, fun x hx => by
        rcases List.mem_append.mp hx with hx | hx
        · exact hp x hx
        · rw [List.mem_singleton] at hx; subst hx; exact h6, fun x hx => by
        rcases List.mem_append.mp hx with hx | hx
        · exact hlt x hx
        · rw [List.mem_singleton] at hx; subst hx; exact h5, by rw [List.sum_append]; simp; omega, by rw [List.sum_append, List.length_append]; simp; omega, by rw [lN, List.map_append]; rfl⟩
    have em : (size : Int) - ((xs.sum : Nat) : Int) = ((m : Nat) : Int) := by omega
    rw [em]
    have hll : (List.map (fun x : Nat => D.int (x : Int)) xs).length < sizeLine := by rw [List.length_map]; omega
    have one : ∀ n2, n2 ≤ n1 + 2 → (List.map (fun x : Nat => D.int (x : Int)) xs).length < sizeLine ∧ K' n2 [Sl.sh D.purse, Sl.sh (D.int size), Sl.ow (D.lst (List.map (fun x : Nat => D.int (x : Int)) xs ++ [D.int 1])), Sl.sh (D.int (m : Int))] := fun n2 hn2 => ⟨hll, app 1 n2 _ (by omega) (by omega) (by omega) (.inl rfl) (by omega)⟩
    have rest : ∀ n2, n2 ≤ n1 + 1 → if decide (3 < (m : Int)) = true then 0 ≤ sizeLine ∧ eqA (lN xs) (D.lst []) fun b => if (!b) = true then F_law_draw n2 [D.purse, D.int 3] fun x n1 => eqA x (D.int 0) fun b => if b = true then F_law_draw n1 [D.purse, D.int ((m : Int) - 3)] fun y n2 => addD (D.int 4) y fun d =>
        (List.map (fun x : Nat => D.int (x : Int)) xs).length < sizeLine ∧ K' n2 [Sl.sh D.purse, Sl.sh (D.int size), Sl.ow (D.lst (List.map (fun x : Nat => D.int (x : Int)) xs ++ [d])), Sl.sh (D.int (m : Int))]
        else (List.map (fun x : Nat => D.int (x : Int)) xs).length < sizeLine ∧ K' n1 [Sl.sh D.purse, Sl.sh (D.int size), Sl.ow (D.lst (List.map (fun x : Nat => D.int (x : Int)) xs ++ [D.int 1])), Sl.sh (D.int (m : Int))]
        else (List.map (fun x : Nat => D.int (x : Int)) xs).length < sizeLine ∧ K' n2 [Sl.sh D.purse, Sl.sh (D.int size), Sl.ow (D.lst (List.map (fun x : Nat => D.int (x : Int)) xs ++ [D.int 1])), Sl.sh (D.int (m : Int))] else (List.map (fun x : Nat => D.int (x : Int)) xs).length < sizeLine ∧ K' n2 [Sl.sh D.purse, Sl.sh (D.int size), Sl.ow (D.lst (List.map (fun x : Nat => D.int (x : Int)) xs ++ [D.int 1])), Sl.sh (D.int (m : Int))] := by
      intro n2 hn2
      split
      · rename_i h3
        have h3 := of_decide_eq_true h3
        refine ⟨by decide, ?_⟩
        rw [lN_lI]
        refine eqA_ints (ys := []) ?_
        split
        · rename_i hne
          have hx : xs ≠ [] := fun e => by subst e; simp at hne
          refine draw_ok (by decide) (by omega) fun v n3 hv hv' hn3 => eqA_int ?_
          split
          · refine draw_ok (by omega) (by omega) fun w n4 hw hw' hn4 => ?_
            rw [addD_int, show (4 : Int) + w = ((4 + w.toNat : Nat) : Int) by omega]
            have hs1 : 0 < xs.sum := by
              cases xs with
              | nil => exact absurd rfl hx
              | cons x xs =>
                have := hp x List.mem_cons_self
                rw [List.sum_cons]; omega
            exact ⟨hll, app (4 + w.toNat) n4 _ (by omega) (by omega) (by omega) (.inr (by omega)) (by omega)⟩
          · exact one n3 (by omega)
        · exact one n2 (by omega)
      · exact one n2 (by omega)
    split
    · rename_i h4
      have h4 := of_decide_eq_true h4
      refine draw_ok (by decide) (by omega) fun v n3 hv hv' hn3 => eqA_int ?_
      split
      · refine draw_ok (by split <;> omega) (by omega) fun w n4 hw hw' hn4 => ?_
        rw [addD_int, show (4 : Int) + w = ((4 + w.toNat : Nat) : Int) by omega]
        have hw2 : w < 3 ∧ w < (m : Int) - 4 := by split at hw' <;> omega
        exact ⟨hll, app (4 + w.toNat) n4 _ (by omega) (by omega) (by omega) (.inr (by omega)) (by omega)⟩
      · exact rest n3 (by omega)
    · exact rest n1 (by omega)
  rintro n1 _ ⟨hn1, xs, s3, hp, hlt, hs, rfl⟩
  law_fe
  exact q xs n1 hp hlt hs hn1
end K11
namespace K11
open PySem PySem.Spec L2 DL PL
local macro_rules | `(tactic| law_fe) => `(tactic| simp only [tSeqD, tIfD, tSetD, tSetO, tRetD, tRetO, tNextD, tDropD, tNeverD, tBreakD, tForD, tLcD, tDcD, tItL, tItT, tItS, tRng1, tRng2, rngA1, rngA2, tEnum, enA, tZip, zpA, t2, t2N, tTst, tNotD, tOrD, tAndD, tAndVD, tOrVD, tNotVD, tIfE, tChnD, tVarD, tVarK, tCD, DL.tCall, tConsA, tConsK, tNilA, tFn, tMet, tMetD_eq, tMutD, tMutV, tFz, frzs, frz1, tLstD, tTupD, slot, startD, tPurIx, tPurSet, tBitsD, tParD, mkS, tMoveD, tAsgD, tPat, setShs, tSlD, tPartD, tNoD, tLenSetD, tRevD, tSetFld, tFldD, selfQ, allD, anyD, tSwapD, tSetIx, tUnD, tRetPur, purA, wipeD, lend, isStrB, isLst, DL.isObj, subD, mulD, modD, divD, powBD, gtD, leD, geD, joinD, sumD, optD, isinD, isiAs, optB, Bool.or_false, Bool.or_true, Bool.false_or, Bool.true_or, Bool.not_true, Bool.not_false, Option.some.injEq, isi_bool_non, isi_bool_bl, isi_bool_int, isi_bool_str, isi_bool_lst, isi_bool_tup, isi_bool_dct, isi_bool_obj, isi_int_non, isi_int_bl, isi_int_int, isi_int_str, isi_int_lst, isi_int_tup, isi_int_dct, isi_int_obj, isi_str_non, isi_str_bl, isi_str_int, isi_str_str, isi_str_lst, isi_str_tup, isi_str_dct, isi_str_obj, isi_list_non, isi_list_bl, isi_list_int, isi_list_str, isi_list_lst, isi_list_tup, isi_list_dct, isi_list_obj, isi_tuple_non, isi_tuple_bl, isi_tuple_int, isi_tuple_str, isi_tuple_lst, isi_tuple_tup, isi_tuple_dct, isi_tuple_obj, isi_dict_non, isi_dict_bl, isi_dict_int, isi_dict_str, isi_dict_lst, isi_dict_tup, isi_dict_dct, isi_dict_obj, isi_cl_non, isi_cl_bl, isi_cl_int, isi_cl_str, isi_cl_lst, isi_cl_tup, isi_cl_dct, isi_own, eqD, neD, ixE_lst, ixE_tup, ixE_str, inE_lst, inE_tup, inE_str, ninE_lst, ninE_tup, ninE_str, appendM, insertM, reverseM, clearM, keyA, keyK, List.set, List.length_cons, List.length_nil, List.replicate, List.cons_append, List.nil_append, List.append_nil, Bool.false_eq_true, if_false, if_true, true_and, and_true, true_or, or_true, listE_lst, listE_tup, listE_str, lenD_lst, lenD_tup, lenD_str, lenD_scr, addD_int, addD_str, addD_lst, addD_tup, catD_lst, intA_int, intC_int, cmpA_int, ltD_int, ltD_str, intD_int, intD_bl, slD_lst, slD_tup, slD_scr, slD_str, minD_two, maxD_two, ixD_zero, ixD_one, false_or, or_false, Int.reduceEq, false_implies, true_implies, implies_true])
theorem crossed_rows_ok {n k : Nat} {Q : D → Nat → Prop} (hk : 4 ≤ k ∧ k ≤ 6) (q : 0 < (crRows k).length → (crRows k).length < 10 → (∀ r ∈ crRows k, r.Perm (List.range k)) → Q (.lst ((crRows k).map lN)) n) : F_law_crossed_rows n [.int k] Q := by
  rw [F_law_crossed_rows_eq]; unfold runD W_law_crossed_rows
  simp only [startD, List.replicate, Bool.false_eq_true, if_false]
  have hk2 : k = 4 ∨ k = 5 ∨ k = 6 := by omega
  rcases hk2 with rfl | rfl | rfl
  · refine sq_any (fun _ _ => False) (fun K hK => ?_) (fun _ _ h => h.elim)
    law_fe
    refine eqA_int ?_
    rw [if_pos (by decide)]
    exact ⟨by decide, by decide, q (by decide) (by decide) (by decide)⟩
  · refine sq_any (fun n' ρ' => n = n' ∧ ρ' = [.sh (.int (5 : Nat))]) (fun K hK => ?_) ?_
    · law_fe
      refine eqA_int ?_
      rw [if_neg (by decide)]
      exact hK _ _ ⟨rfl, rfl⟩
    rintro _ _ ⟨rfl, rfl⟩
    refine sq_any (fun _ _ => False) (fun K hK => ?_) (fun _ _ h => h.elim)
    law_fe
    refine eqA_int ?_
    rw [if_pos (by decide)]
    exact ⟨by decide, by decide, by decide, by decide, q (by decide) (by decide) (by decide)⟩
  · refine sq_any (fun n' ρ' => n = n' ∧ ρ' = [.sh (.int (6 : Nat))]) (fun K hK => ?_) ?_
    · law_fe
      refine eqA_int ?_
      rw [if_neg (by decide)]
      exact hK _ _ ⟨rfl, rfl⟩
    rintro _ _ ⟨rfl, rfl⟩
    refine sq_any (fun n' ρ' => n = n' ∧ ρ' = [.sh (.int (6 : Nat))]) (fun K hK => ?_) ?_
    · law_fe
      refine eqA_int ?_
      rw [if_neg (by decide)]
      exact hK _ _ ⟨rfl, rfl⟩
    rintro _ _ ⟨rfl, rfl⟩
    law_fe
    exact ⟨by decide, by decide, by decide, by decide, q (by decide) (by decide) (by decide)⟩
theorem nodes_ok {n size : Nat} {Q : D → Nat → Prop} (h1 : 1 ≤ size) (h2 : size ≤ 20) (hn : n + 100000 < 2 ^ 40) (q : ∀ ns n', NInv ns size ns.length → n' ≤ n + 60000 → Q (ndsD ns) n') : F_law_nodes n [.purse, .int size] Q := by
  have hz := sizeLine_eq
  rw [F_law_nodes_eq]; unfold runD W_law_nodes
  simp only [startD, List.replicate, Bool.false_eq_true, if_false]
  refine sq_any (fun n' ρ' => n = n' ∧ ρ' = [.sh .purse, .sh (.int size), .ow (ndsD [⟨.any, 0, size, [], []⟩]), .sh (.int 0), .un, .un, .un, .un, .un, .un, .un, .un]) (fun K hK => by law_fe; exact ⟨by decide, by decide, by decide, by decide, hK _ _ ⟨rfl, rfl⟩⟩) ?_
  rintro _ _ ⟨rfl, rfl⟩
  have start : NInv [⟨.any, 0, size, [], []⟩] size 0 := by
    refine ⟨by simp, ⟨_, rfl, rfl, rfl⟩, fun i x hi => by omega, fun i x hi e => ?_, by unfold PL.wt; simp, fun j h0 h1 => by rw [List.length_singleton] at h1; omega⟩
    cases i with
    | zero => cases e; exact ⟨h1, by simp, rfl, fun h => (by cases h), fun h => (by cases h), fun h => (by cases h)⟩
    | succ i => simp at e
  refine sq_any (fun n' ρ' => n' ≤ n + 60000 ∧ ∃ ns s3 s4 s5 s6 s7 s8 s9 s10 s11, NInv ns size ns.length ∧ ρ' = [.sh .purse, .sh (.int size), .ow (ndsD ns), s3, s4, s5, s6, s7, s8, s9, s10, s11]) (fun K hK => ?_) ?_
  · refine wh_ind (fun m n' ρ' => ∃ (ns : List Nd) (k : Nat) (s4 s5 s6 s7 s8 s9 s10 s11 : Sl), m = 2 * size - k ∧ n' ≤ n + 1200 * k ∧ NInv ns size k ∧ ρ' = [.sh .purse, .sh (.int size), .ow (ndsD ns), .sh (.int k), s4, s5, s6, s7, s8, s9, s10, s11]) ?_ (m := 2 * size) ⟨_, 0, _, _, _, _, _, _, _, _, by omega, by omega, start, rfl⟩
    rintro m n1 _ K' ⟨ns, k, s4, s5, s6, s7, s8, s9, s10, s11, rfl, hn1, hI, rfl⟩ hK'
    have hk : k ≤ 2 * size - 1 := by have := hI.wt; omega
    have hlen : ns.length ≤ 2 * size - 1 := by
      have w1 := hI.wt
      have w2 := wt_len (ns.drop k) fun x hx => by
        obtain ⟨i, hi⟩ := List.getElem?_of_mem hx
        rw [List.getElem?_drop] at hi
        exact (hI.todo (k + i) x (by omega) hi).1
      rw [List.length_drop] at w2
      have := hI.le
      omega
    refine tt_val (decide (k < ns.length)) (fun K2 hK2 => by law_fe; rw [List.length_map]; simpa using hK2) ?_
    by_cases hlt : k < ns.length
    · rw [if_pos (by simpa using hlt)]
      have e : ns[k]? = some ns[k] := List.getElem?_eq_getElem hlt
      generalize ns[k] = x at e
      obtain ⟨o1, o2, o3, o4, o5, o6⟩ := hI.todo k x (Nat.le_refl _) e
      have ends : ∀ (n' : Nat) (ns' : List Nd) (a b c d f g h i : Sl), NInv ns' size (k + 1) → n' ≤ n1 + 1200 → K' n' [.sh .purse, .sh (.int size), .ow (ndsD ns'), .sh (.int ((k : Int) + 1)), a, b, c, d, f, g, h, i] := fun n' ns' a b c d f g h i h3 h4 =>
        hK' (2 * size - (k + 1)) _ _ (by omega) ⟨ns', k + 1, a, b, c, d, f, g, h, i, rfl, by omega, h3, rfl⟩
      refine sq_any (fun n' ρ' => n1 = n' ∧ ρ' = [.sh .purse, .sh (.int size), .ow (ndsD ns), .sh (.int k), .sh (.str x.kind.s), .sh (.int x.start), .sh (.int x.many), .sh (lN []), .sh (lN x.nums), s9, s10, s11]) (fun K2 hK2 => ?_) ?_
      · law_fe
        refine ix_nat (d := ndD x) (by omega) (by rw [Int.toNat_natCast, List.getElem?_map, e]; rfl) ?_
        unfold ndD
        law_fe
        rw [o3]
        exact hK2 _ _ ⟨rfl, rfl⟩
      rintro _ _ ⟨rfl, rfl⟩
      refine sq_any (fun n' ρ' => n' ≤ n1 + 1 ∧ ∃ cr : Bool, (cr = true → 4 ≤ x.many) ∧ (x.kind = .crossed → cr = true) ∧ ρ' = [.sh .purse, .sh (.int size), .ow (ndsD ns), .sh (.int k), .sh (.str x.kind.s), .sh (.int x.start), .sh (.int x.many), .sh (lN []), .sh (lN x.nums), .sh (.bl cr), s10, s11]) (fun K2 hK2 => ?_) ?_
      · law_fe
        refine eqA_str x.kind.ok (by decide +kernel) ?_
        rw [Kd.crossed_s]
        by_cases hc1 : x.kind = .crossed
        · rw [if_pos (by simpa using hc1)]
          exact hK2 _ _ ⟨by omega, true, fun _ => o4 hc1, fun _ => rfl, rfl⟩
        rw [if_neg (by simpa using hc1)]
        refine eqA_str x.kind.ok (by decide +kernel) ?_
        rw [Kd.any_s]
        by_cases hc2 : x.kind = .any
        · rw [if_pos (by simpa using hc2)]
          by_cases hc3 : 3 < x.many
          · rw [if_pos (decide_eq_true (by omega))]
            exact draw_ok (by decide) (by omega) fun v n3 h0 h3 hn3 => eqA_int (hK2 _ _ ⟨hn3, _, fun _ => hc3, fun z => absurd z hc1, rfl⟩)
          · rw [if_neg (by simp; omega)]
            exact hK2 _ _ ⟨by omega, false, fun z => (by cases z), fun z => absurd z hc1, rfl⟩
        · rw [if_neg (by simpa using hc2)]
          exact hK2 _ _ ⟨by omega, false, fun z => (by cases z), fun z => absurd z hc1, rfl⟩
      rintro n2 _ ⟨hn2, cr, hcr, hxc, rfl⟩
      refine sq_any (fun n' ρ' => n' ≤ n1 + 1200 ∧ ∃ (ns' : List Nd) (a b c d f g h i : Sl), NInv ns' size (k + 1) ∧ ρ' = [.sh .purse, .sh (.int size), .ow (ndsD ns'), .sh (.int k), a, b, c, d, f, g, h, i]) (fun K2 hK2 => ?_) ?_
      · refine if_any (fun b n' => n2 = n' ∧ b = decide (1 < x.many)) (fun K3 hK3 => ?_) (fun n' hh => ?_) (fun n' hh => ?_)
        · law_fe
          exact hK3 _ _ ⟨rfl, decide_eq_decide.mpr (by omega)⟩
        · obtain ⟨rfl, hm⟩ := hh
          have hm1 : 1 < x.many := by simpa using hm.symm
          refine sq_any (fun n' ρ' => n' ≤ n2 + 500 ∧ ∃ xs : List Nat, (cr = false → (∀ v ∈ xs, v = 1 ∨ 4 ≤ v) ∧ (∀ v ∈ xs, v < x.many) ∧ xs.sum = x.many) ∧ ρ' = [.sh .purse, .sh (.int size), .ow (ndsD ns), .sh (.int k), .sh (.str x.kind.s), .sh (.int x.start), .sh (.int x.many), .sh (lN []), .sh (lN x.nums), .sh (.bl cr), .sh (lN xs), s11]) (fun K4 hK4 => ?_) ?_
          · law_fe
            cases cr with
            | true =>
              rw [if_pos rfl]
              exact ⟨by decide, hK4 _ _ ⟨by omega, [], fun z => (by cases z), rfl⟩⟩
            | false =>
              rw [if_neg (by simp)]
              exact heap_sizes_ok hm1 (by omega) (by omega) fun xs n3 q1 q2 q3 hn3 => hK4 _ _ ⟨hn3, xs, fun _ => ⟨q1, q2, q3⟩, rfl⟩
          rintro n3 _ ⟨hn3, xs0, hxs0, rfl⟩
          refine sq_any (fun n' ρ' => n' ≤ n2 + 700 ∧ ∃ xs : List Nat, (∀ v ∈ xs, 1 ≤ v) ∧ xs.sum = x.many ∧ 2 ≤ xs.length ∧ (cr = true → 4 ≤ xs.length ∧ xs.length ≤ 6) ∧ (cr = false → ∀ v ∈ xs, v = 1 ∨ 4 ≤ v) ∧ ρ' = [.sh .purse, .sh (.int size), .ow (ndsD ns), .sh (.int k), .sh (.str x.kind.s), .sh (.int x.start), .sh (.int x.many), .sh (lN []), .sh (lN x.nums), .sh (.bl cr), .sh (lN xs), s11]) (fun K4 hK4 => ?_) ?_
          · law_fe
            cases cr with
            | true =>
              have h4 := hcr rfl
              rw [if_pos rfl]
              refine draw_ok (by split <;> omega) (by omega) fun v n4 hv hv' hn4 => ?_
              have hv2 : v < 3 ∧ v < (x.many : Int) - 3 := by split at hv' <;> omega
              rw [addD_int, show (4 : Int) + v = ((4 + v.toNat : Nat) : Int) by omega]
              exact sizes_ok (by omega) (by omega) (by omega) (by omega) fun xs n5 q1 q2 q3 hn5 => hK4 _ _ ⟨by omega, xs, q2, q3, by omega, fun _ => ⟨by omega, by omega⟩, fun z => (by cases z), rfl⟩
            | false =>
              rw [if_neg (by simp)]
              obtain ⟨q1, q2, q3⟩ := hxs0 rfl
              exact hK4 _ _ ⟨by omega, xs0, fun v hv => by rcases q1 v hv with z | z <;> omega, q3, sum_two q3 q2 (by omega), fun z => (by cases z), fun _ => q1, rfl⟩
          rintro n4 _ ⟨hn4, xs, hx1, hxs, hx2, hx3, hx4, rfl⟩
          have hxl := len_sum hx1
          refine sq_any (fun n' ρ' => n4 = n' ∧ ρ' = [.sh .purse, .sh (.int size), .ow (ndsD ns), .sh (.int k), .sh (.str x.kind.s), .sh (.int x.start), .sh (.int x.many), .sh (lN []), .sh (lN (List.range xs.length)), .sh (.bl cr), .sh (lN xs), s11]) (fun K4 hK4 => ?_) ?_
          · law_fe
            simp only [tLRg1]
            law_fe
            rw [List.length_map]
            refine ⟨by omega, by omega, by omega, ?_⟩
            rw [Int.toNat_natCast, range_lN]
            exact hK4 _ _ ⟨rfl, rfl⟩
          rintro _ _ ⟨rfl, rfl⟩
          refine sq_any (fun n' ρ' => n' ≤ n2 + 701 ∧ ∃ nums : List Nat, nums.Perm (List.range xs.length) ∧ (cr = true → nums ∈ crRows xs.length) ∧ (cr = false → nums = List.range xs.length) ∧ ρ' = [.sh .purse, .sh (.int size), .ow (ndsD ns), .sh (.int k), .sh (.str x.kind.s), .sh (.int x.start), .sh (.int x.many), .sh (lN []), .sh (lN nums), .sh (.bl cr), .sh (lN xs), s11]) (fun K4 hK4 => ?_) ?_
          · law_fe
            cases cr with
            | true =>
              rw [if_pos rfl, List.length_map]
              refine crossed_rows_ok (hx3 rfl) fun hr1 hr2 hr3 => ?_
              refine one_of_ok (by rw [List.length_map]; exact hr1) (by rw [List.length_map]; omega) (by omega) fun d n5 hd hn5 => ?_
              obtain ⟨r, hr, rfl⟩ := List.mem_map.mp hd
              exact hK4 _ _ ⟨by omega, r, hr3 r hr, fun _ => hr, fun z => (by cases z), rfl⟩
            | false =>
              rw [if_neg (by simp)]
              exact hK4 _ _ ⟨by omega, _, List.Perm.refl _, fun z => (by cases z), fun _ => rfl, rfl⟩
          rintro n5 _ ⟨hn5, nums, hnums, hnc, hnh, rfl⟩
          refine sq_any (fun n' ρ' => n5 = n' ∧ ∃ s5 s11, ρ' = [.sh .purse, .sh (.int size), .ow (ndsD (ns ++ kids cr x.start xs)), .sh (.int k), .sh (.str x.kind.s), s5, .sh (.int x.many), .sh (lN ((List.range xs.length).map (ns.length + ·))), .sh (lN nums), .sh (.bl cr), .sh (lN xs), s11]) (fun K4 hK4 => ?_) ?_
          · refine for_lst (fun ds n' => n5 = n' ∧ ds = xs.map fun v : Nat => D.int (v : Int)) (fun K5 hK5 => by law_fe; exact hK5 _ _ ⟨rfl, rfl⟩) ?_
            rintro _ _ ⟨rfl, rfl⟩
            refine forD_ind (fun j n' ρ' => n5 = n' ∧ ∃ s11, ρ' = [.sh .purse, .sh (.int size), .ow (ndsD (ns ++ kids cr x.start (xs.take j))), .sh (.int k), .sh (.str x.kind.s), .sh (.int ((x.start + (xs.take j).sum : Nat) : Int)), .sh (.int x.many), .sh (lN ((List.range j).map (ns.length + ·))), .sh (lN nums), .sh (.bl cr), .sh (lN xs), s11]) ?_ ?_ ⟨rfl, s11, by simp [kids]⟩
            · rintro j d _ _ K5 hd ⟨rfl, s11, rfl⟩ hK5
              rw [List.getElem?_map] at hd
              obtain ⟨v, hv, rfl⟩ := Option.map_eq_some_iff.mp hd
              obtain ⟨hj, _⟩ := List.getElem?_eq_some_iff.mp hv
              have htl : (xs.take j).length = j := by rw [List.length_take]; omega
              have hlk : (ns ++ kids cr x.start (xs.take j)).length = ns.length + j := by rw [List.length_append, kids_len, htl]
              law_fe
              have hml : (List.map ndD (ns ++ kids cr x.start (xs.take j))).length = ns.length + j := by rw [List.length_map, hlk]
              rw [hml]
              refine ⟨by decide, by simp only [List.length_map, List.length_range]; omega, ?_⟩
              have done : ∀ kd : Kd, kidK cr v = kd → K5 n5 [.sh .purse, .sh (.int size), .ow (.lst (List.map ndD (ns ++ kids cr x.start (xs.take j)) ++ [.lst [.str kd.s, .int ((x.start + (xs.take j).sum : Nat) : Int), .int (v : Int), .lst [], .lst []]])), .sh (.int k), .sh (.str x.kind.s), .sh (.int (((x.start + (xs.take j).sum : Nat) : Int) + (v : Int))), .sh (.int x.many), .sh (.lst (List.map (fun x : Nat => D.int (x : Int)) ((List.range j).map (ns.length + ·)) ++ [.int ((ns.length + j : Nat) : Int)])), .sh (lN nums), .sh (.bl cr), .sh (lN xs), .sh (.int (v : Int))] := fun kd hkd =>
                hK5 _ _ ⟨rfl, .sh (.int (v : Int)), by
                  have e1 : xs.take (j + 1) = xs.take j ++ [v] := by rw [List.take_add_one, hv]; rfl
                  rw [e1, kids_app, List.sum_append, List.range_succ]
                  simp [kids, ndD, hkd, lN]
                  omega⟩
              cases cr with
              | true =>
                rw [if_pos rfl]
                exact ⟨by decide, by decide, by decide, by omega, done .any rfl⟩
              | false =>
                rw [if_neg (by simp)]
                by_cases hv1 : 1 < v
                · rw [if_pos (decide_eq_true (by omega))]
                  exact ⟨by decide, by decide, by decide, by omega, done .crossed (by simp [kidK, hv1])⟩
                · rw [if_neg (by simp; omega)]
                  exact ⟨by decide, by decide, by decide, by omega, done .book (by simp [kidK, hv1])⟩
            · rintro _ _ ⟨rfl, s11, rfl⟩
              rw [List.length_map, List.take_length]
              exact hK4 _ _ ⟨rfl, _, s11, rfl⟩
          rintro _ _ ⟨rfl, s5, s11, rfl⟩
          have fin : ∀ kd : Kd, ((kd = .heap ∧ cr = false ∧ nums = List.range xs.length) ∨ (kd = .crossed ∧ cr = true ∧ nums ∈ crRows xs.length)) → K2 n5 [.sh .purse, .sh (.int size), .ow (.lst ((List.map ndD (ns ++ kids cr x.start xs)).set k (.lst [.str kd.s, .int (x.start : Nat), .int (x.many : Nat), lN ((List.range xs.length).map (ns.length + ·)), lN nums]))), .sh (.int k), .sh (.str x.kind.s), s5, .sh (.int x.many), .sh (lN ((List.range xs.length).map (ns.length + ·))), .sh (lN nums), .sh (.bl cr), .sh (lN xs), s11] := fun kd hkd =>
            hK2 _ _ ⟨by omega, _, _, _, _, _, _, _, _, _, hI.split (kd := kd) (cr := cr) (vs := xs) (nums := nums) e hm1 hx1 hxs hx2 (fun v hv hk => by
              cases cr with
              | true => simp [kidK] at hk
              | false =>
                rcases hx4 rfl v hv with z | z
                · subst z; simp [kidK] at hk
                · exact z) hnums hkd hxc, by rw [ndsD, List.map_set]; rfl⟩
          have e2 : (List.map ndD (ns ++ kids cr x.start xs))[((k : Nat) : Int).toNat]? = some (ndD x) := by
            rw [Int.toNat_natCast, List.getElem?_map, List.getElem?_append_left hlt, e]; rfl
          have hkl : k < (List.map ndD (ns ++ kids cr x.start xs)).length := by rw [List.length_map, List.length_append]; omega
          law_fe
          cases cr with
          | true =>
            rw [if_pos rfl]
            refine ix_nat (by omega) e2 ?_
            unfold ndD
            law_fe
            refine ⟨by decide, set_ix ⟨by omega, Int.ofNat_lt.mpr hkl⟩ ?_⟩
            rw [Int.toNat_natCast]
            exact fin .crossed (.inr ⟨rfl, rfl, hnc rfl⟩)
          | false =>
            rw [if_neg (by simp)]
            refine ix_nat (by omega) e2 ?_
            unfold ndD
            law_fe
            refine ⟨by decide, set_ix ⟨by omega, Int.ofNat_lt.mpr hkl⟩ ?_⟩
            rw [Int.toNat_natCast]
            exact fin .heap (.inl ⟨rfl, rfl, hnh rfl⟩)
        · obtain ⟨rfl, hm⟩ := hh
          have hm1 : x.many = 1 := by
            have : ¬ 1 < x.many := by simpa using hm.symm
            omega
          exact hK2 _ _ ⟨by omega, ns, _, _, _, _, _, _, _, _, hI.leaf e hm1, rfl⟩
      rintro n3 _ ⟨hn3, ns', a, b, c, d, f, g, h, i, hI', rfl⟩
      law_fe
      exact ends _ _ _ _ _ _ _ _ _ _ hI' (by omega)
    · rw [if_neg (by simpa using hlt)]
      have : k = ns.length := by have := hI.le; omega
      subst this
      exact hK _ _ ⟨by omega, ns, _, _, _, _, _, _, _, _, _, hI, rfl⟩
  rintro n1 _ ⟨hn1, ns, s3, s4, s5, s6, s7, s8, s9, s10, s11, hI, rfl⟩
  law_fe
  exact q ns n1 hI hn1
end K11
namespace K11
open PySem PySem.Spec L2 DL PL
local macro_rules | `(tactic| law_fe) => `(tactic| simp only [tSeqD, tIfD, tSetD, tSetO, tRetD, tRetO, tNextD, tDropD, tNeverD, tBreakD, tForD, tLcD, tDcD, tItL, tItT, tItS, tRng1, tRng2, rngA1, rngA2, tEnum, enA, tZip, zpA, t2, t2N, tTst, tNotD, tOrD, tAndD, tAndVD, tOrVD, tNotVD, tIfE, tChnD, tVarD, tVarK, tCD, DL.tCall, tConsA, tConsK, tNilA, tFn, tMet, tMetD_eq, tMutD, tMutV, tFz, frzs, frz1, tLstD, tTupD, slot, startD, tPurIx, tPurSet, tBitsD, tParD, mkS, tMoveD, tAsgD, tPat, setShs, tSlD, tPartD, tNoD, tLenSetD, tRevD, tSetFld, tFldD, selfQ, allD, anyD, tSwapD, tSetIx, tUnD, tRetPur, purA, wipeD, lend, isStrB, isLst, DL.isObj, subD, mulD, modD, divD, powBD, gtD, leD, geD, joinD, sumD, optD, isinD, isiAs, optB, Bool.or_false, Bool.or_true, Bool.false_or, Bool.true_or, Bool.not_true, Bool.not_false, Option.some.injEq, isi_bool_non, isi_bool_bl, isi_bool_int, isi_bool_str, isi_bool_lst, isi_bool_tup, isi_bool_dct, isi_bool_obj, isi_int_non, isi_int_bl, isi_int_int, isi_int_str, isi_int_lst, isi_int_tup, isi_int_dct, isi_int_obj, isi_str_non, isi_str_bl, isi_str_int, isi_str_str, isi_str_lst, isi_str_tup, isi_str_dct, isi_str_obj, isi_list_non, isi_list_bl, isi_list_int, isi_list_str, isi_list_lst, isi_list_tup, isi_list_dct, isi_list_obj, isi_tuple_non, isi_tuple_bl, isi_tuple_int, isi_tuple_str, isi_tuple_lst, isi_tuple_tup, isi_tuple_dct, isi_tuple_obj, isi_dict_non, isi_dict_bl, isi_dict_int, isi_dict_str, isi_dict_lst, isi_dict_tup, isi_dict_dct, isi_dict_obj, isi_cl_non, isi_cl_bl, isi_cl_int, isi_cl_str, isi_cl_lst, isi_cl_tup, isi_cl_dct, isi_own, eqD, neD, ixE_lst, ixE_tup, ixE_str, inE_lst, inE_tup, inE_str, ninE_lst, ninE_tup, ninE_str, appendM, insertM, reverseM, clearM, keyA, keyK, List.set, List.length_cons, List.length_nil, List.replicate, List.cons_append, List.nil_append, List.append_nil, Bool.false_eq_true, if_false, if_true, true_and, and_true, true_or, or_true, lend_cons, lend1_sh, lend1_ow, lend1_pk, lend1_un, listE_lst, listE_tup, listE_str, lenD_lst, lenD_tup, lenD_str, lenD_scr, addD_int, addD_str, addD_lst, addD_tup, catD_lst, intA_int, intC_int, cmpA_int, ltD_int, ltD_str, intD_int, intD_bl, slD_lst, slD_tup, slD_scr, slD_str, minD_two, maxD_two, ixD_zero, ixD_one, false_or, or_false, Int.reduceEq, false_implies, true_implies, implies_true])
theorem home_row_ok {n size : Nat} {ns : List Nd} {cat : List Str} {Q : D → Nat → Prop} (hI : NInv ns size ns.length) (h1 : 1 ≤ size) (h2 : size ≤ 20) (hc : cat.length = size) (q : (homeOf ns cat).Perm cat → Q (lS (homeOf ns cat)) n) : F_law_home_row n [ndsD ns, lS cat] Q := by
  have hz := sizeLine_eq
  rw [F_law_home_row_eq]; unfold runD W_law_home_row
  simp only [startD, List.replicate, Bool.false_eq_true, if_false]
  refine sq_any (fun n' ρ' => n = n' ∧ ρ' = [.sh (ndsD ns), .sh (lS cat), .sh (lN [0]), .sh (.int 0), .un, .un, .un, .un, .un, .un]) (fun K hK => by law_fe; exact ⟨by decide, hK _ _ ⟨rfl, rfl⟩⟩) ?_
  rintro _ _ ⟨rfl, rfl⟩
  have rowlen : ∀ {row : List Nat} {k : Nat}, HInv ns size row k → row.length ≤ 2 * size - 1 := fun {row k} h => by
    have : ∀ l : List Nat, (∀ i ∈ l, i < ns.length) → l.length ≤ (l.map (wt1 ns)).sum := fun l => by
      induction l with
      | nil => intro _; simp
      | cons i l ih =>
        intro hl
        have hil := hl i List.mem_cons_self
        have e : ns[i]? = some ns[i] := List.getElem?_eq_getElem hil
        have := ih fun j hj => hl j (List.mem_cons_of_mem _ hj)
        have w : 1 ≤ wt1 ns i := by
          unfold wt1
          rw [e]
          have := (hI.done i _ hil e).1
          dsimp only
          omega
        rw [List.map_cons, List.sum_cons, List.length_cons]
        omega
    have l1 := this (row.drop k) fun i hi => h.all i (List.mem_of_mem_drop hi)
    rw [List.length_drop] at l1
    have := h.wt
    have := h.le
    omega
  refine sq_any (fun n' ρ' => n = n' ∧ ∃ (row : List Nat) (s3 s4 s5 s6 s7 s8 : Sl), HInv ns size row row.length ∧ ρ' = [.sh (ndsD ns), .sh (lS cat), .sh (lN row), s3, s4, s5, s6, s7, s8, .un]) (fun K hK => ?_) ?_
  · refine wh_ind (fun m n' ρ' => n = n' ∧ ∃ (row : List Nat) (k : Nat) (s4 s5 s6 s7 s8 : Sl), m = 2 * (k + ((row.drop k).map (wt1 ns)).sum) - k ∧ HInv ns size row k ∧ ρ' = [.sh (ndsD ns), .sh (lS cat), .sh (lN row), .sh (.int k), s4, s5, s6, s7, s8, .un]) ?_ (m := _) ⟨rfl, [0], 0, _, _, _, _, _, rfl, HInv.start hI, rfl⟩
    rintro m _ _ K' ⟨rfl, row, k, s4, s5, s6, s7, s8, rfl, hH, rfl⟩ hK'
    have hrl := rowlen hH
    refine tt_val (decide (k < row.length)) (fun K2 hK2 => by law_fe; rw [List.length_map]; simpa using hK2) ?_
    by_cases hlt : k < row.length
    · rw [if_pos (by simpa using hlt)]
      have e : row[k]? = some row[k] := List.getElem?_eq_getElem hlt
      generalize row[k] = i at e
      have hi : i < ns.length := hH.all i (List.mem_of_getElem? e)
      have ex : ns[i]? = some ns[i] := List.getElem?_eq_getElem hi
      generalize ns[i] = x at ex
      obtain ⟨o1, o2, o3⟩ := hI.done i x hi ex
      refine sq_any (fun n' ρ' => n = n' ∧ ρ' = [.sh (ndsD ns), .sh (lS cat), .sh (lN row), .sh (.int k), .sh (.str x.kind.s), .sh (.int x.start), .sh (.int x.many), .sh (lN x.parts), .sh (lN x.nums), .un]) (fun K2 hK2 => ?_) ?_
      · law_fe
        refine ix_nat (d := .int (i : Nat)) (by omega) (by rw [Int.toNat_natCast, List.getElem?_map, e]; rfl) ?_
        refine ix_nat (d := ndD x) (by omega) (by rw [Int.toNat_natCast, List.getElem?_map, ex]; rfl) ?_
        unfold ndD
        law_fe
        exact hK2 _ _ ⟨rfl, rfl⟩
      rintro _ _ ⟨rfl, rfl⟩
      refine if_any (fun b n' => n = n' ∧ b = decide (x.parts = [])) (fun K3 hK3 => ?_) (fun n' hh => ?_) (fun n' hh => ?_)
      · law_fe
        refine ⟨by decide, ?_⟩
        rw [lN_lI]
        refine eqA_ints (ys := []) (hK3 _ _ ⟨rfl, decide_eq_decide.mpr (by simp)⟩)
      · obtain ⟨rfl, hp⟩ := hh
        have hp0 : x.parts = [] := by simpa using hp.symm
        have hm : x.many = 1 := by
          rcases o3 with z | z
          · exact z.1
          · rw [hp0] at z; have := z.2.1; simp at this
        have hs := hH.step e ex hm
        have wl : (row.drop k).map (wt1 ns) = 1 :: (row.drop (k + 1)).map (wt1 ns) := by
          obtain ⟨hl', he'⟩ := List.getElem?_eq_some_iff.mp e
          rw [List.drop_eq_getElem_cons hl', he', List.map_cons]
          congr 1
          unfold wt1
          rw [ex]
          dsimp only
          omega
        law_fe
        refine hK' (2 * (k + 1 + ((row.drop (k + 1)).map (wt1 ns)).sum) - (k + 1)) _ _ ?_ ⟨rfl, row, k + 1, _, _, _, _, _, rfl, hs, rfl⟩
        rw [wl, List.sum_cons]
        omega
      · obtain ⟨rfl, hp⟩ := hh
        have hp0 : x.parts ≠ [] := by simpa using hp.symm
        obtain ⟨p1, p2, p3, p4, p5, p6⟩ := (hI.of ex).parts hp0
        obtain ⟨hs, hm⟩ := hH.put hI e ex p2 (fun p hp => (p3 p hp).2) p4 p5
        have w1 := hH.wt
        have w2 := hs.wt
        have hnl : x.nums.length = x.parts.length := by rw [p5.length_eq, List.length_range]
        refine set_any (fun d n' => n = n' ∧ d = lN (row.take k ++ (x.nums.map fun j => x.parts.getD j 0) ++ row.drop (k + 1))) (fun K3 hK3 => ?_) ?_
        · law_fe
          rw [cut_to _ _ (by omega), show ((k : Int) + 1) = ((k + 1 : Nat) : Int) by omega, cut_from _ _ (by omega)]
          refine lcGo_map (f := fun j => D.int ((x.parts.getD j 0 : Nat) : Int)) (by rw [hnl]; have := (cov_flat p4).2.2; omega) (fun j hj K4 hK4 => ?_) ?_
          · have hjl : j < x.parts.length := List.mem_range.mp (p5.mem_iff.mp hj)
            law_fe
            exact ix_nats (by omega) (by omega) (by rw [Int.toNat_natCast]; exact hK4)
          · have hrl2 := rowlen hs
            rw [List.length_append, List.length_append, List.length_map, List.length_take, List.length_drop] at hrl2
            have ee : D.lst (List.map (fun x : Nat => D.int (x : Int)) (List.take k row) ++ x.nums.map (fun j => D.int ((x.parts.getD j 0 : Nat) : Int)) ++ List.map (fun x : Nat => D.int (x : Int)) (List.drop (k + 1) row)) = lN (row.take k ++ (x.nums.map fun j => x.parts.getD j 0) ++ row.drop (k + 1)) := by
              rw [lN, List.map_append, List.map_append, List.map_map]
              rfl
            refine ⟨by simp only [List.length_map, List.length_take]; omega, by simp only [List.length_append, List.length_map, List.length_take, List.length_drop]; omega, ?_⟩
            rw [ee]
            exact hK3 _ _ ⟨rfl, rfl⟩
        · rintro _ _ ⟨rfl, rfl⟩
          refine hK' (2 * (k + (((row.take k ++ (x.nums.map fun j => x.parts.getD j 0) ++ row.drop (k + 1)).drop k).map (wt1 ns)).sum) - k) _ _ (by omega) ⟨rfl, _, k, _, _, _, _, _, rfl, hs, rfl⟩
    · rw [if_neg (by simpa using hlt)]
      have : k = row.length := by have := hH.le; omega
      subst this
      exact hK _ _ ⟨rfl, row, _, _, _, _, _, _, hH, rfl⟩
  rintro _ _ ⟨rfl, row, s3, s4, s5, s6, s7, s8, hH, rfl⟩
  have hrl := rowlen hH
  refine ret_any (fun d n' => n = n' ∧ d = lS (row.map fun i => cat.getD ((ns[i]?.map (·.start)).getD 0) ⟨#[]⟩)) (fun K hK => ?_) ?_
  · law_fe
    refine lcGo_map (f := fun i => D.str (cat.getD ((ns[i]?.map (·.start)).getD 0) ⟨#[]⟩)) (by omega) (fun i hi K2 hK2 => ?_) ?_
    · have hil := hH.all i hi
      have ex : ns[i]? = some ns[i] := List.getElem?_eq_getElem hil
      obtain ⟨o1, o2, o3⟩ := hI.done i _ hil ex
      law_fe
      refine ix_nat (d := ndD ns[i]) (by omega) (by rw [Int.toNat_natCast, List.getElem?_map, ex]; rfl) ?_
      unfold ndD
      law_fe
      rw [ex] at hK2
      refine ix_str (x := cat.getD ns[i].start ⟨#[]⟩) (by omega) ?_ hK2
      have hsl : ns[i].start < cat.length := by omega
      rw [Int.toNat_natCast, List.getD_eq_getElem?_getD, List.getElem?_eq_getElem hsl]
      rfl
    · rw [show (row.map fun i => D.str (cat.getD ((ns[i]?.map (·.start)).getD 0) ⟨#[]⟩)) = (row.map fun i => cat.getD ((ns[i]?.map (·.start)).getD 0) ⟨#[]⟩).map D.str by rw [List.map_map]; rfl]
      exact hK _ _ ⟨rfl, rfl⟩
  · rintro _ _ ⟨rfl, rfl⟩
    have e0 : (row.map fun i => cat.getD ((ns[i]?.map (·.start)).getD 0) ⟨#[]⟩) = homeOf ns cat := by rw [hH.row hI]; rfl
    rw [e0]
    exact q (by rw [← e0]; exact hH.ends hc)
end K11
namespace K11
open PySem PySem.Spec L2 DL PL
local macro_rules | `(tactic| law_fe) => `(tactic| simp only [tSeqD, tIfD, tSetD, tSetO, tRetD, tRetO, tNextD, tDropD, tNeverD, tBreakD, tForD, tLcD, tDcD, tItL, tItT, tItS, tRng1, tRng2, rngA1, rngA2, tEnum, enA, tZip, zpA, t2, t2N, tTst, tNotD, tOrD, tAndD, tAndVD, tOrVD, tNotVD, tIfE, tChnD, tVarD, tVarK, tCD, DL.tCall, tConsA, tConsK, tNilA, tFn, tMet, tMetD_eq, tMutD, tMutV, tFz, frzs, frz1, tLstD, tTupD, slot, startD, tPurIx, tPurSet, tBitsD, tParD, mkS, tMoveD, tAsgD, tPat, setShs, tSlD, tPartD, tNoD, tLenSetD, tRevD, tSetFld, tFldD, selfQ, allD, anyD, tSwapD, tSetIx, tUnD, tRetPur, purA, wipeD, lend, isStrB, isLst, DL.isObj, subD, mulD, modD, divD, powBD, gtD, leD, geD, joinD, sumD, optD, isinD, isiAs, optB, Bool.or_false, Bool.or_true, Bool.false_or, Bool.true_or, Bool.not_true, Bool.not_false, Option.some.injEq, isi_bool_non, isi_bool_bl, isi_bool_int, isi_bool_str, isi_bool_lst, isi_bool_tup, isi_bool_dct, isi_bool_obj, isi_int_non, isi_int_bl, isi_int_int, isi_int_str, isi_int_lst, isi_int_tup, isi_int_dct, isi_int_obj, isi_str_non, isi_str_bl, isi_str_int, isi_str_str, isi_str_lst, isi_str_tup, isi_str_dct, isi_str_obj, isi_list_non, isi_list_bl, isi_list_int, isi_list_str, isi_list_lst, isi_list_tup, isi_list_dct, isi_list_obj, isi_tuple_non, isi_tuple_bl, isi_tuple_int, isi_tuple_str, isi_tuple_lst, isi_tuple_tup, isi_tuple_dct, isi_tuple_obj, isi_dict_non, isi_dict_bl, isi_dict_int, isi_dict_str, isi_dict_lst, isi_dict_tup, isi_dict_dct, isi_dict_obj, isi_cl_non, isi_cl_bl, isi_cl_int, isi_cl_str, isi_cl_lst, isi_cl_tup, isi_cl_dct, isi_own, eqD, neD, ixE_lst, ixE_tup, ixE_str, inE_lst, inE_tup, inE_str, ninE_lst, ninE_tup, ninE_str, appendM, insertM, reverseM, clearM, keyA, keyK, List.set, List.length_cons, List.length_nil, List.replicate, List.cons_append, List.nil_append, List.append_nil, Bool.false_eq_true, if_false, if_true, true_and, and_true, true_or, or_true, tupleD_lst, ixD_two, listE_lst, listE_tup, listE_str, lenD_lst, lenD_tup, lenD_str, lenD_scr, addD_int, addD_str, addD_lst, addD_tup, catD_lst, intA_int, intC_int, cmpA_int, ltD_int, ltD_str, intD_int, intD_bl, slD_lst, slD_tup, slD_scr, slD_str, minD_two, maxD_two, ixD_zero, ixD_one, false_or, or_false, Int.reduceEq, false_implies, true_implies, implies_true])
def okT (cat : List Str) (ts : List (List Str)) : Prop := ∀ t ∈ ts, t ≠ [] ∧ (∀ x ∈ t, x ∈ cat) ∧ t.length ≤ cat.length
theorem turnables_ok {n size : Nat} {ns : List Nd} {cat : List Str} {Q : D → Nat → Prop} (hI : NInv ns size ns.length) (h1 : 1 ≤ size) (h2 : size ≤ 20) (hc : cat.length = size) (q : (turnsOf ns cat).length ≤ 100000 → Q (.lst (((turnsOf ns cat).mergeSort leT).map tS)) n) : F_law_turnables n [ndsD ns, lS cat] Q := by
  have hz := sizeLine_eq
  have hnl : ns.length ≤ 40 := by have := hI.wt; omega
  rw [F_law_turnables_eq]; unfold runD W_law_turnables
  simp only [startD, List.replicate, Bool.false_eq_true, if_false]
  refine sq_any (fun n' ρ' => n = n' ∧ ρ' = [.sh (ndsD ns), .sh (lS cat), .ow (.lst []), .un, .un, .un, .un, .un, .un, .un, .un, .un, .un]) (fun K hK => by law_fe; exact ⟨by decide, hK _ _ ⟨rfl, rfl⟩⟩) ?_
  rintro _ _ ⟨rfl, rfl⟩
  refine sq_any (fun n' ρ' => n = n' ∧ ∃ (s3 s4 s5 s6 s7 s8 s9 s10 s11 s12 : Sl), (turnsOf ns cat).length ≤ 100000 ∧ ρ' = [.sh (ndsD ns), .sh (lS cat), .ow (.lst ((turnsOf ns cat).map tS)), s3, s4, s5, s6, s7, s8, s9, s10, s11, s12]) (fun K hK => ?_) ?_
  · refine for_lst (fun ds n' => n = n' ∧ ds = ns.map ndD) (fun K' hK' => by law_fe; exact hK' _ _ ⟨rfl, rfl⟩) ?_
    rintro _ _ ⟨rfl, rfl⟩
    refine forD_ind (fun i n' ρ' => n = n' ∧ ∃ (ts : List (List Str)) (s3 s4 s5 s6 s7 s8 s9 s10 s11 s12 : Sl), ts = (ns.take i).flatMap (turnsN ns cat) ∧ ts.length ≤ 2000 * i ∧ ρ' = [.sh (ndsD ns), .sh (lS cat), .ow (.lst (ts.map tS)), s3, s4, s5, s6, s7, s8, s9, s10, s11, s12]) ?_ ?_ ⟨rfl, [], _, _, _, _, _, _, _, _, _, _, by simp, by simp, rfl⟩
    · rintro i d _ _ K' hd ⟨rfl, ts, s3, s4, s5, s6, s7, s8, s9, s10, s11, s12, ht, htl, rfl⟩ hK'
      rw [List.getElem?_map] at hd
      obtain ⟨x, ex, rfl⟩ := Option.map_eq_some_iff.mp hd
      obtain ⟨hi, _⟩ := List.getElem?_eq_some_iff.mp ex
      obtain ⟨o1, o2, o3⟩ := hI.done i x hi ex
      have hpl : x.parts.length ≤ 40 := by
        rcases o3 with z | z
        · rw [z.2.1]; simp
        · have := (cov_flat z.2.2.2.1).2.2; omega
      unfold ndD
      simp only [tPat, List.length_cons, List.length_nil, true_and, setShs, List.set]
      refine sq_any (fun n' ρ' => n = n' ∧ ∃ ts1 : List (List Str), ts1 = ts ++ (if x.kind = .crossed then [pc cat x.start (x.start + x.many)] else []) ∧ ts1.length ≤ 2000 * i + 1 ∧ ρ' = [.sh (ndsD ns), .sh (lS cat), .ow (.lst (ts1.map tS)), .sh (.str x.kind.s), .sh (.int x.start), .sh (.int x.many), .sh (lN x.parts), .sh (lN x.nums), s8, s9, s10, s11, s12]) (fun K2 hK2 => ?_) ?_
      · law_fe
        refine eqA_str x.kind.ok (by decide +kernel) ?_
        rw [Kd.crossed_s]
        by_cases hk : x.kind = .crossed
        · rw [if_pos (by simpa using hk)]
          rw [show ((x.start : Int) + (x.many : Int)) = ((x.start + x.many : Nat) : Int) by omega, cut_mid _ _ (by omega) (by omega)]
          refine ⟨by rw [List.length_map]; omega, hK2 _ _ ⟨rfl, ts ++ [(cat.drop x.start).take (x.start + x.many - x.start)], by rw [if_pos hk]; rfl, by simp; omega, by simp [tS]⟩⟩
        · rw [if_neg (by simpa using hk)]
          exact hK2 _ _ ⟨rfl, ts, by rw [if_neg hk, List.append_nil], by omega, rfl⟩
      rintro _ _ ⟨rfl, ts1, ht1, htl1, rfl⟩
      refine for_rng (fun j n' => n = n' ∧ j = (if x.kind = .heap then (x.parts.length : Int) else 0)) (fun K2 hK2 => ?_) ?_
      · law_fe
        refine eqA_str x.kind.ok (by decide +kernel) ?_
        rw [Kd.heap_s]
        by_cases hk : x.kind = .heap
        · rw [if_pos (by simpa using hk), List.length_map]; exact hK2 _ _ ⟨rfl, by rw [if_pos hk]⟩
        · rw [if_neg (by simpa using hk)]; exact hK2 _ _ ⟨rfl, by rw [if_neg hk]⟩
      rintro j _ ⟨rfl, hj⟩
      refine ⟨by split at hj <;> omega, ?_⟩
      have hjn : j.toNat ≤ x.parts.length := by split at hj <;> omega
      have hjv : j.toNat = if x.kind = .heap then x.parts.length else 0 := by split at hj <;> (rename_i hk; first | rw [if_pos hk] | rw [if_neg hk]) <;> omega
      generalize j.toNat = J at hjn hjv
      refine forD_ind (fun f n' ρ' => n = n' ∧ ∃ (ts2 : List (List Str)) (s8 s9 s10 s11 s12 : Sl), ts2 = ts1 ++ ((List.range f).flatMap fun f => (List.range (x.parts.length - 1 - f)).map fun l => pc cat (stOf ns (x.parts.getD f 0)) (enOf ns (x.parts.getD (f + 1 + l) 0))) ∧ ts2.length ≤ 2000 * i + 1 + 40 * f ∧ ρ' = [.sh (ndsD ns), .sh (lS cat), .ow (.lst (ts2.map tS)), .sh (.str x.kind.s), .sh (.int x.start), .sh (.int x.many), .sh (lN x.parts), .sh (lN x.nums), s8, s9, s10, s11, s12]) ?_ ?_ ⟨rfl, ts1, _, _, _, _, _, by simp, by omega, rfl⟩
      · rintro f d _ _ K2 hd ⟨rfl, ts2, s8, s9, s10, s11, s12, ht2, htl2, rfl⟩ hK2
        have hf : f < J := by
          obtain ⟨z, _⟩ := List.getElem?_eq_some_iff.mp hd
          rwa [rangeD, List.length_map, List.length_range] at z
        have hdf : d = .int (f : Nat) := by
          unfold rangeD at hd
          rw [List.getElem?_map, List.getElem?_range hf] at hd
          have := hd.symm
          simp at this
          exact this
        subst hdf
        simp only [tPat, List.set]
        have hfp : f < x.parts.length := by omega
        refine for_rng2v ((f : Int) + 1) x.parts.length (fun K hK => by law_fe; exact hK) (fun K hK => by law_fe; rw [List.length_map]; exact hK) ⟨by omega, by omega⟩ ⟨by omega, by omega⟩ ?_
        refine forD_ind (fun l n' ρ' => n = n' ∧ ∃ (ts3 : List (List Str)) (s9 s10 s11 s12 : Sl), ts3 = ts2 ++ ((List.range l).map fun l => pc cat (stOf ns (x.parts.getD f 0)) (enOf ns (x.parts.getD (f + 1 + l) 0))) ∧ ts3.length ≤ 2000 * i + 1 + 40 * f + l ∧ ρ' = [.sh (ndsD ns), .sh (lS cat), .ow (.lst (ts3.map tS)), .sh (.str x.kind.s), .sh (.int x.start), .sh (.int x.many), .sh (lN x.parts), .sh (lN x.nums), .sh (.int f), s9, s10, s11, s12]) ?_ ?_ ⟨rfl, ts2, _, _, _, _, by simp, by omega, rfl⟩
        · rintro l d _ _ K3 hd ⟨rfl, ts3, s9, s10, s11, s12, ht3, htl3, rfl⟩ hK3
          have hl : f + 1 + l < x.parts.length := by
            obtain ⟨z, _⟩ := List.getElem?_eq_some_iff.mp hd
            rw [rangeD, List.length_map, List.length_range] at z
            omega
          have hdl : d = .int ((f + 1 + l : Nat) : Int) := by
            unfold rangeD at hd
            rw [List.getElem?_map, List.getElem?_range (by omega)] at hd
            have := hd.symm
            simp only [Option.map_some, Option.some.injEq] at this
            rw [this]
            congr 1
          subst hdl
          simp only [tPat, List.set]
          obtain ⟨p1, p2, p3, p4, p5, p6⟩ := (hI.of ex).parts fun z => by rw [z] at hl; simp at hl
          have ea : x.parts[f]? = some x.parts[f] := List.getElem?_eq_getElem hfp
          have eb : x.parts[f + 1 + l]? = some x.parts[f + 1 + l] := List.getElem?_eq_getElem hl
          generalize x.parts[f] = pa at ea
          generalize x.parts[f + 1 + l] = pb at eb
          obtain ⟨xa, a1, a2, a3, a4, a5⟩ := cov_get p4 f pa ea
          obtain ⟨xb, b1, b2, b3, b4, _⟩ := cov_get p4 (f + 1 + l) pb eb
          have hab := a5 (f + 1 + l) pb (by omega) eb xb b1
          have ga : (List.map (fun x : Nat => D.int (x : Int)) x.parts)[((f : Nat) : Int).toNat]? = some (.int (pa : Nat)) := by rw [Int.toNat_natCast, List.getElem?_map, ea]; rfl
          have gb : (List.map (fun x : Nat => D.int (x : Int)) x.parts)[((f + 1 + l : Nat) : Int).toNat]? = some (.int (pb : Nat)) := by rw [Int.toNat_natCast, List.getElem?_map, eb]; rfl
          have na : (List.map ndD ns)[((pa : Nat) : Int).toNat]? = some (ndD xa) := by rw [Int.toNat_natCast, List.getElem?_map, a1]; rfl
          have nb : (List.map ndD ns)[((pb : Nat) : Int).toNat]? = some (ndD xb) := by rw [Int.toNat_natCast, List.getElem?_map, b1]; rfl
          refine sq_any (fun n' ρ' => n = n' ∧ ρ' = [.sh (ndsD ns), .sh (lS cat), .ow (.lst (ts3.map tS)), .sh (.str x.kind.s), .sh (.int x.start), .sh (.int x.many), .sh (lN x.parts), .sh (lN x.nums), .sh (.int f), .sh (.int ((f + 1 + l : Nat) : Int)), .sh (.int xa.start), .sh (.lst [.str xb.kind.s, .int (xb.start : Nat), .int (xb.many : Nat), lN xb.parts, lN xb.nums]), s12]) (fun K4 hK4 => ?_) ?_
          · law_fe
            refine ix_nat (by omega) ga (ix_nat (by omega) na ?_)
            unfold ndD
            law_fe
            refine ix_nat (by omega) gb (ix_nat (by omega) nb ?_)
            exact hK4 _ _ ⟨rfl, rfl⟩
          rintro _ _ ⟨rfl, rfl⟩
          law_fe
          rw [show ((xb.start : Int) + (xb.many : Int)) = ((xb.start + xb.many : Nat) : Int) by omega, cut_mid _ _ (by omega) (by omega)]
          refine ⟨by rw [List.length_map]; omega, hK3 _ _ ⟨rfl, ts3 ++ [(cat.drop xa.start).take (xb.start + xb.many - xa.start)], _, _, _, _, ?_, by simp; omega, by simp [tS]; exact ⟨rfl, rfl, rfl, rfl⟩⟩⟩
          rw [ht3, List.range_succ, List.map_append, List.append_assoc]
          congr 2
          simp only [List.map_cons, List.map_nil, List.getD_eq_getElem?_getD, ea, eb, Option.getD_some]
          unfold pc stOf enOf
          rw [a1, b1]
          rfl
        · rintro _ _ ⟨rfl, ts3, s9, s10, s11, s12, ht3, htl3, rfl⟩
          rw [rangeD, List.length_map, List.length_range] at htl3
          refine hK2 _ _ ⟨rfl, ts3, _, _, _, _, _, ?_, by omega, rfl⟩
          rw [ht3, ht2, List.range_succ, List.flatMap_append, List.flatMap_singleton, List.append_assoc, rng_len, show ((x.parts.length : Int) - ((f : Int) + 1)).toNat = x.parts.length - 1 - f by omega]
      · rintro _ _ ⟨rfl, ts2, s8, s9, s10, s11, s12, ht2, htl2, rfl⟩
        rw [rangeD, List.length_map, List.length_range] at htl2
        refine hK' _ _ ⟨rfl, ts2, _, _, _, _, _, _, _, _, _, _, ?_, by omega, rfl⟩
        obtain ⟨hi', ex'⟩ := List.getElem?_eq_some_iff.mp ex
        rw [ht2, ht1, ht, rng_len, hjv, List.take_succ_eq_append_getElem hi', ex', List.flatMap_append, List.flatMap_singleton, List.append_assoc]
        congr 1
        unfold turnsN
        congr 1
        split
        · rfl
        · simp
    · rintro _ _ ⟨rfl, ts, s3, s4, s5, s6, s7, s8, s9, s10, s11, s12, ht, htl, rfl⟩
      rw [List.length_map] at htl
      rw [List.length_map, List.take_length] at ht
      subst ht
      exact hK _ _ ⟨rfl, _, _, _, _, _, _, _, _, _, _, by unfold turnsOf; omega, rfl⟩
  rintro _ _ ⟨rfl, s3, s4, s5, s6, s7, s8, s9, s10, s11, s12, htl, rfl⟩
  law_fe
  refine sortGD_tups (fun t h z => ?_) (by omega) (q htl)
  have := (turns_blk hI hc t h).1
  rw [z] at this
  simp at this
end K11
namespace K11
open PySem PySem.Spec L2 DL PL
local macro_rules | `(tactic| law_fe) => `(tactic| simp only [tSeqD, tIfD, tSetD, tSetO, tRetD, tRetO, tNextD, tDropD, tNeverD, tBreakD, tForD, tLcD, tDcD, tItL, tItT, tItS, tRng1, tRng2, rngA1, rngA2, tEnum, enA, tZip, zpA, t2, t2N, tTst, tNotD, tOrD, tAndD, tAndVD, tOrVD, tNotVD, tIfE, tChnD, tVarD, tVarK, tCD, DL.tCall, tConsA, tConsK, tNilA, tFn, tMet, tMetD_eq, tMutD, tMutV, tFz, frzs, frz1, tLstD, tTupD, slot, startD, tPurIx, tPurSet, tBitsD, tParD, mkS, tMoveD, tAsgD, tPat, setShs, tSlD, tPartD, tNoD, tLenSetD, tRevD, tSetFld, tFldD, selfQ, allD, anyD, tSwapD, tSetIx, tUnD, tRetPur, purA, wipeD, lend, isStrB, isLst, DL.isObj, subD, mulD, modD, divD, powBD, gtD, leD, geD, joinD, sumD, optD, isinD, isiAs, optB, Bool.or_false, Bool.or_true, Bool.false_or, Bool.true_or, Bool.not_true, Bool.not_false, Option.some.injEq, isi_bool_non, isi_bool_bl, isi_bool_int, isi_bool_str, isi_bool_lst, isi_bool_tup, isi_bool_dct, isi_bool_obj, isi_int_non, isi_int_bl, isi_int_int, isi_int_str, isi_int_lst, isi_int_tup, isi_int_dct, isi_int_obj, isi_str_non, isi_str_bl, isi_str_int, isi_str_str, isi_str_lst, isi_str_tup, isi_str_dct, isi_str_obj, isi_list_non, isi_list_bl, isi_list_int, isi_list_str, isi_list_lst, isi_list_tup, isi_list_dct, isi_list_obj, isi_tuple_non, isi_tuple_bl, isi_tuple_int, isi_tuple_str, isi_tuple_lst, isi_tuple_tup, isi_tuple_dct, isi_tuple_obj, isi_dict_non, isi_dict_bl, isi_dict_int, isi_dict_str, isi_dict_lst, isi_dict_tup, isi_dict_dct, isi_dict_obj, isi_cl_non, isi_cl_bl, isi_cl_int, isi_cl_str, isi_cl_lst, isi_cl_tup, isi_cl_dct, isi_own, eqD, neD, ixE_lst, ixE_tup, ixE_str, inE_lst, inE_tup, inE_str, ninE_lst, ninE_tup, ninE_str, appendM, insertM, reverseM, clearM, keyA, keyK, List.set, List.length_cons, List.length_nil, List.replicate, List.cons_append, List.nil_append, List.append_nil, Bool.false_eq_true, if_false, if_true, true_and, and_true, true_or, or_true, tupleD_lst, ixD_two, lend_cons, lend1_sh, lend1_ow, lend1_pk, lend1_un, negD, listE_lst, listE_tup, listE_str, lenD_lst, lenD_tup, lenD_str, lenD_scr, addD_int, addD_str, addD_lst, addD_tup, catD_lst, intA_int, intC_int, cmpA_int, ltD_int, ltD_str, intD_int, intD_bl, slD_lst, slD_tup, slD_scr, slD_str, minD_two, maxD_two, ixD_zero, ixD_one, false_or, or_false, Int.reduceEq, false_implies, true_implies, implies_true])
def ovl (a b : List Str) : Bool := decide (0 < (a.filter fun x => decide (x ∈ b)).length ∧ (a.filter fun x => decide (x ∈ b)).length < min a.length b.length)
theorem overlap_ok {n : Nat} {a b : List Str} {Q : D → Nat → Prop} (hl : a.length ≤ 1000) (q : Q (.bl (ovl a b)) n) : F_law_overlap n [tS a, tS b] Q := by
  have hz := sizeLine_eq
  rw [F_law_overlap_eq]; unfold runD W_law_overlap
  law_fe
  refine lcGo_filter (f := fun x => D.str x) (p := fun x => decide (x ∈ b)) (by omega) (fun x hx K K0 hp hp0 => ?_) ?_
  · law_fe
    refine inA_tS ?_
    by_cases h : x ∈ b
    · rw [if_pos (by simpa using h)]; exact hp (by simpa using h)
    · rw [if_neg (by simpa using h)]; exact hp0 (by simpa using h)
  · rw [List.length_map, List.length_map, List.length_map]
    have : ovl a b = if decide (0 < ((a.filter fun x => decide (x ∈ b)).length : Int)) = true then decide (((a.filter fun x => decide (x ∈ b)).length : Int) < if (b.length : Int) < (a.length : Int) then (b.length : Int) else (a.length : Int)) else false := by
      unfold ovl
      generalize (a.filter fun x => decide (x ∈ b)).length = k
      by_cases h1 : 0 < k
      · rw [if_pos (decide_eq_true (by omega))]
        refine decide_eq_decide.mpr ⟨fun h => by split <;> omega, fun h => ⟨h1, by split at h <;> omega⟩⟩
      · rw [if_neg (by simp; omega)]
        exact decide_eq_false (by omega)
    rw [this] at q
    split
    · rename_i h
      rw [if_pos h] at q
      exact q
    · rename_i h
      rw [if_neg h] at q
      exact q
theorem drawn_lot_ok {n : Nat} {cat : List Str} {ts : List (List Str)} {Q : D → Nat → Prop} (ht : okT cat ts) (hnd : ∀ t ∈ ts, t.Nodup) (hc : cat.length ≤ 1000) (hl : ts.length ≤ 100000) (hn : n + 300000 < 2 ^ 40) (q : ∀ lot n', okT cat lot → (∀ t ∈ lot, t ∈ ts) → (∀ s ∈ lot, ∀ t ∈ lot, NOv s t) → lot.length ≤ 12 → n' ≤ n + 100100 → Q (.lst (lot.map tS)) n') : F_law_drawn_lot n [.purse, .lst (ts.map tS), .int 12] Q := by
  have hz := sizeLine_eq
  rw [F_law_drawn_lot_eq]; unfold runD W_law_drawn_lot
  simp only [startD, List.replicate, Bool.false_eq_true, if_false]
  refine sq_any (fun n' ρ' => n = n' ∧ ρ' = [.sh .purse, .sh (.lst (ts.map tS)), .sh (.int 12), .ow (.lst []), .un, .un, .un]) (fun K hK => by law_fe; exact ⟨by decide, hK _ _ ⟨rfl, rfl⟩⟩) ?_
  rintro _ _ ⟨rfl, rfl⟩
  refine sq_any (fun n' ρ' => n' ≤ n + 100000 ∧ ∃ (lot : List (List Str)) (s4 s5 s6 : Sl), (∀ t ∈ lot, t ∈ ts) ∧ (∀ s ∈ lot, ∀ t ∈ lot, NOv s t) ∧ lot.length ≤ 12 ∧ ρ' = [.sh .purse, .sh (.lst (ts.map tS)), .sh (.int 12), .ow (.lst (lot.map tS)), s4, s5, s6]) (fun K hK => ?_) ?_
  · refine for_lst (fun ds n' => n' ≤ n + 100000 ∧ ∃ us : List (List Str), us.Perm ts ∧ ds = us.map tS) (fun K' hK' => ?_) ?_
    · law_fe
      exact shuf_ok tS (by omega) (by omega) fun us n' hp hn' => hK' _ _ ⟨by omega, us, hp, rfl⟩
    rintro _ n1 ⟨hn1, us, hp, rfl⟩
    refine forD_ind (fun i n' ρ' => n1 = n' ∧ ∃ (lot : List (List Str)) (s4 s5 s6 : Sl), (∀ t ∈ lot, t ∈ ts) ∧ (∀ s ∈ lot, ∀ t ∈ lot, NOv s t) ∧ lot.length ≤ 12 ∧ ρ' = [.sh .purse, .sh (.lst (ts.map tS)), .sh (.int 12), .ow (.lst (lot.map tS)), s4, s5, s6]) ?_ ?_ ⟨rfl, [], _, _, _, fun t h => (by cases h), fun t h => (by cases h), by simp, rfl⟩
    · rintro i d _ _ K' hd ⟨rfl, lot, s4, s5, s6, hlot, hno, hll, rfl⟩ hK'
      rw [List.getElem?_map] at hd
      obtain ⟨t, ht1, rfl⟩ := Option.map_eq_some_iff.mp hd
      have htm : t ∈ ts := hp.mem_iff.mp (List.mem_of_getElem? ht1)
      simp only [tPat, List.set]
      refine if_any (fun k n' => n1 = n' ∧ (k = true → lot.length < 12 ∧ ∀ u ∈ lot, ovl t u = false)) (fun K2 hK2 => ?_) (fun n' hh => ?_) (fun n' hh => ?_)
      · law_fe
        rw [List.length_map]
        split
        · rename_i h12
          have h12 := of_decide_eq_true h12
          refine lcGo_map (f := fun u => D.bl (ovl t u)) (by omega) (fun u hu K3 hK3 => ?_) ?_
          · law_fe
            exact overlap_ok (by have := (ht t htm).2.2; omega) hK3
          · rw [show (lot.map fun u => D.bl (ovl t u)) = (lot.map fun u => ovl t u).map D.bl by rw [List.map_map]; rfl]
            rw [blsD_bls]
            exact hK2 _ _ ⟨rfl, fun h => ⟨by omega, by simpa using h⟩⟩
        · exact hK2 _ _ ⟨rfl, fun z => (by cases z)⟩
      · obtain ⟨rfl, h12⟩ := hh
        obtain ⟨h12, hov⟩ := h12 rfl
        have hnv : ∀ u ∈ lot, NOv t u := fun u hu => (ovl_nov (hnd t htm) (hnd u (hlot u hu))).mp (by simpa [ovl] using hov u hu)
        law_fe
        exact ⟨by rw [List.length_map]; omega, hK' _ _ ⟨rfl, lot ++ [t], _, _, _, fun u hu => by
          rcases List.mem_append.mp hu with hu | hu
          · exact hlot u hu
          · rw [List.mem_singleton] at hu; subst hu; exact htm, fun a ha b hb => by
          rcases List.mem_append.mp ha with ha1 | ha1
          · rcases List.mem_append.mp hb with hb1 | hb1
            · exact hno a ha1 b hb1
            · rw [List.mem_singleton.mp hb1]; exact (hnv a ha1).symm
          · rw [List.mem_singleton.mp ha1]
            rcases List.mem_append.mp hb with hb1 | hb1
            · exact hnv b hb1
            · rw [List.mem_singleton.mp hb1]; exact .inr (.inl fun _ z => z), by simp; omega, by rw [List.map_append]; rfl⟩⟩
      · obtain ⟨rfl, _⟩ := hh
        exact hK' _ _ ⟨rfl, lot, _, _, _, hlot, hno, hll, rfl⟩
    · rintro _ _ ⟨rfl, lot, s4, s5, s6, hlot, hno, hll, rfl⟩
      exact hK _ _ ⟨hn1, lot, _, _, _, hlot, hno, hll, rfl⟩
  rintro n1 _ ⟨hn1, lot, s4, s5, s6, hlot, hno, hll, rfl⟩
  refine sq_any (fun n' ρ' => n' ≤ n1 + 2 ∧ ∃ k : Nat, k ≤ lot.length ∧ ρ' = [.sh .purse, .sh (.lst (ts.map tS)), .sh (.int 12), .ow (.lst (lot.map tS)), s4, .sh (.int k), s6]) (fun K hK => ?_) ?_
  · law_fe
    refine draw_ok (by decide) (by omega) fun v n2 h0 h1 hn2 => eqA_int ?_
    split
    · rw [List.length_map]; exact hK _ _ ⟨by omega, lot.length, Nat.le_refl _, rfl⟩
    · rw [List.length_map]
      refine draw_ok (by omega) (by omega) fun w n3 h3 h4 hn3 => ?_
      rw [show w = ((w.toNat : Nat) : Int) by omega]
      exact hK _ _ ⟨by omega, w.toNat, by omega, rfl⟩
  rintro n2 _ ⟨hn2, k, hk, rfl⟩
  law_fe
  refine shuf_ok tS (by omega) (by omega) fun us n3 hp hn3 => ?_
  law_fe
  rw [cut_to _ _ (by rw [hp.length_eq]; exact hk)]
  have hul : ∀ t ∈ us.take k, t ∈ lot := fun t h => hp.mem_iff.mp (List.mem_of_mem_take h)
  have hus : ∀ t ∈ us.take k, t ∈ ts := fun t h => hlot t (hul t h)
  refine sortGD_tups (fun t h => (ht t (hus t h)).1) (by rw [List.length_take, hp.length_eq]; omega) ?_
  exact q _ n3 (fun t h => ht t (hus t (List.mem_mergeSort.mp h))) (fun t h => hus t (List.mem_mergeSort.mp h)) (fun a ha b hb => hno a (hul a (List.mem_mergeSort.mp ha)) b (hul b (List.mem_mergeSort.mp hb))) (by rw [List.length_mergeSort, List.length_take, hp.length_eq]; omega) (by omega)
end K11
namespace K11
open PySem PySem.Spec L2 DL PL
local macro_rules | `(tactic| law_fe) => `(tactic| simp only [tSeqD, tIfD, tSetD, tSetO, tRetD, tRetO, tNextD, tDropD, tNeverD, tBreakD, tForD, tLcD, tDcD, tItL, tItT, tItS, tRng1, tRng2, rngA1, rngA2, tEnum, enA, tZip, zpA, t2, t2N, tTst, tNotD, tOrD, tAndD, tAndVD, tOrVD, tNotVD, tIfE, tChnD, tVarD, tVarK, tCD, DL.tCall, tConsA, tConsK, tNilA, tFn, tMet, tMetD_eq, tMutD, tMutV, tFz, frzs, frz1, tLstD, tTupD, slot, startD, tPurIx, tPurSet, tBitsD, tParD, mkS, tMoveD, tAsgD, tPat, setShs, tSlD, tPartD, tNoD, tLenSetD, tRevD, tSetFld, tFldD, selfQ, allD, anyD, tSwapD, tSetIx, tUnD, tRetPur, purA, wipeD, lend, isStrB, isLst, DL.isObj, subD, mulD, modD, divD, powBD, gtD, leD, geD, joinD, sumD, optD, isinD, isiAs, optB, Bool.or_false, Bool.or_true, Bool.false_or, Bool.true_or, Bool.not_true, Bool.not_false, Option.some.injEq, isi_bool_non, isi_bool_bl, isi_bool_int, isi_bool_str, isi_bool_lst, isi_bool_tup, isi_bool_dct, isi_bool_obj, isi_int_non, isi_int_bl, isi_int_int, isi_int_str, isi_int_lst, isi_int_tup, isi_int_dct, isi_int_obj, isi_str_non, isi_str_bl, isi_str_int, isi_str_str, isi_str_lst, isi_str_tup, isi_str_dct, isi_str_obj, isi_list_non, isi_list_bl, isi_list_int, isi_list_str, isi_list_lst, isi_list_tup, isi_list_dct, isi_list_obj, isi_tuple_non, isi_tuple_bl, isi_tuple_int, isi_tuple_str, isi_tuple_lst, isi_tuple_tup, isi_tuple_dct, isi_tuple_obj, isi_dict_non, isi_dict_bl, isi_dict_int, isi_dict_str, isi_dict_lst, isi_dict_tup, isi_dict_dct, isi_dict_obj, isi_cl_non, isi_cl_bl, isi_cl_int, isi_cl_str, isi_cl_lst, isi_cl_tup, isi_cl_dct, isi_own, eqD, neD, ixE_lst, ixE_tup, ixE_str, inE_lst, inE_tup, inE_str, ninE_lst, ninE_tup, ninE_str, appendM, insertM, reverseM, clearM, keyA, keyK, List.set, List.length_cons, List.length_nil, List.replicate, List.cons_append, List.nil_append, List.append_nil, Bool.false_eq_true, if_false, if_true, true_and, and_true, true_or, or_true, tupleD_lst, ixD_two, lend_cons, lend1_sh, lend1_ow, lend1_pk, lend1_un, negD, listE_lst, listE_tup, listE_str, lenD_lst, lenD_tup, lenD_str, lenD_scr, addD_int, addD_str, addD_lst, addD_tup, catD_lst, intA_int, intC_int, cmpA_int, ltD_int, ltD_str, intD_int, intD_bl, slD_lst, slD_tup, slD_scr, slD_str, minD_two, maxD_two, ixD_zero, ixD_one, false_or, or_false, Int.reduceEq, false_implies, true_implies, implies_true])
theorem rng_nats (n : Nat) : rangeD 0 n = (List.range n).map fun i : Nat => D.int (i : Int) := by
  unfold rangeD
  refine List.map_congr_left fun i _ => ?_
  simp
theorem filter_rng {n a k : Nat} {p : Nat → Bool} (h : a + k ≤ n) (hp : ∀ i, i < n → (p i = true ↔ a ≤ i ∧ i < a + k)) : (List.range n).filter p = List.range' a k := by
  have e : List.range n = List.range' 0 a ++ List.range' a k ++ List.range' (a + k) (n - (a + k)) := by
    rw [List.range_eq_range', show n = a + k + (n - (a + k)) by omega, ← List.range'_append, ← List.range'_append]
    simp
  rw [e, List.filter_append, List.filter_append, filter_none fun x hx => ?_, filter_all fun x hx => ?_, filter_none fun x hx => ?_, List.nil_append, List.append_nil]
  · have := List.mem_range'_1.mp hx
    cases z : p x with
    | false => rfl
    | true => have := (hp x (by omega)).mp z; omega
  · have := List.mem_range'_1.mp hx
    exact (hp x (by omega)).mpr (by omega)
  · have := List.mem_range'_1.mp hx
    cases z : p x with
    | false => rfl
    | true => have := (hp x (by omega)).mp z; omega
theorem turn_ok {n : Nat} {cat row t : List Str} {Q : D → Nat → Prop} (hl : row.length ≤ 1000) (nd : row.Nodup) (hb : Blk row t) (ht : t ≠ []) (q : Q (.lst [lS cat, lS (turn t row)]) n) : F_law_turn n [.lst [lS cat, lS row], tS t] Q := by
  have hz := sizeLine_eq
  obtain ⟨pr, m, po, er, hm⟩ := hb
  have hm0 : m.length ≠ 0 := fun z => by
    obtain ⟨x, hx⟩ := mem_of_ne ht
    rw [List.length_eq_zero_iff] at z
    have := (hm x).mpr hx
    rw [z] at this; cases this
  have hrl : row.length = pr.length + m.length + po.length := by rw [er]; simp only [List.length_append]
  obtain ⟨d1, d2, _⟩ := nd3 (er ▸ nd)
  rw [F_law_turn_eq]; unfold runD W_law_turn
  law_fe
  rw [List.length_map, Int.toNat_natCast, rng_nats]
  refine ⟨by omega, by omega, ?_⟩
  refine lcGo_filter (f := fun i : Nat => D.int (i : Int)) (p := fun i => decide (row.getD i ⟨#[]⟩ ∈ t)) (by rw [List.length_range]; omega) (fun k hk K K0 hp hp0 => ?_) ?_
  · have hk := List.mem_range.mp hk
    law_fe
    refine ix_str (x := row.getD k ⟨#[]⟩) (by omega) (by rw [Int.toNat_natCast, List.getElem?_eq_getElem hk, List.getD_eq_getElem?_getD, List.getElem?_eq_getElem hk]; rfl) ?_
    refine inA_tS ?_
    by_cases h : row.getD k ⟨#[]⟩ ∈ t
    · rw [if_pos (by simpa using h)]; exact hp (by simpa using h)
    · rw [if_neg (by simpa using h)]; exact hp0 (by simpa using h)
  · have ef : (List.range row.length).filter (fun i => decide (row.getD i ⟨#[]⟩ ∈ t)) = List.range' pr.length m.length := by
      refine filter_rng (by omega) fun i hi => ?_
      rw [decide_eq_true_iff, List.getD_eq_getElem?_getD, er]
      by_cases h1 : i < pr.length
      · rw [List.append_assoc, List.getElem?_append_left h1, List.getElem?_eq_getElem h1]
        exact ⟨fun z => absurd ((hm _).mpr z) (d1 _ (List.getElem_mem h1)), fun z => by omega⟩
      · by_cases h2 : i < pr.length + m.length
        · rw [List.append_assoc, List.getElem?_append_right (by omega), List.getElem?_append_left (by omega), List.getElem?_eq_getElem (by omega)]
          exact ⟨fun _ => ⟨by omega, h2⟩, fun _ => (hm _).mp (List.getElem_mem _)⟩
        · rw [List.getElem?_append_right (by rw [List.length_append]; omega), List.getElem?_eq_getElem (by rw [List.length_append]; omega)]
          exact ⟨fun z => absurd ((hm _).mpr z) (d2 _ (List.getElem_mem _)), fun z => by omega⟩
    rw [ef]
    refine ix_nat (i := 0) (d := .int (pr.length : Nat)) (by omega) (by rw [show (0 : Int).toNat = 0 from rfl, ← List.head?_eq_getElem?, List.head?_map, List.head?_range', if_neg hm0]; rfl) ?_
    refine ix_lastD (d := .int (pr.length + m.length - 1 : Nat)) (by rw [List.getLast?_map, List.getLast?_range', if_neg hm0]; rfl) ?_
    law_fe
    rw [show (((pr.length + m.length - 1 : Nat) : Int) + 1) = ((pr.length + m.length : Nat) : Int) by omega, cut_to _ _ (by omega), cut_mid _ _ (by omega) (by omega), cut_from _ _ (by omega)]
    rw [← List.map_reverse, ← List.map_append, ← List.map_append]
    have e1 : row.take pr.length ++ ((row.drop pr.length).take (pr.length + m.length - pr.length)).reverse ++ row.drop (pr.length + m.length) = turn t row := by
      rw [er, turn_blk (er ▸ nd) hm, Nat.add_sub_cancel_left]
      rw [show (pr ++ m ++ po).drop (pr.length + m.length) = po by rw [← List.length_append, List.drop_left]]
      rw [List.append_assoc pr m po, List.take_left, List.drop_left, List.take_left]
    have hpl := (turn_perm' nd ⟨pr, m, po, er, hm⟩).length_eq
    have hle := hpl
    rw [← e1, List.length_append, List.length_append] at hle
    refine ⟨by rw [List.length_map, List.length_map]; omega, by rw [List.length_map, List.length_map, List.length_append]; omega, by omega, ?_⟩
    rw [e1]
    exact q
theorem led_ok {n : Nat} {cat row : List Str} {ts : List (List Str)} {Q : D → Nat → Prop} (hl : row.length ≤ 1000) (nd : row.Nodup) (hL : Lot row ts) (ht : ∀ t ∈ ts, t ≠ []) (q : Q (.lst [lS cat, lS (led row ts)]) n) : F_law_led n [.lst [lS cat, lS row], .lst (ts.map tS)] Q := by
  have hz := sizeLine_eq
  rw [F_law_led_eq]; unfold runD W_law_led
  law_fe
  refine forD_ind (fun i n' ρ' => n = n' ∧ ∃ (s2 : Sl), ρ' = [.sh (.lst [lS cat, lS (led row (ts.take i))]), .sh (.lst (ts.map tS)), s2]) ?_ ?_ ⟨rfl, _, rfl⟩
  · rintro i d _ _ K hd ⟨rfl, s2, rfl⟩ hK
    rw [List.getElem?_map] at hd
    obtain ⟨t, ht1, rfl⟩ := Option.map_eq_some_iff.mp hd
    obtain ⟨hi, hti⟩ := List.getElem?_eq_some_iff.mp ht1
    have htm := List.mem_of_getElem? ht1
    obtain ⟨n1, p1, l1⟩ := hL.led (us := ts.take i) nd fun s hs => List.mem_of_mem_take hs
    law_fe
    refine turn_ok (by rw [p1.length_eq]; omega) n1 (l1.1 t htm) (ht t htm) ?_
    refine hK _ _ ⟨rfl, .sh (tS t), ?_⟩
    rw [List.take_succ_eq_append_getElem hi, hti, led_app]
    rfl
  · rintro _ _ ⟨rfl, s2, rfl⟩
    rw [List.length_map, List.take_length]
    exact q
end K11
namespace K11
open PySem PySem.Spec L2 DL PL
local macro_rules | `(tactic| law_fe) => `(tactic| simp only [tSeqD, tIfD, tSetD, tSetO, tRetD, tRetO, tNextD, tDropD, tNeverD, tBreakD, tForD, tLcD, tDcD, tItL, tItT, tItS, tRng1, tRng2, rngA1, rngA2, tEnum, enA, tZip, zpA, t2, t2N, tTst, tNotD, tOrD, tAndD, tAndVD, tOrVD, tNotVD, tIfE, tChnD, tVarD, tVarK, tCD, DL.tCall, tConsA, tConsK, tNilA, tFn, tMet, tMetD_eq, tMutD, tMutV, tFz, frzs, frz1, tLstD, tTupD, slot, startD, tPurIx, tPurSet, tBitsD, tParD, mkS, tMoveD, tAsgD, tPat, setShs, tSlD, tPartD, tNoD, tLenSetD, tRevD, tSetFld, tFldD, selfQ, allD, anyD, tSwapD, tSetIx, tUnD, tRetPur, purA, wipeD, lend, isStrB, isLst, DL.isObj, subD, mulD, modD, divD, powBD, gtD, leD, geD, joinD, sumD, optD, isinD, isiAs, optB, Bool.or_false, Bool.or_true, Bool.false_or, Bool.true_or, Bool.not_true, Bool.not_false, Option.some.injEq, isi_bool_non, isi_bool_bl, isi_bool_int, isi_bool_str, isi_bool_lst, isi_bool_tup, isi_bool_dct, isi_bool_obj, isi_int_non, isi_int_bl, isi_int_int, isi_int_str, isi_int_lst, isi_int_tup, isi_int_dct, isi_int_obj, isi_str_non, isi_str_bl, isi_str_int, isi_str_str, isi_str_lst, isi_str_tup, isi_str_dct, isi_str_obj, isi_list_non, isi_list_bl, isi_list_int, isi_list_str, isi_list_lst, isi_list_tup, isi_list_dct, isi_list_obj, isi_tuple_non, isi_tuple_bl, isi_tuple_int, isi_tuple_str, isi_tuple_lst, isi_tuple_tup, isi_tuple_dct, isi_tuple_obj, isi_dict_non, isi_dict_bl, isi_dict_int, isi_dict_str, isi_dict_lst, isi_dict_tup, isi_dict_dct, isi_dict_obj, isi_cl_non, isi_cl_bl, isi_cl_int, isi_cl_str, isi_cl_lst, isi_cl_tup, isi_cl_dct, isi_own, eqD, neD, ixE_lst, ixE_tup, ixE_str, inE_lst, inE_tup, inE_str, ninE_lst, ninE_tup, ninE_str, appendM, insertM, reverseM, clearM, keyA, keyK, List.set, List.length_cons, List.length_nil, List.replicate, List.cons_append, List.nil_append, List.append_nil, Bool.false_eq_true, if_false, if_true, true_and, and_true, true_or, or_true, tupleD_lst, ixD_two, lend_cons, lend1_sh, lend1_ow, lend1_pk, lend1_un, negD, listE_lst, listE_tup, listE_str, lenD_lst, lenD_tup, lenD_str, lenD_scr, addD_int, addD_str, addD_lst, addD_tup, catD_lst, intA_int, intC_int, cmpA_int, ltD_int, ltD_str, intD_int, intD_bl, slD_lst, slD_tup, slD_scr, slD_str, minD_two, maxD_two, ixD_zero, ixD_one, false_or, or_false, Int.reduceEq, false_implies, true_implies, implies_true])
def rowD (cat row : List Str) : D := .lst [lS cat, lS row]
/-- a core's class: its nodes, its home, its turnable runs -/
structure Core (ns : List Nd) (cat : List Str) (m : Nat) : Prop where
  hI : NInv ns m ns.length
  g : Good cat
  len : cat.length = m
  le : 1 ≤ m ∧ m ≤ 12
  pm : (homeOf ns cat).Perm cat
abbrev tsOf (ns : List Nd) (cat : List Str) : List (List Str) := (turnsOf ns cat).mergeSort leT
theorem Core.ts {ns : List Nd} {cat : List Str} {m : Nat} (h : Core ns cat m) {t : List Str} (ht : t ∈ tsOf ns cat) : 2 ≤ t.length ∧ Seg cat t ∧ Blk (homeOf ns cat) t ∧ t.Nodup ∧ (∀ x ∈ t, x ∈ cat) ∧ t.length ≤ cat.length := by
  obtain ⟨h2, h3, h4⟩ := turns_blk h.hI h.len t (List.mem_mergeSort.mp ht)
  have h3' := h3
  obtain ⟨p, q, e⟩ := h3
  refine ⟨h2, h3', h4, (nd3 (e ▸ h.g.nd)).2.2.2, fun x hx => by rw [e]; simp [hx], by rw [e]; simp only [List.length_append]; omega⟩
theorem Core.okT {ns : List Nd} {cat : List Str} {m : Nat} (h : Core ns cat m) : okT cat (tsOf ns cat) := fun t ht => by
  obtain ⟨h2, _, _, _, h5, h6⟩ := h.ts ht
  exact ⟨fun z => by rw [z] at h2; simp at h2, h5, h6⟩
/-- a drawn lot of a core -/
structure CLot (ns : List Nd) (cat : List Str) (lot : List (List Str)) : Prop where
  ts : ∀ t ∈ lot, t ∈ tsOf ns cat
  nov : ∀ s ∈ lot, ∀ t ∈ lot, NOv s t
  le : lot.length ≤ 12
theorem CLot.lot {ns : List Nd} {cat : List Str} {m : Nat} {lot : List (List Str)} (h : Core ns cat m) (l : CLot ns cat lot) : Lot (homeOf ns cat) lot := ⟨fun t ht => (h.ts (l.ts t ht)).2.2.1, l.nov⟩
theorem CLot.ne {ns : List Nd} {cat : List Str} {m : Nat} {lot : List (List Str)} (h : Core ns cat m) (l : CLot ns cat lot) : ∀ t ∈ lot, t ≠ [] := fun t ht => (h.okT t (l.ts t ht)).1
theorem class_ok {n m k : Nat} {Q : D → Nat → Prop} (h1 : 1 ≤ m) (h2 : m ≤ 12) (hk : k ≤ 6) (hn : n + 2000000 < 2 ^ 40) (q : ∀ (ns : List Nd) (cat : List Str) (lots : List (List (List Str))) n', Core ns cat m → (turnsOf ns cat).length ≤ 100000 → lots.length = k → (∀ lot ∈ lots, CLot ns cat lot) → n' ≤ n + 1000000 → Q (.lst [rowD cat (homeOf ns cat), .lst ((tsOf ns cat).map tS), .lst (lots.map fun lot => .lst (lot.map tS)), .lst ((lots.map fun lot => led (homeOf ns cat) lot).map (rowD cat))]) n') : F_law_class n [.purse, .int m, .int k] Q := by
  have hz := sizeLine_eq
  rw [F_law_class_eq]; unfold runD W_law_class
  simp only [startD, List.replicate, Bool.false_eq_true, if_false]
  refine sq_any (fun n' ρ' => n' ≤ n + 220 ∧ ∃ cat : List Str, Good cat ∧ cat.length = m ∧ ρ' = [.sh .purse, .sh (.int m), .sh (.int k), .sh (lS cat), .un, .un, .un, .un, .un, .un]) (fun K hK => ?_) ?_
  · law_fe
    refine catalogue_ok (by omega) (by omega) fun xs n' hsp hnd hl hn' => hK _ _ ⟨hn', xs, ⟨fun e => ?_, hsp, hnd, by omega⟩, by omega, rfl⟩
    subst e
    simp at hl
    omega
  rintro n1 _ ⟨hn1, cat, hg, hcm, rfl⟩
  refine sq_any (fun n' ρ' => n' ≤ n + 70000 ∧ ∃ ns : List Nd, NInv ns m ns.length ∧ ρ' = [.sh .purse, .sh (.int m), .sh (.int k), .sh (lS cat), .sh (ndsD ns), .un, .un, .un, .un, .un]) (fun K hK => ?_) ?_
  · law_fe
    exact nodes_ok h1 (by omega) (by omega) fun ns n' hI hn' => hK _ _ ⟨by omega, ns, hI, rfl⟩
  rintro n2 _ ⟨hn2, ns, hI, rfl⟩
  refine sq_any (fun n' ρ' => n' = n2 ∧ Core ns cat m ∧ (turnsOf ns cat).length ≤ 100000 ∧ ρ' = [.sh .purse, .sh (.int m), .sh (.int k), .sh (lS cat), .sh (ndsD ns), .sh (rowD cat (homeOf ns cat)), .sh (.lst ((tsOf ns cat).map tS)), .un, .un, .un]) (fun K hK => ?_) ?_
  · law_fe
    refine home_row_ok hI h1 (by omega) hcm fun hp => ?_
    refine ⟨by omega, turnables_ok hI h1 (by omega) hcm fun htl => ?_⟩
    exact hK _ _ ⟨rfl, ⟨hI, hg, hcm, ⟨h1, h2⟩, hp⟩, htl, rfl⟩
  rintro _ _ ⟨rfl, hC, htl, rfl⟩
  have hhp := hC.pm
  have hhl := hhp.length_eq
  have hhn := hhp.nodup_iff.mpr hg.nd
  refine sq_any (fun n' ρ' => n' ≤ n + 900000 ∧ ∃ lots : List (List (List Str)), lots.length = k ∧ (∀ lot ∈ lots, CLot ns cat lot) ∧ ρ' = [.sh .purse, .sh (.int m), .sh (.int k), .sh (lS cat), .sh (ndsD ns), .sh (rowD cat (homeOf ns cat)), .sh (.lst ((tsOf ns cat).map tS)), .sh (.lst (lots.map fun lot => .lst (lot.map tS))), .un, .un]) (fun K hK => ?_) ?_
  · law_fe
    refine ⟨by omega, by omega, ?_⟩
    rw [Int.toNat_natCast, rng_nats]
    refine lcGo_draw (c' := fun lot : List (List Str) => .lst (lot.map tS)) (G := fun _ lot => CLot ns cat lot) 100100 (n + 1000000) (by rw [List.length_range]; omega) (fun x hx n3 K3 hl hK3 => ?_) (by rw [List.length_range]; have : 100100 * k ≤ 100100 * 6 := Nat.mul_le_mul_left _ hk; omega) ?_
    · law_fe
      exact drawn_lot_ok hC.okT (fun t ht => (hC.ts ht).2.2.2.1) (by omega) (by rw [List.length_mergeSort]; exact htl) (by omega) fun lot n4 a b c d e => hK3 lot n4 ⟨b, c, d⟩ (by omega)
    · intro lots n4 hlen hG hn4
      rw [List.length_range] at hlen hn4
      have : 100100 * k ≤ 100100 * 6 := Nat.mul_le_mul_left _ hk
      refine hK _ _ ⟨by omega, lots, hlen, fun lot hlot => ?_, rfl⟩
      obtain ⟨i, hi, e⟩ := List.mem_iff_getElem.mp hlot
      exact hG i i lot (List.getElem?_range (by omega)) (by rw [List.getElem?_eq_getElem hi, e])
  rintro n3 _ ⟨hn3, lots, hlk, hlots, rfl⟩
  law_fe
  refine lcGo_draw (c := fun lot : List (List Str) => .lst (lot.map tS)) (c' := rowD cat) (G := fun lot r => r = led (homeOf ns cat) lot) 12 (n + 1000000) (by omega) (fun lot hlot n4 K4 hl hK4 => ?_) (by omega) ?_
  · have hcl := hlots lot hlot
    have hl3 := hcl.le
    law_fe
    refine shuf_ok tS (by omega) (by omega) fun us n5 hp hn5 => ?_
    unfold rowD
    have hLu := (hcl.lot hC).sub (us := us) fun t ht => hp.mem_iff.mp ht
    refine led_ok (by omega) hhn hLu (fun t ht => hcl.ne hC t (hp.mem_iff.mp ht)) ?_
    exact hK4 (led (homeOf ns cat) us) _ (led_perm hp hhn hLu) (by omega)
  · intro rows n4 hlen hG hn4
    have er : rows = lots.map fun lot => led (homeOf ns cat) lot := by
      apply List.ext_getElem (by rw [List.length_map]; exact hlen)
      intro i k1 k2
      rw [List.getElem_map]
      exact hG i lots[i] rows[i] (List.getElem?_eq_getElem (by omega)) (List.getElem?_eq_getElem k1)
    refine ⟨by omega, ?_⟩
    have := q ns cat lots n4 hC htl hlk hlots (by omega)
    rw [← er] at this
    exact this
theorem world_ok {n m : Nat} {Q : D → Nat → Prop} (h1 : 1 ≤ m) (h2 : m ≤ 12) (hn : n + 2000010 < 2 ^ 40) (q : ∀ (cat row : List Str) n', Good cat → cat.length = m → row.Perm cat → n' ≤ n + 1000001 → Q (rowD cat row) n') : F_law_world n [.purse, .int m] Q := by
  have hz := sizeLine_eq
  rw [F_law_world_eq]; unfold runD W_law_world
  law_fe
  refine draw_ok (by decide) (by omega) fun v n1 _ _ hn1 => eqA_int ?_
  split
  · refine free_ok (by omega) (by omega) fun xs ys n' hsp hnd hl hp hn' => q xs ys n' ⟨fun e => ?_, hsp, hnd, by omega⟩ (by omega) hp (by omega)
    subst e
    simp at hl
    omega
  · refine class_ok (k := 1) h1 h2 (by omega) (by omega) fun ns cat lots n' hC _ hl hlots hn' => ?_
    obtain ⟨r, rfl⟩ : ∃ r, lots = [r] := List.length_eq_one_iff.mp hl
    have hL := (hlots r (by simp)).lot hC
    have hp := (hL.led (us := r) (hC.pm.nodup_iff.mpr hC.g.nd) fun t ht => ht).2.1.trans hC.pm
    law_fe
    refine ix_nat (i := 3) (by omega) rfl ?_
    rw [show List.map (rowD cat) (List.map (fun lot => led (homeOf ns cat) lot) [r]) = [rowD cat (led (homeOf ns cat) r)] from rfl, ixE_lst]
    exact ix_nat (i := 0) (by omega) rfl (q cat _ n' hC.g hC.len hp (by omega))
theorem shelf_ok {n : Nat} {cat row : List Str} {Q : D → Nat → Prop} (hg : Good cat) (hp : row.Perm cat) (q : Q (shD cat row) n) : F_law_shelf n [rowD cat row] Q := by
  rw [F_law_shelf_eq]; unfold runD W_law_shelf rowD
  law_fe
  exact init_ok hg hp q
theorem many_ok {n : Nat} {Q : D → Nat → Prop} (hn : n + 2 < 2 ^ 40) (q : ∀ (m : Nat) n', 1 ≤ m → m ≤ 12 → n' ≤ n + 2 → Q (.int m) n') : F_law_many n [.purse] Q := by
  rw [F_law_many_eq]; unfold runD W_law_many
  law_fe
  refine draw_ok (by decide) (by omega) fun v n1 _ _ hn1 => eqA_int ?_
  split
  · refine ⟨by decide, draw_ok (by decide) (by omega) fun w n2 h0 h1 hn2 => ?_⟩
    obtain ⟨w, rfl⟩ : ∃ k : Nat, w = k := ⟨w.toNat, by omega⟩
    have : w = 0 ∨ w = 1 ∨ w = 2 ∨ w = 3 := by omega
    rcases this with rfl | rfl | rfl | rfl
    · exact ix_nat (by omega) rfl (q 1 n2 (by omega) (by omega) (by omega))
    · exact ix_nat (by omega) rfl (q 2 n2 (by omega) (by omega) (by omega))
    · exact ix_nat (by omega) rfl (q 3 n2 (by omega) (by omega) (by omega))
    · exact ix_nat (by omega) rfl (q 12 n2 (by omega) (by omega) (by omega))
  · refine draw_ok (by decide) (by omega) fun w n2 h0 h1 hn2 => ?_
    show Q (.int (3 + w)) n2
    rw [show 3 + w = ((3 + w.toNat : Nat) : Int) by omega]
    exact q _ n2 (by omega) (by omega) (by omega)
end K11
namespace K11
open PySem PySem.Spec L2 DL PL
theorem Good.sh {cat row : List Str} (h : Good cat) (p : row.Perm cat) : Sh cat row := ⟨h.nd, p⟩
local macro_rules | `(tactic| law_fe) => `(tactic| simp only [tSeqD, tIfD, tSetD, tSetO, tRetD, tRetO, tNextD, tDropD, tNeverD, tBreakD, tForD, tLcD, tDcD, tItL, tItT, tItS, tRng1, tRng2, rngA1, rngA2, tEnum, enA, tZip, zpA, t2, t2N, tTst, tNotD, tOrD, tAndD, tAndVD, tOrVD, tNotVD, tIfE, tChnD, tVarD, tVarK, tCD, DL.tCall, tConsA, tConsK, tNilA, tFn, tMet, tMetD_eq, tMutD, tMutV, tFz, frzs, frz1, tLstD, tTupD, slot, startD, tPurIx, tPurSet, tBitsD, tParD, mkS, tMoveD, tAsgD, tPat, setShs, tSlD, tPartD, tNoD, tLenSetD, tRevD, tSetFld, tFldD, selfQ, allD, anyD, tSwapD, tSetIx, tUnD, tRetPur, purA, wipeD, lend, isStrB, isLst, DL.isObj, subD, mulD, modD, divD, powBD, gtD, leD, geD, joinD, sumD, optD, isinD, isiAs, optB, Bool.or_false, Bool.or_true, Bool.false_or, Bool.true_or, Bool.not_true, Bool.not_false, Option.some.injEq, isi_bool_non, isi_bool_bl, isi_bool_int, isi_bool_str, isi_bool_lst, isi_bool_tup, isi_bool_dct, isi_bool_obj, isi_int_non, isi_int_bl, isi_int_int, isi_int_str, isi_int_lst, isi_int_tup, isi_int_dct, isi_int_obj, isi_str_non, isi_str_bl, isi_str_int, isi_str_str, isi_str_lst, isi_str_tup, isi_str_dct, isi_str_obj, isi_list_non, isi_list_bl, isi_list_int, isi_list_str, isi_list_lst, isi_list_tup, isi_list_dct, isi_list_obj, isi_tuple_non, isi_tuple_bl, isi_tuple_int, isi_tuple_str, isi_tuple_lst, isi_tuple_tup, isi_tuple_dct, isi_tuple_obj, isi_dict_non, isi_dict_bl, isi_dict_int, isi_dict_str, isi_dict_lst, isi_dict_tup, isi_dict_dct, isi_dict_obj, isi_cl_non, isi_cl_bl, isi_cl_int, isi_cl_str, isi_cl_lst, isi_cl_tup, isi_cl_dct, isi_own, eqD, neD, ixE_lst, ixE_tup, ixE_str, inE_lst, inE_tup, inE_str, ninE_lst, ninE_tup, ninE_str, appendM, insertM, reverseM, clearM, keyA, keyK, List.set, List.length_cons, List.length_nil, List.replicate, List.cons_append, List.nil_append, List.append_nil, Bool.false_eq_true, if_false, if_true, true_and, and_true, true_or, or_true, tupleD_lst, ixD_two, lend_cons, lend1_sh, lend1_ow, lend1_pk, lend1_un, negD, fld_books, fld_order, fld_entries, fld_ranks, listE_lst, listE_tup, listE_str, lenD_lst, lenD_tup, lenD_str, lenD_scr, addD_int, addD_str, addD_lst, addD_tup, catD_lst, intA_int, intC_int, cmpA_int, ltD_int, ltD_str, intD_int, intD_bl, slD_lst, slD_tup, slD_scr, slD_str, minD_two, maxD_two, ixD_zero, ixD_one, false_or, or_false, Int.reduceEq, false_implies, true_implies, implies_true])
theorem run_from_ok {n b j : Nat} {cat row : List Str} {Q : D → Nat → Prop} (hg : Good cat) (hp : row.Perm cat) (h : b + j + 1 < cat.length) (q : Q (optT (runAt cat (rk cat row) b (b + 1 + j))) n) : F_run_from n [shD cat row, .int b, .int ((j + 2 : Nat) : Int)] Q := by
  have hz := sizeLine_eq
  have hs := hg.sh hp
  rw [F_run_from_eq]; unfold runD W_run_from
  law_fe
  rw [ints_rk, show ((b : Int) + ((j + 2 : Nat) : Int)) = ((b + (j + 2) : Nat) : Int) by omega]
  rw [cut_seg _ _ (by rw [hs.rkl]; omega)]
  have e : ((rk cat row).drop b).take (j + 2) = seg (rk cat row) b (b + 1 + j) := by unfold seg; rw [show b + 1 + j + 1 - b = j + 2 by omega]
  rw [e]
  have hne := hs.rkne (b := b) (e := b + 1 + j) (by omega) (by omega)
  have hh := hs.rk_lt (hi_mem hne)
  have hlh := lo_hi hne
  refine minD_nats hne ?_
  law_fe
  refine maxD_nats hne ?_
  law_fe
  refine eqA_int ?_
  unfold runAt at q
  split
  · rename_i h2
    have h2 := of_decide_eq_true h2
    rw [if_pos (by omega)] at q
    rw [show ((lo (seg (rk cat row) b (b + 1 + j)) : Nat) : Int) + ((j + 2 : Nat) : Int) = ((lo (seg (rk cat row) b (b + 1 + j)) + (j + 2) : Nat) : Int) by omega]
    rw [cut_seg _ _ (by omega)]
    have e2 : (cat.drop (lo (seg (rk cat row) b (b + 1 + j)))).take (j + 2) = seg cat (lo (seg (rk cat row) b (b + 1 + j))) (hi (seg (rk cat row) b (b + 1 + j))) := by
      generalize hi (seg (rk cat row) b (b + 1 + j)) = H at hh hlh h2 ⊢
      generalize lo (seg (rk cat row) b (b + 1 + j)) = L at hh hlh h2 ⊢
      unfold seg; congr 1; omega
    rw [e2]
    exact q
  · rename_i h2
    rw [if_neg (by intro z; exact h2 (decide_eq_true (by omega)))] at q
    exact q
theorem runs_of_ok {n : Nat} {cat row : List Str} {Q : D → Nat → Prop} (hg : Good cat) (hp : row.Perm cat) (q : Q (.lst (((runsL cat (rk cat row)).mergeSort leT).map tS)) n) : F_runs_of n [shD cat row] Q := by
  have hz := sizeLine_eq
  have hs := hg.sh hp
  have hle := hg.le
  rw [F_runs_of_eq]; unfold runD W_runs_of
  law_fe
  rw [tLc2D]
  law_fe
  rw [List.length_map, Int.toNat_natCast, rng_nats]
  refine ⟨by omega, by omega, ?_⟩
  have hol := runsO_len cat (rk cat row) (by rw [hs.rkl]; omega)
  have ho : ((List.range cat.length).flatMap fun b => (List.range (cat.length - 1 - b)).map fun j => optT (runAt cat (rk cat row) b (b + 1 + j))) = (runsO cat (rk cat row)).map optT := by
    unfold runsO
    rw [hs.rkl, List.map_flatMap]
    simp only [List.map_map]
    rfl
  refine lc2_map (fs := fun b => (List.range (cat.length - 1 - b)).map fun j => optT (runAt cat (rk cat row) b (b + 1 + j))) (by rw [ho, List.length_map, List.length_nil]; omega) (fun b hb acc K hl hK => ?_) ?_
  · have hb := List.mem_range.mp hb
    rw [List.length_map, List.length_range] at hl
    law_fe
    have hb62 : (-2 : Int) ^ 62 = 4611686018427387904 := by decide
    refine ⟨?_, ?_⟩
    · omega
    rw [rng_from, show ((cat.length : Int) - (b : Int) + 1 - 2).toNat = cat.length - 1 - b by omega]
    refine lcGo_mapA (by rw [List.length_range]; omega) (fun j hj K2 hK2 => ?_) hK
    have hj := List.mem_range.mp hj
    law_fe
    rw [show (2 + (j : Int)) = ((j + 2 : Nat) : Int) by omega]
    exact run_from_ok hg hp (by omega) hK2
  · rw [List.nil_append, ho]
    refine lcGo_filter (f := optT) (p := Option.isSome) (by omega) (fun o ho K K0 h1 h0 => ?_) ?_
    · cases o with
      | none => exact h0 rfl
      | some t => exact h1 rfl
    · rw [opts_some, runsO_L]
      refine sortGD_tups (fun t ht z => ?_) (by have := runsL_len cat (rk cat row) (by rw [hs.rkl]; omega); omega) q
      have := run_ne hs ht
      rw [z, List.length_nil] at this
      omega
theorem ranks_ok {n : Nat} {cat row : List Str} {Q : D → Nat → Prop} (hg : Good cat) (hp : row.Perm cat) (q : Q (lN (rk cat row)) n) : F_law_ranks n [rowD cat row] Q := by
  have hz := sizeLine_eq
  have hle := hg.le
  have hl := hp.length_eq
  rw [F_law_ranks_eq]; unfold runD W_law_ranks rowD
  law_fe
  refine lcGo_map (f := fun x => .int (cat.idxOf x : Nat)) (by omega) (fun x hx K hK => ?_) ?_
  · law_fe
    exact index_strs (hp.mem_iff.mp hx) hK
  · rw [show (row.map fun x => D.int (cat.idxOf x : Nat)) = (rk cat row).map fun x : Nat => D.int (x : Int) by unfold rk; rw [List.map_map]; rfl]
    exact q
end K11
namespace K11
open PySem PySem.Spec L2 DL PL
local macro_rules | `(tactic| law_fe) => `(tactic| simp only [tSeqD, tIfD, tSetD, tSetO, tRetD, tRetO, tNextD, tDropD, tNeverD, tBreakD, tForD, tLcD, tDcD, tItL, tItT, tItS, tRng1, tRng2, rngA1, rngA2, tEnum, enA, tZip, zpA, t2, t2N, tTst, tNotD, tOrD, tAndD, tAndVD, tOrVD, tNotVD, tIfE, tChnD, tVarD, tVarK, tCD, DL.tCall, tConsA, tConsK, tNilA, tFn, tMet, tMetD_eq, tMutD, tMutV, tFz, frzs, frz1, tLstD, tTupD, slot, startD, tPurIx, tPurSet, tBitsD, tParD, mkS, tMoveD, tAsgD, tPat, setShs, tSlD, tPartD, tNoD, tLenSetD, tRevD, tSetFld, tFldD, selfQ, allD, anyD, tSwapD, tSetIx, tUnD, tRetPur, purA, wipeD, lend, isStrB, isLst, DL.isObj, subD, mulD, modD, divD, powBD, gtD, leD, geD, joinD, sumD, optD, isinD, isiAs, optB, Bool.or_false, Bool.or_true, Bool.false_or, Bool.true_or, Bool.not_true, Bool.not_false, Option.some.injEq, isi_bool_non, isi_bool_bl, isi_bool_int, isi_bool_str, isi_bool_lst, isi_bool_tup, isi_bool_dct, isi_bool_obj, isi_int_non, isi_int_bl, isi_int_int, isi_int_str, isi_int_lst, isi_int_tup, isi_int_dct, isi_int_obj, isi_str_non, isi_str_bl, isi_str_int, isi_str_str, isi_str_lst, isi_str_tup, isi_str_dct, isi_str_obj, isi_list_non, isi_list_bl, isi_list_int, isi_list_str, isi_list_lst, isi_list_tup, isi_list_dct, isi_list_obj, isi_tuple_non, isi_tuple_bl, isi_tuple_int, isi_tuple_str, isi_tuple_lst, isi_tuple_tup, isi_tuple_dct, isi_tuple_obj, isi_dict_non, isi_dict_bl, isi_dict_int, isi_dict_str, isi_dict_lst, isi_dict_tup, isi_dict_dct, isi_dict_obj, isi_cl_non, isi_cl_bl, isi_cl_int, isi_cl_str, isi_cl_lst, isi_cl_tup, isi_cl_dct, isi_own, eqD, neD, ixE_lst, ixE_tup, ixE_str, inE_lst, inE_tup, inE_str, ninE_lst, ninE_tup, ninE_str, appendM, insertM, reverseM, clearM, keyA, keyK, List.set, List.length_cons, List.length_nil, List.replicate, List.cons_append, List.nil_append, List.append_nil, Bool.false_eq_true, if_false, if_true, true_and, and_true, true_or, or_true, tupleD_lst, ixD_two, lend_cons, lend1_sh, lend1_ow, lend1_pk, lend1_un, negD, fld_books, fld_order, fld_entries, fld_ranks, listE_lst, listE_tup, listE_str, lenD_lst, lenD_tup, lenD_str, lenD_scr, addD_int, addD_str, addD_lst, addD_tup, catD_lst, intA_int, intC_int, cmpA_int, ltD_int, ltD_str, intD_int, intD_bl, slD_lst, slD_tup, slD_scr, slD_str, minD_two, maxD_two, ixD_zero, ixD_one, false_or, or_false, Int.reduceEq, false_implies, true_implies, implies_true])
def runsTo (cat : List Str) (ns : List Nat) (i : Nat) : List (List Str) :=
  (List.range i).flatMap fun b => (List.range (ns.length - 1 - b)).filterMap fun j => runAt cat ns b (b + 1 + j)
theorem runsTo_len (cat : List Str) (ns : List Nat) (h : ns.length ≤ 100) (i : Nat) : (runsTo cat ns i).length ≤ i * 100 := by
  unfold runsTo
  rw [List.length_flatMap]
  have : ∀ l : List Nat, (l.map fun b => ((List.range (ns.length - 1 - b)).filterMap fun j => runAt cat ns b (b + 1 + j)).length).sum ≤ l.length * 100 := fun l => by
    induction l with
    | nil => simp
    | cons x l ih =>
      rw [List.map_cons, List.sum_cons, List.length_cons, Nat.add_mul]
      have := List.length_filterMap_le (fun j => runAt cat ns x (x + 1 + j)) (List.range (ns.length - 1 - x))
      rw [List.length_range] at this
      omega
  have := this (List.range i)
  rwa [List.length_range] at this
theorem law_runs_ok {n : Nat} {cat row : List Str} {Q : D → Nat → Prop} (hg : Good cat) (hp : row.Perm cat) (q : Q (.lst (((runsL cat (rk cat row)).mergeSort leT).map tS)) n) : F_law_runs n [rowD cat row] Q := by
  have hz := sizeLine_eq
  have hs := hg.sh hp
  have hle := hg.le
  have hrl := hs.rkl
  have hlt : ∀ {b e y}, y ∈ seg (rk cat row) b e → y < cat.length := fun h => hs.rk_lt h
  have hnx : ∀ {b e}, b ≤ e → e < cat.length → seg (rk cat row) b e ≠ [] := fun h1 h2 => hs.rkne h1 h2
  have htot : runsTo cat (rk cat row) cat.length = runsL cat (rk cat row) := by unfold runsTo runsL; rw [hrl]
  have hmr : ∀ t ∈ runsL cat (rk cat row), 2 ≤ t.length := fun t ht => run_ne hs ht
  have hml := runsL_len cat (rk cat row) (by omega)
  rw [F_law_runs_eq]; unfold runD W_law_runs
  simp only [startD, List.replicate, Bool.false_eq_true, if_false]
  refine sq_any (fun n' ρ' => n = n' ∧ ρ' = [.sh (rowD cat row), .sh (lN (rk cat row)), .ow (.lst []), .un, .un, .un, .un]) (fun K hK => by law_fe; exact ranks_ok hg hp ⟨by omega, hK _ _ ⟨rfl, rfl⟩⟩) ?_
  rintro _ _ ⟨rfl, rfl⟩
  generalize rk cat row = ns at *
  refine sq_any (fun n' ρ' => n = n' ∧ ∃ (s3 s4 s5 s6 : Sl), ρ' = [.sh (rowD cat row), .sh (lN ns), .ow (.lst ((runsL cat ns).map tS)), s3, s4, s5, s6]) (fun K hK => ?_) ?_
  · refine for_rng (fun i n' => n = n' ∧ i = cat.length) (fun K' hK' => by law_fe; rw [List.length_map, hrl]; exact hK' _ _ ⟨rfl, rfl⟩) ?_
    rintro _ _ ⟨rfl, rfl⟩
    refine ⟨by omega, ?_⟩
    rw [Int.toNat_natCast]
    refine forD_ind (fun i n' ρ' => n = n' ∧ ∃ (s3 s4 s5 s6 : Sl), ρ' = [.sh (rowD cat row), .sh (lN ns), .ow (.lst ((runsTo cat ns i).map tS)), s3, s4, s5, s6]) ?_ ?_ ⟨rfl, _, _, _, _, rfl⟩
    · rintro b d _ _ K' hd ⟨rfl, s3, s4, s5, s6, rfl⟩ hK'
      obtain ⟨hb, rfl⟩ := rng_at hd
      rw [show (0 : Int) + (b : Int) = (b : Int) by omega]
      simp only [tPat, List.set]
      have hgb : ns[b]? = some (ns.getD b 0) := by rw [List.getD_eq_getElem?_getD, List.getElem?_eq_getElem (by omega)]; rfl
      have hone : seg ns b b = [ns.getD b 0] := seg_one hgb
      refine sq_any (fun n' ρ' => n = n' ∧ ρ' = [.sh (rowD cat row), .sh (lN ns), .ow (.lst ((runsTo cat ns b).map tS)), .sh (.int b), .sh (.int (lo (seg ns b b) : Nat)), .sh (.int (hi (seg ns b b) : Nat)), s6]) (fun K hK => ?_) ?_
      · law_fe
        refine ix_nats (by omega) (by omega) ?_
        refine ix_nats (by omega) (by omega) ?_
        rw [hone, show lo [ns.getD b 0] = ns.getD b 0 from Nat.min_self _, show hi [ns.getD b 0] = ns.getD b 0 from Nat.max_self _] at hK
        rw [Int.toNat_natCast]
        exact hK _ _ ⟨rfl, rfl⟩
      rintro _ _ ⟨rfl, rfl⟩
      refine for_rng2v ((b : Int) + 1) cat.length (fun K hK => by law_fe; exact hK) (fun K hK => by law_fe; rw [List.length_map, hrl]; exact hK) ⟨by omega, by omega⟩ ⟨by omega, by omega⟩ ?_
      refine forD_ind (fun j n' ρ' => n = n' ∧ ∃ (s6 : Sl), b + j < cat.length ∧ ρ' = [.sh (rowD cat row), .sh (lN ns), .ow (.lst ((runsTo cat ns b ++ (List.range j).filterMap fun j => runAt cat ns b (b + 1 + j)).map tS)), .sh (.int b), .sh (.int (lo (seg ns b (b + j)) : Nat)), .sh (.int (hi (seg ns b (b + j)) : Nat)), s6]) ?_ ?_ ⟨rfl, s6, by omega, by simp⟩
      · rintro j d _ _ K2 hd ⟨rfl, s6, _, rfl⟩ hK2
        obtain ⟨hj, rfl⟩ := rng_at hd
        have hbe : b + 1 + j < cat.length := by omega
        rw [show (b : Int) + 1 + (j : Int) = ((b + 1 + j : Nat) : Int) by omega]
        simp only [tPat, List.set]
        have hge : ns[b + j + 1]? = some (ns.getD (b + 1 + j) 0) := by rw [List.getD_eq_getElem?_getD, show b + j + 1 = b + 1 + j by omega, List.getElem?_eq_getElem (by omega)]; rfl
        have hsn : seg ns b (b + 1 + j) = seg ns b (b + j) ++ [ns.getD (b + 1 + j) 0] := by rw [show b + 1 + j = b + j + 1 by omega] at *; exact seg_snoc (by omega) hge
        have hne := hnx (b := b) (e := b + j) (by omega) (by omega)
        have hlo : lo (seg ns b (b + 1 + j)) = min (lo (seg ns b (b + j))) (ns.getD (b + 1 + j) 0) := by rw [hsn]; exact lo_snoc hne _
        have hhi : hi (seg ns b (b + 1 + j)) = max (hi (seg ns b (b + j))) (ns.getD (b + 1 + j) 0) := by rw [hsn]; exact hi_snoc hne _
        have hh := hlt (hi_mem (hnx (b := b) (e := b + 1 + j) (by omega) hbe))
        have hlh := lo_hi (hnx (b := b) (e := b + 1 + j) (by omega) hbe)
        refine sq_any (fun n' ρ' => n = n' ∧ ρ' = [.sh (rowD cat row), .sh (lN ns), .ow (.lst ((runsTo cat ns b ++ (List.range j).filterMap fun j => runAt cat ns b (b + 1 + j)).map tS)), .sh (.int b), .sh (.int (lo (seg ns b (b + 1 + j)) : Nat)), .sh (.int (hi (seg ns b (b + 1 + j)) : Nat)), .sh (.int ((b + 1 + j : Nat) : Int))]) (fun K hK => ?_) ?_
        · law_fe
          refine ix_nats (by omega) (by omega) ?_
          law_fe
          refine ix_nats (by omega) (by omega) ?_
          law_fe
          rw [Int.toNat_natCast]
          rw [hlo, hhi] at hK
          rw [show (if ((ns.getD (b + 1 + j) 0 : Nat) : Int) < ((lo (seg ns b (b + j)) : Nat) : Int) then ((ns.getD (b + 1 + j) 0 : Nat) : Int) else ((lo (seg ns b (b + j)) : Nat) : Int)) = ((min (lo (seg ns b (b + j))) (ns.getD (b + 1 + j) 0) : Nat) : Int) by split <;> omega]
          rw [show (if ((ns.getD (b + 1 + j) 0 : Nat) : Int) > ((hi (seg ns b (b + j)) : Nat) : Int) then ((ns.getD (b + 1 + j) 0 : Nat) : Int) else ((hi (seg ns b (b + j)) : Nat) : Int)) = ((max (hi (seg ns b (b + j))) (ns.getD (b + 1 + j) 0) : Nat) : Int) by split <;> omega]
          exact hK _ _ ⟨rfl, rfl⟩
        rintro _ _ ⟨rfl, rfl⟩
        have hstep : (List.range (j + 1)).filterMap (fun j => runAt cat ns b (b + 1 + j)) = (List.range j).filterMap (fun j => runAt cat ns b (b + 1 + j)) ++ (runAt cat ns b (b + 1 + j)).toList := by
          rw [List.range_succ, List.filterMap_append]
          congr 1
        rw [hstep, show b + (j + 1) = b + 1 + j by omega] at hK2
        have hrun : runAt cat ns b (b + 1 + j) = if hi (seg ns b (b + 1 + j)) - lo (seg ns b (b + 1 + j)) = b + 1 + j - b then some (seg cat (lo (seg ns b (b + 1 + j))) (hi (seg ns b (b + 1 + j)))) else none := rfl
        rw [hrun] at hK2
        generalize hL : lo (seg ns b (b + 1 + j)) = L at hK2 hlh
        generalize hH : hi (seg ns b (b + 1 + j)) = H at hK2 hlh hh
        law_fe
        refine eqA_int ?_
        split
        · rename_i h2
          have h2 := of_decide_eq_true h2
          rw [if_pos (by omega)] at hK2
          unfold rowD
          law_fe
          rw [show ((H : Int) + 1) = ((H + 1 : Nat) : Int) by omega, cut_mid _ _ (by omega) (by omega)]
          refine ⟨?_, hK2 _ _ ⟨rfl, .sh (.int ((b + 1 + j : Nat) : Int)), by omega, ?_⟩⟩
          · rw [List.length_map, List.length_append]
            have l1 := runsTo_len cat ns (by omega) b
            have l2 := List.length_filterMap_le (fun j => runAt cat ns b (b + 1 + j)) (List.range j)
            rw [List.length_range] at l2
            omega
          · rw [← List.append_assoc, List.map_append (l₁ := runsTo cat ns b ++ _)]
            rfl
        · rename_i h2
          rw [if_neg (by intro z; exact h2 (decide_eq_true (by omega)))] at hK2
          rw [Option.toList_none, List.append_nil] at hK2
          exact hK2 _ _ ⟨rfl, _, by omega, rfl⟩
      · rintro _ _ ⟨rfl, s6, _, rfl⟩
        rw [rng_len] at *
        have e : runsTo cat ns (b + 1) = runsTo cat ns b ++ (List.range ((cat.length : Int) - ((b : Int) + 1)).toNat).filterMap fun j => runAt cat ns b (b + 1 + j) := by
          unfold runsTo
          rw [List.range_succ, List.flatMap_append, List.flatMap_singleton, hrl]
          rw [show ((cat.length : Int) - ((b : Int) + 1)).toNat = cat.length - 1 - b by omega]
        rw [e] at hK'
        exact hK' _ _ ⟨rfl, _, _, _, _, rfl⟩
    · rintro _ _ ⟨rfl, s3, s4, s5, s6, rfl⟩
      rw [rng_len, htot]
      exact hK _ _ ⟨rfl, _, _, _, _, rfl⟩
  rintro _ _ ⟨rfl, s3, s4, s5, s6, rfl⟩
  law_fe
  refine sortGD_tups (fun t ht z => ?_) (by omega) q
  have := hmr t ht
  rw [z, List.length_nil] at this
  omega
end K11
namespace K11
open PySem PySem.Spec L2 DL PL
local macro_rules | `(tactic| law_fe) => `(tactic| simp only [tSeqD, tIfD, tSetD, tSetO, tRetD, tRetO, tNextD, tDropD, tNeverD, tBreakD, tForD, tLcD, tDcD, tItL, tItT, tItS, tRng1, tRng2, rngA1, rngA2, tEnum, enA, tZip, zpA, t2, t2N, tTst, tNotD, tOrD, tAndD, tAndVD, tOrVD, tNotVD, tIfE, tChnD, tVarD, tVarK, tCD, DL.tCall, tConsA, tConsK, tNilA, tFn, tMet, tMetD_eq, tMutD, tMutV, tFz, frzs, frz1, tLstD, tTupD, slot, startD, tPurIx, tPurSet, tBitsD, tParD, mkS, tMoveD, tAsgD, tPat, setShs, tSlD, tPartD, tNoD, tLenSetD, tRevD, tSetFld, tFldD, selfQ, allD, anyD, tSwapD, tSetIx, tUnD, tRetPur, purA, wipeD, lend, isStrB, isLst, DL.isObj, subD, mulD, modD, divD, powBD, gtD, leD, geD, joinD, sumD, optD, isinD, isiAs, optB, Bool.or_false, Bool.or_true, Bool.false_or, Bool.true_or, Bool.not_true, Bool.not_false, Option.some.injEq, isi_bool_non, isi_bool_bl, isi_bool_int, isi_bool_str, isi_bool_lst, isi_bool_tup, isi_bool_dct, isi_bool_obj, isi_int_non, isi_int_bl, isi_int_int, isi_int_str, isi_int_lst, isi_int_tup, isi_int_dct, isi_int_obj, isi_str_non, isi_str_bl, isi_str_int, isi_str_str, isi_str_lst, isi_str_tup, isi_str_dct, isi_str_obj, isi_list_non, isi_list_bl, isi_list_int, isi_list_str, isi_list_lst, isi_list_tup, isi_list_dct, isi_list_obj, isi_tuple_non, isi_tuple_bl, isi_tuple_int, isi_tuple_str, isi_tuple_lst, isi_tuple_tup, isi_tuple_dct, isi_tuple_obj, isi_dict_non, isi_dict_bl, isi_dict_int, isi_dict_str, isi_dict_lst, isi_dict_tup, isi_dict_dct, isi_dict_obj, isi_cl_non, isi_cl_bl, isi_cl_int, isi_cl_str, isi_cl_lst, isi_cl_tup, isi_cl_dct, isi_own, eqD, neD, ixE_lst, ixE_tup, ixE_str, inE_lst, inE_tup, inE_str, ninE_lst, ninE_tup, ninE_str, appendM, insertM, reverseM, clearM, keyA, keyK, List.set, List.length_cons, List.length_nil, List.replicate, List.cons_append, List.nil_append, List.append_nil, Bool.false_eq_true, if_false, if_true, true_and, and_true, true_or, or_true, tupleD_lst, ixD_two, lend_cons, lend1_sh, lend1_ow, lend1_pk, lend1_un, negD, fld_books, fld_order, fld_entries, fld_ranks, itemsD, listE_lst, listE_tup, listE_str, lenD_lst, lenD_tup, lenD_str, lenD_scr, addD_int, addD_str, addD_lst, addD_tup, catD_lst, intA_int, intC_int, cmpA_int, ltD_int, ltD_str, intD_int, intD_bl, slD_lst, slD_tup, slD_scr, slD_str, minD_two, maxD_two, ixD_zero, ixD_one, false_or, or_false, Int.reduceEq, false_implies, true_implies, implies_true])
theorem get_ent_no {x : Str} : ∀ {b : List Str} {k : Nat}, x ∉ b → dctGet ((b.zipIdx k).map fun p => (Sum.inl (Sum.inr p.1) : DKey)) ((b.zipIdx k).map fun p => D.int (p.2 : Nat)) (.inl (.inr x)) = none
  | [], k, _ => rfl
  | y :: b, k, h => by
    rw [List.mem_cons, not_or] at h
    rw [List.zipIdx_cons, List.map_cons, List.map_cons]
    unfold dctGet
    rw [if_neg (by
      intro z
      exact h.1 (by injection z with z; injection z with z; exact z.symm))]
    exact get_ent_no h.2
theorem ent_in_dec {b : List Str} {x : Str} {P : D → Prop} (q : P (.bl (decide (x ∈ b)))) : inE (.str x) (entD b) P := by
  unfold entD dctOf inE keyA keyK
  dsimp only
  refine ⟨by simp, ?_⟩
  rw [List.map_map, List.map_map]
  rw [show ((fun p : Key × D => (Sum.inl p.1 : DKey)) ∘ fun p : Str × Nat => ((Sum.inr p.1 : Key), D.int (p.2 : Nat))) = fun p => Sum.inl (Sum.inr p.1) from rfl,
    show (((·.2) : Key × D → D) ∘ fun p : Str × Nat => ((Sum.inr p.1 : Key), D.int (p.2 : Nat))) = fun p => D.int (p.2 : Nat) from rfl]
  by_cases h : x ∈ b
  · rw [get_ent (k := 0) h]
    rw [decide_eq_true h] at q
    exact q
  · rw [get_ent_no (k := 0) h]
    rw [decide_eq_false h] at q
    exact q
theorem span_ok {n : Nat} {cat row t : List Str} {Q : D → Nat → Prop} (hg : Good cat) (hp : row.Perm cat) (ht : t ≠ []) (hl : t.length ≤ 1000) (hc : ∀ x ∈ t, x ∈ cat) (q : Q (.tup [.int (plc row t : Nat), .int (t.length : Nat)]) n) : F_span n [shD cat row, tS t] Q := by
  have hz := sizeLine_eq
  rw [F_span_eq]; unfold runD W_span
  law_fe
  refine lcGo_map (f := fun x => .int (row.idxOf x : Nat)) (by omega) (fun x hx K hK => ?_) ?_
  · law_fe
    exact index_strs (hp.mem_iff.mpr (hc x hx)) hK
  rw [show (t.map fun x => D.int (row.idxOf x : Nat)) = (t.map row.idxOf).map fun x : Nat => D.int (x : Int) by rw [List.map_map]; rfl]
  refine minD_nats (fun z => ht (List.map_eq_nil_iff.mp z)) ?_
  rw [List.length_map]
  exact ⟨by omega, q⟩
theorem is_run_of_ok {n : Nat} {cat row t : List Str} {Q : D → Nat → Prop} (hg : Good cat) (hp : row.Perm cat) (hsp : ∀ x ∈ t, Sp x) (hl : t.length ≤ 1000) (q : Q (.bl (decide (t ∈ runsL cat (rk cat row)))) n) : F_is_run_of n [shD cat row, tS t] Q := by
  have hz := sizeLine_eq
  have hs := hg.sh hp
  have hle := hg.le
  have hpl := hp.length_eq
  rw [F_is_run_of_eq]; unfold runD W_is_run_of
  simp only [startD, List.replicate, Bool.false_eq_true, if_false, if_true]
  have no : t ∉ runsL cat (rk cat row) → Q (.bl false) n := fun h => by rw [decide_eq_false h] at q; exact q
  refine sq_any (fun n' ρ' => n = n' ∧ 2 ≤ t.length ∧ ρ' = [.sh (shD cat row), .sh (tS t), .un, .un]) (fun K hK => ?_) ?_
  · law_fe
    rw [List.length_map]
    split
    · rename_i h
      have h := of_decide_eq_true h
      exact no fun z => by have := run_ne hs z; omega
    · rename_i h
      have h : ¬ ((t.length : Int) < 2) := fun z => h (decide_eq_true z)
      exact hK _ _ ⟨rfl, by omega, rfl⟩
  rintro _ _ ⟨rfl, h2, rfl⟩
  refine sq_any (fun n' ρ' => n = n' ∧ (∀ x ∈ t, x ∈ cat) ∧ ρ' = [.sh (shD cat row), .sh (tS t), .un, .un]) (fun K hK => ?_) ?_
  · law_fe
    refine lcGo_map (f := fun x => .bl (decide (x ∈ cat))) (by omega) (fun x hx K2 hK2 => ?_) ?_
    · law_fe
      refine is_spelt_ok (hsp x hx) ?_
      law_fe
      exact ent_in_dec hK2
    · rw [show (t.map fun x => D.bl (decide (x ∈ cat))) = (t.map fun x => decide (x ∈ cat)).map D.bl by rw [List.map_map]; rfl]
      rw [blsD_bls]
      dsimp only
      rw [List.all_map]
      by_cases h : ∀ x ∈ t, x ∈ cat
      · rw [show t.all (id ∘ fun x => decide (x ∈ cat)) = true by simpa using h]
        exact hK _ _ ⟨rfl, h, rfl⟩
      · rw [show t.all (id ∘ fun x => decide (x ∈ cat)) = false by
          cases z : t.all (id ∘ fun x => decide (x ∈ cat)) with
          | false => rfl
          | true => exact absurd (by simpa using z) h]
        exact no fun z => h (run_mem z)
  rintro _ _ ⟨rfl, hc, rfl⟩
  obtain ⟨x0, hx0⟩ : ∃ x0, t.head? = some x0 := by
    cases t with
    | nil => simp at h2
    | cons x r => exact ⟨x, rfl⟩
  have hx0m : x0 ∈ t := List.mem_of_head? hx0
  refine sq_any (fun n' ρ' => n = n' ∧ ρ' = [.sh (shD cat row), .sh (tS t), .sh (.int (cat.idxOf x0 : Nat)), .un]) (fun K hK => ?_) ?_
  · law_fe
    refine ix_nat (i := 0) (d := .str x0) (by omega) (by rw [show (0 : Int).toNat = 0 from rfl, ← List.head?_eq_getElem?, List.head?_map, hx0]; rfl) ?_
    exact ent_ix (hc x0 hx0m) (hK _ _ ⟨rfl, rfl⟩)
  rintro _ _ ⟨rfl, rfl⟩
  have hi0 := List.idxOf_lt_length_of_mem (hc x0 hx0m)
  refine sq_any (fun n' ρ' => n = n' ∧ t = (cat.drop (cat.idxOf x0)).take t.length ∧ ρ' = [.sh (shD cat row), .sh (tS t), .sh (.int (cat.idxOf x0 : Nat)), .un]) (fun K hK => ?_) ?_
  · law_fe
    rw [List.length_map, show ((cat.idxOf x0 : Nat) : Int) + (t.length : Int) = ((cat.idxOf x0 + t.length : Nat) : Int) by omega]
    have ec : cutD (cat.map D.str) (some ((cat.idxOf x0 : Nat) : Int)) (some ((cat.idxOf x0 + t.length : Nat) : Int)) = ((cat.drop (cat.idxOf x0)).take t.length).map D.str := by
      by_cases hb : cat.idxOf x0 + t.length ≤ cat.length
      · rw [cut_mid _ _ (by omega) hb, Nat.add_sub_cancel_left]
      · rw [cutD_map, HT.sIx_nat, HT.sIx_nat, Nat.min_eq_left (show cat.idxOf x0 ≤ cat.length by omega), Nat.min_eq_right (show cat.length ≤ cat.idxOf x0 + t.length by omega)]
        congr 1
        rw [List.take_of_length_le (by rw [List.length_drop]; omega), List.take_of_length_le (by rw [List.length_drop]; omega)]
    rw [ec]
    refine eqA_strs (fun x hx => (hsp x hx).ok) (fun x hx => hg.ok x (List.mem_of_mem_drop (List.mem_of_mem_take hx))) ?_
    by_cases h : t = (cat.drop (cat.idxOf x0)).take t.length
    · rw [decide_eq_true h]
      exact hK _ _ ⟨rfl, h, rfl⟩
    · rw [decide_eq_false h]
      refine no fun z => h ?_
      obtain ⟨_, a, _, h4, x, h5, h6⟩ := runAt_plc hs z
      rw [hx0] at h5
      cases h5
      rw [h6]; exact h4
  rintro _ _ ⟨rfl, hsl, rfl⟩
  have ht0 : t ≠ [] := fun z => by rw [z] at h2; simp at h2
  have hnd : t.Nodup := by
    rw [hsl]
    exact hg.nd.sublist ((List.take_sublist _ _).trans (List.drop_sublist _ _))
  have hb := plc_lt hs ht0 hnd hc
  law_fe
  refine span_ok hg hp ht0 hl hc ?_
  law_fe
  rw [List.length_map, show ((t.length : Nat) : Int) = (((t.length - 2) + 2 : Nat) : Int) by omega]
  refine run_from_ok hg hp (by omega) ?_
  rw [show plc row t + 1 + (t.length - 2) = plc row t + t.length - 1 by omega]
  have hr : ∀ u, runAt cat (rk cat row) (plc row t) (plc row t + t.length - 1) = some u → ∀ x ∈ u, okS x = true := fun u hu x hx => hg.ok x (run_mem (runAt_mem hs h2 hb hu) x hx)
  cases e : runAt cat (rk cat row) (plc row t) (plc row t + t.length - 1) with
  | none =>
    exact eqA_non_tS (fun x hx => (hsp x hx).ok) (no fun z => by rw [(runAt_plc hs z).1] at e; cases e)
  | some u =>
    refine eqA_tS (hr u e) (fun x hx => (hsp x hx).ok) ?_
    by_cases h : u = t
    · subst h
      rw [decide_eq_true (runAt_mem hs h2 hb e)] at q
      rw [decide_eq_true rfl]
      exact q
    · rw [decide_eq_false h]
      refine no fun z => h ?_
      rw [(runAt_plc hs z).1] at e
      cases e; rfl
/-- a run of a shelf that is one -/
structure RunOf (cat row t : List Str) : Prop where
  g : Good cat
  p : row.Perm cat
  r : t ∈ runsL cat (rk cat row)
theorem RunOf.sh {cat row t : List Str} (h : RunOf cat row t) : Sh cat row := h.g.sh h.p
theorem RunOf.sp {cat row t : List Str} (h : RunOf cat row t) : ∀ x ∈ t, Sp x := fun x hx => h.g.sp x (run_mem h.r x hx)
theorem RunOf.ok {cat row t : List Str} (h : RunOf cat row t) : ∀ x ∈ t, okS x = true := fun x hx => (h.sp x hx).ok
theorem RunOf.le {cat row t : List Str} (h : RunOf cat row t) : t.length ≤ 30 := by
  have := (run_sub h.r).length_le
  have := h.g.le
  omega
theorem RunOf.two {cat row t : List Str} (h : RunOf cat row t) : 2 ≤ t.length := run_ne h.sh h.r
theorem RunOf.ne {cat row t : List Str} (h : RunOf cat row t) : t ≠ [] := fun z => by have := h.two; rw [z] at this; simp at this
theorem RunOf.blk {cat row t : List Str} (h : RunOf cat row t) : Blk row t := ((run_iff h.sh).mp h.r).2.2
theorem RunOf.seg {cat row t : List Str} (h : RunOf cat row t) : Seg cat t := ((run_iff h.sh).mp h.r).2.1
theorem RunOf.pm {cat row t : List Str} (h : RunOf cat row t) : (turn t row).Perm cat := (turn_perm' h.sh.nr h.blk).trans h.p
theorem RunOf.back {cat row t : List Str} (h : RunOf cat row t) : RunOf cat (turn t row) t := ⟨h.g, h.pm, run_self h.sh h.r⟩
theorem RunOf.twice {cat row t : List Str} (h : RunOf cat row t) : turn t (turn t row) = row := (turn_back h.sh.nr h.blk).2
theorem RunOf.isr {n : Nat} {cat row t : List Str} {Q : D → Nat → Prop} (h : RunOf cat row t) (q : Q (.bl true) n) : F_is_run_of n [shD cat row, tS t] Q :=
  is_run_of_ok h.g h.p h.sp (by have := h.le; omega) (by rw [decide_eq_true h.r]; exact q)
theorem check_run_ok {n : Nat} {cat row t : List Str} {Q : D → Nat → Prop} (h : RunOf cat row t) (q : Q .non n) : F_check_run n [shD cat row, tS t] Q := by
  rw [F_check_run_eq]; unfold runD W_check_run
  law_fe
  refine h.isr ?_
  law_fe
  exact q
theorem is_run_ok {n : Nat} {cat row t : List Str} {Q : D → Nat → Prop} (hg : Good cat) (hp : row.Perm cat) (hsp : ∀ x ∈ t, Sp x) (hl : t.length ≤ 1000) (q : Q (.bl (decide (t ∈ runsL cat (rk cat row)))) n) : F_is_run n [shD cat row, tS t] Q := by
  rw [F_is_run_eq]; unfold runD W_is_run
  law_fe
  refine check_shelf_ok ?_
  exact is_run_of_ok hg hp hsp hl q
end K11
namespace K11
open PySem PySem.Spec L2 DL PL
local macro_rules | `(tactic| law_fe) => `(tactic| simp only [tSeqD, tIfD, tSetD, tSetO, tRetD, tRetO, tNextD, tDropD, tNeverD, tBreakD, tForD, tLcD, tDcD, tItL, tItT, tItS, tRng1, tRng2, rngA1, rngA2, tEnum, enA, tZip, zpA, t2, t2N, tTst, tNotD, tOrD, tAndD, tAndVD, tOrVD, tNotVD, tIfE, tChnD, tVarD, tVarK, tCD, DL.tCall, tConsA, tConsK, tNilA, tFn, tMet, tMetD_eq, tMutD, tMutV, tFz, frzs, frz1, tLstD, tTupD, slot, startD, tPurIx, tPurSet, tBitsD, tParD, mkS, tMoveD, tAsgD, tPat, setShs, tSlD, tPartD, tNoD, tLenSetD, tRevD, tSetFld, tFldD, selfQ, allD, anyD, tSwapD, tSetIx, tUnD, tRetPur, purA, wipeD, lend, isStrB, isLst, DL.isObj, subD, mulD, modD, divD, powBD, gtD, leD, geD, joinD, sumD, optD, isinD, isiAs, optB, Bool.or_false, Bool.or_true, Bool.false_or, Bool.true_or, Bool.not_true, Bool.not_false, Option.some.injEq, isi_bool_non, isi_bool_bl, isi_bool_int, isi_bool_str, isi_bool_lst, isi_bool_tup, isi_bool_dct, isi_bool_obj, isi_int_non, isi_int_bl, isi_int_int, isi_int_str, isi_int_lst, isi_int_tup, isi_int_dct, isi_int_obj, isi_str_non, isi_str_bl, isi_str_int, isi_str_str, isi_str_lst, isi_str_tup, isi_str_dct, isi_str_obj, isi_list_non, isi_list_bl, isi_list_int, isi_list_str, isi_list_lst, isi_list_tup, isi_list_dct, isi_list_obj, isi_tuple_non, isi_tuple_bl, isi_tuple_int, isi_tuple_str, isi_tuple_lst, isi_tuple_tup, isi_tuple_dct, isi_tuple_obj, isi_dict_non, isi_dict_bl, isi_dict_int, isi_dict_str, isi_dict_lst, isi_dict_tup, isi_dict_dct, isi_dict_obj, isi_cl_non, isi_cl_bl, isi_cl_int, isi_cl_str, isi_cl_lst, isi_cl_tup, isi_cl_dct, isi_own, eqD, neD, ixE_lst, ixE_tup, ixE_str, inE_lst, inE_tup, inE_str, ninE_lst, ninE_tup, ninE_str, appendM, insertM, reverseM, clearM, keyA, keyK, List.set, List.length_cons, List.length_nil, List.replicate, List.cons_append, List.nil_append, List.append_nil, Bool.false_eq_true, if_false, if_true, true_and, and_true, true_or, or_true, tupleD_lst, ixD_two, lend_cons, lend1_sh, lend1_ow, lend1_pk, lend1_un, negD, fld_books, fld_order, fld_entries, fld_ranks, listE_lst, listE_tup, listE_str, lenD_lst, lenD_tup, lenD_str, lenD_scr, addD_int, addD_str, addD_lst, addD_tup, catD_lst, intA_int, intC_int, cmpA_int, ltD_int, ltD_str, intD_int, intD_bl, slD_lst, slD_tup, slD_scr, slD_str, minD_two, maxD_two, ixD_zero, ixD_one, false_or, or_false, Int.reduceEq, false_implies, true_implies, implies_true])
theorem Good.sub {b s : List Str} (h : Good b) (hs : s.Sublist b) (hne : s ≠ []) : Good s := ⟨hne, fun x hx => h.sp x (hs.mem hx), (h.nd).sublist hs, by have := hs.length_le; have := h.le; omega⟩
theorem eq_ok {n : Nat} {b r b' r' : List Str} {Q : D → Nat → Prop} (h : Good b) (p : r.Perm b) (h' : Good b') (p' : r'.Perm b') (q : Q (.bl (decide (b = b' ∧ r = r'))) n) : eqQ "Shelf" F_Shelf_eq n (shD b r) (shD b' r') Q :=
  show eqO "Shelf" F_Shelf_eq n (shD b r) (shD b' r') Q from ⟨rfl, .inr ⟨_, _, rfl⟩, sh_eq_ok h p h' p' q⟩
theorem ne_ok {n : Nat} {b r b' r' : List Str} {Q : D → Nat → Prop} (h : Good b) (p : r.Perm b) (h' : Good b') (p' : r'.Perm b') (q : Q (.bl (!decide (b = b' ∧ r = r'))) n) : neO "Shelf" F_Shelf_eq n (shD b r) (shD b' r') Q :=
  ⟨rfl, .inr ⟨_, _, rfl⟩, sh_eq_ok h p h' p' q⟩
theorem eq_same {n : Nat} {b r : List Str} {Q : D → Nat → Prop} (h : Good b) (p : r.Perm b) (q : Q (.bl true) n) : eqQ "Shelf" F_Shelf_eq n (shD b r) (shD b r) Q := eq_ok h p h p (by rw [decide_eq_true (by simp)]; exact q)
theorem ne_same {n : Nat} {b r : List Str} {Q : D → Nat → Prop} (h : Good b) (p : r.Perm b) (q : Q (.bl false) n) : neO "Shelf" F_Shelf_eq n (shD b r) (shD b r) Q := ne_ok h p h p (by simpa using q)
theorem neO_bl {cn : Str} {F : FnD} {n : Nat} {a b : Bool} {P : D → Nat → Prop} : neO cn F n (.bl a) (.bl b) P = eqA (.bl a) (.bl b) fun k => P (.bl (!k)) n := rfl
theorem plain_row {k : Nat} {cat row : List Str} (hg : Good cat) (hp : row.Perm cat) : plainB (k + 2) (.lst [lS cat, lS row]) = true := by
  have hle := hg.le
  have hpl := hp.length_eq
  refine plain_lst (by simp) fun d hd => ?_
  rcases List.mem_cons.mp hd with rfl | hd
  · exact plain_lS (by omega) hg.ok
  · rw [List.mem_singleton] at hd
    subst hd
    exact plain_lS (by omega) (hg.perm hp).ok
theorem plain_tS {k : Nat} {xs : List Str} (hl : xs.length ≤ 100000) (h : ∀ x ∈ xs, okS x = true) : plainB (k + 1) (tS xs) = true := by
  simp only [plainB, Bool.and_eq_true, List.all_eq_true]
  exact ⟨by simp only [List.length_map]; exact decide_eq_true hl, fun d hd => by obtain ⟨x, hx, rfl⟩ := List.mem_map.mp hd; exact plain_str (h x hx)⟩
theorem plain_runs {k : Nat} {cat row : List Str} {ts : List (List Str)} (hg : Good cat) (hp : row.Perm cat) (hl : ts.length ≤ 100000) (h : ∀ t ∈ ts, t ∈ runsL cat (rk cat row)) : plainB (k + 2) (.lst (ts.map tS)) = true := by
  refine plain_lst (by rw [List.length_map]; exact hl) fun d hd => ?_
  obtain ⟨t, ht, rfl⟩ := List.mem_map.mp hd
  have R : RunOf cat row t := ⟨hg, hp, h t ht⟩
  exact plain_tS (by have := R.le; omega) R.ok
theorem unspoilt_ok {n : Nat} {cat row : List Str} {Q : D → Nat → Prop} (hg : Good cat) (hp : row.Perm cat) (q : Q (.bl true) n) : F_law_unspoilt n [shD cat row, rowD cat row] Q := by
  have hz := sizeLine_eq
  rw [F_law_unspoilt_eq]; unfold runD W_law_unspoilt
  law_fe
  rw [met_cat]
  refine cat_ok ?_
  rw [met_row]
  refine row_ok ?_
  unfold rowD
  law_fe
  refine ⟨by omega, by omega, exact_ok (plain_row (k := 5) hg hp) ?_⟩
  refine shelf_ok hg hp ?_
  exact eq_same hg hp q
abbrev RT (cat row : List Str) : List (List Str) := (runsL cat (rk cat row)).mergeSort leT
theorem RT_run {cat row t : List Str} (hg : Good cat) (hp : row.Perm cat) (h : t ∈ RT cat row) : RunOf cat row t := ⟨hg, hp, List.mem_mergeSort.mp h⟩
theorem RT_len {cat row : List Str} (hg : Good cat) (hp : row.Perm cat) : (RT cat row).length ≤ 10000 := by
  have := hg.le
  rw [List.length_mergeSort]; exact runsL_len _ _ (by rw [(hg.sh hp).rkl]; omega)
theorem RT_mem {cat row t : List Str} : t ∈ RT cat row ↔ t ∈ runsL cat (rk cat row) := List.mem_mergeSort
theorem RT_ne {cat row : List Str} (hg : Good cat) (hp : row.Perm cat) (h2 : 2 ≤ cat.length) : 0 < (RT cat row).length := List.length_pos_iff.mpr (List.ne_nil_of_mem (RT_mem.mpr (run_all (hg.sh hp) h2)))
end K11
namespace K11
open PySem PySem.Spec L2 DL PL
local macro_rules | `(tactic| law_fe) => `(tactic| simp only [tSeqD, tIfD, tSetD, tSetO, tRetD, tRetO, tNextD, tDropD, tNeverD, tBreakD, tForD, tLcD, tDcD, tItL, tItT, tItS, tRng1, tRng2, rngA1, rngA2, tEnum, enA, tZip, zpA, t2, t2N, tTst, tNotD, tOrD, tAndD, tAndVD, tOrVD, tNotVD, tIfE, tChnD, tVarD, tVarK, tCD, DL.tCall, tConsA, tConsK, tNilA, tFn, tMet, tMetD_eq, tMutD, tMutV, tFz, frzs, frz1, tLstD, tTupD, slot, startD, tPurIx, tPurSet, tBitsD, tParD, mkS, tMoveD, tAsgD, tPat, setShs, tSlD, tPartD, tNoD, tLenSetD, tRevD, tSetFld, tFldD, selfQ, allD, anyD, tSwapD, tSetIx, tUnD, tRetPur, purA, wipeD, lend, isStrB, isLst, DL.isObj, subD, mulD, modD, divD, powBD, gtD, leD, geD, joinD, sumD, optD, isinD, isiAs, optB, Bool.or_false, Bool.or_true, Bool.false_or, Bool.true_or, Bool.not_true, Bool.not_false, Option.some.injEq, isi_bool_non, isi_bool_bl, isi_bool_int, isi_bool_str, isi_bool_lst, isi_bool_tup, isi_bool_dct, isi_bool_obj, isi_int_non, isi_int_bl, isi_int_int, isi_int_str, isi_int_lst, isi_int_tup, isi_int_dct, isi_int_obj, isi_str_non, isi_str_bl, isi_str_int, isi_str_str, isi_str_lst, isi_str_tup, isi_str_dct, isi_str_obj, isi_list_non, isi_list_bl, isi_list_int, isi_list_str, isi_list_lst, isi_list_tup, isi_list_dct, isi_list_obj, isi_tuple_non, isi_tuple_bl, isi_tuple_int, isi_tuple_str, isi_tuple_lst, isi_tuple_tup, isi_tuple_dct, isi_tuple_obj, isi_dict_non, isi_dict_bl, isi_dict_int, isi_dict_str, isi_dict_lst, isi_dict_tup, isi_dict_dct, isi_dict_obj, isi_cl_non, isi_cl_bl, isi_cl_int, isi_cl_str, isi_cl_lst, isi_cl_tup, isi_cl_dct, isi_own, eqD, neD, ixE_lst, ixE_tup, ixE_str, inE_lst, inE_tup, inE_str, ninE_lst, ninE_tup, ninE_str, appendM, insertM, reverseM, clearM, keyA, keyK, List.set, List.length_cons, List.length_nil, List.replicate, List.cons_append, List.nil_append, List.append_nil, Bool.false_eq_true, if_false, if_true, true_and, and_true, true_or, or_true, tupleD_lst, tupleD_tup, ixD_two, lend_cons, lend1_sh, lend1_ow, lend1_pk, lend1_un, negD, fld_books, fld_order, fld_entries, fld_ranks, listE_lst, listE_tup, listE_str, lenD_lst, lenD_tup, lenD_str, lenD_scr, addD_int, addD_str, addD_lst, addD_tup, catD_lst, intA_int, intC_int, cmpA_int, ltD_int, ltD_str, intD_int, intD_bl, slD_lst, slD_tup, slD_scr, slD_str, minD_two, maxD_two, ixD_zero, ixD_one, false_or, or_false, Int.reduceEq, false_implies, true_implies, implies_true])
theorem common_ok {n : Nat} {a b : List Str} {Q : D → Nat → Prop} (hl : a.length ≤ 1000) (q : Q (tS (a.filter fun x => decide (x ∈ b))) n) : F_common n [tS a, tS b] Q := by
  have hz := sizeLine_eq
  rw [F_common_eq]; unfold runD W_common
  law_fe
  refine lcGo_filter (f := D.str) (p := fun x => decide (x ∈ b)) (by omega) (fun x hx K K0 hk hk0 => ?_) ?_
  · law_fe
    refine inA_tS ?_
    by_cases z : x ∈ b
    · rw [decide_eq_true z]; exact hk (by simpa using z)
    · rw [decide_eq_false z]; exact hk0 (by simpa using z)
  exact q
theorem overlaps_ok {n : Nat} {a b : List Str} {Q : D → Nat → Prop} (hl : a.length ≤ 1000) (q : Q (.bl (ovl a b)) n) : F_overlaps n [tS a, tS b] Q := by
  rw [F_overlaps_eq]; unfold runD W_overlaps
  law_fe
  refine common_ok hl ?_
  unfold ovl at q
  law_fe
  simp only [List.length_map]
  by_cases h : 0 < (a.filter fun x => decide (x ∈ b)).length
  · rw [if_pos (by simpa using h)]
    rw [show (decide (0 < (a.filter fun x => decide (x ∈ b)).length ∧ (a.filter fun x => decide (x ∈ b)).length < min a.length b.length)) = decide (((a.filter fun x => decide (x ∈ b)).length : Int) < (if (b.length : Int) < (a.length : Int) then (b.length : Int) else (a.length : Int))) from decide_eq_decide.mpr (by split <;> omega)] at q
    exact q
  · rw [if_neg (by simpa using h)]
    rw [decide_eq_false (fun z => h z.1)] at q
    exact q
theorem check_both_ok {n : Nat} {cat row a b : List Str} {Q : D → Nat → Prop} (ha : RunOf cat row a) (hb : RunOf cat row b) (q : Q .non n) : F_check_both n [shD cat row, tS a, tS b] Q := by
  rw [F_check_both_eq]; unfold runD W_check_both
  law_fe
  refine check_shelf_ok (check_run_ok ha (check_run_ok hb ?_))
  exact q
theorem p_overlap_ok {n : Nat} {cat row a b : List Str} {Q : D → Nat → Prop} (ha : RunOf cat row a) (hb : RunOf cat row b) (q : Q (.bl (ovl a b)) n) : F_overlap n [shD cat row, tS a, tS b] Q := by
  rw [F_overlap_eq]; unfold runD W_overlap
  law_fe
  refine check_both_ok ha hb ?_
  exact overlaps_ok (by have := ha.le; omega) q
theorem overlapping_ok {n : Nat} {cat row a : List Str} {Q : D → Nat → Prop} (ha : RunOf cat row a) (q : Q (.lst (((RT cat row).filter fun t => ovl a t).map tS)) n) : F_overlapping n [shD cat row, tS a] Q := by
  have hz := sizeLine_eq
  have hrl := RT_len ha.g ha.p
  rw [F_overlapping_eq]; unfold runD W_overlapping
  law_fe
  refine check_shelf_ok (check_run_ok ha ?_)
  refine runs_of_ok ha.g ha.p ?_
  refine lcGo_filter (f := tS) (p := fun t => ovl a t) (Nat.le_trans hrl (by omega)) (fun t ht K K0 hk hk0 => ?_) q
  law_fe
  refine overlaps_ok (by have := ha.le; omega) ?_
  cases z : ovl a t with
  | true => exact hk z
  | false => exact hk0 z
theorem check_overlap_ok {n : Nat} {cat row a b : List Str} {Q : D → Nat → Prop} (ha : RunOf cat row a) (hb : RunOf cat row b) (ho : ovl a b = true) (q : Q .non n) : F_check_overlap n [shD cat row, tS a, tS b] Q := by
  rw [F_check_overlap_eq]; unfold runD W_check_overlap
  law_fe
  refine check_both_ok ha hb (overlaps_ok (by have := ha.le; omega) ?_)
  rw [ho]
  law_fe
  exact q
theorem meet_of_ok {n : Nat} {cat row a b : List Str} {Q : D → Nat → Prop} (ha : RunOf cat row a) (hb : RunOf cat row b) (ho : ovl a b = true) (q : Q (tS (a.filter fun x => decide (x ∈ b))) n) : F_meet_of n [shD cat row, tS a, tS b] Q := by
  rw [F_meet_of_eq]; unfold runD W_meet_of
  law_fe
  exact check_overlap_ok ha hb ho (common_ok (by have := ha.le; omega) q)
theorem union_of_ok {n : Nat} {cat row a b : List Str} {Q : D → Nat → Prop} (ha : RunOf cat row a) (hb : RunOf cat row b) (ho : ovl a b = true) (q : Q (tS (cat.filter fun x => decide (x ∈ a) || decide (x ∈ b))) n) : F_union_of n [shD cat row, tS a, tS b] Q := by
  have hz := sizeLine_eq
  have hle := ha.g.le
  rw [F_union_of_eq]; unfold runD W_union_of
  law_fe
  refine check_overlap_ok ha hb ho ?_
  refine lcGo_filter (f := D.str) (p := fun x => decide (x ∈ a) || decide (x ∈ b)) (by omega) (fun x hx K K0 hk hk0 => ?_) ?_
  · law_fe
    refine inA_tS ?_
    by_cases z : x ∈ a
    · rw [decide_eq_true z]; exact hk (by simp [z])
    · rw [decide_eq_false z, if_neg Bool.false_ne_true]
      refine inA_tS ?_
      by_cases z2 : x ∈ b
      · rw [decide_eq_true z2]; exact hk (by simp [z2])
      · rw [decide_eq_false z2]; exact hk0 (by simp [z, z2])
  exact q
abbrev les (a b : List Str) : List Str := a.filter fun x => decide (x ∉ b)
abbrev bth (a b : List Str) : List Str := a.filter fun x => decide (x ∈ b)
abbrev uni (cat a b : List Str) : List Str := cat.filter fun x => decide (x ∈ a) || decide (x ∈ b)
theorem rests_of_ok {n : Nat} {cat row a b : List Str} {Q : D → Nat → Prop} (ha : RunOf cat row a) (hb : RunOf cat row b) (ho : ovl a b = true) (q : Q (.lst [tS (les a b), tS (les b a)]) n) : F_rests_of n [shD cat row, tS a, tS b] Q := by
  have hz := sizeLine_eq
  have hal := ha.le
  have hbl := hb.le
  rw [F_rests_of_eq]; unfold runD W_rests_of
  law_fe
  refine check_overlap_ok ha hb ho ?_
  refine lcGo_filter (f := D.str) (p := fun x => decide (x ∉ b)) (by omega) (fun x hx K K0 hk hk0 => ?_) ?_
  · law_fe
    refine inA_tS ?_
    by_cases z : x ∈ b
    · rw [decide_eq_true z]; exact hk0 (by simpa using z)
    · rw [decide_eq_false z]; exact hk (by simpa using z)
  refine lcGo_filter (f := D.str) (p := fun x => decide (x ∉ a)) (by omega) (fun x hx K K0 hk hk0 => ?_) ?_
  · law_fe
    refine inA_tS ?_
    by_cases z : x ∈ a
    · rw [decide_eq_true z]; exact hk0 (by simpa using z)
    · rw [decide_eq_false z]; exact hk (by simpa using z)
  exact ⟨by decide, q⟩
/-- a pair that overlaps -/
structure Ov (cat row a b : List Str) : Prop where
  ra : RunOf cat row a
  rb : RunOf cat row b
  o : ovl a b = true
theorem ovl_iff {cat row a b : List Str} (ha : RunOf cat row a) (hb : RunOf cat row b) : ovl a b = true ↔ ¬ NOv a b := by
  have := ovl_nov (run_nd ha.sh ha.r) (run_nd hb.sh hb.r)
  unfold ovl
  rw [decide_eq_true_iff, ← this, Classical.not_not]
theorem ovl_comm {cat row a b : List Str} (ha : RunOf cat row a) (hb : RunOf cat row b) : ovl b a = ovl a b := by
  have e1 := ovl_iff ha hb
  have e2 := ovl_iff hb ha
  rw [Bool.eq_iff_iff, e1, e2]
  exact ⟨fun h z => h z.symm, fun h z => h z.symm⟩
theorem Ov.sym {cat row a b : List Str} (h : Ov cat row a b) : Ov cat row b a := ⟨h.rb, h.ra, by rw [ovl_comm h.ra h.rb]; exact h.o⟩
theorem Ov.bth {cat row a b : List Str} (h : Ov cat row a b) : K11.bth b a = K11.bth a b :=
  sub_ext h.ra.g.nd (List.filter_sublist.trans (run_sub h.rb.r)) (List.filter_sublist.trans (run_sub h.ra.r)) fun x => by simp [and_comm]
theorem uni_comm {cat a b : List Str} : uni cat b a = uni cat a b := List.filter_congr fun x _ => Bool.or_comm _ _
/-- a piece: not nothing, a run or one book -/
theorem Ov.piece {cat row a b t : List Str} (h : Ov cat row a b) (ht : t = K11.bth a b ∨ t = uni cat a b ∨ t = les a b ∨ t = les b a) : t ≠ [] ∧ t.Sublist cat ∧ (1 < t.length → t ∈ runsL cat (rk cat row)) := by
  have hs : t.Sublist cat := by
    rcases ht with rfl | rfl | rfl | rfl
    · exact List.filter_sublist.trans (run_sub h.ra.r)
    · exact List.filter_sublist
    · exact List.filter_sublist.trans (run_sub h.ra.r)
    · exact List.filter_sublist.trans (run_sub h.rb.r)
  obtain ⟨k1, k2⟩ := ov_run h.ra.sh h.ra.r h.rb.r ((ovl_iff h.ra h.rb).mp h.o) hs (by
    rcases ht with rfl | rfl | rfl | rfl
    · exact .inl fun x => by simp
    · refine .inr (.inl fun x => ?_)
      rw [List.mem_filter]
      simp only [Bool.or_eq_true, decide_eq_true_eq]
      exact ⟨fun z => z.2, fun z => ⟨z.elim (run_mem h.ra.r x) (run_mem h.rb.r x), z⟩⟩
    · exact .inr (.inr (.inl fun x => by simp))
    · exact .inr (.inr (.inr fun x => by simp)))
  exact ⟨k1, hs, k2⟩
theorem piece_ok {cat t : List Str} (hg : Good cat) (hs : t.Sublist cat) : t.length ≤ 30 ∧ ∀ x ∈ t, Sp x := ⟨by have := hs.length_le; have := hg.le; omega, fun x hx => hg.sp x (hs.mem hx)⟩
theorem pair_right_ok {n : Nat} {cat row a b : List Str} {Q : D → Nat → Prop} (ha : RunOf cat row a) (hb : RunOf cat row b) (q : Q (.bl true) n) : F_law_pair_right n [rowD cat row, shD cat row, tS a, tS b, .lst ((RT cat row).map tS)] Q := by
  have hz := sizeLine_eq
  have hg := ha.g
  have hp := ha.p
  have hle := hg.le
  have hal := ha.le
  have hbl := hb.le
  rw [F_law_pair_right_eq]; unfold runD W_law_pair_right
  simp only [startD, List.replicate, Bool.false_eq_true, if_false]
  refine sq_any (fun n' ρ' => n = n' ∧ ρ' = [.sh (rowD cat row), .sh (shD cat row), .sh (tS a), .sh (tS b), .sh (.lst ((RT cat row).map tS)), .sh (.bl (ovl a b)), .un, .un, .un, .un, .un, .un, .un]) (fun K hK => by law_fe; exact overlap_ok (by omega) (hK _ _ ⟨rfl, rfl⟩)) ?_
  rintro _ _ ⟨rfl, rfl⟩
  refine sq_any (fun n' ρ' => n = n' ∧ ρ' = [.sh (rowD cat row), .sh (shD cat row), .sh (tS a), .sh (tS b), .sh (.lst ((RT cat row).map tS)), .sh (.bl (ovl a b)), .un, .un, .un, .un, .un, .un, .un]) (fun K hK => ?_) ?_
  · refine if_any (fun k n' => k = false ∧ n = n') (fun K2 hK2 => ?_) (fun n' hh => by cases hh.1) (fun n' hh => by obtain ⟨_, rfl⟩ := hh; exact hK _ _ ⟨rfl, rfl⟩)
    law_fe
    refine p_overlap_ok ha hb (p_overlap_ok hb ha ?_)
    rw [ovl_comm ha hb]
    refine ⟨by decide, by decide, exact_ok (d := .lst [.bl (ovl a b), .bl (ovl a b)]) (plain_lst (k := 6) (by simp) fun d hd => ?_) ?_⟩
    · simp only [List.mem_cons, List.not_mem_nil, or_false, or_self] at hd
      subst hd
      exact plain_bl
    law_fe
    exact hK2 _ _ ⟨rfl, rfl⟩
  rintro _ _ ⟨rfl, rfl⟩
  refine sq_any (fun n' ρ' => n = n' ∧ ovl a b = true ∧ ρ' = [.sh (rowD cat row), .sh (shD cat row), .sh (tS a), .sh (tS b), .sh (.lst ((RT cat row).map tS)), .sh (.bl (ovl a b)), .un, .un, .un, .un, .un, .un, .un]) (fun K hK => ?_) ?_
  · law_fe
    cases z : ovl a b with
    | true =>
      rw [z] at hK
      exact hK _ _ ⟨rfl, rfl, rfl⟩
    | false => exact q
  rintro _ _ ⟨rfl, ho, rfl⟩
  have O : Ov cat row a b := ⟨ha, hb, ho⟩
  obtain ⟨bo1, bo2, bo3⟩ := O.piece (.inl rfl)
  obtain ⟨un1, un2, un3⟩ := O.piece (.inr (.inl rfl))
  obtain ⟨l1, l2, l3⟩ := O.piece (.inr (.inr (.inl rfl)))
  obtain ⟨r1, r2, r3⟩ := O.piece (.inr (.inr (.inr rfl)))
  refine sq_any (fun n' ρ' => n = n' ∧ ρ' = [.sh (rowD cat row), .sh (shD cat row), .sh (tS a), .sh (tS b), .sh (.lst ((RT cat row).map tS)), .sh (.bl (ovl a b)), .sh (lS (bth a b)), .sh (lS (uni cat a b)), .un, .un, .un, .un, .un]) (fun K hK => ?_) ?_
  · law_fe
    refine lcGo_filter (f := D.str) (p := fun x => decide (x ∈ b)) (by omega) (fun x hx K K0 hk hk0 => ?_) ?_
    · law_fe
      refine inA_tS ?_
      by_cases z : x ∈ b
      · rw [decide_eq_true z]; exact hk (by simpa using z)
      · rw [decide_eq_false z]; exact hk0 (by simpa using z)
    unfold rowD at *
    law_fe
    refine lcGo_filter (f := D.str) (p := fun x => decide (x ∈ a) || decide (x ∈ b)) (by omega) (fun x hx K K0 hk hk0 => ?_) ?_
    · law_fe
      refine inA_tS ?_
      by_cases z : x ∈ a
      · rw [decide_eq_true z]; exact hk (by simp [z])
      · rw [decide_eq_false z, if_neg Bool.false_ne_true]
        refine inA_tS ?_
        by_cases z2 : x ∈ b
        · rw [decide_eq_true z2]; exact hk (by simp [z2])
        · rw [decide_eq_false z2]; exact hk0 (by simp [z, z2])
    exact hK _ _ ⟨rfl, rfl⟩
  rintro _ _ ⟨rfl, rfl⟩
  refine sq_any (fun n' ρ' => n = n' ∧ ρ' = [.sh (rowD cat row), .sh (shD cat row), .sh (tS a), .sh (tS b), .sh (.lst ((RT cat row).map tS)), .sh (.bl (ovl a b)), .sh (lS (bth a b)), .sh (lS (uni cat a b)), .sh (.lst [tS (les a b), tS (les b a)]), .un, .un, .un, .un]) (fun K hK => ?_) ?_
  · law_fe
    refine lcGo_filter (f := D.str) (p := fun x => decide (x ∉ b)) (by omega) (fun x hx K K0 hk hk0 => ?_) ?_
    · law_fe
      refine inA_tS ?_
      by_cases z : x ∈ b
      · rw [decide_eq_true z]; exact hk0 (by simpa using z)
      · rw [decide_eq_false z]; exact hk (by simpa using z)
    refine lcGo_filter (f := D.str) (p := fun x => decide (x ∉ a)) (by omega) (fun x hx K K0 hk hk0 => ?_) ?_
    · law_fe
      refine inA_tS ?_
      by_cases z : x ∈ a
      · rw [decide_eq_true z]; exact hk0 (by simpa using z)
      · rw [decide_eq_false z]; exact hk (by simpa using z)
    exact ⟨by decide, hK _ _ ⟨rfl, rfl⟩⟩
  rintro _ _ ⟨rfl, rfl⟩
  have pl : ∀ {t : List Str}, t.Sublist cat → plainB 5 (tS t) = true := fun h => plain_tS (by have := (piece_ok hg h).1; omega) fun x hx => ((piece_ok hg h).2 x hx).ok
  have pr : ∀ {s t : List Str}, s.Sublist cat → t.Sublist cat → plainB 6 (.lst [tS s, tS t]) = true := fun h k => plain_lst (by simp) fun d hd => by
    rcases List.mem_cons.mp hd with rfl | hd
    · exact pl h
    · rw [List.mem_singleton] at hd; subst hd; exact pl k
  refine sq_any (fun n' ρ' => n = n' ∧ ∃ s9 s11, ρ' = [.sh (rowD cat row), .sh (shD cat row), .sh (tS a), .sh (tS b), .sh (.lst ((RT cat row).map tS)), .sh (.bl (ovl a b)), .sh (lS (bth a b)), .sh (lS (uni cat a b)), .sh (.lst [tS (les a b), tS (les b a)]), s9, .un, s11, .un]) (fun K hK => ?_) ?_
  · refine for_rng (fun i n' => n = n' ∧ i = (2 : Nat)) (fun K' hK' => by law_fe; exact hK' _ _ ⟨rfl, rfl⟩) ?_
    rintro _ _ ⟨rfl, rfl⟩
    refine ⟨by omega, ?_⟩
    rw [Int.toNat_natCast]
    refine forD_ind (fun i n' ρ' => n = n' ∧ ∃ s9 s11, ρ' = [.sh (rowD cat row), .sh (shD cat row), .sh (tS a), .sh (tS b), .sh (.lst ((RT cat row).map tS)), .sh (.bl (ovl a b)), .sh (lS (bth a b)), .sh (lS (uni cat a b)), .sh (.lst [tS (les a b), tS (les b a)]), s9, .un, s11, .un]) ?_ ?_ ⟨rfl, _, _, rfl⟩
    · rintro i d _ _ K1 hd ⟨rfl, s9, s11, rfl⟩ hK1
      obtain ⟨hi, rfl⟩ := rng_at hd
      simp only [tPat, List.set]
      unfold tSpoil
      refine ⟨by simp, ?_⟩
      law_fe
      refine meet_of_ok ha hb ho (union_of_ok ha hb ho (rests_of_ok ha hb ho (rests_of_ok hb ha O.sym.o ⟨by decide, ?_⟩)))
      unfold tSpIf
      law_fe
      refine ⟨by decide, exact_ok (d := .lst [tS (bth a b), tS (uni cat a b), .lst [tS (les a b), tS (les b a)], .lst [tS (les b a), tS (les a b)]]) (plain_lst (k := 6) (by simp) fun d hd => ?_) ?_⟩
      · simp only [List.mem_cons, List.not_mem_nil, or_false] at hd
        rcases hd with rfl | rfl | rfl | rfl
        · exact plain_up _ _ (pl bo2)
        · exact plain_up _ _ (pl un2)
        · exact pr l2 r2
        · exact pr r2 l2
      law_fe
      unfold tSpGo tSpApp tSpSet tSpEnd
      refine ⟨⟨rfl, _, rfl, by rw [hz]; simp⟩, ⟨rfl, _, rfl, by simp⟩, ?_⟩
      exact hK1 _ _ ⟨rfl, _, _, rfl⟩
    · rintro _ _ ⟨rfl, s9, s11, rfl⟩
      exact hK _ _ ⟨rfl, _, _, rfl⟩
  rintro _ _ ⟨rfl, s9, s11, rfl⟩
  refine sq_any (fun n' ρ' => n = n' ∧ ρ' = [.sh (rowD cat row), .sh (shD cat row), .sh (tS a), .sh (tS b), .sh (.lst ((RT cat row).map tS)), .sh (.bl (ovl a b)), .sh (lS (bth a b)), .sh (lS (uni cat a b)), .sh (.lst [tS (les a b), tS (les b a)]), s9, .un, s11, .un]) (fun K hK => ?_) ?_
  · refine if_any (fun k n' => k = false ∧ n = n') (fun K2 hK2 => ?_) (fun n' hh => by cases hh.1) (fun n' hh => by obtain ⟨_, rfl⟩ := hh; exact hK _ _ ⟨rfl, rfl⟩)
    law_fe
    refine meet_of_ok hb ha O.sym.o (union_of_ok hb ha O.sym.o ?_)
    rw [show (b.filter fun x => decide (x ∈ a)) = bth a b from O.bth, show (cat.filter fun x => decide (x ∈ b) || decide (x ∈ a)) = uni cat a b from uni_comm]
    refine ⟨by decide, by decide, exact_ok (d := .lst [tS (bth a b), tS (uni cat a b)]) (plain_up _ _ (pr bo2 un2)) ?_⟩
    law_fe
    exact hK2 _ _ ⟨rfl, rfl⟩
  rintro _ _ ⟨rfl, rfl⟩
  refine sq_any (fun n' ρ' => n = n') (fun K hK => ?_) ?_
  · refine for_lst (fun ds n' => n = n' ∧ ds = [bth a b, uni cat a b, les a b, les b a].map tS) (fun K' hK' => ?_) ?_
    · law_fe
      exact ⟨by decide, by decide, hK' _ _ ⟨rfl, rfl⟩⟩
    rintro _ _ ⟨rfl, rfl⟩
    refine forD_ind (fun i n' ρ' => n = n' ∧ ∃ s10, ρ' = [.sh (rowD cat row), .sh (shD cat row), .sh (tS a), .sh (tS b), .sh (.lst ((RT cat row).map tS)), .sh (.bl (ovl a b)), .sh (lS (bth a b)), .sh (lS (uni cat a b)), .sh (.lst [tS (les a b), tS (les b a)]), s9, s10, s11, .un]) ?_ ?_ ⟨rfl, _, rfl⟩
    · rintro i d _ _ K1 hd ⟨rfl, s10, rfl⟩ hK1
      rw [List.getElem?_map] at hd
      obtain ⟨t, ht1, rfl⟩ := Option.map_eq_some_iff.mp hd
      have ht := List.mem_of_getElem? ht1
      simp only [List.mem_cons, List.not_mem_nil, or_false] at ht
      obtain ⟨t1, t2, t3⟩ := O.piece ht
      obtain ⟨t4, t5⟩ := piece_ok hg t2
      have t0 : t.length ≠ 0 := fun z => t1 (List.length_eq_zero_iff.mp z)
      have hdec : decide (t ∈ runsL cat (rk cat row)) = decide (1 < t.length) := decide_eq_decide.mpr ⟨fun z => run_ne ha.sh z, t3⟩
      simp only [tPat, List.set]
      refine if_any (fun k n' => k = false ∧ n = n') (fun K2 hK2 => ?_) (fun n' hh => by cases hh.1) (fun n' hh => by obtain ⟨_, rfl⟩ := hh; exact hK1 _ _ ⟨rfl, _, rfl⟩)
      have fin : ∀ (K3 : Bool → Nat → Prop), K3 false n → F_is_run n [shD cat row, tS t] (fun d n1 => neD d (.bl (decide ((t.length : Int) > 1))) fun d => match d with | .bl k => K3 k n1 | _ => False) := fun K3 h3 => by
        refine is_run_ok hg hp t5 (by omega) ?_
        rw [hdec]
        refine eqA_bl ?_
        rw [show (decide (decide (1 < t.length) = decide ((t.length : Int) > 1))) = true from decide_eq_true (decide_eq_decide.mpr (by omega))]
        exact h3
      law_fe
      refine inA_tSs (fun x hx => (t5 x hx).ok) (fun u hu => (RT_run hg hp hu).ok) ?_
      rw [List.length_map]
      by_cases z : t ∈ RT cat row
      · rw [decide_eq_true z]
        law_fe
        exact fin _ (hK2 _ _ ⟨rfl, rfl⟩)
      · rw [decide_eq_false z]
        have h1 : t.length = 1 := by
          by_cases h : 1 < t.length
          · exact absurd (RT_mem.mpr (t3 h)) z
          · omega
        law_fe
        refine eqA_int ?_
        rw [h1]
        have := fin _ (hK2 _ _ ⟨rfl, rfl⟩)
        rw [h1] at this
        exact this
    · rintro _ _ ⟨rfl, s10, rfl⟩
      exact hK _ _ rfl
  rintro _ _ rfl
  exact q
end K11
namespace K11
open PySem PySem.Spec L2 DL PL
local macro_rules | `(tactic| law_fe) => `(tactic| simp only [tSeqD, tIfD, tSetD, tSetO, tRetD, tRetO, tNextD, tDropD, tNeverD, tBreakD, tForD, tLcD, tDcD, tItL, tItT, tItS, tRng1, tRng2, rngA1, rngA2, tEnum, enA, tZip, zpA, t2, t2N, tTst, tNotD, tOrD, tAndD, tAndVD, tOrVD, tNotVD, tIfE, tChnD, tVarD, tVarK, tCD, DL.tCall, tConsA, tConsK, tNilA, tFn, tMet, tMetD_eq, tMutD, tMutV, tFz, frzs, frz1, tLstD, tTupD, slot, startD, tPurIx, tPurSet, tBitsD, tParD, mkS, tMoveD, tAsgD, tPat, setShs, tSlD, tPartD, tNoD, tLenSetD, tRevD, tSetFld, tFldD, selfQ, allD, anyD, tSwapD, tSetIx, tUnD, tRetPur, purA, wipeD, lend, isStrB, isLst, DL.isObj, subD, mulD, modD, divD, powBD, gtD, leD, geD, joinD, sumD, optD, isinD, isiAs, optB, Bool.or_false, Bool.or_true, Bool.false_or, Bool.true_or, Bool.not_true, Bool.not_false, Option.some.injEq, isi_bool_non, isi_bool_bl, isi_bool_int, isi_bool_str, isi_bool_lst, isi_bool_tup, isi_bool_dct, isi_bool_obj, isi_int_non, isi_int_bl, isi_int_int, isi_int_str, isi_int_lst, isi_int_tup, isi_int_dct, isi_int_obj, isi_str_non, isi_str_bl, isi_str_int, isi_str_str, isi_str_lst, isi_str_tup, isi_str_dct, isi_str_obj, isi_list_non, isi_list_bl, isi_list_int, isi_list_str, isi_list_lst, isi_list_tup, isi_list_dct, isi_list_obj, isi_tuple_non, isi_tuple_bl, isi_tuple_int, isi_tuple_str, isi_tuple_lst, isi_tuple_tup, isi_tuple_dct, isi_tuple_obj, isi_dict_non, isi_dict_bl, isi_dict_int, isi_dict_str, isi_dict_lst, isi_dict_tup, isi_dict_dct, isi_dict_obj, isi_cl_non, isi_cl_bl, isi_cl_int, isi_cl_str, isi_cl_lst, isi_cl_tup, isi_cl_dct, isi_own, eqD, neD, ixE_lst, ixE_tup, ixE_str, inE_lst, inE_tup, inE_str, ninE_lst, ninE_tup, ninE_str, appendM, insertM, reverseM, clearM, keyA, keyK, List.set, List.length_cons, List.length_nil, List.replicate, List.cons_append, List.nil_append, List.append_nil, Bool.false_eq_true, if_false, if_true, true_and, and_true, true_or, or_true, tupleD_lst, tupleD_tup, ixD_two, lend_cons, lend1_sh, lend1_ow, lend1_pk, lend1_un, negD, fld_books, fld_order, fld_entries, fld_ranks, listE_lst, listE_tup, listE_str, lenD_lst, lenD_tup, lenD_str, lenD_scr, addD_int, addD_str, addD_lst, addD_tup, catD_lst, intA_int, intC_int, cmpA_int, ltD_int, ltD_str, intD_int, intD_bl, slD_lst, slD_tup, slD_scr, slD_str, minD_two, maxD_two, ixD_zero, ixD_one, false_or, or_false, Int.reduceEq, false_implies, true_implies, implies_true])
theorem for_src (G : List D → Nat → Prop) {src : SRC} {g : Pat} {tb : TDS} {E : DEnds} {n : Nat} {ρ : List Sl} (h : ∀ K : List D → Nat → Prop, (∀ ds n', G ds n' → K ds n') → src n ρ K) (q : ∀ ds n', G ds n' → forD g tb ds E n' ρ) : tForD src g tb E n ρ := h _ q
theorem zipD_map {α : Type} (f g : α → D) : ∀ xs : List α, zipD (xs.map f) (xs.map g) = xs.map fun x => .tup [f x, g x]
  | [] => rfl
  | x :: xs => by
    have := zipD_map f g xs
    unfold zipD at this ⊢
    simp only [List.map_cons, List.zip_cons_cons, this]
abbrev flt (cat row t : List Str) : List (List Str) := (RT cat row).filter fun u => ovl t u
abbrev hd1 (cat row t : List Str) : List Str := (flt cat row t).headD []
theorem hd_ov {cat row t : List Str} (h : RunOf cat row t) (hn : flt cat row t ≠ []) : Ov cat row t (hd1 cat row t) := by
  obtain ⟨u, us, e⟩ := List.exists_cons_of_ne_nil hn
  have hm : u ∈ flt cat row t := by rw [e]; exact List.mem_cons_self
  have e1 : hd1 cat row t = u := by unfold hd1; rw [e]; rfl
  rw [e1]
  obtain ⟨h1, h2⟩ := List.mem_filter.mp hm
  exact ⟨h, RT_run h.g h.p h1, h2⟩
abbrev fltD (cat row t : List Str) : D := .lst ((flt cat row t).map tS)
theorem right_ok {n : Nat} {Q : D → Nat → Prop} (hn : n + 4000000 < 2 ^ 40) (q : ∀ n', n' ≤ n + 1020000 → Q (.bl true) n') : F_law_right n [.purse] Q := by
  have hz := sizeLine_eq
  rw [F_law_right_eq]; unfold runD W_law_right
  simp only [startD, List.replicate, Bool.false_eq_true, if_false]
  refine sq_any (fun n' ρ' => n' ≤ n + 1000010 ∧ ∃ cat row, Good cat ∧ row.Perm cat ∧ cat.length ≤ 12 ∧ ρ' = [.sh .purse, .sh (rowD cat row), .un, .un, .un, .un, .un, .un, .un, .un, .un, .un, .un, .un, .un, .un]) (fun K hK => ?_) ?_
  · law_fe
    refine many_ok (by omega) fun m n1 h1 h2 hn1 => ?_
    exact world_ok (by omega) (by omega) (by omega) fun cat row n2 hg hc hp hn2 => hK _ _ ⟨by omega, cat, row, hg, hp, by omega, rfl⟩
  rintro n1 _ ⟨hn1, cat, row, hg, hp, hc12, rfl⟩
  have hs := hg.sh hp
  have hpl := hp.length_eq
  have hrl := RT_len hg hp
  refine sq_any (fun n' ρ' => n1 = n' ∧ ρ' = [.sh .purse, .sh (rowD cat row), .sh (shD cat row), .sh (.lst ((RT cat row).map tS)), .un, .un, .un, .un, .un, .un, .un, .un, .un, .un, .un, .un]) (fun K hK => ?_) ?_
  · law_fe
    exact shelf_ok hg hp (law_runs_ok hg hp (hK _ _ ⟨rfl, rfl⟩))
  rintro _ _ ⟨rfl, rfl⟩
  refine sq_any (fun n' ρ' => n' ≤ n1 + 10000 ∧ ∃ us : List (List Str), us.length ≤ 10000 ∧ (∀ t ∈ us, RunOf cat row t) ∧ ρ' = [.sh .purse, .sh (rowD cat row), .sh (shD cat row), .sh (.lst ((RT cat row).map tS)), .sh (.lst (us.map tS)), .un, .un, .un, .un, .un, .un, .un, .un, .un, .un, .un]) (fun K hK => ?_) ?_
  · law_fe
    refine shuf_ok tS (by omega) (by omega) fun us n' hpu hn' => ?_
    law_fe
    rw [cutD_map]
    have hsub : ((us.drop (HT.sIx us.length 0 none)).take (HT.sIx us.length us.length (some 30) - HT.sIx us.length 0 none)).Sublist us := (List.take_sublist _ _).trans (List.drop_sublist _ _)
    exact hK _ _ ⟨by omega, _, by have := hsub.length_le; have := hpu.length_eq; omega, fun t ht => RT_run hg hp (hpu.mem_iff.mp (hsub.mem ht)), rfl⟩
  rintro n2 _ ⟨hn2, us, hul, hus, rfl⟩
  have fl : ∀ t, (flt cat row t).length ≤ 10000 := fun t => Nat.le_trans (List.length_filter_le _ _) hrl
  have fr : ∀ t s, s ∈ flt cat row t → RunOf cat row s := fun t s h => RT_run hg hp (List.mem_filter.mp h).1
  have fp : ∀ t, plainB 6 (fltD cat row t) = true := fun t => plain_runs (k := 4) hg hp (by have := fl t; omega) fun s hs' => (fr t s hs').r
  have step : ∀ (t : List Str), RunOf cat row t → ∀ s ∈ RT cat row, ∀ (K K0 : Nat → Prop) (m : Nat), (ovl t s = true → K m) → (ovl t s = false → K0 m) → F_law_overlap m [tS t, tS s] fun d n1 => match d with | .bl k => (if k = true then K n1 else K0 n1) | _ => False := fun t h s hs' K K0 m hk hk0 => by
    refine overlap_ok (by have := h.le; omega) ?_
    cases z : ovl t s with
    | true => exact hk z
    | false => exact hk0 z
  refine sq_any (fun n' ρ' => n2 = n' ∧ ρ' = [.sh .purse, .sh (rowD cat row), .sh (shD cat row), .sh (.lst ((RT cat row).map tS)), .sh (.lst (us.map tS)), .sh (.lst (us.map (fltD cat row))), .un, .un, .un, .un, .un, .un, .un, .un, .un, .un]) (fun K hK => ?_) ?_
  · law_fe
    refine lcGo_map (f := fltD cat row) (by omega) (fun t ht K2 hK2 => ?_) (hK _ _ ⟨rfl, rfl⟩)
    law_fe
    refine lcGo_filter (f := tS) (p := fun s => ovl t s) (by omega) (fun s hs' K3 K0 hk hk0 => ?_) hK2
    law_fe
    exact step t (hus t ht) s hs' (fun n1 => K3 (tS s) n1) K0 n2 hk hk0
  rintro _ _ ⟨rfl, rfl⟩
  refine sq_any (fun n' ρ' => n2 = n' ∧ ρ' = [.sh .purse, .sh (rowD cat row), .sh (shD cat row), .sh (.lst ((RT cat row).map tS)), .sh (.lst (us.map tS)), .sh (.lst (us.map (fltD cat row))), .un, .un, .un, .un, .un, .un, .un, .un, .un, .un]) (fun K hK => ?_) ?_
  · refine if_any (fun k n' => k = false ∧ n2 = n') (fun K2 hK2 => ?_) (fun n' hh => by cases hh.1) (fun n' hh => by obtain ⟨_, rfl⟩ := hh; exact hK _ _ ⟨rfl, rfl⟩)
    law_fe
    refine lcGo_map (f := fltD cat row) (by omega) (fun t ht K3 hK3 => ?_) ?_
    · law_fe
      exact overlapping_ok (hus t ht) hK3
    refine exact_ok (plain_lst (k := 6) (by rw [List.length_map]; omega) fun d hd => ?_) ?_
    · obtain ⟨t, ht, rfl⟩ := List.mem_map.mp hd
      exact fp t
    law_fe
    exact hK2 _ _ ⟨rfl, rfl⟩
  rintro _ _ ⟨rfl, rfl⟩
  refine sq_any (fun n' ρ' => n2 = n' ∧ ∃ vs : List (List Str), vs.length ≤ 10000 ∧ (∀ t ∈ vs, Ov cat row t (hd1 cat row t)) ∧ ρ' = [.sh .purse, .sh (rowD cat row), .sh (shD cat row), .sh (.lst ((RT cat row).map tS)), .sh (.lst (us.map tS)), .sh (.lst (us.map (fltD cat row))), .sh (.lst (vs.map fun t => .tup [tS t, tS (hd1 cat row t)])), .un, .un, .un, .un, .un, .un, .un, .un, .un]) (fun K hK => ?_) ?_
  · simp only [tSetD, tSlD, tLcD, tZipA, tVarK, slot, zpB, zipD_map]
    law_fe
    refine lcGo_filter (c := fun t => .tup [tS t, fltD cat row t]) (f := fun t => .tup [tS t, tS (hd1 cat row t)]) (p := fun t => decide (flt cat row t ≠ [])) (by omega) (fun t ht K3 K0 hk hk0 => ?_) ?_
    · law_fe
      refine ⟨by decide, ?_⟩
      refine eqA_tSs (b := []) (fun s hs' => (fr t s hs').ok) (fun s hs' => by cases hs') ?_
      cases e : flt cat row t with
      | nil => exact hk0 (by simpa using e)
      | cons u r =>
        have e1 : hd1 cat row t = u := by unfold hd1; rw [e]; rfl
        rw [show (!decide (u :: r = [])) = true from rfl, if_pos rfl]
        refine ix_nat (i := 0) (d := tS u) (by omega) rfl ?_
        refine ⟨by decide, ?_⟩
        have := hk (by rw [e]; rfl)
        rw [e1] at this
        exact this
    · rw [cutD_map]
      generalize hW : us.filter (fun t => decide (flt cat row t ≠ [])) = ws
      have hsub : ((ws.drop (HT.sIx ws.length 0 none)).take (HT.sIx ws.length ws.length (some 6) - HT.sIx ws.length 0 none)).Sublist ws := (List.take_sublist _ _).trans (List.drop_sublist _ _)
      have hwl : ws.length ≤ us.length := by rw [← hW]; exact List.length_filter_le _ _
      refine hK _ _ ⟨rfl, _, by have := hsub.length_le; omega, fun t ht => ?_, rfl⟩
      have := hsub.mem ht
      rw [← hW] at this
      obtain ⟨k1, k2⟩ := List.mem_filter.mp this
      exact hd_ov (hus t k1) (by simpa using k2)
  rintro _ _ ⟨rfl, vs, hvl, hvs, rfl⟩
  have restD : ∀ t ∈ vs, plainB 7 (.lst [tS (les t (hd1 cat row t)), tS (les (hd1 cat row t) t)]) = true := fun t ht => by
    obtain ⟨_, l2, _⟩ := (hvs t ht).piece (.inr (.inr (.inl rfl)))
    obtain ⟨_, r2, _⟩ := (hvs t ht).piece (.inr (.inr (.inr rfl)))
    refine plain_lst (k := 6) (by simp) fun d hd => ?_
    rcases List.mem_cons.mp hd with rfl | hd
    · exact plain_tS (by have := (piece_ok hg l2).1; omega) fun x hx => ((piece_ok hg l2).2 x hx).ok
    · rw [List.mem_singleton] at hd; subst hd
      exact plain_tS (by have := (piece_ok hg r2).1; omega) fun x hx => ((piece_ok hg r2).2 x hx).ok
  refine sq_any (fun n' ρ' => n2 = n' ∧ ρ' = [.sh .purse, .sh (rowD cat row), .sh (shD cat row), .sh (.lst ((RT cat row).map tS)), .sh (.lst (us.map tS)), .sh (.lst (us.map (fltD cat row))), .sh (.lst (vs.map fun t => .tup [tS t, tS (hd1 cat row t)])), .ow (.lst (vs.map fun t => .lst [tS (les t (hd1 cat row t)), tS (les (hd1 cat row t) t)])), .un, .un, .un, .un, .un, .un, .un, .un]) (fun K hK => ?_) ?_
  · law_fe
    refine lcGo_map (c := fun t => .tup [tS t, tS (hd1 cat row t)]) (f := fun t => .lst [tS (les t (hd1 cat row t)), tS (les (hd1 cat row t) t)]) (by omega) (fun t ht K3 hK3 => ?_) (hK _ _ ⟨rfl, rfl⟩)
    law_fe
    exact rests_of_ok (hvs t ht).ra (hvs t ht).rb (hvs t ht).o hK3
  rintro _ _ ⟨rfl, rfl⟩
  refine sq_any (fun n' ρ' => n2 = n' ∧ ∃ s7 s8 s9 s10 s11 s12, ρ' = [.sh .purse, .sh (rowD cat row), .sh (shD cat row), .sh (.lst ((RT cat row).map tS)), .sh (.lst (us.map tS)), .sh (.lst (us.map (fltD cat row))), .sh (.lst (vs.map fun t => .tup [tS t, tS (hd1 cat row t)])), s7, s8, s9, s10, s11, s12, .un, .un, .un]) (fun K hK => ?_) ?_
  · unfold tFz frzs frzs frz1
    simp only [slot, List.set]
    refine for_src (fun ds n' => n2 = n' ∧ ds = vs.map fun t => .tup [.lst [tS (les t (hd1 cat row t)), tS (les (hd1 cat row t) t)], .tup [tS t, tS (hd1 cat row t)]]) (fun K2 hK2 => ?_) ?_
    · simp only [tZip, tVarD, slot, zpA, zipD_map]
      exact hK2 _ _ ⟨rfl, rfl⟩
    rintro _ _ ⟨rfl, rfl⟩
    refine forD_ind (fun i n' ρ' => n2 = n' ∧ ∃ s7 s8 s9 s10 s11 s12, ρ' = [.sh .purse, .sh (rowD cat row), .sh (shD cat row), .sh (.lst ((RT cat row).map tS)), .sh (.lst (us.map tS)), .sh (.lst (us.map (fltD cat row))), .sh (.lst (vs.map fun t => .tup [tS t, tS (hd1 cat row t)])), s7, s8, s9, s10, s11, s12, .un, .un, .un]) ?_ ?_ ⟨rfl, _, _, _, _, _, _, rfl⟩
    · rintro i d _ _ K1 hd ⟨rfl, s7, s8, s9, s10, s11, s12, rfl⟩ hK1
      rw [List.getElem?_map] at hd
      obtain ⟨t, ht1, rfl⟩ := Option.map_eq_some_iff.mp hd
      have ht := List.mem_of_getElem? ht1
      have O := hvs t ht
      have ht30 := O.ra.le
      have hu30 := O.rb.le
      have hrd := restD t ht
      generalize hd1 cat row t = u at *
      simp only [tPat, List.length_cons, List.length_nil, true_and, setShs, List.set]
      refine sq_any (fun n' ρ' => n2 = n' ∧ ρ' = [.sh .purse, .sh (rowD cat row), .sh (shD cat row), .sh (.lst ((RT cat row).map tS)), .sh (.lst (us.map tS)), .sh (.lst (us.map (fltD cat row))), .sh (.lst (vs.map fun t => .tup [tS t, tS (hd1 cat row t)])), s7, .sh (.lst [tS (les t u), tS (les u t)]), .sh (.tup [tS t, tS u]), .sh (tS t), .sh (tS u), s12, .un, .un, .un]) (fun K3 hK3 => ?_) ?_
      · law_fe
        exact hK3 _ _ ⟨rfl, rfl⟩
      rintro _ _ ⟨rfl, rfl⟩
      refine sq_any (fun n' ρ' => n2 = n' ∧ ρ' = [.sh .purse, .sh (rowD cat row), .sh (shD cat row), .sh (.lst ((RT cat row).map tS)), .sh (.lst (us.map tS)), .sh (.lst (us.map (fltD cat row))), .sh (.lst (vs.map fun t => .tup [tS t, tS (hd1 cat row t)])), s7, .sh (.lst [tS (les t u), tS (les u t)]), .sh (.tup [tS t, tS u]), .sh (tS t), .sh (tS u), .sh (.lst [tS (les t u), tS (les u t)]), .un, .un, .un]) (fun K3 hK3 => ?_) ?_
      · law_fe
        refine lcGo_filter (f := D.str) (p := fun x => decide (x ∉ u)) (by omega) (fun x hx K K0 hk hk0 => ?_) ?_
        · law_fe
          refine inA_tS ?_
          by_cases z : x ∈ u
          · rw [decide_eq_true z]; exact hk0 (by simpa using z)
          · rw [decide_eq_false z]; exact hk (by simpa using z)
        refine lcGo_filter (f := D.str) (p := fun x => decide (x ∉ t)) (by omega) (fun x hx K K0 hk hk0 => ?_) ?_
        · law_fe
          refine inA_tS ?_
          by_cases z : x ∈ t
          · rw [decide_eq_true z]; exact hk0 (by simpa using z)
          · rw [decide_eq_false z]; exact hk (by simpa using z)
        exact ⟨by decide, hK3 _ _ ⟨rfl, rfl⟩⟩
      rintro _ _ ⟨rfl, rfl⟩
      refine if_any (fun k n' => k = false ∧ n2 = n') (fun K2 hK2 => ?_) (fun n' hh => by cases hh.1) (fun n' hh => by obtain ⟨_, rfl⟩ := hh; exact hK1 _ _ ⟨rfl, _, _, _, _, _, _, rfl⟩)
      law_fe
      refine exact_ok hrd ?_
      law_fe
      exact hK2 _ _ ⟨rfl, rfl⟩
    · rintro _ _ ⟨rfl, s7, s8, s9, s10, s11, s12, rfl⟩
      exact hK _ _ ⟨rfl, _, _, _, _, _, _, rfl⟩
  rintro _ _ ⟨rfl, s7, s8, s9, s10, s11, s12, rfl⟩
  generalize (us.map (fltD cat row)) = DD
  generalize (vs.map fun t => D.tup [tS t, tS (hd1 cat row t)]) = TT
  refine sq_any (fun n' ρ' => n2 = n' ∧ ∃ s7 s10 s11 s13 s14, ρ' = [.sh .purse, .sh (rowD cat row), .sh (shD cat row), .sh (.lst ((RT cat row).map tS)), .sh (.lst (us.map tS)), .sh (.lst DD), .sh (.lst TT), s7, s8, s9, s10, s11, s12, s13, s14, .un]) (fun K hK => ?_) ?_
  · refine for_lst (fun ds n' => n2 = n' ∧ ds = us.map tS) (fun K' hK' => by law_fe; exact hK' _ _ ⟨rfl, rfl⟩) ?_
    rintro _ _ ⟨rfl, rfl⟩
    refine forD_ind (fun i n' ρ' => n2 = n' ∧ ∃ s7 s10 s11 s13 s14, ρ' = [.sh .purse, .sh (rowD cat row), .sh (shD cat row), .sh (.lst ((RT cat row).map tS)), .sh (.lst (us.map tS)), .sh (.lst DD), .sh (.lst TT), s7, s8, s9, s10, s11, s12, s13, s14, .un]) ?_ ?_ ⟨rfl, _, _, _, _, _, rfl⟩
    · rintro i d _ _ K1 hd ⟨rfl, s7, s10, s11, s13, s14, rfl⟩ hK1
      rw [List.getElem?_map] at hd
      obtain ⟨t, ht1, rfl⟩ := Option.map_eq_some_iff.mp hd
      have hR := hus t (List.mem_of_getElem? ht1)
      simp only [tPat, List.set]
      refine sq_any (fun n' ρ' => n2 = n' ∧ ∃ s11, ρ' = [.sh .purse, .sh (rowD cat row), .sh (shD cat row), .sh (.lst ((RT cat row).map tS)), .sh (.lst (us.map tS)), .sh (.lst DD), .sh (.lst TT), s7, s8, s9, .sh (tS t), s11, s12, .sh (fltD cat row t), s14, .un]) (fun K3 hK3 => ?_) ?_
      · law_fe
        refine lcGo_filter (f := tS) (p := fun s => ovl t s) (by omega) (fun s hs' K3 K0 hk hk0 => ?_) (hK3 _ _ ⟨rfl, _, rfl⟩)
        law_fe
        exact step t hR s hs' (fun n1 => K3 (tS s) n1) K0 n2 hk hk0
      rintro _ _ ⟨rfl, s11, rfl⟩
      refine sq_any (fun n' ρ' => n2 = n' ∧ ∃ s7 s14, ρ' = [.sh .purse, .sh (rowD cat row), .sh (shD cat row), .sh (.lst ((RT cat row).map tS)), .sh (.lst (us.map tS)), .sh (.lst DD), .sh (.lst TT), s7, s8, s9, .sh (tS t), s11, s12, .sh (fltD cat row t), s14, .un]) (fun K3 hK3 => ?_) ?_
      · refine for_rng (fun i n' => n2 = n' ∧ i = (2 : Nat)) (fun K' hK' => by law_fe; exact hK' _ _ ⟨rfl, rfl⟩) ?_
        rintro _ _ ⟨rfl, rfl⟩
        refine ⟨by omega, ?_⟩
        rw [Int.toNat_natCast]
        refine forD_ind (fun i n' ρ' => n2 = n' ∧ ∃ s7 s14, ρ' = [.sh .purse, .sh (rowD cat row), .sh (shD cat row), .sh (.lst ((RT cat row).map tS)), .sh (.lst (us.map tS)), .sh (.lst DD), .sh (.lst TT), s7, s8, s9, .sh (tS t), s11, s12, .sh (fltD cat row t), s14, .un]) ?_ ?_ ⟨rfl, _, _, rfl⟩
        · rintro i d _ _ K4 hd ⟨rfl, s7, s14, rfl⟩ hK4
          obtain ⟨hi, rfl⟩ := rng_at hd
          simp only [tPat, List.set]
          refine sq_any (fun n' ρ' => n2 = n' ∧ ∃ s14, ρ' = [.sh .purse, .sh (rowD cat row), .sh (shD cat row), .sh (.lst ((RT cat row).map tS)), .sh (.lst (us.map tS)), .sh (.lst DD), .sh (.lst TT), .ow (fltD cat row t), s8, s9, .sh (tS t), s11, s12, .sh (fltD cat row t), s14, .un]) (fun K3 hK3 => by law_fe; exact overlapping_ok hR (hK3 _ _ ⟨rfl, _, rfl⟩)) ?_
          rintro _ _ ⟨rfl, s14, rfl⟩
          refine sq_any (fun n' ρ' => n2 = n' ∧ ρ' = [.sh .purse, .sh (rowD cat row), .sh (shD cat row), .sh (.lst ((RT cat row).map tS)), .sh (.lst (us.map tS)), .sh (.lst DD), .sh (.lst TT), .ow (fltD cat row t), s8, s9, .sh (tS t), s11, s12, .sh (fltD cat row t), s14, .un]) (fun K3 hK3 => ?_) ?_
          · refine if_any (fun k n' => k = false ∧ n2 = n') (fun K2 hK2 => ?_) (fun n' hh => by cases hh.1) (fun n' hh => by obtain ⟨_, rfl⟩ := hh; exact hK3 _ _ ⟨rfl, rfl⟩)
            law_fe
            refine exact_ok (plain_up _ _ (fp t)) ?_
            law_fe
            exact hK2 _ _ ⟨rfl, rfl⟩
          rintro _ _ ⟨rfl, rfl⟩
          law_fe
          have := fl t
          exact ⟨by rw [List.length_map]; omega, hK4 _ _ ⟨rfl, _, _, rfl⟩⟩
        · rintro _ _ ⟨rfl, s7, s14, rfl⟩
          exact hK3 _ _ ⟨rfl, _, _, rfl⟩
      rintro _ _ ⟨rfl, s7, s14, rfl⟩
      refine for_lst (fun ds n' => n2 = n' ∧ ds = us.map tS) (fun K' hK' => by law_fe; exact hK' _ _ ⟨rfl, rfl⟩) ?_
      rintro _ _ ⟨rfl, rfl⟩
      refine forD_ind (fun i n' ρ' => n2 = n' ∧ ∃ s11, ρ' = [.sh .purse, .sh (rowD cat row), .sh (shD cat row), .sh (.lst ((RT cat row).map tS)), .sh (.lst (us.map tS)), .sh (.lst DD), .sh (.lst TT), s7, s8, s9, .sh (tS t), s11, s12, .sh (fltD cat row t), s14, .un]) ?_ ?_ ⟨rfl, _, rfl⟩
      · rintro i d _ _ K4 hd ⟨rfl, s11, rfl⟩ hK4
        rw [List.getElem?_map] at hd
        obtain ⟨u, hu1, rfl⟩ := Option.map_eq_some_iff.mp hd
        have hU := hus u (List.mem_of_getElem? hu1)
        simp only [tPat, List.set]
        refine if_any (fun k n' => k = false ∧ n2 = n') (fun K2 hK2 => ?_) (fun n' hh => by cases hh.1) (fun n' hh => by obtain ⟨_, rfl⟩ := hh; exact hK4 _ _ ⟨rfl, _, rfl⟩)
        law_fe
        refine pair_right_ok hR hU ?_
        law_fe
        exact hK2 _ _ ⟨rfl, rfl⟩
      · rintro _ _ ⟨rfl, s11, rfl⟩
        exact hK1 _ _ ⟨rfl, _, _, _, _, _, rfl⟩
    · rintro _ _ ⟨rfl, s7, s10, s11, s13, s14, rfl⟩
      exact hK _ _ ⟨rfl, _, _, _, _, _, rfl⟩
  rintro _ _ ⟨rfl, s7, s10, s11, s13, s14, rfl⟩
  law_fe
  exact unspoilt_ok hg hp (q _ (by omega))
theorem law_ok {ns : List Int} (hl : ns.length ≤ 63) : F_law 0 [.scr ns] (fun d _ => d = .bl true) := by
  have hz := sizeLine_eq
  rw [F_law_eq]; unfold runD W_law
  simp only [startD, List.replicate, Bool.false_eq_true, if_false]
  refine sq_any (fun n' ρ' => ∃ s1, ρ' = [.sh (.scr ns), s1]) (fun K hK => ?_) ?_
  · refine for_lst (fun ds n' => n' = 0 ∧ ∃ k, k ≤ 2 ∧ ds = List.replicate k .purse) (fun K' hK' => ?_) ?_
    · law_fe
      exact purses_ok fun k hk => hK' _ _ ⟨rfl, k, hk, rfl⟩
    rintro _ _ ⟨rfl, k, hk, rfl⟩
    refine forD_ind (fun i n' ρ' => n' ≤ 3000000 * i ∧ ∃ s1, ρ' = [.sh (.scr ns), s1]) ?_ ?_ ⟨by omega, _, rfl⟩
    · rintro i d n1 ρ K' hd ⟨hn1, s1, rfl⟩ hK'
      have hi : i < k := by
        obtain ⟨z, _⟩ := List.getElem?_eq_some_iff.mp hd
        simpa using z
      have : d = .purse := List.eq_of_mem_replicate (List.mem_of_getElem? hd)
      subst this
      simp only [tPat, List.set]
      refine if_any (fun k n' => k = false ∧ n' ≤ n1 + 1020000) (fun K4 hK4 => ?_) (fun n' hh => by cases hh.1) (fun n' hh => hK' _ _ ⟨by omega, _, rfl⟩)
      law_fe
      refine right_ok (by omega) fun n' hn' => ?_
      law_fe
      exact hK4 _ _ ⟨rfl, hn'⟩
    · rintro n1 ρ ⟨hn1, s1, rfl⟩
      exact hK _ _ ⟨_, rfl⟩
  rintro n _ ⟨s1, rfl⟩
  law_fe
end K11
theorem PySem.Challenge.cw_runturns_k11_whole_runs_that_overlap_holds : PySem.Challenge.rw_runturns_k11_whole_runs_that_overlap.Holds := by
  exact K11.holds fun ns h => K11.law_ok h
