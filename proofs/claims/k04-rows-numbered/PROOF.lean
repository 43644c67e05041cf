import PyProof.Rows.All
import Wide.All
import OpenK.AllK
import Wide.FinOn
import HandS.ForMost
import HandS.ForExc
import HandS.Wide
import HandS.IsInst
import HandS.TupAny
import HandS.Style
import HandS.TupMul
import HandS.WideBits
import HandS.Flow
import HandS.Walk
import HandS.SortInts
import HandS.Conv
import HandS.Zip
import HandS.CallSlots
import HandS.Defaults
import HandS.Ends
import PySem.Challenge.RW_tallyloom_k04_rows_numbered
set_option Elab.async false
set_option linter.all false
set_option autoImplicit false
set_option maxRecDepth 100000
set_option maxHeartbeats 4000000
/-! DV: data without a heap over the hand layer; each construct compiles to a plain function over data states. -/
namespace DV
open PySem L2

inductive D where
  | v (x : V)
  | lst (xs : List D)
  | tup (xs : List D)
instance : Inhabited D := ⟨.v .non⟩
abbrev D.int (i : Int) : D := .v (.int i)
abbrev D.bl (b : Bool) : D := .v (.bl b)
abbrev D.str (s : Str) : D := .v (.str s)
abbrev D.non : D := .v .non

/-- an exception: its class, its fields -/
structure Exn where
  cls : Value
  fs : List (Str × D)

inductive Res (α : Type) where
  | ok (a : α)
  | er (x : Exn)
  | no
def Res.bind {α β : Type} : Res α → (α → Res β) → Res β
  | .ok a, f => f a
  | .er x, _ => .er x
  | .no, _ => .no
@[simp] theorem Res.bind_ok {α β : Type} (a : α) (f : α → Res β) : (Res.ok a).bind f = f a := rfl
@[simp] theorem Res.bind_er {α β : Type} (x : Exn) (f : α → Res β) : (Res.er x : Res α).bind f = .er x := rfl
@[simp] theorem Res.bind_no {α β : Type} (f : α → Res β) : (Res.no : Res α).bind f = .no := rfl

mutual
inductive Rp (K : PySem.W.Frag) (B : Hp) : V → D → Prop
  | v (x : V) : Rp K B x (.v x)
  | lst {a : Addr} {xs : List V} {ds : List D} : SqL K B a xs → RpA K B xs ds → Rp K B (.ref a) (.lst ds)
  | tup {a : Addr} {xs : List V} {ds : List D} : SqT K B a xs → RpA K B xs ds → Rp K B (.ref a) (.tup ds)
inductive RpA (K : PySem.W.Frag) (B : Hp) : List V → List D → Prop
  | nil : RpA K B [] []
  | cons {v : V} {vs : List V} {d : D} {ds : List D} : Rp K B v d → RpA K B vs ds → RpA K B (v :: vs) (d :: ds)
end

theorem sqT_mono {K : PySem.W.Frag} {H H' : Hp} {a : Addr} {xs : List V} (e : Same H H') (h : SqT K H a xs) : SqT K H' a xs := by
  rcases h with (h | ⟨o, h⟩) | h
  · exact .inl (.inl (e _ _ h))
  · exact .inl (.inr ⟨o, e _ _ h⟩)
  · exact .inr h

section
variable {K : PySem.W.Frag} {B B' H H' : Hp}
mutual
theorem Rp.mono (e : Same B B') : ∀ {v : V} {d : D}, Rp K B v d → Rp K B' v d
  | _, _, .v x => .v x
  | _, _, .lst h r => .lst (e.seq h) (RpA.mono e r)
  | _, _, .tup h r => .tup (sqT_mono e h) (RpA.mono e r)
theorem RpA.mono (e : Same B B') : ∀ {vs : List V} {ds : List D}, RpA K B vs ds → RpA K B' vs ds
  | _, _, .nil => .nil
  | _, _, .cons h r => .cons (Rp.mono e h) (RpA.mono e r)
end
theorem RpA.length : ∀ {vs : List V} {ds : List D}, RpA K B vs ds → vs.length = ds.length
  | _, _, .nil => rfl
  | _, _, .cons _ r => by simp [RpA.length r]
theorem RpA.append : ∀ {vs us : List V} {ds es : List D}, RpA K B vs ds → RpA K B us es → RpA K B (vs ++ us) (ds ++ es)
  | _, _, _, _, .nil, s => s
  | _, _, _, _, .cons h r, s => .cons h (RpA.append r s)
theorem RpA.get : ∀ {vs : List V} {ds : List D} {i : Nat} {d : D}, RpA K B vs ds → ds[i]? = some d → ∃ v, vs[i]? = some v ∧ Rp K B v d
  | _, _, _, _, .nil, e => by simp at e
  | _, _, 0, _, .cons h _, e => by simp at e; subst e; exact ⟨_, rfl, h⟩
  | _, _, i + 1, _, .cons _ r, e => by
    obtain ⟨v, h1, h2⟩ := RpA.get (i := i) r (by simpa using e)
    exact ⟨v, by simpa using h1, h2⟩
theorem RpA.get' : ∀ {vs : List V} {ds : List D} {i : Nat} {v : V}, RpA K B vs ds → vs[i]? = some v → ∃ d, ds[i]? = some d ∧ Rp K B v d
  | _, _, _, _, .nil, e => by simp at e
  | _, _, 0, _, .cons h _, e => by simp at e; subst e; exact ⟨_, rfl, h⟩
  | _, _, i + 1, _, .cons _ r, e => by
    obtain ⟨v, h1, h2⟩ := RpA.get' (i := i) r (by simpa using e)
    exact ⟨v, by simpa using h1, h2⟩
theorem RpA.drop : ∀ {vs : List V} {ds : List D} (n : Nat), RpA K B vs ds → RpA K B (vs.drop n) (ds.drop n)
  | _, _, 0, r => by simpa using r
  | _, _, _ + 1, .nil => by simpa using RpA.nil
  | _, _, n + 1, .cons _ r => by simpa using RpA.drop n r
theorem RpA.take : ∀ {vs : List V} {ds : List D} (n : Nat), RpA K B vs ds → RpA K B (vs.take n) (ds.take n)
  | _, _, 0, _ => by simpa using RpA.nil
  | _, _, _ + 1, .nil => by simpa using RpA.nil
  | _, _, n + 1, .cons h r => by simpa using RpA.cons h (RpA.take n r)
theorem RpA.reverse : ∀ {vs : List V} {ds : List D}, RpA K B vs ds → RpA K B vs.reverse ds.reverse
  | _, _, .nil => .nil
  | _, _, .cons h r => by
    rw [List.reverse_cons, List.reverse_cons]
    exact (RpA.reverse r).append (.cons h .nil)
theorem RpA.set : ∀ {vs : List V} {ds : List D} {v : V} {d : D} (i : Nat), RpA K B vs ds → Rp K B v d → RpA K B (vs.set i v) (ds.set i d)
  | _, _, _, _, _, .nil, _ => .nil
  | _, _, _, _, 0, .cons _ r, q => .cons q r
  | _, _, _, _, i + 1, .cons h r, q => .cons h (RpA.set i r q)
theorem RpA.map {α : Type} (f : α → V) (g : α → D) : ∀ {l : List α}, (∀ a ∈ l, Rp K B (f a) (g a)) → RpA K B (l.map f) (l.map g)
  | [], _ => .nil
  | a :: l, h => .cons (h a (by simp)) (RpA.map f g fun b hb => h b (by simp [hb]))
theorem RpA.ints (ns : List Int) : RpA K B (ns.map V.int) (ns.map D.int) := RpA.map _ _ fun a _ => .v _
/-- ints are ints -/
theorem RpA.ints_of : ∀ {ns : List Int} {vs : List V}, RpA K B vs (ns.map D.int) → vs = ns.map V.int
  | [], _, .nil => rfl
  | n :: ns, _, .cons h r => by
    cases h
    rw [RpA.ints_of r]
    rfl
theorem RpA.bls_of : ∀ {bs : List Bool} {vs : List V}, RpA K B vs (bs.map D.bl) → vs = bs.map V.bl
  | [], _, .nil => rfl
  | n :: ns, _, .cons h r => by
    cases h
    rw [RpA.bls_of r]
    rfl

/-- the frozen heap B and the heap H grow -/
structure Grow (B H B' H' : Hp) : Prop where
  b : Same B B'
  h : Same H H'
  i : Same B' H'
  f : ∀ a, H a ≠ none → B' a = B a
theorem Grow.refl (i : Same B H) : Grow B H B H := ⟨Same.refl _, Same.refl _, i, fun _ _ => rfl⟩
theorem Grow.trans {B1 H1 B2 H2 : Hp} (g : Grow B H B1 H1) (k : Grow B1 H1 B2 H2) : Grow B H B2 H2 :=
  ⟨g.b.trans k.b, g.h.trans k.h, k.i, fun a ha => by
    have h1 : H1 a ≠ none := by
      cases e : H a with
      | none => exact absurd e ha
      | some o => rw [g.h a o e]; simp
    rw [k.f a h1, g.f a ha]⟩
theorem same_new {H : Hp} {p : Addr} {o : HO} (h : H p = none) : Same H (upd H p o) := fun a u e => by
  rw [upd_ne (ne_of_none e h)]
  exact e
theorem Grow.new {p : Addr} {o : HO} (i : Same B H) (hp : H p = none) : Grow B H (upd B p o) (upd H p o) :=
  ⟨same_new (i.free hp), same_new hp, fun a u e => by
    by_cases ha : a = p
    · subst ha; rw [upd_same] at e; cases e; exact upd_same
    · rw [upd_ne ha] at e; rw [upd_ne ha]; exact i a u e, fun a ha => by
    have hap : a ≠ p := fun q => ha (by rw [q]; exact hp)
    rw [upd_ne hap]⟩
/-- a new object that is not frozen -/
theorem Grow.raw {p : Addr} {o : HO} (i : Same B H) (hp : H p = none) : Grow B H B (upd H p o) :=
  ⟨Same.refl _, same_new hp, i.trans (same_new hp), fun _ _ => rfl⟩
end

/-- what a slot holds: data that stays; a list that is the def's own -/
inductive O where
  | im (d : D)
  | ow (ds : List D)
abbrev DS := List (Option O)

def SR (K : PySem.W.Frag) (H0 B H : Hp) (v : V) : O → Prop
  | .im d => Rp K B v d
  | .ow ds => ∃ p vs, v = .ref p ∧ H0 p = none ∧ B p = none ∧ H p = some (.lst vs) ∧ RpA K B vs ds

structure Rel (K : PySem.W.Frag) (B0 H0 B H : Hp) (σ : L2.St) (δ : DS) : Prop where
  g : Grow B0 H0 B H
  len : σ.length = δ.length
  sl : ∀ (i : Nat) (o : O), δ[i]? = some (some o) → ∃ v, σ[i]? = some (some v) ∧ SR K H0 B H v o
  own : ∀ (i j : Nat) (ds es : List D) (v : V), i ≠ j → δ[i]? = some (some (.ow ds)) → δ[j]? = some (some (.ow es)) → σ[i]? = some (some v) → σ[j]? ≠ some (some v)

section
variable {K : PySem.W.Frag} {B0 H0 B H B' H' : Hp} {σ : L2.St} {δ : DS}
theorem SR.mono {v : V} {o : O} (g : Grow B H B' H') (h : SR K H0 B H v o) : SR K H0 B' H' v o := by
  cases o with
  | im d => exact Rp.mono g.b h
  | ow ds =>
    obtain ⟨p, vs, rfl, h0, hb, hh, r⟩ := h
    exact ⟨p, vs, rfl, h0, by rw [g.f p (by rw [hh]; simp)]; exact hb, g.h _ _ hh, RpA.mono g.b r⟩
theorem Rel.mono (r : Rel K B0 H0 B H σ δ) (g : Grow B H B' H') : Rel K B0 H0 B' H' σ δ :=
  ⟨r.g.trans g, r.len, fun i o e => by
    obtain ⟨v, h1, h2⟩ := r.sl i o e
    exact ⟨v, h1, h2.mono g⟩, r.own⟩
theorem Rel.get {i : Nat} {d : D} (r : Rel K B0 H0 B H σ δ) (e : δ[i]? = some (some (.im d))) : ∃ v, σ[i]? = some (some v) ∧ Rp K B v d := r.sl i _ e
/-- a slot takes data -/
theorem Rel.set {v : V} {d : D} (r : Rel K B0 H0 B H σ δ) (i : Nat) (h : Rp K B v d) : Rel K B0 H0 B H (σ.set i (some v)) (δ.set i (some (.im d))) := by
  refine ⟨r.g, by simp [r.len], fun j o e => ?_, fun j k ds es w hjk e1 e2 e3 => ?_⟩
  · by_cases hj : i = j
    · subst hj
      have hl : i < δ.length := by
        by_cases hl : i < δ.length
        · exact hl
        · rw [List.getElem?_eq_none (by simpa using hl)] at e; cases e
      rw [List.getElem?_set_self hl] at e
      cases e
      exact ⟨v, by rw [List.getElem?_set_self (by rw [r.len]; exact hl)], h⟩
    · rw [List.getElem?_set_ne hj] at e
      rw [List.getElem?_set_ne hj]
      exact r.sl j o e
  · have ne : ∀ {m : Nat} {fs : List D}, (δ.set i (some (.im d)))[m]? = some (some (.ow fs)) → i ≠ m ∧ δ[m]? = some (some (.ow fs)) := fun {m fs} q => by
      by_cases hm : i = m
      · subst hm
        by_cases hl : i < δ.length
        · rw [List.getElem?_set_self hl] at q; cases q
        · rw [List.getElem?_eq_none (by simpa using hl)] at q; cases q
      · rw [List.getElem?_set_ne hm] at q
        exact ⟨hm, q⟩
    obtain ⟨n1, q1⟩ := ne e1
    obtain ⟨n2, q2⟩ := ne e2
    rw [List.getElem?_set_ne n1] at e3
    rw [List.getElem?_set_ne n2]
    exact r.own j k ds es w hjk q1 q2 e3
/-- a slot is forgotten -/
theorem Rel.drop {v : Option V} (r : Rel K B0 H0 B H σ δ) (i : Nat) : Rel K B0 H0 B H (σ.set i v) (δ.set i none) := by
  have ne : ∀ {m : Nat} {o : O}, (δ.set i none)[m]? = some (some o) → i ≠ m ∧ δ[m]? = some (some o) := fun {m o} q => by
    by_cases hm : i = m
    · subst hm
      by_cases hl : i < δ.length
      · rw [List.getElem?_set_self hl] at q; cases q
      · rw [List.getElem?_eq_none (by simpa using hl)] at q; cases q
    · rw [List.getElem?_set_ne hm] at q
      exact ⟨hm, q⟩
  refine ⟨r.g, by simp [r.len], fun j o e => ?_, fun j k ds es w hjk e1 e2 e3 => ?_⟩
  · obtain ⟨n, q⟩ := ne e
    rw [List.getElem?_set_ne n]
    exact r.sl j o q
  · obtain ⟨n1, q1⟩ := ne e1
    obtain ⟨n2, q2⟩ := ne e2
    rw [List.getElem?_set_ne n1] at e3
    rw [List.getElem?_set_ne n2]
    exact r.own j k ds es w hjk q1 q2 e3
/-- a slot takes a new list of the def's own -/
theorem Rel.setOw {p : Addr} {vs : List V} {ds : List D} (r : Rel K B0 H0 B H σ δ) (i : Nat) (h0 : H0 p = none) (hb : B p = none) (hh : H p = some (.lst vs)) (q : RpA K B vs ds) (fr : ∀ (j : Nat) (es : List D), δ[j]? = some (some (.ow es)) → σ[j]? ≠ some (some (.ref p))) :
    Rel K B0 H0 B H (σ.set i (some (.ref p))) (δ.set i (some (.ow ds))) := by
  refine ⟨r.g, by simp [r.len], fun j o e => ?_, fun j k es fs w hjk e1 e2 e3 => ?_⟩
  · by_cases hj : i = j
    · subst hj
      have hl : i < δ.length := by
        by_cases hl : i < δ.length
        · exact hl
        · rw [List.getElem?_eq_none (by simpa using hl)] at e; cases e
      rw [List.getElem?_set_self hl] at e
      cases e
      exact ⟨_, by rw [List.getElem?_set_self (by rw [r.len]; exact hl)], p, vs, rfl, h0, hb, hh, q⟩
    · rw [List.getElem?_set_ne hj] at e
      rw [List.getElem?_set_ne hj]
      exact r.sl j o e
  · by_cases hj : i = j
    · subst hj
      have hl : i < δ.length := by
        by_cases hl : i < δ.length
        · exact hl
        · rw [List.getElem?_eq_none (by simpa using hl)] at e1; cases e1
      rw [List.getElem?_set_self (by rw [r.len]; exact hl)] at e3
      cases e3
      rw [List.getElem?_set_ne hjk] at e2
      rw [List.getElem?_set_ne hjk]
      exact fr k fs e2
    · rw [List.getElem?_set_ne hj] at e1 e3
      by_cases hk : i = k
      · subst hk
        have hl : i < δ.length := by
          by_cases hl : i < δ.length
          · exact hl
          · rw [List.getElem?_eq_none (by simpa using hl)] at e2; cases e2
        rw [List.getElem?_set_self (by rw [r.len]; exact hl)]
        intro z
        cases z
        exact fr j es e1 e3
      · rw [List.getElem?_set_ne hk] at e2
        rw [List.getElem?_set_ne hk]
        exact r.own j k es fs w hjk e1 e2 e3
/-- the own list at slot i is written -/
theorem Rel.write {p : Addr} {us vs : List V} {ds es : List D} {i : Nat} (r : Rel K B0 H0 B H σ δ) (e : δ[i]? = some (some (.ow ds))) (es_ : σ[i]? = some (some (.ref p))) (q : RpA K B vs es) :
    Rel K B0 H0 B (upd H p (.lst vs)) σ (δ.set i (some (.ow es))) := by
  obtain ⟨v, h1, p', us', rfl, h0, hb, hh, _⟩ := r.sl i _ e
  rw [es_] at h1
  cases h1
  have hl : i < δ.length := by
    by_cases hl : i < δ.length
    · exact hl
    · rw [List.getElem?_eq_none (by simpa using hl)] at e; cases e
  have nb : ∀ a o, B a = some o → a ≠ p := fun a o q z => by rw [z, hb] at q; cases q
  refine ⟨⟨r.g.b, fun a o q => ?_, fun a o q => ?_, r.g.f⟩, by simp [r.len], fun j o q2 => ?_, fun j k es' fs w hjk e1 e2 e3 => ?_⟩
  · have : a ≠ p := fun z => by rw [z, h0] at q; cases q
    rw [upd_ne this]
    exact r.g.h a o q
  · rw [upd_ne (nb a o q)]
    exact r.g.i a o q
  · by_cases hj : i = j
    · subst hj
      rw [List.getElem?_set_self hl] at q2
      cases q2
      exact ⟨_, es_, p, vs, rfl, h0, hb, upd_same, q⟩
    · rw [List.getElem?_set_ne hj] at q2
      obtain ⟨v, h1, h2⟩ := r.sl j o q2
      refine ⟨v, h1, ?_⟩
      cases o with
      | im d => exact h2
      | ow fs =>
        obtain ⟨p2, vs2, rfl, a0, ab, ah, ar⟩ := h2
        have hp : p2 ≠ p := fun z => by
          subst z
          exact r.own i j ds fs _ hj e q2 es_ h1
        exact ⟨p2, vs2, rfl, a0, ab, by rw [upd_ne hp]; exact ah, ar⟩
  · have get : ∀ {m : Nat} {fs : List D}, (δ.set i (some (.ow es)))[m]? = some (some (.ow fs)) → ∃ gs, δ[m]? = some (some (.ow gs)) := fun {m fs} q => by
      by_cases hm : i = m
      · subst hm; exact ⟨_, e⟩
      · rw [List.getElem?_set_ne hm] at q; exact ⟨_, q⟩
    obtain ⟨g1, q1⟩ := get e1
    obtain ⟨g2, q2⟩ := get e2
    exact r.own j k g1 g2 w hjk q1 q2 e3
/-- the own list at slot i is let be: from now on it is data -/
theorem Rel.freeze {ds : List D} {i : Nat} (r : Rel K B0 H0 B H σ δ) (e : δ[i]? = some (some (.ow ds))) : ∃ B', Same B B' ∧ Rel K B0 H0 B' H σ (δ.set i (some (.im (.lst ds)))) := by
  obtain ⟨v, h1, p, vs, rfl, h0, hb, hh, q⟩ := r.sl i _ e
  have hl : i < δ.length := by
    by_cases hl : i < δ.length
    · exact hl
    · rw [List.getElem?_eq_none (by simpa using hl)] at e; cases e
  have sb : Same B (upd B p (.lst vs)) := same_new hb
  refine ⟨upd B p (.lst vs), sb, ⟨r.g.b.trans sb, r.g.h, fun a o q => ?_, fun a ha => ?_⟩, by simp [r.len], fun j o q2 => ?_, fun j k es' fs w hjk e1 e2 e3 => ?_⟩
  · by_cases hap : a = p
    · subst hap; rw [upd_same] at q; cases q; exact hh
    · rw [upd_ne hap] at q; exact r.g.i a o q
  · have : a ≠ p := fun z => ha (by rw [z]; exact h0)
    rw [upd_ne this]
    exact r.g.f a ha
  · by_cases hj : i = j
    · subst hj
      rw [List.getElem?_set_self hl] at q2
      cases q2
      exact ⟨_, h1, .lst (SqL.of upd_same) (RpA.mono sb q)⟩
    · rw [List.getElem?_set_ne hj] at q2
      obtain ⟨v, h3, h2⟩ := r.sl j o q2
      refine ⟨v, h3, ?_⟩
      cases o with
      | im d => exact Rp.mono sb h2
      | ow fs =>
        obtain ⟨p2, vs2, rfl, a0, ab, ah, ar⟩ := h2
        have hp : p2 ≠ p := fun z => by
          subst z
          exact r.own i j ds fs _ hj e q2 h1 h3
        exact ⟨p2, vs2, rfl, a0, by rw [upd_ne hp]; exact ab, ah, RpA.mono sb ar⟩
  · have get : ∀ {m : Nat} {fs : List D}, (δ.set i (some (.im (.lst ds))))[m]? = some (some (.ow fs)) → δ[m]? = some (some (.ow fs)) := fun {m fs} q => by
      by_cases hm : i = m
      · subst hm; rw [List.getElem?_set_self hl] at q; cases q
      · rw [List.getElem?_set_ne hm] at q; exact q
    exact r.own j k es' fs w hjk (get e1) (get e2) e3
end

/-- an exception's value c with its own dict dx is x -/
def RpX (K : PySem.W.Frag) (B : Hp) (c : Value) (dx : Option Addr) (x : Exn) : Prop :=
  c = x.cls ∧ ∃ d us, dx = some d ∧ B d = some (.xd us) ∧ us.map (·.1) = x.fs.map (·.1) ∧ RpA K B (us.map (·.2)) (x.fs.map (·.2))

/-! ### soundness of a reading by a function -/
section
variable (K : PySem.W.Frag)
def PostE (B H : Hp) (σ : L2.St) (W : WX) (Q : VK) : Res D → Prop
  | .ok d => ∀ v B' H', Grow B H B' H' → Rp K B' v d → Q v H'
  | .er x => ∀ c dx B' H', Grow B H B' H' → RpX K B' c dx x → W c dx σ H'
  | .no => False
def PostT (B H : Hp) (σ : L2.St) (W : WX) (Q : Bool → Hp → Prop) : Res Bool → Prop
  | .ok b => ∀ B' H', Grow B H B' H' → Q b H'
  | .er x => ∀ c dx B' H', Grow B H B' H' → RpX K B' c dx x → W c dx σ H'
  | .no => False
def PostA (B H : Hp) (σ : L2.St) (W : WX) (Q : List V → Hp → Prop) : Res (List D) → Prop
  | .ok ds => ∀ vs B' H', Grow B H B' H' → RpA K B' vs ds → Q vs H'
  | .er x => ∀ c dx B' H', Grow B H B' H' → RpX K B' c dx x → W c dx σ H'
  | .no => False
/-- a new list -/
def PostF (B H : Hp) (σ : L2.St) (W : WX) (Q : VK) : Res (List D) → Prop
  | .ok ds => ∀ p vs B' H', Grow B H B' H' → H p = none → B' p = none → H' p = some (.lst vs) → RpA K B' vs ds → Q (.ref p) H'
  | .er x => ∀ c dx B' H', Grow B H B' H' → RpX K B' c dx x → W c dx σ H'
  | .no => False
def SE (W : WX) (t : TE) (f : DS → Res D) : Prop := ∀ B0 H0 δ σ B H (Q : VK), Rel K B0 H0 B H σ δ → PostE K B H σ W Q (f δ) → t σ H Q
def ST (W : WX) (t : TT) (f : DS → Res Bool) : Prop := ∀ B0 H0 δ σ B H (Q : Bool → Hp → Prop), Rel K B0 H0 B H σ δ → PostT K B H σ W Q (f δ) → t σ H Q
def SA (W : WX) (t : TA) (f : DS → Res (List D)) : Prop := ∀ B0 H0 δ σ B H (Q : List V → Hp → Prop), Rel K B0 H0 B H σ δ → PostA K B H σ W Q (f δ) → t σ H Q
def SF (W : WX) (t : TE) (f : DS → Res (List D)) : Prop := ∀ B0 H0 δ σ B H (Q : VK), Rel K B0 H0 B H σ δ → PostF K B H σ W Q (f δ) → t σ H Q
end

/-- what is behind a statement -/
inductive Fl where
  | nx (δ : DS)
  | rt (d : D)
  | bk (δ : DS)
  | ct (δ : DS)
  | rs (x : Exn) (δ : DS)
  | no
def PostS (K : PySem.W.Frag) (B0 H0 B : Hp) (W : WX) (E : Ends) : Fl → Prop
  | .nx δ => ∀ σ B' H', Same B B' → Rel K B0 H0 B' H' σ δ → E.nx σ H'
  | .bk δ => ∀ σ B' H', Same B B' → Rel K B0 H0 B' H' σ δ → E.bk σ H'
  | .ct δ => ∀ σ B' H', Same B B' → Rel K B0 H0 B' H' σ δ → E.ct σ H'
  | .rt d => ∀ v B' H', Same B B' → Grow B0 H0 B' H' → Rp K B' v d → E.rt v H'
  | .rs x δ => ∀ c dx σ B' H', Same B B' → Rel K B0 H0 B' H' σ δ → RpX K B' c dx x → W c dx σ H'
  | .no => False
def SS (K : PySem.W.Frag) (W : WX) (t : TS) (g : DS → Fl) : Prop := ∀ B0 H0 δ σ B H (E : Ends), Rel K B0 H0 B H σ δ → PostS K B0 H0 B W E (g δ) → t E σ H

/-! ### the compiled judgements -/
structure CE (X : Cx) (W : WX) (e : Expr) (t : TE) (f : DS → Res D) : Prop where
  pe : PE X e t
  se : SE X.K W t f
structure CF (X : Cx) (W : WX) (e : Expr) (t : TE) (f : DS → Res (List D)) : Prop where
  pe : PE X e t
  sf : SF X.K W t f
structure CT (X : Cx) (W : WX) (e : Expr) (t : TT) (f : DS → Res Bool) : Prop where
  pt : PT X e t
  st : ST X.K W t f
structure CW (X : Cx) (W : WX) (e : Expr) (t : TT) (f : DS → Res Bool) : Prop where
  pw : PW X e t
  st : ST X.K W t f
structure CA (X : Cx) (W : WX) (es : List Expr) (t : TA) (f : DS → Res (List D)) : Prop where
  pa : PA X es t
  sa : SA X.K W t f
structure CS (X : Cx) (W : WX) (s : Stmt) (t : TS) (g : DS → Fl) : Prop where
  ps : PS X s t
  ss : SS X.K W t g
structure CSs (X : Cx) (W : WX) (s : List Stmt) (t : TS) (g : DS → Fl) : Prop where
  ps : PSs X s t
  ss : SS X.K W t g
theorem CW.ct {X : Cx} {W : WX} {e : Expr} {t : TT} {f : DS → Res Bool} (h : CW X W e t f) : CT X W e t f := ⟨h.pw.pt, h.st⟩
end DV
namespace DV
open PySem L2

section
variable {X : Cx} {W : WX} {K : PySem.W.Frag} {B H B0 H0 : Hp} {σ : L2.St} {δ : DS} {Q : VK}

/-! ### gluing -/
theorem postE_mono {B1 H1 : Hp} {Q : VK} {r : Res D} (g : Grow B H B1 H1) (h : PostE K B H σ W Q r) : PostE K B1 H1 σ W Q r := by
  cases r with
  | ok d => exact fun v B' H' g' rp => h v B' H' (g.trans g') rp
  | er x => exact fun c dx B' H' g' rp => h c dx B' H' (g.trans g') rp
  | no => exact h
theorem se_bind {t : TE} {f : DS → Res D} {α : Type} {k : D → Res α} {P : Res α → Prop} {QQ : VK}
    (h : SE K W t f) (r : Rel K B0 H0 B H σ δ)
    (hok : ∀ d v B' H', f δ = .ok d → Grow B H B' H' → Rp K B' v d → QQ v H')
    (her : ∀ x, f δ = .er x → ∀ c dx B' H', Grow B H B' H' → RpX K B' c dx x → W c dx σ H')
    (hno : f δ ≠ .no) : t σ H QQ := by
  refine h B0 H0 δ σ B H QQ r ?_
  cases e : f δ with
  | ok d => exact fun v B' H' g rp => hok d v B' H' e g rp
  | er x => exact her x e
  | no => exact absurd e hno

/-! ### names and constants -/
def cVar (i : Nat) : DS → Res D := fun δ => match δ[i]? with
  | some (some (.im d)) => .ok d
  | _ => .no
theorem se_var (i : Nat) : SE K W (tVar i) (cVar i) := fun B0 H0 δ σ B H Q r h => by
  unfold cVar at h
  cases e : δ[i]? with
  | none => rw [e] at h; exact h.elim
  | some o =>
    cases o with
    | none => rw [e] at h; exact h.elim
    | some o =>
      cases o with
      | ow ds => rw [e] at h; exact h.elim
      | im d =>
        rw [e] at h
        obtain ⟨v, h1, h2⟩ := r.get e
        exact ⟨v, h1, h v B H (Grow.refl r.g.i) h2⟩
theorem ce_var (i : Nat) {x : Str} {pos : Pos} (hN : X.N[i]? = some x := by rfl) (hv : Vis X.env.scope x := by first | exact Or.inl rfl | exact Or.inr (Or.inl rfl) | exact Or.inr (Or.inr rfl)) (hd : (x == ("__debug__" : Str)) = false := by decide)
    (hcd : (x == ("__classdict__" : Str)) = false := by decide) : CE X W (.Name x pos) (tVar i) (cVar i) := ⟨pe_var hN hv hd hcd, se_var i⟩
def cC (d : D) : DS → Res D := fun _ => .ok d
theorem se_c (v : V) : SE K W (tC v) (cC (.v v)) := fun B0 H0 δ σ B H Q r h => h v B H (Grow.refl r.g.i) (.v v)
theorem ce_int {i : Int} {j pos} : CE X W (.Constant (.int i) j pos) (tC (.int i)) (cC (.int i)) := ⟨pe_int, se_c _⟩
theorem ce_bl {b : Bool} {j pos} : CE X W (.Constant (.bool b) j pos) (tC (.bl b)) (cC (.bl b)) := ⟨pe_bl, se_c _⟩
theorem ce_non {j pos} : CE X W (.Constant .none j pos) (tC .non) (cC .non) := ⟨pe_non, se_c _⟩
theorem ce_str {x : Str} {j pos} : CE X W (.Constant (.str x) j pos) (tC (.str x)) (cC (.str x)) := ⟨pe_str, se_c _⟩
/-- a module's constant; hk: what it is, whatever the heap -/
theorem ce_glob {x : Str} {v : V} {u : Value} {d : D} {pos : Pos} (hg : Gl X x) (hm : X.mg x = some u) (r : RelV v u) (hk : ∀ B, Rp X.K B v d) (hd : (x == ("__debug__" : Str)) = false := by decide) : CE X W (.Name x pos) (tC v) (cC d) :=
  ⟨pe_glob hg hm r hd, fun B0 H0 δ σ B H Q r h => h v B H (Grow.refl r.g.i) (hk B)⟩
theorem ce_bltn {x : Str} {v : V} {u : Value} {pos : Pos} (hg : Gl X x) (hm : X.mg x = none) (hv : bootBuiltins x = some u) (r : RelV v u) (hn : x ≠ "__name__" := by decide) (hd : (x == ("__debug__" : Str)) = false := by decide) : CE X W (.Name x pos) (tC v) (cC (.v v)) :=
  ⟨pe_bltn hg hm hv r hn hd, se_c _⟩

/-! ### two operands -/
def PostV (K : PySem.W.Frag) (B H : Hp) (Q : VK) : Res D → Prop
  | .ok d => ∀ v B' H', Grow B H B' H' → Rp K B' v d → Q v H'
  | _ => False
/-- an operator by values is the function g -/
def RO (K : PySem.W.Frag) (r : R2) (g : D → D → Res D) : Prop := ∀ x y d e B H Q, Same B H → Rp K B x d → Rp K B y e → PostV K B H Q (g d e) → r x y H Q
def RU (K : PySem.W.Frag) (r : V → Hp → VK → Prop) (g : D → Res D) : Prop := ∀ x d B H Q, Same B H → Rp K B x d → PostV K B H Q (g d) → r x H Q
def cBin (g : D → D → Res D) (fa fb : DS → Res D) : DS → Res D := fun δ => (fa δ).bind fun x => (fb δ).bind fun y => g x y
def cUn (g : D → Res D) (fa : DS → Res D) : DS → Res D := fun δ => (fa δ).bind g
/-- an operator never raises -/
def Calm2 (g : D → D → Res D) : Prop := ∀ d e x, g d e ≠ .er x
theorem postV_of {r : Res D} (h : PostE K B H σ W Q r) (hc : ∀ x, r ≠ .er x) : PostV K B H Q r := by
  cases r with
  | ok d => exact h
  | er x => exact absurd rfl (hc x)
  | no => exact h
theorem se_op {ta tb : TE} {fa fb : DS → Res D} {r : R2} {g : D → D → Res D} (ho : RO K r g) (hc : Calm2 g) (ha : SE K W ta fa) (hb : SE K W tb fb) : SE K W (tOp r ta tb) (cBin g fa fb) := fun B0 H0 δ σ B H Q rel h => by
  unfold cBin at h
  refine ha B0 H0 δ σ B H _ rel ?_
  cases e : fa δ with
  | no => rw [e] at h; exact h
  | er x => rw [e] at h; exact h
  | ok d =>
    rw [e, Res.bind_ok] at h
    intro v B1 H1 g1 r1
    refine hb B0 H0 δ σ B1 H1 _ (rel.mono g1) ?_
    cases e2 : fb δ with
    | no => rw [e2] at h; exact h
    | er x => rw [e2] at h; exact fun c dx B' H' g' rp => h c dx B' H' (g1.trans g') rp
    | ok d2 =>
      rw [e2, Res.bind_ok] at h
      intro u B2 H2 g2 r2
      exact ho v u d d2 B2 H2 Q g2.i (Rp.mono g2.b r1) r2 (postV_of (postE_mono (g1.trans g2) h) (hc d d2))
theorem ce_op {a b : Expr} {op : Operator} {pos : Pos} {ta tb : TE} {fa fb : DS → Res D} {r : R2} {g : D → D → Res D} (ho : OpR X (binaryOp op) r) (hr : RO X.K r g) (hc : Calm2 g) (ha : CE X W a ta fa) (hb : CE X W b tb fb) : CE X W (.BinOp a op b pos) (tOp r ta tb) (cBin g fa fb) :=
  ⟨pe_op ho ha.pe hb.pe, se_op hr hc ha.se hb.se⟩
theorem ce_cmp {a b : Expr} {op : CmpOp} {pos : Pos} {ta tb : TE} {fa fb : DS → Res D} {r : R2} {g : D → D → Res D} (ho : OpR X (compareOp op) r) (hr : RO X.K r g) (hc : Calm2 g) (ha : CE X W a ta fa) (hb : CE X W b tb fb) (hm : behindInMarks op b = false) : CE X W (.Compare a [op] [b] pos) (tOp r ta tb) (cBin g fa fb) :=
  ⟨pe_cmpR ho ha.pe hb.pe hm, se_op hr hc ha.se hb.se⟩
theorem se_un {ta : TE} {fa : DS → Res D} {r : V → Hp → VK → Prop} {g : D → Res D} (ho : RU K r g) (hc : ∀ d x, g d ≠ .er x) (ha : SE K W ta fa) : SE K W (tUn r ta) (cUn g fa) := fun B0 H0 δ σ B H Q rel h => by
  unfold cUn at h
  refine ha B0 H0 δ σ B H _ rel ?_
  cases e : fa δ with
  | no => rw [e] at h; exact h
  | er x => rw [e] at h; exact h
  | ok d =>
    rw [e, Res.bind_ok] at h
    intro v B1 H1 g1 r1
    exact ho v d B1 H1 Q g1.i r1 (postV_of (postE_mono g1 h) (hc d))
theorem ce_un {a : Expr} {op : UnaryOp} {pos : Pos} {ta : TE} {fa : DS → Res D} {r : V → Hp → VK → Prop} {g : D → Res D} (ho : UnR X (unaryOp op) r) (hr : RU X.K r g) (hc : ∀ d x, g d ≠ .er x) (ha : CE X W a ta fa) : CE X W (.UnaryOp op a pos) (tUn r ta) (cUn g fa) :=
  ⟨pe_un ho ha.pe, se_un hr hc ha.se⟩
end

/-! ### the operators -/
section
variable {X : Cx} {W : WX} {K : PySem.W.Frag}
theorem ro_I {C : Int → Int → Prop} {gv : Int → Int → V} {g : D → D → Res D} (hg : ∀ d e z, g d e = .ok z → ∃ i j, d = .int i ∧ e = .int j ∧ C i j ∧ z = .v (gv i j)) : RO K (rI C gv) g := fun x y d e B H Q i rx ry h => by
  cases q : g d e with
  | ok z =>
    rw [q] at h
    obtain ⟨i', j, rfl, rfl, hc, rfl⟩ := hg d e z q
    cases rx
    cases ry
    exact ⟨i', j, rfl, rfl, hc, h _ B H (Grow.refl i) (.v _)⟩
  | er x => rw [q] at h; exact h.elim
  | no => rw [q] at h; exact h.elim
theorem ro_I0 {gv : Int → Int → V} {g : D → D → Res D} (hg : ∀ d e z, g d e = .ok z → ∃ i j, d = .int i ∧ e = .int j ∧ z = .v (gv i j)) : RO K (rI0 gv) g := fun x y d e B H Q i rx ry h => by
  cases q : g d e with
  | ok z =>
    rw [q] at h
    obtain ⟨i', j, rfl, rfl, rfl⟩ := hg d e z q
    cases rx
    cases ry
    exact ⟨i', j, rfl, rfl, h _ B H (Grow.refl i) (.v _)⟩
  | er x => rw [q] at h; exact h.elim
  | no => rw [q] at h; exact h.elim
theorem ro_or {r r' : R2} {g g' : D → D → Res D} (h : RO K r g) (h' : RO K r' g') : RO K (fun x y H Q => r x y H Q ∨ r' x y H Q) (fun d e => match g d e with | .no => g' d e | z => z) := fun x y d e B H Q i rx ry hp => by
  dsimp only at hp
  cases q : g d e with
  | ok z => rw [q] at hp; exact .inl (h x y d e B H Q i rx ry (by rw [q]; exact hp))
  | er z => rw [q] at hp; exact hp.elim
  | no => rw [q] at hp; exact .inr (h' x y d e B H Q i rx ry hp)

def oSub : D → D → Res D
  | .v (.int i), .v (.int j) => .ok (.int (i - j))
  | _, _ => .no
def oMod : D → D → Res D
  | .v (.int i), .v (.int j) => if j ≠ 0 then .ok (.int (i.fmod j)) else .no
  | _, _ => .no
def oFdiv : D → D → Res D
  | .v (.int i), .v (.int j) => if j ≠ 0 ∧ j.natAbs.log2 < 9000 then .ok (.int (i.fdiv j)) else .no
  | _, _ => .no
def oPow : D → D → Res D
  | .v (.int i), .v (.int j) => if 0 ≤ j ∧ j.natAbs ≤ 1000000 ∧ i.natAbs < 18446744073709551616 then .ok (.int (i ^ j.toNat)) else .no
  | _, _ => .no
/-- + -/
def oAdd : D → D → Res D
  | .v (.int i), .v (.int j) => .ok (.int (i + j))
  | .v (.str i), .v (.str j) => if i.length + j.length ≤ sizeLine then .ok (.str (i ++ j)) else .no
  | .lst a, .lst b => if a.length + b.length ≤ sizeLine then .ok (.lst (a ++ b)) else .no
  | .tup a, .tup b => if a.length + b.length ≤ sizeLine then .ok (.tup (a ++ b)) else .no
  | _, _ => .no
/-- * -/
def oMul : D → D → Res D
  | .v (.int i), .v (.int j) => if i.natAbs.log2 + j.natAbs.log2 < 1000000 then .ok (.int (i * j)) else .no
  | .lst a, .v (.int k) => if -(2 ^ 63) ≤ k ∧ k < 2 ^ 63 ∧ a.length * k.toNat ≤ sizeLine then .ok (.lst (List.replicate k.toNat a).flatten) else .no
  | .tup a, .v (.int k) => if a ≠ [] ∧ 2 ≤ k ∧ k ≤ 1000 ∧ a.length ≤ 1000 then .ok (.tup (List.replicate k.toNat a).flatten) else .no
  | _, _ => .no

theorem op_catL : OpR X (binaryOp .Add) (fun x y H Q => ∃ l b xs zs, x = .ref l ∧ y = .ref b ∧ SqL X.K H l xs ∧ SqL X.K H b zs ∧ xs.length + zs.length ≤ sizeLine ∧ ∀ p, H p = none → Q (.ref p) (upd H p (.lst (xs ++ zs)))) := by
  intro pins s σ H x y v u Q I rx ry h
  obtain ⟨l, b, xs, zs, rfl, rfl, hH, hB, hz, q⟩ := h
  cases rx
  cases ry
  obtain ⟨its, r, ⟨⟨cls, dd, data, sl⟩, n, ho, hc, hdd, hd⟩, z1⟩ := I.list hH
  obtain ⟨its2, r2, ⟨⟨cls2, dd2, data2, sl2⟩, n2, ho2, hc2, hdd2, hd2⟩, z2⟩ := I.list hB
  simp only at hc hd hc2 hd2
  subst hc hd hc2 hd2
  have hlen := r.length
  have hlen2 := r2.length
  have e : its.toArray ++ its2.toArray = (its ++ its2).toArray := by simp
  refine PySem.concat_meets ⟨_, ho, rfl⟩ ⟨_, ho2, rfl⟩ PySem.noFill_list_add PySem.seq_list_add PySem.F.slot_list_add PySem.F.entry_list_add (PySem.F.args_list_add_2 _ _) (PyProof.Rows.list_addW l b its.toArray its2.toArray n n2 dd dd2 sl sl2 (by simpa [← hlen, ← hlen2] using hz)) ⟨ho, ho2, ?_⟩
  rw [e]
  exact ⟨.ref _, _, I.lnew (t' := s.toks) (r.append r2) (by rw [List.length_append]; omega), rfl, q _ I.fresh⟩

/-- the reading of + -/
def rAdd (K : PySem.W.Frag) : R2 := fun x y H Q =>
  (∃ i j, x = V.int i ∧ y = V.int j ∧ Q (.int (i + j)) H) ∨
  (∃ i j, x = V.str i ∧ y = V.str j ∧ i.length + j.length ≤ sizeLine ∧ Q (.str (i ++ j)) H) ∨
  (∃ l b xs zs, x = .ref l ∧ y = .ref b ∧ SqL K H l xs ∧ SqL K H b zs ∧ xs.length + zs.length ≤ sizeLine ∧ ∀ p, H p = none → Q (.ref p) (upd H p (.lst (xs ++ zs)))) ∨ rCatA K x y H Q
theorem op_addA : OpR X (binaryOp .Add) (rAdd X.K) := OpR.or op_add (OpR.or op_add_str (OpR.or op_catL op_catA))
theorem ro_add : RO K (rAdd K) oAdd := fun x y d e B H Q i rx ry h => by
  unfold oAdd at h
  split at h
  · cases rx; cases ry
    exact .inl ⟨_, _, rfl, rfl, h _ B H (Grow.refl i) (.v _)⟩
  · split at h
    · rename_i hz
      cases rx; cases ry
      exact .inr (.inl ⟨_, _, rfl, rfl, hz, h _ B H (Grow.refl i) (.v _)⟩)
    · exact h.elim
  · split at h
    · rename_i hz
      cases rx with
      | lst h1 q1 =>
        cases ry with
        | lst h2 q2 =>
          have l1 := q1.length
          have l2 := q2.length
          refine .inr (.inr (.inl ⟨_, _, _, _, rfl, rfl, i.seq h1, i.seq h2, by omega, fun p hp => ?_⟩))
          exact h _ _ _ (Grow.new i hp) (.lst (SqL.of upd_same) ((q1.append q2).mono (Grow.new i hp).b))
    · exact h.elim
  · split at h
    · rename_i hz
      cases rx with
      | tup h1 q1 =>
        cases ry with
        | tup h2 q2 =>
          have l1 := q1.length
          have l2 := q2.length
          refine .inr (.inr (.inr ⟨_, _, _, _, rfl, rfl, sqT_mono i h1, sqT_mono i h2, by omega, fun e0 => ?_, fun _ e0 => ?_, fun _ _ p hp => ?_⟩))
          · subst e0
            cases q1
            exact h _ B H (Grow.refl i) (.tup h2 q2)
          · subst e0
            cases q2
            rw [List.append_nil] at h
            exact h _ B H (Grow.refl i) (.tup h1 q1)
          · exact h _ _ _ (Grow.new i hp) (.tup (SqT.of upd_same) ((q1.append q2).mono (Grow.new i hp).b))
    · exact h.elim
  · exact h.elim
theorem cm_add : Calm2 oAdd := fun d e x => by unfold oAdd; split <;> (try split) <;> simp
theorem ce_add {a b : Expr} {pos : Pos} {ta tb : TE} {fa fb : DS → Res D} (ha : CE X W a ta fa) (hb : CE X W b tb fb) : CE X W (.BinOp a .Add b pos) (tOp (rAdd X.K) ta tb) (cBin oAdd fa fb) := ce_op op_addA ro_add cm_add ha hb

theorem ro_sub : RO K (rI0 fun i j => .int (i - j)) oSub := ro_I0 fun d e z h => by
  unfold oSub at h
  split at h
  · cases h; exact ⟨_, _, rfl, rfl, rfl⟩
  · cases h
theorem cm_sub : Calm2 oSub := fun d e x => by unfold oSub; split <;> simp
theorem ce_sub {a b : Expr} {pos : Pos} {ta tb : TE} {fa fb : DS → Res D} (ha : CE X W a ta fa) (hb : CE X W b tb fb) : CE X W (.BinOp a .Sub b pos) (tOp (rI0 fun i j => .int (i - j)) ta tb) (cBin oSub fa fb) := ce_op op_sub ro_sub cm_sub ha hb

theorem ro_mod : RO K (rI (fun _ j => j ≠ 0) fun i j => .int (i.fmod j)) oMod := ro_I fun d e z h => by
  unfold oMod at h
  split at h
  · split at h
    · rename_i hj
      cases h; exact ⟨_, _, rfl, rfl, hj, rfl⟩
    · cases h
  · cases h
theorem cm_mod : Calm2 oMod := fun d e x => by unfold oMod; split <;> (try split) <;> simp
theorem ce_mod {a b : Expr} {pos : Pos} {ta tb : TE} {fa fb : DS → Res D} (ha : CE X W a ta fa) (hb : CE X W b tb fb) : CE X W (.BinOp a .Mod b pos) (tOp (rI (fun _ j => j ≠ 0) fun i j => .int (i.fmod j)) ta tb) (cBin oMod fa fb) := ce_op op_modN ro_mod cm_mod ha hb

def CFd (_ j : Int) : Prop := j ≠ 0 ∧ j.natAbs.log2 < 9000
theorem op_fdA : OpR X (binaryOp .FloorDiv) (rI CFd fun i j => .int (i.fdiv j)) := opI fun i j _ _ _ _ _ hc q => PyProof.Rows.floordiv_int hc.1 q (.inl (PyProof.noPylong_of_log2 hc.2))
theorem ro_fdiv : RO K (rI CFd fun i j => .int (i.fdiv j)) oFdiv := ro_I fun d e z h => by
  unfold oFdiv at h
  split at h
  · split at h
    · rename_i hj
      cases h; exact ⟨_, _, rfl, rfl, hj, rfl⟩
    · cases h
  · cases h
theorem cm_fdiv : Calm2 oFdiv := fun d e x => by unfold oFdiv; split <;> (try split) <;> simp
theorem ce_fdiv {a b : Expr} {pos : Pos} {ta tb : TE} {fa fb : DS → Res D} (ha : CE X W a ta fa) (hb : CE X W b tb fb) : CE X W (.BinOp a .FloorDiv b pos) (tOp (rI CFd fun i j => .int (i.fdiv j)) ta tb) (cBin oFdiv fa fb) := ce_op op_fdA ro_fdiv cm_fdiv ha hb

theorem ro_pow : RO K (rI CPow fun i j => .int (i ^ j.toNat)) oPow := ro_I fun d e z h => by
  unfold oPow at h
  split at h
  · split at h
    · rename_i hj
      cases h; exact ⟨_, _, rfl, rfl, ⟨hj.1, by omega, by omega⟩, rfl⟩
    · cases h
  · cases h
theorem cm_pow : Calm2 oPow := fun d e x => by unfold oPow; split <;> (try split) <;> simp
theorem ce_pow {a b : Expr} {pos : Pos} {ta tb : TE} {fa fb : DS → Res D} (ha : CE X W a ta fa) (hb : CE X W b tb fb) : CE X W (.BinOp a .Pow b pos) (tOp (rI CPow fun i j => .int (i ^ j.toNat)) ta tb) (cBin oPow fa fb) := ce_op op_pow ro_pow cm_pow ha hb

/-- *: ints; a tuple by an int -/
def oMul2 : D → D → Res D
  | .v (.int i), .v (.int j) => if i.natAbs.log2 + j.natAbs.log2 < 1000000 then .ok (.int (i * j)) else .no
  | .tup a, .v (.int k) => if a.length ≠ 0 ∧ 2 ≤ k ∧ k ≤ 1000 ∧ a.length ≤ 1000 then .ok (.tup (List.replicate k.toNat a).flatten) else .no
  | _, _ => .no
def rMulA (K : PySem.W.Frag) : R2 := fun x y H Q => rI CMulW (fun i j => .int (i * j)) x y H Q ∨ rRepT K x y H Q
theorem op_mulA : OpR X (binaryOp .Mult) (rMulA X.K) := OpR.or op_mulW op_repT
theorem RpA.flat {B : Hp} {vs : List V} {ds : List D} (r : RpA K B vs ds) : ∀ n : Nat, RpA K B (List.replicate n vs).flatten (List.replicate n ds).flatten
  | 0 => .nil
  | n + 1 => by
    rw [List.replicate_succ, List.replicate_succ, List.flatten_cons, List.flatten_cons]
    exact r.append (RpA.flat r n)
theorem ro_mul : RO K (rMulA K) oMul2 := fun x y d e B H Q i rx ry h => by
  unfold oMul2 at h
  split at h
  · split at h
    · rename_i hz
      cases rx; cases ry
      exact .inl ⟨_, _, rfl, rfl, hz, h _ B H (Grow.refl i) (.v _)⟩
    · exact h.elim
  · split at h
    · rename_i hz
      cases ry
      cases rx with
      | tup h1 q1 =>
        have l1 := q1.length
        refine .inr ⟨_, _, _, rfl, rfl, sqT_mono i h1, ?_, hz.2.1, hz.2.2.1, by omega, fun p hp => ?_⟩
        · intro z
          rw [z] at l1
          exact hz.1 (by rw [← l1]; rfl)
        · exact h _ _ _ (Grow.new i hp) (.tup (SqT.of upd_same) ((q1.flat _).mono (Grow.new i hp).b))
    · exact h.elim
  · exact h.elim
theorem cm_mul : Calm2 oMul2 := fun d e x => by unfold oMul2; split <;> (try split) <;> simp
theorem ce_mul {a b : Expr} {pos : Pos} {ta tb : TE} {fa fb : DS → Res D} (ha : CE X W a ta fa) (hb : CE X W b tb fb) : CE X W (.BinOp a .Mult b pos) (tOp (rMulA X.K) ta tb) (cBin oMul2 fa fb) := ce_op op_mulA ro_mul cm_mul ha hb

def oNeg : D → Res D
  | .v (.int i) => .ok (.int (-i))
  | _ => .no
theorem ru_neg : RU K (rU fun i => .int (-i)) oNeg := fun x d B H Q i rx h => by
  unfold oNeg at h
  split at h
  · cases rx
    exact ⟨_, rfl, h _ B H (Grow.refl i) (.v _)⟩
  · exact h.elim
theorem ce_neg {a : Expr} {pos : Pos} {ta : TE} {fa : DS → Res D} (ha : CE X W a ta fa) : CE X W (.UnaryOp .USub a pos) (tUn (rU fun i => .int (-i)) ta) (cUn oNeg fa) := ce_un un_neg ru_neg (fun d x => by unfold oNeg; split <;> simp) ha

/-! ### comparisons -/
def oI (p : Int → Int → Bool) : D → D → Res D
  | .v (.int i), .v (.int j) => .ok (.bl (p i j))
  | _, _ => .no
theorem ro_cI {p : Int → Int → Bool} : RO K (rI0 fun i j => .bl (p i j)) (oI p) := ro_I0 fun d e z h => by
  unfold oI at h
  split at h
  · cases h; exact ⟨_, _, rfl, rfl, rfl⟩
  · cases h
theorem cm_cI {p : Int → Int → Bool} : Calm2 (oI p) := fun d e x => by unfold oI; split <;> simp
abbrev oLt := oI fun i j => decide (i < j)
abbrev oLe := oI fun i j => decide (i ≤ j)
abbrev oGt := oI fun i j => decide (j < i)
abbrev oGe := oI fun i j => decide (j ≤ i)
section
variable {a b : Expr} {pos : Pos} {ta tb : TE} {fa fb : DS → Res D}
theorem ce_lt (ha : CE X W a ta fa) (hb : CE X W b tb fb) : CE X W (.Compare a [.Lt] [b] pos) (tOp (rI0 fun i j => .bl (decide (i < j))) ta tb) (cBin oLt fa fb) := ce_cmp op_lt ro_cI cm_cI ha hb (nomark _)
theorem ce_le (ha : CE X W a ta fa) (hb : CE X W b tb fb) : CE X W (.Compare a [.LtE] [b] pos) (tOp (rI0 fun i j => .bl (decide (i ≤ j))) ta tb) (cBin oLe fa fb) := ce_cmp op_le ro_cI cm_cI ha hb (nomark _)
theorem ce_gt (ha : CE X W a ta fa) (hb : CE X W b tb fb) : CE X W (.Compare a [.Gt] [b] pos) (tOp (rI0 fun i j => .bl (decide (j < i))) ta tb) (cBin oGt fa fb) := ce_cmp op_gt ro_cI cm_cI ha hb (nomark _)
theorem ce_ge (ha : CE X W a ta fa) (hb : CE X W b tb fb) : CE X W (.Compare a [.GtE] [b] pos) (tOp (rI0 fun i j => .bl (decide (j ≤ i))) ta tb) (cBin oGe fa fb) := ce_cmp op_ge ro_cI cm_cI ha hb (nomark _)
end
/-- a < b < c -/
def cChain (g g' : D → D → Res D) (fa fb fc : DS → Res D) : DS → Res D := fun δ => (fa δ).bind fun x => (fb δ).bind fun y => (g x y).bind fun k => match k with
  | .v (.bl true) => (fc δ).bind fun z => g' y z
  | .v (.bl false) => .ok (.bl false)
  | _ => .no
theorem se_chain {ta tb tc : TE} {fa fb fc : DS → Res D} {r r' : R2} {g g' : D → D → Res D} (ho : RO K r g) (hc : Calm2 g) (ho' : RO K r' g') (hc' : Calm2 g') (ha : SE K W ta fa) (hb : SE K W tb fb) (hcc : SE K W tc fc) : SE K W (tChain r r' ta tb tc) (cChain g g' fa fb fc) := fun B0 H0 δ σ B H Q rel h => by
  unfold cChain at h
  refine ha B0 H0 δ σ B H _ rel ?_
  cases e : fa δ with
  | no => rw [e] at h; exact h
  | er x => rw [e] at h; exact h
  | ok d =>
    rw [e, Res.bind_ok] at h
    intro v B1 H1 g1 r1
    refine hb B0 H0 δ σ B1 H1 _ (rel.mono g1) ?_
    cases e2 : fb δ with
    | no => rw [e2] at h; exact h
    | er x => rw [e2] at h; exact fun c dx B' H' g' rp => h c dx B' H' (g1.trans g') rp
    | ok d2 =>
      rw [e2, Res.bind_ok] at h
      intro u B2 H2 g2 r2
      refine ho v u d d2 B2 H2 _ g2.i (Rp.mono g2.b r1) r2 ?_
      cases e3 : g d d2 with
      | no => rw [e3] at h; exact h
      | er x => exact absurd e3 (hc d d2 x)
      | ok k =>
        rw [e3, Res.bind_ok] at h
        intro kv B3 H3 g3 r3
        split at h
        · cases r3
          refine ⟨true, rfl, ?_⟩
          rw [if_pos rfl]
          refine hcc B0 H0 δ σ B3 H3 _ (((rel.mono g1).mono g2).mono g3) ?_
          cases e4 : fc δ with
          | no => rw [e4] at h; exact h
          | er x => rw [e4] at h; exact fun c dx B' H' g' rp => h c dx B' H' (((g1.trans g2).trans g3).trans g') rp
          | ok d4 =>
            rw [e4, Res.bind_ok] at h
            intro z B4 H4 g4 r4
            exact ho' u z d2 d4 B4 H4 Q g4.i (Rp.mono (g3.b.trans g4.b) r2) r4 (postV_of (postE_mono (((g1.trans g2).trans g3).trans g4) h) (hc' d2 d4))
        · cases r3
          refine ⟨false, rfl, ?_⟩
          rw [if_neg Bool.false_ne_true]
          exact h _ _ _ ((g1.trans g2).trans g3) (.v _)
        · exact h.elim
theorem ce_chain {a b c : Expr} {op op' : CmpOp} {pos : Pos} {ta tb tc : TE} {fa fb fc : DS → Res D} {r r' : R2} {g g' : D → D → Res D} (ho : OpR X (compareOp op) r) (hr : RO X.K r g) (hc : Calm2 g) (ho' : OpR X (compareOp op') r') (hr' : RO X.K r' g') (hc' : Calm2 g')
    (ha : CE X W a ta fa) (hb : CE X W b tb fb) (hcc : CE X W c tc fc) (hm : lastMarks [op, op'] [b, c] = false := by with_unfolding_all rfl) : CE X W (.Compare a [op, op'] [b, c] pos) (tChain r r' ta tb tc) (cChain g g' fa fb fc) := ⟨pe_chain ho ho' ha.pe hb.pe hcc.pe hm, se_chain hr hc hr' hc' ha.se hb.se hcc.se⟩

/-! ### ==, != -/
mutual
def D.py : D → Option PyData
  | .v .non => some .none
  | .v (.bl b) => some (.bool b)
  | .v (.int i) => some (.int i)
  | .v (.str s) => some (.str s)
  | .v _ => none
  | .lst xs => (D.pyA xs).map .list
  | .tup xs => (D.pyA xs).map .tuple
def D.pyA : List D → Option (List PyData)
  | [] => some []
  | x :: xs => match x.py, D.pyA xs with
    | some a, some as => some (a :: as)
    | _, _ => none
end
mutual
theorem dp_of {B : Hp} : ∀ {v : V} {d : D} {p : PyData}, Rp K B v d → d.py = some p → Dp K B v p
  | _, _, _, .v x, e => by
    cases x <;> (unfold D.py at e; first | (cases e; constructor) | cases e)
  | _, _, _, .lst (ds := ds) h r, e => by
    unfold D.py at e
    cases q : D.pyA ds with
    | none => rw [q] at e; cases e
    | some ps => rw [q] at e; cases e; exact .lst h (dpA_of r q)
  | _, _, _, .tup (ds := ds) h r, e => by
    unfold D.py at e
    cases q : D.pyA ds with
    | none => rw [q] at e; cases e
    | some ps => rw [q] at e; cases e; exact .tup h (dpA_of r q)
theorem dpA_of {B : Hp} : ∀ {vs : List V} {ds : List D} {ps : List PyData}, RpA K B vs ds → D.pyA ds = some ps → DpAll K B vs ps
  | _, _, _, .nil, e => by
    unfold D.pyA at e
    cases e
    exact .nil
  | _, _, _, .cons (d := d) (ds := ds) h r, e => by
    unfold D.pyA at e
    cases q1 : d.py with
    | none => rw [q1] at e; cases e
    | some a =>
      cases q2 : D.pyA ds with
      | none => rw [q1, q2] at e; cases e
      | some as =>
        rw [q1, q2] at e
        cases e
        exact .cons (dp_of h q1) (dpA_of r q2)
end
def oEqB (neg : Bool) (d e : D) : Res D := match d.py, e.py with
  | some a, some b => if SeqAt.shaped a = true ∧ SeqAt.shaped b = true then .ok (.bl (if neg then !PyData.eqv a b else PyData.eqv a b)) else .no
  | _, _ => .no
abbrev oEq := oEqB false
abbrev oNe := oEqB true
mutual
theorem dp_mono {B B' : Hp} (e : Same B B') : ∀ {v : V} {p : PyData}, Dp K B v p → Dp K B' v p
  | _, _, .non => .non
  | _, _, .bl b => .bl b
  | _, _, .int i => .int i
  | _, _, .str x => .str x
  | _, _, .lst h r => .lst (e.seq h) (dpA_mono e r)
  | _, _, .tup h r => .tup (sqT_mono e h) (dpA_mono e r)
theorem dpA_mono {B B' : Hp} (e : Same B B') : ∀ {vs : List V} {ps : List PyData}, DpAll K B vs ps → DpAll K B' vs ps
  | _, _, .nil => .nil
  | _, _, .cons h r => .cons (dp_mono e h) (dpA_mono e r)
end
theorem ro_eq : RO K (rEqD K) oEq := fun x y d e B H Q i rx ry h => by
  unfold oEq oEqB at h
  split at h
  · rename_i a b e1 e2
    split at h
    · rename_i hs
      exact ⟨a, b, dp_mono i (dp_of rx e1), dp_mono i (dp_of ry e2), hs.1, hs.2, h _ B H (Grow.refl i) (.v _)⟩
    · exact h.elim
  · exact h.elim
theorem ro_ne : RO K (rNeD K) oNe := fun x y d e B H Q i rx ry h => by
  unfold oNe oEqB at h
  split at h
  · rename_i a b e1 e2
    split at h
    · rename_i hs
      exact ⟨a, b, dp_mono i (dp_of rx e1), dp_mono i (dp_of ry e2), hs.1, hs.2, h _ B H (Grow.refl i) (.v _)⟩
    · exact h.elim
  · exact h.elim
theorem cm_eq {n : Bool} : Calm2 (oEqB n) := fun d e x => by unfold oEqB; split <;> (try split) <;> simp
section
variable {a b : Expr} {pos : Pos} {ta tb : TE} {fa fb : DS → Res D}
theorem ce_eq (hu : X.A.units + 64 < cLine) (ha : CE X W a ta fa) (hb : CE X W b tb fb) : CE X W (.Compare a [.Eq] [b] pos) (tOp (rEqD X.K) ta tb) (cBin oEq fa fb) := ce_cmp (op_eqD hu) ro_eq cm_eq ha hb (nomark _)
theorem ce_ne (hu : X.A.units + 64 < cLine) (ha : CE X W a ta fa) (hb : CE X W b tb fb) : CE X W (.Compare a [.NotEq] [b] pos) (tOp (rNeD X.K) ta tb) (cBin oNe fa fb) := ce_cmp (op_neD hu) ro_ne cm_eq ha hb (nomark _)
end
/-- is None, is not None -/
def isNon : D → Bool
  | .v .non => true
  | _ => false
def oIsN (neg : Bool) : D → D → Res D
  | d, .v .non => .ok (.bl (if neg then !isNon d else isNon d))
  | _, _ => .no
theorem non_dec {B : Hp} {x : V} {d : D} (r : Rp K B x d) : decide (x = .non) = isNon d := by
  cases r with
  | v x => cases x <;> simp [isNon]
  | lst _ _ => simp [isNon]
  | tup _ _ => simp [isNon]
theorem ro_isN : RO K (fun x y H Q => y = .non ∧ Q (.bl (decide (x = .non))) H) (oIsN false) := fun x y d e B H Q i rx ry h => by
  unfold oIsN at h
  split at h
  · cases ry
    rw [non_dec rx]
    exact ⟨rfl, h _ B H (Grow.refl i) (.v _)⟩
  · exact h.elim
theorem ro_notN : RO K (fun x y H Q => y = .non ∧ Q (.bl (!decide (x = .non))) H) (oIsN true) := fun x y d e B H Q i rx ry h => by
  unfold oIsN at h
  split at h
  · cases ry
    rw [non_dec rx]
    exact ⟨rfl, h _ B H (Grow.refl i) (.v _)⟩
  · exact h.elim
theorem cm_isN {n : Bool} : Calm2 (oIsN n) := fun d e x => by unfold oIsN; split <;> simp
section
variable {a b : Expr} {pos : Pos} {ta tb : TE} {fa fb : DS → Res D}
theorem ce_isN (ha : CE X W a ta fa) (hb : CE X W b tb fb) : CE X W (.Compare a [.Is] [b] pos) (tOp (fun x y H Q => y = .non ∧ Q (.bl (decide (x = .non))) H) ta tb) (cBin (oIsN false) fa fb) := ce_cmp op_isN ro_isN cm_isN ha hb (nomark _)
theorem ce_notN (ha : CE X W a ta fa) (hb : CE X W b tb fb) : CE X W (.Compare a [.IsNot] [b] pos) (tOp (fun x y H Q => y = .non ∧ Q (.bl (!decide (x = .non))) H) ta tb) (cBin (oIsN true) fa fb) := ce_cmp op_notN ro_notN cm_isN ha hb (nomark _)
end

/-! ### in, not in: flat things in a list or tuple of flat things -/
def flatD : D → Option V
  | .v x => if flatV x then some x else none
  | _ => none
def flatsD : List D → Option (List V)
  | [] => some []
  | d :: ds => match flatD d, flatsD ds with
    | some x, some xs => some (x :: xs)
    | _, _ => none
theorem flatD_of {B : Hp} {x y : V} {d : D} (r : Rp K B x d) (e : flatD d = some y) : x = y ∧ flatV y = true := by
  cases r with
  | v x =>
    simp only [flatD] at e
    split at e
    · rename_i h; cases e; exact ⟨rfl, h⟩
    · cases e
  | lst _ _ => cases e
  | tup _ _ => cases e
theorem flatsD_of {B : Hp} : ∀ {xs ys : List V} {ds : List D}, RpA K B xs ds → flatsD ds = some ys → xs = ys ∧ ys.all flatV = true
  | _, _, _, .nil, e => by cases e; exact ⟨rfl, rfl⟩
  | _, _, _, .cons (d := d) (ds := ds) h r, e => by
    unfold flatsD at e
    cases q1 : flatD d with
    | none => rw [q1] at e; cases e
    | some a =>
      cases q2 : flatsD ds with
      | none => rw [q1, q2] at e; cases e
      | some as =>
        rw [q1, q2] at e
        cases e
        obtain ⟨e1, h1⟩ := flatD_of h q1
        obtain ⟨e2, h2⟩ := flatsD_of r q2
        subst e1 e2
        exact ⟨rfl, by simp [h1]; simpa using h2⟩
def D.items : D → Option (List D)
  | .lst xs => some xs
  | .tup xs => some xs
  | _ => none
def oIn (neg : Bool) (d e : D) : Res D := match flatD d, e.items with
  | some x, some es => match flatsD es with
    | some xs => .ok (.bl (if neg then !inV x xs else inV x xs))
    | none => .no
  | _, _ => .no
theorem items_of {B : Hp} {y : V} {e : D} {es : List D} (r : Rp K B y e) (h : e.items = some es) : ∃ p xs, y = .ref p ∧ (SqL K B p xs ∨ SqT K B p xs) ∧ RpA K B xs es := by
  cases r with
  | v x => cases h
  | lst h1 q => cases h; exact ⟨_, _, rfl, .inl h1, q⟩
  | tup h1 q => cases h; exact ⟨_, _, rfl, .inr h1, q⟩
theorem ro_in {n : Bool} : RO K (rIn K n) (oIn n) := fun x y d e B H Q i rx ry h => by
  unfold oIn at h
  split at h
  · rename_i x' es e1 e2
    split at h
    · rename_i xs e3
      obtain ⟨p, ys, rfl, hs, q⟩ := items_of ry e2
      obtain ⟨rfl, hf⟩ := flatD_of rx e1
      obtain ⟨rfl, hfs⟩ := flatsD_of q e3
      exact ⟨p, ys, rfl, hs.elim (fun z => .inl (i.seq z)) (fun z => .inr (sqT_mono i z)), hf, hfs, h _ B H (Grow.refl i) (.v _)⟩
    · exact h.elim
  · exact h.elim
theorem cm_in {n : Bool} : Calm2 (oIn n) := fun d e x => by unfold oIn; split <;> (try split) <;> simp
section
variable {a b : Expr} {pos : Pos} {ta tb : TE} {fa fb : DS → Res D}
theorem ce_in (ha : CE X W a ta fa) (hb : CE X W b tb fb) (hm : behindInMarks .In b = false := by rfl) : CE X W (.Compare a [.In] [b] pos) (tOp (rIn X.K false) ta tb) (cBin (oIn false) fa fb) := ce_cmp op_in_seq ro_in cm_in ha hb hm
theorem ce_notin (ha : CE X W a ta fa) (hb : CE X W b tb fb) (hm : behindInMarks .NotIn b = false := by rfl) : CE X W (.Compare a [.NotIn] [b] pos) (tOp (rIn X.K true) ta tb) (cBin (oIn true) fa fb) := ce_cmp op_notIn_seq ro_in cm_in ha hb hm
end
end
end DV
namespace DV
open PySem L2

/-- an operator's three facts -/
structure OK2 (X : Cx) (f : Value → Value → Sem Value) (r : R2) (g : D → D → Res D) : Prop where
  o : OpR X f r
  r : RO X.K r g
  c : Calm2 g
section
variable {X : Cx} {W : WX} {K : PySem.W.Frag}
theorem q_o_add : OK2 X (binaryOp .Add) (rAdd X.K) oAdd := ⟨op_addA, ro_add, cm_add⟩
theorem o_add (K : PySem.W.Frag) (hK : X.K = K) : OK2 X (binaryOp .Add) (rAdd K) oAdd := by
  subst hK
  exact (q_o_add )
theorem o_sub : OK2 X (binaryOp .Sub) (rI0 fun i j => .int (i - j)) oSub := ⟨op_sub, ro_sub, cm_sub⟩
theorem q_o_mul : OK2 X (binaryOp .Mult) (rMulA X.K) oMul2 := ⟨op_mulA, ro_mul, cm_mul⟩
theorem o_mul (K : PySem.W.Frag) (hK : X.K = K) : OK2 X (binaryOp .Mult) (rMulA K) oMul2 := by
  subst hK
  exact (q_o_mul )
theorem o_mod : OK2 X (binaryOp .Mod) (rI (fun _ j => j ≠ 0) fun i j => .int (i.fmod j)) oMod := ⟨op_modN, ro_mod, cm_mod⟩
theorem o_fdiv : OK2 X (binaryOp .FloorDiv) (rI CFd fun i j => .int (i.fdiv j)) oFdiv := ⟨op_fdA, ro_fdiv, cm_fdiv⟩
theorem o_pow : OK2 X (binaryOp .Pow) (rI CPow fun i j => .int (i ^ j.toNat)) oPow := ⟨op_pow, ro_pow, cm_pow⟩
theorem o_lt : OK2 X (compareOp .Lt) (rI0 fun i j => .bl (decide (i < j))) oLt := ⟨op_lt, ro_cI, cm_cI⟩
theorem o_le : OK2 X (compareOp .LtE) (rI0 fun i j => .bl (decide (i ≤ j))) oLe := ⟨op_le, ro_cI, cm_cI⟩
theorem o_gt : OK2 X (compareOp .Gt) (rI0 fun i j => .bl (decide (j < i))) oGt := ⟨op_gt, ro_cI, cm_cI⟩
theorem o_ge : OK2 X (compareOp .GtE) (rI0 fun i j => .bl (decide (j ≤ i))) oGe := ⟨op_ge, ro_cI, cm_cI⟩
theorem q_o_eq (hu : X.A.units + 64 < cLine) : OK2 X (compareOp .Eq) (rEqD X.K) oEq := ⟨op_eqD hu, ro_eq, cm_eq⟩
theorem o_eq (K : PySem.W.Frag) (hK : X.K = K) (hu : X.A.units + 64 < cLine) : OK2 X (compareOp .Eq) (rEqD K) oEq := by
  subst hK
  exact (q_o_eq hu)
theorem q_o_ne (hu : X.A.units + 64 < cLine) : OK2 X (compareOp .NotEq) (rNeD X.K) oNe := ⟨op_neD hu, ro_ne, cm_eq⟩
theorem o_ne (K : PySem.W.Frag) (hK : X.K = K) (hu : X.A.units + 64 < cLine) : OK2 X (compareOp .NotEq) (rNeD K) oNe := by
  subst hK
  exact (q_o_ne hu)
theorem o_is : OK2 X (compareOp .Is) (fun x y H Q => y = .non ∧ Q (.bl (decide (x = .non))) H) (oIsN false) := ⟨op_isN, ro_isN, cm_isN⟩
theorem o_isnot : OK2 X (compareOp .IsNot) (fun x y H Q => y = .non ∧ Q (.bl (!decide (x = .non))) H) (oIsN true) := ⟨op_notN, ro_notN, cm_isN⟩
theorem q_o_in : OK2 X (compareOp .In) (rIn X.K false) (oIn false) := ⟨op_in_seq, ro_in, cm_in⟩
theorem o_in (K : PySem.W.Frag) (hK : X.K = K) : OK2 X (compareOp .In) (rIn K false) (oIn false) := by
  subst hK
  exact (q_o_in )
theorem q_o_notin : OK2 X (compareOp .NotIn) (rIn X.K true) (oIn true) := ⟨op_notIn_seq, ro_in, cm_in⟩

theorem o_notin (K : PySem.W.Frag) (hK : X.K = K) : OK2 X (compareOp .NotIn) (rIn K true) (oIn true) := by
  subst hK
  exact (q_o_notin )
theorem ce_b {a b : Expr} {op : Operator} {pos : Pos} {ta tb : TE} {fa fb : DS → Res D} {r : R2} {g : D → D → Res D} (o : OK2 X (binaryOp op) r g) (ha : CE X W a ta fa) (hb : CE X W b tb fb) : CE X W (.BinOp a op b pos) (tOp r ta tb) (cBin g fa fb) := ce_op o.o o.r o.c ha hb
theorem ce_c {a b : Expr} {op : CmpOp} {pos : Pos} {ta tb : TE} {fa fb : DS → Res D} {r : R2} {g : D → D → Res D} (o : OK2 X (compareOp op) r g) (ha : CE X W a ta fa) (hb : CE X W b tb fb) (hm : behindInMarks op b = false := by first | exact nomark _ | rfl) : CE X W (.Compare a [op] [b] pos) (tOp r ta tb) (cBin g fa fb) := ce_cmp o.o o.r o.c ha hb hm
theorem ce_cc {a b c : Expr} {op op' : CmpOp} {pos : Pos} {ta tb tc : TE} {fa fb fc : DS → Res D} {r r' : R2} {g g' : D → D → Res D} (o : OK2 X (compareOp op) r g) (o' : OK2 X (compareOp op') r' g')
    (ha : CE X W a ta fa) (hb : CE X W b tb fb) (hc : CE X W c tc fc) (hm : lastMarks [op, op'] [b, c] = false := by with_unfolding_all rfl) : CE X W (.Compare a [op, op'] [b, c] pos) (tChain r r' ta tb tc) (cChain g g' fa fb fc) := ce_chain o.o o.r o.c o'.o o'.r o'.c ha hb hc hm

/-! ### tests -/
def asB : D → Res Bool
  | .v (.bl b) => .ok b
  | _ => .no
def cTest (f : DS → Res D) : DS → Res Bool := fun δ => (f δ).bind asB
theorem st_test {t : TE} {f : DS → Res D} (h : SE K W t f) : ST K W (tTest t) (cTest f) := fun B0 H0 δ σ B H Q rel hp => by
  unfold cTest at hp
  refine h B0 H0 δ σ B H _ rel ?_
  cases e : f δ with
  | no => rw [e] at hp; exact hp
  | er x => rw [e] at hp; exact hp
  | ok d =>
    rw [e, Res.bind_ok] at hp
    intro v B1 H1 g1 r1
    unfold asB at hp
    split at hp
    · cases r1
      exact ⟨_, rfl, hp _ _ g1⟩
    · exact hp.elim
theorem ct_val {e : Expr} {t : TE} {f : DS → Res D} (h : CE X W e t f) (he : ∀ whole, isTrue e X.env whole = (do let v ← whole; standAt e.pos; holding [v] (truthy v)) := by intro _; rfl) : CT X W e (tB t) (cTest f) := ⟨pt_val h.pe he, st_test h.se⟩
theorem ct_c {a b : Expr} {op : CmpOp} {pos : Pos} {ta tb : TE} {fa fb : DS → Res D} {r : R2} {g : D → D → Res D} (o : OK2 X (compareOp op) r g) (ha : CE X W a ta fa) (hb : CE X W b tb fb) (hm : behindInMarks op b = false := by first | exact nomark _ | rfl) : CT X W (.Compare a [op] [b] pos) (tTest (tOp r ta tb)) (cTest (cBin g fa fb)) :=
  ⟨pt_cmpR o.o ha.pe hb.pe hm, st_test (se_op o.r o.c ha.se hb.se)⟩
theorem ct_cc {a b c : Expr} {op op' : CmpOp} {pos : Pos} {ta tb tc : TE} {fa fb fc : DS → Res D} {r r' : R2} {g g' : D → D → Res D} (o : OK2 X (compareOp op) r g) (o' : OK2 X (compareOp op') r' g')
    (ha : CE X W a ta fa) (hb : CE X W b tb fb) (hc : CE X W c tc fc) (hm : lastMarks [op, op'] [b, c] = false := by with_unfolding_all rfl) : CT X W (.Compare a [op, op'] [b, c] pos) (tTest (tChain r r' ta tb tc)) (cTest (cChain g g' fa fb fc)) :=
  ⟨pt_chain o.o o'.o ha.pe hb.pe hc.pe hm, st_test (se_chain o.r o.c o'.r o'.c ha.se hb.se hc.se)⟩
def cNotT (f : DS → Res Bool) : DS → Res Bool := fun δ => (f δ).bind fun b => .ok (!b)
def cAndT (f g : DS → Res Bool) : DS → Res Bool := fun δ => (f δ).bind fun b => if b = true then g δ else .ok false
def cOrT (f g : DS → Res Bool) : DS → Res Bool := fun δ => (f δ).bind fun b => if b = true then .ok true else g δ
theorem postT_mono {B H B1 H1 : Hp} {σ : L2.St} {Q : Bool → Hp → Prop} {r : Res Bool} (g : Grow B H B1 H1) (h : PostT K B H σ W Q r) : PostT K B1 H1 σ W Q r := by
  cases r with
  | ok d => exact fun B' H' g' => h B' H' (g.trans g')
  | er x => exact fun c dx B' H' g' rp => h c dx B' H' (g.trans g') rp
  | no => exact h
theorem st_not {t : TT} {f : DS → Res Bool} (h : ST K W t f) : ST K W (tNot t) (cNotT f) := fun B0 H0 δ σ B H Q rel hp => by
  unfold cNotT at hp
  refine h B0 H0 δ σ B H _ rel ?_
  cases e : f δ with
  | no => rw [e] at hp; exact hp
  | er x => rw [e] at hp; exact hp
  | ok d => rw [e, Res.bind_ok] at hp; exact hp
theorem st_and {t u : TT} {f g : DS → Res Bool} (h : ST K W t f) (h2 : ST K W u g) : ST K W (tAnd t u) (cAndT f g) := fun B0 H0 δ σ B H Q rel hp => by
  unfold cAndT at hp
  refine h B0 H0 δ σ B H _ rel ?_
  cases e : f δ with
  | no => rw [e] at hp; exact hp
  | er x => rw [e] at hp; exact hp
  | ok d =>
    rw [e, Res.bind_ok] at hp
    intro B1 H1 g1
    cases d with
    | true => rw [if_pos rfl] at hp ⊢; exact h2 B0 H0 δ σ B1 H1 _ (rel.mono g1) (postT_mono g1 hp)
    | false => rw [if_neg Bool.false_ne_true] at hp ⊢; exact hp _ _ g1
theorem st_or {t u : TT} {f g : DS → Res Bool} (h : ST K W t f) (h2 : ST K W u g) : ST K W (tOr t u) (cOrT f g) := fun B0 H0 δ σ B H Q rel hp => by
  unfold cOrT at hp
  refine h B0 H0 δ σ B H _ rel ?_
  cases e : f δ with
  | no => rw [e] at hp; exact hp
  | er x => rw [e] at hp; exact hp
  | ok d =>
    rw [e, Res.bind_ok] at hp
    intro B1 H1 g1
    cases d with
    | false => rw [if_neg Bool.false_ne_true] at hp ⊢; exact h2 B0 H0 δ σ B1 H1 _ (rel.mono g1) (postT_mono g1 hp)
    | true => rw [if_pos rfl] at hp ⊢; exact hp _ _ g1
theorem ct_not {a : Expr} {pos : Pos} {t : TT} {f : DS → Res Bool} (h : CT X W a t f) : CT X W (.UnaryOp .Not a pos) (tNot t) (cNotT f) := ⟨pt_not h.pt, st_not h.st⟩
theorem cw_and1 {a : Expr} {pos : Pos} {t : TT} {f : DS → Res Bool} (h : CT X W a t f) : CW X W (.BoolOp .And [a] pos) t f := ⟨pw_and1 h.pt, h.st⟩
theorem cw_or1 {a : Expr} {pos : Pos} {t : TT} {f : DS → Res Bool} (h : CT X W a t f) : CW X W (.BoolOp .Or [a] pos) t f := ⟨pw_or1 h.pt, h.st⟩
theorem cw_and {a b : Expr} {rest : List Expr} {pos : Pos} {t u : TT} {f g : DS → Res Bool} (h : CT X W a t f) (h2 : CW X W (.BoolOp .And (b :: rest) pos) u g) : CW X W (.BoolOp .And (a :: b :: rest) pos) (tAnd t u) (cAndT f g) := ⟨pw_and h.pt h2.pw, st_and h.st h2.st⟩
theorem cw_or {a b : Expr} {rest : List Expr} {pos : Pos} {t u : TT} {f g : DS → Res Bool} (h : CT X W a t f) (h2 : CW X W (.BoolOp .Or (b :: rest) pos) u g) : CW X W (.BoolOp .Or (a :: b :: rest) pos) (tOr t u) (cOrT f g) := ⟨pw_or h.pt h2.pw, st_or h.st h2.st⟩

/-! ### and, or, not as values -/
def cAndV (f g : DS → Res D) : DS → Res D := fun δ => (f δ).bind fun x => match x with
  | .v (.bl true) => g δ
  | .v (.bl false) => .ok (.bl false)
  | _ => .no
def cOrV (f g : DS → Res D) : DS → Res D := fun δ => (f δ).bind fun x => match x with
  | .v (.bl true) => .ok (.bl true)
  | .v (.bl false) => g δ
  | _ => .no
def oNot : D → Res D
  | .v (.bl b) => .ok (.bl (!b))
  | _ => .no
theorem se_and {ta tb : TE} {f g : DS → Res D} (ha : SE K W ta f) (hb : SE K W tb g) : SE K W (tAndV ta tb) (cAndV f g) := fun B0 H0 δ σ B H Q rel hp => by
  unfold cAndV at hp
  refine ha B0 H0 δ σ B H _ rel ?_
  cases e : f δ with
  | no => rw [e] at hp; exact hp
  | er x => rw [e] at hp; exact hp
  | ok d =>
    rw [e, Res.bind_ok] at hp
    intro v B1 H1 g1 r1
    split at hp
    · cases r1
      refine ⟨true, rfl, ?_⟩
      rw [if_pos rfl]
      exact hb B0 H0 δ σ B1 H1 _ (rel.mono g1) (postE_mono g1 hp)
    · cases r1
      refine ⟨false, rfl, ?_⟩
      rw [if_neg Bool.false_ne_true]
      exact hp _ _ _ g1 (.v _)
    · exact hp.elim
theorem se_or {ta tb : TE} {f g : DS → Res D} (ha : SE K W ta f) (hb : SE K W tb g) : SE K W (tOrV ta tb) (cOrV f g) := fun B0 H0 δ σ B H Q rel hp => by
  unfold cOrV at hp
  refine ha B0 H0 δ σ B H _ rel ?_
  cases e : f δ with
  | no => rw [e] at hp; exact hp
  | er x => rw [e] at hp; exact hp
  | ok d =>
    rw [e, Res.bind_ok] at hp
    intro v B1 H1 g1 r1
    split at hp
    · cases r1
      refine ⟨true, rfl, ?_⟩
      rw [if_pos rfl]
      exact hp _ _ _ g1 (.v _)
    · cases r1
      refine ⟨false, rfl, ?_⟩
      rw [if_neg Bool.false_ne_true]
      exact hb B0 H0 δ σ B1 H1 _ (rel.mono g1) (postE_mono g1 hp)
    · exact hp.elim
theorem se_notV {ta : TE} {f : DS → Res D} (ha : SE K W ta f) : SE K W (tNotV ta) (cUn oNot f) := fun B0 H0 δ σ B H Q rel hp => by
  unfold cUn at hp
  refine ha B0 H0 δ σ B H _ rel ?_
  cases e : f δ with
  | no => rw [e] at hp; exact hp
  | er x => rw [e] at hp; exact hp
  | ok d =>
    rw [e, Res.bind_ok] at hp
    intro v B1 H1 g1 r1
    unfold oNot at hp
    split at hp
    · cases r1
      exact ⟨_, rfl, hp _ _ _ g1 (.v _)⟩
    · exact hp.elim
theorem ce_one {op} {a : Expr} {pos : Pos} {t : TE} {f : DS → Res D} (h : CE X W a t f) : CE X W (.BoolOp op [a] pos) t f := ⟨pe_one h.pe, h.se⟩
theorem ce_and {a b : Expr} {rest : List Expr} {pos : Pos} {ta tb : TE} {f g : DS → Res D} (h : CE X W a ta f) (h2 : CE X W (.BoolOp .And (b :: rest) pos) tb g) : CE X W (.BoolOp .And (a :: b :: rest) pos) (tAndV ta tb) (cAndV f g) := ⟨pe_and h.pe h2.pe, se_and h.se h2.se⟩
theorem ce_or {a b : Expr} {rest : List Expr} {pos : Pos} {ta tb : TE} {f g : DS → Res D} (h : CE X W a ta f) (h2 : CE X W (.BoolOp .Or (b :: rest) pos) tb g) : CE X W (.BoolOp .Or (a :: b :: rest) pos) (tOrV ta tb) (cOrV f g) := ⟨pe_or h.pe h2.pe, se_or h.se h2.se⟩
theorem ce_not {a : Expr} {pos : Pos} {ta : TE} {f : DS → Res D} (h : CE X W a ta f) : CE X W (.UnaryOp .Not a pos) (tNotV ta) (cUn oNot f) := ⟨pe_not h.pe, se_notV h.se⟩
/-- a if t else b -/
def cIfE (t : DS → Res Bool) (f g : DS → Res D) : DS → Res D := fun δ => (t δ).bind fun b => if b = true then f δ else g δ
theorem ce_if {c a b : Expr} {pos : Pos} {tt : TT} {ta tb : TE} {t : DS → Res Bool} {f g : DS → Res D} (hc : CT X W c tt t) (ha : CE X W a ta f) (hb : CE X W b tb g) : CE X W (.IfExp c a b pos) (tIf tt ta tb) (cIfE t f g) :=
  ⟨pe_ifExp hc.pt ha.pe hb.pe, fun B0 H0 δ σ B H Q rel hp => by
    unfold cIfE at hp
    refine hc.st B0 H0 δ σ B H _ rel ?_
    cases e : t δ with
    | no => rw [e] at hp; exact hp
    | er x => rw [e] at hp; exact hp
    | ok d =>
      rw [e, Res.bind_ok] at hp
      intro B1 H1 g1
      cases d with
      | false => rw [if_neg Bool.false_ne_true] at hp ⊢; exact hb.se B0 H0 δ σ B1 H1 _ (rel.mono g1) (postE_mono g1 hp)
      | true => rw [if_pos rfl] at hp ⊢; exact ha.se B0 H0 δ σ B1 H1 _ (rel.mono g1) (postE_mono g1 hp)⟩

/-! ### arguments and displays -/
structure CL (X : Cx) (W : WX) (es : List Expr) (t : TA) (f : DS → Res (List D)) : Prop extends CA X W es t f where
  ln : ∀ δ ds, f δ = .ok ds → ds.length = es.length
def cNil : DS → Res (List D) := fun _ => .ok []
def cCons (f : DS → Res D) (g : DS → Res (List D)) : DS → Res (List D) := fun δ => (f δ).bind fun x => (g δ).bind fun xs => .ok (x :: xs)
theorem postA_mono {B H B1 H1 : Hp} {σ : L2.St} {Q : List V → Hp → Prop} {r : Res (List D)} (g : Grow B H B1 H1) (h : PostA K B H σ W Q r) : PostA K B1 H1 σ W Q r := by
  cases r with
  | ok d => exact fun v B' H' g' rp => h v B' H' (g.trans g') rp
  | er x => exact fun c dx B' H' g' rp => h c dx B' H' (g.trans g') rp
  | no => exact h
theorem ca_nil : CL X W [] tNil cNil := ⟨⟨pa_nil, fun B0 H0 δ σ B H Q rel hp => hp [] B H (Grow.refl rel.g.i) .nil⟩, fun δ ds h => by cases h; rfl⟩
theorem sa_cons {te : TE} {t : TA} {f : DS → Res D} {g : DS → Res (List D)} (ha : SE K W te f) (hb : SA K W t g) : SA K W (tCons te t) (cCons f g) := fun B0 H0 δ σ B H Q rel hp => by
  unfold cCons at hp
  refine ha B0 H0 δ σ B H _ rel ?_
  cases e : f δ with
  | no => rw [e] at hp; exact hp
  | er x => rw [e] at hp; exact hp
  | ok d =>
    rw [e, Res.bind_ok] at hp
    intro v B1 H1 g1 r1
    refine hb B0 H0 δ σ B1 H1 _ (rel.mono g1) ?_
    cases e2 : g δ with
    | no => rw [e2] at hp; exact hp
    | er x => rw [e2] at hp; exact fun c dx B' H' g' rp => hp c dx B' H' (g1.trans g') rp
    | ok ds =>
      rw [e2, Res.bind_ok] at hp
      exact fun vs B2 H2 g2 r2 => hp _ B2 H2 (g1.trans g2) (.cons (Rp.mono g2.b r1) r2)
theorem ca_cons {e : Expr} {es : List Expr} {te : TE} {t : TA} {f : DS → Res D} {g : DS → Res (List D)} (ha : CE X W e te f) (hb : CL X W es t g) (hs : starEach (e :: es) X.env = (false, eval e X.env) :: starEach es X.env := by rfl) : CL X W (e :: es) (tCons te t) (cCons f g) :=
  ⟨⟨pa_cons ha.pe hb.pa hs, sa_cons ha.se hb.sa⟩, fun δ ds h => by
    unfold cCons at h
    cases e1 : f δ with
    | no => rw [e1] at h; cases h
    | er x => rw [e1] at h; cases h
    | ok d =>
      rw [e1, Res.bind_ok] at h
      cases e2 : g δ with
      | no => rw [e2] at h; cases h
      | er x => rw [e2] at h; cases h
      | ok ds' =>
        rw [e2, Res.bind_ok] at h
        cases h
        simp [hb.ln δ ds' e2]⟩
def cTup (f : DS → Res (List D)) : DS → Res D := fun δ => (f δ).bind fun ds => .ok (.tup ds)
theorem ce_tup {es : List Expr} {x1} {pos : Pos} {t : TA} {f : DS → Res (List D)} (h : CL X W es t f) (hl : es.length ≤ sizeLine := by decide) : CE X W (.Tuple es x1 pos) (tTup t) (cTup f) :=
  ⟨pe_tup h.pa, fun B0 H0 δ σ B H Q rel hp => by
    unfold cTup at hp
    refine h.sa B0 H0 δ σ B H _ rel ?_
    cases e : f δ with
    | no => rw [e] at hp; exact hp
    | er x => rw [e] at hp; exact hp
    | ok ds =>
      rw [e, Res.bind_ok] at hp
      intro vs B1 H1 g1 r1
      refine ⟨by rw [r1.length, h.ln δ ds e]; exact hl, fun p hp' => ?_⟩
      exact hp _ _ _ (g1.trans (Grow.new g1.i hp')) (.tup (SqT.of upd_same) (r1.mono (Grow.new g1.i hp').b))⟩
theorem cf_lst {es : List Expr} {pos : Pos} {t : TA} {f : DS → Res (List D)} (h : CL X W es t f) (hl : es.length ≤ sizeLine := by decide) : CF X W (.List es pos) (tLst t) f :=
  ⟨pe_lst h.pa, fun B0 H0 δ σ B H Q rel hp => by
    refine h.sa B0 H0 δ σ B H _ rel ?_
    cases e : f δ with
    | no => rw [e] at hp; exact hp
    | er x => rw [e] at hp; exact hp
    | ok ds =>
      rw [e] at hp
      intro vs B1 H1 g1 r1
      refine ⟨by rw [r1.length, h.ln δ ds e]; exact hl, fun p hp' => ?_⟩
      exact hp p vs B1 _ (g1.trans (Grow.raw g1.i hp')) (g1.h.free hp') (g1.i.free hp') upd_same r1⟩
/-- a new list as data -/
def cL (f : DS → Res (List D)) : DS → Res D := fun δ => (f δ).bind fun ds => .ok (.lst ds)
theorem se_of_sf {t : TE} {f : DS → Res (List D)} (h : SF K W t f) : SE K W t (cL f) := fun B0 H0 δ σ B H Q rel hp => by
  unfold cL at hp
  refine h B0 H0 δ σ B H _ rel ?_
  cases e : f δ with
  | no => rw [e] at hp; exact hp
  | er x => rw [e] at hp; exact hp
  | ok ds =>
    rw [e, Res.bind_ok] at hp
    intro p vs B1 H1 g1 h0 hb hh r1
    have sb : Same B1 (upd B1 p (.lst vs)) := same_new hb
    refine hp _ (upd B1 p (.lst vs)) H1 ⟨g1.b.trans sb, g1.h, fun a o q => ?_, fun a ha => ?_⟩ (.lst (SqL.of upd_same) (r1.mono sb))
    · by_cases hap : a = p
      · subst hap; rw [upd_same] at q; cases q; exact hh
      · rw [upd_ne hap] at q; exact g1.i a o q
    · have : a ≠ p := fun z => ha (by rw [z]; exact h0)
      rw [upd_ne this]
      exact g1.f a ha
theorem ce_l {e : Expr} {t : TE} {f : DS → Res (List D)} (h : CF X W e t f) : CE X W e t (cL f) := ⟨h.pe, se_of_sf h.sf⟩

/-! ### subscripts and slices -/
def oIx : D → D → Res D
  | .lst xs, .v (.int i) => match atI xs i with
    | some d => .ok d
    | none => .no
  | .tup xs, .v (.int i) => match atI xs i with
    | some d => .ok d
    | none => .no
  | .v (.str z), .v (.int i) => match atI z.cps.toList i with
    | some c => if z.length ≤ sizeLine then .ok (.str ⟨#[c]⟩) else .no
    | none => .no
  | _, _ => .no
theorem RpA.at_ {B : Hp} {vs : List V} {ds : List D} {i : Int} {d : D} (r : RpA K B vs ds) (h : atI ds i = some d) : ∃ v, atI vs i = some v ∧ Rp K B v d := by
  have hl := r.length
  unfold atI at h ⊢
  rw [hl]
  cases e : ixN ds.length i with
  | none => rw [e] at h; cases h
  | some j =>
    rw [e] at h
    exact r.get h
theorem ro_ix : RO K (rIx K) oIx := fun x y d e B H Q i rx ry h => by
  unfold oIx at h
  split at h
  · split at h
    · rename_i d' e'
      cases ry
      cases rx with
      | lst h1 q =>
        obtain ⟨v, e2, r2⟩ := q.at_ e'
        exact .inl ⟨_, _, _, v, rfl, rfl, i.seq h1, e2, h v B H (Grow.refl i) r2⟩
    · exact h.elim
  · split at h
    · rename_i d' e'
      cases ry
      cases rx with
      | tup h1 q =>
        obtain ⟨v, e2, r2⟩ := q.at_ e'
        exact .inr (.inl ⟨_, _, _, v, rfl, rfl, sqT_mono i h1, e2, h v B H (Grow.refl i) r2⟩)
    · exact h.elim
  · split at h
    · rename_i c e'
      split at h
      · rename_i hz
        cases ry
        cases rx
        exact .inr (.inr ⟨_, _, c, rfl, rfl, hz, e', h _ B H (Grow.refl i) (.v _)⟩)
      · exact h.elim
    · exact h.elim
  · exact h.elim
theorem cm_ix : Calm2 oIx := fun d e x => by unfold oIx; split <;> (try split) <;> (try split) <;> simp
theorem q_ce_ix {a b : Expr} {pos : Pos} {ta tb : TE} {fa fb : DS → Res D} (ha : CE X W a ta fa) (hb : CE X W b tb fb) (hs : PlainIx b := by exact fun _ _ => rfl) : CE X W (.Subscript a b pos) (tOp (rIx X.K) ta tb) (cBin oIx fa fb) := ⟨pe_ix ix_seq ha.pe hb.pe hs, se_op ro_ix cm_ix ha.se hb.se⟩
theorem ce_ix (K : PySem.W.Frag) (hK : X.K = K) {a b : Expr} {pos : Pos} {ta tb : TE} {fa fb : DS → Res D} (ha : CE X W a ta fa) (hb : CE X W b tb fb) (hs : PlainIx b := by exact fun _ _ => rfl) : CE X W (.Subscript a b pos) (tOp (rIx K) ta tb) (cBin oIx fa fb) := by
  subst hK
  exact (q_ce_ix ha hb hs)
end
end DV
namespace DV
open PySem L2
section
variable {X : Cx} {W : WX} {K : PySem.W.Frag}

/-! ### slices -/
def cutD (xs : List D) (lo hi : Option Int) : List D := (xs.drop (HT.sIx xs.length 0 lo)).take (HT.sIx xs.length xs.length hi - HT.sIx xs.length 0 lo)
theorem RpA.cut {B : Hp} {vs : List V} {ds : List D} (r : RpA K B vs ds) (lo hi : Option Int) : RpA K B (cutV vs lo hi) (cutD ds lo hi) := by
  unfold cutV cutD
  rw [r.length]
  exact (r.drop _).take _
def asI : D → Res (Option Int)
  | .v (.int i) => .ok (some i)
  | _ => .no
def cNone : DS → Res (Option Int) := fun _ => .ok none
def cSome (f : DS → Res D) : DS → Res (Option Int) := fun δ => (f δ).bind asI
def PostO (K : PySem.W.Frag) (B H : Hp) (σ : L2.St) (W : WX) (Q : Option Int → Hp → Prop) : Res (Option Int) → Prop
  | .ok o => ∀ B' H', Grow B H B' H' → Q o H'
  | .er x => ∀ c dx B' H', Grow B H B' H' → RpX K B' c dx x → W c dx σ H'
  | .no => False
structure CO (X : Cx) (W : WX) (e : Option Expr) (t : TO) (f : DS → Res (Option Int)) : Prop where
  po : PO X e t
  so : ∀ B0 H0 δ σ B H (Q : Option Int → Hp → Prop), Rel X.K B0 H0 B H σ δ → PostO X.K B H σ W Q (f δ) → t σ H Q
theorem co_none : CO X W none tNoPart cNone := ⟨po_none, fun B0 H0 δ σ B H Q rel hp => hp B H (Grow.refl rel.g.i)⟩
theorem co_some {e : Expr} {t : TE} {f : DS → Res D} (h : CE X W e t f) : CO X W (some e) (tPart t) (cSome f) := ⟨po_some h.pe, fun B0 H0 δ σ B H Q rel hp => by
  unfold cSome at hp
  refine h.se B0 H0 δ σ B H _ rel ?_
  cases e : f δ with
  | no => rw [e] at hp; exact hp
  | er x => rw [e] at hp; exact hp
  | ok d =>
    rw [e, Res.bind_ok] at hp
    intro v B1 H1 g1 r1
    unfold asI at hp
    split at hp
    · cases r1; exact ⟨_, rfl, hp B1 H1 g1⟩
    · exact hp.elim⟩
def oSl (lo hi : Option Int) : D → Res D
  | .lst xs => .ok (.lst (cutD xs lo hi))
  | .tup xs => .ok (.tup (cutD xs lo hi))
  | .v (.str z) => if z.length ≤ sizeLine then .ok (.str (cutS z lo hi)) else .no
  | _ => .no
def rSlD (K : PySem.W.Frag) : V → Option Int → Option Int → Hp → VK → Prop := fun x lo hi H Q => rSlL K x lo hi H Q ∨ rSlA K x lo hi H Q ∨ rSlS x lo hi H Q
theorem sl_D : SlR X (rSlD X.K) := sl_list.or (sl_tupA.or sl_str)
theorem cut_whole {xs : List V} {lo hi : Option Int} (h : HT.sIx xs.length 0 lo = 0 ∧ HT.sIx xs.length xs.length hi = xs.length) : cutV xs lo hi = xs := by
  unfold cutV
  rw [h.1, h.2]
  simp
theorem rs_sl {x : V} {d : D} {lo hi : Option Int} {B H : Hp} {Q : VK} (i : Same B H) (rx : Rp K B x d) (h : PostV K B H Q (oSl lo hi d)) : rSlD K x lo hi H Q := by
  unfold oSl at h
  split at h
  · cases rx with
    | lst h1 q => exact .inl ⟨_, _, rfl, i.seq h1, fun p hp => h _ _ _ (Grow.new i hp) (.lst (SqL.of upd_same) ((q.cut lo hi).mono (Grow.new i hp).b))⟩
  · cases rx with
    | tup h1 q =>
      refine .inr (.inl ⟨_, _, rfl, sqT_mono i h1, fun hw => ?_, fun hw p hp => ?_⟩)
      · refine h _ B H (Grow.refl i) ?_
        have q2 := q.cut lo hi
        rw [cut_whole hw] at q2
        exact .tup h1 q2
      · exact h _ _ _ (Grow.new i hp) (.tup (SqT.of upd_same) ((q.cut lo hi).mono (Grow.new i hp).b))
  · split at h
    · rename_i hz
      cases rx
      exact .inr (.inr ⟨_, rfl, hz, h _ B H (Grow.refl i) (.v _)⟩)
    · exact h.elim
  · exact h.elim
theorem cm_sl {lo hi : Option Int} {d : D} (x : Exn) : oSl lo hi d ≠ .er x := by unfold oSl; split <;> (try split) <;> simp
def cSl (f : DS → Res D) (lo hi : DS → Res (Option Int)) : DS → Res D := fun δ => (f δ).bind fun x => (lo δ).bind fun l => (hi δ).bind fun h => oSl l h x
theorem q_ce_sl {e : Expr} {lo hi : Option Expr} {p2 pos : Pos} {te : TE} {tl th : TO} {f : DS → Res D} {fl fh : DS → Res (Option Int)} (he : CE X W e te f) (hl : CO X W lo tl fl) (hh : CO X W hi th fh) : CE X W (.Subscript e (.Slice lo hi none p2) pos) (tSl (rSlD X.K) te tl th) (cSl f fl fh) :=
  ⟨pe_slice sl_D he.pe hl.po hh.po, fun B0 H0 δ σ B H Q rel hp => by
    unfold cSl at hp
    refine he.se B0 H0 δ σ B H _ rel ?_
    cases e : f δ with
    | no => rw [e] at hp; exact hp
    | er x => rw [e] at hp; exact hp
    | ok d =>
      rw [e, Res.bind_ok] at hp
      intro v B1 H1 g1 r1
      refine hl.so B0 H0 δ σ B1 H1 _ (rel.mono g1) ?_
      cases e2 : fl δ with
      | no => rw [e2] at hp; exact hp
      | er x => rw [e2] at hp; exact fun c dx B' H' g' rp => hp c dx B' H' (g1.trans g') rp
      | ok l =>
        rw [e2, Res.bind_ok] at hp
        intro B2 H2 g2
        refine hh.so B0 H0 δ σ B2 H2 _ ((rel.mono g1).mono g2) ?_
        cases e3 : fh δ with
        | no => rw [e3] at hp; exact hp
        | er x => rw [e3] at hp; exact fun c dx B' H' g' rp => hp c dx B' H' ((g1.trans g2).trans g') rp
        | ok h =>
          rw [e3, Res.bind_ok] at hp
          intro B3 H3 g3
          exact rs_sl g3.i (r1.mono (g2.b.trans g3.b)) (postV_of (postE_mono ((g1.trans g2).trans g3) hp) fun x => cm_sl x)⟩
theorem ce_sl (K : PySem.W.Frag) (hK : X.K = K) {e : Expr} {lo hi : Option Expr} {p2 pos : Pos} {te : TE} {tl th : TO} {f : DS → Res D} {fl fh : DS → Res (Option Int)} (he : CE X W e te f) (hl : CO X W lo tl fl) (hh : CO X W hi th fh) : CE X W (.Subscript e (.Slice lo hi none p2) pos) (tSl (rSlD K) te tl th) (cSl f fl fh) := by
  subst hK
  exact (q_ce_sl he hl hh)
/-- xs[::-1], a list -/
def oRevL : D → Res D
  | .lst xs => .ok (.lst xs.reverse)
  | _ => .no
theorem ce_revL {e : Expr} {k : Nat} {p1 p2 p3 pos : Pos} {te : TE} {f : DS → Res D} (he : CE X W e te f) : CE X W (.Subscript e (.Slice none none (some (.UnaryOp .USub (.Constant (.int 1) k p1) p2)) p3) pos) (tRevL X.K te) (cUn oRevL f) :=
  ⟨pe_revL he.pe, fun B0 H0 δ σ B H Q rel hp => by
    unfold cUn at hp
    refine he.se B0 H0 δ σ B H _ rel ?_
    cases e : f δ with
    | no => rw [e] at hp; exact hp
    | er x => rw [e] at hp; exact hp
    | ok d =>
      rw [e, Res.bind_ok] at hp
      intro v B1 H1 g1 r1
      unfold oRevL at hp
      split at hp
      · cases r1 with
        | lst h1 q => exact ⟨_, _, rfl, g1.i.seq h1, fun p hp' => hp _ _ _ (g1.trans (Grow.new g1.i hp')) (.lst (SqL.of upd_same) (q.reverse.mono (Grow.new g1.i hp').b))⟩
      · exact hp.elim⟩

/-! ### built-in functions -/
def RC (K : PySem.W.Frag) (r : List V → Hp → VK → Prop) (g : List D → Res D) : Prop := ∀ vs ds B H Q, Same B H → RpA K B vs ds → PostV K B H Q (g ds) → r vs H Q
structure OKC (X : Cx) (f : Value) (r : List V → Hp → VK → Prop) (g : List D → Res D) : Prop where
  o : CallR X f r
  r : RC X.K r g
  c : ∀ ds x, g ds ≠ .er x
def cCall (g : List D → Res D) (f : DS → Res (List D)) : DS → Res D := fun δ => (f δ).bind g
theorem se_call {t : TA} {f : DS → Res (List D)} {r : List V → Hp → VK → Prop} {g : List D → Res D} (hr : RC K r g) (hc : ∀ ds x, g ds ≠ .er x) (h : SA K W t f) : SE K W (tCB r t) (cCall g f) := fun B0 H0 δ σ B H Q rel hp => by
  unfold cCall at hp
  refine h B0 H0 δ σ B H _ rel ?_
  cases e : f δ with
  | no => rw [e] at hp; exact hp
  | er x => rw [e] at hp; exact hp
  | ok ds =>
    rw [e, Res.bind_ok] at hp
    intro vs B1 H1 g1 r1
    exact hr vs ds B1 H1 Q g1.i r1 (postV_of (postE_mono g1 hp) (hc ds))
theorem ce_callB {id : String} {x : Str} {e : Expr} {es : List Expr} {p pos : Pos} {r : List V → Hp → VK → Prop} {g : List D → Res D} {t : TA} {f : DS → Res (List D)} (o : OKC X (.builtin id) r g) (hm : X.mg x = none) (hv : bootBuiltins x = some (.builtin id)) (ha : CL X W (e :: es) t f) (hg : Gl X x := by rfl) (hn : x ≠ "__name__" := by decide) (hdb : (x == ("__debug__" : Str)) = false := by decide)
    (he : starEach (e :: es) X.env = (false, eval e X.env) :: starEach es X.env := by rfl) (hpl : (backTo pos (starEach es X.env)).any (·.1) = false := by rfl) : CE X W (.Call (.Name x p) (e :: es) [] pos) (tCB r t) (cCall g f) := ⟨pe_callB o.o hg hm hv ha.pa hn hdb he hpl, se_call o.r o.c ha.sa⟩
theorem ce_callTy {T : String} {x : Str} {e : Expr} {es : List Expr} {p pos : Pos} {r : List V → Hp → VK → Prop} {g : List D → Res D} {t : TA} {f : DS → Res (List D)} (o : OKC X (.type T) r g) (hm : X.mg x = none) (hv : bootBuiltins x = some (.type T)) (ha : CL X W (e :: es) t f) (hg : Gl X x := by rfl) (hn : x ≠ "__name__" := by decide) (hdb : (x == ("__debug__" : Str)) = false := by decide)
    (he : starEach (e :: es) X.env = (false, eval e X.env) :: starEach es X.env := by rfl) (hpl : (backTo pos (starEach es X.env)).any (·.1) = false := by rfl) : CE X W (.Call (.Name x p) (e :: es) [] pos) (tCB r t) (cCall g f) := ⟨pe_callTy o.o hg hm hv ha.pa hn hdb he hpl, se_call o.r o.c ha.sa⟩

def gAbs : List D → Res D
  | [.v (.int i)] => .ok (.int (if i < 0 then -i else i))
  | _ => .no
theorem k_abs : OKC X (.builtin "abs") (fun xs H Q => ∃ i, xs = [.int i] ∧ Q (.int (if i < 0 then -i else i)) H) gAbs := ⟨call_abs, fun vs ds B H Q i r h => by
  unfold gAbs at h
  split at h
  · cases r with
    | cons r1 r2 => cases r2; cases r1; exact ⟨_, rfl, h _ B H (Grow.refl i) (.v _)⟩
  · exact h.elim, fun ds x => by unfold gAbs; split <;> simp⟩
def gLen : List D → Res D
  | [.lst xs] => .ok (.int (xs.length : Nat))
  | [.tup xs] => .ok (.int (xs.length : Nat))
  | [.v (.str z)] => if z.length ≤ sizeLine then .ok (.int (z.length : Nat)) else .no
  | _ => .no
theorem q_k_len : OKC X (.builtin "len") (fun xs H Q => ∃ x n, xs = [x] ∧ LenV X.K x H n ∧ Q (.int n) H) gLen := ⟨call_len, fun vs ds B H Q i r h => by
  unfold gLen at h
  split at h
  · cases r with
    | cons r1 r2 =>
      cases r2
      cases r1 with
      | lst h1 q => exact ⟨_, _, rfl, .inl ⟨_, i.seq h1, rfl⟩, by rw [q.length]; exact h _ B H (Grow.refl i) (.v _)⟩
  · cases r with
    | cons r1 r2 =>
      cases r2
      cases r1 with
      | tup h1 q => exact ⟨_, _, rfl, .inr ⟨_, sqT_mono i h1, rfl⟩, by rw [q.length]; exact h _ B H (Grow.refl i) (.v _)⟩
  · split at h
    · rename_i hz
      cases r with
      | cons r1 r2 => cases r2; cases r1; exact ⟨_, _, rfl, ⟨hz, rfl⟩, h _ B H (Grow.refl i) (.v _)⟩
    · exact h.elim
  · exact h.elim, fun ds x => by unfold gLen; split <;> (try split) <;> simp⟩
theorem k_len (K : PySem.W.Frag) (hK : X.K = K) : OKC X (.builtin "len") (fun xs H Q => ∃ x n, xs = [x] ∧ LenV K x H n ∧ Q (.int n) H) gLen := by
  subst hK
  exact (q_k_len )
/-- a list of ints, of bools -/
def intsD : List D → Option (List Int)
  | [] => some []
  | .v (.int i) :: ds => (intsD ds).map (i :: ·)
  | _ => none
def blsD : List D → Option (List Bool)
  | [] => some []
  | .v (.bl i) :: ds => (blsD ds).map (i :: ·)
  | _ => none
theorem intsD_of : ∀ {ds : List D} {ns : List Int}, intsD ds = some ns → ds = ns.map D.int
  | [], ns, h => by cases h; rfl
  | d :: ds, ns, h => by
    unfold intsD at h
    split at h
    · rename_i e; cases e
    · rename_i i ds' e
      cases e
      cases q : intsD ds with
      | none => rw [q] at h; cases h
      | some ms => rw [q] at h; cases h; rw [intsD_of q]; rfl
    · cases h
theorem blsD_of : ∀ {ds : List D} {ns : List Bool}, blsD ds = some ns → ds = ns.map D.bl
  | [], ns, h => by cases h; rfl
  | d :: ds, ns, h => by
    unfold blsD at h
    split at h
    · rename_i e; cases e
    · rename_i i ds' e
      cases e
      cases q : blsD ds with
      | none => rw [q] at h; cases h
      | some ms => rw [q] at h; cases h; rw [blsD_of q]; rfl
    · cases h
@[simp] theorem intsD_map (ns : List Int) : intsD (ns.map D.int) = some ns := by
  induction ns with
  | nil => rfl
  | cons n ns ih => simp [intsD, ih]
@[simp] theorem blsD_map (ns : List Bool) : blsD (ns.map D.bl) = some ns := by
  induction ns with
  | nil => rfl
  | cons n ns ih => simp [blsD, ih]
def gInts (g : List Int → Res D) : List D → Res D
  | [.lst ds] => match intsD ds with
    | some ns => g ns
    | none => .no
  | _ => .no
def gBls (g : List Bool → Res D) : List D → Res D
  | [.lst ds] => match blsD ds with
    | some ns => g ns
    | none => .no
  | _ => .no
theorem rc_ints {r : List V → Hp → VK → Prop} {g : List Int → Res D} (h : ∀ a ns B H Q, Same B H → SqL K H a (ns.map V.int) → PostV K B H Q (g ns) → r [.ref a] H Q) : RC K r (gInts g) := fun vs ds B H Q i rr hp => by
  unfold gInts at hp
  split at hp
  · split at hp
    · rename_i ds ns e
      cases rr with
      | cons r1 r2 =>
        cases r2
        cases r1 with
        | lst h1 q =>
          rw [intsD_of e] at q
          have e2 := q.ints_of
          subst e2
          exact h _ _ B H Q i (i.seq h1) hp
    · exact hp.elim
  · exact hp.elim
theorem rc_bls {r : List V → Hp → VK → Prop} {g : List Bool → Res D} (h : ∀ a ns B H Q, Same B H → SqL K H a (ns.map V.bl) → PostV K B H Q (g ns) → r [.ref a] H Q) : RC K r (gBls g) := fun vs ds B H Q i rr hp => by
  unfold gBls at hp
  split at hp
  · split at hp
    · rename_i ds ns e
      cases rr with
      | cons r1 r2 =>
        cases r2
        cases r1 with
        | lst h1 q =>
          rw [blsD_of e] at q
          have e2 := q.bls_of
          subst e2
          exact h _ _ B H Q i (i.seq h1) hp
    · exact hp.elim
  · exact hp.elim
theorem gInts_calm {g : List Int → Res D} (h : ∀ ns x, g ns ≠ .er x) (ds : List D) (x : Exn) : gInts g ds ≠ .er x := by
  unfold gInts; split <;> (try split) <;> first | exact h _ _ | simp
theorem gBls_calm {g : List Bool → Res D} (h : ∀ ns x, g ns ≠ .er x) (ds : List D) (x : Exn) : gBls g ds ≠ .er x := by
  unfold gBls; split <;> (try split) <;> first | exact h _ _ | simp
def gSum : List D → Res D := gInts fun ns => .ok (.int ns.sum)
def gAll : List D → Res D := gBls fun bs => .ok (.bl (bs.all id))
def gAny : List D → Res D := gBls fun bs => .ok (.bl (bs.any id))
theorem q_k_sum (hc : X.calm = true := by rfl) : OKC X (.builtin "sum") (rSum X.K) gSum := ⟨cr_sum hc, rc_ints fun a ns B H Q i hs hp => ⟨a, ns, rfl, hs, hp _ B H (Grow.refl i) (.v _)⟩, gInts_calm fun _ _ => by simp⟩
theorem k_sum (K : PySem.W.Frag) (hK : X.K = K) (hc : X.calm = true := by rfl) : OKC X (.builtin "sum") (rSum K) gSum := by
  subst hK
  exact (q_k_sum hc)
theorem q_k_all (hc : X.calm = true := by rfl) : OKC X (.builtin "all") (rAll X.K) gAll := ⟨cr_all hc, rc_bls fun a ns B H Q i hs hp => ⟨a, ns, rfl, hs, hp _ B H (Grow.refl i) (.v _)⟩, gBls_calm fun _ _ => by simp⟩
theorem k_all (K : PySem.W.Frag) (hK : X.K = K) (hc : X.calm = true := by rfl) : OKC X (.builtin "all") (rAll K) gAll := by
  subst hK
  exact (q_k_all hc)
theorem q_k_any (hc : X.calm = true := by rfl) : OKC X (.builtin "any") (rAny X.K) gAny := ⟨cr_any hc, rc_bls fun a ns B H Q i hs hp => ⟨a, ns, rfl, hs, hp _ B H (Grow.refl i) (.v _)⟩, gBls_calm fun _ _ => by simp⟩
theorem k_any (K : PySem.W.Frag) (hK : X.K = K) (hc : X.calm = true := by rfl) : OKC X (.builtin "any") (rAny K) gAny := by
  subst hK
  exact (q_k_any hc)
/-- least and greatest -/
def minI : Int → List Int → Int
  | m, [] => m
  | m, n :: ns => minI (if n < m then n else m) ns
def maxI : Int → List Int → Int
  | m, [] => m
  | m, n :: ns => maxI (if m < n then n else m) ns
theorem minI_spec : ∀ (ns : List Int) (m : Int), minI m ns ∈ m :: ns ∧ ∀ y ∈ m :: ns, minI m ns ≤ y
  | [], m => by simp [minI]
  | n :: ns, m => by
    obtain ⟨h1, h2⟩ := minI_spec ns (if n < m then n else m)
    unfold minI
    refine ⟨?_, fun y hy => ?_⟩
    · rcases List.mem_cons.mp h1 with e | e
      · rw [e]; split <;> simp
      · simp [e]
    · have h3 := h2 (if n < m then n else m) (by simp)
      have h4 : (if n < m then n else m) ≤ m ∧ (if n < m then n else m) ≤ n := by split <;> omega
      rcases List.mem_cons.mp hy with e | e
      · subst e; exact Int.le_trans h3 h4.1
      · rcases List.mem_cons.mp e with e | e
        · subst e; exact Int.le_trans h3 h4.2
        · exact h2 y (by simp [e])
theorem maxI_spec : ∀ (ns : List Int) (m : Int), maxI m ns ∈ m :: ns ∧ ∀ y ∈ m :: ns, y ≤ maxI m ns
  | [], m => by simp [maxI]
  | n :: ns, m => by
    obtain ⟨h1, h2⟩ := maxI_spec ns (if m < n then n else m)
    unfold maxI
    refine ⟨?_, fun y hy => ?_⟩
    · rcases List.mem_cons.mp h1 with e | e
      · rw [e]; split <;> simp
      · simp [e]
    · have h3 := h2 (if m < n then n else m) (by simp)
      have h4 : m ≤ (if m < n then n else m) ∧ n ≤ (if m < n then n else m) := by split <;> omega
      rcases List.mem_cons.mp hy with e | e
      · subst e; exact Int.le_trans h4.1 h3
      · rcases List.mem_cons.mp e with e | e
        · subst e; exact Int.le_trans h4.2 h3
        · exact h2 y (by simp [e])
def gMin : List D → Res D
  | [.v (.int i), .v (.int j)] => .ok (.int (if j < i then j else i))
  | ds => gInts (fun ns => match ns with | [] => .no | n :: ns => .ok (.int (minI n ns))) ds
def gMax : List D → Res D
  | [.v (.int i), .v (.int j)] => .ok (.int (if j > i then j else i))
  | ds => gInts (fun ns => match ns with | [] => .no | n :: ns => .ok (.int (maxI n ns))) ds
theorem q_k_min (hc : X.calm = true := by rfl) : OKC X (.builtin "min") (fun xs H Q => (∃ i j, xs = [V.int i, .int j] ∧ Q (.int (if j < i then j else i)) H) ∨ rMin X.K xs H Q) gMin := ⟨CallR.or (call_min2 hc) (cr_min hc), fun vs ds B H Q i r h => by
  unfold gMin at h
  split at h
  · cases r with
    | cons r1 r2 =>
      cases r2 with
      | cons r2 r3 => cases r1; cases r2; cases r3; exact .inl ⟨_, _, rfl, h _ B H (Grow.refl i) (.v _)⟩
  · refine .inr (rc_ints (r := rMin X.K) (fun a ns B H Q i hs hp => ?_) vs ds B H Q i r h)
    cases ns with
    | nil => exact hp.elim
    | cons n ns =>
      refine ⟨a, n :: ns, rfl, hs, by simp, fun m hm hl => ?_⟩
      obtain ⟨h1, h2⟩ := minI_spec ns n
      have e : m = minI n ns := Int.le_antisymm (hl _ h1) (h2 _ hm)
      rw [e]
      exact hp _ B H (Grow.refl i) (.v _), fun ds x => by
  unfold gMin
  split
  · simp
  · exact gInts_calm (fun ns x => by cases ns <;> simp) _ _⟩
theorem k_min (K : PySem.W.Frag) (hK : X.K = K) (hc : X.calm = true := by rfl) : OKC X (.builtin "min") (fun xs H Q => (∃ i j, xs = [V.int i, .int j] ∧ Q (.int (if j < i then j else i)) H) ∨ rMin K xs H Q) gMin := by
  subst hK
  exact (q_k_min hc)
theorem q_k_max (hc : X.calm = true := by rfl) : OKC X (.builtin "max") (fun xs H Q => (∃ i j, xs = [V.int i, .int j] ∧ Q (.int (if j > i then j else i)) H) ∨ rMax X.K xs H Q) gMax := ⟨CallR.or (call_max2 hc) (cr_max hc), fun vs ds B H Q i r h => by
  unfold gMax at h
  split at h
  · cases r with
    | cons r1 r2 =>
      cases r2 with
      | cons r2 r3 => cases r1; cases r2; cases r3; exact .inl ⟨_, _, rfl, h _ B H (Grow.refl i) (.v _)⟩
  · refine .inr (rc_ints (r := rMax X.K) (fun a ns B H Q i hs hp => ?_) vs ds B H Q i r h)
    cases ns with
    | nil => exact hp.elim
    | cons n ns =>
      refine ⟨a, n :: ns, rfl, hs, by simp, fun m hm hl => ?_⟩
      obtain ⟨h1, h2⟩ := maxI_spec ns n
      have e : m = maxI n ns := Int.le_antisymm (h2 _ hm) (hl _ h1)
      rw [e]
      exact hp _ B H (Grow.refl i) (.v _), fun ds x => by
  unfold gMax
  split
  · simp
  · exact gInts_calm (fun ns x => by cases ns <;> simp) _ _⟩
theorem k_max (K : PySem.W.Frag) (hK : X.K = K) (hc : X.calm = true := by rfl) : OKC X (.builtin "max") (fun xs H Q => (∃ i j, xs = [V.int i, .int j] ∧ Q (.int (if j > i then j else i)) H) ∨ rMax K xs H Q) gMax := by
  subst hK
  exact (q_k_max hc)
def sortI (ns : List Int) : List Int := ns.mergeSort (fun a b => decide (a ≤ b))
theorem sortI_perm (ns : List Int) : (sortI ns).Perm ns := List.mergeSort_perm ns _
theorem sortI_sorted (ns : List Int) : (sortI ns).Pairwise (· ≤ ·) := by
  have h := List.pairwise_mergeSort (le := fun (a b : Int) => decide (a ≤ b)) (fun a b c h1 h2 => by simp at *; omega) (fun a b => by simp; omega) ns
  exact h.imp fun h => by simpa using h
theorem sortI_unique {ns ms : List Int} (hp : ms.Perm ns) (hs : ms.Pairwise (· ≤ ·)) : ms = sortI ns :=
  List.Perm.eq_of_pairwise (fun _ _ _ _ a b => Int.le_antisymm a b) hs (sortI_sorted ns) (hp.trans (sortI_perm ns).symm)
def gSortedI : List D → Res D := gInts fun ns => .ok (.lst ((sortI ns).map D.int))
theorem q_k_sortedI : OKC X (.builtin "sorted") (rSortedI X.K) gSortedI := ⟨cr_sortedI, rc_ints fun a ns B H Q i hs hp => ⟨a, ns, rfl, hs, fun ns' p h1 h2 h3 => by
  rw [sortI_unique h1 h2]
  exact hp _ _ _ (Grow.new i h3) (.lst (SqL.of upd_same) (RpA.ints _))⟩, gInts_calm fun _ _ => by simp⟩
theorem k_sortedI (K : PySem.W.Frag) (hK : X.K = K) : OKC X (.builtin "sorted") (rSortedI K) gSortedI := by
  subst hK
  exact (q_k_sortedI )
def gTuple : List D → Res D
  | [.lst xs] => .ok (.tup xs)
  | [.tup xs] => .ok (.tup xs)
  | _ => .no
theorem q_k_tuple : OKC X (.type "tuple") (fun xs H Q => ∃ p ys, xs = [.ref p] ∧ ((SqL X.K H p ys ∧ ∀ l, H l = none → Q (.ref l) (upd H l (.tup ys))) ∨ (SqT X.K H p ys ∧ Q (.ref p) H))) gTuple := ⟨call_tuple_of, fun vs ds B H Q i r h => by
  unfold gTuple at h
  split at h
  · cases r with
    | cons r1 r2 =>
      cases r2
      cases r1 with
      | lst h1 q => exact ⟨_, _, rfl, .inl ⟨i.seq h1, fun p hp => h _ _ _ (Grow.new i hp) (.tup (SqT.of upd_same) (q.mono (Grow.new i hp).b))⟩⟩
  · cases r with
    | cons r1 r2 =>
      cases r2
      cases r1 with
      | tup h1 q => exact ⟨_, _, rfl, .inr ⟨sqT_mono i h1, h _ B H (Grow.refl i) (.tup h1 q)⟩⟩
  · exact h.elim, fun ds x => by unfold gTuple; split <;> simp⟩
theorem k_tuple (K : PySem.W.Frag) (hK : X.K = K) : OKC X (.type "tuple") (fun xs H Q => ∃ p ys, xs = [.ref p] ∧ ((SqL K H p ys ∧ ∀ l, H l = none → Q (.ref l) (upd H l (.tup ys))) ∨ (SqT K H p ys ∧ Q (.ref p) H))) gTuple := by
  subst hK
  exact (q_k_tuple )
def gList : List D → Res D
  | [.lst xs] => .ok (.lst xs)
  | [.tup xs] => .ok (.lst xs)
  | _ => .no
theorem q_k_list : OKC X (.type "list") (fun xs H Q => ∃ p ys, xs = [.ref p] ∧ (SqL X.K H p ys ∨ SqT X.K H p ys) ∧ ∀ l, H l = none → Q (.ref l) (upd H l (.lst ys))) gList := ⟨call_list_of, fun vs ds B H Q i r h => by
  unfold gList at h
  split at h
  · cases r with
    | cons r1 r2 =>
      cases r2
      cases r1 with
      | lst h1 q => exact ⟨_, _, rfl, .inl (i.seq h1), fun p hp => h _ _ _ (Grow.new i hp) (.lst (SqL.of upd_same) (q.mono (Grow.new i hp).b))⟩
  · cases r with
    | cons r1 r2 =>
      cases r2
      cases r1 with
      | tup h1 q => exact ⟨_, _, rfl, .inr (sqT_mono i h1), fun p hp => h _ _ _ (Grow.new i hp) (.lst (SqL.of upd_same) (q.mono (Grow.new i hp).b))⟩
  · exact h.elim, fun ds x => by unfold gList; split <;> simp⟩
theorem k_list (K : PySem.W.Frag) (hK : X.K = K) : OKC X (.type "list") (fun xs H Q => ∃ p ys, xs = [.ref p] ∧ (SqL K H p ys ∨ SqT K H p ys) ∧ ∀ l, H l = none → Q (.ref l) (upd H l (.lst ys))) gList := by
  subst hK
  exact (q_k_list )
/-- isinstance(d, T), T a built-in type -/
def tyD : D → Option String
  | .v .non => some "NoneType"
  | .v (.bl _) => some "bool"
  | .v (.int _) => some "int"
  | .v (.str _) => some "str"
  | .lst _ => some "list"
  | .tup _ => some "tuple"
  | _ => none
end
end DV
namespace DV
open PySem L2
section
variable {X : Cx} {W : WX} {K : PySem.W.Frag}

/-! ### isinstance -/
def isiD (d : D) (T : String) : Option Bool := match tyD d with
  | some t => if T = "int" then some (t == "int" || t == "bool") else if T = "bool" then some (t == "bool") else if T = "str" then some (t == "str") else if T = "list" then some (t == "list") else if T = "tuple" then some (t == "tuple") else none
  | none => none
def tys : List String := ["NoneType", "bool", "int", "str", "list", "tuple"]
theorem kit_all : (tys.all fun t => kitB t "int" == some (t == "int" || t == "bool") && kitB t "bool" == some (t == "bool") && kitB t "str" == some (t == "str") && kitB t "list" == some (t == "list") && kitB t "tuple" == some (t == "tuple")) = true := by decide +kernel
theorem tyD_mem {d : D} {t : String} (h : tyD d = some t) : t ∈ tys := by
  unfold tyD at h
  split at h <;> first | (cases h; decide) | cases h
theorem kit_isi {d : D} {T t : String} {b : Bool} (ht : tyD d = some t) (h : isiD d T = some b) : kitB t T = some b := by
  have hm := List.all_eq_true.mp kit_all t (tyD_mem ht)
  simp only [Bool.and_eq_true, beq_iff_eq] at hm
  unfold isiD at h
  rw [ht] at h
  dsimp only at h
  obtain ⟨⟨⟨⟨h1, h2⟩, h3⟩, h4⟩, h5⟩ := hm
  split at h
  · rename_i e; rw [e, h1]; exact h
  · split at h
    · rename_i e; rw [e, h2]; exact h
    · split at h
      · rename_i e; rw [e, h3]; exact h
      · split at h
        · rename_i e; rw [e, h4]; exact h
        · split at h
          · rename_i e; rw [e, h5]; exact h
          · cases h
theorem tyX_of {B H : Hp} {x : V} {d : D} {t : String} (i : Same B H) (r : Rp K B x d) (ht : tyD d = some t) : TyX K H x (.type t) := by
  cases r with
  | v x =>
    unfold tyD at ht
    cases x <;> first | (cases ht; exact .base .non) | (cases ht; exact .base (.bl _)) | (cases ht; exact .base (.int _)) | (cases ht; exact .base (.str _)) | cases ht
  | lst h q =>
    cases ht
    rcases h with (h | ⟨o, h⟩) | ⟨o, its, n, h1, h2, _⟩
    · exact .base (.lst (i _ _ h))
    · exact .base (.frz (i _ _ h))
    · exact .kList h1 h2
  | tup h q =>
    cases ht
    rcases h with (h | ⟨o, h⟩) | ⟨o, its, n, h1, h2, _⟩
    · exact .base (.tup (i _ _ h))
    · exact .fTuple (i _ _ h)
    · exact .kTuple h1 h2
def gIsi : List D → Res D
  | [d, .v (.ty T)] => match isiD d T with
    | some b => .ok (.bl b)
    | none => .no
  | _ => .no
theorem q_k_isi : OKC X (.builtin "isinstance") (rIsi X.K) gIsi := ⟨call_isi, fun vs ds B H Q i r h => by
  unfold gIsi at h
  split at h
  · split at h
    · rename_i d T _ b e
      cases r with
      | cons r1 r2 =>
        cases r2 with
        | cons r2 r3 =>
          cases r2
          cases r3
          cases ht : tyD d with
          | none => unfold isiD at e; rw [ht] at e; cases e
          | some t => exact ⟨_, _, _, _, b, rfl, .ty T, tyX_of i r1 ht, kit_ty (kit_isi ht e), h _ B H (Grow.refl i) (.v _)⟩
    · exact h.elim
  · exact h.elim, fun ds x => by unfold gIsi; split <;> (try split) <;> simp⟩

theorem k_isi (K : PySem.W.Frag) (hK : X.K = K) : OKC X (.builtin "isinstance") (rIsi K) gIsi := by
  subst hK
  exact (q_k_isi )
/-! ### targets -/
def wipeD (δ : DS) : List Nat → DS
  | [] => δ
  | v :: vs => (wipeD δ vs).set v none
theorem Rel.wipe {B0 H0 B H : Hp} {σ : L2.St} {δ : DS} (r : Rel K B0 H0 B H σ δ) : ∀ vs : List Nat, Rel K B0 H0 B H (wipe σ vs) (wipeD δ vs)
  | [] => r
  | v :: vs => (Rel.wipe r vs).drop v
theorem wipe_get (σ : L2.St) (j : Nat) : ∀ vs : List Nat, (wipe σ vs)[j]? = if j ∈ vs ∧ j < σ.length then some none else σ[j]?
  | [] => by simp [wipe]
  | v :: vs => by
    unfold wipe
    by_cases hv : v = j
    · subst hv
      by_cases hl : v < σ.length
      · rw [List.getElem?_set_self (by rw [wipe_length]; exact hl), if_pos ⟨by simp, hl⟩]
      · rw [if_neg (fun z => hl z.2), List.getElem?_eq_none (by simp [wipe_length]; omega), List.getElem?_eq_none (by omega)]
    · rw [List.getElem?_set_ne hv, wipe_get σ j vs]
      have hv' : ¬ j = v := fun e => hv e.symm
      simp only [List.mem_cons, hv', false_or]
theorem wipe_eq {σ σ' : L2.St} {vs : List Nat} (hl : σ'.length = σ.length) (h : ∀ j, j ∉ vs → σ'[j]? = σ[j]?) : wipe σ' vs = wipe σ vs := by
  apply List.ext_getElem?
  intro j
  rw [wipe_get, wipe_get, hl]
  by_cases hj : j ∈ vs
  · by_cases h2 : j < σ.length
    · rw [if_pos ⟨hj, h2⟩, if_pos ⟨hj, h2⟩]
    · rw [if_neg (fun z => h2 z.2), if_neg (fun z => h2 z.2), List.getElem?_eq_none (by omega), List.getElem?_eq_none (by omega)]
  · rw [if_neg (fun z => hj z.1), if_neg (fun z => hj z.1)]
    exact h j hj
/-- a target: the slots that it sets, what it makes of the state -/
structure CG (X : Cx) (tg : Expr) (g : TG) (is : List Nat) (b : D → DS → Option DS) : Prop where
  pg : PG X tg g
  sg : ∀ B0 H0 B H σ δ v d (Q : L2.St → Hp → Prop), Rel X.K B0 H0 B H σ δ → Rp X.K B v d → (∀ δ' σ', b d δ = some δ' → Rel X.K B0 H0 B H σ' δ' → σ'.length = σ.length → (∀ j, j ∉ is → σ'[j]? = σ[j]?) → Q σ' H) → b d δ ≠ none → g v σ H Q
structure CGs (X : Cx) (tgs : List Expr) (g : TGs) (is : List Nat) (b : List D → DS → Option DS) : Prop where
  pg : PGs X tgs g
  sg : ∀ B0 H0 B H σ δ vs ds (Q : L2.St → Hp → Prop), Rel X.K B0 H0 B H σ δ → RpA X.K B vs ds → (∀ δ' σ', b ds δ = some δ' → Rel X.K B0 H0 B H σ' δ' → σ'.length = σ.length → (∀ j, j ∉ is → σ'[j]? = σ[j]?) → Q σ' H) → b ds δ ≠ none → g vs σ H Q
def bName (i : Nat) : D → DS → Option DS := fun d δ => some (δ.set i (some (.im d)))
theorem cg_name (i : Nat) {x : Str} {pos : Pos} (hN : X.N.Nodup) (hi : X.N[i]? = some x := by rfl) (hx : Loc X.env.scope x := by first | exact Or.inl rfl | exact Or.inr rfl) (hf : X.fn x = true ∨ X.env.scope.names.lookup x = some .local := by first | exact .inl rfl | exact .inr rfl | assumption) : CG X (.Name x pos) (gName i) [i] (bName i) :=
  ⟨pg_name hN hi hx hf, fun B0 H0 B H σ δ v d Q rel rp h _ => h _ _ rfl (rel.set i rp) (by simp) fun j hj => by
    rw [List.getElem?_set_ne]
    intro e
    exact hj (by simp [e])⟩
def bNil : List D → DS → Option DS := fun ds δ => match ds with
  | [] => some δ
  | _ => none
def bCons (b : D → DS → Option DS) (c : List D → DS → Option DS) : List D → DS → Option DS := fun ds δ => match ds with
  | [] => none
  | d :: ds => (b d δ).bind fun δ' => c ds δ'
def bTup (n : Nat) (c : List D → DS → Option DS) : D → DS → Option DS := fun d δ => match d with
  | .tup ds => if ds.length = n then c ds δ else none
  | _ => none
theorem cgs_nil : CGs X [] gNil [] bNil := ⟨pgs_nil, fun B0 H0 B H σ δ vs ds Q rel rp h hn => by
  cases rp with
  | nil => exact ⟨rfl, h δ σ rfl rel rfl fun _ _ => rfl⟩
  | cons _ _ => exact absurd rfl hn⟩
theorem cgs_cons {e : Expr} {es : List Expr} {t : TG} {u : TGs} {is js : List Nat} {b : D → DS → Option DS} {c : List D → DS → Option DS} (h1 : CG X e t is b) (h2 : CGs X es u js c) (hs : (assignEach (e :: es) X.env).map (·.2) = assign e X.env :: (assignEach es X.env).map (·.2)) : CGs X (e :: es) (gCons t u) (is ++ js) (bCons b c) :=
  ⟨pgs_cons h1.pg h2.pg hs, fun B0 H0 B H σ δ vs ds Q rel rp h hn => by
    cases rp with
    | nil => exact absurd rfl hn
    | @cons v vs d ds r1 r2 =>
      refine ⟨v, vs, rfl, ?_⟩
      have e0 : bCons b c (d :: ds) δ = (b d δ).bind fun δ' => c ds δ' := rfl
      rw [e0] at hn
      refine h1.sg B0 H0 B H σ δ v d _ rel r1 (fun δ1 σ1 e1 rel1 l1 f1 => ?_) (fun z => hn (by rw [z]; rfl))
      rw [e1] at hn
      refine h2.sg B0 H0 B H σ1 δ1 vs ds _ rel1 r2 (fun δ2 σ2 e2 rel2 l2 f2 => ?_) hn
      refine h δ2 σ2 (by rw [e0, e1]; exact e2) rel2 (l2.trans l1) fun j hj => ?_
      rw [List.mem_append, not_or] at hj
      exact (f2 j hj.2).trans (f1 j hj.1)⟩
theorem q_cg_tup {es : List Expr} {kk : Nat} {pos : Pos} {t : TGs} {n : Nat} {is : List Nat} {c : List D → DS → Option DS} (hc : X.calm = true) (h : CGs X es t is c) (hn : (assignEach es X.env).length = n) (hst : (assignEach es X.env).findIdx? (·.1) = none) : CG X (.Tuple es kk pos) (gTup X.K n t) is (bTup n c) :=
  ⟨pg_tup hc h.pg hn hst, fun B0 H0 B H σ δ v d Q rel rp hq hn => by
    unfold bTup at hn
    split at hn
    · rename_i ds
      split at hn
      · rename_i hl
        cases rp with
        | tup h1 q =>
          refine ⟨_, _, rfl, sqT_mono rel.g.i h1, by rw [q.length]; exact hl, ?_⟩
          refine h.sg B0 H0 B H σ δ _ ds _ rel q (fun δ' σ' e r l f => hq δ' σ' ?_ r l f) hn
          unfold bTup
          dsimp only
          rw [if_pos hl]
          exact e
      · exact absurd rfl hn
    · exact absurd rfl hn⟩

theorem cg_tup (K : PySem.W.Frag) (hK : X.K = K) {es : List Expr} {kk : Nat} {pos : Pos} {t : TGs} {n : Nat} {is : List Nat} {c : List D → DS → Option DS} (hc : X.calm = true) (h : CGs X es t is c) (hn : (assignEach es X.env).length = n) (hst : (assignEach es X.env).findIdx? (·.1) = none) : CG X (.Tuple es kk pos) (gTup K n t) is (bTup n c) := by
  subst hK
  exact (q_cg_tup hc h hn hst)
/-! ### what is walked -/
def PostI (K : PySem.W.Frag) (B H : Hp) (σ : L2.St) (W : WX) (R : It → Hp → Prop) : Res (List D) → Prop
  | .ok ds => ∀ J B' H' G Y, Grow B H B' H' → Walk J ds.length G Y → (∀ H2, Same B' H2 → G H2) →
      (∀ i d B2 H2 x H3, ds[i]? = some d → Same B' B2 → Same B2 H2 → Y i H2 x H3 → ∃ B3, Grow B2 H2 B3 H3 ∧ Rp K B3 x d) → R J H'
  | .er x => ∀ c dx B' H', Grow B H B' H' → RpX K B' c dx x → W c dx σ H'
  | .no => False
structure CI (X : Cx) (W : WX) (tg iter : Expr) (wi : TI) (f : DS → Res (List D)) : Prop where
  pi : PI X tg iter wi
  si : ∀ B0 H0 δ σ B H (R : It → Hp → Prop), Rel X.K B0 H0 B H σ δ → PostI X.K B H σ W R (f δ) → wi σ H R
theorem pi_or {tg iter : Expr} {wi wi' : TI} (h : PI X tg iter wi) (h' : PI X tg iter wi') : PI X tg iter (fun σ H R => wi σ H R ∨ wi' σ H R) :=
  ⟨fun pins s σ H R I q => q.elim (h.run pins s σ H R I) (h'.run pins s σ H R I)⟩
def charsD (z : Str) : List D := z.cps.toList.map fun c => D.str ⟨#[c]⟩
def itemsD : D → Res (List D)
  | .lst xs => .ok xs
  | .tup xs => .ok xs
  | .v (.str z) => .ok (charsD z)
  | _ => .no
def cItems (f : DS → Res D) : DS → Res (List D) := fun δ => (f δ).bind itemsD
theorem q_ci_seq {tg e : Expr} {t : TE} {f : DS → Res D} (h : CE X W e t f) : CI X W tg e (fun σ H R => iList X.K t σ H R ∨ (iTup X.K t σ H R ∨ iStr t σ H R)) (cItems f) :=
  ⟨pi_or (pi_list h.pe) (pi_or (pi_tup h.pe) (pi_str h.pe)), fun B0 H0 δ σ B H R rel hp => by
    unfold cItems at hp
    cases e : f δ with
    | no => rw [e] at hp; exact hp.elim
    | er x =>
      rw [e] at hp
      exact .inl (h.se B0 H0 δ σ B H _ rel (by rw [e]; exact hp))
    | ok d =>
      rw [e, Res.bind_ok] at hp
      unfold itemsD at hp
      split at hp
      · refine .inl (h.se B0 H0 δ σ B H _ rel ?_)
        rw [e]
        intro v B1 H1 g1 r1
        cases r1 with
        | @lst a xs ds h1 q =>
          refine ⟨a, rfl, ⟨xs, g1.i.seq h1⟩, ?_⟩
          refine hp _ B1 H1 _ _ g1 (q.length ▸ walk_list) (fun H2 s2 => s2.seq h1) fun i d B2 H2 x H3 hi s1 s2 y => ?_
          obtain ⟨rfl, hx⟩ := y
          obtain ⟨d', hd, rp⟩ := q.get' hx
          rw [hd] at hi
          cases hi
          exact ⟨B2, Grow.refl s2, rp.mono s1⟩
      · refine .inr (.inl (h.se B0 H0 δ σ B H _ rel ?_))
        rw [e]
        intro v B1 H1 g1 r1
        cases r1 with
        | @tup a xs ds h1 q =>
          refine ⟨a, rfl, ⟨xs, sqT_mono g1.i h1⟩, ?_⟩
          refine hp _ B1 H1 _ _ g1 (q.length ▸ walk_tup) (fun H2 s2 => sqT_mono s2 h1) fun i d B2 H2 x H3 hi s1 s2 y => ?_
          obtain ⟨rfl, hx⟩ := y
          obtain ⟨d', hd, rp⟩ := q.get' hx
          rw [hd] at hi
          cases hi
          exact ⟨B2, Grow.refl s2, rp.mono s1⟩
      · rename_i z
        refine .inr (.inr (h.se B0 H0 δ σ B H _ rel ?_))
        rw [e]
        intro v B1 H1 g1 r1
        cases r1
        refine ⟨z, rfl, ?_⟩
        have hl : (charsD z).length = z.cps.size := by simp [charsD]
        refine hp _ B1 H1 _ _ g1 (by rw [hl]; exact walk_str) (fun _ _ => trivial) fun i d B2 H2 x H3 hi s1 s2 y => ?_
        obtain ⟨rfl, c, hc, rfl⟩ := y
        refine ⟨B2, Grow.refl s2, ?_⟩
        have : (charsD z)[i]? = some (D.str ⟨#[c]⟩) := by
          unfold charsD
          rw [List.getElem?_map, Array.getElem?_toList, hc]
          rfl
        rw [this] at hi
        cases hi
        exact .v _
      · exact hp.elim⟩
theorem ci_seq (K : PySem.W.Frag) (hK : X.K = K) {tg e : Expr} {t : TE} {f : DS → Res D} (h : CE X W e t f) : CI X W tg e (fun σ H R => iList K t σ H R ∨ (iTup K t σ H R ∨ iStr t σ H R)) (cItems f) := by
  subst hK
  exact (q_ci_seq h)
def rangeD (lo : Int) (n : Nat) : List D := (List.range n).map fun (i : Nat) => D.int (lo + (i : Int))
def gRange1 : List D → Res (List D)
  | [.v (.int j)] => if j.natAbs ≤ 1000000000 then .ok (rangeD 0 j.toNat) else .no
  | _ => .no
def gRange2 : List D → Res (List D)
  | [.v (.int i), .v (.int j)] => if i.natAbs ≤ 1000000000 ∧ j.natAbs ≤ 1000000000 then .ok (rangeD i (j - i).toNat) else .no
  | _ => .no
def cIt (g : List D → Res (List D)) (f : DS → Res (List D)) : DS → Res (List D) := fun δ => (f δ).bind g
theorem postI_range {B H : Hp} {σ : L2.St} {R : It → Hp → Prop} {lo : Int} {n : Nat} {B1 H1 : Hp} (g1 : Grow B H B1 H1) (hp : PostI K B H σ W R (.ok (rangeD lo n))) : R (Itr lo n) H1 := by
  have hl : (rangeD lo n).length = n := by simp [rangeD]
  refine hp _ B1 H1 _ _ g1 (by rw [hl]; exact walk_range) (fun _ _ => trivial) fun i d B2 H2 x H3 hi s1 s2 y => ?_
  obtain ⟨rfl, rfl⟩ := y
  refine ⟨B2, Grow.refl s2, ?_⟩
  unfold rangeD at hi
  rw [List.getElem?_map] at hi
  cases e : (List.range n)[i]? with
  | none => rw [e] at hi; cases hi
  | some j =>
    rw [e] at hi
    have : j = i := by
      have := List.getElem?_eq_some_iff.mp e
      obtain ⟨h1, h2⟩ := this
      simp at h2
      exact h2.symm
    subst this
    cases hi
    exact .v _
theorem ci_range1 {tg a : Expr} {p pos : Pos} {t : TA} {f : DS → Res (List D)} (hm : X.mg "range" = none) (ha : CL X W [a] t f) (hg : Gl X "range" := by rfl) (hs : starEach [a] X.env = [(false, eval a X.env)] := by rfl) : CI X W tg (.Call (.Name "range" p) [a] [] pos) (iRng1 t) (cIt gRange1 f) :=
  ⟨pi_range1 hg hm ha.pa hs, fun B0 H0 δ σ B H R rel hp => by
    unfold cIt at hp
    refine ha.sa B0 H0 δ σ B H _ rel ?_
    cases e : f δ with
    | no => rw [e] at hp; exact hp
    | er x => rw [e] at hp; exact hp
    | ok ds =>
      rw [e, Res.bind_ok] at hp
      intro vs B1 H1 g1 r1
      unfold gRange1 at hp
      split at hp
      · split at hp
        · rename_i hz
          cases r1 with
          | cons r1 r2 => cases r1; cases r2; exact ⟨_, rfl, by omega, by omega, postI_range g1 hp⟩
        · exact hp.elim
      · exact hp.elim⟩
theorem ci_range2 {tg a b : Expr} {p pos : Pos} {t : TA} {f : DS → Res (List D)} (hm : X.mg "range" = none) (ha : CL X W [a, b] t f) (hg : Gl X "range" := by rfl) (hs : starEach [a, b] X.env = [(false, eval a X.env), (false, eval b X.env)] := by rfl) (hs2 : starEach [b] X.env = [(false, eval b X.env)] := by rfl) : CI X W tg (.Call (.Name "range" p) [a, b] [] pos) (iRng2 t) (cIt gRange2 f) :=
  ⟨pi_range2 hg hm ha.pa hs hs2, fun B0 H0 δ σ B H R rel hp => by
    unfold cIt at hp
    refine ha.sa B0 H0 δ σ B H _ rel ?_
    cases e : f δ with
    | no => rw [e] at hp; exact hp
    | er x => rw [e] at hp; exact hp
    | ok ds =>
      rw [e, Res.bind_ok] at hp
      intro vs B1 H1 g1 r1
      unfold gRange2 at hp
      split at hp
      · split at hp
        · rename_i hz
          cases r1 with
          | cons r1 r2 =>
            cases r2 with
            | cons r2 r3 => cases r1; cases r2; cases r3; exact ⟨_, _, rfl, by omega, postI_range g1 hp⟩
        · exact hp.elim
      · exact hp.elim⟩

/-! ### list comprehensions -/
abbrev W0 : WX := fun _ _ _ _ => False
def Res.calm {α : Type} : Res α → Res α
  | .ok a => .ok a
  | _ => .no
@[simp] theorem Res.calm_ok {α : Type} (a : α) : (Res.ok a).calm = .ok a := rfl
@[simp] theorem Res.calm_er {α : Type} (x : Exn) : (Res.er x : Res α).calm = .no := rfl
@[simp] theorem Res.calm_no {α : Type} : (Res.no : Res α).calm = .no := rfl
def lcF (b : D → DS → Option DS) (t : DS → Res Bool) (e : DS → Res D) : List D → DS → Res (List D)
  | [], _ => .ok []
  | d :: ds, δ => match b d δ with
    | none => .no
    | some δ' => (t δ').calm.bind fun k => if k = true then (e δ').calm.bind fun y => (lcF b t e ds δ).bind fun ys => .ok (y :: ys) else lcF b t e ds δ
theorem lcF_calm (b : D → DS → Option DS) (t : DS → Res Bool) (e : DS → Res D) : ∀ (ds : List D) (δ : DS) (x : Exn), lcF b t e ds δ ≠ .er x
  | [], δ, x => by simp [lcF]
  | d :: ds, δ, x => by
    unfold lcF
    split
    · simp
    · rename_i δ' _
      have ih := lcF_calm b t e ds δ x
      cases h1 : t δ' with
      | no => simp
      | er x => simp
      | ok k =>
        simp only [Res.calm_ok, Res.bind_ok]
        split
        · cases h2 : e δ' with
          | no => simp
          | er x => simp
          | ok y =>
            simp only [Res.calm_ok, Res.bind_ok]
            cases h3 : lcF b t e ds δ with
            | no => simp
            | er x' => simp only [Res.bind_er]; rw [h3] at ih; exact ih
            | ok ys => simp
        · exact ih
def cLc (vs : List Nat) (fi : DS → Res (List D)) (b : D → DS → Option DS) (t : DS → Res Bool) (e : DS → Res D) : DS → Res (List D) := fun δ => (fi δ).bind fun ds => if ds.length ≤ sizeLine then lcF b t e ds (wipeD δ vs) else .no
structure CTs (X : Cx) (W : WX) (ifs : List Expr) (t : TT) (f : DS → Res Bool) : Prop where
  pt : PTs X ifs t
  st : ST X.K W t f
def cYes : DS → Res Bool := fun _ => .ok true
theorem cts_nil : CTs X W [] tYes cYes := ⟨pts_nil, fun B0 H0 δ σ B H Q rel hp => hp B H (Grow.refl rel.g.i)⟩
theorem cts_one {c : Expr} {t : TT} {f : DS → Res Bool} (h : CT X W c t f) : CTs X W [c] t f := ⟨pts_one h.pt, h.st⟩
/-- the turns of a comprehension -/
theorem sf_lc {wi : TI} {g : TG} {tt : TT} {te : TE} {vs is : List Nat} {fi : DS → Res (List D)} {b : D → DS → Option DS} {t : DS → Res Bool} {e : DS → Res D}
    (hi : ∀ B0 H0 δ σ B H (R : It → Hp → Prop), Rel K B0 H0 B H σ δ → PostI K B H σ W R (fi δ) → wi σ H R)
    (hg : ∀ B0 H0 B H σ δ v d (Q : L2.St → Hp → Prop), Rel K B0 H0 B H σ δ → Rp K B v d → (∀ δ' σ', b d δ = some δ' → Rel K B0 H0 B H σ' δ' → σ'.length = σ.length → (∀ j, j ∉ is → σ'[j]? = σ[j]?) → Q σ' H) → b d δ ≠ none → g v σ H Q)
    (ht : ST K W0 tt t) (he : SE K W0 te e) (his : ∀ i ∈ is, i ∈ vs) : SF K W (tLc wi g tt te vs) (cLc vs fi b t e) := fun B0 H0 δ σ B H Q rel hp => by
  unfold cLc at hp
  refine hi B0 H0 δ σ B H _ rel ?_
  cases e1 : fi δ with
  | no => rw [e1] at hp; exact hp
  | er x => rw [e1] at hp; exact hp
  | ok ds =>
    rw [e1, Res.bind_ok] at hp
    split at hp
    case isFalse => exact hp.elim
    case isTrue hz =>
      intro J B1 H1 G Y g1 wk hG hY Dl hD
      cases e2 : lcF b t e ds (wipeD δ vs) with
      | no => rw [e2] at hp; exact hp.elim
      | er x => exact absurd e2 (lcF_calm b t e ds _ x)
      | ok ys =>
        rw [e2] at hp
        have relw := (rel.mono g1).wipe vs
        refine lc_it wk (fun i H' => ∃ B' us done rest, Grow B1 H1 B' H' ∧ B' Dl = none ∧ H' Dl = some (.lst us) ∧ RpA K B' us done ∧ us.length ≤ i ∧ lcF b t e (ds.drop i) (wipeD δ vs) = .ok rest ∧ done ++ rest = ys) ?_ ?_ ?_ ?_
        · exact ⟨B1, [], [], ys, Grow.raw g1.i hD, g1.i.free hD, upd_same, .nil, Nat.zero_le _, by simpa using e2, rfl⟩
        · rintro i H' hin ⟨B', us, done, rest, gr, hb, hh, rp, hl, hr, hy⟩
          exact hG H' (gr.b.trans gr.i)
        · rintro i x H2 H3 hin ⟨B', us, done, rest, gr, hb, hh, rp, hl, hr, hy⟩ y
          have hlt : i < ds.length := hin
          have hdi : ds[i]? = some ds[i] := by simp [hlt]
          obtain ⟨B3, g3, rx⟩ := hY i ds[i] B' H2 x H3 hdi gr.b gr.i y
          have hdrop : ds.drop i = ds[i] :: ds.drop (i + 1) := List.drop_eq_getElem_cons hlt
          rw [hdrop] at hr
          unfold lcF at hr
          cases e3 : b ds[i] (wipeD δ vs) with
          | none => rw [e3] at hr; cases hr
          | some δ' =>
            rw [e3] at hr
            dsimp only at hr
            have rel3 : Rel K B0 H0 B3 H3 (wipe σ vs) (wipeD δ vs) := (relw.mono gr).mono g3
            refine hg B0 H0 B3 H3 _ _ x ds[i] _ rel3 rx (fun δ2 σ2 e4 rel4 l4 f4 => ?_) (by rw [e3]; simp)
            rw [e3] at e4
            cases e4
            refine ⟨?_, ?_⟩
            · refine (wipe_eq (σ := wipe σ vs) l4 fun j hj => f4 j fun z => hj (his j z)).trans (wipe_eq (wipe_length σ vs) fun j hj => ?_)
              rw [wipe_get, if_neg (fun z => hj z.1)]
            refine ht B0 H0 δ' σ2 B3 H3 _ rel4 ?_
            cases e5 : t δ' with
            | no => rw [e5] at hr; simp at hr
            | er x => rw [e5] at hr; simp at hr
            | ok k =>
              rw [e5, Res.calm_ok, Res.bind_ok] at hr
              intro B4 H4 g4
              cases k with
              | false =>
                rw [if_neg Bool.false_ne_true] at hr ⊢
                have gg := (gr.trans g3).trans g4
                have hD4 : H4 Dl = some (.lst us) := g4.h _ _ (g3.h _ _ hh)
                refine ⟨B4, us, done, rest, gg, ?_, hD4, rp.mono (g3.b.trans g4.b), by omega, hr, hy⟩
                rw [(g3.trans g4).f Dl (by rw [hh]; simp)]; exact hb
              | true =>
                rw [if_pos rfl] at hr ⊢
                refine he B0 H0 δ' σ2 B4 H4 _ (rel4.mono g4) ?_
                cases e6 : e δ' with
                | no => rw [e6] at hr; simp at hr
                | er x => rw [e6] at hr; simp at hr
                | ok yd =>
                  rw [e6, Res.calm_ok, Res.bind_ok] at hr
                  intro yv B5 H5 g5 r5
                  have gA := (g3.trans g4).trans g5
                  have hD5 : H5 Dl = some (.lst us) := gA.h _ _ hh
                  have hB5 : B5 Dl = none := by rw [gA.f Dl (by rw [hh]; simp)]; exact hb
                  refine ⟨us, hD5, by omega, ?_⟩
                  cases e7 : lcF b t e (ds.drop (i + 1)) (wipeD δ vs) with
                  | no => rw [e7] at hr; cases hr
                  | er x => exact absurd e7 (lcF_calm b t e _ _ x)
                  | ok rest' =>
                    rw [e7, Res.bind_ok] at hr
                    cases hr
                    have gT := gr.trans gA
                    have neD : ∀ a o, B5 a = some o → a ≠ Dl := fun a o q z => by rw [z, hB5] at q; cases q
                    refine ⟨B5, us ++ [yv], done ++ [yd], rest', ⟨gT.b, fun a o q => ?_, fun a o q => ?_, gT.f⟩, hB5, upd_same, (rp.mono gA.b).append (.cons r5 .nil), by simp; omega, rfl, by simpa using hy⟩
                    · rw [upd_ne (ne_of_none q hD)]; exact gT.h a o q
                    · rw [upd_ne (neD a o q)]; exact gT.i a o q
        · rintro H' ⟨B', us, done, rest, gr, hb, hh, rp, hl, hr, hy⟩
          rw [List.drop_length] at hr
          cases hr
          rw [List.append_nil] at hy
          subst hy
          exact hp Dl us B' H' (g1.trans gr) (g1.h.free hD) hb hh rp
/-- a comprehension: a new list, as an expression or given to a name -/
structure LC (X : Cx) (W : WX) (e : Expr) (t : TE) (f : DS → Res (List D)) : Prop extends CF X W e t f where
  set_ : ∀ (i : Nat) (y : Str) (py spos : Pos), X.N[i]? = some y → X.env.scope.names.lookup y = some .local → swapsWith e (some (.Name y py)) spos.line X.env = pure true → PS X (.Assign [.Name y py] e spos) (tAsg t (gName i))
theorem lc_1 {elt tg iter : Expr} {ifs : List Expr} {scope : Scope} {own : List (Str × Nat)} {pos : Pos} {wi : TI} {g : TG} {tt : TT} {te : TE} {is : List Nat} {fi : DS → Res (List D)} {b : D → DS → Option DS} {t : DS → Res Bool} {e : DS → Res D}
    (s0 : Shared) (hc : X.calm = true) (hN : X.N.Nodup) (hi : CI X W tg iter wi fi) (ok : BlkOk X.N X.env.scope scope own)
    (hg : ∀ (s : Shared) (H : Hp) (C : Addr) (cl : List (Str × Addr)) (fp : List Addr), CG (X.blk s H scope (compEnvC scope cl C X.env) fp) tg g is b)
    (ht : ∀ (s : Shared) (H : Hp) (C : Addr) (cl : List (Str × Addr)) (fp : List Addr), CTs (X.blk s H scope (compEnvC scope cl C X.env) fp) W0 ifs tt t)
    (he : ∀ (s : Shared) (H : Hp) (C : Addr) (cl : List (Str × Addr)) (fp : List Addr), CE (X.blk s H scope (compEnvC scope cl C X.env) fp) W0 elt te e)
    (his : ∀ i ∈ is, i ∈ own.map (·.2) := by decide) (hs : ∀ x, foldedSetIterable iter X.env x = pure x := by intro _; rfl) :
    LC X W (.ListComp elt [⟨tg, iter, ifs, 0⟩] scope pos) (tLc wi g tt te (own.map (·.2))) (cLc (own.map (·.2)) fi b t e) :=
  ⟨⟨pe_lc hc hN hi.pi ok (fun s H C cl fp => (hg s H C cl fp).pg) (fun s H C cl fp => (ht s H C cl fp).pt) (fun s H C cl fp => (he s H C cl fp).pe) hs,
    sf_lc hi.si (hg s0 (fun _ => none) 0 [] []).sg (ht s0 (fun _ => none) 0 [] []).st (he s0 (fun _ => none) 0 [] []).se his⟩,
   fun i y py spos hy hyl hsw => ps_setLc hc hN hy hyl hsw hi.pi ok (fun s H C cl fp => (hg s H C cl fp).pg) (fun s H C cl fp => (ht s H C cl fp).pt) (fun s H C cl fp => (he s H C cl fp).pe) hs⟩
end
end DV
namespace DV
open PySem L2

def stE {α : Type} (r : Res α) (δ : DS) (k : α → Fl) : Fl := match r with
  | .ok a => k a
  | .er x => .rs x δ
  | .no => .no
@[simp] theorem stE_ok {α : Type} (a : α) (δ : DS) (k : α → Fl) : stE (.ok a) δ k = k a := rfl
@[simp] theorem stE_er {α : Type} (x : Exn) (δ : DS) (k : α → Fl) : stE (.er x : Res α) δ k = .rs x δ := rfl
@[simp] theorem stE_no {α : Type} (δ : DS) (k : α → Fl) : stE (.no : Res α) δ k = .no := rfl
def Fl.then : Fl → (DS → Fl) → Fl
  | .nx δ, g => g δ
  | r, _ => r
@[simp] theorem Fl.then_nx (δ : DS) (g : DS → Fl) : (Fl.nx δ).then g = g δ := rfl
@[simp] theorem Fl.then_rt (d : D) (g : DS → Fl) : (Fl.rt d).then g = .rt d := rfl
@[simp] theorem Fl.then_rs (x : Exn) (δ : DS) (g : DS → Fl) : (Fl.rs x δ).then g = .rs x δ := rfl
@[simp] theorem Fl.then_bk (δ : DS) (g : DS → Fl) : (Fl.bk δ).then g = .bk δ := rfl
@[simp] theorem Fl.then_ct (δ : DS) (g : DS → Fl) : (Fl.ct δ).then g = .ct δ := rfl
@[simp] theorem Fl.then_no (g : DS → Fl) : (Fl.no).then g = .no := rfl

section
variable {X : Cx} {W : WX} {K : PySem.W.Frag} {B0 H0 B H : Hp} {σ : L2.St} {δ : DS} {E : Ends}
theorem postS_mono {B' : Hp} {r : Fl} (s : Same B B') (h : PostS K B0 H0 B W E r) : PostS K B0 H0 B' W E r := by
  cases r with
  | nx δ => exact fun σ B2 H2 s2 rel => h σ B2 H2 (s.trans s2) rel
  | bk δ => exact fun σ B2 H2 s2 rel => h σ B2 H2 (s.trans s2) rel
  | ct δ => exact fun σ B2 H2 s2 rel => h σ B2 H2 (s.trans s2) rel
  | rt d => exact fun v B2 H2 s2 g rp => h v B2 H2 (s.trans s2) g rp
  | rs x δ => exact fun c dx σ B2 H2 s2 rel rp => h c dx σ B2 H2 (s.trans s2) rel rp
  | no => exact h
/-- an expression within a statement -/
theorem postE_of {f : Res D} {Q : VK} {k : D → Fl} (rel : Rel K B0 H0 B H σ δ) (h : PostS K B0 H0 B W E (stE f δ k)) (hk : ∀ d v B' H', f = .ok d → Grow B H B' H' → Rp K B' v d → PostS K B0 H0 B' W E (k d) → Q v H') : PostE K B H σ W Q f := by
  cases f with
  | ok d => exact fun v B' H' g rp => hk d v B' H' rfl g rp (postS_mono g.b h)
  | er x => exact fun c dx B' H' g rp => h c dx σ B' H' g.b (rel.mono g) rp
  | no => exact h
theorem postT_of {f : Res Bool} {Q : Bool → Hp → Prop} {k : Bool → Fl} (rel : Rel K B0 H0 B H σ δ) (h : PostS K B0 H0 B W E (stE f δ k)) (hk : ∀ b B' H', Grow B H B' H' → PostS K B0 H0 B' W E (k b) → Q b H') : PostT K B H σ W Q f := by
  cases f with
  | ok d => exact fun B' H' g => hk d B' H' g (postS_mono g.b h)
  | er x => exact fun c dx B' H' g rp => h c dx σ B' H' g.b (rel.mono g) rp
  | no => exact h

/-! ### blocks -/
def cSeq (g h : DS → Fl) : DS → Fl := fun δ => (g δ).then h
theorem ss_seq {t u : TS} {g h : DS → Fl} (h1 : SS K W t g) (h2 : SS K W u h) : SS K W (tSeq t u) (cSeq g h) := fun B0 H0 δ σ B H E rel hp => by
  unfold cSeq at hp
  refine h1 B0 H0 δ σ B H _ rel ?_
  cases e : g δ with
  | nx δ' => rw [e] at hp; exact fun σ' B' H' s rel' => h2 B0 H0 δ' σ' B' H' E rel' (postS_mono s hp)
  | bk δ' => rw [e] at hp; exact hp
  | ct δ' => rw [e] at hp; exact hp
  | rt d => rw [e] at hp; exact hp
  | rs x δ' => rw [e] at hp; exact hp
  | no => rw [e] at hp; exact hp
def cNext : DS → Fl := fun δ => .nx δ
theorem ss_next : SS K W tNext cNext := fun B0 H0 δ σ B H E rel hp => hp σ B H (Same.refl _) rel
theorem css_nil : CSs X W [] tNext cNext := ⟨pss_nil, ss_next⟩
theorem css_cons {s : Stmt} {ss : List Stmt} {t u : TS} {g h : DS → Fl} (h1 : CS X W s t g) (h2 : CSs X W ss u h) : CSs X W (s :: ss) (tSeq t u) (cSeq g h) := ⟨pss_cons h1.ps h2.ps, ss_seq h1.ss h2.ss⟩
theorem css_one {s : Stmt} {t : TS} {g : DS → Fl} (h1 : CS X W s t g) : CSs X W [s] t g := ⟨pss_one h1.ps, h1.ss⟩
theorem cs_pass {pos : Pos} : CS X W (.Pass pos) tNext cNext := ⟨ps_pass, ss_next⟩
def cBreak : DS → Fl := fun δ => .bk δ
def cCont : DS → Fl := fun δ => .ct δ
theorem cs_break {pos : Pos} : CS X W (.Break pos) tBreak cBreak := ⟨ps_break, fun B0 H0 δ σ B H E rel hp => hp σ B H (Same.refl _) rel⟩
theorem cs_continue {pos : Pos} : CS X W (.Continue pos) tCont cCont := ⟨ps_continue, fun B0 H0 δ σ B H E rel hp => hp σ B H (Same.refl _) rel⟩
/-! ### return, if, expressions, assignments -/
def cRet (f : DS → Res D) : DS → Fl := fun δ => stE (f δ) δ fun d => .rt d
theorem cs_ret {e : Expr} {pos : Pos} {t : TE} {f : DS → Res D} (h : CE X W e t f) : CS X W (.Return (some e) pos) (tRet t) (cRet f) :=
  ⟨ps_ret h.pe, fun B0 H0 δ σ B H E rel hp => h.se B0 H0 δ σ B H _ rel (postE_of rel hp fun d v B' H' _ g rp q => q v B' H' (Same.refl _) (rel.g.trans g) rp)⟩
def cRetN : DS → Fl := fun _ => .rt .non
theorem cs_retN {pos : Pos} : CS X W (.Return none pos) tRetN cRetN := ⟨ps_retN, fun B0 H0 δ σ B H E rel hp => hp .non B H (Same.refl _) rel.g (.v _)⟩
def cIf (t : DS → Res Bool) (g h : DS → Fl) : DS → Fl := fun δ => stE (t δ) δ fun b => if b = true then g δ else h δ
theorem cs_if {c : Expr} {a b : List Stmt} {pos : Pos} {tc : TT} {t u : TS} {f : DS → Res Bool} {g h : DS → Fl} (hc : CT X W c tc f) (ha : CSs X W a t g) (hb : CSs X W b u h) : CS X W (.If c a b pos) (tIfS tc t u) (cIf f g h) :=
  ⟨ps_if hc.pt ha.ps hb.ps, fun B0 H0 δ σ B H E rel hp => hc.st B0 H0 δ σ B H _ rel (postT_of rel hp fun b B' H' g q => by
    cases b with
    | true => rw [if_pos rfl] at q ⊢; exact ha.ss B0 H0 δ σ B' H' E (rel.mono g) q
    | false => rw [if_neg Bool.false_ne_true] at q ⊢; exact hb.ss B0 H0 δ σ B' H' E (rel.mono g) q)⟩
def cDrop (f : DS → Res D) : DS → Fl := fun δ => stE (f δ) δ fun _ => .nx δ
theorem cs_expr {e : Expr} {pos : Pos} {t : TE} {f : DS → Res D} (h : CE X W e t f) (hs : swapsWith e none pos.line X.env = pure false := by rfl) : CS X W (.Expr e pos) (tDrop t) (cDrop f) :=
  ⟨ps_expr h.pe hs, fun B0 H0 δ σ B H E rel hp => h.se B0 H0 δ σ B H _ rel (postE_of rel hp fun d v B' H' _ g rp q => q σ B' H' (Same.refl _) (rel.mono g))⟩
def cAsg (i : Nat) (f : DS → Res D) : DS → Fl := fun δ => stE (f δ) δ fun d => .nx (δ.set i (some (.im d)))
theorem ss_asg {i : Nat} {t : TE} {f : DS → Res D} (h : SE K W t f) : SS K W (tAsg t (gName i)) (cAsg i f) := fun B0 H0 δ σ B H E rel hp =>
  h B0 H0 δ σ B H _ rel (postE_of rel hp fun d v B' H' _ g rp q => q _ B' H' (Same.refl _) ((rel.mono g).set i rp))
theorem cs_set (i : Nat) {x : Str} {e : Expr} {t : TE} {f : DS → Res D} {pos pos' : Pos} (hN : X.N.Nodup) (he : CE X W e t f) (hi : X.N[i]? = some x := by rfl) (hx : Loc X.env.scope x := by first | exact Or.inl rfl | exact Or.inr rfl)
    (hs : swapsWith e (some (.Name x pos')) pos.line X.env = pure false := by rfl) (hf : X.fn x = true ∨ X.env.scope.names.lookup x = some .local := by first | exact .inl rfl | exact .inr rfl | assumption) :
    CS X W (.Assign [.Name x pos'] e pos) (tAsg t (gName i)) (cAsg i f) := ⟨ps_set hN hi hx he.pe hs hf, ss_asg he.se⟩
/-- any target -/
def cAsgG (b : D → DS → Option DS) (f : DS → Res D) : DS → Fl := fun δ => stE (f δ) δ fun d => match b d δ with
  | some δ' => .nx δ'
  | none => .no
theorem cs_asg {tg e : Expr} {t : TE} {f : DS → Res D} {g : TG} {is : List Nat} {b : D → DS → Option DS} {pos : Pos} (he : CE X W e t f) (hg : CG X tg g is b) (hs : swapsWithSole [tg] e pos.line X.env = pure false := by rfl) (hw : swappedStores [tg] e X.env = pure none := by rfl)
    (h1 : List.map (fun x => x.snd) (assignEach [tg] X.env) = [assign tg X.env] := by rfl) : CS X W (.Assign [tg] e pos) (tAsg t g) (cAsgG b f) := ⟨ps_asg he.pe hg.pg hs hw h1, fun B0 H0 δ σ B H E rel hp =>
  he.se B0 H0 δ σ B H _ rel (postE_of rel hp fun d v B' H' _ gr rp q => by
    cases e : b d δ with
    | none => rw [e] at q; exact q.elim
    | some δ' =>
      rw [e] at q
      exact hg.sg B0 H0 B' H' σ δ v d _ (rel.mono gr) rp (fun δ2 σ2 e2 r2 _ _ => by rw [e] at e2; cases e2; exact q σ2 B' H' (Same.refl _) r2) (by rw [e]; simp))⟩
/-- a, b = e1, e2 -/
def cPar (i j : Nat) (f : DS → Res (List D)) : DS → Fl := fun δ => stE (f δ) δ fun ds => match ds with
  | [d, e] => .nx ((δ.set i (some (.im d))).set j (some (.im e)))
  | _ => .no
theorem cs_par (i j : Nat) {x y : Str} {a b : Expr} {t : TA} {f : DS → Res (List D)} {px py pt pos : Pos} {kt k2 pt2} (hc : X.calm = true) (hN : X.N.Nodup) (ha : CL X W [a, b] t f) (hi : X.N[i]? = some x := by rfl) (hj : X.N[j]? = some y := by rfl) (hij : i ≠ j := by decide)
    (hx : X.env.scope.names.lookup x = some .local := by rfl) (hy : X.env.scope.names.lookup y = some .local := by rfl)
    (hw : swappedStores [.Tuple [.Name x px, .Name y py] kt pt] (.Tuple [a, b] k2 pt2) X.env = pure (some [x, y]) := by rfl)
    (hs : swapsWithSole [.Tuple [.Name x px, .Name y py] kt pt] (.Tuple [a, b] k2 pt2) pos.line X.env = pure false := by rfl) :
    CS X W (.Assign [.Tuple [.Name x px, .Name y py] kt pt] (.Tuple [a, b] k2 pt2) pos) (tPar i j t) (cPar i j f) :=
  ⟨ps_par hc hN hi hj hij hx hy ha.pa hw hs, fun B0 H0 δ σ B H E rel hp => ha.sa B0 H0 δ σ B H _ rel (by
    unfold cPar at hp
    cases e : f δ with
    | no => rw [e] at hp; exact hp
    | er x => rw [e] at hp; exact fun c dx B' H' g rp => hp c dx σ B' H' g.b (rel.mono g) rp
    | ok ds =>
      rw [e, stE_ok] at hp
      intro vs B' H' g rp
      split at hp
      · cases rp with
        | cons r1 r2 =>
          cases r2 with
          | cons r2 r3 =>
            cases r3
            exact ⟨_, _, rfl, hp _ B' H' g.b (((rel.mono g).set i r1).set j r2)⟩
      · exact hp.elim)⟩
/-- x op= e -/
def cAug (i : Nat) (o : D → D → Res D) (f : DS → Res D) : DS → Fl := fun δ => stE ((cVar i δ).bind fun x => (f δ).bind fun y => o x y) δ fun d => .nx (δ.set i (some (.im d)))
theorem cs_aug (i : Nat) {x : Str} {e : Expr} {t : TE} {f : DS → Res D} {op : Operator} {r : R2} {o : D → D → Res D} {pos pos' : Pos} (hN : X.N.Nodup) (he : CE X W e t f) (ho : OK2 X (inplaceOp op) r o) (hi : X.N[i]? = some x := by rfl) (hx : Loc X.env.scope x := by first | exact Or.inl rfl | exact Or.inr rfl) (hf : X.fn x = true ∨ X.env.scope.names.lookup x = some .local := by first | exact .inl rfl | exact .inr rfl | assumption) :
    CS X W (.AugAssign (.Name x pos') op e pos) (tAug i t r) (cAug i o f) := ⟨ps_aug hN hi hx he.pe ho.o hf, fun B0 H0 δ σ B H E rel hp => by
  unfold cAug cVar at hp
  cases e1 : δ[i]? with
  | none => rw [e1] at hp; exact hp.elim
  | some o1 =>
    cases o1 with
    | none => rw [e1] at hp; exact hp.elim
    | some o1 =>
      cases o1 with
      | ow ds => rw [e1] at hp; exact hp.elim
      | im d =>
        rw [e1] at hp
        obtain ⟨v, h1, h2⟩ := rel.get e1
        refine ⟨v, h1, he.se B0 H0 δ σ B H _ rel ?_⟩
        simp only [Res.bind_ok] at hp
        cases e2 : f δ with
        | no => rw [e2] at hp; exact hp
        | er x => rw [e2] at hp; exact fun c dx B' H' g rp => hp c dx σ B' H' g.b (rel.mono g) rp
        | ok d2 =>
          rw [e2, Res.bind_ok] at hp
          intro v2 B' H' g rp
          refine ho.r v v2 d d2 B' H' _ g.i (h2.mono g.b) rp ?_
          cases e3 : o d d2 with
          | no => rw [e3] at hp; exact hp
          | er x => exact absurd e3 (ho.c d d2 x)
          | ok z =>
            rw [e3, stE_ok] at hp
            exact fun zv B2 H2 g2 r2 => hp _ B2 H2 (g.b.trans g2.b) (((rel.mono g).mono g2).set i r2)⟩
def oAddI : D → D → Res D
  | .v (.int i), .v (.int j) => .ok (.int (i + j))
  | _, _ => .no
theorem oi_add : OK2 X (inplaceOp .Add) (rI0 fun i j => .int (i + j)) oAddI := ⟨iop_add, ro_I0 fun d e z h => (by
  unfold oAddI at h
  split at h
  · cases h; exact ⟨_, _, rfl, rfl, rfl⟩
  · cases h), fun d e x => (by unfold oAddI; split <;> simp)⟩
theorem iop_mulW : OpR X (inplaceOp .Mult) (rI CMulW fun i j => .int (i * j)) := opI fun _ _ _ _ _ _ _ hc q => PyProof.Rows.imul_int q hc.ok
def oMulI : D → D → Res D
  | .v (.int i), .v (.int j) => if i.natAbs.log2 + j.natAbs.log2 < 1000000 then .ok (.int (i * j)) else .no
  | _, _ => .no
theorem oi_mul : OK2 X (inplaceOp .Mult) (rI CMulW fun i j => .int (i * j)) oMulI := ⟨iop_mulW, ro_I fun d e z h => (by
  unfold oMulI at h
  split at h
  · split at h
    · rename_i hz
      cases h; exact ⟨_, _, rfl, rfl, hz, rfl⟩
    · cases h
  · cases h), fun d e x => (by unfold oMulI; split <;> (try split) <;> simp)⟩

/-! ### own lists -/
/-- x = a new list, which is to be the def's own -/
def cOwn (i : Nat) (f : DS → Res (List D)) : DS → Fl := fun δ => stE (f δ) δ fun ds => .nx (δ.set i (some (.ow ds)))
theorem ss_own {i : Nat} {t : TE} {f : DS → Res (List D)} (h : SF K W t f) : SS K W (tAsg t (gName i)) (cOwn i f) := fun B0 H0 δ σ B H E rel hp => by
  unfold cOwn at hp
  refine h B0 H0 δ σ B H _ rel ?_
  cases e : f δ with
  | no => rw [e] at hp; exact hp
  | er x => rw [e] at hp; exact fun c dx B' H' g rp => hp c dx σ B' H' g.b (rel.mono g) rp
  | ok ds =>
    rw [e, stE_ok] at hp
    intro p vs B' H' g h0 hb hh rp
    refine hp _ B' H' g.b ((rel.mono g).setOw i (rel.g.h.free h0) hb hh rp fun j es ej => ?_)
    obtain ⟨v, q1, p2, vs2, rfl, _, _, hh2, _⟩ := rel.sl j _ ej
    intro z
    rw [q1] at z
    cases z
    rw [h0] at hh2
    cases hh2
theorem cs_own (i : Nat) {x : Str} {e : Expr} {t : TE} {f : DS → Res (List D)} {pos pos' : Pos} (hN : X.N.Nodup) (he : CF X W e t f) (hi : X.N[i]? = some x := by rfl) (hx : Loc X.env.scope x := by first | exact Or.inl rfl | exact Or.inr rfl)
    (hs : swapsWith e (some (.Name x pos')) pos.line X.env = pure false := by rfl) (hf : X.fn x = true ∨ X.env.scope.names.lookup x = some .local := by first | exact .inl rfl | exact .inr rfl | assumption) :
    CS X W (.Assign [.Name x pos'] e pos) (tAsg t (gName i)) (cOwn i f) := ⟨ps_set hN hi hx he.pe hs hf, ss_own he.sf⟩
/-- x.append(e), x the def's own -/
def cApp (i : Nat) (f : DS → Res D) : DS → Fl := fun δ => match δ[i]? with
  | some (some (.ow ds)) => stE (f δ) δ fun d => if ds.length < sizeLine then .nx (δ.set i (some (.ow (ds ++ [d])))) else .no
  | _ => .no
theorem cs_app (i : Nat) {x : Str} {e : Expr} {t : TE} {f : DS → Res D} {px apos cpos pos : Pos} (he : CE X W e t f) (hv : PE X (.Name x px) (tVar i))
    (hbase : attributeBase (.Name x px) "append" X.env (eval (.Name x px) X.env) = eval (.Name x px) X.env := by rfl)
    (hfew : ((backTo cpos (starEach [e] X.env)).all (fun x => !x.1) && (backToKw cpos (keywordEach [] X.env)).all (fun x => x.1.isSome) && decide ([e].length + ([] : List Keyword).length + (if ([] : List Keyword).isEmpty then 0 else 1) < 30)) = true := by rfl)
    (hline : (apos.endLine == cpos.line) = true := by rfl) (hst : starEach [e] X.env = (false, eval e X.env) :: starEach [] X.env := by rfl) (hplain : (backTo cpos (starEach [] X.env)).any (·.1) = false := by rfl) (hs : swapsWith (.Call (.Attribute (.Name x px) "append" apos) [e] [] cpos) none pos.line X.env = pure false := by rfl) :
    CS X W (.Expr (.Call (.Attribute (.Name x px) "append" apos) [e] [] cpos) pos) (tDrop (tBM X.K "list" rAppend (tVar i) (tCons t tNil))) (cApp i f) :=
  ⟨ps_expr (pe_bm PySem.F.plainAttrs_list PySem.F.slot_list_append PySem.F.type_list_append mt_append hv (pa_cons he.pe pa_nil hst) hbase hfew hline hst hplain) hs, fun B0 H0 δ σ B H E rel hp => by
    unfold cApp at hp
    split at hp
    · rename_i ds ei
      obtain ⟨v, q1, p, vs, rfl, _, hb, hh, rp⟩ := rel.sl i _ ei
      refine ⟨_, q1, .inl ⟨rfl, vs, SqL.of hh⟩, ?_⟩
      refine he.se B0 H0 δ σ B H _ rel ?_
      cases e1 : f δ with
      | no => rw [e1] at hp; exact hp
      | er x => rw [e1] at hp; exact fun c dx B' H' g rp => hp c dx σ B' H' g.b (rel.mono g) rp
      | ok d =>
        rw [e1, stE_ok] at hp
        split at hp
        · rename_i hz
          intro v B' H' g r1
          refine ⟨p, vs, v, rfl, rfl, g.h _ _ hh, by rw [rp.length]; exact hz, ?_⟩
          exact hp σ B' _ g.b ((rel.mono g).write (us := vs) ei q1 ((rp.mono g.b).append (.cons r1 .nil)))
        · exact hp.elim
    · exact hp.elim⟩
/-- y = [..]: data; the def's own -/
theorem cs_setLc (i : Nat) {y : Str} {py spos : Pos} {e : Expr} {t : TE} {f : DS → Res (List D)} (h : LC X W e t f) (hsw : swapsWith e (some (.Name y py)) spos.line X.env = pure true) (hi : X.N[i]? = some y := by rfl) (hyl : X.env.scope.names.lookup y = some .local := by rfl) :
    CS X W (.Assign [.Name y py] e spos) (tAsg t (gName i)) (cAsg i (cL f)) := ⟨h.set_ i y py spos hi hyl hsw, ss_asg (se_of_sf h.sf)⟩
theorem cs_ownLc (i : Nat) {y : Str} {py spos : Pos} {e : Expr} {t : TE} {f : DS → Res (List D)} (h : LC X W e t f) (hsw : swapsWith e (some (.Name y py)) spos.line X.env = pure true) (hi : X.N[i]? = some y := by rfl) (hyl : X.env.scope.names.lookup y = some .local := by rfl) :
    CS X W (.Assign [.Name y py] e spos) (tAsg t (gName i)) (cOwn i f) := ⟨h.set_ i y py spos hi hyl hsw, ss_own h.sf⟩
/-- the own list at slot i becomes data -/
def fz (i : Nat) (δ : DS) : DS := match δ[i]? with
  | some (some (.ow ds)) => δ.set i (some (.im (.lst ds)))
  | _ => δ
theorem Rel.fz {B0 H0 B H : Hp} {σ : L2.St} {δ : DS} (r : Rel K B0 H0 B H σ δ) (i : Nat) : ∃ B', Same B B' ∧ Rel K B0 H0 B' H σ (fz i δ) := by
  unfold DV.fz
  split
  · rename_i ds e
    exact r.freeze e
  · exact ⟨B, Same.refl _, r⟩
def cFz (i : Nat) (g : DS → Fl) : DS → Fl := fun δ => g (fz i δ)
theorem ss_fz (i : Nat) {t : TS} {g : DS → Fl} (h : SS K W t g) : SS K W t (cFz i g) := fun B0 H0 δ σ B H E rel hp => by
  obtain ⟨B', s, r⟩ := rel.fz i
  exact h B0 H0 _ σ B' H E r (postS_mono s hp)
theorem cs_fz (i : Nat) {s : Stmt} {t : TS} {g : DS → Fl} (h : CS X W s t g) : CS X W s t (cFz i g) := ⟨h.ps, ss_fz i h.ss⟩
/-- the own list at slot i is looked at: a test, a flat value -/
theorem Grow.back {B B' B2 H H2 : Hp} (s : Same B B') (i : Same B H) (g : Grow B' H B2 H2) : ∃ B3, Grow B H B3 H2 := by
  refine ⟨fun a => if H a = none then B2 a else B a, fun a o q => ?_, g.h, fun a o q => ?_, fun a ha => ?_⟩
  · have : ¬ (H a = none) := by rw [i a o q]; simp
    show (if H a = none then B2 a else B a) = some o
    rw [if_neg this]; exact q
  · have q' : (if H a = none then B2 a else B a) = some o := q
    split at q'
    · exact g.i a o q'
    · exact g.h a o (i a o q')
  · show (if H a = none then B2 a else B a) = B a
    rw [if_neg ha]
def cLookT (i : Nat) (f : DS → Res Bool) : DS → Res Bool := fun δ => (f (fz i δ)).calm
def flatR : Res D → Res D
  | .ok (.v x) => .ok (.v x)
  | _ => .no
def cLook (i : Nat) (f : DS → Res D) : DS → Res D := fun δ => flatR (f (fz i δ))
theorem st_look (i : Nat) {t : TT} {f : DS → Res Bool} (h : ST K W t f) : ST K W t (cLookT i f) := fun B0 H0 δ σ B H Q rel hp => by
  obtain ⟨B', s, r⟩ := rel.fz i
  refine h B0 H0 _ σ B' H Q r ?_
  unfold cLookT at hp
  cases e : f (fz i δ) with
  | no => rw [e] at hp; exact hp
  | er x => rw [e] at hp; exact hp.elim
  | ok b =>
    rw [e] at hp
    intro B2 H2 g
    obtain ⟨B3, g3⟩ := Grow.back s rel.g.i g
    exact hp B3 H2 g3
theorem se_look (i : Nat) {t : TE} {f : DS → Res D} (h : SE K W t f) : SE K W t (cLook i f) := fun B0 H0 δ σ B H Q rel hp => by
  obtain ⟨B', s, r⟩ := rel.fz i
  refine h B0 H0 _ σ B' H Q r ?_
  unfold cLook at hp
  cases e : f (fz i δ) with
  | no => rw [e] at hp; exact hp
  | er x => rw [e] at hp; exact hp.elim
  | ok d =>
    rw [e] at hp
    cases d with
    | v x =>
      intro v B2 H2 g rp
      obtain ⟨B3, g3⟩ := Grow.back s rel.g.i g
      cases rp
      exact hp _ B3 H2 g3 (.v _)
    | lst _ => exact hp.elim
    | tup _ => exact hp.elim
theorem ct_look (i : Nat) {e : Expr} {t : TT} {f : DS → Res Bool} (h : CT X W e t f) : CT X W e t (cLookT i f) := ⟨h.pt, st_look i h.st⟩
theorem ce_look (i : Nat) {e : Expr} {t : TE} {f : DS → Res D} (h : CE X W e t f) : CE X W e t (cLook i f) := ⟨h.pe, se_look i h.se⟩

/-! ### loops -/
def forF (b : D → DS → Option DS) (g : DS → Fl) : List D → DS → Fl
  | [], δ => .nx δ
  | d :: ds, δ => match b d δ with
    | none => .no
    | some δ' => match g δ' with
      | .nx δ2 => forF b g ds δ2
      | .ct δ2 => forF b g ds δ2
      | .bk δ2 => .nx δ2
      | .rt d => .rt d
      | .rs x δ2 => .rs x δ2
      | .no => .no
def cFor (fi : DS → Res (List D)) (b : D → DS → Option DS) (g : DS → Fl) : DS → Fl := fun δ => stE (fi δ) δ fun ds => forF b g ds δ
theorem cs_for {tg iter : Expr} {body : List Stmt} {pos : Pos} {wi : TI} {g : TG} {tb : TS} {fi : DS → Res (List D)} {is : List Nat} {b : D → DS → Option DS} {gb : DS → Fl} (hp : PassesOwn (model X.prog X.w) X.A X.env X.xe) (hc : X.calm = true) (hi : CI X W tg iter wi fi) (hg : CG X tg g is b) (hb : CSs X W body tb gb)
    (hs : ∀ x, foldedSetIterable iter X.env x = pure x := by intro _; rfl) : CS X W (.For tg iter body [] pos) (tFor wi g tb) (cFor fi b gb) :=
  ⟨ps_for hp hc hi.pi hg.pg hb.ps hs, fun B0 H0 δ σ B H E rel hq => by
    unfold cFor at hq
    refine hi.si B0 H0 δ σ B H _ rel ?_
    cases e : fi δ with
    | no => rw [e] at hq; exact hq
    | er x => rw [e] at hq; exact fun c dx B' H' g rp => hq c dx σ B' H' g.b (rel.mono g) rp
    | ok ds =>
      rw [e, stE_ok] at hq
      intro J B1 H1 G Y g1 wk hG hY
      refine for_it wk (fun i σ' H' => ∃ B' δ', Same B1 B' ∧ Rel X.K B0 H0 B' H' σ' δ' ∧ PostS X.K B0 H0 B' W E (forF b gb (ds.drop i) δ')) ?_ ?_ ?_ ?_
      · exact ⟨B1, δ, Same.refl _, rel.mono g1, postS_mono g1.b hq⟩
      · rintro i σ' H' hin ⟨B', δ', s', r', _⟩
        exact hG H' (s'.trans r'.g.i)
      · rintro i x σ' H2 H3 hin ⟨B', δ', s', r', q'⟩ y
        have hlt : i < ds.length := hin
        have hdi : ds[i]? = some ds[i] := by simp [hlt]
        obtain ⟨B3, g3, rx⟩ := hY i ds[i] B' H2 x H3 hdi s' r'.g.i y
        rw [List.drop_eq_getElem_cons hlt] at q'
        unfold forF at q'
        cases e3 : b ds[i] δ' with
        | none => rw [e3] at q'; exact q'.elim
        | some δ2 =>
          rw [e3] at q'
          dsimp only at q'
          refine hg.sg B0 H0 B3 H3 σ' δ' x ds[i] _ (r'.mono g3) rx (fun δ4 σ4 e4 r4 _ _ => ?_) (by rw [e3]; simp)
          rw [e3] at e4
          cases e4
          refine hb.ss B0 H0 δ2 σ4 B3 H3 _ r4 ?_
          cases e5 : gb δ2 with
          | nx δ5 => rw [e5] at q'; exact fun σ5 B5 H5 s5 r5 => ⟨B5, δ5, (s'.trans g3.b).trans s5, r5, postS_mono (g3.b.trans s5) q'⟩
          | ct δ5 => rw [e5] at q'; exact fun σ5 B5 H5 s5 r5 => ⟨B5, δ5, (s'.trans g3.b).trans s5, r5, postS_mono (g3.b.trans s5) q'⟩
          | bk δ5 => rw [e5] at q'; exact postS_mono g3.b q'
          | rt d => rw [e5] at q'; exact postS_mono g3.b q'
          | rs x δ5 => rw [e5] at q'; exact postS_mono g3.b q'
          | no => rw [e5] at q'; exact q'
      · rintro σ' H' ⟨B', δ', s', r', q'⟩
        rw [List.drop_length] at q'
        exact q' σ' B' H' (Same.refl _) r'⟩
def whileF (t : DS → Res Bool) (g : DS → Fl) : Nat → DS → Fl
  | 0, _ => .no
  | n + 1, δ => match t δ with
    | .ok true => (match g δ with
      | .nx δ2 => whileF t g n δ2
      | .ct δ2 => whileF t g n δ2
      | .bk δ2 => .nx δ2
      | .rt d => .rt d
      | .rs x δ2 => .rs x δ2
      | .no => .no)
    | .ok false => .nx δ
    | .er x => .rs x δ
    | .no => .no
def cWhile (fuel : DS → Nat) (t : DS → Res Bool) (g : DS → Fl) : DS → Fl := fun δ => whileF t g (fuel δ) δ
theorem cs_while (fuel : DS → Nat) {c : Expr} {body : List Stmt} {pos : Pos} {tc : TT} {tb : TS} {t : DS → Res Bool} {g : DS → Fl} (hp : PassesOwn (model X.prog X.w) X.A X.env X.xe) (hc : CT X W c tc t) (hb : CSs X W body tb g) : CS X W (.While c body [] pos) (tWhile tc tb) (cWhile fuel t g) :=
  ⟨ps_while hp hc.pt hb.ps, fun B0 H0 δ σ B H E rel hq => by
    unfold cWhile at hq
    refine ⟨fun m σ' H' => ∃ B' δ', Same B B' ∧ Rel X.K B0 H0 B' H' σ' δ' ∧ PostS X.K B0 H0 B' W E (whileF t g m δ'), ⟨fuel δ, B, δ, Same.refl _, rel, hq⟩, ?_⟩
    rintro m σ' H' ⟨B', δ', s', r', q'⟩
    cases m with
    | zero => exact q'.elim
    | succ m =>
      unfold whileF at q'
      refine hc.st B0 H0 δ' σ' B' H' _ r' ?_
      cases e : t δ' with
      | no => rw [e] at q'; exact q'
      | er x => rw [e] at q'; exact fun c dx B2 H2 g2 rp => q' c dx σ' B2 H2 g2.b (r'.mono g2) rp
      | ok b =>
        rw [e] at q'
        intro B2 H2 g2
        cases b with
        | false => rw [if_neg Bool.false_ne_true]; exact q' σ' B2 H2 g2.b (r'.mono g2)
        | true =>
          rw [if_pos rfl]
          dsimp only at q'
          refine ⟨fun σ5 H5 => ∃ B5 δ5, Same B B5 ∧ Rel X.K B0 H0 B5 H5 σ5 δ5 ∧ PostS X.K B0 H0 B5 W E (whileF t g m δ5), fun σ5 H5 h => ⟨m, Nat.lt_succ_self m, h⟩, ?_⟩
          refine hb.ss B0 H0 δ' σ' B2 H2 _ (r'.mono g2) ?_
          cases e5 : g δ' with
          | nx δ5 => rw [e5] at q'; exact fun σ5 B5 H5 s5 r5 => ⟨B5, δ5, (s'.trans g2.b).trans s5, r5, postS_mono (g2.b.trans s5) q'⟩
          | ct δ5 => rw [e5] at q'; exact fun σ5 B5 H5 s5 r5 => ⟨B5, δ5, (s'.trans g2.b).trans s5, r5, postS_mono (g2.b.trans s5) q'⟩
          | bk δ5 => rw [e5] at q'; exact postS_mono g2.b q'
          | rt d => rw [e5] at q'; exact postS_mono g2.b q'
          | rs x δ5 => rw [e5] at q'; exact postS_mono g2.b q'
          | no => rw [e5] at q'; exact q'⟩
end
end DV
namespace DV
open PySem L2

/-! ### a def by its function -/
def PostD (K : PySem.W.Frag) (B H : Hp) (Q : VK) (E : XK) : Res D → Prop
  | .ok d => ∀ v B' H', Grow B H B' H' → Rp K B' v d → Q v H'
  | .er x => ∀ c dx B' H', Grow B H B' H' → RpX K B' c dx x → E c dx H'
  | .no => False
def spD (K : PySem.W.Frag) (n : Nat) (F : List D → Res D) : Sp := fun vs H Q E => vs.length = n ∧ ∃ ds B, Same B H ∧ RpA K B vs ds ∧ PostD K B H Q E (F ds)
def flR : Fl → Res D
  | .rt d => .ok d
  | .nx _ => .ok .non
  | .rs x _ => .er x
  | _ => .no
@[simp] theorem flR_rt (d : D) : flR (.rt d) = .ok d := rfl
@[simp] theorem flR_nx (δ : DS) : flR (.nx δ) = .ok .non := rfl
@[simp] theorem flR_rs (x : Exn) (δ : DS) : flR (.rs x δ) = .er x := rfl
@[simp] theorem flR_no : flR .no = .no := rfl
/-- the data state at a def's entry: m slots besides the parameters -/
def st0 (m : Nat) (ds : List D) : DS := ds.map (fun d => some (.im d)) ++ List.replicate m none
def defF (m : Nat) (g : DS → Fl) : List D → Res D := fun ds => flR (g (st0 m ds))
theorem rel0 {K : PySem.W.Frag} {B H : Hp} {N : List Str} {vs : List V} {ds : List D} (i : Same B H) (r : RpA K B vs ds) : Rel K B H B H (L2.start N vs) (st0 (N.length - vs.length) ds) := by
  refine ⟨Grow.refl i, ?_, fun j o e => ?_, fun j k es fs w hjk e1 e2 e3 => ?_⟩
  · simp [L2.start, st0, r.length]
  · unfold st0 at e
    by_cases hj : j < ds.length
    · rw [List.getElem?_append_left (by simpa using hj), List.getElem?_map] at e
      cases q : ds[j]? with
      | none => rw [q] at e; cases e
      | some d =>
        rw [q] at e
        cases e
        obtain ⟨v, h1, h2⟩ := r.get q
        refine ⟨v, ?_, h2⟩
        unfold L2.start
        rw [List.getElem?_append_left (by rw [List.length_map, r.length]; exact hj), List.getElem?_map, h1]
        rfl
    · rw [List.getElem?_append_right (by simpa using hj), List.getElem?_replicate] at e
      split at e <;> cases e
  · unfold st0 at e1
    by_cases hj : j < ds.length
    · rw [List.getElem?_append_left (by simpa using hj), List.getElem?_map] at e1
      cases q : ds[j]? with
      | none => rw [q] at e1; cases e1
      | some d => rw [q] at e1; cases e1
    · rw [List.getElem?_append_right (by simpa using hj), List.getElem?_replicate] at e1
      split at e1 <;> cases e1
abbrev Wof (E : XK) : WX := fun c d _ H => E c d H
theorem ss_def {K : PySem.W.Frag} {t : TS} {g : DS → Fl} {E : XK} {N : List Str} {vs : List V} {ds : List D} {B H : Hp} {Q : VK} (h : SS K (Wof E) t g) (i : Same B H) (r : RpA K B vs ds) (hp : PostD K B H Q E (defF (N.length - vs.length) g ds)) :
    t { nx := fun _ H' => Q .non H', rt := Q } (L2.start N vs) H := by
  refine h B H _ _ B H _ (rel0 i r) ?_
  unfold defF at hp
  cases e : g (st0 (N.length - vs.length) ds) with
  | nx δ => rw [e] at hp; exact fun σ B' H' s rel => hp .non B' H' rel.g (.v _)
  | rt d => rw [e] at hp; exact fun v B' H' s gr rp => hp v B' H' gr rp
  | rs x δ => rw [e] at hp; exact fun c dx σ B' H' s rel rp => hp c dx B' H' rel.g rp
  | bk δ => rw [e] at hp; exact hp.elim
  | ct δ => rw [e] at hp; exact hp.elim
  | no => rw [e] at hp; exact hp
section
variable {P : Program} {w : World} {K : PySem.W.Frag} {mg : Str → Option Value} {base : Heap}
/-- a def without defaults -/
theorem def_ok {x qual : Str} {st : Stmt} {f : Addr} {fd : FuncData} {N ps : List Str} {k m : Nat} {g : DS → Fl} (F : Fun K x qual st f fd) (S : FnScope N ps (defScope st)) (hm : N.length - ps.length = m)
    (hbody : ∀ (cdv : Value) (A : Around) (outer : List Env) (s : Shared) (H : Hp) (E : XK), Room k (A.deeper (PyProof.Rows.envOfC qual (defScope st) s.heap.objs.size f cdv)) → Takes (cxOf (L2.CX P w) P w K mg base N qual (defScope st) f cdv A outer s H E) (Wof E) →
      PassesOwn (model P w) (A.deeper (PyProof.Rows.envOfC qual (defScope st) s.heap.objs.size f cdv)) (PyProof.Rows.envOfC qual (defScope st) s.heap.objs.size f cdv) (cxOf (L2.CX P w) P w K mg base N qual (defScope st) f cdv A outer s H E).xe → (A.deeper (PyProof.Rows.envOfC qual (defScope st) s.heap.objs.size f cdv)).units + 64 < cLine → ∃ t, CSs (cxOf (L2.CX P w) P w K mg base N qual (defScope st) f cdv A outer s H E) (Wof E) (defBody st) t g) : FnOk P w K mg base (L2.CX P w) (k + 1) f fd ps (spD K ps.length (defF m g)) := by
  refine F.okX S (fun vs H Q E h => h.1) fun cdv A outer s H vs Q E hr h => ?_
  obtain ⟨hl, ds, B, i, r, hp⟩ := h
  obtain ⟨t, ht⟩ := hbody cdv A outer s H E hr (takes_of rfl rfl rfl rfl) (passes_of (X := cxOf (L2.CX P w) P w K mg base N qual _ f cdv A outer s H E) rfl) hr.units
  exact ⟨t, ht.ps, ss_def (N := N) ht.ss i r (by rw [hl, hm]; exact hp)⟩
/-- a def with defaults -/
theorem def_okD {x qual : Str} {params : Arguments} {body : List Stmt} {scope : Scope} {dvs : List V} {kws : List (Str × V)} {f : Addr} {fd : FuncData} {N ps : List Str} {k m : Nat} {g : DS → Fl} (F : FunD K x qual params body scope dvs kws f fd) (S : FnScope N ps scope) (hm : N.length - ps.length = m)
    (hbody : ∀ (cdv : Value) (A : Around) (outer : List Env) (s : Shared) (H : Hp) (E : XK), Room k (A.deeper (PyProof.Rows.envOfC qual scope s.heap.objs.size f cdv)) → Takes (cxOf (L2.CX P w) P w K mg base N qual scope f cdv A outer s H E) (Wof E) →
      PassesOwn (model P w) (A.deeper (PyProof.Rows.envOfC qual scope s.heap.objs.size f cdv)) (PyProof.Rows.envOfC qual scope s.heap.objs.size f cdv) (cxOf (L2.CX P w) P w K mg base N qual scope f cdv A outer s H E).xe → (A.deeper (PyProof.Rows.envOfC qual scope s.heap.objs.size f cdv)).units + 64 < cLine → ∃ t, CSs (cxOf (L2.CX P w) P w K mg base N qual scope f cdv A outer s H E) (Wof E) body t g) : FnOk P w K mg base (L2.CX P w) (k + 1) f fd ps (spD K ps.length (defF m g)) := by
  refine F.ok S (fun vs H Q E h => h.1) fun cdv A outer s H vs Q E hr h => ?_
  obtain ⟨hl, ds, B, i, r, hp⟩ := h
  obtain ⟨t, ht⟩ := hbody cdv A outer s H E hr (takes_of rfl rfl rfl rfl) (passes_of (X := cxOf (L2.CX P w) P w K mg base N qual _ f cdv A outer s H E) rfl) hr.units
  exact ⟨t, ht.ps, ss_def (N := N) ht.ss i r (by rw [hl, hm]; exact hp)⟩
end

/-! ### calls -/
section
variable {X : Cx} {W : WX} {K : PySem.W.Frag}
def cFn (F : List D → Res D) (dd : List D) (f : DS → Res (List D)) : DS → Res D := fun δ => (f δ).bind fun ds => F (ds ++ dd)
theorem se_fn {n : Nat} {F : List D → Res D} {dd : List D} {dvs : List V} {t : TA} {f : DS → Res (List D)} (hl : ∀ δ ds, f δ = .ok ds → ds.length + dd.length = n) (hd : ∀ B, RpA K B dvs dd) (h : SA K W t f) : SE K W (tCallSD (spD K n F) dvs (WE W) t) (cFn F dd f) := fun B0 H0 δ σ B H Q rel hp => by
  unfold cFn at hp
  refine h B0 H0 δ σ B H _ rel ?_
  cases e : f δ with
  | no => rw [e] at hp; exact hp
  | er x => rw [e] at hp; exact hp
  | ok ds =>
    rw [e, Res.bind_ok] at hp
    intro vs B1 H1 g1 r1
    refine ⟨?_, ds ++ dd, B1, g1.i, r1.append (hd B1), ?_⟩
    · rw [List.length_append, r1.length, (hd B1).length]
      exact hl δ ds e
    · cases e2 : F (ds ++ dd) with
      | no => rw [e2] at hp; exact hp
      | er x => rw [e2] at hp; exact fun c dx B' H' g' rp => hp c dx B' H' (g1.trans g') rp
      | ok z => rw [e2] at hp; exact fun v B' H' g' rp => hp v B' H' (g1.trans g') rp
theorem q_ce_fn {k n : Nat} {f : Addr} {fd : FuncData} {ps : List Str} {F : List D → Res D} {dd : List D} {dvs : List V} {ds : List Value} {x : Str} {p pos : Pos} {e : Expr} {es : List Expr} {t : TA} {fa : DS → Res (List D)}
    (G : FnOk X.prog X.w X.K X.mg X.base (L2.CX X.prog X.w) k f fd ps (spD X.K n F)) (hr : Room k X.A) (hm : X.mg x = some (.ref f)) (hk : PySem.W.keepIn X.K (.ref f) = true) (hb : Binds X.K fd ps ds) (hd : Vals dvs ds) (hdd : ∀ B, RpA X.K B dvs dd) (tk : Takes X W)
    (ha : CL X W (e :: es) t fa) (hn : (e :: es).length + dd.length = n := by rfl) (hg : Gl X x := by rfl) (hdb : (x == ("__debug__" : Str)) = false := by decide) (he : starEach (e :: es) X.env = (false, eval e X.env) :: starEach es X.env := by rfl) (hpl : (backTo pos (starEach es X.env)).any (·.1) = false := by rfl) :
    CE X W (.Call (.Name x p) (e :: es) [] pos) (tCallSD (spD X.K n F) dvs (WE W) t) (cFn F dd fa) :=
  ⟨pe_callSD G hr hg hm hk hb hd (fun σ => passAt tk σ) ha.pa hdb he hpl, se_fn (fun δ ds h => by rw [ha.ln δ ds h]; exact hn) hdd ha.sa⟩
theorem ce_fn (K : PySem.W.Frag) (hK : X.K = K) {k n : Nat} {f : Addr} {fd : FuncData} {ps : List Str} {F : List D → Res D} {dd : List D} {dvs : List V} {ds : List Value} {x : Str} {p pos : Pos} {e : Expr} {es : List Expr} {t : TA} {fa : DS → Res (List D)}
    (G : FnOk X.prog X.w K X.mg X.base (L2.CX X.prog X.w) k f fd ps (spD K n F)) (hr : Room k X.A) (hm : X.mg x = some (.ref f)) (hk : PySem.W.keepIn K (.ref f) = true) (hb : Binds K fd ps ds) (hd : Vals dvs ds) (hdd : ∀ B, RpA K B dvs dd) (tk : Takes X W)
    (ha : CL X W (e :: es) t fa) (hn : (e :: es).length + dd.length = n := by rfl) (hg : Gl X x := by rfl) (hdb : (x == ("__debug__" : Str)) = false := by decide) (he : starEach (e :: es) X.env = (false, eval e X.env) :: starEach es X.env := by rfl) (hpl : (backTo pos (starEach es X.env)).any (·.1) = false := by rfl) :
    CE X W (.Call (.Name x p) (e :: es) [] pos) (tCallSD (spD K n F) dvs (WE W) t) (cFn F dd fa) := by
  subst hK
  exact (q_ce_fn G hr hm hk hb hd hdd tk ha hn hg hdb he hpl)
/-- no defaults -/
def cFn0 (F : List D → Res D) (f : DS → Res (List D)) : DS → Res D := fun δ => (f δ).bind F
theorem q_ce_f {k n : Nat} {f : Addr} {fd : FuncData} {ps : List Str} {F : List D → Res D} {x : Str} {p pos : Pos} {e : Expr} {es : List Expr} {t : TA} {fa : DS → Res (List D)}
    (G : FnOk X.prog X.w X.K X.mg X.base (L2.CX X.prog X.w) k f fd ps (spD X.K n F)) (hr : Room k X.A) (hm : X.mg x = some (.ref f)) (hk : PySem.W.keepIn X.K (.ref f) = true) (hb : Binds X.K fd ps []) (tk : Takes X W)
    (ha : CL X W (e :: es) t fa) (hn : (e :: es).length = n := by rfl) (hg : Gl X x := by rfl) (hdb : (x == ("__debug__" : Str)) = false := by decide) (he : starEach (e :: es) X.env = (false, eval e X.env) :: starEach es X.env := by rfl) (hpl : (backTo pos (starEach es X.env)).any (·.1) = false := by rfl) :
    CE X W (.Call (.Name x p) (e :: es) [] pos) (tCallSD (spD X.K n F) [] (WE W) t) (cFn0 F fa) := by
  have h := q_ce_fn (dd := []) (p := p) (pos := pos) G hr hm hk hb .nil (fun _ => .nil) tk ha hn hg hdb he hpl
  refine ⟨h.pe, ?_⟩
  have e0 : cFn F [] fa = cFn0 F fa := by
    funext δ
    simp [cFn, cFn0]
  rw [← e0]
  exact h.se
theorem ce_f (K : PySem.W.Frag) (hK : X.K = K) {k n : Nat} {f : Addr} {fd : FuncData} {ps : List Str} {F : List D → Res D} {x : Str} {p pos : Pos} {e : Expr} {es : List Expr} {t : TA} {fa : DS → Res (List D)}
    (G : FnOk X.prog X.w K X.mg X.base (L2.CX X.prog X.w) k f fd ps (spD K n F)) (hr : Room k X.A) (hm : X.mg x = some (.ref f)) (hk : PySem.W.keepIn K (.ref f) = true) (hb : Binds K fd ps []) (tk : Takes X W)
    (ha : CL X W (e :: es) t fa) (hn : (e :: es).length = n := by rfl) (hg : Gl X x := by rfl) (hdb : (x == ("__debug__" : Str)) = false := by decide) (he : starEach (e :: es) X.env = (false, eval e X.env) :: starEach es X.env := by rfl) (hpl : (backTo pos (starEach es X.env)).any (·.1) = false := by rfl) :
    CE X W (.Call (.Name x p) (e :: es) [] pos) (tCallSD (spD K n F) [] (WE W) t) (cFn0 F fa) := by
  subst hK
  exact (q_ce_f G hr hm hk hb tk ha hn hg hdb he hpl)
/-- a statement that is never reached -/
theorem cs_never {s : Stmt} : CS X W s tNever (fun _ => .no) := ⟨ps_never, fun _ _ _ _ _ _ _ _ h => h⟩
end

/-! ### the end: the law's function -/
/-- what is asked of the law's function -/
theorem spD_law {K : PySem.W.Frag} {H : Hp} {a : Addr} {ns : List Int} {F : List D → Res D} (hS : SqL K H a (ns.map V.int)) (h : F [.lst (ns.map D.int)] = .ok (.bl true)) : spD K 1 F [.ref a] H (fun v _ => v = .bl true) (fun _ _ _ => False) := by
  refine ⟨rfl, [.lst (ns.map D.int)], H, Same.refl _, .cons (.lst hS (RpA.ints ns)) .nil, ?_⟩
  rw [h]
  intro v B' H' g rp
  cases rp
  rfl
theorem cx_false {P : Program} {w : World} (H : Hp) (s : Shared) (e : Value) (s' : Shared) (h : L2.CX P w [] H s (fun _ _ _ => False) e s') : False := by
  obtain ⟨_, _, _, _, _, _, _, _, _, _, _, _, z⟩ := h
  exact z
end DV
namespace DV
open PySem PySem.Spec PyProof.Rows L2

/-! ### t[::-1], a tuple -/
theorem rev_places (n : Nat) : Builtin.Slice.sliceAdjust none none (-1) (n : Int) = ((n : Int) - 1, -1) := by
  unfold Builtin.Slice.sliceAdjust
  have h1 : ((-1 : Int) < 0) := by omega
  simp only [h1, if_true]
theorem rev_count (n : Nat) : Builtin.Slice.slicePlaces ((n : Int) - 1) (-1) (-1) = n := by
  unfold Builtin.Slice.slicePlaces
  have h1 : ¬ ((-1 : Int) > 0) := by omega
  simp only [h1, if_false, Int.neg_neg, Int.ediv_one]
  split <;> omega
theorem fm_congr {α β : Type} {f g : α → Option β} : ∀ {l : List α}, (∀ a ∈ l, f a = g a) → l.filterMap f = l.filterMap g
  | [], _ => rfl
  | a :: l, h => by
    rw [List.filterMap_cons, List.filterMap_cons, h a (by simp), fm_congr fun b hb => h b (by simp [hb])]
theorem rev_pick (xs : Array Value) : ((List.range xs.size).filterMap fun (m : Nat) => xs[(((xs.size : Nat) : Int) - 1 + (m : Int) * (-1)).toNat]?).toArray = xs.toList.reverse.toArray := by
  congr 1
  have e : (List.range xs.size).filterMap (fun (m : Nat) => xs[(((xs.size : Nat) : Int) - 1 + (m : Int) * (-1)).toNat]?) = (List.range xs.size).filterMap (fun m => xs.toList.reverse[m]?) := by
    refine fm_congr fun m hm => ?_
    have hm' : m < xs.size := List.mem_range.mp hm
    have e1 : (((xs.size : Nat) : Int) - 1 + (m : Int) * (-1)).toNat = xs.size - 1 - m := by omega
    rw [e1, List.getElem?_reverse (by simpa using hm'), Array.getElem?_toList]
    simp
  rw [e]
  have : ∀ l : List Value, (List.range l.length).filterMap (fun m => l[m]?) = l := by
    intro l
    induction l with
    | nil => rfl
    | cons a l ih =>
      rw [List.length_cons, List.range_succ_eq_map, List.filterMap_cons, List.filterMap_map]
      simp only [List.getElem?_cons_zero]
      congr 1
  have h2 := this xs.toList.reverse
  rw [List.length_reverse, Array.length_toList] at h2
  exact h2
section
variable {prog : Program} {w : World} {A : Around} {E : Value → Shared → Prop} {s : Shared}
theorem getItem_tuple_rev {t sl : Addr} {items : Array Value} {vl vu vs : Value} {Q : Value → Shared → Prop} (ht : IsTup s.heap t items) (hs : s.heap.IsSliceOf sl vl vu vs) (pl : IsPart vl none) (pu : IsPart vu none) (ps : IsPart vs (some (-1)))
    (h : Q (.ref s.heap.objs.size) { s with heap := s.heap.push { cls := .type "tuple", data := .seq items.toList.reverse.toArray } })
    (hsz : items.size ≤ sizeLine) : wpAny (model prog w) A (getItem (.ref t) (.ref sl)) Q E s := by
  have htake : sizeOk (.seq items.toList.reverse.toArray) := by
    show (items.toList.reverse.toArray).size ≤ sizeLine
    simpa using hsz
  obtain ⟨os, hos, hcs, hds⟩ := id hs
  have hTs : s.TypeIs (.ref sl) "slice" := ⟨os, hos, hcs⟩
  unfold getItem
  try with_reducible refine wpAny_holding ?_
  first | refine wpAny_bind (wpAny_pure ?_) | skip
  refine wpAny_bind (wpAny_sequenceKey ht.typeIs (by decide) ?_)
  refine wpAny_bind (wpAny_callSpecial?_slot (name := Str.ofString "__getitem__") ht.typeIs slot_tuple_getitem
    (wpAny_call_entry slot_tuple_getitem ht.typeIs entry_tuple_getitem ?_ (args_tuple_getitem _ _)))
  show wpAny _ _ (Builtin.Tuple.tupleItemsOf (.ref t) >>= _) _ _ s
  refine wpAny_bind (tupleItemsOf_ ht ?_)
  refine wpAny_bind (wpAny_typeOf hTs ?_)
  rw [if_pos (by decide)]
  refine wpAny_bind ?_
  unfold Builtin.Slice.sliceApplied Builtin.Slice.sliceFields
  refine wpAny_bind (wpAny_bind (wpAny_field hos hds (x := vl) rfl (wpAny_bind (wpAny_field hos hds (x := vu) rfl (wpAny_bind (wpAny_field hos hds (x := vs) rfl (wpAny_pure ?_)))))))
  refine wpAny_bind (HT.slicePart_ ps ?_)
  show wpAny _ _ (if ((-1 : Int) == 0) = true then _ else _) _ _ s
  rw [if_neg (by decide)]
  refine wpAny_bind (HT.slicePart_ pl (wpAny_bind (HT.slicePart_ pu (wpAny_bind (wpAny_pure ?_)))))
  show wpAny _ _ (match Builtin.Slice.sliceAdjust none none (-1) (items.size : Int) with | (lo, hi) => pure (lo, (-1 : Int), Builtin.Slice.slicePlaces lo hi (-1))) _ _ s
  rw [rev_places]
  show wpAny _ _ (pure ((items.size : Int) - 1, (-1 : Int), Builtin.Slice.slicePlaces ((items.size : Int) - 1) (-1) (-1))) _ _ s
  rw [rev_count]
  refine wpAny_pure ?_
  have hno : ¬ (((items.size : Int) - 1 == 0 && (-1 : Int) == 1 && items.size == items.size) = true) := by simp
  show wpAny _ _ (if ((items.size : Int) - 1 == 0 && (-1 : Int) == 1 && items.size == items.size) = true then _ else _) _ _ s
  rw [if_neg hno, rev_pick]
  first
    | exact wpAny_bind (m := Builtin.Tuple.tupleExact _) (wpAny_newObj_type (wpAny_pure ⟨_, rfl, wpAny_pure h⟩) htake)
    | exact wpAny_bind (m := Builtin.Tuple.tupleExact _) (wpAny_newObj_type (wpAny_bind (wpAny_pure (wpAny_pure ⟨_, rfl, wpAny_pure h⟩))) htake)
    | exact wpAny_bind (wpAny_bind (m := Builtin.Tuple.tupleExact _) (wpAny_newObj_type (wpAny_pure (wpAny_pure ⟨_, rfl, wpAny_pure h⟩)) htake))
    | exact wpAny_bind (wpAny_bind (m := Builtin.Tuple.tupleExact _) (wpAny_newObj_type (wpAny_pure ⟨_, rfl, wpAny_pure h⟩) htake))
end
section
variable {X : Cx} {W : WX} {K : PySem.W.Frag}
def tRevT (K : PySem.W.Frag) (te : TE) : TE := fun σ H Q => te σ H fun x H1 => ∃ a xs, x = .ref a ∧ SqT K H1 a xs ∧ ∀ p, H1 p = none → Q (.ref p) (upd H1 p (.tup xs.reverse))
theorem pe_revT {e : Expr} {te : TE} {k : Nat} {p1 p2 p3 pos : Pos} (he : PE X e te) : PE X (.Subscript e (.Slice none none (some (.UnaryOp .USub (.Constant (.int 1) k p1) p2)) p3) pos) (tRevT X.K te) := by
  constructor
  intro pins s σ H Q I h
  refine Subscript_ (thn (he.run pins s σ H _ I h) fun v s1 ⟨x, H1, I1, r1, q1⟩ => ?_)
  obtain ⟨a, xs, rfl, hx, q⟩ := q1
  cases r1
  have hst : PO X (some (.UnaryOp .USub (.Constant (.int 1) k p1) p2)) (tPart (tUn (rU fun i => .int (-i)) (tC (.int 1)))) := po_some (pe_un un_neg pe_int)
  refine wpAny_Slice (thn (po_none.run pins s1 σ H1 (fun o H2 => o = none ∧ H2 = H1) I1 ⟨rfl, rfl⟩) fun vl s2 h2 => ?_)
  obtain ⟨l, H2, I2, pl, rfl, rfl⟩ := h2
  refine thn (po_none.run pins s2 σ H2 (fun o H3 => o = none ∧ H3 = H2) I2 ⟨rfl, rfl⟩) fun vu s3 h3 => ?_
  obtain ⟨u, H3, I3, pu, rfl, rfl⟩ := h3
  refine thn (hst.run pins s3 σ H3 (fun o H4 => o = some (-1) ∧ H4 = H3) I3 ⟨1, rfl, -1, rfl, rfl, rfl⟩) fun vs s4 h4 => ?_
  obtain ⟨o, H4, I4, ps, rfl, rfl⟩ := h4
  have I5 : Inv X pins σ H4 { s4 with heap := s4.heap.push { cls := .type "slice", data := .fields #[vl, vu, vs] } } := I4.kept (t' := s4.toks) fun b ob q => Heap.get?_push_of_some _ q
  obtain ⟨its, r, ht, hz⟩ := I5.tuple hx
  have hlen := r.length
  show wpAny (model X.prog X.w) X.A (subscriptTail e (.Slice none none (some (.UnaryOp .USub (.Constant (.int 1) k p1) p2)) p3) (.ref a) (.ref s4.heap.objs.size)) (EP X pins σ Q) X.xe _
  refine tail_any (ops := [.ref a, .ref s4.heap.objs.size]) ht.typeIs slot_tuple_getitem.lookup ?_ (by with_unfolding_all rfl)
  refine getItem_tuple_rev ht (Heap.IsSliceOf.new _ vl vu vs) pl pu ps ?_ (by rw [List.size_toArray]; omega)
  refine ⟨.ref _, _, I5.laid (t' := s4.toks) (o := .tup xs.reverse) (fun b ob q => Heap.get?_push_of_some _ q) (Nat.le_refl _) ?_, rfl, q _ (I5.hok.fresh (Nat.le_refl _))⟩
  exact ⟨by rw [List.length_reverse]; exact hz, _, r.reverse, IsTup.new _ _⟩
/-- x[::-1], a list or a tuple -/
def oRev : D → Res D
  | .lst xs => .ok (.lst xs.reverse)
  | .tup xs => .ok (.tup xs.reverse)
  | _ => .no
theorem pe_or {e : Expr} {t t' : TE} (h : PE X e t) (h' : PE X e t') : PE X e (fun σ H Q => t σ H Q ∨ t' σ H Q) :=
  ⟨fun pins s σ H Q I q => q.elim (h.run pins s σ H Q I) (h'.run pins s σ H Q I)⟩
theorem q_ce_rev {e : Expr} {k : Nat} {p1 p2 p3 pos : Pos} {te : TE} {f : DS → Res D} (he : CE X W e te f) : CE X W (.Subscript e (.Slice none none (some (.UnaryOp .USub (.Constant (.int 1) k p1) p2)) p3) pos) (fun σ H Q => tRevL X.K te σ H Q ∨ tRevT X.K te σ H Q) (cUn oRev f) :=
  ⟨pe_or (pe_revL he.pe) (pe_revT he.pe), fun B0 H0 δ σ B H Q rel hp => by
    unfold cUn at hp
    cases e : f δ with
    | no => rw [e] at hp; exact hp.elim
    | er x => rw [e] at hp; exact .inl (he.se B0 H0 δ σ B H _ rel (by rw [e]; exact hp))
    | ok d =>
      rw [e, Res.bind_ok] at hp
      unfold oRev at hp
      split at hp
      · refine .inl (he.se B0 H0 δ σ B H _ rel ?_)
        rw [e]
        intro v B1 H1 g1 r1
        cases r1 with
        | lst h1 q => exact ⟨_, _, rfl, g1.i.seq h1, fun p hp' => hp _ _ _ (g1.trans (Grow.new g1.i hp')) (.lst (SqL.of upd_same) (q.reverse.mono (Grow.new g1.i hp').b))⟩
      · refine .inr (he.se B0 H0 δ σ B H _ rel ?_)
        rw [e]
        intro v B1 H1 g1 r1
        cases r1 with
        | tup h1 q => exact ⟨_, _, rfl, sqT_mono g1.i h1, fun p hp' => hp _ _ _ (g1.trans (Grow.new g1.i hp')) (.tup (SqT.of upd_same) (q.reverse.mono (Grow.new g1.i hp').b))⟩
      · exact hp.elim⟩

theorem ce_rev (K : PySem.W.Frag) (hK : X.K = K) {e : Expr} {k : Nat} {p1 p2 p3 pos : Pos} {te : TE} {f : DS → Res D} (he : CE X W e te f) : CE X W (.Subscript e (.Slice none none (some (.UnaryOp .USub (.Constant (.int 1) k p1) p2)) p3) pos) (fun σ H Q => tRevL K te σ H Q ∨ tRevT K te σ H Q) (cUn oRev f) := by
  subst hK
  exact (q_ce_rev he)
/-! ### divmod, range by steps, zip -/
def gDivmod : List D → Res D
  | [.v (.int i), .v (.int j)] => if 0 < j ∧ j.natAbs < 1073741824 then .ok (.tup [.int (i / j), .int (i % j)]) else .no
  | _ => .no
theorem k_divmod : OKC X (.builtin "divmod") (fun xs H Q => ∃ i j, xs = [.int i, .int j] ∧ CDiv i j ∧ ∀ p, H p = none → Q (.ref p) (upd H p (.tup [.int (i / j), .int (i % j)]))) gDivmod := ⟨call_divmod, fun vs ds B H Q i r h => by
  unfold gDivmod at h
  split at h
  · split at h
    · rename_i hz
      cases r with
      | cons r1 r2 =>
        cases r2 with
        | cons r2 r3 => cases r1; cases r2; cases r3; exact ⟨_, _, rfl, ⟨hz.1, by omega⟩, fun p hp => h _ _ _ (Grow.new i hp) (.tup (SqT.of upd_same) (.cons (.v _) (.cons (.v _) .nil)))⟩
    · exact h.elim
  · exact h.elim, fun ds x => by unfold gDivmod; split <;> (try split) <;> simp⟩
def stepsD (i c : Int) (n : Nat) : List D := (List.range n).map fun (k : Nat) => D.int (i + (k : Int) * c)
def steps3 (i j c : Int) : Nat := if i < j then ((j - i - 1) / c + 1).toNat else 0
def gRange3 : List D → Res (List D)
  | [.v (.int i), .v (.int j), .v (.int c)] => if 0 < c ∧ c.natAbs ≤ 1000000 ∧ i.natAbs ≤ 1000000 ∧ j.natAbs ≤ 1000000 then .ok (stepsD i c (steps3 i j c)) else .no
  | _ => .no
theorem rgC_up {i j c : Int} (h : 0 < c ∧ c.natAbs ≤ 1000000 ∧ i.natAbs ≤ 1000000 ∧ j.natAbs ≤ 1000000) : RgC i j c (steps3 i j c) := by
  have h0 : c > 0 := h.1
  have e : Builtin.Range.rangeSize i j c = (steps3 i j c : Int) := by
    unfold Builtin.Range.rangeSize steps3
    rw [if_pos h0]
    split
    · have := Int.ediv_nonneg (a := j - i - 1) (b := c) (by omega) (by omega)
      omega
    · rfl
  have hn : (steps3 i j c : Int) ≤ 3000000 := by
    unfold steps3
    split
    · have h1 := Int.ediv_nonneg (a := j - i - 1) (b := c) (by omega) (by omega)
      have h2 := Int.ediv_le_self c (a := j - i - 1) (by omega)
      omega
    · decide
  refine ⟨by omega, by omega, ?_, e⟩
  unfold Builtin.Range.small
  rw [e]
  simp only [Builtin.Range.rangeFitsLong, Bool.and_eq_true, Bool.or_eq_true, decide_eq_true_eq, beq_iff_eq, h0, if_true]
  omega
theorem ci_range3 {tg a b c : Expr} {p pos : Pos} {t : TA} {f : DS → Res (List D)} (hm : X.mg "range" = none) (ha : CL X W [a, b, c] t f) (hg : Gl X "range" := by rfl)
    (hs : starEach [a, b, c] X.env = (false, eval a X.env) :: starEach [b, c] X.env := by rfl) (hpl : (backTo pos (starEach [b, c] X.env)).any (·.1) = false := by rfl) : CI X W tg (.Call (.Name "range" p) [a, b, c] [] pos) (iRng3 t) (cIt gRange3 f) :=
  ⟨pi_range3 hg hm ha.pa hs hpl, fun B0 H0 δ σ B H R rel hp => by
    unfold cIt at hp
    refine ha.sa B0 H0 δ σ B H _ rel ?_
    cases e : f δ with
    | no => rw [e] at hp; exact hp
    | er x => rw [e] at hp; exact hp
    | ok ds =>
      rw [e, Res.bind_ok] at hp
      intro vs B1 H1 g1 r1
      unfold gRange3 at hp
      split at hp
      · split at hp
        · rename_i i j c hz
          cases r1 with
          | cons r1 r2 =>
            cases r2 with
            | cons r2 r3 =>
              cases r3 with
              | cons r3 r4 =>
                cases r1; cases r2; cases r3; cases r4
                refine ⟨i, j, c, steps3 i j c, rfl, rgC_up hz, ?_⟩
                have hl : (stepsD i c (steps3 i j c)).length = steps3 i j c := by simp [stepsD]
                refine hp _ B1 H1 _ _ g1 (by rw [hl]; exact walk_rangeC) (fun _ _ => trivial) fun k d B2 H2 x H3 hi s1 s2 y => ?_
                obtain ⟨rfl, rfl⟩ := y
                refine ⟨B2, Grow.refl s2, ?_⟩
                unfold stepsD at hi
                rw [List.getElem?_map] at hi
                cases e : (List.range (steps3 i j c))[k]? with
                | none => rw [e] at hi; cases hi
                | some m =>
                  rw [e] at hi
                  have : m = k := by
                    obtain ⟨h1, h2⟩ := List.getElem?_eq_some_iff.mp e
                    simp at h2
                    exact h2.symm
                  subst this
                  cases hi
                  exact .v _
        · exact hp.elim
      · exact hp.elim⟩
def pairsD : List D → List D → List D
  | a :: as, b :: bs => .tup [a, b] :: pairsD as bs
  | _, _ => []
theorem pairsD_length : ∀ (as bs : List D), (pairsD as bs).length = min as.length bs.length
  | [], bs => by simp [pairsD]
  | a :: as, [] => by simp [pairsD]
  | a :: as, b :: bs => by simp [pairsD, pairsD_length as bs]
theorem pairsD_get : ∀ {as bs : List D} {i : Nat} {d : D}, (pairsD as bs)[i]? = some d → ∃ a b, as[i]? = some a ∧ bs[i]? = some b ∧ d = .tup [a, b]
  | [], bs, i, d, h => by simp [pairsD] at h
  | a :: as, [], i, d, h => by simp [pairsD] at h
  | a :: as, b :: bs, 0, d, h => by simp [pairsD] at h; exact ⟨a, b, rfl, rfl, h.symm⟩
  | a :: as, b :: bs, i + 1, d, h => by
    simp [pairsD] at h
    obtain ⟨x, y, h1, h2, h3⟩ := pairsD_get h
    exact ⟨x, y, by simpa using h1, by simpa using h2, h3⟩
def gZip : List D → Res (List D)
  | [.lst as, .lst bs] => .ok (pairsD as bs)
  | [.tup as, .tup bs] => .ok (pairsD as bs)
  | _ => .no
theorem walk_zipT {a b : Addr} {xs ys : List V} {n : Nat} (hn : n = min xs.length ys.length) : Walk (RZ.ItzT K a b) n (fun H => SqT K H a xs ∧ SqT K H b ys) (YPair (fun i => xs[i]?) (fun i => ys[i]?)) := by
  refine ⟨fun i H hi ⟨h1, h2⟩ => ?_, fun H ⟨h1, h2⟩ => ⟨xs, ys, h1, h2, by omega⟩, fun i H v H' hi ⟨h1, h2⟩ y => ?_⟩
  · have l1 : i < xs.length := by omega
    have l2 : i < ys.length := by omega
    exact ⟨xs, ys, xs[i], ys[i], h1, h2, by simp [l1], by simp [l2]⟩
  · obtain ⟨T, x, y, e1, e2, e3, q1, q2⟩ := y
    exact ⟨T, x, y, e1, e2, e3, q1 xs h1, q2 ys h2⟩
theorem yields_pair {B1 : Hp} {xs ys : List V} {as bs : List D} (q1 : RpA K B1 xs as) (q2 : RpA K B1 ys bs) : ∀ (i : Nat) (d : D) (B2 H2 : Hp) (x : V) (H3 : Hp), (pairsD as bs)[i]? = some d → Same B1 B2 → Same B2 H2 → YPair (fun i => xs[i]?) (fun i => ys[i]?) i H2 x H3 → ∃ B3, Grow B2 H2 B3 H3 ∧ Rp K B3 x d := by
  intro i d B2 H2 x H3 hi s1 s2 y
  obtain ⟨T, u, v, rfl, hT, rfl, hx, hy⟩ := y
  obtain ⟨a, b, ha, hb, rfl⟩ := pairsD_get hi
  obtain ⟨a', ea, ra⟩ := q1.get' hx
  obtain ⟨b', eb, rb⟩ := q2.get' hy
  rw [ea] at ha
  rw [eb] at hb
  cases ha
  cases hb
  exact ⟨upd B2 T (.tup [u, v]), Grow.new s2 hT, .tup (SqT.of upd_same) (.cons ((ra.mono s1).mono (Grow.new s2 hT).b) (.cons ((rb.mono s1).mono (Grow.new s2 hT).b) .nil))⟩
theorem q_ci_zip {e e2 : Expr} {t : TA} {f : DS → Res (List D)} {p pos tpos : Pos} {elts : List Expr} {kk : Nat} (hm : X.mg "zip" = none) (ha : CL X W [e, e2] t f) (hg : Gl X "zip" := by rfl)
    (hs : starEach [e, e2] X.env = (false, eval e X.env) :: starEach [e2] X.env := by rfl) (hpl : (backTo pos (starEach [e2] X.env)).any (·.1) = false := by rfl) : CI X W (.Tuple elts kk tpos) (.Call (.Name "zip" p) [e, e2] [] pos) (RZ.iZipA X.K t) (cIt gZip f) :=
  ⟨RZ.pi_zipA hg hm ha.pa hs hpl, fun B0 H0 δ σ B H R rel hp => by
    unfold cIt at hp
    refine ha.sa B0 H0 δ σ B H _ rel ?_
    cases e : f δ with
    | no => rw [e] at hp; exact hp
    | er x => rw [e] at hp; exact hp
    | ok ds =>
      rw [e, Res.bind_ok] at hp
      intro vs B1 H1 g1 r1
      unfold gZip at hp
      split at hp
      · cases r1 with
        | cons r1 r2 =>
          cases r2 with
          | cons r2 r3 =>
            cases r3
            cases r1 with
            | lst h1 q1 =>
              cases r2 with
              | lst h2 q2 =>
                refine ⟨_, _, _, _, rfl, .inl ⟨g1.i.seq h1, g1.i.seq h2, ?_⟩⟩
                exact hp _ B1 H1 _ _ g1 (walk_zip (by rw [pairsD_length, q1.length, q2.length])) (fun H2 s2 => ⟨s2.seq h1, s2.seq h2⟩) (yields_pair q1 q2)
      · cases r1 with
        | cons r1 r2 =>
          cases r2 with
          | cons r2 r3 =>
            cases r3
            cases r1 with
            | tup h1 q1 =>
              cases r2 with
              | tup h2 q2 =>
                refine ⟨_, _, _, _, rfl, .inr ⟨sqT_mono g1.i h1, sqT_mono g1.i h2, ?_⟩⟩
                exact hp _ B1 H1 _ _ g1 (walk_zipT (by rw [pairsD_length, q1.length, q2.length])) (fun H2 s2 => ⟨sqT_mono s2 h1, sqT_mono s2 h2⟩) (yields_pair q1 q2)
      · exact hp.elim⟩
theorem ci_zip (K : PySem.W.Frag) (hK : X.K = K) {e e2 : Expr} {t : TA} {f : DS → Res (List D)} {p pos tpos : Pos} {elts : List Expr} {kk : Nat} (hm : X.mg "zip" = none) (ha : CL X W [e, e2] t f) (hg : Gl X "zip" := by rfl)
    (hs : starEach [e, e2] X.env = (false, eval e X.env) :: starEach [e2] X.env := by rfl) (hpl : (backTo pos (starEach [e2] X.env)).any (·.1) = false := by rfl) : CI X W (.Tuple elts kk tpos) (.Call (.Name "zip" p) [e, e2] [] pos) (RZ.iZipA K t) (cIt gZip f) := by
  subst hK
  exact (q_ci_zip hm ha hg hs hpl)
end
end DV
namespace DV
open PySem L2

/-! ### mathematics over the compiled functions: loops and comprehensions -/
/-- a for over xs.map f whose turns are told by a fold -/
theorem forF_map {α β : Type} (f : β → D) (st : α → DS) (step : α → β → α) (P : α → Prop) {b : D → DS → Option DS} {g : DS → Fl} : ∀ (xs : List β) (a : α), P a →
    (∀ a x, x ∈ xs → P a → ∃ δ', b (f x) (st a) = some δ' ∧ g δ' = .nx (st (step a x)) ∧ P (step a x)) → forF b g (xs.map f) (st a) = .nx (st (xs.foldl step a)) ∧ P (xs.foldl step a)
  | [], a, hp, _ => ⟨rfl, hp⟩
  | x :: xs, a, hp, h => by
    obtain ⟨δ', h1, h2, h3⟩ := h a x (by simp) hp
    have ih := forF_map f st step P xs (step a x) h3 fun a y hy => h a y (by simp [hy])
    refine ⟨?_, ih.2⟩
    rw [List.map_cons, forF, h1]
    dsimp only
    rw [h2]
    exact ih.1
/-- a for that only goes on, a word holding between the turns -/
theorem forF_inv {β : Type} (f : β → D) (P : DS → Prop) {b : D → DS → Option DS} {g : DS → Fl} : ∀ (xs : List β) (δ : DS), P δ →
    (∀ δ x, x ∈ xs → P δ → ∃ δ' δ2, b (f x) δ = some δ' ∧ g δ' = .nx δ2 ∧ P δ2) → ∃ δ2, forF b g (xs.map f) δ = .nx δ2 ∧ P δ2
  | [], δ, hp, _ => ⟨δ, rfl, hp⟩
  | x :: xs, δ, hp, h => by
    obtain ⟨δ', δ2, h1, h2, h3⟩ := h δ x (by simp) hp
    obtain ⟨δ3, h4, h5⟩ := forF_inv f P xs δ2 h3 fun δ y hy => h δ y (by simp [hy])
    refine ⟨δ3, ?_, h5⟩
    rw [List.map_cons, forF, h1]
    dsimp only
    rw [h2]
    exact h4
/-- a comprehension over xs.map f -/
theorem lcF_map {β : Type} (f : β → D) (h : β → D) {b : D → DS → Option DS} {t : DS → Res Bool} {e : DS → Res D} {δ : DS} : ∀ xs : List β,
    (∀ x, x ∈ xs → ∃ δ', b (f x) δ = some δ' ∧ t δ' = .ok true ∧ e δ' = .ok (h x)) → lcF b t e (xs.map f) δ = .ok (xs.map h)
  | [], _ => rfl
  | x :: xs, hh => by
    obtain ⟨δ', h1, h2, h3⟩ := hh x (by simp)
    rw [List.map_cons, lcF, h1]
    dsimp only
    rw [h2, h3]
    simp only [Res.calm_ok, Res.bind_ok, if_true]
    rw [lcF_map f h xs fun y hy => hh y (by simp [hy])]
    rfl
theorem lcF_filter {β : Type} (f : β → D) (p : β → Bool) (h : β → D) {b : D → DS → Option DS} {t : DS → Res Bool} {e : DS → Res D} {δ : DS} : ∀ xs : List β,
    (∀ x, x ∈ xs → ∃ δ', b (f x) δ = some δ' ∧ t δ' = .ok (p x) ∧ (p x = true → e δ' = .ok (h x))) → lcF b t e (xs.map f) δ = .ok ((xs.filter p).map h)
  | [], _ => rfl
  | x :: xs, hh => by
    obtain ⟨δ', h1, h2, h3⟩ := hh x (by simp)
    have ih := lcF_filter f p h xs fun y hy => hh y (by simp [hy])
    rw [List.map_cons, lcF, h1]
    dsimp only
    rw [h2]
    simp only [Res.calm_ok, Res.bind_ok]
    cases hp : p x with
    | true =>
      rw [if_pos rfl, h3 hp, Res.calm_ok, Res.bind_ok, ih, Res.bind_ok, List.filter_cons, if_pos hp]
      rfl
    | false =>
      rw [if_neg Bool.false_ne_true, ih, List.filter_cons, if_neg (by rw [hp]; exact Bool.false_ne_true)]
theorem cutD_map {β : Type} (f : β → D) (xs : List β) (lo hi : Option Int) : cutD (xs.map f) lo hi = ((xs.drop (HT.sIx xs.length 0 lo)).take (HT.sIx xs.length xs.length hi - HT.sIx xs.length 0 lo)).map f := by
  unfold cutD
  rw [List.length_map, List.map_take, List.map_drop]
theorem mul_ok {i j : Int} {a b : Nat} (ha : i.natAbs < 2 ^ a) (hb : j.natAbs < 2 ^ b) (h0 : 0 < a) (h1 : 0 < b) (h : a + b ≤ 1000000) : i.natAbs.log2 + j.natAbs.log2 < 1000000 := wide_mul ha hb h0 h1 h
theorem oMul_int {i j : Int} (h : i.natAbs.log2 + j.natAbs.log2 < 1000000) : oMul2 (.int i) (.int j) = .ok (.int (i * j)) := by
  show (if i.natAbs.log2 + j.natAbs.log2 < 1000000 then _ else _) = _
  rw [if_pos h]
theorem oMulI_int {i j : Int} (h : i.natAbs.log2 + j.natAbs.log2 < 1000000) : oMulI (.int i) (.int j) = .ok (.int (i * j)) := by
  show (if i.natAbs.log2 + j.natAbs.log2 < 1000000 then _ else _) = _
  rw [if_pos h]
theorem oMod_pos {i j : Int} (h : 0 < j) : oMod (.int i) (.int j) = .ok (.int (i % j)) := by
  show (if j ≠ 0 then _ else _) = _
  rw [if_pos (by omega), Int.fmod_eq_emod_of_nonneg i (by omega)]
theorem log2_small {n k : Nat} (h0 : 0 < k) (h : n < 2 ^ k) : n.log2 < k := PySem.Flt.log2_lt_of h0 h
theorem oFdiv_pos {i j : Int} (h : 0 < j) (hl : j.natAbs < 2 ^ 9000) : oFdiv (.int i) (.int j) = .ok (.int (i / j)) := by
  show (if j ≠ 0 ∧ j.natAbs.log2 < 9000 then _ else _) = _
  rw [if_pos ⟨by omega, log2_small (by decide) hl⟩, Int.fdiv_eq_ediv_of_nonneg i (by omega)]
theorem oAdd_int (i j : Int) : oAdd (.int i) (.int j) = .ok (.int (i + j)) := rfl
theorem oSub_int (i j : Int) : oSub (.int i) (.int j) = .ok (.int (i - j)) := rfl
theorem oEq_int (i j : Int) : oEq (.int i) (.int j) = .ok (.bl (decide (i = j))) := by
  show (if SeqAt.shaped (.int i) = true ∧ SeqAt.shaped (.int j) = true then Res.ok (D.bl (if false = true then _ else i == j)) else .no) = _
  rw [if_pos ⟨by rfl, by rfl⟩]
  rfl
theorem oNe_int (i j : Int) : oNe (.int i) (.int j) = .ok (.bl (!decide (i = j))) := by
  show (if SeqAt.shaped (.int i) = true ∧ SeqAt.shaped (.int j) = true then Res.ok (D.bl (if true = true then !(i == j) else _)) else .no) = _
  rw [if_pos ⟨by rfl, by rfl⟩]
  rfl
theorem oEq_bl (i j : Bool) : oEq (.bl i) (.bl j) = .ok (.bl (i == j)) := by
  cases i <;> cases j <;> rfl
theorem oNe_bl (i j : Bool) : oNe (.bl i) (.bl j) = .ok (.bl (!(i == j))) := by
  cases i <;> cases j <;> rfl
theorem gRange1_nat {n : Nat} (hz : n ≤ sizeLine) : gRange1 [D.int (n : Int)] = .ok (rangeD 0 n) := by
  rw [sizeLine_eq] at hz
  unfold gRange1
  dsimp only
  rw [if_pos (by omega), Int.toNat_natCast]
theorem rangeD_len (lo : Int) (n : Nat) : (rangeD lo n).length = n := by simp [rangeD]

/-! ### one statement after the other -/
theorem seq_nx {g h : DS → Fl} {δ δ' : DS} {r : Fl} (h1 : g δ = .nx δ') (h2 : h δ' = r) : cSeq g h δ = r := by
  rw [cSeq, h1]
  exact h2
theorem seq_rt {g h : DS → Fl} {δ : DS} {d : D} (h1 : g δ = .rt d) : cSeq g h δ = .rt d := by
  rw [cSeq, h1]
  rfl
theorem seq_rs {g h : DS → Fl} {δ δ' : DS} {x : Exn} (h1 : g δ = .rs x δ') : cSeq g h δ = .rs x δ' := by
  rw [cSeq, h1]
  rfl
theorem asg_nx {i : Nat} {f : DS → Res D} {δ : DS} {d : D} (h : f δ = .ok d) : cAsg i f δ = .nx (δ.set i (some (.im d))) := by
  rw [cAsg, h]
  rfl
theorem own_nx {i : Nat} {f : DS → Res (List D)} {δ : DS} {ds : List D} (h : f δ = .ok ds) : cOwn i f δ = .nx (δ.set i (some (.ow ds))) := by
  rw [cOwn, h]
  rfl
theorem drop_nx {f : DS → Res D} {δ : DS} {d : D} (h : f δ = .ok d) : cDrop f δ = .nx δ := by
  rw [cDrop, h]
  rfl
theorem ret_rt {f : DS → Res D} {δ : DS} {d : D} (h : f δ = .ok d) : cRet f δ = .rt d := by
  rw [cRet, h]
  rfl
theorem if_t {t : DS → Res Bool} {g h : DS → Fl} {δ : DS} {r : Fl} (ht : t δ = .ok true) (hg : g δ = r) : cIf t g h δ = r := by
  rw [cIf, ht]
  exact hg
theorem if_f {t : DS → Res Bool} {g h : DS → Fl} {δ : DS} {r : Fl} (ht : t δ = .ok false) (hh : h δ = r) : cIf t g h δ = r := by
  rw [cIf, ht]
  exact hh
theorem for_r {fi : DS → Res (List D)} {b : D → DS → Option DS} {g : DS → Fl} {δ : DS} {ds : List D} {r : Fl} (h : fi δ = .ok ds) (hf : forF b g ds δ = r) : cFor fi b g δ = r := by
  rw [cFor, h]
  exact hf
end DV
namespace My
open PySem L2 DV

abbrev g_multiplied_l1 : DS → Fl :=
  (cAug 1 oMulI (cVar 2))
def g_multiplied : DS → Fl :=
  (cSeq (cAsg 1 (cC (.int 1)))
  (cSeq (cFor (cItems (cVar 0)) (bName 2) g_multiplied_l1)
  (cRet (cVar 1))))
def F_multiplied : List D → Res D := defF 2 g_multiplied
def g_look_sizes : DS → Fl :=
  (cSeq (cIf (cOrT (cNotT (cTest (cChain oLe oLe (cC (.int 1)) (cCall gLen (cCons (cVar 0) cNil)) (cC (.int 6))))) (cNotT (cTest (cCall gAll (cCons (cL (cLc [1] (cItems (cVar 0)) (bName 1) cYes (cChain oLe oLe (cC (.int 2)) (cVar 1) (cC (.int 4))))) cNil))))) (fun _ => .no) cNext)
  (cIf (cTest (cBin oGt (cFn0 F_multiplied (cCons (cVar 0) cNil)) (cC (.int 300)))) (fun _ => .no) cNext))
def F_look_sizes : List D → Res D := defF 1 g_look_sizes
def g_look_row : DS → Fl :=
  (cIf (cOrT (cTest (cBin oNe (cCall gLen (cCons (cVar 1) cNil)) (cCall gLen (cCons (cVar 0) cNil)))) (cNotT (cTest (cCall gAll (cCons (cL (cLc [2, 3] (cIt gZip (cCons (cVar 1) (cCons (cVar 0) cNil))) (bTup 2 (bCons (bName 2) (bCons (bName 3) bNil))) cYes (cChain oLe oLt (cC (.int 0)) (cVar 2) (cVar 3)))) cNil))))) (fun _ => .no) cNext)
def F_look_row : List D → Res D := defF 2 g_look_row
def g_many_rows : DS → Fl :=
  (cSeq (cDrop (cFn0 F_look_sizes (cCons (cVar 0) cNil)))
  (cRet (cFn0 F_multiplied (cCons (cVar 0) cNil))))
def F_many_rows : List D → Res D := defF 0 g_many_rows
abbrev g_number_of_l1 : DS → Fl :=
  (cAsg 2 (cBin oAdd (cBin oMul2 (cVar 2) (cVar 4)) (cVar 3)))
def g_number_of : DS → Fl :=
  (cSeq (cDrop (cFn0 F_look_sizes (cCons (cVar 0) cNil)))
  (cSeq (cDrop (cFn0 F_look_row (cCons (cVar 0) (cCons (cVar 1) cNil))))
  (cSeq (cAsg 2 (cC (.int 0)))
  (cSeq (cFor (cIt gZip (cCons (cVar 1) (cCons (cVar 0) cNil))) (bTup 2 (bCons (bName 3) (bCons (bName 4) bNil))) g_number_of_l1)
  (cRet (cVar 2))))))
def F_number_of : List D → Res D := defF 3 g_number_of
abbrev g_row_of_l1 : DS → Fl :=
  (cSeq (cAsgG (bTup 2 (bCons (bName 2) (bCons (bName 5) bNil))) (cCall gDivmod (cCons (cVar 2) (cCons (cVar 4) cNil))))
  (cApp 3 (cVar 5)))
def g_row_of : DS → Fl :=
  (cSeq (cDrop (cFn0 F_look_sizes (cCons (cVar 0) cNil)))
  (cSeq (cIf (cOrT (cTest (cBin oLt (cVar 1) (cC (.int 0)))) (cTest (cBin oGe (cVar 1) (cFn0 F_multiplied (cCons (cVar 0) cNil))))) (fun _ => .no) cNext)
  (cSeq (cAsg 2 (cVar 1))
  (cSeq (cOwn 3 cNil)
  (cSeq (cFor (cItems (cUn oRev (cVar 0))) (bName 4) g_row_of_l1)
  (cFz 3 (cRet (cCall gTuple (cCons (cUn oRev (cVar 3)) cNil)))))))))
def F_row_of : List D → Res D := defF 4 g_row_of
abbrev g__law_draws_l1 : DS → Fl :=
  (cSeq (cApp 5 (cBin oMod (cVar 0) (cVar 6)))
  (cAsg 0 (cBin oFdiv (cVar 0) (cVar 6))))
def g__law_draws : DS → Fl :=
  (cSeq (cIf (cTest (cBin oLt (cCall gAbs (cCons (cVar 0) cNil)) (cBin oPow (cC (.int 10)) (cC (.int 18))))) (cSeq (cAsg 2 (cBin oMod (cBin oAdd (cBin oMul2 (cVar 0) (cC (.int 48271))) (cC (.int 11))) (cC (.int 2147483647))))
  (cSeq (cAsg 3 (cBin oMod (cBin oAdd (cBin oAdd (cBin oMul2 (cVar 2) (cVar 2)) (cBin oMul2 (cC (.int 40692)) (cVar 2))) (cVar 0)) (cC (.int 2147483399))))
  (cSeq (cAsg 4 (cBin oMod (cBin oAdd (cBin oMul2 (cVar 3) (cC (.int 16807))) (cVar 2)) (cC (.int 1000000007))))
  (cAsg 0 (cBin oAdd (cVar 3) (cBin oMul2 (cC (.int 2147483399)) (cBin oAdd (cVar 4) (cBin oMul2 (cC (.int 1000000007)) (cVar 2))))))))) (cAsg 0 (cBin oSub (cCall gAbs (cCons (cVar 0) cNil)) (cBin oPow (cC (.int 10)) (cC (.int 18))))))
  (cSeq (cOwn 5 cNil)
  (cSeq (cFor (cItems (cVar 1)) (bName 6) g__law_draws_l1)
  (cFz 5 (cRet (cVar 5))))))
def F__law_draws : List D → Res D := defF 5 g__law_draws
abbrev g__law_rows_l1 : DS → Fl :=
  (cAsg 3 (cBin oAdd (cVar 3) (cL (cLc [5] (cIt gRange1 (cCons (cVar 2) cNil)) (bName 5) cYes (cBin oAdd (cVar 4) (cTup (cCons (cVar 5) cNil)))))))
abbrev g__law_rows_l2 : DS → Fl :=
  (cSeq (cAsg 3 (cL cNil))
  (cSeq (cFor (cItems (cVar 1)) (bName 4) g__law_rows_l1)
  (cAsg 1 (cVar 3))))
def g__law_rows : DS → Fl :=
  (cSeq (cAsg 1 (cL (cCons (cTup cNil) cNil)))
  (cSeq (cFor (cItems (cVar 0)) (bName 2) g__law_rows_l2)
  (cRet (cVar 1))))
def F__law_rows : List D → Res D := defF 5 g__law_rows
def g__law_same (rec : List D → Res D) : DS → Fl :=
  (cSeq (cIf (cTest (cBin (oIsN false) (cVar 1) (cC .non))) (cRet (cBin (oIsN false) (cVar 0) (cC .non))) cNext)
  (cSeq (cIf (cTest (cCall gIsi (cCons (cVar 1) (cCons (cC (.v (.ty "str"))) cNil)))) (cRet (cAndV (cCall gIsi (cCons (cVar 0) (cCons (cC (.v (.ty "str"))) cNil))) (cBin oEq (cVar 0) (cVar 1)))) cNext)
  (cSeq (cIf (cTest (cCall gIsi (cCons (cVar 1) (cCons (cC (.v (.ty "int"))) cNil)))) (cRet (cAndV (cCall gIsi (cCons (cVar 0) (cCons (cC (.v (.ty "int"))) cNil))) (cAndV (cBin oEq (cCall gIsi (cCons (cVar 0) (cCons (cC (.v (.ty "bool"))) cNil))) (cCall gIsi (cCons (cVar 1) (cCons (cC (.v (.ty "bool"))) cNil)))) (cBin oEq (cVar 0) (cVar 1))))) cNext)
  (cSeq (cIf (cOrT (cTest (cBin oNe (cCall gIsi (cCons (cVar 1) (cCons (cC (.v (.ty "list"))) cNil))) (cCall gIsi (cCons (cVar 0) (cCons (cC (.v (.ty "list"))) cNil))))) (cTest (cBin oNe (cCall gIsi (cCons (cVar 1) (cCons (cC (.v (.ty "tuple"))) cNil))) (cCall gIsi (cCons (cVar 0) (cCons (cC (.v (.ty "tuple"))) cNil)))))) (cRet (cC (.bl false))) cNext)
  (cRet (cAndV (cBin oEq (cCall gLen (cCons (cVar 0) cNil)) (cCall gLen (cCons (cVar 1) cNil))) (cCall gAll (cCons (cL (cLc [2] (cIt gRange1 (cCons (cCall gLen (cCons (cVar 1) cNil)) cNil)) (bName 2) cYes (cFn0 rec (cCons (cBin oIx (cVar 0) (cVar 2)) (cCons (cBin oIx (cVar 1) (cVar 2)) cNil))))) cNil))))))))
def F__law_same : Nat → List D → Res D
  | 0 => fun _ => .no
  | n + 1 => defF 1 (g__law_same (F__law_same n))
abbrev g_law_l1 : DS → Fl :=
  (cIf (cTest (cBin oLe (cBin oMul2 (cVar 4) (cBin oAdd (cC (.int 2)) (cVar 5))) (cC (.int 300)))) (cSeq (cApp 3 (cBin oAdd (cC (.int 2)) (cVar 5)))
  (cAsg 4 (cBin oMul2 (cVar 4) (cBin oAdd (cC (.int 2)) (cVar 5))))) cNext)
abbrev g_law_l2 : DS → Fl :=
  (cIf (cLookT 3 (cNotT (cTest (cFn0 (F__law_same 6) (cCons (cL (cCons (cFn0 F_row_of (cCons (cVar 3) (cCons (cVar 7) cNil))) (cCons (cFn0 F_number_of (cCons (cVar 3) (cCons (cBin oIx (cVar 6) (cVar 7)) cNil))) cNil))) (cCons (cL (cCons (cBin oIx (cVar 6) (cVar 7)) (cCons (cVar 7) cNil))) cNil)))))) (cRet (cC (.bl false))) cNext)
abbrev g_law_l3 : DS → Fl :=
  (cSeq (cAsg 2 (cFn0 F__law_draws (cCons (cVar 1) (cCons (cL (cCons (cC (.int 6)) (cCons (cC (.int 3)) (cCons (cC (.int 3)) (cCons (cC (.int 3)) (cCons (cC (.int 3)) (cCons (cC (.int 3)) (cCons (cC (.int 3)) cNil)))))))) cNil))))
  (cSeq (cOwn 3 cNil)
  (cSeq (cAsg 4 (cC (.int 1)))
  (cSeq (cFor (cItems (cSl (cVar 2) (cSome (cC (.int 1))) (cSome (cBin oAdd (cC (.int 2)) (cBin oIx (cVar 2) (cC (.int 0))))))) (bName 5) g_law_l1)
  (cSeq (cFz 3 (cAsg 3 (cCall gTuple (cCons (cVar 3) cNil))))
  (cSeq (cFz 3 (cAsg 6 (cFn0 F__law_rows (cCons (cVar 3) cNil))))
  (cSeq (cIf (cLookT 3 (cNotT (cTest (cFn0 (F__law_same 6) (cCons (cFn0 F_many_rows (cCons (cVar 3) cNil)) (cCons (cCall gLen (cCons (cVar 6) cNil)) cNil)))))) (cRet (cC (.bl false))) cNext)
  (cFor (cIt gRange3 (cCons (cC (.int 0)) (cCons (cCall gLen (cCons (cVar 6) cNil)) (cCons (cBin oAdd (cC (.int 1)) (cBin oFdiv (cCall gLen (cCons (cVar 6) cNil)) (cC (.int 60)))) cNil)))) (bName 7) g_law_l2))))))))
def g_law : DS → Fl :=
  (cSeq (cAsg 0 (cSl (cVar 0) cNone (cSome (cC (.int 40)))))
  (cSeq (cFor (cItems (cBin oAdd (cVar 0) (cL (cCons (cC (.int 0)) (cCons (cC (.int 1)) cNil))))) (bName 1) g_law_l3)
  (cRet (cC (.bl true)))))
def F_law : List D → Res D := defF 7 g_law
end My
namespace My
open PySem L2 DV

/-! ### draws -/
def digs : Int → List Int → List Int
  | _, [] => []
  | m, s :: ss => m % s :: digs (m / s) ss
theorem digs_length : ∀ (ss : List Int) (m : Int), (digs m ss).length = ss.length
  | [], _ => rfl
  | s :: ss, m => by simp [digs, digs_length ss]
theorem draws_loop (L : D) (o2 o3 o4 : Option O) : ∀ (ss : List Int) (m : Int) (ds : List D) (o : Option O), (∀ s ∈ ss, 0 < s ∧ s < 2 ^ 31) → ds.length + ss.length < 1000 →
    ∃ m' o', forF (bName 6) (cSeq (cApp 5 (cBin oMod (cVar 0) (cVar 6))) (cAsg 0 (cBin oFdiv (cVar 0) (cVar 6)))) (ss.map D.int) [some (.im (.int m)), some (.im L), o2, o3, o4, some (.ow ds), o] =
      .nx [some (.im (.int m')), some (.im L), o2, o3, o4, some (.ow (ds ++ (digs m ss).map D.int)), o']
  | [], m, ds, o, _, _ => ⟨m, o, by simp [forF, digs]⟩
  | s :: ss, m, ds, o, hs, hl => by
    obtain ⟨h1, h2⟩ := hs s (by simp)
    have hl2 : ds.length + (ss.length + 1) < 1000 := by simpa using hl
    have hz : ds.length < sizeLine := Nat.lt_trans (by omega : ds.length < 1000) (by decide)
    obtain ⟨m', o', ih⟩ := draws_loop L o2 o3 o4 ss (m / s) (ds ++ [D.int (m % s)]) (some (.im (.int s))) (fun x hx => hs x (by simp [hx])) (by simp; omega)
    refine ⟨m', o', ?_⟩
    have hs9 : s.natAbs < 2 ^ 9000 := Nat.lt_of_lt_of_le (show s.natAbs < 2 ^ 31 by omega) (Nat.pow_le_pow_right (by decide) (by decide))
    rw [List.map_cons, forF]
    simp only [bName, List.set_cons_succ, List.set_cons_zero]
    have e1 : oMod (.int m) (.int s) = .ok (.int (m % s)) := oMod_pos h1
    have e2 : oFdiv (.int m) (.int s) = .ok (.int (m / s)) := oFdiv_pos h1 hs9
    have eb : cSeq (cApp 5 (cBin oMod (cVar 0) (cVar 6))) (cAsg 0 (cBin oFdiv (cVar 0) (cVar 6))) [some (.im (.int m)), some (.im L), o2, o3, o4, some (.ow ds), some (.im (.int s))] =
        .nx [some (.im (.int (m / s))), some (.im L), o2, o3, o4, some (.ow (ds ++ [D.int (m % s)])), some (.im (.int s))] := by
      simp [cSeq, cApp, cBin, cVar, cAsg, e1, e2, hz]
    rw [eb]
    dsimp only
    rw [ih]
    simp [digs]
theorem draws_ok (c : Int) (ss : List Int) (hs : ∀ s ∈ ss, 0 < s ∧ s < 2 ^ 31) (hl : ss.length < 1000) : ∃ m, F__law_draws [.int c, .lst (ss.map D.int)] = .ok (.lst ((digs m ss).map D.int)) := by
  have fin : ∀ (m : Int) (o2 o3 o4 : Option O), flR (((cSeq (cOwn 5 cNil) (cSeq (cFor (cItems (cVar 1)) (bName 6) (cSeq (cApp 5 (cBin oMod (cVar 0) (cVar 6))) (cAsg 0 (cBin oFdiv (cVar 0) (cVar 6))))) (cFz 5 (cRet (cVar 5)))))) [some (.im (.int m)), some (.im (.lst (ss.map D.int))), o2, o3, o4, none, none]) = .ok (.lst ((digs m ss).map D.int)) := by
    intro m o2 o3 o4
    obtain ⟨m', o', h⟩ := draws_loop (.lst (ss.map D.int)) o2 o3 o4 ss m [] none hs (by simpa using hl)
    simp only [List.nil_append] at h
    simp [cSeq, cOwn, cNil, cFor, cItems, cVar, itemsD, h, cFz, fz, cRet]
  unfold F__law_draws defF g__law_draws
  have est : st0 5 [D.int c, .lst (ss.map D.int)] = [some (.im (.int c)), some (.im (.lst (ss.map D.int))), none, none, none, none, none] := rfl
  rw [est, cSeq]
  have p1 : oPow (.int 10) (.int 18) = .ok (.int (10 ^ 18)) := by rfl
  have htest : (cTest (cBin oLt (cCall gAbs (cCons (cVar 0) cNil)) (cBin oPow (cC (.int 10)) (cC (.int 18))))) [some (.im (.int c)), some (.im (.lst (ss.map D.int))), none, none, none, none, none] = .ok (decide ((if c < 0 then -c else c) < 10 ^ 18)) := by
    simp [cTest, cBin, cCall, gAbs, cCons, cVar, cNil, cC, p1, oI, asB]
  by_cases hc : (if c < 0 then -c else c) < 10 ^ 18
  · have hc1 : c.natAbs < 2 ^ 60 := by
      have : (10 : Int) ^ 18 < 2 ^ 60 := by decide
      split at hc <;> omega
    have m1 : oMul2 (.int c) (.int 48271) = .ok (.int (c * 48271)) := oMul_int (mul_ok (a := 60) (b := 16) hc1 (by decide) (by decide) (by decide) (by decide))
    have hm0 : 0 ≤ (c * 48271 + 11) % 2147483647 ∧ (c * 48271 + 11) % 2147483647 < 2147483647 := by omega
    generalize hmx : (c * 48271 + 11) % 2147483647 = mx at hm0
    have m2 : oMul2 (.int mx) (.int mx) = .ok (.int (mx * mx)) := oMul_int (mul_ok (a := 31) (b := 31) (by omega) (by omega) (by decide) (by decide) (by decide))
    have m3 : oMul2 (.int 40692) (.int mx) = .ok (.int (40692 * mx)) := oMul_int (mul_ok (a := 31) (b := 31) (by decide) (by omega) (by decide) (by decide) (by decide))
    have ht0 : 0 ≤ (mx * mx + 40692 * mx + c) % 2147483399 ∧ (mx * mx + 40692 * mx + c) % 2147483399 < 2147483399 := ⟨Int.emod_nonneg _ (by decide), Int.emod_lt_of_pos _ (by decide)⟩
    generalize htw : (mx * mx + 40692 * mx + c) % 2147483399 = tw at ht0
    have m4 : oMul2 (.int tw) (.int 16807) = .ok (.int (tw * 16807)) := oMul_int (mul_ok (a := 31) (b := 31) (by omega) (by decide) (by decide) (by decide) (by decide))
    have hx0 : 0 ≤ (tw * 16807 + mx) % 1000000007 ∧ (tw * 16807 + mx) % 1000000007 < 1000000007 := by omega
    generalize hsx : (tw * 16807 + mx) % 1000000007 = sx at hx0
    have m5 : oMul2 (.int 1000000007) (.int mx) = .ok (.int (1000000007 * mx)) := oMul_int (mul_ok (a := 31) (b := 31) (by decide) (by omega) (by decide) (by decide) (by decide))
    have m6 : oMul2 (.int 2147483399) (.int (sx + 1000000007 * mx)) = .ok (.int (2147483399 * (sx + 1000000007 * mx))) := oMul_int (mul_ok (a := 32) (b := 64) (by decide) (by omega) (by decide) (by decide) (by decide))
    have d1 : oMod (.int (c * 48271 + 11)) (.int 2147483647) = .ok (.int mx) := by rw [oMod_pos (by decide), hmx]
    have d2 : oMod (.int (mx * mx + 40692 * mx + c)) (.int 2147483399) = .ok (.int tw) := by rw [oMod_pos (by decide), htw]
    have d3 : oMod (.int (tw * 16807 + mx)) (.int 1000000007) = .ok (.int sx) := by rw [oMod_pos (by decide), hsx]
    refine ⟨tw + 2147483399 * (sx + 1000000007 * mx), ?_⟩
    have hif : cIf (cTest (cBin oLt (cCall gAbs (cCons (cVar 0) cNil)) (cBin oPow (cC (.int 10)) (cC (.int 18))))) (cSeq (cAsg 2 (cBin oMod (cBin oAdd (cBin oMul2 (cVar 0) (cC (.int 48271))) (cC (.int 11))) (cC (.int 2147483647))))
        (cSeq (cAsg 3 (cBin oMod (cBin oAdd (cBin oAdd (cBin oMul2 (cVar 2) (cVar 2)) (cBin oMul2 (cC (.int 40692)) (cVar 2))) (cVar 0)) (cC (.int 2147483399))))
        (cSeq (cAsg 4 (cBin oMod (cBin oAdd (cBin oMul2 (cVar 3) (cC (.int 16807))) (cVar 2)) (cC (.int 1000000007))))
        (cAsg 0 (cBin oAdd (cVar 3) (cBin oMul2 (cC (.int 2147483399)) (cBin oAdd (cVar 4) (cBin oMul2 (cC (.int 1000000007)) (cVar 2))))))))) (cAsg 0 (cBin oSub (cCall gAbs (cCons (cVar 0) cNil)) (cBin oPow (cC (.int 10)) (cC (.int 18)))))
        [some (.im (.int c)), some (.im (.lst (ss.map D.int))), none, none, none, none, none] = .nx [some (.im (.int (tw + 2147483399 * (sx + 1000000007 * mx)))), some (.im (.lst (ss.map D.int))), some (.im (.int mx)), some (.im (.int tw)), some (.im (.int sx)), none, none] := by
      rw [cIf, htest, stE_ok, if_pos (decide_eq_true hc)]
      simp [cBin, cVar, cC, cSeq, cAsg, oAdd_int, m1, m2, m3, m4, m5, m6, d1, d2, d3]
    rw [hif]
    exact fin _ _ _ _
  · refine ⟨(if c < 0 then -c else c) - 10 ^ 18, ?_⟩
    have hif : cIf (cTest (cBin oLt (cCall gAbs (cCons (cVar 0) cNil)) (cBin oPow (cC (.int 10)) (cC (.int 18))))) (cSeq (cAsg 2 (cBin oMod (cBin oAdd (cBin oMul2 (cVar 0) (cC (.int 48271))) (cC (.int 11))) (cC (.int 2147483647))))
        (cSeq (cAsg 3 (cBin oMod (cBin oAdd (cBin oAdd (cBin oMul2 (cVar 2) (cVar 2)) (cBin oMul2 (cC (.int 40692)) (cVar 2))) (cVar 0)) (cC (.int 2147483399))))
        (cSeq (cAsg 4 (cBin oMod (cBin oAdd (cBin oMul2 (cVar 3) (cC (.int 16807))) (cVar 2)) (cC (.int 1000000007))))
        (cAsg 0 (cBin oAdd (cVar 3) (cBin oMul2 (cC (.int 2147483399)) (cBin oAdd (cVar 4) (cBin oMul2 (cC (.int 1000000007)) (cVar 2))))))))) (cAsg 0 (cBin oSub (cCall gAbs (cCons (cVar 0) cNil)) (cBin oPow (cC (.int 10)) (cC (.int 18)))))
        [some (.im (.int c)), some (.im (.lst (ss.map D.int))), none, none, none, none, none] = .nx [some (.im (.int ((if c < 0 then -c else c) - 10 ^ 18))), some (.im (.lst (ss.map D.int))), none, none, none, none, none] := by
      rw [cIf, htest, stE_ok, if_neg (by simpa using hc)]
      simp [cBin, cVar, cC, cCall, gAbs, cCons, cNil, cAsg, p1, oSub_int]
    rw [hif]
    exact fin _ _ _ _

/-! ### same -/
def scalP : V → Prop
  | .non => True
  | .bl _ => True
  | .int _ => True
  | .str z => SeqAt.shaped (.str z) = true
  | _ => False
def plain : Nat → D → Prop
  | 0, d => match d with
    | .v x => scalP x
    | _ => False
  | n + 1, d => match d with
    | .v x => scalP x
    | .lst xs => xs.length ≤ sizeLine ∧ ∀ x ∈ xs, plain n x
    | .tup xs => xs.length ≤ sizeLine ∧ ∀ x ∈ xs, plain n x
theorem plain_v {n : Nat} {x : V} (h : plain n (.v x)) : scalP x := by
  cases n <;> exact h
theorem oEq_str {z : Str} (h : SeqAt.shaped (.str z) = true) : oEq (.str z) (.str z) = .ok (.bl true) := by
  show (if SeqAt.shaped (.str z) = true ∧ SeqAt.shaped (.str z) = true then Res.ok (D.bl (if false = true then _ else z == z)) else .no) = _
  rw [if_pos ⟨h, h⟩]
  simp
theorem all_true : ∀ n : Nat, gAll [.lst ((List.range n).map fun _ => D.bl true)] = .ok (.bl true) := fun n => by
  have e : ((List.range n).map fun _ => D.bl true) = ((List.range n).map fun _ => true).map D.bl := by simp
  unfold gAll gBls
  dsimp only
  rw [e, blsD_map]
  dsimp only
  congr 2
  simp
theorem same_items {n : Nat} {xs : List D} {δ0 δ1 : O} (ih : ∀ x ∈ xs, F__law_same (n + 1) [x, x] = .ok (.bl true)) (hx : ∀ (i : Nat) (d : D), xs[i]? = some d → (cBin oIx (cVar 0) (cVar 2)) [some δ0, some δ1, some (.im (.int (0 + (i : Int))))] = .ok d ∧ (cBin oIx (cVar 1) (cVar 2)) [some δ0, some δ1, some (.im (.int (0 + (i : Int))))] = .ok d) :
    lcF (bName 2) cYes (cFn0 (F__law_same (n + 1)) (cCons (cBin oIx (cVar 0) (cVar 2)) (cCons (cBin oIx (cVar 1) (cVar 2)) cNil))) (rangeD 0 xs.length) [some δ0, some δ1, none] = .ok ((List.range xs.length).map fun _ => D.bl true) := by
  unfold rangeD
  refine lcF_map _ _ _ fun i hi => ?_
  have hi' : i < xs.length := List.mem_range.mp hi
  obtain ⟨h1, h2⟩ := hx i xs[i] (by simp [hi'])
  refine ⟨_, rfl, rfl, ?_⟩
  show cFn0 _ _ [some δ0, some δ1, some (.im (.int (0 + (i : Int))))] = _
  simp only [cFn0, cCons, h1, h2, cNil, Res.bind_ok]
  exact ih _ (List.getElem_mem hi')
theorem ix_at {xs : List D} {i : Nat} {d : D} (h : xs[i]? = some d) : atI xs (0 + (i : Int)) = some d := by
  rw [Int.zero_add]
  exact atI_nat h
theorem same_scal (n : Nat) : ∀ (x : V), scalP x → F__law_same (n + 1) [.v x, .v x] = .ok (.bl true)
  | .non, _ => by
    simp [F__law_same, defF, g__law_same, st0, cSeq, cIf, cTest, cBin, oIsN, cVar, cC, asB, isNon, cRet]
  | .bl b, _ => by
    simp [F__law_same, defF, g__law_same, st0, cSeq, cIf, cTest, cBin, oIsN, cVar, cC, asB, isNon, cRet, cCall, gIsi, isiD, tyD, cCons, cNil, cNext, cAndV, oEq_bl]
  | .int i, _ => by
    have e := oEq_int i i
    simp at e
    simp [F__law_same, defF, g__law_same, st0, cSeq, cIf, cTest, cBin, oIsN, cVar, cC, asB, isNon, cRet, cCall, gIsi, isiD, tyD, cCons, cNil, cNext, cAndV, oEq_bl, e]
  | .str z, h => by
    have e := oEq_str h
    simp [F__law_same, defF, g__law_same, st0, cSeq, cIf, cTest, cBin, oIsN, cVar, cC, asB, isNon, cRet, cCall, gIsi, isiD, tyD, cCons, cNil, cNext, cAndV, oEq_bl, e]
theorem same_lst {n : Nat} {xs : List D} (hz : xs.length ≤ sizeLine) (ih : ∀ x ∈ xs, F__law_same (n + 1) [x, x] = .ok (.bl true)) : F__law_same (n + 1 + 1) [.lst xs, .lst xs] = .ok (.bl true) := by
  have e := oEq_int (xs.length : Int) xs.length
  simp at e
  have hl := same_items (n := n) (δ0 := .im (.lst xs)) (δ1 := .im (.lst xs)) ih fun i d hi => by
    simp [cBin, cVar, oIx, ix_at hi, atI_nat hi]
  have hr := gRange1_nat hz
  have hz2 : (rangeD 0 xs.length).length ≤ sizeLine := by rw [rangeD_len]; exact hz
  have ha := all_true xs.length
  rw [F__law_same]
  simp [defF, g__law_same, st0, cSeq, cIf, cTest, cBin, oIsN, cVar, cC, asB, isNon, cRet, cCall, gIsi, isiD, tyD, cCons, cNil, cNext, cAndV, cOrT, oNe_bl, oEq_bl, gLen, e, cL, cLc, cIt, hr, hz2, wipeD, hl, ha]
theorem same_tup {n : Nat} {xs : List D} (hz : xs.length ≤ sizeLine) (ih : ∀ x ∈ xs, F__law_same (n + 1) [x, x] = .ok (.bl true)) : F__law_same (n + 1 + 1) [.tup xs, .tup xs] = .ok (.bl true) := by
  have e := oEq_int (xs.length : Int) xs.length
  simp at e
  have hl := same_items (n := n) (δ0 := .im (.tup xs)) (δ1 := .im (.tup xs)) ih fun i d hi => by
    simp [cBin, cVar, oIx, ix_at hi, atI_nat hi]
  have hr := gRange1_nat hz
  have hz2 : (rangeD 0 xs.length).length ≤ sizeLine := by rw [rangeD_len]; exact hz
  have ha := all_true xs.length
  rw [F__law_same]
  simp [defF, g__law_same, st0, cSeq, cIf, cTest, cBin, oIsN, cVar, cC, asB, isNon, cRet, cCall, gIsi, isiD, tyD, cCons, cNil, cNext, cAndV, cOrT, oNe_bl, oEq_bl, gLen, e, cL, cLc, cIt, hr, hz2, wipeD, hl, ha]
theorem same_refl (n : Nat) : ∀ (d : D), plain n d → F__law_same (n + 1) [d, d] = .ok (.bl true) := by
  induction n with
  | zero =>
    intro d h
    cases d with
    | v x => exact same_scal 0 x h
    | lst _ => exact h.elim
    | tup _ => exact h.elim
  | succ n ih =>
    intro d h
    cases d with
    | v x => exact same_scal (n + 1) x h
    | lst xs => exact same_lst h.1 fun x hx => ih x (h.2 x hx)
    | tup xs => exact same_tup h.1 fun x hx => ih x (h.2 x hx)
end My
namespace My
open PySem L2 DV

abbrev dI (ns : List Int) : List D := ns.map D.int
abbrev tupI (ns : List Int) : D := .tup (dI ns)
def prodL (ss : List Int) : Int := ss.foldl (· * ·) 1
structure Good (ss : List Int) : Prop where
  ne : 1 ≤ ss.length
  le : ss.length ≤ 6
  sz : ∀ s ∈ ss, 2 ≤ s ∧ s ≤ 4
  pr : prodL ss ≤ 300
theorem pow4 (n : Nat) : (0 : Int) < 4 ^ n := Int.pow_pos (by decide)
/-! multiplied -/
theorem mul_loop (S : Option O) : ∀ (ss : List Int) (a : Int) (o : Option O), (∀ s ∈ ss, 2 ≤ s ∧ s ≤ 4) → 0 < a → a * 4 ^ ss.length < 2 ^ 60 →
    ∃ o', forF (bName 2) (cAug 1 oMulI (cVar 2)) (dI ss) [S, some (.im (.int a)), o] = .nx [S, some (.im (.int (ss.foldl (· * ·) a))), o']
  | [], a, o, _, _, _ => ⟨o, rfl⟩
  | s :: ss, a, o, hs, ha, hb => by
    obtain ⟨h1, h2⟩ := hs s (by simp)
    have hp := pow4 ss.length
    have e : a * 4 ^ (s :: ss).length = a * 4 * 4 ^ ss.length := by rw [List.length_cons, Int.pow_succ, Int.mul_comm (4 ^ ss.length) 4, Int.mul_assoc]
    rw [e] at hb
    have ha4 : a * s ≤ a * 4 := Int.mul_le_mul_of_nonneg_left h2 (by omega)
    have has : 0 < a * s := Int.mul_pos ha (by omega)
    have hb2 : a * s * 4 ^ ss.length < 2 ^ 60 := Int.lt_of_le_of_lt (Int.mul_le_mul_of_nonneg_right ha4 (by omega)) hb
    have hab : a < 2 ^ 60 := by
      have h3 : a ≤ a * 4 * 4 ^ ss.length := by
        have : a * 4 * 1 ≤ a * 4 * 4 ^ ss.length := Int.mul_le_mul_of_nonneg_left hp (by omega)
        omega
      omega
    obtain ⟨o', ih⟩ := mul_loop S ss (a * s) (some (.im (.int s))) (fun x hx => hs x (by simp [hx])) has hb2
    refine ⟨o', ?_⟩
    have m1 : oMulI (.int a) (.int s) = .ok (.int (a * s)) := oMulI_int (mul_ok (a := 60) (b := 60) (by omega) (by omega) (by decide) (by decide) (by decide))
    rw [dI, List.map_cons, forF]
    simp only [bName, List.set_cons_succ, List.set_cons_zero]
    have eb : cAug 1 oMulI (cVar 2) [S, some (.im (.int a)), some (.im (.int s))] = .nx [S, some (.im (.int (a * s))), some (.im (.int s))] := by
      simp [cAug, cVar, m1]
    rw [eb]
    exact ih
theorem mult_ok {ss : List Int} (hs : ∀ s ∈ ss, 2 ≤ s ∧ s ≤ 4) (hl : ss.length ≤ 6) : F_multiplied [tupI ss] = .ok (.int (prodL ss)) := by
  have hb : (1 : Int) * 4 ^ ss.length < 2 ^ 60 := by
    have h1 : (4 : Int) ^ ss.length ≤ 4096 := (by decide : ∀ n : Fin 7, (4 : Int) ^ (n : Nat) ≤ 4096) ⟨ss.length, by omega⟩
    omega
  obtain ⟨o', h⟩ := mul_loop (some (.im (tupI ss))) ss 1 none hs (by decide) hb
  simp [F_multiplied, defF, g_multiplied, st0, cSeq, cAsg, cC, cFor, cItems, cVar, itemsD, h, cRet, prodL]
theorem all_ok {bs : List Bool} (h : ∀ b ∈ bs, b = true) : gAll [.lst (bs.map D.bl)] = .ok (.bl true) := by
  unfold gAll gBls
  dsimp only
  rw [blsD_map]
  dsimp only
  congr 2
  simpa using h
theorem all_ok' {α : Type} {xs : List α} : gAll [.lst (xs.map fun _ => D.bl true)] = .ok (.bl true) := by
  have e : (xs.map fun _ => D.bl true) = (xs.map fun _ => true).map D.bl := by simp
  rw [e]
  exact all_ok (by simp)
theorem look_ok {ss : List Int} (G : Good ss) : F_look_sizes [tupI ss] = .ok .non := by
  have hm := mult_ok G.sz G.le
  have hz : (dI ss).length ≤ sizeLine := by
    rw [List.length_map, sizeLine_eq]
    have := G.le
    omega
  have hlc : lcF (bName 1) cYes (cChain oLe oLe (cC (.int 2)) (cVar 1) (cC (.int 4))) (dI ss) [some (.im (tupI ss)), none] = .ok (ss.map fun _ => D.bl true) := by
    refine lcF_map _ _ _ fun s hs => ⟨_, rfl, rfl, ?_⟩
    obtain ⟨h1, h2⟩ := G.sz s hs
    simp [cChain, cC, cVar, oI, h1, h2]
  have ha := all_ok' (xs := ss)
  have l1 : (1 : Int) ≤ (ss.length : Int) := by have := G.ne; omega
  have l2 : (ss.length : Int) ≤ 6 := by have := G.le; omega
  have hp : ¬ (300 < prodL ss) := by have := G.pr; omega
  have hlen : ss.length ≤ sizeLine := by simpa using hz
  simp [F_look_sizes, defF, g_look_sizes, st0, cSeq, cIf, cOrT, cNotT, cTest, cChain, cC, cCall, cCons, cVar, cNil, gLen, oI, l1, l2, asB, cL, cLc, cItems, itemsD, hlen, wipeD, hlc, ha, cBin, cFn0, hm, hp, cNext]
theorem many_ok {ss : List Int} (G : Good ss) : F_many_rows [tupI ss] = .ok (.int (prodL ss)) := by
  simp [F_many_rows, defF, g_many_rows, st0, cSeq, cDrop, cFn0, cCons, cVar, cNil, look_ok G, cRet, mult_ok G.sz G.le]

/-! rows -/
def rowsL : List Int → List (List Int) → List (List Int)
  | [], acc => acc
  | s :: ss, acc => rowsL ss (acc.flatMap fun r => (List.range s.toNat).map fun (v : Nat) => r ++ [(v : Int)])
abbrev dR (rs : List (List Int)) : List D := rs.map tupI
def stepR (s : Int) (r : List Int) : List (List Int) := (List.range s.toNat).map fun (v : Nat) => r ++ [(v : Int)]
theorem rows_inner (S F : Option O) (s : Int) (hs : 2 ≤ s ∧ s ≤ 4) (o5 : Option O) : ∀ (rs acc : List (List Int)) (o : Option O), (∀ r ∈ rs, r.length ≤ 6) → acc.length + 4 * rs.length ≤ 100000 →
    ∃ o', forF (bName 4) (cAsg 3 (cBin oAdd (cVar 3) (cL (cLc [5] (cIt gRange1 (cCons (cVar 2) cNil)) (bName 5) cYes (cBin oAdd (cVar 4) (cTup (cCons (cVar 5) cNil))))))) (dR rs) [S, F, some (.im (.int s)), some (.im (.lst (dR acc))), o, o5] =
      .nx [S, F, some (.im (.int s)), some (.im (.lst (dR (acc ++ rs.flatMap (stepR s))))), o', o5]
  | [], acc, o, _, _ => ⟨o, by simp [forF]⟩
  | r :: rs, acc, o, hr, hb => by
    have hb' : acc.length + 4 * (rs.length + 1) ≤ 100000 := by simpa using hb
    have hn : (stepR s r).length ≤ 4 := by simp [stepR]; omega
    obtain ⟨o', ih⟩ := rows_inner S F s hs o5 rs (acc ++ stepR s r) (some (.im (tupI r))) (fun x hx => hr x (by simp [hx])) (by simp; omega)
    refine ⟨o', ?_⟩
    have hrl := hr r (by simp)
    have h1 : gRange1 [D.int s] = .ok (rangeD 0 s.toNat) := by
      have := gRange1_nat (n := s.toNat) (by rw [sizeLine_eq]; omega)
      rw [show ((s.toNat : Nat) : Int) = s by omega] at this
      exact this
    have hlc : lcF (bName 5) cYes (cBin oAdd (cVar 4) (cTup (cCons (cVar 5) cNil))) (rangeD 0 s.toNat) [S, F, some (.im (.int s)), some (.im (.lst (dR acc))), some (.im (tupI r)), none] = .ok (dR (stepR s r)) := by
      unfold rangeD dR stepR
      rw [List.map_map]
      refine lcF_map _ _ _ fun v hv => ⟨_, rfl, rfl, ?_⟩
      have hz : r.length + 1 ≤ sizeLine := by rw [sizeLine_eq]; omega
      simp [cBin, cVar, cTup, cCons, cNil, oAdd, hz]
    have hz2 : s.toNat ≤ sizeLine := by rw [sizeLine_eq]; omega
    have hz3 : acc.length + (stepR s r).length ≤ sizeLine := by rw [sizeLine_eq]; omega
    rw [dR, List.map_cons, forF]
    simp only [bName, List.set_cons_succ, List.set_cons_zero]
    have eb : cAsg 3 (cBin oAdd (cVar 3) (cL (cLc [5] (cIt gRange1 (cCons (cVar 2) cNil)) (bName 5) cYes (cBin oAdd (cVar 4) (cTup (cCons (cVar 5) cNil)))))) [S, F, some (.im (.int s)), some (.im (.lst (dR acc))), some (.im (tupI r)), o5] =
        .nx [S, F, some (.im (.int s)), some (.im (.lst (dR (acc ++ stepR s r)))), some (.im (tupI r)), o5] := by
      simp [cAsg, cBin, cVar, cL, cLc, cIt, cCons, cNil, h1, rangeD_len, hz2, wipeD, hlc, oAdd, hz3]
    rw [eb]
    dsimp only
    rw [ih]
    simp [List.flatMap_cons]
theorem len_flat (s : Int) (hs : 2 ≤ s ∧ s ≤ 4) (rs : List (List Int)) : ((rs.flatMap (stepR s)).length : Int) = rs.length * s := by
  induction rs with
  | nil => simp
  | cons r rs ih =>
    have e : ((stepR s r).length : Int) = s := by simp [stepR]; omega
    rw [List.flatMap_cons, List.length_append, List.length_cons, Int.natCast_add, ih, e, Int.natCast_add, Int.add_mul]
    omega
theorem rows_outer (S : Option O) (o5 : Option O) : ∀ (ss : List Int) (acc : List (List Int)) (o2 o3 o4 : Option O) (k : Nat), (∀ s ∈ ss, 2 ≤ s ∧ s ≤ 4) → (∀ r ∈ acc, r.length = k) → k + ss.length ≤ 6 → acc.length * 4 ^ ss.length ≤ 5000 →
    ∃ o2' o3' o4', forF (bName 2) (cSeq (cAsg 3 (cL cNil)) (cSeq (cFor (cItems (cVar 1)) (bName 4) (cAsg 3 (cBin oAdd (cVar 3) (cL (cLc [5] (cIt gRange1 (cCons (cVar 2) cNil)) (bName 5) cYes (cBin oAdd (cVar 4) (cTup (cCons (cVar 5) cNil))))))))
      (cAsg 1 (cVar 3)))) (dI ss) [S, some (.im (.lst (dR acc))), o2, o3, o4, o5] = .nx [S, some (.im (.lst (dR (rowsL ss acc)))), o2', o3', o4', o5]
  | [], acc, o2, o3, o4, k, _, _, _, _ => ⟨o2, o3, o4, rfl⟩
  | s :: ss, acc, o2, o3, o4, k, hs, hk, hl, hb => by
    have h2 := hs s (by simp)
    have hl' : k + (ss.length + 1) ≤ 6 := by simpa using hl
    have hb' : acc.length * (4 ^ ss.length * 4) ≤ 5000 := by simpa [Nat.pow_succ] using hb
    have hp : 0 < 4 ^ ss.length := Nat.pow_pos (by decide)
    have hal : acc.length * 4 ≤ 5000 := by
      have : acc.length * 4 ≤ acc.length * (4 ^ ss.length * 4) := Nat.mul_le_mul_left _ (by omega)
      omega
    have hlen : (acc.flatMap (stepR s)).length ≤ acc.length * 4 := by
      have h3 := len_flat s h2 acc
      have h4 : (acc.length : Int) * s ≤ acc.length * 4 := Int.mul_le_mul_of_nonneg_left h2.2 (by omega)
      omega
    obtain ⟨o4', hin⟩ := rows_inner S (some (.im (.lst (dR acc)))) s h2 o5 acc [] o4 (fun r hr => by have := hk r hr; omega) (by simp; omega)
    obtain ⟨p2, p3, p4, ih⟩ := rows_outer S o5 ss (acc.flatMap (stepR s)) (some (.im (.int s))) (some (.im (.lst (dR (acc.flatMap (stepR s)))))) o4' (k + 1) (fun x hx => hs x (by simp [hx]))
      (fun r hr => by
        obtain ⟨r', h5, h6⟩ := List.mem_flatMap.mp hr
        obtain ⟨v, _, rfl⟩ := List.mem_map.mp h6
        simp [hk r' h5]) (by omega) (by
        have : (acc.flatMap (stepR s)).length * 4 ^ ss.length ≤ acc.length * 4 * 4 ^ ss.length := Nat.mul_le_mul_right _ hlen
        have e : acc.length * 4 * 4 ^ ss.length = acc.length * (4 ^ ss.length * 4) := by rw [Nat.mul_assoc, Nat.mul_comm 4]
        omega)
    refine ⟨p2, p3, p4, ?_⟩
    rw [dI, List.map_cons, forF]
    simp only [bName, List.set_cons_succ, List.set_cons_zero]
    simp only [List.nil_append] at hin
    have eb : cSeq (cAsg 3 (cL cNil)) (cSeq (cFor (cItems (cVar 1)) (bName 4) (cAsg 3 (cBin oAdd (cVar 3) (cL (cLc [5] (cIt gRange1 (cCons (cVar 2) cNil)) (bName 5) cYes (cBin oAdd (cVar 4) (cTup (cCons (cVar 5) cNil)))))))) (cAsg 1 (cVar 3))) [S, some (.im (.lst (dR acc))), some (.im (.int s)), o3, o4, o5] =
        .nx [S, some (.im (.lst (dR (acc.flatMap (stepR s))))), some (.im (.int s)), some (.im (.lst (dR (acc.flatMap (stepR s))))), o4', o5] := by
      have hin' : forF (bName 4) (cAsg 3 (cBin oAdd (cVar 3) (cL (cLc [5] (cIt gRange1 (cCons (cVar 2) cNil)) (bName 5) cYes (cBin oAdd (cVar 4) (cTup (cCons (cVar 5) cNil))))))) (dR acc) [S, some (.im (.lst (dR acc))), some (.im (.int s)), some (.im (.lst [])), o4, o5] = _ := hin
      simp only [cSeq, cAsg, cL, cNil, Res.bind_ok, stE_ok, Fl.then_nx, List.set_cons_succ, List.set_cons_zero, cFor, cItems, cVar, List.getElem?_cons_succ, List.getElem?_cons_zero, itemsD]
      rw [hin']
      rfl
    rw [eb]
    exact ih
theorem rows_ok {ss : List Int} (G : Good ss) : F__law_rows [tupI ss] = .ok (.lst (dR (rowsL ss [[]]))) := by
  obtain ⟨o2, o3, o4, h⟩ := rows_outer (some (.im (tupI ss))) none ss [[]] none none none 0 G.sz (by simp) (by have := G.le; omega) (by
    have h1 : 4 ^ ss.length ≤ 4096 := (by decide : ∀ n : Fin 7, 4 ^ (n : Nat) ≤ 4096) ⟨ss.length, by have := G.le; omega⟩
    simp; omega)
  have h' : forF (bName 2) (cSeq (cAsg 3 (cL cNil)) (cSeq (cFor (cItems (cVar 1)) (bName 4) (cAsg 3 (cBin oAdd (cVar 3) (cL (cLc [5] (cIt gRange1 (cCons (cVar 2) cNil)) (bName 5) cYes (cBin oAdd (cVar 4) (cTup (cCons (cVar 5) cNil))))))))
      (cAsg 1 (cVar 3)))) (dI ss) [some (.im (tupI ss)), some (.im (.lst [D.tup []])), none, none, none, none] = _ := h
  unfold F__law_rows defF g__law_rows
  show flR (cSeq _ _ [some (.im (tupI ss)), none, none, none, none, none]) = _
  rw [cSeq, show (cAsg 1 (cL (cCons (cTup cNil) cNil))) [some (.im (tupI ss)), none, none, none, none, none] = .nx [some (.im (tupI ss)), some (.im (.lst [D.tup []])), none, none, none, none] from rfl, Fl.then_nx, cSeq, cFor,
    show (cItems (cVar 0)) [some (.im (tupI ss)), some (.im (.lst [D.tup []])), none, none, none, none] = .ok (dI ss) from rfl, stE_ok, h']
  rfl

/-! numbers and rows -/
/-- the row of a number: its last value first -/
def digR : List Int → Int → List Int
  | [], _ => []
  | s :: rs, n => n % s :: digR rs (n / s)
/-- rising -/
def rowN (ss : List Int) (n : Int) : List Int := (digR ss.reverse n).reverse
theorem rowN_snoc (ss : List Int) (s n : Int) : rowN (ss ++ [s]) n = rowN ss (n / s) ++ [n % s] := by
  unfold rowN
  rw [List.reverse_append]
  simp [digR]
theorem rowsL_snoc : ∀ (ss : List Int) (s : Int) (acc : List (List Int)), rowsL (ss ++ [s]) acc = (rowsL ss acc).flatMap (stepR s)
  | [], s, acc => rfl
  | t :: ss, s, acc => by
    show rowsL (ss ++ [s]) _ = (rowsL ss _).flatMap (stepR s)
    exact rowsL_snoc ss s _
theorem prodL_snoc (ss : List Int) (s : Int) : prodL (ss ++ [s]) = prodL ss * s := by
  unfold prodL
  rw [List.foldl_append]
  rfl
theorem flat_get (s : Int) (hs : 2 ≤ s ∧ s ≤ 4) : ∀ (rs : List (List Int)) (n : Nat), (n : Int) < rs.length * s → (rs.flatMap (stepR s))[n]? = (rs[((n : Int) / s).toNat]?).map fun r => r ++ [(n : Int) % s]
  | [], n, h => by simp at h; omega
  | r :: rs, n, h => by
    have hl : (stepR s r).length = s.toNat := by simp [stepR]
    have h' : (n : Int) < ((rs.length : Int) + 1) * s := by simpa using h
    rw [List.flatMap_cons]
    by_cases hn : n < s.toNat
    · rw [List.getElem?_append_left (by rw [hl]; exact hn)]
      have e1 : (n : Int) / s = 0 := Int.ediv_eq_zero_of_lt (by omega) (by omega)
      have e2 : (n : Int) % s = n := Int.emod_eq_of_lt (by omega) (by omega)
      rw [e1, e2]
      unfold stepR
      rw [List.getElem?_map]
      simp [hn]
    · rw [List.getElem?_append_right (by rw [hl]; omega), hl]
      have e0 : ((n - s.toNat : Nat) : Int) = n - s := by omega
      have ih := flat_get s hs rs (n - s.toNat) (by rw [e0]; rw [Int.add_mul] at h'; omega)
      rw [ih, e0]
      have e1 : ((n : Int) - s) / s = (n : Int) / s - 1 := by
        have := Int.sub_mul_ediv_right (n : Int) 1 (show s ≠ 0 by omega)
        rw [Int.one_mul] at this
        exact this
      have e2 : ((n : Int) - s) % s = (n : Int) % s := by
        have := Int.sub_emod_right (n : Int) s
        exact this
      have hq : 1 ≤ (n : Int) / s := by
        rw [Int.le_ediv_iff_mul_le (by omega)]
        omega
      rw [e1, e2]
      have e3 : ((n : Int) / s).toNat = ((n : Int) / s - 1).toNat + 1 := by omega
      rw [e3, List.getElem?_cons_succ]
theorem rows_len : ∀ (k : Nat) (ss : List Int), ss.length = k → (∀ s ∈ ss, 2 ≤ s ∧ s ≤ 4) → ((rowsL ss [[]]).length : Int) = prodL ss := by
  intro k
  induction k with
  | zero =>
    intro ss hl _
    rw [List.length_eq_zero_iff.mp hl]
    rfl
  | succ k ih =>
    intro ss hl hs
    have hne : ss ≠ [] := fun e => by rw [e] at hl; cases hl
    obtain ⟨ts, s, rfl⟩ : ∃ ts s, ss = ts ++ [s] := ⟨ss.dropLast, ss.getLast hne, (List.dropLast_concat_getLast hne).symm⟩
    rw [rowsL_snoc, len_flat s (hs s (by simp)), ih ts (by simpa using hl) (fun x hx => hs x (by simp [hx])), prodL_snoc]
theorem rows_get : ∀ (k : Nat) (ss : List Int), ss.length = k → (∀ s ∈ ss, 2 ≤ s ∧ s ≤ 4) → ∀ n : Nat, (n : Int) < prodL ss → (rowsL ss [[]])[n]? = some (rowN ss n) := by
  intro k
  induction k with
  | zero =>
    intro ss hl _ n hn
    rw [List.length_eq_zero_iff.mp hl] at hn ⊢
    have : n = 0 := by
      have : (n : Int) < 1 := hn
      omega
    subst this
    rfl
  | succ k ih =>
    intro ss hl hs n hn
    have hne : ss ≠ [] := fun e => by rw [e] at hl; cases hl
    obtain ⟨ts, s, rfl⟩ : ∃ ts s, ss = ts ++ [s] := ⟨ss.dropLast, ss.getLast hne, (List.dropLast_concat_getLast hne).symm⟩
    have h2 := hs s (by simp)
    have hts : ∀ x ∈ ts, 2 ≤ x ∧ x ≤ 4 := fun x hx => hs x (by simp [hx])
    have htl : ts.length = k := by simpa using hl
    rw [prodL_snoc] at hn
    have hq : (n : Int) / s < prodL ts := Int.ediv_lt_of_lt_mul (by omega) hn
    have hq0 : 0 ≤ (n : Int) / s := Int.ediv_nonneg (by omega) (by omega)
    rw [rowsL_snoc, flat_get s h2 _ n (by rw [rows_len k ts htl hts]; exact hn)]
    have e : (((n : Int) / s).toNat : Int) = (n : Int) / s := by omega
    rw [ih ts htl hts ((n : Int) / s).toNat (by rw [e]; exact hq), rowN_snoc, e]
    rfl

theorem digR_len : ∀ (rs : List Int) (n : Int), (digR rs n).length = rs.length
  | [], _ => rfl
  | s :: rs, n => by simp [digR, digR_len rs]
theorem rowN_len (ss : List Int) (n : Int) : (rowN ss n).length = ss.length := by simp [rowN, digR_len]
theorem rowof_loop (S N : Option O) : ∀ (rs : List Int) (n : Int) (ds : List Int) (o4 o5 : Option O), (∀ s ∈ rs, 2 ≤ s ∧ s ≤ 4) → ds.length + rs.length ≤ 100 →
    ∃ n' o4' o5', forF (bName 4) (cSeq (cAsgG (bTup 2 (bCons (bName 2) (bCons (bName 5) bNil))) (cCall gDivmod (cCons (cVar 2) (cCons (cVar 4) cNil)))) (cApp 3 (cVar 5))) (dI rs) [S, N, some (.im (.int n)), some (.ow (dI ds)), o4, o5] =
      .nx [S, N, some (.im (.int n')), some (.ow (dI (ds ++ digR rs n))), o4', o5']
  | [], n, ds, o4, o5, _, _ => ⟨n, o4, o5, by simp [forF, digR]⟩
  | s :: rs, n, ds, o4, o5, hs, hl => by
    have h2 := hs s (by simp)
    have hl' : ds.length + (rs.length + 1) ≤ 100 := by simpa using hl
    obtain ⟨n', q4, q5, ih⟩ := rowof_loop S N rs (n / s) (ds ++ [n % s]) (some (.im (.int s))) (some (.im (.int (n % s)))) (fun x hx => hs x (by simp [hx])) (by simp; omega)
    refine ⟨n', q4, q5, ?_⟩
    have hz : ds.length < sizeLine := by rw [sizeLine_eq]; omega
    have hd : gDivmod [.int n, .int s] = .ok (.tup [.int (n / s), .int (n % s)]) := by
      unfold gDivmod
      dsimp only
      rw [if_pos ⟨by omega, by omega⟩]
    rw [dI, List.map_cons, forF]
    simp only [bName, List.set_cons_succ, List.set_cons_zero]
    have eb : cSeq (cAsgG (bTup 2 (bCons (bName 2) (bCons (bName 5) bNil))) (cCall gDivmod (cCons (cVar 2) (cCons (cVar 4) cNil)))) (cApp 3 (cVar 5)) [S, N, some (.im (.int n)), some (.ow (dI ds)), some (.im (.int s)), o5] =
        .nx [S, N, some (.im (.int (n / s))), some (.ow (dI (ds ++ [n % s]))), some (.im (.int s)), some (.im (.int (n % s)))] := by
      simp [cSeq, cAsgG, cCall, cCons, cVar, cNil, hd, bTup, bCons, bName, bNil, cApp, hz]
    rw [eb]
    dsimp only
    rw [ih]
    simp [digR]
theorem rowof_ok {ss : List Int} (G : Good ss) {n : Int} (h0 : 0 ≤ n) (hn : n < prodL ss) : F_row_of [tupI ss, .int n] = .ok (tupI (rowN ss n)) := by
  obtain ⟨n', o4, o5, h⟩ := rowof_loop (some (.im (tupI ss))) (some (.im (.int n))) ss.reverse n [] none none (fun s hs => G.sz s (by simpa using hs)) (by have := G.le; simp; omega)
  have hr : (dI ss).reverse = dI ss.reverse := by simp
  simp only [List.nil_append] at h
  have h' : forF (bName 4) (cSeq (cAsgG (bTup 2 (bCons (bName 2) (bCons (bName 5) bNil))) (cCall gDivmod (cCons (cVar 2) (cCons (cVar 4) cNil)))) (cApp 3 (cVar 5))) (dI ss.reverse) [some (.im (tupI ss)), some (.im (.int n)), some (.im (.int n)), some (.ow []), none, none] = _ := h
  have c1 : ¬ (n < 0) := by omega
  have c2 : ¬ (prodL ss ≤ n) := by omega
  have er : (dI (digR ss.reverse n)).reverse = dI (rowN ss n) := by simp [rowN]
  have ec : cTest (cBin oLt (cVar 1) (cC (.int 0))) [some (.im (tupI ss)), some (.im (.int n)), none, none, none, none] = .ok false := by simp [cTest, cBin, cVar, cC, oI, asB, c1]
  have ed : cTest (cBin oGe (cVar 1) (cFn0 F_multiplied (cCons (cVar 0) cNil))) [some (.im (tupI ss)), some (.im (.int n)), none, none, none, none] = .ok false := by simp [cTest, cBin, cVar, cFn0, cCons, cNil, mult_ok G.sz G.le, oI, asB, c2]
  unfold F_row_of defF g_row_of
  show flR (cSeq _ _ [some (.im (tupI ss)), some (.im (.int n)), none, none, none, none]) = _
  rw [cSeq, show (cDrop (cFn0 F_look_sizes (cCons (cVar 0) cNil))) [some (.im (tupI ss)), some (.im (.int n)), none, none, none, none] = .nx [some (.im (tupI ss)), some (.im (.int n)), none, none, none, none] by simp [cDrop, cFn0, cCons, cVar, cNil, look_ok G], Fl.then_nx, cSeq, cIf, cOrT, ec, Res.bind_ok, if_neg Bool.false_ne_true, ed, stE_ok, if_neg Bool.false_ne_true, cNext, Fl.then_nx, cSeq,
    show (cAsg 2 (cVar 1)) [some (.im (tupI ss)), some (.im (.int n)), none, none, none, none] = .nx [some (.im (tupI ss)), some (.im (.int n)), some (.im (.int n)), none, none, none] from rfl, Fl.then_nx, cSeq,
    show (cOwn 3 cNil) [some (.im (tupI ss)), some (.im (.int n)), some (.im (.int n)), none, none, none] = .nx [some (.im (tupI ss)), some (.im (.int n)), some (.im (.int n)), some (.ow []), none, none] from rfl, Fl.then_nx, cSeq, cFor,
    show (cItems (cUn oRev (cVar 0))) [some (.im (tupI ss)), some (.im (.int n)), some (.im (.int n)), some (.ow []), none, none] = .ok (dI ss.reverse) by simp [cItems, cUn, cVar, oRev, itemsD], stE_ok, h', Fl.then_nx]
  simp [cFz, fz, cRet, cCall, gTuple, cCons, cNil, cUn, cVar, oRev, rowN]
/-! number_of -/
def numL : Int → List Int → List Int → Int
  | a, v :: vs, s :: ss => numL (a * s + v) vs ss
  | a, _, _ => a
theorem numL_snoc : ∀ (vs ss : List Int) (a v s : Int), vs.length = ss.length → numL a (vs ++ [v]) (ss ++ [s]) = numL a vs ss * s + v
  | [], [], a, v, s, _ => rfl
  | x :: vs, t :: ss, a, v, s, h => by
    show numL (a * t + x) (vs ++ [v]) (ss ++ [s]) = numL (a * t + x) vs ss * s + v
    exact numL_snoc vs ss _ v s (by simpa using h)
theorem num_row : ∀ (k : Nat) (ss : List Int), ss.length = k → (∀ s ∈ ss, 2 ≤ s ∧ s ≤ 4) → ∀ n : Int, 0 ≤ n → n < prodL ss → numL 0 (rowN ss n) ss = n := by
  intro k
  induction k with
  | zero =>
    intro ss hl _ n h0 hn
    rw [List.length_eq_zero_iff.mp hl] at hn ⊢
    have : n < 1 := hn
    show (0 : Int) = n
    omega
  | succ k ih =>
    intro ss hl hs n h0 hn
    have hne : ss ≠ [] := fun e => by rw [e] at hl; cases hl
    obtain ⟨ts, s, rfl⟩ : ∃ ts s, ss = ts ++ [s] := ⟨ss.dropLast, ss.getLast hne, (List.dropLast_concat_getLast hne).symm⟩
    have h2 := hs s (by simp)
    rw [prodL_snoc] at hn
    rw [rowN_snoc, numL_snoc _ _ _ _ _ (by rw [rowN_len]), ih ts (by simpa using hl) (fun x hx => hs x (by simp [hx])) (n / s) (Int.ediv_nonneg h0 (by omega)) (Int.ediv_lt_of_lt_mul (by omega) hn), Int.mul_comm]
    exact Int.mul_ediv_add_emod n s
theorem rowN_bound : ∀ (k : Nat) (ss : List Int), ss.length = k → (∀ s ∈ ss, 2 ≤ s ∧ s ≤ 4) → ∀ n : Int, ∀ p ∈ (rowN ss n).zip ss, 0 ≤ p.1 ∧ p.1 < p.2 := by
  intro k
  induction k with
  | zero =>
    intro ss hl _ n p hp
    rw [List.length_eq_zero_iff.mp hl] at hp
    simp at hp
  | succ k ih =>
    intro ss hl hs n p hp
    have hne : ss ≠ [] := fun e => by rw [e] at hl; cases hl
    obtain ⟨ts, s, rfl⟩ : ∃ ts s, ss = ts ++ [s] := ⟨ss.dropLast, ss.getLast hne, (List.dropLast_concat_getLast hne).symm⟩
    have h2 := hs s (by simp)
    rw [rowN_snoc, List.zip_append (by rw [rowN_len])] at hp
    rcases List.mem_append.mp hp with h | h
    · exact ih ts (by simpa using hl) (fun x hx => hs x (by simp [hx])) _ p h
    · have e : p = (n % s, s) := by simpa using h
      rw [e]
      exact ⟨Int.emod_nonneg _ (by omega), Int.emod_lt_of_pos _ (by omega)⟩
abbrev dP (ps : List (Int × Int)) : List D := ps.map fun p => D.tup [.int p.1, .int p.2]
theorem pairs_zip : ∀ (vs ss : List Int), pairsD (dI vs) (dI ss) = dP (vs.zip ss)
  | [], ss => rfl
  | v :: vs, [] => rfl
  | v :: vs, s :: ss => by
    show .tup [.int v, .int s] :: pairsD (dI vs) (dI ss) = _
    rw [pairs_zip vs ss]
    rfl
theorem num_loop (S R : Option O) : ∀ (vs ss : List Int) (a : Int) (o3 o4 : Option O), vs.length = ss.length → (∀ p ∈ vs.zip ss, 0 ≤ p.1 ∧ p.1 < p.2) → (∀ s ∈ ss, 2 ≤ s ∧ s ≤ 4) → 0 ≤ a → (a + 1) * 4 ^ ss.length < 2 ^ 60 →
    ∃ o3' o4', forF (bTup 2 (bCons (bName 3) (bCons (bName 4) bNil))) (cAsg 2 (cBin oAdd (cBin oMul2 (cVar 2) (cVar 4)) (cVar 3))) (dP (vs.zip ss)) [S, R, some (.im (.int a)), o3, o4] = .nx [S, R, some (.im (.int (numL a vs ss))), o3', o4']
  | [], [], a, o3, o4, _, _, _, _, _ => ⟨o3, o4, rfl⟩
  | v :: vs, s :: ss, a, o3, o4, hl, hp, hs, ha, hb => by
    obtain ⟨v0, v1⟩ := hp (v, s) (by simp)
    have h2 := hs s (by simp)
    dsimp only at v0 v1
    have hpw := pow4 ss.length
    have e : (a + 1) * 4 ^ (s :: ss).length = (a + 1) * 4 * 4 ^ ss.length := by rw [List.length_cons, Int.pow_succ, Int.mul_comm (4 ^ ss.length) 4, Int.mul_assoc]
    rw [e] at hb
    have h3 : (a + 1) * s ≤ (a + 1) * 4 := Int.mul_le_mul_of_nonneg_left h2.2 (by omega)
    have h4 : (a + 1) * s = a * s + s := by rw [Int.add_mul, Int.one_mul]
    have h5 : 0 ≤ a * s := Int.mul_nonneg ha (by omega)
    have hb2 : (a * s + v + 1) * 4 ^ ss.length < 2 ^ 60 := Int.lt_of_le_of_lt (Int.mul_le_mul_of_nonneg_right (by omega) (by omega)) hb
    have hab : a < 2 ^ 60 := by
      have h6 : (a + 1) * 4 * 1 ≤ (a + 1) * 4 * 4 ^ ss.length := Int.mul_le_mul_of_nonneg_left hpw (by omega)
      omega
    obtain ⟨q3, q4, ih⟩ := num_loop S R vs ss (a * s + v) (some (.im (.int v))) (some (.im (.int s))) (by simpa using hl) (fun p h => hp p (by simp [h])) (fun x hx => hs x (by simp [hx])) (by omega) hb2
    refine ⟨q3, q4, ?_⟩
    have m1 : oMul2 (.int a) (.int s) = .ok (.int (a * s)) := oMul_int (mul_ok (a := 60) (b := 60) (by omega) (by omega) (by decide) (by decide) (by decide))
    rw [List.zip_cons_cons, dP, List.map_cons, forF]
    have eb0 : bTup 2 (bCons (bName 3) (bCons (bName 4) bNil)) (.tup [.int v, .int s]) [S, R, some (.im (.int a)), o3, o4] = some [S, R, some (.im (.int a)), some (.im (.int v)), some (.im (.int s))] := rfl
    rw [eb0]
    dsimp only
    have eb : cAsg 2 (cBin oAdd (cBin oMul2 (cVar 2) (cVar 4)) (cVar 3)) [S, R, some (.im (.int a)), some (.im (.int v)), some (.im (.int s))] = .nx [S, R, some (.im (.int (a * s + v))), some (.im (.int v)), some (.im (.int s))] := by
      simp [cAsg, cBin, cVar, m1, oAdd_int]
    rw [eb]
    exact ih
theorem lookrow_ok {ss vs : List Int} (hl : vs.length = ss.length) (hle : ss.length ≤ 6) (hp : ∀ p ∈ vs.zip ss, 0 ≤ p.1 ∧ p.1 < p.2) : F_look_row [tupI ss, tupI vs] = .ok .non := by
  have e1 : oNe (.int (vs.length : Int)) (.int (ss.length : Int)) = .ok (.bl false) := by rw [oNe_int, hl]; simp
  have hz : (vs.zip ss).length ≤ sizeLine := by rw [List.length_zip, sizeLine_eq]; omega
  have hz' : min vs.length ss.length ≤ sizeLine := by rw [sizeLine_eq]; omega
  have hlc : lcF (bTup 2 (bCons (bName 2) (bCons (bName 3) bNil))) cYes (cChain oLe oLt (cC (.int 0)) (cVar 2) (cVar 3)) (dP (vs.zip ss)) [some (.im (tupI ss)), some (.im (tupI vs)), none, none] = .ok ((vs.zip ss).map fun _ => D.bl true) := by
    refine lcF_map _ _ _ fun p h => ⟨[some (.im (tupI ss)), some (.im (tupI vs)), some (.im (.int p.1)), some (.im (.int p.2))], rfl, rfl, ?_⟩
    obtain ⟨h1, h2⟩ := hp p h
    simp [cChain, cC, cVar, oI, h1, h2]
  have ha := all_ok' (xs := vs.zip ss)
  have hpz := pairs_zip vs ss
  simp [F_look_row, defF, g_look_row, st0, cIf, cOrT, cNotT, cTest, cBin, cCall, cCons, cVar, cNil, gLen, e1, asB, cL, cLc, cIt, gZip, hpz, hz', wipeD, hlc, ha, cNext]
theorem numberof_ok {ss : List Int} (G : Good ss) {n : Int} (h0 : 0 ≤ n) (hn : n < prodL ss) : F_number_of [tupI ss, tupI (rowN ss n)] = .ok (.int n) := by
  have hb := rowN_bound _ ss rfl G.sz n
  obtain ⟨o3, o4, h⟩ := num_loop (some (.im (tupI ss))) (some (.im (tupI (rowN ss n)))) (rowN ss n) ss 0 none none (rowN_len ss n) hb G.sz (by decide) (by
    have h1 : (4 : Int) ^ ss.length ≤ 4096 := (by decide : ∀ n : Fin 7, (4 : Int) ^ (n : Nat) ≤ 4096) ⟨ss.length, by have := G.le; omega⟩
    omega)
  rw [num_row _ ss rfl G.sz n h0 hn] at h
  have hr := lookrow_ok (rowN_len ss n) G.le hb
  have hpz := pairs_zip (rowN ss n) ss
  simp [F_number_of, defF, g_number_of, st0, cSeq, cDrop, cFn0, cCons, cVar, cNil, look_ok G, hr, cAsg, cC, cFor, cIt, gZip, hpz, h, cRet]

/-! ### the law -/
/-- the sizes that the law builds -/
def pick : List Int → Int → List Int → List Int × Int
  | [], w, acc => (acc, w)
  | o :: os, w, acc => if w * (2 + o) ≤ 300 then pick os (w * (2 + o)) (acc ++ [2 + o]) else pick os w acc
theorem pick_loop (A : Option O) (c dr : Option O) (o6 o7 : Option O) : ∀ (os : List Int) (w : Int) (acc : List Int) (o5 : Option O), (∀ o ∈ os, 0 ≤ o ∧ o < 3) → 1 ≤ w → w ≤ 300 → acc.length + os.length ≤ 100 →
    ∃ o5', forF (bName 5) (cIf (cTest (cBin oLe (cBin oMul2 (cVar 4) (cBin oAdd (cC (.int 2)) (cVar 5))) (cC (.int 300)))) (cSeq (cApp 3 (cBin oAdd (cC (.int 2)) (cVar 5))) (cAsg 4 (cBin oMul2 (cVar 4) (cBin oAdd (cC (.int 2)) (cVar 5))))) cNext) (dI os)
      [A, c, dr, some (.ow (dI acc)), some (.im (.int w)), o5, o6, o7] = .nx [A, c, dr, some (.ow (dI (pick os w acc).1)), some (.im (.int (pick os w acc).2)), o5', o6, o7]
  | [], w, acc, o5, _, _, _, _ => ⟨o5, rfl⟩
  | o :: os, w, acc, o5, ho, hw, hw3, hl => by
    have h2 := ho o (by simp)
    have hl' : acc.length + (os.length + 1) ≤ 100 := by simpa using hl
    have m1 : oMul2 (.int w) (.int (2 + o)) = .ok (.int (w * (2 + o))) := oMul_int (mul_ok (a := 20) (b := 20) (by omega) (by omega) (by decide) (by decide) (by decide))
    have hz : acc.length < sizeLine := by rw [sizeLine_eq]; omega
    have hpos : 1 ≤ w * (2 + o) := by
      have : 0 < w * (2 + o) := Int.mul_pos (by omega) (by omega)
      omega
    rw [dI, List.map_cons, forF]
    simp only [bName, List.set_cons_succ, List.set_cons_zero]
    by_cases hc : w * (2 + o) ≤ 300
    · obtain ⟨o5', ih⟩ := pick_loop A c dr o6 o7 os (w * (2 + o)) (acc ++ [2 + o]) (some (.im (.int o))) (fun x hx => ho x (by simp [hx])) hpos hc (by simp; omega)
      refine ⟨o5', ?_⟩
      have eb : cIf (cTest (cBin oLe (cBin oMul2 (cVar 4) (cBin oAdd (cC (.int 2)) (cVar 5))) (cC (.int 300)))) (cSeq (cApp 3 (cBin oAdd (cC (.int 2)) (cVar 5))) (cAsg 4 (cBin oMul2 (cVar 4) (cBin oAdd (cC (.int 2)) (cVar 5))))) cNext
          [A, c, dr, some (.ow (dI acc)), some (.im (.int w)), some (.im (.int o)), o6, o7] = .nx [A, c, dr, some (.ow (dI (acc ++ [2 + o]))), some (.im (.int (w * (2 + o)))), some (.im (.int o)), o6, o7] := by
        simp [cIf, cTest, cBin, cVar, cC, oAdd_int, m1, oI, asB, hc, cSeq, cApp, cAsg, hz]
      rw [eb]
      dsimp only
      rw [ih, pick, if_pos hc]
    · obtain ⟨o5', ih⟩ := pick_loop A c dr o6 o7 os w acc (some (.im (.int o))) (fun x hx => ho x (by simp [hx])) hw hw3 (by omega)
      refine ⟨o5', ?_⟩
      have eb : cIf (cTest (cBin oLe (cBin oMul2 (cVar 4) (cBin oAdd (cC (.int 2)) (cVar 5))) (cC (.int 300)))) (cSeq (cApp 3 (cBin oAdd (cC (.int 2)) (cVar 5))) (cAsg 4 (cBin oMul2 (cVar 4) (cBin oAdd (cC (.int 2)) (cVar 5))))) cNext
          [A, c, dr, some (.ow (dI acc)), some (.im (.int w)), some (.im (.int o)), o6, o7] = .nx [A, c, dr, some (.ow (dI acc)), some (.im (.int w)), some (.im (.int o)), o6, o7] := by
        simp [cIf, cTest, cBin, cVar, cC, oAdd_int, m1, oI, asB, hc, cNext]
      rw [eb]
      dsimp only
      rw [ih, pick, if_neg hc]
theorem pick_spec : ∀ (os : List Int) (w : Int) (acc : List Int), (∀ o ∈ os, 0 ≤ o ∧ o < 3) → w = prodL acc → w ≤ 300 → (∀ s ∈ acc, 2 ≤ s ∧ s ≤ 4) →
    prodL (pick os w acc).1 ≤ 300 ∧ (∀ s ∈ (pick os w acc).1, 2 ≤ s ∧ s ≤ 4) ∧ (pick os w acc).1.length ≤ acc.length + os.length ∧ acc.length ≤ (pick os w acc).1.length
  | [], w, acc, _, hw, h3, hs => ⟨by show prodL acc ≤ 300; rw [← hw]; exact h3, hs, by simp [pick], by simp [pick]⟩
  | o :: os, w, acc, ho, hw, h3, hs => by
    have h2 := ho o (by simp)
    rw [pick]
    split
    · rename_i hc
      obtain ⟨a, b, c, d⟩ := pick_spec os (w * (2 + o)) (acc ++ [2 + o]) (fun x hx => ho x (by simp [hx])) (by rw [prodL_snoc, hw]) hc (fun s hs' => by
        rcases List.mem_append.mp hs' with h | h
        · exact hs s h
        · have : s = 2 + o := by simpa using h
          omega)
      exact ⟨a, b, by simp at c ⊢; omega, by simp at d; omega⟩
    · obtain ⟨a, b, c, d⟩ := pick_spec os w acc (fun x hx => ho x (by simp [hx])) hw h3 hs
      exact ⟨a, b, by simp; omega, d⟩
theorem pick_good {o : Int} {os : List Int} (ho : ∀ x ∈ o :: os, 0 ≤ x ∧ x < 3) (hl : (o :: os).length ≤ 6) : Good (pick (o :: os) 1 []).1 := by
  have h2 := ho o (by simp)
  have e : pick (o :: os) 1 [] = pick os (2 + o) [2 + o] := by
    rw [pick, Int.one_mul, if_pos (by omega)]
    rfl
  obtain ⟨a, b, c, d⟩ := pick_spec os (2 + o) [2 + o] (fun x hx => ho x (by simp [hx])) (by simp [prodL]) (by omega) (fun s hs => by
    have : s = 2 + o := by simpa using hs
    omega)
  rw [e]
  refine ⟨by simpa using d, ?_, b, a⟩
  simp at c hl
  omega

theorem cut_small (d0 : Int) (xs : List Int) (h0 : 0 ≤ d0) (h5 : d0 < 6) (hl : xs.length = 6) : ∃ o os, cutD (dI (d0 :: xs)) (some 1) (some (2 + d0)) = dI (o :: os) ∧ (o :: os).length ≤ 6 ∧ ∀ x ∈ o :: os, x ∈ xs := by
  match xs, hl with
  | [a, b, c, d, e, f], _ =>
    have h : d0 = 0 ∨ d0 = 1 ∨ d0 = 2 ∨ d0 = 3 ∨ d0 = 4 ∨ d0 = 5 := by omega
    rcases h with rfl | rfl | rfl | rfl | rfl | rfl
    · exact ⟨a, [], rfl, by simp, by simp⟩
    · exact ⟨a, [b], rfl, by simp, by simp⟩
    · exact ⟨a, [b, c], rfl, by simp, by simp⟩
    · exact ⟨a, [b, c, d], rfl, by simp, by simp⟩
    · exact ⟨a, [b, c, d, e], rfl, by simp, by simp⟩
    · exact ⟨a, [b, c, d, e, f], rfl, by simp, by simp⟩
theorem plain_tup {xs : List Int} (h : xs.length ≤ 6) (n : Nat) : plain (n + 1) (tupI xs) := ⟨by rw [List.length_map, sizeLine_eq]; omega, fun x hx => by
  obtain ⟨i, _, rfl⟩ := List.mem_map.mp hx
  cases n <;> trivial⟩
theorem nums_turn {ss : List Int} (G : Good ss) {A c dr w o : Option O} {n : Nat} (hn : (n : Int) < prodL ss) : g_law_l2 [A, c, dr, some (.im (tupI ss)), w, o, some (.im (.lst (dR (rowsL ss [[]])))), some (.im (.int n))] = .nx [A, c, dr, some (.im (tupI ss)), w, o, some (.im (.lst (dR (rowsL ss [[]])))), some (.im (.int n))] := by
  have hget := rows_get _ ss rfl G.sz n hn
  have hat : atI (dR (rowsL ss [[]])) (n : Int) = some (tupI (rowN ss n)) := atI_nat (by rw [List.getElem?_map, hget]; rfl)
  have h1 := rowof_ok G (n := n) (by omega) hn
  have h2 := numberof_ok G (n := n) (by omega) hn
  have hs : F__law_same 6 [.lst [tupI (rowN ss n), .int n], .lst [tupI (rowN ss n), .int n]] = .ok (.bl true) := by
    refine same_refl 5 _ ⟨by show 2 ≤ sizeLine; rw [sizeLine_eq]; decide, fun x hx => ?_⟩
    rcases List.mem_cons.mp hx with rfl | hx
    · exact plain_tup (by rw [rowN_len]; exact G.le) 3
    · have : x = .int n := by simpa using hx
      subst this
      trivial
  simp only [g_law_l2, cIf, cLookT, fz, List.getElem?_cons_succ, List.getElem?_cons_zero, cNotT, cTest, cFn0, cCons, cL, cVar, cNil, Res.bind_ok, h1, cBin, oIx, hat, h2, hs, asB, Res.calm_ok, stE_ok, cNext, Bool.not_true]
  rfl
def Eight (δ : DS) : Prop := ∃ a b c d e f g h, δ = [a, b, c, d, e, f, g, h]
theorem cell_turn (x : Int) (A d s w o m k : Option O) : ∃ δ2, g_law_l3 [A, some (.im (.int x)), d, s, w, o, m, k] = .nx δ2 ∧ Eight δ2 := by
  obtain ⟨mm, hdr⟩ := draws_ok x [6, 3, 3, 3, 3, 3, 3] (by decide) (by decide)
  have hD : digs mm [6, 3, 3, 3, 3, 3, 3] = (mm % 6) :: digs (mm / 6) [3, 3, 3, 3, 3, 3] := rfl
  have hlen : (digs (mm / 6) [3, 3, 3, 3, 3, 3]).length = 6 := digs_length _ _
  have hbd : ∀ y ∈ digs (mm / 6) [3, 3, 3, 3, 3, 3], 0 ≤ y ∧ y < 3 := by
    intro y hy
    simp only [digs, List.mem_cons, List.not_mem_nil, or_false] at hy
    rcases hy with rfl | rfl | rfl | rfl | rfl | rfl <;> omega
  rw [hD] at hdr
  generalize hd0 : mm % 6 = d0 at hdr
  have hd0b : 0 ≤ d0 ∧ d0 < 6 := by omega
  generalize digs (mm / 6) [3, 3, 3, 3, 3, 3] = xs at hdr hlen hbd
  obtain ⟨o1, os, hcut, hol, hom⟩ := cut_small d0 xs hd0b.1 hd0b.2 hlen
  have hob : ∀ y ∈ o1 :: os, 0 ≤ y ∧ y < 3 := fun y hy => hbd y (hom y hy)
  have G := pick_good hob hol
  obtain ⟨o5, hpk⟩ := pick_loop A (some (.im (.int x))) (some (.im (.lst (dI (d0 :: xs))))) m k (o1 :: os) 1 [] o hob (by decide) (by decide) (by simp at hol ⊢; omega)
  generalize hss : (pick (o1 :: os) 1 []).1 = ss at G hpk
  generalize (pick (o1 :: os) 1 []).2 = ww at hpk
  have hrl := rows_len _ ss rfl G.sz
  have hpr := G.pr
  have hrl3 : (rowsL ss [[]]).length ≤ 300 := by omega
  have hs1 : F__law_same 6 [.int (prodL ss), .int (prodL ss)] = .ok (.bl true) := same_refl 5 _ trivial
  have hs1' : F__law_same 6 [.int (prodL ss), .int ((rowsL ss [[]]).length : Int)] = .ok (.bl true) := by rw [hrl]; exact hs1
  have hpk' : forF (bName 5) g_law_l1 (dI (o1 :: os)) [A, some (.im (.int x)), some (.im (.lst (dI (d0 :: xs)))), some (.ow []), some (.im (.int 1)), o, m, k] = .nx [A, some (.im (.int x)), some (.im (.lst (dI (d0 :: xs)))), some (.ow (dI ss)), some (.im (.int ww)), o5, m, k] := hpk
  have hix : atI (dI (d0 :: xs)) (0 : Int) = some (.int d0) := atI_nat (j := 0) rfl
  -- the steps
  have e1 : (cFn0 F__law_draws (cCons (cVar 1) (cCons (cL (cCons (cC (.int 6)) (cCons (cC (.int 3)) (cCons (cC (.int 3)) (cCons (cC (.int 3)) (cCons (cC (.int 3)) (cCons (cC (.int 3)) (cCons (cC (.int 3)) cNil)))))))) cNil))) [A, some (.im (.int x)), d, s, w, o, m, k] = .ok (.lst (dI (d0 :: xs))) := hdr
  have e4 : (cItems (cSl (cVar 2) (cSome (cC (.int 1))) (cSome (cBin oAdd (cC (.int 2)) (cBin oIx (cVar 2) (cC (.int 0))))))) [A, some (.im (.int x)), some (.im (.lst (dI (d0 :: xs)))), some (.ow []), some (.im (.int 1)), o, m, k] = .ok (dI (o1 :: os)) := by
    simp only [cItems, cSl, cVar, cSome, cC, cBin, oIx, hix, List.getElem?_cons_succ, List.getElem?_cons_zero, Res.bind_ok, asI, oAdd_int, oSl, hcut, itemsD]
  have hst : (1 : Int) + (Int.fdiv ((rowsL ss [[]]).length : Int) 60) = 1 + ((rowsL ss [[]]).length : Int) / 60 := by rw [Int.fdiv_eq_ediv_of_nonneg _ (by decide)]
  have e8 : (cIt gRange3 (cCons (cC (.int 0)) (cCons (cCall gLen (cCons (cVar 6) cNil)) (cCons (cBin oAdd (cC (.int 1)) (cBin oFdiv (cCall gLen (cCons (cVar 6) cNil)) (cC (.int 60)))) cNil)))) [A, some (.im (.int x)), some (.im (.lst (dI (d0 :: xs)))), some (.im (tupI ss)), some (.im (.int ww)), o5, some (.im (.lst (dR (rowsL ss [[]])))), k] =
      .ok (stepsD 0 (1 + ((rowsL ss [[]]).length : Int) / 60) (steps3 0 ((rowsL ss [[]]).length : Int) (1 + ((rowsL ss [[]]).length : Int) / 60))) := by
    have hf : oFdiv (.int ((rowsL ss [[]]).length : Int)) (.int 60) = .ok (.int (((rowsL ss [[]]).length : Int) / 60)) := oFdiv_pos (by decide) (by decide)
    have hl2 : (dR (rowsL ss [[]])).length = (rowsL ss [[]]).length := List.length_map ..
    have hg : gRange3 [.int 0, .int ((rowsL ss [[]]).length : Int), .int (1 + ((rowsL ss [[]]).length : Int) / 60)] = .ok (stepsD 0 (1 + ((rowsL ss [[]]).length : Int) / 60) (steps3 0 ((rowsL ss [[]]).length : Int) (1 + ((rowsL ss [[]]).length : Int) / 60))) := by
      unfold gRange3
      dsimp only
      rw [if_pos (by omega)]
    simp only [cIt, cCons, cC, cCall, cVar, cNil, gLen, cBin, List.getElem?_cons_succ, List.getElem?_cons_zero, Res.bind_ok, hl2, hf, oAdd_int, hg]
  have e9 : ∃ δ2, forF (bName 7) g_law_l2 (stepsD 0 (1 + ((rowsL ss [[]]).length : Int) / 60) (steps3 0 ((rowsL ss [[]]).length : Int) (1 + ((rowsL ss [[]]).length : Int) / 60))) [A, some (.im (.int x)), some (.im (.lst (dI (d0 :: xs)))), some (.im (tupI ss)), some (.im (.int ww)), o5, some (.im (.lst (dR (rowsL ss [[]])))), k] = .nx δ2 ∧
      ∃ k', δ2 = [A, some (.im (.int x)), some (.im (.lst (dI (d0 :: xs)))), some (.im (tupI ss)), some (.im (.int ww)), o5, some (.im (.lst (dR (rowsL ss [[]])))), k'] := by
    unfold stepsD
    refine forF_inv (β := Nat) _ (fun δ2 => ∃ k', δ2 = [A, some (.im (.int x)), some (.im (.lst (dI (d0 :: xs)))), some (.im (tupI ss)), some (.im (.int ww)), o5, some (.im (.lst (dR (rowsL ss [[]])))), k']) _ _ ⟨k, rfl⟩ ?_
    rintro δ i hi ⟨k', rfl⟩
    have hi' : i < steps3 0 ((rowsL ss [[]]).length : Int) (1 + ((rowsL ss [[]]).length : Int) / 60) := List.mem_range.mp hi
    have hlt : (i : Int) * (1 + ((rowsL ss [[]]).length : Int) / 60) < (rowsL ss [[]]).length := by
      unfold steps3 at hi'
      split at hi'
      · rename_i h0
        have hc : (0 : Int) < 1 + ((rowsL ss [[]]).length : Int) / 60 := by omega
        have h1 : (i : Int) ≤ (((rowsL ss [[]]).length : Int) - 0 - 1) / (1 + ((rowsL ss [[]]).length : Int) / 60) := by omega
        have h2 := (Int.le_ediv_iff_mul_le hc).mp h1
        omega
      · omega
    have hnn : 0 ≤ (i : Int) * (1 + ((rowsL ss [[]]).length : Int) / 60) := Int.mul_nonneg (by omega) (by omega)
    obtain ⟨n, hn⟩ := Int.eq_ofNat_of_zero_le hnn
    have ht := nums_turn G (A := A) (c := some (.im (.int x))) (dr := some (.im (.lst (dI (d0 :: xs))))) (w := some (.im (.int ww))) (o := o5) (n := n) (by rw [← hn, ← hrl]; exact hlt)
    exact ⟨_, _, by rw [Int.zero_add, hn]; rfl, ht, ⟨_, rfl⟩⟩
  obtain ⟨δ2, e9, k', rfl⟩ := e9
  have e6 : (cFn0 F__law_rows (cCons (cVar 3) cNil)) [A, some (.im (.int x)), some (.im (.lst (dI (d0 :: xs)))), some (.im (tupI ss)), some (.im (.int ww)), o5, m, k] = .ok (.lst (dR (rowsL ss [[]]))) := rows_ok G
  have e7 : (cLookT 3 (cNotT (cTest (cFn0 (F__law_same 6) (cCons (cFn0 F_many_rows (cCons (cVar 3) cNil)) (cCons (cCall gLen (cCons (cVar 6) cNil)) cNil)))))) [A, some (.im (.int x)), some (.im (.lst (dI (d0 :: xs)))), some (.im (tupI ss)), some (.im (.int ww)), o5, some (.im (.lst (dR (rowsL ss [[]])))), k] = .ok false := by
    have hl2 : (dR (rowsL ss [[]])).length = (rowsL ss [[]]).length := List.length_map ..
    simp only [cLookT, fz, List.getElem?_cons_succ, List.getElem?_cons_zero, cNotT, cTest, cFn0, cCons, cVar, cNil, Res.bind_ok, many_ok G, cCall, gLen, hl2, hs1', asB, Res.calm_ok, Bool.not_true]
  refine ⟨[A, some (.im (.int x)), some (.im (.lst (dI (d0 :: xs)))), some (.im (tupI ss)), some (.im (.int ww)), o5, some (.im (.lst (dR (rowsL ss [[]])))), k'], ?_, ⟨_, _, _, _, _, _, _, _, rfl⟩⟩
  have e5 : (cFz 3 (cAsg 3 (cCall gTuple (cCons (cVar 3) cNil)))) [A, some (.im (.int x)), some (.im (.lst (dI (d0 :: xs)))), some (.ow (dI ss)), some (.im (.int ww)), o5, m, k] = .nx [A, some (.im (.int x)), some (.im (.lst (dI (d0 :: xs)))), some (.im (tupI ss)), some (.im (.int ww)), o5, m, k] := rfl
  have e6' : (cFz 3 (cAsg 6 (cFn0 F__law_rows (cCons (cVar 3) cNil)))) [A, some (.im (.int x)), some (.im (.lst (dI (d0 :: xs)))), some (.im (tupI ss)), some (.im (.int ww)), o5, m, k] = .nx [A, some (.im (.int x)), some (.im (.lst (dI (d0 :: xs)))), some (.im (tupI ss)), some (.im (.int ww)), o5, some (.im (.lst (dR (rowsL ss [[]])))), k] := by
    simp only [cFz, fz, List.getElem?_cons_succ, List.getElem?_cons_zero, cAsg, e6, stE_ok, List.set_cons_succ, List.set_cons_zero]
  exact seq_nx (asg_nx e1) (seq_nx (own_nx rfl) (seq_nx (asg_nx rfl) (seq_nx (for_r e4 hpk') (seq_nx e5 (seq_nx e6' (seq_nx (if_f e7 rfl) (for_r e8 e9)))))))
theorem law_true (ns : List Int) (h : ns.length ≤ 63) : F_law [.lst (ns.map D.int)] = .ok (.bl true) := by
  obtain ⟨ms, hms, hml⟩ : ∃ ms : List Int, cutD (ns.map D.int) none (some 40) = ms.map D.int ∧ ms.length ≤ 63 := by
    refine ⟨_, cutD_map _ _ _ _, ?_⟩
    rw [List.length_take, List.length_drop]
    omega
  have hz : ms.length + 2 ≤ sizeLine := by rw [sizeLine_eq]; omega
  have e1 : (cItems (cBin oAdd (cVar 0) (cL (cCons (cC (.int 0)) (cCons (cC (.int 1)) cNil))))) [some (.im (.lst (ms.map D.int))), none, none, none, none, none, none, none] = .ok (dI (ms ++ [0, 1])) := by
    simp [cItems, cBin, cVar, cL, cCons, cC, cNil, oAdd, hz, itemsD]
  obtain ⟨δ2, hf, _⟩ := forF_inv D.int Eight (b := bName 1) (g := g_law_l3) (ms ++ [0, 1]) [some (.im (.lst (ms.map D.int))), none, none, none, none, none, none, none] ⟨_, _, _, _, _, _, _, _, rfl⟩ (by
    rintro δ x hx ⟨a, b, c, d, e, f, g, h, rfl⟩
    obtain ⟨δ2, h1, h2⟩ := cell_turn x a c d e f g h
    exact ⟨_, δ2, rfl, h1, h2⟩)
  have e0 : g_law [some (.im (.lst (ns.map D.int))), none, none, none, none, none, none, none] = .rt (.bl true) :=
    seq_nx (asg_nx (d := .lst (ms.map D.int)) (by simp [cSl, cVar, cNone, cSome, cC, asI, oSl, hms])) (seq_nx (for_r e1 hf) rfl)
  show flR (g_law _) = _
  rw [show st0 7 [D.lst (ns.map D.int)] = [some (.im (.lst (ns.map D.int))), none, none, none, none, none, none, none] from rfl, e0]
  rfl
end My
namespace My
open PySem L2 DV

def top (i : Nat) : Stmt := PySem.Challenge.pw_tallyloom_k04_rows_numbered.main.body.getD i (.Pass ⟨0, 0, 0, 0⟩)
abbrev s_multiplied : Stmt := top 8
abbrev s_look_sizes : Stmt := top 9
abbrev s_look_row : Stmt := top 10
abbrev s_many_rows : Stmt := top 11
abbrev s_number_of : Stmt := top 12
abbrev s_row_of : Stmt := top 13
abbrev s__law_draws : Stmt := top 15
abbrev s__law_rows : Stmt := top 16
abbrev s__law_same : Stmt := top 17
abbrev s_law : Stmt := top 18
structure Ads where
  f_multiplied : Addr
  d_multiplied : FuncData
  f_look_sizes : Addr
  d_look_sizes : FuncData
  f_look_row : Addr
  d_look_row : FuncData
  f_many_rows : Addr
  d_many_rows : FuncData
  f_number_of : Addr
  d_number_of : FuncData
  f_row_of : Addr
  d_row_of : FuncData
  f__law_draws : Addr
  d__law_draws : FuncData
  f__law_rows : Addr
  d__law_rows : FuncData
  f__law_same : Addr
  d__law_same : FuncData
  f_law : Addr
  d_law : FuncData
  v_MOST_COLUMNS : V
  u_MOST_COLUMNS : Value
  v_MOST_ROWS : V
  u_MOST_ROWS : Value
  v_MOST_SIZE : V
  u_MOST_SIZE : Value
structure Txt (K : PySem.W.Frag) (mg : Str → Option Value) (a : Ads) : Prop where
  F_multiplied : Fun K "multiplied" "multiplied" s_multiplied a.f_multiplied a.d_multiplied
  g_multiplied : mg "multiplied" = some (.ref a.f_multiplied)
  k_multiplied : PySem.W.keepIn K (.ref a.f_multiplied) = true
  bd_multiplied : Binds K a.d_multiplied ["sizes"] []
  F_look_sizes : Fun K "look_sizes" "look_sizes" s_look_sizes a.f_look_sizes a.d_look_sizes
  g_look_sizes : mg "look_sizes" = some (.ref a.f_look_sizes)
  k_look_sizes : PySem.W.keepIn K (.ref a.f_look_sizes) = true
  bd_look_sizes : Binds K a.d_look_sizes ["sizes"] []
  F_look_row : Fun K "look_row" "look_row" s_look_row a.f_look_row a.d_look_row
  g_look_row : mg "look_row" = some (.ref a.f_look_row)
  k_look_row : PySem.W.keepIn K (.ref a.f_look_row) = true
  bd_look_row : Binds K a.d_look_row ["sizes", "row"] []
  F_many_rows : Fun K "many_rows" "many_rows" s_many_rows a.f_many_rows a.d_many_rows
  g_many_rows : mg "many_rows" = some (.ref a.f_many_rows)
  k_many_rows : PySem.W.keepIn K (.ref a.f_many_rows) = true
  bd_many_rows : Binds K a.d_many_rows ["sizes"] []
  F_number_of : Fun K "number_of" "number_of" s_number_of a.f_number_of a.d_number_of
  g_number_of : mg "number_of" = some (.ref a.f_number_of)
  k_number_of : PySem.W.keepIn K (.ref a.f_number_of) = true
  bd_number_of : Binds K a.d_number_of ["sizes", "row"] []
  F_row_of : Fun K "row_of" "row_of" s_row_of a.f_row_of a.d_row_of
  g_row_of : mg "row_of" = some (.ref a.f_row_of)
  k_row_of : PySem.W.keepIn K (.ref a.f_row_of) = true
  bd_row_of : Binds K a.d_row_of ["sizes", "number"] []
  F__law_draws : Fun K "_law_draws" "_law_draws" s__law_draws a.f__law_draws a.d__law_draws
  g__law_draws : mg "_law_draws" = some (.ref a.f__law_draws)
  k__law_draws : PySem.W.keepIn K (.ref a.f__law_draws) = true
  bd__law_draws : Binds K a.d__law_draws ["_law_cell", "_law_sizes"] []
  F__law_rows : Fun K "_law_rows" "_law_rows" s__law_rows a.f__law_rows a.d__law_rows
  g__law_rows : mg "_law_rows" = some (.ref a.f__law_rows)
  k__law_rows : PySem.W.keepIn K (.ref a.f__law_rows) = true
  bd__law_rows : Binds K a.d__law_rows ["_law_sizes"] []
  F__law_same : Fun K "_law_same" "_law_same" s__law_same a.f__law_same a.d__law_same
  g__law_same : mg "_law_same" = some (.ref a.f__law_same)
  k__law_same : PySem.W.keepIn K (.ref a.f__law_same) = true
  bd__law_same : Binds K a.d__law_same ["_law_found", "_law_due"] []
  F_law : Fun K "law" "law" s_law a.f_law a.d_law
  g_law : mg "law" = some (.ref a.f_law)
  k_law : PySem.W.keepIn K (.ref a.f_law) = true
  bd_law : Binds K a.d_law ["_law_script"] []
  b_abs : mg "abs" = none
  b_all : mg "all" = none
  b_bool : mg "bool" = none
  b_divmod : mg "divmod" = none
  b_int : mg "int" = none
  b_isinstance : mg "isinstance" = none
  b_len : mg "len" = none
  b_list : mg "list" = none
  b_range : mg "range" = none
  b_str : mg "str" = none
  b_tuple : mg "tuple" = none
  b_zip : mg "zip" = none
  c_MOST_COLUMNS : mg "MOST_COLUMNS" = some a.u_MOST_COLUMNS
  w_MOST_COLUMNS : RelV a.v_MOST_COLUMNS a.u_MOST_COLUMNS
  r_MOST_COLUMNS : ∀ B, Rp K B a.v_MOST_COLUMNS (.int 6)
  c_MOST_ROWS : mg "MOST_ROWS" = some a.u_MOST_ROWS
  w_MOST_ROWS : RelV a.v_MOST_ROWS a.u_MOST_ROWS
  r_MOST_ROWS : ∀ B, Rp K B a.v_MOST_ROWS (.int 300)
  c_MOST_SIZE : mg "MOST_SIZE" = some a.u_MOST_SIZE
  w_MOST_SIZE : RelV a.v_MOST_SIZE a.u_MOST_SIZE
  r_MOST_SIZE : ∀ B, Rp K B a.v_MOST_SIZE (.int 4)
section
variable {P : Program} {w : World} {K : PySem.W.Frag} {mg : Str → Option Value} {base : Heap} {a : Ads}
theorem sc_multiplied : FnScope ["sizes", "found", "size"] ["sizes"] (defScope s_multiplied) := ⟨rfl, rfl, rfl, by decide +kernel, rfl, by decide +kernel, by decide +kernel⟩
theorem ok_multiplied (T : Txt K mg a) : FnOk P w K mg base (L2.CX P w) 1 a.f_multiplied a.d_multiplied ["sizes"] (spD K 1 F_multiplied) := by
  refine def_ok (k := 0) T.F_multiplied sc_multiplied rfl fun cdv A outer s H E hr tk po hu => ?_
  have nd := sc_multiplied.nd
  exact ⟨_, (css_cons (cs_set 1 nd ce_int)
  (css_cons (cs_for po rfl (ci_seq K (by rfl) (ce_var 0)) (cg_name 2 nd) (css_one (cs_aug 1 nd (ce_var 2) oi_mul)))
  (css_one (cs_ret (ce_var 1)))))⟩
theorem sc_look_sizes : FnScope ["sizes", "size"] ["sizes"] (defScope s_look_sizes) := ⟨rfl, rfl, rfl, by decide +kernel, rfl, by decide +kernel, by decide +kernel⟩
theorem ok_look_sizes (T : Txt K mg a) : FnOk P w K mg base (L2.CX P w) 2 a.f_look_sizes a.d_look_sizes ["sizes"] (spD K 1 F_look_sizes) := by
  refine def_ok (k := 1) T.F_look_sizes sc_look_sizes rfl fun cdv A outer s H E hr tk po hu => ?_
  have nd := sc_look_sizes.nd
  exact ⟨_, (css_cons (cs_if (CW.ct (cw_or (ct_not (ct_cc o_le o_le ce_int (ce_callB (k_len K (by rfl)) T.b_len (by decide +kernel) (ca_cons (ce_var 0) ca_nil)) (ce_glob (by rfl) T.c_MOST_COLUMNS T.w_MOST_COLUMNS (fun B => T.r_MOST_COLUMNS B)))) (cw_or1 (ct_not (ct_val (ce_callB (k_all K (by rfl) (by rfl)) T.b_all (by decide +kernel) (ca_cons (ce_l (lc_1 (own := [("size", 1)]) s rfl nd (ci_seq K (by rfl) (ce_var 0)) (blkOk_by (by kernel_rfl)) (fun _ _ _ _ _ => (cg_name 1 nd)) (fun _ _ _ _ _ => cts_nil) (fun _ _ _ _ _ => (ce_cc o_le o_le ce_int (ce_var 1) (ce_glob (by rfl) T.c_MOST_SIZE T.w_MOST_SIZE (fun B => T.r_MOST_SIZE B))))).toCF) ca_nil))))))) (css_one cs_never) css_nil)
  (css_one (cs_if (ct_c o_gt (ce_f K (by rfl) (ok_multiplied T) (hr.mono (by decide)) T.g_multiplied T.k_multiplied T.bd_multiplied tk (ca_cons (ce_var 0) ca_nil)) (ce_glob (by rfl) T.c_MOST_ROWS T.w_MOST_ROWS (fun B => T.r_MOST_ROWS B))) (css_one cs_never) css_nil)))⟩
theorem sc_look_row : FnScope ["sizes", "row", "value", "size"] ["sizes", "row"] (defScope s_look_row) := ⟨rfl, rfl, rfl, by decide +kernel, rfl, by decide +kernel, by decide +kernel⟩
theorem ok_look_row (T : Txt K mg a) : FnOk P w K mg base (L2.CX P w) 1 a.f_look_row a.d_look_row ["sizes", "row"] (spD K 2 F_look_row) := by
  refine def_ok (k := 0) T.F_look_row sc_look_row rfl fun cdv A outer s H E hr tk po hu => ?_
  have nd := sc_look_row.nd
  exact ⟨_, (css_one (cs_if (CW.ct (cw_or (ct_c (o_ne K (by rfl) hu) (ce_callB (k_len K (by rfl)) T.b_len (by decide +kernel) (ca_cons (ce_var 1) ca_nil)) (ce_callB (k_len K (by rfl)) T.b_len (by decide +kernel) (ca_cons (ce_var 0) ca_nil))) (cw_or1 (ct_not (ct_val (ce_callB (k_all K (by rfl) (by rfl)) T.b_all (by decide +kernel) (ca_cons (ce_l (lc_1 (own := [("value", 2), ("size", 3)]) s rfl nd (ci_zip K (by rfl) T.b_zip (ca_cons (ce_var 1) (ca_cons (ce_var 0) ca_nil))) (blkOk_by (by kernel_rfl)) (fun _ _ _ _ _ => (cg_tup K (by rfl) (by rfl) (cgs_cons (cg_name 2 nd) (cgs_cons (cg_name 3 nd) cgs_nil (by rfl)) (by rfl)) (by rfl) (by rfl))) (fun _ _ _ _ _ => cts_nil) (fun _ _ _ _ _ => (ce_cc o_le o_lt ce_int (ce_var 2) (ce_var 3)))).toCF) ca_nil))))))) (css_one cs_never) css_nil))⟩
theorem sc_many_rows : FnScope ["sizes"] ["sizes"] (defScope s_many_rows) := ⟨rfl, rfl, rfl, by decide +kernel, rfl, by decide +kernel, by decide +kernel⟩
theorem ok_many_rows (T : Txt K mg a) : FnOk P w K mg base (L2.CX P w) 3 a.f_many_rows a.d_many_rows ["sizes"] (spD K 1 F_many_rows) := by
  refine def_ok (k := 2) T.F_many_rows sc_many_rows rfl fun cdv A outer s H E hr tk po hu => ?_
  have nd := sc_many_rows.nd
  exact ⟨_, (css_cons (cs_expr (ce_f K (by rfl) (ok_look_sizes T) (hr.mono (by decide)) T.g_look_sizes T.k_look_sizes T.bd_look_sizes tk (ca_cons (ce_var 0) ca_nil)))
  (css_one (cs_ret (ce_f K (by rfl) (ok_multiplied T) (hr.mono (by decide)) T.g_multiplied T.k_multiplied T.bd_multiplied tk (ca_cons (ce_var 0) ca_nil)))))⟩
theorem sc_number_of : FnScope ["sizes", "row", "found", "value", "size"] ["sizes", "row"] (defScope s_number_of) := ⟨rfl, rfl, rfl, by decide +kernel, rfl, by decide +kernel, by decide +kernel⟩
theorem ok_number_of (T : Txt K mg a) : FnOk P w K mg base (L2.CX P w) 3 a.f_number_of a.d_number_of ["sizes", "row"] (spD K 2 F_number_of) := by
  refine def_ok (k := 2) T.F_number_of sc_number_of rfl fun cdv A outer s H E hr tk po hu => ?_
  have nd := sc_number_of.nd
  exact ⟨_, (css_cons (cs_expr (ce_f K (by rfl) (ok_look_sizes T) (hr.mono (by decide)) T.g_look_sizes T.k_look_sizes T.bd_look_sizes tk (ca_cons (ce_var 0) ca_nil)))
  (css_cons (cs_expr (ce_f K (by rfl) (ok_look_row T) (hr.mono (by decide)) T.g_look_row T.k_look_row T.bd_look_row tk (ca_cons (ce_var 0) (ca_cons (ce_var 1) ca_nil))))
  (css_cons (cs_set 2 nd ce_int)
  (css_cons (cs_for po rfl (ci_zip K (by rfl) T.b_zip (ca_cons (ce_var 1) (ca_cons (ce_var 0) ca_nil))) (cg_tup K (by rfl) (by rfl) (cgs_cons (cg_name 3 nd) (cgs_cons (cg_name 4 nd) cgs_nil (by rfl)) (by rfl)) (by rfl) (by rfl)) (css_one (cs_set 2 nd (ce_b (o_add K (by rfl)) (ce_b (o_mul K (by rfl)) (ce_var 2) (ce_var 4)) (ce_var 3)))))
  (css_one (cs_ret (ce_var 2)))))))⟩
theorem sc_row_of : FnScope ["sizes", "number", "left", "found", "size", "value"] ["sizes", "number"] (defScope s_row_of) := ⟨rfl, rfl, rfl, by decide +kernel, rfl, by decide +kernel, by decide +kernel⟩
theorem ok_row_of (T : Txt K mg a) : FnOk P w K mg base (L2.CX P w) 3 a.f_row_of a.d_row_of ["sizes", "number"] (spD K 2 F_row_of) := by
  refine def_ok (k := 2) T.F_row_of sc_row_of rfl fun cdv A outer s H E hr tk po hu => ?_
  have nd := sc_row_of.nd
  exact ⟨_, (css_cons (cs_expr (ce_f K (by rfl) (ok_look_sizes T) (hr.mono (by decide)) T.g_look_sizes T.k_look_sizes T.bd_look_sizes tk (ca_cons (ce_var 0) ca_nil)))
  (css_cons (cs_if (CW.ct (cw_or (ct_c o_lt (ce_var 1) ce_int) (cw_or1 (ct_c o_ge (ce_var 1) (ce_f K (by rfl) (ok_multiplied T) (hr.mono (by decide)) T.g_multiplied T.k_multiplied T.bd_multiplied tk (ca_cons (ce_var 0) ca_nil)))))) (css_one cs_never) css_nil)
  (css_cons (cs_set 2 nd (ce_var 1))
  (css_cons (cs_own 3 nd (cf_lst ca_nil))
  (css_cons (cs_for po rfl (ci_seq K (by rfl) (ce_rev K (by rfl) (ce_var 0))) (cg_name 4 nd) (css_cons (cs_asg (ce_callB k_divmod T.b_divmod (by decide +kernel) (ca_cons (ce_var 2) (ca_cons (ce_var 4) ca_nil))) (cg_tup K (by rfl) (by rfl) (cgs_cons (cg_name 2 nd) (cgs_cons (cg_name 5 nd) cgs_nil (by rfl)) (by rfl)) (by rfl) (by rfl)))
  (css_one (cs_app 3 (ce_var 5) (pv 3)))))
  (css_one (cs_fz 3 (cs_ret (ce_callTy (k_tuple K (by rfl)) T.b_tuple (by decide +kernel) (ca_cons (ce_rev K (by rfl) (ce_var 3)) ca_nil))))))))))⟩
theorem sc__law_draws : FnScope ["_law_cell", "_law_sizes", "_law_mixed", "_law_two", "_law_six", "_law_found", "_law_size"] ["_law_cell", "_law_sizes"] (defScope s__law_draws) := ⟨rfl, rfl, rfl, by decide +kernel, rfl, by decide +kernel, by decide +kernel⟩
theorem ok__law_draws (T : Txt K mg a) : FnOk P w K mg base (L2.CX P w) 1 a.f__law_draws a.d__law_draws ["_law_cell", "_law_sizes"] (spD K 2 F__law_draws) := by
  refine def_ok (k := 0) T.F__law_draws sc__law_draws rfl fun cdv A outer s H E hr tk po hu => ?_
  have nd := sc__law_draws.nd
  exact ⟨_, (css_cons (cs_if (ct_c o_lt (ce_callB k_abs T.b_abs (by decide +kernel) (ca_cons (ce_var 0) ca_nil)) (ce_b o_pow ce_int ce_int)) (css_cons (cs_set 2 nd (ce_b o_mod (ce_b (o_add K (by rfl)) (ce_b (o_mul K (by rfl)) (ce_var 0) ce_int) ce_int) ce_int))
  (css_cons (cs_set 3 nd (ce_b o_mod (ce_b (o_add K (by rfl)) (ce_b (o_add K (by rfl)) (ce_b (o_mul K (by rfl)) (ce_var 2) (ce_var 2)) (ce_b (o_mul K (by rfl)) ce_int (ce_var 2))) (ce_var 0)) ce_int))
  (css_cons (cs_set 4 nd (ce_b o_mod (ce_b (o_add K (by rfl)) (ce_b (o_mul K (by rfl)) (ce_var 3) ce_int) (ce_var 2)) ce_int))
  (css_one (cs_set 0 nd (ce_b (o_add K (by rfl)) (ce_var 3) (ce_b (o_mul K (by rfl)) ce_int (ce_b (o_add K (by rfl)) (ce_var 4) (ce_b (o_mul K (by rfl)) ce_int (ce_var 2)))))))))) (css_one (cs_set 0 nd (ce_b o_sub (ce_callB k_abs T.b_abs (by decide +kernel) (ca_cons (ce_var 0) ca_nil)) (ce_b o_pow ce_int ce_int)))))
  (css_cons (cs_own 5 nd (cf_lst ca_nil))
  (css_cons (cs_for po rfl (ci_seq K (by rfl) (ce_var 1)) (cg_name 6 nd) (css_cons (cs_app 5 (ce_b o_mod (ce_var 0) (ce_var 6)) (pv 5))
  (css_one (cs_set 0 nd (ce_b o_fdiv (ce_var 0) (ce_var 6))))))
  (css_one (cs_fz 5 (cs_ret (ce_var 5)))))))⟩
theorem sc__law_rows : FnScope ["_law_sizes", "_law_found", "_law_size", "_law_longer", "_law_row", "_law_value"] ["_law_sizes"] (defScope s__law_rows) := ⟨rfl, rfl, rfl, by decide +kernel, rfl, by decide +kernel, by decide +kernel⟩
theorem ok__law_rows (T : Txt K mg a) : FnOk P w K mg base (L2.CX P w) 1 a.f__law_rows a.d__law_rows ["_law_sizes"] (spD K 1 F__law_rows) := by
  refine def_ok (k := 0) T.F__law_rows sc__law_rows rfl fun cdv A outer s H E hr tk po hu => ?_
  have nd := sc__law_rows.nd
  exact ⟨_, (css_cons (cs_set 1 nd (ce_l (cf_lst (ca_cons (ce_tup ca_nil) ca_nil))))
  (css_cons (cs_for po rfl (ci_seq K (by rfl) (ce_var 0)) (cg_name 2 nd) (css_cons (cs_set 3 nd (ce_l (cf_lst ca_nil)))
  (css_cons (cs_for po rfl (ci_seq K (by rfl) (ce_var 1)) (cg_name 4 nd) (css_one (cs_set 3 nd (ce_b (o_add K (by rfl)) (ce_var 3) (ce_l (lc_1 (own := [("_law_value", 5)]) s rfl nd (ci_range1 T.b_range (ca_cons (ce_var 2) ca_nil)) (blkOk_by (by kernel_rfl)) (fun _ _ _ _ _ => (cg_name 5 nd)) (fun _ _ _ _ _ => cts_nil) (fun _ _ _ _ _ => (ce_b (o_add K (by rfl)) (ce_var 4) (ce_tup (ca_cons (ce_var 5) ca_nil))))).toCF)))))
  (css_one (cs_set 1 nd (ce_var 3))))))
  (css_one (cs_ret (ce_var 1)))))⟩
theorem sc__law_same : FnScope ["_law_found", "_law_due", "_law_k"] ["_law_found", "_law_due"] (defScope s__law_same) := ⟨rfl, rfl, rfl, by decide +kernel, rfl, by decide +kernel, by decide +kernel⟩
theorem ok__law_same (T : Txt K mg a) : ∀ n : Nat, FnOk P w K mg base (L2.CX P w) (1 + n) a.f__law_same a.d__law_same ["_law_found", "_law_due"] (spD K 2 (F__law_same n))
  | 0 => ⟨fun vs H Q E h => h.1, fun A outer s H args us vs Q E hr he hb hv h => (by obtain ⟨_, _, _, _, _, z⟩ := h; exact z.elim)⟩
  | n + 1 => by
    have ih := ok__law_same T n
    refine def_ok (k := 1 + n) T.F__law_same sc__law_same rfl fun cdv A outer s H E hr tk po hu => ?_
    have nd := sc__law_same.nd
    exact ⟨_, (css_cons (cs_if (ct_c o_is (ce_var 1) ce_non) (css_one (cs_ret (ce_c o_is (ce_var 0) ce_non))) css_nil)
  (css_cons (cs_if (ct_val (ce_callB (k_isi K (by rfl)) T.b_isinstance (by decide +kernel) (ca_cons (ce_var 1) (ca_cons (ce_bltn (v := .ty "str") (by rfl) T.b_str (by decide +kernel) rfl) ca_nil)))) (css_one (cs_ret (ce_and (ce_callB (k_isi K (by rfl)) T.b_isinstance (by decide +kernel) (ca_cons (ce_var 0) (ca_cons (ce_bltn (v := .ty "str") (by rfl) T.b_str (by decide +kernel) rfl) ca_nil))) (ce_one (ce_c (o_eq K (by rfl) hu) (ce_var 0) (ce_var 1)))))) css_nil)
  (css_cons (cs_if (ct_val (ce_callB (k_isi K (by rfl)) T.b_isinstance (by decide +kernel) (ca_cons (ce_var 1) (ca_cons (ce_bltn (v := .ty "int") (by rfl) T.b_int (by decide +kernel) rfl) ca_nil)))) (css_one (cs_ret (ce_and (ce_callB (k_isi K (by rfl)) T.b_isinstance (by decide +kernel) (ca_cons (ce_var 0) (ca_cons (ce_bltn (v := .ty "int") (by rfl) T.b_int (by decide +kernel) rfl) ca_nil))) (ce_and (ce_c (o_eq K (by rfl) hu) (ce_callB (k_isi K (by rfl)) T.b_isinstance (by decide +kernel) (ca_cons (ce_var 0) (ca_cons (ce_bltn (v := .ty "bool") (by rfl) T.b_bool (by decide +kernel) rfl) ca_nil))) (ce_callB (k_isi K (by rfl)) T.b_isinstance (by decide +kernel) (ca_cons (ce_var 1) (ca_cons (ce_bltn (v := .ty "bool") (by rfl) T.b_bool (by decide +kernel) rfl) ca_nil)))) (ce_one (ce_c (o_eq K (by rfl) hu) (ce_var 0) (ce_var 1))))))) css_nil)
  (css_cons (cs_if (CW.ct (cw_or (ct_c (o_ne K (by rfl) hu) (ce_callB (k_isi K (by rfl)) T.b_isinstance (by decide +kernel) (ca_cons (ce_var 1) (ca_cons (ce_bltn (v := .ty "list") (by rfl) T.b_list (by decide +kernel) rfl) ca_nil))) (ce_callB (k_isi K (by rfl)) T.b_isinstance (by decide +kernel) (ca_cons (ce_var 0) (ca_cons (ce_bltn (v := .ty "list") (by rfl) T.b_list (by decide +kernel) rfl) ca_nil)))) (cw_or1 (ct_c (o_ne K (by rfl) hu) (ce_callB (k_isi K (by rfl)) T.b_isinstance (by decide +kernel) (ca_cons (ce_var 1) (ca_cons (ce_bltn (v := .ty "tuple") (by rfl) T.b_tuple (by decide +kernel) rfl) ca_nil))) (ce_callB (k_isi K (by rfl)) T.b_isinstance (by decide +kernel) (ca_cons (ce_var 0) (ca_cons (ce_bltn (v := .ty "tuple") (by rfl) T.b_tuple (by decide +kernel) rfl) ca_nil))))))) (css_one (cs_ret ce_bl)) css_nil)
  (css_one (cs_ret (ce_and (ce_c (o_eq K (by rfl) hu) (ce_callB (k_len K (by rfl)) T.b_len (by decide +kernel) (ca_cons (ce_var 0) ca_nil)) (ce_callB (k_len K (by rfl)) T.b_len (by decide +kernel) (ca_cons (ce_var 1) ca_nil))) (ce_one (ce_callB (k_all K (by rfl) (by rfl)) T.b_all (by decide +kernel) (ca_cons (ce_l (lc_1 (own := [("_law_k", 2)]) s rfl nd (ci_range1 T.b_range (ca_cons (ce_callB (k_len K (by rfl)) T.b_len (by decide +kernel) (ca_cons (ce_var 1) ca_nil)) ca_nil)) (blkOk_by (by kernel_rfl)) (fun _ _ _ _ _ => (cg_name 2 nd)) (fun _ _ _ _ _ => cts_nil) (fun _ _ _ _ _ => (ce_f K (by rfl) ih (hr.mono (by omega)) T.g__law_same T.k__law_same T.bd__law_same takes0 (ca_cons (ce_ix K (by rfl) (ce_var 0) (ce_var 2)) (ca_cons (ce_ix K (by rfl) (ce_var 1) (ce_var 2)) ca_nil))))).toCF) ca_nil))))))))))⟩
theorem sc_law : FnScope ["_law_script", "_law_cell", "_law_drawn", "_law_sizes", "_law_whole", "_law_one", "_law_some", "_law_number"] ["_law_script"] (defScope s_law) := ⟨rfl, rfl, rfl, by decide +kernel, rfl, by decide +kernel, by decide +kernel⟩
theorem ok_law (T : Txt K mg a) : FnOk P w K mg base (L2.CX P w) 8 a.f_law a.d_law ["_law_script"] (spD K 1 F_law) := by
  refine def_ok (k := 7) T.F_law sc_law rfl fun cdv A outer s H E hr tk po hu => ?_
  have nd := sc_law.nd
  exact ⟨_, (css_cons (cs_set 0 nd (ce_sl K (by rfl) (ce_var 0) co_none (co_some ce_int)))
  (css_cons (cs_for po rfl (ci_seq K (by rfl) (ce_b (o_add K (by rfl)) (ce_var 0) (ce_l (cf_lst (ca_cons ce_int (ca_cons ce_int ca_nil)))))) (cg_name 1 nd) (css_cons (cs_set 2 nd (ce_f K (by rfl) (ok__law_draws T) (hr.mono (by decide)) T.g__law_draws T.k__law_draws T.bd__law_draws tk (ca_cons (ce_var 1) (ca_cons (ce_l (cf_lst (ca_cons ce_int (ca_cons ce_int (ca_cons ce_int (ca_cons ce_int (ca_cons ce_int (ca_cons ce_int (ca_cons ce_int ca_nil))))))))) ca_nil))))
  (css_cons (cs_own 3 nd (cf_lst ca_nil))
  (css_cons (cs_set 4 nd ce_int)
  (css_cons (cs_for po rfl (ci_seq K (by rfl) (ce_sl K (by rfl) (ce_var 2) (co_some ce_int) (co_some (ce_b (o_add K (by rfl)) ce_int (ce_ix K (by rfl) (ce_var 2) ce_int))))) (cg_name 5 nd) (css_one (cs_if (ct_c o_le (ce_b (o_mul K (by rfl)) (ce_var 4) (ce_b (o_add K (by rfl)) ce_int (ce_var 5))) ce_int) (css_cons (cs_app 3 (ce_b (o_add K (by rfl)) ce_int (ce_var 5)) (pv 3))
  (css_one (cs_set 4 nd (ce_b (o_mul K (by rfl)) (ce_var 4) (ce_b (o_add K (by rfl)) ce_int (ce_var 5)))))) css_nil)))
  (css_cons (cs_fz 3 (cs_set 3 nd (ce_callTy (k_tuple K (by rfl)) T.b_tuple (by decide +kernel) (ca_cons (ce_var 3) ca_nil))))
  (css_cons (cs_fz 3 (cs_set 6 nd (ce_f K (by rfl) (ok__law_rows T) (hr.mono (by decide)) T.g__law_rows T.k__law_rows T.bd__law_rows tk (ca_cons (ce_var 3) ca_nil))))
  (css_cons (cs_if (ct_look 3 (ct_not (ct_val (ce_f K (by rfl) (ok__law_same T 6) (hr.mono (by decide)) T.g__law_same T.k__law_same T.bd__law_same tk (ca_cons (ce_f K (by rfl) (ok_many_rows T) (hr.mono (by decide)) T.g_many_rows T.k_many_rows T.bd_many_rows tk (ca_cons (ce_var 3) ca_nil)) (ca_cons (ce_callB (k_len K (by rfl)) T.b_len (by decide +kernel) (ca_cons (ce_var 6) ca_nil)) ca_nil)))))) (css_one (cs_ret ce_bl)) css_nil)
  (css_one (cs_for po rfl (ci_range3 T.b_range (ca_cons ce_int (ca_cons (ce_callB (k_len K (by rfl)) T.b_len (by decide +kernel) (ca_cons (ce_var 6) ca_nil)) (ca_cons (ce_b (o_add K (by rfl)) ce_int (ce_b o_fdiv (ce_callB (k_len K (by rfl)) T.b_len (by decide +kernel) (ca_cons (ce_var 6) ca_nil)) ce_int)) ca_nil)))) (cg_name 7 nd) (css_one (cs_if (ct_look 3 (ct_not (ct_val (ce_f K (by rfl) (ok__law_same T 6) (hr.mono (by decide)) T.g__law_same T.k__law_same T.bd__law_same tk (ca_cons (ce_l (cf_lst (ca_cons (ce_f K (by rfl) (ok_row_of T) (hr.mono (by decide)) T.g_row_of T.k_row_of T.bd_row_of tk (ca_cons (ce_var 3) (ca_cons (ce_var 7) ca_nil))) (ca_cons (ce_f K (by rfl) (ok_number_of T) (hr.mono (by decide)) T.g_number_of T.k_number_of T.bd_number_of tk (ca_cons (ce_var 3) (ca_cons (ce_ix K (by rfl) (ce_var 6) (ce_var 7)) ca_nil))) ca_nil)))) (ca_cons (ce_l (cf_lst (ca_cons (ce_ix K (by rfl) (ce_var 6) (ce_var 7)) (ca_cons (ce_var 7) ca_nil)))) ca_nil)))))) (css_one (cs_ret ce_bl)) css_nil))))))))))))
  (css_one (cs_ret ce_bl))))⟩
end
end My
namespace My
open PySem L2 DV
theorem all_mk {l : PySem.W.OpenLaw} {w : World} {K : PySem.W.Frag} {h : Heap} {mg : Str → Option Value} {fa f0 f1 f2 f3 f4 f5 f6 f7 f8 f9 : Addr} (X : K.In h) (G : h.Ns mainGlobals mg) (hfa : mg "law" = some (.ref fa))
    {od0 an0 od1 an1 od2 an2 od3 an3 od4 an4 od5 an5 od6 an6 od7 an7 od8 an8 od9 an9 : Option Addr} {sl0 sl1 sl2 sl3 sl4 sl5 sl6 sl7 sl8 sl9 : Array (Option Value)} {oc0 kV0 dc0 pm0 cd0 ct0 oc1 kV1 dc1 pm1 cd1 ct1 oc2 kV2 dc2 pm2 cd2 ct2 oc3 kV3 dc3 pm3 cd3 ct3 oc4 kV4 dc4 pm4 cd4 ct4 oc5 kV5 dc5 pm5 cd5 ct5 oc6 kV6 dc6 pm6 cd6 ct6 oc7 kV7 dc7 pm7 cd7 ct7 oc8 kV8 dc8 pm8 cd8 ct8 oc9 kV9 dc9 pm9 cd9 ct9 : Value}
    {tc_MOST_COLUMNS tc_MOST_ROWS tc_MOST_SIZE : Tok}
    (a0 : PySem.W.nsIn K mainGlobals "multiplied" = some (some (.ref f0))) (l0 : K.lookup f0 = some ⟨oc0, od0, .func (PySem.W.fnOf "multiplied" "multiplied" (defArgs s_multiplied) (defBody s_multiplied) (defScope s_multiplied) .none kV0 dc0 pm0 an0 cd0 ct0), sl0⟩) (c0 : PySem.W.codeIn K cd0 "multiplied" = true) (k0 : PySem.W.keepIn K (.ref f0) = true)
    (a1 : PySem.W.nsIn K mainGlobals "look_sizes" = some (some (.ref f1))) (l1 : K.lookup f1 = some ⟨oc1, od1, .func (PySem.W.fnOf "look_sizes" "look_sizes" (defArgs s_look_sizes) (defBody s_look_sizes) (defScope s_look_sizes) .none kV1 dc1 pm1 an1 cd1 ct1), sl1⟩) (c1 : PySem.W.codeIn K cd1 "look_sizes" = true) (k1 : PySem.W.keepIn K (.ref f1) = true)
    (a2 : PySem.W.nsIn K mainGlobals "look_row" = some (some (.ref f2))) (l2 : K.lookup f2 = some ⟨oc2, od2, .func (PySem.W.fnOf "look_row" "look_row" (defArgs s_look_row) (defBody s_look_row) (defScope s_look_row) .none kV2 dc2 pm2 an2 cd2 ct2), sl2⟩) (c2 : PySem.W.codeIn K cd2 "look_row" = true) (k2 : PySem.W.keepIn K (.ref f2) = true)
    (a3 : PySem.W.nsIn K mainGlobals "many_rows" = some (some (.ref f3))) (l3 : K.lookup f3 = some ⟨oc3, od3, .func (PySem.W.fnOf "many_rows" "many_rows" (defArgs s_many_rows) (defBody s_many_rows) (defScope s_many_rows) .none kV3 dc3 pm3 an3 cd3 ct3), sl3⟩) (c3 : PySem.W.codeIn K cd3 "many_rows" = true) (k3 : PySem.W.keepIn K (.ref f3) = true)
    (a4 : PySem.W.nsIn K mainGlobals "number_of" = some (some (.ref f4))) (l4 : K.lookup f4 = some ⟨oc4, od4, .func (PySem.W.fnOf "number_of" "number_of" (defArgs s_number_of) (defBody s_number_of) (defScope s_number_of) .none kV4 dc4 pm4 an4 cd4 ct4), sl4⟩) (c4 : PySem.W.codeIn K cd4 "number_of" = true) (k4 : PySem.W.keepIn K (.ref f4) = true)
    (a5 : PySem.W.nsIn K mainGlobals "row_of" = some (some (.ref f5))) (l5 : K.lookup f5 = some ⟨oc5, od5, .func (PySem.W.fnOf "row_of" "row_of" (defArgs s_row_of) (defBody s_row_of) (defScope s_row_of) .none kV5 dc5 pm5 an5 cd5 ct5), sl5⟩) (c5 : PySem.W.codeIn K cd5 "row_of" = true) (k5 : PySem.W.keepIn K (.ref f5) = true)
    (a6 : PySem.W.nsIn K mainGlobals "_law_draws" = some (some (.ref f6))) (l6 : K.lookup f6 = some ⟨oc6, od6, .func (PySem.W.fnOf "_law_draws" "_law_draws" (defArgs s__law_draws) (defBody s__law_draws) (defScope s__law_draws) .none kV6 dc6 pm6 an6 cd6 ct6), sl6⟩) (c6 : PySem.W.codeIn K cd6 "_law_draws" = true) (k6 : PySem.W.keepIn K (.ref f6) = true)
    (a7 : PySem.W.nsIn K mainGlobals "_law_rows" = some (some (.ref f7))) (l7 : K.lookup f7 = some ⟨oc7, od7, .func (PySem.W.fnOf "_law_rows" "_law_rows" (defArgs s__law_rows) (defBody s__law_rows) (defScope s__law_rows) .none kV7 dc7 pm7 an7 cd7 ct7), sl7⟩) (c7 : PySem.W.codeIn K cd7 "_law_rows" = true) (k7 : PySem.W.keepIn K (.ref f7) = true)
    (a8 : PySem.W.nsIn K mainGlobals "_law_same" = some (some (.ref f8))) (l8 : K.lookup f8 = some ⟨oc8, od8, .func (PySem.W.fnOf "_law_same" "_law_same" (defArgs s__law_same) (defBody s__law_same) (defScope s__law_same) .none kV8 dc8 pm8 an8 cd8 ct8), sl8⟩) (c8 : PySem.W.codeIn K cd8 "_law_same" = true) (k8 : PySem.W.keepIn K (.ref f8) = true)
    (a9 : PySem.W.nsIn K mainGlobals "law" = some (some (.ref f9))) (l9 : K.lookup f9 = some ⟨oc9, od9, .func (PySem.W.fnOf "law" "law" (defArgs s_law) (defBody s_law) (defScope s_law) .none kV9 dc9 pm9 an9 cd9 ct9), sl9⟩) (c9 : PySem.W.codeIn K cd9 "law" = true) (k9 : PySem.W.keepIn K (.ref f9) = true)
    (z_abs : PySem.W.nsIn K mainGlobals "abs" = some none)
    (z_all : PySem.W.nsIn K mainGlobals "all" = some none)
    (z_bool : PySem.W.nsIn K mainGlobals "bool" = some none)
    (z_divmod : PySem.W.nsIn K mainGlobals "divmod" = some none)
    (z_int : PySem.W.nsIn K mainGlobals "int" = some none)
    (z_isinstance : PySem.W.nsIn K mainGlobals "isinstance" = some none)
    (z_len : PySem.W.nsIn K mainGlobals "len" = some none)
    (z_list : PySem.W.nsIn K mainGlobals "list" = some none)
    (z_range : PySem.W.nsIn K mainGlobals "range" = some none)
    (z_str : PySem.W.nsIn K mainGlobals "str" = some none)
    (z_tuple : PySem.W.nsIn K mainGlobals "tuple" = some none)
    (z_zip : PySem.W.nsIn K mainGlobals "zip" = some none)
    (x_MOST_COLUMNS : PySem.W.nsIn K mainGlobals "MOST_COLUMNS" = some (some (.int 6 tc_MOST_COLUMNS)))
    (x_MOST_ROWS : PySem.W.nsIn K mainGlobals "MOST_ROWS" = some (some (.int 300 tc_MOST_ROWS)))
    (x_MOST_SIZE : PySem.W.nsIn K mainGlobals "MOST_SIZE" = some (some (.int 4 tc_MOST_SIZE)))
    : ∃ fd : FuncData, (∀ (s : Shared) (v : Value), BindsTo s fd ⟨[v], []⟩ [("_law_script", v)]) ∧ ∀ base : Heap, K.In base → base.Ns mainGlobals mg → FnOk l.prog w K mg base (L2.CX l.prog w) 8 fa fd ["_law_script"] (spD K 1 F_law) := by
  have e := hfa.symm.trans (PySem.W.mg_of X G a9)
  cases e
  have F0 := fun_mk (st := s_multiplied) l0 c0 k0
  have b0 := F0.binds (ps := ["sizes"]) fun _ _ _ _ _ _ us hl => match us, hl with | [_], _ => rfl
  have F1 := fun_mk (st := s_look_sizes) l1 c1 k1
  have b1 := F1.binds (ps := ["sizes"]) fun _ _ _ _ _ _ us hl => match us, hl with | [_], _ => rfl
  have F2 := fun_mk (st := s_look_row) l2 c2 k2
  have b2 := F2.binds (ps := ["sizes", "row"]) fun _ _ _ _ _ _ us hl => match us, hl with | [_, _], _ => rfl
  have F3 := fun_mk (st := s_many_rows) l3 c3 k3
  have b3 := F3.binds (ps := ["sizes"]) fun _ _ _ _ _ _ us hl => match us, hl with | [_], _ => rfl
  have F4 := fun_mk (st := s_number_of) l4 c4 k4
  have b4 := F4.binds (ps := ["sizes", "row"]) fun _ _ _ _ _ _ us hl => match us, hl with | [_, _], _ => rfl
  have F5 := fun_mk (st := s_row_of) l5 c5 k5
  have b5 := F5.binds (ps := ["sizes", "number"]) fun _ _ _ _ _ _ us hl => match us, hl with | [_, _], _ => rfl
  have F6 := fun_mk (st := s__law_draws) l6 c6 k6
  have b6 := F6.binds (ps := ["_law_cell", "_law_sizes"]) fun _ _ _ _ _ _ us hl => match us, hl with | [_, _], _ => rfl
  have F7 := fun_mk (st := s__law_rows) l7 c7 k7
  have b7 := F7.binds (ps := ["_law_sizes"]) fun _ _ _ _ _ _ us hl => match us, hl with | [_], _ => rfl
  have F8 := fun_mk (st := s__law_same) l8 c8 k8
  have b8 := F8.binds (ps := ["_law_found", "_law_due"]) fun _ _ _ _ _ _ us hl => match us, hl with | [_, _], _ => rfl
  have F9 := fun_mk (st := s_law) l9 c9 k9
  have b9 := F9.binds (ps := ["_law_script"]) fun _ _ _ _ _ _ us hl => match us, hl with | [_], _ => rfl
  have T : Txt K mg ⟨f0, (PySem.W.fnOf "multiplied" "multiplied" (defArgs s_multiplied) (defBody s_multiplied) (defScope s_multiplied) .none kV0 dc0 pm0 an0 cd0 ct0), f1, (PySem.W.fnOf "look_sizes" "look_sizes" (defArgs s_look_sizes) (defBody s_look_sizes) (defScope s_look_sizes) .none kV1 dc1 pm1 an1 cd1 ct1), f2, (PySem.W.fnOf "look_row" "look_row" (defArgs s_look_row) (defBody s_look_row) (defScope s_look_row) .none kV2 dc2 pm2 an2 cd2 ct2), f3, (PySem.W.fnOf "many_rows" "many_rows" (defArgs s_many_rows) (defBody s_many_rows) (defScope s_many_rows) .none kV3 dc3 pm3 an3 cd3 ct3), f4, (PySem.W.fnOf "number_of" "number_of" (defArgs s_number_of) (defBody s_number_of) (defScope s_number_of) .none kV4 dc4 pm4 an4 cd4 ct4), f5, (PySem.W.fnOf "row_of" "row_of" (defArgs s_row_of) (defBody s_row_of) (defScope s_row_of) .none kV5 dc5 pm5 an5 cd5 ct5), f6, (PySem.W.fnOf "_law_draws" "_law_draws" (defArgs s__law_draws) (defBody s__law_draws) (defScope s__law_draws) .none kV6 dc6 pm6 an6 cd6 ct6), f7, (PySem.W.fnOf "_law_rows" "_law_rows" (defArgs s__law_rows) (defBody s__law_rows) (defScope s__law_rows) .none kV7 dc7 pm7 an7 cd7 ct7), f8, (PySem.W.fnOf "_law_same" "_law_same" (defArgs s__law_same) (defBody s__law_same) (defScope s__law_same) .none kV8 dc8 pm8 an8 cd8 ct8), fa, (PySem.W.fnOf "law" "law" (defArgs s_law) (defBody s_law) (defScope s_law) .none kV9 dc9 pm9 an9 cd9 ct9), (V.int 6), (Value.int 6 tc_MOST_COLUMNS), (V.int 300), (Value.int 300 tc_MOST_ROWS), (V.int 4), (Value.int 4 tc_MOST_SIZE)⟩ := ⟨F0, PySem.W.mg_of X G a0, k0, b0, F1, PySem.W.mg_of X G a1, k1, b1, F2, PySem.W.mg_of X G a2, k2, b2, F3, PySem.W.mg_of X G a3, k3, b3, F4, PySem.W.mg_of X G a4, k4, b4, F5, PySem.W.mg_of X G a5, k5, b5, F6, PySem.W.mg_of X G a6, k6, b6, F7, PySem.W.mg_of X G a7, k7, b7, F8, PySem.W.mg_of X G a8, k8, b8, F9, PySem.W.mg_of X G a9, k9, b9, PySem.W.mg_none_of X G z_abs, PySem.W.mg_none_of X G z_all, PySem.W.mg_none_of X G z_bool, PySem.W.mg_none_of X G z_divmod, PySem.W.mg_none_of X G z_int, PySem.W.mg_none_of X G z_isinstance, PySem.W.mg_none_of X G z_len, PySem.W.mg_none_of X G z_list, PySem.W.mg_none_of X G z_range, PySem.W.mg_none_of X G z_str, PySem.W.mg_none_of X G z_tuple, PySem.W.mg_none_of X G z_zip, PySem.W.mg_of X G x_MOST_COLUMNS, ⟨_, rfl⟩, fun _ => .v _, PySem.W.mg_of X G x_MOST_ROWS, ⟨_, rfl⟩, fun _ => .v _, PySem.W.mg_of X G x_MOST_SIZE, ⟨_, rfl⟩, fun _ => .v _⟩
  exact ⟨_, fun s v => .of_eq rfl, fun base _ _ => ok_law T⟩
theorem walk {l : PySem.W.OpenLaw} {q : Program} {loose : List Str} {XP : (Str → Option Value) → Heap → Prop} {YP : World → Heap → Prop} {d : DefRec} {K : Params → PySem.W.Frag} (hn : l.most = some 63) (hdf : d.params.defaults = [])
    (hY : ∀ (w : World) (h : Heap), YP w h → (K w.params).In h)
    (F : ∀ (w : World) (mg : Str → Option Value) (fa : Addr) (h : Heap), (K w.params).In h → h.Ns mainGlobals mg → mg d.name = some (.ref fa) →
      ∃ fd : FuncData, (∀ (s : Shared) (u : Value), BindsTo s fd ⟨[u], []⟩ [("_law_script", u)]) ∧ ∀ base : Heap, (K w.params).In base → base.Ns mainGlobals mg → FnOk l.prog w (K w.params) mg base (L2.CX l.prog w) 8 fa fd ["_law_script"] (spD (K w.params) 1 F_law)) :
    PySem.W.WalkO q loose XP YP l.row.toRowW d [] (fun f vs => PySem.call f vs) :=
  L2.walk_of (n := 63) (k := 8) (x := "_law_script") (CX := fun w => L2.CX l.prog w) (sp := fun w => spD (K w.params) 1 F_law) hn (by decide) hdf ⟨rfl, by decide, by decide⟩ hY F (fun _ _ a ns hl _ hS => spD_law hS (law_true ns hl)) fun _ H s e s1 z => cx_false H s e s1 z
end My
open PySem PySem.W PyProof.Rows in
theorem PySem.Challenge.cw_tallyloom_k04_rows_numbered_holds : PySem.Challenge.rw_tallyloom_k04_rows_numbered.Holds := by
  w_on; o_law; k_head; (case hw => w_witness2)
  k_fill
  refine My.walk (l := PySem.Challenge.rw_tallyloom_k04_rows_numbered) rfl rfl (fun w h Y => PySem.W.kIn_of Y) ?F
  case F =>
    intro w mg fa h KX G hmg
    refine' My.all_mk KX G hmg ?a0 ?l0 ?c0 ?k0 ?a1 ?l1 ?c1 ?k1 ?a2 ?l2 ?c2 ?k2 ?a3 ?l3 ?c3 ?k3 ?a4 ?l4 ?c4 ?k4 ?a5 ?l5 ?c5 ?k5 ?a6 ?l6 ?c6 ?k6 ?a7 ?l7 ?c7 ?k7 ?a8 ?l8 ?c8 ?k8 ?a9 ?l9 ?c9 ?k9 ?z_abs ?z_all ?z_bool ?z_divmod ?z_int ?z_isinstance ?z_len ?z_list ?z_range ?z_str ?z_tuple ?z_zip ?x_MOST_COLUMNS ?x_MOST_ROWS ?x_MOST_SIZE
    (case a0 => k_is)
    (case l0 => k_is)
    (case c0 => k_is)
    (case k0 => k_is)
    (case a1 => k_is)
    (case l1 => k_is)
    (case c1 => k_is)
    (case k1 => k_is)
    (case a2 => k_is)
    (case l2 => k_is)
    (case c2 => k_is)
    (case k2 => k_is)
    (case a3 => k_is)
    (case l3 => k_is)
    (case c3 => k_is)
    (case k3 => k_is)
    (case a4 => k_is)
    (case l4 => k_is)
    (case c4 => k_is)
    (case k4 => k_is)
    (case a5 => k_is)
    (case l5 => k_is)
    (case c5 => k_is)
    (case k5 => k_is)
    (case a6 => k_is)
    (case l6 => k_is)
    (case c6 => k_is)
    (case k6 => k_is)
    (case a7 => k_is)
    (case l7 => k_is)
    (case c7 => k_is)
    (case k7 => k_is)
    (case a8 => k_is)
    (case l8 => k_is)
    (case c8 => k_is)
    (case k8 => k_is)
    (case a9 => k_is)
    (case l9 => k_is)
    (case c9 => k_is)
    (case k9 => k_is)
    (case z_abs => k_is)
    (case z_all => k_is)
    (case z_bool => k_is)
    (case z_divmod => k_is)
    (case z_int => k_is)
    (case z_isinstance => k_is)
    (case z_len => k_is)
    (case z_list => k_is)
    (case z_range => k_is)
    (case z_str => k_is)
    (case z_tuple => k_is)
    (case z_zip => k_is)
    (case x_MOST_COLUMNS => k_is)
    (case x_MOST_ROWS => k_is)
    (case x_MOST_SIZE => k_is)
