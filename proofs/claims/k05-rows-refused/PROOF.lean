import PyProof.Rows.All
import Wide.All
import OpenK.AllK
import Wide.FinOn
import HandS.ForMost
import HandS.ForExc
import HandS.Wide
import HandS.IsInst
import HandS.Lambda
import HandS.EndTab
import HandS.TupAny
import HandS.Style
import HandS.TupMul
import HandS.WideBits
import HandS.Flow
import HandS.Walk
import HandS.SortInts
import HandS.Conv
import HandS.Zip
import HandS.CallSlots
import HandS.Defaults
import HandS.Ends
import KE.KExcInit
import HandS.ExcInit
import HandS.ExcField
import HandS.ExcIs
import HandS.TryMany
import PySem.Challenge.RW_tallyloom_k05_rows_refused
set_option Elab.async false
set_option linter.all false
set_option autoImplicit false
set_option maxRecDepth 100000
set_option maxHeartbeats 4000000
/-! DV: data without a heap over the hand layer; each construct compiles to a plain function over data states. -/
namespace DV
open PySem L2

inductive D where
  | v (x : V)
  | lst (xs : List D)
  | tup (xs : List D)
  | dct (ks vs : List D)
  | ins (c : Str) (ns : List Str) (vs : List D)
instance : Inhabited D := ⟨.v .non⟩
abbrev D.int (i : Int) : D := .v (.int i)
abbrev D.bl (b : Bool) : D := .v (.bl b)
abbrev D.str (s : Str) : D := .v (.str s)
abbrev D.non : D := .v .non

/-- an exception: its class, its fields -/
structure Exn where
  cls : Str
  fs : List (Str × D)

inductive Res (α : Type) where
  | ok (a : α)
  | er (x : Exn)
  | no
def Res.bind {α β : Type} : Res α → (α → Res β) → Res β
  | .ok a, f => f a
  | .er x, _ => .er x
  | .no, _ => .no
@[simp] theorem Res.bind_ok {α β : Type} (a : α) (f : α → Res β) : (Res.ok a).bind f = f a := rfl
@[simp] theorem Res.bind_er {α β : Type} (x : Exn) (f : α → Res β) : (Res.er x : Res α).bind f = .er x := rfl
@[simp] theorem Res.bind_no {α β : Type} (f : α → Res β) : (Res.no : Res α).bind f = .no := rfl

mutual
inductive Rp (K : PySem.W.Frag) (B : Hp) : V → D → Prop
  | v (x : V) : Rp K B x (.v x)
  | lst {a : Addr} {xs : List V} {ds : List D} : SqL K B a xs → RpA K B xs ds → Rp K B (.ref a) (.lst ds)
  | tup {a : Addr} {xs : List V} {ds : List D} : SqT K B a xs → RpA K B xs ds → Rp K B (.ref a) (.tup ds)
inductive RpA (K : PySem.W.Frag) (B : Hp) : List V → List D → Prop
  | nil : RpA K B [] []
  | cons {v : V} {vs : List V} {d : D} {ds : List D} : Rp K B v d → RpA K B vs ds → RpA K B (v :: vs) (d :: ds)
end

theorem sqT_mono {K : PySem.W.Frag} {H H' : Hp} {a : Addr} {xs : List V} (e : Same H H') (h : SqT K H a xs) : SqT K H' a xs := by
  rcases h with (h | ⟨o, h⟩) | h
  · exact .inl (.inl (e _ _ h))
  · exact .inl (.inr ⟨o, e _ _ h⟩)
  · exact .inr h

section
variable {K : PySem.W.Frag} {B B' H H' : Hp}
mutual
theorem Rp.mono (e : Same B B') : ∀ {v : V} {d : D}, Rp K B v d → Rp K B' v d
  | _, _, .v x => .v x
  | _, _, .lst h r => .lst (e.seq h) (RpA.mono e r)
  | _, _, .tup h r => .tup (sqT_mono e h) (RpA.mono e r)
theorem RpA.mono (e : Same B B') : ∀ {vs : List V} {ds : List D}, RpA K B vs ds → RpA K B' vs ds
  | _, _, .nil => .nil
  | _, _, .cons h r => .cons (Rp.mono e h) (RpA.mono e r)
end
theorem RpA.length : ∀ {vs : List V} {ds : List D}, RpA K B vs ds → vs.length = ds.length
  | _, _, .nil => rfl
  | _, _, .cons _ r => by simp [RpA.length r]
theorem RpA.append : ∀ {vs us : List V} {ds es : List D}, RpA K B vs ds → RpA K B us es → RpA K B (vs ++ us) (ds ++ es)
  | _, _, _, _, .nil, s => s
  | _, _, _, _, .cons h r, s => .cons h (RpA.append r s)
theorem RpA.get : ∀ {vs : List V} {ds : List D} {i : Nat} {d : D}, RpA K B vs ds → ds[i]? = some d → ∃ v, vs[i]? = some v ∧ Rp K B v d
  | _, _, _, _, .nil, e => by simp at e
  | _, _, 0, _, .cons h _, e => by simp at e; subst e; exact ⟨_, rfl, h⟩
  | _, _, i + 1, _, .cons _ r, e => by
    obtain ⟨v, h1, h2⟩ := RpA.get (i := i) r (by simpa using e)
    exact ⟨v, by simpa using h1, h2⟩
theorem RpA.get' : ∀ {vs : List V} {ds : List D} {i : Nat} {v : V}, RpA K B vs ds → vs[i]? = some v → ∃ d, ds[i]? = some d ∧ Rp K B v d
  | _, _, _, _, .nil, e => by simp at e
  | _, _, 0, _, .cons h _, e => by simp at e; subst e; exact ⟨_, rfl, h⟩
  | _, _, i + 1, _, .cons _ r, e => by
    obtain ⟨v, h1, h2⟩ := RpA.get' (i := i) r (by simpa using e)
    exact ⟨v, by simpa using h1, h2⟩
theorem RpA.drop : ∀ {vs : List V} {ds : List D} (n : Nat), RpA K B vs ds → RpA K B (vs.drop n) (ds.drop n)
  | _, _, 0, r => by simpa using r
  | _, _, _ + 1, .nil => by simpa using RpA.nil
  | _, _, n + 1, .cons _ r => by simpa using RpA.drop n r
theorem RpA.take : ∀ {vs : List V} {ds : List D} (n : Nat), RpA K B vs ds → RpA K B (vs.take n) (ds.take n)
  | _, _, 0, _ => by simpa using RpA.nil
  | _, _, _ + 1, .nil => by simpa using RpA.nil
  | _, _, n + 1, .cons h r => by simpa using RpA.cons h (RpA.take n r)
theorem RpA.reverse : ∀ {vs : List V} {ds : List D}, RpA K B vs ds → RpA K B vs.reverse ds.reverse
  | _, _, .nil => .nil
  | _, _, .cons h r => by
    rw [List.reverse_cons, List.reverse_cons]
    exact (RpA.reverse r).append (.cons h .nil)
theorem RpA.set : ∀ {vs : List V} {ds : List D} {v : V} {d : D} (i : Nat), RpA K B vs ds → Rp K B v d → RpA K B (vs.set i v) (ds.set i d)
  | _, _, _, _, _, .nil, _ => .nil
  | _, _, _, _, 0, .cons _ r, q => .cons q r
  | _, _, _, _, i + 1, .cons h r, q => .cons h (RpA.set i r q)
theorem RpA.map {α : Type} (f : α → V) (g : α → D) : ∀ {l : List α}, (∀ a ∈ l, Rp K B (f a) (g a)) → RpA K B (l.map f) (l.map g)
  | [], _ => .nil
  | a :: l, h => .cons (h a (by simp)) (RpA.map f g fun b hb => h b (by simp [hb]))
theorem RpA.ints (ns : List Int) : RpA K B (ns.map V.int) (ns.map D.int) := RpA.map _ _ fun a _ => .v _
/-- ints are ints -/
theorem RpA.ints_of : ∀ {ns : List Int} {vs : List V}, RpA K B vs (ns.map D.int) → vs = ns.map V.int
  | [], _, .nil => rfl
  | n :: ns, _, .cons h r => by
    cases h
    rw [RpA.ints_of r]
    rfl
theorem RpA.bls_of : ∀ {bs : List Bool} {vs : List V}, RpA K B vs (bs.map D.bl) → vs = bs.map V.bl
  | [], _, .nil => rfl
  | n :: ns, _, .cons h r => by
    cases h
    rw [RpA.bls_of r]
    rfl

/-- the name of the lambdas in the law's def -/
def lamQ : Str := "law.<locals>.<lambda>"
/-- the table of code objects of the law's def -/
def tabsOf (K : PySem.W.Frag) : List Addr := match PySem.W.tabIn K "law" with
  | some p => [p.2]
  | none => []
def NoT (B : Hp) : Prop := ∀ a ps, B a ≠ some (.tbl ps)
/-- the frozen heap B and the heap H grow -/
structure Grow (B H B' H' : Hp) : Prop where
  b : Same B B'
  h : LamX.ExtN H H'
  i : Same B' H'
  f : ∀ a, H a ≠ none → B' a = B a
  e : ∀ a, H a ≠ none → H' a ≠ none
  t : ∀ P, LamX.TabS H P lamQ → LamX.TabS H' P lamQ
  n : NoT B → NoT B'
theorem Grow.refl (i : Same B H) : Grow B H B H := ⟨Same.refl _, LamX.ExtN.refl _, i, fun _ _ => rfl, fun _ h => h, fun _ h => h, fun h => h⟩
theorem Grow.trans {B1 H1 B2 H2 : Hp} (g : Grow B H B1 H1) (k : Grow B1 H1 B2 H2) : Grow B H B2 H2 :=
  ⟨g.b.trans k.b, g.h.trans k.h, k.i, fun a ha => by rw [k.f a (g.e a ha), g.f a ha], fun a ha => k.e a (g.e a ha), fun P h => k.t P (g.t P h), fun h => k.n (g.n h)⟩
theorem Grow.free (g : Grow B H B' H') {p : Addr} (h : H' p = none) : H p = none := by
  cases q : H p with
  | none => rfl
  | some o => exact absurd h (g.e p (by rw [q]; simp))
theorem same_e (s : Same H H') : ∀ a, H a ≠ none → H' a ≠ none := fun a ha => by
  cases q : H a with
  | none => exact absurd q ha
  | some o => rw [s a o q]; simp
theorem Grow.of (b : Same B B') (s : Same H H') (i : Same B' H') (f : ∀ a, H a ≠ none → B' a = B a) (n : NoT B → NoT B') : Grow B H B' H' := ⟨b, LamX.ExtN.of s, i, f, same_e s, fun P h => h.ext s, n⟩
theorem same_new {H : Hp} {p : Addr} {o : HO} (h : H p = none) : Same H (upd H p o) := fun a u e => by
  rw [upd_ne (ne_of_none e h)]
  exact e
theorem NoT.upd {p : Addr} {o : HO} (h : NoT B) (ho : ∀ ps, o ≠ .tbl ps) : NoT (upd B p o) := fun a ps => by
  by_cases ha : a = p
  · subst ha; rw [upd_same]; exact fun z => ho ps (Option.some.inj z)
  · rw [upd_ne ha]; exact h a ps
theorem Grow.new {p : Addr} {o : HO} (i : Same B H) (hp : H p = none) (ho : ∀ ps, o ≠ .tbl ps := by intro _ z; cases z) : Grow B H (upd B p o) (upd H p o) :=
  Grow.of (same_new (i.free hp)) (same_new hp) (fun a u e => by
    by_cases ha : a = p
    · subst ha; rw [upd_same] at e; cases e; exact upd_same
    · rw [upd_ne ha] at e; rw [upd_ne ha]; exact i a u e) (fun a ha => by
    have hap : a ≠ p := fun q => ha (by rw [q]; exact hp)
    rw [upd_ne hap]) (fun h => h.upd ho)
/-- a new object that is not frozen -/
theorem Grow.raw {p : Addr} {o : HO} (i : Same B H) (hp : H p = none) : Grow B H B (upd H p o) :=
  Grow.of (Same.refl _) (same_new hp) (i.trans (same_new hp)) (fun _ _ => rfl) (fun h => h)
theorem tab_upd {p P : Addr} {q : Str} {us vs : List V} (h : LamX.TabS H P q) (hp : H p = some (.lst us)) : LamX.TabS (upd H p (.lst vs)) P q := by
  obtain ⟨ps, h1, h2, h3⟩ := h
  have n1 : P ≠ p := fun z => by rw [z, hp] at h1; cases h1
  refine ⟨ps, by rw [upd_ne n1]; exact h1, h2, fun pos cv hc => ?_⟩
  obtain ⟨c, e1, e2⟩ := h3 pos cv hc
  have n2 : c ≠ p := fun z => by rw [z, hp] at e2; cases e2
  exact ⟨c, e1, by rw [upd_ne n2]; exact e2⟩
end

/-- what a slot holds: data that stays; a list that is the def's own -/
inductive O where
  | im (d : D)
  | ow (ds : List D)
abbrev DS := List (Option O)

def SR (K : PySem.W.Frag) (H0 B H : Hp) (v : V) : O → Prop
  | .im d => Rp K B v d
  | .ow ds => ∃ p vs, v = .ref p ∧ H0 p = none ∧ B p = none ∧ H p = some (.lst vs) ∧ RpA K B vs ds

structure Rel (K : PySem.W.Frag) (B0 H0 B H : Hp) (σ : L2.St) (δ : DS) : Prop where
  g : Grow B0 H0 B H
  tk : ∀ p ∈ tabsOf K, LamX.TabS H0 p lamQ
  nt : NoT B0
  len : σ.length = δ.length
  sl : ∀ (i : Nat) (o : O), δ[i]? = some (some o) → ∃ v, σ[i]? = some (some v) ∧ SR K H0 B H v o
  own : ∀ (i j : Nat) (ds es : List D) (v : V), i ≠ j → δ[i]? = some (some (.ow ds)) → δ[j]? = some (some (.ow es)) → σ[i]? = some (some v) → σ[j]? ≠ some (some v)

section
variable {K : PySem.W.Frag} {B0 H0 B H B' H' : Hp} {σ : L2.St} {δ : DS}
theorem SR.mono {v : V} {o : O} (g : Grow B H B' H') (h : SR K H0 B H v o) : SR K H0 B' H' v o := by
  cases o with
  | im d => exact Rp.mono g.b h
  | ow ds =>
    obtain ⟨p, vs, rfl, h0, hb, hh, r⟩ := h
    exact ⟨p, vs, rfl, h0, by rw [g.f p (by rw [hh]; simp)]; exact hb, g.h _ _ hh (fun _ z => by cases z), RpA.mono g.b r⟩
theorem Rel.mono (r : Rel K B0 H0 B H σ δ) (g : Grow B H B' H') : Rel K B0 H0 B' H' σ δ :=
  ⟨r.g.trans g, r.tk, r.nt, r.len, fun i o e => by
    obtain ⟨v, h1, h2⟩ := r.sl i o e
    exact ⟨v, h1, h2.mono g⟩, r.own⟩
theorem Rel.get {i : Nat} {d : D} (r : Rel K B0 H0 B H σ δ) (e : δ[i]? = some (some (.im d))) : ∃ v, σ[i]? = some (some v) ∧ Rp K B v d := r.sl i _ e
/-- a slot takes data -/
theorem Rel.set {v : V} {d : D} (r : Rel K B0 H0 B H σ δ) (i : Nat) (h : Rp K B v d) : Rel K B0 H0 B H (σ.set i (some v)) (δ.set i (some (.im d))) := by
  refine ⟨r.g, r.tk, r.nt, by simp [r.len], fun j o e => ?_, fun j k ds es w hjk e1 e2 e3 => ?_⟩
  · by_cases hj : i = j
    · subst hj
      have hl : i < δ.length := by
        by_cases hl : i < δ.length
        · exact hl
        · rw [List.getElem?_eq_none (by simpa using hl)] at e; cases e
      rw [List.getElem?_set_self hl] at e
      cases e
      exact ⟨v, by rw [List.getElem?_set_self (by rw [r.len]; exact hl)], h⟩
    · rw [List.getElem?_set_ne hj] at e
      rw [List.getElem?_set_ne hj]
      exact r.sl j o e
  · have ne : ∀ {m : Nat} {fs : List D}, (δ.set i (some (.im d)))[m]? = some (some (.ow fs)) → i ≠ m ∧ δ[m]? = some (some (.ow fs)) := fun {m fs} q => by
      by_cases hm : i = m
      · subst hm
        by_cases hl : i < δ.length
        · rw [List.getElem?_set_self hl] at q; cases q
        · rw [List.getElem?_eq_none (by simpa using hl)] at q; cases q
      · rw [List.getElem?_set_ne hm] at q
        exact ⟨hm, q⟩
    obtain ⟨n1, q1⟩ := ne e1
    obtain ⟨n2, q2⟩ := ne e2
    rw [List.getElem?_set_ne n1] at e3
    rw [List.getElem?_set_ne n2]
    exact r.own j k ds es w hjk q1 q2 e3
/-- a slot is forgotten -/
theorem Rel.drop {v : Option V} (r : Rel K B0 H0 B H σ δ) (i : Nat) : Rel K B0 H0 B H (σ.set i v) (δ.set i none) := by
  have ne : ∀ {m : Nat} {o : O}, (δ.set i none)[m]? = some (some o) → i ≠ m ∧ δ[m]? = some (some o) := fun {m o} q => by
    by_cases hm : i = m
    · subst hm
      by_cases hl : i < δ.length
      · rw [List.getElem?_set_self hl] at q; cases q
      · rw [List.getElem?_eq_none (by simpa using hl)] at q; cases q
    · rw [List.getElem?_set_ne hm] at q
      exact ⟨hm, q⟩
  refine ⟨r.g, r.tk, r.nt, by simp [r.len], fun j o e => ?_, fun j k ds es w hjk e1 e2 e3 => ?_⟩
  · obtain ⟨n, q⟩ := ne e
    rw [List.getElem?_set_ne n]
    exact r.sl j o q
  · obtain ⟨n1, q1⟩ := ne e1
    obtain ⟨n2, q2⟩ := ne e2
    rw [List.getElem?_set_ne n1] at e3
    rw [List.getElem?_set_ne n2]
    exact r.own j k ds es w hjk q1 q2 e3
/-- a slot takes a new list of the def's own -/
theorem Rel.setOw {p : Addr} {vs : List V} {ds : List D} (r : Rel K B0 H0 B H σ δ) (i : Nat) (h0 : H0 p = none) (hb : B p = none) (hh : H p = some (.lst vs)) (q : RpA K B vs ds) (fr : ∀ (j : Nat) (es : List D), δ[j]? = some (some (.ow es)) → σ[j]? ≠ some (some (.ref p))) :
    Rel K B0 H0 B H (σ.set i (some (.ref p))) (δ.set i (some (.ow ds))) := by
  refine ⟨r.g, r.tk, r.nt, by simp [r.len], fun j o e => ?_, fun j k es fs w hjk e1 e2 e3 => ?_⟩
  · by_cases hj : i = j
    · subst hj
      have hl : i < δ.length := by
        by_cases hl : i < δ.length
        · exact hl
        · rw [List.getElem?_eq_none (by simpa using hl)] at e; cases e
      rw [List.getElem?_set_self hl] at e
      cases e
      exact ⟨_, by rw [List.getElem?_set_self (by rw [r.len]; exact hl)], p, vs, rfl, h0, hb, hh, q⟩
    · rw [List.getElem?_set_ne hj] at e
      rw [List.getElem?_set_ne hj]
      exact r.sl j o e
  · by_cases hj : i = j
    · subst hj
      have hl : i < δ.length := by
        by_cases hl : i < δ.length
        · exact hl
        · rw [List.getElem?_eq_none (by simpa using hl)] at e1; cases e1
      rw [List.getElem?_set_self (by rw [r.len]; exact hl)] at e3
      cases e3
      rw [List.getElem?_set_ne hjk] at e2
      rw [List.getElem?_set_ne hjk]
      exact fr k fs e2
    · rw [List.getElem?_set_ne hj] at e1 e3
      by_cases hk : i = k
      · subst hk
        have hl : i < δ.length := by
          by_cases hl : i < δ.length
          · exact hl
          · rw [List.getElem?_eq_none (by simpa using hl)] at e2; cases e2
        rw [List.getElem?_set_self (by rw [r.len]; exact hl)]
        intro z
        cases z
        exact fr j es e1 e3
      · rw [List.getElem?_set_ne hk] at e2
        rw [List.getElem?_set_ne hk]
        exact r.own j k es fs w hjk e1 e2 e3
/-- the own list at slot i is written -/
theorem Rel.write {p : Addr} {us vs : List V} {ds es : List D} {i : Nat} (r : Rel K B0 H0 B H σ δ) (e : δ[i]? = some (some (.ow ds))) (es_ : σ[i]? = some (some (.ref p))) (q : RpA K B vs es) :
    Rel K B0 H0 B (upd H p (.lst vs)) σ (δ.set i (some (.ow es))) := by
  obtain ⟨v, h1, p', us', rfl, h0, hb, hh, _⟩ := r.sl i _ e
  rw [es_] at h1
  cases h1
  have hl : i < δ.length := by
    by_cases hl : i < δ.length
    · exact hl
    · rw [List.getElem?_eq_none (by simpa using hl)] at e; cases e
  have nb : ∀ a o, B a = some o → a ≠ p := fun a o q z => by rw [z, hb] at q; cases q
  refine ⟨⟨r.g.b, fun a o q nq => ?_, fun a o q => ?_, r.g.f, fun a ha => ?_, fun P hP => tab_upd (r.g.t P hP) hh, r.g.n⟩, r.tk, r.nt, by simp [r.len], fun j o q2 => ?_, fun j k es' fs w hjk e1 e2 e3 => ?_⟩
  · have : a ≠ p := fun z => by rw [z, h0] at q; cases q
    rw [upd_ne this]
    exact r.g.h a o q nq
  · rw [upd_ne (nb a o q)]
    exact r.g.i a o q
  · have : a ≠ p := fun z => ha (by rw [z]; exact h0)
    rw [upd_ne this]
    exact r.g.e a ha
  · by_cases hj : i = j
    · subst hj
      rw [List.getElem?_set_self hl] at q2
      cases q2
      exact ⟨_, es_, p, vs, rfl, h0, hb, upd_same, q⟩
    · rw [List.getElem?_set_ne hj] at q2
      obtain ⟨v, h1, h2⟩ := r.sl j o q2
      refine ⟨v, h1, ?_⟩
      cases o with
      | im d => exact h2
      | ow fs =>
        obtain ⟨p2, vs2, rfl, a0, ab, ah, ar⟩ := h2
        have hp : p2 ≠ p := fun z => by
          subst z
          exact r.own i j ds fs _ hj e q2 es_ h1
        exact ⟨p2, vs2, rfl, a0, ab, by rw [upd_ne hp]; exact ah, ar⟩
  · have get : ∀ {m : Nat} {fs : List D}, (δ.set i (some (.ow es)))[m]? = some (some (.ow fs)) → ∃ gs, δ[m]? = some (some (.ow gs)) := fun {m fs} q => by
      by_cases hm : i = m
      · subst hm; exact ⟨_, e⟩
      · rw [List.getElem?_set_ne hm] at q; exact ⟨_, q⟩
    obtain ⟨g1, q1⟩ := get e1
    obtain ⟨g2, q2⟩ := get e2
    exact r.own j k g1 g2 w hjk q1 q2 e3
/-- the own list at slot i is let be: from now on it is data -/
theorem Rel.freeze {ds : List D} {i : Nat} (r : Rel K B0 H0 B H σ δ) (e : δ[i]? = some (some (.ow ds))) : ∃ B', Same B B' ∧ Rel K B0 H0 B' H σ (δ.set i (some (.im (.lst ds)))) := by
  obtain ⟨v, h1, p, vs, rfl, h0, hb, hh, q⟩ := r.sl i _ e
  have hl : i < δ.length := by
    by_cases hl : i < δ.length
    · exact hl
    · rw [List.getElem?_eq_none (by simpa using hl)] at e; cases e
  have sb : Same B (upd B p (.lst vs)) := same_new hb
  refine ⟨upd B p (.lst vs), sb, ⟨r.g.b.trans sb, r.g.h, fun a o q => ?_, fun a ha => ?_, r.g.e, r.g.t, fun h => (r.g.n h).upd (fun _ z => by cases z)⟩, r.tk, r.nt, by simp [r.len], fun j o q2 => ?_, fun j k es' fs w hjk e1 e2 e3 => ?_⟩
  · by_cases hap : a = p
    · subst hap; rw [upd_same] at q; cases q; exact hh
    · rw [upd_ne hap] at q; exact r.g.i a o q
  · have : a ≠ p := fun z => ha (by rw [z]; exact h0)
    rw [upd_ne this]
    exact r.g.f a ha
  · by_cases hj : i = j
    · subst hj
      rw [List.getElem?_set_self hl] at q2
      cases q2
      exact ⟨_, h1, .lst (SqL.of upd_same) (RpA.mono sb q)⟩
    · rw [List.getElem?_set_ne hj] at q2
      obtain ⟨v, h3, h2⟩ := r.sl j o q2
      refine ⟨v, h3, ?_⟩
      cases o with
      | im d => exact Rp.mono sb h2
      | ow fs =>
        obtain ⟨p2, vs2, rfl, a0, ab, ah, ar⟩ := h2
        have hp : p2 ≠ p := fun z => by
          subst z
          exact r.own i j ds fs _ hj e q2 h1 h3
        exact ⟨p2, vs2, rfl, a0, by rw [upd_ne hp]; exact ab, ah, RpA.mono sb ar⟩
  · have get : ∀ {m : Nat} {fs : List D}, (δ.set i (some (.im (.lst ds))))[m]? = some (some (.ow fs)) → δ[m]? = some (some (.ow fs)) := fun {m fs} q => by
      by_cases hm : i = m
      · subst hm; rw [List.getElem?_set_self hl] at q; cases q
      · rw [List.getElem?_set_ne hm] at q; exact q
    exact r.own j k es' fs w hjk (get e1) (get e2) e3
end

/-- the class that a name tells at the module top -/
def clsV (K : PySem.W.Frag) (n : Str) : Option Value := (PySem.W.nsIn K mainGlobals n).join
/-- an exception's value c with its own dict dx is x -/
def RpX (K : PySem.W.Frag) (B : Hp) (c : Value) (dx : Option Addr) (x : Exn) : Prop :=
  clsV K x.cls = some c ∧ ∃ d us, dx = some d ∧ B d = some (.xd us) ∧ us.map (·.1) = x.fs.map (·.1) ∧ RpA K B (us.map (·.2)) (x.fs.map (·.2))

/-! ### soundness of a reading by a function -/
section
variable (K : PySem.W.Frag)
def PostE (B H : Hp) (σ : L2.St) (W : WX) (Q : VK) : Res D → Prop
  | .ok d => ∀ v B' H', Grow B H B' H' → Rp K B' v d → Q v H'
  | .er x => ∀ c dx B' H', Grow B H B' H' → RpX K B' c dx x → W c dx σ H'
  | .no => False
def PostT (B H : Hp) (σ : L2.St) (W : WX) (Q : Bool → Hp → Prop) : Res Bool → Prop
  | .ok b => ∀ B' H', Grow B H B' H' → Q b H'
  | .er x => ∀ c dx B' H', Grow B H B' H' → RpX K B' c dx x → W c dx σ H'
  | .no => False
def PostA (B H : Hp) (σ : L2.St) (W : WX) (Q : List V → Hp → Prop) : Res (List D) → Prop
  | .ok ds => ∀ vs B' H', Grow B H B' H' → RpA K B' vs ds → Q vs H'
  | .er x => ∀ c dx B' H', Grow B H B' H' → RpX K B' c dx x → W c dx σ H'
  | .no => False
/-- a new list -/
def PostF (B H : Hp) (σ : L2.St) (W : WX) (Q : VK) : Res (List D) → Prop
  | .ok ds => ∀ p vs B' H', Grow B H B' H' → H p = none → B' p = none → H' p = some (.lst vs) → RpA K B' vs ds → Q (.ref p) H'
  | .er x => ∀ c dx B' H', Grow B H B' H' → RpX K B' c dx x → W c dx σ H'
  | .no => False
def SE (W : WX) (t : TE) (f : DS → Res D) : Prop := ∀ B0 H0 δ σ B H (Q : VK), Rel K B0 H0 B H σ δ → PostE K B H σ W Q (f δ) → t σ H Q
def ST (W : WX) (t : TT) (f : DS → Res Bool) : Prop := ∀ B0 H0 δ σ B H (Q : Bool → Hp → Prop), Rel K B0 H0 B H σ δ → PostT K B H σ W Q (f δ) → t σ H Q
def SA (W : WX) (t : TA) (f : DS → Res (List D)) : Prop := ∀ B0 H0 δ σ B H (Q : List V → Hp → Prop), Rel K B0 H0 B H σ δ → PostA K B H σ W Q (f δ) → t σ H Q
def SF (W : WX) (t : TE) (f : DS → Res (List D)) : Prop := ∀ B0 H0 δ σ B H (Q : VK), Rel K B0 H0 B H σ δ → PostF K B H σ W Q (f δ) → t σ H Q
end

/-- what is behind a statement -/
inductive Fl where
  | nx (δ : DS)
  | rt (d : D)
  | bk (δ : DS)
  | ct (δ : DS)
  | rs (x : Exn) (δ : DS)
  | no
def PostS (K : PySem.W.Frag) (B0 H0 B : Hp) (W : WX) (E : Ends) : Fl → Prop
  | .nx δ => ∀ σ B' H', Same B B' → Rel K B0 H0 B' H' σ δ → E.nx σ H'
  | .bk δ => ∀ σ B' H', Same B B' → Rel K B0 H0 B' H' σ δ → E.bk σ H'
  | .ct δ => ∀ σ B' H', Same B B' → Rel K B0 H0 B' H' σ δ → E.ct σ H'
  | .rt d => ∀ v B' H', Same B B' → Grow B0 H0 B' H' → Rp K B' v d → E.rt v H'
  | .rs x δ => ∀ c dx σ B' H', Same B B' → Rel K B0 H0 B' H' σ δ → RpX K B' c dx x → W c dx σ H'
  | .no => False
def SS (K : PySem.W.Frag) (W : WX) (t : TS) (g : DS → Fl) : Prop := ∀ B0 H0 δ σ B H (E : Ends), Rel K B0 H0 B H σ δ → PostS K B0 H0 B W E (g δ) → t E σ H

/-! ### the compiled judgements -/
structure CE (X : Cx) (W : WX) (e : Expr) (t : TE) (f : DS → Res D) : Prop where
  pe : PE X e t
  se : SE X.K W t f
structure CF (X : Cx) (W : WX) (e : Expr) (t : TE) (f : DS → Res (List D)) : Prop where
  pe : PE X e t
  sf : SF X.K W t f
structure CT (X : Cx) (W : WX) (e : Expr) (t : TT) (f : DS → Res Bool) : Prop where
  pt : PT X e t
  st : ST X.K W t f
structure CW (X : Cx) (W : WX) (e : Expr) (t : TT) (f : DS → Res Bool) : Prop where
  pw : PW X e t
  st : ST X.K W t f
structure CA (X : Cx) (W : WX) (es : List Expr) (t : TA) (f : DS → Res (List D)) : Prop where
  pa : PA X es t
  sa : SA X.K W t f
structure CS (X : Cx) (W : WX) (s : Stmt) (t : TS) (g : DS → Fl) : Prop where
  ps : PS X s t
  ss : SS X.K W t g
structure CSs (X : Cx) (W : WX) (s : List Stmt) (t : TS) (g : DS → Fl) : Prop where
  ps : PSs X s t
  ss : SS X.K W t g
theorem CW.ct {X : Cx} {W : WX} {e : Expr} {t : TT} {f : DS → Res Bool} (h : CW X W e t f) : CT X W e t f := ⟨h.pw.pt, h.st⟩
end DV
namespace DV
open PySem L2

section
variable {X : Cx} {W : WX} {K : PySem.W.Frag} {B H B0 H0 : Hp} {σ : L2.St} {δ : DS} {Q : VK}

/-! ### gluing -/
theorem postE_mono {B1 H1 : Hp} {Q : VK} {r : Res D} (g : Grow B H B1 H1) (h : PostE K B H σ W Q r) : PostE K B1 H1 σ W Q r := by
  cases r with
  | ok d => exact fun v B' H' g' rp => h v B' H' (g.trans g') rp
  | er x => exact fun c dx B' H' g' rp => h c dx B' H' (g.trans g') rp
  | no => exact h
theorem se_bind {t : TE} {f : DS → Res D} {α : Type} {k : D → Res α} {P : Res α → Prop} {QQ : VK}
    (h : SE K W t f) (r : Rel K B0 H0 B H σ δ)
    (hok : ∀ d v B' H', f δ = .ok d → Grow B H B' H' → Rp K B' v d → QQ v H')
    (her : ∀ x, f δ = .er x → ∀ c dx B' H', Grow B H B' H' → RpX K B' c dx x → W c dx σ H')
    (hno : f δ ≠ .no) : t σ H QQ := by
  refine h B0 H0 δ σ B H QQ r ?_
  cases e : f δ with
  | ok d => exact fun v B' H' g rp => hok d v B' H' e g rp
  | er x => exact her x e
  | no => exact absurd e hno

/-! ### names and constants -/
def cVar (i : Nat) : DS → Res D := fun δ => match δ[i]? with
  | some (some (.im d)) => .ok d
  | _ => .no
theorem se_var (i : Nat) : SE K W (tVar i) (cVar i) := fun B0 H0 δ σ B H Q r h => by
  unfold cVar at h
  cases e : δ[i]? with
  | none => rw [e] at h; exact h.elim
  | some o =>
    cases o with
    | none => rw [e] at h; exact h.elim
    | some o =>
      cases o with
      | ow ds => rw [e] at h; exact h.elim
      | im d =>
        rw [e] at h
        obtain ⟨v, h1, h2⟩ := r.get e
        exact ⟨v, h1, h v B H (Grow.refl r.g.i) h2⟩
theorem ce_var (i : Nat) {x : Str} {pos : Pos} (hN : X.N[i]? = some x := by rfl) (hv : Vis X.env.scope x := by first | exact Or.inl rfl | exact Or.inr (Or.inl rfl) | exact Or.inr (Or.inr rfl)) (hd : (x == ("__debug__" : Str)) = false := by decide)
    (hcd : (x == ("__classdict__" : Str)) = false := by decide) : CE X W (.Name x pos) (tVar i) (cVar i) := ⟨pe_var hN hv hd hcd, se_var i⟩
def cC (d : D) : DS → Res D := fun _ => .ok d
theorem se_c (v : V) : SE K W (tC v) (cC (.v v)) := fun B0 H0 δ σ B H Q r h => h v B H (Grow.refl r.g.i) (.v v)
theorem ce_int {i : Int} {j pos} : CE X W (.Constant (.int i) j pos) (tC (.int i)) (cC (.int i)) := ⟨pe_int, se_c _⟩
theorem ce_bl {b : Bool} {j pos} : CE X W (.Constant (.bool b) j pos) (tC (.bl b)) (cC (.bl b)) := ⟨pe_bl, se_c _⟩
theorem ce_non {j pos} : CE X W (.Constant .none j pos) (tC .non) (cC .non) := ⟨pe_non, se_c _⟩
theorem ce_str {x : Str} {j pos} : CE X W (.Constant (.str x) j pos) (tC (.str x)) (cC (.str x)) := ⟨pe_str, se_c _⟩
/-- a module's constant; hk: what it is, whatever the heap -/
theorem ce_glob {x : Str} {v : V} {u : Value} {d : D} {pos : Pos} (hg : Gl X x) (hm : X.mg x = some u) (r : RelV v u) (hk : ∀ B, Rp X.K B v d) (hd : (x == ("__debug__" : Str)) = false := by decide) : CE X W (.Name x pos) (tC v) (cC d) :=
  ⟨pe_glob hg hm r hd, fun B0 H0 δ σ B H Q r h => h v B H (Grow.refl r.g.i) (hk B)⟩
theorem ce_bltn {x : Str} {v : V} {u : Value} {pos : Pos} (hg : Gl X x) (hm : X.mg x = none) (hv : bootBuiltins x = some u) (r : RelV v u) (hn : x ≠ "__name__" := by decide) (hd : (x == ("__debug__" : Str)) = false := by decide) : CE X W (.Name x pos) (tC v) (cC (.v v)) :=
  ⟨pe_bltn hg hm hv r hn hd, se_c _⟩

/-! ### two operands -/
def PostV (K : PySem.W.Frag) (B H : Hp) (Q : VK) : Res D → Prop
  | .ok d => ∀ v B' H', Grow B H B' H' → Rp K B' v d → Q v H'
  | _ => False
/-- an operator by values is the function g -/
def RO (K : PySem.W.Frag) (r : R2) (g : D → D → Res D) : Prop := ∀ x y d e B H Q, Same B H → Rp K B x d → Rp K B y e → PostV K B H Q (g d e) → r x y H Q
def RU (K : PySem.W.Frag) (r : V → Hp → VK → Prop) (g : D → Res D) : Prop := ∀ x d B H Q, Same B H → Rp K B x d → PostV K B H Q (g d) → r x H Q
def cBin (g : D → D → Res D) (fa fb : DS → Res D) : DS → Res D := fun δ => (fa δ).bind fun x => (fb δ).bind fun y => g x y
def cUn (g : D → Res D) (fa : DS → Res D) : DS → Res D := fun δ => (fa δ).bind g
/-- an operator never raises -/
def Calm2 (g : D → D → Res D) : Prop := ∀ d e x, g d e ≠ .er x
theorem postV_of {r : Res D} (h : PostE K B H σ W Q r) (hc : ∀ x, r ≠ .er x) : PostV K B H Q r := by
  cases r with
  | ok d => exact h
  | er x => exact absurd rfl (hc x)
  | no => exact h
theorem se_op {ta tb : TE} {fa fb : DS → Res D} {r : R2} {g : D → D → Res D} (ho : RO K r g) (hc : Calm2 g) (ha : SE K W ta fa) (hb : SE K W tb fb) : SE K W (tOp r ta tb) (cBin g fa fb) := fun B0 H0 δ σ B H Q rel h => by
  unfold cBin at h
  refine ha B0 H0 δ σ B H _ rel ?_
  cases e : fa δ with
  | no => rw [e] at h; exact h
  | er x => rw [e] at h; exact h
  | ok d =>
    rw [e, Res.bind_ok] at h
    intro v B1 H1 g1 r1
    refine hb B0 H0 δ σ B1 H1 _ (rel.mono g1) ?_
    cases e2 : fb δ with
    | no => rw [e2] at h; exact h
    | er x => rw [e2] at h; exact fun c dx B' H' g' rp => h c dx B' H' (g1.trans g') rp
    | ok d2 =>
      rw [e2, Res.bind_ok] at h
      intro u B2 H2 g2 r2
      exact ho v u d d2 B2 H2 Q g2.i (Rp.mono g2.b r1) r2 (postV_of (postE_mono (g1.trans g2) h) (hc d d2))
theorem ce_op {a b : Expr} {op : Operator} {pos : Pos} {ta tb : TE} {fa fb : DS → Res D} {r : R2} {g : D → D → Res D} (ho : OpR X (binaryOp op) r) (hr : RO X.K r g) (hc : Calm2 g) (ha : CE X W a ta fa) (hb : CE X W b tb fb) : CE X W (.BinOp a op b pos) (tOp r ta tb) (cBin g fa fb) :=
  ⟨pe_op ho ha.pe hb.pe, se_op hr hc ha.se hb.se⟩
theorem ce_cmp {a b : Expr} {op : CmpOp} {pos : Pos} {ta tb : TE} {fa fb : DS → Res D} {r : R2} {g : D → D → Res D} (ho : OpR X (compareOp op) r) (hr : RO X.K r g) (hc : Calm2 g) (ha : CE X W a ta fa) (hb : CE X W b tb fb) (hm : behindInMarks op b = false) : CE X W (.Compare a [op] [b] pos) (tOp r ta tb) (cBin g fa fb) :=
  ⟨pe_cmpR ho ha.pe hb.pe hm, se_op hr hc ha.se hb.se⟩
theorem se_un {ta : TE} {fa : DS → Res D} {r : V → Hp → VK → Prop} {g : D → Res D} (ho : RU K r g) (hc : ∀ d x, g d ≠ .er x) (ha : SE K W ta fa) : SE K W (tUn r ta) (cUn g fa) := fun B0 H0 δ σ B H Q rel h => by
  unfold cUn at h
  refine ha B0 H0 δ σ B H _ rel ?_
  cases e : fa δ with
  | no => rw [e] at h; exact h
  | er x => rw [e] at h; exact h
  | ok d =>
    rw [e, Res.bind_ok] at h
    intro v B1 H1 g1 r1
    exact ho v d B1 H1 Q g1.i r1 (postV_of (postE_mono g1 h) (hc d))
theorem ce_un {a : Expr} {op : UnaryOp} {pos : Pos} {ta : TE} {fa : DS → Res D} {r : V → Hp → VK → Prop} {g : D → Res D} (ho : UnR X (unaryOp op) r) (hr : RU X.K r g) (hc : ∀ d x, g d ≠ .er x) (ha : CE X W a ta fa) : CE X W (.UnaryOp op a pos) (tUn r ta) (cUn g fa) :=
  ⟨pe_un ho ha.pe, se_un hr hc ha.se⟩
end

/-! ### the operators -/
section
variable {X : Cx} {W : WX} {K : PySem.W.Frag}
theorem ro_I {C : Int → Int → Prop} {gv : Int → Int → V} {g : D → D → Res D} (hg : ∀ d e z, g d e = .ok z → ∃ i j, d = .int i ∧ e = .int j ∧ C i j ∧ z = .v (gv i j)) : RO K (rI C gv) g := fun x y d e B H Q i rx ry h => by
  cases q : g d e with
  | ok z =>
    rw [q] at h
    obtain ⟨i', j, rfl, rfl, hc, rfl⟩ := hg d e z q
    cases rx
    cases ry
    exact ⟨i', j, rfl, rfl, hc, h _ B H (Grow.refl i) (.v _)⟩
  | er x => rw [q] at h; exact h.elim
  | no => rw [q] at h; exact h.elim
theorem ro_I0 {gv : Int → Int → V} {g : D → D → Res D} (hg : ∀ d e z, g d e = .ok z → ∃ i j, d = .int i ∧ e = .int j ∧ z = .v (gv i j)) : RO K (rI0 gv) g := fun x y d e B H Q i rx ry h => by
  cases q : g d e with
  | ok z =>
    rw [q] at h
    obtain ⟨i', j, rfl, rfl, rfl⟩ := hg d e z q
    cases rx
    cases ry
    exact ⟨i', j, rfl, rfl, h _ B H (Grow.refl i) (.v _)⟩
  | er x => rw [q] at h; exact h.elim
  | no => rw [q] at h; exact h.elim
theorem ro_or {r r' : R2} {g g' : D → D → Res D} (h : RO K r g) (h' : RO K r' g') : RO K (fun x y H Q => r x y H Q ∨ r' x y H Q) (fun d e => match g d e with | .no => g' d e | z => z) := fun x y d e B H Q i rx ry hp => by
  dsimp only at hp
  cases q : g d e with
  | ok z => rw [q] at hp; exact .inl (h x y d e B H Q i rx ry (by rw [q]; exact hp))
  | er z => rw [q] at hp; exact hp.elim
  | no => rw [q] at hp; exact .inr (h' x y d e B H Q i rx ry hp)

def oSub : D → D → Res D
  | .v (.int i), .v (.int j) => .ok (.int (i - j))
  | _, _ => .no
def oMod : D → D → Res D
  | .v (.int i), .v (.int j) => if j ≠ 0 then .ok (.int (i.fmod j)) else .no
  | _, _ => .no
def oFdiv : D → D → Res D
  | .v (.int i), .v (.int j) => if j ≠ 0 ∧ j.natAbs.log2 < 9000 then .ok (.int (i.fdiv j)) else .no
  | _, _ => .no
def oPow : D → D → Res D
  | .v (.int i), .v (.int j) => if 0 ≤ j ∧ j.natAbs ≤ 1000000 ∧ i.natAbs < 18446744073709551616 then .ok (.int (i ^ j.toNat)) else .no
  | _, _ => .no
/-- + -/
def oAdd : D → D → Res D
  | .v (.int i), .v (.int j) => .ok (.int (i + j))
  | .v (.str i), .v (.str j) => if i.length + j.length ≤ sizeLine then .ok (.str (i ++ j)) else .no
  | .lst a, .lst b => if a.length + b.length ≤ sizeLine then .ok (.lst (a ++ b)) else .no
  | .tup a, .tup b => if a.length + b.length ≤ sizeLine then .ok (.tup (a ++ b)) else .no
  | _, _ => .no
/-- * -/
def oMul : D → D → Res D
  | .v (.int i), .v (.int j) => if i.natAbs.log2 + j.natAbs.log2 < 1000000 then .ok (.int (i * j)) else .no
  | .lst a, .v (.int k) => if -(2 ^ 63) ≤ k ∧ k < 2 ^ 63 ∧ a.length * k.toNat ≤ sizeLine then .ok (.lst (List.replicate k.toNat a).flatten) else .no
  | .tup a, .v (.int k) => if a ≠ [] ∧ 2 ≤ k ∧ k ≤ 1000 ∧ a.length ≤ 1000 then .ok (.tup (List.replicate k.toNat a).flatten) else .no
  | _, _ => .no

theorem op_catL : OpR X (binaryOp .Add) (fun x y H Q => ∃ l b xs zs, x = .ref l ∧ y = .ref b ∧ SqL X.K H l xs ∧ SqL X.K H b zs ∧ xs.length + zs.length ≤ sizeLine ∧ ∀ p, H p = none → Q (.ref p) (upd H p (.lst (xs ++ zs)))) := by
  intro pins s σ H x y v u Q I rx ry h
  obtain ⟨l, b, xs, zs, rfl, rfl, hH, hB, hz, q⟩ := h
  cases rx
  cases ry
  obtain ⟨its, r, ⟨⟨cls, dd, data, sl⟩, n, ho, hc, hdd, hd⟩, z1⟩ := I.list hH
  obtain ⟨its2, r2, ⟨⟨cls2, dd2, data2, sl2⟩, n2, ho2, hc2, hdd2, hd2⟩, z2⟩ := I.list hB
  simp only at hc hd hc2 hd2
  subst hc hd hc2 hd2
  have hlen := r.length
  have hlen2 := r2.length
  have e : its.toArray ++ its2.toArray = (its ++ its2).toArray := by simp
  refine PySem.concat_meets ⟨_, ho, rfl⟩ ⟨_, ho2, rfl⟩ PySem.noFill_list_add PySem.seq_list_add PySem.F.slot_list_add PySem.F.entry_list_add (PySem.F.args_list_add_2 _ _) (PyProof.Rows.list_addW l b its.toArray its2.toArray n n2 dd dd2 sl sl2 (by simpa [← hlen, ← hlen2] using hz)) ⟨ho, ho2, ?_⟩
  rw [e]
  exact ⟨.ref _, _, I.lnew (t' := s.toks) (r.append r2) (by rw [List.length_append]; omega), rfl, q _ I.fresh⟩

/-- the reading of + -/
def rAdd (K : PySem.W.Frag) : R2 := fun x y H Q =>
  (∃ i j, x = V.int i ∧ y = V.int j ∧ Q (.int (i + j)) H) ∨
  (∃ i j, x = V.str i ∧ y = V.str j ∧ i.length + j.length ≤ sizeLine ∧ Q (.str (i ++ j)) H) ∨
  (∃ l b xs zs, x = .ref l ∧ y = .ref b ∧ SqL K H l xs ∧ SqL K H b zs ∧ xs.length + zs.length ≤ sizeLine ∧ ∀ p, H p = none → Q (.ref p) (upd H p (.lst (xs ++ zs)))) ∨ rCatA K x y H Q
theorem op_addA : OpR X (binaryOp .Add) (rAdd X.K) := OpR.or op_add (OpR.or op_add_str (OpR.or op_catL op_catA))
theorem ro_add : RO K (rAdd K) oAdd := fun x y d e B H Q i rx ry h => by
  unfold oAdd at h
  split at h
  · cases rx; cases ry
    exact .inl ⟨_, _, rfl, rfl, h _ B H (Grow.refl i) (.v _)⟩
  · split at h
    · rename_i hz
      cases rx; cases ry
      exact .inr (.inl ⟨_, _, rfl, rfl, hz, h _ B H (Grow.refl i) (.v _)⟩)
    · exact h.elim
  · split at h
    · rename_i hz
      cases rx with
      | lst h1 q1 =>
        cases ry with
        | lst h2 q2 =>
          have l1 := q1.length
          have l2 := q2.length
          refine .inr (.inr (.inl ⟨_, _, _, _, rfl, rfl, i.seq h1, i.seq h2, by omega, fun p hp => ?_⟩))
          exact h _ _ _ (Grow.new i hp) (.lst (SqL.of upd_same) ((q1.append q2).mono (Grow.new i hp).b))
    · exact h.elim
  · split at h
    · rename_i hz
      cases rx with
      | tup h1 q1 =>
        cases ry with
        | tup h2 q2 =>
          have l1 := q1.length
          have l2 := q2.length
          refine .inr (.inr (.inr ⟨_, _, _, _, rfl, rfl, sqT_mono i h1, sqT_mono i h2, by omega, fun e0 => ?_, fun _ e0 => ?_, fun _ _ p hp => ?_⟩))
          · subst e0
            cases q1
            exact h _ B H (Grow.refl i) (.tup h2 q2)
          · subst e0
            cases q2
            rw [List.append_nil] at h
            exact h _ B H (Grow.refl i) (.tup h1 q1)
          · exact h _ _ _ (Grow.new i hp) (.tup (SqT.of upd_same) ((q1.append q2).mono (Grow.new i hp).b))
    · exact h.elim
  · exact h.elim
theorem cm_add : Calm2 oAdd := fun d e x => by unfold oAdd; split <;> (try split) <;> simp
theorem ce_add {a b : Expr} {pos : Pos} {ta tb : TE} {fa fb : DS → Res D} (ha : CE X W a ta fa) (hb : CE X W b tb fb) : CE X W (.BinOp a .Add b pos) (tOp (rAdd X.K) ta tb) (cBin oAdd fa fb) := ce_op op_addA ro_add cm_add ha hb

theorem ro_sub : RO K (rI0 fun i j => .int (i - j)) oSub := ro_I0 fun d e z h => by
  unfold oSub at h
  split at h
  · cases h; exact ⟨_, _, rfl, rfl, rfl⟩
  · cases h
theorem cm_sub : Calm2 oSub := fun d e x => by unfold oSub; split <;> simp
theorem ce_sub {a b : Expr} {pos : Pos} {ta tb : TE} {fa fb : DS → Res D} (ha : CE X W a ta fa) (hb : CE X W b tb fb) : CE X W (.BinOp a .Sub b pos) (tOp (rI0 fun i j => .int (i - j)) ta tb) (cBin oSub fa fb) := ce_op op_sub ro_sub cm_sub ha hb

theorem ro_mod : RO K (rI (fun _ j => j ≠ 0) fun i j => .int (i.fmod j)) oMod := ro_I fun d e z h => by
  unfold oMod at h
  split at h
  · split at h
    · rename_i hj
      cases h; exact ⟨_, _, rfl, rfl, hj, rfl⟩
    · cases h
  · cases h
theorem cm_mod : Calm2 oMod := fun d e x => by unfold oMod; split <;> (try split) <;> simp
theorem ce_mod {a b : Expr} {pos : Pos} {ta tb : TE} {fa fb : DS → Res D} (ha : CE X W a ta fa) (hb : CE X W b tb fb) : CE X W (.BinOp a .Mod b pos) (tOp (rI (fun _ j => j ≠ 0) fun i j => .int (i.fmod j)) ta tb) (cBin oMod fa fb) := ce_op op_modN ro_mod cm_mod ha hb

def CFd (_ j : Int) : Prop := j ≠ 0 ∧ j.natAbs.log2 < 9000
theorem op_fdA : OpR X (binaryOp .FloorDiv) (rI CFd fun i j => .int (i.fdiv j)) := opI fun i j _ _ _ _ _ hc q => PyProof.Rows.floordiv_int hc.1 q (.inl (PyProof.noPylong_of_log2 hc.2))
theorem ro_fdiv : RO K (rI CFd fun i j => .int (i.fdiv j)) oFdiv := ro_I fun d e z h => by
  unfold oFdiv at h
  split at h
  · split at h
    · rename_i hj
      cases h; exact ⟨_, _, rfl, rfl, hj, rfl⟩
    · cases h
  · cases h
theorem cm_fdiv : Calm2 oFdiv := fun d e x => by unfold oFdiv; split <;> (try split) <;> simp
theorem ce_fdiv {a b : Expr} {pos : Pos} {ta tb : TE} {fa fb : DS → Res D} (ha : CE X W a ta fa) (hb : CE X W b tb fb) : CE X W (.BinOp a .FloorDiv b pos) (tOp (rI CFd fun i j => .int (i.fdiv j)) ta tb) (cBin oFdiv fa fb) := ce_op op_fdA ro_fdiv cm_fdiv ha hb

theorem ro_pow : RO K (rI CPow fun i j => .int (i ^ j.toNat)) oPow := ro_I fun d e z h => by
  unfold oPow at h
  split at h
  · split at h
    · rename_i hj
      cases h; exact ⟨_, _, rfl, rfl, ⟨hj.1, by omega, by omega⟩, rfl⟩
    · cases h
  · cases h
theorem cm_pow : Calm2 oPow := fun d e x => by unfold oPow; split <;> (try split) <;> simp
theorem ce_pow {a b : Expr} {pos : Pos} {ta tb : TE} {fa fb : DS → Res D} (ha : CE X W a ta fa) (hb : CE X W b tb fb) : CE X W (.BinOp a .Pow b pos) (tOp (rI CPow fun i j => .int (i ^ j.toNat)) ta tb) (cBin oPow fa fb) := ce_op op_pow ro_pow cm_pow ha hb

/-- *: ints; a tuple by an int -/
def oMul2 : D → D → Res D
  | .v (.int i), .v (.int j) => if i.natAbs.log2 + j.natAbs.log2 < 1000000 then .ok (.int (i * j)) else .no
  | .tup a, .v (.int k) => if a.length ≠ 0 ∧ 2 ≤ k ∧ k ≤ 1000 ∧ a.length ≤ 1000 then .ok (.tup (List.replicate k.toNat a).flatten) else .no
  | _, _ => .no
def rMulA (K : PySem.W.Frag) : R2 := fun x y H Q => rI CMulW (fun i j => .int (i * j)) x y H Q ∨ rRepT K x y H Q
theorem op_mulA : OpR X (binaryOp .Mult) (rMulA X.K) := OpR.or op_mulW op_repT
theorem RpA.flat {B : Hp} {vs : List V} {ds : List D} (r : RpA K B vs ds) : ∀ n : Nat, RpA K B (List.replicate n vs).flatten (List.replicate n ds).flatten
  | 0 => .nil
  | n + 1 => by
    rw [List.replicate_succ, List.replicate_succ, List.flatten_cons, List.flatten_cons]
    exact r.append (RpA.flat r n)
theorem ro_mul : RO K (rMulA K) oMul2 := fun x y d e B H Q i rx ry h => by
  unfold oMul2 at h
  split at h
  · split at h
    · rename_i hz
      cases rx; cases ry
      exact .inl ⟨_, _, rfl, rfl, hz, h _ B H (Grow.refl i) (.v _)⟩
    · exact h.elim
  · split at h
    · rename_i hz
      cases ry
      cases rx with
      | tup h1 q1 =>
        have l1 := q1.length
        refine .inr ⟨_, _, _, rfl, rfl, sqT_mono i h1, ?_, hz.2.1, hz.2.2.1, by omega, fun p hp => ?_⟩
        · intro z
          rw [z] at l1
          exact hz.1 (by rw [← l1]; rfl)
        · exact h _ _ _ (Grow.new i hp) (.tup (SqT.of upd_same) ((q1.flat _).mono (Grow.new i hp).b))
    · exact h.elim
  · exact h.elim
theorem cm_mul : Calm2 oMul2 := fun d e x => by unfold oMul2; split <;> (try split) <;> simp
theorem ce_mul {a b : Expr} {pos : Pos} {ta tb : TE} {fa fb : DS → Res D} (ha : CE X W a ta fa) (hb : CE X W b tb fb) : CE X W (.BinOp a .Mult b pos) (tOp (rMulA X.K) ta tb) (cBin oMul2 fa fb) := ce_op op_mulA ro_mul cm_mul ha hb

def oNeg : D → Res D
  | .v (.int i) => .ok (.int (-i))
  | _ => .no
theorem ru_neg : RU K (rU fun i => .int (-i)) oNeg := fun x d B H Q i rx h => by
  unfold oNeg at h
  split at h
  · cases rx
    exact ⟨_, rfl, h _ B H (Grow.refl i) (.v _)⟩
  · exact h.elim
theorem ce_neg {a : Expr} {pos : Pos} {ta : TE} {fa : DS → Res D} (ha : CE X W a ta fa) : CE X W (.UnaryOp .USub a pos) (tUn (rU fun i => .int (-i)) ta) (cUn oNeg fa) := ce_un un_neg ru_neg (fun d x => by unfold oNeg; split <;> simp) ha

/-! ### comparisons -/
def oI (p : Int → Int → Bool) : D → D → Res D
  | .v (.int i), .v (.int j) => .ok (.bl (p i j))
  | _, _ => .no
theorem ro_cI {p : Int → Int → Bool} : RO K (rI0 fun i j => .bl (p i j)) (oI p) := ro_I0 fun d e z h => by
  unfold oI at h
  split at h
  · cases h; exact ⟨_, _, rfl, rfl, rfl⟩
  · cases h
theorem cm_cI {p : Int → Int → Bool} : Calm2 (oI p) := fun d e x => by unfold oI; split <;> simp
abbrev oLt := oI fun i j => decide (i < j)
abbrev oLe := oI fun i j => decide (i ≤ j)
abbrev oGt := oI fun i j => decide (j < i)
abbrev oGe := oI fun i j => decide (j ≤ i)
section
variable {a b : Expr} {pos : Pos} {ta tb : TE} {fa fb : DS → Res D}
theorem ce_lt (ha : CE X W a ta fa) (hb : CE X W b tb fb) : CE X W (.Compare a [.Lt] [b] pos) (tOp (rI0 fun i j => .bl (decide (i < j))) ta tb) (cBin oLt fa fb) := ce_cmp op_lt ro_cI cm_cI ha hb (nomark _)
theorem ce_le (ha : CE X W a ta fa) (hb : CE X W b tb fb) : CE X W (.Compare a [.LtE] [b] pos) (tOp (rI0 fun i j => .bl (decide (i ≤ j))) ta tb) (cBin oLe fa fb) := ce_cmp op_le ro_cI cm_cI ha hb (nomark _)
theorem ce_gt (ha : CE X W a ta fa) (hb : CE X W b tb fb) : CE X W (.Compare a [.Gt] [b] pos) (tOp (rI0 fun i j => .bl (decide (j < i))) ta tb) (cBin oGt fa fb) := ce_cmp op_gt ro_cI cm_cI ha hb (nomark _)
theorem ce_ge (ha : CE X W a ta fa) (hb : CE X W b tb fb) : CE X W (.Compare a [.GtE] [b] pos) (tOp (rI0 fun i j => .bl (decide (j ≤ i))) ta tb) (cBin oGe fa fb) := ce_cmp op_ge ro_cI cm_cI ha hb (nomark _)
end
/-- a < b < c -/
def cChain (g g' : D → D → Res D) (fa fb fc : DS → Res D) : DS → Res D := fun δ => (fa δ).bind fun x => (fb δ).bind fun y => (g x y).bind fun k => match k with
  | .v (.bl true) => (fc δ).bind fun z => g' y z
  | .v (.bl false) => .ok (.bl false)
  | _ => .no
theorem se_chain {ta tb tc : TE} {fa fb fc : DS → Res D} {r r' : R2} {g g' : D → D → Res D} (ho : RO K r g) (hc : Calm2 g) (ho' : RO K r' g') (hc' : Calm2 g') (ha : SE K W ta fa) (hb : SE K W tb fb) (hcc : SE K W tc fc) : SE K W (tChain r r' ta tb tc) (cChain g g' fa fb fc) := fun B0 H0 δ σ B H Q rel h => by
  unfold cChain at h
  refine ha B0 H0 δ σ B H _ rel ?_
  cases e : fa δ with
  | no => rw [e] at h; exact h
  | er x => rw [e] at h; exact h
  | ok d =>
    rw [e, Res.bind_ok] at h
    intro v B1 H1 g1 r1
    refine hb B0 H0 δ σ B1 H1 _ (rel.mono g1) ?_
    cases e2 : fb δ with
    | no => rw [e2] at h; exact h
    | er x => rw [e2] at h; exact fun c dx B' H' g' rp => h c dx B' H' (g1.trans g') rp
    | ok d2 =>
      rw [e2, Res.bind_ok] at h
      intro u B2 H2 g2 r2
      refine ho v u d d2 B2 H2 _ g2.i (Rp.mono g2.b r1) r2 ?_
      cases e3 : g d d2 with
      | no => rw [e3] at h; exact h
      | er x => exact absurd e3 (hc d d2 x)
      | ok k =>
        rw [e3, Res.bind_ok] at h
        intro kv B3 H3 g3 r3
        split at h
        · cases r3
          refine ⟨true, rfl, ?_⟩
          rw [if_pos rfl]
          refine hcc B0 H0 δ σ B3 H3 _ (((rel.mono g1).mono g2).mono g3) ?_
          cases e4 : fc δ with
          | no => rw [e4] at h; exact h
          | er x => rw [e4] at h; exact fun c dx B' H' g' rp => h c dx B' H' (((g1.trans g2).trans g3).trans g') rp
          | ok d4 =>
            rw [e4, Res.bind_ok] at h
            intro z B4 H4 g4 r4
            exact ho' u z d2 d4 B4 H4 Q g4.i (Rp.mono (g3.b.trans g4.b) r2) r4 (postV_of (postE_mono (((g1.trans g2).trans g3).trans g4) h) (hc' d2 d4))
        · cases r3
          refine ⟨false, rfl, ?_⟩
          rw [if_neg Bool.false_ne_true]
          exact h _ _ _ ((g1.trans g2).trans g3) (.v _)
        · exact h.elim
theorem ce_chain {a b c : Expr} {op op' : CmpOp} {pos : Pos} {ta tb tc : TE} {fa fb fc : DS → Res D} {r r' : R2} {g g' : D → D → Res D} (ho : OpR X (compareOp op) r) (hr : RO X.K r g) (hc : Calm2 g) (ho' : OpR X (compareOp op') r') (hr' : RO X.K r' g') (hc' : Calm2 g')
    (ha : CE X W a ta fa) (hb : CE X W b tb fb) (hcc : CE X W c tc fc) (hm : lastMarks [op, op'] [b, c] = false := by with_unfolding_all rfl) : CE X W (.Compare a [op, op'] [b, c] pos) (tChain r r' ta tb tc) (cChain g g' fa fb fc) := ⟨pe_chain ho ho' ha.pe hb.pe hcc.pe hm, se_chain hr hc hr' hc' ha.se hb.se hcc.se⟩

/-! ### ==, != -/
mutual
def D.py : D → Option PyData
  | .v .non => some .none
  | .v (.bl b) => some (.bool b)
  | .v (.int i) => some (.int i)
  | .v (.str s) => some (.str s)
  | .v _ => none
  | .lst xs => (D.pyA xs).map .list
  | .tup xs => (D.pyA xs).map .tuple
  | .dct _ _ => none
  | .ins _ _ _ => none
def D.pyA : List D → Option (List PyData)
  | [] => some []
  | x :: xs => match x.py, D.pyA xs with
    | some a, some as => some (a :: as)
    | _, _ => none
end
mutual
theorem dp_of {B : Hp} : ∀ {v : V} {d : D} {p : PyData}, Rp K B v d → d.py = some p → Dp K B v p
  | _, _, _, .v x, e => by
    cases x <;> (unfold D.py at e; first | (cases e; constructor) | cases e)
  | _, _, _, .lst (ds := ds) h r, e => by
    unfold D.py at e
    cases q : D.pyA ds with
    | none => rw [q] at e; cases e
    | some ps => rw [q] at e; cases e; exact .lst h (dpA_of r q)
  | _, _, _, .tup (ds := ds) h r, e => by
    unfold D.py at e
    cases q : D.pyA ds with
    | none => rw [q] at e; cases e
    | some ps => rw [q] at e; cases e; exact .tup h (dpA_of r q)
theorem dpA_of {B : Hp} : ∀ {vs : List V} {ds : List D} {ps : List PyData}, RpA K B vs ds → D.pyA ds = some ps → DpAll K B vs ps
  | _, _, _, .nil, e => by
    unfold D.pyA at e
    cases e
    exact .nil
  | _, _, _, .cons (d := d) (ds := ds) h r, e => by
    unfold D.pyA at e
    cases q1 : d.py with
    | none => rw [q1] at e; cases e
    | some a =>
      cases q2 : D.pyA ds with
      | none => rw [q1, q2] at e; cases e
      | some as =>
        rw [q1, q2] at e
        cases e
        exact .cons (dp_of h q1) (dpA_of r q2)
end
def oEqB (neg : Bool) (d e : D) : Res D := match d.py, e.py with
  | some a, some b => if SeqAt.shaped a = true ∧ SeqAt.shaped b = true then .ok (.bl (if neg then !PyData.eqv a b else PyData.eqv a b)) else .no
  | _, _ => .no
abbrev oEq := oEqB false
abbrev oNe := oEqB true
mutual
theorem dp_mono {B B' : Hp} (e : Same B B') : ∀ {v : V} {p : PyData}, Dp K B v p → Dp K B' v p
  | _, _, .non => .non
  | _, _, .bl b => .bl b
  | _, _, .int i => .int i
  | _, _, .str x => .str x
  | _, _, .lst h r => .lst (e.seq h) (dpA_mono e r)
  | _, _, .tup h r => .tup (sqT_mono e h) (dpA_mono e r)
theorem dpA_mono {B B' : Hp} (e : Same B B') : ∀ {vs : List V} {ps : List PyData}, DpAll K B vs ps → DpAll K B' vs ps
  | _, _, .nil => .nil
  | _, _, .cons h r => .cons (dp_mono e h) (dpA_mono e r)
end
theorem ro_eq : RO K (rEqD K) oEq := fun x y d e B H Q i rx ry h => by
  unfold oEq oEqB at h
  split at h
  · rename_i a b e1 e2
    split at h
    · rename_i hs
      exact ⟨a, b, dp_mono i (dp_of rx e1), dp_mono i (dp_of ry e2), hs.1, hs.2, h _ B H (Grow.refl i) (.v _)⟩
    · exact h.elim
  · exact h.elim
theorem ro_ne : RO K (rNeD K) oNe := fun x y d e B H Q i rx ry h => by
  unfold oNe oEqB at h
  split at h
  · rename_i a b e1 e2
    split at h
    · rename_i hs
      exact ⟨a, b, dp_mono i (dp_of rx e1), dp_mono i (dp_of ry e2), hs.1, hs.2, h _ B H (Grow.refl i) (.v _)⟩
    · exact h.elim
  · exact h.elim
theorem cm_eq {n : Bool} : Calm2 (oEqB n) := fun d e x => by unfold oEqB; split <;> (try split) <;> simp
section
variable {a b : Expr} {pos : Pos} {ta tb : TE} {fa fb : DS → Res D}
theorem ce_eq (hu : X.A.units + 64 < cLine) (ha : CE X W a ta fa) (hb : CE X W b tb fb) : CE X W (.Compare a [.Eq] [b] pos) (tOp (rEqD X.K) ta tb) (cBin oEq fa fb) := ce_cmp (op_eqD hu) ro_eq cm_eq ha hb (nomark _)
theorem ce_ne (hu : X.A.units + 64 < cLine) (ha : CE X W a ta fa) (hb : CE X W b tb fb) : CE X W (.Compare a [.NotEq] [b] pos) (tOp (rNeD X.K) ta tb) (cBin oNe fa fb) := ce_cmp (op_neD hu) ro_ne cm_eq ha hb (nomark _)
end
/-- is None, is not None -/
def isNon : D → Bool
  | .v .non => true
  | _ => false
def oIsN (neg : Bool) : D → D → Res D
  | d, .v .non => .ok (.bl (if neg then !isNon d else isNon d))
  | _, _ => .no
theorem non_dec {B : Hp} {x : V} {d : D} (r : Rp K B x d) : decide (x = .non) = isNon d := by
  cases r with
  | v x => cases x <;> simp [isNon]
  | lst _ _ => simp [isNon]
  | tup _ _ => simp [isNon]
theorem ro_isN : RO K (fun x y H Q => y = .non ∧ Q (.bl (decide (x = .non))) H) (oIsN false) := fun x y d e B H Q i rx ry h => by
  unfold oIsN at h
  split at h
  · cases ry
    rw [non_dec rx]
    exact ⟨rfl, h _ B H (Grow.refl i) (.v _)⟩
  · exact h.elim
theorem ro_notN : RO K (fun x y H Q => y = .non ∧ Q (.bl (!decide (x = .non))) H) (oIsN true) := fun x y d e B H Q i rx ry h => by
  unfold oIsN at h
  split at h
  · cases ry
    rw [non_dec rx]
    exact ⟨rfl, h _ B H (Grow.refl i) (.v _)⟩
  · exact h.elim
theorem cm_isN {n : Bool} : Calm2 (oIsN n) := fun d e x => by unfold oIsN; split <;> simp
section
variable {a b : Expr} {pos : Pos} {ta tb : TE} {fa fb : DS → Res D}
theorem ce_isN (ha : CE X W a ta fa) (hb : CE X W b tb fb) : CE X W (.Compare a [.Is] [b] pos) (tOp (fun x y H Q => y = .non ∧ Q (.bl (decide (x = .non))) H) ta tb) (cBin (oIsN false) fa fb) := ce_cmp op_isN ro_isN cm_isN ha hb (nomark _)
theorem ce_notN (ha : CE X W a ta fa) (hb : CE X W b tb fb) : CE X W (.Compare a [.IsNot] [b] pos) (tOp (fun x y H Q => y = .non ∧ Q (.bl (!decide (x = .non))) H) ta tb) (cBin (oIsN true) fa fb) := ce_cmp op_notN ro_notN cm_isN ha hb (nomark _)
end

/-! ### in, not in: flat things in a list or tuple of flat things -/
def flatD : D → Option V
  | .v x => if flatV x then some x else none
  | _ => none
def flatsD : List D → Option (List V)
  | [] => some []
  | d :: ds => match flatD d, flatsD ds with
    | some x, some xs => some (x :: xs)
    | _, _ => none
theorem flatD_of {B : Hp} {x y : V} {d : D} (r : Rp K B x d) (e : flatD d = some y) : x = y ∧ flatV y = true := by
  cases r with
  | v x =>
    simp only [flatD] at e
    split at e
    · rename_i h; cases e; exact ⟨rfl, h⟩
    · cases e
  | lst _ _ => cases e
  | tup _ _ => cases e
theorem flatsD_of {B : Hp} : ∀ {xs ys : List V} {ds : List D}, RpA K B xs ds → flatsD ds = some ys → xs = ys ∧ ys.all flatV = true
  | _, _, _, .nil, e => by cases e; exact ⟨rfl, rfl⟩
  | _, _, _, .cons (d := d) (ds := ds) h r, e => by
    unfold flatsD at e
    cases q1 : flatD d with
    | none => rw [q1] at e; cases e
    | some a =>
      cases q2 : flatsD ds with
      | none => rw [q1, q2] at e; cases e
      | some as =>
        rw [q1, q2] at e
        cases e
        obtain ⟨e1, h1⟩ := flatD_of h q1
        obtain ⟨e2, h2⟩ := flatsD_of r q2
        subst e1 e2
        exact ⟨rfl, by simp [h1]; simpa using h2⟩
def D.items : D → Option (List D)
  | .lst xs => some xs
  | .tup xs => some xs
  | _ => none
def oIn (neg : Bool) (d e : D) : Res D := match flatD d, e.items with
  | some x, some es => match flatsD es with
    | some xs => .ok (.bl (if neg then !inV x xs else inV x xs))
    | none => .no
  | _, _ => .no
theorem items_of {B : Hp} {y : V} {e : D} {es : List D} (r : Rp K B y e) (h : e.items = some es) : ∃ p xs, y = .ref p ∧ (SqL K B p xs ∨ SqT K B p xs) ∧ RpA K B xs es := by
  cases r with
  | v x => cases h
  | lst h1 q => cases h; exact ⟨_, _, rfl, .inl h1, q⟩
  | tup h1 q => cases h; exact ⟨_, _, rfl, .inr h1, q⟩
theorem ro_in {n : Bool} : RO K (rIn K n) (oIn n) := fun x y d e B H Q i rx ry h => by
  unfold oIn at h
  split at h
  · rename_i x' es e1 e2
    split at h
    · rename_i xs e3
      obtain ⟨p, ys, rfl, hs, q⟩ := items_of ry e2
      obtain ⟨rfl, hf⟩ := flatD_of rx e1
      obtain ⟨rfl, hfs⟩ := flatsD_of q e3
      exact ⟨p, ys, rfl, hs.elim (fun z => .inl (i.seq z)) (fun z => .inr (sqT_mono i z)), hf, hfs, h _ B H (Grow.refl i) (.v _)⟩
    · exact h.elim
  · exact h.elim
theorem cm_in {n : Bool} : Calm2 (oIn n) := fun d e x => by unfold oIn; split <;> (try split) <;> simp
section
variable {a b : Expr} {pos : Pos} {ta tb : TE} {fa fb : DS → Res D}
theorem ce_in (ha : CE X W a ta fa) (hb : CE X W b tb fb) (hm : behindInMarks .In b = false := by rfl) : CE X W (.Compare a [.In] [b] pos) (tOp (rIn X.K false) ta tb) (cBin (oIn false) fa fb) := ce_cmp op_in_seq ro_in cm_in ha hb hm
theorem ce_notin (ha : CE X W a ta fa) (hb : CE X W b tb fb) (hm : behindInMarks .NotIn b = false := by rfl) : CE X W (.Compare a [.NotIn] [b] pos) (tOp (rIn X.K true) ta tb) (cBin (oIn true) fa fb) := ce_cmp op_notIn_seq ro_in cm_in ha hb hm
end
end
end DV
namespace DV
open PySem L2

/-- an operator's three facts -/
structure OK2 (X : Cx) (f : Value → Value → Sem Value) (r : R2) (g : D → D → Res D) : Prop where
  o : OpR X f r
  r : RO X.K r g
  c : Calm2 g
section
variable {X : Cx} {W : WX} {K : PySem.W.Frag}
theorem q_o_add : OK2 X (binaryOp .Add) (rAdd X.K) oAdd := ⟨op_addA, ro_add, cm_add⟩
theorem o_add (K : PySem.W.Frag) (hK : X.K = K) : OK2 X (binaryOp .Add) (rAdd K) oAdd := by
  subst hK
  exact (q_o_add )
theorem o_sub : OK2 X (binaryOp .Sub) (rI0 fun i j => .int (i - j)) oSub := ⟨op_sub, ro_sub, cm_sub⟩
theorem q_o_mul : OK2 X (binaryOp .Mult) (rMulA X.K) oMul2 := ⟨op_mulA, ro_mul, cm_mul⟩
theorem o_mul (K : PySem.W.Frag) (hK : X.K = K) : OK2 X (binaryOp .Mult) (rMulA K) oMul2 := by
  subst hK
  exact (q_o_mul )
theorem o_mod : OK2 X (binaryOp .Mod) (rI (fun _ j => j ≠ 0) fun i j => .int (i.fmod j)) oMod := ⟨op_modN, ro_mod, cm_mod⟩
theorem o_fdiv : OK2 X (binaryOp .FloorDiv) (rI CFd fun i j => .int (i.fdiv j)) oFdiv := ⟨op_fdA, ro_fdiv, cm_fdiv⟩
theorem o_pow : OK2 X (binaryOp .Pow) (rI CPow fun i j => .int (i ^ j.toNat)) oPow := ⟨op_pow, ro_pow, cm_pow⟩
theorem o_lt : OK2 X (compareOp .Lt) (rI0 fun i j => .bl (decide (i < j))) oLt := ⟨op_lt, ro_cI, cm_cI⟩
theorem o_le : OK2 X (compareOp .LtE) (rI0 fun i j => .bl (decide (i ≤ j))) oLe := ⟨op_le, ro_cI, cm_cI⟩
theorem o_gt : OK2 X (compareOp .Gt) (rI0 fun i j => .bl (decide (j < i))) oGt := ⟨op_gt, ro_cI, cm_cI⟩
theorem o_ge : OK2 X (compareOp .GtE) (rI0 fun i j => .bl (decide (j ≤ i))) oGe := ⟨op_ge, ro_cI, cm_cI⟩
theorem q_o_eq (hu : X.A.units + 64 < cLine) : OK2 X (compareOp .Eq) (rEqD X.K) oEq := ⟨op_eqD hu, ro_eq, cm_eq⟩
theorem o_eq (K : PySem.W.Frag) (hK : X.K = K) (hu : X.A.units + 64 < cLine) : OK2 X (compareOp .Eq) (rEqD K) oEq := by
  subst hK
  exact (q_o_eq hu)
theorem q_o_ne (hu : X.A.units + 64 < cLine) : OK2 X (compareOp .NotEq) (rNeD X.K) oNe := ⟨op_neD hu, ro_ne, cm_eq⟩
theorem o_ne (K : PySem.W.Frag) (hK : X.K = K) (hu : X.A.units + 64 < cLine) : OK2 X (compareOp .NotEq) (rNeD K) oNe := by
  subst hK
  exact (q_o_ne hu)
theorem o_is : OK2 X (compareOp .Is) (fun x y H Q => y = .non ∧ Q (.bl (decide (x = .non))) H) (oIsN false) := ⟨op_isN, ro_isN, cm_isN⟩
theorem o_isnot : OK2 X (compareOp .IsNot) (fun x y H Q => y = .non ∧ Q (.bl (!decide (x = .non))) H) (oIsN true) := ⟨op_notN, ro_notN, cm_isN⟩
theorem q_o_in : OK2 X (compareOp .In) (rIn X.K false) (oIn false) := ⟨op_in_seq, ro_in, cm_in⟩
theorem o_in (K : PySem.W.Frag) (hK : X.K = K) : OK2 X (compareOp .In) (rIn K false) (oIn false) := by
  subst hK
  exact (q_o_in )
theorem q_o_notin : OK2 X (compareOp .NotIn) (rIn X.K true) (oIn true) := ⟨op_notIn_seq, ro_in, cm_in⟩

theorem o_notin (K : PySem.W.Frag) (hK : X.K = K) : OK2 X (compareOp .NotIn) (rIn K true) (oIn true) := by
  subst hK
  exact (q_o_notin )
theorem ce_b {a b : Expr} {op : Operator} {pos : Pos} {ta tb : TE} {fa fb : DS → Res D} {r : R2} {g : D → D → Res D} (o : OK2 X (binaryOp op) r g) (ha : CE X W a ta fa) (hb : CE X W b tb fb) : CE X W (.BinOp a op b pos) (tOp r ta tb) (cBin g fa fb) := ce_op o.o o.r o.c ha hb
theorem ce_c {a b : Expr} {op : CmpOp} {pos : Pos} {ta tb : TE} {fa fb : DS → Res D} {r : R2} {g : D → D → Res D} (o : OK2 X (compareOp op) r g) (ha : CE X W a ta fa) (hb : CE X W b tb fb) (hm : behindInMarks op b = false := by first | exact nomark _ | rfl) : CE X W (.Compare a [op] [b] pos) (tOp r ta tb) (cBin g fa fb) := ce_cmp o.o o.r o.c ha hb hm
theorem ce_cc {a b c : Expr} {op op' : CmpOp} {pos : Pos} {ta tb tc : TE} {fa fb fc : DS → Res D} {r r' : R2} {g g' : D → D → Res D} (o : OK2 X (compareOp op) r g) (o' : OK2 X (compareOp op') r' g')
    (ha : CE X W a ta fa) (hb : CE X W b tb fb) (hc : CE X W c tc fc) (hm : lastMarks [op, op'] [b, c] = false := by with_unfolding_all rfl) : CE X W (.Compare a [op, op'] [b, c] pos) (tChain r r' ta tb tc) (cChain g g' fa fb fc) := ce_chain o.o o.r o.c o'.o o'.r o'.c ha hb hc hm

/-! ### tests -/
def asB : D → Res Bool
  | .v (.bl b) => .ok b
  | _ => .no
def cTest (f : DS → Res D) : DS → Res Bool := fun δ => (f δ).bind asB
theorem st_test {t : TE} {f : DS → Res D} (h : SE K W t f) : ST K W (tTest t) (cTest f) := fun B0 H0 δ σ B H Q rel hp => by
  unfold cTest at hp
  refine h B0 H0 δ σ B H _ rel ?_
  cases e : f δ with
  | no => rw [e] at hp; exact hp
  | er x => rw [e] at hp; exact hp
  | ok d =>
    rw [e, Res.bind_ok] at hp
    intro v B1 H1 g1 r1
    unfold asB at hp
    split at hp
    · cases r1
      exact ⟨_, rfl, hp _ _ g1⟩
    · exact hp.elim
theorem ct_val {e : Expr} {t : TE} {f : DS → Res D} (h : CE X W e t f) (he : ∀ whole, isTrue e X.env whole = (do let v ← whole; standAt e.pos; holding [v] (truthy v)) := by intro _; rfl) : CT X W e (tB t) (cTest f) := ⟨pt_val h.pe he, st_test h.se⟩
theorem ct_c {a b : Expr} {op : CmpOp} {pos : Pos} {ta tb : TE} {fa fb : DS → Res D} {r : R2} {g : D → D → Res D} (o : OK2 X (compareOp op) r g) (ha : CE X W a ta fa) (hb : CE X W b tb fb) (hm : behindInMarks op b = false := by first | exact nomark _ | rfl) : CT X W (.Compare a [op] [b] pos) (tTest (tOp r ta tb)) (cTest (cBin g fa fb)) :=
  ⟨pt_cmpR o.o ha.pe hb.pe hm, st_test (se_op o.r o.c ha.se hb.se)⟩
theorem ct_cc {a b c : Expr} {op op' : CmpOp} {pos : Pos} {ta tb tc : TE} {fa fb fc : DS → Res D} {r r' : R2} {g g' : D → D → Res D} (o : OK2 X (compareOp op) r g) (o' : OK2 X (compareOp op') r' g')
    (ha : CE X W a ta fa) (hb : CE X W b tb fb) (hc : CE X W c tc fc) (hm : lastMarks [op, op'] [b, c] = false := by with_unfolding_all rfl) : CT X W (.Compare a [op, op'] [b, c] pos) (tTest (tChain r r' ta tb tc)) (cTest (cChain g g' fa fb fc)) :=
  ⟨pt_chain o.o o'.o ha.pe hb.pe hc.pe hm, st_test (se_chain o.r o.c o'.r o'.c ha.se hb.se hc.se)⟩
def cNotT (f : DS → Res Bool) : DS → Res Bool := fun δ => (f δ).bind fun b => .ok (!b)
def cAndT (f g : DS → Res Bool) : DS → Res Bool := fun δ => (f δ).bind fun b => if b = true then g δ else .ok false
def cOrT (f g : DS → Res Bool) : DS → Res Bool := fun δ => (f δ).bind fun b => if b = true then .ok true else g δ
theorem postT_mono {B H B1 H1 : Hp} {σ : L2.St} {Q : Bool → Hp → Prop} {r : Res Bool} (g : Grow B H B1 H1) (h : PostT K B H σ W Q r) : PostT K B1 H1 σ W Q r := by
  cases r with
  | ok d => exact fun B' H' g' => h B' H' (g.trans g')
  | er x => exact fun c dx B' H' g' rp => h c dx B' H' (g.trans g') rp
  | no => exact h
theorem st_not {t : TT} {f : DS → Res Bool} (h : ST K W t f) : ST K W (tNot t) (cNotT f) := fun B0 H0 δ σ B H Q rel hp => by
  unfold cNotT at hp
  refine h B0 H0 δ σ B H _ rel ?_
  cases e : f δ with
  | no => rw [e] at hp; exact hp
  | er x => rw [e] at hp; exact hp
  | ok d => rw [e, Res.bind_ok] at hp; exact hp
theorem st_and {t u : TT} {f g : DS → Res Bool} (h : ST K W t f) (h2 : ST K W u g) : ST K W (tAnd t u) (cAndT f g) := fun B0 H0 δ σ B H Q rel hp => by
  unfold cAndT at hp
  refine h B0 H0 δ σ B H _ rel ?_
  cases e : f δ with
  | no => rw [e] at hp; exact hp
  | er x => rw [e] at hp; exact hp
  | ok d =>
    rw [e, Res.bind_ok] at hp
    intro B1 H1 g1
    cases d with
    | true => rw [if_pos rfl] at hp ⊢; exact h2 B0 H0 δ σ B1 H1 _ (rel.mono g1) (postT_mono g1 hp)
    | false => rw [if_neg Bool.false_ne_true] at hp ⊢; exact hp _ _ g1
theorem st_or {t u : TT} {f g : DS → Res Bool} (h : ST K W t f) (h2 : ST K W u g) : ST K W (tOr t u) (cOrT f g) := fun B0 H0 δ σ B H Q rel hp => by
  unfold cOrT at hp
  refine h B0 H0 δ σ B H _ rel ?_
  cases e : f δ with
  | no => rw [e] at hp; exact hp
  | er x => rw [e] at hp; exact hp
  | ok d =>
    rw [e, Res.bind_ok] at hp
    intro B1 H1 g1
    cases d with
    | false => rw [if_neg Bool.false_ne_true] at hp ⊢; exact h2 B0 H0 δ σ B1 H1 _ (rel.mono g1) (postT_mono g1 hp)
    | true => rw [if_pos rfl] at hp ⊢; exact hp _ _ g1
theorem ct_not {a : Expr} {pos : Pos} {t : TT} {f : DS → Res Bool} (h : CT X W a t f) : CT X W (.UnaryOp .Not a pos) (tNot t) (cNotT f) := ⟨pt_not h.pt, st_not h.st⟩
theorem cw_and1 {a : Expr} {pos : Pos} {t : TT} {f : DS → Res Bool} (h : CT X W a t f) : CW X W (.BoolOp .And [a] pos) t f := ⟨pw_and1 h.pt, h.st⟩
theorem cw_or1 {a : Expr} {pos : Pos} {t : TT} {f : DS → Res Bool} (h : CT X W a t f) : CW X W (.BoolOp .Or [a] pos) t f := ⟨pw_or1 h.pt, h.st⟩
theorem cw_and {a b : Expr} {rest : List Expr} {pos : Pos} {t u : TT} {f g : DS → Res Bool} (h : CT X W a t f) (h2 : CW X W (.BoolOp .And (b :: rest) pos) u g) : CW X W (.BoolOp .And (a :: b :: rest) pos) (tAnd t u) (cAndT f g) := ⟨pw_and h.pt h2.pw, st_and h.st h2.st⟩
theorem cw_or {a b : Expr} {rest : List Expr} {pos : Pos} {t u : TT} {f g : DS → Res Bool} (h : CT X W a t f) (h2 : CW X W (.BoolOp .Or (b :: rest) pos) u g) : CW X W (.BoolOp .Or (a :: b :: rest) pos) (tOr t u) (cOrT f g) := ⟨pw_or h.pt h2.pw, st_or h.st h2.st⟩

/-! ### and, or, not as values -/
def cAndV (f g : DS → Res D) : DS → Res D := fun δ => (f δ).bind fun x => match x with
  | .v (.bl true) => g δ
  | .v (.bl false) => .ok (.bl false)
  | _ => .no
def cOrV (f g : DS → Res D) : DS → Res D := fun δ => (f δ).bind fun x => match x with
  | .v (.bl true) => .ok (.bl true)
  | .v (.bl false) => g δ
  | _ => .no
def oNot : D → Res D
  | .v (.bl b) => .ok (.bl (!b))
  | _ => .no
theorem se_and {ta tb : TE} {f g : DS → Res D} (ha : SE K W ta f) (hb : SE K W tb g) : SE K W (tAndV ta tb) (cAndV f g) := fun B0 H0 δ σ B H Q rel hp => by
  unfold cAndV at hp
  refine ha B0 H0 δ σ B H _ rel ?_
  cases e : f δ with
  | no => rw [e] at hp; exact hp
  | er x => rw [e] at hp; exact hp
  | ok d =>
    rw [e, Res.bind_ok] at hp
    intro v B1 H1 g1 r1
    split at hp
    · cases r1
      refine ⟨true, rfl, ?_⟩
      rw [if_pos rfl]
      exact hb B0 H0 δ σ B1 H1 _ (rel.mono g1) (postE_mono g1 hp)
    · cases r1
      refine ⟨false, rfl, ?_⟩
      rw [if_neg Bool.false_ne_true]
      exact hp _ _ _ g1 (.v _)
    · exact hp.elim
theorem se_or {ta tb : TE} {f g : DS → Res D} (ha : SE K W ta f) (hb : SE K W tb g) : SE K W (tOrV ta tb) (cOrV f g) := fun B0 H0 δ σ B H Q rel hp => by
  unfold cOrV at hp
  refine ha B0 H0 δ σ B H _ rel ?_
  cases e : f δ with
  | no => rw [e] at hp; exact hp
  | er x => rw [e] at hp; exact hp
  | ok d =>
    rw [e, Res.bind_ok] at hp
    intro v B1 H1 g1 r1
    split at hp
    · cases r1
      refine ⟨true, rfl, ?_⟩
      rw [if_pos rfl]
      exact hp _ _ _ g1 (.v _)
    · cases r1
      refine ⟨false, rfl, ?_⟩
      rw [if_neg Bool.false_ne_true]
      exact hb B0 H0 δ σ B1 H1 _ (rel.mono g1) (postE_mono g1 hp)
    · exact hp.elim
theorem se_notV {ta : TE} {f : DS → Res D} (ha : SE K W ta f) : SE K W (tNotV ta) (cUn oNot f) := fun B0 H0 δ σ B H Q rel hp => by
  unfold cUn at hp
  refine ha B0 H0 δ σ B H _ rel ?_
  cases e : f δ with
  | no => rw [e] at hp; exact hp
  | er x => rw [e] at hp; exact hp
  | ok d =>
    rw [e, Res.bind_ok] at hp
    intro v B1 H1 g1 r1
    unfold oNot at hp
    split at hp
    · cases r1
      exact ⟨_, rfl, hp _ _ _ g1 (.v _)⟩
    · exact hp.elim
theorem ce_one {op} {a : Expr} {pos : Pos} {t : TE} {f : DS → Res D} (h : CE X W a t f) : CE X W (.BoolOp op [a] pos) t f := ⟨pe_one h.pe, h.se⟩
theorem ce_and {a b : Expr} {rest : List Expr} {pos : Pos} {ta tb : TE} {f g : DS → Res D} (h : CE X W a ta f) (h2 : CE X W (.BoolOp .And (b :: rest) pos) tb g) : CE X W (.BoolOp .And (a :: b :: rest) pos) (tAndV ta tb) (cAndV f g) := ⟨pe_and h.pe h2.pe, se_and h.se h2.se⟩
theorem ce_or {a b : Expr} {rest : List Expr} {pos : Pos} {ta tb : TE} {f g : DS → Res D} (h : CE X W a ta f) (h2 : CE X W (.BoolOp .Or (b :: rest) pos) tb g) : CE X W (.BoolOp .Or (a :: b :: rest) pos) (tOrV ta tb) (cOrV f g) := ⟨pe_or h.pe h2.pe, se_or h.se h2.se⟩
theorem ce_not {a : Expr} {pos : Pos} {ta : TE} {f : DS → Res D} (h : CE X W a ta f) : CE X W (.UnaryOp .Not a pos) (tNotV ta) (cUn oNot f) := ⟨pe_not h.pe, se_notV h.se⟩
/-- a if t else b -/
def cIfE (t : DS → Res Bool) (f g : DS → Res D) : DS → Res D := fun δ => (t δ).bind fun b => if b = true then f δ else g δ
theorem ce_if {c a b : Expr} {pos : Pos} {tt : TT} {ta tb : TE} {t : DS → Res Bool} {f g : DS → Res D} (hc : CT X W c tt t) (ha : CE X W a ta f) (hb : CE X W b tb g) : CE X W (.IfExp c a b pos) (tIf tt ta tb) (cIfE t f g) :=
  ⟨pe_ifExp hc.pt ha.pe hb.pe, fun B0 H0 δ σ B H Q rel hp => by
    unfold cIfE at hp
    refine hc.st B0 H0 δ σ B H _ rel ?_
    cases e : t δ with
    | no => rw [e] at hp; exact hp
    | er x => rw [e] at hp; exact hp
    | ok d =>
      rw [e, Res.bind_ok] at hp
      intro B1 H1 g1
      cases d with
      | false => rw [if_neg Bool.false_ne_true] at hp ⊢; exact hb.se B0 H0 δ σ B1 H1 _ (rel.mono g1) (postE_mono g1 hp)
      | true => rw [if_pos rfl] at hp ⊢; exact ha.se B0 H0 δ σ B1 H1 _ (rel.mono g1) (postE_mono g1 hp)⟩

/-! ### arguments and displays -/
structure CL (X : Cx) (W : WX) (es : List Expr) (t : TA) (f : DS → Res (List D)) : Prop extends CA X W es t f where
  ln : ∀ δ ds, f δ = .ok ds → ds.length = es.length
def cNil : DS → Res (List D) := fun _ => .ok []
def cCons (f : DS → Res D) (g : DS → Res (List D)) : DS → Res (List D) := fun δ => (f δ).bind fun x => (g δ).bind fun xs => .ok (x :: xs)
theorem postA_mono {B H B1 H1 : Hp} {σ : L2.St} {Q : List V → Hp → Prop} {r : Res (List D)} (g : Grow B H B1 H1) (h : PostA K B H σ W Q r) : PostA K B1 H1 σ W Q r := by
  cases r with
  | ok d => exact fun v B' H' g' rp => h v B' H' (g.trans g') rp
  | er x => exact fun c dx B' H' g' rp => h c dx B' H' (g.trans g') rp
  | no => exact h
theorem ca_nil : CL X W [] tNil cNil := ⟨⟨pa_nil, fun B0 H0 δ σ B H Q rel hp => hp [] B H (Grow.refl rel.g.i) .nil⟩, fun δ ds h => by cases h; rfl⟩
theorem sa_cons {te : TE} {t : TA} {f : DS → Res D} {g : DS → Res (List D)} (ha : SE K W te f) (hb : SA K W t g) : SA K W (tCons te t) (cCons f g) := fun B0 H0 δ σ B H Q rel hp => by
  unfold cCons at hp
  refine ha B0 H0 δ σ B H _ rel ?_
  cases e : f δ with
  | no => rw [e] at hp; exact hp
  | er x => rw [e] at hp; exact hp
  | ok d =>
    rw [e, Res.bind_ok] at hp
    intro v B1 H1 g1 r1
    refine hb B0 H0 δ σ B1 H1 _ (rel.mono g1) ?_
    cases e2 : g δ with
    | no => rw [e2] at hp; exact hp
    | er x => rw [e2] at hp; exact fun c dx B' H' g' rp => hp c dx B' H' (g1.trans g') rp
    | ok ds =>
      rw [e2, Res.bind_ok] at hp
      exact fun vs B2 H2 g2 r2 => hp _ B2 H2 (g1.trans g2) (.cons (Rp.mono g2.b r1) r2)
theorem ca_cons {e : Expr} {es : List Expr} {te : TE} {t : TA} {f : DS → Res D} {g : DS → Res (List D)} (ha : CE X W e te f) (hb : CL X W es t g) (hs : starEach (e :: es) X.env = (false, eval e X.env) :: starEach es X.env := by rfl) : CL X W (e :: es) (tCons te t) (cCons f g) :=
  ⟨⟨pa_cons ha.pe hb.pa hs, sa_cons ha.se hb.sa⟩, fun δ ds h => by
    unfold cCons at h
    cases e1 : f δ with
    | no => rw [e1] at h; cases h
    | er x => rw [e1] at h; cases h
    | ok d =>
      rw [e1, Res.bind_ok] at h
      cases e2 : g δ with
      | no => rw [e2] at h; cases h
      | er x => rw [e2] at h; cases h
      | ok ds' =>
        rw [e2, Res.bind_ok] at h
        cases h
        simp [hb.ln δ ds' e2]⟩
def cTup (f : DS → Res (List D)) : DS → Res D := fun δ => (f δ).bind fun ds => .ok (.tup ds)
theorem ce_tup {es : List Expr} {x1} {pos : Pos} {t : TA} {f : DS → Res (List D)} (h : CL X W es t f) (hl : es.length ≤ sizeLine := by decide) : CE X W (.Tuple es x1 pos) (tTup t) (cTup f) :=
  ⟨pe_tup h.pa, fun B0 H0 δ σ B H Q rel hp => by
    unfold cTup at hp
    refine h.sa B0 H0 δ σ B H _ rel ?_
    cases e : f δ with
    | no => rw [e] at hp; exact hp
    | er x => rw [e] at hp; exact hp
    | ok ds =>
      rw [e, Res.bind_ok] at hp
      intro vs B1 H1 g1 r1
      refine ⟨by rw [r1.length, h.ln δ ds e]; exact hl, fun p hp' => ?_⟩
      exact hp _ _ _ (g1.trans (Grow.new g1.i hp')) (.tup (SqT.of upd_same) (r1.mono (Grow.new g1.i hp').b))⟩
theorem cf_lst {es : List Expr} {pos : Pos} {t : TA} {f : DS → Res (List D)} (h : CL X W es t f) (hl : es.length ≤ sizeLine := by decide) : CF X W (.List es pos) (tLst t) f :=
  ⟨pe_lst h.pa, fun B0 H0 δ σ B H Q rel hp => by
    refine h.sa B0 H0 δ σ B H _ rel ?_
    cases e : f δ with
    | no => rw [e] at hp; exact hp
    | er x => rw [e] at hp; exact hp
    | ok ds =>
      rw [e] at hp
      intro vs B1 H1 g1 r1
      refine ⟨by rw [r1.length, h.ln δ ds e]; exact hl, fun p hp' => ?_⟩
      exact hp p vs B1 _ (g1.trans (Grow.raw g1.i hp')) (g1.free hp') (g1.i.free hp') upd_same r1⟩
/-- a new list as data -/
def cL (f : DS → Res (List D)) : DS → Res D := fun δ => (f δ).bind fun ds => .ok (.lst ds)
theorem se_of_sf {t : TE} {f : DS → Res (List D)} (h : SF K W t f) : SE K W t (cL f) := fun B0 H0 δ σ B H Q rel hp => by
  unfold cL at hp
  refine h B0 H0 δ σ B H _ rel ?_
  cases e : f δ with
  | no => rw [e] at hp; exact hp
  | er x => rw [e] at hp; exact hp
  | ok ds =>
    rw [e, Res.bind_ok] at hp
    intro p vs B1 H1 g1 h0 hb hh r1
    have sb : Same B1 (upd B1 p (.lst vs)) := same_new hb
    refine hp _ (upd B1 p (.lst vs)) H1 ⟨g1.b.trans sb, g1.h, fun a o q => ?_, fun a ha => ?_, g1.e, g1.t, fun h => (g1.n h).upd (fun _ z => by cases z)⟩ (.lst (SqL.of upd_same) (r1.mono sb))
    · by_cases hap : a = p
      · subst hap; rw [upd_same] at q; cases q; exact hh
      · rw [upd_ne hap] at q; exact g1.i a o q
    · have : a ≠ p := fun z => ha (by rw [z]; exact h0)
      rw [upd_ne this]
      exact g1.f a ha
theorem ce_l {e : Expr} {t : TE} {f : DS → Res (List D)} (h : CF X W e t f) : CE X W e t (cL f) := ⟨h.pe, se_of_sf h.sf⟩

/-! ### subscripts and slices -/
def oIx : D → D → Res D
  | .lst xs, .v (.int i) => match atI xs i with
    | some d => .ok d
    | none => .no
  | .tup xs, .v (.int i) => match atI xs i with
    | some d => .ok d
    | none => .no
  | .v (.str z), .v (.int i) => match atI z.cps.toList i with
    | some c => if z.length ≤ sizeLine then .ok (.str ⟨#[c]⟩) else .no
    | none => .no
  | _, _ => .no
theorem RpA.at_ {B : Hp} {vs : List V} {ds : List D} {i : Int} {d : D} (r : RpA K B vs ds) (h : atI ds i = some d) : ∃ v, atI vs i = some v ∧ Rp K B v d := by
  have hl := r.length
  unfold atI at h ⊢
  rw [hl]
  cases e : ixN ds.length i with
  | none => rw [e] at h; cases h
  | some j =>
    rw [e] at h
    exact r.get h
theorem ro_ix : RO K (rIx K) oIx := fun x y d e B H Q i rx ry h => by
  unfold oIx at h
  split at h
  · split at h
    · rename_i d' e'
      cases ry
      cases rx with
      | lst h1 q =>
        obtain ⟨v, e2, r2⟩ := q.at_ e'
        exact .inl ⟨_, _, _, v, rfl, rfl, i.seq h1, e2, h v B H (Grow.refl i) r2⟩
    · exact h.elim
  · split at h
    · rename_i d' e'
      cases ry
      cases rx with
      | tup h1 q =>
        obtain ⟨v, e2, r2⟩ := q.at_ e'
        exact .inr (.inl ⟨_, _, _, v, rfl, rfl, sqT_mono i h1, e2, h v B H (Grow.refl i) r2⟩)
    · exact h.elim
  · split at h
    · rename_i c e'
      split at h
      · rename_i hz
        cases ry
        cases rx
        exact .inr (.inr ⟨_, _, c, rfl, rfl, hz, e', h _ B H (Grow.refl i) (.v _)⟩)
      · exact h.elim
    · exact h.elim
  · exact h.elim
theorem cm_ix : Calm2 oIx := fun d e x => by unfold oIx; split <;> (try split) <;> (try split) <;> simp
theorem q_ce_ix {a b : Expr} {pos : Pos} {ta tb : TE} {fa fb : DS → Res D} (ha : CE X W a ta fa) (hb : CE X W b tb fb) (hs : PlainIx b := by exact fun _ _ => rfl) : CE X W (.Subscript a b pos) (tOp (rIx X.K) ta tb) (cBin oIx fa fb) := ⟨pe_ix ix_seq ha.pe hb.pe hs, se_op ro_ix cm_ix ha.se hb.se⟩
theorem ce_ix (K : PySem.W.Frag) (hK : X.K = K) {a b : Expr} {pos : Pos} {ta tb : TE} {fa fb : DS → Res D} (ha : CE X W a ta fa) (hb : CE X W b tb fb) (hs : PlainIx b := by exact fun _ _ => rfl) : CE X W (.Subscript a b pos) (tOp (rIx K) ta tb) (cBin oIx fa fb) := by
  subst hK
  exact (q_ce_ix ha hb hs)
end
end DV
namespace DV
open PySem L2
section
variable {X : Cx} {W : WX} {K : PySem.W.Frag}

/-! ### slices -/
def cutD (xs : List D) (lo hi : Option Int) : List D := (xs.drop (HT.sIx xs.length 0 lo)).take (HT.sIx xs.length xs.length hi - HT.sIx xs.length 0 lo)
theorem RpA.cut {B : Hp} {vs : List V} {ds : List D} (r : RpA K B vs ds) (lo hi : Option Int) : RpA K B (cutV vs lo hi) (cutD ds lo hi) := by
  unfold cutV cutD
  rw [r.length]
  exact (r.drop _).take _
def asI : D → Res (Option Int)
  | .v (.int i) => .ok (some i)
  | _ => .no
def cNone : DS → Res (Option Int) := fun _ => .ok none
def cSome (f : DS → Res D) : DS → Res (Option Int) := fun δ => (f δ).bind asI
def PostO (K : PySem.W.Frag) (B H : Hp) (σ : L2.St) (W : WX) (Q : Option Int → Hp → Prop) : Res (Option Int) → Prop
  | .ok o => ∀ B' H', Grow B H B' H' → Q o H'
  | .er x => ∀ c dx B' H', Grow B H B' H' → RpX K B' c dx x → W c dx σ H'
  | .no => False
structure CO (X : Cx) (W : WX) (e : Option Expr) (t : TO) (f : DS → Res (Option Int)) : Prop where
  po : PO X e t
  so : ∀ B0 H0 δ σ B H (Q : Option Int → Hp → Prop), Rel X.K B0 H0 B H σ δ → PostO X.K B H σ W Q (f δ) → t σ H Q
theorem co_none : CO X W none tNoPart cNone := ⟨po_none, fun B0 H0 δ σ B H Q rel hp => hp B H (Grow.refl rel.g.i)⟩
theorem co_some {e : Expr} {t : TE} {f : DS → Res D} (h : CE X W e t f) : CO X W (some e) (tPart t) (cSome f) := ⟨po_some h.pe, fun B0 H0 δ σ B H Q rel hp => by
  unfold cSome at hp
  refine h.se B0 H0 δ σ B H _ rel ?_
  cases e : f δ with
  | no => rw [e] at hp; exact hp
  | er x => rw [e] at hp; exact hp
  | ok d =>
    rw [e, Res.bind_ok] at hp
    intro v B1 H1 g1 r1
    unfold asI at hp
    split at hp
    · cases r1; exact ⟨_, rfl, hp B1 H1 g1⟩
    · exact hp.elim⟩
def oSl (lo hi : Option Int) : D → Res D
  | .lst xs => .ok (.lst (cutD xs lo hi))
  | .tup xs => .ok (.tup (cutD xs lo hi))
  | .v (.str z) => if z.length ≤ sizeLine then .ok (.str (cutS z lo hi)) else .no
  | _ => .no
def rSlD (K : PySem.W.Frag) : V → Option Int → Option Int → Hp → VK → Prop := fun x lo hi H Q => rSlL K x lo hi H Q ∨ rSlA K x lo hi H Q ∨ rSlS x lo hi H Q
theorem sl_D : SlR X (rSlD X.K) := sl_list.or (sl_tupA.or sl_str)
theorem cut_whole {xs : List V} {lo hi : Option Int} (h : HT.sIx xs.length 0 lo = 0 ∧ HT.sIx xs.length xs.length hi = xs.length) : cutV xs lo hi = xs := by
  unfold cutV
  rw [h.1, h.2]
  simp
theorem rs_sl {x : V} {d : D} {lo hi : Option Int} {B H : Hp} {Q : VK} (i : Same B H) (rx : Rp K B x d) (h : PostV K B H Q (oSl lo hi d)) : rSlD K x lo hi H Q := by
  unfold oSl at h
  split at h
  · cases rx with
    | lst h1 q => exact .inl ⟨_, _, rfl, i.seq h1, fun p hp => h _ _ _ (Grow.new i hp) (.lst (SqL.of upd_same) ((q.cut lo hi).mono (Grow.new i hp).b))⟩
  · cases rx with
    | tup h1 q =>
      refine .inr (.inl ⟨_, _, rfl, sqT_mono i h1, fun hw => ?_, fun hw p hp => ?_⟩)
      · refine h _ B H (Grow.refl i) ?_
        have q2 := q.cut lo hi
        rw [cut_whole hw] at q2
        exact .tup h1 q2
      · exact h _ _ _ (Grow.new i hp) (.tup (SqT.of upd_same) ((q.cut lo hi).mono (Grow.new i hp).b))
  · split at h
    · rename_i hz
      cases rx
      exact .inr (.inr ⟨_, rfl, hz, h _ B H (Grow.refl i) (.v _)⟩)
    · exact h.elim
  · exact h.elim
theorem cm_sl {lo hi : Option Int} {d : D} (x : Exn) : oSl lo hi d ≠ .er x := by unfold oSl; split <;> (try split) <;> simp
def cSl (f : DS → Res D) (lo hi : DS → Res (Option Int)) : DS → Res D := fun δ => (f δ).bind fun x => (lo δ).bind fun l => (hi δ).bind fun h => oSl l h x
theorem q_ce_sl {e : Expr} {lo hi : Option Expr} {p2 pos : Pos} {te : TE} {tl th : TO} {f : DS → Res D} {fl fh : DS → Res (Option Int)} (he : CE X W e te f) (hl : CO X W lo tl fl) (hh : CO X W hi th fh) : CE X W (.Subscript e (.Slice lo hi none p2) pos) (tSl (rSlD X.K) te tl th) (cSl f fl fh) :=
  ⟨pe_slice sl_D he.pe hl.po hh.po, fun B0 H0 δ σ B H Q rel hp => by
    unfold cSl at hp
    refine he.se B0 H0 δ σ B H _ rel ?_
    cases e : f δ with
    | no => rw [e] at hp; exact hp
    | er x => rw [e] at hp; exact hp
    | ok d =>
      rw [e, Res.bind_ok] at hp
      intro v B1 H1 g1 r1
      refine hl.so B0 H0 δ σ B1 H1 _ (rel.mono g1) ?_
      cases e2 : fl δ with
      | no => rw [e2] at hp; exact hp
      | er x => rw [e2] at hp; exact fun c dx B' H' g' rp => hp c dx B' H' (g1.trans g') rp
      | ok l =>
        rw [e2, Res.bind_ok] at hp
        intro B2 H2 g2
        refine hh.so B0 H0 δ σ B2 H2 _ ((rel.mono g1).mono g2) ?_
        cases e3 : fh δ with
        | no => rw [e3] at hp; exact hp
        | er x => rw [e3] at hp; exact fun c dx B' H' g' rp => hp c dx B' H' ((g1.trans g2).trans g') rp
        | ok h =>
          rw [e3, Res.bind_ok] at hp
          intro B3 H3 g3
          exact rs_sl g3.i (r1.mono (g2.b.trans g3.b)) (postV_of (postE_mono ((g1.trans g2).trans g3) hp) fun x => cm_sl x)⟩
theorem ce_sl (K : PySem.W.Frag) (hK : X.K = K) {e : Expr} {lo hi : Option Expr} {p2 pos : Pos} {te : TE} {tl th : TO} {f : DS → Res D} {fl fh : DS → Res (Option Int)} (he : CE X W e te f) (hl : CO X W lo tl fl) (hh : CO X W hi th fh) : CE X W (.Subscript e (.Slice lo hi none p2) pos) (tSl (rSlD K) te tl th) (cSl f fl fh) := by
  subst hK
  exact (q_ce_sl he hl hh)
/-- xs[::-1], a list -/
def oRevL : D → Res D
  | .lst xs => .ok (.lst xs.reverse)
  | _ => .no
theorem ce_revL {e : Expr} {k : Nat} {p1 p2 p3 pos : Pos} {te : TE} {f : DS → Res D} (he : CE X W e te f) : CE X W (.Subscript e (.Slice none none (some (.UnaryOp .USub (.Constant (.int 1) k p1) p2)) p3) pos) (tRevL X.K te) (cUn oRevL f) :=
  ⟨pe_revL he.pe, fun B0 H0 δ σ B H Q rel hp => by
    unfold cUn at hp
    refine he.se B0 H0 δ σ B H _ rel ?_
    cases e : f δ with
    | no => rw [e] at hp; exact hp
    | er x => rw [e] at hp; exact hp
    | ok d =>
      rw [e, Res.bind_ok] at hp
      intro v B1 H1 g1 r1
      unfold oRevL at hp
      split at hp
      · cases r1 with
        | lst h1 q => exact ⟨_, _, rfl, g1.i.seq h1, fun p hp' => hp _ _ _ (g1.trans (Grow.new g1.i hp')) (.lst (SqL.of upd_same) (q.reverse.mono (Grow.new g1.i hp').b))⟩
      · exact hp.elim⟩

/-! ### built-in functions -/
def RC (K : PySem.W.Frag) (r : List V → Hp → VK → Prop) (g : List D → Res D) : Prop := ∀ vs ds B H Q, Same B H → RpA K B vs ds → PostV K B H Q (g ds) → r vs H Q
structure OKC (X : Cx) (f : Value) (r : List V → Hp → VK → Prop) (g : List D → Res D) : Prop where
  o : CallR X f r
  r : RC X.K r g
  c : ∀ ds x, g ds ≠ .er x
def cCall (g : List D → Res D) (f : DS → Res (List D)) : DS → Res D := fun δ => (f δ).bind g
theorem se_call {t : TA} {f : DS → Res (List D)} {r : List V → Hp → VK → Prop} {g : List D → Res D} (hr : RC K r g) (hc : ∀ ds x, g ds ≠ .er x) (h : SA K W t f) : SE K W (tCB r t) (cCall g f) := fun B0 H0 δ σ B H Q rel hp => by
  unfold cCall at hp
  refine h B0 H0 δ σ B H _ rel ?_
  cases e : f δ with
  | no => rw [e] at hp; exact hp
  | er x => rw [e] at hp; exact hp
  | ok ds =>
    rw [e, Res.bind_ok] at hp
    intro vs B1 H1 g1 r1
    exact hr vs ds B1 H1 Q g1.i r1 (postV_of (postE_mono g1 hp) (hc ds))
theorem ce_callB {id : String} {x : Str} {e : Expr} {es : List Expr} {p pos : Pos} {r : List V → Hp → VK → Prop} {g : List D → Res D} {t : TA} {f : DS → Res (List D)} (o : OKC X (.builtin id) r g) (hm : X.mg x = none) (hv : bootBuiltins x = some (.builtin id)) (ha : CL X W (e :: es) t f) (hg : Gl X x := by rfl) (hn : x ≠ "__name__" := by decide) (hdb : (x == ("__debug__" : Str)) = false := by decide)
    (he : starEach (e :: es) X.env = (false, eval e X.env) :: starEach es X.env := by rfl) (hpl : (backTo pos (starEach es X.env)).any (·.1) = false := by rfl) : CE X W (.Call (.Name x p) (e :: es) [] pos) (tCB r t) (cCall g f) := ⟨pe_callB o.o hg hm hv ha.pa hn hdb he hpl, se_call o.r o.c ha.sa⟩
theorem ce_callTy {T : String} {x : Str} {e : Expr} {es : List Expr} {p pos : Pos} {r : List V → Hp → VK → Prop} {g : List D → Res D} {t : TA} {f : DS → Res (List D)} (o : OKC X (.type T) r g) (hm : X.mg x = none) (hv : bootBuiltins x = some (.type T)) (ha : CL X W (e :: es) t f) (hg : Gl X x := by rfl) (hn : x ≠ "__name__" := by decide) (hdb : (x == ("__debug__" : Str)) = false := by decide)
    (he : starEach (e :: es) X.env = (false, eval e X.env) :: starEach es X.env := by rfl) (hpl : (backTo pos (starEach es X.env)).any (·.1) = false := by rfl) : CE X W (.Call (.Name x p) (e :: es) [] pos) (tCB r t) (cCall g f) := ⟨pe_callTy o.o hg hm hv ha.pa hn hdb he hpl, se_call o.r o.c ha.sa⟩

def gAbs : List D → Res D
  | [.v (.int i)] => .ok (.int (if i < 0 then -i else i))
  | _ => .no
theorem k_abs : OKC X (.builtin "abs") (fun xs H Q => ∃ i, xs = [.int i] ∧ Q (.int (if i < 0 then -i else i)) H) gAbs := ⟨call_abs, fun vs ds B H Q i r h => by
  unfold gAbs at h
  split at h
  · cases r with
    | cons r1 r2 => cases r2; cases r1; exact ⟨_, rfl, h _ B H (Grow.refl i) (.v _)⟩
  · exact h.elim, fun ds x => by unfold gAbs; split <;> simp⟩
def gLen : List D → Res D
  | [.lst xs] => .ok (.int (xs.length : Nat))
  | [.tup xs] => .ok (.int (xs.length : Nat))
  | [.v (.str z)] => if z.length ≤ sizeLine then .ok (.int (z.length : Nat)) else .no
  | _ => .no
theorem q_k_len : OKC X (.builtin "len") (fun xs H Q => ∃ x n, xs = [x] ∧ LenV X.K x H n ∧ Q (.int n) H) gLen := ⟨call_len, fun vs ds B H Q i r h => by
  unfold gLen at h
  split at h
  · cases r with
    | cons r1 r2 =>
      cases r2
      cases r1 with
      | lst h1 q => exact ⟨_, _, rfl, .inl ⟨_, i.seq h1, rfl⟩, by rw [q.length]; exact h _ B H (Grow.refl i) (.v _)⟩
  · cases r with
    | cons r1 r2 =>
      cases r2
      cases r1 with
      | tup h1 q => exact ⟨_, _, rfl, .inr ⟨_, sqT_mono i h1, rfl⟩, by rw [q.length]; exact h _ B H (Grow.refl i) (.v _)⟩
  · split at h
    · rename_i hz
      cases r with
      | cons r1 r2 => cases r2; cases r1; exact ⟨_, _, rfl, ⟨hz, rfl⟩, h _ B H (Grow.refl i) (.v _)⟩
    · exact h.elim
  · exact h.elim, fun ds x => by unfold gLen; split <;> (try split) <;> simp⟩
theorem k_len (K : PySem.W.Frag) (hK : X.K = K) : OKC X (.builtin "len") (fun xs H Q => ∃ x n, xs = [x] ∧ LenV K x H n ∧ Q (.int n) H) gLen := by
  subst hK
  exact (q_k_len )
/-- a list of ints, of bools -/
def intsD : List D → Option (List Int)
  | [] => some []
  | .v (.int i) :: ds => (intsD ds).map (i :: ·)
  | _ => none
def blsD : List D → Option (List Bool)
  | [] => some []
  | .v (.bl i) :: ds => (blsD ds).map (i :: ·)
  | _ => none
theorem intsD_of : ∀ {ds : List D} {ns : List Int}, intsD ds = some ns → ds = ns.map D.int
  | [], ns, h => by cases h; rfl
  | d :: ds, ns, h => by
    unfold intsD at h
    split at h
    · rename_i e; cases e
    · rename_i i ds' e
      cases e
      cases q : intsD ds with
      | none => rw [q] at h; cases h
      | some ms => rw [q] at h; cases h; rw [intsD_of q]; rfl
    · cases h
theorem blsD_of : ∀ {ds : List D} {ns : List Bool}, blsD ds = some ns → ds = ns.map D.bl
  | [], ns, h => by cases h; rfl
  | d :: ds, ns, h => by
    unfold blsD at h
    split at h
    · rename_i e; cases e
    · rename_i i ds' e
      cases e
      cases q : blsD ds with
      | none => rw [q] at h; cases h
      | some ms => rw [q] at h; cases h; rw [blsD_of q]; rfl
    · cases h
@[simp] theorem intsD_map (ns : List Int) : intsD (ns.map D.int) = some ns := by
  induction ns with
  | nil => rfl
  | cons n ns ih => simp [intsD, ih]
@[simp] theorem blsD_map (ns : List Bool) : blsD (ns.map D.bl) = some ns := by
  induction ns with
  | nil => rfl
  | cons n ns ih => simp [blsD, ih]
def gInts (g : List Int → Res D) : List D → Res D
  | [.lst ds] => match intsD ds with
    | some ns => g ns
    | none => .no
  | _ => .no
def gBls (g : List Bool → Res D) : List D → Res D
  | [.lst ds] => match blsD ds with
    | some ns => g ns
    | none => .no
  | _ => .no
theorem rc_ints {r : List V → Hp → VK → Prop} {g : List Int → Res D} (h : ∀ a ns B H Q, Same B H → SqL K H a (ns.map V.int) → PostV K B H Q (g ns) → r [.ref a] H Q) : RC K r (gInts g) := fun vs ds B H Q i rr hp => by
  unfold gInts at hp
  split at hp
  · split at hp
    · rename_i ds ns e
      cases rr with
      | cons r1 r2 =>
        cases r2
        cases r1 with
        | lst h1 q =>
          rw [intsD_of e] at q
          have e2 := q.ints_of
          subst e2
          exact h _ _ B H Q i (i.seq h1) hp
    · exact hp.elim
  · exact hp.elim
theorem rc_bls {r : List V → Hp → VK → Prop} {g : List Bool → Res D} (h : ∀ a ns B H Q, Same B H → SqL K H a (ns.map V.bl) → PostV K B H Q (g ns) → r [.ref a] H Q) : RC K r (gBls g) := fun vs ds B H Q i rr hp => by
  unfold gBls at hp
  split at hp
  · split at hp
    · rename_i ds ns e
      cases rr with
      | cons r1 r2 =>
        cases r2
        cases r1 with
        | lst h1 q =>
          rw [blsD_of e] at q
          have e2 := q.bls_of
          subst e2
          exact h _ _ B H Q i (i.seq h1) hp
    · exact hp.elim
  · exact hp.elim
theorem gInts_calm {g : List Int → Res D} (h : ∀ ns x, g ns ≠ .er x) (ds : List D) (x : Exn) : gInts g ds ≠ .er x := by
  unfold gInts; split <;> (try split) <;> first | exact h _ _ | simp
theorem gBls_calm {g : List Bool → Res D} (h : ∀ ns x, g ns ≠ .er x) (ds : List D) (x : Exn) : gBls g ds ≠ .er x := by
  unfold gBls; split <;> (try split) <;> first | exact h _ _ | simp
def gSum : List D → Res D := gInts fun ns => .ok (.int ns.sum)
def gAll : List D → Res D := gBls fun bs => .ok (.bl (bs.all id))
def gAny : List D → Res D := gBls fun bs => .ok (.bl (bs.any id))
theorem q_k_sum (hc : X.calm = true := by rfl) : OKC X (.builtin "sum") (rSum X.K) gSum := ⟨cr_sum hc, rc_ints fun a ns B H Q i hs hp => ⟨a, ns, rfl, hs, hp _ B H (Grow.refl i) (.v _)⟩, gInts_calm fun _ _ => by simp⟩
theorem k_sum (K : PySem.W.Frag) (hK : X.K = K) (hc : X.calm = true := by rfl) : OKC X (.builtin "sum") (rSum K) gSum := by
  subst hK
  exact (q_k_sum hc)
theorem q_k_all (hc : X.calm = true := by rfl) : OKC X (.builtin "all") (rAll X.K) gAll := ⟨cr_all hc, rc_bls fun a ns B H Q i hs hp => ⟨a, ns, rfl, hs, hp _ B H (Grow.refl i) (.v _)⟩, gBls_calm fun _ _ => by simp⟩
theorem k_all (K : PySem.W.Frag) (hK : X.K = K) (hc : X.calm = true := by rfl) : OKC X (.builtin "all") (rAll K) gAll := by
  subst hK
  exact (q_k_all hc)
theorem q_k_any (hc : X.calm = true := by rfl) : OKC X (.builtin "any") (rAny X.K) gAny := ⟨cr_any hc, rc_bls fun a ns B H Q i hs hp => ⟨a, ns, rfl, hs, hp _ B H (Grow.refl i) (.v _)⟩, gBls_calm fun _ _ => by simp⟩
theorem k_any (K : PySem.W.Frag) (hK : X.K = K) (hc : X.calm = true := by rfl) : OKC X (.builtin "any") (rAny K) gAny := by
  subst hK
  exact (q_k_any hc)
/-- least and greatest -/
def minI : Int → List Int → Int
  | m, [] => m
  | m, n :: ns => minI (if n < m then n else m) ns
def maxI : Int → List Int → Int
  | m, [] => m
  | m, n :: ns => maxI (if m < n then n else m) ns
theorem minI_spec : ∀ (ns : List Int) (m : Int), minI m ns ∈ m :: ns ∧ ∀ y ∈ m :: ns, minI m ns ≤ y
  | [], m => by simp [minI]
  | n :: ns, m => by
    obtain ⟨h1, h2⟩ := minI_spec ns (if n < m then n else m)
    unfold minI
    refine ⟨?_, fun y hy => ?_⟩
    · rcases List.mem_cons.mp h1 with e | e
      · rw [e]; split <;> simp
      · simp [e]
    · have h3 := h2 (if n < m then n else m) (by simp)
      have h4 : (if n < m then n else m) ≤ m ∧ (if n < m then n else m) ≤ n := by split <;> omega
      rcases List.mem_cons.mp hy with e | e
      · subst e; exact Int.le_trans h3 h4.1
      · rcases List.mem_cons.mp e with e | e
        · subst e; exact Int.le_trans h3 h4.2
        · exact h2 y (by simp [e])
theorem maxI_spec : ∀ (ns : List Int) (m : Int), maxI m ns ∈ m :: ns ∧ ∀ y ∈ m :: ns, y ≤ maxI m ns
  | [], m => by simp [maxI]
  | n :: ns, m => by
    obtain ⟨h1, h2⟩ := maxI_spec ns (if m < n then n else m)
    unfold maxI
    refine ⟨?_, fun y hy => ?_⟩
    · rcases List.mem_cons.mp h1 with e | e
      · rw [e]; split <;> simp
      · simp [e]
    · have h3 := h2 (if m < n then n else m) (by simp)
      have h4 : m ≤ (if m < n then n else m) ∧ n ≤ (if m < n then n else m) := by split <;> omega
      rcases List.mem_cons.mp hy with e | e
      · subst e; exact Int.le_trans h4.1 h3
      · rcases List.mem_cons.mp e with e | e
        · subst e; exact Int.le_trans h4.2 h3
        · exact h2 y (by simp [e])
def gMin : List D → Res D
  | [.v (.int i), .v (.int j)] => .ok (.int (if j < i then j else i))
  | ds => gInts (fun ns => match ns with | [] => .no | n :: ns => .ok (.int (minI n ns))) ds
def gMax : List D → Res D
  | [.v (.int i), .v (.int j)] => .ok (.int (if j > i then j else i))
  | ds => gInts (fun ns => match ns with | [] => .no | n :: ns => .ok (.int (maxI n ns))) ds
theorem q_k_min (hc : X.calm = true := by rfl) : OKC X (.builtin "min") (fun xs H Q => (∃ i j, xs = [V.int i, .int j] ∧ Q (.int (if j < i then j else i)) H) ∨ rMin X.K xs H Q) gMin := ⟨CallR.or (call_min2 hc) (cr_min hc), fun vs ds B H Q i r h => by
  unfold gMin at h
  split at h
  · cases r with
    | cons r1 r2 =>
      cases r2 with
      | cons r2 r3 => cases r1; cases r2; cases r3; exact .inl ⟨_, _, rfl, h _ B H (Grow.refl i) (.v _)⟩
  · refine .inr (rc_ints (r := rMin X.K) (fun a ns B H Q i hs hp => ?_) vs ds B H Q i r h)
    cases ns with
    | nil => exact hp.elim
    | cons n ns =>
      refine ⟨a, n :: ns, rfl, hs, by simp, fun m hm hl => ?_⟩
      obtain ⟨h1, h2⟩ := minI_spec ns n
      have e : m = minI n ns := Int.le_antisymm (hl _ h1) (h2 _ hm)
      rw [e]
      exact hp _ B H (Grow.refl i) (.v _), fun ds x => by
  unfold gMin
  split
  · simp
  · exact gInts_calm (fun ns x => by cases ns <;> simp) _ _⟩
theorem k_min (K : PySem.W.Frag) (hK : X.K = K) (hc : X.calm = true := by rfl) : OKC X (.builtin "min") (fun xs H Q => (∃ i j, xs = [V.int i, .int j] ∧ Q (.int (if j < i then j else i)) H) ∨ rMin K xs H Q) gMin := by
  subst hK
  exact (q_k_min hc)
theorem q_k_max (hc : X.calm = true := by rfl) : OKC X (.builtin "max") (fun xs H Q => (∃ i j, xs = [V.int i, .int j] ∧ Q (.int (if j > i then j else i)) H) ∨ rMax X.K xs H Q) gMax := ⟨CallR.or (call_max2 hc) (cr_max hc), fun vs ds B H Q i r h => by
  unfold gMax at h
  split at h
  · cases r with
    | cons r1 r2 =>
      cases r2 with
      | cons r2 r3 => cases r1; cases r2; cases r3; exact .inl ⟨_, _, rfl, h _ B H (Grow.refl i) (.v _)⟩
  · refine .inr (rc_ints (r := rMax X.K) (fun a ns B H Q i hs hp => ?_) vs ds B H Q i r h)
    cases ns with
    | nil => exact hp.elim
    | cons n ns =>
      refine ⟨a, n :: ns, rfl, hs, by simp, fun m hm hl => ?_⟩
      obtain ⟨h1, h2⟩ := maxI_spec ns n
      have e : m = maxI n ns := Int.le_antisymm (h2 _ hm) (hl _ h1)
      rw [e]
      exact hp _ B H (Grow.refl i) (.v _), fun ds x => by
  unfold gMax
  split
  · simp
  · exact gInts_calm (fun ns x => by cases ns <;> simp) _ _⟩
theorem k_max (K : PySem.W.Frag) (hK : X.K = K) (hc : X.calm = true := by rfl) : OKC X (.builtin "max") (fun xs H Q => (∃ i j, xs = [V.int i, .int j] ∧ Q (.int (if j > i then j else i)) H) ∨ rMax K xs H Q) gMax := by
  subst hK
  exact (q_k_max hc)
def sortI (ns : List Int) : List Int := ns.mergeSort (fun a b => decide (a ≤ b))
theorem sortI_perm (ns : List Int) : (sortI ns).Perm ns := List.mergeSort_perm ns _
theorem sortI_sorted (ns : List Int) : (sortI ns).Pairwise (· ≤ ·) := by
  have h := List.pairwise_mergeSort (le := fun (a b : Int) => decide (a ≤ b)) (fun a b c h1 h2 => by simp at *; omega) (fun a b => by simp; omega) ns
  exact h.imp fun h => by simpa using h
theorem sortI_unique {ns ms : List Int} (hp : ms.Perm ns) (hs : ms.Pairwise (· ≤ ·)) : ms = sortI ns :=
  List.Perm.eq_of_pairwise (fun _ _ _ _ a b => Int.le_antisymm a b) hs (sortI_sorted ns) (hp.trans (sortI_perm ns).symm)
def gSortedI : List D → Res D := gInts fun ns => .ok (.lst ((sortI ns).map D.int))
theorem q_k_sortedI : OKC X (.builtin "sorted") (rSortedI X.K) gSortedI := ⟨cr_sortedI, rc_ints fun a ns B H Q i hs hp => ⟨a, ns, rfl, hs, fun ns' p h1 h2 h3 => by
  rw [sortI_unique h1 h2]
  exact hp _ _ _ (Grow.new i h3) (.lst (SqL.of upd_same) (RpA.ints _))⟩, gInts_calm fun _ _ => by simp⟩
theorem k_sortedI (K : PySem.W.Frag) (hK : X.K = K) : OKC X (.builtin "sorted") (rSortedI K) gSortedI := by
  subst hK
  exact (q_k_sortedI )
def gTuple : List D → Res D
  | [.lst xs] => .ok (.tup xs)
  | [.tup xs] => .ok (.tup xs)
  | _ => .no
theorem q_k_tuple : OKC X (.type "tuple") (fun xs H Q => ∃ p ys, xs = [.ref p] ∧ ((SqL X.K H p ys ∧ ∀ l, H l = none → Q (.ref l) (upd H l (.tup ys))) ∨ (SqT X.K H p ys ∧ Q (.ref p) H))) gTuple := ⟨call_tuple_of, fun vs ds B H Q i r h => by
  unfold gTuple at h
  split at h
  · cases r with
    | cons r1 r2 =>
      cases r2
      cases r1 with
      | lst h1 q => exact ⟨_, _, rfl, .inl ⟨i.seq h1, fun p hp => h _ _ _ (Grow.new i hp) (.tup (SqT.of upd_same) (q.mono (Grow.new i hp).b))⟩⟩
  · cases r with
    | cons r1 r2 =>
      cases r2
      cases r1 with
      | tup h1 q => exact ⟨_, _, rfl, .inr ⟨sqT_mono i h1, h _ B H (Grow.refl i) (.tup h1 q)⟩⟩
  · exact h.elim, fun ds x => by unfold gTuple; split <;> simp⟩
theorem k_tuple (K : PySem.W.Frag) (hK : X.K = K) : OKC X (.type "tuple") (fun xs H Q => ∃ p ys, xs = [.ref p] ∧ ((SqL K H p ys ∧ ∀ l, H l = none → Q (.ref l) (upd H l (.tup ys))) ∨ (SqT K H p ys ∧ Q (.ref p) H))) gTuple := by
  subst hK
  exact (q_k_tuple )
def gList : List D → Res D
  | [.lst xs] => .ok (.lst xs)
  | [.tup xs] => .ok (.lst xs)
  | _ => .no
theorem q_k_list : OKC X (.type "list") (fun xs H Q => ∃ p ys, xs = [.ref p] ∧ (SqL X.K H p ys ∨ SqT X.K H p ys) ∧ ∀ l, H l = none → Q (.ref l) (upd H l (.lst ys))) gList := ⟨call_list_of, fun vs ds B H Q i r h => by
  unfold gList at h
  split at h
  · cases r with
    | cons r1 r2 =>
      cases r2
      cases r1 with
      | lst h1 q => exact ⟨_, _, rfl, .inl (i.seq h1), fun p hp => h _ _ _ (Grow.new i hp) (.lst (SqL.of upd_same) (q.mono (Grow.new i hp).b))⟩
  · cases r with
    | cons r1 r2 =>
      cases r2
      cases r1 with
      | tup h1 q => exact ⟨_, _, rfl, .inr (sqT_mono i h1), fun p hp => h _ _ _ (Grow.new i hp) (.lst (SqL.of upd_same) (q.mono (Grow.new i hp).b))⟩
  · exact h.elim, fun ds x => by unfold gList; split <;> simp⟩
theorem k_list (K : PySem.W.Frag) (hK : X.K = K) : OKC X (.type "list") (fun xs H Q => ∃ p ys, xs = [.ref p] ∧ (SqL K H p ys ∨ SqT K H p ys) ∧ ∀ l, H l = none → Q (.ref l) (upd H l (.lst ys))) gList := by
  subst hK
  exact (q_k_list )
/-- isinstance(d, T), T a built-in type -/
def tyD : D → Option String
  | .v .non => some "NoneType"
  | .v (.bl _) => some "bool"
  | .v (.int _) => some "int"
  | .v (.str _) => some "str"
  | .lst _ => some "list"
  | .tup _ => some "tuple"
  | _ => none
end
end DV
namespace DV
open PySem L2
section
variable {X : Cx} {W : WX} {K : PySem.W.Frag}

/-! ### isinstance -/
def isiD (d : D) (T : String) : Option Bool := match tyD d with
  | some t => if T = "int" then some (t == "int" || t == "bool") else if T = "bool" then some (t == "bool") else if T = "str" then some (t == "str") else if T = "list" then some (t == "list") else if T = "tuple" then some (t == "tuple") else none
  | none => none
def tys : List String := ["NoneType", "bool", "int", "str", "list", "tuple"]
theorem kit_all : (tys.all fun t => kitB t "int" == some (t == "int" || t == "bool") && kitB t "bool" == some (t == "bool") && kitB t "str" == some (t == "str") && kitB t "list" == some (t == "list") && kitB t "tuple" == some (t == "tuple")) = true := by decide +kernel
theorem tyD_mem {d : D} {t : String} (h : tyD d = some t) : t ∈ tys := by
  unfold tyD at h
  split at h <;> first | (cases h; decide) | cases h
theorem kit_isi {d : D} {T t : String} {b : Bool} (ht : tyD d = some t) (h : isiD d T = some b) : kitB t T = some b := by
  have hm := List.all_eq_true.mp kit_all t (tyD_mem ht)
  simp only [Bool.and_eq_true, beq_iff_eq] at hm
  unfold isiD at h
  rw [ht] at h
  dsimp only at h
  obtain ⟨⟨⟨⟨h1, h2⟩, h3⟩, h4⟩, h5⟩ := hm
  split at h
  · rename_i e; rw [e, h1]; exact h
  · split at h
    · rename_i e; rw [e, h2]; exact h
    · split at h
      · rename_i e; rw [e, h3]; exact h
      · split at h
        · rename_i e; rw [e, h4]; exact h
        · split at h
          · rename_i e; rw [e, h5]; exact h
          · cases h
theorem tyX_of {B H : Hp} {x : V} {d : D} {t : String} (i : Same B H) (r : Rp K B x d) (ht : tyD d = some t) : TyX K H x (.type t) := by
  cases r with
  | v x =>
    unfold tyD at ht
    cases x <;> first | (cases ht; exact .base .non) | (cases ht; exact .base (.bl _)) | (cases ht; exact .base (.int _)) | (cases ht; exact .base (.str _)) | cases ht
  | lst h q =>
    cases ht
    rcases h with (h | ⟨o, h⟩) | ⟨o, its, n, h1, h2, _⟩
    · exact .base (.lst (i _ _ h))
    · exact .base (.frz (i _ _ h))
    · exact .kList h1 h2
  | tup h q =>
    cases ht
    rcases h with (h | ⟨o, h⟩) | ⟨o, its, n, h1, h2, _⟩
    · exact .base (.tup (i _ _ h))
    · exact .fTuple (i _ _ h)
    · exact .kTuple h1 h2
def gIsi : List D → Res D
  | [d, .v (.ty T)] => match isiD d T with
    | some b => .ok (.bl b)
    | none => .no
  | _ => .no
theorem q_k_isi : OKC X (.builtin "isinstance") (rIsi X.K) gIsi := ⟨call_isi, fun vs ds B H Q i r h => by
  unfold gIsi at h
  split at h
  · split at h
    · rename_i d T _ b e
      cases r with
      | cons r1 r2 =>
        cases r2 with
        | cons r2 r3 =>
          cases r2
          cases r3
          cases ht : tyD d with
          | none => unfold isiD at e; rw [ht] at e; cases e
          | some t => exact ⟨_, _, _, _, b, rfl, .ty T, tyX_of i r1 ht, kit_ty (kit_isi ht e), h _ B H (Grow.refl i) (.v _)⟩
    · exact h.elim
  · exact h.elim, fun ds x => by unfold gIsi; split <;> (try split) <;> simp⟩

theorem k_isi (K : PySem.W.Frag) (hK : X.K = K) : OKC X (.builtin "isinstance") (rIsi K) gIsi := by
  subst hK
  exact (q_k_isi )
/-! ### targets -/
def wipeD (δ : DS) : List Nat → DS
  | [] => δ
  | v :: vs => (wipeD δ vs).set v none
theorem Rel.wipe {B0 H0 B H : Hp} {σ : L2.St} {δ : DS} (r : Rel K B0 H0 B H σ δ) : ∀ vs : List Nat, Rel K B0 H0 B H (wipe σ vs) (wipeD δ vs)
  | [] => r
  | v :: vs => (Rel.wipe r vs).drop v
theorem wipe_get (σ : L2.St) (j : Nat) : ∀ vs : List Nat, (wipe σ vs)[j]? = if j ∈ vs ∧ j < σ.length then some none else σ[j]?
  | [] => by simp [wipe]
  | v :: vs => by
    unfold wipe
    by_cases hv : v = j
    · subst hv
      by_cases hl : v < σ.length
      · rw [List.getElem?_set_self (by rw [wipe_length]; exact hl), if_pos ⟨by simp, hl⟩]
      · rw [if_neg (fun z => hl z.2), List.getElem?_eq_none (by simp [wipe_length]; omega), List.getElem?_eq_none (by omega)]
    · rw [List.getElem?_set_ne hv, wipe_get σ j vs]
      have hv' : ¬ j = v := fun e => hv e.symm
      simp only [List.mem_cons, hv', false_or]
theorem wipe_eq {σ σ' : L2.St} {vs : List Nat} (hl : σ'.length = σ.length) (h : ∀ j, j ∉ vs → σ'[j]? = σ[j]?) : wipe σ' vs = wipe σ vs := by
  apply List.ext_getElem?
  intro j
  rw [wipe_get, wipe_get, hl]
  by_cases hj : j ∈ vs
  · by_cases h2 : j < σ.length
    · rw [if_pos ⟨hj, h2⟩, if_pos ⟨hj, h2⟩]
    · rw [if_neg (fun z => h2 z.2), if_neg (fun z => h2 z.2), List.getElem?_eq_none (by omega), List.getElem?_eq_none (by omega)]
  · rw [if_neg (fun z => hj z.1), if_neg (fun z => hj z.1)]
    exact h j hj
/-- a target: the slots that it sets, what it makes of the state -/
structure CG (X : Cx) (tg : Expr) (g : TG) (is : List Nat) (b : D → DS → Option DS) : Prop where
  pg : PG X tg g
  sg : ∀ B0 H0 B H σ δ v d (Q : L2.St → Hp → Prop), Rel X.K B0 H0 B H σ δ → Rp X.K B v d → (∀ δ' σ', b d δ = some δ' → Rel X.K B0 H0 B H σ' δ' → σ'.length = σ.length → (∀ j, j ∉ is → σ'[j]? = σ[j]?) → Q σ' H) → b d δ ≠ none → g v σ H Q
structure CGs (X : Cx) (tgs : List Expr) (g : TGs) (is : List Nat) (b : List D → DS → Option DS) : Prop where
  pg : PGs X tgs g
  sg : ∀ B0 H0 B H σ δ vs ds (Q : L2.St → Hp → Prop), Rel X.K B0 H0 B H σ δ → RpA X.K B vs ds → (∀ δ' σ', b ds δ = some δ' → Rel X.K B0 H0 B H σ' δ' → σ'.length = σ.length → (∀ j, j ∉ is → σ'[j]? = σ[j]?) → Q σ' H) → b ds δ ≠ none → g vs σ H Q
def bName (i : Nat) : D → DS → Option DS := fun d δ => some (δ.set i (some (.im d)))
theorem cg_name (i : Nat) {x : Str} {pos : Pos} (hN : X.N.Nodup) (hi : X.N[i]? = some x := by rfl) (hx : Loc X.env.scope x := by first | exact Or.inl rfl | exact Or.inr rfl) (hf : X.fn x = true ∨ X.env.scope.names.lookup x = some .local := by first | exact .inl rfl | exact .inr rfl | assumption) : CG X (.Name x pos) (gName i) [i] (bName i) :=
  ⟨pg_name hN hi hx hf, fun B0 H0 B H σ δ v d Q rel rp h _ => h _ _ rfl (rel.set i rp) (by simp) fun j hj => by
    rw [List.getElem?_set_ne]
    intro e
    exact hj (by simp [e])⟩
def bNil : List D → DS → Option DS := fun ds δ => match ds with
  | [] => some δ
  | _ => none
def bCons (b : D → DS → Option DS) (c : List D → DS → Option DS) : List D → DS → Option DS := fun ds δ => match ds with
  | [] => none
  | d :: ds => (b d δ).bind fun δ' => c ds δ'
def bTup (n : Nat) (c : List D → DS → Option DS) : D → DS → Option DS := fun d δ => match d with
  | .tup ds => if ds.length = n then c ds δ else none
  | _ => none
theorem cgs_nil : CGs X [] gNil [] bNil := ⟨pgs_nil, fun B0 H0 B H σ δ vs ds Q rel rp h hn => by
  cases rp with
  | nil => exact ⟨rfl, h δ σ rfl rel rfl fun _ _ => rfl⟩
  | cons _ _ => exact absurd rfl hn⟩
theorem cgs_cons {e : Expr} {es : List Expr} {t : TG} {u : TGs} {is js : List Nat} {b : D → DS → Option DS} {c : List D → DS → Option DS} (h1 : CG X e t is b) (h2 : CGs X es u js c) (hs : (assignEach (e :: es) X.env).map (·.2) = assign e X.env :: (assignEach es X.env).map (·.2)) : CGs X (e :: es) (gCons t u) (is ++ js) (bCons b c) :=
  ⟨pgs_cons h1.pg h2.pg hs, fun B0 H0 B H σ δ vs ds Q rel rp h hn => by
    cases rp with
    | nil => exact absurd rfl hn
    | @cons v vs d ds r1 r2 =>
      refine ⟨v, vs, rfl, ?_⟩
      have e0 : bCons b c (d :: ds) δ = (b d δ).bind fun δ' => c ds δ' := rfl
      rw [e0] at hn
      refine h1.sg B0 H0 B H σ δ v d _ rel r1 (fun δ1 σ1 e1 rel1 l1 f1 => ?_) (fun z => hn (by rw [z]; rfl))
      rw [e1] at hn
      refine h2.sg B0 H0 B H σ1 δ1 vs ds _ rel1 r2 (fun δ2 σ2 e2 rel2 l2 f2 => ?_) hn
      refine h δ2 σ2 (by rw [e0, e1]; exact e2) rel2 (l2.trans l1) fun j hj => ?_
      rw [List.mem_append, not_or] at hj
      exact (f2 j hj.2).trans (f1 j hj.1)⟩
theorem q_cg_tup {es : List Expr} {kk : Nat} {pos : Pos} {t : TGs} {n : Nat} {is : List Nat} {c : List D → DS → Option DS} (hc : X.calm = true) (h : CGs X es t is c) (hn : (assignEach es X.env).length = n) (hst : (assignEach es X.env).findIdx? (·.1) = none) : CG X (.Tuple es kk pos) (gTup X.K n t) is (bTup n c) :=
  ⟨pg_tup hc h.pg hn hst, fun B0 H0 B H σ δ v d Q rel rp hq hn => by
    unfold bTup at hn
    split at hn
    · rename_i ds
      split at hn
      · rename_i hl
        cases rp with
        | tup h1 q =>
          refine ⟨_, _, rfl, sqT_mono rel.g.i h1, by rw [q.length]; exact hl, ?_⟩
          refine h.sg B0 H0 B H σ δ _ ds _ rel q (fun δ' σ' e r l f => hq δ' σ' ?_ r l f) hn
          unfold bTup
          dsimp only
          rw [if_pos hl]
          exact e
      · exact absurd rfl hn
    · exact absurd rfl hn⟩

theorem cg_tup (K : PySem.W.Frag) (hK : X.K = K) {es : List Expr} {kk : Nat} {pos : Pos} {t : TGs} {n : Nat} {is : List Nat} {c : List D → DS → Option DS} (hc : X.calm = true) (h : CGs X es t is c) (hn : (assignEach es X.env).length = n) (hst : (assignEach es X.env).findIdx? (·.1) = none) : CG X (.Tuple es kk pos) (gTup K n t) is (bTup n c) := by
  subst hK
  exact (q_cg_tup hc h hn hst)
/-! ### what is walked -/
def PostI (K : PySem.W.Frag) (B H : Hp) (σ : L2.St) (W : WX) (R : It → Hp → Prop) : Res (List D) → Prop
  | .ok ds => ∀ J B' H' G Y, Grow B H B' H' → Walk J ds.length G Y → (∀ H2, Same B' H2 → G H2) →
      (∀ i d B2 H2 x H3, ds[i]? = some d → Same B' B2 → Same B2 H2 → Y i H2 x H3 → ∃ B3, Grow B2 H2 B3 H3 ∧ Rp K B3 x d) → R J H'
  | .er x => ∀ c dx B' H', Grow B H B' H' → RpX K B' c dx x → W c dx σ H'
  | .no => False
structure CI (X : Cx) (W : WX) (tg iter : Expr) (wi : TI) (f : DS → Res (List D)) : Prop where
  pi : PI X tg iter wi
  si : ∀ B0 H0 δ σ B H (R : It → Hp → Prop), Rel X.K B0 H0 B H σ δ → PostI X.K B H σ W R (f δ) → wi σ H R
theorem pi_or {tg iter : Expr} {wi wi' : TI} (h : PI X tg iter wi) (h' : PI X tg iter wi') : PI X tg iter (fun σ H R => wi σ H R ∨ wi' σ H R) :=
  ⟨fun pins s σ H R I q => q.elim (h.run pins s σ H R I) (h'.run pins s σ H R I)⟩
def charsD (z : Str) : List D := z.cps.toList.map fun c => D.str ⟨#[c]⟩
def itemsD : D → Res (List D)
  | .lst xs => .ok xs
  | .tup xs => .ok xs
  | .v (.str z) => .ok (charsD z)
  | _ => .no
def cItems (f : DS → Res D) : DS → Res (List D) := fun δ => (f δ).bind itemsD
theorem q_ci_seq {tg e : Expr} {t : TE} {f : DS → Res D} (h : CE X W e t f) : CI X W tg e (fun σ H R => iList X.K t σ H R ∨ (iTup X.K t σ H R ∨ iStr t σ H R)) (cItems f) :=
  ⟨pi_or (pi_list h.pe) (pi_or (pi_tup h.pe) (pi_str h.pe)), fun B0 H0 δ σ B H R rel hp => by
    unfold cItems at hp
    cases e : f δ with
    | no => rw [e] at hp; exact hp.elim
    | er x =>
      rw [e] at hp
      exact .inl (h.se B0 H0 δ σ B H _ rel (by rw [e]; exact hp))
    | ok d =>
      rw [e, Res.bind_ok] at hp
      unfold itemsD at hp
      split at hp
      · refine .inl (h.se B0 H0 δ σ B H _ rel ?_)
        rw [e]
        intro v B1 H1 g1 r1
        cases r1 with
        | @lst a xs ds h1 q =>
          refine ⟨a, rfl, ⟨xs, g1.i.seq h1⟩, ?_⟩
          refine hp _ B1 H1 _ _ g1 (q.length ▸ walk_list) (fun H2 s2 => s2.seq h1) fun i d B2 H2 x H3 hi s1 s2 y => ?_
          obtain ⟨rfl, hx⟩ := y
          obtain ⟨d', hd, rp⟩ := q.get' hx
          rw [hd] at hi
          cases hi
          exact ⟨B2, Grow.refl s2, rp.mono s1⟩
      · refine .inr (.inl (h.se B0 H0 δ σ B H _ rel ?_))
        rw [e]
        intro v B1 H1 g1 r1
        cases r1 with
        | @tup a xs ds h1 q =>
          refine ⟨a, rfl, ⟨xs, sqT_mono g1.i h1⟩, ?_⟩
          refine hp _ B1 H1 _ _ g1 (q.length ▸ walk_tup) (fun H2 s2 => sqT_mono s2 h1) fun i d B2 H2 x H3 hi s1 s2 y => ?_
          obtain ⟨rfl, hx⟩ := y
          obtain ⟨d', hd, rp⟩ := q.get' hx
          rw [hd] at hi
          cases hi
          exact ⟨B2, Grow.refl s2, rp.mono s1⟩
      · rename_i z
        refine .inr (.inr (h.se B0 H0 δ σ B H _ rel ?_))
        rw [e]
        intro v B1 H1 g1 r1
        cases r1
        refine ⟨z, rfl, ?_⟩
        have hl : (charsD z).length = z.cps.size := by simp [charsD]
        refine hp _ B1 H1 _ _ g1 (by rw [hl]; exact walk_str) (fun _ _ => trivial) fun i d B2 H2 x H3 hi s1 s2 y => ?_
        obtain ⟨rfl, c, hc, rfl⟩ := y
        refine ⟨B2, Grow.refl s2, ?_⟩
        have : (charsD z)[i]? = some (D.str ⟨#[c]⟩) := by
          unfold charsD
          rw [List.getElem?_map, Array.getElem?_toList, hc]
          rfl
        rw [this] at hi
        cases hi
        exact .v _
      · exact hp.elim⟩
theorem ci_seq (K : PySem.W.Frag) (hK : X.K = K) {tg e : Expr} {t : TE} {f : DS → Res D} (h : CE X W e t f) : CI X W tg e (fun σ H R => iList K t σ H R ∨ (iTup K t σ H R ∨ iStr t σ H R)) (cItems f) := by
  subst hK
  exact (q_ci_seq h)
def rangeD (lo : Int) (n : Nat) : List D := (List.range n).map fun (i : Nat) => D.int (lo + (i : Int))
def gRange1 : List D → Res (List D)
  | [.v (.int j)] => if j.natAbs ≤ 1000000000 then .ok (rangeD 0 j.toNat) else .no
  | _ => .no
def gRange2 : List D → Res (List D)
  | [.v (.int i), .v (.int j)] => if i.natAbs ≤ 1000000000 ∧ j.natAbs ≤ 1000000000 then .ok (rangeD i (j - i).toNat) else .no
  | _ => .no
def cIt (g : List D → Res (List D)) (f : DS → Res (List D)) : DS → Res (List D) := fun δ => (f δ).bind g
theorem postI_range {B H : Hp} {σ : L2.St} {R : It → Hp → Prop} {lo : Int} {n : Nat} {B1 H1 : Hp} (g1 : Grow B H B1 H1) (hp : PostI K B H σ W R (.ok (rangeD lo n))) : R (Itr lo n) H1 := by
  have hl : (rangeD lo n).length = n := by simp [rangeD]
  refine hp _ B1 H1 _ _ g1 (by rw [hl]; exact walk_range) (fun _ _ => trivial) fun i d B2 H2 x H3 hi s1 s2 y => ?_
  obtain ⟨rfl, rfl⟩ := y
  refine ⟨B2, Grow.refl s2, ?_⟩
  unfold rangeD at hi
  rw [List.getElem?_map] at hi
  cases e : (List.range n)[i]? with
  | none => rw [e] at hi; cases hi
  | some j =>
    rw [e] at hi
    have : j = i := by
      have := List.getElem?_eq_some_iff.mp e
      obtain ⟨h1, h2⟩ := this
      simp at h2
      exact h2.symm
    subst this
    cases hi
    exact .v _
theorem ci_range1 {tg a : Expr} {p pos : Pos} {t : TA} {f : DS → Res (List D)} (hm : X.mg "range" = none) (ha : CL X W [a] t f) (hg : Gl X "range" := by rfl) (hs : starEach [a] X.env = [(false, eval a X.env)] := by rfl) : CI X W tg (.Call (.Name "range" p) [a] [] pos) (iRng1 t) (cIt gRange1 f) :=
  ⟨pi_range1 hg hm ha.pa hs, fun B0 H0 δ σ B H R rel hp => by
    unfold cIt at hp
    refine ha.sa B0 H0 δ σ B H _ rel ?_
    cases e : f δ with
    | no => rw [e] at hp; exact hp
    | er x => rw [e] at hp; exact hp
    | ok ds =>
      rw [e, Res.bind_ok] at hp
      intro vs B1 H1 g1 r1
      unfold gRange1 at hp
      split at hp
      · split at hp
        · rename_i hz
          cases r1 with
          | cons r1 r2 => cases r1; cases r2; exact ⟨_, rfl, by omega, by omega, postI_range g1 hp⟩
        · exact hp.elim
      · exact hp.elim⟩
theorem ci_range2 {tg a b : Expr} {p pos : Pos} {t : TA} {f : DS → Res (List D)} (hm : X.mg "range" = none) (ha : CL X W [a, b] t f) (hg : Gl X "range" := by rfl) (hs : starEach [a, b] X.env = [(false, eval a X.env), (false, eval b X.env)] := by rfl) (hs2 : starEach [b] X.env = [(false, eval b X.env)] := by rfl) : CI X W tg (.Call (.Name "range" p) [a, b] [] pos) (iRng2 t) (cIt gRange2 f) :=
  ⟨pi_range2 hg hm ha.pa hs hs2, fun B0 H0 δ σ B H R rel hp => by
    unfold cIt at hp
    refine ha.sa B0 H0 δ σ B H _ rel ?_
    cases e : f δ with
    | no => rw [e] at hp; exact hp
    | er x => rw [e] at hp; exact hp
    | ok ds =>
      rw [e, Res.bind_ok] at hp
      intro vs B1 H1 g1 r1
      unfold gRange2 at hp
      split at hp
      · split at hp
        · rename_i hz
          cases r1 with
          | cons r1 r2 =>
            cases r2 with
            | cons r2 r3 => cases r1; cases r2; cases r3; exact ⟨_, _, rfl, by omega, postI_range g1 hp⟩
        · exact hp.elim
      · exact hp.elim⟩

/-! ### list comprehensions -/
abbrev W0 : WX := fun _ _ _ _ => False
def Res.calm {α : Type} : Res α → Res α
  | .ok a => .ok a
  | _ => .no
@[simp] theorem Res.calm_ok {α : Type} (a : α) : (Res.ok a).calm = .ok a := rfl
@[simp] theorem Res.calm_er {α : Type} (x : Exn) : (Res.er x : Res α).calm = .no := rfl
@[simp] theorem Res.calm_no {α : Type} : (Res.no : Res α).calm = .no := rfl
def lcF (b : D → DS → Option DS) (t : DS → Res Bool) (e : DS → Res D) : List D → DS → Res (List D)
  | [], _ => .ok []
  | d :: ds, δ => match b d δ with
    | none => .no
    | some δ' => (t δ').calm.bind fun k => if k = true then (e δ').calm.bind fun y => (lcF b t e ds δ).bind fun ys => .ok (y :: ys) else lcF b t e ds δ
theorem lcF_calm (b : D → DS → Option DS) (t : DS → Res Bool) (e : DS → Res D) : ∀ (ds : List D) (δ : DS) (x : Exn), lcF b t e ds δ ≠ .er x
  | [], δ, x => by simp [lcF]
  | d :: ds, δ, x => by
    unfold lcF
    split
    · simp
    · rename_i δ' _
      have ih := lcF_calm b t e ds δ x
      cases h1 : t δ' with
      | no => simp
      | er x => simp
      | ok k =>
        simp only [Res.calm_ok, Res.bind_ok]
        split
        · cases h2 : e δ' with
          | no => simp
          | er x => simp
          | ok y =>
            simp only [Res.calm_ok, Res.bind_ok]
            cases h3 : lcF b t e ds δ with
            | no => simp
            | er x' => simp only [Res.bind_er]; rw [h3] at ih; exact ih
            | ok ys => simp
        · exact ih
def cLc (vs : List Nat) (fi : DS → Res (List D)) (b : D → DS → Option DS) (t : DS → Res Bool) (e : DS → Res D) : DS → Res (List D) := fun δ => (fi δ).bind fun ds => if ds.length ≤ sizeLine then lcF b t e ds (wipeD δ vs) else .no
structure CTs (X : Cx) (W : WX) (ifs : List Expr) (t : TT) (f : DS → Res Bool) : Prop where
  pt : PTs X ifs t
  st : ST X.K W t f
def cYes : DS → Res Bool := fun _ => .ok true
theorem cts_nil : CTs X W [] tYes cYes := ⟨pts_nil, fun B0 H0 δ σ B H Q rel hp => hp B H (Grow.refl rel.g.i)⟩
theorem cts_one {c : Expr} {t : TT} {f : DS → Res Bool} (h : CT X W c t f) : CTs X W [c] t f := ⟨pts_one h.pt, h.st⟩
/-- the turns of a comprehension -/
theorem sf_lc {wi : TI} {g : TG} {tt : TT} {te : TE} {vs is : List Nat} {fi : DS → Res (List D)} {b : D → DS → Option DS} {t : DS → Res Bool} {e : DS → Res D}
    (hi : ∀ B0 H0 δ σ B H (R : It → Hp → Prop), Rel K B0 H0 B H σ δ → PostI K B H σ W R (fi δ) → wi σ H R)
    (hg : ∀ B0 H0 B H σ δ v d (Q : L2.St → Hp → Prop), Rel K B0 H0 B H σ δ → Rp K B v d → (∀ δ' σ', b d δ = some δ' → Rel K B0 H0 B H σ' δ' → σ'.length = σ.length → (∀ j, j ∉ is → σ'[j]? = σ[j]?) → Q σ' H) → b d δ ≠ none → g v σ H Q)
    (ht : ST K W0 tt t) (he : SE K W0 te e) (his : ∀ i ∈ is, i ∈ vs) : SF K W (tLc wi g tt te vs) (cLc vs fi b t e) := fun B0 H0 δ σ B H Q rel hp => by
  unfold cLc at hp
  refine hi B0 H0 δ σ B H _ rel ?_
  cases e1 : fi δ with
  | no => rw [e1] at hp; exact hp
  | er x => rw [e1] at hp; exact hp
  | ok ds =>
    rw [e1, Res.bind_ok] at hp
    split at hp
    case isFalse => exact hp.elim
    case isTrue hz =>
      intro J B1 H1 G Y g1 wk hG hY Dl hD
      cases e2 : lcF b t e ds (wipeD δ vs) with
      | no => rw [e2] at hp; exact hp.elim
      | er x => exact absurd e2 (lcF_calm b t e ds _ x)
      | ok ys =>
        rw [e2] at hp
        have relw := (rel.mono g1).wipe vs
        refine lc_it wk (fun i H' => ∃ B' us done rest, Grow B1 H1 B' H' ∧ B' Dl = none ∧ H' Dl = some (.lst us) ∧ RpA K B' us done ∧ us.length ≤ i ∧ lcF b t e (ds.drop i) (wipeD δ vs) = .ok rest ∧ done ++ rest = ys) ?_ ?_ ?_ ?_
        · exact ⟨B1, [], [], ys, Grow.raw g1.i hD, g1.i.free hD, upd_same, .nil, Nat.zero_le _, by simpa using e2, rfl⟩
        · rintro i H' hin ⟨B', us, done, rest, gr, hb, hh, rp, hl, hr, hy⟩
          exact hG H' (gr.b.trans gr.i)
        · rintro i x H2 H3 hin ⟨B', us, done, rest, gr, hb, hh, rp, hl, hr, hy⟩ y
          have hlt : i < ds.length := hin
          have hdi : ds[i]? = some ds[i] := by simp [hlt]
          obtain ⟨B3, g3, rx⟩ := hY i ds[i] B' H2 x H3 hdi gr.b gr.i y
          have hdrop : ds.drop i = ds[i] :: ds.drop (i + 1) := List.drop_eq_getElem_cons hlt
          rw [hdrop] at hr
          unfold lcF at hr
          cases e3 : b ds[i] (wipeD δ vs) with
          | none => rw [e3] at hr; cases hr
          | some δ' =>
            rw [e3] at hr
            dsimp only at hr
            have rel3 : Rel K B0 H0 B3 H3 (wipe σ vs) (wipeD δ vs) := (relw.mono gr).mono g3
            refine hg B0 H0 B3 H3 _ _ x ds[i] _ rel3 rx (fun δ2 σ2 e4 rel4 l4 f4 => ?_) (by rw [e3]; simp)
            rw [e3] at e4
            cases e4
            refine ⟨?_, ?_⟩
            · refine (wipe_eq (σ := wipe σ vs) l4 fun j hj => f4 j fun z => hj (his j z)).trans (wipe_eq (wipe_length σ vs) fun j hj => ?_)
              rw [wipe_get, if_neg (fun z => hj z.1)]
            refine ht B0 H0 δ' σ2 B3 H3 _ rel4 ?_
            cases e5 : t δ' with
            | no => rw [e5] at hr; simp at hr
            | er x => rw [e5] at hr; simp at hr
            | ok k =>
              rw [e5, Res.calm_ok, Res.bind_ok] at hr
              intro B4 H4 g4
              cases k with
              | false =>
                rw [if_neg Bool.false_ne_true] at hr ⊢
                have gg := (gr.trans g3).trans g4
                have hD4 : H4 Dl = some (.lst us) := (g3.trans g4).h _ _ hh (fun _ z => by cases z)
                refine ⟨B4, us, done, rest, gg, ?_, hD4, rp.mono (g3.b.trans g4.b), by omega, hr, hy⟩
                rw [(g3.trans g4).f Dl (by rw [hh]; simp)]; exact hb
              | true =>
                rw [if_pos rfl] at hr ⊢
                refine he B0 H0 δ' σ2 B4 H4 _ (rel4.mono g4) ?_
                cases e6 : e δ' with
                | no => rw [e6] at hr; simp at hr
                | er x => rw [e6] at hr; simp at hr
                | ok yd =>
                  rw [e6, Res.calm_ok, Res.bind_ok] at hr
                  intro yv B5 H5 g5 r5
                  have gA := (g3.trans g4).trans g5
                  have hD5 : H5 Dl = some (.lst us) := gA.h _ _ hh (fun _ z => by cases z)
                  have hB5 : B5 Dl = none := by rw [gA.f Dl (by rw [hh]; simp)]; exact hb
                  refine ⟨us, hD5, by omega, ?_⟩
                  cases e7 : lcF b t e (ds.drop (i + 1)) (wipeD δ vs) with
                  | no => rw [e7] at hr; cases hr
                  | er x => exact absurd e7 (lcF_calm b t e _ _ x)
                  | ok rest' =>
                    rw [e7, Res.bind_ok] at hr
                    cases hr
                    have gT := gr.trans gA
                    have neD : ∀ a o, B5 a = some o → a ≠ Dl := fun a o q z => by rw [z, hB5] at q; cases q
                    refine ⟨B5, us ++ [yv], done ++ [yd], rest', ⟨gT.b, fun a o q nq => ?_, fun a o q => ?_, gT.f, fun a ha => ?_, fun P hP => tab_upd (gT.t P hP) hD5, gT.n⟩, hB5, upd_same, (rp.mono gA.b).append (.cons r5 .nil), by simp; omega, rfl, by simpa using hy⟩
                    · rw [upd_ne (ne_of_none q hD)]; exact gT.h a o q nq
                    · rw [upd_ne (neD a o q)]; exact gT.i a o q
                    · have : a ≠ Dl := fun z => ha (by rw [z]; exact hD)
                      rw [upd_ne this]; exact gT.e a ha
        · rintro H' ⟨B', us, done, rest, gr, hb, hh, rp, hl, hr, hy⟩
          rw [List.drop_length] at hr
          cases hr
          rw [List.append_nil] at hy
          subst hy
          exact hp Dl us B' H' (g1.trans gr) (g1.free hD) hb hh rp
/-- a comprehension: a new list, as an expression or given to a name -/
structure LC (X : Cx) (W : WX) (e : Expr) (t : TE) (f : DS → Res (List D)) : Prop extends CF X W e t f where
  set_ : ∀ (i : Nat) (y : Str) (py spos : Pos), X.N[i]? = some y → X.env.scope.names.lookup y = some .local → swapsWith e (some (.Name y py)) spos.line X.env = pure true → PS X (.Assign [.Name y py] e spos) (tAsg t (gName i))
theorem lc_1 {elt tg iter : Expr} {ifs : List Expr} {scope : Scope} {own : List (Str × Nat)} {pos : Pos} {wi : TI} {g : TG} {tt : TT} {te : TE} {is : List Nat} {fi : DS → Res (List D)} {b : D → DS → Option DS} {t : DS → Res Bool} {e : DS → Res D}
    (s0 : Shared) (hc : X.calm = true) (hN : X.N.Nodup) (hi : CI X W tg iter wi fi) (ok : BlkOk X.N X.env.scope scope own)
    (hg : ∀ (s : Shared) (H : Hp) (C : Addr) (cl : List (Str × Addr)) (fp : List Addr), CG (X.blk s H scope (compEnvC scope cl C X.env) fp) tg g is b)
    (ht : ∀ (s : Shared) (H : Hp) (C : Addr) (cl : List (Str × Addr)) (fp : List Addr), CTs (X.blk s H scope (compEnvC scope cl C X.env) fp) W0 ifs tt t)
    (he : ∀ (s : Shared) (H : Hp) (C : Addr) (cl : List (Str × Addr)) (fp : List Addr), CE (X.blk s H scope (compEnvC scope cl C X.env) fp) W0 elt te e)
    (his : ∀ i ∈ is, i ∈ own.map (·.2) := by decide) (hs : ∀ x, foldedSetIterable iter X.env x = pure x := by intro _; rfl) :
    LC X W (.ListComp elt [⟨tg, iter, ifs, 0⟩] scope pos) (tLc wi g tt te (own.map (·.2))) (cLc (own.map (·.2)) fi b t e) :=
  ⟨⟨pe_lc hc hN hi.pi ok (fun s H C cl fp => (hg s H C cl fp).pg) (fun s H C cl fp => (ht s H C cl fp).pt) (fun s H C cl fp => (he s H C cl fp).pe) hs,
    sf_lc hi.si (hg s0 (fun _ => none) 0 [] []).sg (ht s0 (fun _ => none) 0 [] []).st (he s0 (fun _ => none) 0 [] []).se his⟩,
   fun i y py spos hy hyl hsw => ps_setLc hc hN hy hyl hsw hi.pi ok (fun s H C cl fp => (hg s H C cl fp).pg) (fun s H C cl fp => (ht s H C cl fp).pt) (fun s H C cl fp => (he s H C cl fp).pe) hs⟩
end
end DV
namespace DV
open PySem L2

def stE {α : Type} (r : Res α) (δ : DS) (k : α → Fl) : Fl := match r with
  | .ok a => k a
  | .er x => .rs x δ
  | .no => .no
@[simp] theorem stE_ok {α : Type} (a : α) (δ : DS) (k : α → Fl) : stE (.ok a) δ k = k a := rfl
@[simp] theorem stE_er {α : Type} (x : Exn) (δ : DS) (k : α → Fl) : stE (.er x : Res α) δ k = .rs x δ := rfl
@[simp] theorem stE_no {α : Type} (δ : DS) (k : α → Fl) : stE (.no : Res α) δ k = .no := rfl
def Fl.then : Fl → (DS → Fl) → Fl
  | .nx δ, g => g δ
  | r, _ => r
@[simp] theorem Fl.then_nx (δ : DS) (g : DS → Fl) : (Fl.nx δ).then g = g δ := rfl
@[simp] theorem Fl.then_rt (d : D) (g : DS → Fl) : (Fl.rt d).then g = .rt d := rfl
@[simp] theorem Fl.then_rs (x : Exn) (δ : DS) (g : DS → Fl) : (Fl.rs x δ).then g = .rs x δ := rfl
@[simp] theorem Fl.then_bk (δ : DS) (g : DS → Fl) : (Fl.bk δ).then g = .bk δ := rfl
@[simp] theorem Fl.then_ct (δ : DS) (g : DS → Fl) : (Fl.ct δ).then g = .ct δ := rfl
@[simp] theorem Fl.then_no (g : DS → Fl) : (Fl.no).then g = .no := rfl

section
variable {X : Cx} {W : WX} {K : PySem.W.Frag} {B0 H0 B H : Hp} {σ : L2.St} {δ : DS} {E : Ends}
theorem postS_mono {B' : Hp} {r : Fl} (s : Same B B') (h : PostS K B0 H0 B W E r) : PostS K B0 H0 B' W E r := by
  cases r with
  | nx δ => exact fun σ B2 H2 s2 rel => h σ B2 H2 (s.trans s2) rel
  | bk δ => exact fun σ B2 H2 s2 rel => h σ B2 H2 (s.trans s2) rel
  | ct δ => exact fun σ B2 H2 s2 rel => h σ B2 H2 (s.trans s2) rel
  | rt d => exact fun v B2 H2 s2 g rp => h v B2 H2 (s.trans s2) g rp
  | rs x δ => exact fun c dx σ B2 H2 s2 rel rp => h c dx σ B2 H2 (s.trans s2) rel rp
  | no => exact h
/-- an expression within a statement -/
theorem postE_of {f : Res D} {Q : VK} {k : D → Fl} (rel : Rel K B0 H0 B H σ δ) (h : PostS K B0 H0 B W E (stE f δ k)) (hk : ∀ d v B' H', f = .ok d → Grow B H B' H' → Rp K B' v d → PostS K B0 H0 B' W E (k d) → Q v H') : PostE K B H σ W Q f := by
  cases f with
  | ok d => exact fun v B' H' g rp => hk d v B' H' rfl g rp (postS_mono g.b h)
  | er x => exact fun c dx B' H' g rp => h c dx σ B' H' g.b (rel.mono g) rp
  | no => exact h
theorem postT_of {f : Res Bool} {Q : Bool → Hp → Prop} {k : Bool → Fl} (rel : Rel K B0 H0 B H σ δ) (h : PostS K B0 H0 B W E (stE f δ k)) (hk : ∀ b B' H', Grow B H B' H' → PostS K B0 H0 B' W E (k b) → Q b H') : PostT K B H σ W Q f := by
  cases f with
  | ok d => exact fun B' H' g => hk d B' H' g (postS_mono g.b h)
  | er x => exact fun c dx B' H' g rp => h c dx σ B' H' g.b (rel.mono g) rp
  | no => exact h

/-! ### blocks -/
def cSeq (g h : DS → Fl) : DS → Fl := fun δ => (g δ).then h
theorem ss_seq {t u : TS} {g h : DS → Fl} (h1 : SS K W t g) (h2 : SS K W u h) : SS K W (tSeq t u) (cSeq g h) := fun B0 H0 δ σ B H E rel hp => by
  unfold cSeq at hp
  refine h1 B0 H0 δ σ B H _ rel ?_
  cases e : g δ with
  | nx δ' => rw [e] at hp; exact fun σ' B' H' s rel' => h2 B0 H0 δ' σ' B' H' E rel' (postS_mono s hp)
  | bk δ' => rw [e] at hp; exact hp
  | ct δ' => rw [e] at hp; exact hp
  | rt d => rw [e] at hp; exact hp
  | rs x δ' => rw [e] at hp; exact hp
  | no => rw [e] at hp; exact hp
def cNext : DS → Fl := fun δ => .nx δ
theorem ss_next : SS K W tNext cNext := fun B0 H0 δ σ B H E rel hp => hp σ B H (Same.refl _) rel
theorem css_nil : CSs X W [] tNext cNext := ⟨pss_nil, ss_next⟩
theorem css_cons {s : Stmt} {ss : List Stmt} {t u : TS} {g h : DS → Fl} (h1 : CS X W s t g) (h2 : CSs X W ss u h) : CSs X W (s :: ss) (tSeq t u) (cSeq g h) := ⟨pss_cons h1.ps h2.ps, ss_seq h1.ss h2.ss⟩
theorem css_one {s : Stmt} {t : TS} {g : DS → Fl} (h1 : CS X W s t g) : CSs X W [s] t g := ⟨pss_one h1.ps, h1.ss⟩
theorem cs_pass {pos : Pos} : CS X W (.Pass pos) tNext cNext := ⟨ps_pass, ss_next⟩
def cBreak : DS → Fl := fun δ => .bk δ
def cCont : DS → Fl := fun δ => .ct δ
theorem cs_break {pos : Pos} : CS X W (.Break pos) tBreak cBreak := ⟨ps_break, fun B0 H0 δ σ B H E rel hp => hp σ B H (Same.refl _) rel⟩
theorem cs_continue {pos : Pos} : CS X W (.Continue pos) tCont cCont := ⟨ps_continue, fun B0 H0 δ σ B H E rel hp => hp σ B H (Same.refl _) rel⟩
/-! ### return, if, expressions, assignments -/
def cRet (f : DS → Res D) : DS → Fl := fun δ => stE (f δ) δ fun d => .rt d
theorem cs_ret {e : Expr} {pos : Pos} {t : TE} {f : DS → Res D} (h : CE X W e t f) : CS X W (.Return (some e) pos) (tRet t) (cRet f) :=
  ⟨ps_ret h.pe, fun B0 H0 δ σ B H E rel hp => h.se B0 H0 δ σ B H _ rel (postE_of rel hp fun d v B' H' _ g rp q => q v B' H' (Same.refl _) (rel.g.trans g) rp)⟩
def cRetN : DS → Fl := fun _ => .rt .non
theorem cs_retN {pos : Pos} : CS X W (.Return none pos) tRetN cRetN := ⟨ps_retN, fun B0 H0 δ σ B H E rel hp => hp .non B H (Same.refl _) rel.g (.v _)⟩
def cIf (t : DS → Res Bool) (g h : DS → Fl) : DS → Fl := fun δ => stE (t δ) δ fun b => if b = true then g δ else h δ
theorem cs_if {c : Expr} {a b : List Stmt} {pos : Pos} {tc : TT} {t u : TS} {f : DS → Res Bool} {g h : DS → Fl} (hc : CT X W c tc f) (ha : CSs X W a t g) (hb : CSs X W b u h) : CS X W (.If c a b pos) (tIfS tc t u) (cIf f g h) :=
  ⟨ps_if hc.pt ha.ps hb.ps, fun B0 H0 δ σ B H E rel hp => hc.st B0 H0 δ σ B H _ rel (postT_of rel hp fun b B' H' g q => by
    cases b with
    | true => rw [if_pos rfl] at q ⊢; exact ha.ss B0 H0 δ σ B' H' E (rel.mono g) q
    | false => rw [if_neg Bool.false_ne_true] at q ⊢; exact hb.ss B0 H0 δ σ B' H' E (rel.mono g) q)⟩
def cDrop (f : DS → Res D) : DS → Fl := fun δ => stE (f δ) δ fun _ => .nx δ
theorem cs_expr {e : Expr} {pos : Pos} {t : TE} {f : DS → Res D} (h : CE X W e t f) (hs : swapsWith e none pos.line X.env = pure false := by rfl) : CS X W (.Expr e pos) (tDrop t) (cDrop f) :=
  ⟨ps_expr h.pe hs, fun B0 H0 δ σ B H E rel hp => h.se B0 H0 δ σ B H _ rel (postE_of rel hp fun d v B' H' _ g rp q => q σ B' H' (Same.refl _) (rel.mono g))⟩
def cAsg (i : Nat) (f : DS → Res D) : DS → Fl := fun δ => stE (f δ) δ fun d => .nx (δ.set i (some (.im d)))
theorem ss_asg {i : Nat} {t : TE} {f : DS → Res D} (h : SE K W t f) : SS K W (tAsg t (gName i)) (cAsg i f) := fun B0 H0 δ σ B H E rel hp =>
  h B0 H0 δ σ B H _ rel (postE_of rel hp fun d v B' H' _ g rp q => q _ B' H' (Same.refl _) ((rel.mono g).set i rp))
theorem cs_set (i : Nat) {x : Str} {e : Expr} {t : TE} {f : DS → Res D} {pos pos' : Pos} (hN : X.N.Nodup) (he : CE X W e t f) (hi : X.N[i]? = some x := by rfl) (hx : Loc X.env.scope x := by first | exact Or.inl rfl | exact Or.inr rfl)
    (hs : swapsWith e (some (.Name x pos')) pos.line X.env = pure false := by rfl) (hf : X.fn x = true ∨ X.env.scope.names.lookup x = some .local := by first | exact .inl rfl | exact .inr rfl | assumption) :
    CS X W (.Assign [.Name x pos'] e pos) (tAsg t (gName i)) (cAsg i f) := ⟨ps_set hN hi hx he.pe hs hf, ss_asg he.se⟩
/-- any target -/
def cAsgG (b : D → DS → Option DS) (f : DS → Res D) : DS → Fl := fun δ => stE (f δ) δ fun d => match b d δ with
  | some δ' => .nx δ'
  | none => .no
theorem cs_asg {tg e : Expr} {t : TE} {f : DS → Res D} {g : TG} {is : List Nat} {b : D → DS → Option DS} {pos : Pos} (he : CE X W e t f) (hg : CG X tg g is b) (hs : swapsWithSole [tg] e pos.line X.env = pure false := by rfl) (hw : swappedStores [tg] e X.env = pure none := by rfl)
    (h1 : List.map (fun x => x.snd) (assignEach [tg] X.env) = [assign tg X.env] := by rfl) : CS X W (.Assign [tg] e pos) (tAsg t g) (cAsgG b f) := ⟨ps_asg he.pe hg.pg hs hw h1, fun B0 H0 δ σ B H E rel hp =>
  he.se B0 H0 δ σ B H _ rel (postE_of rel hp fun d v B' H' _ gr rp q => by
    cases e : b d δ with
    | none => rw [e] at q; exact q.elim
    | some δ' =>
      rw [e] at q
      exact hg.sg B0 H0 B' H' σ δ v d _ (rel.mono gr) rp (fun δ2 σ2 e2 r2 _ _ => by rw [e] at e2; cases e2; exact q σ2 B' H' (Same.refl _) r2) (by rw [e]; simp))⟩
/-- a, b = e1, e2 -/
def cPar (i j : Nat) (f : DS → Res (List D)) : DS → Fl := fun δ => stE (f δ) δ fun ds => match ds with
  | [d, e] => .nx ((δ.set i (some (.im d))).set j (some (.im e)))
  | _ => .no
theorem cs_par (i j : Nat) {x y : Str} {a b : Expr} {t : TA} {f : DS → Res (List D)} {px py pt pos : Pos} {kt k2 pt2} (hc : X.calm = true) (hN : X.N.Nodup) (ha : CL X W [a, b] t f) (hi : X.N[i]? = some x := by rfl) (hj : X.N[j]? = some y := by rfl) (hij : i ≠ j := by decide)
    (hx : X.env.scope.names.lookup x = some .local := by rfl) (hy : X.env.scope.names.lookup y = some .local := by rfl)
    (hw : swappedStores [.Tuple [.Name x px, .Name y py] kt pt] (.Tuple [a, b] k2 pt2) X.env = pure (some [x, y]) := by rfl)
    (hs : swapsWithSole [.Tuple [.Name x px, .Name y py] kt pt] (.Tuple [a, b] k2 pt2) pos.line X.env = pure false := by rfl) :
    CS X W (.Assign [.Tuple [.Name x px, .Name y py] kt pt] (.Tuple [a, b] k2 pt2) pos) (tPar i j t) (cPar i j f) :=
  ⟨ps_par hc hN hi hj hij hx hy ha.pa hw hs, fun B0 H0 δ σ B H E rel hp => ha.sa B0 H0 δ σ B H _ rel (by
    unfold cPar at hp
    cases e : f δ with
    | no => rw [e] at hp; exact hp
    | er x => rw [e] at hp; exact fun c dx B' H' g rp => hp c dx σ B' H' g.b (rel.mono g) rp
    | ok ds =>
      rw [e, stE_ok] at hp
      intro vs B' H' g rp
      split at hp
      · cases rp with
        | cons r1 r2 =>
          cases r2 with
          | cons r2 r3 =>
            cases r3
            exact ⟨_, _, rfl, hp _ B' H' g.b (((rel.mono g).set i r1).set j r2)⟩
      · exact hp.elim)⟩
/-- x op= e -/
def cAug (i : Nat) (o : D → D → Res D) (f : DS → Res D) : DS → Fl := fun δ => stE ((cVar i δ).bind fun x => (f δ).bind fun y => o x y) δ fun d => .nx (δ.set i (some (.im d)))
theorem cs_aug (i : Nat) {x : Str} {e : Expr} {t : TE} {f : DS → Res D} {op : Operator} {r : R2} {o : D → D → Res D} {pos pos' : Pos} (hN : X.N.Nodup) (he : CE X W e t f) (ho : OK2 X (inplaceOp op) r o) (hi : X.N[i]? = some x := by rfl) (hx : Loc X.env.scope x := by first | exact Or.inl rfl | exact Or.inr rfl) (hf : X.fn x = true ∨ X.env.scope.names.lookup x = some .local := by first | exact .inl rfl | exact .inr rfl | assumption) :
    CS X W (.AugAssign (.Name x pos') op e pos) (tAug i t r) (cAug i o f) := ⟨ps_aug hN hi hx he.pe ho.o hf, fun B0 H0 δ σ B H E rel hp => by
  unfold cAug cVar at hp
  cases e1 : δ[i]? with
  | none => rw [e1] at hp; exact hp.elim
  | some o1 =>
    cases o1 with
    | none => rw [e1] at hp; exact hp.elim
    | some o1 =>
      cases o1 with
      | ow ds => rw [e1] at hp; exact hp.elim
      | im d =>
        rw [e1] at hp
        obtain ⟨v, h1, h2⟩ := rel.get e1
        refine ⟨v, h1, he.se B0 H0 δ σ B H _ rel ?_⟩
        simp only [Res.bind_ok] at hp
        cases e2 : f δ with
        | no => rw [e2] at hp; exact hp
        | er x => rw [e2] at hp; exact fun c dx B' H' g rp => hp c dx σ B' H' g.b (rel.mono g) rp
        | ok d2 =>
          rw [e2, Res.bind_ok] at hp
          intro v2 B' H' g rp
          refine ho.r v v2 d d2 B' H' _ g.i (h2.mono g.b) rp ?_
          cases e3 : o d d2 with
          | no => rw [e3] at hp; exact hp
          | er x => exact absurd e3 (ho.c d d2 x)
          | ok z =>
            rw [e3, stE_ok] at hp
            exact fun zv B2 H2 g2 r2 => hp _ B2 H2 (g.b.trans g2.b) (((rel.mono g).mono g2).set i r2)⟩
def oAddI : D → D → Res D
  | .v (.int i), .v (.int j) => .ok (.int (i + j))
  | _, _ => .no
theorem oi_add : OK2 X (inplaceOp .Add) (rI0 fun i j => .int (i + j)) oAddI := ⟨iop_add, ro_I0 fun d e z h => (by
  unfold oAddI at h
  split at h
  · cases h; exact ⟨_, _, rfl, rfl, rfl⟩
  · cases h), fun d e x => (by unfold oAddI; split <;> simp)⟩
theorem iop_mulW : OpR X (inplaceOp .Mult) (rI CMulW fun i j => .int (i * j)) := opI fun _ _ _ _ _ _ _ hc q => PyProof.Rows.imul_int q hc.ok
def oMulI : D → D → Res D
  | .v (.int i), .v (.int j) => if i.natAbs.log2 + j.natAbs.log2 < 1000000 then .ok (.int (i * j)) else .no
  | _, _ => .no
theorem oi_mul : OK2 X (inplaceOp .Mult) (rI CMulW fun i j => .int (i * j)) oMulI := ⟨iop_mulW, ro_I fun d e z h => (by
  unfold oMulI at h
  split at h
  · split at h
    · rename_i hz
      cases h; exact ⟨_, _, rfl, rfl, hz, rfl⟩
    · cases h
  · cases h), fun d e x => (by unfold oMulI; split <;> (try split) <;> simp)⟩

/-! ### own lists -/
/-- x = a new list, which is to be the def's own -/
def cOwn (i : Nat) (f : DS → Res (List D)) : DS → Fl := fun δ => stE (f δ) δ fun ds => .nx (δ.set i (some (.ow ds)))
theorem ss_own {i : Nat} {t : TE} {f : DS → Res (List D)} (h : SF K W t f) : SS K W (tAsg t (gName i)) (cOwn i f) := fun B0 H0 δ σ B H E rel hp => by
  unfold cOwn at hp
  refine h B0 H0 δ σ B H _ rel ?_
  cases e : f δ with
  | no => rw [e] at hp; exact hp
  | er x => rw [e] at hp; exact fun c dx B' H' g rp => hp c dx σ B' H' g.b (rel.mono g) rp
  | ok ds =>
    rw [e, stE_ok] at hp
    intro p vs B' H' g h0 hb hh rp
    refine hp _ B' H' g.b ((rel.mono g).setOw i (rel.g.free h0) hb hh rp fun j es ej => ?_)
    obtain ⟨v, q1, p2, vs2, rfl, _, _, hh2, _⟩ := rel.sl j _ ej
    intro z
    rw [q1] at z
    cases z
    rw [h0] at hh2
    cases hh2
theorem cs_own (i : Nat) {x : Str} {e : Expr} {t : TE} {f : DS → Res (List D)} {pos pos' : Pos} (hN : X.N.Nodup) (he : CF X W e t f) (hi : X.N[i]? = some x := by rfl) (hx : Loc X.env.scope x := by first | exact Or.inl rfl | exact Or.inr rfl)
    (hs : swapsWith e (some (.Name x pos')) pos.line X.env = pure false := by rfl) (hf : X.fn x = true ∨ X.env.scope.names.lookup x = some .local := by first | exact .inl rfl | exact .inr rfl | assumption) :
    CS X W (.Assign [.Name x pos'] e pos) (tAsg t (gName i)) (cOwn i f) := ⟨ps_set hN hi hx he.pe hs hf, ss_own he.sf⟩
/-- x.append(e), x the def's own -/
def cApp (i : Nat) (f : DS → Res D) : DS → Fl := fun δ => match δ[i]? with
  | some (some (.ow ds)) => stE (f δ) δ fun d => if ds.length < sizeLine then .nx (δ.set i (some (.ow (ds ++ [d])))) else .no
  | _ => .no
theorem cs_app (i : Nat) {x : Str} {e : Expr} {t : TE} {f : DS → Res D} {px apos cpos pos : Pos} (he : CE X W e t f) (hv : PE X (.Name x px) (tVar i))
    (hbase : attributeBase (.Name x px) "append" X.env (eval (.Name x px) X.env) = eval (.Name x px) X.env := by rfl)
    (hfew : ((backTo cpos (starEach [e] X.env)).all (fun x => !x.1) && (backToKw cpos (keywordEach [] X.env)).all (fun x => x.1.isSome) && decide ([e].length + ([] : List Keyword).length + (if ([] : List Keyword).isEmpty then 0 else 1) < 30)) = true := by rfl)
    (hline : (apos.endLine == cpos.line) = true := by rfl) (hst : starEach [e] X.env = (false, eval e X.env) :: starEach [] X.env := by rfl) (hplain : (backTo cpos (starEach [] X.env)).any (·.1) = false := by rfl) (hs : swapsWith (.Call (.Attribute (.Name x px) "append" apos) [e] [] cpos) none pos.line X.env = pure false := by rfl) :
    CS X W (.Expr (.Call (.Attribute (.Name x px) "append" apos) [e] [] cpos) pos) (tDrop (tBM X.K "list" rAppend (tVar i) (tCons t tNil))) (cApp i f) :=
  ⟨ps_expr (pe_bm PySem.F.plainAttrs_list PySem.F.slot_list_append PySem.F.type_list_append mt_append hv (pa_cons he.pe pa_nil hst) hbase hfew hline hst hplain) hs, fun B0 H0 δ σ B H E rel hp => by
    unfold cApp at hp
    split at hp
    · rename_i ds ei
      obtain ⟨v, q1, p, vs, rfl, _, hb, hh, rp⟩ := rel.sl i _ ei
      refine ⟨_, q1, .inl ⟨rfl, vs, SqL.of hh⟩, ?_⟩
      refine he.se B0 H0 δ σ B H _ rel ?_
      cases e1 : f δ with
      | no => rw [e1] at hp; exact hp
      | er x => rw [e1] at hp; exact fun c dx B' H' g rp => hp c dx σ B' H' g.b (rel.mono g) rp
      | ok d =>
        rw [e1, stE_ok] at hp
        split at hp
        · rename_i hz
          intro v B' H' g r1
          refine ⟨p, vs, v, rfl, rfl, g.h _ _ hh (fun _ z => by cases z), by rw [rp.length]; exact hz, ?_⟩
          exact hp σ B' _ g.b ((rel.mono g).write (us := vs) ei q1 ((rp.mono g.b).append (.cons r1 .nil)))
        · exact hp.elim
    · exact hp.elim⟩
/-- y = [..]: data; the def's own -/
theorem cs_setLc (i : Nat) {y : Str} {py spos : Pos} {e : Expr} {t : TE} {f : DS → Res (List D)} (h : LC X W e t f) (hsw : swapsWith e (some (.Name y py)) spos.line X.env = pure true) (hi : X.N[i]? = some y := by rfl) (hyl : X.env.scope.names.lookup y = some .local := by rfl) :
    CS X W (.Assign [.Name y py] e spos) (tAsg t (gName i)) (cAsg i (cL f)) := ⟨h.set_ i y py spos hi hyl hsw, ss_asg (se_of_sf h.sf)⟩
theorem cs_ownLc (i : Nat) {y : Str} {py spos : Pos} {e : Expr} {t : TE} {f : DS → Res (List D)} (h : LC X W e t f) (hsw : swapsWith e (some (.Name y py)) spos.line X.env = pure true) (hi : X.N[i]? = some y := by rfl) (hyl : X.env.scope.names.lookup y = some .local := by rfl) :
    CS X W (.Assign [.Name y py] e spos) (tAsg t (gName i)) (cOwn i f) := ⟨h.set_ i y py spos hi hyl hsw, ss_own h.sf⟩
/-- the own list at slot i becomes data -/
def fz (i : Nat) (δ : DS) : DS := match δ[i]? with
  | some (some (.ow ds)) => δ.set i (some (.im (.lst ds)))
  | _ => δ
theorem Rel.fz {B0 H0 B H : Hp} {σ : L2.St} {δ : DS} (r : Rel K B0 H0 B H σ δ) (i : Nat) : ∃ B', Same B B' ∧ Rel K B0 H0 B' H σ (fz i δ) := by
  unfold DV.fz
  split
  · rename_i ds e
    exact r.freeze e
  · exact ⟨B, Same.refl _, r⟩
def cFz (i : Nat) (g : DS → Fl) : DS → Fl := fun δ => g (fz i δ)
theorem ss_fz (i : Nat) {t : TS} {g : DS → Fl} (h : SS K W t g) : SS K W t (cFz i g) := fun B0 H0 δ σ B H E rel hp => by
  obtain ⟨B', s, r⟩ := rel.fz i
  exact h B0 H0 _ σ B' H E r (postS_mono s hp)
theorem cs_fz (i : Nat) {s : Stmt} {t : TS} {g : DS → Fl} (h : CS X W s t g) : CS X W s t (cFz i g) := ⟨h.ps, ss_fz i h.ss⟩
/-- the own list at slot i is looked at: a test, a flat value -/
theorem Grow.back {B B' B2 H H2 : Hp} (s : Same B B') (i : Same B H) (nB : NoT B) (nB' : NoT B') (g : Grow B' H B2 H2) : ∃ B3, Grow B H B3 H2 := by
  refine ⟨fun a => if H a = none then B2 a else B a, fun a o q => ?_, g.h, fun a o q => ?_, fun a ha => ?_, g.e, g.t, fun _ a ps z => ?_⟩
  · have : ¬ (H a = none) := by rw [i a o q]; simp
    show (if H a = none then B2 a else B a) = some o
    rw [if_neg this]; exact q
  · have q' : (if H a = none then B2 a else B a) = some o := q
    split at q'
    · exact g.i a o q'
    · exact g.h a o (i a o q') (fun ps z => nB a ps (by rw [q', z]))
  · show (if H a = none then B2 a else B a) = B a
    rw [if_neg ha]
  · have z' : (if H a = none then B2 a else B a) = some (.tbl ps) := z
    split at z'
    · exact g.n nB' a ps z'
    · exact nB a ps z'
def cLookT (i : Nat) (f : DS → Res Bool) : DS → Res Bool := fun δ => (f (fz i δ)).calm
def flatR : Res D → Res D
  | .ok (.v x) => .ok (.v x)
  | _ => .no
def cLook (i : Nat) (f : DS → Res D) : DS → Res D := fun δ => flatR (f (fz i δ))
theorem st_look (i : Nat) {t : TT} {f : DS → Res Bool} (h : ST K W t f) : ST K W t (cLookT i f) := fun B0 H0 δ σ B H Q rel hp => by
  obtain ⟨B', s, r⟩ := rel.fz i
  refine h B0 H0 _ σ B' H Q r ?_
  unfold cLookT at hp
  cases e : f (fz i δ) with
  | no => rw [e] at hp; exact hp
  | er x => rw [e] at hp; exact hp.elim
  | ok b =>
    rw [e] at hp
    intro B2 H2 g
    obtain ⟨B3, g3⟩ := Grow.back s rel.g.i (rel.g.n rel.nt) (r.g.n r.nt) g
    exact hp B3 H2 g3
theorem se_look (i : Nat) {t : TE} {f : DS → Res D} (h : SE K W t f) : SE K W t (cLook i f) := fun B0 H0 δ σ B H Q rel hp => by
  obtain ⟨B', s, r⟩ := rel.fz i
  refine h B0 H0 _ σ B' H Q r ?_
  unfold cLook at hp
  cases e : f (fz i δ) with
  | no => rw [e] at hp; exact hp
  | er x => rw [e] at hp; exact hp.elim
  | ok d =>
    rw [e] at hp
    cases d with
    | v x =>
      intro v B2 H2 g rp
      obtain ⟨B3, g3⟩ := Grow.back s rel.g.i (rel.g.n rel.nt) (r.g.n r.nt) g
      cases rp
      exact hp _ B3 H2 g3 (.v _)
    | lst _ => exact hp.elim
    | tup _ => exact hp.elim
    | dct _ _ => exact hp.elim
    | ins _ _ _ => exact hp.elim
theorem ct_look (i : Nat) {e : Expr} {t : TT} {f : DS → Res Bool} (h : CT X W e t f) : CT X W e t (cLookT i f) := ⟨h.pt, st_look i h.st⟩
theorem ce_look (i : Nat) {e : Expr} {t : TE} {f : DS → Res D} (h : CE X W e t f) : CE X W e t (cLook i f) := ⟨h.pe, se_look i h.se⟩

/-! ### loops -/
def forF (b : D → DS → Option DS) (g : DS → Fl) : List D → DS → Fl
  | [], δ => .nx δ
  | d :: ds, δ => match b d δ with
    | none => .no
    | some δ' => match g δ' with
      | .nx δ2 => forF b g ds δ2
      | .ct δ2 => forF b g ds δ2
      | .bk δ2 => .nx δ2
      | .rt d => .rt d
      | .rs x δ2 => .rs x δ2
      | .no => .no
def cFor (fi : DS → Res (List D)) (b : D → DS → Option DS) (g : DS → Fl) : DS → Fl := fun δ => stE (fi δ) δ fun ds => forF b g ds δ
theorem cs_for {tg iter : Expr} {body : List Stmt} {pos : Pos} {wi : TI} {g : TG} {tb : TS} {fi : DS → Res (List D)} {is : List Nat} {b : D → DS → Option DS} {gb : DS → Fl} (hp : PassesOwn (model X.prog X.w) X.A X.env X.xe) (hc : X.calm = true) (hi : CI X W tg iter wi fi) (hg : CG X tg g is b) (hb : CSs X W body tb gb)
    (hs : ∀ x, foldedSetIterable iter X.env x = pure x := by intro _; rfl) : CS X W (.For tg iter body [] pos) (tFor wi g tb) (cFor fi b gb) :=
  ⟨ps_for hp hc hi.pi hg.pg hb.ps hs, fun B0 H0 δ σ B H E rel hq => by
    unfold cFor at hq
    refine hi.si B0 H0 δ σ B H _ rel ?_
    cases e : fi δ with
    | no => rw [e] at hq; exact hq
    | er x => rw [e] at hq; exact fun c dx B' H' g rp => hq c dx σ B' H' g.b (rel.mono g) rp
    | ok ds =>
      rw [e, stE_ok] at hq
      intro J B1 H1 G Y g1 wk hG hY
      refine for_it wk (fun i σ' H' => ∃ B' δ', Same B1 B' ∧ Rel X.K B0 H0 B' H' σ' δ' ∧ PostS X.K B0 H0 B' W E (forF b gb (ds.drop i) δ')) ?_ ?_ ?_ ?_
      · exact ⟨B1, δ, Same.refl _, rel.mono g1, postS_mono g1.b hq⟩
      · rintro i σ' H' hin ⟨B', δ', s', r', _⟩
        exact hG H' (s'.trans r'.g.i)
      · rintro i x σ' H2 H3 hin ⟨B', δ', s', r', q'⟩ y
        have hlt : i < ds.length := hin
        have hdi : ds[i]? = some ds[i] := by simp [hlt]
        obtain ⟨B3, g3, rx⟩ := hY i ds[i] B' H2 x H3 hdi s' r'.g.i y
        rw [List.drop_eq_getElem_cons hlt] at q'
        unfold forF at q'
        cases e3 : b ds[i] δ' with
        | none => rw [e3] at q'; exact q'.elim
        | some δ2 =>
          rw [e3] at q'
          dsimp only at q'
          refine hg.sg B0 H0 B3 H3 σ' δ' x ds[i] _ (r'.mono g3) rx (fun δ4 σ4 e4 r4 _ _ => ?_) (by rw [e3]; simp)
          rw [e3] at e4
          cases e4
          refine hb.ss B0 H0 δ2 σ4 B3 H3 _ r4 ?_
          cases e5 : gb δ2 with
          | nx δ5 => rw [e5] at q'; exact fun σ5 B5 H5 s5 r5 => ⟨B5, δ5, (s'.trans g3.b).trans s5, r5, postS_mono (g3.b.trans s5) q'⟩
          | ct δ5 => rw [e5] at q'; exact fun σ5 B5 H5 s5 r5 => ⟨B5, δ5, (s'.trans g3.b).trans s5, r5, postS_mono (g3.b.trans s5) q'⟩
          | bk δ5 => rw [e5] at q'; exact postS_mono g3.b q'
          | rt d => rw [e5] at q'; exact postS_mono g3.b q'
          | rs x δ5 => rw [e5] at q'; exact postS_mono g3.b q'
          | no => rw [e5] at q'; exact q'
      · rintro σ' H' ⟨B', δ', s', r', q'⟩
        rw [List.drop_length] at q'
        exact q' σ' B' H' (Same.refl _) r'⟩
def whileF (t : DS → Res Bool) (g : DS → Fl) : Nat → DS → Fl
  | 0, _ => .no
  | n + 1, δ => match t δ with
    | .ok true => (match g δ with
      | .nx δ2 => whileF t g n δ2
      | .ct δ2 => whileF t g n δ2
      | .bk δ2 => .nx δ2
      | .rt d => .rt d
      | .rs x δ2 => .rs x δ2
      | .no => .no)
    | .ok false => .nx δ
    | .er x => .rs x δ
    | .no => .no
def cWhile (fuel : DS → Nat) (t : DS → Res Bool) (g : DS → Fl) : DS → Fl := fun δ => whileF t g (fuel δ) δ
theorem cs_while (fuel : DS → Nat) {c : Expr} {body : List Stmt} {pos : Pos} {tc : TT} {tb : TS} {t : DS → Res Bool} {g : DS → Fl} (hp : PassesOwn (model X.prog X.w) X.A X.env X.xe) (hc : CT X W c tc t) (hb : CSs X W body tb g) : CS X W (.While c body [] pos) (tWhile tc tb) (cWhile fuel t g) :=
  ⟨ps_while hp hc.pt hb.ps, fun B0 H0 δ σ B H E rel hq => by
    unfold cWhile at hq
    refine ⟨fun m σ' H' => ∃ B' δ', Same B B' ∧ Rel X.K B0 H0 B' H' σ' δ' ∧ PostS X.K B0 H0 B' W E (whileF t g m δ'), ⟨fuel δ, B, δ, Same.refl _, rel, hq⟩, ?_⟩
    rintro m σ' H' ⟨B', δ', s', r', q'⟩
    cases m with
    | zero => exact q'.elim
    | succ m =>
      unfold whileF at q'
      refine hc.st B0 H0 δ' σ' B' H' _ r' ?_
      cases e : t δ' with
      | no => rw [e] at q'; exact q'
      | er x => rw [e] at q'; exact fun c dx B2 H2 g2 rp => q' c dx σ' B2 H2 g2.b (r'.mono g2) rp
      | ok b =>
        rw [e] at q'
        intro B2 H2 g2
        cases b with
        | false => rw [if_neg Bool.false_ne_true]; exact q' σ' B2 H2 g2.b (r'.mono g2)
        | true =>
          rw [if_pos rfl]
          dsimp only at q'
          refine ⟨fun σ5 H5 => ∃ B5 δ5, Same B B5 ∧ Rel X.K B0 H0 B5 H5 σ5 δ5 ∧ PostS X.K B0 H0 B5 W E (whileF t g m δ5), fun σ5 H5 h => ⟨m, Nat.lt_succ_self m, h⟩, ?_⟩
          refine hb.ss B0 H0 δ' σ' B2 H2 _ (r'.mono g2) ?_
          cases e5 : g δ' with
          | nx δ5 => rw [e5] at q'; exact fun σ5 B5 H5 s5 r5 => ⟨B5, δ5, (s'.trans g2.b).trans s5, r5, postS_mono (g2.b.trans s5) q'⟩
          | ct δ5 => rw [e5] at q'; exact fun σ5 B5 H5 s5 r5 => ⟨B5, δ5, (s'.trans g2.b).trans s5, r5, postS_mono (g2.b.trans s5) q'⟩
          | bk δ5 => rw [e5] at q'; exact postS_mono g2.b q'
          | rt d => rw [e5] at q'; exact postS_mono g2.b q'
          | rs x δ5 => rw [e5] at q'; exact postS_mono g2.b q'
          | no => rw [e5] at q'; exact q'⟩
end
end DV
namespace DV
open PySem L2

/-! ### a def by its function -/
def PostD (K : PySem.W.Frag) (B H : Hp) (Q : VK) (E : XK) : Res D → Prop
  | .ok d => ∀ v B' H', Grow B H B' H' → Rp K B' v d → Q v H'
  | .er x => ∀ c dx B' H', Grow B H B' H' → RpX K B' c dx x → E c dx H'
  | .no => False
def spD (K : PySem.W.Frag) (n : Nat) (F : List D → Res D) : Sp := fun vs H Q E => vs.length = n ∧ ∃ ds B, Same B H ∧ RpA K B vs ds ∧ ((∀ p ∈ tabsOf K, LamX.TabS H p lamQ) ∧ NoT B) ∧ PostD K B H Q E (F ds)
def flR : Fl → Res D
  | .rt d => .ok d
  | .nx _ => .ok .non
  | .rs x _ => .er x
  | _ => .no
@[simp] theorem flR_rt (d : D) : flR (.rt d) = .ok d := rfl
@[simp] theorem flR_nx (δ : DS) : flR (.nx δ) = .ok .non := rfl
@[simp] theorem flR_rs (x : Exn) (δ : DS) : flR (.rs x δ) = .er x := rfl
@[simp] theorem flR_no : flR .no = .no := rfl
/-- the data state at a def's entry: m slots besides the parameters -/
def st0 (m : Nat) (ds : List D) : DS := ds.map (fun d => some (.im d)) ++ List.replicate m none
def defF (m : Nat) (g : DS → Fl) : List D → Res D := fun ds => flR (g (st0 m ds))
theorem rel0 {K : PySem.W.Frag} {B H : Hp} {N : List Str} {vs : List V} {ds : List D} (i : Same B H) (r : RpA K B vs ds) (tb : (∀ p ∈ tabsOf K, LamX.TabS H p lamQ) ∧ NoT B) : Rel K B H B H (L2.start N vs) (st0 (N.length - vs.length) ds) := by
  refine ⟨Grow.refl i, tb.1, tb.2, ?_, fun j o e => ?_, fun j k es fs w hjk e1 e2 e3 => ?_⟩
  · simp [L2.start, st0, r.length]
  · unfold st0 at e
    by_cases hj : j < ds.length
    · rw [List.getElem?_append_left (by simpa using hj), List.getElem?_map] at e
      cases q : ds[j]? with
      | none => rw [q] at e; cases e
      | some d =>
        rw [q] at e
        cases e
        obtain ⟨v, h1, h2⟩ := r.get q
        refine ⟨v, ?_, h2⟩
        unfold L2.start
        rw [List.getElem?_append_left (by rw [List.length_map, r.length]; exact hj), List.getElem?_map, h1]
        rfl
    · rw [List.getElem?_append_right (by simpa using hj), List.getElem?_replicate] at e
      split at e <;> cases e
  · unfold st0 at e1
    by_cases hj : j < ds.length
    · rw [List.getElem?_append_left (by simpa using hj), List.getElem?_map] at e1
      cases q : ds[j]? with
      | none => rw [q] at e1; cases e1
      | some d => rw [q] at e1; cases e1
    · rw [List.getElem?_append_right (by simpa using hj), List.getElem?_replicate] at e1
      split at e1 <;> cases e1
abbrev Wof (E : XK) : WX := fun c d _ H => E c d H
theorem ss_def {K : PySem.W.Frag} {t : TS} {g : DS → Fl} {E : XK} {N : List Str} {vs : List V} {ds : List D} {B H : Hp} {Q : VK} (h : SS K (Wof E) t g) (i : Same B H) (r : RpA K B vs ds) (tb : (∀ p ∈ tabsOf K, LamX.TabS H p lamQ) ∧ NoT B) (hp : PostD K B H Q E (defF (N.length - vs.length) g ds)) :
    t { nx := fun _ H' => Q .non H', rt := Q } (L2.start N vs) H := by
  refine h B H _ _ B H _ (rel0 i r tb) ?_
  unfold defF at hp
  cases e : g (st0 (N.length - vs.length) ds) with
  | nx δ => rw [e] at hp; exact fun σ B' H' s rel => hp .non B' H' rel.g (.v _)
  | rt d => rw [e] at hp; exact fun v B' H' s gr rp => hp v B' H' gr rp
  | rs x δ => rw [e] at hp; exact fun c dx σ B' H' s rel rp => hp c dx B' H' rel.g rp
  | bk δ => rw [e] at hp; exact hp.elim
  | ct δ => rw [e] at hp; exact hp.elim
  | no => rw [e] at hp; exact hp
section
variable {P : Program} {w : World} {K : PySem.W.Frag} {mg : Str → Option Value} {base : Heap}
/-- a def without defaults -/
theorem def_ok {x qual : Str} {st : Stmt} {f : Addr} {fd : FuncData} {N ps : List Str} {k m : Nat} {g : DS → Fl} (F : Fun K x qual st f fd) (S : FnScope N ps (defScope st)) (hm : N.length - ps.length = m)
    (hbody : ∀ (cdv : Value) (A : Around) (outer : List Env) (s : Shared) (H : Hp) (E : XK), Room k (A.deeper (PyProof.Rows.envOfC qual (defScope st) s.heap.objs.size f cdv)) → Takes (cxOf (L2.CX P w) P w K mg base N qual (defScope st) f cdv A outer s H E) (Wof E) →
      PassesOwn (model P w) (A.deeper (PyProof.Rows.envOfC qual (defScope st) s.heap.objs.size f cdv)) (PyProof.Rows.envOfC qual (defScope st) s.heap.objs.size f cdv) (cxOf (L2.CX P w) P w K mg base N qual (defScope st) f cdv A outer s H E).xe → (A.deeper (PyProof.Rows.envOfC qual (defScope st) s.heap.objs.size f cdv)).units + 64 < cLine → ∃ t, CSs (cxOf (L2.CX P w) P w K mg base N qual (defScope st) f cdv A outer s H E) (Wof E) (defBody st) t g) : FnOk P w K mg base (L2.CX P w) (k + 1) f fd ps (spD K ps.length (defF m g)) := by
  refine F.okX S (fun vs H Q E h => h.1) fun cdv A outer s H vs Q E hr h => ?_
  obtain ⟨hl, ds, B, i, r, tb, hp⟩ := h
  obtain ⟨t, ht⟩ := hbody cdv A outer s H E hr (takes_of rfl rfl rfl rfl) (passes_of (X := cxOf (L2.CX P w) P w K mg base N qual _ f cdv A outer s H E) rfl) hr.units
  exact ⟨t, ht.ps, ss_def (N := N) ht.ss i r tb (by rw [hl, hm]; exact hp)⟩
/-- a def with defaults -/
theorem def_okD {x qual : Str} {params : Arguments} {body : List Stmt} {scope : Scope} {dvs : List V} {kws : List (Str × V)} {f : Addr} {fd : FuncData} {N ps : List Str} {k m : Nat} {g : DS → Fl} (F : FunD K x qual params body scope dvs kws f fd) (S : FnScope N ps scope) (hm : N.length - ps.length = m)
    (hbody : ∀ (cdv : Value) (A : Around) (outer : List Env) (s : Shared) (H : Hp) (E : XK), Room k (A.deeper (PyProof.Rows.envOfC qual scope s.heap.objs.size f cdv)) → Takes (cxOf (L2.CX P w) P w K mg base N qual scope f cdv A outer s H E) (Wof E) →
      PassesOwn (model P w) (A.deeper (PyProof.Rows.envOfC qual scope s.heap.objs.size f cdv)) (PyProof.Rows.envOfC qual scope s.heap.objs.size f cdv) (cxOf (L2.CX P w) P w K mg base N qual scope f cdv A outer s H E).xe → (A.deeper (PyProof.Rows.envOfC qual scope s.heap.objs.size f cdv)).units + 64 < cLine → ∃ t, CSs (cxOf (L2.CX P w) P w K mg base N qual scope f cdv A outer s H E) (Wof E) body t g) : FnOk P w K mg base (L2.CX P w) (k + 1) f fd ps (spD K ps.length (defF m g)) := by
  refine F.ok S (fun vs H Q E h => h.1) fun cdv A outer s H vs Q E hr h => ?_
  obtain ⟨hl, ds, B, i, r, tb, hp⟩ := h
  obtain ⟨t, ht⟩ := hbody cdv A outer s H E hr (takes_of rfl rfl rfl rfl) (passes_of (X := cxOf (L2.CX P w) P w K mg base N qual _ f cdv A outer s H E) rfl) hr.units
  exact ⟨t, ht.ps, ss_def (N := N) ht.ss i r tb (by rw [hl, hm]; exact hp)⟩
end

/-! ### calls -/
section
variable {X : Cx} {W : WX} {K : PySem.W.Frag}
def cFn (F : List D → Res D) (dd : List D) (f : DS → Res (List D)) : DS → Res D := fun δ => (f δ).bind fun ds => F (ds ++ dd)
theorem se_fn {n : Nat} {F : List D → Res D} {dd : List D} {dvs : List V} {t : TA} {f : DS → Res (List D)} (hl : ∀ δ ds, f δ = .ok ds → ds.length + dd.length = n) (hd : ∀ B, RpA K B dvs dd) (h : SA K W t f) : SE K W (tCallSD (spD K n F) dvs (WE W) t) (cFn F dd f) := fun B0 H0 δ σ B H Q rel hp => by
  unfold cFn at hp
  refine h B0 H0 δ σ B H _ rel ?_
  cases e : f δ with
  | no => rw [e] at hp; exact hp
  | er x => rw [e] at hp; exact hp
  | ok ds =>
    rw [e, Res.bind_ok] at hp
    intro vs B1 H1 g1 r1
    refine ⟨?_, ds ++ dd, B1, g1.i, r1.append (hd B1), ⟨fun p hp' => g1.t p (rel.g.t p (rel.tk p hp')), g1.n (rel.g.n rel.nt)⟩, ?_⟩
    · rw [List.length_append, r1.length, (hd B1).length]
      exact hl δ ds e
    · cases e2 : F (ds ++ dd) with
      | no => rw [e2] at hp; exact hp
      | er x => rw [e2] at hp; exact fun c dx B' H' g' rp => hp c dx B' H' (g1.trans g') rp
      | ok z => rw [e2] at hp; exact fun v B' H' g' rp => hp v B' H' (g1.trans g') rp
theorem q_ce_fn {k n : Nat} {f : Addr} {fd : FuncData} {ps : List Str} {F : List D → Res D} {dd : List D} {dvs : List V} {ds : List Value} {x : Str} {p pos : Pos} {e : Expr} {es : List Expr} {t : TA} {fa : DS → Res (List D)}
    (G : FnOk X.prog X.w X.K X.mg X.base (L2.CX X.prog X.w) k f fd ps (spD X.K n F)) (hr : Room k X.A) (hm : X.mg x = some (.ref f)) (hk : PySem.W.keepIn X.K (.ref f) = true) (hb : Binds X.K fd ps ds) (hd : Vals dvs ds) (hdd : ∀ B, RpA X.K B dvs dd) (tk : Takes X W)
    (ha : CL X W (e :: es) t fa) (hn : (e :: es).length + dd.length = n := by rfl) (hg : Gl X x := by rfl) (hdb : (x == ("__debug__" : Str)) = false := by decide) (he : starEach (e :: es) X.env = (false, eval e X.env) :: starEach es X.env := by rfl) (hpl : (backTo pos (starEach es X.env)).any (·.1) = false := by rfl) :
    CE X W (.Call (.Name x p) (e :: es) [] pos) (tCallSD (spD X.K n F) dvs (WE W) t) (cFn F dd fa) :=
  ⟨pe_callSD G hr hg hm hk hb hd (fun σ => passAt tk σ) ha.pa hdb he hpl, se_fn (fun δ ds h => by rw [ha.ln δ ds h]; exact hn) hdd ha.sa⟩
theorem ce_fn (K : PySem.W.Frag) (hK : X.K = K) {k n : Nat} {f : Addr} {fd : FuncData} {ps : List Str} {F : List D → Res D} {dd : List D} {dvs : List V} {ds : List Value} {x : Str} {p pos : Pos} {e : Expr} {es : List Expr} {t : TA} {fa : DS → Res (List D)}
    (G : FnOk X.prog X.w K X.mg X.base (L2.CX X.prog X.w) k f fd ps (spD K n F)) (hr : Room k X.A) (hm : X.mg x = some (.ref f)) (hk : PySem.W.keepIn K (.ref f) = true) (hb : Binds K fd ps ds) (hd : Vals dvs ds) (hdd : ∀ B, RpA K B dvs dd) (tk : Takes X W)
    (ha : CL X W (e :: es) t fa) (hn : (e :: es).length + dd.length = n := by rfl) (hg : Gl X x := by rfl) (hdb : (x == ("__debug__" : Str)) = false := by decide) (he : starEach (e :: es) X.env = (false, eval e X.env) :: starEach es X.env := by rfl) (hpl : (backTo pos (starEach es X.env)).any (·.1) = false := by rfl) :
    CE X W (.Call (.Name x p) (e :: es) [] pos) (tCallSD (spD K n F) dvs (WE W) t) (cFn F dd fa) := by
  subst hK
  exact (q_ce_fn G hr hm hk hb hd hdd tk ha hn hg hdb he hpl)
/-- no defaults -/
def cFn0 (F : List D → Res D) (f : DS → Res (List D)) : DS → Res D := fun δ => (f δ).bind F
theorem q_ce_f {k n : Nat} {f : Addr} {fd : FuncData} {ps : List Str} {F : List D → Res D} {x : Str} {p pos : Pos} {e : Expr} {es : List Expr} {t : TA} {fa : DS → Res (List D)}
    (G : FnOk X.prog X.w X.K X.mg X.base (L2.CX X.prog X.w) k f fd ps (spD X.K n F)) (hr : Room k X.A) (hm : X.mg x = some (.ref f)) (hk : PySem.W.keepIn X.K (.ref f) = true) (hb : Binds X.K fd ps []) (tk : Takes X W)
    (ha : CL X W (e :: es) t fa) (hn : (e :: es).length = n := by rfl) (hg : Gl X x := by rfl) (hdb : (x == ("__debug__" : Str)) = false := by decide) (he : starEach (e :: es) X.env = (false, eval e X.env) :: starEach es X.env := by rfl) (hpl : (backTo pos (starEach es X.env)).any (·.1) = false := by rfl) :
    CE X W (.Call (.Name x p) (e :: es) [] pos) (tCallSD (spD X.K n F) [] (WE W) t) (cFn0 F fa) := by
  have h := q_ce_fn (dd := []) (p := p) (pos := pos) G hr hm hk hb .nil (fun _ => .nil) tk ha hn hg hdb he hpl
  refine ⟨h.pe, ?_⟩
  have e0 : cFn F [] fa = cFn0 F fa := by
    funext δ
    simp [cFn, cFn0]
  rw [← e0]
  exact h.se
theorem ce_f (K : PySem.W.Frag) (hK : X.K = K) {k n : Nat} {f : Addr} {fd : FuncData} {ps : List Str} {F : List D → Res D} {x : Str} {p pos : Pos} {e : Expr} {es : List Expr} {t : TA} {fa : DS → Res (List D)}
    (G : FnOk X.prog X.w K X.mg X.base (L2.CX X.prog X.w) k f fd ps (spD K n F)) (hr : Room k X.A) (hm : X.mg x = some (.ref f)) (hk : PySem.W.keepIn K (.ref f) = true) (hb : Binds K fd ps []) (tk : Takes X W)
    (ha : CL X W (e :: es) t fa) (hn : (e :: es).length = n := by rfl) (hg : Gl X x := by rfl) (hdb : (x == ("__debug__" : Str)) = false := by decide) (he : starEach (e :: es) X.env = (false, eval e X.env) :: starEach es X.env := by rfl) (hpl : (backTo pos (starEach es X.env)).any (·.1) = false := by rfl) :
    CE X W (.Call (.Name x p) (e :: es) [] pos) (tCallSD (spD K n F) [] (WE W) t) (cFn0 F fa) := by
  subst hK
  exact (q_ce_f G hr hm hk hb tk ha hn hg hdb he hpl)
/-- a statement that is never reached -/
theorem cs_never {s : Stmt} : CS X W s tNever (fun _ => .no) := ⟨ps_never, fun _ _ _ _ _ _ _ _ h => h⟩
end

/-! ### the end: the law's function -/
/-- what is asked of the law's function -/
theorem spD_law {K : PySem.W.Frag} {H : Hp} {a : Addr} {ns : List Int} {F : List D → Res D} (hS : SqL K H a (ns.map V.int)) (tb : ∀ p ∈ tabsOf K, LamX.TabS H p lamQ) (h : F [.lst (ns.map D.int)] = .ok (.bl true)) : spD K 1 F [.ref a] H (fun v _ => v = .bl true) (fun _ _ _ => False) := by
  have hS' : SqL K (fun b => match H b with | some (.tbl _) => none | o => o) a (ns.map V.int) := by
    rcases hS with (h | ⟨o, h⟩) | h
    · exact .inl (.inl (by show (match H a with | some (.tbl _) => none | o => o) = _; rw [h]))
    · exact .inl (.inr ⟨o, by show (match H a with | some (.tbl _) => none | o => o) = _; rw [h]⟩)
    · exact .inr h
  refine ⟨rfl, [.lst (ns.map D.int)], fun b => match H b with | some (.tbl _) => none | o => o, fun b o e => ?_, .cons (.lst hS' (RpA.ints ns)) .nil, ⟨tb, fun b ps e => ?_⟩, ?_⟩
  · have e' : (match H b with | some (.tbl _) => none | o => o) = some o := e
    split at e'
    · cases e'
    · exact e'
  · have e' : (match H b with | some (.tbl _) => none | o => o) = some (.tbl ps) := e
    split at e'
    · cases e'
    · rename_i hn
      exact hn _ e'
  rw [h]
  intro v B' H' g rp
  cases rp
  rfl
theorem cx_false {P : Program} {w : World} (H : Hp) (s : Shared) (e : Value) (s' : Shared) (h : L2.CX P w [] H s (fun _ _ _ => False) e s') : False := by
  obtain ⟨_, _, _, _, _, _, _, _, _, _, _, _, z⟩ := h
  exact z
end DV
namespace DV
open PySem PySem.Spec PyProof.Rows L2

/-! ### t[::-1], a tuple -/
theorem rev_places (n : Nat) : Builtin.Slice.sliceAdjust none none (-1) (n : Int) = ((n : Int) - 1, -1) := by
  unfold Builtin.Slice.sliceAdjust
  have h1 : ((-1 : Int) < 0) := by omega
  simp only [h1, if_true]
theorem rev_count (n : Nat) : Builtin.Slice.slicePlaces ((n : Int) - 1) (-1) (-1) = n := by
  unfold Builtin.Slice.slicePlaces
  have h1 : ¬ ((-1 : Int) > 0) := by omega
  simp only [h1, if_false, Int.neg_neg, Int.ediv_one]
  split <;> omega
theorem fm_congr {α β : Type} {f g : α → Option β} : ∀ {l : List α}, (∀ a ∈ l, f a = g a) → l.filterMap f = l.filterMap g
  | [], _ => rfl
  | a :: l, h => by
    rw [List.filterMap_cons, List.filterMap_cons, h a (by simp), fm_congr fun b hb => h b (by simp [hb])]
theorem rev_pick (xs : Array Value) : ((List.range xs.size).filterMap fun (m : Nat) => xs[(((xs.size : Nat) : Int) - 1 + (m : Int) * (-1)).toNat]?).toArray = xs.toList.reverse.toArray := by
  congr 1
  have e : (List.range xs.size).filterMap (fun (m : Nat) => xs[(((xs.size : Nat) : Int) - 1 + (m : Int) * (-1)).toNat]?) = (List.range xs.size).filterMap (fun m => xs.toList.reverse[m]?) := by
    refine fm_congr fun m hm => ?_
    have hm' : m < xs.size := List.mem_range.mp hm
    have e1 : (((xs.size : Nat) : Int) - 1 + (m : Int) * (-1)).toNat = xs.size - 1 - m := by omega
    rw [e1, List.getElem?_reverse (by simpa using hm'), Array.getElem?_toList]
    simp
  rw [e]
  have : ∀ l : List Value, (List.range l.length).filterMap (fun m => l[m]?) = l := by
    intro l
    induction l with
    | nil => rfl
    | cons a l ih =>
      rw [List.length_cons, List.range_succ_eq_map, List.filterMap_cons, List.filterMap_map]
      simp only [List.getElem?_cons_zero]
      congr 1
  have h2 := this xs.toList.reverse
  rw [List.length_reverse, Array.length_toList] at h2
  exact h2
section
variable {prog : Program} {w : World} {A : Around} {E : Value → Shared → Prop} {s : Shared}
theorem getItem_tuple_rev {t sl : Addr} {items : Array Value} {vl vu vs : Value} {Q : Value → Shared → Prop} (ht : IsTup s.heap t items) (hs : s.heap.IsSliceOf sl vl vu vs) (pl : IsPart vl none) (pu : IsPart vu none) (ps : IsPart vs (some (-1)))
    (h : Q (.ref s.heap.objs.size) { s with heap := s.heap.push { cls := .type "tuple", data := .seq items.toList.reverse.toArray } })
    (hsz : items.size ≤ sizeLine) : wpAny (model prog w) A (getItem (.ref t) (.ref sl)) Q E s := by
  have htake : sizeOk (.seq items.toList.reverse.toArray) := by
    show (items.toList.reverse.toArray).size ≤ sizeLine
    simpa using hsz
  obtain ⟨os, hos, hcs, hds⟩ := id hs
  have hTs : s.TypeIs (.ref sl) "slice" := ⟨os, hos, hcs⟩
  unfold getItem
  try with_reducible refine wpAny_holding ?_
  first | refine wpAny_bind (wpAny_pure ?_) | skip
  refine wpAny_bind (wpAny_sequenceKey ht.typeIs (by decide) ?_)
  refine wpAny_bind (wpAny_callSpecial?_slot (name := Str.ofString "__getitem__") ht.typeIs slot_tuple_getitem
    (wpAny_call_entry slot_tuple_getitem ht.typeIs entry_tuple_getitem ?_ (args_tuple_getitem _ _)))
  show wpAny _ _ (Builtin.Tuple.tupleItemsOf (.ref t) >>= _) _ _ s
  refine wpAny_bind (tupleItemsOf_ ht ?_)
  refine wpAny_bind (wpAny_typeOf hTs ?_)
  rw [if_pos (by decide)]
  refine wpAny_bind ?_
  unfold Builtin.Slice.sliceApplied Builtin.Slice.sliceFields
  refine wpAny_bind (wpAny_bind (wpAny_field hos hds (x := vl) rfl (wpAny_bind (wpAny_field hos hds (x := vu) rfl (wpAny_bind (wpAny_field hos hds (x := vs) rfl (wpAny_pure ?_)))))))
  refine wpAny_bind (HT.slicePart_ ps ?_)
  show wpAny _ _ (if ((-1 : Int) == 0) = true then _ else _) _ _ s
  rw [if_neg (by decide)]
  refine wpAny_bind (HT.slicePart_ pl (wpAny_bind (HT.slicePart_ pu (wpAny_bind (wpAny_pure ?_)))))
  show wpAny _ _ (match Builtin.Slice.sliceAdjust none none (-1) (items.size : Int) with | (lo, hi) => pure (lo, (-1 : Int), Builtin.Slice.slicePlaces lo hi (-1))) _ _ s
  rw [rev_places]
  show wpAny _ _ (pure ((items.size : Int) - 1, (-1 : Int), Builtin.Slice.slicePlaces ((items.size : Int) - 1) (-1) (-1))) _ _ s
  rw [rev_count]
  refine wpAny_pure ?_
  have hno : ¬ (((items.size : Int) - 1 == 0 && (-1 : Int) == 1 && items.size == items.size) = true) := by simp
  show wpAny _ _ (if ((items.size : Int) - 1 == 0 && (-1 : Int) == 1 && items.size == items.size) = true then _ else _) _ _ s
  rw [if_neg hno, rev_pick]
  first
    | exact wpAny_bind (m := Builtin.Tuple.tupleExact _) (wpAny_newObj_type (wpAny_pure ⟨_, rfl, wpAny_pure h⟩) htake)
    | exact wpAny_bind (m := Builtin.Tuple.tupleExact _) (wpAny_newObj_type (wpAny_bind (wpAny_pure (wpAny_pure ⟨_, rfl, wpAny_pure h⟩))) htake)
    | exact wpAny_bind (wpAny_bind (m := Builtin.Tuple.tupleExact _) (wpAny_newObj_type (wpAny_pure (wpAny_pure ⟨_, rfl, wpAny_pure h⟩)) htake))
    | exact wpAny_bind (wpAny_bind (m := Builtin.Tuple.tupleExact _) (wpAny_newObj_type (wpAny_pure ⟨_, rfl, wpAny_pure h⟩) htake))
end
section
variable {X : Cx} {W : WX} {K : PySem.W.Frag}
def tRevT (K : PySem.W.Frag) (te : TE) : TE := fun σ H Q => te σ H fun x H1 => ∃ a xs, x = .ref a ∧ SqT K H1 a xs ∧ ∀ p, H1 p = none → Q (.ref p) (upd H1 p (.tup xs.reverse))
theorem pe_revT {e : Expr} {te : TE} {k : Nat} {p1 p2 p3 pos : Pos} (he : PE X e te) : PE X (.Subscript e (.Slice none none (some (.UnaryOp .USub (.Constant (.int 1) k p1) p2)) p3) pos) (tRevT X.K te) := by
  constructor
  intro pins s σ H Q I h
  refine Subscript_ (thn (he.run pins s σ H _ I h) fun v s1 ⟨x, H1, I1, r1, q1⟩ => ?_)
  obtain ⟨a, xs, rfl, hx, q⟩ := q1
  cases r1
  have hst : PO X (some (.UnaryOp .USub (.Constant (.int 1) k p1) p2)) (tPart (tUn (rU fun i => .int (-i)) (tC (.int 1)))) := po_some (pe_un un_neg pe_int)
  refine wpAny_Slice (thn (po_none.run pins s1 σ H1 (fun o H2 => o = none ∧ H2 = H1) I1 ⟨rfl, rfl⟩) fun vl s2 h2 => ?_)
  obtain ⟨l, H2, I2, pl, rfl, rfl⟩ := h2
  refine thn (po_none.run pins s2 σ H2 (fun o H3 => o = none ∧ H3 = H2) I2 ⟨rfl, rfl⟩) fun vu s3 h3 => ?_
  obtain ⟨u, H3, I3, pu, rfl, rfl⟩ := h3
  refine thn (hst.run pins s3 σ H3 (fun o H4 => o = some (-1) ∧ H4 = H3) I3 ⟨1, rfl, -1, rfl, rfl, rfl⟩) fun vs s4 h4 => ?_
  obtain ⟨o, H4, I4, ps, rfl, rfl⟩ := h4
  have I5 : Inv X pins σ H4 { s4 with heap := s4.heap.push { cls := .type "slice", data := .fields #[vl, vu, vs] } } := I4.kept (t' := s4.toks) fun b ob q => Heap.get?_push_of_some _ q
  obtain ⟨its, r, ht, hz⟩ := I5.tuple hx
  have hlen := r.length
  show wpAny (model X.prog X.w) X.A (subscriptTail e (.Slice none none (some (.UnaryOp .USub (.Constant (.int 1) k p1) p2)) p3) (.ref a) (.ref s4.heap.objs.size)) (EP X pins σ Q) X.xe _
  refine tail_any (ops := [.ref a, .ref s4.heap.objs.size]) ht.typeIs slot_tuple_getitem.lookup ?_ (by with_unfolding_all rfl)
  refine getItem_tuple_rev ht (Heap.IsSliceOf.new _ vl vu vs) pl pu ps ?_ (by rw [List.size_toArray]; omega)
  refine ⟨.ref _, _, I5.laid (t' := s4.toks) (o := .tup xs.reverse) (fun b ob q => Heap.get?_push_of_some _ q) (Nat.le_refl _) ?_, rfl, q _ (I5.hok.fresh (Nat.le_refl _))⟩
  exact ⟨by rw [List.length_reverse]; exact hz, _, r.reverse, IsTup.new _ _⟩
/-- x[::-1], a list or a tuple -/
def oRev : D → Res D
  | .lst xs => .ok (.lst xs.reverse)
  | .tup xs => .ok (.tup xs.reverse)
  | _ => .no
theorem pe_or {e : Expr} {t t' : TE} (h : PE X e t) (h' : PE X e t') : PE X e (fun σ H Q => t σ H Q ∨ t' σ H Q) :=
  ⟨fun pins s σ H Q I q => q.elim (h.run pins s σ H Q I) (h'.run pins s σ H Q I)⟩
theorem q_ce_rev {e : Expr} {k : Nat} {p1 p2 p3 pos : Pos} {te : TE} {f : DS → Res D} (he : CE X W e te f) : CE X W (.Subscript e (.Slice none none (some (.UnaryOp .USub (.Constant (.int 1) k p1) p2)) p3) pos) (fun σ H Q => tRevL X.K te σ H Q ∨ tRevT X.K te σ H Q) (cUn oRev f) :=
  ⟨pe_or (pe_revL he.pe) (pe_revT he.pe), fun B0 H0 δ σ B H Q rel hp => by
    unfold cUn at hp
    cases e : f δ with
    | no => rw [e] at hp; exact hp.elim
    | er x => rw [e] at hp; exact .inl (he.se B0 H0 δ σ B H _ rel (by rw [e]; exact hp))
    | ok d =>
      rw [e, Res.bind_ok] at hp
      unfold oRev at hp
      split at hp
      · refine .inl (he.se B0 H0 δ σ B H _ rel ?_)
        rw [e]
        intro v B1 H1 g1 r1
        cases r1 with
        | lst h1 q => exact ⟨_, _, rfl, g1.i.seq h1, fun p hp' => hp _ _ _ (g1.trans (Grow.new g1.i hp')) (.lst (SqL.of upd_same) (q.reverse.mono (Grow.new g1.i hp').b))⟩
      · refine .inr (he.se B0 H0 δ σ B H _ rel ?_)
        rw [e]
        intro v B1 H1 g1 r1
        cases r1 with
        | tup h1 q => exact ⟨_, _, rfl, sqT_mono g1.i h1, fun p hp' => hp _ _ _ (g1.trans (Grow.new g1.i hp')) (.tup (SqT.of upd_same) (q.reverse.mono (Grow.new g1.i hp').b))⟩
      · exact hp.elim⟩

theorem ce_rev (K : PySem.W.Frag) (hK : X.K = K) {e : Expr} {k : Nat} {p1 p2 p3 pos : Pos} {te : TE} {f : DS → Res D} (he : CE X W e te f) : CE X W (.Subscript e (.Slice none none (some (.UnaryOp .USub (.Constant (.int 1) k p1) p2)) p3) pos) (fun σ H Q => tRevL K te σ H Q ∨ tRevT K te σ H Q) (cUn oRev f) := by
  subst hK
  exact (q_ce_rev he)
/-! ### divmod, range by steps, zip -/
def gDivmod : List D → Res D
  | [.v (.int i), .v (.int j)] => if 0 < j ∧ j.natAbs < 1073741824 then .ok (.tup [.int (i / j), .int (i % j)]) else .no
  | _ => .no
theorem k_divmod : OKC X (.builtin "divmod") (fun xs H Q => ∃ i j, xs = [.int i, .int j] ∧ CDiv i j ∧ ∀ p, H p = none → Q (.ref p) (upd H p (.tup [.int (i / j), .int (i % j)]))) gDivmod := ⟨call_divmod, fun vs ds B H Q i r h => by
  unfold gDivmod at h
  split at h
  · split at h
    · rename_i hz
      cases r with
      | cons r1 r2 =>
        cases r2 with
        | cons r2 r3 => cases r1; cases r2; cases r3; exact ⟨_, _, rfl, ⟨hz.1, by omega⟩, fun p hp => h _ _ _ (Grow.new i hp) (.tup (SqT.of upd_same) (.cons (.v _) (.cons (.v _) .nil)))⟩
    · exact h.elim
  · exact h.elim, fun ds x => by unfold gDivmod; split <;> (try split) <;> simp⟩
def stepsD (i c : Int) (n : Nat) : List D := (List.range n).map fun (k : Nat) => D.int (i + (k : Int) * c)
def steps3 (i j c : Int) : Nat := if i < j then ((j - i - 1) / c + 1).toNat else 0
def gRange3 : List D → Res (List D)
  | [.v (.int i), .v (.int j), .v (.int c)] => if 0 < c ∧ c.natAbs ≤ 1000000 ∧ i.natAbs ≤ 1000000 ∧ j.natAbs ≤ 1000000 then .ok (stepsD i c (steps3 i j c)) else .no
  | _ => .no
theorem rgC_up {i j c : Int} (h : 0 < c ∧ c.natAbs ≤ 1000000 ∧ i.natAbs ≤ 1000000 ∧ j.natAbs ≤ 1000000) : RgC i j c (steps3 i j c) := by
  have h0 : c > 0 := h.1
  have e : Builtin.Range.rangeSize i j c = (steps3 i j c : Int) := by
    unfold Builtin.Range.rangeSize steps3
    rw [if_pos h0]
    split
    · have := Int.ediv_nonneg (a := j - i - 1) (b := c) (by omega) (by omega)
      omega
    · rfl
  have hn : (steps3 i j c : Int) ≤ 3000000 := by
    unfold steps3
    split
    · have h1 := Int.ediv_nonneg (a := j - i - 1) (b := c) (by omega) (by omega)
      have h2 := Int.ediv_le_self c (a := j - i - 1) (by omega)
      omega
    · decide
  refine ⟨by omega, by omega, ?_, e⟩
  unfold Builtin.Range.small
  rw [e]
  simp only [Builtin.Range.rangeFitsLong, Bool.and_eq_true, Bool.or_eq_true, decide_eq_true_eq, beq_iff_eq, h0, if_true]
  omega
theorem ci_range3 {tg a b c : Expr} {p pos : Pos} {t : TA} {f : DS → Res (List D)} (hm : X.mg "range" = none) (ha : CL X W [a, b, c] t f) (hg : Gl X "range" := by rfl)
    (hs : starEach [a, b, c] X.env = (false, eval a X.env) :: starEach [b, c] X.env := by rfl) (hpl : (backTo pos (starEach [b, c] X.env)).any (·.1) = false := by rfl) : CI X W tg (.Call (.Name "range" p) [a, b, c] [] pos) (iRng3 t) (cIt gRange3 f) :=
  ⟨pi_range3 hg hm ha.pa hs hpl, fun B0 H0 δ σ B H R rel hp => by
    unfold cIt at hp
    refine ha.sa B0 H0 δ σ B H _ rel ?_
    cases e : f δ with
    | no => rw [e] at hp; exact hp
    | er x => rw [e] at hp; exact hp
    | ok ds =>
      rw [e, Res.bind_ok] at hp
      intro vs B1 H1 g1 r1
      unfold gRange3 at hp
      split at hp
      · split at hp
        · rename_i i j c hz
          cases r1 with
          | cons r1 r2 =>
            cases r2 with
            | cons r2 r3 =>
              cases r3 with
              | cons r3 r4 =>
                cases r1; cases r2; cases r3; cases r4
                refine ⟨i, j, c, steps3 i j c, rfl, rgC_up hz, ?_⟩
                have hl : (stepsD i c (steps3 i j c)).length = steps3 i j c := by simp [stepsD]
                refine hp _ B1 H1 _ _ g1 (by rw [hl]; exact walk_rangeC) (fun _ _ => trivial) fun k d B2 H2 x H3 hi s1 s2 y => ?_
                obtain ⟨rfl, rfl⟩ := y
                refine ⟨B2, Grow.refl s2, ?_⟩
                unfold stepsD at hi
                rw [List.getElem?_map] at hi
                cases e : (List.range (steps3 i j c))[k]? with
                | none => rw [e] at hi; cases hi
                | some m =>
                  rw [e] at hi
                  have : m = k := by
                    obtain ⟨h1, h2⟩ := List.getElem?_eq_some_iff.mp e
                    simp at h2
                    exact h2.symm
                  subst this
                  cases hi
                  exact .v _
        · exact hp.elim
      · exact hp.elim⟩
def pairsD : List D → List D → List D
  | a :: as, b :: bs => .tup [a, b] :: pairsD as bs
  | _, _ => []
theorem pairsD_length : ∀ (as bs : List D), (pairsD as bs).length = min as.length bs.length
  | [], bs => by simp [pairsD]
  | a :: as, [] => by simp [pairsD]
  | a :: as, b :: bs => by simp [pairsD, pairsD_length as bs]
theorem pairsD_get : ∀ {as bs : List D} {i : Nat} {d : D}, (pairsD as bs)[i]? = some d → ∃ a b, as[i]? = some a ∧ bs[i]? = some b ∧ d = .tup [a, b]
  | [], bs, i, d, h => by simp [pairsD] at h
  | a :: as, [], i, d, h => by simp [pairsD] at h
  | a :: as, b :: bs, 0, d, h => by simp [pairsD] at h; exact ⟨a, b, rfl, rfl, h.symm⟩
  | a :: as, b :: bs, i + 1, d, h => by
    simp [pairsD] at h
    obtain ⟨x, y, h1, h2, h3⟩ := pairsD_get h
    exact ⟨x, y, by simpa using h1, by simpa using h2, h3⟩
def gZip : List D → Res (List D)
  | [.lst as, .lst bs] => .ok (pairsD as bs)
  | [.tup as, .tup bs] => .ok (pairsD as bs)
  | _ => .no
theorem walk_zipT {a b : Addr} {xs ys : List V} {n : Nat} (hn : n = min xs.length ys.length) : Walk (RZ.ItzT K a b) n (fun H => SqT K H a xs ∧ SqT K H b ys) (YPair (fun i => xs[i]?) (fun i => ys[i]?)) := by
  refine ⟨fun i H hi ⟨h1, h2⟩ => ?_, fun H ⟨h1, h2⟩ => ⟨xs, ys, h1, h2, by omega⟩, fun i H v H' hi ⟨h1, h2⟩ y => ?_⟩
  · have l1 : i < xs.length := by omega
    have l2 : i < ys.length := by omega
    exact ⟨xs, ys, xs[i], ys[i], h1, h2, by simp [l1], by simp [l2]⟩
  · obtain ⟨T, x, y, e1, e2, e3, q1, q2⟩ := y
    exact ⟨T, x, y, e1, e2, e3, q1 xs h1, q2 ys h2⟩
theorem yields_pair {B1 : Hp} {xs ys : List V} {as bs : List D} (q1 : RpA K B1 xs as) (q2 : RpA K B1 ys bs) : ∀ (i : Nat) (d : D) (B2 H2 : Hp) (x : V) (H3 : Hp), (pairsD as bs)[i]? = some d → Same B1 B2 → Same B2 H2 → YPair (fun i => xs[i]?) (fun i => ys[i]?) i H2 x H3 → ∃ B3, Grow B2 H2 B3 H3 ∧ Rp K B3 x d := by
  intro i d B2 H2 x H3 hi s1 s2 y
  obtain ⟨T, u, v, rfl, hT, rfl, hx, hy⟩ := y
  obtain ⟨a, b, ha, hb, rfl⟩ := pairsD_get hi
  obtain ⟨a', ea, ra⟩ := q1.get' hx
  obtain ⟨b', eb, rb⟩ := q2.get' hy
  rw [ea] at ha
  rw [eb] at hb
  cases ha
  cases hb
  exact ⟨upd B2 T (.tup [u, v]), Grow.new s2 hT, .tup (SqT.of upd_same) (.cons ((ra.mono s1).mono (Grow.new s2 hT).b) (.cons ((rb.mono s1).mono (Grow.new s2 hT).b) .nil))⟩
theorem q_ci_zip {e e2 : Expr} {t : TA} {f : DS → Res (List D)} {p pos tpos : Pos} {elts : List Expr} {kk : Nat} (hm : X.mg "zip" = none) (ha : CL X W [e, e2] t f) (hg : Gl X "zip" := by rfl)
    (hs : starEach [e, e2] X.env = (false, eval e X.env) :: starEach [e2] X.env := by rfl) (hpl : (backTo pos (starEach [e2] X.env)).any (·.1) = false := by rfl) : CI X W (.Tuple elts kk tpos) (.Call (.Name "zip" p) [e, e2] [] pos) (RZ.iZipA X.K t) (cIt gZip f) :=
  ⟨RZ.pi_zipA hg hm ha.pa hs hpl, fun B0 H0 δ σ B H R rel hp => by
    unfold cIt at hp
    refine ha.sa B0 H0 δ σ B H _ rel ?_
    cases e : f δ with
    | no => rw [e] at hp; exact hp
    | er x => rw [e] at hp; exact hp
    | ok ds =>
      rw [e, Res.bind_ok] at hp
      intro vs B1 H1 g1 r1
      unfold gZip at hp
      split at hp
      · cases r1 with
        | cons r1 r2 =>
          cases r2 with
          | cons r2 r3 =>
            cases r3
            cases r1 with
            | lst h1 q1 =>
              cases r2 with
              | lst h2 q2 =>
                refine ⟨_, _, _, _, rfl, .inl ⟨g1.i.seq h1, g1.i.seq h2, ?_⟩⟩
                exact hp _ B1 H1 _ _ g1 (walk_zip (by rw [pairsD_length, q1.length, q2.length])) (fun H2 s2 => ⟨s2.seq h1, s2.seq h2⟩) (yields_pair q1 q2)
      · cases r1 with
        | cons r1 r2 =>
          cases r2 with
          | cons r2 r3 =>
            cases r3
            cases r1 with
            | tup h1 q1 =>
              cases r2 with
              | tup h2 q2 =>
                refine ⟨_, _, _, _, rfl, .inr ⟨sqT_mono g1.i h1, sqT_mono g1.i h2, ?_⟩⟩
                exact hp _ B1 H1 _ _ g1 (walk_zipT (by rw [pairsD_length, q1.length, q2.length])) (fun H2 s2 => ⟨sqT_mono s2 h1, sqT_mono s2 h2⟩) (yields_pair q1 q2)
      · exact hp.elim⟩
theorem ci_zip (K : PySem.W.Frag) (hK : X.K = K) {e e2 : Expr} {t : TA} {f : DS → Res (List D)} {p pos tpos : Pos} {elts : List Expr} {kk : Nat} (hm : X.mg "zip" = none) (ha : CL X W [e, e2] t f) (hg : Gl X "zip" := by rfl)
    (hs : starEach [e, e2] X.env = (false, eval e X.env) :: starEach [e2] X.env := by rfl) (hpl : (backTo pos (starEach [e2] X.env)).any (·.1) = false := by rfl) : CI X W (.Tuple elts kk tpos) (.Call (.Name "zip" p) [e, e2] [] pos) (RZ.iZipA K t) (cIt gZip f) := by
  subst hK
  exact (q_ci_zip hm ha hg hs hpl)
end
end DV
namespace DV
open PySem L2 PySem.Spec PySem.Calls PyProof.Rows Builtin Builtin.ObjectAttr

/-! ### an own class over any of the builtin exceptions -/
structure OexB (K : PySem.W.Frag) (C : Addr) : Prop where
  base : ∃ (B newId initId : String) (bmB : List Value), ExcBaseFacts B newId initId bmB ∧ PySem.StoreFacts B bmB "object.__setattr__" "object" ∧ PySem.W.excInitIn K C bmB newId = true ∧ PySem.W.excOver K C bmB = true
  hd : PySem.W.hasDictIn K C = true
  sa : PySem.W.findIn K (.ref C) "__setattr__" = some (some (.builtin "object.__setattr__"))
  ex : PySem.W.subIn K (.ref C) (.type "BaseException") = some true
  ty : PySem.W.typeIn K (.ref C) = some (.type "type")
  kp : PySem.W.keepIn K (.ref C) = true

section
variable {prog : Program} {w : World} {A : Around} {R : Result → Shared → Prop} {hp : Heap} {g : Array GenState} {d : Drawn} {t : Nat} {os : OsState} {B : String} {bmB : List Value}
theorem taker_none {K : PySem.W.Frag} {C : Addr} {n : Str} (h : PySem.W.findIn K (.ref C) n = some none) : PySem.W.takerIn K C n = some none := by
  unfold PySem.W.takerIn
  rw [h]
  rfl
/-- the first store -/
theorem osaB_new {K : PySem.W.Frag} {n : Str} {tk : Tok} {v : Value} {x C : Addr} {fv : Array Value} (SF : PySem.StoreFacts B bmB "object.__setattr__" "object") (X : K.In hp) (hx : hp.get? x = some { cls := .ref C, data := .fields fv })
    (ho : PySem.W.excOver K C bmB = true) (hh : PySem.W.hasDictIn K C = true) (ha : PySem.W.findIn K (.ref C) n = some none)
    (hq : ∀ h' tk' dx, (∀ b o, b ≠ x → hp.get? b = some o → h'.get? b = some o) → hp.objs.size ≤ dx → dx ≠ x → h'.get? x = some { cls := .ref C, dict := some dx, data := .fields fv } → h'.Ns1 dx (fun y => if y = n then some v else none) → R (.ok (.ret .none)) ⟨h', g, d, tk', os⟩) :
    codeAny (model prog w) A (.call (.builtin "object.__setattr__") ⟨[.ref x, .str n tk, v], []⟩) R ⟨hp, g, d, t, os⟩ := by
  have hxs : x ≠ hp.objs.size := Nat.ne_of_lt (Heap.lt_size hx)
  refine PySem.W.osa_openX (od := none) SF X ⟨hx, rfl, rfl, trivial⟩ ho (taker_none ha) fun b => ?_
  obtain ⟨cd, hc, hd'⟩ := PySem.W.any_some hh
  have hcls : PySem.W.Looks (model prog w) hp (classData C) cd := PySem.W.looks_clsIn X hc
  obtain ⟨nm, bs, mro, ns, qn, hdd, sn, sb, ab, col, del⟩ := cd
  dsimp only at hd'
  subst hd'
  show wpAny _ _ (storeInOwnDict (.ref x) (.ref C) (.str n tk) n v b) _ _ _
  unfold storeInOwnDict ownDictForStores
  repeat (first | with_reducible refine PySem.HandSPX.store_in_new ?_ ?_ | with_reducible refine wpAny_loadPart_at hx ?_ | with_reducible refine hcls.at ?_ | wp_step)
  · exact ⟨_, #[], _, (Heap.get?_update_ne _ _ _ _ hxs.symm).trans (Heap.get?_push_at rfl rfl), rfl, fun e he => absurd he (by simp), fun _ => rfl⟩
  · intro h' tk' hn' hs
    refine hq h' tk' hp.objs.size (fun b o hb q => ?_) (Nat.le_refl _) hxs.symm ?_ hn'
    · exact (hs.2 b (Nat.ne_of_lt (Heap.lt_size q))).trans ((Heap.get?_update_ne _ _ _ _ hb).trans (Heap.get?_push_of_some _ q))
    · exact (hs.2 x hxs).trans (Heap.get?_update_self _ (Heap.get?_push_of_some _ hx) rfl)
/-- a further store -/
theorem osaB_old {K : PySem.W.Frag} {n : Str} {tk : Tok} {v : Value} {x C dx : Addr} {fv : Array Value} {m0 : Str → Option Value} {nl : List Str} (SF : PySem.StoreFacts B bmB "object.__setattr__" "object") (X : K.In hp) (hx : hp.get? x = some { cls := .ref C, dict := some dx, data := .fields fv })
    (hns : hp.Ns1 dx m0) (hw : Within m0 nl) (hz : nl.length ≤ 1000) (ho : PySem.W.excOver K C bmB = true) (hh : PySem.W.hasDictIn K C = true) (ha : PySem.W.findIn K (.ref C) n = some none)
    (hq : ∀ h' tk', (∀ b o, b ≠ dx → hp.get? b = some o → h'.get? b = some o) → h'.Ns1 dx (fun y => if y = n then some v else m0 y) → R (.ok (.ret .none)) ⟨h', g, d, tk', os⟩) :
    codeAny (model prog w) A (.call (.builtin "object.__setattr__") ⟨[.ref x, .str n tk, v], []⟩) R ⟨hp, g, d, t, os⟩ := by
  obtain ⟨oD, esD, epD, hoD, hdD, _⟩ := hns.count hw
  refine PySem.W.osa_openX (od := some oD) SF X ⟨hx, rfl, rfl, hoD⟩ ho (taker_none ha) fun b => ?_
  obtain ⟨cd, hc, hd'⟩ := PySem.W.any_some hh
  have hcls : PySem.W.Looks (model prog w) hp (classData C) cd := PySem.W.looks_clsIn X hc
  obtain ⟨nm, bs, mro, ns, qn, hdd, sn, sb, ab, col, del⟩ := cd
  dsimp only at hd'
  subst hd'
  show wpAny _ _ (storeInOwnDict (.ref x) (.ref C) (.str n tk) n v b) _ _ _
  unfold storeInOwnDict ownDictForStores
  repeat (first | with_reducible refine PySem.OEX.store_in_old hns hw hz ?_ | with_reducible refine wpAny_loadPart_at hx ?_ | with_reducible refine hcls.at ?_ | wp_step)
  intro h' tk' hn' hs
  exact hq h' tk' (fun b o hb q => (hs.2 b hb).trans q) hn'
end

section
variable {X : Cx} {pins : List (Addr × Obj)} {σ : L2.St} {H : Hp} {s : Shared} {a C dx : Addr} {f : Str} {y : V} {u : Value} {fs : List (Str × V)} {Q : Unit → Shared → Prop} {E : Value → Shared → Prop} {A : Around}
theorem ostB_new (T : OexB X.K C) (I : Inv X pins σ H s) (e : H a = some (exo a C none)) (hno : PySem.W.findIn X.K (.ref C) f = some none) (ry : RelV y u)
    (h : ∀ dx s', H dx = none → dx ≠ a → Inv X pins σ (upd (upd H dx (exd dx [(f, y)])) a (exo a C (some dx))) s' → Q () s') : wpAny (model X.prog X.w) A (setAttr (.ref a) f u) Q E s := by
  obtain ⟨B, newId, initId, bmB, -, SF, -, ov⟩ := T.base
  obtain ⟨t1, ho⟩ := exo_at I.hok e
  obtain ⟨hp, g, d, t, os⟩ := s
  refine PySem.W.set_plain I.kIn (od := none) ⟨ho, rfl, rfl, trivial⟩ T.sa (osaB_new SF I.kIn ho ov T.hd hno fun h' tk' dx k dn dne hx hn => ?_)
  have hnd : H dx = none := I.hok.fresh dn
  have nd : ∀ b o, hp.get? b = some o → b ≠ dx := fun b o q => Nat.ne_of_lt (Nat.lt_of_lt_of_le (Heap.lt_size q) dn)
  have na : ∀ b, H b = none → b ≠ a := fun b n z => by rw [z, e] at n; cases n
  have U : Un X.fs [] H (upd (upd H dx (exd dx [(f, y)])) a (exo a C (some dx))) hp h' := by
    refine ⟨fun b o q n _ _ => k b o (na b n) q, fun b o q n _ _ => ⟨o.slots, k b o (na b n) q⟩, fun b o q n _ => ?_, fun b o q _ => ?_, fun b xs q => ?_, fun b o v q => ?_, fun b ps q => ⟨#[], ?_⟩⟩
    · rw [upd_ne (na b n), upd_ne (nd b o q), n]
    · by_cases hb : b = a
      · subst hb; exact ⟨_, hx⟩
      · exact ⟨o, k b o hb q⟩
    · rw [upd_ne (at_ne e q exo_tup), upd_ne (ne_of_none q hnd), q]
    · rw [upd_ne (at_ne e q exo_frz), upd_ne (ne_of_none q hnd), q]
    · rw [upd_ne (at_ne e q exo_tbl), upd_ne (ne_of_none q hnd), q]; simp
  refine h dx _ hnd dne (I.un (t' := tk') U fun b o q => ?_)
  by_cases hb : b = a
  · subst hb; rw [upd_same] at q; cases q; exact exo_ok hx
  · rw [upd_ne hb] at q
    by_cases hd : b = dx
    · subst hd; rw [upd_same] at q; cases q; exact exd_ok hn (relO_put (fs := []) ry fun g => True.intro)
    · rw [upd_ne hd] at q
      refine (I.hok b o q).stay (fun c v hc z => k c v ?_ z) (fun c hc => ?_) (fun c xs hc => ?_)
      · rcases hc with hc | hc
        · exact fun z => hb (hc ▸ z)
        · exact at_ne e hc exo_own
      · rw [upd_ne (at_ne e hc exo_own), upd_ne (ne_of_none hc hnd), hc]
      · rw [upd_ne (at_ne e hc exo_tup), upd_ne (ne_of_none hc hnd), hc]
theorem ostB_old (T : OexB X.K C) (I : Inv X pins σ H s) (e : H a = some (exo a C (some dx))) (ed : H dx = some (exd dx fs)) (hl : fs.length ≤ 900) (hno : PySem.W.findIn X.K (.ref C) f = some none) (ry : RelV y u)
    (h : ∀ s', Inv X pins σ (upd H dx (exd dx ((f, y) :: fs))) s' → Q () s') : wpAny (model X.prog X.w) A (setAttr (.ref a) f u) Q E s := by
  obtain ⟨B, newId, initId, bmB, -, SF, -, ov⟩ := T.base
  obtain ⟨t1, ho⟩ := exo_at I.hok e
  obtain ⟨mA, hns, rel⟩ := exd_at I.hok ed
  obtain ⟨hp, g, d, t, os⟩ := s
  obtain ⟨oD, _, _, hoD, _, _⟩ := hns.count (within_of rel)
  refine PySem.W.set_plain I.kIn (od := some oD) ⟨ho, rfl, rfl, hoD⟩ T.sa (osaB_old SF I.kIn ho hns (within_of rel) (by rw [List.length_map]; omega) ov T.hd hno fun h' tk' k hn => ?_)
  have hd : ∃ o, h'.get? dx = some o := by
    obtain ⟨o, _, _, e', _⟩ := hn
    exact ⟨o, e'⟩
  exact h _ (I.write (t' := tk') (x := dx) (e := dx) (o := exd dx ((f, y) :: fs)) (by rw [ed]; exact True.intro) (.inl rfl) k hd (exd_ok hn (relO_put ry rel)))
end

/-! ### __init__ -/
/-- self.f = e -/
def tOsB (K : PySem.W.Frag) (f : Str) (to te : TE) : TS := fun D σ H => te σ H fun y H1 => to σ H1 fun x H2 => ∃ a C : Addr, x = .ref a ∧ OexB K C ∧ PySem.W.findIn K (.ref C) f = some none ∧
  ((H2 a = some (exo a C none) ∧ ∀ dx, H2 dx = none → dx ≠ a → D.nx σ (upd (upd H2 dx (exd dx [(f, y)])) a (exo a C (some dx)))) ∨
    ∃ (dx : Addr) (fs : List (Str × V)), H2 a = some (exo a C (some dx)) ∧ H2 dx = some (exd dx fs) ∧ fs.length ≤ 900 ∧ D.nx σ (upd H2 dx (exd dx ((f, y) :: fs))))
theorem ps_osB {X : Cx} {o e : Expr} {to te : TE} {f : Str} {p' pos : Pos} (ho : PE X o to) (he : PE X e te) (hs : swapsWith e (some (.Attribute o f p')) pos.line X.env = pure false := by rfl) : PS X (.Assign [.Attribute o f p'] e pos) (tOsB X.K f to te) := by
  refine ⟨fun pins s σ H D I h => ?_⟩
  refine plainObj_wpAny_Assign_Attribute (thn (he.run pins s σ H _ I h) fun v s1 ⟨y, H1, I1, r1, q1⟩ => thn (ho.run pins s1 σ H1 _ I1 q1) fun u s2 ⟨x, H2, I2, r2, a, C, ex, T, hno, q⟩ => ?_) hs
  subst ex
  obtain rfl : u = Value.ref a := r2
  rcases q with ⟨ea, q⟩ | ⟨dx, fs, ea, ed, hl, q⟩
  · exact ostB_new T I2 ea hno r1 fun dx s' n ne J => ⟨σ, _, J, q dx n ne⟩
  · exact ostB_old T I2 ea ed hl hno r1 fun s' J => ⟨σ, _, J, q⟩
/-- what an __init__ keeps: ff tells the fields by the arguments, the last stored first -/
def spI (K : PySem.W.Frag) (C : Addr) (n : Nat) (ff : List V → List (Str × V)) : Sp := fun vs H Q _ => vs.length = n + 1 ∧ ∃ a ws, vs = .ref a :: ws ∧ H a = some (exo a C none) ∧ ∀ d H', H d = none → d ≠ a → H' a = some (exo a C (some d)) → H' d = some (exd d (ff ws)) → (∀ b, b ≠ a → b ≠ d → H' b = H b) → Q .non H'
section
variable {P : Program} {w : World} {K : PySem.W.Frag} {mg : Str → Option Value} {base : Heap}
/-- def __init__(self): self.f = 'z' -/
theorem init1_ok {qual f z : Str} {st : Stmt} {fI C : Addr} {fd : FuncData} {k : Nat} (F : Fun K "__init__" qual st fI fd) (S : FnScope ["self"] ["self"] (defScope st)) (T : OexB K C) (hno : PySem.W.findIn K (.ref C) f = some none)
    (hb : ∀ (cdv : Value) (A : Around) (outer : List Env) (s : Shared) (H : Hp) (E : XK), PSs (cxOf (L2.CX P w) P w K mg base ["self"] qual (defScope st) fI cdv A outer s H E) (defBody st) (tOsB K f (tVar 0) (tC (.str z)))) :
    FnOk P w K mg base (L2.CX P w) (k + 1) fI fd ["self"] (spI K C 0 fun _ => [(f, .str z)]) := by
  refine F.okX S (fun vs H Q E h => h.1) fun cdv A outer s H vs Q E hr h => ⟨_, hb cdv A outer s H E, ?_⟩
  obtain ⟨hl, a, ws, rfl, ha, hq⟩ := h
  refine ⟨.ref a, rfl, a, C, rfl, T, hno, .inl ⟨ha, fun dx hn hne => hq dx _ hn hne upd_same ?_ fun b b1 b2 => ?_⟩⟩
  · rw [upd_ne hne, upd_same]
  · rw [upd_ne b1, upd_ne b2]
/-- def __init__(self, x): self.f = 'z'; self.g = x -/
theorem init2_ok {qual f g z x : Str} {st : Stmt} {fI C : Addr} {fd : FuncData} {k : Nat} (F : Fun K "__init__" qual st fI fd) (S : FnScope ["self", x] ["self", x] (defScope st)) (T : OexB K C) (hno : PySem.W.findIn K (.ref C) f = some none) (hno2 : PySem.W.findIn K (.ref C) g = some none)
    (hb : ∀ (cdv : Value) (A : Around) (outer : List Env) (s : Shared) (H : Hp) (E : XK), PSs (cxOf (L2.CX P w) P w K mg base ["self", x] qual (defScope st) fI cdv A outer s H E) (defBody st) (tSeq (tOsB K f (tVar 0) (tC (.str z))) (tOsB K g (tVar 0) (tVar 1)))) :
    FnOk P w K mg base (L2.CX P w) (k + 1) fI fd ["self", x] (spI K C 1 fun ws => [(g, ws.getD 0 .non), (f, .str z)]) := by
  refine F.okX S (fun vs H Q E h => h.1) fun cdv A outer s H vs Q E hr h => ⟨_, hb cdv A outer s H E, ?_⟩
  obtain ⟨hl, a, ws, rfl, ha, hq⟩ := h
  obtain ⟨v, rfl⟩ : ∃ v, ws = [v] := by
    match ws, hl with
    | [v], _ => exact ⟨v, rfl⟩
  refine ⟨.ref a, rfl, a, C, rfl, T, hno, .inl ⟨ha, fun dx hn hne => ?_⟩⟩
  refine ⟨v, rfl, .ref a, rfl, a, C, rfl, T, hno2, .inr ⟨dx, [(f, .str z)], upd_same, ?_, by show (1 : Nat) ≤ 900; decide, ?_⟩⟩
  · rw [upd_ne hne, upd_same]
  · refine hq dx _ hn hne ?_ upd_same fun b b1 b2 => ?_
    · rw [upd_ne (Ne.symm hne), upd_same]
    · rw [upd_ne b2, upd_ne b1, upd_ne b2]
end

/-! ### C(e, ..), raised -/
def tMkB (C : Addr) (n : Nat) (ff : List V → List (Str × V)) (ta : TA) : L2.St → Hp → XK → Prop := fun σ H Q => ta σ H fun vs H1 => vs.length = n ∧ n ≤ 1000 ∧ ∀ d, H1 d = none → Q (.ref C) (some d) (upd H1 d (.xd (ff vs)))
section
variable {X : Cx} {x : Str} {C fI : Addr} {k n : Nat} {fd : FuncData} {ps : List Str} {ff : List V → List (Str × V)} {ta : TA} {p pos : Pos} {e : Expr} {es : List Expr}
theorem mkB_run {pins : List (Addr × Obj)} {σ : L2.St} {H1 : Hp} {s1 : Shared} {Q : XK} {us : List Value} {vs : List V} (T : OexB X.K C) (iC : PySem.W.findIn X.K (.ref C) "__init__" = some (some (.ref fI))) (tI : PySem.W.typeIn X.K (.ref fI) = some (.type "function"))
    (F1 : FnOk X.prog X.w X.K X.mg X.base (L2.CX X.prog X.w) k fI fd ps (spI X.K C n ff)) (hr : Room (k + 1) X.A) (hb : Binds X.K fd ps []) (I1 : Inv X pins σ H1 s1) (r1 : Vals vs us) (hv : vs.length = n) (hn1 : n ≤ 1000) (q1 : ∀ d, H1 d = none → Q (.ref C) (some d) (upd H1 d (.xd (ff vs)))) :
    wpAny (model X.prog X.w) X.A (call (.ref C) us) (MkP X pins σ Q) X.xe s1 := by
  obtain ⟨B, newId, initId, bmB, FB, -, hI, -⟩ := T.base
  obtain ⟨nm, N, qn, bs, bm, hdct, sn, sub, ab, col, dd, k0, k1, k2, k3, k5, hC, hT⟩ := PySem.W.excInit_of I1.kIn hI
  obtain ⟨hp, g, dr, tk, os⟩ := s1
  have hsz : hp.objs.size ≤ hp.objs.size + 1 := Nat.le_succ _
  have hn : H1 (hp.objs.size + 1) = none := I1.hok.fresh hsz
  have kk : ∀ b o, hp.get? b = some o → ((hp.push (PySem.W.kdv_tup us)).push (PySem.HandSPX.excO C hp.objs.size)).get? b = some o := fun b o z => Heap.get?_push_of_some _ (Heap.get?_push_of_some _ z)
  have hget : ((hp.push (PySem.W.kdv_tup us)).push (PySem.HandSPX.excO C hp.objs.size)).get? (hp.objs.size + 1) = some (PySem.HandSPX.excO C hp.objs.size) := by heap_get
  have I2 := I1.laid (t' := tk) (a := hp.objs.size + 1) (o := exo (hp.objs.size + 1) C none) (h' := (hp.push (PySem.W.kdv_tup us)).push (PySem.HandSPX.excO C hp.objs.size)) kk hsz (exo_ok hget)
  have hq : spI X.K C n ff (.ref (hp.objs.size + 1) :: vs) (upd H1 (hp.objs.size + 1) (exo (hp.objs.size + 1) C none)) (fun v H2 => v = .non ∧ ∃ (d : Addr), H2 (hp.objs.size + 1) = some (exo (hp.objs.size + 1) C (some d)) ∧ H2 d = some (exd d (ff vs)) ∧ H1 d = none ∧ Q (.ref C) (some d) (upd (del H2 (hp.objs.size + 1)) d (.xd (ff vs)))) (fun _ _ _ => False) := by
    refine ⟨by rw [List.length_cons, hv], _, vs, rfl, upd_same, fun d H2 hd hne e1 e2 e3 => ⟨rfl, d, e1, e2, ?_, ?_⟩⟩
    · rw [upd_ne hne] at hd; exact hd
    · rw [upd_ne hne] at hd
      have eH : upd (del H2 (hp.objs.size + 1)) d (.xd (ff vs)) = upd H1 d (.xd (ff vs)) := by
        funext b
        by_cases b1 : b = d
        · subst b1; rw [upd_same, upd_same]
        · rw [upd_ne b1, upd_ne b1]
          by_cases b2 : b = hp.objs.size + 1
          · subst b2; rw [del_same, hn]
          · rw [del_ne b2, e3 b b2 b1, upd_ne b2]
      rw [eH]
      exact q1 d hd
  have r2 : Vals (V.ref (hp.objs.size + 1) :: vs) (Value.ref (hp.objs.size + 1) :: us) := .cons rfl r1
  have hl : (Value.ref (hp.objs.size + 1) :: us).length = ps.length := by
    have z := r2.length
    rw [F1.len _ _ _ _ hq] at z
    exact z.symm
  have b2 := hb _ (Value.ref (hp.objs.size + 1) :: us) I2.kIn (by rw [List.append_nil]; exact hl)
  rw [List.append_nil] at b2
  refine wpAny_call (PySem.HandSPX.call_own FB hT hC (PySem.W.looks_findIn I1.kIn iC) (fun self => PySem.W.bind_fn I1.kIn self tI) (by rw [← Paired.length r1, hv, sizeLine_eq]; omega)
    (codeAny_mono (F1.run _ X.stack _ _ ⟨Value.ref (hp.objs.size + 1) :: us, []⟩ _ _ _ (fun _ _ _ => False) (hr.make C us []) (I2.env0.make C us []) b2 r2 hq) fun r s' hq' => ?_))
  cases r with
  | error er => exact (passL pins σ _ _ er s' I2 hq')
  | ok fl =>
    cases fl with
    | ret u =>
      obtain ⟨v, H2, os2, bare2, un2, hok2, rv, ev, d, ea, ed, hd1, q2⟩ := hq'
      subst ev
      obtain ⟨h2, g2, d2, t2, os'⟩ := s'
      exact ⟨rv, mk_end (raises_own T.ex T.ty) I1 hsz kk un2 hok2 os2 bare2 ea ed hd1 q2⟩
    | next => exact False.elim hq'
    | brk => exact False.elim hq'
    | cont => exact False.elim hq'
theorem pmkB0 (T : OexB X.K C) (iC : PySem.W.findIn X.K (.ref C) "__init__" = some (some (.ref fI))) (tI : PySem.W.typeIn X.K (.ref fI) = some (.type "function"))
    (F1 : FnOk X.prog X.w X.K X.mg X.base (L2.CX X.prog X.w) k fI fd ps (spI X.K C 0 ff)) (hr : Room (k + 1) X.A) (hb : Binds X.K fd ps []) (hm : X.mg x = some (.ref C)) (hg : Gl X x := by rfl) (hdb : (x == ("__debug__" : Str)) = false := by decide) :
    PMk X (.Call (.Name x p) [] [] pos) (tMkB C 0 ff tNil) := fun pins s σ H Q I h =>
  wpAny_Call_Name_kw (ld_glob I hg hm (PySem.W.callWith_K0 I.kIn T.kp (mkB_run (us := []) T iC tI F1 hr hb I .nil h.1 h.2.1 h.2.2)) hdb)
theorem pmkB (T : OexB X.K C) (iC : PySem.W.findIn X.K (.ref C) "__init__" = some (some (.ref fI))) (tI : PySem.W.typeIn X.K (.ref fI) = some (.type "function"))
    (F1 : FnOk X.prog X.w X.K X.mg X.base (L2.CX X.prog X.w) k fI fd ps (spI X.K C n ff)) (hr : Room (k + 1) X.A) (hb : Binds X.K fd ps []) (hm : X.mg x = some (.ref C)) (ha : PA X (e :: es) ta) (hg : Gl X x := by rfl) (hdb : (x == ("__debug__" : Str)) = false := by decide)
    (he : starEach (e :: es) X.env = (false, eval e X.env) :: starEach es X.env := by rfl) (hpl : (backTo pos (starEach es X.env)).any (·.1) = false := by rfl) :
    PMk X (.Call (.Name x p) (e :: es) [] pos) (tMkB C n ff ta) := fun pins s σ H Q I h =>
  wpAny_Call_Name_kw (ld_glob I hg hm (PySem.W.callWith_K (h₀ := X.base) I.ok.mod.kin T.kp (thn (ha.run pos pins s σ H _ I h) fun us s1 ⟨vs, H1, I1, r1, hv, hn1, q1⟩ => ⟨I1.kIn, mkB_run T iC tI F1 hr hb I1 r1 hv hn1 q1⟩) he hpl) hdb)
end
end DV
namespace DV
open PySem L2 PySem.Spec PySem.Calls PyProof.Rows

/-! ### several except clauses, each with a name -/
abbrev TX := Addr → Value → Option Addr → TS
def endsAt (D : Ends) (i : Nat) : Ends := { nx := fun σ H => D.nx (σ.set i none) H, rt := D.rt, bk := fun σ H => D.bk (σ.set i none) H, ct := fun σ H => D.ct (σ.set i none) H }
def wNamed (K : PySem.W.Frag) (Wout : WX) (D : Ends) : List (Value × Nat × TX) → WX
  | [] => Wout
  | (c, i, ts) :: r => fun cls d σ H => ∃ b, PySem.W.exmOne K cls c = some b ∧ (b = true → ∀ a, H a = none → ts a cls d (endsAt D i) (σ.set i (some (.ref a))) H) ∧ (b = false → wNamed K Wout D r cls d σ H)
inductive HdsN (X : Cx) : List ExceptHandler → List (Value × Nat × TX) → Prop
  | nil : HdsN X [] []
  | cons {x n : Str} {i : Nat} {c : Value} {ts : TX} {b₀ : Stmt} {suite : List Stmt} {np pos' : Pos} {hds : List ExceptHandler} {l : List (Value × Nat × TX)} (hi : X.N[i]? = some n) (hln : X.env.kindOf n = some .local) (hc : Names X x c)
      (hsu : ∀ (a : Addr) (oe : Obj) (cls : Value) (d : Option Addr) (pn : List (Addr × Obj)), Zc cls d oe → (∃ vs, oe.data = .fields vs) → PSs (X.suite a ((a, oe) :: pn)) (b₀ :: suite) (ts a cls d)) (r : HdsN X hds l) :
      HdsN X (.ExceptHandler (some (.Name x np)) (some n) (b₀ :: suite) pos' :: hds) ((c, i, ts) :: l)
theorem ps_tryN {X : Cx} {body : List Stmt} {h₀ : ExceptHandler} {hds : List ExceptHandler} {l : List (Value × Nat × TX)} {pos : Pos} {tb : WX → TS} {Wout : WX} (hs : X.stack = X.env :: X.outer) (hf : X.env.frame = some X.env.locals) (hN : X.N.Nodup) (tk : Takes X Wout)
    (hb : ∀ (W : WX) (pn : List (Addr × Obj)) (xe : Value → Shared → Prop), Takes (X.tr pn xe) W → PassesOwn (model X.prog X.w) X.A X.env xe → PSs (X.tr pn xe) body (tb W)) (hh : HdsN X (h₀ :: hds) l) :
    PS X (.Try body (h₀ :: hds) [] [] pos) (fun D σ H => tb (wNamed X.K Wout D l) D σ H) := by
  refine ⟨fun pins s σ H D I h => ?_⟩
  have ok := I.ok
  have hfr : X.A.frames = some (X.env :: X.outer) := by rw [ok.frames, hs]
  refine wpAny_Try_except (wpAny_mono ((hb (wNamed X.K Wout D l) (X.pn ++ pins) (fun e s₁ => wpAny (model X.prog X.w) X.A (noteFrame e X.env) (fun _ s₂ => wpAny (model X.prog X.w) X.A (setFlight e none) (fun _ s₃ => wpAny (model X.prog X.w) X.A (handleBy e X.env (h₀ :: hds)) (SP X pins D) X.xe s₃) X.xe s₂) X.xe s₁)
    (fun u s' xx => ?_) PassesOwn.looking).run [] s σ H D (I.toTry _) h) (fun f s1 hsp => ?_) (fun e s1 he => he))
  · obtain ⟨a, B, sI, pins', σ', H', cls, d, rfl, J', nb, up, sky, na, os, ag, w⟩ := xx
    have J : Inv X pins σ' H' sI := J'.ofTry ok
    show wpAny (model X.prog X.w) X.A (noteFrame (.ref a) X.env) _ _ _
    refine Sky.land Zc.steady hfr hf (by rw [← hs]; exact sky) fun h3 fl3 up3 => ?_
    have J3 : Inv X pins σ' H' { s' with heap := h3 } := J.landed nb fl3.1 (up.trans up3) os ag
    obtain ⟨oe3, vs3, he3, hz3, hd3⟩ := fl3.there
    have nfr : a ∉ frs (X.env :: X.outer) := fun hm => by
      obtain ⟨_, o', e', hnf⟩ := fl3.2.2.1.mem hm
      rw [he3] at e'
      cases e'
      exact hnf _ hd3
    have nL : a ≠ X.env.locals := fun z => nfr (List.mem_filterMap.mpr ⟨X.env, List.mem_cons_self, by rw [hf, z]⟩)
    have nF : a ∉ X.fs := fun hm => by
      obtain ⟨e, he, q⟩ := List.mem_filterMap.mp hm
      exact nfr (List.mem_filterMap.mpr ⟨e, List.mem_cons_of_mem _ he, q⟩)
    have S3 := J3.suite he3 hd3 na nL nF
    have go : ∀ {hds' : List ExceptHandler} {l' : List (Value × Nat × TX)}, HdsN X hds' l' → wNamed X.K Wout D l' cls d σ' H' → wpAny (model X.prog X.w) X.A (handleBy (.ref a) X.env hds') (SP X pins D) X.xe { s' with heap := h3 } := by
      intro hds' l' hk
      induction hk with
      | nil =>
        intro w
        refine wpAny_handleBy_nil ?_
        obtain ⟨k1, k2, k3, oe, vs, T, oT, ts', he, hz, hd, h1, hr⟩ := id fl3
        unfold PySem.passOn
        refine wpAny_bind (wpAny_field he hd h1 ?_)
        rw [if_neg (by simp)]
        have fin : wpAny (model X.prog X.w) X.A (setFlight (.ref a) X.env.frame) (fun _ s4 => wpAny (model X.prog X.w) X.A (throw (.ref a) : Sem Flow) (SP X pins D) X.xe s4) X.xe { s' with heap := h3 } := by
          rw [hf]
          exact HandSPX.setFlight_upZ fl3 fun h4 hh4 up4 => wpAny_throw (tk _ _ ⟨a, B, sI, pins, σ', H', cls, d, rfl, J, nb, (up.trans up3).trans up4, .inr (.inr (by rw [hs]; exact hh4)), na, os, ag, w⟩)
        first
          | exact wpAny_bind (wpAny_pure (wpAny_bind fin))
          | exact wpAny_bind fin
      | @cons x n i c ts b₀ suite np pos' hds2 l2 hi hln hc hsu r ih =>
        intro w
        obtain ⟨b, hb1, hyes, hno⟩ := w
        refine wpAny_handleBy_cons (codeAny_handlers_test ?_) (by intro q; cases q)
        have LT : PySem.W.Looks (model X.prog X.w) h3 (typeOf (.ref a)) cls := fun A Q E s k q => wpAny_typeOf_ref (k _ _ he3) (by rw [hz3.1]; exact q)
        have LM := PySem.W.exm_one (M := model X.prog X.w) J3.kIn LT hb1
        have test : ∀ {Q : Value → Shared → Prop} {E : Value → Shared → Prop}, Q c { s' with heap := h3 } → wpAny (model X.prog X.w) (X.A.mark (some (.ref a))) (eval (.Name x np) X.env) Q E { s' with heap := h3 } := fun {Q E} q => by
          obtain ⟨hg, hdbg, hm | ⟨hm, hv, hnn⟩⟩ := hc
          · exact ld_glob (X := X.suite a ((a, oe3) :: (X.pn ++ pins))) S3 hg hm q hdbg
          · exact ld_blt (X := X.suite a ((a, oe3) :: (X.pn ++ pins))) S3 hg hm hv q hnn hdbg
        refine test (LM.here ?_)
        cases b with
        | true =>
          refine codeAny_handlers_suite_as (HandSPX.lands_againZ fl3 fun h4 fl4 up4 => ?_)
          have J4 : Inv X pins σ' H' { s' with heap := h4 } := J.landed nb fl4.1 ((up.trans up3).trans up4) os ag
          obtain ⟨oe4, vs4, he4, hz4, hd4⟩ := fl4.there
          refine store_ok (X := X.suite a ((a, oe4) :: (X.pn ++ pins))) (v := .ref a) (J4.suite he4 hd4 na nL nF) hN hi (.inl hln) rfl (fun s5 S5 => ?_) (.inr hln)
          refine wpAny_mono ((hsu a oe4 cls d (X.pn ++ pins) hz4 ⟨_, hd4⟩).run [] s5 _ H' _ S5 (hyes rfl a na)) (fun f s6 hsp => ?_) (fun _ _ z => False.elim z)
          have end_ : ∀ {σ6 : L2.St} {H6 : Hp} {Q : Shared → Prop}, Inv (X.suite a ((a, oe4) :: (X.pn ++ pins))) [] σ6 H6 s6 → (∀ s7, Inv X pins (σ6.set i none) H6 s7 → Q s7) → wpAny (model X.prog X.w) X.A (do bindName X.env n .none; unbindBehindTheSuite X.env n pos') (fun _ s7 => Q s7) X.xe s6 :=
            fun {σ6 H6 Q} S6 hq => gone_ok (S6.unsuite ok) hN hi hln hq
          cases f with
          | next => obtain ⟨σ6, H6, S6, q6⟩ := hsp; exact end_ S6 fun s7 J7 => ⟨_, _, J7, q6⟩
          | brk => obtain ⟨σ6, H6, S6, q6⟩ := hsp; exact end_ S6 fun s7 J7 => ⟨_, _, J7, q6⟩
          | cont => obtain ⟨σ6, H6, S6, q6⟩ := hsp; exact end_ S6 fun s7 J7 => ⟨_, _, J7, q6⟩
          | ret u => obtain ⟨v6, σ6, H6, S6, r6, q6⟩ := hsp; exact end_ S6 fun s7 J7 => ⟨_, _, _, J7, r6, q6⟩
        | false => exact ih (hno rfl)
    exact go hh w
  · cases f with
    | next => obtain ⟨σ', H', J', q⟩ := hsp; exact wpAny_execs_nil ⟨σ', H', J'.ofTry ok, q⟩
    | brk => obtain ⟨σ', H', J', q⟩ := hsp; exact ⟨σ', H', J'.ofTry ok, q⟩
    | cont => obtain ⟨σ', H', J', q⟩ := hsp; exact ⟨σ', H', J'.ofTry ok, q⟩
    | ret u => obtain ⟨v, σ', H', J', r, q⟩ := hsp; exact ⟨v, σ', H', J'.ofTry ok, r, q⟩

/-! ### raise -/
section
variable {X : Cx} {W : WX} {K : PySem.W.Frag}
def cRaise (c : Str) (ff : List D → List (Str × D)) (fa : DS → Res (List D)) : DS → Fl := fun δ => stE (fa δ) δ fun ds => .rs ⟨c, ff ds⟩ δ
/-- the fields by the arguments: of values, of data -/
structure FF (n : Nat) (fv : List V → List (Str × V)) (fd : List D → List (Str × D)) : Prop where
  ok : ∀ (K : PySem.W.Frag) (B : Hp) (vs : List V) (ds : List D), vs.length = n → RpA K B vs ds → (fv vs).map (·.1) = (fd ds).map (·.1) ∧ RpA K B ((fv vs).map (·.2)) ((fd ds).map (·.2))
def fv1 (f z : Str) : List V → List (Str × V) := fun _ => [(f, .str z)]
def fd1 (f z : Str) : List D → List (Str × D) := fun _ => [(f, .str z)]
def fv2 (f z g : Str) : List V → List (Str × V) := fun ws => [(g, ws.getD 0 .non), (f, .str z)]
def fd2 (f z g : Str) : List D → List (Str × D) := fun ws => [(g, ws.getD 0 .non), (f, .str z)]
theorem ff1 {f z : Str} : FF 0 (fv1 f z) (fd1 f z) := ⟨fun _ _ _ _ _ _ => ⟨rfl, .cons (.v _) .nil⟩⟩
theorem ff2 {f z g : Str} : FF 1 (fv2 f z g) (fd2 f z g) := ⟨fun _ _ vs ds hl r => by
  cases r with
  | nil => cases hl
  | cons h r => exact ⟨rfl, .cons h (.cons (.v _) .nil)⟩⟩
theorem ss_raise {C : Addr} {c : Str} {n : Nat} {fv : List V → List (Str × V)} {fd : List D → List (Str × D)} {ta : TA} {fa : DS → Res (List D)} (hc : clsV K c = some (.ref C)) (hn : n ≤ 1000) (F : FF n fv fd) (ha : SA K W ta fa) (hl : ∀ δ ds, fa δ = .ok ds → ds.length = n) :
    SS K W (fun _ σ H => tMkB C n fv ta σ H fun cls d H' => W cls d σ H') (cRaise c fd fa) := fun B0 H0 δ σ B H E rel hp => by
  unfold cRaise at hp
  refine ha B0 H0 δ σ B H _ rel ?_
  cases e : fa δ with
  | no => rw [e] at hp; exact hp
  | er x => rw [e] at hp; exact fun c dx B' H' g r => hp c dx σ B' H' g.b (rel.mono g) r
  | ok ds =>
    rw [e] at hp
    intro vs B1 H1 g1 r1
    have hv : vs.length = n := r1.length.trans (hl δ ds e)
    refine ⟨hv, hn, fun d hd => ?_⟩
    have g2 := Grow.new (o := .xd (fv vs)) g1.i hd
    obtain ⟨f1, f2⟩ := F.ok K B1 vs ds hv r1
    exact hp _ _ σ _ _ (g1.b.trans g2.b) ((rel.mono g1).mono g2) ⟨hc, d, fv vs, rfl, upd_same, f1, RpA.mono g2.b f2⟩
/-- an own class, as the walk knows it -/
structure ExK (K : PySem.W.Frag) (mg : Str → Option Value) (x : Str) (C fI : Addr) : Prop where
  T : OexB K C
  m : mg x = some (.ref C)
  c : clsV K x = some (.ref C)
  iC : PySem.W.findIn K (.ref C) "__init__" = some (some (.ref fI))
  tI : PySem.W.typeIn K (.ref fI) = some (.type "function")
theorem q_cs_raise0 {x : Str} {C fI : Addr} {k : Nat} {fd : FuncData} {ps : List Str} {fv : List V → List (Str × V)} {fD : List D → List (Str × D)} {p pos pos' : Pos} (tk : Takes X W) (T : ExK X.K X.mg x C fI) (F1 : FnOk X.prog X.w X.K X.mg X.base (L2.CX X.prog X.w) k fI fd ps (spI X.K C 0 fv)) (hr : Room (k + 1) X.A) (hb : Binds X.K fd ps [])
    (F : FF 0 fv fD) (hc : X.calm = true) (hg : Gl X x := by rfl) (hdb : (x == ("__debug__" : Str)) = false := by decide) : CS X W (.Raise (some (.Call (.Name x p) [] [] pos)) none pos') (fun _ σ H => tMkB C 0 fv tNil σ H fun cls d H' => W cls d σ H') (cRaise x fD cNil) :=
  ⟨ps_raise hc tk (pmkB0 T.T T.iC T.tI F1 hr hb T.m hg hdb), ss_raise T.c (by decide) F (fun B0 H0 δ σ B H Q rel hp => hp [] B H (Grow.refl rel.g.i) .nil) (fun δ ds h => by cases h; rfl)⟩
theorem cs_raise0 (K : PySem.W.Frag) (hK : X.K = K) {x : Str} {C fI : Addr} {k : Nat} {fd : FuncData} {ps : List Str} {fv : List V → List (Str × V)} {fD : List D → List (Str × D)} {p pos pos' : Pos} (tk : Takes X W) (T : ExK K X.mg x C fI) (F1 : FnOk X.prog X.w K X.mg X.base (L2.CX X.prog X.w) k fI fd ps (spI K C 0 fv)) (hr : Room (k + 1) X.A) (hb : Binds K fd ps [])
    (F : FF 0 fv fD) (hc : X.calm = true := by rfl) (hg : Gl X x := by rfl) (hdb : (x == ("__debug__" : Str)) = false := by decide) : CS X W (.Raise (some (.Call (.Name x p) [] [] pos)) none pos') (fun _ σ H => tMkB C 0 fv tNil σ H fun cls d H' => W cls d σ H') (cRaise x fD cNil) := by
  subst hK
  exact q_cs_raise0 tk T F1 hr hb F hc hg hdb
theorem cs_raise (K : PySem.W.Frag) (hK : X.K = K) {x : Str} {C fI : Addr} {k n : Nat} {fd : FuncData} {ps : List Str} {fv : List V → List (Str × V)} {fD : List D → List (Str × D)} {p pos pos' : Pos} {e : Expr} {es : List Expr} {ta : TA} {fa : DS → Res (List D)} (tk : Takes X W) (T : ExK K X.mg x C fI) (F1 : FnOk X.prog X.w K X.mg X.base (L2.CX X.prog X.w) k fI fd ps (spI K C n fv)) (hr : Room (k + 1) X.A) (hb : Binds K fd ps [])
    (F : FF n fv fD) (ha : CL X W (e :: es) ta fa) (hn : (e :: es).length = n := by rfl) (hn1 : n ≤ 1000 := by decide) (hc : X.calm = true := by rfl) (hg : Gl X x := by rfl) (hdb : (x == ("__debug__" : Str)) = false := by decide) (he : starEach (e :: es) X.env = (false, eval e X.env) :: starEach es X.env := by rfl) (hpl : (backTo pos (starEach es X.env)).any (·.1) = false := by rfl) :
    CS X W (.Raise (some (.Call (.Name x p) (e :: es) [] pos)) none pos') (fun _ σ H => tMkB C n fv ta σ H fun cls d H' => W cls d σ H') (cRaise x fD fa) := by
  subst hK
  exact ⟨ps_raise hc tk (pmkB T.T T.iC T.tI F1 hr hb T.m ha.pa hg hdb he hpl), ss_raise T.c hn1 F ha.sa (fun δ ds h => (ha.ln δ ds h).trans hn)⟩
end

/-! ### an except suite: the exception x is at slot i -/
/-- a class whose instances' fields are read -/
def XcK (K : PySem.W.Frag) (v : Value) : Prop := ∃ C, v = .ref C ∧ XfC K C ∧ ExcC K C ∧ ∀ f ∈ (["word", "name", "there", "ring", "at"] : List Str), PySem.W.findIn K (.ref C) f = some none
section
variable {K : PySem.W.Frag} {B B' H H' : Hp} {x : Exn} {c : Value} {d : Option Addr}
theorem RpX.mono (s : Same B B') (h : RpX K B c d x) : RpX K B' c d x := by
  obtain ⟨h1, dd, us, h2, h3, h4, h5⟩ := h
  exact ⟨h1, dd, us, h2, s _ _ h3, h4, RpA.mono s h5⟩
structure Ctx1 (K : PySem.W.Frag) (i : Nat) (x : Exn) (a : Addr) (cls : Value) (d : Option Addr) (B : Hp) (σ : L2.St) : Prop where
  at_ : σ[i]? = some (some (.ref a))
  rp : RpX K B cls d x
  k : XcK K cls
theorem Ctx1.mono {i : Nat} {a : Addr} {σ : L2.St} (s : Same B B') (h : Ctx1 K i x a c d B σ) : Ctx1 K i x a c d B' σ := ⟨h.at_, h.rp.mono s, h.k⟩
end
def SEx (K : PySem.W.Frag) (i : Nat) (x : Exn) (a : Addr) (cls : Value) (d : Option Addr) (t : TE) (f : DS → Res D) : Prop := ∀ B0 H0 δ σ B H (Q : VK), Rel K B0 H0 B H σ δ → Ctx1 K i x a cls d B σ → PostE K B H σ W0 Q (f δ) → t σ H Q
def STx (K : PySem.W.Frag) (i : Nat) (x : Exn) (a : Addr) (cls : Value) (d : Option Addr) (t : TT) (f : DS → Res Bool) : Prop := ∀ B0 H0 δ σ B H (Q : Bool → Hp → Prop), Rel K B0 H0 B H σ δ → Ctx1 K i x a cls d B σ → PostT K B H σ W0 Q (f δ) → t σ H Q
def SAx (K : PySem.W.Frag) (i : Nat) (x : Exn) (a : Addr) (cls : Value) (d : Option Addr) (t : TA) (f : DS → Res (List D)) : Prop := ∀ B0 H0 δ σ B H (Q : List V → Hp → Prop), Rel K B0 H0 B H σ δ → Ctx1 K i x a cls d B σ → PostA K B H σ W0 Q (f δ) → t σ H Q
def SSx (K : PySem.W.Frag) (i : Nat) (x : Exn) (a : Addr) (cls : Value) (d : Option Addr) (t : TS) (g : DS → Fl) : Prop := ∀ B0 H0 δ σ B H (E : Ends), Rel K B0 H0 B H σ δ → Ctx1 K i x a cls d B σ → PostS K B0 H0 B W0 E (g δ) → t E σ H
abbrev TXE := Addr → Value → Option Addr → TE
abbrev TXT := Addr → Value → Option Addr → TT
abbrev TXA := Addr → Value → Option Addr → TA
def XCx (X : Cx) (P : Cx → Addr → Value → Option Addr → Prop) : Prop := ∀ (a : Addr) (oe : Obj) (cls : Value) (d : Option Addr) (pn : List (Addr × Obj)), Zc cls d oe → (∃ vs, oe.data = .fields vs) → P (X.suite a ((a, oe) :: pn)) a cls d
structure CEx (X : Cx) (i : Nat) (e : Expr) (t : TXE) (f : Exn → DS → Res D) : Prop where
  pe : XCx X fun Y a cls d => PE Y e (t a cls d)
  se : ∀ x a cls d, SEx X.K i x a cls d (t a cls d) (f x)
structure CTx (X : Cx) (i : Nat) (e : Expr) (t : TXT) (f : Exn → DS → Res Bool) : Prop where
  pt : XCx X fun Y a cls d => PT Y e (t a cls d)
  st : ∀ x a cls d, STx X.K i x a cls d (t a cls d) (f x)
structure CAx (X : Cx) (i : Nat) (es : List Expr) (t : TXA) (f : Exn → DS → Res (List D)) : Prop where
  pa : XCx X fun Y a cls d => PA Y es (t a cls d)
  sa : ∀ x a cls d, SAx X.K i x a cls d (t a cls d) (f x)
structure CXs (X : Cx) (i : Nat) (ss : List Stmt) (t : TX) (g : Exn → DS → Fl) : Prop where
  ps : XCx X fun Y a cls d => PSs Y ss (t a cls d)
  ss : ∀ x a cls d, SSx X.K i x a cls d (t a cls d) (g x)
section
variable {X : Cx} {i : Nat}
/-- an expression that does not look at the exception -/
theorem cex_lift {e : Expr} {t : TE} {f : DS → Res D} (h : XCx X fun Y _ _ _ => CE Y W0 e t f) (h2 : SE X.K W0 t f) : CEx X i e (fun _ _ _ => t) (fun _ => f) :=
  ⟨fun a oe cls d pn hz hf => (h a oe cls d pn hz hf).pe, fun x a cls d B0 H0 δ σ B H Q rel _ hp => h2 B0 H0 δ σ B H Q rel hp⟩
def fldR (f : Str) (x : Exn) : Res D := match x.fs.lookup f with
  | some d => .ok d
  | none => .no
def tXfB (K : PySem.W.Frag) (a : Addr) (cls : Value) (d : Option Addr) (f : Str) (te : TE) : TE := fun σ H Q => te σ H fun x H1 => x = .ref a ∧ ∃ C, cls = .ref C ∧ XfC K C ∧ PySem.W.findIn K (.ref C) f = some none ∧ ∃ (dd : Addr) (fs : List (Str × V)) (v : V), d = some dd ∧ H1 dd = some (.xd fs) ∧ fs.lookup f = some v ∧ Q v H1
theorem look2 {K : PySem.W.Frag} {B : Hp} {f : Str} : ∀ {us : List (Str × V)} {fs : List (Str × D)} {z : D}, us.map (·.1) = fs.map (·.1) → RpA K B (us.map (·.2)) (fs.map (·.2)) → fs.lookup f = some z → ∃ v, us.lookup f = some v ∧ Rp K B v z
  | [], [], z, _, _, e => by cases e
  | [], _ :: _, _, e, _, _ => by cases e
  | _ :: _, [], _, e, _, _ => by cases e
  | (n, u) :: us, (m, z') :: fs, z, e, r, l => by
    obtain ⟨e1, e2⟩ := List.cons.inj e
    dsimp only at e1
    subst e1
    cases r with
    | cons h r =>
      rw [List.lookup_cons] at l ⊢
      cases q : (f == n) with
      | true => rw [q] at l; cases l; exact ⟨u, rfl, h⟩
      | false => rw [q] at l; exact look2 e2 r l
theorem cex_fld {e : Expr} {f : Str} {pos : Pos} (he : XCx X fun Y _ _ _ => PE Y e (tVar i)) (hf : f ∈ (["word", "name", "there", "ring", "at"] : List Str) := by decide) (hb : attributeBase e f X.env (eval e X.env) = eval e X.env := by rfl) :
    CEx X i (.Attribute e f pos) (fun a cls d => tXfB X.K a cls d f (tVar i)) (fun x _ => fldR f x) := by
  refine ⟨fun a oe cls d pn hz hv => ⟨fun pins s σ H Q I h => ?_⟩, fun x a cls d B0 H0 δ σ B H Q rel cx hp => ?_⟩
  · refine attr_of hb (thn ((he a oe cls d pn hz hv).run pins s σ H _ I h) fun u s1 hh => ?_)
    obtain ⟨x, H1, I1, rx, ex, C, ec, T, hno, dd, fs, v, ed, ea, l, q⟩ := hh
    subst ex
    obtain rfl : u = Value.ref a := rx
    subst ec ed
    obtain ⟨ha, _⟩ := I1.pin (a, oe) (List.mem_append_left _ List.mem_cons_self)
    obtain ⟨vs, hd⟩ := hv
    obtain ⟨mA, hns, hr⟩ := (show ObjOk X.prog X.w H1 s1.heap dd (.xd fs) from I1.hok dd _ ea)
    obtain ⟨od, ho, hl⟩ := lookIn_ns hns
    obtain ⟨u, hu, ru⟩ := RelO.some_of (v := v) (o := mA f) (by rw [← l]; exact hr f)
    have J : PySem.W.InstAt s1.heap a oe C (some od) := ⟨ha, hz.1, by unfold PySem.W.notCls; rw [hd] <;> rfl, by rw [hz.2]; exact ho⟩
    exact HandSPX.exc_get I1.kIn J T.ga T.gg T.exC (PySem.W.findObj_own T.hdC hno rfl (by rw [hl, hu])) (handed_of ru) ⟨v, H1, I1.tok _, ru, q⟩
  · obtain ⟨C, rfl, T, _, hno⟩ := cx.k
    obtain ⟨_, dd, us, rfl, hB, e1, e2⟩ := cx.rp
    refine ⟨_, cx.at_, rfl, C, rfl, T, hno f hf, dd, us, ?_⟩
    unfold fldR at hp
    cases q : x.fs.lookup f with
    | none => rw [q] at hp; exact hp.elim
    | some z =>
      rw [q] at hp
      obtain ⟨v, l1, l2⟩ := look2 e1 e2 q
      exact ⟨v, rfl, rel.g.i _ _ hB, l1, hp v B H (Grow.refl rel.g.i) l2⟩
/-- return e -/
theorem cxs_ret {e : Expr} {t : TXE} {f : Exn → DS → Res D} {pos : Pos} (h : CEx X i e t f) : CXs X i [.Return (some e) pos] (fun a cls d => tRet (t a cls d)) (fun x δ => stE (f x δ) δ fun z => .rt z) :=
  ⟨fun a oe cls d pn hz hv => pss_one (ps_ret (h.pe a oe cls d pn hz hv)), fun x a cls d B0 H0 δ σ B H E rel cx hp => h.se x a cls d B0 H0 δ σ B H _ rel cx (postE_of rel hp fun z v B' H' _ g r q => q v B' H' (Same.refl _) (rel.g.trans g) r)⟩
end

/-! ### try -/
def Fl.leave (i : Nat) : Fl → Fl
  | .nx δ => .nx (δ.set i none)
  | .bk δ => .bk (δ.set i none)
  | .ct δ => .ct (δ.set i none)
  | .rt d => .rt d
  | _ => .no
abbrev Clauses := List ((Str → Option Bool) × Nat × (Exn → DS → Fl))
def cPick : Clauses → Exn → DS → Fl
  | [], x, δ => .rs x δ
  | (p, i, gs) :: r, x, δ => match p x.cls with
    | none => .no
    | some true => if i < δ.length then (gs x (δ.set i none)).leave i else .no
    | some false => cPick r x δ
def cTry (g : DS → Fl) (hs : Clauses) : DS → Fl := fun δ => match g δ with
  | .rs x δ' => cPick hs x δ'
  | r => r
/-- the classes that a clause takes: by a table -/
def tabP (l : List (Str × Bool)) : Str → Option Bool := fun s => l.lookup s
inductive HdsC (X : Cx) : List ExceptHandler → List (Value × Nat × TX) → Clauses → Prop
  | nil : HdsC X [] [] []
  | cons {x n : Str} {i : Nat} {c : Value} {ts : TX} {gs : Exn → DS → Fl} {p : Str → Option Bool} {b₀ : Stmt} {suite : List Stmt} {np pos' : Pos} {hds : List ExceptHandler} {l : List (Value × Nat × TX)} {q : Clauses} (hi : X.N[i]? = some n) (hln : X.env.kindOf n = some .local) (hc : Names X x c)
      (hp : ∀ s b v, p s = some b → clsV X.K s = some v → PySem.W.exmOne X.K v c = some b ∧ (b = true → XcK X.K v)) (hsu : CXs X i (b₀ :: suite) ts gs) (r : HdsC X hds l q) : HdsC X (.ExceptHandler (some (.Name x np)) (some n) (b₀ :: suite) pos' :: hds) ((c, i, ts) :: l) ((p, i, gs) :: q)
theorem HdsC.n {X : Cx} : ∀ {hds : List ExceptHandler} {l : List (Value × Nat × TX)} {q : Clauses}, HdsC X hds l q → HdsN X hds l
  | _, _, _, .nil => .nil
  | _, _, _, .cons hi hln hc _ hsu r => .cons hi hln hc hsu.ps r.n
section
variable {X : Cx} {W : WX}
theorem pick_ok {B0 H0 B : Hp} {E : Ends} : ∀ {hds : List ExceptHandler} {l : List (Value × Nat × TX)} {q : Clauses}, HdsC X hds l q → ∀ {x : Exn} {δ : DS}, PostS X.K B0 H0 B W E (cPick q x δ) → ∀ {c : Value} {dx : Option Addr} {σ : L2.St} {B' H' : Hp}, Same B B' → Rel X.K B0 H0 B' H' σ δ → RpX X.K B' c dx x → wNamed X.K W E l c dx σ H'
  | _, _, _, .nil, x, δ, hp, c, dx, σ, B', H', sb, rel, rp => hp c dx σ B' H' sb rel rp
  | _, _, _, @HdsC.cons _ _ _ i cv ts gs p _ _ _ _ _ _ _ hi hln hc hpt hsu r, x, δ, hp, c, dx, σ, B', H', sb, rel, rp => by
    unfold cPick at hp
    cases e : p x.cls with
    | none => rw [e] at hp; exact hp.elim
    | some b =>
      rw [e] at hp
      obtain ⟨h1, h2⟩ := hpt _ _ _ e rp.1
      refine ⟨b, h1, fun hb a ha => ?_, fun hb => ?_⟩
      · subst hb
        dsimp only at hp
        split at hp
        case isFalse => exact hp.elim
        rename_i hl0
        have hl : i < σ.length := by rw [rel.len]; exact hl0
        refine hsu.ss x a c dx B0 H0 (δ.set i none) (σ.set i (some (.ref a))) B' H' _ (rel.drop i) ⟨by rw [List.getElem?_set_self hl], rp, h2 rfl⟩ ?_
        cases e2 : gs x (δ.set i none) with
        | nx δ2 => rw [e2] at hp; exact fun σ2 B2 H2 s2 r2 => hp _ B2 H2 (sb.trans s2) (r2.drop i)
        | bk δ2 => rw [e2] at hp; exact fun σ2 B2 H2 s2 r2 => hp _ B2 H2 (sb.trans s2) (r2.drop i)
        | ct δ2 => rw [e2] at hp; exact fun σ2 B2 H2 s2 r2 => hp _ B2 H2 (sb.trans s2) (r2.drop i)
        | rt z => rw [e2] at hp; exact fun v B2 H2 s2 g r2 => hp v B2 H2 (sb.trans s2) g r2
        | rs x2 δ2 => rw [e2] at hp; exact hp.elim
        | no => rw [e2] at hp; exact hp.elim
      · subst hb
        exact pick_ok r hp sb rel rp
/-- a def's context takes what lies in the air -/
theorem takes_look {pn : List (Addr × Obj)} {W' : WX} (hs : X.stack = X.env :: X.outer) (hf : X.env.frame = some X.env.locals) :
    Takes (X.tr pn (fun e s₁ => wpAny (model X.prog X.w) X.A (noteFrame e X.env) (fun _ s₂ => wpAny (model X.prog X.w) X.A (setFlight e none) (fun _ _ => True) (fun _ _ => True) s₂) (fun _ _ => True) s₁)) W' := fun u s' xx => by
  obtain ⟨a, B, sI, pins', σ', H', cls, d, rfl, J', nb, up, sky, na, os, ag, w⟩ := xx
  have hfr : X.A.frames = some (X.env :: X.outer) := by rw [← hs]; exact J'.ok.frames
  exact Sky.land Zc.steady hfr hf (by rw [← hs]; exact sky) fun h3 fl3 up3 => trivial
theorem cs_try {body : List Stmt} {h₀ : ExceptHandler} {hds : List ExceptHandler} {l : List (Value × Nat × TX)} {q : Clauses} {pos : Pos} {tb : WX → TS} {g : DS → Fl} (hs : X.stack = X.env :: X.outer) (hf : X.env.frame = some X.env.locals) (hN : X.N.Nodup) (tk : Takes X W)
    (hb : ∀ (W' : WX) (pn : List (Addr × Obj)) (xe : Value → Shared → Prop), Takes (X.tr pn xe) W' → PassesOwn (model X.prog X.w) X.A X.env xe → CSs (X.tr pn xe) W' body (tb W') g) (hh : HdsC X (h₀ :: hds) l q) :
    CS X W (.Try body (h₀ :: hds) [] [] pos) (fun D σ H => tb (wNamed X.K W D l) D σ H) (cTry g q) := by
  refine ⟨ps_tryN hs hf hN tk (fun W' pn xe t1 t2 => (hb W' pn xe t1 t2).ps) hh.n, fun B0 H0 δ σ B H E rel hp => ?_⟩
  have S := (hb (wNamed X.K W E l) [] _ (takes_look hs hf) PassesOwn.looking).ss
  refine S B0 H0 δ σ B H E rel ?_
  unfold cTry at hp
  cases e : g δ with
  | nx δ2 => rw [e] at hp; exact hp
  | bk δ2 => rw [e] at hp; exact hp
  | ct δ2 => rw [e] at hp; exact hp
  | rt z => rw [e] at hp; exact hp
  | no => rw [e] at hp; exact hp
  | rs x δ2 =>
    rw [e] at hp
    exact fun c dx σ' B' H' sb rel' rp => pick_ok hh hp sb rel' rp
end
end DV
namespace DV
open PySem L2 PySem.Spec PySem.Calls PyProof.Rows

/-! ### what is asked of an own class, as one test -/
def oexB (K : PySem.W.Frag) (C : Addr) (bmB : List Value) (newId : String) : Bool :=
  PySem.W.excInitIn K C bmB newId && (PySem.W.excOver K C bmB && (PySem.W.hasDictIn K C && (decide (PySem.W.findIn K (.ref C) "__setattr__" = some (some (.builtin "object.__setattr__"))) && (decide (PySem.W.subIn K (.ref C) (.type "BaseException") = some true) && (decide (PySem.W.typeIn K (.ref C) = some (.type "type")) && PySem.W.keepIn K (.ref C))))))
theorem oexB_ok {K : PySem.W.Frag} {C : Addr} {B newId initId : String} {bmB : List Value} (F : ExcBaseFacts B newId initId bmB) (SF : PySem.StoreFacts B bmB "object.__setattr__" "object") (h : oexB K C bmB newId = true) : OexB K C := by
  obtain ⟨h1, h⟩ := Bool.and_eq_true_iff.mp h
  obtain ⟨h2, h⟩ := Bool.and_eq_true_iff.mp h
  obtain ⟨h3, h⟩ := Bool.and_eq_true_iff.mp h
  obtain ⟨h4, h⟩ := Bool.and_eq_true_iff.mp h
  obtain ⟨h5, h⟩ := Bool.and_eq_true_iff.mp h
  obtain ⟨h6, h7⟩ := Bool.and_eq_true_iff.mp h
  exact ⟨⟨B, newId, initId, bmB, F, SF, h1, h2⟩, h3, of_decide_eq_true h4, of_decide_eq_true h5, of_decide_eq_true h6, h7⟩
def xcB (K : PySem.W.Frag) (C : Addr) : Bool :=
  xfB K C && (decide (PySem.W.findIn K (.ref C) "__class__" = some (some (.builtin "object.__class__"))) && (decide (PySem.W.specialIn K (.builtin "object.__class__") "__get__" = some (some (.builtin "getset_descriptor.__get__"))) && (decide (PySem.W.takesIn K (.builtin "object.__class__") = some true) && (decide (PySem.W.mroIn K C (.type "object") = some true) &&
    (["word", "name", "there", "ring", "at"] : List Str).all fun f => decide (PySem.W.findIn K (.ref C) f = some none)))))
theorem xcB_ok {K : PySem.W.Frag} {C : Addr} (h : xcB K C = true) : XcK K (.ref C) := by
  obtain ⟨h1, h⟩ := Bool.and_eq_true_iff.mp h
  obtain ⟨h2, h⟩ := Bool.and_eq_true_iff.mp h
  obtain ⟨h3, h⟩ := Bool.and_eq_true_iff.mp h
  obtain ⟨h4, h⟩ := Bool.and_eq_true_iff.mp h
  obtain ⟨h5, h6⟩ := Bool.and_eq_true_iff.mp h
  have x := xfB_ok h1
  exact ⟨C, rfl, x, ⟨x.ga, x.gg, x.exC, x.hdC, of_decide_eq_true h2, of_decide_eq_true h3, of_decide_eq_true h4, of_decide_eq_true h5⟩, fun f hf => of_decide_eq_true (List.all_eq_true.mp h6 f hf)⟩
theorem XcK.no {K : PySem.W.Frag} {C : Addr} (h : XcK K (.ref C)) {f : Str} (hf : f ∈ (["word", "name", "there", "ring", "at"] : List Str) := by decide) : PySem.W.findIn K (.ref C) f = some none := by
  obtain ⟨C', e, _, _, h⟩ := h
  cases e
  exact h f hf
theorem clsV_of {K : PySem.W.Frag} {x : Str} {v : Value} (h : PySem.W.nsIn K mainGlobals x = some (some v)) : clsV K x = some v := by
  unfold clsV
  rw [h]
  rfl

/-! ### the table of a clause -/
def TabOk (K : PySem.W.Frag) (c : Value) (l : List (Str × Bool)) : Prop := ∀ s b v, tabP l s = some b → clsV K s = some v → PySem.W.exmOne K v c = some b ∧ (b = true → XcK K v)
theorem tab_nil {K : PySem.W.Frag} {c : Value} : TabOk K c [] := fun s b v h => by cases h
theorem tab_cons {K : PySem.W.Frag} {c v0 : Value} {l : List (Str × Bool)} {x : Str} {b0 : Bool} (hx : clsV K x = some v0) (he : PySem.W.exmOne K v0 c = some b0) (hk : XcK K v0) (r : TabOk K c l) : TabOk K c ((x, b0) :: l) := fun s b v h hv => by
  unfold tabP at h
  rw [List.lookup_cons] at h
  cases q : (s == x) with
  | true =>
    rw [q] at h
    cases h
    rw [beq_iff_eq.mp q] at hv
    rw [hx] at hv
    cases hv
    exact ⟨he, fun _ => hk⟩
  | false => rw [q] at h; exact r s b v h hv
/-- a class's body -/
def inCls (s : Stmt) (j : Nat) : Stmt := match s with
  | .ClassDef _ _ _ b _ _ _ _ _ _ _ => b.getD j (.Pass ⟨0, 0, 0, 0⟩)
  | _ => .Pass ⟨0, 0, 0, 0⟩
/-- a def whose positional defaults are dvs -/
theorem funD_mk {K : PySem.W.Frag} {x qual : Str} {st : Stmt} {f T : Addr} {oc : Value} {od an : Option Addr} {osl : Array (Option Value)} {kV doc pm cdv ct : Value} {oT : Obj} {its : List Value} {nT : Nat} {dvs : List V} (l : K.lookup f = some ⟨oc, od, .func (PySem.W.fnOf x qual (defArgs st) (defBody st) (defScope st) (.ref T) kV doc pm an cdv ct), osl⟩)
    (c : PySem.W.codeIn K cdv qual = true) (k : PySem.W.keepIn K (.ref f) = true) (lT : K.lookup T = some oT) (dT : oT.data = .seq its.toArray nT) (hv : Vals dvs its) (hne : dvs ≠ []) : FunD K x qual (defArgs st) (defBody st) (defScope st) dvs [] f (PySem.W.fnOf x qual (defArgs st) (defBody st) (defScope st) (.ref T) kV doc pm an cdv ct) :=
  ⟨⟨oc, od, _, kV, doc, pm, an, cdv, ct, osl, rfl, l, c, .inr ⟨hne, T, oT, its, nT, rfl, lT, dT, hv⟩, .inl rfl⟩, k⟩
theorem binds_all {K : PySem.W.Frag} {fd : FuncData} {ps : List Str} {dvs : List V} (h : ∃ ds, Vals dvs ds ∧ Binds K fd ps ds) (hd : dvs = []) : Binds K fd ps [] := by
  subst hd
  obtain ⟨ds, hv, hb⟩ := h
  cases hv
  exact hb
/-- as many turns as the int at slot j is great, and one -/
def fuelI (j : Nat) : DS → Nat := fun δ => match δ[j]? with
  | some (some (.im (.v (.int n)))) => n.natAbs + 1
  | _ => 0
end DV
namespace DV
open PySem L2 PySem.Spec PySem.Calls PyProof.Rows

/-! ### calls with keywords: where each parameter's value comes from -/
inductive Pk (α : Type) where
  | p (i : Nat)
  | k (j : Nat)
  | c (a : α)
def Pk.get {α : Type} (z : α) (us ws : List α) : Pk α → α
  | .p i => us.getD i z
  | .k j => ws.getD j z
  | .c a => a
abbrev pkV (l : List (Pk V)) (vs zs : List V) : List V := l.map (Pk.get .non vs zs)
abbrev pkU (l : List (Pk Value)) (us ws : List Value) : List Value := l.map (Pk.get .none us ws)
abbrev pkD (l : List (Pk D)) (ds es : List D) : List D := l.map (Pk.get .non ds es)
inductive PkR (K : PySem.W.Frag) : List (Pk V) → List (Pk D) → Prop
  | nil : PkR K [] []
  | p {l : List (Pk V)} {m : List (Pk D)} (i : Nat) (r : PkR K l m) : PkR K (.p i :: l) (.p i :: m)
  | k {l : List (Pk V)} {m : List (Pk D)} (i : Nat) (r : PkR K l m) : PkR K (.k i :: l) (.k i :: m)
  | c {l : List (Pk V)} {m : List (Pk D)} {v : V} {d : D} (h : ∀ B, Rp K B v d) (r : PkR K l m) : PkR K (.c v :: l) (.c d :: m)
inductive PkU : List (Pk V) → List (Pk Value) → Prop
  | nil : PkU [] []
  | p {l : List (Pk V)} {m : List (Pk Value)} (i : Nat) (r : PkU l m) : PkU (.p i :: l) (.p i :: m)
  | k {l : List (Pk V)} {m : List (Pk Value)} (i : Nat) (r : PkU l m) : PkU (.k i :: l) (.k i :: m)
  | c {l : List (Pk V)} {m : List (Pk Value)} {v : V} {u : Value} (h : RelV v u) (r : PkU l m) : PkU (.c v :: l) (.c u :: m)
section
variable {K : PySem.W.Frag} {B : Hp}
theorem RpA.getD : ∀ {vs : List V} {ds : List D} (i : Nat), RpA K B vs ds → Rp K B (vs.getD i .non) (ds.getD i .non)
  | _, _, _, .nil => by simpa using Rp.v .non
  | _, _, 0, .cons h _ => by simpa using h
  | _, _, i + 1, .cons _ r => by simpa using RpA.getD i r
theorem vals_getD : ∀ {vs : List V} {us : List Value} (i : Nat), Vals vs us → RelV (vs.getD i .non) (us.getD i .none)
  | _, _, _, .nil => rfl
  | _, _, 0, .cons h _ => h
  | _, _, i + 1, .cons _ r => vals_getD i r
theorem PkR.rel {vs zs : List V} {ds es : List D} (r1 : RpA K B vs ds) (r2 : RpA K B zs es) : ∀ {l : List (Pk V)} {m : List (Pk D)}, PkR K l m → RpA K B (pkV l vs zs) (pkD m ds es)
  | _, _, .nil => .nil
  | _, _, .p i r => .cons (r1.getD i) (PkR.rel r1 r2 r)
  | _, _, .k i r => .cons (r2.getD i) (PkR.rel r1 r2 r)
  | _, _, .c h r => .cons (h B) (PkR.rel r1 r2 r)
theorem PkU.rel {vs zs : List V} {us ws : List Value} (r1 : Vals vs us) (r2 : Vals zs ws) : ∀ {l : List (Pk V)} {m : List (Pk Value)}, PkU l m → Vals (pkV l vs zs) (pkU m us ws)
  | _, _, .nil => .nil
  | _, _, .p i r => .cons (vals_getD i r1) (PkU.rel r1 r2 r)
  | _, _, .k i r => .cons (vals_getD i r2) (PkU.rel r1 r2 r)
  | _, _, .c h r => .cons h (PkU.rel r1 r2 r)
end
/-- a call's form: n positional values, keywords ks -/
def KForm (K : PySem.W.Frag) (fd : FuncData) (ps : List Str) (n : Nat) (ks : List Str) (l : List (Pk V)) : Prop := ∃ g, KBn K fd ps n ks g (pkV l)
section
variable {K : PySem.W.Frag} {x qual : Str} {params : Arguments} {body : List Stmt} {scope : Scope} {dvs : List V} {kws : List (Str × V)} {f : Addr} {fd : FuncData} {ps : List Str}
/-- positional defaults alone -/
theorem form1 (F : FunD K x qual params body scope dvs [] f fd) (n : Nat) (ks : List Str) (l : List (Pk V)) (lU : List Value → List (Pk Value)) (hd : dvs ≠ []) (hl : ∀ its, Vals dvs its → PkU l (lU its))
    (h : ∀ (T : Addr) (kV doc pm : Value) (an : Option Addr) (cdv ct : Value) (us its ws : List Value), us.length = n → its.length = dvs.length → ws.length = ks.length → ∃ k, bindArgs (PySem.W.fnOf x qual params body scope (.ref T) kV doc pm an cdv ct) ⟨us, ks.zip ws⟩ = seqItems? (.ref T) >>= k ∧ k (some its.toArray) = pure (ps.zip (pkU (lU its) us ws))) : KForm K fd ps n ks l := by
  obtain ⟨oc, od, dV, kV, doc, pm, an, cdv, ct, osl, rfl, lk, hcd, hD, hK⟩ := F.ex
  rcases hD with ⟨e, _⟩ | ⟨_, T, o, its, m, rfl, lT, oT, rT⟩
  · exact absurd e hd
  · refine ⟨pkU (lU its), fun s us ws X l1 l2 => ?_, fun r1 r2 => (hl its rT).rel r1 r2⟩
    obtain ⟨k, e1, e2⟩ := h T kV doc pm an cdv ct us its ws l1 rT.length.symm l2
    refine BindsTo.of_looks fun M => ?_
    rw [e1]
    exact looks_items X lT oT (.of_pure e2)
/-- no positional defaults, every keyword-only one is given -/
theorem form0 (F : FunD K x qual params body scope [] kws f fd) (n : Nat) (ks : List Str) (l : List (Pk V)) (lU : List (Pk Value)) (hl : PkU l lU)
    (h : ∀ (kV doc pm : Value) (an : Option Addr) (cdv ct : Value) (us ws : List Value), us.length = n → ws.length = ks.length → bindArgs (PySem.W.fnOf x qual params body scope .none kV doc pm an cdv ct) ⟨us, ks.zip ws⟩ = pure (ps.zip (pkU lU us ws))) : KForm K fd ps n ks l := by
  obtain ⟨oc, od, dV, kV, doc, pm, an, cdv, ct, osl, rfl, lk, hcd, hD, hK⟩ := F.ex
  rcases hD with ⟨_, rfl⟩ | ⟨e, _⟩
  · exact ⟨pkU lU, fun s us ws X l1 l2 => .of_eq (h kV doc pm an cdv ct us ws l1 l2), fun r1 r2 => hl.rel r1 r2⟩
  · exact absurd rfl e
end
/-- the keywords' values -/
structure CK (X : Cx) (W : WX) (kws : List Keyword) (t : TA) (f : DS → Res (List D)) : Prop where
  pk : PK X kws t
  sa : SA X.K W t f
  ln : ∀ δ ds, f δ = .ok ds → ds.length = kws.length
def tCallKS (n m : Nat) (sp : Sp) (gV : List V → List V → List V) (E : L2.St → XK) (t tk : TA) : TE := fun σ H Q => t σ H fun vs H1 => tk σ H1 fun zs H2 => vs.length = n ∧ zs.length = m ∧ sp (gV vs zs) H2 Q (E σ)
def cKw (F : List D → Res D) (l : List (Pk D)) (fa fk : DS → Res (List D)) : DS → Res D := fun δ => (fa δ).bind fun ds => (fk δ).bind fun es => F (pkD l ds es)
section
variable {X : Cx} {W : WX}
theorem cons_len {f : DS → Res D} {g : DS → Res (List D)} {n : Nat} (h : ∀ δ ds, g δ = .ok ds → ds.length = n) (δ : DS) (ds : List D) (e : cCons f g δ = .ok ds) : ds.length = n + 1 := by
  unfold cCons at e
  cases e1 : f δ with
  | no => rw [e1] at e; cases e
  | er x => rw [e1] at e; cases e
  | ok d =>
    rw [e1, Res.bind_ok] at e
    cases e2 : g δ with
    | no => rw [e2] at e; cases e
    | er x => rw [e2] at e; cases e
    | ok ds' =>
      rw [e2, Res.bind_ok] at e
      cases e
      rw [List.length_cons, h δ ds' e2]
theorem ck_nil : CK X W [] tNil cNil := ⟨pk_nil, fun B0 H0 δ σ B H Q rel hp => hp [] B H (Grow.refl rel.g.i) .nil, fun δ ds h => by cases h; rfl⟩
theorem ck_cons {e : Expr} {nm : Option Str} {kpos : Pos} {kws : List Keyword} {te : TE} {t : TA} {f : DS → Res D} {g : DS → Res (List D)} (ha : CE X W e te f) (hb : CK X W kws t g) : CK X W (⟨nm, e, kpos⟩ :: kws) (tCons te t) (cCons f g) :=
  ⟨pk_cons ha.pe hb.pk, sa_cons ha.se hb.sa, cons_len hb.ln⟩
theorem se_kw {K : PySem.W.Frag} {n m np : Nat} {F : List D → Res D} {lV : List (Pk V)} {l : List (Pk D)} {t tk : TA} {fa fk : DS → Res (List D)} (hl : PkR K lV l) (hn : l.length = np) (h1 : SA K W t fa) (l1 : ∀ δ ds, fa δ = .ok ds → ds.length = n) (h2 : SA K W tk fk) (l2 : ∀ δ ds, fk δ = .ok ds → ds.length = m) :
    SE K W (tCallKS n m (spD K np F) (pkV lV) (WE W) t tk) (cKw F l fa fk) := fun B0 H0 δ σ B H Q rel hp => by
  unfold cKw at hp
  refine h1 B0 H0 δ σ B H _ rel ?_
  cases e : fa δ with
  | no => rw [e] at hp; exact hp
  | er x => rw [e] at hp; exact hp
  | ok ds =>
    rw [e, Res.bind_ok] at hp
    intro vs B1 H1 g1 r1
    refine h2 B0 H0 δ σ B1 H1 _ (rel.mono g1) ?_
    cases e2 : fk δ with
    | no => rw [e2] at hp; exact hp
    | er x => rw [e2] at hp; exact fun c dx B' H' g' rp => hp c dx B' H' (g1.trans g') rp
    | ok es =>
      rw [e2, Res.bind_ok] at hp
      intro zs B2 H2 g2 r2
      have rr := hl.rel (RpA.mono g2.b r1) r2
      refine ⟨r1.length.trans (l1 δ ds e), r2.length.trans (l2 δ es e2), ?_, pkD l ds es, B2, g2.i, rr, ⟨fun p hp' => (g1.trans g2).t p (rel.g.t p (rel.tk p hp')), (g1.trans g2).n (rel.g.n rel.nt)⟩, ?_⟩
      · rw [rr.length, List.length_map, hn]
      · cases e3 : F (pkD l ds es) with
        | no => rw [e3] at hp; exact hp
        | er x => rw [e3] at hp; exact fun c dx B' H' g' rp => hp c dx B' H' ((g1.trans g2).trans g') rp
        | ok z => rw [e3] at hp; exact fun v B' H' g' rp => hp v B' H' ((g1.trans g2).trans g') rp
theorem run_kw {k n : Nat} {f : Addr} {fd : FuncData} {ps ks : List Str} {sp : Sp} {gV : List V → List V → List V} {g : List Value → List Value → List Value} {pins : List (Addr × Obj)} {σ : L2.St} {H : Hp} {s : Shared} {Q : VK} {us ws : List Value} {vs zs : List V} (F : FnOk X.prog X.w X.K X.mg X.base (L2.CX X.prog X.w) k f fd ps sp) (hr : Room k X.A) (hb : KBn X.K fd ps n ks g gV) (tk : Takes X W)
    (I : Inv X pins σ H s) (r : Vals vs us) (rz : Vals zs ws) (l1 : vs.length = n) (l2 : zs.length = ks.length) (h : sp (gV vs zs) H Q (WE W σ)) : wpAny (model X.prog X.w) X.A (call (.ref f) us (ks.zip ws)) (EP X pins σ Q) X.xe s := by
  refine wpAny_call (codeAny_mono (F.run X.A X.stack s H ⟨us, ks.zip ws⟩ (g us ws) (gV vs zs) Q _ hr I.env0 (hb.to s us ws I.kIn (r.length.symm.trans l1) (rz.length.symm.trans l2)) (hb.rel r rz) h) fun r s' hq => ?_)
  cases r with
  | error e => exact passAt tk σ pins H s e s' I hq
  | ok fl =>
    cases fl with
    | ret u => exact I.after hq
    | next => exact False.elim hq
    | brk => exact False.elim hq
    | cont => exact False.elim hq
theorem ce_kw0 (K : PySem.W.Frag) (hK : X.K = K) {k np : Nat} {f : Addr} {fd : FuncData} {ps ks : List Str} {F : List D → Res D} {lV : List (Pk V)} {l : List (Pk D)} {x : Str} {p pos : Pos} {kws : List Keyword} {tk : TA} {fk : DS → Res (List D)}
    (G : FnOk X.prog X.w K X.mg X.base (L2.CX X.prog X.w) k f fd ps (spD K np F)) (hr : Room k X.A) (hm : X.mg x = some (.ref f)) (hk : PySem.W.keepIn K (.ref f) = true) (hb : KForm K fd ps 0 ks lV) (hl : PkR K lV l) (tkn : Takes X W) (ha : CK X W kws tk fk) (hn : l.length = np := by rfl) (hkn : kws.length = ks.length := by rfl) (hg : Gl X x := by rfl) (hdb : (x == ("__debug__" : Str)) = false := by decide)
    (hall : (backToKw pos (keywordEach kws X.env)).all (·.1.isSome) = true := by rfl) (hks : (backToKw pos (keywordEach kws X.env)).filterMap (·.1) = ks := by rfl) (hpl : ((backTo pos (starEach [] X.env)).any (·.1) || (backToKw pos (keywordEach kws X.env)).any (·.1.isNone)) = false := by rfl) :
    CE X W (.Call (.Name x p) [] kws pos) (tCallKS 0 ks.length (spD K np F) (pkV lV) (WE W) tNil tk) (cKw F l cNil fk) := by
  subst hK
  obtain ⟨g, hb⟩ := hb
  refine ⟨⟨fun pins s σ H Q I h => ?_⟩, se_kw hl hn (fun B0 H0 δ σ B H Q rel hp => hp [] B H (Grow.refl rel.g.i) .nil) (fun δ ds e => by cases e; rfl) ha.sa (fun δ ds e => (ha.ln δ ds e).trans hkn)⟩
  refine wpAny_Call_Name_kw (ld_glob I hg hm ?_ hdb)
  refine PySem.W.callWith_KW0 (h₀ := X.base) I.ok.mod.kin hk hall (thn (ha.pk.run pos pins s σ H _ I h) fun ws s2 ⟨zs, H2, I2, rz, l1, l2, q2⟩ => ⟨I2.kIn, ?_⟩) hpl
  rw [hks]
  exact run_kw (us := []) G hr hb tkn I2 .nil rz l1 l2 q2
theorem ce_kw (K : PySem.W.Frag) (hK : X.K = K) {k n np : Nat} {f : Addr} {fd : FuncData} {ps ks : List Str} {F : List D → Res D} {lV : List (Pk V)} {l : List (Pk D)} {x : Str} {p pos : Pos} {e : Expr} {es : List Expr} {kws : List Keyword} {t tk : TA} {fa fk : DS → Res (List D)}
    (G : FnOk X.prog X.w K X.mg X.base (L2.CX X.prog X.w) k f fd ps (spD K np F)) (hr : Room k X.A) (hm : X.mg x = some (.ref f)) (hk : PySem.W.keepIn K (.ref f) = true) (hb : KForm K fd ps n ks lV) (hl : PkR K lV l) (tkn : Takes X W) (ha : CL X W (e :: es) t fa) (hkw : CK X W kws tk fk) (hn0 : (e :: es).length = n := by rfl) (hn : l.length = np := by rfl) (hkn : kws.length = ks.length := by rfl) (hg : Gl X x := by rfl) (hdb : (x == ("__debug__" : Str)) = false := by decide)
    (hall : (backToKw pos (keywordEach kws X.env)).all (·.1.isSome) = true := by rfl) (hks : (backToKw pos (keywordEach kws X.env)).filterMap (·.1) = ks := by rfl) (he : starEach (e :: es) X.env = (false, eval e X.env) :: starEach es X.env := by rfl) (hpl : ((backTo pos (starEach (e :: es) X.env)).any (·.1) || (backToKw pos (keywordEach kws X.env)).any (·.1.isNone)) = false := by rfl) :
    CE X W (.Call (.Name x p) (e :: es) kws pos) (tCallKS n ks.length (spD K np F) (pkV lV) (WE W) t tk) (cKw F l fa fk) := by
  subst hK
  obtain ⟨g, hb⟩ := hb
  refine ⟨⟨fun pins s σ H Q I h => ?_⟩, se_kw hl hn ha.sa (fun δ ds e => (ha.ln δ ds e).trans hn0) hkw.sa (fun δ ds e => (hkw.ln δ ds e).trans hkn)⟩
  refine wpAny_Call_Name_kw (ld_glob I hg hm ?_ hdb)
  refine PySem.W.callWith_KW (h₀ := X.base) I.ok.mod.kin hk hall (thn (ha.pa.run pos pins s σ H _ I h) fun us s1 ⟨vs, H1, I1, r, q⟩ => thn (hkw.pk.run pos pins s1 σ H1 _ I1 q) fun ws s2 ⟨zs, H2, I2, rz, l1, l2, q2⟩ => ⟨I2.kIn, ?_⟩) hpl he
  rw [hks]
  exact run_kw G hr hb tkn I2 r rz l1 l2 q2
end
/-- a tuple that stands at the module's top -/
theorem rp_tup {K : PySem.W.Frag} {a : Addr} {oT : Option Addr} {its : List Value} {n : Nat} {sl : Array (Option Value)} {vs : List V} {ds : List D} (h : K.lookup a = some ⟨.type "tuple", oT, .seq its.toArray n, sl⟩) (hl : its.length ≤ 1000) (hv : Vals vs its) (r : ∀ B, RpA K B vs ds) (B : Hp) : Rp K B (.ref a) (.tup ds) :=
  .tup (.inr ⟨_, its.toArray, n, h, rfl, rfl, by rw [List.size_toArray, sizeLine_eq]; omega, hv⟩) (r B)
/-- a def with keyword-only defaults -/
theorem funK_mk {K : PySem.W.Frag} {x qual : Str} {st : Stmt} {f Dk : Addr} {oc : Value} {od an : Option Addr} {osl : Array (Option Value)} {doc pm cdv ct : Value} {kws : List (Str × V)} (l : K.lookup f = some ⟨oc, od, .func (PySem.W.fnOf x qual (defArgs st) (defBody st) (defScope st) .none (.ref Dk) doc pm an cdv ct), osl⟩)
    (c : PySem.W.codeIn K cdv qual = true) (k : PySem.W.keepIn K (.ref f) = true) (hk : ∀ q ∈ kws, ∃ u, PySem.W.nsIn K Dk q.1 = some (some u) ∧ RelV q.2 u) : FunD K x qual (defArgs st) (defBody st) (defScope st) [] kws f (PySem.W.fnOf x qual (defArgs st) (defBody st) (defScope st) .none (.ref Dk) doc pm an cdv ct) :=
  ⟨⟨oc, od, .none, _, doc, pm, an, cdv, ct, osl, rfl, l, c, .inl ⟨rfl, rfl⟩, .inr ⟨Dk, rfl, hk⟩⟩, k⟩
end DV
namespace DV
open PySem L2 PySem.Spec PySem.Calls PyProof.Rows PySem.W

/-! ### isinstance of a caught error that has its dict -/
section
variable {prog : Program} {w : World} {A : Around} {E : Value → Shared → Prop} {s : Shared} {K : Frag} {x D : Addr} {ox od : Obj}
theorem classD {Q : Option Value → Shared → Prop} (C : ExcC K D) (X : K.In s.heap) (I : InstAt s.heap x ox D (some od)) (h : Q (some (.ref D)) { s with toks := s.toks + 1 }) : wpAny (model prog w) A (getAttr? (.ref x) "__class__") Q E s := by
  have hf : findObj K D (some od) "__class__" = some (.bind (.builtin "getset_descriptor.__get__") (.builtin "object.__class__")) := findObj_data (by obtain ⟨cd, hc, _⟩ := any_some C.hd; rw [hc]; rfl) C.ha C.hn C.ht
  obtain ⟨hp, g, d, t, os⟩ := s
  have L0 := I.type (M := model prog w)
  have L1 := looks_findIn (M := model prog w) X C.hg
  have L2' := looks_findIn (M := model prog w) X C.hk
  have L3 := looks_find (M := model prog w) X I hf
  have sub : Looks (model prog w) hp (isInstance (.ref x) (.type "BaseException")) true := L0.andThen (looks_subIn X C.hs)
  have z2 : (Value.builtin "BaseException.__getattribute__" == Value.builtin "object.__getattribute__") = false := by decide +kernel
  have z1 : (onTheHeap (Value.ref D) && Value.builtin "BaseException.__getattribute__" == Value.builtin "object.__getattribute__") = false := by rw [z2]; rfl
  unfold getAttr? getAttrBy? getAttrBy
  refine wpAny_bind (wpAny_mkText (wpAny_bind (wpAny_attempt (wpAny_holding (wpAny_bind (L0.at (wpAny_bind (L1.at ?_))))))))
  show wpAny _ _ (if (onTheHeap (Value.ref D) && Value.builtin "BaseException.__getattribute__" == Value.builtin "object.__getattribute__") = true then _ else _) _ _ _
  rw [z1, if_neg Bool.false_ne_true]
  unfold getAttrByItsOwn hookBefore
  refine wpAny_bind ?_
  rw [if_pos (show onTheHeap (Value.ref D) = true from rfl)]
  refine L2'.at (wpAny_bind (wpAny_attempt (wpAny_holding ?_)))
  unfold callGetattribute
  rw [show (false && onTheHeap (Value.builtin "BaseException.__getattribute__")) = false from rfl, if_neg Bool.false_ne_true]
  unfold boundAndCalled
  rw [PySem.F.excAttr_ValueError.ga.bind (.ref x)]
  refine wpAny_bind (wpAny_pure ?_)
  show wpAny _ _ (call (.builtin "BaseException.__getattribute__") [.ref x, .str "__class__" t]) _ _ _
  refine wpAny_call (codeAny_call_builtin PySem.F.excAttr_ValueError.ga.plain PySem.F.entry_bexc_ga ?_)
  refine @check_slot (model prog w) _ _ ⟨hp, g, d, t + 1, os⟩ "BaseException.__getattribute__" "BaseException" "__getattribute__" (.ref x) [.str "__class__" t] [] _ (by decide +kernel) (by decide +kernel) sub (PySem.F.args_bexc_ga (.ref x) (.str "__class__" t)) ?_
  unfold Builtin.«object.__getattribute__»
  refine wpAny_bind (wpAny_of_eq (a := ((Value.ref x : Value), [Value.str "__class__" t])) (by first | rfl | (simp only [slotArgs]; rfl)) (wpAny_bind (wpAny_pure (wpAny_bind (L0.at (wpAny_bind (L3.at ?_)))))))
  show wpAny _ _ (holding [Value.builtin "object.__class__"] (call (.builtin "getset_descriptor.__get__") [.builtin "object.__class__", .ref x, .ref D]) >>= ret) _ _ _
  refine wpAny_bind (wpAny_holding (wpAny_call (class_get (s := ⟨hp, g, d, t + 1, os⟩) (ox := ox) (od := some od) X I C.hm (wpAny_pure ?_))))
  show wpAny _ _ (handedOut (.ref D)) _ _ _
  rw [handedOut_of (v := .ref D) rfl]
  first
    | exact wpAny_pure (wpAny_pure h)
    | exact wpAny_pure h
    | exact wpAny_pure (wpAny_bind (wpAny_pure (wpAny_pure h)))
theorem kitD (C : ExcC K D) : KitX K (.ref x) (.ref D) (fun h => InstAt h x ox D (some od)) := by
  obtain ⟨cdD, hcD, _⟩ := any_some C.hd
  unfold clsIn at hcD
  split at hcD
  case h_2 => cases hcD
  rename_i c' d' cd' sl' ho
  refine ⟨fun _ _ _ I => I.type, fun _ _ X _ A' Q' E' s' k q => ?_, fun h tp dd its n sl X htp => Bool.eq_false_iff.mpr fun q => ?_, fun X I k => classD C X I k⟩
  · unfold isType loadHead
    exact wpAny_bind (wpAny_loadPart (k _ _ (X _ _ ho)) (wpAny_pure q))
  · have e : D = tp := Value.ref.inj (beq_iff_eq.mp q)
    subst e
    have z := (X _ _ ho).symm.trans htp
    cases z
end
end DV
namespace DV
open PySem L2 PySem.Spec PySem.Calls PyProof.Rows
/-- isinstance(e, c), c a builtin class -/
def tIsX (K : PySem.W.Frag) (a : Addr) (cls : Value) (d : Option Addr) (cv : Value) (te tc : TE) : TE := fun σ H Q => te σ H fun y H1 => tc σ H1 fun c H2 => y = .ref a ∧ (∀ u, RelV c u → u = cv) ∧ ∃ C dd fs b, cls = .ref C ∧ ExcC K C ∧ d = some dd ∧ H2 dd = some (.xd fs) ∧ PySem.W.kitOne K cls cv = some b ∧ Q (.bl b) H2
def cIsX (l : List (Str × Bool)) : Exn → DS → Res D := fun x _ => match l.lookup x.cls with
  | some b => .ok (.bl b)
  | none => .no
def TabI (K : PySem.W.Frag) (cv : Value) (l : List (Str × Bool)) : Prop := ∀ s b v, l.lookup s = some b → clsV K s = some v → PySem.W.kitOne K v cv = some b
theorem tabi_nil {K : PySem.W.Frag} {c : Value} : TabI K c [] := fun s b v h => by cases h
theorem tabi_cons {K : PySem.W.Frag} {c v0 : Value} {l : List (Str × Bool)} {x : Str} {b0 : Bool} (hx : clsV K x = some v0) (he : PySem.W.kitOne K v0 c = some b0) (r : TabI K c l) : TabI K c ((x, b0) :: l) := fun s b v h hv => by
  rw [List.lookup_cons] at h
  cases q : (s == x) with
  | true => rw [q] at h; cases h; rw [beq_iff_eq.mp q, hx] at hv; cases hv; exact he
  | false => rw [q] at h; exact r s b v h hv
section
variable {X : Cx} {i : Nat}
theorem cex_is {e : Expr} {y : Str} {T : String} {p p2 pos : Pos} {l : List (Str × Bool)} (he : XCx X fun Y _ _ _ => PE Y e (tVar i)) (hl : TabI X.K (.type T) l) (hi : X.mg "isinstance" = none) (hy : X.mg y = none) (hv : bootBuiltins y = some (.type T)) (hgi : Gl X "isinstance" := by rfl) (hgy : Gl X y := by rfl) (hn : y ≠ "__name__" := by decide) (hdb : (y == ("__debug__" : Str)) = false := by decide)
    (hs : starEach [e, .Name y p2] X.env = (false, eval e X.env) :: starEach [.Name y p2] X.env := by rfl) (hs2 : starEach [.Name y p2] X.env = (false, eval (.Name y p2) X.env) :: starEach [] X.env := by rfl) (hpl : (backTo pos (starEach [.Name y p2] X.env)).any (·.1) = false := by rfl) :
    CEx X i (.Call (.Name "isinstance" p) [e, .Name y p2] [] pos) (fun a cls d => tIsX X.K a cls d (.type T) (tVar i) (tC (.ty T))) (cIsX l) := by
  refine ⟨fun a oe cls d pn hz hf => ⟨fun pins s σ H Q I h => ?_⟩, fun x a cls d B0 H0 δ σ B H Q rel cx hp => ?_⟩
  · have hP : PA (X.suite a ((a, oe) :: pn)) [e, .Name y p2] (tCons (tVar i) (tCons (tC (.ty T)) tNil)) := pa_cons (he a oe cls d pn hz hf) (pa_cons (pe_bltn hgy hy hv rfl hn hdb) pa_nil hs2) hs
    refine wpAny_Call_Name_kw (ld_blt I hgi hi (by decide +kernel : bootBuiltins "isinstance" = some (.builtin "isinstance")) ?_ (by decide) (by decide))
    refine PyProof.Rows.callWith_builtin1 (thn (hP.run pos pins s σ H (fun vs H2 => ∃ y c, vs = [y, c] ∧ y = .ref a ∧ (∀ u, RelV c u → u = .type T) ∧ ∃ C dd fs b, cls = .ref C ∧ ExcC X.K C ∧ d = some dd ∧ H2 dd = some (.xd fs) ∧ PySem.W.kitOne X.K cls (.type T) = some b ∧ Q (.bl b) H2) I ?_) fun us s1 hh => ?_) hs hpl
    · obtain ⟨v, hv1, hq⟩ := h
      exact ⟨v, hv1, _, _, rfl, hq.1, hq.2⟩
    · obtain ⟨vs, H2, I2, r2, y2, c2, rfl, rfl, hcv, C, dd, fs, b, rfl, EC, rfl, ed, ek, q⟩ := hh
      cases r2 with
      | cons rx rr =>
        cases rr with
        | cons rt rr =>
          cases rr
          cases rx
          have ec := hcv _ rt
          subst ec
          obtain ⟨hget, _⟩ := I2.pin (a, oe) (List.mem_append.mpr (.inl List.mem_cons_self))
          obtain ⟨vs, hvs⟩ := hf
          obtain ⟨mA, hns, _⟩ := (show ObjOk X.prog X.w H2 s1.heap dd (.xd fs) from I2.hok dd _ ed)
          obtain ⟨od, ho, _⟩ := lookIn_ns hns
          have J : PySem.W.InstAt s1.heap a oe C (some od) := ⟨hget, hz.1, by unfold PySem.W.notCls; rw [hvs] <;> rfl, by rw [hz.2]; exact ho⟩
          exact PySem.W.kia_one (kitD EC) I2.kIn J ek (fun z => nomatch z) fun tk => ⟨.bl b, H2, I2.kept (t' := tk) fun _ _ z => z, rfl, q⟩
  · obtain ⟨C, rfl, _, EC, _⟩ := cx.k
    obtain ⟨hcl, dd, us, rfl, hB, e1, e2⟩ := cx.rp
    unfold cIsX at hp
    cases q : l.lookup x.cls with
    | none => rw [q] at hp; exact hp.elim
    | some b =>
      rw [q] at hp
      exact ⟨_, cx.at_, rfl, fun u hu => hu, C, dd, us, b, rfl, EC, rfl, rel.g.i _ _ hB, hl _ _ _ q hcl, hp _ B H (Grow.refl rel.g.i) (.v _)⟩
theorem cex_one {op} {a : Expr} {pos : Pos} {t : TXE} {f : Exn → DS → Res D} (h : CEx X i a t f) : CEx X i (.BoolOp op [a] pos) t f := ⟨fun a oe cls d pn hz hf => pe_one (h.pe a oe cls d pn hz hf), h.se⟩
theorem cex_and {a b : Expr} {rest : List Expr} {pos : Pos} {ta tb : TXE} {f g : Exn → DS → Res D} (h : CEx X i a ta f) (h2 : CEx X i (.BoolOp .And (b :: rest) pos) tb g) : CEx X i (.BoolOp .And (a :: b :: rest) pos) (fun a cls d => tAndV (ta a cls d) (tb a cls d)) (fun x => cAndV (f x) (g x)) := by
  refine ⟨fun a oe cls d pn hz hf => pe_and (h.pe a oe cls d pn hz hf) (h2.pe a oe cls d pn hz hf), fun x a cls d B0 H0 δ σ B H Q rel cx hp => ?_⟩
  unfold cAndV at hp
  refine h.se x a cls d B0 H0 δ σ B H _ rel cx ?_
  cases e : f x δ with
  | no => rw [e] at hp; exact hp
  | er x => rw [e] at hp; exact hp
  | ok d =>
    rw [e, Res.bind_ok] at hp
    intro v B1 H1 g1 r1
    split at hp
    · cases r1
      refine ⟨true, rfl, ?_⟩
      rw [if_pos rfl]
      exact h2.se x a cls _ B0 H0 δ σ B1 H1 _ (rel.mono g1) (cx.mono g1.b) (postE_mono g1 hp)
    · cases r1
      refine ⟨false, rfl, ?_⟩
      rw [if_neg Bool.false_ne_true]
      exact hp _ _ _ g1 (.v _)
    · exact hp.elim
theorem cex_not {a : Expr} {pos : Pos} {ta : TXE} {f : Exn → DS → Res D} (h : CEx X i a ta f) : CEx X i (.UnaryOp .Not a pos) (fun a cls d => tNotV (ta a cls d)) (fun x => cUn oNot (f x)) := by
  refine ⟨fun a oe cls d pn hz hf => pe_not (h.pe a oe cls d pn hz hf), fun x a cls d B0 H0 δ σ B H Q rel cx hp => ?_⟩
  unfold cUn at hp
  refine h.se x a cls d B0 H0 δ σ B H _ rel cx ?_
  cases e : f x δ with
  | no => rw [e] at hp; exact hp
  | er x => rw [e] at hp; exact hp
  | ok d =>
    rw [e, Res.bind_ok] at hp
    intro v B1 H1 g1 r1
    unfold oNot at hp
    split at hp
    · cases r1
      exact ⟨_, rfl, hp _ _ _ g1 (.v _)⟩
    · exact hp.elim
/-- e.f == 'z' -/
theorem cex_c {a b : Expr} {op : CmpOp} {pos : Pos} {ta : TXE} {v : V} {f : Exn → DS → Res D} {r : R2} {g : D → D → Res D} (o : XCx X fun Y _ _ _ => OK2 Y (compareOp op) r g) (o0 : OK2 X (compareOp op) r g) (ha : CEx X i a ta f) (hb : XCx X fun Y _ _ _ => PE Y b (tC v)) (hm : behindInMarks op b = false := by first | exact nomark _ | rfl) :
    CEx X i (.Compare a [op] [b] pos) (fun a cls d => tOp r (ta a cls d) (tC v)) (fun x => cBin g (f x) (cC (.v v))) := by
  refine ⟨fun a oe cls d pn hz hf => pe_cmpR (o a oe cls d pn hz hf).o (ha.pe a oe cls d pn hz hf) (hb a oe cls d pn hz hf) hm, fun x a cls d B0 H0 δ σ B H Q rel cx hp => ?_⟩
  unfold cBin at hp
  refine ha.se x a cls d B0 H0 δ σ B H _ rel cx ?_
  cases e : f x δ with
  | no => rw [e] at hp; exact hp
  | er x => rw [e] at hp; exact hp
  | ok z =>
    rw [e, Res.bind_ok] at hp
    intro u B1 H1 g1 r1
    exact o0.r _ _ _ _ _ _ _ g1.i r1 (.v v) (postV_of (postE_mono g1 hp) (fun x => o0.c _ _ x))
end
end DV
namespace DV
open PySem L2 PySem.Spec PySem.Calls PyProof.Rows LamX

/-! ### a lambda is made: what was known stays known -/
section
variable {X : Cx} {pins : List (Addr × Obj)} {σ : L2.St} {H : Hp} {s : Shared}
theorem lam_made {c P : Addr} {params : Arguments} {body : Expr} {scope : Scope} {pos : Pos} {E : Value → Shared → Prop} {Q : Value → Shared → Prop} (I : Inv X pins σ H s) (TB : TabB X.base X.mg c P) (hcode : X.env.code = .ref c)
    (hT : TabS H P (X.env.qual ++ "<lambda>")) (hdef : defaultsOf params X.env = ([], [])) (hfree : ∀ y ∈ scope.names, y.2 = .free → ∃ c, X.env.cells.lookup y.1 = some c)
    (h : ∀ (f c' : Addr) (pm ctv : Value) (H1 : Hp) (s' : Shared), Inv X pins σ H1 s' → ExtN H H1 → (∀ a, H a ≠ none → H1 a ≠ none) → (∀ P', TabS H P' (X.env.qual ++ "<lambda>") → TabS H1 P' (X.env.qual ++ "<lambda>")) → s'.heap.get? f = some (PySem.W.kla_obj "<lambda>" (X.env.qual ++ "<lambda>") params body scope (cloFrom X.env.cells scope.names []) pm c' ctv) →
      H1 f = none → f ∉ frs X.stack → H1 c' = some (CodeO c' (X.env.qual ++ "<lambda>")) → Q (.ref f) s') : wpAny (model X.prog X.w) X.A (eval (.Lambda params body scope pos) X.env) Q E s := by
  obtain ⟨ps, hP, ht, ha⟩ := hT
  have bP : s.heap.BuiltinsAt X.mg P := TB.bm.keeps I.bk
  have hP' : s.heap.get? P = some { cls := .none, data := .fields ps } := I.hok P _ hP
  have nofr : ∀ f, s.heap.objs.size ≤ f → f ∉ frs X.stack := fun f hf z => (List.mem_cons.mp (I.stkSub _ z)).elim (fun e => by
    have h1 := I.lt
    rw [← e] at h1
    exact Nat.lt_irrefl _ (Nat.lt_of_lt_of_le h1 hf)) fun e => I.nofs hf e
  refine PySem.W.kla_eval hdef ?_
  cases hc : codeAmong pos ps.toList with
  | some cv =>
    obtain ⟨c', e, hco⟩ := ha pos cv hc
    subst e
    refine PySem.W.kla_makeFunctionHit (mg := X.mg) (c := c) (P := P) (ps := ps) (closure_ok hfree) I.ok.glob (I.mod.glob.keeps I.bk) hcode (TB.code.keeps I.bk) hP' ht hc bP fun ctv h' tk hx hsz => ?_
    exact h h'.objs.size c' ((X.mg "__name__").getD .none) ctv H _ (I.kept (t' := tk) fun b o e => Heap.get?_push_of_some _ (hx b o e)) (ExtN.refl H) (fun _ z => z) (fun _ z => z) (Heap.get?_push_size _ rfl) (I.hok.fresh hsz) (nofr _ hsz) hco
  | none =>
    refine PySem.W.kla_makeFunction (mg := X.mg) (c := c) (P := P) (ps := ps) (closure_ok hfree) I.ok.glob (I.mod.glob.keeps I.bk) hcode (TB.code.keeps I.bk) hP' ht hc TB.gP bP fun c' ctv h' tk hx hge hlt hrec htb => ?_
    obtain ⟨c2, oc, vs, t, e2, hoc, hd, hv⟩ := hrec
    cases e2
    have hsz : s.heap.objs.size ≤ h'.objs.size := by omega
    have nC : H c' = none := I.hok.fresh hge
    have nPc : P ≠ c' := ne_of_none hP nC
    have eL : (ps ++ #[rawInt pos.line, rawInt pos.col, .ref c']).toList = ps.toList ++ [rawInt pos.line, rawInt pos.col, .ref c'] := by simp
    have I1 := inv_table (t' := tk) (more := #[rawInt pos.line, rawInt pos.col, .ref c']) (h' := h'.push (PySem.W.kla_obj "<lambda>" (X.env.qual ++ "<lambda>") params body scope (cloFrom X.env.cells scope.names []) ((X.mg "__name__").getD .none) c' ctv)) I hP (fun b o hb e => Heap.get?_push_of_some _ (hx b o hb e)) (Heap.get?_push_of_some _ htb) hge ⟨oc, vs, t, Heap.get?_push_of_some _ hoc, hd, hv⟩
    have hE : ExtN H (upd (upd H P (.tbl (ps ++ #[rawInt pos.line, rawInt pos.col, .ref c']))) c' (CodeO c' (X.env.qual ++ "<lambda>"))) := fun b o e n => by
      have b1 : b ≠ P := fun z => n ps (Option.some.inj (e.symm.trans (by rw [z]; exact hP)))
      rw [upd_ne (ne_of_none e nC), upd_ne b1, e]
    refine h h'.objs.size c' ((X.mg "__name__").getD .none) ctv _ _ I1 hE (fun b hb => ?_) (fun P' hp => ?_) (Heap.get?_push_size _ rfl) ?_ (nofr _ hsz) upd_same
    · by_cases b1 : b = c'
      · subst b1; rw [upd_same]; simp
      · rw [upd_ne b1]
        by_cases b2 : b = P
        · subst b2; rw [upd_same]; simp
        · rw [upd_ne b2]; exact hb
    · by_cases hb : P' = P
      · rw [hb]
        refine ⟨_, by rw [upd_ne nPc, upd_same], by rw [eL]; exact PySem.TriplesOk_snoc _ _ _ _ ht, fun p' cv hcv => ?_⟩
        rw [eL] at hcv
        rcases among_app _ ht hcv with z | z
        · obtain ⟨c0, e1, e2⟩ := ha p' cv z
          exact ⟨c0, e1, hE _ _ e2 codeO_ne⟩
        · exact ⟨c', z, upd_same⟩
      · obtain ⟨ps', a1, a2, a3⟩ := hp
        refine ⟨ps', by rw [upd_ne (ne_of_none a1 nC), upd_ne hb, a1], a2, fun p' cv hcv => ?_⟩
        obtain ⟨c0, e1, e2⟩ := a3 p' cv hcv
        exact ⟨c0, e1, hE _ _ e2 codeO_ne⟩
    · have n2 : h'.objs.size ≠ P := Nat.ne_of_gt (Nat.lt_of_lt_of_le (Heap.lt_size hP') hsz)
      rw [upd_ne (Nat.ne_of_gt hlt), upd_ne n2]
      exact I.hok.fresh hsz
end
/-- a def that is handed a lambda and calls it -/
def Gives (X : Cx) (Ng : List Str) (x : Str) (sg : Scope) (g : Addr) (cdg : Value) (bg : List Stmt) (a : Str) (q : Str) (TT : (XK → Hp → VK → Prop) → Hp → VK → Prop) : Prop :=
  ∀ (f c' : Addr) (s : Shared) (H : Hp) (Q : VK) (tl : XK → Hp → VK → Prop),
    (∀ (W : WX) (pn : List (Addr × Obj)) (xe : Value → Shared → Prop) (E : XK) (p1 p2 : Pos), Takes ((cxOf (L2.CX X.prog X.w) X.prog X.w X.K X.mg X.base Ng x sg g cdg X.A X.stack s H (fun _ _ _ => False)).tr pn xe) W → (∀ cls d σ' H', E cls d H' → W cls d σ' H') →
      PE ((cxOf (L2.CX X.prog X.w) X.prog X.w X.K X.mg X.base Ng x sg g cdg X.A X.stack s H (fun _ _ _ => False)).tr pn xe) (.Call (.Name a p1) [] [] p2) (fun σZ HZ Q => σZ[0]? = some (some (.ref f)) ∧ HZ c' = some (CodeO c' q) ∧ tl E HZ Q)) →
    H c' = some (CodeO c' q) → TT tl H Q → ∃ t, PSs (cxOf (L2.CX X.prog X.w) X.prog X.w X.K X.mg X.base Ng x sg g cdg X.A X.stack s H (fun _ _ _ => False)) bg t ∧ t { nx := fun _ H' => Q .non H', rt := Q } (L2.start Ng [.ref f]) H
def tLamD (P : Addr) (q : Str) (TT : (XK → Hp → VK → Prop) → Hp → VK → Prop) (t : XK → TE) : TE := fun σ H Q => TabS H P q ∧ ∀ H1, ExtN H H1 → (∀ a, H a ≠ none → H1 a ≠ none) → (∀ P', TabS H P' q → TabS H1 P' q) → TT (fun E H' Q' => t E σ H' Q') H1 Q
section
variable {X : Cx}
theorem pe_lamD {TT : (XK → Hp → VK → Prop) → Hp → VK → Prop} {x a : Str} {g c P : Addr} {k : Nat} {pg : Arguments} {bg : List Stmt} {sg : Scope} {dV kV doc pm cdv ct oc : Value} {an od : Option Addr} {osl : Array (Option Value)} {Ng : List Str}
    {params : Arguments} {body : Expr} {scope : Scope} {t : XK → TE} {p lpos pos : Pos} (hg : Gl X x) (hm : X.mg x = some (.ref g)) (hk : PySem.W.keepIn X.K (.ref g) = true) (lk : X.K.lookup g = some ⟨oc, od, .func (PySem.W.fnOf x x pg bg sg dV kV doc pm an cdv ct), osl⟩) (hcg : PySem.W.codeIn X.K cdv x = true)
    (hb : L2.Binds X.K (PySem.W.fnOf x x pg bg sg dV kV doc pm an cdv ct) [a] []) (Sg : FnScope Ng [a] sg) (hNg : Ng[0]? = some a) (hva : Vis sg a) (hG : Gives X Ng x sg g cdv bg a (X.env.qual ++ "<lambda>") TT) (TB : TabB X.base X.mg c P) (hcode : X.env.code = .ref c)
    (hr : Room (k + 2) X.A) (L : LamS X.env.scope scope) (hdef : defaultsOf params X.env = ([], []))
    (hbind : ∀ (q : Str) (cl : List (Str × Addr)) (pm cv ctv : Value), bindArgs (PySem.W.kla_fn "<lambda>" q params body scope cl pm cv ctv) ⟨[], []⟩ = pure [])
    (hbody : ∀ (A : Around) (outer : List Env) (s : Shared) (H : Hp) (E : XK) (f c' : Addr), Room k (A.deeper (lamEnv X scope s.heap.objs.size f c')) → PE (lamCx X A outer s H E scope f c') body (t E))
    (hdb : (x == ("__debug__" : Str)) = false := by decide) (hd : (a == ("__debug__" : Str)) = false := by decide) (hcd : (a == ("__classdict__" : Str)) = false := by decide) : PE X (.Call (.Name x p) [.Lambda params body scope lpos] [] pos) (tLamD P (X.env.qual ++ "<lambda>") TT t) := by
  refine ⟨fun pins s σ H Q I h => ?_⟩
  refine wpAny_Call_Name_kw (ld_glob I hg hm (PySem.W.callWith_K (h₀ := X.base) I.ok.mod.kin hk ?_ (by rfl) (by rfl)) hdb)
  show wpAny _ _ (spliced ((false, eval (.Lambda params body scope lpos) X.env) :: backTo pos (starEach [] X.env))) _ _ s
  refine Calls.spliced_cons (lam_made I TB hcode h.1 hdef (L.has I.ok) fun f c' pm' ctv H1 s' I1 eN eE T1 hf hfn hfr hco => Calls.spliced_nil ⟨I1.kIn, ?_⟩)
  have rc : codeAny (model X.prog X.w) X.A (.call (.ref g) ⟨[.ref f], []⟩) (CR (L2.CX X.prog X.w) X.stack X.prog X.w H1 s' Q (fun _ _ _ => False)) s' := by
    refine run_ofS (N := Ng) (ps := [a]) (us := [.ref f]) (vs := [.ref f]) lk hcg Sg hr I1.env0 (hb s' [.ref f] I1.kIn rfl) (.cons rfl .nil) rfl fun hr' => ?_
    exact hG f c' s' H1 Q (fun E H' Q' => t E σ H' Q') (fun W pn xe E p1 p2 tk hW => pe_act (i := 0) I1 L hf hfn hfr (hbind _ _ _ _ _) tk hW hr' (fun A outer s H hr2 => hbody A outer s H E f c' hr2) hNg hva hd hcd) hco (h.2 H1 eN eE T1)
  refine wpAny_call (codeAny_mono rc fun r s2 hq => ?_)
  cases r with
  | error e => exact (passL pins σ H1 s' e s2 I1 hq |> fun z => z)
  | ok fl =>
    cases fl with
    | ret u => exact I1.after hq
    | next => exact False.elim hq
    | brk => exact False.elim hq
    | cont => exact False.elim hq
end

/-! ### try: a() / except .. as e: .. / return z, where a is the lambda that was handed in -/
theorem takes_len {Y : Cx} {W : WX} (tk : Takes Y W) : Takes Y (fun c d σ H => σ.length = Y.N.length → W c d σ H) := fun u s' ⟨a, B, sI, pins, σ, H, cls, d, e, I, nb, up, sky, na, os, ag, w⟩ => tk u s' ⟨a, B, sI, pins, σ, H, cls, d, e, I, nb, up, sky, na, os, ag, w I.len⟩
/-- what the def makes of the answer r of the lambda -/
def wordF (n : Nat) (q : Clauses) (z : Str) (r : Res D) : Res D := match r with
  | .ok _ => .ok (.str z)
  | .er x => match cPick q x (List.replicate n none) with
    | .rt d => .ok d
    | _ => .no
  | .no => .no
def cLam (n : Nat) (q : Clauses) (z : Str) (fe : DS → Res D) : DS → Res D := fun δ => wordF n q z (fe δ)
def TTw (K : PySem.W.Frag) (Ng : List Str) (z : Str) (l : List (Value × Nat × TX)) : (XK → Hp → VK → Prop) → Hp → VK → Prop := fun tl H Q =>
  ∃ E : XK, (∀ cls d (σ : L2.St) H', σ.length = Ng.length → E cls d H' → wNamed K (fun _ _ _ _ => False) { nx := fun _ H' => Q (.str z) H', rt := Q } l cls d σ H') ∧ tl E H (fun _ H' => Q (.str z) H')
section
variable {X : Cx}
theorem word_gives {Ng : List Str} {x a z : Str} {sg : Scope} {g : Addr} {cdg : Value} {j : Nat} {p1 p2 p3 p4 p5 p8 : Pos} {h₀ : ExceptHandler} {hds : List ExceptHandler} {l : List (Value × Nat × TX)} {q : Str} (hN : Ng.Nodup) (h1 : 1 ≤ Ng.length)
    (hh : ∀ (s : Shared) (H : Hp), HdsN (cxOf (L2.CX X.prog X.w) X.prog X.w X.K X.mg X.base Ng x sg g cdg X.A X.stack s H (fun _ _ _ => False)) (h₀ :: hds) l)
    (hsw : ∀ (Y : Cx) , swapsWith (.Call (.Name a p1) [] [] p2) none p3.line Y.env = pure false) :
    Gives X Ng x sg g cdg [.Try [.Expr (.Call (.Name a p1) [] [] p2) p3] (h₀ :: hds) [] [] p8, .Return (some (.Constant (.str z) j p4)) p5] a q (TTw X.K Ng z l) := by
  intro f c' s H Q tl act hc h
  obtain ⟨E, hE, ht⟩ := h
  refine ⟨_, pss_cons (ps_tryN (X := cxOf (L2.CX X.prog X.w) X.prog X.w X.K X.mg X.base Ng x sg g cdg X.A X.stack s H (fun _ _ _ => False)) (Wout := fun _ _ _ _ => False) (l := l)
      (tb := fun W D σ H => ∃ Ech : XK, (∀ cls d (σ' : L2.St) H', σ'.length = Ng.length → Ech cls d H' → W cls d σ' H') ∧ σ[0]? = some (some (.ref f)) ∧ H c' = some (CodeO c' q) ∧ tl Ech H (fun _ H' => D.nx σ H')) rfl rfl hN L2.takes0 (fun W pn xe tk _ => ?_) (hh s H)) (pss_one (ps_ret pe_str)), ?_⟩
  · refine ⟨fun pins s' σ H' D I h' => ?_⟩
    obtain ⟨Ech, hW, e1, e2, e3⟩ := h'
    have hp := act _ pn xe Ech p1 p2 (takes_len tk) (fun cls d σ' H' he hl => hW cls d σ' H' hl he)
    exact (pss_one (ps_expr (pos := p3) hp (hsw _))).run pins s' σ H' D I ⟨e1, e2, e3⟩
  · refine ⟨E, fun cls d σ' H' hl he => hE cls d σ' H' hl he, ?_, hc, ht⟩
    show (L2.start Ng [V.ref f])[0]? = _
    rfl
theorem rel_none {K : PySem.W.Frag} {B H : Hp} {σ : L2.St} (i : Same B H) (tk : ∀ p ∈ tabsOf K, TabS H p lamQ) (nt : NoT B) : Rel K B H B H σ (List.replicate σ.length none) :=
  ⟨Grow.refl i, tk, nt, by simp, fun j o e => (by rw [List.getElem?_replicate] at e; split at e <;> cases e), fun j k ds es v _ e _ _ => (by rw [List.getElem?_replicate] at e; split at e <;> cases e)⟩
theorem se_lam {K : PySem.W.Frag} {W : WX} {Y : Cx} {Ng : List Str} {z : Str} {hds : List ExceptHandler} {l : List (Value × Nat × TX)} {q : Clauses} {t : XK → TE} {fe : DS → Res D} {P : Addr} (hY : Y.K = K) (hP : P ∈ tabsOf K) (hh : HdsC Y hds l q) (hb : ∀ E : XK, SE K (Wof E) (t E) fe) :
    SE K W (tLamD P lamQ (TTw K Ng z l) t) (cLam Ng.length q z fe) := fun B0 H0 δ σ B H Q rel hp => by
  refine ⟨rel.g.t P (rel.tk P hP), fun H1 eN eE eT => ?_⟩
  have nB : NoT B := rel.g.n rel.nt
  have g1 : Grow B H B H1 := ⟨Same.refl _, eN, fun a o e => eN a o (rel.g.i a o e) (fun ps y => nB a ps (by rw [e, y])), fun _ _ => rfl, eE, eT, fun h => h⟩
  unfold cLam wordF at hp
  cases e : fe δ with
  | no => rw [e] at hp; exact hp.elim
  | ok d0 =>
    rw [e] at hp
    exact ⟨fun _ _ _ => False, fun _ _ _ _ _ h => h.elim, hb _ B0 H0 δ σ B H1 _ (rel.mono g1) (by rw [e]; exact fun v B' H' g r => hp (.str z) B' H' (g1.trans g) (.v _))⟩
  | er x =>
    rw [e] at hp
    refine ⟨fun cls d H' => ∃ B', Grow B H1 B' H' ∧ RpX K B' cls d x, fun cls d σ' H' hl ⟨B', g, r⟩ => ?_, hb _ B0 H0 δ σ B H1 _ (rel.mono g1) (by rw [e]; exact fun c dx B' H' g r => ⟨B', g, r⟩)⟩
    have tk' : ∀ p ∈ tabsOf K, TabS H' p lamQ := fun p hp' => g.t p (g1.t p (rel.g.t p (rel.tk p hp')))
    have R := rel_none (σ := σ') g.i tk' (g.n nB)
    rw [hl] at R
    subst hY
    refine pick_ok (W := fun _ _ _ _ => False) (E := { nx := fun _ H' => Q (.str z) H', rt := Q }) hh (x := x) (δ := List.replicate Ng.length none) ?_ (Same.refl B') R r
    dsimp only at hp
    cases e2 : cPick q x (List.replicate Ng.length none) with
    | rt d2 => rw [e2] at hp; exact fun v B2 H2 s2 gg rr => hp v B2 H2 ((g1.trans g).trans gg) rr
    | nx _ => rw [e2] at hp; exact hp.elim
    | bk _ => rw [e2] at hp; exact hp.elim
    | ct _ => rw [e2] at hp; exact hp.elim
    | rs _ _ => rw [e2] at hp; exact hp.elim
    | no => rw [e2] at hp; exact hp.elim
/-- x(lambda: body), x a def of that form -/
theorem ce_lam (K : PySem.W.Frag) (hK : X.K = K) {W : WX} {x a z : Str} {g c P : Addr} {k j : Nat} {pg : Arguments} {bg : List Stmt} {sg : Scope} {dV kV doc pm cdv ct oc : Value} {an od : Option Addr} {osl : Array (Option Value)} {Ng : List Str} {params : Arguments} {body : Expr} {scope : Scope} {t : XK → TE} {fe : DS → Res D} {p lpos pos p1 p2 p3 p4 p5 p8 : Pos} {h₀ : ExceptHandler} {hds : List ExceptHandler} {l : List (Value × Nat × TX)} {q : Clauses}
    (hg : Gl X x) (hm : X.mg x = some (.ref g)) (hk : PySem.W.keepIn K (.ref g) = true) (lk : K.lookup g = some ⟨oc, od, .func (PySem.W.fnOf x x pg bg sg dV kV doc pm an cdv ct), osl⟩) (hcg : PySem.W.codeIn K cdv x = true) (hb : L2.Binds K (PySem.W.fnOf x x pg bg sg dV kV doc pm an cdv ct) [a] []) (Sg : FnScope Ng [a] sg) (hNg : Ng[0]? = some a) (hva : Vis sg a)
    (hbg : bg = [.Try [.Expr (.Call (.Name a p1) [] [] p2) p3] (h₀ :: hds) [] [] p8, .Return (some (.Constant (.str z) j p4)) p5])
    (hh : ∀ (s : Shared) (H : Hp), HdsC (cxOf (L2.CX X.prog X.w) X.prog X.w K X.mg X.base Ng x sg g cdv X.A X.stack s H (fun _ _ _ => False)) (h₀ :: hds) l q) (hs0 : Shared) (hH0 : Hp)
    (TB : TabB X.base X.mg c P) (hcode : X.env.code = .ref c) (hP : P ∈ tabsOf K) (hq : X.env.qual ++ "<lambda>" = lamQ) (hr : Room (k + 2) X.A) (L : LamS X.env.scope scope) (hdef : defaultsOf params X.env = ([], []))
    (hbind : ∀ (q : Str) (cl : List (Str × Addr)) (pm cv ctv : Value), bindArgs (PySem.W.kla_fn "<lambda>" q params body scope cl pm cv ctv) ⟨[], []⟩ = pure [])
    (hbody : ∀ (A : Around) (outer : List Env) (s : Shared) (H : Hp) (E : XK) (f c' : Addr), Room k (A.deeper (lamEnv X scope s.heap.objs.size f c')) → CE (lamCx X A outer s H E scope f c') (Wof E) body (t E) fe)
    (hsw : ∀ (Y : Cx), swapsWith (.Call (.Name a p1) [] [] p2) none p3.line Y.env = pure false := by intro _; rfl) (h1 : 1 ≤ Ng.length := by decide) (hdb : (x == ("__debug__" : Str)) = false := by decide) (hd : (a == ("__debug__" : Str)) = false := by decide) (hcd : (a == ("__classdict__" : Str)) = false := by decide) :
    CE X W (.Call (.Name x p) [.Lambda params body scope lpos] [] pos) (tLamD P lamQ (TTw K Ng z l) t) (cLam Ng.length q z fe) := by
  subst hK hbg
  have r1 : Room k (X.A.deeper (lamEnv X scope hs0.heap.objs.size 0 0)) := (hr.mono (by omega : k + 1 ≤ k + 2)).deeper _
  have hp := pe_lamD (p := p) (pos := pos) (lpos := lpos) hg hm hk lk hcg hb Sg hNg hva (word_gives (j := j) (z := z) (l := l) Sg.nd h1 (fun s H => (hh s H).n) hsw) TB hcode hr L hdef hbind (fun A outer s H E f c' hr2 => (hbody A outer s H E f c' hr2).pe) hdb hd hcd
  rw [hq] at hp
  exact ⟨hp, se_lam (Y := cxOf (L2.CX X.prog X.w) X.prog X.w X.K X.mg X.base Ng x sg g cdv X.A X.stack hs0 hH0 (fun _ _ _ => False)) rfl hP (hh hs0 hH0) fun E => (hbody X.A [] hs0 hH0 E 0 0 r1).se⟩
end
end DV
namespace DV
open PySem L2 PySem.Spec PySem.Calls PyProof.Rows LamX

/-! ### the law's def, its code known; the end -/
theorem def_okC {P : Program} {w : World} {K : PySem.W.Frag} {mg : Str → Option Value} {base : Heap} {x qual : Str} {st : Stmt} {f : Addr} {oc : Value} {od an : Option Addr} {osl : Array (Option Value)} {kV doc pm cdv ct : Value} {N ps : List Str} {k m : Nat} {g : DS → Fl} (l : K.lookup f = some ⟨oc, od, .func (PySem.W.fnOf x qual (defArgs st) (defBody st) (defScope st) .none kV doc pm an cdv ct), osl⟩)
    (hc : PySem.W.codeIn K cdv qual = true) (S : FnScope N ps (defScope st)) (hm : N.length - ps.length = m)
    (hbody : ∀ (A : Around) (outer : List Env) (s : Shared) (H : Hp) (E : XK), Room k (A.deeper (PyProof.Rows.envOfC qual (defScope st) s.heap.objs.size f cdv)) → Takes (cxOf (L2.CX P w) P w K mg base N qual (defScope st) f cdv A outer s H E) (Wof E) →
      PassesOwn (model P w) (A.deeper (PyProof.Rows.envOfC qual (defScope st) s.heap.objs.size f cdv)) (PyProof.Rows.envOfC qual (defScope st) s.heap.objs.size f cdv) (cxOf (L2.CX P w) P w K mg base N qual (defScope st) f cdv A outer s H E).xe → (A.deeper (PyProof.Rows.envOfC qual (defScope st) s.heap.objs.size f cdv)).units + 64 < cLine →
      ∃ t, CSs (cxOf (L2.CX P w) P w K mg base N qual (defScope st) f cdv A outer s H E) (Wof E) (defBody st) t g) :
    FnOk P w K mg base (L2.CX P w) (k + 1) f (PySem.W.fnOf x qual (defArgs st) (defBody st) (defScope st) .none kV doc pm an cdv ct) ps (spD K ps.length (defF m g)) := by
  refine fn_of l hc S (fun vs H Q E h => h.1) fun A outer s H vs Q E hr h => ?_
  obtain ⟨hl, ds, B, i, r, tb, hp⟩ := h
  obtain ⟨t, ht⟩ := hbody A outer s H E hr (takes_of rfl rfl rfl rfl) (passes_of (X := cxOf (L2.CX P w) P w K mg base N qual _ f cdv A outer s H E) rfl) hr.units
  exact ⟨t, ht.ps, ss_def (N := N) ht.ss i r tb (by rw [hl, hm]; exact hp)⟩
theorem walkT {l : PySem.W.OpenLaw} {n k : Nat} {q : Program} {loose : List Str} {XP : (Str → Option Value) → Heap → Prop} {YP : World → Heap → Prop} {d : DefRec} {K : Params → PySem.W.Frag} {x : Str} {F : List D → Res D} (hn : l.most = some n) (hn2 : n ≤ sizeLine) (hdf : d.params.defaults = []) (hr : Room k callerA)
    (hY : ∀ (w : World) (h : Heap), YP w h → (K w.params).In h) (hrec : ((recsOf q).find? (fun e => e.name == ("law" : Str))).isSome = true)
    (F0 : ∀ (w : World) (mg : Str → Option Value) (fa : Addr) (h : Heap), (K w.params).In h → h.Ns mainGlobals mg → mg d.name = some (.ref fa) → ∃ fd c P, PySem.W.tabIn (K w.params) "law" = some (c, P) ∧ (K w.params).lookup P = none ∧ (∀ (s : Shared) (u : Value), BindsTo s fd ⟨[u], []⟩ [(x, u)]) ∧
      ∀ base : Heap, (K w.params).In base → base.Ns mainGlobals mg → TabB base mg c P → FnOk l.prog w (K w.params) mg base (L2.CX l.prog w) k fa fd [x] (spD (K w.params) 1 F))
    (hF : ∀ ns : List Int, ns.length ≤ n → F [.lst (ns.map D.int)] = .ok (.bl true)) : PySem.W.WalkO q loose XP YP l.row.toRowW d [] (fun f vs => PySem.call f vs) := by
  refine Att.attach_callB hn hdf fun w s₀ s₁ mg mb fa o pm cd doc a vs ns G Y ho hd hcd hmg hobj hints hlen hbits hg => ?_
  obtain ⟨dL, hrec⟩ := Option.isSome_iff_exists.mp hrec
  have KX := hY w _ Y
  obtain ⟨fd, c, P, ht, nP, hb, hF0⟩ := F0 w mg fa _ KX G.T.g hmg
  obtain ⟨C, hP⟩ := PySem.W.tab_of G.T KX hrec ht
  have one : ∀ {R : Addr × Addr → Prop}, R (c, P) → ∀ p ∈ [(c, P)], R p := fun h p hp => by
    obtain rfl := List.mem_singleton.mp hp
    exact h
  exact law_callTs (cs := [(c, P)]) KX G.T.g G.T.b G.T.builtins G.T.nolimit hg (one hP) (one nP) (one C) G.T.bmain hobj hints (Nat.le_trans hlen hn2) hr (fun base b1 b2 b3 => hF0 base b1 b2 (b3 (c, P) (by simp))) hb
    (fun H hH hS => spD_law hS (fun p hp => by
      unfold tabsOf at hp
      rw [ht] at hp
      have e := List.mem_singleton.mp hp
      rw [e]
      exact TabS.nil (hH (c, P) (by simp))) (hF ns hlen)) fun H e s' z => cx_false H s₁ e s' z
end DV
namespace DV
open PySem L2 PySem.Spec PySem.Calls PyProof.Rows LamX
/-- x(lambda: body), by the def's own facts -/
theorem ce_lamF {X : Cx} (K : PySem.W.Frag) (hK : X.K = K) {W : WX} {x a z : Str} {st : Stmt} {fd : FuncData} {g c P : Addr} {k j : Nat} {Ng : List Str} {params : Arguments} {body : Expr} {scope : Scope} {t : XK → TE} {fe : DS → Res D} {p lpos pos p1 p2 p3 p4 p5 p8 : Pos} {h₀ : ExceptHandler} {hds : List ExceptHandler} {l : List (Value × Nat × TX)} {q : Clauses}
    (F : Fun K x x st g fd) (hm : X.mg x = some (.ref g)) (hb : L2.Binds K fd [a] []) (Sg : FnScope Ng [a] (defScope st)) (hNg : Ng[0]? = some a) (hva : Vis (defScope st) a) (hbg : defBody st = [.Try [.Expr (.Call (.Name a p1) [] [] p2) p3] (h₀ :: hds) [] [] p8, .Return (some (.Constant (.str z) j p4)) p5])
    (hh : ∀ (cdv : Value) (s : Shared) (H : Hp), HdsC (cxOf (L2.CX X.prog X.w) X.prog X.w K X.mg X.base Ng x (defScope st) g cdv X.A X.stack s H (fun _ _ _ => False)) (h₀ :: hds) l q) (hs0 : Shared) (hH0 : Hp) (TB : TabB X.base X.mg c P) (hcode : X.env.code = .ref c) (hP : P ∈ tabsOf K) (hq : X.env.qual ++ "<lambda>" = lamQ) (hr : Room (k + 2) X.A) (L : LamS X.env.scope scope) (hdef : defaultsOf params X.env = ([], []))
    (hbind : ∀ (q : Str) (cl : List (Str × Addr)) (pm cv ctv : Value), bindArgs (PySem.W.kla_fn "<lambda>" q params body scope cl pm cv ctv) ⟨[], []⟩ = pure [])
    (hbody : ∀ (A : Around) (outer : List Env) (s : Shared) (H : Hp) (E : XK) (f c' : Addr), Room k (A.deeper (lamEnv X scope s.heap.objs.size f c')) → CE (lamCx X A outer s H E scope f c') (Wof E) body (t E) fe)
    (hg : Gl X x := by rfl) (hsw : ∀ (Y : Cx), swapsWith (.Call (.Name a p1) [] [] p2) none p3.line Y.env = pure false := by intro _; rfl) (h1 : 1 ≤ Ng.length := by decide) (hdb : (x == ("__debug__" : Str)) = false := by decide) (hd : (a == ("__debug__" : Str)) = false := by decide) (hcd : (a == ("__classdict__" : Str)) = false := by decide) :
    CE X W (.Call (.Name x p) [.Lambda params body scope lpos] [] pos) (tLamD P lamQ (TTw K Ng z l) t) (cLam Ng.length q z fe) := by
  obtain ⟨oc, od, kV, doc, pm, an, cdv, ct, osl, rfl, lk, hcd'⟩ := F.ex
  exact ce_lam K hK hg hm F.kp lk hcd' hb Sg hNg hva hbg (hh cdv) hs0 hH0 TB hcode hP hq hr L hdef hbind hbody hsw h1 hdb hd hcd
theorem tabIn_of {K : PySem.W.Frag} {x : Str} {f c P : Addr} {oc o1 : Value} {od o2 : Option Addr} {fd : FuncData} {osl o3 : Array (Option Value)} {vs : Array Value} (a : PySem.W.nsIn K mainGlobals x = some (some (.ref f))) (l : K.lookup f = some ⟨oc, od, .func fd, osl⟩) (hc : fd.code = .ref c) (tc : K.lookup c = some ⟨o1, o2, .fields vs, o3⟩) (tp : vs[11]? = some (.ref P)) : PySem.W.tabIn K x = some (c, P) := by
  unfold PySem.W.tabIn
  rw [a]
  dsimp only
  rw [l]
  dsimp only
  rw [hc]
  dsimp only
  rw [tc]
  dsimp only
  rw [tp]
theorem in_tabs {K : PySem.W.Frag} {c P : Addr} (h : PySem.W.tabIn K "law" = some (c, P)) : P ∈ tabsOf K := by
  unfold tabsOf
  rw [h]
  exact List.mem_singleton.mpr rfl
end DV
namespace DV
open PySem L2
section
variable {X : Cx} {W : WX}
/-- xs[k] = e, xs the def's own -/
def cPut (i : Nat) (fi fe : DS → Res D) : DS → Fl := fun δ => match δ[i]? with
  | some (some (.ow ds)) => stE (fe δ) δ fun d => stE (fi δ) δ fun y => match y with
    | .v (.int k) => match ixN ds.length k with
      | some j => .nx (δ.set i (some (.ow (ds.set j d))))
      | none => .no
    | _ => .no
  | _ => .no
theorem cs_put (i : Nat) {x : Str} {e k : Expr} {t tk : TE} {f fk : DS → Res D} {px tpos pos : Pos} (he : CE X W e t f) (hk : CE X W k tk fk) (hv : PE X (.Name x px) (tVar i)) (hs : swapsWithSole [.Subscript (.Name x px) k tpos] e pos.line X.env = pure false := by rfl) (hw : swappedStores [.Subscript (.Name x px) k tpos] e X.env = pure none := by rfl)
    (ha : ∀ v, assign (.Subscript (.Name x px) k tpos) X.env v = (do
      let ov ← holding [v] (eval (.Name x px) X.env)
      let iv ← holding [v, ov] (eval k X.env)
      standAt tpos
      holding [v, ov, iv] (setItem ov iv v)
      release [v, ov, iv] []) := by intro _; rfl) (h1 : (assignEach [.Subscript (.Name x px) k tpos] X.env).map (·.2) = [assign (.Subscript (.Name x px) k tpos) X.env] := by rfl) :
    CS X W (.Assign [.Subscript (.Name x px) k tpos] e pos) (tAsg t (gSub (tVar i) tk rSetL)) (cPut i fk f) :=
  ⟨ps_asg he.pe (pg_sub hv hk.pe set_list ha) hs hw h1, fun B0 H0 δ σ B H E rel hp => by
    unfold cPut at hp
    split at hp
    case h_2 => exact hp.elim
    rename_i ds ei
    obtain ⟨v, q1, p, vs, rfl, _, hb, hh, rp⟩ := rel.sl i _ ei
    refine he.se B0 H0 δ σ B H _ rel ?_
    cases e1 : f δ with
    | no => rw [e1] at hp; exact hp
    | er x => rw [e1] at hp; exact fun c dx B' H' g rp => hp c dx σ B' H' g.b (rel.mono g) rp
    | ok d =>
      rw [e1, stE_ok] at hp
      intro v B1 H1 g1 r1
      refine ⟨_, q1, ?_⟩
      refine hk.se B0 H0 δ σ B1 H1 _ (rel.mono g1) ?_
      cases e2 : fk δ with
      | no => rw [e2] at hp; exact hp
      | er x => rw [e2] at hp; exact fun c dx B' H' g rp => hp c dx σ B' H' (g1.b.trans g.b) ((rel.mono g1).mono g) rp
      | ok y =>
        rw [e2, stE_ok] at hp
        intro w B2 H2 g2 r2
        split at hp
        case h_2 => exact hp.elim
        split at hp
        case h_2 => exact hp.elim
        rename_i _ j hj
        cases r2
        have gg := g1.trans g2
        refine ⟨p, vs, _, j, rfl, rfl, gg.h _ _ hh (fun _ z => by cases z), by rw [rp.length]; exact hj, ?_⟩
        exact hp σ B2 _ gg.b ((rel.mono gg).write (us := vs) ei q1 ((rp.mono gg.b).set j (r1.mono g2.b)))⟩
/-- xs[lo:hi] of a list: a new list -/
def cSlL (f : DS → Res D) (lo hi : DS → Res (Option Int)) : DS → Res (List D) := fun δ => (f δ).bind fun x => (lo δ).bind fun l => (hi δ).bind fun h => match x with
  | .lst xs => .ok (cutD xs l h)
  | _ => .no
theorem cf_sl (K : PySem.W.Frag) (hK : X.K = K) {e : Expr} {lo hi : Option Expr} {p2 pos : Pos} {te : TE} {tl th : TO} {f : DS → Res D} {fl fh : DS → Res (Option Int)} (he : CE X W e te f) (hl : CO X W lo tl fl) (hh : CO X W hi th fh) : CF X W (.Subscript e (.Slice lo hi none p2) pos) (tSl (rSlD K) te tl th) (cSlL f fl fh) := by
  subst hK
  refine ⟨pe_slice sl_D he.pe hl.po hh.po, fun B0 H0 δ σ B H Q rel hp => ?_⟩
  unfold cSlL at hp
  refine he.se B0 H0 δ σ B H _ rel ?_
  cases e : f δ with
  | no => rw [e] at hp; exact hp
  | er x => rw [e] at hp; exact hp
  | ok d =>
    rw [e, Res.bind_ok] at hp
    intro v B1 H1 g1 r1
    refine hl.so B0 H0 δ σ B1 H1 _ (rel.mono g1) ?_
    cases e2 : fl δ with
    | no => rw [e2] at hp; exact hp
    | er x => rw [e2] at hp; exact fun c dx B' H' g' rp => hp c dx B' H' (g1.trans g') rp
    | ok l =>
      rw [e2, Res.bind_ok] at hp
      intro B2 H2 g2
      refine hh.so B0 H0 δ σ B2 H2 _ ((rel.mono g1).mono g2) ?_
      cases e3 : fh δ with
      | no => rw [e3] at hp; exact hp
      | er x => rw [e3] at hp; exact fun c dx B' H' g' rp => hp c dx B' H' ((g1.trans g2).trans g') rp
      | ok h =>
        rw [e3, Res.bind_ok] at hp
        intro B3 H3 g3
        have gg := (g1.trans g2).trans g3
        split at hp
        · cases r1 with
          | lst h1 q => exact .inl ⟨_, _, rfl, g3.i.seq ((g2.b.trans g3.b).seq h1), fun p hp' => hp p _ B3 _ (gg.trans (Grow.raw g3.i hp')) (gg.free hp') (g3.i.free hp') upd_same ((RpA.mono (g2.b.trans g3.b) q).cut l h)⟩
        · exact hp.elim
end
end DV
namespace DV
open PySem
/-- the clauses of a word's def -/
def tryHds : List Stmt → List ExceptHandler
  | .Try _ hs _ _ _ :: _ => hs
  | _ => []
end DV
namespace DV
open PySem L2

/-! ### mathematics over the compiled functions: loops and comprehensions -/
/-- a for over xs.map f whose turns are told by a fold -/
theorem forF_map {α β : Type} (f : β → D) (st : α → DS) (step : α → β → α) (P : α → Prop) {b : D → DS → Option DS} {g : DS → Fl} : ∀ (xs : List β) (a : α), P a →
    (∀ a x, x ∈ xs → P a → ∃ δ', b (f x) (st a) = some δ' ∧ g δ' = .nx (st (step a x)) ∧ P (step a x)) → forF b g (xs.map f) (st a) = .nx (st (xs.foldl step a)) ∧ P (xs.foldl step a)
  | [], a, hp, _ => ⟨rfl, hp⟩
  | x :: xs, a, hp, h => by
    obtain ⟨δ', h1, h2, h3⟩ := h a x (by simp) hp
    have ih := forF_map f st step P xs (step a x) h3 fun a y hy => h a y (by simp [hy])
    refine ⟨?_, ih.2⟩
    rw [List.map_cons, forF, h1]
    dsimp only
    rw [h2]
    exact ih.1
/-- a for that only goes on, a word holding between the turns -/
theorem forF_inv {β : Type} (f : β → D) (P : DS → Prop) {b : D → DS → Option DS} {g : DS → Fl} : ∀ (xs : List β) (δ : DS), P δ →
    (∀ δ x, x ∈ xs → P δ → ∃ δ' δ2, b (f x) δ = some δ' ∧ g δ' = .nx δ2 ∧ P δ2) → ∃ δ2, forF b g (xs.map f) δ = .nx δ2 ∧ P δ2
  | [], δ, hp, _ => ⟨δ, rfl, hp⟩
  | x :: xs, δ, hp, h => by
    obtain ⟨δ', δ2, h1, h2, h3⟩ := h δ x (by simp) hp
    obtain ⟨δ3, h4, h5⟩ := forF_inv f P xs δ2 h3 fun δ y hy => h δ y (by simp [hy])
    refine ⟨δ3, ?_, h5⟩
    rw [List.map_cons, forF, h1]
    dsimp only
    rw [h2]
    exact h4
/-- a comprehension over xs.map f -/
theorem lcF_map {β : Type} (f : β → D) (h : β → D) {b : D → DS → Option DS} {t : DS → Res Bool} {e : DS → Res D} {δ : DS} : ∀ xs : List β,
    (∀ x, x ∈ xs → ∃ δ', b (f x) δ = some δ' ∧ t δ' = .ok true ∧ e δ' = .ok (h x)) → lcF b t e (xs.map f) δ = .ok (xs.map h)
  | [], _ => rfl
  | x :: xs, hh => by
    obtain ⟨δ', h1, h2, h3⟩ := hh x (by simp)
    rw [List.map_cons, lcF, h1]
    dsimp only
    rw [h2, h3]
    simp only [Res.calm_ok, Res.bind_ok, if_true]
    rw [lcF_map f h xs fun y hy => hh y (by simp [hy])]
    rfl
theorem lcF_filter {β : Type} (f : β → D) (p : β → Bool) (h : β → D) {b : D → DS → Option DS} {t : DS → Res Bool} {e : DS → Res D} {δ : DS} : ∀ xs : List β,
    (∀ x, x ∈ xs → ∃ δ', b (f x) δ = some δ' ∧ t δ' = .ok (p x) ∧ (p x = true → e δ' = .ok (h x))) → lcF b t e (xs.map f) δ = .ok ((xs.filter p).map h)
  | [], _ => rfl
  | x :: xs, hh => by
    obtain ⟨δ', h1, h2, h3⟩ := hh x (by simp)
    have ih := lcF_filter f p h xs fun y hy => hh y (by simp [hy])
    rw [List.map_cons, lcF, h1]
    dsimp only
    rw [h2]
    simp only [Res.calm_ok, Res.bind_ok]
    cases hp : p x with
    | true =>
      rw [if_pos rfl, h3 hp, Res.calm_ok, Res.bind_ok, ih, Res.bind_ok, List.filter_cons, if_pos hp]
      rfl
    | false =>
      rw [if_neg Bool.false_ne_true, ih, List.filter_cons, if_neg (by rw [hp]; exact Bool.false_ne_true)]
theorem cutD_map {β : Type} (f : β → D) (xs : List β) (lo hi : Option Int) : cutD (xs.map f) lo hi = ((xs.drop (HT.sIx xs.length 0 lo)).take (HT.sIx xs.length xs.length hi - HT.sIx xs.length 0 lo)).map f := by
  unfold cutD
  rw [List.length_map, List.map_take, List.map_drop]
theorem mul_ok {i j : Int} {a b : Nat} (ha : i.natAbs < 2 ^ a) (hb : j.natAbs < 2 ^ b) (h0 : 0 < a) (h1 : 0 < b) (h : a + b ≤ 1000000) : i.natAbs.log2 + j.natAbs.log2 < 1000000 := wide_mul ha hb h0 h1 h
theorem oMul_int {i j : Int} (h : i.natAbs.log2 + j.natAbs.log2 < 1000000) : oMul2 (.int i) (.int j) = .ok (.int (i * j)) := by
  show (if i.natAbs.log2 + j.natAbs.log2 < 1000000 then _ else _) = _
  rw [if_pos h]
theorem oMulI_int {i j : Int} (h : i.natAbs.log2 + j.natAbs.log2 < 1000000) : oMulI (.int i) (.int j) = .ok (.int (i * j)) := by
  show (if i.natAbs.log2 + j.natAbs.log2 < 1000000 then _ else _) = _
  rw [if_pos h]
theorem oMod_pos {i j : Int} (h : 0 < j) : oMod (.int i) (.int j) = .ok (.int (i % j)) := by
  show (if j ≠ 0 then _ else _) = _
  rw [if_pos (by omega), Int.fmod_eq_emod_of_nonneg i (by omega)]
theorem log2_small {n k : Nat} (h0 : 0 < k) (h : n < 2 ^ k) : n.log2 < k := PySem.Flt.log2_lt_of h0 h
theorem oFdiv_pos {i j : Int} (h : 0 < j) (hl : j.natAbs < 2 ^ 9000) : oFdiv (.int i) (.int j) = .ok (.int (i / j)) := by
  show (if j ≠ 0 ∧ j.natAbs.log2 < 9000 then _ else _) = _
  rw [if_pos ⟨by omega, log2_small (by decide) hl⟩, Int.fdiv_eq_ediv_of_nonneg i (by omega)]
theorem oAdd_int (i j : Int) : oAdd (.int i) (.int j) = .ok (.int (i + j)) := rfl
theorem oSub_int (i j : Int) : oSub (.int i) (.int j) = .ok (.int (i - j)) := rfl
theorem oEq_int (i j : Int) : oEq (.int i) (.int j) = .ok (.bl (decide (i = j))) := by
  show (if SeqAt.shaped (.int i) = true ∧ SeqAt.shaped (.int j) = true then Res.ok (D.bl (if false = true then _ else i == j)) else .no) = _
  rw [if_pos ⟨by rfl, by rfl⟩]
  rfl
theorem oNe_int (i j : Int) : oNe (.int i) (.int j) = .ok (.bl (!decide (i = j))) := by
  show (if SeqAt.shaped (.int i) = true ∧ SeqAt.shaped (.int j) = true then Res.ok (D.bl (if true = true then !(i == j) else _)) else .no) = _
  rw [if_pos ⟨by rfl, by rfl⟩]
  rfl
theorem oEq_bl (i j : Bool) : oEq (.bl i) (.bl j) = .ok (.bl (i == j)) := by
  cases i <;> cases j <;> rfl
theorem oNe_bl (i j : Bool) : oNe (.bl i) (.bl j) = .ok (.bl (!(i == j))) := by
  cases i <;> cases j <;> rfl
theorem gRange1_nat {n : Nat} (hz : n ≤ sizeLine) : gRange1 [D.int (n : Int)] = .ok (rangeD 0 n) := by
  rw [sizeLine_eq] at hz
  unfold gRange1
  dsimp only
  rw [if_pos (by omega), Int.toNat_natCast]
theorem rangeD_len (lo : Int) (n : Nat) : (rangeD lo n).length = n := by simp [rangeD]

/-! ### one statement after the other -/
theorem seq_nx {g h : DS → Fl} {δ δ' : DS} {r : Fl} (h1 : g δ = .nx δ') (h2 : h δ' = r) : cSeq g h δ = r := by
  rw [cSeq, h1]
  exact h2
theorem seq_rt {g h : DS → Fl} {δ : DS} {d : D} (h1 : g δ = .rt d) : cSeq g h δ = .rt d := by
  rw [cSeq, h1]
  rfl
theorem seq_rs {g h : DS → Fl} {δ δ' : DS} {x : Exn} (h1 : g δ = .rs x δ') : cSeq g h δ = .rs x δ' := by
  rw [cSeq, h1]
  rfl
theorem asg_nx {i : Nat} {f : DS → Res D} {δ : DS} {d : D} (h : f δ = .ok d) : cAsg i f δ = .nx (δ.set i (some (.im d))) := by
  rw [cAsg, h]
  rfl
theorem own_nx {i : Nat} {f : DS → Res (List D)} {δ : DS} {ds : List D} (h : f δ = .ok ds) : cOwn i f δ = .nx (δ.set i (some (.ow ds))) := by
  rw [cOwn, h]
  rfl
theorem drop_nx {f : DS → Res D} {δ : DS} {d : D} (h : f δ = .ok d) : cDrop f δ = .nx δ := by
  rw [cDrop, h]
  rfl
theorem ret_rt {f : DS → Res D} {δ : DS} {d : D} (h : f δ = .ok d) : cRet f δ = .rt d := by
  rw [cRet, h]
  rfl
theorem if_t {t : DS → Res Bool} {g h : DS → Fl} {δ : DS} {r : Fl} (ht : t δ = .ok true) (hg : g δ = r) : cIf t g h δ = r := by
  rw [cIf, ht]
  exact hg
theorem if_f {t : DS → Res Bool} {g h : DS → Fl} {δ : DS} {r : Fl} (ht : t δ = .ok false) (hh : h δ = r) : cIf t g h δ = r := by
  rw [cIf, ht]
  exact hh
theorem for_r {fi : DS → Res (List D)} {b : D → DS → Option DS} {g : DS → Fl} {δ : DS} {ds : List D} {r : Fl} (h : fi δ = .ok ds) (hf : forF b g ds δ = r) : cFor fi b g δ = r := by
  rw [cFor, h]
  exact hf
end DV
namespace DV
open PySem L2
/-! ### the compiled functions, evaluated -/
section
variable {δ : DS} {f f' : DS → Res D} {fs fk : DS → Res (List D)} {t u : DS → Res Bool} {g h : DS → Fl} {i : Nat}
@[simp] theorem ev_var : cVar i δ = (match δ[i]? with | some (some (.im d)) => .ok d | _ => .no) := rfl
@[simp] theorem ev_c {d : D} : cC d δ = .ok d := rfl
@[simp] theorem ev_bin {o : D → D → Res D} : cBin o f f' δ = (f δ).bind fun x => (f' δ).bind fun y => o x y := rfl
@[simp] theorem ev_un {o : D → Res D} : cUn o f δ = (f δ).bind o := rfl
@[simp] theorem ev_chain {o o' : D → D → Res D} {fb fc : DS → Res D} : cChain o o' f fb fc δ = (f δ).bind fun x => (fb δ).bind fun y => (o x y).bind fun k => (match k with
  | .v (.bl true) => (fc δ).bind fun z => o' y z
  | .v (.bl false) => .ok (.bl false)
  | _ => .no) := rfl
@[simp] theorem ev_test : cTest f δ = (f δ).bind asB := rfl
@[simp] theorem ev_asB {b : Bool} : asB (.v (.bl b)) = .ok b := rfl
@[simp] theorem ev_asI {b : Int} : asI (.v (.int b)) = .ok (some b) := rfl
@[simp] theorem ev_notT : cNotT t δ = (t δ).bind fun b => .ok (!b) := rfl
@[simp] theorem ev_andT : cAndT t u δ = (t δ).bind fun b => if b = true then u δ else .ok false := rfl
@[simp] theorem ev_orT : cOrT t u δ = (t δ).bind fun b => if b = true then .ok true else u δ := rfl
@[simp] theorem ev_andV : cAndV f f' δ = (f δ).bind fun x => (match x with
  | .v (.bl true) => f' δ
  | .v (.bl false) => .ok (.bl false)
  | _ => .no) := rfl
@[simp] theorem ev_orV : cOrV f f' δ = (f δ).bind fun x => (match x with
  | .v (.bl true) => .ok (.bl true)
  | .v (.bl false) => f' δ
  | _ => .no) := rfl
@[simp] theorem ev_not {b : Bool} : oNot (.v (.bl b)) = .ok (.bl (!b)) := rfl
@[simp] theorem ev_ifE : cIfE t f f' δ = (t δ).bind fun b => if b = true then f δ else f' δ := rfl
@[simp] theorem ev_nil : cNil δ = .ok [] := rfl
@[simp] theorem ev_cons : cCons f fs δ = (f δ).bind fun x => (fs δ).bind fun xs => .ok (x :: xs) := rfl
@[simp] theorem ev_tup : cTup fs δ = (fs δ).bind fun ds => .ok (.tup ds) := rfl
@[simp] theorem ev_L : cL fs δ = (fs δ).bind fun ds => .ok (.lst ds) := rfl
@[simp] theorem ev_call {c : List D → Res D} : cCall c fs δ = (fs δ).bind c := rfl
@[simp] theorem ev_fn0 {F : List D → Res D} : cFn0 F fs δ = (fs δ).bind F := rfl
@[simp] theorem ev_fn {F : List D → Res D} {dd : List D} : cFn F dd fs δ = (fs δ).bind fun ds => F (ds ++ dd) := rfl
@[simp] theorem ev_kw {F : List D → Res D} {l : List (Pk D)} : cKw F l fs fk δ = (fs δ).bind fun ds => (fk δ).bind fun es => F (pkD l ds es) := rfl
@[simp] theorem ev_pk_p {α : Type} {z : α} {us ws : List α} {n : Nat} : Pk.get z us ws (.p n) = us.getD n z := rfl
@[simp] theorem ev_pk_k {α : Type} {z : α} {us ws : List α} {n : Nat} : Pk.get z us ws (.k n) = ws.getD n z := rfl
@[simp] theorem ev_pk_c {α : Type} {z x : α} {us ws : List α} : Pk.get z us ws (.c x) = x := rfl
@[simp] theorem ev_items : cItems f δ = (f δ).bind itemsD := rfl
@[simp] theorem ev_items_l {xs : List D} : itemsD (.lst xs) = .ok xs := rfl
@[simp] theorem ev_items_t {xs : List D} : itemsD (.tup xs) = .ok xs := rfl
@[simp] theorem ev_it {c : List D → Res (List D)} : cIt c fs δ = (fs δ).bind c := rfl
@[simp] theorem ev_lc {vs : List Nat} {b : D → DS → Option DS} : cLc vs fs b t f δ = (fs δ).bind fun ds => if ds.length ≤ sizeLine then lcF b t f ds (wipeD δ vs) else .no := rfl
@[simp] theorem ev_yes : cYes δ = .ok true := rfl
@[simp] theorem ev_wipe0 : wipeD δ [] = δ := rfl
@[simp] theorem ev_wipe1 {v : Nat} {vs : List Nat} : wipeD δ (v :: vs) = (wipeD δ vs).set v none := rfl
@[simp] theorem ev_none : cNone δ = .ok none := rfl
@[simp] theorem ev_some : cSome f δ = (f δ).bind asI := rfl
@[simp] theorem ev_sl {lo hi : DS → Res (Option Int)} : cSl f lo hi δ = (f δ).bind fun x => (lo δ).bind fun l => (hi δ).bind fun h => oSl l h x := rfl
@[simp] theorem ev_slt {lo hi : Option Int} {xs : List D} : oSl lo hi (.tup xs) = .ok (.tup (cutD xs lo hi)) := rfl
@[simp] theorem ev_sll {lo hi : Option Int} {xs : List D} : oSl lo hi (.lst xs) = .ok (.lst (cutD xs lo hi)) := rfl
@[simp] theorem ev_bname {d : D} : bName i d δ = some (δ.set i (some (.im d))) := rfl
@[simp] theorem ev_bnil : bNil [] δ = some δ := rfl
@[simp] theorem ev_bcons {b : D → DS → Option DS} {c : List D → DS → Option DS} {d : D} {ds : List D} : bCons b c (d :: ds) δ = (b d δ).bind fun δ' => c ds δ' := rfl
@[simp] theorem ev_btup {n : Nat} {c : List D → DS → Option DS} {ds : List D} : bTup n c (.tup ds) δ = if ds.length = n then c ds δ else none := rfl
/-! statements -/
@[simp] theorem ev_seq : cSeq g h δ = (g δ).then h := rfl
@[simp] theorem ev_next : cNext δ = .nx δ := rfl
@[simp] theorem ev_break : cBreak δ = .bk δ := rfl
@[simp] theorem ev_cont : cCont δ = .ct δ := rfl
@[simp] theorem ev_ret : cRet f δ = stE (f δ) δ fun d => .rt d := rfl
@[simp] theorem ev_retN : cRetN δ = .rt .non := rfl
@[simp] theorem ev_if : cIf t g h δ = stE (t δ) δ fun b => if b = true then g δ else h δ := rfl
@[simp] theorem ev_drop : cDrop f δ = stE (f δ) δ fun _ => .nx δ := rfl
@[simp] theorem ev_asg : cAsg i f δ = stE (f δ) δ fun d => .nx (δ.set i (some (.im d))) := rfl
@[simp] theorem ev_asgG {b : D → DS → Option DS} : cAsgG b f δ = stE (f δ) δ fun d => (match b d δ with
  | some δ' => .nx δ'
  | none => .no) := rfl
@[simp] theorem ev_par {j : Nat} : cPar i j fs δ = stE (fs δ) δ fun ds => (match ds with
  | [d, e] => .nx ((δ.set i (some (.im d))).set j (some (.im e)))
  | _ => .no) := rfl
@[simp] theorem ev_aug {o : D → D → Res D} : cAug i o f δ = stE ((cVar i δ).bind fun x => (f δ).bind fun y => o x y) δ fun d => .nx (δ.set i (some (.im d))) := rfl
@[simp] theorem ev_own : cOwn i fs δ = stE (fs δ) δ fun ds => .nx (δ.set i (some (.ow ds))) := rfl
@[simp] theorem ev_app : cApp i f δ = (match δ[i]? with
  | some (some (.ow ds)) => stE (f δ) δ fun d => if ds.length < sizeLine then .nx (δ.set i (some (.ow (ds ++ [d])))) else .no
  | _ => .no) := rfl
@[simp] theorem ev_cfz : cFz i g δ = g (fz i δ) := rfl
@[simp] theorem ev_fz : fz i δ = (match δ[i]? with
  | some (some (.ow ds)) => δ.set i (some (.im (.lst ds)))
  | _ => δ) := rfl
@[simp] theorem ev_look : cLook i f δ = flatR (f (fz i δ)) := rfl
@[simp] theorem ev_flat {x : V} : flatR (.ok (.v x)) = .ok (.v x) := rfl
@[simp] theorem ev_lookT : cLookT i t δ = (t (fz i δ)).calm := rfl
@[simp] theorem ev_for {b : D → DS → Option DS} : cFor fs b g δ = stE (fs δ) δ fun ds => forF b g ds δ := rfl
@[simp] theorem ev_raise {c : Str} {ff : List D → List (Str × D)} : cRaise c ff fs δ = stE (fs δ) δ fun ds => .rs ⟨c, ff ds⟩ δ := rfl
@[simp] theorem ev_lam {n : Nat} {q : Clauses} {z : Str} : cLam n q z f δ = wordF n q z (f δ) := rfl
@[simp] theorem ev_word_ok {n : Nat} {q : Clauses} {z : Str} {d : D} : wordF n q z (.ok d) = .ok (.str z) := rfl
@[simp] theorem ev_forF0 {b : D → DS → Option DS} : forF b g [] δ = .nx δ := rfl
@[simp] theorem ev_lcF0 {b : D → DS → Option DS} : lcF b t f [] δ = .ok [] := rfl
/-! operators -/
@[simp] theorem ev_add (i j : Int) : oAdd (.v (.int i)) (.v (.int j)) = .ok (.int (i + j)) := rfl
@[simp] theorem ev_sub (i j : Int) : oSub (.v (.int i)) (.v (.int j)) = .ok (.int (i - j)) := rfl
@[simp] theorem ev_neg (i : Int) : oNeg (.v (.int i)) = .ok (.int (-i)) := rfl
@[simp] theorem ev_addI (i j : Int) : oAddI (.v (.int i)) (.v (.int j)) = .ok (.int (i + j)) := rfl
@[simp] theorem ev_oI {p : Int → Int → Bool} (i j : Int) : oI p (.v (.int i)) (.v (.int j)) = .ok (.bl (p i j)) := rfl
@[simp] theorem ev_eqI (i j : Int) : oEqB false (.v (.int i)) (.v (.int j)) = .ok (.bl (decide (i = j))) := oEq_int i j
@[simp] theorem ev_neI (i j : Int) : oEqB true (.v (.int i)) (.v (.int j)) = .ok (.bl (!decide (i = j))) := oNe_int i j
@[simp] theorem ev_eqB (i j : Bool) : oEqB false (.v (.bl i)) (.v (.bl j)) = .ok (.bl (i == j)) := oEq_bl i j
@[simp] theorem ev_neB (i j : Bool) : oEqB true (.v (.bl i)) (.v (.bl j)) = .ok (.bl (!(i == j))) := oNe_bl i j
@[simp] theorem ev_isN {b : Bool} {x : V} : oIsN b (.v x) (.v .non) = .ok (.bl (if b then !isNon (.v x) else isNon (.v x))) := by cases b <;> rfl
@[simp] theorem ev_lenl {xs : List D} : gLen [.lst xs] = .ok (.int (xs.length : Nat)) := rfl
@[simp] theorem ev_lent {xs : List D} : gLen [.tup xs] = .ok (.int (xs.length : Nat)) := rfl
@[simp] theorem ev_revt {xs : List D} : oRev (.tup xs) = .ok (.tup xs.reverse) := rfl
@[simp] theorem ev_revl {xs : List D} : oRev (.lst xs) = .ok (.lst xs.reverse) := rfl
@[simp] theorem ev_all {bs : List Bool} : gAll [.lst (bs.map D.bl)] = .ok (.bl (bs.all id)) := by unfold gAll gBls; simp
@[simp] theorem ev_any {bs : List Bool} : gAny [.lst (bs.map D.bl)] = .ok (.bl (bs.any id)) := by unfold gAny gBls; simp
theorem ev_all' {α : Type} {xs : List α} {p : α → Bool} : gAll [.lst (xs.map fun a => D.bl (p a))] = .ok (.bl (xs.all p)) := by
  have e : (xs.map fun a => D.bl (p a)) = (xs.map p).map D.bl := by simp
  rw [e, ev_all]
  simp [List.all_map, Function.comp_def]
theorem ev_any' {α : Type} {xs : List α} {p : α → Bool} : gAny [.lst (xs.map fun a => D.bl (p a))] = .ok (.bl (xs.any p)) := by
  have e : (xs.map fun a => D.bl (p a)) = (xs.map p).map D.bl := by simp
  rw [e, ev_any]
  simp [List.any_map, Function.comp_def]
end
@[simp] theorem defF_ev {m : Nat} {g : DS → Fl} {ds : List D} : defF m g ds = flR (g (st0 m ds)) := rfl
@[simp] theorem st0_ev {m : Nat} {ds : List D} : st0 m ds = ds.map (fun d => some (.im d)) ++ List.replicate m none := rfl
/-- the items by place -/
theorem at_nat {α : Type} {xs : List α} {i : Nat} : atI xs (i : Int) = xs[i]? := by
  unfold atI ixN
  by_cases h : i < xs.length
  · simp [h]
  · simp [h]
end DV
namespace DV
open PySem L2
/-! ### data without truth values: == is equality -/
mutual
def D.nb : D → Bool
  | .v .non => true
  | .v (.int _) => true
  | .v (.str s) => PyData.canLay0 (.str s)
  | .v _ => false
  | .lst xs => D.nbA xs
  | .tup xs => D.nbA xs
  | .dct _ _ => false
  | .ins _ _ _ => false
def D.nbA : List D → Bool
  | [] => true
  | x :: xs => x.nb && D.nbA xs
end
mutual
def D.dep : D → Nat
  | .lst xs => D.depA xs + 1
  | .tup xs => D.depA xs + 1
  | _ => 0
def D.depA : List D → Nat
  | [] => 0
  | x :: xs => max x.dep (D.depA xs)
end
mutual
def D.eqb : D → D → Bool
  | .v x, .v y => decide (x = y)
  | .lst xs, .lst ys => D.eqbA xs ys
  | .tup xs, .tup ys => D.eqbA xs ys
  | .dct ks vs, .dct ls ws => D.eqbA ks ls && D.eqbA vs ws
  | .ins c ns vs, .ins b ms ws => decide (c = b) && decide (ns = ms) && D.eqbA vs ws
  | _, _ => false
def D.eqbA : List D → List D → Bool
  | [], [] => true
  | x :: xs, y :: ys => x.eqb y && D.eqbA xs ys
  | _, _ => false
end
mutual
theorem D.eqb_iff : ∀ d e : D, d.eqb e = true ↔ d = e
  | .v x, e => by cases e <;> simp [D.eqb]
  | .lst xs, e => by cases e <;> simp [D.eqb, D.eqbA_iff]
  | .tup xs, e => by cases e <;> simp [D.eqb, D.eqbA_iff]
  | .dct ks vs, e => by cases e <;> simp [D.eqb, D.eqbA_iff]
  | .ins c ns vs, e => by cases e <;> simp [D.eqb, D.eqbA_iff, and_assoc]
theorem D.eqbA_iff : ∀ ds es : List D, D.eqbA ds es = true ↔ ds = es
  | [], es => by cases es <;> simp [D.eqbA]
  | d :: ds, es => by
    cases es with
    | nil => simp [D.eqbA]
    | cons e es => simp [D.eqbA, D.eqb_iff d e, D.eqbA_iff ds es]
end
instance : DecidableEq D := fun d e => decidable_of_iff (d.eqb e = true) (D.eqb_iff d e)
theorem D.eqb_dec (d e : D) : d.eqb e = decide (d = e) := by
  rw [Bool.eq_iff_iff, D.eqb_iff, decide_eq_true_eq]
mutual
theorem D.nb_py : ∀ d : D, d.nb = true → ∃ p, d.py = some p ∧ p.canLay0 = true ∧ p.depth = d.dep
  | .v .non, _ => ⟨.none, rfl, rfl, rfl⟩
  | .v (.int i), _ => ⟨.int i, rfl, rfl, rfl⟩
  | .v (.str s), h => ⟨.str s, rfl, h, rfl⟩
  | .v (.bl _), h => by cases h
  | .v (.byt _), h => by cases h
  | .v (.flt _), h => by cases h
  | .v (.ref _), h => by cases h
  | .v (.ty _), h => by cases h
  | .dct _ _, h => by cases h
  | .ins _ _ _, h => by cases h
  | .lst xs, h => by
    obtain ⟨ps, h1, h2, h3⟩ := D.nbA_py xs (by simpa [D.nb] using h)
    exact ⟨.list ps, by rw [D.py, h1]; rfl, h2, by rw [PyData.depth, h3, D.dep]⟩
  | .tup xs, h => by
    obtain ⟨ps, h1, h2, h3⟩ := D.nbA_py xs (by simpa [D.nb] using h)
    exact ⟨.tuple ps, by rw [D.py, h1]; rfl, h2, by rw [PyData.depth, h3, D.dep]⟩
theorem D.nbA_py : ∀ ds : List D, D.nbA ds = true → ∃ ps, D.pyA ds = some ps ∧ PyData.canLayAll0 ps = true ∧ PyData.depthAll ps = D.depA ds
  | [], _ => ⟨[], rfl, rfl, rfl⟩
  | d :: ds, h => by
    rw [D.nbA, Bool.and_eq_true] at h
    obtain ⟨p, h1, h2, h3⟩ := D.nb_py d h.1
    obtain ⟨ps, g1, g2, g3⟩ := D.nbA_py ds h.2
    refine ⟨p :: ps, ?_, ?_, ?_⟩
    · rw [D.pyA, h1, g1]
    · rw [PyData.canLayAll0, h2, g2]; rfl
    · rw [PyData.depthAll, h3, g3, D.depA]
end
mutual
theorem D.nb_eqv : ∀ (d e : D) (p q : PyData), d.nb = true → e.nb = true → d.py = some p → e.py = some q → PyData.eqv p q = d.eqb e
  | .v x, e, p, q, hd, he, hp, hq => by
    cases x <;> first | (cases hd; done) | skip
    all_goals
      cases hp
      cases e with
      | v y =>
        cases y <;> first | (cases he; done) | (cases hq; simp [PyData.eqv, D.eqb]; done) | (cases hq; simp [PyData.eqv, D.eqb, Bool.beq_eq_decide_eq]; done) | (cases hq; simp [PyData.eqv, D.eqb]; rw [Bool.eq_iff_iff]; simp)
      | lst ys => rw [D.py] at hq; cases z : D.pyA ys <;> rw [z] at hq <;> cases hq <;> rfl
      | tup ys => rw [D.py] at hq; cases z : D.pyA ys <;> rw [z] at hq <;> cases hq <;> rfl
      | dct _ _ => cases he
      | ins _ _ _ => cases he
  | .lst xs, e, p, q, hd, he, hp, hq => by
    obtain ⟨ps, h1, _, _⟩ := D.nbA_py xs (by simpa [D.nb] using hd)
    rw [D.py, h1] at hp
    cases hp
    cases e with
    | v y => cases y <;> first | (cases he; done) | (cases hq; rfl)
    | lst ys =>
      obtain ⟨qs, g1, _, _⟩ := D.nbA_py ys (by simpa [D.nb] using he)
      rw [D.py, g1] at hq
      cases hq
      rw [PyData.eqv, D.eqb]
      exact D.nbA_eqv xs ys ps qs (by simpa [D.nb] using hd) (by simpa [D.nb] using he) h1 g1
    | tup ys => rw [D.py] at hq; cases z : D.pyA ys <;> rw [z] at hq <;> cases hq <;> rfl
    | dct _ _ => cases he
    | ins _ _ _ => cases he
  | .tup xs, e, p, q, hd, he, hp, hq => by
    obtain ⟨ps, h1, _, _⟩ := D.nbA_py xs (by simpa [D.nb] using hd)
    rw [D.py, h1] at hp
    cases hp
    cases e with
    | v y => cases y <;> first | (cases he; done) | (cases hq; rfl)
    | tup ys =>
      obtain ⟨qs, g1, _, _⟩ := D.nbA_py ys (by simpa [D.nb] using he)
      rw [D.py, g1] at hq
      cases hq
      rw [PyData.eqv, D.eqb]
      exact D.nbA_eqv xs ys ps qs (by simpa [D.nb] using hd) (by simpa [D.nb] using he) h1 g1
    | lst ys => rw [D.py] at hq; cases z : D.pyA ys <;> rw [z] at hq <;> cases hq <;> rfl
    | dct _ _ => cases he
    | ins _ _ _ => cases he
  | .dct _ _, _, _, _, hd, _, _, _ => by cases hd
  | .ins _ _ _, _, _, _, hd, _, _, _ => by cases hd
theorem D.nbA_eqv : ∀ (ds es : List D) (ps qs : List PyData), D.nbA ds = true → D.nbA es = true → D.pyA ds = some ps → D.pyA es = some qs → PyData.eqvAll ps qs = D.eqbA ds es
  | [], es, ps, qs, hd, he, hp, hq => by
    cases hp
    cases es with
    | nil => cases hq; rfl
    | cons e es =>
      rw [D.pyA] at hq
      split at hq
      · cases hq; rfl
      · cases hq
  | d :: ds, es, ps, qs, hd, he, hp, hq => by
    rw [D.nbA, Bool.and_eq_true] at hd
    obtain ⟨p, h1, _, _⟩ := D.nb_py d hd.1
    obtain ⟨ps', g1, _, _⟩ := D.nbA_py ds hd.2
    rw [D.pyA, h1, g1] at hp
    cases hp
    cases es with
    | nil => cases hq; rfl
    | cons e es =>
      rw [D.nbA, Bool.and_eq_true] at he
      obtain ⟨q, k1, _, _⟩ := D.nb_py e he.1
      obtain ⟨qs', l1, _, _⟩ := D.nbA_py es he.2
      rw [D.pyA, k1, l1] at hq
      cases hq
      rw [PyData.eqvAll, D.eqbA, D.nb_eqv d e p q hd.1 he.1 h1 k1, D.nbA_eqv ds es ps' qs' hd.2 he.2 g1 l1]
end
theorem oEqB_nb {neg : Bool} {d e : D} (hd : d.nb = true) (he : e.nb = true) (h1 : d.dep ≤ 64) (h2 : e.dep ≤ 64) : oEqB neg d e = .ok (.bl (if neg then !decide (d = e) else decide (d = e))) := by
  obtain ⟨p, a1, a2, a3⟩ := D.nb_py d hd
  obtain ⟨q, b1, b2, b3⟩ := D.nb_py e he
  unfold oEqB
  rw [a1, b1]
  dsimp only
  have sp : SeqAt.shaped p = true := by unfold SeqAt.shaped; rw [a2, decide_eq_true (by omega)]; rfl
  have sq : SeqAt.shaped q = true := by unfold SeqAt.shaped; rw [b2, decide_eq_true (by omega)]; rfl
  rw [if_pos ⟨sp, sq⟩, D.nb_eqv d e p q hd he a1 b1, D.eqb_dec]
theorem D.nbA_of : ∀ {ds : List D}, (∀ d ∈ ds, d.nb = true) → D.nbA ds = true
  | [], _ => rfl
  | d :: ds, h => by rw [D.nbA, h d (by simp), D.nbA_of fun e he => h e (by simp [he])]; rfl
theorem D.depA_of {n : Nat} : ∀ {ds : List D}, (∀ d ∈ ds, d.dep ≤ n) → D.depA ds ≤ n
  | [], _ => Nat.zero_le _
  | d :: ds, h => by rw [D.depA]; exact Nat.max_le.mpr ⟨h d (by simp), D.depA_of fun e he => h e (by simp [he])⟩
theorem D.nb_ints (xs : List Int) : D.nbA (xs.map D.int) = true := D.nbA_of fun d hd => by
  obtain ⟨i, _, rfl⟩ := List.mem_map.mp hd
  rfl
theorem D.dep_ints (xs : List Int) : D.depA (xs.map D.int) ≤ 0 := D.depA_of fun d hd => by
  obtain ⟨i, _, rfl⟩ := List.mem_map.mp hd
  exact Nat.le_refl _
theorem D.int_inj : ∀ {xs ys : List Int}, xs.map D.int = ys.map D.int → xs = ys
  | [], [], _ => rfl
  | [], _ :: _, h => by cases h
  | _ :: _, [], h => by cases h
  | x :: xs, y :: ys, h => by
    simp only [List.map_cons, List.cons.injEq, D.int, D.v.injEq, V.int.injEq] at h
    rw [h.1, D.int_inj h.2]
/-- lists, tuples of ints -/
theorem eqL_ints {neg : Bool} (xs ys : List Int) : oEqB neg (.lst (xs.map D.int)) (.lst (ys.map D.int)) = .ok (.bl (if neg then !decide (xs = ys) else decide (xs = ys))) := by
  rw [oEqB_nb (by rw [D.nb]; exact D.nb_ints xs) (by rw [D.nb]; exact D.nb_ints ys) (by rw [D.dep]; have := D.dep_ints xs; omega) (by rw [D.dep]; have := D.dep_ints ys; omega)]
  have : (D.lst (xs.map D.int) = D.lst (ys.map D.int)) ↔ xs = ys := ⟨fun h => D.int_inj (D.lst.inj h), fun h => by rw [h]⟩
  simp only [this]
theorem eqT_ints {neg : Bool} (xs ys : List Int) : oEqB neg (.tup (xs.map D.int)) (.tup (ys.map D.int)) = .ok (.bl (if neg then !decide (xs = ys) else decide (xs = ys))) := by
  rw [oEqB_nb (by rw [D.nb]; exact D.nb_ints xs) (by rw [D.nb]; exact D.nb_ints ys) (by rw [D.dep]; have := D.dep_ints xs; omega) (by rw [D.dep]; have := D.dep_ints ys; omega)]
  have : (D.tup (xs.map D.int) = D.tup (ys.map D.int)) ↔ xs = ys := ⟨fun h => D.int_inj (D.tup.inj h), fun h => by rw [h]⟩
  simp only [this]
/-- texts -/
theorem eq_strs {neg : Bool} {x y : Str} (hx : PyData.canLay0 (.str x) = true) (hy : PyData.canLay0 (.str y) = true) : oEqB neg (.v (.str x)) (.v (.str y)) = .ok (.bl (if neg then !decide (x = y) else decide (x = y))) := by
  rw [oEqB_nb (by rw [D.nb]; exact hx) (by rw [D.nb]; exact hy) (by rw [D.dep] <;> simp) (by rw [D.dep] <;> simp)]
  have : (D.v (.str x) = D.v (.str y)) ↔ x = y := ⟨fun h => V.str.inj (D.v.inj h), fun h => by rw [h]⟩
  simp only [this]
end DV
namespace My
open PySem L2 DV

abbrev g_multiplied_l1 : DS → Fl :=
  (cAug 1 oMulI (cVar 2))
def g_multiplied : DS → Fl :=
  (cSeq (cAsg 1 (cC (.int 1)))
  (cSeq (cFor (cItems (cVar 0)) (bName 2) g_multiplied_l1)
  (cRet (cVar 1))))
def F_multiplied : List D → Res D := defF 2 g_multiplied
def g_look_sizes : DS → Fl :=
  (cSeq (cIf (cOrT (cNotT (cTest (cChain oLe oLe (cC (.int 1)) (cCall gLen (cCons (cVar 0) cNil)) (cC (.int 6))))) (cNotT (cTest (cCall gAll (cCons (cL (cLc [1] (cItems (cVar 0)) (bName 1) cYes (cChain oLe oLe (cC (.int 2)) (cVar 1) (cC (.int 4))))) cNil))))) (cRaise "BadSizes" (fd1 "word" "badsizes") cNil) cNext)
  (cIf (cTest (cBin oGt (cFn0 F_multiplied (cCons (cVar 0) cNil)) (cC (.int 300)))) (cRaise "BadSizes" (fd1 "word" "badsizes") cNil) cNext))
def F_look_sizes : List D → Res D := defF 1 g_look_sizes
def g_look_row : DS → Fl :=
  (cIf (cOrT (cTest (cBin oNe (cCall gLen (cCons (cVar 1) cNil)) (cCall gLen (cCons (cVar 0) cNil)))) (cNotT (cTest (cCall gAll (cCons (cL (cLc [2, 3] (cIt gZip (cCons (cVar 1) (cCons (cVar 0) cNil))) (bTup 2 (bCons (bName 2) (bCons (bName 3) bNil))) cYes (cChain oLe oLt (cC (.int 0)) (cVar 2) (cVar 3)))) cNil))))) (cRaise "BadRow" (fd1 "word" "badrow") cNil) cNext)
def F_look_row : List D → Res D := defF 2 g_look_row
def g_many_rows : DS → Fl :=
  (cSeq (cDrop (cFn0 F_look_sizes (cCons (cVar 0) cNil)))
  (cRet (cFn0 F_multiplied (cCons (cVar 0) cNil))))
def F_many_rows : List D → Res D := defF 0 g_many_rows
abbrev g_number_of_l1 : DS → Fl :=
  (cAsg 2 (cBin oAdd (cBin oMul2 (cVar 2) (cVar 4)) (cVar 3)))
def g_number_of : DS → Fl :=
  (cSeq (cDrop (cFn0 F_look_sizes (cCons (cVar 0) cNil)))
  (cSeq (cDrop (cFn0 F_look_row (cCons (cVar 0) (cCons (cVar 1) cNil))))
  (cSeq (cAsg 2 (cC (.int 0)))
  (cSeq (cFor (cIt gZip (cCons (cVar 1) (cCons (cVar 0) cNil))) (bTup 2 (bCons (bName 3) (bCons (bName 4) bNil))) g_number_of_l1)
  (cRet (cVar 2))))))
def F_number_of : List D → Res D := defF 3 g_number_of
abbrev g_row_of_l1 : DS → Fl :=
  (cSeq (cAsgG (bTup 2 (bCons (bName 2) (bCons (bName 5) bNil))) (cCall gDivmod (cCons (cVar 2) (cCons (cVar 4) cNil))))
  (cApp 3 (cVar 5)))
def g_row_of : DS → Fl :=
  (cSeq (cDrop (cFn0 F_look_sizes (cCons (cVar 0) cNil)))
  (cSeq (cIf (cOrT (cTest (cBin oLt (cVar 1) (cC (.int 0)))) (cTest (cBin oGe (cVar 1) (cFn0 F_multiplied (cCons (cVar 0) cNil))))) (cRaise "BadRow" (fd1 "word" "badrow") cNil) cNext)
  (cSeq (cAsg 2 (cVar 1))
  (cSeq (cOwn 3 cNil)
  (cSeq (cFor (cItems (cUn oRev (cVar 0))) (bName 4) g_row_of_l1)
  (cFz 3 (cRet (cCall gTuple (cCons (cUn oRev (cVar 3)) cNil)))))))))
def F_row_of : List D → Res D := defF 4 g_row_of
def g_fits : DS → Fl :=
  (cRet (cCall gAll (cCons (cL (cLc [2, 3] (cItems (cVar 1)) (bTup 2 (bCons (bName 2) (bCons (bName 3) bNil))) cYes (cBin oEq (cBin oIx (cVar 0) (cVar 2)) (cVar 3)))) cNil)))
def F_fits : List D → Res D := defF 2 g_fits
abbrev g__law_draws_l1 : DS → Fl :=
  (cSeq (cApp 5 (cBin oMod (cVar 0) (cVar 6)))
  (cAsg 0 (cBin oFdiv (cVar 0) (cVar 6))))
def g__law_draws : DS → Fl :=
  (cSeq (cIf (cTest (cBin oLt (cCall gAbs (cCons (cVar 0) cNil)) (cBin oPow (cC (.int 10)) (cC (.int 18))))) (cSeq (cAsg 2 (cBin oMod (cBin oAdd (cBin oMul2 (cVar 0) (cC (.int 48271))) (cC (.int 11))) (cC (.int 2147483647))))
  (cSeq (cAsg 3 (cBin oMod (cBin oAdd (cBin oAdd (cBin oMul2 (cVar 2) (cVar 2)) (cBin oMul2 (cC (.int 40692)) (cVar 2))) (cVar 0)) (cC (.int 2147483399))))
  (cSeq (cAsg 4 (cBin oMod (cBin oAdd (cBin oMul2 (cVar 3) (cC (.int 16807))) (cVar 2)) (cC (.int 1000000007))))
  (cAsg 0 (cBin oAdd (cVar 3) (cBin oMul2 (cC (.int 2147483399)) (cBin oAdd (cVar 4) (cBin oMul2 (cC (.int 1000000007)) (cVar 2))))))))) (cAsg 0 (cBin oSub (cCall gAbs (cCons (cVar 0) cNil)) (cBin oPow (cC (.int 10)) (cC (.int 18))))))
  (cSeq (cOwn 5 cNil)
  (cSeq (cFor (cItems (cVar 1)) (bName 6) g__law_draws_l1)
  (cFz 5 (cRet (cVar 5))))))
def F__law_draws : List D → Res D := defF 5 g__law_draws
abbrev g__law_rows_l1 : DS → Fl :=
  (cAsg 3 (cBin oAdd (cVar 3) (cL (cLc [5] (cIt gRange1 (cCons (cVar 2) cNil)) (bName 5) cYes (cBin oAdd (cVar 4) (cTup (cCons (cVar 5) cNil)))))))
abbrev g__law_rows_l2 : DS → Fl :=
  (cSeq (cAsg 3 (cL cNil))
  (cSeq (cFor (cItems (cVar 1)) (bName 4) g__law_rows_l1)
  (cAsg 1 (cVar 3))))
def g__law_rows : DS → Fl :=
  (cSeq (cAsg 1 (cL (cCons (cTup cNil) cNil)))
  (cSeq (cFor (cItems (cVar 0)) (bName 2) g__law_rows_l2)
  (cRet (cVar 1))))
def F__law_rows : List D → Res D := defF 5 g__law_rows
def q__law_word : Clauses :=
  ((tabP [("BadSizes", true), ("BadRow", true), ("NothingLeft", false)], 1, (fun x δ => stE ((fun x _ => fldR "word" x) x δ) δ fun z => .rt z)) :: ((tabP [("BadSizes", false), ("BadRow", false), ("NothingLeft", false)], 1, (fun x δ => stE ((fun x _ => fldR "word" x) x δ) δ fun z => .rt z)) :: ((tabP [("BadSizes", false), ("BadRow", false), ("NothingLeft", true)], 1, (fun x δ => stE ((fun x _ => fldR "word" x) x δ) δ fun z => .rt z)) :: [])))
def g__law_same (rec : List D → Res D) : DS → Fl :=
  (cSeq (cIf (cTest (cBin (oIsN false) (cVar 1) (cC .non))) (cRet (cBin (oIsN false) (cVar 0) (cC .non))) cNext)
  (cSeq (cIf (cTest (cCall gIsi (cCons (cVar 1) (cCons (cC (.v (.ty "str"))) cNil)))) (cRet (cAndV (cCall gIsi (cCons (cVar 0) (cCons (cC (.v (.ty "str"))) cNil))) (cBin oEq (cVar 0) (cVar 1)))) cNext)
  (cSeq (cIf (cTest (cCall gIsi (cCons (cVar 1) (cCons (cC (.v (.ty "int"))) cNil)))) (cRet (cAndV (cCall gIsi (cCons (cVar 0) (cCons (cC (.v (.ty "int"))) cNil))) (cAndV (cBin oEq (cCall gIsi (cCons (cVar 0) (cCons (cC (.v (.ty "bool"))) cNil))) (cCall gIsi (cCons (cVar 1) (cCons (cC (.v (.ty "bool"))) cNil)))) (cBin oEq (cVar 0) (cVar 1))))) cNext)
  (cSeq (cIf (cOrT (cTest (cBin oNe (cCall gIsi (cCons (cVar 1) (cCons (cC (.v (.ty "list"))) cNil))) (cCall gIsi (cCons (cVar 0) (cCons (cC (.v (.ty "list"))) cNil))))) (cTest (cBin oNe (cCall gIsi (cCons (cVar 1) (cCons (cC (.v (.ty "tuple"))) cNil))) (cCall gIsi (cCons (cVar 0) (cCons (cC (.v (.ty "tuple"))) cNil)))))) (cRet (cC (.bl false))) cNext)
  (cRet (cAndV (cBin oEq (cCall gLen (cCons (cVar 0) cNil)) (cCall gLen (cCons (cVar 1) cNil))) (cCall gAll (cCons (cL (cLc [2] (cIt gRange1 (cCons (cCall gLen (cCons (cVar 1) cNil)) cNil)) (bName 2) cYes (cFn0 rec (cCons (cBin oIx (cVar 0) (cVar 2)) (cCons (cBin oIx (cVar 1) (cVar 2)) cNil))))) cNil))))))))
def F__law_same : Nat → List D → Res D
  | 0 => fun _ => .no
  | n + 1 => defF 1 (g__law_same (F__law_same n))
abbrev g__law_sizes_good_l1 : DS → Fl :=
  (cAsg 1 (cBin oMul2 (cVar 1) (cVar 2)))
def g__law_sizes_good : DS → Fl :=
  (cSeq (cAsg 1 (cC (.int 1)))
  (cSeq (cFor (cItems (cVar 0)) (bName 2) g__law_sizes_good_l1)
  (cRet (cAndV (cChain oLe oLe (cC (.int 1)) (cCall gLen (cCons (cVar 0) cNil)) (cC (.int 6))) (cAndV (cCall gAll (cCons (cL (cLc [2] (cItems (cVar 0)) (bName 2) cYes (cChain oLe oLe (cC (.int 2)) (cVar 2) (cC (.int 4))))) cNil)) (cBin oLe (cVar 1) (cC (.int 300))))))))
def F__law_sizes_good : List D → Res D := defF 2 g__law_sizes_good
def g__law_row_good : DS → Fl :=
  (cRet (cAndV (cBin oEq (cCall gLen (cCons (cVar 1) cNil)) (cCall gLen (cCons (cVar 0) cNil))) (cCall gAll (cCons (cL (cLc [2] (cIt gRange1 (cCons (cCall gLen (cCons (cVar 1) cNil)) cNil)) (bName 2) cYes (cChain oLe oLt (cC (.int 0)) (cBin oIx (cVar 1) (cVar 2)) (cBin oIx (cVar 0) (cVar 2))))) cNil))))
def F__law_row_good : List D → Res D := defF 1 g__law_row_good
abbrev g_law_l1 : DS → Fl :=
  (cSeq (cAsg 2 (cFn0 F__law_draws (cCons (cVar 1) (cCons (cL (cCons (cC (.int 8)) (cCons (cC (.int 6)) (cCons (cC (.int 7)) (cCons (cC (.int 3)) (cCons (cC (.int 6)) (cCons (cC (.int 997)) cNil))))))) cNil))))
  (cSeq (cAsg 3 (cBin oIx (cL (cCons (cTup cNil) (cCons (cTup (cCons (cC (.int 3)) (cCons (cC (.int 4)) (cCons (cC (.int 5)) (cCons (cC (.int 5)) cNil))))) (cCons (cTup (cCons (cC (.int 4)) (cCons (cC (.int 4)) (cCons (cC (.int 4)) (cCons (cC (.int 4)) (cCons (cC (.int 2)) cNil)))))) (cCons (cBin oMul2 (cTup (cCons (cC (.int 2)) cNil)) (cC (.int 7))) (cCons (cTup (cCons (cC (.int 3)) (cCons (cC (.int 4)) (cCons (cC (.int 5)) cNil)))) (cCons (cTup (cCons (cC (.int 4)) (cCons (cC (.int 4)) (cCons (cC (.int 3)) (cCons (cC (.int 3)) (cCons (cC (.int 2)) cNil)))))) (cCons (cTup (cCons (cC (.int 2)) (cCons (cC (.int 1)) cNil))) (cCons (cTup (cCons (cC (.int 2)) (cCons (cC (.int 3)) (cCons (cC (.int 2)) cNil)))) cNil))))))))) (cBin oIx (cVar 2) (cC (.int 0)))))
  (cSeq (cOwn 4 (cSlL (cL (cCons (cC (.int 0)) (cCons (cC (.int 1)) (cCons (cC (.int 1)) (cCons (cC (.int 0)) (cCons (cC (.int 1)) (cCons (cC (.int 0)) (cCons (cC (.int 1)) cNil)))))))) cNone (cSome (cCall gMax (cCons (cC (.int 0)) (cCons (cBin oAdd (cCall gLen (cCons (cVar 3) cNil)) (cBin oIx (cL (cCons (cC (.int 0)) (cCons (cC (.int 0)) (cCons (cC (.int 0)) (cCons (cUn oNeg (cC (.int 1))) (cCons (cC (.int 1)) (cCons (cC (.int 0)) cNil))))))) (cBin oIx (cVar 2) (cC (.int 1))))) cNil))))))
  (cSeq (cIf (cLookT 4 (cTest (cBin oNe (cVar 4) (cL cNil)))) (cPut 4 (cLook 4 (cBin oMod (cBin oIx (cVar 2) (cC (.int 2))) (cCall gLen (cCons (cVar 4) cNil)))) (cBin oIx (cL (cCons (cC (.int 0)) (cCons (cC (.int 1)) (cCons (cUn oNeg (cC (.int 1))) (cCons (cC (.int 2)) (cCons (cC (.int 4)) (cCons (cBin oPow (cC (.int 10)) (cC (.int 29))) cNil))))))) (cBin oIx (cVar 2) (cC (.int 4))))) cNext)
  (cSeq (cFz 4 (cAsg 4 (cCall gTuple (cCons (cVar 4) cNil))))
  (cSeq (cAsg 5 (cFn0 F__law_sizes_good (cCons (cVar 3) cNil)))
  (cSeq (cFz 4 (cAsg 6 (cIfE (cNotT (cTest (cVar 5))) (cC (.str "badsizes")) (cIfE (cTest (cFn0 F__law_row_good (cCons (cVar 3) (cCons (cVar 4) cNil)))) (cC (.str "")) (cC (.str "badrow"))))))
  (cSeq (cAsg 7 (cIfE (cTest (cVar 5)) (cCall gLen (cCons (cFn0 F__law_rows (cCons (cVar 3) cNil)) cNil)) (cC (.int 7))))
  (cSeq (cAsg 8 (cBin oIx (cL (cCons (cC (.int 0)) (cCons (cBin oSub (cVar 7) (cC (.int 1))) (cCons (cVar 7) (cCons (cUn oNeg (cC (.int 1))) (cCons (cBin oMod (cBin oIx (cVar 2) (cC (.int 5))) (cVar 7)) (cCons (cBin oPow (cC (.int 10)) (cC (.int 29))) cNil))))))) (cBin oIx (cVar 2) (cC (.int 4)))))
  (cSeq (cAsg 9 (cIfE (cNotT (cTest (cVar 5))) (cC (.str "badsizes")) (cIfE (cTest (cChain oLe oLt (cC (.int 0)) (cVar 8) (cVar 7))) (cC (.str "")) (cC (.str "badrow")))))
  (cSeq (cOwn 10 (cCons (cLam 2 q__law_word "" (cFn0 F_many_rows (cCons (cVar 3) cNil))) cNil))
  (cSeq (cApp 10 (cLook 4 (cLam 2 q__law_word "" (cFn0 F_number_of (cCons (cVar 3) (cCons (cVar 4) cNil))))))
  (cSeq (cApp 10 (cLam 2 q__law_word "" (cFn0 F_row_of (cCons (cVar 3) (cCons (cVar 8) cNil)))))
  (cSeq (cIf (cLookT 10 (cNotT (cTest (cFn0 (F__law_same 6) (cCons (cVar 10) (cCons (cL (cCons (cIfE (cTest (cVar 5)) (cC (.str "")) (cC (.str "badsizes"))) (cCons (cVar 6) (cCons (cVar 9) cNil)))) cNil)))))) (cRet (cC (.bl false))) cNext)
  (cIf (cAndT (cTest (cVar 5)) (cTest (cBin oEq (cVar 6) (cC (.str ""))))) (cSeq (cFz 4 (cAsg 11 (cCall gTuple (cCons (cL (cLc [12] (cIt gRange1 (cCons (cCall gLen (cCons (cVar 4) cNil)) cNil)) (bName 12) (cTest (cBin oGt (cBin oMod (cBin oFdiv (cBin oIx (cVar 2) (cC (.int 5))) (cC (.int 2))) (cBin oAdd (cVar 12) (cC (.int 2)))) (cC (.int 0)))) (cTup (cCons (cVar 12) (cCons (cBin oMod (cBin oAdd (cBin oIx (cVar 2) (cC (.int 5))) (cVar 12)) (cC (.int 2))) cNil))))) cNil))))
  (cIf (cLookT 4 (cNotT (cTest (cFn0 (F__law_same 6) (cCons (cFn0 F_fits (cCons (cVar 4) (cCons (cVar 11) cNil))) (cCons (cCall gAll (cCons (cL (cLc [12, 13] (cItems (cVar 11)) (bTup 2 (bCons (bName 12) (bCons (bName 13) bNil))) cYes (cBin oEq (cBin oIx (cVar 4) (cVar 12)) (cVar 13)))) cNil)) cNil)))))) (cRet (cC (.bl false))) cNext)) cNext)))))))))))))))
def g_law : DS → Fl :=
  (cSeq (cAsg 0 (cSl (cVar 0) cNone (cSome (cC (.int 63)))))
  (cSeq (cFor (cItems (cBin oAdd (cVar 0) (cL (cCons (cC (.int 0)) (cCons (cC (.int 1)) (cCons (cC (.int 2)) cNil)))))) (bName 1) g_law_l1)
  (cRet (cC (.bl true)))))
def F_law : List D → Res D := defF 13 g_law
end My
namespace My
open PySem L2 DV

/-! ### draws -/
def digs : Int → List Int → List Int
  | _, [] => []
  | m, s :: ss => m % s :: digs (m / s) ss
theorem digs_length : ∀ (ss : List Int) (m : Int), (digs m ss).length = ss.length
  | [], _ => rfl
  | s :: ss, m => by simp [digs, digs_length ss]
theorem draws_loop (L : D) (o2 o3 o4 : Option O) : ∀ (ss : List Int) (m : Int) (ds : List D) (o : Option O), (∀ s ∈ ss, 0 < s ∧ s < 2 ^ 31) → ds.length + ss.length < 1000 →
    ∃ m' o', forF (bName 6) (cSeq (cApp 5 (cBin oMod (cVar 0) (cVar 6))) (cAsg 0 (cBin oFdiv (cVar 0) (cVar 6)))) (ss.map D.int) [some (.im (.int m)), some (.im L), o2, o3, o4, some (.ow ds), o] =
      .nx [some (.im (.int m')), some (.im L), o2, o3, o4, some (.ow (ds ++ (digs m ss).map D.int)), o']
  | [], m, ds, o, _, _ => ⟨m, o, by simp [forF, digs]⟩
  | s :: ss, m, ds, o, hs, hl => by
    obtain ⟨h1, h2⟩ := hs s (by simp)
    have hl2 : ds.length + (ss.length + 1) < 1000 := by simpa using hl
    have hz : ds.length < sizeLine := Nat.lt_trans (by omega : ds.length < 1000) (by decide)
    obtain ⟨m', o', ih⟩ := draws_loop L o2 o3 o4 ss (m / s) (ds ++ [D.int (m % s)]) (some (.im (.int s))) (fun x hx => hs x (by simp [hx])) (by simp; omega)
    refine ⟨m', o', ?_⟩
    have hs9 : s.natAbs < 2 ^ 9000 := Nat.lt_of_lt_of_le (show s.natAbs < 2 ^ 31 by omega) (Nat.pow_le_pow_right (by decide) (by decide))
    rw [List.map_cons, forF]
    simp only [bName, List.set_cons_succ, List.set_cons_zero]
    have e1 : oMod (.int m) (.int s) = .ok (.int (m % s)) := oMod_pos h1
    have e2 : oFdiv (.int m) (.int s) = .ok (.int (m / s)) := oFdiv_pos h1 hs9
    have eb : cSeq (cApp 5 (cBin oMod (cVar 0) (cVar 6))) (cAsg 0 (cBin oFdiv (cVar 0) (cVar 6))) [some (.im (.int m)), some (.im L), o2, o3, o4, some (.ow ds), some (.im (.int s))] =
        .nx [some (.im (.int (m / s))), some (.im L), o2, o3, o4, some (.ow (ds ++ [D.int (m % s)])), some (.im (.int s))] := by
      simp [cSeq, cApp, cBin, cVar, cAsg, e1, e2, hz]
    rw [eb]
    dsimp only
    rw [ih]
    simp [digs]
theorem draws_ok (c : Int) (ss : List Int) (hs : ∀ s ∈ ss, 0 < s ∧ s < 2 ^ 31) (hl : ss.length < 1000) : ∃ m, F__law_draws [.int c, .lst (ss.map D.int)] = .ok (.lst ((digs m ss).map D.int)) := by
  have fin : ∀ (m : Int) (o2 o3 o4 : Option O), flR (((cSeq (cOwn 5 cNil) (cSeq (cFor (cItems (cVar 1)) (bName 6) (cSeq (cApp 5 (cBin oMod (cVar 0) (cVar 6))) (cAsg 0 (cBin oFdiv (cVar 0) (cVar 6))))) (cFz 5 (cRet (cVar 5)))))) [some (.im (.int m)), some (.im (.lst (ss.map D.int))), o2, o3, o4, none, none]) = .ok (.lst ((digs m ss).map D.int)) := by
    intro m o2 o3 o4
    obtain ⟨m', o', h⟩ := draws_loop (.lst (ss.map D.int)) o2 o3 o4 ss m [] none hs (by simpa using hl)
    simp only [List.nil_append] at h
    simp [cSeq, cOwn, cNil, cFor, cItems, cVar, itemsD, h, cFz, fz, cRet]
  unfold F__law_draws defF g__law_draws
  have est : st0 5 [D.int c, .lst (ss.map D.int)] = [some (.im (.int c)), some (.im (.lst (ss.map D.int))), none, none, none, none, none] := rfl
  rw [est, cSeq]
  have p1 : oPow (.int 10) (.int 18) = .ok (.int (10 ^ 18)) := by rfl
  have htest : (cTest (cBin oLt (cCall gAbs (cCons (cVar 0) cNil)) (cBin oPow (cC (.int 10)) (cC (.int 18))))) [some (.im (.int c)), some (.im (.lst (ss.map D.int))), none, none, none, none, none] = .ok (decide ((if c < 0 then -c else c) < 10 ^ 18)) := by
    simp [cTest, cBin, cCall, gAbs, cCons, cVar, cNil, cC, p1, oI, asB]
  by_cases hc : (if c < 0 then -c else c) < 10 ^ 18
  · have hc1 : c.natAbs < 2 ^ 60 := by
      have : (10 : Int) ^ 18 < 2 ^ 60 := by decide
      split at hc <;> omega
    have m1 : oMul2 (.int c) (.int 48271) = .ok (.int (c * 48271)) := oMul_int (mul_ok (a := 60) (b := 16) hc1 (by decide) (by decide) (by decide) (by decide))
    have hm0 : 0 ≤ (c * 48271 + 11) % 2147483647 ∧ (c * 48271 + 11) % 2147483647 < 2147483647 := by omega
    generalize hmx : (c * 48271 + 11) % 2147483647 = mx at hm0
    have m2 : oMul2 (.int mx) (.int mx) = .ok (.int (mx * mx)) := oMul_int (mul_ok (a := 31) (b := 31) (by omega) (by omega) (by decide) (by decide) (by decide))
    have m3 : oMul2 (.int 40692) (.int mx) = .ok (.int (40692 * mx)) := oMul_int (mul_ok (a := 31) (b := 31) (by decide) (by omega) (by decide) (by decide) (by decide))
    have ht0 : 0 ≤ (mx * mx + 40692 * mx + c) % 2147483399 ∧ (mx * mx + 40692 * mx + c) % 2147483399 < 2147483399 := ⟨Int.emod_nonneg _ (by decide), Int.emod_lt_of_pos _ (by decide)⟩
    generalize htw : (mx * mx + 40692 * mx + c) % 2147483399 = tw at ht0
    have m4 : oMul2 (.int tw) (.int 16807) = .ok (.int (tw * 16807)) := oMul_int (mul_ok (a := 31) (b := 31) (by omega) (by decide) (by decide) (by decide) (by decide))
    have hx0 : 0 ≤ (tw * 16807 + mx) % 1000000007 ∧ (tw * 16807 + mx) % 1000000007 < 1000000007 := by omega
    generalize hsx : (tw * 16807 + mx) % 1000000007 = sx at hx0
    have m5 : oMul2 (.int 1000000007) (.int mx) = .ok (.int (1000000007 * mx)) := oMul_int (mul_ok (a := 31) (b := 31) (by decide) (by omega) (by decide) (by decide) (by decide))
    have m6 : oMul2 (.int 2147483399) (.int (sx + 1000000007 * mx)) = .ok (.int (2147483399 * (sx + 1000000007 * mx))) := oMul_int (mul_ok (a := 32) (b := 64) (by decide) (by omega) (by decide) (by decide) (by decide))
    have d1 : oMod (.int (c * 48271 + 11)) (.int 2147483647) = .ok (.int mx) := by rw [oMod_pos (by decide), hmx]
    have d2 : oMod (.int (mx * mx + 40692 * mx + c)) (.int 2147483399) = .ok (.int tw) := by rw [oMod_pos (by decide), htw]
    have d3 : oMod (.int (tw * 16807 + mx)) (.int 1000000007) = .ok (.int sx) := by rw [oMod_pos (by decide), hsx]
    refine ⟨tw + 2147483399 * (sx + 1000000007 * mx), ?_⟩
    have hif : cIf (cTest (cBin oLt (cCall gAbs (cCons (cVar 0) cNil)) (cBin oPow (cC (.int 10)) (cC (.int 18))))) (cSeq (cAsg 2 (cBin oMod (cBin oAdd (cBin oMul2 (cVar 0) (cC (.int 48271))) (cC (.int 11))) (cC (.int 2147483647))))
        (cSeq (cAsg 3 (cBin oMod (cBin oAdd (cBin oAdd (cBin oMul2 (cVar 2) (cVar 2)) (cBin oMul2 (cC (.int 40692)) (cVar 2))) (cVar 0)) (cC (.int 2147483399))))
        (cSeq (cAsg 4 (cBin oMod (cBin oAdd (cBin oMul2 (cVar 3) (cC (.int 16807))) (cVar 2)) (cC (.int 1000000007))))
        (cAsg 0 (cBin oAdd (cVar 3) (cBin oMul2 (cC (.int 2147483399)) (cBin oAdd (cVar 4) (cBin oMul2 (cC (.int 1000000007)) (cVar 2))))))))) (cAsg 0 (cBin oSub (cCall gAbs (cCons (cVar 0) cNil)) (cBin oPow (cC (.int 10)) (cC (.int 18)))))
        [some (.im (.int c)), some (.im (.lst (ss.map D.int))), none, none, none, none, none] = .nx [some (.im (.int (tw + 2147483399 * (sx + 1000000007 * mx)))), some (.im (.lst (ss.map D.int))), some (.im (.int mx)), some (.im (.int tw)), some (.im (.int sx)), none, none] := by
      rw [cIf, htest, stE_ok, if_pos (decide_eq_true hc)]
      simp [cBin, cVar, cC, cSeq, cAsg, oAdd_int, m1, m2, m3, m4, m5, m6, d1, d2, d3]
    rw [hif]
    exact fin _ _ _ _
  · refine ⟨(if c < 0 then -c else c) - 10 ^ 18, ?_⟩
    have hif : cIf (cTest (cBin oLt (cCall gAbs (cCons (cVar 0) cNil)) (cBin oPow (cC (.int 10)) (cC (.int 18))))) (cSeq (cAsg 2 (cBin oMod (cBin oAdd (cBin oMul2 (cVar 0) (cC (.int 48271))) (cC (.int 11))) (cC (.int 2147483647))))
        (cSeq (cAsg 3 (cBin oMod (cBin oAdd (cBin oAdd (cBin oMul2 (cVar 2) (cVar 2)) (cBin oMul2 (cC (.int 40692)) (cVar 2))) (cVar 0)) (cC (.int 2147483399))))
        (cSeq (cAsg 4 (cBin oMod (cBin oAdd (cBin oMul2 (cVar 3) (cC (.int 16807))) (cVar 2)) (cC (.int 1000000007))))
        (cAsg 0 (cBin oAdd (cVar 3) (cBin oMul2 (cC (.int 2147483399)) (cBin oAdd (cVar 4) (cBin oMul2 (cC (.int 1000000007)) (cVar 2))))))))) (cAsg 0 (cBin oSub (cCall gAbs (cCons (cVar 0) cNil)) (cBin oPow (cC (.int 10)) (cC (.int 18)))))
        [some (.im (.int c)), some (.im (.lst (ss.map D.int))), none, none, none, none, none] = .nx [some (.im (.int ((if c < 0 then -c else c) - 10 ^ 18))), some (.im (.lst (ss.map D.int))), none, none, none, none, none] := by
      rw [cIf, htest, stE_ok, if_neg (by simpa using hc)]
      simp [cBin, cVar, cC, cCall, gAbs, cCons, cNil, cAsg, p1, oSub_int]
    rw [hif]
    exact fin _ _ _ _

/-! ### same -/
def scalP : V → Prop
  | .non => True
  | .bl _ => True
  | .int _ => True
  | .str z => SeqAt.shaped (.str z) = true
  | _ => False
def plain : Nat → D → Prop
  | 0, d => match d with
    | .v x => scalP x
    | _ => False
  | n + 1, d => match d with
    | .v x => scalP x
    | .lst xs => xs.length ≤ sizeLine ∧ ∀ x ∈ xs, plain n x
    | .tup xs => xs.length ≤ sizeLine ∧ ∀ x ∈ xs, plain n x
    | _ => False
theorem plain_v {n : Nat} {x : V} (h : plain n (.v x)) : scalP x := by
  cases n <;> exact h
theorem oEq_str {z : Str} (h : SeqAt.shaped (.str z) = true) : oEq (.str z) (.str z) = .ok (.bl true) := by
  show (if SeqAt.shaped (.str z) = true ∧ SeqAt.shaped (.str z) = true then Res.ok (D.bl (if false = true then _ else z == z)) else .no) = _
  rw [if_pos ⟨h, h⟩]
  simp
theorem all_true : ∀ n : Nat, gAll [.lst ((List.range n).map fun _ => D.bl true)] = .ok (.bl true) := fun n => by
  have e : ((List.range n).map fun _ => D.bl true) = ((List.range n).map fun _ => true).map D.bl := by simp
  unfold gAll gBls
  dsimp only
  rw [e, blsD_map]
  dsimp only
  congr 2
  simp
theorem same_items {n : Nat} {xs : List D} {δ0 δ1 : O} (ih : ∀ x ∈ xs, F__law_same (n + 1) [x, x] = .ok (.bl true)) (hx : ∀ (i : Nat) (d : D), xs[i]? = some d → (cBin oIx (cVar 0) (cVar 2)) [some δ0, some δ1, some (.im (.int (0 + (i : Int))))] = .ok d ∧ (cBin oIx (cVar 1) (cVar 2)) [some δ0, some δ1, some (.im (.int (0 + (i : Int))))] = .ok d) :
    lcF (bName 2) cYes (cFn0 (F__law_same (n + 1)) (cCons (cBin oIx (cVar 0) (cVar 2)) (cCons (cBin oIx (cVar 1) (cVar 2)) cNil))) (rangeD 0 xs.length) [some δ0, some δ1, none] = .ok ((List.range xs.length).map fun _ => D.bl true) := by
  unfold rangeD
  refine lcF_map _ _ _ fun i hi => ?_
  have hi' : i < xs.length := List.mem_range.mp hi
  obtain ⟨h1, h2⟩ := hx i xs[i] (by simp [hi'])
  refine ⟨_, rfl, rfl, ?_⟩
  show cFn0 _ _ [some δ0, some δ1, some (.im (.int (0 + (i : Int))))] = _
  simp only [cFn0, cCons, h1, h2, cNil, Res.bind_ok]
  exact ih _ (List.getElem_mem hi')
theorem ix_at {xs : List D} {i : Nat} {d : D} (h : xs[i]? = some d) : atI xs (0 + (i : Int)) = some d := by
  rw [Int.zero_add]
  exact atI_nat h
theorem same_scal (n : Nat) : ∀ (x : V), scalP x → F__law_same (n + 1) [.v x, .v x] = .ok (.bl true)
  | .non, _ => by
    simp [F__law_same, defF, g__law_same, st0, cSeq, cIf, cTest, cBin, oIsN, cVar, cC, asB, isNon, cRet]
  | .bl b, _ => by
    simp [F__law_same, defF, g__law_same, st0, cSeq, cIf, cTest, cBin, oIsN, cVar, cC, asB, isNon, cRet, cCall, gIsi, isiD, tyD, cCons, cNil, cNext, cAndV, oEq_bl]
  | .int i, _ => by
    have e := oEq_int i i
    simp at e
    simp [F__law_same, defF, g__law_same, st0, cSeq, cIf, cTest, cBin, oIsN, cVar, cC, asB, isNon, cRet, cCall, gIsi, isiD, tyD, cCons, cNil, cNext, cAndV, oEq_bl, e]
  | .str z, h => by
    have e := oEq_str h
    simp [F__law_same, defF, g__law_same, st0, cSeq, cIf, cTest, cBin, oIsN, cVar, cC, asB, isNon, cRet, cCall, gIsi, isiD, tyD, cCons, cNil, cNext, cAndV, oEq_bl, e]
theorem same_lst {n : Nat} {xs : List D} (hz : xs.length ≤ sizeLine) (ih : ∀ x ∈ xs, F__law_same (n + 1) [x, x] = .ok (.bl true)) : F__law_same (n + 1 + 1) [.lst xs, .lst xs] = .ok (.bl true) := by
  have e := oEq_int (xs.length : Int) xs.length
  simp at e
  have hl := same_items (n := n) (δ0 := .im (.lst xs)) (δ1 := .im (.lst xs)) ih fun i d hi => by
    simp [cBin, cVar, oIx, ix_at hi, atI_nat hi]
  have hr := gRange1_nat hz
  have hz2 : (rangeD 0 xs.length).length ≤ sizeLine := by rw [rangeD_len]; exact hz
  have ha := all_true xs.length
  rw [F__law_same]
  simp [defF, g__law_same, st0, cSeq, cIf, cTest, cBin, oIsN, cVar, cC, asB, isNon, cRet, cCall, gIsi, isiD, tyD, cCons, cNil, cNext, cAndV, cOrT, oNe_bl, oEq_bl, gLen, e, cL, cLc, cIt, hr, hz2, wipeD, hl, ha]
theorem same_tup {n : Nat} {xs : List D} (hz : xs.length ≤ sizeLine) (ih : ∀ x ∈ xs, F__law_same (n + 1) [x, x] = .ok (.bl true)) : F__law_same (n + 1 + 1) [.tup xs, .tup xs] = .ok (.bl true) := by
  have e := oEq_int (xs.length : Int) xs.length
  simp at e
  have hl := same_items (n := n) (δ0 := .im (.tup xs)) (δ1 := .im (.tup xs)) ih fun i d hi => by
    simp [cBin, cVar, oIx, ix_at hi, atI_nat hi]
  have hr := gRange1_nat hz
  have hz2 : (rangeD 0 xs.length).length ≤ sizeLine := by rw [rangeD_len]; exact hz
  have ha := all_true xs.length
  rw [F__law_same]
  simp [defF, g__law_same, st0, cSeq, cIf, cTest, cBin, oIsN, cVar, cC, asB, isNon, cRet, cCall, gIsi, isiD, tyD, cCons, cNil, cNext, cAndV, cOrT, oNe_bl, oEq_bl, gLen, e, cL, cLc, cIt, hr, hz2, wipeD, hl, ha]
theorem same_refl (n : Nat) : ∀ (d : D), plain n d → F__law_same (n + 1) [d, d] = .ok (.bl true) := by
  induction n with
  | zero =>
    intro d h
    cases d with
    | v x => exact same_scal 0 x h
    | lst _ => exact h.elim
    | tup _ => exact h.elim
    | dct _ _ => exact h.elim
    | ins _ _ _ => exact h.elim
  | succ n ih =>
    intro d h
    cases d with
    | v x => exact same_scal (n + 1) x h
    | lst xs => exact same_lst h.1 fun x hx => ih x (h.2 x hx)
    | tup xs => exact same_tup h.1 fun x hx => ih x (h.2 x hx)
    | dct _ _ => exact h.elim
    | ins _ _ _ => exact h.elim
end My
namespace My
open PySem L2 DV

abbrev dI (ns : List Int) : List D := ns.map D.int
abbrev tupI (ns : List Int) : D := .tup (dI ns)
def prodL (ss : List Int) : Int := ss.foldl (· * ·) 1
structure Good (ss : List Int) : Prop where
  ne : 1 ≤ ss.length
  le : ss.length ≤ 6
  sz : ∀ s ∈ ss, 2 ≤ s ∧ s ≤ 4
  pr : prodL ss ≤ 300
theorem pow4 (n : Nat) : (0 : Int) < 4 ^ n := Int.pow_pos (by decide)
/-! multiplied -/
theorem mul_loop (S : Option O) : ∀ (ss : List Int) (a : Int) (o : Option O), (∀ s ∈ ss, 2 ≤ s ∧ s ≤ 4) → 0 < a → a * 4 ^ ss.length < 2 ^ 60 →
    ∃ o', forF (bName 2) (cAug 1 oMulI (cVar 2)) (dI ss) [S, some (.im (.int a)), o] = .nx [S, some (.im (.int (ss.foldl (· * ·) a))), o']
  | [], a, o, _, _, _ => ⟨o, rfl⟩
  | s :: ss, a, o, hs, ha, hb => by
    obtain ⟨h1, h2⟩ := hs s (by simp)
    have hp := pow4 ss.length
    have e : a * 4 ^ (s :: ss).length = a * 4 * 4 ^ ss.length := by rw [List.length_cons, Int.pow_succ, Int.mul_comm (4 ^ ss.length) 4, Int.mul_assoc]
    rw [e] at hb
    have ha4 : a * s ≤ a * 4 := Int.mul_le_mul_of_nonneg_left h2 (by omega)
    have has : 0 < a * s := Int.mul_pos ha (by omega)
    have hb2 : a * s * 4 ^ ss.length < 2 ^ 60 := Int.lt_of_le_of_lt (Int.mul_le_mul_of_nonneg_right ha4 (by omega)) hb
    have hab : a < 2 ^ 60 := by
      have h3 : a ≤ a * 4 * 4 ^ ss.length := by
        have : a * 4 * 1 ≤ a * 4 * 4 ^ ss.length := Int.mul_le_mul_of_nonneg_left hp (by omega)
        omega
      omega
    obtain ⟨o', ih⟩ := mul_loop S ss (a * s) (some (.im (.int s))) (fun x hx => hs x (by simp [hx])) has hb2
    refine ⟨o', ?_⟩
    have m1 : oMulI (.int a) (.int s) = .ok (.int (a * s)) := oMulI_int (mul_ok (a := 60) (b := 60) (by omega) (by omega) (by decide) (by decide) (by decide))
    rw [dI, List.map_cons, forF]
    simp only [bName, List.set_cons_succ, List.set_cons_zero]
    have eb : cAug 1 oMulI (cVar 2) [S, some (.im (.int a)), some (.im (.int s))] = .nx [S, some (.im (.int (a * s))), some (.im (.int s))] := by
      simp [cAug, cVar, m1]
    rw [eb]
    exact ih
theorem mult_ok {ss : List Int} (hs : ∀ s ∈ ss, 2 ≤ s ∧ s ≤ 4) (hl : ss.length ≤ 6) : F_multiplied [tupI ss] = .ok (.int (prodL ss)) := by
  have hb : (1 : Int) * 4 ^ ss.length < 2 ^ 60 := by
    have h1 : (4 : Int) ^ ss.length ≤ 4096 := (by decide : ∀ n : Fin 7, (4 : Int) ^ (n : Nat) ≤ 4096) ⟨ss.length, by omega⟩
    omega
  obtain ⟨o', h⟩ := mul_loop (some (.im (tupI ss))) ss 1 none hs (by decide) hb
  simp [F_multiplied, defF, g_multiplied, st0, cSeq, cAsg, cC, cFor, cItems, cVar, itemsD, h, cRet, prodL]
theorem all_ok {bs : List Bool} (h : ∀ b ∈ bs, b = true) : gAll [.lst (bs.map D.bl)] = .ok (.bl true) := by
  unfold gAll gBls
  dsimp only
  rw [blsD_map]
  dsimp only
  congr 2
  simpa using h
theorem all_ok' {α : Type} {xs : List α} : gAll [.lst (xs.map fun _ => D.bl true)] = .ok (.bl true) := by
  have e : (xs.map fun _ => D.bl true) = (xs.map fun _ => true).map D.bl := by simp
  rw [e]
  exact all_ok (by simp)
theorem look_ok {ss : List Int} (G : Good ss) : F_look_sizes [tupI ss] = .ok .non := by
  have hm := mult_ok G.sz G.le
  have hz : (dI ss).length ≤ sizeLine := by
    rw [List.length_map, sizeLine_eq]
    have := G.le
    omega
  have hlc : lcF (bName 1) cYes (cChain oLe oLe (cC (.int 2)) (cVar 1) (cC (.int 4))) (dI ss) [some (.im (tupI ss)), none] = .ok (ss.map fun _ => D.bl true) := by
    refine lcF_map _ _ _ fun s hs => ⟨_, rfl, rfl, ?_⟩
    obtain ⟨h1, h2⟩ := G.sz s hs
    simp [cChain, cC, cVar, oI, h1, h2]
  have ha := all_ok' (xs := ss)
  have l1 : (1 : Int) ≤ (ss.length : Int) := by have := G.ne; omega
  have l2 : (ss.length : Int) ≤ 6 := by have := G.le; omega
  have hp : ¬ (300 < prodL ss) := by have := G.pr; omega
  have hlen : ss.length ≤ sizeLine := by simpa using hz
  simp [F_look_sizes, defF, g_look_sizes, st0, cSeq, cIf, cOrT, cNotT, cTest, cChain, cC, cCall, cCons, cVar, cNil, gLen, oI, l1, l2, asB, cL, cLc, cItems, itemsD, hlen, wipeD, hlc, ha, cBin, cFn0, hm, hp, cNext]
theorem many_ok {ss : List Int} (G : Good ss) : F_many_rows [tupI ss] = .ok (.int (prodL ss)) := by
  simp [F_many_rows, defF, g_many_rows, st0, cSeq, cDrop, cFn0, cCons, cVar, cNil, look_ok G, cRet, mult_ok G.sz G.le]

/-! rows -/
def rowsL : List Int → List (List Int) → List (List Int)
  | [], acc => acc
  | s :: ss, acc => rowsL ss (acc.flatMap fun r => (List.range s.toNat).map fun (v : Nat) => r ++ [(v : Int)])
abbrev dR (rs : List (List Int)) : List D := rs.map tupI
def stepR (s : Int) (r : List Int) : List (List Int) := (List.range s.toNat).map fun (v : Nat) => r ++ [(v : Int)]
theorem rows_inner (S F : Option O) (s : Int) (hs : 2 ≤ s ∧ s ≤ 4) (o5 : Option O) : ∀ (rs acc : List (List Int)) (o : Option O), (∀ r ∈ rs, r.length ≤ 6) → acc.length + 4 * rs.length ≤ 100000 →
    ∃ o', forF (bName 4) (cAsg 3 (cBin oAdd (cVar 3) (cL (cLc [5] (cIt gRange1 (cCons (cVar 2) cNil)) (bName 5) cYes (cBin oAdd (cVar 4) (cTup (cCons (cVar 5) cNil))))))) (dR rs) [S, F, some (.im (.int s)), some (.im (.lst (dR acc))), o, o5] =
      .nx [S, F, some (.im (.int s)), some (.im (.lst (dR (acc ++ rs.flatMap (stepR s))))), o', o5]
  | [], acc, o, _, _ => ⟨o, by simp [forF]⟩
  | r :: rs, acc, o, hr, hb => by
    have hb' : acc.length + 4 * (rs.length + 1) ≤ 100000 := by simpa using hb
    have hn : (stepR s r).length ≤ 4 := by simp [stepR]; omega
    obtain ⟨o', ih⟩ := rows_inner S F s hs o5 rs (acc ++ stepR s r) (some (.im (tupI r))) (fun x hx => hr x (by simp [hx])) (by simp; omega)
    refine ⟨o', ?_⟩
    have hrl := hr r (by simp)
    have h1 : gRange1 [D.int s] = .ok (rangeD 0 s.toNat) := by
      have := gRange1_nat (n := s.toNat) (by rw [sizeLine_eq]; omega)
      rw [show ((s.toNat : Nat) : Int) = s by omega] at this
      exact this
    have hlc : lcF (bName 5) cYes (cBin oAdd (cVar 4) (cTup (cCons (cVar 5) cNil))) (rangeD 0 s.toNat) [S, F, some (.im (.int s)), some (.im (.lst (dR acc))), some (.im (tupI r)), none] = .ok (dR (stepR s r)) := by
      unfold rangeD dR stepR
      rw [List.map_map]
      refine lcF_map _ _ _ fun v hv => ⟨_, rfl, rfl, ?_⟩
      have hz : r.length + 1 ≤ sizeLine := by rw [sizeLine_eq]; omega
      simp [cBin, cVar, cTup, cCons, cNil, oAdd, hz]
    have hz2 : s.toNat ≤ sizeLine := by rw [sizeLine_eq]; omega
    have hz3 : acc.length + (stepR s r).length ≤ sizeLine := by rw [sizeLine_eq]; omega
    rw [dR, List.map_cons, forF]
    simp only [bName, List.set_cons_succ, List.set_cons_zero]
    have eb : cAsg 3 (cBin oAdd (cVar 3) (cL (cLc [5] (cIt gRange1 (cCons (cVar 2) cNil)) (bName 5) cYes (cBin oAdd (cVar 4) (cTup (cCons (cVar 5) cNil)))))) [S, F, some (.im (.int s)), some (.im (.lst (dR acc))), some (.im (tupI r)), o5] =
        .nx [S, F, some (.im (.int s)), some (.im (.lst (dR (acc ++ stepR s r)))), some (.im (tupI r)), o5] := by
      simp [cAsg, cBin, cVar, cL, cLc, cIt, cCons, cNil, h1, rangeD_len, hz2, wipeD, hlc, oAdd, hz3]
    rw [eb]
    dsimp only
    rw [ih]
    simp [List.flatMap_cons]
theorem len_flat (s : Int) (hs : 2 ≤ s ∧ s ≤ 4) (rs : List (List Int)) : ((rs.flatMap (stepR s)).length : Int) = rs.length * s := by
  induction rs with
  | nil => simp
  | cons r rs ih =>
    have e : ((stepR s r).length : Int) = s := by simp [stepR]; omega
    rw [List.flatMap_cons, List.length_append, List.length_cons, Int.natCast_add, ih, e, Int.natCast_add, Int.add_mul]
    omega
theorem rows_outer (S : Option O) (o5 : Option O) : ∀ (ss : List Int) (acc : List (List Int)) (o2 o3 o4 : Option O) (k : Nat), (∀ s ∈ ss, 2 ≤ s ∧ s ≤ 4) → (∀ r ∈ acc, r.length = k) → k + ss.length ≤ 6 → acc.length * 4 ^ ss.length ≤ 5000 →
    ∃ o2' o3' o4', forF (bName 2) (cSeq (cAsg 3 (cL cNil)) (cSeq (cFor (cItems (cVar 1)) (bName 4) (cAsg 3 (cBin oAdd (cVar 3) (cL (cLc [5] (cIt gRange1 (cCons (cVar 2) cNil)) (bName 5) cYes (cBin oAdd (cVar 4) (cTup (cCons (cVar 5) cNil))))))))
      (cAsg 1 (cVar 3)))) (dI ss) [S, some (.im (.lst (dR acc))), o2, o3, o4, o5] = .nx [S, some (.im (.lst (dR (rowsL ss acc)))), o2', o3', o4', o5]
  | [], acc, o2, o3, o4, k, _, _, _, _ => ⟨o2, o3, o4, rfl⟩
  | s :: ss, acc, o2, o3, o4, k, hs, hk, hl, hb => by
    have h2 := hs s (by simp)
    have hl' : k + (ss.length + 1) ≤ 6 := by simpa using hl
    have hb' : acc.length * (4 ^ ss.length * 4) ≤ 5000 := by simpa [Nat.pow_succ] using hb
    have hp : 0 < 4 ^ ss.length := Nat.pow_pos (by decide)
    have hal : acc.length * 4 ≤ 5000 := by
      have : acc.length * 4 ≤ acc.length * (4 ^ ss.length * 4) := Nat.mul_le_mul_left _ (by omega)
      omega
    have hlen : (acc.flatMap (stepR s)).length ≤ acc.length * 4 := by
      have h3 := len_flat s h2 acc
      have h4 : (acc.length : Int) * s ≤ acc.length * 4 := Int.mul_le_mul_of_nonneg_left h2.2 (by omega)
      omega
    obtain ⟨o4', hin⟩ := rows_inner S (some (.im (.lst (dR acc)))) s h2 o5 acc [] o4 (fun r hr => by have := hk r hr; omega) (by simp; omega)
    obtain ⟨p2, p3, p4, ih⟩ := rows_outer S o5 ss (acc.flatMap (stepR s)) (some (.im (.int s))) (some (.im (.lst (dR (acc.flatMap (stepR s)))))) o4' (k + 1) (fun x hx => hs x (by simp [hx]))
      (fun r hr => by
        obtain ⟨r', h5, h6⟩ := List.mem_flatMap.mp hr
        obtain ⟨v, _, rfl⟩ := List.mem_map.mp h6
        simp [hk r' h5]) (by omega) (by
        have : (acc.flatMap (stepR s)).length * 4 ^ ss.length ≤ acc.length * 4 * 4 ^ ss.length := Nat.mul_le_mul_right _ hlen
        have e : acc.length * 4 * 4 ^ ss.length = acc.length * (4 ^ ss.length * 4) := by rw [Nat.mul_assoc, Nat.mul_comm 4]
        omega)
    refine ⟨p2, p3, p4, ?_⟩
    rw [dI, List.map_cons, forF]
    simp only [bName, List.set_cons_succ, List.set_cons_zero]
    simp only [List.nil_append] at hin
    have eb : cSeq (cAsg 3 (cL cNil)) (cSeq (cFor (cItems (cVar 1)) (bName 4) (cAsg 3 (cBin oAdd (cVar 3) (cL (cLc [5] (cIt gRange1 (cCons (cVar 2) cNil)) (bName 5) cYes (cBin oAdd (cVar 4) (cTup (cCons (cVar 5) cNil)))))))) (cAsg 1 (cVar 3))) [S, some (.im (.lst (dR acc))), some (.im (.int s)), o3, o4, o5] =
        .nx [S, some (.im (.lst (dR (acc.flatMap (stepR s))))), some (.im (.int s)), some (.im (.lst (dR (acc.flatMap (stepR s))))), o4', o5] := by
      have hin' : forF (bName 4) (cAsg 3 (cBin oAdd (cVar 3) (cL (cLc [5] (cIt gRange1 (cCons (cVar 2) cNil)) (bName 5) cYes (cBin oAdd (cVar 4) (cTup (cCons (cVar 5) cNil))))))) (dR acc) [S, some (.im (.lst (dR acc))), some (.im (.int s)), some (.im (.lst [])), o4, o5] = _ := hin
      simp only [cSeq, cAsg, cL, cNil, Res.bind_ok, stE_ok, Fl.then_nx, List.set_cons_succ, List.set_cons_zero, cFor, cItems, cVar, List.getElem?_cons_succ, List.getElem?_cons_zero, itemsD]
      rw [hin']
      rfl
    rw [eb]
    exact ih
theorem rows_ok {ss : List Int} (G : Good ss) : F__law_rows [tupI ss] = .ok (.lst (dR (rowsL ss [[]]))) := by
  obtain ⟨o2, o3, o4, h⟩ := rows_outer (some (.im (tupI ss))) none ss [[]] none none none 0 G.sz (by simp) (by have := G.le; omega) (by
    have h1 : 4 ^ ss.length ≤ 4096 := (by decide : ∀ n : Fin 7, 4 ^ (n : Nat) ≤ 4096) ⟨ss.length, by have := G.le; omega⟩
    simp; omega)
  have h' : forF (bName 2) (cSeq (cAsg 3 (cL cNil)) (cSeq (cFor (cItems (cVar 1)) (bName 4) (cAsg 3 (cBin oAdd (cVar 3) (cL (cLc [5] (cIt gRange1 (cCons (cVar 2) cNil)) (bName 5) cYes (cBin oAdd (cVar 4) (cTup (cCons (cVar 5) cNil))))))))
      (cAsg 1 (cVar 3)))) (dI ss) [some (.im (tupI ss)), some (.im (.lst [D.tup []])), none, none, none, none] = _ := h
  unfold F__law_rows defF g__law_rows
  show flR (cSeq _ _ [some (.im (tupI ss)), none, none, none, none, none]) = _
  rw [cSeq, show (cAsg 1 (cL (cCons (cTup cNil) cNil))) [some (.im (tupI ss)), none, none, none, none, none] = .nx [some (.im (tupI ss)), some (.im (.lst [D.tup []])), none, none, none, none] from rfl, Fl.then_nx, cSeq, cFor,
    show (cItems (cVar 0)) [some (.im (tupI ss)), some (.im (.lst [D.tup []])), none, none, none, none] = .ok (dI ss) from rfl, stE_ok, h']
  rfl

/-! numbers and rows -/
/-- the row of a number: its last value first -/
def digR : List Int → Int → List Int
  | [], _ => []
  | s :: rs, n => n % s :: digR rs (n / s)
/-- rising -/
def rowN (ss : List Int) (n : Int) : List Int := (digR ss.reverse n).reverse
theorem rowN_snoc (ss : List Int) (s n : Int) : rowN (ss ++ [s]) n = rowN ss (n / s) ++ [n % s] := by
  unfold rowN
  rw [List.reverse_append]
  simp [digR]
theorem rowsL_snoc : ∀ (ss : List Int) (s : Int) (acc : List (List Int)), rowsL (ss ++ [s]) acc = (rowsL ss acc).flatMap (stepR s)
  | [], s, acc => rfl
  | t :: ss, s, acc => by
    show rowsL (ss ++ [s]) _ = (rowsL ss _).flatMap (stepR s)
    exact rowsL_snoc ss s _
theorem prodL_snoc (ss : List Int) (s : Int) : prodL (ss ++ [s]) = prodL ss * s := by
  unfold prodL
  rw [List.foldl_append]
  rfl
theorem flat_get (s : Int) (hs : 2 ≤ s ∧ s ≤ 4) : ∀ (rs : List (List Int)) (n : Nat), (n : Int) < rs.length * s → (rs.flatMap (stepR s))[n]? = (rs[((n : Int) / s).toNat]?).map fun r => r ++ [(n : Int) % s]
  | [], n, h => by simp at h; omega
  | r :: rs, n, h => by
    have hl : (stepR s r).length = s.toNat := by simp [stepR]
    have h' : (n : Int) < ((rs.length : Int) + 1) * s := by simpa using h
    rw [List.flatMap_cons]
    by_cases hn : n < s.toNat
    · rw [List.getElem?_append_left (by rw [hl]; exact hn)]
      have e1 : (n : Int) / s = 0 := Int.ediv_eq_zero_of_lt (by omega) (by omega)
      have e2 : (n : Int) % s = n := Int.emod_eq_of_lt (by omega) (by omega)
      rw [e1, e2]
      unfold stepR
      rw [List.getElem?_map]
      simp [hn]
    · rw [List.getElem?_append_right (by rw [hl]; omega), hl]
      have e0 : ((n - s.toNat : Nat) : Int) = n - s := by omega
      have ih := flat_get s hs rs (n - s.toNat) (by rw [e0]; rw [Int.add_mul] at h'; omega)
      rw [ih, e0]
      have e1 : ((n : Int) - s) / s = (n : Int) / s - 1 := by
        have := Int.sub_mul_ediv_right (n : Int) 1 (show s ≠ 0 by omega)
        rw [Int.one_mul] at this
        exact this
      have e2 : ((n : Int) - s) % s = (n : Int) % s := by
        have := Int.sub_emod_right (n : Int) s
        exact this
      have hq : 1 ≤ (n : Int) / s := by
        rw [Int.le_ediv_iff_mul_le (by omega)]
        omega
      rw [e1, e2]
      have e3 : ((n : Int) / s).toNat = ((n : Int) / s - 1).toNat + 1 := by omega
      rw [e3, List.getElem?_cons_succ]
theorem rows_len : ∀ (k : Nat) (ss : List Int), ss.length = k → (∀ s ∈ ss, 2 ≤ s ∧ s ≤ 4) → ((rowsL ss [[]]).length : Int) = prodL ss := by
  intro k
  induction k with
  | zero =>
    intro ss hl _
    rw [List.length_eq_zero_iff.mp hl]
    rfl
  | succ k ih =>
    intro ss hl hs
    have hne : ss ≠ [] := fun e => by rw [e] at hl; cases hl
    obtain ⟨ts, s, rfl⟩ : ∃ ts s, ss = ts ++ [s] := ⟨ss.dropLast, ss.getLast hne, (List.dropLast_concat_getLast hne).symm⟩
    rw [rowsL_snoc, len_flat s (hs s (by simp)), ih ts (by simpa using hl) (fun x hx => hs x (by simp [hx])), prodL_snoc]
theorem rows_get : ∀ (k : Nat) (ss : List Int), ss.length = k → (∀ s ∈ ss, 2 ≤ s ∧ s ≤ 4) → ∀ n : Nat, (n : Int) < prodL ss → (rowsL ss [[]])[n]? = some (rowN ss n) := by
  intro k
  induction k with
  | zero =>
    intro ss hl _ n hn
    rw [List.length_eq_zero_iff.mp hl] at hn ⊢
    have : n = 0 := by
      have : (n : Int) < 1 := hn
      omega
    subst this
    rfl
  | succ k ih =>
    intro ss hl hs n hn
    have hne : ss ≠ [] := fun e => by rw [e] at hl; cases hl
    obtain ⟨ts, s, rfl⟩ : ∃ ts s, ss = ts ++ [s] := ⟨ss.dropLast, ss.getLast hne, (List.dropLast_concat_getLast hne).symm⟩
    have h2 := hs s (by simp)
    have hts : ∀ x ∈ ts, 2 ≤ x ∧ x ≤ 4 := fun x hx => hs x (by simp [hx])
    have htl : ts.length = k := by simpa using hl
    rw [prodL_snoc] at hn
    have hq : (n : Int) / s < prodL ts := Int.ediv_lt_of_lt_mul (by omega) hn
    have hq0 : 0 ≤ (n : Int) / s := Int.ediv_nonneg (by omega) (by omega)
    rw [rowsL_snoc, flat_get s h2 _ n (by rw [rows_len k ts htl hts]; exact hn)]
    have e : (((n : Int) / s).toNat : Int) = (n : Int) / s := by omega
    rw [ih ts htl hts ((n : Int) / s).toNat (by rw [e]; exact hq), rowN_snoc, e]
    rfl

theorem digR_len : ∀ (rs : List Int) (n : Int), (digR rs n).length = rs.length
  | [], _ => rfl
  | s :: rs, n => by simp [digR, digR_len rs]
theorem rowN_len (ss : List Int) (n : Int) : (rowN ss n).length = ss.length := by simp [rowN, digR_len]
theorem rowof_loop (S N : Option O) : ∀ (rs : List Int) (n : Int) (ds : List Int) (o4 o5 : Option O), (∀ s ∈ rs, 2 ≤ s ∧ s ≤ 4) → ds.length + rs.length ≤ 100 →
    ∃ n' o4' o5', forF (bName 4) (cSeq (cAsgG (bTup 2 (bCons (bName 2) (bCons (bName 5) bNil))) (cCall gDivmod (cCons (cVar 2) (cCons (cVar 4) cNil)))) (cApp 3 (cVar 5))) (dI rs) [S, N, some (.im (.int n)), some (.ow (dI ds)), o4, o5] =
      .nx [S, N, some (.im (.int n')), some (.ow (dI (ds ++ digR rs n))), o4', o5']
  | [], n, ds, o4, o5, _, _ => ⟨n, o4, o5, by simp [forF, digR]⟩
  | s :: rs, n, ds, o4, o5, hs, hl => by
    have h2 := hs s (by simp)
    have hl' : ds.length + (rs.length + 1) ≤ 100 := by simpa using hl
    obtain ⟨n', q4, q5, ih⟩ := rowof_loop S N rs (n / s) (ds ++ [n % s]) (some (.im (.int s))) (some (.im (.int (n % s)))) (fun x hx => hs x (by simp [hx])) (by simp; omega)
    refine ⟨n', q4, q5, ?_⟩
    have hz : ds.length < sizeLine := by rw [sizeLine_eq]; omega
    have hd : gDivmod [.int n, .int s] = .ok (.tup [.int (n / s), .int (n % s)]) := by
      unfold gDivmod
      dsimp only
      rw [if_pos ⟨by omega, by omega⟩]
    rw [dI, List.map_cons, forF]
    simp only [bName, List.set_cons_succ, List.set_cons_zero]
    have eb : cSeq (cAsgG (bTup 2 (bCons (bName 2) (bCons (bName 5) bNil))) (cCall gDivmod (cCons (cVar 2) (cCons (cVar 4) cNil)))) (cApp 3 (cVar 5)) [S, N, some (.im (.int n)), some (.ow (dI ds)), some (.im (.int s)), o5] =
        .nx [S, N, some (.im (.int (n / s))), some (.ow (dI (ds ++ [n % s]))), some (.im (.int s)), some (.im (.int (n % s)))] := by
      simp [cSeq, cAsgG, cCall, cCons, cVar, cNil, hd, bTup, bCons, bName, bNil, cApp, hz]
    rw [eb]
    dsimp only
    rw [ih]
    simp [digR]
theorem rowof_ok {ss : List Int} (G : Good ss) {n : Int} (h0 : 0 ≤ n) (hn : n < prodL ss) : F_row_of [tupI ss, .int n] = .ok (tupI (rowN ss n)) := by
  obtain ⟨n', o4, o5, h⟩ := rowof_loop (some (.im (tupI ss))) (some (.im (.int n))) ss.reverse n [] none none (fun s hs => G.sz s (by simpa using hs)) (by have := G.le; simp; omega)
  have hr : (dI ss).reverse = dI ss.reverse := by simp
  simp only [List.nil_append] at h
  have h' : forF (bName 4) (cSeq (cAsgG (bTup 2 (bCons (bName 2) (bCons (bName 5) bNil))) (cCall gDivmod (cCons (cVar 2) (cCons (cVar 4) cNil)))) (cApp 3 (cVar 5))) (dI ss.reverse) [some (.im (tupI ss)), some (.im (.int n)), some (.im (.int n)), some (.ow []), none, none] = _ := h
  have c1 : ¬ (n < 0) := by omega
  have c2 : ¬ (prodL ss ≤ n) := by omega
  have er : (dI (digR ss.reverse n)).reverse = dI (rowN ss n) := by simp [rowN]
  have ec : cTest (cBin oLt (cVar 1) (cC (.int 0))) [some (.im (tupI ss)), some (.im (.int n)), none, none, none, none] = .ok false := by simp [cTest, cBin, cVar, cC, oI, asB, c1]
  have ed : cTest (cBin oGe (cVar 1) (cFn0 F_multiplied (cCons (cVar 0) cNil))) [some (.im (tupI ss)), some (.im (.int n)), none, none, none, none] = .ok false := by simp [cTest, cBin, cVar, cFn0, cCons, cNil, mult_ok G.sz G.le, oI, asB, c2]
  unfold F_row_of defF g_row_of
  show flR (cSeq _ _ [some (.im (tupI ss)), some (.im (.int n)), none, none, none, none]) = _
  rw [cSeq, show (cDrop (cFn0 F_look_sizes (cCons (cVar 0) cNil))) [some (.im (tupI ss)), some (.im (.int n)), none, none, none, none] = .nx [some (.im (tupI ss)), some (.im (.int n)), none, none, none, none] by simp [cDrop, cFn0, cCons, cVar, cNil, look_ok G], Fl.then_nx, cSeq, cIf, cOrT, ec, Res.bind_ok, if_neg Bool.false_ne_true, ed, stE_ok, if_neg Bool.false_ne_true, cNext, Fl.then_nx, cSeq,
    show (cAsg 2 (cVar 1)) [some (.im (tupI ss)), some (.im (.int n)), none, none, none, none] = .nx [some (.im (tupI ss)), some (.im (.int n)), some (.im (.int n)), none, none, none] from rfl, Fl.then_nx, cSeq,
    show (cOwn 3 cNil) [some (.im (tupI ss)), some (.im (.int n)), some (.im (.int n)), none, none, none] = .nx [some (.im (tupI ss)), some (.im (.int n)), some (.im (.int n)), some (.ow []), none, none] from rfl, Fl.then_nx, cSeq, cFor,
    show (cItems (cUn oRev (cVar 0))) [some (.im (tupI ss)), some (.im (.int n)), some (.im (.int n)), some (.ow []), none, none] = .ok (dI ss.reverse) by simp [cItems, cUn, cVar, oRev, itemsD], stE_ok, h', Fl.then_nx]
  simp [cFz, fz, cRet, cCall, gTuple, cCons, cNil, cUn, cVar, oRev, rowN]
/-! number_of -/
def numL : Int → List Int → List Int → Int
  | a, v :: vs, s :: ss => numL (a * s + v) vs ss
  | a, _, _ => a
theorem numL_snoc : ∀ (vs ss : List Int) (a v s : Int), vs.length = ss.length → numL a (vs ++ [v]) (ss ++ [s]) = numL a vs ss * s + v
  | [], [], a, v, s, _ => rfl
  | x :: vs, t :: ss, a, v, s, h => by
    show numL (a * t + x) (vs ++ [v]) (ss ++ [s]) = numL (a * t + x) vs ss * s + v
    exact numL_snoc vs ss _ v s (by simpa using h)
theorem num_row : ∀ (k : Nat) (ss : List Int), ss.length = k → (∀ s ∈ ss, 2 ≤ s ∧ s ≤ 4) → ∀ n : Int, 0 ≤ n → n < prodL ss → numL 0 (rowN ss n) ss = n := by
  intro k
  induction k with
  | zero =>
    intro ss hl _ n h0 hn
    rw [List.length_eq_zero_iff.mp hl] at hn ⊢
    have : n < 1 := hn
    show (0 : Int) = n
    omega
  | succ k ih =>
    intro ss hl hs n h0 hn
    have hne : ss ≠ [] := fun e => by rw [e] at hl; cases hl
    obtain ⟨ts, s, rfl⟩ : ∃ ts s, ss = ts ++ [s] := ⟨ss.dropLast, ss.getLast hne, (List.dropLast_concat_getLast hne).symm⟩
    have h2 := hs s (by simp)
    rw [prodL_snoc] at hn
    rw [rowN_snoc, numL_snoc _ _ _ _ _ (by rw [rowN_len]), ih ts (by simpa using hl) (fun x hx => hs x (by simp [hx])) (n / s) (Int.ediv_nonneg h0 (by omega)) (Int.ediv_lt_of_lt_mul (by omega) hn), Int.mul_comm]
    exact Int.mul_ediv_add_emod n s
theorem rowN_bound : ∀ (k : Nat) (ss : List Int), ss.length = k → (∀ s ∈ ss, 2 ≤ s ∧ s ≤ 4) → ∀ n : Int, ∀ p ∈ (rowN ss n).zip ss, 0 ≤ p.1 ∧ p.1 < p.2 := by
  intro k
  induction k with
  | zero =>
    intro ss hl _ n p hp
    rw [List.length_eq_zero_iff.mp hl] at hp
    simp at hp
  | succ k ih =>
    intro ss hl hs n p hp
    have hne : ss ≠ [] := fun e => by rw [e] at hl; cases hl
    obtain ⟨ts, s, rfl⟩ : ∃ ts s, ss = ts ++ [s] := ⟨ss.dropLast, ss.getLast hne, (List.dropLast_concat_getLast hne).symm⟩
    have h2 := hs s (by simp)
    rw [rowN_snoc, List.zip_append (by rw [rowN_len])] at hp
    rcases List.mem_append.mp hp with h | h
    · exact ih ts (by simpa using hl) (fun x hx => hs x (by simp [hx])) _ p h
    · have e : p = (n % s, s) := by simpa using h
      rw [e]
      exact ⟨Int.emod_nonneg _ (by omega), Int.emod_lt_of_pos _ (by omega)⟩
abbrev dP (ps : List (Int × Int)) : List D := ps.map fun p => D.tup [.int p.1, .int p.2]
theorem pairs_zip : ∀ (vs ss : List Int), pairsD (dI vs) (dI ss) = dP (vs.zip ss)
  | [], ss => rfl
  | v :: vs, [] => rfl
  | v :: vs, s :: ss => by
    show .tup [.int v, .int s] :: pairsD (dI vs) (dI ss) = _
    rw [pairs_zip vs ss]
    rfl
theorem num_loop (S R : Option O) : ∀ (vs ss : List Int) (a : Int) (o3 o4 : Option O), vs.length = ss.length → (∀ p ∈ vs.zip ss, 0 ≤ p.1 ∧ p.1 < p.2) → (∀ s ∈ ss, 2 ≤ s ∧ s ≤ 4) → 0 ≤ a → (a + 1) * 4 ^ ss.length < 2 ^ 60 →
    ∃ o3' o4', forF (bTup 2 (bCons (bName 3) (bCons (bName 4) bNil))) (cAsg 2 (cBin oAdd (cBin oMul2 (cVar 2) (cVar 4)) (cVar 3))) (dP (vs.zip ss)) [S, R, some (.im (.int a)), o3, o4] = .nx [S, R, some (.im (.int (numL a vs ss))), o3', o4']
  | [], [], a, o3, o4, _, _, _, _, _ => ⟨o3, o4, rfl⟩
  | v :: vs, s :: ss, a, o3, o4, hl, hp, hs, ha, hb => by
    obtain ⟨v0, v1⟩ := hp (v, s) (by simp)
    have h2 := hs s (by simp)
    dsimp only at v0 v1
    have hpw := pow4 ss.length
    have e : (a + 1) * 4 ^ (s :: ss).length = (a + 1) * 4 * 4 ^ ss.length := by rw [List.length_cons, Int.pow_succ, Int.mul_comm (4 ^ ss.length) 4, Int.mul_assoc]
    rw [e] at hb
    have h3 : (a + 1) * s ≤ (a + 1) * 4 := Int.mul_le_mul_of_nonneg_left h2.2 (by omega)
    have h4 : (a + 1) * s = a * s + s := by rw [Int.add_mul, Int.one_mul]
    have h5 : 0 ≤ a * s := Int.mul_nonneg ha (by omega)
    have hb2 : (a * s + v + 1) * 4 ^ ss.length < 2 ^ 60 := Int.lt_of_le_of_lt (Int.mul_le_mul_of_nonneg_right (by omega) (by omega)) hb
    have hab : a < 2 ^ 60 := by
      have h6 : (a + 1) * 4 * 1 ≤ (a + 1) * 4 * 4 ^ ss.length := Int.mul_le_mul_of_nonneg_left hpw (by omega)
      omega
    obtain ⟨q3, q4, ih⟩ := num_loop S R vs ss (a * s + v) (some (.im (.int v))) (some (.im (.int s))) (by simpa using hl) (fun p h => hp p (by simp [h])) (fun x hx => hs x (by simp [hx])) (by omega) hb2
    refine ⟨q3, q4, ?_⟩
    have m1 : oMul2 (.int a) (.int s) = .ok (.int (a * s)) := oMul_int (mul_ok (a := 60) (b := 60) (by omega) (by omega) (by decide) (by decide) (by decide))
    rw [List.zip_cons_cons, dP, List.map_cons, forF]
    have eb0 : bTup 2 (bCons (bName 3) (bCons (bName 4) bNil)) (.tup [.int v, .int s]) [S, R, some (.im (.int a)), o3, o4] = some [S, R, some (.im (.int a)), some (.im (.int v)), some (.im (.int s))] := rfl
    rw [eb0]
    dsimp only
    have eb : cAsg 2 (cBin oAdd (cBin oMul2 (cVar 2) (cVar 4)) (cVar 3)) [S, R, some (.im (.int a)), some (.im (.int v)), some (.im (.int s))] = .nx [S, R, some (.im (.int (a * s + v))), some (.im (.int v)), some (.im (.int s))] := by
      simp [cAsg, cBin, cVar, m1, oAdd_int]
    rw [eb]
    exact ih
theorem lookrow_ok {ss vs : List Int} (hl : vs.length = ss.length) (hle : ss.length ≤ 6) (hp : ∀ p ∈ vs.zip ss, 0 ≤ p.1 ∧ p.1 < p.2) : F_look_row [tupI ss, tupI vs] = .ok .non := by
  have e1 : oNe (.int (vs.length : Int)) (.int (ss.length : Int)) = .ok (.bl false) := by rw [oNe_int, hl]; simp
  have hz : (vs.zip ss).length ≤ sizeLine := by rw [List.length_zip, sizeLine_eq]; omega
  have hz' : min vs.length ss.length ≤ sizeLine := by rw [sizeLine_eq]; omega
  have hlc : lcF (bTup 2 (bCons (bName 2) (bCons (bName 3) bNil))) cYes (cChain oLe oLt (cC (.int 0)) (cVar 2) (cVar 3)) (dP (vs.zip ss)) [some (.im (tupI ss)), some (.im (tupI vs)), none, none] = .ok ((vs.zip ss).map fun _ => D.bl true) := by
    refine lcF_map _ _ _ fun p h => ⟨[some (.im (tupI ss)), some (.im (tupI vs)), some (.im (.int p.1)), some (.im (.int p.2))], rfl, rfl, ?_⟩
    obtain ⟨h1, h2⟩ := hp p h
    simp [cChain, cC, cVar, oI, h1, h2]
  have ha := all_ok' (xs := vs.zip ss)
  have hpz := pairs_zip vs ss
  simp [F_look_row, defF, g_look_row, st0, cIf, cOrT, cNotT, cTest, cBin, cCall, cCons, cVar, cNil, gLen, e1, asB, cL, cLc, cIt, gZip, hpz, hz', wipeD, hlc, ha, cNext]
theorem numberof_ok {ss : List Int} (G : Good ss) {n : Int} (h0 : 0 ≤ n) (hn : n < prodL ss) : F_number_of [tupI ss, tupI (rowN ss n)] = .ok (.int n) := by
  have hb := rowN_bound _ ss rfl G.sz n
  obtain ⟨o3, o4, h⟩ := num_loop (some (.im (tupI ss))) (some (.im (tupI (rowN ss n)))) (rowN ss n) ss 0 none none (rowN_len ss n) hb G.sz (by decide) (by
    have h1 : (4 : Int) ^ ss.length ≤ 4096 := (by decide : ∀ n : Fin 7, (4 : Int) ^ (n : Nat) ≤ 4096) ⟨ss.length, by have := G.le; omega⟩
    omega)
  rw [num_row _ ss rfl G.sz n h0 hn] at h
  have hr := lookrow_ok (rowN_len ss n) G.le hb
  have hpz := pairs_zip (rowN ss n) ss
  simp [F_number_of, defF, g_number_of, st0, cSeq, cDrop, cFn0, cCons, cVar, cNil, look_ok G, hr, cAsg, cC, cFor, cIt, gZip, hpz, h, cRet]

end My
namespace My
open PySem L2 DV

def xBS : Exn := ⟨"BadSizes", [("word", .str "badsizes")]⟩
def xBR : Exn := ⟨"BadRow", [("word", .str "badrow")]⟩
theorem word_bs : wordF 2 q__law_word "" (.er xBS) = .ok (.str "badsizes") := by rfl
theorem word_br : wordF 2 q__law_word "" (.er xBR) = .ok (.str "badrow") := by rfl
/-- a row's goodness -/
def rowB (ss vs : List Int) : Bool := decide (vs.length = ss.length) && (vs.zip ss).all fun p => decide (0 ≤ p.1) && decide (p.1 < p.2)
theorem lookrow_er {ss vs : List Int} (hle : ss.length ≤ 10) (h : rowB ss vs = false) : F_look_row [tupI ss, tupI vs] = .er xBR := by
  have hz' : min vs.length ss.length ≤ sizeLine := by rw [sizeLine_eq]; omega
  have hlc : lcF (bTup 2 (bCons (bName 2) (bCons (bName 3) bNil))) cYes (cChain oLe oLt (cC (.int 0)) (cVar 2) (cVar 3)) (dP (vs.zip ss)) [some (.im (tupI ss)), some (.im (tupI vs)), none, none] = .ok ((vs.zip ss).map fun p => D.bl (decide (0 ≤ p.1) && decide (p.1 < p.2))) := by
    refine lcF_map _ _ _ fun p h => ⟨[some (.im (tupI ss)), some (.im (tupI vs)), some (.im (.int p.1)), some (.im (.int p.2))], rfl, rfl, ?_⟩
    by_cases h1 : 0 ≤ p.1 <;> by_cases h2 : p.1 < p.2 <;> simp [h1, h2]
  have ha := ev_all' (xs := vs.zip ss) (p := fun p => decide (0 ≤ p.1) && decide (p.1 < p.2))
  have hpz := pairs_zip vs ss
  unfold rowB at h
  by_cases hl : vs.length = ss.length
  · rw [decide_eq_true hl, Bool.true_and] at h
    rw [h] at ha
    have hs : ss.length ≤ sizeLine := by rw [sizeLine_eq]; omega
    simp [F_look_row, g_look_row, hl, gZip, hpz, hlc, ha, fd1, xBR, hs]
  · have hl2 : ¬ ((vs.length : Int) = (ss.length : Int)) := by omega
    simp [F_look_row, g_look_row, hl2, fd1, xBR]
theorem rowB_ok {ss vs : List Int} (h : rowB ss vs = true) : vs.length = ss.length ∧ ∀ p ∈ vs.zip ss, 0 ≤ p.1 ∧ p.1 < p.2 := by
  unfold rowB at h
  simp only [Bool.and_eq_true, decide_eq_true_eq, List.all_eq_true] at h
  exact h

/-! ### the law's own looks -/
theorem lawrow_ok {ss vs : List Int} (hle : ss.length ≤ 10) : F__law_row_good [tupI ss, tupI vs] = .ok (.bl (rowB ss vs)) := by
  unfold rowB
  by_cases hl : vs.length = ss.length
  · have hz : vs.length ≤ sizeLine := by rw [sizeLine_eq]; omega
    have hr := gRange1_nat hz
    have hlc : lcF (bName 2) cYes (cChain oLe oLt (cC (.int 0)) (cBin oIx (cVar 1) (cVar 2)) (cBin oIx (cVar 0) (cVar 2))) (rangeD 0 vs.length) [some (.im (tupI ss)), some (.im (tupI vs)), none] = .ok ((List.range vs.length).map fun k => D.bl (decide (0 ≤ vs.getD k 0) && decide (vs.getD k 0 < ss.getD k 0))) := by
      refine lcF_map (fun (k : Nat) => D.int (0 + (k : Int))) _ _ fun k hk => ⟨[some (.im (tupI ss)), some (.im (tupI vs)), some (.im (.int (0 + (k : Int))))], rfl, rfl, ?_⟩
      have hk' : k < vs.length := by simpa using hk
      have hk2 : k < ss.length := by omega
      have e1 : oIx (tupI vs) (.int (k : Int)) = .ok (.int (vs.getD k 0)) := by
        simp [oIx, at_nat, hk', List.getD]
      have e2 : oIx (tupI ss) (.int (k : Int)) = .ok (.int (ss.getD k 0)) := by
        simp [oIx, at_nat, hk2, List.getD]
      by_cases h1 : 0 ≤ vs.getD k 0 <;> by_cases h2 : vs.getD k 0 < ss.getD k 0 <;> simp only [Int.zero_add] at * <;> simp [e1, e2, h1, h2, -List.getD_eq_getElem?_getD]
    have ha := ev_all' (xs := List.range vs.length) (p := fun k => decide (0 ≤ vs.getD k 0) && decide (vs.getD k 0 < ss.getD k 0))
    have e : ((List.range vs.length).all fun k => decide (0 ≤ vs.getD k 0) && decide (vs.getD k 0 < ss.getD k 0)) = (vs.zip ss).all fun p => decide (0 ≤ p.1) && decide (p.1 < p.2) := by
      rw [Bool.eq_iff_iff]
      simp only [List.all_eq_true, Bool.and_eq_true, decide_eq_true_eq, List.mem_range]
      constructor
      · intro h p hp
        obtain ⟨k, hk, rfl⟩ := List.mem_iff_getElem.mp hp
        have hk' : k < vs.length := by rw [List.length_zip] at hk; omega
        have := h k hk'
        have hk2 : k < ss.length := by omega
        simpa [List.getD, hk', hk2] using this
      · intro h k hk
        have hk2 : k < ss.length := by omega
        have := h (vs[k], ss[k]) (List.mem_iff_getElem.mpr ⟨k, by rw [List.length_zip]; omega, by simp⟩)
        simpa [List.getD, hk, hk2] using this
    rw [e] at ha
    have hz2 : (rangeD 0 vs.length).length ≤ sizeLine := by rw [rangeD_len]; exact hz
    rw [hl] at hr hlc ha hz2
    simp [F__law_row_good, g__law_row_good, hl, hr, hz2, hlc, ha, -List.getD_eq_getElem?_getD]
  · have hl2 : ¬ ((vs.length : Int) = (ss.length : Int)) := by omega
    simp [F__law_row_good, g__law_row_good, hl2, hl]
/-- what the sizes of the law are: refused, or good -/
def Bad (ss : List Int) : Prop := F_look_sizes [tupI ss] = .er xBS ∧ F__law_sizes_good [tupI ss] = .ok (.bl false) ∧ ss.length ≤ 7
def Fine (ss : List Int) : Prop := Good ss ∧ F__law_sizes_good [tupI ss] = .ok (.bl true)
def sizesT : List (List Int) := [[], [3, 4, 5, 5], [4, 4, 4, 4, 2], [2, 2, 2, 2, 2, 2, 2], [3, 4, 5], [4, 4, 3, 3, 2], [2, 1], [2, 3, 2]]
theorem sizes_so : ∀ ss ∈ sizesT, Bad ss ∨ Fine ss := by
  intro ss h
  simp only [sizesT, List.mem_cons, List.not_mem_nil, or_false] at h
  rcases h with rfl | rfl | rfl | rfl | rfl | rfl | rfl | rfl
  · exact .inl ⟨by rfl, by rfl, by decide⟩
  · exact .inl ⟨by rfl, by rfl, by decide⟩
  · exact .inl ⟨by rfl, by rfl, by decide⟩
  · exact .inl ⟨by rfl, by rfl, by decide⟩
  · exact .inl ⟨by rfl, by rfl, by decide⟩
  · exact .inr ⟨⟨by decide, by decide, by decide, by decide⟩, by rfl⟩
  · exact .inl ⟨by rfl, by rfl, by decide⟩
  · exact .inr ⟨⟨by decide, by decide, by decide, by decide⟩, by rfl⟩

/-! ### what is refused -/
theorem bad_many {ss : List Int} (h : Bad ss) : F_many_rows [tupI ss] = .er xBS := by simp [F_many_rows, g_many_rows, h.1]
theorem bad_number {ss : List Int} {r : D} (h : Bad ss) : F_number_of [tupI ss, r] = .er xBS := by simp [F_number_of, g_number_of, h.1]
theorem bad_rowof {ss : List Int} {r : D} (h : Bad ss) : F_row_of [tupI ss, r] = .er xBS := by simp [F_row_of, g_row_of, h.1]
theorem fine_number {ss vs : List Int} (G : Good ss) : (rowB ss vs = true → ∃ d, F_number_of [tupI ss, tupI vs] = .ok d) ∧ (rowB ss vs = false → F_number_of [tupI ss, tupI vs] = .er xBR) := by
  have hle := G.le
  refine ⟨fun h => ?_, fun h => ?_⟩
  · obtain ⟨hl, hp⟩ := rowB_ok h
    obtain ⟨o3, o4, e⟩ := num_loop (some (.im (tupI ss))) (some (.im (tupI vs))) vs ss 0 none none hl hp G.sz (by decide) (by
      have h1 : (4 : Int) ^ ss.length ≤ 4096 := (by decide : ∀ n : Fin 7, (4 : Int) ^ (n : Nat) ≤ 4096) ⟨ss.length, by have := G.le; omega⟩
      omega)
    have hr := lookrow_ok hl G.le hp
    have hpz := pairs_zip vs ss
    exact ⟨.int (numL 0 vs ss), by simp [F_number_of, g_number_of, look_ok G, hr, gZip, hpz, e]⟩
  · simp [F_number_of, g_number_of, look_ok G, lookrow_er (by omega) h]
theorem fine_rowof {ss : List Int} (G : Good ss) {n : Int} (h : ¬ (0 ≤ n ∧ n < prodL ss)) : F_row_of [tupI ss, .int n] = .er xBR := by
  have hm := mult_ok G.sz G.le
  by_cases h0 : n < 0
  · simp [F_row_of, g_row_of, look_ok G, h0, fd1, xBR]
  · have h1 : prodL ss ≤ n := by omega
    simp [F_row_of, g_row_of, look_ok G, h0, hm, h1, fd1, xBR]
theorem ex_seq {g h : DS → Fl} {δ δ' : DS} {P : DS → Prop} (h1 : g δ = .nx δ') (h2 : ∃ δ2, h δ' = .nx δ2 ∧ P δ2) : ∃ δ2, cSeq g h δ = .nx δ2 ∧ P δ2 := by
  obtain ⟨δ2, e, p⟩ := h2
  exact ⟨δ2, seq_nx h1 e, p⟩
def P14 (δ : DS) : Prop := ∃ a b c d e f g h i j k l m n, δ = [a, b, c, d, e, f, g, h, i, j, k, l, m, n]
theorem p14 (a b c d e f g h i j k l m n : Option O) : P14 [a, b, c, d, e, f, g, h, i, j, k, l, m, n] := ⟨a, b, c, d, e, f, g, h, i, j, k, l, m, n, rfl⟩
/-- the row of the law -/
theorem row_cut (o : Option Int) : ∃ vs : List Int, cutD (dI [0, 1, 1, 0, 1, 0, 1]) none o = dI vs ∧ vs.length ≤ 7 := by
  rw [dI, cutD_map]
  refine ⟨_, rfl, ?_⟩
  rw [List.length_take, List.length_drop]
  simp
  omega
def dQ (ps : List (Int × Int)) : List D := ps.map fun p => .tup [.int p.1, .int p.2]
/-- a value of a row by its place -/
def valB (vs : List Int) (p : Int × Int) : Bool := decide (vs.getD p.1.toNat 0 = p.2)
theorem ix_val {vs : List Int} {i : Int} (h0 : 0 ≤ i) (h1 : i < vs.length) : oIx (tupI vs) (.int i) = .ok (.int (vs.getD i.toNat 0)) := by
  obtain ⟨k, rfl⟩ := Int.eq_ofNat_of_zero_le h0
  have hk : k < vs.length := by omega
  simp [oIx, at_nat, hk, List.getD]
theorem fits_ok {vs : List Int} {ps : List (Int × Int)} (hz : ps.length ≤ sizeLine) (h : ∀ p ∈ ps, 0 ≤ p.1 ∧ p.1 < vs.length) : F_fits [tupI vs, .tup (dQ ps)] = .ok (.bl (ps.all (valB vs))) := by
  have hlc : lcF (bTup 2 (bCons (bName 2) (bCons (bName 3) bNil))) cYes (cBin oEq (cBin oIx (cVar 0) (cVar 2)) (cVar 3)) (dQ ps) [some (.im (tupI vs)), some (.im (.tup (dQ ps))), none, none] = .ok (ps.map fun p => D.bl (valB vs p)) := by
    refine lcF_map _ _ _ fun p hp => ⟨[some (.im (tupI vs)), some (.im (.tup (dQ ps))), some (.im (.int p.1)), some (.im (.int p.2))], rfl, rfl, ?_⟩
    have := ix_val (h p hp).1 (h p hp).2
    simp [this, valB, -List.getD_eq_getElem?_getD]
  have hz' : (dQ ps).length ≤ sizeLine := by simpa [dQ] using hz
  have ha := ev_all' (xs := ps) (p := valB vs)
  simp [F_fits, g_fits, hz', hlc, ha]
theorem prod_pos : ∀ (ss : List Int) (a : Int), 0 < a → (∀ s ∈ ss, 0 < s) → 0 < ss.foldl (· * ·) a
  | [], _, h, _ => h
  | s :: ss, a, h, hs => prod_pos ss (a * s) (Int.mul_pos h (hs s (by simp))) fun t ht => hs t (by simp [ht])
theorem cell_turn (x : Int) (A : Option O) (o2 o3 o4 o5 o6 o7 o8 o9 o10 o11 o12 o13 : Option O) : ∃ δ2, g_law_l1 [A, some (.im (.int x)), o2, o3, o4, o5, o6, o7, o8, o9, o10, o11, o12, o13] = .nx δ2 ∧ P14 δ2 := by
  obtain ⟨m, hm⟩ := draws_ok x [8, 6, 7, 3, 6, 997] (by decide) (by decide)
  have hd : ∀ (k y : Int), 0 < k → 0 ≤ y % k ∧ y % k < k := fun k y h => ⟨Int.emod_nonneg _ (by omega), Int.emod_lt_of_pos _ h⟩
  simp only [digs] at hm
  have b0 := hd 8 m (by decide)
  have b1 := hd 6 (m / 8) (by decide)
  have b2 := hd 7 (m / 8 / 6) (by decide)
  have b4 := hd 6 (m / 8 / 6 / 7 / 3) (by decide)
  have b5 := hd 997 (m / 8 / 6 / 7 / 3 / 6) (by decide)
  generalize m % 8 = d0 at hm b0
  generalize m / 8 % 6 = d1 at hm b1
  generalize m / 8 / 6 % 7 = d2 at hm b2
  generalize m / 8 / 6 / 7 % 3 = d3 at hm
  generalize m / 8 / 6 / 7 / 3 % 6 = d4 at hm b4
  generalize m / 8 / 6 / 7 / 3 / 6 % 997 = d5 at hm b5
  have hm' : F__law_draws [.int x, .lst [.int 8, .int 6, .int 7, .int 3, .int 6, .int 997]] = .ok (.lst [.int d0, .int d1, .int d2, .int d3, .int d4, .int d5]) := hm
  refine ex_seq (δ' := [A, some (.im (.int x)), some (.im (.lst [.int d0, .int d1, .int d2, .int d3, .int d4, .int d5])), o3, o4, o5, o6, o7, o8, o9, o10, o11, o12, o13]) (by simp [hm']) ?_
  have i0 : oIx (.lst [.int d0, .int d1, .int d2, .int d3, .int d4, .int d5]) (.int 0) = .ok (.int d0) := by rfl
  have i1 : oIx (.lst [.int d0, .int d1, .int d2, .int d3, .int d4, .int d5]) (.int 1) = .ok (.int d1) := by rfl
  have i2 : oIx (.lst [.int d0, .int d1, .int d2, .int d3, .int d4, .int d5]) (.int 2) = .ok (.int d2) := by rfl
  have i4 : oIx (.lst [.int d0, .int d1, .int d2, .int d3, .int d4, .int d5]) (.int 4) = .ok (.int d4) := by rfl
  have i5 : oIx (.lst [.int d0, .int d1, .int d2, .int d3, .int d4, .int d5]) (.int 5) = .ok (.int d5) := by rfl
  have hss : ∃ ss ∈ sizesT, oIx (.lst (sizesT.map tupI)) (.int d0) = .ok (tupI ss) := by
    have : d0 = 0 ∨ d0 = 1 ∨ d0 = 2 ∨ d0 = 3 ∨ d0 = 4 ∨ d0 = 5 ∨ d0 = 6 ∨ d0 = 7 := by omega
    rcases this with rfl | rfl | rfl | rfl | rfl | rfl | rfl | rfl <;> exact ⟨_, by decide, rfl⟩
  obtain ⟨ss, hss, e0⟩ := hss
  have e7 : oMul2 (.tup [.int 2]) (.int 7) = .ok (.tup [.int 2, .int 2, .int 2, .int 2, .int 2, .int 2, .int 2]) := by rfl
  have e0' : oIx (.lst [.tup [], .tup [.int 3, .int 4, .int 5, .int 5], .tup [.int 4, .int 4, .int 4, .int 4, .int 2], .tup [.int 2, .int 2, .int 2, .int 2, .int 2, .int 2, .int 2], .tup [.int 3, .int 4, .int 5], .tup [.int 4, .int 4, .int 3, .int 3, .int 2], .tup [.int 2, .int 1], .tup [.int 2, .int 3, .int 2]]) (.int d0) = .ok (tupI ss) := e0
  refine ex_seq (δ' := [A, some (.im (.int x)), some (.im (.lst [.int d0, .int d1, .int d2, .int d3, .int d4, .int d5])), some (.im (tupI ss)), o4, o5, o6, o7, o8, o9, o10, o11, o12, o13]) (by simp [i0, e7, e0']) ?_
  have hso := sizes_so ss hss
  have hl7 : ss.length ≤ 7 := by
    rcases hso with h | h
    · exact h.2.2
    · have := h.1.le; omega
  have e1 : ∃ a, oIx (.lst [.int 0, .int 0, .int 0, .int (-1), .int 1, .int 0]) (.int d1) = .ok (.int a) ∧ a ≤ 1 := by
    have : d1 = 0 ∨ d1 = 1 ∨ d1 = 2 ∨ d1 = 3 ∨ d1 = 4 ∨ d1 = 5 := by omega
    rcases this with rfl | rfl | rfl | rfl | rfl | rfl <;> exact ⟨_, rfl, by decide⟩
  obtain ⟨a, e1, ha⟩ := e1
  obtain ⟨vs0, hc, hv0⟩ := row_cut (some (if 0 < ss.length + a then ss.length + a else 0))
  simp only [List.map_cons, List.map_nil] at hc
  refine ex_seq (δ' := [A, some (.im (.int x)), some (.im (.lst [.int d0, .int d1, .int d2, .int d3, .int d4, .int d5])), some (.im (tupI ss)), some (.ow (dI vs0)), o5, o6, o7, o8, o9, o10, o11, o12, o13]) (by simp [i1, e1, cSlL, gMax, hc]) ?_
  have e4 : ∃ b, oIx (.lst [.int 0, .int 1, .int (-1), .int 2, .int 4, .int 100000000000000000000000000000]) (.int d4) = .ok (.int b) := by
    have : d4 = 0 ∨ d4 = 1 ∨ d4 = 2 ∨ d4 = 3 ∨ d4 = 4 ∨ d4 = 5 := by omega
    rcases this with rfl | rfl | rfl | rfl | rfl | rfl <;> exact ⟨_, rfl⟩
  obtain ⟨b, e4⟩ := e4
  have p29 : oPow (.int 10) (.int 29) = .ok (.int 100000000000000000000000000000) := by rfl
  have hrow : ∃ vs : List Int, vs.length ≤ 7 ∧ (cIf (cLookT 4 (cTest (cBin oNe (cVar 4) (cL cNil)))) (cPut 4 (cLook 4 (cBin oMod (cBin oIx (cVar 2) (cC (.int 2))) (cCall gLen (cCons (cVar 4) cNil)))) (cBin oIx (cL (cCons (cC (.int 0)) (cCons (cC (.int 1)) (cCons (cUn oNeg (cC (.int 1))) (cCons (cC (.int 2)) (cCons (cC (.int 4)) (cCons (cBin oPow (cC (.int 10)) (cC (.int 29))) cNil))))))) (cBin oIx (cVar 2) (cC (.int 4))))) cNext) [A, some (.im (.int x)), some (.im (.lst [.int d0, .int d1, .int d2, .int d3, .int d4, .int d5])), some (.im (tupI ss)), some (.ow (dI vs0)), o5, o6, o7, o8, o9, o10, o11, o12, o13] =
      .nx [A, some (.im (.int x)), some (.im (.lst [.int d0, .int d1, .int d2, .int d3, .int d4, .int d5])), some (.im (tupI ss)), some (.ow (dI vs)), o5, o6, o7, o8, o9, o10, o11, o12, o13] := by
    cases vs0 with
    | nil =>
      have : oNe (.lst []) (.lst []) = .ok (.bl false) := by rfl
      exact ⟨[], by simp, by simp [this]⟩
    | cons v vs1 =>
      have hne : oNe (.lst (dI (v :: vs1))) (.lst []) = .ok (.bl true) := by
        have := eqL_ints (neg := true) (v :: vs1) []
        simpa using this
      have hl : (0 : Int) < ((v :: vs1).length : Int) := by rw [List.length_cons]; omega
      have hb := hd ((v :: vs1).length : Int) d2 hl
      refine ⟨(v :: vs1).set (d2 % ((v :: vs1).length : Int)).toNat b, by simpa using hv0, ?_⟩
      have hix : ixN (v :: vs1).length (d2 % ((v :: vs1).length : Int)) = some (d2 % ((v :: vs1).length : Int)).toNat := by
        unfold ixN; rw [if_pos hb.1, if_pos hb.2]
      have hmod := oMod_pos (i := d2) hl
      generalize v :: vs1 = vs2 at *
      simp [hne, cPut, i2, i4, hmod, p29, e4, hix]
  obtain ⟨vs, hv, hrow⟩ := hrow
  refine ex_seq hrow ?_
  refine ex_seq (δ' := [A, some (.im (.int x)), some (.im (.lst [.int d0, .int d1, .int d2, .int d3, .int d4, .int d5])), some (.im (tupI ss)), some (.im (tupI vs)), o5, o6, o7, o8, o9, o10, o11, o12, o13]) (by simp [gTuple]) ?_
  have hgood : ∃ good, F__law_sizes_good [tupI ss] = .ok (.bl good) ∧ (good = false → Bad ss) ∧ (good = true → Good ss) := by
    rcases hso with h | h
    · exact ⟨false, h.2.1, fun _ => h, (fun z => nomatch z)⟩
    · exact ⟨true, h.2, (fun z => nomatch z), fun _ => h.1⟩
  obtain ⟨good, hg, hbad, hfine⟩ := hgood
  have hrb := lawrow_ok (ss := ss) (vs := vs) (by omega)
  refine ex_seq (δ' := [A, some (.im (.int x)), some (.im (.lst [.int d0, .int d1, .int d2, .int d3, .int d4, .int d5])), some (.im (tupI ss)), some (.im (tupI vs)), some (.im (.bl good)), o6, o7, o8, o9, o10, o11, o12, o13]) (by simp [hg]) ?_
  generalize hrg : rowB ss vs = rg at hrb
  refine ex_seq (δ' := [A, some (.im (.int x)), some (.im (.lst [.int d0, .int d1, .int d2, .int d3, .int d4, .int d5])), some (.im (tupI ss)), some (.im (tupI vs)), some (.im (.bl good)), some (.im (.str (if good then if rg then "" else "badrow" else "badsizes"))), o7, o8, o9, o10, o11, o12, o13]) (by
    cases good <;> cases rg <;> simp [hrb]) ?_
  have hwh : ∃ w : Int, 0 < w ∧ (good = true → w = prodL ss) ∧ (cIfE (cTest (cVar 5)) (cCall gLen (cCons (cFn0 F__law_rows (cCons (cVar 3) cNil)) cNil)) (cC (.int 7))) [A, some (.im (.int x)), some (.im (.lst [.int d0, .int d1, .int d2, .int d3, .int d4, .int d5])), some (.im (tupI ss)), some (.im (tupI vs)), some (.im (.bl good)), some (.im (.str (if good then if rg then "" else "badrow" else "badsizes"))), o7, o8, o9, o10, o11, o12, o13] = .ok (.int w) := by
    cases good with
    | false => exact ⟨7, by decide, (fun z => nomatch z), by simp⟩
    | true =>
      have G := hfine rfl
      have hlen := rows_len _ ss rfl G.sz
      refine ⟨prodL ss, ?_, fun _ => rfl, ?_⟩
      · exact prod_pos ss 1 (by decide) fun s hs => by have := G.sz s hs; omega
      · simp [rows_ok G, hlen]
  obtain ⟨w, hw0, hw1, hwh⟩ := hwh
  refine ex_seq (asg_nx hwh) ?_
  simp only [List.set_cons_succ, List.set_cons_zero]
  have hmod : oMod (.int d5) (.int w) = .ok (.int (d5 % w)) := oMod_pos hw0
  have e8 : ∃ n, oIx (.lst [.int 0, .int (w - 1), .int w, .int (-1), .int (d5 % w), .int 100000000000000000000000000000]) (.int d4) = .ok (.int n) := by
    have : d4 = 0 ∨ d4 = 1 ∨ d4 = 2 ∨ d4 = 3 ∨ d4 = 4 ∨ d4 = 5 := by omega
    rcases this with rfl | rfl | rfl | rfl | rfl | rfl <;> exact ⟨_, rfl⟩
  obtain ⟨n, e8⟩ := e8
  refine ex_seq (δ' := [A, some (.im (.int x)), some (.im (.lst [.int d0, .int d1, .int d2, .int d3, .int d4, .int d5])), some (.im (tupI ss)), some (.im (tupI vs)), some (.im (.bl good)), some (.im (.str (if good then if rg then "" else "badrow" else "badsizes"))), some (.im (.int w)), some (.im (.int n)), o9, o10, o11, o12, o13]) (by simp [hmod, i5, i4, p29, e8]) ?_
  refine ex_seq (δ' := [A, some (.im (.int x)), some (.im (.lst [.int d0, .int d1, .int d2, .int d3, .int d4, .int d5])), some (.im (tupI ss)), some (.im (tupI vs)), some (.im (.bl good)), some (.im (.str (if good then if rg then "" else "badrow" else "badsizes"))), some (.im (.int w)), some (.im (.int n)), some (.im (.str (if good then if decide (0 ≤ n) && decide (n < w) then "" else "badrow" else "badsizes"))), o10, o11, o12, o13]) (by
    cases good <;> by_cases c1 : 0 ≤ n <;> by_cases c2 : n < w <;> simp [c1, c2]) ?_
  have w1 : wordF 2 q__law_word "" (F_many_rows [tupI ss]) = .ok (.str (if good then "" else "badsizes")) := by
    cases good with
    | false => rw [bad_many (hbad rfl)]; exact word_bs
    | true => rw [many_ok (hfine rfl)]; rfl
  have w2 : wordF 2 q__law_word "" (F_number_of [tupI ss, tupI vs]) = .ok (.str (if good then if rg then "" else "badrow" else "badsizes")) := by
    cases good with
    | false => rw [bad_number (hbad rfl)]; exact word_bs
    | true =>
      have z := fine_number (vs := vs) (hfine rfl)
      rw [hrg] at z
      cases rg with
      | true => obtain ⟨d, e⟩ := z.1 rfl; rw [e]; rfl
      | false => rw [z.2 rfl]; exact word_br
  have w3 : wordF 2 q__law_word "" (F_row_of [tupI ss, .int n]) = .ok (.str (if good then if decide (0 ≤ n) && decide (n < w) then "" else "badrow" else "badsizes")) := by
    cases good with
    | false => rw [bad_rowof (hbad rfl)]; exact word_bs
    | true =>
      have G := hfine rfl
      have ew := hw1 rfl
      by_cases c : 0 ≤ n ∧ n < w
      · rw [rowof_ok G c.1 (by omega), decide_eq_true c.1, decide_eq_true c.2]; rfl
      · rw [fine_rowof G (by rw [← ew]; exact c)]
        have : (decide (0 ≤ n) && decide (n < w)) = false := by
          rw [Bool.eq_false_iff]
          simpa using c
        rw [this]
        exact word_br
  generalize hs1 : (if good then "" else "badsizes" : Str) = s1 at w1
  generalize hs2 : (if good then if rg then "" else "badrow" else "badsizes" : Str) = s2 at w2
  generalize hs3 : (if good then if decide (0 ≤ n) && decide (n < w) then "" else "badrow" else "badsizes" : Str) = s3 at w3
  refine ex_seq (δ' := [A, some (.im (.int x)), some (.im (.lst [.int d0, .int d1, .int d2, .int d3, .int d4, .int d5])), some (.im (tupI ss)), some (.im (tupI vs)), some (.im (.bl good)), some (.im (.str s2)), some (.im (.int w)), some (.im (.int n)), some (.im (.str s3)), some (.ow [.str s1]), o11, o12, o13]) (by simp [w1]) ?_
  refine ex_seq (δ' := [A, some (.im (.int x)), some (.im (.lst [.int d0, .int d1, .int d2, .int d3, .int d4, .int d5])), some (.im (tupI ss)), some (.im (tupI vs)), some (.im (.bl good)), some (.im (.str s2)), some (.im (.int w)), some (.im (.int n)), some (.im (.str s3)), some (.ow [.str s1, .str s2]), o11, o12, o13]) (by
    have : 1 < sizeLine := by decide
    simp [w2, this]) ?_
  refine ex_seq (δ' := [A, some (.im (.int x)), some (.im (.lst [.int d0, .int d1, .int d2, .int d3, .int d4, .int d5])), some (.im (tupI ss)), some (.im (tupI vs)), some (.im (.bl good)), some (.im (.str s2)), some (.im (.int w)), some (.im (.int n)), some (.im (.str s3)), some (.ow [.str s1, .str s2, .str s3]), o11, o12, o13]) (by
    have : 2 < sizeLine := by decide
    simp [w3, this]) ?_
  have k0 : scalP (.str "") := show SeqAt.shaped (.str "") = true by decide +kernel
  have k1 : scalP (.str "badsizes") := show SeqAt.shaped (.str "badsizes") = true by decide +kernel
  have k2 : scalP (.str "badrow") := show SeqAt.shaped (.str "badrow") = true by decide +kernel
  have ok1 : scalP (.str s1) := by subst hs1; split <;> assumption
  have ok2 : scalP (.str s2) := by subst hs2; split <;> (try split) <;> assumption
  have ok3 : scalP (.str s3) := by subst hs3; split <;> (try split) <;> assumption
  have hsame : F__law_same 6 [.lst [.str s1, .str s2, .str s3], .lst [.str s1, .str s2, .str s3]] = .ok (.bl true) := same_refl 5 _ ⟨by rw [sizeLine_eq]; simp, by
    intro d hd
    simp only [List.mem_cons, List.not_mem_nil, or_false] at hd
    rcases hd with rfl | rfl | rfl
    · exact ok1
    · exact ok2
    · exact ok3⟩
  refine ex_seq (δ' := [A, some (.im (.int x)), some (.im (.lst [.int d0, .int d1, .int d2, .int d3, .int d4, .int d5])), some (.im (tupI ss)), some (.im (tupI vs)), some (.im (.bl good)), some (.im (.str s2)), some (.im (.int w)), some (.im (.int n)), some (.im (.str s3)), some (.ow [.str s1, .str s2, .str s3]), o11, o12, o13]) (by
    cases good with
    | true => simp only [if_true] at hs1; subst hs1; simp [hsame]
    | false => simp only [Bool.false_eq_true, if_false] at hs1; subst hs1; simp [hsame]) ?_
  have hq : ∀ z : Str, scalP (.str z) → oEqB false (.v (.str z)) (.v (.str "")) = .ok (.bl (decide (z = ""))) := fun z hz => eq_strs (neg := false) (Bool.and_eq_true_iff.mp hz).1 (by decide +kernel)
  by_cases hgo : good = true ∧ s2 = ""
  · obtain ⟨rfl, rfl⟩ := hgo
    have hrt : rg = true := by
      cases rg with
      | true => rfl
      | false => exact absurd hs2 (by decide)
    have hl : vs.length = ss.length := (rowB_ok (hrg.trans hrt)).1
    have hz : vs.length ≤ sizeLine := by rw [sizeLine_eq]; omega
    have hr := gRange1_nat hz
    have hfd : oFdiv (.int d5) (.int 2) = .ok (.int (d5 / 2)) := oFdiv_pos (by decide) (by decide)
    refine ⟨_, if_t (by simp [hq _ k0]) (seq_nx (δ' := [A, some (.im (.int x)), some (.im (.lst [.int d0, .int d1, .int d2, .int d3, .int d4, .int d5])), some (.im (tupI ss)), some (.im (tupI vs)), some (.im (.bl true)), some (.im (.str "")), some (.im (.int w)), some (.im (.int n)), some (.im (.str s3)), some (.ow [.str s1, .str "", .str s3]), some (.im (.tup (dQ (((List.range vs.length).filter fun (k : Nat) => decide (d5 / 2 % ((k : Int) + 2) > 0)).map fun (k : Nat) => ((k : Int), (d5 + k) % 2))))), o12, o13]) ?_ (if_f ?_ rfl)), p14 ..⟩
    · have hlc : lcF (bName 12) (cTest (cBin oGt (cBin oMod (cBin oFdiv (cBin oIx (cVar 2) (cC (.int 5))) (cC (.int 2))) (cBin oAdd (cVar 12) (cC (.int 2)))) (cC (.int 0)))) (cTup (cCons (cVar 12) (cCons (cBin oMod (cBin oAdd (cBin oIx (cVar 2) (cC (.int 5))) (cVar 12)) (cC (.int 2))) cNil))) (rangeD 0 vs.length)
          [A, some (.im (.int x)), some (.im (.lst [.int d0, .int d1, .int d2, .int d3, .int d4, .int d5])), some (.im (tupI ss)), some (.im (tupI vs)), some (.im (.bl true)), some (.im (.str "")), some (.im (.int w)), some (.im (.int n)), some (.im (.str s3)), some (.ow [.str s1, .str "", .str s3]), o11, none, o13] = .ok (dQ (((List.range vs.length).filter fun (k : Nat) => decide (d5 / 2 % ((k : Int) + 2) > 0)).map fun (k : Nat) => ((k : Int), (d5 + k) % 2))) := by
        unfold dQ
        rw [List.map_map]
        refine lcF_filter (fun (k : Nat) => D.int (0 + (k : Int))) (fun (k : Nat) => decide (d5 / 2 % ((k : Int) + 2) > 0)) _ _ fun k hk => ⟨_, rfl, ?_, fun _ => ?_⟩
        · have hmo : oMod (.int (d5 / 2)) (.int ((k : Int) + 2)) = .ok (.int (d5 / 2 % ((k : Int) + 2))) := oMod_pos (by omega)
          simp [i5, hfd, hmo]
        · have hmo : oMod (.int (d5 + (k : Int))) (.int 2) = .ok (.int ((d5 + (k : Int)) % 2)) := oMod_pos (by decide)
          simp [i5, hmo]
      have hz2 : (rangeD 0 vs.length).length ≤ sizeLine := by rw [rangeD_len]; exact hz
      simp [hr, hz2, hlc, gTuple]
    · generalize hps : (((List.range vs.length).filter fun (k : Nat) => decide (d5 / 2 % ((k : Int) + 2) > 0)).map fun (k : Nat) => ((k : Int), (d5 + k) % 2)) = ps
      have hpl : ps.length ≤ sizeLine := by
        subst hps
        rw [List.length_map]
        refine Nat.le_trans (List.length_filter_le ..) ?_
        simpa using hz
      have hin : ∀ p ∈ ps, 0 ≤ p.1 ∧ p.1 < vs.length := by
        subst hps
        intro p hp
        obtain ⟨k, hk, rfl⟩ := List.mem_map.mp hp
        have := List.mem_range.mp (List.mem_filter.mp hk).1
        exact ⟨by simp, by simp; omega⟩
      have hf := fits_ok hpl hin
      have hlc : lcF (bTup 2 (bCons (bName 12) (bCons (bName 13) bNil))) cYes (cBin oEq (cBin oIx (cVar 4) (cVar 12)) (cVar 13)) (dQ ps)
          [A, some (.im (.int x)), some (.im (.lst [.int d0, .int d1, .int d2, .int d3, .int d4, .int d5])), some (.im (tupI ss)), some (.im (tupI vs)), some (.im (.bl true)), some (.im (.str "")), some (.im (.int w)), some (.im (.int n)), some (.im (.str s3)), some (.ow [.str s1, .str "", .str s3]), some (.im (.tup (dQ ps))), none, none] = .ok (ps.map fun p => D.bl (valB vs p)) := by
        refine lcF_map _ _ _ fun p hp => ⟨_, rfl, rfl, ?_⟩
        have := ix_val (hin p hp).1 (hin p hp).2
        simp [this, valB, -List.getD_eq_getElem?_getD]
      have hz' : (dQ ps).length ≤ sizeLine := by simpa [dQ] using hpl
      have ha := ev_all' (xs := ps) (p := valB vs)
      have hsm : F__law_same 6 [.bl (ps.all (valB vs)), .bl (ps.all (valB vs))] = .ok (.bl true) := same_refl 5 (.bl _) trivial
      simp [hf, hz', hlc, ha, hsm]
  · refine ⟨_, if_f ?_ rfl, p14 ..⟩
    cases good with
    | false => simp
    | true =>
      have : ¬ (s2 = "") := fun z => hgo ⟨rfl, z⟩
      simp [hq _ ok2, this]
theorem law_true (ns : List Int) (h : ns.length ≤ 63) : F_law [.lst (ns.map D.int)] = .ok (.bl true) := by
  have hcut : cutD (ns.map D.int) none (some 63) = ns.map D.int := by
    rw [cutD_map]
    have : HT.sIx ns.length ns.length (some 63) = ns.length := by
      rw [show (some 63 : Option Int) = some ((63 : Nat) : Int) from rfl, HT.sIx_nat]
      omega
    rw [this]
    show List.map D.int (List.take (ns.length - 0) (List.drop 0 ns)) = _
    simp
  have hadd : oAdd (.lst (ns.map D.int)) (.lst [.int 0, .int 1, .int 2]) = .ok (.lst ((ns ++ [0, 1, 2]).map D.int)) := by
    unfold oAdd
    dsimp only
    rw [if_pos (by rw [sizeLine_eq, List.length_map]; simp; omega)]
    simp
  obtain ⟨δ2, e, -⟩ := forF_inv D.int P14 (b := bName 1) (g := g_law_l1) (ns ++ [0, 1, 2]) [some (.im (.lst (ns.map D.int))), none, none, none, none, none, none, none, none, none, none, none, none, none] (p14 ..) (by
    rintro δ x hx ⟨a, b, c, d, e, f, g, h, i, j, k, l, m, n, rfl⟩
    obtain ⟨δ2, h1, h2⟩ := cell_turn x a c d e f g h i j k l m n
    exact ⟨_, δ2, rfl, h1, h2⟩)
  unfold F_law
  rw [defF_ev]
  show flR (g_law [some (.im (.lst (ns.map D.int))), none, none, none, none, none, none, none, none, none, none, none, none, none]) = _
  unfold g_law
  rw [seq_nx (asg_nx (d := .lst (ns.map D.int)) (by simp [hcut])) (seq_nx (for_r (ds := (ns ++ [0, 1, 2]).map D.int) (by simp [hadd]) e) (ret_rt rfl))]
  rfl
end My
namespace My
open PySem L2 DV

def top (i : Nat) : Stmt := PySem.Challenge.pw_tallyloom_k05_rows_refused.main.body.getD i (.Pass ⟨0, 0, 0, 0⟩)
abbrev s_multiplied : Stmt := top 10
abbrev s_look_sizes : Stmt := top 11
abbrev s_look_row : Stmt := top 12
abbrev s_many_rows : Stmt := top 13
abbrev s_number_of : Stmt := top 14
abbrev s_row_of : Stmt := top 15
abbrev s_fits : Stmt := top 16
abbrev s__law_draws : Stmt := top 18
abbrev s__law_rows : Stmt := top 19
abbrev s__law_word : Stmt := top 20
abbrev s__law_same : Stmt := top 21
abbrev s__law_sizes_good : Stmt := top 22
abbrev s__law_row_good : Stmt := top 23
abbrev s_law : Stmt := top 24
abbrev si_BadSizes : Stmt := inCls (top 3) 0
abbrev si_BadRow : Stmt := inCls (top 4) 0
abbrev si_NothingLeft : Stmt := inCls (top 5) 0
structure Ads where
  c_BadSizes : Addr
  i_BadSizes : Addr
  di_BadSizes : FuncData
  c_BadRow : Addr
  i_BadRow : Addr
  di_BadRow : FuncData
  c_NothingLeft : Addr
  i_NothingLeft : Addr
  di_NothingLeft : FuncData
  c_Absent : Addr
  c_LoomError : Addr
  f_multiplied : Addr
  d_multiplied : FuncData
  f_look_sizes : Addr
  d_look_sizes : FuncData
  f_look_row : Addr
  d_look_row : FuncData
  f_many_rows : Addr
  d_many_rows : FuncData
  f_number_of : Addr
  d_number_of : FuncData
  f_row_of : Addr
  d_row_of : FuncData
  f_fits : Addr
  d_fits : FuncData
  f__law_draws : Addr
  d__law_draws : FuncData
  f__law_rows : Addr
  d__law_rows : FuncData
  f__law_word : Addr
  d__law_word : FuncData
  f__law_same : Addr
  d__law_same : FuncData
  f__law_sizes_good : Addr
  d__law_sizes_good : FuncData
  f__law_row_good : Addr
  d__law_row_good : FuncData
  f_law : Addr
  d_law : FuncData
  v_MOST_COLUMNS : V
  u_MOST_COLUMNS : Value
  v_MOST_ROWS : V
  u_MOST_ROWS : Value
  v_MOST_SIZE : V
  u_MOST_SIZE : Value
structure Txt (K : PySem.W.Frag) (mg : Str → Option Value) (a : Ads) : Prop where
  X_BadSizes : ExK K mg "BadSizes" a.c_BadSizes a.i_BadSizes
  IF_BadSizes : Fun K "__init__" "BadSizes.__init__" si_BadSizes a.i_BadSizes a.di_BadSizes
  ib_BadSizes : Binds K a.di_BadSizes ["self"] []
  xc_BadSizes : XcK K (.ref a.c_BadSizes)
  X_BadRow : ExK K mg "BadRow" a.c_BadRow a.i_BadRow
  IF_BadRow : Fun K "__init__" "BadRow.__init__" si_BadRow a.i_BadRow a.di_BadRow
  ib_BadRow : Binds K a.di_BadRow ["self"] []
  xc_BadRow : XcK K (.ref a.c_BadRow)
  X_NothingLeft : ExK K mg "NothingLeft" a.c_NothingLeft a.i_NothingLeft
  IF_NothingLeft : Fun K "__init__" "NothingLeft.__init__" si_NothingLeft a.i_NothingLeft a.di_NothingLeft
  ib_NothingLeft : Binds K a.di_NothingLeft ["self"] []
  xc_NothingLeft : XcK K (.ref a.c_NothingLeft)
  hm_Absent : mg "Absent" = some (.ref a.c_Absent)
  hm_LoomError : mg "LoomError" = some (.ref a.c_LoomError)
  hm_NothingLeft : mg "NothingLeft" = some (.ref a.c_NothingLeft)
  ex_BadSizes_NothingLeft : PySem.W.exmOne K (.ref a.c_BadSizes) (.ref a.c_NothingLeft) = some false
  ex_BadRow_NothingLeft : PySem.W.exmOne K (.ref a.c_BadRow) (.ref a.c_NothingLeft) = some false
  ex_NothingLeft_NothingLeft : PySem.W.exmOne K (.ref a.c_NothingLeft) (.ref a.c_NothingLeft) = some true
  ex_BadSizes_Absent : PySem.W.exmOne K (.ref a.c_BadSizes) (.ref a.c_Absent) = some false
  ex_BadRow_Absent : PySem.W.exmOne K (.ref a.c_BadRow) (.ref a.c_Absent) = some false
  ex_NothingLeft_Absent : PySem.W.exmOne K (.ref a.c_NothingLeft) (.ref a.c_Absent) = some false
  ex_BadSizes_LoomError : PySem.W.exmOne K (.ref a.c_BadSizes) (.ref a.c_LoomError) = some true
  ex_BadRow_LoomError : PySem.W.exmOne K (.ref a.c_BadRow) (.ref a.c_LoomError) = some true
  ex_NothingLeft_LoomError : PySem.W.exmOne K (.ref a.c_NothingLeft) (.ref a.c_LoomError) = some false
  F_multiplied : Fun K "multiplied" "multiplied" s_multiplied a.f_multiplied a.d_multiplied
  g_multiplied : mg "multiplied" = some (.ref a.f_multiplied)
  k_multiplied : PySem.W.keepIn K (.ref a.f_multiplied) = true
  bd_multiplied : Binds K a.d_multiplied ["sizes"] []
  F_look_sizes : Fun K "look_sizes" "look_sizes" s_look_sizes a.f_look_sizes a.d_look_sizes
  g_look_sizes : mg "look_sizes" = some (.ref a.f_look_sizes)
  k_look_sizes : PySem.W.keepIn K (.ref a.f_look_sizes) = true
  bd_look_sizes : Binds K a.d_look_sizes ["sizes"] []
  F_look_row : Fun K "look_row" "look_row" s_look_row a.f_look_row a.d_look_row
  g_look_row : mg "look_row" = some (.ref a.f_look_row)
  k_look_row : PySem.W.keepIn K (.ref a.f_look_row) = true
  bd_look_row : Binds K a.d_look_row ["sizes", "row"] []
  F_many_rows : Fun K "many_rows" "many_rows" s_many_rows a.f_many_rows a.d_many_rows
  g_many_rows : mg "many_rows" = some (.ref a.f_many_rows)
  k_many_rows : PySem.W.keepIn K (.ref a.f_many_rows) = true
  bd_many_rows : Binds K a.d_many_rows ["sizes"] []
  F_number_of : Fun K "number_of" "number_of" s_number_of a.f_number_of a.d_number_of
  g_number_of : mg "number_of" = some (.ref a.f_number_of)
  k_number_of : PySem.W.keepIn K (.ref a.f_number_of) = true
  bd_number_of : Binds K a.d_number_of ["sizes", "row"] []
  F_row_of : Fun K "row_of" "row_of" s_row_of a.f_row_of a.d_row_of
  g_row_of : mg "row_of" = some (.ref a.f_row_of)
  k_row_of : PySem.W.keepIn K (.ref a.f_row_of) = true
  bd_row_of : Binds K a.d_row_of ["sizes", "number"] []
  F_fits : Fun K "fits" "fits" s_fits a.f_fits a.d_fits
  g_fits : mg "fits" = some (.ref a.f_fits)
  k_fits : PySem.W.keepIn K (.ref a.f_fits) = true
  bd_fits : Binds K a.d_fits ["row", "pairs"] []
  F__law_draws : Fun K "_law_draws" "_law_draws" s__law_draws a.f__law_draws a.d__law_draws
  g__law_draws : mg "_law_draws" = some (.ref a.f__law_draws)
  k__law_draws : PySem.W.keepIn K (.ref a.f__law_draws) = true
  bd__law_draws : Binds K a.d__law_draws ["_law_cell", "_law_sizes"] []
  F__law_rows : Fun K "_law_rows" "_law_rows" s__law_rows a.f__law_rows a.d__law_rows
  g__law_rows : mg "_law_rows" = some (.ref a.f__law_rows)
  k__law_rows : PySem.W.keepIn K (.ref a.f__law_rows) = true
  bd__law_rows : Binds K a.d__law_rows ["_law_sizes"] []
  F__law_word : Fun K "_law_word" "_law_word" s__law_word a.f__law_word a.d__law_word
  g__law_word : mg "_law_word" = some (.ref a.f__law_word)
  k__law_word : PySem.W.keepIn K (.ref a.f__law_word) = true
  bd__law_word : Binds K a.d__law_word ["_law_asked"] []
  F__law_same : Fun K "_law_same" "_law_same" s__law_same a.f__law_same a.d__law_same
  g__law_same : mg "_law_same" = some (.ref a.f__law_same)
  k__law_same : PySem.W.keepIn K (.ref a.f__law_same) = true
  bd__law_same : Binds K a.d__law_same ["_law_found", "_law_due"] []
  F__law_sizes_good : Fun K "_law_sizes_good" "_law_sizes_good" s__law_sizes_good a.f__law_sizes_good a.d__law_sizes_good
  g__law_sizes_good : mg "_law_sizes_good" = some (.ref a.f__law_sizes_good)
  k__law_sizes_good : PySem.W.keepIn K (.ref a.f__law_sizes_good) = true
  bd__law_sizes_good : Binds K a.d__law_sizes_good ["_law_sizes"] []
  F__law_row_good : Fun K "_law_row_good" "_law_row_good" s__law_row_good a.f__law_row_good a.d__law_row_good
  g__law_row_good : mg "_law_row_good" = some (.ref a.f__law_row_good)
  k__law_row_good : PySem.W.keepIn K (.ref a.f__law_row_good) = true
  bd__law_row_good : Binds K a.d__law_row_good ["_law_sizes", "_law_row"] []
  F_law : Fun K "law" "law" s_law a.f_law a.d_law
  g_law : mg "law" = some (.ref a.f_law)
  k_law : PySem.W.keepIn K (.ref a.f_law) = true
  bd_law : Binds K a.d_law ["_law_script"] []
  b_abs : mg "abs" = none
  b_all : mg "all" = none
  b_bool : mg "bool" = none
  b_divmod : mg "divmod" = none
  b_int : mg "int" = none
  b_isinstance : mg "isinstance" = none
  b_len : mg "len" = none
  b_list : mg "list" = none
  b_max : mg "max" = none
  b_range : mg "range" = none
  b_str : mg "str" = none
  b_tuple : mg "tuple" = none
  b_zip : mg "zip" = none
  c_MOST_COLUMNS : mg "MOST_COLUMNS" = some a.u_MOST_COLUMNS
  w_MOST_COLUMNS : RelV a.v_MOST_COLUMNS a.u_MOST_COLUMNS
  r_MOST_COLUMNS : ∀ B, Rp K B a.v_MOST_COLUMNS (.int 6)
  c_MOST_ROWS : mg "MOST_ROWS" = some a.u_MOST_ROWS
  w_MOST_ROWS : RelV a.v_MOST_ROWS a.u_MOST_ROWS
  r_MOST_ROWS : ∀ B, Rp K B a.v_MOST_ROWS (.int 300)
  c_MOST_SIZE : mg "MOST_SIZE" = some a.u_MOST_SIZE
  w_MOST_SIZE : RelV a.v_MOST_SIZE a.u_MOST_SIZE
  r_MOST_SIZE : ∀ B, Rp K B a.v_MOST_SIZE (.int 4)
section
variable {P : Program} {w : World} {K : PySem.W.Frag} {mg : Str → Option Value} {base : Heap} {a : Ads}
theorem sc_BadSizes : FnScope ["self"] ["self"] (defScope si_BadSizes) := ⟨rfl, rfl, rfl, by decide +kernel, rfl, by decide +kernel, by decide +kernel⟩
theorem in_BadSizes (T : Txt K mg a) : FnOk P w K mg base (L2.CX P w) 1 a.i_BadSizes a.di_BadSizes ["self"] (spI K a.c_BadSizes 0 (fv1 "word" "badsizes")) :=
  init1_ok (k := 0) T.IF_BadSizes sc_BadSizes T.X_BadSizes.T T.xc_BadSizes.no fun cdv A outer s H E => pss_one (ps_osB (pv 0) pe_str)
theorem sc_BadRow : FnScope ["self"] ["self"] (defScope si_BadRow) := ⟨rfl, rfl, rfl, by decide +kernel, rfl, by decide +kernel, by decide +kernel⟩
theorem in_BadRow (T : Txt K mg a) : FnOk P w K mg base (L2.CX P w) 1 a.i_BadRow a.di_BadRow ["self"] (spI K a.c_BadRow 0 (fv1 "word" "badrow")) :=
  init1_ok (k := 0) T.IF_BadRow sc_BadRow T.X_BadRow.T T.xc_BadRow.no fun cdv A outer s H E => pss_one (ps_osB (pv 0) pe_str)
theorem sc_NothingLeft : FnScope ["self"] ["self"] (defScope si_NothingLeft) := ⟨rfl, rfl, rfl, by decide +kernel, rfl, by decide +kernel, by decide +kernel⟩
theorem in_NothingLeft (T : Txt K mg a) : FnOk P w K mg base (L2.CX P w) 1 a.i_NothingLeft a.di_NothingLeft ["self"] (spI K a.c_NothingLeft 0 (fv1 "word" "nothingleft")) :=
  init1_ok (k := 0) T.IF_NothingLeft sc_NothingLeft T.X_NothingLeft.T T.xc_NothingLeft.no fun cdv A outer s H E => pss_one (ps_osB (pv 0) pe_str)
theorem sc_multiplied : FnScope ["sizes", "found", "size"] ["sizes"] (defScope s_multiplied) := ⟨rfl, rfl, rfl, by decide +kernel, rfl, by decide +kernel, by decide +kernel⟩
theorem ok_multiplied (T : Txt K mg a) : FnOk P w K mg base (L2.CX P w) 1 a.f_multiplied a.d_multiplied ["sizes"] (spD K 1 F_multiplied) := by
  refine def_ok (k := 0) T.F_multiplied sc_multiplied rfl fun cdv A outer s H E hr tk po hu => ?_
  have nd := sc_multiplied.nd
  exact ⟨_, (css_cons (cs_set 1 nd ce_int)
  (css_cons (cs_for po rfl (ci_seq K (by rfl) (ce_var 0)) (cg_name 2 nd) (css_one (cs_aug 1 nd (ce_var 2) oi_mul)))
  (css_one (cs_ret (ce_var 1)))))⟩
theorem sc_look_sizes : FnScope ["sizes", "size"] ["sizes"] (defScope s_look_sizes) := ⟨rfl, rfl, rfl, by decide +kernel, rfl, by decide +kernel, by decide +kernel⟩
theorem ok_look_sizes (T : Txt K mg a) : FnOk P w K mg base (L2.CX P w) 3 a.f_look_sizes a.d_look_sizes ["sizes"] (spD K 1 F_look_sizes) := by
  refine def_ok (k := 2) T.F_look_sizes sc_look_sizes rfl fun cdv A outer s H E hr tk po hu => ?_
  have nd := sc_look_sizes.nd
  exact ⟨_, (css_cons (cs_if (CW.ct (cw_or (ct_not (ct_cc o_le o_le ce_int (ce_callB (k_len K (by rfl)) T.b_len (by decide +kernel) (ca_cons (ce_var 0) ca_nil)) (ce_glob (by rfl) T.c_MOST_COLUMNS T.w_MOST_COLUMNS (fun B => T.r_MOST_COLUMNS B)))) (cw_or1 (ct_not (ct_val (ce_callB (k_all K (by rfl) (by rfl)) T.b_all (by decide +kernel) (ca_cons (ce_l (lc_1 (own := [("size", 1)]) s rfl nd (ci_seq K (by rfl) (ce_var 0)) (blkOk_by (by kernel_rfl)) (fun _ _ _ _ _ => (cg_name 1 nd)) (fun _ _ _ _ _ => cts_nil) (fun _ _ _ _ _ => (ce_cc o_le o_le ce_int (ce_var 1) (ce_glob (by rfl) T.c_MOST_SIZE T.w_MOST_SIZE (fun B => T.r_MOST_SIZE B))))).toCF) ca_nil))))))) (css_one (cs_raise0 K (by rfl) tk T.X_BadSizes (in_BadSizes T) (hr.mono (by decide)) T.ib_BadSizes ff1)) css_nil)
  (css_one (cs_if (ct_c o_gt (ce_f K (by rfl) (ok_multiplied T) (hr.mono (by decide)) T.g_multiplied T.k_multiplied T.bd_multiplied tk (ca_cons (ce_var 0) ca_nil)) (ce_glob (by rfl) T.c_MOST_ROWS T.w_MOST_ROWS (fun B => T.r_MOST_ROWS B))) (css_one (cs_raise0 K (by rfl) tk T.X_BadSizes (in_BadSizes T) (hr.mono (by decide)) T.ib_BadSizes ff1)) css_nil)))⟩
theorem sc_look_row : FnScope ["sizes", "row", "value", "size"] ["sizes", "row"] (defScope s_look_row) := ⟨rfl, rfl, rfl, by decide +kernel, rfl, by decide +kernel, by decide +kernel⟩
theorem ok_look_row (T : Txt K mg a) : FnOk P w K mg base (L2.CX P w) 3 a.f_look_row a.d_look_row ["sizes", "row"] (spD K 2 F_look_row) := by
  refine def_ok (k := 2) T.F_look_row sc_look_row rfl fun cdv A outer s H E hr tk po hu => ?_
  have nd := sc_look_row.nd
  exact ⟨_, (css_one (cs_if (CW.ct (cw_or (ct_c (o_ne K (by rfl) hu) (ce_callB (k_len K (by rfl)) T.b_len (by decide +kernel) (ca_cons (ce_var 1) ca_nil)) (ce_callB (k_len K (by rfl)) T.b_len (by decide +kernel) (ca_cons (ce_var 0) ca_nil))) (cw_or1 (ct_not (ct_val (ce_callB (k_all K (by rfl) (by rfl)) T.b_all (by decide +kernel) (ca_cons (ce_l (lc_1 (own := [("value", 2), ("size", 3)]) s rfl nd (ci_zip K (by rfl) T.b_zip (ca_cons (ce_var 1) (ca_cons (ce_var 0) ca_nil))) (blkOk_by (by kernel_rfl)) (fun _ _ _ _ _ => (cg_tup K (by rfl) (by rfl) (cgs_cons (cg_name 2 nd) (cgs_cons (cg_name 3 nd) cgs_nil (by rfl)) (by rfl)) (by rfl) (by rfl))) (fun _ _ _ _ _ => cts_nil) (fun _ _ _ _ _ => (ce_cc o_le o_lt ce_int (ce_var 2) (ce_var 3)))).toCF) ca_nil))))))) (css_one (cs_raise0 K (by rfl) tk T.X_BadRow (in_BadRow T) (hr.mono (by decide)) T.ib_BadRow ff1)) css_nil))⟩
theorem sc_many_rows : FnScope ["sizes"] ["sizes"] (defScope s_many_rows) := ⟨rfl, rfl, rfl, by decide +kernel, rfl, by decide +kernel, by decide +kernel⟩
theorem ok_many_rows (T : Txt K mg a) : FnOk P w K mg base (L2.CX P w) 4 a.f_many_rows a.d_many_rows ["sizes"] (spD K 1 F_many_rows) := by
  refine def_ok (k := 3) T.F_many_rows sc_many_rows rfl fun cdv A outer s H E hr tk po hu => ?_
  have nd := sc_many_rows.nd
  exact ⟨_, (css_cons (cs_expr (ce_f K (by rfl) (ok_look_sizes T) (hr.mono (by decide)) T.g_look_sizes T.k_look_sizes T.bd_look_sizes tk (ca_cons (ce_var 0) ca_nil)))
  (css_one (cs_ret (ce_f K (by rfl) (ok_multiplied T) (hr.mono (by decide)) T.g_multiplied T.k_multiplied T.bd_multiplied tk (ca_cons (ce_var 0) ca_nil)))))⟩
theorem sc_number_of : FnScope ["sizes", "row", "found", "value", "size"] ["sizes", "row"] (defScope s_number_of) := ⟨rfl, rfl, rfl, by decide +kernel, rfl, by decide +kernel, by decide +kernel⟩
theorem ok_number_of (T : Txt K mg a) : FnOk P w K mg base (L2.CX P w) 4 a.f_number_of a.d_number_of ["sizes", "row"] (spD K 2 F_number_of) := by
  refine def_ok (k := 3) T.F_number_of sc_number_of rfl fun cdv A outer s H E hr tk po hu => ?_
  have nd := sc_number_of.nd
  exact ⟨_, (css_cons (cs_expr (ce_f K (by rfl) (ok_look_sizes T) (hr.mono (by decide)) T.g_look_sizes T.k_look_sizes T.bd_look_sizes tk (ca_cons (ce_var 0) ca_nil)))
  (css_cons (cs_expr (ce_f K (by rfl) (ok_look_row T) (hr.mono (by decide)) T.g_look_row T.k_look_row T.bd_look_row tk (ca_cons (ce_var 0) (ca_cons (ce_var 1) ca_nil))))
  (css_cons (cs_set 2 nd ce_int)
  (css_cons (cs_for po rfl (ci_zip K (by rfl) T.b_zip (ca_cons (ce_var 1) (ca_cons (ce_var 0) ca_nil))) (cg_tup K (by rfl) (by rfl) (cgs_cons (cg_name 3 nd) (cgs_cons (cg_name 4 nd) cgs_nil (by rfl)) (by rfl)) (by rfl) (by rfl)) (css_one (cs_set 2 nd (ce_b (o_add K (by rfl)) (ce_b (o_mul K (by rfl)) (ce_var 2) (ce_var 4)) (ce_var 3)))))
  (css_one (cs_ret (ce_var 2)))))))⟩
theorem sc_row_of : FnScope ["sizes", "number", "left", "found", "size", "value"] ["sizes", "number"] (defScope s_row_of) := ⟨rfl, rfl, rfl, by decide +kernel, rfl, by decide +kernel, by decide +kernel⟩
theorem ok_row_of (T : Txt K mg a) : FnOk P w K mg base (L2.CX P w) 4 a.f_row_of a.d_row_of ["sizes", "number"] (spD K 2 F_row_of) := by
  refine def_ok (k := 3) T.F_row_of sc_row_of rfl fun cdv A outer s H E hr tk po hu => ?_
  have nd := sc_row_of.nd
  exact ⟨_, (css_cons (cs_expr (ce_f K (by rfl) (ok_look_sizes T) (hr.mono (by decide)) T.g_look_sizes T.k_look_sizes T.bd_look_sizes tk (ca_cons (ce_var 0) ca_nil)))
  (css_cons (cs_if (CW.ct (cw_or (ct_c o_lt (ce_var 1) ce_int) (cw_or1 (ct_c o_ge (ce_var 1) (ce_f K (by rfl) (ok_multiplied T) (hr.mono (by decide)) T.g_multiplied T.k_multiplied T.bd_multiplied tk (ca_cons (ce_var 0) ca_nil)))))) (css_one (cs_raise0 K (by rfl) tk T.X_BadRow (in_BadRow T) (hr.mono (by decide)) T.ib_BadRow ff1)) css_nil)
  (css_cons (cs_set 2 nd (ce_var 1))
  (css_cons (cs_own 3 nd (cf_lst ca_nil))
  (css_cons (cs_for po rfl (ci_seq K (by rfl) (ce_rev K (by rfl) (ce_var 0))) (cg_name 4 nd) (css_cons (cs_asg (ce_callB k_divmod T.b_divmod (by decide +kernel) (ca_cons (ce_var 2) (ca_cons (ce_var 4) ca_nil))) (cg_tup K (by rfl) (by rfl) (cgs_cons (cg_name 2 nd) (cgs_cons (cg_name 5 nd) cgs_nil (by rfl)) (by rfl)) (by rfl) (by rfl)))
  (css_one (cs_app 3 (ce_var 5) (pv 3)))))
  (css_one (cs_fz 3 (cs_ret (ce_callTy (k_tuple K (by rfl)) T.b_tuple (by decide +kernel) (ca_cons (ce_rev K (by rfl) (ce_var 3)) ca_nil))))))))))⟩
theorem sc_fits : FnScope ["row", "pairs", "column", "value"] ["row", "pairs"] (defScope s_fits) := ⟨rfl, rfl, rfl, by decide +kernel, rfl, by decide +kernel, by decide +kernel⟩
theorem ok_fits (T : Txt K mg a) : FnOk P w K mg base (L2.CX P w) 1 a.f_fits a.d_fits ["row", "pairs"] (spD K 2 F_fits) := by
  refine def_ok (k := 0) T.F_fits sc_fits rfl fun cdv A outer s H E hr tk po hu => ?_
  have nd := sc_fits.nd
  exact ⟨_, (css_one (cs_ret (ce_callB (k_all K (by rfl) (by rfl)) T.b_all (by decide +kernel) (ca_cons (ce_l (lc_1 (own := [("column", 2), ("value", 3)]) s rfl nd (ci_seq K (by rfl) (ce_var 1)) (blkOk_by (by kernel_rfl)) (fun _ _ _ _ _ => (cg_tup K (by rfl) (by rfl) (cgs_cons (cg_name 2 nd) (cgs_cons (cg_name 3 nd) cgs_nil (by rfl)) (by rfl)) (by rfl) (by rfl))) (fun _ _ _ _ _ => cts_nil) (fun _ _ _ _ _ => (ce_c (o_eq K (by rfl) hu) (ce_ix K (by rfl) (ce_var 0) (ce_var 2)) (ce_var 3)))).toCF) ca_nil))))⟩
theorem sc__law_draws : FnScope ["_law_cell", "_law_sizes", "_law_mixed", "_law_two", "_law_six", "_law_found", "_law_size"] ["_law_cell", "_law_sizes"] (defScope s__law_draws) := ⟨rfl, rfl, rfl, by decide +kernel, rfl, by decide +kernel, by decide +kernel⟩
theorem ok__law_draws (T : Txt K mg a) : FnOk P w K mg base (L2.CX P w) 1 a.f__law_draws a.d__law_draws ["_law_cell", "_law_sizes"] (spD K 2 F__law_draws) := by
  refine def_ok (k := 0) T.F__law_draws sc__law_draws rfl fun cdv A outer s H E hr tk po hu => ?_
  have nd := sc__law_draws.nd
  exact ⟨_, (css_cons (cs_if (ct_c o_lt (ce_callB k_abs T.b_abs (by decide +kernel) (ca_cons (ce_var 0) ca_nil)) (ce_b o_pow ce_int ce_int)) (css_cons (cs_set 2 nd (ce_b o_mod (ce_b (o_add K (by rfl)) (ce_b (o_mul K (by rfl)) (ce_var 0) ce_int) ce_int) ce_int))
  (css_cons (cs_set 3 nd (ce_b o_mod (ce_b (o_add K (by rfl)) (ce_b (o_add K (by rfl)) (ce_b (o_mul K (by rfl)) (ce_var 2) (ce_var 2)) (ce_b (o_mul K (by rfl)) ce_int (ce_var 2))) (ce_var 0)) ce_int))
  (css_cons (cs_set 4 nd (ce_b o_mod (ce_b (o_add K (by rfl)) (ce_b (o_mul K (by rfl)) (ce_var 3) ce_int) (ce_var 2)) ce_int))
  (css_one (cs_set 0 nd (ce_b (o_add K (by rfl)) (ce_var 3) (ce_b (o_mul K (by rfl)) ce_int (ce_b (o_add K (by rfl)) (ce_var 4) (ce_b (o_mul K (by rfl)) ce_int (ce_var 2)))))))))) (css_one (cs_set 0 nd (ce_b o_sub (ce_callB k_abs T.b_abs (by decide +kernel) (ca_cons (ce_var 0) ca_nil)) (ce_b o_pow ce_int ce_int)))))
  (css_cons (cs_own 5 nd (cf_lst ca_nil))
  (css_cons (cs_for po rfl (ci_seq K (by rfl) (ce_var 1)) (cg_name 6 nd) (css_cons (cs_app 5 (ce_b o_mod (ce_var 0) (ce_var 6)) (pv 5))
  (css_one (cs_set 0 nd (ce_b o_fdiv (ce_var 0) (ce_var 6))))))
  (css_one (cs_fz 5 (cs_ret (ce_var 5)))))))⟩
theorem sc__law_rows : FnScope ["_law_sizes", "_law_found", "_law_size", "_law_longer", "_law_row", "_law_value"] ["_law_sizes"] (defScope s__law_rows) := ⟨rfl, rfl, rfl, by decide +kernel, rfl, by decide +kernel, by decide +kernel⟩
theorem ok__law_rows (T : Txt K mg a) : FnOk P w K mg base (L2.CX P w) 1 a.f__law_rows a.d__law_rows ["_law_sizes"] (spD K 1 F__law_rows) := by
  refine def_ok (k := 0) T.F__law_rows sc__law_rows rfl fun cdv A outer s H E hr tk po hu => ?_
  have nd := sc__law_rows.nd
  exact ⟨_, (css_cons (cs_set 1 nd (ce_l (cf_lst (ca_cons (ce_tup ca_nil) ca_nil))))
  (css_cons (cs_for po rfl (ci_seq K (by rfl) (ce_var 0)) (cg_name 2 nd) (css_cons (cs_set 3 nd (ce_l (cf_lst ca_nil)))
  (css_cons (cs_for po rfl (ci_seq K (by rfl) (ce_var 1)) (cg_name 4 nd) (css_one (cs_set 3 nd (ce_b (o_add K (by rfl)) (ce_var 3) (ce_l (lc_1 (own := [("_law_value", 5)]) s rfl nd (ci_range1 T.b_range (ca_cons (ce_var 2) ca_nil)) (blkOk_by (by kernel_rfl)) (fun _ _ _ _ _ => (cg_name 5 nd)) (fun _ _ _ _ _ => cts_nil) (fun _ _ _ _ _ => (ce_b (o_add K (by rfl)) (ce_var 4) (ce_tup (ca_cons (ce_var 5) ca_nil))))).toCF)))))
  (css_one (cs_set 1 nd (ce_var 3))))))
  (css_one (cs_ret (ce_var 1)))))⟩
theorem sc__law_word : FnScope ["_law_asked", "e"] ["_law_asked"] (defScope s__law_word) := ⟨rfl, rfl, rfl, by decide +kernel, rfl, by decide +kernel, by decide +kernel⟩
theorem hd__law_word (T : Txt K mg a) : ∀ (A : Around) (outer : List Env) (cdv : Value) (s : Shared) (H : Hp), HdsC (cxOf (L2.CX P w) P w K mg base ["_law_asked", "e"] "_law_word" (defScope s__law_word) a.f__law_word cdv A outer s H (fun _ _ _ => False)) (tryHds (defBody s__law_word)) [(.ref a.c_LoomError, 1, fun a1 cls d => tRet (tXfB K a1 cls d "word" (tVar 1))), (.ref a.c_Absent, 1, fun a1 cls d => tRet (tXfB K a1 cls d "word" (tVar 1))), (.ref a.c_NothingLeft, 1, fun a1 cls d => tRet (tXfB K a1 cls d "word" (tVar 1)))] q__law_word :=
  fun A outer cdv s H => (HdsC.cons (i := 1) rfl rfl ⟨rfl, by decide, .inl T.hm_LoomError⟩ (tab_cons T.X_BadSizes.c T.ex_BadSizes_LoomError T.xc_BadSizes (tab_cons T.X_BadRow.c T.ex_BadRow_LoomError T.xc_BadRow (tab_cons T.X_NothingLeft.c T.ex_NothingLeft_LoomError T.xc_NothingLeft tab_nil))) (cxs_ret (cex_fld (fun _ _ _ _ _ _ _ => pv 1))) (HdsC.cons (i := 1) rfl rfl ⟨rfl, by decide, .inl T.hm_Absent⟩ (tab_cons T.X_BadSizes.c T.ex_BadSizes_Absent T.xc_BadSizes (tab_cons T.X_BadRow.c T.ex_BadRow_Absent T.xc_BadRow (tab_cons T.X_NothingLeft.c T.ex_NothingLeft_Absent T.xc_NothingLeft tab_nil))) (cxs_ret (cex_fld (fun _ _ _ _ _ _ _ => pv 1))) (HdsC.cons (i := 1) rfl rfl ⟨rfl, by decide, .inl T.hm_NothingLeft⟩ (tab_cons T.X_BadSizes.c T.ex_BadSizes_NothingLeft T.xc_BadSizes (tab_cons T.X_BadRow.c T.ex_BadRow_NothingLeft T.xc_BadRow (tab_cons T.X_NothingLeft.c T.ex_NothingLeft_NothingLeft T.xc_NothingLeft tab_nil))) (cxs_ret (cex_fld (fun _ _ _ _ _ _ _ => pv 1))) HdsC.nil)))
theorem sc__law_same : FnScope ["_law_found", "_law_due", "_law_k"] ["_law_found", "_law_due"] (defScope s__law_same) := ⟨rfl, rfl, rfl, by decide +kernel, rfl, by decide +kernel, by decide +kernel⟩
theorem ok__law_same (T : Txt K mg a) : ∀ n : Nat, FnOk P w K mg base (L2.CX P w) (1 + n) a.f__law_same a.d__law_same ["_law_found", "_law_due"] (spD K 2 (F__law_same n))
  | 0 => ⟨fun vs H Q E h => h.1, fun A outer s H args us vs Q E hr he hb hv h => (by obtain ⟨_, _, _, _, _, _, z⟩ := h; exact z.elim)⟩
  | n + 1 => by
    have ih := ok__law_same T n
    refine def_ok (k := 1 + n) T.F__law_same sc__law_same rfl fun cdv A outer s H E hr tk po hu => ?_
    have nd := sc__law_same.nd
    exact ⟨_, (css_cons (cs_if (ct_c o_is (ce_var 1) ce_non) (css_one (cs_ret (ce_c o_is (ce_var 0) ce_non))) css_nil)
  (css_cons (cs_if (ct_val (ce_callB (k_isi K (by rfl)) T.b_isinstance (by decide +kernel) (ca_cons (ce_var 1) (ca_cons (ce_bltn (v := .ty "str") (by rfl) T.b_str (by decide +kernel) rfl) ca_nil)))) (css_one (cs_ret (ce_and (ce_callB (k_isi K (by rfl)) T.b_isinstance (by decide +kernel) (ca_cons (ce_var 0) (ca_cons (ce_bltn (v := .ty "str") (by rfl) T.b_str (by decide +kernel) rfl) ca_nil))) (ce_one (ce_c (o_eq K (by rfl) hu) (ce_var 0) (ce_var 1)))))) css_nil)
  (css_cons (cs_if (ct_val (ce_callB (k_isi K (by rfl)) T.b_isinstance (by decide +kernel) (ca_cons (ce_var 1) (ca_cons (ce_bltn (v := .ty "int") (by rfl) T.b_int (by decide +kernel) rfl) ca_nil)))) (css_one (cs_ret (ce_and (ce_callB (k_isi K (by rfl)) T.b_isinstance (by decide +kernel) (ca_cons (ce_var 0) (ca_cons (ce_bltn (v := .ty "int") (by rfl) T.b_int (by decide +kernel) rfl) ca_nil))) (ce_and (ce_c (o_eq K (by rfl) hu) (ce_callB (k_isi K (by rfl)) T.b_isinstance (by decide +kernel) (ca_cons (ce_var 0) (ca_cons (ce_bltn (v := .ty "bool") (by rfl) T.b_bool (by decide +kernel) rfl) ca_nil))) (ce_callB (k_isi K (by rfl)) T.b_isinstance (by decide +kernel) (ca_cons (ce_var 1) (ca_cons (ce_bltn (v := .ty "bool") (by rfl) T.b_bool (by decide +kernel) rfl) ca_nil)))) (ce_one (ce_c (o_eq K (by rfl) hu) (ce_var 0) (ce_var 1))))))) css_nil)
  (css_cons (cs_if (CW.ct (cw_or (ct_c (o_ne K (by rfl) hu) (ce_callB (k_isi K (by rfl)) T.b_isinstance (by decide +kernel) (ca_cons (ce_var 1) (ca_cons (ce_bltn (v := .ty "list") (by rfl) T.b_list (by decide +kernel) rfl) ca_nil))) (ce_callB (k_isi K (by rfl)) T.b_isinstance (by decide +kernel) (ca_cons (ce_var 0) (ca_cons (ce_bltn (v := .ty "list") (by rfl) T.b_list (by decide +kernel) rfl) ca_nil)))) (cw_or1 (ct_c (o_ne K (by rfl) hu) (ce_callB (k_isi K (by rfl)) T.b_isinstance (by decide +kernel) (ca_cons (ce_var 1) (ca_cons (ce_bltn (v := .ty "tuple") (by rfl) T.b_tuple (by decide +kernel) rfl) ca_nil))) (ce_callB (k_isi K (by rfl)) T.b_isinstance (by decide +kernel) (ca_cons (ce_var 0) (ca_cons (ce_bltn (v := .ty "tuple") (by rfl) T.b_tuple (by decide +kernel) rfl) ca_nil))))))) (css_one (cs_ret ce_bl)) css_nil)
  (css_one (cs_ret (ce_and (ce_c (o_eq K (by rfl) hu) (ce_callB (k_len K (by rfl)) T.b_len (by decide +kernel) (ca_cons (ce_var 0) ca_nil)) (ce_callB (k_len K (by rfl)) T.b_len (by decide +kernel) (ca_cons (ce_var 1) ca_nil))) (ce_one (ce_callB (k_all K (by rfl) (by rfl)) T.b_all (by decide +kernel) (ca_cons (ce_l (lc_1 (own := [("_law_k", 2)]) s rfl nd (ci_range1 T.b_range (ca_cons (ce_callB (k_len K (by rfl)) T.b_len (by decide +kernel) (ca_cons (ce_var 1) ca_nil)) ca_nil)) (blkOk_by (by kernel_rfl)) (fun _ _ _ _ _ => (cg_name 2 nd)) (fun _ _ _ _ _ => cts_nil) (fun _ _ _ _ _ => (ce_f K (by rfl) ih (hr.mono (by omega)) T.g__law_same T.k__law_same T.bd__law_same takes0 (ca_cons (ce_ix K (by rfl) (ce_var 0) (ce_var 2)) (ca_cons (ce_ix K (by rfl) (ce_var 1) (ce_var 2)) ca_nil))))).toCF) ca_nil))))))))))⟩
theorem sc__law_sizes_good : FnScope ["_law_sizes", "_law_whole", "_law_size"] ["_law_sizes"] (defScope s__law_sizes_good) := ⟨rfl, rfl, rfl, by decide +kernel, rfl, by decide +kernel, by decide +kernel⟩
theorem ok__law_sizes_good (T : Txt K mg a) : FnOk P w K mg base (L2.CX P w) 1 a.f__law_sizes_good a.d__law_sizes_good ["_law_sizes"] (spD K 1 F__law_sizes_good) := by
  refine def_ok (k := 0) T.F__law_sizes_good sc__law_sizes_good rfl fun cdv A outer s H E hr tk po hu => ?_
  have nd := sc__law_sizes_good.nd
  exact ⟨_, (css_cons (cs_set 1 nd ce_int)
  (css_cons (cs_for po rfl (ci_seq K (by rfl) (ce_var 0)) (cg_name 2 nd) (css_one (cs_set 1 nd (ce_b (o_mul K (by rfl)) (ce_var 1) (ce_var 2)))))
  (css_one (cs_ret (ce_and (ce_cc o_le o_le ce_int (ce_callB (k_len K (by rfl)) T.b_len (by decide +kernel) (ca_cons (ce_var 0) ca_nil)) ce_int) (ce_and (ce_callB (k_all K (by rfl) (by rfl)) T.b_all (by decide +kernel) (ca_cons (ce_l (lc_1 (own := [("_law_size", 2)]) s rfl nd (ci_seq K (by rfl) (ce_var 0)) (blkOk_by (by kernel_rfl)) (fun _ _ _ _ _ => (cg_name 2 nd)) (fun _ _ _ _ _ => cts_nil) (fun _ _ _ _ _ => (ce_cc o_le o_le ce_int (ce_var 2) ce_int))).toCF) ca_nil)) (ce_one (ce_c o_le (ce_var 1) ce_int))))))))⟩
theorem sc__law_row_good : FnScope ["_law_sizes", "_law_row", "_law_k"] ["_law_sizes", "_law_row"] (defScope s__law_row_good) := ⟨rfl, rfl, rfl, by decide +kernel, rfl, by decide +kernel, by decide +kernel⟩
theorem ok__law_row_good (T : Txt K mg a) : FnOk P w K mg base (L2.CX P w) 1 a.f__law_row_good a.d__law_row_good ["_law_sizes", "_law_row"] (spD K 2 F__law_row_good) := by
  refine def_ok (k := 0) T.F__law_row_good sc__law_row_good rfl fun cdv A outer s H E hr tk po hu => ?_
  have nd := sc__law_row_good.nd
  exact ⟨_, (css_one (cs_ret (ce_and (ce_c (o_eq K (by rfl) hu) (ce_callB (k_len K (by rfl)) T.b_len (by decide +kernel) (ca_cons (ce_var 1) ca_nil)) (ce_callB (k_len K (by rfl)) T.b_len (by decide +kernel) (ca_cons (ce_var 0) ca_nil))) (ce_one (ce_callB (k_all K (by rfl) (by rfl)) T.b_all (by decide +kernel) (ca_cons (ce_l (lc_1 (own := [("_law_k", 2)]) s rfl nd (ci_range1 T.b_range (ca_cons (ce_callB (k_len K (by rfl)) T.b_len (by decide +kernel) (ca_cons (ce_var 1) ca_nil)) ca_nil)) (blkOk_by (by kernel_rfl)) (fun _ _ _ _ _ => (cg_name 2 nd)) (fun _ _ _ _ _ => cts_nil) (fun _ _ _ _ _ => (ce_cc o_le o_lt ce_int (ce_ix K (by rfl) (ce_var 1) (ce_var 2)) (ce_ix K (by rfl) (ce_var 0) (ce_var 2))))).toCF) ca_nil))))))⟩
theorem sc_law : FnScope ["_law_script", "_law_cell", "_law_drawn", "_law_sizes", "_law_row", "_law_good", "_law_due", "_law_whole", "_law_number", "_law_late", "_law_found", "_law_pairs", "_law_c", "_law_value"] ["_law_script"] (defScope s_law) := ⟨rfl, rfl, rfl, by decide +kernel, rfl, by decide +kernel, by decide +kernel⟩
theorem ok_law {oc kV doc pm ct : Value} {od an : Option Addr} {osl : Array (Option Value)} {cL PL : Addr} (T : Txt K mg a) (lL : K.lookup a.f_law = some ⟨oc, od, .func (PySem.W.fnOf "law" "law" (defArgs s_law) (defBody s_law) (defScope s_law) .none kV doc pm an (.ref cL) ct), osl⟩) (hcL : PySem.W.codeIn K (.ref cL) "law" = true) (hP : PL ∈ tabsOf K) (TB : LamX.TabB base mg cL PL) :
    FnOk P w K mg base (L2.CX P w) 8 a.f_law (PySem.W.fnOf "law" "law" (defArgs s_law) (defBody s_law) (defScope s_law) .none kV doc pm an (.ref cL) ct) ["_law_script"] (spD K 1 F_law) := by
  refine def_okC (k := 7) lL hcL sc_law rfl fun A outer s H E hr tk po hu => ?_
  have nd := sc_law.nd
  have hw__law_word := hd__law_word (P := P) (w := w) (base := base) T
  exact ⟨_, (css_cons (cs_set 0 nd (ce_sl K (by rfl) (ce_var 0) co_none (co_some ce_int)))
  (css_cons (cs_for po rfl (ci_seq K (by rfl) (ce_b (o_add K (by rfl)) (ce_var 0) (ce_l (cf_lst (ca_cons ce_int (ca_cons ce_int (ca_cons ce_int ca_nil))))))) (cg_name 1 nd) (css_cons (cs_set 2 nd (ce_f K (by rfl) (ok__law_draws T) (hr.mono (by decide)) T.g__law_draws T.k__law_draws T.bd__law_draws tk (ca_cons (ce_var 1) (ca_cons (ce_l (cf_lst (ca_cons ce_int (ca_cons ce_int (ca_cons ce_int (ca_cons ce_int (ca_cons ce_int (ca_cons ce_int ca_nil)))))))) ca_nil))))
  (css_cons (cs_set 3 nd (ce_ix K (by rfl) (ce_l (cf_lst (ca_cons (ce_tup ca_nil) (ca_cons (ce_tup (ca_cons ce_int (ca_cons ce_int (ca_cons ce_int (ca_cons ce_int ca_nil))))) (ca_cons (ce_tup (ca_cons ce_int (ca_cons ce_int (ca_cons ce_int (ca_cons ce_int (ca_cons ce_int ca_nil)))))) (ca_cons (ce_b (o_mul K (by rfl)) (ce_tup (ca_cons ce_int ca_nil)) ce_int) (ca_cons (ce_tup (ca_cons ce_int (ca_cons ce_int (ca_cons ce_int ca_nil)))) (ca_cons (ce_tup (ca_cons ce_int (ca_cons ce_int (ca_cons ce_int (ca_cons ce_int (ca_cons ce_int ca_nil)))))) (ca_cons (ce_tup (ca_cons ce_int (ca_cons ce_int ca_nil))) (ca_cons (ce_tup (ca_cons ce_int (ca_cons ce_int (ca_cons ce_int ca_nil)))) ca_nil)))))))))) (ce_ix K (by rfl) (ce_var 2) ce_int)))
  (css_cons (cs_own 4 nd (cf_sl K (by rfl) (ce_l (cf_lst (ca_cons ce_int (ca_cons ce_int (ca_cons ce_int (ca_cons ce_int (ca_cons ce_int (ca_cons ce_int (ca_cons ce_int ca_nil))))))))) co_none (co_some (ce_callB (k_max K (by rfl) (by rfl)) T.b_max (by decide +kernel) (ca_cons ce_int (ca_cons (ce_b (o_add K (by rfl)) (ce_callB (k_len K (by rfl)) T.b_len (by decide +kernel) (ca_cons (ce_var 3) ca_nil)) (ce_ix K (by rfl) (ce_l (cf_lst (ca_cons ce_int (ca_cons ce_int (ca_cons ce_int (ca_cons (ce_neg ce_int) (ca_cons ce_int (ca_cons ce_int ca_nil)))))))) (ce_ix K (by rfl) (ce_var 2) ce_int))) ca_nil))))))
  (css_cons (cs_if (ct_look 4 (ct_c (o_ne K (by rfl) hu) (ce_var 4) (ce_l (cf_lst ca_nil)))) (css_one (cs_put 4 (ce_ix K (by rfl) (ce_l (cf_lst (ca_cons ce_int (ca_cons ce_int (ca_cons (ce_neg ce_int) (ca_cons ce_int (ca_cons ce_int (ca_cons (ce_b o_pow ce_int ce_int) ca_nil)))))))) (ce_ix K (by rfl) (ce_var 2) ce_int)) (ce_look 4 (ce_b o_mod (ce_ix K (by rfl) (ce_var 2) ce_int) (ce_callB (k_len K (by rfl)) T.b_len (by decide +kernel) (ca_cons (ce_var 4) ca_nil)))) (pv 4))) css_nil)
  (css_cons (cs_fz 4 (cs_set 4 nd (ce_callTy (k_tuple K (by rfl)) T.b_tuple (by decide +kernel) (ca_cons (ce_var 4) ca_nil))))
  (css_cons (cs_set 5 nd (ce_f K (by rfl) (ok__law_sizes_good T) (hr.mono (by decide)) T.g__law_sizes_good T.k__law_sizes_good T.bd__law_sizes_good tk (ca_cons (ce_var 3) ca_nil)))
  (css_cons (cs_fz 4 (cs_set 6 nd (ce_if (ct_not (ct_val (ce_var 5))) ce_str (ce_if (ct_val (ce_f K (by rfl) (ok__law_row_good T) (hr.mono (by decide)) T.g__law_row_good T.k__law_row_good T.bd__law_row_good tk (ca_cons (ce_var 3) (ca_cons (ce_var 4) ca_nil)))) ce_str ce_str))))
  (css_cons (cs_set 7 nd (ce_if (ct_val (ce_var 5)) (ce_callB (k_len K (by rfl)) T.b_len (by decide +kernel) (ca_cons (ce_f K (by rfl) (ok__law_rows T) (hr.mono (by decide)) T.g__law_rows T.k__law_rows T.bd__law_rows tk (ca_cons (ce_var 3) ca_nil)) ca_nil)) ce_int))
  (css_cons (cs_set 8 nd (ce_ix K (by rfl) (ce_l (cf_lst (ca_cons ce_int (ca_cons (ce_b o_sub (ce_var 7) ce_int) (ca_cons (ce_var 7) (ca_cons (ce_neg ce_int) (ca_cons (ce_b o_mod (ce_ix K (by rfl) (ce_var 2) ce_int) (ce_var 7)) (ca_cons (ce_b o_pow ce_int ce_int) ca_nil)))))))) (ce_ix K (by rfl) (ce_var 2) ce_int)))
  (css_cons (cs_set 9 nd (ce_if (ct_not (ct_val (ce_var 5))) ce_str (ce_if (ct_cc o_le o_lt ce_int (ce_var 8) (ce_var 7)) ce_str ce_str)))
  (css_cons (cs_own 10 nd (cf_lst (ca_cons (ce_lamF (k := 4) K (by rfl) T.F__law_word T.g__law_word T.bd__law_word sc__law_word rfl (by first | exact Or.inl rfl | exact Or.inr (Or.inl rfl)) rfl (fun cdv1 s1 H1 => hw__law_word _ _ cdv1 s1 H1) s H TB rfl hP rfl (hr.mono (by decide)) (LamX.lamS_by (by kernel_rfl)) rfl (fun _ _ _ _ _ => rfl) (fun A1 outer1 s H E1 f1 c1 hr => have hu := hr.units; (ce_f K (by rfl) (ok_many_rows T) (hr.mono (by decide)) T.g_many_rows T.k_many_rows T.bd_many_rows (takes_of rfl rfl rfl rfl) (ca_cons (ce_var 3) ca_nil)))) ca_nil)))
  (css_cons (cs_app 10 (ce_look 4 (ce_lamF (k := 4) K (by rfl) T.F__law_word T.g__law_word T.bd__law_word sc__law_word rfl (by first | exact Or.inl rfl | exact Or.inr (Or.inl rfl)) rfl (fun cdv1 s1 H1 => hw__law_word _ _ cdv1 s1 H1) s H TB rfl hP rfl (hr.mono (by decide)) (LamX.lamS_by (by kernel_rfl)) rfl (fun _ _ _ _ _ => rfl) (fun A1 outer1 s H E1 f1 c1 hr => have hu := hr.units; (ce_f K (by rfl) (ok_number_of T) (hr.mono (by decide)) T.g_number_of T.k_number_of T.bd_number_of (takes_of rfl rfl rfl rfl) (ca_cons (ce_var 3) (ca_cons (ce_var 4) ca_nil)))))) (pv 10))
  (css_cons (cs_app 10 (ce_lamF (k := 4) K (by rfl) T.F__law_word T.g__law_word T.bd__law_word sc__law_word rfl (by first | exact Or.inl rfl | exact Or.inr (Or.inl rfl)) rfl (fun cdv1 s1 H1 => hw__law_word _ _ cdv1 s1 H1) s H TB rfl hP rfl (hr.mono (by decide)) (LamX.lamS_by (by kernel_rfl)) rfl (fun _ _ _ _ _ => rfl) (fun A1 outer1 s H E1 f1 c1 hr => have hu := hr.units; (ce_f K (by rfl) (ok_row_of T) (hr.mono (by decide)) T.g_row_of T.k_row_of T.bd_row_of (takes_of rfl rfl rfl rfl) (ca_cons (ce_var 3) (ca_cons (ce_var 8) ca_nil))))) (pv 10))
  (css_cons (cs_if (ct_look 10 (ct_not (ct_val (ce_f K (by rfl) (ok__law_same T 6) (hr.mono (by decide)) T.g__law_same T.k__law_same T.bd__law_same tk (ca_cons (ce_var 10) (ca_cons (ce_l (cf_lst (ca_cons (ce_if (ct_val (ce_var 5)) ce_str ce_str) (ca_cons (ce_var 6) (ca_cons (ce_var 9) ca_nil))))) ca_nil)))))) (css_one (cs_ret ce_bl)) css_nil)
  (css_one (cs_if (CW.ct (cw_and (ct_val (ce_var 5)) (cw_and1 (ct_c (o_eq K (by rfl) hu) (ce_var 6) ce_str)))) (css_cons (cs_fz 4 (cs_set 11 nd (ce_callTy (k_tuple K (by rfl)) T.b_tuple (by decide +kernel) (ca_cons (ce_l (lc_1 (own := [("_law_c", 12)]) s rfl nd (ci_range1 T.b_range (ca_cons (ce_callB (k_len K (by rfl)) T.b_len (by decide +kernel) (ca_cons (ce_var 4) ca_nil)) ca_nil)) (blkOk_by (by kernel_rfl)) (fun _ _ _ _ _ => (cg_name 12 nd)) (fun _ _ _ _ _ => (cts_one (ct_c o_gt (ce_b o_mod (ce_b o_fdiv (ce_ix K (by rfl) (ce_var 2) ce_int) ce_int) (ce_b (o_add K (by rfl)) (ce_var 12) ce_int)) ce_int))) (fun _ _ _ _ _ => (ce_tup (ca_cons (ce_var 12) (ca_cons (ce_b o_mod (ce_b (o_add K (by rfl)) (ce_ix K (by rfl) (ce_var 2) ce_int) (ce_var 12)) ce_int) ca_nil))))).toCF) ca_nil))))
  (css_one (cs_if (ct_look 4 (ct_not (ct_val (ce_f K (by rfl) (ok__law_same T 6) (hr.mono (by decide)) T.g__law_same T.k__law_same T.bd__law_same tk (ca_cons (ce_f K (by rfl) (ok_fits T) (hr.mono (by decide)) T.g_fits T.k_fits T.bd_fits tk (ca_cons (ce_var 4) (ca_cons (ce_var 11) ca_nil))) (ca_cons (ce_callB (k_all K (by rfl) (by rfl)) T.b_all (by decide +kernel) (ca_cons (ce_l (lc_1 (own := [("_law_c", 12), ("_law_value", 13)]) s rfl nd (ci_seq K (by rfl) (ce_var 11)) (blkOk_by (by kernel_rfl)) (fun _ _ _ _ _ => (cg_tup K (by rfl) (by rfl) (cgs_cons (cg_name 12 nd) (cgs_cons (cg_name 13 nd) cgs_nil (by rfl)) (by rfl)) (by rfl) (by rfl))) (fun _ _ _ _ _ => cts_nil) (fun _ _ _ _ _ => (ce_c (o_eq K (by rfl) hu) (ce_ix K (by rfl) (ce_var 4) (ce_var 12)) (ce_var 13)))).toCF) ca_nil)) ca_nil)))))) (css_one (cs_ret ce_bl)) css_nil))) css_nil)))))))))))))))))
  (css_one (cs_ret ce_bl))))⟩
end
end My
namespace My
open PySem L2 DV
theorem all_mk {l : PySem.W.OpenLaw} {w : World} {K : PySem.W.Frag} {h : Heap} {mg : Str → Option Value} {fa f0 f1 f2 f3 f4 f5 f6 f7 f8 f9 f10 f11 f12 f13 : Addr} (X : K.In h) (G : h.Ns mainGlobals mg) (hfa : mg "law" = some (.ref fa))
    {od0 an0 od1 an1 od2 an2 od3 an3 od4 an4 od5 an5 od6 an6 od7 an7 od8 an8 od9 an9 od10 an10 od11 an11 od12 an12 od13 an13 : Option Addr} {sl0 sl1 sl2 sl3 sl4 sl5 sl6 sl7 sl8 sl9 sl10 sl11 sl12 sl13 : Array (Option Value)} {oc0 kV0 dc0 pm0 cd0 ct0 oc1 kV1 dc1 pm1 cd1 ct1 oc2 kV2 dc2 pm2 cd2 ct2 oc3 kV3 dc3 pm3 cd3 ct3 oc4 kV4 dc4 pm4 cd4 ct4 oc5 kV5 dc5 pm5 cd5 ct5 oc6 kV6 dc6 pm6 cd6 ct6 oc7 kV7 dc7 pm7 cd7 ct7 oc8 kV8 dc8 pm8 cd8 ct8 oc9 kV9 dc9 pm9 cd9 ct9 oc10 kV10 dc10 pm10 cd10 ct10 oc11 kV11 dc11 pm11 cd11 ct11 oc12 kV12 dc12 pm12 cd12 ct12 oc13 kV13 dc13 pm13 ct13 : Value}
    {C_BadSizes I_BadSizes C_BadRow I_BadRow C_NothingLeft I_NothingLeft C_Absent  C_LoomError : Addr} {iod_BadSizes ian_BadSizes iod_BadRow ian_BadRow iod_NothingLeft ian_NothingLeft : Option Addr} {isl_BadSizes isl_BadRow isl_NothingLeft : Array (Option Value)} {ioc_BadSizes ikV_BadSizes idc_BadSizes ipm_BadSizes icd_BadSizes ict_BadSizes ioc_BadRow ikV_BadRow idc_BadRow ipm_BadRow icd_BadRow ict_BadRow ioc_NothingLeft ikV_NothingLeft idc_NothingLeft ipm_NothingLeft icd_NothingLeft ict_NothingLeft : Value}
    {tc_MOST_COLUMNS tc_MOST_ROWS tc_MOST_SIZE : Tok}
    {cL : Addr}
    (ca_BadSizes : PySem.W.nsIn K mainGlobals "BadSizes" = some (some (.ref C_BadSizes))) (cb_BadSizes : oexB K C_BadSizes [.type "ValueError", .type "Exception", .type "BaseException", .type "object"] "ValueError.__new__" = true) (cc_BadSizes : PySem.W.findIn K (.ref C_BadSizes) "__init__" = some (some (.ref I_BadSizes))) (cd_BadSizes : PySem.W.typeIn K (.ref I_BadSizes) = some (.type "function")) (ce_BadSizes : xcB K C_BadSizes = true)
    (cl_BadSizes : K.lookup I_BadSizes = some ⟨ioc_BadSizes, iod_BadSizes, .func (PySem.W.fnOf "__init__" "BadSizes.__init__" (defArgs si_BadSizes) (defBody si_BadSizes) (defScope si_BadSizes) .none ikV_BadSizes idc_BadSizes ipm_BadSizes ian_BadSizes icd_BadSizes ict_BadSizes), isl_BadSizes⟩) (cm_BadSizes : PySem.W.codeIn K icd_BadSizes "BadSizes.__init__" = true) (cn_BadSizes : PySem.W.keepIn K (.ref I_BadSizes) = true)
    (ca_BadRow : PySem.W.nsIn K mainGlobals "BadRow" = some (some (.ref C_BadRow))) (cb_BadRow : oexB K C_BadRow [.type "ValueError", .type "Exception", .type "BaseException", .type "object"] "ValueError.__new__" = true) (cc_BadRow : PySem.W.findIn K (.ref C_BadRow) "__init__" = some (some (.ref I_BadRow))) (cd_BadRow : PySem.W.typeIn K (.ref I_BadRow) = some (.type "function")) (ce_BadRow : xcB K C_BadRow = true)
    (cl_BadRow : K.lookup I_BadRow = some ⟨ioc_BadRow, iod_BadRow, .func (PySem.W.fnOf "__init__" "BadRow.__init__" (defArgs si_BadRow) (defBody si_BadRow) (defScope si_BadRow) .none ikV_BadRow idc_BadRow ipm_BadRow ian_BadRow icd_BadRow ict_BadRow), isl_BadRow⟩) (cm_BadRow : PySem.W.codeIn K icd_BadRow "BadRow.__init__" = true) (cn_BadRow : PySem.W.keepIn K (.ref I_BadRow) = true)
    (ca_NothingLeft : PySem.W.nsIn K mainGlobals "NothingLeft" = some (some (.ref C_NothingLeft))) (cb_NothingLeft : oexB K C_NothingLeft [.type "IndexError", .type "LookupError", .type "Exception", .type "BaseException", .type "object"] "IndexError.__new__" = true) (cc_NothingLeft : PySem.W.findIn K (.ref C_NothingLeft) "__init__" = some (some (.ref I_NothingLeft))) (cd_NothingLeft : PySem.W.typeIn K (.ref I_NothingLeft) = some (.type "function")) (ce_NothingLeft : xcB K C_NothingLeft = true)
    (cl_NothingLeft : K.lookup I_NothingLeft = some ⟨ioc_NothingLeft, iod_NothingLeft, .func (PySem.W.fnOf "__init__" "NothingLeft.__init__" (defArgs si_NothingLeft) (defBody si_NothingLeft) (defScope si_NothingLeft) .none ikV_NothingLeft idc_NothingLeft ipm_NothingLeft ian_NothingLeft icd_NothingLeft ict_NothingLeft), isl_NothingLeft⟩) (cm_NothingLeft : PySem.W.codeIn K icd_NothingLeft "NothingLeft.__init__" = true) (cn_NothingLeft : PySem.W.keepIn K (.ref I_NothingLeft) = true)
    (ca_Absent : PySem.W.nsIn K mainGlobals "Absent" = some (some (.ref C_Absent)))
    (ca_LoomError : PySem.W.nsIn K mainGlobals "LoomError" = some (some (.ref C_LoomError)))
    (cx_BadSizes_NothingLeft : PySem.W.exmOne K (.ref C_BadSizes) (.ref C_NothingLeft) = some false)
    (cx_BadRow_NothingLeft : PySem.W.exmOne K (.ref C_BadRow) (.ref C_NothingLeft) = some false)
    (cx_NothingLeft_NothingLeft : PySem.W.exmOne K (.ref C_NothingLeft) (.ref C_NothingLeft) = some true)
    (cx_BadSizes_Absent : PySem.W.exmOne K (.ref C_BadSizes) (.ref C_Absent) = some false)
    (cx_BadRow_Absent : PySem.W.exmOne K (.ref C_BadRow) (.ref C_Absent) = some false)
    (cx_NothingLeft_Absent : PySem.W.exmOne K (.ref C_NothingLeft) (.ref C_Absent) = some false)
    (cx_BadSizes_LoomError : PySem.W.exmOne K (.ref C_BadSizes) (.ref C_LoomError) = some true)
    (cx_BadRow_LoomError : PySem.W.exmOne K (.ref C_BadRow) (.ref C_LoomError) = some true)
    (cx_NothingLeft_LoomError : PySem.W.exmOne K (.ref C_NothingLeft) (.ref C_LoomError) = some false)
    (a0 : PySem.W.nsIn K mainGlobals "multiplied" = some (some (.ref f0))) (l0 : K.lookup f0 = some ⟨oc0, od0, .func (PySem.W.fnOf "multiplied" "multiplied" (defArgs s_multiplied) (defBody s_multiplied) (defScope s_multiplied) .none kV0 dc0 pm0 an0 cd0 ct0), sl0⟩) (c0 : PySem.W.codeIn K cd0 "multiplied" = true) (k0 : PySem.W.keepIn K (.ref f0) = true)
    (a1 : PySem.W.nsIn K mainGlobals "look_sizes" = some (some (.ref f1))) (l1 : K.lookup f1 = some ⟨oc1, od1, .func (PySem.W.fnOf "look_sizes" "look_sizes" (defArgs s_look_sizes) (defBody s_look_sizes) (defScope s_look_sizes) .none kV1 dc1 pm1 an1 cd1 ct1), sl1⟩) (c1 : PySem.W.codeIn K cd1 "look_sizes" = true) (k1 : PySem.W.keepIn K (.ref f1) = true)
    (a2 : PySem.W.nsIn K mainGlobals "look_row" = some (some (.ref f2))) (l2 : K.lookup f2 = some ⟨oc2, od2, .func (PySem.W.fnOf "look_row" "look_row" (defArgs s_look_row) (defBody s_look_row) (defScope s_look_row) .none kV2 dc2 pm2 an2 cd2 ct2), sl2⟩) (c2 : PySem.W.codeIn K cd2 "look_row" = true) (k2 : PySem.W.keepIn K (.ref f2) = true)
    (a3 : PySem.W.nsIn K mainGlobals "many_rows" = some (some (.ref f3))) (l3 : K.lookup f3 = some ⟨oc3, od3, .func (PySem.W.fnOf "many_rows" "many_rows" (defArgs s_many_rows) (defBody s_many_rows) (defScope s_many_rows) .none kV3 dc3 pm3 an3 cd3 ct3), sl3⟩) (c3 : PySem.W.codeIn K cd3 "many_rows" = true) (k3 : PySem.W.keepIn K (.ref f3) = true)
    (a4 : PySem.W.nsIn K mainGlobals "number_of" = some (some (.ref f4))) (l4 : K.lookup f4 = some ⟨oc4, od4, .func (PySem.W.fnOf "number_of" "number_of" (defArgs s_number_of) (defBody s_number_of) (defScope s_number_of) .none kV4 dc4 pm4 an4 cd4 ct4), sl4⟩) (c4 : PySem.W.codeIn K cd4 "number_of" = true) (k4 : PySem.W.keepIn K (.ref f4) = true)
    (a5 : PySem.W.nsIn K mainGlobals "row_of" = some (some (.ref f5))) (l5 : K.lookup f5 = some ⟨oc5, od5, .func (PySem.W.fnOf "row_of" "row_of" (defArgs s_row_of) (defBody s_row_of) (defScope s_row_of) .none kV5 dc5 pm5 an5 cd5 ct5), sl5⟩) (c5 : PySem.W.codeIn K cd5 "row_of" = true) (k5 : PySem.W.keepIn K (.ref f5) = true)
    (a6 : PySem.W.nsIn K mainGlobals "fits" = some (some (.ref f6))) (l6 : K.lookup f6 = some ⟨oc6, od6, .func (PySem.W.fnOf "fits" "fits" (defArgs s_fits) (defBody s_fits) (defScope s_fits) .none kV6 dc6 pm6 an6 cd6 ct6), sl6⟩) (c6 : PySem.W.codeIn K cd6 "fits" = true) (k6 : PySem.W.keepIn K (.ref f6) = true)
    (a7 : PySem.W.nsIn K mainGlobals "_law_draws" = some (some (.ref f7))) (l7 : K.lookup f7 = some ⟨oc7, od7, .func (PySem.W.fnOf "_law_draws" "_law_draws" (defArgs s__law_draws) (defBody s__law_draws) (defScope s__law_draws) .none kV7 dc7 pm7 an7 cd7 ct7), sl7⟩) (c7 : PySem.W.codeIn K cd7 "_law_draws" = true) (k7 : PySem.W.keepIn K (.ref f7) = true)
    (a8 : PySem.W.nsIn K mainGlobals "_law_rows" = some (some (.ref f8))) (l8 : K.lookup f8 = some ⟨oc8, od8, .func (PySem.W.fnOf "_law_rows" "_law_rows" (defArgs s__law_rows) (defBody s__law_rows) (defScope s__law_rows) .none kV8 dc8 pm8 an8 cd8 ct8), sl8⟩) (c8 : PySem.W.codeIn K cd8 "_law_rows" = true) (k8 : PySem.W.keepIn K (.ref f8) = true)
    (a9 : PySem.W.nsIn K mainGlobals "_law_word" = some (some (.ref f9))) (l9 : K.lookup f9 = some ⟨oc9, od9, .func (PySem.W.fnOf "_law_word" "_law_word" (defArgs s__law_word) (defBody s__law_word) (defScope s__law_word) .none kV9 dc9 pm9 an9 cd9 ct9), sl9⟩) (c9 : PySem.W.codeIn K cd9 "_law_word" = true) (k9 : PySem.W.keepIn K (.ref f9) = true)
    (a10 : PySem.W.nsIn K mainGlobals "_law_same" = some (some (.ref f10))) (l10 : K.lookup f10 = some ⟨oc10, od10, .func (PySem.W.fnOf "_law_same" "_law_same" (defArgs s__law_same) (defBody s__law_same) (defScope s__law_same) .none kV10 dc10 pm10 an10 cd10 ct10), sl10⟩) (c10 : PySem.W.codeIn K cd10 "_law_same" = true) (k10 : PySem.W.keepIn K (.ref f10) = true)
    (a11 : PySem.W.nsIn K mainGlobals "_law_sizes_good" = some (some (.ref f11))) (l11 : K.lookup f11 = some ⟨oc11, od11, .func (PySem.W.fnOf "_law_sizes_good" "_law_sizes_good" (defArgs s__law_sizes_good) (defBody s__law_sizes_good) (defScope s__law_sizes_good) .none kV11 dc11 pm11 an11 cd11 ct11), sl11⟩) (c11 : PySem.W.codeIn K cd11 "_law_sizes_good" = true) (k11 : PySem.W.keepIn K (.ref f11) = true)
    (a12 : PySem.W.nsIn K mainGlobals "_law_row_good" = some (some (.ref f12))) (l12 : K.lookup f12 = some ⟨oc12, od12, .func (PySem.W.fnOf "_law_row_good" "_law_row_good" (defArgs s__law_row_good) (defBody s__law_row_good) (defScope s__law_row_good) .none kV12 dc12 pm12 an12 cd12 ct12), sl12⟩) (c12 : PySem.W.codeIn K cd12 "_law_row_good" = true) (k12 : PySem.W.keepIn K (.ref f12) = true)
    (a13 : PySem.W.nsIn K mainGlobals "law" = some (some (.ref f13))) (l13 : K.lookup f13 = some ⟨oc13, od13, .func (PySem.W.fnOf "law" "law" (defArgs s_law) (defBody s_law) (defScope s_law) .none kV13 dc13 pm13 an13 (.ref cL) ct13), sl13⟩) (c13 : PySem.W.codeIn K (.ref cL) "law" = true) (k13 : PySem.W.keepIn K (.ref f13) = true)
    (z_abs : PySem.W.nsIn K mainGlobals "abs" = some none)
    (z_all : PySem.W.nsIn K mainGlobals "all" = some none)
    (z_bool : PySem.W.nsIn K mainGlobals "bool" = some none)
    (z_divmod : PySem.W.nsIn K mainGlobals "divmod" = some none)
    (z_int : PySem.W.nsIn K mainGlobals "int" = some none)
    (z_isinstance : PySem.W.nsIn K mainGlobals "isinstance" = some none)
    (z_len : PySem.W.nsIn K mainGlobals "len" = some none)
    (z_list : PySem.W.nsIn K mainGlobals "list" = some none)
    (z_max : PySem.W.nsIn K mainGlobals "max" = some none)
    (z_range : PySem.W.nsIn K mainGlobals "range" = some none)
    (z_str : PySem.W.nsIn K mainGlobals "str" = some none)
    (z_tuple : PySem.W.nsIn K mainGlobals "tuple" = some none)
    (z_zip : PySem.W.nsIn K mainGlobals "zip" = some none)
    (x_MOST_COLUMNS : PySem.W.nsIn K mainGlobals "MOST_COLUMNS" = some (some (.int 6 tc_MOST_COLUMNS)))
    (x_MOST_ROWS : PySem.W.nsIn K mainGlobals "MOST_ROWS" = some (some (.int 300 tc_MOST_ROWS)))
    (x_MOST_SIZE : PySem.W.nsIn K mainGlobals "MOST_SIZE" = some (some (.int 4 tc_MOST_SIZE)))
    {PL : Addr} {cvs : Array Value} {coc : Value} {cod : Option Addr} {csl : Array (Option Value)} (tc : K.lookup cL = some ⟨coc, cod, .fields cvs, csl⟩) (tp : cvs[11]? = some (.ref PL)) (tn : K.lookup PL = none)
    : ∃ (fd : FuncData) (c P : Addr), PySem.W.tabIn K "law" = some (c, P) ∧ K.lookup P = none ∧ (∀ (s : Shared) (v : Value), BindsTo s fd ⟨[v], []⟩ [("_law_script", v)]) ∧ ∀ base : Heap, K.In base → base.Ns mainGlobals mg → LamX.TabB base mg c P → FnOk l.prog w K mg base (L2.CX l.prog w) 8 fa fd ["_law_script"] (spD K 1 F_law) := by
  have e := hfa.symm.trans (PySem.W.mg_of X G a13)
  cases e
  have IF_BadSizes := fun_mk (st := si_BadSizes) cl_BadSizes cm_BadSizes cn_BadSizes
  have ib_BadSizes := IF_BadSizes.binds (ps := ["self"]) fun _ _ _ _ _ _ us hl => match us, hl with | [_], _ => rfl
  have X_BadSizes : ExK K mg "BadSizes" C_BadSizes I_BadSizes := ⟨oexB_ok PySem.F.excBase_ValueError PySem.F.store_ValueError cb_BadSizes, PySem.W.mg_of X G ca_BadSizes, clsV_of ca_BadSizes, cc_BadSizes, cd_BadSizes⟩
  have IF_BadRow := fun_mk (st := si_BadRow) cl_BadRow cm_BadRow cn_BadRow
  have ib_BadRow := IF_BadRow.binds (ps := ["self"]) fun _ _ _ _ _ _ us hl => match us, hl with | [_], _ => rfl
  have X_BadRow : ExK K mg "BadRow" C_BadRow I_BadRow := ⟨oexB_ok PySem.F.excBase_ValueError PySem.F.store_ValueError cb_BadRow, PySem.W.mg_of X G ca_BadRow, clsV_of ca_BadRow, cc_BadRow, cd_BadRow⟩
  have IF_NothingLeft := fun_mk (st := si_NothingLeft) cl_NothingLeft cm_NothingLeft cn_NothingLeft
  have ib_NothingLeft := IF_NothingLeft.binds (ps := ["self"]) fun _ _ _ _ _ _ us hl => match us, hl with | [_], _ => rfl
  have X_NothingLeft : ExK K mg "NothingLeft" C_NothingLeft I_NothingLeft := ⟨oexB_ok PySem.F.excBase_IndexError PySem.F.store_IndexError cb_NothingLeft, PySem.W.mg_of X G ca_NothingLeft, clsV_of ca_NothingLeft, cc_NothingLeft, cd_NothingLeft⟩
  have F0 := fun_mk (st := s_multiplied) l0 c0 k0
  have b0 := F0.binds (ps := ["sizes"]) fun _ _ _ _ _ _ us hl => match us, hl with | [_], _ => rfl
  have F1 := fun_mk (st := s_look_sizes) l1 c1 k1
  have b1 := F1.binds (ps := ["sizes"]) fun _ _ _ _ _ _ us hl => match us, hl with | [_], _ => rfl
  have F2 := fun_mk (st := s_look_row) l2 c2 k2
  have b2 := F2.binds (ps := ["sizes", "row"]) fun _ _ _ _ _ _ us hl => match us, hl with | [_, _], _ => rfl
  have F3 := fun_mk (st := s_many_rows) l3 c3 k3
  have b3 := F3.binds (ps := ["sizes"]) fun _ _ _ _ _ _ us hl => match us, hl with | [_], _ => rfl
  have F4 := fun_mk (st := s_number_of) l4 c4 k4
  have b4 := F4.binds (ps := ["sizes", "row"]) fun _ _ _ _ _ _ us hl => match us, hl with | [_, _], _ => rfl
  have F5 := fun_mk (st := s_row_of) l5 c5 k5
  have b5 := F5.binds (ps := ["sizes", "number"]) fun _ _ _ _ _ _ us hl => match us, hl with | [_, _], _ => rfl
  have F6 := fun_mk (st := s_fits) l6 c6 k6
  have b6 := F6.binds (ps := ["row", "pairs"]) fun _ _ _ _ _ _ us hl => match us, hl with | [_, _], _ => rfl
  have F7 := fun_mk (st := s__law_draws) l7 c7 k7
  have b7 := F7.binds (ps := ["_law_cell", "_law_sizes"]) fun _ _ _ _ _ _ us hl => match us, hl with | [_, _], _ => rfl
  have F8 := fun_mk (st := s__law_rows) l8 c8 k8
  have b8 := F8.binds (ps := ["_law_sizes"]) fun _ _ _ _ _ _ us hl => match us, hl with | [_], _ => rfl
  have F9 := fun_mk (st := s__law_word) l9 c9 k9
  have b9 := F9.binds (ps := ["_law_asked"]) fun _ _ _ _ _ _ us hl => match us, hl with | [_], _ => rfl
  have F10 := fun_mk (st := s__law_same) l10 c10 k10
  have b10 := F10.binds (ps := ["_law_found", "_law_due"]) fun _ _ _ _ _ _ us hl => match us, hl with | [_, _], _ => rfl
  have F11 := fun_mk (st := s__law_sizes_good) l11 c11 k11
  have b11 := F11.binds (ps := ["_law_sizes"]) fun _ _ _ _ _ _ us hl => match us, hl with | [_], _ => rfl
  have F12 := fun_mk (st := s__law_row_good) l12 c12 k12
  have b12 := F12.binds (ps := ["_law_sizes", "_law_row"]) fun _ _ _ _ _ _ us hl => match us, hl with | [_, _], _ => rfl
  have F13 := fun_mk (st := s_law) l13 c13 k13
  have b13 := F13.binds (ps := ["_law_script"]) fun _ _ _ _ _ _ us hl => match us, hl with | [_], _ => rfl
  have T : Txt K mg ⟨C_BadSizes, I_BadSizes, (PySem.W.fnOf "__init__" "BadSizes.__init__" (defArgs si_BadSizes) (defBody si_BadSizes) (defScope si_BadSizes) .none ikV_BadSizes idc_BadSizes ipm_BadSizes ian_BadSizes icd_BadSizes ict_BadSizes), C_BadRow, I_BadRow, (PySem.W.fnOf "__init__" "BadRow.__init__" (defArgs si_BadRow) (defBody si_BadRow) (defScope si_BadRow) .none ikV_BadRow idc_BadRow ipm_BadRow ian_BadRow icd_BadRow ict_BadRow), C_NothingLeft, I_NothingLeft, (PySem.W.fnOf "__init__" "NothingLeft.__init__" (defArgs si_NothingLeft) (defBody si_NothingLeft) (defScope si_NothingLeft) .none ikV_NothingLeft idc_NothingLeft ipm_NothingLeft ian_NothingLeft icd_NothingLeft ict_NothingLeft), C_Absent, C_LoomError, f0, (PySem.W.fnOf "multiplied" "multiplied" (defArgs s_multiplied) (defBody s_multiplied) (defScope s_multiplied) .none kV0 dc0 pm0 an0 cd0 ct0), f1, (PySem.W.fnOf "look_sizes" "look_sizes" (defArgs s_look_sizes) (defBody s_look_sizes) (defScope s_look_sizes) .none kV1 dc1 pm1 an1 cd1 ct1), f2, (PySem.W.fnOf "look_row" "look_row" (defArgs s_look_row) (defBody s_look_row) (defScope s_look_row) .none kV2 dc2 pm2 an2 cd2 ct2), f3, (PySem.W.fnOf "many_rows" "many_rows" (defArgs s_many_rows) (defBody s_many_rows) (defScope s_many_rows) .none kV3 dc3 pm3 an3 cd3 ct3), f4, (PySem.W.fnOf "number_of" "number_of" (defArgs s_number_of) (defBody s_number_of) (defScope s_number_of) .none kV4 dc4 pm4 an4 cd4 ct4), f5, (PySem.W.fnOf "row_of" "row_of" (defArgs s_row_of) (defBody s_row_of) (defScope s_row_of) .none kV5 dc5 pm5 an5 cd5 ct5), f6, (PySem.W.fnOf "fits" "fits" (defArgs s_fits) (defBody s_fits) (defScope s_fits) .none kV6 dc6 pm6 an6 cd6 ct6), f7, (PySem.W.fnOf "_law_draws" "_law_draws" (defArgs s__law_draws) (defBody s__law_draws) (defScope s__law_draws) .none kV7 dc7 pm7 an7 cd7 ct7), f8, (PySem.W.fnOf "_law_rows" "_law_rows" (defArgs s__law_rows) (defBody s__law_rows) (defScope s__law_rows) .none kV8 dc8 pm8 an8 cd8 ct8), f9, (PySem.W.fnOf "_law_word" "_law_word" (defArgs s__law_word) (defBody s__law_word) (defScope s__law_word) .none kV9 dc9 pm9 an9 cd9 ct9), f10, (PySem.W.fnOf "_law_same" "_law_same" (defArgs s__law_same) (defBody s__law_same) (defScope s__law_same) .none kV10 dc10 pm10 an10 cd10 ct10), f11, (PySem.W.fnOf "_law_sizes_good" "_law_sizes_good" (defArgs s__law_sizes_good) (defBody s__law_sizes_good) (defScope s__law_sizes_good) .none kV11 dc11 pm11 an11 cd11 ct11), f12, (PySem.W.fnOf "_law_row_good" "_law_row_good" (defArgs s__law_row_good) (defBody s__law_row_good) (defScope s__law_row_good) .none kV12 dc12 pm12 an12 cd12 ct12), fa, (PySem.W.fnOf "law" "law" (defArgs s_law) (defBody s_law) (defScope s_law) .none kV13 dc13 pm13 an13 (.ref cL) ct13), (V.int 6), (Value.int 6 tc_MOST_COLUMNS), (V.int 300), (Value.int 300 tc_MOST_ROWS), (V.int 4), (Value.int 4 tc_MOST_SIZE)⟩ := ⟨X_BadSizes, IF_BadSizes, ib_BadSizes, xcB_ok ce_BadSizes, X_BadRow, IF_BadRow, ib_BadRow, xcB_ok ce_BadRow, X_NothingLeft, IF_NothingLeft, ib_NothingLeft, xcB_ok ce_NothingLeft, PySem.W.mg_of X G ca_Absent, PySem.W.mg_of X G ca_LoomError, PySem.W.mg_of X G ca_NothingLeft, cx_BadSizes_NothingLeft, cx_BadRow_NothingLeft, cx_NothingLeft_NothingLeft, cx_BadSizes_Absent, cx_BadRow_Absent, cx_NothingLeft_Absent, cx_BadSizes_LoomError, cx_BadRow_LoomError, cx_NothingLeft_LoomError, F0, PySem.W.mg_of X G a0, k0, b0, F1, PySem.W.mg_of X G a1, k1, b1, F2, PySem.W.mg_of X G a2, k2, b2, F3, PySem.W.mg_of X G a3, k3, b3, F4, PySem.W.mg_of X G a4, k4, b4, F5, PySem.W.mg_of X G a5, k5, b5, F6, PySem.W.mg_of X G a6, k6, b6, F7, PySem.W.mg_of X G a7, k7, b7, F8, PySem.W.mg_of X G a8, k8, b8, F9, PySem.W.mg_of X G a9, k9, b9, F10, PySem.W.mg_of X G a10, k10, b10, F11, PySem.W.mg_of X G a11, k11, b11, F12, PySem.W.mg_of X G a12, k12, b12, F13, PySem.W.mg_of X G a13, k13, b13, PySem.W.mg_none_of X G z_abs, PySem.W.mg_none_of X G z_all, PySem.W.mg_none_of X G z_bool, PySem.W.mg_none_of X G z_divmod, PySem.W.mg_none_of X G z_int, PySem.W.mg_none_of X G z_isinstance, PySem.W.mg_none_of X G z_len, PySem.W.mg_none_of X G z_list, PySem.W.mg_none_of X G z_max, PySem.W.mg_none_of X G z_range, PySem.W.mg_none_of X G z_str, PySem.W.mg_none_of X G z_tuple, PySem.W.mg_none_of X G z_zip, PySem.W.mg_of X G x_MOST_COLUMNS, ⟨_, rfl⟩, fun _ => .v _, PySem.W.mg_of X G x_MOST_ROWS, ⟨_, rfl⟩, fun _ => .v _, PySem.W.mg_of X G x_MOST_SIZE, ⟨_, rfl⟩, fun _ => .v _⟩
  have ht := tabIn_of a13 l13 rfl tc tp
  exact ⟨_, cL, PL, ht, tn, fun s v => .of_eq rfl, fun base _ _ TB => ok_law T l13 c13 (in_tabs ht) TB⟩
end My
open PySem PySem.W PyProof.Rows in
theorem PySem.Challenge.cw_tallyloom_k05_rows_refused_holds : PySem.Challenge.rw_tallyloom_k05_rows_refused.Holds := by
  w_on; o_law; k_head; (case hw => w_witness2)
  k_fill
  refine DV.walkT (l := PySem.Challenge.rw_tallyloom_k05_rows_refused) (n := 63) (k := 8) (x := "_law_script") (F := My.F_law) rfl (by decide) rfl ⟨rfl, by decide, by decide⟩ (fun w h Y => by first | exact PySem.W.kIn_of Y | exact PySem.W.km_in_of Y) ?hrec ?F My.law_true
  case hrec => kernel_rfl
  case F =>
    intro w mg fa h KX G hmg
    refine' My.all_mk KX G hmg ?ca_BadSizes ?cb_BadSizes ?cc_BadSizes ?cd_BadSizes ?ce_BadSizes ?cl_BadSizes ?cm_BadSizes ?cn_BadSizes ?ca_BadRow ?cb_BadRow ?cc_BadRow ?cd_BadRow ?ce_BadRow ?cl_BadRow ?cm_BadRow ?cn_BadRow ?ca_NothingLeft ?cb_NothingLeft ?cc_NothingLeft ?cd_NothingLeft ?ce_NothingLeft ?cl_NothingLeft ?cm_NothingLeft ?cn_NothingLeft ?ca_Absent ?ca_LoomError ?cx_BadSizes_NothingLeft ?cx_BadRow_NothingLeft ?cx_NothingLeft_NothingLeft ?cx_BadSizes_Absent ?cx_BadRow_Absent ?cx_NothingLeft_Absent ?cx_BadSizes_LoomError ?cx_BadRow_LoomError ?cx_NothingLeft_LoomError ?a0 ?l0 ?c0 ?k0 ?a1 ?l1 ?c1 ?k1 ?a2 ?l2 ?c2 ?k2 ?a3 ?l3 ?c3 ?k3 ?a4 ?l4 ?c4 ?k4 ?a5 ?l5 ?c5 ?k5 ?a6 ?l6 ?c6 ?k6 ?a7 ?l7 ?c7 ?k7 ?a8 ?l8 ?c8 ?k8 ?a9 ?l9 ?c9 ?k9 ?a10 ?l10 ?c10 ?k10 ?a11 ?l11 ?c11 ?k11 ?a12 ?l12 ?c12 ?k12 ?a13 ?l13 ?c13 ?k13 ?z_abs ?z_all ?z_bool ?z_divmod ?z_int ?z_isinstance ?z_len ?z_list ?z_max ?z_range ?z_str ?z_tuple ?z_zip ?x_MOST_COLUMNS ?x_MOST_ROWS ?x_MOST_SIZE ?tc ?tp ?tn
    (case ca_BadSizes => k_is)
    (case cb_BadSizes => kernel_rfl)
    (case cc_BadSizes => k_is)
    (case cd_BadSizes => k_is)
    (case ce_BadSizes => kernel_rfl)
    (case cl_BadSizes => k_is)
    (case cm_BadSizes => k_is)
    (case cn_BadSizes => k_is)
    (case ca_BadRow => k_is)
    (case cb_BadRow => kernel_rfl)
    (case cc_BadRow => k_is)
    (case cd_BadRow => k_is)
    (case ce_BadRow => kernel_rfl)
    (case cl_BadRow => k_is)
    (case cm_BadRow => k_is)
    (case cn_BadRow => k_is)
    (case ca_NothingLeft => k_is)
    (case cb_NothingLeft => kernel_rfl)
    (case cc_NothingLeft => k_is)
    (case cd_NothingLeft => k_is)
    (case ce_NothingLeft => kernel_rfl)
    (case cl_NothingLeft => k_is)
    (case cm_NothingLeft => k_is)
    (case cn_NothingLeft => k_is)
    (case ca_Absent => k_is)
    (case ca_LoomError => k_is)
    (case cx_BadSizes_NothingLeft => kernel_rfl)
    (case cx_BadRow_NothingLeft => kernel_rfl)
    (case cx_NothingLeft_NothingLeft => kernel_rfl)
    (case cx_BadSizes_Absent => kernel_rfl)
    (case cx_BadRow_Absent => kernel_rfl)
    (case cx_NothingLeft_Absent => kernel_rfl)
    (case cx_BadSizes_LoomError => kernel_rfl)
    (case cx_BadRow_LoomError => kernel_rfl)
    (case cx_NothingLeft_LoomError => kernel_rfl)
    (case a0 => k_is)
    (case l0 => k_is)
    (case c0 => k_is)
    (case k0 => k_is)
    (case a1 => k_is)
    (case l1 => k_is)
    (case c1 => k_is)
    (case k1 => k_is)
    (case a2 => k_is)
    (case l2 => k_is)
    (case c2 => k_is)
    (case k2 => k_is)
    (case a3 => k_is)
    (case l3 => k_is)
    (case c3 => k_is)
    (case k3 => k_is)
    (case a4 => k_is)
    (case l4 => k_is)
    (case c4 => k_is)
    (case k4 => k_is)
    (case a5 => k_is)
    (case l5 => k_is)
    (case c5 => k_is)
    (case k5 => k_is)
    (case a6 => k_is)
    (case l6 => k_is)
    (case c6 => k_is)
    (case k6 => k_is)
    (case a7 => k_is)
    (case l7 => k_is)
    (case c7 => k_is)
    (case k7 => k_is)
    (case a8 => k_is)
    (case l8 => k_is)
    (case c8 => k_is)
    (case k8 => k_is)
    (case a9 => k_is)
    (case l9 => k_is)
    (case c9 => k_is)
    (case k9 => k_is)
    (case a10 => k_is)
    (case l10 => k_is)
    (case c10 => k_is)
    (case k10 => k_is)
    (case a11 => k_is)
    (case l11 => k_is)
    (case c11 => k_is)
    (case k11 => k_is)
    (case a12 => k_is)
    (case l12 => k_is)
    (case c12 => k_is)
    (case k12 => k_is)
    (case a13 => k_is)
    (case l13 => k_is)
    (case c13 => k_is)
    (case k13 => k_is)
    (case z_abs => k_is)
    (case z_all => k_is)
    (case z_bool => k_is)
    (case z_divmod => k_is)
    (case z_int => k_is)
    (case z_isinstance => k_is)
    (case z_len => k_is)
    (case z_list => k_is)
    (case z_max => k_is)
    (case z_range => k_is)
    (case z_str => k_is)
    (case z_tuple => k_is)
    (case z_zip => k_is)
    (case x_MOST_COLUMNS => k_is)
    (case x_MOST_ROWS => k_is)
    (case x_MOST_SIZE => k_is)
    (case tc => k_is)
    (case tp => rfl)
    (case tn => kernel_rfl)
