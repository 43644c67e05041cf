import PyProof.Rows.All
import HandS.Nested
import Wide.All
import OpenK.AllK
import Wide.FinOn
import HandS.ForMost
import HandS.ForExc
import HandS.Wide
import HandS.IsInst
import HandS.Lambda
import HandS.EndTab
import HandS.TupAny
import HandS.Style
import HandS.TupMul
import HandS.WideBits
import HandS.Flow
import HandS.Walk
import HandS.SortInts
import HandS.Conv
import HandS.Zip
import HandS.CallSlots
import HandS.Defaults
import HandS.Ends
import KE.KExcInit
import HandS.ExcInit
import HandS.ExcField
import HandS.ExcIs
import HandS.TryMany
import HandS.SetBool
import HandS.Strs
import HandS.SetFor
import HandS.TupSets
import PyProof.EnumMake
import PyProof.EnumStmt
import PyProof.TupleIter
import PyProof.WalksMore
import HandS.DictComp
import KE.SortData
import HandS.Deep
import HandS.More
import PySem.Challenge.RW_tallyloom_k15_shortest_open_ways
set_option Elab.async false
set_option linter.all false
set_option autoImplicit false
set_option maxRecDepth 100000
set_option maxHeartbeats 4000000
namespace DV
/-- the defs in which lambdas stand, and the names of the lambdas by their lines -/
def lamNs : List PySem.Str := ["law", "_law_wide_so"]
def lamAt : Nat → Nat → PySem.Str := fun l _ => if 163 ≤ l && l ≤ 167 then "_law_wide_so.<locals>.<lambda>" else "law.<locals>.<lambda>"
end DV
/-! DV: data without a heap over the hand layer; each construct compiles to a plain function over data states. -/
namespace DV
open PySem L2

inductive D where
  | v (x : V)
  | lst (xs : List D)
  | tup (xs : List D)
  | dct (ks vs : List D)
  | dlk (ks vs : List D)
  | ins (c : Str) (ns : List Str) (vs : List D)
  | dtt (ks : List (List Key)) (vs : List D)
  | dtl (ks : List (List Key)) (vs : List D)
instance : Inhabited D := ⟨.v .non⟩
abbrev D.int (i : Int) : D := .v (.int i)
abbrev D.bl (b : Bool) : D := .v (.bl b)
abbrev D.str (s : Str) : D := .v (.str s)
abbrev D.non : D := .v .non

/-- an exception: its class, its fields -/
structure Exn where
  cls : Str
  fs : List (Str × D)

inductive Res (α : Type) where
  | ok (a : α)
  | er (x : Exn)
  | no
def Res.bind {α β : Type} : Res α → (α → Res β) → Res β
  | .ok a, f => f a
  | .er x, _ => .er x
  | .no, _ => .no
@[simp] theorem Res.bind_ok {α β : Type} (a : α) (f : α → Res β) : (Res.ok a).bind f = f a := rfl
@[simp] theorem Res.bind_er {α β : Type} (x : Exn) (f : α → Res β) : (Res.er x : Res α).bind f = .er x := rfl
@[simp] theorem Res.bind_no {α β : Type} (f : α → Res β) : (Res.no : Res α).bind f = .no := rfl

/-- the class that a name tells at the module top -/
def clsV (K : PySem.W.Frag) (n : Str) : Option Value := (PySem.W.nsIn K mainGlobals n).join
/-- a key as data -/
def kD : Key → D
  | .inl i => .int i
  | .inr x => .str x
mutual
inductive Rp (K : PySem.W.Frag) (B : Hp) : V → D → Prop
  | v (x : V) : Rp K B x (.v x)
  | lst {a : Addr} {xs : List V} {ds : List D} : SqL K B a xs → RpA K B xs ds → Rp K B (.ref a) (.lst ds)
  | tup {a : Addr} {xs : List V} {ds : List D} : SqT K B a xs → RpA K B xs ds → Rp K B (.ref a) (.tup ds)
  | dct {a : Addr} {us : List (Key × V)} {ds : List D} : B a = some (.dK us) → RpA K B (us.map (·.2)) ds → Rp K B (.ref a) (.dct (us.map fun p => kD p.1) ds)
  | dcT {a : Addr} {us : List (List Key × V)} {ds : List D} : B a = some (.dT us) → RpA K B (us.map (·.2)) ds → Rp K B (.ref a) (.dtt (us.map (·.1)) ds)
  | dlT {a : Addr} {o : Obj} {us : List (List Key × V)} {ds : List D} : B a = some (.frz o (.dT us)) → RpA K B (us.map (·.2)) ds → Rp K B (.ref a) (.dtl (us.map (·.1)) ds)
  | ins {a C dx : Addr} {c : Str} {fs : List (Str × V)} {ds : List D} : B a = some (.ins C dx fs) → B dx = some (.own a) → clsV K c = some (.ref C) → RpA K B (fs.map (·.2)) ds → Rp K B (.ref a) (.ins c (fs.map (·.1)) ds)
  | dlk {a : Addr} {o : Obj} {us : List (Key × V)} {ds : List D} : B a = some (.frz o (.dK us)) → RpA K B (us.map (·.2)) ds → Rp K B (.ref a) (.dlk (us.map fun p => kD p.1) ds)
inductive RpA (K : PySem.W.Frag) (B : Hp) : List V → List D → Prop
  | nil : RpA K B [] []
  | cons {v : V} {vs : List V} {d : D} {ds : List D} : Rp K B v d → RpA K B vs ds → RpA K B (v :: vs) (d :: ds)
end

theorem sqT_mono {K : PySem.W.Frag} {H H' : Hp} {a : Addr} {xs : List V} (e : Same H H') (h : SqT K H a xs) : SqT K H' a xs := by
  rcases h with (h | ⟨o, h⟩) | h
  · exact .inl (.inl (e _ _ h))
  · exact .inl (.inr ⟨o, e _ _ h⟩)
  · exact .inr h

theorem rd_mono {H H' : Hp} {a : Addr} {u : HO} (e : Same H H') (h : Rd H a u) : Rd H' a u := h.elim (fun h => .inl (e _ _ h)) fun ⟨o, h⟩ => .inr ⟨o, e _ _ h⟩

section
variable {K : PySem.W.Frag} {B B' H H' : Hp}
mutual
theorem Rp.mono (e : Same B B') : ∀ {v : V} {d : D}, Rp K B v d → Rp K B' v d
  | _, _, .v x => .v x
  | _, _, .lst h r => .lst (e.seq h) (RpA.mono e r)
  | _, _, .tup h r => .tup (sqT_mono e h) (RpA.mono e r)
  | _, _, .dct h r => .dct (e _ _ h) (RpA.mono e r)
  | _, _, .dcT h r => .dcT (e _ _ h) (RpA.mono e r)
  | _, _, .dlT h r => .dlT (e _ _ h) (RpA.mono e r)
  | _, _, .ins h1 h2 h3 r => .ins (e _ _ h1) (e _ _ h2) h3 (RpA.mono e r)
  | _, _, .dlk h r => .dlk (e _ _ h) (RpA.mono e r)
theorem RpA.mono (e : Same B B') : ∀ {vs : List V} {ds : List D}, RpA K B vs ds → RpA K B' vs ds
  | _, _, .nil => .nil
  | _, _, .cons h r => .cons (Rp.mono e h) (RpA.mono e r)
end
theorem RpA.length : ∀ {vs : List V} {ds : List D}, RpA K B vs ds → vs.length = ds.length
  | _, _, .nil => rfl
  | _, _, .cons _ r => by simp [RpA.length r]
theorem RpA.append : ∀ {vs us : List V} {ds es : List D}, RpA K B vs ds → RpA K B us es → RpA K B (vs ++ us) (ds ++ es)
  | _, _, _, _, .nil, s => s
  | _, _, _, _, .cons h r, s => .cons h (RpA.append r s)
theorem RpA.get : ∀ {vs : List V} {ds : List D} {i : Nat} {d : D}, RpA K B vs ds → ds[i]? = some d → ∃ v, vs[i]? = some v ∧ Rp K B v d
  | _, _, _, _, .nil, e => by simp at e
  | _, _, 0, _, .cons h _, e => by simp at e; subst e; exact ⟨_, rfl, h⟩
  | _, _, i + 1, _, .cons _ r, e => by
    obtain ⟨v, h1, h2⟩ := RpA.get (i := i) r (by simpa using e)
    exact ⟨v, by simpa using h1, h2⟩
theorem RpA.get' : ∀ {vs : List V} {ds : List D} {i : Nat} {v : V}, RpA K B vs ds → vs[i]? = some v → ∃ d, ds[i]? = some d ∧ Rp K B v d
  | _, _, _, _, .nil, e => by simp at e
  | _, _, 0, _, .cons h _, e => by simp at e; subst e; exact ⟨_, rfl, h⟩
  | _, _, i + 1, _, .cons _ r, e => by
    obtain ⟨v, h1, h2⟩ := RpA.get' (i := i) r (by simpa using e)
    exact ⟨v, by simpa using h1, h2⟩
theorem RpA.drop : ∀ {vs : List V} {ds : List D} (n : Nat), RpA K B vs ds → RpA K B (vs.drop n) (ds.drop n)
  | _, _, 0, r => by simpa using r
  | _, _, _ + 1, .nil => by simpa using RpA.nil
  | _, _, n + 1, .cons _ r => by simpa using RpA.drop n r
theorem RpA.take : ∀ {vs : List V} {ds : List D} (n : Nat), RpA K B vs ds → RpA K B (vs.take n) (ds.take n)
  | _, _, 0, _ => by simpa using RpA.nil
  | _, _, _ + 1, .nil => by simpa using RpA.nil
  | _, _, n + 1, .cons h r => by simpa using RpA.cons h (RpA.take n r)
theorem RpA.reverse : ∀ {vs : List V} {ds : List D}, RpA K B vs ds → RpA K B vs.reverse ds.reverse
  | _, _, .nil => .nil
  | _, _, .cons h r => by
    rw [List.reverse_cons, List.reverse_cons]
    exact (RpA.reverse r).append (.cons h .nil)
theorem RpA.set : ∀ {vs : List V} {ds : List D} {v : V} {d : D} (i : Nat), RpA K B vs ds → Rp K B v d → RpA K B (vs.set i v) (ds.set i d)
  | _, _, _, _, _, .nil, _ => .nil
  | _, _, _, _, 0, .cons _ r, q => .cons q r
  | _, _, _, _, i + 1, .cons h r, q => .cons h (RpA.set i r q)
theorem RpA.map {α : Type} (f : α → V) (g : α → D) : ∀ {l : List α}, (∀ a ∈ l, Rp K B (f a) (g a)) → RpA K B (l.map f) (l.map g)
  | [], _ => .nil
  | a :: l, h => .cons (h a (by simp)) (RpA.map f g fun b hb => h b (by simp [hb]))
theorem RpA.ints (ns : List Int) : RpA K B (ns.map V.int) (ns.map D.int) := RpA.map _ _ fun a _ => .v _
/-- ints are ints -/
theorem RpA.ints_of : ∀ {ns : List Int} {vs : List V}, RpA K B vs (ns.map D.int) → vs = ns.map V.int
  | [], _, .nil => rfl
  | n :: ns, _, .cons h r => by
    cases h
    rw [RpA.ints_of r]
    rfl
theorem RpA.bls_of : ∀ {bs : List Bool} {vs : List V}, RpA K B vs (bs.map D.bl) → vs = bs.map V.bl
  | [], _, .nil => rfl
  | n :: ns, _, .cons h r => by
    cases h
    rw [RpA.bls_of r]
    rfl

/-- the tables of code objects of the defs in which lambdas stand -/
def tabsOf (K : PySem.W.Frag) : List Addr := lamNs.filterMap fun n => (PySem.W.tabIn K n).map (·.2)
def NoT (B : Hp) : Prop := ∀ a ps, B a ≠ some (.tbl ps)
/-- the frozen heap B and the heap H grow -/
structure Grow (B H B' H' : Hp) : Prop where
  b : Same B B'
  h : LamX.ExtN H H'
  i : Same B' H'
  f : ∀ a, H a ≠ none → B' a = B a
  e : ∀ a, H a ≠ none → H' a ≠ none
  t : ∀ P, NdefX.TabN H P lamAt → NdefX.TabN H' P lamAt
  n : NoT B → NoT B'
theorem Grow.refl (i : Same B H) : Grow B H B H := ⟨Same.refl _, LamX.ExtN.refl _, i, fun _ _ => rfl, fun _ h => h, fun _ h => h, fun h => h⟩
theorem Grow.trans {B1 H1 B2 H2 : Hp} (g : Grow B H B1 H1) (k : Grow B1 H1 B2 H2) : Grow B H B2 H2 :=
  ⟨g.b.trans k.b, g.h.trans k.h, k.i, fun a ha => by rw [k.f a (g.e a ha), g.f a ha], fun a ha => k.e a (g.e a ha), fun P h => k.t P (g.t P h), fun h => k.n (g.n h)⟩
theorem Grow.free (g : Grow B H B' H') {p : Addr} (h : H' p = none) : H p = none := by
  cases q : H p with
  | none => rfl
  | some o => exact absurd h (g.e p (by rw [q]; simp))
theorem same_e (s : Same H H') : ∀ a, H a ≠ none → H' a ≠ none := fun a ha => by
  cases q : H a with
  | none => exact absurd q ha
  | some o => rw [s a o q]; simp
theorem Grow.of (b : Same B B') (s : Same H H') (i : Same B' H') (f : ∀ a, H a ≠ none → B' a = B a) (n : NoT B → NoT B') : Grow B H B' H' := ⟨b, LamX.ExtN.of s, i, f, same_e s, fun P h => h.ext s, n⟩
theorem same_new {H : Hp} {p : Addr} {o : HO} (h : H p = none) : Same H (upd H p o) := fun a u e => by
  rw [upd_ne (ne_of_none e h)]
  exact e
theorem NoT.upd {p : Addr} {o : HO} (h : NoT B) (ho : ∀ ps, o ≠ .tbl ps) : NoT (upd B p o) := fun a ps => by
  by_cases ha : a = p
  · subst ha; rw [upd_same]; exact fun z => ho ps (Option.some.inj z)
  · rw [upd_ne ha]; exact h a ps
theorem Grow.new {p : Addr} {o : HO} (i : Same B H) (hp : H p = none) (ho : ∀ ps, o ≠ .tbl ps := by intro _ z; cases z) : Grow B H (upd B p o) (upd H p o) :=
  Grow.of (same_new (i.free hp)) (same_new hp) (fun a u e => by
    by_cases ha : a = p
    · subst ha; rw [upd_same] at e; cases e; exact upd_same
    · rw [upd_ne ha] at e; rw [upd_ne ha]; exact i a u e) (fun a ha => by
    have hap : a ≠ p := fun q => ha (by rw [q]; exact hp)
    rw [upd_ne hap]) (fun h => h.upd ho)
/-- a new object that is not frozen -/
theorem Grow.raw {p : Addr} {o : HO} (i : Same B H) (hp : H p = none) : Grow B H B (upd H p o) :=
  Grow.of (Same.refl _) (same_new hp) (i.trans (same_new hp)) (fun _ _ => rfl) (fun h => h)
/-- what may be a def's own: no table, no code object -/
def Kind (ho : HO) : Prop := (∀ ps, ho ≠ .tbl ps) ∧ ∀ c q, ho ≠ LamX.CodeO c q
theorem Kind.tbl {ho : HO} (k : Kind ho) (ps : Array Value) : ho ≠ .tbl ps := k.1 ps
theorem Kind.code {ho : HO} (k : Kind ho) (c : Addr) (q : Str) : ho ≠ LamX.CodeO c q := k.2 c q
theorem kind_lst (vs : List V) : Kind (.lst vs) := ⟨fun _ z => (by cases z), fun _ _ z => (by unfold LamX.CodeO at z; cases z)⟩
theorem kind_tup (vs : List V) : Kind (.tup vs) := ⟨fun _ z => (by cases z), fun _ _ z => (by unfold LamX.CodeO at z; cases z)⟩
theorem kind_dK (us : List (Key × V)) : Kind (.dK us) := ⟨fun _ z => (by cases z), fun _ _ z => (by unfold LamX.CodeO at z; cases z)⟩
theorem kind_dT (us : List (List Key × V)) : Kind (.dT us) := ⟨fun _ z => (by cases z), fun _ _ z => (by unfold LamX.CodeO at z; cases z)⟩
theorem kind_ins (C dx : Addr) (fs : List (Str × V)) : Kind (.ins C dx fs) := ⟨fun _ z => (by cases z), fun _ _ z => (by unfold LamX.CodeO at z; cases z)⟩
theorem kind_own (x : Addr) : Kind (.own x) := ⟨fun _ z => (by cases z), fun _ _ z => (by unfold LamX.CodeO at z; cases z)⟩
theorem tab_updG {p P : Addr} {q : Nat → Nat → Str} {ho ho' : HO} (h : NdefX.TabN H P q) (hp : H p = some ho) (k : Kind ho) : NdefX.TabN (upd H p ho') P q := by
  obtain ⟨ps, h1, h2, h3⟩ := h
  have n1 : P ≠ p := fun z => by rw [z, hp] at h1; exact k.tbl ps (Option.some.inj h1)
  refine ⟨ps, by rw [upd_ne n1]; exact h1, h2, fun pos cv hc => ?_⟩
  obtain ⟨c, e1, e2⟩ := h3 pos cv hc
  have n2 : c ≠ p := fun z => by rw [z, hp] at e2; exact k.code _ _ (Option.some.inj e2)
  exact ⟨c, e1, by rw [upd_ne n2]; exact e2⟩
theorem tab_upd {p P : Addr} {q : Nat → Nat → Str} {us vs : List V} (h : NdefX.TabN H P q) (hp : H p = some (.lst us)) : NdefX.TabN (upd H p (.lst vs)) P q := tab_updG h hp (kind_lst _)
end

/-! ### own trees -/
/-- the kinds of own things: a list, a tuple, a dict, a dict by tuples, an instance -/
inductive NK where
  | ls
  | tp
  | dc (ks : List Key)
  | dt (ks : List (List Key))
  | ob (c : Str) (ns : List Str)
/-- data that stays, or an own thing with what it holds -/
inductive T where
  | im (d : D)
  | nd (k : NK) (ts : List T)
/-- at p stands a thing of the kind k that holds vs and takes up fp -/
def cell (K : PySem.W.Frag) (H : Hp) (p : Addr) (vs : List V) (fp : List Addr) : NK → Prop
  | .ls => H p = some (.lst vs) ∧ fp = [p]
  | .tp => H p = some (.tup vs) ∧ fp = [p]
  | .dc ks => ∃ us : List (Key × V), H p = some (.dK us) ∧ us.map (·.1) = ks ∧ vs = us.map (·.2) ∧ fp = [p]
  | .dt ks => ∃ us : List (List Key × V), H p = some (.dT us) ∧ us.map (·.1) = ks ∧ vs = us.map (·.2) ∧ fp = [p]
  | .ob c ns => ∃ (C dx : Addr) (fs : List (Str × V)), H p = some (.ins C dx fs) ∧ H dx = some (.own p) ∧ clsV K c = some (.ref C) ∧ fs.map (·.1) = ns ∧ vs = fs.map (·.2) ∧ fp = [p, dx]
section
variable {K : PySem.W.Frag} {H H' : Hp}
theorem cell_in {k : NK} {p : Addr} {vs : List V} {fp : List Addr} (h : cell K H p vs fp k) : p ∈ fp := by
  cases k with
  | ls => rw [h.2]; simp
  | tp => rw [h.2]; simp
  | dc ks => obtain ⟨us, _, _, _, rfl⟩ := h; simp
  | dt ks => obtain ⟨us, _, _, _, rfl⟩ := h; simp
  | ob c ns => obtain ⟨C, dx, fs, _, _, _, _, _, rfl⟩ := h; simp
theorem cell_kind {k : NK} {p : Addr} {vs : List V} {fp : List Addr} (h : cell K H p vs fp k) : ∀ q ∈ fp, ∃ u, H q = some u ∧ Kind u := by
  cases k with
  | ls => obtain ⟨h, rfl⟩ := h; intro q hq; rw [List.mem_singleton.mp hq]; exact ⟨_, h, kind_lst _⟩
  | tp => obtain ⟨h, rfl⟩ := h; intro q hq; rw [List.mem_singleton.mp hq]; exact ⟨_, h, kind_tup _⟩
  | dc ks => obtain ⟨us, h, _, _, rfl⟩ := h; intro q hq; rw [List.mem_singleton.mp hq]; exact ⟨_, h, kind_dK _⟩
  | dt ks => obtain ⟨us, h, _, _, rfl⟩ := h; intro q hq; rw [List.mem_singleton.mp hq]; exact ⟨_, h, kind_dT _⟩
  | ob c ns =>
    obtain ⟨C, dx, fs, h1, h2, _, _, _, rfl⟩ := h
    intro q hq
    rcases List.mem_cons.mp hq with rfl | hq
    · exact ⟨_, h1, kind_ins _ _ _⟩
    · rw [List.mem_singleton.mp hq]; exact ⟨_, h2, kind_own _⟩
theorem cell_at {k : NK} {p : Addr} {vs : List V} {fp : List Addr} (h : cell K H p vs fp k) (e : ∀ q ∈ fp, H' q = H q) : cell K H' p vs fp k := by
  have ep := e p (cell_in h)
  cases k with
  | ls => exact ⟨ep.trans h.1, h.2⟩
  | tp => exact ⟨ep.trans h.1, h.2⟩
  | dc ks => obtain ⟨us, h, r⟩ := h; exact ⟨us, ep.trans h, r⟩
  | dt ks => obtain ⟨us, h, r⟩ := h; exact ⟨us, ep.trans h, r⟩
  | ob c ns =>
    obtain ⟨C, dx, fs, h1, h2, h3, h4, h5, h6⟩ := h
    exact ⟨C, dx, fs, ep.trans h1, (e dx (by rw [h6]; simp)).trans h2, h3, h4, h5, h6⟩
theorem cell_one {k : NK} {p : Addr} {vs vs' : List V} {fp fp' : List Addr} (h : cell K H p vs fp k) (h' : cell K H p vs' fp' k) : vs' = vs ∧ fp' = fp := by
  cases k with
  | ls =>
    have := h'.1.symm.trans h.1
    cases this
    exact ⟨rfl, h'.2.trans h.2.symm⟩
  | tp =>
    have := h'.1.symm.trans h.1
    cases this
    exact ⟨rfl, h'.2.trans h.2.symm⟩
  | dc ks =>
    obtain ⟨us, h, _, e, f⟩ := h
    obtain ⟨us', h', _, e', f'⟩ := h'
    have := h'.symm.trans h
    cases this
    exact ⟨e'.trans e.symm, f'.trans f.symm⟩
  | dt ks =>
    obtain ⟨us, h, _, e, f⟩ := h
    obtain ⟨us', h', _, e', f'⟩ := h'
    have := h'.symm.trans h
    cases this
    exact ⟨e'.trans e.symm, f'.trans f.symm⟩
  | ob c ns =>
    obtain ⟨C, dx, fs, h, _, _, _, e, f⟩ := h
    obtain ⟨C', dx', fs', h', _, _, _, e', f'⟩ := h'
    have := h'.symm.trans h
    cases this
    exact ⟨e'.trans e.symm, f'.trans f.symm⟩
end
mutual
/-- what a tree takes up -/
def FT (K : PySem.W.Frag) (H : Hp) : T → V → Addr → Prop
  | .im _, _, _ => False
  | .nd k ts, v, q => ∃ p vs fp, v = .ref p ∧ cell K H p vs fp k ∧ (q ∈ fp ∨ FTA K H ts vs q)
def FTA (K : PySem.W.Frag) (H : Hp) : List T → List V → Addr → Prop
  | [], _, _ => False
  | _ :: _, [], _ => False
  | t :: ts, v :: vs, q => FT K H t v q ∨ FTA K H ts vs q
end
mutual
/-- a value stands for a tree: nothing of it is there twice -/
def RT (K : PySem.W.Frag) (B H : Hp) : T → V → Prop
  | .im d, v => Rp K B v d
  | .nd k ts, v => ∃ p vs fp, v = .ref p ∧ cell K H p vs fp k ∧ RTA K B H ts vs ∧ ∀ q ∈ fp, ¬ FTA K H ts vs q
def RTA (K : PySem.W.Frag) (B H : Hp) : List T → List V → Prop
  | [], [] => True
  | [], _ :: _ => False
  | _ :: _, [] => False
  | t :: ts, v :: vs => RT K B H t v ∧ RTA K B H ts vs ∧ ∀ q, FT K H t v q → ¬ FTA K H ts vs q
end
section
variable {K : PySem.W.Frag} {B B' H H' : Hp}
mutual
/-- a tree stays while all it takes up does -/
theorem RT.move : ∀ (t : T) (v : V), RT K B H t v → Same B B' → (∀ q, FT K H t v q → H' q = H q) → RT K B' H' t v ∧ ∀ q, FT K H' t v q ↔ FT K H t v q
  | .im d, v, h, sb, _ => by
    rw [RT] at h ⊢
    exact ⟨h.mono sb, fun q => by rw [FT, FT]⟩
  | .nd k ts, v, h, sb, e => by
    rw [RT] at h
    obtain ⟨p, vs, fp, rfl, hc, hr, hn⟩ := h
    have e1 : ∀ q ∈ fp, H' q = H q := fun q hq => e q (by rw [FT]; exact ⟨p, vs, fp, rfl, hc, .inl hq⟩)
    obtain ⟨r1, r2⟩ := RTA.move ts vs hr sb fun q hq => e q (by rw [FT]; exact ⟨p, vs, fp, rfl, hc, .inr hq⟩)
    have hc' := cell_at hc e1
    constructor
    · rw [RT]
      exact ⟨p, vs, fp, rfl, hc', r1, fun q hq z => hn q hq ((r2 q).mp z)⟩
    · intro q
      rw [FT, FT]
      constructor
      · rintro ⟨p', vs', fp', z, hc2, h⟩
        cases z
        obtain ⟨rfl, rfl⟩ := cell_one hc' hc2
        exact ⟨p, _, _, rfl, hc, h.imp id (r2 q).mp⟩
      · rintro ⟨p', vs', fp', z, hc2, h⟩
        cases z
        obtain ⟨rfl, rfl⟩ := cell_one hc hc2
        exact ⟨p, _, _, rfl, hc', h.imp id (r2 q).mpr⟩
theorem RTA.move : ∀ (ts : List T) (vs : List V), RTA K B H ts vs → Same B B' → (∀ q, FTA K H ts vs q → H' q = H q) → RTA K B' H' ts vs ∧ ∀ q, FTA K H' ts vs q ↔ FTA K H ts vs q
  | [], [], _, _, _ => ⟨by rw [RTA]; trivial, fun q => by rw [FTA, FTA]⟩
  | [], _ :: _, h, _, _ => by rw [RTA] at h; exact h.elim
  | _ :: _, [], h, _, _ => by rw [RTA] at h; exact h.elim
  | t :: ts, v :: vs, h, sb, e => by
    rw [RTA] at h
    obtain ⟨h1, h2, h3⟩ := h
    obtain ⟨a1, a2⟩ := RT.move t v h1 sb fun q hq => e q (by rw [FTA]; exact .inl hq)
    obtain ⟨b1, b2⟩ := RTA.move ts vs h2 sb fun q hq => e q (by rw [FTA]; exact .inr hq)
    constructor
    · rw [RTA]
      exact ⟨a1, b1, fun q hq z => h3 q ((a2 q).mp hq) ((b2 q).mp z)⟩
    · intro q
      rw [FTA, FTA, a2, b2]
end
mutual
theorem RT.kind : ∀ (t : T) (v : V), RT K B H t v → ∀ q, FT K H t v q → ∃ u, H q = some u ∧ Kind u
  | .im d, v, _, q, h => by rw [FT] at h; exact h.elim
  | .nd k ts, v, h, q, hq => by
    rw [RT] at h
    obtain ⟨p, vs, fp, rfl, hc, hr, _⟩ := h
    rw [FT] at hq
    obtain ⟨p', vs', fp', z, hc2, hq⟩ := hq
    cases z
    obtain ⟨rfl, rfl⟩ := cell_one hc hc2
    rcases hq with hq | hq
    · exact cell_kind hc q hq
    · exact RTA.kind ts _ hr q hq
theorem RTA.kind : ∀ (ts : List T) (vs : List V), RTA K B H ts vs → ∀ q, FTA K H ts vs q → ∃ u, H q = some u ∧ Kind u
  | [], _, _, q, h => by rw [FTA] at h; exact h.elim
  | _ :: _, [], h, _, _ => by rw [RTA] at h; exact h.elim
  | t :: ts, v :: vs, h, q, hq => by
    rw [RTA] at h
    rw [FTA] at hq
    rcases hq with hq | hq
    · exact RT.kind t v h.1 q hq
    · exact RTA.kind ts vs h.2.1 q hq
end
theorem RTA.length : ∀ {ts : List T} {vs : List V}, RTA K B H ts vs → vs.length = ts.length
  | [], [], _ => rfl
  | [], _ :: _, h => by rw [RTA] at h; exact h.elim
  | _ :: _, [], h => by rw [RTA] at h; exact h.elim
  | t :: ts, v :: vs, h => by rw [RTA] at h; simp [RTA.length h.2.1]
end
mutual
/-- a tree as data -/
def T.d : T → D
  | .im d => d
  | .nd k ts => match k with
    | .ls => .lst (T.dA ts)
    | .tp => .tup (T.dA ts)
    | .dc ks => .dct (ks.map kD) (T.dA ts)
    | .dt ks => .dtt ks (T.dA ts)
    | .ob c ns => .ins c ns (T.dA ts)
def T.dA : List T → List D
  | [] => []
  | t :: ts => t.d :: T.dA ts
end
theorem T.dA_map : ∀ ts : List T, T.dA ts = ts.map T.d
  | [] => by rw [T.dA]; rfl
  | t :: ts => by rw [T.dA, T.dA_map ts]; rfl
section
variable {K : PySem.W.Frag} {B B' H : Hp}
mutual
/-- a tree that is let be is data -/
theorem RT.frz : ∀ (t : T) (v : V), RT K B H t v → Same B B' → (∀ q, FT K H t v q → B' q = H q) → Rp K B' v t.d
  | .im d, v, h, sb, _ => by
    rw [RT] at h
    rw [T.d]
    exact h.mono sb
  | .nd k ts, v, h, sb, e => by
    rw [RT] at h
    obtain ⟨p, vs, fp, rfl, hc, hr, hn⟩ := h
    have r := RTA.frz ts vs hr sb fun q hq => e q (by rw [FT]; exact ⟨p, vs, fp, rfl, hc, .inr hq⟩)
    have hc' := cell_at (H' := B') hc fun q hq => e q (by rw [FT]; exact ⟨p, vs, fp, rfl, hc, .inl hq⟩)
    cases k with
    | ls => rw [T.d]; exact .lst (SqL.of hc'.1) r
    | tp => rw [T.d]; exact .tup (.inl (.inl hc'.1)) r
    | dc ks =>
      obtain ⟨us, h1, rfl, rfl, _⟩ := hc'
      rw [T.d]
      simp only [List.map_map]
      exact .dct h1 r
    | dt ks =>
      obtain ⟨us, h1, rfl, rfl, _⟩ := hc'
      rw [T.d]
      exact .dcT h1 r
    | ob c ns =>
      obtain ⟨C, dx, fs, h1, h2, h3, rfl, rfl, _⟩ := hc'
      rw [T.d]
      exact .ins h1 h2 h3 r
theorem RTA.frz : ∀ (ts : List T) (vs : List V), RTA K B H ts vs → Same B B' → (∀ q, FTA K H ts vs q → B' q = H q) → RpA K B' vs (T.dA ts)
  | [], [], _, _, _ => by rw [T.dA]; exact .nil
  | [], _ :: _, h, _, _ => by rw [RTA] at h; exact h.elim
  | _ :: _, [], h, _, _ => by rw [RTA] at h; exact h.elim
  | t :: ts, v :: vs, h, sb, e => by
    rw [RTA] at h
    rw [T.dA]
    exact .cons (RT.frz t v h.1 sb fun q hq => e q (by rw [FTA]; exact .inl hq)) (RTA.frz ts vs h.2.1 sb fun q hq => e q (by rw [FTA]; exact .inr hq))
end
end

/-- what a slot holds: data that stays; a list, a dict, a tree that is the def's own -/
inductive O where
  | im (d : D)
  | ow (ds : List D)
  | od (kvs : List (Key × D))
  | tr (k : NK) (ts : List T)
def O.isOw : O → Bool
  | .im _ => false
  | _ => true
abbrev DS := List (Option O)

/-- what a slot takes up -/
def Ft (K : PySem.W.Frag) (H : Hp) (v : V) (q : Addr) : O → Prop
  | .im _ => False
  | .ow _ => v = .ref q
  | .od _ => v = .ref q
  | .tr k ts => FT K H (.nd k ts) v q
def SR (K : PySem.W.Frag) (H0 B H : Hp) (v : V) : O → Prop
  | .im d => Rp K B v d
  | .ow ds => ∃ p vs, v = .ref p ∧ H0 p = none ∧ B p = none ∧ H p = some (.lst vs) ∧ RpA K B vs ds
  | .od kvs => ∃ p us, v = .ref p ∧ H0 p = none ∧ B p = none ∧ H p = some (.dK us) ∧ us.map (·.1) = kvs.map (·.1) ∧ RpA K B (us.map (·.2)) (kvs.map (·.2))
  | .tr k ts => RT K B H (.nd k ts) v ∧ ∀ q, FT K H (.nd k ts) v q → H0 q = none ∧ B q = none

structure Rel (K : PySem.W.Frag) (B0 H0 B H : Hp) (σ : L2.St) (δ : DS) : Prop where
  g : Grow B0 H0 B H
  tk : ∀ p ∈ tabsOf K, NdefX.TabN H0 p lamAt
  nt : NoT B0
  len : σ.length = δ.length
  sl : ∀ (i : Nat) (o : O), δ[i]? = some (some o) → ∃ v, σ[i]? = some (some v) ∧ SR K H0 B H v o
  sep : ∀ (i j : Nat) (o o' : O) (v v' : V), i ≠ j → δ[i]? = some (some o) → δ[j]? = some (some o') → σ[i]? = some (some v) → σ[j]? = some (some v') → ∀ q, Ft K H v q o → ¬ Ft K H v' q o'

section
variable {K : PySem.W.Frag} {B0 H0 B H B' H' : Hp} {σ : L2.St} {δ : DS}
/-- all that a slot takes up is there and is new -/
theorem SR.new {v : V} {o : O} (h : SR K H0 B H v o) : ∀ q, Ft K H v q o → H0 q = none ∧ B q = none ∧ ∃ u, H q = some u ∧ Kind u := by
  cases o with
  | im d => intro q z; exact z.elim
  | ow ds => obtain ⟨p, vs, rfl, h0, hb, hh, _⟩ := h; intro q z; cases z; exact ⟨h0, hb, _, hh, kind_lst _⟩
  | od kvs => obtain ⟨p, us, rfl, h0, hb, hh, _⟩ := h; intro q z; cases z; exact ⟨h0, hb, _, hh, kind_dK _⟩
  | tr k ts => intro q z; exact ⟨(h.2 q z).1, (h.2 q z).2, RT.kind _ _ h.1 q z⟩
/-- the root of an own thing -/
theorem SR.root {v : V} {o : O} (ho : o.isOw = true) (h : SR K H0 B H v o) : ∃ p, v = .ref p ∧ Ft K H v p o := by
  cases o with
  | im d => cases ho
  | ow ds => obtain ⟨p, vs, rfl, h0, hb, hh, _⟩ := h; exact ⟨p, rfl, rfl⟩
  | od kvs => obtain ⟨p, us, rfl, h0, hb, hh, _⟩ := h; exact ⟨p, rfl, rfl⟩
  | tr k ts =>
    have h1 := h.1
    rw [RT] at h1
    obtain ⟨p, vs, fp, rfl, hc, _⟩ := h1
    exact ⟨p, rfl, by show FT K H (.nd k ts) _ p; rw [FT]; exact ⟨p, vs, fp, rfl, hc, .inl (cell_in hc)⟩⟩
/-- the object of an own thing -/
theorem SR.own {v : V} {o : O} (ho : o.isOw = true) (h : SR K H0 B H v o) : ∃ p u, v = .ref p ∧ H0 p = none ∧ B p = none ∧ H p = some u ∧ Kind u := by
  obtain ⟨p, hv, hf⟩ := SR.root ho h
  obtain ⟨h0, hb, u, hh, k⟩ := h.new p hf
  exact ⟨p, u, hv, h0, hb, hh, k⟩
/-- an own thing where all it takes up stays -/
theorem SR.move {v : V} {o : O} (h : SR K H0 B H v o) (sb : Same B B') (e : ∀ q, Ft K H v q o → B' q = none ∧ H' q = H q) : SR K H0 B' H' v o ∧ ∀ q, Ft K H' v q o ↔ Ft K H v q o := by
  cases o with
  | im d => exact ⟨Rp.mono sb h, fun _ => Iff.rfl⟩
  | ow ds =>
    obtain ⟨p, vs, rfl, h0, _, h1, r⟩ := h
    obtain ⟨hb, hh⟩ := e p rfl
    exact ⟨⟨_, vs, rfl, h0, hb, hh.trans h1, RpA.mono sb r⟩, fun _ => Iff.rfl⟩
  | od kvs =>
    obtain ⟨p, us, rfl, h0, _, h1, k, r⟩ := h
    obtain ⟨hb, hh⟩ := e p rfl
    exact ⟨⟨_, us, rfl, h0, hb, hh.trans h1, k, RpA.mono sb r⟩, fun _ => Iff.rfl⟩
  | tr k ts =>
    obtain ⟨m1, m2⟩ := RT.move (.nd k ts) v h.1 sb fun q hq => (e q hq).2
    exact ⟨⟨m1, fun q hq => ⟨(h.2 q ((m2 q).mp hq)).1, (e q ((m2 q).mp hq)).1⟩⟩, m2⟩
theorem SR.grow {v : V} {o : O} (g : Grow B H B' H') (h : SR K H0 B H v o) : SR K H0 B' H' v o ∧ ∀ q, Ft K H' v q o ↔ Ft K H v q o :=
  h.move g.b fun q hq => by
    obtain ⟨_, hb, u, hh, k⟩ := h.new q hq
    exact ⟨by rw [g.f q (by rw [hh]; simp)]; exact hb, by rw [hh]; exact g.h _ _ hh k.tbl⟩
theorem SR.mono {v : V} {o : O} (g : Grow B H B' H') (h : SR K H0 B H v o) : SR K H0 B' H' v o := (h.grow g).1
theorem Rel.own (r : Rel K B0 H0 B H σ δ) : ∀ (i j : Nat) (o o' : O) (v : V), i ≠ j → δ[i]? = some (some o) → δ[j]? = some (some o') → o.isOw = true → o'.isOw = true → σ[i]? = some (some v) → σ[j]? ≠ some (some v) := fun i j o o' v hij e1 e2 o1 o2 e3 e4 => by
  obtain ⟨v1, a1, a2⟩ := r.sl i o e1
  obtain ⟨v2, b1, b2⟩ := r.sl j o' e2
  rw [e3] at a1
  cases a1
  rw [e4] at b1
  cases b1
  obtain ⟨p, hp, f1⟩ := SR.root o1 a2
  obtain ⟨p', hp', f2⟩ := SR.root o2 b2
  rw [hp] at hp'
  cases hp'
  exact r.sep i j o o' v v hij e1 e2 e3 e4 p f1 f2
/-- all slots where all they take up stays -/
theorem Rel.seps (r : Rel K B0 H0 B H σ δ) (h : ∀ (i : Nat) (o : O) (v : V), δ[i]? = some (some o) → σ[i]? = some (some v) → ∀ q, Ft K H' v q o → Ft K H v q o) :
    ∀ (i j : Nat) (o o' : O) (v v' : V), i ≠ j → δ[i]? = some (some o) → δ[j]? = some (some o') → σ[i]? = some (some v) → σ[j]? = some (some v') → ∀ q, Ft K H' v q o → ¬ Ft K H' v' q o' :=
  fun i j o o' v v' hij e1 e2 e3 e4 q f1 f2 => r.sep i j o o' v v' hij e1 e2 e3 e4 q (h i o v e1 e3 q f1) (h j o' v' e2 e4 q f2)
theorem Rel.mono (r : Rel K B0 H0 B H σ δ) (g : Grow B H B' H') : Rel K B0 H0 B' H' σ δ :=
  ⟨r.g.trans g, r.tk, r.nt, r.len, fun i o e => by
    obtain ⟨v, h1, h2⟩ := r.sl i o e
    exact ⟨v, h1, h2.mono g⟩, r.seps fun i o v e1 e2 q hq => by
    obtain ⟨v', h1, h2⟩ := r.sl i o e1
    rw [e2] at h1
    cases h1
    exact ((h2.grow g).2 q).mp hq⟩
theorem Rel.get {i : Nat} {d : D} (r : Rel K B0 H0 B H σ δ) (e : δ[i]? = some (some (.im d))) : ∃ v, σ[i]? = some (some v) ∧ Rp K B v d := r.sl i _ e
theorem Rel.lt {i : Nat} {o : O} (e : δ[i]? = some (some o)) : i < δ.length := by
  by_cases hl : i < δ.length
  · exact hl
  · rw [List.getElem?_eq_none (by simpa using hl)] at e; cases e
theorem set_own {i m : Nat} {z : Option O} {o : O} (q : (δ.set i z)[m]? = some (some o)) : (i = m ∧ i < δ.length ∧ z = some o) ∨ (i ≠ m ∧ δ[m]? = some (some o)) := by
  by_cases hm : i = m
  · subst hm
    by_cases hl : i < δ.length
    · rw [List.getElem?_set_self hl] at q; exact .inl ⟨rfl, hl, Option.some.inj q⟩
    · rw [List.getElem?_eq_none (by simpa using hl)] at q; cases q
  · rw [List.getElem?_set_ne hm] at q
    exact .inr ⟨hm, q⟩
/-- one slot is another, in a heap where the other slots stay -/
theorem Rel.sepSet {H' : Hp} {i : Nat} {v : V} {z : Option O} (r : Rel K B0 H0 B H σ δ) (hl : i < δ.length → i < σ.length)
    (old : ∀ (j : Nat) (o : O) (w : V), j ≠ i → δ[j]? = some (some o) → σ[j]? = some (some w) → ∀ q, Ft K H' w q o → Ft K H w q o)
    (new : ∀ o, z = some o → ∀ (j : Nat) (o' : O) (w : V), j ≠ i → δ[j]? = some (some o') → σ[j]? = some (some w) → ∀ q, Ft K H' v q o → ¬ Ft K H w q o') :
    ∀ (a b : Nat) (o o' : O) (w w' : V), a ≠ b → (δ.set i z)[a]? = some (some o) → (δ.set i z)[b]? = some (some o') → (σ.set i (some v))[a]? = some (some w) → (σ.set i (some v))[b]? = some (some w') → ∀ q, Ft K H' w q o → ¬ Ft K H' w' q o' := by
  intro a b o o' w w' hab e1 e2 e3 e4 q f1 f2
  rcases set_own e1 with ⟨rfl, hi, z1⟩ | ⟨n1, e1⟩
  · rw [List.getElem?_set_self (hl hi)] at e3
    cases e3
    rcases set_own e2 with ⟨rfl, _, _⟩ | ⟨n2, e2⟩
    · exact hab rfl
    · rw [List.getElem?_set_ne n2] at e4
      exact new o z1 b o' w' (Ne.symm n2) e2 e4 q f1 (old b o' w' (Ne.symm n2) e2 e4 q f2)
  · rw [List.getElem?_set_ne n1] at e3
    rcases set_own e2 with ⟨rfl, hi, z2⟩ | ⟨n2, e2⟩
    · rw [List.getElem?_set_self (hl hi)] at e4
      cases e4
      exact new o' z2 a o w (Ne.symm n1) e1 e3 q f2 (old a o w (Ne.symm n1) e1 e3 q f1)
    · rw [List.getElem?_set_ne n2] at e4
      exact r.sep a b o o' w w' hab e1 e2 e3 e4 q (old a o w (Ne.symm n1) e1 e3 q f1) (old b o' w' (Ne.symm n2) e2 e4 q f2)
/-- a slot takes data -/
theorem Rel.set {v : V} {d : D} (r : Rel K B0 H0 B H σ δ) (i : Nat) (h : Rp K B v d) : Rel K B0 H0 B H (σ.set i (some v)) (δ.set i (some (.im d))) := by
  refine ⟨r.g, r.tk, r.nt, by simp [r.len], fun j o e => ?_, r.sepSet (fun hi => by rw [r.len]; exact hi) (fun _ _ _ _ _ _ _ h => h) fun o z j o' w _ _ _ q f => by cases z; exact f.elim⟩
  rcases set_own e with ⟨rfl, hl, z⟩ | ⟨hj, e⟩
  · cases z
    exact ⟨v, by rw [List.getElem?_set_self (by rw [r.len]; exact hl)], h⟩
  · rw [List.getElem?_set_ne hj]
    exact r.sl j o e
/-- a slot is forgotten -/
theorem Rel.drop {v : Option V} (r : Rel K B0 H0 B H σ δ) (i : Nat) : Rel K B0 H0 B H (σ.set i v) (δ.set i none) := by
  refine ⟨r.g, r.tk, r.nt, by simp [r.len], fun j o e => ?_, fun a b o o' w w' hab e1 e2 e3 e4 => ?_⟩
  · rcases set_own e with ⟨_, _, z⟩ | ⟨hj, e⟩
    · cases z
    · rw [List.getElem?_set_ne hj]
      exact r.sl j o e
  · rcases set_own e1 with ⟨_, _, z⟩ | ⟨n1, e1⟩
    · cases z
    rcases set_own e2 with ⟨_, _, z⟩ | ⟨n2, e2⟩
    · cases z
    rw [List.getElem?_set_ne n1] at e3
    rw [List.getElem?_set_ne n2] at e4
    exact r.sep a b o o' w w' hab e1 e2 e3 e4
/-- a slot takes a new thing of the def's own -/
theorem Rel.setO {v : V} {o : O} (r : Rel K B0 H0 B H σ δ) (i : Nat) (h : SR K H0 B H v o) (fr : ∀ (j : Nat) (o' : O) (w : V), j ≠ i → δ[j]? = some (some o') → σ[j]? = some (some w) → ∀ q, Ft K H v q o → ¬ Ft K H w q o') :
    Rel K B0 H0 B H (σ.set i (some v)) (δ.set i (some o)) := by
  refine ⟨r.g, r.tk, r.nt, by simp [r.len], fun j o' e => ?_, r.sepSet (fun hi => by rw [r.len]; exact hi) (fun _ _ _ _ _ _ _ h => h) fun o1 z => by cases z; exact fr⟩
  rcases set_own e with ⟨rfl, hl, z⟩ | ⟨hj, e⟩
  · cases z
    exact ⟨_, by rw [List.getElem?_set_self (by rw [r.len]; exact hl)], h⟩
  · rw [List.getElem?_set_ne hj]
    exact r.sl j o' e
/-- what is new is at no slot -/
theorem Rel.fresh' {q : Addr} (r : Rel K B0 H0 B H σ δ) (hp : H q = none) : ∀ (j : Nat) (o' : O) (w : V), δ[j]? = some (some o') → σ[j]? = some (some w) → ¬ Ft K H w q o' := fun j o' w e e' z => by
  obtain ⟨v, h1, h2⟩ := r.sl j o' e
  rw [e'] at h1
  cases h1
  obtain ⟨_, _, u, hh, _⟩ := h2.new q z
  rw [hp] at hh
  cases hh
/-- where what each slot takes up is old -/
theorem Rel.free' {q : Addr} (r : Rel K B0 H0 B H σ δ) (g : Grow B H B' H') (hp : H q = none) : ∀ (j : Nat) (o' : O) (w : V), δ[j]? = some (some o') → σ[j]? = some (some w) → ¬ Ft K H' w q o' := fun j o' w e e' z => by
  obtain ⟨v, h1, h2⟩ := r.sl j o' e
  rw [e'] at h1
  cases h1
  exact r.fresh' hp j o' w e e' (((h2.grow g).2 q).mp z)
theorem Rel.setG {p : Addr} {o : O} (r : Rel K B0 H0 B H σ δ) (i : Nat) (h : SR K H0 B H (.ref p) o) (fr : ∀ (j : Nat) (o' : O) (w : V), δ[j]? = some (some o') → σ[j]? = some (some w) → ¬ Ft K H w p o') (small : ∀ q, Ft K H (.ref p) q o → q = p := by intro q z; cases z; rfl) :
    Rel K B0 H0 B H (σ.set i (some (.ref p))) (δ.set i (some o)) := r.setO i h fun j o' w _ e e' q f => by rw [small q f]; exact fr j o' w e e'
theorem Rel.setOw {p : Addr} {vs : List V} {ds : List D} (r : Rel K B0 H0 B H σ δ) (i : Nat) (h0 : H0 p = none) (hb : B p = none) (hh : H p = some (.lst vs)) (q : RpA K B vs ds) (fr : ∀ (j : Nat) (o' : O) (w : V), δ[j]? = some (some o') → σ[j]? = some (some w) → ¬ Ft K H w p o') :
    Rel K B0 H0 B H (σ.set i (some (.ref p))) (δ.set i (some (.ow ds))) := r.setG i ⟨p, vs, rfl, h0, hb, hh, q⟩ fr
/-- the thing at slot i is changed, all else stays -/
theorem Rel.chg {i : Nat} {o : O} {z : Option O} {v v' : V} (r : Rel K B0 H0 B H σ δ) (e : δ[i]? = some (some o)) (es : σ[i]? = some (some v)) (g : Grow B0 H0 B' H') (sb : Same B B')
    (same : ∀ q, ¬ Ft K H v q o → H q ≠ none → H' q = H q ∧ B' q = B q) (new : ∀ o', z = some o' → SR K H0 B' H' v' o' ∧ ∀ q, Ft K H' v' q o' → Ft K H v q o ∨ H q = none) :
    Rel K B0 H0 B' H' (σ.set i (some v')) (δ.set i z) := by
  have hl := Rel.lt e
  have stay : ∀ (j : Nat) (oj : O) (w : V), j ≠ i → δ[j]? = some (some oj) → σ[j]? = some (some w) → SR K H0 B' H' w oj ∧ ∀ q, Ft K H' w q oj ↔ Ft K H w q oj := fun j oj w hj ej ew => by
    obtain ⟨w', h1, h2⟩ := r.sl j oj ej
    rw [ew] at h1
    cases h1
    refine h2.move sb fun q hq => ?_
    obtain ⟨_, hb, u, hh, _⟩ := h2.new q hq
    obtain ⟨s1, s2⟩ := same q (fun z => r.sep i j o oj v w (Ne.symm hj) e ej es ew q z hq) (by rw [hh]; simp)
    exact ⟨s2.trans hb, s1⟩
  refine ⟨g, r.tk, r.nt, by simp [r.len], fun j oj ej => ?_, r.sepSet (fun hi => by rw [r.len]; exact hi) (fun j oj w hj ej ew q hq => ((stay j oj w hj ej ew).2 q).mp hq) fun o' ho j oj w hj ej ew q hq hq' => ?_⟩
  · rcases set_own ej with ⟨rfl, _, ho⟩ | ⟨hj, ej⟩
    · exact ⟨v', by rw [List.getElem?_set_self (by rw [r.len]; exact hl)], (new oj ho).1⟩
    · obtain ⟨w, h1, _⟩ := r.sl j oj ej
      rw [List.getElem?_set_ne hj]
      exact ⟨w, h1, (stay j oj w (Ne.symm hj) ej h1).1⟩
  · rcases (new o' ho).2 q hq with h | h
    · exact r.sep i j o oj v w (Ne.symm hj) e ej es ew q h hq'
    · exact r.fresh' h j oj w ej ew hq'
theorem set_same {i : Nat} {v : V} (e : σ[i]? = some (some v)) : σ.set i (some v) = σ := by
  refine List.ext_getElem? fun j => ?_
  by_cases hj : i = j
  · subst hj
    have hl : i < σ.length := by
      by_cases hl : i < σ.length
      · exact hl
      · rw [List.getElem?_eq_none (by simpa using hl)] at e; cases e
    rw [List.getElem?_set_self hl, e]
  · rw [List.getElem?_set_ne hj]
/-- an own object is written -/
theorem Grow.poke {p : Addr} {ho u : HO} (g : Grow B0 H0 B H) (h0 : H0 p = none) (hb : B p = none) (hh : H p = some u) (kd : Kind u) : Grow B0 H0 B (upd H p ho) := by
  have nb : ∀ a o, B a = some o → a ≠ p := fun a o q z => by rw [z, hb] at q; cases q
  refine ⟨g.b, fun a o q nq => ?_, fun a o q => ?_, g.f, fun a ha => ?_, fun P hP => tab_updG (g.t P hP) hh kd, g.n⟩
  · have : a ≠ p := fun z => by rw [z, h0] at q; cases q
    rw [upd_ne this]
    exact g.h a o q nq
  · rw [upd_ne (nb a o q)]
    exact g.i a o q
  · have : a ≠ p := fun z => ha (by rw [z]; exact h0)
    rw [upd_ne this]
    exact g.e a ha
theorem Grow.fzp {p : Addr} {ho u : HO} (g : Grow B0 H0 B H) (h0 : H0 p = none) (hb : B p = none) (hh : H p = some u) (kd : Kind u) (nt : ∀ ps, ho ≠ .tbl ps) : Grow B0 H0 (upd B p ho) (upd H p ho) := by
  refine ⟨g.b.trans (same_new hb), fun a o q nq => ?_, fun a o q => ?_, fun a ha => ?_, fun a ha => ?_, fun P hP => tab_updG (g.t P hP) hh kd, fun h => (g.n h).upd nt⟩
  · have : a ≠ p := fun z => by rw [z, h0] at q; cases q
    rw [upd_ne this]
    exact g.h a o q nq
  · by_cases hap : a = p
    · subst hap; rw [upd_same] at q ⊢; exact q
    · rw [upd_ne hap] at q ⊢; exact g.i a o q
  · have : a ≠ p := fun z => ha (by rw [z]; exact h0)
    rw [upd_ne this]
    exact g.f a ha
  · have : a ≠ p := fun z => ha (by rw [z]; exact h0)
    rw [upd_ne this]
    exact g.e a ha
/-- the own thing at slot i is written -/
theorem Rel.writeG {p : Addr} {o o' : O} {ho : HO} {i : Nat} (r : Rel K B0 H0 B H σ δ) (e : δ[i]? = some (some o)) (ow : o.isOw = true) (es_ : σ[i]? = some (some (.ref p))) (new : B p = none → H0 p = none → SR K H0 B (upd H p ho) (.ref p) o') (small : ∀ q, Ft K (upd H p ho) (.ref p) q o' → q = p := by intro q z; cases z; rfl) :
    Rel K B0 H0 B (upd H p ho) σ (δ.set i (some o')) := by
  obtain ⟨v, h1, hsr⟩ := r.sl i _ e
  rw [es_] at h1
  cases h1
  obtain ⟨p', hv, hf⟩ := SR.root ow hsr
  cases hv
  obtain ⟨h0, hb, u, hh, kd⟩ := hsr.new p hf
  have := r.chg (z := some o') (v' := .ref p) e es_ (r.g.poke h0 hb hh kd) (Same.refl _) (fun q hq _ => ⟨upd_ne fun z => hq (z ▸ hf), rfl⟩) fun o2 z => by
    cases z
    exact ⟨new hb h0, fun q hq => .inl (by rw [small q hq]; exact hf)⟩
  rw [set_same es_] at this
  exact this
theorem Rel.write {p : Addr} {us vs : List V} {ds es : List D} {i : Nat} (r : Rel K B0 H0 B H σ δ) (e : δ[i]? = some (some (.ow ds))) (es_ : σ[i]? = some (some (.ref p))) (q : RpA K B vs es) :
    Rel K B0 H0 B (upd H p (.lst vs)) σ (δ.set i (some (.ow es))) := r.writeG e rfl es_ fun hb h0 => ⟨p, vs, rfl, h0, hb, upd_same, q⟩
/-- the own thing at slot i is let be: from now on it is data; ho: what it is, H2: how it stands then -/
theorem Rel.freezeG {o : O} {d : D} {i : Nat} {p : Addr} {ho : HO} {H2 : Hp} (r : Rel K B0 H0 B H σ δ) (e : δ[i]? = some (some o)) (ow : o.isOw = true) (es_ : σ[i]? = some (some (.ref p))) (hH : H2 = upd H p ho) (nt : ∀ ps, ho ≠ .tbl ps)
    (hd : Rp K (upd B p ho) (.ref p) d) : Same B (upd B p ho) ∧ Rel K B0 H0 (upd B p ho) H2 σ (δ.set i (some (.im d))) := by
  obtain ⟨v, h1, hsr⟩ := r.sl i _ e
  rw [es_] at h1
  cases h1
  obtain ⟨p', hv, hf⟩ := SR.root ow hsr
  cases hv
  obtain ⟨h0, hb, u, hh, kd⟩ := hsr.new p hf
  subst hH
  have sb : Same B (upd B p ho) := same_new hb
  refine ⟨sb, ?_⟩
  have := r.chg (z := some (.im d)) (v' := .ref p) e es_ (r.g.fzp h0 hb hh kd nt) sb (fun q hq _ => ⟨upd_ne fun z => hq (z ▸ hf), upd_ne fun z => hq (z ▸ hf)⟩) fun o2 z => by
    cases z
    exact ⟨hd, fun q hq => hq.elim⟩
  rw [set_same es_] at this
  exact this
theorem upd_self {H : Hp} {p : Addr} {o : HO} (h : H p = some o) : upd H p o = H := by
  funext a
  by_cases ha : a = p
  · subst ha; rw [upd_same, h]
  · rw [upd_ne ha]
theorem Rel.freeze {ds : List D} {i : Nat} (r : Rel K B0 H0 B H σ δ) (e : δ[i]? = some (some (.ow ds))) : ∃ B', Same B B' ∧ Rel K B0 H0 B' H σ (δ.set i (some (.im (.lst ds)))) := by
  obtain ⟨v, h1, p, vs, rfl, h0, hb, hh, q⟩ := r.sl i _ e
  obtain ⟨sb, r'⟩ := r.freezeG (ho := .lst vs) (d := .lst ds) e rfl h1 (upd_self hh).symm (fun _ z => by cases z) (.lst (SqL.of upd_same) (RpA.mono (same_new hb) q))
  exact ⟨_, sb, r'⟩
open Classical in
/-- the frozen heap with a tree -/
noncomputable def fzH (B H : Hp) (F : Addr → Prop) : Hp := fun a => if F a then H a else B a
theorem fzH_same {F : Addr → Prop} (hF : ∀ q, F q → B q = none) : Same B (fzH B H F) := fun a o q => by
  have : ¬ F a := fun z => by rw [hF a z] at q; cases q
  unfold fzH
  rw [if_neg this]
  exact q
theorem Grow.fzF {F : Addr → Prop} (g : Grow B0 H0 B H) (hF : ∀ q, F q → H0 q = none ∧ B q = none ∧ ∃ u, H q = some u ∧ Kind u) : Grow B0 H0 (fzH B H F) H := by
  refine ⟨g.b.trans (fzH_same fun q hq => (hF q hq).2.1), g.h, fun a o q => ?_, fun a ha => ?_, g.e, g.t, fun h a ps z => ?_⟩
  · unfold fzH at q
    split at q
    · exact q
    · exact g.i a o q
  · have : ¬ F a := fun z => ha (hF a z).1
    unfold fzH
    rw [if_neg this]
    exact g.f a ha
  · unfold fzH at z
    split at z
    · rename_i hf
      obtain ⟨_, _, u, hu, k⟩ := hF a hf
      rw [hu] at z
      exact k.tbl ps (Option.some.inj z)
    · exact g.n h a ps z
/-- the own tree at slot i is let be -/
theorem Rel.freezeT {k : NK} {ts : List T} {i : Nat} {v : V} (r : Rel K B0 H0 B H σ δ) (e : δ[i]? = some (some (.tr k ts))) (es : σ[i]? = some (some v)) : Same B (fzH B H (FT K H (.nd k ts) v)) ∧ Rel K B0 H0 (fzH B H (FT K H (.nd k ts) v)) H σ (δ.set i (some (.im (T.nd k ts).d))) := by
  obtain ⟨v', h1, hsr⟩ := r.sl i _ e
  rw [es] at h1
  cases h1
  have hF := hsr.new
  have sb := fzH_same (B := B) (H := H) (F := FT K H (.nd k ts) v) fun q hq => (hF q hq).2.1
  refine ⟨sb, ?_⟩
  have := r.chg (z := some (.im (T.nd k ts).d)) (v' := v) e es (r.g.fzF (F := FT K H (.nd k ts) v) hF) sb (fun q hq _ => ⟨rfl, by unfold fzH; exact if_neg hq⟩) fun o2 z => by
    cases z
    refine ⟨RT.frz _ _ hsr.1 sb fun q hq => ?_, fun q hq => hq.elim⟩
    unfold fzH
    rw [if_pos hq]
  rw [set_same es] at this
  exact this
end

/-- an exception's value c with its own dict dx is x -/
def RpX (K : PySem.W.Frag) (B : Hp) (c : Value) (dx : Option Addr) (x : Exn) : Prop :=
  clsV K x.cls = some c ∧ ∃ d us, dx = some d ∧ B d = some (.xd us) ∧ us.map (·.1) = x.fs.map (·.1) ∧ RpA K B (us.map (·.2)) (x.fs.map (·.2))

/-! ### soundness of a reading by a function -/
section
variable (K : PySem.W.Frag)
def PostE (B H : Hp) (σ : L2.St) (W : WX) (Q : VK) : Res D → Prop
  | .ok d => ∀ v B' H', Grow B H B' H' → Rp K B' v d → Q v H'
  | .er x => ∀ c dx B' H', Grow B H B' H' → RpX K B' c dx x → W c dx σ H'
  | .no => False
def PostT (B H : Hp) (σ : L2.St) (W : WX) (Q : Bool → Hp → Prop) : Res Bool → Prop
  | .ok b => ∀ B' H', Grow B H B' H' → Q b H'
  | .er x => ∀ c dx B' H', Grow B H B' H' → RpX K B' c dx x → W c dx σ H'
  | .no => False
def PostA (B H : Hp) (σ : L2.St) (W : WX) (Q : List V → Hp → Prop) : Res (List D) → Prop
  | .ok ds => ∀ vs B' H', Grow B H B' H' → RpA K B' vs ds → Q vs H'
  | .er x => ∀ c dx B' H', Grow B H B' H' → RpX K B' c dx x → W c dx σ H'
  | .no => False
/-- a new list -/
def PostF (B H : Hp) (σ : L2.St) (W : WX) (Q : VK) : Res (List D) → Prop
  | .ok ds => ∀ p vs B' H', Grow B H B' H' → H p = none → B' p = none → H' p = some (.lst vs) → RpA K B' vs ds → Q (.ref p) H'
  | .er x => ∀ c dx B' H', Grow B H B' H' → RpX K B' c dx x → W c dx σ H'
  | .no => False
def SE (W : WX) (t : TE) (f : DS → Res D) : Prop := ∀ B0 H0 δ σ B H (Q : VK), Rel K B0 H0 B H σ δ → PostE K B H σ W Q (f δ) → t σ H Q
def ST (W : WX) (t : TT) (f : DS → Res Bool) : Prop := ∀ B0 H0 δ σ B H (Q : Bool → Hp → Prop), Rel K B0 H0 B H σ δ → PostT K B H σ W Q (f δ) → t σ H Q
def SA (W : WX) (t : TA) (f : DS → Res (List D)) : Prop := ∀ B0 H0 δ σ B H (Q : List V → Hp → Prop), Rel K B0 H0 B H σ δ → PostA K B H σ W Q (f δ) → t σ H Q
def SF (W : WX) (t : TE) (f : DS → Res (List D)) : Prop := ∀ B0 H0 δ σ B H (Q : VK), Rel K B0 H0 B H σ δ → PostF K B H σ W Q (f δ) → t σ H Q
end

/-- what is behind a statement -/
inductive Fl where
  | nx (δ : DS)
  | rt (d : D)
  | rf (ds : List D)
  | bk (δ : DS)
  | ct (δ : DS)
  | rs (x : Exn) (δ : DS)
  | no
def PostS (K : PySem.W.Frag) (B0 H0 B : Hp) (W : WX) (E : Ends) : Fl → Prop
  | .nx δ => ∀ σ B' H', Same B B' → Rel K B0 H0 B' H' σ δ → E.nx σ H'
  | .bk δ => ∀ σ B' H', Same B B' → Rel K B0 H0 B' H' σ δ → E.bk σ H'
  | .ct δ => ∀ σ B' H', Same B B' → Rel K B0 H0 B' H' σ δ → E.ct σ H'
  | .rt d => ∀ v B' H', Same B B' → Grow B0 H0 B' H' → Rp K B' v d → E.rt v H'
  | .rf ds => ∀ p xs B' H', Same B B' → Grow B0 H0 B' H' → H0 p = none → B' p = none → H' p = some (.lst xs) → RpA K B' xs ds → E.rt (.ref p) H'
  | .rs x δ => ∀ c dx σ B' H', Same B B' → Rel K B0 H0 B' H' σ δ → RpX K B' c dx x → W c dx σ H'
  | .no => False
def SS (K : PySem.W.Frag) (W : WX) (t : TS) (g : DS → Fl) : Prop := ∀ B0 H0 δ σ B H (E : Ends), Rel K B0 H0 B H σ δ → PostS K B0 H0 B W E (g δ) → t E σ H

/-! ### the compiled judgements -/
structure CE (X : Cx) (W : WX) (e : Expr) (t : TE) (f : DS → Res D) : Prop where
  pe : PE X e t
  se : SE X.K W t f
structure CF (X : Cx) (W : WX) (e : Expr) (t : TE) (f : DS → Res (List D)) : Prop where
  pe : PE X e t
  sf : SF X.K W t f
structure CT (X : Cx) (W : WX) (e : Expr) (t : TT) (f : DS → Res Bool) : Prop where
  pt : PT X e t
  st : ST X.K W t f
structure CW (X : Cx) (W : WX) (e : Expr) (t : TT) (f : DS → Res Bool) : Prop where
  pw : PW X e t
  st : ST X.K W t f
structure CA (X : Cx) (W : WX) (es : List Expr) (t : TA) (f : DS → Res (List D)) : Prop where
  pa : PA X es t
  sa : SA X.K W t f
structure CS (X : Cx) (W : WX) (s : Stmt) (t : TS) (g : DS → Fl) : Prop where
  ps : PS X s t
  ss : SS X.K W t g
structure CSs (X : Cx) (W : WX) (s : List Stmt) (t : TS) (g : DS → Fl) : Prop where
  ps : PSs X s t
  ss : SS X.K W t g
theorem CW.ct {X : Cx} {W : WX} {e : Expr} {t : TT} {f : DS → Res Bool} (h : CW X W e t f) : CT X W e t f := ⟨h.pw.pt, h.st⟩
end DV
namespace DV
open PySem L2

section
variable {X : Cx} {W : WX} {K : PySem.W.Frag} {B H B0 H0 : Hp} {σ : L2.St} {δ : DS} {Q : VK}

/-! ### gluing -/
theorem postE_mono {B1 H1 : Hp} {Q : VK} {r : Res D} (g : Grow B H B1 H1) (h : PostE K B H σ W Q r) : PostE K B1 H1 σ W Q r := by
  cases r with
  | ok d => exact fun v B' H' g' rp => h v B' H' (g.trans g') rp
  | er x => exact fun c dx B' H' g' rp => h c dx B' H' (g.trans g') rp
  | no => exact h
theorem se_bind {t : TE} {f : DS → Res D} {α : Type} {k : D → Res α} {P : Res α → Prop} {QQ : VK}
    (h : SE K W t f) (r : Rel K B0 H0 B H σ δ)
    (hok : ∀ d v B' H', f δ = .ok d → Grow B H B' H' → Rp K B' v d → QQ v H')
    (her : ∀ x, f δ = .er x → ∀ c dx B' H', Grow B H B' H' → RpX K B' c dx x → W c dx σ H')
    (hno : f δ ≠ .no) : t σ H QQ := by
  refine h B0 H0 δ σ B H QQ r ?_
  cases e : f δ with
  | ok d => exact fun v B' H' g rp => hok d v B' H' e g rp
  | er x => exact her x e
  | no => exact absurd e hno

/-! ### names and constants -/
def cVar (i : Nat) : DS → Res D := fun δ => match δ[i]? with
  | some (some (.im d)) => .ok d
  | _ => .no
theorem se_var (i : Nat) : SE K W (tVar i) (cVar i) := fun B0 H0 δ σ B H Q r h => by
  unfold cVar at h
  cases e : δ[i]? with
  | none => rw [e] at h; exact h.elim
  | some o =>
    cases o with
    | none => rw [e] at h; exact h.elim
    | some o =>
      cases o with
      | ow ds => rw [e] at h; exact h.elim
      | od ds => rw [e] at h; exact h.elim
      | tr _ _ => rw [e] at h; exact h.elim
      | im d =>
        rw [e] at h
        obtain ⟨v, h1, h2⟩ := r.get e
        exact ⟨v, h1, h v B H (Grow.refl r.g.i) h2⟩
theorem ce_var (i : Nat) {x : Str} {pos : Pos} (hN : X.N[i]? = some x := by rfl) (hv : Vis X.env.scope x := by first | exact Or.inl rfl | exact Or.inr (Or.inl rfl) | exact Or.inr (Or.inr rfl)) (hd : (x == ("__debug__" : Str)) = false := by decide)
    (hcd : (x == ("__classdict__" : Str)) = false := by decide) : CE X W (.Name x pos) (tVar i) (cVar i) := ⟨pe_var hN hv hd hcd, se_var i⟩
def cC (d : D) : DS → Res D := fun _ => .ok d
theorem se_c (v : V) : SE K W (tC v) (cC (.v v)) := fun B0 H0 δ σ B H Q r h => h v B H (Grow.refl r.g.i) (.v v)
theorem ce_int {i : Int} {j pos} : CE X W (.Constant (.int i) j pos) (tC (.int i)) (cC (.int i)) := ⟨pe_int, se_c _⟩
theorem ce_bl {b : Bool} {j pos} : CE X W (.Constant (.bool b) j pos) (tC (.bl b)) (cC (.bl b)) := ⟨pe_bl, se_c _⟩
theorem ce_non {j pos} : CE X W (.Constant .none j pos) (tC .non) (cC .non) := ⟨pe_non, se_c _⟩
theorem ce_str {x : Str} {j pos} : CE X W (.Constant (.str x) j pos) (tC (.str x)) (cC (.str x)) := ⟨pe_str, se_c _⟩
/-- a module's constant; hk: what it is, whatever the heap -/
theorem ce_glob {x : Str} {v : V} {u : Value} {d : D} {pos : Pos} (hg : Gl X x) (hm : X.mg x = some u) (r : RelV v u) (hk : ∀ B, Rp X.K B v d) (hd : (x == ("__debug__" : Str)) = false := by decide) : CE X W (.Name x pos) (tC v) (cC d) :=
  ⟨pe_glob hg hm r hd, fun B0 H0 δ σ B H Q r h => h v B H (Grow.refl r.g.i) (hk B)⟩
theorem ce_bltn {x : Str} {v : V} {u : Value} {pos : Pos} (hg : Gl X x) (hm : X.mg x = none) (hv : bootBuiltins x = some u) (r : RelV v u) (hn : x ≠ "__name__" := by decide) (hd : (x == ("__debug__" : Str)) = false := by decide) : CE X W (.Name x pos) (tC v) (cC (.v v)) :=
  ⟨pe_bltn hg hm hv r hn hd, se_c _⟩

/-! ### two operands -/
def PostV (K : PySem.W.Frag) (B H : Hp) (Q : VK) : Res D → Prop
  | .ok d => ∀ v B' H', Grow B H B' H' → Rp K B' v d → Q v H'
  | _ => False
/-- an operator by values is the function g -/
def RO (K : PySem.W.Frag) (r : R2) (g : D → D → Res D) : Prop := ∀ x y d e B H Q, Same B H → Rp K B x d → Rp K B y e → PostV K B H Q (g d e) → r x y H Q
def RU (K : PySem.W.Frag) (r : V → Hp → VK → Prop) (g : D → Res D) : Prop := ∀ x d B H Q, Same B H → Rp K B x d → PostV K B H Q (g d) → r x H Q
def cBin (g : D → D → Res D) (fa fb : DS → Res D) : DS → Res D := fun δ => (fa δ).bind fun x => (fb δ).bind fun y => g x y
def cUn (g : D → Res D) (fa : DS → Res D) : DS → Res D := fun δ => (fa δ).bind g
/-- an operator never raises -/
def Calm2 (g : D → D → Res D) : Prop := ∀ d e x, g d e ≠ .er x
theorem postV_of {r : Res D} (h : PostE K B H σ W Q r) (hc : ∀ x, r ≠ .er x) : PostV K B H Q r := by
  cases r with
  | ok d => exact h
  | er x => exact absurd rfl (hc x)
  | no => exact h
theorem se_op {ta tb : TE} {fa fb : DS → Res D} {r : R2} {g : D → D → Res D} (ho : RO K r g) (hc : Calm2 g) (ha : SE K W ta fa) (hb : SE K W tb fb) : SE K W (tOp r ta tb) (cBin g fa fb) := fun B0 H0 δ σ B H Q rel h => by
  unfold cBin at h
  refine ha B0 H0 δ σ B H _ rel ?_
  cases e : fa δ with
  | no => rw [e] at h; exact h
  | er x => rw [e] at h; exact h
  | ok d =>
    rw [e, Res.bind_ok] at h
    intro v B1 H1 g1 r1
    refine hb B0 H0 δ σ B1 H1 _ (rel.mono g1) ?_
    cases e2 : fb δ with
    | no => rw [e2] at h; exact h
    | er x => rw [e2] at h; exact fun c dx B' H' g' rp => h c dx B' H' (g1.trans g') rp
    | ok d2 =>
      rw [e2, Res.bind_ok] at h
      intro u B2 H2 g2 r2
      exact ho v u d d2 B2 H2 Q g2.i (Rp.mono g2.b r1) r2 (postV_of (postE_mono (g1.trans g2) h) (hc d d2))
theorem ce_op {a b : Expr} {op : Operator} {pos : Pos} {ta tb : TE} {fa fb : DS → Res D} {r : R2} {g : D → D → Res D} (ho : OpR X (binaryOp op) r) (hr : RO X.K r g) (hc : Calm2 g) (ha : CE X W a ta fa) (hb : CE X W b tb fb) : CE X W (.BinOp a op b pos) (tOp r ta tb) (cBin g fa fb) :=
  ⟨pe_op ho ha.pe hb.pe, se_op hr hc ha.se hb.se⟩
theorem ce_cmp {a b : Expr} {op : CmpOp} {pos : Pos} {ta tb : TE} {fa fb : DS → Res D} {r : R2} {g : D → D → Res D} (ho : OpR X (compareOp op) r) (hr : RO X.K r g) (hc : Calm2 g) (ha : CE X W a ta fa) (hb : CE X W b tb fb) (hm : behindInMarks op b = false) : CE X W (.Compare a [op] [b] pos) (tOp r ta tb) (cBin g fa fb) :=
  ⟨pe_cmpR ho ha.pe hb.pe hm, se_op hr hc ha.se hb.se⟩
theorem se_un {ta : TE} {fa : DS → Res D} {r : V → Hp → VK → Prop} {g : D → Res D} (ho : RU K r g) (hc : ∀ d x, g d ≠ .er x) (ha : SE K W ta fa) : SE K W (tUn r ta) (cUn g fa) := fun B0 H0 δ σ B H Q rel h => by
  unfold cUn at h
  refine ha B0 H0 δ σ B H _ rel ?_
  cases e : fa δ with
  | no => rw [e] at h; exact h
  | er x => rw [e] at h; exact h
  | ok d =>
    rw [e, Res.bind_ok] at h
    intro v B1 H1 g1 r1
    exact ho v d B1 H1 Q g1.i r1 (postV_of (postE_mono g1 h) (hc d))
theorem ce_un {a : Expr} {op : UnaryOp} {pos : Pos} {ta : TE} {fa : DS → Res D} {r : V → Hp → VK → Prop} {g : D → Res D} (ho : UnR X (unaryOp op) r) (hr : RU X.K r g) (hc : ∀ d x, g d ≠ .er x) (ha : CE X W a ta fa) : CE X W (.UnaryOp op a pos) (tUn r ta) (cUn g fa) :=
  ⟨pe_un ho ha.pe, se_un hr hc ha.se⟩
end

/-! ### the operators -/
section
variable {X : Cx} {W : WX} {K : PySem.W.Frag}
theorem ro_I {C : Int → Int → Prop} {gv : Int → Int → V} {g : D → D → Res D} (hg : ∀ d e z, g d e = .ok z → ∃ i j, d = .int i ∧ e = .int j ∧ C i j ∧ z = .v (gv i j)) : RO K (rI C gv) g := fun x y d e B H Q i rx ry h => by
  cases q : g d e with
  | ok z =>
    rw [q] at h
    obtain ⟨i', j, rfl, rfl, hc, rfl⟩ := hg d e z q
    cases rx
    cases ry
    exact ⟨i', j, rfl, rfl, hc, h _ B H (Grow.refl i) (.v _)⟩
  | er x => rw [q] at h; exact h.elim
  | no => rw [q] at h; exact h.elim
theorem ro_I0 {gv : Int → Int → V} {g : D → D → Res D} (hg : ∀ d e z, g d e = .ok z → ∃ i j, d = .int i ∧ e = .int j ∧ z = .v (gv i j)) : RO K (rI0 gv) g := fun x y d e B H Q i rx ry h => by
  cases q : g d e with
  | ok z =>
    rw [q] at h
    obtain ⟨i', j, rfl, rfl, rfl⟩ := hg d e z q
    cases rx
    cases ry
    exact ⟨i', j, rfl, rfl, h _ B H (Grow.refl i) (.v _)⟩
  | er x => rw [q] at h; exact h.elim
  | no => rw [q] at h; exact h.elim
theorem ro_or {r r' : R2} {g g' : D → D → Res D} (h : RO K r g) (h' : RO K r' g') : RO K (fun x y H Q => r x y H Q ∨ r' x y H Q) (fun d e => match g d e with | .no => g' d e | z => z) := fun x y d e B H Q i rx ry hp => by
  dsimp only at hp
  cases q : g d e with
  | ok z => rw [q] at hp; exact .inl (h x y d e B H Q i rx ry (by rw [q]; exact hp))
  | er z => rw [q] at hp; exact hp.elim
  | no => rw [q] at hp; exact .inr (h' x y d e B H Q i rx ry hp)

def oSub : D → D → Res D
  | .v (.int i), .v (.int j) => .ok (.int (i - j))
  | _, _ => .no
def oMod : D → D → Res D
  | .v (.int i), .v (.int j) => if j ≠ 0 then .ok (.int (i.fmod j)) else .no
  | _, _ => .no
def oFdiv : D → D → Res D
  | .v (.int i), .v (.int j) => if j ≠ 0 ∧ j.natAbs.log2 < 9000 then .ok (.int (i.fdiv j)) else .no
  | _, _ => .no
def oPow : D → D → Res D
  | .v (.int i), .v (.int j) => if 0 ≤ j ∧ j.natAbs ≤ 1000000 ∧ i.natAbs < 18446744073709551616 then .ok (.int (i ^ j.toNat)) else .no
  | _, _ => .no
/-- + -/
def oAdd : D → D → Res D
  | .v (.int i), .v (.int j) => .ok (.int (i + j))
  | .v (.str i), .v (.str j) => if i.length + j.length ≤ sizeLine then .ok (.str (i ++ j)) else .no
  | .lst a, .lst b => if a.length + b.length ≤ sizeLine then .ok (.lst (a ++ b)) else .no
  | .tup a, .tup b => if a.length + b.length ≤ sizeLine then .ok (.tup (a ++ b)) else .no
  | _, _ => .no
/-- * -/
def oMul : D → D → Res D
  | .v (.int i), .v (.int j) => if i.natAbs.log2 + j.natAbs.log2 < 1000000 then .ok (.int (i * j)) else .no
  | .lst a, .v (.int k) => if -(2 ^ 63) ≤ k ∧ k < 2 ^ 63 ∧ a.length * k.toNat ≤ sizeLine then .ok (.lst (List.replicate k.toNat a).flatten) else .no
  | .tup a, .v (.int k) => if a ≠ [] ∧ 2 ≤ k ∧ k ≤ 1000 ∧ a.length ≤ 1000 then .ok (.tup (List.replicate k.toNat a).flatten) else .no
  | _, _ => .no

theorem op_catL : OpR X (binaryOp .Add) (fun x y H Q => ∃ l b xs zs, x = .ref l ∧ y = .ref b ∧ SqL X.K H l xs ∧ SqL X.K H b zs ∧ xs.length + zs.length ≤ sizeLine ∧ ∀ p, H p = none → Q (.ref p) (upd H p (.lst (xs ++ zs)))) := by
  intro pins s σ H x y v u Q I rx ry h
  obtain ⟨l, b, xs, zs, rfl, rfl, hH, hB, hz, q⟩ := h
  cases rx
  cases ry
  obtain ⟨its, r, ⟨⟨cls, dd, data, sl⟩, n, ho, hc, hdd, hd⟩, z1⟩ := I.list hH
  obtain ⟨its2, r2, ⟨⟨cls2, dd2, data2, sl2⟩, n2, ho2, hc2, hdd2, hd2⟩, z2⟩ := I.list hB
  simp only at hc hd hc2 hd2
  subst hc hd hc2 hd2
  have hlen := r.length
  have hlen2 := r2.length
  have e : its.toArray ++ its2.toArray = (its ++ its2).toArray := by simp
  refine PySem.concat_meets ⟨_, ho, rfl⟩ ⟨_, ho2, rfl⟩ PySem.noFill_list_add PySem.seq_list_add PySem.F.slot_list_add PySem.F.entry_list_add (PySem.F.args_list_add_2 _ _) (PyProof.Rows.list_addW l b its.toArray its2.toArray n n2 dd dd2 sl sl2 (by simpa [← hlen, ← hlen2] using hz)) ⟨ho, ho2, ?_⟩
  rw [e]
  exact ⟨.ref _, _, I.lnew (t' := s.toks) (r.append r2) (by rw [List.length_append]; omega), rfl, q _ I.fresh⟩

/-- the reading of + -/
def rAdd (K : PySem.W.Frag) : R2 := fun x y H Q =>
  (∃ i j, x = V.int i ∧ y = V.int j ∧ Q (.int (i + j)) H) ∨
  (∃ i j, x = V.str i ∧ y = V.str j ∧ i.length + j.length ≤ sizeLine ∧ Q (.str (i ++ j)) H) ∨
  (∃ l b xs zs, x = .ref l ∧ y = .ref b ∧ SqL K H l xs ∧ SqL K H b zs ∧ xs.length + zs.length ≤ sizeLine ∧ ∀ p, H p = none → Q (.ref p) (upd H p (.lst (xs ++ zs)))) ∨ rCatA K x y H Q
theorem op_addA : OpR X (binaryOp .Add) (rAdd X.K) := OpR.or op_add (OpR.or op_add_str (OpR.or op_catL op_catA))
theorem ro_add : RO K (rAdd K) oAdd := fun x y d e B H Q i rx ry h => by
  unfold oAdd at h
  split at h
  · cases rx; cases ry
    exact .inl ⟨_, _, rfl, rfl, h _ B H (Grow.refl i) (.v _)⟩
  · split at h
    · rename_i hz
      cases rx; cases ry
      exact .inr (.inl ⟨_, _, rfl, rfl, hz, h _ B H (Grow.refl i) (.v _)⟩)
    · exact h.elim
  · split at h
    · rename_i hz
      cases rx with
      | lst h1 q1 =>
        cases ry with
        | lst h2 q2 =>
          have l1 := q1.length
          have l2 := q2.length
          refine .inr (.inr (.inl ⟨_, _, _, _, rfl, rfl, i.seq h1, i.seq h2, by omega, fun p hp => ?_⟩))
          exact h _ _ _ (Grow.new i hp) (.lst (SqL.of upd_same) ((q1.append q2).mono (Grow.new i hp).b))
    · exact h.elim
  · split at h
    · rename_i hz
      cases rx with
      | tup h1 q1 =>
        cases ry with
        | tup h2 q2 =>
          have l1 := q1.length
          have l2 := q2.length
          refine .inr (.inr (.inr ⟨_, _, _, _, rfl, rfl, sqT_mono i h1, sqT_mono i h2, by omega, fun e0 => ?_, fun _ e0 => ?_, fun _ _ p hp => ?_⟩))
          · subst e0
            cases q1
            exact h _ B H (Grow.refl i) (.tup h2 q2)
          · subst e0
            cases q2
            rw [List.append_nil] at h
            exact h _ B H (Grow.refl i) (.tup h1 q1)
          · exact h _ _ _ (Grow.new i hp) (.tup (SqT.of upd_same) ((q1.append q2).mono (Grow.new i hp).b))
    · exact h.elim
  · exact h.elim
theorem cm_add : Calm2 oAdd := fun d e x => by unfold oAdd; split <;> (try split) <;> simp
theorem ce_add {a b : Expr} {pos : Pos} {ta tb : TE} {fa fb : DS → Res D} (ha : CE X W a ta fa) (hb : CE X W b tb fb) : CE X W (.BinOp a .Add b pos) (tOp (rAdd X.K) ta tb) (cBin oAdd fa fb) := ce_op op_addA ro_add cm_add ha hb

theorem ro_sub : RO K (rI0 fun i j => .int (i - j)) oSub := ro_I0 fun d e z h => by
  unfold oSub at h
  split at h
  · cases h; exact ⟨_, _, rfl, rfl, rfl⟩
  · cases h
theorem cm_sub : Calm2 oSub := fun d e x => by unfold oSub; split <;> simp
theorem ce_sub {a b : Expr} {pos : Pos} {ta tb : TE} {fa fb : DS → Res D} (ha : CE X W a ta fa) (hb : CE X W b tb fb) : CE X W (.BinOp a .Sub b pos) (tOp (rI0 fun i j => .int (i - j)) ta tb) (cBin oSub fa fb) := ce_op op_sub ro_sub cm_sub ha hb

theorem ro_mod : RO K (rI (fun _ j => j ≠ 0) fun i j => .int (i.fmod j)) oMod := ro_I fun d e z h => by
  unfold oMod at h
  split at h
  · split at h
    · rename_i hj
      cases h; exact ⟨_, _, rfl, rfl, hj, rfl⟩
    · cases h
  · cases h
theorem cm_mod : Calm2 oMod := fun d e x => by unfold oMod; split <;> (try split) <;> simp
theorem ce_mod {a b : Expr} {pos : Pos} {ta tb : TE} {fa fb : DS → Res D} (ha : CE X W a ta fa) (hb : CE X W b tb fb) : CE X W (.BinOp a .Mod b pos) (tOp (rI (fun _ j => j ≠ 0) fun i j => .int (i.fmod j)) ta tb) (cBin oMod fa fb) := ce_op op_modN ro_mod cm_mod ha hb

def CFd (_ j : Int) : Prop := j ≠ 0 ∧ j.natAbs.log2 < 9000
theorem op_fdA : OpR X (binaryOp .FloorDiv) (rI CFd fun i j => .int (i.fdiv j)) := opI fun i j _ _ _ _ _ hc q => PyProof.Rows.floordiv_int hc.1 q (.inl (PyProof.noPylong_of_log2 hc.2))
theorem ro_fdiv : RO K (rI CFd fun i j => .int (i.fdiv j)) oFdiv := ro_I fun d e z h => by
  unfold oFdiv at h
  split at h
  · split at h
    · rename_i hj
      cases h; exact ⟨_, _, rfl, rfl, hj, rfl⟩
    · cases h
  · cases h
theorem cm_fdiv : Calm2 oFdiv := fun d e x => by unfold oFdiv; split <;> (try split) <;> simp
theorem ce_fdiv {a b : Expr} {pos : Pos} {ta tb : TE} {fa fb : DS → Res D} (ha : CE X W a ta fa) (hb : CE X W b tb fb) : CE X W (.BinOp a .FloorDiv b pos) (tOp (rI CFd fun i j => .int (i.fdiv j)) ta tb) (cBin oFdiv fa fb) := ce_op op_fdA ro_fdiv cm_fdiv ha hb

theorem ro_pow : RO K (rI CPow fun i j => .int (i ^ j.toNat)) oPow := ro_I fun d e z h => by
  unfold oPow at h
  split at h
  · split at h
    · rename_i hj
      cases h; exact ⟨_, _, rfl, rfl, ⟨hj.1, by omega, by omega⟩, rfl⟩
    · cases h
  · cases h
theorem cm_pow : Calm2 oPow := fun d e x => by unfold oPow; split <;> (try split) <;> simp
theorem ce_pow {a b : Expr} {pos : Pos} {ta tb : TE} {fa fb : DS → Res D} (ha : CE X W a ta fa) (hb : CE X W b tb fb) : CE X W (.BinOp a .Pow b pos) (tOp (rI CPow fun i j => .int (i ^ j.toNat)) ta tb) (cBin oPow fa fb) := ce_op op_pow ro_pow cm_pow ha hb

/-- *: ints; a tuple by an int -/
def oMul2 : D → D → Res D
  | .v (.int i), .v (.int j) => if i.natAbs.log2 + j.natAbs.log2 < 1000000 then .ok (.int (i * j)) else .no
  | .tup a, .v (.int k) => if a.length ≠ 0 ∧ 2 ≤ k ∧ k ≤ 1000 ∧ a.length ≤ 1000 then .ok (.tup (List.replicate k.toNat a).flatten) else .no
  | _, _ => .no
def rMulA (K : PySem.W.Frag) : R2 := fun x y H Q => rI CMulW (fun i j => .int (i * j)) x y H Q ∨ rRepT K x y H Q
theorem op_mulA : OpR X (binaryOp .Mult) (rMulA X.K) := OpR.or op_mulW op_repT
theorem RpA.flat {B : Hp} {vs : List V} {ds : List D} (r : RpA K B vs ds) : ∀ n : Nat, RpA K B (List.replicate n vs).flatten (List.replicate n ds).flatten
  | 0 => .nil
  | n + 1 => by
    rw [List.replicate_succ, List.replicate_succ, List.flatten_cons, List.flatten_cons]
    exact r.append (RpA.flat r n)
theorem ro_mul : RO K (rMulA K) oMul2 := fun x y d e B H Q i rx ry h => by
  unfold oMul2 at h
  split at h
  · split at h
    · rename_i hz
      cases rx; cases ry
      exact .inl ⟨_, _, rfl, rfl, hz, h _ B H (Grow.refl i) (.v _)⟩
    · exact h.elim
  · split at h
    · rename_i hz
      cases ry
      cases rx with
      | tup h1 q1 =>
        have l1 := q1.length
        refine .inr ⟨_, _, _, rfl, rfl, sqT_mono i h1, ?_, hz.2.1, hz.2.2.1, by omega, fun p hp => ?_⟩
        · intro z
          rw [z] at l1
          exact hz.1 (by rw [← l1]; rfl)
        · exact h _ _ _ (Grow.new i hp) (.tup (SqT.of upd_same) ((q1.flat _).mono (Grow.new i hp).b))
    · exact h.elim
  · exact h.elim
theorem cm_mul : Calm2 oMul2 := fun d e x => by unfold oMul2; split <;> (try split) <;> simp
theorem ce_mul {a b : Expr} {pos : Pos} {ta tb : TE} {fa fb : DS → Res D} (ha : CE X W a ta fa) (hb : CE X W b tb fb) : CE X W (.BinOp a .Mult b pos) (tOp (rMulA X.K) ta tb) (cBin oMul2 fa fb) := ce_op op_mulA ro_mul cm_mul ha hb

def oNeg : D → Res D
  | .v (.int i) => .ok (.int (-i))
  | _ => .no
theorem ru_neg : RU K (rU fun i => .int (-i)) oNeg := fun x d B H Q i rx h => by
  unfold oNeg at h
  split at h
  · cases rx
    exact ⟨_, rfl, h _ B H (Grow.refl i) (.v _)⟩
  · exact h.elim
theorem ce_neg {a : Expr} {pos : Pos} {ta : TE} {fa : DS → Res D} (ha : CE X W a ta fa) : CE X W (.UnaryOp .USub a pos) (tUn (rU fun i => .int (-i)) ta) (cUn oNeg fa) := ce_un un_neg ru_neg (fun d x => by unfold oNeg; split <;> simp) ha

/-! ### comparisons -/
def oI (p : Int → Int → Bool) : D → D → Res D
  | .v (.int i), .v (.int j) => .ok (.bl (p i j))
  | _, _ => .no
theorem ro_cI {p : Int → Int → Bool} : RO K (rI0 fun i j => .bl (p i j)) (oI p) := ro_I0 fun d e z h => by
  unfold oI at h
  split at h
  · cases h; exact ⟨_, _, rfl, rfl, rfl⟩
  · cases h
theorem cm_cI {p : Int → Int → Bool} : Calm2 (oI p) := fun d e x => by unfold oI; split <;> simp
abbrev oLt := oI fun i j => decide (i < j)
abbrev oLe := oI fun i j => decide (i ≤ j)
abbrev oGt := oI fun i j => decide (j < i)
abbrev oGe := oI fun i j => decide (j ≤ i)
section
variable {a b : Expr} {pos : Pos} {ta tb : TE} {fa fb : DS → Res D}
theorem ce_lt (ha : CE X W a ta fa) (hb : CE X W b tb fb) : CE X W (.Compare a [.Lt] [b] pos) (tOp (rI0 fun i j => .bl (decide (i < j))) ta tb) (cBin oLt fa fb) := ce_cmp op_lt ro_cI cm_cI ha hb (nomark _)
theorem ce_le (ha : CE X W a ta fa) (hb : CE X W b tb fb) : CE X W (.Compare a [.LtE] [b] pos) (tOp (rI0 fun i j => .bl (decide (i ≤ j))) ta tb) (cBin oLe fa fb) := ce_cmp op_le ro_cI cm_cI ha hb (nomark _)
theorem ce_gt (ha : CE X W a ta fa) (hb : CE X W b tb fb) : CE X W (.Compare a [.Gt] [b] pos) (tOp (rI0 fun i j => .bl (decide (j < i))) ta tb) (cBin oGt fa fb) := ce_cmp op_gt ro_cI cm_cI ha hb (nomark _)
theorem ce_ge (ha : CE X W a ta fa) (hb : CE X W b tb fb) : CE X W (.Compare a [.GtE] [b] pos) (tOp (rI0 fun i j => .bl (decide (j ≤ i))) ta tb) (cBin oGe fa fb) := ce_cmp op_ge ro_cI cm_cI ha hb (nomark _)
end
/-- a < b < c -/
def cChain (g g' : D → D → Res D) (fa fb fc : DS → Res D) : DS → Res D := fun δ => (fa δ).bind fun x => (fb δ).bind fun y => (g x y).bind fun k => match k with
  | .v (.bl true) => (fc δ).bind fun z => g' y z
  | .v (.bl false) => .ok (.bl false)
  | _ => .no
theorem se_chain {ta tb tc : TE} {fa fb fc : DS → Res D} {r r' : R2} {g g' : D → D → Res D} (ho : RO K r g) (hc : Calm2 g) (ho' : RO K r' g') (hc' : Calm2 g') (ha : SE K W ta fa) (hb : SE K W tb fb) (hcc : SE K W tc fc) : SE K W (tChain r r' ta tb tc) (cChain g g' fa fb fc) := fun B0 H0 δ σ B H Q rel h => by
  unfold cChain at h
  refine ha B0 H0 δ σ B H _ rel ?_
  cases e : fa δ with
  | no => rw [e] at h; exact h
  | er x => rw [e] at h; exact h
  | ok d =>
    rw [e, Res.bind_ok] at h
    intro v B1 H1 g1 r1
    refine hb B0 H0 δ σ B1 H1 _ (rel.mono g1) ?_
    cases e2 : fb δ with
    | no => rw [e2] at h; exact h
    | er x => rw [e2] at h; exact fun c dx B' H' g' rp => h c dx B' H' (g1.trans g') rp
    | ok d2 =>
      rw [e2, Res.bind_ok] at h
      intro u B2 H2 g2 r2
      refine ho v u d d2 B2 H2 _ g2.i (Rp.mono g2.b r1) r2 ?_
      cases e3 : g d d2 with
      | no => rw [e3] at h; exact h
      | er x => exact absurd e3 (hc d d2 x)
      | ok k =>
        rw [e3, Res.bind_ok] at h
        intro kv B3 H3 g3 r3
        split at h
        · cases r3
          refine ⟨true, rfl, ?_⟩
          rw [if_pos rfl]
          refine hcc B0 H0 δ σ B3 H3 _ (((rel.mono g1).mono g2).mono g3) ?_
          cases e4 : fc δ with
          | no => rw [e4] at h; exact h
          | er x => rw [e4] at h; exact fun c dx B' H' g' rp => h c dx B' H' (((g1.trans g2).trans g3).trans g') rp
          | ok d4 =>
            rw [e4, Res.bind_ok] at h
            intro z B4 H4 g4 r4
            exact ho' u z d2 d4 B4 H4 Q g4.i (Rp.mono (g3.b.trans g4.b) r2) r4 (postV_of (postE_mono (((g1.trans g2).trans g3).trans g4) h) (hc' d2 d4))
        · cases r3
          refine ⟨false, rfl, ?_⟩
          rw [if_neg Bool.false_ne_true]
          exact h _ _ _ ((g1.trans g2).trans g3) (.v _)
        · exact h.elim
theorem ce_chain {a b c : Expr} {op op' : CmpOp} {pos : Pos} {ta tb tc : TE} {fa fb fc : DS → Res D} {r r' : R2} {g g' : D → D → Res D} (ho : OpR X (compareOp op) r) (hr : RO X.K r g) (hc : Calm2 g) (ho' : OpR X (compareOp op') r') (hr' : RO X.K r' g') (hc' : Calm2 g')
    (ha : CE X W a ta fa) (hb : CE X W b tb fb) (hcc : CE X W c tc fc) (hm : lastMarks [op, op'] [b, c] = false := by with_unfolding_all rfl) : CE X W (.Compare a [op, op'] [b, c] pos) (tChain r r' ta tb tc) (cChain g g' fa fb fc) := ⟨pe_chain ho ho' ha.pe hb.pe hcc.pe hm, se_chain hr hc hr' hc' ha.se hb.se hcc.se⟩

/-! ### ==, != -/
def pyV : V → Option PyData
  | .non => some .none
  | .bl b => some (.bool b)
  | .int i => some (.int i)
  | .str s => some (.str s)
  | _ => none
mutual
def D.py : D → Option PyData
  | .v x => pyV x
  | .lst xs => (D.pyA xs).map .list
  | .tup xs => (D.pyA xs).map .tuple
  | .dct _ _ => none
  | .dlk _ _ => none
  | .ins _ _ _ => none
  | .dtt _ _ => none
  | .dtl _ _ => none
def D.pyA : List D → Option (List PyData)
  | [] => some []
  | x :: xs => match x.py, D.pyA xs with
    | some a, some as => some (a :: as)
    | _, _ => none
end
mutual
theorem dp_of {B : Hp} : ∀ {v : V} {d : D} {p : PyData}, Rp K B v d → d.py = some p → Dp K B v p
  | _, _, _, .v x, e => by
    unfold D.py at e
    cases x <;> first | (cases e; constructor) | cases e
  | _, _, _, .lst (ds := ds) h r, e => by
    unfold D.py at e
    cases q : D.pyA ds with
    | none => rw [q] at e; cases e
    | some ps => rw [q] at e; cases e; exact .lst h (dpA_of r q)
  | _, _, _, .tup (ds := ds) h r, e => by
    unfold D.py at e
    cases q : D.pyA ds with
    | none => rw [q] at e; cases e
    | some ps => rw [q] at e; cases e; exact .tup h (dpA_of r q)
  | _, _, _, .dct h r, e => by
    unfold D.py at e
    cases e
  | _, _, _, .dlk h r, e => by
    unfold D.py at e
    cases e
  | _, _, _, .dcT h r, e => by
    unfold D.py at e
    cases e
  | _, _, _, .dlT h r, e => by
    unfold D.py at e
    cases e
  | _, _, _, .ins _ _ _ r, e => by
    unfold D.py at e
    cases e
theorem dpA_of {B : Hp} : ∀ {vs : List V} {ds : List D} {ps : List PyData}, RpA K B vs ds → D.pyA ds = some ps → DpAll K B vs ps
  | _, _, _, .nil, e => by
    unfold D.pyA at e
    cases e
    exact .nil
  | _, _, _, .cons (d := d) (ds := ds) h r, e => by
    unfold D.pyA at e
    cases q1 : d.py with
    | none => rw [q1] at e; cases e
    | some a =>
      cases q2 : D.pyA ds with
      | none => rw [q1, q2] at e; cases e
      | some as =>
        rw [q1, q2] at e
        cases e
        exact .cons (dp_of h q1) (dpA_of r q2)
end
def oEqB (neg : Bool) (d e : D) : Res D := match d.py, e.py with
  | some a, some b => if SeqAt.shaped a = true ∧ SeqAt.shaped b = true then .ok (.bl (if neg then !PyData.eqv a b else PyData.eqv a b)) else .no
  | _, _ => .no
abbrev oEq := oEqB false
abbrev oNe := oEqB true
mutual
theorem dp_mono {B B' : Hp} (e : Same B B') : ∀ {v : V} {p : PyData}, Dp K B v p → Dp K B' v p
  | _, _, .non => .non
  | _, _, .bl b => .bl b
  | _, _, .int i => .int i
  | _, _, .str x => .str x
  | _, _, .lst h r => .lst (e.seq h) (dpA_mono e r)
  | _, _, .tup h r => .tup (sqT_mono e h) (dpA_mono e r)
theorem dpA_mono {B B' : Hp} (e : Same B B') : ∀ {vs : List V} {ps : List PyData}, DpAll K B vs ps → DpAll K B' vs ps
  | _, _, .nil => .nil
  | _, _, .cons h r => .cons (dp_mono e h) (dpA_mono e r)
end
theorem ro_eq : RO K (rEqD K) oEq := fun x y d e B H Q i rx ry h => by
  unfold oEq oEqB at h
  split at h
  · rename_i a b e1 e2
    split at h
    · rename_i hs
      exact ⟨a, b, dp_mono i (dp_of rx e1), dp_mono i (dp_of ry e2), hs.1, hs.2, h _ B H (Grow.refl i) (.v _)⟩
    · exact h.elim
  · exact h.elim
theorem ro_ne : RO K (rNeD K) oNe := fun x y d e B H Q i rx ry h => by
  unfold oNe oEqB at h
  split at h
  · rename_i a b e1 e2
    split at h
    · rename_i hs
      exact ⟨a, b, dp_mono i (dp_of rx e1), dp_mono i (dp_of ry e2), hs.1, hs.2, h _ B H (Grow.refl i) (.v _)⟩
    · exact h.elim
  · exact h.elim
theorem cm_eq {n : Bool} : Calm2 (oEqB n) := fun d e x => by unfold oEqB; split <;> (try split) <;> simp
section
variable {a b : Expr} {pos : Pos} {ta tb : TE} {fa fb : DS → Res D}
theorem ce_eq (hu : X.A.units + 64 < cLine) (ha : CE X W a ta fa) (hb : CE X W b tb fb) : CE X W (.Compare a [.Eq] [b] pos) (tOp (rEqD X.K) ta tb) (cBin oEq fa fb) := ce_cmp (op_eqD hu) ro_eq cm_eq ha hb (nomark _)
theorem ce_ne (hu : X.A.units + 64 < cLine) (ha : CE X W a ta fa) (hb : CE X W b tb fb) : CE X W (.Compare a [.NotEq] [b] pos) (tOp (rNeD X.K) ta tb) (cBin oNe fa fb) := ce_cmp (op_neD hu) ro_ne cm_eq ha hb (nomark _)
end
/-- is None, is not None -/
def isNon : D → Bool
  | .v .non => true
  | _ => false
def oIsN (neg : Bool) : D → D → Res D
  | d, .v .non => .ok (.bl (if neg then !isNon d else isNon d))
  | _, _ => .no
theorem non_dec {B : Hp} {x : V} {d : D} (r : Rp K B x d) : decide (x = .non) = isNon d := by
  cases r with
  | v x => cases x <;> simp [isNon]
  | lst _ _ => simp [isNon]
  | tup _ _ => simp [isNon]
  | dct _ _ => simp [isNon]
  | dlk _ _ => simp [isNon]
  | dcT _ _ => simp [isNon]
  | dlT _ _ => simp [isNon]
  | ins _ _ _ _ => simp [isNon]
theorem ro_isN : RO K (fun x y H Q => y = .non ∧ Q (.bl (decide (x = .non))) H) (oIsN false) := fun x y d e B H Q i rx ry h => by
  unfold oIsN at h
  split at h
  · cases ry
    rw [non_dec rx]
    exact ⟨rfl, h _ B H (Grow.refl i) (.v _)⟩
  · exact h.elim
theorem ro_notN : RO K (fun x y H Q => y = .non ∧ Q (.bl (!decide (x = .non))) H) (oIsN true) := fun x y d e B H Q i rx ry h => by
  unfold oIsN at h
  split at h
  · cases ry
    rw [non_dec rx]
    exact ⟨rfl, h _ B H (Grow.refl i) (.v _)⟩
  · exact h.elim
theorem cm_isN {n : Bool} : Calm2 (oIsN n) := fun d e x => by unfold oIsN; split <;> simp
section
variable {a b : Expr} {pos : Pos} {ta tb : TE} {fa fb : DS → Res D}
theorem ce_isN (ha : CE X W a ta fa) (hb : CE X W b tb fb) : CE X W (.Compare a [.Is] [b] pos) (tOp (fun x y H Q => y = .non ∧ Q (.bl (decide (x = .non))) H) ta tb) (cBin (oIsN false) fa fb) := ce_cmp op_isN ro_isN cm_isN ha hb (nomark _)
theorem ce_notN (ha : CE X W a ta fa) (hb : CE X W b tb fb) : CE X W (.Compare a [.IsNot] [b] pos) (tOp (fun x y H Q => y = .non ∧ Q (.bl (!decide (x = .non))) H) ta tb) (cBin (oIsN true) fa fb) := ce_cmp op_notN ro_notN cm_isN ha hb (nomark _)
end

/-! ### in, not in: flat things in a list or tuple of flat things -/
def flatD : D → Option V
  | .v x => if flatV x then some x else none
  | _ => none
def flatsD : List D → Option (List V)
  | [] => some []
  | d :: ds => match flatD d, flatsD ds with
    | some x, some xs => some (x :: xs)
    | _, _ => none
theorem flatD_of {B : Hp} {x y : V} {d : D} (r : Rp K B x d) (e : flatD d = some y) : x = y ∧ flatV y = true := by
  cases r with
  | v x =>
    simp only [flatD] at e
    split at e
    · rename_i h; cases e; exact ⟨rfl, h⟩
    · cases e
  | lst _ _ => cases e
  | tup _ _ => cases e
  | dct _ _ => cases e
  | dlk _ _ => cases e
  | dcT _ _ => cases e
  | dlT _ _ => cases e
  | ins _ _ _ _ => cases e
theorem flatsD_of {B : Hp} : ∀ {xs ys : List V} {ds : List D}, RpA K B xs ds → flatsD ds = some ys → xs = ys ∧ ys.all flatV = true
  | _, _, _, .nil, e => by cases e; exact ⟨rfl, rfl⟩
  | _, _, _, .cons (d := d) (ds := ds) h r, e => by
    unfold flatsD at e
    cases q1 : flatD d with
    | none => rw [q1] at e; cases e
    | some a =>
      cases q2 : flatsD ds with
      | none => rw [q1, q2] at e; cases e
      | some as =>
        rw [q1, q2] at e
        cases e
        obtain ⟨e1, h1⟩ := flatD_of h q1
        obtain ⟨e2, h2⟩ := flatsD_of r q2
        subst e1 e2
        exact ⟨rfl, by simp [h1]; simpa using h2⟩
def D.items : D → Option (List D)
  | .lst xs => some xs
  | .tup xs => some xs
  | _ => none
def oIn (neg : Bool) (d e : D) : Res D := match flatD d, e.items with
  | some x, some es => match flatsD es with
    | some xs => .ok (.bl (if neg then !inV x xs else inV x xs))
    | none => .no
  | _, _ => .no
theorem items_of {B : Hp} {y : V} {e : D} {es : List D} (r : Rp K B y e) (h : e.items = some es) : ∃ p xs, y = .ref p ∧ (SqL K B p xs ∨ SqT K B p xs) ∧ RpA K B xs es := by
  cases r with
  | v x => cases h
  | lst h1 q => cases h; exact ⟨_, _, rfl, .inl h1, q⟩
  | tup h1 q => cases h; exact ⟨_, _, rfl, .inr h1, q⟩
  | dct h1 q => cases h
  | dlk h1 q => cases h
  | dcT h1 q => cases h
  | dlT h1 q => cases h
  | ins h1 _ _ q => cases h
theorem ro_in {n : Bool} : RO K (rIn K n) (oIn n) := fun x y d e B H Q i rx ry h => by
  unfold oIn at h
  split at h
  · rename_i x' es e1 e2
    split at h
    · rename_i xs e3
      obtain ⟨p, ys, rfl, hs, q⟩ := items_of ry e2
      obtain ⟨rfl, hf⟩ := flatD_of rx e1
      obtain ⟨rfl, hfs⟩ := flatsD_of q e3
      exact ⟨p, ys, rfl, hs.elim (fun z => .inl (i.seq z)) (fun z => .inr (sqT_mono i z)), hf, hfs, h _ B H (Grow.refl i) (.v _)⟩
    · exact h.elim
  · exact h.elim
theorem cm_in {n : Bool} : Calm2 (oIn n) := fun d e x => by unfold oIn; split <;> (try split) <;> simp
section
variable {a b : Expr} {pos : Pos} {ta tb : TE} {fa fb : DS → Res D}
theorem ce_in (ha : CE X W a ta fa) (hb : CE X W b tb fb) (hm : behindInMarks .In b = false := by rfl) : CE X W (.Compare a [.In] [b] pos) (tOp (rIn X.K false) ta tb) (cBin (oIn false) fa fb) := ce_cmp op_in_seq ro_in cm_in ha hb hm
theorem ce_notin (ha : CE X W a ta fa) (hb : CE X W b tb fb) (hm : behindInMarks .NotIn b = false := by rfl) : CE X W (.Compare a [.NotIn] [b] pos) (tOp (rIn X.K true) ta tb) (cBin (oIn true) fa fb) := ce_cmp op_notIn_seq ro_in cm_in ha hb hm
end
end
end DV
namespace DV
open PySem L2

/-- an operator's three facts -/
structure OK2 (X : Cx) (f : Value → Value → Sem Value) (r : R2) (g : D → D → Res D) : Prop where
  o : OpR X f r
  r : RO X.K r g
  c : Calm2 g
section
variable {X : Cx} {W : WX} {K : PySem.W.Frag}
theorem q_o_add : OK2 X (binaryOp .Add) (rAdd X.K) oAdd := ⟨op_addA, ro_add, cm_add⟩
theorem o_add (K : PySem.W.Frag) (hK : X.K = K) : OK2 X (binaryOp .Add) (rAdd K) oAdd := by
  subst hK
  exact (q_o_add )
theorem o_sub : OK2 X (binaryOp .Sub) (rI0 fun i j => .int (i - j)) oSub := ⟨op_sub, ro_sub, cm_sub⟩
theorem q_o_mul : OK2 X (binaryOp .Mult) (rMulA X.K) oMul2 := ⟨op_mulA, ro_mul, cm_mul⟩
theorem o_mul (K : PySem.W.Frag) (hK : X.K = K) : OK2 X (binaryOp .Mult) (rMulA K) oMul2 := by
  subst hK
  exact (q_o_mul )
theorem o_mod : OK2 X (binaryOp .Mod) (rI (fun _ j => j ≠ 0) fun i j => .int (i.fmod j)) oMod := ⟨op_modN, ro_mod, cm_mod⟩
theorem o_fdiv : OK2 X (binaryOp .FloorDiv) (rI CFd fun i j => .int (i.fdiv j)) oFdiv := ⟨op_fdA, ro_fdiv, cm_fdiv⟩
theorem o_pow : OK2 X (binaryOp .Pow) (rI CPow fun i j => .int (i ^ j.toNat)) oPow := ⟨op_pow, ro_pow, cm_pow⟩
theorem o_lt : OK2 X (compareOp .Lt) (rI0 fun i j => .bl (decide (i < j))) oLt := ⟨op_lt, ro_cI, cm_cI⟩
theorem o_le : OK2 X (compareOp .LtE) (rI0 fun i j => .bl (decide (i ≤ j))) oLe := ⟨op_le, ro_cI, cm_cI⟩
theorem o_gt : OK2 X (compareOp .Gt) (rI0 fun i j => .bl (decide (j < i))) oGt := ⟨op_gt, ro_cI, cm_cI⟩
theorem o_ge : OK2 X (compareOp .GtE) (rI0 fun i j => .bl (decide (j ≤ i))) oGe := ⟨op_ge, ro_cI, cm_cI⟩
theorem q_o_eq (hu : X.A.units + 64 < cLine) : OK2 X (compareOp .Eq) (rEqD X.K) oEq := ⟨op_eqD hu, ro_eq, cm_eq⟩
theorem o_eq (K : PySem.W.Frag) (hK : X.K = K) (hu : X.A.units + 64 < cLine) : OK2 X (compareOp .Eq) (rEqD K) oEq := by
  subst hK
  exact (q_o_eq hu)
theorem q_o_ne (hu : X.A.units + 64 < cLine) : OK2 X (compareOp .NotEq) (rNeD X.K) oNe := ⟨op_neD hu, ro_ne, cm_eq⟩
theorem o_ne (K : PySem.W.Frag) (hK : X.K = K) (hu : X.A.units + 64 < cLine) : OK2 X (compareOp .NotEq) (rNeD K) oNe := by
  subst hK
  exact (q_o_ne hu)
theorem o_is : OK2 X (compareOp .Is) (fun x y H Q => y = .non ∧ Q (.bl (decide (x = .non))) H) (oIsN false) := ⟨op_isN, ro_isN, cm_isN⟩
theorem o_isnot : OK2 X (compareOp .IsNot) (fun x y H Q => y = .non ∧ Q (.bl (!decide (x = .non))) H) (oIsN true) := ⟨op_notN, ro_notN, cm_isN⟩
theorem q_o_in : OK2 X (compareOp .In) (rIn X.K false) (oIn false) := ⟨op_in_seq, ro_in, cm_in⟩
theorem o_in (K : PySem.W.Frag) (hK : X.K = K) : OK2 X (compareOp .In) (rIn K false) (oIn false) := by
  subst hK
  exact (q_o_in )
theorem q_o_notin : OK2 X (compareOp .NotIn) (rIn X.K true) (oIn true) := ⟨op_notIn_seq, ro_in, cm_in⟩

theorem o_notin (K : PySem.W.Frag) (hK : X.K = K) : OK2 X (compareOp .NotIn) (rIn K true) (oIn true) := by
  subst hK
  exact (q_o_notin )
theorem ce_b {a b : Expr} {op : Operator} {pos : Pos} {ta tb : TE} {fa fb : DS → Res D} {r : R2} {g : D → D → Res D} (o : OK2 X (binaryOp op) r g) (ha : CE X W a ta fa) (hb : CE X W b tb fb) : CE X W (.BinOp a op b pos) (tOp r ta tb) (cBin g fa fb) := ce_op o.o o.r o.c ha hb
theorem ce_c {a b : Expr} {op : CmpOp} {pos : Pos} {ta tb : TE} {fa fb : DS → Res D} {r : R2} {g : D → D → Res D} (o : OK2 X (compareOp op) r g) (ha : CE X W a ta fa) (hb : CE X W b tb fb) (hm : behindInMarks op b = false := by first | exact nomark _ | rfl) : CE X W (.Compare a [op] [b] pos) (tOp r ta tb) (cBin g fa fb) := ce_cmp o.o o.r o.c ha hb hm
theorem ce_cc {a b c : Expr} {op op' : CmpOp} {pos : Pos} {ta tb tc : TE} {fa fb fc : DS → Res D} {r r' : R2} {g g' : D → D → Res D} (o : OK2 X (compareOp op) r g) (o' : OK2 X (compareOp op') r' g')
    (ha : CE X W a ta fa) (hb : CE X W b tb fb) (hc : CE X W c tc fc) (hm : lastMarks [op, op'] [b, c] = false := by with_unfolding_all rfl) : CE X W (.Compare a [op, op'] [b, c] pos) (tChain r r' ta tb tc) (cChain g g' fa fb fc) := ce_chain o.o o.r o.c o'.o o'.r o'.c ha hb hc hm

/-! ### tests -/
def asB : D → Res Bool
  | .v (.bl b) => .ok b
  | _ => .no
def cTest (f : DS → Res D) : DS → Res Bool := fun δ => (f δ).bind asB
theorem st_test {t : TE} {f : DS → Res D} (h : SE K W t f) : ST K W (tTest t) (cTest f) := fun B0 H0 δ σ B H Q rel hp => by
  unfold cTest at hp
  refine h B0 H0 δ σ B H _ rel ?_
  cases e : f δ with
  | no => rw [e] at hp; exact hp
  | er x => rw [e] at hp; exact hp
  | ok d =>
    rw [e, Res.bind_ok] at hp
    intro v B1 H1 g1 r1
    unfold asB at hp
    split at hp
    · cases r1
      exact ⟨_, rfl, hp _ _ g1⟩
    · exact hp.elim
theorem ct_val {e : Expr} {t : TE} {f : DS → Res D} (h : CE X W e t f) (he : ∀ whole, isTrue e X.env whole = (do let v ← whole; standAt e.pos; holding [v] (truthy v)) := by intro _; rfl) : CT X W e (tB t) (cTest f) := ⟨pt_val h.pe he, st_test h.se⟩
theorem ct_c {a b : Expr} {op : CmpOp} {pos : Pos} {ta tb : TE} {fa fb : DS → Res D} {r : R2} {g : D → D → Res D} (o : OK2 X (compareOp op) r g) (ha : CE X W a ta fa) (hb : CE X W b tb fb) (hm : behindInMarks op b = false := by first | exact nomark _ | rfl) : CT X W (.Compare a [op] [b] pos) (tTest (tOp r ta tb)) (cTest (cBin g fa fb)) :=
  ⟨pt_cmpR o.o ha.pe hb.pe hm, st_test (se_op o.r o.c ha.se hb.se)⟩
theorem ct_cc {a b c : Expr} {op op' : CmpOp} {pos : Pos} {ta tb tc : TE} {fa fb fc : DS → Res D} {r r' : R2} {g g' : D → D → Res D} (o : OK2 X (compareOp op) r g) (o' : OK2 X (compareOp op') r' g')
    (ha : CE X W a ta fa) (hb : CE X W b tb fb) (hc : CE X W c tc fc) (hm : lastMarks [op, op'] [b, c] = false := by with_unfolding_all rfl) : CT X W (.Compare a [op, op'] [b, c] pos) (tTest (tChain r r' ta tb tc)) (cTest (cChain g g' fa fb fc)) :=
  ⟨pt_chain o.o o'.o ha.pe hb.pe hc.pe hm, st_test (se_chain o.r o.c o'.r o'.c ha.se hb.se hc.se)⟩
def cNotT (f : DS → Res Bool) : DS → Res Bool := fun δ => (f δ).bind fun b => .ok (!b)
def cAndT (f g : DS → Res Bool) : DS → Res Bool := fun δ => (f δ).bind fun b => if b = true then g δ else .ok false
def cOrT (f g : DS → Res Bool) : DS → Res Bool := fun δ => (f δ).bind fun b => if b = true then .ok true else g δ
theorem postT_mono {B H B1 H1 : Hp} {σ : L2.St} {Q : Bool → Hp → Prop} {r : Res Bool} (g : Grow B H B1 H1) (h : PostT K B H σ W Q r) : PostT K B1 H1 σ W Q r := by
  cases r with
  | ok d => exact fun B' H' g' => h B' H' (g.trans g')
  | er x => exact fun c dx B' H' g' rp => h c dx B' H' (g.trans g') rp
  | no => exact h
theorem st_not {t : TT} {f : DS → Res Bool} (h : ST K W t f) : ST K W (tNot t) (cNotT f) := fun B0 H0 δ σ B H Q rel hp => by
  unfold cNotT at hp
  refine h B0 H0 δ σ B H _ rel ?_
  cases e : f δ with
  | no => rw [e] at hp; exact hp
  | er x => rw [e] at hp; exact hp
  | ok d => rw [e, Res.bind_ok] at hp; exact hp
theorem st_and {t u : TT} {f g : DS → Res Bool} (h : ST K W t f) (h2 : ST K W u g) : ST K W (tAnd t u) (cAndT f g) := fun B0 H0 δ σ B H Q rel hp => by
  unfold cAndT at hp
  refine h B0 H0 δ σ B H _ rel ?_
  cases e : f δ with
  | no => rw [e] at hp; exact hp
  | er x => rw [e] at hp; exact hp
  | ok d =>
    rw [e, Res.bind_ok] at hp
    intro B1 H1 g1
    cases d with
    | true => rw [if_pos rfl] at hp ⊢; exact h2 B0 H0 δ σ B1 H1 _ (rel.mono g1) (postT_mono g1 hp)
    | false => rw [if_neg Bool.false_ne_true] at hp ⊢; exact hp _ _ g1
theorem st_or {t u : TT} {f g : DS → Res Bool} (h : ST K W t f) (h2 : ST K W u g) : ST K W (tOr t u) (cOrT f g) := fun B0 H0 δ σ B H Q rel hp => by
  unfold cOrT at hp
  refine h B0 H0 δ σ B H _ rel ?_
  cases e : f δ with
  | no => rw [e] at hp; exact hp
  | er x => rw [e] at hp; exact hp
  | ok d =>
    rw [e, Res.bind_ok] at hp
    intro B1 H1 g1
    cases d with
    | false => rw [if_neg Bool.false_ne_true] at hp ⊢; exact h2 B0 H0 δ σ B1 H1 _ (rel.mono g1) (postT_mono g1 hp)
    | true => rw [if_pos rfl] at hp ⊢; exact hp _ _ g1
theorem ct_not {a : Expr} {pos : Pos} {t : TT} {f : DS → Res Bool} (h : CT X W a t f) : CT X W (.UnaryOp .Not a pos) (tNot t) (cNotT f) := ⟨pt_not h.pt, st_not h.st⟩
theorem cw_and1 {a : Expr} {pos : Pos} {t : TT} {f : DS → Res Bool} (h : CT X W a t f) : CW X W (.BoolOp .And [a] pos) t f := ⟨pw_and1 h.pt, h.st⟩
theorem cw_or1 {a : Expr} {pos : Pos} {t : TT} {f : DS → Res Bool} (h : CT X W a t f) : CW X W (.BoolOp .Or [a] pos) t f := ⟨pw_or1 h.pt, h.st⟩
theorem cw_and {a b : Expr} {rest : List Expr} {pos : Pos} {t u : TT} {f g : DS → Res Bool} (h : CT X W a t f) (h2 : CW X W (.BoolOp .And (b :: rest) pos) u g) : CW X W (.BoolOp .And (a :: b :: rest) pos) (tAnd t u) (cAndT f g) := ⟨pw_and h.pt h2.pw, st_and h.st h2.st⟩
theorem cw_or {a b : Expr} {rest : List Expr} {pos : Pos} {t u : TT} {f g : DS → Res Bool} (h : CT X W a t f) (h2 : CW X W (.BoolOp .Or (b :: rest) pos) u g) : CW X W (.BoolOp .Or (a :: b :: rest) pos) (tOr t u) (cOrT f g) := ⟨pw_or h.pt h2.pw, st_or h.st h2.st⟩

/-! ### and, or, not as values -/
def cAndV (f g : DS → Res D) : DS → Res D := fun δ => (f δ).bind fun x => match x with
  | .v (.bl true) => g δ
  | .v (.bl false) => .ok (.bl false)
  | _ => .no
def cOrV (f g : DS → Res D) : DS → Res D := fun δ => (f δ).bind fun x => match x with
  | .v (.bl true) => .ok (.bl true)
  | .v (.bl false) => g δ
  | _ => .no
def oNot : D → Res D
  | .v (.bl b) => .ok (.bl (!b))
  | _ => .no
theorem se_and {ta tb : TE} {f g : DS → Res D} (ha : SE K W ta f) (hb : SE K W tb g) : SE K W (tAndV ta tb) (cAndV f g) := fun B0 H0 δ σ B H Q rel hp => by
  unfold cAndV at hp
  refine ha B0 H0 δ σ B H _ rel ?_
  cases e : f δ with
  | no => rw [e] at hp; exact hp
  | er x => rw [e] at hp; exact hp
  | ok d =>
    rw [e, Res.bind_ok] at hp
    intro v B1 H1 g1 r1
    split at hp
    · cases r1
      refine ⟨true, rfl, ?_⟩
      rw [if_pos rfl]
      exact hb B0 H0 δ σ B1 H1 _ (rel.mono g1) (postE_mono g1 hp)
    · cases r1
      refine ⟨false, rfl, ?_⟩
      rw [if_neg Bool.false_ne_true]
      exact hp _ _ _ g1 (.v _)
    · exact hp.elim
theorem se_or {ta tb : TE} {f g : DS → Res D} (ha : SE K W ta f) (hb : SE K W tb g) : SE K W (tOrV ta tb) (cOrV f g) := fun B0 H0 δ σ B H Q rel hp => by
  unfold cOrV at hp
  refine ha B0 H0 δ σ B H _ rel ?_
  cases e : f δ with
  | no => rw [e] at hp; exact hp
  | er x => rw [e] at hp; exact hp
  | ok d =>
    rw [e, Res.bind_ok] at hp
    intro v B1 H1 g1 r1
    split at hp
    · cases r1
      refine ⟨true, rfl, ?_⟩
      rw [if_pos rfl]
      exact hp _ _ _ g1 (.v _)
    · cases r1
      refine ⟨false, rfl, ?_⟩
      rw [if_neg Bool.false_ne_true]
      exact hb B0 H0 δ σ B1 H1 _ (rel.mono g1) (postE_mono g1 hp)
    · exact hp.elim
theorem se_notV {ta : TE} {f : DS → Res D} (ha : SE K W ta f) : SE K W (tNotV ta) (cUn oNot f) := fun B0 H0 δ σ B H Q rel hp => by
  unfold cUn at hp
  refine ha B0 H0 δ σ B H _ rel ?_
  cases e : f δ with
  | no => rw [e] at hp; exact hp
  | er x => rw [e] at hp; exact hp
  | ok d =>
    rw [e, Res.bind_ok] at hp
    intro v B1 H1 g1 r1
    unfold oNot at hp
    split at hp
    · cases r1
      exact ⟨_, rfl, hp _ _ _ g1 (.v _)⟩
    · exact hp.elim
theorem ce_one {op} {a : Expr} {pos : Pos} {t : TE} {f : DS → Res D} (h : CE X W a t f) : CE X W (.BoolOp op [a] pos) t f := ⟨pe_one h.pe, h.se⟩
theorem ce_and {a b : Expr} {rest : List Expr} {pos : Pos} {ta tb : TE} {f g : DS → Res D} (h : CE X W a ta f) (h2 : CE X W (.BoolOp .And (b :: rest) pos) tb g) : CE X W (.BoolOp .And (a :: b :: rest) pos) (tAndV ta tb) (cAndV f g) := ⟨pe_and h.pe h2.pe, se_and h.se h2.se⟩
theorem ce_or {a b : Expr} {rest : List Expr} {pos : Pos} {ta tb : TE} {f g : DS → Res D} (h : CE X W a ta f) (h2 : CE X W (.BoolOp .Or (b :: rest) pos) tb g) : CE X W (.BoolOp .Or (a :: b :: rest) pos) (tOrV ta tb) (cOrV f g) := ⟨pe_or h.pe h2.pe, se_or h.se h2.se⟩
theorem ce_not {a : Expr} {pos : Pos} {ta : TE} {f : DS → Res D} (h : CE X W a ta f) : CE X W (.UnaryOp .Not a pos) (tNotV ta) (cUn oNot f) := ⟨pe_not h.pe, se_notV h.se⟩
/-- a if t else b -/
def cIfE (t : DS → Res Bool) (f g : DS → Res D) : DS → Res D := fun δ => (t δ).bind fun b => if b = true then f δ else g δ
theorem ce_if {c a b : Expr} {pos : Pos} {tt : TT} {ta tb : TE} {t : DS → Res Bool} {f g : DS → Res D} (hc : CT X W c tt t) (ha : CE X W a ta f) (hb : CE X W b tb g) : CE X W (.IfExp c a b pos) (tIf tt ta tb) (cIfE t f g) :=
  ⟨pe_ifExp hc.pt ha.pe hb.pe, fun B0 H0 δ σ B H Q rel hp => by
    unfold cIfE at hp
    refine hc.st B0 H0 δ σ B H _ rel ?_
    cases e : t δ with
    | no => rw [e] at hp; exact hp
    | er x => rw [e] at hp; exact hp
    | ok d =>
      rw [e, Res.bind_ok] at hp
      intro B1 H1 g1
      cases d with
      | false => rw [if_neg Bool.false_ne_true] at hp ⊢; exact hb.se B0 H0 δ σ B1 H1 _ (rel.mono g1) (postE_mono g1 hp)
      | true => rw [if_pos rfl] at hp ⊢; exact ha.se B0 H0 δ σ B1 H1 _ (rel.mono g1) (postE_mono g1 hp)⟩

/-! ### arguments and displays -/
structure CL (X : Cx) (W : WX) (es : List Expr) (t : TA) (f : DS → Res (List D)) : Prop extends CA X W es t f where
  ln : ∀ δ ds, f δ = .ok ds → ds.length = es.length
def cNil : DS → Res (List D) := fun _ => .ok []
def cCons (f : DS → Res D) (g : DS → Res (List D)) : DS → Res (List D) := fun δ => (f δ).bind fun x => (g δ).bind fun xs => .ok (x :: xs)
theorem postA_mono {B H B1 H1 : Hp} {σ : L2.St} {Q : List V → Hp → Prop} {r : Res (List D)} (g : Grow B H B1 H1) (h : PostA K B H σ W Q r) : PostA K B1 H1 σ W Q r := by
  cases r with
  | ok d => exact fun v B' H' g' rp => h v B' H' (g.trans g') rp
  | er x => exact fun c dx B' H' g' rp => h c dx B' H' (g.trans g') rp
  | no => exact h
theorem ca_nil : CL X W [] tNil cNil := ⟨⟨pa_nil, fun B0 H0 δ σ B H Q rel hp => hp [] B H (Grow.refl rel.g.i) .nil⟩, fun δ ds h => by cases h; rfl⟩
theorem sa_cons {te : TE} {t : TA} {f : DS → Res D} {g : DS → Res (List D)} (ha : SE K W te f) (hb : SA K W t g) : SA K W (tCons te t) (cCons f g) := fun B0 H0 δ σ B H Q rel hp => by
  unfold cCons at hp
  refine ha B0 H0 δ σ B H _ rel ?_
  cases e : f δ with
  | no => rw [e] at hp; exact hp
  | er x => rw [e] at hp; exact hp
  | ok d =>
    rw [e, Res.bind_ok] at hp
    intro v B1 H1 g1 r1
    refine hb B0 H0 δ σ B1 H1 _ (rel.mono g1) ?_
    cases e2 : g δ with
    | no => rw [e2] at hp; exact hp
    | er x => rw [e2] at hp; exact fun c dx B' H' g' rp => hp c dx B' H' (g1.trans g') rp
    | ok ds =>
      rw [e2, Res.bind_ok] at hp
      exact fun vs B2 H2 g2 r2 => hp _ B2 H2 (g1.trans g2) (.cons (Rp.mono g2.b r1) r2)
theorem ca_cons {e : Expr} {es : List Expr} {te : TE} {t : TA} {f : DS → Res D} {g : DS → Res (List D)} (ha : CE X W e te f) (hb : CL X W es t g) (hs : starEach (e :: es) X.env = (false, eval e X.env) :: starEach es X.env := by rfl) : CL X W (e :: es) (tCons te t) (cCons f g) :=
  ⟨⟨pa_cons ha.pe hb.pa hs, sa_cons ha.se hb.sa⟩, fun δ ds h => by
    unfold cCons at h
    cases e1 : f δ with
    | no => rw [e1] at h; cases h
    | er x => rw [e1] at h; cases h
    | ok d =>
      rw [e1, Res.bind_ok] at h
      cases e2 : g δ with
      | no => rw [e2] at h; cases h
      | er x => rw [e2] at h; cases h
      | ok ds' =>
        rw [e2, Res.bind_ok] at h
        cases h
        simp [hb.ln δ ds' e2]⟩
def cTup (f : DS → Res (List D)) : DS → Res D := fun δ => (f δ).bind fun ds => .ok (.tup ds)
theorem ce_tup {es : List Expr} {x1} {pos : Pos} {t : TA} {f : DS → Res (List D)} (h : CL X W es t f) (hl : es.length ≤ sizeLine := by decide) : CE X W (.Tuple es x1 pos) (tTup t) (cTup f) :=
  ⟨pe_tup h.pa, fun B0 H0 δ σ B H Q rel hp => by
    unfold cTup at hp
    refine h.sa B0 H0 δ σ B H _ rel ?_
    cases e : f δ with
    | no => rw [e] at hp; exact hp
    | er x => rw [e] at hp; exact hp
    | ok ds =>
      rw [e, Res.bind_ok] at hp
      intro vs B1 H1 g1 r1
      refine ⟨by rw [r1.length, h.ln δ ds e]; exact hl, fun p hp' => ?_⟩
      exact hp _ _ _ (g1.trans (Grow.new g1.i hp')) (.tup (SqT.of upd_same) (r1.mono (Grow.new g1.i hp').b))⟩
theorem cf_lst {es : List Expr} {pos : Pos} {t : TA} {f : DS → Res (List D)} (h : CL X W es t f) (hl : es.length ≤ sizeLine := by decide) : CF X W (.List es pos) (tLst t) f :=
  ⟨pe_lst h.pa, fun B0 H0 δ σ B H Q rel hp => by
    refine h.sa B0 H0 δ σ B H _ rel ?_
    cases e : f δ with
    | no => rw [e] at hp; exact hp
    | er x => rw [e] at hp; exact hp
    | ok ds =>
      rw [e] at hp
      intro vs B1 H1 g1 r1
      refine ⟨by rw [r1.length, h.ln δ ds e]; exact hl, fun p hp' => ?_⟩
      exact hp p vs B1 _ (g1.trans (Grow.raw g1.i hp')) (g1.free hp') (g1.i.free hp') upd_same r1⟩
/-- a new list as data -/
def cL (f : DS → Res (List D)) : DS → Res D := fun δ => (f δ).bind fun ds => .ok (.lst ds)
theorem se_of_sf {t : TE} {f : DS → Res (List D)} (h : SF K W t f) : SE K W t (cL f) := fun B0 H0 δ σ B H Q rel hp => by
  unfold cL at hp
  refine h B0 H0 δ σ B H _ rel ?_
  cases e : f δ with
  | no => rw [e] at hp; exact hp
  | er x => rw [e] at hp; exact hp
  | ok ds =>
    rw [e, Res.bind_ok] at hp
    intro p vs B1 H1 g1 h0 hb hh r1
    have sb : Same B1 (upd B1 p (.lst vs)) := same_new hb
    refine hp _ (upd B1 p (.lst vs)) H1 ⟨g1.b.trans sb, g1.h, fun a o q => ?_, fun a ha => ?_, g1.e, g1.t, fun h => (g1.n h).upd (fun _ z => by cases z)⟩ (.lst (SqL.of upd_same) (r1.mono sb))
    · by_cases hap : a = p
      · subst hap; rw [upd_same] at q; cases q; exact hh
      · rw [upd_ne hap] at q; exact g1.i a o q
    · have : a ≠ p := fun z => ha (by rw [z]; exact h0)
      rw [upd_ne this]
      exact g1.f a ha
theorem ce_l {e : Expr} {t : TE} {f : DS → Res (List D)} (h : CF X W e t f) : CE X W e t (cL f) := ⟨h.pe, se_of_sf h.sf⟩

/-! ### subscripts and slices -/
def oIx : D → D → Res D
  | .lst xs, .v (.int i) => match atI xs i with
    | some d => .ok d
    | none => .no
  | .tup xs, .v (.int i) => match atI xs i with
    | some d => .ok d
    | none => .no
  | .v (.str z), .v (.int i) => match atI z.cps.toList i with
    | some c => if z.length ≤ sizeLine then .ok (.str ⟨#[c]⟩) else .no
    | none => .no
  | _, _ => .no
theorem RpA.at_ {B : Hp} {vs : List V} {ds : List D} {i : Int} {d : D} (r : RpA K B vs ds) (h : atI ds i = some d) : ∃ v, atI vs i = some v ∧ Rp K B v d := by
  have hl := r.length
  unfold atI at h ⊢
  rw [hl]
  cases e : ixN ds.length i with
  | none => rw [e] at h; cases h
  | some j =>
    rw [e] at h
    exact r.get h
theorem ro_ix : RO K (rIx K) oIx := fun x y d e B H Q i rx ry h => by
  unfold oIx at h
  split at h
  · split at h
    · rename_i d' e'
      cases ry
      cases rx with
      | lst h1 q =>
        obtain ⟨v, e2, r2⟩ := q.at_ e'
        exact .inl ⟨_, _, _, v, rfl, rfl, i.seq h1, e2, h v B H (Grow.refl i) r2⟩
    · exact h.elim
  · split at h
    · rename_i d' e'
      cases ry
      cases rx with
      | tup h1 q =>
        obtain ⟨v, e2, r2⟩ := q.at_ e'
        exact .inr (.inl ⟨_, _, _, v, rfl, rfl, sqT_mono i h1, e2, h v B H (Grow.refl i) r2⟩)
    · exact h.elim
  · split at h
    · rename_i c e'
      split at h
      · rename_i hz
        cases ry
        cases rx
        exact .inr (.inr ⟨_, _, c, rfl, rfl, hz, e', h _ B H (Grow.refl i) (.v _)⟩)
      · exact h.elim
    · exact h.elim
  · exact h.elim
theorem cm_ix : Calm2 oIx := fun d e x => by unfold oIx; split <;> (try split) <;> (try split) <;> simp
theorem q_ce_ix {a b : Expr} {pos : Pos} {ta tb : TE} {fa fb : DS → Res D} (ha : CE X W a ta fa) (hb : CE X W b tb fb) (hs : PlainIx b := by exact fun _ _ => rfl) : CE X W (.Subscript a b pos) (tOp (rIx X.K) ta tb) (cBin oIx fa fb) := ⟨pe_ix ix_seq ha.pe hb.pe hs, se_op ro_ix cm_ix ha.se hb.se⟩
theorem ce_ix (K : PySem.W.Frag) (hK : X.K = K) {a b : Expr} {pos : Pos} {ta tb : TE} {fa fb : DS → Res D} (ha : CE X W a ta fa) (hb : CE X W b tb fb) (hs : PlainIx b := by exact fun _ _ => rfl) : CE X W (.Subscript a b pos) (tOp (rIx K) ta tb) (cBin oIx fa fb) := by
  subst hK
  exact (q_ce_ix ha hb hs)
end
end DV
namespace DV
open PySem L2
section
variable {X : Cx} {W : WX} {K : PySem.W.Frag}

/-! ### slices -/
def cutD (xs : List D) (lo hi : Option Int) : List D := (xs.drop (HT.sIx xs.length 0 lo)).take (HT.sIx xs.length xs.length hi - HT.sIx xs.length 0 lo)
theorem RpA.cut {B : Hp} {vs : List V} {ds : List D} (r : RpA K B vs ds) (lo hi : Option Int) : RpA K B (cutV vs lo hi) (cutD ds lo hi) := by
  unfold cutV cutD
  rw [r.length]
  exact (r.drop _).take _
def asI : D → Res (Option Int)
  | .v (.int i) => .ok (some i)
  | _ => .no
def cNone : DS → Res (Option Int) := fun _ => .ok none
def cSome (f : DS → Res D) : DS → Res (Option Int) := fun δ => (f δ).bind asI
def PostO (K : PySem.W.Frag) (B H : Hp) (σ : L2.St) (W : WX) (Q : Option Int → Hp → Prop) : Res (Option Int) → Prop
  | .ok o => ∀ B' H', Grow B H B' H' → Q o H'
  | .er x => ∀ c dx B' H', Grow B H B' H' → RpX K B' c dx x → W c dx σ H'
  | .no => False
structure CO (X : Cx) (W : WX) (e : Option Expr) (t : TO) (f : DS → Res (Option Int)) : Prop where
  po : PO X e t
  so : ∀ B0 H0 δ σ B H (Q : Option Int → Hp → Prop), Rel X.K B0 H0 B H σ δ → PostO X.K B H σ W Q (f δ) → t σ H Q
theorem co_none : CO X W none tNoPart cNone := ⟨po_none, fun B0 H0 δ σ B H Q rel hp => hp B H (Grow.refl rel.g.i)⟩
theorem co_some {e : Expr} {t : TE} {f : DS → Res D} (h : CE X W e t f) : CO X W (some e) (tPart t) (cSome f) := ⟨po_some h.pe, fun B0 H0 δ σ B H Q rel hp => by
  unfold cSome at hp
  refine h.se B0 H0 δ σ B H _ rel ?_
  cases e : f δ with
  | no => rw [e] at hp; exact hp
  | er x => rw [e] at hp; exact hp
  | ok d =>
    rw [e, Res.bind_ok] at hp
    intro v B1 H1 g1 r1
    unfold asI at hp
    split at hp
    · cases r1; exact ⟨_, rfl, hp B1 H1 g1⟩
    · exact hp.elim⟩
def oSl (lo hi : Option Int) : D → Res D
  | .lst xs => .ok (.lst (cutD xs lo hi))
  | .tup xs => .ok (.tup (cutD xs lo hi))
  | .v (.str z) => if z.length ≤ sizeLine then .ok (.str (cutS z lo hi)) else .no
  | _ => .no
def rSlD (K : PySem.W.Frag) : V → Option Int → Option Int → Hp → VK → Prop := fun x lo hi H Q => rSlL K x lo hi H Q ∨ rSlA K x lo hi H Q ∨ rSlS x lo hi H Q
theorem sl_D : SlR X (rSlD X.K) := sl_list.or (sl_tupA.or sl_str)
theorem cut_whole {xs : List V} {lo hi : Option Int} (h : HT.sIx xs.length 0 lo = 0 ∧ HT.sIx xs.length xs.length hi = xs.length) : cutV xs lo hi = xs := by
  unfold cutV
  rw [h.1, h.2]
  simp
theorem rs_sl {x : V} {d : D} {lo hi : Option Int} {B H : Hp} {Q : VK} (i : Same B H) (rx : Rp K B x d) (h : PostV K B H Q (oSl lo hi d)) : rSlD K x lo hi H Q := by
  unfold oSl at h
  split at h
  · cases rx with
    | lst h1 q => exact .inl ⟨_, _, rfl, i.seq h1, fun p hp => h _ _ _ (Grow.new i hp) (.lst (SqL.of upd_same) ((q.cut lo hi).mono (Grow.new i hp).b))⟩
  · cases rx with
    | tup h1 q =>
      refine .inr (.inl ⟨_, _, rfl, sqT_mono i h1, fun hw => ?_, fun hw p hp => ?_⟩)
      · refine h _ B H (Grow.refl i) ?_
        have q2 := q.cut lo hi
        rw [cut_whole hw] at q2
        exact .tup h1 q2
      · exact h _ _ _ (Grow.new i hp) (.tup (SqT.of upd_same) ((q.cut lo hi).mono (Grow.new i hp).b))
  · split at h
    · rename_i hz
      cases rx
      exact .inr (.inr ⟨_, rfl, hz, h _ B H (Grow.refl i) (.v _)⟩)
    · exact h.elim
  · exact h.elim
theorem cm_sl {lo hi : Option Int} {d : D} (x : Exn) : oSl lo hi d ≠ .er x := by unfold oSl; split <;> (try split) <;> simp
def cSl (f : DS → Res D) (lo hi : DS → Res (Option Int)) : DS → Res D := fun δ => (f δ).bind fun x => (lo δ).bind fun l => (hi δ).bind fun h => oSl l h x
theorem q_ce_sl {e : Expr} {lo hi : Option Expr} {p2 pos : Pos} {te : TE} {tl th : TO} {f : DS → Res D} {fl fh : DS → Res (Option Int)} (he : CE X W e te f) (hl : CO X W lo tl fl) (hh : CO X W hi th fh) : CE X W (.Subscript e (.Slice lo hi none p2) pos) (tSl (rSlD X.K) te tl th) (cSl f fl fh) :=
  ⟨pe_slice sl_D he.pe hl.po hh.po, fun B0 H0 δ σ B H Q rel hp => by
    unfold cSl at hp
    refine he.se B0 H0 δ σ B H _ rel ?_
    cases e : f δ with
    | no => rw [e] at hp; exact hp
    | er x => rw [e] at hp; exact hp
    | ok d =>
      rw [e, Res.bind_ok] at hp
      intro v B1 H1 g1 r1
      refine hl.so B0 H0 δ σ B1 H1 _ (rel.mono g1) ?_
      cases e2 : fl δ with
      | no => rw [e2] at hp; exact hp
      | er x => rw [e2] at hp; exact fun c dx B' H' g' rp => hp c dx B' H' (g1.trans g') rp
      | ok l =>
        rw [e2, Res.bind_ok] at hp
        intro B2 H2 g2
        refine hh.so B0 H0 δ σ B2 H2 _ ((rel.mono g1).mono g2) ?_
        cases e3 : fh δ with
        | no => rw [e3] at hp; exact hp
        | er x => rw [e3] at hp; exact fun c dx B' H' g' rp => hp c dx B' H' ((g1.trans g2).trans g') rp
        | ok h =>
          rw [e3, Res.bind_ok] at hp
          intro B3 H3 g3
          exact rs_sl g3.i (r1.mono (g2.b.trans g3.b)) (postV_of (postE_mono ((g1.trans g2).trans g3) hp) fun x => cm_sl x)⟩
theorem ce_sl (K : PySem.W.Frag) (hK : X.K = K) {e : Expr} {lo hi : Option Expr} {p2 pos : Pos} {te : TE} {tl th : TO} {f : DS → Res D} {fl fh : DS → Res (Option Int)} (he : CE X W e te f) (hl : CO X W lo tl fl) (hh : CO X W hi th fh) : CE X W (.Subscript e (.Slice lo hi none p2) pos) (tSl (rSlD K) te tl th) (cSl f fl fh) := by
  subst hK
  exact (q_ce_sl he hl hh)
/-- xs[::-1], a list -/
def oRevL : D → Res D
  | .lst xs => .ok (.lst xs.reverse)
  | _ => .no
theorem ce_revL {e : Expr} {k : Nat} {p1 p2 p3 pos : Pos} {te : TE} {f : DS → Res D} (he : CE X W e te f) : CE X W (.Subscript e (.Slice none none (some (.UnaryOp .USub (.Constant (.int 1) k p1) p2)) p3) pos) (tRevL X.K te) (cUn oRevL f) :=
  ⟨pe_revL he.pe, fun B0 H0 δ σ B H Q rel hp => by
    unfold cUn at hp
    refine he.se B0 H0 δ σ B H _ rel ?_
    cases e : f δ with
    | no => rw [e] at hp; exact hp
    | er x => rw [e] at hp; exact hp
    | ok d =>
      rw [e, Res.bind_ok] at hp
      intro v B1 H1 g1 r1
      unfold oRevL at hp
      split at hp
      · cases r1 with
        | lst h1 q => exact ⟨_, _, rfl, g1.i.seq h1, fun p hp' => hp _ _ _ (g1.trans (Grow.new g1.i hp')) (.lst (SqL.of upd_same) (q.reverse.mono (Grow.new g1.i hp').b))⟩
      · exact hp.elim⟩

/-! ### built-in functions -/
def RC (K : PySem.W.Frag) (r : List V → Hp → VK → Prop) (g : List D → Res D) : Prop := ∀ vs ds B H Q, Same B H → RpA K B vs ds → PostV K B H Q (g ds) → r vs H Q
structure OKC (X : Cx) (f : Value) (r : List V → Hp → VK → Prop) (g : List D → Res D) : Prop where
  o : CallR X f r
  r : RC X.K r g
  c : ∀ ds x, g ds ≠ .er x
def cCall (g : List D → Res D) (f : DS → Res (List D)) : DS → Res D := fun δ => (f δ).bind g
theorem se_call {t : TA} {f : DS → Res (List D)} {r : List V → Hp → VK → Prop} {g : List D → Res D} (hr : RC K r g) (hc : ∀ ds x, g ds ≠ .er x) (h : SA K W t f) : SE K W (tCB r t) (cCall g f) := fun B0 H0 δ σ B H Q rel hp => by
  unfold cCall at hp
  refine h B0 H0 δ σ B H _ rel ?_
  cases e : f δ with
  | no => rw [e] at hp; exact hp
  | er x => rw [e] at hp; exact hp
  | ok ds =>
    rw [e, Res.bind_ok] at hp
    intro vs B1 H1 g1 r1
    exact hr vs ds B1 H1 Q g1.i r1 (postV_of (postE_mono g1 hp) (hc ds))
theorem ce_callB {id : String} {x : Str} {e : Expr} {es : List Expr} {p pos : Pos} {r : List V → Hp → VK → Prop} {g : List D → Res D} {t : TA} {f : DS → Res (List D)} (o : OKC X (.builtin id) r g) (hm : X.mg x = none) (hv : bootBuiltins x = some (.builtin id)) (ha : CL X W (e :: es) t f) (hg : Gl X x := by rfl) (hn : x ≠ "__name__" := by decide) (hdb : (x == ("__debug__" : Str)) = false := by decide)
    (he : starEach (e :: es) X.env = (false, eval e X.env) :: starEach es X.env := by rfl) (hpl : (backTo pos (starEach es X.env)).any (·.1) = false := by rfl) : CE X W (.Call (.Name x p) (e :: es) [] pos) (tCB r t) (cCall g f) := ⟨pe_callB o.o hg hm hv ha.pa hn hdb he hpl, se_call o.r o.c ha.sa⟩
theorem ce_callTy {T : String} {x : Str} {e : Expr} {es : List Expr} {p pos : Pos} {r : List V → Hp → VK → Prop} {g : List D → Res D} {t : TA} {f : DS → Res (List D)} (o : OKC X (.type T) r g) (hm : X.mg x = none) (hv : bootBuiltins x = some (.type T)) (ha : CL X W (e :: es) t f) (hg : Gl X x := by rfl) (hn : x ≠ "__name__" := by decide) (hdb : (x == ("__debug__" : Str)) = false := by decide)
    (he : starEach (e :: es) X.env = (false, eval e X.env) :: starEach es X.env := by rfl) (hpl : (backTo pos (starEach es X.env)).any (·.1) = false := by rfl) : CE X W (.Call (.Name x p) (e :: es) [] pos) (tCB r t) (cCall g f) := ⟨pe_callTy o.o hg hm hv ha.pa hn hdb he hpl, se_call o.r o.c ha.sa⟩

def gAbs : List D → Res D
  | [.v (.int i)] => .ok (.int (if i < 0 then -i else i))
  | _ => .no
theorem k_abs : OKC X (.builtin "abs") (fun xs H Q => ∃ i, xs = [.int i] ∧ Q (.int (if i < 0 then -i else i)) H) gAbs := ⟨call_abs, fun vs ds B H Q i r h => by
  unfold gAbs at h
  split at h
  · cases r with
    | cons r1 r2 => cases r2; cases r1; exact ⟨_, rfl, h _ B H (Grow.refl i) (.v _)⟩
  · exact h.elim, fun ds x => by unfold gAbs; split <;> simp⟩
def gLen : List D → Res D
  | [.lst xs] => .ok (.int (xs.length : Nat))
  | [.tup xs] => .ok (.int (xs.length : Nat))
  | [.v (.str z)] => if z.length ≤ sizeLine then .ok (.int (z.length : Nat)) else .no
  | _ => .no
theorem q_k_len : OKC X (.builtin "len") (fun xs H Q => ∃ x n, xs = [x] ∧ LenV X.K x H n ∧ Q (.int n) H) gLen := ⟨call_len, fun vs ds B H Q i r h => by
  unfold gLen at h
  split at h
  · cases r with
    | cons r1 r2 =>
      cases r2
      cases r1 with
      | lst h1 q => exact ⟨_, _, rfl, .inl ⟨_, i.seq h1, rfl⟩, by rw [q.length]; exact h _ B H (Grow.refl i) (.v _)⟩
  · cases r with
    | cons r1 r2 =>
      cases r2
      cases r1 with
      | tup h1 q => exact ⟨_, _, rfl, .inr ⟨_, sqT_mono i h1, rfl⟩, by rw [q.length]; exact h _ B H (Grow.refl i) (.v _)⟩
  · split at h
    · rename_i hz
      cases r with
      | cons r1 r2 => cases r2; cases r1; exact ⟨_, _, rfl, ⟨hz, rfl⟩, h _ B H (Grow.refl i) (.v _)⟩
    · exact h.elim
  · exact h.elim, fun ds x => by unfold gLen; split <;> (try split) <;> simp⟩
theorem k_len (K : PySem.W.Frag) (hK : X.K = K) : OKC X (.builtin "len") (fun xs H Q => ∃ x n, xs = [x] ∧ LenV K x H n ∧ Q (.int n) H) gLen := by
  subst hK
  exact (q_k_len )
/-- a list of ints, of bools -/
def intsD : List D → Option (List Int)
  | [] => some []
  | .v (.int i) :: ds => (intsD ds).map (i :: ·)
  | _ => none
def blsD : List D → Option (List Bool)
  | [] => some []
  | .v (.bl i) :: ds => (blsD ds).map (i :: ·)
  | _ => none
theorem intsD_of : ∀ {ds : List D} {ns : List Int}, intsD ds = some ns → ds = ns.map D.int
  | [], ns, h => by cases h; rfl
  | d :: ds, ns, h => by
    unfold intsD at h
    split at h
    · rename_i e; cases e
    · rename_i i ds' e
      cases e
      cases q : intsD ds with
      | none => rw [q] at h; cases h
      | some ms => rw [q] at h; cases h; rw [intsD_of q]; rfl
    · cases h
theorem blsD_of : ∀ {ds : List D} {ns : List Bool}, blsD ds = some ns → ds = ns.map D.bl
  | [], ns, h => by cases h; rfl
  | d :: ds, ns, h => by
    unfold blsD at h
    split at h
    · rename_i e; cases e
    · rename_i i ds' e
      cases e
      cases q : blsD ds with
      | none => rw [q] at h; cases h
      | some ms => rw [q] at h; cases h; rw [blsD_of q]; rfl
    · cases h
@[simp] theorem intsD_map (ns : List Int) : intsD (ns.map D.int) = some ns := by
  induction ns with
  | nil => rfl
  | cons n ns ih => simp [intsD, ih]
@[simp] theorem blsD_map (ns : List Bool) : blsD (ns.map D.bl) = some ns := by
  induction ns with
  | nil => rfl
  | cons n ns ih => simp [blsD, ih]
def gInts (g : List Int → Res D) : List D → Res D
  | [.lst ds] => match intsD ds with
    | some ns => g ns
    | none => .no
  | _ => .no
def gBls (g : List Bool → Res D) : List D → Res D
  | [.lst ds] => match blsD ds with
    | some ns => g ns
    | none => .no
  | _ => .no
theorem rc_ints {r : List V → Hp → VK → Prop} {g : List Int → Res D} (h : ∀ a ns B H Q, Same B H → SqL K H a (ns.map V.int) → PostV K B H Q (g ns) → r [.ref a] H Q) : RC K r (gInts g) := fun vs ds B H Q i rr hp => by
  unfold gInts at hp
  split at hp
  · split at hp
    · rename_i ds ns e
      cases rr with
      | cons r1 r2 =>
        cases r2
        cases r1 with
        | lst h1 q =>
          rw [intsD_of e] at q
          have e2 := q.ints_of
          subst e2
          exact h _ _ B H Q i (i.seq h1) hp
    · exact hp.elim
  · exact hp.elim
theorem rc_bls {r : List V → Hp → VK → Prop} {g : List Bool → Res D} (h : ∀ a ns B H Q, Same B H → SqL K H a (ns.map V.bl) → PostV K B H Q (g ns) → r [.ref a] H Q) : RC K r (gBls g) := fun vs ds B H Q i rr hp => by
  unfold gBls at hp
  split at hp
  · split at hp
    · rename_i ds ns e
      cases rr with
      | cons r1 r2 =>
        cases r2
        cases r1 with
        | lst h1 q =>
          rw [blsD_of e] at q
          have e2 := q.bls_of
          subst e2
          exact h _ _ B H Q i (i.seq h1) hp
    · exact hp.elim
  · exact hp.elim
theorem gInts_calm {g : List Int → Res D} (h : ∀ ns x, g ns ≠ .er x) (ds : List D) (x : Exn) : gInts g ds ≠ .er x := by
  unfold gInts; split <;> (try split) <;> first | exact h _ _ | simp
theorem gBls_calm {g : List Bool → Res D} (h : ∀ ns x, g ns ≠ .er x) (ds : List D) (x : Exn) : gBls g ds ≠ .er x := by
  unfold gBls; split <;> (try split) <;> first | exact h _ _ | simp
def gSum : List D → Res D := gInts fun ns => .ok (.int ns.sum)
def gAll : List D → Res D := gBls fun bs => .ok (.bl (bs.all id))
def gAny : List D → Res D := gBls fun bs => .ok (.bl (bs.any id))
theorem q_k_sum (hc : X.calm = true := by rfl) : OKC X (.builtin "sum") (rSum X.K) gSum := ⟨cr_sum hc, rc_ints fun a ns B H Q i hs hp => ⟨a, ns, rfl, hs, hp _ B H (Grow.refl i) (.v _)⟩, gInts_calm fun _ _ => by simp⟩
theorem k_sum (K : PySem.W.Frag) (hK : X.K = K) (hc : X.calm = true := by rfl) : OKC X (.builtin "sum") (rSum K) gSum := by
  subst hK
  exact (q_k_sum hc)
theorem q_k_all (hc : X.calm = true := by rfl) : OKC X (.builtin "all") (rAll X.K) gAll := ⟨cr_all hc, rc_bls fun a ns B H Q i hs hp => ⟨a, ns, rfl, hs, hp _ B H (Grow.refl i) (.v _)⟩, gBls_calm fun _ _ => by simp⟩
theorem k_all (K : PySem.W.Frag) (hK : X.K = K) (hc : X.calm = true := by rfl) : OKC X (.builtin "all") (rAll K) gAll := by
  subst hK
  exact (q_k_all hc)
theorem q_k_any (hc : X.calm = true := by rfl) : OKC X (.builtin "any") (rAny X.K) gAny := ⟨cr_any hc, rc_bls fun a ns B H Q i hs hp => ⟨a, ns, rfl, hs, hp _ B H (Grow.refl i) (.v _)⟩, gBls_calm fun _ _ => by simp⟩
theorem k_any (K : PySem.W.Frag) (hK : X.K = K) (hc : X.calm = true := by rfl) : OKC X (.builtin "any") (rAny K) gAny := by
  subst hK
  exact (q_k_any hc)
/-- least and greatest -/
def minI : Int → List Int → Int
  | m, [] => m
  | m, n :: ns => minI (if n < m then n else m) ns
def maxI : Int → List Int → Int
  | m, [] => m
  | m, n :: ns => maxI (if m < n then n else m) ns
theorem minI_spec : ∀ (ns : List Int) (m : Int), minI m ns ∈ m :: ns ∧ ∀ y ∈ m :: ns, minI m ns ≤ y
  | [], m => by simp [minI]
  | n :: ns, m => by
    obtain ⟨h1, h2⟩ := minI_spec ns (if n < m then n else m)
    unfold minI
    refine ⟨?_, fun y hy => ?_⟩
    · rcases List.mem_cons.mp h1 with e | e
      · rw [e]; split <;> simp
      · simp [e]
    · have h3 := h2 (if n < m then n else m) (by simp)
      have h4 : (if n < m then n else m) ≤ m ∧ (if n < m then n else m) ≤ n := by split <;> omega
      rcases List.mem_cons.mp hy with e | e
      · subst e; exact Int.le_trans h3 h4.1
      · rcases List.mem_cons.mp e with e | e
        · subst e; exact Int.le_trans h3 h4.2
        · exact h2 y (by simp [e])
theorem maxI_spec : ∀ (ns : List Int) (m : Int), maxI m ns ∈ m :: ns ∧ ∀ y ∈ m :: ns, y ≤ maxI m ns
  | [], m => by simp [maxI]
  | n :: ns, m => by
    obtain ⟨h1, h2⟩ := maxI_spec ns (if m < n then n else m)
    unfold maxI
    refine ⟨?_, fun y hy => ?_⟩
    · rcases List.mem_cons.mp h1 with e | e
      · rw [e]; split <;> simp
      · simp [e]
    · have h3 := h2 (if m < n then n else m) (by simp)
      have h4 : m ≤ (if m < n then n else m) ∧ n ≤ (if m < n then n else m) := by split <;> omega
      rcases List.mem_cons.mp hy with e | e
      · subst e; exact Int.le_trans h4.1 h3
      · rcases List.mem_cons.mp e with e | e
        · subst e; exact Int.le_trans h4.2 h3
        · exact h2 y (by simp [e])
def gMin : List D → Res D
  | [.v (.int i), .v (.int j)] => .ok (.int (if j < i then j else i))
  | ds => gInts (fun ns => match ns with | [] => .no | n :: ns => .ok (.int (minI n ns))) ds
def gMax : List D → Res D
  | [.v (.int i), .v (.int j)] => .ok (.int (if j > i then j else i))
  | ds => gInts (fun ns => match ns with | [] => .no | n :: ns => .ok (.int (maxI n ns))) ds
theorem q_k_min (hc : X.calm = true := by rfl) : OKC X (.builtin "min") (fun xs H Q => (∃ i j, xs = [V.int i, .int j] ∧ Q (.int (if j < i then j else i)) H) ∨ rMin X.K xs H Q) gMin := ⟨CallR.or (call_min2 hc) (cr_min hc), fun vs ds B H Q i r h => by
  unfold gMin at h
  split at h
  · cases r with
    | cons r1 r2 =>
      cases r2 with
      | cons r2 r3 => cases r1; cases r2; cases r3; exact .inl ⟨_, _, rfl, h _ B H (Grow.refl i) (.v _)⟩
  · refine .inr (rc_ints (r := rMin X.K) (fun a ns B H Q i hs hp => ?_) vs ds B H Q i r h)
    cases ns with
    | nil => exact hp.elim
    | cons n ns =>
      refine ⟨a, n :: ns, rfl, hs, by simp, fun m hm hl => ?_⟩
      obtain ⟨h1, h2⟩ := minI_spec ns n
      have e : m = minI n ns := Int.le_antisymm (hl _ h1) (h2 _ hm)
      rw [e]
      exact hp _ B H (Grow.refl i) (.v _), fun ds x => by
  unfold gMin
  split
  · simp
  · exact gInts_calm (fun ns x => by cases ns <;> simp) _ _⟩
theorem k_min (K : PySem.W.Frag) (hK : X.K = K) (hc : X.calm = true := by rfl) : OKC X (.builtin "min") (fun xs H Q => (∃ i j, xs = [V.int i, .int j] ∧ Q (.int (if j < i then j else i)) H) ∨ rMin K xs H Q) gMin := by
  subst hK
  exact (q_k_min hc)
theorem q_k_max (hc : X.calm = true := by rfl) : OKC X (.builtin "max") (fun xs H Q => (∃ i j, xs = [V.int i, .int j] ∧ Q (.int (if j > i then j else i)) H) ∨ rMax X.K xs H Q) gMax := ⟨CallR.or (call_max2 hc) (cr_max hc), fun vs ds B H Q i r h => by
  unfold gMax at h
  split at h
  · cases r with
    | cons r1 r2 =>
      cases r2 with
      | cons r2 r3 => cases r1; cases r2; cases r3; exact .inl ⟨_, _, rfl, h _ B H (Grow.refl i) (.v _)⟩
  · refine .inr (rc_ints (r := rMax X.K) (fun a ns B H Q i hs hp => ?_) vs ds B H Q i r h)
    cases ns with
    | nil => exact hp.elim
    | cons n ns =>
      refine ⟨a, n :: ns, rfl, hs, by simp, fun m hm hl => ?_⟩
      obtain ⟨h1, h2⟩ := maxI_spec ns n
      have e : m = maxI n ns := Int.le_antisymm (h2 _ hm) (hl _ h1)
      rw [e]
      exact hp _ B H (Grow.refl i) (.v _), fun ds x => by
  unfold gMax
  split
  · simp
  · exact gInts_calm (fun ns x => by cases ns <;> simp) _ _⟩
theorem k_max (K : PySem.W.Frag) (hK : X.K = K) (hc : X.calm = true := by rfl) : OKC X (.builtin "max") (fun xs H Q => (∃ i j, xs = [V.int i, .int j] ∧ Q (.int (if j > i then j else i)) H) ∨ rMax K xs H Q) gMax := by
  subst hK
  exact (q_k_max hc)
def sortI (ns : List Int) : List Int := ns.mergeSort (fun a b => decide (a ≤ b))
theorem sortI_perm (ns : List Int) : (sortI ns).Perm ns := List.mergeSort_perm ns _
theorem sortI_sorted (ns : List Int) : (sortI ns).Pairwise (· ≤ ·) := by
  have h := List.pairwise_mergeSort (le := fun (a b : Int) => decide (a ≤ b)) (fun a b c h1 h2 => by simp at *; omega) (fun a b => by simp; omega) ns
  exact h.imp fun h => by simpa using h
theorem sortI_unique {ns ms : List Int} (hp : ms.Perm ns) (hs : ms.Pairwise (· ≤ ·)) : ms = sortI ns :=
  List.Perm.eq_of_pairwise (fun _ _ _ _ a b => Int.le_antisymm a b) hs (sortI_sorted ns) (hp.trans (sortI_perm ns).symm)
def gSortedI : List D → Res D := gInts fun ns => .ok (.lst ((sortI ns).map D.int))
theorem q_k_sortedI : OKC X (.builtin "sorted") (rSortedI X.K) gSortedI := ⟨cr_sortedI, rc_ints fun a ns B H Q i hs hp => ⟨a, ns, rfl, hs, fun ns' p h1 h2 h3 => by
  rw [sortI_unique h1 h2]
  exact hp _ _ _ (Grow.new i h3) (.lst (SqL.of upd_same) (RpA.ints _))⟩, gInts_calm fun _ _ => by simp⟩
theorem k_sortedI (K : PySem.W.Frag) (hK : X.K = K) : OKC X (.builtin "sorted") (rSortedI K) gSortedI := by
  subst hK
  exact (q_k_sortedI )
def gTuple : List D → Res D
  | [.lst xs] => .ok (.tup xs)
  | [.tup xs] => .ok (.tup xs)
  | _ => .no
theorem q_k_tuple : OKC X (.type "tuple") (fun xs H Q => ∃ p ys, xs = [.ref p] ∧ ((SqL X.K H p ys ∧ ∀ l, H l = none → Q (.ref l) (upd H l (.tup ys))) ∨ (SqT X.K H p ys ∧ Q (.ref p) H))) gTuple := ⟨call_tuple_of, fun vs ds B H Q i r h => by
  unfold gTuple at h
  split at h
  · cases r with
    | cons r1 r2 =>
      cases r2
      cases r1 with
      | lst h1 q => exact ⟨_, _, rfl, .inl ⟨i.seq h1, fun p hp => h _ _ _ (Grow.new i hp) (.tup (SqT.of upd_same) (q.mono (Grow.new i hp).b))⟩⟩
  · cases r with
    | cons r1 r2 =>
      cases r2
      cases r1 with
      | tup h1 q => exact ⟨_, _, rfl, .inr ⟨sqT_mono i h1, h _ B H (Grow.refl i) (.tup h1 q)⟩⟩
  · exact h.elim, fun ds x => by unfold gTuple; split <;> simp⟩
theorem k_tuple (K : PySem.W.Frag) (hK : X.K = K) : OKC X (.type "tuple") (fun xs H Q => ∃ p ys, xs = [.ref p] ∧ ((SqL K H p ys ∧ ∀ l, H l = none → Q (.ref l) (upd H l (.tup ys))) ∨ (SqT K H p ys ∧ Q (.ref p) H))) gTuple := by
  subst hK
  exact (q_k_tuple )
def gList : List D → Res D
  | [.lst xs] => .ok (.lst xs)
  | [.tup xs] => .ok (.lst xs)
  | _ => .no
theorem q_k_list : OKC X (.type "list") (fun xs H Q => ∃ p ys, xs = [.ref p] ∧ (SqL X.K H p ys ∨ SqT X.K H p ys) ∧ ∀ l, H l = none → Q (.ref l) (upd H l (.lst ys))) gList := ⟨call_list_of, fun vs ds B H Q i r h => by
  unfold gList at h
  split at h
  · cases r with
    | cons r1 r2 =>
      cases r2
      cases r1 with
      | lst h1 q => exact ⟨_, _, rfl, .inl (i.seq h1), fun p hp => h _ _ _ (Grow.new i hp) (.lst (SqL.of upd_same) (q.mono (Grow.new i hp).b))⟩
  · cases r with
    | cons r1 r2 =>
      cases r2
      cases r1 with
      | tup h1 q => exact ⟨_, _, rfl, .inr (sqT_mono i h1), fun p hp => h _ _ _ (Grow.new i hp) (.lst (SqL.of upd_same) (q.mono (Grow.new i hp).b))⟩
  · exact h.elim, fun ds x => by unfold gList; split <;> simp⟩
theorem k_list (K : PySem.W.Frag) (hK : X.K = K) : OKC X (.type "list") (fun xs H Q => ∃ p ys, xs = [.ref p] ∧ (SqL K H p ys ∨ SqT K H p ys) ∧ ∀ l, H l = none → Q (.ref l) (upd H l (.lst ys))) gList := by
  subst hK
  exact (q_k_list )
/-- isinstance(d, T), T a built-in type -/
def tyD : D → Option String
  | .v .non => some "NoneType"
  | .v (.bl _) => some "bool"
  | .v (.int _) => some "int"
  | .v (.str _) => some "str"
  | .lst _ => some "list"
  | .tup _ => some "tuple"
  | _ => none
end
end DV
namespace DV
open PySem L2
section
variable {X : Cx} {W : WX} {K : PySem.W.Frag}

/-! ### isinstance -/
def isiD (d : D) (T : String) : Option Bool := match tyD d with
  | some t => if T = "int" then some (t == "int" || t == "bool") else if T = "bool" then some (t == "bool") else if T = "str" then some (t == "str") else if T = "list" then some (t == "list") else if T = "tuple" then some (t == "tuple") else none
  | none => none
def tys : List String := ["NoneType", "bool", "int", "str", "list", "tuple"]
theorem kit_all : (tys.all fun t => kitB t "int" == some (t == "int" || t == "bool") && kitB t "bool" == some (t == "bool") && kitB t "str" == some (t == "str") && kitB t "list" == some (t == "list") && kitB t "tuple" == some (t == "tuple")) = true := by decide +kernel
theorem tyD_mem {d : D} {t : String} (h : tyD d = some t) : t ∈ tys := by
  unfold tyD at h
  split at h <;> first | (cases h; decide) | cases h
theorem kit_isi {d : D} {T t : String} {b : Bool} (ht : tyD d = some t) (h : isiD d T = some b) : kitB t T = some b := by
  have hm := List.all_eq_true.mp kit_all t (tyD_mem ht)
  simp only [Bool.and_eq_true, beq_iff_eq] at hm
  unfold isiD at h
  rw [ht] at h
  dsimp only at h
  obtain ⟨⟨⟨⟨h1, h2⟩, h3⟩, h4⟩, h5⟩ := hm
  split at h
  · rename_i e; rw [e, h1]; exact h
  · split at h
    · rename_i e; rw [e, h2]; exact h
    · split at h
      · rename_i e; rw [e, h3]; exact h
      · split at h
        · rename_i e; rw [e, h4]; exact h
        · split at h
          · rename_i e; rw [e, h5]; exact h
          · cases h
theorem tyX_of {B H : Hp} {x : V} {d : D} {t : String} (i : Same B H) (r : Rp K B x d) (ht : tyD d = some t) : TyX K H x (.type t) := by
  cases r with
  | v x =>
    unfold tyD at ht
    cases x <;> first | (cases ht; exact .base .non) | (cases ht; exact .base (.bl _)) | (cases ht; exact .base (.int _)) | (cases ht; exact .base (.str _)) | cases ht
  | lst h q =>
    cases ht
    rcases h with (h | ⟨o, h⟩) | ⟨o, its, n, h1, h2, _⟩
    · exact .base (.lst (i _ _ h))
    · exact .base (.frz (i _ _ h))
    · exact .kList h1 h2
  | tup h q =>
    cases ht
    rcases h with (h | ⟨o, h⟩) | ⟨o, its, n, h1, h2, _⟩
    · exact .base (.tup (i _ _ h))
    · exact .fTuple (i _ _ h)
    · exact .kTuple h1 h2
  | dct h q => cases ht
  | dlk h q => cases ht
  | dcT h q => cases ht
  | dlT h q => cases ht
  | ins h _ _ q => cases ht
def gIsi : List D → Res D
  | [d, .v (.ty T)] => match isiD d T with
    | some b => .ok (.bl b)
    | none => .no
  | _ => .no
theorem q_k_isi : OKC X (.builtin "isinstance") (rIsi X.K) gIsi := ⟨call_isi, fun vs ds B H Q i r h => by
  unfold gIsi at h
  split at h
  · split at h
    · rename_i d T _ b e
      cases r with
      | cons r1 r2 =>
        cases r2 with
        | cons r2 r3 =>
          cases r2
          cases r3
          cases ht : tyD d with
          | none => unfold isiD at e; rw [ht] at e; cases e
          | some t => exact ⟨_, _, _, _, b, rfl, .ty T, tyX_of i r1 ht, kit_ty (kit_isi ht e), h _ B H (Grow.refl i) (.v _)⟩
    · exact h.elim
  · exact h.elim, fun ds x => by unfold gIsi; split <;> (try split) <;> simp⟩

theorem k_isi (K : PySem.W.Frag) (hK : X.K = K) : OKC X (.builtin "isinstance") (rIsi K) gIsi := by
  subst hK
  exact (q_k_isi )
/-! ### targets -/
def wipeD (δ : DS) : List Nat → DS
  | [] => δ
  | v :: vs => (wipeD δ vs).set v none
theorem Rel.wipe {B0 H0 B H : Hp} {σ : L2.St} {δ : DS} (r : Rel K B0 H0 B H σ δ) : ∀ vs : List Nat, Rel K B0 H0 B H (wipe σ vs) (wipeD δ vs)
  | [] => r
  | v :: vs => (Rel.wipe r vs).drop v
theorem wipe_get (σ : L2.St) (j : Nat) : ∀ vs : List Nat, (wipe σ vs)[j]? = if j ∈ vs ∧ j < σ.length then some none else σ[j]?
  | [] => by simp [wipe]
  | v :: vs => by
    unfold wipe
    by_cases hv : v = j
    · subst hv
      by_cases hl : v < σ.length
      · rw [List.getElem?_set_self (by rw [wipe_length]; exact hl), if_pos ⟨by simp, hl⟩]
      · rw [if_neg (fun z => hl z.2), List.getElem?_eq_none (by simp [wipe_length]; omega), List.getElem?_eq_none (by omega)]
    · rw [List.getElem?_set_ne hv, wipe_get σ j vs]
      have hv' : ¬ j = v := fun e => hv e.symm
      simp only [List.mem_cons, hv', false_or]
theorem wipe_eq {σ σ' : L2.St} {vs : List Nat} (hl : σ'.length = σ.length) (h : ∀ j, j ∉ vs → σ'[j]? = σ[j]?) : wipe σ' vs = wipe σ vs := by
  apply List.ext_getElem?
  intro j
  rw [wipe_get, wipe_get, hl]
  by_cases hj : j ∈ vs
  · by_cases h2 : j < σ.length
    · rw [if_pos ⟨hj, h2⟩, if_pos ⟨hj, h2⟩]
    · rw [if_neg (fun z => h2 z.2), if_neg (fun z => h2 z.2), List.getElem?_eq_none (by omega), List.getElem?_eq_none (by omega)]
  · rw [if_neg (fun z => hj z.1), if_neg (fun z => hj z.1)]
    exact h j hj
/-- a target: the slots that it sets, what it makes of the state -/
structure CG (X : Cx) (tg : Expr) (g : TG) (is : List Nat) (b : D → DS → Option DS) : Prop where
  pg : PG X tg g
  sg : ∀ B0 H0 B H σ δ v d (Q : L2.St → Hp → Prop), Rel X.K B0 H0 B H σ δ → Rp X.K B v d → (∀ δ' σ', b d δ = some δ' → Rel X.K B0 H0 B H σ' δ' → σ'.length = σ.length → (∀ j, j ∉ is → σ'[j]? = σ[j]?) → Q σ' H) → b d δ ≠ none → g v σ H Q
structure CGs (X : Cx) (tgs : List Expr) (g : TGs) (is : List Nat) (b : List D → DS → Option DS) : Prop where
  pg : PGs X tgs g
  sg : ∀ B0 H0 B H σ δ vs ds (Q : L2.St → Hp → Prop), Rel X.K B0 H0 B H σ δ → RpA X.K B vs ds → (∀ δ' σ', b ds δ = some δ' → Rel X.K B0 H0 B H σ' δ' → σ'.length = σ.length → (∀ j, j ∉ is → σ'[j]? = σ[j]?) → Q σ' H) → b ds δ ≠ none → g vs σ H Q
def bName (i : Nat) : D → DS → Option DS := fun d δ => some (δ.set i (some (.im d)))
theorem cg_name (i : Nat) {x : Str} {pos : Pos} (hN : X.N.Nodup) (hi : X.N[i]? = some x := by rfl) (hx : Loc X.env.scope x := by first | exact Or.inl rfl | exact Or.inr rfl) (hf : X.fn x = true ∨ X.env.scope.names.lookup x = some .local := by first | exact .inl rfl | exact .inr rfl | assumption) : CG X (.Name x pos) (gName i) [i] (bName i) :=
  ⟨pg_name hN hi hx hf, fun B0 H0 B H σ δ v d Q rel rp h _ => h _ _ rfl (rel.set i rp) (by simp) fun j hj => by
    rw [List.getElem?_set_ne]
    intro e
    exact hj (by simp [e])⟩
def bNil : List D → DS → Option DS := fun ds δ => match ds with
  | [] => some δ
  | _ => none
def bCons (b : D → DS → Option DS) (c : List D → DS → Option DS) : List D → DS → Option DS := fun ds δ => match ds with
  | [] => none
  | d :: ds => (b d δ).bind fun δ' => c ds δ'
def bTup (n : Nat) (c : List D → DS → Option DS) : D → DS → Option DS := fun d δ => match d with
  | .tup ds => if ds.length = n then c ds δ else none
  | _ => none
theorem cgs_nil : CGs X [] gNil [] bNil := ⟨pgs_nil, fun B0 H0 B H σ δ vs ds Q rel rp h hn => by
  cases rp with
  | nil => exact ⟨rfl, h δ σ rfl rel rfl fun _ _ => rfl⟩
  | cons _ _ => exact absurd rfl hn⟩
theorem cgs_cons {e : Expr} {es : List Expr} {t : TG} {u : TGs} {is js : List Nat} {b : D → DS → Option DS} {c : List D → DS → Option DS} (h1 : CG X e t is b) (h2 : CGs X es u js c) (hs : (assignEach (e :: es) X.env).map (·.2) = assign e X.env :: (assignEach es X.env).map (·.2)) : CGs X (e :: es) (gCons t u) (is ++ js) (bCons b c) :=
  ⟨pgs_cons h1.pg h2.pg hs, fun B0 H0 B H σ δ vs ds Q rel rp h hn => by
    cases rp with
    | nil => exact absurd rfl hn
    | @cons v vs d ds r1 r2 =>
      refine ⟨v, vs, rfl, ?_⟩
      have e0 : bCons b c (d :: ds) δ = (b d δ).bind fun δ' => c ds δ' := rfl
      rw [e0] at hn
      refine h1.sg B0 H0 B H σ δ v d _ rel r1 (fun δ1 σ1 e1 rel1 l1 f1 => ?_) (fun z => hn (by rw [z]; rfl))
      rw [e1] at hn
      refine h2.sg B0 H0 B H σ1 δ1 vs ds _ rel1 r2 (fun δ2 σ2 e2 rel2 l2 f2 => ?_) hn
      refine h δ2 σ2 (by rw [e0, e1]; exact e2) rel2 (l2.trans l1) fun j hj => ?_
      rw [List.mem_append, not_or] at hj
      exact (f2 j hj.2).trans (f1 j hj.1)⟩
theorem q_cg_tup {es : List Expr} {kk : Nat} {pos : Pos} {t : TGs} {n : Nat} {is : List Nat} {c : List D → DS → Option DS} (hc : X.calm = true) (h : CGs X es t is c) (hn : (assignEach es X.env).length = n) (hst : (assignEach es X.env).findIdx? (·.1) = none) : CG X (.Tuple es kk pos) (gTup X.K n t) is (bTup n c) :=
  ⟨pg_tup hc h.pg hn hst, fun B0 H0 B H σ δ v d Q rel rp hq hn => by
    unfold bTup at hn
    split at hn
    · rename_i ds
      split at hn
      · rename_i hl
        cases rp with
        | tup h1 q =>
          refine ⟨_, _, rfl, sqT_mono rel.g.i h1, by rw [q.length]; exact hl, ?_⟩
          refine h.sg B0 H0 B H σ δ _ ds _ rel q (fun δ' σ' e r l f => hq δ' σ' ?_ r l f) hn
          unfold bTup
          dsimp only
          rw [if_pos hl]
          exact e
      · exact absurd rfl hn
    · exact absurd rfl hn⟩

theorem cg_tup (K : PySem.W.Frag) (hK : X.K = K) {es : List Expr} {kk : Nat} {pos : Pos} {t : TGs} {n : Nat} {is : List Nat} {c : List D → DS → Option DS} (hc : X.calm = true) (h : CGs X es t is c) (hn : (assignEach es X.env).length = n) (hst : (assignEach es X.env).findIdx? (·.1) = none) : CG X (.Tuple es kk pos) (gTup K n t) is (bTup n c) := by
  subst hK
  exact (q_cg_tup hc h hn hst)
/-! ### what is walked -/
def PostI (K : PySem.W.Frag) (B H : Hp) (σ : L2.St) (W : WX) (R : It → Hp → Prop) : Res (List D) → Prop
  | .ok ds => ∀ J B' H' G Y, Grow B H B' H' → Walk J ds.length G Y → (∀ H2, Same B' H2 → G H2) →
      (∀ i d B2 H2 x H3, ds[i]? = some d → Same B' B2 → Same B2 H2 → Y i H2 x H3 → ∃ B3, Grow B2 H2 B3 H3 ∧ Rp K B3 x d) → R J H'
  | .er x => ∀ c dx B' H', Grow B H B' H' → RpX K B' c dx x → W c dx σ H'
  | .no => False
structure CI (X : Cx) (W : WX) (tg iter : Expr) (wi : TI) (f : DS → Res (List D)) : Prop where
  pi : PI X tg iter wi
  si : ∀ B0 H0 δ σ B H (R : It → Hp → Prop), Rel X.K B0 H0 B H σ δ → PostI X.K B H σ W R (f δ) → wi σ H R
theorem pi_or {tg iter : Expr} {wi wi' : TI} (h : PI X tg iter wi) (h' : PI X tg iter wi') : PI X tg iter (fun σ H R => wi σ H R ∨ wi' σ H R) :=
  ⟨fun pins s σ H R I q => q.elim (h.run pins s σ H R I) (h'.run pins s σ H R I)⟩
def charsD (z : Str) : List D := z.cps.toList.map fun c => D.str ⟨#[c]⟩
def itemsD : D → Res (List D)
  | .lst xs => .ok xs
  | .tup xs => .ok xs
  | .v (.str z) => .ok (charsD z)
  | _ => .no
def cItems (f : DS → Res D) : DS → Res (List D) := fun δ => (f δ).bind itemsD
theorem q_ci_seq {tg e : Expr} {t : TE} {f : DS → Res D} (h : CE X W e t f) : CI X W tg e (fun σ H R => iList X.K t σ H R ∨ (iTup X.K t σ H R ∨ iStr t σ H R)) (cItems f) :=
  ⟨pi_or (pi_list h.pe) (pi_or (pi_tup h.pe) (pi_str h.pe)), fun B0 H0 δ σ B H R rel hp => by
    unfold cItems at hp
    cases e : f δ with
    | no => rw [e] at hp; exact hp.elim
    | er x =>
      rw [e] at hp
      exact .inl (h.se B0 H0 δ σ B H _ rel (by rw [e]; exact hp))
    | ok d =>
      rw [e, Res.bind_ok] at hp
      unfold itemsD at hp
      split at hp
      · refine .inl (h.se B0 H0 δ σ B H _ rel ?_)
        rw [e]
        intro v B1 H1 g1 r1
        cases r1 with
        | @lst a xs ds h1 q =>
          refine ⟨a, rfl, ⟨xs, g1.i.seq h1⟩, ?_⟩
          refine hp _ B1 H1 _ _ g1 (q.length ▸ walk_list) (fun H2 s2 => s2.seq h1) fun i d B2 H2 x H3 hi s1 s2 y => ?_
          obtain ⟨rfl, hx⟩ := y
          obtain ⟨d', hd, rp⟩ := q.get' hx
          rw [hd] at hi
          cases hi
          exact ⟨B2, Grow.refl s2, rp.mono s1⟩
      · refine .inr (.inl (h.se B0 H0 δ σ B H _ rel ?_))
        rw [e]
        intro v B1 H1 g1 r1
        cases r1 with
        | @tup a xs ds h1 q =>
          refine ⟨a, rfl, ⟨xs, sqT_mono g1.i h1⟩, ?_⟩
          refine hp _ B1 H1 _ _ g1 (q.length ▸ walk_tup) (fun H2 s2 => sqT_mono s2 h1) fun i d B2 H2 x H3 hi s1 s2 y => ?_
          obtain ⟨rfl, hx⟩ := y
          obtain ⟨d', hd, rp⟩ := q.get' hx
          rw [hd] at hi
          cases hi
          exact ⟨B2, Grow.refl s2, rp.mono s1⟩
      · rename_i z
        refine .inr (.inr (h.se B0 H0 δ σ B H _ rel ?_))
        rw [e]
        intro v B1 H1 g1 r1
        cases r1
        refine ⟨z, rfl, ?_⟩
        have hl : (charsD z).length = z.cps.size := by simp [charsD]
        refine hp _ B1 H1 _ _ g1 (by rw [hl]; exact walk_str) (fun _ _ => trivial) fun i d B2 H2 x H3 hi s1 s2 y => ?_
        obtain ⟨rfl, c, hc, rfl⟩ := y
        refine ⟨B2, Grow.refl s2, ?_⟩
        have : (charsD z)[i]? = some (D.str ⟨#[c]⟩) := by
          unfold charsD
          rw [List.getElem?_map, Array.getElem?_toList, hc]
          rfl
        rw [this] at hi
        cases hi
        exact .v _
      · exact hp.elim⟩
theorem ci_seq (K : PySem.W.Frag) (hK : X.K = K) {tg e : Expr} {t : TE} {f : DS → Res D} (h : CE X W e t f) : CI X W tg e (fun σ H R => iList K t σ H R ∨ (iTup K t σ H R ∨ iStr t σ H R)) (cItems f) := by
  subst hK
  exact (q_ci_seq h)
def rangeD (lo : Int) (n : Nat) : List D := (List.range n).map fun (i : Nat) => D.int (lo + (i : Int))
def gRange1 : List D → Res (List D)
  | [.v (.int j)] => if j.natAbs ≤ 1000000000 then .ok (rangeD 0 j.toNat) else .no
  | _ => .no
def gRange2 : List D → Res (List D)
  | [.v (.int i), .v (.int j)] => if i.natAbs ≤ 1000000000 ∧ j.natAbs ≤ 1000000000 then .ok (rangeD i (j - i).toNat) else .no
  | _ => .no
def cIt (g : List D → Res (List D)) (f : DS → Res (List D)) : DS → Res (List D) := fun δ => (f δ).bind g
theorem postI_range {B H : Hp} {σ : L2.St} {R : It → Hp → Prop} {lo : Int} {n : Nat} {B1 H1 : Hp} (g1 : Grow B H B1 H1) (hp : PostI K B H σ W R (.ok (rangeD lo n))) : R (Itr lo n) H1 := by
  have hl : (rangeD lo n).length = n := by simp [rangeD]
  refine hp _ B1 H1 _ _ g1 (by rw [hl]; exact walk_range) (fun _ _ => trivial) fun i d B2 H2 x H3 hi s1 s2 y => ?_
  obtain ⟨rfl, rfl⟩ := y
  refine ⟨B2, Grow.refl s2, ?_⟩
  unfold rangeD at hi
  rw [List.getElem?_map] at hi
  cases e : (List.range n)[i]? with
  | none => rw [e] at hi; cases hi
  | some j =>
    rw [e] at hi
    have : j = i := by
      have := List.getElem?_eq_some_iff.mp e
      obtain ⟨h1, h2⟩ := this
      simp at h2
      exact h2.symm
    subst this
    cases hi
    exact .v _
theorem ci_range1 {tg a : Expr} {p pos : Pos} {t : TA} {f : DS → Res (List D)} (hm : X.mg "range" = none) (ha : CL X W [a] t f) (hg : Gl X "range" := by rfl) (hs : starEach [a] X.env = [(false, eval a X.env)] := by rfl) : CI X W tg (.Call (.Name "range" p) [a] [] pos) (iRng1 t) (cIt gRange1 f) :=
  ⟨pi_range1 hg hm ha.pa hs, fun B0 H0 δ σ B H R rel hp => by
    unfold cIt at hp
    refine ha.sa B0 H0 δ σ B H _ rel ?_
    cases e : f δ with
    | no => rw [e] at hp; exact hp
    | er x => rw [e] at hp; exact hp
    | ok ds =>
      rw [e, Res.bind_ok] at hp
      intro vs B1 H1 g1 r1
      unfold gRange1 at hp
      split at hp
      · split at hp
        · rename_i hz
          cases r1 with
          | cons r1 r2 => cases r1; cases r2; exact ⟨_, rfl, by omega, by omega, postI_range g1 hp⟩
        · exact hp.elim
      · exact hp.elim⟩
theorem ci_range2 {tg a b : Expr} {p pos : Pos} {t : TA} {f : DS → Res (List D)} (hm : X.mg "range" = none) (ha : CL X W [a, b] t f) (hg : Gl X "range" := by rfl) (hs : starEach [a, b] X.env = [(false, eval a X.env), (false, eval b X.env)] := by rfl) (hs2 : starEach [b] X.env = [(false, eval b X.env)] := by rfl) : CI X W tg (.Call (.Name "range" p) [a, b] [] pos) (iRng2 t) (cIt gRange2 f) :=
  ⟨pi_range2 hg hm ha.pa hs hs2, fun B0 H0 δ σ B H R rel hp => by
    unfold cIt at hp
    refine ha.sa B0 H0 δ σ B H _ rel ?_
    cases e : f δ with
    | no => rw [e] at hp; exact hp
    | er x => rw [e] at hp; exact hp
    | ok ds =>
      rw [e, Res.bind_ok] at hp
      intro vs B1 H1 g1 r1
      unfold gRange2 at hp
      split at hp
      · split at hp
        · rename_i hz
          cases r1 with
          | cons r1 r2 =>
            cases r2 with
            | cons r2 r3 => cases r1; cases r2; cases r3; exact ⟨_, _, rfl, by omega, postI_range g1 hp⟩
        · exact hp.elim
      · exact hp.elim⟩

/-! ### list comprehensions -/
abbrev W0 : WX := fun _ _ _ _ => False
def Res.calm {α : Type} : Res α → Res α
  | .ok a => .ok a
  | _ => .no
@[simp] theorem Res.calm_ok {α : Type} (a : α) : (Res.ok a).calm = .ok a := rfl
@[simp] theorem Res.calm_er {α : Type} (x : Exn) : (Res.er x : Res α).calm = .no := rfl
@[simp] theorem Res.calm_no {α : Type} : (Res.no : Res α).calm = .no := rfl
def lcF (b : D → DS → Option DS) (t : DS → Res Bool) (e : DS → Res D) : List D → DS → Res (List D)
  | [], _ => .ok []
  | d :: ds, δ => match b d δ with
    | none => .no
    | some δ' => (t δ').calm.bind fun k => if k = true then (e δ').calm.bind fun y => (lcF b t e ds δ).bind fun ys => .ok (y :: ys) else lcF b t e ds δ
theorem lcF_calm (b : D → DS → Option DS) (t : DS → Res Bool) (e : DS → Res D) : ∀ (ds : List D) (δ : DS) (x : Exn), lcF b t e ds δ ≠ .er x
  | [], δ, x => by simp [lcF]
  | d :: ds, δ, x => by
    unfold lcF
    split
    · simp
    · rename_i δ' _
      have ih := lcF_calm b t e ds δ x
      cases h1 : t δ' with
      | no => simp
      | er x => simp
      | ok k =>
        simp only [Res.calm_ok, Res.bind_ok]
        split
        · cases h2 : e δ' with
          | no => simp
          | er x => simp
          | ok y =>
            simp only [Res.calm_ok, Res.bind_ok]
            cases h3 : lcF b t e ds δ with
            | no => simp
            | er x' => simp only [Res.bind_er]; rw [h3] at ih; exact ih
            | ok ys => simp
        · exact ih
def cLc (vs : List Nat) (fi : DS → Res (List D)) (b : D → DS → Option DS) (t : DS → Res Bool) (e : DS → Res D) : DS → Res (List D) := fun δ => (fi δ).bind fun ds => if ds.length ≤ sizeLine then lcF b t e ds (wipeD δ vs) else .no
structure CTs (X : Cx) (W : WX) (ifs : List Expr) (t : TT) (f : DS → Res Bool) : Prop where
  pt : PTs X ifs t
  st : ST X.K W t f
def cYes : DS → Res Bool := fun _ => .ok true
theorem cts_nil : CTs X W [] tYes cYes := ⟨pts_nil, fun B0 H0 δ σ B H Q rel hp => hp B H (Grow.refl rel.g.i)⟩
theorem cts_one {c : Expr} {t : TT} {f : DS → Res Bool} (h : CT X W c t f) : CTs X W [c] t f := ⟨pts_one h.pt, h.st⟩
/-- the turns of a comprehension -/
theorem sf_lc {wi : TI} {g : TG} {tt : TT} {te : TE} {vs is : List Nat} {fi : DS → Res (List D)} {b : D → DS → Option DS} {t : DS → Res Bool} {e : DS → Res D}
    (hi : ∀ B0 H0 δ σ B H (R : It → Hp → Prop), Rel K B0 H0 B H σ δ → PostI K B H σ W R (fi δ) → wi σ H R)
    (hg : ∀ B0 H0 B H σ δ v d (Q : L2.St → Hp → Prop), Rel K B0 H0 B H σ δ → Rp K B v d → (∀ δ' σ', b d δ = some δ' → Rel K B0 H0 B H σ' δ' → σ'.length = σ.length → (∀ j, j ∉ is → σ'[j]? = σ[j]?) → Q σ' H) → b d δ ≠ none → g v σ H Q)
    (ht : ST K W0 tt t) (he : SE K W0 te e) (his : ∀ i ∈ is, i ∈ vs) : SF K W (tLc wi g tt te vs) (cLc vs fi b t e) := fun B0 H0 δ σ B H Q rel hp => by
  unfold cLc at hp
  refine hi B0 H0 δ σ B H _ rel ?_
  cases e1 : fi δ with
  | no => rw [e1] at hp; exact hp
  | er x => rw [e1] at hp; exact hp
  | ok ds =>
    rw [e1, Res.bind_ok] at hp
    split at hp
    case isFalse => exact hp.elim
    case isTrue hz =>
      intro J B1 H1 G Y g1 wk hG hY Dl hD
      cases e2 : lcF b t e ds (wipeD δ vs) with
      | no => rw [e2] at hp; exact hp.elim
      | er x => exact absurd e2 (lcF_calm b t e ds _ x)
      | ok ys =>
        rw [e2] at hp
        have relw := (rel.mono g1).wipe vs
        refine lc_it wk (fun i H' => ∃ B' us done rest, Grow B1 H1 B' H' ∧ B' Dl = none ∧ H' Dl = some (.lst us) ∧ RpA K B' us done ∧ us.length ≤ i ∧ lcF b t e (ds.drop i) (wipeD δ vs) = .ok rest ∧ done ++ rest = ys) ?_ ?_ ?_ ?_
        · exact ⟨B1, [], [], ys, Grow.raw g1.i hD, g1.i.free hD, upd_same, .nil, Nat.zero_le _, by simpa using e2, rfl⟩
        · rintro i H' hin ⟨B', us, done, rest, gr, hb, hh, rp, hl, hr, hy⟩
          exact hG H' (gr.b.trans gr.i)
        · rintro i x H2 H3 hin ⟨B', us, done, rest, gr, hb, hh, rp, hl, hr, hy⟩ y
          have hlt : i < ds.length := hin
          have hdi : ds[i]? = some ds[i] := by simp [hlt]
          obtain ⟨B3, g3, rx⟩ := hY i ds[i] B' H2 x H3 hdi gr.b gr.i y
          have hdrop : ds.drop i = ds[i] :: ds.drop (i + 1) := List.drop_eq_getElem_cons hlt
          rw [hdrop] at hr
          unfold lcF at hr
          cases e3 : b ds[i] (wipeD δ vs) with
          | none => rw [e3] at hr; cases hr
          | some δ' =>
            rw [e3] at hr
            dsimp only at hr
            have rel3 : Rel K B0 H0 B3 H3 (wipe σ vs) (wipeD δ vs) := (relw.mono gr).mono g3
            refine hg B0 H0 B3 H3 _ _ x ds[i] _ rel3 rx (fun δ2 σ2 e4 rel4 l4 f4 => ?_) (by rw [e3]; simp)
            rw [e3] at e4
            cases e4
            refine ⟨?_, ?_⟩
            · refine (wipe_eq (σ := wipe σ vs) l4 fun j hj => f4 j fun z => hj (his j z)).trans (wipe_eq (wipe_length σ vs) fun j hj => ?_)
              rw [wipe_get, if_neg (fun z => hj z.1)]
            refine ht B0 H0 δ' σ2 B3 H3 _ rel4 ?_
            cases e5 : t δ' with
            | no => rw [e5] at hr; simp at hr
            | er x => rw [e5] at hr; simp at hr
            | ok k =>
              rw [e5, Res.calm_ok, Res.bind_ok] at hr
              intro B4 H4 g4
              cases k with
              | false =>
                rw [if_neg Bool.false_ne_true] at hr ⊢
                have gg := (gr.trans g3).trans g4
                have hD4 : H4 Dl = some (.lst us) := (g3.trans g4).h _ _ hh (fun _ z => by cases z)
                refine ⟨B4, us, done, rest, gg, ?_, hD4, rp.mono (g3.b.trans g4.b), by omega, hr, hy⟩
                rw [(g3.trans g4).f Dl (by rw [hh]; simp)]; exact hb
              | true =>
                rw [if_pos rfl] at hr ⊢
                refine he B0 H0 δ' σ2 B4 H4 _ (rel4.mono g4) ?_
                cases e6 : e δ' with
                | no => rw [e6] at hr; simp at hr
                | er x => rw [e6] at hr; simp at hr
                | ok yd =>
                  rw [e6, Res.calm_ok, Res.bind_ok] at hr
                  intro yv B5 H5 g5 r5
                  have gA := (g3.trans g4).trans g5
                  have hD5 : H5 Dl = some (.lst us) := gA.h _ _ hh (fun _ z => by cases z)
                  have hB5 : B5 Dl = none := by rw [gA.f Dl (by rw [hh]; simp)]; exact hb
                  refine ⟨us, hD5, by omega, ?_⟩
                  cases e7 : lcF b t e (ds.drop (i + 1)) (wipeD δ vs) with
                  | no => rw [e7] at hr; cases hr
                  | er x => exact absurd e7 (lcF_calm b t e _ _ x)
                  | ok rest' =>
                    rw [e7, Res.bind_ok] at hr
                    cases hr
                    have gT := gr.trans gA
                    have neD : ∀ a o, B5 a = some o → a ≠ Dl := fun a o q z => by rw [z, hB5] at q; cases q
                    refine ⟨B5, us ++ [yv], done ++ [yd], rest', ⟨gT.b, fun a o q nq => ?_, fun a o q => ?_, gT.f, fun a ha => ?_, fun P hP => tab_upd (gT.t P hP) hD5, gT.n⟩, hB5, upd_same, (rp.mono gA.b).append (.cons r5 .nil), by simp; omega, rfl, by simpa using hy⟩
                    · rw [upd_ne (ne_of_none q hD)]; exact gT.h a o q nq
                    · rw [upd_ne (neD a o q)]; exact gT.i a o q
                    · have : a ≠ Dl := fun z => ha (by rw [z]; exact hD)
                      rw [upd_ne this]; exact gT.e a ha
        · rintro H' ⟨B', us, done, rest, gr, hb, hh, rp, hl, hr, hy⟩
          rw [List.drop_length] at hr
          cases hr
          rw [List.append_nil] at hy
          subst hy
          exact hp Dl us B' H' (g1.trans gr) (g1.free hD) hb hh rp
/-- a comprehension: a new list, as an expression or given to a name -/
structure LC (X : Cx) (W : WX) (e : Expr) (t : TE) (f : DS → Res (List D)) : Prop extends CF X W e t f where
  set_ : ∀ (i : Nat) (y : Str) (py spos : Pos), X.N[i]? = some y → X.env.scope.names.lookup y = some .local → swapsWith e (some (.Name y py)) spos.line X.env = pure true → PS X (.Assign [.Name y py] e spos) (tAsg t (gName i))
theorem lc_1 {elt tg iter : Expr} {ifs : List Expr} {scope : Scope} {own : List (Str × Nat)} {pos : Pos} {wi : TI} {g : TG} {tt : TT} {te : TE} {is : List Nat} {fi : DS → Res (List D)} {b : D → DS → Option DS} {t : DS → Res Bool} {e : DS → Res D}
    (s0 : Shared) (hc : X.calm = true) (hN : X.N.Nodup) (hi : CI X W tg iter wi fi) (ok : BlkOk X.N X.env.scope scope own)
    (hg : ∀ (s : Shared) (H : Hp) (C : Addr) (cl : List (Str × Addr)) (fp : List Addr), CG (X.blk s H scope (compEnvC scope cl C X.env) fp) tg g is b)
    (ht : ∀ (s : Shared) (H : Hp) (C : Addr) (cl : List (Str × Addr)) (fp : List Addr), CTs (X.blk s H scope (compEnvC scope cl C X.env) fp) W0 ifs tt t)
    (he : ∀ (s : Shared) (H : Hp) (C : Addr) (cl : List (Str × Addr)) (fp : List Addr), CE (X.blk s H scope (compEnvC scope cl C X.env) fp) W0 elt te e)
    (his : ∀ i ∈ is, i ∈ own.map (·.2) := by decide) (hs : ∀ x, foldedSetIterable iter X.env x = pure x := by intro _; rfl) :
    LC X W (.ListComp elt [⟨tg, iter, ifs, 0⟩] scope pos) (tLc wi g tt te (own.map (·.2))) (cLc (own.map (·.2)) fi b t e) :=
  ⟨⟨pe_lc hc hN hi.pi ok (fun s H C cl fp => (hg s H C cl fp).pg) (fun s H C cl fp => (ht s H C cl fp).pt) (fun s H C cl fp => (he s H C cl fp).pe) hs,
    sf_lc hi.si (hg s0 (fun _ => none) 0 [] []).sg (ht s0 (fun _ => none) 0 [] []).st (he s0 (fun _ => none) 0 [] []).se his⟩,
   fun i y py spos hy hyl hsw => ps_setLc hc hN hy hyl hsw hi.pi ok (fun s H C cl fp => (hg s H C cl fp).pg) (fun s H C cl fp => (ht s H C cl fp).pt) (fun s H C cl fp => (he s H C cl fp).pe) hs⟩
end
end DV
namespace DV
open PySem L2

def stE {α : Type} (r : Res α) (δ : DS) (k : α → Fl) : Fl := match r with
  | .ok a => k a
  | .er x => .rs x δ
  | .no => .no
@[simp] theorem stE_ok {α : Type} (a : α) (δ : DS) (k : α → Fl) : stE (.ok a) δ k = k a := rfl
@[simp] theorem stE_er {α : Type} (x : Exn) (δ : DS) (k : α → Fl) : stE (.er x : Res α) δ k = .rs x δ := rfl
@[simp] theorem stE_no {α : Type} (δ : DS) (k : α → Fl) : stE (.no : Res α) δ k = .no := rfl
def Fl.then : Fl → (DS → Fl) → Fl
  | .nx δ, g => g δ
  | r, _ => r
@[simp] theorem Fl.then_nx (δ : DS) (g : DS → Fl) : (Fl.nx δ).then g = g δ := rfl
@[simp] theorem Fl.then_rt (d : D) (g : DS → Fl) : (Fl.rt d).then g = .rt d := rfl
@[simp] theorem Fl.then_rf (ds : List D) (g : DS → Fl) : (Fl.rf ds).then g = .rf ds := rfl
@[simp] theorem Fl.then_rs (x : Exn) (δ : DS) (g : DS → Fl) : (Fl.rs x δ).then g = .rs x δ := rfl
@[simp] theorem Fl.then_bk (δ : DS) (g : DS → Fl) : (Fl.bk δ).then g = .bk δ := rfl
@[simp] theorem Fl.then_ct (δ : DS) (g : DS → Fl) : (Fl.ct δ).then g = .ct δ := rfl
@[simp] theorem Fl.then_no (g : DS → Fl) : (Fl.no).then g = .no := rfl

section
variable {X : Cx} {W : WX} {K : PySem.W.Frag} {B0 H0 B H : Hp} {σ : L2.St} {δ : DS} {E : Ends}
theorem postS_mono {B' : Hp} {r : Fl} (s : Same B B') (h : PostS K B0 H0 B W E r) : PostS K B0 H0 B' W E r := by
  cases r with
  | nx δ => exact fun σ B2 H2 s2 rel => h σ B2 H2 (s.trans s2) rel
  | bk δ => exact fun σ B2 H2 s2 rel => h σ B2 H2 (s.trans s2) rel
  | ct δ => exact fun σ B2 H2 s2 rel => h σ B2 H2 (s.trans s2) rel
  | rt d => exact fun v B2 H2 s2 g rp => h v B2 H2 (s.trans s2) g rp
  | rf ds => exact fun p xs B2 H2 s2 g h0 hb hh rr => h p xs B2 H2 (s.trans s2) g h0 hb hh rr
  | rs x δ => exact fun c dx σ B2 H2 s2 rel rp => h c dx σ B2 H2 (s.trans s2) rel rp
  | no => exact h
/-- an expression within a statement -/
theorem postE_of {f : Res D} {Q : VK} {k : D → Fl} (rel : Rel K B0 H0 B H σ δ) (h : PostS K B0 H0 B W E (stE f δ k)) (hk : ∀ d v B' H', f = .ok d → Grow B H B' H' → Rp K B' v d → PostS K B0 H0 B' W E (k d) → Q v H') : PostE K B H σ W Q f := by
  cases f with
  | ok d => exact fun v B' H' g rp => hk d v B' H' rfl g rp (postS_mono g.b h)
  | er x => exact fun c dx B' H' g rp => h c dx σ B' H' g.b (rel.mono g) rp
  | no => exact h
theorem postT_of {f : Res Bool} {Q : Bool → Hp → Prop} {k : Bool → Fl} (rel : Rel K B0 H0 B H σ δ) (h : PostS K B0 H0 B W E (stE f δ k)) (hk : ∀ b B' H', Grow B H B' H' → PostS K B0 H0 B' W E (k b) → Q b H') : PostT K B H σ W Q f := by
  cases f with
  | ok d => exact fun B' H' g => hk d B' H' g (postS_mono g.b h)
  | er x => exact fun c dx B' H' g rp => h c dx σ B' H' g.b (rel.mono g) rp
  | no => exact h

/-! ### blocks -/
def cSeq (g h : DS → Fl) : DS → Fl := fun δ => (g δ).then h
theorem ss_seq {t u : TS} {g h : DS → Fl} (h1 : SS K W t g) (h2 : SS K W u h) : SS K W (tSeq t u) (cSeq g h) := fun B0 H0 δ σ B H E rel hp => by
  unfold cSeq at hp
  refine h1 B0 H0 δ σ B H _ rel ?_
  cases e : g δ with
  | nx δ' => rw [e] at hp; exact fun σ' B' H' s rel' => h2 B0 H0 δ' σ' B' H' E rel' (postS_mono s hp)
  | bk δ' => rw [e] at hp; exact hp
  | ct δ' => rw [e] at hp; exact hp
  | rt d => rw [e] at hp; exact hp
  | rf d => rw [e] at hp; exact hp
  | rs x δ' => rw [e] at hp; exact hp
  | no => rw [e] at hp; exact hp
def cNext : DS → Fl := fun δ => .nx δ
theorem ss_next : SS K W tNext cNext := fun B0 H0 δ σ B H E rel hp => hp σ B H (Same.refl _) rel
theorem css_nil : CSs X W [] tNext cNext := ⟨pss_nil, ss_next⟩
theorem css_cons {s : Stmt} {ss : List Stmt} {t u : TS} {g h : DS → Fl} (h1 : CS X W s t g) (h2 : CSs X W ss u h) : CSs X W (s :: ss) (tSeq t u) (cSeq g h) := ⟨pss_cons h1.ps h2.ps, ss_seq h1.ss h2.ss⟩
theorem css_one {s : Stmt} {t : TS} {g : DS → Fl} (h1 : CS X W s t g) : CSs X W [s] t g := ⟨pss_one h1.ps, h1.ss⟩
theorem cs_pass {pos : Pos} : CS X W (.Pass pos) tNext cNext := ⟨ps_pass, ss_next⟩
def cBreak : DS → Fl := fun δ => .bk δ
def cCont : DS → Fl := fun δ => .ct δ
theorem cs_break {pos : Pos} : CS X W (.Break pos) tBreak cBreak := ⟨ps_break, fun B0 H0 δ σ B H E rel hp => hp σ B H (Same.refl _) rel⟩
theorem cs_continue {pos : Pos} : CS X W (.Continue pos) tCont cCont := ⟨ps_continue, fun B0 H0 δ σ B H E rel hp => hp σ B H (Same.refl _) rel⟩
/-! ### return, if, expressions, assignments -/
def cRet (f : DS → Res D) : DS → Fl := fun δ => stE (f δ) δ fun d => .rt d
theorem cs_ret {e : Expr} {pos : Pos} {t : TE} {f : DS → Res D} (h : CE X W e t f) : CS X W (.Return (some e) pos) (tRet t) (cRet f) :=
  ⟨ps_ret h.pe, fun B0 H0 δ σ B H E rel hp => h.se B0 H0 δ σ B H _ rel (postE_of rel hp fun d v B' H' _ g rp q => q v B' H' (Same.refl _) (rel.g.trans g) rp)⟩
def cRetN : DS → Fl := fun _ => .rt .non
theorem cs_retN {pos : Pos} : CS X W (.Return none pos) tRetN cRetN := ⟨ps_retN, fun B0 H0 δ σ B H E rel hp => hp .non B H (Same.refl _) rel.g (.v _)⟩
def cIf (t : DS → Res Bool) (g h : DS → Fl) : DS → Fl := fun δ => stE (t δ) δ fun b => if b = true then g δ else h δ
theorem cs_if {c : Expr} {a b : List Stmt} {pos : Pos} {tc : TT} {t u : TS} {f : DS → Res Bool} {g h : DS → Fl} (hc : CT X W c tc f) (ha : CSs X W a t g) (hb : CSs X W b u h) : CS X W (.If c a b pos) (tIfS tc t u) (cIf f g h) :=
  ⟨ps_if hc.pt ha.ps hb.ps, fun B0 H0 δ σ B H E rel hp => hc.st B0 H0 δ σ B H _ rel (postT_of rel hp fun b B' H' g q => by
    cases b with
    | true => rw [if_pos rfl] at q ⊢; exact ha.ss B0 H0 δ σ B' H' E (rel.mono g) q
    | false => rw [if_neg Bool.false_ne_true] at q ⊢; exact hb.ss B0 H0 δ σ B' H' E (rel.mono g) q)⟩
def cDrop (f : DS → Res D) : DS → Fl := fun δ => stE (f δ) δ fun _ => .nx δ
theorem cs_expr {e : Expr} {pos : Pos} {t : TE} {f : DS → Res D} (h : CE X W e t f) (hs : swapsWith e none pos.line X.env = pure false := by rfl) : CS X W (.Expr e pos) (tDrop t) (cDrop f) :=
  ⟨ps_expr h.pe hs, fun B0 H0 δ σ B H E rel hp => h.se B0 H0 δ σ B H _ rel (postE_of rel hp fun d v B' H' _ g rp q => q σ B' H' (Same.refl _) (rel.mono g))⟩
def cAsg (i : Nat) (f : DS → Res D) : DS → Fl := fun δ => stE (f δ) δ fun d => .nx (δ.set i (some (.im d)))
theorem ss_asg {i : Nat} {t : TE} {f : DS → Res D} (h : SE K W t f) : SS K W (tAsg t (gName i)) (cAsg i f) := fun B0 H0 δ σ B H E rel hp =>
  h B0 H0 δ σ B H _ rel (postE_of rel hp fun d v B' H' _ g rp q => q _ B' H' (Same.refl _) ((rel.mono g).set i rp))
theorem cs_set (i : Nat) {x : Str} {e : Expr} {t : TE} {f : DS → Res D} {pos pos' : Pos} (hN : X.N.Nodup) (he : CE X W e t f) (hi : X.N[i]? = some x := by rfl) (hx : Loc X.env.scope x := by first | exact Or.inl rfl | exact Or.inr rfl)
    (hs : swapsWith e (some (.Name x pos')) pos.line X.env = pure false := by rfl) (hf : X.fn x = true ∨ X.env.scope.names.lookup x = some .local := by first | exact .inl rfl | exact .inr rfl | assumption) :
    CS X W (.Assign [.Name x pos'] e pos) (tAsg t (gName i)) (cAsg i f) := ⟨ps_set hN hi hx he.pe hs hf, ss_asg he.se⟩
/-- any target -/
def cAsgG (b : D → DS → Option DS) (f : DS → Res D) : DS → Fl := fun δ => stE (f δ) δ fun d => match b d δ with
  | some δ' => .nx δ'
  | none => .no
theorem cs_asg {tg e : Expr} {t : TE} {f : DS → Res D} {g : TG} {is : List Nat} {b : D → DS → Option DS} {pos : Pos} (he : CE X W e t f) (hg : CG X tg g is b) (hs : swapsWithSole [tg] e pos.line X.env = pure false := by rfl) (hw : swappedStores [tg] e X.env = pure none := by rfl)
    (h1 : List.map (fun x => x.snd) (assignEach [tg] X.env) = [assign tg X.env] := by rfl) : CS X W (.Assign [tg] e pos) (tAsg t g) (cAsgG b f) := ⟨ps_asg he.pe hg.pg hs hw h1, fun B0 H0 δ σ B H E rel hp =>
  he.se B0 H0 δ σ B H _ rel (postE_of rel hp fun d v B' H' _ gr rp q => by
    cases e : b d δ with
    | none => rw [e] at q; exact q.elim
    | some δ' =>
      rw [e] at q
      exact hg.sg B0 H0 B' H' σ δ v d _ (rel.mono gr) rp (fun δ2 σ2 e2 r2 _ _ => by rw [e] at e2; cases e2; exact q σ2 B' H' (Same.refl _) r2) (by rw [e]; simp))⟩
/-- a, b = e1, e2 -/
def cPar (i j : Nat) (f : DS → Res (List D)) : DS → Fl := fun δ => stE (f δ) δ fun ds => match ds with
  | [d, e] => .nx ((δ.set i (some (.im d))).set j (some (.im e)))
  | _ => .no
theorem cs_par (i j : Nat) {x y : Str} {a b : Expr} {t : TA} {f : DS → Res (List D)} {px py pt pos : Pos} {kt k2 pt2} (hc : X.calm = true) (hN : X.N.Nodup) (ha : CL X W [a, b] t f) (hi : X.N[i]? = some x := by rfl) (hj : X.N[j]? = some y := by rfl) (hij : i ≠ j := by decide)
    (hx : X.env.scope.names.lookup x = some .local := by rfl) (hy : X.env.scope.names.lookup y = some .local := by rfl)
    (hw : swappedStores [.Tuple [.Name x px, .Name y py] kt pt] (.Tuple [a, b] k2 pt2) X.env = pure (some [x, y]) := by rfl)
    (hs : swapsWithSole [.Tuple [.Name x px, .Name y py] kt pt] (.Tuple [a, b] k2 pt2) pos.line X.env = pure false := by rfl) :
    CS X W (.Assign [.Tuple [.Name x px, .Name y py] kt pt] (.Tuple [a, b] k2 pt2) pos) (tPar i j t) (cPar i j f) :=
  ⟨ps_par hc hN hi hj hij hx hy ha.pa hw hs, fun B0 H0 δ σ B H E rel hp => ha.sa B0 H0 δ σ B H _ rel (by
    unfold cPar at hp
    cases e : f δ with
    | no => rw [e] at hp; exact hp
    | er x => rw [e] at hp; exact fun c dx B' H' g rp => hp c dx σ B' H' g.b (rel.mono g) rp
    | ok ds =>
      rw [e, stE_ok] at hp
      intro vs B' H' g rp
      split at hp
      · cases rp with
        | cons r1 r2 =>
          cases r2 with
          | cons r2 r3 =>
            cases r3
            exact ⟨_, _, rfl, hp _ B' H' g.b (((rel.mono g).set i r1).set j r2)⟩
      · exact hp.elim)⟩
/-- x op= e -/
def cAug (i : Nat) (o : D → D → Res D) (f : DS → Res D) : DS → Fl := fun δ => stE ((cVar i δ).bind fun x => (f δ).bind fun y => o x y) δ fun d => .nx (δ.set i (some (.im d)))
theorem cs_aug (i : Nat) {x : Str} {e : Expr} {t : TE} {f : DS → Res D} {op : Operator} {r : R2} {o : D → D → Res D} {pos pos' : Pos} (hN : X.N.Nodup) (he : CE X W e t f) (ho : OK2 X (inplaceOp op) r o) (hi : X.N[i]? = some x := by rfl) (hx : Loc X.env.scope x := by first | exact Or.inl rfl | exact Or.inr rfl) (hf : X.fn x = true ∨ X.env.scope.names.lookup x = some .local := by first | exact .inl rfl | exact .inr rfl | assumption) :
    CS X W (.AugAssign (.Name x pos') op e pos) (tAug i t r) (cAug i o f) := ⟨ps_aug hN hi hx he.pe ho.o hf, fun B0 H0 δ σ B H E rel hp => by
  unfold cAug cVar at hp
  cases e1 : δ[i]? with
  | none => rw [e1] at hp; exact hp.elim
  | some o1 =>
    cases o1 with
    | none => rw [e1] at hp; exact hp.elim
    | some o1 =>
      cases o1 with
      | ow ds => rw [e1] at hp; exact hp.elim
      | od ds => rw [e1] at hp; exact hp.elim
      | tr _ _ => rw [e1] at hp; exact hp.elim
      | im d =>
        rw [e1] at hp
        obtain ⟨v, h1, h2⟩ := rel.get e1
        refine ⟨v, h1, he.se B0 H0 δ σ B H _ rel ?_⟩
        simp only [Res.bind_ok] at hp
        cases e2 : f δ with
        | no => rw [e2] at hp; exact hp
        | er x => rw [e2] at hp; exact fun c dx B' H' g rp => hp c dx σ B' H' g.b (rel.mono g) rp
        | ok d2 =>
          rw [e2, Res.bind_ok] at hp
          intro v2 B' H' g rp
          refine ho.r v v2 d d2 B' H' _ g.i (h2.mono g.b) rp ?_
          cases e3 : o d d2 with
          | no => rw [e3] at hp; exact hp
          | er x => exact absurd e3 (ho.c d d2 x)
          | ok z =>
            rw [e3, stE_ok] at hp
            exact fun zv B2 H2 g2 r2 => hp _ B2 H2 (g.b.trans g2.b) (((rel.mono g).mono g2).set i r2)⟩
def oAddI : D → D → Res D
  | .v (.int i), .v (.int j) => .ok (.int (i + j))
  | _, _ => .no
theorem oi_add : OK2 X (inplaceOp .Add) (rI0 fun i j => .int (i + j)) oAddI := ⟨iop_add, ro_I0 fun d e z h => (by
  unfold oAddI at h
  split at h
  · cases h; exact ⟨_, _, rfl, rfl, rfl⟩
  · cases h), fun d e x => (by unfold oAddI; split <;> simp)⟩
theorem iop_mulW : OpR X (inplaceOp .Mult) (rI CMulW fun i j => .int (i * j)) := opI fun _ _ _ _ _ _ _ hc q => PyProof.Rows.imul_int q hc.ok
def oMulI : D → D → Res D
  | .v (.int i), .v (.int j) => if i.natAbs.log2 + j.natAbs.log2 < 1000000 then .ok (.int (i * j)) else .no
  | _, _ => .no
theorem oi_mul : OK2 X (inplaceOp .Mult) (rI CMulW fun i j => .int (i * j)) oMulI := ⟨iop_mulW, ro_I fun d e z h => (by
  unfold oMulI at h
  split at h
  · split at h
    · rename_i hz
      cases h; exact ⟨_, _, rfl, rfl, hz, rfl⟩
    · cases h
  · cases h), fun d e x => (by unfold oMulI; split <;> (try split) <;> simp)⟩

/-! ### own lists -/
/-- x = a new list, which is to be the def's own -/
def cOwn (i : Nat) (f : DS → Res (List D)) : DS → Fl := fun δ => stE (f δ) δ fun ds => .nx (δ.set i (some (.ow ds)))
theorem ss_own {i : Nat} {t : TE} {f : DS → Res (List D)} (h : SF K W t f) : SS K W (tAsg t (gName i)) (cOwn i f) := fun B0 H0 δ σ B H E rel hp => by
  unfold cOwn at hp
  refine h B0 H0 δ σ B H _ rel ?_
  cases e : f δ with
  | no => rw [e] at hp; exact hp
  | er x => rw [e] at hp; exact fun c dx B' H' g rp => hp c dx σ B' H' g.b (rel.mono g) rp
  | ok ds =>
    rw [e, stE_ok] at hp
    intro p vs B' H' g h0 hb hh rp
    exact hp _ B' H' g.b ((rel.mono g).setOw i (rel.g.free h0) hb hh rp (rel.free' g h0))
theorem cs_own (i : Nat) {x : Str} {e : Expr} {t : TE} {f : DS → Res (List D)} {pos pos' : Pos} (hN : X.N.Nodup) (he : CF X W e t f) (hi : X.N[i]? = some x := by rfl) (hx : Loc X.env.scope x := by first | exact Or.inl rfl | exact Or.inr rfl)
    (hs : swapsWith e (some (.Name x pos')) pos.line X.env = pure false := by rfl) (hf : X.fn x = true ∨ X.env.scope.names.lookup x = some .local := by first | exact .inl rfl | exact .inr rfl | assumption) :
    CS X W (.Assign [.Name x pos'] e pos) (tAsg t (gName i)) (cOwn i f) := ⟨ps_set hN hi hx he.pe hs hf, ss_own he.sf⟩
/-- x.append(e), x the def's own -/
def cApp (i : Nat) (f : DS → Res D) : DS → Fl := fun δ => match δ[i]? with
  | some (some (.ow ds)) => stE (f δ) δ fun d => if ds.length < sizeLine then .nx (δ.set i (some (.ow (ds ++ [d])))) else .no
  | _ => .no
theorem cs_app (i : Nat) {x : Str} {e : Expr} {t : TE} {f : DS → Res D} {px apos cpos pos : Pos} (he : CE X W e t f) (hv : PE X (.Name x px) (tVar i))
    (hbase : attributeBase (.Name x px) "append" X.env (eval (.Name x px) X.env) = eval (.Name x px) X.env := by rfl)
    (hfew : ((backTo cpos (starEach [e] X.env)).all (fun x => !x.1) && (backToKw cpos (keywordEach [] X.env)).all (fun x => x.1.isSome) && decide ([e].length + ([] : List Keyword).length + (if ([] : List Keyword).isEmpty then 0 else 1) < 30)) = true := by rfl)
    (hline : (apos.endLine == cpos.line) = true := by rfl) (hst : starEach [e] X.env = (false, eval e X.env) :: starEach [] X.env := by rfl) (hplain : (backTo cpos (starEach [] X.env)).any (·.1) = false := by rfl) (hs : swapsWith (.Call (.Attribute (.Name x px) "append" apos) [e] [] cpos) none pos.line X.env = pure false := by rfl) :
    CS X W (.Expr (.Call (.Attribute (.Name x px) "append" apos) [e] [] cpos) pos) (tDrop (tBM X.K "list" rAppend (tVar i) (tCons t tNil))) (cApp i f) :=
  ⟨ps_expr (pe_bm PySem.F.plainAttrs_list PySem.F.slot_list_append PySem.F.type_list_append mt_append hv (pa_cons he.pe pa_nil hst) hbase hfew hline hst hplain) hs, fun B0 H0 δ σ B H E rel hp => by
    unfold cApp at hp
    split at hp
    · rename_i ds ei
      obtain ⟨v, q1, p, vs, rfl, _, hb, hh, rp⟩ := rel.sl i _ ei
      refine ⟨_, q1, .inl ⟨rfl, vs, SqL.of hh⟩, ?_⟩
      refine he.se B0 H0 δ σ B H _ rel ?_
      cases e1 : f δ with
      | no => rw [e1] at hp; exact hp
      | er x => rw [e1] at hp; exact fun c dx B' H' g rp => hp c dx σ B' H' g.b (rel.mono g) rp
      | ok d =>
        rw [e1, stE_ok] at hp
        split at hp
        · rename_i hz
          intro v B' H' g r1
          refine ⟨p, vs, v, rfl, rfl, g.h _ _ hh (fun _ z => by cases z), by rw [rp.length]; exact hz, ?_⟩
          exact hp σ B' _ g.b ((rel.mono g).write (us := vs) ei q1 ((rp.mono g.b).append (.cons r1 .nil)))
        · exact hp.elim
    · exact hp.elim⟩
/-- y = [..]: data; the def's own -/
theorem cs_setLc (i : Nat) {y : Str} {py spos : Pos} {e : Expr} {t : TE} {f : DS → Res (List D)} (h : LC X W e t f) (hsw : swapsWith e (some (.Name y py)) spos.line X.env = pure true) (hi : X.N[i]? = some y := by rfl) (hyl : X.env.scope.names.lookup y = some .local := by rfl) :
    CS X W (.Assign [.Name y py] e spos) (tAsg t (gName i)) (cAsg i (cL f)) := ⟨h.set_ i y py spos hi hyl hsw, ss_asg (se_of_sf h.sf)⟩
theorem cs_ownLc (i : Nat) {y : Str} {py spos : Pos} {e : Expr} {t : TE} {f : DS → Res (List D)} (h : LC X W e t f) (hsw : swapsWith e (some (.Name y py)) spos.line X.env = pure true) (hi : X.N[i]? = some y := by rfl) (hyl : X.env.scope.names.lookup y = some .local := by rfl) :
    CS X W (.Assign [.Name y py] e spos) (tAsg t (gName i)) (cOwn i f) := ⟨h.set_ i y py spos hi hyl hsw, ss_own h.sf⟩
/-- the own list at slot i becomes data -/
def fz (i : Nat) (δ : DS) : DS := match δ[i]? with
  | some (some (.ow ds)) => δ.set i (some (.im (.lst ds)))
  | some (some (.tr k ts)) => δ.set i (some (.im (T.nd k ts).d))
  | _ => δ
theorem Rel.fz {B0 H0 B H : Hp} {σ : L2.St} {δ : DS} (r : Rel K B0 H0 B H σ δ) (i : Nat) : ∃ B', Same B B' ∧ Rel K B0 H0 B' H σ (fz i δ) := by
  unfold DV.fz
  split
  · rename_i ds e
    exact r.freeze e
  · rename_i k ts e
    obtain ⟨v, h1, _⟩ := r.sl i _ e
    exact ⟨_, r.freezeT e h1⟩
  · exact ⟨B, Same.refl _, r⟩
def cFz (i : Nat) (g : DS → Fl) : DS → Fl := fun δ => g (fz i δ)
theorem ss_fz (i : Nat) {t : TS} {g : DS → Fl} (h : SS K W t g) : SS K W t (cFz i g) := fun B0 H0 δ σ B H E rel hp => by
  obtain ⟨B', s, r⟩ := rel.fz i
  exact h B0 H0 _ σ B' H E r (postS_mono s hp)
theorem cs_fz (i : Nat) {s : Stmt} {t : TS} {g : DS → Fl} (h : CS X W s t g) : CS X W s t (cFz i g) := ⟨h.ps, ss_fz i h.ss⟩
/-- the own list at slot i is looked at: a test, a flat value -/
theorem Grow.back {B B' B2 H H2 : Hp} (s : Same B B') (i : Same B H) (nB : NoT B) (nB' : NoT B') (g : Grow B' H B2 H2) : ∃ B3, Grow B H B3 H2 := by
  refine ⟨fun a => if H a = none then B2 a else B a, fun a o q => ?_, g.h, fun a o q => ?_, fun a ha => ?_, g.e, g.t, fun _ a ps z => ?_⟩
  · have : ¬ (H a = none) := by rw [i a o q]; simp
    show (if H a = none then B2 a else B a) = some o
    rw [if_neg this]; exact q
  · have q' : (if H a = none then B2 a else B a) = some o := q
    split at q'
    · exact g.i a o q'
    · exact g.h a o (i a o q') (fun ps z => nB a ps (by rw [q', z]))
  · show (if H a = none then B2 a else B a) = B a
    rw [if_neg ha]
  · have z' : (if H a = none then B2 a else B a) = some (.tbl ps) := z
    split at z'
    · exact g.n nB' a ps z'
    · exact nB a ps z'
def cLookT (i : Nat) (f : DS → Res Bool) : DS → Res Bool := fun δ => (f (fz i δ)).calm
def flatR : Res D → Res D
  | .ok (.v x) => .ok (.v x)
  | _ => .no
def cLook (i : Nat) (f : DS → Res D) : DS → Res D := fun δ => flatR (f (fz i δ))
theorem st_look (i : Nat) {t : TT} {f : DS → Res Bool} (h : ST K W t f) : ST K W t (cLookT i f) := fun B0 H0 δ σ B H Q rel hp => by
  obtain ⟨B', s, r⟩ := rel.fz i
  refine h B0 H0 _ σ B' H Q r ?_
  unfold cLookT at hp
  cases e : f (fz i δ) with
  | no => rw [e] at hp; exact hp
  | er x => rw [e] at hp; exact hp.elim
  | ok b =>
    rw [e] at hp
    intro B2 H2 g
    obtain ⟨B3, g3⟩ := Grow.back s rel.g.i (rel.g.n rel.nt) (r.g.n r.nt) g
    exact hp B3 H2 g3
theorem se_look (i : Nat) {t : TE} {f : DS → Res D} (h : SE K W t f) : SE K W t (cLook i f) := fun B0 H0 δ σ B H Q rel hp => by
  obtain ⟨B', s, r⟩ := rel.fz i
  refine h B0 H0 _ σ B' H Q r ?_
  unfold cLook at hp
  cases e : f (fz i δ) with
  | no => rw [e] at hp; exact hp
  | er x => rw [e] at hp; exact hp.elim
  | ok d =>
    rw [e] at hp
    cases d with
    | v x =>
      intro v B2 H2 g rp
      obtain ⟨B3, g3⟩ := Grow.back s rel.g.i (rel.g.n rel.nt) (r.g.n r.nt) g
      cases rp
      exact hp _ B3 H2 g3 (.v _)
    | lst _ => exact hp.elim
    | tup _ => exact hp.elim
    | dct _ _ => exact hp.elim
    | dlk _ _ => exact hp.elim
    | dtt _ _ => exact hp.elim
    | dtl _ _ => exact hp.elim
    | ins _ _ _ => exact hp.elim
theorem ct_look (i : Nat) {e : Expr} {t : TT} {f : DS → Res Bool} (h : CT X W e t f) : CT X W e t (cLookT i f) := ⟨h.pt, st_look i h.st⟩
theorem ce_look (i : Nat) {e : Expr} {t : TE} {f : DS → Res D} (h : CE X W e t f) : CE X W e t (cLook i f) := ⟨h.pe, se_look i h.se⟩

/-! ### loops -/
def forF (b : D → DS → Option DS) (g : DS → Fl) : List D → DS → Fl
  | [], δ => .nx δ
  | d :: ds, δ => match b d δ with
    | none => .no
    | some δ' => match g δ' with
      | .nx δ2 => forF b g ds δ2
      | .ct δ2 => forF b g ds δ2
      | .bk δ2 => .nx δ2
      | .rt d => .rt d
      | .rf es => .rf es
      | .rs x δ2 => .rs x δ2
      | .no => .no
def cFor (fi : DS → Res (List D)) (b : D → DS → Option DS) (g : DS → Fl) : DS → Fl := fun δ => stE (fi δ) δ fun ds => forF b g ds δ
theorem cs_for {tg iter : Expr} {body : List Stmt} {pos : Pos} {wi : TI} {g : TG} {tb : TS} {fi : DS → Res (List D)} {is : List Nat} {b : D → DS → Option DS} {gb : DS → Fl} (hp : PassesOwn (model X.prog X.w) X.A X.env X.xe) (hc : X.calm = true) (hi : CI X W tg iter wi fi) (hg : CG X tg g is b) (hb : CSs X W body tb gb)
    (hs : ∀ x, foldedSetIterable iter X.env x = pure x := by intro _; rfl) : CS X W (.For tg iter body [] pos) (tFor wi g tb) (cFor fi b gb) :=
  ⟨ps_for hp hc hi.pi hg.pg hb.ps hs, fun B0 H0 δ σ B H E rel hq => by
    unfold cFor at hq
    refine hi.si B0 H0 δ σ B H _ rel ?_
    cases e : fi δ with
    | no => rw [e] at hq; exact hq
    | er x => rw [e] at hq; exact fun c dx B' H' g rp => hq c dx σ B' H' g.b (rel.mono g) rp
    | ok ds =>
      rw [e, stE_ok] at hq
      intro J B1 H1 G Y g1 wk hG hY
      refine for_it wk (fun i σ' H' => ∃ B' δ', Same B1 B' ∧ Rel X.K B0 H0 B' H' σ' δ' ∧ PostS X.K B0 H0 B' W E (forF b gb (ds.drop i) δ')) ?_ ?_ ?_ ?_
      · exact ⟨B1, δ, Same.refl _, rel.mono g1, postS_mono g1.b hq⟩
      · rintro i σ' H' hin ⟨B', δ', s', r', _⟩
        exact hG H' (s'.trans r'.g.i)
      · rintro i x σ' H2 H3 hin ⟨B', δ', s', r', q'⟩ y
        have hlt : i < ds.length := hin
        have hdi : ds[i]? = some ds[i] := by simp [hlt]
        obtain ⟨B3, g3, rx⟩ := hY i ds[i] B' H2 x H3 hdi s' r'.g.i y
        rw [List.drop_eq_getElem_cons hlt] at q'
        unfold forF at q'
        cases e3 : b ds[i] δ' with
        | none => rw [e3] at q'; exact q'.elim
        | some δ2 =>
          rw [e3] at q'
          dsimp only at q'
          refine hg.sg B0 H0 B3 H3 σ' δ' x ds[i] _ (r'.mono g3) rx (fun δ4 σ4 e4 r4 _ _ => ?_) (by rw [e3]; simp)
          rw [e3] at e4
          cases e4
          refine hb.ss B0 H0 δ2 σ4 B3 H3 _ r4 ?_
          cases e5 : gb δ2 with
          | nx δ5 => rw [e5] at q'; exact fun σ5 B5 H5 s5 r5 => ⟨B5, δ5, (s'.trans g3.b).trans s5, r5, postS_mono (g3.b.trans s5) q'⟩
          | ct δ5 => rw [e5] at q'; exact fun σ5 B5 H5 s5 r5 => ⟨B5, δ5, (s'.trans g3.b).trans s5, r5, postS_mono (g3.b.trans s5) q'⟩
          | bk δ5 => rw [e5] at q'; exact postS_mono g3.b q'
          | rt d => rw [e5] at q'; exact postS_mono g3.b q'
          | rf d => rw [e5] at q'; exact postS_mono g3.b q'
          | rs x δ5 => rw [e5] at q'; exact postS_mono g3.b q'
          | no => rw [e5] at q'; exact q'
      · rintro σ' H' ⟨B', δ', s', r', q'⟩
        rw [List.drop_length] at q'
        exact q' σ' B' H' (Same.refl _) r'⟩
def whileF (t : DS → Res Bool) (g : DS → Fl) : Nat → DS → Fl
  | 0, _ => .no
  | n + 1, δ => match t δ with
    | .ok true => (match g δ with
      | .nx δ2 => whileF t g n δ2
      | .ct δ2 => whileF t g n δ2
      | .bk δ2 => .nx δ2
      | .rt d => .rt d
      | .rf es => .rf es
      | .rs x δ2 => .rs x δ2
      | .no => .no)
    | .ok false => .nx δ
    | .er x => .rs x δ
    | .no => .no
def cWhile (fuel : DS → Nat) (t : DS → Res Bool) (g : DS → Fl) : DS → Fl := fun δ => whileF t g (fuel δ) δ
theorem cs_while (fuel : DS → Nat) {c : Expr} {body : List Stmt} {pos : Pos} {tc : TT} {tb : TS} {t : DS → Res Bool} {g : DS → Fl} (hp : PassesOwn (model X.prog X.w) X.A X.env X.xe) (hc : CT X W c tc t) (hb : CSs X W body tb g) : CS X W (.While c body [] pos) (tWhile tc tb) (cWhile fuel t g) :=
  ⟨ps_while hp hc.pt hb.ps, fun B0 H0 δ σ B H E rel hq => by
    unfold cWhile at hq
    refine ⟨fun m σ' H' => ∃ B' δ', Same B B' ∧ Rel X.K B0 H0 B' H' σ' δ' ∧ PostS X.K B0 H0 B' W E (whileF t g m δ'), ⟨fuel δ, B, δ, Same.refl _, rel, hq⟩, ?_⟩
    rintro m σ' H' ⟨B', δ', s', r', q'⟩
    cases m with
    | zero => exact q'.elim
    | succ m =>
      unfold whileF at q'
      refine hc.st B0 H0 δ' σ' B' H' _ r' ?_
      cases e : t δ' with
      | no => rw [e] at q'; exact q'
      | er x => rw [e] at q'; exact fun c dx B2 H2 g2 rp => q' c dx σ' B2 H2 g2.b (r'.mono g2) rp
      | ok b =>
        rw [e] at q'
        intro B2 H2 g2
        cases b with
        | false => rw [if_neg Bool.false_ne_true]; exact q' σ' B2 H2 g2.b (r'.mono g2)
        | true =>
          rw [if_pos rfl]
          dsimp only at q'
          refine ⟨fun σ5 H5 => ∃ B5 δ5, Same B B5 ∧ Rel X.K B0 H0 B5 H5 σ5 δ5 ∧ PostS X.K B0 H0 B5 W E (whileF t g m δ5), fun σ5 H5 h => ⟨m, Nat.lt_succ_self m, h⟩, ?_⟩
          refine hb.ss B0 H0 δ' σ' B2 H2 _ (r'.mono g2) ?_
          cases e5 : g δ' with
          | nx δ5 => rw [e5] at q'; exact fun σ5 B5 H5 s5 r5 => ⟨B5, δ5, (s'.trans g2.b).trans s5, r5, postS_mono (g2.b.trans s5) q'⟩
          | ct δ5 => rw [e5] at q'; exact fun σ5 B5 H5 s5 r5 => ⟨B5, δ5, (s'.trans g2.b).trans s5, r5, postS_mono (g2.b.trans s5) q'⟩
          | bk δ5 => rw [e5] at q'; exact postS_mono g2.b q'
          | rt d => rw [e5] at q'; exact postS_mono g2.b q'
          | rf d => rw [e5] at q'; exact postS_mono g2.b q'
          | rs x δ5 => rw [e5] at q'; exact postS_mono g2.b q'
          | no => rw [e5] at q'; exact q'⟩
end
end DV
namespace DV
open PySem L2

/-! ### a def by its function -/
def PostD (K : PySem.W.Frag) (B H : Hp) (Q : VK) (E : XK) : Res D → Prop
  | .ok d => ∀ v B' H', Grow B H B' H' → Rp K B' v d → Q v H'
  | .er x => ∀ c dx B' H', Grow B H B' H' → RpX K B' c dx x → E c dx H'
  | .no => False
def spD (K : PySem.W.Frag) (n : Nat) (F : List D → Res D) : Sp := fun vs H Q E => vs.length = n ∧ ∃ ds B, Same B H ∧ RpA K B vs ds ∧ ((∀ p ∈ tabsOf K, NdefX.TabN H p lamAt) ∧ NoT B) ∧ PostD K B H Q E (F ds)
def flR : Fl → Res D
  | .rt d => .ok d
  | .rf ds => .ok (.lst ds)
  | .nx _ => .ok .non
  | .rs x _ => .er x
  | _ => .no
@[simp] theorem flR_rt (d : D) : flR (.rt d) = .ok d := rfl
@[simp] theorem flR_nx (δ : DS) : flR (.nx δ) = .ok .non := rfl
@[simp] theorem flR_rs (x : Exn) (δ : DS) : flR (.rs x δ) = .er x := rfl
@[simp] theorem flR_no : flR .no = .no := rfl
/-- the data state at a def's entry: m slots besides the parameters -/
def st0 (m : Nat) (ds : List D) : DS := ds.map (fun d => some (.im d)) ++ List.replicate m none
def defF (m : Nat) (g : DS → Fl) : List D → Res D := fun ds => flR (g (st0 m ds))
theorem rel0 {K : PySem.W.Frag} {B H : Hp} {N : List Str} {vs : List V} {ds : List D} (i : Same B H) (r : RpA K B vs ds) (tb : (∀ p ∈ tabsOf K, NdefX.TabN H p lamAt) ∧ NoT B) : Rel K B H B H (L2.start N vs) (st0 (N.length - vs.length) ds) := by
  refine ⟨Grow.refl i, tb.1, tb.2, ?_, fun j o e => ?_, fun j k o o' w w' hjk e1 e2 e3 e4 q f1 => ?_⟩
  · simp [L2.start, st0, r.length]
  · unfold st0 at e
    by_cases hj : j < ds.length
    · rw [List.getElem?_append_left (by simpa using hj), List.getElem?_map] at e
      cases q : ds[j]? with
      | none => rw [q] at e; cases e
      | some d =>
        rw [q] at e
        cases e
        obtain ⟨v, h1, h2⟩ := r.get q
        refine ⟨v, ?_, h2⟩
        unfold L2.start
        rw [List.getElem?_append_left (by rw [List.length_map, r.length]; exact hj), List.getElem?_map, h1]
        rfl
    · rw [List.getElem?_append_right (by simpa using hj), List.getElem?_replicate] at e
      split at e <;> cases e
  · unfold st0 at e1
    by_cases hj : j < ds.length
    · rw [List.getElem?_append_left (by simpa using hj), List.getElem?_map] at e1
      cases q : ds[j]? with
      | none => rw [q] at e1; cases e1
      | some d => rw [q] at e1; cases e1; exact f1.elim
    · rw [List.getElem?_append_right (by simpa using hj), List.getElem?_replicate] at e1
      split at e1 <;> cases e1
theorem Grow.keep {B H B' H' : Hp} (g : Grow B H B' H') {p : Addr} {xs : List V} (h0 : H p = none) (hb : B' p = none) (hh : H' p = some (.lst xs)) : Grow B H (upd B' p (.lst xs)) H' :=
  ⟨g.b.trans (same_new hb), g.h, fun a o q => by
    by_cases hap : a = p
    · subst hap; rw [upd_same] at q; cases q; exact hh
    · rw [upd_ne hap] at q; exact g.i a o q, fun a ha => by have hap : a ≠ p := fun z => ha (by rw [z]; exact h0); rw [upd_ne hap]; exact g.f a ha, g.e, g.t, fun h => (g.n h).upd (fun _ z => by cases z)⟩
abbrev Wof (E : XK) : WX := fun c d _ H => E c d H
theorem ss_def {K : PySem.W.Frag} {t : TS} {g : DS → Fl} {E : XK} {N : List Str} {vs : List V} {ds : List D} {B H : Hp} {Q : VK} (h : SS K (Wof E) t g) (i : Same B H) (r : RpA K B vs ds) (tb : (∀ p ∈ tabsOf K, NdefX.TabN H p lamAt) ∧ NoT B) (hp : PostD K B H Q E (defF (N.length - vs.length) g ds)) :
    t { nx := fun _ H' => Q .non H', rt := Q } (L2.start N vs) H := by
  refine h B H _ _ B H _ (rel0 i r tb) ?_
  unfold defF at hp
  cases e : g (st0 (N.length - vs.length) ds) with
  | nx δ => rw [e] at hp; exact fun σ B' H' s rel => hp .non B' H' rel.g (.v _)
  | rt d => rw [e] at hp; exact fun v B' H' s gr rp => hp v B' H' gr rp
  | rf es => rw [e] at hp; exact fun p xs B' H' s gr h0 hb hh rr => hp (.ref p) (upd B' p (.lst xs)) H' (gr.keep h0 hb hh) (.lst (SqL.of upd_same) (rr.mono (same_new hb)))
  | rs x δ => rw [e] at hp; exact fun c dx σ B' H' s rel rp => hp c dx B' H' rel.g rp
  | bk δ => rw [e] at hp; exact hp.elim
  | ct δ => rw [e] at hp; exact hp.elim
  | no => rw [e] at hp; exact hp
section
variable {P : Program} {w : World} {K : PySem.W.Frag} {mg : Str → Option Value} {base : Heap}
/-- a def without defaults -/
theorem def_ok {x qual : Str} {st : Stmt} {f : Addr} {fd : FuncData} {N ps : List Str} {k m : Nat} {g : DS → Fl} (F : Fun K x qual st f fd) (S : FnScope N ps (defScope st)) (hm : N.length - ps.length = m)
    (hbody : ∀ (cdv : Value) (A : Around) (outer : List Env) (s : Shared) (H : Hp) (E : XK), Room k (A.deeper (PyProof.Rows.envOfC qual (defScope st) s.heap.objs.size f cdv)) → Takes (cxOf (L2.CX P w) P w K mg base N qual (defScope st) f cdv A outer s H E) (Wof E) →
      PassesOwn (model P w) (A.deeper (PyProof.Rows.envOfC qual (defScope st) s.heap.objs.size f cdv)) (PyProof.Rows.envOfC qual (defScope st) s.heap.objs.size f cdv) (cxOf (L2.CX P w) P w K mg base N qual (defScope st) f cdv A outer s H E).xe → (A.deeper (PyProof.Rows.envOfC qual (defScope st) s.heap.objs.size f cdv)).units + 64 < cLine → ∃ t, CSs (cxOf (L2.CX P w) P w K mg base N qual (defScope st) f cdv A outer s H E) (Wof E) (defBody st) t g) : FnOk P w K mg base (L2.CX P w) (k + 1) f fd ps (spD K ps.length (defF m g)) := by
  refine F.okX S (fun vs H Q E h => h.1) fun cdv A outer s H vs Q E hr h => ?_
  obtain ⟨hl, ds, B, i, r, tb, hp⟩ := h
  obtain ⟨t, ht⟩ := hbody cdv A outer s H E hr (takes_of rfl rfl rfl rfl) (passes_of (X := cxOf (L2.CX P w) P w K mg base N qual _ f cdv A outer s H E) rfl) hr.units
  exact ⟨t, ht.ps, ss_def (N := N) ht.ss i r tb (by rw [hl, hm]; exact hp)⟩
/-- a def with defaults -/
theorem def_okD {x qual : Str} {params : Arguments} {body : List Stmt} {scope : Scope} {dvs : List V} {kws : List (Str × V)} {f : Addr} {fd : FuncData} {N ps : List Str} {k m : Nat} {g : DS → Fl} (F : FunD K x qual params body scope dvs kws f fd) (S : FnScope N ps scope) (hm : N.length - ps.length = m)
    (hbody : ∀ (cdv : Value) (A : Around) (outer : List Env) (s : Shared) (H : Hp) (E : XK), Room k (A.deeper (PyProof.Rows.envOfC qual scope s.heap.objs.size f cdv)) → Takes (cxOf (L2.CX P w) P w K mg base N qual scope f cdv A outer s H E) (Wof E) →
      PassesOwn (model P w) (A.deeper (PyProof.Rows.envOfC qual scope s.heap.objs.size f cdv)) (PyProof.Rows.envOfC qual scope s.heap.objs.size f cdv) (cxOf (L2.CX P w) P w K mg base N qual scope f cdv A outer s H E).xe → (A.deeper (PyProof.Rows.envOfC qual scope s.heap.objs.size f cdv)).units + 64 < cLine → ∃ t, CSs (cxOf (L2.CX P w) P w K mg base N qual scope f cdv A outer s H E) (Wof E) body t g) : FnOk P w K mg base (L2.CX P w) (k + 1) f fd ps (spD K ps.length (defF m g)) := by
  refine F.ok S (fun vs H Q E h => h.1) fun cdv A outer s H vs Q E hr h => ?_
  obtain ⟨hl, ds, B, i, r, tb, hp⟩ := h
  obtain ⟨t, ht⟩ := hbody cdv A outer s H E hr (takes_of rfl rfl rfl rfl) (passes_of (X := cxOf (L2.CX P w) P w K mg base N qual _ f cdv A outer s H E) rfl) hr.units
  exact ⟨t, ht.ps, ss_def (N := N) ht.ss i r tb (by rw [hl, hm]; exact hp)⟩
end

/-! ### calls -/
section
variable {X : Cx} {W : WX} {K : PySem.W.Frag}
def cFn (F : List D → Res D) (dd : List D) (f : DS → Res (List D)) : DS → Res D := fun δ => (f δ).bind fun ds => F (ds ++ dd)
theorem se_fn {n : Nat} {F : List D → Res D} {dd : List D} {dvs : List V} {t : TA} {f : DS → Res (List D)} (hl : ∀ δ ds, f δ = .ok ds → ds.length + dd.length = n) (hd : ∀ B, RpA K B dvs dd) (h : SA K W t f) : SE K W (tCallSD (spD K n F) dvs (WE W) t) (cFn F dd f) := fun B0 H0 δ σ B H Q rel hp => by
  unfold cFn at hp
  refine h B0 H0 δ σ B H _ rel ?_
  cases e : f δ with
  | no => rw [e] at hp; exact hp
  | er x => rw [e] at hp; exact hp
  | ok ds =>
    rw [e, Res.bind_ok] at hp
    intro vs B1 H1 g1 r1
    refine ⟨?_, ds ++ dd, B1, g1.i, r1.append (hd B1), ⟨fun p hp' => g1.t p (rel.g.t p (rel.tk p hp')), g1.n (rel.g.n rel.nt)⟩, ?_⟩
    · rw [List.length_append, r1.length, (hd B1).length]
      exact hl δ ds e
    · cases e2 : F (ds ++ dd) with
      | no => rw [e2] at hp; exact hp
      | er x => rw [e2] at hp; exact fun c dx B' H' g' rp => hp c dx B' H' (g1.trans g') rp
      | ok z => rw [e2] at hp; exact fun v B' H' g' rp => hp v B' H' (g1.trans g') rp
theorem q_ce_fn {k n : Nat} {f : Addr} {fd : FuncData} {ps : List Str} {F : List D → Res D} {dd : List D} {dvs : List V} {ds : List Value} {x : Str} {p pos : Pos} {e : Expr} {es : List Expr} {t : TA} {fa : DS → Res (List D)}
    (G : FnOk X.prog X.w X.K X.mg X.base (L2.CX X.prog X.w) k f fd ps (spD X.K n F)) (hr : Room k X.A) (hm : X.mg x = some (.ref f)) (hk : PySem.W.keepIn X.K (.ref f) = true) (hb : Binds X.K fd ps ds) (hd : Vals dvs ds) (hdd : ∀ B, RpA X.K B dvs dd) (tk : Takes X W)
    (ha : CL X W (e :: es) t fa) (hn : (e :: es).length + dd.length = n := by rfl) (hg : Gl X x := by rfl) (hdb : (x == ("__debug__" : Str)) = false := by decide) (he : starEach (e :: es) X.env = (false, eval e X.env) :: starEach es X.env := by rfl) (hpl : (backTo pos (starEach es X.env)).any (·.1) = false := by rfl) :
    CE X W (.Call (.Name x p) (e :: es) [] pos) (tCallSD (spD X.K n F) dvs (WE W) t) (cFn F dd fa) :=
  ⟨pe_callSD G hr hg hm hk hb hd (fun σ => passAt tk σ) ha.pa hdb he hpl, se_fn (fun δ ds h => by rw [ha.ln δ ds h]; exact hn) hdd ha.sa⟩
theorem ce_fn (K : PySem.W.Frag) (hK : X.K = K) {k n : Nat} {f : Addr} {fd : FuncData} {ps : List Str} {F : List D → Res D} {dd : List D} {dvs : List V} {ds : List Value} {x : Str} {p pos : Pos} {e : Expr} {es : List Expr} {t : TA} {fa : DS → Res (List D)}
    (G : FnOk X.prog X.w K X.mg X.base (L2.CX X.prog X.w) k f fd ps (spD K n F)) (hr : Room k X.A) (hm : X.mg x = some (.ref f)) (hk : PySem.W.keepIn K (.ref f) = true) (hb : Binds K fd ps ds) (hd : Vals dvs ds) (hdd : ∀ B, RpA K B dvs dd) (tk : Takes X W)
    (ha : CL X W (e :: es) t fa) (hn : (e :: es).length + dd.length = n := by rfl) (hg : Gl X x := by rfl) (hdb : (x == ("__debug__" : Str)) = false := by decide) (he : starEach (e :: es) X.env = (false, eval e X.env) :: starEach es X.env := by rfl) (hpl : (backTo pos (starEach es X.env)).any (·.1) = false := by rfl) :
    CE X W (.Call (.Name x p) (e :: es) [] pos) (tCallSD (spD K n F) dvs (WE W) t) (cFn F dd fa) := by
  subst hK
  exact (q_ce_fn G hr hm hk hb hd hdd tk ha hn hg hdb he hpl)
/-- no defaults -/
def cFn0 (F : List D → Res D) (f : DS → Res (List D)) : DS → Res D := fun δ => (f δ).bind F
theorem q_ce_f {k n : Nat} {f : Addr} {fd : FuncData} {ps : List Str} {F : List D → Res D} {x : Str} {p pos : Pos} {e : Expr} {es : List Expr} {t : TA} {fa : DS → Res (List D)}
    (G : FnOk X.prog X.w X.K X.mg X.base (L2.CX X.prog X.w) k f fd ps (spD X.K n F)) (hr : Room k X.A) (hm : X.mg x = some (.ref f)) (hk : PySem.W.keepIn X.K (.ref f) = true) (hb : Binds X.K fd ps []) (tk : Takes X W)
    (ha : CL X W (e :: es) t fa) (hn : (e :: es).length = n := by rfl) (hg : Gl X x := by rfl) (hdb : (x == ("__debug__" : Str)) = false := by decide) (he : starEach (e :: es) X.env = (false, eval e X.env) :: starEach es X.env := by rfl) (hpl : (backTo pos (starEach es X.env)).any (·.1) = false := by rfl) :
    CE X W (.Call (.Name x p) (e :: es) [] pos) (tCallSD (spD X.K n F) [] (WE W) t) (cFn0 F fa) := by
  have h := q_ce_fn (dd := []) (p := p) (pos := pos) G hr hm hk hb .nil (fun _ => .nil) tk ha hn hg hdb he hpl
  refine ⟨h.pe, ?_⟩
  have e0 : cFn F [] fa = cFn0 F fa := by
    funext δ
    simp [cFn, cFn0]
  rw [← e0]
  exact h.se
theorem ce_f (K : PySem.W.Frag) (hK : X.K = K) {k n : Nat} {f : Addr} {fd : FuncData} {ps : List Str} {F : List D → Res D} {x : Str} {p pos : Pos} {e : Expr} {es : List Expr} {t : TA} {fa : DS → Res (List D)}
    (G : FnOk X.prog X.w K X.mg X.base (L2.CX X.prog X.w) k f fd ps (spD K n F)) (hr : Room k X.A) (hm : X.mg x = some (.ref f)) (hk : PySem.W.keepIn K (.ref f) = true) (hb : Binds K fd ps []) (tk : Takes X W)
    (ha : CL X W (e :: es) t fa) (hn : (e :: es).length = n := by rfl) (hg : Gl X x := by rfl) (hdb : (x == ("__debug__" : Str)) = false := by decide) (he : starEach (e :: es) X.env = (false, eval e X.env) :: starEach es X.env := by rfl) (hpl : (backTo pos (starEach es X.env)).any (·.1) = false := by rfl) :
    CE X W (.Call (.Name x p) (e :: es) [] pos) (tCallSD (spD K n F) [] (WE W) t) (cFn0 F fa) := by
  subst hK
  exact (q_ce_f G hr hm hk hb tk ha hn hg hdb he hpl)
/-- a statement that is never reached -/
theorem cs_never {s : Stmt} : CS X W s tNever (fun _ => .no) := ⟨ps_never, fun _ _ _ _ _ _ _ _ h => h⟩
end

/-! ### the end: the law's function -/
/-- what is asked of the law's function -/
theorem spD_law {K : PySem.W.Frag} {H : Hp} {a : Addr} {ns : List Int} {F : List D → Res D} (hS : SqL K H a (ns.map V.int)) (tb : ∀ p ∈ tabsOf K, NdefX.TabN H p lamAt) (h : F [.lst (ns.map D.int)] = .ok (.bl true)) : spD K 1 F [.ref a] H (fun v _ => v = .bl true) (fun _ _ _ => False) := by
  have hS' : SqL K (fun b => match H b with | some (.tbl _) => none | o => o) a (ns.map V.int) := by
    rcases hS with (h | ⟨o, h⟩) | h
    · exact .inl (.inl (by show (match H a with | some (.tbl _) => none | o => o) = _; rw [h]))
    · exact .inl (.inr ⟨o, by show (match H a with | some (.tbl _) => none | o => o) = _; rw [h]⟩)
    · exact .inr h
  refine ⟨rfl, [.lst (ns.map D.int)], fun b => match H b with | some (.tbl _) => none | o => o, fun b o e => ?_, .cons (.lst hS' (RpA.ints ns)) .nil, ⟨tb, fun b ps e => ?_⟩, ?_⟩
  · have e' : (match H b with | some (.tbl _) => none | o => o) = some o := e
    split at e'
    · cases e'
    · exact e'
  · have e' : (match H b with | some (.tbl _) => none | o => o) = some (.tbl ps) := e
    split at e'
    · cases e'
    · rename_i hn
      exact hn _ e'
  rw [h]
  intro v B' H' g rp
  cases rp
  rfl
theorem cx_false {P : Program} {w : World} (H : Hp) (s : Shared) (e : Value) (s' : Shared) (h : L2.CX P w [] H s (fun _ _ _ => False) e s') : False := by
  obtain ⟨_, _, _, _, _, _, _, _, _, _, _, _, z⟩ := h
  exact z
end DV
namespace DV
open PySem PySem.Spec PyProof.Rows L2

/-! ### t[::-1], a tuple -/
theorem rev_places (n : Nat) : Builtin.Slice.sliceAdjust none none (-1) (n : Int) = ((n : Int) - 1, -1) := by
  unfold Builtin.Slice.sliceAdjust
  have h1 : ((-1 : Int) < 0) := by omega
  simp only [h1, if_true]
theorem rev_count (n : Nat) : Builtin.Slice.slicePlaces ((n : Int) - 1) (-1) (-1) = n := by
  unfold Builtin.Slice.slicePlaces
  have h1 : ¬ ((-1 : Int) > 0) := by omega
  simp only [h1, if_false, Int.neg_neg, Int.ediv_one]
  split <;> omega
theorem fm_congr {α β : Type} {f g : α → Option β} : ∀ {l : List α}, (∀ a ∈ l, f a = g a) → l.filterMap f = l.filterMap g
  | [], _ => rfl
  | a :: l, h => by
    rw [List.filterMap_cons, List.filterMap_cons, h a (by simp), fm_congr fun b hb => h b (by simp [hb])]
theorem rev_pick (xs : Array Value) : ((List.range xs.size).filterMap fun (m : Nat) => xs[(((xs.size : Nat) : Int) - 1 + (m : Int) * (-1)).toNat]?).toArray = xs.toList.reverse.toArray := by
  congr 1
  have e : (List.range xs.size).filterMap (fun (m : Nat) => xs[(((xs.size : Nat) : Int) - 1 + (m : Int) * (-1)).toNat]?) = (List.range xs.size).filterMap (fun m => xs.toList.reverse[m]?) := by
    refine fm_congr fun m hm => ?_
    have hm' : m < xs.size := List.mem_range.mp hm
    have e1 : (((xs.size : Nat) : Int) - 1 + (m : Int) * (-1)).toNat = xs.size - 1 - m := by omega
    rw [e1, List.getElem?_reverse (by simpa using hm'), Array.getElem?_toList]
    simp
  rw [e]
  have : ∀ l : List Value, (List.range l.length).filterMap (fun m => l[m]?) = l := by
    intro l
    induction l with
    | nil => rfl
    | cons a l ih =>
      rw [List.length_cons, List.range_succ_eq_map, List.filterMap_cons, List.filterMap_map]
      simp only [List.getElem?_cons_zero]
      congr 1
  have h2 := this xs.toList.reverse
  rw [List.length_reverse, Array.length_toList] at h2
  exact h2
section
variable {prog : Program} {w : World} {A : Around} {E : Value → Shared → Prop} {s : Shared}
theorem getItem_tuple_rev {t sl : Addr} {items : Array Value} {vl vu vs : Value} {Q : Value → Shared → Prop} (ht : IsTup s.heap t items) (hs : s.heap.IsSliceOf sl vl vu vs) (pl : IsPart vl none) (pu : IsPart vu none) (ps : IsPart vs (some (-1)))
    (h : Q (.ref s.heap.objs.size) { s with heap := s.heap.push { cls := .type "tuple", data := .seq items.toList.reverse.toArray } })
    (hsz : items.size ≤ sizeLine) : wpAny (model prog w) A (getItem (.ref t) (.ref sl)) Q E s := by
  have htake : sizeOk (.seq items.toList.reverse.toArray) := by
    show (items.toList.reverse.toArray).size ≤ sizeLine
    simpa using hsz
  obtain ⟨os, hos, hcs, hds⟩ := id hs
  have hTs : s.TypeIs (.ref sl) "slice" := ⟨os, hos, hcs⟩
  unfold getItem
  try with_reducible refine wpAny_holding ?_
  first | refine wpAny_bind (wpAny_pure ?_) | skip
  refine wpAny_bind (wpAny_sequenceKey ht.typeIs (by decide) ?_)
  refine wpAny_bind (wpAny_callSpecial?_slot (name := Str.ofString "__getitem__") ht.typeIs slot_tuple_getitem
    (wpAny_call_entry slot_tuple_getitem ht.typeIs entry_tuple_getitem ?_ (args_tuple_getitem _ _)))
  show wpAny _ _ (Builtin.Tuple.tupleItemsOf (.ref t) >>= _) _ _ s
  refine wpAny_bind (tupleItemsOf_ ht ?_)
  refine wpAny_bind (wpAny_typeOf hTs ?_)
  rw [if_pos (by decide)]
  refine wpAny_bind ?_
  unfold Builtin.Slice.sliceApplied Builtin.Slice.sliceFields
  refine wpAny_bind (wpAny_bind (wpAny_field hos hds (x := vl) rfl (wpAny_bind (wpAny_field hos hds (x := vu) rfl (wpAny_bind (wpAny_field hos hds (x := vs) rfl (wpAny_pure ?_)))))))
  refine wpAny_bind (HT.slicePart_ ps ?_)
  show wpAny _ _ (if ((-1 : Int) == 0) = true then _ else _) _ _ s
  rw [if_neg (by decide)]
  refine wpAny_bind (HT.slicePart_ pl (wpAny_bind (HT.slicePart_ pu (wpAny_bind (wpAny_pure ?_)))))
  show wpAny _ _ (match Builtin.Slice.sliceAdjust none none (-1) (items.size : Int) with | (lo, hi) => pure (lo, (-1 : Int), Builtin.Slice.slicePlaces lo hi (-1))) _ _ s
  rw [rev_places]
  show wpAny _ _ (pure ((items.size : Int) - 1, (-1 : Int), Builtin.Slice.slicePlaces ((items.size : Int) - 1) (-1) (-1))) _ _ s
  rw [rev_count]
  refine wpAny_pure ?_
  have hno : ¬ (((items.size : Int) - 1 == 0 && (-1 : Int) == 1 && items.size == items.size) = true) := by simp
  show wpAny _ _ (if ((items.size : Int) - 1 == 0 && (-1 : Int) == 1 && items.size == items.size) = true then _ else _) _ _ s
  rw [if_neg hno, rev_pick]
  first
    | exact wpAny_bind (m := Builtin.Tuple.tupleExact _) (wpAny_newObj_type (wpAny_pure ⟨_, rfl, wpAny_pure h⟩) htake)
    | exact wpAny_bind (m := Builtin.Tuple.tupleExact _) (wpAny_newObj_type (wpAny_bind (wpAny_pure (wpAny_pure ⟨_, rfl, wpAny_pure h⟩))) htake)
    | exact wpAny_bind (wpAny_bind (m := Builtin.Tuple.tupleExact _) (wpAny_newObj_type (wpAny_pure (wpAny_pure ⟨_, rfl, wpAny_pure h⟩)) htake))
    | exact wpAny_bind (wpAny_bind (m := Builtin.Tuple.tupleExact _) (wpAny_newObj_type (wpAny_pure ⟨_, rfl, wpAny_pure h⟩) htake))
end
section
variable {X : Cx} {W : WX} {K : PySem.W.Frag}
def tRevT (K : PySem.W.Frag) (te : TE) : TE := fun σ H Q => te σ H fun x H1 => ∃ a xs, x = .ref a ∧ SqT K H1 a xs ∧ ∀ p, H1 p = none → Q (.ref p) (upd H1 p (.tup xs.reverse))
theorem pe_revT {e : Expr} {te : TE} {k : Nat} {p1 p2 p3 pos : Pos} (he : PE X e te) : PE X (.Subscript e (.Slice none none (some (.UnaryOp .USub (.Constant (.int 1) k p1) p2)) p3) pos) (tRevT X.K te) := by
  constructor
  intro pins s σ H Q I h
  refine Subscript_ (thn (he.run pins s σ H _ I h) fun v s1 ⟨x, H1, I1, r1, q1⟩ => ?_)
  obtain ⟨a, xs, rfl, hx, q⟩ := q1
  cases r1
  have hst : PO X (some (.UnaryOp .USub (.Constant (.int 1) k p1) p2)) (tPart (tUn (rU fun i => .int (-i)) (tC (.int 1)))) := po_some (pe_un un_neg pe_int)
  refine wpAny_Slice (thn (po_none.run pins s1 σ H1 (fun o H2 => o = none ∧ H2 = H1) I1 ⟨rfl, rfl⟩) fun vl s2 h2 => ?_)
  obtain ⟨l, H2, I2, pl, rfl, rfl⟩ := h2
  refine thn (po_none.run pins s2 σ H2 (fun o H3 => o = none ∧ H3 = H2) I2 ⟨rfl, rfl⟩) fun vu s3 h3 => ?_
  obtain ⟨u, H3, I3, pu, rfl, rfl⟩ := h3
  refine thn (hst.run pins s3 σ H3 (fun o H4 => o = some (-1) ∧ H4 = H3) I3 ⟨1, rfl, -1, rfl, rfl, rfl⟩) fun vs s4 h4 => ?_
  obtain ⟨o, H4, I4, ps, rfl, rfl⟩ := h4
  have I5 : Inv X pins σ H4 { s4 with heap := s4.heap.push { cls := .type "slice", data := .fields #[vl, vu, vs] } } := I4.kept (t' := s4.toks) fun b ob q => Heap.get?_push_of_some _ q
  obtain ⟨its, r, ht, hz⟩ := I5.tuple hx
  have hlen := r.length
  show wpAny (model X.prog X.w) X.A (subscriptTail e (.Slice none none (some (.UnaryOp .USub (.Constant (.int 1) k p1) p2)) p3) (.ref a) (.ref s4.heap.objs.size)) (EP X pins σ Q) X.xe _
  refine tail_any (ops := [.ref a, .ref s4.heap.objs.size]) ht.typeIs slot_tuple_getitem.lookup ?_ (by with_unfolding_all rfl)
  refine getItem_tuple_rev ht (Heap.IsSliceOf.new _ vl vu vs) pl pu ps ?_ (by rw [List.size_toArray]; omega)
  refine ⟨.ref _, _, I5.laid (t' := s4.toks) (o := .tup xs.reverse) (fun b ob q => Heap.get?_push_of_some _ q) (Nat.le_refl _) ?_, rfl, q _ (I5.hok.fresh (Nat.le_refl _))⟩
  exact ⟨by rw [List.length_reverse]; exact hz, _, r.reverse, IsTup.new _ _⟩
/-- x[::-1], a list or a tuple -/
def oRev : D → Res D
  | .lst xs => .ok (.lst xs.reverse)
  | .tup xs => .ok (.tup xs.reverse)
  | _ => .no
theorem pe_or {e : Expr} {t t' : TE} (h : PE X e t) (h' : PE X e t') : PE X e (fun σ H Q => t σ H Q ∨ t' σ H Q) :=
  ⟨fun pins s σ H Q I q => q.elim (h.run pins s σ H Q I) (h'.run pins s σ H Q I)⟩
theorem q_ce_rev {e : Expr} {k : Nat} {p1 p2 p3 pos : Pos} {te : TE} {f : DS → Res D} (he : CE X W e te f) : CE X W (.Subscript e (.Slice none none (some (.UnaryOp .USub (.Constant (.int 1) k p1) p2)) p3) pos) (fun σ H Q => tRevL X.K te σ H Q ∨ tRevT X.K te σ H Q) (cUn oRev f) :=
  ⟨pe_or (pe_revL he.pe) (pe_revT he.pe), fun B0 H0 δ σ B H Q rel hp => by
    unfold cUn at hp
    cases e : f δ with
    | no => rw [e] at hp; exact hp.elim
    | er x => rw [e] at hp; exact .inl (he.se B0 H0 δ σ B H _ rel (by rw [e]; exact hp))
    | ok d =>
      rw [e, Res.bind_ok] at hp
      unfold oRev at hp
      split at hp
      · refine .inl (he.se B0 H0 δ σ B H _ rel ?_)
        rw [e]
        intro v B1 H1 g1 r1
        cases r1 with
        | lst h1 q => exact ⟨_, _, rfl, g1.i.seq h1, fun p hp' => hp _ _ _ (g1.trans (Grow.new g1.i hp')) (.lst (SqL.of upd_same) (q.reverse.mono (Grow.new g1.i hp').b))⟩
      · refine .inr (he.se B0 H0 δ σ B H _ rel ?_)
        rw [e]
        intro v B1 H1 g1 r1
        cases r1 with
        | tup h1 q => exact ⟨_, _, rfl, sqT_mono g1.i h1, fun p hp' => hp _ _ _ (g1.trans (Grow.new g1.i hp')) (.tup (SqT.of upd_same) (q.reverse.mono (Grow.new g1.i hp').b))⟩
      · exact hp.elim⟩

theorem ce_rev (K : PySem.W.Frag) (hK : X.K = K) {e : Expr} {k : Nat} {p1 p2 p3 pos : Pos} {te : TE} {f : DS → Res D} (he : CE X W e te f) : CE X W (.Subscript e (.Slice none none (some (.UnaryOp .USub (.Constant (.int 1) k p1) p2)) p3) pos) (fun σ H Q => tRevL K te σ H Q ∨ tRevT K te σ H Q) (cUn oRev f) := by
  subst hK
  exact (q_ce_rev he)
/-! ### divmod, range by steps, zip -/
def gDivmod : List D → Res D
  | [.v (.int i), .v (.int j)] => if 0 < j ∧ j.natAbs < 1073741824 then .ok (.tup [.int (i / j), .int (i % j)]) else .no
  | _ => .no
theorem k_divmod : OKC X (.builtin "divmod") (fun xs H Q => ∃ i j, xs = [.int i, .int j] ∧ CDiv i j ∧ ∀ p, H p = none → Q (.ref p) (upd H p (.tup [.int (i / j), .int (i % j)]))) gDivmod := ⟨call_divmod, fun vs ds B H Q i r h => by
  unfold gDivmod at h
  split at h
  · split at h
    · rename_i hz
      cases r with
      | cons r1 r2 =>
        cases r2 with
        | cons r2 r3 => cases r1; cases r2; cases r3; exact ⟨_, _, rfl, ⟨hz.1, by omega⟩, fun p hp => h _ _ _ (Grow.new i hp) (.tup (SqT.of upd_same) (.cons (.v _) (.cons (.v _) .nil)))⟩
    · exact h.elim
  · exact h.elim, fun ds x => by unfold gDivmod; split <;> (try split) <;> simp⟩
def stepsD (i c : Int) (n : Nat) : List D := (List.range n).map fun (k : Nat) => D.int (i + (k : Int) * c)
def steps3 (i j c : Int) : Nat := if i < j then ((j - i - 1) / c + 1).toNat else 0
def gRange3 : List D → Res (List D)
  | [.v (.int i), .v (.int j), .v (.int c)] => if 0 < c ∧ c.natAbs ≤ 1000000 ∧ i.natAbs ≤ 1000000 ∧ j.natAbs ≤ 1000000 then .ok (stepsD i c (steps3 i j c)) else .no
  | _ => .no
theorem rgC_up {i j c : Int} (h : 0 < c ∧ c.natAbs ≤ 1000000 ∧ i.natAbs ≤ 1000000 ∧ j.natAbs ≤ 1000000) : RgC i j c (steps3 i j c) := by
  have h0 : c > 0 := h.1
  have e : Builtin.Range.rangeSize i j c = (steps3 i j c : Int) := by
    unfold Builtin.Range.rangeSize steps3
    rw [if_pos h0]
    split
    · have := Int.ediv_nonneg (a := j - i - 1) (b := c) (by omega) (by omega)
      omega
    · rfl
  have hn : (steps3 i j c : Int) ≤ 3000000 := by
    unfold steps3
    split
    · have h1 := Int.ediv_nonneg (a := j - i - 1) (b := c) (by omega) (by omega)
      have h2 := Int.ediv_le_self c (a := j - i - 1) (by omega)
      omega
    · decide
  refine ⟨by omega, by omega, ?_, e⟩
  unfold Builtin.Range.small
  rw [e]
  simp only [Builtin.Range.rangeFitsLong, Bool.and_eq_true, Bool.or_eq_true, decide_eq_true_eq, beq_iff_eq, h0, if_true]
  omega
theorem ci_range3 {tg a b c : Expr} {p pos : Pos} {t : TA} {f : DS → Res (List D)} (hm : X.mg "range" = none) (ha : CL X W [a, b, c] t f) (hg : Gl X "range" := by rfl)
    (hs : starEach [a, b, c] X.env = (false, eval a X.env) :: starEach [b, c] X.env := by rfl) (hpl : (backTo pos (starEach [b, c] X.env)).any (·.1) = false := by rfl) : CI X W tg (.Call (.Name "range" p) [a, b, c] [] pos) (iRng3 t) (cIt gRange3 f) :=
  ⟨pi_range3 hg hm ha.pa hs hpl, fun B0 H0 δ σ B H R rel hp => by
    unfold cIt at hp
    refine ha.sa B0 H0 δ σ B H _ rel ?_
    cases e : f δ with
    | no => rw [e] at hp; exact hp
    | er x => rw [e] at hp; exact hp
    | ok ds =>
      rw [e, Res.bind_ok] at hp
      intro vs B1 H1 g1 r1
      unfold gRange3 at hp
      split at hp
      · split at hp
        · rename_i i j c hz
          cases r1 with
          | cons r1 r2 =>
            cases r2 with
            | cons r2 r3 =>
              cases r3 with
              | cons r3 r4 =>
                cases r1; cases r2; cases r3; cases r4
                refine ⟨i, j, c, steps3 i j c, rfl, rgC_up hz, ?_⟩
                have hl : (stepsD i c (steps3 i j c)).length = steps3 i j c := by simp [stepsD]
                refine hp _ B1 H1 _ _ g1 (by rw [hl]; exact walk_rangeC) (fun _ _ => trivial) fun k d B2 H2 x H3 hi s1 s2 y => ?_
                obtain ⟨rfl, rfl⟩ := y
                refine ⟨B2, Grow.refl s2, ?_⟩
                unfold stepsD at hi
                rw [List.getElem?_map] at hi
                cases e : (List.range (steps3 i j c))[k]? with
                | none => rw [e] at hi; cases hi
                | some m =>
                  rw [e] at hi
                  have : m = k := by
                    obtain ⟨h1, h2⟩ := List.getElem?_eq_some_iff.mp e
                    simp at h2
                    exact h2.symm
                  subst this
                  cases hi
                  exact .v _
        · exact hp.elim
      · exact hp.elim⟩
def pairsD : List D → List D → List D
  | a :: as, b :: bs => .tup [a, b] :: pairsD as bs
  | _, _ => []
theorem pairsD_length : ∀ (as bs : List D), (pairsD as bs).length = min as.length bs.length
  | [], bs => by simp [pairsD]
  | a :: as, [] => by simp [pairsD]
  | a :: as, b :: bs => by simp [pairsD, pairsD_length as bs]
theorem pairsD_get : ∀ {as bs : List D} {i : Nat} {d : D}, (pairsD as bs)[i]? = some d → ∃ a b, as[i]? = some a ∧ bs[i]? = some b ∧ d = .tup [a, b]
  | [], bs, i, d, h => by simp [pairsD] at h
  | a :: as, [], i, d, h => by simp [pairsD] at h
  | a :: as, b :: bs, 0, d, h => by simp [pairsD] at h; exact ⟨a, b, rfl, rfl, h.symm⟩
  | a :: as, b :: bs, i + 1, d, h => by
    simp [pairsD] at h
    obtain ⟨x, y, h1, h2, h3⟩ := pairsD_get h
    exact ⟨x, y, by simpa using h1, by simpa using h2, h3⟩
def gZip : List D → Res (List D)
  | [.lst as, .lst bs] => .ok (pairsD as bs)
  | [.tup as, .tup bs] => .ok (pairsD as bs)
  | _ => .no
theorem walk_zipT {a b : Addr} {xs ys : List V} {n : Nat} (hn : n = min xs.length ys.length) : Walk (RZ.ItzT K a b) n (fun H => SqT K H a xs ∧ SqT K H b ys) (YPair (fun i => xs[i]?) (fun i => ys[i]?)) := by
  refine ⟨fun i H hi ⟨h1, h2⟩ => ?_, fun H ⟨h1, h2⟩ => ⟨xs, ys, h1, h2, by omega⟩, fun i H v H' hi ⟨h1, h2⟩ y => ?_⟩
  · have l1 : i < xs.length := by omega
    have l2 : i < ys.length := by omega
    exact ⟨xs, ys, xs[i], ys[i], h1, h2, by simp [l1], by simp [l2]⟩
  · obtain ⟨T, x, y, e1, e2, e3, q1, q2⟩ := y
    exact ⟨T, x, y, e1, e2, e3, q1 xs h1, q2 ys h2⟩
theorem yields_pair {B1 : Hp} {xs ys : List V} {as bs : List D} (q1 : RpA K B1 xs as) (q2 : RpA K B1 ys bs) : ∀ (i : Nat) (d : D) (B2 H2 : Hp) (x : V) (H3 : Hp), (pairsD as bs)[i]? = some d → Same B1 B2 → Same B2 H2 → YPair (fun i => xs[i]?) (fun i => ys[i]?) i H2 x H3 → ∃ B3, Grow B2 H2 B3 H3 ∧ Rp K B3 x d := by
  intro i d B2 H2 x H3 hi s1 s2 y
  obtain ⟨T, u, v, rfl, hT, rfl, hx, hy⟩ := y
  obtain ⟨a, b, ha, hb, rfl⟩ := pairsD_get hi
  obtain ⟨a', ea, ra⟩ := q1.get' hx
  obtain ⟨b', eb, rb⟩ := q2.get' hy
  rw [ea] at ha
  rw [eb] at hb
  cases ha
  cases hb
  exact ⟨upd B2 T (.tup [u, v]), Grow.new s2 hT, .tup (SqT.of upd_same) (.cons ((ra.mono s1).mono (Grow.new s2 hT).b) (.cons ((rb.mono s1).mono (Grow.new s2 hT).b) .nil))⟩
theorem q_ci_zip {e e2 : Expr} {t : TA} {f : DS → Res (List D)} {p pos tpos : Pos} {elts : List Expr} {kk : Nat} (hm : X.mg "zip" = none) (ha : CL X W [e, e2] t f) (hg : Gl X "zip" := by rfl)
    (hs : starEach [e, e2] X.env = (false, eval e X.env) :: starEach [e2] X.env := by rfl) (hpl : (backTo pos (starEach [e2] X.env)).any (·.1) = false := by rfl) : CI X W (.Tuple elts kk tpos) (.Call (.Name "zip" p) [e, e2] [] pos) (RZ.iZipA X.K t) (cIt gZip f) :=
  ⟨RZ.pi_zipA hg hm ha.pa hs hpl, fun B0 H0 δ σ B H R rel hp => by
    unfold cIt at hp
    refine ha.sa B0 H0 δ σ B H _ rel ?_
    cases e : f δ with
    | no => rw [e] at hp; exact hp
    | er x => rw [e] at hp; exact hp
    | ok ds =>
      rw [e, Res.bind_ok] at hp
      intro vs B1 H1 g1 r1
      unfold gZip at hp
      split at hp
      · cases r1 with
        | cons r1 r2 =>
          cases r2 with
          | cons r2 r3 =>
            cases r3
            cases r1 with
            | lst h1 q1 =>
              cases r2 with
              | lst h2 q2 =>
                refine ⟨_, _, _, _, rfl, .inl ⟨g1.i.seq h1, g1.i.seq h2, ?_⟩⟩
                exact hp _ B1 H1 _ _ g1 (walk_zip (by rw [pairsD_length, q1.length, q2.length])) (fun H2 s2 => ⟨s2.seq h1, s2.seq h2⟩) (yields_pair q1 q2)
      · cases r1 with
        | cons r1 r2 =>
          cases r2 with
          | cons r2 r3 =>
            cases r3
            cases r1 with
            | tup h1 q1 =>
              cases r2 with
              | tup h2 q2 =>
                refine ⟨_, _, _, _, rfl, .inr ⟨sqT_mono g1.i h1, sqT_mono g1.i h2, ?_⟩⟩
                exact hp _ B1 H1 _ _ g1 (walk_zipT (by rw [pairsD_length, q1.length, q2.length])) (fun H2 s2 => ⟨sqT_mono s2 h1, sqT_mono s2 h2⟩) (yields_pair q1 q2)
      · exact hp.elim⟩
theorem ci_zip (K : PySem.W.Frag) (hK : X.K = K) {e e2 : Expr} {t : TA} {f : DS → Res (List D)} {p pos tpos : Pos} {elts : List Expr} {kk : Nat} (hm : X.mg "zip" = none) (ha : CL X W [e, e2] t f) (hg : Gl X "zip" := by rfl)
    (hs : starEach [e, e2] X.env = (false, eval e X.env) :: starEach [e2] X.env := by rfl) (hpl : (backTo pos (starEach [e2] X.env)).any (·.1) = false := by rfl) : CI X W (.Tuple elts kk tpos) (.Call (.Name "zip" p) [e, e2] [] pos) (RZ.iZipA K t) (cIt gZip f) := by
  subst hK
  exact (q_ci_zip hm ha hg hs hpl)
end
end DV
namespace DV
open PySem L2 PySem.Spec PySem.Calls PyProof.Rows Builtin Builtin.ObjectAttr

/-! ### an own class over any of the builtin exceptions -/
structure OexB (K : PySem.W.Frag) (C : Addr) : Prop where
  base : ∃ (B newId initId : String) (bmB : List Value), ExcBaseFacts B newId initId bmB ∧ PySem.StoreFacts B bmB "object.__setattr__" "object" ∧ PySem.W.excInitIn K C bmB newId = true ∧ PySem.W.excOver K C bmB = true
  hd : PySem.W.hasDictIn K C = true
  sa : PySem.W.findIn K (.ref C) "__setattr__" = some (some (.builtin "object.__setattr__"))
  ex : PySem.W.subIn K (.ref C) (.type "BaseException") = some true
  ty : PySem.W.typeIn K (.ref C) = some (.type "type")
  kp : PySem.W.keepIn K (.ref C) = true

section
variable {prog : Program} {w : World} {A : Around} {R : Result → Shared → Prop} {hp : Heap} {g : Array GenState} {d : Drawn} {t : Nat} {os : OsState} {B : String} {bmB : List Value}
theorem taker_none {K : PySem.W.Frag} {C : Addr} {n : Str} (h : PySem.W.findIn K (.ref C) n = some none) : PySem.W.takerIn K C n = some none := by
  unfold PySem.W.takerIn
  rw [h]
  rfl
/-- the first store -/
theorem osaB_new {K : PySem.W.Frag} {n : Str} {tk : Tok} {v : Value} {x C : Addr} {fv : Array Value} (SF : PySem.StoreFacts B bmB "object.__setattr__" "object") (X : K.In hp) (hx : hp.get? x = some { cls := .ref C, data := .fields fv })
    (ho : PySem.W.excOver K C bmB = true) (hh : PySem.W.hasDictIn K C = true) (ha : PySem.W.findIn K (.ref C) n = some none)
    (hq : ∀ h' tk' dx, (∀ b o, b ≠ x → hp.get? b = some o → h'.get? b = some o) → hp.objs.size ≤ dx → dx ≠ x → h'.get? x = some { cls := .ref C, dict := some dx, data := .fields fv } → h'.Ns1 dx (fun y => if y = n then some v else none) → R (.ok (.ret .none)) ⟨h', g, d, tk', os⟩) :
    codeAny (model prog w) A (.call (.builtin "object.__setattr__") ⟨[.ref x, .str n tk, v], []⟩) R ⟨hp, g, d, t, os⟩ := by
  have hxs : x ≠ hp.objs.size := Nat.ne_of_lt (Heap.lt_size hx)
  refine PySem.W.osa_openX (od := none) SF X ⟨hx, rfl, rfl, trivial⟩ ho (taker_none ha) fun b => ?_
  obtain ⟨cd, hc, hd'⟩ := PySem.W.any_some hh
  have hcls : PySem.W.Looks (model prog w) hp (classData C) cd := PySem.W.looks_clsIn X hc
  obtain ⟨nm, bs, mro, ns, qn, hdd, sn, sb, ab, col, del⟩ := cd
  dsimp only at hd'
  subst hd'
  show wpAny _ _ (storeInOwnDict (.ref x) (.ref C) (.str n tk) n v b) _ _ _
  unfold storeInOwnDict ownDictForStores
  repeat (first | with_reducible refine PySem.HandSPX.store_in_new ?_ ?_ | with_reducible refine wpAny_loadPart_at hx ?_ | with_reducible refine hcls.at ?_ | wp_step)
  · exact ⟨_, #[], _, (Heap.get?_update_ne _ _ _ _ hxs.symm).trans (Heap.get?_push_at rfl rfl), rfl, fun e he => absurd he (by simp), fun _ => rfl⟩
  · intro h' tk' hn' hs
    refine hq h' tk' hp.objs.size (fun b o hb q => ?_) (Nat.le_refl _) hxs.symm ?_ hn'
    · exact (hs.2 b (Nat.ne_of_lt (Heap.lt_size q))).trans ((Heap.get?_update_ne _ _ _ _ hb).trans (Heap.get?_push_of_some _ q))
    · exact (hs.2 x hxs).trans (Heap.get?_update_self _ (Heap.get?_push_of_some _ hx) rfl)
/-- a further store -/
theorem osaB_old {K : PySem.W.Frag} {n : Str} {tk : Tok} {v : Value} {x C dx : Addr} {fv : Array Value} {m0 : Str → Option Value} {nl : List Str} (SF : PySem.StoreFacts B bmB "object.__setattr__" "object") (X : K.In hp) (hx : hp.get? x = some { cls := .ref C, dict := some dx, data := .fields fv })
    (hns : hp.Ns1 dx m0) (hw : Within m0 nl) (hz : nl.length ≤ 1000) (ho : PySem.W.excOver K C bmB = true) (hh : PySem.W.hasDictIn K C = true) (ha : PySem.W.findIn K (.ref C) n = some none)
    (hq : ∀ h' tk', (∀ b o, b ≠ dx → hp.get? b = some o → h'.get? b = some o) → h'.Ns1 dx (fun y => if y = n then some v else m0 y) → R (.ok (.ret .none)) ⟨h', g, d, tk', os⟩) :
    codeAny (model prog w) A (.call (.builtin "object.__setattr__") ⟨[.ref x, .str n tk, v], []⟩) R ⟨hp, g, d, t, os⟩ := by
  obtain ⟨oD, esD, epD, hoD, hdD, _⟩ := hns.count hw
  refine PySem.W.osa_openX (od := some oD) SF X ⟨hx, rfl, rfl, hoD⟩ ho (taker_none ha) fun b => ?_
  obtain ⟨cd, hc, hd'⟩ := PySem.W.any_some hh
  have hcls : PySem.W.Looks (model prog w) hp (classData C) cd := PySem.W.looks_clsIn X hc
  obtain ⟨nm, bs, mro, ns, qn, hdd, sn, sb, ab, col, del⟩ := cd
  dsimp only at hd'
  subst hd'
  show wpAny _ _ (storeInOwnDict (.ref x) (.ref C) (.str n tk) n v b) _ _ _
  unfold storeInOwnDict ownDictForStores
  repeat (first | with_reducible refine PySem.OEX.store_in_old hns hw hz ?_ | with_reducible refine wpAny_loadPart_at hx ?_ | with_reducible refine hcls.at ?_ | wp_step)
  intro h' tk' hn' hs
  exact hq h' tk' (fun b o hb q => (hs.2 b hb).trans q) hn'
end

section
variable {X : Cx} {pins : List (Addr × Obj)} {σ : L2.St} {H : Hp} {s : Shared} {a C dx : Addr} {f : Str} {y : V} {u : Value} {fs : List (Str × V)} {Q : Unit → Shared → Prop} {E : Value → Shared → Prop} {A : Around}
theorem ostB_new (T : OexB X.K C) (I : Inv X pins σ H s) (e : H a = some (exo a C none)) (hno : PySem.W.findIn X.K (.ref C) f = some none) (ry : RelV y u)
    (h : ∀ dx s', H dx = none → dx ≠ a → Inv X pins σ (upd (upd H dx (exd dx [(f, y)])) a (exo a C (some dx))) s' → Q () s') : wpAny (model X.prog X.w) A (setAttr (.ref a) f u) Q E s := by
  obtain ⟨B, newId, initId, bmB, -, SF, -, ov⟩ := T.base
  obtain ⟨t1, ho⟩ := exo_at I.hok e
  obtain ⟨hp, g, d, t, os⟩ := s
  refine PySem.W.set_plain I.kIn (od := none) ⟨ho, rfl, rfl, trivial⟩ T.sa (osaB_new SF I.kIn ho ov T.hd hno fun h' tk' dx k dn dne hx hn => ?_)
  have hnd : H dx = none := I.hok.fresh dn
  have nd : ∀ b o, hp.get? b = some o → b ≠ dx := fun b o q => Nat.ne_of_lt (Nat.lt_of_lt_of_le (Heap.lt_size q) dn)
  have na : ∀ b, H b = none → b ≠ a := fun b n z => by rw [z, e] at n; cases n
  have U : Un X.fs [] H (upd (upd H dx (exd dx [(f, y)])) a (exo a C (some dx))) hp h' := by
    refine ⟨fun b o q n _ _ => k b o (na b n) q, fun b o q n _ _ => ⟨o.slots, k b o (na b n) q⟩, fun b o q n _ => ?_, fun b o q _ => ?_, fun b xs q => ?_, fun b o v q => ?_, fun b ps q => ⟨#[], ?_⟩⟩
    · rw [upd_ne (na b n), upd_ne (nd b o q), n]
    · by_cases hb : b = a
      · subst hb; exact ⟨_, hx⟩
      · exact ⟨o, k b o hb q⟩
    · rw [upd_ne (at_ne e q exo_tup), upd_ne (ne_of_none q hnd), q]
    · rw [upd_ne (at_ne e q exo_frz), upd_ne (ne_of_none q hnd), q]
    · rw [upd_ne (at_ne e q exo_tbl), upd_ne (ne_of_none q hnd), q]; simp
  refine h dx _ hnd dne (I.un (t' := tk') U fun b o q => ?_)
  by_cases hb : b = a
  · subst hb; rw [upd_same] at q; cases q; exact exo_ok hx
  · rw [upd_ne hb] at q
    by_cases hd : b = dx
    · subst hd; rw [upd_same] at q; cases q; exact exd_ok hn (relO_put (fs := []) ry fun g => True.intro)
    · rw [upd_ne hd] at q
      refine (I.hok b o q).stay (fun c v hc z => k c v ?_ z) (fun c hc => ?_) (fun c xs hc => ?_)
      · rcases hc with hc | hc
        · exact fun z => hb (hc ▸ z)
        · exact at_ne e hc exo_own
      · rw [upd_ne (at_ne e hc exo_own), upd_ne (ne_of_none hc hnd), hc]
      · rw [upd_ne (at_ne e hc exo_tup), upd_ne (ne_of_none hc hnd), hc]
theorem ostB_old (T : OexB X.K C) (I : Inv X pins σ H s) (e : H a = some (exo a C (some dx))) (ed : H dx = some (exd dx fs)) (hl : fs.length ≤ 900) (hno : PySem.W.findIn X.K (.ref C) f = some none) (ry : RelV y u)
    (h : ∀ s', Inv X pins σ (upd H dx (exd dx ((f, y) :: fs))) s' → Q () s') : wpAny (model X.prog X.w) A (setAttr (.ref a) f u) Q E s := by
  obtain ⟨B, newId, initId, bmB, -, SF, -, ov⟩ := T.base
  obtain ⟨t1, ho⟩ := exo_at I.hok e
  obtain ⟨mA, hns, rel⟩ := exd_at I.hok ed
  obtain ⟨hp, g, d, t, os⟩ := s
  obtain ⟨oD, _, _, hoD, _, _⟩ := hns.count (within_of rel)
  refine PySem.W.set_plain I.kIn (od := some oD) ⟨ho, rfl, rfl, hoD⟩ T.sa (osaB_old SF I.kIn ho hns (within_of rel) (by rw [List.length_map]; omega) ov T.hd hno fun h' tk' k hn => ?_)
  have hd : ∃ o, h'.get? dx = some o := by
    obtain ⟨o, _, _, e', _⟩ := hn
    exact ⟨o, e'⟩
  exact h _ (I.write (t' := tk') (x := dx) (e := dx) (o := exd dx ((f, y) :: fs)) (by rw [ed]; exact True.intro) (.inl rfl) k hd (exd_ok hn (relO_put ry rel)))
end

/-! ### __init__ -/
/-- self.f = e -/
def tOsB (K : PySem.W.Frag) (f : Str) (to te : TE) : TS := fun D σ H => te σ H fun y H1 => to σ H1 fun x H2 => ∃ a C : Addr, x = .ref a ∧ OexB K C ∧ PySem.W.findIn K (.ref C) f = some none ∧
  ((H2 a = some (exo a C none) ∧ ∀ dx, H2 dx = none → dx ≠ a → D.nx σ (upd (upd H2 dx (exd dx [(f, y)])) a (exo a C (some dx)))) ∨
    ∃ (dx : Addr) (fs : List (Str × V)), H2 a = some (exo a C (some dx)) ∧ H2 dx = some (exd dx fs) ∧ fs.length ≤ 900 ∧ D.nx σ (upd H2 dx (exd dx ((f, y) :: fs))))
theorem ps_osB {X : Cx} {o e : Expr} {to te : TE} {f : Str} {p' pos : Pos} (ho : PE X o to) (he : PE X e te) (hs : swapsWith e (some (.Attribute o f p')) pos.line X.env = pure false := by rfl) : PS X (.Assign [.Attribute o f p'] e pos) (tOsB X.K f to te) := by
  refine ⟨fun pins s σ H D I h => ?_⟩
  refine plainObj_wpAny_Assign_Attribute (thn (he.run pins s σ H _ I h) fun v s1 ⟨y, H1, I1, r1, q1⟩ => thn (ho.run pins s1 σ H1 _ I1 q1) fun u s2 ⟨x, H2, I2, r2, a, C, ex, T, hno, q⟩ => ?_) hs
  subst ex
  obtain rfl : u = Value.ref a := r2
  rcases q with ⟨ea, q⟩ | ⟨dx, fs, ea, ed, hl, q⟩
  · exact ostB_new T I2 ea hno r1 fun dx s' n ne J => ⟨σ, _, J, q dx n ne⟩
  · exact ostB_old T I2 ea ed hl hno r1 fun s' J => ⟨σ, _, J, q⟩
/-- what an __init__ keeps: ff tells the fields by the arguments, the last stored first -/
def spI (K : PySem.W.Frag) (C : Addr) (n : Nat) (ff : List V → List (Str × V)) : Sp := fun vs H Q _ => vs.length = n + 1 ∧ ∃ a ws, vs = .ref a :: ws ∧ H a = some (exo a C none) ∧ ∀ d H', H d = none → d ≠ a → H' a = some (exo a C (some d)) → H' d = some (exd d (ff ws)) → (∀ b, b ≠ a → b ≠ d → H' b = H b) → Q .non H'
section
variable {P : Program} {w : World} {K : PySem.W.Frag} {mg : Str → Option Value} {base : Heap}
/-- def __init__(self): self.f = 'z' -/
theorem init1_ok {qual f z : Str} {st : Stmt} {fI C : Addr} {fd : FuncData} {k : Nat} (F : Fun K "__init__" qual st fI fd) (S : FnScope ["self"] ["self"] (defScope st)) (T : OexB K C) (hno : PySem.W.findIn K (.ref C) f = some none)
    (hb : ∀ (cdv : Value) (A : Around) (outer : List Env) (s : Shared) (H : Hp) (E : XK), PSs (cxOf (L2.CX P w) P w K mg base ["self"] qual (defScope st) fI cdv A outer s H E) (defBody st) (tOsB K f (tVar 0) (tC (.str z)))) :
    FnOk P w K mg base (L2.CX P w) (k + 1) fI fd ["self"] (spI K C 0 fun _ => [(f, .str z)]) := by
  refine F.okX S (fun vs H Q E h => h.1) fun cdv A outer s H vs Q E hr h => ⟨_, hb cdv A outer s H E, ?_⟩
  obtain ⟨hl, a, ws, rfl, ha, hq⟩ := h
  refine ⟨.ref a, rfl, a, C, rfl, T, hno, .inl ⟨ha, fun dx hn hne => hq dx _ hn hne upd_same ?_ fun b b1 b2 => ?_⟩⟩
  · rw [upd_ne hne, upd_same]
  · rw [upd_ne b1, upd_ne b2]
/-- def __init__(self, x): self.f = 'z'; self.g = x -/
theorem init2_ok {qual f g z x : Str} {st : Stmt} {fI C : Addr} {fd : FuncData} {k : Nat} (F : Fun K "__init__" qual st fI fd) (S : FnScope ["self", x] ["self", x] (defScope st)) (T : OexB K C) (hno : PySem.W.findIn K (.ref C) f = some none) (hno2 : PySem.W.findIn K (.ref C) g = some none)
    (hb : ∀ (cdv : Value) (A : Around) (outer : List Env) (s : Shared) (H : Hp) (E : XK), PSs (cxOf (L2.CX P w) P w K mg base ["self", x] qual (defScope st) fI cdv A outer s H E) (defBody st) (tSeq (tOsB K f (tVar 0) (tC (.str z))) (tOsB K g (tVar 0) (tVar 1)))) :
    FnOk P w K mg base (L2.CX P w) (k + 1) fI fd ["self", x] (spI K C 1 fun ws => [(g, ws.getD 0 .non), (f, .str z)]) := by
  refine F.okX S (fun vs H Q E h => h.1) fun cdv A outer s H vs Q E hr h => ⟨_, hb cdv A outer s H E, ?_⟩
  obtain ⟨hl, a, ws, rfl, ha, hq⟩ := h
  obtain ⟨v, rfl⟩ : ∃ v, ws = [v] := by
    match ws, hl with
    | [v], _ => exact ⟨v, rfl⟩
  refine ⟨.ref a, rfl, a, C, rfl, T, hno, .inl ⟨ha, fun dx hn hne => ?_⟩⟩
  refine ⟨v, rfl, .ref a, rfl, a, C, rfl, T, hno2, .inr ⟨dx, [(f, .str z)], upd_same, ?_, by show (1 : Nat) ≤ 900; decide, ?_⟩⟩
  · rw [upd_ne hne, upd_same]
  · refine hq dx _ hn hne ?_ upd_same fun b b1 b2 => ?_
    · rw [upd_ne (Ne.symm hne), upd_same]
    · rw [upd_ne b2, upd_ne b1, upd_ne b2]
end

/-! ### C(e, ..), raised -/
def tMkB (C : Addr) (n : Nat) (ff : List V → List (Str × V)) (ta : TA) : L2.St → Hp → XK → Prop := fun σ H Q => ta σ H fun vs H1 => vs.length = n ∧ n ≤ 1000 ∧ ∀ d, H1 d = none → Q (.ref C) (some d) (upd H1 d (.xd (ff vs)))
section
variable {X : Cx} {x : Str} {C fI : Addr} {k n : Nat} {fd : FuncData} {ps : List Str} {ff : List V → List (Str × V)} {ta : TA} {p pos : Pos} {e : Expr} {es : List Expr}
theorem mkB_run {pins : List (Addr × Obj)} {σ : L2.St} {H1 : Hp} {s1 : Shared} {Q : XK} {us : List Value} {vs : List V} (T : OexB X.K C) (iC : PySem.W.findIn X.K (.ref C) "__init__" = some (some (.ref fI))) (tI : PySem.W.typeIn X.K (.ref fI) = some (.type "function"))
    (F1 : FnOk X.prog X.w X.K X.mg X.base (L2.CX X.prog X.w) k fI fd ps (spI X.K C n ff)) (hr : Room (k + 1) X.A) (hb : Binds X.K fd ps []) (I1 : Inv X pins σ H1 s1) (r1 : Vals vs us) (hv : vs.length = n) (hn1 : n ≤ 1000) (q1 : ∀ d, H1 d = none → Q (.ref C) (some d) (upd H1 d (.xd (ff vs)))) :
    wpAny (model X.prog X.w) X.A (call (.ref C) us) (MkP X pins σ Q) X.xe s1 := by
  obtain ⟨B, newId, initId, bmB, FB, -, hI, -⟩ := T.base
  obtain ⟨nm, N, qn, bs, bm, hdct, sn, sub, ab, col, dd, k0, k1, k2, k3, k5, hC, hT⟩ := PySem.W.excInit_of I1.kIn hI
  obtain ⟨hp, g, dr, tk, os⟩ := s1
  have hsz : hp.objs.size ≤ hp.objs.size + 1 := Nat.le_succ _
  have hn : H1 (hp.objs.size + 1) = none := I1.hok.fresh hsz
  have kk : ∀ b o, hp.get? b = some o → ((hp.push (PySem.W.kdv_tup us)).push (PySem.HandSPX.excO C hp.objs.size)).get? b = some o := fun b o z => Heap.get?_push_of_some _ (Heap.get?_push_of_some _ z)
  have hget : ((hp.push (PySem.W.kdv_tup us)).push (PySem.HandSPX.excO C hp.objs.size)).get? (hp.objs.size + 1) = some (PySem.HandSPX.excO C hp.objs.size) := by heap_get
  have I2 := I1.laid (t' := tk) (a := hp.objs.size + 1) (o := exo (hp.objs.size + 1) C none) (h' := (hp.push (PySem.W.kdv_tup us)).push (PySem.HandSPX.excO C hp.objs.size)) kk hsz (exo_ok hget)
  have hq : spI X.K C n ff (.ref (hp.objs.size + 1) :: vs) (upd H1 (hp.objs.size + 1) (exo (hp.objs.size + 1) C none)) (fun v H2 => v = .non ∧ ∃ (d : Addr), H2 (hp.objs.size + 1) = some (exo (hp.objs.size + 1) C (some d)) ∧ H2 d = some (exd d (ff vs)) ∧ H1 d = none ∧ Q (.ref C) (some d) (upd (del H2 (hp.objs.size + 1)) d (.xd (ff vs)))) (fun _ _ _ => False) := by
    refine ⟨by rw [List.length_cons, hv], _, vs, rfl, upd_same, fun d H2 hd hne e1 e2 e3 => ⟨rfl, d, e1, e2, ?_, ?_⟩⟩
    · rw [upd_ne hne] at hd; exact hd
    · rw [upd_ne hne] at hd
      have eH : upd (del H2 (hp.objs.size + 1)) d (.xd (ff vs)) = upd H1 d (.xd (ff vs)) := by
        funext b
        by_cases b1 : b = d
        · subst b1; rw [upd_same, upd_same]
        · rw [upd_ne b1, upd_ne b1]
          by_cases b2 : b = hp.objs.size + 1
          · subst b2; rw [del_same, hn]
          · rw [del_ne b2, e3 b b2 b1, upd_ne b2]
      rw [eH]
      exact q1 d hd
  have r2 : Vals (V.ref (hp.objs.size + 1) :: vs) (Value.ref (hp.objs.size + 1) :: us) := .cons rfl r1
  have hl : (Value.ref (hp.objs.size + 1) :: us).length = ps.length := by
    have z := r2.length
    rw [F1.len _ _ _ _ hq] at z
    exact z.symm
  have b2 := hb _ (Value.ref (hp.objs.size + 1) :: us) I2.kIn (by rw [List.append_nil]; exact hl)
  rw [List.append_nil] at b2
  refine wpAny_call (PySem.HandSPX.call_own FB hT hC (PySem.W.looks_findIn I1.kIn iC) (fun self => PySem.W.bind_fn I1.kIn self tI) (by rw [← Paired.length r1, hv, sizeLine_eq]; omega)
    (codeAny_mono (F1.run _ X.stack _ _ ⟨Value.ref (hp.objs.size + 1) :: us, []⟩ _ _ _ (fun _ _ _ => False) (hr.make C us []) (I2.env0.make C us []) b2 r2 hq) fun r s' hq' => ?_))
  cases r with
  | error er => exact (passL pins σ _ _ er s' I2 hq')
  | ok fl =>
    cases fl with
    | ret u =>
      obtain ⟨v, H2, os2, bare2, un2, hok2, rv, ev, d, ea, ed, hd1, q2⟩ := hq'
      subst ev
      obtain ⟨h2, g2, d2, t2, os'⟩ := s'
      exact ⟨rv, mk_end (raises_own T.ex T.ty) I1 hsz kk un2 hok2 os2 bare2 ea ed hd1 q2⟩
    | next => exact False.elim hq'
    | brk => exact False.elim hq'
    | cont => exact False.elim hq'
theorem pmkB0 (T : OexB X.K C) (iC : PySem.W.findIn X.K (.ref C) "__init__" = some (some (.ref fI))) (tI : PySem.W.typeIn X.K (.ref fI) = some (.type "function"))
    (F1 : FnOk X.prog X.w X.K X.mg X.base (L2.CX X.prog X.w) k fI fd ps (spI X.K C 0 ff)) (hr : Room (k + 1) X.A) (hb : Binds X.K fd ps []) (hm : X.mg x = some (.ref C)) (hg : Gl X x := by rfl) (hdb : (x == ("__debug__" : Str)) = false := by decide) :
    PMk X (.Call (.Name x p) [] [] pos) (tMkB C 0 ff tNil) := fun pins s σ H Q I h =>
  wpAny_Call_Name_kw (ld_glob I hg hm (PySem.W.callWith_K0 I.kIn T.kp (mkB_run (us := []) T iC tI F1 hr hb I .nil h.1 h.2.1 h.2.2)) hdb)
theorem pmkB (T : OexB X.K C) (iC : PySem.W.findIn X.K (.ref C) "__init__" = some (some (.ref fI))) (tI : PySem.W.typeIn X.K (.ref fI) = some (.type "function"))
    (F1 : FnOk X.prog X.w X.K X.mg X.base (L2.CX X.prog X.w) k fI fd ps (spI X.K C n ff)) (hr : Room (k + 1) X.A) (hb : Binds X.K fd ps []) (hm : X.mg x = some (.ref C)) (ha : PA X (e :: es) ta) (hg : Gl X x := by rfl) (hdb : (x == ("__debug__" : Str)) = false := by decide)
    (he : starEach (e :: es) X.env = (false, eval e X.env) :: starEach es X.env := by rfl) (hpl : (backTo pos (starEach es X.env)).any (·.1) = false := by rfl) :
    PMk X (.Call (.Name x p) (e :: es) [] pos) (tMkB C n ff ta) := fun pins s σ H Q I h =>
  wpAny_Call_Name_kw (ld_glob I hg hm (PySem.W.callWith_K (h₀ := X.base) I.ok.mod.kin T.kp (thn (ha.run pos pins s σ H _ I h) fun us s1 ⟨vs, H1, I1, r1, hv, hn1, q1⟩ => ⟨I1.kIn, mkB_run T iC tI F1 hr hb I1 r1 hv hn1 q1⟩) he hpl) hdb)
end
end DV
namespace DV
open PySem L2 PySem.Spec PySem.Calls PyProof.Rows

/-! ### several except clauses, each with a name -/
abbrev TX := Addr → Value → Option Addr → TS
def endsAt (D : Ends) (i : Nat) : Ends := { nx := fun σ H => D.nx (σ.set i none) H, rt := D.rt, bk := fun σ H => D.bk (σ.set i none) H, ct := fun σ H => D.ct (σ.set i none) H }
def wNamed (K : PySem.W.Frag) (Wout : WX) (D : Ends) : List (Value × Nat × TX) → WX
  | [] => Wout
  | (c, i, ts) :: r => fun cls d σ H => ∃ b, PySem.W.exmOne K cls c = some b ∧ (b = true → ∀ a, H a = none → ts a cls d (endsAt D i) (σ.set i (some (.ref a))) H) ∧ (b = false → wNamed K Wout D r cls d σ H)
inductive HdsN (X : Cx) : List ExceptHandler → List (Value × Nat × TX) → Prop
  | nil : HdsN X [] []
  | cons {x n : Str} {i : Nat} {c : Value} {ts : TX} {b₀ : Stmt} {suite : List Stmt} {np pos' : Pos} {hds : List ExceptHandler} {l : List (Value × Nat × TX)} (hi : X.N[i]? = some n) (hln : X.env.kindOf n = some .local) (hc : Names X x c)
      (hsu : ∀ (a : Addr) (oe : Obj) (cls : Value) (d : Option Addr) (pn : List (Addr × Obj)), Zc cls d oe → (∃ vs, oe.data = .fields vs) → PSs (X.suite a ((a, oe) :: pn)) (b₀ :: suite) (ts a cls d)) (r : HdsN X hds l) :
      HdsN X (.ExceptHandler (some (.Name x np)) (some n) (b₀ :: suite) pos' :: hds) ((c, i, ts) :: l)
theorem ps_tryN {X : Cx} {body : List Stmt} {h₀ : ExceptHandler} {hds : List ExceptHandler} {l : List (Value × Nat × TX)} {pos : Pos} {tb : WX → TS} {Wout : WX} (hs : X.stack = X.env :: X.outer) (hf : X.env.frame = some X.env.locals) (hN : X.N.Nodup) (tk : Takes X Wout)
    (hb : ∀ (W : WX) (pn : List (Addr × Obj)) (xe : Value → Shared → Prop), Takes (X.tr pn xe) W → PassesOwn (model X.prog X.w) X.A X.env xe → PSs (X.tr pn xe) body (tb W)) (hh : HdsN X (h₀ :: hds) l) :
    PS X (.Try body (h₀ :: hds) [] [] pos) (fun D σ H => tb (wNamed X.K Wout D l) D σ H) := by
  refine ⟨fun pins s σ H D I h => ?_⟩
  have ok := I.ok
  have hfr : X.A.frames = some (X.env :: X.outer) := by rw [ok.frames, hs]
  refine wpAny_Try_except (wpAny_mono ((hb (wNamed X.K Wout D l) (X.pn ++ pins) (fun e s₁ => wpAny (model X.prog X.w) X.A (noteFrame e X.env) (fun _ s₂ => wpAny (model X.prog X.w) X.A (setFlight e none) (fun _ s₃ => wpAny (model X.prog X.w) X.A (handleBy e X.env (h₀ :: hds)) (SP X pins D) X.xe s₃) X.xe s₂) X.xe s₁)
    (fun u s' xx => ?_) PassesOwn.looking).run [] s σ H D (I.toTry _) h) (fun f s1 hsp => ?_) (fun e s1 he => he))
  · obtain ⟨a, B, sI, pins', σ', H', cls, d, rfl, J', nb, up, sky, na, os, ag, w⟩ := xx
    have J : Inv X pins σ' H' sI := J'.ofTry ok
    show wpAny (model X.prog X.w) X.A (noteFrame (.ref a) X.env) _ _ _
    refine Sky.land Zc.steady hfr hf (by rw [← hs]; exact sky) fun h3 fl3 up3 => ?_
    have J3 : Inv X pins σ' H' { s' with heap := h3 } := J.landed nb fl3.1 (up.trans up3) os ag
    obtain ⟨oe3, vs3, he3, hz3, hd3⟩ := fl3.there
    have nfr : a ∉ frs (X.env :: X.outer) := fun hm => by
      obtain ⟨_, o', e', hnf⟩ := fl3.2.2.1.mem hm
      rw [he3] at e'
      cases e'
      exact hnf _ hd3
    have nL : a ≠ X.env.locals := fun z => nfr (List.mem_filterMap.mpr ⟨X.env, List.mem_cons_self, by rw [hf, z]⟩)
    have nF : a ∉ X.fs := fun hm => by
      obtain ⟨e, he, q⟩ := List.mem_filterMap.mp hm
      exact nfr (List.mem_filterMap.mpr ⟨e, List.mem_cons_of_mem _ he, q⟩)
    have S3 := J3.suite he3 hd3 na nL nF
    have go : ∀ {hds' : List ExceptHandler} {l' : List (Value × Nat × TX)}, HdsN X hds' l' → wNamed X.K Wout D l' cls d σ' H' → wpAny (model X.prog X.w) X.A (handleBy (.ref a) X.env hds') (SP X pins D) X.xe { s' with heap := h3 } := by
      intro hds' l' hk
      induction hk with
      | nil =>
        intro w
        refine wpAny_handleBy_nil ?_
        obtain ⟨k1, k2, k3, oe, vs, T, oT, ts', he, hz, hd, h1, hr⟩ := id fl3
        unfold PySem.passOn
        refine wpAny_bind (wpAny_field he hd h1 ?_)
        rw [if_neg (by simp)]
        have fin : wpAny (model X.prog X.w) X.A (setFlight (.ref a) X.env.frame) (fun _ s4 => wpAny (model X.prog X.w) X.A (throw (.ref a) : Sem Flow) (SP X pins D) X.xe s4) X.xe { s' with heap := h3 } := by
          rw [hf]
          exact HandSPX.setFlight_upZ fl3 fun h4 hh4 up4 => wpAny_throw (tk _ _ ⟨a, B, sI, pins, σ', H', cls, d, rfl, J, nb, (up.trans up3).trans up4, .inr (.inr (by rw [hs]; exact hh4)), na, os, ag, w⟩)
        first
          | exact wpAny_bind (wpAny_pure (wpAny_bind fin))
          | exact wpAny_bind fin
      | @cons x n i c ts b₀ suite np pos' hds2 l2 hi hln hc hsu r ih =>
        intro w
        obtain ⟨b, hb1, hyes, hno⟩ := w
        refine wpAny_handleBy_cons (codeAny_handlers_test ?_) (by intro q; cases q)
        have LT : PySem.W.Looks (model X.prog X.w) h3 (typeOf (.ref a)) cls := fun A Q E s k q => wpAny_typeOf_ref (k _ _ he3) (by rw [hz3.1]; exact q)
        have LM := PySem.W.exm_one (M := model X.prog X.w) J3.kIn LT hb1
        have test : ∀ {Q : Value → Shared → Prop} {E : Value → Shared → Prop}, Q c { s' with heap := h3 } → wpAny (model X.prog X.w) (X.A.mark (some (.ref a))) (eval (.Name x np) X.env) Q E { s' with heap := h3 } := fun {Q E} q => by
          obtain ⟨hg, hdbg, hm | ⟨hm, hv, hnn⟩⟩ := hc
          · exact ld_glob (X := X.suite a ((a, oe3) :: (X.pn ++ pins))) S3 hg hm q hdbg
          · exact ld_blt (X := X.suite a ((a, oe3) :: (X.pn ++ pins))) S3 hg hm hv q hnn hdbg
        refine test (LM.here ?_)
        cases b with
        | true =>
          refine codeAny_handlers_suite_as (HandSPX.lands_againZ fl3 fun h4 fl4 up4 => ?_)
          have J4 : Inv X pins σ' H' { s' with heap := h4 } := J.landed nb fl4.1 ((up.trans up3).trans up4) os ag
          obtain ⟨oe4, vs4, he4, hz4, hd4⟩ := fl4.there
          refine store_ok (X := X.suite a ((a, oe4) :: (X.pn ++ pins))) (v := .ref a) (J4.suite he4 hd4 na nL nF) hN hi (.inl hln) rfl (fun s5 S5 => ?_) (.inr hln)
          refine wpAny_mono ((hsu a oe4 cls d (X.pn ++ pins) hz4 ⟨_, hd4⟩).run [] s5 _ H' _ S5 (hyes rfl a na)) (fun f s6 hsp => ?_) (fun _ _ z => False.elim z)
          have end_ : ∀ {σ6 : L2.St} {H6 : Hp} {Q : Shared → Prop}, Inv (X.suite a ((a, oe4) :: (X.pn ++ pins))) [] σ6 H6 s6 → (∀ s7, Inv X pins (σ6.set i none) H6 s7 → Q s7) → wpAny (model X.prog X.w) X.A (do bindName X.env n .none; unbindBehindTheSuite X.env n pos') (fun _ s7 => Q s7) X.xe s6 :=
            fun {σ6 H6 Q} S6 hq => gone_ok (S6.unsuite ok) hN hi hln hq
          cases f with
          | next => obtain ⟨σ6, H6, S6, q6⟩ := hsp; exact end_ S6 fun s7 J7 => ⟨_, _, J7, q6⟩
          | brk => obtain ⟨σ6, H6, S6, q6⟩ := hsp; exact end_ S6 fun s7 J7 => ⟨_, _, J7, q6⟩
          | cont => obtain ⟨σ6, H6, S6, q6⟩ := hsp; exact end_ S6 fun s7 J7 => ⟨_, _, J7, q6⟩
          | ret u => obtain ⟨v6, σ6, H6, S6, r6, q6⟩ := hsp; exact end_ S6 fun s7 J7 => ⟨_, _, _, J7, r6, q6⟩
        | false => exact ih (hno rfl)
    exact go hh w
  · cases f with
    | next => obtain ⟨σ', H', J', q⟩ := hsp; exact wpAny_execs_nil ⟨σ', H', J'.ofTry ok, q⟩
    | brk => obtain ⟨σ', H', J', q⟩ := hsp; exact ⟨σ', H', J'.ofTry ok, q⟩
    | cont => obtain ⟨σ', H', J', q⟩ := hsp; exact ⟨σ', H', J'.ofTry ok, q⟩
    | ret u => obtain ⟨v, σ', H', J', r, q⟩ := hsp; exact ⟨v, σ', H', J'.ofTry ok, r, q⟩

/-! ### raise -/
section
variable {X : Cx} {W : WX} {K : PySem.W.Frag}
def cRaise (c : Str) (ff : List D → List (Str × D)) (fa : DS → Res (List D)) : DS → Fl := fun δ => stE (fa δ) δ fun ds => .rs ⟨c, ff ds⟩ δ
/-- the fields by the arguments: of values, of data -/
structure FF (n : Nat) (fv : List V → List (Str × V)) (fd : List D → List (Str × D)) : Prop where
  ok : ∀ (K : PySem.W.Frag) (B : Hp) (vs : List V) (ds : List D), vs.length = n → RpA K B vs ds → (fv vs).map (·.1) = (fd ds).map (·.1) ∧ RpA K B ((fv vs).map (·.2)) ((fd ds).map (·.2))
def fv1 (f z : Str) : List V → List (Str × V) := fun _ => [(f, .str z)]
def fd1 (f z : Str) : List D → List (Str × D) := fun _ => [(f, .str z)]
def fv2 (f z g : Str) : List V → List (Str × V) := fun ws => [(g, ws.getD 0 .non), (f, .str z)]
def fd2 (f z g : Str) : List D → List (Str × D) := fun ws => [(g, ws.getD 0 .non), (f, .str z)]
theorem ff1 {f z : Str} : FF 0 (fv1 f z) (fd1 f z) := ⟨fun _ _ _ _ _ _ => ⟨rfl, .cons (.v _) .nil⟩⟩
theorem ff2 {f z g : Str} : FF 1 (fv2 f z g) (fd2 f z g) := ⟨fun _ _ vs ds hl r => by
  cases r with
  | nil => cases hl
  | cons h r => exact ⟨rfl, .cons h (.cons (.v _) .nil)⟩⟩
theorem ss_raise {C : Addr} {c : Str} {n : Nat} {fv : List V → List (Str × V)} {fd : List D → List (Str × D)} {ta : TA} {fa : DS → Res (List D)} (hc : clsV K c = some (.ref C)) (hn : n ≤ 1000) (F : FF n fv fd) (ha : SA K W ta fa) (hl : ∀ δ ds, fa δ = .ok ds → ds.length = n) :
    SS K W (fun _ σ H => tMkB C n fv ta σ H fun cls d H' => W cls d σ H') (cRaise c fd fa) := fun B0 H0 δ σ B H E rel hp => by
  unfold cRaise at hp
  refine ha B0 H0 δ σ B H _ rel ?_
  cases e : fa δ with
  | no => rw [e] at hp; exact hp
  | er x => rw [e] at hp; exact fun c dx B' H' g r => hp c dx σ B' H' g.b (rel.mono g) r
  | ok ds =>
    rw [e] at hp
    intro vs B1 H1 g1 r1
    have hv : vs.length = n := r1.length.trans (hl δ ds e)
    refine ⟨hv, hn, fun d hd => ?_⟩
    have g2 := Grow.new (o := .xd (fv vs)) g1.i hd
    obtain ⟨f1, f2⟩ := F.ok K B1 vs ds hv r1
    exact hp _ _ σ _ _ (g1.b.trans g2.b) ((rel.mono g1).mono g2) ⟨hc, d, fv vs, rfl, upd_same, f1, RpA.mono g2.b f2⟩
/-- an own class, as the walk knows it -/
structure ExK (K : PySem.W.Frag) (mg : Str → Option Value) (x : Str) (C fI : Addr) : Prop where
  T : OexB K C
  m : mg x = some (.ref C)
  c : clsV K x = some (.ref C)
  iC : PySem.W.findIn K (.ref C) "__init__" = some (some (.ref fI))
  tI : PySem.W.typeIn K (.ref fI) = some (.type "function")
theorem q_cs_raise0 {x : Str} {C fI : Addr} {k : Nat} {fd : FuncData} {ps : List Str} {fv : List V → List (Str × V)} {fD : List D → List (Str × D)} {p pos pos' : Pos} (tk : Takes X W) (T : ExK X.K X.mg x C fI) (F1 : FnOk X.prog X.w X.K X.mg X.base (L2.CX X.prog X.w) k fI fd ps (spI X.K C 0 fv)) (hr : Room (k + 1) X.A) (hb : Binds X.K fd ps [])
    (F : FF 0 fv fD) (hc : X.calm = true) (hg : Gl X x := by rfl) (hdb : (x == ("__debug__" : Str)) = false := by decide) : CS X W (.Raise (some (.Call (.Name x p) [] [] pos)) none pos') (fun _ σ H => tMkB C 0 fv tNil σ H fun cls d H' => W cls d σ H') (cRaise x fD cNil) :=
  ⟨ps_raise hc tk (pmkB0 T.T T.iC T.tI F1 hr hb T.m hg hdb), ss_raise T.c (by decide) F (fun B0 H0 δ σ B H Q rel hp => hp [] B H (Grow.refl rel.g.i) .nil) (fun δ ds h => by cases h; rfl)⟩
theorem cs_raise0 (K : PySem.W.Frag) (hK : X.K = K) {x : Str} {C fI : Addr} {k : Nat} {fd : FuncData} {ps : List Str} {fv : List V → List (Str × V)} {fD : List D → List (Str × D)} {p pos pos' : Pos} (tk : Takes X W) (T : ExK K X.mg x C fI) (F1 : FnOk X.prog X.w K X.mg X.base (L2.CX X.prog X.w) k fI fd ps (spI K C 0 fv)) (hr : Room (k + 1) X.A) (hb : Binds K fd ps [])
    (F : FF 0 fv fD) (hc : X.calm = true := by rfl) (hg : Gl X x := by rfl) (hdb : (x == ("__debug__" : Str)) = false := by decide) : CS X W (.Raise (some (.Call (.Name x p) [] [] pos)) none pos') (fun _ σ H => tMkB C 0 fv tNil σ H fun cls d H' => W cls d σ H') (cRaise x fD cNil) := by
  subst hK
  exact q_cs_raise0 tk T F1 hr hb F hc hg hdb
theorem cs_raise (K : PySem.W.Frag) (hK : X.K = K) {x : Str} {C fI : Addr} {k n : Nat} {fd : FuncData} {ps : List Str} {fv : List V → List (Str × V)} {fD : List D → List (Str × D)} {p pos pos' : Pos} {e : Expr} {es : List Expr} {ta : TA} {fa : DS → Res (List D)} (tk : Takes X W) (T : ExK K X.mg x C fI) (F1 : FnOk X.prog X.w K X.mg X.base (L2.CX X.prog X.w) k fI fd ps (spI K C n fv)) (hr : Room (k + 1) X.A) (hb : Binds K fd ps [])
    (F : FF n fv fD) (ha : CL X W (e :: es) ta fa) (hn : (e :: es).length = n := by rfl) (hn1 : n ≤ 1000 := by decide) (hc : X.calm = true := by rfl) (hg : Gl X x := by rfl) (hdb : (x == ("__debug__" : Str)) = false := by decide) (he : starEach (e :: es) X.env = (false, eval e X.env) :: starEach es X.env := by rfl) (hpl : (backTo pos (starEach es X.env)).any (·.1) = false := by rfl) :
    CS X W (.Raise (some (.Call (.Name x p) (e :: es) [] pos)) none pos') (fun _ σ H => tMkB C n fv ta σ H fun cls d H' => W cls d σ H') (cRaise x fD fa) := by
  subst hK
  exact ⟨ps_raise hc tk (pmkB T.T T.iC T.tI F1 hr hb T.m ha.pa hg hdb he hpl), ss_raise T.c hn1 F ha.sa (fun δ ds h => (ha.ln δ ds h).trans hn)⟩
end

/-! ### an except suite: the exception x is at slot i -/
/-- a class whose instances' fields are read -/
def XcK (K : PySem.W.Frag) (v : Value) : Prop := ∃ C, v = .ref C ∧ XfC K C ∧ ExcC K C ∧ ∀ f ∈ (["word", "name", "there", "ring", "at"] : List Str), PySem.W.findIn K (.ref C) f = some none
section
variable {K : PySem.W.Frag} {B B' H H' : Hp} {x : Exn} {c : Value} {d : Option Addr}
theorem RpX.mono (s : Same B B') (h : RpX K B c d x) : RpX K B' c d x := by
  obtain ⟨h1, dd, us, h2, h3, h4, h5⟩ := h
  exact ⟨h1, dd, us, h2, s _ _ h3, h4, RpA.mono s h5⟩
structure Ctx1 (K : PySem.W.Frag) (i : Nat) (x : Exn) (a : Addr) (cls : Value) (d : Option Addr) (B : Hp) (σ : L2.St) : Prop where
  at_ : σ[i]? = some (some (.ref a))
  rp : RpX K B cls d x
  k : XcK K cls
theorem Ctx1.mono {i : Nat} {a : Addr} {σ : L2.St} (s : Same B B') (h : Ctx1 K i x a c d B σ) : Ctx1 K i x a c d B' σ := ⟨h.at_, h.rp.mono s, h.k⟩
end
def SEx (K : PySem.W.Frag) (i : Nat) (x : Exn) (a : Addr) (cls : Value) (d : Option Addr) (t : TE) (f : DS → Res D) : Prop := ∀ B0 H0 δ σ B H (Q : VK), Rel K B0 H0 B H σ δ → Ctx1 K i x a cls d B σ → PostE K B H σ W0 Q (f δ) → t σ H Q
def STx (K : PySem.W.Frag) (i : Nat) (x : Exn) (a : Addr) (cls : Value) (d : Option Addr) (t : TT) (f : DS → Res Bool) : Prop := ∀ B0 H0 δ σ B H (Q : Bool → Hp → Prop), Rel K B0 H0 B H σ δ → Ctx1 K i x a cls d B σ → PostT K B H σ W0 Q (f δ) → t σ H Q
def SAx (K : PySem.W.Frag) (i : Nat) (x : Exn) (a : Addr) (cls : Value) (d : Option Addr) (t : TA) (f : DS → Res (List D)) : Prop := ∀ B0 H0 δ σ B H (Q : List V → Hp → Prop), Rel K B0 H0 B H σ δ → Ctx1 K i x a cls d B σ → PostA K B H σ W0 Q (f δ) → t σ H Q
def SSx (K : PySem.W.Frag) (i : Nat) (x : Exn) (a : Addr) (cls : Value) (d : Option Addr) (t : TS) (g : DS → Fl) : Prop := ∀ B0 H0 δ σ B H (E : Ends), Rel K B0 H0 B H σ δ → Ctx1 K i x a cls d B σ → PostS K B0 H0 B W0 E (g δ) → t E σ H
abbrev TXE := Addr → Value → Option Addr → TE
abbrev TXT := Addr → Value → Option Addr → TT
abbrev TXA := Addr → Value → Option Addr → TA
def XCx (X : Cx) (P : Cx → Addr → Value → Option Addr → Prop) : Prop := ∀ (a : Addr) (oe : Obj) (cls : Value) (d : Option Addr) (pn : List (Addr × Obj)), Zc cls d oe → (∃ vs, oe.data = .fields vs) → P (X.suite a ((a, oe) :: pn)) a cls d
structure CEx (X : Cx) (i : Nat) (e : Expr) (t : TXE) (f : Exn → DS → Res D) : Prop where
  pe : XCx X fun Y a cls d => PE Y e (t a cls d)
  se : ∀ x a cls d, SEx X.K i x a cls d (t a cls d) (f x)
structure CTx (X : Cx) (i : Nat) (e : Expr) (t : TXT) (f : Exn → DS → Res Bool) : Prop where
  pt : XCx X fun Y a cls d => PT Y e (t a cls d)
  st : ∀ x a cls d, STx X.K i x a cls d (t a cls d) (f x)
structure CAx (X : Cx) (i : Nat) (es : List Expr) (t : TXA) (f : Exn → DS → Res (List D)) : Prop where
  pa : XCx X fun Y a cls d => PA Y es (t a cls d)
  sa : ∀ x a cls d, SAx X.K i x a cls d (t a cls d) (f x)
structure CXs (X : Cx) (i : Nat) (ss : List Stmt) (t : TX) (g : Exn → DS → Fl) : Prop where
  ps : XCx X fun Y a cls d => PSs Y ss (t a cls d)
  ss : ∀ x a cls d, SSx X.K i x a cls d (t a cls d) (g x)
section
variable {X : Cx} {i : Nat}
/-- an expression that does not look at the exception -/
theorem cex_lift {e : Expr} {t : TE} {f : DS → Res D} (h : XCx X fun Y _ _ _ => CE Y W0 e t f) (h2 : SE X.K W0 t f) : CEx X i e (fun _ _ _ => t) (fun _ => f) :=
  ⟨fun a oe cls d pn hz hf => (h a oe cls d pn hz hf).pe, fun x a cls d B0 H0 δ σ B H Q rel _ hp => h2 B0 H0 δ σ B H Q rel hp⟩
def fldR (f : Str) (x : Exn) : Res D := match x.fs.lookup f with
  | some d => .ok d
  | none => .no
def tXfB (K : PySem.W.Frag) (a : Addr) (cls : Value) (d : Option Addr) (f : Str) (te : TE) : TE := fun σ H Q => te σ H fun x H1 => x = .ref a ∧ ∃ C, cls = .ref C ∧ XfC K C ∧ PySem.W.findIn K (.ref C) f = some none ∧ ∃ (dd : Addr) (fs : List (Str × V)) (v : V), d = some dd ∧ H1 dd = some (.xd fs) ∧ fs.lookup f = some v ∧ Q v H1
theorem look2 {K : PySem.W.Frag} {B : Hp} {f : Str} : ∀ {us : List (Str × V)} {fs : List (Str × D)} {z : D}, us.map (·.1) = fs.map (·.1) → RpA K B (us.map (·.2)) (fs.map (·.2)) → fs.lookup f = some z → ∃ v, us.lookup f = some v ∧ Rp K B v z
  | [], [], z, _, _, e => by cases e
  | [], _ :: _, _, e, _, _ => by cases e
  | _ :: _, [], _, e, _, _ => by cases e
  | (n, u) :: us, (m, z') :: fs, z, e, r, l => by
    obtain ⟨e1, e2⟩ := List.cons.inj e
    dsimp only at e1
    subst e1
    cases r with
    | cons h r =>
      rw [List.lookup_cons] at l ⊢
      cases q : (f == n) with
      | true => rw [q] at l; cases l; exact ⟨u, rfl, h⟩
      | false => rw [q] at l; exact look2 e2 r l
theorem cex_fld {e : Expr} {f : Str} {pos : Pos} (he : XCx X fun Y _ _ _ => PE Y e (tVar i)) (hf : f ∈ (["word", "name", "there", "ring", "at"] : List Str) := by decide) (hb : attributeBase e f X.env (eval e X.env) = eval e X.env := by rfl) :
    CEx X i (.Attribute e f pos) (fun a cls d => tXfB X.K a cls d f (tVar i)) (fun x _ => fldR f x) := by
  refine ⟨fun a oe cls d pn hz hv => ⟨fun pins s σ H Q I h => ?_⟩, fun x a cls d B0 H0 δ σ B H Q rel cx hp => ?_⟩
  · refine attr_of hb (thn ((he a oe cls d pn hz hv).run pins s σ H _ I h) fun u s1 hh => ?_)
    obtain ⟨x, H1, I1, rx, ex, C, ec, T, hno, dd, fs, v, ed, ea, l, q⟩ := hh
    subst ex
    obtain rfl : u = Value.ref a := rx
    subst ec ed
    obtain ⟨ha, _⟩ := I1.pin (a, oe) (List.mem_append_left _ List.mem_cons_self)
    obtain ⟨vs, hd⟩ := hv
    obtain ⟨mA, hns, hr⟩ := (show ObjOk X.prog X.w H1 s1.heap dd (.xd fs) from I1.hok dd _ ea)
    obtain ⟨od, ho, hl⟩ := lookIn_ns hns
    obtain ⟨u, hu, ru⟩ := RelO.some_of (v := v) (o := mA f) (by rw [← l]; exact hr f)
    have J : PySem.W.InstAt s1.heap a oe C (some od) := ⟨ha, hz.1, by unfold PySem.W.notCls; rw [hd] <;> rfl, by rw [hz.2]; exact ho⟩
    exact HandSPX.exc_get I1.kIn J T.ga T.gg T.exC (PySem.W.findObj_own T.hdC hno rfl (by rw [hl, hu])) (handed_of ru) ⟨v, H1, I1.tok _, ru, q⟩
  · obtain ⟨C, rfl, T, _, hno⟩ := cx.k
    obtain ⟨_, dd, us, rfl, hB, e1, e2⟩ := cx.rp
    refine ⟨_, cx.at_, rfl, C, rfl, T, hno f hf, dd, us, ?_⟩
    unfold fldR at hp
    cases q : x.fs.lookup f with
    | none => rw [q] at hp; exact hp.elim
    | some z =>
      rw [q] at hp
      obtain ⟨v, l1, l2⟩ := look2 e1 e2 q
      exact ⟨v, rfl, rel.g.i _ _ hB, l1, hp v B H (Grow.refl rel.g.i) l2⟩
/-- return e -/
theorem cxs_ret {e : Expr} {t : TXE} {f : Exn → DS → Res D} {pos : Pos} (h : CEx X i e t f) : CXs X i [.Return (some e) pos] (fun a cls d => tRet (t a cls d)) (fun x δ => stE (f x δ) δ fun z => .rt z) :=
  ⟨fun a oe cls d pn hz hv => pss_one (ps_ret (h.pe a oe cls d pn hz hv)), fun x a cls d B0 H0 δ σ B H E rel cx hp => h.se x a cls d B0 H0 δ σ B H _ rel cx (postE_of rel hp fun z v B' H' _ g r q => q v B' H' (Same.refl _) (rel.g.trans g) r)⟩
end

/-! ### try -/
def Fl.leave (i : Nat) : Fl → Fl
  | .nx δ => .nx (δ.set i none)
  | .bk δ => .bk (δ.set i none)
  | .ct δ => .ct (δ.set i none)
  | .rt d => .rt d
  | .rf ds => .rf ds
  | _ => .no
abbrev Clauses := List ((Str → Option Bool) × Nat × (Exn → DS → Fl))
def cPick : Clauses → Exn → DS → Fl
  | [], x, δ => .rs x δ
  | (p, i, gs) :: r, x, δ => match p x.cls with
    | none => .no
    | some true => if i < δ.length then (gs x (δ.set i none)).leave i else .no
    | some false => cPick r x δ
def cTry (g : DS → Fl) (hs : Clauses) : DS → Fl := fun δ => match g δ with
  | .rs x δ' => cPick hs x δ'
  | r => r
/-- the classes that a clause takes: by a table -/
def tabP (l : List (Str × Bool)) : Str → Option Bool := fun s => l.lookup s
inductive HdsC (X : Cx) : List ExceptHandler → List (Value × Nat × TX) → Clauses → Prop
  | nil : HdsC X [] [] []
  | cons {x n : Str} {i : Nat} {c : Value} {ts : TX} {gs : Exn → DS → Fl} {p : Str → Option Bool} {b₀ : Stmt} {suite : List Stmt} {np pos' : Pos} {hds : List ExceptHandler} {l : List (Value × Nat × TX)} {q : Clauses} (hi : X.N[i]? = some n) (hln : X.env.kindOf n = some .local) (hc : Names X x c)
      (hp : ∀ s b v, p s = some b → clsV X.K s = some v → PySem.W.exmOne X.K v c = some b ∧ (b = true → XcK X.K v)) (hsu : CXs X i (b₀ :: suite) ts gs) (r : HdsC X hds l q) : HdsC X (.ExceptHandler (some (.Name x np)) (some n) (b₀ :: suite) pos' :: hds) ((c, i, ts) :: l) ((p, i, gs) :: q)
theorem HdsC.n {X : Cx} : ∀ {hds : List ExceptHandler} {l : List (Value × Nat × TX)} {q : Clauses}, HdsC X hds l q → HdsN X hds l
  | _, _, _, .nil => .nil
  | _, _, _, .cons hi hln hc _ hsu r => .cons hi hln hc hsu.ps r.n
section
variable {X : Cx} {W : WX}
theorem pick_ok {B0 H0 B : Hp} {E : Ends} : ∀ {hds : List ExceptHandler} {l : List (Value × Nat × TX)} {q : Clauses}, HdsC X hds l q → ∀ {x : Exn} {δ : DS}, PostS X.K B0 H0 B W E (cPick q x δ) → ∀ {c : Value} {dx : Option Addr} {σ : L2.St} {B' H' : Hp}, Same B B' → Rel X.K B0 H0 B' H' σ δ → RpX X.K B' c dx x → wNamed X.K W E l c dx σ H'
  | _, _, _, .nil, x, δ, hp, c, dx, σ, B', H', sb, rel, rp => hp c dx σ B' H' sb rel rp
  | _, _, _, @HdsC.cons _ _ _ i cv ts gs p _ _ _ _ _ _ _ hi hln hc hpt hsu r, x, δ, hp, c, dx, σ, B', H', sb, rel, rp => by
    unfold cPick at hp
    cases e : p x.cls with
    | none => rw [e] at hp; exact hp.elim
    | some b =>
      rw [e] at hp
      obtain ⟨h1, h2⟩ := hpt _ _ _ e rp.1
      refine ⟨b, h1, fun hb a ha => ?_, fun hb => ?_⟩
      · subst hb
        dsimp only at hp
        split at hp
        case isFalse => exact hp.elim
        rename_i hl0
        have hl : i < σ.length := by rw [rel.len]; exact hl0
        refine hsu.ss x a c dx B0 H0 (δ.set i none) (σ.set i (some (.ref a))) B' H' _ (rel.drop i) ⟨by rw [List.getElem?_set_self hl], rp, h2 rfl⟩ ?_
        cases e2 : gs x (δ.set i none) with
        | nx δ2 => rw [e2] at hp; exact fun σ2 B2 H2 s2 r2 => hp _ B2 H2 (sb.trans s2) (r2.drop i)
        | bk δ2 => rw [e2] at hp; exact fun σ2 B2 H2 s2 r2 => hp _ B2 H2 (sb.trans s2) (r2.drop i)
        | ct δ2 => rw [e2] at hp; exact fun σ2 B2 H2 s2 r2 => hp _ B2 H2 (sb.trans s2) (r2.drop i)
        | rt z => rw [e2] at hp; exact fun v B2 H2 s2 g r2 => hp v B2 H2 (sb.trans s2) g r2
        | rf z => rw [e2] at hp; exact fun p xs B2 H2 s2 g h0 hb hh rr => hp p xs B2 H2 (sb.trans s2) g h0 hb hh rr
        | rs x2 δ2 => rw [e2] at hp; exact hp.elim
        | no => rw [e2] at hp; exact hp.elim
      · subst hb
        exact pick_ok r hp sb rel rp
/-- a def's context takes what lies in the air -/
theorem takes_look {pn : List (Addr × Obj)} {W' : WX} (hs : X.stack = X.env :: X.outer) (hf : X.env.frame = some X.env.locals) :
    Takes (X.tr pn (fun e s₁ => wpAny (model X.prog X.w) X.A (noteFrame e X.env) (fun _ s₂ => wpAny (model X.prog X.w) X.A (setFlight e none) (fun _ _ => True) (fun _ _ => True) s₂) (fun _ _ => True) s₁)) W' := fun u s' xx => by
  obtain ⟨a, B, sI, pins', σ', H', cls, d, rfl, J', nb, up, sky, na, os, ag, w⟩ := xx
  have hfr : X.A.frames = some (X.env :: X.outer) := by rw [← hs]; exact J'.ok.frames
  exact Sky.land Zc.steady hfr hf (by rw [← hs]; exact sky) fun h3 fl3 up3 => trivial
theorem cs_try {body : List Stmt} {h₀ : ExceptHandler} {hds : List ExceptHandler} {l : List (Value × Nat × TX)} {q : Clauses} {pos : Pos} {tb : WX → TS} {g : DS → Fl} (hs : X.stack = X.env :: X.outer) (hf : X.env.frame = some X.env.locals) (hN : X.N.Nodup) (tk : Takes X W)
    (hb : ∀ (W' : WX) (pn : List (Addr × Obj)) (xe : Value → Shared → Prop), Takes (X.tr pn xe) W' → PassesOwn (model X.prog X.w) X.A X.env xe → CSs (X.tr pn xe) W' body (tb W') g) (hh : HdsC X (h₀ :: hds) l q) :
    CS X W (.Try body (h₀ :: hds) [] [] pos) (fun D σ H => tb (wNamed X.K W D l) D σ H) (cTry g q) := by
  refine ⟨ps_tryN hs hf hN tk (fun W' pn xe t1 t2 => (hb W' pn xe t1 t2).ps) hh.n, fun B0 H0 δ σ B H E rel hp => ?_⟩
  have S := (hb (wNamed X.K W E l) [] _ (takes_look hs hf) PassesOwn.looking).ss
  refine S B0 H0 δ σ B H E rel ?_
  unfold cTry at hp
  cases e : g δ with
  | nx δ2 => rw [e] at hp; exact hp
  | bk δ2 => rw [e] at hp; exact hp
  | ct δ2 => rw [e] at hp; exact hp
  | rt z => rw [e] at hp; exact hp
  | rf z => rw [e] at hp; exact hp
  | no => rw [e] at hp; exact hp
  | rs x δ2 =>
    rw [e] at hp
    exact fun c dx σ' B' H' sb rel' rp => pick_ok hh hp sb rel' rp
end
end DV
namespace DV
open PySem L2 PySem.Spec PySem.Calls PyProof.Rows

/-! ### what is asked of an own class, as one test -/
def oexB (K : PySem.W.Frag) (C : Addr) (bmB : List Value) (newId : String) : Bool :=
  PySem.W.excInitIn K C bmB newId && (PySem.W.excOver K C bmB && (PySem.W.hasDictIn K C && (decide (PySem.W.findIn K (.ref C) "__setattr__" = some (some (.builtin "object.__setattr__"))) && (decide (PySem.W.subIn K (.ref C) (.type "BaseException") = some true) && (decide (PySem.W.typeIn K (.ref C) = some (.type "type")) && PySem.W.keepIn K (.ref C))))))
theorem oexB_ok {K : PySem.W.Frag} {C : Addr} {B newId initId : String} {bmB : List Value} (F : ExcBaseFacts B newId initId bmB) (SF : PySem.StoreFacts B bmB "object.__setattr__" "object") (h : oexB K C bmB newId = true) : OexB K C := by
  obtain ⟨h1, h⟩ := Bool.and_eq_true_iff.mp h
  obtain ⟨h2, h⟩ := Bool.and_eq_true_iff.mp h
  obtain ⟨h3, h⟩ := Bool.and_eq_true_iff.mp h
  obtain ⟨h4, h⟩ := Bool.and_eq_true_iff.mp h
  obtain ⟨h5, h⟩ := Bool.and_eq_true_iff.mp h
  obtain ⟨h6, h7⟩ := Bool.and_eq_true_iff.mp h
  exact ⟨⟨B, newId, initId, bmB, F, SF, h1, h2⟩, h3, of_decide_eq_true h4, of_decide_eq_true h5, of_decide_eq_true h6, h7⟩
def xcB (K : PySem.W.Frag) (C : Addr) : Bool :=
  xfB K C && (decide (PySem.W.findIn K (.ref C) "__class__" = some (some (.builtin "object.__class__"))) && (decide (PySem.W.specialIn K (.builtin "object.__class__") "__get__" = some (some (.builtin "getset_descriptor.__get__"))) && (decide (PySem.W.takesIn K (.builtin "object.__class__") = some true) && (decide (PySem.W.mroIn K C (.type "object") = some true) &&
    (["word", "name", "there", "ring", "at"] : List Str).all fun f => decide (PySem.W.findIn K (.ref C) f = some none)))))
theorem xcB_ok {K : PySem.W.Frag} {C : Addr} (h : xcB K C = true) : XcK K (.ref C) := by
  obtain ⟨h1, h⟩ := Bool.and_eq_true_iff.mp h
  obtain ⟨h2, h⟩ := Bool.and_eq_true_iff.mp h
  obtain ⟨h3, h⟩ := Bool.and_eq_true_iff.mp h
  obtain ⟨h4, h⟩ := Bool.and_eq_true_iff.mp h
  obtain ⟨h5, h6⟩ := Bool.and_eq_true_iff.mp h
  have x := xfB_ok h1
  exact ⟨C, rfl, x, ⟨x.ga, x.gg, x.exC, x.hdC, of_decide_eq_true h2, of_decide_eq_true h3, of_decide_eq_true h4, of_decide_eq_true h5⟩, fun f hf => of_decide_eq_true (List.all_eq_true.mp h6 f hf)⟩
theorem XcK.no {K : PySem.W.Frag} {C : Addr} (h : XcK K (.ref C)) {f : Str} (hf : f ∈ (["word", "name", "there", "ring", "at"] : List Str) := by decide) : PySem.W.findIn K (.ref C) f = some none := by
  obtain ⟨C', e, _, _, h⟩ := h
  cases e
  exact h f hf
theorem clsV_of {K : PySem.W.Frag} {x : Str} {v : Value} (h : PySem.W.nsIn K mainGlobals x = some (some v)) : clsV K x = some v := by
  unfold clsV
  rw [h]
  rfl

/-! ### the table of a clause -/
def TabOk (K : PySem.W.Frag) (c : Value) (l : List (Str × Bool)) : Prop := ∀ s b v, tabP l s = some b → clsV K s = some v → PySem.W.exmOne K v c = some b ∧ (b = true → XcK K v)
theorem tab_nil {K : PySem.W.Frag} {c : Value} : TabOk K c [] := fun s b v h => by cases h
theorem tab_cons {K : PySem.W.Frag} {c v0 : Value} {l : List (Str × Bool)} {x : Str} {b0 : Bool} (hx : clsV K x = some v0) (he : PySem.W.exmOne K v0 c = some b0) (hk : XcK K v0) (r : TabOk K c l) : TabOk K c ((x, b0) :: l) := fun s b v h hv => by
  unfold tabP at h
  rw [List.lookup_cons] at h
  cases q : (s == x) with
  | true =>
    rw [q] at h
    cases h
    rw [beq_iff_eq.mp q] at hv
    rw [hx] at hv
    cases hv
    exact ⟨he, fun _ => hk⟩
  | false => rw [q] at h; exact r s b v h hv
/-- a class's body -/
def inCls (s : Stmt) (j : Nat) : Stmt := match s with
  | .ClassDef _ _ _ b _ _ _ _ _ _ _ => b.getD j (.Pass ⟨0, 0, 0, 0⟩)
  | _ => .Pass ⟨0, 0, 0, 0⟩
/-- a def whose positional defaults are dvs -/
theorem funD_mk {K : PySem.W.Frag} {x qual : Str} {st : Stmt} {f T : Addr} {oc : Value} {od an : Option Addr} {osl : Array (Option Value)} {kV doc pm cdv ct : Value} {oT : Obj} {its : List Value} {nT : Nat} {dvs : List V} (l : K.lookup f = some ⟨oc, od, .func (PySem.W.fnOf x qual (defArgs st) (defBody st) (defScope st) (.ref T) kV doc pm an cdv ct), osl⟩)
    (c : PySem.W.codeIn K cdv qual = true) (k : PySem.W.keepIn K (.ref f) = true) (lT : K.lookup T = some oT) (dT : oT.data = .seq its.toArray nT) (hv : Vals dvs its) (hne : dvs ≠ []) : FunD K x qual (defArgs st) (defBody st) (defScope st) dvs [] f (PySem.W.fnOf x qual (defArgs st) (defBody st) (defScope st) (.ref T) kV doc pm an cdv ct) :=
  ⟨⟨oc, od, _, kV, doc, pm, an, cdv, ct, osl, rfl, l, c, .inr ⟨hne, T, oT, its, nT, rfl, lT, dT, hv⟩, .inl rfl⟩, k⟩
theorem binds_all {K : PySem.W.Frag} {fd : FuncData} {ps : List Str} {dvs : List V} (h : ∃ ds, Vals dvs ds ∧ Binds K fd ps ds) (hd : dvs = []) : Binds K fd ps [] := by
  subst hd
  obtain ⟨ds, hv, hb⟩ := h
  cases hv
  exact hb
/-- as many turns as the int at slot j is great, and one -/
def fuelI (j : Nat) : DS → Nat := fun δ => match δ[j]? with
  | some (some (.im (.v (.int n)))) => n.natAbs + 1
  | _ => 0
end DV
namespace DV
open PySem L2 PySem.Spec PySem.Calls PyProof.Rows

/-! ### calls with keywords: where each parameter's value comes from -/
inductive Pk (α : Type) where
  | p (i : Nat)
  | k (j : Nat)
  | c (a : α)
def Pk.get {α : Type} (z : α) (us ws : List α) : Pk α → α
  | .p i => us.getD i z
  | .k j => ws.getD j z
  | .c a => a
abbrev pkV (l : List (Pk V)) (vs zs : List V) : List V := l.map (Pk.get .non vs zs)
abbrev pkU (l : List (Pk Value)) (us ws : List Value) : List Value := l.map (Pk.get .none us ws)
abbrev pkD (l : List (Pk D)) (ds es : List D) : List D := l.map (Pk.get .non ds es)
inductive PkR (K : PySem.W.Frag) : List (Pk V) → List (Pk D) → Prop
  | nil : PkR K [] []
  | p {l : List (Pk V)} {m : List (Pk D)} (i : Nat) (r : PkR K l m) : PkR K (.p i :: l) (.p i :: m)
  | k {l : List (Pk V)} {m : List (Pk D)} (i : Nat) (r : PkR K l m) : PkR K (.k i :: l) (.k i :: m)
  | c {l : List (Pk V)} {m : List (Pk D)} {v : V} {d : D} (h : ∀ B, Rp K B v d) (r : PkR K l m) : PkR K (.c v :: l) (.c d :: m)
inductive PkU : List (Pk V) → List (Pk Value) → Prop
  | nil : PkU [] []
  | p {l : List (Pk V)} {m : List (Pk Value)} (i : Nat) (r : PkU l m) : PkU (.p i :: l) (.p i :: m)
  | k {l : List (Pk V)} {m : List (Pk Value)} (i : Nat) (r : PkU l m) : PkU (.k i :: l) (.k i :: m)
  | c {l : List (Pk V)} {m : List (Pk Value)} {v : V} {u : Value} (h : RelV v u) (r : PkU l m) : PkU (.c v :: l) (.c u :: m)
section
variable {K : PySem.W.Frag} {B : Hp}
theorem RpA.getD : ∀ {vs : List V} {ds : List D} (i : Nat), RpA K B vs ds → Rp K B (vs.getD i .non) (ds.getD i .non)
  | _, _, _, .nil => by simpa using Rp.v .non
  | _, _, 0, .cons h _ => by simpa using h
  | _, _, i + 1, .cons _ r => by simpa using RpA.getD i r
theorem vals_getD : ∀ {vs : List V} {us : List Value} (i : Nat), Vals vs us → RelV (vs.getD i .non) (us.getD i .none)
  | _, _, _, .nil => rfl
  | _, _, 0, .cons h _ => h
  | _, _, i + 1, .cons _ r => vals_getD i r
theorem PkR.rel {vs zs : List V} {ds es : List D} (r1 : RpA K B vs ds) (r2 : RpA K B zs es) : ∀ {l : List (Pk V)} {m : List (Pk D)}, PkR K l m → RpA K B (pkV l vs zs) (pkD m ds es)
  | _, _, .nil => .nil
  | _, _, .p i r => .cons (r1.getD i) (PkR.rel r1 r2 r)
  | _, _, .k i r => .cons (r2.getD i) (PkR.rel r1 r2 r)
  | _, _, .c h r => .cons (h B) (PkR.rel r1 r2 r)
theorem PkU.rel {vs zs : List V} {us ws : List Value} (r1 : Vals vs us) (r2 : Vals zs ws) : ∀ {l : List (Pk V)} {m : List (Pk Value)}, PkU l m → Vals (pkV l vs zs) (pkU m us ws)
  | _, _, .nil => .nil
  | _, _, .p i r => .cons (vals_getD i r1) (PkU.rel r1 r2 r)
  | _, _, .k i r => .cons (vals_getD i r2) (PkU.rel r1 r2 r)
  | _, _, .c h r => .cons h (PkU.rel r1 r2 r)
end
/-- a call's form: n positional values, keywords ks -/
def KForm (K : PySem.W.Frag) (fd : FuncData) (ps : List Str) (n : Nat) (ks : List Str) (l : List (Pk V)) : Prop := ∃ g, KBn K fd ps n ks g (pkV l)
section
variable {K : PySem.W.Frag} {x qual : Str} {params : Arguments} {body : List Stmt} {scope : Scope} {dvs : List V} {kws : List (Str × V)} {f : Addr} {fd : FuncData} {ps : List Str}
/-- positional defaults alone -/
theorem form1 (F : FunD K x qual params body scope dvs [] f fd) (n : Nat) (ks : List Str) (l : List (Pk V)) (lU : List Value → List (Pk Value)) (hd : dvs ≠ []) (hl : ∀ its, Vals dvs its → PkU l (lU its))
    (h : ∀ (T : Addr) (kV doc pm : Value) (an : Option Addr) (cdv ct : Value) (us its ws : List Value), us.length = n → its.length = dvs.length → ws.length = ks.length → ∃ k, bindArgs (PySem.W.fnOf x qual params body scope (.ref T) kV doc pm an cdv ct) ⟨us, ks.zip ws⟩ = seqItems? (.ref T) >>= k ∧ k (some its.toArray) = pure (ps.zip (pkU (lU its) us ws))) : KForm K fd ps n ks l := by
  obtain ⟨oc, od, dV, kV, doc, pm, an, cdv, ct, osl, rfl, lk, hcd, hD, hK⟩ := F.ex
  rcases hD with ⟨e, _⟩ | ⟨_, T, o, its, m, rfl, lT, oT, rT⟩
  · exact absurd e hd
  · refine ⟨pkU (lU its), fun s us ws X l1 l2 => ?_, fun r1 r2 => (hl its rT).rel r1 r2⟩
    obtain ⟨k, e1, e2⟩ := h T kV doc pm an cdv ct us its ws l1 rT.length.symm l2
    refine BindsTo.of_looks fun M => ?_
    rw [e1]
    exact looks_items X lT oT (.of_pure e2)
/-- no positional defaults, every keyword-only one is given -/
theorem form0 (F : FunD K x qual params body scope [] kws f fd) (n : Nat) (ks : List Str) (l : List (Pk V)) (lU : List (Pk Value)) (hl : PkU l lU)
    (h : ∀ (kV doc pm : Value) (an : Option Addr) (cdv ct : Value) (us ws : List Value), us.length = n → ws.length = ks.length → bindArgs (PySem.W.fnOf x qual params body scope .none kV doc pm an cdv ct) ⟨us, ks.zip ws⟩ = pure (ps.zip (pkU lU us ws))) : KForm K fd ps n ks l := by
  obtain ⟨oc, od, dV, kV, doc, pm, an, cdv, ct, osl, rfl, lk, hcd, hD, hK⟩ := F.ex
  rcases hD with ⟨_, rfl⟩ | ⟨e, _⟩
  · exact ⟨pkU lU, fun s us ws X l1 l2 => .of_eq (h kV doc pm an cdv ct us ws l1 l2), fun r1 r2 => hl.rel r1 r2⟩
  · exact absurd rfl e
end
/-- the keywords' values -/
structure CK (X : Cx) (W : WX) (kws : List Keyword) (t : TA) (f : DS → Res (List D)) : Prop where
  pk : PK X kws t
  sa : SA X.K W t f
  ln : ∀ δ ds, f δ = .ok ds → ds.length = kws.length
def tCallKS (n m : Nat) (sp : Sp) (gV : List V → List V → List V) (E : L2.St → XK) (t tk : TA) : TE := fun σ H Q => t σ H fun vs H1 => tk σ H1 fun zs H2 => vs.length = n ∧ zs.length = m ∧ sp (gV vs zs) H2 Q (E σ)
def cKw (F : List D → Res D) (l : List (Pk D)) (fa fk : DS → Res (List D)) : DS → Res D := fun δ => (fa δ).bind fun ds => (fk δ).bind fun es => F (pkD l ds es)
section
variable {X : Cx} {W : WX}
theorem cons_len {f : DS → Res D} {g : DS → Res (List D)} {n : Nat} (h : ∀ δ ds, g δ = .ok ds → ds.length = n) (δ : DS) (ds : List D) (e : cCons f g δ = .ok ds) : ds.length = n + 1 := by
  unfold cCons at e
  cases e1 : f δ with
  | no => rw [e1] at e; cases e
  | er x => rw [e1] at e; cases e
  | ok d =>
    rw [e1, Res.bind_ok] at e
    cases e2 : g δ with
    | no => rw [e2] at e; cases e
    | er x => rw [e2] at e; cases e
    | ok ds' =>
      rw [e2, Res.bind_ok] at e
      cases e
      rw [List.length_cons, h δ ds' e2]
theorem ck_nil : CK X W [] tNil cNil := ⟨pk_nil, fun B0 H0 δ σ B H Q rel hp => hp [] B H (Grow.refl rel.g.i) .nil, fun δ ds h => by cases h; rfl⟩
theorem ck_cons {e : Expr} {nm : Option Str} {kpos : Pos} {kws : List Keyword} {te : TE} {t : TA} {f : DS → Res D} {g : DS → Res (List D)} (ha : CE X W e te f) (hb : CK X W kws t g) : CK X W (⟨nm, e, kpos⟩ :: kws) (tCons te t) (cCons f g) :=
  ⟨pk_cons ha.pe hb.pk, sa_cons ha.se hb.sa, cons_len hb.ln⟩
theorem se_kw {K : PySem.W.Frag} {n m np : Nat} {F : List D → Res D} {lV : List (Pk V)} {l : List (Pk D)} {t tk : TA} {fa fk : DS → Res (List D)} (hl : PkR K lV l) (hn : l.length = np) (h1 : SA K W t fa) (l1 : ∀ δ ds, fa δ = .ok ds → ds.length = n) (h2 : SA K W tk fk) (l2 : ∀ δ ds, fk δ = .ok ds → ds.length = m) :
    SE K W (tCallKS n m (spD K np F) (pkV lV) (WE W) t tk) (cKw F l fa fk) := fun B0 H0 δ σ B H Q rel hp => by
  unfold cKw at hp
  refine h1 B0 H0 δ σ B H _ rel ?_
  cases e : fa δ with
  | no => rw [e] at hp; exact hp
  | er x => rw [e] at hp; exact hp
  | ok ds =>
    rw [e, Res.bind_ok] at hp
    intro vs B1 H1 g1 r1
    refine h2 B0 H0 δ σ B1 H1 _ (rel.mono g1) ?_
    cases e2 : fk δ with
    | no => rw [e2] at hp; exact hp
    | er x => rw [e2] at hp; exact fun c dx B' H' g' rp => hp c dx B' H' (g1.trans g') rp
    | ok es =>
      rw [e2, Res.bind_ok] at hp
      intro zs B2 H2 g2 r2
      have rr := hl.rel (RpA.mono g2.b r1) r2
      refine ⟨r1.length.trans (l1 δ ds e), r2.length.trans (l2 δ es e2), ?_, pkD l ds es, B2, g2.i, rr, ⟨fun p hp' => (g1.trans g2).t p (rel.g.t p (rel.tk p hp')), (g1.trans g2).n (rel.g.n rel.nt)⟩, ?_⟩
      · rw [rr.length, List.length_map, hn]
      · cases e3 : F (pkD l ds es) with
        | no => rw [e3] at hp; exact hp
        | er x => rw [e3] at hp; exact fun c dx B' H' g' rp => hp c dx B' H' ((g1.trans g2).trans g') rp
        | ok z => rw [e3] at hp; exact fun v B' H' g' rp => hp v B' H' ((g1.trans g2).trans g') rp
theorem run_kw {k n : Nat} {f : Addr} {fd : FuncData} {ps ks : List Str} {sp : Sp} {gV : List V → List V → List V} {g : List Value → List Value → List Value} {pins : List (Addr × Obj)} {σ : L2.St} {H : Hp} {s : Shared} {Q : VK} {us ws : List Value} {vs zs : List V} (F : FnOk X.prog X.w X.K X.mg X.base (L2.CX X.prog X.w) k f fd ps sp) (hr : Room k X.A) (hb : KBn X.K fd ps n ks g gV) (tk : Takes X W)
    (I : Inv X pins σ H s) (r : Vals vs us) (rz : Vals zs ws) (l1 : vs.length = n) (l2 : zs.length = ks.length) (h : sp (gV vs zs) H Q (WE W σ)) : wpAny (model X.prog X.w) X.A (call (.ref f) us (ks.zip ws)) (EP X pins σ Q) X.xe s := by
  refine wpAny_call (codeAny_mono (F.run X.A X.stack s H ⟨us, ks.zip ws⟩ (g us ws) (gV vs zs) Q _ hr I.env0 (hb.to s us ws I.kIn (r.length.symm.trans l1) (rz.length.symm.trans l2)) (hb.rel r rz) h) fun r s' hq => ?_)
  cases r with
  | error e => exact passAt tk σ pins H s e s' I hq
  | ok fl =>
    cases fl with
    | ret u => exact I.after hq
    | next => exact False.elim hq
    | brk => exact False.elim hq
    | cont => exact False.elim hq
theorem ce_kw0 (K : PySem.W.Frag) (hK : X.K = K) {k np : Nat} {f : Addr} {fd : FuncData} {ps ks : List Str} {F : List D → Res D} {lV : List (Pk V)} {l : List (Pk D)} {x : Str} {p pos : Pos} {kws : List Keyword} {tk : TA} {fk : DS → Res (List D)}
    (G : FnOk X.prog X.w K X.mg X.base (L2.CX X.prog X.w) k f fd ps (spD K np F)) (hr : Room k X.A) (hm : X.mg x = some (.ref f)) (hk : PySem.W.keepIn K (.ref f) = true) (hb : KForm K fd ps 0 ks lV) (hl : PkR K lV l) (tkn : Takes X W) (ha : CK X W kws tk fk) (hn : l.length = np := by rfl) (hkn : kws.length = ks.length := by rfl) (hg : Gl X x := by rfl) (hdb : (x == ("__debug__" : Str)) = false := by decide)
    (hall : (backToKw pos (keywordEach kws X.env)).all (·.1.isSome) = true := by rfl) (hks : (backToKw pos (keywordEach kws X.env)).filterMap (·.1) = ks := by rfl) (hpl : ((backTo pos (starEach [] X.env)).any (·.1) || (backToKw pos (keywordEach kws X.env)).any (·.1.isNone)) = false := by rfl) :
    CE X W (.Call (.Name x p) [] kws pos) (tCallKS 0 ks.length (spD K np F) (pkV lV) (WE W) tNil tk) (cKw F l cNil fk) := by
  subst hK
  obtain ⟨g, hb⟩ := hb
  refine ⟨⟨fun pins s σ H Q I h => ?_⟩, se_kw hl hn (fun B0 H0 δ σ B H Q rel hp => hp [] B H (Grow.refl rel.g.i) .nil) (fun δ ds e => by cases e; rfl) ha.sa (fun δ ds e => (ha.ln δ ds e).trans hkn)⟩
  refine wpAny_Call_Name_kw (ld_glob I hg hm ?_ hdb)
  refine PySem.W.callWith_KW0 (h₀ := X.base) I.ok.mod.kin hk hall (thn (ha.pk.run pos pins s σ H _ I h) fun ws s2 ⟨zs, H2, I2, rz, l1, l2, q2⟩ => ⟨I2.kIn, ?_⟩) hpl
  rw [hks]
  exact run_kw (us := []) G hr hb tkn I2 .nil rz l1 l2 q2
theorem ce_kw (K : PySem.W.Frag) (hK : X.K = K) {k n np : Nat} {f : Addr} {fd : FuncData} {ps ks : List Str} {F : List D → Res D} {lV : List (Pk V)} {l : List (Pk D)} {x : Str} {p pos : Pos} {e : Expr} {es : List Expr} {kws : List Keyword} {t tk : TA} {fa fk : DS → Res (List D)}
    (G : FnOk X.prog X.w K X.mg X.base (L2.CX X.prog X.w) k f fd ps (spD K np F)) (hr : Room k X.A) (hm : X.mg x = some (.ref f)) (hk : PySem.W.keepIn K (.ref f) = true) (hb : KForm K fd ps n ks lV) (hl : PkR K lV l) (tkn : Takes X W) (ha : CL X W (e :: es) t fa) (hkw : CK X W kws tk fk) (hn0 : (e :: es).length = n := by rfl) (hn : l.length = np := by rfl) (hkn : kws.length = ks.length := by rfl) (hg : Gl X x := by rfl) (hdb : (x == ("__debug__" : Str)) = false := by decide)
    (hall : (backToKw pos (keywordEach kws X.env)).all (·.1.isSome) = true := by rfl) (hks : (backToKw pos (keywordEach kws X.env)).filterMap (·.1) = ks := by rfl) (he : starEach (e :: es) X.env = (false, eval e X.env) :: starEach es X.env := by rfl) (hpl : ((backTo pos (starEach (e :: es) X.env)).any (·.1) || (backToKw pos (keywordEach kws X.env)).any (·.1.isNone)) = false := by rfl) :
    CE X W (.Call (.Name x p) (e :: es) kws pos) (tCallKS n ks.length (spD K np F) (pkV lV) (WE W) t tk) (cKw F l fa fk) := by
  subst hK
  obtain ⟨g, hb⟩ := hb
  refine ⟨⟨fun pins s σ H Q I h => ?_⟩, se_kw hl hn ha.sa (fun δ ds e => (ha.ln δ ds e).trans hn0) hkw.sa (fun δ ds e => (hkw.ln δ ds e).trans hkn)⟩
  refine wpAny_Call_Name_kw (ld_glob I hg hm ?_ hdb)
  refine PySem.W.callWith_KW (h₀ := X.base) I.ok.mod.kin hk hall (thn (ha.pa.run pos pins s σ H _ I h) fun us s1 ⟨vs, H1, I1, r, q⟩ => thn (hkw.pk.run pos pins s1 σ H1 _ I1 q) fun ws s2 ⟨zs, H2, I2, rz, l1, l2, q2⟩ => ⟨I2.kIn, ?_⟩) hpl he
  rw [hks]
  exact run_kw G hr hb tkn I2 r rz l1 l2 q2
end
/-- a tuple that stands at the module's top -/
theorem rp_tup {K : PySem.W.Frag} {a : Addr} {oT : Option Addr} {its : List Value} {n : Nat} {sl : Array (Option Value)} {vs : List V} {ds : List D} (h : K.lookup a = some ⟨.type "tuple", oT, .seq its.toArray n, sl⟩) (hl : its.length ≤ 1000) (hv : Vals vs its) (r : ∀ B, RpA K B vs ds) (B : Hp) : Rp K B (.ref a) (.tup ds) :=
  .tup (.inr ⟨_, its.toArray, n, h, rfl, rfl, by rw [List.size_toArray, sizeLine_eq]; omega, hv⟩) (r B)
/-- a def with keyword-only defaults -/
theorem funK_mk {K : PySem.W.Frag} {x qual : Str} {st : Stmt} {f Dk : Addr} {oc : Value} {od an : Option Addr} {osl : Array (Option Value)} {doc pm cdv ct : Value} {kws : List (Str × V)} (l : K.lookup f = some ⟨oc, od, .func (PySem.W.fnOf x qual (defArgs st) (defBody st) (defScope st) .none (.ref Dk) doc pm an cdv ct), osl⟩)
    (c : PySem.W.codeIn K cdv qual = true) (k : PySem.W.keepIn K (.ref f) = true) (hk : ∀ q ∈ kws, ∃ u, PySem.W.nsIn K Dk q.1 = some (some u) ∧ RelV q.2 u) : FunD K x qual (defArgs st) (defBody st) (defScope st) [] kws f (PySem.W.fnOf x qual (defArgs st) (defBody st) (defScope st) .none (.ref Dk) doc pm an cdv ct) :=
  ⟨⟨oc, od, .none, _, doc, pm, an, cdv, ct, osl, rfl, l, c, .inl ⟨rfl, rfl⟩, .inr ⟨Dk, rfl, hk⟩⟩, k⟩
end DV
namespace DV
open PySem L2 PySem.Spec PySem.Calls PyProof.Rows PySem.W

/-! ### isinstance of a caught error that has its dict -/
section
variable {prog : Program} {w : World} {A : Around} {E : Value → Shared → Prop} {s : Shared} {K : Frag} {x D : Addr} {ox od : Obj}
theorem classD {Q : Option Value → Shared → Prop} (C : ExcC K D) (X : K.In s.heap) (I : InstAt s.heap x ox D (some od)) (h : Q (some (.ref D)) { s with toks := s.toks + 1 }) : wpAny (model prog w) A (getAttr? (.ref x) "__class__") Q E s := by
  have hf : findObj K D (some od) "__class__" = some (.bind (.builtin "getset_descriptor.__get__") (.builtin "object.__class__")) := findObj_data (by obtain ⟨cd, hc, _⟩ := any_some C.hd; rw [hc]; rfl) C.ha C.hn C.ht
  obtain ⟨hp, g, d, t, os⟩ := s
  have L0 := I.type (M := model prog w)
  have L1 := looks_findIn (M := model prog w) X C.hg
  have L2' := looks_findIn (M := model prog w) X C.hk
  have L3 := looks_find (M := model prog w) X I hf
  have sub : Looks (model prog w) hp (isInstance (.ref x) (.type "BaseException")) true := L0.andThen (looks_subIn X C.hs)
  have z2 : (Value.builtin "BaseException.__getattribute__" == Value.builtin "object.__getattribute__") = false := by decide +kernel
  have z1 : (onTheHeap (Value.ref D) && Value.builtin "BaseException.__getattribute__" == Value.builtin "object.__getattribute__") = false := by rw [z2]; rfl
  unfold getAttr? getAttrBy? getAttrBy
  refine wpAny_bind (wpAny_mkText (wpAny_bind (wpAny_attempt (wpAny_holding (wpAny_bind (L0.at (wpAny_bind (L1.at ?_))))))))
  show wpAny _ _ (if (onTheHeap (Value.ref D) && Value.builtin "BaseException.__getattribute__" == Value.builtin "object.__getattribute__") = true then _ else _) _ _ _
  rw [z1, if_neg Bool.false_ne_true]
  unfold getAttrByItsOwn hookBefore
  refine wpAny_bind ?_
  rw [if_pos (show onTheHeap (Value.ref D) = true from rfl)]
  refine L2'.at (wpAny_bind (wpAny_attempt (wpAny_holding ?_)))
  unfold callGetattribute
  rw [show (false && onTheHeap (Value.builtin "BaseException.__getattribute__")) = false from rfl, if_neg Bool.false_ne_true]
  unfold boundAndCalled
  rw [PySem.F.excAttr_ValueError.ga.bind (.ref x)]
  refine wpAny_bind (wpAny_pure ?_)
  show wpAny _ _ (call (.builtin "BaseException.__getattribute__") [.ref x, .str "__class__" t]) _ _ _
  refine wpAny_call (codeAny_call_builtin PySem.F.excAttr_ValueError.ga.plain PySem.F.entry_bexc_ga ?_)
  refine @check_slot (model prog w) _ _ ⟨hp, g, d, t + 1, os⟩ "BaseException.__getattribute__" "BaseException" "__getattribute__" (.ref x) [.str "__class__" t] [] _ (by decide +kernel) (by decide +kernel) sub (PySem.F.args_bexc_ga (.ref x) (.str "__class__" t)) ?_
  unfold Builtin.«object.__getattribute__»
  refine wpAny_bind (wpAny_of_eq (a := ((Value.ref x : Value), [Value.str "__class__" t])) (by first | rfl | (simp only [slotArgs]; rfl)) (wpAny_bind (wpAny_pure (wpAny_bind (L0.at (wpAny_bind (L3.at ?_)))))))
  show wpAny _ _ (holding [Value.builtin "object.__class__"] (call (.builtin "getset_descriptor.__get__") [.builtin "object.__class__", .ref x, .ref D]) >>= ret) _ _ _
  refine wpAny_bind (wpAny_holding (wpAny_call (class_get (s := ⟨hp, g, d, t + 1, os⟩) (ox := ox) (od := some od) X I C.hm (wpAny_pure ?_))))
  show wpAny _ _ (handedOut (.ref D)) _ _ _
  rw [handedOut_of (v := .ref D) rfl]
  first
    | exact wpAny_pure (wpAny_pure h)
    | exact wpAny_pure h
    | exact wpAny_pure (wpAny_bind (wpAny_pure (wpAny_pure h)))
theorem kitD (C : ExcC K D) : KitX K (.ref x) (.ref D) (fun h => InstAt h x ox D (some od)) := by
  obtain ⟨cdD, hcD, _⟩ := any_some C.hd
  unfold clsIn at hcD
  split at hcD
  case h_2 => cases hcD
  rename_i c' d' cd' sl' ho
  refine ⟨fun _ _ _ I => I.type, fun _ _ X _ A' Q' E' s' k q => ?_, fun h tp dd its n sl X htp => Bool.eq_false_iff.mpr fun q => ?_, fun X I k => classD C X I k⟩
  · unfold isType loadHead
    exact wpAny_bind (wpAny_loadPart (k _ _ (X _ _ ho)) (wpAny_pure q))
  · have e : D = tp := Value.ref.inj (beq_iff_eq.mp q)
    subst e
    have z := (X _ _ ho).symm.trans htp
    cases z
end
end DV
namespace DV
open PySem L2 PySem.Spec PySem.Calls PyProof.Rows
/-- isinstance(e, c), c a builtin class -/
def tIsX (K : PySem.W.Frag) (a : Addr) (cls : Value) (d : Option Addr) (cv : Value) (te tc : TE) : TE := fun σ H Q => te σ H fun y H1 => tc σ H1 fun c H2 => y = .ref a ∧ (∀ u, RelV c u → u = cv) ∧ ∃ C dd fs b, cls = .ref C ∧ ExcC K C ∧ d = some dd ∧ H2 dd = some (.xd fs) ∧ PySem.W.kitOne K cls cv = some b ∧ Q (.bl b) H2
def cIsX (l : List (Str × Bool)) : Exn → DS → Res D := fun x _ => match l.lookup x.cls with
  | some b => .ok (.bl b)
  | none => .no
def TabI (K : PySem.W.Frag) (cv : Value) (l : List (Str × Bool)) : Prop := ∀ s b v, l.lookup s = some b → clsV K s = some v → PySem.W.kitOne K v cv = some b
theorem tabi_nil {K : PySem.W.Frag} {c : Value} : TabI K c [] := fun s b v h => by cases h
theorem tabi_cons {K : PySem.W.Frag} {c v0 : Value} {l : List (Str × Bool)} {x : Str} {b0 : Bool} (hx : clsV K x = some v0) (he : PySem.W.kitOne K v0 c = some b0) (r : TabI K c l) : TabI K c ((x, b0) :: l) := fun s b v h hv => by
  rw [List.lookup_cons] at h
  cases q : (s == x) with
  | true => rw [q] at h; cases h; rw [beq_iff_eq.mp q, hx] at hv; cases hv; exact he
  | false => rw [q] at h; exact r s b v h hv
section
variable {X : Cx} {i : Nat}
theorem cex_is {e : Expr} {y : Str} {T : String} {p p2 pos : Pos} {l : List (Str × Bool)} (he : XCx X fun Y _ _ _ => PE Y e (tVar i)) (hl : TabI X.K (.type T) l) (hi : X.mg "isinstance" = none) (hy : X.mg y = none) (hv : bootBuiltins y = some (.type T)) (hgi : Gl X "isinstance" := by rfl) (hgy : Gl X y := by rfl) (hn : y ≠ "__name__" := by decide) (hdb : (y == ("__debug__" : Str)) = false := by decide)
    (hs : starEach [e, .Name y p2] X.env = (false, eval e X.env) :: starEach [.Name y p2] X.env := by rfl) (hs2 : starEach [.Name y p2] X.env = (false, eval (.Name y p2) X.env) :: starEach [] X.env := by rfl) (hpl : (backTo pos (starEach [.Name y p2] X.env)).any (·.1) = false := by rfl) :
    CEx X i (.Call (.Name "isinstance" p) [e, .Name y p2] [] pos) (fun a cls d => tIsX X.K a cls d (.type T) (tVar i) (tC (.ty T))) (cIsX l) := by
  refine ⟨fun a oe cls d pn hz hf => ⟨fun pins s σ H Q I h => ?_⟩, fun x a cls d B0 H0 δ σ B H Q rel cx hp => ?_⟩
  · have hP : PA (X.suite a ((a, oe) :: pn)) [e, .Name y p2] (tCons (tVar i) (tCons (tC (.ty T)) tNil)) := pa_cons (he a oe cls d pn hz hf) (pa_cons (pe_bltn hgy hy hv rfl hn hdb) pa_nil hs2) hs
    refine wpAny_Call_Name_kw (ld_blt I hgi hi (by decide +kernel : bootBuiltins "isinstance" = some (.builtin "isinstance")) ?_ (by decide) (by decide))
    refine PyProof.Rows.callWith_builtin1 (thn (hP.run pos pins s σ H (fun vs H2 => ∃ y c, vs = [y, c] ∧ y = .ref a ∧ (∀ u, RelV c u → u = .type T) ∧ ∃ C dd fs b, cls = .ref C ∧ ExcC X.K C ∧ d = some dd ∧ H2 dd = some (.xd fs) ∧ PySem.W.kitOne X.K cls (.type T) = some b ∧ Q (.bl b) H2) I ?_) fun us s1 hh => ?_) hs hpl
    · obtain ⟨v, hv1, hq⟩ := h
      exact ⟨v, hv1, _, _, rfl, hq.1, hq.2⟩
    · obtain ⟨vs, H2, I2, r2, y2, c2, rfl, rfl, hcv, C, dd, fs, b, rfl, EC, rfl, ed, ek, q⟩ := hh
      cases r2 with
      | cons rx rr =>
        cases rr with
        | cons rt rr =>
          cases rr
          cases rx
          have ec := hcv _ rt
          subst ec
          obtain ⟨hget, _⟩ := I2.pin (a, oe) (List.mem_append.mpr (.inl List.mem_cons_self))
          obtain ⟨vs, hvs⟩ := hf
          obtain ⟨mA, hns, _⟩ := (show ObjOk X.prog X.w H2 s1.heap dd (.xd fs) from I2.hok dd _ ed)
          obtain ⟨od, ho, _⟩ := lookIn_ns hns
          have J : PySem.W.InstAt s1.heap a oe C (some od) := ⟨hget, hz.1, by unfold PySem.W.notCls; rw [hvs] <;> rfl, by rw [hz.2]; exact ho⟩
          exact PySem.W.kia_one (kitD EC) I2.kIn J ek (fun z => nomatch z) fun tk => ⟨.bl b, H2, I2.kept (t' := tk) fun _ _ z => z, rfl, q⟩
  · obtain ⟨C, rfl, _, EC, _⟩ := cx.k
    obtain ⟨hcl, dd, us, rfl, hB, e1, e2⟩ := cx.rp
    unfold cIsX at hp
    cases q : l.lookup x.cls with
    | none => rw [q] at hp; exact hp.elim
    | some b =>
      rw [q] at hp
      exact ⟨_, cx.at_, rfl, fun u hu => hu, C, dd, us, b, rfl, EC, rfl, rel.g.i _ _ hB, hl _ _ _ q hcl, hp _ B H (Grow.refl rel.g.i) (.v _)⟩
theorem cex_one {op} {a : Expr} {pos : Pos} {t : TXE} {f : Exn → DS → Res D} (h : CEx X i a t f) : CEx X i (.BoolOp op [a] pos) t f := ⟨fun a oe cls d pn hz hf => pe_one (h.pe a oe cls d pn hz hf), h.se⟩
theorem cex_and {a b : Expr} {rest : List Expr} {pos : Pos} {ta tb : TXE} {f g : Exn → DS → Res D} (h : CEx X i a ta f) (h2 : CEx X i (.BoolOp .And (b :: rest) pos) tb g) : CEx X i (.BoolOp .And (a :: b :: rest) pos) (fun a cls d => tAndV (ta a cls d) (tb a cls d)) (fun x => cAndV (f x) (g x)) := by
  refine ⟨fun a oe cls d pn hz hf => pe_and (h.pe a oe cls d pn hz hf) (h2.pe a oe cls d pn hz hf), fun x a cls d B0 H0 δ σ B H Q rel cx hp => ?_⟩
  unfold cAndV at hp
  refine h.se x a cls d B0 H0 δ σ B H _ rel cx ?_
  cases e : f x δ with
  | no => rw [e] at hp; exact hp
  | er x => rw [e] at hp; exact hp
  | ok d =>
    rw [e, Res.bind_ok] at hp
    intro v B1 H1 g1 r1
    split at hp
    · cases r1
      refine ⟨true, rfl, ?_⟩
      rw [if_pos rfl]
      exact h2.se x a cls _ B0 H0 δ σ B1 H1 _ (rel.mono g1) (cx.mono g1.b) (postE_mono g1 hp)
    · cases r1
      refine ⟨false, rfl, ?_⟩
      rw [if_neg Bool.false_ne_true]
      exact hp _ _ _ g1 (.v _)
    · exact hp.elim
theorem cex_not {a : Expr} {pos : Pos} {ta : TXE} {f : Exn → DS → Res D} (h : CEx X i a ta f) : CEx X i (.UnaryOp .Not a pos) (fun a cls d => tNotV (ta a cls d)) (fun x => cUn oNot (f x)) := by
  refine ⟨fun a oe cls d pn hz hf => pe_not (h.pe a oe cls d pn hz hf), fun x a cls d B0 H0 δ σ B H Q rel cx hp => ?_⟩
  unfold cUn at hp
  refine h.se x a cls d B0 H0 δ σ B H _ rel cx ?_
  cases e : f x δ with
  | no => rw [e] at hp; exact hp
  | er x => rw [e] at hp; exact hp
  | ok d =>
    rw [e, Res.bind_ok] at hp
    intro v B1 H1 g1 r1
    unfold oNot at hp
    split at hp
    · cases r1
      exact ⟨_, rfl, hp _ _ _ g1 (.v _)⟩
    · exact hp.elim
/-- e.f == 'z' -/
theorem cex_c {a b : Expr} {op : CmpOp} {pos : Pos} {ta : TXE} {v : V} {f : Exn → DS → Res D} {r : R2} {g : D → D → Res D} (o : XCx X fun Y _ _ _ => OK2 Y (compareOp op) r g) (o0 : OK2 X (compareOp op) r g) (ha : CEx X i a ta f) (hb : XCx X fun Y _ _ _ => PE Y b (tC v)) (hm : behindInMarks op b = false := by first | exact nomark _ | rfl) :
    CEx X i (.Compare a [op] [b] pos) (fun a cls d => tOp r (ta a cls d) (tC v)) (fun x => cBin g (f x) (cC (.v v))) := by
  refine ⟨fun a oe cls d pn hz hf => pe_cmpR (o a oe cls d pn hz hf).o (ha.pe a oe cls d pn hz hf) (hb a oe cls d pn hz hf) hm, fun x a cls d B0 H0 δ σ B H Q rel cx hp => ?_⟩
  unfold cBin at hp
  refine ha.se x a cls d B0 H0 δ σ B H _ rel cx ?_
  cases e : f x δ with
  | no => rw [e] at hp; exact hp
  | er x => rw [e] at hp; exact hp
  | ok z =>
    rw [e, Res.bind_ok] at hp
    intro u B1 H1 g1 r1
    exact o0.r _ _ _ _ _ _ _ g1.i r1 (.v v) (postV_of (postE_mono g1 hp) (fun x => o0.c _ _ x))
end
end DV
namespace DV
open PySem L2 PySem.Spec PySem.Calls PyProof.Rows LamX

/-! ### a lambda is made: what was known stays known -/
section
variable {X : Cx} {pins : List (Addr × Obj)} {σ : L2.St} {H : Hp} {s : Shared}
theorem lam_made {c P : Addr} {params : Arguments} {body : Expr} {scope : Scope} {pos : Pos} {E : Value → Shared → Prop} {Q : Value → Shared → Prop} (I : Inv X pins σ H s) (TB : TabB X.base X.mg c P) (hcode : X.env.code = .ref c)
    (hT : NdefX.TabN H P lamAt) (hq : X.env.qual ++ "<lambda>" = lamAt pos.line pos.col) (hdef : defaultsOf params X.env = ([], [])) (hfree : ∀ y ∈ scope.names, y.2 = .free → ∃ c, X.env.cells.lookup y.1 = some c)
    (h : ∀ (f c' : Addr) (pm ctv : Value) (H1 : Hp) (s' : Shared), Inv X pins σ H1 s' → ExtN H H1 → (∀ a, H a ≠ none → H1 a ≠ none) → (∀ P', NdefX.TabN H P' lamAt → NdefX.TabN H1 P' lamAt) → s'.heap.get? f = some (PySem.W.kla_obj "<lambda>" (X.env.qual ++ "<lambda>") params body scope (cloFrom X.env.cells scope.names []) pm c' ctv) →
      H1 f = none → f ∉ frs X.stack → H1 c' = some (CodeO c' (X.env.qual ++ "<lambda>")) → Q (.ref f) s') : wpAny (model X.prog X.w) X.A (eval (.Lambda params body scope pos) X.env) Q E s := by
  obtain ⟨ps, hP, ht, ha⟩ := hT
  have bP : s.heap.BuiltinsAt X.mg P := TB.bm.keeps I.bk
  have hP' : s.heap.get? P = some { cls := .none, data := .fields ps } := I.hok P _ hP
  have nofr : ∀ f, s.heap.objs.size ≤ f → f ∉ frs X.stack := fun f hf z => (List.mem_cons.mp (I.stkSub _ z)).elim (fun e => by
    have h1 := I.lt
    rw [← e] at h1
    exact Nat.lt_irrefl _ (Nat.lt_of_lt_of_le h1 hf)) fun e => I.nofs hf e
  refine PySem.W.kla_eval hdef ?_
  cases hc : codeAmong pos ps.toList with
  | some cv =>
    obtain ⟨c', e, hco⟩ := ha pos cv hc
    subst e
    refine PySem.W.kla_makeFunctionHit (mg := X.mg) (c := c) (P := P) (ps := ps) (closure_ok hfree) I.ok.glob (I.mod.glob.keeps I.bk) hcode (TB.code.keeps I.bk) hP' ht hc bP fun ctv h' tk hx hsz => ?_
    exact h h'.objs.size c' ((X.mg "__name__").getD .none) ctv H _ (I.kept (t' := tk) fun b o e => Heap.get?_push_of_some _ (hx b o e)) (ExtN.refl H) (fun _ z => z) (fun _ z => z) (Heap.get?_push_size _ rfl) (I.hok.fresh hsz) (nofr _ hsz) (by rw [hq]; exact hco)
  | none =>
    refine PySem.W.kla_makeFunction (mg := X.mg) (c := c) (P := P) (ps := ps) (closure_ok hfree) I.ok.glob (I.mod.glob.keeps I.bk) hcode (TB.code.keeps I.bk) hP' ht hc TB.gP bP fun c' ctv h' tk hx hge hlt hrec htb => ?_
    obtain ⟨c2, oc, vs, t, e2, hoc, hd, hv⟩ := hrec
    cases e2
    have hsz : s.heap.objs.size ≤ h'.objs.size := by omega
    have nC : H c' = none := I.hok.fresh hge
    have nPc : P ≠ c' := ne_of_none hP nC
    have eL : (ps ++ #[rawInt pos.line, rawInt pos.col, .ref c']).toList = ps.toList ++ [rawInt pos.line, rawInt pos.col, .ref c'] := by simp
    have I1 := inv_table (t' := tk) (more := #[rawInt pos.line, rawInt pos.col, .ref c']) (h' := h'.push (PySem.W.kla_obj "<lambda>" (X.env.qual ++ "<lambda>") params body scope (cloFrom X.env.cells scope.names []) ((X.mg "__name__").getD .none) c' ctv)) I hP (fun b o hb e => Heap.get?_push_of_some _ (hx b o hb e)) (Heap.get?_push_of_some _ htb) hge ⟨oc, vs, t, Heap.get?_push_of_some _ hoc, hd, hv⟩
    have hE : ExtN H (upd (upd H P (.tbl (ps ++ #[rawInt pos.line, rawInt pos.col, .ref c']))) c' (CodeO c' (X.env.qual ++ "<lambda>"))) := fun b o e n => by
      have b1 : b ≠ P := fun z => n ps (Option.some.inj (e.symm.trans (by rw [z]; exact hP)))
      rw [upd_ne (ne_of_none e nC), upd_ne b1, e]
    refine h h'.objs.size c' ((X.mg "__name__").getD .none) ctv _ _ I1 hE (fun b hb => ?_) (fun P' hp => ?_) (Heap.get?_push_size _ rfl) ?_ (nofr _ hsz) upd_same
    · by_cases b1 : b = c'
      · subst b1; rw [upd_same]; simp
      · rw [upd_ne b1]
        by_cases b2 : b = P
        · subst b2; rw [upd_same]; simp
        · rw [upd_ne b2]; exact hb
    · by_cases hb : P' = P
      · rw [hb]
        refine ⟨_, by rw [upd_ne nPc, upd_same], by rw [eL]; exact PySem.TriplesOk_snoc _ _ _ _ ht, fun p' cv hcv => ?_⟩
        rw [eL] at hcv
        rcases NdefX.among_app2 _ ht hcv with z | ⟨z, z1, z2⟩
        · obtain ⟨c0, e1, e2⟩ := ha p' cv z
          exact ⟨c0, e1, hE _ _ e2 codeO_ne⟩
        · exact ⟨c', z, by rw [← z1, ← z2, ← hq]; exact upd_same⟩
      · obtain ⟨ps', a1, a2, a3⟩ := hp
        refine ⟨ps', by rw [upd_ne (ne_of_none a1 nC), upd_ne hb, a1], a2, fun p' cv hcv => ?_⟩
        obtain ⟨c0, e1, e2⟩ := a3 p' cv hcv
        exact ⟨c0, e1, hE _ _ e2 codeO_ne⟩
    · have n2 : h'.objs.size ≠ P := Nat.ne_of_gt (Nat.lt_of_lt_of_le (Heap.lt_size hP') hsz)
      rw [upd_ne (Nat.ne_of_gt hlt), upd_ne n2]
      exact I.hok.fresh hsz
end
/-- a def that is handed a lambda and calls it -/
def Gives (X : Cx) (Ng : List Str) (x : Str) (sg : Scope) (g : Addr) (cdg : Value) (bg : List Stmt) (a : Str) (q : Str) (TT : (XK → Hp → VK → Prop) → Hp → VK → Prop) : Prop :=
  ∀ (f c' : Addr) (s : Shared) (H : Hp) (Q : VK) (tl : XK → Hp → VK → Prop),
    (∀ (W : WX) (pn : List (Addr × Obj)) (xe : Value → Shared → Prop) (E : XK) (p1 p2 : Pos), Takes ((cxOf (L2.CX X.prog X.w) X.prog X.w X.K X.mg X.base Ng x sg g cdg X.A X.stack s H (fun _ _ _ => False)).tr pn xe) W → (∀ cls d σ' H', E cls d H' → W cls d σ' H') →
      PE ((cxOf (L2.CX X.prog X.w) X.prog X.w X.K X.mg X.base Ng x sg g cdg X.A X.stack s H (fun _ _ _ => False)).tr pn xe) (.Call (.Name a p1) [] [] p2) (fun σZ HZ Q => σZ[0]? = some (some (.ref f)) ∧ HZ c' = some (CodeO c' q) ∧ tl E HZ Q)) →
    H c' = some (CodeO c' q) → TT tl H Q → ∃ t, PSs (cxOf (L2.CX X.prog X.w) X.prog X.w X.K X.mg X.base Ng x sg g cdg X.A X.stack s H (fun _ _ _ => False)) bg t ∧ t { nx := fun _ H' => Q .non H', rt := Q } (L2.start Ng [.ref f]) H
def tLamD (P : Addr) (TT : (XK → Hp → VK → Prop) → Hp → VK → Prop) (t : XK → TE) : TE := fun σ H Q => NdefX.TabN H P lamAt ∧ ∀ H1, ExtN H H1 → (∀ a, H a ≠ none → H1 a ≠ none) → (∀ P', NdefX.TabN H P' lamAt → NdefX.TabN H1 P' lamAt) → TT (fun E H' Q' => t E σ H' Q') H1 Q
section
variable {X : Cx}
theorem pe_lamD {TT : (XK → Hp → VK → Prop) → Hp → VK → Prop} {x a : Str} {g c P : Addr} {k : Nat} {pg : Arguments} {bg : List Stmt} {sg : Scope} {dV kV doc pm cdv ct oc : Value} {an od : Option Addr} {osl : Array (Option Value)} {Ng : List Str}
    {params : Arguments} {body : Expr} {scope : Scope} {t : XK → TE} {p lpos pos : Pos} (hg : Gl X x) (hm : X.mg x = some (.ref g)) (hk : PySem.W.keepIn X.K (.ref g) = true) (lk : X.K.lookup g = some ⟨oc, od, .func (PySem.W.fnOf x x pg bg sg dV kV doc pm an cdv ct), osl⟩) (hcg : PySem.W.codeIn X.K cdv x = true)
    (hb : L2.Binds X.K (PySem.W.fnOf x x pg bg sg dV kV doc pm an cdv ct) [a] []) (Sg : FnScope Ng [a] sg) (hNg : Ng[0]? = some a) (hva : Vis sg a) (hG : Gives X Ng x sg g cdv bg a (X.env.qual ++ "<lambda>") TT) (TB : TabB X.base X.mg c P) (hcode : X.env.code = .ref c) (hq : X.env.qual ++ "<lambda>" = lamAt lpos.line lpos.col)
    (hr : Room (k + 2) X.A) (L : LamS X.env.scope scope) (hdef : defaultsOf params X.env = ([], []))
    (hbind : ∀ (q : Str) (cl : List (Str × Addr)) (pm cv ctv : Value), bindArgs (PySem.W.kla_fn "<lambda>" q params body scope cl pm cv ctv) ⟨[], []⟩ = pure [])
    (hbody : ∀ (A : Around) (outer : List Env) (s : Shared) (H : Hp) (E : XK) (f c' : Addr), Room k (A.deeper (lamEnv X scope s.heap.objs.size f c')) → PE (lamCx X A outer s H E scope f c') body (t E))
    (hdb : (x == ("__debug__" : Str)) = false := by decide) (hd : (a == ("__debug__" : Str)) = false := by decide) (hcd : (a == ("__classdict__" : Str)) = false := by decide) : PE X (.Call (.Name x p) [.Lambda params body scope lpos] [] pos) (tLamD P TT t) := by
  refine ⟨fun pins s σ H Q I h => ?_⟩
  refine wpAny_Call_Name_kw (ld_glob I hg hm (PySem.W.callWith_K (h₀ := X.base) I.ok.mod.kin hk ?_ (by rfl) (by rfl)) hdb)
  show wpAny _ _ (spliced ((false, eval (.Lambda params body scope lpos) X.env) :: backTo pos (starEach [] X.env))) _ _ s
  refine Calls.spliced_cons (lam_made I TB hcode h.1 hq hdef (L.has I.ok) fun f c' pm' ctv H1 s' I1 eN eE T1 hf hfn hfr hco => Calls.spliced_nil ⟨I1.kIn, ?_⟩)
  have rc : codeAny (model X.prog X.w) X.A (.call (.ref g) ⟨[.ref f], []⟩) (CR (L2.CX X.prog X.w) X.stack X.prog X.w H1 s' Q (fun _ _ _ => False)) s' := by
    refine run_ofS (N := Ng) (ps := [a]) (us := [.ref f]) (vs := [.ref f]) lk hcg Sg hr I1.env0 (hb s' [.ref f] I1.kIn rfl) (.cons rfl .nil) rfl fun hr' => ?_
    exact hG f c' s' H1 Q (fun E H' Q' => t E σ H' Q') (fun W pn xe E p1 p2 tk hW => pe_act (i := 0) I1 L hf hfn hfr (hbind _ _ _ _ _) tk hW hr' (fun A outer s H hr2 => hbody A outer s H E f c' hr2) hNg hva hd hcd) hco (h.2 H1 eN eE T1)
  refine wpAny_call (codeAny_mono rc fun r s2 hq => ?_)
  cases r with
  | error e => exact (passL pins σ H1 s' e s2 I1 hq |> fun z => z)
  | ok fl =>
    cases fl with
    | ret u => exact I1.after hq
    | next => exact False.elim hq
    | brk => exact False.elim hq
    | cont => exact False.elim hq
end

/-! ### try: a() / except .. as e: .. / return z, where a is the lambda that was handed in -/
theorem takes_len {Y : Cx} {W : WX} (tk : Takes Y W) : Takes Y (fun c d σ H => σ.length = Y.N.length → W c d σ H) := fun u s' ⟨a, B, sI, pins, σ, H, cls, d, e, I, nb, up, sky, na, os, ag, w⟩ => tk u s' ⟨a, B, sI, pins, σ, H, cls, d, e, I, nb, up, sky, na, os, ag, w I.len⟩
/-- what the def makes of the answer r of the lambda -/
def wordF (n : Nat) (q : Clauses) (z : Str) (r : Res D) : Res D := match r with
  | .ok _ => .ok (.str z)
  | .er x => match cPick q x (List.replicate n none) with
    | .rt d => .ok d
    | _ => .no
  | .no => .no
def cLam (n : Nat) (q : Clauses) (z : Str) (fe : DS → Res D) : DS → Res D := fun δ => wordF n q z (fe δ)
def TTw (K : PySem.W.Frag) (Ng : List Str) (z : Str) (l : List (Value × Nat × TX)) : (XK → Hp → VK → Prop) → Hp → VK → Prop := fun tl H Q =>
  ∃ E : XK, (∀ cls d (σ : L2.St) H', σ.length = Ng.length → E cls d H' → wNamed K (fun _ _ _ _ => False) { nx := fun _ H' => Q (.str z) H', rt := Q } l cls d σ H') ∧ tl E H (fun _ H' => Q (.str z) H')
section
variable {X : Cx}
theorem word_gives {Ng : List Str} {x a z : Str} {sg : Scope} {g : Addr} {cdg : Value} {j : Nat} {p1 p2 p3 p4 p5 p8 : Pos} {h₀ : ExceptHandler} {hds : List ExceptHandler} {l : List (Value × Nat × TX)} {q : Str} (hN : Ng.Nodup) (h1 : 1 ≤ Ng.length)
    (hh : ∀ (s : Shared) (H : Hp), HdsN (cxOf (L2.CX X.prog X.w) X.prog X.w X.K X.mg X.base Ng x sg g cdg X.A X.stack s H (fun _ _ _ => False)) (h₀ :: hds) l)
    (hsw : ∀ (Y : Cx) , swapsWith (.Call (.Name a p1) [] [] p2) none p3.line Y.env = pure false) :
    Gives X Ng x sg g cdg [.Try [.Expr (.Call (.Name a p1) [] [] p2) p3] (h₀ :: hds) [] [] p8, .Return (some (.Constant (.str z) j p4)) p5] a q (TTw X.K Ng z l) := by
  intro f c' s H Q tl act hc h
  obtain ⟨E, hE, ht⟩ := h
  refine ⟨_, pss_cons (ps_tryN (X := cxOf (L2.CX X.prog X.w) X.prog X.w X.K X.mg X.base Ng x sg g cdg X.A X.stack s H (fun _ _ _ => False)) (Wout := fun _ _ _ _ => False) (l := l)
      (tb := fun W D σ H => ∃ Ech : XK, (∀ cls d (σ' : L2.St) H', σ'.length = Ng.length → Ech cls d H' → W cls d σ' H') ∧ σ[0]? = some (some (.ref f)) ∧ H c' = some (CodeO c' q) ∧ tl Ech H (fun _ H' => D.nx σ H')) rfl rfl hN L2.takes0 (fun W pn xe tk _ => ?_) (hh s H)) (pss_one (ps_ret pe_str)), ?_⟩
  · refine ⟨fun pins s' σ H' D I h' => ?_⟩
    obtain ⟨Ech, hW, e1, e2, e3⟩ := h'
    have hp := act _ pn xe Ech p1 p2 (takes_len tk) (fun cls d σ' H' he hl => hW cls d σ' H' hl he)
    exact (pss_one (ps_expr (pos := p3) hp (hsw _))).run pins s' σ H' D I ⟨e1, e2, e3⟩
  · refine ⟨E, fun cls d σ' H' hl he => hE cls d σ' H' hl he, ?_, hc, ht⟩
    show (L2.start Ng [V.ref f])[0]? = _
    rfl
theorem rel_none {K : PySem.W.Frag} {B H : Hp} {σ : L2.St} (i : Same B H) (tk : ∀ p ∈ tabsOf K, NdefX.TabN H p lamAt) (nt : NoT B) : Rel K B H B H σ (List.replicate σ.length none) :=
  ⟨Grow.refl i, tk, nt, by simp, fun j o e => (by rw [List.getElem?_replicate] at e; split at e <;> cases e), fun j k o o' v v' _ e _ _ _ _ => (by rw [List.getElem?_replicate] at e; split at e <;> cases e)⟩
theorem se_lam {K : PySem.W.Frag} {W : WX} {Y : Cx} {Ng : List Str} {z : Str} {hds : List ExceptHandler} {l : List (Value × Nat × TX)} {q : Clauses} {t : XK → TE} {fe : DS → Res D} {P : Addr} (hY : Y.K = K) (hP : P ∈ tabsOf K) (hh : HdsC Y hds l q) (hb : ∀ E : XK, SE K (Wof E) (t E) fe) :
    SE K W (tLamD P (TTw K Ng z l) t) (cLam Ng.length q z fe) := fun B0 H0 δ σ B H Q rel hp => by
  refine ⟨rel.g.t P (rel.tk P hP), fun H1 eN eE eT => ?_⟩
  have nB : NoT B := rel.g.n rel.nt
  have g1 : Grow B H B H1 := ⟨Same.refl _, eN, fun a o e => eN a o (rel.g.i a o e) (fun ps y => nB a ps (by rw [e, y])), fun _ _ => rfl, eE, eT, fun h => h⟩
  unfold cLam wordF at hp
  cases e : fe δ with
  | no => rw [e] at hp; exact hp.elim
  | ok d0 =>
    rw [e] at hp
    exact ⟨fun _ _ _ => False, fun _ _ _ _ _ h => h.elim, hb _ B0 H0 δ σ B H1 _ (rel.mono g1) (by rw [e]; exact fun v B' H' g r => hp (.str z) B' H' (g1.trans g) (.v _))⟩
  | er x =>
    rw [e] at hp
    refine ⟨fun cls d H' => ∃ B', Grow B H1 B' H' ∧ RpX K B' cls d x, fun cls d σ' H' hl ⟨B', g, r⟩ => ?_, hb _ B0 H0 δ σ B H1 _ (rel.mono g1) (by rw [e]; exact fun c dx B' H' g r => ⟨B', g, r⟩)⟩
    have tk' : ∀ p ∈ tabsOf K, NdefX.TabN H' p lamAt := fun p hp' => g.t p (g1.t p (rel.g.t p (rel.tk p hp')))
    have R := rel_none (σ := σ') g.i tk' (g.n nB)
    rw [hl] at R
    subst hY
    refine pick_ok (W := fun _ _ _ _ => False) (E := { nx := fun _ H' => Q (.str z) H', rt := Q }) hh (x := x) (δ := List.replicate Ng.length none) ?_ (Same.refl B') R r
    dsimp only at hp
    cases e2 : cPick q x (List.replicate Ng.length none) with
    | rt d2 => rw [e2] at hp; exact fun v B2 H2 s2 gg rr => hp v B2 H2 ((g1.trans g).trans gg) rr
    | nx _ => rw [e2] at hp; exact hp.elim
    | rf _ => rw [e2] at hp; exact hp.elim
    | bk _ => rw [e2] at hp; exact hp.elim
    | ct _ => rw [e2] at hp; exact hp.elim
    | rs _ _ => rw [e2] at hp; exact hp.elim
    | no => rw [e2] at hp; exact hp.elim
/-- x(lambda: body), x a def of that form -/
theorem ce_lam (K : PySem.W.Frag) (hK : X.K = K) {W : WX} {x a z : Str} {g c P : Addr} {k j : Nat} {pg : Arguments} {bg : List Stmt} {sg : Scope} {dV kV doc pm cdv ct oc : Value} {an od : Option Addr} {osl : Array (Option Value)} {Ng : List Str} {params : Arguments} {body : Expr} {scope : Scope} {t : XK → TE} {fe : DS → Res D} {p lpos pos p1 p2 p3 p4 p5 p8 : Pos} {h₀ : ExceptHandler} {hds : List ExceptHandler} {l : List (Value × Nat × TX)} {q : Clauses}
    (hg : Gl X x) (hm : X.mg x = some (.ref g)) (hk : PySem.W.keepIn K (.ref g) = true) (lk : K.lookup g = some ⟨oc, od, .func (PySem.W.fnOf x x pg bg sg dV kV doc pm an cdv ct), osl⟩) (hcg : PySem.W.codeIn K cdv x = true) (hb : L2.Binds K (PySem.W.fnOf x x pg bg sg dV kV doc pm an cdv ct) [a] []) (Sg : FnScope Ng [a] sg) (hNg : Ng[0]? = some a) (hva : Vis sg a)
    (hbg : bg = [.Try [.Expr (.Call (.Name a p1) [] [] p2) p3] (h₀ :: hds) [] [] p8, .Return (some (.Constant (.str z) j p4)) p5])
    (hh : ∀ (s : Shared) (H : Hp), HdsC (cxOf (L2.CX X.prog X.w) X.prog X.w K X.mg X.base Ng x sg g cdv X.A X.stack s H (fun _ _ _ => False)) (h₀ :: hds) l q) (hs0 : Shared) (hH0 : Hp)
    (TB : TabB X.base X.mg c P) (hcode : X.env.code = .ref c) (hP : P ∈ tabsOf K) (hq : X.env.qual ++ "<lambda>" = lamAt lpos.line lpos.col) (hr : Room (k + 2) X.A) (L : LamS X.env.scope scope) (hdef : defaultsOf params X.env = ([], []))
    (hbind : ∀ (q : Str) (cl : List (Str × Addr)) (pm cv ctv : Value), bindArgs (PySem.W.kla_fn "<lambda>" q params body scope cl pm cv ctv) ⟨[], []⟩ = pure [])
    (hbody : ∀ (A : Around) (outer : List Env) (s : Shared) (H : Hp) (E : XK) (f c' : Addr), Room k (A.deeper (lamEnv X scope s.heap.objs.size f c')) → CE (lamCx X A outer s H E scope f c') (Wof E) body (t E) fe)
    (hsw : ∀ (Y : Cx), swapsWith (.Call (.Name a p1) [] [] p2) none p3.line Y.env = pure false := by intro _; rfl) (h1 : 1 ≤ Ng.length := by decide) (hdb : (x == ("__debug__" : Str)) = false := by decide) (hd : (a == ("__debug__" : Str)) = false := by decide) (hcd : (a == ("__classdict__" : Str)) = false := by decide) :
    CE X W (.Call (.Name x p) [.Lambda params body scope lpos] [] pos) (tLamD P (TTw K Ng z l) t) (cLam Ng.length q z fe) := by
  subst hK hbg
  have r1 : Room k (X.A.deeper (lamEnv X scope hs0.heap.objs.size 0 0)) := (hr.mono (by omega : k + 1 ≤ k + 2)).deeper _
  have hp := pe_lamD (p := p) (pos := pos) (lpos := lpos) hg hm hk lk hcg hb Sg hNg hva (word_gives (j := j) (z := z) (l := l) Sg.nd h1 (fun s H => (hh s H).n) hsw) TB hcode hq hr L hdef hbind (fun A outer s H E f c' hr2 => (hbody A outer s H E f c' hr2).pe) hdb hd hcd
  exact ⟨hp, se_lam (Y := cxOf (L2.CX X.prog X.w) X.prog X.w X.K X.mg X.base Ng x sg g cdv X.A X.stack hs0 hH0 (fun _ _ _ => False)) rfl hP (hh hs0 hH0) fun E => (hbody X.A [] hs0 hH0 E 0 0 r1).se⟩
end
end DV
namespace DV
open PySem L2 PySem.Spec PySem.Calls PyProof.Rows LamX

/-! ### the law's def, its code known; the end -/
theorem def_okC {P : Program} {w : World} {K : PySem.W.Frag} {mg : Str → Option Value} {base : Heap} {x qual : Str} {st : Stmt} {f : Addr} {oc : Value} {od an : Option Addr} {osl : Array (Option Value)} {kV doc pm cdv ct : Value} {N ps : List Str} {k m : Nat} {g : DS → Fl} (l : K.lookup f = some ⟨oc, od, .func (PySem.W.fnOf x qual (defArgs st) (defBody st) (defScope st) .none kV doc pm an cdv ct), osl⟩)
    (hc : PySem.W.codeIn K cdv qual = true) (S : FnScope N ps (defScope st)) (hm : N.length - ps.length = m)
    (hbody : ∀ (A : Around) (outer : List Env) (s : Shared) (H : Hp) (E : XK), Room k (A.deeper (PyProof.Rows.envOfC qual (defScope st) s.heap.objs.size f cdv)) → Takes (cxOf (L2.CX P w) P w K mg base N qual (defScope st) f cdv A outer s H E) (Wof E) →
      PassesOwn (model P w) (A.deeper (PyProof.Rows.envOfC qual (defScope st) s.heap.objs.size f cdv)) (PyProof.Rows.envOfC qual (defScope st) s.heap.objs.size f cdv) (cxOf (L2.CX P w) P w K mg base N qual (defScope st) f cdv A outer s H E).xe → (A.deeper (PyProof.Rows.envOfC qual (defScope st) s.heap.objs.size f cdv)).units + 64 < cLine →
      ∃ t, CSs (cxOf (L2.CX P w) P w K mg base N qual (defScope st) f cdv A outer s H E) (Wof E) (defBody st) t g) :
    FnOk P w K mg base (L2.CX P w) (k + 1) f (PySem.W.fnOf x qual (defArgs st) (defBody st) (defScope st) .none kV doc pm an cdv ct) ps (spD K ps.length (defF m g)) := by
  refine fn_of l hc S (fun vs H Q E h => h.1) fun A outer s H vs Q E hr h => ?_
  obtain ⟨hl, ds, B, i, r, tb, hp⟩ := h
  obtain ⟨t, ht⟩ := hbody A outer s H E hr (takes_of rfl rfl rfl rfl) (passes_of (X := cxOf (L2.CX P w) P w K mg base N qual _ f cdv A outer s H E) rfl) hr.units
  exact ⟨t, ht.ps, ss_def (N := N) ht.ss i r tb (by rw [hl, hm]; exact hp)⟩
/-- the defs of lambdas, each with its code object and table -/
def TabsAre (K : PySem.W.Frag) : List Str → List (Addr × Addr) → Prop
  | [], [] => True
  | n :: ns, p :: ps => PySem.W.tabIn K n = some p ∧ TabsAre K ns ps
  | _, _ => False
theorem TabsAre.of {K : PySem.W.Frag} : ∀ {ns : List Str} {ps : List (Addr × Addr)}, TabsAre K ns ps → ∀ p ∈ ps, ∃ n ∈ ns, PySem.W.tabIn K n = some p
  | [], [], _, p, hp => by cases hp
  | [], _ :: _, h, _, _ => h.elim
  | _ :: _, [], h, _, _ => h.elim
  | n :: ns, q :: ps, h, p, hp => by
    rcases List.mem_cons.mp hp with rfl | z
    · exact ⟨n, by simp, h.1⟩
    · obtain ⟨m, h1, h2⟩ := TabsAre.of h.2 p z
      exact ⟨m, by simp [h1], h2⟩
theorem TabsAre.tab {K : PySem.W.Frag} : ∀ {ns : List Str} {ps : List (Addr × Addr)}, TabsAre K ns ps → ∀ P ∈ ns.filterMap (fun n => (PySem.W.tabIn K n).map (·.2)), ∃ p ∈ ps, p.2 = P
  | [], _, _, P, hp => by simp at hp
  | _ :: _, [], h, _, _ => h.elim
  | n :: ns, q :: ps, h, P, hp => by
    obtain ⟨m, h1, h2⟩ := List.mem_filterMap.mp hp
    rcases List.mem_cons.mp h1 with rfl | z
    · rw [h.1] at h2
      exact ⟨q, by simp, Option.some.inj h2⟩
    · obtain ⟨p, h3, h4⟩ := TabsAre.tab h.2 P (List.mem_filterMap.mpr ⟨m, z, h2⟩)
      exact ⟨p, by simp [h3], h4⟩
theorem walkT {l : PySem.W.OpenLaw} {n k : Nat} {q : Program} {loose : List Str} {XP : (Str → Option Value) → Heap → Prop} {YP : World → Heap → Prop} {d : DefRec} {K : Params → PySem.W.Frag} {x : Str} {F : List D → Res D} (hn : l.most = some n) (hn2 : n ≤ sizeLine) (hdf : d.params.defaults = []) (hr : Room k callerA)
    (hY : ∀ (w : World) (h : Heap), YP w h → (K w.params).In h) (hrec : (lamNs.all fun m => ((recsOf q).find? (fun e => e.name == m)).isSome) = true)
    (F0 : ∀ (w : World) (mg : Str → Option Value) (fa : Addr) (h : Heap), (K w.params).In h → h.Ns mainGlobals mg → mg d.name = some (.ref fa) → ∃ fd cs, TabsAre (K w.params) lamNs cs ∧ (∀ p ∈ cs, (K w.params).lookup p.2 = none) ∧ (∀ (s : Shared) (u : Value), BindsTo s fd ⟨[u], []⟩ [(x, u)]) ∧
      ∀ base : Heap, (K w.params).In base → base.Ns mainGlobals mg → (∀ p ∈ cs, TabB base mg p.1 p.2) → FnOk l.prog w (K w.params) mg base (L2.CX l.prog w) k fa fd [x] (spD (K w.params) 1 F))
    (hF : ∀ ns : List Int, ns.length ≤ n → F [.lst (ns.map D.int)] = .ok (.bl true)) : PySem.W.WalkO q loose XP YP l.row.toRowW d [] (fun f vs => PySem.call f vs) := by
  refine Att.attach_callB hn hdf fun w s₀ s₁ mg mb fa o pm cd doc a vs ns G Y ho hd hcd hmg hobj hints hlen hbits hg => ?_
  have KX := hY w _ Y
  obtain ⟨fd, cs, ht, nP, hb, hF0⟩ := F0 w mg fa _ KX G.T.g hmg
  have tm : ∀ p ∈ cs, ∃ m dL, (recsOf q).find? (fun e => e.name == m) = some dL ∧ PySem.W.tabIn (K w.params) m = some (p.1, p.2) := fun p hp => by
    obtain ⟨m, h1, h2⟩ := ht.of p hp
    obtain ⟨dL, hr1⟩ := Option.isSome_iff_exists.mp (List.all_eq_true.mp hrec m h1)
    exact ⟨m, dL, hr1, h2⟩
  exact law_callTs (cs := cs) KX G.T.g G.T.b G.T.builtins G.T.nolimit hg (fun p hp => by obtain ⟨m, dL, r1, r2⟩ := tm p hp; exact (PySem.W.tab_of G.T KX r1 r2).2) nP (fun p hp => by obtain ⟨m, dL, r1, r2⟩ := tm p hp; exact (PySem.W.tab_of G.T KX r1 r2).1) G.T.bmain hobj hints (Nat.le_trans hlen hn2) hr (fun base b1 b2 b3 => hF0 base b1 b2 b3) hb
    (fun H hH hS => spD_law hS (fun p hp => by
      obtain ⟨c, h1, rfl⟩ := ht.tab p hp
      exact NdefX.TabN.nil (hH c h1)) (hF ns hlen)) fun H e s' z => cx_false H s₁ e s' z
end DV
namespace DV
open PySem L2 PySem.Spec PySem.Calls PyProof.Rows LamX
/-- x(lambda: body), by the def's own facts -/
theorem ce_lamF {X : Cx} (K : PySem.W.Frag) (hK : X.K = K) {W : WX} {x a z : Str} {st : Stmt} {fd : FuncData} {g c P : Addr} {k j : Nat} {Ng : List Str} {params : Arguments} {body : Expr} {scope : Scope} {t : XK → TE} {fe : DS → Res D} {p lpos pos p1 p2 p3 p4 p5 p8 : Pos} {h₀ : ExceptHandler} {hds : List ExceptHandler} {l : List (Value × Nat × TX)} {q : Clauses}
    (F : Fun K x x st g fd) (hm : X.mg x = some (.ref g)) (hb : L2.Binds K fd [a] []) (Sg : FnScope Ng [a] (defScope st)) (hNg : Ng[0]? = some a) (hva : Vis (defScope st) a) (hbg : defBody st = [.Try [.Expr (.Call (.Name a p1) [] [] p2) p3] (h₀ :: hds) [] [] p8, .Return (some (.Constant (.str z) j p4)) p5])
    (hh : ∀ (cdv : Value) (s : Shared) (H : Hp), HdsC (cxOf (L2.CX X.prog X.w) X.prog X.w K X.mg X.base Ng x (defScope st) g cdv X.A X.stack s H (fun _ _ _ => False)) (h₀ :: hds) l q) (hs0 : Shared) (hH0 : Hp) (TB : TabB X.base X.mg c P) (hcode : X.env.code = .ref c) (hP : P ∈ tabsOf K) (hq : X.env.qual ++ "<lambda>" = lamAt lpos.line lpos.col) (hr : Room (k + 2) X.A) (L : LamS X.env.scope scope) (hdef : defaultsOf params X.env = ([], []))
    (hbind : ∀ (q : Str) (cl : List (Str × Addr)) (pm cv ctv : Value), bindArgs (PySem.W.kla_fn "<lambda>" q params body scope cl pm cv ctv) ⟨[], []⟩ = pure [])
    (hbody : ∀ (A : Around) (outer : List Env) (s : Shared) (H : Hp) (E : XK) (f c' : Addr), Room k (A.deeper (lamEnv X scope s.heap.objs.size f c')) → CE (lamCx X A outer s H E scope f c') (Wof E) body (t E) fe)
    (hg : Gl X x := by rfl) (hsw : ∀ (Y : Cx), swapsWith (.Call (.Name a p1) [] [] p2) none p3.line Y.env = pure false := by intro _; rfl) (h1 : 1 ≤ Ng.length := by decide) (hdb : (x == ("__debug__" : Str)) = false := by decide) (hd : (a == ("__debug__" : Str)) = false := by decide) (hcd : (a == ("__classdict__" : Str)) = false := by decide) :
    CE X W (.Call (.Name x p) [.Lambda params body scope lpos] [] pos) (tLamD P (TTw K Ng z l) t) (cLam Ng.length q z fe) := by
  obtain ⟨oc, od, kV, doc, pm, an, cdv, ct, osl, rfl, lk, hcd'⟩ := F.ex
  exact ce_lam K hK hg hm F.kp lk hcd' hb Sg hNg hva hbg (hh cdv) hs0 hH0 TB hcode hP hq hr L hdef hbind hbody hsw h1 hdb hd hcd
theorem tabIn_of {K : PySem.W.Frag} {x : Str} {f c P : Addr} {oc o1 : Value} {od o2 : Option Addr} {fd : FuncData} {osl o3 : Array (Option Value)} {vs : Array Value} (a : PySem.W.nsIn K mainGlobals x = some (some (.ref f))) (l : K.lookup f = some ⟨oc, od, .func fd, osl⟩) (hc : fd.code = .ref c) (tc : K.lookup c = some ⟨o1, o2, .fields vs, o3⟩) (tp : vs[11]? = some (.ref P)) : PySem.W.tabIn K x = some (c, P) := by
  unfold PySem.W.tabIn
  rw [a]
  dsimp only
  rw [l]
  dsimp only
  rw [hc]
  dsimp only
  rw [tc]
  dsimp only
  rw [tp]
theorem in_tabs {K : PySem.W.Frag} {c P : Addr} {n : Str} (h : PySem.W.tabIn K n = some (c, P)) (hn : n ∈ lamNs := by decide) : P ∈ tabsOf K := by
  unfold tabsOf
  exact List.mem_filterMap.mpr ⟨n, hn, by rw [h]; rfl⟩
end DV
namespace DV
open PySem L2
section
variable {X : Cx} {W : WX}
/-- xs[k] = e, xs the def's own -/
def cPut (i : Nat) (fi fe : DS → Res D) : DS → Fl := fun δ => match δ[i]? with
  | some (some (.ow ds)) => stE (fe δ) δ fun d => stE (fi δ) δ fun y => match y with
    | .v (.int k) => match ixN ds.length k with
      | some j => .nx (δ.set i (some (.ow (ds.set j d))))
      | none => .no
    | _ => .no
  | _ => .no
theorem cs_put (i : Nat) {x : Str} {e k : Expr} {t tk : TE} {f fk : DS → Res D} {px tpos pos : Pos} (he : CE X W e t f) (hk : CE X W k tk fk) (hv : PE X (.Name x px) (tVar i)) (hs : swapsWithSole [.Subscript (.Name x px) k tpos] e pos.line X.env = pure false := by rfl) (hw : swappedStores [.Subscript (.Name x px) k tpos] e X.env = pure none := by rfl)
    (ha : ∀ v, assign (.Subscript (.Name x px) k tpos) X.env v = (do
      let ov ← holding [v] (eval (.Name x px) X.env)
      let iv ← holding [v, ov] (eval k X.env)
      standAt tpos
      holding [v, ov, iv] (setItem ov iv v)
      release [v, ov, iv] []) := by intro _; rfl) (h1 : (assignEach [.Subscript (.Name x px) k tpos] X.env).map (·.2) = [assign (.Subscript (.Name x px) k tpos) X.env] := by rfl) :
    CS X W (.Assign [.Subscript (.Name x px) k tpos] e pos) (tAsg t (gSub (tVar i) tk rSetL)) (cPut i fk f) :=
  ⟨ps_asg he.pe (pg_sub hv hk.pe set_list ha) hs hw h1, fun B0 H0 δ σ B H E rel hp => by
    unfold cPut at hp
    split at hp
    case h_2 => exact hp.elim
    rename_i ds ei
    obtain ⟨v, q1, p, vs, rfl, _, hb, hh, rp⟩ := rel.sl i _ ei
    refine he.se B0 H0 δ σ B H _ rel ?_
    cases e1 : f δ with
    | no => rw [e1] at hp; exact hp
    | er x => rw [e1] at hp; exact fun c dx B' H' g rp => hp c dx σ B' H' g.b (rel.mono g) rp
    | ok d =>
      rw [e1, stE_ok] at hp
      intro v B1 H1 g1 r1
      refine ⟨_, q1, ?_⟩
      refine hk.se B0 H0 δ σ B1 H1 _ (rel.mono g1) ?_
      cases e2 : fk δ with
      | no => rw [e2] at hp; exact hp
      | er x => rw [e2] at hp; exact fun c dx B' H' g rp => hp c dx σ B' H' (g1.b.trans g.b) ((rel.mono g1).mono g) rp
      | ok y =>
        rw [e2, stE_ok] at hp
        intro w B2 H2 g2 r2
        split at hp
        case h_2 => exact hp.elim
        split at hp
        case h_2 => exact hp.elim
        rename_i _ j hj
        cases r2
        have gg := g1.trans g2
        refine ⟨p, vs, _, j, rfl, rfl, gg.h _ _ hh (fun _ z => by cases z), by rw [rp.length]; exact hj, ?_⟩
        exact hp σ B2 _ gg.b ((rel.mono gg).write (us := vs) ei q1 ((rp.mono gg.b).set j (r1.mono g2.b)))⟩
/-- xs[lo:hi] of a list: a new list -/
def cSlL (f : DS → Res D) (lo hi : DS → Res (Option Int)) : DS → Res (List D) := fun δ => (f δ).bind fun x => (lo δ).bind fun l => (hi δ).bind fun h => match x with
  | .lst xs => .ok (cutD xs l h)
  | _ => .no
theorem cf_sl (K : PySem.W.Frag) (hK : X.K = K) {e : Expr} {lo hi : Option Expr} {p2 pos : Pos} {te : TE} {tl th : TO} {f : DS → Res D} {fl fh : DS → Res (Option Int)} (he : CE X W e te f) (hl : CO X W lo tl fl) (hh : CO X W hi th fh) : CF X W (.Subscript e (.Slice lo hi none p2) pos) (tSl (rSlD K) te tl th) (cSlL f fl fh) := by
  subst hK
  refine ⟨pe_slice sl_D he.pe hl.po hh.po, fun B0 H0 δ σ B H Q rel hp => ?_⟩
  unfold cSlL at hp
  refine he.se B0 H0 δ σ B H _ rel ?_
  cases e : f δ with
  | no => rw [e] at hp; exact hp
  | er x => rw [e] at hp; exact hp
  | ok d =>
    rw [e, Res.bind_ok] at hp
    intro v B1 H1 g1 r1
    refine hl.so B0 H0 δ σ B1 H1 _ (rel.mono g1) ?_
    cases e2 : fl δ with
    | no => rw [e2] at hp; exact hp
    | er x => rw [e2] at hp; exact fun c dx B' H' g' rp => hp c dx B' H' (g1.trans g') rp
    | ok l =>
      rw [e2, Res.bind_ok] at hp
      intro B2 H2 g2
      refine hh.so B0 H0 δ σ B2 H2 _ ((rel.mono g1).mono g2) ?_
      cases e3 : fh δ with
      | no => rw [e3] at hp; exact hp
      | er x => rw [e3] at hp; exact fun c dx B' H' g' rp => hp c dx B' H' ((g1.trans g2).trans g') rp
      | ok h =>
        rw [e3, Res.bind_ok] at hp
        intro B3 H3 g3
        have gg := (g1.trans g2).trans g3
        split at hp
        · cases r1 with
          | lst h1 q => exact .inl ⟨_, _, rfl, g3.i.seq ((g2.b.trans g3.b).seq h1), fun p hp' => hp p _ B3 _ (gg.trans (Grow.raw g3.i hp')) (gg.free hp') (g3.i.free hp') upd_same ((RpA.mono (g2.b.trans g3.b) q).cut l h)⟩
        · exact hp.elim
end
end DV
namespace DV
open PySem
/-- the clauses of a word's def -/
def tryHds : List Stmt → List ExceptHandler
  | .Try _ hs _ _ _ :: _ => hs
  | _ => []
end DV
namespace DV
open PySem L2 PySem.Spec PySem.Calls PyProof.Rows PpSet

/-! ### set comprehensions, whatever the members: SO tells the set's object, r what set.add asks -/
section
variable {X : Cx} {β : Type} {SO : Addr → β → HO} {b0 : β} {r : V → List V → Hp → VK → Prop}
def tScG (SO : Addr → β → HO) (b0 : β) (r : V → List V → Hp → VK → Prop) (wi : TI) (g : TG) (tt : TT) (te : TE) (vs : List Nat) : TE := fun σ H Q => wi σ H fun J H1 =>
  ∀ D, H1 D = none → ∃ M : Nat → Nat → Hp → Prop, (∃ k, M 0 k (upd H1 D (SO D b0))) ∧ ∀ j k Hj, M j k Hj →
    (J.stop j Hj ∧ Q (.ref D) Hj) ∨ (J.go j Hj ∧ ∃ N : Hp → Prop, (∀ Hk, N Hk → ∃ k', k' < k ∧ M (j + 1) k' Hk) ∧
      ∀ x Hk, J.yld j Hj x Hk → g x (wipe σ vs) Hk fun σ2 H2 => wipe σ2 vs = wipe σ vs ∧ tt σ2 H2 fun b H3 => if b = true then te σ2 H3 fun y H4 => r (.ref D) [y] H4 (fun _ H5 => N H5) else N H3)
abbrev freshSet (w : World) : Obj := { cls := .type "set", dict := none, data := .set #[] 0 (.fresh 0 0 (!w.params.followText "set-order")) }
theorem scg_core {pins : List (Addr × Obj)} {s : Shared} {σ : L2.St} {H : Hp} {Q : VK} {elt tg iter : Expr} {ifs : List Expr} {scope : Scope} {own : List (Str × Nat)} {pos pos' : Pos} {wi : TI} {g : TG} {tt : TT} {te : TE} {use : Option (Value → Sem Unit)} {Qf : Value → Shared → Prop}
    (hnew : ∀ (Hx : Hp) (h : Heap) (a : Addr), h.get? a = some (freshSet X.w) → ObjOk X.prog X.w Hx h a (SO a b0))
    (hadd : ∀ (s : Shared) (H : Hp) (C : Addr) (cl : List (Str × Addr)) (fp : List Addr), MtR (X.blk s H scope (compEnvC scope cl C X.env) fp) "set.add" r)
    (hc : X.calm = true) (hN : X.N.Nodup) (I : Inv X pins σ H s) (hi : PI X tg iter wi) (ok : BlkOk X.N X.env.scope scope own)
    (hg : ∀ (s : Shared) (H : Hp) (C : Addr) (cl : List (Str × Addr)) (fp : List Addr), PG (X.blk s H scope (compEnvC scope cl C X.env) fp) tg g)
    (ht : ∀ (s : Shared) (H : Hp) (C : Addr) (cl : List (Str × Addr)) (fp : List Addr), PTs (X.blk s H scope (compEnvC scope cl C X.env) fp) ifs tt)
    (he : ∀ (s : Shared) (H : Hp) (C : Addr) (cl : List (Str × Addr)) (fp : List Addr), PE (X.blk s H scope (compEnvC scope cl C X.env) fp) elt te)
    (hs : ∀ x, foldedSetIterable iter X.env x = pure x) (h : tScG SO b0 r wi g tt te (own.map (·.2)) σ H Q)
    (hend : ∀ D C s' m H', Inv X pins σ H' s' → Q (.ref D) H' → s'.heap.Ns C m → FpOk X pins H' C → compPost (model X.prog X.w) X.A X.xe use Qf (.ref D) C (.ok .next) s') :
    wpAny (model X.prog X.w) X.A (comprehension (.SetComp elt [⟨tg, iter, ifs, 0⟩] scope pos) scope X.env pos' (newSet (.type "set")) false (eval iter X.env) use) Qf X.xe s := by
  have cells : ∀ y ∈ scope.names, y.2 = .free → ∃ c, X.env.cells.lookup y.1 = some c := fun y hy e =>
    (ok.free y hy e).elim (fun k => I.ok.has _ (.inl k)) (fun k => I.ok.has _ (.inr k))
  refine wpAny_comprehension_free (use := use) rfl hs (closure_ok cells) ok.kind (fun y hy e => (ok.uniq y hy).trans (by rw [e])) ?_
  refine thn (hi.run pins s σ H _ I h) fun xv s1 hx => thn hx fun itv s2 h2 => ?_
  obtain ⟨it, fp, tn, J, H2, rfl, I2, T, at2, ft2, q⟩ := h2
  refine newSet_ok (newEnv_comp ?_)
  have hDn : H2 s2.heap.objs.size = none := I2.hok.fresh (Nat.le_refl _)
  obtain ⟨M, ⟨k0, m0⟩, turn⟩ := q _ hDn
  have pushed : ∀ b o, s2.heap.get? b = some o → (s2.heap.push (freshSet X.w)).get? b = some o := fun b o e => Heap.get?_push_of_some _ e
  have hself : (s2.heap.push (freshSet X.w)).get? s2.heap.objs.size = some (freshSet X.w) := Heap.get?_push_size _ rfl
  generalize hD : s2.heap.objs.size = D at hDn m0 turn hself
  have J3 : Inv X pins σ (upd H2 D (SO D b0)) { s2 with heap := s2.heap.push (freshSet X.w) } := I2.laid (t' := s2.toks) pushed (Nat.le_of_eq hD) (hnew _ _ _ hself)
  have lt2 : ∀ b ∈ fp, b < s2.heap.objs.size := fun b hb => by
    obtain ⟨o, e, -⟩ := T.obj _ _ at2 b hb
    exact Heap.lt_size e
  have ft3 : ∀ b ∈ fp, FpOk X pins (upd H2 D (SO D b0)) b ∧ b < (s2.heap.push (freshSet X.w)).objs.size := fun b hb =>
    ⟨⟨by rw [upd_ne (by rw [← hD]; exact Nat.ne_of_lt (lt2 b hb))]; exact (ft2 b hb).1, (ft2 b hb).2⟩, by rw [Heap.size_push]; exact Nat.lt_succ_of_lt (lt2 b hb)⟩
  have at3 : tn 0 (s2.heap.push (freshSet X.w)) := T.keep _ _ _ at2 fun b _ o e => pushed b o e
  generalize hs3 : ({ s2 with heap := s2.heap.push (freshSet X.w) } : Shared) = s3 at J3
  have hp3 : s2.heap.push (freshSet X.w) = s3.heap := by rw [← hs3]
  rw [hp3] at ft3 at3
  generalize hH3 : upd H2 D (SO D b0) = H3 at J3 m0 ft3
  have J4 := block_start J3 ok hN ft3
  have no3 : ∀ b ∈ fp, H3 b = none := fun b hb => (ft3 b hb).1.1
  generalize hC : s3.heap.objs.size = C at J4
  have lC : (compEnvC scope (cellsFrom (C + 1) scope.names (cloFrom X.env.cells scope.names [])) C X.env).locals = C := rfl
  have pg := hg s3 H3 C (cellsFrom (C + 1) scope.names (cloFrom X.env.cells scope.names [])) fp
  have pt := ht s3 H3 C (cellsFrom (C + 1) scope.names (cloFrom X.env.cells scope.names [])) fp
  have pe := he s3 H3 C (cellsFrom (C + 1) scope.names (cloFrom X.env.cells scope.names [])) fp
  have pa := hadd s3 H3 C (cellsFrom (C + 1) scope.names (cloFrom X.env.cells scope.names [])) fp
  show codeAny _ _ (.compStart (.SetComp elt [⟨tg, iter, ifs, 0⟩] scope pos) 0 (.ref it) (.ref D) (compEnvC scope (cellsFrom (C + 1) scope.names (cloFrom X.env.cells scope.names [])) C X.env))
    (compPost (model X.prog X.w) X.A X.xe use Qf (.ref D) C) { s3 with heap := pushCells (s3.heap.push { cls := .type "dict", data := .dict #[] }) scope.names }
  generalize compEnvC scope (cellsFrom (C + 1) scope.names (cloFrom X.env.cells scope.names [])) C X.env = ce at J4 pg pt pe pa lC ⊢
  have at4 : tn 0 ({ s3 with heap := pushCells (s3.heap.push { cls := .type "dict", data := .dict #[] }) scope.names } : Shared).heap := T.keep _ _ _ at3 fun b _ o e => pushCells_keeps _ _ _ _ (Heap.get?_push_of_some _ e)
  generalize ({ s3 with heap := pushCells (s3.heap.push { cls := .type "dict", data := .dict #[] }) scope.names } : Shared) = s4 at J4 at4 ⊢
  have foot : ∀ {σ' : L2.St} {H' : Hp} {s' : Shared}, Inv (X.blk s3 H3 scope ce fp) [] σ' H' s' → (∀ b ∈ fp, H' b = none) → ∀ b ∈ fp, FpOk (X.blk s3 H3 scope ce fp) [] H' b :=
    fun {_ _ _} Jx nx b hb => ⟨nx b hb, (Jx.ok.exf b hb).1, Jx.ok.exfs b hb, .inl hb, fun y c e => (Jx.ok.exf b hb).2 y c e, fun p hp => absurd (show p ∈ ([] : List (Addr × Obj)) ++ [] from hp) (by simp)⟩
  have whole : codeAny (model X.prog X.w) X.A (.compLoop (.SetComp elt [⟨tg, iter, ifs, 0⟩] scope pos) 0 (.ref it) (.ref D) ce) (compPost (model X.prog X.w) X.A X.xe use Qf (.ref D) C) s4 := by
    refine compLoopS_any (fun n s' => ∃ j Hj, Inv (X.blk s3 H3 scope ce fp) [] (wipe σ (own.map (·.2))) Hj s' ∧ tn j s'.heap ∧ (∀ b ∈ fp, Hj b = none) ∧ M j n Hj) ?_ k0 ⟨0, H3, J4, at4, no3, m0⟩
    rintro n s5 ⟨j, H5, J5, at5, no5, m5⟩
    rcases turn j n H5 m5 with ⟨stop, fin⟩ | ⟨go, N, hN', step⟩
    · refine thnF (T.done (X.blk s3 H3 scope ce fp) rfl rfl rfl hc j [] s5 _ H5 (fun _ _ => False) J5 (foot J5 no5) at5 stop) fun res s6 hres => ?_
      obtain ⟨rfl, J6⟩ := hres
      have J7 : Inv X pins σ H5 s6 := J3.call' (ch := fp) J6.os J6.base J6.hok J6.bare fun b hb => by
        obtain ⟨⟨_, z1, z2, z3, z4, z5⟩, _⟩ := ft3 b hb
        exact ⟨z3, z1, z4, z5⟩
      have nC : H5 C = none := by
        have z : H5 ce.locals = none := J6.free
        rwa [lC] at z
      obtain ⟨mm, hm, -⟩ := J6.loc
      have hm' : s6.heap.Ns ce.locals mm := hm
      rw [lC] at hm'
      exact hend D C s6 mm H5 J7 fin hm' (J3.fpOk (Nat.le_of_eq hC) nC)
    · refine thnF (T.item (X.blk s3 H3 scope ce fp) rfl rfl rfl hc j [] s5 _ H5 (fun _ _ => False) J5 (foot J5 no5) at5 go) fun res s6 hres => ?_
      obtain ⟨u, rfl, h6⟩ := hres
      refine thnF h6 fun _ s7 ⟨x, H7, J7, r7, y7, at7, no7⟩ => ?_
      refine thnF (pg.run _ s7 _ H7 x u _ (J7.pinned (foot J7 no7) (T.obj _ _ at7)) r7 (step x H7 y7)) fun _ s8 ⟨σ8, H8, J8, w8, q8⟩ => ?_
      refine thnF (pt.run _ s8 σ8 H8 _ J8 q8) fun b s9 ⟨H9, J9, q9⟩ => ?_
      have close : ∀ {s' : Shared} {H' : Hp}, Inv (X.blk s3 H3 scope ce fp) ([] ++ pinsAt fp s7.heap) σ8 H' s' → N H' → ∃ k', k' < n ∧ ∃ j Hj, Inv (X.blk s3 H3 scope ce fp) [] (wipe σ (own.map (·.2))) Hj s' ∧ tn j s'.heap ∧ (∀ b ∈ fp, Hj b = none) ∧ M j k' Hj := by
        intro s' H' Jx nx
        obtain ⟨k', lt, mm⟩ := hN' H' nx
        have pin : ∀ b ∈ fp, ∀ o, s7.heap.get? b = some o → s'.heap.get? b = some o ∧ H' b = none := fun b hb o e => by
          have z := Jx.pin (b, o) (List.mem_append_right _ (List.mem_append_right _ (mem_pinsAt hb e)))
          exact ⟨z.1, z.2.1⟩
        refine ⟨k', lt, j + 1, H', (Jx.unpinned (pins := [])).weak (by rw [← w8, wipe_length]) (fun i v e => (wipe_some (by rw [w8]; exact e)).1), T.keep _ _ _ at7 fun b hb o e => (pin b hb o e).1, fun b hb => ?_, mm⟩
        obtain ⟨o, e, -⟩ := T.obj _ _ at7 b hb
        exact (pin b hb o e).2
      cases b with
      | false => exact close J9 (by simpa using q9)
      | true =>
        have q9' := q9
        simp only [if_true] at q9' ⊢
        refine thnF (pe.run _ s9 σ8 H9 _ J9 q9') fun z s10 ⟨yv, H10, J10, r10, q10⟩ => ?_
        exact thnF (pa _ s10 σ8 H10 (.ref D) [yv] (.ref D) [z] _ J10 rfl (.cons r10 .nil) q10) fun _ s11 ⟨_, H11, J11, _, nx⟩ => close J11 nx
  exact codeAny_compStart_set whole (T.self X.A 0 _ _ _ at4 whole)
theorem pe_scG {elt tg iter : Expr} {ifs : List Expr} {scope : Scope} {own : List (Str × Nat)} {pos : Pos} {wi : TI} {g : TG} {tt : TT} {te : TE}
    (hnew : ∀ (Hx : Hp) (h : Heap) (a : Addr), h.get? a = some (freshSet X.w) → ObjOk X.prog X.w Hx h a (SO a b0))
    (hadd : ∀ (s : Shared) (H : Hp) (C : Addr) (cl : List (Str × Addr)) (fp : List Addr), MtR (X.blk s H scope (compEnvC scope cl C X.env) fp) "set.add" r)
    (hc : X.calm = true) (hN : X.N.Nodup) (hi : PI X tg iter wi) (ok : BlkOk X.N X.env.scope scope own)
    (hg : ∀ (s : Shared) (H : Hp) (C : Addr) (cl : List (Str × Addr)) (fp : List Addr), PG (X.blk s H scope (compEnvC scope cl C X.env) fp) tg g)
    (ht : ∀ (s : Shared) (H : Hp) (C : Addr) (cl : List (Str × Addr)) (fp : List Addr), PTs (X.blk s H scope (compEnvC scope cl C X.env) fp) ifs tt)
    (he : ∀ (s : Shared) (H : Hp) (C : Addr) (cl : List (Str × Addr)) (fp : List Addr), PE (X.blk s H scope (compEnvC scope cl C X.env) fp) elt te) (hs : ∀ x, foldedSetIterable iter X.env x = pure x := by intro _; rfl) :
    PE X (.SetComp elt [⟨tg, iter, ifs, 0⟩] scope pos) (tScG SO b0 r wi g tt te (own.map (·.2))) := ⟨fun pins s σ H Q I h => by
  rw [eval_SetComp]
  refine scg_core hnew hadd hc hN I hi ok hg ht he hs h fun D C s' m H' J q hn ⟨z0, z1, z2, z3, z4, z5⟩ => ⟨m, hn, fun h'' sb => ⟨.ref D, H', ?_, rfl, q⟩⟩
  exact J.turned (t' := s'.toks) (fun b o hb e => (sb.2 b hb).trans e) z0 z1 z3 z4 z5⟩
end
end DV
namespace DV
open PySem L2

/-! ### sets of ints: rising lists -/
def insU (k : Int) : List Int → List Int
  | [] => [k]
  | x :: xs => if k < x then k :: x :: xs else if k = x then x :: xs else x :: insU k xs
def setI (ns : List Int) : List Int := ns.foldl (fun l k => insU k l) []
theorem insU_mem (k : Int) : ∀ (l : List Int) (j : Int), j ∈ insU k l ↔ j = k ∨ j ∈ l
  | [], j => by simp [insU]
  | x :: xs, j => by
    unfold insU
    split
    · simp
    · split
      · rename_i h; subst h; simp
      · simp only [List.mem_cons, insU_mem k xs j]
        exact ⟨fun h => h.elim (fun h => .inr (.inl h)) (fun h => h.elim .inl (fun h => .inr (.inr h))), fun h => h.elim (fun h => .inr (.inl h)) (fun h => h.elim .inl (fun h => .inr (.inr h)))⟩
theorem insU_sorted (k : Int) : ∀ (l : List Int), l.Pairwise (· < ·) → (insU k l).Pairwise (· < ·)
  | [], _ => by simp [insU]
  | x :: xs, h => by
    obtain ⟨h1, h2⟩ := List.pairwise_cons.mp h
    unfold insU
    split
    · rename_i hk
      exact List.pairwise_cons.mpr ⟨fun y hy => by
        rcases List.mem_cons.mp hy with rfl | hy
        · exact hk
        · have := h1 y hy; omega, h⟩
    · split
      · exact h
      · refine List.pairwise_cons.mpr ⟨fun y hy => ?_, insU_sorted k xs h2⟩
        rcases (insU_mem k xs y).mp hy with rfl | hy
        · omega
        · exact h1 y hy
theorem insU_len (k : Int) : ∀ (l : List Int), l.Pairwise (· < ·) → (insU k l).length = if k ∈ l then l.length else l.length + 1
  | [], _ => by simp [insU]
  | x :: xs, h => by
    obtain ⟨h1, h2⟩ := List.pairwise_cons.mp h
    unfold insU
    split
    · rename_i hk
      have : k ∉ x :: xs := fun z => by
        rcases List.mem_cons.mp z with rfl | z
        · omega
        · have := h1 k z; omega
      rw [if_neg this, List.length_cons]
    · split
      · rename_i h; subst h; simp
      · rename_i hk1 hk2
        rw [List.length_cons, insU_len k xs h2]
        have : k ∈ x :: xs ↔ k ∈ xs := by simp [hk2]
        by_cases hx : k ∈ xs
        · rw [if_pos hx, if_pos (this.mpr hx), List.length_cons]
        · rw [if_neg hx, if_neg (fun z => hx (this.mp z)), List.length_cons]
theorem fold_ins (ns : List Int) : ∀ l : List Int, l.Pairwise (· < ·) → (ns.foldl (fun l k => insU k l) l).Pairwise (· < ·) ∧ ∀ j, j ∈ ns.foldl (fun l k => insU k l) l ↔ j ∈ ns ∨ j ∈ l := by
  induction ns with
  | nil => exact fun l h => ⟨h, fun j => by simp⟩
  | cons n ns ih =>
    intro l h
    obtain ⟨i1, i2⟩ := ih (insU n l) (insU_sorted n l h)
    refine ⟨i1, fun j => ?_⟩
    rw [List.foldl_cons, i2 j, insU_mem]
    simp only [List.mem_cons]
    exact ⟨fun h => h.elim (fun h => .inl (.inr h)) (fun h => h.elim (fun h => .inl (.inl h)) .inr), fun h => h.elim (fun h => h.elim (fun h => .inr (.inl h)) .inl) (fun h => .inr (.inr h))⟩
theorem setI_sorted (ns : List Int) : (setI ns).Pairwise (· < ·) := (fold_ins ns [] List.Pairwise.nil).1
theorem setI_mem (ns : List Int) (j : Int) : j ∈ setI ns ↔ j ∈ ns := by
  have := (fold_ins ns [] List.Pairwise.nil).2 j
  simpa [setI] using this
theorem setI_snoc (ns : List Int) (k : Int) : setI (ns ++ [k]) = insU k (setI ns) := by simp [setI]
theorem setI_len (ns : List Int) : (setI ns).length ≤ ns.length := by
  have key : ∀ (ns l : List Int), l.Pairwise (· < ·) → (ns.foldl (fun l k => insU k l) l).length ≤ ns.length + l.length := by
    intro ns
    induction ns with
    | nil => exact fun l _ => by simp
    | cons n ns ih =>
      intro l h
      have h1 := ih (insU n l) (insU_sorted n l h)
      have h2 := insU_len n l h
      rw [List.foldl_cons, List.length_cons]
      split at h2 <;> omega
  have := key ns [] List.Pairwise.nil
  simpa [setI] using this
/-- rising lists with the same members are one -/
theorem rising_one : ∀ {l m : List Int}, l.Pairwise (· < ·) → m.Pairwise (· < ·) → (∀ j, j ∈ l ↔ j ∈ m) → l = m
  | [], [], _, _, _ => rfl
  | [], y :: m, _, _, h => absurd ((h y).mpr (by simp)) (by simp)
  | x :: l, [], _, _, h => absurd ((h x).mp (by simp)) (by simp)
  | x :: l, y :: m, hl, hm, h => by
    obtain ⟨l1, l2⟩ := List.pairwise_cons.mp hl
    obtain ⟨m1, m2⟩ := List.pairwise_cons.mp hm
    have hxy : x = y := by
      have hx := (h x).mp (by simp)
      have hy := (h y).mpr (by simp)
      rcases List.mem_cons.mp hx with e | hx
      · exact e
      · rcases List.mem_cons.mp hy with e | hy
        · exact e.symm
        · have := l1 y hy; have := m1 x hx; omega
    subst hxy
    congr 1
    refine rising_one l2 m2 fun j => ⟨fun hj => ?_, fun hj => ?_⟩
    · have := (h j).mp (by simp [hj])
      rcases List.mem_cons.mp this with e | z
      · have := l1 j hj; omega
      · exact z
    · have := (h j).mpr (by simp [hj])
      rcases List.mem_cons.mp this with e | z
      · have := m1 j hj; omega
      · exact z

/-- a thing of another kind is no code object -/
theorem ext_ne_code {a : Addr} {q : Str} {φ : Heap → Prop} (hφ : ∀ (h : Heap) (o : Obj), φ h → h.get? a = some o → ∀ vs, o.data ≠ .fields vs) : HO.ext φ ≠ LamX.CodeO a q := fun z => by
  unfold LamX.CodeO at z
  injection z with z
  let o : Obj := { cls := .none, data := .fields #[.none, .str q default] }
  let h : Heap := { objs := Array.replicate (a + 1) o }
  have hg : h.get? a = some o := by
    show (match (Array.replicate (a + 1) o)[a]? with | some ⟨_, _, .freed, _⟩ => none | r => r) = some o
    have : (Array.replicate (a + 1) o)[a]? = some o := by simp
    rw [this]
  have hφh : φ h := by
    rw [z]
    exact ⟨o, _, _, hg, rfl, rfl⟩
  exact hφ h o hφh hg _ rfl
theorem setO_ne_code {w : World} {a : Addr} {S : Int → Bool} {n : Nat} {q : Str} : SetO w a S n ≠ LamX.CodeO a q := ext_ne_code fun h o hs ho vs hv => by
  obtain ⟨o', es, ep, t, h1, _, h3, _⟩ := hs
  rw [ho] at h1
  cases h1
  rw [hv] at h3
  cases h3
/-! ### {elt for ..}, the elements ints -/
section
variable {X : Cx} {W : WX} {K : PySem.W.Frag}
def setOI (w : World) (a : Addr) (p : (Int → Bool) × Nat) : HO := SetO w a p.1 p.2
def set0 : (Int → Bool) × Nat := (fun _ => false, 0)
def cInts (f : DS → Res (List D)) : DS → Res (List Int) := fun δ => (f δ).bind fun ds => match intsD ds with
  | some ns => if ns.length < 64 then .ok ns else .no
  | none => .no
def PostSI (K : PySem.W.Frag) (w : World) (B H : Hp) (σ : L2.St) (W : WX) (Q : VK) : Res (List Int) → Prop
  | .ok ns => ∀ p B' H', Grow B H B' H' → B' p = none → H' p = some (SetO w p (fun k => decide (k ∈ ns)) (setI ns).length) → (setI ns).length < 64 → Q (.ref p) H'
  | .er x => ∀ c dx B' H', Grow B H B' H' → RpX K B' c dx x → W c dx σ H'
  | .no => False
structure CSI (X : Cx) (W : WX) (e : Expr) (t : TE) (f : DS → Res (List Int)) : Prop where
  pe : PE X e t
  si : ∀ B0 H0 δ σ B H (Q : VK), Rel X.K B0 H0 B H σ δ → PostSI X.K X.w B H σ W Q (f δ) → t σ H Q
theorem sc_it {β : Type} {SO : Addr → β → HO} {b0 : β} {r : V → List V → Hp → VK → Prop} {J : It} {n : Nat} {G : Hp → Prop} {Y : Nat → Hp → V → Hp → Prop} (w : Walk J n G Y) {g : TG} {tt : TT} {te : TE} {vs : List Nat} {σ : L2.St} {H1 : Hp} {D : Addr} {Qd : Hp → Prop} (Pv : Nat → Hp → Prop)
    (h0 : Pv 0 (upd H1 D (SO D b0))) (hG : ∀ i H, i ≤ n → Pv i H → G H)
    (hs : ∀ i x H H', i < n → Pv i H → Y i H x H' → g x (wipe σ vs) H' fun σ2 H2 => wipe σ2 vs = wipe σ vs ∧ tt σ2 H2 fun b H3 => if b = true then te σ2 H3 fun y H4 => r (.ref D) [y] H4 (fun _ H5 => Pv (i + 1) H5) else Pv (i + 1) H3) (hd : ∀ H, Pv n H → Qd H) :
    ∃ M : Nat → Nat → Hp → Prop, (∃ k, M 0 k (upd H1 D (SO D b0))) ∧ ∀ j k Hj, M j k Hj → (J.stop j Hj ∧ Qd Hj) ∨ (J.go j Hj ∧ ∃ N : Hp → Prop, (∀ Hk, N Hk → ∃ k', k' < k ∧ M (j + 1) k' Hk) ∧
      ∀ x Hk, J.yld j Hj x Hk → g x (wipe σ vs) Hk fun σ2 H2 => wipe σ2 vs = wipe σ vs ∧ tt σ2 H2 fun b H3 => if b = true then te σ2 H3 fun y H4 => r (.ref D) [y] H4 (fun _ H5 => N H5) else N H3) := by
  refine ⟨fun i m H => m = n - i ∧ i ≤ n ∧ Pv i H, ⟨n, by simp, Nat.zero_le _, h0⟩, ?_⟩
  rintro i m H ⟨rfl, hin, pv⟩
  have q := hG i H hin pv
  by_cases hlt : i < n
  · exact .inr ⟨w.goes i H hlt q, Pv (i + 1), fun H' pv' => ⟨n - (i + 1), by omega, rfl, hlt, pv'⟩, fun x H' y => hs i x H H' hlt pv (w.yields i H x H' hlt q y)⟩
  · obtain rfl : i = n := by omega
    exact .inl ⟨w.stops H q, hd H pv⟩
theorem ints_inj : ∀ {xs ys : List Int}, xs.map D.int = ys.map D.int → xs = ys
  | [], [], _ => rfl
  | [], _ :: _, h => by cases h
  | _ :: _, [], h => by cases h
  | x :: xs, y :: ys, h => by
    simp only [List.map_cons, List.cons.injEq, D.int, D.v.injEq, V.int.injEq] at h
    rw [h.1, ints_inj h.2]
theorem ints_app {ds es : List D} {ns : List Int} (h : ds ++ es = ns.map D.int) : ∃ ms ls, ds = ms.map D.int ∧ es = ls.map D.int ∧ ms ++ ls = ns := by
  refine ⟨ns.take ds.length, ns.drop ds.length, ?_, ?_, List.take_append_drop ..⟩
  · rw [List.map_take, ← h]; simp
  · rw [List.map_drop, ← h]; simp
theorem si_sc {w : World} {wi : TI} {g : TG} {tt : TT} {te : TE} {vs is : List Nat} {fi : DS → Res (List D)} {b : D → DS → Option DS} {t : DS → Res Bool} {e : DS → Res D}
    (hi : ∀ B0 H0 δ σ B H (R : It → Hp → Prop), Rel K B0 H0 B H σ δ → PostI K B H σ W R (fi δ) → wi σ H R)
    (hg : ∀ B0 H0 B H σ δ v d (Q : L2.St → Hp → Prop), Rel K B0 H0 B H σ δ → Rp K B v d → (∀ δ' σ', b d δ = some δ' → Rel K B0 H0 B H σ' δ' → σ'.length = σ.length → (∀ j, j ∉ is → σ'[j]? = σ[j]?) → Q σ' H) → b d δ ≠ none → g v σ H Q)
    (ht : ST K W0 tt t) (he : SE K W0 te e) (his : ∀ i ∈ is, i ∈ vs) :
    ∀ B0 H0 δ σ B H (Q : VK), Rel K B0 H0 B H σ δ → PostSI K w B H σ W Q (cInts (cLc vs fi b t e) δ) → tScG (setOI w) set0 (rSAdd w) wi g tt te vs σ H Q := fun B0 H0 δ σ B H Q rel hp => by
  unfold cInts cLc at hp
  refine hi B0 H0 δ σ B H _ rel ?_
  cases e1 : fi δ with
  | no => rw [e1] at hp; exact hp
  | er x => rw [e1] at hp; exact hp
  | ok ds =>
    rw [e1, Res.bind_ok] at hp
    split at hp
    case isFalse => exact hp.elim
    case isTrue hz =>
      intro J B1 H1 G Y g1 wk hG hY Dl hD
      cases e2 : lcF b t e ds (wipeD δ vs) with
      | no => rw [e2] at hp; exact hp.elim
      | er x => exact absurd e2 (lcF_calm b t e ds _ x)
      | ok ys =>
        rw [e2, Res.bind_ok] at hp
        cases e8 : intsD ys with
        | none => rw [e8] at hp; exact hp.elim
        | some ns =>
        rw [e8] at hp
        dsimp only at hp
        split at hp
        case isFalse => exact hp.elim
        case isTrue h64 =>
        have hys := intsD_of e8
        have hlen := setI_len ns
        have relw := (rel.mono g1).wipe vs
        refine sc_it wk (fun i H' => ∃ B' done rest, Grow B1 H1 B' H' ∧ B' Dl = none ∧ H' Dl = some (SetO w Dl (fun k => decide (k ∈ done)) (setI done).length) ∧ lcF b t e (ds.drop i) (wipeD δ vs) = .ok rest ∧ done.map D.int ++ rest = ys) ?_ ?_ ?_ ?_
        · refine ⟨B1, [], ys, Grow.raw g1.i hD, g1.i.free hD, ?_, by simpa using e2, rfl⟩
          rw [upd_same]
          simp [setOI, set0, setI]
        · rintro i H' hin ⟨B', done, rest, gr, hb, hh, hr, hy⟩
          exact hG H' (gr.b.trans gr.i)
        · rintro i x H2 H3 hin ⟨B', done, rest, gr, hb, hh, hr, hy⟩ y
          have hlt : i < ds.length := hin
          obtain ⟨B3, g3, rx⟩ := hY i ds[i] B' H2 x H3 (by simp [hlt]) gr.b gr.i y
          rw [List.drop_eq_getElem_cons hlt] at hr
          unfold lcF at hr
          cases e3 : b ds[i] (wipeD δ vs) with
          | none => rw [e3] at hr; cases hr
          | some δ' =>
            rw [e3] at hr
            dsimp only at hr
            refine hg B0 H0 B3 H3 _ _ x ds[i] _ ((relw.mono gr).mono g3) rx (fun δ2 σ2 e4 rel4 l4 f4 => ?_) (by rw [e3]; simp)
            rw [e3] at e4
            cases e4
            refine ⟨?_, ?_⟩
            · refine (wipe_eq (σ := wipe σ vs) l4 fun j hj => f4 j fun z => hj (his j z)).trans (wipe_eq (wipe_length σ vs) fun j hj => ?_)
              rw [wipe_get, if_neg (fun z => hj z.1)]
            refine ht B0 H0 δ' σ2 B3 H3 _ rel4 ?_
            cases e5 : t δ' with
            | no => rw [e5] at hr; simp at hr
            | er x => rw [e5] at hr; simp at hr
            | ok k =>
              rw [e5, Res.calm_ok, Res.bind_ok] at hr
              intro B4 H4 g4
              cases k with
              | false =>
                rw [if_neg Bool.false_ne_true] at hr ⊢
                have hD4 := (g3.trans g4).h _ _ hh (fun _ z => by cases z)
                refine ⟨B4, done, rest, (gr.trans g3).trans g4, ?_, hD4, hr, hy⟩
                rw [(g3.trans g4).f Dl (by rw [hh]; simp)]; exact hb
              | true =>
                rw [if_pos rfl] at hr ⊢
                refine he B0 H0 δ' σ2 B4 H4 _ (rel4.mono g4) ?_
                cases e6 : e δ' with
                | no => rw [e6] at hr; simp at hr
                | er x => rw [e6] at hr; simp at hr
                | ok yd =>
                  rw [e6, Res.calm_ok, Res.bind_ok] at hr
                  intro yv B5 H5 g5 r5
                  have gA := (g3.trans g4).trans g5
                  have hD5 := gA.h _ _ hh (fun _ z => by cases z)
                  have hB5 : B5 Dl = none := by rw [gA.f Dl (by rw [hh]; simp)]; exact hb
                  cases e7 : lcF b t e (ds.drop (i + 1)) (wipeD δ vs) with
                  | no => rw [e7] at hr; cases hr
                  | er x => exact absurd e7 (lcF_calm b t e _ _ x)
                  | ok rest' =>
                    rw [e7, Res.bind_ok] at hr
                    cases hr
                    rw [hys] at hy
                    obtain ⟨ms, ls, a1, a2, a3⟩ := ints_app hy
                    cases ls with
                    | nil => cases a2
                    | cons k ls =>
                    simp only [List.map_cons, List.cons.injEq] at a2
                    obtain ⟨rfl, a2⟩ := a2
                    cases r5
                    have hdl : done.length ≤ ns.length := by
                      have := congrArg List.length hy
                      simp at this
                      omega
                    have hsl := setI_len done
                    refine ⟨Dl, k, fun j => decide (j ∈ done), (setI done).length, rfl, rfl, hD5, Nat.lt_of_lt_of_le (by omega : (setI done).length + 1 < 66) (by decide), ?_⟩
                    have gT := gr.trans gA
                    have neD : ∀ a o, B5 a = some o → a ≠ Dl := fun a o q z => by rw [z, hB5] at q; cases q
                    have esn : setI (done ++ [k]) = insU k (setI done) := setI_snoc done k
                    have eS : (fun j => decide (j ∈ done) || decide (j = k)) = fun j => decide (j ∈ done ++ [k]) := by
                      funext j
                      rw [Bool.eq_iff_iff]
                      simp
                    have eN : (if (decide (k ∈ done)) = true then (setI done).length else (setI done).length + 1) = (setI (done ++ [k])).length := by
                      rw [esn, insU_len k _ (setI_sorted done)]
                      simp only [decide_eq_true_eq, setI_mem]
                    refine ⟨B5, done ++ [k], rest', ⟨gT.b, fun a o q nq => ?_, fun a o q => ?_, gT.f, fun a ha => ?_, fun P hP => ?_, gT.n⟩, hB5, ?_, rfl, ?_⟩
                    · rw [upd_ne (ne_of_none q hD)]; exact gT.h a o q nq
                    · rw [upd_ne (neD a o q)]; exact gT.i a o q
                    · have : a ≠ Dl := fun z => ha (by rw [z]; exact hD)
                      rw [upd_ne this]; exact gT.e a ha
                    · obtain ⟨ps, h1, h2, h3⟩ := gT.t P hP
                      have n1 : P ≠ Dl := fun z => by rw [z, hD5] at h1; cases h1
                      refine ⟨ps, by rw [upd_ne n1]; exact h1, h2, fun pos cv hcv => ?_⟩
                      obtain ⟨c, c1, c2⟩ := h3 pos cv hcv
                      have n2 : c ≠ Dl := fun z => by
                        rw [z, hD5] at c2
                        exact setO_ne_code (Option.some.inj c2)
                      exact ⟨c, c1, by rw [upd_ne n2]; exact c2⟩
                    · rw [upd_same, eS, eN]
                    · rw [hys, ← hy]; simp
        · rintro H' ⟨B', done, rest, gr, hb, hh, hr, hy⟩
          rw [List.drop_length] at hr
          cases hr
          rw [List.append_nil, hys] at hy
          have := ints_inj hy
          subst this
          exact hp Dl B' H' (g1.trans gr) hb hh (by omega)
end
end DV
namespace DV
open PySem L2
/-- nodup lists with the same members are of one length -/
theorem nodup_setI (l : List Int) (hl : l.Nodup) : (setI l).length = l.length := by
  have key : ∀ (ns l : List Int), l.Pairwise (· < ·) → ns.Nodup → (∀ k ∈ ns, k ∉ l) → (ns.foldl (fun l k => insU k l) l).length = ns.length + l.length := by
    intro ns
    induction ns with
    | nil => exact fun l _ _ _ => by simp
    | cons n ns ih =>
      intro l h hn hd
      obtain ⟨n1, n2⟩ := List.nodup_cons.mp hn
      have h2 := insU_len n l h
      rw [if_neg (hd n (by simp))] at h2
      rw [List.foldl_cons, ih (insU n l) (insU_sorted n l h) n2 (fun k hk z => ?_), h2, List.length_cons]
      · omega
      · rcases (insU_mem n l k).mp z with rfl | z
        · exact n1 hk
        · exact hd k (by simp [hk]) z
  have := key l [] List.Pairwise.nil hl (by simp)
  simpa [setI] using this
theorem nodup_len {l m : List Int} (hl : l.Nodup) (hm : m.Nodup) (h : ∀ k, k ∈ l ↔ k ∈ m) : l.length = m.length := by
  rw [← nodup_setI l hl, ← nodup_setI m hm, rising_one (setI_sorted l) (setI_sorted m) fun j => by rw [setI_mem, setI_mem, h]]
theorem setR_count {w : World} {h : Heap} {a : Addr} {ns : List Int} {n : Nat} (R : SetR w h a (fun k => decide (k ∈ ns)) n) : n = (setI ns).length := by
  obtain ⟨o, es, ep, t, _, _, _, _, hnd, hm, _, _, hn, _⟩ := R
  rw [← hn, ← Array.length_toList, ← List.length_map (f := keyOf)]
  refine nodup_len hnd ((setI_sorted ns).imp fun h => by omega) fun k => ?_
  rw [← hm k, setI_mem, decide_eq_true_eq]
section
variable {X : Cx} {W : WX}
theorem csi_1 {elt tg iter : Expr} {ifs : List Expr} {scope : Scope} {own : List (Str × Nat)} {pos : Pos} {wi : TI} {g : TG} {tt : TT} {te : TE} {is : List Nat} {fi : DS → Res (List D)} {b : D → DS → Option DS} {t : DS → Res Bool} {e : DS → Res D}
    (s0 : Shared) (hc : X.calm = true) (hN : X.N.Nodup) (hi : CI X W tg iter wi fi) (ok : BlkOk X.N X.env.scope scope own)
    (hg : ∀ (s : Shared) (H : Hp) (C : Addr) (cl : List (Str × Addr)) (fp : List Addr), CG (X.blk s H scope (compEnvC scope cl C X.env) fp) tg g is b)
    (ht : ∀ (s : Shared) (H : Hp) (C : Addr) (cl : List (Str × Addr)) (fp : List Addr), CTs (X.blk s H scope (compEnvC scope cl C X.env) fp) W0 ifs tt t)
    (he : ∀ (s : Shared) (H : Hp) (C : Addr) (cl : List (Str × Addr)) (fp : List Addr), CE (X.blk s H scope (compEnvC scope cl C X.env) fp) W0 elt te e)
    (his : ∀ i ∈ is, i ∈ own.map (·.2) := by decide) (hs : ∀ x, foldedSetIterable iter X.env x = pure x := by intro _; rfl) :
    CSI X W (.SetComp elt [⟨tg, iter, ifs, 0⟩] scope pos) (tScG (setOI X.w) set0 (rSAdd X.w) wi g tt te (own.map (·.2))) (cInts (cLc (own.map (·.2)) fi b t e)) :=
  ⟨pe_scG (fun Hx h a ha => setO_new (by have := setR_new_at (w := X.w) (ns := []) ha; show SetR X.w h a (fun _ => false) 0; simpa using this)) (fun s H C cl fp => mt_sadd (X := X.blk s H scope (compEnvC scope cl C X.env) fp)) hc hN hi.pi ok
      (fun s H C cl fp => (hg s H C cl fp).pg) (fun s H C cl fp => (ht s H C cl fp).pt) (fun s H C cl fp => (he s H C cl fp).pe) hs,
    si_sc hi.si (hg s0 (fun _ => none) 0 [] []).sg (ht s0 (fun _ => none) 0 [] []).st (he s0 (fun _ => none) 0 [] []).se his⟩
/-- set(t), t a tuple of ints -/
def asInts : D → Res (List Int)
  | .tup ds => match intsD ds with
    | some ns => if ns.length < 64 then .ok ns else .no
    | none => .no
  | _ => .no
def rSetT (K : PySem.W.Frag) (w : World) : List V → Hp → VK → Prop := fun xs H Q => ∃ (p : Addr) (ns : List Int), xs = [.ref p] ∧ SqT K H p (ns.map V.int) ∧ ns.length < 64 ∧ ∀ q, H q = none → Q (.ref q) (upd H q (SetO w q (fun k => decide (k ∈ ns)) (setI ns).length))
theorem cr_setT (hc : X.calm = true) : CallR X (.type "set") (rSetT X.K X.w) := by
  intro pins s σ H xs us Q I r h
  obtain ⟨p, ns, rfl, hp, hl, q⟩ := h
  rw [Vals.ref1 r]
  obtain ⟨its, r2, ⟨o, ho, hcl, nn, hd⟩, hz⟩ := I.tuple hp
  refine call_set_tupI (ns := ns) (items := its.toArray) (I.ok.hd hc) ⟨o, ho, hcl, nn, hd⟩ (by simpa using r2.ints) (Nat.lt_of_lt_of_le (by omega : ns.length + 1 < 66) (by decide)) fun h' tk c R hcl' keep => ?_
  have e := setR_count R
  subst e
  refine ⟨.ref _, _, I.laid (t' := tk) (o := SetO X.w s.heap.objs.size (fun k => decide (k ∈ ns)) (setI ns).length) keep (Nat.le_refl _) (setO_new R), rfl, q _ (I.hok.fresh (Nat.le_refl _))⟩
theorem csi_set (K : PySem.W.Frag) (hK : X.K = K) {a : Expr} {p pos : Pos} {t : TE} {f : DS → Res D} (hc : X.calm = true) (hm : X.mg "set" = none) (ha : CE X W a t f) (hg : Gl X "set" := by rfl) (hs : starEach [a] X.env = (false, eval a X.env) :: starEach [] X.env := by rfl) (hpl : (backTo pos (starEach [] X.env)).any (·.1) = false := by rfl) :
    CSI X W (.Call (.Name "set" p) [a] [] pos) (tCB (rSetT K X.w) (tCons t tNil)) (fun δ => (f δ).bind asInts) := by
  subst hK
  refine ⟨pe_callTy (cr_setT hc) hg hm PyProof.Rows.boot_set (pa_cons ha.pe pa_nil hs) (by decide) (by decide) hs hpl, fun B0 H0 δ σ B H Q rel hp => ?_⟩
  refine ha.se B0 H0 δ σ B H _ rel ?_
  cases e : f δ with
  | no => rw [e] at hp; exact hp
  | er x => rw [e] at hp; exact hp
  | ok d =>
    rw [e, Res.bind_ok] at hp
    intro v B1 H1 g1 r1
    unfold asInts at hp
    split at hp
    · split at hp
      · rename_i ns e2
        split at hp
        · rename_i hl
          cases r1 with
          | tup h1 q =>
            rw [intsD_of e2] at q
            have e3 := q.ints_of
            subst e3
            refine ⟨_, ns, rfl, sqT_mono g1.i h1, hl, fun z hz => ?_⟩
            have := setI_len ns
            exact hp z B1 _ (g1.trans (Grow.raw g1.i hz)) (g1.i.free hz) upd_same (by omega)
        · exact hp.elim
      · exact hp.elim
    · exact hp.elim
/-- sorted(a set of ints) -/
def cSorted (f : DS → Res (List Int)) : DS → Res (List D) := fun δ => (f δ).bind fun ns => .ok ((setI ns).map D.int)
theorem cf_sortedS {e : Expr} {p pos : Pos} {t : TE} {f : DS → Res (List Int)} (w : World) (hw : X.w = w) (hc : X.calm = true) (hm : X.mg "sorted" = none) (he : CSI X W e t f) (hg : Gl X "sorted" := by rfl) (hs : starEach [e] X.env = (false, eval e X.env) :: starEach [] X.env := by rfl) (hpl : (backTo pos (starEach [] X.env)).any (·.1) = false := by rfl) :
    CF X W (.Call (.Name "sorted" p) [e] [] pos) (tCB (rSortedSet w) (tCons t tNil)) (cSorted f) := by
  subst hw
  refine ⟨pe_callB (cr_sortedSet hc) hg hm (by decide +kernel) (pa_cons he.pe pa_nil hs) (by decide) (by decide) hs hpl, fun B0 H0 δ σ B H Q rel hp => ?_⟩
  unfold cSorted at hp
  refine he.si B0 H0 δ σ B H _ rel ?_
  cases e1 : f δ with
  | no => rw [e1] at hp; exact hp
  | er x => rw [e1] at hp; exact hp
  | ok ns =>
    rw [e1, Res.bind_ok] at hp
    intro z B1 H1 g1 hb hh h64
    refine ⟨z, _, _, rfl, hh, h64, fun ms q hs hm hl hq => ?_⟩
    have : ms = setI ns := rising_one hs (setI_sorted ns) fun j => by rw [hm j, setI_mem, decide_eq_true_eq]
    subst this
    exact hp q _ B1 _ (g1.trans (Grow.raw g1.i hq)) (g1.free hq) (g1.i.free hq) upd_same (RpA.ints _)
/-- len(a set of ints) -/
def rLenS (w : World) : List V → Hp → VK → Prop := fun xs H Q => ∃ (a : Addr) (S : Int → Bool) (n : Nat), xs = [.ref a] ∧ H a = some (SetO w a S n) ∧ n < 64 ∧ Q (.int n) H
theorem cr_lenS : CallR X (.builtin "len") (rLenS X.w) := by
  intro pins s σ H xs us Q I r h
  obtain ⟨a, S, n, rfl, ha, hl, q⟩ := h
  rw [Vals.ref1 r]
  obtain ⟨o, es, ep, t, ho, hex, hd, _, _, _, hb, hf, hn, _⟩ := setO_get I ha
  exact call_len_set ho hex hd hf (by rw [hn]; omega) ⟨.int n, H, I.tok _, ⟨_, by rw [hn]⟩, q⟩
def cLenS (f : DS → Res (List Int)) : DS → Res D := fun δ => (f δ).bind fun ns => .ok (.int ((setI ns).length : Nat))
theorem ce_lenS {e : Expr} {p pos : Pos} {t : TE} {f : DS → Res (List Int)} (w : World) (hw : X.w = w) (hm : X.mg "len" = none) (he : CSI X W e t f) (hg : Gl X "len" := by rfl) (hs : starEach [e] X.env = (false, eval e X.env) :: starEach [] X.env := by rfl) (hpl : (backTo pos (starEach [] X.env)).any (·.1) = false := by rfl) :
    CE X W (.Call (.Name "len" p) [e] [] pos) (tCB (rLenS w) (tCons t tNil)) (cLenS f) := by
  subst hw
  refine ⟨pe_callB cr_lenS hg hm PySem.boot_len (pa_cons he.pe pa_nil hs) (by decide) (by decide) hs hpl, fun B0 H0 δ σ B H Q rel hp => ?_⟩
  unfold cLenS at hp
  refine he.si B0 H0 δ σ B H _ rel ?_
  cases e1 : f δ with
  | no => rw [e1] at hp; exact hp
  | er x => rw [e1] at hp; exact hp
  | ok ns =>
    rw [e1, Res.bind_ok] at hp
    intro z B1 H1 g1 hb hh h64
    exact ⟨z, _, _, rfl, hh, h64, hp _ B1 H1 g1 (.v _)⟩
end
end DV
namespace DV
open PySem PySem.Spec PySem.Calls PyProof.Rows L2

/-! ### enumerate over a tuple -/
theorem enumT_new (l : Addr) (items : Array Value) :
    Meets (Builtin.«enumerate.__new__» ⟨[.type "enumerate", .ref l], []⟩) (fun _ R s => s.heap.IsTuple l items ∧ R (.ok (.ret (.ref (s.heap.push { cls := .type "tuple_iterator", data := .fields #[.ref l, .int 0 0] }).objs.size)))
      { s with heap := (s.heap.push { cls := .type "tuple_iterator", data := .fields #[.ref l, .int 0 0] }).push { cls := .type "enumerate", data := .fields #[.none, .bool false, .ref s.heap.objs.size, rawInt 0, .none, .none] } }) :=
  .of_wp fun prog w A R s h => by
    obtain ⟨hp, gs, dd, tks, oss⟩ := s
    obtain ⟨ht, hR⟩ := h
    have hsub := sub_enumerate
    wp_walk using wpAny_pyIter_tuple ht
    refine wpAny_stack_any fun stk => wpAny_pure ?_
    split
    · rename_i cc _ _ _ _ _
      cases (cc == Value.type "enumerate") <;> (wp_walk using wpAny_pyIter_tuple ht; exact ⟨_, rfl, hR⟩)
    · wp_walk using wpAny_pyIter_tuple ht
      exact ⟨_, rfl, hR⟩
section
variable {prog : Program} {w : World} {A : Around} {E : Value → Shared → Prop} {s : Shared}
theorem call_enumT {l : Addr} {items : Array Value} {Q : Value → Shared → Prop} (ht : s.heap.IsTuple l items)
    (h : ∀ h', IsEnum h' (s.heap.objs.size + 1) s.heap.objs.size 0 .none → h'.IsTupleIter s.heap.objs.size l 0 → (∀ b o, s.heap.get? b = some o → h'.get? b = some o) → Q (.ref (s.heap.objs.size + 1)) { s with heap := h' }) :
    wpAny (model prog w) A (call (.type "enumerate") [.ref l]) Q E s := by
  refine callType_new F.called_enumerate (by decide) (F.typeCall_enumerate_1 _) (F.newCall_enumerate_1 _) (fun ob => F.args_object_init_2 ob _) F.entry_enumerate_new (enumT_new l items) ⟨ht, ?_⟩
  have sz1 : (s.heap.push { cls := .type "tuple_iterator", data := .fields #[.ref l, .int 0 0] }).objs.size = s.heap.objs.size + 1 := Heap.size_push ..
  have en : IsEnum ((s.heap.push { cls := .type "tuple_iterator", data := .fields #[.ref l, .int 0 0] }).push { cls := .type "enumerate", data := .fields #[.none, .bool false, .ref s.heap.objs.size, rawInt 0, .none, .none] }) (s.heap.objs.size + 1) s.heap.objs.size 0 .none := by
    have z := Heap.get?_push_size (s.heap.push { cls := .type "tuple_iterator", data := .fields #[.ref l, .int 0 0] }) (o := { cls := .type "enumerate", data := .fields #[.none, .bool false, .ref s.heap.objs.size, rawInt 0, .none, .none] }) rfl
    rwa [sz1] at z
  show _ ∧ _
  rw [sz1]
  exact ⟨⟨_, en, rfl⟩, h _ en ⟨_, Heap.get?_push_of_some _ (Heap.get?_push_size _ rfl), rfl, rfl⟩ fun b o z => Heap.get?_push_of_some _ (Heap.get?_push_of_some _ z)⟩
theorem nextOf_tupI {it t : Addr} {i : Nat} {items : Array Value} {x : Value} {Q : Value → Shared → Prop} (hit : s.heap.IsTupleIter it t i) (ht : s.heap.IsTuple t items) (hx : items[i]? = some x)
    (hQ : ∀ h', h'.IsTupleIter it t (i + 1) → Heap.SameBut it s.heap h' → Q x { s with heap := h' }) : wpAny (model prog w) A (Builtin.SmallTypes.nextOf (.ref it)) Q E s := by
  obtain ⟨oi, hoi, hci, hdi⟩ := id hit
  obtain ⟨ot, hot, _, nt, hdt⟩ := ht
  unfold Builtin.SmallTypes.nextOf
  refine wpAny_bind (wpAny_callSpecial?_slot (name := Str.ofString "__next__") hit.typeIs F.slot_tuple_iterator_next (wpAny_call_entry F.slot_tuple_iterator_next hit.typeIs F.entry_tuple_iterator_next ?_ (F.args_tuple_iterator_next_1 _)))
  show wpAny _ _ (field (.ref it) 0 >>= _) _ _ s
  refine wpAny_bind (wpAny_field hoi hdi (x := .ref t) rfl ?_)
  show wpAny _ _ (if (Value.ref t == Value.none) = true then _ else _) _ _ s
  rw [if_neg (show ¬ ((Value.ref t == Value.none) = true) from Bool.false_ne_true)]
  show wpAny _ _ (field (.ref it) 1 >>= _) _ _ s
  refine wpAny_bind (wpAny_field hoi hdi (x := .int i 0) rfl ?_)
  show wpAny _ _ (seqItems? (.ref t) >>= _) _ _ s
  refine wpAny_bind (wpAny_seqItems hot hdt ?_)
  simp only [Int.toNat_natCast, hx]
  refine wpAny_bind (wpAny_setField hoi hdi (by simp) (wpAny_pure ⟨x, rfl, wpAny_pure (hQ _ ⟨_, Heap.get?_update_self _ hoi (Obj.isFreed_of_fields (Obj.data_mapFields hdi _)), (Obj.cls_mapFields ..).trans hci, ?_⟩ (Heap.SameBut.update ..))⟩))
  rw [Obj.data_mapFields hdi]
  simp [rawInt]
theorem nextOf_tupE {it t : Addr} {i : Nat} {items : Array Value} {Q : Value → Shared → Prop} (hh : A.handled = none) (hit : s.heap.IsTupleIter it t i) (ht : s.heap.IsTuple t items) (hx : items[i]? = none)
    (hE : ∀ h' e, Heap.ExtBut it s.heap h' → (∃ o, h'.get? e = some o ∧ o.cls = .type "StopIteration") → E (.ref e) { s with heap := h' }) : wpAny (model prog w) A (Builtin.SmallTypes.nextOf (.ref it)) Q E s := by
  obtain ⟨oi, hoi, hci, hdi⟩ := id hit
  obtain ⟨ot, hot, _, nt, hdt⟩ := ht
  unfold Builtin.SmallTypes.nextOf
  refine wpAny_bind (wpAny_callSpecial?_slot (name := Str.ofString "__next__") hit.typeIs F.slot_tuple_iterator_next (wpAny_call_entry F.slot_tuple_iterator_next hit.typeIs F.entry_tuple_iterator_next ?_ (F.args_tuple_iterator_next_1 _)))
  show wpAny _ _ (field (.ref it) 0 >>= _) _ _ s
  refine wpAny_bind (wpAny_field hoi hdi (x := .ref t) rfl ?_)
  show wpAny _ _ (if (Value.ref t == Value.none) = true then _ else _) _ _ s
  rw [if_neg (show ¬ ((Value.ref t == Value.none) = true) from Bool.false_ne_true)]
  show wpAny _ _ (field (.ref it) 1 >>= _) _ _ s
  refine wpAny_bind (wpAny_field hoi hdi (x := .int i 0) rfl ?_)
  show wpAny _ _ (seqItems? (.ref t) >>= _) _ _ s
  refine wpAny_bind (wpAny_seqItems hot hdt ?_)
  simp only [Int.toNat_natCast, hx]
  refine wpAny_bind (wpAny_rule (wpAny_bind (wpAny_setField hoi hdi (by simp) ?_)))
  show wpAny _ _ (newExc (.type "StopIteration") [] >>= _) _ _ _
  refine wpAny_bind ?_
  simp only [newExc, newTuple]
  refine wpAny_bind (wpAny_newObj_type ?_ (by size_fits))
  refine wpAny_bind (m := firstArgMember _ _) (wpAny_of_eq (a := Value.none) (by first | rfl | (simp only [firstArgMember]; rfl)) ?_)
  refine wpAny_newObj_type ?_ (by size_fits)
  simp only [raiseNew]
  refine wpAny_bind (wpAny_handled ?_)
  first | rw [show A.in1.handled = none from hh] | rw [hh]
  exact wpAny_bind (wpAny_pure (wpAny_throw (hE _ _ (((Heap.SameBut.update ..).extBut.push _).push _) ⟨_, Heap.get?_push_size _ rfl, rfl⟩)))
/-- the next pair, whatever the inner walk: Nx is what it stands at behind its turn -/
theorem enumG_item {e it : Addr} {i : Nat} {x old : Value} {Nx : Heap → Prop} {Q : Value → Shared → Prop} (he : IsEnum s.heap e it i old) (hne : e ≠ it)
    (hn : ∀ (Q' : Value → Shared → Prop) (E' : Value → Shared → Prop) (A' : Around), (∀ h', Nx h' → Heap.SameBut it s.heap h' → Q' x { s with heap := h' }) → wpAny (model prog w) A' (Builtin.SmallTypes.nextOf (.ref it)) Q' E' s)
    (hk : ∀ h h', Nx h → (∀ o, h.get? it = some o → h'.get? it = some o) → Nx h')
    (hQ : ∀ h', IsEnumOut h' e it ((i : Int) + 1) x s.heap.objs.size → Nx h' → h'.get? s.heap.objs.size = some { cls := .type "tuple", data := .seq #[.int i s.toks, x] } → (∀ b o, b ≠ e → b ≠ it → s.heap.get? b = some o → h'.get? b = some o) → Q (.ref s.heap.objs.size) { s with heap := h', toks := s.toks + 1 }) :
    wpAny (model prog w) A (Builtin.«enumerate.__next__» ⟨[.ref e], []⟩) (fun fin s' => ∃ v, fin = .done (.ret v) ∧ Q v s') E s := by
  obtain ⟨hp, gs, dd, tks, oss⟩ := s
  show wpAny _ _ (field (.ref e) 2 >>= _) _ _ _
  refine wpAny_bind (wpAny_field he rfl (x := .ref it) rfl (wpAny_bind (hn _ _ _ fun h1 n1 sb1 => ?_)))
  replace sb1 : Heap.SameBut it hp h1 := sb1
  have e1 : IsEnum h1 e it i old := (sb1.2 e hne).trans he
  show wpAny _ _ (field (.ref e) 3 >>= _) _ _ ⟨h1, gs, dd, tks, oss⟩
  refine wpAny_bind (wpAny_field e1 rfl (x := rawInt i) rfl ?_)
  show wpAny _ _ (field (.ref e) 4 >>= _) _ _ ⟨h1, gs, dd, tks, oss⟩
  refine wpAny_bind (wpAny_field e1 rfl (x := .none) rfl ?_)
  show wpAny _ _ (mkInt i >>= _) _ _ ⟨h1, gs, dd, tks, oss⟩
  refine wpAny_bind (wpAny_mkInt ?_)
  show wpAny _ _ (setField (.ref e) 3 (rawInt ((i : Int) + 1)) >>= _) _ _ ⟨h1, gs, dd, tks + 1, oss⟩
  refine wpAny_bind (wpAny_setField_rec e1 (by simp) fun h2 e2 sb2 => ?_)
  replace sb2 : Heap.SameBut e h1 h2 := sb2
  replace e2 : IsEnum h2 e it ((i : Int) + 1) old := e2
  show wpAny _ _ (setField (.ref e) 4 .none >>= _) _ _ ⟨h2, gs, dd, tks + 1, oss⟩
  refine wpAny_bind (wpAny_setField_rec e2 (by simp) fun h3 e3 sb3 => ?_)
  replace sb3 : Heap.SameBut e h2 h3 := sb3
  replace e3 : IsEnum h3 e it ((i : Int) + 1) old := e3
  show wpAny _ _ (newTuple [.int i tks, x] >>= _) _ _ ⟨h3, gs, dd, tks + 1, oss⟩
  refine wpAny_bind (wpAny_newTuple ?_)
  have sz : h3.objs.size = hp.objs.size := by rw [sb3.1, sb2.1, sb1.1]
  have lte : e < hp.objs.size := Heap.lt_size he
  have e4 : IsEnum (h3.push { cls := .type "tuple", data := .seq #[.int i tks, x] }) e it ((i : Int) + 1) old := Heap.get?_push_of_some _ e3
  have t4 : (h3.push { cls := .type "tuple", data := .seq #[.int i tks, x] }).get? hp.objs.size = some { cls := .type "tuple", data := .seq #[.int i tks, x] } := by rw [← sz]; exact Heap.get?_push_size _ rfl
  have k4 : ∀ b o, b ≠ e → b ≠ it → hp.get? b = some o → (h3.push { cls := .type "tuple", data := .seq #[.int i tks, x] }).get? b = some o := fun b o n1 n2 q => Heap.get?_push_of_some _ (sb3.extBut b o n1 (sb2.extBut b o n1 (sb1.extBut b o n2 q)))
  have n4 : Nx (h3.push { cls := .type "tuple", data := .seq #[.int i tks, x] }) := hk h1 _ n1 fun o q => Heap.get?_push_of_some _ (sb3.extBut it o (Ne.symm hne) (sb2.extBut it o (Ne.symm hne) q))
  rw [sz]
  generalize h3.push { cls := .type "tuple", data := .seq #[.int i tks, x] } = h4 at e4 t4 k4 n4 ⊢
  show wpAny _ _ (Builtin.SmallTypes.ownedTupleIsFree (.ref e) >>= _) _ _ ⟨h4, gs, dd, tks + 1, oss⟩
  refine wpAny_bind ?_
  unfold Builtin.SmallTypes.ownedTupleIsFree
  refine wpAny_bind (wpAny_field e4 rfl (x := .none) rfl (wpAny_pure ?_))
  simp only [if_true]
  refine wpAny_bind (wpAny_rule (wpAny_bind (wpAny_field e4 rfl (x := old) rfl (wpAny_bind (wpAny_setField_rec e4 (by simp) fun h5 e5 sb5 => ?_)))))
  replace sb5 : Heap.SameBut e h4 h5 := sb5
  replace e5 : IsEnum h5 e it ((i : Int) + 1) x := e5
  show wpAny _ _ (Builtin.SmallTypes.ownedTupleHandOut (.ref e) (.ref hp.objs.size) >>= _) _ _ ⟨h5, gs, dd, tks + 1, oss⟩
  refine wpAny_bind ?_
  unfold Builtin.SmallTypes.ownedTupleHandOut
  refine wpAny_bind (wpAny_setField_rec e5 (by simp) fun h6 e6 sb6 => ?_)
  replace sb6 : Heap.SameBut e h5 h6 := sb6
  replace e6 : IsEnumOut h6 e it ((i : Int) + 1) x hp.objs.size := e6
  refine wpAny_setField_rec e6 (by simp) fun h7 e7 sb7 => ?_
  replace sb7 : Heap.SameBut e h6 h7 := sb7
  replace e7 : IsEnumOut h7 e it ((i : Int) + 1) x hp.objs.size := e7
  have keep : ∀ b o, b ≠ e → h4.get? b = some o → h7.get? b = some o := fun b o nb q => sb7.extBut b o nb (sb6.extBut b o nb (sb5.extBut b o nb q))
  exact wpAny_bind (wpAny_letGo (wpAny_pure ⟨_, rfl, hQ h7 e7 (hk h4 h7 n4 fun o q => keep it o (Ne.symm hne) q) (keep _ _ (Nat.ne_of_gt lte) t4) fun b o n1 n2 q => keep b o n1 (k4 b o n1 n2 q)⟩))
theorem pyNext_enumT {e it l : Addr} {i : Nat} {items : Array Value} {x old : Value} {Q : Option Value → Shared → Prop} (he : IsEnum s.heap e it i old) (hit : s.heap.IsTupleIter it l i) (hl : s.heap.IsTuple l items) (hx : items[i]? = some x) (hne : e ≠ it)
    (hQ : ∀ h', IsEnumOut h' e it ((i : Int) + 1) x s.heap.objs.size → h'.IsTupleIter it l (i + 1) → h'.get? s.heap.objs.size = some { cls := .type "tuple", data := .seq #[.int i s.toks, x] } → (∀ b o, b ≠ e → b ≠ it → s.heap.get? b = some o → h'.get? b = some o) → Q (some (.ref s.heap.objs.size)) { s with heap := h', toks := s.toks + 1 }) :
    wpAny (model prog w) A (pyNext (.ref e)) Q E s := by
  have ty : s.TypeIs (.ref e) "enumerate" := ⟨_, he, rfl⟩
  unfold pyNext
  refine wpAny_bind (wpAny_attempt (wpAny_callSpecial?_slot (name := Str.ofString "__next__") ty F.slot_enumerate_next (wpAny_call_entry F.slot_enumerate_next ty F.entry_enumerate_next ?_ (F.args_enumerate_next_1 _))))
  exact enumG_item (Nx := fun h => h.IsTupleIter it l (i + 1)) he hne (fun Q' E' A' h => nextOf_tupI hit hl hx h) (fun h h' z k => z.at k) fun h' a b c d => wpAny_pure (hQ h' a b c d)
theorem pyNext_enumE {e it l : Addr} {i : Nat} {items : Array Value} {old : Value} {Q : Option Value → Shared → Prop} (hh : A.handled = none) (he : IsEnum s.heap e it i old) (hit : s.heap.IsTupleIter it l i) (hl : s.heap.IsTuple l items) (hx : items[i]? = none)
    (hQ : ∀ h', Heap.ExtBut it s.heap h' → Q none { s with heap := h' }) : wpAny (model prog w) A (pyNext (.ref e)) Q E s := by
  have ty : s.TypeIs (.ref e) "enumerate" := ⟨_, he, rfl⟩
  unfold pyNext
  refine wpAny_bind (wpAny_attempt (wpAny_callSpecial?_slot (name := Str.ofString "__next__") ty F.slot_enumerate_next (wpAny_call_entry F.slot_enumerate_next ty F.entry_enumerate_next ?_ (F.args_enumerate_next_1 _))))
  show wpAny _ _ (field (.ref e) 2 >>= _) _ _ _
  refine wpAny_bind (wpAny_field he rfl (x := .ref it) rfl (wpAny_bind (nextOf_tupE hh hit hl hx fun h' z hz ⟨o, ho, hc⟩ => ?_)))
  exact wpAny_bind (wpAny_isInstance (T := "StopIteration") (b := true) ⟨o, ho, hc⟩ isSubtype_stop (wpAny_pure (hQ _ hz)))
end
/-- the tuple at a, each item in a new pair with its place -/
def IteT (K : PySem.W.Frag) (a : Addr) : It :=
  ⟨fun i H => ∃ (xs : List V) (x : V), SqT K H a xs ∧ xs[i]? = some x, fun i H v H' => ∃ T x, v = .ref T ∧ H T = none ∧ H' = upd H T (.tup [.int (i : Nat), x]) ∧ ∀ xs, SqT K H a xs → xs[i]? = some x, fun i H => ∃ xs : List V, SqT K H a xs ∧ xs.length ≤ i⟩
end DV
namespace DV
open PySem PySem.Spec PySem.Calls PyProof.Rows L2
theorem turn_enumT {P : Program} {w : World} {K : PySem.W.Frag} {elts : List Expr} {kk : Nat} {tpos : Pos} (a e it : Addr) :
    Turn P w K (.Tuple elts kk tpos) (IteT K a) [e, it] e (fun i h => (∃ old, IsEnum h e it ((i : Nat) : Int) old) ∧ h.IsTupleIter it a i ∧ e ≠ it) where
  mem := by simp
  obj := fun i h st b hb => by
    obtain ⟨⟨old, he⟩, ⟨o, ho, _, hd⟩, _⟩ := st
    rcases List.mem_cons.mp hb with rfl | hb
    · exact ⟨_, he, fun v q => nomatch q⟩
    · obtain rfl := List.mem_singleton.mp hb
      exact ⟨o, ho, fun v q => by rw [hd] at q; cases q⟩
  keep := fun i h h' st k => by
    obtain ⟨⟨old, he⟩, hi, hne⟩ := st
    exact ⟨⟨old, k e (by simp) _ he⟩, hi.at fun o q => k it (by simp) o q, hne⟩
  item := by
    intro X hP hw hK hc i pins s σ H E I hf st hg
    subst hP hw hK
    obtain ⟨⟨old, he⟩, hit, hne⟩ := st
    obtain ⟨xs, x, hq, hx⟩ := hg
    obtain ⟨its, rv, ht, hz⟩ := I.tuple hq
    obtain ⟨u, hu, ru⟩ := rv.get hx
    have lte : e < s.heap.objs.size := Heap.lt_size he
    have lti : it < s.heap.objs.size := by obtain ⟨_, q, _⟩ := hit; exact Heap.lt_size q
    refine pyNext_enumT he hit ht (x := u) (by simpa using hu) hne fun h1 ho hit1 hT keep1 => ⟨_, rfl, wpAny_letOwnedTupleGo_enum (s := { s with heap := h1, toks := s.toks + 1 }) ho fun h2 he2 sb => ?_⟩
    have hT2 : h2.get? s.heap.objs.size = some { cls := .type "tuple", data := .seq #[.int i s.toks, u] } := (sb.2 _ (Nat.ne_of_gt lte)).trans hT
    have nw : ObjOk X.prog X.w (upd H s.heap.objs.size (.tup [.int (i : Nat), x])) h2 s.heap.objs.size (.tup [.int (i : Nat), x]) := ⟨by show 2 ≤ sizeLine; decide, [.int i s.toks, u], .cons ⟨_, rfl⟩ (.cons ru .nil), ⟨_, hT2, rfl, _, rfl⟩⟩
    have I1 : Inv X pins σ (upd H s.heap.objs.size (.tup [.int (i : Nat), x])) { s with heap := h2, toks := s.toks + 1 } := I.turnedNew (ch := [e, it]) (fun b ob hb q => by
      have n1 : b ≠ e := fun z => hb (by simp [z])
      have n2 : b ≠ it := fun z => hb (by simp [z])
      exact (sb.2 b n1).trans (keep1 b ob n1 n2 q)) hf (Nat.le_refl _) nw
    refine ⟨.ref s.heap.objs.size, _, I1, rfl, ⟨_, x, rfl, I.hok.fresh (Nat.le_refl _), rfl, fun ys hy => by rw [I.tuple_inj hy hq]; exact hx⟩, ⟨⟨u, ?_⟩, hit1.at fun o q => (sb.2 it (Ne.symm hne)).trans q, hne⟩, fun b hb => ?_⟩
    · rw [show ((i + 1 : Nat) : Int) = (i : Int) + 1 by omega]
      exact he2
    · have ltb : b < s.heap.objs.size := by
        rcases List.mem_cons.mp hb with rfl | hb
        · exact lte
        · obtain rfl := List.mem_singleton.mp hb
          exact lti
      rw [upd_ne (Nat.ne_of_lt ltb)]
      exact (hf b hb).1
  done := by
    intro X hP hw hK hc i pins s σ H E I hf st hg
    subst hP hw hK
    obtain ⟨⟨old, he⟩, hit, hne⟩ := st
    obtain ⟨xs, hq, hx⟩ := hg
    obtain ⟨its, rv, ht, hz⟩ := I.tuple hq
    obtain ⟨z0, z1, z2, z3, z4, z5⟩ := hf it (by simp)
    have hl := rv.length
    exact pyNext_enumE (I.ok.hd hc) he hit ht (by simp; omega) fun h' eb => ⟨rfl, I.turned (t' := s.toks) (fun b o hb q => eb b o hb q) z0 z1 z3 z4 z5⟩
  self := fun A i s Q E st h => by
    obtain ⟨⟨old, he⟩, _⟩ := st
    exact wpAny_pyIter_enum he h
/-- enumerate of a list or a tuple -/
def iEnumA (K : PySem.W.Frag) (ta : TA) : TI := fun σ H R => ta σ H fun vs H1 => ∃ a xs, vs = [.ref a] ∧ ((SqL K H1 a xs ∧ R (Ite K a) H1) ∨ (SqT K H1 a xs ∧ R (IteT K a) H1))
theorem pi_enumA {X : Cx} {e : Expr} {ta : TA} {p pos tpos : Pos} {elts : List Expr} {kk : Nat} (hg : Gl X "enumerate") (hm : X.mg "enumerate" = none) (ha : PA X [e] ta) (hs : starEach [e] X.env = [(false, eval e X.env)] := by rfl) :
    PI X (.Tuple elts kk tpos) (.Call (.Name "enumerate" p) [e] [] pos) (iEnumA X.K ta) := by
  refine ⟨fun pins s σ H R I h => Call_ (ld_blt I hg hm boot_enumerate (PyProof.Rows.callWith_type1 (thn (ha.run pos pins s σ H _ I h) fun us s1 ⟨vs, H1, I1, r1, q1⟩ => ?_) hs rfl))⟩
  obtain ⟨a, xs, rfl, q⟩ := q1
  rw [Vals.ref1 r1]
  have foot : ∀ b ∈ [s1.heap.objs.size + 1, s1.heap.objs.size], s1.heap.objs.size ≤ b := fun b hb => by
    rcases List.mem_cons.mp hb with rfl | hb
    · omega
    · obtain rfl := List.mem_singleton.mp hb
      exact Nat.le_refl _
  rcases q with ⟨hq, q⟩ | ⟨hq, q⟩
  · obtain ⟨its, rv, p', hz⟩ := I1.list hq
    exact call_enumerate_list p'.isList fun h' he hit hsz hk => wpAny_pyIter_enum he ⟨s1.heap.objs.size + 1, [s1.heap.objs.size + 1, s1.heap.objs.size], _, _, H1, rfl, I1.kept (t' := s1.toks) hk, turn_enum a (s1.heap.objs.size + 1) s1.heap.objs.size, ⟨⟨.none, he⟩, hit, Nat.succ_ne_self _⟩, fun b hb => I1.fpOk (foot b hb) (I1.hok.fresh (foot b hb)), q⟩
  · obtain ⟨its, rv, p', hz⟩ := I1.tuple hq
    exact call_enumT p' fun h' he hit hk => wpAny_pyIter_enum he ⟨s1.heap.objs.size + 1, [s1.heap.objs.size + 1, s1.heap.objs.size], _, _, H1, rfl, I1.kept (t' := s1.toks) hk, turn_enumT a (s1.heap.objs.size + 1) s1.heap.objs.size, ⟨⟨.none, he⟩, hit, Nat.succ_ne_self _⟩, fun b hb => I1.fpOk (foot b hb) (I1.hok.fresh (foot b hb)), q⟩
theorem walk_enumT {K : PySem.W.Frag} {a : Addr} {xs : List V} : Walk (IteT K a) xs.length (fun H => SqT K H a xs) (YPair (fun i => some (.int (i : Nat))) (fun i => xs[i]?)) :=
  ⟨fun i _ hi q => ⟨xs, xs[i], q, by simp [hi]⟩, fun _ q => ⟨xs, q, Nat.le_refl _⟩, fun i H v H' _ q ⟨T, x, h1, h2, h3, h4⟩ => ⟨T, .int (i : Nat), x, h1, h2, h3, rfl, h4 xs q⟩⟩
/-- the pairs of places and items -/
def enumD : Nat → List D → List D
  | _, [] => []
  | i, d :: ds => .tup [.int (i : Nat), d] :: enumD (i + 1) ds
theorem enumD_length : ∀ (i : Nat) (ds : List D), (enumD i ds).length = ds.length
  | _, [] => rfl
  | i, d :: ds => by simp [enumD, enumD_length (i + 1) ds]
theorem enumD_get : ∀ {i k : Nat} {ds : List D} {d : D}, (enumD i ds)[k]? = some d → ∃ e, ds[k]? = some e ∧ d = .tup [.int ((i + k : Nat) : Int), e]
  | i, k, [], d, h => by simp [enumD] at h
  | i, 0, e :: ds, d, h => by simp [enumD] at h; exact ⟨e, rfl, by rw [← h]; rfl⟩
  | i, k + 1, e :: ds, d, h => by
    simp only [enumD, List.getElem?_cons_succ] at h
    obtain ⟨e', h1, h2⟩ := enumD_get h
    exact ⟨e', by simpa using h1, by rw [h2, show i + 1 + k = i + (k + 1) by omega]⟩
def gEnum : List D → Res (List D)
  | [.lst ds] => .ok (enumD 0 ds)
  | [.tup ds] => .ok (enumD 0 ds)
  | _ => .no
section
variable {X : Cx} {W : WX}
theorem yields_enum {K : PySem.W.Frag} {B1 : Hp} {xs : List V} {ds : List D} (q1 : RpA K B1 xs ds) : ∀ (i : Nat) (d : D) (B2 H2 : Hp) (x : V) (H3 : Hp), (enumD 0 ds)[i]? = some d → Same B1 B2 → Same B2 H2 → YPair (fun i => some (.int (i : Nat))) (fun i => xs[i]?) i H2 x H3 → ∃ B3, Grow B2 H2 B3 H3 ∧ Rp K B3 x d := by
  intro i d B2 H2 x H3 hi s1 s2 y
  obtain ⟨T, u, v, rfl, hT, rfl, hu, hv⟩ := y
  obtain ⟨e, he, rfl⟩ := enumD_get hi
  obtain ⟨e', e1, rv⟩ := q1.get' hv
  rw [e1] at he
  cases he
  cases hu
  refine ⟨upd B2 T (.tup [.int (i : Nat), v]), Grow.new s2 hT, .tup (SqT.of upd_same) (.cons ?_ (.cons ((rv.mono s1).mono (Grow.new s2 hT).b) .nil))⟩
  rw [Nat.zero_add]
  exact .v _
theorem ci_enum (K : PySem.W.Frag) (hK : X.K = K) {e : Expr} {t : TA} {f : DS → Res (List D)} {p pos tpos : Pos} {elts : List Expr} {kk : Nat} (hm : X.mg "enumerate" = none) (ha : CL X W [e] t f) (hg : Gl X "enumerate" := by rfl)
    (hs : starEach [e] X.env = [(false, eval e X.env)] := by rfl) : CI X W (.Tuple elts kk tpos) (.Call (.Name "enumerate" p) [e] [] pos) (iEnumA K t) (cIt gEnum f) := by
  subst hK
  refine ⟨pi_enumA hg hm ha.pa hs, fun B0 H0 δ σ B H R rel hp => ?_⟩
  unfold cIt at hp
  refine ha.sa B0 H0 δ σ B H _ rel ?_
  cases e : f δ with
  | no => rw [e] at hp; exact hp
  | er x => rw [e] at hp; exact hp
  | ok ds =>
    rw [e, Res.bind_ok] at hp
    intro vs B1 H1 g1 r1
    unfold gEnum at hp
    split at hp
    · cases r1 with
      | cons r1 r2 =>
        cases r2
        cases r1 with
        | lst h1 q1 => exact ⟨_, _, rfl, .inl ⟨g1.i.seq h1, hp _ B1 H1 _ _ g1 (by rw [enumD_length, ← q1.length]; exact walk_enum) (fun H2 s2 => s2.seq h1) (yields_enum q1)⟩⟩
    · cases r1 with
      | cons r1 r2 =>
        cases r2
        cases r1 with
        | tup h1 q1 => exact ⟨_, _, rfl, .inr ⟨sqT_mono g1.i h1, hp _ B1 H1 _ _ g1 (by rw [enumD_length, ← q1.length]; exact walk_enumT) (fun H2 s2 => sqT_mono s2 h1) (yields_enum q1)⟩⟩
    · exact hp.elim
end
end DV
namespace DV
open PySem L2

/-! ### dicts whose keys are ints and texts -/
inductive RpK (K : PySem.W.Frag) (B : Hp) : List (Key × V) → List (Key × D) → Prop
  | nil : RpK K B [] []
  | cons {k : Key} {v : V} {d : D} {us : List (Key × V)} {ks : List (Key × D)} : Rp K B v d → RpK K B us ks → RpK K B ((k, v) :: us) ((k, d) :: ks)
section
variable {K : PySem.W.Frag} {B B' : Hp}
theorem RpK.of : ∀ {us : List (Key × V)} {ks : List (Key × D)}, us.map (·.1) = ks.map (·.1) → RpA K B (us.map (·.2)) (ks.map (·.2)) → RpK K B us ks
  | [], [], _, _ => .nil
  | [], _ :: _, e, _ => by cases e
  | _ :: _, [], e, _ => by cases e
  | (k, v) :: us, (k', d) :: ks, e, r => by
    simp only [List.map_cons, List.cons.injEq] at e
    obtain ⟨rfl, e⟩ := e
    cases r with
    | cons r1 r2 => exact .cons r1 (RpK.of e r2)
theorem RpK.keys : ∀ {us : List (Key × V)} {ks : List (Key × D)}, RpK K B us ks → us.map (·.1) = ks.map (·.1)
  | _, _, .nil => rfl
  | _, _, .cons _ r => by simp [RpK.keys r]
theorem RpK.vals : ∀ {us : List (Key × V)} {ks : List (Key × D)}, RpK K B us ks → RpA K B (us.map (·.2)) (ks.map (·.2))
  | _, _, .nil => .nil
  | _, _, .cons h r => .cons h (RpK.vals r)
theorem RpK.mono (e : Same B B') {us : List (Key × V)} {ks : List (Key × D)} (r : RpK K B us ks) : RpK K B' us ks := RpK.of r.keys (RpA.mono e r.vals)
theorem RpK.length {us : List (Key × V)} {ks : List (Key × D)} (r : RpK K B us ks) : us.length = ks.length := by
  have := congrArg List.length r.keys
  simpa using this
def valD (kvs : List (Key × D)) (k : Key) : Option D := (kvs.find? fun p => decide (p.1 = k)).map (·.2)
def putD (kvs : List (Key × D)) (k : Key) (d : D) : List (Key × D) := if (kvs.any fun p => decide (p.1 = k)) = true then kvs.map (fun p => if p.1 = k then (p.1, d) else p) else kvs ++ [(k, d)]
def dropD (kvs : List (Key × D)) (k : Key) : List (Key × D) := kvs.filter fun p => decide (p.1 ≠ k)
theorem RpK.val {k : Key} : ∀ {us : List (Key × V)} {ks : List (Key × D)}, RpK K B us ks → (valV us k = none ∧ valD ks k = none) ∨ ∃ v d, valV us k = some v ∧ valD ks k = some d ∧ Rp K B v d
  | _, _, .nil => .inl ⟨rfl, rfl⟩
  | _, _, .cons (k := k') (v := v) (d := d) h r => by
    by_cases e : k' = k
    · exact .inr ⟨v, d, by simp [valV, e], by simp [valD, e], h⟩
    · rcases RpK.val (k := k) r with ⟨h1, h2⟩ | ⟨v, d, h1, h2, h3⟩
      · exact .inl ⟨by rw [valV_neg e]; exact h1, by simpa [valD, List.find?_cons, e] using h2⟩
      · exact .inr ⟨v, d, by rw [valV_neg e]; exact h1, by simpa [valD, List.find?_cons, e] using h2, h3⟩
theorem RpK.any {us : List (Key × V)} {ks : List (Key × D)} (r : RpK K B us ks) (k : Key) : (us.any fun p => decide (p.1 = k)) = (ks.any fun p => decide (p.1 = k)) := by
  have e := r.keys
  have h1 : ∀ {α : Type} (l : List (Key × α)), (l.any fun p => decide (p.1 = k)) = (l.map (·.1)).any fun x => decide (x = k) := fun l => by rw [List.any_map]; rfl
  rw [h1, h1, e]
theorem RpK.append : ∀ {us ws : List (Key × V)} {ks ls : List (Key × D)}, RpK K B us ks → RpK K B ws ls → RpK K B (us ++ ws) (ks ++ ls)
  | _, _, _, _, .nil, s => s
  | _, _, _, _, .cons h r, s => .cons h (RpK.append r s)
theorem RpK.putMap {k : Key} {v : V} {d : D} (h : Rp K B v d) : ∀ {us : List (Key × V)} {ks : List (Key × D)}, RpK K B us ks → RpK K B (us.map fun p => if p.1 = k then (p.1, v) else p) (ks.map fun p => if p.1 = k then (p.1, d) else p)
  | _, _, .nil => .nil
  | _, _, .cons (k := k') h' r => by
    simp only [List.map_cons]
    by_cases e : k' = k
    · simp only [e, if_true]; exact .cons h (RpK.putMap h r)
    · simp only [e, if_false]; exact .cons h' (RpK.putMap h r)
theorem RpK.put {us : List (Key × V)} {ks : List (Key × D)} {k : Key} {v : V} {d : D} (r : RpK K B us ks) (h : Rp K B v d) : RpK K B (putK us k v) (putD ks k d) := by
  unfold putK putD
  rw [r.any k]
  split
  · exact RpK.putMap h r
  · exact r.append (.cons h .nil)
theorem RpK.drop {us : List (Key × V)} {ks : List (Key × D)} (k : Key) (r : RpK K B us ks) : RpK K B (dropK us k) (dropD ks k) := by
  unfold dropK dropD
  induction r with
  | nil => exact .nil
  | @cons k' v' d' us ks h' _ ih =>
    by_cases e : k' = k
    · simpa [List.filter_cons, e] using ih
    · simpa [List.filter_cons, e] using RpK.cons h' ih
/-- the data of an own dict -/
def keysD (kvs : List (Key × D)) : List D := kvs.map fun p => kD p.1
def valsD (kvs : List (Key × D)) : List D := kvs.map (·.2)
theorem kD_inj {a b : Key} (h : kD a = kD b) : a = b := by
  cases a <;> cases b <;> simp only [kD, D.int, D.str, D.v.injEq, V.int.injEq, V.str.injEq, reduceCtorEq] at h
  · rw [h]
  · rw [h]
theorem RpK.keysD {us : List (Key × V)} {ks : List (Key × D)} (r : RpK K B us ks) : us.map (fun p => kD p.1) = keysD ks := by
  have e := r.keys
  have h1 : us.map (fun p => kD p.1) = (us.map (·.1)).map kD := by simp
  rw [h1, e]
  simp [DV.keysD]
/-- a dict as data gives its entries back -/
theorem rpK_back : ∀ (us : List (Key × V)) (ds : List D), RpA K B (us.map (·.2)) ds → ∃ kvs, RpK K B us kvs ∧ ds = valsD kvs
  | [], ds, r => by cases r; exact ⟨[], .nil, rfl⟩
  | p :: us, ds, r => by
    cases r with
    | @cons _ _ d ds r1 r2 =>
      obtain ⟨kvs, q, rfl⟩ := rpK_back us ds r2
      exact ⟨(p.1, d) :: kvs, .cons r1 q, rfl⟩
theorem Rp.dctK {a : V} {ks vs : List D} (h : Rp K B a (.dct ks vs)) : ∃ p us kvs, a = .ref p ∧ B p = some (.dK us) ∧ RpK K B us kvs ∧ ks = keysD kvs ∧ vs = valsD kvs := by
  cases h with
  | @dct p us _ h r =>
    obtain ⟨kvs, q, rfl⟩ := rpK_back us _ r
    exact ⟨p, us, kvs, rfl, h, q, q.keysD, rfl⟩
theorem Rp.dlkK {a : V} {ks vs : List D} (h : Rp K B a (.dlk ks vs)) : ∃ p o us kvs, a = .ref p ∧ B p = some (.frz o (.dK us)) ∧ RpK K B us kvs ∧ ks = keysD kvs ∧ vs = valsD kvs := by
  cases h with
  | @dlk p o us _ h r =>
    obtain ⟨kvs, q, rfl⟩ := rpK_back us _ r
    exact ⟨p, o, us, kvs, rfl, h, q, q.keysD, rfl⟩
theorem Rp.ofK {p : Addr} {us : List (Key × V)} {kvs : List (Key × D)} (h : B p = some (.dK us)) (r : RpK K B us kvs) : Rp K B (.ref p) (.dct (keysD kvs) (valsD kvs)) := by
  rw [← r.keysD]
  exact .dct h r.vals
theorem Rp.ofL {p : Addr} {o : Obj} {us : List (Key × V)} {kvs : List (Key × D)} (h : B p = some (.frz o (.dK us))) (r : RpK K B us kvs) : Rp K B (.ref p) (.dlk (keysD kvs) (valsD kvs)) := by
  rw [← r.keysD]
  exact .dlk h r.vals
/-- a key's value in a dict that is data -/
def asKey : D → Option Key
  | .v (.int i) => some (.inl i)
  | .v (.str x) => some (.inr x)
  | _ => none
theorem asKey_of {x : V} {d : D} {k : Key} (h : asKey d = some k) (r : Rp K B x d) : x = kV k := by
  unfold asKey at h
  split at h
  · cases h; cases r; rfl
  · cases h; cases r; rfl
  · cases h
def backK : List D → List D → Option (List (Key × D))
  | [], [] => some []
  | k :: ks, v :: vs => match asKey k, backK ks vs with
    | some k, some r => some ((k, v) :: r)
    | _, _ => none
  | _, _ => none
@[simp] theorem asKey_kD (k : Key) : asKey (kD k) = some k := by cases k <;> rfl
@[simp] theorem backK_of (kvs : List (Key × D)) : backK (keysD kvs) (valsD kvs) = some kvs := by
  induction kvs with
  | nil => rfl
  | cons p kvs ih =>
    obtain ⟨k, d⟩ := p
    show (match asKey (kD k), backK (keysD kvs) (valsD kvs) with | some k, some r => some ((k, d) :: r) | _, _ => none) = _
    rw [ih, asKey_kD]
def D.dict : D → Option (List (Key × D))
  | .dct ks vs => backK ks vs
  | .dlk ks vs => backK ks vs
  | _ => none
theorem dict_of {a : V} {d : D} {kvs : List (Key × D)} (h : d.dict = some kvs) (r : Rp K B a d) : ∃ p us, a = .ref p ∧ Rd B p (.dK us) ∧ RpK K B us kvs := by
  unfold D.dict at h
  split at h
  · obtain ⟨p, us, kvs', rfl, h2, q, rfl, rfl⟩ := r.dctK
    rw [backK_of] at h
    cases h
    exact ⟨p, us, rfl, .inl h2, q⟩
  · obtain ⟨p, o, us, kvs', rfl, h2, q, rfl, rfl⟩ := r.dlkK
    rw [backK_of] at h
    cases h
    exact ⟨p, us, rfl, .inr ⟨o, h2⟩, q⟩
  · cases h
end

/-! ### k in d, d[k] -/
section
variable {X : Cx} {W : WX} {K : PySem.W.Frag}
def rInDk (neg : Bool) : R2 := fun x y H Q => ∃ a o, y = .ref a ∧ DGet H a x o ∧ Q (.bl (if neg then !o.isSome else o.isSome)) H
theorem op_inDk (hu : X.A.units + 64 < cLine) : OpR X (compareOp .In) (rInDk false) := by
  intro pins s σ H x y v u Q I rx ry h
  obtain ⟨a, o, rfl, g, q⟩ := h
  cases ry
  exact d_in (by omega) I g rx fun s' I' => ⟨.bl o.isSome, H, I', rfl, q⟩
theorem op_notinDk (hu : X.A.units + 64 < cLine) : OpR X (compareOp .NotIn) (rInDk true) := by
  intro pins s σ H x y v u Q I rx ry h
  obtain ⟨a, o, rfl, g, q⟩ := h
  cases ry
  exact d_notIn (by omega) I g rx fun s' I' => ⟨.bl (!o.isSome), H, I', rfl, q⟩
def oInD (neg : Bool) (d e : D) : Res D := match asKey d, e.dict with
  | some k, some kvs => .ok (.bl (if neg then !(valD kvs k).isSome else (valD kvs k).isSome))
  | _, _ => .no
theorem ro_inD {n : Bool} : RO K (rInDk n) (oInD n) := fun x y d e B H Q i rx ry h => by
  unfold oInD at h
  split at h
  · rename_i k kvs e1 e2
    obtain ⟨p, us, rfl, hr, q⟩ := dict_of e2 ry
    have := asKey_of e1 rx
    subst this
    refine ⟨p, valV us k, rfl, .inl ⟨us, k, rd_mono i hr, rfl, rfl⟩, ?_⟩
    have hs : (valV us k).isSome = (valD kvs k).isSome := by
      rcases q.val (k := k) with ⟨h1, h2⟩ | ⟨v, d, h1, h2, _⟩ <;> rw [h1, h2] <;> rfl
    rw [hs]
    exact h _ B H (Grow.refl i) (.v _)
  · exact h.elim
theorem cm_inD {n : Bool} : Calm2 (oInD n) := fun d e x => by unfold oInD; split <;> simp
theorem o_inD (hu : X.A.units + 64 < cLine) : OK2 X (compareOp .In) (rInDk false) (oInD false) := ⟨op_inDk hu, ro_inD, cm_inD⟩
theorem o_notinD (hu : X.A.units + 64 < cLine) : OK2 X (compareOp .NotIn) (rInDk true) (oInD true) := ⟨op_notinDk hu, ro_inD, cm_inD⟩
def oIxD (d e : D) : Res D := match d.dict, asKey e with
  | some kvs, some k => match valD kvs k with
    | some z => .ok z
    | none => .no
  | _, _ => .no
theorem ce_ixD {a b : Expr} {pos : Pos} {ta tb : TE} {fa fb : DS → Res D} (hu : X.A.units + 64 < cLine) (ha : CE X W a ta fa) (hb : CE X W b tb fb) (hs : NoSl b := by exact fun _ _ => rfl) : CE X W (.Subscript a b pos) (tDGet ta tb) (cBin oIxD fa fb) :=
  ⟨pe_dget (by omega) ha.pe hb.pe hs, fun B0 H0 δ σ B H Q rel hp => by
    unfold cBin at hp
    refine ha.se B0 H0 δ σ B H _ rel ?_
    cases e : fa δ with
    | no => rw [e] at hp; exact hp
    | er x => rw [e] at hp; exact hp
    | ok d =>
      rw [e, Res.bind_ok] at hp
      intro v B1 H1 g1 r1
      refine hb.se B0 H0 δ σ B1 H1 _ (rel.mono g1) ?_
      cases e2 : fb δ with
      | no => rw [e2] at hp; exact hp
      | er x => rw [e2] at hp; exact fun c dx B' H' g' rp => hp c dx B' H' (g1.trans g') rp
      | ok d2 =>
        rw [e2, Res.bind_ok] at hp
        intro u B2 H2 g2 r2
        unfold oIxD at hp
        split at hp
        · rename_i kvs k e3 e4
          split at hp
          · rename_i z e5
            obtain ⟨p, us, rfl, hr, q⟩ := dict_of e3 (Rp.mono g2.b r1)
            have := asKey_of e4 r2
            subst this
            rcases q.val (k := k) with ⟨h1, h2⟩ | ⟨w, z', h1, h2, h3⟩
            · rw [e5] at h2; cases h2
            · rw [e5] at h2
              cases h2
              exact ⟨p, w, rfl, .inl ⟨us, k, rd_mono g2.i hr, rfl, h1.symm⟩, hp w B2 H2 (g1.trans g2) h3⟩
          · exact hp.elim
        · exact hp.elim⟩
end
end DV
namespace DV
open PySem L2

/-! ### an own dict is looked at -/
mutual
def D.noDct : D → Bool
  | .v _ => true
  | .lst xs => D.noDctA xs
  | .tup xs => D.noDctA xs
  | .dct _ _ => false
  | .dlk _ _ => false
  | .ins _ _ _ => false
  | .dtt _ _ => false
  | .dtl _ _ => false
def D.noDctA : List D → Bool
  | [] => true
  | x :: xs => x.noDct && D.noDctA xs
end
def noDctR : Res D → Res D
  | .ok d => if d.noDct then .ok d else .no
  | _ => .no
section
variable {K : PySem.W.Frag} {B B' : Hp} {p : Addr}
/-- data without dicts lean on no dict -/
def NoSeq (u : HO) : Prop := (∃ us, u = .dK us) ∨ ∃ o us, u = .frz o (.dK us)
mutual
theorem Rp.less {u : HO} (hp : B p = some u) (hu : NoSeq u) (hb : ∀ a, a ≠ p → B' a = B a) : ∀ {v : V} {d : D}, Rp K B v d → d.noDct = true → Rp K B' v d
  | _, _, .v x, _ => .v x
  | _, _, .lst h r, hd => by
    rw [D.noDct] at hd
    refine .lst ?_ (RpA.less hp hu hb r hd)
    rcases h with (h | ⟨o, h⟩) | h
    · exact .inl (.inl (by rw [hb _ (fun z => by rw [z, hp] at h; rcases hu with ⟨_, rfl⟩ | ⟨_, _, rfl⟩ <;> cases h)]; exact h))
    · exact .inl (.inr ⟨o, by rw [hb _ (fun z => by rw [z, hp] at h; rcases hu with ⟨_, rfl⟩ | ⟨_, _, rfl⟩ <;> cases h)]; exact h⟩)
    · exact .inr h
  | _, _, .tup h r, hd => by
    rw [D.noDct] at hd
    refine .tup ?_ (RpA.less hp hu hb r hd)
    rcases h with (h | ⟨o, h⟩) | h
    · exact .inl (.inl (by rw [hb _ (fun z => by rw [z, hp] at h; rcases hu with ⟨_, rfl⟩ | ⟨_, _, rfl⟩ <;> cases h)]; exact h))
    · exact .inl (.inr ⟨o, by rw [hb _ (fun z => by rw [z, hp] at h; rcases hu with ⟨_, rfl⟩ | ⟨_, _, rfl⟩ <;> cases h)]; exact h⟩)
    · exact .inr h
  | _, _, .dct _ _, hd => by cases hd
  | _, _, .dlk _ _, hd => by cases hd
  | _, _, .dcT _ _, hd => by cases hd
  | _, _, .dlT _ _, hd => by cases hd
  | _, _, .ins _ _ _ _, hd => by cases hd
theorem RpA.less {u : HO} (hp : B p = some u) (hu : NoSeq u) (hb : ∀ a, a ≠ p → B' a = B a) : ∀ {vs : List V} {ds : List D}, RpA K B vs ds → D.noDctA ds = true → RpA K B' vs ds
  | _, _, .nil, _ => .nil
  | _, _, .cons h r, hd => by
    rw [D.noDctA, Bool.and_eq_true] at hd
    exact .cons (Rp.less hp hu hb h hd.1) (RpA.less hp hu hb r hd.2)
end
end
/-- the own dict at slot i as data; locked -/
def fzD (lk : Bool) (i : Nat) (δ : DS) : DS := match δ[i]? with
  | some (some (.od kvs)) => δ.set i (some (.im (if lk then .dlk (keysD kvs) (valsD kvs) else .dct (keysD kvs) (valsD kvs))))
  | _ => δ
def cLookD (lk : Bool) (i : Nat) (f : DS → Res D) : DS → Res D := fun δ => match δ[i]? with
  | some (some (.od _)) => noDctR (f (fzD lk i δ))
  | _ => .no
section
variable {X : Cx} {W : WX} {K : PySem.W.Frag}
theorem tab_any {H : Hp} {p P : Addr} {q : Nat → Nat → Str} {ho ho' : HO} (h : NdefX.TabN H P q) (hp : H p = some ho) (k1 : ∀ ps, ho ≠ .tbl ps) (k2 : ∀ c q, ho ≠ LamX.CodeO c q) : NdefX.TabN (upd H p ho') P q := by
  obtain ⟨ps, h1, h2, h3⟩ := h
  have n1 : P ≠ p := fun z => by rw [z, hp] at h1; exact k1 ps (Option.some.inj h1)
  refine ⟨ps, by rw [upd_ne n1]; exact h1, h2, fun pos cv hc => ?_⟩
  obtain ⟨c, e1, e2⟩ := h3 pos cv hc
  have n2 : c ≠ p := fun z => by rw [z, hp] at e2; exact k2 _ _ (Option.some.inj e2)
  exact ⟨c, e1, by rw [upd_ne n2]; exact e2⟩
/-- behind the look: the dict is the def's own again -/
theorem look_back {B H B2 H2 : Hp} {p : Addr} {u ho : HO} {v : V} {d : D} (i : Same B H) (nB : NoT B) (hb : B p = none) (hh : H p = some u) (ku : Kind u) (hu : NoSeq ho) (g : Grow (upd B p ho) (upd H p ho) B2 H2) (r : Rp K B2 v d) (hd : d.noDct = true) :
    H2 p = some ho ∧ ∃ B3, Grow B H B3 (upd H2 p u) ∧ Rp K B3 v d := by
  have nho : ∀ ps, ho ≠ .tbl ps := fun ps z => by rcases hu with ⟨_, rfl⟩ | ⟨_, _, rfl⟩ <;> cases z
  have hp2 : H2 p = some ho := g.h p ho upd_same nho
  have bp2 : B2 p = some ho := g.b p ho upd_same
  refine ⟨hp2, fun a => if a = p then none else B2 a, ⟨fun a o q => ?_, fun a o q nq => ?_, fun a o q => ?_, fun a ha => ?_, fun a ha => ?_, fun P hP => ?_, fun _ a ps z => ?_⟩, r.less bp2 hu (fun a ha => by show (if a = p then none else B2 a) = B2 a; rw [if_neg ha]) hd⟩
  · have ne : a ≠ p := fun z => by rw [z, hb] at q; cases q
    show (if a = p then none else B2 a) = some o
    rw [if_neg ne]
    exact g.b a o (by rw [upd_ne ne]; exact q)
  · by_cases ne : a = p
    · subst ne; rw [hh] at q; cases q; exact upd_same
    · rw [upd_ne ne]; exact g.h a o (by rw [upd_ne ne]; exact q) nq
  · have q' : (if a = p then none else B2 a) = some o := q
    by_cases ne : a = p
    · rw [if_pos ne] at q'; cases q'
    · rw [if_neg ne] at q'; rw [upd_ne ne]; exact g.i a o q'
  · show (if a = p then none else B2 a) = B a
    by_cases ne : a = p
    · rw [if_pos ne, ne, hb]
    · rw [if_neg ne, g.f a (by rw [upd_ne ne]; exact ha), upd_ne ne]
  · by_cases ne : a = p
    · rw [ne, upd_same]; simp
    · rw [upd_ne ne]; exact g.e a (by rw [upd_ne ne]; exact ha)
  · exact tab_any (g.t P (tab_updG hP hh ku)) hp2 nho (fun c q z => by unfold LamX.CodeO at z; rcases hu with ⟨_, rfl⟩ | ⟨_, _, rfl⟩ <;> cases z)
  · have z' : (if a = p then none else B2 a) = some (.tbl ps) := z
    by_cases ne : a = p
    · rw [if_pos ne] at z'; cases z'
    · rw [if_neg ne] at z'; exact g.n (nB.upd nho) a ps z'
theorem fzD_od {lk : Bool} {i : Nat} {δ : DS} {kvs : List (Key × D)} (e : δ[i]? = some (some (.od kvs))) : fzD lk i δ = δ.set i (some (.im (if lk then .dlk (keysD kvs) (valsD kvs) else .dct (keysD kvs) (valsD kvs)))) := by
  unfold fzD; rw [e]
theorem lookD_no {lk : Bool} {i : Nat} {δ : DS} {f : DS → Res D} (h : ∀ kvs, δ[i]? ≠ some (some (.od kvs))) : cLookD lk i f δ = .no := by
  unfold cLookD
  split
  · rename_i kvs e; exact absurd e (h kvs)
  · rfl
theorem lookD_od {lk : Bool} {i : Nat} {δ : DS} {f : DS → Res D} {kvs : List (Key × D)} (e : δ[i]? = some (some (.od kvs))) : cLookD lk i f δ = noDctR (f (fzD lk i δ)) := by
  unfold cLookD; rw [e]
theorem se_lookD (i : Nat) {t : TE} {f : DS → Res D} (h : SE K W t f) : SE K W t (cLookD false i f) := fun B0 H0 δ σ B H Q rel hp => by
  by_cases hk : ∃ kvs, δ[i]? = some (some (.od kvs))
  case neg => rw [lookD_no fun kvs z => hk ⟨kvs, z⟩] at hp; exact hp.elim
  obtain ⟨kvs, ei⟩ := hk
  rw [lookD_od ei, fzD_od ei] at hp
  obtain ⟨v, h1, p, us, rfl, h0, hb, hh, k, r⟩ := rel.sl i _ ei
  have rk := RpK.of k r
  have hup : upd H p (.dK us) = H := upd_self hh
  obtain ⟨sb, rel2⟩ := rel.freezeG (ho := .dK us) (d := .dct (keysD kvs) (valsD kvs)) ei rfl h1 hup.symm (fun _ z => by cases z) (Rp.ofK upd_same (rk.mono (same_new hb)))
  refine h B0 H0 _ σ _ H Q rel2 ?_
  simp only [Bool.false_eq_true, if_false] at hp
  cases e : f (δ.set i (some (.im (.dct (keysD kvs) (valsD kvs))))) with
  | no => rw [e] at hp; exact hp.elim
  | er x => rw [e] at hp; exact hp.elim
  | ok d =>
    rw [e] at hp
    unfold noDctR at hp
    dsimp only at hp
    split at hp
    · rename_i hd
      intro w B2 H2 g rp
      have g' : Grow (upd B p (.dK us)) (upd H p (.dK us)) B2 H2 := by rw [hup]; exact g
      obtain ⟨z1, B3, g3, r3⟩ := look_back (u := .dK us) rel.g.i (rel.g.n rel.nt) hb hh (kind_dK _) (.inl ⟨us, rfl⟩) g' rp hd
      rw [upd_self z1] at g3
      exact hp w B3 H2 g3 r3
    · exact hp.elim
theorem se_lockD (i : Nat) {t : TE} {f : DS → Res D} (h : SE K W t f) : SE K W (tLockE t) (cLookD true i f) := fun B0 H0 δ σ B H Q rel hp => by
  by_cases hk : ∃ kvs, δ[i]? = some (some (.od kvs))
  case neg => rw [lookD_no fun kvs z => hk ⟨kvs, z⟩] at hp; exact hp.elim
  obtain ⟨kvs, ei⟩ := hk
  rw [lookD_od ei, fzD_od ei] at hp
  obtain ⟨v, h1, p, us, rfl, h0, hb, hh, k, r⟩ := rel.sl i _ ei
  have rk := RpK.of k r
  refine ⟨p, .dK us, hh, trivial, fun od => ?_⟩
  obtain ⟨sb, rel2⟩ := rel.freezeG (ho := .frz od (.dK us)) (d := .dlk (keysD kvs) (valsD kvs)) ei rfl h1 rfl (fun _ z => by cases z) (Rp.ofL (o := od) upd_same (rk.mono (same_new hb)))
  refine h B0 H0 _ σ _ _ _ rel2 ?_
  simp only [if_true] at hp
  cases e : f (δ.set i (some (.im (.dlk (keysD kvs) (valsD kvs))))) with
  | no => rw [e] at hp; exact hp.elim
  | er x => rw [e] at hp; exact hp.elim
  | ok d =>
    rw [e] at hp
    unfold noDctR at hp
    dsimp only at hp
    split at hp
    · rename_i hd
      intro w B2 H2 g rp
      obtain ⟨z1, B3, g3, r3⟩ := look_back (u := .dK us) rel.g.i (rel.g.n rel.nt) hb hh (kind_dK _) (.inr ⟨od, us, rfl⟩) g rp hd
      exact ⟨z1, hp w B3 _ g3 r3⟩
    · exact hp.elim
theorem ce_lookD (i : Nat) {e : Expr} {t : TE} {f : DS → Res D} (h : CE X W e t f) : CE X W e t (cLookD false i f) := ⟨h.pe, se_lookD i h.se⟩
theorem ce_lockD (i : Nat) {e : Expr} {t : TE} {f : DS → Res D} (h : CE X W e t f) : CE X W e (tLockE t) (cLookD true i f) := ⟨pe_lock h.pe, se_lockD i h.se⟩
/-! ### for k in d, d locked -/
def itemsK : D → Res (List D)
  | .dlk ks vs => match backK ks vs with
    | some _ => .ok ks
    | none => .no
  | _ => .no
def cKeys (f : DS → Res D) : DS → Res (List D) := fun δ => (f δ).bind itemsK
theorem walk_keysK {d : Addr} {o : Obj} {us : List (Key × V)} : Walk (Itk d o us) us.length (fun H => H d = some (.frz o (.dK us))) (YAt (us.map fun p => kV p.1)) :=
  ⟨fun i H hi h => ⟨h, hi⟩, fun H h => ⟨h, Nat.le_refl _⟩, fun i H x H' hi h ⟨e, k, v, h1, h2⟩ => ⟨e, by rw [List.getElem?_map, h1, h2]; rfl⟩⟩
theorem ci_keys {tg e : Expr} {t : TE} {f : DS → Res D} (h : CE X W e t f) : CI X W tg e (iKeys t) (cKeys f) :=
  ⟨pi_keys h.pe, fun B0 H0 δ σ B H R rel hp => by
    unfold cKeys at hp
    refine h.se B0 H0 δ σ B H _ rel ?_
    cases e : f δ with
    | no => rw [e] at hp; exact hp
    | er x => rw [e] at hp; exact hp
    | ok d =>
      rw [e, Res.bind_ok] at hp
      intro v B1 H1 g1 r1
      unfold itemsK at hp
      split at hp
      · split at hp
        · rename_i kvs0 e0
          obtain ⟨p, o, us, kvs, rfl, hb, q, rfl, rfl⟩ := r1.dlkK
          refine ⟨p, o, rfl, .inl ⟨us, g1.i _ _ hb, ?_⟩⟩
          have hl : (keysD kvs).length = us.length := by simp [keysD, q.length]
          refine hp _ B1 H1 _ _ g1 (by rw [hl]; exact walk_keysK) (fun H2 s2 => s2 _ _ hb) fun i d B2 H2 x H3 hi s1 s2 y => ?_
          obtain ⟨rfl, hx⟩ := y
          refine ⟨B2, Grow.refl s2, ?_⟩
          have hk := q.keysD
          have : (us.map fun p => kD p.1)[i]? = some d := by rw [hk]; exact hi
          rw [List.getElem?_map] at this hx
          cases eu : us[i]? with
          | none => rw [eu] at hx; cases hx
          | some kv =>
            rw [eu] at hx this
            cases hx
            cases this
            obtain ⟨k, w⟩ := kv
            cases k <;> exact .v _
        · exact hp.elim
      · exact hp.elim⟩
/-! ### new dicts -/
def PostFD (K : PySem.W.Frag) (B H : Hp) (σ : L2.St) (W : WX) (Q : VK) : Res (List (Key × D)) → Prop
  | .ok kvs => ∀ p us B' H', Grow B H B' H' → H p = none → B' p = none → H' p = some (.dK us) → RpK K B' us kvs → Q (.ref p) H'
  | .er x => ∀ c dx B' H', Grow B H B' H' → RpX K B' c dx x → W c dx σ H'
  | .no => False
structure CFD (X : Cx) (W : WX) (e : Expr) (t : TE) (f : DS → Res (List (Key × D))) : Prop where
  pe : PE X e t
  sf : ∀ B0 H0 δ σ B H (Q : VK), Rel X.K B0 H0 B H σ δ → PostFD X.K B H σ W Q (f δ) → t σ H Q
theorem cfd_nil {pos : Pos} : CFD X W (.Dict [] [] pos) tDNewK (fun _ => .ok []) :=
  ⟨pe_dnewK, fun B0 H0 δ σ B H Q rel hp p hpn => hp p [] B _ (Grow.raw rel.g.i hpn) hpn (rel.g.i.free hpn) upd_same .nil⟩
/-- a new dict as data -/
def cDn (f : DS → Res (List (Key × D))) : DS → Res D := fun δ => (f δ).bind fun kvs => .ok (.dct (keysD kvs) (valsD kvs))
theorem ce_dn {e : Expr} {t : TE} {f : DS → Res (List (Key × D))} (h : CFD X W e t f) : CE X W e t (cDn f) := ⟨h.pe, fun B0 H0 δ σ B H Q rel hp => by
  unfold cDn at hp
  refine h.sf B0 H0 δ σ B H _ rel ?_
  cases e : f δ with
  | no => rw [e] at hp; exact hp
  | er x => rw [e] at hp; exact hp
  | ok kvs =>
    rw [e, Res.bind_ok] at hp
    intro p us B1 H1 g1 h0 hb hh r1
    have sb : Same B1 (upd B1 p (.dK us)) := same_new hb
    refine hp _ (upd B1 p (.dK us)) H1 ⟨g1.b.trans sb, g1.h, fun a o q => ?_, fun a ha => ?_, g1.e, g1.t, fun h => (g1.n h).upd (fun _ z => by cases z)⟩ (Rp.ofK upd_same (r1.mono sb))
    · by_cases hap : a = p
      · subst hap; rw [upd_same] at q; cases q; exact hh
      · rw [upd_ne hap] at q; exact g1.i a o q
    · have : a ≠ p := fun z => ha (by rw [z]; exact h0)
      rw [upd_ne this]
      exact g1.f a ha⟩
/-- x = a new dict, the def's own -/
def cOwnD (i : Nat) (f : DS → Res (List (Key × D))) : DS → Fl := fun δ => stE (f δ) δ fun kvs => .nx (δ.set i (some (.od kvs)))
theorem cs_ownD (i : Nat) {x : Str} {e : Expr} {t : TE} {f : DS → Res (List (Key × D))} {pos pos' : Pos} (hN : X.N.Nodup) (he : CFD X W e t f) (hi : X.N[i]? = some x := by rfl) (hx : Loc X.env.scope x := by first | exact Or.inl rfl | exact Or.inr rfl)
    (hs : swapsWith e (some (.Name x pos')) pos.line X.env = pure false := by rfl) (hf : X.fn x = true ∨ X.env.scope.names.lookup x = some .local := by first | exact .inl rfl | exact .inr rfl | assumption) :
    CS X W (.Assign [.Name x pos'] e pos) (tAsg t (gName i)) (cOwnD i f) := ⟨ps_set hN hi hx he.pe hs hf, fun B0 H0 δ σ B H E rel hp => by
  unfold cOwnD at hp
  refine he.sf B0 H0 δ σ B H _ rel ?_
  cases e1 : f δ with
  | no => rw [e1] at hp; exact hp
  | er x => rw [e1] at hp; exact fun c dx B' H' g rp => hp c dx σ B' H' g.b (rel.mono g) rp
  | ok kvs =>
    rw [e1, stE_ok] at hp
    intro p us B' H' g h0 hb hh rk
    exact hp _ B' H' g.b ((rel.mono g).setG i ⟨p, us, rfl, rel.g.free h0, hb, hh, rk.keys, rk.vals⟩ (rel.free' g h0))⟩
end
end DV
namespace DV
open PySem L2
section
variable {X : Cx} {W : WX} {K : PySem.W.Frag}
/-! ### writes -/
/-- d[k] = v, d the def's own -/
def cPutD (i : Nat) (fk fv : DS → Res D) : DS → Fl := fun δ => match δ[i]? with
  | some (some (.od kvs)) => stE (fv δ) δ fun d => stE (fk δ) δ fun y => match asKey y with
    | some k => if kvs.length < sizeLine then .nx (δ.set i (some (.od (putD kvs k d)))) else .no
    | none => .no
  | _ => .no
theorem cs_putD (i : Nat) {x : Str} {e k : Expr} {t tk : TE} {f fk : DS → Res D} {px tpos pos : Pos} (hu : X.A.units + 64 < cLine) (he : CE X W e t f) (hk : CE X W k tk fk) (hv : PE X (.Name x px) (tVar i)) (hs : swapsWith e (some (.Subscript (.Name x px) k tpos)) pos.line X.env = pure false := by rfl) :
    CS X W (.Assign [.Subscript (.Name x px) k tpos] e pos) (sDPut (tVar i) tk t) (cPutD i fk f) :=
  ⟨ps_dput (by omega) hv hk.pe he.pe hs, fun B0 H0 δ σ B H E rel hp => by
    unfold cPutD at hp
    split at hp
    case h_2 => exact hp.elim
    case h_1 kvs ei =>
    refine he.se B0 H0 δ σ B H _ rel (postE_of rel hp fun d v B1 H1 _ g1 r1 hp1 => ?_)
    obtain ⟨w, q1, p, us, rfl, h0, hb, hh, kk, rv⟩ := (rel.mono g1).sl i _ ei
    refine ⟨.ref p, q1, hk.se B0 H0 δ σ B1 H1 _ (rel.mono g1) (postE_of (rel.mono g1) hp1 fun y u B2 H2 _ g2 r2 hp2 => ?_)⟩
    split at hp2
    · rename_i k hk'
      split at hp2
      · rename_i hz
        have := asKey_of hk' r2
        subst this
        have rel2 := (rel.mono g1).mono g2
        obtain ⟨w2, q2, p2, us2, e2, h02, hb2, hh2, kk2, rv2⟩ := rel2.sl i _ ei
        rw [q1] at q2
        cases q2
        cases e2
        have rk := RpK.of kk2 rv2
        refine ⟨p, _, rfl, DPut.k hh2 (by rw [rk.length]; exact hz), ?_⟩
        have rk2 := rk.put (k := k) (r1.mono g2.b)
        exact hp2 σ B2 _ (Same.refl _) (rel2.writeG ei rfl q1 fun hb' h0' => ⟨p, _, rfl, h0', hb', upd_same, rk2.keys, rk2.vals⟩)
      · exact hp2.elim
    · exact hp2.elim⟩
/-- d.pop(k), k there, as a statement -/
def cPopD (i : Nat) (fk : DS → Res D) : DS → Fl := fun δ => match δ[i]? with
  | some (some (.od kvs)) => stE (fk δ) δ fun y => match asKey y with
    | some k => if (valD kvs k).isSome then .nx (δ.set i (some (.od (dropD kvs k)))) else .no
    | none => .no
  | _ => .no
theorem cs_popD (i : Nat) {x : Str} {k : Expr} {tk : TE} {fk : DS → Res D} {px apos cpos pos : Pos} (hk : CE X W k tk fk) (hv : PE X (.Name x px) (tVar i)) (m : M1 X (.Name x px) "pop" apos k cpos := by exact ⟨rfl, rfl, rfl, rfl⟩) (hs : swapsWith (.Call (.Attribute (.Name x px) "pop" apos) [k] [] cpos) none pos.line X.env = pure false := by rfl) :
    CS X W (.Expr (.Call (.Attribute (.Name x px) "pop" apos) [k] [] cpos) pos) (tDrop (tDPop1 (tVar i) tk)) (cPopD i fk) :=
  ⟨ps_expr (pe_dpop1 hv hk.pe m) hs, fun B0 H0 δ σ B H E rel hp => by
    unfold cPopD at hp
    split at hp
    case h_2 => exact hp.elim
    case h_1 kvs ei =>
    obtain ⟨w, q1, p, us, rfl, h0, hb, hh, kk, rv⟩ := rel.sl i _ ei
    refine ⟨.ref p, q1, p, rfl, .inl ⟨us, .inl hh⟩, hk.se B0 H0 δ σ B H _ rel (postE_of rel hp fun y u B2 H2 _ g2 r2 hp2 => ?_)⟩
    split at hp2
    · rename_i k hk'
      split at hp2
      · rename_i hz
        have := asKey_of hk' r2
        subst this
        have rel2 := rel.mono g2
        obtain ⟨w2, q2, p2, us2, e2, h02, hb2, hh2, kk2, rv2⟩ := rel2.sl i _ ei
        rw [q1] at q2
        cases q2
        cases e2
        have rk := RpK.of kk2 rv2
        rcases rk.val (k := k) with ⟨a1, a2⟩ | ⟨v', d', a1, a2, a3⟩
        · rw [a2] at hz; cases hz
        · refine ⟨us2, k, v', hh2, rfl, a1, ?_⟩
          have rk2 := rk.drop k
          exact hp2 σ B2 _ (Same.refl _) (rel2.writeG ei rfl q1 fun hb' h0' => ⟨p, _, rfl, h0', hb', upd_same, rk2.keys, rk2.vals⟩)
      · exact hp2.elim
    · exact hp2.elim⟩
/-- an own dict is let be -/
def cFzD (i : Nat) (g : DS → Fl) : DS → Fl := fun δ => g (fzD false i δ)
theorem cs_fzD (i : Nat) {s : Stmt} {t : TS} {g : DS → Fl} (h : CS X W s t g) : CS X W s t (cFzD i g) := ⟨h.ps, fun B0 H0 δ σ B H E rel hp => by
  unfold cFzD at hp
  by_cases hk : ∃ kvs, δ[i]? = some (some (.od kvs))
  · obtain ⟨kvs, ei⟩ := hk
    rw [fzD_od ei] at hp
    obtain ⟨v, h1, p, us, rfl, h0, hb, hh, k, r⟩ := rel.sl i _ ei
    obtain ⟨sb, rel2⟩ := rel.freezeG (ho := .dK us) (d := .dct (keysD kvs) (valsD kvs)) ei rfl h1 (upd_self hh).symm (fun _ z => by cases z) (Rp.ofK upd_same ((RpK.of k r).mono (same_new hb)))
    exact h.ss B0 H0 _ σ _ H E rel2 (postS_mono sb hp)
  · have : fzD false i δ = δ := by
      unfold fzD
      split
      · rename_i kvs e; exact absurd ⟨kvs, e⟩ hk
      · rfl
    rw [this] at hp
    exact h.ss B0 H0 δ σ B H E rel hp⟩
/-! ### {k: v for ..} -/
def dcF (b : D → DS → Option DS) (t : DS → Res Bool) (ek ev : DS → Res D) : List D → DS → List (Key × D) → Res (List (Key × D))
  | [], _, acc => .ok acc
  | d :: ds, δ, acc => match b d δ with
    | none => .no
    | some δ' => (t δ').calm.bind fun c => if c = true then (ek δ').calm.bind fun y => (ev δ').calm.bind fun z => match asKey y with
        | some k => if acc.length < sizeLine then dcF b t ek ev ds δ (putD acc k z) else .no
        | none => .no
      else dcF b t ek ev ds δ acc
def cDc (vs : List Nat) (fi : DS → Res (List D)) (b : D → DS → Option DS) (t : DS → Res Bool) (ek ev : DS → Res D) : DS → Res (List (Key × D)) := fun δ => (fi δ).bind fun ds => dcF b t ek ev ds (wipeD δ vs) []
theorem dcF_calm (b : D → DS → Option DS) (t : DS → Res Bool) (ek ev : DS → Res D) : ∀ (ds : List D) (δ : DS) (acc : List (Key × D)) (x : Exn), dcF b t ek ev ds δ acc ≠ .er x
  | [], δ, acc, x => by simp [dcF]
  | d :: ds, δ, acc, x => by
    unfold dcF
    split
    · simp
    · rename_i δ' _
      cases t δ' with
      | no => simp
      | er x => simp
      | ok c =>
        simp only [Res.calm_ok, Res.bind_ok]
        split
        · cases ek δ' with
          | no => simp
          | er x => simp
          | ok y =>
            simp only [Res.calm_ok, Res.bind_ok]
            cases ev δ' with
            | no => simp
            | er x => simp
            | ok z =>
              simp only [Res.calm_ok, Res.bind_ok]
              split
              · split
                · exact dcF_calm b t ek ev ds δ _ x
                · simp
              · simp
        · exact dcF_calm b t ek ev ds δ acc x
theorem dc_it {J : It} {n : Nat} {G : Hp → Prop} {Y : Nat → Hp → V → Hp → Prop} (w : Walk J n G Y) {g : TG} {tt : TT} {tk tv : TE} {vs : List Nat} {σ : L2.St} {H1 : Hp} {D : Addr} {Qd : Hp → Prop} (Pv : Nat → Hp → Prop)
    (h0 : Pv 0 (upd H1 D (.dK []))) (hG : ∀ i H, i ≤ n → Pv i H → G H)
    (hs : ∀ i x H H', i < n → Pv i H → Y i H x H' → g x (wipe σ vs) H' fun σ2 H2 => wipe σ2 vs = wipe σ vs ∧ tt σ2 H2 fun b H3 => if b = true then tk σ2 H3 fun y H4 => tv σ2 H4 fun z H5 => ∃ kvs k, y = kV k ∧ H5 D = some (.dK kvs) ∧ kvs.length < sizeLine ∧ Pv (i + 1) (upd H5 D (.dK (putK kvs k z))) else Pv (i + 1) H3) (hd : ∀ H, Pv n H → Qd H) :
    ∃ M : Nat → Nat → Hp → Prop, (∃ m, M 0 m (upd H1 D (.dK []))) ∧ ∀ i m H, M i m H → (J.stop i H ∧ Qd H) ∨ (J.go i H ∧ ∃ Nx : Hp → Prop, (∀ H', Nx H' → ∃ m', m' < m ∧ M (i + 1) m' H') ∧
      ∀ x H', J.yld i H x H' → g x (wipe σ vs) H' fun σ2 H2 => wipe σ2 vs = wipe σ vs ∧ tt σ2 H2 fun b H3 => if b = true then tk σ2 H3 fun y H4 => tv σ2 H4 fun z H5 => ∃ kvs k, y = kV k ∧ H5 D = some (.dK kvs) ∧ kvs.length < sizeLine ∧ Nx (upd H5 D (.dK (putK kvs k z))) else Nx H3) := by
  refine ⟨fun i m H => m = n - i ∧ i ≤ n ∧ Pv i H, ⟨n, by simp, Nat.zero_le _, h0⟩, ?_⟩
  rintro i m H ⟨rfl, hin, pv⟩
  have q := hG i H hin pv
  by_cases hlt : i < n
  · exact .inr ⟨w.goes i H hlt q, Pv (i + 1), fun H' pv' => ⟨n - (i + 1), by omega, rfl, hlt, pv'⟩, fun x H' y => hs i x H H' hlt pv (w.yields i H x H' hlt q y)⟩
  · obtain rfl : i = n := by omega
    exact .inl ⟨w.stops H q, hd H pv⟩
theorem sf_dc {wi : TI} {g : TG} {tt : TT} {tk tv : TE} {vs is : List Nat} {fi : DS → Res (List D)} {b : D → DS → Option DS} {t : DS → Res Bool} {ek ev : DS → Res D}
    (hi : ∀ B0 H0 δ σ B H (R : It → Hp → Prop), Rel K B0 H0 B H σ δ → PostI K B H σ W R (fi δ) → wi σ H R)
    (hg : ∀ B0 H0 B H σ δ v d (Q : L2.St → Hp → Prop), Rel K B0 H0 B H σ δ → Rp K B v d → (∀ δ' σ', b d δ = some δ' → Rel K B0 H0 B H σ' δ' → σ'.length = σ.length → (∀ j, j ∉ is → σ'[j]? = σ[j]?) → Q σ' H) → b d δ ≠ none → g v σ H Q)
    (ht : ST K W0 tt t) (hk : SE K W0 tk ek) (he : SE K W0 tv ev) (his : ∀ i ∈ is, i ∈ vs) :
    ∀ B0 H0 δ σ B H (Q : VK), Rel K B0 H0 B H σ δ → PostFD K B H σ W Q (cDc vs fi b t ek ev δ) → tDc wi g tt tk tv vs σ H Q := fun B0 H0 δ σ B H Q rel hp => by
  unfold cDc at hp
  refine hi B0 H0 δ σ B H _ rel ?_
  cases e1 : fi δ with
  | no => rw [e1] at hp; exact hp
  | er x => rw [e1] at hp; exact hp
  | ok ds =>
    rw [e1, Res.bind_ok] at hp
    intro J B1 H1 G Y g1 wk hG hY Dl hD
    cases e2 : dcF b t ek ev ds (wipeD δ vs) [] with
    | no => rw [e2] at hp; exact hp.elim
    | er x => exact absurd e2 (dcF_calm b t ek ev ds _ _ x)
    | ok fin =>
      rw [e2] at hp
      have relw := (rel.mono g1).wipe vs
      refine dc_it wk (fun i H' => ∃ B' us acc, Grow B1 H1 B' H' ∧ B' Dl = none ∧ H' Dl = some (.dK us) ∧ RpK K B' us acc ∧ dcF b t ek ev (ds.drop i) (wipeD δ vs) acc = .ok fin) ?_ ?_ ?_ ?_
      · exact ⟨B1, [], [], Grow.raw g1.i hD, g1.i.free hD, upd_same, .nil, by simpa using e2⟩
      · rintro i H' hin ⟨B', us, acc, gr, hb, hh, rk, hr⟩
        exact hG H' (gr.b.trans gr.i)
      · rintro i x H2 H3 hin ⟨B', us, acc, gr, hb, hh, rk, hr⟩ y
        have hlt : i < ds.length := hin
        obtain ⟨B3, g3, rx⟩ := hY i ds[i] B' H2 x H3 (by simp [hlt]) gr.b gr.i y
        rw [List.drop_eq_getElem_cons hlt] at hr
        unfold dcF at hr
        cases e3 : b ds[i] (wipeD δ vs) with
        | none => rw [e3] at hr; cases hr
        | some δ' =>
          rw [e3] at hr
          dsimp only at hr
          refine hg B0 H0 B3 H3 _ _ x ds[i] _ ((relw.mono gr).mono g3) rx (fun δ2 σ2 e4 rel4 l4 f4 => ?_) (by rw [e3]; simp)
          rw [e3] at e4
          cases e4
          refine ⟨?_, ?_⟩
          · refine (wipe_eq (σ := wipe σ vs) l4 fun j hj => f4 j fun z => hj (his j z)).trans (wipe_eq (wipe_length σ vs) fun j hj => ?_)
            rw [wipe_get, if_neg (fun z => hj z.1)]
          refine ht B0 H0 δ' σ2 B3 H3 _ rel4 ?_
          cases e5 : t δ' with
          | no => rw [e5] at hr; simp at hr
          | er x => rw [e5] at hr; simp at hr
          | ok c =>
            rw [e5, Res.calm_ok, Res.bind_ok] at hr
            intro B4 H4 g4
            cases c with
            | false =>
              rw [if_neg Bool.false_ne_true] at hr ⊢
              have g34 := g3.trans g4
              have hD4 := g34.h _ _ hh (fun _ z => by cases z)
              exact ⟨B4, us, acc, gr.trans g34, by rw [g34.f Dl (by rw [hh]; simp)]; exact hb, hD4, rk.mono g34.b, hr⟩
            | true =>
              rw [if_pos rfl] at hr ⊢
              refine hk B0 H0 δ' σ2 B4 H4 _ (rel4.mono g4) ?_
              cases e6 : ek δ' with
              | no => rw [e6] at hr; simp at hr
              | er x => rw [e6] at hr; simp at hr
              | ok yd =>
                rw [e6, Res.calm_ok, Res.bind_ok] at hr
                intro yv B5 H5 g5 r5
                refine he B0 H0 δ' σ2 B5 H5 _ ((rel4.mono g4).mono g5) ?_
                cases e7 : ev δ' with
                | no => rw [e7] at hr; simp at hr
                | er x => rw [e7] at hr; simp at hr
                | ok zd =>
                  rw [e7, Res.calm_ok, Res.bind_ok] at hr
                  intro zv B6 H6 g6 r6
                  cases e8 : asKey yd with
                  | none => rw [e8] at hr; cases hr
                  | some k =>
                  rw [e8] at hr
                  dsimp only at hr
                  split at hr
                  case isFalse => cases hr
                  case isTrue hz =>
                  have := asKey_of e8 r5
                  subst this
                  have gA := ((g3.trans g4).trans g5).trans g6
                  have hD6 := gA.h _ _ hh (fun _ z => by cases z)
                  have hB6 : B6 Dl = none := by rw [gA.f Dl (by rw [hh]; simp)]; exact hb
                  refine ⟨us, k, rfl, hD6, by rw [rk.length]; exact hz, ?_⟩
                  have gT := gr.trans gA
                  have neD : ∀ a o, B6 a = some o → a ≠ Dl := fun a o q z => by rw [z, hB6] at q; cases q
                  refine ⟨B6, _, putD acc k zd, ⟨gT.b, fun a o q nq => ?_, fun a o q => ?_, gT.f, fun a ha => ?_, fun P hP => tab_updG (gT.t P hP) hD6 (kind_dK _), gT.n⟩, hB6, upd_same, (rk.mono gA.b).put r6, hr⟩
                  · rw [upd_ne (ne_of_none q hD)]; exact gT.h a o q nq
                  · rw [upd_ne (neD a o q)]; exact gT.i a o q
                  · have : a ≠ Dl := fun z => ha (by rw [z]; exact hD)
                    rw [upd_ne this]; exact gT.e a ha
      · rintro H' ⟨B', us, acc, gr, hb, hh, rk, hr⟩
        rw [List.drop_length] at hr
        cases hr
        exact hp Dl us B' H' (g1.trans gr) (g1.free hD) hb hh rk
theorem cfd_1 {kx vx tg iter : Expr} {ifs : List Expr} {scope : Scope} {own : List (Str × Nat)} {pos : Pos} {wi : TI} {g : TG} {tt : TT} {tk tv : TE} {is : List Nat} {fi : DS → Res (List D)} {b : D → DS → Option DS} {t : DS → Res Bool} {ek ev : DS → Res D}
    (s0 : Shared) (hc : X.calm = true) (hN : X.N.Nodup) (hi : CI X W tg iter wi fi) (ok : BlkOk X.N X.env.scope scope own)
    (hg : ∀ (s : Shared) (H : Hp) (C : Addr) (cl : List (Str × Addr)) (fp : List Addr), CG (X.blk s H scope (compEnvC scope cl C X.env) fp) tg g is b)
    (ht : ∀ (s : Shared) (H : Hp) (C : Addr) (cl : List (Str × Addr)) (fp : List Addr), CTs (X.blk s H scope (compEnvC scope cl C X.env) fp) W0 ifs tt t)
    (hk : ∀ (s : Shared) (H : Hp) (C : Addr) (cl : List (Str × Addr)) (fp : List Addr), CE (X.blk s H scope (compEnvC scope cl C X.env) fp) W0 kx tk ek)
    (he : ∀ (s : Shared) (H : Hp) (C : Addr) (cl : List (Str × Addr)) (fp : List Addr), CE (X.blk s H scope (compEnvC scope cl C X.env) fp) W0 vx tv ev)
    (his : ∀ i ∈ is, i ∈ own.map (·.2) := by decide) (hs : ∀ x, foldedSetIterable iter X.env x = pure x := by intro _; rfl) :
    CFD X W (.DictComp kx vx [⟨tg, iter, ifs, 0⟩] scope pos) (tDc wi g tt tk tv (own.map (·.2))) (cDc (own.map (·.2)) fi b t ek ev) :=
  ⟨pe_dc hc hN hi.pi ok (fun s H C cl fp => (hg s H C cl fp).pg) (fun s H C cl fp => (ht s H C cl fp).pt) (fun s H C cl fp => (hk s H C cl fp).pe) (fun s H C cl fp => (he s H C cl fp).pe) hs,
    sf_dc hi.si (hg s0 (fun _ => none) 0 [] []).sg (ht s0 (fun _ => none) 0 [] []).st (hk s0 (fun _ => none) 0 [] []).se (he s0 (fun _ => none) 0 [] []).se his⟩
end
end DV
namespace DV
open PySem L2
section
variable {X : Cx} {W : WX} {K : PySem.W.Frag}
/-! ### sorted(xs), xs data that can be compared -/
def encD (d : D) : PyData := d.py.getD .none
def leD : D → D → Bool := PySem.W.dataLe false encD
def sortOk (ps : List PyData) : Bool := (ps.all fun p => ps.all fun q => PySem.W.alike p q) && (ps.all fun p => match p with
  | .tuple (_ :: _) => true
  | _ => false) && ps.all fun p => decide (p.depth ≤ 60)
def rSortD (K : PySem.W.Frag) : List V → Hp → VK → Prop := fun xs H Q => ∃ p ys ds B, xs = [.ref p] ∧ Same B H ∧ SqL K H p ys ∧ RpA K B ys ds ∧ (∃ ps, D.pyA ds = some ps ∧ sortOk ps = true) ∧ ∀ q zs, H q = none → RpA K B zs (ds.mergeSort leD) → Q (.ref q) (upd H q (.lst zs))
theorem pyA_map : ∀ {ds : List D} {ps : List PyData}, D.pyA ds = some ps → ps = ds.map encD ∧ ∀ d ∈ ds, d.py = some (encD d)
  | [], ps, h => by cases h; exact ⟨rfl, fun d hd => by cases hd⟩
  | d :: ds, ps, h => by
    unfold D.pyA at h
    cases q1 : d.py with
    | none => rw [q1] at h; cases h
    | some a =>
      cases q2 : D.pyA ds with
      | none => rw [q1, q2] at h; cases h
      | some as =>
        rw [q1, q2] at h
        cases h
        obtain ⟨i1, i2⟩ := pyA_map q2
        have e : encD d = a := by unfold encD; rw [q1]; rfl
        refine ⟨by rw [i1, List.map_cons, e], fun x hx => ?_⟩
        rcases List.mem_cons.mp hx with rfl | hx
        · rw [q1, e]
        · exact i2 x hx
theorem cr_sortD (hu : X.A.units + 64 < cLine) : CallR X (.builtin "sorted") (rSortD X.K) := by
  intro pins s σ H xs us Q I r h
  obtain ⟨p, ys, ds, B, rfl, i, hs, rp, ⟨ps, hps, hok⟩, q⟩ := h
  rw [Vals.ref1 r]
  obtain ⟨its, rv, hl, hz⟩ := I.list hs
  obtain ⟨rfl, hpy⟩ := pyA_map hps
  simp only [sortOk, Bool.and_eq_true, List.all_eq_true, decide_eq_true_eq] at hok
  obtain ⟨⟨h1, h2⟩, h3⟩ := hok
  have er : ∀ {ys : List V} {its : List Value} {ds : List D}, Vals ys its → RpA X.K B ys ds → (∀ d ∈ ds, d.py = some (encD d)) → PySem.W.EachIs (fun v d => ∃ as, Reads s.heap v (encD d) as) its ds ∧ PySem.W.EachIs (fun v d => ∃ x, RelV x v ∧ Rp X.K B x d) its ds := by
    intro ys
    induction ys with
    | nil => intro its ds rv rp _; cases rv; cases rp; exact ⟨.nil, .nil⟩
    | cons y ys ih =>
      intro its ds rv rp hp
      cases rv with
      | cons rv1 rv2 =>
        cases rp with
        | @cons _ _ d ds rp1 rp2 =>
          obtain ⟨a1, a2⟩ := ih rv2 rp2 fun d hd => hp d (by simp [hd])
          exact ⟨.cons (Dp.reads I _ _ _ (dp_mono i (dp_of rp1 (hp d (by simp)))) rv1) a1, .cons ⟨_, rv1, rp1⟩ a2⟩
  obtain ⟨e1, e2⟩ := er rv rp hpy
  have hlen : ds.length ≤ sizeLine := by rw [← rp.length]; exact hz
  refine PySem.W.sorted_data (bs := ds) (enc := encD) (R := fun v d => ∃ x, RelV x v ∧ Rp X.K B x d) hl.isList e2 e1 (fun d hd d' hd' => h1 d hd d' hd') (.inl fun d hd => ?_) hlen (fun d hd => ?_) fun out ho hout => ?_
  · have := h2 d hd
    split at this
    · exact ⟨_, _, rfl⟩
    · cases this
  · have := h3 (encD d) (List.mem_map.mpr ⟨d, hd, rfl⟩)
    omega
  · have back : ∀ {out : List Value} {ds : List D}, PySem.W.EachIs (fun v d => ∃ x, RelV x v ∧ Rp X.K B x d) out ds → ∃ zs, Vals zs out ∧ RpA X.K B zs ds := by
      intro out
      induction out with
      | nil => intro ds h; cases h; exact ⟨[], .nil, .nil⟩
      | cons v out ih =>
        intro ds h
        cases h with
        | cons a b =>
          obtain ⟨x, x1, x2⟩ := a
          obtain ⟨zs, z1, z2⟩ := ih b
          exact ⟨x :: zs, .cons x1 z1, .cons x2 z2⟩
    obtain ⟨zs, z1, z2⟩ := back hout
    obtain ⟨ep, he'⟩ := PyProof.Rows.sortedAll_at s.heap its (List.toArray out)
    have hzl : zs.length ≤ sizeLine := by rw [z1.length, ho]; exact hlen
    exact ⟨.ref _, upd H (s.heap.objs.size + 1) (.lst zs), I.laid (t' := s.toks) (fun _ _ => PyProof.Rows.sortedAll_old) (Nat.le_succ _) ⟨hzl, out, ep, z1, he'⟩, rfl, q _ zs (I.hok.fresh (Nat.le_succ _)) z2⟩
/-- sorted of ints, or of tuples that can be compared -/
def srtD (ds : List D) : Res (List D) := match intsD ds with
  | some ns => .ok ((sortI ns).map D.int)
  | none => match D.pyA ds with
    | some ps => if sortOk ps then .ok (ds.mergeSort leD) else .no
    | none => .no
def asL : D → Res (List D)
  | .lst ds => .ok ds
  | _ => .no
/-- sorted(xs): a new list -/
def cSrt (f : DS → Res D) : DS → Res (List D) := fun δ => (f δ).bind fun d => (asL d).bind srtD
theorem cf_sorted (K : PySem.W.Frag) (hK : X.K = K) (hu : X.A.units + 64 < cLine) {a : Expr} {p pos : Pos} {t : TE} {f : DS → Res D} (hm : X.mg "sorted" = none) (ha : CE X W a t f) (hg : Gl X "sorted" := by rfl) (hs : starEach [a] X.env = (false, eval a X.env) :: starEach [] X.env := by rfl) (hpl : (backTo pos (starEach [] X.env)).any (·.1) = false := by rfl) :
    CF X W (.Call (.Name "sorted" p) [a] [] pos) (tCB (fun xs H Q => rSortedI K xs H Q ∨ rSortD K xs H Q) (tCons t tNil)) (cSrt f) := by
  subst hK
  refine ⟨pe_callB (CallR.or cr_sortedI (cr_sortD hu)) hg hm (by decide +kernel) (pa_cons ha.pe pa_nil hs) (by decide) (by decide) hs hpl, fun B0 H0 δ σ B H Q rel hp => ?_⟩
  unfold cSrt at hp
  refine ha.se B0 H0 δ σ B H _ rel ?_
  cases e : f δ with
  | no => rw [e] at hp; exact hp
  | er x => rw [e] at hp; exact hp
  | ok d =>
    rw [e, Res.bind_ok] at hp
    intro v B1 H1 g1 r1
    unfold asL at hp
    split at hp
    · rw [Res.bind_ok] at hp
      unfold srtD at hp
      split at hp
      · rename_i ns e2
        cases r1 with
        | lst h1 q =>
          rw [intsD_of e2] at q
          have e3 := q.ints_of
          subst e3
          refine .inl ⟨_, ns, rfl, g1.i.seq h1, fun ms z pm sr hz => ?_⟩
          have : ms = sortI ns := sortI_unique pm sr
          subst this
          exact hp z _ B1 _ (g1.trans (Grow.raw g1.i hz)) (g1.free hz) (g1.i.free hz) upd_same (RpA.ints _)
      · split at hp
        · rename_i ps e2
          split at hp
          · rename_i hok
            cases r1 with
            | lst h1 q =>
              exact .inr ⟨_, _, _, B1, rfl, g1.i, g1.i.seq h1, q, ⟨ps, e2, hok⟩, fun z zs hz rz => hp z zs B1 _ (g1.trans (Grow.raw g1.i hz)) (g1.free hz) (g1.i.free hz) upd_same rz⟩
          · exact hp.elim
        · exact hp.elim
    · exact hp.elim
end
end DV
namespace DV
open PySem L2
section
variable {X : Cx} {W : WX} {K : PySem.W.Frag}
/-! ### comprehensions of two fors -/
def lc2F (vs1 : List Nat) (b : D → DS → Option DS) (t : DS → Res Bool) (fi1 : DS → Res (List D)) (b1 : D → DS → Option DS) (t1 : DS → Res Bool) (e : DS → Res D) : List D → DS → Res (List D)
  | [], _ => .ok []
  | d :: ds, δ => match b d δ with
    | none => .no
    | some δ' => (t δ').calm.bind fun k => if k = true then (fi1 δ').calm.bind fun ds1 => (lcF b1 t1 e ds1 (wipeD δ' vs1)).bind fun ys => (lc2F vs1 b t fi1 b1 t1 e ds δ).bind fun zs => .ok (ys ++ zs) else lc2F vs1 b t fi1 b1 t1 e ds δ
theorem lc2F_calm (vs1 : List Nat) (b : D → DS → Option DS) (t : DS → Res Bool) (fi1 : DS → Res (List D)) (b1 : D → DS → Option DS) (t1 : DS → Res Bool) (e : DS → Res D) : ∀ (ds : List D) (δ : DS) (x : Exn), lc2F vs1 b t fi1 b1 t1 e ds δ ≠ .er x
  | [], δ, x => by simp [lc2F]
  | d :: ds, δ, x => by
    unfold lc2F
    split
    · simp
    · rename_i δ' _
      have ih := lc2F_calm vs1 b t fi1 b1 t1 e ds δ x
      cases t δ' with
      | no => simp
      | er x => simp
      | ok k =>
        simp only [Res.calm_ok, Res.bind_ok]
        split
        · cases fi1 δ' with
          | no => simp
          | er x => simp
          | ok ds1 =>
            simp only [Res.calm_ok, Res.bind_ok]
            cases h2 : lcF b1 t1 e ds1 (wipeD δ' vs1) with
            | no => simp
            | er x => exact absurd h2 (lcF_calm _ _ _ _ _ _)
            | ok ys =>
              simp only [Res.bind_ok]
              cases h3 : lc2F vs1 b t fi1 b1 t1 e ds δ with
              | no => simp
              | er x' => simp only [Res.bind_er]; rw [h3] at ih; exact ih
              | ok zs => simp
        · exact ih
def cLc2 (vs vs1 : List Nat) (fi : DS → Res (List D)) (b : D → DS → Option DS) (t : DS → Res Bool) (fi1 : DS → Res (List D)) (b1 : D → DS → Option DS) (t1 : DS → Res Bool) (e : DS → Res D) : DS → Res (List D) := fun δ => (fi δ).bind fun ds => match lc2F vs1 b t fi1 b1 t1 e ds (wipeD δ vs) with
  | .ok ys => if ys.length ≤ sizeLine then .ok ys else .no
  | _ => .no
theorem lc2_in {J : It} {n : Nat} {G : Hp → Prop} {Y : Nat → Hp → V → Hp → Prop} (w : Walk J n G Y) {g : TG} {tt : TT} {te : TE} {vs : List Nat} {σ : L2.St} {H1 : Hp} {D : Addr} {Nx : Hp → Prop} (Pv : Nat → Hp → Prop) (h0 : Pv 0 H1) (hG : ∀ i H, i ≤ n → Pv i H → G H)
    (hs : ∀ i x H H', i < n → Pv i H → Y i H x H' → g x (wipe σ vs) H' fun σ3 H5 => wipe σ3 vs = wipe σ vs ∧ tt σ3 H5 fun b H6 => if b = true then te σ3 H6 fun y H7 => ∃ acc, H7 D = some (.lst acc) ∧ acc.length < sizeLine ∧ Pv (i + 1) (upd H7 D (.lst (acc ++ [y]))) else Pv (i + 1) H6) (hd : ∀ H, Pv n H → Nx H) :
    ∃ W1 : Nat → Nat → Hp → Prop, (∃ m, W1 0 m H1) ∧ ∀ j k H, W1 j k H → (J.stop j H ∧ Nx H) ∨ (J.go j H ∧ ∃ Nx1 : Hp → Prop, (∀ H', Nx1 H' → ∃ k', k' < k ∧ W1 (j + 1) k' H') ∧ ∀ x H', J.yld j H x H' → g x (wipe σ vs) H' fun σ3 H5 => wipe σ3 vs = wipe σ vs ∧ tt σ3 H5 fun b H6 =>
      if b = true then te σ3 H6 fun y H7 => ∃ acc, H7 D = some (.lst acc) ∧ acc.length < sizeLine ∧ Nx1 (upd H7 D (.lst (acc ++ [y]))) else Nx1 H6) := by
  refine ⟨fun i m H => m = n - i ∧ i ≤ n ∧ Pv i H, ⟨n, by simp, Nat.zero_le _, h0⟩, ?_⟩
  rintro i m H ⟨rfl, hin, pv⟩
  have q := hG i H hin pv
  by_cases hlt : i < n
  · exact .inr ⟨w.goes i H hlt q, Pv (i + 1), fun H' pv' => ⟨n - (i + 1), by omega, rfl, hlt, pv'⟩, fun x H' y => hs i x H H' hlt pv (w.yields i H x H' hlt q y)⟩
  · obtain rfl : i = n := by omega
    exact .inl ⟨w.stops H q, hd H pv⟩
theorem lc2_out {J : It} {n : Nat} {G : Hp → Prop} {Y : Nat → Hp → V → Hp → Prop} (w : Walk J n G Y) {R : V → Hp → (Hp → Prop) → Prop} {H1 : Hp} {Qd : Hp → Prop} (Pv : Nat → Hp → Prop) (h0 : Pv 0 H1) (hG : ∀ i H, i ≤ n → Pv i H → G H)
    (hs : ∀ i x H H', i < n → Pv i H → Y i H x H' → R x H' (Pv (i + 1))) (hd : ∀ H, Pv n H → Qd H) :
    ∃ M : Nat → Nat → Hp → Prop, (∃ m, M 0 m H1) ∧ ∀ i m H, M i m H → (J.stop i H ∧ Qd H) ∨ (J.go i H ∧ ∃ Nx : Hp → Prop, (∀ H', Nx H' → ∃ m', m' < m ∧ M (i + 1) m' H') ∧ ∀ x H', J.yld i H x H' → R x H' Nx) := by
  refine ⟨fun i m H => m = n - i ∧ i ≤ n ∧ Pv i H, ⟨n, by simp, Nat.zero_le _, h0⟩, ?_⟩
  rintro i m H ⟨rfl, hin, pv⟩
  have q := hG i H hin pv
  by_cases hlt : i < n
  · exact .inr ⟨w.goes i H hlt q, Pv (i + 1), fun H' pv' => ⟨n - (i + 1), by omega, rfl, hlt, pv'⟩, fun x H' y => hs i x H H' hlt pv (w.yields i H x H' hlt q y)⟩
  · obtain rfl : i = n := by omega
    exact .inl ⟨w.stops H q, hd H pv⟩
/-- an own list under way: what stands at D -/
structure Acc (K : PySem.W.Frag) (B1 H1 : Hp) (Dl : Addr) (us : List V) (done : List D) (B' H' : Hp) : Prop where
  g : Grow B1 H1 B' H'
  b : B' Dl = none
  h : H' Dl = some (.lst us)
  r : RpA K B' us done
theorem Acc.mono {B1 H1 B' H' B2 H2 : Hp} {Dl : Addr} {us : List V} {done : List D} (a : Acc K B1 H1 Dl us done B' H') (g : Grow B' H' B2 H2) : Acc K B1 H1 Dl us done B2 H2 :=
  ⟨a.g.trans g, by rw [g.f Dl (by rw [a.h]; simp)]; exact a.b, g.h _ _ a.h (fun _ z => by cases z), a.r.mono g.b⟩
theorem Acc.snoc {B1 H1 B' H' : Hp} {Dl : Addr} {done : List D} {us : List V} {v : V} {d : D} (hD : H1 Dl = none) (a : Acc K B1 H1 Dl us done B' H') (r : Rp K B' v d) : Acc K B1 H1 Dl (us ++ [v]) (done ++ [d]) B' (upd H' Dl (.lst (us ++ [v]))) := by
  have neD : ∀ c o, B' c = some o → c ≠ Dl := fun c o q z => by rw [z, a.b] at q; cases q
  refine ⟨⟨a.g.b, fun c o q nq => ?_, fun c o q => ?_, a.g.f, fun c hc => ?_, fun P hP => tab_upd (a.g.t P hP) a.h, a.g.n⟩, a.b, upd_same, a.r.append (.cons r .nil)⟩
  · rw [upd_ne (ne_of_none q hD)]; exact a.g.h c o q nq
  · rw [upd_ne (neD c o q)]; exact a.g.i c o q
  · have : c ≠ Dl := fun z => hc (by rw [z]; exact hD)
    rw [upd_ne this]; exact a.g.e c hc
theorem tab_less {H0 : Hp} {Dl P : Addr} {q : Nat → Nat → Str} {us : List V} (h0 : H0 Dl = none) (h : NdefX.TabN (upd H0 Dl (.lst us)) P q) : NdefX.TabN H0 P q := by
  obtain ⟨ps, h1, h2, h3⟩ := h
  have n1 : P ≠ Dl := fun z => by rw [z, upd_same] at h1; cases h1
  rw [upd_ne n1] at h1
  refine ⟨ps, h1, h2, fun pos cv hc => ?_⟩
  obtain ⟨c, e1, e2⟩ := h3 pos cv hc
  have n2 : c ≠ Dl := fun z => by rw [z, upd_same] at e2; unfold LamX.CodeO at e2; cases e2
  rw [upd_ne n2] at e2
  exact ⟨c, e1, e2⟩
theorem SR.base {H0 H0' B H H' : Hp} {v : V} {o : O} (h : SR K H0 B H v o) (h0 : ∀ p, H0 p = none → H p ≠ none → H0' p = none ∧ H' p = H p) : SR K H0' B H' v o := by
  cases o with
  | im d => exact h
  | ow ds =>
    obtain ⟨p, vs, rfl, a0, ab, ah, r⟩ := h
    obtain ⟨z1, z2⟩ := h0 p a0 (by rw [ah]; simp)
    exact ⟨p, vs, rfl, z1, ab, z2.trans ah, r⟩
  | od kvs =>
    obtain ⟨p, vs, rfl, a0, ab, ah, k, r⟩ := h
    obtain ⟨z1, z2⟩ := h0 p a0 (by rw [ah]; simp)
    exact ⟨p, vs, rfl, z1, ab, z2.trans ah, k, r⟩
  | tr k ts =>
    obtain ⟨m1, m2⟩ := RT.move (H' := H') (.nd k ts) v h.1 (Same.refl _) fun q hq => by
      obtain ⟨u, hu, _⟩ := RT.kind _ _ h.1 q hq
      exact (h0 q (h.2 q hq).1 (by rw [hu]; simp)).2
    refine ⟨m1, fun q hq => ?_⟩
    have hq' := (m2 q).mp hq
    obtain ⟨u, hu, _⟩ := RT.kind _ _ h.1 q hq'
    exact ⟨(h0 q (h.2 q hq').1 (by rw [hu]; simp)).1, (h.2 q hq').2⟩
theorem SR.baseF {H0 H0' B H H' : Hp} {v : V} {o : O} (h : SR K H0 B H v o) (h0 : ∀ p, H0 p = none → H p ≠ none → H0' p = none ∧ H' p = H p) : ∀ q, Ft K H' v q o → Ft K H v q o := by
  cases o with
  | im d => exact fun q z => z
  | ow ds => exact fun q z => z
  | od kvs => exact fun q z => z
  | tr k ts =>
    obtain ⟨m1, m2⟩ := RT.move (H' := H') (.nd k ts) v h.1 (Same.refl _) fun q hq => by
      obtain ⟨u, hu, _⟩ := RT.kind _ _ h.1 q hq
      exact (h0 q (h.2 q hq).1 (by rw [hu]; simp)).2
    exact fun q hq => (m2 q).mp hq
/-- the list at D as something that was there ahead -/
theorem Rel.put {B0 H0 B H : Hp} {σ : L2.St} {δ : DS} {Dl : Addr} {us us' : List V} (r : Rel K B0 (upd H0 Dl (.lst us)) B H σ δ) (h0 : H0 Dl = none) (hb : B Dl = none) (hh : H Dl = some (.lst us)) : Rel K B0 (upd H0 Dl (.lst us')) B (upd H Dl (.lst us')) σ δ := by
  have neD : ∀ c o, B c = some o → c ≠ Dl := fun c o q z => by rw [z, hb] at q; cases q
  refine ⟨⟨r.g.b, fun a o q nq => ?_, fun a o q => ?_, fun a ha => ?_, fun a ha => ?_, fun P hP => tab_upd (r.g.t P ((tab_less h0 hP).ext (same_new h0))) hh, r.g.n⟩, fun p hp => (tab_less h0 (r.tk p hp)).ext (same_new h0), r.nt, r.len, fun i o e => ?_, r.seps fun i o v e1 e2 => ?_⟩
  · by_cases ha : a = Dl
    · subst ha; rw [upd_same] at q ⊢; exact q
    · rw [upd_ne ha] at q ⊢; exact r.g.h a o (by rw [upd_ne ha]; exact q) nq
  · rw [upd_ne (neD a o q)]; exact r.g.i a o q
  · by_cases hz : a = Dl
    · exact r.g.f a (by rw [hz, upd_same]; simp)
    · exact r.g.f a (by rw [upd_ne hz] at ha ⊢; exact ha)
  · by_cases hz : a = Dl
    · rw [hz, upd_same]; simp
    · rw [upd_ne hz] at ha ⊢; exact r.g.e a (by rw [upd_ne hz]; exact ha)
  · obtain ⟨v, h1, h2⟩ := r.sl i o e
    refine ⟨v, h1, h2.base fun p hp _ => ?_⟩
    have np : p ≠ Dl := fun z => by rw [z, upd_same] at hp; cases hp
    rw [upd_ne np] at hp
    exact ⟨by rw [upd_ne np]; exact hp, upd_ne np⟩
  · obtain ⟨v', h1, h2⟩ := r.sl i o e1
    rw [e2] at h1
    cases h1
    refine h2.baseF (H0' := upd H0 Dl (.lst us')) fun p hp _ => ?_
    have np : p ≠ Dl := fun z => by rw [z, upd_same] at hp; cases hp
    rw [upd_ne np] at hp
    exact ⟨by rw [upd_ne np]; exact hp, upd_ne np⟩
theorem Rel.put0 {B0 H0 B H : Hp} {σ : L2.St} {δ : DS} {Dl : Addr} {us : List V} (r : Rel K B0 H0 B H σ δ) (hh : H Dl = none) : Rel K B0 (upd H0 Dl (.lst us)) B (upd H Dl (.lst us)) σ δ := by
  have h0 : H0 Dl = none := r.g.free hh
  have hb : B Dl = none := r.g.i.free hh
  have hb0 : B0 Dl = none := r.g.b.free hb
  have neD : ∀ c o, B c = some o → c ≠ Dl := fun c o q z => by rw [z, hb] at q; cases q
  refine ⟨⟨r.g.b, fun a o q nq => ?_, fun a o q => ?_, fun a ha => ?_, fun a ha => ?_, fun P hP => (r.g.t P (tab_less h0 hP)).ext (same_new hh), r.g.n⟩, fun p hp => (r.tk p hp).ext (same_new h0), r.nt, r.len, fun i o e => ?_, r.seps fun i o v e1 e2 => ?_⟩
  · by_cases ha : a = Dl
    · subst ha; rw [upd_same] at q ⊢; exact q
    · rw [upd_ne ha] at q ⊢; exact r.g.h a o q nq
  · rw [upd_ne (neD a o q)]; exact r.g.i a o q
  · by_cases hz : a = Dl
    · rw [hz, hb, hb0]
    · exact r.g.f a (by rw [upd_ne hz] at ha; exact ha)
  · by_cases hz : a = Dl
    · rw [hz, upd_same]; simp
    · rw [upd_ne hz] at ha ⊢; exact r.g.e a ha
  · obtain ⟨v, h1, h2⟩ := r.sl i o e
    refine ⟨v, h1, h2.base fun p hp hq => ?_⟩
    have np : p ≠ Dl := fun z => hq (by rw [z]; exact hh)
    exact ⟨by rw [upd_ne np]; exact hp, upd_ne np⟩
  · obtain ⟨v', h1, h2⟩ := r.sl i o e1
    rw [e2] at h1
    cases h1
    refine h2.baseF (H0' := upd H0 Dl (.lst us)) fun p hp hq => ?_
    have np : p ≠ Dl := fun z => hq (by rw [z]; exact hh)
    exact ⟨by rw [upd_ne np]; exact hp, upd_ne np⟩
theorem sf_lc2 {wi wi1 : TI} {g g1 : TG} {tt tt1 : TT} {te : TE} {vs vs1 is is1 : List Nat} {fi fi1 : DS → Res (List D)} {b b1 : D → DS → Option DS} {t t1 : DS → Res Bool} {e : DS → Res D}
    (hi : ∀ B0 H0 δ σ B H (R : It → Hp → Prop), Rel K B0 H0 B H σ δ → PostI K B H σ W R (fi δ) → wi σ H R)
    (hg : ∀ B0 H0 B H σ δ v d (Q : L2.St → Hp → Prop), Rel K B0 H0 B H σ δ → Rp K B v d → (∀ δ' σ', b d δ = some δ' → Rel K B0 H0 B H σ' δ' → σ'.length = σ.length → (∀ j, j ∉ is → σ'[j]? = σ[j]?) → Q σ' H) → b d δ ≠ none → g v σ H Q)
    (ht : ST K W0 tt t) (hi1 : ∀ B0 H0 δ σ B H (R : It → Hp → Prop), Rel K B0 H0 B H σ δ → PostI K B H σ W0 R (fi1 δ) → wi1 σ H R)
    (hg1 : ∀ B0 H0 B H σ δ v d (Q : L2.St → Hp → Prop), Rel K B0 H0 B H σ δ → Rp K B v d → (∀ δ' σ', b1 d δ = some δ' → Rel K B0 H0 B H σ' δ' → σ'.length = σ.length → (∀ j, j ∉ is1 → σ'[j]? = σ[j]?) → Q σ' H) → b1 d δ ≠ none → g1 v σ H Q)
    (ht1 : ST K W0 tt1 t1) (he : SE K W0 te e) (his : ∀ i ∈ is, i ∈ vs) (his1 : ∀ i ∈ is1, i ∈ vs1) : SF K W (tLc2 wi g tt wi1 g1 tt1 te vs vs1) (cLc2 vs vs1 fi b t fi1 b1 t1 e) := fun B0 H0 δ σ B H Q rel hp => by
  unfold cLc2 at hp
  refine hi B0 H0 δ σ B H _ rel ?_
  cases e1 : fi δ with
  | no => rw [e1] at hp; exact hp
  | er x => rw [e1] at hp; exact hp
  | ok ds =>
    rw [e1, Res.bind_ok] at hp
    intro J B1 H1 G Y gg1 wk hG hY Dl hD
    cases e2 : lc2F vs1 b t fi1 b1 t1 e ds (wipeD δ vs) with
    | no => rw [e2] at hp; exact hp.elim
    | er x => rw [e2] at hp; exact hp.elim
    | ok ys =>
      rw [e2] at hp
      dsimp only at hp
      split at hp
      case isFalse => exact hp.elim
      case isTrue hz =>
      have h0D : H0 Dl = none := rel.g.free (gg1.free hD)
      have relw := (rel.mono gg1).wipe vs
      refine lc2_out wk (R := fun x H' Nx => g x (wipe σ vs) H' fun σ2 H2 => wipe σ2 vs = wipe σ vs ∧ tt σ2 H2 fun b H3 => if b = true then wi1 σ2 H3 fun J1 H4 => ∃ W1 : Nat → Nat → Hp → Prop, (∃ m, W1 0 m H4) ∧ ∀ j k H, W1 j k H →
          (J1.stop j H ∧ Nx H) ∨ (J1.go j H ∧ ∃ Nx1 : Hp → Prop, (∀ H', Nx1 H' → ∃ k', k' < k ∧ W1 (j + 1) k' H') ∧ ∀ x H', J1.yld j H x H' → g1 x (wipe σ2 vs1) H' fun σ3 H5 => wipe σ3 vs1 = wipe σ2 vs1 ∧ tt1 σ3 H5 fun b H6 =>
            if b = true then te σ3 H6 fun y H7 => ∃ acc, H7 Dl = some (.lst acc) ∧ acc.length < sizeLine ∧ Nx1 (upd H7 Dl (.lst (acc ++ [y]))) else Nx1 H6) else Nx H3)
        (fun i H' => ∃ B' us done rest, Acc K B1 H1 Dl us done B' H' ∧ Rel K B0 (upd H0 Dl (.lst us)) B' H' (wipe σ vs) (wipeD δ vs) ∧ lc2F vs1 b t fi1 b1 t1 e (ds.drop i) (wipeD δ vs) = .ok rest ∧ done ++ rest = ys) ?_ ?_ ?_ ?_
      · exact ⟨B1, [], [], ys, ⟨Grow.raw gg1.i hD, gg1.i.free hD, upd_same, .nil⟩, relw.put0 hD, by simpa using e2, rfl⟩
      · rintro i H' hin ⟨B', us, done, rest, ac, rl, hr, hy⟩
        exact hG H' (ac.g.b.trans ac.g.i)
      · rintro i x H2 H3 hin ⟨B', us, done, rest, ac, rl, hr, hy⟩ y
        have hlt : i < ds.length := hin
        obtain ⟨B3, g3, rx⟩ := hY i ds[i] B' H2 x H3 (by simp [hlt]) ac.g.b ac.g.i y
        rw [List.drop_eq_getElem_cons hlt] at hr
        unfold lc2F at hr
        cases e3 : b ds[i] (wipeD δ vs) with
        | none => rw [e3] at hr; cases hr
        | some δ' =>
          rw [e3] at hr
          dsimp only at hr
          refine hg B0 _ B3 H3 _ _ x ds[i] _ (rl.mono g3) rx (fun δ2 σ2 e4 rel4 l4 f4 => ?_) (by rw [e3]; simp)
          rw [e3] at e4
          cases e4
          refine ⟨?_, ?_⟩
          · refine (wipe_eq (σ := wipe σ vs) l4 fun j hj => f4 j fun z => hj (his j z)).trans (wipe_eq (wipe_length σ vs) fun j hj => ?_)
            rw [wipe_get, if_neg (fun z => hj z.1)]
          refine ht B0 _ δ' σ2 B3 H3 _ rel4 ?_
          cases e5 : t δ' with
          | no => rw [e5] at hr; simp at hr
          | er x => rw [e5] at hr; simp at hr
          | ok k =>
            rw [e5, Res.calm_ok, Res.bind_ok] at hr
            intro B4 H4 g4
            have g34 := g3.trans g4
            cases k with
            | false =>
              rw [if_neg Bool.false_ne_true] at hr ⊢
              exact ⟨B4, us, done, rest, ac.mono g34, rl.mono g34, hr, hy⟩
            | true =>
              rw [if_pos rfl] at hr ⊢
              refine hi1 B0 _ δ' σ2 B4 H4 _ (rel4.mono g4) ?_
              cases e6 : fi1 δ' with
              | no => rw [e6] at hr; simp at hr
              | er x => rw [e6] at hr; simp at hr
              | ok ds1 =>
                rw [e6, Res.calm_ok, Res.bind_ok] at hr
                intro J1 B5 H5 G1 Y1 g5 wk1 hG1 hY1
                cases e7 : lcF b1 t1 e ds1 (wipeD δ' vs1) with
                | no => rw [e7] at hr; cases hr
                | er x => exact absurd e7 (lcF_calm _ _ _ _ _ _)
                | ok ys1 =>
                rw [e7, Res.bind_ok] at hr
                cases e8 : lc2F vs1 b t fi1 b1 t1 e (ds.drop (i + 1)) (wipeD δ vs) with
                | no => rw [e8] at hr; cases hr
                | er x => exact absurd e8 (lc2F_calm _ _ _ _ _ _ _ _ _ _)
                | ok zs =>
                rw [e8, Res.bind_ok] at hr
                cases hr
                refine lc2_in wk1 (fun j Hj => ∃ Bj uj dn rs, Acc K B1 H1 Dl uj (done ++ dn) Bj Hj ∧ Same B5 Bj ∧ Rel K B0 (upd H0 Dl (.lst uj)) Bj Hj (wipe σ2 vs1) (wipeD δ' vs1) ∧ Rel K B0 (upd H0 Dl (.lst uj)) Bj Hj (wipe σ vs) (wipeD δ vs) ∧ lcF b1 t1 e (ds1.drop j) (wipeD δ' vs1) = .ok rs ∧ dn ++ rs = ys1) ?_ ?_ ?_ ?_
                · exact ⟨B5, us, [], ys1, by simpa using (ac.mono g34).mono g5, Same.refl _, ((rel4.mono g4).mono g5).wipe vs1, (rl.mono g34).mono g5, by simpa using e7, rfl⟩
                · rintro j Hj hj ⟨Bj, uj, dn, rs, acj, sj, r1, r2, hrj, hyj⟩
                  exact hG1 Hj (sj.trans acj.g.i)
                · rintro j xj Hj Hk hj ⟨Bj, uj, dn, rs, acj, sj, r1, r2, hrj, hyj⟩ yj
                  have hltj : j < ds1.length := hj
                  obtain ⟨Bk, gk, rxj⟩ := hY1 j ds1[j] Bj Hj xj Hk (by simp [hltj]) sj acj.g.i yj
                  rw [List.drop_eq_getElem_cons hltj] at hrj
                  unfold lcF at hrj
                  cases f3 : b1 ds1[j] (wipeD δ' vs1) with
                  | none => rw [f3] at hrj; cases hrj
                  | some δ3 =>
                    rw [f3] at hrj
                    dsimp only at hrj
                    refine hg1 B0 _ Bk Hk _ _ xj ds1[j] _ (r1.mono gk) rxj (fun δ4 σ4 k4 rel6 l6 f6 => ?_) (by rw [f3]; simp)
                    rw [f3] at k4
                    cases k4
                    refine ⟨?_, ?_⟩
                    · refine (wipe_eq (σ := wipe σ2 vs1) l6 fun c hc => f6 c fun z => hc (his1 c z)).trans (wipe_eq (wipe_length σ2 vs1) fun c hc => ?_)
                      rw [wipe_get, if_neg (fun z => hc z.1)]
                    refine ht1 B0 _ δ3 σ4 Bk Hk _ rel6 ?_
                    cases f5 : t1 δ3 with
                    | no => rw [f5] at hrj; simp at hrj
                    | er x => rw [f5] at hrj; simp at hrj
                    | ok k1 =>
                      rw [f5, Res.calm_ok, Res.bind_ok] at hrj
                      intro Bl Hl gl
                      have gkl := gk.trans gl
                      cases k1 with
                      | false =>
                        rw [if_neg Bool.false_ne_true] at hrj ⊢
                        exact ⟨Bl, uj, dn, rs, acj.mono gkl, sj.trans gkl.b, r1.mono gkl, r2.mono gkl, hrj, hyj⟩
                      | true =>
                        rw [if_pos rfl] at hrj ⊢
                        refine he B0 _ δ3 σ4 Bl Hl _ (rel6.mono gl) ?_
                        cases f7 : e δ3 with
                        | no => rw [f7] at hrj; simp at hrj
                        | er x => rw [f7] at hrj; simp at hrj
                        | ok yd =>
                          rw [f7, Res.calm_ok, Res.bind_ok] at hrj
                          intro yv Bm Hm gm rm
                          have gkm := gkl.trans gm
                          cases f8 : lcF b1 t1 e (ds1.drop (j + 1)) (wipeD δ' vs1) with
                          | no => rw [f8] at hrj; cases hrj
                          | er x => exact absurd f8 (lcF_calm _ _ _ _ _ _)
                          | ok rs' =>
                          rw [f8, Res.bind_ok] at hrj
                          cases hrj
                          have acm := acj.mono gkm
                          have hlen : uj.length < sizeLine := by
                            have l1 := acm.r.length
                            rw [← hy, ← hyj] at hz
                            simp at hz
                            simp at l1
                            omega
                          refine ⟨uj, acm.h, hlen, Bm, uj ++ [yv], dn ++ [yd], rs', ?_, sj.trans gkm.b, (r1.mono gkm).put h0D acm.b acm.h, (r2.mono gkm).put h0D acm.b acm.h, rfl, by simpa using hyj⟩
                          have := acm.snoc hD rm
                          simpa using this
                · rintro Hj ⟨Bj, uj, dn, rs, acj, sj, r1, r2, hrj, hyj⟩
                  rw [List.drop_length] at hrj
                  cases hrj
                  rw [List.append_nil] at hyj
                  subst hyj
                  exact ⟨Bj, uj, done ++ dn, zs, acj, r2, rfl, by simpa using hy⟩
      · rintro H' ⟨B', us, done, rest, ac, rl, hr, hy⟩
        rw [List.drop_length] at hr
        cases hr
        rw [List.append_nil] at hy
        subst hy
        exact hp Dl us B' H' (gg1.trans ac.g) (gg1.free hD) ac.b ac.h ac.r
/-- [elt for .. for ..] -/
theorem lc_2 {elt tg iter tg1 iter1 : Expr} {ifs ifs1 : List Expr} {scope : Scope} {own : List (Str × Nat)} {vs1 : List Nat} {pos : Pos} {wi wi1 : TI} {g g1 : TG} {tt tt1 : TT} {te : TE} {is is1 : List Nat} {fi fi1 : DS → Res (List D)} {b b1 : D → DS → Option DS} {t t1 : DS → Res Bool} {e : DS → Res D}
    (s0 : Shared) (hc : X.calm = true) (hN : X.N.Nodup) (hi : CI X W tg iter wi fi) (ok : BlkOk X.N X.env.scope scope own)
    (hg : ∀ (s : Shared) (H : Hp) (C : Addr) (cl : List (Str × Addr)) (fp : List Addr), CG (X.blk s H scope (compEnvC scope cl C X.env) fp) tg g is b)
    (ht : ∀ (s : Shared) (H : Hp) (C : Addr) (cl : List (Str × Addr)) (fp : List Addr), CTs (X.blk s H scope (compEnvC scope cl C X.env) fp) W0 ifs tt t)
    (hi1 : ∀ (s : Shared) (H : Hp) (C : Addr) (cl : List (Str × Addr)) (fp : List Addr), CI (X.blk s H scope (compEnvC scope cl C X.env) fp) W0 tg1 iter1 wi1 fi1)
    (hg1 : ∀ (s : Shared) (H : Hp) (C : Addr) (cl : List (Str × Addr)) (fp : List Addr), CG (X.blk s H scope (compEnvC scope cl C X.env) fp) tg1 g1 is1 b1)
    (ht1 : ∀ (s : Shared) (H : Hp) (C : Addr) (cl : List (Str × Addr)) (fp : List Addr), CTs (X.blk s H scope (compEnvC scope cl C X.env) fp) W0 ifs1 tt1 t1)
    (he : ∀ (s : Shared) (H : Hp) (C : Addr) (cl : List (Str × Addr)) (fp : List Addr), CE (X.blk s H scope (compEnvC scope cl C X.env) fp) W0 elt te e)
    (his : ∀ i ∈ is, i ∈ own.map (·.2) := by decide) (his1 : ∀ i ∈ is1, i ∈ vs1 := by decide) (hv : ∀ i ∈ vs1, i ∈ own.map (·.2) := by decide) (hs : ∀ x, foldedSetIterable iter X.env x = pure x := by intro _; rfl) (hs1 : ∀ env x, foldedSetIterable iter1 env x = pure x := by intro _ _; rfl) :
    LC X W (.ListComp elt [⟨tg, iter, ifs, 0⟩, ⟨tg1, iter1, ifs1, 0⟩] scope pos) (tLc2 wi g tt wi1 g1 tt1 te (own.map (·.2)) vs1) (cLc2 (own.map (·.2)) vs1 fi b t fi1 b1 t1 e) :=
  ⟨⟨pe_lc2 hc hN hi.pi ok hv (fun s H C cl fp => (hg s H C cl fp).pg) (fun s H C cl fp => (ht s H C cl fp).pt) (fun s H C cl fp => (hi1 s H C cl fp).pi) (fun s H C cl fp => (hg1 s H C cl fp).pg) (fun s H C cl fp => (ht1 s H C cl fp).pt) (fun s H C cl fp => (he s H C cl fp).pe) hs hs1,
    sf_lc2 hi.si (hg s0 (fun _ => none) 0 [] []).sg (ht s0 (fun _ => none) 0 [] []).st (hi1 s0 (fun _ => none) 0 [] []).si (hg1 s0 (fun _ => none) 0 [] []).sg (ht1 s0 (fun _ => none) 0 [] []).st (he s0 (fun _ => none) 0 [] []).se his his1⟩,
   fun i y py spos hy hyl hsw => ps_setLc2 hc hN hy hyl hsw hi.pi ok hv (fun s H C cl fp => (hg s H C cl fp).pg) (fun s H C cl fp => (ht s H C cl fp).pt) (fun s H C cl fp => (hi1 s H C cl fp).pi) (fun s H C cl fp => (hg1 s H C cl fp).pg) (fun s H C cl fp => (ht1 s H C cl fp).pt) (fun s H C cl fp => (he s H C cl fp).pe) hs hs1⟩
end
end DV
namespace DV
open PySem L2
section
variable {X : Cx} {W : WX} {K : PySem.W.Frag}
/-! ### x in xs, of data -/
def rInA (K : PySem.W.Frag) (neg : Bool) : R2 := fun x y H Q => rIn K neg x y H Q ∨ if neg then rNotInD K x y H Q else rInD K x y H Q
def oInA (neg : Bool) (d e : D) : Res D := match oIn neg d e with
  | .no => match d.py, e with
    | some p, .lst es => match D.pyA es with
      | some ps => if SeqAt.shaped p = true ∧ SeqAt.shaped (.list ps) = true then .ok (.bl (if neg then !(ps.any fun z => PyData.eqv z p) else ps.any fun z => PyData.eqv z p)) else .no
      | none => .no
    | _, _ => .no
  | r => r
theorem ro_inA {n : Bool} : RO K (rInA K n) (oInA n) := fun x y d e B H Q i rx ry h => by
  unfold oInA at h
  cases e0 : oIn n d e with
  | ok z => rw [e0] at h; exact .inl (ro_in x y d e B H Q i rx ry (by rw [e0]; exact h))
  | er z => rw [e0] at h; exact h.elim
  | no =>
    rw [e0] at h
    dsimp only at h
    refine .inr ?_
    cases e1 : d.py with
    | none => rw [e1] at h; exact h.elim
    | some p =>
      rw [e1] at h
      cases e with
      | lst es =>
        dsimp only at h
        cases e2 : D.pyA es with
        | none => rw [e2] at h; exact h.elim
        | some ps =>
          rw [e2] at h
          dsimp only at h
          split at h
          · rename_i hs
            have d1 := dp_mono i (dp_of rx e1)
            have d2 : Dp K H y (.list ps) := dp_mono i (dp_of ry (by unfold D.py; rw [e2]; rfl))
            cases n with
            | true => exact ⟨p, ps, d1, d2, hs.1, hs.2, h _ B H (Grow.refl i) (.v _)⟩
            | false => exact ⟨p, ps, d1, d2, hs.1, hs.2, h _ B H (Grow.refl i) (.v _)⟩
          · exact h.elim
      | _ => exact h.elim
theorem cm_inA {n : Bool} : Calm2 (oInA n) := fun d e x => by
  unfold oInA
  split
  · split
    · split
      · split <;> simp
      · simp
    · simp
  · exact cm_in d e x
theorem o_inA (K : PySem.W.Frag) (hK : X.K = K) (hu : X.A.units + 65 < cLine) : OK2 X (compareOp .In) (rInA K false) (oInA false) := by
  subst hK
  exact ⟨OpR.or (o_in X.K rfl).o (op_inD hu), ro_inA, cm_inA⟩
theorem o_notinA (K : PySem.W.Frag) (hK : X.K = K) (hu : X.A.units + 65 < cLine) : OK2 X (compareOp .NotIn) (rInA K true) (oInA true) := by
  subst hK
  exact ⟨OpR.or (o_notin X.K rfl).o (op_notInD hu), ro_inA, cm_inA⟩
/-! ### xs.index(y), flat items -/
def findV (y : V) : List V → Option Nat
  | [] => none
  | x :: xs => if eqV x y then some 0 else (findV y xs).map (· + 1)
theorem findV_of {y : V} : ∀ {xs : List V} {j : Nat}, findV y xs = some j → (∃ z, xs[j]? = some z ∧ eqV z y = true) ∧ ∀ (m : Nat) (z' : V), m < j → xs[m]? = some z' → eqV z' y = false
  | [], j, h => by cases h
  | x :: xs, j, h => by
    unfold findV at h
    split at h
    · rename_i hx
      cases h
      exact ⟨⟨x, rfl, hx⟩, fun m z hm => absurd hm (Nat.not_lt_zero _)⟩
    · rename_i hx
      cases e : findV y xs with
      | none => rw [e] at h; cases h
      | some k =>
        rw [e] at h
        cases h
        obtain ⟨⟨z, h1, h2⟩, h3⟩ := findV_of e
        refine ⟨⟨z, by simpa using h1, h2⟩, fun m z' hm hz => ?_⟩
        cases m with
        | zero => simp at hz; subst hz; simpa using hx
        | succ m => exact h3 m z' (Nat.lt_of_succ_lt_succ hm) (by simpa using hz)
def oIndex (d e : D) : Res D := match d with
  | .lst ds => match flatsD ds, flatD e with
    | some xs, some y => match findV y xs with
      | some j => .ok (.int (j : Nat))
      | none => .no
    | _, _ => .no
  | _ => .no
def cIndex (fo fe : DS → Res D) : DS → Res D := fun δ => (fo δ).bind fun x => (fe δ).calm.bind fun y => oIndex x y
theorem ce_index (K : PySem.W.Frag) (hK : X.K = K) {o e : Expr} {to te : TE} {fo fe : DS → Res D} {apos cpos : Pos} (ho : CE X W o to fo) (he : CE X W e te fe)
    (hbase : attributeBase o "index" X.env (eval o X.env) = eval o X.env := by rfl)
    (hfew : ((backTo cpos (starEach [e] X.env)).all (fun x => !x.1) && (backToKw cpos (keywordEach [] X.env)).all (fun x => x.1.isSome) && decide ([e].length + ([] : List Keyword).length + (if ([] : List Keyword).isEmpty then 0 else 1) < 30)) = true := by rfl)
    (hline : (apos.endLine == cpos.line) = true := by rfl) (hst : starEach [e] X.env = (false, eval e X.env) :: starEach [] X.env := by rfl) (hplain : (backTo cpos (starEach [] X.env)).any (·.1) = false := by rfl) :
    CE X W (.Call (.Attribute o "index" apos) [e] [] cpos) (tBM K "list" (rIndex K) to (tCons te tNil)) (cIndex fo fe) := by
  subst hK
  refine ⟨pe_bm PySem.F.plainAttrs_list PySem.F.slot_list_index PySem.F.type_list_index mt_index ho.pe (pa_cons he.pe pa_nil hst) hbase hfew hline hst hplain, fun B0 H0 δ σ B H Q rel hp => ?_⟩
  unfold cIndex at hp
  refine ho.se B0 H0 δ σ B H _ rel ?_
  cases e1 : fo δ with
  | no => rw [e1] at hp; exact hp
  | er x => rw [e1] at hp; exact hp
  | ok d =>
    rw [e1, Res.bind_ok] at hp
    intro v B1 H1 g1 r1
    cases e2 : fe δ with
    | no => rw [e2] at hp; exact hp.elim
    | er x => rw [e2] at hp; exact hp.elim
    | ok d2 =>
      rw [e2, Res.calm_ok, Res.bind_ok] at hp
      unfold oIndex at hp
      split at hp
      · split at hp
        · rename_i ds xs y e3 e4
          split at hp
          · rename_i j e5
            cases r1 with
            | lst h1 q =>
              obtain ⟨rfl, hfl⟩ := flatsD_of q e3
              refine ⟨.inl ⟨rfl, _, g1.i.seq h1⟩, he.se B0 H0 δ σ B1 H1 _ (rel.mono g1) ?_⟩
              rw [e2]
              intro u B2 H2 g2 r2
              obtain ⟨rfl, hfy⟩ := flatD_of r2 e4
              obtain ⟨⟨z, h2, h3⟩, h4⟩ := findV_of e5
              exact ⟨_, _, _, j, z, rfl, rfl, (g1.trans g2).i.seq (g2.b.seq h1), hfy, hfl, h2, h3, h4, hp _ B2 H2 (g1.trans g2) (.v _)⟩
          · exact hp.elim
        · exact hp.elim
      · exact hp.elim
/-! ### an own list is looked at: what comes has no lists -/
mutual
def D.noLst : D → Bool
  | .v _ => true
  | .tup xs => D.noLstA xs
  | _ => false
def D.noLstA : List D → Bool
  | [] => true
  | x :: xs => x.noLst && D.noLstA xs
end
def noLstR : Res D → Res D
  | .ok d => if d.noLst then .ok d else .no
  | _ => .no
def fzL (i : Nat) (δ : DS) : DS := match δ[i]? with
  | some (some (.ow ds)) => δ.set i (some (.im (.lst ds)))
  | _ => δ
def cLookL (i : Nat) (f : DS → Res D) : DS → Res D := fun δ => noLstR (f (fzL i δ))
mutual
theorem Rp.tups {B B' : Hp} (hb : ∀ a xs, (B a = some (.tup xs) ∨ ∃ o, B a = some (.frz o (.tup xs))) → B' a = B a) : ∀ {v : V} {d : D}, Rp K B v d → d.noLst = true → Rp K B' v d
  | _, _, .v x, _ => .v x
  | _, _, .lst _ _, hd => by cases hd
  | _, _, .tup h r, hd => by
    rw [D.noLst] at hd
    refine .tup ?_ (RpA.tups hb r hd)
    rcases h with (h | ⟨o, h⟩) | h
    · exact .inl (.inl (by rw [hb _ _ (.inl h)]; exact h))
    · exact .inl (.inr ⟨o, by rw [hb _ _ (.inr ⟨o, h⟩)]; exact h⟩)
    · exact .inr h
  | _, _, .dct _ _, hd => by cases hd
  | _, _, .dlk _ _, hd => by cases hd
  | _, _, .dcT _ _, hd => by cases hd
  | _, _, .dlT _ _, hd => by cases hd
  | _, _, .ins _ _ _ _, hd => by cases hd
theorem RpA.tups {B B' : Hp} (hb : ∀ a xs, (B a = some (.tup xs) ∨ ∃ o, B a = some (.frz o (.tup xs))) → B' a = B a) : ∀ {vs : List V} {ds : List D}, RpA K B vs ds → D.noLstA ds = true → RpA K B' vs ds
  | _, _, .nil, _ => .nil
  | _, _, .cons h r, hd => by
    rw [D.noLstA, Bool.and_eq_true] at hd
    exact .cons (Rp.tups hb h hd.1) (RpA.tups hb r hd.2)
end
theorem se_lookL (i : Nat) {t : TE} {f : DS → Res D} (h : SE K W t f) : SE K W t (cLookL i f) := fun B0 H0 δ σ B H Q rel hp => by
  unfold cLookL at hp
  by_cases hk : ∃ ds, δ[i]? = some (some (.ow ds))
  · obtain ⟨ds, ei⟩ := hk
    have hfz : fzL i δ = δ.set i (some (.im (.lst ds))) := by unfold fzL; rw [ei]
    obtain ⟨v, h1, p, vs, rfl, h0, hb, hh, q⟩ := rel.sl i _ ei
    obtain ⟨sb, rel2⟩ := rel.freezeG (ho := .lst vs) (d := .lst ds) ei rfl h1 (upd_self hh).symm (fun _ z => by cases z) (.lst (SqL.of upd_same) (RpA.mono (same_new hb) q))
    rw [hfz] at hp
    refine h B0 H0 _ σ _ H Q rel2 ?_
    cases e : f (δ.set i (some (.im (.lst ds)))) with
    | no => rw [e] at hp; exact hp.elim
    | er x => rw [e] at hp; exact hp.elim
    | ok d =>
      rw [e] at hp
      unfold noLstR at hp
      dsimp only at hp
      split at hp
      · rename_i hd
        intro w B2 H2 g rp
        have bp2 : B2 p = some (.lst vs) := g.b p _ upd_same
        refine hp w (fun a => if a = p then none else B2 a) H2 ⟨fun a o q => ?_, g.h, fun a o q => ?_, fun a ha => ?_, g.e, g.t, fun _ a ps z => ?_⟩ (rp.tups (fun a xs hx => ?_) hd)
        · have ne : a ≠ p := fun z => by rw [z, hb] at q; cases q
          show (if a = p then none else B2 a) = some o
          rw [if_neg ne]
          exact g.b a o (by rw [upd_ne ne]; exact q)
        · have q' : (if a = p then none else B2 a) = some o := q
          split at q'
          · cases q'
          · exact g.i a o q'
        · show (if a = p then none else B2 a) = B a
          by_cases ne : a = p
          · rw [if_pos ne, ne, hb]
          · rw [if_neg ne, g.f a ha, upd_ne ne]
        · have z' : (if a = p then none else B2 a) = some (.tbl ps) := z
          split at z'
          · cases z'
          · exact g.n ((rel.g.n rel.nt).upd (fun _ z => by cases z)) a ps z'
        · have : a ≠ p := fun z => by
            rw [z, bp2] at hx
            rcases hx with hx | ⟨o, hx⟩ <;> cases hx
          show (if a = p then none else B2 a) = B2 a
          rw [if_neg this]
      · exact hp.elim
  · have hfz : fzL i δ = δ := by
      unfold fzL
      split
      · rename_i ds e; exact absurd ⟨ds, e⟩ hk
      · rfl
    rw [hfz] at hp
    refine h B0 H0 δ σ B H Q rel ?_
    cases e : f δ with
    | no => rw [e] at hp; exact hp.elim
    | er x => rw [e] at hp; exact hp.elim
    | ok d =>
      rw [e] at hp
      unfold noLstR at hp
      dsimp only at hp
      split at hp
      · exact hp
      · exact hp.elim
theorem ce_lookL (i : Nat) {e : Expr} {t : TE} {f : DS → Res D} (h : CE X W e t f) : CE X W e t (cLookL i f) := ⟨h.pe, se_lookL i h.se⟩
/-! ### min(d), len(d), d == {} -/
def intKeys : List (Key × D) → Option (List Int)
  | [] => some []
  | (.inl i, _) :: r => (intKeys r).map (i :: ·)
  | _ => none
theorem intKeys_of : ∀ {kvs : List (Key × D)} {is : List Int}, intKeys kvs = some is → kvs.map (·.1) = is.map Sum.inl
  | [], is, h => by cases h; rfl
  | (.inl i, d) :: r, is, h => by
    unfold intKeys at h
    cases q : intKeys r with
    | none => rw [q] at h; cases h
    | some js => rw [q] at h; cases h; simp [intKeys_of q]
  | (.inr x, d) :: r, is, h => by cases h
def gMinD : List D → Res D
  | [.dct ks vs] => match backK ks vs with
    | some kvs => match intKeys kvs with
      | some (i :: is) => .ok (.int (minI i is))
      | _ => .no
    | none => .no
  | _ => .no
/-- a dict that is not locked -/
theorem k_minD (hc : X.calm = true := by rfl) : OKC X (.builtin "min") (fun xs H Q => rMinK xs H Q) gMinD := ⟨cr_minK hc, fun vs ds B H Q i r h => by
  unfold gMinD at h
  split at h
  · split at h
    · rename_i ks vs' kvs e1
      split at h
      · rename_i j is e2
        cases r with
        | cons r1 r2 =>
          cases r2
          obtain ⟨p, us, kvs', rfl, hr, q, rfl, rfl⟩ := r1.dctK
          rw [backK_of] at e1
          cases e1
          refine ⟨p, us, j :: is, rfl, i _ _ hr, by rw [q.keys]; exact intKeys_of e2, by simp, fun m hm hl => ?_⟩
          have : m = minI j is := by
            obtain ⟨m1, m2⟩ := minI_spec is j
            have := m2 m hm
            have := hl _ m1
            omega
          subst this
          exact h _ B H (Grow.refl i) (.v _)
      · exact h.elim
    · exact h.elim
  · exact h.elim, fun ds x => by
  unfold gMinD
  split
  · split
    · split <;> simp
    · simp
  · simp⟩
end
end DV
namespace DV
open PySem L2
section
variable {X : Cx} {W : WX} {K : PySem.W.Frag}
/-! ### d == {} -/
def rEqD0 (neg : Bool) : R2 := fun x y H Q => ∃ a b ks ls, x = .ref a ∧ y = .ref b ∧ H a = some (.dK ks) ∧ H b = some (.dK ls) ∧ (ks.length = ls.length → ks = []) ∧ Q (.bl (if neg then !decide (ks.length = ls.length) else decide (ks.length = ls.length))) H
theorem op_eqD0 (hu : X.A.units + 64 < cLine) : OpR X (compareOp .Eq) (rEqD0 false) := by
  intro pins s σ H x y v u Q I rx ry h
  obtain ⟨a, b, ks, ls, rfl, rfl, ea, eb, hp, q⟩ := h
  by_cases hl : ks.length = ls.length
  · refine op_eq_dictA (by omega) pins s σ H _ _ _ _ _ I rx ry ⟨a, b, ks, ls, rfl, rfl, ea, eb, hl, fun p hm => ?_, by rw [decide_eq_true hl] at q; exact q⟩
    rw [hp hl] at hm
    cases hm
  · cases rx
    cases ry
    obtain ⟨_, ya, va, ra, da⟩ := (show ObjOk X.prog X.w H s.heap a (.dK ks) from I.hok a _ ea)
    obtain ⟨_, yb, vb, rb, db⟩ := (show ObjOk X.prog X.w H s.heap b (.dK ls) from I.hok b _ eb)
    have hne : ¬ va.length = vb.length := by rw [← ra.length, ← rb.length]; exact hl
    refine PySem.W.keq_eq (knd := mixKind X.prog X.w) (r := true) ya yb da db (by omega) (fun z => absurd z hne) ?_
    refine ⟨.bl false, H, I, ?_, by rw [decide_eq_false hl] at q; exact q⟩
    have : (va.length == vb.length && true) = false := by rw [Bool.and_true]; exact beq_eq_false_iff_ne.mpr hne
    rw [this]
    rfl
def oEqD0 (d e : D) : Res D := match d, e with
  | .dct ks vs, .dct ls ws => match backK ks vs, backK ls ws with
    | some a, some b => if a.length = b.length → a = [] then .ok (.bl (decide (a.length = b.length))) else .no
    | _, _ => .no
  | _, _ => .no
theorem ro_eqD0 : RO K (rEqD0 false) oEqD0 := fun x y d e B H Q i rx ry h => by
  unfold oEqD0 at h
  split at h
  · split at h
    · rename_i a b e1 e2
      split at h
      · rename_i hc
        obtain ⟨p, us, kvs, rfl, hb, q, rfl, rfl⟩ := rx.dctK
        obtain ⟨p2, us2, kvs2, rfl, hb2, q2, rfl, rfl⟩ := ry.dctK
        rw [backK_of] at e1 e2
        cases e1
        cases e2
        refine ⟨p, p2, us, us2, rfl, rfl, i _ _ hb, i _ _ hb2, fun z => ?_, ?_⟩
        · have := hc (by rw [← q.length, ← q2.length]; exact z)
          have l := q.length
          rw [this] at l
          exact List.eq_nil_of_length_eq_zero l
        · rw [q.length, q2.length]
          exact h _ B H (Grow.refl i) (.v _)
      · exact h.elim
    · exact h.elim
  · exact h.elim
theorem o_eqD0 (hu : X.A.units + 64 < cLine) : OK2 X (compareOp .Eq) (rEqD0 false) oEqD0 := ⟨op_eqD0 hu, ro_eqD0, fun d e x => by
  unfold oEqD0
  split
  · split
    · split <;> simp
    · simp
  · simp⟩
/-! ### own lists: x.append(y.pop(k)), list(range(n)), list(xs), x += ys -/
def cAppPop (i j : Nat) (fk : DS → Res D) : DS → Fl := fun δ => match δ[i]?, δ[j]? with
  | some (some (.ow ds)), some (some (.ow es)) => stE (fk δ).calm δ fun y => match y with
    | .v (.int k) => if 0 ≤ k ∧ k < es.length ∧ k.natAbs ≤ 1000000 ∧ ds.length < sizeLine then match es[k.toNat]? with
        | some d => .nx ((δ.set j (some (.ow (es.eraseIdx k.toNat)))).set i (some (.ow (ds ++ [d]))))
        | none => .no
      else .no
    | _ => .no
  | _, _ => .no
theorem RpA.erase {B : Hp} : ∀ {vs : List V} {ds : List D} (k : Nat), RpA K B vs ds → RpA K B (vs.eraseIdx k) (ds.eraseIdx k)
  | _, _, _, .nil => by simpa using RpA.nil
  | _, _, 0, .cons _ r => by simpa using r
  | _, _, k + 1, .cons h r => by simpa using RpA.cons h (RpA.erase k r)
theorem cs_appPop (i j : Nat) {x y : Str} {e : Expr} {t : TE} {f : DS → Res D} {px py apos apos2 cpos cpos2 pos : Pos} (hij : i ≠ j) (he : CE X W e t f) (hvx : PE X (.Name x px) (tVar i)) (hvy : PE X (.Name y py) (tVar j))
    (hb1 : attributeBase (.Name x px) "append" X.env (eval (.Name x px) X.env) = eval (.Name x px) X.env := by rfl) (hb2 : attributeBase (.Name y py) "pop" X.env (eval (.Name y py) X.env) = eval (.Name y py) X.env := by rfl)
    (hf1 : ((backTo cpos (starEach [(.Call (.Attribute (.Name y py) "pop" apos2) [e] [] cpos2)] X.env)).all (fun x => !x.1) && (backToKw cpos (keywordEach [] X.env)).all (fun x => x.1.isSome) && decide ([(Expr.Call (.Attribute (.Name y py) "pop" apos2) [e] [] cpos2)].length + ([] : List Keyword).length + (if ([] : List Keyword).isEmpty then 0 else 1) < 30)) = true := by rfl)
    (hf2 : ((backTo cpos2 (starEach [e] X.env)).all (fun x => !x.1) && (backToKw cpos2 (keywordEach [] X.env)).all (fun x => x.1.isSome) && decide ([e].length + ([] : List Keyword).length + (if ([] : List Keyword).isEmpty then 0 else 1) < 30)) = true := by rfl)
    (hl1 : (apos.endLine == cpos.line) = true := by rfl) (hl2 : (apos2.endLine == cpos2.line) = true := by rfl)
    (hst1 : starEach [(.Call (.Attribute (.Name y py) "pop" apos2) [e] [] cpos2)] X.env = (false, eval (.Call (.Attribute (.Name y py) "pop" apos2) [e] [] cpos2) X.env) :: starEach [] X.env := by rfl) (hst2 : starEach [e] X.env = (false, eval e X.env) :: starEach [] X.env := by rfl)
    (hp1 : (backTo cpos (starEach [] X.env)).any (·.1) = false := by rfl) (hp2 : (backTo cpos2 (starEach [] X.env)).any (·.1) = false := by rfl)
    (hs : swapsWith (.Call (.Attribute (.Name x px) "append" apos) [(.Call (.Attribute (.Name y py) "pop" apos2) [e] [] cpos2)] [] cpos) none pos.line X.env = pure false := by rfl) :
    CS X W (.Expr (.Call (.Attribute (.Name x px) "append" apos) [(.Call (.Attribute (.Name y py) "pop" apos2) [e] [] cpos2)] [] cpos) pos)
      (tDrop (tBM X.K "list" rAppend (tVar i) (tCons (tBM X.K "list" rPopAt (tVar j) (tCons t tNil)) tNil))) (cAppPop i j f) :=
  ⟨ps_expr (pe_bm PySem.F.plainAttrs_list PySem.F.slot_list_append PySem.F.type_list_append mt_append hvx (pa_cons (pe_bm PySem.F.plainAttrs_list PySem.F.slot_list_pop PySem.F.type_list_pop mt_popAt hvy (pa_cons he.pe pa_nil hst2) hb2 hf2 hl2 hst2 hp2) pa_nil hst1) hb1 hf1 hl1 hst1 hp1) hs, fun B0 H0 δ σ B H E rel hp => by
    unfold cAppPop at hp
    split at hp
    case h_2 => exact hp.elim
    case h_1 ds es ei ej =>
    obtain ⟨v, q1, p, vs, rfl, h0, hb, hh, rp⟩ := rel.sl i _ ei
    obtain ⟨w, q2, p2, ws, rfl, h02, hb2', hh2, rp2⟩ := rel.sl j _ ej
    refine ⟨.ref p, q1, .inl ⟨rfl, _, SqL.of hh⟩, .ref p2, q2, .inl ⟨rfl, _, SqL.of hh2⟩, he.se B0 H0 δ σ B H _ rel ?_⟩
    cases e1 : f δ with
    | no => rw [e1] at hp; exact hp.elim
    | er x => rw [e1] at hp; exact hp.elim
    | ok d0 =>
      rw [e1, Res.calm_ok, stE_ok] at hp
      intro u B1 H1 g1 r1
      split at hp
      · rename_i k
        split at hp
        · rename_i hk
          split at hp
          · rename_i d hd
            cases r1
            have rel1 := rel.mono g1
            obtain ⟨w', q2', p2', ws', e2, h02', hb2'', hh2', rp2'⟩ := rel1.sl j _ ej
            rw [q2] at q2'
            cases q2'
            cases e2
            obtain ⟨dv, hdv, rdv⟩ := rp2'.get hd
            have hkl : k.toNat < ws'.length := by rw [rp2'.length]; omega
            have hsq : seqIndex? k ws'.length = some k.toNat := (ixN_seq (by unfold ixN; rw [if_pos hk.1, if_pos (by rw [rp2'.length]; omega)])).1
            refine ⟨p2, ws', k, k.toNat, dv, rfl, rfl, hh2', by omega, by omega, hsq, hdv, ?_⟩
            have rel2 := rel1.write (vs := ws'.eraseIdx k.toNat) (us := ws') ej q2 (rp2'.erase k.toNat)
            have ei2 : (δ.set j (some (.ow (es.eraseIdx k.toNat))))[i]? = some (some (.ow ds)) := by rw [List.getElem?_set_ne (Ne.symm hij)]; exact ei
            obtain ⟨v3, q3, p3, vs3, e3, h03, hb3, hh3, rp3⟩ := rel2.sl i _ ei2
            rw [q1] at q3
            cases q3
            cases e3
            refine ⟨p, vs3, dv, rfl, rfl, hh3, by rw [rp3.length]; exact hk.2.2.2, ?_⟩
            exact hp σ B1 _ g1.b (rel2.write (vs := vs3 ++ [dv]) (us := vs3) ei2 q1 (rp3.append (.cons rdv .nil)))
          · exact hp.elim
        · exact hp.elim
      · exact hp.elim⟩
/-- list(range(n)) -/
def asN : D → Res Int
  | .v (.int n) => if n.natAbs ≤ 1000000 then .ok n else .no
  | _ => .no
def cListRg (f : DS → Res D) : DS → Res (List D) := fun δ => (f δ).bind fun d => (asN d).bind fun n => .ok (rangeD 0 n.toNat)
theorem cf_listRg {a : Expr} {p p2 pos pos2 : Pos} {t : TE} {f : DS → Res D} (hc : X.calm = true) (hm : X.mg "list" = none) (hm2 : X.mg "range" = none) (ha : CE X W a t f) (hg : Gl X "list" := by rfl) (hg2 : Gl X "range" := by rfl)
    (na : starEach [a] X.env = (false, eval a X.env) :: starEach [] X.env := by rfl) (nb : starEach [(Expr.Call (.Name "range" p2) [a] [] pos2)] X.env = (false, eval (Expr.Call (.Name "range" p2) [a] [] pos2) X.env) :: starEach [] X.env := by rfl) :
    CF X W (.Call (.Name "list" p) [.Call (.Name "range" p2) [a] [] pos2] [] pos) (tLstRg (tRg1 t)) (cListRg f) :=
  ⟨pe_listRg hc hg hm (prg_1 hg2 hm2 ha.pe na) nb, fun B0 H0 δ σ B H Q rel hp => by
    unfold cListRg at hp
    refine ha.se B0 H0 δ σ B H _ rel ?_
    cases e : f δ with
    | no => rw [e] at hp; exact hp
    | er x => rw [e] at hp; exact hp
    | ok d =>
      rw [e, Res.bind_ok] at hp
      intro v B1 H1 g1 r1
      unfold asN at hp
      split at hp
      · split at hp
        · rename_i n hn
          rw [Res.bind_ok] at hp
          cases r1
          refine ⟨n, rfl, ⟨by omega, by omega, by omega, by omega, by omega⟩, fun q hq => ?_⟩
          refine hp q _ B1 _ (g1.trans (Grow.raw g1.i hq)) (g1.free hq) (g1.i.free hq) upd_same ?_
          unfold rgV rangeD
          rw [Int.sub_zero]
          exact RpA.map _ _ fun a _ => .v _
        · exact hp.elim
      · exact hp.elim⟩
/-- list(xs): a new list -/
def cListOf (f : DS → Res D) : DS → Res (List D) := fun δ => (f δ).bind fun d => match d with
  | .lst ds => .ok ds
  | .tup ds => .ok ds
  | _ => .no
theorem cf_list (K : PySem.W.Frag) (hK : X.K = K) {a : Expr} {p pos : Pos} {t : TE} {f : DS → Res D} (hm : X.mg "list" = none) (ha : CE X W a t f) (hg : Gl X "list" := by rfl) (hs : starEach [a] X.env = (false, eval a X.env) :: starEach [] X.env := by rfl) (hpl : (backTo pos (starEach [] X.env)).any (·.1) = false := by rfl) :
    CF X W (.Call (.Name "list" p) [a] [] pos) (tCB (fun xs H Q => ∃ p ys, xs = [.ref p] ∧ (SqL K H p ys ∨ SqT K H p ys) ∧ ∀ l, H l = none → Q (.ref l) (upd H l (.lst ys))) (tCons t tNil)) (cListOf f) := by
  subst hK
  refine ⟨pe_callTy (k_list X.K rfl).o hg hm (by decide +kernel) (pa_cons ha.pe pa_nil hs) (by decide) (by decide) hs hpl, fun B0 H0 δ σ B H Q rel hp => ?_⟩
  unfold cListOf at hp
  refine ha.se B0 H0 δ σ B H _ rel ?_
  cases e : f δ with
  | no => rw [e] at hp; exact hp
  | er x => rw [e] at hp; exact hp
  | ok d =>
    rw [e, Res.bind_ok] at hp
    intro v B1 H1 g1 r1
    split at hp
    · cases r1 with
      | lst h1 q => exact ⟨_, _, rfl, .inl (g1.i.seq h1), fun l hl => hp l _ B1 _ (g1.trans (Grow.raw g1.i hl)) (g1.free hl) (g1.i.free hl) upd_same q⟩
    · cases r1 with
      | tup h1 q => exact ⟨_, _, rfl, .inr (sqT_mono g1.i h1), fun l hl => hp l _ B1 _ (g1.trans (Grow.raw g1.i hl)) (g1.free hl) (g1.i.free hl) upd_same q⟩
    · exact hp.elim
/-- x += ys, x the def's own, ys a new list -/
def cExt (i : Nat) (f : DS → Res (List D)) : DS → Fl := fun δ => match δ[i]? with
  | some (some (.ow ds)) => stE (f δ) δ fun es => if ds.length + es.length ≤ sizeLine then .nx (δ.set i (some (.ow (ds ++ es)))) else .no
  | _ => .no
theorem cs_ext (i : Nat) {x : Str} {e : Expr} {t : TE} {f : DS → Res (List D)} {pos pos' : Pos} (hN : X.N.Nodup) (he : CF X W e t f) (hi : X.N[i]? = some x := by rfl) (hx : Loc X.env.scope x := by first | exact Or.inl rfl | exact Or.inr rfl) (hf : X.fn x = true ∨ X.env.scope.names.lookup x = some .local := by first | exact .inl rfl | exact .inr rfl | assumption) :
    CS X W (.AugAssign (.Name x pos') .Add e pos) (tAug i t rExt2) (cExt i f) := ⟨ps_aug hN hi hx he.pe iop_ext hf, fun B0 H0 δ σ B H E rel hp => by
  unfold cExt at hp
  split at hp
  case h_2 => exact hp.elim
  case h_1 ds ei =>
  obtain ⟨v, q1, p, vs, rfl, h0, hb, hh, rp⟩ := rel.sl i _ ei
  refine ⟨.ref p, q1, he.sf B0 H0 δ σ B H _ rel ?_⟩
  cases e1 : f δ with
  | no => rw [e1] at hp; exact hp
  | er x => rw [e1] at hp; exact fun c dx B' H' g rp => hp c dx σ B' H' g.b (rel.mono g) rp
  | ok es =>
    rw [e1, stE_ok] at hp
    split at hp
    · rename_i hz
      intro q us B' H' g hq hbq hhq rq
      have rel1 := rel.mono g
      obtain ⟨v', q1', p', vs', e2, h0', hb', hh', rp'⟩ := rel1.sl i _ ei
      rw [q1] at q1'
      cases q1'
      cases e2
      refine ⟨p, q, vs', us, rfl, rfl, hh', hhq, by rw [rp'.length, rq.length]; exact hz, ?_⟩
      have r2 := rel1.write (vs := vs' ++ us) (us := vs') ei q1 (rp'.append rq)
      have hi' : σ.set i (some (.ref p)) = σ := by
        apply List.ext_getElem?
        intro k
        by_cases hk : i = k
        · subst hk
          rw [List.getElem?_set_self (by
            by_cases hl : i < σ.length
            · exact hl
            · rw [List.getElem?_eq_none (by omega)] at q1; cases q1), q1]
        · rw [List.getElem?_set_ne hk]
      show E.nx (List.set σ i (some (V.ref p))) _
      rw [hi']
      exact hp σ B' _ g.b r2
    · exact hp.elim⟩
/-- [x, ..] * k -/
def cRep (f : DS → Res (List D)) (fk : DS → Res D) : DS → Res (List D) := fun δ => (f δ).bind fun ds => (fk δ).bind fun y => match y with
  | .v (.int k) => if k.natAbs ≤ 1000000 ∧ ds.length * k.toNat ≤ sizeLine then .ok (List.replicate k.toNat ds).flatten else .no
  | _ => .no
theorem RpA.rep {B : Hp} {vs : List V} {ds : List D} (r : RpA K B vs ds) : ∀ n : Nat, RpA K B (List.replicate n vs).flatten (List.replicate n ds).flatten
  | 0 => by simpa using RpA.nil
  | n + 1 => by simpa [List.replicate_succ] using r.append (RpA.rep r n)
theorem cf_rep {a b : Expr} {pos : Pos} {ta tb : TE} {fa : DS → Res (List D)} {fb : DS → Res D} (ha : CF X W a ta fa) (hb : CE X W b tb fb) : CF X W (.BinOp a .Mult b pos) (tOp rRep ta tb) (cRep fa fb) :=
  ⟨pe_op op_rep ha.pe hb.pe, fun B0 H0 δ σ B H Q rel hp => by
    unfold cRep at hp
    refine ha.sf B0 H0 δ σ B H _ rel ?_
    cases e : fa δ with
    | no => rw [e] at hp; exact hp
    | er x => rw [e] at hp; exact hp
    | ok ds =>
      rw [e, Res.bind_ok] at hp
      intro p vs B1 H1 g1 h0 hbp hh rp
      refine hb.se B0 H0 δ σ B1 H1 _ (rel.mono g1) ?_
      cases e2 : fb δ with
      | no => rw [e2] at hp; exact hp
      | er x => rw [e2] at hp; exact fun c dx B' H' g' r' => hp c dx B' H' (g1.trans g') r'
      | ok y =>
        rw [e2, Res.bind_ok] at hp
        intro u B2 H2 g2 r2
        split at hp
        · rename_i k
          split at hp
          · rename_i hk
            cases r2
            have gg := g1.trans g2
            refine ⟨p, k, vs, rfl, rfl, g2.h _ _ hh (fun _ z => by cases z), by omega, by omega, by rw [rp.length]; exact hk.2, fun q hq => ?_⟩
            exact hp q _ B2 _ (gg.trans (Grow.raw gg.i hq)) (gg.free hq) (gg.i.free hq) upd_same ((rp.mono g2.b).rep _)
          · exact hp.elim
        · exact hp.elim⟩
/-- a test that looks at the own dict at slot i -/
def cLookTD (i : Nat) (f : DS → Res Bool) : DS → Res Bool := fun δ => match δ[i]? with
  | some (some (.od _)) => (f (fzD false i δ)).calm
  | _ => .no
theorem ct_lookD (i : Nat) {e : Expr} {t : TT} {f : DS → Res Bool} (h : CT X W e t f) : CT X W e t (cLookTD i f) := ⟨h.pt, fun B0 H0 δ σ B H Q rel hp => by
  by_cases hk : ∃ kvs, δ[i]? = some (some (.od kvs))
  case neg =>
    have : cLookTD i f δ = .no := by
      unfold cLookTD
      split
      · rename_i kvs e; exact absurd ⟨_, e⟩ hk
      · rfl
    rw [this] at hp; exact hp.elim
  obtain ⟨kvs, ei⟩ := hk
  have e0 : cLookTD i f δ = (f (fzD false i δ)).calm := by unfold cLookTD; rw [ei]
  rw [e0, fzD_od ei] at hp
  obtain ⟨v, h1, p, us, rfl, h0, hb, hh, k, r⟩ := rel.sl i _ ei
  have rk := RpK.of k r
  have hup : upd H p (.dK us) = H := upd_self hh
  obtain ⟨sb, rel2⟩ := rel.freezeG (ho := .dK us) (d := .dct (keysD kvs) (valsD kvs)) ei rfl h1 hup.symm (fun _ z => by cases z) (Rp.ofK upd_same (rk.mono (same_new hb)))
  refine h.st B0 H0 _ σ _ H Q rel2 ?_
  simp only [Bool.false_eq_true, if_false] at hp
  cases e : f (δ.set i (some (.im (.dct (keysD kvs) (valsD kvs))))) with
  | no => rw [e] at hp; exact hp.elim
  | er x => rw [e] at hp; exact hp.elim
  | ok c =>
    rw [e] at hp
    intro B2 H2 g
    have g' : Grow (upd B p (.dK us)) (upd H p (.dK us)) B2 H2 := by rw [hup]; exact g
    obtain ⟨z1, B3, g3, r3⟩ := look_back (K := X.K) (v := .non) (d := .non) (u := .dK us) rel.g.i (rel.g.n rel.nt) hb hh (kind_dK _) (.inl ⟨us, rfl⟩) g' (.v _) (by rw [D.noDct])
    rw [upd_self z1] at g3
    exact hp B3 H2 g3⟩
/-- y = [..] while the own dict at slot i is locked, looked at -/
theorem cs_setLcLock (i k : Nat) {y : Str} {e : Expr} {t : TE} {f : DS → Res (List D)} {py spos : Pos} (l : LC X W e t f) (hsw : swapsWith e (some (.Name y py)) spos.line X.env = pure true) (hy : X.N[k]? = some y := by rfl) (hyl : X.env.scope.names.lookup y = some .local := by rfl) :
    CS X W (.Assign [.Name y py] e spos) (tLock (tAsg t (gName k))) (cAsg k (cLookD true i (cL f))) :=
  ⟨ps_lock (l.set_ k y py spos hy hyl hsw), fun B0 H0 δ σ B H E rel hp => ss_asg (i := k) (se_lockD i (se_of_sf l.sf)) B0 H0 δ σ B H E rel hp⟩
theorem cs_setLcLook (i k : Nat) {y : Str} {e : Expr} {t : TE} {f : DS → Res (List D)} {py spos : Pos} (l : LC X W e t f) (hsw : swapsWith e (some (.Name y py)) spos.line X.env = pure true) (hy : X.N[k]? = some y := by rfl) (hyl : X.env.scope.names.lookup y = some .local := by rfl) :
    CS X W (.Assign [.Name y py] e spos) (tAsg t (gName k)) (cAsg k (cLookD false i (cL f))) :=
  ⟨l.set_ k y py spos hy hyl hsw, ss_asg (se_lookD i (se_of_sf l.sf))⟩
end
theorem units5 {k : Nat} {A : Around} (r : Room k A) : A.units + 65 < cLine := by have := r.un; omega
end DV
namespace DV
open PySem L2
section
variable {K : PySem.W.Frag} {x qual : Str} {params : Arguments} {body : List Stmt} {scope : Scope} {kws : List (Str × V)} {f : Addr} {fd : FuncData} {ps : List Str}
/-- no positional defaults; of the keyword-only ones, those named in ms lack -/
theorem form0k (F : FunD K x qual params body scope [] kws f fd) (n : Nat) (ks : List Str) (ms : List (Str × V)) (l : List (Pk V)) (lU : List Value → List (Pk Value)) (hk : kws ≠ []) (hms : ∀ q ∈ ms, q ∈ kws) (hl : ∀ mv, Vals (ms.map (·.2)) mv → PkU l (lU mv))
    (h : ∀ (D : Addr) (doc pm : Value) (an : Option Addr) (cdv ct : Value) (us mv ws : List Value), us.length = n → mv.length = ms.length → ws.length = ks.length →
      KwChain D ((ms.map (·.1)).zip mv) (bindArgs (PySem.W.fnOf x qual params body scope .none (.ref D) doc pm an cdv ct) ⟨us, ks.zip ws⟩) (ps.zip (pkU (lU mv) us ws))) : KForm K fd ps n ks l := by
  obtain ⟨oc, od, dV, kV, doc, pm, an, cdv, ct, osl, rfl, lk, hcd, hD, hK⟩ := F.ex
  rcases hD with ⟨_, rfl⟩ | ⟨e, _⟩
  · rcases hK with e | ⟨D, rfl, hq⟩
    · exact absurd e hk
    · obtain ⟨mv, hlen, rk, hks⟩ := kwd_vals (ms := ms) fun q hm => hq q (hms q hm)
      exact ⟨pkU (lU mv), fun s us ws X l1 l2 => BindsTo.of_looks fun M => KwChain.looks X hks (h D doc pm an cdv ct us mv ws l1 hlen l2), fun r1 r2 => (hl mv rk).rel r1 r2⟩
  · exact absurd rfl e
end
end DV
namespace DV
open PySem L2
/-! ### defs that give a new list -/
section
variable {X : Cx} {W : WX} {K : PySem.W.Frag}
/-- return e, e a new list -/
def cRetF (f : DS → Res (List D)) : DS → Fl := fun δ => stE (f δ) δ fun ds => .rf ds
theorem cs_retF {e : Expr} {pos : Pos} {t : TE} {f : DS → Res (List D)} (h : CF X W e t f) : CS X W (.Return (some e) pos) (tRet t) (cRetF f) :=
  ⟨ps_ret h.pe, fun B0 H0 δ σ B H E rel hp => by
    unfold cRetF at hp
    refine h.sf B0 H0 δ σ B H _ rel ?_
    cases e : f δ with
    | no => rw [e] at hp; exact hp
    | er x => rw [e] at hp; exact fun c dx B' H' g rp => hp c dx σ B' H' g.b (rel.mono g) rp
    | ok ds =>
      rw [e, stE_ok] at hp
      exact fun p vs B' H' g h0 hb hh rp => hp p vs B' H' g.b (rel.g.trans g) (rel.g.free h0) hb hh rp⟩
/-- return x, x the def's own list -/
def cRetO (i : Nat) : DS → Fl := fun δ => match δ[i]? with
  | some (some (.ow ds)) => .rf ds
  | _ => .no
theorem cs_retO (i : Nat) {x : Str} {px pos : Pos} (hv : PE X (.Name x px) (tVar i)) : CS X W (.Return (some (.Name x px)) pos) (tRet (tVar i)) (cRetO i) :=
  ⟨ps_ret hv, fun B0 H0 δ σ B H E rel hp => by
    unfold cRetO at hp
    split at hp
    · rename_i ds ei
      obtain ⟨v, q1, p, vs, rfl, h0, hb, hh, rp⟩ := rel.sl i _ ei
      exact ⟨_, q1, hp p vs B H (Same.refl _) rel.g h0 hb hh rp⟩
    · exact hp.elim⟩
def PostDF (K : PySem.W.Frag) (B H : Hp) (Q : VK) (E : XK) : Res (List D) → Prop
  | .ok ds => ∀ p vs B' H', Grow B H B' H' → H p = none → B' p = none → H' p = some (.lst vs) → RpA K B' vs ds → Q (.ref p) H'
  | .er x => ∀ c dx B' H', Grow B H B' H' → RpX K B' c dx x → E c dx H'
  | .no => False
def spF (K : PySem.W.Frag) (n : Nat) (F : List D → Res (List D)) : Sp := fun vs H Q E => vs.length = n ∧ ∃ ds B, Same B H ∧ RpA K B vs ds ∧ ((∀ p ∈ tabsOf K, NdefX.TabN H p lamAt) ∧ NoT B) ∧ PostDF K B H Q E (F ds)
def flF : Fl → Res (List D)
  | .rf ds => .ok ds
  | .rs x _ => .er x
  | _ => .no
@[simp] theorem flF_rf (ds : List D) : flF (.rf ds) = .ok ds := rfl
@[simp] theorem flF_rs (x : Exn) (δ : DS) : flF (.rs x δ) = .er x := rfl
def defL (m : Nat) (g : DS → Fl) : List D → Res (List D) := fun ds => flF (g (st0 m ds))
theorem ss_defL {t : TS} {g : DS → Fl} {E : XK} {N : List Str} {vs : List V} {ds : List D} {B H : Hp} {Q : VK} (h : SS K (Wof E) t g) (i : Same B H) (r : RpA K B vs ds) (tb : (∀ p ∈ tabsOf K, NdefX.TabN H p lamAt) ∧ NoT B) (hp : PostDF K B H Q E (defL (N.length - vs.length) g ds)) :
    t { nx := fun _ H' => Q .non H', rt := Q } (L2.start N vs) H := by
  refine h B H _ _ B H _ (rel0 i r tb) ?_
  unfold defL at hp
  cases e : g (st0 (N.length - vs.length) ds) with
  | rf es => rw [e] at hp; exact fun p xs B' H' s gr h0 hb hh rr => hp p xs B' H' gr h0 hb hh rr
  | rs x δ => rw [e] at hp; exact fun c dx σ B' H' s rel rp => hp c dx B' H' rel.g rp
  | nx δ => rw [e] at hp; exact hp.elim
  | rt d => rw [e] at hp; exact hp.elim
  | bk δ => rw [e] at hp; exact hp.elim
  | ct δ => rw [e] at hp; exact hp.elim
  | no => rw [e] at hp; exact hp.elim
end
section
variable {P : Program} {w : World} {K : PySem.W.Frag} {mg : Str → Option Value} {base : Heap}
theorem def_okF {x qual : Str} {st : Stmt} {f : Addr} {fd : FuncData} {N ps : List Str} {k m : Nat} {g : DS → Fl} (F : Fun K x qual st f fd) (S : FnScope N ps (defScope st)) (hm : N.length - ps.length = m)
    (hbody : ∀ (cdv : Value) (A : Around) (outer : List Env) (s : Shared) (H : Hp) (E : XK), Room k (A.deeper (PyProof.Rows.envOfC qual (defScope st) s.heap.objs.size f cdv)) → Takes (cxOf (L2.CX P w) P w K mg base N qual (defScope st) f cdv A outer s H E) (Wof E) →
      PassesOwn (model P w) (A.deeper (PyProof.Rows.envOfC qual (defScope st) s.heap.objs.size f cdv)) (PyProof.Rows.envOfC qual (defScope st) s.heap.objs.size f cdv) (cxOf (L2.CX P w) P w K mg base N qual (defScope st) f cdv A outer s H E).xe → (A.deeper (PyProof.Rows.envOfC qual (defScope st) s.heap.objs.size f cdv)).units + 64 < cLine → ∃ t, CSs (cxOf (L2.CX P w) P w K mg base N qual (defScope st) f cdv A outer s H E) (Wof E) (defBody st) t g) : FnOk P w K mg base (L2.CX P w) (k + 1) f fd ps (spF K ps.length (defL m g)) := by
  refine F.okX S (fun vs H Q E h => h.1) fun cdv A outer s H vs Q E hr h => ?_
  obtain ⟨hl, ds, B, i, r, tb, hp⟩ := h
  obtain ⟨t, ht⟩ := hbody cdv A outer s H E hr (takes_of rfl rfl rfl rfl) (passes_of (X := cxOf (L2.CX P w) P w K mg base N qual _ f cdv A outer s H E) rfl) hr.units
  exact ⟨t, ht.ps, ss_defL (N := N) ht.ss i r tb (by rw [hl, hm]; exact hp)⟩
end
section
variable {X : Cx} {W : WX} {K : PySem.W.Frag}
def cFnF (F : List D → Res (List D)) (f : DS → Res (List D)) : DS → Res (List D) := fun δ => (f δ).bind F
theorem sf_fnF {n : Nat} {F : List D → Res (List D)} {t : TA} {f : DS → Res (List D)} (hl : ∀ δ ds, f δ = .ok ds → ds.length = n) (h : SA K W t f) : SF K W (tCallSD (spF K n F) [] (WE W) t) (cFnF F f) := fun B0 H0 δ σ B H Q rel hp => by
  unfold cFnF at hp
  refine h B0 H0 δ σ B H _ rel ?_
  cases e : f δ with
  | no => rw [e] at hp; exact hp
  | er x => rw [e] at hp; exact hp
  | ok ds =>
    rw [e, Res.bind_ok] at hp
    intro vs B1 H1 g1 r1
    refine ⟨?_, ds, B1, g1.i, by simpa using r1, ⟨fun p hp' => g1.t p (rel.g.t p (rel.tk p hp')), g1.n (rel.g.n rel.nt)⟩, ?_⟩
    · rw [List.append_nil, r1.length]
      exact hl δ ds e
    · cases e2 : F ds with
      | no => rw [e2] at hp; exact hp
      | er x => rw [e2] at hp; exact fun c dx B' H' g' rp => hp c dx B' H' (g1.trans g') rp
      | ok z => rw [e2] at hp; exact fun p vs B' H' g' h0 hb hh rr => hp p vs B' H' (g1.trans g') (g1.free h0) hb hh rr
theorem cf_f (K : PySem.W.Frag) (hK : X.K = K) {k n : Nat} {f : Addr} {fd : FuncData} {ps : List Str} {F : List D → Res (List D)} {x : Str} {p pos : Pos} {e : Expr} {es : List Expr} {t : TA} {fa : DS → Res (List D)}
    (G : FnOk X.prog X.w K X.mg X.base (L2.CX X.prog X.w) k f fd ps (spF K n F)) (hr : Room k X.A) (hm : X.mg x = some (.ref f)) (hk : PySem.W.keepIn K (.ref f) = true) (hb : Binds K fd ps []) (tk : Takes X W)
    (ha : CL X W (e :: es) t fa) (hn : (e :: es).length = n := by rfl) (hg : Gl X x := by rfl) (hdb : (x == ("__debug__" : Str)) = false := by decide) (he : starEach (e :: es) X.env = (false, eval e X.env) :: starEach es X.env := by rfl) (hpl : (backTo pos (starEach es X.env)).any (·.1) = false := by rfl) :
    CF X W (.Call (.Name x p) (e :: es) [] pos) (tCallSD (spF K n F) [] (WE W) t) (cFnF F fa) := by
  subst hK
  exact ⟨pe_callSD G hr hg hm hk hb .nil (fun σ => passAt tk σ) ha.pa hdb he hpl, sf_fnF (fun δ ds h => by rw [ha.ln δ ds h]; exact hn) ha.sa⟩
end
end DV
namespace DV
open PySem L2
/-! ### own lists: x.reverse(), x.clear(), x.pop(), x.insert(i, e) -/
section
variable {X : Cx} {W : WX}
def cMut (i : Nat) (φ : List D → Option (List D)) : DS → Fl := fun δ => match δ[i]? with
  | some (some (.ow ds)) => match φ ds with
    | some es => .nx (δ.set i (some (.ow es)))
    | none => .no
  | _ => .no
theorem RpA.rev {K : PySem.W.Frag} {B : Hp} : ∀ {vs : List V} {ds : List D}, RpA K B vs ds → RpA K B vs.reverse ds.reverse
  | _, _, .nil => .nil
  | _, _, .cons h r => by
    rw [List.reverse_cons, List.reverse_cons]
    exact (RpA.rev r).append (.cons h .nil)
theorem RpA.dropLast {K : PySem.W.Frag} {B : Hp} : ∀ {vs : List V} {ds : List D}, RpA K B vs ds → RpA K B vs.dropLast ds.dropLast
  | _, _, .nil => .nil
  | _, _, .cons _ .nil => .nil
  | _, _, .cons h (.cons h2 r) => .cons h (RpA.dropLast (.cons h2 r))
theorem cs_reverse (i : Nat) {x : Str} {px apos cpos pos : Pos} (hv : PE X (.Name x px) (tVar i))
    (hbase : attributeBase (.Name x px) "reverse" X.env (eval (.Name x px) X.env) = eval (.Name x px) X.env := by rfl) (hline : (apos.endLine == cpos.line) = true := by rfl)
    (hs : swapsWith (.Call (.Attribute (.Name x px) "reverse" apos) [] [] cpos) none pos.line X.env = pure false := by rfl) :
    CS X W (.Expr (.Call (.Attribute (.Name x px) "reverse" apos) [] [] cpos) pos) (tDrop (tBM X.K "list" rReverse (tVar i) tNil)) (cMut i fun ds => some ds.reverse) :=
  ⟨ps_expr (pe_bm0 PySem.F.plainAttrs_list PySem.F.slot_list_reverse PySem.F.type_list_reverse mt_reverse hv hbase hline) hs, fun B0 H0 δ σ B H E rel hp => by
    unfold cMut at hp
    split at hp
    · rename_i ds ei
      obtain ⟨v, q1, p, vs, rfl, _, hb, hh, rp⟩ := rel.sl i _ ei
      exact ⟨_, q1, .inl ⟨rfl, vs, SqL.of hh⟩, p, vs, rfl, rfl, hh, hp σ B _ (Same.refl _) (rel.write (us := vs) ei q1 rp.rev)⟩
    · exact hp.elim⟩
theorem cs_clear (i : Nat) {x : Str} {px apos cpos pos : Pos} (hv : PE X (.Name x px) (tVar i))
    (hbase : attributeBase (.Name x px) "clear" X.env (eval (.Name x px) X.env) = eval (.Name x px) X.env := by rfl) (hline : (apos.endLine == cpos.line) = true := by rfl)
    (hs : swapsWith (.Call (.Attribute (.Name x px) "clear" apos) [] [] cpos) none pos.line X.env = pure false := by rfl) :
    CS X W (.Expr (.Call (.Attribute (.Name x px) "clear" apos) [] [] cpos) pos) (tDrop (tBM X.K "list" rClear (tVar i) tNil)) (cMut i fun ds => some []) :=
  ⟨ps_expr (pe_bm0 PySem.F.plainAttrs_list PySem.F.slot_list_clear PySem.F.type_list_clear mt_clear hv hbase hline) hs, fun B0 H0 δ σ B H E rel hp => by
    unfold cMut at hp
    split at hp
    · rename_i ds ei
      obtain ⟨v, q1, p, vs, rfl, _, hb, hh, rp⟩ := rel.sl i _ ei
      exact ⟨_, q1, .inl ⟨rfl, vs, SqL.of hh⟩, p, vs, rfl, rfl, hh, hp σ B _ (Same.refl _) (rel.write (us := vs) ei q1 .nil)⟩
    · exact hp.elim⟩
theorem cs_pop0 (i : Nat) {x : Str} {px apos cpos pos : Pos} (hv : PE X (.Name x px) (tVar i))
    (hbase : attributeBase (.Name x px) "pop" X.env (eval (.Name x px) X.env) = eval (.Name x px) X.env := by rfl) (hline : (apos.endLine == cpos.line) = true := by rfl)
    (hs : swapsWith (.Call (.Attribute (.Name x px) "pop" apos) [] [] cpos) none pos.line X.env = pure false := by rfl) :
    CS X W (.Expr (.Call (.Attribute (.Name x px) "pop" apos) [] [] cpos) pos) (tDrop (tBM X.K "list" rPop (tVar i) tNil)) (cMut i fun ds => if ds.isEmpty = true then none else some ds.dropLast) :=
  ⟨ps_expr (pe_bm0 PySem.F.plainAttrs_list PySem.F.slot_list_pop PySem.F.type_list_pop mt_pop hv hbase hline) hs, fun B0 H0 δ σ B H E rel hp => by
    unfold cMut at hp
    split at hp
    · rename_i ds ei
      obtain ⟨v, q1, p, vs, rfl, _, hb, hh, rp⟩ := rel.sl i _ ei
      dsimp only at hp
      by_cases hd : ds.isEmpty = true
      · rw [if_pos hd] at hp; exact hp.elim
      · rw [if_neg hd] at hp
        have hl : 0 < vs.length := by
          rw [rp.length]
          exact List.length_pos_iff.mpr fun z => hd (by rw [z]; rfl)
        exact ⟨_, q1, .inl ⟨rfl, vs, SqL.of hh⟩, p, vs, vs[vs.length - 1], rfl, rfl, hh, List.getElem?_eq_getElem (by omega), hp σ B _ (Same.refl _) (rel.write (us := vs) ei q1 rp.dropLast)⟩
    · exact hp.elim⟩
/-- x.insert(k, e), k a constant -/
def cIns (i : Nat) (k : Nat) (f : DS → Res D) : DS → Fl := fun δ => match δ[i]? with
  | some (some (.ow ds)) => stE (f δ) δ fun d => if ds.length < sizeLine then .nx (δ.set i (some (.ow (ds.take k ++ [d] ++ ds.drop k)))) else .no
  | _ => .no
theorem RpA.tk {K : PySem.W.Frag} {B : Hp} : ∀ {vs : List V} {ds : List D} (k : Nat), RpA K B vs ds → RpA K B (vs.take k) (ds.take k)
  | _, _, 0, _ => by simpa using RpA.nil
  | _, _, _ + 1, .nil => by simpa using RpA.nil
  | _, _, k + 1, .cons h r => by simpa using RpA.cons h (RpA.tk k r)
theorem RpA.dr {K : PySem.W.Frag} {B : Hp} : ∀ {vs : List V} {ds : List D} (k : Nat), RpA K B vs ds → RpA K B (vs.drop k) (ds.drop k)
  | _, _, 0, r => by simpa using r
  | _, _, _ + 1, .nil => by simpa using RpA.nil
  | _, _, k + 1, .cons h r => by simpa using RpA.dr k r
theorem cs_ins (i k : Nat) (hk : k < 1000) {x : Str} {e : Expr} {t : TE} {f : DS → Res D} {px apos cpos pos : Pos} {q : Nat} {kp : Pos} (he : CE X W e t f) (hv : PE X (.Name x px) (tVar i))
    (hbase : attributeBase (.Name x px) "insert" X.env (eval (.Name x px) X.env) = eval (.Name x px) X.env := by rfl)
    (hfew : ((backTo cpos (starEach [.Constant (.int (k : Int)) q kp, e] X.env)).all (fun x => !x.1) && (backToKw cpos (keywordEach [] X.env)).all (fun x => x.1.isSome) && decide ([(.Constant (.int (k : Int)) q kp : Expr), e].length + ([] : List Keyword).length + (if ([] : List Keyword).isEmpty then 0 else 1) < 30)) = true := by rfl)
    (hline : (apos.endLine == cpos.line) = true := by rfl) (hst : starEach [.Constant (.int (k : Int)) q kp, e] X.env = (false, eval (.Constant (.int (k : Int)) q kp) X.env) :: starEach [e] X.env := by rfl) (hst2 : starEach [e] X.env = (false, eval e X.env) :: starEach [] X.env := by rfl) (hplain : (backTo cpos (starEach [e] X.env)).any (·.1) = false := by rfl) (hs : swapsWith (.Call (.Attribute (.Name x px) "insert" apos) [.Constant (.int (k : Int)) q kp, e] [] cpos) none pos.line X.env = pure false := by rfl):
    CS X W (.Expr (.Call (.Attribute (.Name x px) "insert" apos) [.Constant (.int (k : Int)) q kp, e] [] cpos) pos) (tDrop (tBM X.K "list" (fun x vs H Q => ∃ (l : Addr) (xs : List V) (i : Int) (y : V), x = .ref l ∧ vs = [.int i, y] ∧ H l = some (.lst xs) ∧ xs.length < sizeLine ∧ 0 ≤ i ∧ i < 2 ^ 63 ∧
    Q .non (upd H l (.lst (xs.take i.toNat ++ [y] ++ xs.drop i.toNat)))) (tVar i) (tCons (tC (.int (k : Int))) (tCons t tNil)))) (cIns i k f) :=
  ⟨ps_expr (pe_bm PySem.F.plainAttrs_list PySem.F.slot_list_insert PySem.F.type_list_insert mt_insert hv (pa_cons pe_int (pa_cons he.pe pa_nil hst2) hst) hbase hfew hline hst hplain) hs, fun B0 H0 δ σ B H E rel hp => by
    unfold cIns at hp
    split at hp
    · rename_i ds ei
      obtain ⟨v, q1, p, vs, rfl, _, hb, hh, rp⟩ := rel.sl i _ ei
      refine ⟨_, q1, .inl ⟨rfl, vs, SqL.of hh⟩, ?_⟩
      refine he.se B0 H0 δ σ B H _ rel ?_
      cases e1 : f δ with
      | no => rw [e1] at hp; exact hp
      | er x => rw [e1] at hp; exact fun c dx B' H' g rp => hp c dx σ B' H' g.b (rel.mono g) rp
      | ok d =>
        rw [e1, stE_ok] at hp
        split at hp
        · rename_i hz
          intro v B' H' g r1
          have r2 := rp.mono g.b
          refine ⟨p, vs, (k : Int), v, rfl, rfl, g.h _ _ hh (fun _ z => by cases z), by rw [rp.length]; exact hz, by omega, by omega, ?_⟩
          rw [Int.toNat_natCast]
          exact hp σ B' _ g.b ((rel.mono g).write (us := vs) ei q1 (((r2.tk k).append (.cons r1 .nil)).append (r2.dr k)))
        · exact hp.elim
    · exact hp.elim⟩
end
end DV
namespace DV
open PySem PySem.Spec PyProof.Rows L2
/-! ### sorted(t), t a tuple of ints -/
section
variable {prog : Program} {w : World} {A : Around} {s : Shared} {E : Value → Shared → Prop}
/-- the items of a tuple, gathered in a list -/
theorem gather_tup {tp : Addr} {us : List Value} {Q : List Value → Shared → Prop} (ht : s.heap.IsTuple tp us.toArray) (hz : us.length ≤ sizeLine)
    (hq : Q us { s with heap := (s.heap.push (seqObj "list" #[] 0)).update s.heap.objs.size (Obj.mapSeq (· ++ us.toArray)) }) : wpAny (model prog w) A (collect (.ref tp)) Q E s := by
  obtain ⟨ob, hob, hcl, m, hdat⟩ := id ht
  unfold collect; refine wpAny_bind (wpAny_runValue (codeAny_builtin entry_proto_collect' ?_))
  show wpAny _ _ (do again (.builtin "list.__iadd__" ⟨[← newList [], .ref tp], []⟩)) _ _ s
  refine wpAny_bind (wpAny_newList (wpAny_pure ⟨Code.quiet_builtin _ (by decide +kernel), codeAny_builtin entry_list_iadd' ?_⟩) (by simp))
  show wpAny _ _ (Builtin.List.listExtendWith (.ref s.heap.objs.size) (.ref tp) (.ref s.heap.objs.size)) _ _ { s with heap := s.heap.push (seqObj "list" #[] 0) }
  have hob' : (s.heap.push (seqObj "list" #[] 0)).get? tp = some ob := Heap.get?_push_of_some _ hob
  unfold Builtin.List.listExtendWith; refine wpAny_bind (wpAny_typeOf (T := "tuple") ⟨ob, hob', hcl⟩ ?_)
  rw [if_pos (by have e : (Value.type "tuple" == Value.type "tuple") = true := by rfl
                 rw [e]; simp)]
  refine wpAny_bind (listItems_at hob' hdat ?_); refine wpAny_bind (listItems_at (xs := #[]) (n := 0) (Heap.get?_push_size _ rfl) rfl ?_)
  rw [if_neg (by simp)]
  refine wpAny_bind (listUpdate_at (xs := #[]) (n := 0) (Heap.get?_push_size _ rfl) rfl ?_ (Nat.zero_le _) (by show (#[] ++ us.toArray).size ≤ sizeLine + 1; simp only [Array.size_append, List.size_toArray, List.length_nil]; omega))
  refine wpAny_pure (show wpAny (model prog w) A (do
      let o ← load s.heap.objs.size
      match o.data with
      | .seq xs _ => pure xs.toList
      | _ => unsupported "internal:collect") Q E { s with heap := (s.heap.push (seqObj "list" #[] 0)).update s.heap.objs.size (Obj.mapSeq (· ++ us.toArray)) } from ?_)
  refine wpAny_bind (wpAny_load (get?_update_seq (Heap.get?_push_size _ rfl) _) (show wpAny _ _ (pure ((#[] : Array Value) ++ us.toArray).toList) Q E _ from ?_))
  rw [show ((#[] : Array Value) ++ us.toArray).toList = us by simp]; exact wpAny_pure hq
theorem heap_two {h : Heap} {us : List Value} : ((h.push (seqObj "list" #[] 0)).update h.objs.size (Obj.mapSeq (· ++ us.toArray))).objs.size = h.objs.size + 1 := by rw [Heap.size_update, size_push']
/-- sorted of a tuple: as of a list -/
theorem sorted_tupO {tp : Addr} {us : List Value} {ltv : Value → Value → Bool} {Q : Value → Shared → Prop} (O : SrtO.Swo ltv) (ht : s.heap.IsTuple tp us.toArray) (hz : us.length ≤ sizeLine)
    (hS : 2 ≤ us.length → ∀ (h' : Heap) (b : Addr), h'.get? b = some (seqObj "list" us.toArray 0) → (∀ c o, s.heap.get? c = some o → c ≠ b ∧ h'.get? c = some o) → SrtO.SortableO prog w A.in1.in1 { s with heap := h' } b us ltv)
    (hq : ∀ out : List Value, SrtO.Srtd ltv out → SrtO.Stb ltv out us → Q (.ref (s.heap.objs.size + 1)) { s with heap := sortedAll s.heap us out.toArray }) : wpAny (model prog w) A (call (.builtin "sorted") [.ref tp]) Q E s := by
  refine Calls.call_function_entry kind_sorted plain_sorted entry_sorted (args_sorted1 _) (show wpAny _ _ (Builtin.«sorted» _) _ _ _ from ?_)
  unfold Builtin.«sorted»; refine wpAny_bind (m := checkCount "sorted" 1 1 _) (wpAny_pure (wpAny_bind (gather_tup ht hz ?_)))
  refine wpAny_bind (wpAny_newList ?_ hz); have hsz := heap_two (h := s.heap) (us := us)
  have new : (((s.heap.push (seqObj "list" #[] 0)).update s.heap.objs.size (Obj.mapSeq (· ++ us.toArray))).push (seqObj "list" us.toArray 0)).get? (s.heap.objs.size + 1) = some (seqObj "list" us.toArray 0) := hsz ▸ Heap.get?_push_size _ rfl
  have old : ∀ c o, s.heap.get? c = some o → c ≠ s.heap.objs.size + 1 ∧ (((s.heap.push (seqObj "list" #[] 0)).update s.heap.objs.size (Obj.mapSeq (· ++ us.toArray))).push (seqObj "list" us.toArray 0)).get? c = some o := fun c o q => by
    have lt : c < s.heap.objs.size := Heap.lt_size q
    exact ⟨Nat.ne_of_lt (Nat.lt_succ_of_lt lt), Heap.get?_push_of_some _ (by rw [Heap.get?_update_ne _ _ _ _ (Nat.ne_of_lt lt)]; exact Heap.get?_push_of_some _ q)⟩
  show wpAny _ _ _ _ _ { s with heap := ((s.heap.push (seqObj "list" #[] 0)).update s.heap.objs.size (Obj.mapSeq (· ++ us.toArray))).push (seqObj "list" us.toArray 0) }
  rw [hsz]; refine wpAny_bind (wpAny_holding (wpAny_call_entry slot_list_sort ⟨_, new, rfl⟩ entry_list_sort (SrtO.list_sort_ord O new hz (fun h2 => hS h2 _ _ new old) fun out hs hb => ⟨_, rfl, ?_⟩) (args_list_sort _)))
  exact wpAny_pure ⟨_, rfl, hq out hs hb⟩
end
section
variable {X : Cx}
def rSortedT (K : PySem.W.Frag) : List V → Hp → VK → Prop := fun vs H Q => ∃ (tp : Addr) (ns : List Int), vs = [V.ref tp] ∧ SqT K H tp (ns.map V.int) ∧ ∀ p : Addr, H p = none → Q (.ref p) (upd H p (.lst ((sortI ns).map V.int)))
theorem cr_sortedT : CallR X (.builtin "sorted") (rSortedT X.K) := by
  intro pins s σ H vs us Q I r h
  obtain ⟨tp, ns, rfl, ht, q⟩ := h
  obtain ⟨its, rv, hl, hz⟩ := I.tuple ht
  rw [Vals.ref1 r]; have hi := rv.ints
  refine sorted_tupO SrtO.swo_int (us := its) hl (by rw [← rv.length]; exact hz) (fun h2 h' b _ _ => SrtO.ints_sortable hi h2) fun out h1 h2 => ?_
  obtain ⟨k1, k2, k3⟩ := SrtO.ints_out hi h1 h2; obtain ⟨ep, he'⟩ := sortedAll_at s.heap its out.toArray
  have es := sortI_unique k2 k3
  have hlen : ((out.map SrtO.iv).map V.int).length ≤ sizeLine := by rw [List.length_map, k2.length_eq]; simpa using hz
  refine ⟨.ref _, upd H (s.heap.objs.size + 1) (.lst ((out.map SrtO.iv).map V.int)), I.laid (t' := s.toks) (fun _ _ => sortedAll_old) (Nat.le_succ _) ⟨hlen, out, ep, vals_of_ints k1, he'⟩, rfl, ?_⟩
  rw [es]; exact q _ (I.hok.fresh (Nat.le_succ _))
variable {W : WX}
def intsT : D → Res (List Int)
  | .tup ds => match intsD ds with
    | some ns => .ok ns
    | none => .no
  | _ => .no
/-- sorted(t), t a tuple of ints: a new list -/
def cSrtT (f : DS → Res D) : DS → Res (List D) := fun δ => (f δ).bind fun d => (intsT d).bind fun ns => .ok ((sortI ns).map D.int)
theorem cf_sortedT (K : PySem.W.Frag) (hK : X.K = K) {a : Expr} {p pos : Pos} {t : TE} {f : DS → Res D} (hm : X.mg "sorted" = none) (ha : CE X W a t f) (hg : Gl X "sorted" := by rfl) (hs : starEach [a] X.env = (false, eval a X.env) :: starEach [] X.env := by rfl) (hpl : (backTo pos (starEach [] X.env)).any (·.1) = false := by rfl) :
    CF X W (.Call (.Name "sorted" p) [a] [] pos) (tCB (rSortedT K) (tCons t tNil)) (cSrtT f) := by
  subst hK
  refine ⟨pe_callB cr_sortedT hg hm (by decide +kernel) (pa_cons ha.pe pa_nil hs) (by decide) (by decide) hs hpl, fun B0 H0 δ σ B H Q rel hp => ?_⟩
  unfold cSrtT at hp
  refine ha.se B0 H0 δ σ B H _ rel ?_
  cases e : f δ with
  | no => rw [e] at hp; exact hp
  | er x => rw [e] at hp; exact hp
  | ok d =>
    rw [e, Res.bind_ok] at hp
    intro v B1 H1 g1 r1
    unfold intsT at hp
    split at hp
    · split at hp
      · rename_i ns e2
        rw [Res.bind_ok] at hp
        cases r1 with
        | tup h1 q =>
          rw [intsD_of e2] at q
          have e3 := q.ints_of
          subst e3
          exact ⟨_, ns, rfl, sqT_mono g1.i h1, fun z hz => hp z _ B1 _ (g1.trans (Grow.raw g1.i hz)) (g1.free hz) (g1.i.free hz) upd_same (RpA.ints _)⟩
      · exact hp.elim
    · exact hp.elim
end
end DV
namespace DV
open PySem L2
/-! ### places in own trees -/
def T.at : T → List Nat → Option T
  | t, [] => some t
  | .im _, _ :: _ => none
  | .nd _ ts, j :: js => match ts[j]? with
    | some t => t.at js
    | none => none
def T.put : T → List Nat → T → T
  | _, [], t1 => t1
  | .im d, _ :: _, _ => .im d
  | .nd k ts, j :: js, t1 => match ts[j]? with
    | some t => .nd k (ts.set j (t.put js t1))
    | none => .nd k ts
/-- the value at a place -/
def ValAt (K : PySem.W.Frag) (H : Hp) : T → V → List Nat → V → Prop
  | _, v, [], w => w = v
  | .im _, _, _ :: _, _ => False
  | .nd k ts, v, j :: js, w => ∃ p vs fp, v = .ref p ∧ cell K H p vs fp k ∧ ∃ t' v', ts[j]? = some t' ∧ vs[j]? = some v' ∧ ValAt K H t' v' js w
section
variable {K : PySem.W.Frag} {B B' H H' : Hp}
theorem RTA.get : ∀ {ts : List T} {vs : List V} {j : Nat} {t : T} {v : V}, RTA K B H ts vs → ts[j]? = some t → vs[j]? = some v → RT K B H t v ∧ ∀ q, FT K H t v q → FTA K H ts vs q
  | [], _, _, _, _, _, e, _ => by simp at e
  | _ :: _, [], _, _, _, h, _, _ => by rw [RTA] at h; exact h.elim
  | t0 :: ts, v0 :: vs, 0, t, v, h, e1, e2 => by
    simp at e1 e2
    subst e1; subst e2
    rw [RTA] at h
    exact ⟨h.1, fun q hq => by rw [FTA]; exact .inl hq⟩
  | t0 :: ts, v0 :: vs, j + 1, t, v, h, e1, e2 => by
    rw [RTA] at h
    obtain ⟨a, b⟩ := RTA.get (j := j) h.2.1 (by simpa using e1) (by simpa using e2)
    exact ⟨a, fun q hq => by rw [FTA]; exact .inr (b q hq)⟩
/-- what stands at a place -/
theorem RT.at : ∀ {js : List Nat} {t : T} {v w : V} {t0 : T}, RT K B H t v → ValAt K H t v js w → t.at js = some t0 → RT K B H t0 w ∧ ∀ q, FT K H t0 w q → FT K H t v q
  | [], t, v, w, t0, h, e, a => by
    rw [T.at] at a
    cases a
    have : w = v := by cases t <;> exact e
    subst this
    exact ⟨h, fun _ h => h⟩
  | j :: js, .im d, v, w, t0, h, e, a => by cases a
  | j :: js, .nd k ts, v, w, t0, h, e, a => by
    rw [RT] at h
    obtain ⟨p, vs, fp, rfl, hc, hr, hn⟩ := h
    obtain ⟨p', vs', fp', z, hc', t', v', e1, e2, e3⟩ := e
    cases z
    obtain ⟨rfl, rfl⟩ := cell_one hc hc'
    obtain ⟨r1, r2⟩ := hr.get e1 e2
    have a' : t'.at js = some t0 := by
      rw [T.at, e1] at a
      exact a
    obtain ⟨s1, s2⟩ := RT.at r1 e3 a'
    exact ⟨s1, fun q hq => by rw [FT]; exact ⟨_, _, _, rfl, hc, .inr (r2 q (s2 q hq))⟩⟩
theorem ValAt.move : ∀ {js : List Nat} {t : T} {v w : V}, RT K B H t v → (∀ q, FT K H t v q → H' q = H q) → ValAt K H t v js w → ValAt K H' t v js w
  | [], t, v, w, h, m, e => by cases t <;> exact e
  | j :: js, .im d, v, w, h, m, e => e.elim
  | j :: js, .nd k ts, v, w, h, m, e => by
    rw [RT] at h
    obtain ⟨p, vs, fp, rfl, hc, hr, hn⟩ := h
    obtain ⟨p', vs', fp', z, hc', t', v', e1, e2, e3⟩ := e
    cases z
    obtain ⟨rfl, rfl⟩ := cell_one hc hc'
    obtain ⟨r1, r2⟩ := hr.get e1 e2
    refine ⟨_, _, _, rfl, cell_at hc fun q hq => m q (by rw [FT]; exact ⟨_, _, _, rfl, hc, .inl hq⟩), t', v', e1, e2, ValAt.move r1 (fun q hq => m q ?_) e3⟩
    rw [FT]
    exact ⟨_, _, _, rfl, hc, .inr (r2 q hq)⟩
/-- one of some trees is changed -/
theorem RTA.setAt : ∀ {ts : List T} {vs : List V} {j : Nat} {t t1 : T} {v : V}, RTA K B H ts vs → ts[j]? = some t → vs[j]? = some v → (∀ q, ¬ FT K H t v q → H q ≠ none → H' q = H q) → RT K B H' t1 v → (∀ q, FT K H' t1 v q → FT K H t v q ∨ H q = none) →
    RTA K B H' (ts.set j t1) vs ∧ ∀ q, FTA K H' (ts.set j t1) vs q → FTA K H ts vs q ∨ H q = none
  | [], _, _, _, _, _, _, e, _, _, _, _ => by simp at e
  | _ :: _, [], _, _, _, _, h, _, _, _, _, _ => by rw [RTA] at h; exact h.elim
  | t0 :: ts, v0 :: vs, 0, t, t1, v, h, e1, e2, m, n1, n2 => by
    simp at e1 e2
    subst e1; subst e2
    rw [RTA] at h
    obtain ⟨h1, h2, h3⟩ := h
    obtain ⟨a, b⟩ := RTA.move (B' := B) (H' := H') ts vs h2 (Same.refl _) fun q hq => by
      obtain ⟨u, hu, _⟩ := RTA.kind ts vs h2 q hq
      exact m q (fun z => h3 q z hq) (by rw [hu]; simp)
    rw [List.set_cons_zero]
    constructor
    · rw [RTA]
      refine ⟨n1, a, fun q hq z => ?_⟩
      have z' := (b q).mp z
      rcases n2 q hq with y | y
      · exact h3 q y z'
      · obtain ⟨u, hu, _⟩ := RTA.kind ts vs h2 q z'
        rw [y] at hu
        cases hu
    · intro q hq
      rw [FTA] at hq ⊢
      rcases hq with hq | hq
      · exact (n2 q hq).imp .inl id
      · exact .inl (.inr ((b q).mp hq))
  | t0 :: ts, v0 :: vs, j + 1, t, t1, v, h, e1, e2, m, n1, n2 => by
    rw [RTA] at h
    obtain ⟨h1, h2, h3⟩ := h
    obtain ⟨g1, g2⟩ := h2.get (j := j) (by simpa using e1) (by simpa using e2)
    obtain ⟨a, b⟩ := RTA.setAt (j := j) h2 (by simpa using e1) (by simpa using e2) m n1 n2
    obtain ⟨c, d⟩ := RT.move (B' := B) (H' := H') t0 v0 h1 (Same.refl _) fun q hq => by
      obtain ⟨u, hu, _⟩ := RT.kind t0 v0 h1 q hq
      exact m q (fun z => h3 q hq (g2 q z)) (by rw [hu]; simp)
    rw [List.set_cons_succ]
    constructor
    · rw [RTA]
      refine ⟨c, a, fun q hq z => ?_⟩
      have hq' := (d q).mp hq
      rcases b q z with y | y
      · exact h3 q hq' y
      · obtain ⟨u, hu, _⟩ := RT.kind t0 v0 h1 q hq'
        rw [y] at hu
        cases hu
    · intro q hq
      rw [FTA] at hq ⊢
      rcases hq with hq | hq
      · exact .inl (.inl ((d q).mp hq))
      · exact (b q hq).imp .inr id
/-- the tree at a place is changed -/
theorem RT.putAt : ∀ {js : List Nat} {t : T} {v w : V} {t0 t1 : T}, RT K B H t v → ValAt K H t v js w → t.at js = some t0 → (∀ q, ¬ FT K H t0 w q → H q ≠ none → H' q = H q) → RT K B H' t1 w → (∀ q, FT K H' t1 w q → FT K H t0 w q ∨ H q = none) →
    RT K B H' (t.put js t1) v ∧ ∀ q, FT K H' (t.put js t1) v q → FT K H t v q ∨ H q = none
  | [], t, v, w, t0, t1, h, e, a, m, n1, n2 => by
    rw [T.at] at a
    cases a
    have : w = v := by cases t <;> exact e
    subst this
    rw [T.put]
    exact ⟨n1, n2⟩
  | j :: js, .im d, v, w, t0, t1, h, e, a, m, n1, n2 => by cases a
  | j :: js, .nd k ts, v, w, t0, t1, h, e, a, m, n1, n2 => by
    rw [RT] at h
    obtain ⟨p, vs, fp, rfl, hc, hr, hn⟩ := h
    obtain ⟨p', vs', fp', z, hc', t', v', e1, e2, e3⟩ := e
    cases z
    obtain ⟨rfl, rfl⟩ := cell_one hc hc'
    obtain ⟨r1, r2⟩ := hr.get e1 e2
    have a' : t'.at js = some t0 := by
      rw [T.at, e1] at a
      exact a
    obtain ⟨s1, s2⟩ := RT.at r1 e3 a'
    obtain ⟨x1, x2⟩ := RT.putAt r1 e3 a' m n1 n2
    obtain ⟨y1, y2⟩ := hr.setAt e1 e2 (fun q hq => m q fun z => hq (s2 q z)) x1 x2
    have hc2 := cell_at (H' := H') hc fun q hq => by
      obtain ⟨u, hu, _⟩ := cell_kind hc q hq
      exact m q (fun z => hn q hq (r2 q (s2 q z))) (by rw [hu]; simp)
    rw [T.put, e1]
    constructor
    · rw [RT]
      refine ⟨_, _, _, rfl, hc2, y1, fun q hq z => ?_⟩
      rcases y2 q z with y | y
      · exact hn q hq y
      · obtain ⟨u, hu, _⟩ := cell_kind hc q hq
        rw [y] at hu
        cases hu
    · intro q hq
      rw [FT] at hq ⊢
      obtain ⟨p', vs'', fp'', z, hc3, hq⟩ := hq
      cases z
      obtain ⟨rfl, rfl⟩ := cell_one hc2 hc3
      rcases hq with hq | hq
      · exact .inl ⟨_, _, _, rfl, hc, .inl hq⟩
      · rcases y2 q hq with y | y
        · exact .inl ⟨_, _, _, rfl, hc, .inr y⟩
        · exact .inr y
end
def O.ofT : T → O
  | .im d => .im d
  | .nd k ts => .tr k ts
section
variable {K : PySem.W.Frag} {B0 H0 B H B' H' : Hp} {σ : L2.St} {δ : DS}
theorem SR.ofT {t : T} {v : V} (h : RT K B H t v) (n : ∀ q, FT K H t v q → H0 q = none ∧ B q = none) : SR K H0 B H v (O.ofT t) := by
  cases t with
  | im d => rw [RT] at h; exact h
  | nd k ts => exact ⟨h, n⟩
theorem Ft.ofT {t : T} {v : V} {q : Addr} : Ft K H v q (O.ofT t) ↔ FT K H t v q := by
  cases t with
  | im d => rw [FT]; exact Iff.rfl
  | nd k ts => exact Iff.rfl
/-- a slot takes a new tree -/
theorem Rel.setT {t : T} {v : V} (r : Rel K B0 H0 B H σ δ) (i : Nat) (g : Grow B H B' H') (h : RT K B' H' t v) (n : ∀ q, FT K H' t v q → H q = none ∧ B' q = none) : Rel K B0 H0 B' H' (σ.set i (some v)) (δ.set i (some (O.ofT t))) :=
  (r.mono g).setO i (SR.ofT h fun q hq => ⟨r.g.free (n q hq).1, (n q hq).2⟩) fun j o' w _ e e' q hq => r.free' g (n q (Ft.ofT.mp hq)).1 j o' w e e'
/-- the tree at slot i is changed at a place -/
theorem Rel.putT {k : NK} {ts : List T} {i : Nat} {js : List Nat} {v w : V} {t0 t1 : T} (r : Rel K B0 H0 B H σ δ) (e : δ[i]? = some (some (.tr k ts))) (es : σ[i]? = some (some v)) (va : ValAt K H (.nd k ts) v js w) (a : (T.nd k ts).at js = some t0)
    (g : Grow B0 H0 B H') (m : ∀ q, ¬ FT K H t0 w q → H q ≠ none → H' q = H q) (n1 : RT K B H' t1 w) (n2 : ∀ q, FT K H' t1 w q → FT K H t0 w q ∨ H q = none) :
    Rel K B0 H0 B H' σ (δ.set i (some (O.ofT ((T.nd k ts).put js t1)))) := by
  obtain ⟨v', h1, hsr⟩ := r.sl i _ e
  rw [es] at h1
  cases h1
  obtain ⟨s1, s2⟩ := RT.at hsr.1 va a
  obtain ⟨x1, x2⟩ := RT.putAt hsr.1 va a m n1 n2
  have := r.chg (z := some (O.ofT ((T.nd k ts).put js t1))) (v' := v) e es g (Same.refl _) (fun q hq hn => ⟨m q (fun z => hq (s2 q z)) hn, rfl⟩) fun o' z => by
    cases z
    refine ⟨SR.ofT x1 fun q hq => ?_, fun q hq => x2 q (Ft.ofT.mp hq)⟩
    rcases x2 q hq with y | y
    · exact hsr.2 q y
    · have h0 : H0 q = none := r.g.free y
      exact ⟨h0, r.g.i.free y⟩
  rw [set_same es] at this
  exact this
end
end DV
namespace DV
open PySem L2
section
variable {K : PySem.W.Frag} {B0 H0 B H B' H' : Hp} {σ : L2.St} {δ : DS}
theorem RT.grow {t : T} {v : V} (h : RT K B H t v) (n : ∀ q, FT K H t v q → B q = none) (g : Grow B H B' H') : RT K B' H' t v ∧ (∀ q, FT K H' t v q ↔ FT K H t v q) ∧ ∀ q, FT K H' t v q → B' q = none := by
  obtain ⟨a, b⟩ := RT.move (B' := B') (H' := H') t v h g.b fun q hq => by
    obtain ⟨u, hu, k⟩ := RT.kind t v h q hq
    rw [hu]
    exact g.h _ _ hu k.tbl
  refine ⟨a, b, fun q hq => ?_⟩
  have hq' := (b q).mp hq
  obtain ⟨u, hu, k⟩ := RT.kind t v h q hq'
  rw [g.f q (by rw [hu]; simp)]
  exact n q hq'
theorem RTA.grow {ts : List T} {vs : List V} (h : RTA K B H ts vs) (n : ∀ q, FTA K H ts vs q → B q = none) (g : Grow B H B' H') : RTA K B' H' ts vs ∧ (∀ q, FTA K H' ts vs q ↔ FTA K H ts vs q) ∧ ∀ q, FTA K H' ts vs q → B' q = none := by
  obtain ⟨a, b⟩ := RTA.move (B' := B') (H' := H') ts vs h g.b fun q hq => by
    obtain ⟨u, hu, k⟩ := RTA.kind ts vs h q hq
    rw [hu]
    exact g.h _ _ hu k.tbl
  refine ⟨a, b, fun q hq => ?_⟩
  have hq' := (b q).mp hq
  obtain ⟨u, hu, k⟩ := RTA.kind ts vs h q hq'
  rw [g.f q (by rw [hu]; simp)]
  exact n q hq'
theorem FTA.snoc : ∀ {ts : List T} {vs : List V} {t : T} {v : V} (hl : vs.length = ts.length) (q : Addr), FTA K H (ts ++ [t]) (vs ++ [v]) q ↔ FTA K H ts vs q ∨ FT K H t v q
  | [], [], t, v, _, q => by rw [List.nil_append, List.nil_append, FTA, FTA, FTA]; simp
  | [], _ :: _, _, _, hl, _ => by simp at hl
  | _ :: _, [], _, _, hl, _ => by simp at hl
  | t0 :: ts, v0 :: vs, t, v, hl, q => by
    rw [List.cons_append, List.cons_append, FTA, FTA, FTA.snoc (by simpa using hl), or_assoc]
theorem RTA.snoc : ∀ {ts : List T} {vs : List V} {t : T} {v : V}, RTA K B H ts vs → RT K B H t v → (∀ q, FTA K H ts vs q → ¬ FT K H t v q) → RTA K B H (ts ++ [t]) (vs ++ [v])
  | [], [], t, v, _, h, _ => by rw [List.nil_append, List.nil_append, RTA]; exact ⟨h, by rw [RTA]; trivial, fun q _ z => by rw [FTA] at z; exact z⟩
  | [], _ :: _, _, _, h, _, _ => by rw [RTA] at h; exact h.elim
  | _ :: _, [], _, _, h, _, _ => by rw [RTA] at h; exact h.elim
  | t0 :: ts, v0 :: vs, t, v, h, h1, n => by
    rw [RTA] at h
    obtain ⟨a, b, c⟩ := h
    rw [List.cons_append, List.cons_append, RTA]
    refine ⟨a, RTA.snoc b h1 fun q hq => n q (by rw [FTA]; exact .inr hq), fun q hq z => ?_⟩
    rcases (FTA.snoc b.length q).mp z with z | z
    · exact c q hq z
    · exact n q (by rw [FTA]; exact .inl hq) z
theorem FTA.ims : ∀ (ds : List D) (vs : List V) (q : Addr), ¬ FTA K H (ds.map T.im) vs q
  | [], _, q, z => by rw [List.map_nil, FTA] at z; exact z
  | _ :: _, [], q, z => by rw [List.map_cons, FTA] at z; exact z
  | d :: ds, v :: vs, q, z => by
    rw [List.map_cons, FTA, FT] at z
    rcases z with z | z
    · exact z
    · exact FTA.ims ds vs q z
theorem RTA.ims : ∀ {ds : List D} {vs : List V}, RpA K B vs ds → RTA K B H (ds.map T.im) vs
  | _, _, .nil => by rw [List.map_nil, RTA]; trivial
  | _, _, .cons (d := d) (ds := ds) (vs := vs) h r => by
    rw [List.map_cons, RTA, RT]
    exact ⟨h, RTA.ims r, fun q z => by rw [FT] at z; exact z.elim⟩
theorem RTA.of_ims : ∀ {ds : List D} {vs : List V}, RTA K B H (ds.map T.im) vs → RpA K B vs ds
  | [], [], _ => .nil
  | [], _ :: _, h => by rw [List.map_nil, RTA] at h; exact h.elim
  | _ :: _, [], h => by rw [List.map_cons, RTA] at h; exact h.elim
  | d :: ds, v :: vs, h => by
    rw [List.map_cons, RTA, RT] at h
    exact .cons h.1 (RTA.of_ims h.2.1)
/-- a new list of data, as a tree -/
theorem RT.lst {p : Addr} {vs : List V} {ds : List D} (h : H p = some (.lst vs)) (r : RpA K B vs ds) : RT K B H (.nd .ls (ds.map T.im)) (.ref p) := by
  rw [RT]
  exact ⟨p, vs, [p], rfl, ⟨h, rfl⟩, RTA.ims r, fun q _ z => FTA.ims ds vs q z⟩
theorem FT.lst {p : Addr} {ds : List D} {q : Addr} (z : FT K H (.nd .ls (ds.map T.im)) (.ref p) q) : q = p := by
  rw [FT] at z
  obtain ⟨p', vs, fp, e, hc, z⟩ := z
  cases e
  rcases z with z | z
  · rw [hc.2] at z
    exact List.mem_singleton.mp z
  · exact (FTA.ims ds vs q z).elim
end

/-! ### expressions that give new trees -/
section
variable (K : PySem.W.Frag)
def PostN (B H : Hp) (σ : L2.St) (W : WX) (Q : VK) : Res T → Prop
  | .ok t => ∀ v B' H', Grow B H B' H' → RT K B' H' t v → (∀ q, FT K H' t v q → H q = none ∧ B' q = none) → Q v H'
  | .er x => ∀ c dx B' H', Grow B H B' H' → RpX K B' c dx x → W c dx σ H'
  | .no => False
def PostNA (B H : Hp) (σ : L2.St) (W : WX) (Q : List V → Hp → Prop) : Res (List T) → Prop
  | .ok ts => ∀ vs B' H', Grow B H B' H' → RTA K B' H' ts vs → (∀ q, FTA K H' ts vs q → H q = none ∧ B' q = none) → Q vs H'
  | .er x => ∀ c dx B' H', Grow B H B' H' → RpX K B' c dx x → W c dx σ H'
  | .no => False
def SN (W : WX) (t : TE) (f : DS → Res T) : Prop := ∀ B0 H0 δ σ B H (Q : VK), Rel K B0 H0 B H σ δ → PostN K B H σ W Q (f δ) → t σ H Q
def SNA (W : WX) (t : TA) (f : DS → Res (List T)) : Prop := ∀ B0 H0 δ σ B H (Q : List V → Hp → Prop), Rel K B0 H0 B H σ δ → PostNA K B H σ W Q (f δ) → t σ H Q
end
structure CN (X : Cx) (W : WX) (e : Expr) (t : TE) (f : DS → Res T) : Prop where
  pe : PE X e t
  sn : SN X.K W t f
structure CNA (X : Cx) (W : WX) (es : List Expr) (t : TA) (f : DS → Res (List T)) : Prop where
  pa : PA X es t
  sa : SNA X.K W t f
  ln : ∀ δ ts, f δ = .ok ts → ts.length = es.length
section
variable {X : Cx} {W : WX} {K : PySem.W.Frag}
def cNim (f : DS → Res D) : DS → Res T := fun δ => (f δ).bind fun d => .ok (.im d)
theorem cn_e {e : Expr} {t : TE} {f : DS → Res D} (h : CE X W e t f) : CN X W e t (cNim f) := ⟨h.pe, fun B0 H0 δ σ B H Q rel hp => by
  unfold cNim at hp
  refine h.se B0 H0 δ σ B H Q rel ?_
  cases e1 : f δ with
  | no => rw [e1] at hp; exact hp
  | er x => rw [e1] at hp; exact hp
  | ok d =>
    rw [e1, Res.bind_ok] at hp
    exact fun v B' H' g r => hp v B' H' g (by rw [RT]; exact r) (fun q z => by rw [FT] at z; exact z.elim)⟩
def cNl (f : DS → Res (List D)) : DS → Res T := fun δ => (f δ).bind fun ds => .ok (.nd .ls (ds.map T.im))
theorem sn_l {t : TE} {f : DS → Res (List D)} (h : SF K W t f) : SN K W t (cNl f) := fun B0 H0 δ σ B H Q rel hp => by
  unfold cNl at hp
  refine h B0 H0 δ σ B H Q rel ?_
  cases e1 : f δ with
  | no => rw [e1] at hp; exact hp
  | er x => rw [e1] at hp; exact hp
  | ok ds =>
    rw [e1, Res.bind_ok] at hp
    exact fun p vs B' H' g h0 hb hh r => hp (.ref p) B' H' g (RT.lst hh r) (fun q z => by rw [FT.lst z]; exact ⟨h0, hb⟩)
theorem cn_l {e : Expr} {t : TE} {f : DS → Res (List D)} (h : CF X W e t f) : CN X W e t (cNl f) := ⟨h.pe, sn_l h.sf⟩
def cNnil : DS → Res (List T) := fun _ => .ok []
def cNcons (f : DS → Res T) (g : DS → Res (List T)) : DS → Res (List T) := fun δ => (f δ).bind fun x => (g δ).bind fun xs => .ok (x :: xs)
theorem cna_nil : CNA X W [] tNil cNnil := ⟨pa_nil, fun B0 H0 δ σ B H Q rel hp => hp [] B H (Grow.refl rel.g.i) (by rw [RTA]; trivial) (fun q z => by rw [FTA] at z; exact z.elim), fun δ ts h => by cases h; rfl⟩
theorem sna_cons {te : TE} {t : TA} {f : DS → Res T} {g : DS → Res (List T)} (ha : SN K W te f) (hb : SNA K W t g) : SNA K W (tCons te t) (cNcons f g) := fun B0 H0 δ σ B H Q rel hp => by
  unfold cNcons at hp
  refine ha B0 H0 δ σ B H _ rel ?_
  cases e : f δ with
  | no => rw [e] at hp; exact hp
  | er x => rw [e] at hp; exact hp
  | ok d =>
    rw [e, Res.bind_ok] at hp
    intro v B1 H1 g1 r1 n1
    refine hb B0 H0 δ σ B1 H1 _ (rel.mono g1) ?_
    cases e2 : g δ with
    | no => rw [e2] at hp; exact hp
    | er x => rw [e2] at hp; exact fun c dx B' H' g' rp => hp c dx B' H' (g1.trans g') rp
    | ok ds =>
      rw [e2, Res.bind_ok] at hp
      intro vs B2 H2 g2 r2 n2
      obtain ⟨a, b, c⟩ := r1.grow (fun q hq => (n1 q hq).2) g2
      refine hp _ B2 H2 (g1.trans g2) (by
        rw [RTA]
        refine ⟨a, r2, fun q hq z => ?_⟩
        obtain ⟨u, hu, _⟩ := RT.kind _ _ r1 q ((b q).mp hq)
        rw [(n2 q z).1] at hu
        cases hu) fun q hq => ?_
      rw [FTA] at hq
      rcases hq with hq | hq
      · exact ⟨(n1 q ((b q).mp hq)).1, c q hq⟩
      · exact ⟨g1.free (n2 q hq).1, (n2 q hq).2⟩
theorem cna_cons {e : Expr} {es : List Expr} {te : TE} {t : TA} {f : DS → Res T} {g : DS → Res (List T)} (ha : CN X W e te f) (hb : CNA X W es t g) (hs : starEach (e :: es) X.env = (false, eval e X.env) :: starEach es X.env := by rfl) : CNA X W (e :: es) (tCons te t) (cNcons f g) :=
  ⟨pa_cons ha.pe hb.pa hs, sna_cons ha.sn hb.sa, fun δ ds h => by
    unfold cNcons at h
    cases e1 : f δ with
    | no => rw [e1] at h; cases h
    | er x => rw [e1] at h; cases h
    | ok d =>
      rw [e1, Res.bind_ok] at h
      cases e2 : g δ with
      | no => rw [e2] at h; cases h
      | er x => rw [e2] at h; cases h
      | ok ds' =>
        rw [e2, Res.bind_ok] at h
        cases h
        simp [hb.ln δ ds' e2]⟩
/-- [e, ..], with new things in it -/
def cNlst (f : DS → Res (List T)) : DS → Res T := fun δ => (f δ).bind fun ts => .ok (.nd .ls ts)
theorem cn_lst {es : List Expr} {pos : Pos} {t : TA} {f : DS → Res (List T)} (h : CNA X W es t f) (hl : es.length ≤ sizeLine := by decide) : CN X W (.List es pos) (tLst t) (cNlst f) :=
  ⟨pe_lst h.pa, fun B0 H0 δ σ B H Q rel hp => by
    unfold cNlst at hp
    refine h.sa B0 H0 δ σ B H _ rel ?_
    cases e : f δ with
    | no => rw [e] at hp; exact hp
    | er x => rw [e] at hp; exact hp
    | ok ts =>
      rw [e, Res.bind_ok] at hp
      intro vs B1 H1 g1 r1 n1
      refine ⟨by rw [r1.length, h.ln δ ts e]; exact hl, fun p hp' => ?_⟩
      have ne : ∀ q, FTA X.K H1 ts vs q → q ≠ p := fun q hq z => by
        obtain ⟨u, hu, _⟩ := RTA.kind _ _ r1 q hq
        rw [z, hp'] at hu
        cases hu
      obtain ⟨a, b⟩ := RTA.move (B' := B1) (H' := upd H1 p (.lst vs)) ts vs r1 (Same.refl _) fun q hq => upd_ne (ne q hq)
      refine hp (.ref p) B1 _ (g1.trans (Grow.raw g1.i hp')) (by
        rw [RT]
        exact ⟨p, vs, [p], rfl, ⟨upd_same, rfl⟩, a, fun q hq z => ne q ((b q).mp z) (List.mem_singleton.mp hq)⟩) fun q hq => ?_
      rw [FT] at hq
      obtain ⟨p', vs', fp, e', hc, hq⟩ := hq
      cases e'
      obtain ⟨hc1, rfl⟩ := hc
      rw [upd_same] at hc1
      cases hc1
      rcases hq with hq | hq
      · rw [List.mem_singleton.mp hq]
        exact ⟨g1.free hp', g1.i.free hp'⟩
      · exact n1 q ((b q).mp hq)⟩
/-- x = a new tree -/
def cOwnN (i : Nat) (f : DS → Res T) : DS → Fl := fun δ => stE (f δ) δ fun t => .nx (δ.set i (some (O.ofT t)))
theorem ss_ownN {i : Nat} {t : TE} {f : DS → Res T} (h : SN K W t f) : SS K W (tAsg t (gName i)) (cOwnN i f) := fun B0 H0 δ σ B H E rel hp => by
  unfold cOwnN at hp
  refine h B0 H0 δ σ B H _ rel ?_
  cases e : f δ with
  | no => rw [e] at hp; exact hp
  | er x => rw [e] at hp; exact fun c dx B' H' g rp => hp c dx σ B' H' g.b (rel.mono g) rp
  | ok t =>
    rw [e, stE_ok] at hp
    intro v B' H' g r n
    exact hp _ B' H' g.b (rel.setT i g r n)
theorem cs_ownN (i : Nat) {x : Str} {e : Expr} {t : TE} {f : DS → Res T} {pos pos' : Pos} (hN : X.N.Nodup) (he : CN X W e t f) (hi : X.N[i]? = some x := by rfl) (hx : Loc X.env.scope x := by first | exact Or.inl rfl | exact Or.inr rfl)
    (hs : swapsWith e (some (.Name x pos')) pos.line X.env = pure false := by rfl) (hf : X.fn x = true ∨ X.env.scope.names.lookup x = some .local := by first | exact .inl rfl | exact .inr rfl | assumption) :
    CS X W (.Assign [.Name x pos'] e pos) (tAsg t (gName i)) (cOwnN i f) := ⟨ps_set hN hi hx he.pe hs hf, ss_ownN he.sn⟩
end
end DV
namespace DV
open PySem L2
/-! ### expressions that tell a place in an own tree -/
def nodeAt (δ : DS) (i : Nat) (js : List Nat) : Option T := match δ[i]? with
  | some (some (.tr k ts)) => (T.nd k ts).at js
  | _ => none
def putAt (δ : DS) (i : Nat) (js : List Nat) (t : T) : DS := match δ[i]? with
  | some (some (.tr k ts)) => δ.set i (some (O.ofT ((T.nd k ts).put js t)))
  | _ => δ
/-- v is at the place js of slot i -/
def AtP (K : PySem.W.Frag) (H : Hp) (σ : L2.St) (δ : DS) (i : Nat) (js : List Nat) (v : V) : Prop := ∀ k ts v0, δ[i]? = some (some (.tr k ts)) → σ[i]? = some (some v0) → ValAt K H (.nd k ts) v0 js v
section
variable (K : PySem.W.Frag)
def PostP (B H : Hp) (σ : L2.St) (δ : DS) (W : WX) (Q : VK) : Res (Nat × List Nat) → Prop
  | .ok p => ∀ v B' H', Grow B H B' H' → AtP K H' σ δ p.1 p.2 v → Q v H'
  | .er x => ∀ c dx B' H', Grow B H B' H' → RpX K B' c dx x → W c dx σ H'
  | .no => False
def SP (W : WX) (t : TE) (f : DS → Res (Nat × List Nat)) : Prop := ∀ B0 H0 δ σ B H (Q : VK), Rel K B0 H0 B H σ δ → PostP K B H σ δ W Q (f δ) → t σ H Q
end
structure CP (X : Cx) (W : WX) (e : Expr) (t : TE) (f : DS → Res (Nat × List Nat)) : Prop where
  pe : PE X e t
  sp : SP X.K W t f
section
variable {K : PySem.W.Frag} {B0 H0 B H B' H' : Hp} {σ : L2.St} {δ : DS}
theorem ValAt.snoc : ∀ {js : List Nat} {t : T} {v u w : V} {k : NK} {ts : List T} {j : Nat} {p : Addr} {vs : List V} {fp : List Addr} {t' : T}, ValAt K H t v js u → t.at js = some (.nd k ts) → u = .ref p → cell K H p vs fp k → ts[j]? = some t' → vs[j]? = some w → ValAt K H t v (js ++ [j]) w
  | [], t, v, u, w, k, ts, j, p, vs, fp, t', h, a, hu, hc, e1, e2 => by
    rw [T.at] at a
    cases a
    have : u = v := h
    subst this
    exact ⟨p, vs, fp, hu, hc, t', w, e1, e2, by cases t' <;> rfl⟩
  | j0 :: js, .im d, v, u, w, k, ts, j, p, vs, fp, t', h, a, hu, hc, e1, e2 => h.elim
  | j0 :: js, .nd k0 ts0, v, u, w, k, ts, j, p, vs, fp, t', h, a, hu, hc, e1, e2 => by
    obtain ⟨p', vs', fp', z, hc', t1, v1, f1, f2, f3⟩ := h
    have a' : t1.at js = some (.nd k ts) := by
      rw [T.at, f1] at a
      exact a
    exact ⟨p', vs', fp', z, hc', t1, v1, f1, f2, ValAt.snoc f3 a' hu hc e1 e2⟩
theorem Rel.node {i : Nat} {js : List Nat} {t0 : T} {v : V} (r : Rel K B0 H0 B H σ δ) (n : nodeAt δ i js = some t0) (va : AtP K H σ δ i js v) :
    ∃ k ts v0, δ[i]? = some (some (.tr k ts)) ∧ σ[i]? = some (some v0) ∧ ValAt K H (.nd k ts) v0 js v ∧ (T.nd k ts).at js = some t0 ∧ RT K B H t0 v ∧ (∀ q, FT K H t0 v q → FT K H (.nd k ts) v0 q) ∧ (∀ q, FT K H (.nd k ts) v0 q → H0 q = none ∧ B q = none) := by
  unfold nodeAt at n
  split at n
  · rename_i k ts e
    obtain ⟨v0, h1, h2⟩ := r.sl i _ e
    have va' := va k ts v0 e h1
    obtain ⟨a, b⟩ := RT.at h2.1 va' n
    exact ⟨k, ts, v0, e, h1, va', n, a, b, h2.2⟩
  · cases n
theorem AtP.mono {i : Nat} {js : List Nat} {v : V} (r : Rel K B0 H0 B H σ δ) (g : Grow B H B' H') (va : AtP K H σ δ i js v) : AtP K H' σ δ i js v := fun k ts v0 e es => by
  obtain ⟨v1, h1, h2⟩ := r.sl i _ e
  rw [es] at h1
  cases h1
  refine ValAt.move h2.1 (fun q hq => ?_) (va k ts v0 e es)
  obtain ⟨u, hu, kd⟩ := RT.kind _ _ h2.1 q hq
  rw [hu]
  exact g.h _ _ hu kd.tbl
/-- an own list at a place is written -/
theorem Rel.wrL {i : Nat} {js : List Nat} {us us' : List T} {q : Addr} {ws ws' : List V} (r : Rel K B0 H0 B H σ δ) (n : nodeAt δ i js = some (.nd .ls us)) (va : AtP K H σ δ i js (.ref q)) (hq : H q = some (.lst ws)) (h1 : RTA K B H us' ws')
    (h2 : ∀ a, FTA K H us' ws' a → (FTA K H us ws a ∨ False)) : Rel K B0 H0 B (upd H q (.lst ws')) σ (putAt δ i js (.nd .ls us')) := by
  obtain ⟨k, ts, v0, e, es, va', a, rt, sub, new⟩ := r.node n va
  unfold putAt
  rw [e]
  dsimp only
  have rt' := rt
  rw [RT] at rt'
  obtain ⟨p, vs, fp, z, hc, hr, hn⟩ := rt'
  cases z
  obtain ⟨hc1, rfl⟩ := hc
  rw [hq] at hc1
  cases hc1
  have fq : FT K H (.nd .ls us) (.ref q) q := by rw [FT]; exact ⟨q, ws, [q], rfl, ⟨hq, rfl⟩, .inl (by simp)⟩
  have nq : ∀ a, FTA K H us' ws' a → a ≠ q := fun a ha z => by
    rcases h2 a ha with y | y
    · exact hn q (by simp) (z ▸ y)
    · exact y
  obtain ⟨m1, m2⟩ := RTA.move (B' := B) (H' := upd H q (.lst ws')) us' ws' h1 (Same.refl _) fun a ha => upd_ne (nq a ha)
  obtain ⟨hb0, hb⟩ := new q (sub q fq)
  refine r.putT e es va' a (r.g.poke hb0 hb hq (kind_lst _)) (fun a ha _ => upd_ne fun z => ha (z ▸ fq)) (by
    rw [RT]
    exact ⟨q, ws', [q], rfl, ⟨upd_same, rfl⟩, m1, fun a ha z => nq a ((m2 a).mp z) (List.mem_singleton.mp ha)⟩) fun a ha => ?_
  rw [FT] at ha
  obtain ⟨p', vs', fp', z, hc, ha⟩ := ha
  cases z
  obtain ⟨hc1, rfl⟩ := hc
  rw [upd_same] at hc1
  cases hc1
  rcases ha with ha | ha
  · rw [List.mem_singleton.mp ha]
    exact .inl fq
  · refine .inl ?_
    rw [FT]
    rcases h2 a ((m2 a).mp ha) with y | y
    · exact ⟨q, ws, [q], rfl, ⟨hq, rfl⟩, .inr y⟩
    · exact y.elim
end
section
variable {X : Cx} {W : WX} {K : PySem.W.Frag}
def cpVar (i : Nat) : DS → Res (Nat × List Nat) := fun δ => match δ[i]? with
  | some (some (.tr _ _)) => .ok (i, [])
  | _ => .no
theorem cp_var (i : Nat) {x : Str} {px : Pos} (hv : PE X (.Name x px) (tVar i)) : CP X W (.Name x px) (tVar i) (cpVar i) := ⟨hv, fun B0 H0 δ σ B H Q rel hp => by
  unfold cpVar at hp
  split at hp
  · rename_i k ts e
    obtain ⟨v, h1, _⟩ := rel.sl i _ e
    refine ⟨v, h1, hp v B H (Grow.refl rel.g.i) fun k' ts' v0 e' es => ?_⟩
    rw [h1] at es
    cases es
    rfl
  · exact hp.elim⟩
/-- x[k] in an own list -/
def cpIx (fa : DS → Res (Nat × List Nat)) (fb : DS → Res D) : DS → Res (Nat × List Nat) := fun δ => (fa δ).bind fun p => (fb δ).bind fun y => match nodeAt δ p.1 p.2, y with
  | some (.nd .ls ts), .v (.int k) => match ixN ts.length k with
    | some j => .ok (p.1, p.2 ++ [j])
    | none => .no
  | _, _ => .no
theorem sp_ix {ta tb : TE} {fa : DS → Res (Nat × List Nat)} {fb : DS → Res D} (ha : SP K W ta fa) (hb : SE K W tb fb) : SP K W (tOp (rIx K) ta tb) (cpIx fa fb) := fun B0 H0 δ σ B H Q rel hp => by
  unfold cpIx at hp
  refine ha B0 H0 δ σ B H _ rel ?_
  cases e1 : fa δ with
  | no => rw [e1] at hp; exact hp
  | er x => rw [e1] at hp; exact hp
  | ok p =>
    rw [e1, Res.bind_ok] at hp
    intro v B1 H1 g1 va
    refine hb B0 H0 δ σ B1 H1 _ (rel.mono g1) ?_
    cases e2 : fb δ with
    | no => rw [e2] at hp; exact hp
    | er x => rw [e2] at hp; exact fun c dx B' H' g' rp => hp c dx B' H' (g1.trans g') rp
    | ok y =>
      rw [e2, Res.bind_ok] at hp
      intro u B2 H2 g2 r2
      split at hp
      · rename_i ts k hn
        split at hp
        · rename_i j hj
          have rel2 := (rel.mono g1).mono g2
          have va2 := va.mono (rel.mono g1) g2
          obtain ⟨k0, ts0, v0, e, es, va', a, rt, sub, new⟩ := rel2.node hn va2
          rw [RT] at rt
          obtain ⟨q, vs, fp, rfl, hc, hr, hnn⟩ := rt
          cases r2
          have hl : vs.length = ts.length := hr.length
          have hj' : j < vs.length := by rw [hl]; exact (ixN_seq hj).2.1
          refine .inl ⟨q, vs, k, vs[j], rfl, rfl, SqL.of hc.1, by unfold atI; rw [hl, hj]; simp [hj'], hp vs[j] B2 H2 (g1.trans g2) fun k1 ts1 v1 e' es' => ?_⟩
          rw [e] at e'
          cases e'
          rw [es] at es'
          cases es'
          exact ValAt.snoc va' a rfl hc (List.getElem?_eq_getElem (by omega)) (List.getElem?_eq_getElem hj')
        · exact hp.elim
      · exact hp.elim
theorem cp_ix (K : PySem.W.Frag) (hK : X.K = K) {a b : Expr} {pos : Pos} {ta tb : TE} {fa : DS → Res (Nat × List Nat)} {fb : DS → Res D} (ha : CP X W a ta fa) (hb : CE X W b tb fb) (hs : PlainIx b := by exact fun _ _ => rfl) : CP X W (.Subscript a b pos) (tOp (rIx K) ta tb) (cpIx fa fb) := by
  subst hK
  exact ⟨pe_ix ix_seq ha.pe hb.pe hs, sp_ix ha.sp hb.se⟩
/-- x.append(e), x an own list at a place -/
def cTapp (fp : DS → Res (Nat × List Nat)) (f : DS → Res D) : DS → Fl := fun δ => match fp δ with
  | .ok p => match nodeAt δ p.1 p.2 with
    | some (.nd .ls us) => stE (f δ) δ fun d => if us.length < sizeLine then .nx (putAt δ p.1 p.2 (.nd .ls (us ++ [.im d]))) else .no
    | _ => .no
  | _ => .no
theorem cs_tapp {o e : Expr} {to t : TE} {fp : DS → Res (Nat × List Nat)} {f : DS → Res D} {apos cpos pos : Pos} (ho : CP X W o to fp) (he : CE X W e t f)
    (hbase : attributeBase o "append" X.env (eval o X.env) = eval o X.env := by rfl)
    (hfew : ((backTo cpos (starEach [e] X.env)).all (fun x => !x.1) && (backToKw cpos (keywordEach [] X.env)).all (fun x => x.1.isSome) && decide ([e].length + ([] : List Keyword).length + (if ([] : List Keyword).isEmpty then 0 else 1) < 30)) = true := by rfl)
    (hline : (apos.endLine == cpos.line) = true := by rfl) (hst : starEach [e] X.env = (false, eval e X.env) :: starEach [] X.env := by rfl) (hplain : (backTo cpos (starEach [] X.env)).any (·.1) = false := by rfl) (hs : swapsWith (.Call (.Attribute o "append" apos) [e] [] cpos) none pos.line X.env = pure false := by rfl) :
    CS X W (.Expr (.Call (.Attribute o "append" apos) [e] [] cpos) pos) (tDrop (tBM X.K "list" rAppend to (tCons t tNil))) (cTapp fp f) :=
  ⟨ps_expr (pe_bm PySem.F.plainAttrs_list PySem.F.slot_list_append PySem.F.type_list_append mt_append ho.pe (pa_cons he.pe pa_nil hst) hbase hfew hline hst hplain) hs, fun B0 H0 δ σ B H E rel hp => by
    unfold cTapp at hp
    refine ho.sp B0 H0 δ σ B H _ rel ?_
    cases e0 : fp δ with
    | no => rw [e0] at hp; exact hp.elim
    | er x => rw [e0] at hp; exact hp.elim
    | ok p =>
      rw [e0] at hp
      dsimp only at hp
      intro v B1 H1 g1 va
      split at hp
      case h_2 => exact hp.elim
      case h_1 us hn =>
      obtain ⟨k0, ts0, v0, e, es, va', a, rt, sub, new⟩ := (rel.mono g1).node hn va
      rw [RT] at rt
      obtain ⟨q, ws, fp', rfl, hc, hr, hnn⟩ := rt
      refine ⟨.inl ⟨rfl, ws, SqL.of hc.1⟩, he.se B0 H0 δ σ B1 H1 _ (rel.mono g1) ?_⟩
      cases e1 : f δ with
      | no => rw [e1] at hp; exact hp.elim
      | er x => rw [e1] at hp; exact fun c dx B' H' g rp => hp c dx σ B' H' (g1.trans g).b ((rel.mono g1).mono g) rp
      | ok d =>
        rw [e1, stE_ok] at hp
        split at hp
        case isFalse => exact hp.elim
        case isTrue hz =>
        intro u B2 H2 g2 r2
        have rel2 := (rel.mono g1).mono g2
        have hq2 : H2 q = some (.lst ws) := g2.h _ _ hc.1 (fun _ z => by cases z)
        have va2 := va.mono (rel.mono g1) g2
        obtain ⟨k1, ts1, v1, e', es', va1, a1, rt1, sub1, new1⟩ := rel2.node hn va2
        rw [RT] at rt1
        obtain ⟨q', ws', fp2, z, hc2, hr2, hn2⟩ := rt1
        cases z
        have hc3 := hc2.1
        rw [hq2] at hc3
        cases hc3
        refine ⟨q, ws, u, rfl, rfl, hq2, by rw [hr2.length]; exact hz, ?_⟩
        refine hp σ B2 _ (g1.b.trans g2.b) (rel2.wrL hn va2 hq2 (hr2.snoc (by rw [RT]; exact r2) (fun q _ z => by rw [FT] at z; exact z)) fun b hb => ?_)
        rcases (FTA.snoc hr2.length b).mp hb with y | y
        · exact .inl y
        · rw [FT] at y; exact y.elim⟩
/-- x.clear(), x an own list at a place -/
def cTclr (fp : DS → Res (Nat × List Nat)) : DS → Fl := fun δ => match fp δ with
  | .ok p => match nodeAt δ p.1 p.2 with
    | some (.nd .ls _) => .nx (putAt δ p.1 p.2 (.nd .ls []))
    | _ => .no
  | _ => .no
theorem cs_tclr {o : Expr} {to : TE} {fp : DS → Res (Nat × List Nat)} {apos cpos pos : Pos} (ho : CP X W o to fp)
    (hbase : attributeBase o "clear" X.env (eval o X.env) = eval o X.env := by rfl)
    (hline : (apos.endLine == cpos.line) = true := by rfl) (hs : swapsWith (.Call (.Attribute o "clear" apos) [] [] cpos) none pos.line X.env = pure false := by rfl) :
    CS X W (.Expr (.Call (.Attribute o "clear" apos) [] [] cpos) pos) (tDrop (tBM0 X.K "list" rClear to)) (cTclr fp) :=
  ⟨ps_expr (pe_bm0 PySem.F.plainAttrs_list PySem.F.slot_list_clear PySem.F.type_list_clear mt_clear ho.pe hbase hline) hs, fun B0 H0 δ σ B H E rel hp => by
    unfold cTclr at hp
    refine ho.sp B0 H0 δ σ B H _ rel ?_
    cases e0 : fp δ with
    | no => rw [e0] at hp; exact hp.elim
    | er x => rw [e0] at hp; exact hp.elim
    | ok p =>
      rw [e0] at hp
      dsimp only at hp
      intro v B1 H1 g1 va
      split at hp
      case h_2 => exact hp.elim
      case h_1 us hn =>
      obtain ⟨k0, ts0, v0, e, es, va', a, rt, sub, new⟩ := (rel.mono g1).node hn va
      rw [RT] at rt
      obtain ⟨q, ws, fp', rfl, hc, hr, hnn⟩ := rt
      exact ⟨.inl ⟨rfl, ws, SqL.of hc.1⟩, q, ws, rfl, rfl, hc.1, hp σ B1 _ g1.b ((rel.mono g1).wrL hn va hc.1 (by rw [RTA]; trivial) (fun a z => by rw [FTA] at z; exact z.elim))⟩⟩
end
end DV
namespace DV
open PySem L2
/-! ### own dicts of own lists -/
def posK (ks : List Key) (k : Key) : Option Nat := ks.findIdx? fun x => decide (x = k)
theorem posK_val {k : Key} : ∀ {us : List (Key × V)} {j : Nat}, posK (us.map (·.1)) k = some j → ∃ v, valV us k = some v ∧ (us.map (·.2))[j]? = some v
  | [], j, h => by cases h
  | u :: us, j, h => by
    unfold posK at h
    rw [List.map_cons, List.findIdx?_cons] at h
    by_cases e : u.1 = k
    · rw [decide_eq_true e, if_pos rfl] at h
      cases h
      exact ⟨u.2, valV_pos e, rfl⟩
    · rw [decide_eq_false e, if_neg Bool.false_ne_true] at h
      cases z : List.findIdx? (fun x => decide (x = k)) (us.map (·.1)) with
      | none => rw [z] at h; cases h
      | some j' =>
        rw [z] at h
        cases h
        obtain ⟨v, h1, h2⟩ := posK_val (us := us) (j := j') z
        exact ⟨v, by rw [valV_neg e]; exact h1, by simpa using h2⟩
theorem putK_self {k : Key} {v : V} : ∀ {us : List (Key × V)}, (us.map (·.1)).Nodup → valV us k = some v → putK us k v = us := by
  intro us hn h
  unfold putK
  rw [valV_any, h]
  simp only [Option.isSome_some, if_true]
  induction us with
  | nil => rfl
  | cons u us ih =>
    rw [List.map_cons, List.nodup_cons] at hn
    rw [List.map_cons]
    by_cases e : u.1 = k
    · rw [valV_pos e] at h
      cases h
      rw [if_pos e]
      congr 1
      conv => rhs; rw [← List.map_id us]
      refine List.map_congr_left fun u' hu' => ?_
      have : ¬ u'.1 = k := fun z => hn.1 (by rw [e, ← z]; exact List.mem_map.mpr ⟨u', hu', rfl⟩)
      rw [if_neg this]
      rfl
    · rw [valV_neg e] at h
      rw [if_neg e, ih hn.2 h]
section
variable {K : PySem.W.Frag} {B0 H0 B H B' H' : Hp} {σ : L2.St} {δ : DS}
theorem FTA.appIm : ∀ {ts : List T} {vs : List V} {ds : List D} {us : List V} (hl : vs.length = ts.length) (q : Addr), FTA K H (ts ++ ds.map T.im) (vs ++ us) q → FTA K H ts vs q
  | [], [], ds, us, _, q, z => by
    rw [List.nil_append, List.nil_append] at z
    exact (FTA.ims ds us q z).elim
  | [], _ :: _, _, _, hl, _, _ => by simp at hl
  | _ :: _, [], _, _, hl, _, _ => by simp at hl
  | t :: ts, v :: vs, ds, us, hl, q, z => by
    rw [List.cons_append, List.cons_append, FTA] at z
    rw [FTA]
    exact z.imp id (FTA.appIm (by simpa using hl) q)
theorem RTA.appIm : ∀ {ts : List T} {vs : List V} {ds : List D} {us : List V}, RTA K B H ts vs → RpA K B us ds → RTA K B H (ts ++ ds.map T.im) (vs ++ us)
  | [], [], ds, us, _, r => by rw [List.nil_append, List.nil_append]; exact RTA.ims r
  | [], _ :: _, _, _, h, _ => by rw [RTA] at h; exact h.elim
  | _ :: _, [], _, _, h, _ => by rw [RTA] at h; exact h.elim
  | t :: ts, v :: vs, ds, us, h, r => by
    rw [RTA] at h
    obtain ⟨a, b, c⟩ := h
    rw [List.cons_append, List.cons_append, RTA]
    exact ⟨a, RTA.appIm b r, fun q hq z => c q hq (FTA.appIm b.length q z)⟩
theorem AtP.snoc {i : Nat} {js : List Nat} {v w : V} {k : NK} {ts : List T} {j : Nat} {p : Addr} {vs : List V} {fp : List Addr} {t' : T} (va : AtP K H σ δ i js v) (n : nodeAt δ i js = some (.nd k ts)) (hv : v = .ref p) (hc : cell K H p vs fp k) (e1 : ts[j]? = some t') (e2 : vs[j]? = some w) : AtP K H σ δ i (js ++ [j]) w := fun k0 ts0 v0 e es => by
  have a : (T.nd k0 ts0).at js = some (.nd k ts) := by
    unfold nodeAt at n
    rw [e] at n
    exact n
  exact ValAt.snoc (va k0 ts0 v0 e es) a hv hc e1 e2
theorem T.at_snoc : ∀ {js : List Nat} {t : T} {k : NK} {ts : List T} {j : Nat}, t.at js = some (.nd k ts) → t.at (js ++ [j]) = ts[j]?
  | [], t, k, ts, j, h => by
    rw [T.at] at h
    cases h
    rw [List.nil_append, T.at]
    cases ts[j]? with
    | none => rfl
    | some t' => dsimp only; cases t' <;> rfl
  | j0 :: js, .im d, k, ts, j, h => by cases h
  | j0 :: js, .nd k0 ts0, k, ts, j, h => by
    rw [T.at] at h
    rw [List.cons_append, T.at]
    cases e : ts0[j0]? with
    | none => rw [e] at h; cases h
    | some t' =>
      rw [e] at h
      dsimp only at h ⊢
      exact T.at_snoc h
theorem node_snoc {i : Nat} {js : List Nat} {k : NK} {ts : List T} {j : Nat} (n : nodeAt δ i js = some (.nd k ts)) : nodeAt δ i (js ++ [j]) = ts[j]? := by
  unfold nodeAt at n ⊢
  split at n
  · exact T.at_snoc n
  · cases n
end
section
variable {X : Cx} {W : WX} {K : PySem.W.Frag}
/-- d[k] in an own dict -/
def cpIxD (fa : DS → Res (Nat × List Nat)) (fb : DS → Res D) : DS → Res (Nat × List Nat) := fun δ => (fa δ).bind fun p => (fb δ).bind fun y => match nodeAt δ p.1 p.2, asKey y with
  | some (.nd (.dc ks) _), some k => match posK ks k with
    | some j => .ok (p.1, p.2 ++ [j])
    | none => .no
  | _, _ => .no
theorem cp_ixD {a b : Expr} {pos : Pos} {ta tb : TE} {fa : DS → Res (Nat × List Nat)} {fb : DS → Res D} (hu : X.A.units + 64 < cLine) (ha : CP X W a ta fa) (hb : CE X W b tb fb) (hs : NoSl b := by exact fun _ _ => rfl) : CP X W (.Subscript a b pos) (tDGet ta tb) (cpIxD fa fb) :=
  ⟨pe_dget (by omega) ha.pe hb.pe hs, fun B0 H0 δ σ B H Q rel hp => by
    unfold cpIxD at hp
    refine ha.sp B0 H0 δ σ B H _ rel ?_
    cases e1 : fa δ with
    | no => rw [e1] at hp; exact hp
    | er x => rw [e1] at hp; exact hp
    | ok p =>
      rw [e1, Res.bind_ok] at hp
      intro v B1 H1 g1 va
      refine hb.se B0 H0 δ σ B1 H1 _ (rel.mono g1) ?_
      cases e2 : fb δ with
      | no => rw [e2] at hp; exact hp
      | er x => rw [e2] at hp; exact fun c dx B' H' g' rp => hp c dx B' H' (g1.trans g') rp
      | ok y =>
        rw [e2, Res.bind_ok] at hp
        intro u B2 H2 g2 r2
        split at hp
        · rename_i ks ts k hn hk
          split at hp
          · rename_i j hj
            have := asKey_of hk r2
            subst this
            have rel2 := (rel.mono g1).mono g2
            have va2 := va.mono (rel.mono g1) g2
            obtain ⟨k0, ts0, v0, e, es, va', a, rt, sub, new⟩ := rel2.node hn va2
            rw [RT] at rt
            obtain ⟨q, vs, fp, rfl, hc, hr, hnn⟩ := rt
            have hc0 := hc
            obtain ⟨us, h1, rfl, rfl, rfl⟩ := hc
            obtain ⟨w, w1, w2⟩ := posK_val hj
            refine ⟨q, w, rfl, by rw [← w1]; exact DGet.k h1, hp w B2 H2 (g1.trans g2) ?_⟩
            have hl := hr.length
            have hjl : j < ts.length := by
              rw [← hl]
              by_cases z : j < (us.map (·.2)).length
              · exact z
              · rw [List.getElem?_eq_none (by omega)] at w2; cases w2
            exact va2.snoc hn rfl hc0 (List.getElem?_eq_getElem hjl) w2
          · exact hp.elim
        · exact hp.elim⟩
/-- a[k] += [..], an own list in an own dict -/
def cAugL (fp : DS → Res (Nat × List Nat)) (fk : DS → Res D) (fv : DS → Res (List D)) : DS → Fl := fun δ => match fp δ with
  | .ok p => match nodeAt δ p.1 p.2 with
    | some (.nd (.dc ks) ts) => stE (fk δ) δ fun y => match asKey y with
      | some k => match posK ks k with
        | some j => match ts[j]? with
          | some (.nd .ls us) => stE (fv δ) δ fun ds => if ks.Nodup ∧ us.length + ds.length ≤ sizeLine ∧ ks.length < sizeLine then .nx (putAt δ p.1 (p.2 ++ [j]) (.nd .ls (us ++ ds.map T.im))) else .no
          | _ => .no
        | none => .no
      | none => .no
    | _ => .no
  | _ => .no
theorem cs_augL {o i e : Expr} {td ty tv : TE} {fp : DS → Res (Nat × List Nat)} {fk : DS → Res D} {fv : DS → Res (List D)} {tpos pos : Pos} (hu : X.A.units + 64 < cLine) (ho : CP X W o td fp) (hi : CE X W i ty fk) (hv : CF X W e tv fv)
    (ha : ∀ ov iv new, augStore i ov iv new = (do holding [new, ov, iv] (setItem ov iv new); release [new, ov, iv] []; pure .next) := by intros; rfl) :
    CS X W (.AugAssign (.Subscript o i tpos) .Add e pos) (sDAug td ty tv rExt2) (cAugL fp fk fv) :=
  ⟨ps_daug (by omega) ho.pe hi.pe hv.pe iop_ext ha, fun B0 H0 δ σ B H E rel hp => by
    unfold cAugL at hp
    refine ho.sp B0 H0 δ σ B H _ rel ?_
    cases e0 : fp δ with
    | no => rw [e0] at hp; exact hp.elim
    | er x => rw [e0] at hp; exact hp.elim
    | ok p =>
      rw [e0] at hp
      dsimp only at hp
      intro v B1 H1 g1 va
      split at hp
      case h_2 => exact hp.elim
      case h_1 ks ts hn =>
      refine hi.se B0 H0 δ σ B1 H1 _ (rel.mono g1) ?_
      cases e1 : fk δ with
      | no => rw [e1] at hp; exact hp.elim
      | er x => rw [e1] at hp; exact fun c dx B' H' g rp => hp c dx σ B' H' (g1.trans g).b ((rel.mono g1).mono g) rp
      | ok y =>
        rw [e1, stE_ok] at hp
        intro u B2 H2 g2 r2
        split at hp
        case h_2 => exact hp.elim
        case h_1 k hk =>
        split at hp
        case h_2 => exact hp.elim
        case h_1 j hj =>
        split at hp
        case h_2 => exact hp.elim
        case h_1 us htj =>
        have := asKey_of hk r2
        subst this
        have rel2 := (rel.mono g1).mono g2
        have va2 := va.mono (rel.mono g1) g2
        obtain ⟨k0, ts0, v0, e, es, va', a, rt, sub, new⟩ := rel2.node hn va2
        rw [RT] at rt
        obtain ⟨q, vs, fp, rfl, hc, hr, hnn⟩ := rt
        have hc0 := hc
        obtain ⟨xs, h1, hks, hvs, hfp⟩ := hc
        rw [← hks] at hj
        obtain ⟨w, w1, w2⟩ := posK_val hj
        rw [← hvs] at w2
        obtain ⟨rl, sub2⟩ := hr.get htj w2
        rw [RT] at rl
        obtain ⟨l, ws, fp2, rfl, hcl, hrl, hnl⟩ := rl
        have va3 := va2.snoc hn rfl hc0 htj w2
        have hn3 : nodeAt δ p.1 (p.2 ++ [j]) = some (.nd .ls us) := by rw [node_snoc hn]; exact htj
        refine ⟨q, .ref l, rfl, by rw [← w1]; exact DGet.k h1, hv.sf B0 H0 δ σ B2 H2 _ rel2 ?_⟩
        cases e2 : fv δ with
        | no => rw [e2] at hp; exact hp.elim
        | er x => rw [e2] at hp; exact fun c dx B' H' g rp => hp c dx σ B' H' ((g1.trans g2).trans g).b (rel2.mono g) rp
        | ok ds =>
          rw [e2, stE_ok] at hp
          split at hp
          case isFalse => exact hp.elim
          case isTrue hz =>
          intro b zs B3 H3 g3 hb0 hb3 hh3 r3
          have rel3 := rel2.mono g3
          have va4 := va3.mono rel2 g3
          have hl3 : H3 l = some (.lst ws) := g3.h _ _ hcl.1 (fun _ z => by cases z)
          have hq3 : H3 q = some (.dK xs) := g3.h _ _ h1 (fun _ z => by cases z)
          have rlA : RTA X.K B3 H3 us ws := (hrl.grow (fun a ha => (new a (sub a (by rw [FT]; exact ⟨q, vs, _, rfl, hc0, .inr (sub2 a (by rw [FT]; exact ⟨l, ws, _, rfl, hcl, .inr ha⟩))⟩))).2) g3).1
          refine ⟨l, b, ws, zs, rfl, rfl, hl3, hh3, by rw [rlA.length, r3.length]; exact hz.2.1, ?_⟩
          have nlq : q ≠ l := fun z => by rw [z, hl3] at hq3; cases hq3
          refine ⟨upd H3 l (.lst (ws ++ zs)), .inl ⟨xs, k, by rw [upd_ne nlq]; exact hq3, rfl, ?_, ?_⟩, ?_⟩
          · have := hz.2.2
            rw [← hks, List.length_map] at this
            exact this
          · rw [putK_self (by rw [hks]; exact hz.1) w1]
            exact (upd_self (by rw [upd_ne nlq]; exact hq3)).symm
          · exact hp σ B3 _ ((g1.trans g2).trans g3).b (rel3.wrL hn3 va4 hl3 (rlA.appIm r3) fun a ha => .inl (FTA.appIm rlA.length a ha))⟩
/-- a new list of flat things, told by own things that are looked at -/
def flatA : List D → Bool
  | [] => true
  | .v _ :: ds => flatA ds
  | _ :: _ => false
theorem RpA.flatly {B B' : Hp} : ∀ {vs : List V} {ds : List D}, RpA K B vs ds → flatA ds = true → RpA K B' vs ds
  | _, _, .nil, _ => .nil
  | _, _, .cons (d := .v x) h r, hf => by
    cases h
    exact .cons (.v _) (RpA.flatly r hf)
  | _, _, .cons (d := .lst _) h r, hf => by cases hf
  | _, _, .cons (d := .tup _) h r, hf => by cases hf
  | _, _, .cons (d := .dct _ _) h r, hf => by cases hf
  | _, _, .cons (d := .dlk _ _) h r, hf => by cases hf
  | _, _, .cons (d := .ins _ _ _) h r, hf => by cases hf
  | _, _, .cons (d := .dtt _ _) h r, hf => by cases hf
  | _, _, .cons (d := .dtl _ _) h r, hf => by cases hf
def cLookF (i : Nat) (f : DS → Res (List D)) : DS → Res (List D) := fun δ => match f (fz i δ) with
  | .ok ds => if flatA ds then .ok ds else .no
  | _ => .no
theorem sf_look (i : Nat) {t : TE} {f : DS → Res (List D)} (h : SF K W t f) : SF K W t (cLookF i f) := fun B0 H0 δ σ B H Q rel hp => by
  unfold cLookF at hp
  obtain ⟨B', s, r⟩ := rel.fz i
  refine h B0 H0 _ σ B' H Q r ?_
  cases e1 : f (fz i δ) with
  | no => rw [e1] at hp; exact hp.elim
  | er x => rw [e1] at hp; exact hp.elim
  | ok ds =>
    rw [e1] at hp
    dsimp only at hp
    split at hp
    case isFalse => exact hp.elim
    case isTrue hf =>
    intro p vs B2 H2 g h0 hb hh rp
    have nB := rel.g.n rel.nt
    have nB' := r.g.n r.nt
    have i := rel.g.i
    refine hp p vs (fun a => if H a = none then B2 a else B a) H2 ⟨fun a o q => ?_, g.h, fun a o q => ?_, fun a ha => ?_, g.e, g.t, fun _ a ps z => ?_⟩ h0 ?_ hh (rp.flatly hf)
    · have : ¬ (H a = none) := by rw [i a o q]; simp
      show (if H a = none then B2 a else B a) = some o
      rw [if_neg this]; exact q
    · have q' : (if H a = none then B2 a else B a) = some o := q
      split at q'
      · exact g.i a o q'
      · exact g.h a o (i a o q') (fun ps z => nB a ps (by rw [q', z]))
    · show (if H a = none then B2 a else B a) = B a
      rw [if_neg ha]
    · have z' : (if H a = none then B2 a else B a) = some (.tbl ps) := z
      split at z'
      · exact g.n nB' a ps z'
      · exact nB a ps z'
    · show (if H p = none then B2 p else B p) = none
      rw [if_pos h0]
      exact hb
theorem cf_look (i : Nat) {e : Expr} {t : TE} {f : DS → Res (List D)} (h : CF X W e t f) : CF X W e t (cLookF i f) := ⟨h.pe, sf_look i h.sf⟩
/-- y = [..] while the own thing at slot j is looked at -/
theorem cs_setLcF (j i : Nat) {y : Str} {py spos : Pos} {e : Expr} {t : TE} {f : DS → Res (List D)} (h : LC X W e t f) (hsw : swapsWith e (some (.Name y py)) spos.line X.env = pure true) (hi : X.N[i]? = some y := by rfl) (hyl : X.env.scope.names.lookup y = some .local := by rfl) :
    CS X W (.Assign [.Name y py] e spos) (tAsg t (gName i)) (cAsg i (cL (cLookF j f))) := ⟨h.set_ i y py spos hi hyl hsw, ss_asg (se_of_sf (sf_look j h.sf))⟩
theorem cs_ownLcF (j i : Nat) {y : Str} {py spos : Pos} {e : Expr} {t : TE} {f : DS → Res (List D)} (h : LC X W e t f) (hsw : swapsWith e (some (.Name y py)) spos.line X.env = pure true) (hi : X.N[i]? = some y := by rfl) (hyl : X.env.scope.names.lookup y = some .local := by rfl) :
    CS X W (.Assign [.Name y py] e spos) (tAsg t (gName i)) (cOwn i (cLookF j f)) := ⟨h.set_ i y py spos hi hyl hsw, ss_own (sf_look j h.sf)⟩
/-- xs + ys, a new list -/
def cCat (f g : DS → Res D) : DS → Res (List D) := fun δ => (f δ).bind fun x => (g δ).bind fun y => match x, y with
  | .lst a, .lst b => if a.length + b.length ≤ sizeLine then .ok (a ++ b) else .no
  | _, _ => .no
theorem cf_cat (K : PySem.W.Frag) (hK : X.K = K) {a b : Expr} {pos : Pos} {ta tb : TE} {fa fb : DS → Res D} (ha : CE X W a ta fa) (hb : CE X W b tb fb) : CF X W (.BinOp a .Add b pos) (tOp (rAdd K) ta tb) (cCat fa fb) := by
  subst hK
  refine ⟨pe_op op_addA ha.pe hb.pe, fun B0 H0 δ σ B H Q rel hp => ?_⟩
  unfold cCat at hp
  refine ha.se B0 H0 δ σ B H _ rel ?_
  cases e1 : fa δ with
  | no => rw [e1] at hp; exact hp
  | er x => rw [e1] at hp; exact hp
  | ok x =>
    rw [e1, Res.bind_ok] at hp
    intro v B1 H1 g1 r1
    refine hb.se B0 H0 δ σ B1 H1 _ (rel.mono g1) ?_
    cases e2 : fb δ with
    | no => rw [e2] at hp; exact hp
    | er x => rw [e2] at hp; exact fun c dx B' H' g' rp => hp c dx B' H' (g1.trans g') rp
    | ok y =>
      rw [e2, Res.bind_ok] at hp
      intro u B2 H2 g2 r2
      split at hp
      · rename_i a b
        split at hp
        · rename_i hz
          have r1' := r1.mono g2.b
          cases r1' with
          | lst h1 q1 =>
            cases r2 with
            | lst h2 q2 =>
              have l1 := q1.length
              have l2 := q2.length
              refine .inr (.inr (.inl ⟨_, _, _, _, rfl, rfl, g2.i.seq h1, g2.i.seq h2, by omega, fun p hp' => ?_⟩))
              exact hp p _ B2 _ ((g1.trans g2).trans (Grow.raw g2.i hp')) ((g1.trans g2).free hp') (g2.i.free hp') upd_same (q1.append q2)
        · exact hp.elim
      · exact hp.elim
end
end DV
namespace DV
open PySem L2
section
variable {X : Cx} {W : WX} {K : PySem.W.Frag}
/-! ### {k: new thing for ..} -/
def dcN (b : D → DS → Option DS) (t : DS → Res Bool) (ek : DS → Res D) (en : DS → Res T) : List D → DS → List Key → List T → Res T
  | [], _, ks, ts => .ok (.nd (.dc ks) ts)
  | d :: ds, δ, ks, ts => match b d δ with
    | none => .no
    | some δ' => (t δ').calm.bind fun c => if c = true then (ek δ').calm.bind fun y => (en δ').calm.bind fun z => match asKey y with
        | some k => if ks.length < sizeLine ∧ posK ks k = none then dcN b t ek en ds δ (ks ++ [k]) (ts ++ [z]) else .no
        | none => .no
      else dcN b t ek en ds δ ks ts
def cDcN (vs : List Nat) (fi : DS → Res (List D)) (b : D → DS → Option DS) (t : DS → Res Bool) (ek : DS → Res D) (en : DS → Res T) : DS → Res T := fun δ => (fi δ).bind fun ds => dcN b t ek en ds (wipeD δ vs) [] []
theorem dcN_calm (b : D → DS → Option DS) (t : DS → Res Bool) (ek : DS → Res D) (en : DS → Res T) : ∀ (ds : List D) (δ : DS) (ks : List Key) (ts : List T) (x : Exn), dcN b t ek en ds δ ks ts ≠ .er x
  | [], δ, ks, ts, x => by simp [dcN]
  | d :: ds, δ, ks, ts, x => by
    unfold dcN
    split
    · simp
    · rename_i δ' _
      cases t δ' with
      | no => simp
      | er x => simp
      | ok c =>
        simp only [Res.calm_ok, Res.bind_ok]
        split
        · cases ek δ' with
          | no => simp
          | er x => simp
          | ok y =>
            simp only [Res.calm_ok, Res.bind_ok]
            cases en δ' with
            | no => simp
            | er x => simp
            | ok z =>
              simp only [Res.calm_ok, Res.bind_ok]
              split
              · split
                · exact dcN_calm b t ek en ds δ _ _ x
                · simp
              · simp
        · exact dcN_calm b t ek en ds δ ks ts x
theorem posK_no {k : Key} {ks : List Key} (h : posK ks k = none) : k ∉ ks := fun z => by
  unfold posK at h
  rw [List.findIdx?_eq_none_iff] at h
  have := h k z
  simp at this
theorem valV_no {us : List (Key × V)} {k : Key} (h : posK (us.map (·.1)) k = none) : valV us k = none := by
  cases e : valV us k with
  | none => rfl
  | some v => exact absurd (valV_in e) (posK_no h)
theorem sn_dc {wi : TI} {g : TG} {tt : TT} {tk tv : TE} {vs is : List Nat} {fi : DS → Res (List D)} {b : D → DS → Option DS} {t : DS → Res Bool} {ek : DS → Res D} {en : DS → Res T}
    (hi : ∀ B0 H0 δ σ B H (R : It → Hp → Prop), Rel K B0 H0 B H σ δ → PostI K B H σ W R (fi δ) → wi σ H R)
    (hg : ∀ B0 H0 B H σ δ v d (Q : L2.St → Hp → Prop), Rel K B0 H0 B H σ δ → Rp K B v d → (∀ δ' σ', b d δ = some δ' → Rel K B0 H0 B H σ' δ' → σ'.length = σ.length → (∀ j, j ∉ is → σ'[j]? = σ[j]?) → Q σ' H) → b d δ ≠ none → g v σ H Q)
    (ht : ST K W0 tt t) (hk : SE K W0 tk ek) (he : SN K W0 tv en) (his : ∀ i ∈ is, i ∈ vs) : SN K W (tDc wi g tt tk tv vs) (cDcN vs fi b t ek en) := fun B0 H0 δ σ B H Q rel hp => by
  unfold cDcN at hp
  refine hi B0 H0 δ σ B H _ rel ?_
  cases e1 : fi δ with
  | no => rw [e1] at hp; exact hp
  | er x => rw [e1] at hp; exact hp
  | ok ds =>
    rw [e1, Res.bind_ok] at hp
    intro J B1 H1 G Y g1 wk hG hY Dl hD
    cases e2 : dcN b t ek en ds (wipeD δ vs) [] [] with
    | no => rw [e2] at hp; exact hp.elim
    | er x => exact absurd e2 (dcN_calm b t ek en ds _ _ _ x)
    | ok fin =>
      rw [e2] at hp
      have relw := (rel.mono g1).wipe vs
      refine dc_it wk (fun i H' => ∃ B' us ts, Grow B1 H1 B' H' ∧ B' Dl = none ∧ H' Dl = some (.dK us) ∧ RTA K B' H' ts (us.map (·.2)) ∧ (∀ q, FTA K H' ts (us.map (·.2)) q → H1 q = none ∧ B' q = none ∧ q ≠ Dl) ∧ dcN b t ek en (ds.drop i) (wipeD δ vs) (us.map (·.1)) ts = .ok fin) ?_ ?_ ?_ ?_
      · exact ⟨B1, [], [], Grow.raw g1.i hD, g1.i.free hD, upd_same, by rw [List.map_nil, RTA]; trivial, fun q z => by rw [FTA] at z; exact z.elim, by simpa using e2⟩
      · rintro i H' hin ⟨B', us, ts, gr, hb, hh, rk, hn, hr⟩
        exact hG H' (gr.b.trans gr.i)
      · rintro i x H2 H3 hin ⟨B', us, ts, gr, hb, hh, rk, hn, hr⟩ y
        have hlt : i < ds.length := hin
        obtain ⟨B3, g3, rx⟩ := hY i ds[i] B' H2 x H3 (by simp [hlt]) gr.b gr.i y
        rw [List.drop_eq_getElem_cons hlt] at hr
        unfold dcN at hr
        cases e3 : b ds[i] (wipeD δ vs) with
        | none => rw [e3] at hr; cases hr
        | some δ' =>
          rw [e3] at hr
          dsimp only at hr
          refine hg B0 H0 B3 H3 _ _ x ds[i] _ ((relw.mono gr).mono g3) rx (fun δ2 σ2 e4 rel4 l4 f4 => ?_) (by rw [e3]; simp)
          rw [e3] at e4
          cases e4
          refine ⟨?_, ?_⟩
          · refine (wipe_eq (σ := wipe σ vs) l4 fun j hj => f4 j fun z => hj (his j z)).trans (wipe_eq (wipe_length σ vs) fun j hj => ?_)
            rw [wipe_get, if_neg (fun z => hj z.1)]
          refine ht B0 H0 δ' σ2 B3 H3 _ rel4 ?_
          cases e5 : t δ' with
          | no => rw [e5] at hr; simp at hr
          | er x => rw [e5] at hr; simp at hr
          | ok c =>
            rw [e5, Res.calm_ok, Res.bind_ok] at hr
            intro B4 H4 g4
            cases c with
            | false =>
              rw [if_neg Bool.false_ne_true] at hr ⊢
              have g34 := g3.trans g4
              have hD4 := g34.h _ _ hh (fun _ z => by cases z)
              obtain ⟨a1, a2, a3⟩ := rk.grow (fun q hq => (hn q hq).2.1) g34
              exact ⟨B4, us, ts, gr.trans g34, by rw [g34.f Dl (by rw [hh]; simp)]; exact hb, hD4, a1, fun q hq => ⟨(hn q ((a2 q).mp hq)).1, a3 q hq, (hn q ((a2 q).mp hq)).2.2⟩, hr⟩
            | true =>
              rw [if_pos rfl] at hr ⊢
              refine hk B0 H0 δ' σ2 B4 H4 _ (rel4.mono g4) ?_
              cases e6 : ek δ' with
              | no => rw [e6] at hr; simp at hr
              | er x => rw [e6] at hr; simp at hr
              | ok yd =>
                rw [e6, Res.calm_ok, Res.bind_ok] at hr
                intro yv B5 H5 g5 r5
                refine he B0 H0 δ' σ2 B5 H5 _ ((rel4.mono g4).mono g5) ?_
                cases e7 : en δ' with
                | no => rw [e7] at hr; simp at hr
                | er x => rw [e7] at hr; simp at hr
                | ok zt =>
                  rw [e7, Res.calm_ok, Res.bind_ok] at hr
                  intro zv B6 H6 g6 r6 n6
                  cases e8 : asKey yd with
                  | none => rw [e8] at hr; cases hr
                  | some k =>
                  rw [e8] at hr
                  dsimp only at hr
                  split at hr
                  case isFalse => cases hr
                  case isTrue hz =>
                  have := asKey_of e8 r5
                  subst this
                  have gB := (g3.trans g4).trans g5
                  have gA := gB.trans g6
                  have hD5 := gB.h _ _ hh (fun _ z => by cases z)
                  have hD6 := gA.h _ _ hh (fun _ z => by cases z)
                  have hB6 : B6 Dl = none := by rw [gA.f Dl (by rw [hh]; simp)]; exact hb
                  obtain ⟨a1, a2, a3⟩ := rk.grow (fun q hq => (hn q hq).2.1) gA
                  refine ⟨us, k, rfl, hD6, by have := hz.1; rw [List.length_map] at this; exact this, ?_⟩
                  have gT := gr.trans gA
                  have neD : ∀ a o, B6 a = some o → a ≠ Dl := fun a o q z => by rw [z, hB6] at q; cases q
                  have hput : putK us k zv = us ++ [(k, zv)] := putK_new zv (valV_no hz.2)
                  rw [hput]
                  have nt : ∀ q, FT K H6 zt zv q → q ≠ Dl := fun q hq z => by
                    have := (n6 q hq).1
                    rw [z, hD5] at this
                    cases this
                  have dis : ∀ q, FTA K H6 ts (us.map (·.2)) q → ¬ FT K H6 zt zv q := fun q hq hq' => by
                    have h1 := (n6 q hq').1
                    obtain ⟨u, hu, kd⟩ := RTA.kind _ _ rk q ((a2 q).mp hq)
                    have := gB.h _ _ hu kd.tbl
                    rw [h1] at this
                    cases this
                  have rs := a1.snoc r6 dis
                  have ftall : ∀ q, FTA K H6 (ts ++ [zt]) (us.map (·.2) ++ [zv]) q → q ≠ Dl := fun q hq => by
                    rcases (FTA.snoc a1.length q).mp hq with h | h
                    · exact (hn q ((a2 q).mp h)).2.2
                    · exact nt q h
                  obtain ⟨m1, m2⟩ := RTA.move (B' := B6) (H' := upd H6 Dl (.dK (us ++ [(k, zv)]))) (ts ++ [zt]) (us.map (·.2) ++ [zv]) rs (Same.refl _) fun q hq => upd_ne (ftall q hq)
                  refine ⟨B6, us ++ [(k, zv)], ts ++ [zt], ⟨gT.b, fun a o q nq => ?_, fun a o q => ?_, gT.f, fun a ha => ?_, fun P hP => tab_updG (gT.t P hP) hD6 (kind_dK _), gT.n⟩, hB6, upd_same, by rw [List.map_append]; exact m1, fun q hq => ?_, by rw [List.map_append]; exact hr⟩
                  · rw [upd_ne (ne_of_none q hD)]; exact gT.h a o q nq
                  · rw [upd_ne (neD a o q)]; exact gT.i a o q
                  · have : a ≠ Dl := fun z => ha (by rw [z]; exact hD)
                    rw [upd_ne this]; exact gT.e a ha
                  · rw [List.map_append] at hq
                    have hq' := (m2 q).mp hq
                    refine ⟨?_, ?_, ftall q hq'⟩
                    · rcases (FTA.snoc a1.length q).mp hq' with h | h
                      · exact (hn q ((a2 q).mp h)).1
                      · exact (gr.trans gB).free (n6 q h).1
                    · rcases (FTA.snoc a1.length q).mp hq' with h | h
                      · exact a3 q h
                      · exact (n6 q h).2
      · rintro H' ⟨B', us, ts, gr, hb, hh, rk, hn, hr⟩
        rw [List.drop_length] at hr
        unfold dcN at hr
        cases hr
        refine hp (.ref Dl) B' H' (g1.trans gr) (by
          rw [RT]
          exact ⟨Dl, us.map (·.2), [Dl], rfl, ⟨us, hh, rfl, rfl, rfl⟩, rk, fun q hq z => (hn q z).2.2 (List.mem_singleton.mp hq)⟩) fun q hq => ?_
        rw [FT] at hq
        obtain ⟨p', vs', fp, e', hc, hq⟩ := hq
        cases e'
        obtain ⟨us', hc1, _, rfl, rfl⟩ := hc
        rw [hh] at hc1
        cases hc1
        rcases hq with hq | hq
        · rw [List.mem_singleton.mp hq]
          exact ⟨g1.free hD, hb⟩
        · exact ⟨g1.free (hn q hq).1, (hn q hq).2.1⟩
theorem cn_dc {kx vx tg iter : Expr} {ifs : List Expr} {scope : Scope} {own : List (Str × Nat)} {pos : Pos} {wi : TI} {g : TG} {tt : TT} {tk tv : TE} {is : List Nat} {fi : DS → Res (List D)} {b : D → DS → Option DS} {t : DS → Res Bool} {ek : DS → Res D} {en : DS → Res T}
    (s0 : Shared) (hc : X.calm = true) (hN : X.N.Nodup) (hi : CI X W tg iter wi fi) (ok : BlkOk X.N X.env.scope scope own)
    (hg : ∀ (s : Shared) (H : Hp) (C : Addr) (cl : List (Str × Addr)) (fp : List Addr), CG (X.blk s H scope (compEnvC scope cl C X.env) fp) tg g is b)
    (ht : ∀ (s : Shared) (H : Hp) (C : Addr) (cl : List (Str × Addr)) (fp : List Addr), CTs (X.blk s H scope (compEnvC scope cl C X.env) fp) W0 ifs tt t)
    (hk : ∀ (s : Shared) (H : Hp) (C : Addr) (cl : List (Str × Addr)) (fp : List Addr), CE (X.blk s H scope (compEnvC scope cl C X.env) fp) W0 kx tk ek)
    (he : ∀ (s : Shared) (H : Hp) (C : Addr) (cl : List (Str × Addr)) (fp : List Addr), CN (X.blk s H scope (compEnvC scope cl C X.env) fp) W0 vx tv en)
    (his : ∀ i ∈ is, i ∈ own.map (·.2) := by decide) (hs : ∀ x, foldedSetIterable iter X.env x = pure x := by intro _; rfl) :
    CN X W (.DictComp kx vx [⟨tg, iter, ifs, 0⟩] scope pos) (tDc wi g tt tk tv (own.map (·.2))) (cDcN (own.map (·.2)) fi b t ek en) :=
  ⟨pe_dc hc hN hi.pi ok (fun s H C cl fp => (hg s H C cl fp).pg) (fun s H C cl fp => (ht s H C cl fp).pt) (fun s H C cl fp => (hk s H C cl fp).pe) (fun s H C cl fp => (he s H C cl fp).pe) hs,
    sn_dc hi.si (hg s0 (fun _ => none) 0 [] []).sg (ht s0 (fun _ => none) 0 [] []).st (hk s0 (fun _ => none) 0 [] []).se (he s0 (fun _ => none) 0 [] []).sn his⟩
end
end DV
namespace DV
open PySem L2
section
variable {X : Cx} {W : WX} {K : PySem.W.Frag}
/-! ### name = {..} on one line, the name a local -/
theorem ps_setDc {i : Nat} {y : Str} {py : Pos} {kx vx tg iter : Expr} {ifs : List Expr} {scope : Scope} {own : List (Str × Nat)} {pos spos : Pos} {wi : TI} {g : TG} {tt : TT} {tk tv : TE} (hc : X.calm = true) (hN : X.N.Nodup) (hy : X.N[i]? = some y) (hyl : X.env.scope.names.lookup y = some .local)
    (hsw : swapsWith (.DictComp kx vx [⟨tg, iter, ifs, 0⟩] scope pos) (some (.Name y py)) spos.line X.env = pure true) (hi : PI X tg iter wi) (ok : BlkOk X.N X.env.scope scope own)
    (hg : ∀ (s : Shared) (H : Hp) (C : Addr) (cl : List (Str × Addr)) (fp : List Addr), PG (X.blk s H scope (compEnvC scope cl C X.env) fp) tg g) (ht : ∀ (s : Shared) (H : Hp) (C : Addr) (cl : List (Str × Addr)) (fp : List Addr), PTs (X.blk s H scope (compEnvC scope cl C X.env) fp) ifs tt)
    (hk : ∀ (s : Shared) (H : Hp) (C : Addr) (cl : List (Str × Addr)) (fp : List Addr), PE (X.blk s H scope (compEnvC scope cl C X.env) fp) kx tk)
    (he : ∀ (s : Shared) (H : Hp) (C : Addr) (cl : List (Str × Addr)) (fp : List Addr), PE (X.blk s H scope (compEnvC scope cl C X.env) fp) vx tv) (hs : ∀ x, foldedSetIterable iter X.env x = pure x := by intro _; rfl) :
    PS X (.Assign [.Name y py] (.DictComp kx vx [⟨tg, iter, ifs, 0⟩] scope pos) spos) (tAsg (tDc wi g tt tk tv (own.map (·.2))) (gName i)) := by
  refine ⟨fun pins s σ H D I h => ?_⟩
  rw [exec_Assign_Name_used _ _ _ _ hsw]
  refine wpAny_bind (wpAny_standAt (wpAny_bind ?_))
  show wpAny _ X.A (do let _ ← comprehension (.DictComp kx vx [⟨tg, iter, ifs, 0⟩] scope pos) scope X.env (firstIterPos [⟨tg, iter, ifs, 0⟩] pos) newDict false (eval iter X.env) (some (assign (.Name y py) X.env))) _ _ s
  have h : tDc wi g tt tk tv (own.map (·.2)) σ H (fun x H1 => gName i x σ H1 D.nx) := h
  refine wpAny_bind (thn (dc_core (Qf := fun _ s' => L2.SP X pins D .next s') hc hN I hi ok hg ht hk he hs h fun L C s' m H' I' q hn f => ?_) fun _ s' hq => wpAny_pure (wpAny_pure hq))
  show wpAny _ _ (assign (.Name y py) X.env (.ref L)) _ _ _
  refine wpAny_assign_Name (store_ok2 (v := V.ref L) I' hN hy (.inl hyl) rfl (fun s2 I2 ⟨a, sb, ha⟩ => ?_) (.inr hyl))
  obtain ⟨f0, f1, f2, f3, f4, f5⟩ := f
  have haC : C ≠ a := by
    rcases ha with z | z
    · rw [z]; exact f1
    · exact fun e => f4 y a z e.symm
  refine ⟨m, hn.sameBut sb haC, fun h3 sb3 => ?_⟩
  exact ⟨_, H', I2.turned (t' := s2.toks) (fun b o hb e => (sb3.2 b hb).trans e) f0 f1 f3 f4 f5, q⟩
theorem sw_trueD {kx vx : Expr} {gs : List Comprehension} {scope : Scope} {pos py : Pos} {y : Str} {l : Nat} {env : Env} (hk : env.scope.kind = .function) (hy : env.scope.names.lookup y = some .local) (hl : (py.line == pos.line) = true)
    (ha : (scope.names.any fun (n, k) => n == y && (k == .local || k == .cell)) = false) : swapsWith (.DictComp kx vx gs scope pos) (some (.Name y py)) l env = pure true := by
  have ky : env.kindOf y = some .local := hy
  have hb : env.blockKind = .function := by unfold Env.blockKind; rw [hk]; rfl
  unfold swapsWith
  simp only [hb, ky, ha, Expr.pos, hl]
  rfl
theorem cs_setDcN (i : Nat) {y : Str} {py spos : Pos} {kx vx tg iter : Expr} {ifs : List Expr} {scope : Scope} {own : List (Str × Nat)} {pos : Pos} {wi : TI} {g : TG} {tt : TT} {tk tv : TE} {is : List Nat} {fi : DS → Res (List D)} {b : D → DS → Option DS} {t : DS → Res Bool} {ek : DS → Res D} {en : DS → Res T}
    (s0 : Shared) (hc : X.calm = true) (hN : X.N.Nodup) (hi : CI X W tg iter wi fi) (ok : BlkOk X.N X.env.scope scope own)
    (hg : ∀ (s : Shared) (H : Hp) (C : Addr) (cl : List (Str × Addr)) (fp : List Addr), CG (X.blk s H scope (compEnvC scope cl C X.env) fp) tg g is b)
    (ht : ∀ (s : Shared) (H : Hp) (C : Addr) (cl : List (Str × Addr)) (fp : List Addr), CTs (X.blk s H scope (compEnvC scope cl C X.env) fp) W0 ifs tt t)
    (hk : ∀ (s : Shared) (H : Hp) (C : Addr) (cl : List (Str × Addr)) (fp : List Addr), CE (X.blk s H scope (compEnvC scope cl C X.env) fp) W0 kx tk ek)
    (he : ∀ (s : Shared) (H : Hp) (C : Addr) (cl : List (Str × Addr)) (fp : List Addr), CN (X.blk s H scope (compEnvC scope cl C X.env) fp) W0 vx tv en)
    (hsw : swapsWith (.DictComp kx vx [⟨tg, iter, ifs, 0⟩] scope pos) (some (.Name y py)) spos.line X.env = pure true)
    (his : ∀ i ∈ is, i ∈ own.map (·.2) := by decide) (hs : ∀ x, foldedSetIterable iter X.env x = pure x := by intro _; rfl) (hy : X.N[i]? = some y := by rfl) (hyl : X.env.scope.names.lookup y = some .local := by rfl) :
    CS X W (.Assign [.Name y py] (.DictComp kx vx [⟨tg, iter, ifs, 0⟩] scope pos) spos) (tAsg (tDc wi g tt tk tv (own.map (·.2))) (gName i)) (cOwnN i (cDcN (own.map (·.2)) fi b t ek en)) :=
  ⟨ps_setDc hc hN hy hyl hsw hi.pi ok (fun s H C cl fp => (hg s H C cl fp).pg) (fun s H C cl fp => (ht s H C cl fp).pt) (fun s H C cl fp => (hk s H C cl fp).pe) (fun s H C cl fp => (he s H C cl fp).pe) hs,
    ss_ownN (sn_dc hi.si (hg s0 (fun _ => none) 0 [] []).sg (ht s0 (fun _ => none) 0 [] []).st (hk s0 (fun _ => none) 0 [] []).se (he s0 (fun _ => none) 0 [] []).sn his)⟩
end
end DV
namespace DV
open PySem L2
/-! ### set(xs), xs a list of ints -/
section
variable {P : Program} {w : World} {A : Around} {E : Value → Shared → Prop} {s : Shared}
abbrev pushSet (w : World) (h : Heap) : Heap := h.push (freshSet w)
theorem call_setL {l : Addr} {xs : Array Value} {ms : List Int} {Q : Value → Shared → Prop} (hd : A.handled = none) (ha : s.heap.IsList l xs) (hx : PyProof.Rows.IntsAre xs.toList ms) (hz : ms.length + 1 < scanBound)
    (fin : ∀ (h2 : Heap) (tk c : Nat), SetR w h2 s.heap.objs.size (fun j => decide (j ∈ ms)) c → c ≤ ms.length → (∀ b o, s.heap.get? b = some o → h2.get? b = some o) → Q (.ref s.heap.objs.size) { s with heap := h2, toks := tk }) : wpAny (model P w) A (call (.type "set") [.ref l]) Q E s := by
  have xl : xs.size = ms.length := by have q := PyProof.Rows.IntsAre.length hx; rwa [Array.length_toList] at q
  obtain ⟨c0, t0, mro0⟩ := PySem.F.called_set.mro
  have m0 := PySem.F.called_set.made
  have b0 := PySem.F.called_set.sub
  refine wpAny_call (codeAny_of_tree (show wpAny _ _ (callAny (.type "set") _) _ _ _ from wpAny_pure ⟨Code.quiet_builtin _ (by decide +kernel), codeAny_builtin PySem.F.entry_type_call ?_⟩))
  rw [Around.under_plain (weight_type_call_type "set" [.ref l] []) rfl]
  have n0 := PySem.F.called_set.notType
  have k0 := PySem.F.called_set.canCreate
  have tc0 := PySem.F.typeCall_set_1 (.ref l)
  repeat (any_goals (first | assumption | wp_step))
  refine codeAny_mono (code_set_led1 (.ref l) (E := E) (Q₁ := fun ob s1 => ob = .ref s.heap.objs.size ∧ s1 = { s with heap := pushSet w s.heap }) ⟨rfl, rfl⟩) fun r s1 hr => ?_
  cases r with
  | error e => exact hr
  | ok fl =>
    cases fl with
    | ret ob =>
      obtain ⟨rfl, rfl⟩ := hr
      have gS : (pushSet w s.heap).get? s.heap.objs.size = some (freshSet w) := Heap.get?_push_size _ rfl
      have tS : Shared.TypeIs { s with heap := pushSet w s.heap } (.ref s.heap.objs.size) "set" := ⟨_, gS, rfl⟩
      have li := PySem.F.called_set.init.lookup
      have bi := PySem.F.called_set.init.bind (.ref s.heap.objs.size)
      repeat (any_goals (first | assumption | wp_step))
      refine codeAny_mono (codeAny_call_builtin (R := wants (fun r s2 => r = .none ∧ ∃ h2 tk c, s2 = { s with heap := h2, toks := tk } ∧ SetR w h2 s.heap.objs.size (fun j => decide (j ∈ ms)) c ∧ c ≤ ms.length ∧ ∀ b o, s.heap.get? b = some o → h2.get? b = some o) E) PySem.F.called_set.init.plain PySem.F.entry_set_init (check_set_init_1 tS ?_)) fun r2 s2 hr2 => ?_
      · obtain ⟨⟨cl, dc, dt, sl⟩, ho, hcl, nl, hdt⟩ := ha
        simp only at hcl hdt
        subst hcl
        subst hdt
        have ho2 : (pushSet w s.heap).get? l = some { cls := .type "list", dict := dc, data := .seq xs nl, slots := sl } := Heap.get?_push_of_some _ ho
        have s1 := PySem.F.sub_list_set
        have s2 := PySem.F.sub_list_frozenset
        have nd : (Value.type "list" == Value.type "dict") = false := by decide
        have il : (pushSet w s.heap).IsList l xs := ⟨_, ho2, rfl, nl, rfl⟩
        unfold Builtin.«set.__init__» noKeywords Builtin.Frozenset.updateFrom
        generalize eI : pyIter = PI
        wp_walk
        subst eI
        refine wpAny_pyIter_list il (wpAny_bind (wpAny_runValue ?_))
        have lt : l < s.heap.objs.size := Heap.lt_size ho
        have h3 : A.in1.in1.in1.handled = none := by simp [hd]
        have ne1 : l ≠ (pushSet w s.heap).objs.size := fun z => by
          rw [Heap.size_push] at z
          exact Nat.ne_of_lt (Nat.lt_succ_of_lt lt) z
        have nin : s.heap.objs.size ∉ [(pushSet w s.heap).objs.size, l] := fun z => by
          rcases List.mem_cons.mp z with z | z
          · rw [Heap.size_push] at z
            exact Nat.ne_of_lt (Nat.lt_succ_self _) z
          · exact Nat.ne_of_gt lt (List.mem_singleton.mp z)
        have val : ∀ (i : Nat) (v : Value), xs[i]? = some v → ∃ k t, ms[i]? = some k ∧ v = .int k t := fun i v hv => by
          have hi : i < ms.length := by rw [← xl]; exact (Array.getElem?_eq_some_iff.mp hv).1
          obtain ⟨t, e⟩ := PyProof.Rows.IntsAre.int_at hx i v (by rw [Array.getElem?_toList]; exact hv)
          exact ⟨ms[i], t, List.getElem?_eq_getElem hi, by rw [e, List.getD_eq_getElem?_getD, List.getElem?_eq_getElem hi] <;> rfl⟩
        refine set_update_ints ((Walks.list h3 _ l ne1 xs).toS) s.heap.objs.size nin ms xl hz val (xs.size - 0) 0 _ (by omega) (Nat.zero_le _) ⟨⟨_, Heap.get?_push_size _ rfl, rfl, rfl⟩, il.push _⟩ ?_ ?_
        · exact ⟨0, Nat.le_refl 0, setR_new_at (Heap.get?_push_of_some _ gS)⟩
        · rintro ⟨h2, g2, d2, tk2, os2⟩ c2 hm hc2 hS2
          have e1 : g2 = s.gens := hm.gens
          have e2 : d2 = s.drawn := hm.drawn
          have e3 : os2 = s.os := hm.os
          subst e1 e2 e3
          refine wpAny_pure (show wpAny _ _ (ret Value.none) _ _ _ from ?_)
          rw [xl] at hc2
          refine wpAny_pure ⟨rfl, h2, tk2, c2, rfl, hS2, hc2, fun b o e => ?_⟩
          have lb : b < s.heap.objs.size := Heap.lt_size e
          refine hm.heap b o (fun z => ?_) (Heap.get?_push_of_some _ (Heap.get?_push_of_some _ e))
          rcases List.mem_cons.mp z with z | z
          · exact Nat.ne_of_lt lb z
          · have z2 := List.mem_singleton.mp z
            rw [Heap.size_push] at z2
            exact Nat.ne_of_lt (Nat.lt_succ_of_lt lb) z2
      · cases r2 with
        | error e => exact hr2
        | ok f2 =>
          cases f2 with
          | ret r =>
            obtain ⟨rfl, h2, tk, c2, rfl, hS2, hc2, hk2⟩ := hr2
            repeat (any_goals (first | assumption | wp_step))
            exact fin _ _ _ hS2 hc2 hk2
          | _ => exact hr2.elim
    | _ => exact hr.elim
end
section
variable {X : Cx} {W : WX}
def rSetL (K : PySem.W.Frag) (w : World) : List V → Hp → VK → Prop := fun xs H Q => ∃ (p : Addr) (ns : List Int), xs = [.ref p] ∧ SqL K H p (ns.map V.int) ∧ ns.length < 64 ∧ ∀ q, H q = none → Q (.ref q) (upd H q (SetO w q (fun k => decide (k ∈ ns)) (setI ns).length))
theorem cr_setL (hc : X.calm = true) : CallR X (.type "set") (rSetL X.K X.w) := by
  intro pins s σ H xs us Q I r h
  obtain ⟨p, ns, rfl, hp, hl, q⟩ := h
  rw [Vals.ref1 r]
  obtain ⟨its, r2, pl, hz⟩ := I.list hp
  refine call_setL (ms := ns) (xs := its.toArray) (I.ok.hd hc) pl.isList (by simpa using r2.ints) (Nat.lt_of_lt_of_le (by omega : ns.length + 1 < 66) (by decide)) fun h' tk c R hcl' keep => ?_
  have e := setR_count R
  subst e
  exact ⟨.ref _, _, I.laid (t' := tk) (o := SetO X.w s.heap.objs.size (fun k => decide (k ∈ ns)) (setI ns).length) keep (Nat.le_refl _) (setO_new R), rfl, q _ (I.hok.fresh (Nat.le_refl _))⟩
/-- set(x), x a tuple or a list of ints -/
def asIntsA : D → Res (List Int)
  | .lst ds => match intsD ds with
    | some ns => if ns.length < 64 then .ok ns else .no
    | none => .no
  | .tup ds => match intsD ds with
    | some ns => if ns.length < 64 then .ok ns else .no
    | none => .no
  | _ => .no
theorem csi_setA (K : PySem.W.Frag) (hK : X.K = K) {a : Expr} {p pos : Pos} {t : TE} {f : DS → Res D} (hc : X.calm = true) (hm : X.mg "set" = none) (ha : CE X W a t f) (hg : Gl X "set" := by rfl) (hs : starEach [a] X.env = (false, eval a X.env) :: starEach [] X.env := by rfl) (hpl : (backTo pos (starEach [] X.env)).any (·.1) = false := by rfl) :
    CSI X W (.Call (.Name "set" p) [a] [] pos) (tCB (fun xs H Q => rSetT K X.w xs H Q ∨ rSetL K X.w xs H Q) (tCons t tNil)) (fun δ => (f δ).bind asIntsA) := by
  subst hK
  refine ⟨pe_callTy (CallR.or (cr_setT hc) (cr_setL hc)) hg hm PyProof.Rows.boot_set (pa_cons ha.pe pa_nil hs) (by decide) (by decide) hs hpl, fun B0 H0 δ σ B H Q rel hp => ?_⟩
  refine ha.se B0 H0 δ σ B H _ rel ?_
  cases e : f δ with
  | no => rw [e] at hp; exact hp
  | er x => rw [e] at hp; exact hp
  | ok d =>
    rw [e, Res.bind_ok] at hp
    intro v B1 H1 g1 r1
    unfold asIntsA at hp
    split at hp
    · split at hp
      · rename_i ns e2
        split at hp
        · rename_i hl
          cases r1 with
          | lst h1 q =>
            rw [intsD_of e2] at q
            have e3 := q.ints_of
            subst e3
            refine .inr ⟨_, ns, rfl, g1.i.seq h1, hl, fun z hz => ?_⟩
            have := setI_len ns
            exact hp z B1 _ (g1.trans (Grow.raw g1.i hz)) (g1.i.free hz) upd_same (by omega)
        · exact hp.elim
      · exact hp.elim
    · split at hp
      · rename_i ns e2
        split at hp
        · rename_i hl
          cases r1 with
          | tup h1 q =>
            rw [intsD_of e2] at q
            have e3 := q.ints_of
            subst e3
            refine .inl ⟨_, ns, rfl, sqT_mono g1.i h1, hl, fun z hz => ?_⟩
            have := setI_len ns
            exact hp z B1 _ (g1.trans (Grow.raw g1.i hz)) (g1.i.free hz) upd_same (by omega)
        · exact hp.elim
      · exact hp.elim
    · exact hp.elim
end
end DV
namespace DV
open PySem L2
/-! ### new lists of tuples, told by own things that are looked at -/
def NK.noTp : NK → Bool
  | .tp => false
  | _ => true
mutual
def T.noTp : T → Bool
  | .im _ => true
  | .nd k ts => k.noTp && T.noTpA ts
def T.noTpA : List T → Bool
  | [] => true
  | t :: ts => t.noTp && T.noTpA ts
end
def NoTup (u : HO) : Prop := (∀ xs, u ≠ .tup xs) ∧ ∀ o xs, u ≠ .frz o (.tup xs)
section
variable {K : PySem.W.Frag} {B H : Hp}
theorem cell_noTp {k : NK} {p : Addr} {vs : List V} {fp : List Addr} (h : cell K H p vs fp k) (hk : k.noTp = true) : ∀ q ∈ fp, ∃ u, H q = some u ∧ NoTup u := by
  cases k with
  | ls => obtain ⟨h, rfl⟩ := h; intro q hq; rw [List.mem_singleton.mp hq]; exact ⟨_, h, fun _ z => (by cases z), fun _ _ z => (by cases z)⟩
  | tp => cases hk
  | dc ks => obtain ⟨us, h, _, _, rfl⟩ := h; intro q hq; rw [List.mem_singleton.mp hq]; exact ⟨_, h, fun _ z => (by cases z), fun _ _ z => (by cases z)⟩
  | dt ks => obtain ⟨us, h, _, _, rfl⟩ := h; intro q hq; rw [List.mem_singleton.mp hq]; exact ⟨_, h, fun _ z => (by cases z), fun _ _ z => (by cases z)⟩
  | ob c ns =>
    obtain ⟨C, dx, fs, h1, h2, _, _, _, rfl⟩ := h
    intro q hq
    rcases List.mem_cons.mp hq with rfl | hq
    · exact ⟨_, h1, fun _ z => (by cases z), fun _ _ z => (by cases z)⟩
    · rw [List.mem_singleton.mp hq]; exact ⟨_, h2, fun _ z => (by cases z), fun _ _ z => (by cases z)⟩
mutual
theorem RT.noTp : ∀ (t : T) (v : V), RT K B H t v → t.noTp = true → ∀ q, FT K H t v q → ∃ u, H q = some u ∧ NoTup u
  | .im d, v, _, _, q, h => by rw [FT] at h; exact h.elim
  | .nd k ts, v, h, hn, q, hq => by
    rw [RT] at h
    obtain ⟨p, vs, fp, rfl, hc, hr, _⟩ := h
    rw [T.noTp, Bool.and_eq_true] at hn
    rw [FT] at hq
    obtain ⟨p', vs', fp', z, hc2, hq⟩ := hq
    cases z
    obtain ⟨rfl, rfl⟩ := cell_one hc hc2
    rcases hq with hq | hq
    · exact cell_noTp hc hn.1 q hq
    · exact RTA.noTp ts _ hr hn.2 q hq
theorem RTA.noTp : ∀ (ts : List T) (vs : List V), RTA K B H ts vs → T.noTpA ts = true → ∀ q, FTA K H ts vs q → ∃ u, H q = some u ∧ NoTup u
  | [], _, _, _, q, h => by rw [FTA] at h; exact h.elim
  | _ :: _, [], h, _, _, _ => by rw [RTA] at h; exact h.elim
  | t :: ts, v :: vs, h, hn, q, hq => by
    rw [RTA] at h
    rw [T.noTpA, Bool.and_eq_true] at hn
    rw [FTA] at hq
    rcases hq with hq | hq
    · exact RT.noTp t v h.1 hn.1 q hq
    · exact RTA.noTp ts vs h.2.1 hn.2 q hq
end
end
def lookOk (δ : DS) (i : Nat) : Bool := match δ[i]? with
  | some (some (.tr k ts)) => (T.nd k ts).noTp
  | _ => true
def cLookG (i : Nat) (f : DS → Res (List D)) : DS → Res (List D) := fun δ => match f (fz i δ) with
  | .ok ds => if D.noLstA ds = true ∧ lookOk δ i = true then .ok ds else .no
  | _ => .no
section
variable {X : Cx} {W : WX} {K : PySem.W.Frag}
theorem Rel.fzT {B0 H0 B H : Hp} {σ : L2.St} {δ : DS} (r : Rel K B0 H0 B H σ δ) (i : Nat) (hk : lookOk δ i = true) : ∃ B', Same B B' ∧ Rel K B0 H0 B' H σ (DV.fz i δ) ∧ ∀ a xs, (B' a = some (.tup xs) ∨ ∃ o, B' a = some (.frz o (.tup xs))) → B a = B' a := by
  unfold DV.fz lookOk at *
  split
  · rename_i ds e
    obtain ⟨v, h1, p, vs, rfl, h0, hb, hh, q⟩ := r.sl i _ e
    obtain ⟨sb, r'⟩ := r.freezeG (ho := .lst vs) (d := .lst ds) e rfl h1 (upd_self hh).symm (fun _ z => by cases z) (.lst (SqL.of upd_same) (RpA.mono (same_new hb) q))
    refine ⟨_, sb, r', fun a xs hx => ?_⟩
    have : a ≠ p := fun z => by
      rw [z, upd_same] at hx
      rcases hx with hx | ⟨o, hx⟩ <;> cases hx
    rw [upd_ne this]
  · rename_i k ts e
    rw [e] at hk
    obtain ⟨v, h1, hsr⟩ := r.sl i _ e
    obtain ⟨sb, r'⟩ := r.freezeT e h1
    refine ⟨_, sb, r', fun a xs hx => ?_⟩
    have nf : ¬ FT K H (.nd k ts) v a := fun z => by
      obtain ⟨u, hu, n1, n2⟩ := RT.noTp _ _ hsr.1 hk a z
      have e2 : fzH B H (FT K H (.nd k ts) v) a = H a := by unfold fzH; exact if_pos z
      rw [e2, hu] at hx
      rcases hx with hx | ⟨o, hx⟩
      · exact n1 xs (Option.some.inj hx)
      · exact n2 o xs (Option.some.inj hx)
    unfold fzH
    exact (if_neg nf).symm
  · exact ⟨B, Same.refl _, r, fun _ _ _ => rfl⟩
theorem sf_lookG (i : Nat) {t : TE} {f : DS → Res (List D)} (h : SF K W t f) : SF K W t (cLookG i f) := fun B0 H0 δ σ B H Q rel hp => by
  unfold cLookG at hp
  by_cases hk : lookOk δ i = true
  case neg =>
    exfalso
    revert hp
    cases f (fz i δ) with
    | no => exact fun hp => hp
    | er x => exact fun hp => hp
    | ok ds =>
      dsimp only
      rw [if_neg fun z => hk z.2]
      exact fun hp => hp
  obtain ⟨B', s, r, keep⟩ := rel.fzT i hk
  refine h B0 H0 _ σ B' H Q r ?_
  cases e1 : f (fz i δ) with
  | no => rw [e1] at hp; exact hp.elim
  | er x => rw [e1] at hp; exact hp.elim
  | ok ds =>
    rw [e1] at hp
    dsimp only at hp
    split at hp
    case isFalse => exact hp.elim
    case isTrue hf =>
    intro p vs B2 H2 g h0 hb hh rp
    have nB := rel.g.n rel.nt
    have nB' := r.g.n r.nt
    have i := rel.g.i
    refine hp p vs (fun a => if H a = none then B2 a else B a) H2 ⟨fun a o q => ?_, g.h, fun a o q => ?_, fun a ha => ?_, g.e, g.t, fun _ a ps z => ?_⟩ h0 ?_ hh (rp.tups (fun a xs hx => ?_) hf.1)
    · have : ¬ (H a = none) := by rw [i a o q]; simp
      show (if H a = none then B2 a else B a) = some o
      rw [if_neg this]; exact q
    · have q' : (if H a = none then B2 a else B a) = some o := q
      split at q'
      · exact g.i a o q'
      · exact g.h a o (i a o q') (fun ps z => nB a ps (by rw [q', z]))
    · show (if H a = none then B2 a else B a) = B a
      rw [if_neg ha]
    · have z' : (if H a = none then B2 a else B a) = some (.tbl ps) := z
      split at z'
      · exact g.n nB' a ps z'
      · exact nB a ps z'
    · show (if H p = none then B2 p else B p) = none
      rw [if_pos h0]
      exact hb
    · show (if H a = none then B2 a else B a) = B2 a
      by_cases ha : H a = none
      · rw [if_pos ha]
      · rw [if_neg ha]
        have e2 := g.f a ha
        rw [e2] at hx ⊢
        exact keep a xs hx
theorem cf_lookG (i : Nat) {e : Expr} {t : TE} {f : DS → Res (List D)} (h : CF X W e t f) : CF X W e t (cLookG i f) := ⟨h.pe, sf_lookG i h.sf⟩
theorem cs_setLcG (j i : Nat) {y : Str} {py spos : Pos} {e : Expr} {t : TE} {f : DS → Res (List D)} (h : LC X W e t f) (hsw : swapsWith e (some (.Name y py)) spos.line X.env = pure true) (hi : X.N[i]? = some y := by rfl) (hyl : X.env.scope.names.lookup y = some .local := by rfl) :
    CS X W (.Assign [.Name y py] e spos) (tAsg t (gName i)) (cAsg i (cL (cLookG j f))) := ⟨h.set_ i y py spos hi hyl hsw, ss_asg (se_of_sf (sf_lookG j h.sf))⟩
/-- data told by own things that are looked at: a new list, in which no list stands -/
theorem ce_lookG (i : Nat) {e : Expr} {t : TE} {f : DS → Res (List D)} (h : CF X W e t f) : CE X W e t (cL (cLookG i f)) := ce_l (cf_lookG i h)
end
end DV
namespace DV
open PySem L2 PyProof.Rows PySem.W PySem.Calls PySem.SeqAt
/-! ### sorted(xs), xs tuples of which the first is empty -/
section
variable {prog : Program} {w : World} {A : Around} {E : Value → Shared → Prop} {s : Shared}
/-- two tuples, as sorting compares things of one class -/
theorem oneLt_tups {xs ys : List PyData} {a b : Value} {as bs : List Addr} {Q : Bool → Shared → Prop} (ra : Reads s.heap a (.tuple xs) as) (rb : Reads s.heap b (.tuple ys) bs) (hal : alikeAll xs ys = true)
    (hu : A.units + min (PyData.tuple xs).depth (PyData.tuple ys).depth < cLine) (hq : Q (dataLt (.tuple xs) (.tuple ys)) s) : wpAny (model prog w) A (oneLt' true a b) Q E s := by
  cases ra with
  | @tuple l o vs n _ as₁ h1 h2 h3 h4 =>
    cases rb with
    | @tuple l' o' vs' n' _ bs₁ k1 k2 k3 k4 =>
      have n1 : vs.size = xs.length := by simpa using ReadsAll.length _ _ _ h4
      have n2 : vs'.size = ys.length := by simpa using ReadsAll.length _ _ _ k4
      rw [dataLt_tuple, ← firstLt_toks xs ys hal, ← n1, ← n2] at hq
      rw [oneLt'_eq]
      simp only [if_true]
      refine wpAny_bind (wpAny_cRoomFor (room_here hu) (wpAny_bind (wpAny_callSpecialIfBound?_slot (T := "tuple") ⟨_, h1, h2⟩ PySem.F.slot_tuple_lt ?_)))
      obtain ⟨cls, dd, data, sl⟩ := o
      obtain ⟨cls2, dd2, data2, sl2⟩ := o'
      simp only at h2 h3 k2 k3
      subst h2 h3 k2 k3
      refine call_meets PySem.F.slot_tuple_lt ⟨_, h1, rfl⟩ PySem.F.entry_tuple_lt (PySem.F.args_tuple_lt_2 _ _) (tuple_ltAt l l' vs vs' n n' dd dd2 sl sl2 (pairEq xs ys) fun j => dataLt (xs.getD j .none) (ys.getD j .none)) ⟨h1, k1, fun j j1 j2 => ?_, fun j j1 j2 hj => ?_, ?_⟩
      · have := eqAt_alikeAll xs ys A.in1 s vs.toList vs'.toList _ _ h4 k4 hal (room_in hu) j (by simpa using j1) (by simpa using j2)
        simpa using this
      · have := rcLt_alikeAll xs ys A.in1 s vs.toList vs'.toList _ _ h4 k4 hal (room_in hu) j (by simpa using j1) (by simpa using j2) hj
        simpa using this
      · exact wpAny_truthy_bool hq
/-- the firsts of some tuples, the first of which is empty -/
theorem firsts_tups {M : Model} : ∀ {vs : List Value} {ds : List PyData} {Q : List (Option Value) → Shared → Prop}, EachIs (fun v d => ∃ as, Reads s.heap v d as) vs ds → (∀ d ∈ ds, ∃ xs, d = .tuple xs) → (∀ os : List (Option Value), (ds.head? = some (.tuple []) → os.head? = some none) → Q os s) → wpAny M A (vs.mapM firstOfTuple') Q E s
  | _, _, Q, .nil, _, h => by
    rw [List.mapM_nil]
    exact wpAny_pure (h [] (by simp))
  | _, _, Q, .cons (a := v) (as := vs) (b := d) (bs := ds) ⟨as, r⟩ t, hd, h => by
    obtain ⟨xs, rfl⟩ := hd d (List.mem_cons_self ..)
    cases r with
    | @tuple a o us n _ _ ho hc hdt hr =>
      rw [List.mapM_cons]
      refine wpAny_bind ?_
      rw [kas_first_eq]
      refine wpAny_bind (Looks.here (show Looks M s.heap (typeOf (.ref a)) o.cls from (Looks.ld ho).andThen .now) ?_)
      rw [hc, if_neg (by first | decide | simp)]
      refine wpAny_bind (listItems_at ho hdt (wpAny_pure ?_))
      refine wpAny_bind (firsts_tups t (fun d hd' => hd d (List.mem_cons_of_mem _ hd')) fun os _ => wpAny_pure (h _ fun z => ?_))
      have e : xs = [] := by
        simp at z
        exact z
      subst e
      have hu : us.toList = [] := by
        cases q : us.toList with
        | nil => rfl
        | cons f fr => rw [q] at hr; cases hr
      rw [← Array.getElem?_toList, hu]
      rfl
theorem kind_tups {M : Model} {vs : List Value} {ds : List PyData} {Q : SortKind → Shared → Prop} (e : EachIs (fun v d => ∃ as, Reads s.heap v d as) vs ds) (hd : ∀ d ∈ ds, ∃ xs, d = .tuple xs) (h0 : ds.head? = some (.tuple [])) (h : Q oneType' s) : wpAny M A (keyKind' vs.toArray) Q E s := by
  have hT : ∀ v ∈ vs, Looks M s.heap (typeOf v) (.type "tuple") := fun v hv => by
    obtain ⟨d, hd', as, r⟩ := e.left v hv
    obtain ⟨xs, rfl⟩ := hd d hd'
    exact looks_reads r
  have hne : ∃ v vr, vs = v :: vr := by
    cases e with
    | nil => simp at h0
    | cons _ _ => exact ⟨_, _, rfl⟩
  obtain ⟨v, vr, rfl⟩ := hne
  rw [kat_kind_eq, List.mapM_toArray, map_eq_pure_bind]
  refine wpAny_bind (wpAny_bind (firsts_tups e hd fun os ho => wpAny_pure ?_))
  have ho := ho h0
  cases os with
  | nil => simp at ho
  | cons o os =>
    simp at ho
    subst ho
    rw [if_neg (by simp), if_neg (by simp), oneTypeOnly'_eq, List.mapM_toArray, map_eq_pure_bind]
    refine wpAny_bind (wpAny_bind (wpAny_bind (kas_mapM (r := .type "tuple") _ (fun v hv Q' hq => (hT v hv).here hq) (wpAny_pure ?_))))
    have hall : ((List.map (fun _ => Value.type "tuple") (v :: vr)).toArray.all fun x => x == Value.type "tuple") = true := by simp
    have hz : (List.map (fun _ => Value.type "tuple") (v :: vr)).toArray[0]? = some (.type "tuple") := by simp
    rw [hz]
    simp only [hall, if_true]
    exact wpAny_pure (wpAny_pure h)
theorem sorts_tups {vs : List Value} {ds : List PyData} (e : EachIs (fun v d => ∃ as, Reads s.heap v d as) vs ds) (hal : AllAlike ds) (hd : ∀ d ∈ ds, ∃ xs, d = .tuple xs) (h0 : ds.head? = some (.tuple [])) (hu : ∀ d, d ∈ ds → A.units + d.depth < cLine) : SortsAt prog w A s (dataKind s.heap ds) vs := by
  refine ⟨fun v hv => ?_, oneType', ?_, fun h2 E Q hq => kind_tups e hd h0 hq⟩
  · obtain ⟨d, hd', as, r⟩ := e.left v hv
    exact ⟨_, dataKind_some hal hd' r⟩
  · intro E x y a b Q ha hb hq
    obtain ⟨d, as, hd1, ra, rfl⟩ := dataKind_inv ha
    obtain ⟨d', as', hd2, rb, rfl⟩ := dataKind_inv hb
    have hdd := hal d hd1 d' hd2
    have hm : A.units + min d.depth d'.depth < cLine := Nat.lt_of_le_of_lt (Nat.add_le_add_left (Nat.min_le_left _ _) _) (hu d hd1)
    obtain ⟨x1, rfl⟩ := hd d hd1
    obtain ⟨x2, rfl⟩ := hd d' hd2
    rw [keyLt'_oneType]
    exact oneLt_tups ra rb (by simpa [alike] using hdd) hm hq
theorem sorted_tups {β : Type} {vs : List Value} {bs : List β} {enc : β → PyData} {R : Value → β → Prop} {l : Addr} {Q : Value → Shared → Prop} (hl : s.heap.IsList l vs.toArray) (e : EachIs R vs bs) (er : EachIs (fun v b => ∃ as, Reads s.heap v (enc b) as) vs bs) (hal : AllAlike (bs.map enc)) (hd : ∀ d ∈ bs.map enc, ∃ xs, d = .tuple xs) (h0 : (bs.map enc).head? = some (.tuple [])) (hL : bs.length ≤ sizeLine)
    (hu : ∀ b, b ∈ bs → A.units + 2 + (enc b).depth < cLine) (h : ∀ out, out.length = bs.length → EachIs R out (bs.mergeSort (dataLe false enc)) → Q (.ref (s.heap.objs.size + 1)) { s with heap := sortedAll s.heap vs (List.toArray out) }) :
    wpAny (model prog w) A (call (.builtin "sorted") [.ref l]) Q E s := by
  have e2 : EachIs (fun v b => ∃ as, Reads (sortingHeap (copyHeap s.heap vs) (s.heap.objs.size + 1) vs) v (enc b) as) vs bs := er.mono fun _ _ ⟨as, r⟩ => ⟨as, PyProof.Rows.Reads.keeps (fun _ _ => sorting_copy_old) r⟩
  have e3 := each_map (R := fun v d => ∃ as, Reads (sortingHeap (copyHeap s.heap vs) (s.heap.objs.size + 1) vs) v d as) enc e2
  refine sorted_vals hl (sorts_tups (s := { s with heap := sortingHeap (copyHeap s.heap vs) (s.heap.objs.size + 1) vs }) e3 hal hd h0 (bound_map hu)) (by rw [e.length]; exact hL) (h _ ?_ (sortVals_data false e e2 hal))
  rw [sortVals_length false rfl]
  exact e.length
end
section
variable {X : Cx} {W : WX}
def sortOkE (ps : List PyData) : Bool := (ps.all fun p => ps.all fun q => PySem.W.alike p q) && (ps.all fun p => match p with
  | .tuple _ => true
  | _ => false) && (match ps.head? with
  | some (.tuple []) => true
  | _ => false) && ps.all fun p => decide (p.depth ≤ 60)
def rSortE (K : PySem.W.Frag) : List V → Hp → VK → Prop := fun xs H Q => ∃ p ys ds B, xs = [.ref p] ∧ Same B H ∧ SqL K H p ys ∧ RpA K B ys ds ∧ (∃ ps, D.pyA ds = some ps ∧ sortOkE ps = true) ∧ ∀ q zs, H q = none → RpA K B zs (ds.mergeSort leD) → Q (.ref q) (upd H q (.lst zs))
theorem cr_sortE (hu : X.A.units + 64 < cLine) : CallR X (.builtin "sorted") (rSortE X.K) := by
  intro pins s σ H xs us Q I r h
  obtain ⟨p, ys, ds, B, rfl, i, hs, rp, ⟨ps, hps, hok⟩, q⟩ := h
  rw [Vals.ref1 r]
  obtain ⟨its, rv, hl, hz⟩ := I.list hs
  obtain ⟨rfl, hpy⟩ := pyA_map hps
  simp only [sortOkE, Bool.and_eq_true, List.all_eq_true, decide_eq_true_eq] at hok
  obtain ⟨⟨⟨h1, h2⟩, hh⟩, h3⟩ := hok
  have er : ∀ {ys : List V} {its : List Value} {ds : List D}, Vals ys its → RpA X.K B ys ds → (∀ d ∈ ds, d.py = some (encD d)) → PySem.W.EachIs (fun v d => ∃ as, Reads s.heap v (encD d) as) its ds ∧ PySem.W.EachIs (fun v d => ∃ x, RelV x v ∧ Rp X.K B x d) its ds := by
    intro ys
    induction ys with
    | nil => intro its ds rv rp _; cases rv; cases rp; exact ⟨.nil, .nil⟩
    | cons y ys ih =>
      intro its ds rv rp hp
      cases rv with
      | cons rv1 rv2 =>
        cases rp with
        | @cons _ _ d ds rp1 rp2 =>
          obtain ⟨a1, a2⟩ := ih rv2 rp2 fun d hd => hp d (by simp [hd])
          exact ⟨.cons (Dp.reads I _ _ _ (dp_mono i (dp_of rp1 (hp d (by simp)))) rv1) a1, .cons ⟨_, rv1, rp1⟩ a2⟩
  obtain ⟨e1, e2⟩ := er rv rp hpy
  have hlen : ds.length ≤ sizeLine := by rw [← rp.length]; exact hz
  refine sorted_tups (bs := ds) (enc := encD) (R := fun v d => ∃ x, RelV x v ∧ Rp X.K B x d) hl.isList e2 e1 (fun d hd d' hd' => h1 d hd d' hd') (fun d hd => ?_) ?_ hlen (fun d hd => ?_) fun out ho hout => ?_
  · have := h2 d hd
    split at this
    · exact ⟨_, rfl⟩
    · cases this
  · split at hh
    · assumption
    · cases hh
  · have := h3 (encD d) (List.mem_map.mpr ⟨d, hd, rfl⟩)
    omega
  · have back : ∀ {out : List Value} {ds : List D}, PySem.W.EachIs (fun v d => ∃ x, RelV x v ∧ Rp X.K B x d) out ds → ∃ zs, Vals zs out ∧ RpA X.K B zs ds := by
      intro out
      induction out with
      | nil => intro ds h; cases h; exact ⟨[], .nil, .nil⟩
      | cons v out ih =>
        intro ds h
        cases h with
        | cons a b =>
          obtain ⟨x, x1, x2⟩ := a
          obtain ⟨zs, z1, z2⟩ := ih b
          exact ⟨x :: zs, .cons x1 z1, .cons x2 z2⟩
    obtain ⟨zs, z1, z2⟩ := back hout
    obtain ⟨ep, he'⟩ := PyProof.Rows.sortedAll_at s.heap its (List.toArray out)
    have hzl : zs.length ≤ sizeLine := by rw [z1.length, ho]; exact hlen
    exact ⟨.ref _, upd H (s.heap.objs.size + 1) (.lst zs), I.laid (t' := s.toks) (fun _ _ => PyProof.Rows.sortedAll_old) (Nat.le_succ _) ⟨hzl, out, ep, z1, he'⟩, rfl, q _ zs (I.hok.fresh (Nat.le_succ _)) z2⟩
/-- sorted of ints, or of tuples that can be compared, the first of them empty, too -/
def srtA (ds : List D) : Res (List D) := match intsD ds with
  | some ns => .ok ((sortI ns).map D.int)
  | none => match D.pyA ds with
    | some ps => if sortOk ps = true ∨ sortOkE ps = true then .ok (ds.mergeSort leD) else .no
    | none => .no
def cSrtA (f : DS → Res D) : DS → Res (List D) := fun δ => (f δ).bind fun d => (asL d).bind srtA
theorem cf_sortedA (K : PySem.W.Frag) (hK : X.K = K) (hu : X.A.units + 64 < cLine) {a : Expr} {p pos : Pos} {t : TE} {f : DS → Res D} (hm : X.mg "sorted" = none) (ha : CE X W a t f) (hg : Gl X "sorted" := by rfl) (hs : starEach [a] X.env = (false, eval a X.env) :: starEach [] X.env := by rfl) (hpl : (backTo pos (starEach [] X.env)).any (·.1) = false := by rfl) :
    CF X W (.Call (.Name "sorted" p) [a] [] pos) (tCB (fun xs H Q => rSortedI K xs H Q ∨ rSortD K xs H Q ∨ rSortE K xs H Q) (tCons t tNil)) (cSrtA f) := by
  subst hK
  refine ⟨pe_callB (CallR.or cr_sortedI (CallR.or (cr_sortD hu) (cr_sortE hu))) hg hm (by decide +kernel) (pa_cons ha.pe pa_nil hs) (by decide) (by decide) hs hpl, fun B0 H0 δ σ B H Q rel hp => ?_⟩
  unfold cSrtA at hp
  refine ha.se B0 H0 δ σ B H _ rel ?_
  cases e : f δ with
  | no => rw [e] at hp; exact hp
  | er x => rw [e] at hp; exact hp
  | ok d =>
    rw [e, Res.bind_ok] at hp
    intro v B1 H1 g1 r1
    unfold asL at hp
    split at hp
    case h_2 => exact hp.elim
    case h_1 ds =>
    rw [Res.bind_ok] at hp
    unfold srtA at hp
    cases r1 with
    | lst h1 q =>
      split at hp
      · rename_i ns e2
        rw [intsD_of e2] at q
        have e3 := q.ints_of
        subst e3
        refine .inl ⟨_, ns, rfl, g1.i.seq h1, fun ns' z k1 k2 k3 => ?_⟩
        rw [sortI_unique k1 k2]
        exact hp z _ B1 _ (g1.trans (Grow.raw g1.i k3)) (g1.free k3) (g1.i.free k3) upd_same (RpA.ints _)
      · split at hp
        · rename_i ps e3
          split at hp
          · rename_i hok
            rcases hok with hok | hok
            · exact .inr (.inl ⟨_, _, _, B1, rfl, g1.i, g1.i.seq h1, q, ⟨ps, e3, hok⟩, fun z zs k1 k2 => hp z _ B1 _ (g1.trans (Grow.raw g1.i k1)) (g1.free k1) (g1.i.free k1) upd_same k2⟩)
            · exact .inr (.inr ⟨_, _, _, B1, rfl, g1.i, g1.i.seq h1, q, ⟨ps, e3, hok⟩, fun z zs k1 k2 => hp z _ B1 _ (g1.trans (Grow.raw g1.i k1)) (g1.free k1) (g1.i.free k1) upd_same k2⟩)
          · exact hp.elim
        · exact hp.elim
end
end DV
namespace DV
open PySem L2

/-! ### mathematics over the compiled functions: loops and comprehensions -/
/-- a for over xs.map f whose turns are told by a fold -/
theorem forF_map {α β : Type} (f : β → D) (st : α → DS) (step : α → β → α) (P : α → Prop) {b : D → DS → Option DS} {g : DS → Fl} : ∀ (xs : List β) (a : α), P a →
    (∀ a x, x ∈ xs → P a → ∃ δ', b (f x) (st a) = some δ' ∧ g δ' = .nx (st (step a x)) ∧ P (step a x)) → forF b g (xs.map f) (st a) = .nx (st (xs.foldl step a)) ∧ P (xs.foldl step a)
  | [], a, hp, _ => ⟨rfl, hp⟩
  | x :: xs, a, hp, h => by
    obtain ⟨δ', h1, h2, h3⟩ := h a x (by simp) hp
    have ih := forF_map f st step P xs (step a x) h3 fun a y hy => h a y (by simp [hy])
    refine ⟨?_, ih.2⟩
    rw [List.map_cons, forF, h1]
    dsimp only
    rw [h2]
    exact ih.1
/-- a for that only goes on, a word holding between the turns -/
theorem forF_inv {β : Type} (f : β → D) (P : DS → Prop) {b : D → DS → Option DS} {g : DS → Fl} : ∀ (xs : List β) (δ : DS), P δ →
    (∀ δ x, x ∈ xs → P δ → ∃ δ' δ2, b (f x) δ = some δ' ∧ g δ' = .nx δ2 ∧ P δ2) → ∃ δ2, forF b g (xs.map f) δ = .nx δ2 ∧ P δ2
  | [], δ, hp, _ => ⟨δ, rfl, hp⟩
  | x :: xs, δ, hp, h => by
    obtain ⟨δ', δ2, h1, h2, h3⟩ := h δ x (by simp) hp
    obtain ⟨δ3, h4, h5⟩ := forF_inv f P xs δ2 h3 fun δ y hy => h δ y (by simp [hy])
    refine ⟨δ3, ?_, h5⟩
    rw [List.map_cons, forF, h1]
    dsimp only
    rw [h2]
    exact h4
/-- a comprehension over xs.map f -/
theorem lcF_map {β : Type} (f : β → D) (h : β → D) {b : D → DS → Option DS} {t : DS → Res Bool} {e : DS → Res D} {δ : DS} : ∀ xs : List β,
    (∀ x, x ∈ xs → ∃ δ', b (f x) δ = some δ' ∧ t δ' = .ok true ∧ e δ' = .ok (h x)) → lcF b t e (xs.map f) δ = .ok (xs.map h)
  | [], _ => rfl
  | x :: xs, hh => by
    obtain ⟨δ', h1, h2, h3⟩ := hh x (by simp)
    rw [List.map_cons, lcF, h1]
    dsimp only
    rw [h2, h3]
    simp only [Res.calm_ok, Res.bind_ok, if_true]
    rw [lcF_map f h xs fun y hy => hh y (by simp [hy])]
    rfl
theorem lcF_filter {β : Type} (f : β → D) (p : β → Bool) (h : β → D) {b : D → DS → Option DS} {t : DS → Res Bool} {e : DS → Res D} {δ : DS} : ∀ xs : List β,
    (∀ x, x ∈ xs → ∃ δ', b (f x) δ = some δ' ∧ t δ' = .ok (p x) ∧ (p x = true → e δ' = .ok (h x))) → lcF b t e (xs.map f) δ = .ok ((xs.filter p).map h)
  | [], _ => rfl
  | x :: xs, hh => by
    obtain ⟨δ', h1, h2, h3⟩ := hh x (by simp)
    have ih := lcF_filter f p h xs fun y hy => hh y (by simp [hy])
    rw [List.map_cons, lcF, h1]
    dsimp only
    rw [h2]
    simp only [Res.calm_ok, Res.bind_ok]
    cases hp : p x with
    | true =>
      rw [if_pos rfl, h3 hp, Res.calm_ok, Res.bind_ok, ih, Res.bind_ok, List.filter_cons, if_pos hp]
      rfl
    | false =>
      rw [if_neg Bool.false_ne_true, ih, List.filter_cons, if_neg (by rw [hp]; exact Bool.false_ne_true)]
theorem cutD_map {β : Type} (f : β → D) (xs : List β) (lo hi : Option Int) : cutD (xs.map f) lo hi = ((xs.drop (HT.sIx xs.length 0 lo)).take (HT.sIx xs.length xs.length hi - HT.sIx xs.length 0 lo)).map f := by
  unfold cutD
  rw [List.length_map, List.map_take, List.map_drop]
theorem mul_ok {i j : Int} {a b : Nat} (ha : i.natAbs < 2 ^ a) (hb : j.natAbs < 2 ^ b) (h0 : 0 < a) (h1 : 0 < b) (h : a + b ≤ 1000000) : i.natAbs.log2 + j.natAbs.log2 < 1000000 := wide_mul ha hb h0 h1 h
theorem oMul_int {i j : Int} (h : i.natAbs.log2 + j.natAbs.log2 < 1000000) : oMul2 (.int i) (.int j) = .ok (.int (i * j)) := by
  show (if i.natAbs.log2 + j.natAbs.log2 < 1000000 then _ else _) = _
  rw [if_pos h]
theorem oMulI_int {i j : Int} (h : i.natAbs.log2 + j.natAbs.log2 < 1000000) : oMulI (.int i) (.int j) = .ok (.int (i * j)) := by
  show (if i.natAbs.log2 + j.natAbs.log2 < 1000000 then _ else _) = _
  rw [if_pos h]
theorem oMod_pos {i j : Int} (h : 0 < j) : oMod (.int i) (.int j) = .ok (.int (i % j)) := by
  show (if j ≠ 0 then _ else _) = _
  rw [if_pos (by omega), Int.fmod_eq_emod_of_nonneg i (by omega)]
theorem log2_small {n k : Nat} (h0 : 0 < k) (h : n < 2 ^ k) : n.log2 < k := PySem.Flt.log2_lt_of h0 h
theorem oFdiv_pos {i j : Int} (h : 0 < j) (hl : j.natAbs < 2 ^ 9000) : oFdiv (.int i) (.int j) = .ok (.int (i / j)) := by
  show (if j ≠ 0 ∧ j.natAbs.log2 < 9000 then _ else _) = _
  rw [if_pos ⟨by omega, log2_small (by decide) hl⟩, Int.fdiv_eq_ediv_of_nonneg i (by omega)]
theorem oAdd_int (i j : Int) : oAdd (.int i) (.int j) = .ok (.int (i + j)) := rfl
theorem oSub_int (i j : Int) : oSub (.int i) (.int j) = .ok (.int (i - j)) := rfl
theorem oEq_int (i j : Int) : oEq (.int i) (.int j) = .ok (.bl (decide (i = j))) := by
  show (if SeqAt.shaped (.int i) = true ∧ SeqAt.shaped (.int j) = true then Res.ok (D.bl (if false = true then _ else i == j)) else .no) = _
  rw [if_pos ⟨by rfl, by rfl⟩]
  rfl
theorem oNe_int (i j : Int) : oNe (.int i) (.int j) = .ok (.bl (!decide (i = j))) := by
  show (if SeqAt.shaped (.int i) = true ∧ SeqAt.shaped (.int j) = true then Res.ok (D.bl (if true = true then !(i == j) else _)) else .no) = _
  rw [if_pos ⟨by rfl, by rfl⟩]
  rfl
theorem oEq_bl (i j : Bool) : oEq (.bl i) (.bl j) = .ok (.bl (i == j)) := by
  cases i <;> cases j <;> rfl
theorem oNe_bl (i j : Bool) : oNe (.bl i) (.bl j) = .ok (.bl (!(i == j))) := by
  cases i <;> cases j <;> rfl
theorem gRange1_nat {n : Nat} (hz : n ≤ sizeLine) : gRange1 [D.int (n : Int)] = .ok (rangeD 0 n) := by
  rw [sizeLine_eq] at hz
  unfold gRange1
  dsimp only
  rw [if_pos (by omega), Int.toNat_natCast]
theorem rangeD_len (lo : Int) (n : Nat) : (rangeD lo n).length = n := by simp [rangeD]

/-! ### one statement after the other -/
theorem seq_nx {g h : DS → Fl} {δ δ' : DS} {r : Fl} (h1 : g δ = .nx δ') (h2 : h δ' = r) : cSeq g h δ = r := by
  rw [cSeq, h1]
  exact h2
theorem seq_rt {g h : DS → Fl} {δ : DS} {d : D} (h1 : g δ = .rt d) : cSeq g h δ = .rt d := by
  rw [cSeq, h1]
  rfl
theorem seq_rs {g h : DS → Fl} {δ δ' : DS} {x : Exn} (h1 : g δ = .rs x δ') : cSeq g h δ = .rs x δ' := by
  rw [cSeq, h1]
  rfl
theorem asg_nx {i : Nat} {f : DS → Res D} {δ : DS} {d : D} (h : f δ = .ok d) : cAsg i f δ = .nx (δ.set i (some (.im d))) := by
  rw [cAsg, h]
  rfl
theorem own_nx {i : Nat} {f : DS → Res (List D)} {δ : DS} {ds : List D} (h : f δ = .ok ds) : cOwn i f δ = .nx (δ.set i (some (.ow ds))) := by
  rw [cOwn, h]
  rfl
theorem drop_nx {f : DS → Res D} {δ : DS} {d : D} (h : f δ = .ok d) : cDrop f δ = .nx δ := by
  rw [cDrop, h]
  rfl
theorem ret_rt {f : DS → Res D} {δ : DS} {d : D} (h : f δ = .ok d) : cRet f δ = .rt d := by
  rw [cRet, h]
  rfl
theorem if_t {t : DS → Res Bool} {g h : DS → Fl} {δ : DS} {r : Fl} (ht : t δ = .ok true) (hg : g δ = r) : cIf t g h δ = r := by
  rw [cIf, ht]
  exact hg
theorem if_f {t : DS → Res Bool} {g h : DS → Fl} {δ : DS} {r : Fl} (ht : t δ = .ok false) (hh : h δ = r) : cIf t g h δ = r := by
  rw [cIf, ht]
  exact hh
theorem for_r {fi : DS → Res (List D)} {b : D → DS → Option DS} {g : DS → Fl} {δ : DS} {ds : List D} {r : Fl} (h : fi δ = .ok ds) (hf : forF b g ds δ = r) : cFor fi b g δ = r := by
  rw [cFor, h]
  exact hf
end DV
namespace DV
open PySem L2
/-! ### the compiled functions, evaluated -/
section
variable {δ : DS} {f f' : DS → Res D} {fs fk : DS → Res (List D)} {t u : DS → Res Bool} {g h : DS → Fl} {i : Nat}
@[simp] theorem ev_var : cVar i δ = (match δ[i]? with | some (some (.im d)) => .ok d | _ => .no) := rfl
@[simp] theorem ev_c {d : D} : cC d δ = .ok d := rfl
@[simp] theorem ev_bin {o : D → D → Res D} : cBin o f f' δ = (f δ).bind fun x => (f' δ).bind fun y => o x y := rfl
@[simp] theorem ev_un {o : D → Res D} : cUn o f δ = (f δ).bind o := rfl
@[simp] theorem ev_chain {o o' : D → D → Res D} {fb fc : DS → Res D} : cChain o o' f fb fc δ = (f δ).bind fun x => (fb δ).bind fun y => (o x y).bind fun k => (match k with
  | .v (.bl true) => (fc δ).bind fun z => o' y z
  | .v (.bl false) => .ok (.bl false)
  | _ => .no) := rfl
@[simp] theorem ev_test : cTest f δ = (f δ).bind asB := rfl
@[simp] theorem ev_asB {b : Bool} : asB (.v (.bl b)) = .ok b := rfl
@[simp] theorem ev_asI {b : Int} : asI (.v (.int b)) = .ok (some b) := rfl
@[simp] theorem ev_notT : cNotT t δ = (t δ).bind fun b => .ok (!b) := rfl
@[simp] theorem ev_andT : cAndT t u δ = (t δ).bind fun b => if b = true then u δ else .ok false := rfl
@[simp] theorem ev_orT : cOrT t u δ = (t δ).bind fun b => if b = true then .ok true else u δ := rfl
@[simp] theorem ev_andV : cAndV f f' δ = (f δ).bind fun x => (match x with
  | .v (.bl true) => f' δ
  | .v (.bl false) => .ok (.bl false)
  | _ => .no) := rfl
@[simp] theorem ev_orV : cOrV f f' δ = (f δ).bind fun x => (match x with
  | .v (.bl true) => .ok (.bl true)
  | .v (.bl false) => f' δ
  | _ => .no) := rfl
@[simp] theorem ev_not {b : Bool} : oNot (.v (.bl b)) = .ok (.bl (!b)) := rfl
@[simp] theorem ev_ifE : cIfE t f f' δ = (t δ).bind fun b => if b = true then f δ else f' δ := rfl
@[simp] theorem ev_nil : cNil δ = .ok [] := rfl
@[simp] theorem ev_cons : cCons f fs δ = (f δ).bind fun x => (fs δ).bind fun xs => .ok (x :: xs) := rfl
@[simp] theorem ev_tup : cTup fs δ = (fs δ).bind fun ds => .ok (.tup ds) := rfl
@[simp] theorem ev_L : cL fs δ = (fs δ).bind fun ds => .ok (.lst ds) := rfl
@[simp] theorem ev_call {c : List D → Res D} : cCall c fs δ = (fs δ).bind c := rfl
@[simp] theorem ev_fn0 {F : List D → Res D} : cFn0 F fs δ = (fs δ).bind F := rfl
@[simp] theorem ev_fn {F : List D → Res D} {dd : List D} : cFn F dd fs δ = (fs δ).bind fun ds => F (ds ++ dd) := rfl
@[simp] theorem ev_kw {F : List D → Res D} {l : List (Pk D)} : cKw F l fs fk δ = (fs δ).bind fun ds => (fk δ).bind fun es => F (pkD l ds es) := rfl
@[simp] theorem ev_pk_p {α : Type} {z : α} {us ws : List α} {n : Nat} : Pk.get z us ws (.p n) = us.getD n z := rfl
@[simp] theorem ev_pk_k {α : Type} {z : α} {us ws : List α} {n : Nat} : Pk.get z us ws (.k n) = ws.getD n z := rfl
@[simp] theorem ev_pk_c {α : Type} {z x : α} {us ws : List α} : Pk.get z us ws (.c x) = x := rfl
@[simp] theorem ev_items : cItems f δ = (f δ).bind itemsD := rfl
@[simp] theorem ev_items_l {xs : List D} : itemsD (.lst xs) = .ok xs := rfl
@[simp] theorem ev_items_t {xs : List D} : itemsD (.tup xs) = .ok xs := rfl
@[simp] theorem ev_it {c : List D → Res (List D)} : cIt c fs δ = (fs δ).bind c := rfl
@[simp] theorem ev_lc {vs : List Nat} {b : D → DS → Option DS} : cLc vs fs b t f δ = (fs δ).bind fun ds => if ds.length ≤ sizeLine then lcF b t f ds (wipeD δ vs) else .no := rfl
@[simp] theorem ev_yes : cYes δ = .ok true := rfl
@[simp] theorem ev_wipe0 : wipeD δ [] = δ := rfl
@[simp] theorem ev_wipe1 {v : Nat} {vs : List Nat} : wipeD δ (v :: vs) = (wipeD δ vs).set v none := rfl
@[simp] theorem ev_none : cNone δ = .ok none := rfl
@[simp] theorem ev_some : cSome f δ = (f δ).bind asI := rfl
@[simp] theorem ev_sl {lo hi : DS → Res (Option Int)} : cSl f lo hi δ = (f δ).bind fun x => (lo δ).bind fun l => (hi δ).bind fun h => oSl l h x := rfl
@[simp] theorem ev_slt {lo hi : Option Int} {xs : List D} : oSl lo hi (.tup xs) = .ok (.tup (cutD xs lo hi)) := rfl
@[simp] theorem ev_sll {lo hi : Option Int} {xs : List D} : oSl lo hi (.lst xs) = .ok (.lst (cutD xs lo hi)) := rfl
@[simp] theorem ev_bname {d : D} : bName i d δ = some (δ.set i (some (.im d))) := rfl
@[simp] theorem ev_bnil : bNil [] δ = some δ := rfl
@[simp] theorem ev_bcons {b : D → DS → Option DS} {c : List D → DS → Option DS} {d : D} {ds : List D} : bCons b c (d :: ds) δ = (b d δ).bind fun δ' => c ds δ' := rfl
@[simp] theorem ev_btup {n : Nat} {c : List D → DS → Option DS} {ds : List D} : bTup n c (.tup ds) δ = if ds.length = n then c ds δ else none := rfl
/-! statements -/
@[simp] theorem ev_seq : cSeq g h δ = (g δ).then h := rfl
@[simp] theorem ev_next : cNext δ = .nx δ := rfl
@[simp] theorem ev_break : cBreak δ = .bk δ := rfl
@[simp] theorem ev_cont : cCont δ = .ct δ := rfl
@[simp] theorem ev_ret : cRet f δ = stE (f δ) δ fun d => .rt d := rfl
@[simp] theorem ev_retN : cRetN δ = .rt .non := rfl
@[simp] theorem ev_if : cIf t g h δ = stE (t δ) δ fun b => if b = true then g δ else h δ := rfl
@[simp] theorem ev_drop : cDrop f δ = stE (f δ) δ fun _ => .nx δ := rfl
@[simp] theorem ev_asg : cAsg i f δ = stE (f δ) δ fun d => .nx (δ.set i (some (.im d))) := rfl
@[simp] theorem ev_asgG {b : D → DS → Option DS} : cAsgG b f δ = stE (f δ) δ fun d => (match b d δ with
  | some δ' => .nx δ'
  | none => .no) := rfl
@[simp] theorem ev_par {j : Nat} : cPar i j fs δ = stE (fs δ) δ fun ds => (match ds with
  | [d, e] => .nx ((δ.set i (some (.im d))).set j (some (.im e)))
  | _ => .no) := rfl
@[simp] theorem ev_aug {o : D → D → Res D} : cAug i o f δ = stE ((cVar i δ).bind fun x => (f δ).bind fun y => o x y) δ fun d => .nx (δ.set i (some (.im d))) := rfl
@[simp] theorem ev_own : cOwn i fs δ = stE (fs δ) δ fun ds => .nx (δ.set i (some (.ow ds))) := rfl
@[simp] theorem ev_app : cApp i f δ = (match δ[i]? with
  | some (some (.ow ds)) => stE (f δ) δ fun d => if ds.length < sizeLine then .nx (δ.set i (some (.ow (ds ++ [d])))) else .no
  | _ => .no) := rfl
@[simp] theorem ev_cfz : cFz i g δ = g (fz i δ) := rfl
@[simp] theorem ev_fz : fz i δ = (match δ[i]? with
  | some (some (.ow ds)) => δ.set i (some (.im (.lst ds)))
  | some (some (.tr k ts)) => δ.set i (some (.im (T.nd k ts).d))
  | _ => δ) := rfl
@[simp] theorem ev_look : cLook i f δ = flatR (f (fz i δ)) := rfl
@[simp] theorem ev_flat {x : V} : flatR (.ok (.v x)) = .ok (.v x) := rfl
@[simp] theorem ev_lookT : cLookT i t δ = (t (fz i δ)).calm := rfl
@[simp] theorem ev_for {b : D → DS → Option DS} : cFor fs b g δ = stE (fs δ) δ fun ds => forF b g ds δ := rfl
@[simp] theorem ev_raise {c : Str} {ff : List D → List (Str × D)} : cRaise c ff fs δ = stE (fs δ) δ fun ds => .rs ⟨c, ff ds⟩ δ := rfl
@[simp] theorem ev_lam {n : Nat} {q : Clauses} {z : Str} : cLam n q z f δ = wordF n q z (f δ) := rfl
@[simp] theorem ev_word_ok {n : Nat} {q : Clauses} {z : Str} {d : D} : wordF n q z (.ok d) = .ok (.str z) := rfl
@[simp] theorem ev_forF0 {b : D → DS → Option DS} : forF b g [] δ = .nx δ := rfl
@[simp] theorem ev_lcF0 {b : D → DS → Option DS} : lcF b t f [] δ = .ok [] := rfl
/-! operators -/
@[simp] theorem ev_add (i j : Int) : oAdd (.v (.int i)) (.v (.int j)) = .ok (.int (i + j)) := rfl
@[simp] theorem ev_sub (i j : Int) : oSub (.v (.int i)) (.v (.int j)) = .ok (.int (i - j)) := rfl
@[simp] theorem ev_neg (i : Int) : oNeg (.v (.int i)) = .ok (.int (-i)) := rfl
@[simp] theorem ev_addI (i j : Int) : oAddI (.v (.int i)) (.v (.int j)) = .ok (.int (i + j)) := rfl
@[simp] theorem ev_oI {p : Int → Int → Bool} (i j : Int) : oI p (.v (.int i)) (.v (.int j)) = .ok (.bl (p i j)) := rfl
@[simp] theorem ev_eqI (i j : Int) : oEqB false (.v (.int i)) (.v (.int j)) = .ok (.bl (decide (i = j))) := oEq_int i j
@[simp] theorem ev_neI (i j : Int) : oEqB true (.v (.int i)) (.v (.int j)) = .ok (.bl (!decide (i = j))) := oNe_int i j
@[simp] theorem ev_eqB (i j : Bool) : oEqB false (.v (.bl i)) (.v (.bl j)) = .ok (.bl (i == j)) := oEq_bl i j
@[simp] theorem ev_neB (i j : Bool) : oEqB true (.v (.bl i)) (.v (.bl j)) = .ok (.bl (!(i == j))) := oNe_bl i j
@[simp] theorem ev_isN {b : Bool} {x : V} : oIsN b (.v x) (.v .non) = .ok (.bl (if b then !isNon (.v x) else isNon (.v x))) := by cases b <;> rfl
@[simp] theorem ev_lenl {xs : List D} : gLen [.lst xs] = .ok (.int (xs.length : Nat)) := rfl
@[simp] theorem ev_lent {xs : List D} : gLen [.tup xs] = .ok (.int (xs.length : Nat)) := rfl
@[simp] theorem ev_revt {xs : List D} : oRev (.tup xs) = .ok (.tup xs.reverse) := rfl
@[simp] theorem ev_revl {xs : List D} : oRev (.lst xs) = .ok (.lst xs.reverse) := rfl
@[simp] theorem ev_all {bs : List Bool} : gAll [.lst (bs.map D.bl)] = .ok (.bl (bs.all id)) := by unfold gAll gBls; simp
@[simp] theorem ev_any {bs : List Bool} : gAny [.lst (bs.map D.bl)] = .ok (.bl (bs.any id)) := by unfold gAny gBls; simp
theorem ev_all' {α : Type} {xs : List α} {p : α → Bool} : gAll [.lst (xs.map fun a => D.bl (p a))] = .ok (.bl (xs.all p)) := by
  have e : (xs.map fun a => D.bl (p a)) = (xs.map p).map D.bl := by simp
  rw [e, ev_all]
  simp [List.all_map, Function.comp_def]
theorem ev_any' {α : Type} {xs : List α} {p : α → Bool} : gAny [.lst (xs.map fun a => D.bl (p a))] = .ok (.bl (xs.any p)) := by
  have e : (xs.map fun a => D.bl (p a)) = (xs.map p).map D.bl := by simp
  rw [e, ev_any]
  simp [List.any_map, Function.comp_def]
end
@[simp] theorem defF_ev {m : Nat} {g : DS → Fl} {ds : List D} : defF m g ds = flR (g (st0 m ds)) := rfl
@[simp] theorem st0_ev {m : Nat} {ds : List D} : st0 m ds = ds.map (fun d => some (.im d)) ++ List.replicate m none := rfl
/-- the items by place -/
theorem at_nat {α : Type} {xs : List α} {i : Nat} : atI xs (i : Int) = xs[i]? := by
  unfold atI ixN
  by_cases h : i < xs.length
  · simp [h]
  · simp [h]
end DV
namespace DV
open PySem L2
/-! ### data without truth values: == is equality -/
mutual
def D.nb : D → Bool
  | .v .non => true
  | .v (.int _) => true
  | .v (.str s) => PyData.canLay0 (.str s)
  | .v _ => false
  | .lst xs => D.nbA xs
  | .tup xs => D.nbA xs
  | .dct _ _ => false
  | .dlk _ _ => false
  | .ins _ _ _ => false
  | .dtt _ _ => false
  | .dtl _ _ => false
def D.nbA : List D → Bool
  | [] => true
  | x :: xs => x.nb && D.nbA xs
end
mutual
def D.dep : D → Nat
  | .lst xs => D.depA xs + 1
  | .tup xs => D.depA xs + 1
  | _ => 0
def D.depA : List D → Nat
  | [] => 0
  | x :: xs => max x.dep (D.depA xs)
end
mutual
def D.eqb : D → D → Bool
  | .v x, .v y => decide (x = y)
  | .lst xs, .lst ys => D.eqbA xs ys
  | .tup xs, .tup ys => D.eqbA xs ys
  | .dct ks vs, .dct ls ws => D.eqbA ks ls && D.eqbA vs ws
  | .dlk ks vs, .dlk ls ws => D.eqbA ks ls && D.eqbA vs ws
  | .ins c ns vs, .ins b ms ws => decide (c = b) && decide (ns = ms) && D.eqbA vs ws
  | .dtt ks vs, .dtt ls ws => decide (ks = ls) && D.eqbA vs ws
  | .dtl ks vs, .dtl ls ws => decide (ks = ls) && D.eqbA vs ws
  | _, _ => false
def D.eqbA : List D → List D → Bool
  | [], [] => true
  | x :: xs, y :: ys => x.eqb y && D.eqbA xs ys
  | _, _ => false
end
mutual
theorem D.eqb_iff : ∀ d e : D, d.eqb e = true ↔ d = e
  | .v x, e => by cases e <;> simp [D.eqb]
  | .lst xs, e => by cases e <;> simp [D.eqb, D.eqbA_iff]
  | .tup xs, e => by cases e <;> simp [D.eqb, D.eqbA_iff]
  | .dct ks vs, e => by cases e <;> simp [D.eqb, D.eqbA_iff]
  | .dlk ks vs, e => by cases e <;> simp [D.eqb, D.eqbA_iff]
  | .ins c ns vs, e => by cases e <;> simp [D.eqb, D.eqbA_iff, and_assoc]
  | .dtt ks vs, e => by cases e <;> simp [D.eqb, D.eqbA_iff]
  | .dtl ks vs, e => by cases e <;> simp [D.eqb, D.eqbA_iff]
theorem D.eqbA_iff : ∀ ds es : List D, D.eqbA ds es = true ↔ ds = es
  | [], es => by cases es <;> simp [D.eqbA]
  | d :: ds, es => by
    cases es with
    | nil => simp [D.eqbA]
    | cons e es => simp [D.eqbA, D.eqb_iff d e, D.eqbA_iff ds es]
end
instance : DecidableEq D := fun d e => decidable_of_iff (d.eqb e = true) (D.eqb_iff d e)
theorem D.eqb_dec (d e : D) : d.eqb e = decide (d = e) := by
  rw [Bool.eq_iff_iff, D.eqb_iff, decide_eq_true_eq]
mutual
theorem D.nb_py : ∀ d : D, d.nb = true → ∃ p, d.py = some p ∧ p.canLay0 = true ∧ p.depth = d.dep
  | .v .non, _ => ⟨.none, rfl, rfl, rfl⟩
  | .v (.int i), _ => ⟨.int i, rfl, rfl, rfl⟩
  | .v (.str s), h => ⟨.str s, rfl, h, rfl⟩
  | .v (.bl _), h => by cases h
  | .v (.byt _), h => by cases h
  | .v (.flt _), h => by cases h
  | .v (.ref _), h => by cases h
  | .v (.ty _), h => by cases h
  | .dct _ _, h => by cases h
  | .dlk _ _, h => by cases h
  | .ins _ _ _, h => by cases h
  | .dtt _ _, h => by cases h
  | .dtl _ _, h => by cases h
  | .lst xs, h => by
    obtain ⟨ps, h1, h2, h3⟩ := D.nbA_py xs (by simpa [D.nb] using h)
    exact ⟨.list ps, by rw [D.py, h1]; rfl, h2, by rw [PyData.depth, h3, D.dep]⟩
  | .tup xs, h => by
    obtain ⟨ps, h1, h2, h3⟩ := D.nbA_py xs (by simpa [D.nb] using h)
    exact ⟨.tuple ps, by rw [D.py, h1]; rfl, h2, by rw [PyData.depth, h3, D.dep]⟩
theorem D.nbA_py : ∀ ds : List D, D.nbA ds = true → ∃ ps, D.pyA ds = some ps ∧ PyData.canLayAll0 ps = true ∧ PyData.depthAll ps = D.depA ds
  | [], _ => ⟨[], rfl, rfl, rfl⟩
  | d :: ds, h => by
    rw [D.nbA, Bool.and_eq_true] at h
    obtain ⟨p, h1, h2, h3⟩ := D.nb_py d h.1
    obtain ⟨ps, g1, g2, g3⟩ := D.nbA_py ds h.2
    refine ⟨p :: ps, ?_, ?_, ?_⟩
    · rw [D.pyA, h1, g1]
    · rw [PyData.canLayAll0, h2, g2]; rfl
    · rw [PyData.depthAll, h3, g3, D.depA]
end
mutual
theorem D.nb_eqv : ∀ (d e : D) (p q : PyData), d.nb = true → e.nb = true → d.py = some p → e.py = some q → PyData.eqv p q = d.eqb e
  | .v x, e, p, q, hd, he, hp, hq => by
    cases x <;> first | (cases hd; done) | skip
    all_goals
      cases hp
      cases e with
      | v y =>
        cases y <;> first | (cases he; done) | (cases hq; simp [PyData.eqv, D.eqb]; done) | (cases hq; simp [PyData.eqv, D.eqb, Bool.beq_eq_decide_eq]; done) | (cases hq; simp [PyData.eqv, D.eqb]; rw [Bool.eq_iff_iff]; simp)
      | lst ys => rw [D.py] at hq; cases z : D.pyA ys <;> rw [z] at hq <;> cases hq <;> rfl
      | tup ys => rw [D.py] at hq; cases z : D.pyA ys <;> rw [z] at hq <;> cases hq <;> rfl
      | dct _ _ => cases he
      | dlk _ _ => cases he
      | dtt _ _ => cases he
      | dtl _ _ => cases he
      | ins _ _ _ => cases he
  | .lst xs, e, p, q, hd, he, hp, hq => by
    obtain ⟨ps, h1, _, _⟩ := D.nbA_py xs (by simpa [D.nb] using hd)
    rw [D.py, h1] at hp
    cases hp
    cases e with
    | v y => cases y <;> first | (cases he; done) | (cases hq; rfl)
    | lst ys =>
      obtain ⟨qs, g1, _, _⟩ := D.nbA_py ys (by simpa [D.nb] using he)
      rw [D.py, g1] at hq
      cases hq
      rw [PyData.eqv, D.eqb]
      exact D.nbA_eqv xs ys ps qs (by simpa [D.nb] using hd) (by simpa [D.nb] using he) h1 g1
    | tup ys => rw [D.py] at hq; cases z : D.pyA ys <;> rw [z] at hq <;> cases hq <;> rfl
    | dct _ _ => cases he
    | dlk _ _ => cases he
    | dtt _ _ => cases he
    | dtl _ _ => cases he
    | ins _ _ _ => cases he
  | .tup xs, e, p, q, hd, he, hp, hq => by
    obtain ⟨ps, h1, _, _⟩ := D.nbA_py xs (by simpa [D.nb] using hd)
    rw [D.py, h1] at hp
    cases hp
    cases e with
    | v y => cases y <;> first | (cases he; done) | (cases hq; rfl)
    | tup ys =>
      obtain ⟨qs, g1, _, _⟩ := D.nbA_py ys (by simpa [D.nb] using he)
      rw [D.py, g1] at hq
      cases hq
      rw [PyData.eqv, D.eqb]
      exact D.nbA_eqv xs ys ps qs (by simpa [D.nb] using hd) (by simpa [D.nb] using he) h1 g1
    | lst ys => rw [D.py] at hq; cases z : D.pyA ys <;> rw [z] at hq <;> cases hq <;> rfl
    | dct _ _ => cases he
    | dlk _ _ => cases he
    | dtt _ _ => cases he
    | dtl _ _ => cases he
    | ins _ _ _ => cases he
  | .dct _ _, _, _, _, hd, _, _, _ => by cases hd
  | .dlk _ _, _, _, _, hd, _, _, _ => by cases hd
  | .ins _ _ _, _, _, _, hd, _, _, _ => by cases hd
  | .dtt _ _, _, _, _, hd, _, _, _ => by cases hd
  | .dtl _ _, _, _, _, hd, _, _, _ => by cases hd
theorem D.nbA_eqv : ∀ (ds es : List D) (ps qs : List PyData), D.nbA ds = true → D.nbA es = true → D.pyA ds = some ps → D.pyA es = some qs → PyData.eqvAll ps qs = D.eqbA ds es
  | [], es, ps, qs, hd, he, hp, hq => by
    cases hp
    cases es with
    | nil => cases hq; rfl
    | cons e es =>
      rw [D.pyA] at hq
      split at hq
      · cases hq; rfl
      · cases hq
  | d :: ds, es, ps, qs, hd, he, hp, hq => by
    rw [D.nbA, Bool.and_eq_true] at hd
    obtain ⟨p, h1, _, _⟩ := D.nb_py d hd.1
    obtain ⟨ps', g1, _, _⟩ := D.nbA_py ds hd.2
    rw [D.pyA, h1, g1] at hp
    cases hp
    cases es with
    | nil => cases hq; rfl
    | cons e es =>
      rw [D.nbA, Bool.and_eq_true] at he
      obtain ⟨q, k1, _, _⟩ := D.nb_py e he.1
      obtain ⟨qs', l1, _, _⟩ := D.nbA_py es he.2
      rw [D.pyA, k1, l1] at hq
      cases hq
      rw [PyData.eqvAll, D.eqbA, D.nb_eqv d e p q hd.1 he.1 h1 k1, D.nbA_eqv ds es ps' qs' hd.2 he.2 g1 l1]
end
theorem oEqB_nb {neg : Bool} {d e : D} (hd : d.nb = true) (he : e.nb = true) (h1 : d.dep ≤ 64) (h2 : e.dep ≤ 64) : oEqB neg d e = .ok (.bl (if neg then !decide (d = e) else decide (d = e))) := by
  obtain ⟨p, a1, a2, a3⟩ := D.nb_py d hd
  obtain ⟨q, b1, b2, b3⟩ := D.nb_py e he
  unfold oEqB
  rw [a1, b1]
  dsimp only
  have sp : SeqAt.shaped p = true := by unfold SeqAt.shaped; rw [a2, decide_eq_true (by omega)]; rfl
  have sq : SeqAt.shaped q = true := by unfold SeqAt.shaped; rw [b2, decide_eq_true (by omega)]; rfl
  rw [if_pos ⟨sp, sq⟩, D.nb_eqv d e p q hd he a1 b1, D.eqb_dec]
theorem D.nbA_of : ∀ {ds : List D}, (∀ d ∈ ds, d.nb = true) → D.nbA ds = true
  | [], _ => rfl
  | d :: ds, h => by rw [D.nbA, h d (by simp), D.nbA_of fun e he => h e (by simp [he])]; rfl
theorem D.depA_of {n : Nat} : ∀ {ds : List D}, (∀ d ∈ ds, d.dep ≤ n) → D.depA ds ≤ n
  | [], _ => Nat.zero_le _
  | d :: ds, h => by rw [D.depA]; exact Nat.max_le.mpr ⟨h d (by simp), D.depA_of fun e he => h e (by simp [he])⟩
theorem D.nb_ints (xs : List Int) : D.nbA (xs.map D.int) = true := D.nbA_of fun d hd => by
  obtain ⟨i, _, rfl⟩ := List.mem_map.mp hd
  rfl
theorem D.dep_ints (xs : List Int) : D.depA (xs.map D.int) ≤ 0 := D.depA_of fun d hd => by
  obtain ⟨i, _, rfl⟩ := List.mem_map.mp hd
  exact Nat.le_refl _
theorem D.int_inj : ∀ {xs ys : List Int}, xs.map D.int = ys.map D.int → xs = ys
  | [], [], _ => rfl
  | [], _ :: _, h => by cases h
  | _ :: _, [], h => by cases h
  | x :: xs, y :: ys, h => by
    simp only [List.map_cons, List.cons.injEq, D.int, D.v.injEq, V.int.injEq] at h
    rw [h.1, D.int_inj h.2]
/-- lists, tuples of ints -/
theorem eqL_ints {neg : Bool} (xs ys : List Int) : oEqB neg (.lst (xs.map D.int)) (.lst (ys.map D.int)) = .ok (.bl (if neg then !decide (xs = ys) else decide (xs = ys))) := by
  rw [oEqB_nb (by rw [D.nb]; exact D.nb_ints xs) (by rw [D.nb]; exact D.nb_ints ys) (by rw [D.dep]; have := D.dep_ints xs; omega) (by rw [D.dep]; have := D.dep_ints ys; omega)]
  have : (D.lst (xs.map D.int) = D.lst (ys.map D.int)) ↔ xs = ys := ⟨fun h => D.int_inj (D.lst.inj h), fun h => by rw [h]⟩
  simp only [this]
theorem eqT_ints {neg : Bool} (xs ys : List Int) : oEqB neg (.tup (xs.map D.int)) (.tup (ys.map D.int)) = .ok (.bl (if neg then !decide (xs = ys) else decide (xs = ys))) := by
  rw [oEqB_nb (by rw [D.nb]; exact D.nb_ints xs) (by rw [D.nb]; exact D.nb_ints ys) (by rw [D.dep]; have := D.dep_ints xs; omega) (by rw [D.dep]; have := D.dep_ints ys; omega)]
  have : (D.tup (xs.map D.int) = D.tup (ys.map D.int)) ↔ xs = ys := ⟨fun h => D.int_inj (D.tup.inj h), fun h => by rw [h]⟩
  simp only [this]
/-- texts -/
theorem eq_strs {neg : Bool} {x y : Str} (hx : PyData.canLay0 (.str x) = true) (hy : PyData.canLay0 (.str y) = true) : oEqB neg (.v (.str x)) (.v (.str y)) = .ok (.bl (if neg then !decide (x = y) else decide (x = y))) := by
  rw [oEqB_nb (by rw [D.nb]; exact hx) (by rw [D.nb]; exact hy) (by rw [D.dep] <;> simp) (by rw [D.dep] <;> simp)]
  have : (D.v (.str x) = D.v (.str y)) ↔ x = y := ⟨fun h => V.str.inj (D.v.inj h), fun h => by rw [h]⟩
  simp only [this]
end DV
namespace DV
open PySem L2
/-! ### the newer combinators, evaluated -/
section
variable {δ : DS} {f f' fk fv : DS → Res D} {fs : DS → Res (List D)} {fi : DS → Res (List Int)} {fd : DS → Res (List (Key × D))} {t : DS → Res Bool} {g : DS → Fl} {i j : Nat}
@[simp] theorem ev_ints : cInts fs δ = (fs δ).bind fun ds => (match intsD ds with
  | some ns => if ns.length < 64 then .ok ns else .no
  | none => .no) := rfl
@[simp] theorem ev_asInts {ns : List Int} : asInts (.tup (ns.map D.int)) = if ns.length < 64 then .ok ns else .no := by
  unfold asInts
  simp
@[simp] theorem ev_sorted : cSorted fi δ = (fi δ).bind fun ns => .ok ((setI ns).map D.int) := rfl
@[simp] theorem ev_lenS : cLenS fi δ = (fi δ).bind fun ns => .ok (.int ((setI ns).length : Nat)) := rfl
@[simp] theorem ev_dn : cDn fd δ = (fd δ).bind fun kvs => .ok (.dct (keysD kvs) (valsD kvs)) := rfl
@[simp] theorem ev_ownD : cOwnD i fd δ = stE (fd δ) δ fun kvs => .nx (δ.set i (some (.od kvs))) := rfl
@[simp] theorem ev_fzD {lk : Bool} : fzD lk i δ = (match δ[i]? with
  | some (some (.od kvs)) => δ.set i (some (.im (if lk then .dlk (keysD kvs) (valsD kvs) else .dct (keysD kvs) (valsD kvs))))
  | _ => δ) := rfl
@[simp] theorem ev_cfzD : cFzD i g δ = g (fzD false i δ) := rfl
@[simp] theorem ev_lookD {lk : Bool} : cLookD lk i f δ = (match δ[i]? with
  | some (some (.od _)) => noDctR (f (fzD lk i δ))
  | _ => .no) := rfl
@[simp] theorem ev_lookTD : cLookTD i t δ = (match δ[i]? with
  | some (some (.od _)) => (t (fzD false i δ)).calm
  | _ => .no) := rfl
@[simp] theorem ev_noDct {d : D} : noDctR (.ok d) = if d.noDct then .ok d else .no := rfl
@[simp] theorem ev_keys : cKeys f δ = (f δ).bind itemsK := rfl
@[simp] theorem ev_itemsK {kvs : List (Key × D)} : itemsK (.dlk (keysD kvs) (valsD kvs)) = .ok (keysD kvs) := by
  unfold itemsK
  simp
@[simp] theorem ev_dict {kvs : List (Key × D)} : D.dict (.dct (keysD kvs) (valsD kvs)) = some kvs := backK_of kvs
@[simp] theorem ev_dictL {kvs : List (Key × D)} : D.dict (.dlk (keysD kvs) (valsD kvs)) = some kvs := backK_of kvs
@[simp] theorem ev_keyI {k : Int} : asKey (.v (.int k)) = some (.inl k) := rfl
@[simp] theorem ev_keyS {k : Str} : asKey (.v (.str k)) = some (.inr k) := rfl
@[simp] theorem ev_putD : cPutD i fk fv δ = (match δ[i]? with
  | some (some (.od kvs)) => stE (fv δ) δ fun d => stE (fk δ) δ fun y => (match asKey y with
    | some k => if kvs.length < sizeLine then .nx (δ.set i (some (.od (putD kvs k d)))) else .no
    | none => .no)
  | _ => .no) := rfl
@[simp] theorem ev_popD : cPopD i fk δ = (match δ[i]? with
  | some (some (.od kvs)) => stE (fk δ) δ fun y => (match asKey y with
    | some k => if (valD kvs k).isSome then .nx (δ.set i (some (.od (dropD kvs k)))) else .no
    | none => .no)
  | _ => .no) := rfl
@[simp] theorem ev_index : cIndex f f' δ = (f δ).bind fun x => (f' δ).calm.bind fun y => oIndex x y := rfl
@[simp] theorem ev_lookL : cLookL i f δ = noLstR (f (fzL i δ)) := rfl
@[simp] theorem ev_fzL : fzL i δ = (match δ[i]? with
  | some (some (.ow ds)) => δ.set i (some (.im (.lst ds)))
  | _ => δ) := rfl
@[simp] theorem ev_noLst {d : D} : noLstR (.ok d) = if d.noLst then .ok d else .no := rfl
@[simp] theorem ev_listRg : cListRg f δ = (f δ).bind fun d => (asN d).bind fun n => .ok (rangeD 0 n.toNat) := rfl
@[simp] theorem ev_asN {n : Int} : asN (.v (.int n)) = if n.natAbs ≤ 1000000 then .ok n else .no := rfl
@[simp] theorem ev_listOf : cListOf f δ = (f δ).bind fun d => (match d with
  | .lst ds => .ok ds
  | .tup ds => .ok ds
  | _ => .no) := rfl
@[simp] theorem ev_rep : cRep fs f δ = (fs δ).bind fun ds => (f δ).bind fun y => (match y with
  | .v (.int k) => if k.natAbs ≤ 1000000 ∧ ds.length * k.toNat ≤ sizeLine then .ok (List.replicate k.toNat ds).flatten else .no
  | _ => .no) := rfl
@[simp] theorem ev_appPop : cAppPop i j f δ = (match δ[i]?, δ[j]? with
  | some (some (.ow ds)), some (some (.ow es)) => stE (f δ).calm δ fun y => (match y with
    | .v (.int k) => if 0 ≤ k ∧ k < es.length ∧ k.natAbs ≤ 1000000 ∧ ds.length < sizeLine then (match es[k.toNat]? with
        | some d => .nx ((δ.set j (some (.ow (es.eraseIdx k.toNat)))).set i (some (.ow (ds ++ [d]))))
        | none => .no)
      else .no
    | _ => .no)
  | _, _ => .no) := rfl
@[simp] theorem ev_put : cPut i f f' δ = (match δ[i]? with
  | some (some (.ow ds)) => stE (f' δ) δ fun d => stE (f δ) δ fun y => (match y with
    | .v (.int k) => (match ixN ds.length k with
      | some j => .nx (δ.set i (some (.ow (ds.set j d))))
      | none => .no)
    | _ => .no)
  | _ => .no) := rfl
@[simp] theorem ev_srt : cSrt f δ = (f δ).bind fun d => (asL d).bind srtD := rfl
@[simp] theorem ev_asL {ds : List D} : asL (.lst ds) = .ok ds := rfl
@[simp] theorem ev_srtI {ns : List Int} : srtD (ns.map D.int) = .ok ((sortI ns).map D.int) := by
  unfold srtD
  simp
@[simp] theorem ev_while {fu : DS → Nat} : cWhile fu t g δ = whileF t g (fu δ) δ := rfl
@[simp] theorem ev_tupl {xs : List D} : gTuple [.lst xs] = .ok (.tup xs) := rfl
@[simp] theorem ev_tupt {xs : List D} : gTuple [.tup xs] = .ok (.tup xs) := rfl
@[simp] theorem ev_listl {xs : List D} : gList [.lst xs] = .ok (.lst xs) := rfl
@[simp] theorem ev_listt {xs : List D} : gList [.tup xs] = .ok (.lst xs) := rfl
@[simp] theorem ev_enuml {xs : List D} : gEnum [.lst xs] = .ok (enumD 0 xs) := rfl
@[simp] theorem ev_enumt {xs : List D} : gEnum [.tup xs] = .ok (enumD 0 xs) := rfl
@[simp] theorem ev_isiB {b : Bool} : gIsi [.v (.bl b), .v (.ty "bool")] = .ok (.bl true) := rfl
end
theorem enumD_map {β : Type} (f : β → D) : ∀ (xs : List β) (i : Nat), enumD i (xs.map f) = (xs.zipIdx i).map fun p => .tup [.int (p.2 : Nat), f p.1]
  | [], i => rfl
  | x :: xs, i => by simp [enumD, enumD_map f xs (i + 1)]
/-- flat items -/
@[simp] theorem flatV_int (i : Int) : flatV (.int i) = true := by first | rfl | simp [flatV]
theorem flats_ints : ∀ ns : List Int, flatsD (ns.map D.int) = some (ns.map V.int)
  | [] => rfl
  | n :: ns => by
    have := flats_ints ns
    simp only [List.map_cons]
    unfold flatsD
    simp only [D.int] at *
    rw [this]
    simp [flatD]
theorem eqV_int (i j : Int) : eqV (.int i) (.int j) = decide (i = j) := by
  by_cases h : i = j <;> simp [eqV, h]
theorem inV_ints (i : Int) (ns : List Int) : inV (.int i) (ns.map V.int) = decide (i ∈ ns) := by
  induction ns with
  | nil => rfl
  | cons n ns ih =>
    unfold inV at *
    simp only [List.map_cons, List.any_cons, ih, List.mem_cons]
    by_cases h : n = i
    · subst h; simp [eqV]
    · have h' : ¬ i = n := fun z => h z.symm
      have : eqV (.int n) (.int i) = false := by simp [eqV_int, h]
      have : eqV (.int i) (.int n) = false := by simp [eqV_int, h']
      simp [*]
theorem oInA_t {neg : Bool} (i : Int) (ns : List Int) : oInA neg (.v (.int i)) (.tup (ns.map D.int)) = .ok (.bl (if neg then !decide (i ∈ ns) else decide (i ∈ ns))) := by
  have : oIn neg (.v (.int i)) (.tup (ns.map D.int)) = .ok (.bl (if neg then !decide (i ∈ ns) else decide (i ∈ ns))) := by
    unfold oIn
    simp only [flatD, flatV_int, if_true, D.items, flats_ints, inV_ints]
  unfold oInA
  rw [this]
theorem oInA_l {neg : Bool} (i : Int) (ns : List Int) : oInA neg (.v (.int i)) (.lst (ns.map D.int)) = .ok (.bl (if neg then !decide (i ∈ ns) else decide (i ∈ ns))) := by
  have : oIn neg (.v (.int i)) (.lst (ns.map D.int)) = .ok (.bl (if neg then !decide (i ∈ ns) else decide (i ∈ ns))) := by
    unfold oIn
    simp only [flatD, flatV_int, if_true, D.items, flats_ints, inV_ints]
  unfold oInA
  rw [this]
theorem findV_int (i : Int) : ∀ ns : List Int, findV (.int i) (ns.map V.int) = if i ∈ ns then some (ns.idxOf i) else none
  | [] => rfl
  | n :: ns => by
    simp only [List.map_cons, findV, eqV_int, findV_int i ns, List.mem_cons, List.idxOf_cons]
    by_cases h : n = i
    · simp [h]
    · have h' : ¬ i = n := fun z => h z.symm
      have hb : (n == i) = false := by simpa using h
      simp only [h, h', decide_false, Bool.false_eq_true, if_false, false_or, hb, cond_false]
      split <;> simp
theorem oIndex_int {i : Int} {ns : List Int} (h : i ∈ ns) : oIndex (.lst (ns.map D.int)) (.v (.int i)) = .ok (.int (ns.idxOf i : Nat)) := by
  unfold oIndex
  simp [flats_ints, flatD, findV_int, h]
/-- a for whose turns go on or end the def with one word -/
theorem forF_ret {β : Type} (f : β → D) (P : DS → Prop) (p : β → Bool) (v : D) {b : D → DS → Option DS} {g : DS → Fl} : ∀ (xs : List β) (δ : DS), P δ →
    (∀ δ x, x ∈ xs → P δ → ∃ δ', b (f x) δ = some δ' ∧ if p x = true then ∃ δ2, g δ' = .nx δ2 ∧ P δ2 else g δ' = .rt v) →
    if xs.all p = true then ∃ δ2, forF b g (xs.map f) δ = .nx δ2 ∧ P δ2 else forF b g (xs.map f) δ = .rt v
  | [], δ, hp, _ => ⟨δ, rfl, hp⟩
  | x :: xs, δ, hp, h => by
    obtain ⟨δ', h1, h2⟩ := h δ x (by simp) hp
    cases hx : p x with
    | false =>
      rw [hx, if_neg Bool.false_ne_true] at h2
      rw [if_neg (by simp [hx]), List.map_cons, forF, h1]
      dsimp only
      rw [h2]
    | true =>
      rw [hx, if_pos rfl] at h2
      obtain ⟨δ2, h3, h4⟩ := h2
      have ih := forF_ret f P p v xs δ2 h4 fun δ y hy => h δ y (by simp [hy])
      rw [List.all_cons, hx, Bool.true_and, List.map_cons, forF, h1]
      dsimp only
      rw [h3]
      exact ih
/-- a comprehension over plain data -/
theorem lcF_all {β : Type} (f : β → D) (p : β → Bool) {b : D → DS → Option DS} {e : DS → Res D} {δ : DS} (xs : List β) (h : ∀ x, x ∈ xs → ∃ δ', b (f x) δ = some δ' ∧ e δ' = .ok (.bl (p x))) :
    ((lcF b cYes e (xs.map f) δ).bind fun ds => gAll [.lst ds]) = .ok (.bl (xs.all p)) := by
  rw [lcF_map f (fun x => D.bl (p x)) xs fun x hx => by obtain ⟨δ', h1, h2⟩ := h x hx; exact ⟨δ', h1, rfl, h2⟩, Res.bind_ok, ev_all']
theorem lcF_any {β : Type} (f : β → D) (p : β → Bool) {b : D → DS → Option DS} {e : DS → Res D} {δ : DS} (xs : List β) (h : ∀ x, x ∈ xs → ∃ δ', b (f x) δ = some δ' ∧ e δ' = .ok (.bl (p x))) :
    ((lcF b cYes e (xs.map f) δ).bind fun ds => gAny [.lst ds]) = .ok (.bl (xs.any p)) := by
  rw [lcF_map f (fun x => D.bl (p x)) xs fun x hx => by obtain ⟨δ', h1, h2⟩ := h x hx; exact ⟨δ', h1, rfl, h2⟩, Res.bind_ok, ev_any']
theorem all_lc {β : Type} {δ : DS} {vs : List Nat} {fi : DS → Res (List D)} {b : D → DS → Option DS} {e : DS → Res D} (f : β → D) (p : β → Bool) (xs : List β) (hi : fi δ = .ok (xs.map f)) (hz : xs.length ≤ sizeLine) (h : ∀ x, x ∈ xs → ∃ δ', b (f x) (wipeD δ vs) = some δ' ∧ e δ' = .ok (.bl (p x))) :
    cCall gAll (cCons (cL (cLc vs fi b cYes e)) cNil) δ = .ok (.bl (xs.all p)) := by
  simp only [ev_call, ev_cons, ev_L, ev_lc, hi, Res.bind_ok, List.length_map, if_pos hz]
  rw [lcF_map f (fun x => D.bl (p x)) xs fun x hx => by obtain ⟨δ', h1, h2⟩ := h x hx; exact ⟨δ', h1, rfl, h2⟩]
  simp only [Res.bind_ok, ev_nil, ev_all']
theorem any_lc {β : Type} {δ : DS} {vs : List Nat} {fi : DS → Res (List D)} {b : D → DS → Option DS} {e : DS → Res D} (f : β → D) (p : β → Bool) (xs : List β) (hi : fi δ = .ok (xs.map f)) (hz : xs.length ≤ sizeLine) (h : ∀ x, x ∈ xs → ∃ δ', b (f x) (wipeD δ vs) = some δ' ∧ e δ' = .ok (.bl (p x))) :
    cCall gAny (cCons (cL (cLc vs fi b cYes e)) cNil) δ = .ok (.bl (xs.any p)) := by
  simp only [ev_call, ev_cons, ev_L, ev_lc, hi, Res.bind_ok, List.length_map, if_pos hz]
  rw [lcF_map f (fun x => D.bl (p x)) xs fun x hx => by obtain ⟨δ', h1, h2⟩ := h x hx; exact ⟨δ', h1, rfl, h2⟩]
  simp only [Res.bind_ok, ev_nil, ev_any']
/-- a comprehension that keeps some -/
theorem lc_keep {β : Type} {δ : DS} {vs : List Nat} {fi : DS → Res (List D)} {b : D → DS → Option DS} {t : DS → Res Bool} {e : DS → Res D} (f : β → D) (p : β → Bool) (h : β → D) (xs : List β) (hi : fi δ = .ok (xs.map f)) (hz : xs.length ≤ sizeLine) (hh : ∀ x, x ∈ xs → ∃ δ', b (f x) (wipeD δ vs) = some δ' ∧ t δ' = .ok (p x) ∧ (p x = true → e δ' = .ok (h x))) :
    cLc vs fi b t e δ = .ok ((xs.filter p).map h) := by
  simp only [ev_lc, hi, Res.bind_ok, List.length_map, if_pos hz]
  exact lcF_filter f p h xs hh
theorem not_ok {δ : DS} {t : DS → Res Bool} {b : Bool} (h : t δ = .ok b) : cNotT t δ = .ok (!b) := by
  rw [cNotT, h]
  rfl
theorem test_ok {δ : DS} {f : DS → Res D} {b : Bool} (h : f δ = .ok (.bl b)) : cTest f δ = .ok b := by
  rw [cTest, h]
  rfl
theorem if_b {t : DS → Res Bool} {g h : DS → Fl} {δ : DS} (b : Bool) (ht : t δ = .ok b) : cIf t g h δ = if b = true then g δ else h δ := by
  rw [cIf, ht]
  rfl
end DV
namespace DV
open PySem L2
/-- a comprehension of two fors over plain data -/
theorem lc2F_flat {β γ : Type} (f : β → D) (g : β → List γ) (k : γ → D) (q : β → γ → Bool) (h : β → γ → D) {vs1 : List Nat} {b b1 : D → DS → Option DS} {t t1 : DS → Res Bool} {fi1 : DS → Res (List D)} {e : DS → Res D} {δ : DS} : ∀ xs : List β,
    (∀ x, x ∈ xs → ∃ δ', b (f x) δ = some δ' ∧ t δ' = .ok true ∧ fi1 δ' = .ok ((g x).map k) ∧ ∀ y, y ∈ g x → ∃ δ'', b1 (k y) (wipeD δ' vs1) = some δ'' ∧ t1 δ'' = .ok (q x y) ∧ (q x y = true → e δ'' = .ok (h x y))) →
    lc2F vs1 b t fi1 b1 t1 e (xs.map f) δ = .ok (xs.flatMap fun x => ((g x).filter (q x)).map (h x))
  | [], _ => rfl
  | x :: xs, hh => by
    obtain ⟨δ', h1, h2, h3, h4⟩ := hh x (by simp)
    have ih := lc2F_flat f g k q h (vs1 := vs1) (b := b) (b1 := b1) (t := t) (t1 := t1) (fi1 := fi1) (e := e) (δ := δ) xs fun y hy => hh y (by simp [hy])
    have hin := lcF_filter k (q x) (h x) (b := b1) (t := t1) (e := e) (δ := wipeD δ' vs1) (g x) h4
    rw [List.map_cons, lc2F, h1]
    dsimp only
    rw [h2, h3]
    simp only [Res.calm_ok, Res.bind_ok, if_true, hin, ih, List.flatMap_cons]
theorem lc2_flat {β γ : Type} (f : β → D) (g : β → List γ) (k : γ → D) (q : β → γ → Bool) (h : β → γ → D) {vs vs1 : List Nat} {fi : DS → Res (List D)} {b b1 : D → DS → Option DS} {t t1 : DS → Res Bool} {fi1 : DS → Res (List D)} {e : DS → Res D} {δ : DS} (xs : List β) (hi : fi δ = .ok (xs.map f))
    (hz : (xs.flatMap fun x => ((g x).filter (q x)).map (h x)).length ≤ sizeLine)
    (hh : ∀ x, x ∈ xs → ∃ δ', b (f x) (wipeD δ vs) = some δ' ∧ t δ' = .ok true ∧ fi1 δ' = .ok ((g x).map k) ∧ ∀ y, y ∈ g x → ∃ δ'', b1 (k y) (wipeD δ' vs1) = some δ'' ∧ t1 δ'' = .ok (q x y) ∧ (q x y = true → e δ'' = .ok (h x y))) :
    cLc2 vs vs1 fi b t fi1 b1 t1 e δ = .ok (xs.flatMap fun x => ((g x).filter (q x)).map (h x)) := by
  unfold cLc2
  rw [hi, Res.bind_ok]
  rw [lc2F_flat f g k q h xs hh]
  dsimp only
  rw [if_pos hz]
end DV
namespace DV
open PySem L2
/-! ### webs, plainly -/
abbrev Web := List (List Int)
def leanW (w : Web) (c : Nat) : List Int := w.getD c []
def tI (l : List Int) : D := .tup (l.map D.int)
def tW (w : Web) : D := .tup (w.map tI)
@[simp] theorem tI_items (l : List Int) : itemsD (tI l) = .ok (l.map D.int) := rfl
@[simp] theorem tI_list (l : List Int) : gList [tI l] = .ok (.lst (l.map D.int)) := rfl
@[simp] theorem tI_tuple (l : List Int) : gTuple [tI l] = .ok (tI l) := rfl
@[simp] theorem tI_of (l : List Int) : gTuple [.lst (l.map D.int)] = .ok (tI l) := rfl
@[simp] theorem tI_len (l : List Int) : gLen [tI l] = .ok (.int (l.length : Nat)) := by simp [tI]
@[simp] theorem tI_ints (l : List Int) : asInts (tI l) = if l.length < 64 then .ok l else .no := ev_asInts
@[simp] theorem tI_in {neg : Bool} (i : Int) (l : List Int) : oInA neg (.v (.int i)) (tI l) = .ok (.bl (if neg then !decide (i ∈ l) else decide (i ∈ l))) := oInA_t i l
@[simp] theorem tI_rev (l : List Int) : oRev (tI l) = .ok (tI l.reverse) := by simp [tI]
theorem tI_add (l m : List Int) (h : l.length + m.length ≤ sizeLine) : oAdd (tI l) (tI m) = .ok (tI (l ++ m)) := by
  unfold oAdd tI
  simp [h]
@[simp] theorem tI_noLst (l : List Int) : (tI l).noLst = true := by
  unfold tI
  rw [D.noLst]
  induction l with
  | nil => rfl
  | cons x l ih => rw [List.map_cons, D.noLstA, ih]; rfl
theorem tI_inj {l m : List Int} (h : tI l = tI m) : l = m := D.int_inj (D.tup.inj h)
@[simp] theorem tW_items (w : Web) : itemsD (tW w) = .ok (w.map tI) := rfl
@[simp] theorem tW_len (w : Web) : gLen [tW w] = .ok (.int (w.length : Nat)) := by simp [tW]
@[simp] theorem tW_enum (w : Web) : gEnum [tW w] = .ok ((w.zipIdx 0).map fun p : List Int × Nat => D.tup [.int (p.2 : Nat), tI p.1]) := by
  unfold tW
  rw [ev_enumt, enumD_map]
@[simp] theorem tW_of (w : Web) : gTuple [.lst (w.map tI)] = .ok (tW w) := rfl
theorem getD_zip {w : Web} {l : List Int} {c : Nat} (h : (l, c) ∈ w.zipIdx 0) : c < w.length ∧ leanW w c = l := by
  obtain ⟨h1, h2⟩ := List.mem_zipIdx' h
  exact ⟨h1, by unfold leanW; rw [List.getD_eq_getElem?_getD, List.getElem?_eq_getElem h1]; simp [h2]⟩
theorem zip_all (w : Web) (p : Nat → Bool) : ((w.zipIdx 0).all fun q => p q.2) = (List.range w.length).all p := by
  have : List.range w.length = (w.zipIdx 0).map Prod.snd := by rw [List.zipIdx_map_snd, List.range_eq_range']
  rw [this, List.all_map]
  rfl
theorem mem_lean {w : Web} {c : Nat} (hc : c < w.length) : leanW w c ∈ w := by
  unfold leanW
  rw [List.getD_eq_getElem?_getD, List.getElem?_eq_getElem hc]
  simp
theorem at_lean {w : Web} {c : Nat} (hc : c < w.length) : (w.map tI)[c]? = some (tI (leanW w c)) := by
  unfold leanW
  rw [List.getD_eq_getElem?_getD, List.getElem?_map, List.getElem?_eq_getElem hc]
  simp
theorem ix_lean {w : Web} {c : Nat} (hc : c < w.length) : oIx (tW w) (.v (.int (c : Int))) = .ok (tI (leanW w c)) := by
  unfold oIx tW
  dsimp only
  rw [at_nat, at_lean hc]
theorem oLe_int (i j : Int) : oLe (.v (.int i)) (.v (.int j)) = .ok (.bl (decide (i ≤ j))) := rfl
theorem oLt_int (i j : Int) : oLt (.v (.int i)) (.v (.int j)) = .ok (.bl (decide (i < j))) := rfl
theorem small_z {n : Nat} (h : n ≤ 1000) : n ≤ sizeLine := Nat.le_trans h (by decide)
def okCol (w : Web) (c : Nat) : Bool := decide (leanW w c = setI (leanW w c)) && !decide ((c : Int) ∈ leanW w c) && (leanW w c).all fun x => decide (0 ≤ x) && decide (x < w.length)
def sizeW (w : Web) : Bool := decide (1 ≤ w.length) && decide (w.length ≤ 6)
def plainW (w : Web) : Bool := sizeW w && (List.range w.length).all (okCol w)
def inN (l : List Nat) (x : Int) : Bool := decide (x ∈ l.map fun (k : Nat) => (k : Int))
def stepW (w : Web) (p : List Nat) : List Nat := (List.range w.length).filter fun c => (leanW w c).all (inN p)
def placedW (w : Web) : Nat → List Nat
  | 0 => []
  | t + 1 => stepW w (placedW w t)
def ringlessW (w : Web) : Bool := decide ((placedW w w.length).length = w.length)
def looseW (w : Web) (l : List Nat) : List Nat := l.filter fun c => !(leanW w c).any (inN l)
def leftW (w : Web) (t : Nat) : List Nat := (List.range w.length).filter fun c => !decide (c ∈ placedW w t)
def lN (l : List Nat) : D := .lst ((l.map fun (k : Nat) => (k : Int)).map D.int)
@[simp] theorem lN_in {neg : Bool} (i : Int) (l : List Nat) : oInA neg (.v (.int i)) (lN l) = .ok (.bl (if neg then !inN l i else inN l i)) := oInA_l i _
@[simp] theorem lN_len (l : List Nat) : gLen [lN l] = .ok (.int (l.length : Nat)) := by simp [lN]
@[simp] theorem lN_items (l : List Nat) : itemsD (lN l) = .ok (l.map fun (k : Nat) => D.int (k : Int)) := by simp [lN]
theorem lN_nil : lN [] = .lst [] := rfl
theorem lN_map (l : List Nat) : lN l = .lst (l.map fun (k : Nat) => D.int (k : Int)) := by simp [lN]
theorem range_len (w : Web) (hz : w.length ≤ 1000) {δ : DS} (h0 : δ[0]? = some (some (.im (tW w)))) : cIt gRange1 (cCons (cCall gLen (cCons (cVar 0) cNil)) cNil) δ = .ok ((List.range w.length).map fun (i : Nat) => D.int (0 + (i : Int))) := by
  simp only [ev_it, ev_cons, ev_call, ev_var, ev_nil, h0, Res.bind_ok, tW_len]
  exact gRange1_nat (small_z hz)
@[simp] theorem inN_nat {l : List Nat} {k : Nat} : inN l (k : Int) = decide (k ∈ l) := by
  simp only [inN, List.mem_map]
  congr 1
  exact propext ⟨fun ⟨a, h, e⟩ => by rw [← show a = k by omega]; exact h, fun h => ⟨k, h, rfl⟩⟩
theorem step_mono {w : Web} {p q : List Nat} (h : ∀ c ∈ p, c ∈ q) : ∀ c ∈ stepW w p, c ∈ stepW w q := by
  intro c hc
  simp only [stepW, List.mem_filter, List.mem_range, List.all_eq_true] at *
  refine ⟨hc.1, fun x hx => ?_⟩
  have := hc.2 x hx
  simp only [inN, List.mem_map, decide_eq_true_eq] at *
  obtain ⟨k, hk, e⟩ := this
  exact ⟨k, h k hk, e⟩
theorem placed_mono (w : Web) : ∀ t, ∀ c ∈ placedW w t, c ∈ placedW w (t + 1)
  | 0, c, hc => by simp [placedW] at hc
  | t + 1, c, hc => step_mono (placed_mono w t) c hc
theorem placed_range {w : Web} {t c : Nat} (h : c ∈ placedW w t) : c < w.length := by
  cases t with
  | zero => simp [placedW] at h
  | succ t => simpa using (List.mem_filter.mp h).1
theorem left_mem {w : Web} {t c : Nat} : c ∈ leftW w t ↔ c < w.length ∧ c ∉ placedW w t := by
  simp [leftW]
theorem left_nodup (w : Web) (t : Nat) : (leftW w t).Nodup := List.Nodup.sublist List.filter_sublist List.nodup_range
theorem range_of {w : Web} (h : plainW w = true) {c : Nat} (hc : c < w.length) {x : Int} (hx : x ∈ leanW w c) : ∃ k : Nat, x = (k : Int) ∧ k < w.length := by
  have := (List.all_eq_true.mp (Bool.and_eq_true _ _ ▸ h).2) c (by simpa using hc)
  simp only [okCol, Bool.and_eq_true, List.all_eq_true, decide_eq_true_eq] at this
  obtain ⟨h1, h2⟩ := this.2 x hx
  exact ⟨x.toNat, by omega, by omega⟩
/-- what the elimination leaves is what is not placed yet -/
theorem loose_left {w : Web} (h : plainW w = true) (t c : Nat) : c ∈ looseW w (leftW w t) ↔ c ∈ leftW w t ∧ c ∈ placedW w (t + 1) := by
  constructor
  · intro hc
    obtain ⟨h1, h2⟩ := List.mem_filter.mp hc
    refine ⟨h1, List.mem_filter.mpr ⟨List.mem_range.mpr (left_mem.mp h1).1, List.all_eq_true.mpr fun x hx => ?_⟩⟩
    obtain ⟨k, rfl, hk⟩ := range_of h (left_mem.mp h1).1 hx
    simp only [Bool.not_eq_true', List.any_eq_false] at h2
    have h3 := h2 _ hx
    simp only [inN_nat, decide_eq_true_eq, left_mem, not_and, Classical.not_not] at h3
    simpa using h3 hk
  · rintro ⟨h1, h2⟩
    refine List.mem_filter.mpr ⟨h1, ?_⟩
    simp only [Bool.not_eq_true', List.any_eq_false]
    intro x hx
    have := (List.all_eq_true.mp (List.mem_filter.mp h2).2) x hx
    obtain ⟨k, rfl, hk⟩ := range_of h (left_mem.mp h1).1 hx
    simp only [inN_nat, decide_eq_true_eq, left_mem] at *
    exact fun z => z.2 this
theorem left_step {w : Web} (h : plainW w = true) (t : Nat) : (leftW w t).filter (fun c => !decide (c ∈ looseW w (leftW w t))) = leftW w (t + 1) := by
  rw [leftW, List.filter_filter]
  conv => rhs; rw [leftW]
  refine List.filter_congr fun c hc => ?_
  have hc' := List.mem_range.mp hc
  have e := loose_left h t c
  have m := placed_mono w t c
  show (!decide (c ∈ looseW w (leftW w t)) && !decide (c ∈ placedW w t)) = !decide (c ∈ placedW w (t + 1))
  have l := left_mem (w := w) (t := t) (c := c)
  by_cases h1 : c ∈ placedW w t
  · have := m h1
    simp [h1, this]
  · by_cases h2 : c ∈ placedW w (t + 1)
    · have : c ∈ looseW w (leftW w t) := e.mpr ⟨l.mpr ⟨hc', h1⟩, h2⟩
      simp [this, h2]
    · have : c ∉ looseW w (leftW w t) := fun z => h2 (e.mp z).2
      simp [this, h1, h2]
theorem stop_of {w : Web} (h : plainW w = true) {t : Nat} (hl : looseW w (leftW w t) = []) : placedW w (t + 1) = placedW w t := by
  have sub : ∀ c ∈ placedW w (t + 1), c ∈ placedW w t := fun c hc => by
    by_cases h1 : c ∈ placedW w t
    · exact h1
    · have : c ∈ looseW w (leftW w t) := (loose_left h t c).mpr ⟨left_mem.mpr ⟨placed_range hc, h1⟩, hc⟩
      rw [hl] at this
      cases this
  cases t with
  | zero =>
    cases e : placedW w 1 with
    | nil => rfl
    | cons x xs => exact absurd (sub x (by rw [e]; simp)) (by simp [placedW])
  | succ t =>
    show stepW w (placedW w (t + 1)) = stepW w (placedW w t)
    have m := placed_mono w t
    unfold stepW
    refine List.filter_congr fun c hc => ?_
    rw [Bool.eq_iff_iff]
    refine ⟨fun z => ?_, fun z => ?_⟩
    · have : c ∈ placedW w (t + 1) := sub c (List.mem_filter.mpr ⟨hc, z⟩)
      exact (List.mem_filter.mp this).2
    · exact (List.mem_filter.mp (step_mono m c (List.mem_filter.mpr ⟨hc, z⟩))).2
theorem placed_stay {w : Web} {t : Nat} (h : placedW w (t + 1) = placedW w t) : ∀ k, placedW w (t + k) = placedW w t
  | 0 => rfl
  | k + 1 => by
    show stepW w (placedW w (t + k)) = _
    rw [placed_stay h k]
    exact h
theorem placed_len {w : Web} (t : Nat) : (placedW w t).length = w.length ↔ leftW w t = [] := by
  have sub : ∀ t, (placedW w t).Sublist (List.range w.length) := fun t => by
    cases t with
    | zero => exact List.nil_sublist _
    | succ t => exact List.filter_sublist
  constructor
  · intro h
    have e := (sub t).eq_of_length (by simpa using h)
    rw [leftW, e]
    refine List.filter_eq_nil_iff.mpr fun c hc => ?_
    simp at hc
    simp [hc]
  · intro h
    have := List.filter_eq_nil_iff.mp h
    have sb : ∀ c, c < w.length → c ∈ placedW w t := fun c hc => by
      have := this c (List.mem_range.mpr hc)
      simpa using this
    cases t with
    | zero =>
      cases hw : w.length with
      | zero => rfl
      | succ n => exact absurd (sb 0 (by omega)) (by simp [placedW])
    | succ t =>
      have : placedW w (t + 1) = List.range w.length := List.filter_eq_self.mpr fun c hc => (List.mem_filter.mp (sb c (List.mem_range.mp hc))).2
      rw [this, List.length_range]
/-- the elimination stops by its seventh turn -/
theorem left_len {w : Web} (h : plainW w = true) (t : Nat) : (∀ s, s < t → looseW w (leftW w s) ≠ []) → (leftW w t).length + t ≤ w.length := by
  induction t with
  | zero =>
    intro _
    have : (leftW w 0).length ≤ w.length := by
      have := List.length_filter_le (fun c => !decide (c ∈ placedW w 0)) (List.range w.length)
      rw [List.length_range] at this
      exact this
    simpa using this
  | succ t ih =>
    intro hs
    have i := ih fun s hst => hs s (by omega)
    have n := hs t (by omega)
    rw [← left_step h t]
    obtain ⟨c, cs, e⟩ := List.exists_cons_of_ne_nil n
    have hc : c ∈ looseW w (leftW w t) := by rw [e]; simp
    have hl : ((leftW w t).filter fun c => !decide (c ∈ looseW w (leftW w t))).length < (leftW w t).length := by
      refine Nat.lt_of_le_of_ne (List.length_filter_le _ _) fun z => ?_
      have := List.length_filter_eq_length_iff.mp z c (List.mem_filter.mp hc).1
      simp [hc] at this
    omega
theorem ringless_iff {w : Web} (h : plainW w = true) {t : Nat} (ht : t ≤ w.length) (hl : looseW w (leftW w t) = []) : ringlessW w = decide (leftW w t = []) := by
  have e := placed_stay (stop_of h hl) (w.length - t)
  rw [show t + (w.length - t) = w.length by omega] at e
  unfold ringlessW
  rw [e]
  simp only [placed_len]
end DV
namespace DV
open PySem L2
/-! ### dicts of columns -/
def kvW (w : Web) (l : List Nat) : List (Key × D) := l.map fun (c : Nat) => ((.inl (c : Int) : Key), tI (leanW w c))
theorem kv_keys (w : Web) (l : List Nat) : keysD (kvW w l) = l.map fun (c : Nat) => D.int (c : Int) := by
  simp [keysD, kvW, Function.comp_def, kD]
theorem kv_val (w : Web) (x : Int) : ∀ l : List Nat, valD (kvW w l) (.inl x) = if inN l x then some (tI (leanW w x.toNat)) else none
  | [] => rfl
  | c :: l => by
    have ih := kv_val w x l
    unfold kvW at ih
    unfold kvW valD
    rw [List.map_cons, List.find?_cons]
    by_cases h : (c : Int) = x
    · subst h
      simp
    · have : ((Sum.inl (c : Int) : Key) = .inl x) ↔ False := ⟨fun z => h (Sum.inl.inj z), False.elim⟩
      simp only [this, decide_false, Bool.false_eq_true]
      have e : inN (c :: l) x = inN l x := by
        unfold inN
        rw [decide_eq_decide, List.map_cons, List.mem_cons]
        exact ⟨fun z => z.elim (fun q => absurd q.symm h) id, .inr⟩
      rw [e]
      exact ih
theorem kv_drop (w : Web) (l : List Nat) (c : Nat) : dropD (kvW w l) (.inl (c : Int)) = kvW w (l.filter fun d => !decide (d = c)) := by
  unfold dropD kvW
  rw [List.filter_map]
  congr 1
  refine List.filter_congr fun d _ => ?_
  have : ((Sum.inl (d : Int) : Key) = .inl (c : Int)) ↔ d = c := ⟨fun z => by have := Sum.inl.inj z; omega, fun z => by rw [z]⟩
  simp [Function.comp_def, this]
theorem kv_zip (w : Web) : ((w.zipIdx 0).map fun p : List Int × Nat => ((.inl (p.2 : Int) : Key), tI p.1)) = kvW w (List.range w.length) := by
  have : List.range w.length = (w.zipIdx 0).map Prod.snd := by rw [List.zipIdx_map_snd, List.range_eq_range']
  rw [this, kvW, List.map_map]
  refine List.map_congr_left fun p hp => ?_
  obtain ⟨l, c⟩ := p
  obtain ⟨_, h2⟩ := getD_zip hp
  simp [h2]
theorem put_new {kvs : List (Key × D)} {i : Nat} {d : D} (h : ∀ p ∈ kvs, ∃ k : Nat, p.1 = .inl (k : Int) ∧ k < i) : putD kvs (.inl (i : Int)) d = kvs ++ [(.inl (i : Int), d)] := by
  unfold putD
  rw [if_neg]
  intro z
  obtain ⟨p, hp, e⟩ := List.any_eq_true.mp z
  obtain ⟨k, h1, h2⟩ := h p hp
  rw [h1, decide_eq_true_eq] at e
  have := Sum.inl.inj e
  omega
/-- {column: leans for column, leans in enumerate(web)} -/
theorem dcF_enum {δ : DS} {a b : Nat} {t : DS → Res Bool} {ek ev : DS → Res D} (hh : ∀ (l : List Int) (i : Nat), t ((δ.set a (some (.im (.int (i : Nat))))).set b (some (.im (tI l)))) = .ok true ∧ ek ((δ.set a (some (.im (.int (i : Nat))))).set b (some (.im (tI l)))) = .ok (.int (i : Nat)) ∧ ev ((δ.set a (some (.im (.int (i : Nat))))).set b (some (.im (tI l)))) = .ok (tI l)) : ∀ (xs : List (List Int)) (i : Nat) (acc : List (Key × D)), (∀ p ∈ acc, ∃ k : Nat, p.1 = .inl (k : Int) ∧ k < i) → acc.length + xs.length ≤ 1000 →
    dcF (bTup 2 (bCons (bName a) (bCons (bName b) bNil))) t ek ev ((xs.zipIdx i).map fun p : List Int × Nat => D.tup [.int (p.2 : Nat), tI p.1]) δ acc = .ok (acc ++ (xs.zipIdx i).map fun p : List Int × Nat => ((.inl (p.2 : Int) : Key), tI p.1))
  | [], i, acc, _, _ => by simp [dcF]
  | x :: xs, i, acc, hk, hl => by
    obtain ⟨h1, h2, h3⟩ := hh x i
    have hl' : acc.length + (xs.length + 1) ≤ 1000 := by simpa using hl
    have ih := dcF_enum hh xs (i + 1) (acc ++ [(.inl (i : Int), tI x)]) (fun p hp => by
      rcases List.mem_append.mp hp with hp | hp
      · obtain ⟨k, e1, e2⟩ := hk p hp
        exact ⟨k, e1, by omega⟩
      · obtain rfl := List.mem_singleton.mp hp
        exact ⟨i, rfl, by omega⟩) (by simp; omega)
    have hz : acc.length < sizeLine := Nat.lt_of_lt_of_le (show acc.length < 1001 by omega) (by decide)
    rw [List.zipIdx_cons, List.map_cons, dcF]
    have hb : bTup 2 (bCons (bName a) (bCons (bName b) bNil)) (D.tup [.int (i : Nat), tI x]) δ = some ((δ.set a (some (.im (.int (i : Nat))))).set b (some (.im (tI x)))) := by simp
    simp only [hb, h1, h2, h3, Res.calm_ok, Res.bind_ok, if_true]
    simp only [D.int, ev_keyI, if_pos hz]
    rw [put_new hk]
    rw [ih]
    simp
end DV
namespace DV
open PySem L2
/-! ### webs drawn along a line -/
theorem sort_rising {l : List Int} (h : l.Nodup) : (sortI l).Pairwise (· < ·) := by
  have h1 := sortI_sorted l
  have h2 : (sortI l).Nodup := (sortI_perm l).nodup_iff.mpr h
  exact (List.Pairwise.and h1 h2).imp fun {a b} ⟨x, y⟩ => by omega
theorem rising_set {l : List Int} (h : l.Pairwise (· < ·)) : setI l = l := rising_one (setI_sorted l) h fun j => setI_mem l j
theorem rising_nodup {l : List Int} (h : l.Pairwise (· < ·)) : l.Nodup := h.imp fun {a b} z => by omega
/-- each column leans on columns that come before it in the line -/
structure Along (w : Web) (line : List Nat) : Prop where
  len : line.length = w.length
  nd : line.Nodup
  rg : ∀ c ∈ line, c < w.length
  ln : ∀ j (hj : j < line.length), ∃ s : List Nat, s.Sublist (line.take j) ∧ leanW w line[j] = sortI (s.map fun (k : Nat) => (k : Int))
theorem nodup_full {l : List Nat} {n : Nat} (h : l.Nodup) (hl : l.length = n) (hr : ∀ c ∈ l, c < n) : ∀ c, c < n → c ∈ l := by
  intro c hc
  apply Classical.byContradiction
  intro hn
  have h1 : (c :: l).Nodup := List.nodup_cons.mpr ⟨hn, h⟩
  have h2 : (c :: l) ⊆ List.range n := fun d hd => by
    rcases List.mem_cons.mp hd with rfl | hd
    · exact List.mem_range.mpr hc
    · exact List.mem_range.mpr (hr d hd)
  have := List.Nodup.length_le_of_subset h1 h2
  simp at this
  omega
theorem Along.at {w : Web} {line : List Nat} (h : Along w line) {c : Nat} (hc : c < w.length) : ∃ j, ∃ hj : j < line.length, line[j] = c := by
  have := nodup_full h.nd h.len h.rg c hc
  obtain ⟨j, hj, e⟩ := List.mem_iff_getElem.mp this
  exact ⟨j, hj, e⟩
theorem sub_mem {w : Web} {line s : List Nat} {j : Nat} (hs : s.Sublist (line.take j)) {x : Int} (hx : x ∈ sortI (s.map fun (k : Nat) => (k : Int))) : ∃ k : Nat, x = (k : Int) ∧ k ∈ line.take j := by
  have := (sortI_perm _).mem_iff.mp hx
  obtain ⟨k, h1, h2⟩ := List.mem_map.mp this
  exact ⟨k, h2.symm, hs.subset h1⟩
theorem take_not {l : List Nat} (h : l.Nodup) {j : Nat} (hj : j < l.length) : l[j] ∉ l.take j := by
  intro z
  obtain ⟨i, hi, e⟩ := List.mem_iff_getElem.mp z
  rw [List.getElem_take] at e
  rw [List.length_take] at hi
  have := (List.getElem_inj h).mp e
  omega
theorem sub_nodup {s : List Nat} (h : s.Nodup) : (s.map fun (k : Nat) => (k : Int)).Nodup := by
  refine List.pairwise_map.mpr (h.imp fun {a b} q z => q ?_)
  exact Int.ofNat.inj z
theorem Along.plain {w : Web} {line : List Nat} (h : Along w line) (h1 : 1 ≤ w.length) (h6 : w.length ≤ 6) : plainW w = true := by
  unfold plainW sizeW
  rw [decide_eq_true h1, decide_eq_true h6]
  simp only [Bool.true_and, List.all_eq_true]
  intro c hc
  obtain ⟨j, hj, rfl⟩ := h.at (List.mem_range.mp hc)
  obtain ⟨s, hs, e⟩ := h.ln j hj
  have sn : s.Nodup := hs.nodup ((List.take_sublist j line).nodup h.nd)
  unfold okCol
  simp only [Bool.and_eq_true, decide_eq_true_eq, Bool.not_eq_true', decide_eq_false_iff_not, List.all_eq_true]
  refine ⟨⟨?_, fun z => ?_⟩, fun x hx => ?_⟩
  · rw [e, rising_set (sort_rising (sub_nodup sn))]
  · rw [e] at z
    obtain ⟨k, e1, hk⟩ := sub_mem (w := w) hs z
    have : line[j] = k := by omega
    rw [← this] at hk
    exact take_not h.nd hj hk
  · rw [e] at hx
    obtain ⟨k, rfl, hk⟩ := sub_mem (w := w) hs hx
    have := h.rg k (List.mem_of_mem_take hk)
    omega
theorem Along.placed {w : Web} {line : List Nat} (h : Along w line) : ∀ t, ∀ c ∈ line.take t, c ∈ placedW w t
  | 0, c, hc => by simp at hc
  | t + 1, c, hc => by
    have hcl := List.mem_of_mem_take hc
    obtain ⟨j, hj, rfl⟩ := List.mem_iff_getElem.mp hcl
    have hjt : j ≤ t := by
      obtain ⟨i, hi, e⟩ := List.mem_iff_getElem.mp hc
      rw [List.getElem_take] at e
      rw [List.length_take] at hi
      have := (List.getElem_inj h.nd).mp e
      omega
    obtain ⟨s, hs, e⟩ := h.ln j hj
    refine List.mem_filter.mpr ⟨List.mem_range.mpr (h.rg _ hcl), List.all_eq_true.mpr fun x hx => ?_⟩
    rw [e] at hx
    obtain ⟨k, rfl, hk⟩ := sub_mem (w := w) hs hx
    have : k ∈ line.take t := (List.take_sublist_take_left hjt).subset hk
    simpa using h.placed t k this
theorem Along.ringless {w : Web} {line : List Nat} (h : Along w line) : ringlessW w = true := by
  unfold ringlessW
  rw [decide_eq_true_eq, placed_len]
  refine List.filter_eq_nil_iff.mpr fun c hc => ?_
  obtain ⟨j, hj, rfl⟩ := h.at (List.mem_range.mp hc)
  have := h.placed w.length line[j] (by rw [List.take_of_length_le (by rw [h.len]; exact Nat.le_refl _)]; exact List.getElem_mem hj)
  simp [this]
theorem Along.lens {w : Web} {line : List Nat} (h : Along w line) : ∀ l ∈ w, l.length ≤ w.length := by
  intro l hl
  obtain ⟨c, hc, rfl⟩ := List.mem_iff_getElem.mp hl
  obtain ⟨j, hj, e0⟩ := h.at hc
  obtain ⟨s, hs, e⟩ := h.ln j hj
  have : leanW w c = w[c] := by
    unfold leanW
    rw [List.getD_eq_getElem?_getD, List.getElem?_eq_getElem hc]
    rfl
  rw [← this, ← e0, e, (sortI_perm _).length_eq, List.length_map]
  have := hs.length_le
  rw [List.length_take] at this
  have := h.len
  omega
/-- a for over a range, a word holding between the turns -/
theorem forF_range (P : Nat → DS → Prop) {b : D → DS → Option DS} {g : DS → Fl} : ∀ (m a : Nat) (δ : DS), P a δ →
    (∀ i δ, a ≤ i → i < a + m → P i δ → ∃ δ' δ2, b (.int (0 + (i : Int))) δ = some δ' ∧ g δ' = .nx δ2 ∧ P (i + 1) δ2) → ∃ δ2, forF b g ((List.range' a m).map fun (i : Nat) => D.int (0 + (i : Int))) δ = .nx δ2 ∧ P (a + m) δ2
  | 0, a, δ, hp, _ => ⟨δ, rfl, hp⟩
  | m + 1, a, δ, hp, h => by
    obtain ⟨δ', δ2, h1, h2, h3⟩ := h a δ (Nat.le_refl _) (by omega) hp
    obtain ⟨δ3, h4, h5⟩ := forF_range P m (a + 1) δ2 h3 fun i δ hi hm => h i δ (by omega) (by omega)
    refine ⟨δ3, ?_, by rw [show a + (m + 1) = a + 1 + m by omega]; exact h5⟩
    rw [List.range'_succ, List.map_cons, forF, h1]
    dsimp only
    rw [h2]
    exact h4
theorem for_range (P : Nat → DS → Prop) {b : D → DS → Option DS} {g : DS → Fl} {n : Nat} {fi : DS → Res (List D)} {δ : DS} (hi : fi δ = .ok ((List.range n).map fun (i : Nat) => D.int (0 + (i : Int)))) (h0 : P 0 δ)
    (h : ∀ i δ, i < n → P i δ → ∃ δ' δ2, b (.int (0 + (i : Int))) δ = some δ' ∧ g δ' = .nx δ2 ∧ P (i + 1) δ2) : ∃ δ2, cFor fi b g δ = .nx δ2 ∧ P n δ2 := by
  obtain ⟨δ2, h1, h2⟩ := forF_range P (b := b) (g := g) n 0 δ h0 fun i δ _ hm => h i δ (by omega)
  rw [← List.range_eq_range'] at h1
  rw [Nat.zero_add] at h2
  exact ⟨δ2, for_r hi h1, h2⟩
theorem erase_perm : ∀ (l : List Nat) (i : Nat) (h : i < l.length), (l[i] :: l.eraseIdx i).Perm l
  | [], i, h => by simp at h
  | x :: l, 0, h => by simp
  | x :: l, i + 1, h => by
    have h' : i < l.length := by simpa using h
    simp only [List.getElem_cons_succ, List.eraseIdx_cons_succ]
    exact (List.Perm.swap x l[i] _).trans ((erase_perm l i h').cons x)
end DV
namespace DV
open PySem L2
/-! ### lists of tuples of ints: sorted, in -/
def pI (l : List Int) : PyData := .tuple (l.map PyData.int)
theorem pyA_ints : ∀ l : List Int, D.pyA (l.map D.int) = some (l.map PyData.int)
  | [] => rfl
  | x :: l => by
    rw [List.map_cons, D.pyA, pyA_ints l]
    rfl
theorem py_tI (l : List Int) : (tI l).py = some (pI l) := by
  unfold tI
  rw [D.py, pyA_ints]
  rfl
theorem pyA_tI : ∀ L : List (List Int), D.pyA (L.map tI) = some (L.map pI)
  | [] => rfl
  | l :: L => by rw [List.map_cons, D.pyA, py_tI, pyA_tI L]; rfl
def ltT : List Int → List Int → Bool
  | [], [] => false
  | [], _ :: _ => true
  | _ :: _, [] => false
  | x :: r, y :: t => decide (x < y) || (decide (x = y) && ltT r t)
def leT (a b : List Int) : Bool := !ltT b a
theorem lex_ints : ∀ a b : List Int, PyProof.Rows.lexLt PyProof.Rows.itemOrd (PySem.W.keyToksAll (a.map PyData.int)) (PySem.W.keyToksAll (b.map PyData.int)) = ltT a b
  | [], [] => by decide
  | [], y :: t => by
    show PyProof.Rows.lexLt PyProof.Rows.itemOrd [.inl 0] (.inl 1 :: _) = true
    rw [PyProof.Rows.lex_cons]
    rfl
  | x :: r, [] => by
    show PyProof.Rows.lexLt PyProof.Rows.itemOrd (.inl 1 :: _) [.inl 0] = false
    rw [PyProof.Rows.lex_cons]
    rfl
  | x :: r, y :: t => by
    have ih := lex_ints r t
    show PyProof.Rows.lexLt PyProof.Rows.itemOrd (.inl 1 :: .inl x :: PySem.W.keyToksAll (r.map PyData.int)) (.inl 1 :: .inl y :: PySem.W.keyToksAll (t.map PyData.int)) = _
    rw [PyProof.Rows.lex_cons, PyProof.Rows.lex_cons, ih]
    show (decide ((1 : Int) < 1) || (!decide ((1 : Int) < 1) && (decide (x < y) || (!decide (y < x) && ltT r t)))) = (decide (x < y) || (decide (x = y) && ltT r t))
    by_cases h1 : x < y
    · simp [h1]
    · by_cases h2 : x = y
      · subst h2; simp
      · have : y < x := by omega
        simp [h1, h2, this]
theorem leD_tI (a b : List Int) : leD (tI a) (tI b) = leT a b := by
  have e : ∀ l, encD (tI l) = pI l := fun l => by unfold encD; rw [py_tI]; rfl
  show (!PyProof.Rows.lexLt PyProof.Rows.itemOrd (PySem.W.keyToks (encD (tI b))) (PySem.W.keyToks (encD (tI a)))) = _
  rw [e, e]
  show (!PyProof.Rows.lexLt PyProof.Rows.itemOrd (PySem.W.keyToksAll (b.map PyData.int)) (PySem.W.keyToksAll (a.map PyData.int))) = _
  rw [lex_ints]
  rfl
def sortT (L : List (List Int)) : List (List Int) := L.mergeSort leT
theorem sortT_perm (L : List (List Int)) : (sortT L).Perm L := List.mergeSort_perm L _
theorem alike_ints : ∀ a b : List Int, PySem.W.alikeAll (a.map PyData.int) (b.map PyData.int) = true
  | [], _ => by cases ‹List Int› <;> simp [PySem.W.alikeAll]
  | _ :: _, [] => by simp [PySem.W.alikeAll]
  | x :: a, y :: b => by
    rw [List.map_cons, List.map_cons, PySem.W.alikeAll, alike_ints a b]
    simp [PySem.W.alike]
theorem depth_ints (l : List Int) : PyData.depthAll (l.map PyData.int) = 0 := by
  induction l with
  | nil => rfl
  | cons x l ih => rw [List.map_cons, PyData.depthAll, ih]; rfl
theorem srt_tI {L : List (List Int)} (h : ∀ l ∈ L, l ≠ []) : srtD (L.map tI) = .ok ((sortT L).map tI) := by
  cases L with
  | nil => simp [srtD, sortT, intsD, sortI]
  | cons l L =>
    unfold srtD
    have e1 : intsD ((l :: L).map tI) = none := rfl
    rw [e1, pyA_tI]
    dsimp only
    have ok : sortOk ((l :: L).map pI) = true := by
      unfold sortOk
      simp only [Bool.and_eq_true, List.all_eq_true, List.mem_map, forall_exists_index, and_imp, forall_apply_eq_imp_iff₂]
      refine ⟨⟨fun a _ b _ => ?_, fun a ha => ?_⟩, fun a _ => ?_⟩
      · show PySem.W.alike (.tuple _) (.tuple _) = true
        rw [PySem.W.alike]
        exact alike_ints a b
      · cases a with
        | nil => exact absurd rfl (h _ ha)
        | cons x a => rfl
      · rw [decide_eq_true_eq]
        show PyData.depth (.tuple _) ≤ 60
        rw [PyData.depth, depth_ints]
        decide
    rw [if_pos ok]
    congr 1
    unfold sortT
    rw [List.map_mergeSort (s := leD) (f := tI)]
    intro a _ b _
    exact (leD_tI a b).symm
theorem nb_tI (l : List Int) : (tI l).nb = true := by unfold tI; rw [D.nb]; exact D.nb_ints l
theorem eqv_tI (a b : List Int) : PyData.eqv (pI a) (pI b) = decide (a = b) := by
  rw [D.nb_eqv (tI a) (tI b) (pI a) (pI b) (nb_tI a) (nb_tI b) (py_tI a) (py_tI b), D.eqb_dec, decide_eq_decide]
  exact ⟨tI_inj, fun h => by rw [h]⟩
theorem lay_ints : ∀ l : List Int, PyData.canLayAll0 (l.map PyData.int) = true
  | [] => rfl
  | x :: l => by rw [List.map_cons, PyData.canLayAll0, lay_ints l]; rfl
theorem shaped_pI (l : List Int) : SeqAt.shaped (pI l) = true := by
  unfold SeqAt.shaped
  have : (pI l).canLay0 = true := by unfold pI; rw [PyData.canLay0]; exact lay_ints l
  rw [this, decide_eq_true (show (pI l).depth ≤ _ from by unfold pI; rw [PyData.depth, depth_ints]; decide)]
  rfl
theorem shaped_pL (L : List (List Int)) : SeqAt.shaped (.list (L.map pI)) = true := by
  unfold SeqAt.shaped
  have h1 : ∀ L : List (List Int), PyData.canLayAll0 (L.map pI) = true := fun L => by
    induction L with
    | nil => rfl
    | cons l L ih =>
      rw [List.map_cons, PyData.canLayAll0, ih]
      unfold pI
      rw [PyData.canLay0, lay_ints]
      rfl
  have h2 : ∀ L : List (List Int), PyData.depthAll (L.map pI) ≤ 1 := fun L => by
    induction L with
    | nil => exact Nat.zero_le _
    | cons l L ih =>
      rw [List.map_cons, PyData.depthAll]
      unfold pI
      rw [PyData.depth, depth_ints]
      exact Nat.max_le.mpr ⟨by omega, ih⟩
  have c : (PyData.list (L.map pI)).canLay0 = true := by rw [PyData.canLay0]; exact h1 L
  have d : (PyData.list (L.map pI)).depth ≤ 64 := by rw [PyData.depth]; have := h2 L; omega
  rw [c, decide_eq_true (by first | exact d | omega)]
  rfl
theorem in_tI {neg : Bool} (a : List Int) (L : List (List Int)) : oInA neg (tI a) (.lst (L.map tI)) = .ok (.bl (if neg then !decide (a ∈ L) else decide (a ∈ L))) := by
  unfold oInA
  have : oIn neg (tI a) (.lst (L.map tI)) = .no := rfl
  rw [this, py_tI]
  dsimp only
  rw [pyA_tI]
  dsimp only
  rw [if_pos ⟨shaped_pI a, shaped_pL L⟩]
  have e : ((L.map pI).any fun z => PyData.eqv z (pI a)) = decide (a ∈ L) := by
    rw [List.any_map, Bool.eq_iff_iff, List.any_eq_true, decide_eq_true_eq]
    constructor
    · rintro ⟨b, hb, h⟩
      rw [Function.comp, eqv_tI, decide_eq_true_eq] at h
      rw [← h]; exact hb
    · intro h
      exact ⟨a, h, by rw [Function.comp, eqv_tI]; simp⟩
  rw [e]
/-- the arrows of a web -/
def arrL (w : Web) : List (List Int) := (List.range w.length).flatMap fun c => (leanW w c).map fun x => [x, (c : Int)]
theorem arrL_mem {w : Web} {x : Int} {c : Nat} : [x, (c : Int)] ∈ arrL w ↔ c < w.length ∧ x ∈ leanW w c := by
  unfold arrL
  rw [List.mem_flatMap]
  constructor
  · rintro ⟨d, hd, h⟩
    obtain ⟨y, hy, e⟩ := List.mem_map.mp h
    simp only [List.cons.injEq, and_true] at e
    obtain ⟨rfl, e⟩ := e
    have : d = c := by omega
    subst this
    exact ⟨List.mem_range.mp hd, hy⟩
  · rintro ⟨h1, h2⟩
    exact ⟨c, List.mem_range.mpr h1, List.mem_map.mpr ⟨x, h2, rfl⟩⟩
theorem arrL_ne {w : Web} : ∀ l ∈ arrL w, l ≠ [] := by
  intro l hl
  obtain ⟨c, _, h⟩ := List.mem_flatMap.mp hl
  obtain ⟨x, _, rfl⟩ := List.mem_map.mp h
  simp
end DV
namespace DV
open PySem L2
/-! ### fresh lists, evaluated; loops over what is done -/
section
variable {δ : DS} {f : DS → Res D} {fs : DS → Res (List D)} {i k : Nat}
@[simp] theorem ev_retF : cRetF fs δ = stE (fs δ) δ fun ds => .rf ds := rfl
@[simp] theorem ev_retO : cRetO i δ = (match δ[i]? with
  | some (some (.ow ds)) => .rf ds
  | _ => .no) := rfl
@[simp] theorem defL_ev {m : Nat} {g : DS → Fl} {ds : List D} : defL m g ds = flF (g (st0 m ds)) := rfl
@[simp] theorem ev_fnF {F : List D → Res (List D)} : cFnF F fs δ = (fs δ).bind F := rfl
@[simp] theorem ev_srtT : cSrtT f δ = (f δ).bind fun d => (intsT d).bind fun ns => .ok ((sortI ns).map D.int) := rfl
@[simp] theorem ev_ins : cIns i k f δ = (match δ[i]? with
  | some (some (.ow ds)) => stE (f δ) δ fun d => if ds.length < sizeLine then .nx (δ.set i (some (.ow (ds.take k ++ [d] ++ ds.drop k)))) else .no
  | _ => .no) := rfl
end
@[simp] theorem intsT_tI (l : List Int) : intsT (tI l) = .ok l := by
  unfold intsT tI
  simp
theorem forF_done {β : Type} (f : β → D) (P : List β → DS → Prop) {b : D → DS → Option DS} {g : DS → Fl} (all : List β) : ∀ (xs done : List β) (δ : DS), done ++ xs = all → P done δ →
    (∀ done x rest δ, done ++ x :: rest = all → P done δ → ∃ δ' δ2, b (f x) δ = some δ' ∧ g δ' = .nx δ2 ∧ P (done ++ [x]) δ2) → ∃ δ2, forF b g (xs.map f) δ = .nx δ2 ∧ P all δ2
  | [], done, δ, e, hp, _ => ⟨δ, rfl, by rw [← e, List.append_nil]; exact hp⟩
  | x :: xs, done, δ, e, hp, h => by
    obtain ⟨δ', δ2, h1, h2, h3⟩ := h done x xs δ e hp
    obtain ⟨δ3, h4, h5⟩ := forF_done f P all xs (done ++ [x]) δ2 (by rw [List.append_assoc]; exact e) h3 h
    refine ⟨δ3, ?_, h5⟩
    rw [List.map_cons, forF, h1]
    dsimp only
    rw [h2]
    exact h4
theorem for_done {β : Type} (f : β → D) (P : List β → DS → Prop) {b : D → DS → Option DS} {g : DS → Fl} (all : List β) {fi : DS → Res (List D)} {δ : DS} (hi : fi δ = .ok (all.map f)) (h0 : P [] δ)
    (h : ∀ done x rest δ, done ++ x :: rest = all → P done δ → ∃ δ' δ2, b (f x) δ = some δ' ∧ g δ' = .nx δ2 ∧ P (done ++ [x]) δ2) : ∃ δ2, cFor fi b g δ = .nx δ2 ∧ P all δ2 := by
  obtain ⟨δ2, h1, h2⟩ := forF_done f P all all [] δ rfl h0 h
  exact ⟨δ2, for_r hi h1, h2⟩
end DV
namespace DV
open PySem L2
/-! ### the order of tuples of ints -/
theorem ltT_asymm : ∀ a b : List Int, ltT a b = true → ltT b a = false
  | [], [], h => by cases h
  | [], _ :: _, _ => rfl
  | _ :: _, [], h => by cases h
  | x :: r, y :: t, h => by
    rw [ltT, Bool.or_eq_true, Bool.and_eq_true, decide_eq_true_eq, decide_eq_true_eq] at h
    rw [ltT, Bool.or_eq_false_iff]
    rcases h with h | ⟨rfl, h⟩
    · refine ⟨decide_eq_false (by omega), ?_⟩
      rw [decide_eq_false (by omega : ¬ y = x)]
      rfl
    · exact ⟨decide_eq_false (by omega), by rw [ltT_asymm r t h, Bool.and_false]⟩
theorem ltT_trans : ∀ a b c : List Int, ltT a b = true → ltT b c = true → ltT a c = true
  | [], _, [], h1, h2 => by
    rename_i b
    cases b with
    | nil => cases h1
    | cons => cases h2
  | [], _, _ :: _, _, _ => rfl
  | _ :: _, [], _, h, _ => by cases h
  | _ :: _, _ :: _, [], _, h => by cases h
  | x :: r, y :: t, z :: s, h1, h2 => by
    rw [ltT, Bool.or_eq_true, Bool.and_eq_true, decide_eq_true_eq, decide_eq_true_eq] at h1 h2 ⊢
    rcases h1 with h1 | ⟨rfl, h1⟩
    · rcases h2 with h2 | ⟨rfl, h2⟩
      · exact .inl (by omega)
      · exact .inl h1
    · rcases h2 with h2 | ⟨rfl, h2⟩
      · exact .inl h2
      · exact .inr ⟨rfl, ltT_trans r t s h1 h2⟩
theorem ltT_tri : ∀ a b : List Int, ltT a b = true ∨ a = b ∨ ltT b a = true
  | [], [] => .inr (.inl rfl)
  | [], _ :: _ => .inl rfl
  | _ :: _, [] => .inr (.inr rfl)
  | x :: r, y :: t => by
    rw [ltT, ltT, Bool.or_eq_true, Bool.and_eq_true, decide_eq_true_eq, decide_eq_true_eq, Bool.or_eq_true, Bool.and_eq_true, decide_eq_true_eq, decide_eq_true_eq]
    rcases Int.lt_trichotomy x y with h | rfl | h
    · exact .inl (.inl h)
    · rcases ltT_tri r t with h | rfl | h
      · exact .inl (.inr ⟨rfl, h⟩)
      · exact .inr (.inl rfl)
      · exact .inr (.inr (.inr ⟨rfl, h⟩))
    · exact .inr (.inr (.inl h))
theorem leT_iff {a b : List Int} : leT a b = true ↔ ltT a b = true ∨ a = b := by
  unfold leT
  constructor
  · intro h
    rcases ltT_tri a b with z | z | z
    · exact .inl z
    · exact .inr z
    · rw [z] at h; cases h
  · rintro (h | rfl)
    · rw [ltT_asymm a b h]; rfl
    · cases z : ltT a a with
      | false => rfl
      | true => rw [ltT_asymm a a z] at z; cases z
theorem leT_trans (a b c : List Int) (h1 : leT a b = true) (h2 : leT b c = true) : leT a c = true := by
  rw [leT_iff] at *
  rcases h1 with h1 | rfl
  · rcases h2 with h2 | rfl
    · exact .inl (ltT_trans a b c h1 h2)
    · exact .inl h1
  · exact h2
theorem leT_total (a b : List Int) : (leT a b || leT b a) = true := by
  rw [Bool.or_eq_true, leT_iff, leT_iff]
  rcases ltT_tri a b with z | z | z
  · exact .inl (.inl z)
  · exact .inl (.inr z)
  · exact .inr (.inl z)
theorem leT_anti {a b : List Int} (h1 : leT a b = true) (h2 : leT b a = true) : a = b := by
  rw [leT_iff] at *
  rcases h1 with h1 | h1
  · rcases h2 with h2 | h2
    · rw [ltT_asymm a b h1] at h2; cases h2
    · exact h2.symm
  · exact h1
theorem sortT_sorted (L : List (List Int)) : (sortT L).Pairwise (fun a b => leT a b = true) := List.pairwise_mergeSort leT_trans leT_total L
theorem sortT_unique {L M : List (List Int)} (hp : M.Perm L) (hs : M.Pairwise (fun a b => leT a b = true)) : M = sortT L :=
  List.Perm.eq_of_pairwise (fun a b _ _ h1 h2 => leT_anti h1 h2) hs (sortT_sorted L) (hp.trans (sortT_perm L).symm)
theorem sortT_congr {L M : List (List Int)} (h : L.Perm M) : sortT L = sortT M := sortT_unique ((sortT_perm L).trans h) (sortT_sorted L)
/-- without repeats and with the same members -/
theorem perm_same {α : Type} {l m : List α} (hl : l.Nodup) (hm : m.Nodup) (h : ∀ x, x ∈ l ↔ x ∈ m) : l.Perm m := (List.perm_ext_iff_of_nodup hl hm).mpr h
theorem rg1 {n : Nat} (h : n ≤ 1000) : gRange1 [.v (.int (n : Int))] = .ok ((List.range n).map fun (k : Nat) => D.int (k : Int)) := by
  unfold gRange1
  dsimp only
  rw [if_pos (by omega)]
  unfold rangeD
  simp
theorem rg2 {a b : Nat} (h : a ≤ 1000) (hb : b ≤ 1000) : gRange2 [.v (.int (a : Int)), .v (.int (b : Int))] = .ok ((List.range' a (b - a)).map fun (k : Nat) => D.int (k : Int)) := by
  unfold gRange2
  dsimp only
  rw [if_pos (by omega)]
  unfold rangeD
  have : ((b : Int) - (a : Int)).toNat = b - a := by omega
  rw [this, List.range'_eq_map_range]
  simp
end DV
namespace DV
open PySem L2
/-! ### joined columns, forks, plainly -/
theorem plain_rise {w : Web} (h : plainW w = true) {c : Nat} (hc : c < w.length) : (leanW w c).Pairwise (· < ·) := by
  unfold plainW at h
  have := List.all_eq_true.mp (Bool.and_eq_true_iff.mp h).2 c (List.mem_range.mpr hc)
  unfold okCol at this
  have e := of_decide_eq_true (Bool.and_eq_true_iff.mp (Bool.and_eq_true_iff.mp this).1).1
  rw [e]
  exact setI_sorted _
theorem plain_not {w : Web} (h : plainW w = true) {c : Nat} (hc : c < w.length) : (c : Int) ∉ leanW w c := by
  unfold plainW at h
  have := List.all_eq_true.mp (Bool.and_eq_true_iff.mp h).2 c (List.mem_range.mpr hc)
  unfold okCol at this
  simpa using (Bool.and_eq_true_iff.mp (Bool.and_eq_true_iff.mp this).1).2
/-- an arrow of a plain web -/
theorem arr_of {w : Web} (h : plainW w = true) {p : List Int} (hp : p ∈ arrL w) : ∃ k c : Nat, p = [(k : Int), (c : Int)] ∧ k < w.length ∧ c < w.length ∧ (k : Int) ∈ leanW w c := by
  unfold arrL at hp
  obtain ⟨c, hc, hp⟩ := List.mem_flatMap.mp hp
  obtain ⟨x, hx, rfl⟩ := List.mem_map.mp hp
  have hc := List.mem_range.mp hc
  obtain ⟨k, rfl, hk⟩ := range_of h hc hx
  exact ⟨k, c, rfl, hk, hc, hx⟩
theorem pre_len {β : Type} {done rest all : List β} {x : β} (h : done ++ x :: rest = all) : done.length < all.length := by
  rw [← h]
  simp
/-- what a column leans on is ahead of it in the line -/
theorem Along.before {w : Web} {line : List Nat} (h : Along w line) {k c : Nat} (hc : c < w.length) (hx : (k : Int) ∈ leanW w c) : ∃ i j, ∃ (hi : i < line.length) (hj : j < line.length), i < j ∧ line[i] = k ∧ line[j] = c := by
  obtain ⟨j, hj, e⟩ := h.at hc
  obtain ⟨s, hs, hl⟩ := h.ln j hj
  rw [e] at hl
  rw [hl] at hx
  obtain ⟨k', e', hk⟩ := sub_mem (w := w) hs hx
  have : k' = k := by omega
  subst this
  obtain ⟨i, hi, e2⟩ := List.mem_iff_getElem.mp hk
  rw [List.getElem_take] at e2
  rw [List.length_take] at hi
  exact ⟨i, j, by omega, hj, by omega, e2, e⟩
theorem Along.one_way {w : Web} {line : List Nat} (h : Along w line) {k c : Nat} (hk : k < w.length) (hc : c < w.length) (hx : (k : Int) ∈ leanW w c) : (c : Int) ∉ leanW w k := fun hy => by
  obtain ⟨i, j, hi, hj, hij, e1, e2⟩ := h.before hc hx
  obtain ⟨i', j', hi', hj', hij', e1', e2'⟩ := h.before hk hy
  have a : i' = j := (List.getElem_inj h.nd).mp (e1'.trans e2.symm)
  have b : j' = i := (List.getElem_inj h.nd).mp (e2'.trans e1.symm)
  omega
def jn (w : Web) (a b : Nat) : Bool := decide ((a : Int) ∈ leanW w b) || decide ((b : Int) ∈ leanW w a)
/-- the joined pairs by the law -/
def joinL (w : Web) : List (List Int) := (List.range w.length).flatMap fun lo => ((List.range' (lo + 1) (w.length - (lo + 1))).filter (jn w lo)).map fun (hi : Nat) => [(lo : Int), (hi : Int)]
theorem joinL_mem {w : Web} {p : List Int} : p ∈ joinL w ↔ ∃ lo hi : Nat, p = [(lo : Int), (hi : Int)] ∧ lo < hi ∧ hi < w.length ∧ jn w lo hi = true := by
  unfold joinL
  simp only [List.mem_flatMap, List.mem_range, List.mem_map, List.mem_filter, List.mem_range'_1]
  constructor
  · rintro ⟨lo, h1, hi, ⟨⟨h2, h3⟩, h4⟩, rfl⟩
    exact ⟨lo, hi, rfl, by omega, by omega, h4⟩
  · rintro ⟨lo, hi, rfl, h1, h2, h3⟩
    exact ⟨lo, by omega, hi, ⟨⟨by omega, by omega⟩, h3⟩, rfl⟩
theorem ltT_one {a b : Int} {r t : List Int} (h : a < b) : ltT (a :: r) (b :: t) = true := by
  rw [ltT, decide_eq_true h]
  rfl
theorem ltT_two {a : Int} {r t : List Int} (h : ltT r t = true) : ltT (a :: r) (a :: t) = true := by
  rw [ltT, h]
  simp
theorem joinL_rise (w : Web) : (joinL w).Pairwise (fun a b => ltT a b = true) := by
  unfold joinL
  rw [List.pairwise_flatMap]
  constructor
  · intro lo _
    rw [List.pairwise_map]
    refine List.Pairwise.filter _ ?_
    exact (List.pairwise_lt_range' (s := lo + 1) (n := w.length - (lo + 1))).imp fun {a b} h => ltT_two (ltT_one (by omega))
  · refine List.pairwise_lt_range.imp fun {a b} h x hx y hy => ?_
    obtain ⟨_, _, rfl⟩ := List.mem_map.mp hx
    obtain ⟨_, _, rfl⟩ := List.mem_map.mp hy
    exact ltT_one (by omega)
theorem rise_nodup {L : List (List Int)} (h : L.Pairwise (fun a b => ltT a b = true)) : L.Nodup := h.imp fun {a b} h z => by
  subst z
  rw [ltT_asymm a a h] at h
  cases h
theorem rise_le {L : List (List Int)} (h : L.Pairwise (fun a b => ltT a b = true)) : L.Pairwise (fun a b => leT a b = true) := h.imp fun h => leT_iff.mpr (.inl h)
theorem arrL_nodup {w : Web} (h : plainW w = true) : (arrL w).Nodup := by
  unfold arrL
  show List.Pairwise _ _
  rw [List.pairwise_flatMap]
  constructor
  · intro c hc
    rw [List.pairwise_map]
    exact (plain_rise h (List.mem_range.mp hc)).imp fun {a b} h z => by
      simp only [List.cons.injEq] at z
      omega
  · refine List.pairwise_lt_range.imp fun {a b} h x hx y hy z => ?_
    obtain ⟨_, _, rfl⟩ := List.mem_map.mp hx
    obtain ⟨_, _, rfl⟩ := List.mem_map.mp hy
    simp only [List.cons.injEq] at z
    omega
def mm : List Int → List Int
  | [a, b] => [if b < a then b else a, if b > a then b else a]
  | l => l
theorem mm_of (k c : Nat) : mm [(k : Int), (c : Int)] = [((min k c : Nat) : Int), ((max k c : Nat) : Int)] := by
  have e1 : (if (c : Int) < (k : Int) then (c : Int) else (k : Int)) = ((min k c : Nat) : Int) := by split <;> omega
  have e2 : (if (c : Int) > (k : Int) then (c : Int) else (k : Int)) = ((max k c : Nat) : Int) := by split <;> omega
  show [if (c : Int) < (k : Int) then (c : Int) else (k : Int), if (c : Int) > (k : Int) then (c : Int) else (k : Int)] = _
  rw [e1, e2]
theorem joins_same {w : Web} {line : List Nat} (ha : Along w line) (h : plainW w = true) : sortT ((sortT (arrL w)).map mm) = joinL w := by
  symm
  refine sortT_unique ?_ (rise_le (joinL_rise w))
  refine perm_same (rise_nodup (joinL_rise w)) ?_ fun p => ?_
  · show List.Pairwise _ _
    rw [List.pairwise_map]
    refine List.Pairwise.imp_of_mem ?_ ((sortT_perm (arrL w)).nodup_iff.mpr (arrL_nodup h))
    intro a b ma mb hab z
    obtain ⟨k, c, rfl, hk, hc, hx⟩ := arr_of h ((sortT_perm (arrL w)).mem_iff.mp ma)
    obtain ⟨k', c', rfl, hk', hc', hx'⟩ := arr_of h ((sortT_perm (arrL w)).mem_iff.mp mb)
    rw [mm_of, mm_of] at z
    simp only [List.cons.injEq, and_true] at z
    have e1 : min k c = min k' c' := by omega
    have e2 : max k c = max k' c' := by omega
    by_cases e : k = k'
    · exact hab (by rw [e, show c = c' by omega])
    · have : k = c' ∧ c = k' := by omega
      rw [← this.1, ← this.2] at hx'
      exact ha.one_way hk hc hx hx'
  · rw [joinL_mem, List.mem_map]
    constructor
    · rintro ⟨lo, hi, rfl, h1, h2, h3⟩
      unfold jn at h3
      rw [Bool.or_eq_true, decide_eq_true_eq, decide_eq_true_eq] at h3
      rcases h3 with h3 | h3
      · exact ⟨_, (sortT_perm (arrL w)).mem_iff.mpr (arrL_mem.mpr ⟨h2, h3⟩), by rw [mm_of, Nat.min_eq_left (by omega), Nat.max_eq_right (by omega)]⟩
      · exact ⟨_, (sortT_perm (arrL w)).mem_iff.mpr (arrL_mem.mpr ⟨by omega, h3⟩), by rw [mm_of, Nat.min_eq_right (by omega), Nat.max_eq_left (by omega)]⟩
    · rintro ⟨a, ma, rfl⟩
      obtain ⟨k, c, rfl, hk, hc, hx⟩ := arr_of h ((sortT_perm (arrL w)).mem_iff.mp ma)
      have ne : k ≠ c := fun z => by subst z; exact plain_not h hk hx
      refine ⟨min k c, max k c, mm_of k c, by omega, by omega, ?_⟩
      unfold jn
      rw [Bool.or_eq_true, decide_eq_true_eq, decide_eq_true_eq]
      by_cases z : k < c
      · rw [Nat.min_eq_left (by omega), Nat.max_eq_right (by omega)]
        exact .inl hx
      · rw [Nat.min_eq_right (by omega), Nat.max_eq_left (by omega)]
        exact .inr hx
/-- the forks by the program; by the law -/
def forkA (w : Web) : List (List Int) := (List.range w.length).flatMap fun mid => (leanW w mid).flatMap fun lo => ((leanW w mid).filter fun hi => decide (lo < hi) && !jn w lo.toNat hi.toNat).map fun hi => [lo, (mid : Int), hi]
def forkB (w : Web) : List (List Int) := (List.range w.length).flatMap fun lo => (List.range' (lo + 1) (w.length - (lo + 1))).flatMap fun hi => if jn w lo hi = true then [] else ((List.range w.length).filter fun mid => decide ((lo : Int) ∈ leanW w mid) && decide ((hi : Int) ∈ leanW w mid)).map fun (mid : Nat) => [(lo : Int), (mid : Int), (hi : Int)]
def Frk (w : Web) (p : List Int) : Prop := ∃ lo mid hi : Nat, p = [(lo : Int), (mid : Int), (hi : Int)] ∧ lo < hi ∧ hi < w.length ∧ mid < w.length ∧ (lo : Int) ∈ leanW w mid ∧ (hi : Int) ∈ leanW w mid ∧ jn w lo hi = false
theorem forkA_mem {w : Web} (h : plainW w = true) {p : List Int} : p ∈ forkA w ↔ Frk w p := by
  unfold forkA Frk
  simp only [List.mem_flatMap, List.mem_range, List.mem_map, List.mem_filter, Bool.and_eq_true, decide_eq_true_eq, Bool.not_eq_true']
  constructor
  · rintro ⟨mid, h1, lo, h2, hi, ⟨h3, h4, h5⟩, rfl⟩
    obtain ⟨a, rfl, ha⟩ := range_of h h1 h2
    obtain ⟨b, rfl, hb⟩ := range_of h h1 h3
    exact ⟨a, mid, b, rfl, by omega, hb, h1, h2, h3, h5⟩
  · rintro ⟨lo, mid, hi, rfl, h1, h2, h3, h4, h5, h6⟩
    exact ⟨mid, h3, lo, h4, hi, ⟨h5, by omega, h6⟩, rfl⟩
theorem forkB_mem {w : Web} {p : List Int} : p ∈ forkB w ↔ Frk w p := by
  unfold forkB Frk
  simp only [List.mem_flatMap, List.mem_range, List.mem_range'_1]
  constructor
  · rintro ⟨lo, h1, hi, h2, h3⟩
    cases z : jn w lo hi with
    | true => rw [z, if_pos rfl] at h3; cases h3
    | false =>
      rw [z, if_neg Bool.false_ne_true] at h3
      obtain ⟨mid, hm, rfl⟩ := List.mem_map.mp h3
      rw [List.mem_filter, Bool.and_eq_true, decide_eq_true_eq, decide_eq_true_eq, List.mem_range] at hm
      exact ⟨lo, mid, hi, rfl, by omega, by omega, hm.1, hm.2.1, hm.2.2, z⟩
  · rintro ⟨lo, mid, hi, rfl, h1, h2, h3, h4, h5, h6⟩
    refine ⟨lo, by omega, hi, by omega, ?_⟩
    rw [h6, if_neg Bool.false_ne_true]
    exact List.mem_map.mpr ⟨mid, List.mem_filter.mpr ⟨List.mem_range.mpr h3, by simp [h4, h5]⟩, rfl⟩
theorem forkA_nodup {w : Web} (h : plainW w = true) : (forkA w).Nodup := by
  unfold forkA
  show List.Pairwise _ _
  rw [List.pairwise_flatMap]
  constructor
  · intro mid hm
    have hr := plain_rise h (List.mem_range.mp hm)
    rw [List.pairwise_flatMap]
    constructor
    · intro lo _
      rw [List.pairwise_map]
      exact (List.Pairwise.filter _ hr).imp fun {a b} h z => by
        simp only [List.cons.injEq, and_true] at z
        omega
    · refine hr.imp fun {a b} h x hx y hy z => ?_
      obtain ⟨_, _, rfl⟩ := List.mem_map.mp hx
      obtain ⟨_, _, rfl⟩ := List.mem_map.mp hy
      simp only [List.cons.injEq, and_true] at z
      omega
  · refine List.pairwise_lt_range.imp fun {a b} h x hx y hy z => ?_
    obtain ⟨lo, _, hx⟩ := List.mem_flatMap.mp hx
    obtain ⟨lo', _, hy⟩ := List.mem_flatMap.mp hy
    obtain ⟨_, _, rfl⟩ := List.mem_map.mp hx
    obtain ⟨_, _, rfl⟩ := List.mem_map.mp hy
    simp only [List.cons.injEq, and_true] at z
    omega
theorem forkB_in {w : Web} {lo hi : Nat} {x : List Int} (hx : x ∈ (if jn w lo hi = true then [] else ((List.range w.length).filter fun mid => decide ((lo : Int) ∈ leanW w mid) && decide ((hi : Int) ∈ leanW w mid)).map fun (mid : Nat) => [(lo : Int), (mid : Int), (hi : Int)])) : ∃ mid : Nat, x = [(lo : Int), (mid : Int), (hi : Int)] := by
  split at hx
  · cases hx
  · obtain ⟨mid, _, rfl⟩ := List.mem_map.mp hx
    exact ⟨mid, rfl⟩
theorem forkB_nodup (w : Web) : (forkB w).Nodup := by
  unfold forkB
  show List.Pairwise _ _
  rw [List.pairwise_flatMap]
  constructor
  · intro lo _
    rw [List.pairwise_flatMap]
    constructor
    · intro hi _
      split
      · exact List.Pairwise.nil
      · rw [List.pairwise_map]
        exact (List.Pairwise.filter _ List.pairwise_lt_range).imp fun {a b} h z => by
          simp only [List.cons.injEq, and_true] at z
          omega
    · refine (List.pairwise_lt_range' (s := lo + 1) (n := w.length - (lo + 1))).imp fun {a b} h x hx y hy z => ?_
      obtain ⟨_, rfl⟩ := forkB_in hx
      obtain ⟨_, rfl⟩ := forkB_in hy
      simp only [List.cons.injEq, and_true] at z
      omega
  · refine List.pairwise_lt_range.imp fun {a b} h x hx y hy z => ?_
    obtain ⟨_, _, hx⟩ := List.mem_flatMap.mp hx
    obtain ⟨_, _, hy⟩ := List.mem_flatMap.mp hy
    obtain ⟨_, rfl⟩ := forkB_in hx
    obtain ⟨_, rfl⟩ := forkB_in hy
    simp only [List.cons.injEq, and_true] at z
    omega
theorem forks_same {w : Web} (h : plainW w = true) : sortT (forkA w) = sortT (forkB w) :=
  sortT_congr (perm_same (forkA_nodup h) (forkB_nodup w) fun p => by rw [forkA_mem h, forkB_mem])
end DV
namespace DV
open PySem L2
/-! ### own trees, evaluated -/
@[simp] theorem dA_ims (ds : List D) : T.dA (ds.map T.im) = ds := by
  rw [T.dA_map, List.map_map]
  conv => rhs; rw [← List.map_id ds]
  exact List.map_congr_left fun d _ => by rw [Function.comp, T.d]; rfl
section
variable {δ : DS} {f : DS → Res D} {fs : DS → Res (List D)} {fn : DS → Res T} {fts : DS → Res (List T)} {fp : DS → Res (Nat × List Nat)} {i : Nat}
@[simp] theorem ev_nim : cNim f δ = (f δ).bind fun d => .ok (.im d) := rfl
@[simp] theorem ev_nl : cNl fs δ = (fs δ).bind fun ds => .ok (.nd .ls (ds.map T.im)) := rfl
@[simp] theorem ev_nnil : cNnil δ = .ok [] := rfl
@[simp] theorem ev_ncons : cNcons fn fts δ = (fn δ).bind fun x => (fts δ).bind fun xs => .ok (x :: xs) := rfl
@[simp] theorem ev_nlst : cNlst fts δ = (fts δ).bind fun ts => .ok (.nd .ls ts) := rfl
@[simp] theorem ev_ownN : cOwnN i fn δ = stE (fn δ) δ fun t => .nx (δ.set i (some (O.ofT t))) := rfl
end
theorem ownN_nx {i : Nat} {f : DS → Res T} {δ : DS} {t : T} (h : f δ = .ok t) : cOwnN i f δ = .nx (δ.set i (some (O.ofT t))) := by
  rw [cOwnN, h]
  rfl
theorem cpIx_ev {δ : DS} {i j : Nat} {ts : List T} {k : Int} {f : DS → Res D} (h : δ[i]? = some (some (.tr .ls ts))) (hf : f δ = .ok (.v (.int k))) (hj : ixN ts.length k = some j) : cpIx (cpVar i) f δ = .ok (i, [j]) := by
  unfold cpIx cpVar
  rw [h]
  dsimp only
  rw [Res.bind_ok, hf, Res.bind_ok]
  unfold nodeAt
  rw [h]
  dsimp only
  rw [T.at]
  dsimp only
  rw [hj]
  rfl
theorem node1 {δ : DS} {i j : Nat} {k : NK} {ts : List T} {t : T} (h : δ[i]? = some (some (.tr k ts))) (ht : ts[j]? = some t) : nodeAt δ i [j] = some t := by
  unfold nodeAt
  rw [h]
  dsimp only
  rw [T.at, ht]
  cases t <;> rfl
theorem put1 {δ : DS} {i j : Nat} {k : NK} {ts : List T} {t t1 : T} (h : δ[i]? = some (some (.tr k ts))) (ht : ts[j]? = some t) : putAt δ i [j] t1 = δ.set i (some (.tr k (ts.set j t1))) := by
  unfold putAt
  rw [h]
  dsimp only
  rw [T.put, ht]
  dsimp only
  have : t.put [] t1 = t1 := by cases t <;> rfl
  rw [this]
  rfl
theorem tapp_nx {δ : DS} {i j : Nat} {ts : List T} {us : List T} {k : Int} {f g : DS → Res D} {d : D} (h : δ[i]? = some (some (.tr .ls ts))) (hf : f δ = .ok (.v (.int k))) (hj : ixN ts.length k = some j) (ht : ts[j]? = some (.nd .ls us)) (hg : g δ = .ok d) (hz : us.length < sizeLine) :
    cTapp (cpIx (cpVar i) f) g δ = .nx (δ.set i (some (.tr .ls (ts.set j (.nd .ls (us ++ [.im d])))))) := by
  unfold cTapp
  rw [cpIx_ev h hf hj]
  dsimp only
  rw [node1 h ht]
  dsimp only
  rw [hg, stE_ok, if_pos hz, put1 h ht]
theorem tclr_nx {δ : DS} {i j : Nat} {ts : List T} {us : List T} {k : Int} {f : DS → Res D} (h : δ[i]? = some (some (.tr .ls ts))) (hf : f δ = .ok (.v (.int k))) (hj : ixN ts.length k = some j) (ht : ts[j]? = some (.nd .ls us)) :
    cTclr (cpIx (cpVar i) f) δ = .nx (δ.set i (some (.tr .ls (ts.set j (.nd .ls []))))) := by
  unfold cTclr
  rw [cpIx_ev h hf hj]
  dsimp only
  rw [node1 h ht]
  dsimp only
  rw [put1 h ht]
theorem flat_len {α β : Type} {f : α → List β} {m : Nat} : ∀ {l : List α}, (∀ x ∈ l, (f x).length ≤ m) → (l.flatMap f).length ≤ m * l.length
  | [], _ => by simp
  | x :: l, h => by
    have h1 := h x (by simp)
    have h2 := flat_len (l := l) fun y hy => h y (by simp [hy])
    rw [List.flatMap_cons, List.length_append, List.length_cons, Nat.mul_succ]
    omega
end DV
namespace DV
open PySem L2
/-! ### orders, plainly -/
def nextW (w : Web) (f : List Nat) : List Nat := (List.range w.length).filter fun c => !inN f (c : Int) && (leanW w c).all (inN f)
def nxW (w : Web) (f : List Nat) : Nat := (nextW w f).headD 0
def ordW (w : Web) : Nat → List Nat
  | 0 => []
  | t + 1 => ordW w t ++ [nxW w (ordW w t)]
theorem ordW_len (w : Web) : ∀ t, (ordW w t).length = t
  | 0 => rfl
  | t + 1 => by rw [ordW, List.length_append, ordW_len w t]; rfl
theorem nextW_mem {w : Web} {f : List Nat} {c : Nat} : c ∈ nextW w f ↔ c < w.length ∧ c ∉ f ∧ ∀ x ∈ leanW w c, inN f x = true := by
  unfold nextW
  rw [List.mem_filter, List.mem_range, Bool.and_eq_true, Bool.not_eq_true', inN_nat, decide_eq_false_iff_not, List.all_eq_true]
/-- there is always one that can stand next -/
theorem next_some {w : Web} {line : List Nat} (ha : Along w line) {f : List Nat} (hf : ∀ c ∈ f, c < w.length) (hl : f.length < w.length) : nextW w f ≠ [] := by
  have hex : ∃ j, ∃ hj : j < line.length, line[j] ∉ f ∧ ∀ i (hi : i < line.length), i < j → line[i] ∈ f := by
    have : ∃ j, j < line.length ∧ ∃ hj : j < line.length, line[j] ∉ f := by
      apply Classical.byContradiction
      intro hn
      have all : ∀ c ∈ line, c ∈ f := fun c hc => by
        obtain ⟨j, hj, e⟩ := List.mem_iff_getElem.mp hc
        apply Classical.byContradiction
        intro z
        exact hn ⟨j, hj, hj, by rw [e]; exact z⟩
      have := List.Nodup.length_le_of_subset ha.nd all
      rw [ha.len] at this
      omega
    obtain ⟨j, hj, _, hjn⟩ := this
    induction j using Nat.strongRecOn with
    | _ j ih =>
      by_cases h : ∃ i, i < j ∧ ∃ hi : i < line.length, line[i] ∉ f
      · obtain ⟨i, hij, hi, hin⟩ := h
        exact ih i hij hi hi hin
      · refine ⟨j, hj, hjn, fun i hi hij => ?_⟩
        apply Classical.byContradiction
        intro z
        exact h ⟨i, hij, hi, z⟩
  obtain ⟨j, hj, hjn, hall⟩ := hex
  intro hnil
  have : line[j] ∈ nextW w f := by
    rw [nextW_mem]
    refine ⟨ha.rg _ (List.getElem_mem hj), hjn, fun x hx => ?_⟩
    obtain ⟨s, hs, hl⟩ := ha.ln j hj
    rw [hl] at hx
    obtain ⟨k, rfl, hk⟩ := sub_mem (w := w) hs hx
    obtain ⟨i, hi, e⟩ := List.mem_iff_getElem.mp hk
    rw [List.getElem_take] at e
    rw [List.length_take] at hi
    rw [inN_nat, decide_eq_true_eq, ← e]
    exact hall i (by omega) (by omega)
  rw [hnil] at this
  cases this
theorem nx_mem {w : Web} {f : List Nat} (h : nextW w f ≠ []) : nxW w f ∈ nextW w f := by
  unfold nxW
  cases e : nextW w f with
  | nil => exact absurd e h
  | cons c cs => simp
theorem ordW_ok {w : Web} {line : List Nat} (ha : Along w line) : ∀ t, t ≤ w.length → (∀ c ∈ ordW w t, c < w.length) ∧ (ordW w t).Nodup ∧ ∀ (i : Nat) (c : Nat), (ordW w t)[i]? = some c → ∀ x ∈ leanW w c, ∃ (k j : Nat), x = (k : Int) ∧ j < i ∧ (ordW w t)[j]? = some k
  | 0, _ => ⟨fun c h => (by cases h), List.nodup_nil, fun i c h => (by cases h)⟩
  | t + 1, h => by
    obtain ⟨h1, h2, h3⟩ := ordW_ok ha t (by omega)
    have hne := next_some ha h1 (by rw [ordW_len]; omega)
    obtain ⟨m1, m2, m3⟩ := nextW_mem.mp (nx_mem hne)
    rw [ordW]
    refine ⟨fun c hc => ?_, ?_, fun i c hi x hx => ?_⟩
    · rcases List.mem_append.mp hc with hc | hc
      · exact h1 c hc
      · rw [List.mem_singleton.mp hc]; exact m1
    · rw [List.nodup_append]
      refine ⟨h2, by simp, fun a ha b hb z => ?_⟩
      rw [List.mem_singleton] at hb
      exact m2 (by rw [← hb, ← z]; exact ha)
    · by_cases hi' : i < (ordW w t).length
      · rw [List.getElem?_append_left hi'] at hi
        obtain ⟨k, j, e1, e2, e3⟩ := h3 i c hi x hx
        exact ⟨k, j, e1, e2, by rw [List.getElem?_append_left (by omega)]; exact e3⟩
      · have : i = (ordW w t).length := by
          have := List.getElem?_eq_some_iff.mp hi
          obtain ⟨hlt, _⟩ := this
          rw [List.length_append] at hlt
          simp at hlt
          omega
        subst this
        rw [List.getElem?_append_right (Nat.le_refl _)] at hi
        simp at hi
        subst hi
        have := m3 x hx
        unfold inN at this
        obtain ⟨k, hk, rfl⟩ := List.mem_map.mp (of_decide_eq_true this)
        obtain ⟨j, hj, e⟩ := List.mem_iff_getElem.mp hk
        exact ⟨k, j, rfl, hj, by rw [List.getElem?_append_left hj, List.getElem?_eq_getElem hj, e]⟩
/-! ### what leads where, plainly -/
/-- c is k steps above x -/
def Up (w : Web) : Nat → Nat → Nat → Prop
  | 0, x, c => c = x
  | k + 1, x, c => ∃ y, y < w.length ∧ Up w k x y ∧ (c : Int) ∈ leanW w y
def Dn (w : Web) (c x : Nat) : Prop := ∃ k, Up w (k + 1) x c
theorem Dn_iff {w : Web} {c x : Nat} (hx : x < w.length) : Dn w c x ↔ ∃ y, y < w.length ∧ (c : Int) ∈ leanW w y ∧ (x = y ∨ Dn w y x) := by
  constructor
  · rintro ⟨k, y, hy, h1, h2⟩
    refine ⟨y, hy, h2, ?_⟩
    cases k with
    | zero => exact .inl h1.symm
    | succ k => exact .inr ⟨k, h1⟩
  · rintro ⟨y, hy, h1, rfl | ⟨k, h2⟩⟩
    · exact ⟨0, x, hy, rfl, h1⟩
    · exact ⟨k + 1, y, hy, h2, h1⟩
/-- going up is going ahead in the line -/
theorem up_pos {w : Web} {line : List Nat} (ha : Along w line) {x : Nat} (hx : x < w.length) : ∀ (k c : Nat), Up w k x c → ∃ i j, ∃ (hi : i < line.length) (hj : j < line.length), i + k ≤ j ∧ line[i] = c ∧ line[j] = x
  | 0, c, h => by
    have : c = x := h
    subst this
    obtain ⟨j, hj, e⟩ := ha.at hx
    exact ⟨j, j, hj, hj, by omega, e, e⟩
  | k + 1, c, ⟨y, hy, h1, h2⟩ => by
    obtain ⟨i, j, hi, hj, hij, e1, e2⟩ := up_pos ha hx k y h1
    obtain ⟨i', j', hi', hj', hij', e1', e2'⟩ := ha.before hy h2
    have : j' = i := (List.getElem_inj ha.nd).mp (e2'.trans e1.symm)
    exact ⟨i', j, hi', hj, by omega, e1', e2⟩
theorem up_short {w : Web} {line : List Nat} (ha : Along w line) {x k c : Nat} (hx : x < w.length) (h : Up w k x c) : k < w.length := by
  obtain ⟨i, j, hi, hj, hij, _, _⟩ := up_pos ha hx k c h
  rw [ha.len] at hj
  omega
theorem dn_ne {w : Web} {line : List Nat} (ha : Along w line) {x c : Nat} (hx : x < w.length) (h : Dn w c x) : c ≠ x := fun z => by
  obtain ⟨k, h⟩ := h
  obtain ⟨i, j, hi, hj, hij, e1, e2⟩ := up_pos ha hx (k + 1) c h
  have : i = j := (List.getElem_inj ha.nd).mp (e1.trans (z.trans e2.symm))
  omega
/-- the law's going upward -/
def upW (w : Web) (x : Nat) : Nat → List Int
  | 0 => setI [(x : Int)]
  | k + 1 => setI (upW w x k ++ (upW w x k).flatMap fun c => leanW w c.toNat)
theorem upW_mem {w : Web} (hp : plainW w = true) {x : Nat} (hx : x < w.length) : ∀ (k : Nat) (z : Int), z ∈ upW w x k ↔ ∃ c j : Nat, z = (c : Int) ∧ c < w.length ∧ j ≤ k ∧ Up w j x c
  | 0, z => by
    rw [upW, setI_mem, List.mem_singleton]
    constructor
    · rintro rfl
      exact ⟨x, 0, rfl, hx, Nat.le_refl _, rfl⟩
    · rintro ⟨c, j, rfl, _, hj, h⟩
      have : j = 0 := by omega
      subst this
      have : c = x := h
      rw [this]
  | k + 1, z => by
    rw [upW, setI_mem, List.mem_append, List.mem_flatMap]
    constructor
    · rintro (h | ⟨y, hy, hz⟩)
      · obtain ⟨c, j, e, hc, hj, h⟩ := (upW_mem hp hx k z).mp h
        exact ⟨c, j, e, hc, by omega, h⟩
      · obtain ⟨y', j, rfl, hy', hj, h⟩ := (upW_mem hp hx k y).mp hy
        rw [Int.toNat_natCast] at hz
        obtain ⟨c, rfl, hc⟩ := range_of hp hy' hz
        exact ⟨c, j + 1, rfl, hc, by omega, y', hy', h, hz⟩
    · rintro ⟨c, j, rfl, hc, hj, h⟩
      by_cases hjk : j ≤ k
      · exact .inl ((upW_mem hp hx k _).mpr ⟨c, j, rfl, hc, hjk, h⟩)
      · have : j = k + 1 := by omega
        subst this
        obtain ⟨y, hy, h1, h2⟩ := h
        exact .inr ⟨y, (upW_mem hp hx k _).mpr ⟨y, k, rfl, hy, Nat.le_refl _, h1⟩, by rw [Int.toNat_natCast]; exact h2⟩
theorem below_iff {w : Web} {line : List Nat} (ha : Along w line) (hp : plainW w = true) {x c : Nat} (hx : x < w.length) (hc : c < w.length) : (x ≠ c ∧ (c : Int) ∈ upW w x w.length) ↔ Dn w c x := by
  rw [upW_mem hp hx]
  constructor
  · rintro ⟨hne, c', j, e, _, _, h⟩
    have : c' = c := by omega
    subst this
    cases j with
    | zero => exact absurd (show c' = x from h).symm hne
    | succ j => exact ⟨j, h⟩
  · intro h
    refine ⟨fun z => dn_ne ha hx h z.symm, ?_⟩
    obtain ⟨k, h⟩ := h
    have := up_short ha hx h
    exact ⟨c, k + 1, rfl, hc, by omega, h⟩
theorem upW_len {w : Web} (hp : plainW w = true) {x : Nat} (hx : x < w.length) (k : Nat) : (upW w x k).length ≤ w.length := by
  have hr : (upW w x k).Pairwise (· < ·) := by cases k <;> exact setI_sorted _
  have sub : upW w x k ⊆ (List.range w.length).map fun (i : Nat) => (i : Int) := fun z hz => by
    obtain ⟨c, j, rfl, hc, _⟩ := (upW_mem hp hx k z).mp hz
    exact List.mem_map.mpr ⟨c, List.mem_range.mpr hc, rfl⟩
  have := List.Nodup.length_le_of_subset (rising_nodup hr) sub
  simpa using this
end DV
namespace DV
open PySem L2
/-! ### going downward, plainly -/
theorem up_front {w : Web} {x y : Nat} (hx : x < w.length) (hy : (y : Int) ∈ leanW w x) : ∀ (j c : Nat), Up w j y c → Up w (j + 1) x c
  | 0, c, h => ⟨x, hx, rfl, by rw [show c = y from h]; exact hy⟩
  | j + 1, c, ⟨z, hz, h1, h2⟩ => ⟨z, hz, up_front hx hy j z h1, h2⟩
theorem up_first {w : Web} {x : Nat} : ∀ (j c : Nat), Up w (j + 1) x c → ∃ y : Nat, (y : Int) ∈ leanW w x ∧ Up w j y c
  | 0, c, ⟨z, hz, h1, h2⟩ => ⟨c, by rw [← show z = x from h1]; exact h2, rfl⟩
  | j + 1, c, ⟨z, hz, h1, h2⟩ => by
    obtain ⟨y, hy, h3⟩ := up_first j z h1
    exact ⟨y, hy, z, hz, h3, h2⟩
/-- the law's going downward -/
def blW (w : Web) (c : Nat) : Nat → List Nat
  | 0 => [c]
  | k + 1 => blW w c k ++ (List.range w.length).filter fun (d : Nat) => !inN (blW w c k) (d : Int) && (leanW w d).any (inN (blW w c k))
theorem blW_mem {w : Web} (hp : plainW w = true) {c : Nat} (hc : c < w.length) : ∀ (k x : Nat), x ∈ blW w c k ↔ x < w.length ∧ ∃ j, j ≤ k ∧ Up w j x c
  | 0, x => by
    rw [blW, List.mem_singleton]
    constructor
    · rintro rfl
      exact ⟨hc, 0, Nat.le_refl _, rfl⟩
    · rintro ⟨_, j, hj, h⟩
      have : j = 0 := by omega
      subst this
      exact (show c = x from h).symm
  | k + 1, x => by
    rw [blW, List.mem_append, List.mem_filter, List.mem_range, Bool.and_eq_true, Bool.not_eq_true', inN_nat, decide_eq_false_iff_not, List.any_eq_true]
    constructor
    · rintro (h | ⟨hx, _, z, hz, hb⟩)
      · obtain ⟨hx, j, hj, h⟩ := (blW_mem hp hc k x).mp h
        exact ⟨hx, j, by omega, h⟩
      · obtain ⟨y, rfl, hy⟩ := range_of hp hx hz
        rw [inN_nat, decide_eq_true_eq] at hb
        obtain ⟨_, j, hj, h⟩ := (blW_mem hp hc k y).mp hb
        exact ⟨hx, j + 1, by omega, up_front hx hz j c h⟩
    · rintro ⟨hx, j, hj, h⟩
      by_cases hm : x ∈ blW w c k
      · exact .inl hm
      · refine .inr ⟨hx, hm, ?_⟩
        cases j with
        | zero => exact absurd ((blW_mem hp hc k x).mpr ⟨hx, 0, Nat.zero_le _, h⟩) hm
        | succ j =>
          obtain ⟨y, hy, h2⟩ := up_first j c h
          obtain ⟨y', e, hy'⟩ := range_of hp hx hy
          have : y' = y := by omega
          subst this
          exact ⟨_, hy, by rw [inN_nat, decide_eq_true_eq]; exact (blW_mem hp hc k y').mpr ⟨hy', j, by omega, h2⟩⟩
theorem blW_len (w : Web) (c : Nat) : ∀ k, (blW w c k).length ≤ 1 + k * w.length
  | 0 => by simp [blW]
  | k + 1 => by
    have h1 := blW_len w c k
    have h2 := List.length_filter_le (fun (d : Nat) => !inN (blW w c k) (d : Int) && (leanW w d).any (inN (blW w c k))) (List.range w.length)
    rw [List.length_range] at h2
    rw [blW, List.length_append, Nat.succ_mul]
    omega
theorem blW_all {w : Web} {line : List Nat} (ha : Along w line) (hp : plainW w = true) {c : Nat} (hc : c < w.length) (x : Nat) : x ∈ blW w c w.length ↔ x = c ∨ (x < w.length ∧ Dn w c x) := by
  rw [blW_mem hp hc]
  constructor
  · rintro ⟨hx, j, _, h⟩
    cases j with
    | zero => exact .inl (show c = x from h).symm
    | succ j => exact .inr ⟨hx, j, h⟩
  · rintro (rfl | ⟨hx, k, h⟩)
    · exact ⟨hc, 0, Nat.zero_le _, rfl⟩
    · have := up_short ha hx h
      exact ⟨hx, k + 1, by omega, h⟩
/-! ### ways, plainly -/
def wayOk (w : Web) (way : List Int) : Bool := decide (2 ≤ way.length) && decide ((setI way).length = way.length) && way.all fun x => decide (0 ≤ x) && decide (x < (w.length : Int))
def nbs (w : Web) (v : List Nat) : Bool := (List.range (v.length - 1)).all fun k => jn w (v.getD k 0) (v.getD (k + 1) 0)
def cN (v : List Nat) : List Int := v.map fun (k : Nat) => (k : Int)
theorem way_nat {w : Web} {way : List Int} (h : wayOk w way = true) : ∃ v : List Nat, way = cN v ∧ (∀ c ∈ v, c < w.length) ∧ 2 ≤ v.length ∧ v.Nodup := by
  unfold wayOk at h
  rw [Bool.and_eq_true, Bool.and_eq_true, decide_eq_true_eq, decide_eq_true_eq, List.all_eq_true] at h
  obtain ⟨⟨h1, h2⟩, h3⟩ := h
  have e : way = cN (way.map Int.toNat) := by
    unfold cN
    rw [List.map_map]
    conv => lhs; rw [← List.map_id way]
    refine List.map_congr_left fun x hx => ?_
    have := h3 x hx
    rw [Bool.and_eq_true, decide_eq_true_eq, decide_eq_true_eq] at this
    show x = ((x.toNat : Nat) : Int)
    omega
  refine ⟨way.map Int.toNat, e, fun c hc => ?_, by simpa using h1, ?_⟩
  · obtain ⟨x, hx, rfl⟩ := List.mem_map.mp hc
    have := h3 x hx
    rw [Bool.and_eq_true, decide_eq_true_eq, decide_eq_true_eq] at this
    omega
  · have hnd : way.Nodup := by
      have key : ∀ l : List Int, (setI l).length = l.length → l.Nodup := fun l => by
        intro hl
        have h4 : (setI l).Nodup := rising_nodup (setI_sorted l)
        apply Classical.byContradiction
        intro hn
        have : ∃ x, x ∈ l ∧ ∃ m : List Int, m.length + 1 = l.length ∧ ∀ y ∈ l, y ∈ m := by
          clear hl h4
          induction l with
          | nil => exact absurd List.nodup_nil hn
          | cons a l ih =>
            rw [List.nodup_cons] at hn
            by_cases ha : a ∈ l
            · exact ⟨a, by simp, l, rfl, fun y hy => by
                rcases List.mem_cons.mp hy with rfl | hy
                · exact ha
                · exact hy⟩
            · obtain ⟨x, hx, m, hm, hs⟩ := ih (fun z => hn ⟨ha, z⟩)
              exact ⟨x, by simp [hx], a :: m, by simp [hm], fun y hy => by
                rcases List.mem_cons.mp hy with rfl | hy
                · simp
                · simp [hs y hy]⟩
        obtain ⟨x, hx, m, hm, hs⟩ := this
        have := List.Nodup.length_le_of_subset h4 (fun y hy => hs y ((setI_mem l y).mp hy))
        omega
      exact key way h2
    rw [e] at hnd
    unfold cN at hnd
    have : ((way.map Int.toNat).map fun (k : Nat) => (k : Int)).Nodup := hnd
    show List.Pairwise _ _
    rw [show ((way.map Int.toNat).map fun (k : Nat) => (k : Int)).Nodup = List.Pairwise _ _ from rfl, List.pairwise_map] at this
    exact this.imp fun {a b} h z => h (by rw [z])
/-- whether the middle one lets a way through -/
def mtW (w : Web) (v : List Nat) (k : Nat) : Bool := decide (((v.getD (k - 1) 0 : Nat) : Int) ∈ leanW w (v.getD k 0)) && decide (((v.getD (k + 1) 0 : Nat) : Int) ∈ leanW w (v.getD k 0))
def ltW (w : Web) (seen : List Int) (v : List Nat) (k : Nat) : Bool := if mtW w v k = true then (blW w (v.getD k 0) w.length).any fun x => decide ((x : Int) ∈ seen) else !decide (((v.getD k 0 : Nat) : Int) ∈ seen)
def psW (w : Web) (seen : List Int) (v : List Nat) : Bool := (List.range' 1 (v.length - 2)).all (ltW w seen v)
def endW (seen : List Int) (v : List Nat) : Bool := !decide (((v.getD 0 0 : Nat) : Int) ∈ seen) && !decide (((v.getD (v.length - 1) 0 : Nat) : Int) ∈ seen)
theorem lets_eq {w : Web} {line : List Nat} (ha : Along w line) (hp : plainW w = true) {c : Nat} (hc : c < w.length) {L : List Int} (hL : ∀ x : Int, x ∈ L ↔ ∃ x' : Nat, x = (x' : Int) ∧ x' < w.length ∧ Dn w c x') (seen : List Int) :
    (decide ((c : Int) ∈ seen) || L.any fun x => decide (x ∈ seen)) = (blW w c w.length).any fun x => decide ((x : Int) ∈ seen) := by
  rw [Bool.eq_iff_iff, Bool.or_eq_true, decide_eq_true_eq, List.any_eq_true, List.any_eq_true]
  constructor
  · rintro (h | ⟨x, hx, hs⟩)
    · exact ⟨c, (blW_all ha hp hc c).mpr (.inl rfl), by simpa using h⟩
    · obtain ⟨x', rfl, hx', hd⟩ := (hL x).mp hx
      exact ⟨x', (blW_all ha hp hc x').mpr (.inr ⟨hx', hd⟩), hs⟩
  · rintro ⟨x, hx, hs⟩
    rcases (blW_all ha hp hc x).mp hx with rfl | ⟨hx', hd⟩
    · exact .inl (by simpa using hs)
    · exact .inr ⟨x, (hL x).mpr ⟨x, rfl, hx', hd⟩, hs⟩
end DV
namespace My
open PySem L2 DV

abbrev g_is_plain_l1 : DS → Fl :=
  (cSeq (cIf (cOrT (cTest (cBin oNe (cCall gList (cCons (cVar 2) cNil)) (cL (cSorted (cInts (cLc [3] (cItems (cVar 2)) (bName 3) cYes (cVar 3))))))) (cTest (cBin (oInA false) (cVar 1) (cVar 2)))) (cRet (cC (.bl false))) cNext)
  (cIf (cNotT (cTest (cCall gAll (cCons (cL (cLc [3] (cItems (cVar 2)) (bName 3) cYes (cChain oLe oLt (cC (.int 0)) (cVar 3) (cCall gLen (cCons (cVar 0) cNil))))) cNil)))) (cRet (cC (.bl false))) cNext))
def g_is_plain : DS → Fl :=
  (cSeq (cIf (cNotT (cTest (cChain oLe oLe (cC (.int 1)) (cCall gLen (cCons (cVar 0) cNil)) (cC (.int 6))))) (cRet (cC (.bl false))) cNext)
  (cSeq (cFor (cIt gEnum (cCons (cVar 0) cNil)) (bTup 2 (bCons (bName 1) (bCons (bName 2) bNil))) g_is_plain_l1)
  (cRet (cC (.bl true)))))
def F_is_plain : List D → Res D := defF 3 g_is_plain
abbrev g_ring_of_l1 : DS → Fl :=
  (cPopD 1 (cVar 3))
abbrev g_ring_of_l2 : DS → Fl :=
  (cSeq (cFor (cItems (cVar 2)) (bName 3) g_ring_of_l1)
  (cAsg 2 (cLookD true 1 (cL (cLc [3] (cKeys (cVar 1)) (bName 3) (cNotT (cTest (cCall gAny (cCons (cL (cLc [9] (cItems (cBin oIxD (cVar 1) (cVar 3))) (bName 9) cYes (cBin (oInD false) (cVar 9) (cVar 1)))) cNil)))) (cVar 3))))))
abbrev g_ring_of_l3 : DS → Fl :=
  (cSeq (cAsg 5 (cLookD false 1 (cLookL 4 (cBin oIx (cL (cLc [9] (cItems (cBin oIxD (cVar 1) (cBin oIx (cVar 4) (cUn oNeg (cC (.int 1)))))) (bName 9) (cTest (cBin (oInD false) (cVar 9) (cVar 1))) (cVar 9))) (cC (.int 0))))))
  (cSeq (cIf (cLookT 4 (cTest (cBin (oInA false) (cVar 5) (cVar 4)))) (cSeq (cFz 4 (cAsg 6 (cUn oRev (cSl (cVar 4) (cSome (cIndex (cVar 4) (cVar 5))) cNone))))
  (cSeq (cAsg 7 (cIndex (cVar 6) (cCall gMin (cCons (cVar 6) cNil))))
  (cRet (cCall gTuple (cCons (cBin oAdd (cSl (cVar 6) (cSome (cVar 7)) cNone) (cSl (cVar 6) cNone (cSome (cVar 7)))) cNil))))) cNext)
  (cApp 4 (cVar 5))))
def g_ring_of : DS → Fl :=
  (cSeq (cOwnD 1 (cDc [3, 8] (cIt gEnum (cCons (cVar 0) cNil)) (bTup 2 (bCons (bName 3) (bCons (bName 8) bNil))) cYes (cVar 3) (cVar 8)))
  (cSeq (cAsg 2 (cLookD true 1 (cL (cLc [3] (cKeys (cVar 1)) (bName 3) (cNotT (cTest (cCall gAny (cCons (cL (cLc [9] (cItems (cBin oIxD (cVar 1) (cVar 3))) (bName 9) cYes (cBin (oInD false) (cVar 9) (cVar 1)))) cNil)))) (cVar 3)))))
  (cSeq (cWhile (fun _ => 10) (cTest (cBin oNe (cVar 2) (cL cNil))) g_ring_of_l2)
  (cSeq (cIf (cLookTD 1 (cTest (cBin oEqD0 (cVar 1) (cDn (fun _ => .ok []))))) (cRet (cC .non)) cNext)
  (cSeq (cOwn 4 (cCons (cLookD false 1 (cCall gMinD (cCons (cVar 1) cNil))) cNil))
  (cWhile (fun _ => 10) (cTest (cC (.bl true))) g_ring_of_l3))))))
def F_ring_of : List D → Res D := defF 9 g_ring_of
def g_is_web : DS → Fl :=
  (cRet (cAndV (cFn0 F_is_plain (cCons (cVar 0) cNil)) (cBin (oIsN false) (cFn0 F_ring_of (cCons (cVar 0) cNil)) (cC .non))))
def F_is_web : List D → Res D := defF 0 g_is_web
def g_look_web : DS → Fl :=
  (cIf (cNotT (cTest (cFn0 F_is_web (cCons (cVar 0) cNil)))) (cRaise "BadWeb" (fd1 "word" "badweb") cNil) cNext)
def F_look_web : List D → Res D := defF 0 g_look_web
def g_look_column : DS → Fl :=
  (cIf (cOrT (cTest (cBin oLt (cVar 1) (cC (.int 0)))) (cTest (cBin oGe (cVar 1) (cVar 0)))) (cRaise "BadColumn" (fd1 "word" "badcolumn") cNil) cNext)
def F_look_column : List D → Res D := defF 0 g_look_column
abbrev g_order_l1 : DS → Fl :=
  (cSeq (cAsg 2 (cL (cLookF 1 (cLc [3] (cIt gRange1 (cCons (cCall gLen (cCons (cVar 0) cNil)) cNil)) (bName 3) (cAndT (cTest (cBin (oInA true) (cVar 3) (cVar 1))) (cTest (cCall gAll (cCons (cL (cLc [4] (cItems (cBin oIx (cVar 0) (cVar 3))) (bName 4) cYes (cBin (oInA false) (cVar 4) (cVar 1)))) cNil)))) (cVar 3)))))
  (cApp 1 (cCall gMin (cCons (cVar 2) cNil))))
def g_order : DS → Fl :=
  (cSeq (cDrop (cFn0 F_look_web (cCons (cVar 0) cNil)))
  (cSeq (cOwn 1 cNil)
  (cSeq (cWhile (fun _ => 10) (cLookT 1 (cTest (cBin oLt (cCall gLen (cCons (cVar 1) cNil)) (cCall gLen (cCons (cVar 0) cNil))))) g_order_l1)
  (cRetO 1))))
def F_order : List D → Res (List D) := defL 4 g_order
abbrev g_all_leads_l1 : DS → Fl :=
  (cAugL (cpVar 1) (cVar 3) (cLookF 1 (cCat (cL (cCons (cVar 2) cNil)) (cBin oIxD (cVar 1) (cVar 2)))))
abbrev g_all_leads_l2 : DS → Fl :=
  (cFor (cItems (cBin oIx (cVar 0) (cVar 2))) (bName 3) g_all_leads_l1)
def g_all_leads : DS → Fl :=
  (cSeq (cOwnN 1 (cDcN [4] (cIt gRange1 (cCons (cCall gLen (cCons (cVar 0) cNil)) cNil)) (bName 4) cYes (cVar 4) (cNl cNil)))
  (cSeq (cFor (cItems (cUn oRev (cL (cFnF F_order (cCons (cVar 0) cNil))))) (bName 2) g_all_leads_l2)
  (cFz 1 (cRet (cVar 1)))))
def F_all_leads : List D → Res D := defF 4 g_all_leads
def g_are_joined : DS → Fl :=
  (cRet (cOrV (cBin (oInA false) (cVar 1) (cBin oIx (cVar 0) (cVar 2))) (cBin (oInA false) (cVar 2) (cBin oIx (cVar 0) (cVar 1)))))
def F_are_joined : List D → Res D := defF 0 g_are_joined
def g_lets_through : DS → Fl :=
  (cSeq (cAsgG (bTup 3 (bCons (bName 4) (bCons (bName 5) (bCons (bName 6) bNil)))) (cVar 2))
  (cSeq (cIf (cAndT (cTest (cBin (oInA false) (cVar 4) (cBin oIx (cVar 0) (cVar 5)))) (cTest (cBin (oInA false) (cVar 6) (cBin oIx (cVar 0) (cVar 5))))) (cRet (cOrV (cBin (oInA false) (cVar 5) (cVar 3)) (cCall gAny (cCons (cL (cLc [7] (cItems (cBin oIxD (cVar 1) (cVar 5))) (bName 7) cYes (cBin (oInA false) (cVar 7) (cVar 3)))) cNil)))) cNext)
  (cRet (cBin (oInA true) (cVar 5) (cVar 3)))))
def F_lets_through : List D → Res D := defF 4 g_lets_through
def g_passes : DS → Fl :=
  (cRet (cCall gAll (cCons (cL (cLc [4] (cIt gRange2 (cCons (cC (.int 1)) (cCons (cBin oSub (cCall gLen (cCons (cVar 2) cNil)) (cC (.int 1))) cNil))) (bName 4) cYes (cFn0 F_lets_through (cCons (cVar 0) (cCons (cVar 1) (cCons (cSl (cVar 2) (cSome (cBin oSub (cVar 4) (cC (.int 1)))) (cSome (cBin oAdd (cVar 4) (cC (.int 2))))) (cCons (cVar 3) cNil))))))) cNil)))
def F_passes : List D → Res D := defF 1 g_passes
abbrev g_look_ends_l1 : DS → Fl :=
  (cDrop (cFn0 F_look_column (cCons (cCall gLen (cCons (cVar 0) cNil)) (cCons (cVar 4) cNil))))
def g_look_ends : DS → Fl :=
  (cSeq (cDrop (cFn0 F_look_web (cCons (cVar 0) cNil)))
  (cSeq (cFor (cItems (cBin oAdd (cTup (cCons (cVar 1) (cCons (cVar 2) cNil))) (cCall gTuple (cCons (cVar 3) cNil)))) (bName 4) g_look_ends_l1)
  (cIf (cOrT (cTest (cBin oEq (cVar 1) (cVar 2))) (cOrT (cTest (cBin (oInA false) (cVar 1) (cVar 3))) (cTest (cBin (oInA false) (cVar 2) (cVar 3))))) (cRaise "Same" (fd1 "word" "same") cNil) cNext)))
def F_look_ends : List D → Res D := defF 1 g_look_ends
abbrev g_open_way_l1 : DS → Fl :=
  (cIf (cAndT (cTest (cBin oEq (cBin oIx (cVar 6) (cUn oNeg (cC (.int 1)))) (cVar 2))) (cTest (cFn0 F_passes (cCons (cVar 0) (cCons (cVar 4) (cCons (cVar 6) (cCons (cVar 3) cNil))))))) (cRet (cVar 6)) cNext)
abbrev g_open_way_l2 : DS → Fl :=
  (cSeq (cAsg 5 (cL (cLc2 [6, 7] [7] (cItems (cVar 5)) (bName 6) cYes (cIt gRange1 (cCons (cCall gLen (cCons (cVar 0) cNil)) cNil)) (bName 7) (cAndT (cTest (cBin (oInA true) (cVar 7) (cVar 6))) (cTest (cFn0 F_are_joined (cCons (cVar 0) (cCons (cBin oIx (cVar 6) (cUn oNeg (cC (.int 1)))) (cCons (cVar 7) cNil)))))) (cBin oAdd (cVar 6) (cTup (cCons (cVar 7) cNil))))))
  (cSeq (cFor (cItems (cVar 5)) (bName 6) g_open_way_l1)
  (cAsg 5 (cL (cLc [6] (cItems (cVar 5)) (bName 6) (cTest (cBin oNe (cBin oIx (cVar 6) (cUn oNeg (cC (.int 1)))) (cVar 2))) (cVar 6))))))
def g_open_way : DS → Fl :=
  (cSeq (cDrop (cFn0 F_look_ends (cCons (cVar 0) (cCons (cVar 1) (cCons (cVar 2) (cCons (cVar 3) cNil))))))
  (cSeq (cAsg 4 (cFn0 F_all_leads (cCons (cVar 0) cNil)))
  (cSeq (cAsg 5 (cL (cCons (cTup (cCons (cVar 1) cNil)) cNil)))
  (cSeq (cWhile (fun _ => 10) (cTest (cBin oNe (cVar 5) (cL cNil))) g_open_way_l2)
  (cRet (cC .non))))))
def F_open_way : List D → Res D := defF 4 g_open_way
def g_apart : DS → Fl :=
  (cRet (cBin (oIsN false) (cKw F_open_way [.p 0, .p 1, .p 2, .k 0] (cCons (cVar 0) (cCons (cVar 1) (cCons (cVar 2) cNil))) (cCons (cVar 3) cNil)) (cC .non)))
def F_apart : List D → Res D := defF 0 g_apart
abbrev g__law_draws_l1 : DS → Fl :=
  (cSeq (cApp 5 (cBin oMod (cVar 0) (cVar 6)))
  (cAsg 0 (cBin oFdiv (cVar 0) (cVar 6))))
def g__law_draws : DS → Fl :=
  (cSeq (cIf (cTest (cBin oLt (cCall gAbs (cCons (cVar 0) cNil)) (cBin oPow (cC (.int 10)) (cC (.int 18))))) (cSeq (cAsg 2 (cBin oMod (cBin oAdd (cBin oMul2 (cVar 0) (cC (.int 48271))) (cC (.int 11))) (cC (.int 2147483647))))
  (cSeq (cAsg 3 (cBin oMod (cBin oAdd (cBin oAdd (cBin oMul2 (cVar 2) (cVar 2)) (cBin oMul2 (cC (.int 40692)) (cVar 2))) (cVar 0)) (cC (.int 2147483399))))
  (cSeq (cAsg 4 (cBin oMod (cBin oAdd (cBin oMul2 (cVar 3) (cC (.int 16807))) (cVar 2)) (cC (.int 1000000007))))
  (cAsg 0 (cBin oAdd (cVar 3) (cBin oMul2 (cC (.int 2147483399)) (cBin oAdd (cVar 4) (cBin oMul2 (cC (.int 1000000007)) (cVar 2))))))))) (cAsg 0 (cBin oSub (cCall gAbs (cCons (cVar 0) cNil)) (cBin oPow (cC (.int 10)) (cC (.int 18))))))
  (cSeq (cOwn 5 cNil)
  (cSeq (cFor (cItems (cVar 1)) (bName 6) g__law_draws_l1)
  (cFz 5 (cRet (cVar 5))))))
def F__law_draws : List D → Res D := defF 5 g__law_draws
abbrev g__law_web_l1 : DS → Fl :=
  (cAppPop 4 3 (cLook 3 (cBin oMod (cBin oIx (cVar 2) (cVar 5)) (cCall gLen (cCons (cVar 3) cNil)))))
abbrev g__law_web_l2 : DS → Fl :=
  (cIf (cTest (cBin oGt (cBin oIx (cVar 2) (cBin oAdd (cVar 7) (cVar 9))) (cC (.int 0)))) (cApp 8 (cLook 4 (cBin oIx (cVar 4) (cVar 9)))) cNext)
abbrev g__law_web_l3 : DS → Fl :=
  (cSeq (cOwn 8 cNil)
  (cSeq (cFor (cIt gRange1 (cCons (cVar 5) cNil)) (bName 9) g__law_web_l2)
  (cSeq (cAsg 7 (cBin oAdd (cVar 7) (cVar 5)))
  (cPut 6 (cLook 4 (cBin oIx (cVar 4) (cVar 5))) (cLookL 8 (cCall gTuple (cCons (cL (cSrt (cVar 8))) cNil)))))))
def g__law_web : DS → Fl :=
  (cSeq (cAsg 2 (cFn0 F__law_draws (cCons (cVar 0) (cCons (cBin oAdd (cL (cCons (cC (.int 6)) (cCons (cC (.int 5)) (cCons (cC (.int 4)) (cCons (cC (.int 3)) (cCons (cC (.int 2)) (cCons (cC (.int 1)) cNil))))))) (cL (cRep (cCons (cC (.int 3)) cNil) (cC (.int 15))))) cNil))))
  (cSeq (cOwn 3 (cListRg (cVar 1)))
  (cSeq (cOwn 4 cNil)
  (cSeq (cFor (cIt gRange1 (cCons (cVar 1) cNil)) (bName 5) g__law_web_l1)
  (cSeq (cOwn 6 (cRep (cCons (cTup cNil) cNil) (cVar 1)))
  (cSeq (cAsg 7 (cC (.int 6)))
  (cSeq (cFor (cIt gRange1 (cCons (cVar 1) cNil)) (bName 5) g__law_web_l3)
  (cFz 6 (cRet (cCall gTuple (cCons (cVar 6) cNil)))))))))))
def F__law_web : List D → Res D := defF 8 g__law_web
abbrev g__law_ways_l1 : DS → Fl :=
  (cIf (cAndT (cTest (cBin (oInA true) (cVar 8) (cVar 7))) (cOrT (cTest (cBin (oInA false) (cVar 8) (cBin oIx (cVar 0) (cBin oIx (cVar 7) (cUn oNeg (cC (.int 1))))))) (cTest (cBin (oInA false) (cBin oIx (cVar 7) (cUn oNeg (cC (.int 1)))) (cBin oIx (cVar 0) (cVar 8)))))) (cApp 6 (cBin oAdd (cVar 7) (cTup (cCons (cVar 8) cNil)))) cNext)
abbrev g__law_ways_l2 : DS → Fl :=
  (cFor (cIt gRange1 (cCons (cCall gLen (cCons (cVar 0) cNil)) cNil)) (bName 8) g__law_ways_l1)
abbrev g__law_ways_l3 : DS → Fl :=
  (cSeq (cOwn 6 cNil)
  (cSeq (cFor (cItems (cVar 4)) (bName 7) g__law_ways_l2)
  (cSeq (cAsg 3 (cL (cLookG 6 (cCat (cVar 3) (cL (cLc [7] (cItems (cVar 6)) (bName 7) (cTest (cBin oEq (cBin oIx (cVar 7) (cUn oNeg (cC (.int 1)))) (cVar 2))) (cVar 7)))))))
  (cAsg 4 (cL (cLookG 6 (cLc [7] (cItems (cVar 6)) (bName 7) (cTest (cBin oNe (cBin oIx (cVar 7) (cUn oNeg (cC (.int 1)))) (cVar 2))) (cVar 7))))))))
def g__law_ways : DS → Fl :=
  (cSeq (cAsg 3 (cL cNil))
  (cSeq (cAsg 4 (cL (cCons (cTup (cCons (cVar 1) cNil)) cNil)))
  (cSeq (cFor (cIt gRange1 (cCons (cCall gLen (cCons (cVar 0) cNil)) cNil)) (bName 5) g__law_ways_l3)
  (cRet (cVar 3)))))
def F__law_ways : List D → Res D := defF 6 g__law_ways
abbrev g__law_below_l1 : DS → Fl :=
  (cAsg 2 (cBin oAdd (cVar 2) (cL (cLc [4] (cIt gRange1 (cCons (cCall gLen (cCons (cVar 0) cNil)) cNil)) (bName 4) (cAndT (cTest (cBin (oInA true) (cVar 4) (cVar 2))) (cTest (cCall gAny (cCons (cL (cLc [5] (cItems (cBin oIx (cVar 0) (cVar 4))) (bName 5) cYes (cBin (oInA false) (cVar 5) (cVar 2)))) cNil)))) (cVar 4)))))
def g__law_below : DS → Fl :=
  (cSeq (cAsg 2 (cL (cCons (cVar 1) cNil)))
  (cSeq (cFor (cIt gRange1 (cCons (cCall gLen (cCons (cVar 0) cNil)) cNil)) (bName 3) g__law_below_l1)
  (cRet (cVar 2))))
def F__law_below : List D → Res D := defF 4 g__law_below
abbrev g__law_passes_l1 : DS → Fl :=
  (cSeq (cAsg 4 (cAndV (cBin (oInA false) (cBin oIx (cVar 1) (cBin oSub (cVar 3) (cC (.int 1)))) (cBin oIx (cVar 0) (cBin oIx (cVar 1) (cVar 3)))) (cBin (oInA false) (cBin oIx (cVar 1) (cBin oAdd (cVar 3) (cC (.int 1)))) (cBin oIx (cVar 0) (cBin oIx (cVar 1) (cVar 3))))))
  (cIf (cTest (cBin oNe (cVar 4) (cCall gAny (cCons (cL (cLc [5] (cItems (cIfE (cTest (cVar 4)) (cFn0 F__law_below (cCons (cVar 0) (cCons (cBin oIx (cVar 1) (cVar 3)) cNil))) (cL (cCons (cBin oIx (cVar 1) (cVar 3)) cNil)))) (bName 5) cYes (cBin (oInA false) (cVar 5) (cVar 2)))) cNil)))) (cRet (cC (.bl false))) cNext))
def g__law_passes : DS → Fl :=
  (cSeq (cFor (cIt gRange2 (cCons (cC (.int 1)) (cCons (cBin oSub (cCall gLen (cCons (cVar 1) cNil)) (cC (.int 1))) cNil))) (bName 3) g__law_passes_l1)
  (cRet (cAndV (cBin (oInA true) (cBin oIx (cVar 1) (cC (.int 0))) (cVar 2)) (cBin (oInA true) (cBin oIx (cVar 1) (cUn oNeg (cC (.int 1)))) (cVar 2)))))
def F__law_passes : List D → Res D := defF 3 g__law_passes
def q__law_word : Clauses :=
  ((tabP [("BadColumn", true), ("BadWeb", true), ("Same", true), ("NothingLeft", false)], 1, (fun x δ => stE ((fun x _ => fldR "word" x) x δ) δ fun z => .rt z)) :: ((tabP [("BadColumn", false), ("BadWeb", false), ("Same", false), ("NothingLeft", false)], 1, (fun x δ => stE ((fun x _ => fldR "word" x) x δ) δ fun z => .rt z)) :: ((tabP [("BadColumn", false), ("BadWeb", false), ("Same", false), ("NothingLeft", true)], 1, (fun x δ => stE ((fun x _ => fldR "word" x) x δ) δ fun z => .rt z)) :: [])))
def g__law_wide_so : DS → Fl :=
  (cSeq (cAsg 4 (cBin oAdd (cVar 0) (cBin oMul2 (cTup (cCons (cBin oIx (cVar 0) (cC (.int 0))) cNil)) (cC (.int 7)))))
  (cSeq (cIf (cTest (cBin oNe (cLam 2 q__law_word "" (cKw F_apart [.p 0, .p 1, .p 2, .k 0] (cCons (cVar 4) (cCons (cVar 1) (cCons (cVar 2) cNil))) (cCons (cVar 3) cNil))) (cC (.str "badweb")))) (cRet (cC (.bl false))) cNext)
  (cRet (cBin oEq (cLam 2 q__law_word "" (cKw F_open_way [.p 0, .p 1, .p 2, .k 0] (cCons (cVar 4) (cCons (cVar 1) (cCons (cVar 2) cNil))) (cCons (cVar 3) cNil))) (cC (.str "badweb"))))))
def F__law_wide_so : List D → Res D := defF 1 g__law_wide_so
abbrev g_law_l1 : DS → Fl :=
  (cSeq (cAsg 2 (cFn0 F__law_draws (cCons (cBin oAdd (cVar 1) (cC (.int 5))) (cCons (cL (cCons (cC (.int 5)) (cCons (cC (.int 8)) (cCons (cC (.int 8)) (cCons (cC (.int 64)) (cCons (cC (.int 12)) cNil)))))) cNil))))
  (cSeq (cAsg 3 (cBin oAdd (cC (.int 2)) (cBin oIx (cVar 2) (cC (.int 0)))))
  (cSeq (cAsg 4 (cFn0 F__law_web (cCons (cVar 1) (cCons (cVar 3) cNil))))
  (cSeq (cAsgG (bTup 2 (bCons (bName 5) (bCons (bName 6) bNil))) (cTup (cCons (cBin oMod (cBin oIx (cVar 2) (cC (.int 1))) (cBin oAdd (cVar 3) (cC (.int 1)))) (cCons (cBin oMod (cBin oIx (cVar 2) (cC (.int 2))) (cBin oAdd (cVar 3) (cC (.int 1)))) cNil))))
  (cSeq (cAsg 7 (cCall gTuple (cCons (cL (cLc [11] (cIt gRange1 (cCons (cVar 3) cNil)) (bName 11) (cTest (cBin oEq (cBin oMod (cBin oFdiv (cBin oIx (cVar 2) (cC (.int 3))) (cBin oIx (cL (cCons (cC (.int 1)) (cCons (cC (.int 2)) (cCons (cC (.int 4)) (cCons (cC (.int 8)) (cCons (cC (.int 16)) (cCons (cC (.int 32)) cNil))))))) (cVar 11))) (cC (.int 2))) (cC (.int 1)))) (cVar 11))) cNil)))
  (cSeq (cIf (cTest (cBin oGt (cBin oIx (cVar 2) (cC (.int 4))) (cC (.int 0)))) (cAsg 7 (cCall gTuple (cCons (cL (cLc [11] (cItems (cVar 7)) (bName 11) (cAndT (cTest (cBin oNe (cVar 11) (cVar 5))) (cTest (cBin oNe (cVar 11) (cVar 6)))) (cVar 11))) cNil))) cNext)
  (cSeq (cIf (cTest (cBin oEq (cBin oIx (cVar 2) (cC (.int 4))) (cC (.int 11)))) (cAsg 7 (cBin oAdd (cVar 7) (cTup (cCons (cBin oIx (cL (cCons (cUn oNeg (cC (.int 1))) (cCons (cVar 3) cNil))) (cBin oMod (cBin oIx (cVar 2) (cC (.int 1))) (cC (.int 2)))) cNil)))) cNext)
  (cSeq (cAsg 8 (cC (.str "")))
  (cSeq (cIf (cNotT (cTest (cCall gAll (cCons (cL (cLc [11] (cItems (cBin oAdd (cTup (cCons (cVar 5) (cCons (cVar 6) cNil))) (cVar 7))) (bName 11) cYes (cChain oLe oLt (cC (.int 0)) (cVar 11) (cVar 3)))) cNil)))) (cAsg 8 (cC (.str "badcolumn"))) (cIf (cOrT (cTest (cBin oEq (cVar 5) (cVar 6))) (cOrT (cTest (cBin (oInA false) (cVar 5) (cVar 7))) (cTest (cBin (oInA false) (cVar 6) (cVar 7))))) (cAsg 8 (cC (.str "same"))) cNext))
  (cSeq (cIf (cTest (cBin oNe (cLam 2 q__law_word "" (cKw F_open_way [.p 0, .p 1, .p 2, .k 0] (cCons (cVar 4) (cCons (cVar 5) (cCons (cVar 6) cNil))) (cCons (cVar 7) cNil))) (cVar 8))) (cRet (cC (.bl false))) cNext)
  (cSeq (cIf (cTest (cBin oNe (cLam 2 q__law_word "" (cKw F_apart [.p 0, .p 1, .p 2, .k 0] (cCons (cVar 4) (cCons (cVar 5) (cCons (cVar 6) cNil))) (cCons (cVar 7) cNil))) (cVar 8))) (cRet (cC (.bl false))) cNext)
  (cSeq (cIf (cNotT (cTest (cFn0 F__law_wide_so (cCons (cVar 4) (cCons (cVar 5) (cCons (cVar 6) (cCons (cVar 7) cNil))))))) (cRet (cC (.bl false))) cNext)
  (cIf (cTest (cBin oEq (cVar 8) (cC (.str "")))) (cSeq (cAsg 9 (cL (cLc [12] (cItems (cFn0 F__law_ways (cCons (cVar 4) (cCons (cVar 5) (cCons (cVar 6) cNil))))) (bName 12) (cTest (cFn0 F__law_passes (cCons (cVar 4) (cCons (cVar 12) (cCons (cVar 7) cNil))))) (cCall gLen (cCons (cVar 12) cNil)))))
  (cSeq (cAsg 10 (cKw F_open_way [.p 0, .p 1, .p 2, .k 0] (cCons (cVar 4) (cCons (cVar 5) (cCons (cVar 6) cNil))) (cCons (cVar 7) cNil)))
  (cSeq (cIf (cOrT (cTest (cBin oNe (cBin (oIsN false) (cVar 10) (cC .non)) (cBin oEq (cVar 9) (cL cNil)))) (cTest (cBin oNe (cKw F_apart [.p 0, .p 1, .p 2, .k 0] (cCons (cVar 4) (cCons (cVar 5) (cCons (cVar 6) cNil))) (cCons (cVar 7) cNil)) (cBin oEq (cVar 9) (cL cNil))))) (cRet (cC (.bl false))) cNext)
  (cIf (cTest (cBin (oIsN true) (cVar 10) (cC .non))) (cSeq (cIf (cOrT (cTest (cBin oNe (cCall gLen (cCons (cVar 10) cNil)) (cCall gMin (cCons (cVar 9) cNil)))) (cTest (cBin (oInA true) (cVar 10) (cFn0 F__law_ways (cCons (cVar 4) (cCons (cVar 5) (cCons (cVar 6) cNil))))))) (cRet (cC (.bl false))) cNext)
  (cIf (cNotT (cTest (cFn0 F__law_passes (cCons (cVar 4) (cCons (cVar 10) (cCons (cVar 7) cNil)))))) (cRet (cC (.bl false))) cNext)) cNext)))) cNext)))))))))))))
def g_law : DS → Fl :=
  (cSeq (cAsg 0 (cSl (cVar 0) cNone (cSome (cC (.int 63)))))
  (cSeq (cFor (cItems (cBin oAdd (cVar 0) (cL (cCons (cC (.int 0)) (cCons (cC (.int 1)) (cCons (cC (.int 2)) cNil)))))) (bName 1) g_law_l1)
  (cRet (cC (.bl true)))))
def F_law : List D → Res D := defF 12 g_law
end My
namespace My
open PySem L2 DV

/-! ### draws -/
def digs : Int → List Int → List Int
  | _, [] => []
  | m, s :: ss => m % s :: digs (m / s) ss
theorem digs_length : ∀ (ss : List Int) (m : Int), (digs m ss).length = ss.length
  | [], _ => rfl
  | s :: ss, m => by simp [digs, digs_length ss]
theorem draws_loop (L : D) (o2 o3 o4 : Option O) : ∀ (ss : List Int) (m : Int) (ds : List D) (o : Option O), (∀ s ∈ ss, 0 < s ∧ s < 2 ^ 31) → ds.length + ss.length < 1000 →
    ∃ m' o', forF (bName 6) (cSeq (cApp 5 (cBin oMod (cVar 0) (cVar 6))) (cAsg 0 (cBin oFdiv (cVar 0) (cVar 6)))) (ss.map D.int) [some (.im (.int m)), some (.im L), o2, o3, o4, some (.ow ds), o] =
      .nx [some (.im (.int m')), some (.im L), o2, o3, o4, some (.ow (ds ++ (digs m ss).map D.int)), o']
  | [], m, ds, o, _, _ => ⟨m, o, by simp [forF, digs]⟩
  | s :: ss, m, ds, o, hs, hl => by
    obtain ⟨h1, h2⟩ := hs s (by simp)
    have hl2 : ds.length + (ss.length + 1) < 1000 := by simpa using hl
    have hz : ds.length < sizeLine := Nat.lt_trans (by omega : ds.length < 1000) (by decide)
    obtain ⟨m', o', ih⟩ := draws_loop L o2 o3 o4 ss (m / s) (ds ++ [D.int (m % s)]) (some (.im (.int s))) (fun x hx => hs x (by simp [hx])) (by simp; omega)
    refine ⟨m', o', ?_⟩
    have hs9 : s.natAbs < 2 ^ 9000 := Nat.lt_of_lt_of_le (show s.natAbs < 2 ^ 31 by omega) (Nat.pow_le_pow_right (by decide) (by decide))
    rw [List.map_cons, forF]
    simp only [bName, List.set_cons_succ, List.set_cons_zero]
    have e1 : oMod (.int m) (.int s) = .ok (.int (m % s)) := oMod_pos h1
    have e2 : oFdiv (.int m) (.int s) = .ok (.int (m / s)) := oFdiv_pos h1 hs9
    have eb : cSeq (cApp 5 (cBin oMod (cVar 0) (cVar 6))) (cAsg 0 (cBin oFdiv (cVar 0) (cVar 6))) [some (.im (.int m)), some (.im L), o2, o3, o4, some (.ow ds), some (.im (.int s))] =
        .nx [some (.im (.int (m / s))), some (.im L), o2, o3, o4, some (.ow (ds ++ [D.int (m % s)])), some (.im (.int s))] := by
      simp [cSeq, cApp, cBin, cVar, cAsg, e1, e2, hz]
    rw [eb]
    dsimp only
    rw [ih]
    simp [digs]
theorem draws_ok (c : Int) (ss : List Int) (hs : ∀ s ∈ ss, 0 < s ∧ s < 2 ^ 31) (hl : ss.length < 1000) : ∃ m, F__law_draws [.int c, .lst (ss.map D.int)] = .ok (.lst ((digs m ss).map D.int)) := by
  have fin : ∀ (m : Int) (o2 o3 o4 : Option O), flR (((cSeq (cOwn 5 cNil) (cSeq (cFor (cItems (cVar 1)) (bName 6) (cSeq (cApp 5 (cBin oMod (cVar 0) (cVar 6))) (cAsg 0 (cBin oFdiv (cVar 0) (cVar 6))))) (cFz 5 (cRet (cVar 5)))))) [some (.im (.int m)), some (.im (.lst (ss.map D.int))), o2, o3, o4, none, none]) = .ok (.lst ((digs m ss).map D.int)) := by
    intro m o2 o3 o4
    obtain ⟨m', o', h⟩ := draws_loop (.lst (ss.map D.int)) o2 o3 o4 ss m [] none hs (by simpa using hl)
    simp only [List.nil_append] at h
    simp [cSeq, cOwn, cNil, cFor, cItems, cVar, itemsD, h, cFz, fz, cRet]
  unfold F__law_draws defF g__law_draws
  have est : st0 5 [D.int c, .lst (ss.map D.int)] = [some (.im (.int c)), some (.im (.lst (ss.map D.int))), none, none, none, none, none] := rfl
  rw [est, cSeq]
  have p1 : oPow (.int 10) (.int 18) = .ok (.int (10 ^ 18)) := by rfl
  have htest : (cTest (cBin oLt (cCall gAbs (cCons (cVar 0) cNil)) (cBin oPow (cC (.int 10)) (cC (.int 18))))) [some (.im (.int c)), some (.im (.lst (ss.map D.int))), none, none, none, none, none] = .ok (decide ((if c < 0 then -c else c) < 10 ^ 18)) := by
    simp [cTest, cBin, cCall, gAbs, cCons, cVar, cNil, cC, p1, oI, asB]
  by_cases hc : (if c < 0 then -c else c) < 10 ^ 18
  · have hc1 : c.natAbs < 2 ^ 60 := by
      have : (10 : Int) ^ 18 < 2 ^ 60 := by decide
      split at hc <;> omega
    have m1 : oMul2 (.int c) (.int 48271) = .ok (.int (c * 48271)) := oMul_int (mul_ok (a := 60) (b := 16) hc1 (by decide) (by decide) (by decide) (by decide))
    have hm0 : 0 ≤ (c * 48271 + 11) % 2147483647 ∧ (c * 48271 + 11) % 2147483647 < 2147483647 := by omega
    generalize hmx : (c * 48271 + 11) % 2147483647 = mx at hm0
    have m2 : oMul2 (.int mx) (.int mx) = .ok (.int (mx * mx)) := oMul_int (mul_ok (a := 31) (b := 31) (by omega) (by omega) (by decide) (by decide) (by decide))
    have m3 : oMul2 (.int 40692) (.int mx) = .ok (.int (40692 * mx)) := oMul_int (mul_ok (a := 31) (b := 31) (by decide) (by omega) (by decide) (by decide) (by decide))
    have ht0 : 0 ≤ (mx * mx + 40692 * mx + c) % 2147483399 ∧ (mx * mx + 40692 * mx + c) % 2147483399 < 2147483399 := ⟨Int.emod_nonneg _ (by decide), Int.emod_lt_of_pos _ (by decide)⟩
    generalize htw : (mx * mx + 40692 * mx + c) % 2147483399 = tw at ht0
    have m4 : oMul2 (.int tw) (.int 16807) = .ok (.int (tw * 16807)) := oMul_int (mul_ok (a := 31) (b := 31) (by omega) (by decide) (by decide) (by decide) (by decide))
    have hx0 : 0 ≤ (tw * 16807 + mx) % 1000000007 ∧ (tw * 16807 + mx) % 1000000007 < 1000000007 := by omega
    generalize hsx : (tw * 16807 + mx) % 1000000007 = sx at hx0
    have m5 : oMul2 (.int 1000000007) (.int mx) = .ok (.int (1000000007 * mx)) := oMul_int (mul_ok (a := 31) (b := 31) (by decide) (by omega) (by decide) (by decide) (by decide))
    have m6 : oMul2 (.int 2147483399) (.int (sx + 1000000007 * mx)) = .ok (.int (2147483399 * (sx + 1000000007 * mx))) := oMul_int (mul_ok (a := 32) (b := 64) (by decide) (by omega) (by decide) (by decide) (by decide))
    have d1 : oMod (.int (c * 48271 + 11)) (.int 2147483647) = .ok (.int mx) := by rw [oMod_pos (by decide), hmx]
    have d2 : oMod (.int (mx * mx + 40692 * mx + c)) (.int 2147483399) = .ok (.int tw) := by rw [oMod_pos (by decide), htw]
    have d3 : oMod (.int (tw * 16807 + mx)) (.int 1000000007) = .ok (.int sx) := by rw [oMod_pos (by decide), hsx]
    refine ⟨tw + 2147483399 * (sx + 1000000007 * mx), ?_⟩
    have hif : cIf (cTest (cBin oLt (cCall gAbs (cCons (cVar 0) cNil)) (cBin oPow (cC (.int 10)) (cC (.int 18))))) (cSeq (cAsg 2 (cBin oMod (cBin oAdd (cBin oMul2 (cVar 0) (cC (.int 48271))) (cC (.int 11))) (cC (.int 2147483647))))
        (cSeq (cAsg 3 (cBin oMod (cBin oAdd (cBin oAdd (cBin oMul2 (cVar 2) (cVar 2)) (cBin oMul2 (cC (.int 40692)) (cVar 2))) (cVar 0)) (cC (.int 2147483399))))
        (cSeq (cAsg 4 (cBin oMod (cBin oAdd (cBin oMul2 (cVar 3) (cC (.int 16807))) (cVar 2)) (cC (.int 1000000007))))
        (cAsg 0 (cBin oAdd (cVar 3) (cBin oMul2 (cC (.int 2147483399)) (cBin oAdd (cVar 4) (cBin oMul2 (cC (.int 1000000007)) (cVar 2))))))))) (cAsg 0 (cBin oSub (cCall gAbs (cCons (cVar 0) cNil)) (cBin oPow (cC (.int 10)) (cC (.int 18)))))
        [some (.im (.int c)), some (.im (.lst (ss.map D.int))), none, none, none, none, none] = .nx [some (.im (.int (tw + 2147483399 * (sx + 1000000007 * mx)))), some (.im (.lst (ss.map D.int))), some (.im (.int mx)), some (.im (.int tw)), some (.im (.int sx)), none, none] := by
      rw [cIf, htest, stE_ok, if_pos (decide_eq_true hc)]
      simp [cBin, cVar, cC, cSeq, cAsg, oAdd_int, m1, m2, m3, m4, m5, m6, d1, d2, d3]
    rw [hif]
    exact fin _ _ _ _
  · refine ⟨(if c < 0 then -c else c) - 10 ^ 18, ?_⟩
    have hif : cIf (cTest (cBin oLt (cCall gAbs (cCons (cVar 0) cNil)) (cBin oPow (cC (.int 10)) (cC (.int 18))))) (cSeq (cAsg 2 (cBin oMod (cBin oAdd (cBin oMul2 (cVar 0) (cC (.int 48271))) (cC (.int 11))) (cC (.int 2147483647))))
        (cSeq (cAsg 3 (cBin oMod (cBin oAdd (cBin oAdd (cBin oMul2 (cVar 2) (cVar 2)) (cBin oMul2 (cC (.int 40692)) (cVar 2))) (cVar 0)) (cC (.int 2147483399))))
        (cSeq (cAsg 4 (cBin oMod (cBin oAdd (cBin oMul2 (cVar 3) (cC (.int 16807))) (cVar 2)) (cC (.int 1000000007))))
        (cAsg 0 (cBin oAdd (cVar 3) (cBin oMul2 (cC (.int 2147483399)) (cBin oAdd (cVar 4) (cBin oMul2 (cC (.int 1000000007)) (cVar 2))))))))) (cAsg 0 (cBin oSub (cCall gAbs (cCons (cVar 0) cNil)) (cBin oPow (cC (.int 10)) (cC (.int 18)))))
        [some (.im (.int c)), some (.im (.lst (ss.map D.int))), none, none, none, none, none] = .nx [some (.im (.int ((if c < 0 then -c else c) - 10 ^ 18))), some (.im (.lst (ss.map D.int))), none, none, none, none, none] := by
      rw [cIf, htest, stE_ok, if_neg (by simpa using hc)]
      simp [cBin, cVar, cC, cCall, gAbs, cCons, cNil, cAsg, p1, oSub_int]
    rw [hif]
    exact fin _ _ _ _

end My
namespace My
open PySem L2 DV
/-! ### is_plain -/
def P4 (a : O) (δ : DS) : Prop := ∃ b c d, δ = [some a, b, c, d]
theorem chain_in {δ : DS} {n : Nat} {x : Int} {w : Web} (h0 : δ[0]? = some (some (.im (tW w)))) (hn : w.length = n) (k : Nat) (hk : δ[k]? = some (some (.im (.int x)))) :
    cChain oLe oLt (cC (.int 0)) (cVar k) (cCall gLen (cCons (cVar 0) cNil)) δ = .ok (.bl (decide (0 ≤ x) && decide (x < n))) := by
  simp only [ev_chain, ev_c, ev_var, hk, Res.bind_ok, oLe_int, ev_call, ev_cons, ev_nil, h0, tW_len, oLt_int, hn]
  by_cases hx : 0 ≤ x <;> simp [hx]
theorem is_plain_ok (w : Web) (hz : w.length ≤ 1000) (hl : ∀ l ∈ w, l.length < 64) : F_is_plain [tW w] = .ok (.bl (plainW w)) := by
  have hs : (cNotT (cTest (cChain oLe oLe (cC (.int 1)) (cCall gLen (cCons (cVar 0) cNil)) (cC (.int 6))))) [some (.im (tW w)), none, none, none] = .ok (!sizeW w) := by
    simp only [ev_notT, ev_test, ev_chain, ev_c, ev_call, ev_cons, ev_var, ev_nil, Res.bind_ok, tW, List.getElem?_cons_zero, ev_lent, oLe_int, List.length_map]
    unfold sizeW
    by_cases h1 : 1 ≤ w.length
    · have : (1 : Int) ≤ (w.length : Nat) := by omega
      have e : decide (((w.length : Nat) : Int) ≤ 6) = decide (w.length ≤ 6) := by rw [decide_eq_decide]; omega
      simp [this, h1, e]
    · have : ¬ (1 : Int) ≤ (w.length : Nat) := by omega
      simp [this, h1]
  have hloop := forF_ret (fun p : List Int × Nat => D.tup [.int (p.2 : Nat), tI p.1]) (P4 (.im (tW w))) (fun q => okCol w q.2) (.bl false) (b := bTup 2 (bCons (bName 1) (bCons (bName 2) bNil))) (g := g_is_plain_l1) (w.zipIdx 0) [some (.im (tW w)), none, none, none] ⟨_, _, _, rfl⟩ (by
    rintro δ ⟨l, c⟩ hx ⟨b, c', d, rfl⟩
    obtain ⟨hc, rfl⟩ := getD_zip hx
    have hll := hl _ (mem_lean hc)
    refine ⟨[some (.im (tW w)), some (.im (.int (c : Nat))), some (.im (tI (leanW w c))), d], rfl, ?_⟩
    have hlc : lcF (bName 3) cYes (cVar 3) ((leanW w c).map D.int) [some (.im (tW w)), some (.im (.int (c : Nat))), some (.im (tI (leanW w c))), none] = .ok ((leanW w c).map D.int) :=
      lcF_map D.int D.int _ fun x hx => ⟨_, rfl, rfl, rfl⟩
    have z := small_z (show (leanW w c).length ≤ 1000 by omega)
    have t1 : cOrT (cTest (cBin oNe (cCall gList (cCons (cVar 2) cNil)) (cL (cSorted (cInts (cLc [3] (cItems (cVar 2)) (bName 3) cYes (cVar 3))))))) (cTest (cBin (oInA false) (cVar 1) (cVar 2))) [some (.im (tW w)), some (.im (.int (c : Nat))), some (.im (tI (leanW w c))), d] = .ok (!(decide (leanW w c = setI (leanW w c)) && !decide ((c : Int) ∈ leanW w c))) := by
      simp only [ev_orT, ev_test, ev_bin, ev_call, ev_cons, ev_var, ev_nil, ev_L, ev_sorted, ev_ints, ev_lc, ev_items]
      by_cases h1 : leanW w c = setI (leanW w c)
      · simp [← h1, hlc, hll, z, eqL_ints]
      · simp [h1, hlc, hll, z, eqL_ints]
    have t2 : cNotT (cTest (cCall gAll (cCons (cL (cLc [3] (cItems (cVar 2)) (bName 3) cYes (cChain oLe oLt (cC (.int 0)) (cVar 3) (cCall gLen (cCons (cVar 0) cNil))))) cNil))) [some (.im (tW w)), some (.im (.int (c : Nat))), some (.im (tI (leanW w c))), d] = .ok (!((leanW w c).all fun x => decide (0 ≤ x) && decide (x < w.length))) := by
      exact not_ok (test_ok (all_lc D.int _ (leanW w c) rfl z fun x hx => ⟨_, rfl, chain_in (x := x) (w := w) rfl rfl 3 rfl⟩))
    rw [g_is_plain_l1, ev_seq, if_b _ t1]
    unfold okCol
    cases decide (leanW w c = setI (leanW w c)) && !decide ((c : Int) ∈ leanW w c) with
    | false => simp
    | true =>
      simp only [Bool.not_true, Bool.false_eq_true, if_false, ev_next, Fl.then, Bool.true_and]
      rw [if_b _ t2]
      cases (leanW w c).all fun x => decide (0 ≤ x) && decide (x < w.length) with
      | false => simp
      | true => exact ⟨_, rfl, _, _, _, rfl⟩)
  unfold F_is_plain
  rw [defF_ev]
  show flR (g_is_plain [some (.im (tW w)), none, none, none]) = _
  rw [g_is_plain, ev_seq, if_b _ hs]
  unfold plainW
  cases sizeW w with
  | false => rfl
  | true =>
    simp only [Bool.not_true, Bool.false_eq_true, if_false, ev_next, Fl.then, Bool.true_and]
    rw [zip_all w (okCol w)] at hloop
    rw [ev_seq, for_r (ds := (w.zipIdx 0).map fun p : List Int × Nat => D.tup [.int (p.2 : Nat), tI p.1]) (by simp) rfl]
    cases h : (List.range w.length).all (okCol w) with
    | false =>
      rw [h, if_neg Bool.false_ne_true] at hloop
      rw [hloop]
      rfl
    | true =>
      rw [h, if_pos rfl] at hloop
      obtain ⟨δ2, h1, h2⟩ := hloop
      rw [h1]
      rfl
end My
namespace My
open PySem L2 DV
/-! ### ring_of -/
abbrev sG (w : Web) (l : List Nat) (o2 o3 o4 o5 o6 o7 : Option O) : DS := [some (.im (tW w)), some (.od (kvW w l)), o2, o3, o4, o5, o6, o7, none, none]
abbrev looseC : DS → Res D := cLookD true 1 (cL (cLc [3] (cKeys (cVar 1)) (bName 3) (cNotT (cTest (cCall gAny (cCons (cL (cLc [9] (cItems (cBin oIxD (cVar 1) (cVar 3))) (bName 9) cYes (cBin (oInD false) (cVar 9) (cVar 1)))) cNil)))) (cVar 3)))
theorem lN_noDct (l : List Nat) : (lN l).noDct = true := by
  unfold lN
  rw [D.noDct]
  induction l with
  | nil => rfl
  | cons x l ih => simp only [List.map_cons, D.noDctA, ih]; rfl
theorem ixD_kv {w : Web} {l : List Nat} {c : Nat} (h : c ∈ l) : oIxD (.dlk (keysD (kvW w l)) (valsD (kvW w l))) (.v (.int (c : Int))) = .ok (tI (leanW w c)) := by
  unfold oIxD
  simp only [ev_dictL, ev_keyI, kv_val, inN_nat, decide_eq_true h, if_true, Int.toNat_natCast]
theorem inD_kv {w : Web} {l : List Nat} {x : Int} : oInD false (.v (.int x)) (.dlk (keysD (kvW w l)) (valsD (kvW w l))) = .ok (.bl (inN l x)) := by
  unfold oInD
  simp only [ev_dictL, ev_keyI, kv_val]
  cases inN l x <;> rfl
theorem ixD_kv' {w : Web} {l : List Nat} {c : Nat} (h : c ∈ l) : oIxD (.dct (keysD (kvW w l)) (valsD (kvW w l))) (.v (.int (c : Int))) = .ok (tI (leanW w c)) := by
  unfold oIxD
  simp only [ev_dict, ev_keyI, kv_val, inN_nat, decide_eq_true h, if_true, Int.toNat_natCast]
theorem inD_kv' {w : Web} {l : List Nat} {x : Int} : oInD false (.v (.int x)) (.dct (keysD (kvW w l)) (valsD (kvW w l))) = .ok (.bl (inN l x)) := by
  unfold oInD
  simp only [ev_dict, ev_keyI, kv_val]
  cases inN l x <;> rfl
theorem loose_ok {w : Web} {l : List Nat} {o2 o3 o4 o5 o6 o7 : Option O} (hz : l.length ≤ 1000) (hl : ∀ c, c < w.length → (leanW w c).length < 64) (hr : ∀ c ∈ l, c < w.length) : looseC (sG w l o2 o3 o4 o5 o6 o7) = .ok (lN (looseW w l)) := by
  rw [looseC, ev_lookD]
  simp only [sG, List.getElem?_cons_succ, List.getElem?_cons_zero, ev_fzD, List.set_cons_succ, List.set_cons_zero, if_true]
  have := lc_keep (δ := [some (.im (tW w)), some (.im (.dlk (keysD (kvW w l)) (valsD (kvW w l)))), o2, o3, o4, o5, o6, o7, none, none]) (vs := [3]) (fi := cKeys (cVar 1)) (b := bName 3) (t := cNotT (cTest (cCall gAny (cCons (cL (cLc [9] (cItems (cBin oIxD (cVar 1) (cVar 3))) (bName 9) cYes (cBin (oInD false) (cVar 9) (cVar 1)))) cNil)))) (e := cVar 3)
    (fun (c : Nat) => D.int (c : Int)) (fun c => !(leanW w c).any (inN l)) (fun (c : Nat) => D.int (c : Int)) l (by rw [← kv_keys w]; exact ev_itemsK) (small_z hz) (fun c hc => by
      refine ⟨_, rfl, not_ok (test_ok (any_lc D.int _ (leanW w c) ?_ (small_z (by have := hl c (hr c hc); omega)) fun x hx => ⟨_, rfl, ?_⟩)), fun _ => rfl⟩
      · simp [ixD_kv hc]
      · simp [inD_kv])
  rw [ev_L, this, Res.bind_ok, ev_noDct]
  have e := lN_noDct (looseW w l)
  rw [lN_map] at e
  rw [lN_map]
  exact if_pos e
theorem pops {w : Web} {o2 o4 o5 o6 o7 : Option O} : ∀ (ls l : List Nat) (o3 : Option O), ls.Nodup → (∀ c ∈ ls, c ∈ l) →
    ∃ o3', forF (bName 3) g_ring_of_l1 (ls.map fun (c : Nat) => D.int (c : Int)) (sG w l o2 o3 o4 o5 o6 o7) = .nx (sG w (l.filter fun c => !decide (c ∈ ls)) o2 o3' o4 o5 o6 o7)
  | [], l, o3, _, _ => ⟨o3, by
      have : (l.filter fun c => !decide (c ∈ ([] : List Nat))) = l := List.filter_eq_self.mpr fun c _ => by simp
      rw [this]
      rfl⟩
  | c :: ls, l, o3, hn, hm => by
    obtain ⟨n1, n2⟩ := List.nodup_cons.mp hn
    obtain ⟨o3', ih⟩ := pops (w := w) (o2 := o2) (o4 := o4) (o5 := o5) (o6 := o6) (o7 := o7) ls (l.filter fun d => !decide (d = c)) (some (.im (.int (c : Int)))) n2 (fun d hd => List.mem_filter.mpr ⟨hm d (by simp [hd]), by
      have : d ≠ c := fun z => n1 (z ▸ hd)
      simpa using this⟩)
    refine ⟨o3', ?_⟩
    rw [List.map_cons, forF]
    have hb : bName 3 (D.int (c : Int)) (sG w l o2 o3 o4 o5 o6 o7) = some (sG w l o2 (some (.im (.int (c : Int)))) o4 o5 o6 o7) := rfl
    have hv : (valD (kvW w l) (.inl (c : Int))).isSome = true := by simp [kv_val, hm c (by simp)]
    have hg : g_ring_of_l1 (sG w l o2 (some (.im (.int (c : Int)))) o4 o5 o6 o7) = .nx (sG w (l.filter fun d => !decide (d = c)) o2 (some (.im (.int (c : Int)))) o4 o5 o6 o7) := by
      simp only [g_ring_of_l1, ev_popD, sG, List.getElem?_cons_succ, List.getElem?_cons_zero, ev_var, stE_ok, D.int, ev_keyI, hv, if_true, kv_drop, List.set_cons_succ, List.set_cons_zero]
    rw [hb]
    dsimp only
    rw [hg]
    dsimp only
    rw [ih, List.filter_filter]
    have : (l.filter fun a => !decide (a ∈ ls) && !decide (a = c)) = l.filter fun d => !decide (d ∈ c :: ls) := List.filter_congr fun d _ => by
      by_cases h : d = c <;> simp [h]
    rw [this]
theorem wh_turn {t : DS → Res Bool} {g : DS → Fl} {n : Nat} {δ δ' : DS} (ht : t δ = .ok true) (hg : g δ = .nx δ') : whileF t g (n + 1) δ = whileF t g n δ' := by
  rw [whileF, ht]
  dsimp only
  rw [hg]
theorem wh_ret {t : DS → Res Bool} {g : DS → Fl} {n : Nat} {δ : DS} {d : D} (ht : t δ = .ok true) (hg : g δ = .rt d) : whileF t g (n + 1) δ = .rt d := by
  rw [whileF, ht]
  dsimp only
  rw [hg]
theorem wh_end {t : DS → Res Bool} {g : DS → Fl} {n : Nat} {δ : DS} (ht : t δ = .ok false) : whileF t g (n + 1) δ = .nx δ := by
  rw [whileF, ht]
theorem plain_small {w : Web} (h : plainW w = true) : 1 ≤ w.length ∧ w.length ≤ 6 := by
  have := (Bool.and_eq_true _ _ ▸ h).1
  simpa [sizeW] using this
theorem elim_ok {w : Web} (h : plainW w = true) (hl : ∀ c, c < w.length → (leanW w c).length < 64) {o4 o5 o6 o7 : Option O} : ∀ (k t : Nat) (o3 : Option O), (∀ s, s < t → looseW w (leftW w s) ≠ []) → w.length < k + t →
    ∃ T o3', T ≤ w.length ∧ looseW w (leftW w T) = [] ∧ whileF (cTest (cBin oNe (cVar 2) (cL cNil))) g_ring_of_l2 k (sG w (leftW w t) (some (.im (lN (looseW w (leftW w t))))) o3 o4 o5 o6 o7) = .nx (sG w (leftW w T) (some (.im (lN []))) o3' o4 o5 o6 o7)
  | 0, t, o3, hs, hk => by
    have := left_len h t hs
    omega
  | k + 1, t, o3, hs, hk => by
    have hlen := left_len h t hs
    have hsm := plain_small h
    have htest : cTest (cBin oNe (cVar 2) (cL cNil)) (sG w (leftW w t) (some (.im (lN (looseW w (leftW w t))))) o3 o4 o5 o6 o7) = .ok (!decide (looseW w (leftW w t) = [])) := by
      have e := eqL_ints (neg := true) ((looseW w (leftW w t)).map fun (c : Nat) => (c : Int)) []
      simp only [List.map_nil, List.map_eq_nil_iff, if_true] at e
      simp only [ev_test, ev_bin, ev_var, sG, List.getElem?_cons_succ, List.getElem?_cons_zero, Res.bind_ok, ev_L, ev_nil]
      rw [show oNe (lN (looseW w (leftW w t))) (.lst []) = _ from e]
      rfl
    by_cases hn : looseW w (leftW w t) = []
    · refine ⟨t, o3, by omega, hn, ?_⟩
      rw [wh_end (by rw [htest, hn]; rfl), hn]
    · obtain ⟨o3', hp⟩ := pops (w := w) (o2 := some (.im (lN (looseW w (leftW w t))))) (o4 := o4) (o5 := o5) (o6 := o6) (o7 := o7) (looseW w (leftW w t)) (leftW w t) o3 (List.Nodup.sublist List.filter_sublist (left_nodup w t)) (fun c hc => (List.mem_filter.mp hc).1)
      rw [left_step h t] at hp
      obtain ⟨T, o3'', h1, h2, h3⟩ := elim_ok h hl (o4 := o4) (o5 := o5) (o6 := o6) (o7 := o7) k (t + 1) o3' (fun s hs' => by
        by_cases e : s = t
        · rw [e]; exact hn
        · exact hs s (by omega)) (by omega)
      refine ⟨T, o3'', h1, h2, ?_⟩
      rw [← h3]
      refine wh_turn (by rw [htest, decide_eq_false hn]; rfl) ?_
      have hl1 : (leftW w (t + 1)).length ≤ 1000 := by
        have := List.length_filter_le (fun c => !decide (c ∈ placedW w (t + 1))) (List.range w.length)
        rw [List.length_range] at this
        exact Nat.le_trans this (by omega)
      exact seq_nx (for_r (ds := (looseW w (leftW w t)).map fun (c : Nat) => D.int (c : Int)) (by simp) hp) (asg_nx (loose_ok hl1 hl fun c hc => (left_mem.mp hc).1))
/-- the walk finds a ring -/
theorem idx_lt {l : List Int} {x : Int} (h : x ∈ l) : l.idxOf x < l.length := List.idxOf_lt_length_of_mem h
theorem nat_ints (l : List Nat) : (l.map fun (k : Nat) => D.int (k : Int)) = (l.map fun (k : Nat) => (k : Int)).map D.int := by simp
theorem gMin_ints {x : Int} {l : List Int} : gMin [.lst ((x :: l).map D.int)] = .ok (.int (minI x l)) := by
  unfold gMin gInts
  simp only [intsD_map]
theorem ring_end {w : Web} {F wk : List Nat} {a : Nat} {o2 o3 o6 o7 : Option O} (hw : wk.length ≤ 1000) (ha : a ∈ wk) : ∃ r : List Int, (cSeq (cFz 4 (cAsg 6 (cUn oRev (cSl (cVar 4) (cSome (cIndex (cVar 4) (cVar 5))) cNone))))
  (cSeq (cAsg 7 (cIndex (cVar 6) (cCall gMin (cCons (cVar 6) cNil))))
  (cRet (cCall gTuple (cCons (cBin oAdd (cSl (cVar 6) (cSome (cVar 7)) cNone) (cSl (cVar 6) cNone (cSome (cVar 7)))) cNil))))) (sG w F o2 o3 (some (.ow (wk.map fun (k : Nat) => D.int (k : Int)))) (some (.im (.int (a : Int)))) o6 o7) = .rt (tI r) := by
  generalize hW : (wk.map fun (k : Nat) => (k : Int)) = W
  have haW : (a : Int) ∈ W := by rw [← hW]; exact List.mem_map.mpr ⟨a, ha, rfl⟩
  have hWl : W.length ≤ 1000 := by rw [← hW]; simpa using hw
  have hix := oIndex_int haW
  rw [nat_ints, hW]
  have hi := idx_lt haW
  have hcut : cutD (W.map D.int) (some (W.idxOf (a : Int) : Nat)) none = (W.drop (W.idxOf (a : Int))).map D.int := by
    rw [cutD_map, HT.sIx_nat]
    show List.map D.int (List.take (W.length - _) _) = _
    rw [Nat.min_eq_left (by omega), List.take_of_length_le (by rw [List.length_drop]; exact Nat.le_refl _)]
  generalize hR : (W.drop (W.idxOf (a : Int))).reverse = R
  have hRl : R.length ≤ 1000 := by rw [← hR]; simp; omega
  have hR0 : 0 < R.length := by rw [← hR]; simp; omega
  obtain ⟨x, R', e⟩ : ∃ x R', R = x :: R' := by
    cases R with
    | nil => simp at hR0
    | cons x R' => exact ⟨x, R', rfl⟩
  have hmin : gMin [.lst (R.map D.int)] = .ok (.int (minI x R')) := by rw [e]; exact gMin_ints
  have hmem : minI x R' ∈ R := by rw [e]; exact (minI_spec R' x).1
  have hix2 := oIndex_int hmem
  have s1 : cutD (R.map D.int) (some (R.idxOf (minI x R') : Nat)) none = (R.drop (R.idxOf (minI x R'))).map D.int := by
    rw [cutD_map, HT.sIx_nat]
    show List.map D.int (List.take (R.length - _) _) = _
    have := idx_lt hmem
    rw [Nat.min_eq_left (by omega), List.take_of_length_le (by rw [List.length_drop]; exact Nat.le_refl _)]
  have s2 : cutD (R.map D.int) none (some (R.idxOf (minI x R') : Nat)) = (R.take (R.idxOf (minI x R'))).map D.int := by
    rw [cutD_map, HT.sIx_nat]
    have := idx_lt hmem
    rw [Nat.min_eq_left (by omega)]
    rfl
  have hadd : oAdd (.lst ((R.drop (R.idxOf (minI x R'))).map D.int)) (.lst ((R.take (R.idxOf (minI x R'))).map D.int)) = .ok (.lst (((R.drop (R.idxOf (minI x R'))) ++ (R.take (R.idxOf (minI x R')))).map D.int)) := by
    unfold oAdd
    dsimp only
    rw [if_pos (small_z (by simp; omega)), List.map_append]
  refine ⟨R.drop (R.idxOf (minI x R')) ++ R.take (R.idxOf (minI x R')), ?_⟩
  have a1 : cFz 4 (cAsg 6 (cUn oRev (cSl (cVar 4) (cSome (cIndex (cVar 4) (cVar 5))) cNone))) (sG w F o2 o3 (some (.ow (W.map D.int))) (some (.im (.int (a : Int)))) o6 o7) = .nx (sG w F o2 o3 (some (.im (.lst (W.map D.int)))) (some (.im (.int (a : Int)))) (some (.im (.lst (R.map D.int)))) o7) := by
    simp only [ev_cfz, ev_fz, sG, List.getElem?_cons_succ, List.getElem?_cons_zero, List.set_cons_succ, List.set_cons_zero]
    refine asg_nx ?_
    simp only [ev_un, ev_sl, ev_var, ev_some, ev_index, ev_none, List.getElem?_cons_succ, List.getElem?_cons_zero, Res.bind_ok, D.int, Res.calm_ok, hix]
    simp only [D.int, ev_asI, Res.bind_ok, ev_sll, hcut, ev_revl, ← List.map_reverse, hR]
  have a2 : cAsg 7 (cIndex (cVar 6) (cCall gMin (cCons (cVar 6) cNil))) (sG w F o2 o3 (some (.im (.lst (W.map D.int)))) (some (.im (.int (a : Int)))) (some (.im (.lst (R.map D.int)))) o7) = .nx (sG w F o2 o3 (some (.im (.lst (W.map D.int)))) (some (.im (.int (a : Int)))) (some (.im (.lst (R.map D.int)))) (some (.im (.int (R.idxOf (minI x R') : Nat))))) := by
    refine asg_nx ?_
    simp only [ev_index, ev_var, ev_call, ev_cons, ev_nil, sG, List.getElem?_cons_succ, List.getElem?_cons_zero, Res.bind_ok, hmin, Res.calm_ok]
    simp only [D.int, hix2]
  rw [seq_nx a1 (seq_nx a2 (ret_rt (d := tI _) ?_))]
  simp only [ev_call, ev_cons, ev_bin, ev_sl, ev_var, ev_nil, ev_none, ev_some, sG, List.getElem?_cons_succ, List.getElem?_cons_zero, Res.bind_ok, D.int, ev_asI, ev_sll, s1, s2, hadd]
  exact tI_of _
theorem ahead_of {w : Web} (h : plainW w = true) {F : List Nat} (hF : looseW w F = []) (hr : ∀ c ∈ F, c < w.length) {c : Nat} (hc : c ∈ F) : ∃ (a : Nat) (rest : List Int), (leanW w c).filter (inN F) = (a : Int) :: rest ∧ a ∈ F := by
  have : c ∉ looseW w F := by rw [hF]; exact fun z => by cases z
  have h2 : (leanW w c).any (inN F) = true := by
    cases e : (leanW w c).any (inN F) with
    | true => rfl
    | false => exact absurd (List.mem_filter.mpr ⟨hc, by rw [e]; rfl⟩) this
  obtain ⟨x, hx, hi⟩ := List.any_eq_true.mp h2
  cases e : (leanW w c).filter (inN F) with
  | nil => exact absurd (List.filter_eq_nil_iff.mp e x hx) (by simp [hi])
  | cons y ys =>
    have hy : y ∈ (leanW w c).filter (inN F) := by rw [e]; simp
    obtain ⟨h3, h4⟩ := List.mem_filter.mp hy
    obtain ⟨k, rfl, _⟩ := range_of h (hr c hc) h3
    exact ⟨k, ys, rfl, by simpa using h4⟩
theorem oIx_0 {d : D} {ds : List D} : oIx (.lst (d :: ds)) (.v (.int 0)) = .ok d := by
  simp [oIx, atI, ixN]
theorem int_noDct (x : V) : (D.v x).noDct = true := rfl
theorem walk_ok {w : Web} (h : plainW w = true) (hl : ∀ c, c < w.length → (leanW w c).length < 64) {F : List Nat} (hF : looseW w F = []) (hr : ∀ c ∈ F, c < w.length) {o2 o3 o6 o7 : Option O} : ∀ (k : Nat) (wk : List Nat) (c : Nat) (o5 : Option O), (wk ++ [c]).Nodup → (∀ d ∈ wk ++ [c], d ∈ F) → w.length < k + (wk.length + 1) →
    ∃ r : List Int, whileF (cTest (cC (.bl true))) g_ring_of_l3 k (sG w F o2 o3 (some (.ow ((wk ++ [c]).map fun (k : Nat) => D.int (k : Int)))) o5 o6 o7) = .rt (tI r)
  | 0, wk, c, o5, hn, hm, hk => by
    have sub : (wk ++ [c]) ⊆ List.range w.length := fun d hd => List.mem_range.mpr (hr d (hm d hd))
    have := List.Nodup.length_le_of_subset hn sub
    simp at this
    omega
  | k + 1, wk, c, o5, hn, hm, hk => by
    have sub : (wk ++ [c]) ⊆ List.range w.length := fun d hd => List.mem_range.mpr (hr d (hm d hd))
    have hlen := List.Nodup.length_le_of_subset hn sub
    simp only [List.length_append, List.length_cons, List.length_nil, List.length_range] at hlen
    have hsm := plain_small h
    have hcF := hm c (by simp)
    obtain ⟨a, rest, ha, haF⟩ := ahead_of h hF hr hcF
    have hlc := lc_keep (δ := [some (.im (tW w)), some (.im (.dct (keysD (kvW w F)) (valsD (kvW w F)))), o2, o3, some (.im (.lst ((wk ++ [c]).map fun (k : Nat) => D.int (k : Int)))), o5, o6, o7, none, none]) (vs := [9]) (fi := cItems (cBin oIxD (cVar 1) (cBin oIx (cVar 4) (cUn oNeg (cC (.int 1)))))) (b := bName 9) (t := cTest (cBin (oInD false) (cVar 9) (cVar 1))) (e := cVar 9)
      D.int (inN F) D.int (leanW w c) (by
        have e1 : atI ((wk ++ [c]).map fun (k : Nat) => D.int (k : Int)) (-1) = some (D.int (c : Int)) := by
          unfold atI ixN
          have : (1 : Int) ≤ (wk.length : Nat) + 1 := by omega
          simp [this]
          rw [show (-1 + ((wk.length : Int) + 1)).toNat = wk.length by omega]
          simp
        simp only [ev_items, ev_bin, ev_var, ev_un, ev_c, List.getElem?_cons_succ, List.getElem?_cons_zero, Res.bind_ok, D.int, ev_neg]
        unfold oIx
        simp only [e1, D.int, Res.bind_ok, ixD_kv' hcF, tI_items]) (small_z (by have := hl c (hr c hcF); omega)) (fun x hx => ⟨_, rfl, test_ok (by simp [inD_kv']), fun _ => rfl⟩)
    have a1 : cAsg 5 (cLookD false 1 (cLookL 4 (cBin oIx (cL (cLc [9] (cItems (cBin oIxD (cVar 1) (cBin oIx (cVar 4) (cUn oNeg (cC (.int 1)))))) (bName 9) (cTest (cBin (oInD false) (cVar 9) (cVar 1))) (cVar 9))) (cC (.int 0))))) (sG w F o2 o3 (some (.ow ((wk ++ [c]).map fun (k : Nat) => D.int (k : Int)))) o5 o6 o7) = .nx (sG w F o2 o3 (some (.ow ((wk ++ [c]).map fun (k : Nat) => D.int (k : Int)))) (some (.im (.int (a : Int)))) o6 o7) := by
      refine asg_nx ?_
      rw [ev_lookD]
      simp only [sG, List.getElem?_cons_succ, List.getElem?_cons_zero, ev_fzD, List.set_cons_succ, List.set_cons_zero, Bool.false_eq_true, if_false, ev_lookL, ev_fzL, ev_fz]
      rw [ev_bin, ev_L, hlc, ha]
      simp only [Res.bind_ok, ev_c, List.map_cons, D.int, oIx_0, ev_noLst, D.noLst, if_true, ev_noDct, D.noDct]
    have hin : cLookT 4 (cTest (cBin (oInA false) (cVar 5) (cVar 4))) (sG w F o2 o3 (some (.ow ((wk ++ [c]).map fun (k : Nat) => D.int (k : Int)))) (some (.im (.int (a : Int)))) o6 o7) = .ok (decide (a ∈ wk ++ [c])) := by
      have e := lN_in (neg := false) (a : Int) (wk ++ [c])
      rw [inN_nat, lN_map] at e
      simp only [ev_lookT, ev_test, ev_bin, ev_var, ev_fz, sG, List.getElem?_cons_succ, List.getElem?_cons_zero, List.set_cons_succ, List.set_cons_zero, Res.bind_ok, D.int] at e ⊢
      rw [e]
      rfl
    by_cases hw : a ∈ wk ++ [c]
    · obtain ⟨r, hr'⟩ := ring_end (w := w) (F := F) (wk := wk ++ [c]) (a := a) (o2 := o2) (o3 := o3) (o6 := o6) (o7 := o7) (by simp; omega) hw
      refine ⟨r, wh_ret rfl ?_⟩
      rw [g_ring_of_l3, seq_nx a1 (seq_rt (d := tI r) ?_)]
      rw [if_b _ hin, decide_eq_true hw, if_pos rfl]
      exact hr'
    · obtain ⟨r, ih⟩ := walk_ok h hl hF hr (o2 := o2) (o3 := o3) (o6 := o6) (o7 := o7) k (wk ++ [c]) a (some (.im (.int (a : Int)))) (by
        rw [List.nodup_append]
        exact ⟨hn, by simp, fun x hx y hy z => by simp at hy; subst hy; subst z; exact hw hx⟩) (fun d hd => by
        rcases List.mem_append.mp hd with q | q
        · exact hm d q
        · simp at q; rw [q]; exact haF) (by simp; omega)
      refine ⟨r, ?_⟩
      rw [← ih]
      refine wh_turn rfl ?_
      rw [g_ring_of_l3, seq_nx a1 (seq_nx (δ' := sG w F o2 o3 (some (.ow ((wk ++ [c]).map fun (k : Nat) => D.int (k : Int)))) (some (.im (.int (a : Int)))) o6 o7) ?_ rfl)]
      · have hz : ((wk ++ [c]).map fun (k : Nat) => D.int (k : Int)).length < sizeLine := by
          refine Nat.lt_of_lt_of_le (m := 1000) ?_ (by decide)
          simp
          omega
        simp only [List.map_append, List.map_cons, List.map_nil] at hz
        simp only [ev_app, sG, List.getElem?_cons_succ, List.getElem?_cons_zero, ev_var, stE_ok, if_pos hz, List.set_cons_succ, List.set_cons_zero, List.map_append, List.map_cons, List.map_nil]
      · rw [if_b _ hin, decide_eq_false hw, if_neg Bool.false_ne_true]
        rfl
theorem ring_ok {w : Web} (h : plainW w = true) (hl : ∀ l ∈ w, l.length < 64) : ∃ d, F_ring_of [tW w] = .ok d ∧ (if ringlessW w then d = .non else ∃ r, d = tI r) := by
  have hl' : ∀ c, c < w.length → (leanW w c).length < 64 := fun c hc => hl _ (mem_lean hc)
  have hsm := plain_small h
  have e0 : leftW w 0 = List.range w.length := by
    unfold leftW
    exact List.filter_eq_self.mpr fun c _ => by simp [placedW]
  have d1 : cOwnD 1 (cDc [3, 8] (cIt gEnum (cCons (cVar 0) cNil)) (bTup 2 (bCons (bName 3) (bCons (bName 8) bNil))) cYes (cVar 3) (cVar 8)) [some (.im (tW w)), none, none, none, none, none, none, none, none, none] = .nx (sG w (leftW w 0) none none none none none none) := by
    have q := dcF_enum (δ := [some (.im (tW w)), none, none, none, none, none, none, none, none, none]) (a := 3) (b := 8) (t := cYes) (ek := cVar 3) (ev := cVar 8) (fun l i => ⟨rfl, rfl, rfl⟩) w 0 [] (fun p hp => by cases hp) (by simp; omega)
    rw [List.nil_append, kv_zip, ← e0] at q
    rw [ev_ownD, cDc]
    simp only [ev_it, ev_cons, ev_var, ev_nil, List.getElem?_cons_zero, Res.bind_ok, tW_enum, ev_wipe1, ev_wipe0, List.set_cons_succ, List.set_cons_zero, q, stE_ok]
  have hll : (leftW w 0).length ≤ 1000 := by rw [e0, List.length_range]; omega
  have d2 := asg_nx (i := 2) (loose_ok (w := w) (l := leftW w 0) (o2 := none) (o3 := none) (o4 := none) (o5 := none) (o6 := none) (o7 := none) hll hl' (fun c hc => (left_mem.mp hc).1))
  obtain ⟨T, o3, hT, hF, hwh⟩ := elim_ok h hl' (o4 := none) (o5 := none) (o6 := none) (o7 := none) 10 0 none (fun s hs => absurd hs (Nat.not_lt_zero _)) (by omega)
  have hring := ringless_iff h hT hF
  have d3 : cIf (cLookTD 1 (cTest (cBin oEqD0 (cVar 1) (cDn (fun _ => .ok []))))) (cRet (cC .non)) cNext (sG w (leftW w T) (some (.im (lN []))) o3 none none none none) = if ringlessW w = true then .rt .non else .nx (sG w (leftW w T) (some (.im (lN []))) o3 none none none none) := by
    refine (if_b (ringlessW w) ?_).trans rfl
    rw [hring, ev_lookTD]
    simp only [sG, List.getElem?_cons_succ, List.getElem?_cons_zero, ev_fzD, List.set_cons_succ, List.set_cons_zero, Bool.false_eq_true, if_false, ev_test, ev_bin, ev_var, Res.bind_ok, ev_dn]
    unfold oEqD0
    have kl : (kvW w (leftW w T)).length = (leftW w T).length := by simp [kvW]
    simp only [backK_of, List.length_nil, kl]
    by_cases hn : leftW w T = []
    · rw [hn]; rfl
    · have hn' : ¬ (leftW w T).length = 0 := fun z => hn (List.eq_nil_of_length_eq_zero z)
      simp [hn, hn']
  unfold F_ring_of
  rw [defF_ev]
  show ∃ d, flR (g_ring_of [some (.im (tW w)), none, none, none, none, none, none, none, none, none]) = .ok d ∧ _
  have start : ∀ r, (cSeq (cIf (cLookTD 1 (cTest (cBin oEqD0 (cVar 1) (cDn (fun _ => .ok []))))) (cRet (cC .non)) cNext)
      (cSeq (cOwn 4 (cCons (cLookD false 1 (cCall gMinD (cCons (cVar 1) cNil))) cNil))
      (cWhile (fun _ => 10) (cTest (cC (.bl true))) g_ring_of_l3))) (sG w (leftW w T) (some (.im (lN []))) o3 none none none none) = r → g_ring_of [some (.im (tW w)), none, none, none, none, none, none, none, none, none] = r := fun r hr => by
    unfold g_ring_of
    exact seq_nx d1 (seq_nx d2 (seq_nx hwh hr))
  cases hrl : ringlessW w with
  | true =>
    rw [hrl, if_pos rfl] at d3
    rw [start _ (seq_rt d3)]
    exact ⟨_, rfl, rfl⟩
  | false =>
    rw [hrl, if_neg Bool.false_ne_true] at d3
    rw [hrl] at hring
    obtain ⟨c, cs, ec⟩ : ∃ c cs, leftW w T = c :: cs := by
      cases e : leftW w T with
      | nil => rw [e] at hring; simp at hring
      | cons c cs => exact ⟨c, cs, rfl⟩
    have ik : ∀ l : List Nat, intKeys (kvW w l) = some (l.map fun (k : Nat) => (k : Int)) := fun l => by
      induction l with
      | nil => rfl
      | cons x l ih =>
        unfold kvW at *
        rw [List.map_cons, intKeys, ih]
        rfl
    have hmi := minI_spec (cs.map fun (k : Nat) => (k : Int)) (c : Int)
    obtain ⟨m, hmm, em⟩ : ∃ m ∈ leftW w T, minI (c : Int) (cs.map fun (k : Nat) => (k : Int)) = (m : Int) := by
      have := hmi.1
      rw [← List.map_cons, ← ec] at this
      obtain ⟨m, h1, h2⟩ := List.mem_map.mp this
      exact ⟨m, h1, h2.symm⟩
    have d4 : cOwn 4 (cCons (cLookD false 1 (cCall gMinD (cCons (cVar 1) cNil))) cNil) (sG w (leftW w T) (some (.im (lN []))) o3 none none none none) = .nx (sG w (leftW w T) (some (.im (lN []))) o3 (some (.ow (([] ++ [m]).map fun (k : Nat) => D.int (k : Int)))) none none none) := by
      refine own_nx ?_
      rw [ev_cons, ev_lookD]
      simp only [sG, List.getElem?_cons_succ, List.getElem?_cons_zero, ev_fzD, List.set_cons_succ, List.set_cons_zero, Bool.false_eq_true, if_false, ev_call, ev_cons, ev_var, ev_nil, Res.bind_ok]
      unfold gMinD
      simp only [backK_of, ik, ec, List.map_cons, em]
      rfl
    obtain ⟨r, hw⟩ := walk_ok h hl' hF (fun c hc => (left_mem.mp hc).1) (o2 := some (.im (lN []))) (o3 := o3) (o6 := none) (o7 := none) 10 [] m none (by simp) (fun d hd => by simp at hd; rw [hd]; exact hmm) (by simp; omega)
    rw [start _ (seq_nx d3 (seq_nx d4 hw))]
    exact ⟨_, rfl, r, rfl⟩
end My
namespace My
open PySem L2 DV
/-! ### the law's webs -/
theorem digs_nonneg : ∀ (ss : List Int) (m : Int), (∀ s ∈ ss, 0 < s) → ∀ d ∈ digs m ss, 0 ≤ d
  | [], _, _, d, hd => by simp [digs] at hd
  | s :: ss, m, hs, d, hd => by
    rcases List.mem_cons.mp hd with rfl | hd
    · exact Int.emod_nonneg _ (by have := hs s (by simp); omega)
    · exact digs_nonneg ss _ (fun x hx => hs x (by simp [hx])) d hd
def tri : Nat → Nat
  | 0 => 0
  | k + 1 => tri k + k
theorem tri_le : ∀ k, k < 6 → tri k + k ≤ 15 := by decide
theorem ix_ints {l : List Int} {i : Nat} (h : i < l.length) : oIx (.lst (l.map D.int)) (.v (.int (i : Int))) = .ok (.int l[i]) := by
  unfold oIx
  dsimp only
  rw [at_nat, List.getElem?_map, List.getElem?_eq_getElem h]
  rfl
theorem ix_nats {l : List Nat} {i : Nat} (h : i < l.length) : oIx (.lst (l.map fun (k : Nat) => D.int (k : Int))) (.v (.int (i : Int))) = .ok (.int (l[i] : Nat)) := by
  unfold oIx
  dsimp only
  rw [at_nat, List.getElem?_map, List.getElem?_eq_getElem h]
  rfl
theorem erase_map {α β : Type} (f : α → β) : ∀ (l : List α) (i : Nat), (l.map f).eraseIdx i = (l.eraseIdx i).map f
  | [], i => rfl
  | x :: l, 0 => rfl
  | x :: l, i + 1 => by simp [erase_map f l i]
abbrev nD (l : List Nat) : List D := l.map fun (k : Nat) => D.int (k : Int)
abbrev sW (c : Int) (n : Nat) (ds : List Int) (left line : List Nat) (o5 : Option O) (o6 o7 o8 o9 : Option O) : DS := [some (.im (.int c)), some (.im (.int (n : Int))), some (.im (.lst (ds.map D.int))), some (.ow (nD left)), some (.ow (nD line)), o5, o6, o7, o8, o9]
theorem web_line {c : Int} {n : Nat} {ds : List Int} (hn : n ≤ 6) (hd : ds.length = 21) (h0 : ∀ d ∈ ds, 0 ≤ d) {o6 o7 o8 o9 : Option O} :
    ∃ δ2, cFor (cIt gRange1 (cCons (cVar 1) cNil)) (bName 5) g__law_web_l1 (sW c n ds (List.range n) [] none o6 o7 o8 o9) = .nx δ2 ∧ ∃ left line o5, δ2 = sW c n ds left line o5 o6 o7 o8 o9 ∧ line.length = n ∧ line.Nodup ∧ ∀ d ∈ line, d < n := by
  obtain ⟨δ2, h1, left, line, o5, rfl, h3, h4⟩ := for_range (fun i δ => ∃ left line o5, δ = sW c n ds left line o5 o6 o7 o8 o9 ∧ line.length = i ∧ (line ++ left).Perm (List.range n)) (b := bName 5) (g := g__law_web_l1) (n := n) (fi := cIt gRange1 (cCons (cVar 1) cNil)) (δ := sW c n ds (List.range n) [] none o6 o7 o8 o9)
    (by
      simp only [ev_it, ev_cons, ev_var, ev_nil, sW, List.getElem?_cons_succ, List.getElem?_cons_zero, Res.bind_ok]
      exact gRange1_nat (small_z (by omega)))
    ⟨_, _, _, rfl, rfl, by simp⟩ (by
      rintro i δ hi ⟨left, line, o5, rfl, hl, hp⟩
      have hll : left.length = n - i := by
        have := hp.length_eq
        simp at this
        omega
      have hid : i < ds.length := by omega
      have hm : oMod (.int ds[i]) (.int (left.length : Nat)) = .ok (.int (ds[i] % (left.length : Nat))) := oMod_pos (by omega)
      have hq0 := Int.emod_nonneg ds[i] (b := ((left.length : Nat) : Int)) (by omega)
      have hq1 := Int.emod_lt_of_pos ds[i] (b := ((left.length : Nat) : Int)) (by omega)
      generalize hq : ds[i] % ((left.length : Nat) : Int) = q at hm hq0 hq1
      obtain ⟨r, rfl⟩ : ∃ r : Nat, q = (r : Int) := ⟨q.toNat, by omega⟩
      have hr : r < left.length := by omega
      have hf : cLook 3 (cBin oMod (cBin oIx (cVar 2) (cVar 5)) (cCall gLen (cCons (cVar 3) cNil))) (sW c n ds left line (some (.im (.int (0 + (i : Int))))) o6 o7 o8 o9) = .ok (.int (r : Int)) := by
        simp only [ev_look, ev_fz, sW, List.getElem?_cons_succ, List.getElem?_cons_zero, List.set_cons_succ, List.set_cons_zero, ev_bin, ev_var, ev_call, ev_cons, ev_nil, Res.bind_ok, Int.zero_add, D.int, ix_ints hid, ev_lenl, List.length_map] at hm ⊢
        rw [hm]
        rfl
      refine ⟨_, sW c n ds (left.eraseIdx r) (line ++ [left[r]]) (some (.im (.int (0 + (i : Int))))) o6 o7 o8 o9, rfl, ?_, _, _, _, rfl, by simp [hl], ?_⟩
      · show cAppPop 4 3 _ (sW c n ds left line (some (.im (.int (0 + (i : Int))))) o6 o7 o8 o9) = _
        rw [ev_appPop, hf]
        have c1 : (0 : Int) ≤ (r : Int) ∧ (r : Int) < ((nD left).length : Nat) ∧ (r : Int).natAbs ≤ 1000000 ∧ (nD line).length < sizeLine := by
          refine ⟨by omega, by simp; omega, by omega, ?_⟩
          refine Nat.lt_of_lt_of_le (m := 1000) ?_ (by decide)
          simp
          omega
        simp only [sW, List.getElem?_cons_succ, List.getElem?_cons_zero, Res.calm_ok, stE_ok, D.int, if_pos c1, Int.toNat_natCast, nD, List.getElem?_map, List.getElem?_eq_getElem hr, Option.map_some, List.set_cons_succ, List.set_cons_zero, List.map_append, List.map_cons, List.map_nil, erase_map]
      · rw [List.append_assoc]
        refine List.Perm.trans ?_ hp
        exact List.Perm.append_left _ (erase_perm left r hr))
  refine ⟨_, h1, left, line, o5, rfl, h3, ?_, fun d hd => ?_⟩
  · exact (List.nodup_append.mp (h4.nodup_iff.mpr List.nodup_range)).1
  · exact List.mem_range.mp (h4.mem_iff.mp (List.mem_append_left _ hd))
theorem web_leans {c : Int} {n k a : Nat} {ds : List Int} {left line : List Nat} {o6 : Option O} (hk : k < line.length) (hl6 : line.length ≤ 6) (ha : a + k ≤ ds.length) {o9 : Option O} :
    ∃ δ2, cFor (cIt gRange1 (cCons (cVar 5) cNil)) (bName 9) g__law_web_l2 (sW c n ds left line (some (.im (.int (0 + (k : Int))))) o6 (some (.im (.int (a : Int)))) (some (.ow (nD []))) o9) = .nx δ2 ∧ ∃ s o9', δ2 = sW c n ds left line (some (.im (.int (0 + (k : Int))))) o6 (some (.im (.int (a : Int)))) (some (.ow (nD s))) o9' ∧ s.Sublist (line.take k) := by
  refine for_range (n := k) (fun j δ => ∃ s o9', δ = sW c n ds left line (some (.im (.int (0 + (k : Int))))) o6 (some (.im (.int (a : Int)))) (some (.ow (nD s))) o9' ∧ s.Sublist (line.take j)) (by
      simp only [ev_it, ev_cons, ev_var, ev_nil, sW, List.getElem?_cons_succ, List.getElem?_cons_zero, Res.bind_ok]
      rw [Int.zero_add]
      exact gRange1_nat (n := k) (small_z (by omega))) ⟨_, _, rfl, by simp⟩ ?_
  rintro j δ hj ⟨s, o9', rfl, hs⟩
  have hjl : j < line.length := by omega
  have hjd : a + j < ds.length := by omega
  have ht : cTest (cBin oGt (cBin oIx (cVar 2) (cBin oAdd (cVar 7) (cVar 9))) (cC (.int 0))) (sW c n ds left line (some (.im (.int (0 + (k : Int))))) o6 (some (.im (.int (a : Int)))) (some (.ow (nD s))) (some (.im (.int (0 + (j : Int)))))) = .ok (decide (ds[a + j] > 0)) := by
    simp only [ev_test, ev_bin, ev_var, ev_c, sW, List.getElem?_cons_succ, List.getElem?_cons_zero, Res.bind_ok, Int.zero_add, D.int, ev_add]
    rw [show (a : Int) + (j : Int) = ((a + j : Nat) : Int) by omega, ix_ints hjd]
    rfl
  have hsub : line.take (j + 1) = line.take j ++ [line[j]] := by rw [List.take_succ_eq_append_getElem hjl]
  by_cases hpos : ds[a + j] > 0
  · have hz : (nD s).length < sizeLine := by
      refine Nat.lt_of_lt_of_le (m := 1000) ?_ (by decide)
      have := hs.length_le
      simp at this ⊢
      omega
    refine ⟨_, sW c n ds left line (some (.im (.int (0 + (k : Int))))) o6 (some (.im (.int (a : Int)))) (some (.ow (nD (s ++ [line[j]])))) (some (.im (.int (0 + (j : Int))))), rfl, if_t (ht.trans (by rw [decide_eq_true hpos])) ?_, _, _, rfl, ?_⟩
    · show cApp 8 (cLook 4 (cBin oIx (cVar 4) (cVar 9))) (sW c n ds left line (some (.im (.int (0 + (k : Int))))) o6 (some (.im (.int (a : Int)))) (some (.ow (nD s))) (some (.im (.int (0 + (j : Int)))))) = _
      rw [ev_app]
      have hlk : cLook 4 (cBin oIx (cVar 4) (cVar 9)) (sW c n ds left line (some (.im (.int (0 + (k : Int))))) o6 (some (.im (.int (a : Int)))) (some (.ow (nD s))) (some (.im (.int (0 + (j : Int)))))) = .ok (.int (line[j] : Nat)) := by
        simp only [ev_look, ev_fz, sW, nD, List.getElem?_cons_succ, List.getElem?_cons_zero, List.set_cons_succ, List.set_cons_zero, ev_bin, ev_var, Res.bind_ok, Int.zero_add, D.int]
        have := ix_nats hjl
        simp only [D.int] at this
        rw [this]
        rfl
      rw [hlk]
      simp only [sW, List.getElem?_cons_succ, List.getElem?_cons_zero, stE_ok, if_pos hz, List.set_cons_succ, List.set_cons_zero, nD, List.map_append, List.map_cons, List.map_nil]
    · rw [hsub]
      exact hs.append (List.Sublist.refl _)
  · refine ⟨_, _, rfl, if_f (ht.trans (by rw [decide_eq_false hpos])) rfl, s, _, rfl, ?_⟩
    rw [hsub]
    exact hs.trans (List.sublist_append_left _ _)
theorem set_lean {w : Web} {c : Nat} {l : List Int} (hc : c < w.length) : leanW (w.set c l) c = l := by
  unfold leanW
  rw [List.getD_eq_getElem?_getD, List.getElem?_set_self hc]
  rfl
theorem set_lean_ne {w : Web} {c d : Nat} {l : List Int} (h : c ≠ d) : leanW (w.set c l) d = leanW w d := by
  unfold leanW
  rw [List.getD_eq_getElem?_getD, List.getD_eq_getElem?_getD, List.getElem?_set_ne h]
theorem ixN_nat {n i : Nat} (h : i < n) : ixN n (i : Int) = some i := by
  unfold ixN
  simp [h]
theorem web_body {c : Int} {n : Nat} {ds : List Int} {left line : List Nat} (hn : n ≤ 6) (hl : line.length = n) (hnd : line.Nodup) (hr : ∀ d ∈ line, d < n) (hd : ds.length = 21) {o5 o8 o9 : Option O} :
    ∃ δ2, cFor (cIt gRange1 (cCons (cVar 1) cNil)) (bName 5) g__law_web_l3 (sW c n ds left line o5 (some (.ow ((List.replicate n []).map tI))) (some (.im (.int 6))) o8 o9) = .nx δ2 ∧ ∃ w o5' o7 o8' o9', δ2 = sW c n ds left line o5' (some (.ow (w.map tI))) o7 o8' o9' ∧ w.length = n ∧ Along w line := by
  obtain ⟨δ2, h1, w, o5', o8', o9', rfl, h3, h4⟩ := for_range (n := n) (fun i δ => ∃ (w : Web) (o5' o8' o9' : Option O), δ = sW c n ds left line o5' (some (.ow (w.map tI))) (some (.im (.int ((6 + tri i : Nat) : Int)))) o8' o9' ∧ w.length = n ∧ ∀ j (hj : j < line.length), j < i → ∃ s : List Nat, s.Sublist (line.take j) ∧ leanW w line[j] = sortI (s.map fun (k : Nat) => (k : Int))) (b := bName 5) (g := g__law_web_l3) (fi := cIt gRange1 (cCons (cVar 1) cNil)) (δ := sW c n ds left line o5 (some (.ow ((List.replicate n []).map tI))) (some (.im (.int 6))) o8 o9)
    (by
      simp only [ev_it, ev_cons, ev_var, ev_nil, sW, List.getElem?_cons_succ, List.getElem?_cons_zero, Res.bind_ok]
      exact gRange1_nat (n := n) (small_z (by omega)))
    ⟨_, _, _, _, rfl, by simp, fun j _ h => absurd h (Nat.not_lt_zero _)⟩ (by
      rintro i δ hi ⟨w, o5', o8', o9', rfl, hw, hall⟩
      have hil : i < line.length := by omega
      have htri := tri_le i (by omega)
      obtain ⟨δ3, g1, s, o9'', rfl, hs⟩ := web_leans (c := c) (n := n) (k := i) (a := 6 + tri i) (ds := ds) (left := left) (line := line) (o6 := some (.ow (w.map tI))) hil (by omega) (by omega) (o9 := o9')
      have hsl : s.length ≤ 6 := by
        have := hs.length_le
        rw [List.length_take] at this
        omega
      have e1 : cOwn 8 cNil (sW c n ds left line (some (.im (.int (0 + (i : Int))))) (some (.ow (w.map tI))) (some (.im (.int ((6 + tri i : Nat) : Int)))) o8' o9') = .nx (sW c n ds left line (some (.im (.int (0 + (i : Int))))) (some (.ow (w.map tI))) (some (.im (.int ((6 + tri i : Nat) : Int)))) (some (.ow (nD []))) o9') := rfl
      have e3 : cAsg 7 (cBin oAdd (cVar 7) (cVar 5)) (sW c n ds left line (some (.im (.int (0 + (i : Int))))) (some (.ow (w.map tI))) (some (.im (.int ((6 + tri i : Nat) : Int)))) (some (.ow (nD s))) o9'') = .nx (sW c n ds left line (some (.im (.int (0 + (i : Int))))) (some (.ow (w.map tI))) (some (.im (.int ((6 + tri (i + 1) : Nat) : Int)))) (some (.ow (nD s))) o9'') := by
        refine (asg_nx (d := .int ((6 + tri (i + 1) : Nat) : Int)) ?_)
        simp only [ev_bin, ev_var, sW, List.getElem?_cons_succ, List.getElem?_cons_zero, Res.bind_ok, D.int, ev_add]
        rw [show ((6 + tri i : Nat) : Int) + (0 + (i : Int)) = ((6 + tri (i + 1) : Nat) : Int) by rw [tri]; omega]
      have v1 : cLookL 8 (cCall gTuple (cCons (cL (cSrt (cVar 8))) cNil)) (sW c n ds left line (some (.im (.int (0 + (i : Int))))) (some (.ow (w.map tI))) (some (.im (.int ((6 + tri (i + 1) : Nat) : Int)))) (some (.ow (nD s))) o9'') = .ok (tI (sortI (s.map fun (k : Nat) => (k : Int)))) := by
        have e : nD s = (s.map fun (k : Nat) => (k : Int)).map D.int := by simp
        simp only [ev_lookL, ev_fzL, ev_fz, sW, List.getElem?_cons_succ, List.getElem?_cons_zero, List.set_cons_succ, List.set_cons_zero, ev_call, ev_cons, ev_L, ev_srt, ev_var, ev_nil, Res.bind_ok, ev_asL, e, ev_srtI, tI_of, ev_noLst, tI_noLst, if_true]
      have v2 : cLook 4 (cBin oIx (cVar 4) (cVar 5)) (sW c n ds left line (some (.im (.int (0 + (i : Int))))) (some (.ow (w.map tI))) (some (.im (.int ((6 + tri (i + 1) : Nat) : Int)))) (some (.ow (nD s))) o9'') = .ok (.int (line[i] : Nat)) := by
        have := ix_nats hil
        simp only [ev_look, ev_fz, sW, nD, List.getElem?_cons_succ, List.getElem?_cons_zero, List.set_cons_succ, List.set_cons_zero, ev_bin, ev_var, Res.bind_ok, Int.zero_add, D.int] at this ⊢
        rw [this]
        rfl
      have hli : line[i] < n := hr _ (List.getElem_mem hil)
      have e4 : cPut 6 (cLook 4 (cBin oIx (cVar 4) (cVar 5))) (cLookL 8 (cCall gTuple (cCons (cL (cSrt (cVar 8))) cNil))) (sW c n ds left line (some (.im (.int (0 + (i : Int))))) (some (.ow (w.map tI))) (some (.im (.int ((6 + tri (i + 1) : Nat) : Int)))) (some (.ow (nD s))) o9'') = .nx (sW c n ds left line (some (.im (.int (0 + (i : Int))))) (some (.ow ((w.set line[i] (sortI (s.map fun (k : Nat) => (k : Int)))).map tI))) (some (.im (.int ((6 + tri (i + 1) : Nat) : Int)))) (some (.ow (nD s))) o9'') := by
        rw [ev_put, v1, v2]
        simp only [sW, List.getElem?_cons_succ, List.getElem?_cons_zero, stE_ok, D.int, List.length_map, ixN_nat (show line[i] < w.length by omega), List.set_cons_succ, List.set_cons_zero, List.map_set]
      refine ⟨_, _, rfl, seq_nx e1 (seq_nx g1 (seq_nx e3 e4)), _, _, _, _, rfl, by simp [hw], fun j hj hji => ?_⟩
      by_cases hji' : j = i
      · subst hji'
        exact ⟨s, hs, set_lean (by omega)⟩
      · obtain ⟨s', h1, h2⟩ := hall j hj (by omega)
        refine ⟨s', h1, ?_⟩
        rw [set_lean_ne, h2]
        intro z
        exact hji' ((List.getElem_inj hnd).mp z).symm)
  exact ⟨_, h1, w, _, _, _, _, rfl, h3, ⟨by omega, hnd, fun d hd => by rw [h3]; exact hr d hd, fun j hj => h4 j hj (by omega)⟩⟩
theorem rep_flat (z : D) : ∀ n : Nat, (List.replicate n [z]).flatten = List.replicate n z
  | 0 => rfl
  | n + 1 => by rw [List.replicate_succ, List.replicate_succ, List.flatten_cons, rep_flat z n]; rfl
theorem web_ok (c : Int) (n : Nat) (hn : n ≤ 6) : ∃ w line, F__law_web [.int c, .int (n : Int)] = .ok (tW w) ∧ w.length = n ∧ Along w line := by
  obtain ⟨m, hm⟩ := draws_ok c ([6, 5, 4, 3, 2, 1] ++ List.replicate 15 3) (by decide) (by decide)
  generalize hds : digs m ([6, 5, 4, 3, 2, 1] ++ List.replicate 15 3) = ds at hm
  have hd : ds.length = 21 := by rw [← hds, digs_length]; rfl
  have h0 : ∀ d ∈ ds, 0 ≤ d := by rw [← hds]; exact digs_nonneg _ _ (by decide)
  obtain ⟨δ1, h1, left, line, o5, rfl, hl, hnd, hr⟩ := web_line (c := c) (n := n) (ds := ds) hn hd h0 (o6 := none) (o7 := none) (o8 := none) (o9 := none)
  obtain ⟨δ2, h2, w, o5', o7, o8', o9', rfl, hw, ha⟩ := web_body (c := c) (n := n) (ds := ds) (left := left) (line := line) hn hl hnd hr hd (o5 := o5) (o8 := none) (o9 := none)
  refine ⟨w, line, ?_, hw, ha⟩
  unfold F__law_web
  rw [defF_ev]
  show flR (g__law_web [some (.im (.int c)), some (.im (.int (n : Int))), none, none, none, none, none, none, none, none]) = _
  have a1 : cAsg 2 (cFn0 F__law_draws (cCons (cVar 0) (cCons (cBin oAdd (cL (cCons (cC (.int 6)) (cCons (cC (.int 5)) (cCons (cC (.int 4)) (cCons (cC (.int 3)) (cCons (cC (.int 2)) (cCons (cC (.int 1)) cNil))))))) (cL (cRep (cCons (cC (.int 3)) cNil) (cC (.int 15))))) cNil))) [some (.im (.int c)), some (.im (.int (n : Int))), none, none, none, none, none, none, none, none] = .nx [some (.im (.int c)), some (.im (.int (n : Int))), some (.im (.lst (ds.map D.int))), none, none, none, none, none, none, none] := by
    refine (asg_nx (d := .lst (ds.map D.int)) ?_)
    exact hm
  have a2 : cOwn 3 (cListRg (cVar 1)) [some (.im (.int c)), some (.im (.int (n : Int))), some (.im (.lst (ds.map D.int))), none, none, none, none, none, none, none] = .nx [some (.im (.int c)), some (.im (.int (n : Int))), some (.im (.lst (ds.map D.int))), some (.ow (nD (List.range n))), none, none, none, none, none, none] := by
    refine own_nx (ds := nD (List.range n)) ?_
    have hz : (n : Int).natAbs ≤ 1000000 := by omega
    simp only [ev_listRg, ev_var, List.getElem?_cons_succ, List.getElem?_cons_zero, Res.bind_ok, D.int, ev_asN, if_pos hz, Int.toNat_natCast, rangeD, Int.zero_add]
  have a3 : cOwn 6 (cRep (cCons (cTup cNil) cNil) (cVar 1)) (sW c n ds left line o5 none none none none) = .nx (sW c n ds left line o5 (some (.ow ((List.replicate n []).map tI))) none none none) := by
    refine own_nx (ds := (List.replicate n []).map tI) ?_
    have hz : (n : Int).natAbs ≤ 1000000 ∧ [D.tup []].length * n ≤ sizeLine := ⟨by omega, small_z (by simp; omega)⟩
    simp only [ev_rep, ev_cons, ev_tup, ev_nil, ev_var, sW, List.getElem?_cons_succ, List.getElem?_cons_zero, Res.bind_ok, D.int, Int.toNat_natCast]
    rw [if_pos hz, rep_flat, List.map_replicate]
    rfl
  have a4 : cAsg 7 (cC (.int 6)) (sW c n ds left line o5 (some (.ow ((List.replicate n []).map tI))) none none none) = .nx (sW c n ds left line o5 (some (.ow ((List.replicate n []).map tI))) (some (.im (.int 6))) none none) := rfl
  have a5 : cFz 6 (cRet (cCall gTuple (cCons (cVar 6) cNil))) (sW c n ds left line o5' (some (.ow (w.map tI))) o7 o8' o9') = .rt (tW w) := rfl
  unfold g__law_web
  rw [seq_nx a1 (seq_nx a2 (seq_nx (show cOwn 4 cNil _ = .nx (sW c n ds (List.range n) [] none none none none none) from rfl) (seq_nx h1 (seq_nx a3 (seq_nx a4 (seq_nx h2 a5))))))]
  rfl
end My
namespace My
open PySem L2 DV
/-! ### is_web, look_web -/
def goodW (w : Web) : Bool := plainW w && ringlessW w
theorem tI_isN (l : List Int) : oIsN false (tI l) (.v .non) = .ok (.bl false) := rfl
theorem is_web_ok (w : Web) (hz : w.length ≤ 1000) (hl : ∀ l ∈ w, l.length < 64) : F_is_web [tW w] = .ok (.bl (goodW w)) := by
  unfold F_is_web
  rw [defF_ev]
  show flR (g_is_web [some (.im (tW w))]) = _
  unfold g_is_web goodW
  have h1 := is_plain_ok w hz hl
  cases hp : plainW w with
  | false =>
    rw [hp] at h1
    simp [h1]
  | true =>
    rw [hp] at h1
    obtain ⟨d, h2, h3⟩ := ring_ok hp hl
    cases hr : ringlessW w with
    | true =>
      rw [hr, if_pos rfl] at h3
      subst h3
      simp [h1, h2]
      rfl
    | false =>
      rw [hr, if_neg Bool.false_ne_true] at h3
      obtain ⟨r, rfl⟩ := h3
      simp [h1, h2, tI_isN]
def badX : Exn := ⟨"BadWeb", [("word", .str "badweb")]⟩
theorem look_ok (w : Web) (hz : w.length ≤ 1000) (hl : ∀ l ∈ w, l.length < 64) : F_look_web [tW w] = if goodW w then .ok .non else .er badX := by
  unfold F_look_web
  rw [defF_ev]
  show flR (g_look_web [some (.im (tW w))]) = _
  unfold g_look_web
  have h1 := is_web_ok w hz hl
  cases hg : goodW w with
  | true => rw [hg] at h1; simp [h1]
  | false => rw [hg] at h1; simp [h1]; rfl
end My
namespace My
open PySem L2 DV
/-! ### order -/
theorem flat_ints : ∀ l : List Nat, flatA (l.map fun (k : Nat) => D.int (k : Int)) = true
  | [] => rfl
  | k :: l => flat_ints l
theorem gMin_rise {l : List Nat} (h : l.Pairwise (· < ·)) (hne : l ≠ []) : gMin [.lst (l.map fun (k : Nat) => D.int (k : Int))] = .ok (.int ((l.headD 0 : Nat) : Int)) := by
  cases l with
  | nil => exact absurd rfl hne
  | cons x l =>
    have e : ((x :: l).map fun (k : Nat) => D.int (k : Int)) = (((x : Int) :: l.map fun (k : Nat) => (k : Int)).map D.int) := by simp
    rw [e, gMin_ints]
    obtain ⟨h1, h2⟩ := minI_spec (l.map fun (k : Nat) => (k : Int)) (x : Int)
    have : minI (x : Int) (l.map fun (k : Nat) => (k : Int)) = (x : Int) := by
      refine Int.le_antisymm (h2 _ (by simp)) ?_
      rcases List.mem_cons.mp h1 with z | z
      · rw [z]; exact Int.le_refl _
      · obtain ⟨y, hy, e⟩ := List.mem_map.mp z
        rw [← e]
        have := (List.pairwise_cons.mp h).1 y hy
        omega
    rw [this]
    rfl
theorem next_rise (w : Web) (f : List Nat) : (nextW w f).Pairwise (· < ·) := List.Pairwise.filter _ List.pairwise_lt_range
abbrev sO (w : Web) (f : List Nat) (o2 : Option O) : DS := [some (.im (tW w)), some (.ow (f.map fun (k : Nat) => D.int (k : Int))), o2, none, none]
abbrev readyC : DS → Res (List D) := cLc [3] (cIt gRange1 (cCons (cCall gLen (cCons (cVar 0) cNil)) cNil)) (bName 3) (cAndT (cTest (cBin (oInA true) (cVar 3) (cVar 1))) (cTest (cCall gAll (cCons (cL (cLc [4] (cItems (cBin oIx (cVar 0) (cVar 3))) (bName 4) cYes (cBin (oInA false) (cVar 4) (cVar 1)))) cNil)))) (cVar 3)
theorem ready_ok {w : Web} {f : List Nat} {o2 : Option O} (hz : w.length ≤ 10) (hl : ∀ l ∈ w, l.length < 64) : readyC [some (.im (tW w)), some (.im (lN f)), o2, none, none] = .ok ((nextW w f).map fun (k : Nat) => D.int (k : Int)) := by
  refine lc_keep (fun (k : Nat) => D.int (k : Int)) (fun c => !inN f (c : Int) && (leanW w c).all (inN f)) (fun (k : Nat) => D.int (k : Int)) (List.range w.length) ?_ (small_z (by simp; omega)) fun c hc => ⟨_, rfl, ?_, fun _ => rfl⟩
  · have := rg1 (n := w.length) (by omega)
    simp only [ev_it, ev_cons, ev_call, ev_var, ev_nil, List.getElem?_cons_succ, List.getElem?_cons_zero, Res.bind_ok, tW_len, D.int]
    exact this
  · have hc' := List.mem_range.mp hc
    have ha := all_lc (δ := [some (.im (tW w)), some (.im (lN f)), o2, some (.im (.int (c : Int))), none]) (vs := [4]) (fi := cItems (cBin oIx (cVar 0) (cVar 3))) (b := bName 4) (e := cBin (oInA false) (cVar 4) (cVar 1)) D.int (inN f) (leanW w c) (by simp [ix_lean hc']) (small_z (by have := hl _ (mem_lean hc'); omega)) (fun x hx => ⟨_, rfl, by simp⟩)
    show cAndT _ _ [some (.im (tW w)), some (.im (lN f)), o2, some (.im (.int (c : Int))), none] = _
    rw [ev_andT, ev_test, ev_test, ha]
    simp only [ev_bin, ev_var, List.getElem?_cons_succ, List.getElem?_cons_zero, Res.bind_ok, lN_in, if_true, D.int, ev_asB]
    cases inN f (c : Int) <;> simp
theorem order_turn {w : Web} {f : List Nat} {o2 : Option O} (hz : w.length ≤ 10) (hl : ∀ l ∈ w, l.length < 64) (hf : f.length ≤ 10) (hne : nextW w f ≠ []) : ∃ o2', g_order_l1 (sO w f o2) = .nx (sO w (f ++ [nxW w f]) o2') := by
  refine ⟨some (.im (.lst ((nextW w f).map fun (k : Nat) => D.int (k : Int)))), seq_nx (asg_nx (d := .lst ((nextW w f).map fun (k : Nat) => D.int (k : Int))) ?_) ?_⟩
  · have hr := ready_ok (f := f) (o2 := o2) hz hl
    rw [lN_map] at hr
    rw [ev_L]
    have : cLookF 1 readyC (sO w f o2) = .ok ((nextW w f).map fun (k : Nat) => D.int (k : Int)) := by
      unfold cLookF
      have e : fz 1 (sO w f o2) = [some (.im (tW w)), some (.im (.lst (f.map fun (k : Nat) => D.int (k : Int)))), o2, none, none] := rfl
      rw [e, hr]
      dsimp only
      rw [flat_ints]
      rfl
    rw [this]
    rfl
  · have hm := gMin_rise (next_rise w f) hne
    have hlt : (f.map fun (k : Nat) => D.int (k : Int)).length < sizeLine := by rw [List.length_map]; exact Nat.lt_of_le_of_lt hf (by decide)
    show cApp 1 _ [some (.im (tW w)), some (.ow (f.map fun (k : Nat) => D.int (k : Int))), some (.im (.lst ((nextW w f).map fun (k : Nat) => D.int (k : Int)))), none, none] = _
    rw [ev_app]
    simp only [List.getElem?_cons_succ, List.getElem?_cons_zero, ev_call, ev_cons, ev_var, ev_nil, Res.bind_ok, hm, stE_ok, if_pos hlt]
    unfold sO
    rw [List.map_append]
    rfl
theorem order_loop {w : Web} {line : List Nat} (ha : Along w line) (hz : w.length ≤ 6) (hl : ∀ l ∈ w, l.length < 64) : ∀ (k t : Nat) (o2 : Option O), t + k = w.length → ∃ o2', whileF (cLookT 1 (cTest (cBin oLt (cCall gLen (cCons (cVar 1) cNil)) (cCall gLen (cCons (cVar 0) cNil))))) g_order_l1 (k + 4) (sO w (ordW w t) o2) = .nx (sO w (ordW w w.length) o2')
  | 0, t, o2, h => by
    have : t = w.length := by omega
    subst this
    refine ⟨o2, wh_end ?_⟩
    simp [ordW_len]
  | k + 1, t, o2, h => by
    obtain ⟨h1, _, _⟩ := ordW_ok ha t (by omega)
    obtain ⟨o2', e⟩ := order_turn (w := w) (f := ordW w t) (o2 := o2) (by omega) hl (by rw [ordW_len]; omega) (next_some ha h1 (by rw [ordW_len]; omega))
    obtain ⟨o2'', e2⟩ := order_loop ha hz hl k (t + 1) o2' (by omega)
    refine ⟨o2'', ?_⟩
    rw [show k + 1 + 4 = (k + 4) + 1 by omega, wh_turn (δ' := sO w (ordW w (t + 1)) o2') ?_ e]
    · exact e2
    · have : (t : Int) < (w.length : Int) := by omega
      simp [ordW_len, oLt_int, this]
theorem whileF_more {t : DS → Res Bool} {g : DS → Fl} : ∀ (n m : Nat) (δ δ2 : DS), whileF t g n δ = .nx δ2 → n ≤ m → whileF t g m δ = .nx δ2 := by
  intro n
  induction n with
  | zero => intro m δ δ2 h _; cases h
  | succ n ih =>
    intro m δ δ2 h hm
    obtain ⟨m, rfl⟩ : ∃ m', m = m' + 1 := ⟨m - 1, by omega⟩
    unfold whileF at h ⊢
    cases e : t δ with
    | no => rw [e] at h; exact h
    | er x => rw [e] at h; exact h
    | ok b =>
      rw [e] at h
      revert h
      cases b with
      | false => exact fun h => h
      | true =>
        intro h
        simp only [stE_ok, if_true] at h ⊢
        revert h
        cases g δ with
        | nx δ' => exact fun h => ih m δ' δ2 h (by omega)
        | ct δ' => exact fun h => ih m δ' δ2 h (by omega)
        | bk δ' => exact fun h => h
        | rt d => exact fun h => h
        | rf d => exact fun h => h
        | rs x d => exact fun h => h
        | no => exact fun h => h
theorem order_ok {w : Web} {line : List Nat} (ha : Along w line) (hz : w.length ≤ 6) (hl : ∀ l ∈ w, l.length < 64) (hg : goodW w = true) : F_order [tW w] = .ok ((ordW w w.length).map fun (k : Nat) => D.int (k : Int)) := by
  have h1 := look_ok w (by omega) hl
  rw [hg, if_pos rfl] at h1
  obtain ⟨o2', e⟩ := order_loop ha hz hl w.length 0 none (by omega)
  have e2 := whileF_more _ 10 _ _ e (by omega)
  unfold F_order
  rw [defL_ev]
  show flF (g_order [some (.im (tW w)), none, none, none, none]) = _
  unfold g_order
  rw [seq_nx (drop_nx (d := .non) (by simp [h1])) (seq_nx (own_nx (ds := []) rfl) (seq_nx (δ' := sO w (ordW w w.length) o2') e2 rfl))]
  rfl
theorem order_bad (w : Web) (hz : w.length ≤ 1000) (hl : ∀ l ∈ w, l.length < 64) (hg : goodW w = false) : F_order [tW w] = .er badX := by
  have h1 := look_ok w hz hl
  rw [hg, if_neg Bool.false_ne_true] at h1
  unfold F_order
  rw [defL_ev]
  show flF (g_order [some (.im (tW w)), none, none, none, none]) = _
  unfold g_order
  simp [h1]
end My
namespace My
open PySem L2 DV
/-! ### all_leads -/
def kN (xs : List Nat) : List Key := xs.map fun (c : Nat) => .inl (c : Int)
def nL (L : Nat → List Int) (c : Nat) : T := .nd .ls (((L c).map D.int).map T.im)
def tL (n : Nat) (L : Nat → List Int) : O := .tr (.dc (kN (List.range n))) ((List.range n).map (nL L))
def kvL (n : Nat) (L : Nat → List Int) : List (Key × D) := (List.range n).map fun (c : Nat) => (.inl (c : Int), .lst ((L c).map D.int))
theorem posK_nat : ∀ (xs : List Nat) (k : Nat), xs.Nodup → ∀ j, xs[j]? = some k → posK (kN xs) (.inl (k : Int)) = some j
  | [], k, _, j, h => by cases h
  | x :: xs, k, hn, j, h => by
    obtain ⟨n1, n2⟩ := List.nodup_cons.mp hn
    unfold posK kN
    rw [List.map_cons, List.findIdx?_cons]
    cases j with
    | zero =>
      simp at h
      subst h
      simp
    | succ j =>
      have h' : xs[j]? = some k := by simpa using h
      have ne : x ≠ k := fun z => n1 (z ▸ List.mem_of_getElem? h')
      have : ¬ ((Sum.inl (x : Int) : Key) = .inl (k : Int)) := fun z => ne (by injection z with z; omega)
      rw [decide_eq_false this, if_neg Bool.false_ne_true]
      have ih := posK_nat xs k n2 j h'
      unfold posK kN at ih
      rw [ih]
      rfl
theorem posK_range {n k : Nat} (h : k < n) : posK (kN (List.range n)) (.inl (k : Int)) = some k := posK_nat _ _ List.nodup_range k (by simp [h])
theorem kN_nodup (n : Nat) : (kN (List.range n)).Nodup := by
  unfold kN
  show List.Pairwise _ _
  rw [List.pairwise_map]
  exact List.pairwise_lt_range.imp fun {a b} h z => by
    injection z with z
    omega
theorem kN_len (xs : List Nat) : (kN xs).length = xs.length := List.length_map _
theorem posK_none {xs : List Nat} {k : Nat} (h : k ∉ xs) : posK (kN xs) (.inl (k : Int)) = none := by
  unfold posK kN
  rw [List.findIdx?_eq_none_iff]
  intro z hz
  obtain ⟨c, hc, rfl⟩ := List.mem_map.mp hz
  refine decide_eq_false fun e => h ?_
  injection e with e
  have : c = k := by omega
  rw [← this]
  exact hc
theorem dcN_ok {δ : DS} : ∀ (xs done : List Nat), (done ++ xs).Nodup → (done ++ xs).length ≤ 1000 → δ.length = 5 → dcN (bName 4) cYes (cVar 4) (cNl cNil) (xs.map fun (k : Nat) => D.int (k : Int)) δ (kN done) (done.map (nL fun _ => [])) = .ok (.nd (.dc (kN (done ++ xs))) ((done ++ xs).map (nL fun _ => [])))
  | [], done, _, _, _ => by
    rw [List.append_nil]
    rfl
  | x :: xs, done, hn, hz, hd => by
    have hx : x ∉ done := fun z => by
      rw [List.nodup_append] at hn
      exact hn.2.2 x z x (by simp) rfl
    have hdl : done.length < sizeLine := Nat.lt_of_lt_of_le (m := 1000) (by simp at hz; omega) (by decide)
    have hv : cVar 4 (δ.set 4 (some (.im (.int (x : Int))))) = .ok (.int (x : Int)) := by
      rw [ev_var, List.getElem?_set_self (by omega)]
    rw [List.map_cons]
    unfold dcN
    rw [ev_bname]
    dsimp only
    rw [ev_yes, Res.calm_ok, Res.bind_ok, if_pos rfl, hv, Res.calm_ok, Res.bind_ok, ev_nl, ev_nil, Res.bind_ok, Res.calm_ok, Res.bind_ok]
    show (if (kN done).length < sizeLine ∧ posK (kN done) (.inl (x : Int)) = none then _ else _) = _
    rw [if_pos ⟨by rw [kN_len]; exact hdl, posK_none hx⟩]
    have e1 : kN done ++ [Sum.inl (x : Int)] = kN (done ++ [x]) := by unfold kN; rw [List.map_append]; rfl
    have e2 : done.map (nL fun _ => []) ++ [T.nd .ls ([].map T.im)] = (done ++ [x]).map (nL fun _ => []) := by rw [List.map_append]; rfl
    have ih := dcN_ok (δ := δ) xs (done ++ [x]) (by rw [List.append_assoc]; exact hn) (by rw [List.append_assoc]; exact hz) hd
    rw [List.append_assoc] at ih
    rw [← e1, ← e2] at ih
    exact ih
theorem dA_map (ts : List T) : T.dA ts = ts.map T.d := T.dA_map ts
theorem tL_d (n : Nat) (L : Nat → List Int) : (T.nd (.dc (kN (List.range n))) ((List.range n).map (nL L))).d = .dct (keysD (kvL n L)) (valsD (kvL n L)) := by
  rw [T.d]
  congr 1
  · unfold keysD kvL kN
    simp [Function.comp_def]
  · rw [T.dA_map]
    unfold valsD kvL
    rw [List.map_map, List.map_map]
    refine List.map_congr_left fun c _ => ?_
    show (nL L c).d = _
    unfold nL
    rw [T.d]
    rw [dA_ims]
    rfl
theorem valD_range (L : Nat → List Int) : ∀ (xs : List Nat) (k : Nat), k ∈ xs → valD (xs.map fun (c : Nat) => ((.inl (c : Int) : Key), D.lst ((L c).map D.int))) (.inl (k : Int)) = some (.lst ((L k).map D.int))
  | [], k, h => by cases h
  | x :: xs, k, h => by
    unfold valD
    rw [List.map_cons, List.find?_cons]
    by_cases e : x = k
    · subst e
      simp
    · have : ¬ ((Sum.inl (x : Int) : Key) = .inl (k : Int)) := fun z => e (by injection z with z; omega)
      rw [decide_eq_false this]
      have hk : k ∈ xs := by
        rcases List.mem_cons.mp h with z | z
        · exact absurd z.symm e
        · exact z
      exact valD_range L xs k hk
theorem ixD_L {n k : Nat} {L : Nat → List Int} (h : k < n) : oIxD (.dct (keysD (kvL n L)) (valsD (kvL n L))) (.v (.int (k : Int))) = .ok (.lst ((L k).map D.int)) := by
  unfold oIxD
  rw [ev_dict, ev_keyI]
  dsimp only
  unfold kvL
  rw [valD_range L (List.range n) k (List.mem_range.mpr h)]
def addL (L : Nat → List Int) (one lean : Nat) : Nat → List Int := fun c => if c = lean then L c ++ ((one : Int) :: L one) else L c
theorem flat_I : ∀ l : List Int, flatA (l.map D.int) = true
  | [] => rfl
  | k :: l => flat_I l
theorem aug_ok {w : D} {n one lean : Nat} {L : Nat → List Int} (hn : n ≤ 10) (ho : one < n) (hl : lean < n) (l1 : (L lean).length ≤ 800) (l2 : (L one).length ≤ 100) (o4 : Option O) :
    g_all_leads_l1 [some (.im w), some (tL n L), some (.im (.int (one : Int))), some (.im (.int (lean : Int))), o4] = .nx [some (.im w), some (tL n (addL L one lean)), some (.im (.int (one : Int))), some (.im (.int (lean : Int))), o4] := by
  have hx : ((List.range n).map (nL L))[lean]? = some (nL L lean) := by rw [List.getElem?_map, List.getElem?_range hl]; rfl
  have hv : cLookF 1 (cCat (cL (cCons (cVar 2) cNil)) (cBin oIxD (cVar 1) (cVar 2))) [some (.im w), some (tL n L), some (.im (.int (one : Int))), some (.im (.int (lean : Int))), o4] = .ok (((one : Int) :: L one).map D.int) := by
    unfold cLookF
    have e : fz 1 [some (.im w), some (tL n L), some (.im (.int (one : Int))), some (.im (.int (lean : Int))), o4] = [some (.im w), some (.im (.dct (keysD (kvL n L)) (valsD (kvL n L)))), some (.im (.int (one : Int))), some (.im (.int (lean : Int))), o4] := by
      rw [← tL_d]
      rfl
    rw [e]
    have : cCat (cL (cCons (cVar 2) cNil)) (cBin oIxD (cVar 1) (cVar 2)) [some (.im w), some (.im (.dct (keysD (kvL n L)) (valsD (kvL n L)))), some (.im (.int (one : Int))), some (.im (.int (lean : Int))), o4] = .ok (((one : Int) :: L one).map D.int) := by
      unfold cCat
      simp only [ev_L, ev_cons, ev_bin, ev_var, ev_nil, List.getElem?_cons_succ, List.getElem?_cons_zero, Res.bind_ok, ixD_L ho]
      rw [if_pos (small_z (by simp; omega))]
      rfl
    rw [this]
    dsimp only
    rw [flat_I]
    rfl
  unfold g_all_leads_l1 cAugL
  have hp : cpVar 1 [some (.im w), some (tL n L), some (.im (.int (one : Int))), some (.im (.int (lean : Int))), o4] = .ok (1, []) := rfl
  rw [hp]
  dsimp only
  have hnode : nodeAt [some (.im w), some (tL n L), some (.im (.int (one : Int))), some (.im (.int (lean : Int))), o4] 1 [] = some (.nd (.dc (kN (List.range n))) ((List.range n).map (nL L))) := rfl
  rw [hnode]
  dsimp only
  rw [ev_var]
  simp only [List.getElem?_cons_succ, List.getElem?_cons_zero, stE_ok, ev_keyI, posK_range hl, hx]
  unfold nL
  dsimp only
  rw [hv, stE_ok, if_pos ⟨kN_nodup n, small_z (by simp; omega), by rw [kN_len, List.length_range]; exact Nat.lt_of_le_of_lt hn (by decide)⟩]
  have hput : putAt [some (.im w), some (tL n L), some (.im (.int (one : Int))), some (.im (.int (lean : Int))), o4] 1 ([] ++ [lean]) (.nd .ls (((L lean).map D.int).map T.im ++ (((one : Int) :: L one).map D.int).map T.im)) = [some (.im w), some (.tr (.dc (kN (List.range n))) (((List.range n).map (nL L)).set lean (.nd .ls (((L lean).map D.int).map T.im ++ (((one : Int) :: L one).map D.int).map T.im)))), some (.im (.int (one : Int))), some (.im (.int (lean : Int))), o4] := by
    rw [List.nil_append, put1 (k := .dc (kN (List.range n))) (ts := (List.range n).map (nL L)) rfl hx]
    rfl
  rw [hput]
  have hset : ((List.range n).map (nL L)).set lean (.nd .ls (((L lean).map D.int).map T.im ++ (((one : Int) :: L one).map D.int).map T.im)) = (List.range n).map (nL (addL L one lean)) := by
    refine List.ext_getElem? fun j => ?_
    by_cases hj : j < n
    · by_cases e : lean = j
      · subst e
        rw [List.getElem?_set_self (by simpa using hj), List.getElem?_map, List.getElem?_range hj]
        unfold nL addL
        simp
      · rw [List.getElem?_set_ne e, List.getElem?_map, List.getElem?_map, List.getElem?_range hj]
        unfold nL addL
        simp [show ¬ j = lean from fun z => e z.symm]
    · rw [List.getElem?_eq_none (by simpa using hj), List.getElem?_eq_none (by simpa using hj)]
  rw [hset]
  rfl
def addLs (w : Web) (L : Nat → List Int) (one : Nat) (done : List Int) : Nat → List Int := fun c => if (c : Int) ∈ done then L c ++ ((one : Int) :: L one) else L c
theorem inner_leads {w : Web} {n one : Nat} {L : Nat → List Int} (hp : plainW w = true) (hn : n = w.length) (ho : one < n) (lb : ∀ c, c < n → (L c).length < 64) (o3 o4 : Option O) :
    ∃ o3', g_all_leads_l2 [some (.im (tW w)), some (tL n L), some (.im (.int (one : Int))), o3, o4] = .nx [some (.im (tW w)), some (tL n (addLs w L one (leanW w one))), some (.im (.int (one : Int))), o3', o4] := by
  have hz := (plain_small hp).2
  have hw : one < w.length := by omega
  obtain ⟨δ2, h1, o3', rfl⟩ := for_done D.int (fun done δ => ∃ o3, δ = [some (.im (tW w)), some (tL n (addLs w L one done)), some (.im (.int (one : Int))), o3, o4]) (b := bName 3) (g := g_all_leads_l1) (fi := cItems (cBin oIx (cVar 0) (cVar 2))) (leanW w one) (δ := [some (.im (tW w)), some (tL n L), some (.im (.int (one : Int))), o3, o4]) (by simp [ix_lean hw]) ⟨o3, by
      have : addLs w L one [] = L := funext fun c => by unfold addLs; simp
      rw [this]⟩ (by
    rintro done x rest δ hall ⟨o3, rfl⟩
    have hx : x ∈ leanW w one := by rw [← hall]; simp
    obtain ⟨k, rfl, hk⟩ := range_of hp hw hx
    have hnd := rising_nodup (plain_rise hp hw)
    have hkd : (k : Int) ∉ done := fun z => by
      rw [← hall, List.nodup_append] at hnd
      exact hnd.2.2 _ z _ (by simp) rfl
    have hod : (one : Int) ∉ done := fun z => plain_not hp hw (by rw [← hall]; simp [z])
    have e1 : addLs w L one done one = L one := by unfold addLs; rw [if_neg hod]
    have e2 : addLs w L one done k = L k := by unfold addLs; rw [if_neg hkd]
    have ha := aug_ok (w := tW w) (n := n) (one := one) (lean := k) (L := addLs w L one done) (by omega) ho (by omega) (by rw [e2]; have := lb k (by omega); omega) (by rw [e1]; have := lb one ho; omega) o4
    refine ⟨_, _, rfl, ha, some (.im (.int (k : Int))), ?_⟩
    have e3 : addL (addLs w L one done) one k = addLs w L one (done ++ [(k : Int)]) := funext fun c => by
      unfold addL
      rw [e1]
      by_cases hc : c = k
      · subst hc
        rw [if_pos rfl, e2]
        unfold addLs
        simp
      · rw [if_neg hc]
        unfold addLs
        have : ¬ (c : Int) = (k : Int) := by omega
        simp [this]
    rw [e3])
  exact ⟨o3', h1⟩
/-- what the dict tells behind some columns -/
structure Led (w : Web) (done : List Nat) (L : Nat → List Int) : Prop where
  mem : ∀ c, c < w.length → ∀ x : Int, x ∈ L c ↔ ∃ y ∈ done, (c : Int) ∈ leanW w y ∧ ∃ x' : Nat, x = (x' : Int) ∧ x' < w.length ∧ (x' = y ∨ Dn w y x')
  len : ∀ c, c < w.length → (L c).length < 2 ^ done.length
theorem led_step {w : Web} {line : List Nat} (ha : Along w line) (hp : plainW w = true) {done rest : List Nat} {one : Nat} {L : Nat → List Int} (hall : done ++ one :: rest = (ordW w w.length).reverse) (h : Led w done L) : Led w (done ++ [one]) (addLs w L one (leanW w one)) := by
  obtain ⟨o1, o2, o3⟩ := ordW_ok ha w.length (Nat.le_refl _)
  have hO : ordW w w.length = rest.reverse ++ one :: done.reverse := by
    have := congrArg List.reverse hall
    rw [List.reverse_reverse] at this
    rw [← this]
    simp
  have hone : one < w.length := o1 one (by rw [hO]; simp)
  have full : ∀ y, y < w.length → (one : Int) ∈ leanW w y → y ∈ done := fun y hy hm => by
    have hyO : y ∈ ordW w w.length := nodup_full o2 (ordW_len w _) o1 y hy
    rw [hO] at hyO
    rcases List.mem_append.mp hyO with z | z
    · exfalso
      obtain ⟨i, hi, e⟩ := List.mem_iff_getElem.mp z
      have hi2 : (ordW w w.length)[i]? = some y := by rw [hO, List.getElem?_append_left hi, List.getElem?_eq_getElem hi, e]
      obtain ⟨k, j, e1, e2, e3⟩ := o3 i y hi2 (one : Int) hm
      have : k = one := by omega
      subst this
      rw [hO, List.getElem?_append_left (by omega)] at e3
      have hin : k ∈ rest.reverse := List.mem_of_getElem? e3
      rw [hO, List.nodup_append] at o2
      exact o2.2.2 k hin k (by simp) rfl
    · rcases List.mem_cons.mp z with z | z
      · exfalso
        rw [z] at hm
        exact plain_not hp hone hm
      · exact List.mem_reverse.mp z
  have dn : ∀ x : Int, x ∈ L one ↔ ∃ x' : Nat, x = (x' : Int) ∧ x' < w.length ∧ Dn w one x' := fun x => by
    rw [h.mem one hone]
    constructor
    · rintro ⟨y, hy, hm, x', e, hx', h2⟩
      have hyw : y < w.length := o1 y (by rw [hO]; simp [hy])
      exact ⟨x', e, hx', (Dn_iff hx').mpr ⟨y, hyw, hm, h2⟩⟩
    · rintro ⟨x', e, hx', hd⟩
      obtain ⟨y, hy, hm, h2⟩ := (Dn_iff hx').mp hd
      exact ⟨y, full y hy hm, hm, x', e, hx', h2⟩
  constructor
  · intro c hc x
    unfold addLs
    by_cases hm : (c : Int) ∈ leanW w one
    · rw [if_pos hm, List.mem_append, h.mem c hc, List.mem_cons, dn]
      constructor
      · rintro (⟨y, hy, r⟩ | rfl | ⟨x', e, hx', hd⟩)
        · exact ⟨y, by simp [hy], r⟩
        · exact ⟨one, by simp, hm, one, rfl, hone, .inl rfl⟩
        · exact ⟨one, by simp, hm, x', e, hx', .inr hd⟩
      · rintro ⟨y, hy, hm', x', e, hx', h2⟩
        rcases List.mem_append.mp hy with hy | hy
        · exact .inl ⟨y, hy, hm', x', e, hx', h2⟩
        · rw [List.mem_singleton] at hy
          subst hy
          rcases h2 with rfl | h2
          · exact .inr (.inl e)
          · exact .inr (.inr ⟨x', e, hx', h2⟩)
    · rw [if_neg hm, h.mem c hc]
      constructor
      · rintro ⟨y, hy, r⟩
        exact ⟨y, by simp [hy], r⟩
      · rintro ⟨y, hy, hm', r⟩
        rcases List.mem_append.mp hy with hy | hy
        · exact ⟨y, hy, hm', r⟩
        · rw [List.mem_singleton] at hy
          subst hy
          exact absurd hm' hm
  · intro c hc
    have h1 := h.len c hc
    have h2 := h.len one hone
    have e : 2 ^ (done ++ [one]).length = 2 * 2 ^ done.length := by rw [List.length_append, List.length_singleton, Nat.pow_succ]; omega
    rw [e]
    unfold addLs
    split
    · rw [List.length_append, List.length_cons]
      omega
    · omega
theorem all_leads_ok {w : Web} {line : List Nat} (ha : Along w line) (hz : w.length ≤ 6) (hl : ∀ l ∈ w, l.length < 64) (hg : goodW w = true) :
    ∃ L : Nat → List Int, F_all_leads [tW w] = .ok (.dct (keysD (kvL w.length L)) (valsD (kvL w.length L))) ∧ (∀ c, c < w.length → ∀ x : Int, x ∈ L c ↔ ∃ x' : Nat, x = (x' : Int) ∧ x' < w.length ∧ Dn w c x') ∧ ∀ c, c < w.length → (L c).length < 64 := by
  have hp : plainW w = true := (Bool.and_eq_true_iff.mp hg).1
  obtain ⟨o1, o2, o3⟩ := ordW_ok ha w.length (Nat.le_refl _)
  have hord := order_ok ha hz hl hg
  have d0 := dcN_ok (δ := [some (.im (tW w)), none, none, none, none]) (List.range w.length) [] (by simpa using List.nodup_range) (by simp; omega) rfl
  obtain ⟨δ2, h1, L, o2', o3', rfl, hL⟩ := for_done (fun (k : Nat) => D.int (k : Int)) (fun done δ => ∃ L o2 o3, δ = [some (.im (tW w)), some (tL w.length L), o2, o3, none] ∧ Led w done L) (b := bName 2) (g := g_all_leads_l2) (fi := cItems (cUn oRev (cL (cFnF F_order (cCons (cVar 0) cNil))))) ((ordW w w.length).reverse) (δ := [some (.im (tW w)), some (tL w.length fun _ => []), none, none, none])
    (by
      simp only [ev_items, ev_un, ev_L, ev_fnF, ev_cons, ev_var, ev_nil, List.getElem?_cons_zero, Res.bind_ok, hord, ev_revl, ev_items_l, List.map_reverse])
    ⟨_, _, _, rfl, ⟨fun c hc x => by simp, fun c hc => by simp⟩⟩ (by
    rintro done one rest δ hall ⟨L, o2, o3, rfl, hL⟩
    have hone : one < w.length := o1 one (List.mem_reverse.mp (by rw [← hall]; simp))
    have dl : done.length < w.length := by have := pre_len hall; rw [List.length_reverse, ordW_len] at this; exact this
    have lb : ∀ c, c < w.length → (L c).length < 64 := fun c hc => Nat.lt_of_lt_of_le (hL.len c hc) (Nat.le_trans (Nat.pow_le_pow_right (by decide) (show done.length ≤ 6 by omega)) (by decide))
    obtain ⟨o3', e⟩ := inner_leads (n := w.length) hp rfl hone lb o3 none
    exact ⟨_, _, rfl, e, _, _, _, rfl, led_step ha hp hall hL⟩)
  refine ⟨L, ?_, fun c hc x => ?_, fun c hc => ?_⟩
  · unfold F_all_leads
    rw [defF_ev]
    show flR (g_all_leads [some (.im (tW w)), none, none, none, none]) = _
    unfold g_all_leads
    have hr := rg1 (n := w.length) (by omega)
    have hown : cOwnN 1 (cDcN [4] (cIt gRange1 (cCons (cCall gLen (cCons (cVar 0) cNil)) cNil)) (bName 4) cYes (cVar 4) (cNl cNil)) [some (.im (tW w)), none, none, none, none] = .nx [some (.im (tW w)), some (tL w.length fun _ => []), none, none, none] := by
      refine (ownN_nx (t := .nd (.dc (kN (List.range w.length))) ((List.range w.length).map (nL fun _ => []))) ?_).trans rfl
      unfold cDcN
      simp only [ev_it, ev_cons, ev_call, ev_var, ev_nil, List.getElem?_cons_zero, Res.bind_ok, tW_len, D.int, hr] at d0 ⊢
      exact d0
    rw [seq_nx hown (seq_nx h1 rfl), ev_cfz]
    have : fz 1 [some (.im (tW w)), some (tL w.length L), o2', o3', none] = [some (.im (tW w)), some (.im (.dct (keysD (kvL w.length L)) (valsD (kvL w.length L)))), o2', o3', none] := by
      rw [← tL_d]
      rfl
    rw [this]
    rfl
  · rw [hL.mem c hc]
    constructor
    · rintro ⟨y, hy, hm, x', e, hx', h2⟩
      exact ⟨x', e, hx', (Dn_iff hx').mpr ⟨y, o1 y (List.mem_reverse.mp hy), hm, h2⟩⟩
    · rintro ⟨x', e, hx', hd⟩
      obtain ⟨y, hy, hm, h2⟩ := (Dn_iff hx').mp hd
      exact ⟨y, List.mem_reverse.mpr (nodup_full o2 (ordW_len w _) o1 y hy), hm, x', e, hx', h2⟩
  · have := hL.len c hc
    rw [List.length_reverse, ordW_len] at this
    exact Nat.lt_of_lt_of_le this (Nat.le_trans (Nat.pow_le_pow_right (by decide) hz) (by decide))
end My
namespace My
open PySem L2 DV
/-! ### ways and whether they are open -/
theorem are_joined_ok {w : Web} {a b : Nat} (ha : a < w.length) (hb : b < w.length) : F_are_joined [tW w, .int (a : Int), .int (b : Int)] = .ok (.bl (jn w a b)) := by
  unfold F_are_joined
  rw [defF_ev]
  show flR (g_are_joined [some (.im (tW w)), some (.im (.int (a : Int))), some (.im (.int (b : Int)))]) = _
  unfold g_are_joined jn
  simp only [ev_ret, ev_orV, ev_bin, ev_var, List.getElem?_cons_succ, List.getElem?_cons_zero, Res.bind_ok, ix_lean ha, ix_lean hb, tI_in, Bool.false_eq_true, if_false, D.int]
  cases decide ((a : Int) ∈ leanW w b) <;> rfl
theorem getD_lt {v : List Nat} {k n : Nat} (h : ∀ c ∈ v, c < n) (hk : k < v.length) : v.getD k 0 < n := by
  rw [List.getD_eq_getElem?_getD, List.getElem?_eq_getElem hk]
  exact h _ (List.getElem_mem hk)
theorem ix_v {v : List Nat} {k : Nat} (h : k < v.length) : oIx (tI (cN v)) (.v (.int (k : Int))) = .ok (.v (.int ((v.getD k 0 : Nat) : Int))) := by
  unfold oIx tI cN
  dsimp only
  rw [at_nat, List.getElem?_map, List.getElem?_map, List.getElem?_eq_getElem h]
  rw [List.getD_eq_getElem?_getD, List.getElem?_eq_getElem h]
  rfl
theorem ix_last {v : List Nat} (h : v ≠ []) : oIx (tI (cN v)) (.v (.int (-1))) = .ok (.v (.int ((v.getD (v.length - 1) 0 : Nat) : Int))) := by
  have hl : 0 < v.length := List.length_pos_iff.mpr h
  unfold oIx tI
  dsimp only
  have e : atI ((cN v).map D.int) (-1) = ((cN v).map D.int)[v.length - 1]? := by
    unfold atI ixN
    have hlen : ((cN v).map D.int).length = v.length := by unfold cN; simp
    rw [hlen, if_neg (by omega), if_pos (by omega)]
    have : ((-1 : Int) + (v.length : Int)).toNat = v.length - 1 := by omega
    rw [this]
    rfl
  rw [e]
  unfold cN
  rw [List.getElem?_map, List.getElem?_map, List.getElem?_eq_getElem (by omega)]
  rw [List.getD_eq_getElem?_getD, List.getElem?_eq_getElem (by omega)]
  rfl
theorem lets_ok {w : Web} {line : List Nat} (ha : Along w line) (hp : plainW w = true) {n : Nat} (hn : n = w.length) {L : Nat → List Int} (hL : ∀ c, c < w.length → ∀ x : Int, x ∈ L c ↔ ∃ x' : Nat, x = (x' : Int) ∧ x' < w.length ∧ Dn w c x') (hlen : ∀ c, c < w.length → (L c).length < 64) {v : List Nat} (hr : ∀ c ∈ v, c < w.length) (seen : List Int) {k : Nat} (h1 : 1 ≤ k) (h2 : k + 1 < v.length) :
    F_lets_through [tW w, .dct (keysD (kvL n L)) (valsD (kvL n L)), .tup [.int ((v.getD (k - 1) 0 : Nat) : Int), .int ((v.getD k 0 : Nat) : Int), .int ((v.getD (k + 1) 0 : Nat) : Int)], tI seen] = .ok (.bl (ltW w seen v k)) := by
  have hk := getD_lt hr (show k < v.length by omega)
  unfold F_lets_through
  rw [defF_ev]
  show flR (g_lets_through [some (.im (tW w)), some (.im (.dct (keysD (kvL n L)) (valsD (kvL n L)))), some (.im (.tup [.int ((v.getD (k - 1) 0 : Nat) : Int), .int ((v.getD k 0 : Nat) : Int), .int ((v.getD (k + 1) 0 : Nat) : Int)])), some (.im (tI seen)), none, none, none, none]) = _
  unfold g_lets_through ltW
  have ht : (cAndT (cTest (cBin (oInA false) (cVar 4) (cBin oIx (cVar 0) (cVar 5)))) (cTest (cBin (oInA false) (cVar 6) (cBin oIx (cVar 0) (cVar 5))))) [some (.im (tW w)), some (.im (.dct (keysD (kvL n L)) (valsD (kvL n L)))), some (.im (.tup [.int ((v.getD (k - 1) 0 : Nat) : Int), .int ((v.getD k 0 : Nat) : Int), .int ((v.getD (k + 1) 0 : Nat) : Int)])), some (.im (tI seen)), some (.im (.int ((v.getD (k - 1) 0 : Nat) : Int))), some (.im (.int ((v.getD k 0 : Nat) : Int))), some (.im (.int ((v.getD (k + 1) 0 : Nat) : Int))), none] = .ok (mtW w v k) := by
    simp only [ev_andT, ev_test, ev_bin, ev_var, List.getElem?_cons_succ, List.getElem?_cons_zero, Res.bind_ok, ix_lean hk, tI_in, Bool.false_eq_true, if_false, D.int, ev_asB]
    unfold mtW
    cases decide (((v.getD (k - 1) 0 : Nat) : Int) ∈ leanW w (v.getD k 0)) <;> rfl
  have st : cAsgG (bTup 3 (bCons (bName 4) (bCons (bName 5) (bCons (bName 6) bNil)))) (cVar 2) [some (.im (tW w)), some (.im (.dct (keysD (kvL n L)) (valsD (kvL n L)))), some (.im (.tup [.int ((v.getD (k - 1) 0 : Nat) : Int), .int ((v.getD k 0 : Nat) : Int), .int ((v.getD (k + 1) 0 : Nat) : Int)])), some (.im (tI seen)), none, none, none, none] = .nx [some (.im (tW w)), some (.im (.dct (keysD (kvL n L)) (valsD (kvL n L)))), some (.im (.tup [.int ((v.getD (k - 1) 0 : Nat) : Int), .int ((v.getD k 0 : Nat) : Int), .int ((v.getD (k + 1) 0 : Nat) : Int)])), some (.im (tI seen)), some (.im (.int ((v.getD (k - 1) 0 : Nat) : Int))), some (.im (.int ((v.getD k 0 : Nat) : Int))), some (.im (.int ((v.getD (k + 1) 0 : Nat) : Int))), none] := rfl
  cases hm : mtW w v k with
  | true =>
    rw [hm] at ht
    rw [if_pos rfl, ← lets_eq ha hp hk (hL _ hk) seen]
    have hany := any_lc (δ := [some (.im (tW w)), some (.im (.dct (keysD (kvL n L)) (valsD (kvL n L)))), some (.im (.tup [.int ((v.getD (k - 1) 0 : Nat) : Int), .int ((v.getD k 0 : Nat) : Int), .int ((v.getD (k + 1) 0 : Nat) : Int)])), some (.im (tI seen)), some (.im (.int ((v.getD (k - 1) 0 : Nat) : Int))), some (.im (.int ((v.getD k 0 : Nat) : Int))), some (.im (.int ((v.getD (k + 1) 0 : Nat) : Int))), none]) (vs := [7]) (fi := cItems (cBin oIxD (cVar 1) (cVar 5))) (b := bName 7) (e := cBin (oInA false) (cVar 7) (cVar 3)) D.int (fun x => decide (x ∈ seen)) (L (v.getD k 0)) (by
        have := ixD_L (n := n) (k := v.getD k 0) (L := L) (by omega)
        simp only [ev_items, ev_bin, ev_var, List.getElem?_cons_succ, List.getElem?_cons_zero, Res.bind_ok, this, ev_items_l, D.int]) (small_z (by have := hlen _ hk; omega)) (fun x hx => ⟨_, rfl, by simp⟩)
    exact (congrArg flR (seq_nx st (seq_rt (if_t ht (ret_rt (d := .bl (decide (((v.getD k 0 : Nat) : Int) ∈ seen) || (L (v.getD k 0)).any fun x => decide (x ∈ seen))) (by
      rw [ev_orV, hany]
      simp only [ev_bin, ev_var, List.getElem?_cons_succ, List.getElem?_cons_zero, Res.bind_ok, tI_in, Bool.false_eq_true, if_false, D.int]
      cases decide (((v.getD k 0 : Nat) : Int) ∈ seen) <;> rfl)))))).trans rfl
  | false =>
    rw [hm] at ht
    rw [if_neg Bool.false_ne_true]
    exact (congrArg flR (seq_nx st (seq_nx (if_f ht rfl) (ret_rt (d := .bl (!decide (((v.getD k 0 : Nat) : Int) ∈ seen))) (by simp))))).trans rfl
theorem cut3 {v : List Nat} {k : Nat} (h1 : 1 ≤ k) (h2 : k + 1 < v.length) : cutD ((cN v).map D.int) (some ((k : Int) - 1)) (some ((k : Int) + 2)) = [.int ((v.getD (k - 1) 0 : Nat) : Int), .int ((v.getD k 0 : Nat) : Int), .int ((v.getD (k + 1) 0 : Nat) : Int)] := by
  obtain ⟨j, rfl⟩ : ∃ j, k = j + 1 := ⟨k - 1, by omega⟩
  rw [cutD_map]
  have hlen : (cN v).length = v.length := by unfold cN; simp
  rw [hlen, show (((j + 1 : Nat) : Int) - 1) = ((j : Nat) : Int) by omega, show (((j + 1 : Nat) : Int) + 2) = ((j + 3 : Nat) : Int) by omega, HT.sIx_nat, HT.sIx_nat, Nat.min_eq_left (by omega), Nat.min_eq_left (by omega)]
  have e : (v.drop j).take 3 = [v.getD j 0, v.getD (j + 1) 0, v.getD (j + 2) 0] := by
    rw [List.drop_eq_getElem_cons (by omega), List.drop_eq_getElem_cons (by omega), List.drop_eq_getElem_cons (by omega)]
    simp only [List.take_succ_cons, List.take_zero]
    simp only [List.getD_eq_getElem?_getD]
    rw [List.getElem?_eq_getElem (by omega), List.getElem?_eq_getElem (by omega), List.getElem?_eq_getElem (by omega)]
    rfl
  have : j + 3 - j = 3 := by omega
  rw [this]
  unfold cN
  rw [← List.map_drop, ← List.map_take, e]
  rfl
theorem passes_ok {w : Web} {line : List Nat} (ha : Along w line) (hp : plainW w = true) {n : Nat} (hn : n = w.length) {L : Nat → List Int} (hL : ∀ c, c < w.length → ∀ x : Int, x ∈ L c ↔ ∃ x' : Nat, x = (x' : Int) ∧ x' < w.length ∧ Dn w c x') (hlen : ∀ c, c < w.length → (L c).length < 64) {v : List Nat} (hz : v.length ≤ 60) (hr : ∀ c ∈ v, c < w.length) (h2 : 2 ≤ v.length) (seen : List Int) :
    F_passes [tW w, .dct (keysD (kvL n L)) (valsD (kvL n L)), tI (cN v), tI seen] = .ok (.bl (psW w seen v)) := by
  have hcl : (cN v).length = v.length := by unfold cN; simp
  have hall := all_lc (δ := [some (.im (tW w)), some (.im (.dct (keysD (kvL n L)) (valsD (kvL n L)))), some (.im (tI (cN v))), some (.im (tI seen)), none]) (vs := [4]) (fi := cIt gRange2 (cCons (cC (.int 1)) (cCons (cBin oSub (cCall gLen (cCons (cVar 2) cNil)) (cC (.int 1))) cNil))) (b := bName 4) (e := cFn0 F_lets_through (cCons (cVar 0) (cCons (cVar 1) (cCons (cSl (cVar 2) (cSome (cBin oSub (cVar 4) (cC (.int 1)))) (cSome (cBin oAdd (cVar 4) (cC (.int 2))))) (cCons (cVar 3) cNil))))) (fun (k : Nat) => D.int (k : Int)) (ltW w seen v) (List.range' 1 (v.length - 2)) (by
      have := rg2 (a := 1) (b := v.length - 1) (by omega) (by omega)
      simp only [ev_it, ev_cons, ev_bin, ev_call, ev_var, ev_c, ev_nil, List.getElem?_cons_succ, List.getElem?_cons_zero, Res.bind_ok, tI_len, ev_sub, D.int, hcl]
      rw [show (v.length : Int) - 1 = ((v.length - 1 : Nat) : Int) by omega, show v.length - 2 = v.length - 1 - 1 by omega]
      exact this) (small_z (by simp; omega)) (fun k hk => ⟨_, rfl, by
      rw [List.mem_range'_1] at hk
      have hl := lets_ok ha hp hn hL hlen hr seen (k := k) (by omega) (by omega)
      have hc := cut3 (v := v) (k := k) (by omega) (by omega)
      simp only [ev_fn0, ev_cons, ev_bin, ev_sl, ev_some, ev_c, ev_nil, ev_bname, ev_wipe1, ev_wipe0, ev_var, List.set_cons_succ, List.set_cons_zero, List.getElem?_cons_succ, List.getElem?_cons_zero, Res.bind_ok, ev_add, ev_sub, ev_asI, D.int] at hl hc ⊢
      unfold tI at hl ⊢
      rw [ev_slt, Res.bind_ok]
      have hc' : cutD ((cN v).map fun i => D.v (V.int i)) (some ((k : Int) - 1)) (some ((k : Int) + 2)) = _ := hc
      rw [hc']
      exact hl⟩)
  unfold F_passes
  rw [defF_ev]
  show flR (g_passes [some (.im (tW w)), some (.im (.dct (keysD (kvL n L)) (valsD (kvL n L)))), some (.im (tI (cN v))), some (.im (tI seen)), none]) = _
  unfold g_passes
  rw [ret_rt hall]
  rfl
end My
namespace My
open PySem L2 DV
/-! ### is_open, and the law's own ways to judge -/
theorem v_ne {v : List Nat} (h : 2 ≤ v.length) : v ≠ [] := fun z => by rw [z] at h; simp at h
theorem below_ok {w : Web} (hp : plainW w = true) (hl : ∀ l ∈ w, l.length ≤ 6) {c : Nat} (hc : c < w.length) : F__law_below [tW w, .int (c : Int)] = .ok (lN (blW w c w.length)) := by
  have hz := (plain_small hp).2
  obtain ⟨δ2, h1, o3, rfl⟩ := for_range (n := w.length) (fun i δ => ∃ o3, δ = [some (.im (tW w)), some (.im (.int (c : Int))), some (.im (lN (blW w c i))), o3, none, none]) (b := bName 3) (g := g__law_below_l1) (fi := cIt gRange1 (cCons (cCall gLen (cCons (cVar 0) cNil)) cNil)) (δ := [some (.im (tW w)), some (.im (.int (c : Int))), some (.im (lN (blW w c 0))), none, none, none]) (range_len w (by omega) rfl) ⟨_, rfl⟩ (by
    rintro i δ hi ⟨o3, rfl⟩
    have bl := blW_len w c i
    have b36 : i * w.length ≤ 36 := Nat.mul_le_mul (show i ≤ 6 by omega) hz
    refine ⟨_, _, rfl, asg_nx (d := lN (blW w c (i + 1))) ?_, _, rfl⟩
    have hlc := lc_keep (δ := [some (.im (tW w)), some (.im (.int (c : Int))), some (.im (lN (blW w c i))), some (.im (.int (0 + (i : Int)))), none, none]) (vs := [4]) (fi := cIt gRange1 (cCons (cCall gLen (cCons (cVar 0) cNil)) cNil)) (b := bName 4) (t := cAndT (cTest (cBin (oInA true) (cVar 4) (cVar 2))) (cTest (cCall gAny (cCons (cL (cLc [5] (cItems (cBin oIx (cVar 0) (cVar 4))) (bName 5) cYes (cBin (oInA false) (cVar 5) (cVar 2)))) cNil)))) (e := cVar 4) (fun (k : Nat) => D.int (k : Int)) (fun (d : Nat) => !inN (blW w c i) (d : Int) && (leanW w d).any (inN (blW w c i))) (fun (k : Nat) => D.int (k : Int)) (List.range w.length) (by
        have := rg1 (n := w.length) (by omega)
        simp only [ev_it, ev_cons, ev_call, ev_var, ev_nil, List.getElem?_cons_succ, List.getElem?_cons_zero, Res.bind_ok, tW_len, D.int]
        exact this) (small_z (by simp; omega)) (fun d hd => by
        have hd' := List.mem_range.mp hd
        refine ⟨_, rfl, ?_, fun _ => rfl⟩
        have han := any_lc (δ := [some (.im (tW w)), some (.im (.int (c : Int))), some (.im (lN (blW w c i))), some (.im (.int (0 + (i : Int)))), some (.im (.int (d : Int))), none]) (vs := [5]) (fi := cItems (cBin oIx (cVar 0) (cVar 4))) (b := bName 5) (e := cBin (oInA false) (cVar 5) (cVar 2)) D.int (inN (blW w c i)) (leanW w d) (by simp [ix_lean hd']) (small_z (by have := hl _ (mem_lean hd'); omega)) (fun x hx => ⟨_, rfl, by simp⟩)
        show cAndT _ _ [some (.im (tW w)), some (.im (.int (c : Int))), some (.im (lN (blW w c i))), some (.im (.int (0 + (i : Int)))), some (.im (.int (d : Int))), none] = _
        rw [ev_andT, ev_test, ev_test, han]
        simp only [ev_bin, ev_var, List.getElem?_cons_succ, List.getElem?_cons_zero, Res.bind_ok, lN_in, if_true, D.int, ev_asB]
        cases inN (blW w c i) (d : Int) <;> simp)
    have fl := List.length_filter_le (fun (d : Nat) => !inN (blW w c i) (d : Int) && (leanW w d).any (inN (blW w c i))) (List.range w.length)
    rw [List.length_range] at fl
    show (cBin oAdd (cVar 2) (cL _)) [some (.im (tW w)), some (.im (.int (c : Int))), some (.im (lN (blW w c i))), some (.im (.int (0 + (i : Int)))), none, none] = _
    rw [ev_bin, ev_L, hlc]
    simp only [ev_var, List.getElem?_cons_succ, List.getElem?_cons_zero, Res.bind_ok]
    rw [lN_map, lN_map]
    unfold oAdd
    dsimp only
    rw [if_pos (small_z (by simp only [List.length_map]; omega)), blW, List.map_append])
  unfold F__law_below
  rw [defF_ev]
  show flR (g__law_below [some (.im (tW w)), some (.im (.int (c : Int))), none, none, none, none]) = _
  unfold g__law_below
  exact (congrArg flR (seq_nx (asg_nx (d := lN (blW w c 0)) rfl) (seq_nx h1 (ret_rt (d := lN (blW w c w.length)) rfl)))).trans rfl
theorem law_passes_ok {w : Web} (hp : plainW w = true) (hl : ∀ l ∈ w, l.length ≤ 6) {v : List Nat} (hz : v.length ≤ 60) (hr : ∀ c ∈ v, c < w.length) (hv : 2 ≤ v.length) (seen : List Int) : F__law_passes [tW w, tI (cN v), tI seen] = .ok (.bl (psW w seen v && endW seen v)) := by
  have hz6 := (plain_small hp).2
  have hcl : (cN v).length = v.length := by unfold cN; simp
  have hfor := forF_ret (fun (k : Nat) => D.int (k : Int)) (fun δ => ∃ o3 o4, δ = [some (.im (tW w)), some (.im (tI (cN v))), some (.im (tI seen)), o3, o4, none]) (ltW w seen v) (.bl false) (b := bName 3) (g := g__law_passes_l1) (List.range' 1 (v.length - 2)) [some (.im (tW w)), some (.im (tI (cN v))), some (.im (tI seen)), none, none, none] ⟨_, _, rfl⟩ (by
    rintro δ k hk ⟨o3, o4, rfl⟩
    rw [List.mem_range'_1] at hk
    have hkv := getD_lt hr (show k < v.length by omega)
    have i0 := ix_v (v := v) (k := k - 1) (by omega)
    have i1 := ix_v (v := v) (k := k) (by omega)
    have i2 := ix_v (v := v) (k := k + 1) (by omega)
    rw [show (((k - 1 : Nat) : Int)) = (k : Int) - 1 by omega] at i0
    rw [show (((k + 1 : Nat) : Int)) = (k : Int) + 1 by omega] at i2
    refine ⟨[some (.im (tW w)), some (.im (tI (cN v))), some (.im (tI seen)), some (.im (.int (k : Int))), o4, none], rfl, ?_⟩
    have st : cAsg 4 (cAndV (cBin (oInA false) (cBin oIx (cVar 1) (cBin oSub (cVar 3) (cC (.int 1)))) (cBin oIx (cVar 0) (cBin oIx (cVar 1) (cVar 3)))) (cBin (oInA false) (cBin oIx (cVar 1) (cBin oAdd (cVar 3) (cC (.int 1)))) (cBin oIx (cVar 0) (cBin oIx (cVar 1) (cVar 3))))) [some (.im (tW w)), some (.im (tI (cN v))), some (.im (tI seen)), some (.im (.int (k : Int))), o4, none] = .nx [some (.im (tW w)), some (.im (tI (cN v))), some (.im (tI seen)), some (.im (.int (k : Int))), some (.im (.bl (mtW w v k))), none] := by
      refine asg_nx ?_
      simp only [ev_andV, ev_bin, ev_c, ev_var, List.getElem?_cons_succ, List.getElem?_cons_zero, Res.bind_ok, i0, i1, i2, ix_lean hkv, ev_add, ev_sub, tI_in, Bool.false_eq_true, if_false, D.int]
      unfold mtW
      cases decide (((v.getD (k - 1) 0 : Nat) : Int) ∈ leanW w (v.getD k 0)) <;> rfl
    have han : (cCall gAny (cCons (cL (cLc [5] (cItems (cIfE (cTest (cVar 4)) (cFn0 F__law_below (cCons (cVar 0) (cCons (cBin oIx (cVar 1) (cVar 3)) cNil))) (cL (cCons (cBin oIx (cVar 1) (cVar 3)) cNil)))) (bName 5) cYes (cBin (oInA false) (cVar 5) (cVar 2)))) cNil)) [some (.im (tW w)), some (.im (tI (cN v))), some (.im (tI seen)), some (.im (.int (k : Int))), some (.im (.bl (mtW w v k))), none] = .ok (.bl ((if mtW w v k = true then blW w (v.getD k 0) w.length else [v.getD k 0]).any fun x => decide ((x : Int) ∈ seen))) := by
      refine any_lc (fun (x : Nat) => D.int (x : Int)) _ _ ?_ ?_ (fun x hx => ⟨_, rfl, by simp⟩)
      · have hb := below_ok hp hl hkv
        simp only [D.int] at hb
        cases mtW w v k with
        | true =>
          simp only [ev_items, ev_ifE, ev_test, ev_var, ev_fn0, ev_cons, ev_bin, ev_nil, List.getElem?_cons_succ, List.getElem?_cons_zero, Res.bind_ok, ev_asB, if_true, i1, hb, lN_items]
        | false =>
          simp only [ev_items, ev_ifE, ev_test, ev_var, ev_L, ev_cons, ev_bin, ev_nil, List.getElem?_cons_succ, List.getElem?_cons_zero, Res.bind_ok, ev_asB, Bool.false_eq_true, if_false, i1, ev_items_l]
          rfl
      · refine small_z ?_
        split
        · have := blW_len w (v.getD k 0) w.length
          have b36 : w.length * w.length ≤ 36 := Nat.mul_le_mul hz6 hz6
          omega
        · simp
    have ht : (cTest (cBin oNe (cVar 4) (cCall gAny (cCons (cL (cLc [5] (cItems (cIfE (cTest (cVar 4)) (cFn0 F__law_below (cCons (cVar 0) (cCons (cBin oIx (cVar 1) (cVar 3)) cNil))) (cL (cCons (cBin oIx (cVar 1) (cVar 3)) cNil)))) (bName 5) cYes (cBin (oInA false) (cVar 5) (cVar 2)))) cNil)))) [some (.im (tW w)), some (.im (tI (cN v))), some (.im (tI seen)), some (.im (.int (k : Int))), some (.im (.bl (mtW w v k))), none] = .ok (!ltW w seen v k) := by
      rw [ev_test, ev_bin, han]
      simp only [ev_var, List.getElem?_cons_succ, List.getElem?_cons_zero, Res.bind_ok, ev_neB, ev_asB]
      unfold ltW
      cases mtW w v k with
      | true =>
        rw [if_pos rfl, if_pos rfl]
        cases ((blW w (v.getD k 0) w.length).any fun x => decide ((x : Int) ∈ seen)) <;> rfl
      | false =>
        rw [if_neg Bool.false_ne_true, if_neg Bool.false_ne_true]
        simp only [List.any_cons, List.any_nil, Bool.or_false]
        cases decide (((v.getD k 0 : Nat) : Int) ∈ seen) <;> rfl
    cases hlt : ltW w seen v k with
    | true =>
      rw [hlt] at ht
      rw [if_pos rfl]
      exact ⟨_, seq_nx st (if_f ht rfl), _, _, rfl⟩
    | false =>
      rw [hlt] at ht
      rw [if_neg Bool.false_ne_true]
      exact seq_nx st (if_t ht (ret_rt rfl)))
  have hi : (cIt gRange2 (cCons (cC (.int 1)) (cCons (cBin oSub (cCall gLen (cCons (cVar 1) cNil)) (cC (.int 1))) cNil))) [some (.im (tW w)), some (.im (tI (cN v))), some (.im (tI seen)), none, none, none] = .ok ((List.range' 1 (v.length - 2)).map fun (k : Nat) => D.int (k : Int)) := by
    have := rg2 (a := 1) (b := v.length - 1) (by omega) (by omega)
    simp only [ev_it, ev_cons, ev_bin, ev_call, ev_var, ev_c, ev_nil, List.getElem?_cons_succ, List.getElem?_cons_zero, Res.bind_ok, tI_len, ev_sub, D.int, hcl]
    rw [show (v.length : Int) - 1 = ((v.length - 1 : Nat) : Int) by omega, show v.length - 2 = v.length - 1 - 1 by omega]
    exact this
  unfold F__law_passes
  rw [defF_ev]
  show flR (g__law_passes [some (.im (tW w)), some (.im (tI (cN v))), some (.im (tI seen)), none, none, none]) = _
  unfold g__law_passes
  cases hb : psW w seen v with
  | false =>
    unfold psW at hb
    rw [hb, if_neg Bool.false_ne_true] at hfor
    exact (congrArg flR (seq_rt (for_r hi hfor))).trans rfl
  | true =>
    unfold psW at hb
    rw [hb, if_pos rfl] at hfor
    obtain ⟨δ2, e, o3, o4, rfl⟩ := hfor
    have i0 := ix_v (v := v) (k := 0) (by omega)
    have i0' : oIx (tI (cN v)) (.v (.int 0)) = _ := i0
    have iz := ix_last (v_ne hv)
    refine (congrArg flR (seq_nx (for_r hi e) (ret_rt (d := .bl (endW seen v)) ?_))).trans rfl
    simp only [ev_andV, ev_bin, ev_un, ev_c, ev_neg, ev_var, List.getElem?_cons_succ, List.getElem?_cons_zero, Res.bind_ok, i0', iz, tI_in, if_true, D.int]
    unfold endW
    cases decide (((v.getD 0 0 : Nat) : Int) ∈ seen) <;> rfl
end My
namespace My
open PySem L2 DV
/-! ### the law's ways -/
def tN (v : List Nat) : D := tI (cN v)
def lastN (v : List Nat) : Nat := v.getD (v.length - 1) 0
def stT (w : Web) (v : List Nat) (c : Nat) : Bool := !decide (c ∈ v) && (decide ((c : Int) ∈ leanW w (lastN v)) || decide (((lastN v : Nat) : Int) ∈ leanW w c))
def extW (w : Web) (v : List Nat) : List (List Nat) := ((List.range w.length).filter (stT w v)).map fun c => v ++ [c]
theorem noLst_tN : ∀ L : List (List Nat), D.noLstA (L.map tN) = true
  | [] => rfl
  | v :: L => by
    rw [List.map_cons, D.noLstA, noLst_tN L, show (tN v).noLst = true from tI_noLst _]
    rfl
theorem cN_app (v : List Nat) (c : Nat) : cN (v ++ [c]) = cN v ++ [(c : Int)] := by unfold cN; rw [List.map_append]; rfl
theorem cN_len (v : List Nat) : (cN v).length = v.length := by unfold cN; simp
theorem mem_cN {v : List Nat} {c : Nat} : ((c : Int) ∈ cN v) ↔ c ∈ v := by
  unfold cN
  rw [List.mem_map]
  constructor
  · rintro ⟨k, hk, e⟩
    have : k = c := by omega
    rw [← this]; exact hk
  · intro h
    exact ⟨c, h, rfl⟩
abbrev sV (w : Web) (a b : Nat) (F L : List (List Nat)) (o5 : Option O) (G : List (List Nat)) (o7 o8 : Option O) : DS := [some (.im (tW w)), some (.im (.int (a : Int))), some (.im (.int (b : Int))), some (.im (.lst (F.map tN))), some (.im (.lst (L.map tN))), o5, some (.ow (G.map tN)), o7, o8]
theorem ext1 {w : Web} {a b : Nat} {F L G : List (List Nat)} {v : List Nat} {o5 o8 : Option O} (hz : w.length ≤ 6) (hv : v ≠ []) (hr : ∀ c ∈ v, c < w.length) (hvl : v.length ≤ 60) (hG : G.length ≤ 1000000) :
    ∃ o8', g__law_ways_l2 (sV w a b F L o5 G (some (.im (tN v))) o8) = .nx (sV w a b F L o5 (G ++ extW w v) (some (.im (tN v))) o8') := by
  have hvp : 0 < v.length := List.length_pos_iff.mpr hv
  have hlast : lastN v < w.length := getD_lt hr (by omega)
  have iz := ix_last hv
  obtain ⟨δ2, h1, o8', rfl⟩ := for_done (fun (k : Nat) => D.int (k : Int)) (fun done δ => ∃ o8, δ = sV w a b F L o5 (G ++ (done.filter (stT w v)).map fun c => v ++ [c]) (some (.im (tN v))) o8) (b := bName 8) (g := g__law_ways_l1) (fi := cIt gRange1 (cCons (cCall gLen (cCons (cVar 0) cNil)) cNil)) (List.range w.length) (δ := sV w a b F L o5 G (some (.im (tN v))) o8) (by
      have := rg1 (n := w.length) (by omega)
      simp only [ev_it, ev_cons, ev_call, ev_var, ev_nil, List.getElem?_cons_succ, List.getElem?_cons_zero, Res.bind_ok, tW_len, D.int]
      exact this) ⟨o8, by simp⟩ (by
    rintro done c rest δ hall ⟨o8, rfl⟩
    have hc : c < w.length := List.mem_range.mp (by rw [← hall]; simp)
    have dl := pre_len hall
    rw [List.length_range] at dl
    have ht : (cAndT (cTest (cBin (oInA true) (cVar 8) (cVar 7))) (cOrT (cTest (cBin (oInA false) (cVar 8) (cBin oIx (cVar 0) (cBin oIx (cVar 7) (cUn oNeg (cC (.int 1))))))) (cTest (cBin (oInA false) (cBin oIx (cVar 7) (cUn oNeg (cC (.int 1)))) (cBin oIx (cVar 0) (cVar 8)))))) (sV w a b F L o5 (G ++ (done.filter (stT w v)).map fun c => v ++ [c]) (some (.im (tN v))) (some (.im (.int (c : Int))))) = .ok (stT w v c) := by
      have iz' : oIx (tN v) (.v (.int (-1))) = .ok (.v (.int ((lastN v : Nat) : Int))) := iz
      have hin : oInA true (.v (.int (c : Int))) (tN v) = .ok (.bl (!decide (c ∈ v))) := by
        rw [show tN v = tI (cN v) from rfl, tI_in, if_pos rfl]
        congr 3
        rw [decide_eq_decide]
        exact mem_cN
      simp only [ev_andT, ev_orT, ev_test, ev_bin, ev_un, ev_c, ev_neg, ev_var, List.getElem?_cons_succ, List.getElem?_cons_zero, Res.bind_ok, hin, iz', ix_lean hlast, ix_lean hc, tI_in, Bool.false_eq_true, if_false, ev_asB, D.int]
      unfold stT
      cases decide (c ∈ v) <;> cases decide ((c : Int) ∈ leanW w (lastN v)) <;> rfl
    cases hb : stT w v c with
    | false =>
      rw [hb] at ht
      refine ⟨sV w a b F L o5 (G ++ (done.filter (stT w v)).map fun c => v ++ [c]) (some (.im (tN v))) (some (.im (.int (c : Int)))), _, rfl, if_f ht rfl, some (.im (.int (c : Int))), ?_⟩
      rw [List.filter_append]
      simp [hb]
    | true =>
      rw [hb] at ht
      refine ⟨sV w a b F L o5 (G ++ (done.filter (stT w v)).map fun c => v ++ [c]) (some (.im (tN v))) (some (.im (.int (c : Int)))), sV w a b F L o5 (G ++ ((done.filter (stT w v)).map fun c => v ++ [c]) ++ [v ++ [c]]) (some (.im (tN v))) (some (.im (.int (c : Int)))), rfl, if_t ht ?_, some (.im (.int (c : Int))), ?_⟩
      · have hadd : oAdd (tN v) (.tup [.v (.int (c : Int))]) = .ok (tN (v ++ [c])) := by
          unfold tN
          rw [cN_app]
          exact tI_add _ [(c : Int)] (small_z (by rw [cN_len]; simp; omega))
        have fl := List.length_filter_le (stT w v) done
        have hz' : ((G ++ (done.filter (stT w v)).map fun c => v ++ [c]).map tN).length < sizeLine := by
          rw [sizeLine_eq]
          simp only [List.length_map, List.length_append]
          omega
        rw [ev_app]
        simp only [List.getElem?_cons_succ, List.getElem?_cons_zero, ev_bin, ev_tup, ev_cons, ev_var, ev_nil, Res.bind_ok, D.int, hadd, stE_ok, if_pos hz']
        unfold sV
        rw [List.map_append (l₂ := [v ++ [c]])]
        rfl
      · rw [List.filter_append, List.map_append]
        simp [hb])
  exact ⟨o8', h1⟩
structure Ways (w : Web) (i : Nat) (F L : List (List Nat)) : Prop where
  ll : ∀ v ∈ L, v.length = i + 1 ∧ ∀ c ∈ v, c < w.length
  fl : ∀ v ∈ F, 2 ≤ v.length ∧ v.length ≤ i + 1 ∧ ∀ c ∈ v, c < w.length
  ln : L.length ≤ 6 ^ i
  fn : F.length ≤ 2 * 6 ^ i
theorem ext_mem {w : Web} {v u : List Nat} (h : u ∈ extW w v) : ∃ c, c < w.length ∧ u = v ++ [c] := by
  unfold extW at h
  obtain ⟨c, hc, rfl⟩ := List.mem_map.mp h
  exact ⟨c, List.mem_range.mp (List.mem_filter.mp hc).1, rfl⟩
theorem ext_len (w : Web) (v : List Nat) : (extW w v).length ≤ w.length := by
  unfold extW
  have := List.length_filter_le (stT w v) (List.range w.length)
  simpa using this
theorem pow6 {i : Nat} (h : i ≤ 6) : 6 ^ i ≤ 46656 := Nat.le_trans (Nat.pow_le_pow_right (by decide) h) (by decide)
theorem ways_turn {w : Web} {a b i : Nat} {F L : List (List Nat)} {o5 : Option O} {δ : DS} (hz : w.length ≤ 6) (hi : i < w.length) (h : Ways w i F L) (o6 o7 o8 : Option O) (hδ : δ = [some (.im (tW w)), some (.im (.int (a : Int))), some (.im (.int (b : Int))), some (.im (.lst (F.map tN))), some (.im (.lst (L.map tN))), o5, o6, o7, o8]) :
    ∃ F' L' o6' o7' o8', g__law_ways_l3 δ = .nx [some (.im (tW w)), some (.im (.int (a : Int))), some (.im (.int (b : Int))), some (.im (.lst (F'.map tN))), some (.im (.lst (L'.map tN))), o5, o6', o7', o8'] ∧ Ways w (i + 1) F' L' ∧ F' = F ++ (L.flatMap (extW w)).filter (fun v => decide ((lastN v : Int) = (b : Int))) ∧ L' = (L.flatMap (extW w)).filter (fun v => !decide ((lastN v : Int) = (b : Int))) := by
  subst hδ
  have p6 := pow6 (show i ≤ 6 by omega)
  have p6' := pow6 (show i + 1 ≤ 6 by omega)
  have pe : 6 ^ (i + 1) = 6 * 6 ^ i := by rw [Nat.pow_succ]; omega
  have lnn := h.ln
  have fnn := h.fn
  obtain ⟨δ2, h1, o7', o8', rfl⟩ := for_done tN (fun done δ => ∃ o7 o8, δ = sV w a b F L o5 (done.flatMap (extW w)) o7 o8) (b := bName 7) (g := g__law_ways_l2) (fi := cItems (cVar 4)) L (δ := sV w a b F L o5 [] o7 o8) (by simp) ⟨_, _, rfl⟩ (by
    rintro done v rest δ hall ⟨o7, o8, rfl⟩
    have hv : v ∈ L := by rw [← hall]; simp
    obtain ⟨v1, v2⟩ := h.ll v hv
    have dl := pre_len hall
    have gl : (done.flatMap (extW w)).length ≤ 6 * done.length := flat_len fun y _ => by have := ext_len w y; omega
    obtain ⟨o8', e⟩ := ext1 (w := w) (a := a) (b := b) (F := F) (L := L) (G := done.flatMap (extW w)) (v := v) (o5 := o5) (o8 := o8) hz (fun z => by rw [z] at v1; simp at v1) v2 (by omega) (by omega)
    refine ⟨_, _, rfl, e, some (.im (tN v)), o8', ?_⟩
    rw [List.flatMap_append]
    simp)
  have Gm : ∀ u ∈ L.flatMap (extW w), u.length = i + 2 ∧ (∀ c ∈ u, c < w.length) ∧ u ≠ [] := fun u hu => by
    obtain ⟨v, hv, hu⟩ := List.mem_flatMap.mp hu
    obtain ⟨v1, v2⟩ := h.ll v hv
    obtain ⟨c, hc, rfl⟩ := ext_mem hu
    refine ⟨by rw [List.length_append, v1]; rfl, fun d hd => ?_, by simp⟩
    rcases List.mem_append.mp hd with hd | hd
    · exact v2 d hd
    · rw [List.mem_singleton.mp hd]; exact hc
  have Gl : (L.flatMap (extW w)).length ≤ 6 * L.length := flat_len fun y _ => by have := ext_len w y; omega
  have l1 := lc_keep (δ := [some (.im (tW w)), some (.im (.int (a : Int))), some (.im (.int (b : Int))), some (.im (.lst (F.map tN))), some (.im (.lst (L.map tN))), o5, some (.im (.lst ((L.flatMap (extW w)).map tN))), o7', o8']) (vs := [7]) (fi := cItems (cVar 6)) (b := bName 7) (t := cTest (cBin oEq (cBin oIx (cVar 7) (cUn oNeg (cC (.int 1)))) (cVar 2))) (e := cVar 7) tN (fun v => decide ((lastN v : Int) = (b : Int))) tN (L.flatMap (extW w)) (by simp) (by rw [sizeLine_eq]; omega) (fun v hv => ⟨_, rfl, by
      have iz' : oIx (tN v) (.v (.int (-1))) = .ok (.v (.int ((lastN v : Nat) : Int))) := ix_last (Gm v hv).2.2
      simp only [ev_test, ev_bin, ev_un, ev_c, ev_neg, ev_bname, ev_wipe1, ev_wipe0, ev_var, List.set_cons_succ, List.set_cons_zero, List.getElem?_cons_succ, List.getElem?_cons_zero, Res.bind_ok, iz', ev_eqI, ev_asB, D.int], fun _ => rfl⟩)
  have l2 := fun (F2 : List (List Nat)) => lc_keep (δ := [some (.im (tW w)), some (.im (.int (a : Int))), some (.im (.int (b : Int))), some (.im (.lst (F2.map tN))), some (.im (.lst (L.map tN))), o5, some (.im (.lst ((L.flatMap (extW w)).map tN))), o7', o8']) (vs := [7]) (fi := cItems (cVar 6)) (b := bName 7) (t := cTest (cBin oNe (cBin oIx (cVar 7) (cUn oNeg (cC (.int 1)))) (cVar 2))) (e := cVar 7) tN (fun v => !decide ((lastN v : Int) = (b : Int))) tN (L.flatMap (extW w)) (by simp) (by rw [sizeLine_eq]; omega) (fun v hv => ⟨_, rfl, by
      have iz' : oIx (tN v) (.v (.int (-1))) = .ok (.v (.int ((lastN v : Nat) : Int))) := ix_last (Gm v hv).2.2
      simp only [ev_test, ev_bin, ev_un, ev_c, ev_neg, ev_bname, ev_wipe1, ev_wipe0, ev_var, List.set_cons_succ, List.set_cons_zero, List.getElem?_cons_succ, List.getElem?_cons_zero, Res.bind_ok, iz', ev_neI, ev_asB, D.int], fun _ => rfl⟩)
  have f1 := List.length_filter_le (fun v => decide ((lastN v : Int) = (b : Int))) (L.flatMap (extW w))
  have f2 := List.length_filter_le (fun v => !decide ((lastN v : Int) = (b : Int))) (L.flatMap (extW w))
  refine ⟨F ++ (L.flatMap (extW w)).filter (fun v => decide ((lastN v : Int) = (b : Int))), (L.flatMap (extW w)).filter (fun v => !decide ((lastN v : Int) = (b : Int))), some (.ow ((L.flatMap (extW w)).map tN)), o7', o8', seq_nx (own_nx (ds := []) rfl) (seq_nx h1 (seq_nx (asg_nx (d := .lst ((F ++ (L.flatMap (extW w)).filter (fun v => decide ((lastN v : Int) = (b : Int)))).map tN)) ?_) (asg_nx (d := .lst (((L.flatMap (extW w)).filter (fun v => !decide ((lastN v : Int) = (b : Int)))).map tN)) ?_))), ⟨?_, ?_, ?_, ?_⟩, rfl, rfl⟩
  · rw [ev_L]
    have : cLookG 6 (cCat (cVar 3) (cL (cLc [7] (cItems (cVar 6)) (bName 7) (cTest (cBin oEq (cBin oIx (cVar 7) (cUn oNeg (cC (.int 1)))) (cVar 2))) (cVar 7)))) (sV w a b F L o5 (L.flatMap (extW w)) o7' o8') = .ok ((F ++ (L.flatMap (extW w)).filter (fun v => decide ((lastN v : Int) = (b : Int)))).map tN) := by
      unfold cLookG
      have e : fz 6 (sV w a b F L o5 (L.flatMap (extW w)) o7' o8') = [some (.im (tW w)), some (.im (.int (a : Int))), some (.im (.int (b : Int))), some (.im (.lst (F.map tN))), some (.im (.lst (L.map tN))), o5, some (.im (.lst ((L.flatMap (extW w)).map tN))), o7', o8'] := rfl
      rw [e]
      unfold cCat
      rw [ev_L, l1]
      simp only [ev_var, List.getElem?_cons_succ, List.getElem?_cons_zero, Res.bind_ok]
      rw [if_pos (by rw [sizeLine_eq]; simp only [List.length_map]; omega), ← List.map_append]
      dsimp only
      rw [if_pos ⟨noLst_tN _, rfl⟩]
    rw [this]
    rfl
  · rw [ev_L]
    have : cLookG 6 (cLc [7] (cItems (cVar 6)) (bName 7) (cTest (cBin oNe (cBin oIx (cVar 7) (cUn oNeg (cC (.int 1)))) (cVar 2))) (cVar 7)) (sV w a b (F ++ (L.flatMap (extW w)).filter (fun v => decide ((lastN v : Int) = (b : Int)))) L o5 (L.flatMap (extW w)) o7' o8') = .ok (((L.flatMap (extW w)).filter (fun v => !decide ((lastN v : Int) = (b : Int)))).map tN) := by
      unfold cLookG
      have e : fz 6 (sV w a b (F ++ (L.flatMap (extW w)).filter (fun v => decide ((lastN v : Int) = (b : Int)))) L o5 (L.flatMap (extW w)) o7' o8') = [some (.im (tW w)), some (.im (.int (a : Int))), some (.im (.int (b : Int))), some (.im (.lst ((F ++ (L.flatMap (extW w)).filter (fun v => decide ((lastN v : Int) = (b : Int)))).map tN))), some (.im (.lst (L.map tN))), o5, some (.im (.lst ((L.flatMap (extW w)).map tN))), o7', o8'] := rfl
      rw [e, l2]
      dsimp only
      rw [if_pos ⟨noLst_tN _, rfl⟩]
    show Res.bind (cLookG 6 _ (sV w a b (F ++ (L.flatMap (extW w)).filter (fun v => decide ((lastN v : Int) = (b : Int)))) L o5 (L.flatMap (extW w)) o7' o8')) _ = _
    rw [this]
    rfl
  · intro v hv
    obtain ⟨g1, g2, _⟩ := Gm v (List.mem_filter.mp hv).1
    exact ⟨g1, g2⟩
  · intro v hv
    rcases List.mem_append.mp hv with hv | hv
    · obtain ⟨a1, a2, a3⟩ := h.fl v hv
      exact ⟨a1, by omega, a3⟩
    · obtain ⟨g1, g2, _⟩ := Gm v (List.mem_filter.mp hv).1
      exact ⟨by omega, by omega, g2⟩
  · omega
  · rw [List.length_append]
    omega
/-- the ways that have not come to the end behind i steps, and those that have -/
def lnW (w : Web) (a b : Nat) : Nat → List (List Nat)
  | 0 => [[a]]
  | i + 1 => ((lnW w a b i).flatMap (extW w)).filter (fun v => !decide ((lastN v : Int) = (b : Int)))
def fdW (w : Web) (a b : Nat) : Nat → List (List Nat)
  | 0 => []
  | i + 1 => fdW w a b i ++ ((lnW w a b i).flatMap (extW w)).filter (fun v => decide ((lastN v : Int) = (b : Int)))
theorem ways_all {w : Web} {a b : Nat} (hz : w.length ≤ 6) (ha : a < w.length) : ∀ i, i ≤ w.length → Ways w i (fdW w a b i) (lnW w a b i)
  | 0, _ => by
    refine ⟨fun v hv => ?_, fun v hv => (by cases hv), by simp [lnW], by simp [fdW]⟩
    rw [List.mem_singleton.mp hv]
    refine ⟨rfl, fun c hc => ?_⟩
    rw [List.mem_singleton.mp hc]
    exact ha
  | i + 1, hi => by
    obtain ⟨F', L', _, _, _, _, h, rfl, rfl⟩ := ways_turn (w := w) (a := a) (b := b) (o5 := none) hz (show i < w.length by omega) (ways_all hz ha i (by omega)) none none none rfl
    exact h
theorem ways_ok {w : Web} {a b : Nat} (hz : w.length ≤ 6) (ha : a < w.length) : F__law_ways [tW w, .int (a : Int), .int (b : Int)] = .ok (.lst ((fdW w a b w.length).map tN)) := by
  obtain ⟨δ2, h1, o5, o6, o7, o8, rfl⟩ := for_range (n := w.length) (fun i δ => ∃ o5 o6 o7 o8, δ = [some (.im (tW w)), some (.im (.int (a : Int))), some (.im (.int (b : Int))), some (.im (.lst ((fdW w a b i).map tN))), some (.im (.lst ((lnW w a b i).map tN))), o5, o6, o7, o8]) (b := bName 5) (g := g__law_ways_l3) (fi := cIt gRange1 (cCons (cCall gLen (cCons (cVar 0) cNil)) cNil)) (δ := [some (.im (tW w)), some (.im (.int (a : Int))), some (.im (.int (b : Int))), some (.im (.lst [])), some (.im (.lst [tN [a]])), none, none, none, none]) (range_len w (by omega) rfl) ⟨none, none, none, none, rfl⟩ (by
    rintro i δ hi ⟨o5, o6, o7, o8, rfl⟩
    obtain ⟨F', L', o6', o7', o8', e, -, rfl, rfl⟩ := ways_turn (a := a) (b := b) (o5 := some (.im (.int (0 + (i : Int))))) hz hi (ways_all hz ha i (by omega)) o6 o7 o8 rfl
    exact ⟨_, _, rfl, e, _, _, _, _, rfl⟩)
  unfold F__law_ways
  rw [defF_ev]
  show flR (g__law_ways [some (.im (tW w)), some (.im (.int (a : Int))), some (.im (.int (b : Int))), none, none, none, none, none, none]) = _
  unfold g__law_ways
  exact (congrArg flR (seq_nx (asg_nx (d := .lst []) rfl) (seq_nx (asg_nx (d := .lst [tN [a]]) rfl) (seq_nx h1 (ret_rt (d := .lst ((fdW w a b w.length).map tN)) rfl))))).trans rfl
/-! ### the ways, plainly -/
theorem last_app (v : List Nat) (c : Nat) : lastN (v ++ [c]) = c := by
  unfold lastN
  rw [List.getD_eq_getElem?_getD]
  simp
theorem head_app {v : List Nat} {c : Nat} (h : v ≠ []) : (v ++ [c]).getD 0 0 = v.getD 0 0 := by
  cases v with
  | nil => exact absurd rfl h
  | cons x v => rfl
theorem ext_nodup {w : Web} {v u : List Nat} (hn : v.Nodup) (h : u ∈ extW w v) : u.Nodup := by
  unfold extW at h
  obtain ⟨c, hc, rfl⟩ := List.mem_map.mp h
  have := (List.mem_filter.mp hc).2
  unfold stT at this
  rw [Bool.and_eq_true, Bool.not_eq_true', decide_eq_false_iff_not] at this
  rw [List.nodup_append]
  refine ⟨hn, by simp, fun x hx y hy => ?_⟩
  rw [List.mem_singleton.mp hy]
  intro z
  exact this.1 (by rw [← z]; exact hx)
theorem ln_nodup {w : Web} {a b : Nat} : ∀ i, ∀ v ∈ lnW w a b i, v.Nodup ∧ v ≠ [] ∧ v.getD 0 0 = a
  | 0, v, h => by
    rw [List.mem_singleton.mp h]
    simp
  | i + 1, v, h => by
    rw [lnW, List.mem_filter, List.mem_flatMap] at h
    obtain ⟨⟨u, hu, hv⟩, _⟩ := h
    obtain ⟨h1, h2, h3⟩ := ln_nodup i u hu
    obtain ⟨c, _, rfl⟩ := ext_mem hv
    exact ⟨ext_nodup h1 hv, by simp, by rw [head_app h2, h3]⟩
theorem ln_end {w : Web} {a b : Nat} (hz : w.length ≤ 6) (ha : a < w.length) : lnW w a b w.length = [] := by
  cases h : lnW w a b w.length with
  | nil => rfl
  | cons v L =>
    have hv : v ∈ lnW w a b w.length := by rw [h]; simp
    obtain ⟨h1, h2⟩ := (ways_all hz ha w.length (Nat.le_refl _)).ll v hv
    have := List.Nodup.length_le_of_subset (ln_nodup _ v hv).1 (l₂ := List.range w.length) (fun c hc => List.mem_range.mpr (h2 c hc))
    rw [List.length_range] at this
    omega
theorem fd_mem {w : Web} {a b : Nat} {v : List Nat} : ∀ n, v ∈ fdW w a b n ↔ ∃ i, i < n ∧ v ∈ (lnW w a b i).flatMap (extW w) ∧ lastN v = b
  | 0 => by simp [fdW]
  | n + 1 => by
    rw [fdW, List.mem_append, List.mem_filter, decide_eq_true_eq, fd_mem n]
    constructor
    · rintro (⟨i, h1, h2⟩ | ⟨h1, h2⟩)
      · exact ⟨i, by omega, h2⟩
      · exact ⟨n, by omega, h1, by omega⟩
    · rintro ⟨i, h1, h2, h3⟩
      by_cases e : i = n
      · subst e; exact .inr ⟨h2, by omega⟩
      · exact .inl ⟨i, by omega, h2, h3⟩
/-- the first way that comes through -/
def srch (w : Web) (a b : Nat) (seen : List Int) : Nat → Nat → Option (List Nat)
  | 0, _ => none
  | k + 1, i => match ((lnW w a b i).flatMap (extW w)).find? (fun v => decide ((lastN v : Int) = (b : Int)) && psW w seen v) with
    | some v => some v
    | none => srch w a b seen k (i + 1)
theorem srch_none {w : Web} {a b : Nat} {seen : List Int} : ∀ k i, srch w a b seen k i = none → ∀ j, i ≤ j → j < i + k → ∀ v ∈ (lnW w a b j).flatMap (extW w), lastN v = b → psW w seen v = false
  | 0, i, _, j, h1, h2 => by omega
  | k + 1, i, h, j, h1, h2 => by
    rw [srch] at h
    cases e : ((lnW w a b i).flatMap (extW w)).find? (fun v => decide ((lastN v : Int) = (b : Int)) && psW w seen v) with
    | some v => rw [e] at h; cases h
    | none =>
      rw [e] at h
      by_cases hj : j = i
      · subst hj
        intro v hv hb
        have := List.find?_eq_none.mp e v hv
        rw [Bool.and_eq_true, decide_eq_true_eq] at this
        cases hp : psW w seen v with
        | false => rfl
        | true => exact absurd ⟨by omega, hp⟩ this
      · exact srch_none k (i + 1) h j (by omega) (by omega)
theorem srch_some {w : Web} {a b : Nat} {seen : List Int} {v : List Nat} : ∀ k i, srch w a b seen k i = some v → ∃ j, i ≤ j ∧ j < i + k ∧ v ∈ (lnW w a b j).flatMap (extW w) ∧ lastN v = b ∧ psW w seen v = true ∧ ∀ j', i ≤ j' → j' < j → ∀ u ∈ (lnW w a b j').flatMap (extW w), lastN u = b → psW w seen u = false
  | 0, i, h => by cases h
  | k + 1, i, h => by
    rw [srch] at h
    cases e : ((lnW w a b i).flatMap (extW w)).find? (fun v => decide ((lastN v : Int) = (b : Int)) && psW w seen v) with
    | some u =>
      rw [e] at h
      have hu : u = v := Option.some.inj h
      subst hu
      have := List.find?_some e
      rw [Bool.and_eq_true, decide_eq_true_eq] at this
      exact ⟨i, Nat.le_refl _, by omega, List.mem_of_find?_eq_some e, by omega, this.2, fun j' h1 h2 => by omega⟩
    | none =>
      rw [e] at h
      obtain ⟨j, h1, h2, h3, h4, h5, h6⟩ := srch_some k (i + 1) h
      refine ⟨j, by omega, by omega, h3, h4, h5, fun j' g1 g2 u hu hb => ?_⟩
      by_cases hj : j' = i
      · subst hj
        have := List.find?_eq_none.mp e u hu
        rw [Bool.and_eq_true, decide_eq_true_eq] at this
        cases hp : psW w seen u with
        | false => rfl
        | true => exact absurd ⟨by omega, hp⟩ this
      · exact h6 j' (by omega) g2 u hu hb
theorem srch_nil {w : Web} {a b : Nat} {seen : List Int} : ∀ k i, lnW w a b i = [] → srch w a b seen k i = none
  | 0, _, _ => rfl
  | k + 1, i, h => by
    rw [srch, h]
    exact srch_nil k (i + 1) (by rw [lnW, h]; rfl)
end My
namespace My
open PySem L2 DV
/-! ### open_way and apart -/
def badC : Exn := ⟨"BadColumn", [("word", .str "badcolumn")]⟩
def sameX : Exn := ⟨"Same", [("word", .str "same")]⟩
theorem look_column_ok (m c : Int) : F_look_column [.int m, .int c] = if 0 ≤ c ∧ c < m then .ok .non else .er badC := by
  unfold F_look_column
  rw [defF_ev]
  show flR (g_look_column [some (.im (.int m)), some (.im (.int c))]) = _
  unfold g_look_column
  by_cases h1 : c < 0
  · have : ¬ (0 ≤ c ∧ c < m) := by omega
    rw [if_neg this]
    simp [h1]
    rfl
  · by_cases h2 : c ≥ m
    · have : ¬ (0 ≤ c ∧ c < m) := by omega
      rw [if_neg this]
      simp [h1, h2]
      rfl
    · have : 0 ≤ c ∧ c < m := by omega
      rw [if_pos this]
      simp [h1, h2]
def rgW (n : Nat) (x : Int) : Bool := decide (0 ≤ x ∧ x < (n : Int))
theorem ends_for {w : Web} {a b s : D} : ∀ (cs : List Int) (o : Option O), ∃ o', forF (bName 4) g_look_ends_l1 (cs.map D.int) [some (.im (tW w)), some (.im a), some (.im b), some (.im s), o] = if cs.all (rgW w.length) = true then .nx [some (.im (tW w)), some (.im a), some (.im b), some (.im s), o'] else .rs badC [some (.im (tW w)), some (.im a), some (.im b), some (.im s), o']
  | [], o => ⟨o, rfl⟩
  | c :: cs, o => by
    have hl := look_column_ok (w.length : Int) c
    have st : g_look_ends_l1 [some (.im (tW w)), some (.im a), some (.im b), some (.im s), some (.im (.int c))] = stE (if 0 ≤ c ∧ c < (w.length : Int) then Res.ok D.non else Res.er badC) [some (.im (tW w)), some (.im a), some (.im b), some (.im s), some (.im (.int c))] fun _ => .nx [some (.im (tW w)), some (.im a), some (.im b), some (.im s), some (.im (.int c))] := by
      unfold g_look_ends_l1
      rw [← hl]
      simp only [ev_drop, ev_fn0, ev_cons, ev_call, ev_var, ev_nil, List.getElem?_cons_succ, List.getElem?_cons_zero, Res.bind_ok, tW_len]
    rw [List.map_cons, forF]
    show ∃ o', (match g_look_ends_l1 [some (.im (tW w)), some (.im a), some (.im b), some (.im s), some (.im (.int c))] with
      | .nx δ2 => forF (bName 4) g_look_ends_l1 (cs.map D.int) δ2
      | .ct δ2 => forF (bName 4) g_look_ends_l1 (cs.map D.int) δ2
      | .bk δ2 => .nx δ2
      | .rt d => .rt d
      | .rf es => .rf es
      | .rs x δ2 => .rs x δ2
      | .no => .no) = _
    rw [st]
    by_cases h : 0 ≤ c ∧ c < (w.length : Int)
    · rw [if_pos h]
      obtain ⟨o', e⟩ := ends_for cs (some (.im (.int c)))
      refine ⟨o', ?_⟩
      rw [List.all_cons, show rgW w.length c = true from decide_eq_true h, Bool.true_and]
      exact e
    · rw [if_neg h]
      refine ⟨some (.im (.int c)), ?_⟩
      rw [List.all_cons, show rgW w.length c = false from decide_eq_false h, Bool.false_and, if_neg Bool.false_ne_true]
      rfl
def sameB (x y : Int) (seen : List Int) : Bool := decide (x = y) || (decide (x ∈ seen) || decide (y ∈ seen))
theorem look_ends_ok {w : Web} (hz : w.length ≤ 1000) (hl : ∀ l ∈ w, l.length < 64) (x y : Int) {seen : List Int} (hs : seen.length ≤ 900) :
    F_look_ends [tW w, .int x, .int y, tI seen] = if goodW w = true then (if (x :: y :: seen).all (rgW w.length) = true then (if sameB x y seen = true then .er sameX else .ok .non) else .er badC) else .er badX := by
  have h1 := look_ok w hz hl
  unfold F_look_ends
  rw [defF_ev]
  show flR (g_look_ends [some (.im (tW w)), some (.im (.int x)), some (.im (.int y)), some (.im (tI seen)), none]) = _
  unfold g_look_ends
  cases hg : goodW w with
  | false =>
    rw [hg, if_neg Bool.false_ne_true] at h1
    rw [if_neg Bool.false_ne_true]
    simp [h1]
  | true =>
    rw [hg, if_pos rfl] at h1
    rw [if_pos rfl]
    have hi : (cItems (cBin oAdd (cTup (cCons (cVar 1) (cCons (cVar 2) cNil))) (cCall gTuple (cCons (cVar 3) cNil)))) [some (.im (tW w)), some (.im (.int x)), some (.im (.int y)), some (.im (tI seen)), none] = .ok ((x :: y :: seen).map D.int) := by
      have e1 := tI_add [x, y] seen (small_z (by simp only [List.length_cons, List.length_nil]; omega))
      have e1' : oAdd (.tup [.v (.int x), .v (.int y)]) (tI seen) = _ := e1
      have e2 : gTuple [tI seen] = .ok (tI seen) := rfl
      simp only [ev_items, ev_bin, ev_tup, ev_call, ev_cons, ev_var, ev_nil, List.getElem?_cons_succ, List.getElem?_cons_zero, Res.bind_ok, D.int, e2, e1']
      rfl
    obtain ⟨o', e⟩ := ends_for (w := w) (a := .int x) (b := .int y) (s := tI seen) (x :: y :: seen) none
    cases ha : (x :: y :: seen).all (rgW w.length) with
    | false =>
      rw [ha, if_neg Bool.false_ne_true] at e
      rw [if_neg Bool.false_ne_true]
      exact (congrArg flR (seq_nx (drop_nx (d := .non) (by simp [h1])) (seq_rs (for_r hi e)))).trans rfl
    | true =>
      rw [ha, if_pos rfl] at e
      rw [if_pos rfl]
      have ht : (cOrT (cTest (cBin oEq (cVar 1) (cVar 2))) (cOrT (cTest (cBin (oInA false) (cVar 1) (cVar 3))) (cTest (cBin (oInA false) (cVar 2) (cVar 3))))) [some (.im (tW w)), some (.im (.int x)), some (.im (.int y)), some (.im (tI seen)), o'] = .ok (sameB x y seen) := by
        simp only [ev_orT, ev_test, ev_bin, ev_var, List.getElem?_cons_succ, List.getElem?_cons_zero, Res.bind_ok, tI_in, Bool.false_eq_true, if_false, ev_asB, D.int, ev_eqI]
        unfold sameB
        cases decide (x = y) <;> cases decide (x ∈ seen) <;> rfl
      cases hb : sameB x y seen with
      | false =>
        rw [hb] at ht
        exact (congrArg flR (seq_nx (drop_nx (d := .non) (by simp [h1])) (seq_nx (for_r hi e) (if_f ht rfl)))).trans rfl
      | true =>
        rw [hb] at ht
        exact (congrArg flR (seq_nx (drop_nx (d := .non) (by simp [h1])) (seq_nx (for_r hi e) (if_t ht rfl)))).trans rfl
theorem open_way_er {w : D} {x y : Int} {seen : D} {e : Exn} (h : F_look_ends [w, .int x, .int y, seen] = .er e) : F_open_way [w, .int x, .int y, seen] = .er e := by
  unfold F_open_way
  rw [defF_ev]
  show flR (g_open_way [some (.im w), some (.im (.int x)), some (.im (.int y)), some (.im seen), none, none, none, none]) = _
  unfold g_open_way
  simp only [D.int] at h
  simp [h]
theorem stT_jn (w : Web) (v : List Nat) (c : Nat) : stT w v c = (!decide (c ∈ v) && jn w (lastN v) c) := by
  unfold stT jn
  cases decide (c ∈ v) <;> cases decide ((c : Int) ∈ leanW w (lastN v)) <;> cases decide (((lastN v : Nat) : Int) ∈ leanW w c) <;> rfl
abbrev sU (w : Web) (a b : Nat) (seen : List Int) (L : D) (G : List (List Nat)) (o6 o7 : Option O) : DS := [some (.im (tW w)), some (.im (.int (a : Int))), some (.im (.int (b : Int))), some (.im (tI seen)), some (.im L), some (.im (.lst (G.map tN))), o6, o7]
theorem longer {w : Web} {a b : Nat} {seen : List Int} {L : D} {G : List (List Nat)} {o6 o7 : Option O} (hz : w.length ≤ 6) (hG : ∀ v ∈ G, v ≠ [] ∧ v.length ≤ 60 ∧ ∀ c ∈ v, c < w.length) (hl : G.length ≤ 100000) :
    cAsg 5 (cL (cLc2 [6, 7] [7] (cItems (cVar 5)) (bName 6) cYes (cIt gRange1 (cCons (cCall gLen (cCons (cVar 0) cNil)) cNil)) (bName 7) (cAndT (cTest (cBin (oInA true) (cVar 7) (cVar 6))) (cTest (cFn0 F_are_joined (cCons (cVar 0) (cCons (cBin oIx (cVar 6) (cUn oNeg (cC (.int 1)))) (cCons (cVar 7) cNil)))))) (cBin oAdd (cVar 6) (cTup (cCons (cVar 7) cNil))))) (sU w a b seen L G o6 o7) = .nx (sU w a b seen L (G.flatMap (extW w)) o6 o7) := by
  refine asg_nx ?_
  have e : (G.flatMap fun v => ((List.range w.length).filter (stT w v)).map fun c => tN (v ++ [c])) = (G.flatMap (extW w)).map tN := by
    rw [List.map_flatMap]
    congr 1
    funext v
    unfold extW
    rw [List.map_map]
    rfl
  have gl : (G.flatMap (extW w)).length ≤ 6 * G.length := flat_len fun y _ => by have := ext_len w y; omega
  rw [ev_L, lc2_flat tN (fun _ => List.range w.length) (fun (k : Nat) => D.int (k : Int)) (stT w) (fun v c => tN (v ++ [c])) G rfl (by rw [e, List.length_map, sizeLine_eq]; omega) (fun v hv => ⟨_, rfl, rfl, by
    have := rg1 (n := w.length) (by omega)
    simp only [ev_it, ev_cons, ev_call, ev_bname, ev_wipe1, ev_wipe0, ev_var, ev_nil, List.set_cons_succ, List.set_cons_zero, List.getElem?_cons_succ, List.getElem?_cons_zero, Res.bind_ok, tW_len, D.int]
    exact this, fun c hc => ⟨_, rfl, by
      have hc' := List.mem_range.mp hc
      obtain ⟨v1, v2, v3⟩ := hG v hv
      have hvp : 0 < v.length := List.length_pos_iff.mpr v1
      have hlast : lastN v < w.length := getD_lt v3 (by omega)
      have iz' : oIx (tN v) (.v (.int (-1))) = .ok (.v (.int ((lastN v : Nat) : Int))) := ix_last v1
      have hin : oInA true (.v (.int (c : Int))) (tN v) = .ok (.bl (!decide (c ∈ v))) := by
        rw [show tN v = tI (cN v) from rfl, tI_in, if_pos rfl]
        congr 3
        rw [decide_eq_decide]
        exact mem_cN
      have hj := are_joined_ok (w := w) hlast hc'
      simp only [D.int] at hj
      simp only [ev_andT, ev_test, ev_bin, ev_un, ev_c, ev_neg, ev_fn0, ev_cons, ev_nil, ev_bname, ev_wipe1, ev_wipe0, ev_var, List.set_cons_succ, List.set_cons_zero, List.getElem?_cons_succ, List.getElem?_cons_zero, Res.bind_ok, hin, iz', hj, ev_asB, D.int, stT_jn]
      cases decide (c ∈ v) <;> rfl, fun _ => by
      obtain ⟨v1, v2, v3⟩ := hG v hv
      have hadd : oAdd (tN v) (.tup [.v (.int (c : Int))]) = .ok (tN (v ++ [c])) := by
        unfold tN
        rw [cN_app]
        exact tI_add _ [(c : Int)] (small_z (by rw [cN_len]; simp; omega))
      simp only [ev_bin, ev_tup, ev_cons, ev_nil, ev_bname, ev_wipe1, ev_wipe0, ev_var, List.set_cons_succ, List.set_cons_zero, List.getElem?_cons_succ, List.getElem?_cons_zero, Res.bind_ok, hadd, D.int]⟩⟩), Res.bind_ok, e]
theorem find_for {w : Web} {line : List Nat} (ha : Along w line) (hp : plainW w = true) {n : Nat} (hn : n = w.length) {L : Nat → List Int} (hL : ∀ c, c < w.length → ∀ x : Int, x ∈ L c ↔ ∃ x' : Nat, x = (x' : Int) ∧ x' < w.length ∧ Dn w c x') (hlen : ∀ c, c < w.length → (L c).length < 64) {a b : Nat} {seen : List Int} {G : List (List Nat)} {o7 : Option O} :
    ∀ (xs : List (List Nat)) (o6 : Option O), (∀ v ∈ xs, 2 ≤ v.length ∧ v.length ≤ 60 ∧ ∀ c ∈ v, c < w.length) → ∃ o6', forF (bName 6) g_open_way_l1 (xs.map tN) (sU w a b seen (.dct (keysD (kvL n L)) (valsD (kvL n L))) G o6 o7) = match xs.find? (fun v => decide ((lastN v : Int) = (b : Int)) && psW w seen v) with
      | some v => .rt (tN v)
      | none => .nx (sU w a b seen (.dct (keysD (kvL n L)) (valsD (kvL n L))) G o6' o7)
  | [], o6, _ => ⟨o6, rfl⟩
  | v :: xs, o6, h => by
    obtain ⟨h2, h60, hr⟩ := h v (by simp)
    have hps := passes_ok ha hp hn hL hlen h60 hr h2 seen
    have iz' : oIx (tN v) (.v (.int (-1))) = .ok (.v (.int ((lastN v : Nat) : Int))) := ix_last (v_ne h2)
    have ht : (cAndT (cTest (cBin oEq (cBin oIx (cVar 6) (cUn oNeg (cC (.int 1)))) (cVar 2))) (cTest (cFn0 F_passes (cCons (cVar 0) (cCons (cVar 4) (cCons (cVar 6) (cCons (cVar 3) cNil))))))) (sU w a b seen (.dct (keysD (kvL n L)) (valsD (kvL n L))) G (some (.im (tN v))) o7) = .ok (decide ((lastN v : Int) = (b : Int)) && psW w seen v) := by
      have hps' : F_passes [tW w, .dct (keysD (kvL n L)) (valsD (kvL n L)), tN v, tI seen] = _ := hps
      simp only [ev_andT, ev_test, ev_bin, ev_un, ev_c, ev_neg, ev_fn0, ev_cons, ev_nil, ev_var, List.getElem?_cons_succ, List.getElem?_cons_zero, Res.bind_ok, iz', ev_eqI, ev_asB, D.int, hps']
      cases decide ((lastN v : Int) = (b : Int)) <;> rfl
    rw [List.map_cons, forF, List.find?_cons]
    show ∃ o6', (match g_open_way_l1 (sU w a b seen (.dct (keysD (kvL n L)) (valsD (kvL n L))) G (some (.im (tN v))) o7) with
      | .nx δ2 => forF (bName 6) g_open_way_l1 (xs.map tN) δ2
      | .ct δ2 => forF (bName 6) g_open_way_l1 (xs.map tN) δ2
      | .bk δ2 => .nx δ2
      | .rt d => .rt d
      | .rf es => .rf es
      | .rs x δ2 => .rs x δ2
      | .no => .no) = _
    cases hb : (decide ((lastN v : Int) = (b : Int)) && psW w seen v) with
    | true =>
      rw [hb] at ht
      have e : g_open_way_l1 (sU w a b seen (.dct (keysD (kvL n L)) (valsD (kvL n L))) G (some (.im (tN v))) o7) = .rt (tN v) := if_t ht rfl
      rw [e]
      exact ⟨o6, rfl⟩
    | false =>
      rw [hb] at ht
      have e : g_open_way_l1 (sU w a b seen (.dct (keysD (kvL n L)) (valsD (kvL n L))) G (some (.im (tN v))) o7) = .nx (sU w a b seen (.dct (keysD (kvL n L)) (valsD (kvL n L))) G (some (.im (tN v))) o7) := if_f ht rfl
      rw [e]
      exact find_for ha hp hn hL hlen xs _ fun u hu => h u (by simp [hu])
theorem nb_tN : ∀ G : List (List Nat), D.nbA (G.map tN) = true
  | [] => rfl
  | v :: G => by
    rw [List.map_cons, D.nbA, nb_tN G, show (tN v).nb = true by unfold tN tI; rw [D.nb]; exact D.nb_ints _]
    rfl
theorem dep_tN : ∀ G : List (List Nat), D.depA (G.map tN) ≤ 5
  | [] => by rw [List.map_nil, D.depA]; omega
  | v :: G => by
    have h1 := dep_tN G
    have h2 : (tN v).dep ≤ 5 := by unfold tN tI; rw [D.dep]; have := D.dep_ints (cN v); omega
    rw [List.map_cons, D.depA]
    omega
theorem line_ne {G : List (List Nat)} : (oNe (.lst (G.map tN)) (.lst [])) = .ok (.bl (!decide (G = []))) := by
  have h := dep_tN G
  rw [oNe, oEqB_nb (by rw [D.nb]; exact nb_tN G) (by rfl) (by rw [D.dep]; omega) (by decide), if_pos rfl]
  congr 3
  rw [decide_eq_decide]
  constructor
  · intro z
    cases G with
    | nil => rfl
    | cons v G => cases z
  · rintro rfl; rfl
theorem open_loop {w : Web} {line : List Nat} (ha : Along w line) (hp : plainW w = true) (hz : w.length ≤ 6) {n : Nat} (hn : n = w.length) {L : Nat → List Int} (hL : ∀ c, c < w.length → ∀ x : Int, x ∈ L c ↔ ∃ x' : Nat, x = (x' : Int) ∧ x' < w.length ∧ Dn w c x') (hlen : ∀ c, c < w.length → (L c).length < 64) {a b : Nat} (han : a < w.length) {seen : List Int} :
    ∀ (k i : Nat) (o6 o7 : Option O), i + k = w.length → ∃ o6' o7' G', whileF (cTest (cBin oNe (cVar 5) (cL cNil))) g_open_way_l2 (k + 4) (sU w a b seen (.dct (keysD (kvL n L)) (valsD (kvL n L))) (lnW w a b i) o6 o7) = match srch w a b seen k i with
      | some v => .rt (tN v)
      | none => .nx (sU w a b seen (.dct (keysD (kvL n L)) (valsD (kvL n L))) G' o6' o7')
  | k, i, o6, o7, hk => by
    have tt : ∀ G, (cTest (cBin oNe (cVar 5) (cL cNil))) (sU w a b seen (.dct (keysD (kvL n L)) (valsD (kvL n L))) G o6 o7) = .ok (!decide (G = [])) := fun G => by
      simp only [ev_test, ev_bin, ev_var, ev_L, ev_nil, List.getElem?_cons_succ, List.getElem?_cons_zero, Res.bind_ok, line_ne, ev_asB]
    by_cases he : lnW w a b i = []
    · have t1 := tt (lnW w a b i)
      rw [decide_eq_true he] at t1
      rw [srch_nil k i he]
      exact ⟨o6, o7, lnW w a b i, wh_end t1⟩
    · have t1 := tt (lnW w a b i)
      rw [decide_eq_false he] at t1
      cases k with
      | zero =>
        rw [show i = w.length by omega] at he
        exact absurd (ln_end hz han) he
      | succ k =>
        have W := ways_all (b := b) hz han i (by omega)
        have lnn := W.ln
        have p6 := pow6 (show i ≤ 6 by omega)
        have hG : ∀ v ∈ lnW w a b i, v ≠ [] ∧ v.length ≤ 60 ∧ ∀ c ∈ v, c < w.length := fun v hv => by
          obtain ⟨h1, h2⟩ := W.ll v hv
          exact ⟨fun z => by rw [z] at h1; simp at h1, by omega, h2⟩
        have hE : ∀ u ∈ (lnW w a b i).flatMap (extW w), 2 ≤ u.length ∧ u.length ≤ 60 ∧ ∀ c ∈ u, c < w.length := fun u hu => by
          obtain ⟨v, hv, hu⟩ := List.mem_flatMap.mp hu
          obtain ⟨v1, v2⟩ := W.ll v hv
          obtain ⟨c, hc, rfl⟩ := ext_mem hu
          refine ⟨by rw [List.length_append, v1]; simp, by rw [List.length_append, v1]; simp; omega, fun d hd => ?_⟩
          rcases List.mem_append.mp hd with hd | hd
          · exact v2 d hd
          · rw [List.mem_singleton.mp hd]; exact hc
        have s1 := longer (a := a) (b := b) (seen := seen) (L := .dct (keysD (kvL n L)) (valsD (kvL n L))) (o6 := o6) (o7 := o7) hz hG (by omega)
        obtain ⟨o6', s2⟩ := find_for ha hp hn hL hlen (a := a) (b := b) (seen := seen) (G := (lnW w a b i).flatMap (extW w)) (o7 := o7) ((lnW w a b i).flatMap (extW w)) o6 hE
        rw [srch]
        cases hf : ((lnW w a b i).flatMap (extW w)).find? (fun v => decide ((lastN v : Int) = (b : Int)) && psW w seen v) with
        | some v =>
          rw [hf] at s2
          exact ⟨o6, o7, [], wh_ret t1 (seq_nx s1 (seq_rt (for_r rfl s2)))⟩
        | none =>
          rw [hf] at s2
          have Gl : ((lnW w a b i).flatMap (extW w)).length ≤ 6 * (lnW w a b i).length := flat_len fun y _ => by have := ext_len w y; omega
          have s3 : cAsg 5 (cL (cLc [6] (cItems (cVar 5)) (bName 6) (cTest (cBin oNe (cBin oIx (cVar 6) (cUn oNeg (cC (.int 1)))) (cVar 2))) (cVar 6))) (sU w a b seen (.dct (keysD (kvL n L)) (valsD (kvL n L))) ((lnW w a b i).flatMap (extW w)) o6' o7) = .nx (sU w a b seen (.dct (keysD (kvL n L)) (valsD (kvL n L))) (lnW w a b (i + 1)) o6' o7) := by
            refine asg_nx ?_
            rw [ev_L, lc_keep tN (fun v => !decide ((lastN v : Int) = (b : Int))) tN ((lnW w a b i).flatMap (extW w)) rfl (by rw [sizeLine_eq]; omega) (fun v hv => ⟨_, rfl, by
              have iz' : oIx (tN v) (.v (.int (-1))) = .ok (.v (.int ((lastN v : Nat) : Int))) := ix_last (v_ne (hE v hv).1)
              simp only [ev_test, ev_bin, ev_un, ev_c, ev_neg, ev_bname, ev_wipe1, ev_wipe0, ev_var, List.set_cons_succ, List.set_cons_zero, List.getElem?_cons_succ, List.getElem?_cons_zero, Res.bind_ok, iz', ev_neI, ev_asB, D.int], fun _ => rfl⟩)]
            rfl
          obtain ⟨p6', p7', G', ih⟩ := open_loop ha hp hz hn hL hlen han (b := b) (seen := seen) k (i + 1) o6' o7 (by omega)
          refine ⟨p6', p7', G', ?_⟩
          rw [show k + 1 + 4 = (k + 4) + 1 by omega, wh_turn t1 (seq_nx s1 (seq_nx (for_r rfl s2) s3))]
          exact ih
theorem whileF_rt {t : DS → Res Bool} {g : DS → Fl} : ∀ (n m : Nat) (δ : DS) (d : D), whileF t g n δ = .rt d → n ≤ m → whileF t g m δ = .rt d := by
  intro n
  induction n with
  | zero => intro m δ d h; cases h
  | succ n ih =>
    intro m δ d h hm
    obtain ⟨m, rfl⟩ : ∃ m', m = m' + 1 := ⟨m - 1, by omega⟩
    unfold whileF at h ⊢
    cases e : t δ with
    | no => rw [e] at h; exact h
    | er x => rw [e] at h; exact h
    | ok b =>
      rw [e] at h
      revert h
      cases b with
      | false => exact fun h => h
      | true =>
        intro h
        simp only [stE_ok, if_true] at h ⊢
        revert h
        cases g δ with
        | nx δ' => exact fun h => ih m δ' d h (by omega)
        | ct δ' => exact fun h => ih m δ' d h (by omega)
        | bk δ' => exact fun h => h
        | rt d => exact fun h => h
        | rf d => exact fun h => h
        | rs x d => exact fun h => h
        | no => exact fun h => h
def ansW (o : Option (List Nat)) : D := match o with
  | some v => tN v
  | none => .non
theorem open_way_ok {w : Web} {line : List Nat} (ha : Along w line) (hz : w.length ≤ 6) (hl : ∀ l ∈ w, l.length < 64) (hg : goodW w = true) {a b : Nat} (han : a < w.length) {seen : List Int} (hs : seen.length ≤ 900) (hr : ((a : Int) :: (b : Int) :: seen).all (rgW w.length) = true) (hsame : sameB (a : Int) (b : Int) seen = false) :
    F_open_way [tW w, .int (a : Int), .int (b : Int), tI seen] = .ok (ansW (srch w a b seen w.length 0)) := by
  have hp : plainW w = true := (Bool.and_eq_true_iff.mp hg).1
  have h1 := look_ends_ok (w := w) (by omega) hl (a : Int) (b : Int) hs
  rw [if_pos hg, if_pos hr, hsame, if_neg Bool.false_ne_true] at h1
  obtain ⟨L, hL, hm, hlen⟩ := all_leads_ok ha hz hl hg
  obtain ⟨o6, o7, G, hw⟩ := open_loop ha hp hz rfl hm hlen han (b := b) (seen := seen) w.length 0 none none (by omega)
  unfold F_open_way
  rw [defF_ev]
  show flR (g_open_way [some (.im (tW w)), some (.im (.int (a : Int))), some (.im (.int (b : Int))), some (.im (tI seen)), none, none, none, none]) = _
  unfold g_open_way
  cases hsr : srch w a b seen w.length 0 with
  | some v =>
    rw [hsr] at hw
    exact (congrArg flR (seq_nx (drop_nx (d := .non) (by simpa using h1)) (seq_nx (asg_nx (d := .dct (keysD (kvL w.length L)) (valsD (kvL w.length L))) (by simp [hL])) (seq_nx (asg_nx (d := .lst [tN [a]]) rfl) (seq_rt (whileF_rt (w.length + 4) 10 _ _ hw (by omega))))))).trans rfl
  | none =>
    rw [hsr] at hw
    exact (congrArg flR (seq_nx (drop_nx (d := .non) (by simpa using h1)) (seq_nx (asg_nx (d := .dct (keysD (kvL w.length L)) (valsD (kvL w.length L))) (by simp [hL])) (seq_nx (asg_nx (d := .lst [tN [a]]) rfl) (seq_nx (whileF_more (w.length + 4) 10 _ _ hw (by omega)) (ret_rt (d := .non) rfl)))))).trans rfl
theorem apart_of {w : D} {x y : Int} {seen : D} {r : Res D} (h : F_open_way [w, .int x, .int y, seen] = r) : F_apart [w, .int x, .int y, seen] = r.bind fun d => oIsN false d .non := by
  subst h
  unfold F_apart
  rw [defF_ev]
  show flR (g_apart [some (.im w), some (.im (.int x)), some (.im (.int y)), some (.im seen)]) = _
  unfold g_apart
  simp only [ev_ret, ev_bin, ev_kw, ev_cons, ev_var, ev_nil, ev_c, List.getElem?_cons_succ, List.getElem?_cons_zero, Res.bind_ok, pkD, List.map_cons, List.map_nil, ev_pk_p, ev_pk_k, List.getD_cons_zero, List.getD_cons_succ]
  cases F_open_way [w, .int x, .int y, seen] with
  | ok d =>
    simp only [Res.bind_ok]
    cases oIsN false d .non <;> rfl
  | er e => rfl
  | no => rfl
end My
namespace My
open PySem L2 DV
theorem ixL {α : Type} {f : α → D} {l : List α} {i : Nat} (h : i < l.length) : oIx (.lst (l.map f)) (.v (.int (i : Int))) = .ok (f l[i]) := by
  unfold oIx
  dsimp only
  rw [at_nat, List.getElem?_map, List.getElem?_eq_getElem h]
  rfl
abbrev dD (d0 d1 d2 d3 d4 : Int) : D := .lst [.int d0, .int d1, .int d2, .int d3, .int d4]
def eyW (n : Nat) (d6 : Int) : List Nat := (List.range n).filter fun c => decide (d6 / (([1, 2, 4, 8, 16, 32] : List Int).getD c 1) % 2 = 1)
def P13 (δ : DS) : Prop := ∃ a b c d e f g h i j k l m, δ = [a, b, c, d, e, f, g, h, i, j, k, l, m]
theorem p13 (a b c d e f g h i j k l m : Option O) : P13 [a, b, c, d, e, f, g, h, i, j, k, l, m] := ⟨_, _, _, _, _, _, _, _, _, _, _, _, _, rfl⟩
theorem bad_word : wordF 2 q__law_word "" (.er badX) = .ok (.str "badweb") := by rfl
theorem col_word : wordF 2 q__law_word "" (.er badC) = .ok (.str "badcolumn") := by rfl
theorem same_word : wordF 2 q__law_word "" (.er sameX) = .ok (.str "same") := by rfl
theorem ok_word (d : D) : wordF 2 q__law_word "" (.ok d) = .ok (.str "") := by rfl
/-- the word that is due -/
def dueS (n : Nat) (p q : Int) (ey : List Int) : Str := if (p :: q :: ey).all (rgW n) = true then (if sameB p q ey = true then "same" else "") else "badcolumn"
theorem due_lay (n : Nat) (p q : Int) (ey : List Int) : PyData.canLay0 (.str (dueS n p q ey)) = true := by
  unfold dueS
  split
  · split <;> decide +kernel
  · decide +kernel
/-- what open_way answers -/
theorem ow_cases {w : Web} {line : List Nat} (ha : Along w line) (hz : w.length ≤ 6) (hl : ∀ l ∈ w, l.length < 64) (hg : goodW w = true) {p q : Int} {ey : List Int} (hs : ey.length ≤ 900) :
    ∃ r, F_open_way [tW w, .int p, .int q, tI ey] = r ∧ wordF 2 q__law_word "" r = .ok (.str (dueS w.length p q ey)) ∧ wordF 2 q__law_word "" (r.bind fun d => oIsN false d .non) = .ok (.str (dueS w.length p q ey)) ∧
      (dueS w.length p q ey = "" → ∃ a b : Nat, p = (a : Int) ∧ q = (b : Int) ∧ a < w.length ∧ b < w.length ∧ sameB p q ey = false ∧ r = .ok (ansW (srch w a b ey w.length 0))) := by
  have h1 := look_ends_ok (w := w) (by omega) hl p q hs
  rw [if_pos hg] at h1
  unfold dueS
  cases hr : (p :: q :: ey).all (rgW w.length) with
  | false =>
    rw [hr, if_neg Bool.false_ne_true] at h1
    rw [if_neg Bool.false_ne_true]
    exact ⟨_, open_way_er h1, col_word, col_word, fun z => absurd z (by decide)⟩
  | true =>
    rw [hr, if_pos rfl] at h1
    rw [if_pos rfl]
    cases hb : sameB p q ey with
    | true =>
      rw [hb, if_pos rfl] at h1
      rw [if_pos rfl]
      exact ⟨_, open_way_er h1, same_word, same_word, fun z => absurd z (by decide)⟩
    | false =>
      rw [if_neg Bool.false_ne_true]
      have hall := List.all_eq_true.mp hr
      have hp := of_decide_eq_true (show decide (0 ≤ p ∧ p < (w.length : Int)) = true from hall p (by simp))
      have hq := of_decide_eq_true (show decide (0 ≤ q ∧ q < (w.length : Int)) = true from hall q (by simp))
      obtain ⟨a, rfl⟩ : ∃ a : Nat, p = (a : Int) := ⟨p.toNat, by omega⟩
      obtain ⟨b, rfl⟩ : ∃ b : Nat, q = (b : Int) := ⟨q.toNat, by omega⟩
      refine ⟨_, open_way_ok ha hz hl hg (by omega) hs hr hb, ok_word _, ?_, fun _ => ⟨a, b, rfl, rfl, by omega, by omega, rfl, rfl⟩⟩
      cases srch w a b ey w.length 0 with
      | none => exact ok_word _
      | some v => exact ok_word _
/-- what open_way and apart answer of what is too wide -/
theorem wide_ok {w : Web} (h0 : 0 < w.length) (hz : w.length ≤ 6) (hl : ∀ l ∈ w, l.length < 64) {p q : Int} {ey : List Int} (hs : ey.length ≤ 900) : F__law_wide_so [tW w, .int p, .int q, tI ey] = .ok (.bl true) := by
  have hz2 : (w ++ List.replicate 7 (leanW w 0)).length = w.length + 7 := by simp
  have hb : goodW (w ++ List.replicate 7 (leanW w 0)) = false := by
    unfold goodW plainW sizeW
    rw [hz2]
    have : ¬ (w.length + 7 ≤ 6) := by omega
    simp [this]
  have h1 := look_ends_ok (w := w ++ List.replicate 7 (leanW w 0)) (by omega) (fun l hx => by
    rcases List.mem_append.mp hx with hx | hx
    · exact hl l hx
    · rw [List.eq_of_mem_replicate hx]; exact hl _ (mem_lean h0)) p q hs
  rw [hb, if_neg Bool.false_ne_true] at h1
  have h2 := open_way_er h1
  have h3 := apart_of h2
  have hw : cAsg 4 (cBin oAdd (cVar 0) (cBin oMul2 (cTup (cCons (cBin oIx (cVar 0) (cC (.int 0))) cNil)) (cC (.int 7)))) [some (.im (tW w)), some (.im (.int p)), some (.im (.int q)), some (.im (tI ey)), none] = .nx [some (.im (tW w)), some (.im (.int p)), some (.im (.int q)), some (.im (tI ey)), some (.im (tW (w ++ List.replicate 7 (leanW w 0))))] := by
    refine asg_nx ?_
    have i0 : oIx (tW w) (.v (.int 0)) = .ok (tI (leanW w 0)) := ix_lean h0
    have hm : oMul2 (.tup [tI (leanW w 0)]) (.v (.int 7)) = .ok (.tup ((List.replicate 7 (leanW w 0)).map tI)) := by rfl
    have hadd : oAdd (tW w) (.tup ((List.replicate 7 (leanW w 0)).map tI)) = .ok (tW (w ++ List.replicate 7 (leanW w 0))) := by
      unfold oAdd tW
      dsimp only
      rw [if_pos (small_z (by simp; omega)), List.map_append]
    simp only [ev_bin, ev_tup, ev_cons, ev_c, ev_var, ev_nil, List.getElem?_cons_succ, List.getElem?_cons_zero, Res.bind_ok, i0, hm, hadd, D.int]
  unfold F__law_wide_so
  rw [defF_ev]
  show flR (g__law_wide_so [some (.im (tW w)), some (.im (.int p)), some (.im (.int q)), some (.im (tI ey)), none]) = _
  unfold g__law_wide_so
  simp only [D.int] at h2 h3
  refine (congrArg flR (seq_nx hw (seq_nx (if_f (test_ok (b := false) ?_) rfl) (ret_rt (d := .bl true) ?_)))).trans rfl
  · rw [ev_bin, ev_lam]
    simp only [ev_kw, ev_cons, ev_var, ev_nil, ev_c, List.getElem?_cons_succ, List.getElem?_cons_zero, Res.bind_ok, pkD, List.map_cons, List.map_nil, ev_pk_p, ev_pk_k, List.getD_cons_zero, List.getD_cons_succ, h3, D.int]
    show Res.bind (wordF 2 q__law_word "" (.er badX)) _ = _
    rw [bad_word, Res.bind_ok]
    exact (eq_strs (by decide +kernel) (by decide +kernel)).trans (by simp)
  · rw [ev_bin, ev_lam]
    simp only [ev_kw, ev_cons, ev_var, ev_nil, ev_c, List.getElem?_cons_succ, List.getElem?_cons_zero, Res.bind_ok, pkD, List.map_cons, List.map_nil, ev_pk_p, ev_pk_k, List.getD_cons_zero, List.getD_cons_succ, h2, D.int]
    rw [bad_word, Res.bind_ok]
    exact (eq_strs (by decide +kernel) (by decide +kernel)).trans (by simp)
theorem fd_ends {w : Web} {a b : Nat} {v : List Nat} (h : v ∈ fdW w a b w.length) : v.getD 0 0 = a ∧ lastN v = b := by
  obtain ⟨i, _, h2, h3⟩ := (fd_mem _).mp h
  obtain ⟨u, hu, hv⟩ := List.mem_flatMap.mp h2
  obtain ⟨c, _, rfl⟩ := ext_mem hv
  exact ⟨by rw [head_app (ln_nodup i u hu).2.1, (ln_nodup i u hu).2.2], h3⟩
theorem end_ok {w : Web} {a b : Nat} {ey : List Int} (hs : sameB (a : Int) (b : Int) ey = false) {v : List Nat} (h : v ∈ fdW w a b w.length) : endW ey v = true := by
  obtain ⟨h1, h2⟩ := fd_ends h
  unfold sameB at hs
  rw [Bool.or_eq_false_iff, Bool.or_eq_false_iff] at hs
  unfold endW
  rw [h1, show v.getD (v.length - 1) 0 = b from h2, hs.2.1, hs.2.2]
  rfl
theorem szs_nil {w : Web} {a b : Nat} {ey : List Int} (h : srch w a b ey w.length 0 = none) : (fdW w a b w.length).filter (fun v => psW w ey v && endW ey v) = [] := by
  rw [List.filter_eq_nil_iff]
  intro v hv
  obtain ⟨i, h1, h2, h3⟩ := (fd_mem _).mp hv
  rw [srch_none _ _ h i (by omega) (by omega) v h2 h3]
  simp
theorem found_ok {w : Web} {a b : Nat} {ey : List Int} (hz : w.length ≤ 6) (ha : a < w.length) (hs : sameB (a : Int) (b : Int) ey = false) {v : List Nat} (h : srch w a b ey w.length 0 = some v) :
    v ∈ fdW w a b w.length ∧ psW w ey v = true ∧ ∀ u ∈ (fdW w a b w.length).filter (fun v => psW w ey v && endW ey v), v.length ≤ u.length := by
  obtain ⟨j, h1, h2, h3, h4, h5, h6⟩ := srch_some _ _ h
  have hv : v ∈ fdW w a b w.length := (fd_mem _).mpr ⟨j, by omega, h3, h4⟩
  have len : ∀ (i : Nat), i < w.length → ∀ u ∈ (lnW w a b i).flatMap (extW w), u.length = i + 2 := fun i hi u hu => by
    obtain ⟨x, hx, hu⟩ := List.mem_flatMap.mp hu
    obtain ⟨c, _, rfl⟩ := ext_mem hu
    have := ((ways_all (b := b) hz ha i (by omega)).ll x hx).1
    simp [this]
  refine ⟨hv, h5, fun u hu => ?_⟩
  obtain ⟨hu1, hu2⟩ := List.mem_filter.mp hu
  obtain ⟨i, g1, g2, g3⟩ := (fd_mem _).mp hu1
  rw [len j (by omega) v h3, len i g1 u g2]
  by_cases hj : i < j
  · have := h6 i (by omega) hj u g2 g3
    rw [this] at hu2
    simp at hu2
  · omega
abbrev sL (A : Option O) (x : Int) (dd : D) (n : Nat) (w : Web) (p q : Int) (ey : List Int) (o8 o9 o10 o11 o12 : Option O) : DS := [A, some (.im (.int x)), some (.im dd), some (.im (.int (n : Int))), some (.im (tW w)), some (.im (.int p)), some (.im (.int q)), some (.im (tI ey)), o8, o9, o10, o11, o12]
/-- the last part: sizes, the found way -/
theorem last_ok {w : Web} {line : List Nat} (ha : Along w line) (h0 : 0 < w.length) (hz : w.length ≤ 6) (hl6 : ∀ l ∈ w, l.length ≤ 6) (hg : goodW w = true) {p q : Int} {ey : List Int} (hs : ey.length ≤ 900) (hdue : dueS w.length p q ey = "") (A : Option O) (x : Int) (dd : D) (n : Nat) (o9 o10 o11 o12 : Option O) :
    ∃ o9' o10', (cSeq (cAsg 9 (cL (cLc [12] (cItems (cFn0 F__law_ways (cCons (cVar 4) (cCons (cVar 5) (cCons (cVar 6) cNil))))) (bName 12) (cTest (cFn0 F__law_passes (cCons (cVar 4) (cCons (cVar 12) (cCons (cVar 7) cNil))))) (cCall gLen (cCons (cVar 12) cNil)))))
  (cSeq (cAsg 10 (cKw F_open_way [.p 0, .p 1, .p 2, .k 0] (cCons (cVar 4) (cCons (cVar 5) (cCons (cVar 6) cNil))) (cCons (cVar 7) cNil)))
  (cSeq (cIf (cOrT (cTest (cBin oNe (cBin (oIsN false) (cVar 10) (cC .non)) (cBin oEq (cVar 9) (cL cNil)))) (cTest (cBin oNe (cKw F_apart [.p 0, .p 1, .p 2, .k 0] (cCons (cVar 4) (cCons (cVar 5) (cCons (cVar 6) cNil))) (cCons (cVar 7) cNil)) (cBin oEq (cVar 9) (cL cNil))))) (cRet (cC (.bl false))) cNext)
  (cIf (cTest (cBin (oIsN true) (cVar 10) (cC .non))) (cSeq (cIf (cOrT (cTest (cBin oNe (cCall gLen (cCons (cVar 10) cNil)) (cCall gMin (cCons (cVar 9) cNil)))) (cTest (cBin (oInA true) (cVar 10) (cFn0 F__law_ways (cCons (cVar 4) (cCons (cVar 5) (cCons (cVar 6) cNil))))))) (cRet (cC (.bl false))) cNext)
  (cIf (cNotT (cTest (cFn0 F__law_passes (cCons (cVar 4) (cCons (cVar 10) (cCons (cVar 7) cNil)))))) (cRet (cC (.bl false))) cNext)) cNext)))) (sL A x dd n w p q ey (some (.im (.str ""))) o9 o10 o11 o12) = .nx (sL A x dd n w p q ey (some (.im (.str ""))) o9' o10' o11 o12) := by
  have hl : ∀ l ∈ w, l.length < 64 := fun l h => by have := hl6 l h; omega
  have hp : plainW w = true := (Bool.and_eq_true_iff.mp hg).1
  obtain ⟨r, ho, _, _, hr⟩ := ow_cases ha hz hl hg (p := p) (q := q) hs
  obtain ⟨a, b, rfl, rfl, han, hbn, hsm, rfl⟩ := hr hdue
  have W := ways_all (b := b) hz han w.length (Nat.le_refl _)
  have p6 := pow6 (show w.length ≤ 6 from hz)
  have fnn := W.fn
  have hway := ways_ok (w := w) (a := a) (b := b) hz han
  have hap := apart_of ho
  simp only [D.int] at hway ho hap
  let S : List Nat := ((fdW w a b w.length).filter (fun v => psW w ey v && endW ey v)).map List.length
  have fl := List.length_filter_le (fun v => psW w ey v && endW ey v) (fdW w a b w.length)
  have s1 : cAsg 9 (cL (cLc [12] (cItems (cFn0 F__law_ways (cCons (cVar 4) (cCons (cVar 5) (cCons (cVar 6) cNil))))) (bName 12) (cTest (cFn0 F__law_passes (cCons (cVar 4) (cCons (cVar 12) (cCons (cVar 7) cNil))))) (cCall gLen (cCons (cVar 12) cNil)))) (sL A x dd n w (a : Int) (b : Int) ey (some (.im (.str ""))) o9 o10 o11 o12) = .nx (sL A x dd n w (a : Int) (b : Int) ey (some (.im (.str ""))) (some (.im (lN S))) o10 o11 o12) := by
    refine asg_nx ?_
    rw [ev_L, lc_keep tN (fun v => psW w ey v && endW ey v) (fun v => D.int (v.length : Int)) (fdW w a b w.length) (by
      simp only [ev_items, ev_fn0, ev_cons, ev_var, ev_nil, List.getElem?_cons_succ, List.getElem?_cons_zero, Res.bind_ok, D.int, hway, ev_items_l]) (by rw [sizeLine_eq]; omega) (fun v hv => ⟨_, rfl, by
      obtain ⟨f1, f2, f3⟩ := W.fl v hv
      have hps := law_passes_ok hp hl6 (show v.length ≤ 60 by omega) f3 f1 ey
      have hps' : F__law_passes [tW w, tN v, tI ey] = _ := hps
      simp only [ev_test, ev_fn0, ev_cons, ev_nil, ev_bname, ev_wipe1, ev_wipe0, ev_var, List.set_cons_succ, List.set_cons_zero, List.getElem?_cons_succ, List.getElem?_cons_zero, Res.bind_ok, hps', ev_asB], fun _ => by
      have hlen : gLen [tN v] = .ok (.v (.int ((v.length : Nat) : Int))) := by unfold tN; rw [tI_len, cN_len]
      simp only [ev_call, ev_cons, ev_nil, ev_bname, ev_wipe1, ev_wipe0, ev_var, List.set_cons_succ, List.set_cons_zero, List.getElem?_cons_succ, List.getElem?_cons_zero, Res.bind_ok, hlen, D.int]⟩), Res.bind_ok]
    unfold lN
    simp only [S, List.map_map]
    rfl
  have s2 : cAsg 10 (cKw F_open_way [.p 0, .p 1, .p 2, .k 0] (cCons (cVar 4) (cCons (cVar 5) (cCons (cVar 6) cNil))) (cCons (cVar 7) cNil)) (sL A x dd n w (a : Int) (b : Int) ey (some (.im (.str ""))) (some (.im (lN S))) o10 o11 o12) = .nx (sL A x dd n w (a : Int) (b : Int) ey (some (.im (.str ""))) (some (.im (lN S))) (some (.im (ansW (srch w a b ey w.length 0)))) o11 o12) := by
    refine asg_nx ?_
    simp only [ev_kw, ev_cons, ev_var, ev_nil, List.getElem?_cons_succ, List.getElem?_cons_zero, Res.bind_ok, pkD, List.map_cons, List.map_nil, ev_pk_p, ev_pk_k, List.getD_cons_zero, List.getD_cons_succ, ho, D.int]
  have hSe : oEq (lN S) (.lst []) = .ok (.bl (decide (S = []))) := by
    have := eqL_ints (neg := false) (S.map fun (k : Nat) => (k : Int)) []
    rw [if_neg Bool.false_ne_true] at this
    unfold lN
    refine this.trans ?_
    congr 2
    rw [decide_eq_decide, List.map_eq_nil_iff]
  refine ⟨some (.im (lN S)), some (.im (ansW (srch w a b ey w.length 0))), ?_⟩
  cases hsr : srch w a b ey w.length 0 with
  | none =>
    have hS : S = [] := by simp only [S]; rw [szs_nil hsr]; rfl
    rw [hsr] at s2 hap
    have hap' : F_apart [tW w, .v (.int (a : Int)), .v (.int (b : Int)), tI ey] = .ok (.bl true) := hap
    rw [hS] at hSe s1 s2 ⊢
    have hSe' : oEq (lN []) (.lst []) = .ok (.bl true) := hSe
    have hn1 : oIsN false (ansW none) .non = .ok (.bl true) := rfl
    have hn2 : oIsN true (ansW none) .non = .ok (.bl false) := rfl
    refine seq_nx s1 (seq_nx s2 (seq_nx (if_f ?_ rfl) (if_f ?_ rfl)))
    · simp only [ev_orT, ev_test, ev_bin, ev_kw, ev_cons, ev_var, ev_nil, ev_L, ev_c, List.getElem?_cons_succ, List.getElem?_cons_zero, Res.bind_ok, pkD, List.map_cons, List.map_nil, ev_pk_p, ev_pk_k, List.getD_cons_zero, List.getD_cons_succ, hap', hSe', hn1, ev_neB, ev_asB, D.int]
      rfl
    · simp only [ev_test, ev_bin, ev_var, ev_c, List.getElem?_cons_succ, List.getElem?_cons_zero, Res.bind_ok, hn2, ev_asB]
  | some v =>
    obtain ⟨hv, hpv, hmin⟩ := found_ok hz han hsm hsr
    obtain ⟨f1, f2, f3⟩ := W.fl v hv
    have hev := end_ok hsm hv
    rw [hsr] at s2 hap
    have hap' : F_apart [tW w, .v (.int (a : Int)), .v (.int (b : Int)), tI ey] = .ok (.bl false) := hap
    have hvS : v.length ∈ S := by
      simp only [S]
      exact List.mem_map.mpr ⟨v, List.mem_filter.mpr ⟨hv, by rw [hpv, hev]; rfl⟩, rfl⟩
    have hSm : ∀ k ∈ S, v.length ≤ k := fun k hk => by
      simp only [S] at hk
      obtain ⟨u, hu, rfl⟩ := List.mem_map.mp hk
      exact hmin u hu
    have hSn : S ≠ [] := List.ne_nil_of_mem hvS
    have hSe' : oEq (lN S) (.lst []) = .ok (.bl false) := by rw [hSe, decide_eq_false hSn]
    have hn1 : oIsN false (ansW (some v)) .non = .ok (.bl false) := rfl
    have hn2 : oIsN true (ansW (some v)) .non = .ok (.bl true) := rfl
    have hgm : gMin [lN S] = .ok (.v (.int ((v.length : Nat) : Int))) := by
      obtain ⟨k, S', hk⟩ : ∃ k S', S = k :: S' := by
        cases hh : S with
        | nil => exact absurd hh hSn
        | cons k S' => exact ⟨k, S', rfl⟩
      rw [hk]
      have := gMin_ints (x := (k : Int)) (l := S'.map fun (j : Nat) => (j : Int))
      unfold lN
      refine this.trans ?_
      obtain ⟨m1, m2⟩ := minI_spec (S'.map fun (j : Nat) => (j : Int)) (k : Int)
      have e : ((k : Int) :: S'.map fun (j : Nat) => (j : Int)) = S.map fun (j : Nat) => (j : Int) := by rw [hk]; rfl
      rw [e] at m1 m2
      obtain ⟨j, hj, hje⟩ := List.mem_map.mp m1
      have g1 := hSm j hj
      have g2 := m2 ((v.length : Nat) : Int) (List.mem_map.mpr ⟨v.length, hvS, rfl⟩)
      congr 2
      omega
    have hlen : gLen [ansW (some v)] = .ok (.v (.int ((v.length : Nat) : Int))) := by show gLen [tN v] = _; unfold tN; rw [tI_len, cN_len]
    have hin : oInA true (ansW (some v)) (.lst ((fdW w a b w.length).map tN)) = .ok (.bl false) := by
      have := in_tI (neg := true) (cN v) ((fdW w a b w.length).map cN)
      rw [List.map_map] at this
      have hm : cN v ∈ (fdW w a b w.length).map cN := List.mem_map.mpr ⟨v, hv, rfl⟩
      rw [decide_eq_true hm] at this
      exact this
    have hps := law_passes_ok hp hl6 (show v.length ≤ 60 by omega) f3 f1 ey
    rw [hpv, hev] at hps
    have hps' : F__law_passes [tW w, ansW (some v), tI ey] = .ok (.bl true) := hps
    refine seq_nx s1 (seq_nx s2 (seq_nx (if_f ?_ rfl) (if_t ?_ (seq_nx (if_f ?_ rfl) (if_f ?_ rfl)))))
    · simp only [ev_orT, ev_test, ev_bin, ev_kw, ev_cons, ev_var, ev_nil, ev_L, ev_c, List.getElem?_cons_succ, List.getElem?_cons_zero, Res.bind_ok, pkD, List.map_cons, List.map_nil, ev_pk_p, ev_pk_k, List.getD_cons_zero, List.getD_cons_succ, hap', hSe', hn1, ev_neB, ev_asB, D.int]
      rfl
    · simp only [ev_test, ev_bin, ev_var, ev_c, List.getElem?_cons_succ, List.getElem?_cons_zero, Res.bind_ok, hn2, ev_asB]
    · simp only [ev_orT, ev_test, ev_bin, ev_call, ev_fn0, ev_cons, ev_var, ev_nil, List.getElem?_cons_succ, List.getElem?_cons_zero, Res.bind_ok, hlen, hgm, hway, hin, ev_neI, ev_asB, D.int]
      simp
    · simp only [ev_notT, ev_test, ev_fn0, ev_cons, ev_var, ev_nil, List.getElem?_cons_succ, List.getElem?_cons_zero, Res.bind_ok, hps', ev_asB]
      rfl
theorem cell_turn (x : Int) (A o2 o3 o4 o5 o6 o7 o8 o9 o10 o11 o12 : Option O) : ∃ δ2, g_law_l1 [A, some (.im (.int x)), o2, o3, o4, o5, o6, o7, o8, o9, o10, o11, o12] = .nx δ2 ∧ P13 δ2 := by
  obtain ⟨m, hm⟩ := draws_ok (x + 5) [5, 8, 8, 64, 12] (by decide) (by decide)
  obtain ⟨d0, d1, d2, d3, d4, hds, b0, b1, b2, b3, b4⟩ : ∃ d0 d1 d2 d3 d4 : Int, (digs m [5, 8, 8, 64, 12]) = [d0, d1, d2, d3, d4] ∧ (0 ≤ d0 ∧ d0 < 5) ∧ 0 ≤ d1 ∧ 0 ≤ d2 ∧ 0 ≤ d3 ∧ 0 ≤ d4 := by
    refine ⟨_, _, _, _, _, rfl, ?_, ?_, ?_, ?_, ?_⟩ <;> omega
  rw [hds] at hm
  obtain ⟨n, hn⟩ : ∃ n : Nat, (2 : Int) + d0 = (n : Int) := ⟨((2 : Int) + d0).toNat, by omega⟩
  have hn1 : 2 ≤ n ∧ n ≤ 6 := by omega
  obtain ⟨w, line, hw, hwl, hal⟩ := web_ok x n hn1.2
  have hp : plainW w = true := hal.plain (by omega) (by omega)
  have hg : goodW w = true := by unfold goodW; rw [hp, hal.ringless]; rfl
  have hl6 : ∀ l ∈ w, l.length ≤ 6 := fun l hl => by have := hal.lens l hl; omega
  have hl : ∀ l ∈ w, l.length < 64 := fun l h => by have := hl6 l h; omega
  have hz : w.length ≤ 6 := by omega
  have hnp : (0 : Int) < (n : Int) + 1 := by omega
  have i0 : oIx (dD d0 d1 d2 d3 d4) (.v (.int 0)) = .ok (.v (.int d0)) := rfl
  have i1 : oIx (dD d0 d1 d2 d3 d4) (.v (.int 1)) = .ok (.v (.int d1)) := rfl
  have i2 : oIx (dD d0 d1 d2 d3 d4) (.v (.int 2)) = .ok (.v (.int d2)) := rfl
  have i3 : oIx (dD d0 d1 d2 d3 d4) (.v (.int 3)) = .ok (.v (.int d3)) := rfl
  have i4 : oIx (dD d0 d1 d2 d3 d4) (.v (.int 4)) = .ok (.v (.int d4)) := rfl
  have m1 : oMod (.v (.int d1)) (.v (.int ((n : Int) + 1))) = .ok (.v (.int (d1 % ((n : Int) + 1)))) := oMod_pos hnp
  have m2 : oMod (.v (.int d2)) (.v (.int ((n : Int) + 1))) = .ok (.v (.int (d2 % ((n : Int) + 1)))) := oMod_pos hnp
  generalize hpp : d1 % ((n : Int) + 1) = p at m1
  generalize hqq : d2 % ((n : Int) + 1) = q at m2
  have a1 : cAsg 2 (cFn0 F__law_draws (cCons (cBin oAdd (cVar 1) (cC (.int 5))) (cCons (cL (cCons (cC (.int 5)) (cCons (cC (.int 8)) (cCons (cC (.int 8)) (cCons (cC (.int 64)) (cCons (cC (.int 12)) cNil)))))) cNil))) [A, some (.im (.int x)), o2, o3, o4, o5, o6, o7, o8, o9, o10, o11, o12] = .nx [A, some (.im (.int x)), some (.im (dD d0 d1 d2 d3 d4)), o3, o4, o5, o6, o7, o8, o9, o10, o11, o12] := by
    refine asg_nx ?_
    have hm' : F__law_draws [D.int (x + 5), .lst [.int 5, .int 8, .int 8, .int 64, .int 12]] = .ok (dD d0 d1 d2 d3 d4) := hm
    simp only [ev_bin, ev_c, ev_fn0, ev_cons, ev_var, ev_L, ev_nil, List.getElem?_cons_succ, List.getElem?_cons_zero, Res.bind_ok, D.int, ev_add] at hm' ⊢
    exact hm'
  have a2 : cAsg 3 (cBin oAdd (cC (.int 2)) (cBin oIx (cVar 2) (cC (.int 0)))) [A, some (.im (.int x)), some (.im (dD d0 d1 d2 d3 d4)), o3, o4, o5, o6, o7, o8, o9, o10, o11, o12] = .nx [A, some (.im (.int x)), some (.im (dD d0 d1 d2 d3 d4)), some (.im (.int (n : Int))), o4, o5, o6, o7, o8, o9, o10, o11, o12] := by
    refine asg_nx ?_
    simp only [ev_bin, ev_c, ev_var, List.getElem?_cons_succ, List.getElem?_cons_zero, Res.bind_ok, i0, ev_add, D.int, hn]
  have a3 : cAsg 4 (cFn0 F__law_web (cCons (cVar 1) (cCons (cVar 3) cNil))) [A, some (.im (.int x)), some (.im (dD d0 d1 d2 d3 d4)), some (.im (.int (n : Int))), o4, o5, o6, o7, o8, o9, o10, o11, o12] = .nx [A, some (.im (.int x)), some (.im (dD d0 d1 d2 d3 d4)), some (.im (.int (n : Int))), some (.im (tW w)), o5, o6, o7, o8, o9, o10, o11, o12] := by
    refine asg_nx ?_
    simp only [ev_fn0, ev_cons, ev_var, ev_nil, List.getElem?_cons_succ, List.getElem?_cons_zero, Res.bind_ok, hw]
  have a4 : cAsgG (bTup 2 (bCons (bName 5) (bCons (bName 6) bNil))) (cTup (cCons (cBin oMod (cBin oIx (cVar 2) (cC (.int 1))) (cBin oAdd (cVar 3) (cC (.int 1)))) (cCons (cBin oMod (cBin oIx (cVar 2) (cC (.int 2))) (cBin oAdd (cVar 3) (cC (.int 1)))) cNil))) [A, some (.im (.int x)), some (.im (dD d0 d1 d2 d3 d4)), some (.im (.int (n : Int))), some (.im (tW w)), o5, o6, o7, o8, o9, o10, o11, o12] = .nx [A, some (.im (.int x)), some (.im (dD d0 d1 d2 d3 d4)), some (.im (.int (n : Int))), some (.im (tW w)), some (.im (.int p)), some (.im (.int q)), o7, o8, o9, o10, o11, o12] := by
    rw [ev_asgG]
    simp only [ev_bin, ev_tup, ev_cons, ev_c, ev_var, ev_nil, List.getElem?_cons_succ, List.getElem?_cons_zero, Res.bind_ok, i1, i2, ev_add, m1, m2, stE_ok, D.int]
    rfl
  have a5 : cAsg 7 (cCall gTuple (cCons (cL (cLc [11] (cIt gRange1 (cCons (cVar 3) cNil)) (bName 11) (cTest (cBin oEq (cBin oMod (cBin oFdiv (cBin oIx (cVar 2) (cC (.int 3))) (cBin oIx (cL (cCons (cC (.int 1)) (cCons (cC (.int 2)) (cCons (cC (.int 4)) (cCons (cC (.int 8)) (cCons (cC (.int 16)) (cCons (cC (.int 32)) cNil))))))) (cVar 11))) (cC (.int 2))) (cC (.int 1)))) (cVar 11))) cNil)) [A, some (.im (.int x)), some (.im (dD d0 d1 d2 d3 d4)), some (.im (.int (n : Int))), some (.im (tW w)), some (.im (.int p)), some (.im (.int q)), o7, o8, o9, o10, o11, o12] = .nx (sL A x (dD d0 d1 d2 d3 d4) n w p q (cN (eyW n d3)) o8 o9 o10 o11 o12) := by
    refine asg_nx ?_
    rw [ev_call, ev_cons, ev_L, lc_keep (fun (k : Nat) => D.int (k : Int)) (fun c => decide (d3 / (([1, 2, 4, 8, 16, 32] : List Int).getD c 1) % 2 = 1)) (fun (k : Nat) => D.int (k : Int)) (List.range n) (by
      have := rg1 (n := n) (by omega)
      simp only [ev_it, ev_cons, ev_var, ev_nil, List.getElem?_cons_succ, List.getElem?_cons_zero, Res.bind_ok, D.int]
      exact this) (small_z (by simp; omega)) (fun c hc => ⟨_, rfl, by
      have hc' := List.mem_range.mp hc
      have hix : oIx (.lst [.v (.int 1), .v (.int 2), .v (.int 4), .v (.int 8), .v (.int 16), .v (.int 32)]) (.v (.int (c : Int))) = .ok (.v (.int (([1, 2, 4, 8, 16, 32] : List Int).getD c 1))) := by
        have h6 : c < ([1, 2, 4, 8, 16, 32] : List Int).length := by simp; omega
        have := ixL (f := D.int) (l := [1, 2, 4, 8, 16, 32]) h6
        rw [List.getD_eq_getElem?_getD, List.getElem?_eq_getElem h6]
        exact this
      have hpos : (0 : Int) < ([1, 2, 4, 8, 16, 32] : List Int).getD c 1 := by
        have : c = 0 ∨ c = 1 ∨ c = 2 ∨ c = 3 ∨ c = 4 ∨ c = 5 := by omega
        rcases this with rfl | rfl | rfl | rfl | rfl | rfl <;> decide
      have hsm : (([1, 2, 4, 8, 16, 32] : List Int).getD c 1).natAbs < 2 ^ 6 := by
        have : c = 0 ∨ c = 1 ∨ c = 2 ∨ c = 3 ∨ c = 4 ∨ c = 5 := by omega
        rcases this with rfl | rfl | rfl | rfl | rfl | rfl <;> decide
      have hdv : oFdiv (.v (.int d3)) (.v (.int (([1, 2, 4, 8, 16, 32] : List Int).getD c 1))) = .ok (.v (.int (d3 / (([1, 2, 4, 8, 16, 32] : List Int).getD c 1)))) := oFdiv_pos hpos (Nat.lt_of_lt_of_le hsm (Nat.pow_le_pow_right (by decide) (by decide)))
      have hmd : ∀ q : Int, oMod (.v (.int q)) (.v (.int 2)) = .ok (.v (.int (q % 2))) := fun q => oMod_pos (by decide)
      have heq : ∀ q : Int, oEq (.v (.int q)) (.v (.int 1)) = .ok (.bl (decide (q = 1))) := fun q => ev_eqI q 1
      simp only [ev_test, ev_bin, ev_L, ev_cons, ev_c, ev_nil, ev_bname, ev_wipe1, ev_wipe0, ev_var, List.set_cons_succ, List.set_cons_zero, List.getElem?_cons_succ, List.getElem?_cons_zero, Res.bind_ok, i3, hix, hdv, hmd, heq, ev_asB, D.int], fun _ => rfl⟩)]
    simp only [Res.bind_ok, ev_nil]
    rw [ev_tupl]
    unfold tI cN eyW
    rw [List.map_map]
    rfl
  have e0 : (cN (eyW n d3)).length ≤ 6 := by
    rw [cN_len]
    unfold eyW
    have := List.length_filter_le (fun c => decide (d3 / (([1, 2, 4, 8, 16, 32] : List Int).getD c 1) % 2 = 1)) (List.range n)
    rw [List.length_range] at this
    omega
  obtain ⟨e1, a6, l6⟩ : ∃ e1 : List Int, cIf (cTest (cBin oGt (cBin oIx (cVar 2) (cC (.int 4))) (cC (.int 0)))) (cAsg 7 (cCall gTuple (cCons (cL (cLc [11] (cItems (cVar 7)) (bName 11) (cAndT (cTest (cBin oNe (cVar 11) (cVar 5))) (cTest (cBin oNe (cVar 11) (cVar 6)))) (cVar 11))) cNil))) cNext (sL A x (dD d0 d1 d2 d3 d4) n w p q (cN (eyW n d3)) o8 o9 o10 o11 o12) = .nx (sL A x (dD d0 d1 d2 d3 d4) n w p q e1 o8 o9 o10 o11 o12) ∧ e1.length ≤ 6 := by
    have ht : (cTest (cBin oGt (cBin oIx (cVar 2) (cC (.int 4))) (cC (.int 0)))) (sL A x (dD d0 d1 d2 d3 d4) n w p q (cN (eyW n d3)) o8 o9 o10 o11 o12) = .ok (decide (d4 > 0)) := by
      have : oGt (.v (.int d4)) (.v (.int 0)) = .ok (.bl (decide (d4 > 0))) := by simp
      simp only [ev_test, ev_bin, ev_c, ev_var, List.getElem?_cons_succ, List.getElem?_cons_zero, Res.bind_ok, i4, this, ev_asB, D.int]
    cases hd : decide (d4 > 0) with
    | false => rw [hd] at ht; exact ⟨_, if_f ht rfl, e0⟩
    | true =>
      rw [hd] at ht
      have fl := List.length_filter_le (fun c : Int => !decide (c = p) && !decide (c = q)) (cN (eyW n d3))
      refine ⟨(cN (eyW n d3)).filter (fun c => !decide (c = p) && !decide (c = q)), if_t ht (asg_nx ?_), by omega⟩
      rw [ev_call, ev_cons, ev_L, lc_keep D.int (fun c : Int => !decide (c = p) && !decide (c = q)) D.int (cN (eyW n d3)) (by
        simp only [ev_items, ev_var, List.getElem?_cons_succ, List.getElem?_cons_zero, Res.bind_ok]
        rfl) (small_z (by omega)) (fun c hc => ⟨_, rfl, by
        simp only [ev_andT, ev_test, ev_bin, ev_bname, ev_wipe1, ev_wipe0, ev_var, List.set_cons_succ, List.set_cons_zero, List.getElem?_cons_succ, List.getElem?_cons_zero, Res.bind_ok, ev_neI, ev_asB, D.int]
        cases decide (c = p) <;> rfl, fun _ => rfl⟩)]
      simp only [Res.bind_ok, ev_nil]
      rw [ev_tupl]
      rfl
  obtain ⟨ey, a7, l7⟩ : ∃ ey : List Int, cIf (cTest (cBin oEq (cBin oIx (cVar 2) (cC (.int 4))) (cC (.int 11)))) (cAsg 7 (cBin oAdd (cVar 7) (cTup (cCons (cBin oIx (cL (cCons (cUn oNeg (cC (.int 1))) (cCons (cVar 3) cNil))) (cBin oMod (cBin oIx (cVar 2) (cC (.int 1))) (cC (.int 2)))) cNil)))) cNext (sL A x (dD d0 d1 d2 d3 d4) n w p q e1 o8 o9 o10 o11 o12) = .nx (sL A x (dD d0 d1 d2 d3 d4) n w p q ey o8 o9 o10 o11 o12) ∧ ey.length ≤ 7 := by
    have ht : (cTest (cBin oEq (cBin oIx (cVar 2) (cC (.int 4))) (cC (.int 11)))) (sL A x (dD d0 d1 d2 d3 d4) n w p q e1 o8 o9 o10 o11 o12) = .ok (decide (d4 = 11)) := by
      simp only [ev_test, ev_bin, ev_c, ev_var, List.getElem?_cons_succ, List.getElem?_cons_zero, Res.bind_ok, i4, ev_eqI, ev_asB, D.int]
    cases hd : decide (d4 = 11) with
    | false => rw [hd] at ht; exact ⟨_, if_f ht rfl, by omega⟩
    | true =>
      rw [hd] at ht
      obtain ⟨z, hzz⟩ : ∃ z : Int, oIx (.lst [.v (.int (-1)), .v (.int (n : Int))]) (.v (.int (d1 % 2))) = .ok (.v (.int z)) := by
        rcases (show d1 % 2 = 0 ∨ d1 % 2 = 1 by omega) with h | h
        · rw [h]; exact ⟨_, rfl⟩
        · rw [h]; exact ⟨_, rfl⟩
      have hmd : oMod (.v (.int d1)) (.v (.int 2)) = .ok (.v (.int (d1 % 2))) := oMod_pos (by decide)
      refine ⟨e1 ++ [z], if_t ht (asg_nx ?_), by simp only [List.length_append, List.length_singleton]; omega⟩
      have e2 := tI_add e1 [z] (small_z (by simp only [List.length_singleton]; omega))
      have e2' : oAdd (tI e1) (.tup [.v (.int z)]) = _ := e2
      simp only [ev_bin, ev_tup, ev_L, ev_un, ev_neg, ev_cons, ev_c, ev_var, ev_nil, List.getElem?_cons_succ, List.getElem?_cons_zero, Res.bind_ok, i1, hmd, hzz, e2', D.int]
  have a8 : cAsg 8 (cC (.str "")) (sL A x (dD d0 d1 d2 d3 d4) n w p q ey o8 o9 o10 o11 o12) = .nx (sL A x (dD d0 d1 d2 d3 d4) n w p q ey (some (.im (.str ""))) o9 o10 o11 o12) := asg_nx rfl
  have a9 : cIf (cNotT (cTest (cCall gAll (cCons (cL (cLc [11] (cItems (cBin oAdd (cTup (cCons (cVar 5) (cCons (cVar 6) cNil))) (cVar 7))) (bName 11) cYes (cChain oLe oLt (cC (.int 0)) (cVar 11) (cVar 3)))) cNil)))) (cAsg 8 (cC (.str "badcolumn"))) (cIf (cOrT (cTest (cBin oEq (cVar 5) (cVar 6))) (cOrT (cTest (cBin (oInA false) (cVar 5) (cVar 7))) (cTest (cBin (oInA false) (cVar 6) (cVar 7))))) (cAsg 8 (cC (.str "same"))) cNext) (sL A x (dD d0 d1 d2 d3 d4) n w p q ey (some (.im (.str ""))) o9 o10 o11 o12) = .nx (sL A x (dD d0 d1 d2 d3 d4) n w p q ey (some (.im (.str (dueS n p q ey)))) o9 o10 o11 o12) := by
    have hall : (cCall gAll (cCons (cL (cLc [11] (cItems (cBin oAdd (cTup (cCons (cVar 5) (cCons (cVar 6) cNil))) (cVar 7))) (bName 11) cYes (cChain oLe oLt (cC (.int 0)) (cVar 11) (cVar 3)))) cNil)) (sL A x (dD d0 d1 d2 d3 d4) n w p q ey (some (.im (.str ""))) o9 o10 o11 o12) = .ok (.bl ((p :: q :: ey).all (rgW n))) := by
      have e1 := tI_add [p, q] ey (small_z (by simp only [List.length_cons, List.length_nil]; omega))
      have e1' : oAdd (.tup [.v (.int p), .v (.int q)]) (tI ey) = _ := e1
      refine all_lc D.int (rgW n) (p :: q :: ey) (by
        simp only [ev_items, ev_bin, ev_tup, ev_cons, ev_var, ev_nil, List.getElem?_cons_succ, List.getElem?_cons_zero, Res.bind_ok, D.int, e1']
        rfl) (small_z (by simp only [List.length_cons]; omega)) fun c hc => ⟨_, rfl, ?_⟩
      simp only [ev_chain, ev_c, ev_bname, ev_wipe1, ev_wipe0, ev_var, List.set_cons_succ, List.set_cons_zero, List.getElem?_cons_succ, List.getElem?_cons_zero, Res.bind_ok, oLe_int, oLt_int, D.int]
      unfold rgW
      by_cases g1 : (0 : Int) ≤ c
      · by_cases g2 : c < (n : Int) <;> simp [g1, g2]
      · simp [g1]
    have ht : (cOrT (cTest (cBin oEq (cVar 5) (cVar 6))) (cOrT (cTest (cBin (oInA false) (cVar 5) (cVar 7))) (cTest (cBin (oInA false) (cVar 6) (cVar 7))))) (sL A x (dD d0 d1 d2 d3 d4) n w p q ey (some (.im (.str ""))) o9 o10 o11 o12) = .ok (sameB p q ey) := by
      simp only [ev_orT, ev_test, ev_bin, ev_var, List.getElem?_cons_succ, List.getElem?_cons_zero, Res.bind_ok, tI_in, Bool.false_eq_true, if_false, ev_asB, D.int, ev_eqI]
      unfold sameB
      cases decide (p = q) <;> cases decide (p ∈ ey) <;> rfl
    have hnt : (cNotT (cTest (cCall gAll (cCons (cL (cLc [11] (cItems (cBin oAdd (cTup (cCons (cVar 5) (cCons (cVar 6) cNil))) (cVar 7))) (bName 11) cYes (cChain oLe oLt (cC (.int 0)) (cVar 11) (cVar 3)))) cNil)))) (sL A x (dD d0 d1 d2 d3 d4) n w p q ey (some (.im (.str ""))) o9 o10 o11 o12) = .ok (!(p :: q :: ey).all (rgW n)) := by
      rw [ev_notT, test_ok hall]
      rfl
    unfold dueS
    cases hr : (p :: q :: ey).all (rgW n) with
    | false =>
      rw [hr] at hnt
      exact if_t hnt rfl
    | true =>
      rw [hr] at hnt
      refine if_f hnt ?_
      cases hb : sameB p q ey with
      | true => rw [hb] at ht; exact if_t ht rfl
      | false => rw [hb] at ht; exact if_f ht rfl
  obtain ⟨r, ho, hw1, hw2, -⟩ := ow_cases hal hz hl hg (p := p) (q := q) (ey := ey) (by omega)
  have hap := apart_of ho
  rw [hwl] at hw1 hw2
  have lay := due_lay n p q ey
  have hne : oNe (.v (.str (dueS n p q ey))) (.v (.str (dueS n p q ey))) = .ok (.bl false) := (eq_strs lay lay).trans (by simp)
  simp only [D.int] at ho hap
  have t10 : (cTest (cBin oNe (cLam 2 q__law_word "" (cKw F_open_way [.p 0, .p 1, .p 2, .k 0] (cCons (cVar 4) (cCons (cVar 5) (cCons (cVar 6) cNil))) (cCons (cVar 7) cNil))) (cVar 8))) (sL A x (dD d0 d1 d2 d3 d4) n w p q ey (some (.im (.str (dueS n p q ey)))) o9 o10 o11 o12) = .ok false := by
    refine test_ok ?_
    rw [ev_bin, ev_lam]
    simp only [ev_kw, ev_cons, ev_var, ev_nil, ev_c, List.getElem?_cons_succ, List.getElem?_cons_zero, Res.bind_ok, pkD, List.map_cons, List.map_nil, ev_pk_p, ev_pk_k, List.getD_cons_zero, List.getD_cons_succ, ho, hw1, D.int]
    exact hne
  have t11 : (cTest (cBin oNe (cLam 2 q__law_word "" (cKw F_apart [.p 0, .p 1, .p 2, .k 0] (cCons (cVar 4) (cCons (cVar 5) (cCons (cVar 6) cNil))) (cCons (cVar 7) cNil))) (cVar 8))) (sL A x (dD d0 d1 d2 d3 d4) n w p q ey (some (.im (.str (dueS n p q ey)))) o9 o10 o11 o12) = .ok false := by
    refine test_ok ?_
    rw [ev_bin, ev_lam]
    simp only [ev_kw, ev_cons, ev_var, ev_nil, ev_c, List.getElem?_cons_succ, List.getElem?_cons_zero, Res.bind_ok, pkD, List.map_cons, List.map_nil, ev_pk_p, ev_pk_k, List.getD_cons_zero, List.getD_cons_succ, hap, D.int]
    rw [hw2, Res.bind_ok]
    exact hne
  have hwd := wide_ok (w := w) (by omega) hz hl (p := p) (q := q) (ey := ey) (by omega)
  simp only [D.int] at hwd
  have t12 : (cNotT (cTest (cFn0 F__law_wide_so (cCons (cVar 4) (cCons (cVar 5) (cCons (cVar 6) (cCons (cVar 7) cNil))))))) (sL A x (dD d0 d1 d2 d3 d4) n w p q ey (some (.im (.str (dueS n p q ey)))) o9 o10 o11 o12) = .ok false := by
    simp only [ev_notT, ev_test, ev_fn0, ev_cons, ev_var, ev_nil, List.getElem?_cons_succ, List.getElem?_cons_zero, Res.bind_ok, hwd, ev_asB, D.int]
    rfl
  have t13 : (cTest (cBin oEq (cVar 8) (cC (.str "")))) (sL A x (dD d0 d1 d2 d3 d4) n w p q ey (some (.im (.str (dueS n p q ey)))) o9 o10 o11 o12) = .ok (decide (dueS n p q ey = "")) := by
    refine test_ok ?_
    rw [ev_bin]
    simp only [ev_c, ev_var, List.getElem?_cons_succ, List.getElem?_cons_zero, Res.bind_ok]
    exact (eq_strs lay (by decide +kernel)).trans (by simp)
  by_cases hdue : dueS n p q ey = ""
  · rw [decide_eq_true hdue] at t13
    obtain ⟨o9', o10', hlast⟩ := last_ok hal (by omega) hz hl6 hg (p := p) (q := q) (ey := ey) (by omega) (by rw [hwl]; exact hdue) A x (dD d0 d1 d2 d3 d4) n o9 o10 o11 o12
    rw [hdue] at a9 t10 t11 t12 t13
    exact ⟨_, seq_nx a1 (seq_nx a2 (seq_nx a3 (seq_nx a4 (seq_nx a5 (seq_nx a6 (seq_nx a7 (seq_nx a8 (seq_nx a9 (seq_nx (if_f t10 rfl) (seq_nx (if_f t11 rfl) (seq_nx (if_f t12 rfl) (if_t t13 hlast)))))))))))), p13 ..⟩
  · rw [decide_eq_false hdue] at t13
    exact ⟨_, seq_nx a1 (seq_nx a2 (seq_nx a3 (seq_nx a4 (seq_nx a5 (seq_nx a6 (seq_nx a7 (seq_nx a8 (seq_nx a9 (seq_nx (if_f t10 rfl) (seq_nx (if_f t11 rfl) (seq_nx (if_f t12 rfl) (if_f t13 rfl)))))))))))), p13 ..⟩
theorem law_true (ns : List Int) (h : ns.length ≤ 63) : F_law [.lst (ns.map D.int)] = .ok (.bl true) := by
  have hcut : cutD (ns.map D.int) none (some 63) = ns.map D.int := by
    rw [cutD_map]
    have : HT.sIx ns.length ns.length (some 63) = ns.length := by
      rw [show (some 63 : Option Int) = some ((63 : Nat) : Int) from rfl, HT.sIx_nat]
      omega
    rw [this]
    show List.map D.int (List.take (ns.length - 0) (List.drop 0 ns)) = _
    simp
  have hadd : oAdd (.lst (ns.map D.int)) (.lst [.int 0, .int 1, .int 2]) = .ok (.lst ((ns ++ [0, 1, 2]).map D.int)) := by
    unfold oAdd
    dsimp only
    rw [if_pos (by rw [sizeLine_eq, List.length_map]; simp; omega)]
    simp
  obtain ⟨δ2, e, -⟩ := forF_inv D.int P13 (b := bName 1) (g := g_law_l1) (ns ++ [0, 1, 2]) [some (.im (.lst (ns.map D.int))), none, none, none, none, none, none, none, none, none, none, none, none] (p13 ..) (by
    rintro δ x hx ⟨a, b, c, d, e, f, g, h, i, j, k, l, m, rfl⟩
    obtain ⟨δ2, h1, h2⟩ := cell_turn x a c d e f g h i j k l m
    exact ⟨_, δ2, rfl, h1, h2⟩)
  unfold F_law
  rw [defF_ev]
  show flR (g_law [some (.im (.lst (ns.map D.int))), none, none, none, none, none, none, none, none, none, none, none, none]) = _
  unfold g_law
  rw [seq_nx (asg_nx (d := .lst (ns.map D.int)) (by simp [hcut])) (seq_nx (for_r (ds := (ns ++ [0, 1, 2]).map D.int) (by simp [hadd]) e) (ret_rt rfl))]
  rfl
end My
namespace My
open PySem L2 DV

def top (i : Nat) : Stmt := PySem.Challenge.pw_tallyloom_k15_shortest_open_ways.main.body.getD i (.Pass ⟨0, 0, 0, 0⟩)
abbrev s_is_plain : Stmt := top 9
abbrev s_ring_of : Stmt := top 10
abbrev s_is_web : Stmt := top 11
abbrev s_look_web : Stmt := top 12
abbrev s_look_column : Stmt := top 13
abbrev s_order : Stmt := top 14
abbrev s_all_leads : Stmt := top 15
abbrev s_are_joined : Stmt := top 17
abbrev s_lets_through : Stmt := top 18
abbrev s_passes : Stmt := top 19
abbrev s_look_ends : Stmt := top 20
abbrev s_open_way : Stmt := top 21
abbrev s_apart : Stmt := top 22
abbrev s__law_draws : Stmt := top 24
abbrev s__law_web : Stmt := top 25
abbrev s__law_ways : Stmt := top 26
abbrev s__law_below : Stmt := top 27
abbrev s__law_passes : Stmt := top 28
abbrev s__law_word : Stmt := top 29
abbrev s__law_wide_so : Stmt := top 30
abbrev s_law : Stmt := top 31
abbrev si_BadColumn : Stmt := inCls (top 3) 0
abbrev si_BadWeb : Stmt := inCls (top 4) 0
abbrev si_Same : Stmt := inCls (top 5) 0
abbrev si_NothingLeft : Stmt := inCls (top 6) 0
structure Ads where
  cl__law_wide_so : Addr
  pl__law_wide_so : Addr
  c_BadColumn : Addr
  i_BadColumn : Addr
  di_BadColumn : FuncData
  c_BadWeb : Addr
  i_BadWeb : Addr
  di_BadWeb : FuncData
  c_Same : Addr
  i_Same : Addr
  di_Same : FuncData
  c_NothingLeft : Addr
  i_NothingLeft : Addr
  di_NothingLeft : FuncData
  c_Absent : Addr
  c_LoomError : Addr
  f_is_plain : Addr
  d_is_plain : FuncData
  f_ring_of : Addr
  d_ring_of : FuncData
  f_is_web : Addr
  d_is_web : FuncData
  f_look_web : Addr
  d_look_web : FuncData
  f_look_column : Addr
  d_look_column : FuncData
  f_order : Addr
  d_order : FuncData
  f_all_leads : Addr
  d_all_leads : FuncData
  f_are_joined : Addr
  d_are_joined : FuncData
  f_lets_through : Addr
  d_lets_through : FuncData
  f_passes : Addr
  d_passes : FuncData
  f_look_ends : Addr
  d_look_ends : FuncData
  f_open_way : Addr
  d_open_way : FuncData
  f_apart : Addr
  d_apart : FuncData
  f__law_draws : Addr
  d__law_draws : FuncData
  f__law_web : Addr
  d__law_web : FuncData
  f__law_ways : Addr
  d__law_ways : FuncData
  f__law_below : Addr
  d__law_below : FuncData
  f__law_passes : Addr
  d__law_passes : FuncData
  f__law_word : Addr
  d__law_word : FuncData
  f__law_wide_so : Addr
  d__law_wide_so : FuncData
  f_law : Addr
  d_law : FuncData
  v_MOST_COLUMNS : V
  u_MOST_COLUMNS : Value
  v_dT_apart_seen : V
  u_dT_apart_seen : Value
  v_dT_open_way_seen : V
  u_dT_open_way_seen : Value
structure Txt (K : PySem.W.Frag) (mg : Str → Option Value) (a : Ads) (base : Heap) : Prop where
  C__law_wide_so : ∃ (oc : Value) (od : Option Addr) (kV doc pm : Value) (an : Option Addr) (ct : Value) (osl : Array (Option Value)), a.d__law_wide_so = PySem.W.fnOf "_law_wide_so" "_law_wide_so" (defArgs s__law_wide_so) (defBody s__law_wide_so) (defScope s__law_wide_so) .none kV doc pm an (.ref a.cl__law_wide_so) ct ∧ K.lookup a.f__law_wide_so = some ⟨oc, od, .func (PySem.W.fnOf "_law_wide_so" "_law_wide_so" (defArgs s__law_wide_so) (defBody s__law_wide_so) (defScope s__law_wide_so) .none kV doc pm an (.ref a.cl__law_wide_so) ct), osl⟩ ∧ PySem.W.codeIn K (.ref a.cl__law_wide_so) "_law_wide_so" = true
  P__law_wide_so : a.pl__law_wide_so ∈ tabsOf K
  B__law_wide_so : LamX.TabB base mg a.cl__law_wide_so a.pl__law_wide_so
  X_BadColumn : ExK K mg "BadColumn" a.c_BadColumn a.i_BadColumn
  IF_BadColumn : Fun K "__init__" "BadColumn.__init__" si_BadColumn a.i_BadColumn a.di_BadColumn
  ib_BadColumn : Binds K a.di_BadColumn ["self"] []
  xc_BadColumn : XcK K (.ref a.c_BadColumn)
  X_BadWeb : ExK K mg "BadWeb" a.c_BadWeb a.i_BadWeb
  IF_BadWeb : Fun K "__init__" "BadWeb.__init__" si_BadWeb a.i_BadWeb a.di_BadWeb
  ib_BadWeb : Binds K a.di_BadWeb ["self"] []
  xc_BadWeb : XcK K (.ref a.c_BadWeb)
  X_Same : ExK K mg "Same" a.c_Same a.i_Same
  IF_Same : Fun K "__init__" "Same.__init__" si_Same a.i_Same a.di_Same
  ib_Same : Binds K a.di_Same ["self"] []
  xc_Same : XcK K (.ref a.c_Same)
  X_NothingLeft : ExK K mg "NothingLeft" a.c_NothingLeft a.i_NothingLeft
  IF_NothingLeft : Fun K "__init__" "NothingLeft.__init__" si_NothingLeft a.i_NothingLeft a.di_NothingLeft
  ib_NothingLeft : Binds K a.di_NothingLeft ["self"] []
  xc_NothingLeft : XcK K (.ref a.c_NothingLeft)
  hm_Absent : mg "Absent" = some (.ref a.c_Absent)
  hm_LoomError : mg "LoomError" = some (.ref a.c_LoomError)
  hm_NothingLeft : mg "NothingLeft" = some (.ref a.c_NothingLeft)
  ex_BadColumn_NothingLeft : PySem.W.exmOne K (.ref a.c_BadColumn) (.ref a.c_NothingLeft) = some false
  ex_BadWeb_NothingLeft : PySem.W.exmOne K (.ref a.c_BadWeb) (.ref a.c_NothingLeft) = some false
  ex_Same_NothingLeft : PySem.W.exmOne K (.ref a.c_Same) (.ref a.c_NothingLeft) = some false
  ex_NothingLeft_NothingLeft : PySem.W.exmOne K (.ref a.c_NothingLeft) (.ref a.c_NothingLeft) = some true
  ex_BadColumn_Absent : PySem.W.exmOne K (.ref a.c_BadColumn) (.ref a.c_Absent) = some false
  ex_BadWeb_Absent : PySem.W.exmOne K (.ref a.c_BadWeb) (.ref a.c_Absent) = some false
  ex_Same_Absent : PySem.W.exmOne K (.ref a.c_Same) (.ref a.c_Absent) = some false
  ex_NothingLeft_Absent : PySem.W.exmOne K (.ref a.c_NothingLeft) (.ref a.c_Absent) = some false
  ex_BadColumn_LoomError : PySem.W.exmOne K (.ref a.c_BadColumn) (.ref a.c_LoomError) = some true
  ex_BadWeb_LoomError : PySem.W.exmOne K (.ref a.c_BadWeb) (.ref a.c_LoomError) = some true
  ex_Same_LoomError : PySem.W.exmOne K (.ref a.c_Same) (.ref a.c_LoomError) = some true
  ex_NothingLeft_LoomError : PySem.W.exmOne K (.ref a.c_NothingLeft) (.ref a.c_LoomError) = some false
  F_is_plain : Fun K "is_plain" "is_plain" s_is_plain a.f_is_plain a.d_is_plain
  g_is_plain : mg "is_plain" = some (.ref a.f_is_plain)
  k_is_plain : PySem.W.keepIn K (.ref a.f_is_plain) = true
  bd_is_plain : Binds K a.d_is_plain ["web"] []
  F_ring_of : Fun K "ring_of" "ring_of" s_ring_of a.f_ring_of a.d_ring_of
  g_ring_of : mg "ring_of" = some (.ref a.f_ring_of)
  k_ring_of : PySem.W.keepIn K (.ref a.f_ring_of) = true
  bd_ring_of : Binds K a.d_ring_of ["web"] []
  F_is_web : Fun K "is_web" "is_web" s_is_web a.f_is_web a.d_is_web
  g_is_web : mg "is_web" = some (.ref a.f_is_web)
  k_is_web : PySem.W.keepIn K (.ref a.f_is_web) = true
  bd_is_web : Binds K a.d_is_web ["web"] []
  F_look_web : Fun K "look_web" "look_web" s_look_web a.f_look_web a.d_look_web
  g_look_web : mg "look_web" = some (.ref a.f_look_web)
  k_look_web : PySem.W.keepIn K (.ref a.f_look_web) = true
  bd_look_web : Binds K a.d_look_web ["web"] []
  F_look_column : Fun K "look_column" "look_column" s_look_column a.f_look_column a.d_look_column
  g_look_column : mg "look_column" = some (.ref a.f_look_column)
  k_look_column : PySem.W.keepIn K (.ref a.f_look_column) = true
  bd_look_column : Binds K a.d_look_column ["many", "column"] []
  F_order : Fun K "order" "order" s_order a.f_order a.d_order
  g_order : mg "order" = some (.ref a.f_order)
  k_order : PySem.W.keepIn K (.ref a.f_order) = true
  bd_order : Binds K a.d_order ["web"] []
  F_all_leads : Fun K "all_leads" "all_leads" s_all_leads a.f_all_leads a.d_all_leads
  g_all_leads : mg "all_leads" = some (.ref a.f_all_leads)
  k_all_leads : PySem.W.keepIn K (.ref a.f_all_leads) = true
  bd_all_leads : Binds K a.d_all_leads ["web"] []
  F_are_joined : Fun K "are_joined" "are_joined" s_are_joined a.f_are_joined a.d_are_joined
  g_are_joined : mg "are_joined" = some (.ref a.f_are_joined)
  k_are_joined : PySem.W.keepIn K (.ref a.f_are_joined) = true
  bd_are_joined : Binds K a.d_are_joined ["web", "one", "other"] []
  F_lets_through : Fun K "lets_through" "lets_through" s_lets_through a.f_lets_through a.d_lets_through
  g_lets_through : mg "lets_through" = some (.ref a.f_lets_through)
  k_lets_through : PySem.W.keepIn K (.ref a.f_lets_through) = true
  bd_lets_through : Binds K a.d_lets_through ["web", "leads", "step", "seen"] []
  F_passes : Fun K "passes" "passes" s_passes a.f_passes a.d_passes
  g_passes : mg "passes" = some (.ref a.f_passes)
  k_passes : PySem.W.keepIn K (.ref a.f_passes) = true
  bd_passes : Binds K a.d_passes ["web", "leads", "way", "seen"] []
  F_look_ends : Fun K "look_ends" "look_ends" s_look_ends a.f_look_ends a.d_look_ends
  g_look_ends : mg "look_ends" = some (.ref a.f_look_ends)
  k_look_ends : PySem.W.keepIn K (.ref a.f_look_ends) = true
  bd_look_ends : Binds K a.d_look_ends ["web", "one", "other", "seen"] []
  F_open_way : FunD K "open_way" "open_way" (defArgs s_open_way) (defBody s_open_way) (defScope s_open_way) [] [("seen", a.v_dT_open_way_seen)] a.f_open_way a.d_open_way
  kf0_open_way : KForm K a.d_open_way ["web", "one", "other", "seen"] 3 ["seen"] [.p 0, .p 1, .p 2, .k 0]
  g_open_way : mg "open_way" = some (.ref a.f_open_way)
  k_open_way : PySem.W.keepIn K (.ref a.f_open_way) = true
  F_apart : FunD K "apart" "apart" (defArgs s_apart) (defBody s_apart) (defScope s_apart) [] [("seen", a.v_dT_apart_seen)] a.f_apart a.d_apart
  kf0_apart : KForm K a.d_apart ["web", "one", "other", "seen"] 3 ["seen"] [.p 0, .p 1, .p 2, .k 0]
  g_apart : mg "apart" = some (.ref a.f_apart)
  k_apart : PySem.W.keepIn K (.ref a.f_apart) = true
  F__law_draws : Fun K "_law_draws" "_law_draws" s__law_draws a.f__law_draws a.d__law_draws
  g__law_draws : mg "_law_draws" = some (.ref a.f__law_draws)
  k__law_draws : PySem.W.keepIn K (.ref a.f__law_draws) = true
  bd__law_draws : Binds K a.d__law_draws ["_law_cell", "_law_sizes"] []
  F__law_web : Fun K "_law_web" "_law_web" s__law_web a.f__law_web a.d__law_web
  g__law_web : mg "_law_web" = some (.ref a.f__law_web)
  k__law_web : PySem.W.keepIn K (.ref a.f__law_web) = true
  bd__law_web : Binds K a.d__law_web ["_law_cell", "_law_many"] []
  F__law_ways : Fun K "_law_ways" "_law_ways" s__law_ways a.f__law_ways a.d__law_ways
  g__law_ways : mg "_law_ways" = some (.ref a.f__law_ways)
  k__law_ways : PySem.W.keepIn K (.ref a.f__law_ways) = true
  bd__law_ways : Binds K a.d__law_ways ["_law_web_here", "_law_one", "_law_other"] []
  F__law_below : Fun K "_law_below" "_law_below" s__law_below a.f__law_below a.d__law_below
  g__law_below : mg "_law_below" = some (.ref a.f__law_below)
  k__law_below : PySem.W.keepIn K (.ref a.f__law_below) = true
  bd__law_below : Binds K a.d__law_below ["_law_web_here", "_law_column"] []
  F__law_passes : Fun K "_law_passes" "_law_passes" s__law_passes a.f__law_passes a.d__law_passes
  g__law_passes : mg "_law_passes" = some (.ref a.f__law_passes)
  k__law_passes : PySem.W.keepIn K (.ref a.f__law_passes) = true
  bd__law_passes : Binds K a.d__law_passes ["_law_web_here", "_law_way", "_law_eyed"] []
  F__law_word : Fun K "_law_word" "_law_word" s__law_word a.f__law_word a.d__law_word
  g__law_word : mg "_law_word" = some (.ref a.f__law_word)
  k__law_word : PySem.W.keepIn K (.ref a.f__law_word) = true
  bd__law_word : Binds K a.d__law_word ["_law_asked"] []
  F__law_wide_so : Fun K "_law_wide_so" "_law_wide_so" s__law_wide_so a.f__law_wide_so a.d__law_wide_so
  g__law_wide_so : mg "_law_wide_so" = some (.ref a.f__law_wide_so)
  k__law_wide_so : PySem.W.keepIn K (.ref a.f__law_wide_so) = true
  bd__law_wide_so : Binds K a.d__law_wide_so ["_law_web_here", "_law_one", "_law_other", "_law_eyed"] []
  F_law : Fun K "law" "law" s_law a.f_law a.d_law
  g_law : mg "law" = some (.ref a.f_law)
  k_law : PySem.W.keepIn K (.ref a.f_law) = true
  bd_law : Binds K a.d_law ["_law_script"] []
  b_abs : mg "abs" = none
  b_all : mg "all" = none
  b_any : mg "any" = none
  b_enumerate : mg "enumerate" = none
  b_len : mg "len" = none
  b_list : mg "list" = none
  b_min : mg "min" = none
  b_range : mg "range" = none
  b_sorted : mg "sorted" = none
  b_tuple : mg "tuple" = none
  c_MOST_COLUMNS : mg "MOST_COLUMNS" = some a.u_MOST_COLUMNS
  w_MOST_COLUMNS : RelV a.v_MOST_COLUMNS a.u_MOST_COLUMNS
  r_MOST_COLUMNS : ∀ B, Rp K B a.v_MOST_COLUMNS (.int 6)
  w_dT_apart_seen : RelV a.v_dT_apart_seen a.u_dT_apart_seen
  r_dT_apart_seen : ∀ B, Rp K B a.v_dT_apart_seen (.tup [])
  w_dT_open_way_seen : RelV a.v_dT_open_way_seen a.u_dT_open_way_seen
  r_dT_open_way_seen : ∀ B, Rp K B a.v_dT_open_way_seen (.tup [])
section
variable {P : Program} {w : World} {K : PySem.W.Frag} {mg : Str → Option Value} {base : Heap} {a : Ads}
theorem sc_BadColumn : FnScope ["self"] ["self"] (defScope si_BadColumn) := ⟨rfl, rfl, rfl, by decide +kernel, rfl, by decide +kernel, by decide +kernel⟩
theorem in_BadColumn (T : Txt K mg a base) : FnOk P w K mg base (L2.CX P w) 1 a.i_BadColumn a.di_BadColumn ["self"] (spI K a.c_BadColumn 0 (fv1 "word" "badcolumn")) :=
  init1_ok (k := 0) T.IF_BadColumn sc_BadColumn T.X_BadColumn.T T.xc_BadColumn.no fun cdv A outer s H E => pss_one (ps_osB (pv 0) pe_str)
theorem sc_BadWeb : FnScope ["self"] ["self"] (defScope si_BadWeb) := ⟨rfl, rfl, rfl, by decide +kernel, rfl, by decide +kernel, by decide +kernel⟩
theorem in_BadWeb (T : Txt K mg a base) : FnOk P w K mg base (L2.CX P w) 1 a.i_BadWeb a.di_BadWeb ["self"] (spI K a.c_BadWeb 0 (fv1 "word" "badweb")) :=
  init1_ok (k := 0) T.IF_BadWeb sc_BadWeb T.X_BadWeb.T T.xc_BadWeb.no fun cdv A outer s H E => pss_one (ps_osB (pv 0) pe_str)
theorem sc_Same : FnScope ["self"] ["self"] (defScope si_Same) := ⟨rfl, rfl, rfl, by decide +kernel, rfl, by decide +kernel, by decide +kernel⟩
theorem in_Same (T : Txt K mg a base) : FnOk P w K mg base (L2.CX P w) 1 a.i_Same a.di_Same ["self"] (spI K a.c_Same 0 (fv1 "word" "same")) :=
  init1_ok (k := 0) T.IF_Same sc_Same T.X_Same.T T.xc_Same.no fun cdv A outer s H E => pss_one (ps_osB (pv 0) pe_str)
theorem sc_NothingLeft : FnScope ["self"] ["self"] (defScope si_NothingLeft) := ⟨rfl, rfl, rfl, by decide +kernel, rfl, by decide +kernel, by decide +kernel⟩
theorem in_NothingLeft (T : Txt K mg a base) : FnOk P w K mg base (L2.CX P w) 1 a.i_NothingLeft a.di_NothingLeft ["self"] (spI K a.c_NothingLeft 0 (fv1 "word" "nothingleft")) :=
  init1_ok (k := 0) T.IF_NothingLeft sc_NothingLeft T.X_NothingLeft.T T.xc_NothingLeft.no fun cdv A outer s H E => pss_one (ps_osB (pv 0) pe_str)
theorem sc_is_plain : FnScope ["web", "column", "leans", "one"] ["web"] (defScope s_is_plain) := ⟨rfl, rfl, rfl, by decide +kernel, rfl, by decide +kernel, by decide +kernel⟩
theorem ok_is_plain (T : Txt K mg a base) : FnOk P w K mg base (L2.CX P w) 1 a.f_is_plain a.d_is_plain ["web"] (spD K 1 F_is_plain) := by
  refine def_ok (k := 0) T.F_is_plain sc_is_plain rfl fun cdv A outer s H E hr tk po hu => ?_
  have nd := sc_is_plain.nd
  have hu5 := units5 hr
  exact ⟨_, (css_cons (cs_if (ct_not (ct_cc o_le o_le ce_int (ce_callB (k_len K (by rfl)) T.b_len (by decide +kernel) (ca_cons (ce_var 0) ca_nil)) (ce_glob (by rfl) T.c_MOST_COLUMNS T.w_MOST_COLUMNS (fun B => T.r_MOST_COLUMNS B)))) (css_one (cs_ret ce_bl)) css_nil)
  (css_cons (cs_for po rfl (ci_enum K (by rfl) T.b_enumerate (ca_cons (ce_var 0) ca_nil)) (cg_tup K (by rfl) (by rfl) (cgs_cons (cg_name 1 nd) (cgs_cons (cg_name 2 nd) cgs_nil (by rfl)) (by rfl)) (by rfl) (by rfl)) (css_cons (cs_if (CW.ct (cw_or (ct_c (o_ne K (by rfl) hu) (ce_callTy (k_list K (by rfl)) T.b_list (by decide +kernel) (ca_cons (ce_var 2) ca_nil)) (ce_l (cf_sortedS w (by rfl) rfl T.b_sorted (csi_1 (own := [("one", 3)]) s rfl nd (ci_seq K (by rfl) (ce_var 2)) (blkOk_by (by kernel_rfl)) (fun _ _ _ _ _ => (cg_name 3 nd)) (fun _ _ _ _ _ => cts_nil) (fun _ _ _ _ _ => (ce_var 3)))))) (cw_or1 (ct_c (o_inA K (by rfl) hu5) (ce_var 1) (ce_var 2))))) (css_one (cs_ret ce_bl)) css_nil)
  (css_one (cs_if (ct_not (ct_val (ce_callB (k_all K (by rfl) (by rfl)) T.b_all (by decide +kernel) (ca_cons (ce_l (lc_1 (own := [("one", 3)]) s rfl nd (ci_seq K (by rfl) (ce_var 2)) (blkOk_by (by kernel_rfl)) (fun _ _ _ _ _ => (cg_name 3 nd)) (fun _ _ _ _ _ => cts_nil) (fun _ _ _ _ _ => (ce_cc o_le o_lt ce_int (ce_var 3) (ce_callB (k_len K (by rfl)) T.b_len (by decide +kernel) (ca_cons (ce_var 0) ca_nil))))).toCF) ca_nil)))) (css_one (cs_ret ce_bl)) css_nil))))
  (css_one (cs_ret ce_bl))))⟩
theorem sc_ring_of : FnScope ["web", "left", "loose", "column", "walk", "ahead", "ring", "at", "leans", "one"] ["web"] (defScope s_ring_of) := ⟨rfl, rfl, rfl, by decide +kernel, rfl, by decide +kernel, by decide +kernel⟩
theorem ok_ring_of (T : Txt K mg a base) : FnOk P w K mg base (L2.CX P w) 1 a.f_ring_of a.d_ring_of ["web"] (spD K 1 F_ring_of) := by
  refine def_ok (k := 0) T.F_ring_of sc_ring_of rfl fun cdv A outer s H E hr tk po hu => ?_
  have nd := sc_ring_of.nd
  have hu5 := units5 hr
  exact ⟨_, (css_cons (cs_ownD 1 nd (cfd_1 (own := [("column", 3), ("leans", 8)]) s rfl nd (ci_enum K (by rfl) T.b_enumerate (ca_cons (ce_var 0) ca_nil)) (blkOk_by (by kernel_rfl)) (fun _ _ _ _ _ => (cg_tup K (by rfl) (by rfl) (cgs_cons (cg_name 3 nd) (cgs_cons (cg_name 8 nd) cgs_nil (by rfl)) (by rfl)) (by rfl) (by rfl))) (fun _ _ _ _ _ => cts_nil) (fun _ _ _ _ _ => (ce_var 3)) (fun _ _ _ _ _ => (ce_var 8))))
  (css_cons (cs_setLcLock 1 2 (lc_1 (own := [("column", 3)]) s rfl nd (ci_keys (ce_var 1)) (blkOk_by (by kernel_rfl)) (fun _ _ _ _ _ => (cg_name 3 nd)) (fun _ _ _ _ _ => (cts_one (ct_not (ct_val (ce_callB (k_any K (by rfl) (by rfl)) T.b_any (by decide +kernel) (ca_cons (ce_l (lc_1 (own := [("one", 9)]) s rfl nd (ci_seq K (by rfl) (ce_ixD hu (ce_var 1) (ce_var 3))) (blkOk_by (by kernel_rfl)) (fun _ _ _ _ _ => (cg_name 9 nd)) (fun _ _ _ _ _ => cts_nil) (fun _ _ _ _ _ => (ce_c (o_inD hu) (ce_var 9) (ce_var 1)))).toCF) ca_nil)))))) (fun _ _ _ _ _ => (ce_var 3))) (sw_true rfl rfl rfl (by decide +kernel)))
  (css_cons (cs_while (fun _ => 10) po (ct_c (o_ne K (by rfl) hu) (ce_var 2) (ce_l (cf_lst ca_nil))) (css_cons (cs_for po rfl (ci_seq K (by rfl) (ce_var 2)) (cg_name 3 nd) (css_one (cs_popD 1 (ce_var 3) (pv 1))))
  (css_one (cs_setLcLock 1 2 (lc_1 (own := [("column", 3)]) s rfl nd (ci_keys (ce_var 1)) (blkOk_by (by kernel_rfl)) (fun _ _ _ _ _ => (cg_name 3 nd)) (fun _ _ _ _ _ => (cts_one (ct_not (ct_val (ce_callB (k_any K (by rfl) (by rfl)) T.b_any (by decide +kernel) (ca_cons (ce_l (lc_1 (own := [("one", 9)]) s rfl nd (ci_seq K (by rfl) (ce_ixD hu (ce_var 1) (ce_var 3))) (blkOk_by (by kernel_rfl)) (fun _ _ _ _ _ => (cg_name 9 nd)) (fun _ _ _ _ _ => cts_nil) (fun _ _ _ _ _ => (ce_c (o_inD hu) (ce_var 9) (ce_var 1)))).toCF) ca_nil)))))) (fun _ _ _ _ _ => (ce_var 3))) (sw_true rfl rfl rfl (by decide +kernel))))))
  (css_cons (cs_if (ct_lookD 1 (ct_c (o_eqD0 hu) (ce_var 1) (ce_dn cfd_nil))) (css_one (cs_ret ce_non)) css_nil)
  (css_cons (cs_own 4 nd (cf_lst (ca_cons (ce_lookD 1 (ce_callB k_minD T.b_min (by decide +kernel) (ca_cons (ce_var 1) ca_nil))) ca_nil)))
  (css_one (cs_while (fun _ => 10) po (ct_val ce_bl) (css_cons (cs_set 5 nd (ce_lookD 1 (ce_lookL 4 (ce_ix K (by rfl) (ce_l (lc_1 (own := [("one", 9)]) s rfl nd (ci_seq K (by rfl) (ce_ixD hu (ce_var 1) (ce_ix K (by rfl) (ce_var 4) (ce_neg ce_int)))) (blkOk_by (by kernel_rfl)) (fun _ _ _ _ _ => (cg_name 9 nd)) (fun _ _ _ _ _ => (cts_one (ct_c (o_inD hu) (ce_var 9) (ce_var 1)))) (fun _ _ _ _ _ => (ce_var 9))).toCF) ce_int))))
  (css_cons (cs_if (ct_look 4 (ct_c (o_inA K (by rfl) hu5) (ce_var 5) (ce_var 4))) (css_cons (cs_fz 4 (cs_set 6 nd (ce_rev K (by rfl) (ce_sl K (by rfl) (ce_var 4) (co_some (ce_index K (by rfl) (ce_var 4) (ce_var 5))) co_none))))
  (css_cons (cs_set 7 nd (ce_index K (by rfl) (ce_var 6) (ce_callB (k_min K (by rfl) (by rfl)) T.b_min (by decide +kernel) (ca_cons (ce_var 6) ca_nil))))
  (css_one (cs_ret (ce_callTy (k_tuple K (by rfl)) T.b_tuple (by decide +kernel) (ca_cons (ce_b (o_add K (by rfl)) (ce_sl K (by rfl) (ce_var 6) (co_some (ce_var 7)) co_none) (ce_sl K (by rfl) (ce_var 6) co_none (co_some (ce_var 7)))) ca_nil)))))) css_nil)
  (css_one (cs_app 4 (ce_var 5) (pv 4))))))))))))⟩
theorem sc_is_web : FnScope ["web"] ["web"] (defScope s_is_web) := ⟨rfl, rfl, rfl, by decide +kernel, rfl, by decide +kernel, by decide +kernel⟩
theorem ok_is_web (T : Txt K mg a base) : FnOk P w K mg base (L2.CX P w) 2 a.f_is_web a.d_is_web ["web"] (spD K 1 F_is_web) := by
  refine def_ok (k := 1) T.F_is_web sc_is_web rfl fun cdv A outer s H E hr tk po hu => ?_
  have nd := sc_is_web.nd
  have hu5 := units5 hr
  exact ⟨_, (css_one (cs_ret (ce_and (ce_f K (by rfl) (ok_is_plain T) (hr.mono (by decide)) T.g_is_plain T.k_is_plain T.bd_is_plain tk (ca_cons (ce_var 0) ca_nil)) (ce_one (ce_c o_is (ce_f K (by rfl) (ok_ring_of T) (hr.mono (by decide)) T.g_ring_of T.k_ring_of T.bd_ring_of tk (ca_cons (ce_var 0) ca_nil)) ce_non)))))⟩
theorem sc_look_web : FnScope ["web"] ["web"] (defScope s_look_web) := ⟨rfl, rfl, rfl, by decide +kernel, rfl, by decide +kernel, by decide +kernel⟩
theorem ok_look_web (T : Txt K mg a base) : FnOk P w K mg base (L2.CX P w) 3 a.f_look_web a.d_look_web ["web"] (spD K 1 F_look_web) := by
  refine def_ok (k := 2) T.F_look_web sc_look_web rfl fun cdv A outer s H E hr tk po hu => ?_
  have nd := sc_look_web.nd
  have hu5 := units5 hr
  exact ⟨_, (css_one (cs_if (ct_not (ct_val (ce_f K (by rfl) (ok_is_web T) (hr.mono (by decide)) T.g_is_web T.k_is_web T.bd_is_web tk (ca_cons (ce_var 0) ca_nil)))) (css_one (cs_raise0 K (by rfl) tk T.X_BadWeb (in_BadWeb T) (hr.mono (by decide)) T.ib_BadWeb ff1)) css_nil))⟩
theorem sc_look_column : FnScope ["many", "column"] ["many", "column"] (defScope s_look_column) := ⟨rfl, rfl, rfl, by decide +kernel, rfl, by decide +kernel, by decide +kernel⟩
theorem ok_look_column (T : Txt K mg a base) : FnOk P w K mg base (L2.CX P w) 3 a.f_look_column a.d_look_column ["many", "column"] (spD K 2 F_look_column) := by
  refine def_ok (k := 2) T.F_look_column sc_look_column rfl fun cdv A outer s H E hr tk po hu => ?_
  have nd := sc_look_column.nd
  have hu5 := units5 hr
  exact ⟨_, (css_one (cs_if (CW.ct (cw_or (ct_c o_lt (ce_var 1) ce_int) (cw_or1 (ct_c o_ge (ce_var 1) (ce_var 0))))) (css_one (cs_raise0 K (by rfl) tk T.X_BadColumn (in_BadColumn T) (hr.mono (by decide)) T.ib_BadColumn ff1)) css_nil))⟩
theorem sc_order : FnScope ["web", "found", "ready", "c", "one"] ["web"] (defScope s_order) := ⟨rfl, rfl, rfl, by decide +kernel, rfl, by decide +kernel, by decide +kernel⟩
theorem ok_order (T : Txt K mg a base) : FnOk P w K mg base (L2.CX P w) 4 a.f_order a.d_order ["web"] (spF K 1 F_order) := by
  refine def_okF (k := 3) T.F_order sc_order rfl fun cdv A outer s H E hr tk po hu => ?_
  have nd := sc_order.nd
  have hu5 := units5 hr
  exact ⟨_, (css_cons (cs_expr (ce_f K (by rfl) (ok_look_web T) (hr.mono (by decide)) T.g_look_web T.k_look_web T.bd_look_web tk (ca_cons (ce_var 0) ca_nil)))
  (css_cons (cs_own 1 nd (cf_lst ca_nil))
  (css_cons (cs_while (fun _ => 10) po (ct_look 1 (ct_c o_lt (ce_callB (k_len K (by rfl)) T.b_len (by decide +kernel) (ca_cons (ce_var 1) ca_nil)) (ce_callB (k_len K (by rfl)) T.b_len (by decide +kernel) (ca_cons (ce_var 0) ca_nil)))) (css_cons (cs_setLcF 1 2 (lc_1 (own := [("c", 3)]) s rfl nd (ci_range1 T.b_range (ca_cons (ce_callB (k_len K (by rfl)) T.b_len (by decide +kernel) (ca_cons (ce_var 0) ca_nil)) ca_nil)) (blkOk_by (by kernel_rfl)) (fun _ _ _ _ _ => (cg_name 3 nd)) (fun _ _ _ _ _ => (cts_one (CW.ct (cw_and (ct_c (o_notinA K (by rfl) hu5) (ce_var 3) (ce_var 1)) (cw_and1 (ct_val (ce_callB (k_all K (by rfl) (by rfl)) T.b_all (by decide +kernel) (ca_cons (ce_l (lc_1 (own := [("one", 4)]) s rfl nd (ci_seq K (by rfl) (ce_ix K (by rfl) (ce_var 0) (ce_var 3))) (blkOk_by (by kernel_rfl)) (fun _ _ _ _ _ => (cg_name 4 nd)) (fun _ _ _ _ _ => cts_nil) (fun _ _ _ _ _ => (ce_c (o_inA K (by rfl) hu5) (ce_var 4) (ce_var 1)))).toCF) ca_nil)))))))) (fun _ _ _ _ _ => (ce_var 3))) (sw_true rfl rfl rfl (by decide +kernel)))
  (css_one (cs_app 1 (ce_callB (k_min K (by rfl) (by rfl)) T.b_min (by decide +kernel) (ca_cons (ce_var 2) ca_nil)) (pv 1)))))
  (css_one (cs_retO 1 (pv 1))))))⟩
theorem sc_all_leads : FnScope ["web", "found", "one", "lean", "column"] ["web"] (defScope s_all_leads) := ⟨rfl, rfl, rfl, by decide +kernel, rfl, by decide +kernel, by decide +kernel⟩
theorem ok_all_leads (T : Txt K mg a base) : FnOk P w K mg base (L2.CX P w) 5 a.f_all_leads a.d_all_leads ["web"] (spD K 1 F_all_leads) := by
  refine def_ok (k := 4) T.F_all_leads sc_all_leads rfl fun cdv A outer s H E hr tk po hu => ?_
  have nd := sc_all_leads.nd
  have hu5 := units5 hr
  exact ⟨_, (css_cons (cs_setDcN 1 (own := [("column", 4)]) s rfl nd (ci_range1 T.b_range (ca_cons (ce_callB (k_len K (by rfl)) T.b_len (by decide +kernel) (ca_cons (ce_var 0) ca_nil)) ca_nil)) (blkOk_by (by kernel_rfl)) (fun _ _ _ _ _ => (cg_name 4 nd)) (fun _ _ _ _ _ => cts_nil) (fun _ _ _ _ _ => (ce_var 4)) (fun _ _ _ _ _ => (cn_l (cf_lst ca_nil))) (sw_trueD rfl rfl rfl (by decide +kernel)))
  (css_cons (cs_for po rfl (ci_seq K (by rfl) (ce_rev K (by rfl) (ce_l (cf_f K (by rfl) (ok_order T) (hr.mono (by decide)) T.g_order T.k_order T.bd_order tk (ca_cons (ce_var 0) ca_nil))))) (cg_name 2 nd) (css_one (cs_for po rfl (ci_seq K (by rfl) (ce_ix K (by rfl) (ce_var 0) (ce_var 2))) (cg_name 3 nd) (css_one (cs_augL hu (cp_var 1 (pv 1)) (ce_var 3) (cf_look 1 (cf_cat K (by rfl) (ce_l (cf_lst (ca_cons (ce_var 2) ca_nil))) (ce_ixD hu (ce_var 1) (ce_var 2)))))))))
  (css_one (cs_fz 1 (cs_ret (ce_var 1))))))⟩
theorem sc_are_joined : FnScope ["web", "one", "other"] ["web", "one", "other"] (defScope s_are_joined) := ⟨rfl, rfl, rfl, by decide +kernel, rfl, by decide +kernel, by decide +kernel⟩
theorem ok_are_joined (T : Txt K mg a base) : FnOk P w K mg base (L2.CX P w) 1 a.f_are_joined a.d_are_joined ["web", "one", "other"] (spD K 3 F_are_joined) := by
  refine def_ok (k := 0) T.F_are_joined sc_are_joined rfl fun cdv A outer s H E hr tk po hu => ?_
  have nd := sc_are_joined.nd
  have hu5 := units5 hr
  exact ⟨_, (css_one (cs_ret (ce_or (ce_c (o_inA K (by rfl) hu5) (ce_var 1) (ce_ix K (by rfl) (ce_var 0) (ce_var 2))) (ce_one (ce_c (o_inA K (by rfl) hu5) (ce_var 2) (ce_ix K (by rfl) (ce_var 0) (ce_var 1)))))))⟩
theorem sc_lets_through : FnScope ["web", "leads", "step", "seen", "before", "here", "behind", "one"] ["web", "leads", "step", "seen"] (defScope s_lets_through) := ⟨rfl, rfl, rfl, by decide +kernel, rfl, by decide +kernel, by decide +kernel⟩
theorem ok_lets_through (T : Txt K mg a base) : FnOk P w K mg base (L2.CX P w) 1 a.f_lets_through a.d_lets_through ["web", "leads", "step", "seen"] (spD K 4 F_lets_through) := by
  refine def_ok (k := 0) T.F_lets_through sc_lets_through rfl fun cdv A outer s H E hr tk po hu => ?_
  have nd := sc_lets_through.nd
  have hu5 := units5 hr
  exact ⟨_, (css_cons (cs_asg (ce_var 2) (cg_tup K (by rfl) (by rfl) (cgs_cons (cg_name 4 nd) (cgs_cons (cg_name 5 nd) (cgs_cons (cg_name 6 nd) cgs_nil (by rfl)) (by rfl)) (by rfl)) (by rfl) (by rfl)))
  (css_cons (cs_if (CW.ct (cw_and (ct_c (o_inA K (by rfl) hu5) (ce_var 4) (ce_ix K (by rfl) (ce_var 0) (ce_var 5))) (cw_and1 (ct_c (o_inA K (by rfl) hu5) (ce_var 6) (ce_ix K (by rfl) (ce_var 0) (ce_var 5)))))) (css_one (cs_ret (ce_or (ce_c (o_inA K (by rfl) hu5) (ce_var 5) (ce_var 3)) (ce_one (ce_callB (k_any K (by rfl) (by rfl)) T.b_any (by decide +kernel) (ca_cons (ce_l (lc_1 (own := [("one", 7)]) s rfl nd (ci_seq K (by rfl) (ce_ixD hu (ce_var 1) (ce_var 5))) (blkOk_by (by kernel_rfl)) (fun _ _ _ _ _ => (cg_name 7 nd)) (fun _ _ _ _ _ => cts_nil) (fun _ _ _ _ _ => (ce_c (o_inA K (by rfl) hu5) (ce_var 7) (ce_var 3)))).toCF) ca_nil)))))) css_nil)
  (css_one (cs_ret (ce_c (o_notinA K (by rfl) hu5) (ce_var 5) (ce_var 3))))))⟩
theorem sc_passes : FnScope ["web", "leads", "way", "seen", "at"] ["web", "leads", "way", "seen"] (defScope s_passes) := ⟨rfl, rfl, rfl, by decide +kernel, rfl, by decide +kernel, by decide +kernel⟩
theorem ok_passes (T : Txt K mg a base) : FnOk P w K mg base (L2.CX P w) 2 a.f_passes a.d_passes ["web", "leads", "way", "seen"] (spD K 4 F_passes) := by
  refine def_ok (k := 1) T.F_passes sc_passes rfl fun cdv A outer s H E hr tk po hu => ?_
  have nd := sc_passes.nd
  have hu5 := units5 hr
  exact ⟨_, (css_one (cs_ret (ce_callB (k_all K (by rfl) (by rfl)) T.b_all (by decide +kernel) (ca_cons (ce_l (lc_1 (own := [("at", 4)]) s rfl nd (ci_range2 T.b_range (ca_cons ce_int (ca_cons (ce_b o_sub (ce_callB (k_len K (by rfl)) T.b_len (by decide +kernel) (ca_cons (ce_var 2) ca_nil)) ce_int) ca_nil))) (blkOk_by (by kernel_rfl)) (fun _ _ _ _ _ => (cg_name 4 nd)) (fun _ _ _ _ _ => cts_nil) (fun _ _ _ _ _ => (ce_f K (by rfl) (ok_lets_through T) (hr.mono (by decide)) T.g_lets_through T.k_lets_through T.bd_lets_through takes0 (ca_cons (ce_var 0) (ca_cons (ce_var 1) (ca_cons (ce_sl K (by rfl) (ce_var 2) (co_some (ce_b o_sub (ce_var 4) ce_int)) (co_some (ce_b (o_add K (by rfl)) (ce_var 4) ce_int))) (ca_cons (ce_var 3) ca_nil))))))).toCF) ca_nil))))⟩
theorem sc_look_ends : FnScope ["web", "one", "other", "seen", "column"] ["web", "one", "other", "seen"] (defScope s_look_ends) := ⟨rfl, rfl, rfl, by decide +kernel, rfl, by decide +kernel, by decide +kernel⟩
theorem ok_look_ends (T : Txt K mg a base) : FnOk P w K mg base (L2.CX P w) 4 a.f_look_ends a.d_look_ends ["web", "one", "other", "seen"] (spD K 4 F_look_ends) := by
  refine def_ok (k := 3) T.F_look_ends sc_look_ends rfl fun cdv A outer s H E hr tk po hu => ?_
  have nd := sc_look_ends.nd
  have hu5 := units5 hr
  exact ⟨_, (css_cons (cs_expr (ce_f K (by rfl) (ok_look_web T) (hr.mono (by decide)) T.g_look_web T.k_look_web T.bd_look_web tk (ca_cons (ce_var 0) ca_nil)))
  (css_cons (cs_for po rfl (ci_seq K (by rfl) (ce_b (o_add K (by rfl)) (ce_tup (ca_cons (ce_var 1) (ca_cons (ce_var 2) ca_nil))) (ce_callTy (k_tuple K (by rfl)) T.b_tuple (by decide +kernel) (ca_cons (ce_var 3) ca_nil)))) (cg_name 4 nd) (css_one (cs_expr (ce_f K (by rfl) (ok_look_column T) (hr.mono (by decide)) T.g_look_column T.k_look_column T.bd_look_column tk (ca_cons (ce_callB (k_len K (by rfl)) T.b_len (by decide +kernel) (ca_cons (ce_var 0) ca_nil)) (ca_cons (ce_var 4) ca_nil))))))
  (css_one (cs_if (CW.ct (cw_or (ct_c (o_eq K (by rfl) hu) (ce_var 1) (ce_var 2)) (cw_or (ct_c (o_inA K (by rfl) hu5) (ce_var 1) (ce_var 3)) (cw_or1 (ct_c (o_inA K (by rfl) hu5) (ce_var 2) (ce_var 3)))))) (css_one (cs_raise0 K (by rfl) tk T.X_Same (in_Same T) (hr.mono (by decide)) T.ib_Same ff1)) css_nil))))⟩
theorem sc_open_way : FnScope ["web", "one", "other", "seen", "leads", "line", "way", "step"] ["web", "one", "other", "seen"] (defScope s_open_way) := ⟨rfl, rfl, rfl, by decide +kernel, rfl, by decide +kernel, by decide +kernel⟩
theorem ok_open_way (T : Txt K mg a base) : FnOk P w K mg base (L2.CX P w) 6 a.f_open_way a.d_open_way ["web", "one", "other", "seen"] (spD K 4 F_open_way) := by
  refine def_okD (k := 5) T.F_open_way sc_open_way rfl fun cdv A outer s H E hr tk po hu => ?_
  have nd := sc_open_way.nd
  have hu5 := units5 hr
  exact ⟨_, (css_cons (cs_expr (ce_f K (by rfl) (ok_look_ends T) (hr.mono (by decide)) T.g_look_ends T.k_look_ends T.bd_look_ends tk (ca_cons (ce_var 0) (ca_cons (ce_var 1) (ca_cons (ce_var 2) (ca_cons (ce_var 3) ca_nil))))))
  (css_cons (cs_set 4 nd (ce_f K (by rfl) (ok_all_leads T) (hr.mono (by decide)) T.g_all_leads T.k_all_leads T.bd_all_leads tk (ca_cons (ce_var 0) ca_nil)))
  (css_cons (cs_set 5 nd (ce_l (cf_lst (ca_cons (ce_tup (ca_cons (ce_var 1) ca_nil)) ca_nil))))
  (css_cons (cs_while (fun _ => 10) po (ct_c (o_ne K (by rfl) hu) (ce_var 5) (ce_l (cf_lst ca_nil))) (css_cons (cs_setLc 5 (lc_2 (own := [("way", 6), ("step", 7)]) (vs1 := [7]) s rfl nd (ci_seq K (by rfl) (ce_var 5)) (blkOk_by (by kernel_rfl)) (fun _ _ _ _ _ => (cg_name 6 nd)) (fun _ _ _ _ _ => cts_nil) (fun _ _ _ _ _ => (ci_range1 T.b_range (ca_cons (ce_callB (k_len K (by rfl)) T.b_len (by decide +kernel) (ca_cons (ce_var 0) ca_nil)) ca_nil))) (fun _ _ _ _ _ => (cg_name 7 nd)) (fun _ _ _ _ _ => (cts_one (CW.ct (cw_and (ct_c (o_notinA K (by rfl) hu5) (ce_var 7) (ce_var 6)) (cw_and1 (ct_val (ce_f K (by rfl) (ok_are_joined T) (hr.mono (by decide)) T.g_are_joined T.k_are_joined T.bd_are_joined takes0 (ca_cons (ce_var 0) (ca_cons (ce_ix K (by rfl) (ce_var 6) (ce_neg ce_int)) (ca_cons (ce_var 7) ca_nil)))))))))) (fun _ _ _ _ _ => (ce_b (o_add K (by rfl)) (ce_var 6) (ce_tup (ca_cons (ce_var 7) ca_nil))))) (sw_true rfl rfl rfl (by decide +kernel)))
  (css_cons (cs_for po rfl (ci_seq K (by rfl) (ce_var 5)) (cg_name 6 nd) (css_one (cs_if (CW.ct (cw_and (ct_c (o_eq K (by rfl) hu) (ce_ix K (by rfl) (ce_var 6) (ce_neg ce_int)) (ce_var 2)) (cw_and1 (ct_val (ce_f K (by rfl) (ok_passes T) (hr.mono (by decide)) T.g_passes T.k_passes T.bd_passes tk (ca_cons (ce_var 0) (ca_cons (ce_var 4) (ca_cons (ce_var 6) (ca_cons (ce_var 3) ca_nil))))))))) (css_one (cs_ret (ce_var 6))) css_nil)))
  (css_one (cs_setLc 5 (lc_1 (own := [("way", 6)]) s rfl nd (ci_seq K (by rfl) (ce_var 5)) (blkOk_by (by kernel_rfl)) (fun _ _ _ _ _ => (cg_name 6 nd)) (fun _ _ _ _ _ => (cts_one (ct_c (o_ne K (by rfl) hu) (ce_ix K (by rfl) (ce_var 6) (ce_neg ce_int)) (ce_var 2)))) (fun _ _ _ _ _ => (ce_var 6))) (sw_true rfl rfl rfl (by decide +kernel)))))))
  (css_one (cs_ret ce_non))))))⟩
theorem sc_apart : FnScope ["web", "one", "other", "seen"] ["web", "one", "other", "seen"] (defScope s_apart) := ⟨rfl, rfl, rfl, by decide +kernel, rfl, by decide +kernel, by decide +kernel⟩
theorem ok_apart (T : Txt K mg a base) : FnOk P w K mg base (L2.CX P w) 7 a.f_apart a.d_apart ["web", "one", "other", "seen"] (spD K 4 F_apart) := by
  refine def_okD (k := 6) T.F_apart sc_apart rfl fun cdv A outer s H E hr tk po hu => ?_
  have nd := sc_apart.nd
  have hu5 := units5 hr
  exact ⟨_, (css_one (cs_ret (ce_c o_is (ce_kw K (by rfl) (ok_open_way T) (hr.mono (by decide)) T.g_open_way T.k_open_way T.kf0_open_way (.p 0 (.p 1 (.p 2 (.k 0 .nil)))) tk (ca_cons (ce_var 0) (ca_cons (ce_var 1) (ca_cons (ce_var 2) ca_nil))) (ck_cons (ce_var 3) ck_nil)) ce_non)))⟩
theorem sc__law_draws : FnScope ["_law_cell", "_law_sizes", "_law_mixed", "_law_two", "_law_six", "_law_found", "_law_size"] ["_law_cell", "_law_sizes"] (defScope s__law_draws) := ⟨rfl, rfl, rfl, by decide +kernel, rfl, by decide +kernel, by decide +kernel⟩
theorem ok__law_draws (T : Txt K mg a base) : FnOk P w K mg base (L2.CX P w) 1 a.f__law_draws a.d__law_draws ["_law_cell", "_law_sizes"] (spD K 2 F__law_draws) := by
  refine def_ok (k := 0) T.F__law_draws sc__law_draws rfl fun cdv A outer s H E hr tk po hu => ?_
  have nd := sc__law_draws.nd
  have hu5 := units5 hr
  exact ⟨_, (css_cons (cs_if (ct_c o_lt (ce_callB k_abs T.b_abs (by decide +kernel) (ca_cons (ce_var 0) ca_nil)) (ce_b o_pow ce_int ce_int)) (css_cons (cs_set 2 nd (ce_b o_mod (ce_b (o_add K (by rfl)) (ce_b (o_mul K (by rfl)) (ce_var 0) ce_int) ce_int) ce_int))
  (css_cons (cs_set 3 nd (ce_b o_mod (ce_b (o_add K (by rfl)) (ce_b (o_add K (by rfl)) (ce_b (o_mul K (by rfl)) (ce_var 2) (ce_var 2)) (ce_b (o_mul K (by rfl)) ce_int (ce_var 2))) (ce_var 0)) ce_int))
  (css_cons (cs_set 4 nd (ce_b o_mod (ce_b (o_add K (by rfl)) (ce_b (o_mul K (by rfl)) (ce_var 3) ce_int) (ce_var 2)) ce_int))
  (css_one (cs_set 0 nd (ce_b (o_add K (by rfl)) (ce_var 3) (ce_b (o_mul K (by rfl)) ce_int (ce_b (o_add K (by rfl)) (ce_var 4) (ce_b (o_mul K (by rfl)) ce_int (ce_var 2)))))))))) (css_one (cs_set 0 nd (ce_b o_sub (ce_callB k_abs T.b_abs (by decide +kernel) (ca_cons (ce_var 0) ca_nil)) (ce_b o_pow ce_int ce_int)))))
  (css_cons (cs_own 5 nd (cf_lst ca_nil))
  (css_cons (cs_for po rfl (ci_seq K (by rfl) (ce_var 1)) (cg_name 6 nd) (css_cons (cs_app 5 (ce_b o_mod (ce_var 0) (ce_var 6)) (pv 5))
  (css_one (cs_set 0 nd (ce_b o_fdiv (ce_var 0) (ce_var 6))))))
  (css_one (cs_fz 5 (cs_ret (ce_var 5)))))))⟩
theorem sc__law_web : FnScope ["_law_cell", "_law_many", "_law_drawn", "_law_left", "_law_line", "_law_k", "_law_web_here", "_law_at", "_law_leans", "_law_j"] ["_law_cell", "_law_many"] (defScope s__law_web) := ⟨rfl, rfl, rfl, by decide +kernel, rfl, by decide +kernel, by decide +kernel⟩
theorem ok__law_web (T : Txt K mg a base) : FnOk P w K mg base (L2.CX P w) 2 a.f__law_web a.d__law_web ["_law_cell", "_law_many"] (spD K 2 F__law_web) := by
  refine def_ok (k := 1) T.F__law_web sc__law_web rfl fun cdv A outer s H E hr tk po hu => ?_
  have nd := sc__law_web.nd
  have hu5 := units5 hr
  exact ⟨_, (css_cons (cs_set 2 nd (ce_f K (by rfl) (ok__law_draws T) (hr.mono (by decide)) T.g__law_draws T.k__law_draws T.bd__law_draws tk (ca_cons (ce_var 0) (ca_cons (ce_b (o_add K (by rfl)) (ce_l (cf_lst (ca_cons ce_int (ca_cons ce_int (ca_cons ce_int (ca_cons ce_int (ca_cons ce_int (ca_cons ce_int ca_nil)))))))) (ce_l (cf_rep (cf_lst (ca_cons ce_int ca_nil)) ce_int))) ca_nil))))
  (css_cons (cs_own 3 nd (cf_listRg rfl T.b_list T.b_range (ce_var 1)))
  (css_cons (cs_own 4 nd (cf_lst ca_nil))
  (css_cons (cs_for po rfl (ci_range1 T.b_range (ca_cons (ce_var 1) ca_nil)) (cg_name 5 nd) (css_one (cs_appPop 4 3 (by decide) (ce_look 3 (ce_b o_mod (ce_ix K (by rfl) (ce_var 2) (ce_var 5)) (ce_callB (k_len K (by rfl)) T.b_len (by decide +kernel) (ca_cons (ce_var 3) ca_nil)))) (pv 4) (pv 3))))
  (css_cons (cs_own 6 nd (cf_rep (cf_lst (ca_cons (ce_tup ca_nil) ca_nil)) (ce_var 1)))
  (css_cons (cs_set 7 nd ce_int)
  (css_cons (cs_for po rfl (ci_range1 T.b_range (ca_cons (ce_var 1) ca_nil)) (cg_name 5 nd) (css_cons (cs_own 8 nd (cf_lst ca_nil))
  (css_cons (cs_for po rfl (ci_range1 T.b_range (ca_cons (ce_var 5) ca_nil)) (cg_name 9 nd) (css_one (cs_if (ct_c o_gt (ce_ix K (by rfl) (ce_var 2) (ce_b (o_add K (by rfl)) (ce_var 7) (ce_var 9))) ce_int) (css_one (cs_app 8 (ce_look 4 (ce_ix K (by rfl) (ce_var 4) (ce_var 9))) (pv 8))) css_nil)))
  (css_cons (cs_set 7 nd (ce_b (o_add K (by rfl)) (ce_var 7) (ce_var 5)))
  (css_one (cs_put 6 (ce_lookL 8 (ce_callTy (k_tuple K (by rfl)) T.b_tuple (by decide +kernel) (ca_cons (ce_l (cf_sorted K (by rfl) hu T.b_sorted (ce_var 8))) ca_nil))) (ce_look 4 (ce_ix K (by rfl) (ce_var 4) (ce_var 5))) (pv 6)))))))
  (css_one (cs_fz 6 (cs_ret (ce_callTy (k_tuple K (by rfl)) T.b_tuple (by decide +kernel) (ca_cons (ce_var 6) ca_nil))))))))))))⟩
theorem sc__law_ways : FnScope ["_law_web_here", "_law_one", "_law_other", "_law_found", "_law_line", "_law_turn", "_law_longer", "_law_way", "_law_c"] ["_law_web_here", "_law_one", "_law_other"] (defScope s__law_ways) := ⟨rfl, rfl, rfl, by decide +kernel, rfl, by decide +kernel, by decide +kernel⟩
theorem ok__law_ways (T : Txt K mg a base) : FnOk P w K mg base (L2.CX P w) 1 a.f__law_ways a.d__law_ways ["_law_web_here", "_law_one", "_law_other"] (spD K 3 F__law_ways) := by
  refine def_ok (k := 0) T.F__law_ways sc__law_ways rfl fun cdv A outer s H E hr tk po hu => ?_
  have nd := sc__law_ways.nd
  have hu5 := units5 hr
  exact ⟨_, (css_cons (cs_set 3 nd (ce_l (cf_lst ca_nil)))
  (css_cons (cs_set 4 nd (ce_l (cf_lst (ca_cons (ce_tup (ca_cons (ce_var 1) ca_nil)) ca_nil))))
  (css_cons (cs_for po rfl (ci_range1 T.b_range (ca_cons (ce_callB (k_len K (by rfl)) T.b_len (by decide +kernel) (ca_cons (ce_var 0) ca_nil)) ca_nil)) (cg_name 5 nd) (css_cons (cs_own 6 nd (cf_lst ca_nil))
  (css_cons (cs_for po rfl (ci_seq K (by rfl) (ce_var 4)) (cg_name 7 nd) (css_one (cs_for po rfl (ci_range1 T.b_range (ca_cons (ce_callB (k_len K (by rfl)) T.b_len (by decide +kernel) (ca_cons (ce_var 0) ca_nil)) ca_nil)) (cg_name 8 nd) (css_one (cs_if (CW.ct (cw_and (ct_c (o_notinA K (by rfl) hu5) (ce_var 8) (ce_var 7)) (cw_and1 (CW.ct (cw_or (ct_c (o_inA K (by rfl) hu5) (ce_var 8) (ce_ix K (by rfl) (ce_var 0) (ce_ix K (by rfl) (ce_var 7) (ce_neg ce_int)))) (cw_or1 (ct_c (o_inA K (by rfl) hu5) (ce_ix K (by rfl) (ce_var 7) (ce_neg ce_int)) (ce_ix K (by rfl) (ce_var 0) (ce_var 8))))))))) (css_one (cs_app 6 (ce_b (o_add K (by rfl)) (ce_var 7) (ce_tup (ca_cons (ce_var 8) ca_nil))) (pv 6))) css_nil)))))
  (css_cons (cs_set 3 nd (ce_lookG 6 (cf_cat K (by rfl) (ce_var 3) (ce_l (lc_1 (own := [("_law_way", 7)]) s rfl nd (ci_seq K (by rfl) (ce_var 6)) (blkOk_by (by kernel_rfl)) (fun _ _ _ _ _ => (cg_name 7 nd)) (fun _ _ _ _ _ => (cts_one (ct_c (o_eq K (by rfl) hu) (ce_ix K (by rfl) (ce_var 7) (ce_neg ce_int)) (ce_var 2)))) (fun _ _ _ _ _ => (ce_var 7))).toCF))))
  (css_one (cs_setLcG 6 4 (lc_1 (own := [("_law_way", 7)]) s rfl nd (ci_seq K (by rfl) (ce_var 6)) (blkOk_by (by kernel_rfl)) (fun _ _ _ _ _ => (cg_name 7 nd)) (fun _ _ _ _ _ => (cts_one (ct_c (o_ne K (by rfl) hu) (ce_ix K (by rfl) (ce_var 7) (ce_neg ce_int)) (ce_var 2)))) (fun _ _ _ _ _ => (ce_var 7))) (sw_true rfl rfl rfl (by decide +kernel))))))))
  (css_one (cs_ret (ce_var 3))))))⟩
theorem sc__law_below : FnScope ["_law_web_here", "_law_column", "_law_found", "_law_turn", "_law_c", "_law_one"] ["_law_web_here", "_law_column"] (defScope s__law_below) := ⟨rfl, rfl, rfl, by decide +kernel, rfl, by decide +kernel, by decide +kernel⟩
theorem ok__law_below (T : Txt K mg a base) : FnOk P w K mg base (L2.CX P w) 1 a.f__law_below a.d__law_below ["_law_web_here", "_law_column"] (spD K 2 F__law_below) := by
  refine def_ok (k := 0) T.F__law_below sc__law_below rfl fun cdv A outer s H E hr tk po hu => ?_
  have nd := sc__law_below.nd
  have hu5 := units5 hr
  exact ⟨_, (css_cons (cs_set 2 nd (ce_l (cf_lst (ca_cons (ce_var 1) ca_nil))))
  (css_cons (cs_for po rfl (ci_range1 T.b_range (ca_cons (ce_callB (k_len K (by rfl)) T.b_len (by decide +kernel) (ca_cons (ce_var 0) ca_nil)) ca_nil)) (cg_name 3 nd) (css_one (cs_set 2 nd (ce_b (o_add K (by rfl)) (ce_var 2) (ce_l (lc_1 (own := [("_law_c", 4)]) s rfl nd (ci_range1 T.b_range (ca_cons (ce_callB (k_len K (by rfl)) T.b_len (by decide +kernel) (ca_cons (ce_var 0) ca_nil)) ca_nil)) (blkOk_by (by kernel_rfl)) (fun _ _ _ _ _ => (cg_name 4 nd)) (fun _ _ _ _ _ => (cts_one (CW.ct (cw_and (ct_c (o_notinA K (by rfl) hu5) (ce_var 4) (ce_var 2)) (cw_and1 (ct_val (ce_callB (k_any K (by rfl) (by rfl)) T.b_any (by decide +kernel) (ca_cons (ce_l (lc_1 (own := [("_law_one", 5)]) s rfl nd (ci_seq K (by rfl) (ce_ix K (by rfl) (ce_var 0) (ce_var 4))) (blkOk_by (by kernel_rfl)) (fun _ _ _ _ _ => (cg_name 5 nd)) (fun _ _ _ _ _ => cts_nil) (fun _ _ _ _ _ => (ce_c (o_inA K (by rfl) hu5) (ce_var 5) (ce_var 2)))).toCF) ca_nil)))))))) (fun _ _ _ _ _ => (ce_var 4))).toCF)))))
  (css_one (cs_ret (ce_var 2)))))⟩
theorem sc__law_passes : FnScope ["_law_web_here", "_law_way", "_law_eyed", "_law_k", "_law_meets", "_law_c"] ["_law_web_here", "_law_way", "_law_eyed"] (defScope s__law_passes) := ⟨rfl, rfl, rfl, by decide +kernel, rfl, by decide +kernel, by decide +kernel⟩
theorem ok__law_passes (T : Txt K mg a base) : FnOk P w K mg base (L2.CX P w) 2 a.f__law_passes a.d__law_passes ["_law_web_here", "_law_way", "_law_eyed"] (spD K 3 F__law_passes) := by
  refine def_ok (k := 1) T.F__law_passes sc__law_passes rfl fun cdv A outer s H E hr tk po hu => ?_
  have nd := sc__law_passes.nd
  have hu5 := units5 hr
  exact ⟨_, (css_cons (cs_for po rfl (ci_range2 T.b_range (ca_cons ce_int (ca_cons (ce_b o_sub (ce_callB (k_len K (by rfl)) T.b_len (by decide +kernel) (ca_cons (ce_var 1) ca_nil)) ce_int) ca_nil))) (cg_name 3 nd) (css_cons (cs_set 4 nd (ce_and (ce_c (o_inA K (by rfl) hu5) (ce_ix K (by rfl) (ce_var 1) (ce_b o_sub (ce_var 3) ce_int)) (ce_ix K (by rfl) (ce_var 0) (ce_ix K (by rfl) (ce_var 1) (ce_var 3)))) (ce_one (ce_c (o_inA K (by rfl) hu5) (ce_ix K (by rfl) (ce_var 1) (ce_b (o_add K (by rfl)) (ce_var 3) ce_int)) (ce_ix K (by rfl) (ce_var 0) (ce_ix K (by rfl) (ce_var 1) (ce_var 3)))))))
  (css_one (cs_if (ct_c (o_ne K (by rfl) hu) (ce_var 4) (ce_callB (k_any K (by rfl) (by rfl)) T.b_any (by decide +kernel) (ca_cons (ce_l (lc_1 (own := [("_law_c", 5)]) s rfl nd (ci_seq K (by rfl) (ce_if (ct_val (ce_var 4)) (ce_f K (by rfl) (ok__law_below T) (hr.mono (by decide)) T.g__law_below T.k__law_below T.bd__law_below tk (ca_cons (ce_var 0) (ca_cons (ce_ix K (by rfl) (ce_var 1) (ce_var 3)) ca_nil))) (ce_l (cf_lst (ca_cons (ce_ix K (by rfl) (ce_var 1) (ce_var 3)) ca_nil))))) (blkOk_by (by kernel_rfl)) (fun _ _ _ _ _ => (cg_name 5 nd)) (fun _ _ _ _ _ => cts_nil) (fun _ _ _ _ _ => (ce_c (o_inA K (by rfl) hu5) (ce_var 5) (ce_var 2)))).toCF) ca_nil))) (css_one (cs_ret ce_bl)) css_nil))))
  (css_one (cs_ret (ce_and (ce_c (o_notinA K (by rfl) hu5) (ce_ix K (by rfl) (ce_var 1) ce_int) (ce_var 2)) (ce_one (ce_c (o_notinA K (by rfl) hu5) (ce_ix K (by rfl) (ce_var 1) (ce_neg ce_int)) (ce_var 2)))))))⟩
theorem sc__law_word : FnScope ["_law_asked", "e"] ["_law_asked"] (defScope s__law_word) := ⟨rfl, rfl, rfl, by decide +kernel, rfl, by decide +kernel, by decide +kernel⟩
theorem hd__law_word (T : Txt K mg a base) : ∀ (A : Around) (outer : List Env) (cdv : Value) (s : Shared) (H : Hp), HdsC (cxOf (L2.CX P w) P w K mg base ["_law_asked", "e"] "_law_word" (defScope s__law_word) a.f__law_word cdv A outer s H (fun _ _ _ => False)) (tryHds (defBody s__law_word)) [(.ref a.c_LoomError, 1, fun a1 cls d => tRet (tXfB K a1 cls d "word" (tVar 1))), (.ref a.c_Absent, 1, fun a1 cls d => tRet (tXfB K a1 cls d "word" (tVar 1))), (.ref a.c_NothingLeft, 1, fun a1 cls d => tRet (tXfB K a1 cls d "word" (tVar 1)))] q__law_word :=
  fun A outer cdv s H => (HdsC.cons (i := 1) rfl rfl ⟨rfl, by decide, .inl T.hm_LoomError⟩ (tab_cons T.X_BadColumn.c T.ex_BadColumn_LoomError T.xc_BadColumn (tab_cons T.X_BadWeb.c T.ex_BadWeb_LoomError T.xc_BadWeb (tab_cons T.X_Same.c T.ex_Same_LoomError T.xc_Same (tab_cons T.X_NothingLeft.c T.ex_NothingLeft_LoomError T.xc_NothingLeft tab_nil)))) (cxs_ret (cex_fld (fun _ _ _ _ _ _ _ => pv 1))) (HdsC.cons (i := 1) rfl rfl ⟨rfl, by decide, .inl T.hm_Absent⟩ (tab_cons T.X_BadColumn.c T.ex_BadColumn_Absent T.xc_BadColumn (tab_cons T.X_BadWeb.c T.ex_BadWeb_Absent T.xc_BadWeb (tab_cons T.X_Same.c T.ex_Same_Absent T.xc_Same (tab_cons T.X_NothingLeft.c T.ex_NothingLeft_Absent T.xc_NothingLeft tab_nil)))) (cxs_ret (cex_fld (fun _ _ _ _ _ _ _ => pv 1))) (HdsC.cons (i := 1) rfl rfl ⟨rfl, by decide, .inl T.hm_NothingLeft⟩ (tab_cons T.X_BadColumn.c T.ex_BadColumn_NothingLeft T.xc_BadColumn (tab_cons T.X_BadWeb.c T.ex_BadWeb_NothingLeft T.xc_BadWeb (tab_cons T.X_Same.c T.ex_Same_NothingLeft T.xc_Same (tab_cons T.X_NothingLeft.c T.ex_NothingLeft_NothingLeft T.xc_NothingLeft tab_nil)))) (cxs_ret (cex_fld (fun _ _ _ _ _ _ _ => pv 1))) HdsC.nil)))
theorem sc__law_wide_so : FnScope ["_law_web_here", "_law_one", "_law_other", "_law_eyed", "_law_wide"] ["_law_web_here", "_law_one", "_law_other", "_law_eyed"] (defScope s__law_wide_so) := ⟨rfl, rfl, rfl, by decide +kernel, rfl, by decide +kernel, by decide +kernel⟩
theorem ok__law_wide_so (T : Txt K mg a base) : FnOk P w K mg base (L2.CX P w) 10 a.f__law_wide_so a.d__law_wide_so ["_law_web_here", "_law_one", "_law_other", "_law_eyed"] (spD K 4 F__law_wide_so) := by
  obtain ⟨oc, od, kV, doc, pm, an, ct, osl, eD, lL, hcL⟩ := T.C__law_wide_so
  have hP := T.P__law_wide_so
  have TB := T.B__law_wide_so
  rw [eD]
  refine def_okC (k := 9) lL hcL sc__law_wide_so rfl fun A outer s H E hr tk po hu => ?_
  have nd := sc__law_wide_so.nd
  have hu5 := units5 hr
  have hw__law_word := hd__law_word (P := P) (w := w) (base := base) T
  exact ⟨_, (css_cons (cs_set 4 nd (ce_b (o_add K (by rfl)) (ce_var 0) (ce_b (o_mul K (by rfl)) (ce_tup (ca_cons (ce_ix K (by rfl) (ce_var 0) ce_int) ca_nil)) ce_int)))
  (css_cons (cs_if (ct_c (o_ne K (by rfl) hu) (ce_lamF (k := 7) K (by rfl) T.F__law_word T.g__law_word T.bd__law_word sc__law_word rfl (by first | exact Or.inl rfl | exact Or.inr (Or.inl rfl)) rfl (fun cdv1 s1 H1 => hw__law_word _ _ cdv1 s1 H1) s H TB rfl hP (by rfl) (hr.mono (by decide)) (LamX.lamS_by (by kernel_rfl)) rfl (fun _ _ _ _ _ => rfl) (fun A1 outer1 s H E1 f1 c1 hr => have hu := hr.units; have hu5 := units5 hr; (ce_kw K (by rfl) (ok_apart T) (hr.mono (by decide)) T.g_apart T.k_apart T.kf0_apart (.p 0 (.p 1 (.p 2 (.k 0 .nil)))) (takes_of rfl rfl rfl rfl) (ca_cons (ce_var 4) (ca_cons (ce_var 1) (ca_cons (ce_var 2) ca_nil))) (ck_cons (ce_var 3) ck_nil)))) ce_str) (css_one (cs_ret ce_bl)) css_nil)
  (css_one (cs_ret (ce_c (o_eq K (by rfl) hu) (ce_lamF (k := 6) K (by rfl) T.F__law_word T.g__law_word T.bd__law_word sc__law_word rfl (by first | exact Or.inl rfl | exact Or.inr (Or.inl rfl)) rfl (fun cdv1 s1 H1 => hw__law_word _ _ cdv1 s1 H1) s H TB rfl hP (by rfl) (hr.mono (by decide)) (LamX.lamS_by (by kernel_rfl)) rfl (fun _ _ _ _ _ => rfl) (fun A1 outer1 s H E1 f1 c1 hr => have hu := hr.units; have hu5 := units5 hr; (ce_kw K (by rfl) (ok_open_way T) (hr.mono (by decide)) T.g_open_way T.k_open_way T.kf0_open_way (.p 0 (.p 1 (.p 2 (.k 0 .nil)))) (takes_of rfl rfl rfl rfl) (ca_cons (ce_var 4) (ca_cons (ce_var 1) (ca_cons (ce_var 2) ca_nil))) (ck_cons (ce_var 3) ck_nil)))) ce_str)))))⟩
theorem sc_law : FnScope ["_law_script", "_law_cell", "_law_drawn", "_law_many", "_law_web_here", "_law_one", "_law_other", "_law_eyed", "_law_due", "_law_sizes", "_law_found", "_law_c", "_law_way"] ["_law_script"] (defScope s_law) := ⟨rfl, rfl, rfl, by decide +kernel, rfl, by decide +kernel, by decide +kernel⟩
theorem ok_law {oc kV doc pm ct : Value} {od an : Option Addr} {osl : Array (Option Value)} {cL PL : Addr} (T : Txt K mg a base) (lL : K.lookup a.f_law = some ⟨oc, od, .func (PySem.W.fnOf "law" "law" (defArgs s_law) (defBody s_law) (defScope s_law) .none kV doc pm an (.ref cL) ct), osl⟩) (hcL : PySem.W.codeIn K (.ref cL) "law" = true) (hP : PL ∈ tabsOf K) (TB : LamX.TabB base mg cL PL) :
    FnOk P w K mg base (L2.CX P w) 11 a.f_law (PySem.W.fnOf "law" "law" (defArgs s_law) (defBody s_law) (defScope s_law) .none kV doc pm an (.ref cL) ct) ["_law_script"] (spD K 1 F_law) := by
  refine def_okC (k := 10) lL hcL sc_law rfl fun A outer s H E hr tk po hu => ?_
  have nd := sc_law.nd
  have hu5 := units5 hr
  have hw__law_word := hd__law_word (P := P) (w := w) (base := base) T
  exact ⟨_, (css_cons (cs_set 0 nd (ce_sl K (by rfl) (ce_var 0) co_none (co_some ce_int)))
  (css_cons (cs_for po rfl (ci_seq K (by rfl) (ce_b (o_add K (by rfl)) (ce_var 0) (ce_l (cf_lst (ca_cons ce_int (ca_cons ce_int (ca_cons ce_int ca_nil))))))) (cg_name 1 nd) (css_cons (cs_set 2 nd (ce_f K (by rfl) (ok__law_draws T) (hr.mono (by decide)) T.g__law_draws T.k__law_draws T.bd__law_draws tk (ca_cons (ce_b (o_add K (by rfl)) (ce_var 1) ce_int) (ca_cons (ce_l (cf_lst (ca_cons ce_int (ca_cons ce_int (ca_cons ce_int (ca_cons ce_int (ca_cons ce_int ca_nil))))))) ca_nil))))
  (css_cons (cs_set 3 nd (ce_b (o_add K (by rfl)) ce_int (ce_ix K (by rfl) (ce_var 2) ce_int)))
  (css_cons (cs_set 4 nd (ce_f K (by rfl) (ok__law_web T) (hr.mono (by decide)) T.g__law_web T.k__law_web T.bd__law_web tk (ca_cons (ce_var 1) (ca_cons (ce_var 3) ca_nil))))
  (css_cons (cs_asg (ce_tup (ca_cons (ce_b o_mod (ce_ix K (by rfl) (ce_var 2) ce_int) (ce_b (o_add K (by rfl)) (ce_var 3) ce_int)) (ca_cons (ce_b o_mod (ce_ix K (by rfl) (ce_var 2) ce_int) (ce_b (o_add K (by rfl)) (ce_var 3) ce_int)) ca_nil))) (cg_tup K (by rfl) (by rfl) (cgs_cons (cg_name 5 nd) (cgs_cons (cg_name 6 nd) cgs_nil (by rfl)) (by rfl)) (by rfl) (by rfl)))
  (css_cons (cs_set 7 nd (ce_callTy (k_tuple K (by rfl)) T.b_tuple (by decide +kernel) (ca_cons (ce_l (lc_1 (own := [("_law_c", 11)]) s rfl nd (ci_range1 T.b_range (ca_cons (ce_var 3) ca_nil)) (blkOk_by (by kernel_rfl)) (fun _ _ _ _ _ => (cg_name 11 nd)) (fun _ _ _ _ _ => (cts_one (ct_c (o_eq K (by rfl) hu) (ce_b o_mod (ce_b o_fdiv (ce_ix K (by rfl) (ce_var 2) ce_int) (ce_ix K (by rfl) (ce_l (cf_lst (ca_cons ce_int (ca_cons ce_int (ca_cons ce_int (ca_cons ce_int (ca_cons ce_int (ca_cons ce_int ca_nil)))))))) (ce_var 11))) ce_int) ce_int))) (fun _ _ _ _ _ => (ce_var 11))).toCF) ca_nil)))
  (css_cons (cs_if (ct_c o_gt (ce_ix K (by rfl) (ce_var 2) ce_int) ce_int) (css_one (cs_set 7 nd (ce_callTy (k_tuple K (by rfl)) T.b_tuple (by decide +kernel) (ca_cons (ce_l (lc_1 (own := [("_law_c", 11)]) s rfl nd (ci_seq K (by rfl) (ce_var 7)) (blkOk_by (by kernel_rfl)) (fun _ _ _ _ _ => (cg_name 11 nd)) (fun _ _ _ _ _ => (cts_one (CW.ct (cw_and (ct_c (o_ne K (by rfl) hu) (ce_var 11) (ce_var 5)) (cw_and1 (ct_c (o_ne K (by rfl) hu) (ce_var 11) (ce_var 6))))))) (fun _ _ _ _ _ => (ce_var 11))).toCF) ca_nil)))) css_nil)
  (css_cons (cs_if (ct_c (o_eq K (by rfl) hu) (ce_ix K (by rfl) (ce_var 2) ce_int) ce_int) (css_one (cs_set 7 nd (ce_b (o_add K (by rfl)) (ce_var 7) (ce_tup (ca_cons (ce_ix K (by rfl) (ce_l (cf_lst (ca_cons (ce_neg ce_int) (ca_cons (ce_var 3) ca_nil)))) (ce_b o_mod (ce_ix K (by rfl) (ce_var 2) ce_int) ce_int)) ca_nil))))) css_nil)
  (css_cons (cs_set 8 nd ce_str)
  (css_cons (cs_if (ct_not (ct_val (ce_callB (k_all K (by rfl) (by rfl)) T.b_all (by decide +kernel) (ca_cons (ce_l (lc_1 (own := [("_law_c", 11)]) s rfl nd (ci_seq K (by rfl) (ce_b (o_add K (by rfl)) (ce_tup (ca_cons (ce_var 5) (ca_cons (ce_var 6) ca_nil))) (ce_var 7))) (blkOk_by (by kernel_rfl)) (fun _ _ _ _ _ => (cg_name 11 nd)) (fun _ _ _ _ _ => cts_nil) (fun _ _ _ _ _ => (ce_cc o_le o_lt ce_int (ce_var 11) (ce_var 3)))).toCF) ca_nil)))) (css_one (cs_set 8 nd ce_str)) (css_one (cs_if (CW.ct (cw_or (ct_c (o_eq K (by rfl) hu) (ce_var 5) (ce_var 6)) (cw_or (ct_c (o_inA K (by rfl) hu5) (ce_var 5) (ce_var 7)) (cw_or1 (ct_c (o_inA K (by rfl) hu5) (ce_var 6) (ce_var 7)))))) (css_one (cs_set 8 nd ce_str)) css_nil)))
  (css_cons (cs_if (ct_c (o_ne K (by rfl) hu) (ce_lamF (k := 6) K (by rfl) T.F__law_word T.g__law_word T.bd__law_word sc__law_word rfl (by first | exact Or.inl rfl | exact Or.inr (Or.inl rfl)) rfl (fun cdv1 s1 H1 => hw__law_word _ _ cdv1 s1 H1) s H TB rfl hP (by rfl) (hr.mono (by decide)) (LamX.lamS_by (by kernel_rfl)) rfl (fun _ _ _ _ _ => rfl) (fun A1 outer1 s H E1 f1 c1 hr => have hu := hr.units; have hu5 := units5 hr; (ce_kw K (by rfl) (ok_open_way T) (hr.mono (by decide)) T.g_open_way T.k_open_way T.kf0_open_way (.p 0 (.p 1 (.p 2 (.k 0 .nil)))) (takes_of rfl rfl rfl rfl) (ca_cons (ce_var 4) (ca_cons (ce_var 5) (ca_cons (ce_var 6) ca_nil))) (ck_cons (ce_var 7) ck_nil)))) (ce_var 8)) (css_one (cs_ret ce_bl)) css_nil)
  (css_cons (cs_if (ct_c (o_ne K (by rfl) hu) (ce_lamF (k := 7) K (by rfl) T.F__law_word T.g__law_word T.bd__law_word sc__law_word rfl (by first | exact Or.inl rfl | exact Or.inr (Or.inl rfl)) rfl (fun cdv1 s1 H1 => hw__law_word _ _ cdv1 s1 H1) s H TB rfl hP (by rfl) (hr.mono (by decide)) (LamX.lamS_by (by kernel_rfl)) rfl (fun _ _ _ _ _ => rfl) (fun A1 outer1 s H E1 f1 c1 hr => have hu := hr.units; have hu5 := units5 hr; (ce_kw K (by rfl) (ok_apart T) (hr.mono (by decide)) T.g_apart T.k_apart T.kf0_apart (.p 0 (.p 1 (.p 2 (.k 0 .nil)))) (takes_of rfl rfl rfl rfl) (ca_cons (ce_var 4) (ca_cons (ce_var 5) (ca_cons (ce_var 6) ca_nil))) (ck_cons (ce_var 7) ck_nil)))) (ce_var 8)) (css_one (cs_ret ce_bl)) css_nil)
  (css_cons (cs_if (ct_not (ct_val (ce_f K (by rfl) (ok__law_wide_so T) (hr.mono (by decide)) T.g__law_wide_so T.k__law_wide_so T.bd__law_wide_so tk (ca_cons (ce_var 4) (ca_cons (ce_var 5) (ca_cons (ce_var 6) (ca_cons (ce_var 7) ca_nil))))))) (css_one (cs_ret ce_bl)) css_nil)
  (css_one (cs_if (ct_c (o_eq K (by rfl) hu) (ce_var 8) ce_str) (css_cons (cs_setLc 9 (lc_1 (own := [("_law_way", 12)]) s rfl nd (ci_seq K (by rfl) (ce_f K (by rfl) (ok__law_ways T) (hr.mono (by decide)) T.g__law_ways T.k__law_ways T.bd__law_ways tk (ca_cons (ce_var 4) (ca_cons (ce_var 5) (ca_cons (ce_var 6) ca_nil))))) (blkOk_by (by kernel_rfl)) (fun _ _ _ _ _ => (cg_name 12 nd)) (fun _ _ _ _ _ => (cts_one (ct_val (ce_f K (by rfl) (ok__law_passes T) (hr.mono (by decide)) T.g__law_passes T.k__law_passes T.bd__law_passes takes0 (ca_cons (ce_var 4) (ca_cons (ce_var 12) (ca_cons (ce_var 7) ca_nil))))))) (fun _ _ _ _ _ => (ce_callB (k_len K (by rfl)) T.b_len (by decide +kernel) (ca_cons (ce_var 12) ca_nil)))) (sw_true rfl rfl rfl (by decide +kernel)))
  (css_cons (cs_set 10 nd (ce_kw K (by rfl) (ok_open_way T) (hr.mono (by decide)) T.g_open_way T.k_open_way T.kf0_open_way (.p 0 (.p 1 (.p 2 (.k 0 .nil)))) tk (ca_cons (ce_var 4) (ca_cons (ce_var 5) (ca_cons (ce_var 6) ca_nil))) (ck_cons (ce_var 7) ck_nil)))
  (css_cons (cs_if (CW.ct (cw_or (ct_c (o_ne K (by rfl) hu) (ce_c o_is (ce_var 10) ce_non) (ce_c (o_eq K (by rfl) hu) (ce_var 9) (ce_l (cf_lst ca_nil)))) (cw_or1 (ct_c (o_ne K (by rfl) hu) (ce_kw K (by rfl) (ok_apart T) (hr.mono (by decide)) T.g_apart T.k_apart T.kf0_apart (.p 0 (.p 1 (.p 2 (.k 0 .nil)))) tk (ca_cons (ce_var 4) (ca_cons (ce_var 5) (ca_cons (ce_var 6) ca_nil))) (ck_cons (ce_var 7) ck_nil)) (ce_c (o_eq K (by rfl) hu) (ce_var 9) (ce_l (cf_lst ca_nil))))))) (css_one (cs_ret ce_bl)) css_nil)
  (css_one (cs_if (ct_c o_isnot (ce_var 10) ce_non) (css_cons (cs_if (CW.ct (cw_or (ct_c (o_ne K (by rfl) hu) (ce_callB (k_len K (by rfl)) T.b_len (by decide +kernel) (ca_cons (ce_var 10) ca_nil)) (ce_callB (k_min K (by rfl) (by rfl)) T.b_min (by decide +kernel) (ca_cons (ce_var 9) ca_nil))) (cw_or1 (ct_c (o_notinA K (by rfl) hu5) (ce_var 10) (ce_f K (by rfl) (ok__law_ways T) (hr.mono (by decide)) T.g__law_ways T.k__law_ways T.bd__law_ways tk (ca_cons (ce_var 4) (ca_cons (ce_var 5) (ca_cons (ce_var 6) ca_nil)))))))) (css_one (cs_ret ce_bl)) css_nil)
  (css_one (cs_if (ct_not (ct_val (ce_f K (by rfl) (ok__law_passes T) (hr.mono (by decide)) T.g__law_passes T.k__law_passes T.bd__law_passes tk (ca_cons (ce_var 4) (ca_cons (ce_var 10) (ca_cons (ce_var 7) ca_nil)))))) (css_one (cs_ret ce_bl)) css_nil))) css_nil))))) css_nil)))))))))))))))
  (css_one (cs_ret ce_bl))))⟩
end
end My
namespace My
open PySem L2 DV
theorem all_mk {l : PySem.W.OpenLaw} {w : World} {K : PySem.W.Frag} {h : Heap} {mg : Str → Option Value} {fa f0 f1 f2 f3 f4 f5 f6 f7 f8 f9 f10 f11 f12 f13 f14 f15 f16 f17 f18 f19 f20 : Addr} (X : K.In h) (G : h.Ns mainGlobals mg) (hfa : mg "law" = some (.ref fa))
    {od0 an0 od1 an1 od2 an2 od3 an3 od4 an4 od5 an5 od6 an6 od7 an7 od8 an8 od9 an9 od10 an10 od11 an11 od12 an12 od13 an13 od14 an14 od15 an15 od16 an16 od17 an17 od18 an18 od19 an19 od20 an20 : Option Addr} {sl0 sl1 sl2 sl3 sl4 sl5 sl6 sl7 sl8 sl9 sl10 sl11 sl12 sl13 sl14 sl15 sl16 sl17 sl18 sl19 sl20 : Array (Option Value)} {oc0 kV0 dc0 pm0 cd0 ct0 oc1 kV1 dc1 pm1 cd1 ct1 oc2 kV2 dc2 pm2 cd2 ct2 oc3 kV3 dc3 pm3 cd3 ct3 oc4 kV4 dc4 pm4 cd4 ct4 oc5 kV5 dc5 pm5 cd5 ct5 oc6 kV6 dc6 pm6 cd6 ct6 oc7 kV7 dc7 pm7 cd7 ct7 oc8 kV8 dc8 pm8 cd8 ct8 oc9 kV9 dc9 pm9 cd9 ct9 oc10 kV10 dc10 pm10 cd10 ct10 oc11 dc11 pm11 cd11 ct11 oc12 dc12 pm12 cd12 ct12 oc13 kV13 dc13 pm13 cd13 ct13 oc14 kV14 dc14 pm14 cd14 ct14 oc15 kV15 dc15 pm15 cd15 ct15 oc16 kV16 dc16 pm16 cd16 ct16 oc17 kV17 dc17 pm17 cd17 ct17 oc18 kV18 dc18 pm18 cd18 ct18 oc19 kV19 dc19 pm19 ct19 oc20 kV20 dc20 pm20 ct20 : Value}
    {C_BadColumn I_BadColumn C_BadWeb I_BadWeb C_Same I_Same C_NothingLeft I_NothingLeft C_Absent  C_LoomError : Addr} {iod_BadColumn ian_BadColumn iod_BadWeb ian_BadWeb iod_Same ian_Same iod_NothingLeft ian_NothingLeft : Option Addr} {isl_BadColumn isl_BadWeb isl_Same isl_NothingLeft : Array (Option Value)} {ioc_BadColumn ikV_BadColumn idc_BadColumn ipm_BadColumn icd_BadColumn ict_BadColumn ioc_BadWeb ikV_BadWeb idc_BadWeb ipm_BadWeb icd_BadWeb ict_BadWeb ioc_Same ikV_Same idc_Same ipm_Same icd_Same ict_Same ioc_NothingLeft ikV_NothingLeft idc_NothingLeft ipm_NothingLeft icd_NothingLeft ict_NothingLeft : Value}
    {dK11 : Addr}
    {dK12 : Addr}
    {tA_dT_apart_seen : Addr} {to_dT_apart_seen : Option Addr} {tn_dT_apart_seen : Nat} {ts_dT_apart_seen : Array (Option Value)}
    {tA_dT_open_way_seen : Addr} {to_dT_open_way_seen : Option Addr} {tn_dT_open_way_seen : Nat} {ts_dT_open_way_seen : Array (Option Value)}
    {tc_MOST_COLUMNS : Tok}
    {cL cL19 : Addr}
    (ca_BadColumn : PySem.W.nsIn K mainGlobals "BadColumn" = some (some (.ref C_BadColumn))) (cb_BadColumn : oexB K C_BadColumn [.type "ValueError", .type "Exception", .type "BaseException", .type "object"] "ValueError.__new__" = true) (cc_BadColumn : PySem.W.findIn K (.ref C_BadColumn) "__init__" = some (some (.ref I_BadColumn))) (cd_BadColumn : PySem.W.typeIn K (.ref I_BadColumn) = some (.type "function")) (ce_BadColumn : xcB K C_BadColumn = true)
    (cl_BadColumn : K.lookup I_BadColumn = some ⟨ioc_BadColumn, iod_BadColumn, .func (PySem.W.fnOf "__init__" "BadColumn.__init__" (defArgs si_BadColumn) (defBody si_BadColumn) (defScope si_BadColumn) .none ikV_BadColumn idc_BadColumn ipm_BadColumn ian_BadColumn icd_BadColumn ict_BadColumn), isl_BadColumn⟩) (cm_BadColumn : PySem.W.codeIn K icd_BadColumn "BadColumn.__init__" = true) (cn_BadColumn : PySem.W.keepIn K (.ref I_BadColumn) = true)
    (ca_BadWeb : PySem.W.nsIn K mainGlobals "BadWeb" = some (some (.ref C_BadWeb))) (cb_BadWeb : oexB K C_BadWeb [.type "ValueError", .type "Exception", .type "BaseException", .type "object"] "ValueError.__new__" = true) (cc_BadWeb : PySem.W.findIn K (.ref C_BadWeb) "__init__" = some (some (.ref I_BadWeb))) (cd_BadWeb : PySem.W.typeIn K (.ref I_BadWeb) = some (.type "function")) (ce_BadWeb : xcB K C_BadWeb = true)
    (cl_BadWeb : K.lookup I_BadWeb = some ⟨ioc_BadWeb, iod_BadWeb, .func (PySem.W.fnOf "__init__" "BadWeb.__init__" (defArgs si_BadWeb) (defBody si_BadWeb) (defScope si_BadWeb) .none ikV_BadWeb idc_BadWeb ipm_BadWeb ian_BadWeb icd_BadWeb ict_BadWeb), isl_BadWeb⟩) (cm_BadWeb : PySem.W.codeIn K icd_BadWeb "BadWeb.__init__" = true) (cn_BadWeb : PySem.W.keepIn K (.ref I_BadWeb) = true)
    (ca_Same : PySem.W.nsIn K mainGlobals "Same" = some (some (.ref C_Same))) (cb_Same : oexB K C_Same [.type "ValueError", .type "Exception", .type "BaseException", .type "object"] "ValueError.__new__" = true) (cc_Same : PySem.W.findIn K (.ref C_Same) "__init__" = some (some (.ref I_Same))) (cd_Same : PySem.W.typeIn K (.ref I_Same) = some (.type "function")) (ce_Same : xcB K C_Same = true)
    (cl_Same : K.lookup I_Same = some ⟨ioc_Same, iod_Same, .func (PySem.W.fnOf "__init__" "Same.__init__" (defArgs si_Same) (defBody si_Same) (defScope si_Same) .none ikV_Same idc_Same ipm_Same ian_Same icd_Same ict_Same), isl_Same⟩) (cm_Same : PySem.W.codeIn K icd_Same "Same.__init__" = true) (cn_Same : PySem.W.keepIn K (.ref I_Same) = true)
    (ca_NothingLeft : PySem.W.nsIn K mainGlobals "NothingLeft" = some (some (.ref C_NothingLeft))) (cb_NothingLeft : oexB K C_NothingLeft [.type "IndexError", .type "LookupError", .type "Exception", .type "BaseException", .type "object"] "IndexError.__new__" = true) (cc_NothingLeft : PySem.W.findIn K (.ref C_NothingLeft) "__init__" = some (some (.ref I_NothingLeft))) (cd_NothingLeft : PySem.W.typeIn K (.ref I_NothingLeft) = some (.type "function")) (ce_NothingLeft : xcB K C_NothingLeft = true)
    (cl_NothingLeft : K.lookup I_NothingLeft = some ⟨ioc_NothingLeft, iod_NothingLeft, .func (PySem.W.fnOf "__init__" "NothingLeft.__init__" (defArgs si_NothingLeft) (defBody si_NothingLeft) (defScope si_NothingLeft) .none ikV_NothingLeft idc_NothingLeft ipm_NothingLeft ian_NothingLeft icd_NothingLeft ict_NothingLeft), isl_NothingLeft⟩) (cm_NothingLeft : PySem.W.codeIn K icd_NothingLeft "NothingLeft.__init__" = true) (cn_NothingLeft : PySem.W.keepIn K (.ref I_NothingLeft) = true)
    (ca_Absent : PySem.W.nsIn K mainGlobals "Absent" = some (some (.ref C_Absent)))
    (ca_LoomError : PySem.W.nsIn K mainGlobals "LoomError" = some (some (.ref C_LoomError)))
    (cx_BadColumn_NothingLeft : PySem.W.exmOne K (.ref C_BadColumn) (.ref C_NothingLeft) = some false)
    (cx_BadWeb_NothingLeft : PySem.W.exmOne K (.ref C_BadWeb) (.ref C_NothingLeft) = some false)
    (cx_Same_NothingLeft : PySem.W.exmOne K (.ref C_Same) (.ref C_NothingLeft) = some false)
    (cx_NothingLeft_NothingLeft : PySem.W.exmOne K (.ref C_NothingLeft) (.ref C_NothingLeft) = some true)
    (cx_BadColumn_Absent : PySem.W.exmOne K (.ref C_BadColumn) (.ref C_Absent) = some false)
    (cx_BadWeb_Absent : PySem.W.exmOne K (.ref C_BadWeb) (.ref C_Absent) = some false)
    (cx_Same_Absent : PySem.W.exmOne K (.ref C_Same) (.ref C_Absent) = some false)
    (cx_NothingLeft_Absent : PySem.W.exmOne K (.ref C_NothingLeft) (.ref C_Absent) = some false)
    (cx_BadColumn_LoomError : PySem.W.exmOne K (.ref C_BadColumn) (.ref C_LoomError) = some true)
    (cx_BadWeb_LoomError : PySem.W.exmOne K (.ref C_BadWeb) (.ref C_LoomError) = some true)
    (cx_Same_LoomError : PySem.W.exmOne K (.ref C_Same) (.ref C_LoomError) = some true)
    (cx_NothingLeft_LoomError : PySem.W.exmOne K (.ref C_NothingLeft) (.ref C_LoomError) = some false)
    (a0 : PySem.W.nsIn K mainGlobals "is_plain" = some (some (.ref f0))) (l0 : K.lookup f0 = some ⟨oc0, od0, .func (PySem.W.fnOf "is_plain" "is_plain" (defArgs s_is_plain) (defBody s_is_plain) (defScope s_is_plain) .none kV0 dc0 pm0 an0 cd0 ct0), sl0⟩) (c0 : PySem.W.codeIn K cd0 "is_plain" = true) (k0 : PySem.W.keepIn K (.ref f0) = true)
    (a1 : PySem.W.nsIn K mainGlobals "ring_of" = some (some (.ref f1))) (l1 : K.lookup f1 = some ⟨oc1, od1, .func (PySem.W.fnOf "ring_of" "ring_of" (defArgs s_ring_of) (defBody s_ring_of) (defScope s_ring_of) .none kV1 dc1 pm1 an1 cd1 ct1), sl1⟩) (c1 : PySem.W.codeIn K cd1 "ring_of" = true) (k1 : PySem.W.keepIn K (.ref f1) = true)
    (a2 : PySem.W.nsIn K mainGlobals "is_web" = some (some (.ref f2))) (l2 : K.lookup f2 = some ⟨oc2, od2, .func (PySem.W.fnOf "is_web" "is_web" (defArgs s_is_web) (defBody s_is_web) (defScope s_is_web) .none kV2 dc2 pm2 an2 cd2 ct2), sl2⟩) (c2 : PySem.W.codeIn K cd2 "is_web" = true) (k2 : PySem.W.keepIn K (.ref f2) = true)
    (a3 : PySem.W.nsIn K mainGlobals "look_web" = some (some (.ref f3))) (l3 : K.lookup f3 = some ⟨oc3, od3, .func (PySem.W.fnOf "look_web" "look_web" (defArgs s_look_web) (defBody s_look_web) (defScope s_look_web) .none kV3 dc3 pm3 an3 cd3 ct3), sl3⟩) (c3 : PySem.W.codeIn K cd3 "look_web" = true) (k3 : PySem.W.keepIn K (.ref f3) = true)
    (a4 : PySem.W.nsIn K mainGlobals "look_column" = some (some (.ref f4))) (l4 : K.lookup f4 = some ⟨oc4, od4, .func (PySem.W.fnOf "look_column" "look_column" (defArgs s_look_column) (defBody s_look_column) (defScope s_look_column) .none kV4 dc4 pm4 an4 cd4 ct4), sl4⟩) (c4 : PySem.W.codeIn K cd4 "look_column" = true) (k4 : PySem.W.keepIn K (.ref f4) = true)
    (a5 : PySem.W.nsIn K mainGlobals "order" = some (some (.ref f5))) (l5 : K.lookup f5 = some ⟨oc5, od5, .func (PySem.W.fnOf "order" "order" (defArgs s_order) (defBody s_order) (defScope s_order) .none kV5 dc5 pm5 an5 cd5 ct5), sl5⟩) (c5 : PySem.W.codeIn K cd5 "order" = true) (k5 : PySem.W.keepIn K (.ref f5) = true)
    (a6 : PySem.W.nsIn K mainGlobals "all_leads" = some (some (.ref f6))) (l6 : K.lookup f6 = some ⟨oc6, od6, .func (PySem.W.fnOf "all_leads" "all_leads" (defArgs s_all_leads) (defBody s_all_leads) (defScope s_all_leads) .none kV6 dc6 pm6 an6 cd6 ct6), sl6⟩) (c6 : PySem.W.codeIn K cd6 "all_leads" = true) (k6 : PySem.W.keepIn K (.ref f6) = true)
    (a7 : PySem.W.nsIn K mainGlobals "are_joined" = some (some (.ref f7))) (l7 : K.lookup f7 = some ⟨oc7, od7, .func (PySem.W.fnOf "are_joined" "are_joined" (defArgs s_are_joined) (defBody s_are_joined) (defScope s_are_joined) .none kV7 dc7 pm7 an7 cd7 ct7), sl7⟩) (c7 : PySem.W.codeIn K cd7 "are_joined" = true) (k7 : PySem.W.keepIn K (.ref f7) = true)
    (a8 : PySem.W.nsIn K mainGlobals "lets_through" = some (some (.ref f8))) (l8 : K.lookup f8 = some ⟨oc8, od8, .func (PySem.W.fnOf "lets_through" "lets_through" (defArgs s_lets_through) (defBody s_lets_through) (defScope s_lets_through) .none kV8 dc8 pm8 an8 cd8 ct8), sl8⟩) (c8 : PySem.W.codeIn K cd8 "lets_through" = true) (k8 : PySem.W.keepIn K (.ref f8) = true)
    (a9 : PySem.W.nsIn K mainGlobals "passes" = some (some (.ref f9))) (l9 : K.lookup f9 = some ⟨oc9, od9, .func (PySem.W.fnOf "passes" "passes" (defArgs s_passes) (defBody s_passes) (defScope s_passes) .none kV9 dc9 pm9 an9 cd9 ct9), sl9⟩) (c9 : PySem.W.codeIn K cd9 "passes" = true) (k9 : PySem.W.keepIn K (.ref f9) = true)
    (a10 : PySem.W.nsIn K mainGlobals "look_ends" = some (some (.ref f10))) (l10 : K.lookup f10 = some ⟨oc10, od10, .func (PySem.W.fnOf "look_ends" "look_ends" (defArgs s_look_ends) (defBody s_look_ends) (defScope s_look_ends) .none kV10 dc10 pm10 an10 cd10 ct10), sl10⟩) (c10 : PySem.W.codeIn K cd10 "look_ends" = true) (k10 : PySem.W.keepIn K (.ref f10) = true)
    (a11 : PySem.W.nsIn K mainGlobals "open_way" = some (some (.ref f11))) (l11 : K.lookup f11 = some ⟨oc11, od11, .func (PySem.W.fnOf "open_way" "open_way" (defArgs s_open_way) (defBody s_open_way) (defScope s_open_way) .none (.ref dK11) dc11 pm11 an11 cd11 ct11), sl11⟩) (c11 : PySem.W.codeIn K cd11 "open_way" = true) (k11 : PySem.W.keepIn K (.ref f11) = true)
    (a12 : PySem.W.nsIn K mainGlobals "apart" = some (some (.ref f12))) (l12 : K.lookup f12 = some ⟨oc12, od12, .func (PySem.W.fnOf "apart" "apart" (defArgs s_apart) (defBody s_apart) (defScope s_apart) .none (.ref dK12) dc12 pm12 an12 cd12 ct12), sl12⟩) (c12 : PySem.W.codeIn K cd12 "apart" = true) (k12 : PySem.W.keepIn K (.ref f12) = true)
    (a13 : PySem.W.nsIn K mainGlobals "_law_draws" = some (some (.ref f13))) (l13 : K.lookup f13 = some ⟨oc13, od13, .func (PySem.W.fnOf "_law_draws" "_law_draws" (defArgs s__law_draws) (defBody s__law_draws) (defScope s__law_draws) .none kV13 dc13 pm13 an13 cd13 ct13), sl13⟩) (c13 : PySem.W.codeIn K cd13 "_law_draws" = true) (k13 : PySem.W.keepIn K (.ref f13) = true)
    (a14 : PySem.W.nsIn K mainGlobals "_law_web" = some (some (.ref f14))) (l14 : K.lookup f14 = some ⟨oc14, od14, .func (PySem.W.fnOf "_law_web" "_law_web" (defArgs s__law_web) (defBody s__law_web) (defScope s__law_web) .none kV14 dc14 pm14 an14 cd14 ct14), sl14⟩) (c14 : PySem.W.codeIn K cd14 "_law_web" = true) (k14 : PySem.W.keepIn K (.ref f14) = true)
    (a15 : PySem.W.nsIn K mainGlobals "_law_ways" = some (some (.ref f15))) (l15 : K.lookup f15 = some ⟨oc15, od15, .func (PySem.W.fnOf "_law_ways" "_law_ways" (defArgs s__law_ways) (defBody s__law_ways) (defScope s__law_ways) .none kV15 dc15 pm15 an15 cd15 ct15), sl15⟩) (c15 : PySem.W.codeIn K cd15 "_law_ways" = true) (k15 : PySem.W.keepIn K (.ref f15) = true)
    (a16 : PySem.W.nsIn K mainGlobals "_law_below" = some (some (.ref f16))) (l16 : K.lookup f16 = some ⟨oc16, od16, .func (PySem.W.fnOf "_law_below" "_law_below" (defArgs s__law_below) (defBody s__law_below) (defScope s__law_below) .none kV16 dc16 pm16 an16 cd16 ct16), sl16⟩) (c16 : PySem.W.codeIn K cd16 "_law_below" = true) (k16 : PySem.W.keepIn K (.ref f16) = true)
    (a17 : PySem.W.nsIn K mainGlobals "_law_passes" = some (some (.ref f17))) (l17 : K.lookup f17 = some ⟨oc17, od17, .func (PySem.W.fnOf "_law_passes" "_law_passes" (defArgs s__law_passes) (defBody s__law_passes) (defScope s__law_passes) .none kV17 dc17 pm17 an17 cd17 ct17), sl17⟩) (c17 : PySem.W.codeIn K cd17 "_law_passes" = true) (k17 : PySem.W.keepIn K (.ref f17) = true)
    (a18 : PySem.W.nsIn K mainGlobals "_law_word" = some (some (.ref f18))) (l18 : K.lookup f18 = some ⟨oc18, od18, .func (PySem.W.fnOf "_law_word" "_law_word" (defArgs s__law_word) (defBody s__law_word) (defScope s__law_word) .none kV18 dc18 pm18 an18 cd18 ct18), sl18⟩) (c18 : PySem.W.codeIn K cd18 "_law_word" = true) (k18 : PySem.W.keepIn K (.ref f18) = true)
    (a19 : PySem.W.nsIn K mainGlobals "_law_wide_so" = some (some (.ref f19))) (l19 : K.lookup f19 = some ⟨oc19, od19, .func (PySem.W.fnOf "_law_wide_so" "_law_wide_so" (defArgs s__law_wide_so) (defBody s__law_wide_so) (defScope s__law_wide_so) .none kV19 dc19 pm19 an19 (.ref cL19) ct19), sl19⟩) (c19 : PySem.W.codeIn K (.ref cL19) "_law_wide_so" = true) (k19 : PySem.W.keepIn K (.ref f19) = true)
    (a20 : PySem.W.nsIn K mainGlobals "law" = some (some (.ref f20))) (l20 : K.lookup f20 = some ⟨oc20, od20, .func (PySem.W.fnOf "law" "law" (defArgs s_law) (defBody s_law) (defScope s_law) .none kV20 dc20 pm20 an20 (.ref cL) ct20), sl20⟩) (c20 : PySem.W.codeIn K (.ref cL) "law" = true) (k20 : PySem.W.keepIn K (.ref f20) = true)
    (z_abs : PySem.W.nsIn K mainGlobals "abs" = some none)
    (z_all : PySem.W.nsIn K mainGlobals "all" = some none)
    (z_any : PySem.W.nsIn K mainGlobals "any" = some none)
    (z_enumerate : PySem.W.nsIn K mainGlobals "enumerate" = some none)
    (z_len : PySem.W.nsIn K mainGlobals "len" = some none)
    (z_list : PySem.W.nsIn K mainGlobals "list" = some none)
    (z_min : PySem.W.nsIn K mainGlobals "min" = some none)
    (z_range : PySem.W.nsIn K mainGlobals "range" = some none)
    (z_sorted : PySem.W.nsIn K mainGlobals "sorted" = some none)
    (z_tuple : PySem.W.nsIn K mainGlobals "tuple" = some none)
    (q11_0 : PySem.W.nsIn K dK11 "seen" = some (some (.ref tA_dT_open_way_seen)))
    (q12_0 : PySem.W.nsIn K dK12 "seen" = some (some (.ref tA_dT_apart_seen)))
    (y_dT_apart_seen : K.lookup tA_dT_apart_seen = some ⟨.type "tuple", to_dT_apart_seen, .seq (List.toArray []) tn_dT_apart_seen, ts_dT_apart_seen⟩)
    (y_dT_open_way_seen : K.lookup tA_dT_open_way_seen = some ⟨.type "tuple", to_dT_open_way_seen, .seq (List.toArray []) tn_dT_open_way_seen, ts_dT_open_way_seen⟩)
    (x_MOST_COLUMNS : PySem.W.nsIn K mainGlobals "MOST_COLUMNS" = some (some (.int 6 tc_MOST_COLUMNS)))
    {PL : Addr} {cvs : Array Value} {coc : Value} {cod : Option Addr} {csl : Array (Option Value)} (tc : K.lookup cL = some ⟨coc, cod, .fields cvs, csl⟩) (tp : cvs[11]? = some (.ref PL)) (tn : K.lookup PL = none)
    {PL19 : Addr} {cvs19 : Array Value} {coc19 : Value} {cod19 : Option Addr} {csl19 : Array (Option Value)} (tc19 : K.lookup cL19 = some ⟨coc19, cod19, .fields cvs19, csl19⟩) (tp19 : cvs19[11]? = some (.ref PL19)) (tn19 : K.lookup PL19 = none)
    : ∃ (fd : FuncData) (cs : List (Addr × Addr)), TabsAre K lamNs cs ∧ (∀ p ∈ cs, K.lookup p.2 = none) ∧ (∀ (s : Shared) (v : Value), BindsTo s fd ⟨[v], []⟩ [("_law_script", v)]) ∧ ∀ base : Heap, K.In base → base.Ns mainGlobals mg → (∀ p ∈ cs, LamX.TabB base mg p.1 p.2) → FnOk l.prog w K mg base (L2.CX l.prog w) 11 fa fd ["_law_script"] (spD K 1 F_law) := by
  have e := hfa.symm.trans (PySem.W.mg_of X G a20)
  cases e
  have R_dT_apart_seen : ∀ B, Rp K B (.ref tA_dT_apart_seen) (.tup []) := rp_tup (vs := []) y_dT_apart_seen (by simp) .nil (fun _ => .nil)
  have R_dT_open_way_seen : ∀ B, Rp K B (.ref tA_dT_open_way_seen) (.tup []) := rp_tup (vs := []) y_dT_open_way_seen (by simp) .nil (fun _ => .nil)
  have IF_BadColumn := fun_mk (st := si_BadColumn) cl_BadColumn cm_BadColumn cn_BadColumn
  have ib_BadColumn := IF_BadColumn.binds (ps := ["self"]) fun _ _ _ _ _ _ us hl => match us, hl with | [_], _ => rfl
  have X_BadColumn : ExK K mg "BadColumn" C_BadColumn I_BadColumn := ⟨oexB_ok PySem.F.excBase_ValueError PySem.F.store_ValueError cb_BadColumn, PySem.W.mg_of X G ca_BadColumn, clsV_of ca_BadColumn, cc_BadColumn, cd_BadColumn⟩
  have IF_BadWeb := fun_mk (st := si_BadWeb) cl_BadWeb cm_BadWeb cn_BadWeb
  have ib_BadWeb := IF_BadWeb.binds (ps := ["self"]) fun _ _ _ _ _ _ us hl => match us, hl with | [_], _ => rfl
  have X_BadWeb : ExK K mg "BadWeb" C_BadWeb I_BadWeb := ⟨oexB_ok PySem.F.excBase_ValueError PySem.F.store_ValueError cb_BadWeb, PySem.W.mg_of X G ca_BadWeb, clsV_of ca_BadWeb, cc_BadWeb, cd_BadWeb⟩
  have IF_Same := fun_mk (st := si_Same) cl_Same cm_Same cn_Same
  have ib_Same := IF_Same.binds (ps := ["self"]) fun _ _ _ _ _ _ us hl => match us, hl with | [_], _ => rfl
  have X_Same : ExK K mg "Same" C_Same I_Same := ⟨oexB_ok PySem.F.excBase_ValueError PySem.F.store_ValueError cb_Same, PySem.W.mg_of X G ca_Same, clsV_of ca_Same, cc_Same, cd_Same⟩
  have IF_NothingLeft := fun_mk (st := si_NothingLeft) cl_NothingLeft cm_NothingLeft cn_NothingLeft
  have ib_NothingLeft := IF_NothingLeft.binds (ps := ["self"]) fun _ _ _ _ _ _ us hl => match us, hl with | [_], _ => rfl
  have X_NothingLeft : ExK K mg "NothingLeft" C_NothingLeft I_NothingLeft := ⟨oexB_ok PySem.F.excBase_IndexError PySem.F.store_IndexError cb_NothingLeft, PySem.W.mg_of X G ca_NothingLeft, clsV_of ca_NothingLeft, cc_NothingLeft, cd_NothingLeft⟩
  have F0 := fun_mk (st := s_is_plain) l0 c0 k0
  have b0 := F0.binds (ps := ["web"]) fun _ _ _ _ _ _ us hl => match us, hl with | [_], _ => rfl
  have F1 := fun_mk (st := s_ring_of) l1 c1 k1
  have b1 := F1.binds (ps := ["web"]) fun _ _ _ _ _ _ us hl => match us, hl with | [_], _ => rfl
  have F2 := fun_mk (st := s_is_web) l2 c2 k2
  have b2 := F2.binds (ps := ["web"]) fun _ _ _ _ _ _ us hl => match us, hl with | [_], _ => rfl
  have F3 := fun_mk (st := s_look_web) l3 c3 k3
  have b3 := F3.binds (ps := ["web"]) fun _ _ _ _ _ _ us hl => match us, hl with | [_], _ => rfl
  have F4 := fun_mk (st := s_look_column) l4 c4 k4
  have b4 := F4.binds (ps := ["many", "column"]) fun _ _ _ _ _ _ us hl => match us, hl with | [_, _], _ => rfl
  have F5 := fun_mk (st := s_order) l5 c5 k5
  have b5 := F5.binds (ps := ["web"]) fun _ _ _ _ _ _ us hl => match us, hl with | [_], _ => rfl
  have F6 := fun_mk (st := s_all_leads) l6 c6 k6
  have b6 := F6.binds (ps := ["web"]) fun _ _ _ _ _ _ us hl => match us, hl with | [_], _ => rfl
  have F7 := fun_mk (st := s_are_joined) l7 c7 k7
  have b7 := F7.binds (ps := ["web", "one", "other"]) fun _ _ _ _ _ _ us hl => match us, hl with | [_, _, _], _ => rfl
  have F8 := fun_mk (st := s_lets_through) l8 c8 k8
  have b8 := F8.binds (ps := ["web", "leads", "step", "seen"]) fun _ _ _ _ _ _ us hl => match us, hl with | [_, _, _, _], _ => rfl
  have F9 := fun_mk (st := s_passes) l9 c9 k9
  have b9 := F9.binds (ps := ["web", "leads", "way", "seen"]) fun _ _ _ _ _ _ us hl => match us, hl with | [_, _, _, _], _ => rfl
  have F10 := fun_mk (st := s_look_ends) l10 c10 k10
  have b10 := F10.binds (ps := ["web", "one", "other", "seen"]) fun _ _ _ _ _ _ us hl => match us, hl with | [_, _, _, _], _ => rfl
  have F11 := funK_mk (st := s_open_way) (kws := [("seen", V.ref tA_dT_open_way_seen)]) l11 c11 k11 (fun q hq => by
    simp only [List.mem_cons, List.not_mem_nil, or_false] at hq
    rcases hq with rfl
    · exact ⟨_, q11_0, rfl⟩)
  have kf0_11 : KForm K _ ["web", "one", "other", "seen"] 3 ["seen"] [.p 0, .p 1, .p 2, .k 0] := form0 F11 3 _ _ [.p 0, .p 1, .p 2, .k 0] (.p 0 (.p 1 (.p 2 (.k 0 .nil)))) fun _ _ _ _ _ _ us ws h1 h2 => match us, ws, h1, h2 with | [_, _, _], [_], _, _ => rfl
  have F12 := funK_mk (st := s_apart) (kws := [("seen", V.ref tA_dT_apart_seen)]) l12 c12 k12 (fun q hq => by
    simp only [List.mem_cons, List.not_mem_nil, or_false] at hq
    rcases hq with rfl
    · exact ⟨_, q12_0, rfl⟩)
  have kf0_12 : KForm K _ ["web", "one", "other", "seen"] 3 ["seen"] [.p 0, .p 1, .p 2, .k 0] := form0 F12 3 _ _ [.p 0, .p 1, .p 2, .k 0] (.p 0 (.p 1 (.p 2 (.k 0 .nil)))) fun _ _ _ _ _ _ us ws h1 h2 => match us, ws, h1, h2 with | [_, _, _], [_], _, _ => rfl
  have F13 := fun_mk (st := s__law_draws) l13 c13 k13
  have b13 := F13.binds (ps := ["_law_cell", "_law_sizes"]) fun _ _ _ _ _ _ us hl => match us, hl with | [_, _], _ => rfl
  have F14 := fun_mk (st := s__law_web) l14 c14 k14
  have b14 := F14.binds (ps := ["_law_cell", "_law_many"]) fun _ _ _ _ _ _ us hl => match us, hl with | [_, _], _ => rfl
  have F15 := fun_mk (st := s__law_ways) l15 c15 k15
  have b15 := F15.binds (ps := ["_law_web_here", "_law_one", "_law_other"]) fun _ _ _ _ _ _ us hl => match us, hl with | [_, _, _], _ => rfl
  have F16 := fun_mk (st := s__law_below) l16 c16 k16
  have b16 := F16.binds (ps := ["_law_web_here", "_law_column"]) fun _ _ _ _ _ _ us hl => match us, hl with | [_, _], _ => rfl
  have F17 := fun_mk (st := s__law_passes) l17 c17 k17
  have b17 := F17.binds (ps := ["_law_web_here", "_law_way", "_law_eyed"]) fun _ _ _ _ _ _ us hl => match us, hl with | [_, _, _], _ => rfl
  have F18 := fun_mk (st := s__law_word) l18 c18 k18
  have b18 := F18.binds (ps := ["_law_asked"]) fun _ _ _ _ _ _ us hl => match us, hl with | [_], _ => rfl
  have F19 := fun_mk (st := s__law_wide_so) l19 c19 k19
  have b19 := F19.binds (ps := ["_law_web_here", "_law_one", "_law_other", "_law_eyed"]) fun _ _ _ _ _ _ us hl => match us, hl with | [_, _, _, _], _ => rfl
  have F20 := fun_mk (st := s_law) l20 c20 k20
  have b20 := F20.binds (ps := ["_law_script"]) fun _ _ _ _ _ _ us hl => match us, hl with | [_], _ => rfl
  have ht := tabIn_of a20 l20 rfl tc tp
  have ht19 := tabIn_of a19 l19 rfl tc19 tp19
  refine ⟨(PySem.W.fnOf "law" "law" (defArgs s_law) (defBody s_law) (defScope s_law) .none kV20 dc20 pm20 an20 (.ref cL) ct20), [(cL, PL), (cL19, PL19)], ⟨ht, ht19, trivial⟩, ?_, fun s v => .of_eq rfl, fun base _ _ TB => ?_⟩
  · intro p hp
    simp only [List.mem_cons, List.not_mem_nil, or_false] at hp
    rcases hp with rfl | rfl
    · exact tn
    · exact tn19
  have T : Txt K mg ⟨cL19, PL19, C_BadColumn, I_BadColumn, (PySem.W.fnOf "__init__" "BadColumn.__init__" (defArgs si_BadColumn) (defBody si_BadColumn) (defScope si_BadColumn) .none ikV_BadColumn idc_BadColumn ipm_BadColumn ian_BadColumn icd_BadColumn ict_BadColumn), C_BadWeb, I_BadWeb, (PySem.W.fnOf "__init__" "BadWeb.__init__" (defArgs si_BadWeb) (defBody si_BadWeb) (defScope si_BadWeb) .none ikV_BadWeb idc_BadWeb ipm_BadWeb ian_BadWeb icd_BadWeb ict_BadWeb), C_Same, I_Same, (PySem.W.fnOf "__init__" "Same.__init__" (defArgs si_Same) (defBody si_Same) (defScope si_Same) .none ikV_Same idc_Same ipm_Same ian_Same icd_Same ict_Same), C_NothingLeft, I_NothingLeft, (PySem.W.fnOf "__init__" "NothingLeft.__init__" (defArgs si_NothingLeft) (defBody si_NothingLeft) (defScope si_NothingLeft) .none ikV_NothingLeft idc_NothingLeft ipm_NothingLeft ian_NothingLeft icd_NothingLeft ict_NothingLeft), C_Absent, C_LoomError, f0, (PySem.W.fnOf "is_plain" "is_plain" (defArgs s_is_plain) (defBody s_is_plain) (defScope s_is_plain) .none kV0 dc0 pm0 an0 cd0 ct0), f1, (PySem.W.fnOf "ring_of" "ring_of" (defArgs s_ring_of) (defBody s_ring_of) (defScope s_ring_of) .none kV1 dc1 pm1 an1 cd1 ct1), f2, (PySem.W.fnOf "is_web" "is_web" (defArgs s_is_web) (defBody s_is_web) (defScope s_is_web) .none kV2 dc2 pm2 an2 cd2 ct2), f3, (PySem.W.fnOf "look_web" "look_web" (defArgs s_look_web) (defBody s_look_web) (defScope s_look_web) .none kV3 dc3 pm3 an3 cd3 ct3), f4, (PySem.W.fnOf "look_column" "look_column" (defArgs s_look_column) (defBody s_look_column) (defScope s_look_column) .none kV4 dc4 pm4 an4 cd4 ct4), f5, (PySem.W.fnOf "order" "order" (defArgs s_order) (defBody s_order) (defScope s_order) .none kV5 dc5 pm5 an5 cd5 ct5), f6, (PySem.W.fnOf "all_leads" "all_leads" (defArgs s_all_leads) (defBody s_all_leads) (defScope s_all_leads) .none kV6 dc6 pm6 an6 cd6 ct6), f7, (PySem.W.fnOf "are_joined" "are_joined" (defArgs s_are_joined) (defBody s_are_joined) (defScope s_are_joined) .none kV7 dc7 pm7 an7 cd7 ct7), f8, (PySem.W.fnOf "lets_through" "lets_through" (defArgs s_lets_through) (defBody s_lets_through) (defScope s_lets_through) .none kV8 dc8 pm8 an8 cd8 ct8), f9, (PySem.W.fnOf "passes" "passes" (defArgs s_passes) (defBody s_passes) (defScope s_passes) .none kV9 dc9 pm9 an9 cd9 ct9), f10, (PySem.W.fnOf "look_ends" "look_ends" (defArgs s_look_ends) (defBody s_look_ends) (defScope s_look_ends) .none kV10 dc10 pm10 an10 cd10 ct10), f11, (PySem.W.fnOf "open_way" "open_way" (defArgs s_open_way) (defBody s_open_way) (defScope s_open_way) .none (.ref dK11) dc11 pm11 an11 cd11 ct11), f12, (PySem.W.fnOf "apart" "apart" (defArgs s_apart) (defBody s_apart) (defScope s_apart) .none (.ref dK12) dc12 pm12 an12 cd12 ct12), f13, (PySem.W.fnOf "_law_draws" "_law_draws" (defArgs s__law_draws) (defBody s__law_draws) (defScope s__law_draws) .none kV13 dc13 pm13 an13 cd13 ct13), f14, (PySem.W.fnOf "_law_web" "_law_web" (defArgs s__law_web) (defBody s__law_web) (defScope s__law_web) .none kV14 dc14 pm14 an14 cd14 ct14), f15, (PySem.W.fnOf "_law_ways" "_law_ways" (defArgs s__law_ways) (defBody s__law_ways) (defScope s__law_ways) .none kV15 dc15 pm15 an15 cd15 ct15), f16, (PySem.W.fnOf "_law_below" "_law_below" (defArgs s__law_below) (defBody s__law_below) (defScope s__law_below) .none kV16 dc16 pm16 an16 cd16 ct16), f17, (PySem.W.fnOf "_law_passes" "_law_passes" (defArgs s__law_passes) (defBody s__law_passes) (defScope s__law_passes) .none kV17 dc17 pm17 an17 cd17 ct17), f18, (PySem.W.fnOf "_law_word" "_law_word" (defArgs s__law_word) (defBody s__law_word) (defScope s__law_word) .none kV18 dc18 pm18 an18 cd18 ct18), f19, (PySem.W.fnOf "_law_wide_so" "_law_wide_so" (defArgs s__law_wide_so) (defBody s__law_wide_so) (defScope s__law_wide_so) .none kV19 dc19 pm19 an19 (.ref cL19) ct19), fa, (PySem.W.fnOf "law" "law" (defArgs s_law) (defBody s_law) (defScope s_law) .none kV20 dc20 pm20 an20 (.ref cL) ct20), (V.int 6), (Value.int 6 tc_MOST_COLUMNS), (V.ref tA_dT_apart_seen), (Value.ref tA_dT_apart_seen), (V.ref tA_dT_open_way_seen), (Value.ref tA_dT_open_way_seen)⟩ base := ⟨⟨_, _, _, _, _, _, _, _, rfl, l19, c19⟩, in_tabs ht19, TB (cL19, PL19) (by simp), X_BadColumn, IF_BadColumn, ib_BadColumn, xcB_ok ce_BadColumn, X_BadWeb, IF_BadWeb, ib_BadWeb, xcB_ok ce_BadWeb, X_Same, IF_Same, ib_Same, xcB_ok ce_Same, X_NothingLeft, IF_NothingLeft, ib_NothingLeft, xcB_ok ce_NothingLeft, PySem.W.mg_of X G ca_Absent, PySem.W.mg_of X G ca_LoomError, PySem.W.mg_of X G ca_NothingLeft, cx_BadColumn_NothingLeft, cx_BadWeb_NothingLeft, cx_Same_NothingLeft, cx_NothingLeft_NothingLeft, cx_BadColumn_Absent, cx_BadWeb_Absent, cx_Same_Absent, cx_NothingLeft_Absent, cx_BadColumn_LoomError, cx_BadWeb_LoomError, cx_Same_LoomError, cx_NothingLeft_LoomError, F0, PySem.W.mg_of X G a0, k0, b0, F1, PySem.W.mg_of X G a1, k1, b1, F2, PySem.W.mg_of X G a2, k2, b2, F3, PySem.W.mg_of X G a3, k3, b3, F4, PySem.W.mg_of X G a4, k4, b4, F5, PySem.W.mg_of X G a5, k5, b5, F6, PySem.W.mg_of X G a6, k6, b6, F7, PySem.W.mg_of X G a7, k7, b7, F8, PySem.W.mg_of X G a8, k8, b8, F9, PySem.W.mg_of X G a9, k9, b9, F10, PySem.W.mg_of X G a10, k10, b10, F11, kf0_11, PySem.W.mg_of X G a11, k11, F12, kf0_12, PySem.W.mg_of X G a12, k12, F13, PySem.W.mg_of X G a13, k13, b13, F14, PySem.W.mg_of X G a14, k14, b14, F15, PySem.W.mg_of X G a15, k15, b15, F16, PySem.W.mg_of X G a16, k16, b16, F17, PySem.W.mg_of X G a17, k17, b17, F18, PySem.W.mg_of X G a18, k18, b18, F19, PySem.W.mg_of X G a19, k19, b19, F20, PySem.W.mg_of X G a20, k20, b20, PySem.W.mg_none_of X G z_abs, PySem.W.mg_none_of X G z_all, PySem.W.mg_none_of X G z_any, PySem.W.mg_none_of X G z_enumerate, PySem.W.mg_none_of X G z_len, PySem.W.mg_none_of X G z_list, PySem.W.mg_none_of X G z_min, PySem.W.mg_none_of X G z_range, PySem.W.mg_none_of X G z_sorted, PySem.W.mg_none_of X G z_tuple, PySem.W.mg_of X G x_MOST_COLUMNS, ⟨_, rfl⟩, fun _ => .v _, rfl, R_dT_apart_seen, rfl, R_dT_open_way_seen⟩
  exact ok_law T l20 c20 (in_tabs ht) (TB (cL, PL) (by simp))
end My
open PySem PySem.W PyProof.Rows in
theorem PySem.Challenge.cw_tallyloom_k15_shortest_open_ways_holds : PySem.Challenge.rw_tallyloom_k15_shortest_open_ways.Holds := by
  w_on; o_law; k_head; (case hw => w_witness2)
  k_fill
  refine DV.walkT (l := PySem.Challenge.rw_tallyloom_k15_shortest_open_ways) (n := 63) (k := 11) (x := "_law_script") (F := My.F_law) rfl (by decide) rfl ⟨rfl, by decide, by decide⟩ (fun w h Y => by first | exact PySem.W.kIn_of Y | exact PySem.W.km_in_of Y) ?hrec ?F My.law_true
  case hrec => kernel_rfl
  case F =>
    intro w mg fa h KX G hmg
    refine' My.all_mk KX G hmg ?ca_BadColumn ?cb_BadColumn ?cc_BadColumn ?cd_BadColumn ?ce_BadColumn ?cl_BadColumn ?cm_BadColumn ?cn_BadColumn ?ca_BadWeb ?cb_BadWeb ?cc_BadWeb ?cd_BadWeb ?ce_BadWeb ?cl_BadWeb ?cm_BadWeb ?cn_BadWeb ?ca_Same ?cb_Same ?cc_Same ?cd_Same ?ce_Same ?cl_Same ?cm_Same ?cn_Same ?ca_NothingLeft ?cb_NothingLeft ?cc_NothingLeft ?cd_NothingLeft ?ce_NothingLeft ?cl_NothingLeft ?cm_NothingLeft ?cn_NothingLeft ?ca_Absent ?ca_LoomError ?cx_BadColumn_NothingLeft ?cx_BadWeb_NothingLeft ?cx_Same_NothingLeft ?cx_NothingLeft_NothingLeft ?cx_BadColumn_Absent ?cx_BadWeb_Absent ?cx_Same_Absent ?cx_NothingLeft_Absent ?cx_BadColumn_LoomError ?cx_BadWeb_LoomError ?cx_Same_LoomError ?cx_NothingLeft_LoomError ?a0 ?l0 ?c0 ?k0 ?a1 ?l1 ?c1 ?k1 ?a2 ?l2 ?c2 ?k2 ?a3 ?l3 ?c3 ?k3 ?a4 ?l4 ?c4 ?k4 ?a5 ?l5 ?c5 ?k5 ?a6 ?l6 ?c6 ?k6 ?a7 ?l7 ?c7 ?k7 ?a8 ?l8 ?c8 ?k8 ?a9 ?l9 ?c9 ?k9 ?a10 ?l10 ?c10 ?k10 ?a11 ?l11 ?c11 ?k11 ?a12 ?l12 ?c12 ?k12 ?a13 ?l13 ?c13 ?k13 ?a14 ?l14 ?c14 ?k14 ?a15 ?l15 ?c15 ?k15 ?a16 ?l16 ?c16 ?k16 ?a17 ?l17 ?c17 ?k17 ?a18 ?l18 ?c18 ?k18 ?a19 ?l19 ?c19 ?k19 ?a20 ?l20 ?c20 ?k20 ?z_abs ?z_all ?z_any ?z_enumerate ?z_len ?z_list ?z_min ?z_range ?z_sorted ?z_tuple ?q11_0 ?q12_0 ?y_dT_apart_seen ?y_dT_open_way_seen ?x_MOST_COLUMNS ?tc ?tp ?tn ?tc19 ?tp19 ?tn19
    (case ca_BadColumn => k_is)
    (case cb_BadColumn => kernel_rfl)
    (case cc_BadColumn => k_is)
    (case cd_BadColumn => k_is)
    (case ce_BadColumn => kernel_rfl)
    (case cl_BadColumn => k_is)
    (case cm_BadColumn => k_is)
    (case cn_BadColumn => k_is)
    (case ca_BadWeb => k_is)
    (case cb_BadWeb => kernel_rfl)
    (case cc_BadWeb => k_is)
    (case cd_BadWeb => k_is)
    (case ce_BadWeb => kernel_rfl)
    (case cl_BadWeb => k_is)
    (case cm_BadWeb => k_is)
    (case cn_BadWeb => k_is)
    (case ca_Same => k_is)
    (case cb_Same => kernel_rfl)
    (case cc_Same => k_is)
    (case cd_Same => k_is)
    (case ce_Same => kernel_rfl)
    (case cl_Same => k_is)
    (case cm_Same => k_is)
    (case cn_Same => k_is)
    (case ca_NothingLeft => k_is)
    (case cb_NothingLeft => kernel_rfl)
    (case cc_NothingLeft => k_is)
    (case cd_NothingLeft => k_is)
    (case ce_NothingLeft => kernel_rfl)
    (case cl_NothingLeft => k_is)
    (case cm_NothingLeft => k_is)
    (case cn_NothingLeft => k_is)
    (case ca_Absent => k_is)
    (case ca_LoomError => k_is)
    (case cx_BadColumn_NothingLeft => kernel_rfl)
    (case cx_BadWeb_NothingLeft => kernel_rfl)
    (case cx_Same_NothingLeft => kernel_rfl)
    (case cx_NothingLeft_NothingLeft => kernel_rfl)
    (case cx_BadColumn_Absent => kernel_rfl)
    (case cx_BadWeb_Absent => kernel_rfl)
    (case cx_Same_Absent => kernel_rfl)
    (case cx_NothingLeft_Absent => kernel_rfl)
    (case cx_BadColumn_LoomError => kernel_rfl)
    (case cx_BadWeb_LoomError => kernel_rfl)
    (case cx_Same_LoomError => kernel_rfl)
    (case cx_NothingLeft_LoomError => kernel_rfl)
    (case a0 => k_is)
    (case l0 => k_is)
    (case c0 => k_is)
    (case k0 => k_is)
    (case a1 => k_is)
    (case l1 => k_is)
    (case c1 => k_is)
    (case k1 => k_is)
    (case a2 => k_is)
    (case l2 => k_is)
    (case c2 => k_is)
    (case k2 => k_is)
    (case a3 => k_is)
    (case l3 => k_is)
    (case c3 => k_is)
    (case k3 => k_is)
    (case a4 => k_is)
    (case l4 => k_is)
    (case c4 => k_is)
    (case k4 => k_is)
    (case a5 => k_is)
    (case l5 => k_is)
    (case c5 => k_is)
    (case k5 => k_is)
    (case a6 => k_is)
    (case l6 => k_is)
    (case c6 => k_is)
    (case k6 => k_is)
    (case a7 => k_is)
    (case l7 => k_is)
    (case c7 => k_is)
    (case k7 => k_is)
    (case a8 => k_is)
    (case l8 => k_is)
    (case c8 => k_is)
    (case k8 => k_is)
    (case a9 => k_is)
    (case l9 => k_is)
    (case c9 => k_is)
    (case k9 => k_is)
    (case a10 => k_is)
    (case l10 => k_is)
    (case c10 => k_is)
    (case k10 => k_is)
    (case a11 => k_is)
    (case l11 => k_is)
    (case c11 => k_is)
    (case k11 => k_is)
    (case a12 => k_is)
    (case l12 => k_is)
    (case c12 => k_is)
    (case k12 => k_is)
    (case a13 => k_is)
    (case l13 => k_is)
    (case c13 => k_is)
    (case k13 => k_is)
    (case a14 => k_is)
    (case l14 => k_is)
    (case c14 => k_is)
    (case k14 => k_is)
    (case a15 => k_is)
    (case l15 => k_is)
    (case c15 => k_is)
    (case k15 => k_is)
    (case a16 => k_is)
    (case l16 => k_is)
    (case c16 => k_is)
    (case k16 => k_is)
    (case a17 => k_is)
    (case l17 => k_is)
    (case c17 => k_is)
    (case k17 => k_is)
    (case a18 => k_is)
    (case l18 => k_is)
    (case c18 => k_is)
    (case k18 => k_is)
    (case a19 => k_is)
    (case l19 => k_is)
    (case c19 => k_is)
    (case k19 => k_is)
    (case a20 => k_is)
    (case l20 => k_is)
    (case c20 => k_is)
    (case k20 => k_is)
    (case z_abs => k_is)
    (case z_all => k_is)
    (case z_any => k_is)
    (case z_enumerate => k_is)
    (case z_len => k_is)
    (case z_list => k_is)
    (case z_min => k_is)
    (case z_range => k_is)
    (case z_sorted => k_is)
    (case z_tuple => k_is)
    (case q11_0 => k_is)
    (case q12_0 => k_is)
    (case y_dT_apart_seen => k_is)
    (case y_dT_open_way_seen => k_is)
    (case x_MOST_COLUMNS => k_is)
    (case tc => k_is)
    (case tp => rfl)
    (case tn => kernel_rfl)
    (case tc19 => k_is)
    (case tp19 => rfl)
    (case tn19 => kernel_rfl)
