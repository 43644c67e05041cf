import PyProof.Rows.All
import HandS.Nested
import Wide.All
import OpenK.AllK
import Wide.FinOn
import HandS.ForMost
import HandS.ForExc
import HandS.Wide
import HandS.IsInst
import HandS.Lambda
import HandS.EndTab
import KE.KDictKeyed
import KE.KDictWalk
import HandS.TupAny
import HandS.Style
import HandS.TupMul
import HandS.WideBits
import HandS.Flow
import HandS.Walk
import HandS.SortInts
import HandS.Conv
import HandS.Zip
import HandS.CallSlots
import HandS.Defaults
import HandS.Ends
import KE.KExcInit
import HandS.ExcInit
import HandS.ExcField
import HandS.ExcIs
import HandS.TryMany
import HandS.SetBool
import HandS.Strs
import HandS.SetFor
import HandS.TupSets
import PyProof.EnumMake
import PyProof.EnumStmt
import PyProof.TupleIter
import PyProof.WalksMore
import HandS.DictComp
import KE.SortData
import HandS.Deep
import HandS.More
import HandS.FStr
import PyProof.DictMoreH
import KE.KUnpackStar
import KE.KDictPairs
import KE.KDictCopyH
import HandS.Remove
import KE.DataFind
import KE.KUnpack
import PyProof.WalkInts
import KE.KDictZip
import PyProof.NeKinds
import KE.KDictDisplayH
import PyProof.MinMaxWalk
import PySem.Challenge.RW_tallyloom_k37_whole_webs_counted
set_option Elab.async false
set_option linter.all false
set_option autoImplicit false
set_option maxRecDepth 100000
set_option maxHeartbeats 4000000
namespace DV
def lamNs : List PySem.Str := ["law"]
def lamAt : Nat → Nat → PySem.Str := fun _ _ => "law.<locals>.<lambda>"
end DV
namespace DV
open PySem L2
inductive D where
  | v (x : V)
  | lst (xs : List D)
  | tup (xs : List D)
  | dct (ks vs : List D)
  | dlk (ks vs : List D)
  | ins (c : Str) (ns : List Str) (vs : List D)
  | dtt (ks : List NestedKey) (vs : List D)
  | ptp (xs : List D)
  | wor (t a : D)
instance : Inhabited D := ⟨.v .non⟩
abbrev D.int (i : Int) : D := .v (.int i)
abbrev D.bl (b : Bool) : D := .v (.bl b)
abbrev D.str (s : Str) : D := .v (.str s)
abbrev D.non : D := .v .non
structure Exn where
  cls : Str
  fs : List (Str × D)
inductive Res (α : Type) where
  | ok (a : α)
  | er (x : Exn)
  | no
def Res.bind {α β : Type} : Res α → (α → Res β) → Res β
  | .ok a, f => f a
  | .er x, _ => .er x
  | .no, _ => .no
@[simp] theorem Res.bind_ok {α β : Type} (a : α) (f : α → Res β) : (Res.ok a).bind f = f a := rfl
@[simp] theorem Res.bind_er {α β : Type} (x : Exn) (f : α → Res β) : (Res.er x : Res α).bind f = .er x := rfl
@[simp] theorem Res.bind_no {α β : Type} (f : α → Res β) : (Res.no : Res α).bind f = .no := rfl
def clsV (K : PySem.W.Frag) (n : Str) : Option Value := (PySem.W.nsIn K mainGlobals n).join
mutual
def nkInt : NestedKey → Bool
  | .none => false
  | .num _ => true
  | .text _ => false
  | .tup ks => nkInts ks
def nkInts : List NestedKey → Bool
  | [] => true
  | k :: ks => nkInt k && nkInts ks
end
mutual
def nkHash : NestedKey → Int
  | .none => 0
  | .num i => hashInt i
  | .text _ => 0
  | .tup ks => reduceHash (Builtin.Tuple.tupleHashOf (nkHashes ks))
def nkHashes : List NestedKey → List Int
  | [] => []
  | k :: ks => nkHash k :: nkHashes ks
end
mutual
theorem nkHash_eq (w : World) : ∀ k : NestedKey, nkInt k = true → k.hash w = nkHash k
  | .none, h => by simp [nkInt] at h
  | .num i, _ => by rw [NestedKey.hash, nkHash]
  | .text _, h => by simp [nkInt] at h
  | .tup ks, h => by rw [NestedKey.hash, nkHash, nkHashes_eq w ks (by simpa [nkInt] using h)]
theorem nkHashes_eq (w : World) : ∀ ks : List NestedKey, nkInts ks = true → NestedKey.hashes w ks = nkHashes ks
  | [], _ => by rw [NestedKey.hashes, nkHashes]
  | k :: ks, h => by
    rw [nkInts, Bool.and_eq_true] at h
    rw [NestedKey.hashes, nkHashes, nkHash_eq w k h.1, nkHashes_eq w ks h.2]
end
def nkOk : NestedKey → Bool
  | .tup ks => nkInts ks && decide ((NestedKey.tup ks).depth ≤ 8)
  | _ => false
mutual
def nkD : NestedKey → D
  | .none => .non
  | .num i => .int i
  | .text x => .str x
  | .tup ks => .tup (nkDs ks)
def nkDs : List NestedKey → List D
  | [] => []
  | k :: ks => nkD k :: nkDs ks
end
mutual
def dNk : D → Option NestedKey
  | .v (.int i) => some (.num i)
  | .tup ds => (dNks ds).map NestedKey.tup
  | _ => none
def dNks : List D → Option (List NestedKey)
  | [] => some []
  | d :: ds => match dNk d, dNks ds with
    | some k, some ks => some (k :: ks)
    | _, _ => none
end
def DxO (a : Addr) (o : Obj) (us : List (Int × Addr × V)) : Prop :=
  us.length ≤ sizeLine ∧ (a == sysModules) = false ∧ o.ExactDict ∧ ∃ es ep, o.data = .dict es ep ∧ Paired (fun (u : Int × Addr × V) (e : DictEntry) => e.hash = u.1 ∧ e.key = .ref u.2.1 ∧ RelV u.2.2 e.val) us es.toList
def Dx (a : Addr) (o : Obj) (us : List (Int × Addr × V)) : HO := .ext fun h => h.get? a = some o ∧ DxO a o us
def unV : Value → V
  | .none => .non
  | .bool b => .bl b
  | .int i _ => .int i
  | .str x _ => .str x
  | .bytes b _ => .byt b
  | .float b _ => .flt b
  | .ref a => .ref a
  | .type n => .ty n
  | _ => .non
theorem relV_un {v : V} {u : Value} (h : RelV v u) : unV u = v := by
  cases v with
  | non => cases (show u = _ from h); rfl
  | bl b => cases (show u = _ from h); rfl
  | int i => obtain ⟨t, rfl⟩ := (show ∃ t, u = Value.int i t from h); rfl
  | str i => obtain ⟨t, rfl⟩ := (show ∃ t, u = Value.str i t from h); rfl
  | byt i => obtain ⟨t, rfl⟩ := (show ∃ t, u = Value.bytes i t from h); rfl
  | flt i => obtain ⟨t, rfl⟩ := (show ∃ t, u = Value.float i t from h); rfl
  | ref a => cases (show u = _ from h); rfl
  | ty n => cases (show u = _ from h); rfl
theorem relV_inj {v v' : V} {u : Value} (h : RelV v u) (h' : RelV v' u) : v = v' := (relV_un h).symm.trans (relV_un h')
theorem DxO.inj {a : Addr} {o : Obj} {us us' : List (Int × Addr × V)} (h : DxO a o us) (h' : DxO a o us') : us = us' := by
  obtain ⟨_, _, _, es, ep, hd, r⟩ := h
  obtain ⟨_, _, _, es', ep', hd', r'⟩ := h'
  rw [hd] at hd'
  cases hd'
  clear hd
  generalize es.toList = l at r r'
  rename_i z1 z2 z3 z4 z5 z6
  clear z1 z2 z3 z4 z5 z6
  induction r generalizing us' with
  | nil => cases r'; rfl
  | cons h t ih =>
    cases r' with
    | cons h' t' =>
      rw [ih t']
      obtain ⟨a1, a2, a3⟩ := h
      obtain ⟨b1, b2, b3⟩ := h'
      rw [a2] at b2
      have e1 := a1.symm.trans b1
      have e2 := relV_inj a3 b3
      injection b2 with e3
      congr 1
      exact Prod.ext e1 (Prod.ext e3 e2)
def oneH (a : Addr) (o : Obj) : Heap := ⟨Array.replicate (a + 1) o, {}⟩
theorem oneH_get {a : Addr} {o : Obj} {us : List (Int × Addr × V)} (w : DxO a o us) (c : Addr) : (oneH a o).get? c = if c < a + 1 then some o else none := by
  obtain ⟨_, _, _, es, ep, hd, _⟩ := w
  unfold Heap.get? oneH
  dsimp only
  rw [Array.getElem?_replicate]
  by_cases hc : c < a + 1
  · rw [if_pos hc]
    obtain ⟨c, dd, dt, sl⟩ := o
    cases dt <;> first | rfl | cases hd
  · rw [if_neg hc]
theorem oneH_at {a : Addr} {o : Obj} {us : List (Int × Addr × V)} (w : DxO a o us) : (oneH a o).get? a = some o := by rw [oneH_get w, if_pos (Nat.lt_succ_self a)]
theorem Dx.inj {a : Addr} {o o' : Obj} {us us' : List (Int × Addr × V)} (w : DxO a o us) (h : Dx a o us = Dx a o' us') : o = o' ∧ us = us' := by
  unfold Dx at h
  injection h with h
  have q := congrFun h (oneH a o)
  obtain ⟨z1, z2⟩ := q.mp ⟨oneH_at w, w⟩
  rw [oneH_at w] at z1
  cases z1
  exact ⟨rfl, w.inj z2⟩
def kD : Key → D
  | .inl i => .int i
  | .inr x => .str x
def PlT (K : PySem.W.Frag) (B : Hp) (a : Addr) (xs : List V) : Prop := (∃ o : Obj, B a = some (.frz o (.tup xs)) ∧ o.dict = none) ∨
  ∃ (o : Obj) (its : Array Value) (n : Nat), K.lookup a = some o ∧ o.cls = .type "tuple" ∧ o.data = .seq its n ∧ its.size ≤ sizeLine ∧ Vals xs its.toList ∧ o.dict = none
theorem PlT.sq {K : PySem.W.Frag} {B : Hp} {a : Addr} {xs : List V} (h : PlT K B a xs) : SqT K B a xs := by
  rcases h with ⟨o, h, _⟩ | ⟨o, its, n, h1, h2, h3, h4, h5, _⟩
  · exact .inl (.inr ⟨o, h⟩)
  · exact .inr ⟨o, its, n, h1, h2, h3, h4, h5⟩
theorem PlT.mono {K : PySem.W.Frag} {B B' : Hp} {a : Addr} {xs : List V} (e : ∀ a u, B a = some u → B' a = some u) (h : PlT K B a xs) : PlT K B' a xs := by
  rcases h with ⟨o, h, h2⟩ | h
  · exact .inl ⟨o, e _ _ h, h2⟩
  · exact .inr h
mutual
inductive Rp (K : PySem.W.Frag) (B : Hp) : V → D → Prop
  | v (x : V) : Rp K B x (.v x)
  | lst {a : Addr} {xs : List V} {ds : List D} : SqL K B a xs → RpA K B xs ds → Rp K B (.ref a) (.lst ds)
  | tup {a : Addr} {xs : List V} {ds : List D} : SqT K B a xs → RpA K B xs ds → Rp K B (.ref a) (.tup ds)
  | dct {a : Addr} {us : List (Key × V)} {ds : List D} : B a = some (.dK us) → RpA K B (us.map (·.2)) ds → Rp K B (.ref a) (.dct (us.map fun p => kD p.1) ds)
  | dcT {a : Addr} {o : Obj} {us : List (Int × Addr × V)} {ks : List NestedKey} {ds : List D} : B a = some (Dx a o us) → DxO a o us → us.map (·.1) = ks.map nkHash → ks.Nodup → (∀ k ∈ ks, nkOk k = true) → RpA K B (us.map fun u => .ref u.2.1) (nkDs ks) → RpA K B (us.map (·.2.2)) ds → Rp K B (.ref a) (.dtt ks ds)
  | ins {a C dx : Addr} {c : Str} {fs : List (Str × V)} {ds : List D} : B a = some (.ins C dx fs) → B dx = some (.own a) → clsV K c = some (.ref C) → RpA K B (fs.map (·.2)) ds → Rp K B (.ref a) (.ins c (fs.map (·.1)) ds)
  | dlk {a : Addr} {o : Obj} {us : List (Key × V)} {ds : List D} : B a = some (.frz o (.dK us)) → RpA K B (us.map (·.2)) ds → Rp K B (.ref a) (.dlk (us.map fun p => kD p.1) ds)
  | ptp {a : Addr} {xs : List V} {ds : List D} : PlT K B a xs → RpA K B xs ds → Rp K B (.ref a) (.ptp ds)
  | wor {a C dx m : Addr} {o : Obj} {tv av : V} {td ad : D} : B a = some (.frz o (.ins C dx [("counted", tv), ("ahead", av), ("told", .ref m)])) → clsV K "Worths" = some (.ref C) → Rp K B tv td → Rp K B av ad → Rp K B (.ref a) (.wor td ad)
inductive RpA (K : PySem.W.Frag) (B : Hp) : List V → List D → Prop
  | nil : RpA K B [] []
  | cons {v : V} {vs : List V} {d : D} {ds : List D} : Rp K B v d → RpA K B vs ds → RpA K B (v :: vs) (d :: ds)
end
theorem sqT_mono {K : PySem.W.Frag} {H H' : Hp} {a : Addr} {xs : List V} (e : Same H H') (h : SqT K H a xs) : SqT K H' a xs := by
  rcases h with (h | ⟨o, h⟩) | h
  · exact .inl (.inl (e _ _ h))
  · exact .inl (.inr ⟨o, e _ _ h⟩)
  · exact .inr h
section
variable {K : PySem.W.Frag} {B B' H H' : Hp}
mutual
theorem Rp.mono (e : Same B B') : ∀ {v : V} {d : D}, Rp K B v d → Rp K B' v d
  | _, _, .v x => .v x
  | _, _, .lst h r => .lst (e.seq h) (RpA.mono e r)
  | _, _, .tup h r => .tup (sqT_mono e h) (RpA.mono e r)
  | _, _, .dct h r => .dct (e _ _ h) (RpA.mono e r)
  | _, _, .dcT h h1 h2 h3 h4 r1 r => .dcT (e _ _ h) h1 h2 h3 h4 (RpA.mono e r1) (RpA.mono e r)
  | _, _, .ins h1 h2 h3 r => .ins (e _ _ h1) (e _ _ h2) h3 (RpA.mono e r)
  | _, _, .ptp h r => .ptp (h.mono e) (RpA.mono e r)
  | _, _, .dlk h r => .dlk (e _ _ h) (RpA.mono e r)
  | _, _, .wor h h2 r1 r2 => .wor (e _ _ h) h2 (Rp.mono e r1) (Rp.mono e r2)
theorem RpA.mono (e : Same B B') : ∀ {vs : List V} {ds : List D}, RpA K B vs ds → RpA K B' vs ds
  | _, _, .nil => .nil
  | _, _, .cons h r => .cons (Rp.mono e h) (RpA.mono e r)
end
theorem RpA.length : ∀ {vs : List V} {ds : List D}, RpA K B vs ds → vs.length = ds.length
  | _, _, .nil => rfl
  | _, _, .cons _ r => by simp [RpA.length r]
theorem RpA.append : ∀ {vs us : List V} {ds es : List D}, RpA K B vs ds → RpA K B us es → RpA K B (vs ++ us) (ds ++ es)
  | _, _, _, _, .nil, s => s
  | _, _, _, _, .cons h r, s => .cons h (RpA.append r s)
theorem RpA.get : ∀ {vs : List V} {ds : List D} {i : Nat} {d : D}, RpA K B vs ds → ds[i]? = some d → ∃ v, vs[i]? = some v ∧ Rp K B v d
  | _, _, _, _, .nil, e => by simp at e
  | _, _, 0, _, .cons h _, e => by simp at e; subst e; exact ⟨_, rfl, h⟩
  | _, _, i + 1, _, .cons _ r, e => by
    obtain ⟨v, h1, h2⟩ := RpA.get (i := i) r (by simpa using e)
    exact ⟨v, by simpa using h1, h2⟩
theorem RpA.get' : ∀ {vs : List V} {ds : List D} {i : Nat} {v : V}, RpA K B vs ds → vs[i]? = some v → ∃ d, ds[i]? = some d ∧ Rp K B v d
  | _, _, _, _, .nil, e => by simp at e
  | _, _, 0, _, .cons h _, e => by simp at e; subst e; exact ⟨_, rfl, h⟩
  | _, _, i + 1, _, .cons _ r, e => by
    obtain ⟨v, h1, h2⟩ := RpA.get' (i := i) r (by simpa using e)
    exact ⟨v, by simpa using h1, h2⟩
theorem RpA.drop : ∀ {vs : List V} {ds : List D} (n : Nat), RpA K B vs ds → RpA K B (vs.drop n) (ds.drop n)
  | _, _, 0, r => by simpa using r
  | _, _, _ + 1, .nil => by simpa using RpA.nil
  | _, _, n + 1, .cons _ r => by simpa using RpA.drop n r
theorem RpA.take : ∀ {vs : List V} {ds : List D} (n : Nat), RpA K B vs ds → RpA K B (vs.take n) (ds.take n)
  | _, _, 0, _ => by simpa using RpA.nil
  | _, _, _ + 1, .nil => by simpa using RpA.nil
  | _, _, n + 1, .cons h r => by simpa using RpA.cons h (RpA.take n r)
theorem RpA.reverse : ∀ {vs : List V} {ds : List D}, RpA K B vs ds → RpA K B vs.reverse ds.reverse
  | _, _, .nil => .nil
  | _, _, .cons h r => by
    rw [List.reverse_cons, List.reverse_cons]
    exact (RpA.reverse r).append (.cons h .nil)
theorem RpA.set : ∀ {vs : List V} {ds : List D} {v : V} {d : D} (i : Nat), RpA K B vs ds → Rp K B v d → RpA K B (vs.set i v) (ds.set i d)
  | _, _, _, _, _, .nil, _ => .nil
  | _, _, _, _, 0, .cons _ r, q => .cons q r
  | _, _, _, _, i + 1, .cons h r, q => .cons h (RpA.set i r q)
theorem RpA.map {α : Type} (f : α → V) (g : α → D) : ∀ {l : List α}, (∀ a ∈ l, Rp K B (f a) (g a)) → RpA K B (l.map f) (l.map g)
  | [], _ => .nil
  | a :: l, h => .cons (h a (by simp)) (RpA.map f g fun b hb => h b (by simp [hb]))
theorem RpA.ints (ns : List Int) : RpA K B (ns.map V.int) (ns.map D.int) := RpA.map _ _ fun a _ => .v _
theorem RpA.ints_of : ∀ {ns : List Int} {vs : List V}, RpA K B vs (ns.map D.int) → vs = ns.map V.int
  | [], _, .nil => rfl
  | n :: ns, _, .cons h r => by
    cases h
    rw [RpA.ints_of r]
    rfl
theorem RpA.bls_of : ∀ {bs : List Bool} {vs : List V}, RpA K B vs (bs.map D.bl) → vs = bs.map V.bl
  | [], _, .nil => rfl
  | n :: ns, _, .cons h r => by
    cases h
    rw [RpA.bls_of r]
    rfl
def tabsOf (K : PySem.W.Frag) : List Addr := lamNs.filterMap fun n => (PySem.W.tabIn K n).map (·.2)
abbrev MX (a : Addr) (o : Obj) (us : List (Int × Addr × V)) : HO := .ext fun h => DxO a o us → ∃ o', h.get? a = some o' ∧ DxO a o' us
def Std (o : HO) : Prop := (∀ ps, o ≠ .tbl ps) ∧ ∀ b c u, o ≠ MX b c u
def Pln (o : HO) : Prop := Std o ∧ ∀ b C dx fs, o ≠ .frz b (.ins C dx fs)
def NoT (B : Hp) : Prop := ∀ a o, B a = some o → Std o
def TK (u : HO) : Prop := (∃ xs, u = .tup xs) ∨ ∃ o xs, u = .frz o (.tup xs)
def kR (r : List Int) : NestedKey := .tup (r.map .num)
namespace Fw
def prod (l : List Int) : Int := l.foldl (· * ·) 1
def rise (a : Int) (n : Nat) : Int := prod ((List.range n).map fun (i : Nat) => a + (i : Int))
def rowStep (L : List (List Int)) (s : Int) : List (List Int) := L.flatMap fun r => (List.range s.toNat).map fun (v : Nat) => r ++ [(v : Int)]
def rows (szs : List Int) : List (List Int) := szs.foldl rowStep [[]]
def proj (cs : List Int) (r : List Int) : List Int := cs.map fun c => r.getD c.toNat 0
def cnt (ps : List (List Int × Int)) (f : List Int → Bool) : Int := ((ps.filter fun p => f p.1).map (·.2)).sum
def rest (sz : List Int) (p : Nat → Bool) : Int := prod (((List.range sz.length).filter p).map fun i => sz.getD i 0)
def more (sz : List Int) (c : Nat) (L : List Int) (a : Int) : Int := a * rest sz fun i => !decide (i = c) && !decide ((i : Int) ∈ L)
def whole (sz : List Int) (L : List Int) (a : Int) : Int := a * rest sz fun i => !decide ((i : Int) ∈ L)
def vals (sz : List Int) (L : List Int) : List (List Int) := rows (L.map fun c => sz.getD c.toNat 0)
def top (sz : List Int) (ps : List (List Int × Int)) (c : Nat) (L : List Int) (a : Int) : Int :=
  prod ((vals sz L).flatMap fun v => (List.range (sz.getD c 0).toNat).map fun (u : Nat) => rise (more sz c L a) (cnt ps fun r => decide (proj L r = v) && decide (r.getD c 0 = (u : Int))).toNat)
def bot (sz : List Int) (ps : List (List Int × Int)) (L : List Int) (a : Int) : Int :=
  prod ((vals sz L).map fun v => rise (whole sz L a) (cnt ps fun r => decide (proj L r = v)).toNat)
def low (t b : Int) : D := .tup [.int (t / (Int.gcd t b : Int)), .int (b / (Int.gcd t b : Int))]
def tally (sz : List Int) (ps : List (List Int × Int)) : D := .ins "Tally" ["sizes", "known"] [.tup (sz.map D.int), .dtt (ps.map fun p => kR p.1) (ps.map fun p => D.int p.2)]
end Fw
def famR (td ad : D) (k : NestedKey) (d : D) : Prop := ∃ sz ps c L a, td = Fw.tally sz ps ∧ ad = .int a ∧ k = .tup [.num ((c : Nat) : Int), kR L] ∧ d = Fw.low (Fw.top sz ps c L a) (Fw.bot sz ps L a)
def subsN : Nat → List (List Int)
  | 0 => [[]]
  | n + 1 => subsN n ++ (subsN n).map (· ++ [(n : Int)])
def famKeys : List NestedKey := (List.range 6).flatMap fun c => (subsN 6).map fun L => .tup [.num ((c : Nat) : Int), kR L]
def NiceW (τ : D × D) : Prop := ∃ sz ps a, τ = (Fw.tally sz ps, D.int a)
structure EntOk (K : PySem.W.Frag) (B : Hp) (τ : D × D) (us : List (Int × Addr × V)) (ks : List NestedKey) (ds : List D) : Prop where
  hs : us.map (·.1) = ks.map nkHash
  nd : ks.Nodup
  ok : ∀ k ∈ ks, nkOk k = true
  rk : RpA K B (us.map fun u => .ref u.2.1) (nkDs ks)
  rv : RpA K B (us.map (·.2.2)) ds
  fr : ∀ (i : Nat) (k : NestedKey), ks[i]? = some k → ∃ d, ds[i]? = some d ∧ famR τ.1 τ.2 k d
  fk : ∀ k ∈ ks, k ∈ famKeys
structure MemAt (K : PySem.W.Frag) (τ : D × D) (B H : Hp) (x C dx : Addr) (fs : List (Str × V)) (tv av : V) (a : Addr) (ob : Obj) (us : List (Int × Addr × V)) (ks : List NestedKey) (ds : List D) : Prop where
  fs : fs = [(("counted" : Str), tv), (("ahead" : Str), av), (("told" : Str), V.ref a)]
  dx : B dx = some (.own x)
  hm : H a = some (MX a ob us)
  ox : DxO a ob us
  nc : NiceW τ
  rt : Rp K B tv τ.1
  ra : Rp K B av τ.2
  en : EntOk K B τ us ks ds
def MemOk (K : PySem.W.Frag) (τ : Addr → D × D) (B H : Hp) : Prop := ∀ x o C dx fs, B x = some (.frz o (.ins C dx fs)) → ∃ tv av a ob us ks ds, MemAt K (τ a) B H x C dx fs tv av a ob us ks ds
structure TBt (K : PySem.W.Frag) (τ : Addr → D × D) (B H : Hp) : Prop where
  nt : NoT B
  mo : MemOk K τ B H
def TB (K : PySem.W.Frag) (B H : Hp) : Prop := ∃ τ, TBt K τ B H
theorem std_lst (xs : List V) : Std (.lst xs) := ⟨fun _ z => (by cases z), fun _ _ _ z => (by cases z)⟩
def noH : Heap := ⟨#[], {}⟩
theorem dx_ne_mx {a b : Addr} {o c : Obj} {us ws : List (Int × Addr × V)} : Dx a o us ≠ MX b c ws := fun z => by
  unfold Dx at z
  injection z with z
  by_cases hd : DxO b c ws
  · have up : ∀ o', DxO b o' ws → o' = o := fun o' hd' => by
      have y := congrFun z (oneH b o')
      obtain ⟨e, w⟩ := y.mpr fun _ => ⟨o', oneH_at hd', hd'⟩
      rw [oneH_get hd'] at e
      split at e
      · exact Option.some.inj e
      · cases e
    have e1 := up c hd
    obtain ⟨d1, d2, d3, es, ep, hd4, r⟩ := hd
    have d5 : DxO b { c with data := .dict es (ep + 1) } ws := ⟨d1, d2, d3, es, ep + 1, rfl, r⟩
    have e2 := up _ d5
    rw [← e1] at e2
    have e3 := congrArg Obj.data e2
    rw [hd4] at e3
    injection e3 with _ e3
    omega
  · have y := congrFun z noH
    obtain ⟨e, _⟩ := y.mpr fun q => absurd q hd
    cases e
theorem EntOk.mono {τ : D × D} {us : List (Int × Addr × V)} {ks : List NestedKey} {ds : List D} (s : Same B B') (h : EntOk K B τ us ks ds) : EntOk K B' τ us ks ds := ⟨h.hs, h.nd, h.ok, h.rk.mono s, h.rv.mono s, h.fr, h.fk⟩
theorem MemAt.mono {τ : D × D} {x C dx : Addr} {fs : List (Str × V)} {tv av : V} {a : Addr} {ob : Obj} {us : List (Int × Addr × V)} {ks : List NestedKey} {ds : List D} (s : Same B B') (e : H' a = H a) (h : MemAt K τ B H x C dx fs tv av a ob us ks ds) : MemAt K τ B' H' x C dx fs tv av a ob us ks ds :=
  ⟨h.fs, s _ _ h.dx, e.trans h.hm, h.ox, h.nc, h.rt.mono s, h.ra.mono s, h.en.mono s⟩
theorem TBt.grow {τ : Addr → D × D} (h : TBt K τ B H) (s : Same B B') (new : ∀ a o, B' a = some o → B a = some o ∨ Pln o) (e : ∀ a o us, H a = some (MX a o us) → H' a = some (MX a o us)) : TBt K τ B' H' :=
  ⟨fun a o q => (new a o q).elim (h.nt a o) fun z => z.1, fun x o C dx fs q => by
    rcases new x _ q with q | q
    · obtain ⟨tv, av, a, ob, us, ks, ds, m⟩ := h.mo x o C dx fs q
      exact ⟨tv, av, a, ob, us, ks, ds, m.mono s ((e _ _ _ m.hm).trans m.hm.symm)⟩
    · exact absurd rfl (q.2 o C dx fs)⟩
theorem TBt.noMX {τ : Addr → D × D} (h : TBt K τ B H) (i : Same B H) {a c : Addr} {o : Obj} {us : List (Int × Addr × V)} (q : H a = some (MX c o us)) : B a = none := by
  cases e : B a with
  | none => rfl
  | some u =>
    have := i a u e
    rw [q] at this
    exact absurd (Option.some.inj this).symm ((h.nt a u e).2 _ _ _)
structure Grow (K : PySem.W.Frag) (B H B' H' : Hp) : Prop where
  b : Same B B'
  h : ∀ b o, H b = some o → Std o → H' b = some o
  i : Same B' H'
  f : ∀ a, H a ≠ none → B' a = B a
  e : ∀ a, H a ≠ none → H' a ≠ none
  t : ∀ P, NdefX.TabN H P lamAt → NdefX.TabN H' P lamAt
  n : ∀ τ, TBt K τ B H → ∃ τ', (∀ x, H x ≠ none → τ' x = τ x) ∧ TBt K τ' B' H'
theorem Grow.tb (g : Grow K B H B' H') (h : TB K B H) : TB K B' H' := by
  obtain ⟨τ, h⟩ := h
  obtain ⟨τ', _, h'⟩ := g.n τ h
  exact ⟨τ', h'⟩
theorem Grow.refl (i : Same B H) : Grow K B H B H := ⟨Same.refl _, fun _ _ h _ => h, i, fun _ _ => rfl, fun _ h => h, fun _ h => h, fun τ h => ⟨τ, fun _ _ => rfl, h⟩⟩
theorem Grow.trans {B1 H1 B2 H2 : Hp} (g : Grow K B H B1 H1) (k : Grow K B1 H1 B2 H2) : Grow K B H B2 H2 :=
  ⟨g.b.trans k.b, fun b o h n => k.h b o (g.h b o h n) n, k.i, fun a ha => by rw [k.f a (g.e a ha), g.f a ha], fun a ha => k.e a (g.e a ha), fun P h => k.t P (g.t P h), fun τ h => by
    obtain ⟨τ1, a1, h1⟩ := g.n τ h
    obtain ⟨τ2, a2, h2⟩ := k.n τ1 h1
    exact ⟨τ2, fun x hx => (a2 x (g.e x hx)).trans (a1 x hx), h2⟩⟩
theorem Grow.free (g : Grow K B H B' H') {p : Addr} (h : H' p = none) : H p = none := by
  cases q : H p with
  | none => rfl
  | some o => exact absurd h (g.e p (by rw [q]; simp))
theorem same_e (s : Same H H') : ∀ a, H a ≠ none → H' a ≠ none := fun a ha => by
  cases q : H a with
  | none => exact absurd q ha
  | some o => rw [s a o q]; simp
theorem Grow.of (b : Same B B') (s : Same H H') (i : Same B' H') (f : ∀ a, H a ≠ none → B' a = B a) (n : ∀ a o, B' a = some o → B a = some o ∨ Pln o) : Grow K B H B' H' := ⟨b, fun a o h _ => s a o h, i, f, same_e s, fun P h => h.ext s, fun τ h => ⟨τ, fun _ _ => rfl, h.grow b n fun a o us q => s _ _ q⟩⟩
theorem same_new {H : Hp} {p : Addr} {o : HO} (h : H p = none) : Same H (upd H p o) := fun a u e => by
  rw [upd_ne (ne_of_none e h)]
  exact e
theorem NoT.upd {p : Addr} {o : HO} (h : NoT B) (ho : Std o) : NoT (upd B p o) := fun a u q => by
  by_cases ha : a = p
  · subst ha; rw [upd_same] at q; cases q; exact ho
  · rw [upd_ne ha] at q; exact h a u q
theorem upd_new {p : Addr} {o : HO} (ho : Pln o) : ∀ a u, upd B p o a = some u → B a = some u ∨ Pln u := fun a u q => by
  by_cases ha : a = p
  · subst ha; rw [upd_same] at q; cases q; exact .inr ho
  · rw [upd_ne ha] at q; exact .inl q
theorem Grow.new {p : Addr} {o : HO} (i : Same B H) (hp : H p = none) (ho : Pln o := by exact ⟨⟨fun _ z => (by cases z), fun _ _ _ z => (by cases z)⟩, fun _ _ _ _ z => (by cases z)⟩) : Grow K B H (upd B p o) (upd H p o) :=
  Grow.of (same_new (i.free hp)) (same_new hp) (fun a u e => by
    by_cases ha : a = p
    · subst ha; rw [upd_same] at e; cases e; exact upd_same
    · rw [upd_ne ha] at e; rw [upd_ne ha]; exact i a u e) (fun a ha => by
    have hap : a ≠ p := fun q => ha (by rw [q]; exact hp)
    rw [upd_ne hap]) (upd_new ho)
theorem Grow.raw {p : Addr} {o : HO} (i : Same B H) (hp : H p = none) : Grow K B H B (upd H p o) :=
  Grow.of (Same.refl _) (same_new hp) (i.trans (same_new hp)) (fun _ _ => rfl) (fun _ _ q => .inl q)
structure Kind (ho : HO) : Prop where
  tbl : ∀ ps, ho ≠ .tbl ps
  code : ∀ c q, ho ≠ LamX.CodeO c q
  frz : ∀ o u, ho ≠ .frz o u
  mx : ∀ b c u, ho ≠ MX b c u
theorem Kind.std {ho : HO} (k : Kind ho) : Std ho := ⟨k.tbl, k.mx⟩
theorem Kind.pln {ho : HO} (k : Kind ho) : Pln ho := ⟨k.std, fun b _ _ _ => k.frz b _⟩
theorem Kind.noMX {ho : HO} (k : Kind ho) {a : Addr} {o : Obj} {us : List (Int × Addr × V)} : ho ≠ MX a o us := k.mx _ _ _
theorem kind_lst (vs : List V) : Kind (.lst vs) := ⟨fun _ z => (by cases z), fun _ _ z => (by unfold LamX.CodeO at z; cases z), fun _ _ z => (by cases z), fun _ _ _ z => (by cases z)⟩
theorem kind_tup (vs : List V) : Kind (.tup vs) := ⟨fun _ z => (by cases z), fun _ _ z => (by unfold LamX.CodeO at z; cases z), fun _ _ z => (by cases z), fun _ _ _ z => (by cases z)⟩
theorem kind_dK (us : List (Key × V)) : Kind (.dK us) := ⟨fun _ z => (by cases z), fun _ _ z => (by unfold LamX.CodeO at z; cases z), fun _ _ z => (by cases z), fun _ _ _ z => (by cases z)⟩
theorem kind_dx {a : Addr} {o : Obj} {us : List (Int × Addr × V)} (h : DxO a o us) : Kind (Dx a o us) := by
  refine ⟨fun _ z => (by cases z), fun c q z => ?_, fun _ _ z => (by cases z), fun _ _ _ => dx_ne_mx⟩
  unfold LamX.CodeO Dx at z
  injection z with z
  have y := congrFun z (oneH a o)
  obtain ⟨oc, vs, t, e1, e2, _⟩ := y.mp ⟨oneH_at h, h⟩
  rw [oneH_get h] at e1
  split at e1
  · cases e1
    obtain ⟨_, _, _, es, ep, hd, _⟩ := h
    rw [hd] at e2
    cases e2
  · cases e1
theorem kind_ins (C dx : Addr) (fs : List (Str × V)) : Kind (.ins C dx fs) := ⟨fun _ z => (by cases z), fun _ _ z => (by unfold LamX.CodeO at z; cases z), fun _ _ z => (by cases z), fun _ _ _ z => (by cases z)⟩
theorem kind_own (x : Addr) : Kind (.own x) := ⟨fun _ z => (by cases z), fun _ _ z => (by unfold LamX.CodeO at z; cases z), fun _ _ z => (by cases z), fun _ _ _ z => (by cases z)⟩
theorem tab_updG {p P : Addr} {q : Nat → Nat → Str} {ho ho' : HO} (h : NdefX.TabN H P q) (hp : H p = some ho) (k : Kind ho) : NdefX.TabN (upd H p ho') P q := by
  obtain ⟨ps, h1, h2, h3⟩ := h
  have n1 : P ≠ p := fun z => by rw [z, hp] at h1; exact k.tbl ps (Option.some.inj h1)
  refine ⟨ps, by rw [upd_ne n1]; exact h1, h2, fun pos cv hc => ?_⟩
  obtain ⟨c, e1, e2⟩ := h3 pos cv hc
  have n2 : c ≠ p := fun z => by rw [z, hp] at e2; exact k.code _ _ (Option.some.inj e2)
  exact ⟨c, e1, by rw [upd_ne n2]; exact e2⟩
theorem tab_upd {p P : Addr} {q : Nat → Nat → Str} {us vs : List V} (h : NdefX.TabN H P q) (hp : H p = some (.lst us)) : NdefX.TabN (upd H p (.lst vs)) P q := tab_updG h hp (kind_lst _)
end
inductive NK where
  | ls
  | tp
  | dc (ks : List Key)
  | dt (ks : List NestedKey)
  | ob (c : Str) (ns : List Str)
inductive T where
  | im (d : D)
  | nd (k : NK) (ts : List T)
def cell (K : PySem.W.Frag) (H : Hp) (p : Addr) (vs : List V) (fp : List Addr) : NK → Prop
  | .ls => H p = some (.lst vs) ∧ fp = [p]
  | .tp => H p = some (.tup vs) ∧ fp = [p]
  | .dc ks => ∃ us : List (Key × V), H p = some (.dK us) ∧ us.map (·.1) = ks ∧ vs = us.map (·.2) ∧ fp = [p]
  | .dt ks => ∃ (o : Obj) (us : List (Int × Addr × V)), H p = some (Dx p o us) ∧ (DxO p o us ∧ us.map (·.1) = ks.map nkHash ∧ ks.Nodup ∧ ∀ k ∈ ks, nkOk k = true) ∧ vs = us.map (·.2.2) ∧ fp = [p]
  | .ob c ns => ∃ (C dx : Addr) (fs : List (Str × V)), H p = some (.ins C dx fs) ∧ H dx = some (.own p) ∧ clsV K c = some (.ref C) ∧ fs.map (·.1) = ns ∧ vs = fs.map (·.2) ∧ fp = [p, dx]
section
variable {K : PySem.W.Frag} {H H' : Hp}
theorem cell_in {k : NK} {p : Addr} {vs : List V} {fp : List Addr} (h : cell K H p vs fp k) : p ∈ fp := by
  cases k with
  | ls => rw [h.2]; simp
  | tp => rw [h.2]; simp
  | dc ks => obtain ⟨us, _, _, _, rfl⟩ := h; simp
  | dt ks => obtain ⟨o, us, _, _, _, rfl⟩ := h; simp
  | ob c ns => obtain ⟨C, dx, fs, _, _, _, _, _, rfl⟩ := h; simp
theorem cell_kind {k : NK} {p : Addr} {vs : List V} {fp : List Addr} (h : cell K H p vs fp k) : ∀ q ∈ fp, ∃ u, H q = some u ∧ Kind u := by
  cases k with
  | ls => obtain ⟨h, rfl⟩ := h; intro q hq; rw [List.mem_singleton.mp hq]; exact ⟨_, h, kind_lst _⟩
  | tp => obtain ⟨h, rfl⟩ := h; intro q hq; rw [List.mem_singleton.mp hq]; exact ⟨_, h, kind_tup _⟩
  | dc ks => obtain ⟨us, h, _, _, rfl⟩ := h; intro q hq; rw [List.mem_singleton.mp hq]; exact ⟨_, h, kind_dK _⟩
  | dt ks => obtain ⟨o, us, h, ⟨h1, _⟩, _, rfl⟩ := h; intro q hq; rw [List.mem_singleton.mp hq]; exact ⟨_, h, kind_dx h1⟩
  | ob c ns =>
    obtain ⟨C, dx, fs, h1, h2, _, _, _, rfl⟩ := h
    intro q hq
    rcases List.mem_cons.mp hq with rfl | hq
    · exact ⟨_, h1, kind_ins _ _ _⟩
    · rw [List.mem_singleton.mp hq]; exact ⟨_, h2, kind_own _⟩
theorem cell_at {k : NK} {p : Addr} {vs : List V} {fp : List Addr} (h : cell K H p vs fp k) (e : ∀ q ∈ fp, H' q = H q) : cell K H' p vs fp k := by
  have ep := e p (cell_in h)
  cases k with
  | ls => exact ⟨ep.trans h.1, h.2⟩
  | tp => exact ⟨ep.trans h.1, h.2⟩
  | dc ks => obtain ⟨us, h, r⟩ := h; exact ⟨us, ep.trans h, r⟩
  | dt ks => obtain ⟨o, us, h, r⟩ := h; exact ⟨o, us, ep.trans h, r⟩
  | ob c ns =>
    obtain ⟨C, dx, fs, h1, h2, h3, h4, h5, h6⟩ := h
    exact ⟨C, dx, fs, ep.trans h1, (e dx (by rw [h6]; simp)).trans h2, h3, h4, h5, h6⟩
theorem cell_one {k : NK} {p : Addr} {vs vs' : List V} {fp fp' : List Addr} (h : cell K H p vs fp k) (h' : cell K H p vs' fp' k) : vs' = vs ∧ fp' = fp := by
  cases k with
  | ls =>
    have := h'.1.symm.trans h.1
    cases this
    exact ⟨rfl, h'.2.trans h.2.symm⟩
  | tp =>
    have := h'.1.symm.trans h.1
    cases this
    exact ⟨rfl, h'.2.trans h.2.symm⟩
  | dc ks =>
    obtain ⟨us, h, _, e, f⟩ := h
    obtain ⟨us', h', _, e', f'⟩ := h'
    have := h'.symm.trans h
    cases this
    exact ⟨e'.trans e.symm, f'.trans f.symm⟩
  | dt ks =>
    obtain ⟨o, us, h, ⟨w, _⟩, e, f⟩ := h
    obtain ⟨o', us', h', _, e', f'⟩ := h'
    obtain ⟨_, rfl⟩ := Dx.inj w (Option.some.inj (h.symm.trans h'))
    exact ⟨e'.trans e.symm, f'.trans f.symm⟩
  | ob c ns =>
    obtain ⟨C, dx, fs, h, _, _, _, e, f⟩ := h
    obtain ⟨C', dx', fs', h', _, _, _, e', f'⟩ := h'
    have := h'.symm.trans h
    cases this
    exact ⟨e'.trans e.symm, f'.trans f.symm⟩
end
mutual
def FT (K : PySem.W.Frag) (H : Hp) : T → V → Addr → Prop
  | .im _, _, _ => False
  | .nd k ts, v, q => ∃ p vs fp, v = .ref p ∧ cell K H p vs fp k ∧ (q ∈ fp ∨ FTA K H ts vs q)
def FTA (K : PySem.W.Frag) (H : Hp) : List T → List V → Addr → Prop
  | [], _, _ => False
  | _ :: _, [], _ => False
  | t :: ts, v :: vs, q => FT K H t v q ∨ FTA K H ts vs q
end
def KO (K : PySem.W.Frag) (B H : Hp) (p : Addr) : NK → Prop
  | .dt ks => ∃ (o : Obj) (us : List (Int × Addr × V)), H p = some (Dx p o us) ∧ RpA K B (us.map fun u => .ref u.2.1) (nkDs ks)
  | _ => True
theorem KO.mono {K : PySem.W.Frag} {B B' H H' : Hp} {p : Addr} {k : NK} (h : KO K B H p k) (sb : Same B B') (e : H' p = H p) : KO K B' H' p k := by
  cases k with
  | dt ks => obtain ⟨o, us, h1, h2⟩ := h; exact ⟨o, us, e.trans h1, h2.mono sb⟩
  | _ => trivial
structure Apt (K : PySem.W.Frag) (B H : Hp) (p : Addr) (k : NK) (F : Addr → Prop) (fp : List Addr) : Prop where
  n : ∀ q ∈ fp, ¬ F q
  k : KO K B H p k
instance {K : PySem.W.Frag} {B H : Hp} {p : Addr} {k : NK} {F : Addr → Prop} {fp : List Addr} : CoeFun (Apt K B H p k F fp) (fun _ => ∀ q ∈ fp, ¬ F q) := ⟨Apt.n⟩
mutual
def RT (K : PySem.W.Frag) (B H : Hp) : T → V → Prop
  | .im d, v => Rp K B v d
  | .nd k ts, v => ∃ p vs fp, v = .ref p ∧ cell K H p vs fp k ∧ RTA K B H ts vs ∧ Apt K B H p k (FTA K H ts vs) fp
def RTA (K : PySem.W.Frag) (B H : Hp) : List T → List V → Prop
  | [], [] => True
  | [], _ :: _ => False
  | _ :: _, [] => False
  | t :: ts, v :: vs => RT K B H t v ∧ RTA K B H ts vs ∧ ∀ q, FT K H t v q → ¬ FTA K H ts vs q
end
section
variable {K : PySem.W.Frag} {B B' H H' : Hp}
mutual
theorem RT.move : ∀ (t : T) (v : V), RT K B H t v → Same B B' → (∀ q, FT K H t v q → H' q = H q) → RT K B' H' t v ∧ ∀ q, FT K H' t v q ↔ FT K H t v q
  | .im d, v, h, sb, _ => by
    rw [RT] at h ⊢
    exact ⟨h.mono sb, fun q => by rw [FT, FT]⟩
  | .nd k ts, v, h, sb, e => by
    rw [RT] at h
    obtain ⟨p, vs, fp, rfl, hc, hr, hn⟩ := h
    have e1 : ∀ q ∈ fp, H' q = H q := fun q hq => e q (by rw [FT]; exact ⟨p, vs, fp, rfl, hc, .inl hq⟩)
    obtain ⟨r1, r2⟩ := RTA.move ts vs hr sb fun q hq => e q (by rw [FT]; exact ⟨p, vs, fp, rfl, hc, .inr hq⟩)
    have hc' := cell_at hc e1
    constructor
    · rw [RT]
      exact ⟨p, vs, fp, rfl, hc', r1, fun q hq z => hn q hq ((r2 q).mp z), hn.k.mono sb (e1 p (cell_in hc))⟩
    · intro q
      rw [FT, FT]
      constructor
      · rintro ⟨p', vs', fp', z, hc2, h⟩
        cases z
        obtain ⟨rfl, rfl⟩ := cell_one hc' hc2
        exact ⟨p, _, _, rfl, hc, h.imp id (r2 q).mp⟩
      · rintro ⟨p', vs', fp', z, hc2, h⟩
        cases z
        obtain ⟨rfl, rfl⟩ := cell_one hc hc2
        exact ⟨p, _, _, rfl, hc', h.imp id (r2 q).mpr⟩
theorem RTA.move : ∀ (ts : List T) (vs : List V), RTA K B H ts vs → Same B B' → (∀ q, FTA K H ts vs q → H' q = H q) → RTA K B' H' ts vs ∧ ∀ q, FTA K H' ts vs q ↔ FTA K H ts vs q
  | [], [], _, _, _ => ⟨by rw [RTA]; trivial, fun q => by rw [FTA, FTA]⟩
  | [], _ :: _, h, _, _ => by rw [RTA] at h; exact h.elim
  | _ :: _, [], h, _, _ => by rw [RTA] at h; exact h.elim
  | t :: ts, v :: vs, h, sb, e => by
    rw [RTA] at h
    obtain ⟨h1, h2, h3⟩ := h
    obtain ⟨a1, a2⟩ := RT.move t v h1 sb fun q hq => e q (by rw [FTA]; exact .inl hq)
    obtain ⟨b1, b2⟩ := RTA.move ts vs h2 sb fun q hq => e q (by rw [FTA]; exact .inr hq)
    constructor
    · rw [RTA]
      exact ⟨a1, b1, fun q hq z => h3 q ((a2 q).mp hq) ((b2 q).mp z)⟩
    · intro q
      rw [FTA, FTA, a2, b2]
end
mutual
theorem RT.kind : ∀ (t : T) (v : V), RT K B H t v → ∀ q, FT K H t v q → ∃ u, H q = some u ∧ Kind u
  | .im d, v, _, q, h => by rw [FT] at h; exact h.elim
  | .nd k ts, v, h, q, hq => by
    rw [RT] at h
    obtain ⟨p, vs, fp, rfl, hc, hr, _⟩ := h
    rw [FT] at hq
    obtain ⟨p', vs', fp', z, hc2, hq⟩ := hq
    cases z
    obtain ⟨rfl, rfl⟩ := cell_one hc hc2
    rcases hq with hq | hq
    · exact cell_kind hc q hq
    · exact RTA.kind ts _ hr q hq
theorem RTA.kind : ∀ (ts : List T) (vs : List V), RTA K B H ts vs → ∀ q, FTA K H ts vs q → ∃ u, H q = some u ∧ Kind u
  | [], _, _, q, h => by rw [FTA] at h; exact h.elim
  | _ :: _, [], h, _, _ => by rw [RTA] at h; exact h.elim
  | t :: ts, v :: vs, h, q, hq => by
    rw [RTA] at h
    rw [FTA] at hq
    rcases hq with hq | hq
    · exact RT.kind t v h.1 q hq
    · exact RTA.kind ts vs h.2.1 q hq
end
theorem RTA.length : ∀ {ts : List T} {vs : List V}, RTA K B H ts vs → vs.length = ts.length
  | [], [], _ => rfl
  | [], _ :: _, h => by rw [RTA] at h; exact h.elim
  | _ :: _, [], h => by rw [RTA] at h; exact h.elim
  | t :: ts, v :: vs, h => by rw [RTA] at h; simp [RTA.length h.2.1]
end
mutual
def T.d : T → D
  | .im d => d
  | .nd k ts => match k with
    | .ls => .lst (T.dA ts)
    | .tp => .tup (T.dA ts)
    | .dc ks => .dct (ks.map kD) (T.dA ts)
    | .dt ks => .dtt ks (T.dA ts)
    | .ob c ns => .ins c ns (T.dA ts)
def T.dA : List T → List D
  | [] => []
  | t :: ts => t.d :: T.dA ts
end
theorem T.dA_map : ∀ ts : List T, T.dA ts = ts.map T.d
  | [] => by rw [T.dA]; rfl
  | t :: ts => by rw [T.dA, T.dA_map ts]; rfl
section
variable {K : PySem.W.Frag} {B B' H : Hp}
mutual
theorem RT.frz : ∀ (t : T) (v : V), RT K B H t v → Same B B' → (∀ q, FT K H t v q → B' q = H q) → Rp K B' v t.d
  | .im d, v, h, sb, _ => by
    rw [RT] at h
    rw [T.d]
    exact h.mono sb
  | .nd k ts, v, h, sb, e => by
    rw [RT] at h
    obtain ⟨p, vs, fp, rfl, hc, hr, hn⟩ := h
    have r := RTA.frz ts vs hr sb fun q hq => e q (by rw [FT]; exact ⟨p, vs, fp, rfl, hc, .inr hq⟩)
    have hc' := cell_at (H' := B') hc fun q hq => e q (by rw [FT]; exact ⟨p, vs, fp, rfl, hc, .inl hq⟩)
    have hk := hn.k.mono (H' := B') sb (e p (by rw [FT]; exact ⟨p, vs, fp, rfl, hc, .inl (cell_in hc)⟩))
    cases k with
    | ls => rw [T.d]; exact .lst (SqL.of hc'.1) r
    | tp => rw [T.d]; exact .tup (.inl (.inl hc'.1)) r
    | dc ks =>
      obtain ⟨us, h1, rfl, rfl, _⟩ := hc'
      rw [T.d]
      simp only [List.map_map]
      exact .dct h1 r
    | dt ks =>
      obtain ⟨o, us, h1, ⟨h2, h3, h4, h5⟩, rfl, _⟩ := hc'
      obtain ⟨o', us', k1, k2⟩ := hk
      obtain ⟨_, rfl⟩ := Dx.inj h2 (Option.some.inj (h1.symm.trans k1))
      rw [T.d]
      exact .dcT h1 h2 h3 h4 h5 k2 r
    | ob c ns =>
      obtain ⟨C, dx, fs, h1, h2, h3, rfl, rfl, _⟩ := hc'
      rw [T.d]
      exact .ins h1 h2 h3 r
theorem RTA.frz : ∀ (ts : List T) (vs : List V), RTA K B H ts vs → Same B B' → (∀ q, FTA K H ts vs q → B' q = H q) → RpA K B' vs (T.dA ts)
  | [], [], _, _, _ => by rw [T.dA]; exact .nil
  | [], _ :: _, h, _, _ => by rw [RTA] at h; exact h.elim
  | _ :: _, [], h, _, _ => by rw [RTA] at h; exact h.elim
  | t :: ts, v :: vs, h, sb, e => by
    rw [RTA] at h
    rw [T.dA]
    exact .cons (RT.frz t v h.1 sb fun q hq => e q (by rw [FTA]; exact .inl hq)) (RTA.frz ts vs h.2.1 sb fun q hq => e q (by rw [FTA]; exact .inr hq))
end
end
inductive O where
  | im (d : D)
  | ow (ds : List D)
  | od (kvs : List (Key × D))
  | tr (m : Bool) (k : NK) (ts : List T)
def O.isOw : O → Bool
  | .im _ => false
  | _ => true
abbrev DS := List (Option O)
def Ft (K : PySem.W.Frag) (H : Hp) (v : V) (q : Addr) : O → Prop
  | .im _ => False
  | .ow _ => v = .ref q
  | .od _ => v = .ref q
  | .tr _ k ts => FT K H (.nd k ts) v q
structure Org where
  h : Hp
  sf : Option V
instance : CoeFun Org (fun _ => Addr → Option HO) := ⟨Org.h⟩
instance : Coe Org Hp := ⟨Org.h⟩
abbrev Org.of (H : Hp) : Org := ⟨H, none⟩
abbrev Org.upd (H0 : Org) (p : Addr) (o : HO) : Org := ⟨L2.upd H0.h p o, H0.sf⟩
def SR (K : PySem.W.Frag) (H0 : Org) (B H : Hp) (v : V) : O → Prop
  | .im d => Rp K B v d
  | .ow ds => ∃ p vs, v = .ref p ∧ H0 p = none ∧ B p = none ∧ H p = some (.lst vs) ∧ RpA K B vs ds
  | .od kvs => ∃ p us, v = .ref p ∧ H0 p = none ∧ B p = none ∧ H p = some (.dK us) ∧ us.map (·.1) = kvs.map (·.1) ∧ RpA K B (us.map (·.2)) (kvs.map (·.2))
  | .tr m k ts => RT K B H (.nd k ts) v ∧ (∀ q, FT K H (.nd k ts) v q → H0 q = none ∧ B q = none) ∧ (m = true → H0.sf = some v)
structure Rel (K : PySem.W.Frag) (B0 : Hp) (H0 : Org) (B H : Hp) (σ : L2.St) (δ : DS) : Prop where
  g : Grow K B0 H0.h B H
  tk : ∀ p ∈ tabsOf K, NdefX.TabN H0.h p lamAt
  nt : TB K B0 H0.h
  len : σ.length = δ.length
  sl : ∀ (i : Nat) (o : O), δ[i]? = some (some o) → ∃ v, σ[i]? = some (some v) ∧ SR K H0 B H v o
  sep : ∀ (i j : Nat) (o o' : O) (v v' : V), i ≠ j → δ[i]? = some (some o) → δ[j]? = some (some o') → σ[i]? = some (some v) → σ[j]? = some (some v') → ∀ q, Ft K H v q o → ¬ Ft K H v' q o'
section
variable {K : PySem.W.Frag} {B0 : Hp} {H0 : Org} {B H B' H' : Hp} {σ : L2.St} {δ : DS}
theorem SR.new {v : V} {o : O} (h : SR K H0 B H v o) : ∀ q, Ft K H v q o → H0 q = none ∧ B q = none ∧ ∃ u, H q = some u ∧ Kind u := by
  cases o with
  | im d => intro q z; exact z.elim
  | ow ds => obtain ⟨p, vs, rfl, h0, hb, hh, _⟩ := h; intro q z; cases z; exact ⟨h0, hb, _, hh, kind_lst _⟩
  | od kvs => obtain ⟨p, us, rfl, h0, hb, hh, _⟩ := h; intro q z; cases z; exact ⟨h0, hb, _, hh, kind_dK _⟩
  | tr m k ts => intro q z; exact ⟨(h.2.1 q z).1, (h.2.1 q z).2, RT.kind _ _ h.1 q z⟩
theorem SR.root {v : V} {o : O} (ho : o.isOw = true) (h : SR K H0 B H v o) : ∃ p, v = .ref p ∧ Ft K H v p o := by
  cases o with
  | im d => cases ho
  | ow ds => obtain ⟨p, vs, rfl, h0, hb, hh, _⟩ := h; exact ⟨p, rfl, rfl⟩
  | od kvs => obtain ⟨p, us, rfl, h0, hb, hh, _⟩ := h; exact ⟨p, rfl, rfl⟩
  | tr m k ts =>
    have h1 := h.1
    rw [RT] at h1
    obtain ⟨p, vs, fp, rfl, hc, _⟩ := h1
    exact ⟨p, rfl, by show FT K H (.nd k ts) _ p; rw [FT]; exact ⟨p, vs, fp, rfl, hc, .inl (cell_in hc)⟩⟩
theorem SR.own {v : V} {o : O} (ho : o.isOw = true) (h : SR K H0 B H v o) : ∃ p u, v = .ref p ∧ H0 p = none ∧ B p = none ∧ H p = some u ∧ Kind u := by
  obtain ⟨p, hv, hf⟩ := SR.root ho h
  obtain ⟨h0, hb, u, hh, k⟩ := h.new p hf
  exact ⟨p, u, hv, h0, hb, hh, k⟩
theorem SR.move {v : V} {o : O} (h : SR K H0 B H v o) (sb : Same B B') (e : ∀ q, Ft K H v q o → B' q = none ∧ H' q = H q) : SR K H0 B' H' v o ∧ ∀ q, Ft K H' v q o ↔ Ft K H v q o := by
  cases o with
  | im d => exact ⟨Rp.mono sb h, fun _ => Iff.rfl⟩
  | ow ds =>
    obtain ⟨p, vs, rfl, h0, _, h1, r⟩ := h
    obtain ⟨hb, hh⟩ := e p rfl
    exact ⟨⟨_, vs, rfl, h0, hb, hh.trans h1, RpA.mono sb r⟩, fun _ => Iff.rfl⟩
  | od kvs =>
    obtain ⟨p, us, rfl, h0, _, h1, k, r⟩ := h
    obtain ⟨hb, hh⟩ := e p rfl
    exact ⟨⟨_, us, rfl, h0, hb, hh.trans h1, k, RpA.mono sb r⟩, fun _ => Iff.rfl⟩
  | tr m k ts =>
    obtain ⟨m1, m2⟩ := RT.move (.nd k ts) v h.1 sb fun q hq => (e q hq).2
    exact ⟨⟨m1, fun q hq => ⟨(h.2.1 q ((m2 q).mp hq)).1, (e q ((m2 q).mp hq)).1⟩, h.2.2⟩, m2⟩
theorem SR.grow {v : V} {o : O} (g : Grow K B H B' H') (h : SR K H0 B H v o) : SR K H0 B' H' v o ∧ ∀ q, Ft K H' v q o ↔ Ft K H v q o :=
  h.move g.b fun q hq => by
    obtain ⟨_, hb, u, hh, k⟩ := h.new q hq
    exact ⟨by rw [g.f q (by rw [hh]; simp)]; exact hb, by rw [hh]; exact g.h _ _ hh k.std⟩
theorem SR.mono {v : V} {o : O} (g : Grow K B H B' H') (h : SR K H0 B H v o) : SR K H0 B' H' v o := (h.grow g).1
theorem Rel.own (r : Rel K B0 H0 B H σ δ) : ∀ (i j : Nat) (o o' : O) (v : V), i ≠ j → δ[i]? = some (some o) → δ[j]? = some (some o') → o.isOw = true → o'.isOw = true → σ[i]? = some (some v) → σ[j]? ≠ some (some v) := fun i j o o' v hij e1 e2 o1 o2 e3 e4 => by
  obtain ⟨v1, a1, a2⟩ := r.sl i o e1
  obtain ⟨v2, b1, b2⟩ := r.sl j o' e2
  rw [e3] at a1
  cases a1
  rw [e4] at b1
  cases b1
  obtain ⟨p, hp, f1⟩ := SR.root o1 a2
  obtain ⟨p', hp', f2⟩ := SR.root o2 b2
  rw [hp] at hp'
  cases hp'
  exact r.sep i j o o' v v hij e1 e2 e3 e4 p f1 f2
theorem Rel.seps (r : Rel K B0 H0 B H σ δ) (h : ∀ (i : Nat) (o : O) (v : V), δ[i]? = some (some o) → σ[i]? = some (some v) → ∀ q, Ft K H' v q o → Ft K H v q o) :
    ∀ (i j : Nat) (o o' : O) (v v' : V), i ≠ j → δ[i]? = some (some o) → δ[j]? = some (some o') → σ[i]? = some (some v) → σ[j]? = some (some v') → ∀ q, Ft K H' v q o → ¬ Ft K H' v' q o' :=
  fun i j o o' v v' hij e1 e2 e3 e4 q f1 f2 => r.sep i j o o' v v' hij e1 e2 e3 e4 q (h i o v e1 e3 q f1) (h j o' v' e2 e4 q f2)
theorem Rel.mono (r : Rel K B0 H0 B H σ δ) (g : Grow K B H B' H') : Rel K B0 H0 B' H' σ δ :=
  ⟨r.g.trans g, r.tk, r.nt, r.len, fun i o e => by
    obtain ⟨v, h1, h2⟩ := r.sl i o e
    exact ⟨v, h1, h2.mono g⟩, r.seps fun i o v e1 e2 q hq => by
    obtain ⟨v', h1, h2⟩ := r.sl i o e1
    rw [e2] at h1
    cases h1
    exact ((h2.grow g).2 q).mp hq⟩
theorem Rel.get {i : Nat} {d : D} (r : Rel K B0 H0 B H σ δ) (e : δ[i]? = some (some (.im d))) : ∃ v, σ[i]? = some (some v) ∧ Rp K B v d := r.sl i _ e
theorem Rel.lt {i : Nat} {o : O} (e : δ[i]? = some (some o)) : i < δ.length := by
  by_cases hl : i < δ.length
  · exact hl
  · rw [List.getElem?_eq_none (by simpa using hl)] at e; cases e
theorem set_own {i m : Nat} {z : Option O} {o : O} (q : (δ.set i z)[m]? = some (some o)) : (i = m ∧ i < δ.length ∧ z = some o) ∨ (i ≠ m ∧ δ[m]? = some (some o)) := by
  by_cases hm : i = m
  · subst hm
    by_cases hl : i < δ.length
    · rw [List.getElem?_set_self hl] at q; exact .inl ⟨rfl, hl, Option.some.inj q⟩
    · rw [List.getElem?_eq_none (by simpa using hl)] at q; cases q
  · rw [List.getElem?_set_ne hm] at q
    exact .inr ⟨hm, q⟩
theorem Rel.sepSet {H' : Hp} {i : Nat} {v : V} {z : Option O} (r : Rel K B0 H0 B H σ δ) (hl : i < δ.length → i < σ.length)
    (old : ∀ (j : Nat) (o : O) (w : V), j ≠ i → δ[j]? = some (some o) → σ[j]? = some (some w) → ∀ q, Ft K H' w q o → Ft K H w q o)
    (new : ∀ o, z = some o → ∀ (j : Nat) (o' : O) (w : V), j ≠ i → δ[j]? = some (some o') → σ[j]? = some (some w) → ∀ q, Ft K H' v q o → ¬ Ft K H w q o') :
    ∀ (a b : Nat) (o o' : O) (w w' : V), a ≠ b → (δ.set i z)[a]? = some (some o) → (δ.set i z)[b]? = some (some o') → (σ.set i (some v))[a]? = some (some w) → (σ.set i (some v))[b]? = some (some w') → ∀ q, Ft K H' w q o → ¬ Ft K H' w' q o' := by
  intro a b o o' w w' hab e1 e2 e3 e4 q f1 f2
  rcases set_own e1 with ⟨rfl, hi, z1⟩ | ⟨n1, e1⟩
  · rw [List.getElem?_set_self (hl hi)] at e3
    cases e3
    rcases set_own e2 with ⟨rfl, _, _⟩ | ⟨n2, e2⟩
    · exact hab rfl
    · rw [List.getElem?_set_ne n2] at e4
      exact new o z1 b o' w' (Ne.symm n2) e2 e4 q f1 (old b o' w' (Ne.symm n2) e2 e4 q f2)
  · rw [List.getElem?_set_ne n1] at e3
    rcases set_own e2 with ⟨rfl, hi, z2⟩ | ⟨n2, e2⟩
    · rw [List.getElem?_set_self (hl hi)] at e4
      cases e4
      exact new o' z2 a o w (Ne.symm n1) e1 e3 q f2 (old a o w (Ne.symm n1) e1 e3 q f1)
    · rw [List.getElem?_set_ne n2] at e4
      exact r.sep a b o o' w w' hab e1 e2 e3 e4 q (old a o w (Ne.symm n1) e1 e3 q f1) (old b o' w' (Ne.symm n2) e2 e4 q f2)
theorem Rel.set {v : V} {d : D} (r : Rel K B0 H0 B H σ δ) (i : Nat) (h : Rp K B v d) : Rel K B0 H0 B H (σ.set i (some v)) (δ.set i (some (.im d))) := by
  refine ⟨r.g, r.tk, r.nt, by simp [r.len], fun j o e => ?_, r.sepSet (fun hi => by rw [r.len]; exact hi) (fun _ _ _ _ _ _ _ h => h) fun o z j o' w _ _ _ q f => by cases z; exact f.elim⟩
  rcases set_own e with ⟨rfl, hl, z⟩ | ⟨hj, e⟩
  · cases z
    exact ⟨v, by rw [List.getElem?_set_self (by rw [r.len]; exact hl)], h⟩
  · rw [List.getElem?_set_ne hj]
    exact r.sl j o e
theorem Rel.drop {v : Option V} (r : Rel K B0 H0 B H σ δ) (i : Nat) : Rel K B0 H0 B H (σ.set i v) (δ.set i none) := by
  refine ⟨r.g, r.tk, r.nt, by simp [r.len], fun j o e => ?_, fun a b o o' w w' hab e1 e2 e3 e4 => ?_⟩
  · rcases set_own e with ⟨_, _, z⟩ | ⟨hj, e⟩
    · cases z
    · rw [List.getElem?_set_ne hj]
      exact r.sl j o e
  · rcases set_own e1 with ⟨_, _, z⟩ | ⟨n1, e1⟩
    · cases z
    rcases set_own e2 with ⟨_, _, z⟩ | ⟨n2, e2⟩
    · cases z
    rw [List.getElem?_set_ne n1] at e3
    rw [List.getElem?_set_ne n2] at e4
    exact r.sep a b o o' w w' hab e1 e2 e3 e4
theorem Rel.setO {v : V} {o : O} (r : Rel K B0 H0 B H σ δ) (i : Nat) (h : SR K H0 B H v o) (fr : ∀ (j : Nat) (o' : O) (w : V), j ≠ i → δ[j]? = some (some o') → σ[j]? = some (some w) → ∀ q, Ft K H v q o → ¬ Ft K H w q o') :
    Rel K B0 H0 B H (σ.set i (some v)) (δ.set i (some o)) := by
  refine ⟨r.g, r.tk, r.nt, by simp [r.len], fun j o' e => ?_, r.sepSet (fun hi => by rw [r.len]; exact hi) (fun _ _ _ _ _ _ _ h => h) fun o1 z => by cases z; exact fr⟩
  rcases set_own e with ⟨rfl, hl, z⟩ | ⟨hj, e⟩
  · cases z
    exact ⟨_, by rw [List.getElem?_set_self (by rw [r.len]; exact hl)], h⟩
  · rw [List.getElem?_set_ne hj]
    exact r.sl j o' e
theorem Rel.fresh' {q : Addr} (r : Rel K B0 H0 B H σ δ) (hp : H q = none) : ∀ (j : Nat) (o' : O) (w : V), δ[j]? = some (some o') → σ[j]? = some (some w) → ¬ Ft K H w q o' := fun j o' w e e' z => by
  obtain ⟨v, h1, h2⟩ := r.sl j o' e
  rw [e'] at h1
  cases h1
  obtain ⟨_, _, u, hh, _⟩ := h2.new q z
  rw [hp] at hh
  cases hh
theorem Rel.free' {q : Addr} (r : Rel K B0 H0 B H σ δ) (g : Grow K B H B' H') (hp : H q = none) : ∀ (j : Nat) (o' : O) (w : V), δ[j]? = some (some o') → σ[j]? = some (some w) → ¬ Ft K H' w q o' := fun j o' w e e' z => by
  obtain ⟨v, h1, h2⟩ := r.sl j o' e
  rw [e'] at h1
  cases h1
  exact r.fresh' hp j o' w e e' (((h2.grow g).2 q).mp z)
theorem Rel.setG {p : Addr} {o : O} (r : Rel K B0 H0 B H σ δ) (i : Nat) (h : SR K H0 B H (.ref p) o) (fr : ∀ (j : Nat) (o' : O) (w : V), δ[j]? = some (some o') → σ[j]? = some (some w) → ¬ Ft K H w p o') (small : ∀ q, Ft K H (.ref p) q o → q = p := by intro q z; cases z; rfl) :
    Rel K B0 H0 B H (σ.set i (some (.ref p))) (δ.set i (some o)) := r.setO i h fun j o' w _ e e' q f => by rw [small q f]; exact fr j o' w e e'
theorem Rel.setOw {p : Addr} {vs : List V} {ds : List D} (r : Rel K B0 H0 B H σ δ) (i : Nat) (h0 : H0 p = none) (hb : B p = none) (hh : H p = some (.lst vs)) (q : RpA K B vs ds) (fr : ∀ (j : Nat) (o' : O) (w : V), δ[j]? = some (some o') → σ[j]? = some (some w) → ¬ Ft K H w p o') :
    Rel K B0 H0 B H (σ.set i (some (.ref p))) (δ.set i (some (.ow ds))) := r.setG i ⟨p, vs, rfl, h0, hb, hh, q⟩ fr
theorem Rel.chgK {i : Nat} {o : O} {z : Option O} {v v' : V} (r : Rel K B0 H0 B H σ δ) (e : δ[i]? = some (some o)) (es : σ[i]? = some (some v)) (g : Grow K B0 H0.h B' H') (sb : Same B B')
    (same : ∀ q u, ¬ Ft K H v q o → H q = some u → Kind u → H' q = H q ∧ B' q = B q) (new : ∀ o', z = some o' → SR K H0 B' H' v' o' ∧ ∀ q, Ft K H' v' q o' → Ft K H v q o ∨ H q = none) :
    Rel K B0 H0 B' H' (σ.set i (some v')) (δ.set i z) := by
  have hl := Rel.lt e
  have stay : ∀ (j : Nat) (oj : O) (w : V), j ≠ i → δ[j]? = some (some oj) → σ[j]? = some (some w) → SR K H0 B' H' w oj ∧ ∀ q, Ft K H' w q oj ↔ Ft K H w q oj := fun j oj w hj ej ew => by
    obtain ⟨w', h1, h2⟩ := r.sl j oj ej
    rw [ew] at h1
    cases h1
    refine h2.move sb fun q hq => ?_
    obtain ⟨_, hb, u, hh, kd⟩ := h2.new q hq
    obtain ⟨s1, s2⟩ := same q u (fun z => r.sep i j o oj v w (Ne.symm hj) e ej es ew q z hq) hh kd
    exact ⟨s2.trans hb, s1⟩
  refine ⟨g, r.tk, r.nt, by simp [r.len], fun j oj ej => ?_, r.sepSet (fun hi => by rw [r.len]; exact hi) (fun j oj w hj ej ew q hq => ((stay j oj w hj ej ew).2 q).mp hq) fun o' ho j oj w hj ej ew q hq hq' => ?_⟩
  · rcases set_own ej with ⟨rfl, _, ho⟩ | ⟨hj, ej⟩
    · exact ⟨v', by rw [List.getElem?_set_self (by rw [r.len]; exact hl)], (new oj ho).1⟩
    · obtain ⟨w, h1, _⟩ := r.sl j oj ej
      rw [List.getElem?_set_ne hj]
      exact ⟨w, h1, (stay j oj w (Ne.symm hj) ej h1).1⟩
  · rcases (new o' ho).2 q hq with h | h
    · exact r.sep i j o oj v w (Ne.symm hj) e ej es ew q h hq'
    · exact r.fresh' h j oj w ej ew hq'
theorem Rel.chg {i : Nat} {o : O} {z : Option O} {v v' : V} (r : Rel K B0 H0 B H σ δ) (e : δ[i]? = some (some o)) (es : σ[i]? = some (some v)) (g : Grow K B0 H0.h B' H') (sb : Same B B')
    (same : ∀ q, ¬ Ft K H v q o → H q ≠ none → H' q = H q ∧ B' q = B q) (new : ∀ o', z = some o' → SR K H0 B' H' v' o' ∧ ∀ q, Ft K H' v' q o' → Ft K H v q o ∨ H q = none) :
    Rel K B0 H0 B' H' (σ.set i (some v')) (δ.set i z) := r.chgK e es g sb (fun q u h1 h2 _ => same q h1 (by rw [h2]; simp)) new
theorem set_same {i : Nat} {v : V} (e : σ[i]? = some (some v)) : σ.set i (some v) = σ := by
  refine List.ext_getElem? fun j => ?_
  by_cases hj : i = j
  · subst hj
    have hl : i < σ.length := by
      by_cases hl : i < σ.length
      · exact hl
      · rw [List.getElem?_eq_none (by simpa using hl)] at e; cases e
    rw [List.getElem?_set_self hl, e]
  · rw [List.getElem?_set_ne hj]
theorem Grow.poke {p : Addr} {ho u : HO} {H0 : Hp} (g : Grow K B0 H0 B H) (h0 : H0 p = none) (hb : B p = none) (hh : H p = some u) (kd : Kind u) : Grow K B0 H0 B (upd H p ho) := by
  have nb : ∀ a o, B a = some o → a ≠ p := fun a o q z => by rw [z, hb] at q; cases q
  refine ⟨g.b, fun a o q nq => ?_, fun a o q => ?_, g.f, fun a ha => ?_, fun P hP => tab_updG (g.t P hP) hh kd, fun τ h => ?_⟩
  rotate_left 3
  · obtain ⟨τ', e, h'⟩ := g.n τ h
    refine ⟨τ', e, h'.grow (Same.refl _) (fun _ _ q => .inl q) fun a o us q => ?_⟩
    have : a ≠ p := fun z => by rw [z, hh] at q; exact kd.noMX (Option.some.inj q)
    rw [upd_ne this]
    exact q
  · have : a ≠ p := fun z => by rw [z, h0] at q; cases q
    rw [upd_ne this]
    exact g.h a o q nq
  · rw [upd_ne (nb a o q)]
    exact g.i a o q
  · have : a ≠ p := fun z => ha (by rw [z]; exact h0)
    rw [upd_ne this]
    exact g.e a ha
theorem Grow.fzp {p : Addr} {ho u : HO} {H0 : Hp} (g : Grow K B0 H0 B H) (h0 : H0 p = none) (hb : B p = none) (hh : H p = some u) (kd : Kind u) (nt : Pln ho) : Grow K B0 H0 (upd B p ho) (upd H p ho) := by
  refine ⟨g.b.trans (same_new hb), fun a o q nq => ?_, fun a o q => ?_, fun a ha => ?_, fun a ha => ?_, fun P hP => tab_updG (g.t P hP) hh kd, fun τ h => ?_⟩
  rotate_left 4
  · obtain ⟨τ', e, h'⟩ := g.n τ h
    refine ⟨τ', e, h'.grow (same_new hb) (upd_new nt) fun a o us q => ?_⟩
    have : a ≠ p := fun z => by rw [z, hh] at q; exact kd.noMX (Option.some.inj q)
    rw [upd_ne this]
    exact q
  · have : a ≠ p := fun z => by rw [z, h0] at q; cases q
    rw [upd_ne this]
    exact g.h a o q nq
  · by_cases hap : a = p
    · subst hap; rw [upd_same] at q ⊢; exact q
    · rw [upd_ne hap] at q ⊢; exact g.i a o q
  · have : a ≠ p := fun z => ha (by rw [z]; exact h0)
    rw [upd_ne this]
    exact g.f a ha
  · have : a ≠ p := fun z => ha (by rw [z]; exact h0)
    rw [upd_ne this]
    exact g.e a ha
theorem Rel.writeG {p : Addr} {o o' : O} {ho : HO} {i : Nat} (r : Rel K B0 H0 B H σ δ) (e : δ[i]? = some (some o)) (ow : o.isOw = true) (es_ : σ[i]? = some (some (.ref p))) (new : B p = none → H0 p = none → SR K H0 B (upd H p ho) (.ref p) o') (small : ∀ q, Ft K (upd H p ho) (.ref p) q o' → q = p := by intro q z; cases z; rfl) :
    Rel K B0 H0 B (upd H p ho) σ (δ.set i (some o')) := by
  obtain ⟨v, h1, hsr⟩ := r.sl i _ e
  rw [es_] at h1
  cases h1
  obtain ⟨p', hv, hf⟩ := SR.root ow hsr
  cases hv
  obtain ⟨h0, hb, u, hh, kd⟩ := hsr.new p hf
  have := r.chg (z := some o') (v' := .ref p) e es_ (r.g.poke h0 hb hh kd) (Same.refl _) (fun q hq _ => ⟨upd_ne fun z => hq (z ▸ hf), rfl⟩) fun o2 z => by
    cases z
    exact ⟨new hb h0, fun q hq => .inl (by rw [small q hq]; exact hf)⟩
  rw [set_same es_] at this
  exact this
theorem Rel.write {p : Addr} {us vs : List V} {ds es : List D} {i : Nat} (r : Rel K B0 H0 B H σ δ) (e : δ[i]? = some (some (.ow ds))) (es_ : σ[i]? = some (some (.ref p))) (q : RpA K B vs es) :
    Rel K B0 H0 B (upd H p (.lst vs)) σ (δ.set i (some (.ow es))) := r.writeG e rfl es_ fun hb h0 => ⟨p, vs, rfl, h0, hb, upd_same, q⟩
theorem Rel.freezeG {o : O} {d : D} {i : Nat} {p : Addr} {ho : HO} {H2 : Hp} (r : Rel K B0 H0 B H σ δ) (e : δ[i]? = some (some o)) (ow : o.isOw = true) (es_ : σ[i]? = some (some (.ref p))) (hH : H2 = upd H p ho) (nt : Pln ho)
    (hd : Rp K (upd B p ho) (.ref p) d) : Same B (upd B p ho) ∧ Rel K B0 H0 (upd B p ho) H2 σ (δ.set i (some (.im d))) := by
  obtain ⟨v, h1, hsr⟩ := r.sl i _ e
  rw [es_] at h1
  cases h1
  obtain ⟨p', hv, hf⟩ := SR.root ow hsr
  cases hv
  obtain ⟨h0, hb, u, hh, kd⟩ := hsr.new p hf
  subst hH
  have sb : Same B (upd B p ho) := same_new hb
  refine ⟨sb, ?_⟩
  have := r.chg (z := some (.im d)) (v' := .ref p) e es_ (r.g.fzp h0 hb hh kd nt) sb (fun q hq _ => ⟨upd_ne fun z => hq (z ▸ hf), upd_ne fun z => hq (z ▸ hf)⟩) fun o2 z => by
    cases z
    exact ⟨hd, fun q hq => hq.elim⟩
  rw [set_same es_] at this
  exact this
theorem upd_self {H : Hp} {p : Addr} {o : HO} (h : H p = some o) : upd H p o = H := by
  funext a
  by_cases ha : a = p
  · subst ha; rw [upd_same, h]
  · rw [upd_ne ha]
theorem Rel.freeze {ds : List D} {i : Nat} (r : Rel K B0 H0 B H σ δ) (e : δ[i]? = some (some (.ow ds))) : ∃ B', Same B B' ∧ Rel K B0 H0 B' H σ (δ.set i (some (.im (.lst ds)))) := by
  obtain ⟨v, h1, p, vs, rfl, h0, hb, hh, q⟩ := r.sl i _ e
  obtain ⟨sb, r'⟩ := r.freezeG (ho := .lst vs) (d := .lst ds) e rfl h1 (upd_self hh).symm (kind_lst _).pln (.lst (SqL.of upd_same) (RpA.mono (same_new hb) q))
  exact ⟨_, sb, r'⟩
open Classical in
noncomputable def fzH (B H : Hp) (F : Addr → Prop) : Hp := fun a => if F a then H a else B a
theorem fzH_same {F : Addr → Prop} (hF : ∀ q, F q → B q = none) : Same B (fzH B H F) := fun a o q => by
  have : ¬ F a := fun z => by rw [hF a z] at q; cases q
  unfold fzH
  rw [if_neg this]
  exact q
theorem Grow.fzF {F : Addr → Prop} {H0 : Hp} (g : Grow K B0 H0 B H) (hF : ∀ q, F q → H0 q = none ∧ B q = none ∧ ∃ u, H q = some u ∧ Kind u) : Grow K B0 H0 (fzH B H F) H := by
  refine ⟨g.b.trans (fzH_same fun q hq => (hF q hq).2.1), g.h, fun a o q => ?_, fun a ha => ?_, g.e, g.t, fun τ h => ?_⟩
  · unfold fzH at q
    split at q
    · exact q
    · exact g.i a o q
  · have : ¬ F a := fun z => ha (hF a z).1
    unfold fzH
    rw [if_neg this]
    exact g.f a ha
  · obtain ⟨τ', e, h'⟩ := g.n τ h
    refine ⟨τ', e, h'.grow (fzH_same fun q hq => (hF q hq).2.1) (fun a o q => ?_) fun a o us q => q⟩
    unfold fzH at q
    split at q
    · rename_i hf
      obtain ⟨_, _, u, hu, k⟩ := hF a hf
      rw [hu] at q
      cases q
      exact .inr k.pln
    · exact .inl q
theorem Rel.freezeT {m : Bool} {k : NK} {ts : List T} {i : Nat} {v : V} (r : Rel K B0 H0 B H σ δ) (e : δ[i]? = some (some (.tr m k ts))) (es : σ[i]? = some (some v)) : Same B (fzH B H (FT K H (.nd k ts) v)) ∧ Rel K B0 H0 (fzH B H (FT K H (.nd k ts) v)) H σ (δ.set i (some (.im (T.nd k ts).d))) := by
  obtain ⟨v', h1, hsr⟩ := r.sl i _ e
  rw [es] at h1
  cases h1
  have hF := hsr.new
  have sb := fzH_same (B := B) (H := H) (F := FT K H (.nd k ts) v) fun q hq => (hF q hq).2.1
  refine ⟨sb, ?_⟩
  have := r.chg (z := some (.im (T.nd k ts).d)) (v' := v) e es (r.g.fzF (F := FT K H (.nd k ts) v) hF) sb (fun q hq _ => ⟨rfl, by unfold fzH; exact if_neg hq⟩) fun o2 z => by
    cases z
    refine ⟨RT.frz _ _ hsr.1 sb fun q hq => ?_, fun q hq => hq.elim⟩
    unfold fzH
    rw [if_pos hq]
  rw [set_same es] at this
  exact this
end
def RpX (K : PySem.W.Frag) (B : Hp) (c : Value) (dx : Option Addr) (x : Exn) : Prop :=
  clsV K x.cls = some c ∧ ∃ d us, dx = some d ∧ B d = some (.xd us) ∧ us.map (·.1) = x.fs.map (·.1) ∧ RpA K B (us.map (·.2)) (x.fs.map (·.2))
section
variable (K : PySem.W.Frag)
def PostE (B H : Hp) (σ : L2.St) (W : WX) (Q : VK) : Res D → Prop
  | .ok d => ∀ v B' H', Grow K B H B' H' → Rp K B' v d → Q v H'
  | .er x => ∀ c dx B' H', Grow K B H B' H' → RpX K B' c dx x → W c dx σ H'
  | .no => False
def PostT (B H : Hp) (σ : L2.St) (W : WX) (Q : Bool → Hp → Prop) : Res Bool → Prop
  | .ok b => ∀ B' H', Grow K B H B' H' → Q b H'
  | .er x => ∀ c dx B' H', Grow K B H B' H' → RpX K B' c dx x → W c dx σ H'
  | .no => False
def PostA (B H : Hp) (σ : L2.St) (W : WX) (Q : List V → Hp → Prop) : Res (List D) → Prop
  | .ok ds => ∀ vs B' H', Grow K B H B' H' → RpA K B' vs ds → Q vs H'
  | .er x => ∀ c dx B' H', Grow K B H B' H' → RpX K B' c dx x → W c dx σ H'
  | .no => False
def PostF (B H : Hp) (σ : L2.St) (W : WX) (Q : VK) : Res (List D) → Prop
  | .ok ds => ∀ p vs B' H', Grow K B H B' H' → H p = none → B' p = none → H' p = some (.lst vs) → RpA K B' vs ds → Q (.ref p) H'
  | .er x => ∀ c dx B' H', Grow K B H B' H' → RpX K B' c dx x → W c dx σ H'
  | .no => False
def SE (W : WX) (t : TE) (f : DS → Res D) : Prop := ∀ B0 H0 δ σ B H (Q : VK), Rel K B0 H0 B H σ δ → PostE K B H σ W Q (f δ) → t σ H Q
def ST (W : WX) (t : TT) (f : DS → Res Bool) : Prop := ∀ B0 H0 δ σ B H (Q : Bool → Hp → Prop), Rel K B0 H0 B H σ δ → PostT K B H σ W Q (f δ) → t σ H Q
def SA (W : WX) (t : TA) (f : DS → Res (List D)) : Prop := ∀ B0 H0 δ σ B H (Q : List V → Hp → Prop), Rel K B0 H0 B H σ δ → PostA K B H σ W Q (f δ) → t σ H Q
def SF (W : WX) (t : TE) (f : DS → Res (List D)) : Prop := ∀ B0 H0 δ σ B H (Q : VK), Rel K B0 H0 B H σ δ → PostF K B H σ W Q (f δ) → t σ H Q
end
inductive Fl where
  | nx (δ : DS)
  | rt (d : D)
  | rf (ds : List D)
  | rn (t : T)
  | ro (d : D) (δ : DS)
  | bk (δ : DS)
  | ct (δ : DS)
  | rs (x : Exn) (δ : DS)
  | no
def PostS (K : PySem.W.Frag) (B0 : Hp) (H0 : Org) (B : Hp) (W : WX) (E : Ends) : Fl → Prop
  | .nx δ => ∀ σ B' H', Same B B' → Rel K B0 H0 B' H' σ δ → E.nx σ H'
  | .bk δ => ∀ σ B' H', Same B B' → Rel K B0 H0 B' H' σ δ → E.bk σ H'
  | .ct δ => ∀ σ B' H', Same B B' → Rel K B0 H0 B' H' σ δ → E.ct σ H'
  | .rt d => ∀ v B' H', Same B B' → Grow K B0 H0.h B' H' → Rp K B' v d → E.rt v H'
  | .ro d δ => ∀ v σ B' H', Same B B' → Rel K B0 H0 B' H' σ δ → Rp K B' v d → E.rt v H'
  | .rf ds => ∀ p xs B' H', Same B B' → Grow K B0 H0.h B' H' → H0.h p = none → B' p = none → H' p = some (.lst xs) → RpA K B' xs ds → E.rt (.ref p) H'
  | .rn t => ∀ v B' H', Same B B' → Grow K B0 H0.h B' H' → RT K B' H' t v → (∀ q, FT K H' t v q → H0.h q = none ∧ B' q = none) → E.rt v H'
  | .rs x δ => ∀ c dx σ B' H', Same B B' → Rel K B0 H0 B' H' σ δ → RpX K B' c dx x → W c dx σ H'
  | .no => False
def SS (K : PySem.W.Frag) (W : WX) (t : TS) (g : DS → Fl) : Prop := ∀ B0 H0 δ σ B H (E : Ends), Rel K B0 H0 B H σ δ → PostS K B0 H0 B W E (g δ) → t E σ H
structure CE (X : Cx) (W : WX) (e : Expr) (t : TE) (f : DS → Res D) : Prop where
  pe : PE X e t
  se : SE X.K W t f
structure CF (X : Cx) (W : WX) (e : Expr) (t : TE) (f : DS → Res (List D)) : Prop where
  pe : PE X e t
  sf : SF X.K W t f
structure CT (X : Cx) (W : WX) (e : Expr) (t : TT) (f : DS → Res Bool) : Prop where
  pt : PT X e t
  st : ST X.K W t f
structure CW (X : Cx) (W : WX) (e : Expr) (t : TT) (f : DS → Res Bool) : Prop where
  pw : PW X e t
  st : ST X.K W t f
structure CA (X : Cx) (W : WX) (es : List Expr) (t : TA) (f : DS → Res (List D)) : Prop where
  pa : PA X es t
  sa : SA X.K W t f
structure CS (X : Cx) (W : WX) (s : Stmt) (t : TS) (g : DS → Fl) : Prop where
  ps : PS X s t
  ss : SS X.K W t g
structure CSs (X : Cx) (W : WX) (s : List Stmt) (t : TS) (g : DS → Fl) : Prop where
  ps : PSs X s t
  ss : SS X.K W t g
theorem CW.ct {X : Cx} {W : WX} {e : Expr} {t : TT} {f : DS → Res Bool} (h : CW X W e t f) : CT X W e t f := ⟨h.pw.pt, h.st⟩
end DV
namespace DV
open PySem L2
mutual
def D.pu : D → Bool
  | .v _ => true
  | .tup xs => D.puA xs
  | _ => false
def D.puA : List D → Bool
  | [] => true
  | d :: ds => d.pu && D.puA ds
end
mutual
theorem pu_nkD : ∀ k : NestedKey, (nkD k).pu = true
  | .none => by rw [nkD, D.pu]
  | .num _ => by rw [nkD, D.pu]
  | .text _ => by rw [nkD, D.pu]
  | .tup ks => by rw [nkD, D.pu]; exact pu_nkDs ks
theorem pu_nkDs : ∀ ks : List NestedKey, D.puA (nkDs ks) = true
  | [] => by rw [nkDs, D.puA]
  | k :: ks => by rw [nkDs, D.puA, pu_nkD k, pu_nkDs ks]; rfl
end
theorem puA_of : ∀ {ds : List D}, (∀ (i : Nat) (d : D), ds[i]? = some d → d.pu = true) → D.puA ds = true
  | [], _ => by rw [D.puA]
  | d :: ds, h => by
    rw [D.puA, h 0 d (by simp), puA_of fun i e he => h (i + 1) e (by simpa using he)]
    rfl
section
variable {K : PySem.W.Frag} {B B' H H' : Hp}
mutual
theorem Rp.pure (e : ∀ a u, TK u → B a = some u → B' a = some u) : ∀ {v : V} {d : D}, Rp K B v d → d.pu = true → Rp K B' v d
  | _, _, .v x, _ => .v x
  | _, _, .lst _ _, hd => by rw [D.pu] at hd; cases hd; all_goals (intros; rename_i z; cases z)
  | _, _, .tup h r, hd => by
    rw [D.pu] at hd
    refine .tup ?_ (RpA.pure e r hd)
    rcases h with (h | ⟨o, h⟩) | h
    · exact .inl (.inl (e _ _ (.inl ⟨_, rfl⟩) h))
    · exact .inl (.inr ⟨o, e _ _ (.inr ⟨_, _, rfl⟩) h⟩)
    · exact .inr h
  | _, _, .dct _ _, hd => by rw [D.pu] at hd; cases hd; all_goals (intros; rename_i z; cases z)
  | _, _, .dcT _ _ _ _ _ _ _, hd => by rw [D.pu] at hd; cases hd; all_goals (intros; rename_i z; cases z)
  | _, _, .ins _ _ _ _, hd => by rw [D.pu] at hd; cases hd; all_goals (intros; rename_i z; cases z)
  | _, _, .ptp _ _, hd => by rw [D.pu] at hd; cases hd; all_goals (intros; rename_i z; cases z)
  | _, _, .dlk _ _, hd => by rw [D.pu] at hd; cases hd; all_goals (intros; rename_i z; cases z)
  | _, _, .wor _ _ _ _, hd => by rw [D.pu] at hd; cases hd; all_goals (intros; rename_i z; cases z)
theorem RpA.pure (e : ∀ a u, TK u → B a = some u → B' a = some u) : ∀ {vs : List V} {ds : List D}, RpA K B vs ds → D.puA ds = true → RpA K B' vs ds
  | _, _, .nil, _ => .nil
  | _, _, .cons h r, hd => by
    rw [D.puA, Bool.and_eq_true] at hd
    exact .cons (Rp.pure e h hd.1) (RpA.pure e r hd.2)
end
theorem EntOk.pu {τ : D × D} {us : List (Int × Addr × V)} {ks : List NestedKey} {ds : List D} (h : EntOk K B τ us ks ds) : D.puA ds = true := puA_of fun i d hd => by
  have hl : ks.length = ds.length := by
    have h1 := congrArg List.length h.hs
    have h2 := h.rv.length
    simp only [List.length_map] at h1 h2
    omega
  have hi : i < ks.length := by rw [hl]; exact (List.getElem?_eq_some_iff.mp hd).1
  obtain ⟨d', h1, _, _, _, _, _, _, _, _, rfl⟩ := h.fr i ks[i] (List.getElem?_eq_getElem hi)
  rw [hd] at h1
  cases h1
  rfl
theorem EntOk.pure {τ : D × D} {us : List (Int × Addr × V)} {ks : List NestedKey} {ds : List D} (e : ∀ a u, TK u → B a = some u → B' a = some u) (h : EntOk K B τ us ks ds) : EntOk K B' τ us ks ds := ⟨h.hs, h.nd, h.ok, h.rk.pure e (pu_nkDs ks), h.rv.pure e h.pu, h.fr, h.fk⟩
def dropW : Option HO → Option HO
  | some (.frz _ (.ins _ _ _)) => none
  | x => x
theorem dropW_some {x : Option HO} {u : HO} (h : dropW x = some u) : x = some u ∧ ∀ b C dx fs, u ≠ .frz b (.ins C dx fs) := by
  unfold dropW at h
  split at h
  · cases h
  · rename_i hn
    exact ⟨h, fun b C dx fs z => hn b C dx fs (by rw [h, z])⟩
theorem dropW_keep {u : HO} (h : ∀ b C dx fs, u ≠ .frz b (.ins C dx fs)) : dropW (some u) = some u := by
  unfold dropW
  split
  · rename_i e; cases e; exact absurd rfl (h _ _ _ _)
  · rfl
theorem TK.noW {u : HO} (h : TK u) : ∀ b C dx fs, u ≠ .frz b (.ins C dx fs) := fun b C dx fs z => by
  rcases h with ⟨_, rfl⟩ | ⟨_, _, rfl⟩ <;> cases z
theorem TBt.unlend {τ τ2 : Addr → D × D} {B2 H2 B3 H3 : Hp} (h : TBt K τ B H) (h2 : TBt K τ2 B2 H2) (e2 : ∀ x, H x ≠ none → τ2 x = τ x) (i : Same B H) (s2 : Same B B2) (s3 : Same B B3) (nt : NoT B3) (old : ∀ x o C dx fs, B3 x = some (.frz o (.ins C dx fs)) → B x = some (.frz o (.ins C dx fs)))
    (keep : ∀ a u, TK u → B2 a = some u → B3 a = some u) (hx : ∀ a o us, H2 a = some (MX a o us) → H3 a = some (MX a o us)) : TBt K τ2 B3 H3 := ⟨nt, fun x o C dx fs q => by
  have q0 := old x o C dx fs q
  obtain ⟨tv, av, a, ob, us, ks, ds, m⟩ := h.mo x o C dx fs q0
  obtain ⟨tv2, av2, a2, ob2, us2, ks2, ds2, m2⟩ := h2.mo x o C dx fs (s2 _ _ q0)
  have ef := m.fs.symm.trans m2.fs
  simp only [List.cons.injEq, Prod.mk.injEq, true_and, V.ref.injEq, and_true] at ef
  obtain ⟨rfl, rfl, rfl⟩ := ef
  have et : τ2 a = τ a := e2 a (by rw [m.hm]; simp)
  exact ⟨tv, av, a, ob2, us2, ks2, ds2, m2.fs, s3 _ _ m.dx, hx _ _ _ m2.hm, m2.ox, m2.nc, by rw [et]; exact m.rt.mono s3, by rw [et]; exact m.ra.mono s3, m2.en.pure keep⟩⟩
open Classical in
noncomputable def unB (B H B2 : Hp) : Hp := fun a => if H a = none then dropW (B2 a) else B a
theorem Grow.unlendT {B2 H2 : Hp} (i : Same B H) (nB : NoT B) (sb : Same B B') (new : ∀ a u, B' a = some u → B a = some u ∨ (H a = some u ∧ Kind u ∧ ¬ TK u)) (g : Grow K B' H B2 H2) :
    Grow K B H (unB B H B2) H2 ∧ (∀ a u, TK u → B2 a = some u → unB B H B2 a = some u) ∧ ∀ a u, (∀ b C dx fs, u ≠ .frz b (.ins C dx fs)) → (B' a = some u → B a = some u) → B2 a = some u → unB B H B2 a = some u := by
  have s3 : Same B (unB B H B2) := fun a o q => by
    unfold unB
    rw [if_neg (by rw [i a o q]; simp)]
    exact q
  have keep : ∀ a u, (∀ b C dx fs, u ≠ .frz b (.ins C dx fs)) → (B' a = some u → B a = some u) → B2 a = some u → unB B H B2 a = some u := fun a u hu hb q => by
    unfold unB
    by_cases ha : H a = none
    · rw [if_pos ha, q, dropW_keep hu]
    · rw [if_neg ha]
      rw [g.f a ha] at q
      exact hb q
  have keepT : ∀ a u, TK u → B2 a = some u → unB B H B2 a = some u := fun a u hu q => keep a u hu.noW (fun z => (new a u z).elim id fun z => absurd hu z.2.2) q
  refine ⟨⟨s3, g.h, fun a o q => ?_, fun a ha => ?_, g.e, g.t, fun τ h => ?_⟩, keepT, keep⟩
  · unfold unB at q
    split at q
    · exact g.i a o (dropW_some q).1
    · exact g.h a o (i a o q) (nB a o q)
  · unfold unB
    rw [if_neg ha]
  · have h' : TBt K τ B' H := h.grow sb (fun a o q => (new a o q).imp id fun z => z.2.1.pln) fun _ _ _ q => q
    obtain ⟨τ2, e2, h2⟩ := g.n τ h'
    refine ⟨τ2, e2, h.unlend h2 e2 i (sb.trans g.b) s3 (fun a o q => ?_) (fun x o C dx fs q => ?_) keepT fun _ _ _ q => q⟩
    · unfold unB at q
      split at q
      · exact h2.nt a o (dropW_some q).1
      · exact nB a o q
    · unfold unB at q
      split at q
      · exact absurd rfl ((dropW_some q).2 o C dx fs)
      · exact q
theorem TB.nt (h : TB K B H) : NoT B := h.elim fun _ h => h.nt
theorem TBt.poke {τ : Addr → D × D} {p : Addr} {u ho : HO} (h : TBt K τ B H) (hh : H p = some u) (nu : ∀ b c w, u ≠ MX b c w) : TBt K τ B (upd H p ho) := h.grow (Same.refl _) (fun _ _ q => .inl q) fun a o us q => by
  have : a ≠ p := fun z => by rw [z, hh] at q; exact nu _ _ _ (Option.some.inj q)
  rw [upd_ne this]
  exact q
theorem Grow.nu {p : Addr} {o : HO} (g : Grow K B H B' H') (hb : B' p = none) (po : Pln o) : ∀ τ, TBt K τ B H → ∃ τ', (∀ x, H x ≠ none → τ' x = τ x) ∧ TBt K τ' (upd B' p o) H' := fun τ h => by
  obtain ⟨τ', e, h'⟩ := g.n τ h
  exact ⟨τ', e, h'.grow (same_new hb) (upd_new po) fun _ _ _ q => q⟩
theorem Grow.np {p : Addr} {ho u : HO} (g : Grow K B H B' H') (hh : H' p = some u) (nu : ∀ b c w, u ≠ MX b c w) : ∀ τ, TBt K τ B H → ∃ τ', (∀ x, H x ≠ none → τ' x = τ x) ∧ TBt K τ' B' (upd H' p ho) := fun τ h => by
  obtain ⟨τ', e, h'⟩ := g.n τ h
  exact ⟨τ', e, h'.poke hh nu⟩
end
end DV
namespace DV
open PySem L2
section
variable {X : Cx} {W : WX} {K : PySem.W.Frag} {B H B0 : Hp} {H0 : Org} {σ : L2.St} {δ : DS} {Q : VK}
theorem postE_mono {B1 H1 : Hp} {Q : VK} {r : Res D} (g : Grow K B H B1 H1) (h : PostE K B H σ W Q r) : PostE K B1 H1 σ W Q r := by
  cases r with
  | ok d => exact fun v B' H' g' rp => h v B' H' (g.trans g') rp
  | er x => exact fun c dx B' H' g' rp => h c dx B' H' (g.trans g') rp
  | no => exact h
def cVar (i : Nat) : DS → Res D := fun δ => match δ[i]? with
  | some (some (.im d)) => .ok d
  | _ => .no
theorem se_var (i : Nat) : SE K W (tVar i) (cVar i) := fun B0 H0 δ σ B H Q r h => by
  unfold cVar at h
  cases e : δ[i]? with
  | none => rw [e] at h; exact h.elim
  | some o =>
    cases o with
    | none => rw [e] at h; exact h.elim
    | some o =>
      cases o with
      | ow ds => rw [e] at h; exact h.elim
      | od ds => rw [e] at h; exact h.elim
      | tr _ _ _ => rw [e] at h; exact h.elim
      | im d =>
        rw [e] at h
        obtain ⟨v, h1, h2⟩ := r.get e
        exact ⟨v, h1, h v B H (Grow.refl r.g.i) h2⟩
theorem ce_var (i : Nat) {x : Str} {pos : Pos} (hN : X.N[i]? = some x := by rfl) (hv : Vis X.env.scope x := by first | exact Or.inl rfl | exact Or.inr (Or.inl rfl) | exact Or.inr (Or.inr rfl)) (hd : (x == ("__debug__" : Str)) = false := by decide)
    (hcd : (x == ("__classdict__" : Str)) = false := by decide) : CE X W (.Name x pos) (tVar i) (cVar i) := ⟨pe_var hN hv hd hcd, se_var i⟩
def cC (d : D) : DS → Res D := fun _ => .ok d
theorem se_c (v : V) : SE K W (tC v) (cC (.v v)) := fun B0 H0 δ σ B H Q r h => h v B H (Grow.refl r.g.i) (.v v)
theorem ce_int {i : Int} {j pos} : CE X W (.Constant (.int i) j pos) (tC (.int i)) (cC (.int i)) := ⟨pe_int, se_c _⟩
theorem ce_bl {b : Bool} {j pos} : CE X W (.Constant (.bool b) j pos) (tC (.bl b)) (cC (.bl b)) := ⟨pe_bl, se_c _⟩
theorem ce_non {j pos} : CE X W (.Constant .none j pos) (tC .non) (cC .non) := ⟨pe_non, se_c _⟩
theorem ce_str {x : Str} {j pos} : CE X W (.Constant (.str x) j pos) (tC (.str x)) (cC (.str x)) := ⟨pe_str, se_c _⟩
theorem ce_glob {x : Str} {v : V} {u : Value} {d : D} {pos : Pos} (hg : Gl X x) (hm : X.mg x = some u) (r : RelV v u) (hk : ∀ B, Rp X.K B v d) (hd : (x == ("__debug__" : Str)) = false := by decide) : CE X W (.Name x pos) (tC v) (cC d) :=
  ⟨pe_glob hg hm r hd, fun B0 H0 δ σ B H Q r h => h v B H (Grow.refl r.g.i) (hk B)⟩
theorem ce_bltn {x : Str} {v : V} {u : Value} {pos : Pos} (hg : Gl X x) (hm : X.mg x = none) (hv : bootBuiltins x = some u) (r : RelV v u) (hn : x ≠ "__name__" := by decide) (hd : (x == ("__debug__" : Str)) = false := by decide) : CE X W (.Name x pos) (tC v) (cC (.v v)) :=
  ⟨pe_bltn hg hm hv r hn hd, se_c _⟩
def PostV (K : PySem.W.Frag) (B H : Hp) (Q : VK) : Res D → Prop
  | .ok d => ∀ v B' H', Grow K B H B' H' → Rp K B' v d → Q v H'
  | _ => False
def RO (K : PySem.W.Frag) (r : R2) (g : D → D → Res D) : Prop := ∀ x y d e B H Q, Same B H → Rp K B x d → Rp K B y e → PostV K B H Q (g d e) → r x y H Q
def RU (K : PySem.W.Frag) (r : V → Hp → VK → Prop) (g : D → Res D) : Prop := ∀ x d B H Q, Same B H → Rp K B x d → PostV K B H Q (g d) → r x H Q
def cBin (g : D → D → Res D) (fa fb : DS → Res D) : DS → Res D := fun δ => (fa δ).bind fun x => (fb δ).bind fun y => g x y
def cUn (g : D → Res D) (fa : DS → Res D) : DS → Res D := fun δ => (fa δ).bind g
def Calm2 (g : D → D → Res D) : Prop := ∀ d e x, g d e ≠ .er x
theorem postV_of {r : Res D} (h : PostE K B H σ W Q r) (hc : ∀ x, r ≠ .er x) : PostV K B H Q r := by
  cases r with
  | ok d => exact h
  | er x => exact absurd rfl (hc x)
  | no => exact h
theorem se_op {ta tb : TE} {fa fb : DS → Res D} {r : R2} {g : D → D → Res D} (ho : RO K r g) (hc : Calm2 g) (ha : SE K W ta fa) (hb : SE K W tb fb) : SE K W (tOp r ta tb) (cBin g fa fb) := fun B0 H0 δ σ B H Q rel h => by
  unfold cBin at h
  refine ha B0 H0 δ σ B H _ rel ?_
  cases e : fa δ with
  | no => rw [e] at h; exact h
  | er x => rw [e] at h; exact h
  | ok d =>
    rw [e, Res.bind_ok] at h
    intro v B1 H1 g1 r1
    refine hb B0 H0 δ σ B1 H1 _ (rel.mono g1) ?_
    cases e2 : fb δ with
    | no => rw [e2] at h; exact h
    | er x => rw [e2] at h; exact fun c dx B' H' g' rp => h c dx B' H' (g1.trans g') rp
    | ok d2 =>
      rw [e2, Res.bind_ok] at h
      intro u B2 H2 g2 r2
      exact ho v u d d2 B2 H2 Q g2.i (Rp.mono g2.b r1) r2 (postV_of (postE_mono (g1.trans g2) h) (hc d d2))
theorem ce_op {a b : Expr} {op : Operator} {pos : Pos} {ta tb : TE} {fa fb : DS → Res D} {r : R2} {g : D → D → Res D} (ho : OpR X (binaryOp op) r) (hr : RO X.K r g) (hc : Calm2 g) (ha : CE X W a ta fa) (hb : CE X W b tb fb) : CE X W (.BinOp a op b pos) (tOp r ta tb) (cBin g fa fb) :=
  ⟨pe_op ho ha.pe hb.pe, se_op hr hc ha.se hb.se⟩
theorem ce_cmp {a b : Expr} {op : CmpOp} {pos : Pos} {ta tb : TE} {fa fb : DS → Res D} {r : R2} {g : D → D → Res D} (ho : OpR X (compareOp op) r) (hr : RO X.K r g) (hc : Calm2 g) (ha : CE X W a ta fa) (hb : CE X W b tb fb) (hm : behindInMarks op b = false) : CE X W (.Compare a [op] [b] pos) (tOp r ta tb) (cBin g fa fb) :=
  ⟨pe_cmpR ho ha.pe hb.pe hm, se_op hr hc ha.se hb.se⟩
theorem se_un {ta : TE} {fa : DS → Res D} {r : V → Hp → VK → Prop} {g : D → Res D} (ho : RU K r g) (hc : ∀ d x, g d ≠ .er x) (ha : SE K W ta fa) : SE K W (tUn r ta) (cUn g fa) := fun B0 H0 δ σ B H Q rel h => by
  unfold cUn at h
  refine ha B0 H0 δ σ B H _ rel ?_
  cases e : fa δ with
  | no => rw [e] at h; exact h
  | er x => rw [e] at h; exact h
  | ok d =>
    rw [e, Res.bind_ok] at h
    intro v B1 H1 g1 r1
    exact ho v d B1 H1 Q g1.i r1 (postV_of (postE_mono g1 h) (hc d))
theorem ce_un {a : Expr} {op : UnaryOp} {pos : Pos} {ta : TE} {fa : DS → Res D} {r : V → Hp → VK → Prop} {g : D → Res D} (ho : UnR X (unaryOp op) r) (hr : RU X.K r g) (hc : ∀ d x, g d ≠ .er x) (ha : CE X W a ta fa) : CE X W (.UnaryOp op a pos) (tUn r ta) (cUn g fa) :=
  ⟨pe_un ho ha.pe, se_un hr hc ha.se⟩
end
section
variable {X : Cx} {W : WX} {K : PySem.W.Frag}
theorem ro_I {C : Int → Int → Prop} {gv : Int → Int → V} {g : D → D → Res D} (hg : ∀ d e z, g d e = .ok z → ∃ i j, d = .int i ∧ e = .int j ∧ C i j ∧ z = .v (gv i j)) : RO K (rI C gv) g := fun x y d e B H Q i rx ry h => by
  cases q : g d e with
  | ok z =>
    rw [q] at h
    obtain ⟨i', j, rfl, rfl, hc, rfl⟩ := hg d e z q
    cases rx
    cases ry
    exact ⟨i', j, rfl, rfl, hc, h _ B H (Grow.refl i) (.v _)⟩
  | er x => rw [q] at h; exact h.elim
  | no => rw [q] at h; exact h.elim
theorem ro_I0 {gv : Int → Int → V} {g : D → D → Res D} (hg : ∀ d e z, g d e = .ok z → ∃ i j, d = .int i ∧ e = .int j ∧ z = .v (gv i j)) : RO K (rI0 gv) g := fun x y d e B H Q i rx ry h => by
  cases q : g d e with
  | ok z =>
    rw [q] at h
    obtain ⟨i', j, rfl, rfl, rfl⟩ := hg d e z q
    cases rx
    cases ry
    exact ⟨i', j, rfl, rfl, h _ B H (Grow.refl i) (.v _)⟩
  | er x => rw [q] at h; exact h.elim
  | no => rw [q] at h; exact h.elim
def oSub : D → D → Res D
  | .v (.int i), .v (.int j) => .ok (.int (i - j))
  | _, _ => .no
def oMod : D → D → Res D
  | .v (.int i), .v (.int j) => if j ≠ 0 then .ok (.int (i.fmod j)) else .no
  | _, _ => .no
def oFdiv : D → D → Res D
  | .v (.int i), .v (.int j) => if j ≠ 0 ∧ j.natAbs.log2 < 9000 then .ok (.int (i.fdiv j)) else .no
  | _, _ => .no
def oPow : D → D → Res D
  | .v (.int i), .v (.int j) => if 0 ≤ j ∧ j.natAbs ≤ 1000000 ∧ i.natAbs < 18446744073709551616 then .ok (.int (i ^ j.toNat)) else .no
  | _, _ => .no
def oAdd : D → D → Res D
  | .v (.int i), .v (.int j) => .ok (.int (i + j))
  | .v (.str i), .v (.str j) => if i.length + j.length ≤ sizeLine then .ok (.str (i ++ j)) else .no
  | .lst a, .lst b => if a.length + b.length ≤ sizeLine then .ok (.lst (a ++ b)) else .no
  | .tup a, .tup b => if a.length + b.length ≤ sizeLine then .ok (.tup (a ++ b)) else .no
  | _, _ => .no
def oMul : D → D → Res D
  | .v (.int i), .v (.int j) => if i.natAbs.log2 + j.natAbs.log2 < 1000000 then .ok (.int (i * j)) else .no
  | .lst a, .v (.int k) => if -(2 ^ 63) ≤ k ∧ k < 2 ^ 63 ∧ a.length * k.toNat ≤ sizeLine then .ok (.lst (List.replicate k.toNat a).flatten) else .no
  | .tup a, .v (.int k) => if a ≠ [] ∧ 2 ≤ k ∧ k ≤ 1000 ∧ a.length ≤ 1000 then .ok (.tup (List.replicate k.toNat a).flatten) else .no
  | _, _ => .no
theorem op_catL : OpR X (binaryOp .Add) (fun x y H Q => ∃ l b xs zs, x = .ref l ∧ y = .ref b ∧ SqL X.K H l xs ∧ SqL X.K H b zs ∧ xs.length + zs.length ≤ sizeLine ∧ ∀ p, H p = none → Q (.ref p) (upd H p (.lst (xs ++ zs)))) := by
  intro pins s σ H x y v u Q I rx ry h
  obtain ⟨l, b, xs, zs, rfl, rfl, hH, hB, hz, q⟩ := h
  cases rx
  cases ry
  obtain ⟨its, r, ⟨⟨cls, dd, data, sl⟩, n, ho, hc, hdd, hd⟩, z1⟩ := I.list hH
  obtain ⟨its2, r2, ⟨⟨cls2, dd2, data2, sl2⟩, n2, ho2, hc2, hdd2, hd2⟩, z2⟩ := I.list hB
  simp only at hc hd hc2 hd2
  subst hc hd hc2 hd2
  have hlen := r.length
  have hlen2 := r2.length
  have e : its.toArray ++ its2.toArray = (its ++ its2).toArray := by simp
  refine PySem.concat_meets ⟨_, ho, rfl⟩ ⟨_, ho2, rfl⟩ PySem.noFill_list_add PySem.seq_list_add PySem.F.slot_list_add PySem.F.entry_list_add (PySem.F.args_list_add_2 _ _) (PyProof.Rows.list_addW l b its.toArray its2.toArray n n2 dd dd2 sl sl2 (by simpa [← hlen, ← hlen2] using hz)) ⟨ho, ho2, ?_⟩
  rw [e]
  exact ⟨.ref _, _, I.lnew (t' := s.toks) (r.append r2) (by rw [List.length_append]; omega), rfl, q _ I.fresh⟩
def rAdd (K : PySem.W.Frag) : R2 := fun x y H Q =>
  (∃ i j, x = V.int i ∧ y = V.int j ∧ Q (.int (i + j)) H) ∨
  (∃ i j, x = V.str i ∧ y = V.str j ∧ i.length + j.length ≤ sizeLine ∧ Q (.str (i ++ j)) H) ∨
  (∃ l b xs zs, x = .ref l ∧ y = .ref b ∧ SqL K H l xs ∧ SqL K H b zs ∧ xs.length + zs.length ≤ sizeLine ∧ ∀ p, H p = none → Q (.ref p) (upd H p (.lst (xs ++ zs)))) ∨ rCatA K x y H Q
theorem op_addA : OpR X (binaryOp .Add) (rAdd X.K) := OpR.or op_add (OpR.or op_add_str (OpR.or op_catL op_catA))
theorem ro_add : RO K (rAdd K) oAdd := fun x y d e B H Q i rx ry h => by
  unfold oAdd at h
  split at h
  · cases rx; cases ry
    exact .inl ⟨_, _, rfl, rfl, h _ B H (Grow.refl i) (.v _)⟩
  · split at h
    · rename_i hz
      cases rx; cases ry
      exact .inr (.inl ⟨_, _, rfl, rfl, hz, h _ B H (Grow.refl i) (.v _)⟩)
    · exact h.elim
  · split at h
    · rename_i hz
      cases rx with
      | lst h1 q1 =>
        cases ry with
        | lst h2 q2 =>
          have l1 := q1.length
          have l2 := q2.length
          refine .inr (.inr (.inl ⟨_, _, _, _, rfl, rfl, i.seq h1, i.seq h2, by omega, fun p hp => ?_⟩))
          exact h _ _ _ (Grow.new i hp) (.lst (SqL.of upd_same) ((q1.append q2).mono (Grow.new (K := K) i hp).b))
    · exact h.elim
  · split at h
    · rename_i hz
      cases rx with
      | tup h1 q1 =>
        cases ry with
        | tup h2 q2 =>
          have l1 := q1.length
          have l2 := q2.length
          refine .inr (.inr (.inr ⟨_, _, _, _, rfl, rfl, sqT_mono i h1, sqT_mono i h2, by omega, fun e0 => ?_, fun _ e0 => ?_, fun _ _ p hp => ?_⟩))
          · subst e0
            cases q1
            exact h _ B H (Grow.refl i) (.tup h2 q2)
          · subst e0
            cases q2
            rw [List.append_nil] at h
            exact h _ B H (Grow.refl i) (.tup h1 q1)
          · exact h _ _ _ (Grow.new i hp) (.tup (SqT.of upd_same) ((q1.append q2).mono (Grow.new (K := K) i hp).b))
    · exact h.elim
  · exact h.elim
theorem cm_add : Calm2 oAdd := fun d e x => by unfold oAdd; split <;> (try split) <;> simp
theorem ro_sub : RO K (rI0 fun i j => .int (i - j)) oSub := ro_I0 fun d e z h => by
  unfold oSub at h
  split at h
  · cases h; exact ⟨_, _, rfl, rfl, rfl⟩
  · cases h
theorem cm_sub : Calm2 oSub := fun d e x => by unfold oSub; split <;> simp
theorem ro_mod : RO K (rI (fun _ j => j ≠ 0) fun i j => .int (i.fmod j)) oMod := ro_I fun d e z h => by
  unfold oMod at h
  split at h
  · split at h
    · rename_i hj
      cases h; exact ⟨_, _, rfl, rfl, hj, rfl⟩
    · cases h
  · cases h
theorem cm_mod : Calm2 oMod := fun d e x => by unfold oMod; split <;> (try split) <;> simp
def CFd (_ j : Int) : Prop := j ≠ 0 ∧ j.natAbs.log2 < 9000
theorem op_fdA : OpR X (binaryOp .FloorDiv) (rI CFd fun i j => .int (i.fdiv j)) := opI fun i j _ _ _ _ _ hc q => PyProof.Rows.floordiv_int hc.1 q (.inl (PyProof.noPylong_of_log2 hc.2))
theorem ro_fdiv : RO K (rI CFd fun i j => .int (i.fdiv j)) oFdiv := ro_I fun d e z h => by
  unfold oFdiv at h
  split at h
  · split at h
    · rename_i hj
      cases h; exact ⟨_, _, rfl, rfl, hj, rfl⟩
    · cases h
  · cases h
theorem cm_fdiv : Calm2 oFdiv := fun d e x => by unfold oFdiv; split <;> (try split) <;> simp
theorem ro_pow : RO K (rI CPow fun i j => .int (i ^ j.toNat)) oPow := ro_I fun d e z h => by
  unfold oPow at h
  split at h
  · split at h
    · rename_i hj
      cases h; exact ⟨_, _, rfl, rfl, ⟨hj.1, by omega, by omega⟩, rfl⟩
    · cases h
  · cases h
theorem cm_pow : Calm2 oPow := fun d e x => by unfold oPow; split <;> (try split) <;> simp
def oMul2 : D → D → Res D
  | .v (.int i), .v (.int j) => if i.natAbs.log2 + j.natAbs.log2 < 1000000 then .ok (.int (i * j)) else .no
  | .tup a, .v (.int k) => if a.length ≠ 0 ∧ 2 ≤ k ∧ k ≤ 1000 ∧ a.length ≤ 1000 then .ok (.tup (List.replicate k.toNat a).flatten) else .no
  | _, _ => .no
def rMulA (K : PySem.W.Frag) : R2 := fun x y H Q => rI CMulW (fun i j => .int (i * j)) x y H Q ∨ rRepT K x y H Q
theorem op_mulA : OpR X (binaryOp .Mult) (rMulA X.K) := OpR.or op_mulW op_repT
theorem RpA.flat {B : Hp} {vs : List V} {ds : List D} (r : RpA K B vs ds) : ∀ n : Nat, RpA K B (List.replicate n vs).flatten (List.replicate n ds).flatten
  | 0 => .nil
  | n + 1 => by
    rw [List.replicate_succ, List.replicate_succ, List.flatten_cons, List.flatten_cons]
    exact r.append (RpA.flat r n)
theorem ro_mul : RO K (rMulA K) oMul2 := fun x y d e B H Q i rx ry h => by
  unfold oMul2 at h
  split at h
  · split at h
    · rename_i hz
      cases rx; cases ry
      exact .inl ⟨_, _, rfl, rfl, hz, h _ B H (Grow.refl i) (.v _)⟩
    · exact h.elim
  · split at h
    · rename_i hz
      cases ry
      cases rx with
      | tup h1 q1 =>
        have l1 := q1.length
        refine .inr ⟨_, _, _, rfl, rfl, sqT_mono i h1, ?_, hz.2.1, hz.2.2.1, by omega, fun p hp => ?_⟩
        · intro z
          rw [z] at l1
          exact hz.1 (by rw [← l1]; rfl)
        · exact h _ _ _ (Grow.new i hp) (.tup (SqT.of upd_same) ((q1.flat _).mono (Grow.new (K := K) i hp).b))
    · exact h.elim
  · exact h.elim
theorem cm_mul : Calm2 oMul2 := fun d e x => by unfold oMul2; split <;> (try split) <;> simp
def oNeg : D → Res D
  | .v (.int i) => .ok (.int (-i))
  | _ => .no
theorem ru_neg : RU K (rU fun i => .int (-i)) oNeg := fun x d B H Q i rx h => by
  unfold oNeg at h
  split at h
  · cases rx
    exact ⟨_, rfl, h _ B H (Grow.refl i) (.v _)⟩
  · exact h.elim
theorem ce_neg {a : Expr} {pos : Pos} {ta : TE} {fa : DS → Res D} (ha : CE X W a ta fa) : CE X W (.UnaryOp .USub a pos) (tUn (rU fun i => .int (-i)) ta) (cUn oNeg fa) := ce_un un_neg ru_neg (fun d x => by unfold oNeg; split <;> simp) ha
def oI (p : Int → Int → Bool) : D → D → Res D
  | .v (.int i), .v (.int j) => .ok (.bl (p i j))
  | _, _ => .no
theorem ro_cI {p : Int → Int → Bool} : RO K (rI0 fun i j => .bl (p i j)) (oI p) := ro_I0 fun d e z h => by
  unfold oI at h
  split at h
  · cases h; exact ⟨_, _, rfl, rfl, rfl⟩
  · cases h
theorem cm_cI {p : Int → Int → Bool} : Calm2 (oI p) := fun d e x => by unfold oI; split <;> simp
abbrev oLt := oI fun i j => decide (i < j)
abbrev oLe := oI fun i j => decide (i ≤ j)
abbrev oGt := oI fun i j => decide (j < i)
abbrev oGe := oI fun i j => decide (j ≤ i)
section
variable {a b : Expr} {pos : Pos} {ta tb : TE} {fa fb : DS → Res D}
end
def cChain (g g' : D → D → Res D) (fa fb fc : DS → Res D) : DS → Res D := fun δ => (fa δ).bind fun x => (fb δ).bind fun y => (g x y).bind fun k => match k with
  | .v (.bl true) => (fc δ).bind fun z => g' y z
  | .v (.bl false) => .ok (.bl false)
  | _ => .no
def pyV : V → Option PyData
  | .non => some .none
  | .bl b => some (.bool b)
  | .int i => some (.int i)
  | .str s => some (.str s)
  | _ => none
mutual
def D.py : D → Option PyData
  | .v x => pyV x
  | .lst xs => (D.pyA xs).map .list
  | .tup xs => (D.pyA xs).map .tuple
  | .dct _ _ => none
  | .dlk _ _ => none
  | .ins _ _ _ => none
  | .dtt _ _ => none
  | .ptp _ => none
  | .wor _ _ => none
def D.pyA : List D → Option (List PyData)
  | [] => some []
  | x :: xs => match x.py, D.pyA xs with
    | some a, some as => some (a :: as)
    | _, _ => none
end
mutual
theorem dp_of {B : Hp} : ∀ {v : V} {d : D} {p : PyData}, Rp K B v d → d.py = some p → Dp K B v p
  | _, _, _, .v x, e => by
    unfold D.py at e
    cases x <;> first | (cases e; constructor) | cases e
  | _, _, _, .lst (ds := ds) h r, e => by
    unfold D.py at e
    cases q : D.pyA ds with
    | none => rw [q] at e; cases e
    | some ps => rw [q] at e; cases e; exact .lst h (dpA_of r q)
  | _, _, _, .tup (ds := ds) h r, e => by
    unfold D.py at e
    cases q : D.pyA ds with
    | none => rw [q] at e; cases e
    | some ps => rw [q] at e; cases e; exact .tup h (dpA_of r q)
  | _, _, _, .dct h r, e => by
    unfold D.py at e
    cases e
  | _, _, _, .dlk h r, e => by
    unfold D.py at e
    cases e
  | _, _, _, .dcT h _ _ _ _ _ r, e => by
    unfold D.py at e
    cases e
  | _, _, _, .ins _ _ _ r, e => by
    unfold D.py at e
    cases e
  | _, _, _, .ptp _ _, e => by
    unfold D.py at e
    cases e
  | _, _, _, .wor _ _ _ _, e => by
    unfold D.py at e
    cases e
theorem dpA_of {B : Hp} : ∀ {vs : List V} {ds : List D} {ps : List PyData}, RpA K B vs ds → D.pyA ds = some ps → DpAll K B vs ps
  | _, _, _, .nil, e => by
    unfold D.pyA at e
    cases e
    exact .nil
  | _, _, _, .cons (d := d) (ds := ds) h r, e => by
    unfold D.pyA at e
    cases q1 : d.py with
    | none => rw [q1] at e; cases e
    | some a =>
      cases q2 : D.pyA ds with
      | none => rw [q1, q2] at e; cases e
      | some as =>
        rw [q1, q2] at e
        cases e
        exact .cons (dp_of h q1) (dpA_of r q2)
end
def oEqB (neg : Bool) (d e : D) : Res D := match d.py, e.py with
  | some a, some b => if SeqAt.shaped a = true ∧ SeqAt.shaped b = true then .ok (.bl (if neg then !PyData.eqv a b else PyData.eqv a b)) else .no
  | _, _ => .no
abbrev oEq := oEqB false
abbrev oNe := oEqB true
mutual
theorem dp_mono {B B' : Hp} (e : Same B B') : ∀ {v : V} {p : PyData}, Dp K B v p → Dp K B' v p
  | _, _, .non => .non
  | _, _, .bl b => .bl b
  | _, _, .int i => .int i
  | _, _, .str x => .str x
  | _, _, .lst h r => .lst (e.seq h) (dpA_mono e r)
  | _, _, .tup h r => .tup (sqT_mono e h) (dpA_mono e r)
theorem dpA_mono {B B' : Hp} (e : Same B B') : ∀ {vs : List V} {ps : List PyData}, DpAll K B vs ps → DpAll K B' vs ps
  | _, _, .nil => .nil
  | _, _, .cons h r => .cons (dp_mono e h) (dpA_mono e r)
end
theorem ro_eq : RO K (rEqD K) oEq := fun x y d e B H Q i rx ry h => by
  unfold oEq oEqB at h
  split at h
  · rename_i a b e1 e2
    split at h
    · rename_i hs
      exact ⟨a, b, dp_mono i (dp_of rx e1), dp_mono i (dp_of ry e2), hs.1, hs.2, h _ B H (Grow.refl i) (.v _)⟩
    · exact h.elim
  · exact h.elim
theorem ro_ne : RO K (rNeD K) oNe := fun x y d e B H Q i rx ry h => by
  unfold oNe oEqB at h
  split at h
  · rename_i a b e1 e2
    split at h
    · rename_i hs
      exact ⟨a, b, dp_mono i (dp_of rx e1), dp_mono i (dp_of ry e2), hs.1, hs.2, h _ B H (Grow.refl i) (.v _)⟩
    · exact h.elim
  · exact h.elim
theorem cm_eq {n : Bool} : Calm2 (oEqB n) := fun d e x => by unfold oEqB; split <;> (try split) <;> simp
section
variable {a b : Expr} {pos : Pos} {ta tb : TE} {fa fb : DS → Res D}
end
def isNon : D → Bool
  | .v .non => true
  | _ => false
def oIsN (neg : Bool) : D → D → Res D
  | d, .v .non => .ok (.bl (if neg then !isNon d else isNon d))
  | _, _ => .no
theorem non_dec {B : Hp} {x : V} {d : D} (r : Rp K B x d) : decide (x = .non) = isNon d := by
  cases r with
  | v x => cases x <;> simp [isNon]
  | lst _ _ => simp [isNon]
  | tup _ _ => simp [isNon]
  | dct _ _ => simp [isNon]
  | dlk _ _ => simp [isNon]
  | dcT _ _ _ _ _ _ _ => simp [isNon]
  | ins _ _ _ _ => simp [isNon]
  | ptp _ _ => simp [isNon]
  | wor _ _ _ _ => simp [isNon]
theorem ro_isN : RO K (fun x y H Q => y = .non ∧ Q (.bl (decide (x = .non))) H) (oIsN false) := fun x y d e B H Q i rx ry h => by
  unfold oIsN at h
  split at h
  · cases ry
    rw [non_dec rx]
    exact ⟨rfl, h _ B H (Grow.refl i) (.v _)⟩
  · exact h.elim
theorem ro_notN : RO K (fun x y H Q => y = .non ∧ Q (.bl (!decide (x = .non))) H) (oIsN true) := fun x y d e B H Q i rx ry h => by
  unfold oIsN at h
  split at h
  · cases ry
    rw [non_dec rx]
    exact ⟨rfl, h _ B H (Grow.refl i) (.v _)⟩
  · exact h.elim
theorem cm_isN {n : Bool} : Calm2 (oIsN n) := fun d e x => by unfold oIsN; split <;> simp
section
variable {a b : Expr} {pos : Pos} {ta tb : TE} {fa fb : DS → Res D}
end
def flatD : D → Option V
  | .v x => if flatV x then some x else none
  | _ => none
def flatsD : List D → Option (List V)
  | [] => some []
  | d :: ds => match flatD d, flatsD ds with
    | some x, some xs => some (x :: xs)
    | _, _ => none
theorem flatD_of {B : Hp} {x y : V} {d : D} (r : Rp K B x d) (e : flatD d = some y) : x = y ∧ flatV y = true := by
  cases r with
  | v x =>
    simp only [flatD] at e
    split at e
    · rename_i h; cases e; exact ⟨rfl, h⟩
    · cases e
  | lst _ _ => cases e
  | tup _ _ => cases e
  | dct _ _ => cases e
  | dlk _ _ => cases e
  | dcT _ _ _ _ _ _ _ => cases e
  | ins _ _ _ _ => cases e
  | ptp _ _ => cases e
  | wor _ _ _ _ => cases e
theorem flatsD_of {B : Hp} : ∀ {xs ys : List V} {ds : List D}, RpA K B xs ds → flatsD ds = some ys → xs = ys ∧ ys.all flatV = true
  | _, _, _, .nil, e => by cases e; exact ⟨rfl, rfl⟩
  | _, _, _, .cons (d := d) (ds := ds) h r, e => by
    unfold flatsD at e
    cases q1 : flatD d with
    | none => rw [q1] at e; cases e
    | some a =>
      cases q2 : flatsD ds with
      | none => rw [q1, q2] at e; cases e
      | some as =>
        rw [q1, q2] at e
        cases e
        obtain ⟨e1, h1⟩ := flatD_of h q1
        obtain ⟨e2, h2⟩ := flatsD_of r q2
        subst e1 e2
        exact ⟨rfl, by simp [h1]; simpa using h2⟩
def D.items : D → Option (List D)
  | .lst xs => some xs
  | .tup xs => some xs
  | _ => none
def oIn (neg : Bool) (d e : D) : Res D := match flatD d, e.items with
  | some x, some es => match flatsD es with
    | some xs => .ok (.bl (if neg then !inV x xs else inV x xs))
    | none => .no
  | _, _ => .no
theorem items_of {B : Hp} {y : V} {e : D} {es : List D} (r : Rp K B y e) (h : e.items = some es) : ∃ p xs, y = .ref p ∧ (SqL K B p xs ∨ SqT K B p xs) ∧ RpA K B xs es := by
  cases r with
  | v x => cases h
  | lst h1 q => cases h; exact ⟨_, _, rfl, .inl h1, q⟩
  | tup h1 q => cases h; exact ⟨_, _, rfl, .inr h1, q⟩
  | dct h1 q => cases h
  | dlk h1 q => cases h
  | dcT _ _ _ _ _ _ _ => cases h
  | ins h1 _ _ q => cases h
  | ptp _ _ => cases h
  | wor _ _ _ _ => cases h
theorem ro_in {n : Bool} : RO K (rIn K n) (oIn n) := fun x y d e B H Q i rx ry h => by
  unfold oIn at h
  split at h
  · rename_i x' es e1 e2
    split at h
    · rename_i xs e3
      obtain ⟨p, ys, rfl, hs, q⟩ := items_of ry e2
      obtain ⟨rfl, hf⟩ := flatD_of rx e1
      obtain ⟨rfl, hfs⟩ := flatsD_of q e3
      exact ⟨p, ys, rfl, hs.elim (fun z => .inl (i.seq z)) (fun z => .inr (sqT_mono i z)), hf, hfs, h _ B H (Grow.refl i) (.v _)⟩
    · exact h.elim
  · exact h.elim
theorem cm_in {n : Bool} : Calm2 (oIn n) := fun d e x => by unfold oIn; split <;> (try split) <;> simp
section
variable {a b : Expr} {pos : Pos} {ta tb : TE} {fa fb : DS → Res D}
end
end
end DV
namespace DV
open PySem L2
structure OK2 (X : Cx) (f : Value → Value → Sem Value) (r : R2) (g : D → D → Res D) : Prop where
  o : OpR X f r
  r : RO X.K r g
  c : Calm2 g
section
variable {X : Cx} {W : WX} {K : PySem.W.Frag}
theorem q_o_add : OK2 X (binaryOp .Add) (rAdd X.K) oAdd := ⟨op_addA, ro_add, cm_add⟩
theorem o_add (K : PySem.W.Frag) (hK : X.K = K) : OK2 X (binaryOp .Add) (rAdd K) oAdd := by
  subst hK
  exact (q_o_add )
theorem o_sub : OK2 X (binaryOp .Sub) (rI0 fun i j => .int (i - j)) oSub := ⟨op_sub, ro_sub, cm_sub⟩
theorem q_o_mul : OK2 X (binaryOp .Mult) (rMulA X.K) oMul2 := ⟨op_mulA, ro_mul, cm_mul⟩
theorem o_mul (K : PySem.W.Frag) (hK : X.K = K) : OK2 X (binaryOp .Mult) (rMulA K) oMul2 := by
  subst hK
  exact (q_o_mul )
theorem o_mod : OK2 X (binaryOp .Mod) (rI (fun _ j => j ≠ 0) fun i j => .int (i.fmod j)) oMod := ⟨op_modN, ro_mod, cm_mod⟩
theorem o_fdiv : OK2 X (binaryOp .FloorDiv) (rI CFd fun i j => .int (i.fdiv j)) oFdiv := ⟨op_fdA, ro_fdiv, cm_fdiv⟩
theorem o_pow : OK2 X (binaryOp .Pow) (rI CPow fun i j => .int (i ^ j.toNat)) oPow := ⟨op_pow, ro_pow, cm_pow⟩
theorem o_lt : OK2 X (compareOp .Lt) (rI0 fun i j => .bl (decide (i < j))) oLt := ⟨op_lt, ro_cI, cm_cI⟩
theorem o_le : OK2 X (compareOp .LtE) (rI0 fun i j => .bl (decide (i ≤ j))) oLe := ⟨op_le, ro_cI, cm_cI⟩
theorem o_gt : OK2 X (compareOp .Gt) (rI0 fun i j => .bl (decide (j < i))) oGt := ⟨op_gt, ro_cI, cm_cI⟩
theorem o_ge : OK2 X (compareOp .GtE) (rI0 fun i j => .bl (decide (j ≤ i))) oGe := ⟨op_ge, ro_cI, cm_cI⟩
theorem q_o_eq (hu : X.A.units + 64 < cLine) : OK2 X (compareOp .Eq) (rEqD X.K) oEq := ⟨op_eqD hu, ro_eq, cm_eq⟩
theorem o_eq (K : PySem.W.Frag) (hK : X.K = K) (hu : X.A.units + 64 < cLine) : OK2 X (compareOp .Eq) (rEqD K) oEq := by
  subst hK
  exact (q_o_eq hu)
theorem q_o_ne (hu : X.A.units + 64 < cLine) : OK2 X (compareOp .NotEq) (rNeD X.K) oNe := ⟨op_neD hu, ro_ne, cm_eq⟩
theorem o_ne (K : PySem.W.Frag) (hK : X.K = K) (hu : X.A.units + 64 < cLine) : OK2 X (compareOp .NotEq) (rNeD K) oNe := by
  subst hK
  exact (q_o_ne hu)
theorem o_is : OK2 X (compareOp .Is) (fun x y H Q => y = .non ∧ Q (.bl (decide (x = .non))) H) (oIsN false) := ⟨op_isN, ro_isN, cm_isN⟩
theorem o_isnot : OK2 X (compareOp .IsNot) (fun x y H Q => y = .non ∧ Q (.bl (!decide (x = .non))) H) (oIsN true) := ⟨op_notN, ro_notN, cm_isN⟩
theorem q_o_in : OK2 X (compareOp .In) (rIn X.K false) (oIn false) := ⟨op_in_seq, ro_in, cm_in⟩
theorem o_in (K : PySem.W.Frag) (hK : X.K = K) : OK2 X (compareOp .In) (rIn K false) (oIn false) := by
  subst hK
  exact (q_o_in )
theorem ce_b {a b : Expr} {op : Operator} {pos : Pos} {ta tb : TE} {fa fb : DS → Res D} {r : R2} {g : D → D → Res D} (o : OK2 X (binaryOp op) r g) (ha : CE X W a ta fa) (hb : CE X W b tb fb) : CE X W (.BinOp a op b pos) (tOp r ta tb) (cBin g fa fb) := ce_op o.o o.r o.c ha hb
theorem ce_c {a b : Expr} {op : CmpOp} {pos : Pos} {ta tb : TE} {fa fb : DS → Res D} {r : R2} {g : D → D → Res D} (o : OK2 X (compareOp op) r g) (ha : CE X W a ta fa) (hb : CE X W b tb fb) (hm : behindInMarks op b = false := by first | exact nomark _ | rfl) : CE X W (.Compare a [op] [b] pos) (tOp r ta tb) (cBin g fa fb) := ce_cmp o.o o.r o.c ha hb hm
def asB : D → Res Bool
  | .v (.bl b) => .ok b
  | _ => .no
def cTest (f : DS → Res D) : DS → Res Bool := fun δ => (f δ).bind asB
theorem st_test {t : TE} {f : DS → Res D} (h : SE K W t f) : ST K W (tTest t) (cTest f) := fun B0 H0 δ σ B H Q rel hp => by
  unfold cTest at hp
  refine h B0 H0 δ σ B H _ rel ?_
  cases e : f δ with
  | no => rw [e] at hp; exact hp
  | er x => rw [e] at hp; exact hp
  | ok d =>
    rw [e, Res.bind_ok] at hp
    intro v B1 H1 g1 r1
    unfold asB at hp
    split at hp
    · cases r1
      exact ⟨_, rfl, hp _ _ g1⟩
    · exact hp.elim
theorem ct_val {e : Expr} {t : TE} {f : DS → Res D} (h : CE X W e t f) (he : ∀ whole, isTrue e X.env whole = (do let v ← whole; standAt e.pos; holding [v] (truthy v)) := by intro _; rfl) : CT X W e (tB t) (cTest f) := ⟨pt_val h.pe he, st_test h.se⟩
theorem ct_c {a b : Expr} {op : CmpOp} {pos : Pos} {ta tb : TE} {fa fb : DS → Res D} {r : R2} {g : D → D → Res D} (o : OK2 X (compareOp op) r g) (ha : CE X W a ta fa) (hb : CE X W b tb fb) (hm : behindInMarks op b = false := by first | exact nomark _ | rfl) : CT X W (.Compare a [op] [b] pos) (tTest (tOp r ta tb)) (cTest (cBin g fa fb)) :=
  ⟨pt_cmpR o.o ha.pe hb.pe hm, st_test (se_op o.r o.c ha.se hb.se)⟩
def cNotT (f : DS → Res Bool) : DS → Res Bool := fun δ => (f δ).bind fun b => .ok (!b)
def cAndT (f g : DS → Res Bool) : DS → Res Bool := fun δ => (f δ).bind fun b => if b = true then g δ else .ok false
def cOrT (f g : DS → Res Bool) : DS → Res Bool := fun δ => (f δ).bind fun b => if b = true then .ok true else g δ
theorem postT_mono {B H B1 H1 : Hp} {σ : L2.St} {Q : Bool → Hp → Prop} {r : Res Bool} (g : Grow K B H B1 H1) (h : PostT K B H σ W Q r) : PostT K B1 H1 σ W Q r := by
  cases r with
  | ok d => exact fun B' H' g' => h B' H' (g.trans g')
  | er x => exact fun c dx B' H' g' rp => h c dx B' H' (g.trans g') rp
  | no => exact h
theorem st_not {t : TT} {f : DS → Res Bool} (h : ST K W t f) : ST K W (tNot t) (cNotT f) := fun B0 H0 δ σ B H Q rel hp => by
  unfold cNotT at hp
  refine h B0 H0 δ σ B H _ rel ?_
  cases e : f δ with
  | no => rw [e] at hp; exact hp
  | er x => rw [e] at hp; exact hp
  | ok d => rw [e, Res.bind_ok] at hp; exact hp
theorem st_and {t u : TT} {f g : DS → Res Bool} (h : ST K W t f) (h2 : ST K W u g) : ST K W (tAnd t u) (cAndT f g) := fun B0 H0 δ σ B H Q rel hp => by
  unfold cAndT at hp
  refine h B0 H0 δ σ B H _ rel ?_
  cases e : f δ with
  | no => rw [e] at hp; exact hp
  | er x => rw [e] at hp; exact hp
  | ok d =>
    rw [e, Res.bind_ok] at hp
    intro B1 H1 g1
    cases d with
    | true => rw [if_pos rfl] at hp ⊢; exact h2 B0 H0 δ σ B1 H1 _ (rel.mono g1) (postT_mono g1 hp)
    | false => rw [if_neg Bool.false_ne_true] at hp ⊢; exact hp _ _ g1
theorem st_or {t u : TT} {f g : DS → Res Bool} (h : ST K W t f) (h2 : ST K W u g) : ST K W (tOr t u) (cOrT f g) := fun B0 H0 δ σ B H Q rel hp => by
  unfold cOrT at hp
  refine h B0 H0 δ σ B H _ rel ?_
  cases e : f δ with
  | no => rw [e] at hp; exact hp
  | er x => rw [e] at hp; exact hp
  | ok d =>
    rw [e, Res.bind_ok] at hp
    intro B1 H1 g1
    cases d with
    | false => rw [if_neg Bool.false_ne_true] at hp ⊢; exact h2 B0 H0 δ σ B1 H1 _ (rel.mono g1) (postT_mono g1 hp)
    | true => rw [if_pos rfl] at hp ⊢; exact hp _ _ g1
theorem ct_not {a : Expr} {pos : Pos} {t : TT} {f : DS → Res Bool} (h : CT X W a t f) : CT X W (.UnaryOp .Not a pos) (tNot t) (cNotT f) := ⟨pt_not h.pt, st_not h.st⟩
theorem cw_and1 {a : Expr} {pos : Pos} {t : TT} {f : DS → Res Bool} (h : CT X W a t f) : CW X W (.BoolOp .And [a] pos) t f := ⟨pw_and1 h.pt, h.st⟩
theorem cw_or1 {a : Expr} {pos : Pos} {t : TT} {f : DS → Res Bool} (h : CT X W a t f) : CW X W (.BoolOp .Or [a] pos) t f := ⟨pw_or1 h.pt, h.st⟩
theorem cw_and {a b : Expr} {rest : List Expr} {pos : Pos} {t u : TT} {f g : DS → Res Bool} (h : CT X W a t f) (h2 : CW X W (.BoolOp .And (b :: rest) pos) u g) : CW X W (.BoolOp .And (a :: b :: rest) pos) (tAnd t u) (cAndT f g) := ⟨pw_and h.pt h2.pw, st_and h.st h2.st⟩
theorem cw_or {a b : Expr} {rest : List Expr} {pos : Pos} {t u : TT} {f g : DS → Res Bool} (h : CT X W a t f) (h2 : CW X W (.BoolOp .Or (b :: rest) pos) u g) : CW X W (.BoolOp .Or (a :: b :: rest) pos) (tOr t u) (cOrT f g) := ⟨pw_or h.pt h2.pw, st_or h.st h2.st⟩
def cAndV (f g : DS → Res D) : DS → Res D := fun δ => (f δ).bind fun x => match x with
  | .v (.bl true) => g δ
  | .v (.bl false) => .ok (.bl false)
  | _ => .no
def cOrV (f g : DS → Res D) : DS → Res D := fun δ => (f δ).bind fun x => match x with
  | .v (.bl true) => .ok (.bl true)
  | .v (.bl false) => g δ
  | _ => .no
def oNot : D → Res D
  | .v (.bl b) => .ok (.bl (!b))
  | _ => .no
theorem se_and {ta tb : TE} {f g : DS → Res D} (ha : SE K W ta f) (hb : SE K W tb g) : SE K W (tAndV ta tb) (cAndV f g) := fun B0 H0 δ σ B H Q rel hp => by
  unfold cAndV at hp
  refine ha B0 H0 δ σ B H _ rel ?_
  cases e : f δ with
  | no => rw [e] at hp; exact hp
  | er x => rw [e] at hp; exact hp
  | ok d =>
    rw [e, Res.bind_ok] at hp
    intro v B1 H1 g1 r1
    split at hp
    · cases r1
      refine ⟨true, rfl, ?_⟩
      rw [if_pos rfl]
      exact hb B0 H0 δ σ B1 H1 _ (rel.mono g1) (postE_mono g1 hp)
    · cases r1
      refine ⟨false, rfl, ?_⟩
      rw [if_neg Bool.false_ne_true]
      exact hp _ _ _ g1 (.v _)
    · exact hp.elim
theorem se_or {ta tb : TE} {f g : DS → Res D} (ha : SE K W ta f) (hb : SE K W tb g) : SE K W (tOrV ta tb) (cOrV f g) := fun B0 H0 δ σ B H Q rel hp => by
  unfold cOrV at hp
  refine ha B0 H0 δ σ B H _ rel ?_
  cases e : f δ with
  | no => rw [e] at hp; exact hp
  | er x => rw [e] at hp; exact hp
  | ok d =>
    rw [e, Res.bind_ok] at hp
    intro v B1 H1 g1 r1
    split at hp
    · cases r1
      refine ⟨true, rfl, ?_⟩
      rw [if_pos rfl]
      exact hp _ _ _ g1 (.v _)
    · cases r1
      refine ⟨false, rfl, ?_⟩
      rw [if_neg Bool.false_ne_true]
      exact hb B0 H0 δ σ B1 H1 _ (rel.mono g1) (postE_mono g1 hp)
    · exact hp.elim
theorem ce_one {op} {a : Expr} {pos : Pos} {t : TE} {f : DS → Res D} (h : CE X W a t f) : CE X W (.BoolOp op [a] pos) t f := ⟨pe_one h.pe, h.se⟩
theorem ce_and {a b : Expr} {rest : List Expr} {pos : Pos} {ta tb : TE} {f g : DS → Res D} (h : CE X W a ta f) (h2 : CE X W (.BoolOp .And (b :: rest) pos) tb g) : CE X W (.BoolOp .And (a :: b :: rest) pos) (tAndV ta tb) (cAndV f g) := ⟨pe_and h.pe h2.pe, se_and h.se h2.se⟩
theorem ce_or {a b : Expr} {rest : List Expr} {pos : Pos} {ta tb : TE} {f g : DS → Res D} (h : CE X W a ta f) (h2 : CE X W (.BoolOp .Or (b :: rest) pos) tb g) : CE X W (.BoolOp .Or (a :: b :: rest) pos) (tOrV ta tb) (cOrV f g) := ⟨pe_or h.pe h2.pe, se_or h.se h2.se⟩
def cIfE (t : DS → Res Bool) (f g : DS → Res D) : DS → Res D := fun δ => (t δ).bind fun b => if b = true then f δ else g δ
theorem ce_if {c a b : Expr} {pos : Pos} {tt : TT} {ta tb : TE} {t : DS → Res Bool} {f g : DS → Res D} (hc : CT X W c tt t) (ha : CE X W a ta f) (hb : CE X W b tb g) : CE X W (.IfExp c a b pos) (tIf tt ta tb) (cIfE t f g) :=
  ⟨pe_ifExp hc.pt ha.pe hb.pe, fun B0 H0 δ σ B H Q rel hp => by
    unfold cIfE at hp
    refine hc.st B0 H0 δ σ B H _ rel ?_
    cases e : t δ with
    | no => rw [e] at hp; exact hp
    | er x => rw [e] at hp; exact hp
    | ok d =>
      rw [e, Res.bind_ok] at hp
      intro B1 H1 g1
      cases d with
      | false => rw [if_neg Bool.false_ne_true] at hp ⊢; exact hb.se B0 H0 δ σ B1 H1 _ (rel.mono g1) (postE_mono g1 hp)
      | true => rw [if_pos rfl] at hp ⊢; exact ha.se B0 H0 δ σ B1 H1 _ (rel.mono g1) (postE_mono g1 hp)⟩
structure CL (X : Cx) (W : WX) (es : List Expr) (t : TA) (f : DS → Res (List D)) : Prop extends CA X W es t f where
  ln : ∀ δ ds, f δ = .ok ds → ds.length = es.length
def cNil : DS → Res (List D) := fun _ => .ok []
def cCons (f : DS → Res D) (g : DS → Res (List D)) : DS → Res (List D) := fun δ => (f δ).bind fun x => (g δ).bind fun xs => .ok (x :: xs)
theorem ca_nil : CL X W [] tNil cNil := ⟨⟨pa_nil, fun B0 H0 δ σ B H Q rel hp => hp [] B H (Grow.refl rel.g.i) .nil⟩, fun δ ds h => by cases h; rfl⟩
theorem sa_cons {te : TE} {t : TA} {f : DS → Res D} {g : DS → Res (List D)} (ha : SE K W te f) (hb : SA K W t g) : SA K W (tCons te t) (cCons f g) := fun B0 H0 δ σ B H Q rel hp => by
  unfold cCons at hp
  refine ha B0 H0 δ σ B H _ rel ?_
  cases e : f δ with
  | no => rw [e] at hp; exact hp
  | er x => rw [e] at hp; exact hp
  | ok d =>
    rw [e, Res.bind_ok] at hp
    intro v B1 H1 g1 r1
    refine hb B0 H0 δ σ B1 H1 _ (rel.mono g1) ?_
    cases e2 : g δ with
    | no => rw [e2] at hp; exact hp
    | er x => rw [e2] at hp; exact fun c dx B' H' g' rp => hp c dx B' H' (g1.trans g') rp
    | ok ds =>
      rw [e2, Res.bind_ok] at hp
      exact fun vs B2 H2 g2 r2 => hp _ B2 H2 (g1.trans g2) (.cons (Rp.mono g2.b r1) r2)
theorem ca_cons {e : Expr} {es : List Expr} {te : TE} {t : TA} {f : DS → Res D} {g : DS → Res (List D)} (ha : CE X W e te f) (hb : CL X W es t g) (hs : starEach (e :: es) X.env = (false, eval e X.env) :: starEach es X.env := by rfl) : CL X W (e :: es) (tCons te t) (cCons f g) :=
  ⟨⟨pa_cons ha.pe hb.pa hs, sa_cons ha.se hb.sa⟩, fun δ ds h => by
    unfold cCons at h
    cases e1 : f δ with
    | no => rw [e1] at h; cases h
    | er x => rw [e1] at h; cases h
    | ok d =>
      rw [e1, Res.bind_ok] at h
      cases e2 : g δ with
      | no => rw [e2] at h; cases h
      | er x => rw [e2] at h; cases h
      | ok ds' =>
        rw [e2, Res.bind_ok] at h
        cases h
        simp [hb.ln δ ds' e2]⟩
def cTup (f : DS → Res (List D)) : DS → Res D := fun δ => (f δ).bind fun ds => .ok (.tup ds)
theorem ce_tup {es : List Expr} {x1} {pos : Pos} {t : TA} {f : DS → Res (List D)} (h : CL X W es t f) (hl : es.length ≤ sizeLine := by decide) : CE X W (.Tuple es x1 pos) (tTup t) (cTup f) :=
  ⟨pe_tup h.pa, fun B0 H0 δ σ B H Q rel hp => by
    unfold cTup at hp
    refine h.sa B0 H0 δ σ B H _ rel ?_
    cases e : f δ with
    | no => rw [e] at hp; exact hp
    | er x => rw [e] at hp; exact hp
    | ok ds =>
      rw [e, Res.bind_ok] at hp
      intro vs B1 H1 g1 r1
      refine ⟨by rw [r1.length, h.ln δ ds e]; exact hl, fun p hp' => ?_⟩
      exact hp _ _ _ (g1.trans (Grow.new g1.i hp')) (.tup (SqT.of upd_same) (r1.mono (Grow.new (K := X.K) g1.i hp').b))⟩
theorem cf_lst {es : List Expr} {pos : Pos} {t : TA} {f : DS → Res (List D)} (h : CL X W es t f) (hl : es.length ≤ sizeLine := by decide) : CF X W (.List es pos) (tLst t) f :=
  ⟨pe_lst h.pa, fun B0 H0 δ σ B H Q rel hp => by
    refine h.sa B0 H0 δ σ B H _ rel ?_
    cases e : f δ with
    | no => rw [e] at hp; exact hp
    | er x => rw [e] at hp; exact hp
    | ok ds =>
      rw [e] at hp
      intro vs B1 H1 g1 r1
      refine ⟨by rw [r1.length, h.ln δ ds e]; exact hl, fun p hp' => ?_⟩
      exact hp p vs B1 _ (g1.trans (Grow.raw g1.i hp')) (g1.free hp') (g1.i.free hp') upd_same r1⟩
def cL (f : DS → Res (List D)) : DS → Res D := fun δ => (f δ).bind fun ds => .ok (.lst ds)
theorem se_of_sf {t : TE} {f : DS → Res (List D)} (h : SF K W t f) : SE K W t (cL f) := fun B0 H0 δ σ B H Q rel hp => by
  unfold cL at hp
  refine h B0 H0 δ σ B H _ rel ?_
  cases e : f δ with
  | no => rw [e] at hp; exact hp
  | er x => rw [e] at hp; exact hp
  | ok ds =>
    rw [e, Res.bind_ok] at hp
    intro p vs B1 H1 g1 h0 hb hh r1
    have sb : Same B1 (upd B1 p (.lst vs)) := same_new hb
    refine hp _ (upd B1 p (.lst vs)) H1 ⟨g1.b.trans sb, g1.h, fun a o q => ?_, fun a ha => ?_, g1.e, g1.t, g1.nu hb (kind_lst _).pln⟩ (.lst (SqL.of upd_same) (r1.mono sb))
    · by_cases hap : a = p
      · subst hap; rw [upd_same] at q; cases q; exact hh
      · rw [upd_ne hap] at q; exact g1.i a o q
    · have : a ≠ p := fun z => ha (by rw [z]; exact h0)
      rw [upd_ne this]
      exact g1.f a ha
theorem ce_l {e : Expr} {t : TE} {f : DS → Res (List D)} (h : CF X W e t f) : CE X W e t (cL f) := ⟨h.pe, se_of_sf h.sf⟩
def oIx : D → D → Res D
  | .lst xs, .v (.int i) => match atI xs i with
    | some d => .ok d
    | none => .no
  | .tup xs, .v (.int i) => match atI xs i with
    | some d => .ok d
    | none => .no
  | .v (.str z), .v (.int i) => match atI z.cps.toList i with
    | some c => if z.length ≤ sizeLine then .ok (.str ⟨#[c]⟩) else .no
    | none => .no
  | _, _ => .no
theorem RpA.at_ {B : Hp} {vs : List V} {ds : List D} {i : Int} {d : D} (r : RpA K B vs ds) (h : atI ds i = some d) : ∃ v, atI vs i = some v ∧ Rp K B v d := by
  have hl := r.length
  unfold atI at h ⊢
  rw [hl]
  cases e : ixN ds.length i with
  | none => rw [e] at h; cases h
  | some j =>
    rw [e] at h
    exact r.get h
theorem ro_ix : RO K (rIx K) oIx := fun x y d e B H Q i rx ry h => by
  unfold oIx at h
  split at h
  · split at h
    · rename_i d' e'
      cases ry
      cases rx with
      | lst h1 q =>
        obtain ⟨v, e2, r2⟩ := q.at_ e'
        exact .inl ⟨_, _, _, v, rfl, rfl, i.seq h1, e2, h v B H (Grow.refl i) r2⟩
    · exact h.elim
  · split at h
    · rename_i d' e'
      cases ry
      cases rx with
      | tup h1 q =>
        obtain ⟨v, e2, r2⟩ := q.at_ e'
        exact .inr (.inl ⟨_, _, _, v, rfl, rfl, sqT_mono i h1, e2, h v B H (Grow.refl i) r2⟩)
    · exact h.elim
  · split at h
    · rename_i c e'
      split at h
      · rename_i hz
        cases ry
        cases rx
        exact .inr (.inr ⟨_, _, c, rfl, rfl, hz, e', h _ B H (Grow.refl i) (.v _)⟩)
      · exact h.elim
    · exact h.elim
  · exact h.elim
theorem cm_ix : Calm2 oIx := fun d e x => by unfold oIx; split <;> (try split) <;> (try split) <;> simp
theorem q_ce_ix {a b : Expr} {pos : Pos} {ta tb : TE} {fa fb : DS → Res D} (ha : CE X W a ta fa) (hb : CE X W b tb fb) (hs : PlainIx b := by exact fun _ _ => rfl) : CE X W (.Subscript a b pos) (tOp (rIx X.K) ta tb) (cBin oIx fa fb) := ⟨pe_ix ix_seq ha.pe hb.pe hs, se_op ro_ix cm_ix ha.se hb.se⟩
theorem ce_ix (K : PySem.W.Frag) (hK : X.K = K) {a b : Expr} {pos : Pos} {ta tb : TE} {fa fb : DS → Res D} (ha : CE X W a ta fa) (hb : CE X W b tb fb) (hs : PlainIx b := by exact fun _ _ => rfl) : CE X W (.Subscript a b pos) (tOp (rIx K) ta tb) (cBin oIx fa fb) := by
  subst hK
  exact (q_ce_ix ha hb hs)
end
end DV
namespace DV
open PySem L2
section
variable {X : Cx} {W : WX} {K : PySem.W.Frag}
def cutD (xs : List D) (lo hi : Option Int) : List D := (xs.drop (HT.sIx xs.length 0 lo)).take (HT.sIx xs.length xs.length hi - HT.sIx xs.length 0 lo)
theorem RpA.cut {B : Hp} {vs : List V} {ds : List D} (r : RpA K B vs ds) (lo hi : Option Int) : RpA K B (cutV vs lo hi) (cutD ds lo hi) := by
  unfold cutV cutD
  rw [r.length]
  exact (r.drop _).take _
def asI : D → Res (Option Int)
  | .v (.int i) => .ok (some i)
  | _ => .no
def cNone : DS → Res (Option Int) := fun _ => .ok none
def cSome (f : DS → Res D) : DS → Res (Option Int) := fun δ => (f δ).bind asI
def PostO (K : PySem.W.Frag) (B H : Hp) (σ : L2.St) (W : WX) (Q : Option Int → Hp → Prop) : Res (Option Int) → Prop
  | .ok o => ∀ B' H', Grow K B H B' H' → Q o H'
  | .er x => ∀ c dx B' H', Grow K B H B' H' → RpX K B' c dx x → W c dx σ H'
  | .no => False
structure CO (X : Cx) (W : WX) (e : Option Expr) (t : TO) (f : DS → Res (Option Int)) : Prop where
  po : PO X e t
  so : ∀ B0 H0 δ σ B H (Q : Option Int → Hp → Prop), Rel X.K B0 H0 B H σ δ → PostO X.K B H σ W Q (f δ) → t σ H Q
theorem co_none : CO X W none tNoPart cNone := ⟨po_none, fun B0 H0 δ σ B H Q rel hp => hp B H (Grow.refl rel.g.i)⟩
theorem co_some {e : Expr} {t : TE} {f : DS → Res D} (h : CE X W e t f) : CO X W (some e) (tPart t) (cSome f) := ⟨po_some h.pe, fun B0 H0 δ σ B H Q rel hp => by
  unfold cSome at hp
  refine h.se B0 H0 δ σ B H _ rel ?_
  cases e : f δ with
  | no => rw [e] at hp; exact hp
  | er x => rw [e] at hp; exact hp
  | ok d =>
    rw [e, Res.bind_ok] at hp
    intro v B1 H1 g1 r1
    unfold asI at hp
    split at hp
    · cases r1; exact ⟨_, rfl, hp B1 H1 g1⟩
    · exact hp.elim⟩
def oSl (lo hi : Option Int) : D → Res D
  | .lst xs => .ok (.lst (cutD xs lo hi))
  | .tup xs => .ok (.tup (cutD xs lo hi))
  | .v (.str z) => if z.length ≤ sizeLine then .ok (.str (cutS z lo hi)) else .no
  | _ => .no
def rSlD (K : PySem.W.Frag) : V → Option Int → Option Int → Hp → VK → Prop := fun x lo hi H Q => rSlL K x lo hi H Q ∨ rSlA K x lo hi H Q ∨ rSlS x lo hi H Q
theorem sl_D : SlR X (rSlD X.K) := sl_list.or (sl_tupA.or sl_str)
theorem cut_whole {xs : List V} {lo hi : Option Int} (h : HT.sIx xs.length 0 lo = 0 ∧ HT.sIx xs.length xs.length hi = xs.length) : cutV xs lo hi = xs := by
  unfold cutV
  rw [h.1, h.2]
  simp
theorem rs_sl {x : V} {d : D} {lo hi : Option Int} {B H : Hp} {Q : VK} (i : Same B H) (rx : Rp K B x d) (h : PostV K B H Q (oSl lo hi d)) : rSlD K x lo hi H Q := by
  unfold oSl at h
  split at h
  · cases rx with
    | lst h1 q => exact .inl ⟨_, _, rfl, i.seq h1, fun p hp => h _ _ _ (Grow.new i hp) (.lst (SqL.of upd_same) ((q.cut lo hi).mono (Grow.new (K := K) i hp).b))⟩
  · cases rx with
    | tup h1 q =>
      refine .inr (.inl ⟨_, _, rfl, sqT_mono i h1, fun hw => ?_, fun hw p hp => ?_⟩)
      · refine h _ B H (Grow.refl i) ?_
        have q2 := q.cut lo hi
        rw [cut_whole hw] at q2
        exact .tup h1 q2
      · exact h _ _ _ (Grow.new i hp) (.tup (SqT.of upd_same) ((q.cut lo hi).mono (Grow.new (K := K) i hp).b))
  · split at h
    · rename_i hz
      cases rx
      exact .inr (.inr ⟨_, rfl, hz, h _ B H (Grow.refl i) (.v _)⟩)
    · exact h.elim
  · exact h.elim
theorem cm_sl {lo hi : Option Int} {d : D} (x : Exn) : oSl lo hi d ≠ .er x := by unfold oSl; split <;> (try split) <;> simp
def cSl (f : DS → Res D) (lo hi : DS → Res (Option Int)) : DS → Res D := fun δ => (f δ).bind fun x => (lo δ).bind fun l => (hi δ).bind fun h => oSl l h x
theorem q_ce_sl {e : Expr} {lo hi : Option Expr} {p2 pos : Pos} {te : TE} {tl th : TO} {f : DS → Res D} {fl fh : DS → Res (Option Int)} (he : CE X W e te f) (hl : CO X W lo tl fl) (hh : CO X W hi th fh) : CE X W (.Subscript e (.Slice lo hi none p2) pos) (tSl (rSlD X.K) te tl th) (cSl f fl fh) :=
  ⟨pe_slice sl_D he.pe hl.po hh.po, fun B0 H0 δ σ B H Q rel hp => by
    unfold cSl at hp
    refine he.se B0 H0 δ σ B H _ rel ?_
    cases e : f δ with
    | no => rw [e] at hp; exact hp
    | er x => rw [e] at hp; exact hp
    | ok d =>
      rw [e, Res.bind_ok] at hp
      intro v B1 H1 g1 r1
      refine hl.so B0 H0 δ σ B1 H1 _ (rel.mono g1) ?_
      cases e2 : fl δ with
      | no => rw [e2] at hp; exact hp
      | er x => rw [e2] at hp; exact fun c dx B' H' g' rp => hp c dx B' H' (g1.trans g') rp
      | ok l =>
        rw [e2, Res.bind_ok] at hp
        intro B2 H2 g2
        refine hh.so B0 H0 δ σ B2 H2 _ ((rel.mono g1).mono g2) ?_
        cases e3 : fh δ with
        | no => rw [e3] at hp; exact hp
        | er x => rw [e3] at hp; exact fun c dx B' H' g' rp => hp c dx B' H' ((g1.trans g2).trans g') rp
        | ok h =>
          rw [e3, Res.bind_ok] at hp
          intro B3 H3 g3
          exact rs_sl g3.i (r1.mono (g2.b.trans g3.b)) (postV_of (postE_mono ((g1.trans g2).trans g3) hp) fun x => cm_sl x)⟩
theorem ce_sl (K : PySem.W.Frag) (hK : X.K = K) {e : Expr} {lo hi : Option Expr} {p2 pos : Pos} {te : TE} {tl th : TO} {f : DS → Res D} {fl fh : DS → Res (Option Int)} (he : CE X W e te f) (hl : CO X W lo tl fl) (hh : CO X W hi th fh) : CE X W (.Subscript e (.Slice lo hi none p2) pos) (tSl (rSlD K) te tl th) (cSl f fl fh) := by
  subst hK
  exact (q_ce_sl he hl hh)
def oRevL : D → Res D
  | .lst xs => .ok (.lst xs.reverse)
  | _ => .no
def RC (K : PySem.W.Frag) (r : List V → Hp → VK → Prop) (g : List D → Res D) : Prop := ∀ vs ds B H Q, Same B H → RpA K B vs ds → PostV K B H Q (g ds) → r vs H Q
structure OKC (X : Cx) (f : Value) (r : List V → Hp → VK → Prop) (g : List D → Res D) : Prop where
  o : CallR X f r
  r : RC X.K r g
  c : ∀ ds x, g ds ≠ .er x
def cCall (g : List D → Res D) (f : DS → Res (List D)) : DS → Res D := fun δ => (f δ).bind g
theorem se_call {t : TA} {f : DS → Res (List D)} {r : List V → Hp → VK → Prop} {g : List D → Res D} (hr : RC K r g) (hc : ∀ ds x, g ds ≠ .er x) (h : SA K W t f) : SE K W (tCB r t) (cCall g f) := fun B0 H0 δ σ B H Q rel hp => by
  unfold cCall at hp
  refine h B0 H0 δ σ B H _ rel ?_
  cases e : f δ with
  | no => rw [e] at hp; exact hp
  | er x => rw [e] at hp; exact hp
  | ok ds =>
    rw [e, Res.bind_ok] at hp
    intro vs B1 H1 g1 r1
    exact hr vs ds B1 H1 Q g1.i r1 (postV_of (postE_mono g1 hp) (hc ds))
theorem ce_callB {id : String} {x : Str} {e : Expr} {es : List Expr} {p pos : Pos} {r : List V → Hp → VK → Prop} {g : List D → Res D} {t : TA} {f : DS → Res (List D)} (o : OKC X (.builtin id) r g) (hm : X.mg x = none) (hv : bootBuiltins x = some (.builtin id)) (ha : CL X W (e :: es) t f) (hg : Gl X x := by rfl) (hn : x ≠ "__name__" := by decide) (hdb : (x == ("__debug__" : Str)) = false := by decide)
    (he : starEach (e :: es) X.env = (false, eval e X.env) :: starEach es X.env := by rfl) (hpl : (backTo pos (starEach es X.env)).any (·.1) = false := by rfl) : CE X W (.Call (.Name x p) (e :: es) [] pos) (tCB r t) (cCall g f) := ⟨pe_callB o.o hg hm hv ha.pa hn hdb he hpl, se_call o.r o.c ha.sa⟩
theorem ce_callTy {T : String} {x : Str} {e : Expr} {es : List Expr} {p pos : Pos} {r : List V → Hp → VK → Prop} {g : List D → Res D} {t : TA} {f : DS → Res (List D)} (o : OKC X (.type T) r g) (hm : X.mg x = none) (hv : bootBuiltins x = some (.type T)) (ha : CL X W (e :: es) t f) (hg : Gl X x := by rfl) (hn : x ≠ "__name__" := by decide) (hdb : (x == ("__debug__" : Str)) = false := by decide)
    (he : starEach (e :: es) X.env = (false, eval e X.env) :: starEach es X.env := by rfl) (hpl : (backTo pos (starEach es X.env)).any (·.1) = false := by rfl) : CE X W (.Call (.Name x p) (e :: es) [] pos) (tCB r t) (cCall g f) := ⟨pe_callTy o.o hg hm hv ha.pa hn hdb he hpl, se_call o.r o.c ha.sa⟩
def gAbs : List D → Res D
  | [.v (.int i)] => .ok (.int (if i < 0 then -i else i))
  | _ => .no
theorem k_abs : OKC X (.builtin "abs") (fun xs H Q => ∃ i, xs = [.int i] ∧ Q (.int (if i < 0 then -i else i)) H) gAbs := ⟨call_abs, fun vs ds B H Q i r h => by
  unfold gAbs at h
  split at h
  · cases r with
    | cons r1 r2 => cases r2; cases r1; exact ⟨_, rfl, h _ B H (Grow.refl i) (.v _)⟩
  · exact h.elim, fun ds x => by unfold gAbs; split <;> simp⟩
def gLen : List D → Res D
  | [.lst xs] => .ok (.int (xs.length : Nat))
  | [.tup xs] => .ok (.int (xs.length : Nat))
  | [.v (.str z)] => if z.length ≤ sizeLine then .ok (.int (z.length : Nat)) else .no
  | _ => .no
theorem q_k_len : OKC X (.builtin "len") (fun xs H Q => ∃ x n, xs = [x] ∧ LenV X.K x H n ∧ Q (.int n) H) gLen := ⟨call_len, fun vs ds B H Q i r h => by
  unfold gLen at h
  split at h
  · cases r with
    | cons r1 r2 =>
      cases r2
      cases r1 with
      | lst h1 q => exact ⟨_, _, rfl, .inl ⟨_, i.seq h1, rfl⟩, by rw [q.length]; exact h _ B H (Grow.refl i) (.v _)⟩
  · cases r with
    | cons r1 r2 =>
      cases r2
      cases r1 with
      | tup h1 q => exact ⟨_, _, rfl, .inr ⟨_, sqT_mono i h1, rfl⟩, by rw [q.length]; exact h _ B H (Grow.refl i) (.v _)⟩
  · split at h
    · rename_i hz
      cases r with
      | cons r1 r2 => cases r2; cases r1; exact ⟨_, _, rfl, ⟨hz, rfl⟩, h _ B H (Grow.refl i) (.v _)⟩
    · exact h.elim
  · exact h.elim, fun ds x => by unfold gLen; split <;> (try split) <;> simp⟩
theorem k_len (K : PySem.W.Frag) (hK : X.K = K) : OKC X (.builtin "len") (fun xs H Q => ∃ x n, xs = [x] ∧ LenV K x H n ∧ Q (.int n) H) gLen := by
  subst hK
  exact (q_k_len )
def intsD : List D → Option (List Int)
  | [] => some []
  | .v (.int i) :: ds => (intsD ds).map (i :: ·)
  | _ => none
def blsD : List D → Option (List Bool)
  | [] => some []
  | .v (.bl i) :: ds => (blsD ds).map (i :: ·)
  | _ => none
theorem intsD_of : ∀ {ds : List D} {ns : List Int}, intsD ds = some ns → ds = ns.map D.int
  | [], ns, h => by cases h; rfl
  | d :: ds, ns, h => by
    unfold intsD at h
    split at h
    · rename_i e; cases e
    · rename_i i ds' e
      cases e
      cases q : intsD ds with
      | none => rw [q] at h; cases h
      | some ms => rw [q] at h; cases h; rw [intsD_of q]; rfl
    · cases h
theorem blsD_of : ∀ {ds : List D} {ns : List Bool}, blsD ds = some ns → ds = ns.map D.bl
  | [], ns, h => by cases h; rfl
  | d :: ds, ns, h => by
    unfold blsD at h
    split at h
    · rename_i e; cases e
    · rename_i i ds' e
      cases e
      cases q : blsD ds with
      | none => rw [q] at h; cases h
      | some ms => rw [q] at h; cases h; rw [blsD_of q]; rfl
    · cases h
@[simp] theorem intsD_map (ns : List Int) : intsD (ns.map D.int) = some ns := by
  induction ns with
  | nil => rfl
  | cons n ns ih => simp [intsD, ih]
@[simp] theorem blsD_map (ns : List Bool) : blsD (ns.map D.bl) = some ns := by
  induction ns with
  | nil => rfl
  | cons n ns ih => simp [blsD, ih]
def gInts (g : List Int → Res D) : List D → Res D
  | [.lst ds] => match intsD ds with
    | some ns => g ns
    | none => .no
  | _ => .no
def gBls (g : List Bool → Res D) : List D → Res D
  | [.lst ds] => match blsD ds with
    | some ns => g ns
    | none => .no
  | _ => .no
theorem rc_ints {r : List V → Hp → VK → Prop} {g : List Int → Res D} (h : ∀ a ns B H Q, Same B H → SqL K H a (ns.map V.int) → PostV K B H Q (g ns) → r [.ref a] H Q) : RC K r (gInts g) := fun vs ds B H Q i rr hp => by
  unfold gInts at hp
  split at hp
  · split at hp
    · rename_i ds ns e
      cases rr with
      | cons r1 r2 =>
        cases r2
        cases r1 with
        | lst h1 q =>
          rw [intsD_of e] at q
          have e2 := q.ints_of
          subst e2
          exact h _ _ B H Q i (i.seq h1) hp
    · exact hp.elim
  · exact hp.elim
theorem rc_bls {r : List V → Hp → VK → Prop} {g : List Bool → Res D} (h : ∀ a ns B H Q, Same B H → SqL K H a (ns.map V.bl) → PostV K B H Q (g ns) → r [.ref a] H Q) : RC K r (gBls g) := fun vs ds B H Q i rr hp => by
  unfold gBls at hp
  split at hp
  · split at hp
    · rename_i ds ns e
      cases rr with
      | cons r1 r2 =>
        cases r2
        cases r1 with
        | lst h1 q =>
          rw [blsD_of e] at q
          have e2 := q.bls_of
          subst e2
          exact h _ _ B H Q i (i.seq h1) hp
    · exact hp.elim
  · exact hp.elim
theorem gInts_calm {g : List Int → Res D} (h : ∀ ns x, g ns ≠ .er x) (ds : List D) (x : Exn) : gInts g ds ≠ .er x := by
  unfold gInts; split <;> (try split) <;> first | exact h _ _ | simp
theorem gBls_calm {g : List Bool → Res D} (h : ∀ ns x, g ns ≠ .er x) (ds : List D) (x : Exn) : gBls g ds ≠ .er x := by
  unfold gBls; split <;> (try split) <;> first | exact h _ _ | simp
def gSum : List D → Res D := gInts fun ns => .ok (.int ns.sum)
def gAll : List D → Res D := gBls fun bs => .ok (.bl (bs.all id))
def gAny : List D → Res D := gBls fun bs => .ok (.bl (bs.any id))
theorem q_k_all (hc : X.calm = true := by rfl) : OKC X (.builtin "all") (rAll X.K) gAll := ⟨cr_all hc, rc_bls fun a ns B H Q i hs hp => ⟨a, ns, rfl, hs, hp _ B H (Grow.refl i) (.v _)⟩, gBls_calm fun _ _ => by simp⟩
theorem k_all (K : PySem.W.Frag) (hK : X.K = K) (hc : X.calm = true := by rfl) : OKC X (.builtin "all") (rAll K) gAll := by
  subst hK
  exact (q_k_all hc)
theorem q_k_any (hc : X.calm = true := by rfl) : OKC X (.builtin "any") (rAny X.K) gAny := ⟨cr_any hc, rc_bls fun a ns B H Q i hs hp => ⟨a, ns, rfl, hs, hp _ B H (Grow.refl i) (.v _)⟩, gBls_calm fun _ _ => by simp⟩
theorem k_any (K : PySem.W.Frag) (hK : X.K = K) (hc : X.calm = true := by rfl) : OKC X (.builtin "any") (rAny K) gAny := by
  subst hK
  exact (q_k_any hc)
def minI : Int → List Int → Int
  | m, [] => m
  | m, n :: ns => minI (if n < m then n else m) ns
def maxI : Int → List Int → Int
  | m, [] => m
  | m, n :: ns => maxI (if m < n then n else m) ns
theorem minI_spec : ∀ (ns : List Int) (m : Int), minI m ns ∈ m :: ns ∧ ∀ y ∈ m :: ns, minI m ns ≤ y
  | [], m => by simp [minI]
  | n :: ns, m => by
    obtain ⟨h1, h2⟩ := minI_spec ns (if n < m then n else m)
    unfold minI
    refine ⟨?_, fun y hy => ?_⟩
    · rcases List.mem_cons.mp h1 with e | e
      · rw [e]; split <;> simp
      · simp [e]
    · have h3 := h2 (if n < m then n else m) (by simp)
      have h4 : (if n < m then n else m) ≤ m ∧ (if n < m then n else m) ≤ n := by split <;> omega
      rcases List.mem_cons.mp hy with e | e
      · subst e; exact Int.le_trans h3 h4.1
      · rcases List.mem_cons.mp e with e | e
        · subst e; exact Int.le_trans h3 h4.2
        · exact h2 y (by simp [e])
theorem maxI_spec : ∀ (ns : List Int) (m : Int), maxI m ns ∈ m :: ns ∧ ∀ y ∈ m :: ns, y ≤ maxI m ns
  | [], m => by simp [maxI]
  | n :: ns, m => by
    obtain ⟨h1, h2⟩ := maxI_spec ns (if m < n then n else m)
    unfold maxI
    refine ⟨?_, fun y hy => ?_⟩
    · rcases List.mem_cons.mp h1 with e | e
      · rw [e]; split <;> simp
      · simp [e]
    · have h3 := h2 (if m < n then n else m) (by simp)
      have h4 : m ≤ (if m < n then n else m) ∧ n ≤ (if m < n then n else m) := by split <;> omega
      rcases List.mem_cons.mp hy with e | e
      · subst e; exact Int.le_trans h4.1 h3
      · rcases List.mem_cons.mp e with e | e
        · subst e; exact Int.le_trans h4.2 h3
        · exact h2 y (by simp [e])
def gMin : List D → Res D
  | [.v (.int i), .v (.int j)] => .ok (.int (if j < i then j else i))
  | ds => gInts (fun ns => match ns with | [] => .no | n :: ns => .ok (.int (minI n ns))) ds
def gMax : List D → Res D
  | [.v (.int i), .v (.int j)] => .ok (.int (if j > i then j else i))
  | ds => gInts (fun ns => match ns with | [] => .no | n :: ns => .ok (.int (maxI n ns))) ds
theorem q_k_min (hc : X.calm = true := by rfl) : OKC X (.builtin "min") (fun xs H Q => (∃ i j, xs = [V.int i, .int j] ∧ Q (.int (if j < i then j else i)) H) ∨ rMin X.K xs H Q) gMin := ⟨CallR.or (call_min2 hc) (cr_min hc), fun vs ds B H Q i r h => by
  unfold gMin at h
  split at h
  · cases r with
    | cons r1 r2 =>
      cases r2 with
      | cons r2 r3 => cases r1; cases r2; cases r3; exact .inl ⟨_, _, rfl, h _ B H (Grow.refl i) (.v _)⟩
  · refine .inr (rc_ints (r := rMin X.K) (fun a ns B H Q i hs hp => ?_) vs ds B H Q i r h)
    cases ns with
    | nil => exact hp.elim
    | cons n ns =>
      refine ⟨a, n :: ns, rfl, hs, by simp, fun m hm hl => ?_⟩
      obtain ⟨h1, h2⟩ := minI_spec ns n
      have e : m = minI n ns := Int.le_antisymm (hl _ h1) (h2 _ hm)
      rw [e]
      exact hp _ B H (Grow.refl i) (.v _), fun ds x => by
  unfold gMin
  split
  · simp
  · exact gInts_calm (fun ns x => by cases ns <;> simp) _ _⟩
theorem k_min (K : PySem.W.Frag) (hK : X.K = K) (hc : X.calm = true := by rfl) : OKC X (.builtin "min") (fun xs H Q => (∃ i j, xs = [V.int i, .int j] ∧ Q (.int (if j < i then j else i)) H) ∨ rMin K xs H Q) gMin := by
  subst hK
  exact (q_k_min hc)
theorem q_k_max (hc : X.calm = true := by rfl) : OKC X (.builtin "max") (fun xs H Q => (∃ i j, xs = [V.int i, .int j] ∧ Q (.int (if j > i then j else i)) H) ∨ rMax X.K xs H Q) gMax := ⟨CallR.or (call_max2 hc) (cr_max hc), fun vs ds B H Q i r h => by
  unfold gMax at h
  split at h
  · cases r with
    | cons r1 r2 =>
      cases r2 with
      | cons r2 r3 => cases r1; cases r2; cases r3; exact .inl ⟨_, _, rfl, h _ B H (Grow.refl i) (.v _)⟩
  · refine .inr (rc_ints (r := rMax X.K) (fun a ns B H Q i hs hp => ?_) vs ds B H Q i r h)
    cases ns with
    | nil => exact hp.elim
    | cons n ns =>
      refine ⟨a, n :: ns, rfl, hs, by simp, fun m hm hl => ?_⟩
      obtain ⟨h1, h2⟩ := maxI_spec ns n
      have e : m = maxI n ns := Int.le_antisymm (h2 _ hm) (hl _ h1)
      rw [e]
      exact hp _ B H (Grow.refl i) (.v _), fun ds x => by
  unfold gMax
  split
  · simp
  · exact gInts_calm (fun ns x => by cases ns <;> simp) _ _⟩
theorem k_max (K : PySem.W.Frag) (hK : X.K = K) (hc : X.calm = true := by rfl) : OKC X (.builtin "max") (fun xs H Q => (∃ i j, xs = [V.int i, .int j] ∧ Q (.int (if j > i then j else i)) H) ∨ rMax K xs H Q) gMax := by
  subst hK
  exact (q_k_max hc)
def sortI (ns : List Int) : List Int := ns.mergeSort (fun a b => decide (a ≤ b))
theorem sortI_perm (ns : List Int) : (sortI ns).Perm ns := List.mergeSort_perm ns _
theorem sortI_sorted (ns : List Int) : (sortI ns).Pairwise (· ≤ ·) := by
  have h := List.pairwise_mergeSort (le := fun (a b : Int) => decide (a ≤ b)) (fun a b c h1 h2 => by simp at *; omega) (fun a b => by simp; omega) ns
  exact h.imp fun h => by simpa using h
theorem sortI_unique {ns ms : List Int} (hp : ms.Perm ns) (hs : ms.Pairwise (· ≤ ·)) : ms = sortI ns :=
  List.Perm.eq_of_pairwise (fun _ _ _ _ a b => Int.le_antisymm a b) hs (sortI_sorted ns) (hp.trans (sortI_perm ns).symm)
def gSortedI : List D → Res D := gInts fun ns => .ok (.lst ((sortI ns).map D.int))
def gTuple : List D → Res D
  | [.lst xs] => .ok (.tup xs)
  | [.tup xs] => .ok (.tup xs)
  | _ => .no
theorem q_k_tuple : OKC X (.type "tuple") (fun xs H Q => ∃ p ys, xs = [.ref p] ∧ ((SqL X.K H p ys ∧ ∀ l, H l = none → Q (.ref l) (upd H l (.tup ys))) ∨ (SqT X.K H p ys ∧ Q (.ref p) H))) gTuple := ⟨call_tuple_of, fun vs ds B H Q i r h => by
  unfold gTuple at h
  split at h
  · cases r with
    | cons r1 r2 =>
      cases r2
      cases r1 with
      | lst h1 q => exact ⟨_, _, rfl, .inl ⟨i.seq h1, fun p hp => h _ _ _ (Grow.new i hp) (.tup (SqT.of upd_same) (q.mono (Grow.new (K := X.K) i hp).b))⟩⟩
  · cases r with
    | cons r1 r2 =>
      cases r2
      cases r1 with
      | tup h1 q => exact ⟨_, _, rfl, .inr ⟨sqT_mono i h1, h _ B H (Grow.refl i) (.tup h1 q)⟩⟩
  · exact h.elim, fun ds x => by unfold gTuple; split <;> simp⟩
theorem k_tuple (K : PySem.W.Frag) (hK : X.K = K) : OKC X (.type "tuple") (fun xs H Q => ∃ p ys, xs = [.ref p] ∧ ((SqL K H p ys ∧ ∀ l, H l = none → Q (.ref l) (upd H l (.tup ys))) ∨ (SqT K H p ys ∧ Q (.ref p) H))) gTuple := by
  subst hK
  exact (q_k_tuple )
def gList : List D → Res D
  | [.lst xs] => .ok (.lst xs)
  | [.tup xs] => .ok (.lst xs)
  | _ => .no
def tyD : D → Option String
  | .v .non => some "NoneType"
  | .v (.bl _) => some "bool"
  | .v (.int _) => some "int"
  | .v (.str _) => some "str"
  | .lst _ => some "list"
  | .tup _ => some "tuple"
  | _ => none
end
end DV
namespace DV
open PySem L2
section
variable {X : Cx} {W : WX} {K : PySem.W.Frag}
def isiD (d : D) (T : String) : Option Bool := match tyD d with
  | some t => if T = "int" then some (t == "int" || t == "bool") else if T = "bool" then some (t == "bool") else if T = "str" then some (t == "str") else if T = "list" then some (t == "list") else if T = "tuple" then some (t == "tuple") else none
  | none => none
def tys : List String := ["NoneType", "bool", "int", "str", "list", "tuple"]
theorem kit_all : (tys.all fun t => kitB t "int" == some (t == "int" || t == "bool") && kitB t "bool" == some (t == "bool") && kitB t "str" == some (t == "str") && kitB t "list" == some (t == "list") && kitB t "tuple" == some (t == "tuple")) = true := by decide +kernel
theorem tyD_mem {d : D} {t : String} (h : tyD d = some t) : t ∈ tys := by
  unfold tyD at h
  split at h <;> first | (cases h; decide) | cases h
theorem kit_isi {d : D} {T t : String} {b : Bool} (ht : tyD d = some t) (h : isiD d T = some b) : kitB t T = some b := by
  have hm := List.all_eq_true.mp kit_all t (tyD_mem ht)
  simp only [Bool.and_eq_true, beq_iff_eq] at hm
  unfold isiD at h
  rw [ht] at h
  dsimp only at h
  obtain ⟨⟨⟨⟨h1, h2⟩, h3⟩, h4⟩, h5⟩ := hm
  split at h
  · rename_i e; rw [e, h1]; exact h
  · split at h
    · rename_i e; rw [e, h2]; exact h
    · split at h
      · rename_i e; rw [e, h3]; exact h
      · split at h
        · rename_i e; rw [e, h4]; exact h
        · split at h
          · rename_i e; rw [e, h5]; exact h
          · cases h
theorem tyX_of {B H : Hp} {x : V} {d : D} {t : String} (i : Same B H) (r : Rp K B x d) (ht : tyD d = some t) : TyX K H x (.type t) := by
  cases r with
  | v x =>
    unfold tyD at ht
    cases x <;> first | (cases ht; exact .base .non) | (cases ht; exact .base (.bl _)) | (cases ht; exact .base (.int _)) | (cases ht; exact .base (.str _)) | cases ht
  | lst h q =>
    cases ht
    rcases h with (h | ⟨o, h⟩) | ⟨o, its, n, h1, h2, _⟩
    · exact .base (.lst (i _ _ h))
    · exact .base (.frz (i _ _ h))
    · exact .kList h1 h2
  | tup h q =>
    cases ht
    rcases h with (h | ⟨o, h⟩) | ⟨o, its, n, h1, h2, _⟩
    · exact .base (.tup (i _ _ h))
    · exact .fTuple (i _ _ h)
    · exact .kTuple h1 h2
  | dct h q => cases ht
  | dlk h q => cases ht
  | dcT _ _ _ _ _ _ _ => cases ht
  | ins h _ _ q => cases ht
  | ptp _ _ => cases ht
  | wor _ _ _ _ => cases ht
def gIsi : List D → Res D
  | [d, .v (.ty T)] => match isiD d T with
    | some b => .ok (.bl b)
    | none => .no
  | _ => .no
theorem q_k_isi : OKC X (.builtin "isinstance") (rIsi X.K) gIsi := ⟨call_isi, fun vs ds B H Q i r h => by
  unfold gIsi at h
  split at h
  · split at h
    · rename_i d T _ b e
      cases r with
      | cons r1 r2 =>
        cases r2 with
        | cons r2 r3 =>
          cases r2
          cases r3
          cases ht : tyD d with
          | none => unfold isiD at e; rw [ht] at e; cases e
          | some t => exact ⟨_, _, _, _, b, rfl, .ty T, tyX_of i r1 ht, kit_ty (kit_isi ht e), h _ B H (Grow.refl i) (.v _)⟩
    · exact h.elim
  · exact h.elim, fun ds x => by unfold gIsi; split <;> (try split) <;> simp⟩
theorem k_isi (K : PySem.W.Frag) (hK : X.K = K) : OKC X (.builtin "isinstance") (rIsi K) gIsi := by
  subst hK
  exact (q_k_isi )
def wipeD (δ : DS) : List Nat → DS
  | [] => δ
  | v :: vs => (wipeD δ vs).set v none
theorem Rel.wipe {B0 : Hp} {H0 : Org} {B H : Hp} {σ : L2.St} {δ : DS} (r : Rel K B0 H0 B H σ δ) : ∀ vs : List Nat, Rel K B0 H0 B H (wipe σ vs) (wipeD δ vs)
  | [] => r
  | v :: vs => (Rel.wipe r vs).drop v
theorem wipe_get (σ : L2.St) (j : Nat) : ∀ vs : List Nat, (wipe σ vs)[j]? = if j ∈ vs ∧ j < σ.length then some none else σ[j]?
  | [] => by simp [wipe]
  | v :: vs => by
    unfold wipe
    by_cases hv : v = j
    · subst hv
      by_cases hl : v < σ.length
      · rw [List.getElem?_set_self (by rw [wipe_length]; exact hl), if_pos ⟨by simp, hl⟩]
      · rw [if_neg (fun z => hl z.2), List.getElem?_eq_none (by simp [wipe_length]; omega), List.getElem?_eq_none (by omega)]
    · rw [List.getElem?_set_ne hv, wipe_get σ j vs]
      have hv' : ¬ j = v := fun e => hv e.symm
      simp only [List.mem_cons, hv', false_or]
theorem wipe_eq {σ σ' : L2.St} {vs : List Nat} (hl : σ'.length = σ.length) (h : ∀ j, j ∉ vs → σ'[j]? = σ[j]?) : wipe σ' vs = wipe σ vs := by
  apply List.ext_getElem?
  intro j
  rw [wipe_get, wipe_get, hl]
  by_cases hj : j ∈ vs
  · by_cases h2 : j < σ.length
    · rw [if_pos ⟨hj, h2⟩, if_pos ⟨hj, h2⟩]
    · rw [if_neg (fun z => h2 z.2), if_neg (fun z => h2 z.2), List.getElem?_eq_none (by omega), List.getElem?_eq_none (by omega)]
  · rw [if_neg (fun z => hj z.1), if_neg (fun z => hj z.1)]
    exact h j hj
structure CG (X : Cx) (tg : Expr) (g : TG) (is : List Nat) (b : D → DS → Option DS) : Prop where
  pg : PG X tg g
  sg : ∀ B0 H0 B H σ δ v d (Q : L2.St → Hp → Prop), Rel X.K B0 H0 B H σ δ → Rp X.K B v d → (∀ δ' σ', b d δ = some δ' → Rel X.K B0 H0 B H σ' δ' → σ'.length = σ.length → (∀ j, j ∉ is → σ'[j]? = σ[j]?) → Q σ' H) → b d δ ≠ none → g v σ H Q
structure CGs (X : Cx) (tgs : List Expr) (g : TGs) (is : List Nat) (b : List D → DS → Option DS) : Prop where
  pg : PGs X tgs g
  sg : ∀ B0 H0 B H σ δ vs ds (Q : L2.St → Hp → Prop), Rel X.K B0 H0 B H σ δ → RpA X.K B vs ds → (∀ δ' σ', b ds δ = some δ' → Rel X.K B0 H0 B H σ' δ' → σ'.length = σ.length → (∀ j, j ∉ is → σ'[j]? = σ[j]?) → Q σ' H) → b ds δ ≠ none → g vs σ H Q
def bName (i : Nat) : D → DS → Option DS := fun d δ => some (δ.set i (some (.im d)))
theorem cg_name (i : Nat) {x : Str} {pos : Pos} (hN : X.N.Nodup) (hi : X.N[i]? = some x := by rfl) (hx : Loc X.env.scope x := by first | exact Or.inl rfl | exact Or.inr rfl) (hf : X.fn x = true ∨ X.env.scope.names.lookup x = some .local := by first | exact .inl rfl | exact .inr rfl | assumption) : CG X (.Name x pos) (gName i) [i] (bName i) :=
  ⟨pg_name hN hi hx hf, fun B0 H0 B H σ δ v d Q rel rp h _ => h _ _ rfl (rel.set i rp) (by simp) fun j hj => by
    rw [List.getElem?_set_ne]
    intro e
    exact hj (by simp [e])⟩
def bNil : List D → DS → Option DS := fun ds δ => match ds with
  | [] => some δ
  | _ => none
def bCons (b : D → DS → Option DS) (c : List D → DS → Option DS) : List D → DS → Option DS := fun ds δ => match ds with
  | [] => none
  | d :: ds => (b d δ).bind fun δ' => c ds δ'
def bTup (n : Nat) (c : List D → DS → Option DS) : D → DS → Option DS := fun d δ => match d with
  | .tup ds => if ds.length = n then c ds δ else none
  | _ => none
theorem cgs_nil : CGs X [] gNil [] bNil := ⟨pgs_nil, fun B0 H0 B H σ δ vs ds Q rel rp h hn => by
  cases rp with
  | nil => exact ⟨rfl, h δ σ rfl rel rfl fun _ _ => rfl⟩
  | cons _ _ => exact absurd rfl hn⟩
theorem cgs_cons {e : Expr} {es : List Expr} {t : TG} {u : TGs} {is js : List Nat} {b : D → DS → Option DS} {c : List D → DS → Option DS} (h1 : CG X e t is b) (h2 : CGs X es u js c) (hs : (assignEach (e :: es) X.env).map (·.2) = assign e X.env :: (assignEach es X.env).map (·.2)) : CGs X (e :: es) (gCons t u) (is ++ js) (bCons b c) :=
  ⟨pgs_cons h1.pg h2.pg hs, fun B0 H0 B H σ δ vs ds Q rel rp h hn => by
    cases rp with
    | nil => exact absurd rfl hn
    | @cons v vs d ds r1 r2 =>
      refine ⟨v, vs, rfl, ?_⟩
      have e0 : bCons b c (d :: ds) δ = (b d δ).bind fun δ' => c ds δ' := rfl
      rw [e0] at hn
      refine h1.sg B0 H0 B H σ δ v d _ rel r1 (fun δ1 σ1 e1 rel1 l1 f1 => ?_) (fun z => hn (by rw [z]; rfl))
      rw [e1] at hn
      refine h2.sg B0 H0 B H σ1 δ1 vs ds _ rel1 r2 (fun δ2 σ2 e2 rel2 l2 f2 => ?_) hn
      refine h δ2 σ2 (by rw [e0, e1]; exact e2) rel2 (l2.trans l1) fun j hj => ?_
      rw [List.mem_append, not_or] at hj
      exact (f2 j hj.2).trans (f1 j hj.1)⟩
theorem q_cg_tup {es : List Expr} {kk : Nat} {pos : Pos} {t : TGs} {n : Nat} {is : List Nat} {c : List D → DS → Option DS} (hc : X.calm = true) (h : CGs X es t is c) (hn : (assignEach es X.env).length = n) (hst : (assignEach es X.env).findIdx? (·.1) = none) : CG X (.Tuple es kk pos) (gTup X.K n t) is (bTup n c) :=
  ⟨pg_tup hc h.pg hn hst, fun B0 H0 B H σ δ v d Q rel rp hq hn => by
    unfold bTup at hn
    split at hn
    · rename_i ds
      split at hn
      · rename_i hl
        cases rp with
        | tup h1 q =>
          refine ⟨_, _, rfl, sqT_mono rel.g.i h1, by rw [q.length]; exact hl, ?_⟩
          refine h.sg B0 H0 B H σ δ _ ds _ rel q (fun δ' σ' e r l f => hq δ' σ' ?_ r l f) hn
          unfold bTup
          dsimp only
          rw [if_pos hl]
          exact e
      · exact absurd rfl hn
    · exact absurd rfl hn⟩
theorem cg_tup (K : PySem.W.Frag) (hK : X.K = K) {es : List Expr} {kk : Nat} {pos : Pos} {t : TGs} {n : Nat} {is : List Nat} {c : List D → DS → Option DS} (hc : X.calm = true) (h : CGs X es t is c) (hn : (assignEach es X.env).length = n) (hst : (assignEach es X.env).findIdx? (·.1) = none) : CG X (.Tuple es kk pos) (gTup K n t) is (bTup n c) := by
  subst hK
  exact (q_cg_tup hc h hn hst)
def PostI (K : PySem.W.Frag) (B H : Hp) (σ : L2.St) (W : WX) (R : It → Hp → Prop) : Res (List D) → Prop
  | .ok ds => ∀ J B' H' G Y, Grow K B H B' H' → Walk J ds.length G Y → (∀ H2, Same B' H2 → G H2) →
      (∀ i d B2 H2 x H3, ds[i]? = some d → Same B' B2 → Same B2 H2 → Y i H2 x H3 → ∃ B3, Grow K B2 H2 B3 H3 ∧ Rp K B3 x d) → R J H'
  | .er x => ∀ c dx B' H', Grow K B H B' H' → RpX K B' c dx x → W c dx σ H'
  | .no => False
structure CI (X : Cx) (W : WX) (tg iter : Expr) (wi : TI) (f : DS → Res (List D)) : Prop where
  pi : PI X tg iter wi
  si : ∀ B0 H0 δ σ B H (R : It → Hp → Prop), Rel X.K B0 H0 B H σ δ → PostI X.K B H σ W R (f δ) → wi σ H R
theorem pi_or {tg iter : Expr} {wi wi' : TI} (h : PI X tg iter wi) (h' : PI X tg iter wi') : PI X tg iter (fun σ H R => wi σ H R ∨ wi' σ H R) :=
  ⟨fun pins s σ H R I q => q.elim (h.run pins s σ H R I) (h'.run pins s σ H R I)⟩
def charsD (z : Str) : List D := z.cps.toList.map fun c => D.str ⟨#[c]⟩
def itemsD : D → Res (List D)
  | .lst xs => .ok xs
  | .tup xs => .ok xs
  | .v (.str z) => .ok (charsD z)
  | _ => .no
def cItems (f : DS → Res D) : DS → Res (List D) := fun δ => (f δ).bind itemsD
theorem q_ci_seq {tg e : Expr} {t : TE} {f : DS → Res D} (h : CE X W e t f) : CI X W tg e (fun σ H R => iList X.K t σ H R ∨ (iTup X.K t σ H R ∨ iStr t σ H R)) (cItems f) :=
  ⟨pi_or (pi_list h.pe) (pi_or (pi_tup h.pe) (pi_str h.pe)), fun B0 H0 δ σ B H R rel hp => by
    unfold cItems at hp
    cases e : f δ with
    | no => rw [e] at hp; exact hp.elim
    | er x =>
      rw [e] at hp
      exact .inl (h.se B0 H0 δ σ B H _ rel (by rw [e]; exact hp))
    | ok d =>
      rw [e, Res.bind_ok] at hp
      unfold itemsD at hp
      split at hp
      · refine .inl (h.se B0 H0 δ σ B H _ rel ?_)
        rw [e]
        intro v B1 H1 g1 r1
        cases r1 with
        | @lst a xs ds h1 q =>
          refine ⟨a, rfl, ⟨xs, g1.i.seq h1⟩, ?_⟩
          refine hp _ B1 H1 _ _ g1 (q.length ▸ walk_list) (fun H2 s2 => s2.seq h1) fun i d B2 H2 x H3 hi s1 s2 y => ?_
          obtain ⟨rfl, hx⟩ := y
          obtain ⟨d', hd, rp⟩ := q.get' hx
          rw [hd] at hi
          cases hi
          exact ⟨B2, Grow.refl s2, rp.mono s1⟩
      · refine .inr (.inl (h.se B0 H0 δ σ B H _ rel ?_))
        rw [e]
        intro v B1 H1 g1 r1
        cases r1 with
        | @tup a xs ds h1 q =>
          refine ⟨a, rfl, ⟨xs, sqT_mono g1.i h1⟩, ?_⟩
          refine hp _ B1 H1 _ _ g1 (q.length ▸ walk_tup) (fun H2 s2 => sqT_mono s2 h1) fun i d B2 H2 x H3 hi s1 s2 y => ?_
          obtain ⟨rfl, hx⟩ := y
          obtain ⟨d', hd, rp⟩ := q.get' hx
          rw [hd] at hi
          cases hi
          exact ⟨B2, Grow.refl s2, rp.mono s1⟩
      · rename_i z
        refine .inr (.inr (h.se B0 H0 δ σ B H _ rel ?_))
        rw [e]
        intro v B1 H1 g1 r1
        cases r1
        refine ⟨z, rfl, ?_⟩
        have hl : (charsD z).length = z.cps.size := by simp [charsD]
        refine hp _ B1 H1 _ _ g1 (by rw [hl]; exact walk_str) (fun _ _ => trivial) fun i d B2 H2 x H3 hi s1 s2 y => ?_
        obtain ⟨rfl, c, hc, rfl⟩ := y
        refine ⟨B2, Grow.refl s2, ?_⟩
        have : (charsD z)[i]? = some (D.str ⟨#[c]⟩) := by
          unfold charsD
          rw [List.getElem?_map, Array.getElem?_toList, hc]
          rfl
        rw [this] at hi
        cases hi
        exact .v _
      · exact hp.elim⟩
theorem ci_seq (K : PySem.W.Frag) (hK : X.K = K) {tg e : Expr} {t : TE} {f : DS → Res D} (h : CE X W e t f) : CI X W tg e (fun σ H R => iList K t σ H R ∨ (iTup K t σ H R ∨ iStr t σ H R)) (cItems f) := by
  subst hK
  exact (q_ci_seq h)
def rangeD (lo : Int) (n : Nat) : List D := (List.range n).map fun (i : Nat) => D.int (lo + (i : Int))
def gRange1 : List D → Res (List D)
  | [.v (.int j)] => if j.natAbs ≤ 1000000000 then .ok (rangeD 0 j.toNat) else .no
  | _ => .no
def gRange2 : List D → Res (List D)
  | [.v (.int i), .v (.int j)] => if i.natAbs ≤ 1000000000 ∧ j.natAbs ≤ 1000000000 then .ok (rangeD i (j - i).toNat) else .no
  | _ => .no
def cIt (g : List D → Res (List D)) (f : DS → Res (List D)) : DS → Res (List D) := fun δ => (f δ).bind g
theorem postI_range {B H : Hp} {σ : L2.St} {R : It → Hp → Prop} {lo : Int} {n : Nat} {B1 H1 : Hp} (g1 : Grow K B H B1 H1) (hp : PostI K B H σ W R (.ok (rangeD lo n))) : R (Itr lo n) H1 := by
  have hl : (rangeD lo n).length = n := by simp [rangeD]
  refine hp _ B1 H1 _ _ g1 (by rw [hl]; exact walk_range) (fun _ _ => trivial) fun i d B2 H2 x H3 hi s1 s2 y => ?_
  obtain ⟨rfl, rfl⟩ := y
  refine ⟨B2, Grow.refl s2, ?_⟩
  unfold rangeD at hi
  rw [List.getElem?_map] at hi
  cases e : (List.range n)[i]? with
  | none => rw [e] at hi; cases hi
  | some j =>
    rw [e] at hi
    have : j = i := by
      have := List.getElem?_eq_some_iff.mp e
      obtain ⟨h1, h2⟩ := this
      simp at h2
      exact h2.symm
    subst this
    cases hi
    exact .v _
theorem ci_range1 {tg a : Expr} {p pos : Pos} {t : TA} {f : DS → Res (List D)} (hm : X.mg "range" = none) (ha : CL X W [a] t f) (hg : Gl X "range" := by rfl) (hs : starEach [a] X.env = [(false, eval a X.env)] := by rfl) : CI X W tg (.Call (.Name "range" p) [a] [] pos) (iRng1 t) (cIt gRange1 f) :=
  ⟨pi_range1 hg hm ha.pa hs, fun B0 H0 δ σ B H R rel hp => by
    unfold cIt at hp
    refine ha.sa B0 H0 δ σ B H _ rel ?_
    cases e : f δ with
    | no => rw [e] at hp; exact hp
    | er x => rw [e] at hp; exact hp
    | ok ds =>
      rw [e, Res.bind_ok] at hp
      intro vs B1 H1 g1 r1
      unfold gRange1 at hp
      split at hp
      · split at hp
        · rename_i hz
          cases r1 with
          | cons r1 r2 => cases r1; cases r2; exact ⟨_, rfl, by omega, by omega, postI_range g1 hp⟩
        · exact hp.elim
      · exact hp.elim⟩
theorem ci_range2 {tg a b : Expr} {p pos : Pos} {t : TA} {f : DS → Res (List D)} (hm : X.mg "range" = none) (ha : CL X W [a, b] t f) (hg : Gl X "range" := by rfl) (hs : starEach [a, b] X.env = [(false, eval a X.env), (false, eval b X.env)] := by rfl) (hs2 : starEach [b] X.env = [(false, eval b X.env)] := by rfl) : CI X W tg (.Call (.Name "range" p) [a, b] [] pos) (iRng2 t) (cIt gRange2 f) :=
  ⟨pi_range2 hg hm ha.pa hs hs2, fun B0 H0 δ σ B H R rel hp => by
    unfold cIt at hp
    refine ha.sa B0 H0 δ σ B H _ rel ?_
    cases e : f δ with
    | no => rw [e] at hp; exact hp
    | er x => rw [e] at hp; exact hp
    | ok ds =>
      rw [e, Res.bind_ok] at hp
      intro vs B1 H1 g1 r1
      unfold gRange2 at hp
      split at hp
      · split at hp
        · rename_i hz
          cases r1 with
          | cons r1 r2 =>
            cases r2 with
            | cons r2 r3 => cases r1; cases r2; cases r3; exact ⟨_, _, rfl, by omega, postI_range g1 hp⟩
        · exact hp.elim
      · exact hp.elim⟩
abbrev W0 : WX := fun _ _ _ _ => False
def Res.calm {α : Type} : Res α → Res α
  | .ok a => .ok a
  | _ => .no
@[simp] theorem Res.calm_ok {α : Type} (a : α) : (Res.ok a).calm = .ok a := rfl
@[simp] theorem Res.calm_er {α : Type} (x : Exn) : (Res.er x : Res α).calm = .no := rfl
@[simp] theorem Res.calm_no {α : Type} : (Res.no : Res α).calm = .no := rfl
def lcF (b : D → DS → Option DS) (t : DS → Res Bool) (e : DS → Res D) : List D → DS → Res (List D)
  | [], _ => .ok []
  | d :: ds, δ => match b d δ with
    | none => .no
    | some δ' => (t δ').calm.bind fun k => if k = true then (e δ').calm.bind fun y => (lcF b t e ds δ).bind fun ys => .ok (y :: ys) else lcF b t e ds δ
theorem lcF_calm (b : D → DS → Option DS) (t : DS → Res Bool) (e : DS → Res D) : ∀ (ds : List D) (δ : DS) (x : Exn), lcF b t e ds δ ≠ .er x
  | [], δ, x => by simp [lcF]
  | d :: ds, δ, x => by
    unfold lcF
    split
    · simp
    · rename_i δ' _
      have ih := lcF_calm b t e ds δ x
      cases h1 : t δ' with
      | no => simp
      | er x => simp
      | ok k =>
        simp only [Res.calm_ok, Res.bind_ok]
        split
        · cases h2 : e δ' with
          | no => simp
          | er x => simp
          | ok y =>
            simp only [Res.calm_ok, Res.bind_ok]
            cases h3 : lcF b t e ds δ with
            | no => simp
            | er x' => simp only [Res.bind_er]; rw [h3] at ih; exact ih
            | ok ys => simp
        · exact ih
def cLc (vs : List Nat) (fi : DS → Res (List D)) (b : D → DS → Option DS) (t : DS → Res Bool) (e : DS → Res D) : DS → Res (List D) := fun δ => (fi δ).bind fun ds => if ds.length ≤ sizeLine then lcF b t e ds (wipeD δ vs) else .no
structure CTs (X : Cx) (W : WX) (ifs : List Expr) (t : TT) (f : DS → Res Bool) : Prop where
  pt : PTs X ifs t
  st : ST X.K W t f
def cYes : DS → Res Bool := fun _ => .ok true
theorem cts_nil : CTs X W [] tYes cYes := ⟨pts_nil, fun B0 H0 δ σ B H Q rel hp => hp B H (Grow.refl rel.g.i)⟩
theorem cts_one {c : Expr} {t : TT} {f : DS → Res Bool} (h : CT X W c t f) : CTs X W [c] t f := ⟨pts_one h.pt, h.st⟩
theorem sf_lc {wi : TI} {g : TG} {tt : TT} {te : TE} {vs is : List Nat} {fi : DS → Res (List D)} {b : D → DS → Option DS} {t : DS → Res Bool} {e : DS → Res D}
    (hi : ∀ B0 H0 δ σ B H (R : It → Hp → Prop), Rel K B0 H0 B H σ δ → PostI K B H σ W R (fi δ) → wi σ H R)
    (hg : ∀ B0 H0 B H σ δ v d (Q : L2.St → Hp → Prop), Rel K B0 H0 B H σ δ → Rp K B v d → (∀ δ' σ', b d δ = some δ' → Rel K B0 H0 B H σ' δ' → σ'.length = σ.length → (∀ j, j ∉ is → σ'[j]? = σ[j]?) → Q σ' H) → b d δ ≠ none → g v σ H Q)
    (ht : ST K W0 tt t) (he : SE K W0 te e) (his : ∀ i ∈ is, i ∈ vs) : SF K W (tLc wi g tt te vs) (cLc vs fi b t e) := fun B0 H0 δ σ B H Q rel hp => by
  unfold cLc at hp
  refine hi B0 H0 δ σ B H _ rel ?_
  cases e1 : fi δ with
  | no => rw [e1] at hp; exact hp
  | er x => rw [e1] at hp; exact hp
  | ok ds =>
    rw [e1, Res.bind_ok] at hp
    split at hp
    case isFalse => exact hp.elim
    case isTrue hz =>
      intro J B1 H1 G Y g1 wk hG hY Dl hD
      cases e2 : lcF b t e ds (wipeD δ vs) with
      | no => rw [e2] at hp; exact hp.elim
      | er x => exact absurd e2 (lcF_calm b t e ds _ x)
      | ok ys =>
        rw [e2] at hp
        have relw := (rel.mono g1).wipe vs
        refine lc_it wk (fun i H' => ∃ B' us done rest, Grow K B1 H1 B' H' ∧ B' Dl = none ∧ H' Dl = some (.lst us) ∧ RpA K B' us done ∧ us.length ≤ i ∧ lcF b t e (ds.drop i) (wipeD δ vs) = .ok rest ∧ done ++ rest = ys) ?_ ?_ ?_ ?_
        · exact ⟨B1, [], [], ys, Grow.raw g1.i hD, g1.i.free hD, upd_same, .nil, Nat.zero_le _, by simpa using e2, rfl⟩
        · rintro i H' hin ⟨B', us, done, rest, gr, hb, hh, rp, hl, hr, hy⟩
          exact hG H' (gr.b.trans gr.i)
        · rintro i x H2 H3 hin ⟨B', us, done, rest, gr, hb, hh, rp, hl, hr, hy⟩ y
          have hlt : i < ds.length := hin
          have hdi : ds[i]? = some ds[i] := by simp [hlt]
          obtain ⟨B3, g3, rx⟩ := hY i ds[i] B' H2 x H3 hdi gr.b gr.i y
          have hdrop : ds.drop i = ds[i] :: ds.drop (i + 1) := List.drop_eq_getElem_cons hlt
          rw [hdrop] at hr
          unfold lcF at hr
          cases e3 : b ds[i] (wipeD δ vs) with
          | none => rw [e3] at hr; cases hr
          | some δ' =>
            rw [e3] at hr
            dsimp only at hr
            have rel3 : Rel K B0 H0 B3 H3 (wipe σ vs) (wipeD δ vs) := (relw.mono gr).mono g3
            refine hg B0 H0 B3 H3 _ _ x ds[i] _ rel3 rx (fun δ2 σ2 e4 rel4 l4 f4 => ?_) (by rw [e3]; simp)
            rw [e3] at e4
            cases e4
            refine ⟨?_, ?_⟩
            · refine (wipe_eq (σ := wipe σ vs) l4 fun j hj => f4 j fun z => hj (his j z)).trans (wipe_eq (wipe_length σ vs) fun j hj => ?_)
              rw [wipe_get, if_neg (fun z => hj z.1)]
            refine ht B0 H0 δ' σ2 B3 H3 _ rel4 ?_
            cases e5 : t δ' with
            | no => rw [e5] at hr; simp at hr
            | er x => rw [e5] at hr; simp at hr
            | ok k =>
              rw [e5, Res.calm_ok, Res.bind_ok] at hr
              intro B4 H4 g4
              cases k with
              | false =>
                rw [if_neg Bool.false_ne_true] at hr ⊢
                have gg := (gr.trans g3).trans g4
                have hD4 : H4 Dl = some (.lst us) := (g3.trans g4).h _ _ hh ⟨fun _ z => (by cases z), fun _ _ _ z => (by cases z)⟩
                refine ⟨B4, us, done, rest, gg, ?_, hD4, rp.mono (g3.b.trans g4.b), by omega, hr, hy⟩
                rw [(g3.trans g4).f Dl (by rw [hh]; simp)]; exact hb
              | true =>
                rw [if_pos rfl] at hr ⊢
                refine he B0 H0 δ' σ2 B4 H4 _ (rel4.mono g4) ?_
                cases e6 : e δ' with
                | no => rw [e6] at hr; simp at hr
                | er x => rw [e6] at hr; simp at hr
                | ok yd =>
                  rw [e6, Res.calm_ok, Res.bind_ok] at hr
                  intro yv B5 H5 g5 r5
                  have gA := (g3.trans g4).trans g5
                  have hD5 : H5 Dl = some (.lst us) := gA.h _ _ hh ⟨fun _ z => (by cases z), fun _ _ _ z => (by cases z)⟩
                  have hB5 : B5 Dl = none := by rw [gA.f Dl (by rw [hh]; simp)]; exact hb
                  refine ⟨us, hD5, by omega, ?_⟩
                  cases e7 : lcF b t e (ds.drop (i + 1)) (wipeD δ vs) with
                  | no => rw [e7] at hr; cases hr
                  | er x => exact absurd e7 (lcF_calm b t e _ _ x)
                  | ok rest' =>
                    rw [e7, Res.bind_ok] at hr
                    cases hr
                    have gT := gr.trans gA
                    have neD : ∀ a o, B5 a = some o → a ≠ Dl := fun a o q z => by rw [z, hB5] at q; cases q
                    refine ⟨B5, us ++ [yv], done ++ [yd], rest', ⟨gT.b, fun a o q nq => ?_, fun a o q => ?_, gT.f, fun a ha => ?_, fun P hP => tab_upd (gT.t P hP) hD5, gT.np hD5 (std_lst _).2⟩, hB5, upd_same, (rp.mono gA.b).append (.cons r5 .nil), by simp; omega, rfl, by simpa using hy⟩
                    · rw [upd_ne (ne_of_none q hD)]; exact gT.h a o q nq
                    · rw [upd_ne (neD a o q)]; exact gT.i a o q
                    · have : a ≠ Dl := fun z => ha (by rw [z]; exact hD)
                      rw [upd_ne this]; exact gT.e a ha
        · rintro H' ⟨B', us, done, rest, gr, hb, hh, rp, hl, hr, hy⟩
          rw [List.drop_length] at hr
          cases hr
          rw [List.append_nil] at hy
          subst hy
          exact hp Dl us B' H' (g1.trans gr) (g1.free hD) hb hh rp
structure LC (X : Cx) (W : WX) (e : Expr) (t : TE) (f : DS → Res (List D)) : Prop extends CF X W e t f where
  set_ : ∀ (i : Nat) (y : Str) (py spos : Pos), X.N[i]? = some y → X.env.scope.names.lookup y = some .local → swapsWith e (some (.Name y py)) spos.line X.env = pure true → PS X (.Assign [.Name y py] e spos) (tAsg t (gName i))
theorem lc_1 {elt tg iter : Expr} {ifs : List Expr} {scope : Scope} {own : List (Str × Nat)} {pos : Pos} {wi : TI} {g : TG} {tt : TT} {te : TE} {is : List Nat} {fi : DS → Res (List D)} {b : D → DS → Option DS} {t : DS → Res Bool} {e : DS → Res D}
    (s0 : Shared) (hc : X.calm = true) (hN : X.N.Nodup) (hi : CI X W tg iter wi fi) (ok : BlkOk X.N X.env.scope scope own)
    (hg : ∀ (s : Shared) (H : Hp) (C : Addr) (cl : List (Str × Addr)) (fp : List Addr), CG (X.blk s H scope (compEnvC scope cl C X.env) fp) tg g is b)
    (ht : ∀ (s : Shared) (H : Hp) (C : Addr) (cl : List (Str × Addr)) (fp : List Addr), CTs (X.blk s H scope (compEnvC scope cl C X.env) fp) W0 ifs tt t)
    (he : ∀ (s : Shared) (H : Hp) (C : Addr) (cl : List (Str × Addr)) (fp : List Addr), CE (X.blk s H scope (compEnvC scope cl C X.env) fp) W0 elt te e)
    (his : ∀ i ∈ is, i ∈ own.map (·.2) := by decide) (hs : ∀ x, foldedSetIterable iter X.env x = pure x := by intro _; rfl) :
    LC X W (.ListComp elt [⟨tg, iter, ifs, 0⟩] scope pos) (tLc wi g tt te (own.map (·.2))) (cLc (own.map (·.2)) fi b t e) :=
  ⟨⟨pe_lc hc hN hi.pi ok (fun s H C cl fp => (hg s H C cl fp).pg) (fun s H C cl fp => (ht s H C cl fp).pt) (fun s H C cl fp => (he s H C cl fp).pe) hs,
    sf_lc hi.si (hg s0 (fun _ => none) 0 [] []).sg (ht s0 (fun _ => none) 0 [] []).st (he s0 (fun _ => none) 0 [] []).se his⟩,
   fun i y py spos hy hyl hsw => ps_setLc hc hN hy hyl hsw hi.pi ok (fun s H C cl fp => (hg s H C cl fp).pg) (fun s H C cl fp => (ht s H C cl fp).pt) (fun s H C cl fp => (he s H C cl fp).pe) hs⟩
end
end DV
namespace DV
open PySem L2
def stE {α : Type} (r : Res α) (δ : DS) (k : α → Fl) : Fl := match r with
  | .ok a => k a
  | .er x => .rs x δ
  | .no => .no
@[simp] theorem stE_ok {α : Type} (a : α) (δ : DS) (k : α → Fl) : stE (.ok a) δ k = k a := rfl
@[simp] theorem stE_er {α : Type} (x : Exn) (δ : DS) (k : α → Fl) : stE (.er x : Res α) δ k = .rs x δ := rfl
@[simp] theorem stE_no {α : Type} (δ : DS) (k : α → Fl) : stE (.no : Res α) δ k = .no := rfl
def Fl.then : Fl → (DS → Fl) → Fl
  | .nx δ, g => g δ
  | r, _ => r
@[simp] theorem Fl.then_nx (δ : DS) (g : DS → Fl) : (Fl.nx δ).then g = g δ := rfl
@[simp] theorem Fl.then_rt (d : D) (g : DS → Fl) : (Fl.rt d).then g = .rt d := rfl
@[simp] theorem Fl.then_rf (ds : List D) (g : DS → Fl) : (Fl.rf ds).then g = .rf ds := rfl
@[simp] theorem Fl.then_rn (t : T) (g : DS → Fl) : (Fl.rn t).then g = .rn t := rfl
@[simp] theorem Fl.then_ro (d : D) (δ : DS) (g : DS → Fl) : (Fl.ro d δ).then g = .ro d δ := rfl
@[simp] theorem Fl.then_rs (x : Exn) (δ : DS) (g : DS → Fl) : (Fl.rs x δ).then g = .rs x δ := rfl
@[simp] theorem Fl.then_bk (δ : DS) (g : DS → Fl) : (Fl.bk δ).then g = .bk δ := rfl
@[simp] theorem Fl.then_ct (δ : DS) (g : DS → Fl) : (Fl.ct δ).then g = .ct δ := rfl
@[simp] theorem Fl.then_no (g : DS → Fl) : (Fl.no).then g = .no := rfl
section
variable {X : Cx} {W : WX} {K : PySem.W.Frag} {B0 : Hp} {H0 : Org} {B H : Hp} {σ : L2.St} {δ : DS} {E : Ends}
theorem postS_mono {B' : Hp} {r : Fl} (s : Same B B') (h : PostS K B0 H0 B W E r) : PostS K B0 H0 B' W E r := by
  cases r with
  | nx δ => exact fun σ B2 H2 s2 rel => h σ B2 H2 (s.trans s2) rel
  | bk δ => exact fun σ B2 H2 s2 rel => h σ B2 H2 (s.trans s2) rel
  | ct δ => exact fun σ B2 H2 s2 rel => h σ B2 H2 (s.trans s2) rel
  | rt d => exact fun v B2 H2 s2 g rp => h v B2 H2 (s.trans s2) g rp
  | rf ds => exact fun p xs B2 H2 s2 g h0 hb hh rr => h p xs B2 H2 (s.trans s2) g h0 hb hh rr
  | rn t => exact fun v B2 H2 s2 g rt n => h v B2 H2 (s.trans s2) g rt n
  | ro d δ => exact fun v σ B2 H2 s2 rel rp => h v σ B2 H2 (s.trans s2) rel rp
  | rs x δ => exact fun c dx σ B2 H2 s2 rel rp => h c dx σ B2 H2 (s.trans s2) rel rp
  | no => exact h
theorem postE_of {f : Res D} {Q : VK} {k : D → Fl} (rel : Rel K B0 H0 B H σ δ) (h : PostS K B0 H0 B W E (stE f δ k)) (hk : ∀ d v B' H', f = .ok d → Grow K B H B' H' → Rp K B' v d → PostS K B0 H0 B' W E (k d) → Q v H') : PostE K B H σ W Q f := by
  cases f with
  | ok d => exact fun v B' H' g rp => hk d v B' H' rfl g rp (postS_mono g.b h)
  | er x => exact fun c dx B' H' g rp => h c dx σ B' H' g.b (rel.mono g) rp
  | no => exact h
theorem postT_of {f : Res Bool} {Q : Bool → Hp → Prop} {k : Bool → Fl} (rel : Rel K B0 H0 B H σ δ) (h : PostS K B0 H0 B W E (stE f δ k)) (hk : ∀ b B' H', Grow K B H B' H' → PostS K B0 H0 B' W E (k b) → Q b H') : PostT K B H σ W Q f := by
  cases f with
  | ok d => exact fun B' H' g => hk d B' H' g (postS_mono g.b h)
  | er x => exact fun c dx B' H' g rp => h c dx σ B' H' g.b (rel.mono g) rp
  | no => exact h
def cSeq (g h : DS → Fl) : DS → Fl := fun δ => (g δ).then h
theorem ss_seq {t u : TS} {g h : DS → Fl} (h1 : SS K W t g) (h2 : SS K W u h) : SS K W (tSeq t u) (cSeq g h) := fun B0 H0 δ σ B H E rel hp => by
  unfold cSeq at hp
  refine h1 B0 H0 δ σ B H _ rel ?_
  cases e : g δ with
  | nx δ' => rw [e] at hp; exact fun σ' B' H' s rel' => h2 B0 H0 δ' σ' B' H' E rel' (postS_mono s hp)
  | bk δ' => rw [e] at hp; exact hp
  | ct δ' => rw [e] at hp; exact hp
  | rt d => rw [e] at hp; exact hp
  | rf d => rw [e] at hp; exact hp
  | rn d => rw [e] at hp; exact hp
  | ro d δ' => rw [e] at hp; exact hp
  | rs x δ' => rw [e] at hp; exact hp
  | no => rw [e] at hp; exact hp
def cNext : DS → Fl := fun δ => .nx δ
theorem ss_next : SS K W tNext cNext := fun B0 H0 δ σ B H E rel hp => hp σ B H (Same.refl _) rel
theorem css_nil : CSs X W [] tNext cNext := ⟨pss_nil, ss_next⟩
theorem css_cons {s : Stmt} {ss : List Stmt} {t u : TS} {g h : DS → Fl} (h1 : CS X W s t g) (h2 : CSs X W ss u h) : CSs X W (s :: ss) (tSeq t u) (cSeq g h) := ⟨pss_cons h1.ps h2.ps, ss_seq h1.ss h2.ss⟩
theorem css_one {s : Stmt} {t : TS} {g : DS → Fl} (h1 : CS X W s t g) : CSs X W [s] t g := ⟨pss_one h1.ps, h1.ss⟩
def cBreak : DS → Fl := fun δ => .bk δ
def cCont : DS → Fl := fun δ => .ct δ
theorem cs_continue {pos : Pos} : CS X W (.Continue pos) tCont cCont := ⟨ps_continue, fun B0 H0 δ σ B H E rel hp => hp σ B H (Same.refl _) rel⟩
def cRet (f : DS → Res D) : DS → Fl := fun δ => stE (f δ) δ fun d => .rt d
theorem cs_ret {e : Expr} {pos : Pos} {t : TE} {f : DS → Res D} (h : CE X W e t f) : CS X W (.Return (some e) pos) (tRet t) (cRet f) :=
  ⟨ps_ret h.pe, fun B0 H0 δ σ B H E rel hp => h.se B0 H0 δ σ B H _ rel (postE_of rel hp fun d v B' H' _ g rp q => q v B' H' (Same.refl _) (rel.g.trans g) rp)⟩
def cRetN : DS → Fl := fun _ => .rt .non
def cIf (t : DS → Res Bool) (g h : DS → Fl) : DS → Fl := fun δ => stE (t δ) δ fun b => if b = true then g δ else h δ
theorem cs_if {c : Expr} {a b : List Stmt} {pos : Pos} {tc : TT} {t u : TS} {f : DS → Res Bool} {g h : DS → Fl} (hc : CT X W c tc f) (ha : CSs X W a t g) (hb : CSs X W b u h) : CS X W (.If c a b pos) (tIfS tc t u) (cIf f g h) :=
  ⟨ps_if hc.pt ha.ps hb.ps, fun B0 H0 δ σ B H E rel hp => hc.st B0 H0 δ σ B H _ rel (postT_of rel hp fun b B' H' g q => by
    cases b with
    | true => rw [if_pos rfl] at q ⊢; exact ha.ss B0 H0 δ σ B' H' E (rel.mono g) q
    | false => rw [if_neg Bool.false_ne_true] at q ⊢; exact hb.ss B0 H0 δ σ B' H' E (rel.mono g) q)⟩
def cDrop (f : DS → Res D) : DS → Fl := fun δ => stE (f δ) δ fun _ => .nx δ
def cAsg (i : Nat) (f : DS → Res D) : DS → Fl := fun δ => stE (f δ) δ fun d => .nx (δ.set i (some (.im d)))
theorem ss_asg {i : Nat} {t : TE} {f : DS → Res D} (h : SE K W t f) : SS K W (tAsg t (gName i)) (cAsg i f) := fun B0 H0 δ σ B H E rel hp =>
  h B0 H0 δ σ B H _ rel (postE_of rel hp fun d v B' H' _ g rp q => q _ B' H' (Same.refl _) ((rel.mono g).set i rp))
theorem cs_set (i : Nat) {x : Str} {e : Expr} {t : TE} {f : DS → Res D} {pos pos' : Pos} (hN : X.N.Nodup) (he : CE X W e t f) (hi : X.N[i]? = some x := by rfl) (hx : Loc X.env.scope x := by first | exact Or.inl rfl | exact Or.inr rfl)
    (hs : swapsWith e (some (.Name x pos')) pos.line X.env = pure false := by rfl) (hf : X.fn x = true ∨ X.env.scope.names.lookup x = some .local := by first | exact .inl rfl | exact .inr rfl | assumption) :
    CS X W (.Assign [.Name x pos'] e pos) (tAsg t (gName i)) (cAsg i f) := ⟨ps_set hN hi hx he.pe hs hf, ss_asg he.se⟩
def cAsgG (b : D → DS → Option DS) (f : DS → Res D) : DS → Fl := fun δ => stE (f δ) δ fun d => match b d δ with
  | some δ' => .nx δ'
  | none => .no
theorem cs_asg {tg e : Expr} {t : TE} {f : DS → Res D} {g : TG} {is : List Nat} {b : D → DS → Option DS} {pos : Pos} (he : CE X W e t f) (hg : CG X tg g is b) (hs : swapsWithSole [tg] e pos.line X.env = pure false := by rfl) (hw : swappedStores [tg] e X.env = pure none := by rfl)
    (h1 : List.map (fun x => x.snd) (assignEach [tg] X.env) = [assign tg X.env] := by rfl) : CS X W (.Assign [tg] e pos) (tAsg t g) (cAsgG b f) := ⟨ps_asg he.pe hg.pg hs hw h1, fun B0 H0 δ σ B H E rel hp =>
  he.se B0 H0 δ σ B H _ rel (postE_of rel hp fun d v B' H' _ gr rp q => by
    cases e : b d δ with
    | none => rw [e] at q; exact q.elim
    | some δ' =>
      rw [e] at q
      exact hg.sg B0 H0 B' H' σ δ v d _ (rel.mono gr) rp (fun δ2 σ2 e2 r2 _ _ => by rw [e] at e2; cases e2; exact q σ2 B' H' (Same.refl _) r2) (by rw [e]; simp))⟩
def cPar (i j : Nat) (f : DS → Res (List D)) : DS → Fl := fun δ => stE (f δ) δ fun ds => match ds with
  | [d, e] => .nx ((δ.set i (some (.im d))).set j (some (.im e)))
  | _ => .no
theorem cs_par (i j : Nat) {x y : Str} {a b : Expr} {t : TA} {f : DS → Res (List D)} {px py pt pos : Pos} {kt k2 pt2} (hc : X.calm = true) (hN : X.N.Nodup) (ha : CL X W [a, b] t f) (hi : X.N[i]? = some x := by rfl) (hj : X.N[j]? = some y := by rfl) (hij : i ≠ j := by decide)
    (hx : X.env.scope.names.lookup x = some .local := by rfl) (hy : X.env.scope.names.lookup y = some .local := by rfl)
    (hw : swappedStores [.Tuple [.Name x px, .Name y py] kt pt] (.Tuple [a, b] k2 pt2) X.env = pure (some [x, y]) := by rfl)
    (hs : swapsWithSole [.Tuple [.Name x px, .Name y py] kt pt] (.Tuple [a, b] k2 pt2) pos.line X.env = pure false := by rfl) :
    CS X W (.Assign [.Tuple [.Name x px, .Name y py] kt pt] (.Tuple [a, b] k2 pt2) pos) (tPar i j t) (cPar i j f) :=
  ⟨ps_par hc hN hi hj hij hx hy ha.pa hw hs, fun B0 H0 δ σ B H E rel hp => ha.sa B0 H0 δ σ B H _ rel (by
    unfold cPar at hp
    cases e : f δ with
    | no => rw [e] at hp; exact hp
    | er x => rw [e] at hp; exact fun c dx B' H' g rp => hp c dx σ B' H' g.b (rel.mono g) rp
    | ok ds =>
      rw [e, stE_ok] at hp
      intro vs B' H' g rp
      split at hp
      · cases rp with
        | cons r1 r2 =>
          cases r2 with
          | cons r2 r3 =>
            cases r3
            exact ⟨_, _, rfl, hp _ B' H' g.b (((rel.mono g).set i r1).set j r2)⟩
      · exact hp.elim)⟩
def cAug (i : Nat) (o : D → D → Res D) (f : DS → Res D) : DS → Fl := fun δ => stE ((cVar i δ).bind fun x => (f δ).bind fun y => o x y) δ fun d => .nx (δ.set i (some (.im d)))
def oAddI : D → D → Res D
  | .v (.int i), .v (.int j) => .ok (.int (i + j))
  | _, _ => .no
def oMulI : D → D → Res D
  | .v (.int i), .v (.int j) => if i.natAbs.log2 + j.natAbs.log2 < 1000000 then .ok (.int (i * j)) else .no
  | _, _ => .no
def cOwn (i : Nat) (f : DS → Res (List D)) : DS → Fl := fun δ => stE (f δ) δ fun ds => .nx (δ.set i (some (.ow ds)))
theorem ss_own {i : Nat} {t : TE} {f : DS → Res (List D)} (h : SF K W t f) : SS K W (tAsg t (gName i)) (cOwn i f) := fun B0 H0 δ σ B H E rel hp => by
  unfold cOwn at hp
  refine h B0 H0 δ σ B H _ rel ?_
  cases e : f δ with
  | no => rw [e] at hp; exact hp
  | er x => rw [e] at hp; exact fun c dx B' H' g rp => hp c dx σ B' H' g.b (rel.mono g) rp
  | ok ds =>
    rw [e, stE_ok] at hp
    intro p vs B' H' g h0 hb hh rp
    exact hp _ B' H' g.b ((rel.mono g).setOw i (rel.g.free h0) hb hh rp (rel.free' g h0))
theorem cs_own (i : Nat) {x : Str} {e : Expr} {t : TE} {f : DS → Res (List D)} {pos pos' : Pos} (hN : X.N.Nodup) (he : CF X W e t f) (hi : X.N[i]? = some x := by rfl) (hx : Loc X.env.scope x := by first | exact Or.inl rfl | exact Or.inr rfl)
    (hs : swapsWith e (some (.Name x pos')) pos.line X.env = pure false := by rfl) (hf : X.fn x = true ∨ X.env.scope.names.lookup x = some .local := by first | exact .inl rfl | exact .inr rfl | assumption) :
    CS X W (.Assign [.Name x pos'] e pos) (tAsg t (gName i)) (cOwn i f) := ⟨ps_set hN hi hx he.pe hs hf, ss_own he.sf⟩
def cApp (i : Nat) (f : DS → Res D) : DS → Fl := fun δ => match δ[i]? with
  | some (some (.ow ds)) => stE (f δ) δ fun d => if ds.length < sizeLine then .nx (δ.set i (some (.ow (ds ++ [d])))) else .no
  | _ => .no
theorem cs_app (i : Nat) {x : Str} {e : Expr} {t : TE} {f : DS → Res D} {px apos cpos pos : Pos} (he : CE X W e t f) (hv : PE X (.Name x px) (tVar i))
    (hbase : attributeBase (.Name x px) "append" X.env (eval (.Name x px) X.env) = eval (.Name x px) X.env := by rfl)
    (hfew : ((backTo cpos (starEach [e] X.env)).all (fun x => !x.1) && (backToKw cpos (keywordEach [] X.env)).all (fun x => x.1.isSome) && decide ([e].length + ([] : List Keyword).length + (if ([] : List Keyword).isEmpty then 0 else 1) < 30)) = true := by rfl)
    (hline : (apos.endLine == cpos.line) = true := by rfl) (hst : starEach [e] X.env = (false, eval e X.env) :: starEach [] X.env := by rfl) (hplain : (backTo cpos (starEach [] X.env)).any (·.1) = false := by rfl) (hs : swapsWith (.Call (.Attribute (.Name x px) "append" apos) [e] [] cpos) none pos.line X.env = pure false := by rfl) :
    CS X W (.Expr (.Call (.Attribute (.Name x px) "append" apos) [e] [] cpos) pos) (tDrop (tBM X.K "list" rAppend (tVar i) (tCons t tNil))) (cApp i f) :=
  ⟨ps_expr (pe_bm PySem.F.plainAttrs_list PySem.F.slot_list_append PySem.F.type_list_append mt_append hv (pa_cons he.pe pa_nil hst) hbase hfew hline hst hplain) hs, fun B0 H0 δ σ B H E rel hp => by
    unfold cApp at hp
    split at hp
    · rename_i ds ei
      obtain ⟨v, q1, p, vs, rfl, _, hb, hh, rp⟩ := rel.sl i _ ei
      refine ⟨_, q1, .inl ⟨rfl, vs, SqL.of hh⟩, ?_⟩
      refine he.se B0 H0 δ σ B H _ rel ?_
      cases e1 : f δ with
      | no => rw [e1] at hp; exact hp
      | er x => rw [e1] at hp; exact fun c dx B' H' g rp => hp c dx σ B' H' g.b (rel.mono g) rp
      | ok d =>
        rw [e1, stE_ok] at hp
        split at hp
        · rename_i hz
          intro v B' H' g r1
          refine ⟨p, vs, v, rfl, rfl, g.h _ _ hh ⟨fun _ z => (by cases z), fun _ _ _ z => (by cases z)⟩, by rw [rp.length]; exact hz, ?_⟩
          exact hp σ B' _ g.b ((rel.mono g).write (us := vs) ei q1 ((rp.mono g.b).append (.cons r1 .nil)))
        · exact hp.elim
    · exact hp.elim⟩
def fz (i : Nat) (δ : DS) : DS := match δ[i]? with
  | some (some (.ow ds)) => δ.set i (some (.im (.lst ds)))
  | some (some (.tr m k ts)) => δ.set i (some (.im (T.nd k ts).d))
  | _ => δ
theorem Rel.fz {B0 : Hp} {H0 : Org} {B H : Hp} {σ : L2.St} {δ : DS} (r : Rel K B0 H0 B H σ δ) (i : Nat) : ∃ B', Same B B' ∧ Rel K B0 H0 B' H σ (fz i δ) := by
  unfold DV.fz
  split
  · rename_i ds e
    exact r.freeze e
  · rename_i k ts e
    obtain ⟨v, h1, _⟩ := r.sl i _ e
    exact ⟨_, r.freezeT e h1⟩
  · exact ⟨B, Same.refl _, r⟩
def cFz (i : Nat) (g : DS → Fl) : DS → Fl := fun δ => g (fz i δ)
theorem ss_fz (i : Nat) {t : TS} {g : DS → Fl} (h : SS K W t g) : SS K W t (cFz i g) := fun B0 H0 δ σ B H E rel hp => by
  obtain ⟨B', s, r⟩ := rel.fz i
  exact h B0 H0 _ σ B' H E r (postS_mono s hp)
theorem cs_fz (i : Nat) {s : Stmt} {t : TS} {g : DS → Fl} (h : CS X W s t g) : CS X W s t (cFz i g) := ⟨h.ps, ss_fz i h.ss⟩
def NK.noTp : NK → Bool
  | .tp => false
  | _ => true
mutual
def T.noTp : T → Bool
  | .im _ => true
  | .nd k ts => k.noTp && T.noTpA ts
def T.noTpA : List T → Bool
  | [] => true
  | t :: ts => t.noTp && T.noTpA ts
end
theorem cell_noTp {H : Hp} {k : NK} {p : Addr} {vs : List V} {fp : List Addr} (h : cell K H p vs fp k) (hk : k.noTp = true) : ∀ q ∈ fp, ∃ u, H q = some u ∧ ¬ TK u := by
  have no : ∀ u : HO, (∀ xs, u ≠ .tup xs) → (∀ o xs, u ≠ .frz o (.tup xs)) → ¬ TK u := fun u h1 h2 z => by
    rcases z with ⟨xs, z⟩ | ⟨o, xs, z⟩
    · exact h1 xs z
    · exact h2 o xs z
  cases k with
  | ls => obtain ⟨h, rfl⟩ := h; intro q hq; rw [List.mem_singleton.mp hq]; exact ⟨_, h, no _ (fun _ z => by cases z) (fun _ _ z => by cases z)⟩
  | tp => cases hk
  | dc ks => obtain ⟨us, h, _, _, rfl⟩ := h; intro q hq; rw [List.mem_singleton.mp hq]; exact ⟨_, h, no _ (fun _ z => by cases z) (fun _ _ z => by cases z)⟩
  | dt ks => obtain ⟨o, us, h, _, _, rfl⟩ := h; intro q hq; rw [List.mem_singleton.mp hq]; exact ⟨_, h, no _ (fun _ z => by cases z) (fun _ _ z => by cases z)⟩
  | ob c ns =>
    obtain ⟨C, dx, fs, h1, h2, _, _, _, rfl⟩ := h
    intro q hq
    rcases List.mem_cons.mp hq with rfl | hq
    · exact ⟨_, h1, no _ (fun _ z => by cases z) (fun _ _ z => by cases z)⟩
    · rw [List.mem_singleton.mp hq]; exact ⟨_, h2, no _ (fun _ z => by cases z) (fun _ _ z => by cases z)⟩
mutual
theorem RT.noTp {B H : Hp} : ∀ (t : T) (v : V), RT K B H t v → t.noTp = true → ∀ q, FT K H t v q → ∃ u, H q = some u ∧ ¬ TK u
  | .im d, v, _, _, q, h => by rw [FT] at h; exact h.elim
  | .nd k ts, v, h, hn, q, hq => by
    rw [RT] at h
    obtain ⟨p, vs, fp, rfl, hc, hr, _⟩ := h
    rw [T.noTp, Bool.and_eq_true] at hn
    rw [FT] at hq
    obtain ⟨p', vs', fp', z, hc2, hq⟩ := hq
    cases z
    obtain ⟨rfl, rfl⟩ := cell_one hc hc2
    rcases hq with hq | hq
    · exact cell_noTp hc hn.1 q hq
    · exact RTA.noTp ts _ hr hn.2 q hq
theorem RTA.noTp {B H : Hp} : ∀ (ts : List T) (vs : List V), RTA K B H ts vs → T.noTpA ts = true → ∀ q, FTA K H ts vs q → ∃ u, H q = some u ∧ ¬ TK u
  | [], _, _, _, q, h => by rw [FTA] at h; exact h.elim
  | _ :: _, [], h, _, _, _ => by rw [RTA] at h; exact h.elim
  | t :: ts, v :: vs, h, hn, q, hq => by
    rw [RTA] at h
    rw [T.noTpA, Bool.and_eq_true] at hn
    rw [FTA] at hq
    rcases hq with hq | hq
    · exact RT.noTp t v h.1 hn.1 q hq
    · exact RTA.noTp ts vs h.2.1 hn.2 q hq
end
def fzq (i : Nat) (δ : DS) : DS := match δ[i]? with
  | some (some (.ow ds)) => δ.set i (some (.im (.lst ds)))
  | some (some (.tr m k ts)) => if (T.nd k ts).noTp = true then δ.set i (some (.im (T.nd k ts).d)) else δ
  | _ => δ
theorem Rel.fzT {B0 : Hp} {H0 : Org} {B H : Hp} {σ : L2.St} {δ : DS} {m : Bool} {k : NK} {ts : List T} {i : Nat} {v : V} (r : Rel K B0 H0 B H σ δ) (e : δ[i]? = some (some (.tr m k ts))) (es : σ[i]? = some (some v)) (hn : ∀ q, FT K H (.nd k ts) v q → ∃ u, H q = some u ∧ ¬ TK u) :
    ∀ a u, fzH B H (FT K H (.nd k ts) v) a = some u → B a = some u ∨ (H a = some u ∧ Kind u ∧ ¬ TK u) := fun a u q => by
  obtain ⟨v', h1, hsr⟩ := r.sl i _ e
  rw [es] at h1
  cases h1
  unfold fzH at q
  split at q
  · rename_i hf
    obtain ⟨_, _, u', hu, kd⟩ := hsr.new a hf
    obtain ⟨u2, hu2, nt⟩ := hn a hf
    rw [q] at hu hu2
    cases hu
    cases hu2
    exact .inr ⟨q, kd, nt⟩
  · exact .inl q
theorem Rel.fzq {B0 : Hp} {H0 : Org} {B H : Hp} {σ : L2.St} {δ : DS} (r : Rel K B0 H0 B H σ δ) (i : Nat) : ∃ B', Same B B' ∧ Rel K B0 H0 B' H σ (fzq i δ) ∧ ∀ a u, B' a = some u → B a = some u ∨ (H a = some u ∧ Kind u ∧ ¬ TK u) := by
  unfold DV.fzq
  split
  · rename_i ds e
    obtain ⟨v, h1, p, vs, rfl, h0, hb, hh, q⟩ := r.sl i _ e
    obtain ⟨sb, r'⟩ := r.freezeG (ho := .lst vs) (d := .lst ds) e rfl h1 (upd_self hh).symm (kind_lst _).pln (.lst (SqL.of upd_same) (RpA.mono (same_new hb) q))
    refine ⟨_, sb, r', fun a u z => ?_⟩
    by_cases ha : a = p
    · subst ha; rw [upd_same] at z; cases z; exact .inr ⟨hh, kind_lst _, fun z => by rcases z with ⟨_, z⟩ | ⟨_, _, z⟩ <;> cases z⟩
    · rw [upd_ne ha] at z; exact .inl z
  · rename_i k ts e
    split
    · rename_i hn
      obtain ⟨v, h1, hsr⟩ := r.sl i _ e
      obtain ⟨s, r'⟩ := r.freezeT e h1
      exact ⟨_, s, r', r.fzT e h1 fun q hq => RT.noTp _ _ hsr.1 hn q hq⟩
    · exact ⟨B, Same.refl _, r, fun a u z => .inl z⟩
  · exact ⟨B, Same.refl _, r, fun a u z => .inl z⟩
def cLookT (i : Nat) (f : DS → Res Bool) : DS → Res Bool := fun δ => (f (fzq i δ)).calm
def flatR : Res D → Res D
  | .ok (.v x) => .ok (.v x)
  | _ => .no
def cLook (i : Nat) (f : DS → Res D) : DS → Res D := fun δ => flatR (f (fzq i δ))
def forF (b : D → DS → Option DS) (g : DS → Fl) : List D → DS → Fl
  | [], δ => .nx δ
  | d :: ds, δ => match b d δ with
    | none => .no
    | some δ' => match g δ' with
      | .nx δ2 => forF b g ds δ2
      | .ct δ2 => forF b g ds δ2
      | .bk δ2 => .nx δ2
      | .rt d => .rt d
      | .rf es => .rf es
      | .rn t => .rn t
      | .ro d δ2 => .ro d δ2
      | .rs x δ2 => .rs x δ2
      | .no => .no
def cFor (fi : DS → Res (List D)) (b : D → DS → Option DS) (g : DS → Fl) : DS → Fl := fun δ => stE (fi δ) δ fun ds => forF b g ds δ
theorem cs_for {tg iter : Expr} {body : List Stmt} {pos : Pos} {wi : TI} {g : TG} {tb : TS} {fi : DS → Res (List D)} {is : List Nat} {b : D → DS → Option DS} {gb : DS → Fl} (hp : PassesOwn (model X.prog X.w) X.A X.env X.xe) (hc : X.calm = true) (hi : CI X W tg iter wi fi) (hg : CG X tg g is b) (hb : CSs X W body tb gb)
    (hs : ∀ x, foldedSetIterable iter X.env x = pure x := by intro _; rfl) : CS X W (.For tg iter body [] pos) (tFor wi g tb) (cFor fi b gb) :=
  ⟨ps_for hp hc hi.pi hg.pg hb.ps hs, fun B0 H0 δ σ B H E rel hq => by
    unfold cFor at hq
    refine hi.si B0 H0 δ σ B H _ rel ?_
    cases e : fi δ with
    | no => rw [e] at hq; exact hq
    | er x => rw [e] at hq; exact fun c dx B' H' g rp => hq c dx σ B' H' g.b (rel.mono g) rp
    | ok ds =>
      rw [e, stE_ok] at hq
      intro J B1 H1 G Y g1 wk hG hY
      refine for_it wk (fun i σ' H' => ∃ B' δ', Same B1 B' ∧ Rel X.K B0 H0 B' H' σ' δ' ∧ PostS X.K B0 H0 B' W E (forF b gb (ds.drop i) δ')) ?_ ?_ ?_ ?_
      · exact ⟨B1, δ, Same.refl _, rel.mono g1, postS_mono g1.b hq⟩
      · rintro i σ' H' hin ⟨B', δ', s', r', _⟩
        exact hG H' (s'.trans r'.g.i)
      · rintro i x σ' H2 H3 hin ⟨B', δ', s', r', q'⟩ y
        have hlt : i < ds.length := hin
        have hdi : ds[i]? = some ds[i] := by simp [hlt]
        obtain ⟨B3, g3, rx⟩ := hY i ds[i] B' H2 x H3 hdi s' r'.g.i y
        rw [List.drop_eq_getElem_cons hlt] at q'
        unfold forF at q'
        cases e3 : b ds[i] δ' with
        | none => rw [e3] at q'; exact q'.elim
        | some δ2 =>
          rw [e3] at q'
          dsimp only at q'
          refine hg.sg B0 H0 B3 H3 σ' δ' x ds[i] _ (r'.mono g3) rx (fun δ4 σ4 e4 r4 _ _ => ?_) (by rw [e3]; simp)
          rw [e3] at e4
          cases e4
          refine hb.ss B0 H0 δ2 σ4 B3 H3 _ r4 ?_
          cases e5 : gb δ2 with
          | nx δ5 => rw [e5] at q'; exact fun σ5 B5 H5 s5 r5 => ⟨B5, δ5, (s'.trans g3.b).trans s5, r5, postS_mono (g3.b.trans s5) q'⟩
          | ct δ5 => rw [e5] at q'; exact fun σ5 B5 H5 s5 r5 => ⟨B5, δ5, (s'.trans g3.b).trans s5, r5, postS_mono (g3.b.trans s5) q'⟩
          | bk δ5 => rw [e5] at q'; exact postS_mono g3.b q'
          | rt d => rw [e5] at q'; exact postS_mono g3.b q'
          | rf d => rw [e5] at q'; exact postS_mono g3.b q'
          | rn d => rw [e5] at q'; exact postS_mono g3.b q'
          | ro d δ5 => rw [e5] at q'; exact postS_mono g3.b q'
          | rs x δ5 => rw [e5] at q'; exact postS_mono g3.b q'
          | no => rw [e5] at q'; exact q'
      · rintro σ' H' ⟨B', δ', s', r', q'⟩
        rw [List.drop_length] at q'
        exact q' σ' B' H' (Same.refl _) r'⟩
def whileF (t : DS → Res Bool) (g : DS → Fl) : Nat → DS → Fl
  | 0, _ => .no
  | n + 1, δ => match t δ with
    | .ok true => (match g δ with
      | .nx δ2 => whileF t g n δ2
      | .ct δ2 => whileF t g n δ2
      | .bk δ2 => .nx δ2
      | .rt d => .rt d
      | .rf es => .rf es
      | .rn t => .rn t
      | .ro d δ2 => .ro d δ2
      | .rs x δ2 => .rs x δ2
      | .no => .no)
    | .ok false => .nx δ
    | .er x => .rs x δ
    | .no => .no
def cWhile (fuel : DS → Nat) (t : DS → Res Bool) (g : DS → Fl) : DS → Fl := fun δ => whileF t g (fuel δ) δ
theorem cs_while (fuel : DS → Nat) {c : Expr} {body : List Stmt} {pos : Pos} {tc : TT} {tb : TS} {t : DS → Res Bool} {g : DS → Fl} (hp : PassesOwn (model X.prog X.w) X.A X.env X.xe) (hc : CT X W c tc t) (hb : CSs X W body tb g) : CS X W (.While c body [] pos) (tWhile tc tb) (cWhile fuel t g) :=
  ⟨ps_while hp hc.pt hb.ps, fun B0 H0 δ σ B H E rel hq => by
    unfold cWhile at hq
    refine ⟨fun m σ' H' => ∃ B' δ', Same B B' ∧ Rel X.K B0 H0 B' H' σ' δ' ∧ PostS X.K B0 H0 B' W E (whileF t g m δ'), ⟨fuel δ, B, δ, Same.refl _, rel, hq⟩, ?_⟩
    rintro m σ' H' ⟨B', δ', s', r', q'⟩
    cases m with
    | zero => exact q'.elim
    | succ m =>
      unfold whileF at q'
      refine hc.st B0 H0 δ' σ' B' H' _ r' ?_
      cases e : t δ' with
      | no => rw [e] at q'; exact q'
      | er x => rw [e] at q'; exact fun c dx B2 H2 g2 rp => q' c dx σ' B2 H2 g2.b (r'.mono g2) rp
      | ok b =>
        rw [e] at q'
        intro B2 H2 g2
        cases b with
        | false => rw [if_neg Bool.false_ne_true]; exact q' σ' B2 H2 g2.b (r'.mono g2)
        | true =>
          rw [if_pos rfl]
          dsimp only at q'
          refine ⟨fun σ5 H5 => ∃ B5 δ5, Same B B5 ∧ Rel X.K B0 H0 B5 H5 σ5 δ5 ∧ PostS X.K B0 H0 B5 W E (whileF t g m δ5), fun σ5 H5 h => ⟨m, Nat.lt_succ_self m, h⟩, ?_⟩
          refine hb.ss B0 H0 δ' σ' B2 H2 _ (r'.mono g2) ?_
          cases e5 : g δ' with
          | nx δ5 => rw [e5] at q'; exact fun σ5 B5 H5 s5 r5 => ⟨B5, δ5, (s'.trans g2.b).trans s5, r5, postS_mono (g2.b.trans s5) q'⟩
          | ct δ5 => rw [e5] at q'; exact fun σ5 B5 H5 s5 r5 => ⟨B5, δ5, (s'.trans g2.b).trans s5, r5, postS_mono (g2.b.trans s5) q'⟩
          | bk δ5 => rw [e5] at q'; exact postS_mono g2.b q'
          | rt d => rw [e5] at q'; exact postS_mono g2.b q'
          | rf d => rw [e5] at q'; exact postS_mono g2.b q'
          | rn d => rw [e5] at q'; exact postS_mono g2.b q'
          | ro d δ5 => rw [e5] at q'; exact postS_mono g2.b q'
          | rs x δ5 => rw [e5] at q'; exact postS_mono g2.b q'
          | no => rw [e5] at q'; exact q'⟩
end
end DV
namespace DV
open PySem L2
def PostD (K : PySem.W.Frag) (B H : Hp) (Q : VK) (E : XK) : Res D → Prop
  | .ok d => ∀ v B' H', Grow K B H B' H' → Rp K B' v d → Q v H'
  | .er x => ∀ c dx B' H', Grow K B H B' H' → RpX K B' c dx x → E c dx H'
  | .no => False
def spD (K : PySem.W.Frag) (n : Nat) (F : List D → Res D) : Sp := fun vs H Q E => vs.length = n ∧ ∃ ds B, Same B H ∧ RpA K B vs ds ∧ ((∀ p ∈ tabsOf K, NdefX.TabN H p lamAt) ∧ TB K B H) ∧ PostD K B H Q E (F ds)
def flR : Fl → Res D
  | .rt d => .ok d
  | .rf ds => .ok (.lst ds)
  | .ro d _ => .ok d
  | .nx _ => .ok .non
  | .rs x _ => .er x
  | _ => .no
@[simp] theorem flR_rt (d : D) : flR (.rt d) = .ok d := rfl
@[simp] theorem flR_nx (δ : DS) : flR (.nx δ) = .ok .non := rfl
@[simp] theorem flR_rs (x : Exn) (δ : DS) : flR (.rs x δ) = .er x := rfl
@[simp] theorem flR_no : flR .no = .no := rfl
def st0 (m : Nat) (ds : List D) : DS := ds.map (fun d => some (.im d)) ++ List.replicate m none
def defF (m : Nat) (g : DS → Fl) : List D → Res D := fun ds => flR (g (st0 m ds))
theorem rel0 {K : PySem.W.Frag} {B H : Hp} {N : List Str} {vs : List V} {ds : List D} (i : Same B H) (r : RpA K B vs ds) (tb : (∀ p ∈ tabsOf K, NdefX.TabN H p lamAt) ∧ TB K B H) : Rel K B (.of H) B H (L2.start N vs) (st0 (N.length - vs.length) ds) := by
  refine ⟨Grow.refl i, tb.1, tb.2, ?_, fun j o e => ?_, fun j k o o' w w' hjk e1 e2 e3 e4 q f1 => ?_⟩
  · simp [L2.start, st0, r.length]
  · unfold st0 at e
    by_cases hj : j < ds.length
    · rw [List.getElem?_append_left (by simpa using hj), List.getElem?_map] at e
      cases q : ds[j]? with
      | none => rw [q] at e; cases e
      | some d =>
        rw [q] at e
        cases e
        obtain ⟨v, h1, h2⟩ := r.get q
        refine ⟨v, ?_, h2⟩
        unfold L2.start
        rw [List.getElem?_append_left (by rw [List.length_map, r.length]; exact hj), List.getElem?_map, h1]
        rfl
    · rw [List.getElem?_append_right (by simpa using hj), List.getElem?_replicate] at e
      split at e <;> cases e
  · unfold st0 at e1
    by_cases hj : j < ds.length
    · rw [List.getElem?_append_left (by simpa using hj), List.getElem?_map] at e1
      cases q : ds[j]? with
      | none => rw [q] at e1; cases e1
      | some d => rw [q] at e1; cases e1; exact f1.elim
    · rw [List.getElem?_append_right (by simpa using hj), List.getElem?_replicate] at e1
      split at e1 <;> cases e1
theorem Grow.keep {K : PySem.W.Frag} {B H B' H' : Hp} (g : Grow K B H B' H') {p : Addr} {xs : List V} (h0 : H p = none) (hb : B' p = none) (hh : H' p = some (.lst xs)) : Grow K B H (upd B' p (.lst xs)) H' :=
  ⟨g.b.trans (same_new hb), g.h, fun a o q => by
    by_cases hap : a = p
    · subst hap; rw [upd_same] at q; cases q; exact hh
    · rw [upd_ne hap] at q; exact g.i a o q, fun a ha => by have hap : a ≠ p := fun z => ha (by rw [z]; exact h0); rw [upd_ne hap]; exact g.f a ha, g.e, g.t, fun τ h => by
    obtain ⟨τ', e, h'⟩ := g.n τ h
    exact ⟨τ', e, h'.grow (same_new hb) (upd_new (kind_lst _).pln) fun _ _ _ q => q⟩⟩
abbrev Wof (E : XK) : WX := fun c d _ H => E c d H
theorem ss_def {K : PySem.W.Frag} {t : TS} {g : DS → Fl} {E : XK} {N : List Str} {vs : List V} {ds : List D} {B H : Hp} {Q : VK} (h : SS K (Wof E) t g) (i : Same B H) (r : RpA K B vs ds) (tb : (∀ p ∈ tabsOf K, NdefX.TabN H p lamAt) ∧ TB K B H) (hp : PostD K B H Q E (defF (N.length - vs.length) g ds)) :
    t { nx := fun _ H' => Q .non H', rt := Q } (L2.start N vs) H := by
  refine h B (.of H) _ _ B H _ (rel0 i r tb) ?_
  unfold defF at hp
  cases e : g (st0 (N.length - vs.length) ds) with
  | nx δ => rw [e] at hp; exact fun σ B' H' s rel => hp .non B' H' rel.g (.v _)
  | rt d => rw [e] at hp; exact fun v B' H' s gr rp => hp v B' H' gr rp
  | rf es => rw [e] at hp; exact fun p xs B' H' s gr h0 hb hh rr => hp (.ref p) (upd B' p (.lst xs)) H' (gr.keep h0 hb hh) (.lst (SqL.of upd_same) (rr.mono (same_new hb)))
  | rn t => rw [e] at hp; exact hp.elim
  | ro d δ => rw [e] at hp; exact fun v σ B' H' s rel rp => hp v B' H' rel.g rp
  | rs x δ => rw [e] at hp; exact fun c dx σ B' H' s rel rp => hp c dx B' H' rel.g rp
  | bk δ => rw [e] at hp; exact hp.elim
  | ct δ => rw [e] at hp; exact hp.elim
  | no => rw [e] at hp; exact hp
section
variable {P : Program} {w : World} {K : PySem.W.Frag} {mg : Str → Option Value} {base : Heap}
theorem def_ok {x qual : Str} {st : Stmt} {f : Addr} {fd : FuncData} {N ps : List Str} {k m : Nat} {g : DS → Fl} (F : Fun K x qual st f fd) (S : FnScope N ps (defScope st)) (hm : N.length - ps.length = m)
    (hbody : ∀ (cdv : Value) (A : Around) (outer : List Env) (s : Shared) (H : Hp) (E : XK), Room k (A.deeper (PyProof.Rows.envOfC qual (defScope st) s.heap.objs.size f cdv)) → Takes (cxOf (L2.CX P w) P w K mg base N qual (defScope st) f cdv A outer s H E) (Wof E) →
      PassesOwn (model P w) (A.deeper (PyProof.Rows.envOfC qual (defScope st) s.heap.objs.size f cdv)) (PyProof.Rows.envOfC qual (defScope st) s.heap.objs.size f cdv) (cxOf (L2.CX P w) P w K mg base N qual (defScope st) f cdv A outer s H E).xe → (A.deeper (PyProof.Rows.envOfC qual (defScope st) s.heap.objs.size f cdv)).units + 64 < cLine → ∃ t, CSs (cxOf (L2.CX P w) P w K mg base N qual (defScope st) f cdv A outer s H E) (Wof E) (defBody st) t g) : FnOk P w K mg base (L2.CX P w) (k + 1) f fd ps (spD K ps.length (defF m g)) := by
  refine F.okX S (fun vs H Q E h => h.1) fun cdv A outer s H vs Q E hr h => ?_
  obtain ⟨hl, ds, B, i, r, tb, hp⟩ := h
  obtain ⟨t, ht⟩ := hbody cdv A outer s H E hr (takes_of rfl rfl rfl rfl) (passes_of (X := cxOf (L2.CX P w) P w K mg base N qual _ f cdv A outer s H E) rfl) hr.units
  exact ⟨t, ht.ps, ss_def (N := N) ht.ss i r tb (by rw [hl, hm]; exact hp)⟩
theorem def_okD {x qual : Str} {params : Arguments} {body : List Stmt} {scope : Scope} {dvs : List V} {kws : List (Str × V)} {f : Addr} {fd : FuncData} {N ps : List Str} {k m : Nat} {g : DS → Fl} (F : FunD K x qual params body scope dvs kws f fd) (S : FnScope N ps scope) (hm : N.length - ps.length = m)
    (hbody : ∀ (cdv : Value) (A : Around) (outer : List Env) (s : Shared) (H : Hp) (E : XK), Room k (A.deeper (PyProof.Rows.envOfC qual scope s.heap.objs.size f cdv)) → Takes (cxOf (L2.CX P w) P w K mg base N qual scope f cdv A outer s H E) (Wof E) →
      PassesOwn (model P w) (A.deeper (PyProof.Rows.envOfC qual scope s.heap.objs.size f cdv)) (PyProof.Rows.envOfC qual scope s.heap.objs.size f cdv) (cxOf (L2.CX P w) P w K mg base N qual scope f cdv A outer s H E).xe → (A.deeper (PyProof.Rows.envOfC qual scope s.heap.objs.size f cdv)).units + 64 < cLine → ∃ t, CSs (cxOf (L2.CX P w) P w K mg base N qual scope f cdv A outer s H E) (Wof E) body t g) : FnOk P w K mg base (L2.CX P w) (k + 1) f fd ps (spD K ps.length (defF m g)) := by
  refine F.ok S (fun vs H Q E h => h.1) fun cdv A outer s H vs Q E hr h => ?_
  obtain ⟨hl, ds, B, i, r, tb, hp⟩ := h
  obtain ⟨t, ht⟩ := hbody cdv A outer s H E hr (takes_of rfl rfl rfl rfl) (passes_of (X := cxOf (L2.CX P w) P w K mg base N qual _ f cdv A outer s H E) rfl) hr.units
  exact ⟨t, ht.ps, ss_def (N := N) ht.ss i r tb (by rw [hl, hm]; exact hp)⟩
end
section
variable {X : Cx} {W : WX} {K : PySem.W.Frag}
def cFn (F : List D → Res D) (dd : List D) (f : DS → Res (List D)) : DS → Res D := fun δ => (f δ).bind fun ds => F (ds ++ dd)
theorem se_fn {n : Nat} {F : List D → Res D} {dd : List D} {dvs : List V} {t : TA} {f : DS → Res (List D)} (hl : ∀ δ ds, f δ = .ok ds → ds.length + dd.length = n) (hd : ∀ B, RpA K B dvs dd) (h : SA K W t f) : SE K W (tCallSD (spD K n F) dvs (WE W) t) (cFn F dd f) := fun B0 H0 δ σ B H Q rel hp => by
  unfold cFn at hp
  refine h B0 H0 δ σ B H _ rel ?_
  cases e : f δ with
  | no => rw [e] at hp; exact hp
  | er x => rw [e] at hp; exact hp
  | ok ds =>
    rw [e, Res.bind_ok] at hp
    intro vs B1 H1 g1 r1
    refine ⟨?_, ds ++ dd, B1, g1.i, r1.append (hd B1), ⟨fun p hp' => g1.t p (rel.g.t p (rel.tk p hp')), g1.tb (rel.g.tb rel.nt)⟩, ?_⟩
    · rw [List.length_append, r1.length, (hd B1).length]
      exact hl δ ds e
    · cases e2 : F (ds ++ dd) with
      | no => rw [e2] at hp; exact hp
      | er x => rw [e2] at hp; exact fun c dx B' H' g' rp => hp c dx B' H' (g1.trans g') rp
      | ok z => rw [e2] at hp; exact fun v B' H' g' rp => hp v B' H' (g1.trans g') rp
theorem q_ce_fn {k n : Nat} {f : Addr} {fd : FuncData} {ps : List Str} {F : List D → Res D} {dd : List D} {dvs : List V} {ds : List Value} {x : Str} {p pos : Pos} {e : Expr} {es : List Expr} {t : TA} {fa : DS → Res (List D)}
    (G : FnOk X.prog X.w X.K X.mg X.base (L2.CX X.prog X.w) k f fd ps (spD X.K n F)) (hr : Room k X.A) (hm : X.mg x = some (.ref f)) (hk : PySem.W.keepIn X.K (.ref f) = true) (hb : Binds X.K fd ps ds) (hd : Vals dvs ds) (hdd : ∀ B, RpA X.K B dvs dd) (tk : Takes X W)
    (ha : CL X W (e :: es) t fa) (hn : (e :: es).length + dd.length = n := by rfl) (hg : Gl X x := by rfl) (hdb : (x == ("__debug__" : Str)) = false := by decide) (he : starEach (e :: es) X.env = (false, eval e X.env) :: starEach es X.env := by rfl) (hpl : (backTo pos (starEach es X.env)).any (·.1) = false := by rfl) :
    CE X W (.Call (.Name x p) (e :: es) [] pos) (tCallSD (spD X.K n F) dvs (WE W) t) (cFn F dd fa) :=
  ⟨pe_callSD G hr hg hm hk hb hd (fun σ => passAt tk σ) ha.pa hdb he hpl, se_fn (fun δ ds h => by rw [ha.ln δ ds h]; exact hn) hdd ha.sa⟩
theorem ce_fn (K : PySem.W.Frag) (hK : X.K = K) {k n : Nat} {f : Addr} {fd : FuncData} {ps : List Str} {F : List D → Res D} {dd : List D} {dvs : List V} {ds : List Value} {x : Str} {p pos : Pos} {e : Expr} {es : List Expr} {t : TA} {fa : DS → Res (List D)}
    (G : FnOk X.prog X.w K X.mg X.base (L2.CX X.prog X.w) k f fd ps (spD K n F)) (hr : Room k X.A) (hm : X.mg x = some (.ref f)) (hk : PySem.W.keepIn K (.ref f) = true) (hb : Binds K fd ps ds) (hd : Vals dvs ds) (hdd : ∀ B, RpA K B dvs dd) (tk : Takes X W)
    (ha : CL X W (e :: es) t fa) (hn : (e :: es).length + dd.length = n := by rfl) (hg : Gl X x := by rfl) (hdb : (x == ("__debug__" : Str)) = false := by decide) (he : starEach (e :: es) X.env = (false, eval e X.env) :: starEach es X.env := by rfl) (hpl : (backTo pos (starEach es X.env)).any (·.1) = false := by rfl) :
    CE X W (.Call (.Name x p) (e :: es) [] pos) (tCallSD (spD K n F) dvs (WE W) t) (cFn F dd fa) := by
  subst hK
  exact (q_ce_fn G hr hm hk hb hd hdd tk ha hn hg hdb he hpl)
def cFn0 (F : List D → Res D) (f : DS → Res (List D)) : DS → Res D := fun δ => (f δ).bind F
theorem q_ce_f {k n : Nat} {f : Addr} {fd : FuncData} {ps : List Str} {F : List D → Res D} {x : Str} {p pos : Pos} {e : Expr} {es : List Expr} {t : TA} {fa : DS → Res (List D)}
    (G : FnOk X.prog X.w X.K X.mg X.base (L2.CX X.prog X.w) k f fd ps (spD X.K n F)) (hr : Room k X.A) (hm : X.mg x = some (.ref f)) (hk : PySem.W.keepIn X.K (.ref f) = true) (hb : Binds X.K fd ps []) (tk : Takes X W)
    (ha : CL X W (e :: es) t fa) (hn : (e :: es).length = n := by rfl) (hg : Gl X x := by rfl) (hdb : (x == ("__debug__" : Str)) = false := by decide) (he : starEach (e :: es) X.env = (false, eval e X.env) :: starEach es X.env := by rfl) (hpl : (backTo pos (starEach es X.env)).any (·.1) = false := by rfl) :
    CE X W (.Call (.Name x p) (e :: es) [] pos) (tCallSD (spD X.K n F) [] (WE W) t) (cFn0 F fa) := by
  have h := q_ce_fn (dd := []) (p := p) (pos := pos) G hr hm hk hb .nil (fun _ => .nil) tk ha hn hg hdb he hpl
  refine ⟨h.pe, ?_⟩
  have e0 : cFn F [] fa = cFn0 F fa := by
    funext δ
    simp [cFn, cFn0]
  rw [← e0]
  exact h.se
theorem ce_f (K : PySem.W.Frag) (hK : X.K = K) {k n : Nat} {f : Addr} {fd : FuncData} {ps : List Str} {F : List D → Res D} {x : Str} {p pos : Pos} {e : Expr} {es : List Expr} {t : TA} {fa : DS → Res (List D)}
    (G : FnOk X.prog X.w K X.mg X.base (L2.CX X.prog X.w) k f fd ps (spD K n F)) (hr : Room k X.A) (hm : X.mg x = some (.ref f)) (hk : PySem.W.keepIn K (.ref f) = true) (hb : Binds K fd ps []) (tk : Takes X W)
    (ha : CL X W (e :: es) t fa) (hn : (e :: es).length = n := by rfl) (hg : Gl X x := by rfl) (hdb : (x == ("__debug__" : Str)) = false := by decide) (he : starEach (e :: es) X.env = (false, eval e X.env) :: starEach es X.env := by rfl) (hpl : (backTo pos (starEach es X.env)).any (·.1) = false := by rfl) :
    CE X W (.Call (.Name x p) (e :: es) [] pos) (tCallSD (spD K n F) [] (WE W) t) (cFn0 F fa) := by
  subst hK
  exact (q_ce_f G hr hm hk hb tk ha hn hg hdb he hpl)
end
open Classical in
noncomputable def lawB (H : Hp) : Hp := fun b => match H b with
  | some o => if Pln o then some o else none
  | none => none
theorem lawB_of {H : Hp} {b : Addr} {o : HO} (h : H b = some o) (p : Pln o) : lawB H b = some o := by unfold lawB; rw [h]; exact if_pos p
theorem lawB_some {H : Hp} {b : Addr} {o : HO} (h : lawB H b = some o) : H b = some o ∧ Pln o := by
  unfold lawB at h
  split at h
  · split at h
    · rename_i e p; cases h; exact ⟨e, p⟩
    · cases h
  · cases h
theorem spD_law {K : PySem.W.Frag} {H : Hp} {a : Addr} {ns : List Int} {F : List D → Res D} (hS : SqL K H a (ns.map V.int)) (tb : ∀ p ∈ tabsOf K, NdefX.TabN H p lamAt) (h : F [.lst (ns.map D.int)] = .ok (.bl true)) : spD K 1 F [.ref a] H (fun v _ => v = .bl true) (fun _ _ _ => False) := by
  have hS' : SqL K (lawB H) a (ns.map V.int) := by
    rcases hS with (h | ⟨o, h⟩) | h
    · exact .inl (.inl (lawB_of h (kind_lst _).pln))
    · exact .inl (.inr ⟨o, lawB_of h ⟨⟨fun _ z => (by cases z), fun _ _ _ z => (by cases z)⟩, fun _ _ _ _ z => (by cases z)⟩⟩)
    · exact .inr h
  refine ⟨rfl, [.lst (ns.map D.int)], lawB H, fun b o e => (lawB_some e).1, .cons (.lst hS' (RpA.ints ns)) .nil, ⟨tb, fun _ => (.non, .non), fun b o e => (lawB_some e).2.1, fun x o C dx fs q => absurd rfl ((lawB_some q).2.2 o C dx fs)⟩, ?_⟩
  rw [h]
  intro v B' H' g rp
  cases rp
  rfl
theorem cx_false {P : Program} {w : World} (H : Hp) (s : Shared) (e : Value) (s' : Shared) (h : L2.CX P w [] H s (fun _ _ _ => False) e s') : False := by
  obtain ⟨_, _, _, _, _, _, _, _, _, _, _, _, z⟩ := h
  exact z
end DV
namespace DV
open PySem PySem.Spec PyProof.Rows L2
section
variable {prog : Program} {w : World} {A : Around} {E : Value → Shared → Prop} {s : Shared}
end
section
variable {X : Cx} {W : WX} {K : PySem.W.Frag}
def tRevT (K : PySem.W.Frag) (te : TE) : TE := fun σ H Q => te σ H fun x H1 => ∃ a xs, x = .ref a ∧ SqT K H1 a xs ∧ ∀ p, H1 p = none → Q (.ref p) (upd H1 p (.tup xs.reverse))
def oRev : D → Res D
  | .lst xs => .ok (.lst xs.reverse)
  | .tup xs => .ok (.tup xs.reverse)
  | _ => .no
theorem pe_or {e : Expr} {t t' : TE} (h : PE X e t) (h' : PE X e t') : PE X e (fun σ H Q => t σ H Q ∨ t' σ H Q) :=
  ⟨fun pins s σ H Q I q => q.elim (h.run pins s σ H Q I) (h'.run pins s σ H Q I)⟩
def gDivmod : List D → Res D
  | [.v (.int i), .v (.int j)] => if 0 < j ∧ j.natAbs < 1073741824 then .ok (.tup [.int (i / j), .int (i % j)]) else .no
  | _ => .no
def stepsD (i c : Int) (n : Nat) : List D := (List.range n).map fun (k : Nat) => D.int (i + (k : Int) * c)
def steps3 (i j c : Int) : Nat := if i < j then ((j - i - 1) / c + 1).toNat else 0
def gRange3 : List D → Res (List D)
  | [.v (.int i), .v (.int j), .v (.int c)] => if 0 < c ∧ c.natAbs ≤ 1000000 ∧ i.natAbs ≤ 1000000 ∧ j.natAbs ≤ 1000000 then .ok (stepsD i c (steps3 i j c)) else .no
  | _ => .no
def pairsD : List D → List D → List D
  | a :: as, b :: bs => .tup [a, b] :: pairsD as bs
  | _, _ => []
def gZip : List D → Res (List D)
  | [.lst as, .lst bs] => .ok (pairsD as bs)
  | [.tup as, .tup bs] => .ok (pairsD as bs)
  | _ => .no
end
end DV
namespace DV
open PySem L2 PySem.Spec PySem.Calls PyProof.Rows Builtin Builtin.ObjectAttr
structure OexB (K : PySem.W.Frag) (C : Addr) : Prop where
  base : ∃ (B newId initId : String) (bmB : List Value), ExcBaseFacts B newId initId bmB ∧ PySem.StoreFacts B bmB "object.__setattr__" "object" ∧ PySem.W.excInitIn K C bmB newId = true ∧ PySem.W.excOver K C bmB = true
  hd : PySem.W.hasDictIn K C = true
  sa : PySem.W.findIn K (.ref C) "__setattr__" = some (some (.builtin "object.__setattr__"))
  ex : PySem.W.subIn K (.ref C) (.type "BaseException") = some true
  ty : PySem.W.typeIn K (.ref C) = some (.type "type")
  kp : PySem.W.keepIn K (.ref C) = true
section
variable {prog : Program} {w : World} {A : Around} {R : Result → Shared → Prop} {hp : Heap} {g : Array GenState} {d : Drawn} {t : Nat} {os : OsState} {B : String} {bmB : List Value}
theorem taker_none {K : PySem.W.Frag} {C : Addr} {n : Str} (h : PySem.W.findIn K (.ref C) n = some none) : PySem.W.takerIn K C n = some none := by
  unfold PySem.W.takerIn
  rw [h]
  rfl
theorem osaB_new {K : PySem.W.Frag} {n : Str} {tk : Tok} {v : Value} {x C : Addr} {fv : Array Value} (SF : PySem.StoreFacts B bmB "object.__setattr__" "object") (X : K.In hp) (hx : hp.get? x = some { cls := .ref C, data := .fields fv })
    (ho : PySem.W.excOver K C bmB = true) (hh : PySem.W.hasDictIn K C = true) (ha : PySem.W.findIn K (.ref C) n = some none)
    (hq : ∀ h' tk' dx, (∀ b o, b ≠ x → hp.get? b = some o → h'.get? b = some o) → hp.objs.size ≤ dx → dx ≠ x → h'.get? x = some { cls := .ref C, dict := some dx, data := .fields fv } → h'.Ns1 dx (fun y => if y = n then some v else none) → R (.ok (.ret .none)) ⟨h', g, d, tk', os⟩) :
    codeAny (model prog w) A (.call (.builtin "object.__setattr__") ⟨[.ref x, .str n tk, v], []⟩) R ⟨hp, g, d, t, os⟩ := by
  have hxs : x ≠ hp.objs.size := Nat.ne_of_lt (Heap.lt_size hx)
  refine PySem.W.osa_openX (od := none) SF X ⟨hx, rfl, rfl, trivial⟩ ho (taker_none ha) fun b => ?_
  obtain ⟨cd, hc, hd'⟩ := PySem.W.any_some hh
  have hcls : PySem.W.Looks (model prog w) hp (classData C) cd := PySem.W.looks_clsIn X hc
  obtain ⟨nm, bs, mro, ns, qn, hdd, sn, sb, ab, col, del⟩ := cd
  dsimp only at hd'
  subst hd'
  show wpAny _ _ (storeInOwnDict (.ref x) (.ref C) (.str n tk) n v b) _ _ _
  unfold storeInOwnDict ownDictForStores
  repeat (first | with_reducible refine PySem.HandSPX.store_in_new ?_ ?_ | with_reducible refine wpAny_loadPart_at hx ?_ | with_reducible refine hcls.at ?_ | wp_step)
  · exact ⟨_, #[], _, (Heap.get?_update_ne _ _ _ _ hxs.symm).trans (Heap.get?_push_at rfl rfl), rfl, fun e he => absurd he (by simp), fun _ => rfl⟩
  · intro h' tk' hn' hs
    refine hq h' tk' hp.objs.size (fun b o hb q => ?_) (Nat.le_refl _) hxs.symm ?_ hn'
    · exact (hs.2 b (Nat.ne_of_lt (Heap.lt_size q))).trans ((Heap.get?_update_ne _ _ _ _ hb).trans (Heap.get?_push_of_some _ q))
    · exact (hs.2 x hxs).trans (Heap.get?_update_self _ (Heap.get?_push_of_some _ hx) rfl)
theorem osaB_old {K : PySem.W.Frag} {n : Str} {tk : Tok} {v : Value} {x C dx : Addr} {fv : Array Value} {m0 : Str → Option Value} {nl : List Str} (SF : PySem.StoreFacts B bmB "object.__setattr__" "object") (X : K.In hp) (hx : hp.get? x = some { cls := .ref C, dict := some dx, data := .fields fv })
    (hns : hp.Ns1 dx m0) (hw : Within m0 nl) (hz : nl.length ≤ 1000) (ho : PySem.W.excOver K C bmB = true) (hh : PySem.W.hasDictIn K C = true) (ha : PySem.W.findIn K (.ref C) n = some none)
    (hq : ∀ h' tk', (∀ b o, b ≠ dx → hp.get? b = some o → h'.get? b = some o) → h'.Ns1 dx (fun y => if y = n then some v else m0 y) → R (.ok (.ret .none)) ⟨h', g, d, tk', os⟩) :
    codeAny (model prog w) A (.call (.builtin "object.__setattr__") ⟨[.ref x, .str n tk, v], []⟩) R ⟨hp, g, d, t, os⟩ := by
  obtain ⟨oD, esD, epD, hoD, hdD, _⟩ := hns.count hw
  refine PySem.W.osa_openX (od := some oD) SF X ⟨hx, rfl, rfl, hoD⟩ ho (taker_none ha) fun b => ?_
  obtain ⟨cd, hc, hd'⟩ := PySem.W.any_some hh
  have hcls : PySem.W.Looks (model prog w) hp (classData C) cd := PySem.W.looks_clsIn X hc
  obtain ⟨nm, bs, mro, ns, qn, hdd, sn, sb, ab, col, del⟩ := cd
  dsimp only at hd'
  subst hd'
  show wpAny _ _ (storeInOwnDict (.ref x) (.ref C) (.str n tk) n v b) _ _ _
  unfold storeInOwnDict ownDictForStores
  repeat (first | with_reducible refine PySem.OEX.store_in_old hns hw hz ?_ | with_reducible refine wpAny_loadPart_at hx ?_ | with_reducible refine hcls.at ?_ | wp_step)
  intro h' tk' hn' hs
  exact hq h' tk' (fun b o hb q => (hs.2 b hb).trans q) hn'
end
section
variable {X : Cx} {pins : List (Addr × Obj)} {σ : L2.St} {H : Hp} {s : Shared} {a C dx : Addr} {f : Str} {y : V} {u : Value} {fs : List (Str × V)} {Q : Unit → Shared → Prop} {E : Value → Shared → Prop} {A : Around}
theorem ostB_new (T : OexB X.K C) (I : Inv X pins σ H s) (e : H a = some (exo a C none)) (hno : PySem.W.findIn X.K (.ref C) f = some none) (ry : RelV y u)
    (h : ∀ dx s', H dx = none → dx ≠ a → Inv X pins σ (upd (upd H dx (exd dx [(f, y)])) a (exo a C (some dx))) s' → Q () s') : wpAny (model X.prog X.w) A (setAttr (.ref a) f u) Q E s := by
  obtain ⟨B, newId, initId, bmB, -, SF, -, ov⟩ := T.base
  obtain ⟨t1, ho⟩ := exo_at I.hok e
  obtain ⟨hp, g, d, t, os⟩ := s
  refine PySem.W.set_plain I.kIn (od := none) ⟨ho, rfl, rfl, trivial⟩ T.sa (osaB_new SF I.kIn ho ov T.hd hno fun h' tk' dx k dn dne hx hn => ?_)
  have hnd : H dx = none := I.hok.fresh dn
  have nd : ∀ b o, hp.get? b = some o → b ≠ dx := fun b o q => Nat.ne_of_lt (Nat.lt_of_lt_of_le (Heap.lt_size q) dn)
  have na : ∀ b, H b = none → b ≠ a := fun b n z => by rw [z, e] at n; cases n
  have U : Un X.fs [] H (upd (upd H dx (exd dx [(f, y)])) a (exo a C (some dx))) hp h' := by
    refine ⟨fun b o q n _ _ => k b o (na b n) q, fun b o q n _ _ => ⟨o.slots, k b o (na b n) q⟩, fun b o q n _ => ?_, fun b o q _ => ?_, fun b xs q => ?_, fun b o v q => ?_, fun b ps q => ⟨#[], ?_⟩⟩
    · rw [upd_ne (na b n), upd_ne (nd b o q), n]
    · by_cases hb : b = a
      · subst hb; exact ⟨_, hx⟩
      · exact ⟨o, k b o hb q⟩
    · rw [upd_ne (at_ne e q exo_tup), upd_ne (ne_of_none q hnd), q]
    · rw [upd_ne (at_ne e q exo_frz), upd_ne (ne_of_none q hnd), q]
    · rw [upd_ne (at_ne e q exo_tbl), upd_ne (ne_of_none q hnd), q]; simp
  refine h dx _ hnd dne (I.un (t' := tk') U fun b o q => ?_)
  by_cases hb : b = a
  · subst hb; rw [upd_same] at q; cases q; exact exo_ok hx
  · rw [upd_ne hb] at q
    by_cases hd : b = dx
    · subst hd; rw [upd_same] at q; cases q; exact exd_ok hn (relO_put (fs := []) ry fun g => True.intro)
    · rw [upd_ne hd] at q
      refine (I.hok b o q).stay (fun c v hc z => k c v ?_ z) (fun c hc => ?_) (fun c xs hc => ?_)
      · rcases hc with hc | hc
        · exact fun z => hb (hc ▸ z)
        · exact at_ne e hc exo_own
      · rw [upd_ne (at_ne e hc exo_own), upd_ne (ne_of_none hc hnd), hc]
      · rw [upd_ne (at_ne e hc exo_tup), upd_ne (ne_of_none hc hnd), hc]
theorem ostB_old (T : OexB X.K C) (I : Inv X pins σ H s) (e : H a = some (exo a C (some dx))) (ed : H dx = some (exd dx fs)) (hl : fs.length ≤ 900) (hno : PySem.W.findIn X.K (.ref C) f = some none) (ry : RelV y u)
    (h : ∀ s', Inv X pins σ (upd H dx (exd dx ((f, y) :: fs))) s' → Q () s') : wpAny (model X.prog X.w) A (setAttr (.ref a) f u) Q E s := by
  obtain ⟨B, newId, initId, bmB, -, SF, -, ov⟩ := T.base
  obtain ⟨t1, ho⟩ := exo_at I.hok e
  obtain ⟨mA, hns, rel⟩ := exd_at I.hok ed
  obtain ⟨hp, g, d, t, os⟩ := s
  obtain ⟨oD, _, _, hoD, _, _⟩ := hns.count (within_of rel)
  refine PySem.W.set_plain I.kIn (od := some oD) ⟨ho, rfl, rfl, hoD⟩ T.sa (osaB_old SF I.kIn ho hns (within_of rel) (by rw [List.length_map]; omega) ov T.hd hno fun h' tk' k hn => ?_)
  have hd : ∃ o, h'.get? dx = some o := by
    obtain ⟨o, _, _, e', _⟩ := hn
    exact ⟨o, e'⟩
  exact h _ (I.write (t' := tk') (x := dx) (e := dx) (o := exd dx ((f, y) :: fs)) (by rw [ed]; exact True.intro) (.inl rfl) k hd (exd_ok hn (relO_put ry rel)))
end
def tOsB (K : PySem.W.Frag) (f : Str) (to te : TE) : TS := fun D σ H => te σ H fun y H1 => to σ H1 fun x H2 => ∃ a C : Addr, x = .ref a ∧ OexB K C ∧ PySem.W.findIn K (.ref C) f = some none ∧
  ((H2 a = some (exo a C none) ∧ ∀ dx, H2 dx = none → dx ≠ a → D.nx σ (upd (upd H2 dx (exd dx [(f, y)])) a (exo a C (some dx)))) ∨
    ∃ (dx : Addr) (fs : List (Str × V)), H2 a = some (exo a C (some dx)) ∧ H2 dx = some (exd dx fs) ∧ fs.length ≤ 900 ∧ D.nx σ (upd H2 dx (exd dx ((f, y) :: fs))))
theorem ps_osB {X : Cx} {o e : Expr} {to te : TE} {f : Str} {p' pos : Pos} (ho : PE X o to) (he : PE X e te) (hs : swapsWith e (some (.Attribute o f p')) pos.line X.env = pure false := by rfl) : PS X (.Assign [.Attribute o f p'] e pos) (tOsB X.K f to te) := by
  refine ⟨fun pins s σ H D I h => ?_⟩
  refine plainObj_wpAny_Assign_Attribute (thn (he.run pins s σ H _ I h) fun v s1 ⟨y, H1, I1, r1, q1⟩ => thn (ho.run pins s1 σ H1 _ I1 q1) fun u s2 ⟨x, H2, I2, r2, a, C, ex, T, hno, q⟩ => ?_) hs
  subst ex
  obtain rfl : u = Value.ref a := r2
  rcases q with ⟨ea, q⟩ | ⟨dx, fs, ea, ed, hl, q⟩
  · exact ostB_new T I2 ea hno r1 fun dx s' n ne J => ⟨σ, _, J, q dx n ne⟩
  · exact ostB_old T I2 ea ed hl hno r1 fun s' J => ⟨σ, _, J, q⟩
def spI (K : PySem.W.Frag) (C : Addr) (n : Nat) (ff : List V → List (Str × V)) : Sp := fun vs H Q _ => vs.length = n + 1 ∧ ∃ a ws, vs = .ref a :: ws ∧ H a = some (exo a C none) ∧ ∀ d H', H d = none → d ≠ a → H' a = some (exo a C (some d)) → H' d = some (exd d (ff ws)) → (∀ b, b ≠ a → b ≠ d → H' b = H b) → Q .non H'
section
variable {P : Program} {w : World} {K : PySem.W.Frag} {mg : Str → Option Value} {base : Heap}
theorem init1_ok {qual f z : Str} {st : Stmt} {fI C : Addr} {fd : FuncData} {k : Nat} (F : Fun K "__init__" qual st fI fd) (S : FnScope ["self"] ["self"] (defScope st)) (T : OexB K C) (hno : PySem.W.findIn K (.ref C) f = some none)
    (hb : ∀ (cdv : Value) (A : Around) (outer : List Env) (s : Shared) (H : Hp) (E : XK), PSs (cxOf (L2.CX P w) P w K mg base ["self"] qual (defScope st) fI cdv A outer s H E) (defBody st) (tOsB K f (tVar 0) (tC (.str z)))) :
    FnOk P w K mg base (L2.CX P w) (k + 1) fI fd ["self"] (spI K C 0 fun _ => [(f, .str z)]) := by
  refine F.okX S (fun vs H Q E h => h.1) fun cdv A outer s H vs Q E hr h => ⟨_, hb cdv A outer s H E, ?_⟩
  obtain ⟨hl, a, ws, rfl, ha, hq⟩ := h
  refine ⟨.ref a, rfl, a, C, rfl, T, hno, .inl ⟨ha, fun dx hn hne => hq dx _ hn hne upd_same ?_ fun b b1 b2 => ?_⟩⟩
  · rw [upd_ne hne, upd_same]
  · rw [upd_ne b1, upd_ne b2]
end
def tMkB (C : Addr) (n : Nat) (ff : List V → List (Str × V)) (ta : TA) : L2.St → Hp → XK → Prop := fun σ H Q => ta σ H fun vs H1 => vs.length = n ∧ n ≤ 1000 ∧ ∀ d, H1 d = none → Q (.ref C) (some d) (upd H1 d (.xd (ff vs)))
section
variable {X : Cx} {x : Str} {C fI : Addr} {k n : Nat} {fd : FuncData} {ps : List Str} {ff : List V → List (Str × V)} {ta : TA} {p pos : Pos} {e : Expr} {es : List Expr}
theorem mkB_run {pins : List (Addr × Obj)} {σ : L2.St} {H1 : Hp} {s1 : Shared} {Q : XK} {us : List Value} {vs : List V} (T : OexB X.K C) (iC : PySem.W.findIn X.K (.ref C) "__init__" = some (some (.ref fI))) (tI : PySem.W.typeIn X.K (.ref fI) = some (.type "function"))
    (F1 : FnOk X.prog X.w X.K X.mg X.base (L2.CX X.prog X.w) k fI fd ps (spI X.K C n ff)) (hr : Room (k + 1) X.A) (hb : Binds X.K fd ps []) (I1 : Inv X pins σ H1 s1) (r1 : Vals vs us) (hv : vs.length = n) (hn1 : n ≤ 1000) (q1 : ∀ d, H1 d = none → Q (.ref C) (some d) (upd H1 d (.xd (ff vs)))) :
    wpAny (model X.prog X.w) X.A (call (.ref C) us) (MkP X pins σ Q) X.xe s1 := by
  obtain ⟨B, newId, initId, bmB, FB, -, hI, -⟩ := T.base
  obtain ⟨nm, N, qn, bs, bm, hdct, sn, sub, ab, col, dd, k0, k1, k2, k3, k5, hC, hT⟩ := PySem.W.excInit_of I1.kIn hI
  obtain ⟨hp, g, dr, tk, os⟩ := s1
  have hsz : hp.objs.size ≤ hp.objs.size + 1 := Nat.le_succ _
  have hn : H1 (hp.objs.size + 1) = none := I1.hok.fresh hsz
  have kk : ∀ b o, hp.get? b = some o → ((hp.push (PySem.W.kdv_tup us)).push (PySem.HandSPX.excO C hp.objs.size)).get? b = some o := fun b o z => Heap.get?_push_of_some _ (Heap.get?_push_of_some _ z)
  have hget : ((hp.push (PySem.W.kdv_tup us)).push (PySem.HandSPX.excO C hp.objs.size)).get? (hp.objs.size + 1) = some (PySem.HandSPX.excO C hp.objs.size) := by heap_get
  have I2 := I1.laid (t' := tk) (a := hp.objs.size + 1) (o := exo (hp.objs.size + 1) C none) (h' := (hp.push (PySem.W.kdv_tup us)).push (PySem.HandSPX.excO C hp.objs.size)) kk hsz (exo_ok hget)
  have hq : spI X.K C n ff (.ref (hp.objs.size + 1) :: vs) (upd H1 (hp.objs.size + 1) (exo (hp.objs.size + 1) C none)) (fun v H2 => v = .non ∧ ∃ (d : Addr), H2 (hp.objs.size + 1) = some (exo (hp.objs.size + 1) C (some d)) ∧ H2 d = some (exd d (ff vs)) ∧ H1 d = none ∧ Q (.ref C) (some d) (upd (del H2 (hp.objs.size + 1)) d (.xd (ff vs)))) (fun _ _ _ => False) := by
    refine ⟨by rw [List.length_cons, hv], _, vs, rfl, upd_same, fun d H2 hd hne e1 e2 e3 => ⟨rfl, d, e1, e2, ?_, ?_⟩⟩
    · rw [upd_ne hne] at hd; exact hd
    · rw [upd_ne hne] at hd
      have eH : upd (del H2 (hp.objs.size + 1)) d (.xd (ff vs)) = upd H1 d (.xd (ff vs)) := by
        funext b
        by_cases b1 : b = d
        · subst b1; rw [upd_same, upd_same]
        · rw [upd_ne b1, upd_ne b1]
          by_cases b2 : b = hp.objs.size + 1
          · subst b2; rw [del_same, hn]
          · rw [del_ne b2, e3 b b2 b1, upd_ne b2]
      rw [eH]
      exact q1 d hd
  have r2 : Vals (V.ref (hp.objs.size + 1) :: vs) (Value.ref (hp.objs.size + 1) :: us) := .cons rfl r1
  have hl : (Value.ref (hp.objs.size + 1) :: us).length = ps.length := by
    have z := r2.length
    rw [F1.len _ _ _ _ hq] at z
    exact z.symm
  have b2 := hb _ (Value.ref (hp.objs.size + 1) :: us) I2.kIn (by rw [List.append_nil]; exact hl)
  rw [List.append_nil] at b2
  refine wpAny_call (PySem.HandSPX.call_own FB hT hC (PySem.W.looks_findIn I1.kIn iC) (fun self => PySem.W.bind_fn I1.kIn self tI) (by rw [← Paired.length r1, hv, sizeLine_eq]; omega)
    (codeAny_mono (F1.run _ X.stack _ _ ⟨Value.ref (hp.objs.size + 1) :: us, []⟩ _ _ _ (fun _ _ _ => False) (hr.make C us []) (I2.env0.make C us []) b2 r2 hq) fun r s' hq' => ?_))
  cases r with
  | error er => exact (passL pins σ _ _ er s' I2 hq')
  | ok fl =>
    cases fl with
    | ret u =>
      obtain ⟨v, H2, os2, bare2, un2, hok2, rv, ev, d, ea, ed, hd1, q2⟩ := hq'
      subst ev
      obtain ⟨h2, g2, d2, t2, os'⟩ := s'
      exact ⟨rv, mk_end (raises_own T.ex T.ty) I1 hsz kk un2 hok2 os2 bare2 ea ed hd1 q2⟩
    | next => exact False.elim hq'
    | brk => exact False.elim hq'
    | cont => exact False.elim hq'
theorem pmkB0 (T : OexB X.K C) (iC : PySem.W.findIn X.K (.ref C) "__init__" = some (some (.ref fI))) (tI : PySem.W.typeIn X.K (.ref fI) = some (.type "function"))
    (F1 : FnOk X.prog X.w X.K X.mg X.base (L2.CX X.prog X.w) k fI fd ps (spI X.K C 0 ff)) (hr : Room (k + 1) X.A) (hb : Binds X.K fd ps []) (hm : X.mg x = some (.ref C)) (hg : Gl X x := by rfl) (hdb : (x == ("__debug__" : Str)) = false := by decide) :
    PMk X (.Call (.Name x p) [] [] pos) (tMkB C 0 ff tNil) := fun pins s σ H Q I h =>
  wpAny_Call_Name_kw (ld_glob I hg hm (PySem.W.callWith_K0 I.kIn T.kp (mkB_run (us := []) T iC tI F1 hr hb I .nil h.1 h.2.1 h.2.2)) hdb)
end
end DV
namespace DV
open PySem L2 PySem.Spec PySem.Calls PyProof.Rows
abbrev TX := Addr → Value → Option Addr → TS
def endsAt (D : Ends) (i : Nat) : Ends := { nx := fun σ H => D.nx (σ.set i none) H, rt := D.rt, bk := fun σ H => D.bk (σ.set i none) H, ct := fun σ H => D.ct (σ.set i none) H }
def wNamed (K : PySem.W.Frag) (Wout : WX) (D : Ends) : List (Value × Nat × TX) → WX
  | [] => Wout
  | (c, i, ts) :: r => fun cls d σ H => ∃ b, PySem.W.exmOne K cls c = some b ∧ (b = true → ∀ a, H a = none → ts a cls d (endsAt D i) (σ.set i (some (.ref a))) H) ∧ (b = false → wNamed K Wout D r cls d σ H)
inductive HdsN (X : Cx) : List ExceptHandler → List (Value × Nat × TX) → Prop
  | nil : HdsN X [] []
  | cons {x n : Str} {i : Nat} {c : Value} {ts : TX} {b₀ : Stmt} {suite : List Stmt} {np pos' : Pos} {hds : List ExceptHandler} {l : List (Value × Nat × TX)} (hi : X.N[i]? = some n) (hln : X.env.kindOf n = some .local) (hc : Names X x c)
      (hsu : ∀ (a : Addr) (oe : Obj) (cls : Value) (d : Option Addr) (pn : List (Addr × Obj)), Zc cls d oe → (∃ vs, oe.data = .fields vs) → PSs (X.suite a ((a, oe) :: pn)) (b₀ :: suite) (ts a cls d)) (r : HdsN X hds l) :
      HdsN X (.ExceptHandler (some (.Name x np)) (some n) (b₀ :: suite) pos' :: hds) ((c, i, ts) :: l)
theorem ps_tryN {X : Cx} {body : List Stmt} {h₀ : ExceptHandler} {hds : List ExceptHandler} {l : List (Value × Nat × TX)} {pos : Pos} {tb : WX → TS} {Wout : WX} (hs : X.stack = X.env :: X.outer) (hf : X.env.frame = some X.env.locals) (hN : X.N.Nodup) (tk : Takes X Wout)
    (hb : ∀ (W : WX) (pn : List (Addr × Obj)) (xe : Value → Shared → Prop), Takes (X.tr pn xe) W → PassesOwn (model X.prog X.w) X.A X.env xe → PSs (X.tr pn xe) body (tb W)) (hh : HdsN X (h₀ :: hds) l) :
    PS X (.Try body (h₀ :: hds) [] [] pos) (fun D σ H => tb (wNamed X.K Wout D l) D σ H) := by
  refine ⟨fun pins s σ H D I h => ?_⟩
  have ok := I.ok
  have hfr : X.A.frames = some (X.env :: X.outer) := by rw [ok.frames, hs]
  refine wpAny_Try_except (wpAny_mono ((hb (wNamed X.K Wout D l) (X.pn ++ pins) (fun e s₁ => wpAny (model X.prog X.w) X.A (noteFrame e X.env) (fun _ s₂ => wpAny (model X.prog X.w) X.A (setFlight e none) (fun _ s₃ => wpAny (model X.prog X.w) X.A (handleBy e X.env (h₀ :: hds)) (SP X pins D) X.xe s₃) X.xe s₂) X.xe s₁)
    (fun u s' xx => ?_) PassesOwn.looking).run [] s σ H D (I.toTry _) h) (fun f s1 hsp => ?_) (fun e s1 he => he))
  · obtain ⟨a, B, sI, pins', σ', H', cls, d, rfl, J', nb, up, sky, na, os, ag, w⟩ := xx
    have J : Inv X pins σ' H' sI := J'.ofTry ok
    show wpAny (model X.prog X.w) X.A (noteFrame (.ref a) X.env) _ _ _
    refine Sky.land Zc.steady hfr hf (by rw [← hs]; exact sky) fun h3 fl3 up3 => ?_
    have J3 : Inv X pins σ' H' { s' with heap := h3 } := J.landed nb fl3.1 (up.trans up3) os ag
    obtain ⟨oe3, vs3, he3, hz3, hd3⟩ := fl3.there
    have nfr : a ∉ frs (X.env :: X.outer) := fun hm => by
      obtain ⟨_, o', e', hnf⟩ := fl3.2.2.1.mem hm
      rw [he3] at e'
      cases e'
      exact hnf _ hd3
    have nL : a ≠ X.env.locals := fun z => nfr (List.mem_filterMap.mpr ⟨X.env, List.mem_cons_self, by rw [hf, z]⟩)
    have nF : a ∉ X.fs := fun hm => by
      obtain ⟨e, he, q⟩ := List.mem_filterMap.mp hm
      exact nfr (List.mem_filterMap.mpr ⟨e, List.mem_cons_of_mem _ he, q⟩)
    have S3 := J3.suite he3 hd3 na nL nF
    have go : ∀ {hds' : List ExceptHandler} {l' : List (Value × Nat × TX)}, HdsN X hds' l' → wNamed X.K Wout D l' cls d σ' H' → wpAny (model X.prog X.w) X.A (handleBy (.ref a) X.env hds') (SP X pins D) X.xe { s' with heap := h3 } := by
      intro hds' l' hk
      induction hk with
      | nil =>
        intro w
        refine wpAny_handleBy_nil ?_
        obtain ⟨k1, k2, k3, oe, vs, T, oT, ts', he, hz, hd, h1, hr⟩ := id fl3
        unfold PySem.passOn
        refine wpAny_bind (wpAny_field he hd h1 ?_)
        rw [if_neg (by simp)]
        have fin : wpAny (model X.prog X.w) X.A (setFlight (.ref a) X.env.frame) (fun _ s4 => wpAny (model X.prog X.w) X.A (throw (.ref a) : Sem Flow) (SP X pins D) X.xe s4) X.xe { s' with heap := h3 } := by
          rw [hf]
          exact HandSPX.setFlight_upZ fl3 fun h4 hh4 up4 => wpAny_throw (tk _ _ ⟨a, B, sI, pins, σ', H', cls, d, rfl, J, nb, (up.trans up3).trans up4, .inr (.inr (by rw [hs]; exact hh4)), na, os, ag, w⟩)
        first
          | exact wpAny_bind (wpAny_pure (wpAny_bind fin))
          | exact wpAny_bind fin
      | @cons x n i c ts b₀ suite np pos' hds2 l2 hi hln hc hsu r ih =>
        intro w
        obtain ⟨b, hb1, hyes, hno⟩ := w
        refine wpAny_handleBy_cons (codeAny_handlers_test ?_) (by intro q; cases q)
        have LT : PySem.W.Looks (model X.prog X.w) h3 (typeOf (.ref a)) cls := fun A Q E s k q => wpAny_typeOf_ref (k _ _ he3) (by rw [hz3.1]; exact q)
        have LM := PySem.W.exm_one (M := model X.prog X.w) J3.kIn LT hb1
        have test : ∀ {Q : Value → Shared → Prop} {E : Value → Shared → Prop}, Q c { s' with heap := h3 } → wpAny (model X.prog X.w) (X.A.mark (some (.ref a))) (eval (.Name x np) X.env) Q E { s' with heap := h3 } := fun {Q E} q => by
          obtain ⟨hg, hdbg, hm | ⟨hm, hv, hnn⟩⟩ := hc
          · exact ld_glob (X := X.suite a ((a, oe3) :: (X.pn ++ pins))) S3 hg hm q hdbg
          · exact ld_blt (X := X.suite a ((a, oe3) :: (X.pn ++ pins))) S3 hg hm hv q hnn hdbg
        refine test (LM.here ?_)
        cases b with
        | true =>
          refine codeAny_handlers_suite_as (HandSPX.lands_againZ fl3 fun h4 fl4 up4 => ?_)
          have J4 : Inv X pins σ' H' { s' with heap := h4 } := J.landed nb fl4.1 ((up.trans up3).trans up4) os ag
          obtain ⟨oe4, vs4, he4, hz4, hd4⟩ := fl4.there
          refine store_ok (X := X.suite a ((a, oe4) :: (X.pn ++ pins))) (v := .ref a) (J4.suite he4 hd4 na nL nF) hN hi (.inl hln) rfl (fun s5 S5 => ?_) (.inr hln)
          refine wpAny_mono ((hsu a oe4 cls d (X.pn ++ pins) hz4 ⟨_, hd4⟩).run [] s5 _ H' _ S5 (hyes rfl a na)) (fun f s6 hsp => ?_) (fun _ _ z => False.elim z)
          have end_ : ∀ {σ6 : L2.St} {H6 : Hp} {Q : Shared → Prop}, Inv (X.suite a ((a, oe4) :: (X.pn ++ pins))) [] σ6 H6 s6 → (∀ s7, Inv X pins (σ6.set i none) H6 s7 → Q s7) → wpAny (model X.prog X.w) X.A (do bindName X.env n .none; unbindBehindTheSuite X.env n pos') (fun _ s7 => Q s7) X.xe s6 :=
            fun {σ6 H6 Q} S6 hq => gone_ok (S6.unsuite ok) hN hi hln hq
          cases f with
          | next => obtain ⟨σ6, H6, S6, q6⟩ := hsp; exact end_ S6 fun s7 J7 => ⟨_, _, J7, q6⟩
          | brk => obtain ⟨σ6, H6, S6, q6⟩ := hsp; exact end_ S6 fun s7 J7 => ⟨_, _, J7, q6⟩
          | cont => obtain ⟨σ6, H6, S6, q6⟩ := hsp; exact end_ S6 fun s7 J7 => ⟨_, _, J7, q6⟩
          | ret u => obtain ⟨v6, σ6, H6, S6, r6, q6⟩ := hsp; exact end_ S6 fun s7 J7 => ⟨_, _, _, J7, r6, q6⟩
        | false => exact ih (hno rfl)
    exact go hh w
  · cases f with
    | next => obtain ⟨σ', H', J', q⟩ := hsp; exact wpAny_execs_nil ⟨σ', H', J'.ofTry ok, q⟩
    | brk => obtain ⟨σ', H', J', q⟩ := hsp; exact ⟨σ', H', J'.ofTry ok, q⟩
    | cont => obtain ⟨σ', H', J', q⟩ := hsp; exact ⟨σ', H', J'.ofTry ok, q⟩
    | ret u => obtain ⟨v, σ', H', J', r, q⟩ := hsp; exact ⟨v, σ', H', J'.ofTry ok, r, q⟩
section
variable {X : Cx} {W : WX} {K : PySem.W.Frag}
def cRaise (c : Str) (ff : List D → List (Str × D)) (fa : DS → Res (List D)) : DS → Fl := fun δ => stE (fa δ) δ fun ds => .rs ⟨c, ff ds⟩ δ
structure FF (n : Nat) (fv : List V → List (Str × V)) (fd : List D → List (Str × D)) : Prop where
  ok : ∀ (K : PySem.W.Frag) (B : Hp) (vs : List V) (ds : List D), vs.length = n → RpA K B vs ds → (fv vs).map (·.1) = (fd ds).map (·.1) ∧ RpA K B ((fv vs).map (·.2)) ((fd ds).map (·.2))
def fv1 (f z : Str) : List V → List (Str × V) := fun _ => [(f, .str z)]
def fd1 (f z : Str) : List D → List (Str × D) := fun _ => [(f, .str z)]
def fv2 (f z g : Str) : List V → List (Str × V) := fun ws => [(g, ws.getD 0 .non), (f, .str z)]
def fd2 (f z g : Str) : List D → List (Str × D) := fun ws => [(g, ws.getD 0 .non), (f, .str z)]
theorem ff1 {f z : Str} : FF 0 (fv1 f z) (fd1 f z) := ⟨fun _ _ _ _ _ _ => ⟨rfl, .cons (.v _) .nil⟩⟩
theorem ss_raise {C : Addr} {c : Str} {n : Nat} {fv : List V → List (Str × V)} {fd : List D → List (Str × D)} {ta : TA} {fa : DS → Res (List D)} (hc : clsV K c = some (.ref C)) (hn : n ≤ 1000) (F : FF n fv fd) (ha : SA K W ta fa) (hl : ∀ δ ds, fa δ = .ok ds → ds.length = n) :
    SS K W (fun _ σ H => tMkB C n fv ta σ H fun cls d H' => W cls d σ H') (cRaise c fd fa) := fun B0 H0 δ σ B H E rel hp => by
  unfold cRaise at hp
  refine ha B0 H0 δ σ B H _ rel ?_
  cases e : fa δ with
  | no => rw [e] at hp; exact hp
  | er x => rw [e] at hp; exact fun c dx B' H' g r => hp c dx σ B' H' g.b (rel.mono g) r
  | ok ds =>
    rw [e] at hp
    intro vs B1 H1 g1 r1
    have hv : vs.length = n := r1.length.trans (hl δ ds e)
    refine ⟨hv, hn, fun d hd => ?_⟩
    have g2 := Grow.new (K := K) (o := .xd (fv vs)) g1.i hd
    obtain ⟨f1, f2⟩ := F.ok K B1 vs ds hv r1
    exact hp _ _ σ _ _ (g1.b.trans g2.b) ((rel.mono g1).mono g2) ⟨hc, d, fv vs, rfl, upd_same, f1, RpA.mono g2.b f2⟩
structure ExK (K : PySem.W.Frag) (mg : Str → Option Value) (x : Str) (C fI : Addr) : Prop where
  T : OexB K C
  m : mg x = some (.ref C)
  c : clsV K x = some (.ref C)
  iC : PySem.W.findIn K (.ref C) "__init__" = some (some (.ref fI))
  tI : PySem.W.typeIn K (.ref fI) = some (.type "function")
theorem q_cs_raise0 {x : Str} {C fI : Addr} {k : Nat} {fd : FuncData} {ps : List Str} {fv : List V → List (Str × V)} {fD : List D → List (Str × D)} {p pos pos' : Pos} (tk : Takes X W) (T : ExK X.K X.mg x C fI) (F1 : FnOk X.prog X.w X.K X.mg X.base (L2.CX X.prog X.w) k fI fd ps (spI X.K C 0 fv)) (hr : Room (k + 1) X.A) (hb : Binds X.K fd ps [])
    (F : FF 0 fv fD) (hc : X.calm = true) (hg : Gl X x := by rfl) (hdb : (x == ("__debug__" : Str)) = false := by decide) : CS X W (.Raise (some (.Call (.Name x p) [] [] pos)) none pos') (fun _ σ H => tMkB C 0 fv tNil σ H fun cls d H' => W cls d σ H') (cRaise x fD cNil) :=
  ⟨ps_raise hc tk (pmkB0 T.T T.iC T.tI F1 hr hb T.m hg hdb), ss_raise T.c (by decide) F (fun B0 H0 δ σ B H Q rel hp => hp [] B H (Grow.refl rel.g.i) .nil) (fun δ ds h => by cases h; rfl)⟩
theorem cs_raise0 (K : PySem.W.Frag) (hK : X.K = K) {x : Str} {C fI : Addr} {k : Nat} {fd : FuncData} {ps : List Str} {fv : List V → List (Str × V)} {fD : List D → List (Str × D)} {p pos pos' : Pos} (tk : Takes X W) (T : ExK K X.mg x C fI) (F1 : FnOk X.prog X.w K X.mg X.base (L2.CX X.prog X.w) k fI fd ps (spI K C 0 fv)) (hr : Room (k + 1) X.A) (hb : Binds K fd ps [])
    (F : FF 0 fv fD) (hc : X.calm = true := by rfl) (hg : Gl X x := by rfl) (hdb : (x == ("__debug__" : Str)) = false := by decide) : CS X W (.Raise (some (.Call (.Name x p) [] [] pos)) none pos') (fun _ σ H => tMkB C 0 fv tNil σ H fun cls d H' => W cls d σ H') (cRaise x fD cNil) := by
  subst hK
  exact q_cs_raise0 tk T F1 hr hb F hc hg hdb
end
def XcK (K : PySem.W.Frag) (v : Value) : Prop := ∃ C, v = .ref C ∧ XfC K C ∧ ExcC K C ∧ ∀ f ∈ (["word", "name", "there", "ring", "at"] : List Str), PySem.W.findIn K (.ref C) f = some none
section
variable {K : PySem.W.Frag} {B B' H H' : Hp} {x : Exn} {c : Value} {d : Option Addr}
theorem RpX.mono (s : Same B B') (h : RpX K B c d x) : RpX K B' c d x := by
  obtain ⟨h1, dd, us, h2, h3, h4, h5⟩ := h
  exact ⟨h1, dd, us, h2, s _ _ h3, h4, RpA.mono s h5⟩
structure Ctx1 (K : PySem.W.Frag) (i : Nat) (x : Exn) (a : Addr) (cls : Value) (d : Option Addr) (B : Hp) (σ : L2.St) : Prop where
  at_ : σ[i]? = some (some (.ref a))
  rp : RpX K B cls d x
  k : XcK K cls
theorem Ctx1.mono {i : Nat} {a : Addr} {σ : L2.St} (s : Same B B') (h : Ctx1 K i x a c d B σ) : Ctx1 K i x a c d B' σ := ⟨h.at_, h.rp.mono s, h.k⟩
end
def SEx (K : PySem.W.Frag) (i : Nat) (x : Exn) (a : Addr) (cls : Value) (d : Option Addr) (t : TE) (f : DS → Res D) : Prop := ∀ B0 H0 δ σ B H (Q : VK), Rel K B0 H0 B H σ δ → Ctx1 K i x a cls d B σ → PostE K B H σ W0 Q (f δ) → t σ H Q
def STx (K : PySem.W.Frag) (i : Nat) (x : Exn) (a : Addr) (cls : Value) (d : Option Addr) (t : TT) (f : DS → Res Bool) : Prop := ∀ B0 H0 δ σ B H (Q : Bool → Hp → Prop), Rel K B0 H0 B H σ δ → Ctx1 K i x a cls d B σ → PostT K B H σ W0 Q (f δ) → t σ H Q
def SAx (K : PySem.W.Frag) (i : Nat) (x : Exn) (a : Addr) (cls : Value) (d : Option Addr) (t : TA) (f : DS → Res (List D)) : Prop := ∀ B0 H0 δ σ B H (Q : List V → Hp → Prop), Rel K B0 H0 B H σ δ → Ctx1 K i x a cls d B σ → PostA K B H σ W0 Q (f δ) → t σ H Q
def SSx (K : PySem.W.Frag) (i : Nat) (x : Exn) (a : Addr) (cls : Value) (d : Option Addr) (t : TS) (g : DS → Fl) : Prop := ∀ B0 H0 δ σ B H (E : Ends), Rel K B0 H0 B H σ δ → Ctx1 K i x a cls d B σ → PostS K B0 H0 B W0 E (g δ) → t E σ H
abbrev TXE := Addr → Value → Option Addr → TE
abbrev TXT := Addr → Value → Option Addr → TT
abbrev TXA := Addr → Value → Option Addr → TA
def XCx (X : Cx) (P : Cx → Addr → Value → Option Addr → Prop) : Prop := ∀ (a : Addr) (oe : Obj) (cls : Value) (d : Option Addr) (pn : List (Addr × Obj)), Zc cls d oe → (∃ vs, oe.data = .fields vs) → P (X.suite a ((a, oe) :: pn)) a cls d
structure CEx (X : Cx) (i : Nat) (e : Expr) (t : TXE) (f : Exn → DS → Res D) : Prop where
  pe : XCx X fun Y a cls d => PE Y e (t a cls d)
  se : ∀ x a cls d, SEx X.K i x a cls d (t a cls d) (f x)
structure CTx (X : Cx) (i : Nat) (e : Expr) (t : TXT) (f : Exn → DS → Res Bool) : Prop where
  pt : XCx X fun Y a cls d => PT Y e (t a cls d)
  st : ∀ x a cls d, STx X.K i x a cls d (t a cls d) (f x)
structure CAx (X : Cx) (i : Nat) (es : List Expr) (t : TXA) (f : Exn → DS → Res (List D)) : Prop where
  pa : XCx X fun Y a cls d => PA Y es (t a cls d)
  sa : ∀ x a cls d, SAx X.K i x a cls d (t a cls d) (f x)
structure CXs (X : Cx) (i : Nat) (ss : List Stmt) (t : TX) (g : Exn → DS → Fl) : Prop where
  ps : XCx X fun Y a cls d => PSs Y ss (t a cls d)
  ss : ∀ x a cls d, SSx X.K i x a cls d (t a cls d) (g x)
section
variable {X : Cx} {i : Nat}
def fldR (f : Str) (x : Exn) : Res D := match x.fs.lookup f with
  | some d => .ok d
  | none => .no
def tXfB (K : PySem.W.Frag) (a : Addr) (cls : Value) (d : Option Addr) (f : Str) (te : TE) : TE := fun σ H Q => te σ H fun x H1 => x = .ref a ∧ ∃ C, cls = .ref C ∧ XfC K C ∧ PySem.W.findIn K (.ref C) f = some none ∧ ∃ (dd : Addr) (fs : List (Str × V)) (v : V), d = some dd ∧ H1 dd = some (.xd fs) ∧ fs.lookup f = some v ∧ Q v H1
theorem look2 {K : PySem.W.Frag} {B : Hp} {f : Str} : ∀ {us : List (Str × V)} {fs : List (Str × D)} {z : D}, us.map (·.1) = fs.map (·.1) → RpA K B (us.map (·.2)) (fs.map (·.2)) → fs.lookup f = some z → ∃ v, us.lookup f = some v ∧ Rp K B v z
  | [], [], z, _, _, e => by cases e
  | [], _ :: _, _, e, _, _ => by cases e
  | _ :: _, [], _, e, _, _ => by cases e
  | (n, u) :: us, (m, z') :: fs, z, e, r, l => by
    obtain ⟨e1, e2⟩ := List.cons.inj e
    dsimp only at e1
    subst e1
    cases r with
    | cons h r =>
      rw [List.lookup_cons] at l ⊢
      cases q : (f == n) with
      | true => rw [q] at l; cases l; exact ⟨u, rfl, h⟩
      | false => rw [q] at l; exact look2 e2 r l
theorem cex_fld {e : Expr} {f : Str} {pos : Pos} (he : XCx X fun Y _ _ _ => PE Y e (tVar i)) (hf : f ∈ (["word", "name", "there", "ring", "at"] : List Str) := by decide) (hb : attributeBase e f X.env (eval e X.env) = eval e X.env := by rfl) :
    CEx X i (.Attribute e f pos) (fun a cls d => tXfB X.K a cls d f (tVar i)) (fun x _ => fldR f x) := by
  refine ⟨fun a oe cls d pn hz hv => ⟨fun pins s σ H Q I h => ?_⟩, fun x a cls d B0 H0 δ σ B H Q rel cx hp => ?_⟩
  · refine attr_of hb (thn ((he a oe cls d pn hz hv).run pins s σ H _ I h) fun u s1 hh => ?_)
    obtain ⟨x, H1, I1, rx, ex, C, ec, T, hno, dd, fs, v, ed, ea, l, q⟩ := hh
    subst ex
    obtain rfl : u = Value.ref a := rx
    subst ec ed
    obtain ⟨ha, _⟩ := I1.pin (a, oe) (List.mem_append_left _ List.mem_cons_self)
    obtain ⟨vs, hd⟩ := hv
    obtain ⟨mA, hns, hr⟩ := (show ObjOk X.prog X.w H1 s1.heap dd (.xd fs) from I1.hok dd _ ea)
    obtain ⟨od, ho, hl⟩ := lookIn_ns hns
    obtain ⟨u, hu, ru⟩ := RelO.some_of (v := v) (o := mA f) (by rw [← l]; exact hr f)
    have J : PySem.W.InstAt s1.heap a oe C (some od) := ⟨ha, hz.1, by unfold PySem.W.notCls; rw [hd] <;> rfl, by rw [hz.2]; exact ho⟩
    exact HandSPX.exc_get I1.kIn J T.ga T.gg T.exC (PySem.W.findObj_own T.hdC hno rfl (by rw [hl, hu])) (handed_of ru) ⟨v, H1, I1.tok _, ru, q⟩
  · obtain ⟨C, rfl, T, _, hno⟩ := cx.k
    obtain ⟨_, dd, us, rfl, hB, e1, e2⟩ := cx.rp
    refine ⟨_, cx.at_, rfl, C, rfl, T, hno f hf, dd, us, ?_⟩
    unfold fldR at hp
    cases q : x.fs.lookup f with
    | none => rw [q] at hp; exact hp.elim
    | some z =>
      rw [q] at hp
      obtain ⟨v, l1, l2⟩ := look2 e1 e2 q
      exact ⟨v, rfl, rel.g.i _ _ hB, l1, hp v B H (Grow.refl rel.g.i) l2⟩
theorem cxs_ret {e : Expr} {t : TXE} {f : Exn → DS → Res D} {pos : Pos} (h : CEx X i e t f) : CXs X i [.Return (some e) pos] (fun a cls d => tRet (t a cls d)) (fun x δ => stE (f x δ) δ fun z => .rt z) :=
  ⟨fun a oe cls d pn hz hv => pss_one (ps_ret (h.pe a oe cls d pn hz hv)), fun x a cls d B0 H0 δ σ B H E rel cx hp => h.se x a cls d B0 H0 δ σ B H _ rel cx (postE_of rel hp fun z v B' H' _ g r q => q v B' H' (Same.refl _) (rel.g.trans g) r)⟩
end
def Fl.leave (i : Nat) : Fl → Fl
  | .nx δ => .nx (δ.set i none)
  | .bk δ => .bk (δ.set i none)
  | .ct δ => .ct (δ.set i none)
  | .rt d => .rt d
  | .rf ds => .rf ds
  | .rn t => .rn t
  | .ro d δ => .ro d δ
  | _ => .no
abbrev Clauses := List ((Str → Option Bool) × Nat × (Exn → DS → Fl))
def cPick : Clauses → Exn → DS → Fl
  | [], x, δ => .rs x δ
  | (p, i, gs) :: r, x, δ => match p x.cls with
    | none => .no
    | some true => if i < δ.length then (gs x (δ.set i none)).leave i else .no
    | some false => cPick r x δ
def cTry (g : DS → Fl) (hs : Clauses) : DS → Fl := fun δ => match g δ with
  | .rs x δ' => cPick hs x δ'
  | r => r
def tabP (l : List (Str × Bool)) : Str → Option Bool := fun s => l.lookup s
inductive HdsC (X : Cx) : List ExceptHandler → List (Value × Nat × TX) → Clauses → Prop
  | nil : HdsC X [] [] []
  | cons {x n : Str} {i : Nat} {c : Value} {ts : TX} {gs : Exn → DS → Fl} {p : Str → Option Bool} {b₀ : Stmt} {suite : List Stmt} {np pos' : Pos} {hds : List ExceptHandler} {l : List (Value × Nat × TX)} {q : Clauses} (hi : X.N[i]? = some n) (hln : X.env.kindOf n = some .local) (hc : Names X x c)
      (hp : ∀ s b v, p s = some b → clsV X.K s = some v → PySem.W.exmOne X.K v c = some b ∧ (b = true → XcK X.K v)) (hsu : CXs X i (b₀ :: suite) ts gs) (r : HdsC X hds l q) : HdsC X (.ExceptHandler (some (.Name x np)) (some n) (b₀ :: suite) pos' :: hds) ((c, i, ts) :: l) ((p, i, gs) :: q)
theorem HdsC.n {X : Cx} : ∀ {hds : List ExceptHandler} {l : List (Value × Nat × TX)} {q : Clauses}, HdsC X hds l q → HdsN X hds l
  | _, _, _, .nil => .nil
  | _, _, _, .cons hi hln hc _ hsu r => .cons hi hln hc hsu.ps r.n
section
variable {X : Cx} {W : WX}
theorem pick_ok {B0 : Hp} {H0 : Org} {B : Hp} {E : Ends} : ∀ {hds : List ExceptHandler} {l : List (Value × Nat × TX)} {q : Clauses}, HdsC X hds l q → ∀ {x : Exn} {δ : DS}, PostS X.K B0 H0 B W E (cPick q x δ) → ∀ {c : Value} {dx : Option Addr} {σ : L2.St} {B' H' : Hp}, Same B B' → Rel X.K B0 H0 B' H' σ δ → RpX X.K B' c dx x → wNamed X.K W E l c dx σ H'
  | _, _, _, .nil, x, δ, hp, c, dx, σ, B', H', sb, rel, rp => hp c dx σ B' H' sb rel rp
  | _, _, _, @HdsC.cons _ _ _ i cv ts gs p _ _ _ _ _ _ _ hi hln hc hpt hsu r, x, δ, hp, c, dx, σ, B', H', sb, rel, rp => by
    unfold cPick at hp
    cases e : p x.cls with
    | none => rw [e] at hp; exact hp.elim
    | some b =>
      rw [e] at hp
      obtain ⟨h1, h2⟩ := hpt _ _ _ e rp.1
      refine ⟨b, h1, fun hb a ha => ?_, fun hb => ?_⟩
      · subst hb
        dsimp only at hp
        split at hp
        case isFalse => exact hp.elim
        rename_i hl0
        have hl : i < σ.length := by rw [rel.len]; exact hl0
        refine hsu.ss x a c dx B0 H0 (δ.set i none) (σ.set i (some (.ref a))) B' H' _ (rel.drop i) ⟨by rw [List.getElem?_set_self hl], rp, h2 rfl⟩ ?_
        cases e2 : gs x (δ.set i none) with
        | nx δ2 => rw [e2] at hp; exact fun σ2 B2 H2 s2 r2 => hp _ B2 H2 (sb.trans s2) (r2.drop i)
        | bk δ2 => rw [e2] at hp; exact fun σ2 B2 H2 s2 r2 => hp _ B2 H2 (sb.trans s2) (r2.drop i)
        | ct δ2 => rw [e2] at hp; exact fun σ2 B2 H2 s2 r2 => hp _ B2 H2 (sb.trans s2) (r2.drop i)
        | rt z => rw [e2] at hp; exact fun v B2 H2 s2 g r2 => hp v B2 H2 (sb.trans s2) g r2
        | rf z => rw [e2] at hp; exact fun p xs B2 H2 s2 g h0 hb hh rr => hp p xs B2 H2 (sb.trans s2) g h0 hb hh rr
        | rn t => rw [e2] at hp; exact fun v B2 H2 s2 g rt n => hp v B2 H2 (sb.trans s2) g rt n
        | ro d δ => rw [e2] at hp; exact fun v σ B2 H2 s2 r rp => hp v σ B2 H2 (sb.trans s2) r rp
        | rs x2 δ2 => rw [e2] at hp; exact hp.elim
        | no => rw [e2] at hp; exact hp.elim
      · subst hb
        exact pick_ok r hp sb rel rp
end
end DV
namespace DV
open PySem L2 PySem.Spec PySem.Calls PyProof.Rows
def oexB (K : PySem.W.Frag) (C : Addr) (bmB : List Value) (newId : String) : Bool :=
  PySem.W.excInitIn K C bmB newId && (PySem.W.excOver K C bmB && (PySem.W.hasDictIn K C && (decide (PySem.W.findIn K (.ref C) "__setattr__" = some (some (.builtin "object.__setattr__"))) && (decide (PySem.W.subIn K (.ref C) (.type "BaseException") = some true) && (decide (PySem.W.typeIn K (.ref C) = some (.type "type")) && PySem.W.keepIn K (.ref C))))))
theorem oexB_ok {K : PySem.W.Frag} {C : Addr} {B newId initId : String} {bmB : List Value} (F : ExcBaseFacts B newId initId bmB) (SF : PySem.StoreFacts B bmB "object.__setattr__" "object") (h : oexB K C bmB newId = true) : OexB K C := by
  obtain ⟨h1, h⟩ := Bool.and_eq_true_iff.mp h
  obtain ⟨h2, h⟩ := Bool.and_eq_true_iff.mp h
  obtain ⟨h3, h⟩ := Bool.and_eq_true_iff.mp h
  obtain ⟨h4, h⟩ := Bool.and_eq_true_iff.mp h
  obtain ⟨h5, h⟩ := Bool.and_eq_true_iff.mp h
  obtain ⟨h6, h7⟩ := Bool.and_eq_true_iff.mp h
  exact ⟨⟨B, newId, initId, bmB, F, SF, h1, h2⟩, h3, of_decide_eq_true h4, of_decide_eq_true h5, of_decide_eq_true h6, h7⟩
def xcB (K : PySem.W.Frag) (C : Addr) : Bool :=
  xfB K C && (decide (PySem.W.findIn K (.ref C) "__class__" = some (some (.builtin "object.__class__"))) && (decide (PySem.W.specialIn K (.builtin "object.__class__") "__get__" = some (some (.builtin "getset_descriptor.__get__"))) && (decide (PySem.W.takesIn K (.builtin "object.__class__") = some true) && (decide (PySem.W.mroIn K C (.type "object") = some true) &&
    (["word", "name", "there", "ring", "at"] : List Str).all fun f => decide (PySem.W.findIn K (.ref C) f = some none)))))
theorem xcB_ok {K : PySem.W.Frag} {C : Addr} (h : xcB K C = true) : XcK K (.ref C) := by
  obtain ⟨h1, h⟩ := Bool.and_eq_true_iff.mp h
  obtain ⟨h2, h⟩ := Bool.and_eq_true_iff.mp h
  obtain ⟨h3, h⟩ := Bool.and_eq_true_iff.mp h
  obtain ⟨h4, h⟩ := Bool.and_eq_true_iff.mp h
  obtain ⟨h5, h6⟩ := Bool.and_eq_true_iff.mp h
  have x := xfB_ok h1
  exact ⟨C, rfl, x, ⟨x.ga, x.gg, x.exC, x.hdC, of_decide_eq_true h2, of_decide_eq_true h3, of_decide_eq_true h4, of_decide_eq_true h5⟩, fun f hf => of_decide_eq_true (List.all_eq_true.mp h6 f hf)⟩
theorem XcK.no {K : PySem.W.Frag} {C : Addr} (h : XcK K (.ref C)) {f : Str} (hf : f ∈ (["word", "name", "there", "ring", "at"] : List Str) := by decide) : PySem.W.findIn K (.ref C) f = some none := by
  obtain ⟨C', e, _, _, h⟩ := h
  cases e
  exact h f hf
theorem clsV_of {K : PySem.W.Frag} {x : Str} {v : Value} (h : PySem.W.nsIn K mainGlobals x = some (some v)) : clsV K x = some v := by
  unfold clsV
  rw [h]
  rfl
def TabOk (K : PySem.W.Frag) (c : Value) (l : List (Str × Bool)) : Prop := ∀ s b v, tabP l s = some b → clsV K s = some v → PySem.W.exmOne K v c = some b ∧ (b = true → XcK K v)
theorem tab_nil {K : PySem.W.Frag} {c : Value} : TabOk K c [] := fun s b v h => by cases h
theorem tab_cons {K : PySem.W.Frag} {c v0 : Value} {l : List (Str × Bool)} {x : Str} {b0 : Bool} (hx : clsV K x = some v0) (he : PySem.W.exmOne K v0 c = some b0) (hk : XcK K v0) (r : TabOk K c l) : TabOk K c ((x, b0) :: l) := fun s b v h hv => by
  unfold tabP at h
  rw [List.lookup_cons] at h
  cases q : (s == x) with
  | true =>
    rw [q] at h
    cases h
    rw [beq_iff_eq.mp q] at hv
    rw [hx] at hv
    cases hv
    exact ⟨he, fun _ => hk⟩
  | false => rw [q] at h; exact r s b v h hv
def inCls (s : Stmt) (j : Nat) : Stmt := match s with
  | .ClassDef _ _ _ b _ _ _ _ _ _ _ => b.getD j (.Pass ⟨0, 0, 0, 0⟩)
  | _ => .Pass ⟨0, 0, 0, 0⟩
theorem funD_mk {K : PySem.W.Frag} {x qual : Str} {st : Stmt} {f T : Addr} {oc : Value} {od an : Option Addr} {osl : Array (Option Value)} {kV doc pm cdv ct : Value} {oT : Obj} {its : List Value} {nT : Nat} {dvs : List V} (l : K.lookup f = some ⟨oc, od, .func (PySem.W.fnOf x qual (defArgs st) (defBody st) (defScope st) (.ref T) kV doc pm an cdv ct), osl⟩)
    (c : PySem.W.codeIn K cdv qual = true) (k : PySem.W.keepIn K (.ref f) = true) (lT : K.lookup T = some oT) (dT : oT.data = .seq its.toArray nT) (hv : Vals dvs its) (hne : dvs ≠ []) : FunD K x qual (defArgs st) (defBody st) (defScope st) dvs [] f (PySem.W.fnOf x qual (defArgs st) (defBody st) (defScope st) (.ref T) kV doc pm an cdv ct) :=
  ⟨⟨oc, od, _, kV, doc, pm, an, cdv, ct, osl, rfl, l, c, .inr ⟨hne, T, oT, its, nT, rfl, lT, dT, hv⟩, .inl rfl⟩, k⟩
theorem binds_all {K : PySem.W.Frag} {fd : FuncData} {ps : List Str} {dvs : List V} (h : ∃ ds, Vals dvs ds ∧ Binds K fd ps ds) (hd : dvs = []) : Binds K fd ps [] := by
  subst hd
  obtain ⟨ds, hv, hb⟩ := h
  cases hv
  exact hb
def fuelI (j : Nat) : DS → Nat := fun δ => match δ[j]? with
  | some (some (.im (.v (.int n)))) => n.natAbs + 1
  | _ => 0
end DV
namespace DV
open PySem L2 PySem.Spec PySem.Calls PyProof.Rows
inductive Pk (α : Type) where
  | p (i : Nat)
  | k (j : Nat)
  | c (a : α)
def Pk.get {α : Type} (z : α) (us ws : List α) : Pk α → α
  | .p i => us.getD i z
  | .k j => ws.getD j z
  | .c a => a
abbrev pkV (l : List (Pk V)) (vs zs : List V) : List V := l.map (Pk.get .non vs zs)
abbrev pkU (l : List (Pk Value)) (us ws : List Value) : List Value := l.map (Pk.get .none us ws)
abbrev pkD (l : List (Pk D)) (ds es : List D) : List D := l.map (Pk.get .non ds es)
inductive PkR (K : PySem.W.Frag) : List (Pk V) → List (Pk D) → Prop
  | nil : PkR K [] []
  | p {l : List (Pk V)} {m : List (Pk D)} (i : Nat) (r : PkR K l m) : PkR K (.p i :: l) (.p i :: m)
  | k {l : List (Pk V)} {m : List (Pk D)} (i : Nat) (r : PkR K l m) : PkR K (.k i :: l) (.k i :: m)
  | c {l : List (Pk V)} {m : List (Pk D)} {v : V} {d : D} (h : ∀ B, Rp K B v d) (r : PkR K l m) : PkR K (.c v :: l) (.c d :: m)
inductive PkU : List (Pk V) → List (Pk Value) → Prop
  | nil : PkU [] []
  | p {l : List (Pk V)} {m : List (Pk Value)} (i : Nat) (r : PkU l m) : PkU (.p i :: l) (.p i :: m)
  | k {l : List (Pk V)} {m : List (Pk Value)} (i : Nat) (r : PkU l m) : PkU (.k i :: l) (.k i :: m)
  | c {l : List (Pk V)} {m : List (Pk Value)} {v : V} {u : Value} (h : RelV v u) (r : PkU l m) : PkU (.c v :: l) (.c u :: m)
section
variable {K : PySem.W.Frag} {B : Hp}
theorem RpA.getD : ∀ {vs : List V} {ds : List D} (i : Nat), RpA K B vs ds → Rp K B (vs.getD i .non) (ds.getD i .non)
  | _, _, _, .nil => by simpa using Rp.v .non
  | _, _, 0, .cons h _ => by simpa using h
  | _, _, i + 1, .cons _ r => by simpa using RpA.getD i r
theorem vals_getD : ∀ {vs : List V} {us : List Value} (i : Nat), Vals vs us → RelV (vs.getD i .non) (us.getD i .none)
  | _, _, _, .nil => rfl
  | _, _, 0, .cons h _ => h
  | _, _, i + 1, .cons _ r => vals_getD i r
theorem PkR.rel {vs zs : List V} {ds es : List D} (r1 : RpA K B vs ds) (r2 : RpA K B zs es) : ∀ {l : List (Pk V)} {m : List (Pk D)}, PkR K l m → RpA K B (pkV l vs zs) (pkD m ds es)
  | _, _, .nil => .nil
  | _, _, .p i r => .cons (r1.getD i) (PkR.rel r1 r2 r)
  | _, _, .k i r => .cons (r2.getD i) (PkR.rel r1 r2 r)
  | _, _, .c h r => .cons (h B) (PkR.rel r1 r2 r)
theorem PkU.rel {vs zs : List V} {us ws : List Value} (r1 : Vals vs us) (r2 : Vals zs ws) : ∀ {l : List (Pk V)} {m : List (Pk Value)}, PkU l m → Vals (pkV l vs zs) (pkU m us ws)
  | _, _, .nil => .nil
  | _, _, .p i r => .cons (vals_getD i r1) (PkU.rel r1 r2 r)
  | _, _, .k i r => .cons (vals_getD i r2) (PkU.rel r1 r2 r)
  | _, _, .c h r => .cons h (PkU.rel r1 r2 r)
end
def KForm (K : PySem.W.Frag) (fd : FuncData) (ps : List Str) (n : Nat) (ks : List Str) (l : List (Pk V)) : Prop := ∃ g, KBn K fd ps n ks g (pkV l)
section
variable {K : PySem.W.Frag} {x qual : Str} {params : Arguments} {body : List Stmt} {scope : Scope} {dvs : List V} {kws : List (Str × V)} {f : Addr} {fd : FuncData} {ps : List Str}
theorem form0 (F : FunD K x qual params body scope [] kws f fd) (n : Nat) (ks : List Str) (l : List (Pk V)) (lU : List (Pk Value)) (hl : PkU l lU)
    (h : ∀ (kV doc pm : Value) (an : Option Addr) (cdv ct : Value) (us ws : List Value), us.length = n → ws.length = ks.length → bindArgs (PySem.W.fnOf x qual params body scope .none kV doc pm an cdv ct) ⟨us, ks.zip ws⟩ = pure (ps.zip (pkU lU us ws))) : KForm K fd ps n ks l := by
  obtain ⟨oc, od, dV, kV, doc, pm, an, cdv, ct, osl, rfl, lk, hcd, hD, hK⟩ := F.ex
  rcases hD with ⟨_, rfl⟩ | ⟨e, _⟩
  · exact ⟨pkU lU, fun s us ws X l1 l2 => .of_eq (h kV doc pm an cdv ct us ws l1 l2), fun r1 r2 => hl.rel r1 r2⟩
  · exact absurd rfl e
end
structure CK (X : Cx) (W : WX) (kws : List Keyword) (t : TA) (f : DS → Res (List D)) : Prop where
  pk : PK X kws t
  sa : SA X.K W t f
  ln : ∀ δ ds, f δ = .ok ds → ds.length = kws.length
def tCallKS (n m : Nat) (sp : Sp) (gV : List V → List V → List V) (E : L2.St → XK) (t tk : TA) : TE := fun σ H Q => t σ H fun vs H1 => tk σ H1 fun zs H2 => vs.length = n ∧ zs.length = m ∧ sp (gV vs zs) H2 Q (E σ)
def cKw (F : List D → Res D) (l : List (Pk D)) (fa fk : DS → Res (List D)) : DS → Res D := fun δ => (fa δ).bind fun ds => (fk δ).bind fun es => F (pkD l ds es)
section
variable {X : Cx} {W : WX}
theorem cons_len {f : DS → Res D} {g : DS → Res (List D)} {n : Nat} (h : ∀ δ ds, g δ = .ok ds → ds.length = n) (δ : DS) (ds : List D) (e : cCons f g δ = .ok ds) : ds.length = n + 1 := by
  unfold cCons at e
  cases e1 : f δ with
  | no => rw [e1] at e; cases e
  | er x => rw [e1] at e; cases e
  | ok d =>
    rw [e1, Res.bind_ok] at e
    cases e2 : g δ with
    | no => rw [e2] at e; cases e
    | er x => rw [e2] at e; cases e
    | ok ds' =>
      rw [e2, Res.bind_ok] at e
      cases e
      rw [List.length_cons, h δ ds' e2]
theorem ck_nil : CK X W [] tNil cNil := ⟨pk_nil, fun B0 H0 δ σ B H Q rel hp => hp [] B H (Grow.refl rel.g.i) .nil, fun δ ds h => by cases h; rfl⟩
theorem ck_cons {e : Expr} {nm : Option Str} {kpos : Pos} {kws : List Keyword} {te : TE} {t : TA} {f : DS → Res D} {g : DS → Res (List D)} (ha : CE X W e te f) (hb : CK X W kws t g) : CK X W (⟨nm, e, kpos⟩ :: kws) (tCons te t) (cCons f g) :=
  ⟨pk_cons ha.pe hb.pk, sa_cons ha.se hb.sa, cons_len hb.ln⟩
theorem se_kw {K : PySem.W.Frag} {n m np : Nat} {F : List D → Res D} {lV : List (Pk V)} {l : List (Pk D)} {t tk : TA} {fa fk : DS → Res (List D)} (hl : PkR K lV l) (hn : l.length = np) (h1 : SA K W t fa) (l1 : ∀ δ ds, fa δ = .ok ds → ds.length = n) (h2 : SA K W tk fk) (l2 : ∀ δ ds, fk δ = .ok ds → ds.length = m) :
    SE K W (tCallKS n m (spD K np F) (pkV lV) (WE W) t tk) (cKw F l fa fk) := fun B0 H0 δ σ B H Q rel hp => by
  unfold cKw at hp
  refine h1 B0 H0 δ σ B H _ rel ?_
  cases e : fa δ with
  | no => rw [e] at hp; exact hp
  | er x => rw [e] at hp; exact hp
  | ok ds =>
    rw [e, Res.bind_ok] at hp
    intro vs B1 H1 g1 r1
    refine h2 B0 H0 δ σ B1 H1 _ (rel.mono g1) ?_
    cases e2 : fk δ with
    | no => rw [e2] at hp; exact hp
    | er x => rw [e2] at hp; exact fun c dx B' H' g' rp => hp c dx B' H' (g1.trans g') rp
    | ok es =>
      rw [e2, Res.bind_ok] at hp
      intro zs B2 H2 g2 r2
      have rr := hl.rel (RpA.mono g2.b r1) r2
      refine ⟨r1.length.trans (l1 δ ds e), r2.length.trans (l2 δ es e2), ?_, pkD l ds es, B2, g2.i, rr, ⟨fun p hp' => (g1.trans g2).t p (rel.g.t p (rel.tk p hp')), (g1.trans g2).tb (rel.g.tb rel.nt)⟩, ?_⟩
      · rw [rr.length, List.length_map, hn]
      · cases e3 : F (pkD l ds es) with
        | no => rw [e3] at hp; exact hp
        | er x => rw [e3] at hp; exact fun c dx B' H' g' rp => hp c dx B' H' ((g1.trans g2).trans g') rp
        | ok z => rw [e3] at hp; exact fun v B' H' g' rp => hp v B' H' ((g1.trans g2).trans g') rp
theorem run_kw {k n : Nat} {f : Addr} {fd : FuncData} {ps ks : List Str} {sp : Sp} {gV : List V → List V → List V} {g : List Value → List Value → List Value} {pins : List (Addr × Obj)} {σ : L2.St} {H : Hp} {s : Shared} {Q : VK} {us ws : List Value} {vs zs : List V} (F : FnOk X.prog X.w X.K X.mg X.base (L2.CX X.prog X.w) k f fd ps sp) (hr : Room k X.A) (hb : KBn X.K fd ps n ks g gV) (tk : Takes X W)
    (I : Inv X pins σ H s) (r : Vals vs us) (rz : Vals zs ws) (l1 : vs.length = n) (l2 : zs.length = ks.length) (h : sp (gV vs zs) H Q (WE W σ)) : wpAny (model X.prog X.w) X.A (call (.ref f) us (ks.zip ws)) (EP X pins σ Q) X.xe s := by
  refine wpAny_call (codeAny_mono (F.run X.A X.stack s H ⟨us, ks.zip ws⟩ (g us ws) (gV vs zs) Q _ hr I.env0 (hb.to s us ws I.kIn (r.length.symm.trans l1) (rz.length.symm.trans l2)) (hb.rel r rz) h) fun r s' hq => ?_)
  cases r with
  | error e => exact passAt tk σ pins H s e s' I hq
  | ok fl =>
    cases fl with
    | ret u => exact I.after hq
    | next => exact False.elim hq
    | brk => exact False.elim hq
    | cont => exact False.elim hq
theorem ce_kw (K : PySem.W.Frag) (hK : X.K = K) {k n np : Nat} {f : Addr} {fd : FuncData} {ps ks : List Str} {F : List D → Res D} {lV : List (Pk V)} {l : List (Pk D)} {x : Str} {p pos : Pos} {e : Expr} {es : List Expr} {kws : List Keyword} {t tk : TA} {fa fk : DS → Res (List D)}
    (G : FnOk X.prog X.w K X.mg X.base (L2.CX X.prog X.w) k f fd ps (spD K np F)) (hr : Room k X.A) (hm : X.mg x = some (.ref f)) (hk : PySem.W.keepIn K (.ref f) = true) (hb : KForm K fd ps n ks lV) (hl : PkR K lV l) (tkn : Takes X W) (ha : CL X W (e :: es) t fa) (hkw : CK X W kws tk fk) (hn0 : (e :: es).length = n := by rfl) (hn : l.length = np := by rfl) (hkn : kws.length = ks.length := by rfl) (hg : Gl X x := by rfl) (hdb : (x == ("__debug__" : Str)) = false := by decide)
    (hall : (backToKw pos (keywordEach kws X.env)).all (·.1.isSome) = true := by rfl) (hks : (backToKw pos (keywordEach kws X.env)).filterMap (·.1) = ks := by rfl) (he : starEach (e :: es) X.env = (false, eval e X.env) :: starEach es X.env := by rfl) (hpl : ((backTo pos (starEach (e :: es) X.env)).any (·.1) || (backToKw pos (keywordEach kws X.env)).any (·.1.isNone)) = false := by rfl) :
    CE X W (.Call (.Name x p) (e :: es) kws pos) (tCallKS n ks.length (spD K np F) (pkV lV) (WE W) t tk) (cKw F l fa fk) := by
  subst hK
  obtain ⟨g, hb⟩ := hb
  refine ⟨⟨fun pins s σ H Q I h => ?_⟩, se_kw hl hn ha.sa (fun δ ds e => (ha.ln δ ds e).trans hn0) hkw.sa (fun δ ds e => (hkw.ln δ ds e).trans hkn)⟩
  refine wpAny_Call_Name_kw (ld_glob I hg hm ?_ hdb)
  refine PySem.W.callWith_KW (h₀ := X.base) I.ok.mod.kin hk hall (thn (ha.pa.run pos pins s σ H _ I h) fun us s1 ⟨vs, H1, I1, r, q⟩ => thn (hkw.pk.run pos pins s1 σ H1 _ I1 q) fun ws s2 ⟨zs, H2, I2, rz, l1, l2, q2⟩ => ⟨I2.kIn, ?_⟩) hpl he
  rw [hks]
  exact run_kw G hr hb tkn I2 r rz l1 l2 q2
end
theorem rp_tup {K : PySem.W.Frag} {a : Addr} {oT : Option Addr} {its : List Value} {n : Nat} {sl : Array (Option Value)} {vs : List V} {ds : List D} (h : K.lookup a = some ⟨.type "tuple", oT, .seq its.toArray n, sl⟩) (hl : its.length ≤ 1000) (hv : Vals vs its) (r : ∀ B, RpA K B vs ds) (B : Hp) : Rp K B (.ref a) (.tup ds) :=
  .tup (.inr ⟨_, its.toArray, n, h, rfl, rfl, by rw [List.size_toArray, sizeLine_eq]; omega, hv⟩) (r B)
theorem funK_mk {K : PySem.W.Frag} {x qual : Str} {st : Stmt} {f Dk : Addr} {oc : Value} {od an : Option Addr} {osl : Array (Option Value)} {doc pm cdv ct : Value} {kws : List (Str × V)} (l : K.lookup f = some ⟨oc, od, .func (PySem.W.fnOf x qual (defArgs st) (defBody st) (defScope st) .none (.ref Dk) doc pm an cdv ct), osl⟩)
    (c : PySem.W.codeIn K cdv qual = true) (k : PySem.W.keepIn K (.ref f) = true) (hk : ∀ q ∈ kws, ∃ u, PySem.W.nsIn K Dk q.1 = some (some u) ∧ RelV q.2 u) : FunD K x qual (defArgs st) (defBody st) (defScope st) [] kws f (PySem.W.fnOf x qual (defArgs st) (defBody st) (defScope st) .none (.ref Dk) doc pm an cdv ct) :=
  ⟨⟨oc, od, .none, _, doc, pm, an, cdv, ct, osl, rfl, l, c, .inl ⟨rfl, rfl⟩, .inr ⟨Dk, rfl, hk⟩⟩, k⟩
end DV
namespace DV
open PySem L2 PySem.Spec PySem.Calls PyProof.Rows PySem.W
section
variable {prog : Program} {w : World} {A : Around} {E : Value → Shared → Prop} {s : Shared} {K : Frag} {x D : Addr} {ox od : Obj}
end
end DV
namespace DV
open PySem L2 PySem.Spec PySem.Calls PyProof.Rows
def tIsX (K : PySem.W.Frag) (a : Addr) (cls : Value) (d : Option Addr) (cv : Value) (te tc : TE) : TE := fun σ H Q => te σ H fun y H1 => tc σ H1 fun c H2 => y = .ref a ∧ (∀ u, RelV c u → u = cv) ∧ ∃ C dd fs b, cls = .ref C ∧ ExcC K C ∧ d = some dd ∧ H2 dd = some (.xd fs) ∧ PySem.W.kitOne K cls cv = some b ∧ Q (.bl b) H2
def cIsX (l : List (Str × Bool)) : Exn → DS → Res D := fun x _ => match l.lookup x.cls with
  | some b => .ok (.bl b)
  | none => .no
def TabI (K : PySem.W.Frag) (cv : Value) (l : List (Str × Bool)) : Prop := ∀ s b v, l.lookup s = some b → clsV K s = some v → PySem.W.kitOne K v cv = some b
section
variable {X : Cx} {i : Nat}
end
end DV
namespace DV
open PySem L2 PySem.Spec PySem.Calls PyProof.Rows LamX
section
variable {X : Cx} {pins : List (Addr × Obj)} {σ : L2.St} {H : Hp} {s : Shared}
theorem lam_made {c P : Addr} {params : Arguments} {body : Expr} {scope : Scope} {pos : Pos} {E : Value → Shared → Prop} {Q : Value → Shared → Prop} (I : Inv X pins σ H s) (TB : TabB X.base X.mg c P) (hcode : X.env.code = .ref c)
    (hT : NdefX.TabN H P lamAt) (hq : X.env.qual ++ "<lambda>" = lamAt pos.line pos.col) (hdef : defaultsOf params X.env = ([], [])) (hfree : ∀ y ∈ scope.names, y.2 = .free → ∃ c, X.env.cells.lookup y.1 = some c)
    (h : ∀ (f c' : Addr) (pm ctv : Value) (H1 : Hp) (s' : Shared), Inv X pins σ H1 s' → ExtN H H1 → (∀ a, H a ≠ none → H1 a ≠ none) → (∀ P', NdefX.TabN H P' lamAt → NdefX.TabN H1 P' lamAt) → s'.heap.get? f = some (PySem.W.kla_obj "<lambda>" (X.env.qual ++ "<lambda>") params body scope (cloFrom X.env.cells scope.names []) pm c' ctv) →
      H1 f = none → f ∉ frs X.stack → H1 c' = some (CodeO c' (X.env.qual ++ "<lambda>")) → Q (.ref f) s') : wpAny (model X.prog X.w) X.A (eval (.Lambda params body scope pos) X.env) Q E s := by
  obtain ⟨ps, hP, ht, ha⟩ := hT
  have bP : s.heap.BuiltinsAt X.mg P := TB.bm.keeps I.bk
  have hP' : s.heap.get? P = some { cls := .none, data := .fields ps } := I.hok P _ hP
  have nofr : ∀ f, s.heap.objs.size ≤ f → f ∉ frs X.stack := fun f hf z => (List.mem_cons.mp (I.stkSub _ z)).elim (fun e => by
    have h1 := I.lt
    rw [← e] at h1
    exact Nat.lt_irrefl _ (Nat.lt_of_lt_of_le h1 hf)) fun e => I.nofs hf e
  refine PySem.W.kla_eval hdef ?_
  cases hc : codeAmong pos ps.toList with
  | some cv =>
    obtain ⟨c', e, hco⟩ := ha pos cv hc
    subst e
    refine PySem.W.kla_makeFunctionHit (mg := X.mg) (c := c) (P := P) (ps := ps) (closure_ok hfree) I.ok.glob (I.mod.glob.keeps I.bk) hcode (TB.code.keeps I.bk) hP' ht hc bP fun ctv h' tk hx hsz => ?_
    exact h h'.objs.size c' ((X.mg "__name__").getD .none) ctv H _ (I.kept (t' := tk) fun b o e => Heap.get?_push_of_some _ (hx b o e)) (ExtN.refl H) (fun _ z => z) (fun _ z => z) (Heap.get?_push_size _ rfl) (I.hok.fresh hsz) (nofr _ hsz) (by rw [hq]; exact hco)
  | none =>
    refine PySem.W.kla_makeFunction (mg := X.mg) (c := c) (P := P) (ps := ps) (closure_ok hfree) I.ok.glob (I.mod.glob.keeps I.bk) hcode (TB.code.keeps I.bk) hP' ht hc TB.gP bP fun c' ctv h' tk hx hge hlt hrec htb => ?_
    obtain ⟨c2, oc, vs, t, e2, hoc, hd, hv⟩ := hrec
    cases e2
    have hsz : s.heap.objs.size ≤ h'.objs.size := by omega
    have nC : H c' = none := I.hok.fresh hge
    have nPc : P ≠ c' := ne_of_none hP nC
    have eL : (ps ++ #[rawInt pos.line, rawInt pos.col, .ref c']).toList = ps.toList ++ [rawInt pos.line, rawInt pos.col, .ref c'] := by simp
    have I1 := inv_table (t' := tk) (more := #[rawInt pos.line, rawInt pos.col, .ref c']) (h' := h'.push (PySem.W.kla_obj "<lambda>" (X.env.qual ++ "<lambda>") params body scope (cloFrom X.env.cells scope.names []) ((X.mg "__name__").getD .none) c' ctv)) I hP (fun b o hb e => Heap.get?_push_of_some _ (hx b o hb e)) (Heap.get?_push_of_some _ htb) hge ⟨oc, vs, t, Heap.get?_push_of_some _ hoc, hd, hv⟩
    have hE : ExtN H (upd (upd H P (.tbl (ps ++ #[rawInt pos.line, rawInt pos.col, .ref c']))) c' (CodeO c' (X.env.qual ++ "<lambda>"))) := fun b o e n => by
      have b1 : b ≠ P := fun z => n ps (Option.some.inj (e.symm.trans (by rw [z]; exact hP)))
      rw [upd_ne (ne_of_none e nC), upd_ne b1, e]
    refine h h'.objs.size c' ((X.mg "__name__").getD .none) ctv _ _ I1 hE (fun b hb => ?_) (fun P' hp => ?_) (Heap.get?_push_size _ rfl) ?_ (nofr _ hsz) upd_same
    · by_cases b1 : b = c'
      · subst b1; rw [upd_same]; simp
      · rw [upd_ne b1]
        by_cases b2 : b = P
        · subst b2; rw [upd_same]; simp
        · rw [upd_ne b2]; exact hb
    · by_cases hb : P' = P
      · rw [hb]
        refine ⟨_, by rw [upd_ne nPc, upd_same], by rw [eL]; exact PySem.TriplesOk_snoc _ _ _ _ ht, fun p' cv hcv => ?_⟩
        rw [eL] at hcv
        rcases NdefX.among_app2 _ ht hcv with z | ⟨z, z1, z2⟩
        · obtain ⟨c0, e1, e2⟩ := ha p' cv z
          exact ⟨c0, e1, hE _ _ e2 codeO_ne⟩
        · exact ⟨c', z, by rw [← z1, ← z2, ← hq]; exact upd_same⟩
      · obtain ⟨ps', a1, a2, a3⟩ := hp
        refine ⟨ps', by rw [upd_ne (ne_of_none a1 nC), upd_ne hb, a1], a2, fun p' cv hcv => ?_⟩
        obtain ⟨c0, e1, e2⟩ := a3 p' cv hcv
        exact ⟨c0, e1, hE _ _ e2 codeO_ne⟩
    · have n2 : h'.objs.size ≠ P := Nat.ne_of_gt (Nat.lt_of_lt_of_le (Heap.lt_size hP') hsz)
      rw [upd_ne (Nat.ne_of_gt hlt), upd_ne n2]
      exact I.hok.fresh hsz
end
def Gives (X : Cx) (Ng : List Str) (x : Str) (sg : Scope) (g : Addr) (cdg : Value) (bg : List Stmt) (a : Str) (q : Str) (TT : (XK → Hp → VK → Prop) → Hp → VK → Prop) : Prop :=
  ∀ (f c' : Addr) (s : Shared) (H : Hp) (Q : VK) (tl : XK → Hp → VK → Prop),
    (∀ (W : WX) (pn : List (Addr × Obj)) (xe : Value → Shared → Prop) (E : XK) (p1 p2 : Pos), Takes ((cxOf (L2.CX X.prog X.w) X.prog X.w X.K X.mg X.base Ng x sg g cdg X.A X.stack s H (fun _ _ _ => False)).tr pn xe) W → (∀ cls d σ' H', E cls d H' → W cls d σ' H') →
      PE ((cxOf (L2.CX X.prog X.w) X.prog X.w X.K X.mg X.base Ng x sg g cdg X.A X.stack s H (fun _ _ _ => False)).tr pn xe) (.Call (.Name a p1) [] [] p2) (fun σZ HZ Q => σZ[0]? = some (some (.ref f)) ∧ HZ c' = some (CodeO c' q) ∧ tl E HZ Q)) →
    H c' = some (CodeO c' q) → TT tl H Q → ∃ t, PSs (cxOf (L2.CX X.prog X.w) X.prog X.w X.K X.mg X.base Ng x sg g cdg X.A X.stack s H (fun _ _ _ => False)) bg t ∧ t { nx := fun _ H' => Q .non H', rt := Q } (L2.start Ng [.ref f]) H
def tLamD (P : Addr) (TT : (XK → Hp → VK → Prop) → Hp → VK → Prop) (t : XK → TE) : TE := fun σ H Q => NdefX.TabN H P lamAt ∧ ∀ H1, ExtN H H1 → (∀ a, H a ≠ none → H1 a ≠ none) → (∀ P', NdefX.TabN H P' lamAt → NdefX.TabN H1 P' lamAt) → TT (fun E H' Q' => t E σ H' Q') H1 Q
section
variable {X : Cx}
theorem pe_lamD {TT : (XK → Hp → VK → Prop) → Hp → VK → Prop} {x a : Str} {g c P : Addr} {k : Nat} {pg : Arguments} {bg : List Stmt} {sg : Scope} {dV kV doc pm cdv ct oc : Value} {an od : Option Addr} {osl : Array (Option Value)} {Ng : List Str}
    {params : Arguments} {body : Expr} {scope : Scope} {t : XK → TE} {p lpos pos : Pos} (hg : Gl X x) (hm : X.mg x = some (.ref g)) (hk : PySem.W.keepIn X.K (.ref g) = true) (lk : X.K.lookup g = some ⟨oc, od, .func (PySem.W.fnOf x x pg bg sg dV kV doc pm an cdv ct), osl⟩) (hcg : PySem.W.codeIn X.K cdv x = true)
    (hb : L2.Binds X.K (PySem.W.fnOf x x pg bg sg dV kV doc pm an cdv ct) [a] []) (Sg : FnScope Ng [a] sg) (hNg : Ng[0]? = some a) (hva : Vis sg a) (hG : Gives X Ng x sg g cdv bg a (X.env.qual ++ "<lambda>") TT) (TB : TabB X.base X.mg c P) (hcode : X.env.code = .ref c) (hq : X.env.qual ++ "<lambda>" = lamAt lpos.line lpos.col)
    (hr : Room (k + 2) X.A) (L : LamS X.env.scope scope) (hdef : defaultsOf params X.env = ([], []))
    (hbind : ∀ (q : Str) (cl : List (Str × Addr)) (pm cv ctv : Value), bindArgs (PySem.W.kla_fn "<lambda>" q params body scope cl pm cv ctv) ⟨[], []⟩ = pure [])
    (hbody : ∀ (A : Around) (outer : List Env) (s : Shared) (H : Hp) (E : XK) (f c' : Addr), Room k (A.deeper (lamEnv X scope s.heap.objs.size f c')) → PE (lamCx X A outer s H E scope f c') body (t E))
    (hdb : (x == ("__debug__" : Str)) = false := by decide) (hd : (a == ("__debug__" : Str)) = false := by decide) (hcd : (a == ("__classdict__" : Str)) = false := by decide) : PE X (.Call (.Name x p) [.Lambda params body scope lpos] [] pos) (tLamD P TT t) := by
  refine ⟨fun pins s σ H Q I h => ?_⟩
  refine wpAny_Call_Name_kw (ld_glob I hg hm (PySem.W.callWith_K (h₀ := X.base) I.ok.mod.kin hk ?_ (by rfl) (by rfl)) hdb)
  show wpAny _ _ (spliced ((false, eval (.Lambda params body scope lpos) X.env) :: backTo pos (starEach [] X.env))) _ _ s
  refine Calls.spliced_cons (lam_made I TB hcode h.1 hq hdef (L.has I.ok) fun f c' pm' ctv H1 s' I1 eN eE T1 hf hfn hfr hco => Calls.spliced_nil ⟨I1.kIn, ?_⟩)
  have rc : codeAny (model X.prog X.w) X.A (.call (.ref g) ⟨[.ref f], []⟩) (CR (L2.CX X.prog X.w) X.stack X.prog X.w H1 s' Q (fun _ _ _ => False)) s' := by
    refine run_ofS (N := Ng) (ps := [a]) (us := [.ref f]) (vs := [.ref f]) lk hcg Sg hr I1.env0 (hb s' [.ref f] I1.kIn rfl) (.cons rfl .nil) rfl fun hr' => ?_
    exact hG f c' s' H1 Q (fun E H' Q' => t E σ H' Q') (fun W pn xe E p1 p2 tk hW => pe_act (i := 0) I1 L hf hfn hfr (hbind _ _ _ _ _) tk hW hr' (fun A outer s H hr2 => hbody A outer s H E f c' hr2) hNg hva hd hcd) hco (h.2 H1 eN eE T1)
  refine wpAny_call (codeAny_mono rc fun r s2 hq => ?_)
  cases r with
  | error e => exact (passL pins σ H1 s' e s2 I1 hq |> fun z => z)
  | ok fl =>
    cases fl with
    | ret u => exact I1.after hq
    | next => exact False.elim hq
    | brk => exact False.elim hq
    | cont => exact False.elim hq
end
theorem takes_len {Y : Cx} {W : WX} (tk : Takes Y W) : Takes Y (fun c d σ H => σ.length = Y.N.length → W c d σ H) := fun u s' ⟨a, B, sI, pins, σ, H, cls, d, e, I, nb, up, sky, na, os, ag, w⟩ => tk u s' ⟨a, B, sI, pins, σ, H, cls, d, e, I, nb, up, sky, na, os, ag, w I.len⟩
def wordF (n : Nat) (q : Clauses) (z : Str) (r : Res D) : Res D := match r with
  | .ok _ => .ok (.str z)
  | .er x => match cPick q x (List.replicate n none) with
    | .rt d => .ok d
    | _ => .no
  | .no => .no
def cLam (n : Nat) (q : Clauses) (z : Str) (fe : DS → Res D) : DS → Res D := fun δ => wordF n q z (fe δ)
def TTw (K : PySem.W.Frag) (Ng : List Str) (z : Str) (l : List (Value × Nat × TX)) : (XK → Hp → VK → Prop) → Hp → VK → Prop := fun tl H Q =>
  ∃ E : XK, (∀ cls d (σ : L2.St) H', σ.length = Ng.length → E cls d H' → wNamed K (fun _ _ _ _ => False) { nx := fun _ H' => Q (.str z) H', rt := Q } l cls d σ H') ∧ tl E H (fun _ H' => Q (.str z) H')
section
variable {X : Cx}
theorem word_gives {Ng : List Str} {x a z : Str} {sg : Scope} {g : Addr} {cdg : Value} {j : Nat} {p1 p2 p3 p4 p5 p8 : Pos} {h₀ : ExceptHandler} {hds : List ExceptHandler} {l : List (Value × Nat × TX)} {q : Str} (hN : Ng.Nodup) (h1 : 1 ≤ Ng.length)
    (hh : ∀ (s : Shared) (H : Hp), HdsN (cxOf (L2.CX X.prog X.w) X.prog X.w X.K X.mg X.base Ng x sg g cdg X.A X.stack s H (fun _ _ _ => False)) (h₀ :: hds) l)
    (hsw : ∀ (Y : Cx) , swapsWith (.Call (.Name a p1) [] [] p2) none p3.line Y.env = pure false) :
    Gives X Ng x sg g cdg [.Try [.Expr (.Call (.Name a p1) [] [] p2) p3] (h₀ :: hds) [] [] p8, .Return (some (.Constant (.str z) j p4)) p5] a q (TTw X.K Ng z l) := by
  intro f c' s H Q tl act hc h
  obtain ⟨E, hE, ht⟩ := h
  refine ⟨_, pss_cons (ps_tryN (X := cxOf (L2.CX X.prog X.w) X.prog X.w X.K X.mg X.base Ng x sg g cdg X.A X.stack s H (fun _ _ _ => False)) (Wout := fun _ _ _ _ => False) (l := l)
      (tb := fun W D σ H => ∃ Ech : XK, (∀ cls d (σ' : L2.St) H', σ'.length = Ng.length → Ech cls d H' → W cls d σ' H') ∧ σ[0]? = some (some (.ref f)) ∧ H c' = some (CodeO c' q) ∧ tl Ech H (fun _ H' => D.nx σ H')) rfl rfl hN L2.takes0 (fun W pn xe tk _ => ?_) (hh s H)) (pss_one (ps_ret pe_str)), ?_⟩
  · refine ⟨fun pins s' σ H' D I h' => ?_⟩
    obtain ⟨Ech, hW, e1, e2, e3⟩ := h'
    have hp := act _ pn xe Ech p1 p2 (takes_len tk) (fun cls d σ' H' he hl => hW cls d σ' H' hl he)
    exact (pss_one (ps_expr (pos := p3) hp (hsw _))).run pins s' σ H' D I ⟨e1, e2, e3⟩
  · refine ⟨E, fun cls d σ' H' hl he => hE cls d σ' H' hl he, ?_, hc, ht⟩
    show (L2.start Ng [V.ref f])[0]? = _
    rfl
theorem rel_none {K : PySem.W.Frag} {B H : Hp} {σ : L2.St} (i : Same B H) (tk : ∀ p ∈ tabsOf K, NdefX.TabN H p lamAt) (nt : TB K B H) : Rel K B (.of H) B H σ (List.replicate σ.length none) :=
  ⟨Grow.refl i, tk, nt, by simp, fun j o e => (by rw [List.getElem?_replicate] at e; split at e <;> cases e), fun j k o o' v v' _ e _ _ _ _ => (by rw [List.getElem?_replicate] at e; split at e <;> cases e)⟩
theorem se_lam {K : PySem.W.Frag} {W : WX} {Y : Cx} {Ng : List Str} {z : Str} {hds : List ExceptHandler} {l : List (Value × Nat × TX)} {q : Clauses} {t : XK → TE} {fe : DS → Res D} {P : Addr} (hY : Y.K = K) (hP : P ∈ tabsOf K) (hh : HdsC Y hds l q) (hb : ∀ E : XK, SE K (Wof E) (t E) fe) :
    SE K W (tLamD P (TTw K Ng z l) t) (cLam Ng.length q z fe) := fun B0 H0 δ σ B H Q rel hp => by
  refine ⟨rel.g.t P (rel.tk P hP), fun H1 eN eE eT => ?_⟩
  have nB := (rel.g.tb rel.nt).nt
  have g1 : Grow K B H B H1 := ⟨Same.refl _, fun b o h n => eN b o h n.1, fun a o e => eN a o (rel.g.i a o e) (nB a o e).1, fun _ _ => rfl, eE, eT, fun τ h => ⟨τ, fun _ _ => rfl, h.grow (Same.refl _) (fun _ _ q => .inl q) fun a o us q => eN _ _ q (fun _ z => by unfold MX at z; cases z)⟩⟩
  unfold cLam wordF at hp
  cases e : fe δ with
  | no => rw [e] at hp; exact hp.elim
  | ok d0 =>
    rw [e] at hp
    exact ⟨fun _ _ _ => False, fun _ _ _ _ _ h => h.elim, hb _ B0 H0 δ σ B H1 _ (rel.mono g1) (by rw [e]; exact fun v B' H' g r => hp (.str z) B' H' (g1.trans g) (.v _))⟩
  | er x =>
    rw [e] at hp
    refine ⟨fun cls d H' => ∃ B', Grow K B H1 B' H' ∧ RpX K B' cls d x, fun cls d σ' H' hl ⟨B', g, r⟩ => ?_, hb _ B0 H0 δ σ B H1 _ (rel.mono g1) (by rw [e]; exact fun c dx B' H' g r => ⟨B', g, r⟩)⟩
    have tk' : ∀ p ∈ tabsOf K, NdefX.TabN H' p lamAt := fun p hp' => g.t p (g1.t p (rel.g.t p (rel.tk p hp')))
    have R := rel_none (σ := σ') g.i tk' (g.tb (g1.tb (rel.g.tb rel.nt)))
    rw [hl] at R
    subst hY
    refine pick_ok (W := fun _ _ _ _ => False) (E := { nx := fun _ H' => Q (.str z) H', rt := Q }) hh (x := x) (δ := List.replicate Ng.length none) ?_ (Same.refl B') R r
    dsimp only at hp
    cases e2 : cPick q x (List.replicate Ng.length none) with
    | rt d2 => rw [e2] at hp; exact fun v B2 H2 s2 gg rr => hp v B2 H2 ((g1.trans g).trans gg) rr
    | nx _ => rw [e2] at hp; exact hp.elim
    | rf _ => rw [e2] at hp; exact hp.elim
    | rn _ => rw [e2] at hp; exact hp.elim
    | ro _ _ => rw [e2] at hp; exact hp.elim
    | bk _ => rw [e2] at hp; exact hp.elim
    | ct _ => rw [e2] at hp; exact hp.elim
    | rs _ _ => rw [e2] at hp; exact hp.elim
    | no => rw [e2] at hp; exact hp.elim
theorem ce_lam (K : PySem.W.Frag) (hK : X.K = K) {W : WX} {x a z : Str} {g c P : Addr} {k j : Nat} {pg : Arguments} {bg : List Stmt} {sg : Scope} {dV kV doc pm cdv ct oc : Value} {an od : Option Addr} {osl : Array (Option Value)} {Ng : List Str} {params : Arguments} {body : Expr} {scope : Scope} {t : XK → TE} {fe : DS → Res D} {p lpos pos p1 p2 p3 p4 p5 p8 : Pos} {h₀ : ExceptHandler} {hds : List ExceptHandler} {l : List (Value × Nat × TX)} {q : Clauses}
    (hg : Gl X x) (hm : X.mg x = some (.ref g)) (hk : PySem.W.keepIn K (.ref g) = true) (lk : K.lookup g = some ⟨oc, od, .func (PySem.W.fnOf x x pg bg sg dV kV doc pm an cdv ct), osl⟩) (hcg : PySem.W.codeIn K cdv x = true) (hb : L2.Binds K (PySem.W.fnOf x x pg bg sg dV kV doc pm an cdv ct) [a] []) (Sg : FnScope Ng [a] sg) (hNg : Ng[0]? = some a) (hva : Vis sg a)
    (hbg : bg = [.Try [.Expr (.Call (.Name a p1) [] [] p2) p3] (h₀ :: hds) [] [] p8, .Return (some (.Constant (.str z) j p4)) p5])
    (hh : ∀ (s : Shared) (H : Hp), HdsC (cxOf (L2.CX X.prog X.w) X.prog X.w K X.mg X.base Ng x sg g cdv X.A X.stack s H (fun _ _ _ => False)) (h₀ :: hds) l q) (hs0 : Shared) (hH0 : Hp)
    (TB : TabB X.base X.mg c P) (hcode : X.env.code = .ref c) (hP : P ∈ tabsOf K) (hq : X.env.qual ++ "<lambda>" = lamAt lpos.line lpos.col) (hr : Room (k + 2) X.A) (L : LamS X.env.scope scope) (hdef : defaultsOf params X.env = ([], []))
    (hbind : ∀ (q : Str) (cl : List (Str × Addr)) (pm cv ctv : Value), bindArgs (PySem.W.kla_fn "<lambda>" q params body scope cl pm cv ctv) ⟨[], []⟩ = pure [])
    (hbody : ∀ (A : Around) (outer : List Env) (s : Shared) (H : Hp) (E : XK) (f c' : Addr), Room k (A.deeper (lamEnv X scope s.heap.objs.size f c')) → CE (lamCx X A outer s H E scope f c') (Wof E) body (t E) fe)
    (hsw : ∀ (Y : Cx), swapsWith (.Call (.Name a p1) [] [] p2) none p3.line Y.env = pure false := by intro _; rfl) (h1 : 1 ≤ Ng.length := by decide) (hdb : (x == ("__debug__" : Str)) = false := by decide) (hd : (a == ("__debug__" : Str)) = false := by decide) (hcd : (a == ("__classdict__" : Str)) = false := by decide) :
    CE X W (.Call (.Name x p) [.Lambda params body scope lpos] [] pos) (tLamD P (TTw K Ng z l) t) (cLam Ng.length q z fe) := by
  subst hK hbg
  have r1 : Room k (X.A.deeper (lamEnv X scope hs0.heap.objs.size 0 0)) := (hr.mono (by omega : k + 1 ≤ k + 2)).deeper _
  have hp := pe_lamD (p := p) (pos := pos) (lpos := lpos) hg hm hk lk hcg hb Sg hNg hva (word_gives (j := j) (z := z) (l := l) Sg.nd h1 (fun s H => (hh s H).n) hsw) TB hcode hq hr L hdef hbind (fun A outer s H E f c' hr2 => (hbody A outer s H E f c' hr2).pe) hdb hd hcd
  exact ⟨hp, se_lam (Y := cxOf (L2.CX X.prog X.w) X.prog X.w X.K X.mg X.base Ng x sg g cdv X.A X.stack hs0 hH0 (fun _ _ _ => False)) rfl hP (hh hs0 hH0) fun E => (hbody X.A [] hs0 hH0 E 0 0 r1).se⟩
end
end DV
namespace DV
open PySem L2 PySem.Spec PySem.Calls PyProof.Rows LamX
theorem def_okC {P : Program} {w : World} {K : PySem.W.Frag} {mg : Str → Option Value} {base : Heap} {x qual : Str} {st : Stmt} {f : Addr} {oc : Value} {od an : Option Addr} {osl : Array (Option Value)} {kV doc pm cdv ct : Value} {N ps : List Str} {k m : Nat} {g : DS → Fl} (l : K.lookup f = some ⟨oc, od, .func (PySem.W.fnOf x qual (defArgs st) (defBody st) (defScope st) .none kV doc pm an cdv ct), osl⟩)
    (hc : PySem.W.codeIn K cdv qual = true) (S : FnScope N ps (defScope st)) (hm : N.length - ps.length = m)
    (hbody : ∀ (A : Around) (outer : List Env) (s : Shared) (H : Hp) (E : XK), Room k (A.deeper (PyProof.Rows.envOfC qual (defScope st) s.heap.objs.size f cdv)) → Takes (cxOf (L2.CX P w) P w K mg base N qual (defScope st) f cdv A outer s H E) (Wof E) →
      PassesOwn (model P w) (A.deeper (PyProof.Rows.envOfC qual (defScope st) s.heap.objs.size f cdv)) (PyProof.Rows.envOfC qual (defScope st) s.heap.objs.size f cdv) (cxOf (L2.CX P w) P w K mg base N qual (defScope st) f cdv A outer s H E).xe → (A.deeper (PyProof.Rows.envOfC qual (defScope st) s.heap.objs.size f cdv)).units + 64 < cLine →
      ∃ t, CSs (cxOf (L2.CX P w) P w K mg base N qual (defScope st) f cdv A outer s H E) (Wof E) (defBody st) t g) :
    FnOk P w K mg base (L2.CX P w) (k + 1) f (PySem.W.fnOf x qual (defArgs st) (defBody st) (defScope st) .none kV doc pm an cdv ct) ps (spD K ps.length (defF m g)) := by
  refine fn_of l hc S (fun vs H Q E h => h.1) fun A outer s H vs Q E hr h => ?_
  obtain ⟨hl, ds, B, i, r, tb, hp⟩ := h
  obtain ⟨t, ht⟩ := hbody A outer s H E hr (takes_of rfl rfl rfl rfl) (passes_of (X := cxOf (L2.CX P w) P w K mg base N qual _ f cdv A outer s H E) rfl) hr.units
  exact ⟨t, ht.ps, ss_def (N := N) ht.ss i r tb (by rw [hl, hm]; exact hp)⟩
def TabsAre (K : PySem.W.Frag) : List Str → List (Addr × Addr) → Prop
  | [], [] => True
  | n :: ns, p :: ps => PySem.W.tabIn K n = some p ∧ TabsAre K ns ps
  | _, _ => False
theorem TabsAre.of {K : PySem.W.Frag} : ∀ {ns : List Str} {ps : List (Addr × Addr)}, TabsAre K ns ps → ∀ p ∈ ps, ∃ n ∈ ns, PySem.W.tabIn K n = some p
  | [], [], _, p, hp => by cases hp
  | [], _ :: _, h, _, _ => h.elim
  | _ :: _, [], h, _, _ => h.elim
  | n :: ns, q :: ps, h, p, hp => by
    rcases List.mem_cons.mp hp with rfl | z
    · exact ⟨n, by simp, h.1⟩
    · obtain ⟨m, h1, h2⟩ := TabsAre.of h.2 p z
      exact ⟨m, by simp [h1], h2⟩
theorem TabsAre.tab {K : PySem.W.Frag} : ∀ {ns : List Str} {ps : List (Addr × Addr)}, TabsAre K ns ps → ∀ P ∈ ns.filterMap (fun n => (PySem.W.tabIn K n).map (·.2)), ∃ p ∈ ps, p.2 = P
  | [], _, _, P, hp => by simp at hp
  | _ :: _, [], h, _, _ => h.elim
  | n :: ns, q :: ps, h, P, hp => by
    obtain ⟨m, h1, h2⟩ := List.mem_filterMap.mp hp
    rcases List.mem_cons.mp h1 with rfl | z
    · rw [h.1] at h2
      exact ⟨q, by simp, Option.some.inj h2⟩
    · obtain ⟨p, h3, h4⟩ := TabsAre.tab h.2 P (List.mem_filterMap.mpr ⟨m, z, h2⟩)
      exact ⟨p, by simp [h3], h4⟩
theorem walkT {l : PySem.W.OpenLaw} {n k : Nat} {q : Program} {loose : List Str} {XP : (Str → Option Value) → Heap → Prop} {YP : World → Heap → Prop} {d : DefRec} {K : Params → PySem.W.Frag} {x : Str} {F : List D → Res D} (hn : l.most = some n) (hn2 : n ≤ sizeLine) (hdf : d.params.defaults = []) (hr : Room k callerA)
    (hY : ∀ (w : World) (h : Heap), YP w h → (K w.params).In h) (hrec : (lamNs.all fun m => ((recsOf q).find? (fun e => e.name == m)).isSome) = true)
    (F0 : ∀ (w : World) (mg : Str → Option Value) (fa : Addr) (h : Heap), (K w.params).In h → h.Ns mainGlobals mg → mg d.name = some (.ref fa) → ∃ fd cs, TabsAre (K w.params) lamNs cs ∧ (∀ p ∈ cs, (K w.params).lookup p.2 = none) ∧ (∀ (s : Shared) (u : Value), BindsTo s fd ⟨[u], []⟩ [(x, u)]) ∧
      ∀ base : Heap, (K w.params).In base → base.Ns mainGlobals mg → (∀ p ∈ cs, TabB base mg p.1 p.2) → FnOk l.prog w (K w.params) mg base (L2.CX l.prog w) k fa fd [x] (spD (K w.params) 1 F))
    (hF : ∀ ns : List Int, ns.length ≤ n → F [.lst (ns.map D.int)] = .ok (.bl true)) : PySem.W.WalkO q loose XP YP l.row.toRowW d [] (fun f vs => PySem.call f vs) := by
  refine Att.attach_callB hn hdf fun w s₀ s₁ mg mb fa o pm cd doc a vs ns G Y ho hd hcd hmg hobj hints hlen hbits hg => ?_
  have KX := hY w _ Y
  obtain ⟨fd, cs, ht, nP, hb, hF0⟩ := F0 w mg fa _ KX G.T.g hmg
  have tm : ∀ p ∈ cs, ∃ m dL, (recsOf q).find? (fun e => e.name == m) = some dL ∧ PySem.W.tabIn (K w.params) m = some (p.1, p.2) := fun p hp => by
    obtain ⟨m, h1, h2⟩ := ht.of p hp
    obtain ⟨dL, hr1⟩ := Option.isSome_iff_exists.mp (List.all_eq_true.mp hrec m h1)
    exact ⟨m, dL, hr1, h2⟩
  exact law_callTs (cs := cs) KX G.T.g G.T.b G.T.builtins G.T.nolimit hg (fun p hp => by obtain ⟨m, dL, r1, r2⟩ := tm p hp; exact (PySem.W.tab_of G.T KX r1 r2).2) nP (fun p hp => by obtain ⟨m, dL, r1, r2⟩ := tm p hp; exact (PySem.W.tab_of G.T KX r1 r2).1) G.T.bmain hobj hints (Nat.le_trans hlen hn2) hr (fun base b1 b2 b3 => hF0 base b1 b2 b3) hb
    (fun H hH hS => spD_law hS (fun p hp => by
      obtain ⟨c, h1, rfl⟩ := ht.tab p hp
      exact NdefX.TabN.nil (hH c h1)) (hF ns hlen)) fun H e s' z => cx_false H s₁ e s' z
end DV
namespace DV
open PySem L2 PySem.Spec PySem.Calls PyProof.Rows LamX
theorem ce_lamF {X : Cx} (K : PySem.W.Frag) (hK : X.K = K) {W : WX} {x a z : Str} {st : Stmt} {fd : FuncData} {g c P : Addr} {k j : Nat} {Ng : List Str} {params : Arguments} {body : Expr} {scope : Scope} {t : XK → TE} {fe : DS → Res D} {p lpos pos p1 p2 p3 p4 p5 p8 : Pos} {h₀ : ExceptHandler} {hds : List ExceptHandler} {l : List (Value × Nat × TX)} {q : Clauses}
    (F : Fun K x x st g fd) (hm : X.mg x = some (.ref g)) (hb : L2.Binds K fd [a] []) (Sg : FnScope Ng [a] (defScope st)) (hNg : Ng[0]? = some a) (hva : Vis (defScope st) a) (hbg : defBody st = [.Try [.Expr (.Call (.Name a p1) [] [] p2) p3] (h₀ :: hds) [] [] p8, .Return (some (.Constant (.str z) j p4)) p5])
    (hh : ∀ (cdv : Value) (s : Shared) (H : Hp), HdsC (cxOf (L2.CX X.prog X.w) X.prog X.w K X.mg X.base Ng x (defScope st) g cdv X.A X.stack s H (fun _ _ _ => False)) (h₀ :: hds) l q) (hs0 : Shared) (hH0 : Hp) (TB : TabB X.base X.mg c P) (hcode : X.env.code = .ref c) (hP : P ∈ tabsOf K) (hq : X.env.qual ++ "<lambda>" = lamAt lpos.line lpos.col) (hr : Room (k + 2) X.A) (L : LamS X.env.scope scope) (hdef : defaultsOf params X.env = ([], []))
    (hbind : ∀ (q : Str) (cl : List (Str × Addr)) (pm cv ctv : Value), bindArgs (PySem.W.kla_fn "<lambda>" q params body scope cl pm cv ctv) ⟨[], []⟩ = pure [])
    (hbody : ∀ (A : Around) (outer : List Env) (s : Shared) (H : Hp) (E : XK) (f c' : Addr), Room k (A.deeper (lamEnv X scope s.heap.objs.size f c')) → CE (lamCx X A outer s H E scope f c') (Wof E) body (t E) fe)
    (hg : Gl X x := by rfl) (hsw : ∀ (Y : Cx), swapsWith (.Call (.Name a p1) [] [] p2) none p3.line Y.env = pure false := by intro _; rfl) (h1 : 1 ≤ Ng.length := by decide) (hdb : (x == ("__debug__" : Str)) = false := by decide) (hd : (a == ("__debug__" : Str)) = false := by decide) (hcd : (a == ("__classdict__" : Str)) = false := by decide) :
    CE X W (.Call (.Name x p) [.Lambda params body scope lpos] [] pos) (tLamD P (TTw K Ng z l) t) (cLam Ng.length q z fe) := by
  obtain ⟨oc, od, kV, doc, pm, an, cdv, ct, osl, rfl, lk, hcd'⟩ := F.ex
  exact ce_lam K hK hg hm F.kp lk hcd' hb Sg hNg hva hbg (hh cdv) hs0 hH0 TB hcode hP hq hr L hdef hbind hbody hsw h1 hdb hd hcd
theorem tabIn_of {K : PySem.W.Frag} {x : Str} {f c P : Addr} {oc o1 : Value} {od o2 : Option Addr} {fd : FuncData} {osl o3 : Array (Option Value)} {vs : Array Value} (a : PySem.W.nsIn K mainGlobals x = some (some (.ref f))) (l : K.lookup f = some ⟨oc, od, .func fd, osl⟩) (hc : fd.code = .ref c) (tc : K.lookup c = some ⟨o1, o2, .fields vs, o3⟩) (tp : vs[11]? = some (.ref P)) : PySem.W.tabIn K x = some (c, P) := by
  unfold PySem.W.tabIn
  rw [a]
  dsimp only
  rw [l]
  dsimp only
  rw [hc]
  dsimp only
  rw [tc]
  dsimp only
  rw [tp]
theorem in_tabs {K : PySem.W.Frag} {c P : Addr} {n : Str} (h : PySem.W.tabIn K n = some (c, P)) (hn : n ∈ lamNs := by decide) : P ∈ tabsOf K := by
  unfold tabsOf
  exact List.mem_filterMap.mpr ⟨n, hn, by rw [h]; rfl⟩
end DV
namespace DV
open PySem L2
section
variable {X : Cx} {W : WX}
def cPut (i : Nat) (fi fe : DS → Res D) : DS → Fl := fun δ => match δ[i]? with
  | some (some (.ow ds)) => stE (fe δ) δ fun d => stE (fi δ) δ fun y => match y with
    | .v (.int k) => match ixN ds.length k with
      | some j => .nx (δ.set i (some (.ow (ds.set j d))))
      | none => .no
    | _ => .no
  | _ => .no
def cSlL (f : DS → Res D) (lo hi : DS → Res (Option Int)) : DS → Res (List D) := fun δ => (f δ).bind fun x => (lo δ).bind fun l => (hi δ).bind fun h => match x with
  | .lst xs => .ok (cutD xs l h)
  | _ => .no
end
end DV
namespace DV
open PySem
def tryHds : List Stmt → List ExceptHandler
  | .Try _ hs _ _ _ :: _ => hs
  | _ => []
end DV
namespace DV
open PySem L2 PySem.Spec PySem.Calls PyProof.Rows PpSet
section
variable {X : Cx} {β : Type} {SO : Addr → β → HO} {b0 : β} {r : V → List V → Hp → VK → Prop}
def tScG (SO : Addr → β → HO) (b0 : β) (r : V → List V → Hp → VK → Prop) (wi : TI) (g : TG) (tt : TT) (te : TE) (vs : List Nat) : TE := fun σ H Q => wi σ H fun J H1 =>
  ∀ D, H1 D = none → ∃ M : Nat → Nat → Hp → Prop, (∃ k, M 0 k (upd H1 D (SO D b0))) ∧ ∀ j k Hj, M j k Hj →
    (J.stop j Hj ∧ Q (.ref D) Hj) ∨ (J.go j Hj ∧ ∃ N : Hp → Prop, (∀ Hk, N Hk → ∃ k', k' < k ∧ M (j + 1) k' Hk) ∧
      ∀ x Hk, J.yld j Hj x Hk → g x (wipe σ vs) Hk fun σ2 H2 => wipe σ2 vs = wipe σ vs ∧ tt σ2 H2 fun b H3 => if b = true then te σ2 H3 fun y H4 => r (.ref D) [y] H4 (fun _ H5 => N H5) else N H3)
abbrev freshSet (w : World) : Obj := { cls := .type "set", dict := none, data := .set #[] 0 (.fresh 0 0 (!w.params.followText "set-order")) }
end
end DV
namespace DV
open PySem L2
def insU (k : Int) : List Int → List Int
  | [] => [k]
  | x :: xs => if k < x then k :: x :: xs else if k = x then x :: xs else x :: insU k xs
def setI (ns : List Int) : List Int := ns.foldl (fun l k => insU k l) []
theorem insU_mem (k : Int) : ∀ (l : List Int) (j : Int), j ∈ insU k l ↔ j = k ∨ j ∈ l
  | [], j => by simp [insU]
  | x :: xs, j => by
    unfold insU
    split
    · simp
    · split
      · rename_i h; subst h; simp
      · simp only [List.mem_cons, insU_mem k xs j]
        exact ⟨fun h => h.elim (fun h => .inr (.inl h)) (fun h => h.elim .inl (fun h => .inr (.inr h))), fun h => h.elim (fun h => .inr (.inl h)) (fun h => h.elim .inl (fun h => .inr (.inr h)))⟩
theorem insU_sorted (k : Int) : ∀ (l : List Int), l.Pairwise (· < ·) → (insU k l).Pairwise (· < ·)
  | [], _ => by simp [insU]
  | x :: xs, h => by
    obtain ⟨h1, h2⟩ := List.pairwise_cons.mp h
    unfold insU
    split
    · rename_i hk
      exact List.pairwise_cons.mpr ⟨fun y hy => by
        rcases List.mem_cons.mp hy with rfl | hy
        · exact hk
        · have := h1 y hy; omega, h⟩
    · split
      · exact h
      · refine List.pairwise_cons.mpr ⟨fun y hy => ?_, insU_sorted k xs h2⟩
        rcases (insU_mem k xs y).mp hy with rfl | hy
        · omega
        · exact h1 y hy
theorem fold_ins (ns : List Int) : ∀ l : List Int, l.Pairwise (· < ·) → (ns.foldl (fun l k => insU k l) l).Pairwise (· < ·) ∧ ∀ j, j ∈ ns.foldl (fun l k => insU k l) l ↔ j ∈ ns ∨ j ∈ l := by
  induction ns with
  | nil => exact fun l h => ⟨h, fun j => by simp⟩
  | cons n ns ih =>
    intro l h
    obtain ⟨i1, i2⟩ := ih (insU n l) (insU_sorted n l h)
    refine ⟨i1, fun j => ?_⟩
    rw [List.foldl_cons, i2 j, insU_mem]
    simp only [List.mem_cons]
    exact ⟨fun h => h.elim (fun h => .inl (.inr h)) (fun h => h.elim (fun h => .inl (.inl h)) .inr), fun h => h.elim (fun h => h.elim (fun h => .inr (.inl h)) .inl) (fun h => .inr (.inr h))⟩
theorem setI_sorted (ns : List Int) : (setI ns).Pairwise (· < ·) := (fold_ins ns [] List.Pairwise.nil).1
theorem setI_mem (ns : List Int) (j : Int) : j ∈ setI ns ↔ j ∈ ns := by
  have := (fold_ins ns [] List.Pairwise.nil).2 j
  simpa [setI] using this
theorem rising_one : ∀ {l m : List Int}, l.Pairwise (· < ·) → m.Pairwise (· < ·) → (∀ j, j ∈ l ↔ j ∈ m) → l = m
  | [], [], _, _, _ => rfl
  | [], y :: m, _, _, h => absurd ((h y).mpr (by simp)) (by simp)
  | x :: l, [], _, _, h => absurd ((h x).mp (by simp)) (by simp)
  | x :: l, y :: m, hl, hm, h => by
    obtain ⟨l1, l2⟩ := List.pairwise_cons.mp hl
    obtain ⟨m1, m2⟩ := List.pairwise_cons.mp hm
    have hxy : x = y := by
      have hx := (h x).mp (by simp)
      have hy := (h y).mpr (by simp)
      rcases List.mem_cons.mp hx with e | hx
      · exact e
      · rcases List.mem_cons.mp hy with e | hy
        · exact e.symm
        · have := l1 y hy; have := m1 x hx; omega
    subst hxy
    congr 1
    refine rising_one l2 m2 fun j => ⟨fun hj => ?_, fun hj => ?_⟩
    · have := (h j).mp (by simp [hj])
      rcases List.mem_cons.mp this with e | z
      · have := l1 j hj; omega
      · exact z
    · have := (h j).mpr (by simp [hj])
      rcases List.mem_cons.mp this with e | z
      · have := m1 j hj; omega
      · exact z
section
variable {X : Cx} {W : WX} {K : PySem.W.Frag}
def setOI (w : World) (a : Addr) (p : (Int → Bool) × Nat) : HO := SetO w a p.1 p.2
def set0 : (Int → Bool) × Nat := (fun _ => false, 0)
def cInts (f : DS → Res (List D)) : DS → Res (List Int) := fun δ => (f δ).bind fun ds => match intsD ds with
  | some ns => if ns.length < 64 then .ok ns else .no
  | none => .no
def PostSI (K : PySem.W.Frag) (w : World) (B H : Hp) (σ : L2.St) (W : WX) (Q : VK) : Res (List Int) → Prop
  | .ok ns => ∀ p B' H', Grow K B H B' H' → B' p = none → H' p = some (SetO w p (fun k => decide (k ∈ ns)) (setI ns).length) → (setI ns).length < 64 → Q (.ref p) H'
  | .er x => ∀ c dx B' H', Grow K B H B' H' → RpX K B' c dx x → W c dx σ H'
  | .no => False
structure CSI (X : Cx) (W : WX) (e : Expr) (t : TE) (f : DS → Res (List Int)) : Prop where
  pe : PE X e t
  si : ∀ B0 H0 δ σ B H (Q : VK), Rel X.K B0 H0 B H σ δ → PostSI X.K X.w B H σ W Q (f δ) → t σ H Q
end
end DV
namespace DV
open PySem L2
section
variable {X : Cx} {W : WX}
def asInts : D → Res (List Int)
  | .tup ds => match intsD ds with
    | some ns => if ns.length < 64 then .ok ns else .no
    | none => .no
  | _ => .no
def rSetT (K : PySem.W.Frag) (w : World) : List V → Hp → VK → Prop := fun xs H Q => ∃ (p : Addr) (ns : List Int), xs = [.ref p] ∧ SqT K H p (ns.map V.int) ∧ ns.length < 64 ∧ ∀ q, H q = none → Q (.ref q) (upd H q (SetO w q (fun k => decide (k ∈ ns)) (setI ns).length))
def cSorted (f : DS → Res (List Int)) : DS → Res (List D) := fun δ => (f δ).bind fun ns => .ok ((setI ns).map D.int)
def rLenS (w : World) : List V → Hp → VK → Prop := fun xs H Q => ∃ (a : Addr) (S : Int → Bool) (n : Nat), xs = [.ref a] ∧ H a = some (SetO w a S n) ∧ n < 64 ∧ Q (.int n) H
def cLenS (f : DS → Res (List Int)) : DS → Res D := fun δ => (f δ).bind fun ns => .ok (.int ((setI ns).length : Nat))
end
end DV
namespace DV
open PySem PySem.Spec PySem.Calls PyProof.Rows L2
section
variable {prog : Program} {w : World} {A : Around} {E : Value → Shared → Prop} {s : Shared}
end
def IteT (K : PySem.W.Frag) (a : Addr) : It :=
  ⟨fun i H => ∃ (xs : List V) (x : V), SqT K H a xs ∧ xs[i]? = some x, fun i H v H' => ∃ T x, v = .ref T ∧ H T = none ∧ H' = upd H T (.tup [.int (i : Nat), x]) ∧ ∀ xs, SqT K H a xs → xs[i]? = some x, fun i H => ∃ xs : List V, SqT K H a xs ∧ xs.length ≤ i⟩
end DV
namespace DV
open PySem PySem.Spec PySem.Calls PyProof.Rows L2
def iEnumA (K : PySem.W.Frag) (ta : TA) : TI := fun σ H R => ta σ H fun vs H1 => ∃ a xs, vs = [.ref a] ∧ ((SqL K H1 a xs ∧ R (Ite K a) H1) ∨ (SqT K H1 a xs ∧ R (IteT K a) H1))
def enumD : Nat → List D → List D
  | _, [] => []
  | i, d :: ds => .tup [.int (i : Nat), d] :: enumD (i + 1) ds
def gEnum : List D → Res (List D)
  | [.lst ds] => .ok (enumD 0 ds)
  | [.tup ds] => .ok (enumD 0 ds)
  | _ => .no
section
variable {X : Cx} {W : WX}
end
end DV
namespace DV
open PySem L2
inductive RpK (K : PySem.W.Frag) (B : Hp) : List (Key × V) → List (Key × D) → Prop
  | nil : RpK K B [] []
  | cons {k : Key} {v : V} {d : D} {us : List (Key × V)} {ks : List (Key × D)} : Rp K B v d → RpK K B us ks → RpK K B ((k, v) :: us) ((k, d) :: ks)
section
variable {K : PySem.W.Frag} {B B' : Hp}
theorem RpK.of : ∀ {us : List (Key × V)} {ks : List (Key × D)}, us.map (·.1) = ks.map (·.1) → RpA K B (us.map (·.2)) (ks.map (·.2)) → RpK K B us ks
  | [], [], _, _ => .nil
  | [], _ :: _, e, _ => by cases e
  | _ :: _, [], e, _ => by cases e
  | (k, v) :: us, (k', d) :: ks, e, r => by
    simp only [List.map_cons, List.cons.injEq] at e
    obtain ⟨rfl, e⟩ := e
    cases r with
    | cons r1 r2 => exact .cons r1 (RpK.of e r2)
theorem RpK.keys : ∀ {us : List (Key × V)} {ks : List (Key × D)}, RpK K B us ks → us.map (·.1) = ks.map (·.1)
  | _, _, .nil => rfl
  | _, _, .cons _ r => by simp [RpK.keys r]
theorem RpK.vals : ∀ {us : List (Key × V)} {ks : List (Key × D)}, RpK K B us ks → RpA K B (us.map (·.2)) (ks.map (·.2))
  | _, _, .nil => .nil
  | _, _, .cons h r => .cons h (RpK.vals r)
theorem RpK.mono (e : Same B B') {us : List (Key × V)} {ks : List (Key × D)} (r : RpK K B us ks) : RpK K B' us ks := RpK.of r.keys (RpA.mono e r.vals)
theorem RpK.length {us : List (Key × V)} {ks : List (Key × D)} (r : RpK K B us ks) : us.length = ks.length := by
  have := congrArg List.length r.keys
  simpa using this
def valD (kvs : List (Key × D)) (k : Key) : Option D := (kvs.find? fun p => decide (p.1 = k)).map (·.2)
def putD (kvs : List (Key × D)) (k : Key) (d : D) : List (Key × D) := if (kvs.any fun p => decide (p.1 = k)) = true then kvs.map (fun p => if p.1 = k then (p.1, d) else p) else kvs ++ [(k, d)]
def dropD (kvs : List (Key × D)) (k : Key) : List (Key × D) := kvs.filter fun p => decide (p.1 ≠ k)
theorem RpK.val {k : Key} : ∀ {us : List (Key × V)} {ks : List (Key × D)}, RpK K B us ks → (valV us k = none ∧ valD ks k = none) ∨ ∃ v d, valV us k = some v ∧ valD ks k = some d ∧ Rp K B v d
  | _, _, .nil => .inl ⟨rfl, rfl⟩
  | _, _, .cons (k := k') (v := v) (d := d) h r => by
    by_cases e : k' = k
    · exact .inr ⟨v, d, by simp [valV, e], by simp [valD, e], h⟩
    · rcases RpK.val (k := k) r with ⟨h1, h2⟩ | ⟨v, d, h1, h2, h3⟩
      · exact .inl ⟨by rw [valV_neg e]; exact h1, by simpa [valD, List.find?_cons, e] using h2⟩
      · exact .inr ⟨v, d, by rw [valV_neg e]; exact h1, by simpa [valD, List.find?_cons, e] using h2, h3⟩
theorem RpK.any {us : List (Key × V)} {ks : List (Key × D)} (r : RpK K B us ks) (k : Key) : (us.any fun p => decide (p.1 = k)) = (ks.any fun p => decide (p.1 = k)) := by
  have e := r.keys
  have h1 : ∀ {α : Type} (l : List (Key × α)), (l.any fun p => decide (p.1 = k)) = (l.map (·.1)).any fun x => decide (x = k) := fun l => by rw [List.any_map]; rfl
  rw [h1, h1, e]
theorem RpK.append : ∀ {us ws : List (Key × V)} {ks ls : List (Key × D)}, RpK K B us ks → RpK K B ws ls → RpK K B (us ++ ws) (ks ++ ls)
  | _, _, _, _, .nil, s => s
  | _, _, _, _, .cons h r, s => .cons h (RpK.append r s)
theorem RpK.putMap {k : Key} {v : V} {d : D} (h : Rp K B v d) : ∀ {us : List (Key × V)} {ks : List (Key × D)}, RpK K B us ks → RpK K B (us.map fun p => if p.1 = k then (p.1, v) else p) (ks.map fun p => if p.1 = k then (p.1, d) else p)
  | _, _, .nil => .nil
  | _, _, .cons (k := k') h' r => by
    simp only [List.map_cons]
    by_cases e : k' = k
    · simp only [e, if_true]; exact .cons h (RpK.putMap h r)
    · simp only [e, if_false]; exact .cons h' (RpK.putMap h r)
theorem RpK.put {us : List (Key × V)} {ks : List (Key × D)} {k : Key} {v : V} {d : D} (r : RpK K B us ks) (h : Rp K B v d) : RpK K B (putK us k v) (putD ks k d) := by
  unfold putK putD
  rw [r.any k]
  split
  · exact RpK.putMap h r
  · exact r.append (.cons h .nil)
theorem RpK.drop {us : List (Key × V)} {ks : List (Key × D)} (k : Key) (r : RpK K B us ks) : RpK K B (dropK us k) (dropD ks k) := by
  unfold dropK dropD
  induction r with
  | nil => exact .nil
  | @cons k' v' d' us ks h' _ ih =>
    by_cases e : k' = k
    · simpa [List.filter_cons, e] using ih
    · simpa [List.filter_cons, e] using RpK.cons h' ih
def keysD (kvs : List (Key × D)) : List D := kvs.map fun p => kD p.1
def valsD (kvs : List (Key × D)) : List D := kvs.map (·.2)
theorem RpK.keysD {us : List (Key × V)} {ks : List (Key × D)} (r : RpK K B us ks) : us.map (fun p => kD p.1) = keysD ks := by
  have e := r.keys
  have h1 : us.map (fun p => kD p.1) = (us.map (·.1)).map kD := by simp
  rw [h1, e]
  simp [DV.keysD]
def asKey : D → Option Key
  | .v (.int i) => some (.inl i)
  | .v (.str x) => some (.inr x)
  | _ => none
def backK : List D → List D → Option (List (Key × D))
  | [], [] => some []
  | k :: ks, v :: vs => match asKey k, backK ks vs with
    | some k, some r => some ((k, v) :: r)
    | _, _ => none
  | _, _ => none
@[simp] theorem asKey_kD (k : Key) : asKey (kD k) = some k := by cases k <;> rfl
@[simp] theorem backK_of (kvs : List (Key × D)) : backK (keysD kvs) (valsD kvs) = some kvs := by
  induction kvs with
  | nil => rfl
  | cons p kvs ih =>
    obtain ⟨k, d⟩ := p
    show (match asKey (kD k), backK (keysD kvs) (valsD kvs) with | some k, some r => some ((k, d) :: r) | _, _ => none) = _
    rw [ih, asKey_kD]
def D.dict : D → Option (List (Key × D))
  | .dct ks vs => backK ks vs
  | .dlk ks vs => backK ks vs
  | _ => none
end
section
variable {X : Cx} {W : WX} {K : PySem.W.Frag}
def rInDk (neg : Bool) : R2 := fun x y H Q => ∃ a o, y = .ref a ∧ DGet H a x o ∧ Q (.bl (if neg then !o.isSome else o.isSome)) H
def oInD (neg : Bool) (d e : D) : Res D := match asKey d, e.dict with
  | some k, some kvs => .ok (.bl (if neg then !(valD kvs k).isSome else (valD kvs k).isSome))
  | _, _ => .no
def oIxD (d e : D) : Res D := match d.dict, asKey e with
  | some kvs, some k => match valD kvs k with
    | some z => .ok z
    | none => .no
  | _, _ => .no
end
end DV
namespace DV
open PySem L2
mutual
def D.noDct : D → Bool
  | .v _ => true
  | .lst xs => D.noDctA xs
  | .tup xs => D.noDctA xs
  | .dct _ _ => false
  | .dlk _ _ => false
  | .ins _ _ _ => false
  | .dtt _ _ => false
  | .ptp _ => false
  | .wor _ _ => false
def D.noDctA : List D → Bool
  | [] => true
  | x :: xs => x.noDct && D.noDctA xs
end
def noDctR : Res D → Res D
  | .ok d => if d.noDct then .ok d else .no
  | _ => .no
section
variable {K : PySem.W.Frag} {B B' : Hp} {p : Addr}
def NoSeq (u : HO) : Prop := (∃ us, u = .dK us) ∨ ∃ o us, u = .frz o (.dK us)
def SQ (u : HO) : Prop := (∃ xs, u = .lst xs) ∨ (∃ xs, u = .tup xs) ∨ (∃ o xs, u = .frz o (.lst xs)) ∨ ∃ o xs, u = .frz o (.tup xs)
mutual
theorem Rp.less (e : ∀ a u, SQ u → B a = some u → B' a = some u) : ∀ {v : V} {d : D}, Rp K B v d → d.noDct = true → Rp K B' v d
  | _, _, .v x, _ => .v x
  | _, _, .lst h r, hd => by
    rw [D.noDct] at hd
    refine .lst ?_ (RpA.less e r hd)
    rcases h with (h | ⟨o, h⟩) | h
    · exact .inl (.inl (e _ _ (.inl ⟨_, rfl⟩) h))
    · exact .inl (.inr ⟨o, e _ _ (.inr (.inr (.inl ⟨_, _, rfl⟩))) h⟩)
    · exact .inr h
  | _, _, .tup h r, hd => by
    rw [D.noDct] at hd
    refine .tup ?_ (RpA.less e r hd)
    rcases h with (h | ⟨o, h⟩) | h
    · exact .inl (.inl (e _ _ (.inr (.inl ⟨_, rfl⟩)) h))
    · exact .inl (.inr ⟨o, e _ _ (.inr (.inr (.inr ⟨_, _, rfl⟩))) h⟩)
    · exact .inr h
  | _, _, .dct _ _, hd => by cases hd
  | _, _, .dlk _ _, hd => by cases hd
  | _, _, .dcT _ _ _ _ _ _ _, hd => by cases hd
  | _, _, .ins _ _ _ _, hd => by cases hd
  | _, _, .ptp _ _, hd => by cases hd
  | _, _, .wor _ _ _ _, hd => by cases hd
theorem RpA.less (e : ∀ a u, SQ u → B a = some u → B' a = some u) : ∀ {vs : List V} {ds : List D}, RpA K B vs ds → D.noDctA ds = true → RpA K B' vs ds
  | _, _, .nil, _ => .nil
  | _, _, .cons h r, hd => by
    rw [D.noDctA, Bool.and_eq_true] at hd
    exact .cons (Rp.less e h hd.1) (RpA.less e r hd.2)
end
end
def fzD (lk : Bool) (i : Nat) (δ : DS) : DS := match δ[i]? with
  | some (some (.od kvs)) => δ.set i (some (.im (if lk then .dlk (keysD kvs) (valsD kvs) else .dct (keysD kvs) (valsD kvs))))
  | _ => δ
def cLookD (lk : Bool) (i : Nat) (f : DS → Res D) : DS → Res D := fun δ => match δ[i]? with
  | some (some (.od _)) => noDctR (f (fzD lk i δ))
  | _ => .no
section
variable {X : Cx} {W : WX} {K : PySem.W.Frag}
theorem SQ.noW {u : HO} (h : SQ u) : ∀ b C dx fs, u ≠ .frz b (.ins C dx fs) := fun b C dx fs z => by
  rcases h with ⟨_, rfl⟩ | ⟨_, rfl⟩ | ⟨_, _, rfl⟩ | ⟨_, _, rfl⟩ <;> cases z
theorem TK.sq {u : HO} (h : TK u) : SQ u := by
  rcases h with ⟨xs, h⟩ | ⟨o, xs, h⟩
  · exact .inr (.inl ⟨xs, h⟩)
  · exact .inr (.inr (.inr ⟨o, xs, h⟩))
def itemsK : D → Res (List D)
  | .dlk ks vs => match backK ks vs with
    | some _ => .ok ks
    | none => .no
  | _ => .no
def cKeys (f : DS → Res D) : DS → Res (List D) := fun δ => (f δ).bind itemsK
def PostFD (K : PySem.W.Frag) (B H : Hp) (σ : L2.St) (W : WX) (Q : VK) : Res (List (Key × D)) → Prop
  | .ok kvs => ∀ p us B' H', Grow K B H B' H' → H p = none → B' p = none → H' p = some (.dK us) → RpK K B' us kvs → Q (.ref p) H'
  | .er x => ∀ c dx B' H', Grow K B H B' H' → RpX K B' c dx x → W c dx σ H'
  | .no => False
structure CFD (X : Cx) (W : WX) (e : Expr) (t : TE) (f : DS → Res (List (Key × D))) : Prop where
  pe : PE X e t
  sf : ∀ B0 H0 δ σ B H (Q : VK), Rel X.K B0 H0 B H σ δ → PostFD X.K B H σ W Q (f δ) → t σ H Q
def cDn (f : DS → Res (List (Key × D))) : DS → Res D := fun δ => (f δ).bind fun kvs => .ok (.dct (keysD kvs) (valsD kvs))
def cOwnD (i : Nat) (f : DS → Res (List (Key × D))) : DS → Fl := fun δ => stE (f δ) δ fun kvs => .nx (δ.set i (some (.od kvs)))
end
end DV
namespace DV
open PySem L2
section
variable {X : Cx} {W : WX} {K : PySem.W.Frag}
def cPutD (i : Nat) (fk fv : DS → Res D) : DS → Fl := fun δ => match δ[i]? with
  | some (some (.od kvs)) => stE (fv δ) δ fun d => stE (fk δ) δ fun y => match asKey y with
    | some k => if kvs.length < sizeLine then .nx (δ.set i (some (.od (putD kvs k d)))) else .no
    | none => .no
  | _ => .no
def cPopD (i : Nat) (fk : DS → Res D) : DS → Fl := fun δ => match δ[i]? with
  | some (some (.od kvs)) => stE (fk δ) δ fun y => match asKey y with
    | some k => if (valD kvs k).isSome then .nx (δ.set i (some (.od (dropD kvs k)))) else .no
    | none => .no
  | _ => .no
def cFzD (i : Nat) (g : DS → Fl) : DS → Fl := fun δ => g (fzD false i δ)
def dcF (b : D → DS → Option DS) (t : DS → Res Bool) (ek ev : DS → Res D) : List D → DS → List (Key × D) → Res (List (Key × D))
  | [], _, acc => .ok acc
  | d :: ds, δ, acc => match b d δ with
    | none => .no
    | some δ' => (t δ').calm.bind fun c => if c = true then (ek δ').calm.bind fun y => (ev δ').calm.bind fun z => match asKey y with
        | some k => if acc.length < sizeLine then dcF b t ek ev ds δ (putD acc k z) else .no
        | none => .no
      else dcF b t ek ev ds δ acc
def cDc (vs : List Nat) (fi : DS → Res (List D)) (b : D → DS → Option DS) (t : DS → Res Bool) (ek ev : DS → Res D) : DS → Res (List (Key × D)) := fun δ => (fi δ).bind fun ds => dcF b t ek ev ds (wipeD δ vs) []
end
end DV
namespace DV
open PySem L2
section
variable {X : Cx} {W : WX} {K : PySem.W.Frag}
def encD (d : D) : PyData := d.py.getD .none
def leD : D → D → Bool := PySem.W.dataLe false encD
def sortOk (ps : List PyData) : Bool := (ps.all fun p => ps.all fun q => PySem.W.alike p q) && (ps.all fun p => match p with
  | .tuple (_ :: _) => true
  | _ => false) && ps.all fun p => decide (p.depth ≤ 60)
def rSortD (K : PySem.W.Frag) : List V → Hp → VK → Prop := fun xs H Q => ∃ p ys ds B, xs = [.ref p] ∧ Same B H ∧ SqL K H p ys ∧ RpA K B ys ds ∧ (∃ ps, D.pyA ds = some ps ∧ sortOk ps = true) ∧ ∀ q zs, H q = none → RpA K B zs (ds.mergeSort leD) → Q (.ref q) (upd H q (.lst zs))
theorem pyA_map : ∀ {ds : List D} {ps : List PyData}, D.pyA ds = some ps → ps = ds.map encD ∧ ∀ d ∈ ds, d.py = some (encD d)
  | [], ps, h => by cases h; exact ⟨rfl, fun d hd => by cases hd⟩
  | d :: ds, ps, h => by
    unfold D.pyA at h
    cases q1 : d.py with
    | none => rw [q1] at h; cases h
    | some a =>
      cases q2 : D.pyA ds with
      | none => rw [q1, q2] at h; cases h
      | some as =>
        rw [q1, q2] at h
        cases h
        obtain ⟨i1, i2⟩ := pyA_map q2
        have e : encD d = a := by unfold encD; rw [q1]; rfl
        refine ⟨by rw [i1, List.map_cons, e], fun x hx => ?_⟩
        rcases List.mem_cons.mp hx with rfl | hx
        · rw [q1, e]
        · exact i2 x hx
theorem cr_sortD (hu : X.A.units + 64 < cLine) : CallR X (.builtin "sorted") (rSortD X.K) := by
  intro pins s σ H xs us Q I r h
  obtain ⟨p, ys, ds, B, rfl, i, hs, rp, ⟨ps, hps, hok⟩, q⟩ := h
  rw [Vals.ref1 r]
  obtain ⟨its, rv, hl, hz⟩ := I.list hs
  obtain ⟨rfl, hpy⟩ := pyA_map hps
  simp only [sortOk, Bool.and_eq_true, List.all_eq_true, decide_eq_true_eq] at hok
  obtain ⟨⟨h1, h2⟩, h3⟩ := hok
  have er : ∀ {ys : List V} {its : List Value} {ds : List D}, Vals ys its → RpA X.K B ys ds → (∀ d ∈ ds, d.py = some (encD d)) → PySem.W.EachIs (fun v d => ∃ as, Reads s.heap v (encD d) as) its ds ∧ PySem.W.EachIs (fun v d => ∃ x, RelV x v ∧ Rp X.K B x d) its ds := by
    intro ys
    induction ys with
    | nil => intro its ds rv rp _; cases rv; cases rp; exact ⟨.nil, .nil⟩
    | cons y ys ih =>
      intro its ds rv rp hp
      cases rv with
      | cons rv1 rv2 =>
        cases rp with
        | @cons _ _ d ds rp1 rp2 =>
          obtain ⟨a1, a2⟩ := ih rv2 rp2 fun d hd => hp d (by simp [hd])
          exact ⟨.cons (Dp.reads I _ _ _ (dp_mono i (dp_of rp1 (hp d (by simp)))) rv1) a1, .cons ⟨_, rv1, rp1⟩ a2⟩
  obtain ⟨e1, e2⟩ := er rv rp hpy
  have hlen : ds.length ≤ sizeLine := by rw [← rp.length]; exact hz
  refine PySem.W.sorted_data (bs := ds) (enc := encD) (R := fun v d => ∃ x, RelV x v ∧ Rp X.K B x d) hl.isList e2 e1 (fun d hd d' hd' => h1 d hd d' hd') (.inl fun d hd => ?_) hlen (fun d hd => ?_) fun out ho hout => ?_
  · have := h2 d hd
    split at this
    · exact ⟨_, _, rfl⟩
    · cases this
  · have := h3 (encD d) (List.mem_map.mpr ⟨d, hd, rfl⟩)
    omega
  · have back : ∀ {out : List Value} {ds : List D}, PySem.W.EachIs (fun v d => ∃ x, RelV x v ∧ Rp X.K B x d) out ds → ∃ zs, Vals zs out ∧ RpA X.K B zs ds := by
      intro out
      induction out with
      | nil => intro ds h; cases h; exact ⟨[], .nil, .nil⟩
      | cons v out ih =>
        intro ds h
        cases h with
        | cons a b =>
          obtain ⟨x, x1, x2⟩ := a
          obtain ⟨zs, z1, z2⟩ := ih b
          exact ⟨x :: zs, .cons x1 z1, .cons x2 z2⟩
    obtain ⟨zs, z1, z2⟩ := back hout
    obtain ⟨ep, he'⟩ := PyProof.Rows.sortedAll_at s.heap its (List.toArray out)
    have hzl : zs.length ≤ sizeLine := by rw [z1.length, ho]; exact hlen
    exact ⟨.ref _, upd H (s.heap.objs.size + 1) (.lst zs), I.laid (t' := s.toks) (fun _ _ => PyProof.Rows.sortedAll_old) (Nat.le_succ _) ⟨hzl, out, ep, z1, he'⟩, rfl, q _ zs (I.hok.fresh (Nat.le_succ _)) z2⟩
def srtD (ds : List D) : Res (List D) := match intsD ds with
  | some ns => .ok ((sortI ns).map D.int)
  | none => match D.pyA ds with
    | some ps => if sortOk ps then .ok (ds.mergeSort leD) else .no
    | none => .no
def asL : D → Res (List D)
  | .lst ds => .ok ds
  | _ => .no
def cSrt (f : DS → Res D) : DS → Res (List D) := fun δ => (f δ).bind fun d => (asL d).bind srtD
theorem cf_sorted (K : PySem.W.Frag) (hK : X.K = K) (hu : X.A.units + 64 < cLine) {a : Expr} {p pos : Pos} {t : TE} {f : DS → Res D} (hm : X.mg "sorted" = none) (ha : CE X W a t f) (hg : Gl X "sorted" := by rfl) (hs : starEach [a] X.env = (false, eval a X.env) :: starEach [] X.env := by rfl) (hpl : (backTo pos (starEach [] X.env)).any (·.1) = false := by rfl) :
    CF X W (.Call (.Name "sorted" p) [a] [] pos) (tCB (fun xs H Q => rSortedI K xs H Q ∨ rSortD K xs H Q) (tCons t tNil)) (cSrt f) := by
  subst hK
  refine ⟨pe_callB (CallR.or cr_sortedI (cr_sortD hu)) hg hm (by decide +kernel) (pa_cons ha.pe pa_nil hs) (by decide) (by decide) hs hpl, fun B0 H0 δ σ B H Q rel hp => ?_⟩
  unfold cSrt at hp
  refine ha.se B0 H0 δ σ B H _ rel ?_
  cases e : f δ with
  | no => rw [e] at hp; exact hp
  | er x => rw [e] at hp; exact hp
  | ok d =>
    rw [e, Res.bind_ok] at hp
    intro v B1 H1 g1 r1
    unfold asL at hp
    split at hp
    · rw [Res.bind_ok] at hp
      unfold srtD at hp
      split at hp
      · rename_i ns e2
        cases r1 with
        | lst h1 q =>
          rw [intsD_of e2] at q
          have e3 := q.ints_of
          subst e3
          refine .inl ⟨_, ns, rfl, g1.i.seq h1, fun ms z pm sr hz => ?_⟩
          have : ms = sortI ns := sortI_unique pm sr
          subst this
          exact hp z _ B1 _ (g1.trans (Grow.raw g1.i hz)) (g1.free hz) (g1.i.free hz) upd_same (RpA.ints _)
      · split at hp
        · rename_i ps e2
          split at hp
          · rename_i hok
            cases r1 with
            | lst h1 q =>
              exact .inr ⟨_, _, _, B1, rfl, g1.i, g1.i.seq h1, q, ⟨ps, e2, hok⟩, fun z zs hz rz => hp z zs B1 _ (g1.trans (Grow.raw g1.i hz)) (g1.free hz) (g1.i.free hz) upd_same rz⟩
          · exact hp.elim
        · exact hp.elim
    · exact hp.elim
end
end DV
namespace DV
open PySem L2
section
variable {X : Cx} {W : WX} {K : PySem.W.Frag}
def lc2F (vs1 : List Nat) (b : D → DS → Option DS) (t : DS → Res Bool) (fi1 : DS → Res (List D)) (b1 : D → DS → Option DS) (t1 : DS → Res Bool) (e : DS → Res D) : List D → DS → Res (List D)
  | [], _ => .ok []
  | d :: ds, δ => match b d δ with
    | none => .no
    | some δ' => (t δ').calm.bind fun k => if k = true then (fi1 δ').calm.bind fun ds1 => (lcF b1 t1 e ds1 (wipeD δ' vs1)).bind fun ys => (lc2F vs1 b t fi1 b1 t1 e ds δ).bind fun zs => .ok (ys ++ zs) else lc2F vs1 b t fi1 b1 t1 e ds δ
def cLc2 (vs vs1 : List Nat) (fi : DS → Res (List D)) (b : D → DS → Option DS) (t : DS → Res Bool) (fi1 : DS → Res (List D)) (b1 : D → DS → Option DS) (t1 : DS → Res Bool) (e : DS → Res D) : DS → Res (List D) := fun δ => (fi δ).bind fun ds => match lc2F vs1 b t fi1 b1 t1 e ds (wipeD δ vs) with
  | .ok ys => if ys.length ≤ sizeLine then .ok ys else .no
  | _ => .no
structure Acc (K : PySem.W.Frag) (B1 H1 : Hp) (Dl : Addr) (us : List V) (done : List D) (B' H' : Hp) : Prop where
  g : Grow K B1 H1 B' H'
  b : B' Dl = none
  h : H' Dl = some (.lst us)
  r : RpA K B' us done
theorem Acc.mono {B1 H1 B' H' B2 H2 : Hp} {Dl : Addr} {us : List V} {done : List D} (a : Acc K B1 H1 Dl us done B' H') (g : Grow K B' H' B2 H2) : Acc K B1 H1 Dl us done B2 H2 :=
  ⟨a.g.trans g, by rw [g.f Dl (by rw [a.h]; simp)]; exact a.b, g.h _ _ a.h ⟨fun _ z => (by cases z), fun _ _ _ z => (by cases z)⟩, a.r.mono g.b⟩
theorem Acc.snoc {B1 H1 B' H' : Hp} {Dl : Addr} {done : List D} {us : List V} {v : V} {d : D} (hD : H1 Dl = none) (a : Acc K B1 H1 Dl us done B' H') (r : Rp K B' v d) : Acc K B1 H1 Dl (us ++ [v]) (done ++ [d]) B' (upd H' Dl (.lst (us ++ [v]))) := by
  have neD : ∀ c o, B' c = some o → c ≠ Dl := fun c o q z => by rw [z, a.b] at q; cases q
  refine ⟨⟨a.g.b, fun c o q nq => ?_, fun c o q => ?_, a.g.f, fun c hc => ?_, fun P hP => tab_upd (a.g.t P hP) a.h, a.g.np a.h (std_lst _).2⟩, a.b, upd_same, a.r.append (.cons r .nil)⟩
  · rw [upd_ne (ne_of_none q hD)]; exact a.g.h c o q nq
  · rw [upd_ne (neD c o q)]; exact a.g.i c o q
  · have : c ≠ Dl := fun z => hc (by rw [z]; exact hD)
    rw [upd_ne this]; exact a.g.e c hc
theorem tab_less {H0 : Hp} {Dl P : Addr} {q : Nat → Nat → Str} {us : List V} (h0 : H0 Dl = none) (h : NdefX.TabN (upd H0 Dl (.lst us)) P q) : NdefX.TabN H0 P q := by
  obtain ⟨ps, h1, h2, h3⟩ := h
  have n1 : P ≠ Dl := fun z => by rw [z, upd_same] at h1; cases h1
  rw [upd_ne n1] at h1
  refine ⟨ps, h1, h2, fun pos cv hc => ?_⟩
  obtain ⟨c, e1, e2⟩ := h3 pos cv hc
  have n2 : c ≠ Dl := fun z => by rw [z, upd_same] at e2; unfold LamX.CodeO at e2; cases e2
  rw [upd_ne n2] at e2
  exact ⟨c, e1, e2⟩
theorem SR.base {H0 H0' : Org} {B H H' : Hp} {v : V} {o : O} (h : SR K H0 B H v o) (hs : H0'.sf = H0.sf) (h0 : ∀ p, H0.h p = none → H p ≠ none → H0'.h p = none ∧ H' p = H p) : SR K H0' B H' v o := by
  cases o with
  | im d => exact h
  | ow ds =>
    obtain ⟨p, vs, rfl, a0, ab, ah, r⟩ := h
    obtain ⟨z1, z2⟩ := h0 p a0 (by rw [ah]; simp)
    exact ⟨p, vs, rfl, z1, ab, z2.trans ah, r⟩
  | od kvs =>
    obtain ⟨p, vs, rfl, a0, ab, ah, k, r⟩ := h
    obtain ⟨z1, z2⟩ := h0 p a0 (by rw [ah]; simp)
    exact ⟨p, vs, rfl, z1, ab, z2.trans ah, k, r⟩
  | tr m k ts =>
    obtain ⟨m1, m2⟩ := RT.move (H' := H') (.nd k ts) v h.1 (Same.refl _) fun q hq => by
      obtain ⟨u, hu, _⟩ := RT.kind _ _ h.1 q hq
      exact (h0 q (h.2.1 q hq).1 (by rw [hu]; simp)).2
    refine ⟨m1, fun q hq => ?_, fun z => hs.trans (h.2.2 z)⟩
    have hq' := (m2 q).mp hq
    obtain ⟨u, hu, _⟩ := RT.kind _ _ h.1 q hq'
    exact ⟨(h0 q (h.2.1 q hq').1 (by rw [hu]; simp)).1, (h.2.1 q hq').2⟩
theorem SR.baseF {H0 H0' : Org} {B H H' : Hp} {v : V} {o : O} (h : SR K H0 B H v o) (hs : H0'.sf = H0.sf) (h0 : ∀ p, H0.h p = none → H p ≠ none → H0'.h p = none ∧ H' p = H p) : ∀ q, Ft K H' v q o → Ft K H v q o := by
  cases o with
  | im d => exact fun q z => z
  | ow ds => exact fun q z => z
  | od kvs => exact fun q z => z
  | tr m k ts =>
    obtain ⟨m1, m2⟩ := RT.move (H' := H') (.nd k ts) v h.1 (Same.refl _) fun q hq => by
      obtain ⟨u, hu, _⟩ := RT.kind _ _ h.1 q hq
      exact (h0 q (h.2.1 q hq).1 (by rw [hu]; simp)).2
    exact fun q hq => (m2 q).mp hq
theorem TBt.sw {τ : Addr → D × D} {B H : Hp} {p : Addr} {us us' : List V} (h : TBt K τ B (upd H p (.lst us))) : TBt K τ B (upd H p (.lst us')) := h.grow (Same.refl _) (fun _ _ q => .inl q) fun a o ws q => by
  by_cases ha : a = p
  · subst ha; rw [upd_same] at q; cases q
  · rw [upd_ne ha] at q ⊢; exact q
theorem Rel.put {B0 : Hp} {H0 : Org} {B H : Hp} {σ : L2.St} {δ : DS} {Dl : Addr} {us us' : List V} (r : Rel K B0 (H0.upd Dl (.lst us)) B H σ δ) (h0 : H0.h Dl = none) (hb : B Dl = none) (hh : H Dl = some (.lst us)) : Rel K B0 (H0.upd Dl (.lst us')) B (upd H Dl (.lst us')) σ δ := by
  have neD : ∀ c o, B c = some o → c ≠ Dl := fun c o q z => by rw [z, hb] at q; cases q
  refine ⟨⟨r.g.b, fun a o q nq => ?_, fun a o q => ?_, fun a ha => ?_, fun a ha => ?_, fun P hP => tab_upd (r.g.t P ((tab_less h0 hP).ext (same_new h0))) hh, fun τ h => ?_⟩, fun p hp => (tab_less h0 (r.tk p hp)).ext (same_new h0), ?_, r.len, fun i o e => ?_, r.seps fun i o v e1 e2 => ?_⟩
  · (try dsimp only [Org.upd] at *)
    by_cases ha : a = Dl
    · subst ha; rw [upd_same] at q ⊢; exact q
    · rw [upd_ne ha] at q ⊢; exact r.g.h a o (by show upd H0.h Dl (.lst us) a = some o; rw [upd_ne ha]; exact q) nq
  · (try dsimp only [Org.upd] at *)
    rw [upd_ne (neD a o q)]; exact r.g.i a o q
  · (try dsimp only [Org.upd] at *)
    by_cases hz : a = Dl
    · exact r.g.f a (by show upd H0.h Dl (.lst us) a ≠ none; rw [hz, upd_same]; simp)
    · exact r.g.f a (by show upd H0.h Dl (.lst us) a ≠ none; rw [upd_ne hz] at ha ⊢; exact ha)
  · (try dsimp only [Org.upd] at *)
    by_cases hz : a = Dl
    · rw [hz, upd_same]; simp
    · rw [upd_ne hz] at ha ⊢; exact r.g.e a (by show upd H0.h Dl (.lst us) a ≠ none; rw [upd_ne hz]; exact ha)
  · obtain ⟨τ', e, h'⟩ := r.g.n τ h.sw
    refine ⟨τ', fun x hx => e x ?_, h'.poke hh (std_lst _).2⟩
    (try dsimp only [Org.upd] at *)
    by_cases hz : x = Dl
    · rw [hz, upd_same]; simp
    · rw [upd_ne hz] at hx ⊢; exact hx
  · exact r.nt.imp fun τ h => h.sw
  · (try dsimp only [Org.upd] at *)
    obtain ⟨v, h1, h2⟩ := r.sl i o e
    refine ⟨v, h1, h2.base rfl fun p hp _ => ?_⟩
    (try dsimp only [Org.upd] at *)
    have np : p ≠ Dl := fun z => by rw [z, upd_same] at hp; cases hp
    rw [upd_ne np] at hp
    exact ⟨by rw [upd_ne np]; exact hp, upd_ne np⟩
  · (try dsimp only [Org.upd] at *)
    obtain ⟨v', h1, h2⟩ := r.sl i o e1
    rw [e2] at h1
    cases h1
    refine h2.baseF (H0' := H0.upd Dl (.lst us')) rfl fun p hp _ => ?_
    (try dsimp only [Org.upd] at *)
    have np : p ≠ Dl := fun z => by rw [z, upd_same] at hp; cases hp
    rw [upd_ne np] at hp
    exact ⟨by rw [upd_ne np]; exact hp, upd_ne np⟩
end
end DV
namespace DV
open PySem L2
section
variable {X : Cx} {W : WX} {K : PySem.W.Frag}
def rInA (K : PySem.W.Frag) (neg : Bool) : R2 := fun x y H Q => rIn K neg x y H Q ∨ if neg then rNotInD K x y H Q else rInD K x y H Q
def oInA (neg : Bool) (d e : D) : Res D := match oIn neg d e with
  | .no => match d.py, e with
    | some p, .lst es => match D.pyA es with
      | some ps => if SeqAt.shaped p = true ∧ SeqAt.shaped (.list ps) = true then .ok (.bl (if neg then !(ps.any fun z => PyData.eqv z p) else ps.any fun z => PyData.eqv z p)) else .no
      | none => .no
    | _, _ => .no
  | r => r
theorem ro_inA {n : Bool} : RO K (rInA K n) (oInA n) := fun x y d e B H Q i rx ry h => by
  unfold oInA at h
  cases e0 : oIn n d e with
  | ok z => rw [e0] at h; exact .inl (ro_in x y d e B H Q i rx ry (by rw [e0]; exact h))
  | er z => rw [e0] at h; exact h.elim
  | no =>
    rw [e0] at h
    dsimp only at h
    refine .inr ?_
    cases e1 : d.py with
    | none => rw [e1] at h; exact h.elim
    | some p =>
      rw [e1] at h
      cases e with
      | lst es =>
        dsimp only at h
        cases e2 : D.pyA es with
        | none => rw [e2] at h; exact h.elim
        | some ps =>
          rw [e2] at h
          dsimp only at h
          split at h
          · rename_i hs
            have d1 := dp_mono i (dp_of rx e1)
            have d2 : Dp K H y (.list ps) := dp_mono i (dp_of ry (by unfold D.py; rw [e2]; rfl))
            cases n with
            | true => exact ⟨p, ps, d1, d2, hs.1, hs.2, h _ B H (Grow.refl i) (.v _)⟩
            | false => exact ⟨p, ps, d1, d2, hs.1, hs.2, h _ B H (Grow.refl i) (.v _)⟩
          · exact h.elim
      | _ => exact h.elim
theorem cm_inA {n : Bool} : Calm2 (oInA n) := fun d e x => by
  unfold oInA
  split
  · split
    · split
      · split <;> simp
      · simp
    · simp
  · exact cm_in d e x
theorem o_inA (K : PySem.W.Frag) (hK : X.K = K) (hu : X.A.units + 65 < cLine) : OK2 X (compareOp .In) (rInA K false) (oInA false) := by
  subst hK
  exact ⟨OpR.or (o_in X.K rfl).o (op_inD hu), ro_inA, cm_inA⟩
def findV (y : V) : List V → Option Nat
  | [] => none
  | x :: xs => if eqV x y then some 0 else (findV y xs).map (· + 1)
def oIndex (d e : D) : Res D := match d with
  | .lst ds => match flatsD ds, flatD e with
    | some xs, some y => match findV y xs with
      | some j => .ok (.int (j : Nat))
      | none => .no
    | _, _ => .no
  | _ => .no
def cIndex (fo fe : DS → Res D) : DS → Res D := fun δ => (fo δ).bind fun x => (fe δ).calm.bind fun y => oIndex x y
mutual
def D.noLst : D → Bool
  | .v _ => true
  | .tup xs => D.noLstA xs
  | _ => false
def D.noLstA : List D → Bool
  | [] => true
  | x :: xs => x.noLst && D.noLstA xs
end
def noLstR : Res D → Res D
  | .ok d => if d.noLst then .ok d else .no
  | _ => .no
def fzL (i : Nat) (δ : DS) : DS := match δ[i]? with
  | some (some (.ow ds)) => δ.set i (some (.im (.lst ds)))
  | _ => δ
def cLookL (i : Nat) (f : DS → Res D) : DS → Res D := fun δ => noLstR (f (fzL i δ))
mutual
theorem Rp.tups {B B' : Hp} (e : ∀ a u, TK u → B a = some u → B' a = some u) : ∀ {v : V} {d : D}, Rp K B v d → d.noLst = true → Rp K B' v d
  | _, _, .v x, _ => .v x
  | _, _, .lst _ _, hd => by cases hd
  | _, _, .tup h r, hd => by
    rw [D.noLst] at hd
    refine .tup ?_ (RpA.tups e r hd)
    rcases h with (h | ⟨o, h⟩) | h
    · exact .inl (.inl (e _ _ (.inl ⟨_, rfl⟩) h))
    · exact .inl (.inr ⟨o, e _ _ (.inr ⟨_, _, rfl⟩) h⟩)
    · exact .inr h
  | _, _, .dct _ _, hd => by cases hd
  | _, _, .dlk _ _, hd => by cases hd
  | _, _, .dcT _ _ _ _ _ _ _, hd => by cases hd
  | _, _, .ins _ _ _ _, hd => by cases hd
  | _, _, .ptp _ _, hd => by cases hd
  | _, _, .wor _ _ _ _, hd => by cases hd
theorem RpA.tups {B B' : Hp} (e : ∀ a u, TK u → B a = some u → B' a = some u) : ∀ {vs : List V} {ds : List D}, RpA K B vs ds → D.noLstA ds = true → RpA K B' vs ds
  | _, _, .nil, _ => .nil
  | _, _, .cons h r, hd => by
    rw [D.noLstA, Bool.and_eq_true] at hd
    exact .cons (Rp.tups e h hd.1) (RpA.tups e r hd.2)
end
theorem se_lookL (i : Nat) {t : TE} {f : DS → Res D} (h : SE K W t f) : SE K W t (cLookL i f) := fun B0 H0 δ σ B H Q rel hp => by
  unfold cLookL at hp
  by_cases hk : ∃ ds, δ[i]? = some (some (.ow ds))
  · obtain ⟨ds, ei⟩ := hk
    have hfz : fzL i δ = δ.set i (some (.im (.lst ds))) := by unfold fzL; rw [ei]
    obtain ⟨v, h1, p, vs, rfl, h0, hb, hh, q⟩ := rel.sl i _ ei
    obtain ⟨sb, rel2⟩ := rel.freezeG (ho := .lst vs) (d := .lst ds) ei rfl h1 (upd_self hh).symm ⟨⟨fun _ z => (by cases z), fun _ _ _ z => (by cases z)⟩, fun _ _ _ _ z => (by cases z)⟩ (.lst (SqL.of upd_same) (RpA.mono (same_new hb) q))
    rw [hfz] at hp
    refine h B0 H0 _ σ _ H Q rel2 ?_
    cases e : f (δ.set i (some (.im (.lst ds)))) with
    | no => rw [e] at hp; exact hp.elim
    | er x => rw [e] at hp; exact hp.elim
    | ok d =>
      rw [e] at hp
      unfold noLstR at hp
      dsimp only at hp
      split at hp
      · rename_i hd
        intro w B2 H2 g rp
        have bp2 : B2 p = some (.lst vs) := g.b p _ upd_same
        have kl := kind_lst vs
        obtain ⟨g3, kT, _⟩ := Grow.unlendT rel.g.i (rel.g.tb rel.nt).nt sb (fun a u z => by
          by_cases ha : a = p
          · subst ha; rw [upd_same] at z; cases z; exact .inr ⟨hh, kl, fun z => by rcases z with ⟨_, z⟩ | ⟨_, _, z⟩ <;> cases z⟩
          · rw [upd_ne ha] at z; exact .inl z) g
        exact hp w _ H2 g3 (rp.tups kT hd)
      · exact hp.elim
  · have hfz : fzL i δ = δ := by
      unfold fzL
      split
      · rename_i ds e; exact absurd ⟨ds, e⟩ hk
      · rfl
    rw [hfz] at hp
    refine h B0 H0 δ σ B H Q rel ?_
    cases e : f δ with
    | no => rw [e] at hp; exact hp.elim
    | er x => rw [e] at hp; exact hp.elim
    | ok d =>
      rw [e] at hp
      unfold noLstR at hp
      dsimp only at hp
      split at hp
      · exact hp
      · exact hp.elim
theorem ce_lookL (i : Nat) {e : Expr} {t : TE} {f : DS → Res D} (h : CE X W e t f) : CE X W e t (cLookL i f) := ⟨h.pe, se_lookL i h.se⟩
def intKeys : List (Key × D) → Option (List Int)
  | [] => some []
  | (.inl i, _) :: r => (intKeys r).map (i :: ·)
  | _ => none
def gMinD : List D → Res D
  | [.dct ks vs] => match backK ks vs with
    | some kvs => match intKeys kvs with
      | some (i :: is) => .ok (.int (minI i is))
      | _ => .no
    | none => .no
  | _ => .no
end
end DV
namespace DV
open PySem L2
section
variable {X : Cx} {W : WX} {K : PySem.W.Frag}
def rEqD0 (neg : Bool) : R2 := fun x y H Q => ∃ a b ks ls, x = .ref a ∧ y = .ref b ∧ H a = some (.dK ks) ∧ H b = some (.dK ls) ∧ (ks.length = ls.length → ks = []) ∧ Q (.bl (if neg then !decide (ks.length = ls.length) else decide (ks.length = ls.length))) H
def oEqD0 (d e : D) : Res D := match d, e with
  | .dct ks vs, .dct ls ws => match backK ks vs, backK ls ws with
    | some a, some b => if a.length = b.length → a = [] then .ok (.bl (decide (a.length = b.length))) else .no
    | _, _ => .no
  | _, _ => .no
def cAppPop (i j : Nat) (fk : DS → Res D) : DS → Fl := fun δ => match δ[i]?, δ[j]? with
  | some (some (.ow ds)), some (some (.ow es)) => stE (fk δ).calm δ fun y => match y with
    | .v (.int k) => if 0 ≤ k ∧ k < es.length ∧ k.natAbs ≤ 1000000 ∧ ds.length < sizeLine then match es[k.toNat]? with
        | some d => .nx ((δ.set j (some (.ow (es.eraseIdx k.toNat)))).set i (some (.ow (ds ++ [d]))))
        | none => .no
      else .no
    | _ => .no
  | _, _ => .no
def asN : D → Res Int
  | .v (.int n) => if n.natAbs ≤ 1000000 then .ok n else .no
  | _ => .no
def cListRg (f : DS → Res D) : DS → Res (List D) := fun δ => (f δ).bind fun d => (asN d).bind fun n => .ok (rangeD 0 n.toNat)
def cListOf (f : DS → Res D) : DS → Res (List D) := fun δ => (f δ).bind fun d => match d with
  | .lst ds => .ok ds
  | .tup ds => .ok ds
  | _ => .no
def cExt (i : Nat) (f : DS → Res (List D)) : DS → Fl := fun δ => match δ[i]? with
  | some (some (.ow ds)) => stE (f δ) δ fun es => if ds.length + es.length ≤ sizeLine then .nx (δ.set i (some (.ow (ds ++ es)))) else .no
  | _ => .no
def cRep (f : DS → Res (List D)) (fk : DS → Res D) : DS → Res (List D) := fun δ => (f δ).bind fun ds => (fk δ).bind fun y => match y with
  | .v (.int k) => if k.natAbs ≤ 1000000 ∧ ds.length * k.toNat ≤ sizeLine then .ok (List.replicate k.toNat ds).flatten else .no
  | _ => .no
def cLookTD (i : Nat) (f : DS → Res Bool) : DS → Res Bool := fun δ => match δ[i]? with
  | some (some (.od _)) => (f (fzD false i δ)).calm
  | _ => .no
end
theorem units5 {k : Nat} {A : Around} (r : Room k A) : A.units + 65 < cLine := by have := r.un; omega
end DV
namespace DV
open PySem L2
section
variable {K : PySem.W.Frag} {x qual : Str} {params : Arguments} {body : List Stmt} {scope : Scope} {kws : List (Str × V)} {f : Addr} {fd : FuncData} {ps : List Str}
theorem form0k (F : FunD K x qual params body scope [] kws f fd) (n : Nat) (ks : List Str) (ms : List (Str × V)) (l : List (Pk V)) (lU : List Value → List (Pk Value)) (hk : kws ≠ []) (hms : ∀ q ∈ ms, q ∈ kws) (hl : ∀ mv, Vals (ms.map (·.2)) mv → PkU l (lU mv))
    (h : ∀ (D : Addr) (doc pm : Value) (an : Option Addr) (cdv ct : Value) (us mv ws : List Value), us.length = n → mv.length = ms.length → ws.length = ks.length →
      KwChain D ((ms.map (·.1)).zip mv) (bindArgs (PySem.W.fnOf x qual params body scope .none (.ref D) doc pm an cdv ct) ⟨us, ks.zip ws⟩) (ps.zip (pkU (lU mv) us ws))) : KForm K fd ps n ks l := by
  obtain ⟨oc, od, dV, kV, doc, pm, an, cdv, ct, osl, rfl, lk, hcd, hD, hK⟩ := F.ex
  rcases hD with ⟨_, rfl⟩ | ⟨e, _⟩
  · rcases hK with e | ⟨D, rfl, hq⟩
    · exact absurd e hk
    · obtain ⟨mv, hlen, rk, hks⟩ := kwd_vals (ms := ms) fun q hm => hq q (hms q hm)
      exact ⟨pkU (lU mv), fun s us ws X l1 l2 => BindsTo.of_looks fun M => KwChain.looks X hks (h D doc pm an cdv ct us mv ws l1 hlen l2), fun r1 r2 => (hl mv rk).rel r1 r2⟩
  · exact absurd rfl e
end
end DV
namespace DV
open PySem L2
section
variable {X : Cx} {W : WX} {K : PySem.W.Frag}
def cRetF (f : DS → Res (List D)) : DS → Fl := fun δ => stE (f δ) δ fun ds => .rf ds
def cRetO (i : Nat) : DS → Fl := fun δ => match δ[i]? with
  | some (some (.ow ds)) => .rf ds
  | _ => .no
def PostDF (K : PySem.W.Frag) (B H : Hp) (Q : VK) (E : XK) : Res (List D) → Prop
  | .ok ds => ∀ p vs B' H', Grow K B H B' H' → H p = none → B' p = none → H' p = some (.lst vs) → RpA K B' vs ds → Q (.ref p) H'
  | .er x => ∀ c dx B' H', Grow K B H B' H' → RpX K B' c dx x → E c dx H'
  | .no => False
def spF (K : PySem.W.Frag) (n : Nat) (F : List D → Res (List D)) : Sp := fun vs H Q E => vs.length = n ∧ ∃ ds B, Same B H ∧ RpA K B vs ds ∧ ((∀ p ∈ tabsOf K, NdefX.TabN H p lamAt) ∧ TB K B H) ∧ PostDF K B H Q E (F ds)
def flF : Fl → Res (List D)
  | .rf ds => .ok ds
  | .rs x _ => .er x
  | _ => .no
@[simp] theorem flF_rf (ds : List D) : flF (.rf ds) = .ok ds := rfl
@[simp] theorem flF_rs (x : Exn) (δ : DS) : flF (.rs x δ) = .er x := rfl
def defL (m : Nat) (g : DS → Fl) : List D → Res (List D) := fun ds => flF (g (st0 m ds))
end
section
variable {P : Program} {w : World} {K : PySem.W.Frag} {mg : Str → Option Value} {base : Heap}
end
section
variable {X : Cx} {W : WX} {K : PySem.W.Frag}
def cFnF (F : List D → Res (List D)) (f : DS → Res (List D)) : DS → Res (List D) := fun δ => (f δ).bind F
end
end DV
namespace DV
open PySem L2
section
variable {X : Cx} {W : WX}
def cMut (i : Nat) (φ : List D → Option (List D)) : DS → Fl := fun δ => match δ[i]? with
  | some (some (.ow ds)) => match φ ds with
    | some es => .nx (δ.set i (some (.ow es)))
    | none => .no
  | _ => .no
theorem RpA.dropLast {K : PySem.W.Frag} {B : Hp} : ∀ {vs : List V} {ds : List D}, RpA K B vs ds → RpA K B vs.dropLast ds.dropLast
  | _, _, .nil => .nil
  | _, _, .cons _ .nil => .nil
  | _, _, .cons h (.cons h2 r) => .cons h (RpA.dropLast (.cons h2 r))
def cIns (i : Nat) (k : Nat) (f : DS → Res D) : DS → Fl := fun δ => match δ[i]? with
  | some (some (.ow ds)) => stE (f δ) δ fun d => if ds.length < sizeLine then .nx (δ.set i (some (.ow (ds.take k ++ [d] ++ ds.drop k)))) else .no
  | _ => .no
theorem RpA.tk {K : PySem.W.Frag} {B : Hp} : ∀ {vs : List V} {ds : List D} (k : Nat), RpA K B vs ds → RpA K B (vs.take k) (ds.take k)
  | _, _, 0, _ => by simpa using RpA.nil
  | _, _, _ + 1, .nil => by simpa using RpA.nil
  | _, _, k + 1, .cons h r => by simpa using RpA.cons h (RpA.tk k r)
theorem RpA.dr {K : PySem.W.Frag} {B : Hp} : ∀ {vs : List V} {ds : List D} (k : Nat), RpA K B vs ds → RpA K B (vs.drop k) (ds.drop k)
  | _, _, 0, r => by simpa using r
  | _, _, _ + 1, .nil => by simpa using RpA.nil
  | _, _, k + 1, .cons h r => by simpa using RpA.dr k r
end
end DV
namespace DV
open PySem PySem.Spec PyProof.Rows L2
section
variable {prog : Program} {w : World} {A : Around} {s : Shared} {E : Value → Shared → Prop}
end
section
variable {X : Cx}
def rSortedT (K : PySem.W.Frag) : List V → Hp → VK → Prop := fun vs H Q => ∃ (tp : Addr) (ns : List Int), vs = [V.ref tp] ∧ SqT K H tp (ns.map V.int) ∧ ∀ p : Addr, H p = none → Q (.ref p) (upd H p (.lst ((sortI ns).map V.int)))
variable {W : WX}
def intsT : D → Res (List Int)
  | .tup ds => match intsD ds with
    | some ns => .ok ns
    | none => .no
  | _ => .no
def cSrtT (f : DS → Res D) : DS → Res (List D) := fun δ => (f δ).bind fun d => (intsT d).bind fun ns => .ok ((sortI ns).map D.int)
end
end DV
namespace DV
open PySem L2
def T.at : T → List Nat → Option T
  | t, [] => some t
  | .im _, _ :: _ => none
  | .nd _ ts, j :: js => match ts[j]? with
    | some t => t.at js
    | none => none
def T.put : T → List Nat → T → T
  | _, [], t1 => t1
  | .im d, _ :: _, _ => .im d
  | .nd k ts, j :: js, t1 => match ts[j]? with
    | some t => .nd k (ts.set j (t.put js t1))
    | none => .nd k ts
def ValAt (K : PySem.W.Frag) (H : Hp) : T → V → List Nat → V → Prop
  | _, v, [], w => w = v
  | .im _, _, _ :: _, _ => False
  | .nd k ts, v, j :: js, w => ∃ p vs fp, v = .ref p ∧ cell K H p vs fp k ∧ ∃ t' v', ts[j]? = some t' ∧ vs[j]? = some v' ∧ ValAt K H t' v' js w
section
variable {K : PySem.W.Frag} {B B' H H' : Hp}
theorem RTA.get : ∀ {ts : List T} {vs : List V} {j : Nat} {t : T} {v : V}, RTA K B H ts vs → ts[j]? = some t → vs[j]? = some v → RT K B H t v ∧ ∀ q, FT K H t v q → FTA K H ts vs q
  | [], _, _, _, _, _, e, _ => by simp at e
  | _ :: _, [], _, _, _, h, _, _ => by rw [RTA] at h; exact h.elim
  | t0 :: ts, v0 :: vs, 0, t, v, h, e1, e2 => by
    simp at e1 e2
    subst e1; subst e2
    rw [RTA] at h
    exact ⟨h.1, fun q hq => by rw [FTA]; exact .inl hq⟩
  | t0 :: ts, v0 :: vs, j + 1, t, v, h, e1, e2 => by
    rw [RTA] at h
    obtain ⟨a, b⟩ := RTA.get (j := j) h.2.1 (by simpa using e1) (by simpa using e2)
    exact ⟨a, fun q hq => by rw [FTA]; exact .inr (b q hq)⟩
theorem RT.at : ∀ {js : List Nat} {t : T} {v w : V} {t0 : T}, RT K B H t v → ValAt K H t v js w → t.at js = some t0 → RT K B H t0 w ∧ ∀ q, FT K H t0 w q → FT K H t v q
  | [], t, v, w, t0, h, e, a => by
    rw [T.at] at a
    cases a
    have : w = v := by cases t <;> exact e
    subst this
    exact ⟨h, fun _ h => h⟩
  | j :: js, .im d, v, w, t0, h, e, a => by cases a
  | j :: js, .nd k ts, v, w, t0, h, e, a => by
    rw [RT] at h
    obtain ⟨p, vs, fp, rfl, hc, hr, hn⟩ := h
    obtain ⟨p', vs', fp', z, hc', t', v', e1, e2, e3⟩ := e
    cases z
    obtain ⟨rfl, rfl⟩ := cell_one hc hc'
    obtain ⟨r1, r2⟩ := hr.get e1 e2
    have a' : t'.at js = some t0 := by
      rw [T.at, e1] at a
      exact a
    obtain ⟨s1, s2⟩ := RT.at r1 e3 a'
    exact ⟨s1, fun q hq => by rw [FT]; exact ⟨_, _, _, rfl, hc, .inr (r2 q (s2 q hq))⟩⟩
theorem ValAt.move : ∀ {js : List Nat} {t : T} {v w : V}, RT K B H t v → (∀ q, FT K H t v q → H' q = H q) → ValAt K H t v js w → ValAt K H' t v js w
  | [], t, v, w, h, m, e => by cases t <;> exact e
  | j :: js, .im d, v, w, h, m, e => e.elim
  | j :: js, .nd k ts, v, w, h, m, e => by
    rw [RT] at h
    obtain ⟨p, vs, fp, rfl, hc, hr, hn⟩ := h
    obtain ⟨p', vs', fp', z, hc', t', v', e1, e2, e3⟩ := e
    cases z
    obtain ⟨rfl, rfl⟩ := cell_one hc hc'
    obtain ⟨r1, r2⟩ := hr.get e1 e2
    refine ⟨_, _, _, rfl, cell_at hc fun q hq => m q (by rw [FT]; exact ⟨_, _, _, rfl, hc, .inl hq⟩), t', v', e1, e2, ValAt.move r1 (fun q hq => m q ?_) e3⟩
    rw [FT]
    exact ⟨_, _, _, rfl, hc, .inr (r2 q hq)⟩
theorem RTA.setAt : ∀ {ts : List T} {vs : List V} {j : Nat} {t t1 : T} {v : V}, RTA K B H ts vs → ts[j]? = some t → vs[j]? = some v → (∀ q, ¬ FT K H t v q → H q ≠ none → H' q = H q) → RT K B H' t1 v → (∀ q, FT K H' t1 v q → FT K H t v q ∨ H q = none) →
    RTA K B H' (ts.set j t1) vs ∧ ∀ q, FTA K H' (ts.set j t1) vs q → FTA K H ts vs q ∨ H q = none
  | [], _, _, _, _, _, _, e, _, _, _, _ => by simp at e
  | _ :: _, [], _, _, _, _, h, _, _, _, _, _ => by rw [RTA] at h; exact h.elim
  | t0 :: ts, v0 :: vs, 0, t, t1, v, h, e1, e2, m, n1, n2 => by
    simp at e1 e2
    subst e1; subst e2
    rw [RTA] at h
    obtain ⟨h1, h2, h3⟩ := h
    obtain ⟨a, b⟩ := RTA.move (B' := B) (H' := H') ts vs h2 (Same.refl _) fun q hq => by
      obtain ⟨u, hu, _⟩ := RTA.kind ts vs h2 q hq
      exact m q (fun z => h3 q z hq) (by rw [hu]; simp)
    rw [List.set_cons_zero]
    constructor
    · rw [RTA]
      refine ⟨n1, a, fun q hq z => ?_⟩
      have z' := (b q).mp z
      rcases n2 q hq with y | y
      · exact h3 q y z'
      · obtain ⟨u, hu, _⟩ := RTA.kind ts vs h2 q z'
        rw [y] at hu
        cases hu
    · intro q hq
      rw [FTA] at hq ⊢
      rcases hq with hq | hq
      · exact (n2 q hq).imp .inl id
      · exact .inl (.inr ((b q).mp hq))
  | t0 :: ts, v0 :: vs, j + 1, t, t1, v, h, e1, e2, m, n1, n2 => by
    rw [RTA] at h
    obtain ⟨h1, h2, h3⟩ := h
    obtain ⟨g1, g2⟩ := h2.get (j := j) (by simpa using e1) (by simpa using e2)
    obtain ⟨a, b⟩ := RTA.setAt (j := j) h2 (by simpa using e1) (by simpa using e2) m n1 n2
    obtain ⟨c, d⟩ := RT.move (B' := B) (H' := H') t0 v0 h1 (Same.refl _) fun q hq => by
      obtain ⟨u, hu, _⟩ := RT.kind t0 v0 h1 q hq
      exact m q (fun z => h3 q hq (g2 q z)) (by rw [hu]; simp)
    rw [List.set_cons_succ]
    constructor
    · rw [RTA]
      refine ⟨c, a, fun q hq z => ?_⟩
      have hq' := (d q).mp hq
      rcases b q z with y | y
      · exact h3 q hq' y
      · obtain ⟨u, hu, _⟩ := RT.kind t0 v0 h1 q hq'
        rw [y] at hu
        cases hu
    · intro q hq
      rw [FTA] at hq ⊢
      rcases hq with hq | hq
      · exact .inl (.inl ((d q).mp hq))
      · exact (b q hq).imp .inr id
theorem RT.putAt : ∀ {js : List Nat} {t : T} {v w : V} {t0 t1 : T}, RT K B H t v → ValAt K H t v js w → t.at js = some t0 → (∀ q, ¬ FT K H t0 w q → H q ≠ none → H' q = H q) → RT K B H' t1 w → (∀ q, FT K H' t1 w q → FT K H t0 w q ∨ H q = none) →
    RT K B H' (t.put js t1) v ∧ ∀ q, FT K H' (t.put js t1) v q → FT K H t v q ∨ H q = none
  | [], t, v, w, t0, t1, h, e, a, m, n1, n2 => by
    rw [T.at] at a
    cases a
    have : w = v := by cases t <;> exact e
    subst this
    rw [T.put]
    exact ⟨n1, n2⟩
  | j :: js, .im d, v, w, t0, t1, h, e, a, m, n1, n2 => by cases a
  | j :: js, .nd k ts, v, w, t0, t1, h, e, a, m, n1, n2 => by
    rw [RT] at h
    obtain ⟨p, vs, fp, rfl, hc, hr, hn⟩ := h
    obtain ⟨p', vs', fp', z, hc', t', v', e1, e2, e3⟩ := e
    cases z
    obtain ⟨rfl, rfl⟩ := cell_one hc hc'
    obtain ⟨r1, r2⟩ := hr.get e1 e2
    have a' : t'.at js = some t0 := by
      rw [T.at, e1] at a
      exact a
    obtain ⟨s1, s2⟩ := RT.at r1 e3 a'
    obtain ⟨x1, x2⟩ := RT.putAt r1 e3 a' m n1 n2
    obtain ⟨y1, y2⟩ := hr.setAt e1 e2 (fun q hq => m q fun z => hq (s2 q z)) x1 x2
    have hc2 := cell_at (H' := H') hc fun q hq => by
      obtain ⟨u, hu, _⟩ := cell_kind hc q hq
      exact m q (fun z => hn q hq (r2 q (s2 q z))) (by rw [hu]; simp)
    rw [T.put, e1]
    constructor
    · rw [RT]
      refine ⟨_, _, _, rfl, hc2, y1, fun q hq z => ?_, hn.k.mono (Same.refl _) ?_⟩
      rotate_left
      · obtain ⟨u, hu, _⟩ := cell_kind hc p (cell_in hc)
        exact m p (fun z => hn p (cell_in hc) (r2 p (s2 p z))) (by rw [hu]; simp)
      rcases y2 q z with y | y
      · exact hn q hq y
      · obtain ⟨u, hu, _⟩ := cell_kind hc q hq
        rw [y] at hu
        cases hu
    · intro q hq
      rw [FT] at hq ⊢
      obtain ⟨p', vs'', fp'', z, hc3, hq⟩ := hq
      cases z
      obtain ⟨rfl, rfl⟩ := cell_one hc2 hc3
      rcases hq with hq | hq
      · exact .inl ⟨_, _, _, rfl, hc, .inl hq⟩
      · rcases y2 q hq with y | y
        · exact .inl ⟨_, _, _, rfl, hc, .inr y⟩
        · exact .inr y
end
def O.ofM (m : Bool) : T → O
  | .im d => .im d
  | .nd k ts => .tr m k ts
abbrev O.ofT : T → O := O.ofM false
section
variable {K : PySem.W.Frag} {B0 : Hp} {H0 : Org} {B H B' H' : Hp} {σ : L2.St} {δ : DS}
theorem SR.ofM {m : Bool} {t : T} {v : V} (h : RT K B H t v) (n : ∀ q, FT K H t v q → H0.h q = none ∧ B q = none) (s : m = true → H0.sf = some v) : SR K H0 B H v (O.ofM m t) := by
  cases t with
  | im d => rw [RT] at h; exact h
  | nd k ts => exact ⟨h, n, s⟩
theorem SR.ofT {t : T} {v : V} (h : RT K B H t v) (n : ∀ q, FT K H t v q → H0.h q = none ∧ B q = none) : SR K H0 B H v (O.ofT t) := SR.ofM h n (fun z => by cases z)
theorem Ft.ofM {m : Bool} {t : T} {v : V} {q : Addr} : Ft K H v q (O.ofM m t) ↔ FT K H t v q := by
  cases t with
  | im d => rw [FT]; exact Iff.rfl
  | nd k ts => exact Iff.rfl
theorem Ft.ofT {t : T} {v : V} {q : Addr} : Ft K H v q (O.ofT t) ↔ FT K H t v q := Ft.ofM
end
end DV
namespace DV
open PySem L2
section
variable {K : PySem.W.Frag} {B0 : Hp} {H0 : Org} {B H B' H' : Hp} {σ : L2.St} {δ : DS}
theorem RT.grow {t : T} {v : V} (h : RT K B H t v) (n : ∀ q, FT K H t v q → B q = none) (g : Grow K B H B' H') : RT K B' H' t v ∧ (∀ q, FT K H' t v q ↔ FT K H t v q) ∧ ∀ q, FT K H' t v q → B' q = none := by
  obtain ⟨a, b⟩ := RT.move (B' := B') (H' := H') t v h g.b fun q hq => by
    obtain ⟨u, hu, k⟩ := RT.kind t v h q hq
    rw [hu]
    exact g.h _ _ hu k.std
  refine ⟨a, b, fun q hq => ?_⟩
  have hq' := (b q).mp hq
  obtain ⟨u, hu, k⟩ := RT.kind t v h q hq'
  rw [g.f q (by rw [hu]; simp)]
  exact n q hq'
theorem RTA.grow {ts : List T} {vs : List V} (h : RTA K B H ts vs) (n : ∀ q, FTA K H ts vs q → B q = none) (g : Grow K B H B' H') : RTA K B' H' ts vs ∧ (∀ q, FTA K H' ts vs q ↔ FTA K H ts vs q) ∧ ∀ q, FTA K H' ts vs q → B' q = none := by
  obtain ⟨a, b⟩ := RTA.move (B' := B') (H' := H') ts vs h g.b fun q hq => by
    obtain ⟨u, hu, k⟩ := RTA.kind ts vs h q hq
    rw [hu]
    exact g.h _ _ hu k.std
  refine ⟨a, b, fun q hq => ?_⟩
  have hq' := (b q).mp hq
  obtain ⟨u, hu, k⟩ := RTA.kind ts vs h q hq'
  rw [g.f q (by rw [hu]; simp)]
  exact n q hq'
theorem FTA.snoc : ∀ {ts : List T} {vs : List V} {t : T} {v : V} (hl : vs.length = ts.length) (q : Addr), FTA K H (ts ++ [t]) (vs ++ [v]) q ↔ FTA K H ts vs q ∨ FT K H t v q
  | [], [], t, v, _, q => by rw [List.nil_append, List.nil_append, FTA, FTA, FTA]; simp
  | [], _ :: _, _, _, hl, _ => by simp at hl
  | _ :: _, [], _, _, hl, _ => by simp at hl
  | t0 :: ts, v0 :: vs, t, v, hl, q => by
    rw [List.cons_append, List.cons_append, FTA, FTA, FTA.snoc (by simpa using hl), or_assoc]
theorem RTA.snoc : ∀ {ts : List T} {vs : List V} {t : T} {v : V}, RTA K B H ts vs → RT K B H t v → (∀ q, FTA K H ts vs q → ¬ FT K H t v q) → RTA K B H (ts ++ [t]) (vs ++ [v])
  | [], [], t, v, _, h, _ => by rw [List.nil_append, List.nil_append, RTA]; exact ⟨h, by rw [RTA]; trivial, fun q _ z => by rw [FTA] at z; exact z⟩
  | [], _ :: _, _, _, h, _, _ => by rw [RTA] at h; exact h.elim
  | _ :: _, [], _, _, h, _, _ => by rw [RTA] at h; exact h.elim
  | t0 :: ts, v0 :: vs, t, v, h, h1, n => by
    rw [RTA] at h
    obtain ⟨a, b, c⟩ := h
    rw [List.cons_append, List.cons_append, RTA]
    refine ⟨a, RTA.snoc b h1 fun q hq => n q (by rw [FTA]; exact .inr hq), fun q hq z => ?_⟩
    rcases (FTA.snoc b.length q).mp z with z | z
    · exact c q hq z
    · exact n q (by rw [FTA]; exact .inl hq) z
theorem FTA.ims : ∀ (ds : List D) (vs : List V) (q : Addr), ¬ FTA K H (ds.map T.im) vs q
  | [], _, q, z => by rw [List.map_nil, FTA] at z; exact z
  | _ :: _, [], q, z => by rw [List.map_cons, FTA] at z; exact z
  | d :: ds, v :: vs, q, z => by
    rw [List.map_cons, FTA, FT] at z
    rcases z with z | z
    · exact z
    · exact FTA.ims ds vs q z
theorem RTA.ims : ∀ {ds : List D} {vs : List V}, RpA K B vs ds → RTA K B H (ds.map T.im) vs
  | _, _, .nil => by rw [List.map_nil, RTA]; trivial
  | _, _, .cons (d := d) (ds := ds) (vs := vs) h r => by
    rw [List.map_cons, RTA, RT]
    exact ⟨h, RTA.ims r, fun q z => by rw [FT] at z; exact z.elim⟩
theorem RT.lst {p : Addr} {vs : List V} {ds : List D} (h : H p = some (.lst vs)) (r : RpA K B vs ds) : RT K B H (.nd .ls (ds.map T.im)) (.ref p) := by
  rw [RT]
  exact ⟨p, vs, [p], rfl, ⟨h, rfl⟩, RTA.ims r, fun q _ z => FTA.ims ds vs q z, trivial⟩
theorem FT.lst {p : Addr} {ds : List D} {q : Addr} (z : FT K H (.nd .ls (ds.map T.im)) (.ref p) q) : q = p := by
  rw [FT] at z
  obtain ⟨p', vs, fp, e, hc, z⟩ := z
  cases e
  rcases z with z | z
  · rw [hc.2] at z
    exact List.mem_singleton.mp z
  · exact (FTA.ims ds vs q z).elim
end
section
variable (K : PySem.W.Frag)
def PostN (B H : Hp) (σ : L2.St) (W : WX) (Q : VK) : Res T → Prop
  | .ok t => ∀ v B' H', Grow K B H B' H' → RT K B' H' t v → (∀ q, FT K H' t v q → H q = none ∧ B' q = none) → Q v H'
  | .er x => ∀ c dx B' H', Grow K B H B' H' → RpX K B' c dx x → W c dx σ H'
  | .no => False
def PostNA (B H : Hp) (σ : L2.St) (W : WX) (Q : List V → Hp → Prop) : Res (List T) → Prop
  | .ok ts => ∀ vs B' H', Grow K B H B' H' → RTA K B' H' ts vs → (∀ q, FTA K H' ts vs q → H q = none ∧ B' q = none) → Q vs H'
  | .er x => ∀ c dx B' H', Grow K B H B' H' → RpX K B' c dx x → W c dx σ H'
  | .no => False
def SN (W : WX) (t : TE) (f : DS → Res T) : Prop := ∀ B0 H0 δ σ B H (Q : VK), Rel K B0 H0 B H σ δ → PostN K B H σ W Q (f δ) → t σ H Q
def SNA (W : WX) (t : TA) (f : DS → Res (List T)) : Prop := ∀ B0 H0 δ σ B H (Q : List V → Hp → Prop), Rel K B0 H0 B H σ δ → PostNA K B H σ W Q (f δ) → t σ H Q
end
structure CN (X : Cx) (W : WX) (e : Expr) (t : TE) (f : DS → Res T) : Prop where
  pe : PE X e t
  sn : SN X.K W t f
structure CNA (X : Cx) (W : WX) (es : List Expr) (t : TA) (f : DS → Res (List T)) : Prop where
  pa : PA X es t
  sa : SNA X.K W t f
  ln : ∀ δ ts, f δ = .ok ts → ts.length = es.length
section
variable {X : Cx} {W : WX} {K : PySem.W.Frag}
def cNim (f : DS → Res D) : DS → Res T := fun δ => (f δ).bind fun d => .ok (.im d)
def cNl (f : DS → Res (List D)) : DS → Res T := fun δ => (f δ).bind fun ds => .ok (.nd .ls (ds.map T.im))
def cNnil : DS → Res (List T) := fun _ => .ok []
def cNcons (f : DS → Res T) (g : DS → Res (List T)) : DS → Res (List T) := fun δ => (f δ).bind fun x => (g δ).bind fun xs => .ok (x :: xs)
def cNlst (f : DS → Res (List T)) : DS → Res T := fun δ => (f δ).bind fun ts => .ok (.nd .ls ts)
def cOwnN (i : Nat) (f : DS → Res T) : DS → Fl := fun δ => stE (f δ) δ fun t => .nx (δ.set i (some (O.ofT t)))
end
end DV
namespace DV
open PySem L2
def nodeAt (δ : DS) (i : Nat) (js : List Nat) : Option T := match δ[i]? with
  | some (some (.tr m k ts)) => (T.nd k ts).at js
  | _ => none
def putAt (δ : DS) (i : Nat) (js : List Nat) (t : T) : DS := match δ[i]? with
  | some (some (.tr m k ts)) => δ.set i (some (O.ofM m ((T.nd k ts).put js t)))
  | _ => δ
def AtP (K : PySem.W.Frag) (H : Hp) (σ : L2.St) (δ : DS) (i : Nat) (js : List Nat) (v : V) : Prop := ∀ m k ts v0, δ[i]? = some (some (.tr m k ts)) → σ[i]? = some (some v0) → ValAt K H (.nd k ts) v0 js v
section
variable (K : PySem.W.Frag)
def PostP (B H : Hp) (σ : L2.St) (δ : DS) (W : WX) (Q : VK) : Res (Nat × List Nat) → Prop
  | .ok p => ∀ v B' H', Grow K B H B' H' → AtP K H' σ δ p.1 p.2 v → Q v H'
  | .er x => ∀ c dx B' H', Grow K B H B' H' → RpX K B' c dx x → W c dx σ H'
  | .no => False
def SP (W : WX) (t : TE) (f : DS → Res (Nat × List Nat)) : Prop := ∀ B0 H0 δ σ B H (Q : VK), Rel K B0 H0 B H σ δ → PostP K B H σ δ W Q (f δ) → t σ H Q
end
structure CP (X : Cx) (W : WX) (e : Expr) (t : TE) (f : DS → Res (Nat × List Nat)) : Prop where
  pe : PE X e t
  sp : SP X.K W t f
section
variable {K : PySem.W.Frag} {B0 : Hp} {H0 : Org} {B H B' H' : Hp} {σ : L2.St} {δ : DS}
theorem ValAt.snoc : ∀ {js : List Nat} {t : T} {v u w : V} {k : NK} {ts : List T} {j : Nat} {p : Addr} {vs : List V} {fp : List Addr} {t' : T}, ValAt K H t v js u → t.at js = some (.nd k ts) → u = .ref p → cell K H p vs fp k → ts[j]? = some t' → vs[j]? = some w → ValAt K H t v (js ++ [j]) w
  | [], t, v, u, w, k, ts, j, p, vs, fp, t', h, a, hu, hc, e1, e2 => by
    rw [T.at] at a
    cases a
    have : u = v := h
    subst this
    exact ⟨p, vs, fp, hu, hc, t', w, e1, e2, by cases t' <;> rfl⟩
  | j0 :: js, .im d, v, u, w, k, ts, j, p, vs, fp, t', h, a, hu, hc, e1, e2 => h.elim
  | j0 :: js, .nd k0 ts0, v, u, w, k, ts, j, p, vs, fp, t', h, a, hu, hc, e1, e2 => by
    obtain ⟨p', vs', fp', z, hc', t1, v1, f1, f2, f3⟩ := h
    have a' : t1.at js = some (.nd k ts) := by
      rw [T.at, f1] at a
      exact a
    exact ⟨p', vs', fp', z, hc', t1, v1, f1, f2, ValAt.snoc f3 a' hu hc e1 e2⟩
theorem AtP.mono {i : Nat} {js : List Nat} {v : V} (r : Rel K B0 H0 B H σ δ) (g : Grow K B H B' H') (va : AtP K H σ δ i js v) : AtP K H' σ δ i js v := fun m k ts v0 e es => by
  obtain ⟨v1, h1, h2⟩ := r.sl i _ e
  rw [es] at h1
  cases h1
  refine ValAt.move h2.1 (fun q hq => ?_) (va m k ts v0 e es)
  obtain ⟨u, hu, kd⟩ := RT.kind _ _ h2.1 q hq
  rw [hu]
  exact g.h _ _ hu kd.std
end
section
variable {X : Cx} {W : WX} {K : PySem.W.Frag}
def cpVar (i : Nat) : DS → Res (Nat × List Nat) := fun δ => match δ[i]? with
  | some (some (.tr _ _ _)) => .ok (i, [])
  | _ => .no
def cpIx (fa : DS → Res (Nat × List Nat)) (fb : DS → Res D) : DS → Res (Nat × List Nat) := fun δ => (fa δ).bind fun p => (fb δ).bind fun y => match nodeAt δ p.1 p.2, y with
  | some (.nd .ls ts), .v (.int k) => match ixN ts.length k with
    | some j => .ok (p.1, p.2 ++ [j])
    | none => .no
  | some (.nd .tp ts), .v (.int k) => match ixN ts.length k with
    | some j => .ok (p.1, p.2 ++ [j])
    | none => .no
  | _, _ => .no
def cTapp (fp : DS → Res (Nat × List Nat)) (f : DS → Res D) : DS → Fl := fun δ => match fp δ with
  | .ok p => match nodeAt δ p.1 p.2 with
    | some (.nd .ls us) => stE (f δ) δ fun d => if us.length < sizeLine then .nx (putAt δ p.1 p.2 (.nd .ls (us ++ [.im d]))) else .no
    | _ => .no
  | _ => .no
def cTclr (fp : DS → Res (Nat × List Nat)) : DS → Fl := fun δ => match fp δ with
  | .ok p => match nodeAt δ p.1 p.2 with
    | some (.nd .ls _) => .nx (putAt δ p.1 p.2 (.nd .ls []))
    | _ => .no
  | _ => .no
end
end DV
namespace DV
open PySem L2
def posK (ks : List Key) (k : Key) : Option Nat := ks.findIdx? fun x => decide (x = k)
section
variable {K : PySem.W.Frag} {B0 : Hp} {H0 : Org} {B H B' H' : Hp} {σ : L2.St} {δ : DS}
theorem AtP.snoc {i : Nat} {js : List Nat} {v w : V} {k : NK} {ts : List T} {j : Nat} {p : Addr} {vs : List V} {fp : List Addr} {t' : T} (va : AtP K H σ δ i js v) (n : nodeAt δ i js = some (.nd k ts)) (hv : v = .ref p) (hc : cell K H p vs fp k) (e1 : ts[j]? = some t') (e2 : vs[j]? = some w) : AtP K H σ δ i (js ++ [j]) w := fun m0 k0 ts0 v0 e es => by
  have a : (T.nd k0 ts0).at js = some (.nd k ts) := by
    unfold nodeAt at n
    rw [e] at n
    exact n
  exact ValAt.snoc (va m0 k0 ts0 v0 e es) a hv hc e1 e2
end
section
variable {X : Cx} {W : WX} {K : PySem.W.Frag}
def cpIxD (fa : DS → Res (Nat × List Nat)) (fb : DS → Res D) : DS → Res (Nat × List Nat) := fun δ => (fa δ).bind fun p => (fb δ).bind fun y => match nodeAt δ p.1 p.2, asKey y with
  | some (.nd (.dc ks) _), some k => match posK ks k with
    | some j => .ok (p.1, p.2 ++ [j])
    | none => .no
  | _, _ => .no
def cAugL (fp : DS → Res (Nat × List Nat)) (fk : DS → Res D) (fv : DS → Res (List D)) : DS → Fl := fun δ => match fp δ with
  | .ok p => match nodeAt δ p.1 p.2 with
    | some (.nd (.dc ks) ts) => stE (fk δ) δ fun y => match asKey y with
      | some k => match posK ks k with
        | some j => match ts[j]? with
          | some (.nd .ls us) => stE (fv δ) δ fun ds => if ks.Nodup ∧ us.length + ds.length ≤ sizeLine ∧ ks.length < sizeLine then .nx (putAt δ p.1 (p.2 ++ [j]) (.nd .ls (us ++ ds.map T.im))) else .no
          | _ => .no
        | none => .no
      | none => .no
    | _ => .no
  | _ => .no
def flatA : List D → Bool
  | [] => true
  | .v _ :: ds => flatA ds
  | _ :: _ => false
def cLookF (i : Nat) (f : DS → Res (List D)) : DS → Res (List D) := fun δ => match f (fzq i δ) with
  | .ok ds => if flatA ds then .ok ds else .no
  | _ => .no
def cCat (f g : DS → Res D) : DS → Res (List D) := fun δ => (f δ).bind fun x => (g δ).bind fun y => match x, y with
  | .lst a, .lst b => if a.length + b.length ≤ sizeLine then .ok (a ++ b) else .no
  | _, _ => .no
end
end DV
namespace DV
open PySem L2
section
variable {X : Cx} {W : WX} {K : PySem.W.Frag}
def dcN (b : D → DS → Option DS) (t : DS → Res Bool) (ek : DS → Res D) (en : DS → Res T) : List D → DS → List Key → List T → Res T
  | [], _, ks, ts => .ok (.nd (.dc ks) ts)
  | d :: ds, δ, ks, ts => match b d δ with
    | none => .no
    | some δ' => (t δ').calm.bind fun c => if c = true then (ek δ').calm.bind fun y => (en δ').calm.bind fun z => match asKey y with
        | some k => if ks.length < sizeLine ∧ posK ks k = none then dcN b t ek en ds δ (ks ++ [k]) (ts ++ [z]) else .no
        | none => .no
      else dcN b t ek en ds δ ks ts
def cDcN (vs : List Nat) (fi : DS → Res (List D)) (b : D → DS → Option DS) (t : DS → Res Bool) (ek : DS → Res D) (en : DS → Res T) : DS → Res T := fun δ => (fi δ).bind fun ds => dcN b t ek en ds (wipeD δ vs) [] []
end
end DV
namespace DV
open PySem L2
section
variable {X : Cx} {W : WX} {K : PySem.W.Frag}
end
end DV
namespace DV
open PySem L2
section
variable {P : Program} {w : World} {A : Around} {E : Value → Shared → Prop} {s : Shared}
abbrev pushSet (w : World) (h : Heap) : Heap := h.push (freshSet w)
end
section
variable {X : Cx} {W : WX}
def rSetL (K : PySem.W.Frag) (w : World) : List V → Hp → VK → Prop := fun xs H Q => ∃ (p : Addr) (ns : List Int), xs = [.ref p] ∧ SqL K H p (ns.map V.int) ∧ ns.length < 400 ∧ ∀ q, H q = none → Q (.ref q) (upd H q (SetO w q (fun k => decide (k ∈ ns)) (setI ns).length))
def asIntsA : D → Res (List Int)
  | .lst ds => match intsD ds with
    | some ns => if ns.length < 64 then .ok ns else if ns.length < 400 ∧ (setI ns).length < 64 then .ok ns else .no
    | none => .no
  | .tup ds => match intsD ds with
    | some ns => if ns.length < 64 then .ok ns else .no
    | none => .no
  | _ => .no
end
end DV
namespace DV
open PySem L2
def lookOk (δ : DS) (i : Nat) : Bool := match δ[i]? with
  | some (some (.tr m k ts)) => (T.nd k ts).noTp
  | _ => true
def cLookG (i : Nat) (f : DS → Res (List D)) : DS → Res (List D) := fun δ => match f (fz i δ) with
  | .ok ds => if D.noLstA ds = true ∧ lookOk δ i = true then .ok ds else .no
  | _ => .no
section
variable {X : Cx} {W : WX} {K : PySem.W.Frag}
end
end DV
namespace DV
open PySem L2 PyProof.Rows PySem.W PySem.Calls PySem.SeqAt
section
variable {prog : Program} {w : World} {A : Around} {E : Value → Shared → Prop} {s : Shared}
theorem oneLt_tups {xs ys : List PyData} {a b : Value} {as bs : List Addr} {Q : Bool → Shared → Prop} (ra : Reads s.heap a (.tuple xs) as) (rb : Reads s.heap b (.tuple ys) bs) (hal : alikeAll xs ys = true)
    (hu : A.units + min (PyData.tuple xs).depth (PyData.tuple ys).depth < cLine) (hq : Q (dataLt (.tuple xs) (.tuple ys)) s) : wpAny (model prog w) A (oneLt' true a b) Q E s := by
  cases ra with
  | @tuple l o vs n _ as₁ h1 h2 h3 h4 =>
    cases rb with
    | @tuple l' o' vs' n' _ bs₁ k1 k2 k3 k4 =>
      have n1 : vs.size = xs.length := by simpa using ReadsAll.length _ _ _ h4
      have n2 : vs'.size = ys.length := by simpa using ReadsAll.length _ _ _ k4
      rw [dataLt_tuple, ← firstLt_toks xs ys hal, ← n1, ← n2] at hq
      rw [oneLt'_eq]
      simp only [if_true]
      refine wpAny_bind (wpAny_cRoomFor (room_here hu) (wpAny_bind (wpAny_callSpecialIfBound?_slot (T := "tuple") ⟨_, h1, h2⟩ PySem.F.slot_tuple_lt ?_)))
      obtain ⟨cls, dd, data, sl⟩ := o
      obtain ⟨cls2, dd2, data2, sl2⟩ := o'
      simp only at h2 h3 k2 k3
      subst h2 h3 k2 k3
      refine call_meets PySem.F.slot_tuple_lt ⟨_, h1, rfl⟩ PySem.F.entry_tuple_lt (PySem.F.args_tuple_lt_2 _ _) (tuple_ltAt l l' vs vs' n n' dd dd2 sl sl2 (pairEq xs ys) fun j => dataLt (xs.getD j .none) (ys.getD j .none)) ⟨h1, k1, fun j j1 j2 => ?_, fun j j1 j2 hj => ?_, ?_⟩
      · have := eqAt_alikeAll xs ys A.in1 s vs.toList vs'.toList _ _ h4 k4 hal (room_in hu) j (by simpa using j1) (by simpa using j2)
        simpa using this
      · have := rcLt_alikeAll xs ys A.in1 s vs.toList vs'.toList _ _ h4 k4 hal (room_in hu) j (by simpa using j1) (by simpa using j2) hj
        simpa using this
      · exact wpAny_truthy_bool hq
theorem firsts_tups {M : Model} : ∀ {vs : List Value} {ds : List PyData} {Q : List (Option Value) → Shared → Prop}, EachIs (fun v d => ∃ as, Reads s.heap v d as) vs ds → (∀ d ∈ ds, ∃ xs, d = .tuple xs) → (∀ os : List (Option Value), (ds.head? = some (.tuple []) → os.head? = some none) → Q os s) → wpAny M A (vs.mapM firstOfTuple') Q E s
  | _, _, Q, .nil, _, h => by
    rw [List.mapM_nil]
    exact wpAny_pure (h [] (by simp))
  | _, _, Q, .cons (a := v) (as := vs) (b := d) (bs := ds) ⟨as, r⟩ t, hd, h => by
    obtain ⟨xs, rfl⟩ := hd d (List.mem_cons_self ..)
    cases r with
    | @tuple a o us n _ _ ho hc hdt hr =>
      rw [List.mapM_cons]
      refine wpAny_bind ?_
      rw [kas_first_eq]
      refine wpAny_bind (Looks.here (show Looks M s.heap (typeOf (.ref a)) o.cls from (Looks.ld ho).andThen .now) ?_)
      rw [hc, if_neg (by first | decide | simp)]
      refine wpAny_bind (listItems_at ho hdt (wpAny_pure ?_))
      refine wpAny_bind (firsts_tups t (fun d hd' => hd d (List.mem_cons_of_mem _ hd')) fun os _ => wpAny_pure (h _ fun z => ?_))
      have e : xs = [] := by
        simp at z
        exact z
      subst e
      have hu : us.toList = [] := by
        cases q : us.toList with
        | nil => rfl
        | cons f fr => rw [q] at hr; cases hr
      rw [← Array.getElem?_toList, hu]
      rfl
theorem kind_tups {M : Model} {vs : List Value} {ds : List PyData} {Q : SortKind → Shared → Prop} (e : EachIs (fun v d => ∃ as, Reads s.heap v d as) vs ds) (hd : ∀ d ∈ ds, ∃ xs, d = .tuple xs) (h0 : ds.head? = some (.tuple [])) (h : Q oneType' s) : wpAny M A (keyKind' vs.toArray) Q E s := by
  have hT : ∀ v ∈ vs, Looks M s.heap (typeOf v) (.type "tuple") := fun v hv => by
    obtain ⟨d, hd', as, r⟩ := e.left v hv
    obtain ⟨xs, rfl⟩ := hd d hd'
    exact looks_reads r
  have hne : ∃ v vr, vs = v :: vr := by
    cases e with
    | nil => simp at h0
    | cons _ _ => exact ⟨_, _, rfl⟩
  obtain ⟨v, vr, rfl⟩ := hne
  rw [kat_kind_eq, List.mapM_toArray, map_eq_pure_bind]
  refine wpAny_bind (wpAny_bind (firsts_tups e hd fun os ho => wpAny_pure ?_))
  have ho := ho h0
  cases os with
  | nil => simp at ho
  | cons o os =>
    simp at ho
    subst ho
    rw [if_neg (by simp), if_neg (by simp), oneTypeOnly'_eq, List.mapM_toArray, map_eq_pure_bind]
    refine wpAny_bind (wpAny_bind (wpAny_bind (kas_mapM (r := .type "tuple") _ (fun v hv Q' hq => (hT v hv).here hq) (wpAny_pure ?_))))
    have hall : ((List.map (fun _ => Value.type "tuple") (v :: vr)).toArray.all fun x => x == Value.type "tuple") = true := by simp
    have hz : (List.map (fun _ => Value.type "tuple") (v :: vr)).toArray[0]? = some (.type "tuple") := by simp
    rw [hz]
    simp only [hall, if_true]
    exact wpAny_pure (wpAny_pure h)
theorem sorts_tups {vs : List Value} {ds : List PyData} (e : EachIs (fun v d => ∃ as, Reads s.heap v d as) vs ds) (hal : AllAlike ds) (hd : ∀ d ∈ ds, ∃ xs, d = .tuple xs) (h0 : ds.head? = some (.tuple [])) (hu : ∀ d, d ∈ ds → A.units + d.depth < cLine) : SortsAt prog w A s (dataKind s.heap ds) vs := by
  refine ⟨fun v hv => ?_, oneType', ?_, fun h2 E Q hq => kind_tups e hd h0 hq⟩
  · obtain ⟨d, hd', as, r⟩ := e.left v hv
    exact ⟨_, dataKind_some hal hd' r⟩
  · intro E x y a b Q ha hb hq
    obtain ⟨d, as, hd1, ra, rfl⟩ := dataKind_inv ha
    obtain ⟨d', as', hd2, rb, rfl⟩ := dataKind_inv hb
    have hdd := hal d hd1 d' hd2
    have hm : A.units + min d.depth d'.depth < cLine := Nat.lt_of_le_of_lt (Nat.add_le_add_left (Nat.min_le_left _ _) _) (hu d hd1)
    obtain ⟨x1, rfl⟩ := hd d hd1
    obtain ⟨x2, rfl⟩ := hd d' hd2
    rw [keyLt'_oneType]
    exact oneLt_tups ra rb (by simpa [alike] using hdd) hm hq
theorem sorted_tups {β : Type} {vs : List Value} {bs : List β} {enc : β → PyData} {R : Value → β → Prop} {l : Addr} {Q : Value → Shared → Prop} (hl : s.heap.IsList l vs.toArray) (e : EachIs R vs bs) (er : EachIs (fun v b => ∃ as, Reads s.heap v (enc b) as) vs bs) (hal : AllAlike (bs.map enc)) (hd : ∀ d ∈ bs.map enc, ∃ xs, d = .tuple xs) (h0 : (bs.map enc).head? = some (.tuple [])) (hL : bs.length ≤ sizeLine)
    (hu : ∀ b, b ∈ bs → A.units + 2 + (enc b).depth < cLine) (h : ∀ out, out.length = bs.length → EachIs R out (bs.mergeSort (dataLe false enc)) → Q (.ref (s.heap.objs.size + 1)) { s with heap := sortedAll s.heap vs (List.toArray out) }) :
    wpAny (model prog w) A (call (.builtin "sorted") [.ref l]) Q E s := by
  have e2 : EachIs (fun v b => ∃ as, Reads (sortingHeap (copyHeap s.heap vs) (s.heap.objs.size + 1) vs) v (enc b) as) vs bs := er.mono fun _ _ ⟨as, r⟩ => ⟨as, PyProof.Rows.Reads.keeps (fun _ _ => sorting_copy_old) r⟩
  have e3 := each_map (R := fun v d => ∃ as, Reads (sortingHeap (copyHeap s.heap vs) (s.heap.objs.size + 1) vs) v d as) enc e2
  refine sorted_vals hl (sorts_tups (s := { s with heap := sortingHeap (copyHeap s.heap vs) (s.heap.objs.size + 1) vs }) e3 hal hd h0 (bound_map hu)) (by rw [e.length]; exact hL) (h _ ?_ (sortVals_data false e e2 hal))
  rw [sortVals_length false rfl]
  exact e.length
end
section
variable {X : Cx} {W : WX}
def sortOkE (ps : List PyData) : Bool := (ps.all fun p => ps.all fun q => PySem.W.alike p q) && (ps.all fun p => match p with
  | .tuple _ => true
  | _ => false) && (match ps.head? with
  | some (.tuple []) => true
  | _ => false) && ps.all fun p => decide (p.depth ≤ 60)
def rSortE (K : PySem.W.Frag) : List V → Hp → VK → Prop := fun xs H Q => ∃ p ys ds B, xs = [.ref p] ∧ Same B H ∧ SqL K H p ys ∧ RpA K B ys ds ∧ (∃ ps, D.pyA ds = some ps ∧ sortOkE ps = true) ∧ ∀ q zs, H q = none → RpA K B zs (ds.mergeSort leD) → Q (.ref q) (upd H q (.lst zs))
theorem cr_sortE (hu : X.A.units + 64 < cLine) : CallR X (.builtin "sorted") (rSortE X.K) := by
  intro pins s σ H xs us Q I r h
  obtain ⟨p, ys, ds, B, rfl, i, hs, rp, ⟨ps, hps, hok⟩, q⟩ := h
  rw [Vals.ref1 r]
  obtain ⟨its, rv, hl, hz⟩ := I.list hs
  obtain ⟨rfl, hpy⟩ := pyA_map hps
  simp only [sortOkE, Bool.and_eq_true, List.all_eq_true, decide_eq_true_eq] at hok
  obtain ⟨⟨⟨h1, h2⟩, hh⟩, h3⟩ := hok
  have er : ∀ {ys : List V} {its : List Value} {ds : List D}, Vals ys its → RpA X.K B ys ds → (∀ d ∈ ds, d.py = some (encD d)) → PySem.W.EachIs (fun v d => ∃ as, Reads s.heap v (encD d) as) its ds ∧ PySem.W.EachIs (fun v d => ∃ x, RelV x v ∧ Rp X.K B x d) its ds := by
    intro ys
    induction ys with
    | nil => intro its ds rv rp _; cases rv; cases rp; exact ⟨.nil, .nil⟩
    | cons y ys ih =>
      intro its ds rv rp hp
      cases rv with
      | cons rv1 rv2 =>
        cases rp with
        | @cons _ _ d ds rp1 rp2 =>
          obtain ⟨a1, a2⟩ := ih rv2 rp2 fun d hd => hp d (by simp [hd])
          exact ⟨.cons (Dp.reads I _ _ _ (dp_mono i (dp_of rp1 (hp d (by simp)))) rv1) a1, .cons ⟨_, rv1, rp1⟩ a2⟩
  obtain ⟨e1, e2⟩ := er rv rp hpy
  have hlen : ds.length ≤ sizeLine := by rw [← rp.length]; exact hz
  refine sorted_tups (bs := ds) (enc := encD) (R := fun v d => ∃ x, RelV x v ∧ Rp X.K B x d) hl.isList e2 e1 (fun d hd d' hd' => h1 d hd d' hd') (fun d hd => ?_) ?_ hlen (fun d hd => ?_) fun out ho hout => ?_
  · have := h2 d hd
    split at this
    · exact ⟨_, rfl⟩
    · cases this
  · split at hh
    · assumption
    · cases hh
  · have := h3 (encD d) (List.mem_map.mpr ⟨d, hd, rfl⟩)
    omega
  · have back : ∀ {out : List Value} {ds : List D}, PySem.W.EachIs (fun v d => ∃ x, RelV x v ∧ Rp X.K B x d) out ds → ∃ zs, Vals zs out ∧ RpA X.K B zs ds := by
      intro out
      induction out with
      | nil => intro ds h; cases h; exact ⟨[], .nil, .nil⟩
      | cons v out ih =>
        intro ds h
        cases h with
        | cons a b =>
          obtain ⟨x, x1, x2⟩ := a
          obtain ⟨zs, z1, z2⟩ := ih b
          exact ⟨x :: zs, .cons x1 z1, .cons x2 z2⟩
    obtain ⟨zs, z1, z2⟩ := back hout
    obtain ⟨ep, he'⟩ := PyProof.Rows.sortedAll_at s.heap its (List.toArray out)
    have hzl : zs.length ≤ sizeLine := by rw [z1.length, ho]; exact hlen
    exact ⟨.ref _, upd H (s.heap.objs.size + 1) (.lst zs), I.laid (t' := s.toks) (fun _ _ => PyProof.Rows.sortedAll_old) (Nat.le_succ _) ⟨hzl, out, ep, z1, he'⟩, rfl, q _ zs (I.hok.fresh (Nat.le_succ _)) z2⟩
def srtA (ds : List D) : Res (List D) := match intsD ds with
  | some ns => .ok ((sortI ns).map D.int)
  | none => match D.pyA ds with
    | some ps => if sortOk ps = true ∨ sortOkE ps = true then .ok (ds.mergeSort leD) else .no
    | none => .no
def cSrtA (f : DS → Res D) : DS → Res (List D) := fun δ => (f δ).bind fun d => (asL d).bind srtA
theorem cf_sortedA (K : PySem.W.Frag) (hK : X.K = K) (hu : X.A.units + 64 < cLine) {a : Expr} {p pos : Pos} {t : TE} {f : DS → Res D} (hm : X.mg "sorted" = none) (ha : CE X W a t f) (hg : Gl X "sorted" := by rfl) (hs : starEach [a] X.env = (false, eval a X.env) :: starEach [] X.env := by rfl) (hpl : (backTo pos (starEach [] X.env)).any (·.1) = false := by rfl) :
    CF X W (.Call (.Name "sorted" p) [a] [] pos) (tCB (fun xs H Q => rSortedI K xs H Q ∨ rSortD K xs H Q ∨ rSortE K xs H Q) (tCons t tNil)) (cSrtA f) := by
  subst hK
  refine ⟨pe_callB (CallR.or cr_sortedI (CallR.or (cr_sortD hu) (cr_sortE hu))) hg hm (by decide +kernel) (pa_cons ha.pe pa_nil hs) (by decide) (by decide) hs hpl, fun B0 H0 δ σ B H Q rel hp => ?_⟩
  unfold cSrtA at hp
  refine ha.se B0 H0 δ σ B H _ rel ?_
  cases e : f δ with
  | no => rw [e] at hp; exact hp
  | er x => rw [e] at hp; exact hp
  | ok d =>
    rw [e, Res.bind_ok] at hp
    intro v B1 H1 g1 r1
    unfold asL at hp
    split at hp
    case h_2 => exact hp.elim
    case h_1 ds =>
    rw [Res.bind_ok] at hp
    unfold srtA at hp
    cases r1 with
    | lst h1 q =>
      split at hp
      · rename_i ns e2
        rw [intsD_of e2] at q
        have e3 := q.ints_of
        subst e3
        refine .inl ⟨_, ns, rfl, g1.i.seq h1, fun ns' z k1 k2 k3 => ?_⟩
        rw [sortI_unique k1 k2]
        exact hp z _ B1 _ (g1.trans (Grow.raw g1.i k3)) (g1.free k3) (g1.i.free k3) upd_same (RpA.ints _)
      · split at hp
        · rename_i ps e3
          split at hp
          · rename_i hok
            rcases hok with hok | hok
            · exact .inr (.inl ⟨_, _, _, B1, rfl, g1.i, g1.i.seq h1, q, ⟨ps, e3, hok⟩, fun z zs k1 k2 => hp z _ B1 _ (g1.trans (Grow.raw g1.i k1)) (g1.free k1) (g1.i.free k1) upd_same k2⟩)
            · exact .inr (.inr ⟨_, _, _, B1, rfl, g1.i, g1.i.seq h1, q, ⟨ps, e3, hok⟩, fun z zs k1 k2 => hp z _ B1 _ (g1.trans (Grow.raw g1.i k1)) (g1.free k1) (g1.i.free k1) upd_same k2⟩)
          · exact hp.elim
        · exact hp.elim
end
end DV
namespace DV
open PySem L2 PyProof.Rows
mutual
def KeyAt (K : PySem.W.Frag) (H : Hp) : NestedKey → V → Prop
  | .num i, v => v = .int i
  | .tup ks, v => ∃ a xs, v = .ref a ∧ SqT K H a xs ∧ KeyAts K H ks xs
  | .none, _ => False
  | .text _, _ => False
def KeyAts (K : PySem.W.Frag) (H : Hp) : List NestedKey → List V → Prop
  | [], vs => vs = []
  | k :: ks, vs => ∃ v vs', vs = v :: vs' ∧ KeyAt K H k v ∧ KeyAts K H ks vs'
end
section
variable {K : PySem.W.Frag} {B H H' : Hp}
mutual
theorem keyAt_of (i : Same B H) : ∀ (k : NestedKey) (v : V), nkInt k = true → Rp K B v (nkD k) → KeyAt K H k v
  | .num n, v, _, r => by rw [nkD] at r; rw [KeyAt]; cases r; rfl
  | .none, v, h, _ => by simp [nkInt] at h
  | .text _, v, h, _ => by simp [nkInt] at h
  | .tup ks, v, h, r => by
    rw [nkD] at r
    rw [KeyAt]
    cases r with
    | tup hs q => exact ⟨_, _, rfl, sqT_mono i hs, keyAts_of i ks _ (by simpa [nkInt] using h) q⟩
theorem keyAts_of (i : Same B H) : ∀ (ks : List NestedKey) (vs : List V), nkInts ks = true → RpA K B vs (nkDs ks) → KeyAts K H ks vs
  | [], vs, _, r => by rw [nkDs] at r; rw [KeyAts]; cases r; rfl
  | k :: ks, vs, h, r => by
    rw [nkInts, Bool.and_eq_true] at h
    rw [nkDs] at r
    rw [KeyAts]
    cases r with
    | cons r1 r2 => exact ⟨_, _, rfl, keyAt_of i k _ h.1 r1, keyAts_of i ks _ h.2 r2⟩
end
end
theorem nkOk_int {k : NestedKey} (h : nkOk k = true) : nkInt k = true := by
  cases k with
  | tup ks => rw [nkOk, Bool.and_eq_true] at h; rw [nkInt]; exact h.1
  | _ => cases h
theorem nkOk_depth {k : NestedKey} (h : nkOk k = true) : k.depth ≤ 8 := by
  cases k with
  | tup ks => rw [nkOk, Bool.and_eq_true] at h; exact of_decide_eq_true h.2
  | _ => cases h
theorem nkInts_all : ∀ {ks : List NestedKey}, (∀ k ∈ ks, nkOk k = true) → nkInts ks = true
  | [], _ => by rw [nkInts]
  | k :: ks, h => by rw [nkInts, nkOk_int (h k (by simp)), nkInts_all fun x hx => h x (by simp [hx])]; rfl
section
variable {X : Cx} {pins : List (Addr × Obj)} {σ : L2.St} {H : Hp} {s : Shared}
mutual
theorem nested_of (I : Inv X pins σ H s) : ∀ (k : NestedKey) (v : V) (u : Value), KeyAt X.K H k v → RelV v u → NestedIs s.heap k u
  | .num n, v, u, h, r => by
    rw [KeyAt] at h
    subst h
    obtain ⟨t, rfl⟩ := (show ∃ t, u = Value.int n t from r)
    exact .int _ _
  | .none, v, u, h, _ => by rw [KeyAt] at h; exact h.elim
  | .text _, v, u, h, _ => by rw [KeyAt] at h; exact h.elim
  | .tup ks, v, u, h, r => by
    rw [KeyAt] at h
    obtain ⟨a, xs, rfl, hs, hk⟩ := h
    cases (show u = Value.ref a from r)
    obtain ⟨its, rv, ⟨o, h1, h2, n, h3⟩, _⟩ := I.tuple hs
    exact .tup h1 h2 h3 (by simpa using nested_all I ks xs its hk rv)
theorem nested_all (I : Inv X pins σ H s) : ∀ (ks : List NestedKey) (vs : List V) (us : List Value), KeyAts X.K H ks vs → Vals vs us → NestedAll s.heap ks us
  | [], vs, us, h, r => by rw [KeyAts] at h; subst h; cases r; exact .nil
  | k :: ks, vs, us, h, r => by
    rw [KeyAts] at h
    obtain ⟨v, vs', rfl, h1, h2⟩ := h
    cases r with
    | cons r1 r2 => exact .cons (nested_of I k _ _ h1 r1) (nested_all I ks _ _ h2 r2)
end
end
section
variable {α β : Type}
def atK (k : NestedKey) : List NestedKey → List α → Option α
  | k' :: ks, x :: xs => if k' = k then some x else atK k ks xs
  | _, _ => none
def repK (k : NestedKey) (f : α → α) : List NestedKey → List α → List α
  | k' :: ks, x :: xs => (if k' = k then f x else x) :: repK k f ks xs
  | _, xs => xs
def delK (k : NestedKey) : List NestedKey → List α → List α
  | k' :: ks, x :: xs => if k' = k then delK k ks xs else x :: delK k ks xs
  | _, xs => xs
theorem atK_none (k : NestedKey) : ∀ (ks : List NestedKey) (xs : List α), k ∉ ks → atK k ks xs = none
  | [], xs, _ => by cases xs <;> rfl
  | _ :: _, [], _ => rfl
  | k' :: ks, x :: xs, h => by
    rw [atK, if_neg fun z => h (by simp [z]), atK_none k ks xs fun z => h (by simp [z])]
theorem atK_some (k : NestedKey) : ∀ (ks : List NestedKey) (xs : List α), k ∈ ks → ks.length = xs.length → ∃ x, atK k ks xs = some x
  | [], _, h, _ => by cases h
  | k' :: ks, [], _, hl => by simp at hl
  | k' :: ks, x :: xs, h, hl => by
    rw [atK]
    by_cases e : k' = k
    · exact ⟨x, if_pos e⟩
    · rw [if_neg e]
      exact atK_some k ks xs (by rcases List.mem_cons.mp h with z | z; exact absurd z.symm e; exact z) (by simpa using hl)
theorem repK_keep (k : NestedKey) (f : α → α) (g : α → β) (h : ∀ a, g (f a) = g a) : ∀ (ks : List NestedKey) (xs : List α), (repK k f ks xs).map g = xs.map g
  | [], xs => by cases xs <;> rfl
  | _ :: _, [] => rfl
  | k' :: ks, x :: xs => by
    rw [repK, List.map_cons, List.map_cons, repK_keep k f g h ks xs]
    split
    · rw [h]
    · rfl
end
structure DxAt (K : PySem.W.Frag) (H : Hp) (a : Addr) (ks : List NestedKey) (us : List (Int × Addr × V)) : Prop where
  at_ : ∃ o, H a = some (Dx a o us) ∧ DxO a o us
  hs : us.map (·.1) = ks.map nkHash
  nd : ks.Nodup
  ok : ∀ k ∈ ks, nkOk k = true
  ky : KeyAts K H ks (us.map fun u => .ref u.2.1)
theorem DxAt.len {K : PySem.W.Frag} {H : Hp} {a : Addr} {ks : List NestedKey} {us : List (Int × Addr × V)} (h : DxAt K H a ks us) : ks.length = us.length := by
  have := congrArg List.length h.hs
  simpa using this.symm
abbrev PX : (Int × Addr × V) → (NestedKey × Addr × Value) → Prop := fun u x => u.1 = nkHash x.1 ∧ u.2.1 = x.2.1 ∧ RelV u.2.2 x.2.2
section
variable {X : Cx} {pins : List (Addr × Obj)} {σ : L2.St} {H : Hp} {s : Shared} {a : Addr} {ks : List NestedKey} {us : List (Int × Addr × V)}
theorem dict_zip (I : Inv X pins σ H s) : ∀ {us : List (Int × Addr × V)} {es : List DictEntry} {ks : List NestedKey}, Paired (fun (u : Int × Addr × V) (e : DictEntry) => e.hash = u.1 ∧ e.key = .ref u.2.1 ∧ RelV u.2.2 e.val) us es → us.map (·.1) = ks.map nkHash → (∀ k ∈ ks, nkOk k = true) →
    KeyAts X.K H ks (us.map fun u => .ref u.2.1) → ∃ xs : List (NestedKey × Addr × Value), es = xs.map (entryOfKey (nestedKind X.prog X.w)) ∧ xs.map (·.1) = ks ∧ Paired PX us xs ∧ ∀ x ∈ xs, (nestedKind X.prog X.w).is s.heap x.1 x.2.1
  | _, _, [], .nil, _, _, _ => ⟨[], rfl, rfl, .nil, fun x hx => nomatch hx⟩
  | _, _, _ :: _, .nil, h, _, _ => by simp at h
  | _, _, [], .cons _ _, h, _, _ => by simp at h
  | _, _, k :: ks, .cons (a := u) (b := e) (l₁ := us) (l₂ := es) h t, hh, ok, ky => by
    rw [List.map_cons, KeyAts] at ky
    obtain ⟨v, vs', hv, k1, k2⟩ := ky
    cases hv
    rw [List.map_cons, List.map_cons] at hh
    injection hh with hh1 hh2
    obtain ⟨xs, e1, e2, e3, e4⟩ := dict_zip I (ks := ks) t hh2 (fun x hx => ok x (by simp [hx])) k2
    have hk := ok k (by simp)
    refine ⟨(k, u.2.1, e.val) :: xs, ?_, by rw [List.map_cons, e2], .cons ⟨hh1, rfl, h.2.2⟩ e3, fun x hx => ?_⟩
    · rw [List.map_cons, ← e1]
      congr 1
      obtain ⟨eh, ek, ev⟩ := e
      obtain ⟨q1, q2, q3⟩ := h
      unfold entryOfKey
      simp only at q1 q2 ⊢
      rw [q1, q2, hh1, ← nkHash_eq X.w k (nkOk_int hk)]
      rfl
    · rcases List.mem_cons.mp hx with rfl | hx
      · exact ⟨nested_of I k _ _ k1 rfl, nkOk_depth hk⟩
      · exact e4 x hx
theorem DxAt.dict (I : Inv X pins σ H s) (h : DxAt X.K H a ks us) : ∃ xs : List (NestedKey × Addr × Value), s.heap.DictOfH (nestedKind X.prog X.w) a xs ∧ xs.map (·.1) = ks ∧ Paired PX us xs ∧ xs.length ≤ sizeLine ∧ (a == sysModules) = false := by
  obtain ⟨o, e, d⟩ := h.at_
  obtain ⟨⟨h1, _⟩, _, _⟩ := (show ObjOk X.prog X.w H s.heap a (Dx a o us) from I.hok a _ e)
  obtain ⟨hz, hm, hx, es, ep, hd, r⟩ := d
  obtain ⟨xs, e1, e2, e3, e4⟩ := dict_zip I r h.hs h.ok h.ky
  exact ⟨xs, ⟨o, es, ep, h1, hx, hd, e1, e4, by rw [e2]; exact h.nd⟩, e2, e3, by rw [← Paired.length e3]; exact hz, hm⟩
theorem dx_ok {P : Program} {w : World} {H' : Hp} {h' : Heap} {o : Obj} {us : List (Int × Addr × V)} (h1 : h'.get? a = some o) (d : DxO a o us) : ObjOk P w H' h' a (Dx a o us) :=
  ⟨⟨h1, d⟩, ⟨o, h1⟩, fun h1 h2 q k => ⟨k _ q.1, q.2⟩⟩
end
end DV
namespace DV
open PySem L2 PyProof.Rows
section
variable {X : Cx} {pins : List (Addr × Obj)} {σ : L2.St} {H : Hp} {s : Shared} {a : Addr} {ks : List NestedKey} {us : List (Int × Addr × V)} {k : NestedKey} {y v : V} {u r : Value} {A : Around} {E : Value → Shared → Prop}
def putU (ks : List NestedKey) (us : List (Int × Addr × V)) (k : NestedKey) (b : Addr) (v : V) : List (Int × Addr × V) :=
  if (atK k ks us).isSome = true then repK k (fun u => (u.1, u.2.1, v)) ks us else us ++ [(nkHash k, b, v)]
end
def tXGet (K : PySem.W.Frag) (td ty : TE) : TE := fun σ H Q => td σ H fun x H1 => ty σ H1 fun y H2 => ∃ a ks us k z, x = .ref a ∧ DxAt K H2 a ks us ∧ nkOk k = true ∧ KeyAt K H2 k y ∧ atK k ks us = some z ∧ Q z.2.2 H2
def rXIn (K : PySem.W.Frag) (neg : Bool) : R2 := fun y x H Q => ∃ a ks us k, x = .ref a ∧ DxAt K H a ks us ∧ nkOk k = true ∧ KeyAt K H k y ∧ Q (.bl ((atK k ks us).isSome != neg)) H
def IsX (H : Hp) (a : Addr) : Prop := ∃ o us, H a = some (Dx a o us) ∧ DxO a o us
def tXGet2 (K : PySem.W.Frag) (td ty tx : TE) : TE := fun σ H Q => td σ H fun x H1 => ∃ a, x = .ref a ∧ IsX H1 a ∧ ty σ H1 fun y H2 => tx σ H2 fun z H3 => ∃ ks us k, DxAt K H3 a ks us ∧ nkOk k = true ∧ KeyAt K H3 k y ∧ Q (((atK k ks us).map (·.2.2)).getD z) H3
def sXPut (K : PySem.W.Frag) (td ty tv : TE) : TS := fun D σ H => tv σ H fun v H1 => td σ H1 fun x H2 => ty σ H2 fun y H3 => ∃ a ks us k b, x = .ref a ∧ y = .ref b ∧ DxAt K H3 a ks us ∧ nkOk k = true ∧ KeyAt K H3 k y ∧ us.length < sizeLine ∧ ∀ o', DxO a o' (putU ks us k b v) → D.nx σ (upd H3 a (Dx a o' (putU ks us k b v)))
def tXPop (K : PySem.W.Frag) (td ty : TE) : TE := fun σ H Q => td σ H fun x H1 => ∃ a, x = .ref a ∧ IsX H1 a ∧ ty σ H1 fun y H2 => ∃ ks us k b z, y = .ref b ∧ DxAt K H2 a ks us ∧ nkOk k = true ∧ KeyAt K H2 k y ∧ atK k ks us = some z ∧ ∀ o', DxO a o' (delK k ks us) → Q z.2.2 (upd H2 a (Dx a o' (delK k ks us)))
def sXAug (K : PySem.W.Frag) (td ty tv : TE) (rd : V → V → Hp → VK → Prop) : TS := fun D σ H => td σ H fun x H1 => ty σ H1 fun y H2 => ∃ a ks us k b z, x = .ref a ∧ y = .ref b ∧ DxAt K H2 a ks us ∧ nkOk k = true ∧ KeyAt K H2 k y ∧ atK k ks us = some z ∧
  tv σ H2 fun w H3 => rd z.2.2 w H3 fun v H4 => ∃ ks us k, DxAt K H4 a ks us ∧ nkOk k = true ∧ KeyAt K H4 k y ∧ us.length < sizeLine ∧ ∀ o', DxO a o' (putU ks us k b v) → D.nx σ (upd H4 a (Dx a o' (putU ks us k b v)))
section
variable {X : Cx} {pins : List (Addr × Obj)} {σ : L2.St} {H : Hp} {s : Shared} {a : Addr}
end
section
variable {X : Cx} {o i e f value : Expr} {pos pos' tpos apos cpos : Pos} {td ty tx tv : TE}
end
def tXNew : TE := fun _ H Q => ∀ p o, H p = none → DxO p o [] → Q (.ref p) (upd H p (Dx p o []))
def ItX (d : Addr) (o : Obj) (us : List (Int × Addr × V)) : It :=
  ⟨fun i H => H d = some (Dx d o us) ∧ i < us.length, fun i H x H' => H' = H ∧ ∃ u, us[i]? = some u ∧ x = .ref u.2.1, fun i H => H d = some (Dx d o us) ∧ us.length ≤ i⟩
section
variable {P : Program} {w : World} {K : PySem.W.Frag} {tg : Expr} {d : Addr} {o : Obj} {es : Array DictEntry} {ep : Nat}
end
def iXKeys (td : TE) : TI := fun σ H R => td σ H fun x H1 => ∃ d o us, x = .ref d ∧ H1 d = some (Dx d o us) ∧ DxO d o us ∧ R (ItX d o us) H1
end DV
namespace DV
open PySem L2
def keyD (d : D) : Option NestedKey := match dNk d with
  | some k => if nkOk k = true then some k else none
  | none => none
section
variable {K : PySem.W.Frag} {B H : Hp}
end
section
variable {X : Cx} {W : WX} {K : PySem.W.Frag}
def oIxX (d e : D) : Res D := match d, keyD e with
  | .dtt ks vs, some k => match atK k ks vs with
    | some z => .ok z
    | none => .no
  | _, _ => .no
def oInX (neg : Bool) (d e : D) : Res D := match keyD d, e with
  | some k, .dtt ks vs => .ok (.bl ((atK k ks vs).isSome != neg))
  | _, _ => .no
def oGetX (d e f : D) : Res D := match d, keyD e with
  | .dtt ks vs, some k => .ok ((atK k ks vs).getD f)
  | _, _ => .no
def cGetX (fa fb fc : DS → Res D) : DS → Res D := fun δ => (fa δ).bind fun x => match x with
  | .dtt _ _ => (fb δ).bind fun y => (fc δ).bind fun z => oGetX x y z
  | _ => .no
def itemsX : D → Res (List D)
  | .dtt ks _ => .ok (nkDs ks)
  | _ => .no
def cKeysX (f : DS → Res D) : DS → Res (List D) := fun δ => (f δ).bind itemsX
def gListX : List D → Res D
  | [.dtt ks _] => .ok (.lst (nkDs ks))
  | _ => .no
def cListX (f : DS → Res D) : DS → Res (List D) := fun δ => (f δ).bind fun d => match d with
  | .dtt ks _ => .ok (nkDs ks)
  | _ => .no
end
end DV
namespace DV
open PySem L2
mutual
def D.pl : D → Bool
  | .v _ => true
  | .lst xs => D.plA xs
  | .tup xs => D.plA xs
  | .dct _ _ => false
  | .dlk _ _ => false
  | .ins _ _ _ => false
  | .dtt _ _ => false
  | .ptp _ => false
  | .wor _ _ => false
def D.plA : List D → Bool
  | [] => true
  | d :: ds => d.pl && D.plA ds
end
def NK.noSq : NK → Bool
  | .ls => false
  | .tp => false
  | _ => true
mutual
def T.noSq : T → Bool
  | .im _ => true
  | .nd k ts => k.noSq && T.noSqA ts
def T.noSqA : List T → Bool
  | [] => true
  | t :: ts => t.noSq && T.noSqA ts
end
def SK : HO → Prop
  | .lst _ => True
  | .tup _ => True
  | .frz _ (.ins _ _ _) => False
  | .frz _ _ => True
  | .xd _ => True
  | _ => False
def Exn.pl (x : Exn) : Bool := D.plA (x.fs.map (·.2))
section
variable {K : PySem.W.Frag} {B B' H : Hp}
theorem cell_noSq {k : NK} {p : Addr} {vs : List V} {fp : List Addr} (h : cell K H p vs fp k) (hk : k.noSq = true) : ∀ q ∈ fp, ∃ u, H q = some u ∧ ¬ SK u := by
  cases k with
  | ls => cases hk
  | tp => cases hk
  | dc ks => obtain ⟨us, h, _, _, rfl⟩ := h; intro q hq; rw [List.mem_singleton.mp hq]; exact ⟨_, h, fun z => z⟩
  | dt ks => obtain ⟨o, us, h, _, _, rfl⟩ := h; intro q hq; rw [List.mem_singleton.mp hq]; exact ⟨_, h, fun z => z⟩
  | ob c ns =>
    obtain ⟨C, dx, fs, h1, h2, _, _, _, rfl⟩ := h
    intro q hq
    rcases List.mem_cons.mp hq with rfl | hq
    · exact ⟨_, h1, fun z => z⟩
    · rw [List.mem_singleton.mp hq]; exact ⟨_, h2, fun z => z⟩
mutual
theorem RT.noSq : ∀ (t : T) (v : V), RT K B H t v → t.noSq = true → ∀ q, FT K H t v q → ∃ u, H q = some u ∧ ¬ SK u
  | .im d, v, _, _, q, h => by rw [FT] at h; exact h.elim
  | .nd k ts, v, h, hn, q, hq => by
    rw [RT] at h
    obtain ⟨p, vs, fp, rfl, hc, hr, _⟩ := h
    rw [T.noSq, Bool.and_eq_true] at hn
    rw [FT] at hq
    obtain ⟨p', vs', fp', z, hc2, hq⟩ := hq
    cases z
    obtain ⟨rfl, rfl⟩ := cell_one hc hc2
    rcases hq with hq | hq
    · exact cell_noSq hc hn.1 q hq
    · exact RTA.noSq ts _ hr hn.2 q hq
theorem RTA.noSq : ∀ (ts : List T) (vs : List V), RTA K B H ts vs → T.noSqA ts = true → ∀ q, FTA K H ts vs q → ∃ u, H q = some u ∧ ¬ SK u
  | [], _, _, _, q, h => by rw [FTA] at h; exact h.elim
  | _ :: _, [], h, _, _, _ => by rw [RTA] at h; exact h.elim
  | t :: ts, v :: vs, h, hn, q, hq => by
    rw [RTA] at h
    rw [T.noSqA, Bool.and_eq_true] at hn
    rw [FTA] at hq
    rcases hq with hq | hq
    · exact RT.noSq t v h.1 hn.1 q hq
    · exact RTA.noSq ts vs h.2.1 hn.2 q hq
end
mutual
theorem Rp.plain (e : ∀ a u, SK u → B a = some u → B' a = some u) : ∀ {v : V} {d : D}, Rp K B v d → d.pl = true → Rp K B' v d
  | _, _, .v x, _ => .v x
  | _, _, .lst h r, hd => by
    rw [D.pl] at hd
    refine .lst ?_ (RpA.plain e r hd)
    rcases h with (h | ⟨o, h⟩) | h
    · exact .inl (.inl (e _ _ trivial h))
    · exact .inl (.inr ⟨o, e _ _ trivial h⟩)
    · exact .inr h
  | _, _, .tup h r, hd => by
    rw [D.pl] at hd
    refine .tup ?_ (RpA.plain e r hd)
    rcases h with (h | ⟨o, h⟩) | h
    · exact .inl (.inl (e _ _ trivial h))
    · exact .inl (.inr ⟨o, e _ _ trivial h⟩)
    · exact .inr h
  | _, _, .dct _ _, hd => by rw [D.pl] at hd; cases hd
  | _, _, .dcT _ _ _ _ _ _ _, hd => by rw [D.pl] at hd; cases hd
  | _, _, .ins _ _ _ _, hd => by rw [D.pl] at hd; cases hd
  | _, _, .ptp _ _, hd => by rw [D.pl] at hd; cases hd
  | _, _, .wor _ _ _ _, hd => by rw [D.pl] at hd; cases hd
  | _, _, .dlk _ _, hd => by rw [D.pl] at hd; cases hd
theorem RpA.plain (e : ∀ a u, SK u → B a = some u → B' a = some u) : ∀ {vs : List V} {ds : List D}, RpA K B vs ds → D.plA ds = true → RpA K B' vs ds
  | _, _, .nil, _ => .nil
  | _, _, .cons h r, hd => by
    rw [D.plA, Bool.and_eq_true] at hd
    exact .cons (Rp.plain e h hd.1) (RpA.plain e r hd.2)
end
theorem RpX.plain {c : Value} {dx : Option Addr} {x : Exn} (e : ∀ a u, SK u → B a = some u → B' a = some u) (h : RpX K B c dx x) (hx : x.pl = true) : RpX K B' c dx x := by
  obtain ⟨h1, d, us, h2, h3, h4, h5⟩ := h
  exact ⟨h1, d, us, h2, e _ _ trivial h3, h4, RpA.plain e h5 hx⟩
end
def obOk (δ : DS) (i : Nat) : Bool := match δ[i]? with
  | some (some (.tr _ k ts)) => (T.nd k ts).noSq
  | some (some (.im _)) => true
  | _ => false
def lend (i : Nat) (f : DS → Res D) : DS → Res D := fun δ => if obOk δ i = true then match f (fz i δ) with
  | .ok d => if d.pl = true then .ok d else .no
  | .er x => if x.pl = true then .er x else .no
  | .no => .no else .no
def lendT (i : Nat) (f : DS → Res Bool) : DS → Res Bool := fun δ => if obOk δ i = true then match f (fz i δ) with
  | .ok b => .ok b
  | .er x => if x.pl = true then .er x else .no
  | .no => .no else .no
section
variable {X : Cx} {W : WX} {K : PySem.W.Frag}
theorem TK.sk {u : HO} (h : TK u) : SK u := by
  rcases h with ⟨_, rfl⟩ | ⟨_, _, rfl⟩ <;> trivial
theorem SK.noW {u : HO} (h : SK u) : ∀ b C dx fs, u ≠ .frz b (.ins C dx fs) := fun b C dx fs z => by
  subst z
  exact h
theorem Rel.lend {B0 : Hp} {H0 : Org} {B H : Hp} {σ : L2.St} {δ : DS} (r : Rel K B0 H0 B H σ δ) (i : Nat) (hk : obOk δ i = true) : ∃ B', Same B B' ∧ Rel K B0 H0 B' H σ (DV.fz i δ) ∧ ∀ a u, B' a = some u → B a = some u ∨ (H a = some u ∧ Kind u ∧ ¬ SK u) := by
  unfold DV.fz obOk at *
  split
  · rename_i ds e
    rw [e] at hk
    cases hk
  · rename_i m k ts e
    rw [e] at hk
    obtain ⟨v, h1, hsr⟩ := r.sl i _ e
    obtain ⟨sb, r'⟩ := r.freezeT e h1
    refine ⟨_, sb, r', fun a u hx => ?_⟩
    unfold fzH at hx
    split at hx
    · rename_i hf
      obtain ⟨_, _, u1, hu1, kd⟩ := hsr.new a hf
      obtain ⟨u2, hu2, n1⟩ := RT.noSq _ _ hsr.1 hk a hf
      rw [hx] at hu1 hu2
      cases hu1
      cases hu2
      exact .inr ⟨hx, kd, n1⟩
    · exact .inl hx
  · exact ⟨B, Same.refl _, r, fun _ _ h => .inl h⟩
theorem Grow.unlend {B B' B2 H H2 : Hp} (i : Same B H) (nB : NoT B) (s : Same B B') (new : ∀ a u, B' a = some u → B a = some u ∨ (H a = some u ∧ Kind u ∧ ¬ SK u)) (g : Grow K B' H B2 H2) : ∃ B3, Grow K B H B3 H2 ∧ ∀ a u, SK u → B2 a = some u → B3 a = some u := by
  obtain ⟨g3, _, k⟩ := Grow.unlendT i nB s (fun a u q => (new a u q).imp id fun z => ⟨z.1, z.2.1, fun y => z.2.2 y.sk⟩) g
  exact ⟨_, g3, fun a u hu q => k a u hu.noW (fun z => (new a u z).elim id fun y => absurd hu y.2.2) q⟩
end
end DV
namespace DV
open PySem L2
inductive RM (α : Type) where
  | ok (a : α) (δ : DS)
  | er (x : Exn) (δ : DS)
  | no
def RM.bind {α β : Type} : RM α → (α → DS → RM β) → RM β
  | .ok a δ, f => f a δ
  | .er x δ, _ => .er x δ
  | .no, _ => .no
@[simp] theorem RM.bind_ok {α β : Type} (a : α) (δ : DS) (f : α → DS → RM β) : (RM.ok a δ).bind f = f a δ := rfl
@[simp] theorem RM.bind_er {α β : Type} (x : Exn) (δ : DS) (f : α → DS → RM β) : (RM.er x δ : RM α).bind f = .er x δ := rfl
@[simp] theorem RM.bind_no {α β : Type} (f : α → DS → RM β) : (RM.no : RM α).bind f = .no := rfl
def Res.rm {α : Type} (r : Res α) (δ : DS) : RM α := match r with
  | .ok a => .ok a δ
  | .er x => .er x δ
  | .no => .no
@[simp] theorem Res.rm_ok {α : Type} (a : α) (δ : DS) : (Res.ok a).rm δ = .ok a δ := rfl
@[simp] theorem Res.rm_er {α : Type} (x : Exn) (δ : DS) : (Res.er x : Res α).rm δ = .er x δ := rfl
@[simp] theorem Res.rm_no {α : Type} (δ : DS) : (Res.no : Res α).rm δ = .no := rfl
section
variable (K : PySem.W.Frag)
def PostEM (B0 : Hp) (H0 : Org) (B : Hp) (σ : L2.St) (W : WX) (Q : VK) : RM D → Prop
  | .ok d δ => ∀ v B' H', Same B B' → Rel K B0 H0 B' H' σ δ → Rp K B' v d → Q v H'
  | .er x δ => ∀ c dx B' H', Same B B' → Rel K B0 H0 B' H' σ δ → RpX K B' c dx x → W c dx σ H'
  | .no => False
def PostAM (B0 : Hp) (H0 : Org) (B : Hp) (σ : L2.St) (W : WX) (Q : List V → Hp → Prop) : RM (List D) → Prop
  | .ok ds δ => ∀ vs B' H', Same B B' → Rel K B0 H0 B' H' σ δ → RpA K B' vs ds → Q vs H'
  | .er x δ => ∀ c dx B' H', Same B B' → Rel K B0 H0 B' H' σ δ → RpX K B' c dx x → W c dx σ H'
  | .no => False
def PostTM (B0 : Hp) (H0 : Org) (B : Hp) (σ : L2.St) (W : WX) (Q : Bool → Hp → Prop) : RM Bool → Prop
  | .ok b δ => ∀ B' H', Same B B' → Rel K B0 H0 B' H' σ δ → Q b H'
  | .er x δ => ∀ c dx B' H', Same B B' → Rel K B0 H0 B' H' σ δ → RpX K B' c dx x → W c dx σ H'
  | .no => False
def SEM (W : WX) (t : TE) (f : DS → RM D) : Prop := ∀ B0 H0 δ σ B H (Q : VK), Rel K B0 H0 B H σ δ → PostEM K B0 H0 B σ W Q (f δ) → t σ H Q
def SAM (W : WX) (t : TA) (f : DS → RM (List D)) : Prop := ∀ B0 H0 δ σ B H (Q : List V → Hp → Prop), Rel K B0 H0 B H σ δ → PostAM K B0 H0 B σ W Q (f δ) → t σ H Q
def STM (W : WX) (t : TT) (f : DS → RM Bool) : Prop := ∀ B0 H0 δ σ B H (Q : Bool → Hp → Prop), Rel K B0 H0 B H σ δ → PostTM K B0 H0 B σ W Q (f δ) → t σ H Q
end
structure CEM (X : Cx) (W : WX) (e : Expr) (t : TE) (f : DS → RM D) : Prop where
  pe : PE X e t
  se : SEM X.K W t f
structure CAM (X : Cx) (W : WX) (es : List Expr) (t : TA) (f : DS → RM (List D)) : Prop where
  pa : PA X es t
  sa : SAM X.K W t f
  ln : ∀ δ ds δ', f δ = .ok ds δ' → ds.length = es.length
structure CTM (X : Cx) (W : WX) (e : Expr) (t : TT) (f : DS → RM Bool) : Prop where
  pt : PT X e t
  st : STM X.K W t f
section
variable {X : Cx} {W : WX} {K : PySem.W.Frag} {B0 : Hp} {H0 : Org} {B B1 : Hp} {σ : L2.St}
def cem (f : DS → Res D) : DS → RM D := fun δ => (f δ).rm δ
def caNilM : DS → RM (List D) := fun δ => .ok [] δ
def caConsM (f : DS → RM D) (g : DS → RM (List D)) : DS → RM (List D) := fun δ => (f δ).bind fun d δ1 => (g δ1).bind fun ds δ2 => .ok (d :: ds) δ2
def cFnM (F : List D → Res D) (f : DS → RM (List D)) : DS → RM D := fun δ => (f δ).bind fun ds δ1 => (F ds).rm δ1
def cTestM (f : DS → RM D) : DS → RM Bool := fun δ => (f δ).bind fun d δ1 => (asB d).rm δ1
def cNotM (f : DS → RM Bool) : DS → RM Bool := fun δ => (f δ).bind fun b δ1 => .ok (!b) δ1
def stM {α : Type} (r : RM α) (k : α → DS → Fl) : Fl := match r with
  | .ok a δ => k a δ
  | .er x δ => .rs x δ
  | .no => .no
@[simp] theorem stM_ok {α : Type} (a : α) (δ : DS) (k : α → DS → Fl) : stM (.ok a δ) k = k a δ := rfl
@[simp] theorem stM_er {α : Type} (x : Exn) (δ : DS) (k : α → DS → Fl) : stM (.er x δ : RM α) k = .rs x δ := rfl
@[simp] theorem stM_no {α : Type} (k : α → DS → Fl) : stM (.no : RM α) k = .no := rfl
def cIfM (f : DS → RM Bool) (g h : DS → Fl) : DS → Fl := fun δ => stM (f δ) fun b δ1 => if b = true then g δ1 else h δ1
def cDropM (f : DS → RM D) : DS → Fl := fun δ => stM (f δ) fun _ δ1 => .nx δ1
def cAsgM (i : Nat) (f : DS → RM D) : DS → Fl := fun δ => stM (f δ) fun d δ1 => .nx (δ1.set i (some (.im d)))
def cRetM (f : DS → RM D) : DS → Fl := fun δ => stM (f δ) fun d δ1 => .ro d δ1
end
end DV
namespace DV
open PySem L2
inductive MR where
  | ok (d : D) (t : T)
  | er (x : Exn) (t : T)
  | no
open Classical in
noncomputable def lessF (H : Hp) (F : Addr → Prop) : Hp := fun a => if F a then none else H a
section
variable {K : PySem.W.Frag} {B H B' H' : Hp} {F : Addr → Prop}
theorem lessF_out {a : Addr} (h : ¬ F a) : lessF H F a = H a := by unfold lessF; exact if_neg h
theorem tab_lessF {P : Addr} {q : Nat → Nat → Str} (hF : ∀ a, F a → ∃ u, H a = some u ∧ Kind u) (h : NdefX.TabN H P q) : NdefX.TabN (lessF H F) P q := by
  obtain ⟨ps, h1, h2, h3⟩ := h
  have n1 : ¬ F P := fun z => by
    obtain ⟨u, hu, k⟩ := hF P z
    rw [h1] at hu
    exact k.tbl ps (Option.some.inj hu).symm
  refine ⟨ps, by rw [lessF_out n1]; exact h1, h2, fun pos cv hc => ?_⟩
  obtain ⟨c, e1, e2⟩ := h3 pos cv hc
  have n2 : ¬ F c := fun z => by
    obtain ⟨u, hu, k⟩ := hF c z
    rw [e2] at hu
    exact k.code _ _ (Option.some.inj hu).symm
  exact ⟨c, e1, by rw [lessF_out n2]; exact e2⟩
end
theorem TBt.less {K : PySem.W.Frag} {B H : Hp} {F : Addr → Prop} {τ : Addr → D × D} (h : TBt K τ B H) (hF : ∀ a, F a → ∃ u, H a = some u ∧ Kind u) : TBt K τ B (lessF H F) := h.grow (Same.refl _) (fun _ _ q => .inl q) fun a o us q => by
  have : ¬ F a := fun z => by
    obtain ⟨u, hu, k⟩ := hF a z
    rw [q] at hu
    exact k.noMX (Option.some.inj hu).symm
  rw [lessF_out this]
  exact q
def PostM (K : PySem.W.Frag) (B H : Hp) (F : Addr → Prop) (v0 : V) (Q : VK) (E : XK) : MR → Prop
  | .ok d t => ∀ v B' H', Grow K B (lessF H F) B' H' → Rp K B' v d → RT K B' H' t v0 → (∀ q, FT K H' t v0 q → (F q ∨ H q = none) ∧ B' q = none) → Q v H'
  | .er x t => ∀ c dx B' H', Grow K B (lessF H F) B' H' → RpX K B' c dx x → RT K B' H' t v0 → (∀ q, FT K H' t v0 q → (F q ∨ H q = none) ∧ B' q = none) → E c dx H'
  | .no => False
def spM (K : PySem.W.Frag) (n j : Nat) (F : NK → List T → List D → MR) : Sp := fun vs H Q E => vs.length = n ∧ ∃ v0 k ts ds B, vs[j]? = some v0 ∧ Same B H ∧ RT K B H (.nd k ts) v0 ∧ (∀ q, FT K H (.nd k ts) v0 q → B q = none) ∧ RpA K B (vs.set j .non) ds ∧ ((∀ p ∈ tabsOf K, NdefX.TabN H p lamAt) ∧ TB K B H) ∧ PostM K B H (FT K H (.nd k ts) v0) v0 Q E (F k ts ds)
def ownAt (δ : DS) (j : Nat) : Option T := match δ[j]? with
  | some (some (.tr true k ts)) => some (.nd k ts)
  | _ => none
def flM (j : Nat) : Fl → MR
  | .ro d δ => match ownAt δ j with
    | some t => .ok d t
    | none => .no
  | .nx δ => match ownAt δ j with
    | some t => .ok .non t
    | none => .no
  | .rs x δ => match ownAt δ j with
    | some t => .er x t
    | none => .no
  | _ => .no
def defM (m j : Nat) (g : DS → Fl) : NK → List T → List D → MR := fun k ts ds => flM j (g ((st0 m ds).set j (some (.tr true k ts))))
section
variable {K : PySem.W.Frag} {B H : Hp}
theorem Rel.out {B0 : Hp} {H0 : Hp} {v0 : V} {B' H' : Hp} {σ : L2.St} {δ : DS} {j : Nat} {t : T} (r : Rel K B0 ⟨H0, some v0⟩ B' H' σ δ) (e : ownAt δ j = some t) : RT K B' H' t v0 ∧ ∀ q, FT K H' t v0 q → H0 q = none ∧ B' q = none := by
  unfold ownAt at e
  split at e
  · rename_i k ts e1
    cases e
    obtain ⟨v, _, h1, h2, h3⟩ := r.sl j _ e1
    have hv := h3 rfl
    cases hv
    exact ⟨h1, h2⟩
  · cases e
end
section
variable {P : Program} {w : World} {K : PySem.W.Frag} {mg : Str → Option Value} {base : Heap}
end
section
variable {K : PySem.W.Frag} {B0 : Hp} {H0 : Org} {B H B' H' : Hp} {σ : L2.St} {δ : DS}
theorem Rel.back {m : Bool} {i : Nat} {k : NK} {ts : List T} {v0 : V} {t : T} (r : Rel K B0 H0 B H σ δ) (e : δ[i]? = some (some (.tr m k ts))) (es : σ[i]? = some (some v0)) (g : Grow K B (lessF H (FT K H (.nd k ts) v0)) B' H') (rt : RT K B' H' t v0) (n : ∀ q, FT K H' t v0 q → (FT K H (.nd k ts) v0 q ∨ H q = none) ∧ B' q = none) :
    Rel K B0 H0 B' H' σ (δ.set i (some (O.ofM m t))) := by
  obtain ⟨v, h1, hsr⟩ := r.sl i _ e
  rw [es] at h1
  cases h1
  have hF := hsr.new
  have out0 : ∀ a, H0.h a ≠ none → ¬ FT K H (.nd k ts) v0 a := fun a ha z => ha (hF a z).1
  have G : Grow K B0 H0.h B' H' := by
    refine ⟨r.g.b.trans g.b, fun a o q nq => ?_, g.i, fun a ha => ?_, fun a ha => ?_, fun P hP => g.t P (tab_lessF (fun a ha => (hF a ha).2.2) (r.g.t P hP)), fun τ h => ?_⟩
    · exact g.h a o (by rw [lessF_out (out0 a (by rw [q]; simp))]; exact r.g.h a o q nq) nq
    · rw [g.f a (by rw [lessF_out (out0 a ha)]; exact r.g.e a ha), r.g.f a ha]
    · exact g.e a (by rw [lessF_out (out0 a ha)]; exact r.g.e a ha)
    · obtain ⟨τ1, e1, h1⟩ := r.g.n τ h
      obtain ⟨τ2, e2, h2⟩ := g.n τ1 (h1.less fun a ha => (hF a ha).2.2)
      exact ⟨τ2, fun x hx => (e2 x (by rw [lessF_out (out0 x hx)]; exact r.g.e x hx)).trans (e1 x hx), h2⟩
  have := r.chgK (z := some (O.ofM m t)) (v' := v0) e es G g.b (fun q u hq hh kd => ?_) fun o' z => by
    cases z
    refine ⟨SR.ofM rt (fun q hq => ⟨?_, (n q hq).2⟩) hsr.2.2, fun q hq => (n q (Ft.ofM.mp hq)).1⟩
    rcases (n q hq).1 with y | y
    · exact (hF q y).1
    · exact r.g.free y
  · rw [set_same es] at this
    exact this
  · have hl : lessF H (FT K H (.nd k ts) v0) q = some u := by rw [lessF_out hq]; exact hh
    exact ⟨(g.h q u hl kd.std).trans hh.symm, g.f q (by rw [hl]; simp)⟩
end
def PostAO (K : PySem.W.Frag) (B H : Hp) (σ : L2.St) (i j : Nat) (W : WX) (Q : List V → Hp → Prop) : Res (List D) → Prop
  | .ok ds => ∀ vs B' H', Grow K B H B' H' → (∀ v, σ[i]? = some (some v) → vs[j]? = some v) → RpA K B' (vs.set j .non) ds → Q vs H'
  | .er x => ∀ c dx B' H', Grow K B H B' H' → RpX K B' c dx x → W c dx σ H'
  | .no => False
structure CAO (X : Cx) (W : WX) (i j : Nat) (es : List Expr) (t : TA) (f : DS → Res (List D)) : Prop where
  pa : PA X es t
  sa : ∀ B0 H0 δ σ B H (Q : List V → Hp → Prop), Rel X.K B0 H0 B H σ δ → PostAO X.K B H σ i j W Q (f δ) → t σ H Q
  ln : ∀ δ ds, f δ = .ok ds → ds.length = es.length
def asT (δ : DS) (i : Nat) : Option (Bool × NK × List T) := match δ[i]? with
  | some (some (.tr m k ts)) => some (m, k, ts)
  | _ => none
section
variable {X : Cx} {W : WX} {K : PySem.W.Frag}
def cConsO (i : Nat) (g : DS → Res (List D)) : DS → Res (List D) := fun δ => match asT δ i with
  | some _ => (g δ).bind fun ds => .ok (.non :: ds)
  | none => .no
def outM (δ : DS) (i : Nat) (m : Bool) : MR → RM D
  | .ok d t => .ok d (δ.set i (some (O.ofM m t)))
  | .er x t => .er x (δ.set i (some (O.ofM m t)))
  | .no => .no
def cOwnF (i : Nat) (F : NK → List T → List D → MR) (dd : List D) (f : DS → Res (List D)) : DS → RM D := fun δ => (f δ).rm δ |>.bind fun ds _ => match asT δ i with
  | some (m, k, ts) => outM δ i m (F k ts (ds ++ dd))
  | none => .no
end
end DV
namespace DV
open PySem L2
def tMethS (C : Addr) (m : Str) (sp : Sp) (dvs : List V) (E : L2.St → XK) (ta : TE) (t : TA) : TE := fun σ H Q => ta σ H fun x H1 => ∃ a dx fs, x = .ref a ∧ H1 a = some (.ins C dx fs) ∧ fs.lookup m = none ∧ t σ H1 fun vs H2 => sp (x :: (vs ++ dvs)) H2 Q (E σ)
def tMakeS (C : Addr) (sp : Sp) (dvs : List V) (E : L2.St → XK) (t : TA) : TE := fun σ H Q => t σ H fun vs H1 => ∀ x dx, H1 x = none → H1 dx = none → dx ≠ x →
  sp (.ref x :: (vs ++ dvs)) (upd (upd H1 dx (.own x)) x (.ins C dx [])) (fun v H2 => v = .non ∧ Q (.ref x) H2) (E σ)
section
variable {X : Cx} {CX : CXT} {k : Nat} {f C : Addr} {fd : FuncData} {ps : List Str} {sp : Sp} {dvs : List V} {ds : List Value} {E : L2.St → XK} {x m : Str} {p pos apos : Pos} {e o : Expr} {es : List Expr} {ta : TE} {t : TA}
theorem pe_methSD {pl : Sem Bool} (he : PE X o ta) (c : Cls X.K C) (hm : Meth X.K C m f) (F : FnOk X.prog X.w X.K X.mg X.base CX k f fd ps sp) (hr : Room k X.A) (hb : Binds X.K fd ps ds) (hd : Vals dvs ds) (hx : ∀ σ, PassesAt CX X σ (E σ)) (ha : PA X (e :: es) t)
    (hst : starEach (e :: es) X.env = (false, eval e X.env) :: starEach es X.env := by rfl) (hpl : (backTo pos (starEach es X.env)).any (·.1) = false := by rfl)
    (ht : eval (.Call (.Attribute o m apos) (e :: es) [] pos) X.env = (do
      let ov ← eval o X.env
      standAt apos.atName
      let (f, first) ← holding [ov] (getMethod ov m pl)
      callWith pos f first (backTo pos (starEach (e :: es) X.env)) (backToKw pos (keywordEach [] X.env))) := by rfl) :
    PE X (.Call (.Attribute o m apos) (e :: es) [] pos) (tMethS C m sp dvs E ta t) := by
  refine ⟨fun pins s σ H Q I h => ?_⟩
  refine PySem.W.methodCall_KW (pl := pl) (thn (he.run pins s σ H _ I h) fun u s1 ⟨x, H1, I1, rx, a, dx, fs, ex, ea, l, q⟩ => ?_) ht
  subst ex
  obtain rfl : u = Value.ref a := rx
  refine getmeth_ok I1 ea c hm l ?_
  refine PySem.W.callWith_K (first := [.ref a]) (h₀ := X.base) I.ok.mod.kin hm.kp (thn (ha.run pos pins s1 σ H1 _ I1 q) fun us s2 ⟨vs, H2, I2, r, q2⟩ => ⟨I2.kIn, ?_⟩) hst hpl
  exact run_fnSD (us := .ref a :: us) (vs := .ref a :: vs) F hr hb hd (hx σ) I2 (.cons rfl r) q2
end
end DV
namespace DV
open PySem L2
structure ClK (K : PySem.W.Frag) (c : Str) (C : Addr) : Prop where
  v : clsV K c = some (.ref C)
  cl : Cls K C
def lookD (f : Str) : List Str → List D → Option D
  | n :: ns, d :: ds => if n = f then some d else lookD f ns ds
  | _, _ => none
section
variable {K : PySem.W.Frag} {B : Hp}
theorem lookup_none {α : Type} {f : Str} : ∀ {fs : List (Str × α)}, f ∉ fs.map (·.1) → fs.lookup f = none
  | [], _ => rfl
  | (n, x) :: fs, h => by
    rw [List.lookup_cons]
    have : (f == n) = false := by
      simp only [List.map_cons, List.mem_cons, not_or] at h
      simpa using h.1
    rw [this]
    exact lookup_none fun z => h (by simp [List.map_cons, z])
theorem ins_of {c : Str} {ns : List Str} {ds : List D} {v : V} (r : Rp K B v (.ins c ns ds)) : ∃ a C dx fs, v = .ref a ∧ B a = some (.ins C dx fs) ∧ clsV K c = some (.ref C) ∧ fs.map (·.1) = ns ∧ RpA K B (fs.map (·.2)) ds := by
  cases r with
  | ins h1 h2 h3 q => exact ⟨_, _, _, _, rfl, h1, h3, rfl, q⟩
end
def FldK (K : PySem.W.Frag) (cs : List Str) (f : Str) : Prop := ∀ c ∈ cs, ∃ C, ClK K c C ∧ NoAttr K C f
section
variable {X : Cx} {W : WX} {K : PySem.W.Frag}
def oFld (cs : List Str) (f : Str) : D → Res D
  | .ins c ns ds => if c ∈ cs then match lookD f ns ds with
    | some d => .ok d
    | none => .no else .no
  | _ => .no
def cFld (cs : List Str) (f : Str) (fa : DS → Res D) : DS → Res D := fun δ => (fa δ).bind (oFld cs f)
def cMth (c m : Str) (F : List D → Res D) (dd : List D) (fa : DS → Res D) (f : DS → Res (List D)) : DS → Res D := fun δ => (fa δ).bind fun x => match x with
  | .ins c' ns vs => if c' = c ∧ m ∉ ns then (f δ).bind fun ds => F (.ins c' ns vs :: (ds ++ dd)) else .no
  | _ => .no
theorem se_mth {c m : Str} {C : Addr} {n : Nat} {F : List D → Res D} {dd : List D} {dvs : List V} {ta : TE} {t : TA} {fa : DS → Res D} {f : DS → Res (List D)} (k : clsV K c = some (.ref C)) (hl : ∀ δ ds, f δ = .ok ds → ds.length + dd.length + 1 = n) (hd : ∀ B, RpA K B dvs dd) (ha : SE K W ta fa) (h : SA K W t f) : SE K W (tMethS C m (spD K n F) dvs (WE W) ta t) (cMth c m F dd fa f) := fun B0 H0 δ σ B H Q rel hp => by
  unfold cMth at hp
  refine ha B0 H0 δ σ B H _ rel ?_
  cases e : fa δ with
  | no => rw [e] at hp; exact hp
  | er x => rw [e] at hp; exact hp
  | ok d =>
    rw [e, Res.bind_ok] at hp
    intro v B1 H1 g1 r1
    split at hp
    · rename_i c' ns vs
      split at hp
      · rename_i hc
        obtain ⟨rfl, hm⟩ := hc
        obtain ⟨a, C', dx, fs, rfl, hb1, hv, rfl, q⟩ := ins_of r1
        have := hv.symm.trans k
        cases this
        refine ⟨a, dx, fs, rfl, g1.i _ _ hb1, lookup_none hm, h B0 H0 δ σ B1 H1 _ (rel.mono g1) ?_⟩
        cases e2 : f δ with
        | no => rw [e2] at hp; exact hp
        | er x => rw [e2] at hp; exact fun c dx B' H' g' rp => hp c dx B' H' (g1.trans g') rp
        | ok ds =>
          rw [e2, Res.bind_ok] at hp
          intro us B2 H2 g2 r2
          have rel2 := (rel.mono g1).mono g2
          refine ⟨?_, _ :: (ds ++ dd), B2, g2.i, .cons (r1.mono g2.b) (r2.append (hd B2)), ⟨fun p hp' => rel2.g.t p (rel2.tk p hp'), rel2.g.tb rel2.nt⟩, ?_⟩
          · rw [List.length_cons, List.length_append, r2.length, (hd B2).length]
            exact hl δ ds e2
          · cases e3 : F (.ins c' (fs.map (·.1)) vs :: (ds ++ dd)) with
            | no => rw [e3] at hp; exact hp
            | er x => rw [e3] at hp; exact fun c dx B' H' g' rp => hp c dx B' H' ((g1.trans g2).trans g') rp
            | ok z => rw [e3] at hp; exact fun v B' H' g' rp => hp v B' H' ((g1.trans g2).trans g') rp
      · exact hp.elim
    · exact hp.elim
theorem ce_mth (K : PySem.W.Frag) (hK : X.K = K) {k n : Nat} {c m : Str} {C f : Addr} {fd : FuncData} {ps : List Str} {F : List D → Res D} {dd : List D} {dvs : List V} {ds : List Value} {pos apos : Pos} {o e : Expr} {es : List Expr} {ta : TE} {t : TA} {fo : DS → Res D} {fa : DS → Res (List D)}
    (kc : ClK K c C) (hm : Meth K C m f) (G : FnOk X.prog X.w K X.mg X.base (L2.CX X.prog X.w) k f fd ps (spD K n F)) (hr : Room k X.A) (hb : Binds K fd ps ds) (hd : Vals dvs ds) (hdd : ∀ B, RpA K B dvs dd) (tk : Takes X W) (ho : CE X W o ta fo) (ha : CL X W (e :: es) t fa) {pl : Sem Bool}
    (hn : (e :: es).length + dd.length + 1 = n := by rfl)
    (hst : starEach (e :: es) X.env = (false, eval e X.env) :: starEach es X.env := by rfl) (hpl : (backTo pos (starEach es X.env)).any (·.1) = false := by rfl)
    (ht : eval (.Call (.Attribute o m apos) (e :: es) [] pos) X.env = (do
      let ov ← eval o X.env
      standAt apos.atName
      let (f, first) ← holding [ov] (getMethod ov m pl)
      callWith pos f first (backTo pos (starEach (e :: es) X.env)) (backToKw pos (keywordEach [] X.env))) := by rfl) :
    CE X W (.Call (.Attribute o m apos) (e :: es) [] pos) (tMethS C m (spD K n F) dvs (WE W) ta t) (cMth c m F dd fo fa) := by
  subst hK
  exact ⟨pe_methSD ho.pe kc.cl hm G hr hb hd (fun σ => passAt tk σ) ha.pa hst hpl ht, se_mth kc.v (fun δ ds h => by rw [ha.ln δ ds h]; exact hn) hdd ho.se ha.sa⟩
end
end DV
namespace DV
open PySem L2
section
variable {X : Cx} {W : WX} {K : PySem.W.Frag}
theorem RT.ob {B H : Hp} {c : Str} {ns : List Str} {ts : List T} {v : V} (h : RT K B H (.nd (.ob c ns) ts) v) : ∃ a C dx fs, v = .ref a ∧ H a = some (.ins C dx fs) ∧ clsV K c = some (.ref C) ∧ fs.map (·.1) = ns := by
  rw [RT] at h
  obtain ⟨p, vs, fp, rfl, hc, hr, hn⟩ := h
  obtain ⟨C, dx, fs, h1, h2, h3, h4, h5, h6⟩ := hc
  exact ⟨p, C, dx, fs, rfl, h1, h3, h4⟩
def cOwnM (i : Nat) (c m : Str) (F : NK → List T → List D → MR) (dd : List D) (f : DS → Res (List D)) : DS → RM D := fun δ => match asT δ i with
  | some (mm, .ob c' ns, ts) => if c' = c ∧ m ∉ ns then (f δ).rm δ |>.bind fun ds _ => outM δ i mm (F (.ob c' ns) ts (.non :: (ds ++ dd))) else .no
  | _ => .no
def madeT : MR → Res T
  | .ok (.v .non) t => .ok t
  | .er x _ => .er x
  | _ => .no
def cMake (c : Str) (F : NK → List T → List D → MR) (dd : List D) (f : DS → Res (List D)) : DS → Res T := fun δ => (f δ).bind fun ds => madeT (F (.ob c []) [] (.non :: (ds ++ dd)))
end
end DV
namespace DV
open PySem L2
section
variable {X : Cx} {W : WX} {K : PySem.W.Frag}
def cNx0 : DS → Res T := fun _ => .ok (.nd (.dt []) [])
end
section
variable {K : PySem.W.Frag} {B0 : Hp} {H0 : Org} {B H B' H' : Hp} {σ : L2.St} {δ : DS}
end
def putN (f : Str) : List Str → List Str
  | [] => [f]
  | n :: ns => if n = f then n :: ns else n :: putN f ns
def putTs (f : Str) (t : T) : List Str → List T → List T
  | n :: ns, x :: ts => if n = f then t :: ts else x :: putTs f t ns ts
  | _, _ => [t]
section
variable {K : PySem.W.Frag} {B H : Hp}
end
section
variable {X : Cx} {W : WX} {K : PySem.W.Frag}
def cTfld (i : Nat) (cs : List Str) (f : Str) (fv : DS → Res T) : DS → Fl := fun δ => match asT δ i with
  | some (m, .ob c ns, ts) => if c ∈ cs ∧ ns.length < 1000 then stE (fv δ) δ fun t => .nx (δ.set i (some (.tr m (.ob c (putN f ns)) (putTs f t ns ts)))) else .no
  | _ => .no
end
end DV
namespace DV
open PySem L2
def idxN (f : Str) : List Str → Option Nat
  | [] => none
  | n :: ns => if n = f then some 0 else (idxN f ns).map (· + 1)
section
variable {K : PySem.W.Frag} {B0 : Hp} {H0 : Org} {B H B' H' : Hp} {σ : L2.St} {δ : DS}
end
section
variable {X : Cx} {W : WX} {K : PySem.W.Frag}
def cpFld (cs : List Str) (f : Str) (fa : DS → Res (Nat × List Nat)) : DS → Res (Nat × List Nat) := fun δ => (fa δ).bind fun p => match nodeAt δ p.1 p.2 with
  | some (.nd (.ob c ns) ts) => if c ∈ cs then match idxN f ns with
    | some j => if j < ts.length then .ok (p.1, p.2 ++ [j]) else .no
    | none => .no else .no
  | _ => .no
end
section
variable {K : PySem.W.Frag} {B0 : Hp} {H0 : Org} {B H B' H' : Hp} {σ : L2.St} {δ : DS}
theorem RTA.repK {k : NestedKey} {w : V} {d : D} (hw : Rp K B w d) : ∀ {ks : List NestedKey} {ts : List T} {us : List (Int × Addr × V)}, RTA K B H ts (us.map (·.2.2)) → RTA K B H (DV.repK k (fun _ => .im d) ks ts) ((DV.repK k (fun u => (u.1, u.2.1, w)) ks us).map (·.2.2)) ∧ ∀ a, FTA K H (DV.repK k (fun _ => .im d) ks ts) ((DV.repK k (fun u => (u.1, u.2.1, w)) ks us).map (·.2.2)) a → FTA K H ts (us.map (·.2.2)) a
  | [], ts, us, h => by
    have e1 : DV.repK k (fun _ => T.im d) [] ts = ts := by cases ts <;> rfl
    have e2 : DV.repK k (fun u : Int × Addr × V => (u.1, u.2.1, w)) [] us = us := by cases us <;> rfl
    rw [e1, e2]
    exact ⟨h, fun _ h => h⟩
  | _ :: _, [], [], h => ⟨h, fun _ h => h⟩
  | _ :: _, [], _ :: _, h => by rw [List.map_cons, RTA] at h; exact h.elim
  | _ :: _, _ :: _, [], h => by rw [List.map_nil, RTA] at h; exact h.elim
  | k' :: ks, t :: ts, u :: us, h => by
    rw [List.map_cons, RTA] at h
    obtain ⟨h1, h2, h3⟩ := h
    obtain ⟨i1, i2⟩ := RTA.repK (k := k) hw (ks := ks) h2
    rw [DV.repK, DV.repK, List.map_cons, List.map_cons]
    by_cases e : k' = k
    · rw [if_pos e, if_pos e]
      constructor
      · rw [RTA, RT]; exact ⟨hw, i1, fun q z => by rw [FT] at z; exact z.elim⟩
      · intro a ha
        rw [FTA, FT] at ha
        rw [FTA]
        exact .inr (i2 a (ha.resolve_left id))
    · rw [if_neg e, if_neg e]
      constructor
      · rw [RTA]; exact ⟨h1, i1, fun q hq z => h3 q hq (i2 q z)⟩
      · intro a ha
        rw [FTA] at ha ⊢
        exact ha.imp id (i2 a)
theorem RTA.delK {k : NestedKey} : ∀ {ks : List NestedKey} {ts : List T} {us : List (Int × Addr × V)}, RTA K B H ts (us.map (·.2.2)) → RTA K B H (DV.delK k ks ts) ((DV.delK k ks us).map (·.2.2)) ∧ ∀ a, FTA K H (DV.delK k ks ts) ((DV.delK k ks us).map (·.2.2)) a → FTA K H ts (us.map (·.2.2)) a
  | [], ts, us, h => by
    have e1 : DV.delK k [] ts = ts := by cases ts <;> rfl
    have e2 : DV.delK k [] us = us := by cases us <;> rfl
    rw [e1, e2]
    exact ⟨h, fun _ h => h⟩
  | _ :: _, [], [], h => ⟨h, fun _ h => h⟩
  | _ :: _, [], _ :: _, h => by rw [List.map_cons, RTA] at h; exact h.elim
  | _ :: _, _ :: _, [], h => by rw [List.map_nil, RTA] at h; exact h.elim
  | k' :: ks, t :: ts, u :: us, h => by
    rw [List.map_cons, RTA] at h
    obtain ⟨h1, h2, h3⟩ := h
    obtain ⟨i1, i2⟩ := RTA.delK (k := k) (ks := ks) h2
    rw [DV.delK, DV.delK, List.map_cons]
    by_cases e : k' = k
    · rw [if_pos e, if_pos e]
      exact ⟨i1, fun a ha => by rw [FTA]; exact .inr (i2 a ha)⟩
    · rw [if_neg e, if_neg e, List.map_cons]
      constructor
      · rw [RTA]; exact ⟨h1, i1, fun q hq z => h3 q hq (i2 q z)⟩
      · intro a ha
        rw [FTA] at ha ⊢
        exact ha.imp id (i2 a)
theorem nkDs_map : ∀ ks : List NestedKey, nkDs ks = ks.map nkD
  | [] => by rw [nkDs]; rfl
  | k :: ks => by rw [nkDs, List.map_cons, nkDs_map ks]
theorem RpA.delK {k : NestedKey} : ∀ {ks ls : List NestedKey} {us : List (Int × Addr × V)}, RpA K B (us.map fun u => .ref u.2.1) (nkDs ls) → RpA K B ((DV.delK k ks us).map fun u => .ref u.2.1) (nkDs (DV.delK k ks ls))
  | [], ls, us, h => by
    have e1 : DV.delK k [] ls = ls := by cases ls <;> rfl
    have e2 : DV.delK k [] us = us := by cases us <;> rfl
    rw [e1, e2]; exact h
  | _ :: _, [], [], h => h
  | _ :: _, [], _ :: _, h => by rw [nkDs] at h; cases h
  | _ :: _, _ :: _, [], h => by rw [nkDs] at h; cases h
  | k' :: ks, l :: ls, u :: us, h => by
    rw [List.map_cons, nkDs] at h
    cases h with
    | cons h1 h2 =>
      rw [DV.delK, DV.delK]
      by_cases e : k' = k
      · rw [if_pos e, if_pos e]; exact RpA.delK h2
      · rw [if_neg e, if_neg e, List.map_cons, nkDs]; exact .cons h1 (RpA.delK h2)
end
def keysPut (ks : List NestedKey) (k : NestedKey) : List NestedKey := if k ∈ ks then ks else ks ++ [k]
def tsPut (ks : List NestedKey) (ts : List T) (k : NestedKey) (d : D) : List T := if k ∈ ks then repK k (fun _ => .im d) ks ts else ts ++ [.im d]
theorem atK_iff {α : Type} {ks : List NestedKey} {xs : List α} (hl : ks.length = xs.length) (k : NestedKey) : (atK k ks xs).isSome = true ↔ k ∈ ks := by
  constructor
  · intro h
    by_cases hk : k ∈ ks
    · exact hk
    · rw [atK_none k ks xs hk] at h; cases h
  · intro h
    obtain ⟨x, hx⟩ := atK_some k ks xs h hl
    rw [hx]; rfl
section
variable {K : PySem.W.Frag} {B0 : Hp} {H0 : Org} {B H B' H' : Hp} {σ : L2.St} {δ : DS}
theorem nkDs_app (ks : List NestedKey) (k : NestedKey) : nkDs (ks ++ [k]) = nkDs ks ++ [nkD k] := by rw [nkDs_map, nkDs_map, List.map_append]; rfl
end
section
variable {X : Cx} {W : WX} {K : PySem.W.Frag}
def cTputX (fp : DS → Res (Nat × List Nat)) (fk fv : DS → Res D) : DS → Fl := fun δ => stE (fv δ) δ fun d => stE (fp δ) δ fun p => stE (fk δ) δ fun y => match nodeAt δ p.1 p.2, keyD y with
  | some (.nd (.dt ks) ts), some k => if ks.length < sizeLine then .nx (putAt δ p.1 p.2 (.nd (.dt (keysPut ks k)) (tsPut ks ts k d))) else .no
  | _, _ => .no
def cTpopX (fp : DS → Res (Nat × List Nat)) (fk : DS → Res D) : DS → Fl := fun δ => stE (fp δ) δ fun p => match nodeAt δ p.1 p.2 with
  | some (.nd (.dt ks) ts) => stE (fk δ) δ fun y => match keyD y with
    | some k => if k ∈ ks then .nx (putAt δ p.1 p.2 (.nd (.dt (delK k ks ks)) (delK k ks ts))) else .no
    | none => .no
  | _ => .no
end
end DV
namespace DV
open PySem L2
section
variable {X : Cx} {K : PySem.W.Frag} {pins : List (Addr × Obj)} {σ : L2.St} {H : Hp} {s : Shared} {k n : Nat} {C f a dx : Addr} {fs : List (Str × V)} {fd : FuncData} {ps : List Str} {sp : Sp}
def rLenO (C : Addr) (sp : Sp) : List V → Hp → VK → Prop := fun xs H Q => ∃ a dx fs, xs = [.ref a] ∧ H a = some (.ins C dx fs) ∧ sp [.ref a] H (fun v H' => ∃ n : Int, v = .int n ∧ 0 ≤ n ∧ n < 2 ^ 63 ∧ Q (.int n) H') (fun _ _ _ => False)
def rReprO (C : Addr) (sp : Sp) : List V → Hp → VK → Prop := fun xs H Q => ∃ a dx fs, xs = [.ref a] ∧ H a = some (.ins C dx fs) ∧ sp [.ref a] H (fun v H' => ∃ z : Str, v = .str z ∧ Q (.str z) H') (fun _ _ _ => False)
end
end DV
namespace DV
open PySem L2 PySem.Spec PySem.Calls PyProof.Rows
abbrev emptyD : Obj := { cls := .type "dict", data := .dict #[] }
section
variable {X : Cx} {pins : List (Addr × Obj)} {σ : L2.St} {H : Hp} {s : Shared} {a : Addr} {ks : List NestedKey} {us : List (Int × Addr × V)} {k : NestedKey} {v : V} {r : Value} {A : Around} {E : Value → Shared → Prop}
end
section
variable {X : Cx}
def tDcX (K : PySem.W.Frag) (wi : TI) (g : TG) (tt : TT) (tk te : TE) (vs : List Nat) : TE := fun σ H Q => wi σ H fun J H1 =>
  ∀ D o, H1 D = none → DxO D o [] → ∃ M : Nat → Nat → Hp → Prop, (∃ k, M 0 k (upd H1 D (Dx D o []))) ∧ ∀ j k Hj, M j k Hj →
    (J.stop j Hj ∧ Q (.ref D) Hj) ∨ (J.go j Hj ∧ ∃ N : Hp → Prop, (∀ Hk, N Hk → ∃ k', k' < k ∧ M (j + 1) k' Hk) ∧
      ∀ x Hk, J.yld j Hj x Hk → g x (wipe σ vs) Hk fun σ2 H2 => wipe σ2 vs = wipe σ vs ∧ tt σ2 H2 fun b H3 => if b = true then tk σ2 H3 fun y H4 => te σ2 H4 fun z H5 =>
        ∃ ks us kk b, y = .ref b ∧ DxAt K H5 D ks us ∧ nkOk kk = true ∧ KeyAt K H5 kk y ∧ us.length < sizeLine ∧ ∀ o', DxO D o' (putU ks us kk b z) → N (upd H5 D (Dx D o' (putU ks us kk b z))) else N H3)
end
end DV
namespace DV
open PySem L2
section
variable {X : Cx} {W : WX} {K : PySem.W.Frag}
def dsPut (ks : List NestedKey) (vs : List D) (k : NestedKey) (d : D) : List D := if k ∈ ks then repK k (fun _ => d) ks vs else vs ++ [d]
def dcX (b : D → DS → Option DS) (t : DS → Res Bool) (ek ev : DS → Res D) : List D → DS → List NestedKey → List D → Res (List NestedKey × List D)
  | [], _, ks, vs => .ok (ks, vs)
  | d :: ds, δ, ks, vs => match b d δ with
    | none => .no
    | some δ' => (t δ').calm.bind fun c => if c = true then (ek δ').calm.bind fun y => (ev δ').calm.bind fun z => match keyD y with
        | some k => if ks.length < sizeLine then dcX b t ek ev ds δ (keysPut ks k) (dsPut ks vs k z) else .no
        | none => .no
      else dcX b t ek ev ds δ ks vs
def cDcX (vs : List Nat) (fi : DS → Res (List D)) (b : D → DS → Option DS) (t : DS → Res Bool) (ek ev : DS → Res D) : DS → Res T := fun δ => (fi δ).bind fun ds => (dcX b t ek ev ds (wipeD δ vs) [] []).bind fun p => .ok (.nd (.dt p.1) (p.2.map T.im))
theorem RpA.repX {B : Hp} {k : NestedKey} {w : V} {d : D} (hw : Rp K B w d) : ∀ {ks : List NestedKey} {us : List (Int × Addr × V)} {vs : List D}, RpA K B (us.map (·.2.2)) vs → RpA K B ((DV.repK k (fun u => (u.1, u.2.1, w)) ks us).map (·.2.2)) (DV.repK k (fun _ => d) ks vs)
  | [], us, vs, h => by
    have e1 : DV.repK k (fun _ => d) [] vs = vs := by cases vs <;> rfl
    have e2 : DV.repK k (fun u : Int × Addr × V => (u.1, u.2.1, w)) [] us = us := by cases us <;> rfl
    rw [e1, e2]; exact h
  | _ :: _, [], _, h => by cases h; exact .nil
  | k' :: ks, u :: us, vs, h => by
    rw [List.map_cons] at h
    cases h with
    | cons h1 h2 =>
      rw [DV.repK, DV.repK, List.map_cons]
      refine .cons ?_ (RpA.repX hw h2)
      by_cases e : k' = k
      · rw [if_pos e, if_pos e]; exact hw
      · rw [if_neg e, if_neg e]; exact h1
structure MkX (K : PySem.W.Frag) (B H : Hp) (a : Addr) (ks : List NestedKey) (vs : List D) : Prop where
  ex : ∃ o us, H a = some (Dx a o us) ∧ DxO a o us ∧ us.map (·.1) = ks.map nkHash ∧ ks.Nodup ∧ (∀ k ∈ ks, nkOk k = true) ∧ RpA K B (us.map fun u => .ref u.2.1) (nkDs ks) ∧ RpA K B (us.map (·.2.2)) vs
theorem MkX.at_ {B H : Hp} {a : Addr} {ks : List NestedKey} {vs : List D} (m : MkX K B H a ks vs) (i : Same B H) : ∃ us, DxAt K H a ks us ∧ RpA K B (us.map fun u => .ref u.2.1) (nkDs ks) ∧ RpA K B (us.map (·.2.2)) vs := by
  obtain ⟨o, us, h1, h2, h3, h4, h5, h6, h7⟩ := m.ex
  exact ⟨us, ⟨⟨o, h1, h2⟩, h3, h4, h5, keyAts_of i _ _ (nkInts_all h5) h6⟩, h6, h7⟩
theorem MkX.grow {B H B' H' : Hp} {a : Addr} {ks : List NestedKey} {vs : List D} (m : MkX K B H a ks vs) (g : Grow K B H B' H') : MkX K B' H' a ks vs := by
  obtain ⟨o, us, h1, h2, h3, h4, h5, h6, h7⟩ := m.ex
  exact ⟨o, us, g.h _ _ h1 ⟨fun _ z => (by cases z), fun _ _ _ => dx_ne_mx⟩, h2, h3, h4, h5, h6.mono g.b, h7.mono g.b⟩
theorem MkX.put {B H : Hp} {a b : Addr} {o' : Obj} {ks : List NestedKey} {us : List (Int × Addr × V)} {vs : List D} {k : NestedKey} {w : V} {d : D} (da : DxAt K H a ks us) (kq : RpA K B (us.map fun u => .ref u.2.1) (nkDs ks)) (vq : RpA K B (us.map (·.2.2)) vs) (ok : nkOk k = true) (rk : Rp K B (.ref b) (nkD k)) (rw' : Rp K B w d) (hd' : DxO a o' (putU ks us k b w)) :
    MkX K B (upd H a (Dx a o' (putU ks us k b w))) a (keysPut ks k) (dsPut ks vs k d) := by
  have iff := atK_iff da.len k
  refine ⟨o', putU ks us k b w, upd_same, hd', ?_⟩
  unfold keysPut dsPut putU
  by_cases hk : k ∈ ks
  · rw [if_pos (iff.mpr hk), if_pos hk, if_pos hk]
    refine ⟨?_, da.nd, da.ok, ?_, RpA.repX rw' vq⟩
    · rw [repK_keep k (fun u : Int × Addr × V => (u.1, u.2.1, w)) (·.1) (fun _ => rfl)]; exact da.hs
    · rw [repK_keep k (fun u : Int × Addr × V => (u.1, u.2.1, w)) (fun u => V.ref u.2.1) (fun _ => rfl)]; exact kq
  · have : ¬ (atK k ks us).isSome = true := fun z => hk (iff.mp z)
    rw [if_neg this, if_neg hk, if_neg hk]
    refine ⟨?_, ?_, ?_, ?_, ?_⟩
    · rw [List.map_append, List.map_append, da.hs]; rfl
    · rw [List.nodup_append]
      refine ⟨da.nd, by simp, fun a ha b hb => ?_⟩
      rw [List.mem_singleton.mp hb]
      exact fun z => hk (z ▸ ha)
    · intro x hx
      rcases List.mem_append.mp hx with hx | hx
      · exact da.ok x hx
      · rw [List.mem_singleton.mp hx]; exact ok
    · rw [List.map_append, nkDs_app]; exact kq.append (.cons rk .nil)
    · rw [List.map_append]; exact vq.append (.cons rw' .nil)
end
end DV
namespace DV
open PySem L2
section
variable {X : Cx} {W : WX} {K : PySem.W.Frag}
def cTaugX (fp : DS → Res (Nat × List Nat)) (fk fv : DS → Res D) : DS → Fl := fun δ => stE (fp δ) δ fun p => stE (fk δ) δ fun y => match nodeAt δ p.1 p.2, keyD y with
  | some (.nd (.dt ks) ts), some k => match atK k ks ts with
    | some (.im (.v (.int i))) => stE (fv δ) δ fun z => match z with
      | .v (.int j) => if ks.length < sizeLine then .nx (putAt δ p.1 p.2 (.nd (.dt (keysPut ks k)) (tsPut ks ts k (.int (i + j))))) else .no
      | _ => .no
    | _ => .no
  | _, _ => .no
def cMthF (c m : Str) (F : List D → Res (List D)) (dd : List D) (fa : DS → Res D) (f : DS → Res (List D)) : DS → Res (List D) := fun δ => (fa δ).bind fun x => match x with
  | .ins c' ns vs => if c' = c ∧ m ∉ ns then (f δ).bind fun ds => F (.ins c' ns vs :: (ds ++ dd)) else .no
  | _ => .no
def cAppF (f : DS → Res (List D)) (g : DS → Res D) : DS → Fl := fun δ => stE (f δ) δ fun ds => stE (g δ) δ fun _ => if ds.length < sizeLine then .nx δ else .no
def gInt : List D → Res D
  | [.v (.int i)] => .ok (.int i)
  | [.v (.bl b)] => .ok (.int (if b = true then 1 else 0))
  | _ => .no
end
end DV
namespace DV
open PySem L2
section
variable {X : Cx} {W : WX} {K : PySem.W.Frag}
def gStr : List D → Res D
  | [.v (.int i)] => if i.natAbs.log2 < 1920 then .ok (.str (toString i)) else .no
  | _ => .no
def oLenO (c : Str) (F : List D → Res D) : D → Res D
  | .ins c' ns vs => if c' = c then match F [.ins c' ns vs] with
    | .ok (.v (.int n)) => if 0 ≤ n ∧ n.natAbs < 9223372036854775808 then .ok (.int n) else .no
    | _ => .no else .no
  | _ => .no
def cLenO (c : Str) (F : List D → Res D) (fe : DS → Res D) : DS → Res D := fun δ => (fe δ).bind (oLenO c F)
def oReprO (c : Str) (F : List D → Res D) : D → Res D
  | .ins c' ns vs => if c' = c then match F [.ins c' ns vs] with
    | .ok (.v (.str z)) => .ok (.str z)
    | _ => .no else .no
  | _ => .no
def cReprO (c : Str) (F : List D → Res D) (fe : DS → Res D) : DS → Res D := fun δ => (fe δ).bind (oReprO c F)
end
end DV
namespace DV
open PySem L2
section
variable {X : Cx} {pins : List (Addr × Obj)} {σ : L2.St} {H : Hp} {s : Shared} {A : Around} {E : Value → Shared → Prop} {a b : Addr} {ks : List NestedKey} {us : List (Int × Addr × V)} {k : NestedKey} {v : V} {r : Value}
end
def tXSd (K : PySem.W.Frag) (td ty te : TE) : TE := fun σ H Q => td σ H fun x H1 => ∃ a, x = .ref a ∧ IsX H1 a ∧ ty σ H1 fun y H2 => te σ H2 fun v H3 => ∃ ks us k b, y = .ref b ∧ DxAt K H3 a ks us ∧ nkOk k = true ∧ KeyAt K H3 k y ∧ us.length < sizeLine ∧
  (∀ z, atK k ks us = some z → Q z.2.2 H3) ∧ (atK k ks us = none → ∀ o', DxO a o' (putU ks us k b v) → Q v (upd H3 a (Dx a o' (putU ks us k b v))))
section
variable {X : Cx} {o e f : Expr} {apos cpos : Pos} {td ty tx : TE}
end
def idxK (k : NestedKey) : List NestedKey → Option Nat
  | [] => none
  | k' :: ks => if k' = k then some 0 else (idxK k ks).map (· + 1)
def appX (i j : Nat) (f : DS → Res D) : DS → Fl := fun δ => match nodeAt δ i [j] with
  | some (.nd .ls us) => stE (f δ) δ fun d => if us.length < sizeLine then .nx (putAt δ i [j] (.nd .ls (us ++ [.im d]))) else .no
  | _ => .no
def cSdX (i : Nat) (fk fv : DS → Res D) : DS → Fl := fun δ => match asT δ i with
  | some (m, .dt ks, ts) => stE (fk δ) δ fun y => match keyD y with
    | some k => if ks.length < sizeLine then match idxK k ks with
      | some j => appX i j fv δ
      | none => appX i ks.length fv (δ.set i (some (.tr m (.dt (ks ++ [k])) (ts ++ [.nd .ls []])))) else .no
    | none => .no
  | _ => .no
section
variable {X : Cx} {W : WX} {K : PySem.W.Frag}
def cNd (f : DS → Res T) : DS → Res D := fun δ => (f δ).bind fun t => .ok t.d
theorem ce_new {e : Expr} {t : TE} {f : DS → Res T} (h : CN X W e t f) : CE X W e t (cNd f) := ⟨h.pe, fun B0 H0 δ σ B H Q rel hp => by
  unfold cNd at hp
  refine h.sn B0 H0 δ σ B H _ rel ?_
  cases e1 : f δ with
  | no => rw [e1] at hp; exact hp.elim
  | er x => rw [e1] at hp; exact hp
  | ok u =>
    rw [e1, Res.bind_ok] at hp
    intro v B1 H1 g1 rt n
    have hF : ∀ q, FT X.K H1 u v q → H q = none ∧ B1 q = none ∧ ∃ w, H1 q = some w ∧ Kind w := fun q hq => ⟨(n q hq).1, (n q hq).2, RT.kind _ _ rt q hq⟩
    refine hp v (fzH B1 H1 (FT X.K H1 u v)) H1 (g1.fzF hF) (RT.frz _ _ rt (fzH_same fun q hq => (n q hq).2) fun q hq => ?_)
    unfold fzH
    rw [if_pos hq]⟩
end
end DV
namespace DV
open PySem L2
def rRep1 (K : PySem.W.Frag) : R2 := fun x y H Q => ∃ l xs, x = .ref l ∧ y = .int 1 ∧ SqT K H l xs ∧ Q (.ref l) H
section
variable {X : Cx}
end
def oMulT (d e : D) : Res D := match d, e with
  | .tup a, .v (.int k) => if k = 1 then .ok (.tup a) else oMul2 (.tup a) (.v (.int k))
  | d, e => oMul2 d e
section
variable {X : Cx} {K : PySem.W.Frag}
end
end DV
namespace DV
open PySem L2
section
variable {X : Cx} {W : WX} {K : PySem.W.Frag}
def cNtup (f : DS → Res (List T)) : DS → Res T := fun δ => (f δ).bind fun ts => .ok (.nd .tp ts)
def cAppN (i : Nat) (f : DS → Res T) : DS → Fl := fun δ => match asT δ i with
  | some (m, .ls, us) => stE (f δ) δ fun t => if us.length < sizeLine then .nx (δ.set i (some (.tr m .ls (us ++ [t])))) else .no
  | _ => .no
def cTpop (fp : DS → Res (Nat × List Nat)) : DS → Fl := fun δ => match fp δ with
  | .ok p => match nodeAt δ p.1 p.2 with
    | some (.nd .ls us) => if us.isEmpty = true then .no else .nx (putAt δ p.1 p.2 (.nd .ls us.dropLast))
    | _ => .no
  | _ => .no
theorem RTA.dropLast {B H : Hp} : ∀ {ts : List T} {vs : List V}, RTA K B H ts vs → RTA K B H ts.dropLast vs.dropLast ∧ ∀ q, FTA K H ts.dropLast vs.dropLast q → FTA K H ts vs q
  | [], [], h => ⟨h, fun _ h => h⟩
  | [], _ :: _, h => by rw [RTA] at h; exact h.elim
  | _ :: _, [], h => by rw [RTA] at h; exact h.elim
  | [t], [v], h => ⟨by show RTA K B H [] []; rw [RTA]; trivial, fun q z => by have z' : FTA K H [] [] q := z; rw [FTA] at z'; exact z'.elim⟩
  | [t], v :: v' :: vs, h => by rw [RTA] at h; have := h.2.1; rw [RTA] at this; exact this.elim
  | t :: t' :: ts, [v], h => by rw [RTA] at h; have := h.2.1; rw [RTA] at this; exact this.elim
  | t :: t' :: ts, v :: v' :: vs, h => by
    rw [RTA] at h
    obtain ⟨h1, h2, h3⟩ := h
    obtain ⟨a, b⟩ := RTA.dropLast h2
    rw [List.dropLast_cons_cons, List.dropLast_cons_cons]
    constructor
    · rw [RTA]; exact ⟨h1, a, fun q hq z => h3 q hq (b q z)⟩
    · intro q hq
      rw [FTA] at hq ⊢
      exact hq.imp id (b q)
end
section
variable {X : Cx} {W : WX} {K : PySem.W.Frag}
def cRetT (f : DS → Res T) : DS → Fl := fun δ => stE (f δ) δ fun t => .rn t
def cRetOT (i : Nat) : DS → Fl := fun δ => match asT δ i with
  | some (false, k, ts) => .rn (.nd k ts)
  | _ => .no
def PostDN (K : PySem.W.Frag) (B H : Hp) (Q : VK) (E : XK) : Res T → Prop
  | .ok t => ∀ v B' H', Grow K B H B' H' → RT K B' H' t v → (∀ q, FT K H' t v q → H q = none ∧ B' q = none) → Q v H'
  | .er x => ∀ c dx B' H', Grow K B H B' H' → RpX K B' c dx x → E c dx H'
  | .no => False
def spN (K : PySem.W.Frag) (n : Nat) (F : List D → Res T) : Sp := fun vs H Q E => vs.length = n ∧ ∃ ds B, Same B H ∧ RpA K B vs ds ∧ ((∀ p ∈ tabsOf K, NdefX.TabN H p lamAt) ∧ TB K B H) ∧ PostDN K B H Q E (F ds)
def flN : Fl → Res T
  | .rn t => .ok t
  | .rs x _ => .er x
  | _ => .no
@[simp] theorem flN_rn (t : T) : flN (.rn t) = .ok t := rfl
@[simp] theorem flN_rs (x : Exn) (δ : DS) : flN (.rs x δ) = .er x := rfl
def defN (m : Nat) (g : DS → Fl) : List D → Res T := fun ds => flN (g (st0 m ds))
end
section
variable {P : Program} {w : World} {K : PySem.W.Frag} {mg : Str → Option Value} {base : Heap}
end
section
variable {X : Cx} {W : WX} {K : PySem.W.Frag}
def cFnN (F : List D → Res T) (dd : List D) (f : DS → Res (List D)) : DS → Res T := fun δ => (f δ).bind fun ds => F (ds ++ dd)
def cKwN (F : List D → Res T) (l : List (Pk D)) (fa fk : DS → Res (List D)) : DS → Res T := fun δ => (fa δ).bind fun ds => (fk δ).bind fun es => F (pkD l ds es)
end
def obAny (δ : DS) (i : Nat) : Bool := match δ[i]? with
  | some (some (.tr _ k ts)) => (T.nd k ts).noTp
  | some (some (.im _)) => true
  | _ => false
def lendB (i : Nat) (f : DS → Res Bool) : DS → Res Bool := fun δ => if obAny δ i = true then match f (fz i δ) with
  | .ok b => .ok b
  | _ => .no else .no
def lendV (i : Nat) (f : DS → Res D) : DS → Res D := fun δ => if obAny δ i = true then match f (fz i δ) with
  | .ok (.v x) => .ok (.v x)
  | _ => .no else .no
section
variable {X : Cx} {W : WX} {K : PySem.W.Frag}
end
end DV
namespace DV
open PySem L2 PySem.Spec PySem.Calls PyProof.Rows PySem.W
section
variable {prog : Program} {w : World} {A : Around} {E : Value → Shared → Prop} {s : Shared}
end
section
variable {X : Cx} {W : WX} {K : PySem.W.Frag}
def tStar1 (K : PySem.W.Frag) (te : TE) (i j : Nat) : TS := fun D σ H => te σ H fun v H1 => ∃ a x xs, v = .ref a ∧ SqL K H1 a (x :: xs) ∧ xs.length ≤ 10000 ∧ ∀ p, H1 p = none → D.nx ((σ.set i (some x)).set j (some (.ref p))) (upd H1 p (.lst xs))
def cStar1 (i j : Nat) (f : DS → Res D) : DS → Fl := fun δ => stE (f δ) δ fun d => match d with
  | .lst (x :: xs) => if xs.length ≤ 10000 then .nx ((δ.set i (some (.im x))).set j (some (.im (.lst xs)))) else .no
  | _ => .no
end
end DV
namespace DV
open PySem L2 PySem.Spec PySem.Calls PyProof.Rows
abbrev PrE := NestedKey × Addr × V
def PrAt (K : PySem.W.Frag) (H : Hp) (v : V) (p : PrE) : Prop := ∃ a, v = .ref a ∧ SqT K H a [.ref p.2.1, p.2.2] ∧ KeyAt K H p.1 (.ref p.2.1) ∧ nkOk p.1 = true
def prU (p : PrE) : Int × Addr × V := (nkHash p.1, p.2.1, p.2.2)
section
variable {X : Cx} {pins : List (Addr × Obj)} {σ : L2.St} {H : Hp} {s : Shared}
end
def rDictX (K : PySem.W.Frag) : List V → Hp → VK → Prop := fun xs H Q => ∃ (l : Addr) (vs : List V) (prs : List PrE), xs = [.ref l] ∧ SqL K H l vs ∧ Paired (PrAt K H) vs prs ∧ (prs.map (·.1)).Nodup ∧ ∀ d o, H d = none → DxO d o (prs.map prU) → Q (.ref d) (upd H d (Dx d o (prs.map prU)))
def pairsX : List D → Option (List (NestedKey × D))
  | [] => some []
  | .tup [k, v] :: ds => match keyD k, pairsX ds with
    | some k, some ps => some ((k, v) :: ps)
    | _, _ => none
  | _ :: _ => none
def gDictX : List D → Res D
  | [.lst ds] => match pairsX ds with
    | some ps => if (ps.map (·.1)).Nodup then .ok (.dtt (ps.map (·.1)) (ps.map (·.2))) else .no
    | none => .no
  | _ => .no
section
variable {K : PySem.W.Frag} {B H : Hp}
end
end DV
namespace DV
open PySem L2 PySem.Spec PySem.Calls PyProof.Rows
def CTest (X : Cx) (tt : Expr) (pv : Value → Option Bool) : Prop := ∀ (a : Addr) (oe : Obj) (pn pins : List (Addr × Obj)) (σ : L2.St) (H : Hp) (s : Shared) (cls : Value) (b : Bool) (Q : Bool → Shared → Prop) (E : Value → Shared → Prop), Inv (X.suite a ((a, oe) :: pn)) pins σ H s →
  PySem.W.Looks (model X.prog X.w) s.heap (typeOf (.ref a)) cls → X.K.In s.heap → pv cls = some b → (∀ h', (∀ q o, s.heap.get? q = some o → h'.get? q = some o) → Q b { s with heap := h' }) →
  wpAny (model X.prog X.w) (X.A.mark (some (.ref a))) (eval tt X.env) (fun c s₁ => wpAny (model X.prog X.w) (X.A.mark (some (.ref a))) (excMatches (.ref a) c) Q E s₁) E s
section
variable {X : Cx}
end
def wNT (Wout : WX) (D : Ends) : List ((Value → Option Bool) × Nat × TX) → WX
  | [] => Wout
  | (pv, i, ts) :: r => fun cls d σ H => ∃ b, pv cls = some b ∧ (b = true → ∀ a, H a = none → ts a cls d (endsAt D i) (σ.set i (some (.ref a))) H) ∧ (b = false → wNT Wout D r cls d σ H)
inductive HdsT (X : Cx) : List ExceptHandler → List ((Value → Option Bool) × Nat × TX) → Prop
  | nil : HdsT X [] []
  | cons {n : Str} {i : Nat} {tt : Expr} {pv : Value → Option Bool} {ts : TX} {b₀ : Stmt} {suite : List Stmt} {pos' : Pos} {hds : List ExceptHandler} {l : List ((Value → Option Bool) × Nat × TX)} (hi : X.N[i]? = some n) (hln : X.env.kindOf n = some .local) (hc : CTest X tt pv)
      (hsu : ∀ (a : Addr) (oe : Obj) (cls : Value) (d : Option Addr) (pn : List (Addr × Obj)), Zc cls d oe → (∃ vs, oe.data = .fields vs) → PSs (X.suite a ((a, oe) :: pn)) (b₀ :: suite) (ts a cls d)) (r : HdsT X hds l) :
      HdsT X (.ExceptHandler (some tt) (some n) (b₀ :: suite) pos' :: hds) ((pv, i, ts) :: l)
inductive HdsD (X : Cx) : List ExceptHandler → List ((Value → Option Bool) × Nat × TX) → Clauses → Prop
  | nil : HdsD X [] [] []
  | cons {n : Str} {i : Nat} {tt : Expr} {pv : Value → Option Bool} {ts : TX} {gs : Exn → DS → Fl} {p : Str → Option Bool} {b₀ : Stmt} {suite : List Stmt} {pos' : Pos} {hds : List ExceptHandler} {l : List ((Value → Option Bool) × Nat × TX)} {q : Clauses} (hi : X.N[i]? = some n) (hln : X.env.kindOf n = some .local) (hc : CTest X tt pv)
      (hp : ∀ s b v, p s = some b → clsV X.K s = some v → pv v = some b ∧ (b = true → XcK X.K v)) (hsu : CXs X i (b₀ :: suite) ts gs) (r : HdsD X hds l q) : HdsD X (.ExceptHandler (some tt) (some n) (b₀ :: suite) pos' :: hds) ((pv, i, ts) :: l) ((p, i, gs) :: q)
theorem HdsD.n {X : Cx} : ∀ {hds : List ExceptHandler} {l : List ((Value → Option Bool) × Nat × TX)} {q : Clauses}, HdsD X hds l q → HdsT X hds l
  | _, _, _, .nil => .nil
  | _, _, _, .cons hi hln hc _ hsu r => .cons hi hln hc hsu.ps r.n
section
variable {X : Cx} {W : WX}
end
end DV
namespace DV
open PySem L2
def TabA (K : PySem.W.Frag) (cs : List Value) (l : List (Str × Bool)) : Prop := ∀ s b v, tabP l s = some b → clsV K s = some v → PySem.W.exmAny K v cs = some b ∧ (b = true → XcK K v)
section
variable {X : Cx} {i : Nat}
structure CLx (X : Cx) (i : Nat) (es : List Expr) (t : TXA) (f : Exn → DS → Res (List D)) : Prop where
  a : CAx X i es t f
  ln : ∀ x δ ds, f x δ = .ok ds → ds.length = es.length
end
end DV
namespace DV
open PySem L2 PySem.Spec PySem.Calls PyProof.Rows LamX
def lamF (n : Nat) (q : Clauses) (r : Res D) : Res D := match r with
  | .ok d => .ok d
  | .er x => match cPick q x (List.replicate n none) with
    | .rt d => .ok d
    | _ => .no
  | .no => .no
def cLamV (n : Nat) (q : Clauses) (fe : DS → Res D) : DS → Res D := fun δ => lamF n q (fe δ)
def TTv (Ng : List Str) (l : List ((Value → Option Bool) × Nat × TX)) : (XK → Hp → VK → Prop) → Hp → VK → Prop := fun tl H Q =>
  ∃ E : XK, (∀ cls d (σ : L2.St) H', σ.length = Ng.length → E cls d H' → wNT (fun _ _ _ _ => False) { nx := fun _ H' => Q .non H', rt := Q } l cls d σ H') ∧ tl E H Q
section
variable {X : Cx}
end
end DV
namespace DV
open PySem L2 PySem.Spec PySem.Calls PyProof.Rows
def placeD (p : PyData) (ps : List PyData) : Option Nat := ps.findIdx? fun z => PyData.eqv z p
def rRemD (K : PySem.W.Frag) : V → List V → Hp → VK → Prop := fun x xs H Q => ∃ (a : Addr) (vs : List V) (y : V) (d : PyData) (ds : List PyData) (j : Nat), x = V.ref a ∧ xs = [y] ∧ H a = some (.lst vs) ∧ DpAll K H vs ds ∧ Dp K H y d ∧
  SeqAt.shaped (.list ds) = true ∧ SeqAt.shaped d = true ∧ placeD d ds = some j ∧ Q .non (upd H a (.lst (vs.eraseIdx j)))
section
variable {X : Cx} {W : WX}
theorem RpA.eraseIdx {K : PySem.W.Frag} {B : Hp} : ∀ {vs : List V} {ds : List D} (j : Nat), RpA K B vs ds → RpA K B (vs.eraseIdx j) (ds.eraseIdx j)
  | _, _, _, .nil => .nil
  | _, _, 0, .cons _ r => r
  | _, _, j + 1, .cons h r => .cons h (RpA.eraseIdx j r)
def remAt (ds : List D) (e : D) : Option Nat := match e.py, D.pyA ds with
  | some p, some ps => if SeqAt.shaped (.list ps) = true ∧ SeqAt.shaped p = true then placeD p ps else none
  | _, _ => none
def cRem (i : Nat) (f : DS → Res D) : DS → Fl := fun δ => match δ[i]? with
  | some (some (.ow ds)) => stE (f δ) δ fun d => match remAt ds d with
    | some j => .nx (δ.set i (some (.ow (ds.eraseIdx j))))
    | none => .no
  | _ => .no
def gLst (K : PySem.W.Frag) (n : Nat) (t : TGs) : TG := fun v σ H Q => ∃ a xs, v = .ref a ∧ SqL K H a xs ∧ xs.length = n ∧ t xs σ H Q
def bLst (n : Nat) (c : List D → DS → Option DS) : D → DS → Option DS := fun d δ => match d with
  | .lst ds => if ds.length = n then c ds δ else none
  | _ => none
end
end DV
namespace DV
open PySem L2 PySem.Spec PySem.Calls PyProof.Rows PySem.W
section
variable {prog : Program} {w : World} {A : Around} {E : Value → Shared → Prop} {s : Shared} {l : Addr} {xs : Array (Int × Tok)} {its : List Value} {ns : List Int}
end
def rMinT (K : PySem.W.Frag) : List V → Hp → VK → Prop := fun vs H Q => ∃ (a : Addr) (ns : List Int), vs = [V.ref a] ∧ SqT K H a (ns.map V.int) ∧ 0 < ns.length ∧ ∀ m, m ∈ ns → (∀ y, y ∈ ns → m ≤ y) → Q (.int m) H
def gMinA : List D → Res D
  | [.tup ds] => gMin [.lst ds]
  | ds => gMin ds
section
variable {X : Cx}
end
end DV
namespace DV
open PySem
structure Runs (it l : Addr) (items : Array Value) (It : Nat → Heap → Prop) (Ls : Heap → Prop) : Prop where
  item : ∀ {prog : Program} {w : World} {A : Around} {E : Value → Shared → Prop} {s : Shared} {k : Nat} {x : Value} {Q : Value → Shared → Prop}, It k s.heap → Ls s.heap → items[k]? = some x →
    (∀ h', It (k + 1) h' → Heap.SameBut it s.heap h' → Q x { s with heap := h' }) → wpAny (model prog w) A (Builtin.SmallTypes.nextOf (.ref it)) Q E s
  stop : ∀ {prog : Program} {w : World} {A : Around} {E : Value → Shared → Prop} {s : Shared} {k : Nat} {Q : Value → Shared → Prop}, A.handled = none → It k s.heap → Ls s.heap → items[k]? = none →
    (∀ h' e, Heap.ExtBut it s.heap h' → (∃ o, h'.get? e = some o ∧ o.cls = .type "StopIteration") → E (.ref e) { s with heap := h' }) → wpAny (model prog w) A (Builtin.SmallTypes.nextOf (.ref it)) Q E s
  at_ : ∀ {k : Nat} {h h' : Heap}, It k h → (∀ o, h.get? it = some o → h'.get? it = some o) → It k h'
  atL : ∀ {h h' : Heap}, Ls h → (∀ o, h.get? l = some o → h'.get? l = some o) → Ls h'
  th : ∀ {k : Nat} {h : Heap}, It k h → ∃ o, h.get? it = some o
  thL : ∀ {h : Heap}, Ls h → ∃ o, h.get? l = some o
theorem Runs.list (it l : Addr) (items : Array Value) : Runs it l items (fun k h => h.IsListIter it l k) (fun h => h.IsList l items) where
  item := fun h1 h2 hx hQ => wpAny_nextOf_list_item h1 h2 hx hQ
  stop := fun hh h1 h2 hx hE => wpAny_nextOf_list_end hh h1 h2 hx hE
  at_ := fun h k => h.at k
  atL := fun h k => h.at k
  th := fun ⟨o, e, _⟩ => ⟨o, e⟩
  thL := fun ⟨o, e, _⟩ => ⟨o, e⟩
theorem Runs.tuple (it l : Addr) (items : Array Value) : Runs it l items (fun k h => h.IsTupleIter it l k) (fun h => h.IsTuple l items) where
  item := fun h1 h2 hx hQ => RZ.nextOf_tuple_item h1 h2 hx hQ
  stop := fun hh h1 h2 hx hE => RZ.nextOf_tuple_end hh h1 h2 hx hE
  at_ := fun h k => h.at k
  atL := fun h k => h.at k
  th := fun ⟨o, e, _⟩ => ⟨o, e⟩
  thL := fun ⟨o, e, _⟩ => ⟨o, e⟩
section
variable {prog : Program} {w : World} {A : Around} {E : Value → Shared → Prop} {s : Shared} {z TI TO T i1 i2 l1 l2 : Addr} {f : Bool} {oT : Obj} {k1 k2 : Nat} {xs ys : Array Value} {I1 I2 : Nat → Heap → Prop} {L1 L2 : Heap → Prop}
end
abbrev zipLH1 (h : Heap) (l1 : Addr) : Heap := h.push { cls := .type "list_iterator", data := .fields #[.ref l1, .int 0 0] }
abbrev zipLH2 (h : Heap) (l1 l2 : Addr) : Heap := (zipLH1 h l1).push { cls := .type "tuple_iterator", data := .fields #[.ref l2, .int 0 0] }
abbrev zipLH3 (h : Heap) (l1 l2 : Addr) : Heap := (zipLH2 h l1 l2).push { cls := .type "tuple", data := .seq #[.ref h.objs.size, .ref (zipLH1 h l1).objs.size] }
abbrev zipLH4 (h : Heap) (l1 l2 : Addr) : Heap := (zipLH3 h l1 l2).push { cls := .type "tuple", data := .seq #[.none, .none] }
abbrev zipLH5 (h : Heap) (l1 l2 : Addr) : Heap := (zipLH4 h l1 l2).push { cls := .type "zip", data := .fields #[.none, .bool false, .bool false, .ref (zipLH2 h l1 l2).objs.size, .ref (zipLH3 h l1 l2).objs.size] }
end DV
namespace DV
open PySem L2 PySem.Spec PySem.Calls PyProof.Rows
section
variable {X : Cx} {pins : List (Addr × Obj)} {σ : L2.St} {H : Hp} {s : Shared}
end
section
variable {X : Cx} {pins : List (Addr × Obj)} {σ : L2.St} {H : Hp} {s : Shared}
end
def rDictP (K : PySem.W.Frag) : List V → Hp → VK → Prop := fun xs H Q => ∃ (a : Addr) (ps : List Addr) (kvs : List (Key × V)), xs = [.ref a] ∧ PlT K H a (ps.map V.ref) ∧ Paired (fun p kv => SqT K H p [kV kv.1, kv.2]) ps kvs ∧
    ∀ p o, H p = none → Q (.ref p) (upd H p (.frz o (.dK (mergeK [] kvs))))
def mergeD (kvs : List (Key × D)) : List (Key × D) := kvs.foldl (fun acc p => putD acc p.1 p.2) []
def pairsK : List D → Option (List (Key × D))
  | [] => some []
  | .tup [k, v] :: ds => match asKey k, pairsK ds with
    | some k, some ps => some ((k, v) :: ps)
    | _, _ => none
  | _ :: _ => none
def gDictP : List D → Res D
  | [.ptp ds] => match pairsK ds with
    | some ps => .ok (.dlk (keysD (mergeD ps)) (valsD (mergeD ps)))
    | none => .no
  | _ => .no
section
variable {K : PySem.W.Frag} {B H : Hp}
end
def tDictZ (K : PySem.W.Frag) (ta : TA) : TE := fun σ H Q => ta σ H fun vs H1 => ∃ (a b : Addr) (ks : List Int) (ys : List V), vs = [.ref a, .ref b] ∧ SqL K H1 a (ks.map V.int) ∧ SqT K H1 b ys ∧ ks.length = ys.length ∧
  ∀ p o, H1 p = none → Q (.ref p) (upd H1 p (.frz o (.dK (mergeK [] ((ks.map Sum.inl).zip ys)))))
end DV
namespace DV
open PySem L2 PySem.Spec PySem.Calls PyProof.Rows
def unp : D → D
  | .ptp xs => .tup xs
  | d => d
theorem Rp.unp {K : PySem.W.Frag} {B : Hp} {v : V} {d : D} (r : Rp K B v d) : Rp K B v (unp d) := by
  cases r with
  | ptp h q => exact .tup h.sq q
  | v => exact .v _
  | lst h q => exact .lst h q
  | tup h q => exact .tup h q
  | dct h q => exact .dct h q
  | dcT h h1 h2 h3 h4 r1 r => exact .dcT h h1 h2 h3 h4 r1 r
  | ins h1 h2 h3 q => exact .ins h1 h2 h3 q
  | dlk h q => exact .dlk h q
  | wor h h2 r1 r2 => exact .wor h h2 r1 r2
section
variable {X : Cx} {W : WX} {K : PySem.W.Frag}
def cUnp (f : DS → Res D) : DS → Res D := fun δ => (f δ).bind fun d => .ok (unp d)
def rTupP (K : PySem.W.Frag) : List V → Hp → VK → Prop := fun xs H Q => ∃ p ys, xs = [.ref p] ∧ ((SqL K H p ys ∧ ∀ l o, H l = none → o.dict = none → Q (.ref l) (upd H l (.frz o (.tup ys)))) ∨ (PlT K H p ys ∧ Q (.ref p) H))
def gTupleP : List D → Res D
  | [.lst ds] => .ok (.ptp ds)
  | [.ptp ds] => .ok (.ptp ds)
  | _ => .no
def rCatP (K : PySem.W.Frag) : R2 := fun x y H Q => ∃ a b xs ys, x = .ref a ∧ y = .ref b ∧ PlT K H a xs ∧ PlT K H b ys ∧ xs.length + ys.length ≤ sizeLine ∧
  (xs = [] → Q (.ref b) H) ∧ (xs ≠ [] → ys = [] → Q (.ref a) H) ∧ (xs ≠ [] → ys ≠ [] → ∀ p o, H p = none → o.dict = none → Q (.ref p) (upd H p (.frz o (.tup (xs ++ ys)))))
def oAddP : D → D → Res D
  | .ptp a, .ptp b => if a.length + b.length ≤ sizeLine then .ok (.ptp (a ++ b)) else .no
  | _, _ => .no
def tTup0 : TE := fun σ H Q => ∀ p o, H p = none → o.dict = none → Q (.ref p) (upd H p (.frz o (.tup [])))
def gDictZ (d e : D) : Res D := match d, e with
  | .lst ds, .tup es => match intsD ds with
    | some ns => if ns.length = es.length then .ok (.dlk (keysD (mergeD ((ns.map Sum.inl).zip es))) (valsD (mergeD ((ns.map Sum.inl).zip es)))) else .no
    | none => .no
  | _, _ => .no
def cDictZ (fs : DS → Res (List D)) : DS → Res D := fun δ => (fs δ).bind fun ds => match ds with
  | [d, e] => gDictZ d e
  | _ => .no
end
end DV
namespace DV
open PySem L2 PySem.Spec PySem.Calls PyProof.Rows
section
variable {X : Cx}
def rTAdd (K : PySem.W.Frag) (P : Program) (w : World) : V → List V → Hp → VK → Prop := fun x xs H Q => ∃ (a p : Addr) (k : List Int) (L : List (Addr × List Int)), x = .ref a ∧ xs = [.ref p] ∧ H a = some (SetTO P w a L) ∧ (∀ q ∈ L, SqT K H q.1 (q.2.map V.int)) ∧ SqT K H p (k.map V.int) ∧ L.length + 1 < 64 ∧
  ∀ L', (k ∈ L.map (·.2) → L' = L) → (k ∉ L.map (·.2) → L'.Perm ((p, k) :: L)) → Q .non (upd H a (SetTO P w a L'))
end
end DV
namespace DV
open PySem L2 PySem.Spec PySem.Calls PyProof.Rows
abbrev PI2 := Int × Int
def ltQ (a b : PI2) : Prop := a.1 < b.1 ∨ (a.1 = b.1 ∧ a.2 < b.2)
instance (a b : PI2) : Decidable (ltQ a b) := by unfold ltQ; exact inferInstance
def insQ (k : PI2) : List PI2 → List PI2
  | [] => [k]
  | x :: xs => if ltQ k x then k :: x :: xs else if k = x then x :: xs else x :: insQ k xs
def setQ (ns : List PI2) : List PI2 := ns.foldl (fun l k => insQ k l) []
def dQ (p : PI2) : D := .tup [.int p.1, .int p.2]
def lQ (p : PI2) : List Int := [p.1, p.2]
def pairQ : D → Option PI2
  | .tup [.v (.int x), .v (.int y)] => some (x, y)
  | _ => none
def pairsQ : List D → Option (List PI2)
  | [] => some []
  | d :: ds => match pairQ d, pairsQ ds with
    | some p, some ps => some (p :: ps)
    | _, _ => none
@[simp] theorem pairsQ_map : ∀ ps : List PI2, pairsQ (ps.map dQ) = some ps
  | [] => rfl
  | p :: ps => by
    rw [List.map_cons, pairsQ, pairsQ_map ps]
    rfl
def bdQ (p : PI2) : Prop := 0 ≤ p.1 ∧ p.1 < 64 ∧ 0 ≤ p.2 ∧ p.2 < 64
instance (p : PI2) : Decidable (bdQ p) := by unfold bdQ; exact inferInstance
def cPairs (f : DS → Res (List D)) : DS → Res (List PI2) := fun δ => (f δ).bind fun ds => match pairsQ ds with
  | some ps => if ps.length < 60 ∧ ∀ p ∈ ps, bdQ p then .ok ps else .no
  | none => .no
def PostSQ (K : PySem.W.Frag) (P : Program) (w : World) (B H : Hp) (σ : L2.St) (W : WX) (Q : VK) : Res (List PI2) → Prop
  | .ok ns => ∀ p B' H' (L : List (Addr × List Int)), Grow K B H B' H' → B' p = none → H' p = some (SetTO P w p L) → (∀ q ∈ L, SqT K B' q.1 (q.2.map V.int)) → (L.map (·.2)).Nodup → (∀ k, k ∈ L.map (·.2) ↔ k ∈ ns.map lQ) → (∀ p ∈ ns, bdQ p) → Q (.ref p) H'
  | .er x => ∀ c dx B' H', Grow K B H B' H' → RpX K B' c dx x → W c dx σ H'
  | .no => False
structure CSQ (X : Cx) (W : WX) (e : Expr) (t : TE) (f : DS → Res (List PI2)) : Prop where
  pe : PE X e t
  si : ∀ B0 H0 δ σ B H (Q : VK), Rel X.K B0 H0 B H σ δ → PostSQ X.K X.prog X.w B H σ W Q (f δ) → t σ H Q
def setTI (P : Program) (w : World) (a : Addr) (L : List (Addr × List Int)) : HO := SetTO P w a L
section
variable {K : PySem.W.Frag} {W : WX}
end
end DV
namespace DV
open PySem L2 PySem.Spec PySem.Calls PyProof.Rows
section
variable {X : Cx} {W : WX}
def unQ (k : List Int) : PI2 := (k.getD 0 0, k.getD 1 0)
def cSortedQ (f : DS → Res (List PI2)) : DS → Res (List D) := fun δ => (f δ).bind fun ns => .ok ((setQ ns).map dQ)
end
end DV
namespace DV
open PySem L2 PySem.Spec PySem.Calls PyProof.Rows
section
variable {X : Cx} {W : WX}
def rNeNil (K : PySem.W.Frag) : R2 := fun x y H Q => ∃ a b xs, x = .ref a ∧ y = .ref b ∧ SqL K H a xs ∧ SqL K H b [] ∧ Q (.bl (!xs.isEmpty)) H
def oNeNil : D → D → Res D
  | .lst xs, .lst [] => .ok (.bl (!xs.isEmpty))
  | _, _ => .no
end
end DV
namespace DV
open PySem L2 PySem.Spec PySem.Calls PyProof.Rows
section
variable {X : Cx} {W : WX}
open Classical in
noncomputable def keyQ (h : Heap) (v : Value) : PI2 := if e : ∃ p : PI2, Srt.IsPair h v p.1 p.2 then e.choose else (0, 0)
def rSortTQ (K : PySem.W.Frag) : List V → Hp → VK → Prop := fun xs H Q => ∃ p ys ps B, xs = [.ref p] ∧ Same B H ∧ SqT K H p ys ∧ RpA K B ys (ps.map dQ) ∧ ps.Nodup ∧ ∀ q zs, H q = none → RpA K B zs ((setQ ps).map dQ) → Q (.ref q) (upd H q (.lst zs))
def cSrtTQ (f : DS → Res D) : DS → Res (List D) := fun δ => (f δ).bind fun d => match d with
  | .tup ds => match pairsQ ds with
    | some ps => if ps.Nodup then .ok ((setQ ps).map dQ) else .no
    | none => .no
  | _ => .no
end
end DV
namespace DV
open PySem L2
section
variable {X : Cx} {W : WX}
def setTs : List Nat → List T → DS → DS
  | i :: is, t :: ts, δ => setTs is ts (δ.set i (some (O.ofT t)))
  | _, _, δ => δ
structure CGN (X : Cx) (tgs : List Expr) (g : TGs) (is : List Nat) : Prop where
  pg : PGs X tgs g
  sg : ∀ B0 H0 B H σ δ vs ts (Q : L2.St → Hp → Prop), ts.length = is.length → Rel X.K B0 H0 B H σ δ → RTA X.K B H ts vs → (∀ q, FTA X.K H ts vs q → H0.h q = none ∧ B q = none) →
    (∀ q, FTA X.K H ts vs q → ∀ (j : Nat) (o' : O) (w : V), δ[j]? = some (some o') → σ[j]? = some (some w) → ¬ Ft X.K H w q o') → (∀ σ', Rel X.K B0 H0 B H σ' (setTs is ts δ) → Q σ' H) → g vs σ H Q
def cUnpN (is : List Nat) (f : DS → Res T) : DS → Fl := fun δ => stE (f δ) δ fun t => match t with
  | .nd .tp ts => if ts.length = is.length then .nx (setTs is ts δ) else .no
  | _ => .no
end
end DV
namespace DV
open PySem L2 PySem.Spec PySem.Calls PyProof.Rows
def tXDisp1 (K : PySem.W.Frag) (tk tv : TE) : TE := fun σ H Q => ∀ p o, H p = none → DxO p o [] → tk σ (upd H p (Dx p o [])) fun x H1 => tv σ H1 fun y H2 => H2 p = some (Dx p o []) ∧
  ∃ kk b, x = .ref b ∧ nkOk kk = true ∧ KeyAt K H2 kk (.ref b) ∧ ∀ o', DxO p o' [(nkHash kk, b, y)] → Q (.ref p) (upd H2 p (Dx p o' [(nkHash kk, b, y)]))
section
variable {X : Cx}
end
section
variable {X : Cx} {W : WX}
def cNx1 (fk fv : DS → Res D) : DS → Res T := fun δ => (fk δ).bind fun y => (fv δ).bind fun d => match keyD y with
  | some k => .ok (.nd (.dt [k]) [.im d])
  | none => .no
end
end DV
namespace DV
open PySem L2 PySem.Spec PySem.Calls PyProof.Rows
section
variable {X : Cx} {W : WX}
def tTupP (t : TA) : TE := fun σ H Q => t σ H fun xs H1 => xs.length ≤ sizeLine ∧ ∀ p o, H1 p = none → o.dict = none → Q (.ref p) (upd H1 p (.frz o (.tup xs)))
def cTupP (f : DS → Res (List D)) : DS → Res D := fun δ => (f δ).bind fun ds => .ok (.ptp ds)
@[simp] theorem ev_tupP {f : DS → Res (List D)} {δ : DS} : cTupP f δ = (f δ).bind fun ds => .ok (.ptp ds) := rfl
end
end DV
namespace DV
open PySem L2 PySem.Spec PySem.Calls PyProof.Rows
section
variable {X : Cx} {W : WX}
def PostPs (K : PySem.W.Frag) (B H : Hp) (σ : L2.St) (W : WX) (Q : List (V × V) → Hp → Prop) : Res (List (Key × D)) → Prop
  | .ok kvs => ∀ (us : List (Key × V)) B' H', Grow K B H B' H' → RpK K B' us kvs → Q (us.map fun kv => (kV kv.1, kv.2)) H'
  | .er x => ∀ c dx B' H', Grow K B H B' H' → RpX K B' c dx x → W c dx σ H'
  | .no => False
structure CPs (X : Cx) (W : WX) (pos : Pos) (ks : List (Option Expr)) (vs : List Expr) (trs : List (TE × TE)) (f : DS → Res (List (Key × D))) : Prop where
  pe : PPs X pos ks vs trs
  se : ∀ B0 H0 δ σ B H Q, Rel X.K B0 H0 B H σ δ → PostPs X.K B H σ W Q (f δ) → tPairs trs σ H Q
  ln : ∀ δ kvs, f δ = .ok kvs → kvs.length = ks.length
def cPs (fk fv : DS → Res D) (fr : DS → Res (List (Key × D))) : DS → Res (List (Key × D)) := fun δ => (fk δ).bind fun y => (fv δ).bind fun d => (fr δ).bind fun r => match y with
  | .v (.int i) => .ok ((Sum.inl i, d) :: r)
  | _ => .no
def cDisp (f : DS → Res (List (Key × D))) : DS → Res (List (Key × D)) := fun δ => (f δ).bind fun kvs => .ok (mergeD kvs)
end
end DV
namespace DV
open PySem L2 PySem.Spec PySem.Calls PyProof.Rows PySem.W
section
variable {prog : Program} {w : World} {A : Around} {E : Value → Shared → Prop} {s : Shared} {l : Addr} {xs : Array (Int × Tok)} {its : List Value} {ns : List Int}
end
def rMaxT (K : PySem.W.Frag) : List V → Hp → VK → Prop := fun vs H Q => ∃ (a : Addr) (ns : List Int), vs = [V.ref a] ∧ SqT K H a (ns.map V.int) ∧ 0 < ns.length ∧ ∀ m, m ∈ ns → (∀ y, y ∈ ns → y ≤ m) → Q (.int m) H
def gMaxA : List D → Res D
  | [.tup ds] => gMax [.lst ds]
  | ds => gMax ds
section
variable {X : Cx}
end
end DV
namespace DV
open PySem L2 PyProof.Rows
def KH (K : PySem.W.Frag) (H : Hp) : Prop := ∀ a o, K.lookup a = some o → H a = none
mutual
theorem KeyAt.stay {K : PySem.W.Frag} {H H' : Hp} (e : ∀ b u, TK u → H b = some u → H' b = some u) : ∀ (k : NestedKey) (v : V), KeyAt K H k v → KeyAt K H' k v
  | .num n, v, h => by rw [KeyAt] at h ⊢; exact h
  | .none, v, h => by rw [KeyAt] at h; exact h.elim
  | .text _, v, h => by rw [KeyAt] at h; exact h.elim
  | .tup ks, v, h => by
    rw [KeyAt] at h ⊢
    obtain ⟨a, xs, rfl, hs, hk⟩ := h
    refine ⟨a, xs, rfl, ?_, KeyAts.stay e ks xs hk⟩
    rcases hs with (hs | ⟨o, hs⟩) | hs
    · exact .inl (.inl (e _ _ (.inl ⟨_, rfl⟩) hs))
    · exact .inl (.inr ⟨o, e _ _ (.inr ⟨_, _, rfl⟩) hs⟩)
    · exact .inr hs
theorem KeyAts.stay {K : PySem.W.Frag} {H H' : Hp} (e : ∀ b u, TK u → H b = some u → H' b = some u) : ∀ (ks : List NestedKey) (vs : List V), KeyAts K H ks vs → KeyAts K H' ks vs
  | [], vs, h => by rw [KeyAts] at h ⊢; exact h
  | k :: ks, vs, h => by
    rw [KeyAts] at h ⊢
    obtain ⟨v, vs', rfl, h1, h2⟩ := h
    exact ⟨v, vs', rfl, KeyAt.stay e k v h1, KeyAts.stay e ks vs' h2⟩
end
structure DxM (K : PySem.W.Frag) (H : Hp) (a : Addr) (ks : List NestedKey) (us : List (Int × Addr × V)) : Prop where
  at_ : ∃ o, H a = some (MX a o us) ∧ DxO a o us
  hs : us.map (·.1) = ks.map nkHash
  nd : ks.Nodup
  ok : ∀ k ∈ ks, nkOk k = true
  ky : KeyAts K H ks (us.map fun u => .ref u.2.1)
theorem TK.noMX {u : HO} (h : TK u) {a : Addr} {o : Obj} {us : List (Int × Addr × V)} : u ≠ MX a o us := fun z => by
  rcases h with ⟨xs, rfl⟩ | ⟨o, xs, rfl⟩ <;> cases z
section
variable {X : Cx} {pins : List (Addr × Obj)} {σ : L2.St} {H : Hp} {s : Shared} {a : Addr} {ks : List NestedKey} {us : List (Int × Addr × V)} {k : NestedKey} {y v : V} {u r : Value} {A : Around} {E : Value → Shared → Prop}
theorem inv_open {o : Obj} (I : Inv X pins σ H s) (h : H a = some (MX a o us)) (d : DxO a o us) : ∃ o', DxO a o' us ∧ Inv X pins σ (upd H a (Dx a o' us)) s := by
  obtain ⟨q, _, _⟩ := (show ObjOk X.prog X.w H s.heap a (MX a o us) from I.hok a _ h)
  obtain ⟨o', e, d'⟩ := q d
  exact ⟨o', d', I.write (x := a) (e := a) (t' := s.toks) (h' := s.heap) (by rw [h]; exact True.intro) (.inl rfl) (fun b v _ q => q) ⟨o', e⟩ (dx_ok e d')⟩
theorem DxM.open (I : Inv X pins σ H s) (d : DxM X.K H a ks us) : ∃ o0 o', H a = some (MX a o0 us) ∧ DxO a o' us ∧ Inv X pins σ (upd H a (Dx a o' us)) s ∧ DxAt X.K (upd H a (Dx a o' us)) a ks us := by
  obtain ⟨o0, e, d0⟩ := d.at_
  obtain ⟨o', d', I'⟩ := inv_open I e d0
  exact ⟨o0, o', e, d', I', ⟨o', upd_same, d'⟩, d.hs, d.nd, d.ok, d.ky.stay (fun b u hu q => by rw [upd_ne (fun z => by rw [z, e] at q; exact hu.noMX (Option.some.inj q).symm)]; exact q)⟩
theorem DxM.key (d : DxM X.K H a ks us) (hk : KeyAt X.K H k y) {o' : Obj} : KeyAt X.K (upd H a (Dx a o' us)) k y := by
  obtain ⟨o0, e, d0⟩ := d.at_
  exact hk.stay (fun b u hu q => by rw [upd_ne (fun z => by rw [z, e] at q; exact hu.noMX (Option.some.inj q).symm)]; exact q)
end
def tMGet (K : PySem.W.Frag) (td ty : TE) : TE := fun σ H Q => td σ H fun x H1 => ty σ H1 fun y H2 => KH K H2 → ∃ a ks us k z, x = .ref a ∧ DxM K H2 a ks us ∧ nkOk k = true ∧ KeyAt K H2 k y ∧ atK k ks us = some z ∧ Q z.2.2 H2
def rMIn (K : PySem.W.Frag) : R2 := fun y x H Q => ∃ a ks us k, x = .ref a ∧ DxM K H a ks us ∧ nkOk k = true ∧ KeyAt K H k y ∧ Q (.bl ((atK k ks us).isSome != true)) H
def sMPut (K : PySem.W.Frag) (td ty tv : TE) : TS := fun D σ H => tv σ H fun v H1 => td σ H1 fun x H2 => ty σ H2 fun y H3 => KH K H3 → ∃ a ks us k b, x = .ref a ∧ y = .ref b ∧ DxM K H3 a ks us ∧ nkOk k = true ∧ KeyAt K H3 k y ∧ us.length < sizeLine ∧ ∀ o', DxO a o' (putU ks us k b v) → D.nx σ (upd H3 a (MX a o' (putU ks us k b v)))
def tFldR (K : PySem.W.Frag) (ta : TE) (f : Str) : TE := fun σ H Q => ta σ H fun x H1 => ∃ a o C dx fs v, x = .ref a ∧ H1 a = some (.frz o (.ins C dx fs)) ∧ Cls K C ∧ NoAttr K C f ∧ fs.lookup f = some v ∧ Q v H1
section
variable {X : Cx} {o i e f value : Expr} {pos pos' tpos apos cpos : Pos} {td ty tx tv ta : TE} {fl : Str}
end
end DV
namespace DV
open PySem L2 PyProof.Rows
def numsK : List NestedKey → Option (List Int)
  | [] => some []
  | .num i :: ks => (numsK ks).map (i :: ·)
  | _ :: _ => none
def keyR : NestedKey → Option (List Int)
  | .tup ks => numsK ks
  | _ => none
@[simp] theorem numsK_map : ∀ ns : List Int, numsK (ns.map NestedKey.num) = some ns
  | [] => rfl
  | n :: ns => by rw [List.map_cons, numsK, numsK_map ns]; rfl
@[simp] theorem keyR_kR (r : List Int) : keyR (kR r) = some r := by rw [kR, keyR, numsK_map]
def pairsT : List NestedKey → List D → Option (List (List Int × Int))
  | [], [] => some []
  | k :: ks, .v (.int n) :: ds => match keyR k, pairsT ks ds with
    | some r, some ps => some ((r, n) :: ps)
    | _, _ => none
  | _, _ => none
@[simp] theorem pairsT_map : ∀ ps : List (List Int × Int), pairsT (ps.map (fun p => kR p.1)) (ps.map (fun p => D.int p.2)) = some ps
  | [] => rfl
  | p :: ps => by
    rw [List.map_cons, List.map_cons]
    show (match keyR (kR p.1), pairsT (ps.map (fun p => kR p.1)) (ps.map (fun p => D.int p.2)) with | some r, some qs => some ((r, p.2) :: qs) | _, _ => none) = _
    rw [keyR_kR, pairsT_map ps]
def asTally : D → Option (List Int × List (List Int × Int))
  | .ins c ns [.tup sz, .dtt ks vs] => if c = ("Tally" : Str) ∧ ns = [("sizes" : Str), ("known" : Str)] then match intsD sz, pairsT ks vs with
    | some s, some p => some (s, p)
    | _, _ => none else none
  | _ => none
@[simp] theorem asTally_tally (s : List Int) (p : List (List Int × Int)) : asTally (Fw.tally s p) = some (s, p) := by
  unfold Fw.tally asTally
  simp only [and_self, if_true, intsD_map, pairsT_map]
def worP (td ad : D) (k : NestedKey) : Option (Int × Int) := match asTally td, ad, k with
  | some (sz, ps), .v (.int a), .tup [.num c, kl] => match keyR kl with
    | some L => if k ∈ famKeys then some (Fw.top sz ps c.toNat L a / (Int.gcd (Fw.top sz ps c.toNat L a) (Fw.bot sz ps L a) : Int), Fw.bot sz ps L a / (Int.gcd (Fw.top sz ps c.toNat L a) (Fw.bot sz ps L a) : Int)) else none
    | none => none
  | _, _, _ => none
theorem kR_injw {a b : List Int} (h : kR a = kR b) : a = b := by
  have := congrArg keyR h
  rw [keyR_kR, keyR_kR] at this
  exact Option.some.inj this
theorem tally_eq {s s' : List Int} {p p' : List (List Int × Int)} (h : Fw.tally s p = Fw.tally s' p') : s = s' ∧ p = p' := by
  have := congrArg asTally h
  rw [asTally_tally, asTally_tally] at this
  cases this
  exact ⟨rfl, rfl⟩
theorem famR_one {td ad : D} {k : NestedKey} {d d' : D} (h : famR td ad k d) (h' : famR td ad k d') : d = d' := by
  obtain ⟨sz, ps, c, L, a, e1, e2, e3, e4⟩ := h
  obtain ⟨sz', ps', c', L', a', f1, f2, f3, f4⟩ := h'
  obtain ⟨rfl, rfl⟩ := tally_eq (e1.symm.trans f1)
  have ha := e2.symm.trans f2
  simp only [D.int, D.v.injEq, V.int.injEq] at ha
  subst ha
  have hk := e3.symm.trans f3
  simp only [NestedKey.tup.injEq, List.cons.injEq, NestedKey.num.injEq, and_true] at hk
  obtain ⟨hc, hl⟩ := hk
  have hl := kR_injw hl
  subst hl
  have hc : c = c' := by omega
  subst hc
  rw [e4, f4]
def KB (K : PySem.W.Frag) (B : Hp) : Prop := ∀ a o, K.lookup a = some o → B a = none
section
variable {K : PySem.W.Frag} {B : Hp}
end
end DV
namespace DV
open PySem L2 PyProof.Rows
theorem famKeys_len : famKeys.length = 384 := by decide +kernel
section
variable {K : PySem.W.Frag} {B H : Hp}
theorem repK_rel {k : NestedKey} {v : V} {d : D} (rv : Rp K B v d) : ∀ {ks : List NestedKey} {us : List (Int × Addr × V)} {ds : List D}, RpA K B (us.map (·.2.2)) ds → (∀ i : Nat, ks[i]? = some k → ds[i]? = some d) → RpA K B ((repK k (fun u => (u.1, u.2.1, v)) ks us).map (·.2.2)) ds
  | [], us, ds, r, _ => by
    have e2 : repK k (fun u : Int × Addr × V => (u.1, u.2.1, v)) [] us = us := by cases us <;> rfl
    rw [e2]; exact r
  | _ :: _, [], ds, r, _ => r
  | k' :: ks, u :: us, ds, r, h => by
    rw [List.map_cons] at r
    cases r with
    | cons r1 r2 =>
      have h' : ∀ i : Nat, ks[i]? = some k → _ := fun i hi => h (i + 1) (by simpa using hi)
      rw [repK, List.map_cons]
      refine .cons ?_ (repK_rel rv r2 fun i hi => by simpa using h (i + 1) (by simpa using hi))
      by_cases e : k' = k
      · rw [if_pos e]
        have := h 0 (by simp [e])
        simp only [List.getElem?_cons_zero, Option.some.injEq] at this
        rw [this]
        exact rv
      · rw [if_neg e]; exact r1
theorem EntOk.len {τ : D × D} {us : List (Int × Addr × V)} {ks : List NestedKey} {ds : List D} (h : EntOk K B τ us ks ds) : us.length ≤ 384 ∧ ks.length = us.length ∧ ds.length = us.length := by
  have h1 := congrArg List.length h.hs
  have h2 := h.rv.length
  have h3 := h.nd.length_le_of_subset (fun k hk => h.fk k hk)
  rw [famKeys_len] at h3
  simp only [List.length_map] at h1 h2
  omega
theorem EntOk.put {τ : D × D} {us : List (Int × Addr × V)} {ks : List NestedKey} {ds : List D} {k : NestedKey} {b : Addr} {v : V} {d : D} (h : EntOk K B τ us ks ds) (ok : nkOk k = true) (rk : Rp K B (.ref b) (nkD k)) (rv : Rp K B v d) (fr : famR τ.1 τ.2 k d) (fk : k ∈ famKeys) :
    ∃ ks' ds', EntOk K B τ (putU ks us k b v) ks' ds' ∧ k ∈ ks' := by
  obtain ⟨l1, l2, l3⟩ := h.len
  have iff := atK_iff (xs := us) l2 k
  unfold putU
  by_cases hk : k ∈ ks
  · rw [if_pos (iff.mpr hk)]
    refine ⟨ks, ds, ⟨?_, h.nd, h.ok, ?_, repK_rel rv h.rv fun i hi => ?_, h.fr, h.fk⟩, hk⟩
    · rw [repK_keep k (fun u : Int × Addr × V => (u.1, u.2.1, v)) (·.1) (fun _ => rfl)]; exact h.hs
    · rw [repK_keep k (fun u : Int × Addr × V => (u.1, u.2.1, v)) (fun u => V.ref u.2.1) (fun _ => rfl)]; exact h.rk
    · obtain ⟨d', e, f⟩ := h.fr i k hi
      rw [e, famR_one f fr]
  · have : ¬ (atK k ks us).isSome = true := fun z => hk (iff.mp z)
    rw [if_neg this]
    refine ⟨ks ++ [k], ds ++ [d], ⟨?_, ?_, ?_, ?_, ?_, fun i k' hi => ?_, ?_⟩, by simp⟩
    · rw [List.map_append, List.map_append, h.hs]; rfl
    · rw [List.nodup_append]
      refine ⟨h.nd, by simp, fun a ha b hb => ?_⟩
      rw [List.mem_singleton.mp hb]
      exact fun z => hk (z ▸ ha)
    · intro x hx
      rcases List.mem_append.mp hx with hx | hx
      · exact h.ok x hx
      · rw [List.mem_singleton.mp hx]; exact ok
    · rw [List.map_append, nkDs_app]; exact h.rk.append (.cons rk .nil)
    · rw [List.map_append]; exact h.rv.append (.cons rv .nil)
    · by_cases hl : i < ks.length
      · rw [List.getElem?_append_left hl] at hi
        obtain ⟨d', e, f⟩ := h.fr i k' hi
        exact ⟨d', by rw [List.getElem?_append_left (by omega)]; exact e, f⟩
      · rw [List.getElem?_append_right (by omega)] at hi
        have : i - ks.length = 0 := by
          have := (List.getElem?_eq_some_iff.mp hi).1
          simp at this
          omega
        rw [this] at hi
        simp only [List.getElem?_cons_zero, Option.some.injEq] at hi
        subst hi
        refine ⟨d, ?_, fr⟩
        rw [List.getElem?_append_right (by omega)]
        have : i - ds.length = 0 := by omega
        rw [this]
        rfl
    · intro x hx
      rcases List.mem_append.mp hx with hx | hx
      · exact h.fk x hx
      · rw [List.mem_singleton.mp hx]; exact fk
end
end DV
namespace DV
open PySem L2 PyProof.Rows
def cWorB (i ic il : Nat) (ff : DS → Res D) : DS → Fl := fun δ => match δ[i]?, δ[ic]?, δ[il]? with
  | some (some (.im (.wor td ad))), some (some (.im dc)), some (some (.im dl)) => match keyD (.tup [dc, dl]), ff δ with
    | some k, .ok (.tup [.v (.int x), .v (.int y)]) => if worP td ad k = some (x, y) then .rt (.tup [.int x, .int y]) else .no
    | _, _ => .no
  | _, _, _ => .no
section
variable {K : PySem.W.Frag} {B0 : Hp} {H0 : Org} {B H : Hp} {σ : L2.St} {δ : DS}
end
section
variable {X : Cx} {W : WX}
def oFldW (f : Str) : D → Res D
  | .wor td ad => if f = ("counted" : Str) then .ok td else if f = ("ahead" : Str) then .ok ad else .no
  | _ => .no
def cFldW (f : Str) (fa : DS → Res D) : DS → Res D := fun δ => (fa δ).bind (oFldW f)
end
def tMethR (C : Addr) (m : Str) (sp : Sp) (dvs : List V) (E : L2.St → XK) (ta : TE) (t : TA) : TE := fun σ H Q => ta σ H fun x H1 => ∃ a o dx fs, x = .ref a ∧ H1 a = some (.frz o (.ins C dx fs)) ∧ fs.lookup m = none ∧ t σ H1 fun vs H2 => sp (x :: (vs ++ dvs)) H2 Q (E σ)
section
variable {X : Cx} {CX : CXT} {k : Nat} {f C : Addr} {fd : FuncData} {ps : List Str} {sp : Sp} {dvs : List V} {ds : List Value} {E : L2.St → XK} {x m : Str} {p pos apos : Pos} {e o : Expr} {es : List Expr} {ta : TE} {t : TA}
end
section
variable {X : Cx} {W : WX} {K : PySem.W.Frag}
def cMthW (m : Str) (F : List D → Res D) (dd : List D) (fa : DS → Res D) (f : DS → Res (List D)) : DS → Res D := fun δ => (fa δ).bind fun x => match x with
  | .wor td ad => if m ∉ [("counted" : Str), "ahead", "told"] then (f δ).bind fun ds => F (.wor td ad :: (ds ++ dd)) else .no
  | _ => .no
def cOr (f g : DS → Res D) : DS → Res D := fun δ => match f δ with
  | .no => g δ
  | r => r
end
end DV
namespace DV
open PySem L2 PyProof.Rows
def tHide (t : TE) : TE := fun σ H Q => t σ H fun v H1 => ∃ x C dx fs m o us, v = .ref x ∧ H1 x = some (.ins C dx fs) ∧ H1 m = some (Dx m o us) ∧ DxO m o us ∧ m ≠ x ∧ ∀ od, Q v (upd (upd H1 x (.frz od (.ins C dx fs))) m (MX m o us))
def niceB : D → D → Bool
  | td, .v (.int _) => (asTally td).isSome
  | _, _ => false
def worD : T → Res D
  | .nd (.ob c ns) [.im td, .im ad, .nd (.dt []) []] => if c = ("Worths" : Str) ∧ ns = [("counted" : Str), "ahead", "told"] ∧ niceB td ad = true then .ok (.wor td ad) else .no
  | _ => .no
def cHide (f : DS → Res T) : DS → Res D := fun δ => (f δ).bind worD
section
variable {X : Cx} {W : WX} {K : PySem.W.Frag}
theorem three {α : Type} {vs : List α} (h : vs.length = 3) : ∃ a b c, vs = [a, b, c] := by
  match vs, h with
  | [a, b, c], _ => exact ⟨a, b, c, rfl⟩
end
end DV
namespace DV
open PySem L2
def oShl : D → D → Res D
  | .v (.int i), .v (.int j) => if 0 ≤ j ∧ j.natAbs ≤ 1000000 ∧ i.natAbs < 18446744073709551616 then .ok (.int (i * 2 ^ j.toNat)) else .no
  | _, _ => .no
def oShr : D → D → Res D
  | .v (.int i), .v (.int j) => if 0 ≤ j then .ok (.int (i / 2 ^ j.toNat)) else .no
  | _, _ => .no
def oAnd : D → D → Res D
  | .v (.int i), .v (.int j) => .ok (.int (Builtin.bitAnd i j))
  | _, _ => .no
def oXor : D → D → Res D
  | .v (.int i), .v (.int j) => .ok (.int (Builtin.bitXor i j))
  | _, _ => .no
section
variable {X : Cx} {W : WX} {K : PySem.W.Frag}
theorem ro_shl : RO K (rI CPow fun i j => .int (i * 2 ^ j.toNat)) oShl := ro_I fun d e z h => by
  unfold oShl at h
  split at h
  · split at h
    · rename_i hj
      cases h; exact ⟨_, _, rfl, rfl, ⟨hj.1, by omega, by omega⟩, rfl⟩
    · cases h
  · cases h
theorem cm_shl : Calm2 oShl := fun d e x => by unfold oShl; split <;> (try split) <;> simp
theorem ro_shr : RO K (rI (fun _ j => 0 ≤ j) fun i j => .int (i / 2 ^ j.toNat)) oShr := ro_I fun d e z h => by
  unfold oShr at h
  split at h
  · split at h
    · rename_i hj
      cases h; exact ⟨_, _, rfl, rfl, hj, rfl⟩
    · cases h
  · cases h
theorem cm_shr : Calm2 oShr := fun d e x => by unfold oShr; split <;> (try split) <;> simp
theorem ro_and : RO K (rI0 fun i j => .int (Builtin.bitAnd i j)) oAnd := ro_I0 fun d e z h => by
  unfold oAnd at h
  split at h
  · cases h; exact ⟨_, _, rfl, rfl, rfl⟩
  · cases h
theorem cm_and : Calm2 oAnd := fun d e x => by unfold oAnd; split <;> simp
theorem ro_xor : RO K (rI0 fun i j => .int (Builtin.bitXor i j)) oXor := ro_I0 fun d e z h => by
  unfold oXor at h
  split at h
  · cases h; exact ⟨_, _, rfl, rfl, rfl⟩
  · cases h
theorem cm_xor : Calm2 oXor := fun d e x => by unfold oXor; split <;> simp
theorem o_shl : OK2 X (binaryOp .LShift) (rI CPow fun i j => .int (i * 2 ^ j.toNat)) oShl := ⟨op_shl, ro_shl, cm_shl⟩
theorem o_shr : OK2 X (binaryOp .RShift) (rI (fun _ j => 0 ≤ j) fun i j => .int (i / 2 ^ j.toNat)) oShr := ⟨op_shr, ro_shr, cm_shr⟩
theorem o_and : OK2 X (binaryOp .BitAnd) (rI0 fun i j => .int (Builtin.bitAnd i j)) oAnd := ⟨op_and, ro_and, cm_and⟩
theorem o_xor : OK2 X (binaryOp .BitXor) (rI0 fun i j => .int (Builtin.bitXor i j)) oXor := ⟨op_xor, ro_xor, cm_xor⟩
theorem FldK.wor {cs : List Str} {f : Str} (h : FldK K cs f) (hc : ("Worths" : Str) ∈ cs := by decide) : FldK K ["Worths"] f := fun c hc' => by
  rw [List.mem_singleton.mp hc']
  exact h _ hc
end
end DV
namespace DV
open PySem L2
def imsOf : List T → Option (List D)
  | [] => some []
  | .im d :: ts => (imsOf ts).map fun ds => d :: ds
  | _ :: _ => none
section
variable {X : Cx} {W : WX} {K : PySem.W.Frag}
def cTput (i : Nat) (fi fe : DS → Res D) : DS → Fl := fun δ => match nodeAt δ i [] with
  | some (.nd .ls us) => match imsOf us with
    | some ds => stE (fe δ) δ fun d => stE (fi δ) δ fun y => match y with
      | .v (.int k) => match ixN ds.length k with
        | some j => .nx (putAt δ i [] (.nd .ls ((ds.set j d).map T.im)))
        | none => .no
      | _ => .no
    | none => .no
  | _ => .no
end
end DV
namespace DV
open PySem L2 PyProof.Rows
section
variable {P : Program} {w : World} {K : PySem.W.Frag} {mg : Str → Option Value} {base : Heap}
end
section
variable {X : Cx} {W : WX} {K : PySem.W.Frag}
def cKwF (F : List D → Res (List D)) (l : List (Pk D)) (fa fk : DS → Res (List D)) : DS → Res (List D) := fun δ => (fa δ).bind fun ds => (fk δ).bind fun es => F (pkD l ds es)
end
end DV
namespace DV
open PySem L2
section
variable {X : Cx} {i : Nat}
end
end DV
namespace DV
open PySem L2
structure Mk0 (K : PySem.W.Frag) (C : Addr) : Prop where
  makes : PySem.W.makesIn K C = true
  init : PySem.W.findIn K (.ref C) "__init__" = some (some (.builtin "object.__init__"))
  kp : PySem.W.keepIn K (.ref C) = true
def tMk0S (C : Addr) : TE := fun σ H Q => ∀ x dx, H x = none → H dx = none → dx ≠ x → Q (.ref x) (upd (upd H dx (.own x)) x (.ins C dx []))
section
variable {X : Cx} {C : Addr} {x : Str} {p pos : Pos}
theorem run_make0 {pins : List (Addr × Obj)} {σ : L2.St} {H : Hp} {s : Shared} {Q : VK} (M : Mk0 X.K C) (I : Inv X pins σ H s)
    (h : ∀ x dx, H x = none → H dx = none → dx ≠ x → Q (.ref x) (upd (upd H dx (.own x)) x (.ins C dx []))) :
    wpAny (model X.prog X.w) X.A (call (.ref C) []) (EP X pins σ Q) X.xe s := by
  have hq := h (s.heap.objs.size + 1) s.heap.objs.size (I.hok.fresh (Nat.le_succ _)) (I.hok.fresh (Nat.le_refl _)) (Nat.ne_of_lt (Nat.lt_succ_self _))
  have I2 := Inv.made (C := C) I
  have X2 := I.kIn
  obtain ⟨hh, g, d, t, os⟩ := s
  dsimp only at X2 I2 hq
  have Y := PySem.W.makes_of (M := model X.prog X.w) X2 M.makes
  have k : ∀ b o, hh.get? b = some o → ((hh.push PySem.W.emptyDict).push (PySem.W.instObj C hh.objs.size)).get? b = some o := fun b o e => Heap.get?_push_of_some _ (Heap.get?_push_of_some _ e)
  have hx : ((hh.push PySem.W.emptyDict).push (PySem.W.instObj C hh.objs.size)).get? (hh.objs.size + 1) = some (PySem.W.instObj C hh.objs.size) := by heap_get
  have t1 : PySem.W.Looks (model X.prog X.w) ((hh.push PySem.W.emptyDict).push (PySem.W.instObj C hh.objs.size)) (typeOf (.ref (hh.objs.size + 1))) (.ref C) := (PySem.W.Looks.ld hx).andThen .now
  have t2 : PySem.W.Looks (model X.prog X.w) ((hh.push PySem.W.emptyDict).push (PySem.W.instObj C hh.objs.size)) (isInstance (.ref (hh.objs.size + 1)) (.type "object")) true := t1.andThen (Y.top.keeps k)
  refine wpAny_call (PySem.W.make_core Y (PySem.W.looks_findIn X2 M.init) (fun self => PySem.W.Looks.of_pure (PySem.W.oi_bind self)) (.inr ⟨rfl, rfl⟩) ?_)
  refine codeAny_call_builtin PySem.W.oi_plain PySem.W.entry_oi (@PySem.W.check_slot (model X.prog X.w) _ _ _ "object.__init__" "object" "__init__" (.ref (hh.objs.size + 1)) [] [] _ PySem.W.oi_kind PySem.W.oi_split t2 (PySem.W.oi_args (.ref (hh.objs.size + 1))) ?_)
  rw [PySem.W.oi_run]
  exact wpAny_pure ⟨rfl, ⟨V.ref (hh.objs.size + 1), _, I2, rfl, hq⟩⟩
theorem pe_mk0 (M : Mk0 X.K C) (hg : Gl X x) (hm : X.mg x = some (.ref C)) (hdb : (x == ("__debug__" : Str)) = false := by decide) : PE X (.Call (.Name x p) [] [] pos) (tMk0S C) := by
  refine ⟨fun pins s σ H Q I h => ?_⟩
  refine wpAny_Call_Name_kw (ld_glob I hg hm ?_ hdb)
  exact PySem.W.callWith_K0 I.kIn M.kp (run_make0 M I h)
end
section
variable {K : PySem.W.Frag} {W : WX}
def cMk0 (c : Str) : DS → Res T := fun _ => .ok (.nd (.ob c []) [])
theorem sn_mk0 {c : Str} {C : Addr} (k : clsV K c = some (.ref C)) : SN K W (tMk0S C) (cMk0 c) := fun B0 H0 δ σ B H Q rel hp => by
  unfold cMk0 at hp
  intro x dx hx hdx ne
  have s1 : Same H (upd H dx (.own x)) := same_new hdx
  have hx' : upd H dx (.own x) x = none := by rw [upd_ne (Ne.symm ne)]; exact hx
  have s2 : Same (upd H dx (.own x)) (upd (upd H dx (.own x)) x (.ins C dx [])) := same_new hx'
  have hdx2 : upd (upd H dx (.own x)) x (.ins C dx []) dx = some (.own x) := by rw [upd_ne ne, upd_same]
  have rt : RT K B (upd (upd H dx (.own x)) x (.ins C dx [])) (.nd (.ob c []) []) (.ref x) := by
    rw [RT]
    exact ⟨x, [], [x, dx], rfl, ⟨C, dx, [], upd_same, hdx2, k, rfl, rfl, rfl⟩, by rw [RTA]; trivial, fun q _ z => by rw [FTA] at z; exact z, trivial⟩
  have ft : ∀ q, FT K (upd (upd H dx (.own x)) x (.ins C dx [])) (.nd (.ob c []) []) (.ref x) q ↔ q = x ∨ q = dx := fun q => by
    rw [FT]
    constructor
    · rintro ⟨p, vs, fp, z, hc, h⟩
      cases z
      obtain ⟨C', dx', fs, h1, h2, h3, h4, h5, rfl⟩ := hc
      rw [upd_same] at h1
      cases h1
      rcases h with h | h
      · simpa using h
      · rw [FTA] at h; exact h.elim
    · intro h
      exact ⟨x, [], [x, dx], rfl, ⟨C, dx, [], upd_same, hdx2, k, rfl, rfl, rfl⟩, .inl (by simpa using h)⟩
  have g1 : Grow K B H B (upd H dx (.own x)) := Grow.raw rel.g.i hdx
  have g2 : Grow K B (upd H dx (.own x)) B (upd (upd H dx (.own x)) x (.ins C dx [])) := Grow.raw g1.i hx'
  refine hp (.ref x) B _ (g1.trans g2) rt fun q hq => ?_
  rcases (ft q).mp hq with rfl | rfl
  · exact ⟨hx, rel.g.i.free hx⟩
  · exact ⟨hdx, rel.g.i.free hdx⟩
end
section
variable {X : Cx} {W : WX}
theorem cn_mk0 (K : PySem.W.Frag) (hK : X.K = K) {c : Str} {C : Addr} {p pos : Pos} (kc : ClK K c C) (M : Mk0 K C) (hm : X.mg c = some (.ref C)) (hg : Gl X c := by rfl) (hdb : (c == ("__debug__" : Str)) = false := by decide) :
    CN X W (.Call (.Name c p) [] [] pos) (tMk0S C) (cMk0 c) := by
  subst hK
  exact ⟨pe_mk0 M hg hm hdb, sn_mk0 kc.v⟩
end
end DV
namespace My
open PySem L2 DV
abbrev g_shared_l1 : DS → Fl :=
  (cPar 0 1 (cCons (cVar 1) (cCons (cBin oMod (cVar 0) (cVar 1)) cNil)))
def g_shared : DS → Fl :=
  (cSeq (cPar 0 1 (cCons (cCall gAbs (cCons (cVar 0) cNil)) (cCons (cCall gAbs (cCons (cVar 1) cNil)) cNil)))
  (cSeq (cWhile (fuelI 1) (cTest (cBin oNe (cVar 1) (cC (.int 0)))) g_shared_l1)
  (cRet (cVar 0))))
def F_shared : List D → Res D := defF 0 g_shared
def g_lowest : DS → Fl :=
  (cSeq (cIf (cTest (cBin oEq (cVar 1) (cC (.int 0)))) (cRaise "ByNought" (fd1 "word" "bynought") cNil) cNext)
  (cSeq (cAsg 2 (cFn0 F_shared (cCons (cVar 0) (cCons (cVar 1) cNil))))
  (cSeq (cIf (cTest (cBin oLt (cVar 1) (cC (.int 0)))) (cAsg 2 (cUn oNeg (cVar 2))) cNext)
  (cRet (cTup (cCons (cBin oFdiv (cVar 0) (cVar 2)) (cCons (cBin oFdiv (cVar 1) (cVar 2)) cNil)))))))
def F_lowest : List D → Res D := defF 1 g_lowest
def g_plus : DS → Fl :=
  (cRet (cFn0 F_lowest (cCons (cBin oAdd (cBin oMul2 (cBin oIx (cVar 0) (cC (.int 0))) (cBin oIx (cVar 1) (cC (.int 1)))) (cBin oMul2 (cBin oIx (cVar 1) (cC (.int 0))) (cBin oIx (cVar 0) (cC (.int 1))))) (cCons (cBin oMul2 (cBin oIx (cVar 0) (cC (.int 1))) (cBin oIx (cVar 1) (cC (.int 1)))) cNil))))
def F_plus : List D → Res D := defF 0 g_plus
def g_minus : DS → Fl :=
  (cRet (cFn0 F_plus (cCons (cVar 0) (cCons (cTup (cCons (cUn oNeg (cBin oIx (cVar 1) (cC (.int 0)))) (cCons (cBin oIx (cVar 1) (cC (.int 1))) cNil))) cNil))))
def F_minus : List D → Res D := defF 0 g_minus
def g_times : DS → Fl :=
  (cRet (cFn0 F_lowest (cCons (cBin oMul2 (cBin oIx (cVar 0) (cC (.int 0))) (cBin oIx (cVar 1) (cC (.int 0)))) (cCons (cBin oMul2 (cBin oIx (cVar 0) (cC (.int 1))) (cBin oIx (cVar 1) (cC (.int 1)))) cNil))))
def F_times : List D → Res D := defF 0 g_times
abbrev g_summed_l1 : DS → Fl :=
  (cAsg 2 (cFn0 F_plus (cCons (cVar 2) (cCons (cVar 3) cNil))))
def g_summed : DS → Fl :=
  (cSeq (cAsg 2 (cVar 1))
  (cSeq (cFor (cItems (cVar 0)) (bName 3) g_summed_l1)
  (cRet (cVar 2))))
def F_summed : List D → Res D := defF 2 g_summed
abbrev g_subsets_l1 : DS → Fl :=
  (cAsg 1 (cBin oAdd (cVar 1) (cL (cLc [3] (cItems (cVar 1)) (bName 3) cYes (cBin oAdd (cVar 3) (cTup (cCons (cVar 2) cNil)))))))
def g_subsets : DS → Fl :=
  (cSeq (cAsg 1 (cL (cCons (cTup cNil) cNil)))
  (cSeq (cFor (cItems (cVar 0)) (bName 2) g_subsets_l1)
  (cRet (cL (cSrtA (cVar 1))))))
def F_subsets : List D → Res D := defF 3 g_subsets
def g_may_lean : DS → Fl :=
  (cSeq (cIf (cAndT (cTest (cBin (oIsN true) (cVar 4) (cC .non))) (cTest (cBin oGt (cCall gLen (cCons (cVar 1) cNil)) (cVar 4)))) (cRet (cC (.bl false))) cNext)
  (cSeq (cIf (cTest (cCall gAny (cCons (cL (cLc [5, 6] (cItems (cVar 3)) (bTup 2 (bCons (bName 5) (bCons (bName 6) bNil))) cYes (cAndV (cBin oEq (cVar 6) (cVar 0)) (cBin (oInA false) (cVar 5) (cVar 1))))) cNil))) (cRet (cC (.bl false))) cNext)
  (cRet (cCall gAll (cCons (cL (cLc [5, 6] (cItems (cVar 2)) (bTup 2 (bCons (bName 5) (bCons (bName 6) bNil))) (cTest (cBin oEq (cVar 6) (cVar 0))) (cBin (oInA false) (cVar 5) (cVar 1)))) cNil)))))
def F_may_lean : List D → Res D := defF 2 g_may_lean
def g_members : DS → Fl :=
  (cRet (cL (cLc [2] (cIt gRange1 (cCons (cVar 1) cNil)) (bName 2) (cTest (cBin oEq (cBin oAnd (cBin oShr (cVar 0) (cVar 2)) (cC (.int 1))) (cC (.int 1)))) (cVar 2))))
def F_members : List D → Res D := defF 1 g_members
def g_choices : DS → Fl :=
  (cRet (cL (cLc [5] (cItems (cFn0 F_subsets (cCons (cVar 1) cNil))) (bName 5) (cTest (cFn0 F_may_lean (cCons (cVar 0) (cCons (cVar 5) (cCons (cVar 2) (cCons (cVar 3) (cCons (cVar 4) cNil))))))) (cVar 5))))
def F_choices : List D → Res D := defF 1 g_choices
def g_Plain_worth_of : DS → Fl :=
  (cRet (cC (.tup [(.int 1), (.int 1)])))
def F_Plain_worth_of : List D → Res D := defF 0 g_Plain_worth_of
abbrev g_last_ones_l1 : DS → Fl :=
  (cSeq (cAsg 11 (cFn0 F_choices (cCons (cVar 10) (cCons (cVar 8) (cCons (cVar 5) (cCons (cVar 6) (cCons (cVar 7) cNil)))))))
  (cAsg 9 (cFn0 F_times (cCons (cVar 9) (cCons (cFn F_summed [(.tup [(.int 0), (.int 1)])] (cCons (cL (cLc [12] (cItems (cVar 11)) (bName 12) cYes (cMth "Plain" "worth_of" F_Plain_worth_of [] (cVar 0) (cCons (cVar 10) (cCons (cVar 12) cNil))))) cNil)) cNil)))))
def g_last_ones : DS → Fl :=
  (cSeq (cAsgG (bTup 3 (bCons (bName 5) (bCons (bName 6) (bCons (bName 7) bNil)))) (cVar 4))
  (cSeq (cAsg 8 (cFn0 F_members (cCons (cBin oXor (cVar 2) (cVar 3)) (cCons (cVar 1) cNil))))
  (cSeq (cAsg 9 (cC (.tup [(.int 1), (.int 1)])))
  (cSeq (cFor (cItems (cFn0 F_members (cCons (cVar 3) (cCons (cVar 1) cNil)))) (bName 10) g_last_ones_l1)
  (cRet (cVar 9))))))
def F_last_ones : List D → Res D := defF 8 g_last_ones
abbrev g_total_by_l1 : DS → Fl :=
  (cSeq (cAsg 9 (cLookL 5 (cFn0 F_times (cCons (cBin oIx (cVar 5) (cBin oXor (cVar 6) (cVar 8))) (cCons (cFn0 F_last_ones (cCons (cVar 0) (cCons (cVar 1) (cCons (cVar 6) (cCons (cVar 8) (cCons (cTup (cCons (cVar 2) (cCons (cVar 3) (cCons (cVar 4) cNil)))) cNil)))))) cNil)))))
  (cSeq (cAsg 7 (cIfE (cTest (cBin oEq (cBin oMod (cCall gLen (cCons (cFn0 F_members (cCons (cVar 8) (cCons (cVar 1) cNil))) cNil)) (cC (.int 2))) (cC (.int 1)))) (cFn0 F_plus (cCons (cVar 7) (cCons (cVar 9) cNil))) (cFn0 F_minus (cCons (cVar 7) (cCons (cVar 9) cNil)))))
  (cAsg 8 (cBin oAnd (cBin oSub (cVar 8) (cC (.int 1))) (cVar 6)))))
abbrev g_total_by_l2 : DS → Fl :=
  (cSeq (cAsg 7 (cC (.tup [(.int 0), (.int 1)])))
  (cSeq (cAsg 8 (cVar 6))
  (cSeq (cWhile (fuelI 8) (cTest (cBin oGt (cVar 8) (cC (.int 0)))) g_total_by_l1)
  (cApp 5 (cVar 7)))))
def g_total_by : DS → Fl :=
  (cSeq (cOwn 5 (cCons (cC (.tup [(.int 1), (.int 1)])) cNil))
  (cSeq (cFor (cIt gRange2 (cCons (cC (.int 1)) (cCons (cBin oShl (cC (.int 1)) (cVar 1)) cNil))) (bName 6) g_total_by_l2)
  (cFz 5 (cRet (cBin oIx (cVar 5) (cUn oNeg (cC (.int 1))))))))
def F_total_by : List D → Res D := defF 5 g_total_by
def g_many_webs : DS → Fl :=
  (cSeq (cIf (cOrT (cTest (cBin oLt (cVar 0) (cC (.int 1)))) (cTest (cBin oGt (cVar 0) (cC (.int 6))))) (cRaise "BadMany" (fd1 "word" "badmany") cNil) cNext)
  (cRet (cBin oIx (cFn0 F_total_by (cCons (cNd (cMk0 "Plain")) (cCons (cVar 0) (cCons (cVar 1) (cCons (cVar 2) (cCons (cVar 3) cNil)))))) (cC (.int 0)))))
def F_many_webs : List D → Res D := defF 0 g_many_webs
def g__law_cell : DS → Fl :=
  (cSeq (cIf (cTest (cBin oLt (cVar 1) (cCall gLen (cCons (cVar 0) cNil)))) (cRet (cBin oIx (cVar 0) (cVar 1))) cNext)
  (cRet (cC (.int 0))))
def F__law_cell : List D → Res D := defF 0 g__law_cell
abbrev g__law_draws_l1 : DS → Fl :=
  (cSeq (cApp 5 (cBin oMod (cVar 0) (cVar 6)))
  (cAsg 0 (cBin oFdiv (cVar 0) (cVar 6))))
def g__law_draws : DS → Fl :=
  (cSeq (cIf (cTest (cBin oLt (cCall gAbs (cCons (cVar 0) cNil)) (cBin oPow (cC (.int 10)) (cC (.int 18))))) (cSeq (cAsg 2 (cBin oMod (cBin oAdd (cBin oMul2 (cVar 0) (cC (.int 48271))) (cC (.int 11))) (cC (.int 2147483647))))
  (cSeq (cAsg 3 (cBin oMod (cBin oAdd (cBin oAdd (cBin oMul2 (cVar 2) (cVar 2)) (cBin oMul2 (cC (.int 40692)) (cVar 2))) (cVar 0)) (cC (.int 2147483399))))
  (cSeq (cAsg 4 (cBin oMod (cBin oAdd (cBin oMul2 (cVar 3) (cC (.int 16807))) (cVar 2)) (cC (.int 1000000007))))
  (cAsg 0 (cBin oAdd (cVar 3) (cBin oMul2 (cC (.int 2147483399)) (cBin oAdd (cVar 4) (cBin oMul2 (cC (.int 1000000007)) (cVar 2))))))))) (cAsg 0 (cBin oSub (cCall gAbs (cCons (cVar 0) cNil)) (cBin oPow (cC (.int 10)) (cC (.int 18))))))
  (cSeq (cOwn 5 cNil)
  (cSeq (cFor (cItems (cVar 1)) (bName 6) g__law_draws_l1)
  (cFz 5 (cRet (cVar 5))))))
def F__law_draws : List D → Res D := defF 5 g__law_draws
abbrev g__law_arrows_l1 : DS → Fl :=
  (cAsg 1 (cBin oAdd (cVar 1) (cL (cLc [3] (cItems (cBin oIx (cVar 0) (cVar 2))) (bName 3) cYes (cTup (cCons (cVar 3) (cCons (cVar 2) cNil)))))))
def g__law_arrows : DS → Fl :=
  (cSeq (cAsg 1 (cL cNil))
  (cSeq (cFor (cIt gRange1 (cCons (cCall gLen (cCons (cVar 0) cNil)) cNil)) (bName 2) g__law_arrows_l1)
  (cRet (cL (cSrt (cVar 1))))))
def F__law_arrows : List D → Res D := defF 3 g__law_arrows
abbrev g__law_ringless_l1 : DS → Fl :=
  (cAsg 1 (cL (cLc [3] (cIt gRange1 (cCons (cCall gLen (cCons (cVar 0) cNil)) cNil)) (bName 3) (cTest (cCall gAll (cCons (cL (cLc [4] (cItems (cBin oIx (cVar 0) (cVar 3))) (bName 4) cYes (cBin (oInA false) (cVar 4) (cVar 1)))) cNil))) (cVar 3))))
def g__law_ringless : DS → Fl :=
  (cSeq (cAsg 1 (cL cNil))
  (cSeq (cFor (cIt gRange1 (cCons (cCall gLen (cCons (cVar 0) cNil)) cNil)) (bName 2) g__law_ringless_l1)
  (cRet (cBin oEq (cCall gLen (cCons (cVar 1) cNil)) (cCall gLen (cCons (cVar 0) cNil))))))
def F__law_ringless : List D → Res D := defF 4 g__law_ringless
abbrev g__law_all_webs_l1 : DS → Fl :=
  (cIf (cTest (cBin oNe (cVar 4) (cVar 2))) (cAsg 3 (cBin oAdd (cVar 3) (cL (cLc [7] (cItems (cVar 3)) (bName 7) cYes (cBin oAdd (cVar 7) (cTup (cCons (cVar 4) cNil))))))) cNext)
abbrev g__law_all_webs_l2 : DS → Fl :=
  (cAsg 5 (cBin oAdd (cVar 5) (cL (cLc [7] (cItems (cL (cSrtA (cVar 3)))) (bName 7) cYes (cBin oAdd (cVar 6) (cTup (cCons (cVar 7) cNil)))))))
abbrev g__law_all_webs_l3 : DS → Fl :=
  (cSeq (cAsg 3 (cL (cCons (cTup cNil) cNil)))
  (cSeq (cFor (cIt gRange1 (cCons (cVar 0) cNil)) (bName 4) g__law_all_webs_l1)
  (cSeq (cAsg 5 (cL cNil))
  (cSeq (cFor (cItems (cVar 1)) (bName 6) g__law_all_webs_l2)
  (cAsg 1 (cVar 5))))))
def g__law_all_webs : DS → Fl :=
  (cSeq (cAsg 1 (cL (cCons (cTup cNil) cNil)))
  (cSeq (cFor (cIt gRange1 (cCons (cVar 0) cNil)) (bName 2) g__law_all_webs_l3)
  (cRet (cL (cLc [6] (cItems (cVar 1)) (bName 6) (cTest (cFn0 F__law_ringless (cCons (cVar 6) cNil))) (cVar 6))))))
def F__law_all_webs : List D → Res D := defF 7 g__law_all_webs
def g__law_kept : DS → Fl :=
  (cSeq (cAsg 4 (cFn0 F__law_arrows (cCons (cVar 0) cNil)))
  (cSeq (cIf (cOrT (cNotT (cTest (cCall gAll (cCons (cL (cLc [5] (cItems (cVar 1)) (bName 5) cYes (cBin (oInA false) (cVar 5) (cVar 4)))) cNil)))) (cTest (cBin oNe (cL (cLc [5] (cItems (cVar 2)) (bName 5) (cTest (cBin (oInA false) (cVar 5) (cVar 4))) (cVar 5))) (cL cNil)))) (cRet (cC (.bl false))) cNext)
  (cRet (cOrV (cBin (oIsN false) (cVar 3) (cC .non)) (cBin oLe (cCall gMax (cCons (cL (cLc [6] (cItems (cVar 0)) (bName 6) cYes (cCall gLen (cCons (cVar 6) cNil)))) cNil)) (cVar 3))))))
def F__law_kept : List D → Res D := defF 3 g__law_kept
abbrev g__law_bound_l1 : DS → Fl :=
  (cSeq (cAsg 6 (cTup (cCons (cBin oIx (cVar 2) (cBin oAdd (cC (.int 3)) (cBin oMul2 (cC (.int 2)) (cVar 5)))) (cCons (cBin oIx (cVar 2) (cBin oAdd (cC (.int 4)) (cBin oMul2 (cC (.int 2)) (cVar 5)))) cNil))))
  (cIf (cTest (cBin oNe (cBin oIx (cVar 6) (cC (.int 0))) (cBin oIx (cVar 6) (cC (.int 1))))) (cSeq (cIf (cTest (cBin oLt (cVar 5) (cCall gMin (cCons (cC (.int 2)) (cCons (cBin oIx (cVar 2) (cC (.int 0))) cNil))))) (cApp 3 (cVar 6)) cNext)
  (cIf (cAndT (cTest (cBin oGe (cVar 5) (cC (.int 2)))) (cTest (cBin oLt (cBin oSub (cVar 5) (cC (.int 2))) (cBin oIx (cVar 2) (cC (.int 1)))))) (cApp 4 (cVar 6)) cNext)) cNext))
def g__law_bound : DS → Fl :=
  (cSeq (cAsg 2 (cFn0 F__law_draws (cCons (cVar 0) (cCons (cL (cCons (cC (.int 3)) (cCons (cC (.int 3)) (cCons (cC (.int 5)) (cCons (cVar 1) (cCons (cVar 1) (cCons (cVar 1) (cCons (cVar 1) (cCons (cVar 1) (cCons (cVar 1) (cCons (cVar 1) (cCons (cVar 1) (cCons (cC (.int 3)) cNil))))))))))))) cNil))))
  (cSeq (cOwn 3 cNil)
  (cSeq (cOwn 4 cNil)
  (cSeq (cFor (cIt gRange1 (cCons (cC (.int 4)) cNil)) (bName 5) g__law_bound_l1)
  (cSeq (cAsg 7 (cBin oIx (cL (cCons (cC .non) (cCons (cC .non) (cCons (cC (.int 1)) (cCons (cC (.int 2)) (cCons (cC (.int 0)) cNil)))))) (cBin oIx (cVar 2) (cC (.int 2)))))
  (cSeq (cIf (cTest (cBin oEq (cBin oIx (cVar 2) (cC (.int 2))) (cC (.int 1)))) (cAsg 7 (cBin oIx (cL (cCons (cC .non) (cCons (cC (.int 3)) (cCons (cBin oPow (cC (.int 10)) (cC (.int 29))) cNil)))) (cBin oIx (cVar 2) (cC (.int 11))))) cNext)
  (cFz 4 (cFz 3 (cRet (cTup (cCons (cCall gTuple (cCons (cVar 3) cNil)) (cCons (cCall gTuple (cCons (cVar 4) cNil)) (cCons (cVar 7) cNil)))))))))))))
def F__law_bound : List D → Res D := defF 6 g__law_bound
def q__law_word : Clauses :=
  ((tabP [("BadMany", true), ("NothingLeft", false), ("ByNought", false)], 1, (fun x δ => stE ((fun x _ => fldR "word" x) x δ) δ fun z => .rt z)) :: ((tabP [("BadMany", false), ("NothingLeft", false), ("ByNought", false)], 1, (fun x δ => stE ((fun x _ => fldR "word" x) x δ) δ fun z => .rt z)) :: ((tabP [("BadMany", false), ("NothingLeft", true), ("ByNought", false)], 1, (fun x δ => stE ((fun x _ => fldR "word" x) x δ) δ fun z => .rt z)) :: [])))
def g__law_same (rec : List D → Res D) : DS → Fl :=
  (cSeq (cIf (cTest (cBin (oIsN false) (cVar 1) (cC .non))) (cRet (cBin (oIsN false) (cVar 0) (cC .non))) cNext)
  (cSeq (cIf (cTest (cCall gIsi (cCons (cVar 1) (cCons (cC (.v (.ty "str"))) cNil)))) (cRet (cAndV (cCall gIsi (cCons (cVar 0) (cCons (cC (.v (.ty "str"))) cNil))) (cBin oEq (cVar 0) (cVar 1)))) cNext)
  (cSeq (cIf (cTest (cCall gIsi (cCons (cVar 1) (cCons (cC (.v (.ty "int"))) cNil)))) (cRet (cAndV (cCall gIsi (cCons (cVar 0) (cCons (cC (.v (.ty "int"))) cNil))) (cAndV (cBin oEq (cCall gIsi (cCons (cVar 0) (cCons (cC (.v (.ty "bool"))) cNil))) (cCall gIsi (cCons (cVar 1) (cCons (cC (.v (.ty "bool"))) cNil)))) (cBin oEq (cVar 0) (cVar 1))))) cNext)
  (cSeq (cIf (cOrT (cTest (cBin oNe (cCall gIsi (cCons (cVar 1) (cCons (cC (.v (.ty "list"))) cNil))) (cCall gIsi (cCons (cVar 0) (cCons (cC (.v (.ty "list"))) cNil))))) (cTest (cBin oNe (cCall gIsi (cCons (cVar 1) (cCons (cC (.v (.ty "tuple"))) cNil))) (cCall gIsi (cCons (cVar 0) (cCons (cC (.v (.ty "tuple"))) cNil)))))) (cRet (cC (.bl false))) cNext)
  (cRet (cAndV (cBin oEq (cCall gLen (cCons (cVar 0) cNil)) (cCall gLen (cCons (cVar 1) cNil))) (cCall gAll (cCons (cL (cLc [2] (cIt gRange1 (cCons (cCall gLen (cCons (cVar 1) cNil)) cNil)) (bName 2) cYes (cFn0 rec (cCons (cBin oIx (cVar 0) (cVar 2)) (cCons (cBin oIx (cVar 1) (cVar 2)) cNil))))) cNil))))))))
def F__law_same : Nat → List D → Res D
  | 0 => fun _ => .no
  | n + 1 => defF 1 (g__law_same (F__law_same n))
abbrev g_law_l1 : DS → Fl :=
  (cSeq (cAsg 5 (cBin oAdd (cC (.int 1)) (cBin oIx (cFn0 F__law_draws (cCons (cBin oAdd (cVar 4) (cC (.int 7))) (cCons (cL (cCons (cC (.int 4)) cNil)) cNil))) (cC (.int 0)))))
  (cSeq (cAsgG (bTup 3 (bCons (bName 6) (bCons (bName 7) (bCons (bName 8) bNil)))) (cFn0 F__law_bound (cCons (cVar 4) (cCons (cVar 5) cNil))))
  (cSeq (cIf (cAndT (cTest (cBin oEq (cVar 5) (cC (.int 4)))) (cTest (cBin oGt (cBin oMod (cVar 4) (cC (.int 3))) (cC (.int 0))))) cCont cNext)
  (cSeq (cAsg 9 (cCall gLen (cCons (cL (cLc [10] (cItems (cFn0 F__law_all_webs (cCons (cVar 5) cNil))) (bName 10) (cTest (cFn0 F__law_kept (cCons (cVar 10) (cCons (cVar 6) (cCons (cVar 7) (cCons (cVar 8) cNil)))))) (cVar 10))) cNil)))
  (cIf (cNotT (cTest (cFn0 (F__law_same 6) (cCons (cKw F_many_webs [.p 0, .k 1, .k 2, .k 0] (cCons (cVar 5) cNil) (cCons (cVar 8) (cCons (cVar 6) (cCons (cVar 7) cNil)))) (cCons (cVar 9) cNil))))) (cRet (cC (.bl false))) cNext)))))
def g_law : DS → Fl :=
  (cSeq (cAsg 0 (cSl (cVar 0) cNone (cSome (cC (.int 63)))))
  (cSeq (cAsg 1 (cFn0 F__law_draws (cCons (cFn0 F__law_cell (cCons (cVar 0) (cCons (cC (.int 0)) cNil))) (cCons (cL (cCons (cC (.int 5)) (cCons (cC (.int 6)) (cCons (cC (.int 4)) cNil)))) cNil))))
  (cSeq (cIf (cTest (cBin oNe (cL (cLc [2] (cIt gRange2 (cCons (cC (.int 1)) (cCons (cC (.int 6)) cNil))) (bName 2) cYes (cFn F_many_webs [(.tup []), (.tup []), .non] (cCons (cVar 2) cNil)))) (cL (cCons (cC (.int 1)) (cCons (cC (.int 3)) (cCons (cC (.int 25)) (cCons (cC (.int 543)) (cCons (cC (.int 29281)) cNil)))))))) (cRet (cC (.bl false))) cNext)
  (cSeq (cIf (cAndT (cTest (cBin oEq (cBin oIx (cVar 1) (cC (.int 0))) (cC (.int 0)))) (cTest (cBin oNe (cFn F_many_webs [(.tup []), (.tup []), .non] (cCons (cC (.int 6)) cNil)) (cC (.int 3781503))))) (cRet (cC (.bl false))) cNext)
  (cSeq (cAsg 2 (cBin oAdd (cC (.int 2)) (cBin oIx (cVar 1) (cC (.int 2)))))
  (cSeq (cAsg 3 (cBin oIx (cL (cCons (cC (.int 0)) (cCons (cUn oNeg (cC (.int 1))) (cCons (cC (.int 7)) (cCons (cBin oPow (cC (.int 10)) (cC (.int 29))) (cCons (cUn oNeg (cC (.int 9))) (cCons (cC (.int 8)) cNil))))))) (cBin oIx (cVar 1) (cC (.int 1)))))
  (cSeq (cIf (cTest (cBin oNe (cLam 2 q__law_word "" (cFn F_many_webs [(.tup []), (.tup []), .non] (cCons (cVar 3) cNil))) (cC (.str "badmany")))) (cRet (cC (.bl false))) cNext)
  (cSeq (cIf (cTest (cBin oNe (cKw F_many_webs [.p 0, .k 0, .c (.tup []), .c .non] (cCons (cVar 2) cNil) (cCons (cTup (cCons (cTup (cCons (cC (.int 0)) (cCons (cC (.int 1)) cNil))) cNil)) cNil)) (cKw F_many_webs [.p 0, .k 0, .c (.tup []), .c .non] (cCons (cVar 2) cNil) (cCons (cTup (cCons (cTup (cCons (cC (.int 1)) (cCons (cC (.int 0)) cNil))) cNil)) cNil)))) (cRet (cC (.bl false))) cNext)
  (cSeq (cFor (cItems (cBin oAdd (cSl (cVar 0) cNone (cSome (cC (.int 6)))) (cL (cCons (cC (.int 0)) (cCons (cC (.int 1)) (cCons (cC (.int 2)) cNil)))))) (bName 4) g_law_l1)
  (cRet (cC (.bl true))))))))))))
def F_law : List D → Res D := defF 10 g_law
end My
namespace My
open PySem L2 DV
def top (i : Nat) : Stmt := PySem.Challenge.pw_tallyloom_k37_whole_webs_counted.main.body.getD i (.Pass ⟨0, 0, 0, 0⟩)
abbrev s_shared : Stmt := top 9
abbrev s_lowest : Stmt := top 10
abbrev s_plus : Stmt := top 11
abbrev s_minus : Stmt := top 12
abbrev s_times : Stmt := top 13
abbrev s_summed : Stmt := top 14
abbrev s_subsets : Stmt := top 17
abbrev s_may_lean : Stmt := top 19
abbrev s_members : Stmt := top 20
abbrev s_choices : Stmt := top 21
abbrev s_Plain_worth_of : Stmt := inCls (top 23) 0
abbrev s_last_ones : Stmt := top 24
abbrev s_total_by : Stmt := top 25
abbrev s_many_webs : Stmt := top 26
abbrev s__law_cell : Stmt := top 28
abbrev s__law_draws : Stmt := top 29
abbrev s__law_arrows : Stmt := top 30
abbrev s__law_ringless : Stmt := top 31
abbrev s__law_all_webs : Stmt := top 32
abbrev s__law_kept : Stmt := top 33
abbrev s__law_bound : Stmt := top 34
abbrev s__law_word : Stmt := top 35
abbrev s__law_same : Stmt := top 36
abbrev s_law : Stmt := top 37
abbrev si_BadMany : Stmt := inCls (top 3) 0
abbrev si_NothingLeft : Stmt := inCls (top 4) 0
abbrev si_ByNought : Stmt := inCls (top 5) 0
structure Ads where
  c_BadMany : Addr
  i_BadMany : Addr
  di_BadMany : FuncData
  c_NothingLeft : Addr
  i_NothingLeft : Addr
  di_NothingLeft : FuncData
  c_ByNought : Addr
  i_ByNought : Addr
  di_ByNought : FuncData
  c_Absent : Addr
  c_LoomError : Addr
  C_Plain : Addr
  f_shared : Addr
  d_shared : FuncData
  f_lowest : Addr
  d_lowest : FuncData
  f_plus : Addr
  d_plus : FuncData
  f_minus : Addr
  d_minus : FuncData
  f_times : Addr
  d_times : FuncData
  f_summed : Addr
  d_summed : FuncData
  f_subsets : Addr
  d_subsets : FuncData
  f_may_lean : Addr
  d_may_lean : FuncData
  f_members : Addr
  d_members : FuncData
  f_choices : Addr
  d_choices : FuncData
  f_Plain_worth_of : Addr
  d_Plain_worth_of : FuncData
  f_last_ones : Addr
  d_last_ones : FuncData
  f_total_by : Addr
  d_total_by : FuncData
  f_many_webs : Addr
  d_many_webs : FuncData
  f__law_cell : Addr
  d__law_cell : FuncData
  f__law_draws : Addr
  d__law_draws : FuncData
  f__law_arrows : Addr
  d__law_arrows : FuncData
  f__law_ringless : Addr
  d__law_ringless : FuncData
  f__law_all_webs : Addr
  d__law_all_webs : FuncData
  f__law_kept : Addr
  d__law_kept : FuncData
  f__law_bound : Addr
  d__law_bound : FuncData
  f__law_word : Addr
  d__law_word : FuncData
  f__law_same : Addr
  d__law_same : FuncData
  f_law : Addr
  d_law : FuncData
  e1_many_webs : List Value
  e1_summed : List Value
  v_MOST_COLUMNS : V
  u_MOST_COLUMNS : Value
  v_NOUGHT : V
  u_NOUGHT : Value
  v_WHOLE : V
  u_WHOLE : Value
  v_dT_many_webs_must : V
  u_dT_many_webs_must : Value
  v_dT_many_webs_never : V
  u_dT_many_webs_never : Value
structure Txt (K : PySem.W.Frag) (mg : Str → Option Value) (a : Ads) : Prop where
  X_BadMany : ExK K mg "BadMany" a.c_BadMany a.i_BadMany
  IF_BadMany : Fun K "__init__" "BadMany.__init__" si_BadMany a.i_BadMany a.di_BadMany
  ib_BadMany : Binds K a.di_BadMany ["self"] []
  xc_BadMany : XcK K (.ref a.c_BadMany)
  X_NothingLeft : ExK K mg "NothingLeft" a.c_NothingLeft a.i_NothingLeft
  IF_NothingLeft : Fun K "__init__" "NothingLeft.__init__" si_NothingLeft a.i_NothingLeft a.di_NothingLeft
  ib_NothingLeft : Binds K a.di_NothingLeft ["self"] []
  xc_NothingLeft : XcK K (.ref a.c_NothingLeft)
  X_ByNought : ExK K mg "ByNought" a.c_ByNought a.i_ByNought
  IF_ByNought : Fun K "__init__" "ByNought.__init__" si_ByNought a.i_ByNought a.di_ByNought
  ib_ByNought : Binds K a.di_ByNought ["self"] []
  xc_ByNought : XcK K (.ref a.c_ByNought)
  hm_Absent : mg "Absent" = some (.ref a.c_Absent)
  hm_LoomError : mg "LoomError" = some (.ref a.c_LoomError)
  hm_NothingLeft : mg "NothingLeft" = some (.ref a.c_NothingLeft)
  ex_BadMany_NothingLeft : PySem.W.exmOne K (.ref a.c_BadMany) (.ref a.c_NothingLeft) = some false
  ex_NothingLeft_NothingLeft : PySem.W.exmOne K (.ref a.c_NothingLeft) (.ref a.c_NothingLeft) = some true
  ex_ByNought_NothingLeft : PySem.W.exmOne K (.ref a.c_ByNought) (.ref a.c_NothingLeft) = some false
  ex_BadMany_Absent : PySem.W.exmOne K (.ref a.c_BadMany) (.ref a.c_Absent) = some false
  ex_NothingLeft_Absent : PySem.W.exmOne K (.ref a.c_NothingLeft) (.ref a.c_Absent) = some false
  ex_ByNought_Absent : PySem.W.exmOne K (.ref a.c_ByNought) (.ref a.c_Absent) = some false
  ex_BadMany_LoomError : PySem.W.exmOne K (.ref a.c_BadMany) (.ref a.c_LoomError) = some true
  ex_NothingLeft_LoomError : PySem.W.exmOne K (.ref a.c_NothingLeft) (.ref a.c_LoomError) = some false
  ex_ByNought_LoomError : PySem.W.exmOne K (.ref a.c_ByNought) (.ref a.c_LoomError) = some false
  F_shared : Fun K "shared" "shared" s_shared a.f_shared a.d_shared
  g_shared : mg "shared" = some (.ref a.f_shared)
  k_shared : PySem.W.keepIn K (.ref a.f_shared) = true
  bd_shared : Binds K a.d_shared ["one", "other"] []
  F_lowest : FunD K "lowest" "lowest" (defArgs s_lowest) (defBody s_lowest) (defScope s_lowest) [V.int 1] [] a.f_lowest a.d_lowest
  g_lowest : mg "lowest" = some (.ref a.f_lowest)
  k_lowest : PySem.W.keepIn K (.ref a.f_lowest) = true
  bd_lowest : Binds K a.d_lowest ["top", "bottom"] []
  F_plus : Fun K "plus" "plus" s_plus a.f_plus a.d_plus
  g_plus : mg "plus" = some (.ref a.f_plus)
  k_plus : PySem.W.keepIn K (.ref a.f_plus) = true
  bd_plus : Binds K a.d_plus ["one", "other"] []
  F_minus : Fun K "minus" "minus" s_minus a.f_minus a.d_minus
  g_minus : mg "minus" = some (.ref a.f_minus)
  k_minus : PySem.W.keepIn K (.ref a.f_minus) = true
  bd_minus : Binds K a.d_minus ["one", "other"] []
  F_times : Fun K "times" "times" s_times a.f_times a.d_times
  g_times : mg "times" = some (.ref a.f_times)
  k_times : PySem.W.keepIn K (.ref a.f_times) = true
  bd_times : Binds K a.d_times ["one", "other"] []
  F_summed : FunD K "summed" "summed" (defArgs s_summed) (defBody s_summed) (defScope s_summed) [] [("start", a.v_NOUGHT)] a.f_summed a.d_summed
  bd1_summed : Binds K a.d_summed ["row", "start"] a.e1_summed
  dv1_summed : Vals [a.v_NOUGHT] a.e1_summed
  dd1_summed : ∀ B, RpA K B [a.v_NOUGHT] [(.tup [(.int 0), (.int 1)])]
  g_summed : mg "summed" = some (.ref a.f_summed)
  k_summed : PySem.W.keepIn K (.ref a.f_summed) = true
  F_subsets : Fun K "subsets" "subsets" s_subsets a.f_subsets a.d_subsets
  g_subsets : mg "subsets" = some (.ref a.f_subsets)
  k_subsets : PySem.W.keepIn K (.ref a.f_subsets) = true
  bd_subsets : Binds K a.d_subsets ["columns"] []
  F_may_lean : Fun K "may_lean" "may_lean" s_may_lean a.f_may_lean a.d_may_lean
  g_may_lean : mg "may_lean" = some (.ref a.f_may_lean)
  k_may_lean : PySem.W.keepIn K (.ref a.f_may_lean) = true
  bd_may_lean : Binds K a.d_may_lean ["column", "leans", "must", "never", "most"] []
  F_members : Fun K "members" "members" s_members a.f_members a.d_members
  g_members : mg "members" = some (.ref a.f_members)
  k_members : PySem.W.keepIn K (.ref a.f_members) = true
  bd_members : Binds K a.d_members ["whole", "many"] []
  F_choices : Fun K "choices" "choices" s_choices a.f_choices a.d_choices
  g_choices : mg "choices" = some (.ref a.f_choices)
  k_choices : PySem.W.keepIn K (.ref a.f_choices) = true
  bd_choices : Binds K a.d_choices ["column", "others", "must", "never", "most"] []
  F_Plain_worth_of : Fun K "worth_of" "Plain.worth_of" s_Plain_worth_of a.f_Plain_worth_of a.d_Plain_worth_of
  M_Plain_worth_of : Meth K a.C_Plain "worth_of" a.f_Plain_worth_of
  bd_Plain_worth_of : Binds K a.d_Plain_worth_of ["self", "column", "leans"] []
  F_last_ones : Fun K "last_ones" "last_ones" s_last_ones a.f_last_ones a.d_last_ones
  g_last_ones : mg "last_ones" = some (.ref a.f_last_ones)
  k_last_ones : PySem.W.keepIn K (.ref a.f_last_ones) = true
  bd_last_ones : Binds K a.d_last_ones ["known", "many", "whole", "last", "bound"] []
  F_total_by : Fun K "total_by" "total_by" s_total_by a.f_total_by a.d_total_by
  g_total_by : mg "total_by" = some (.ref a.f_total_by)
  k_total_by : PySem.W.keepIn K (.ref a.f_total_by) = true
  bd_total_by : Binds K a.d_total_by ["known", "many", "must", "never", "most"] []
  F_many_webs : FunD K "many_webs" "many_webs" (defArgs s_many_webs) (defBody s_many_webs) (defScope s_many_webs) [] [("must", a.v_dT_many_webs_must), ("never", a.v_dT_many_webs_never), ("most", V.non)] a.f_many_webs a.d_many_webs
  bd1_many_webs : Binds K a.d_many_webs ["many", "must", "never", "most"] a.e1_many_webs
  dv1_many_webs : Vals [a.v_dT_many_webs_must, a.v_dT_many_webs_never, V.non] a.e1_many_webs
  dd1_many_webs : ∀ B, RpA K B [a.v_dT_many_webs_must, a.v_dT_many_webs_never, V.non] [(.tup []), (.tup []), .non]
  kf0_many_webs : KForm K a.d_many_webs ["many", "must", "never", "most"] 1 ["must"] [.p 0, .k 0, .c (a.v_dT_many_webs_never), .c (V.non)]
  kf1_many_webs : KForm K a.d_many_webs ["many", "must", "never", "most"] 1 ["most", "must", "never"] [.p 0, .k 1, .k 2, .k 0]
  g_many_webs : mg "many_webs" = some (.ref a.f_many_webs)
  k_many_webs : PySem.W.keepIn K (.ref a.f_many_webs) = true
  F__law_cell : Fun K "_law_cell" "_law_cell" s__law_cell a.f__law_cell a.d__law_cell
  g__law_cell : mg "_law_cell" = some (.ref a.f__law_cell)
  k__law_cell : PySem.W.keepIn K (.ref a.f__law_cell) = true
  bd__law_cell : Binds K a.d__law_cell ["_law_script", "_law_k"] []
  F__law_draws : Fun K "_law_draws" "_law_draws" s__law_draws a.f__law_draws a.d__law_draws
  g__law_draws : mg "_law_draws" = some (.ref a.f__law_draws)
  k__law_draws : PySem.W.keepIn K (.ref a.f__law_draws) = true
  bd__law_draws : Binds K a.d__law_draws ["_law_cell_here", "_law_sizes"] []
  F__law_arrows : Fun K "_law_arrows" "_law_arrows" s__law_arrows a.f__law_arrows a.d__law_arrows
  g__law_arrows : mg "_law_arrows" = some (.ref a.f__law_arrows)
  k__law_arrows : PySem.W.keepIn K (.ref a.f__law_arrows) = true
  bd__law_arrows : Binds K a.d__law_arrows ["_law_web"] []
  F__law_ringless : Fun K "_law_ringless" "_law_ringless" s__law_ringless a.f__law_ringless a.d__law_ringless
  g__law_ringless : mg "_law_ringless" = some (.ref a.f__law_ringless)
  k__law_ringless : PySem.W.keepIn K (.ref a.f__law_ringless) = true
  bd__law_ringless : Binds K a.d__law_ringless ["_law_web"] []
  F__law_all_webs : Fun K "_law_all_webs" "_law_all_webs" s__law_all_webs a.f__law_all_webs a.d__law_all_webs
  g__law_all_webs : mg "_law_all_webs" = some (.ref a.f__law_all_webs)
  k__law_all_webs : PySem.W.keepIn K (.ref a.f__law_all_webs) = true
  bd__law_all_webs : Binds K a.d__law_all_webs ["_law_many"] []
  F__law_kept : Fun K "_law_kept" "_law_kept" s__law_kept a.f__law_kept a.d__law_kept
  g__law_kept : mg "_law_kept" = some (.ref a.f__law_kept)
  k__law_kept : PySem.W.keepIn K (.ref a.f__law_kept) = true
  bd__law_kept : Binds K a.d__law_kept ["_law_web", "_law_needs", "_law_nots", "_law_cap"] []
  F__law_bound : Fun K "_law_bound" "_law_bound" s__law_bound a.f__law_bound a.d__law_bound
  g__law_bound : mg "_law_bound" = some (.ref a.f__law_bound)
  k__law_bound : PySem.W.keepIn K (.ref a.f__law_bound) = true
  bd__law_bound : Binds K a.d__law_bound ["_law_cell_here", "_law_many"] []
  F__law_word : Fun K "_law_word" "_law_word" s__law_word a.f__law_word a.d__law_word
  g__law_word : mg "_law_word" = some (.ref a.f__law_word)
  k__law_word : PySem.W.keepIn K (.ref a.f__law_word) = true
  bd__law_word : Binds K a.d__law_word ["_law_asked"] []
  F__law_same : Fun K "_law_same" "_law_same" s__law_same a.f__law_same a.d__law_same
  g__law_same : mg "_law_same" = some (.ref a.f__law_same)
  k__law_same : PySem.W.keepIn K (.ref a.f__law_same) = true
  bd__law_same : Binds K a.d__law_same ["_law_found", "_law_due"] []
  F_law : Fun K "law" "law" s_law a.f_law a.d_law
  g_law : mg "law" = some (.ref a.f_law)
  k_law : PySem.W.keepIn K (.ref a.f_law) = true
  bd_law : Binds K a.d_law ["_law_script"] []
  kc_Plain : ClK K "Plain" a.C_Plain
  mc_Plain : mg "Plain" = some (.ref a.C_Plain)
  mk_Plain : Mk0 K a.C_Plain
  b_abs : mg "abs" = none
  b_all : mg "all" = none
  b_any : mg "any" = none
  b_bool : mg "bool" = none
  b_int : mg "int" = none
  b_isinstance : mg "isinstance" = none
  b_len : mg "len" = none
  b_list : mg "list" = none
  b_max : mg "max" = none
  b_min : mg "min" = none
  b_range : mg "range" = none
  b_sorted : mg "sorted" = none
  b_str : mg "str" = none
  b_tuple : mg "tuple" = none
  c_MOST_COLUMNS : mg "MOST_COLUMNS" = some a.u_MOST_COLUMNS
  w_MOST_COLUMNS : RelV a.v_MOST_COLUMNS a.u_MOST_COLUMNS
  r_MOST_COLUMNS : ∀ B, Rp K B a.v_MOST_COLUMNS (.int 6)
  c_NOUGHT : mg "NOUGHT" = some a.u_NOUGHT
  w_NOUGHT : RelV a.v_NOUGHT a.u_NOUGHT
  r_NOUGHT : ∀ B, Rp K B a.v_NOUGHT (.tup [(.int 0), (.int 1)])
  c_WHOLE : mg "WHOLE" = some a.u_WHOLE
  w_WHOLE : RelV a.v_WHOLE a.u_WHOLE
  r_WHOLE : ∀ B, Rp K B a.v_WHOLE (.tup [(.int 1), (.int 1)])
  w_dT_many_webs_must : RelV a.v_dT_many_webs_must a.u_dT_many_webs_must
  r_dT_many_webs_must : ∀ B, Rp K B a.v_dT_many_webs_must (.tup [])
  w_dT_many_webs_never : RelV a.v_dT_many_webs_never a.u_dT_many_webs_never
  r_dT_many_webs_never : ∀ B, Rp K B a.v_dT_many_webs_never (.tup [])
section
variable {P : Program} {w : World} {K : PySem.W.Frag} {mg : Str → Option Value} {base : Heap} {a : Ads}
theorem sc_BadMany : FnScope ["self"] ["self"] (defScope si_BadMany) := ⟨rfl, rfl, rfl, by decide +kernel, rfl, by decide +kernel, by decide +kernel⟩
theorem in_BadMany (T : Txt K mg a) : FnOk P w K mg base (L2.CX P w) 1 a.i_BadMany a.di_BadMany ["self"] (spI K a.c_BadMany 0 (fv1 "word" "badmany")) :=
  init1_ok (k := 0) T.IF_BadMany sc_BadMany T.X_BadMany.T T.xc_BadMany.no fun cdv A outer s H E => pss_one (ps_osB (pv 0) pe_str)
theorem sc_ByNought : FnScope ["self"] ["self"] (defScope si_ByNought) := ⟨rfl, rfl, rfl, by decide +kernel, rfl, by decide +kernel, by decide +kernel⟩
theorem in_ByNought (T : Txt K mg a) : FnOk P w K mg base (L2.CX P w) 1 a.i_ByNought a.di_ByNought ["self"] (spI K a.c_ByNought 0 (fv1 "word" "bynought")) :=
  init1_ok (k := 0) T.IF_ByNought sc_ByNought T.X_ByNought.T T.xc_ByNought.no fun cdv A outer s H E => pss_one (ps_osB (pv 0) pe_str)
theorem sc_shared : FnScope ["one", "other"] ["one", "other"] (defScope s_shared) := ⟨rfl, rfl, rfl, by decide +kernel, rfl, by decide +kernel, by decide +kernel⟩
theorem ok_shared (T : Txt K mg a) : FnOk P w K mg base (L2.CX P w) 1 a.f_shared a.d_shared ["one", "other"] (spD K 2 F_shared) := by
  refine def_ok (k := 0) T.F_shared sc_shared rfl fun cdv A outer s H E hr tk po hu => ?_
  have nd := sc_shared.nd
  have hu5 := units5 hr
  exact ⟨_, (css_cons (cs_par 0 1 rfl nd (ca_cons (ce_callB k_abs T.b_abs (by decide +kernel) (ca_cons (ce_var 0) ca_nil)) (ca_cons (ce_callB k_abs T.b_abs (by decide +kernel) (ca_cons (ce_var 1) ca_nil)) ca_nil)))
  (css_cons (cs_while (fuelI 1) po (ct_c (o_ne K (by rfl) hu) (ce_var 1) ce_int) (css_one (cs_par 0 1 rfl nd (ca_cons (ce_var 1) (ca_cons (ce_b o_mod (ce_var 0) (ce_var 1)) ca_nil)))))
  (css_one (cs_ret (ce_var 0)))))⟩
theorem sc_lowest : FnScope ["top", "bottom", "by"] ["top", "bottom"] (defScope s_lowest) := ⟨rfl, rfl, rfl, by decide +kernel, rfl, by decide +kernel, by decide +kernel⟩
theorem ok_lowest (T : Txt K mg a) : FnOk P w K mg base (L2.CX P w) 3 a.f_lowest a.d_lowest ["top", "bottom"] (spD K 2 F_lowest) := by
  refine def_okD (k := 2) T.F_lowest sc_lowest rfl fun cdv A outer s H E hr tk po hu => ?_
  have nd := sc_lowest.nd
  have hu5 := units5 hr
  exact ⟨_, (css_cons (cs_if (ct_c (o_eq K (by rfl) hu) (ce_var 1) ce_int) (css_one (cs_raise0 K (by rfl) tk T.X_ByNought (in_ByNought T) (hr.mono (by decide)) T.ib_ByNought ff1)) css_nil)
  (css_cons (cs_set 2 nd (ce_f K (by rfl) (ok_shared T) (hr.mono (by decide)) T.g_shared T.k_shared T.bd_shared tk (ca_cons (ce_var 0) (ca_cons (ce_var 1) ca_nil))))
  (css_cons (cs_if (ct_c o_lt (ce_var 1) ce_int) (css_one (cs_set 2 nd (ce_neg (ce_var 2)))) css_nil)
  (css_one (cs_ret (ce_tup (ca_cons (ce_b o_fdiv (ce_var 0) (ce_var 2)) (ca_cons (ce_b o_fdiv (ce_var 1) (ce_var 2)) ca_nil))))))))⟩
theorem sc_plus : FnScope ["one", "other"] ["one", "other"] (defScope s_plus) := ⟨rfl, rfl, rfl, by decide +kernel, rfl, by decide +kernel, by decide +kernel⟩
theorem ok_plus (T : Txt K mg a) : FnOk P w K mg base (L2.CX P w) 4 a.f_plus a.d_plus ["one", "other"] (spD K 2 F_plus) := by
  refine def_ok (k := 3) T.F_plus sc_plus rfl fun cdv A outer s H E hr tk po hu => ?_
  have nd := sc_plus.nd
  have hu5 := units5 hr
  exact ⟨_, (css_one (cs_ret (ce_f K (by rfl) (ok_lowest T) (hr.mono (by decide)) T.g_lowest T.k_lowest T.bd_lowest tk (ca_cons (ce_b (o_add K (by rfl)) (ce_b (o_mul K (by rfl)) (ce_ix K (by rfl) (ce_var 0) ce_int) (ce_ix K (by rfl) (ce_var 1) ce_int)) (ce_b (o_mul K (by rfl)) (ce_ix K (by rfl) (ce_var 1) ce_int) (ce_ix K (by rfl) (ce_var 0) ce_int))) (ca_cons (ce_b (o_mul K (by rfl)) (ce_ix K (by rfl) (ce_var 0) ce_int) (ce_ix K (by rfl) (ce_var 1) ce_int)) ca_nil)))))⟩
theorem sc_minus : FnScope ["one", "other"] ["one", "other"] (defScope s_minus) := ⟨rfl, rfl, rfl, by decide +kernel, rfl, by decide +kernel, by decide +kernel⟩
theorem ok_minus (T : Txt K mg a) : FnOk P w K mg base (L2.CX P w) 5 a.f_minus a.d_minus ["one", "other"] (spD K 2 F_minus) := by
  refine def_ok (k := 4) T.F_minus sc_minus rfl fun cdv A outer s H E hr tk po hu => ?_
  have nd := sc_minus.nd
  have hu5 := units5 hr
  exact ⟨_, (css_one (cs_ret (ce_f K (by rfl) (ok_plus T) (hr.mono (by decide)) T.g_plus T.k_plus T.bd_plus tk (ca_cons (ce_var 0) (ca_cons (ce_tup (ca_cons (ce_neg (ce_ix K (by rfl) (ce_var 1) ce_int)) (ca_cons (ce_ix K (by rfl) (ce_var 1) ce_int) ca_nil))) ca_nil)))))⟩
theorem sc_times : FnScope ["one", "other"] ["one", "other"] (defScope s_times) := ⟨rfl, rfl, rfl, by decide +kernel, rfl, by decide +kernel, by decide +kernel⟩
theorem ok_times (T : Txt K mg a) : FnOk P w K mg base (L2.CX P w) 4 a.f_times a.d_times ["one", "other"] (spD K 2 F_times) := by
  refine def_ok (k := 3) T.F_times sc_times rfl fun cdv A outer s H E hr tk po hu => ?_
  have nd := sc_times.nd
  have hu5 := units5 hr
  exact ⟨_, (css_one (cs_ret (ce_f K (by rfl) (ok_lowest T) (hr.mono (by decide)) T.g_lowest T.k_lowest T.bd_lowest tk (ca_cons (ce_b (o_mul K (by rfl)) (ce_ix K (by rfl) (ce_var 0) ce_int) (ce_ix K (by rfl) (ce_var 1) ce_int)) (ca_cons (ce_b (o_mul K (by rfl)) (ce_ix K (by rfl) (ce_var 0) ce_int) (ce_ix K (by rfl) (ce_var 1) ce_int)) ca_nil)))))⟩
theorem sc_summed : FnScope ["row", "start", "found", "one"] ["row", "start"] (defScope s_summed) := ⟨rfl, rfl, rfl, by decide +kernel, rfl, by decide +kernel, by decide +kernel⟩
theorem ok_summed (T : Txt K mg a) : FnOk P w K mg base (L2.CX P w) 5 a.f_summed a.d_summed ["row", "start"] (spD K 2 F_summed) := by
  refine def_okD (k := 4) T.F_summed sc_summed rfl fun cdv A outer s H E hr tk po hu => ?_
  have nd := sc_summed.nd
  have hu5 := units5 hr
  exact ⟨_, (css_cons (cs_set 2 nd (ce_var 1))
  (css_cons (cs_for po rfl (ci_seq K (by rfl) (ce_var 0)) (cg_name 3 nd) (css_one (cs_set 2 nd (ce_f K (by rfl) (ok_plus T) (hr.mono (by decide)) T.g_plus T.k_plus T.bd_plus tk (ca_cons (ce_var 2) (ca_cons (ce_var 3) ca_nil))))))
  (css_one (cs_ret (ce_var 2)))))⟩
theorem sc_subsets : FnScope ["columns", "found", "column", "some"] ["columns"] (defScope s_subsets) := ⟨rfl, rfl, rfl, by decide +kernel, rfl, by decide +kernel, by decide +kernel⟩
theorem ok_subsets (T : Txt K mg a) : FnOk P w K mg base (L2.CX P w) 1 a.f_subsets a.d_subsets ["columns"] (spD K 1 F_subsets) := by
  refine def_ok (k := 0) T.F_subsets sc_subsets rfl fun cdv A outer s H E hr tk po hu => ?_
  have nd := sc_subsets.nd
  have hu5 := units5 hr
  exact ⟨_, (css_cons (cs_set 1 nd (ce_l (cf_lst (ca_cons (ce_tup ca_nil) ca_nil))))
  (css_cons (cs_for po rfl (ci_seq K (by rfl) (ce_var 0)) (cg_name 2 nd) (css_one (cs_set 1 nd (ce_b (o_add K (by rfl)) (ce_var 1) (ce_l (lc_1 (own := [("some", 3)]) s rfl nd (ci_seq K (by rfl) (ce_var 1)) (blkOk_by (by kernel_rfl)) (fun _ _ _ _ _ => (cg_name 3 nd)) (fun _ _ _ _ _ => cts_nil) (fun _ _ _ _ _ => (ce_b (o_add K (by rfl)) (ce_var 3) (ce_tup (ca_cons (ce_var 2) ca_nil))))).toCF)))))
  (css_one (cs_ret (ce_l (cf_sortedA K (by rfl) hu T.b_sorted (ce_var 1)))))))⟩
theorem sc_may_lean : FnScope ["column", "leans", "must", "never", "most", "one", "other"] ["column", "leans", "must", "never", "most"] (defScope s_may_lean) := ⟨rfl, rfl, rfl, by decide +kernel, rfl, by decide +kernel, by decide +kernel⟩
theorem ok_may_lean (T : Txt K mg a) : FnOk P w K mg base (L2.CX P w) 1 a.f_may_lean a.d_may_lean ["column", "leans", "must", "never", "most"] (spD K 5 F_may_lean) := by
  refine def_ok (k := 0) T.F_may_lean sc_may_lean rfl fun cdv A outer s H E hr tk po hu => ?_
  have nd := sc_may_lean.nd
  have hu5 := units5 hr
  exact ⟨_, (css_cons (cs_if (CW.ct (cw_and (ct_c o_isnot (ce_var 4) ce_non) (cw_and1 (ct_c o_gt (ce_callB (k_len K (by rfl)) T.b_len (by decide +kernel) (ca_cons (ce_var 1) ca_nil)) (ce_var 4))))) (css_one (cs_ret ce_bl)) css_nil)
  (css_cons (cs_if (ct_val (ce_callB (k_any K (by rfl) (by rfl)) T.b_any (by decide +kernel) (ca_cons (ce_l (lc_1 (own := [("one", 5), ("other", 6)]) s rfl nd (ci_seq K (by rfl) (ce_var 3)) (blkOk_by (by kernel_rfl)) (fun _ _ _ _ _ => (cg_tup K (by rfl) (by rfl) (cgs_cons (cg_name 5 nd) (cgs_cons (cg_name 6 nd) cgs_nil (by rfl)) (by rfl)) (by rfl) (by rfl))) (fun _ _ _ _ _ => cts_nil) (fun _ _ _ _ _ => (ce_and (ce_c (o_eq K (by rfl) hu) (ce_var 6) (ce_var 0)) (ce_one (ce_c (o_inA K (by rfl) hu5) (ce_var 5) (ce_var 1)))))).toCF) ca_nil))) (css_one (cs_ret ce_bl)) css_nil)
  (css_one (cs_ret (ce_callB (k_all K (by rfl) (by rfl)) T.b_all (by decide +kernel) (ca_cons (ce_l (lc_1 (own := [("one", 5), ("other", 6)]) s rfl nd (ci_seq K (by rfl) (ce_var 2)) (blkOk_by (by kernel_rfl)) (fun _ _ _ _ _ => (cg_tup K (by rfl) (by rfl) (cgs_cons (cg_name 5 nd) (cgs_cons (cg_name 6 nd) cgs_nil (by rfl)) (by rfl)) (by rfl) (by rfl))) (fun _ _ _ _ _ => (cts_one (ct_c (o_eq K (by rfl) hu) (ce_var 6) (ce_var 0)))) (fun _ _ _ _ _ => (ce_c (o_inA K (by rfl) hu5) (ce_var 5) (ce_var 1)))).toCF) ca_nil))))))⟩
theorem sc_members : FnScope ["whole", "many", "column"] ["whole", "many"] (defScope s_members) := ⟨rfl, rfl, rfl, by decide +kernel, rfl, by decide +kernel, by decide +kernel⟩
theorem ok_members (T : Txt K mg a) : FnOk P w K mg base (L2.CX P w) 1 a.f_members a.d_members ["whole", "many"] (spD K 2 F_members) := by
  refine def_ok (k := 0) T.F_members sc_members rfl fun cdv A outer s H E hr tk po hu => ?_
  have nd := sc_members.nd
  have hu5 := units5 hr
  exact ⟨_, (css_one (cs_ret (ce_l (lc_1 (own := [("column", 2)]) s rfl nd (ci_range1 T.b_range (ca_cons (ce_var 1) ca_nil)) (blkOk_by (by kernel_rfl)) (fun _ _ _ _ _ => (cg_name 2 nd)) (fun _ _ _ _ _ => (cts_one (ct_c (o_eq K (by rfl) hu) (ce_b o_and (ce_b o_shr (ce_var 0) (ce_var 2)) ce_int) ce_int))) (fun _ _ _ _ _ => (ce_var 2))).toCF)))⟩
theorem sc_choices : FnScope ["column", "others", "must", "never", "most", "leans"] ["column", "others", "must", "never", "most"] (defScope s_choices) := ⟨rfl, rfl, rfl, by decide +kernel, rfl, by decide +kernel, by decide +kernel⟩
theorem ok_choices (T : Txt K mg a) : FnOk P w K mg base (L2.CX P w) 2 a.f_choices a.d_choices ["column", "others", "must", "never", "most"] (spD K 5 F_choices) := by
  refine def_ok (k := 1) T.F_choices sc_choices rfl fun cdv A outer s H E hr tk po hu => ?_
  have nd := sc_choices.nd
  have hu5 := units5 hr
  exact ⟨_, (css_one (cs_ret (ce_l (lc_1 (own := [("leans", 5)]) s rfl nd (ci_seq K (by rfl) (ce_f K (by rfl) (ok_subsets T) (hr.mono (by decide)) T.g_subsets T.k_subsets T.bd_subsets tk (ca_cons (ce_var 1) ca_nil))) (blkOk_by (by kernel_rfl)) (fun _ _ _ _ _ => (cg_name 5 nd)) (fun _ _ _ _ _ => (cts_one (ct_val (ce_f K (by rfl) (ok_may_lean T) (hr.mono (by decide)) T.g_may_lean T.k_may_lean T.bd_may_lean takes0 (ca_cons (ce_var 0) (ca_cons (ce_var 5) (ca_cons (ce_var 2) (ca_cons (ce_var 3) (ca_cons (ce_var 4) ca_nil))))))))) (fun _ _ _ _ _ => (ce_var 5))).toCF)))⟩
theorem sc_Plain_worth_of : FnScope ["self", "column", "leans"] ["self", "column", "leans"] (defScope s_Plain_worth_of) := ⟨rfl, rfl, rfl, by decide +kernel, rfl, by decide +kernel, by decide +kernel⟩
theorem ok_Plain_worth_of (T : Txt K mg a) : FnOk P w K mg base (L2.CX P w) 1 a.f_Plain_worth_of a.d_Plain_worth_of ["self", "column", "leans"] (spD K 3 F_Plain_worth_of) := by
  refine def_ok (k := 0) T.F_Plain_worth_of sc_Plain_worth_of rfl fun cdv A outer s H E hr tk po hu => ?_
  have nd := sc_Plain_worth_of.nd
  have hu5 := units5 hr
  exact ⟨_, (css_one (cs_ret (ce_glob (by rfl) T.c_WHOLE T.w_WHOLE (fun B => T.r_WHOLE B))))⟩
theorem sc_last_ones : FnScope ["known", "many", "whole", "last", "bound", "must", "never", "most", "rest", "found", "column", "ways", "leans"] ["known", "many", "whole", "last", "bound"] (defScope s_last_ones) := ⟨rfl, rfl, rfl, by decide +kernel, rfl, by decide +kernel, by decide +kernel⟩
theorem ok_last_ones (T : Txt K mg a) : FnOk P w K mg base (L2.CX P w) 6 a.f_last_ones a.d_last_ones ["known", "many", "whole", "last", "bound"] (spD K 5 F_last_ones) := by
  refine def_ok (k := 5) T.F_last_ones sc_last_ones rfl fun cdv A outer s H E hr tk po hu => ?_
  have nd := sc_last_ones.nd
  have hu5 := units5 hr
  exact ⟨_, (css_cons (cs_asg (ce_var 4) (cg_tup K (by rfl) (by rfl) (cgs_cons (cg_name 5 nd) (cgs_cons (cg_name 6 nd) (cgs_cons (cg_name 7 nd) cgs_nil (by rfl)) (by rfl)) (by rfl)) (by rfl) (by rfl)))
  (css_cons (cs_set 8 nd (ce_f K (by rfl) (ok_members T) (hr.mono (by decide)) T.g_members T.k_members T.bd_members tk (ca_cons (ce_b o_xor (ce_var 2) (ce_var 3)) (ca_cons (ce_var 1) ca_nil))))
  (css_cons (cs_set 9 nd (ce_glob (by rfl) T.c_WHOLE T.w_WHOLE (fun B => T.r_WHOLE B)))
  (css_cons (cs_for po rfl (ci_seq K (by rfl) (ce_f K (by rfl) (ok_members T) (hr.mono (by decide)) T.g_members T.k_members T.bd_members tk (ca_cons (ce_var 3) (ca_cons (ce_var 1) ca_nil)))) (cg_name 10 nd) (css_cons (cs_set 11 nd (ce_f K (by rfl) (ok_choices T) (hr.mono (by decide)) T.g_choices T.k_choices T.bd_choices tk (ca_cons (ce_var 10) (ca_cons (ce_var 8) (ca_cons (ce_var 5) (ca_cons (ce_var 6) (ca_cons (ce_var 7) ca_nil)))))))
  (css_one (cs_set 9 nd (ce_f K (by rfl) (ok_times T) (hr.mono (by decide)) T.g_times T.k_times T.bd_times tk (ca_cons (ce_var 9) (ca_cons (ce_fn K (by rfl) (ok_summed T) (hr.mono (by decide)) T.g_summed T.k_summed T.bd1_summed T.dv1_summed (fun B => T.dd1_summed B) tk (ca_cons (ce_l (lc_1 (own := [("leans", 12)]) s rfl nd (ci_seq K (by rfl) (ce_var 11)) (blkOk_by (by kernel_rfl)) (fun _ _ _ _ _ => (cg_name 12 nd)) (fun _ _ _ _ _ => cts_nil) (fun _ _ _ _ _ => (ce_mth K (by rfl) T.kc_Plain T.M_Plain_worth_of (ok_Plain_worth_of T) (hr.mono (by decide)) T.bd_Plain_worth_of .nil (fun _ => .nil) takes0 (ce_var 0) (ca_cons (ce_var 10) (ca_cons (ce_var 12) ca_nil))))).toCF) ca_nil)) ca_nil)))))))
  (css_one (cs_ret (ce_var 9)))))))⟩
theorem sc_total_by : FnScope ["known", "many", "must", "never", "most", "found", "whole", "here", "last", "part"] ["known", "many", "must", "never", "most"] (defScope s_total_by) := ⟨rfl, rfl, rfl, by decide +kernel, rfl, by decide +kernel, by decide +kernel⟩
theorem ok_total_by (T : Txt K mg a) : FnOk P w K mg base (L2.CX P w) 7 a.f_total_by a.d_total_by ["known", "many", "must", "never", "most"] (spD K 5 F_total_by) := by
  refine def_ok (k := 6) T.F_total_by sc_total_by rfl fun cdv A outer s H E hr tk po hu => ?_
  have nd := sc_total_by.nd
  have hu5 := units5 hr
  exact ⟨_, (css_cons (cs_own 5 nd (cf_lst (ca_cons (ce_glob (by rfl) T.c_WHOLE T.w_WHOLE (fun B => T.r_WHOLE B)) ca_nil)))
  (css_cons (cs_for po rfl (ci_range2 T.b_range (ca_cons ce_int (ca_cons (ce_b o_shl ce_int (ce_var 1)) ca_nil))) (cg_name 6 nd) (css_cons (cs_set 7 nd (ce_glob (by rfl) T.c_NOUGHT T.w_NOUGHT (fun B => T.r_NOUGHT B)))
  (css_cons (cs_set 8 nd (ce_var 6))
  (css_cons (cs_while (fuelI 8) po (ct_c o_gt (ce_var 8) ce_int) (css_cons (cs_set 9 nd (ce_lookL 5 (ce_f K (by rfl) (ok_times T) (hr.mono (by decide)) T.g_times T.k_times T.bd_times tk (ca_cons (ce_ix K (by rfl) (ce_var 5) (ce_b o_xor (ce_var 6) (ce_var 8))) (ca_cons (ce_f K (by rfl) (ok_last_ones T) (hr.mono (by decide)) T.g_last_ones T.k_last_ones T.bd_last_ones tk (ca_cons (ce_var 0) (ca_cons (ce_var 1) (ca_cons (ce_var 6) (ca_cons (ce_var 8) (ca_cons (ce_tup (ca_cons (ce_var 2) (ca_cons (ce_var 3) (ca_cons (ce_var 4) ca_nil)))) ca_nil)))))) ca_nil)))))
  (css_cons (cs_set 7 nd (ce_if (ct_c (o_eq K (by rfl) hu) (ce_b o_mod (ce_callB (k_len K (by rfl)) T.b_len (by decide +kernel) (ca_cons (ce_f K (by rfl) (ok_members T) (hr.mono (by decide)) T.g_members T.k_members T.bd_members tk (ca_cons (ce_var 8) (ca_cons (ce_var 1) ca_nil))) ca_nil)) ce_int) ce_int) (ce_f K (by rfl) (ok_plus T) (hr.mono (by decide)) T.g_plus T.k_plus T.bd_plus tk (ca_cons (ce_var 7) (ca_cons (ce_var 9) ca_nil))) (ce_f K (by rfl) (ok_minus T) (hr.mono (by decide)) T.g_minus T.k_minus T.bd_minus tk (ca_cons (ce_var 7) (ca_cons (ce_var 9) ca_nil)))))
  (css_one (cs_set 8 nd (ce_b o_and (ce_b o_sub (ce_var 8) ce_int) (ce_var 6)))))))
  (css_one (cs_app 5 (ce_var 7) (pv 5)))))))
  (css_one (cs_fz 5 (cs_ret (ce_ix K (by rfl) (ce_var 5) (ce_neg ce_int)))))))⟩
theorem sc_many_webs : FnScope ["many", "must", "never", "most"] ["many", "must", "never", "most"] (defScope s_many_webs) := ⟨rfl, rfl, rfl, by decide +kernel, rfl, by decide +kernel, by decide +kernel⟩
theorem ok_many_webs (T : Txt K mg a) : FnOk P w K mg base (L2.CX P w) 8 a.f_many_webs a.d_many_webs ["many", "must", "never", "most"] (spD K 4 F_many_webs) := by
  refine def_okD (k := 7) T.F_many_webs sc_many_webs rfl fun cdv A outer s H E hr tk po hu => ?_
  have nd := sc_many_webs.nd
  have hu5 := units5 hr
  exact ⟨_, (css_cons (cs_if (CW.ct (cw_or (ct_c o_lt (ce_var 0) ce_int) (cw_or1 (ct_c o_gt (ce_var 0) (ce_glob (by rfl) T.c_MOST_COLUMNS T.w_MOST_COLUMNS (fun B => T.r_MOST_COLUMNS B)))))) (css_one (cs_raise0 K (by rfl) tk T.X_BadMany (in_BadMany T) (hr.mono (by decide)) T.ib_BadMany ff1)) css_nil)
  (css_one (cs_ret (ce_ix K (by rfl) (ce_f K (by rfl) (ok_total_by T) (hr.mono (by decide)) T.g_total_by T.k_total_by T.bd_total_by tk (ca_cons (ce_new (cn_mk0 K (by rfl) T.kc_Plain T.mk_Plain T.mc_Plain)) (ca_cons (ce_var 0) (ca_cons (ce_var 1) (ca_cons (ce_var 2) (ca_cons (ce_var 3) ca_nil)))))) ce_int))))⟩
theorem sc__law_cell : FnScope ["_law_script", "_law_k"] ["_law_script", "_law_k"] (defScope s__law_cell) := ⟨rfl, rfl, rfl, by decide +kernel, rfl, by decide +kernel, by decide +kernel⟩
theorem ok__law_cell (T : Txt K mg a) : FnOk P w K mg base (L2.CX P w) 1 a.f__law_cell a.d__law_cell ["_law_script", "_law_k"] (spD K 2 F__law_cell) := by
  refine def_ok (k := 0) T.F__law_cell sc__law_cell rfl fun cdv A outer s H E hr tk po hu => ?_
  have nd := sc__law_cell.nd
  have hu5 := units5 hr
  exact ⟨_, (css_cons (cs_if (ct_c o_lt (ce_var 1) (ce_callB (k_len K (by rfl)) T.b_len (by decide +kernel) (ca_cons (ce_var 0) ca_nil))) (css_one (cs_ret (ce_ix K (by rfl) (ce_var 0) (ce_var 1)))) css_nil)
  (css_one (cs_ret ce_int)))⟩
theorem sc__law_draws : FnScope ["_law_cell_here", "_law_sizes", "_law_mixed", "_law_two", "_law_six", "_law_found", "_law_size"] ["_law_cell_here", "_law_sizes"] (defScope s__law_draws) := ⟨rfl, rfl, rfl, by decide +kernel, rfl, by decide +kernel, by decide +kernel⟩
theorem ok__law_draws (T : Txt K mg a) : FnOk P w K mg base (L2.CX P w) 1 a.f__law_draws a.d__law_draws ["_law_cell_here", "_law_sizes"] (spD K 2 F__law_draws) := by
  refine def_ok (k := 0) T.F__law_draws sc__law_draws rfl fun cdv A outer s H E hr tk po hu => ?_
  have nd := sc__law_draws.nd
  have hu5 := units5 hr
  exact ⟨_, (css_cons (cs_if (ct_c o_lt (ce_callB k_abs T.b_abs (by decide +kernel) (ca_cons (ce_var 0) ca_nil)) (ce_b o_pow ce_int ce_int)) (css_cons (cs_set 2 nd (ce_b o_mod (ce_b (o_add K (by rfl)) (ce_b (o_mul K (by rfl)) (ce_var 0) ce_int) ce_int) ce_int))
  (css_cons (cs_set 3 nd (ce_b o_mod (ce_b (o_add K (by rfl)) (ce_b (o_add K (by rfl)) (ce_b (o_mul K (by rfl)) (ce_var 2) (ce_var 2)) (ce_b (o_mul K (by rfl)) ce_int (ce_var 2))) (ce_var 0)) ce_int))
  (css_cons (cs_set 4 nd (ce_b o_mod (ce_b (o_add K (by rfl)) (ce_b (o_mul K (by rfl)) (ce_var 3) ce_int) (ce_var 2)) ce_int))
  (css_one (cs_set 0 nd (ce_b (o_add K (by rfl)) (ce_var 3) (ce_b (o_mul K (by rfl)) ce_int (ce_b (o_add K (by rfl)) (ce_var 4) (ce_b (o_mul K (by rfl)) ce_int (ce_var 2)))))))))) (css_one (cs_set 0 nd (ce_b o_sub (ce_callB k_abs T.b_abs (by decide +kernel) (ca_cons (ce_var 0) ca_nil)) (ce_b o_pow ce_int ce_int)))))
  (css_cons (cs_own 5 nd (cf_lst ca_nil))
  (css_cons (cs_for po rfl (ci_seq K (by rfl) (ce_var 1)) (cg_name 6 nd) (css_cons (cs_app 5 (ce_b o_mod (ce_var 0) (ce_var 6)) (pv 5))
  (css_one (cs_set 0 nd (ce_b o_fdiv (ce_var 0) (ce_var 6))))))
  (css_one (cs_fz 5 (cs_ret (ce_var 5)))))))⟩
theorem sc__law_arrows : FnScope ["_law_web", "_law_found", "_law_other", "_law_one"] ["_law_web"] (defScope s__law_arrows) := ⟨rfl, rfl, rfl, by decide +kernel, rfl, by decide +kernel, by decide +kernel⟩
theorem ok__law_arrows (T : Txt K mg a) : FnOk P w K mg base (L2.CX P w) 1 a.f__law_arrows a.d__law_arrows ["_law_web"] (spD K 1 F__law_arrows) := by
  refine def_ok (k := 0) T.F__law_arrows sc__law_arrows rfl fun cdv A outer s H E hr tk po hu => ?_
  have nd := sc__law_arrows.nd
  have hu5 := units5 hr
  exact ⟨_, (css_cons (cs_set 1 nd (ce_l (cf_lst ca_nil)))
  (css_cons (cs_for po rfl (ci_range1 T.b_range (ca_cons (ce_callB (k_len K (by rfl)) T.b_len (by decide +kernel) (ca_cons (ce_var 0) ca_nil)) ca_nil)) (cg_name 2 nd) (css_one (cs_set 1 nd (ce_b (o_add K (by rfl)) (ce_var 1) (ce_l (lc_1 (own := [("_law_one", 3)]) s rfl nd (ci_seq K (by rfl) (ce_ix K (by rfl) (ce_var 0) (ce_var 2))) (blkOk_by (by kernel_rfl)) (fun _ _ _ _ _ => (cg_name 3 nd)) (fun _ _ _ _ _ => cts_nil) (fun _ _ _ _ _ => (ce_tup (ca_cons (ce_var 3) (ca_cons (ce_var 2) ca_nil))))).toCF)))))
  (css_one (cs_ret (ce_l (cf_sorted K (by rfl) hu T.b_sorted (ce_var 1)))))))⟩
theorem sc__law_ringless : FnScope ["_law_web", "_law_placed", "_law_turn", "_law_c", "_law_one"] ["_law_web"] (defScope s__law_ringless) := ⟨rfl, rfl, rfl, by decide +kernel, rfl, by decide +kernel, by decide +kernel⟩
theorem ok__law_ringless (T : Txt K mg a) : FnOk P w K mg base (L2.CX P w) 1 a.f__law_ringless a.d__law_ringless ["_law_web"] (spD K 1 F__law_ringless) := by
  refine def_ok (k := 0) T.F__law_ringless sc__law_ringless rfl fun cdv A outer s H E hr tk po hu => ?_
  have nd := sc__law_ringless.nd
  have hu5 := units5 hr
  exact ⟨_, (css_cons (cs_set 1 nd (ce_l (cf_lst ca_nil)))
  (css_cons (cs_for po rfl (ci_range1 T.b_range (ca_cons (ce_callB (k_len K (by rfl)) T.b_len (by decide +kernel) (ca_cons (ce_var 0) ca_nil)) ca_nil)) (cg_name 2 nd) (css_one (cs_set 1 nd (ce_l (lc_1 (own := [("_law_c", 3)]) s rfl nd (ci_range1 T.b_range (ca_cons (ce_callB (k_len K (by rfl)) T.b_len (by decide +kernel) (ca_cons (ce_var 0) ca_nil)) ca_nil)) (blkOk_by (by kernel_rfl)) (fun _ _ _ _ _ => (cg_name 3 nd)) (fun _ _ _ _ _ => (cts_one (ct_val (ce_callB (k_all K (by rfl) (by rfl)) T.b_all (by decide +kernel) (ca_cons (ce_l (lc_1 (own := [("_law_one", 4)]) s rfl nd (ci_seq K (by rfl) (ce_ix K (by rfl) (ce_var 0) (ce_var 3))) (blkOk_by (by kernel_rfl)) (fun _ _ _ _ _ => (cg_name 4 nd)) (fun _ _ _ _ _ => cts_nil) (fun _ _ _ _ _ => (ce_c (o_inA K (by rfl) hu5) (ce_var 4) (ce_var 1)))).toCF) ca_nil))))) (fun _ _ _ _ _ => (ce_var 3))).toCF))))
  (css_one (cs_ret (ce_c (o_eq K (by rfl) hu) (ce_callB (k_len K (by rfl)) T.b_len (by decide +kernel) (ca_cons (ce_var 1) ca_nil)) (ce_callB (k_len K (by rfl)) T.b_len (by decide +kernel) (ca_cons (ce_var 0) ca_nil)))))))⟩
theorem sc__law_all_webs : FnScope ["_law_many", "_law_found", "_law_column", "_law_some", "_law_one", "_law_wider", "_law_web", "_law_leans"] ["_law_many"] (defScope s__law_all_webs) := ⟨rfl, rfl, rfl, by decide +kernel, rfl, by decide +kernel, by decide +kernel⟩
theorem ok__law_all_webs (T : Txt K mg a) : FnOk P w K mg base (L2.CX P w) 2 a.f__law_all_webs a.d__law_all_webs ["_law_many"] (spD K 1 F__law_all_webs) := by
  refine def_ok (k := 1) T.F__law_all_webs sc__law_all_webs rfl fun cdv A outer s H E hr tk po hu => ?_
  have nd := sc__law_all_webs.nd
  have hu5 := units5 hr
  exact ⟨_, (css_cons (cs_set 1 nd (ce_l (cf_lst (ca_cons (ce_tup ca_nil) ca_nil))))
  (css_cons (cs_for po rfl (ci_range1 T.b_range (ca_cons (ce_var 0) ca_nil)) (cg_name 2 nd) (css_cons (cs_set 3 nd (ce_l (cf_lst (ca_cons (ce_tup ca_nil) ca_nil))))
  (css_cons (cs_for po rfl (ci_range1 T.b_range (ca_cons (ce_var 0) ca_nil)) (cg_name 4 nd) (css_one (cs_if (ct_c (o_ne K (by rfl) hu) (ce_var 4) (ce_var 2)) (css_one (cs_set 3 nd (ce_b (o_add K (by rfl)) (ce_var 3) (ce_l (lc_1 (own := [("_law_leans", 7)]) s rfl nd (ci_seq K (by rfl) (ce_var 3)) (blkOk_by (by kernel_rfl)) (fun _ _ _ _ _ => (cg_name 7 nd)) (fun _ _ _ _ _ => cts_nil) (fun _ _ _ _ _ => (ce_b (o_add K (by rfl)) (ce_var 7) (ce_tup (ca_cons (ce_var 4) ca_nil))))).toCF)))) css_nil)))
  (css_cons (cs_set 5 nd (ce_l (cf_lst ca_nil)))
  (css_cons (cs_for po rfl (ci_seq K (by rfl) (ce_var 1)) (cg_name 6 nd) (css_one (cs_set 5 nd (ce_b (o_add K (by rfl)) (ce_var 5) (ce_l (lc_1 (own := [("_law_leans", 7)]) s rfl nd (ci_seq K (by rfl) (ce_l (cf_sortedA K (by rfl) hu T.b_sorted (ce_var 3)))) (blkOk_by (by kernel_rfl)) (fun _ _ _ _ _ => (cg_name 7 nd)) (fun _ _ _ _ _ => cts_nil) (fun _ _ _ _ _ => (ce_b (o_add K (by rfl)) (ce_var 6) (ce_tup (ca_cons (ce_var 7) ca_nil))))).toCF)))))
  (css_one (cs_set 1 nd (ce_var 5))))))))
  (css_one (cs_ret (ce_l (lc_1 (own := [("_law_web", 6)]) s rfl nd (ci_seq K (by rfl) (ce_var 1)) (blkOk_by (by kernel_rfl)) (fun _ _ _ _ _ => (cg_name 6 nd)) (fun _ _ _ _ _ => (cts_one (ct_val (ce_f K (by rfl) (ok__law_ringless T) (hr.mono (by decide)) T.g__law_ringless T.k__law_ringless T.bd__law_ringless takes0 (ca_cons (ce_var 6) ca_nil))))) (fun _ _ _ _ _ => (ce_var 6))).toCF)))))⟩
theorem sc__law_kept : FnScope ["_law_web", "_law_needs", "_law_nots", "_law_cap", "_law_some", "_law_one", "_law_leans"] ["_law_web", "_law_needs", "_law_nots", "_law_cap"] (defScope s__law_kept) := ⟨rfl, rfl, rfl, by decide +kernel, rfl, by decide +kernel, by decide +kernel⟩
theorem ok__law_kept (T : Txt K mg a) : FnOk P w K mg base (L2.CX P w) 2 a.f__law_kept a.d__law_kept ["_law_web", "_law_needs", "_law_nots", "_law_cap"] (spD K 4 F__law_kept) := by
  refine def_ok (k := 1) T.F__law_kept sc__law_kept rfl fun cdv A outer s H E hr tk po hu => ?_
  have nd := sc__law_kept.nd
  have hu5 := units5 hr
  exact ⟨_, (css_cons (cs_set 4 nd (ce_f K (by rfl) (ok__law_arrows T) (hr.mono (by decide)) T.g__law_arrows T.k__law_arrows T.bd__law_arrows tk (ca_cons (ce_var 0) ca_nil)))
  (css_cons (cs_if (CW.ct (cw_or (ct_not (ct_val (ce_callB (k_all K (by rfl) (by rfl)) T.b_all (by decide +kernel) (ca_cons (ce_l (lc_1 (own := [("_law_one", 5)]) s rfl nd (ci_seq K (by rfl) (ce_var 1)) (blkOk_by (by kernel_rfl)) (fun _ _ _ _ _ => (cg_name 5 nd)) (fun _ _ _ _ _ => cts_nil) (fun _ _ _ _ _ => (ce_c (o_inA K (by rfl) hu5) (ce_var 5) (ce_var 4)))).toCF) ca_nil)))) (cw_or1 (ct_c (o_ne K (by rfl) hu) (ce_l (lc_1 (own := [("_law_one", 5)]) s rfl nd (ci_seq K (by rfl) (ce_var 2)) (blkOk_by (by kernel_rfl)) (fun _ _ _ _ _ => (cg_name 5 nd)) (fun _ _ _ _ _ => (cts_one (ct_c (o_inA K (by rfl) hu5) (ce_var 5) (ce_var 4)))) (fun _ _ _ _ _ => (ce_var 5))).toCF) (ce_l (cf_lst ca_nil)))))) (css_one (cs_ret ce_bl)) css_nil)
  (css_one (cs_ret (ce_or (ce_c o_is (ce_var 3) ce_non) (ce_one (ce_c o_le (ce_callB (k_max K (by rfl) (by rfl)) T.b_max (by decide +kernel) (ca_cons (ce_l (lc_1 (own := [("_law_leans", 6)]) s rfl nd (ci_seq K (by rfl) (ce_var 0)) (blkOk_by (by kernel_rfl)) (fun _ _ _ _ _ => (cg_name 6 nd)) (fun _ _ _ _ _ => cts_nil) (fun _ _ _ _ _ => (ce_callB (k_len K (by rfl)) T.b_len (by decide +kernel) (ca_cons (ce_var 6) ca_nil)))).toCF) ca_nil)) (ce_var 3))))))))⟩
theorem sc__law_bound : FnScope ["_law_cell_here", "_law_many", "_law_drawn", "_law_needs", "_law_nots", "_law_k", "_law_arrow", "_law_cap"] ["_law_cell_here", "_law_many"] (defScope s__law_bound) := ⟨rfl, rfl, rfl, by decide +kernel, rfl, by decide +kernel, by decide +kernel⟩
theorem ok__law_bound (T : Txt K mg a) : FnOk P w K mg base (L2.CX P w) 2 a.f__law_bound a.d__law_bound ["_law_cell_here", "_law_many"] (spD K 2 F__law_bound) := by
  refine def_ok (k := 1) T.F__law_bound sc__law_bound rfl fun cdv A outer s H E hr tk po hu => ?_
  have nd := sc__law_bound.nd
  have hu5 := units5 hr
  exact ⟨_, (css_cons (cs_set 2 nd (ce_f K (by rfl) (ok__law_draws T) (hr.mono (by decide)) T.g__law_draws T.k__law_draws T.bd__law_draws tk (ca_cons (ce_var 0) (ca_cons (ce_l (cf_lst (ca_cons ce_int (ca_cons ce_int (ca_cons ce_int (ca_cons (ce_var 1) (ca_cons (ce_var 1) (ca_cons (ce_var 1) (ca_cons (ce_var 1) (ca_cons (ce_var 1) (ca_cons (ce_var 1) (ca_cons (ce_var 1) (ca_cons (ce_var 1) (ca_cons ce_int ca_nil)))))))))))))) ca_nil))))
  (css_cons (cs_own 3 nd (cf_lst ca_nil))
  (css_cons (cs_own 4 nd (cf_lst ca_nil))
  (css_cons (cs_for po rfl (ci_range1 T.b_range (ca_cons ce_int ca_nil)) (cg_name 5 nd) (css_cons (cs_set 6 nd (ce_tup (ca_cons (ce_ix K (by rfl) (ce_var 2) (ce_b (o_add K (by rfl)) ce_int (ce_b (o_mul K (by rfl)) ce_int (ce_var 5)))) (ca_cons (ce_ix K (by rfl) (ce_var 2) (ce_b (o_add K (by rfl)) ce_int (ce_b (o_mul K (by rfl)) ce_int (ce_var 5)))) ca_nil))))
  (css_one (cs_if (ct_c (o_ne K (by rfl) hu) (ce_ix K (by rfl) (ce_var 6) ce_int) (ce_ix K (by rfl) (ce_var 6) ce_int)) (css_cons (cs_if (ct_c o_lt (ce_var 5) (ce_callB (k_min K (by rfl) (by rfl)) T.b_min (by decide +kernel) (ca_cons ce_int (ca_cons (ce_ix K (by rfl) (ce_var 2) ce_int) ca_nil)))) (css_one (cs_app 3 (ce_var 6) (pv 3))) css_nil)
  (css_one (cs_if (CW.ct (cw_and (ct_c o_ge (ce_var 5) ce_int) (cw_and1 (ct_c o_lt (ce_b o_sub (ce_var 5) ce_int) (ce_ix K (by rfl) (ce_var 2) ce_int))))) (css_one (cs_app 4 (ce_var 6) (pv 4))) css_nil))) css_nil))))
  (css_cons (cs_set 7 nd (ce_ix K (by rfl) (ce_l (cf_lst (ca_cons ce_non (ca_cons ce_non (ca_cons ce_int (ca_cons ce_int (ca_cons ce_int ca_nil))))))) (ce_ix K (by rfl) (ce_var 2) ce_int)))
  (css_cons (cs_if (ct_c (o_eq K (by rfl) hu) (ce_ix K (by rfl) (ce_var 2) ce_int) ce_int) (css_one (cs_set 7 nd (ce_ix K (by rfl) (ce_l (cf_lst (ca_cons ce_non (ca_cons ce_int (ca_cons (ce_b o_pow ce_int ce_int) ca_nil))))) (ce_ix K (by rfl) (ce_var 2) ce_int)))) css_nil)
  (css_one (cs_fz 4 (cs_fz 3 (cs_ret (ce_tup (ca_cons (ce_callTy (k_tuple K (by rfl)) T.b_tuple (by decide +kernel) (ca_cons (ce_var 3) ca_nil)) (ca_cons (ce_callTy (k_tuple K (by rfl)) T.b_tuple (by decide +kernel) (ca_cons (ce_var 4) ca_nil)) (ca_cons (ce_var 7) ca_nil))))))))))))))⟩
theorem sc__law_word : FnScope ["_law_asked", "e"] ["_law_asked"] (defScope s__law_word) := ⟨rfl, rfl, rfl, by decide +kernel, rfl, by decide +kernel, by decide +kernel⟩
theorem hd__law_word (T : Txt K mg a) : ∀ (A : Around) (outer : List Env) (cdv : Value) (s : Shared) (H : Hp), HdsC (cxOf (L2.CX P w) P w K mg base ["_law_asked", "e"] "_law_word" (defScope s__law_word) a.f__law_word cdv A outer s H (fun _ _ _ => False)) (tryHds (defBody s__law_word)) [(.ref a.c_LoomError, 1, fun a1 cls d => tRet (tXfB K a1 cls d "word" (tVar 1))), (.ref a.c_Absent, 1, fun a1 cls d => tRet (tXfB K a1 cls d "word" (tVar 1))), (.ref a.c_NothingLeft, 1, fun a1 cls d => tRet (tXfB K a1 cls d "word" (tVar 1)))] q__law_word :=
  fun A outer cdv s H => (HdsC.cons (i := 1) rfl rfl ⟨rfl, by decide, .inl T.hm_LoomError⟩ (tab_cons T.X_BadMany.c T.ex_BadMany_LoomError T.xc_BadMany (tab_cons T.X_NothingLeft.c T.ex_NothingLeft_LoomError T.xc_NothingLeft (tab_cons T.X_ByNought.c T.ex_ByNought_LoomError T.xc_ByNought tab_nil))) (cxs_ret (cex_fld (fun _ _ _ _ _ _ _ => pv 1))) (HdsC.cons (i := 1) rfl rfl ⟨rfl, by decide, .inl T.hm_Absent⟩ (tab_cons T.X_BadMany.c T.ex_BadMany_Absent T.xc_BadMany (tab_cons T.X_NothingLeft.c T.ex_NothingLeft_Absent T.xc_NothingLeft (tab_cons T.X_ByNought.c T.ex_ByNought_Absent T.xc_ByNought tab_nil))) (cxs_ret (cex_fld (fun _ _ _ _ _ _ _ => pv 1))) (HdsC.cons (i := 1) rfl rfl ⟨rfl, by decide, .inl T.hm_NothingLeft⟩ (tab_cons T.X_BadMany.c T.ex_BadMany_NothingLeft T.xc_BadMany (tab_cons T.X_NothingLeft.c T.ex_NothingLeft_NothingLeft T.xc_NothingLeft (tab_cons T.X_ByNought.c T.ex_ByNought_NothingLeft T.xc_ByNought tab_nil))) (cxs_ret (cex_fld (fun _ _ _ _ _ _ _ => pv 1))) HdsC.nil)))
theorem sc__law_same : FnScope ["_law_found", "_law_due", "_law_k"] ["_law_found", "_law_due"] (defScope s__law_same) := ⟨rfl, rfl, rfl, by decide +kernel, rfl, by decide +kernel, by decide +kernel⟩
theorem ok__law_same (T : Txt K mg a) : ∀ n : Nat, FnOk P w K mg base (L2.CX P w) (1 + n) a.f__law_same a.d__law_same ["_law_found", "_law_due"] (spD K 2 (F__law_same n))
  | 0 => ⟨fun vs H Q E h => h.1, fun A outer s H args us vs Q E hr he hb hv h => (by obtain ⟨_, _, _, _, _, _, z⟩ := h; exact z.elim)⟩
  | n + 1 => by
    have ih := ok__law_same T n
    refine def_ok (k := 1 + n) T.F__law_same sc__law_same rfl fun cdv A outer s H E hr tk po hu => ?_
    have nd := sc__law_same.nd
    have hu5 := units5 hr
    exact ⟨_, (css_cons (cs_if (ct_c o_is (ce_var 1) ce_non) (css_one (cs_ret (ce_c o_is (ce_var 0) ce_non))) css_nil)
  (css_cons (cs_if (ct_val (ce_callB (k_isi K (by rfl)) T.b_isinstance (by decide +kernel) (ca_cons (ce_var 1) (ca_cons (ce_bltn (v := .ty "str") (by rfl) T.b_str (by decide +kernel) rfl) ca_nil)))) (css_one (cs_ret (ce_and (ce_callB (k_isi K (by rfl)) T.b_isinstance (by decide +kernel) (ca_cons (ce_var 0) (ca_cons (ce_bltn (v := .ty "str") (by rfl) T.b_str (by decide +kernel) rfl) ca_nil))) (ce_one (ce_c (o_eq K (by rfl) hu) (ce_var 0) (ce_var 1)))))) css_nil)
  (css_cons (cs_if (ct_val (ce_callB (k_isi K (by rfl)) T.b_isinstance (by decide +kernel) (ca_cons (ce_var 1) (ca_cons (ce_bltn (v := .ty "int") (by rfl) T.b_int (by decide +kernel) rfl) ca_nil)))) (css_one (cs_ret (ce_and (ce_callB (k_isi K (by rfl)) T.b_isinstance (by decide +kernel) (ca_cons (ce_var 0) (ca_cons (ce_bltn (v := .ty "int") (by rfl) T.b_int (by decide +kernel) rfl) ca_nil))) (ce_and (ce_c (o_eq K (by rfl) hu) (ce_callB (k_isi K (by rfl)) T.b_isinstance (by decide +kernel) (ca_cons (ce_var 0) (ca_cons (ce_bltn (v := .ty "bool") (by rfl) T.b_bool (by decide +kernel) rfl) ca_nil))) (ce_callB (k_isi K (by rfl)) T.b_isinstance (by decide +kernel) (ca_cons (ce_var 1) (ca_cons (ce_bltn (v := .ty "bool") (by rfl) T.b_bool (by decide +kernel) rfl) ca_nil)))) (ce_one (ce_c (o_eq K (by rfl) hu) (ce_var 0) (ce_var 1))))))) css_nil)
  (css_cons (cs_if (CW.ct (cw_or (ct_c (o_ne K (by rfl) hu) (ce_callB (k_isi K (by rfl)) T.b_isinstance (by decide +kernel) (ca_cons (ce_var 1) (ca_cons (ce_bltn (v := .ty "list") (by rfl) T.b_list (by decide +kernel) rfl) ca_nil))) (ce_callB (k_isi K (by rfl)) T.b_isinstance (by decide +kernel) (ca_cons (ce_var 0) (ca_cons (ce_bltn (v := .ty "list") (by rfl) T.b_list (by decide +kernel) rfl) ca_nil)))) (cw_or1 (ct_c (o_ne K (by rfl) hu) (ce_callB (k_isi K (by rfl)) T.b_isinstance (by decide +kernel) (ca_cons (ce_var 1) (ca_cons (ce_bltn (v := .ty "tuple") (by rfl) T.b_tuple (by decide +kernel) rfl) ca_nil))) (ce_callB (k_isi K (by rfl)) T.b_isinstance (by decide +kernel) (ca_cons (ce_var 0) (ca_cons (ce_bltn (v := .ty "tuple") (by rfl) T.b_tuple (by decide +kernel) rfl) ca_nil))))))) (css_one (cs_ret ce_bl)) css_nil)
  (css_one (cs_ret (ce_and (ce_c (o_eq K (by rfl) hu) (ce_callB (k_len K (by rfl)) T.b_len (by decide +kernel) (ca_cons (ce_var 0) ca_nil)) (ce_callB (k_len K (by rfl)) T.b_len (by decide +kernel) (ca_cons (ce_var 1) ca_nil))) (ce_one (ce_callB (k_all K (by rfl) (by rfl)) T.b_all (by decide +kernel) (ca_cons (ce_l (lc_1 (own := [("_law_k", 2)]) s rfl nd (ci_range1 T.b_range (ca_cons (ce_callB (k_len K (by rfl)) T.b_len (by decide +kernel) (ca_cons (ce_var 1) ca_nil)) ca_nil)) (blkOk_by (by kernel_rfl)) (fun _ _ _ _ _ => (cg_name 2 nd)) (fun _ _ _ _ _ => cts_nil) (fun _ _ _ _ _ => (ce_f K (by rfl) ih (hr.mono (by omega)) T.g__law_same T.k__law_same T.bd__law_same takes0 (ca_cons (ce_ix K (by rfl) (ce_var 0) (ce_var 2)) (ca_cons (ce_ix K (by rfl) (ce_var 1) (ce_var 2)) ca_nil))))).toCF) ca_nil))))))))))⟩
theorem sc_law : FnScope ["_law_script", "_law_drawn", "_law_many", "_law_bad", "_law_cell_here", "_law_size", "_law_needs", "_law_nots", "_law_cap", "_law_due", "_law_web"] ["_law_script"] (defScope s_law) := ⟨rfl, rfl, rfl, by decide +kernel, rfl, by decide +kernel, by decide +kernel⟩
theorem ok_law {oc kV doc pm ct : Value} {od an : Option Addr} {osl : Array (Option Value)} {cL PL : Addr} (T : Txt K mg a) (lL : K.lookup a.f_law = some ⟨oc, od, .func (PySem.W.fnOf "law" "law" (defArgs s_law) (defBody s_law) (defScope s_law) .none kV doc pm an (.ref cL) ct), osl⟩) (hcL : PySem.W.codeIn K (.ref cL) "law" = true) (hP : PL ∈ tabsOf K) (TB : LamX.TabB base mg cL PL) :
    FnOk P w K mg base (L2.CX P w) 11 a.f_law (PySem.W.fnOf "law" "law" (defArgs s_law) (defBody s_law) (defScope s_law) .none kV doc pm an (.ref cL) ct) ["_law_script"] (spD K 1 F_law) := by
  refine def_okC (k := 10) lL hcL sc_law rfl fun A outer s H E hr tk po hu => ?_
  have nd := sc_law.nd
  have hu5 := units5 hr
  have hw__law_word := hd__law_word (P := P) (w := w) (base := base) T
  exact ⟨_, (css_cons (cs_set 0 nd (ce_sl K (by rfl) (ce_var 0) co_none (co_some ce_int)))
  (css_cons (cs_set 1 nd (ce_f K (by rfl) (ok__law_draws T) (hr.mono (by decide)) T.g__law_draws T.k__law_draws T.bd__law_draws tk (ca_cons (ce_f K (by rfl) (ok__law_cell T) (hr.mono (by decide)) T.g__law_cell T.k__law_cell T.bd__law_cell tk (ca_cons (ce_var 0) (ca_cons ce_int ca_nil))) (ca_cons (ce_l (cf_lst (ca_cons ce_int (ca_cons ce_int (ca_cons ce_int ca_nil))))) ca_nil))))
  (css_cons (cs_if (ct_c (o_ne K (by rfl) hu) (ce_l (lc_1 (own := [("_law_many", 2)]) s rfl nd (ci_range2 T.b_range (ca_cons ce_int (ca_cons ce_int ca_nil))) (blkOk_by (by kernel_rfl)) (fun _ _ _ _ _ => (cg_name 2 nd)) (fun _ _ _ _ _ => cts_nil) (fun _ _ _ _ _ => (ce_fn K (by rfl) (ok_many_webs T) (hr.mono (by decide)) T.g_many_webs T.k_many_webs T.bd1_many_webs T.dv1_many_webs (fun B => T.dd1_many_webs B) takes0 (ca_cons (ce_var 2) ca_nil)))).toCF) (ce_l (cf_lst (ca_cons ce_int (ca_cons ce_int (ca_cons ce_int (ca_cons ce_int (ca_cons ce_int ca_nil)))))))) (css_one (cs_ret ce_bl)) css_nil)
  (css_cons (cs_if (CW.ct (cw_and (ct_c (o_eq K (by rfl) hu) (ce_ix K (by rfl) (ce_var 1) ce_int) ce_int) (cw_and1 (ct_c (o_ne K (by rfl) hu) (ce_fn K (by rfl) (ok_many_webs T) (hr.mono (by decide)) T.g_many_webs T.k_many_webs T.bd1_many_webs T.dv1_many_webs (fun B => T.dd1_many_webs B) tk (ca_cons ce_int ca_nil)) ce_int)))) (css_one (cs_ret ce_bl)) css_nil)
  (css_cons (cs_set 2 nd (ce_b (o_add K (by rfl)) ce_int (ce_ix K (by rfl) (ce_var 1) ce_int)))
  (css_cons (cs_set 3 nd (ce_ix K (by rfl) (ce_l (cf_lst (ca_cons ce_int (ca_cons (ce_neg ce_int) (ca_cons ce_int (ca_cons (ce_b o_pow ce_int ce_int) (ca_cons (ce_neg ce_int) (ca_cons ce_int ca_nil)))))))) (ce_ix K (by rfl) (ce_var 1) ce_int)))
  (css_cons (cs_if (ct_c (o_ne K (by rfl) hu) (ce_lamF (k := 8) K (by rfl) T.F__law_word T.g__law_word T.bd__law_word sc__law_word rfl (by first | exact Or.inl rfl | exact Or.inr (Or.inl rfl)) rfl (fun cdv1 s1 H1 => hw__law_word _ _ cdv1 s1 H1) s H TB rfl hP (by rfl) (hr.mono (by decide)) (LamX.lamS_by (by kernel_rfl)) rfl (fun _ _ _ _ _ => rfl) (fun A1 outer1 s H E1 f1 c1 hr => have hu := hr.units; have hu5 := units5 hr; (ce_fn K (by rfl) (ok_many_webs T) (hr.mono (by decide)) T.g_many_webs T.k_many_webs T.bd1_many_webs T.dv1_many_webs (fun B => T.dd1_many_webs B) (takes_of rfl rfl rfl rfl) (ca_cons (ce_var 3) ca_nil)))) ce_str) (css_one (cs_ret ce_bl)) css_nil)
  (css_cons (cs_if (ct_c (o_ne K (by rfl) hu) (ce_kw K (by rfl) (ok_many_webs T) (hr.mono (by decide)) T.g_many_webs T.k_many_webs T.kf0_many_webs (.p 0 (.k 0 (.c T.r_dT_many_webs_never (.c (fun _ => .v _) .nil)))) tk (ca_cons (ce_var 2) ca_nil) (ck_cons (ce_tup (ca_cons (ce_tup (ca_cons ce_int (ca_cons ce_int ca_nil))) ca_nil)) ck_nil)) (ce_kw K (by rfl) (ok_many_webs T) (hr.mono (by decide)) T.g_many_webs T.k_many_webs T.kf0_many_webs (.p 0 (.k 0 (.c T.r_dT_many_webs_never (.c (fun _ => .v _) .nil)))) tk (ca_cons (ce_var 2) ca_nil) (ck_cons (ce_tup (ca_cons (ce_tup (ca_cons ce_int (ca_cons ce_int ca_nil))) ca_nil)) ck_nil))) (css_one (cs_ret ce_bl)) css_nil)
  (css_cons (cs_for po rfl (ci_seq K (by rfl) (ce_b (o_add K (by rfl)) (ce_sl K (by rfl) (ce_var 0) co_none (co_some ce_int)) (ce_l (cf_lst (ca_cons ce_int (ca_cons ce_int (ca_cons ce_int ca_nil))))))) (cg_name 4 nd) (css_cons (cs_set 5 nd (ce_b (o_add K (by rfl)) ce_int (ce_ix K (by rfl) (ce_f K (by rfl) (ok__law_draws T) (hr.mono (by decide)) T.g__law_draws T.k__law_draws T.bd__law_draws tk (ca_cons (ce_b (o_add K (by rfl)) (ce_var 4) ce_int) (ca_cons (ce_l (cf_lst (ca_cons ce_int ca_nil))) ca_nil))) ce_int)))
  (css_cons (cs_asg (ce_f K (by rfl) (ok__law_bound T) (hr.mono (by decide)) T.g__law_bound T.k__law_bound T.bd__law_bound tk (ca_cons (ce_var 4) (ca_cons (ce_var 5) ca_nil))) (cg_tup K (by rfl) (by rfl) (cgs_cons (cg_name 6 nd) (cgs_cons (cg_name 7 nd) (cgs_cons (cg_name 8 nd) cgs_nil (by rfl)) (by rfl)) (by rfl)) (by rfl) (by rfl)))
  (css_cons (cs_if (CW.ct (cw_and (ct_c (o_eq K (by rfl) hu) (ce_var 5) ce_int) (cw_and1 (ct_c o_gt (ce_b o_mod (ce_var 4) ce_int) ce_int)))) (css_one cs_continue) css_nil)
  (css_cons (cs_set 9 nd (ce_callB (k_len K (by rfl)) T.b_len (by decide +kernel) (ca_cons (ce_l (lc_1 (own := [("_law_web", 10)]) s rfl nd (ci_seq K (by rfl) (ce_f K (by rfl) (ok__law_all_webs T) (hr.mono (by decide)) T.g__law_all_webs T.k__law_all_webs T.bd__law_all_webs tk (ca_cons (ce_var 5) ca_nil))) (blkOk_by (by kernel_rfl)) (fun _ _ _ _ _ => (cg_name 10 nd)) (fun _ _ _ _ _ => (cts_one (ct_val (ce_f K (by rfl) (ok__law_kept T) (hr.mono (by decide)) T.g__law_kept T.k__law_kept T.bd__law_kept takes0 (ca_cons (ce_var 10) (ca_cons (ce_var 6) (ca_cons (ce_var 7) (ca_cons (ce_var 8) ca_nil)))))))) (fun _ _ _ _ _ => (ce_var 10))).toCF) ca_nil)))
  (css_one (cs_if (ct_not (ct_val (ce_f K (by rfl) (ok__law_same T 6) (hr.mono (by decide)) T.g__law_same T.k__law_same T.bd__law_same tk (ca_cons (ce_kw K (by rfl) (ok_many_webs T) (hr.mono (by decide)) T.g_many_webs T.k_many_webs T.kf1_many_webs (.p 0 (.k 1 (.k 2 (.k 0 .nil)))) tk (ca_cons (ce_var 5) ca_nil) (ck_cons (ce_var 8) (ck_cons (ce_var 6) (ck_cons (ce_var 7) ck_nil)))) (ca_cons (ce_var 9) ca_nil))))) (css_one (cs_ret ce_bl)) css_nil)))))))
  (css_one (cs_ret ce_bl)))))))))))⟩
end
end My
namespace DV
open PySem L2
theorem forF_map {α β : Type} (f : β → D) (st : α → DS) (step : α → β → α) (P : α → Prop) {b : D → DS → Option DS} {g : DS → Fl} : ∀ (xs : List β) (a : α), P a →
    (∀ a x, x ∈ xs → P a → ∃ δ', b (f x) (st a) = some δ' ∧ g δ' = .nx (st (step a x)) ∧ P (step a x)) → forF b g (xs.map f) (st a) = .nx (st (xs.foldl step a)) ∧ P (xs.foldl step a)
  | [], a, hp, _ => ⟨rfl, hp⟩
  | x :: xs, a, hp, h => by
    obtain ⟨δ', h1, h2, h3⟩ := h a x (by simp) hp
    have ih := forF_map f st step P xs (step a x) h3 fun a y hy => h a y (by simp [hy])
    refine ⟨?_, ih.2⟩
    rw [List.map_cons, forF, h1]
    dsimp only
    rw [h2]
    exact ih.1
theorem lcF_map {β : Type} (f : β → D) (h : β → D) {b : D → DS → Option DS} {t : DS → Res Bool} {e : DS → Res D} {δ : DS} : ∀ xs : List β,
    (∀ x, x ∈ xs → ∃ δ', b (f x) δ = some δ' ∧ t δ' = .ok true ∧ e δ' = .ok (h x)) → lcF b t e (xs.map f) δ = .ok (xs.map h)
  | [], _ => rfl
  | x :: xs, hh => by
    obtain ⟨δ', h1, h2, h3⟩ := hh x (by simp)
    rw [List.map_cons, lcF, h1]
    dsimp only
    rw [h2, h3]
    simp only [Res.calm_ok, Res.bind_ok, if_true]
    rw [lcF_map f h xs fun y hy => hh y (by simp [hy])]
    rfl
theorem lcF_filter {β : Type} (f : β → D) (p : β → Bool) (h : β → D) {b : D → DS → Option DS} {t : DS → Res Bool} {e : DS → Res D} {δ : DS} : ∀ xs : List β,
    (∀ x, x ∈ xs → ∃ δ', b (f x) δ = some δ' ∧ t δ' = .ok (p x) ∧ (p x = true → e δ' = .ok (h x))) → lcF b t e (xs.map f) δ = .ok ((xs.filter p).map h)
  | [], _ => rfl
  | x :: xs, hh => by
    obtain ⟨δ', h1, h2, h3⟩ := hh x (by simp)
    have ih := lcF_filter f p h xs fun y hy => hh y (by simp [hy])
    rw [List.map_cons, lcF, h1]
    dsimp only
    rw [h2]
    simp only [Res.calm_ok, Res.bind_ok]
    cases hp : p x with
    | true =>
      rw [if_pos rfl, h3 hp, Res.calm_ok, Res.bind_ok, ih, Res.bind_ok, List.filter_cons, if_pos hp]
      rfl
    | false =>
      rw [if_neg Bool.false_ne_true, ih, List.filter_cons, if_neg (by rw [hp]; exact Bool.false_ne_true)]
theorem cutD_map {β : Type} (f : β → D) (xs : List β) (lo hi : Option Int) : cutD (xs.map f) lo hi = ((xs.drop (HT.sIx xs.length 0 lo)).take (HT.sIx xs.length xs.length hi - HT.sIx xs.length 0 lo)).map f := by
  unfold cutD
  rw [List.length_map, List.map_take, List.map_drop]
theorem mul_ok {i j : Int} {a b : Nat} (ha : i.natAbs < 2 ^ a) (hb : j.natAbs < 2 ^ b) (h0 : 0 < a) (h1 : 0 < b) (h : a + b ≤ 1000000) : i.natAbs.log2 + j.natAbs.log2 < 1000000 := wide_mul ha hb h0 h1 h
theorem oMul_int {i j : Int} (h : i.natAbs.log2 + j.natAbs.log2 < 1000000) : oMul2 (.int i) (.int j) = .ok (.int (i * j)) := by
  show (if i.natAbs.log2 + j.natAbs.log2 < 1000000 then _ else _) = _
  rw [if_pos h]
theorem oMod_pos {i j : Int} (h : 0 < j) : oMod (.int i) (.int j) = .ok (.int (i % j)) := by
  show (if j ≠ 0 then _ else _) = _
  rw [if_pos (by omega), Int.fmod_eq_emod_of_nonneg i (by omega)]
theorem log2_small {n k : Nat} (h0 : 0 < k) (h : n < 2 ^ k) : n.log2 < k := PySem.Flt.log2_lt_of h0 h
theorem oFdiv_pos {i j : Int} (h : 0 < j) (hl : j.natAbs < 2 ^ 9000) : oFdiv (.int i) (.int j) = .ok (.int (i / j)) := by
  show (if j ≠ 0 ∧ j.natAbs.log2 < 9000 then _ else _) = _
  rw [if_pos ⟨by omega, log2_small (by decide) hl⟩, Int.fdiv_eq_ediv_of_nonneg i (by omega)]
theorem oAdd_int (i j : Int) : oAdd (.int i) (.int j) = .ok (.int (i + j)) := rfl
theorem oSub_int (i j : Int) : oSub (.int i) (.int j) = .ok (.int (i - j)) := rfl
theorem oEq_int (i j : Int) : oEq (.int i) (.int j) = .ok (.bl (decide (i = j))) := by
  show (if SeqAt.shaped (.int i) = true ∧ SeqAt.shaped (.int j) = true then Res.ok (D.bl (if false = true then _ else i == j)) else .no) = _
  rw [if_pos ⟨by rfl, by rfl⟩]
  rfl
theorem oNe_int (i j : Int) : oNe (.int i) (.int j) = .ok (.bl (!decide (i = j))) := by
  show (if SeqAt.shaped (.int i) = true ∧ SeqAt.shaped (.int j) = true then Res.ok (D.bl (if true = true then !(i == j) else _)) else .no) = _
  rw [if_pos ⟨by rfl, by rfl⟩]
  rfl
theorem oEq_bl (i j : Bool) : oEq (.bl i) (.bl j) = .ok (.bl (i == j)) := by
  cases i <;> cases j <;> rfl
theorem oNe_bl (i j : Bool) : oNe (.bl i) (.bl j) = .ok (.bl (!(i == j))) := by
  cases i <;> cases j <;> rfl
theorem gRange1_nat {n : Nat} (hz : n ≤ sizeLine) : gRange1 [D.int (n : Int)] = .ok (rangeD 0 n) := by
  rw [sizeLine_eq] at hz
  unfold gRange1
  dsimp only
  rw [if_pos (by omega), Int.toNat_natCast]
theorem seq_nx {g h : DS → Fl} {δ δ' : DS} {r : Fl} (h1 : g δ = .nx δ') (h2 : h δ' = r) : cSeq g h δ = r := by
  rw [cSeq, h1]
  exact h2
theorem seq_rs {g h : DS → Fl} {δ δ' : DS} {x : Exn} (h1 : g δ = .rs x δ') : cSeq g h δ = .rs x δ' := by
  rw [cSeq, h1]
  rfl
theorem asg_nx {i : Nat} {f : DS → Res D} {δ : DS} {d : D} (h : f δ = .ok d) : cAsg i f δ = .nx (δ.set i (some (.im d))) := by
  rw [cAsg, h]
  rfl
theorem own_nx {i : Nat} {f : DS → Res (List D)} {δ : DS} {ds : List D} (h : f δ = .ok ds) : cOwn i f δ = .nx (δ.set i (some (.ow ds))) := by
  rw [cOwn, h]
  rfl
theorem ret_rt {f : DS → Res D} {δ : DS} {d : D} (h : f δ = .ok d) : cRet f δ = .rt d := by
  rw [cRet, h]
  rfl
theorem if_t {t : DS → Res Bool} {g h : DS → Fl} {δ : DS} {r : Fl} (ht : t δ = .ok true) (hg : g δ = r) : cIf t g h δ = r := by
  rw [cIf, ht]
  exact hg
theorem if_f {t : DS → Res Bool} {g h : DS → Fl} {δ : DS} {r : Fl} (ht : t δ = .ok false) (hh : h δ = r) : cIf t g h δ = r := by
  rw [cIf, ht]
  exact hh
theorem for_r {fi : DS → Res (List D)} {b : D → DS → Option DS} {g : DS → Fl} {δ : DS} {ds : List D} {r : Fl} (h : fi δ = .ok ds) (hf : forF b g ds δ = r) : cFor fi b g δ = r := by
  rw [cFor, h]
  exact hf
end DV
namespace My
open PySem L2 DV
def digs : Int → List Int → List Int
  | _, [] => []
  | m, s :: ss => m % s :: digs (m / s) ss
theorem digs_length : ∀ (ss : List Int) (m : Int), (digs m ss).length = ss.length
  | [], _ => rfl
  | s :: ss, m => by simp [digs, digs_length ss]
theorem draws_loop (L : D) (o2 o3 o4 : Option O) : ∀ (ss : List Int) (m : Int) (ds : List D) (o : Option O), (∀ s ∈ ss, 0 < s ∧ s < 2 ^ 31) → ds.length + ss.length < 1000 →
    ∃ m' o', forF (bName 6) (cSeq (cApp 5 (cBin oMod (cVar 0) (cVar 6))) (cAsg 0 (cBin oFdiv (cVar 0) (cVar 6)))) (ss.map D.int) [some (.im (.int m)), some (.im L), o2, o3, o4, some (.ow ds), o] =
      .nx [some (.im (.int m')), some (.im L), o2, o3, o4, some (.ow (ds ++ (digs m ss).map D.int)), o']
  | [], m, ds, o, _, _ => ⟨m, o, by simp [forF, digs]⟩
  | s :: ss, m, ds, o, hs, hl => by
    obtain ⟨h1, h2⟩ := hs s (by simp)
    have hl2 : ds.length + (ss.length + 1) < 1000 := by simpa using hl
    have hz : ds.length < sizeLine := Nat.lt_trans (by omega : ds.length < 1000) (by decide)
    obtain ⟨m', o', ih⟩ := draws_loop L o2 o3 o4 ss (m / s) (ds ++ [D.int (m % s)]) (some (.im (.int s))) (fun x hx => hs x (by simp [hx])) (by simp; omega)
    refine ⟨m', o', ?_⟩
    have hs9 : s.natAbs < 2 ^ 9000 := Nat.lt_of_lt_of_le (show s.natAbs < 2 ^ 31 by omega) (Nat.pow_le_pow_right (by decide) (by decide))
    rw [List.map_cons, forF]
    simp only [bName, List.set_cons_succ, List.set_cons_zero]
    have e1 : oMod (.int m) (.int s) = .ok (.int (m % s)) := oMod_pos h1
    have e2 : oFdiv (.int m) (.int s) = .ok (.int (m / s)) := oFdiv_pos h1 hs9
    have eb : cSeq (cApp 5 (cBin oMod (cVar 0) (cVar 6))) (cAsg 0 (cBin oFdiv (cVar 0) (cVar 6))) [some (.im (.int m)), some (.im L), o2, o3, o4, some (.ow ds), some (.im (.int s))] =
        .nx [some (.im (.int (m / s))), some (.im L), o2, o3, o4, some (.ow (ds ++ [D.int (m % s)])), some (.im (.int s))] := by
      simp [cSeq, cApp, cBin, cVar, cAsg, e1, e2, hz]
    rw [eb]
    dsimp only
    rw [ih]
    simp [digs]
theorem draws_ok (c : Int) (ss : List Int) (hs : ∀ s ∈ ss, 0 < s ∧ s < 2 ^ 31) (hl : ss.length < 1000) : ∃ m, F__law_draws [.int c, .lst (ss.map D.int)] = .ok (.lst ((digs m ss).map D.int)) := by
  have fin : ∀ (m : Int) (o2 o3 o4 : Option O), flR (((cSeq (cOwn 5 cNil) (cSeq (cFor (cItems (cVar 1)) (bName 6) (cSeq (cApp 5 (cBin oMod (cVar 0) (cVar 6))) (cAsg 0 (cBin oFdiv (cVar 0) (cVar 6))))) (cFz 5 (cRet (cVar 5)))))) [some (.im (.int m)), some (.im (.lst (ss.map D.int))), o2, o3, o4, none, none]) = .ok (.lst ((digs m ss).map D.int)) := by
    intro m o2 o3 o4
    obtain ⟨m', o', h⟩ := draws_loop (.lst (ss.map D.int)) o2 o3 o4 ss m [] none hs (by simpa using hl)
    simp only [List.nil_append] at h
    simp [cSeq, cOwn, cNil, cFor, cItems, cVar, itemsD, h, cFz, fz, cRet]
  unfold F__law_draws defF g__law_draws
  have est : st0 5 [D.int c, .lst (ss.map D.int)] = [some (.im (.int c)), some (.im (.lst (ss.map D.int))), none, none, none, none, none] := rfl
  rw [est, cSeq]
  have p1 : oPow (.int 10) (.int 18) = .ok (.int (10 ^ 18)) := by rfl
  have htest : (cTest (cBin oLt (cCall gAbs (cCons (cVar 0) cNil)) (cBin oPow (cC (.int 10)) (cC (.int 18))))) [some (.im (.int c)), some (.im (.lst (ss.map D.int))), none, none, none, none, none] = .ok (decide ((if c < 0 then -c else c) < 10 ^ 18)) := by
    simp [cTest, cBin, cCall, gAbs, cCons, cVar, cNil, cC, p1, oI, asB]
  by_cases hc : (if c < 0 then -c else c) < 10 ^ 18
  · have hc1 : c.natAbs < 2 ^ 60 := by
      have : (10 : Int) ^ 18 < 2 ^ 60 := by decide
      split at hc <;> omega
    have m1 : oMul2 (.int c) (.int 48271) = .ok (.int (c * 48271)) := oMul_int (mul_ok (a := 60) (b := 16) hc1 (by decide) (by decide) (by decide) (by decide))
    have hm0 : 0 ≤ (c * 48271 + 11) % 2147483647 ∧ (c * 48271 + 11) % 2147483647 < 2147483647 := by omega
    generalize hmx : (c * 48271 + 11) % 2147483647 = mx at hm0
    have m2 : oMul2 (.int mx) (.int mx) = .ok (.int (mx * mx)) := oMul_int (mul_ok (a := 31) (b := 31) (by omega) (by omega) (by decide) (by decide) (by decide))
    have m3 : oMul2 (.int 40692) (.int mx) = .ok (.int (40692 * mx)) := oMul_int (mul_ok (a := 31) (b := 31) (by decide) (by omega) (by decide) (by decide) (by decide))
    have ht0 : 0 ≤ (mx * mx + 40692 * mx + c) % 2147483399 ∧ (mx * mx + 40692 * mx + c) % 2147483399 < 2147483399 := ⟨Int.emod_nonneg _ (by decide), Int.emod_lt_of_pos _ (by decide)⟩
    generalize htw : (mx * mx + 40692 * mx + c) % 2147483399 = tw at ht0
    have m4 : oMul2 (.int tw) (.int 16807) = .ok (.int (tw * 16807)) := oMul_int (mul_ok (a := 31) (b := 31) (by omega) (by decide) (by decide) (by decide) (by decide))
    have hx0 : 0 ≤ (tw * 16807 + mx) % 1000000007 ∧ (tw * 16807 + mx) % 1000000007 < 1000000007 := by omega
    generalize hsx : (tw * 16807 + mx) % 1000000007 = sx at hx0
    have m5 : oMul2 (.int 1000000007) (.int mx) = .ok (.int (1000000007 * mx)) := oMul_int (mul_ok (a := 31) (b := 31) (by decide) (by omega) (by decide) (by decide) (by decide))
    have m6 : oMul2 (.int 2147483399) (.int (sx + 1000000007 * mx)) = .ok (.int (2147483399 * (sx + 1000000007 * mx))) := oMul_int (mul_ok (a := 32) (b := 64) (by decide) (by omega) (by decide) (by decide) (by decide))
    have d1 : oMod (.int (c * 48271 + 11)) (.int 2147483647) = .ok (.int mx) := by rw [oMod_pos (by decide), hmx]
    have d2 : oMod (.int (mx * mx + 40692 * mx + c)) (.int 2147483399) = .ok (.int tw) := by rw [oMod_pos (by decide), htw]
    have d3 : oMod (.int (tw * 16807 + mx)) (.int 1000000007) = .ok (.int sx) := by rw [oMod_pos (by decide), hsx]
    refine ⟨tw + 2147483399 * (sx + 1000000007 * mx), ?_⟩
    have hif : cIf (cTest (cBin oLt (cCall gAbs (cCons (cVar 0) cNil)) (cBin oPow (cC (.int 10)) (cC (.int 18))))) (cSeq (cAsg 2 (cBin oMod (cBin oAdd (cBin oMul2 (cVar 0) (cC (.int 48271))) (cC (.int 11))) (cC (.int 2147483647))))
        (cSeq (cAsg 3 (cBin oMod (cBin oAdd (cBin oAdd (cBin oMul2 (cVar 2) (cVar 2)) (cBin oMul2 (cC (.int 40692)) (cVar 2))) (cVar 0)) (cC (.int 2147483399))))
        (cSeq (cAsg 4 (cBin oMod (cBin oAdd (cBin oMul2 (cVar 3) (cC (.int 16807))) (cVar 2)) (cC (.int 1000000007))))
        (cAsg 0 (cBin oAdd (cVar 3) (cBin oMul2 (cC (.int 2147483399)) (cBin oAdd (cVar 4) (cBin oMul2 (cC (.int 1000000007)) (cVar 2))))))))) (cAsg 0 (cBin oSub (cCall gAbs (cCons (cVar 0) cNil)) (cBin oPow (cC (.int 10)) (cC (.int 18)))))
        [some (.im (.int c)), some (.im (.lst (ss.map D.int))), none, none, none, none, none] = .nx [some (.im (.int (tw + 2147483399 * (sx + 1000000007 * mx)))), some (.im (.lst (ss.map D.int))), some (.im (.int mx)), some (.im (.int tw)), some (.im (.int sx)), none, none] := by
      rw [cIf, htest, stE_ok, if_pos (decide_eq_true hc)]
      simp [cBin, cVar, cC, cSeq, cAsg, oAdd_int, m1, m2, m3, m4, m5, m6, d1, d2, d3]
    rw [hif]
    exact fin _ _ _ _
  · refine ⟨(if c < 0 then -c else c) - 10 ^ 18, ?_⟩
    have hif : cIf (cTest (cBin oLt (cCall gAbs (cCons (cVar 0) cNil)) (cBin oPow (cC (.int 10)) (cC (.int 18))))) (cSeq (cAsg 2 (cBin oMod (cBin oAdd (cBin oMul2 (cVar 0) (cC (.int 48271))) (cC (.int 11))) (cC (.int 2147483647))))
        (cSeq (cAsg 3 (cBin oMod (cBin oAdd (cBin oAdd (cBin oMul2 (cVar 2) (cVar 2)) (cBin oMul2 (cC (.int 40692)) (cVar 2))) (cVar 0)) (cC (.int 2147483399))))
        (cSeq (cAsg 4 (cBin oMod (cBin oAdd (cBin oMul2 (cVar 3) (cC (.int 16807))) (cVar 2)) (cC (.int 1000000007))))
        (cAsg 0 (cBin oAdd (cVar 3) (cBin oMul2 (cC (.int 2147483399)) (cBin oAdd (cVar 4) (cBin oMul2 (cC (.int 1000000007)) (cVar 2))))))))) (cAsg 0 (cBin oSub (cCall gAbs (cCons (cVar 0) cNil)) (cBin oPow (cC (.int 10)) (cC (.int 18)))))
        [some (.im (.int c)), some (.im (.lst (ss.map D.int))), none, none, none, none, none] = .nx [some (.im (.int ((if c < 0 then -c else c) - 10 ^ 18))), some (.im (.lst (ss.map D.int))), none, none, none, none, none] := by
      rw [cIf, htest, stE_ok, if_neg (by simpa using hc)]
      simp [cBin, cVar, cC, cCall, gAbs, cCons, cNil, cAsg, p1, oSub_int]
    rw [hif]
    exact fin _ _ _ _
end My
namespace DV
open PySem L2
section
variable {δ : DS} {f f' : DS → Res D} {fs fk : DS → Res (List D)} {t u : DS → Res Bool} {g h : DS → Fl} {i : Nat}
@[simp] theorem ev_var : cVar i δ = (match δ[i]? with | some (some (.im d)) => .ok d | _ => .no) := rfl
@[simp] theorem ev_c {d : D} : cC d δ = .ok d := rfl
@[simp] theorem ev_bin {o : D → D → Res D} : cBin o f f' δ = (f δ).bind fun x => (f' δ).bind fun y => o x y := rfl
@[simp] theorem ev_un {o : D → Res D} : cUn o f δ = (f δ).bind o := rfl
@[simp] theorem ev_chain {o o' : D → D → Res D} {fb fc : DS → Res D} : cChain o o' f fb fc δ = (f δ).bind fun x => (fb δ).bind fun y => (o x y).bind fun k => (match k with
  | .v (.bl true) => (fc δ).bind fun z => o' y z
  | .v (.bl false) => .ok (.bl false)
  | _ => .no) := rfl
@[simp] theorem ev_test : cTest f δ = (f δ).bind asB := rfl
@[simp] theorem ev_asB {b : Bool} : asB (.v (.bl b)) = .ok b := rfl
@[simp] theorem ev_asI {b : Int} : asI (.v (.int b)) = .ok (some b) := rfl
@[simp] theorem ev_notT : cNotT t δ = (t δ).bind fun b => .ok (!b) := rfl
@[simp] theorem ev_andT : cAndT t u δ = (t δ).bind fun b => if b = true then u δ else .ok false := rfl
@[simp] theorem ev_orT : cOrT t u δ = (t δ).bind fun b => if b = true then .ok true else u δ := rfl
@[simp] theorem ev_andV : cAndV f f' δ = (f δ).bind fun x => (match x with
  | .v (.bl true) => f' δ
  | .v (.bl false) => .ok (.bl false)
  | _ => .no) := rfl
@[simp] theorem ev_orV : cOrV f f' δ = (f δ).bind fun x => (match x with
  | .v (.bl true) => .ok (.bl true)
  | .v (.bl false) => f' δ
  | _ => .no) := rfl
@[simp] theorem ev_not {b : Bool} : oNot (.v (.bl b)) = .ok (.bl (!b)) := rfl
@[simp] theorem ev_ifE : cIfE t f f' δ = (t δ).bind fun b => if b = true then f δ else f' δ := rfl
@[simp] theorem ev_nil : cNil δ = .ok [] := rfl
@[simp] theorem ev_cons : cCons f fs δ = (f δ).bind fun x => (fs δ).bind fun xs => .ok (x :: xs) := rfl
@[simp] theorem ev_tup : cTup fs δ = (fs δ).bind fun ds => .ok (.tup ds) := rfl
@[simp] theorem ev_L : cL fs δ = (fs δ).bind fun ds => .ok (.lst ds) := rfl
@[simp] theorem ev_call {c : List D → Res D} : cCall c fs δ = (fs δ).bind c := rfl
@[simp] theorem ev_fn0 {F : List D → Res D} : cFn0 F fs δ = (fs δ).bind F := rfl
@[simp] theorem ev_fn {F : List D → Res D} {dd : List D} : cFn F dd fs δ = (fs δ).bind fun ds => F (ds ++ dd) := rfl
@[simp] theorem ev_kw {F : List D → Res D} {l : List (Pk D)} : cKw F l fs fk δ = (fs δ).bind fun ds => (fk δ).bind fun es => F (pkD l ds es) := rfl
@[simp] theorem ev_pk_p {α : Type} {z : α} {us ws : List α} {n : Nat} : Pk.get z us ws (.p n) = us.getD n z := rfl
@[simp] theorem ev_pk_k {α : Type} {z : α} {us ws : List α} {n : Nat} : Pk.get z us ws (.k n) = ws.getD n z := rfl
@[simp] theorem ev_pk_c {α : Type} {z x : α} {us ws : List α} : Pk.get z us ws (.c x) = x := rfl
@[simp] theorem ev_items : cItems f δ = (f δ).bind itemsD := rfl
@[simp] theorem ev_items_l {xs : List D} : itemsD (.lst xs) = .ok xs := rfl
@[simp] theorem ev_items_t {xs : List D} : itemsD (.tup xs) = .ok xs := rfl
@[simp] theorem ev_it {c : List D → Res (List D)} : cIt c fs δ = (fs δ).bind c := rfl
@[simp] theorem ev_lc {vs : List Nat} {b : D → DS → Option DS} : cLc vs fs b t f δ = (fs δ).bind fun ds => if ds.length ≤ sizeLine then lcF b t f ds (wipeD δ vs) else .no := rfl
@[simp] theorem ev_yes : cYes δ = .ok true := rfl
@[simp] theorem ev_wipe0 : wipeD δ [] = δ := rfl
@[simp] theorem ev_wipe1 {v : Nat} {vs : List Nat} : wipeD δ (v :: vs) = (wipeD δ vs).set v none := rfl
@[simp] theorem ev_none : cNone δ = .ok none := rfl
@[simp] theorem ev_some : cSome f δ = (f δ).bind asI := rfl
@[simp] theorem ev_sl {lo hi : DS → Res (Option Int)} : cSl f lo hi δ = (f δ).bind fun x => (lo δ).bind fun l => (hi δ).bind fun h => oSl l h x := rfl
@[simp] theorem ev_slt {lo hi : Option Int} {xs : List D} : oSl lo hi (.tup xs) = .ok (.tup (cutD xs lo hi)) := rfl
@[simp] theorem ev_sll {lo hi : Option Int} {xs : List D} : oSl lo hi (.lst xs) = .ok (.lst (cutD xs lo hi)) := rfl
@[simp] theorem ev_bname {d : D} : bName i d δ = some (δ.set i (some (.im d))) := rfl
@[simp] theorem ev_bnil : bNil [] δ = some δ := rfl
@[simp] theorem ev_bcons {b : D → DS → Option DS} {c : List D → DS → Option DS} {d : D} {ds : List D} : bCons b c (d :: ds) δ = (b d δ).bind fun δ' => c ds δ' := rfl
@[simp] theorem ev_btup {n : Nat} {c : List D → DS → Option DS} {ds : List D} : bTup n c (.tup ds) δ = if ds.length = n then c ds δ else none := rfl
@[simp] theorem ev_seq : cSeq g h δ = (g δ).then h := rfl
@[simp] theorem ev_next : cNext δ = .nx δ := rfl
@[simp] theorem ev_break : cBreak δ = .bk δ := rfl
@[simp] theorem ev_cont : cCont δ = .ct δ := rfl
@[simp] theorem ev_ret : cRet f δ = stE (f δ) δ fun d => .rt d := rfl
@[simp] theorem ev_retN : cRetN δ = .rt .non := rfl
@[simp] theorem ev_if : cIf t g h δ = stE (t δ) δ fun b => if b = true then g δ else h δ := rfl
@[simp] theorem ev_drop : cDrop f δ = stE (f δ) δ fun _ => .nx δ := rfl
@[simp] theorem ev_asg : cAsg i f δ = stE (f δ) δ fun d => .nx (δ.set i (some (.im d))) := rfl
@[simp] theorem ev_asgG {b : D → DS → Option DS} : cAsgG b f δ = stE (f δ) δ fun d => (match b d δ with
  | some δ' => .nx δ'
  | none => .no) := rfl
@[simp] theorem ev_par {j : Nat} : cPar i j fs δ = stE (fs δ) δ fun ds => (match ds with
  | [d, e] => .nx ((δ.set i (some (.im d))).set j (some (.im e)))
  | _ => .no) := rfl
@[simp] theorem ev_aug {o : D → D → Res D} : cAug i o f δ = stE ((cVar i δ).bind fun x => (f δ).bind fun y => o x y) δ fun d => .nx (δ.set i (some (.im d))) := rfl
@[simp] theorem ev_own : cOwn i fs δ = stE (fs δ) δ fun ds => .nx (δ.set i (some (.ow ds))) := rfl
@[simp] theorem ev_app : cApp i f δ = (match δ[i]? with
  | some (some (.ow ds)) => stE (f δ) δ fun d => if ds.length < sizeLine then .nx (δ.set i (some (.ow (ds ++ [d])))) else .no
  | _ => .no) := rfl
@[simp] theorem ev_cfz : cFz i g δ = g (fz i δ) := rfl
@[simp] theorem ev_fz : fz i δ = (match δ[i]? with
  | some (some (.ow ds)) => δ.set i (some (.im (.lst ds)))
  | some (some (.tr m k ts)) => δ.set i (some (.im (T.nd k ts).d))
  | _ => δ) := rfl
@[simp] theorem ev_fzq : fzq i δ = (match δ[i]? with
  | some (some (.ow ds)) => δ.set i (some (.im (.lst ds)))
  | some (some (.tr m k ts)) => if (T.nd k ts).noTp = true then δ.set i (some (.im (T.nd k ts).d)) else δ
  | _ => δ) := rfl
@[simp] theorem ev_look : cLook i f δ = flatR (f (fzq i δ)) := rfl
@[simp] theorem ev_flat {x : V} : flatR (.ok (.v x)) = .ok (.v x) := rfl
@[simp] theorem ev_lookT : cLookT i t δ = (t (fzq i δ)).calm := rfl
@[simp] theorem ev_for {b : D → DS → Option DS} : cFor fs b g δ = stE (fs δ) δ fun ds => forF b g ds δ := rfl
@[simp] theorem ev_raise {c : Str} {ff : List D → List (Str × D)} : cRaise c ff fs δ = stE (fs δ) δ fun ds => .rs ⟨c, ff ds⟩ δ := rfl
@[simp] theorem ev_lam {n : Nat} {q : Clauses} {z : Str} : cLam n q z f δ = wordF n q z (f δ) := rfl
@[simp] theorem ev_word_ok {n : Nat} {q : Clauses} {z : Str} {d : D} : wordF n q z (.ok d) = .ok (.str z) := rfl
@[simp] theorem ev_forF0 {b : D → DS → Option DS} : forF b g [] δ = .nx δ := rfl
@[simp] theorem ev_lcF0 {b : D → DS → Option DS} : lcF b t f [] δ = .ok [] := rfl
@[simp] theorem ev_add (i j : Int) : oAdd (.v (.int i)) (.v (.int j)) = .ok (.int (i + j)) := rfl
@[simp] theorem ev_sub (i j : Int) : oSub (.v (.int i)) (.v (.int j)) = .ok (.int (i - j)) := rfl
@[simp] theorem ev_neg (i : Int) : oNeg (.v (.int i)) = .ok (.int (-i)) := rfl
@[simp] theorem ev_addI (i j : Int) : oAddI (.v (.int i)) (.v (.int j)) = .ok (.int (i + j)) := rfl
@[simp] theorem ev_oI {p : Int → Int → Bool} (i j : Int) : oI p (.v (.int i)) (.v (.int j)) = .ok (.bl (p i j)) := rfl
@[simp] theorem ev_eqI (i j : Int) : oEqB false (.v (.int i)) (.v (.int j)) = .ok (.bl (decide (i = j))) := oEq_int i j
@[simp] theorem ev_neI (i j : Int) : oEqB true (.v (.int i)) (.v (.int j)) = .ok (.bl (!decide (i = j))) := oNe_int i j
@[simp] theorem ev_eqB (i j : Bool) : oEqB false (.v (.bl i)) (.v (.bl j)) = .ok (.bl (i == j)) := oEq_bl i j
@[simp] theorem ev_neB (i j : Bool) : oEqB true (.v (.bl i)) (.v (.bl j)) = .ok (.bl (!(i == j))) := oNe_bl i j
@[simp] theorem ev_isN {b : Bool} {x : V} : oIsN b (.v x) (.v .non) = .ok (.bl (if b then !isNon (.v x) else isNon (.v x))) := by cases b <;> rfl
@[simp] theorem ev_lenl {xs : List D} : gLen [.lst xs] = .ok (.int (xs.length : Nat)) := rfl
@[simp] theorem ev_lent {xs : List D} : gLen [.tup xs] = .ok (.int (xs.length : Nat)) := rfl
@[simp] theorem ev_revt {xs : List D} : oRev (.tup xs) = .ok (.tup xs.reverse) := rfl
@[simp] theorem ev_revl {xs : List D} : oRev (.lst xs) = .ok (.lst xs.reverse) := rfl
@[simp] theorem ev_all {bs : List Bool} : gAll [.lst (bs.map D.bl)] = .ok (.bl (bs.all id)) := by unfold gAll gBls; simp
@[simp] theorem ev_any {bs : List Bool} : gAny [.lst (bs.map D.bl)] = .ok (.bl (bs.any id)) := by unfold gAny gBls; simp
theorem ev_all' {α : Type} {xs : List α} {p : α → Bool} : gAll [.lst (xs.map fun a => D.bl (p a))] = .ok (.bl (xs.all p)) := by
  have e : (xs.map fun a => D.bl (p a)) = (xs.map p).map D.bl := by simp
  rw [e, ev_all]
  simp [List.all_map, Function.comp_def]
theorem ev_any' {α : Type} {xs : List α} {p : α → Bool} : gAny [.lst (xs.map fun a => D.bl (p a))] = .ok (.bl (xs.any p)) := by
  have e : (xs.map fun a => D.bl (p a)) = (xs.map p).map D.bl := by simp
  rw [e, ev_any]
  simp [List.any_map, Function.comp_def]
end
@[simp] theorem defF_ev {m : Nat} {g : DS → Fl} {ds : List D} : defF m g ds = flR (g (st0 m ds)) := rfl
@[simp] theorem st0_ev {m : Nat} {ds : List D} : st0 m ds = ds.map (fun d => some (.im d)) ++ List.replicate m none := rfl
theorem at_nat {α : Type} {xs : List α} {i : Nat} : atI xs (i : Int) = xs[i]? := by
  unfold atI ixN
  by_cases h : i < xs.length
  · simp [h]
  · simp [h]
end DV
namespace DV
open PySem L2
mutual
def D.nb : D → Bool
  | .v .non => true
  | .v (.int _) => true
  | .v (.str s) => PyData.canLay0 (.str s)
  | .v _ => false
  | .lst xs => D.nbA xs
  | .tup xs => D.nbA xs
  | .dct _ _ => false
  | .dlk _ _ => false
  | .ins _ _ _ => false
  | .dtt _ _ => false
  | .ptp _ => false
  | .wor _ _ => false
def D.nbA : List D → Bool
  | [] => true
  | x :: xs => x.nb && D.nbA xs
end
mutual
def D.dep : D → Nat
  | .lst xs => D.depA xs + 1
  | .tup xs => D.depA xs + 1
  | _ => 0
def D.depA : List D → Nat
  | [] => 0
  | x :: xs => max x.dep (D.depA xs)
end
mutual
def D.eqb : D → D → Bool
  | .v x, .v y => decide (x = y)
  | .lst xs, .lst ys => D.eqbA xs ys
  | .tup xs, .tup ys => D.eqbA xs ys
  | .dct ks vs, .dct ls ws => D.eqbA ks ls && D.eqbA vs ws
  | .dlk ks vs, .dlk ls ws => D.eqbA ks ls && D.eqbA vs ws
  | .ins c ns vs, .ins b ms ws => decide (c = b) && decide (ns = ms) && D.eqbA vs ws
  | .dtt ks vs, .dtt ls ws => decide (ks = ls) && D.eqbA vs ws
  | .ptp xs, .ptp ys => D.eqbA xs ys
  | .wor t a, .wor u b => t.eqb u && a.eqb b
  | _, _ => false
def D.eqbA : List D → List D → Bool
  | [], [] => true
  | x :: xs, y :: ys => x.eqb y && D.eqbA xs ys
  | _, _ => false
end
mutual
theorem D.eqb_iff : ∀ d e : D, d.eqb e = true ↔ d = e
  | .v x, e => by cases e <;> simp [D.eqb]
  | .lst xs, e => by cases e <;> simp [D.eqb, D.eqbA_iff]
  | .tup xs, e => by cases e <;> simp [D.eqb, D.eqbA_iff]
  | .dct ks vs, e => by cases e <;> simp [D.eqb, D.eqbA_iff]
  | .dlk ks vs, e => by cases e <;> simp [D.eqb, D.eqbA_iff]
  | .ins c ns vs, e => by cases e <;> simp [D.eqb, D.eqbA_iff, and_assoc]
  | .dtt ks vs, e => by cases e <;> simp [D.eqb, D.eqbA_iff]
  | .ptp xs, e => by cases e <;> simp [D.eqb, D.eqbA_iff]
  | .wor t a, e => by cases e <;> simp [D.eqb, D.eqb_iff t, D.eqb_iff a]
theorem D.eqbA_iff : ∀ ds es : List D, D.eqbA ds es = true ↔ ds = es
  | [], es => by cases es <;> simp [D.eqbA]
  | d :: ds, es => by
    cases es with
    | nil => simp [D.eqbA]
    | cons e es => simp [D.eqbA, D.eqb_iff d e, D.eqbA_iff ds es]
end
instance : DecidableEq D := fun d e => decidable_of_iff (d.eqb e = true) (D.eqb_iff d e)
theorem D.eqb_dec (d e : D) : d.eqb e = decide (d = e) := by
  rw [Bool.eq_iff_iff, D.eqb_iff, decide_eq_true_eq]
mutual
theorem D.nb_py : ∀ d : D, d.nb = true → ∃ p, d.py = some p ∧ p.canLay0 = true ∧ p.depth = d.dep
  | .v .non, _ => ⟨.none, rfl, rfl, rfl⟩
  | .v (.int i), _ => ⟨.int i, rfl, rfl, rfl⟩
  | .v (.str s), h => ⟨.str s, rfl, h, rfl⟩
  | .v (.bl _), h => by cases h
  | .v (.byt _), h => by cases h
  | .v (.flt _), h => by cases h
  | .v (.ref _), h => by cases h
  | .v (.ty _), h => by cases h
  | .dct _ _, h => by cases h
  | .dlk _ _, h => by cases h
  | .ins _ _ _, h => by cases h
  | .dtt _ _, h => by cases h
  | .ptp _, h => by cases h
  | .wor _ _, h => by cases h
  | .lst xs, h => by
    obtain ⟨ps, h1, h2, h3⟩ := D.nbA_py xs (by simpa [D.nb] using h)
    exact ⟨.list ps, by rw [D.py, h1]; rfl, h2, by rw [PyData.depth, h3, D.dep]⟩
  | .tup xs, h => by
    obtain ⟨ps, h1, h2, h3⟩ := D.nbA_py xs (by simpa [D.nb] using h)
    exact ⟨.tuple ps, by rw [D.py, h1]; rfl, h2, by rw [PyData.depth, h3, D.dep]⟩
theorem D.nbA_py : ∀ ds : List D, D.nbA ds = true → ∃ ps, D.pyA ds = some ps ∧ PyData.canLayAll0 ps = true ∧ PyData.depthAll ps = D.depA ds
  | [], _ => ⟨[], rfl, rfl, rfl⟩
  | d :: ds, h => by
    rw [D.nbA, Bool.and_eq_true] at h
    obtain ⟨p, h1, h2, h3⟩ := D.nb_py d h.1
    obtain ⟨ps, g1, g2, g3⟩ := D.nbA_py ds h.2
    refine ⟨p :: ps, ?_, ?_, ?_⟩
    · rw [D.pyA, h1, g1]
    · rw [PyData.canLayAll0, h2, g2]; rfl
    · rw [PyData.depthAll, h3, g3, D.depA]
end
mutual
theorem D.nb_eqv : ∀ (d e : D) (p q : PyData), d.nb = true → e.nb = true → d.py = some p → e.py = some q → PyData.eqv p q = d.eqb e
  | .v x, e, p, q, hd, he, hp, hq => by
    cases x <;> first | (cases hd; done) | skip
    all_goals
      cases hp
      cases e with
      | v y =>
        cases y <;> first | (cases he; done) | (cases hq; simp [PyData.eqv, D.eqb]; done) | (cases hq; simp [PyData.eqv, D.eqb, Bool.beq_eq_decide_eq]; done) | (cases hq; simp [PyData.eqv, D.eqb]; rw [Bool.eq_iff_iff]; simp)
      | lst ys => rw [D.py] at hq; cases z : D.pyA ys <;> rw [z] at hq <;> cases hq <;> rfl
      | tup ys => rw [D.py] at hq; cases z : D.pyA ys <;> rw [z] at hq <;> cases hq <;> rfl
      | dct _ _ => cases he
      | dlk _ _ => cases he
      | dtt _ _ => cases he
      | ptp _ => cases he
      | wor _ _ => cases he
      | ins _ _ _ => cases he
  | .lst xs, e, p, q, hd, he, hp, hq => by
    obtain ⟨ps, h1, _, _⟩ := D.nbA_py xs (by simpa [D.nb] using hd)
    rw [D.py, h1] at hp
    cases hp
    cases e with
    | v y => cases y <;> first | (cases he; done) | (cases hq; rfl)
    | lst ys =>
      obtain ⟨qs, g1, _, _⟩ := D.nbA_py ys (by simpa [D.nb] using he)
      rw [D.py, g1] at hq
      cases hq
      rw [PyData.eqv, D.eqb]
      exact D.nbA_eqv xs ys ps qs (by simpa [D.nb] using hd) (by simpa [D.nb] using he) h1 g1
    | tup ys => rw [D.py] at hq; cases z : D.pyA ys <;> rw [z] at hq <;> cases hq <;> rfl
    | dct _ _ => cases he
    | dlk _ _ => cases he
    | dtt _ _ => cases he
    | ptp _ => cases he
    | wor _ _ => cases he
    | ins _ _ _ => cases he
  | .tup xs, e, p, q, hd, he, hp, hq => by
    obtain ⟨ps, h1, _, _⟩ := D.nbA_py xs (by simpa [D.nb] using hd)
    rw [D.py, h1] at hp
    cases hp
    cases e with
    | v y => cases y <;> first | (cases he; done) | (cases hq; rfl)
    | tup ys =>
      obtain ⟨qs, g1, _, _⟩ := D.nbA_py ys (by simpa [D.nb] using he)
      rw [D.py, g1] at hq
      cases hq
      rw [PyData.eqv, D.eqb]
      exact D.nbA_eqv xs ys ps qs (by simpa [D.nb] using hd) (by simpa [D.nb] using he) h1 g1
    | lst ys => rw [D.py] at hq; cases z : D.pyA ys <;> rw [z] at hq <;> cases hq <;> rfl
    | dct _ _ => cases he
    | dlk _ _ => cases he
    | dtt _ _ => cases he
    | ptp _ => cases he
    | wor _ _ => cases he
    | ins _ _ _ => cases he
  | .dct _ _, _, _, _, hd, _, _, _ => by cases hd
  | .dlk _ _, _, _, _, hd, _, _, _ => by cases hd
  | .ins _ _ _, _, _, _, hd, _, _, _ => by cases hd
  | .dtt _ _, _, _, _, hd, _, _, _ => by cases hd
  | .ptp _, _, _, _, hd, _, _, _ => by cases hd
  | .wor _ _, _, _, _, hd, _, _, _ => by cases hd
theorem D.nbA_eqv : ∀ (ds es : List D) (ps qs : List PyData), D.nbA ds = true → D.nbA es = true → D.pyA ds = some ps → D.pyA es = some qs → PyData.eqvAll ps qs = D.eqbA ds es
  | [], es, ps, qs, hd, he, hp, hq => by
    cases hp
    cases es with
    | nil => cases hq; rfl
    | cons e es =>
      rw [D.pyA] at hq
      split at hq
      · cases hq; rfl
      · cases hq
  | d :: ds, es, ps, qs, hd, he, hp, hq => by
    rw [D.nbA, Bool.and_eq_true] at hd
    obtain ⟨p, h1, _, _⟩ := D.nb_py d hd.1
    obtain ⟨ps', g1, _, _⟩ := D.nbA_py ds hd.2
    rw [D.pyA, h1, g1] at hp
    cases hp
    cases es with
    | nil => cases hq; rfl
    | cons e es =>
      rw [D.nbA, Bool.and_eq_true] at he
      obtain ⟨q, k1, _, _⟩ := D.nb_py e he.1
      obtain ⟨qs', l1, _, _⟩ := D.nbA_py es he.2
      rw [D.pyA, k1, l1] at hq
      cases hq
      rw [PyData.eqvAll, D.eqbA, D.nb_eqv d e p q hd.1 he.1 h1 k1, D.nbA_eqv ds es ps' qs' hd.2 he.2 g1 l1]
end
theorem oEqB_nb {neg : Bool} {d e : D} (hd : d.nb = true) (he : e.nb = true) (h1 : d.dep ≤ 64) (h2 : e.dep ≤ 64) : oEqB neg d e = .ok (.bl (if neg then !decide (d = e) else decide (d = e))) := by
  obtain ⟨p, a1, a2, a3⟩ := D.nb_py d hd
  obtain ⟨q, b1, b2, b3⟩ := D.nb_py e he
  unfold oEqB
  rw [a1, b1]
  dsimp only
  have sp : SeqAt.shaped p = true := by unfold SeqAt.shaped; rw [a2, decide_eq_true (by omega)]; rfl
  have sq : SeqAt.shaped q = true := by unfold SeqAt.shaped; rw [b2, decide_eq_true (by omega)]; rfl
  rw [if_pos ⟨sp, sq⟩, D.nb_eqv d e p q hd he a1 b1, D.eqb_dec]
theorem D.nbA_of : ∀ {ds : List D}, (∀ d ∈ ds, d.nb = true) → D.nbA ds = true
  | [], _ => rfl
  | d :: ds, h => by rw [D.nbA, h d (by simp), D.nbA_of fun e he => h e (by simp [he])]; rfl
theorem D.depA_of {n : Nat} : ∀ {ds : List D}, (∀ d ∈ ds, d.dep ≤ n) → D.depA ds ≤ n
  | [], _ => Nat.zero_le _
  | d :: ds, h => by rw [D.depA]; exact Nat.max_le.mpr ⟨h d (by simp), D.depA_of fun e he => h e (by simp [he])⟩
theorem D.nb_ints (xs : List Int) : D.nbA (xs.map D.int) = true := D.nbA_of fun d hd => by
  obtain ⟨i, _, rfl⟩ := List.mem_map.mp hd
  rfl
theorem D.dep_ints (xs : List Int) : D.depA (xs.map D.int) ≤ 0 := D.depA_of fun d hd => by
  obtain ⟨i, _, rfl⟩ := List.mem_map.mp hd
  exact Nat.le_refl _
theorem D.int_inj : ∀ {xs ys : List Int}, xs.map D.int = ys.map D.int → xs = ys
  | [], [], _ => rfl
  | [], _ :: _, h => by cases h
  | _ :: _, [], h => by cases h
  | x :: xs, y :: ys, h => by
    simp only [List.map_cons, List.cons.injEq, D.int, D.v.injEq, V.int.injEq] at h
    rw [h.1, D.int_inj h.2]
theorem eqL_ints {neg : Bool} (xs ys : List Int) : oEqB neg (.lst (xs.map D.int)) (.lst (ys.map D.int)) = .ok (.bl (if neg then !decide (xs = ys) else decide (xs = ys))) := by
  rw [oEqB_nb (by rw [D.nb]; exact D.nb_ints xs) (by rw [D.nb]; exact D.nb_ints ys) (by rw [D.dep]; have := D.dep_ints xs; omega) (by rw [D.dep]; have := D.dep_ints ys; omega)]
  have : (D.lst (xs.map D.int) = D.lst (ys.map D.int)) ↔ xs = ys := ⟨fun h => D.int_inj (D.lst.inj h), fun h => by rw [h]⟩
  simp only [this]
theorem eq_strs {neg : Bool} {x y : Str} (hx : PyData.canLay0 (.str x) = true) (hy : PyData.canLay0 (.str y) = true) : oEqB neg (.v (.str x)) (.v (.str y)) = .ok (.bl (if neg then !decide (x = y) else decide (x = y))) := by
  rw [oEqB_nb (by rw [D.nb]; exact hx) (by rw [D.nb]; exact hy) (by rw [D.dep] <;> simp) (by rw [D.dep] <;> simp)]
  have : (D.v (.str x) = D.v (.str y)) ↔ x = y := ⟨fun h => V.str.inj (D.v.inj h), fun h => by rw [h]⟩
  simp only [this]
end DV
namespace DV
open PySem L2
section
variable {δ : DS} {f f' fk fv : DS → Res D} {fs : DS → Res (List D)} {fi : DS → Res (List Int)} {fd : DS → Res (List (Key × D))} {t : DS → Res Bool} {g : DS → Fl} {i j : Nat}
@[simp] theorem ev_ints : cInts fs δ = (fs δ).bind fun ds => (match intsD ds with
  | some ns => if ns.length < 64 then .ok ns else .no
  | none => .no) := rfl
@[simp] theorem ev_asInts {ns : List Int} : asInts (.tup (ns.map D.int)) = if ns.length < 64 then .ok ns else .no := by
  unfold asInts
  simp
@[simp] theorem ev_sorted : cSorted fi δ = (fi δ).bind fun ns => .ok ((setI ns).map D.int) := rfl
@[simp] theorem ev_lenS : cLenS fi δ = (fi δ).bind fun ns => .ok (.int ((setI ns).length : Nat)) := rfl
@[simp] theorem ev_dn : cDn fd δ = (fd δ).bind fun kvs => .ok (.dct (keysD kvs) (valsD kvs)) := rfl
@[simp] theorem ev_ownD : cOwnD i fd δ = stE (fd δ) δ fun kvs => .nx (δ.set i (some (.od kvs))) := rfl
@[simp] theorem ev_fzD {lk : Bool} : fzD lk i δ = (match δ[i]? with
  | some (some (.od kvs)) => δ.set i (some (.im (if lk then .dlk (keysD kvs) (valsD kvs) else .dct (keysD kvs) (valsD kvs))))
  | _ => δ) := rfl
@[simp] theorem ev_cfzD : cFzD i g δ = g (fzD false i δ) := rfl
@[simp] theorem ev_lookD {lk : Bool} : cLookD lk i f δ = (match δ[i]? with
  | some (some (.od _)) => noDctR (f (fzD lk i δ))
  | _ => .no) := rfl
@[simp] theorem ev_lookTD : cLookTD i t δ = (match δ[i]? with
  | some (some (.od _)) => (t (fzD false i δ)).calm
  | _ => .no) := rfl
@[simp] theorem ev_noDct {d : D} : noDctR (.ok d) = if d.noDct then .ok d else .no := rfl
@[simp] theorem ev_keys : cKeys f δ = (f δ).bind itemsK := rfl
@[simp] theorem ev_itemsK {kvs : List (Key × D)} : itemsK (.dlk (keysD kvs) (valsD kvs)) = .ok (keysD kvs) := by
  unfold itemsK
  simp
@[simp] theorem ev_dict {kvs : List (Key × D)} : D.dict (.dct (keysD kvs) (valsD kvs)) = some kvs := backK_of kvs
@[simp] theorem ev_dictL {kvs : List (Key × D)} : D.dict (.dlk (keysD kvs) (valsD kvs)) = some kvs := backK_of kvs
@[simp] theorem ev_keyI {k : Int} : asKey (.v (.int k)) = some (.inl k) := rfl
@[simp] theorem ev_keyS {k : Str} : asKey (.v (.str k)) = some (.inr k) := rfl
@[simp] theorem ev_putD : cPutD i fk fv δ = (match δ[i]? with
  | some (some (.od kvs)) => stE (fv δ) δ fun d => stE (fk δ) δ fun y => (match asKey y with
    | some k => if kvs.length < sizeLine then .nx (δ.set i (some (.od (putD kvs k d)))) else .no
    | none => .no)
  | _ => .no) := rfl
@[simp] theorem ev_popD : cPopD i fk δ = (match δ[i]? with
  | some (some (.od kvs)) => stE (fk δ) δ fun y => (match asKey y with
    | some k => if (valD kvs k).isSome then .nx (δ.set i (some (.od (dropD kvs k)))) else .no
    | none => .no)
  | _ => .no) := rfl
@[simp] theorem ev_index : cIndex f f' δ = (f δ).bind fun x => (f' δ).calm.bind fun y => oIndex x y := rfl
@[simp] theorem ev_lookL : cLookL i f δ = noLstR (f (fzL i δ)) := rfl
@[simp] theorem ev_fzL : fzL i δ = (match δ[i]? with
  | some (some (.ow ds)) => δ.set i (some (.im (.lst ds)))
  | _ => δ) := rfl
@[simp] theorem ev_noLst {d : D} : noLstR (.ok d) = if d.noLst then .ok d else .no := rfl
@[simp] theorem ev_listRg : cListRg f δ = (f δ).bind fun d => (asN d).bind fun n => .ok (rangeD 0 n.toNat) := rfl
@[simp] theorem ev_asN {n : Int} : asN (.v (.int n)) = if n.natAbs ≤ 1000000 then .ok n else .no := rfl
@[simp] theorem ev_listOf : cListOf f δ = (f δ).bind fun d => (match d with
  | .lst ds => .ok ds
  | .tup ds => .ok ds
  | _ => .no) := rfl
@[simp] theorem ev_rep : cRep fs f δ = (fs δ).bind fun ds => (f δ).bind fun y => (match y with
  | .v (.int k) => if k.natAbs ≤ 1000000 ∧ ds.length * k.toNat ≤ sizeLine then .ok (List.replicate k.toNat ds).flatten else .no
  | _ => .no) := rfl
@[simp] theorem ev_appPop : cAppPop i j f δ = (match δ[i]?, δ[j]? with
  | some (some (.ow ds)), some (some (.ow es)) => stE (f δ).calm δ fun y => (match y with
    | .v (.int k) => if 0 ≤ k ∧ k < es.length ∧ k.natAbs ≤ 1000000 ∧ ds.length < sizeLine then (match es[k.toNat]? with
        | some d => .nx ((δ.set j (some (.ow (es.eraseIdx k.toNat)))).set i (some (.ow (ds ++ [d]))))
        | none => .no)
      else .no
    | _ => .no)
  | _, _ => .no) := rfl
@[simp] theorem ev_put : cPut i f f' δ = (match δ[i]? with
  | some (some (.ow ds)) => stE (f' δ) δ fun d => stE (f δ) δ fun y => (match y with
    | .v (.int k) => (match ixN ds.length k with
      | some j => .nx (δ.set i (some (.ow (ds.set j d))))
      | none => .no)
    | _ => .no)
  | _ => .no) := rfl
@[simp] theorem ev_srt : cSrt f δ = (f δ).bind fun d => (asL d).bind srtD := rfl
@[simp] theorem ev_asL {ds : List D} : asL (.lst ds) = .ok ds := rfl
@[simp] theorem ev_srtI {ns : List Int} : srtD (ns.map D.int) = .ok ((sortI ns).map D.int) := by
  unfold srtD
  simp
@[simp] theorem ev_while {fu : DS → Nat} : cWhile fu t g δ = whileF t g (fu δ) δ := rfl
@[simp] theorem ev_tupl {xs : List D} : gTuple [.lst xs] = .ok (.tup xs) := rfl
@[simp] theorem ev_tupt {xs : List D} : gTuple [.tup xs] = .ok (.tup xs) := rfl
@[simp] theorem ev_listl {xs : List D} : gList [.lst xs] = .ok (.lst xs) := rfl
@[simp] theorem ev_listt {xs : List D} : gList [.tup xs] = .ok (.lst xs) := rfl
@[simp] theorem ev_enuml {xs : List D} : gEnum [.lst xs] = .ok (enumD 0 xs) := rfl
@[simp] theorem ev_enumt {xs : List D} : gEnum [.tup xs] = .ok (enumD 0 xs) := rfl
@[simp] theorem ev_isiB {b : Bool} : gIsi [.v (.bl b), .v (.ty "bool")] = .ok (.bl true) := rfl
end
theorem enumD_map {β : Type} (f : β → D) : ∀ (xs : List β) (i : Nat), enumD i (xs.map f) = (xs.zipIdx i).map fun p => .tup [.int (p.2 : Nat), f p.1]
  | [], i => rfl
  | x :: xs, i => by simp [enumD, enumD_map f xs (i + 1)]
@[simp] theorem flatV_int (i : Int) : flatV (.int i) = true := by first | rfl | simp [flatV]
theorem flats_ints : ∀ ns : List Int, flatsD (ns.map D.int) = some (ns.map V.int)
  | [] => rfl
  | n :: ns => by
    have := flats_ints ns
    simp only [List.map_cons]
    unfold flatsD
    simp only [D.int] at *
    rw [this]
    simp [flatD]
theorem eqV_int (i j : Int) : eqV (.int i) (.int j) = decide (i = j) := by
  by_cases h : i = j <;> simp [eqV, h]
theorem inV_ints (i : Int) (ns : List Int) : inV (.int i) (ns.map V.int) = decide (i ∈ ns) := by
  induction ns with
  | nil => rfl
  | cons n ns ih =>
    unfold inV at *
    simp only [List.map_cons, List.any_cons, ih, List.mem_cons]
    by_cases h : n = i
    · subst h; simp [eqV]
    · have h' : ¬ i = n := fun z => h z.symm
      have : eqV (.int n) (.int i) = false := by simp [eqV_int, h]
      have : eqV (.int i) (.int n) = false := by simp [eqV_int, h']
      simp [*]
theorem oInA_t {neg : Bool} (i : Int) (ns : List Int) : oInA neg (.v (.int i)) (.tup (ns.map D.int)) = .ok (.bl (if neg then !decide (i ∈ ns) else decide (i ∈ ns))) := by
  have : oIn neg (.v (.int i)) (.tup (ns.map D.int)) = .ok (.bl (if neg then !decide (i ∈ ns) else decide (i ∈ ns))) := by
    unfold oIn
    simp only [flatD, flatV_int, if_true, D.items, flats_ints, inV_ints]
  unfold oInA
  rw [this]
theorem oInA_l {neg : Bool} (i : Int) (ns : List Int) : oInA neg (.v (.int i)) (.lst (ns.map D.int)) = .ok (.bl (if neg then !decide (i ∈ ns) else decide (i ∈ ns))) := by
  have : oIn neg (.v (.int i)) (.lst (ns.map D.int)) = .ok (.bl (if neg then !decide (i ∈ ns) else decide (i ∈ ns))) := by
    unfold oIn
    simp only [flatD, flatV_int, if_true, D.items, flats_ints, inV_ints]
  unfold oInA
  rw [this]
theorem all_lc {β : Type} {δ : DS} {vs : List Nat} {fi : DS → Res (List D)} {b : D → DS → Option DS} {e : DS → Res D} (f : β → D) (p : β → Bool) (xs : List β) (hi : fi δ = .ok (xs.map f)) (hz : xs.length ≤ sizeLine) (h : ∀ x, x ∈ xs → ∃ δ', b (f x) (wipeD δ vs) = some δ' ∧ e δ' = .ok (.bl (p x))) :
    cCall gAll (cCons (cL (cLc vs fi b cYes e)) cNil) δ = .ok (.bl (xs.all p)) := by
  simp only [ev_call, ev_cons, ev_L, ev_lc, hi, Res.bind_ok, List.length_map, if_pos hz]
  rw [lcF_map f (fun x => D.bl (p x)) xs fun x hx => by obtain ⟨δ', h1, h2⟩ := h x hx; exact ⟨δ', h1, rfl, h2⟩]
  simp only [Res.bind_ok, ev_nil, ev_all']
theorem any_lc {β : Type} {δ : DS} {vs : List Nat} {fi : DS → Res (List D)} {b : D → DS → Option DS} {e : DS → Res D} (f : β → D) (p : β → Bool) (xs : List β) (hi : fi δ = .ok (xs.map f)) (hz : xs.length ≤ sizeLine) (h : ∀ x, x ∈ xs → ∃ δ', b (f x) (wipeD δ vs) = some δ' ∧ e δ' = .ok (.bl (p x))) :
    cCall gAny (cCons (cL (cLc vs fi b cYes e)) cNil) δ = .ok (.bl (xs.any p)) := by
  simp only [ev_call, ev_cons, ev_L, ev_lc, hi, Res.bind_ok, List.length_map, if_pos hz]
  rw [lcF_map f (fun x => D.bl (p x)) xs fun x hx => by obtain ⟨δ', h1, h2⟩ := h x hx; exact ⟨δ', h1, rfl, h2⟩]
  simp only [Res.bind_ok, ev_nil, ev_any']
theorem lc_keep {β : Type} {δ : DS} {vs : List Nat} {fi : DS → Res (List D)} {b : D → DS → Option DS} {t : DS → Res Bool} {e : DS → Res D} (f : β → D) (p : β → Bool) (h : β → D) (xs : List β) (hi : fi δ = .ok (xs.map f)) (hz : xs.length ≤ sizeLine) (hh : ∀ x, x ∈ xs → ∃ δ', b (f x) (wipeD δ vs) = some δ' ∧ t δ' = .ok (p x) ∧ (p x = true → e δ' = .ok (h x))) :
    cLc vs fi b t e δ = .ok ((xs.filter p).map h) := by
  simp only [ev_lc, hi, Res.bind_ok, List.length_map, if_pos hz]
  exact lcF_filter f p h xs hh
theorem not_ok {δ : DS} {t : DS → Res Bool} {b : Bool} (h : t δ = .ok b) : cNotT t δ = .ok (!b) := by
  rw [cNotT, h]
  rfl
theorem test_ok {δ : DS} {f : DS → Res D} {b : Bool} (h : f δ = .ok (.bl b)) : cTest f δ = .ok b := by
  rw [cTest, h]
  rfl
theorem if_b {t : DS → Res Bool} {g h : DS → Fl} {δ : DS} (b : Bool) (ht : t δ = .ok b) : cIf t g h δ = if b = true then g δ else h δ := by
  rw [cIf, ht]
  rfl
end DV
namespace DV
open PySem L2
end DV
namespace DV
open PySem L2
abbrev Web := List (List Int)
def leanW (w : Web) (c : Nat) : List Int := w.getD c []
def tI (l : List Int) : D := .tup (l.map D.int)
def tW (w : Web) : D := .tup (w.map tI)
@[simp] theorem tI_items (l : List Int) : itemsD (tI l) = .ok (l.map D.int) := rfl
@[simp] theorem tI_list (l : List Int) : gList [tI l] = .ok (.lst (l.map D.int)) := rfl
@[simp] theorem tI_tuple (l : List Int) : gTuple [tI l] = .ok (tI l) := rfl
@[simp] theorem tI_of (l : List Int) : gTuple [.lst (l.map D.int)] = .ok (tI l) := rfl
@[simp] theorem tI_len (l : List Int) : gLen [tI l] = .ok (.int (l.length : Nat)) := by simp [tI]
@[simp] theorem tI_ints (l : List Int) : asInts (tI l) = if l.length < 64 then .ok l else .no := ev_asInts
@[simp] theorem tI_in {neg : Bool} (i : Int) (l : List Int) : oInA neg (.v (.int i)) (tI l) = .ok (.bl (if neg then !decide (i ∈ l) else decide (i ∈ l))) := oInA_t i l
@[simp] theorem tI_rev (l : List Int) : oRev (tI l) = .ok (tI l.reverse) := by simp [tI]
theorem tI_add (l m : List Int) (h : l.length + m.length ≤ sizeLine) : oAdd (tI l) (tI m) = .ok (tI (l ++ m)) := by
  unfold oAdd tI
  simp [h]
@[simp] theorem tI_noLst (l : List Int) : (tI l).noLst = true := by
  unfold tI
  rw [D.noLst]
  induction l with
  | nil => rfl
  | cons x l ih => rw [List.map_cons, D.noLstA, ih]; rfl
theorem tI_inj {l m : List Int} (h : tI l = tI m) : l = m := D.int_inj (D.tup.inj h)
@[simp] theorem tW_items (w : Web) : itemsD (tW w) = .ok (w.map tI) := rfl
@[simp] theorem tW_len (w : Web) : gLen [tW w] = .ok (.int (w.length : Nat)) := by simp [tW]
@[simp] theorem tW_enum (w : Web) : gEnum [tW w] = .ok ((w.zipIdx 0).map fun p : List Int × Nat => D.tup [.int (p.2 : Nat), tI p.1]) := by
  unfold tW
  rw [ev_enumt, enumD_map]
@[simp] theorem tW_of (w : Web) : gTuple [.lst (w.map tI)] = .ok (tW w) := rfl
theorem getD_zip {w : Web} {l : List Int} {c : Nat} (h : (l, c) ∈ w.zipIdx 0) : c < w.length ∧ leanW w c = l := by
  obtain ⟨h1, h2⟩ := List.mem_zipIdx' h
  exact ⟨h1, by unfold leanW; rw [List.getD_eq_getElem?_getD, List.getElem?_eq_getElem h1]; simp [h2]⟩
theorem mem_lean {w : Web} {c : Nat} (hc : c < w.length) : leanW w c ∈ w := by
  unfold leanW
  rw [List.getD_eq_getElem?_getD, List.getElem?_eq_getElem hc]
  simp
theorem at_lean {w : Web} {c : Nat} (hc : c < w.length) : (w.map tI)[c]? = some (tI (leanW w c)) := by
  unfold leanW
  rw [List.getD_eq_getElem?_getD, List.getElem?_map, List.getElem?_eq_getElem hc]
  simp
theorem ix_lean {w : Web} {c : Nat} (hc : c < w.length) : oIx (tW w) (.v (.int (c : Int))) = .ok (tI (leanW w c)) := by
  unfold oIx tW
  dsimp only
  rw [at_nat, at_lean hc]
theorem oLe_int (i j : Int) : oLe (.v (.int i)) (.v (.int j)) = .ok (.bl (decide (i ≤ j))) := rfl
theorem small_z {n : Nat} (h : n ≤ 1000) : n ≤ sizeLine := Nat.le_trans h (by decide)
def okCol (w : Web) (c : Nat) : Bool := decide (leanW w c = setI (leanW w c)) && !decide ((c : Int) ∈ leanW w c) && (leanW w c).all fun x => decide (0 ≤ x) && decide (x < w.length)
def sizeW (w : Web) : Bool := decide (1 ≤ w.length) && decide (w.length ≤ 6)
def plainW (w : Web) : Bool := sizeW w && (List.range w.length).all (okCol w)
def inN (l : List Nat) (x : Int) : Bool := decide (x ∈ l.map fun (k : Nat) => (k : Int))
def stepW (w : Web) (p : List Nat) : List Nat := (List.range w.length).filter fun c => (leanW w c).all (inN p)
def placedW (w : Web) : Nat → List Nat
  | 0 => []
  | t + 1 => stepW w (placedW w t)
def ringlessW (w : Web) : Bool := decide ((placedW w w.length).length = w.length)
def looseW (w : Web) (l : List Nat) : List Nat := l.filter fun c => !(leanW w c).any (inN l)
def leftW (w : Web) (t : Nat) : List Nat := (List.range w.length).filter fun c => !decide (c ∈ placedW w t)
def lN (l : List Nat) : D := .lst ((l.map fun (k : Nat) => (k : Int)).map D.int)
@[simp] theorem lN_in {neg : Bool} (i : Int) (l : List Nat) : oInA neg (.v (.int i)) (lN l) = .ok (.bl (if neg then !inN l i else inN l i)) := oInA_l i _
@[simp] theorem lN_len (l : List Nat) : gLen [lN l] = .ok (.int (l.length : Nat)) := by simp [lN]
@[simp] theorem lN_items (l : List Nat) : itemsD (lN l) = .ok (l.map fun (k : Nat) => D.int (k : Int)) := by simp [lN]
theorem lN_nil : lN [] = .lst [] := rfl
theorem lN_map (l : List Nat) : lN l = .lst (l.map fun (k : Nat) => D.int (k : Int)) := by simp [lN]
theorem range_len (w : Web) (hz : w.length ≤ 1000) {δ : DS} (h0 : δ[0]? = some (some (.im (tW w)))) : cIt gRange1 (cCons (cCall gLen (cCons (cVar 0) cNil)) cNil) δ = .ok ((List.range w.length).map fun (i : Nat) => D.int (0 + (i : Int))) := by
  simp only [ev_it, ev_cons, ev_call, ev_var, ev_nil, h0, Res.bind_ok, tW_len]
  exact gRange1_nat (small_z hz)
@[simp] theorem inN_nat {l : List Nat} {k : Nat} : inN l (k : Int) = decide (k ∈ l) := by
  simp only [inN, List.mem_map]
  congr 1
  exact propext ⟨fun ⟨a, h, e⟩ => by rw [← show a = k by omega]; exact h, fun h => ⟨k, h, rfl⟩⟩
theorem step_mono {w : Web} {p q : List Nat} (h : ∀ c ∈ p, c ∈ q) : ∀ c ∈ stepW w p, c ∈ stepW w q := by
  intro c hc
  simp only [stepW, List.mem_filter, List.mem_range, List.all_eq_true] at *
  refine ⟨hc.1, fun x hx => ?_⟩
  have := hc.2 x hx
  simp only [inN, List.mem_map, decide_eq_true_eq] at *
  obtain ⟨k, hk, e⟩ := this
  exact ⟨k, h k hk, e⟩
theorem placed_mono (w : Web) : ∀ t, ∀ c ∈ placedW w t, c ∈ placedW w (t + 1)
  | 0, c, hc => by simp [placedW] at hc
  | t + 1, c, hc => step_mono (placed_mono w t) c hc
theorem placed_range {w : Web} {t c : Nat} (h : c ∈ placedW w t) : c < w.length := by
  cases t with
  | zero => simp [placedW] at h
  | succ t => simpa using (List.mem_filter.mp h).1
theorem left_mem {w : Web} {t c : Nat} : c ∈ leftW w t ↔ c < w.length ∧ c ∉ placedW w t := by
  simp [leftW]
theorem range_of {w : Web} (h : plainW w = true) {c : Nat} (hc : c < w.length) {x : Int} (hx : x ∈ leanW w c) : ∃ k : Nat, x = (k : Int) ∧ k < w.length := by
  have := (List.all_eq_true.mp (Bool.and_eq_true _ _ ▸ h).2) c (by simpa using hc)
  simp only [okCol, Bool.and_eq_true, List.all_eq_true, decide_eq_true_eq] at this
  obtain ⟨h1, h2⟩ := this.2 x hx
  exact ⟨x.toNat, by omega, by omega⟩
theorem loose_left {w : Web} (h : plainW w = true) (t c : Nat) : c ∈ looseW w (leftW w t) ↔ c ∈ leftW w t ∧ c ∈ placedW w (t + 1) := by
  constructor
  · intro hc
    obtain ⟨h1, h2⟩ := List.mem_filter.mp hc
    refine ⟨h1, List.mem_filter.mpr ⟨List.mem_range.mpr (left_mem.mp h1).1, List.all_eq_true.mpr fun x hx => ?_⟩⟩
    obtain ⟨k, rfl, hk⟩ := range_of h (left_mem.mp h1).1 hx
    simp only [Bool.not_eq_true', List.any_eq_false] at h2
    have h3 := h2 _ hx
    simp only [inN_nat, decide_eq_true_eq, left_mem, not_and, Classical.not_not] at h3
    simpa using h3 hk
  · rintro ⟨h1, h2⟩
    refine List.mem_filter.mpr ⟨h1, ?_⟩
    simp only [Bool.not_eq_true', List.any_eq_false]
    intro x hx
    have := (List.all_eq_true.mp (List.mem_filter.mp h2).2) x hx
    obtain ⟨k, rfl, hk⟩ := range_of h (left_mem.mp h1).1 hx
    simp only [inN_nat, decide_eq_true_eq, left_mem] at *
    exact fun z => z.2 this
theorem left_step {w : Web} (h : plainW w = true) (t : Nat) : (leftW w t).filter (fun c => !decide (c ∈ looseW w (leftW w t))) = leftW w (t + 1) := by
  rw [leftW, List.filter_filter]
  conv => rhs; rw [leftW]
  refine List.filter_congr fun c hc => ?_
  have hc' := List.mem_range.mp hc
  have e := loose_left h t c
  have m := placed_mono w t c
  show (!decide (c ∈ looseW w (leftW w t)) && !decide (c ∈ placedW w t)) = !decide (c ∈ placedW w (t + 1))
  have l := left_mem (w := w) (t := t) (c := c)
  by_cases h1 : c ∈ placedW w t
  · have := m h1
    simp [h1, this]
  · by_cases h2 : c ∈ placedW w (t + 1)
    · have : c ∈ looseW w (leftW w t) := e.mpr ⟨l.mpr ⟨hc', h1⟩, h2⟩
      simp [this, h2]
    · have : c ∉ looseW w (leftW w t) := fun z => h2 (e.mp z).2
      simp [this, h1, h2]
theorem stop_of {w : Web} (h : plainW w = true) {t : Nat} (hl : looseW w (leftW w t) = []) : placedW w (t + 1) = placedW w t := by
  have sub : ∀ c ∈ placedW w (t + 1), c ∈ placedW w t := fun c hc => by
    by_cases h1 : c ∈ placedW w t
    · exact h1
    · have : c ∈ looseW w (leftW w t) := (loose_left h t c).mpr ⟨left_mem.mpr ⟨placed_range hc, h1⟩, hc⟩
      rw [hl] at this
      cases this
  cases t with
  | zero =>
    cases e : placedW w 1 with
    | nil => rfl
    | cons x xs => exact absurd (sub x (by rw [e]; simp)) (by simp [placedW])
  | succ t =>
    show stepW w (placedW w (t + 1)) = stepW w (placedW w t)
    have m := placed_mono w t
    unfold stepW
    refine List.filter_congr fun c hc => ?_
    rw [Bool.eq_iff_iff]
    refine ⟨fun z => ?_, fun z => ?_⟩
    · have : c ∈ placedW w (t + 1) := sub c (List.mem_filter.mpr ⟨hc, z⟩)
      exact (List.mem_filter.mp this).2
    · exact (List.mem_filter.mp (step_mono m c (List.mem_filter.mpr ⟨hc, z⟩))).2
theorem placed_stay {w : Web} {t : Nat} (h : placedW w (t + 1) = placedW w t) : ∀ k, placedW w (t + k) = placedW w t
  | 0 => rfl
  | k + 1 => by
    show stepW w (placedW w (t + k)) = _
    rw [placed_stay h k]
    exact h
theorem placed_len {w : Web} (t : Nat) : (placedW w t).length = w.length ↔ leftW w t = [] := by
  have sub : ∀ t, (placedW w t).Sublist (List.range w.length) := fun t => by
    cases t with
    | zero => exact List.nil_sublist _
    | succ t => exact List.filter_sublist
  constructor
  · intro h
    have e := (sub t).eq_of_length (by simpa using h)
    rw [leftW, e]
    refine List.filter_eq_nil_iff.mpr fun c hc => ?_
    simp at hc
    simp [hc]
  · intro h
    have := List.filter_eq_nil_iff.mp h
    have sb : ∀ c, c < w.length → c ∈ placedW w t := fun c hc => by
      have := this c (List.mem_range.mpr hc)
      simpa using this
    cases t with
    | zero =>
      cases hw : w.length with
      | zero => rfl
      | succ n => exact absurd (sb 0 (by omega)) (by simp [placedW])
    | succ t =>
      have : placedW w (t + 1) = List.range w.length := List.filter_eq_self.mpr fun c hc => (List.mem_filter.mp (sb c (List.mem_range.mp hc))).2
      rw [this, List.length_range]
theorem left_len {w : Web} (h : plainW w = true) (t : Nat) : (∀ s, s < t → looseW w (leftW w s) ≠ []) → (leftW w t).length + t ≤ w.length := by
  induction t with
  | zero =>
    intro _
    have : (leftW w 0).length ≤ w.length := by
      have := List.length_filter_le (fun c => !decide (c ∈ placedW w 0)) (List.range w.length)
      rw [List.length_range] at this
      exact this
    simpa using this
  | succ t ih =>
    intro hs
    have i := ih fun s hst => hs s (by omega)
    have n := hs t (by omega)
    rw [← left_step h t]
    obtain ⟨c, cs, e⟩ := List.exists_cons_of_ne_nil n
    have hc : c ∈ looseW w (leftW w t) := by rw [e]; simp
    have hl : ((leftW w t).filter fun c => !decide (c ∈ looseW w (leftW w t))).length < (leftW w t).length := by
      refine Nat.lt_of_le_of_ne (List.length_filter_le _ _) fun z => ?_
      have := List.length_filter_eq_length_iff.mp z c (List.mem_filter.mp hc).1
      simp [hc] at this
    omega
theorem ringless_iff {w : Web} (h : plainW w = true) {t : Nat} (ht : t ≤ w.length) (hl : looseW w (leftW w t) = []) : ringlessW w = decide (leftW w t = []) := by
  have e := placed_stay (stop_of h hl) (w.length - t)
  rw [show t + (w.length - t) = w.length by omega] at e
  unfold ringlessW
  rw [e]
  simp only [placed_len]
end DV
namespace DV
open PySem L2
def kvW (w : Web) (l : List Nat) : List (Key × D) := l.map fun (c : Nat) => ((.inl (c : Int) : Key), tI (leanW w c))
end DV
namespace DV
open PySem L2
theorem sort_rising {l : List Int} (h : l.Nodup) : (sortI l).Pairwise (· < ·) := by
  have h1 := sortI_sorted l
  have h2 : (sortI l).Nodup := (sortI_perm l).nodup_iff.mpr h
  exact (List.Pairwise.and h1 h2).imp fun {a b} ⟨x, y⟩ => by omega
theorem rising_set {l : List Int} (h : l.Pairwise (· < ·)) : setI l = l := rising_one (setI_sorted l) h fun j => setI_mem l j
theorem rising_nodup {l : List Int} (h : l.Pairwise (· < ·)) : l.Nodup := h.imp fun {a b} z => by omega
structure Along (w : Web) (line : List Nat) : Prop where
  len : line.length = w.length
  nd : line.Nodup
  rg : ∀ c ∈ line, c < w.length
  ln : ∀ j (hj : j < line.length), ∃ s : List Nat, s.Sublist (line.take j) ∧ leanW w line[j] = sortI (s.map fun (k : Nat) => (k : Int))
theorem nodup_full {l : List Nat} {n : Nat} (h : l.Nodup) (hl : l.length = n) (hr : ∀ c ∈ l, c < n) : ∀ c, c < n → c ∈ l := by
  intro c hc
  apply Classical.byContradiction
  intro hn
  have h1 : (c :: l).Nodup := List.nodup_cons.mpr ⟨hn, h⟩
  have h2 : (c :: l) ⊆ List.range n := fun d hd => by
    rcases List.mem_cons.mp hd with rfl | hd
    · exact List.mem_range.mpr hc
    · exact List.mem_range.mpr (hr d hd)
  have := List.Nodup.length_le_of_subset h1 h2
  simp at this
  omega
theorem Along.at {w : Web} {line : List Nat} (h : Along w line) {c : Nat} (hc : c < w.length) : ∃ j, ∃ hj : j < line.length, line[j] = c := by
  have := nodup_full h.nd h.len h.rg c hc
  obtain ⟨j, hj, e⟩ := List.mem_iff_getElem.mp this
  exact ⟨j, hj, e⟩
theorem sub_mem {w : Web} {line s : List Nat} {j : Nat} (hs : s.Sublist (line.take j)) {x : Int} (hx : x ∈ sortI (s.map fun (k : Nat) => (k : Int))) : ∃ k : Nat, x = (k : Int) ∧ k ∈ line.take j := by
  have := (sortI_perm _).mem_iff.mp hx
  obtain ⟨k, h1, h2⟩ := List.mem_map.mp this
  exact ⟨k, h2.symm, hs.subset h1⟩
theorem take_not {l : List Nat} (h : l.Nodup) {j : Nat} (hj : j < l.length) : l[j] ∉ l.take j := by
  intro z
  obtain ⟨i, hi, e⟩ := List.mem_iff_getElem.mp z
  rw [List.getElem_take] at e
  rw [List.length_take] at hi
  have := (List.getElem_inj h).mp e
  omega
theorem sub_nodup {s : List Nat} (h : s.Nodup) : (s.map fun (k : Nat) => (k : Int)).Nodup := by
  refine List.pairwise_map.mpr (h.imp fun {a b} q z => q ?_)
  exact Int.ofNat.inj z
theorem Along.plain {w : Web} {line : List Nat} (h : Along w line) (h1 : 1 ≤ w.length) (h6 : w.length ≤ 6) : plainW w = true := by
  unfold plainW sizeW
  rw [decide_eq_true h1, decide_eq_true h6]
  simp only [Bool.true_and, List.all_eq_true]
  intro c hc
  obtain ⟨j, hj, rfl⟩ := h.at (List.mem_range.mp hc)
  obtain ⟨s, hs, e⟩ := h.ln j hj
  have sn : s.Nodup := hs.nodup ((List.take_sublist j line).nodup h.nd)
  unfold okCol
  simp only [Bool.and_eq_true, decide_eq_true_eq, Bool.not_eq_true', decide_eq_false_iff_not, List.all_eq_true]
  refine ⟨⟨?_, fun z => ?_⟩, fun x hx => ?_⟩
  · rw [e, rising_set (sort_rising (sub_nodup sn))]
  · rw [e] at z
    obtain ⟨k, e1, hk⟩ := sub_mem (w := w) hs z
    have : line[j] = k := by omega
    rw [← this] at hk
    exact take_not h.nd hj hk
  · rw [e] at hx
    obtain ⟨k, rfl, hk⟩ := sub_mem (w := w) hs hx
    have := h.rg k (List.mem_of_mem_take hk)
    omega
theorem Along.placed {w : Web} {line : List Nat} (h : Along w line) : ∀ t, ∀ c ∈ line.take t, c ∈ placedW w t
  | 0, c, hc => by simp at hc
  | t + 1, c, hc => by
    have hcl := List.mem_of_mem_take hc
    obtain ⟨j, hj, rfl⟩ := List.mem_iff_getElem.mp hcl
    have hjt : j ≤ t := by
      obtain ⟨i, hi, e⟩ := List.mem_iff_getElem.mp hc
      rw [List.getElem_take] at e
      rw [List.length_take] at hi
      have := (List.getElem_inj h.nd).mp e
      omega
    obtain ⟨s, hs, e⟩ := h.ln j hj
    refine List.mem_filter.mpr ⟨List.mem_range.mpr (h.rg _ hcl), List.all_eq_true.mpr fun x hx => ?_⟩
    rw [e] at hx
    obtain ⟨k, rfl, hk⟩ := sub_mem (w := w) hs hx
    have : k ∈ line.take t := (List.take_sublist_take_left hjt).subset hk
    simpa using h.placed t k this
theorem forF_range (P : Nat → DS → Prop) {b : D → DS → Option DS} {g : DS → Fl} : ∀ (m a : Nat) (δ : DS), P a δ →
    (∀ i δ, a ≤ i → i < a + m → P i δ → ∃ δ' δ2, b (.int (0 + (i : Int))) δ = some δ' ∧ g δ' = .nx δ2 ∧ P (i + 1) δ2) → ∃ δ2, forF b g ((List.range' a m).map fun (i : Nat) => D.int (0 + (i : Int))) δ = .nx δ2 ∧ P (a + m) δ2
  | 0, a, δ, hp, _ => ⟨δ, rfl, hp⟩
  | m + 1, a, δ, hp, h => by
    obtain ⟨δ', δ2, h1, h2, h3⟩ := h a δ (Nat.le_refl _) (by omega) hp
    obtain ⟨δ3, h4, h5⟩ := forF_range P m (a + 1) δ2 h3 fun i δ hi hm => h i δ (by omega) (by omega)
    refine ⟨δ3, ?_, by rw [show a + (m + 1) = a + 1 + m by omega]; exact h5⟩
    rw [List.range'_succ, List.map_cons, forF, h1]
    dsimp only
    rw [h2]
    exact h4
theorem for_range (P : Nat → DS → Prop) {b : D → DS → Option DS} {g : DS → Fl} {n : Nat} {fi : DS → Res (List D)} {δ : DS} (hi : fi δ = .ok ((List.range n).map fun (i : Nat) => D.int (0 + (i : Int)))) (h0 : P 0 δ)
    (h : ∀ i δ, i < n → P i δ → ∃ δ' δ2, b (.int (0 + (i : Int))) δ = some δ' ∧ g δ' = .nx δ2 ∧ P (i + 1) δ2) : ∃ δ2, cFor fi b g δ = .nx δ2 ∧ P n δ2 := by
  obtain ⟨δ2, h1, h2⟩ := forF_range P (b := b) (g := g) n 0 δ h0 fun i δ _ hm => h i δ (by omega)
  rw [← List.range_eq_range'] at h1
  rw [Nat.zero_add] at h2
  exact ⟨δ2, for_r hi h1, h2⟩
end DV
namespace DV
open PySem L2
def pI (l : List Int) : PyData := .tuple (l.map PyData.int)
theorem pyA_ints : ∀ l : List Int, D.pyA (l.map D.int) = some (l.map PyData.int)
  | [] => rfl
  | x :: l => by
    rw [List.map_cons, D.pyA, pyA_ints l]
    rfl
theorem py_tI (l : List Int) : (tI l).py = some (pI l) := by
  unfold tI
  rw [D.py, pyA_ints]
  rfl
theorem pyA_tI : ∀ L : List (List Int), D.pyA (L.map tI) = some (L.map pI)
  | [] => rfl
  | l :: L => by rw [List.map_cons, D.pyA, py_tI, pyA_tI L]; rfl
def ltT : List Int → List Int → Bool
  | [], [] => false
  | [], _ :: _ => true
  | _ :: _, [] => false
  | x :: r, y :: t => decide (x < y) || (decide (x = y) && ltT r t)
def leT (a b : List Int) : Bool := !ltT b a
theorem lex_ints : ∀ a b : List Int, PyProof.Rows.lexLt PyProof.Rows.itemOrd (PySem.W.keyToksAll (a.map PyData.int)) (PySem.W.keyToksAll (b.map PyData.int)) = ltT a b
  | [], [] => by decide
  | [], y :: t => by
    show PyProof.Rows.lexLt PyProof.Rows.itemOrd [.inl 0] (.inl 1 :: _) = true
    rw [PyProof.Rows.lex_cons]
    rfl
  | x :: r, [] => by
    show PyProof.Rows.lexLt PyProof.Rows.itemOrd (.inl 1 :: _) [.inl 0] = false
    rw [PyProof.Rows.lex_cons]
    rfl
  | x :: r, y :: t => by
    have ih := lex_ints r t
    show PyProof.Rows.lexLt PyProof.Rows.itemOrd (.inl 1 :: .inl x :: PySem.W.keyToksAll (r.map PyData.int)) (.inl 1 :: .inl y :: PySem.W.keyToksAll (t.map PyData.int)) = _
    rw [PyProof.Rows.lex_cons, PyProof.Rows.lex_cons, ih]
    show (decide ((1 : Int) < 1) || (!decide ((1 : Int) < 1) && (decide (x < y) || (!decide (y < x) && ltT r t)))) = (decide (x < y) || (decide (x = y) && ltT r t))
    by_cases h1 : x < y
    · simp [h1]
    · by_cases h2 : x = y
      · subst h2; simp
      · have : y < x := by omega
        simp [h1, h2, this]
theorem leD_tI (a b : List Int) : leD (tI a) (tI b) = leT a b := by
  have e : ∀ l, encD (tI l) = pI l := fun l => by unfold encD; rw [py_tI]; rfl
  show (!PyProof.Rows.lexLt PyProof.Rows.itemOrd (PySem.W.keyToks (encD (tI b))) (PySem.W.keyToks (encD (tI a)))) = _
  rw [e, e]
  show (!PyProof.Rows.lexLt PyProof.Rows.itemOrd (PySem.W.keyToksAll (b.map PyData.int)) (PySem.W.keyToksAll (a.map PyData.int))) = _
  rw [lex_ints]
  rfl
def sortT (L : List (List Int)) : List (List Int) := L.mergeSort leT
theorem sortT_perm (L : List (List Int)) : (sortT L).Perm L := List.mergeSort_perm L _
theorem alike_ints : ∀ a b : List Int, PySem.W.alikeAll (a.map PyData.int) (b.map PyData.int) = true
  | [], _ => by cases ‹List Int› <;> simp [PySem.W.alikeAll]
  | _ :: _, [] => by simp [PySem.W.alikeAll]
  | x :: a, y :: b => by
    rw [List.map_cons, List.map_cons, PySem.W.alikeAll, alike_ints a b]
    simp [PySem.W.alike]
theorem depth_ints (l : List Int) : PyData.depthAll (l.map PyData.int) = 0 := by
  induction l with
  | nil => rfl
  | cons x l ih => rw [List.map_cons, PyData.depthAll, ih]; rfl
theorem srt_tI {L : List (List Int)} (h : ∀ l ∈ L, l ≠ []) : srtD (L.map tI) = .ok ((sortT L).map tI) := by
  cases L with
  | nil => simp [srtD, sortT, intsD, sortI]
  | cons l L =>
    unfold srtD
    have e1 : intsD ((l :: L).map tI) = none := rfl
    rw [e1, pyA_tI]
    dsimp only
    have ok : sortOk ((l :: L).map pI) = true := by
      unfold sortOk
      simp only [Bool.and_eq_true, List.all_eq_true, List.mem_map, forall_exists_index, and_imp, forall_apply_eq_imp_iff₂]
      refine ⟨⟨fun a _ b _ => ?_, fun a ha => ?_⟩, fun a _ => ?_⟩
      · show PySem.W.alike (.tuple _) (.tuple _) = true
        rw [PySem.W.alike]
        exact alike_ints a b
      · cases a with
        | nil => exact absurd rfl (h _ ha)
        | cons x a => rfl
      · rw [decide_eq_true_eq]
        show PyData.depth (.tuple _) ≤ 60
        rw [PyData.depth, depth_ints]
        decide
    rw [if_pos ok]
    congr 1
    unfold sortT
    rw [List.map_mergeSort (s := leD) (f := tI)]
    intro a _ b _
    exact (leD_tI a b).symm
theorem nb_tI (l : List Int) : (tI l).nb = true := by unfold tI; rw [D.nb]; exact D.nb_ints l
theorem eqv_tI (a b : List Int) : PyData.eqv (pI a) (pI b) = decide (a = b) := by
  rw [D.nb_eqv (tI a) (tI b) (pI a) (pI b) (nb_tI a) (nb_tI b) (py_tI a) (py_tI b), D.eqb_dec, decide_eq_decide]
  exact ⟨tI_inj, fun h => by rw [h]⟩
theorem lay_ints : ∀ l : List Int, PyData.canLayAll0 (l.map PyData.int) = true
  | [] => rfl
  | x :: l => by rw [List.map_cons, PyData.canLayAll0, lay_ints l]; rfl
theorem shaped_pI (l : List Int) : SeqAt.shaped (pI l) = true := by
  unfold SeqAt.shaped
  have : (pI l).canLay0 = true := by unfold pI; rw [PyData.canLay0]; exact lay_ints l
  rw [this, decide_eq_true (show (pI l).depth ≤ _ from by unfold pI; rw [PyData.depth, depth_ints]; decide)]
  rfl
theorem shaped_pL (L : List (List Int)) : SeqAt.shaped (.list (L.map pI)) = true := by
  unfold SeqAt.shaped
  have h1 : ∀ L : List (List Int), PyData.canLayAll0 (L.map pI) = true := fun L => by
    induction L with
    | nil => rfl
    | cons l L ih =>
      rw [List.map_cons, PyData.canLayAll0, ih]
      unfold pI
      rw [PyData.canLay0, lay_ints]
      rfl
  have h2 : ∀ L : List (List Int), PyData.depthAll (L.map pI) ≤ 1 := fun L => by
    induction L with
    | nil => exact Nat.zero_le _
    | cons l L ih =>
      rw [List.map_cons, PyData.depthAll]
      unfold pI
      rw [PyData.depth, depth_ints]
      exact Nat.max_le.mpr ⟨by omega, ih⟩
  have c : (PyData.list (L.map pI)).canLay0 = true := by rw [PyData.canLay0]; exact h1 L
  have d : (PyData.list (L.map pI)).depth ≤ 64 := by rw [PyData.depth]; have := h2 L; omega
  rw [c, decide_eq_true (by first | exact d | omega)]
  rfl
theorem in_tI {neg : Bool} (a : List Int) (L : List (List Int)) : oInA neg (tI a) (.lst (L.map tI)) = .ok (.bl (if neg then !decide (a ∈ L) else decide (a ∈ L))) := by
  unfold oInA
  have : oIn neg (tI a) (.lst (L.map tI)) = .no := rfl
  rw [this, py_tI]
  dsimp only
  rw [pyA_tI]
  dsimp only
  rw [if_pos ⟨shaped_pI a, shaped_pL L⟩]
  have e : ((L.map pI).any fun z => PyData.eqv z (pI a)) = decide (a ∈ L) := by
    rw [List.any_map, Bool.eq_iff_iff, List.any_eq_true, decide_eq_true_eq]
    constructor
    · rintro ⟨b, hb, h⟩
      rw [Function.comp, eqv_tI, decide_eq_true_eq] at h
      rw [← h]; exact hb
    · intro h
      exact ⟨a, h, by rw [Function.comp, eqv_tI]; simp⟩
  rw [e]
def arrL (w : Web) : List (List Int) := (List.range w.length).flatMap fun c => (leanW w c).map fun x => [x, (c : Int)]
theorem arrL_mem {w : Web} {x : Int} {c : Nat} : [x, (c : Int)] ∈ arrL w ↔ c < w.length ∧ x ∈ leanW w c := by
  unfold arrL
  rw [List.mem_flatMap]
  constructor
  · rintro ⟨d, hd, h⟩
    obtain ⟨y, hy, e⟩ := List.mem_map.mp h
    simp only [List.cons.injEq, and_true] at e
    obtain ⟨rfl, e⟩ := e
    have : d = c := by omega
    subst this
    exact ⟨List.mem_range.mp hd, hy⟩
  · rintro ⟨h1, h2⟩
    exact ⟨c, List.mem_range.mpr h1, List.mem_map.mpr ⟨x, h2, rfl⟩⟩
theorem arrL_ne {w : Web} : ∀ l ∈ arrL w, l ≠ [] := by
  intro l hl
  obtain ⟨c, _, h⟩ := List.mem_flatMap.mp hl
  obtain ⟨x, _, rfl⟩ := List.mem_map.mp h
  simp
end DV
namespace DV
open PySem L2
section
variable {δ : DS} {f : DS → Res D} {fs : DS → Res (List D)} {i k : Nat}
@[simp] theorem ev_retF : cRetF fs δ = stE (fs δ) δ fun ds => .rf ds := rfl
@[simp] theorem ev_retO : cRetO i δ = (match δ[i]? with
  | some (some (.ow ds)) => .rf ds
  | _ => .no) := rfl
@[simp] theorem defL_ev {m : Nat} {g : DS → Fl} {ds : List D} : defL m g ds = flF (g (st0 m ds)) := rfl
@[simp] theorem ev_fnF {F : List D → Res (List D)} : cFnF F fs δ = (fs δ).bind F := rfl
@[simp] theorem ev_srtT : cSrtT f δ = (f δ).bind fun d => (intsT d).bind fun ns => .ok ((sortI ns).map D.int) := rfl
@[simp] theorem ev_ins : cIns i k f δ = (match δ[i]? with
  | some (some (.ow ds)) => stE (f δ) δ fun d => if ds.length < sizeLine then .nx (δ.set i (some (.ow (ds.take k ++ [d] ++ ds.drop k)))) else .no
  | _ => .no) := rfl
end
@[simp] theorem intsT_tI (l : List Int) : intsT (tI l) = .ok l := by
  unfold intsT tI
  simp
theorem forF_done {β : Type} (f : β → D) (P : List β → DS → Prop) {b : D → DS → Option DS} {g : DS → Fl} (all : List β) : ∀ (xs done : List β) (δ : DS), done ++ xs = all → P done δ →
    (∀ done x rest δ, done ++ x :: rest = all → P done δ → ∃ δ' δ2, b (f x) δ = some δ' ∧ g δ' = .nx δ2 ∧ P (done ++ [x]) δ2) → ∃ δ2, forF b g (xs.map f) δ = .nx δ2 ∧ P all δ2
  | [], done, δ, e, hp, _ => ⟨δ, rfl, by rw [← e, List.append_nil]; exact hp⟩
  | x :: xs, done, δ, e, hp, h => by
    obtain ⟨δ', δ2, h1, h2, h3⟩ := h done x xs δ e hp
    obtain ⟨δ3, h4, h5⟩ := forF_done f P all xs (done ++ [x]) δ2 (by rw [List.append_assoc]; exact e) h3 h
    refine ⟨δ3, ?_, h5⟩
    rw [List.map_cons, forF, h1]
    dsimp only
    rw [h2]
    exact h4
theorem for_done {β : Type} (f : β → D) (P : List β → DS → Prop) {b : D → DS → Option DS} {g : DS → Fl} (all : List β) {fi : DS → Res (List D)} {δ : DS} (hi : fi δ = .ok (all.map f)) (h0 : P [] δ)
    (h : ∀ done x rest δ, done ++ x :: rest = all → P done δ → ∃ δ' δ2, b (f x) δ = some δ' ∧ g δ' = .nx δ2 ∧ P (done ++ [x]) δ2) : ∃ δ2, cFor fi b g δ = .nx δ2 ∧ P all δ2 := by
  obtain ⟨δ2, h1, h2⟩ := forF_done f P all all [] δ rfl h0 h
  exact ⟨δ2, for_r hi h1, h2⟩
end DV
namespace DV
open PySem L2
@[simp] theorem dA_ims (ds : List D) : T.dA (ds.map T.im) = ds := by
  rw [T.dA_map, List.map_map]
  conv => rhs; rw [← List.map_id ds]
  exact List.map_congr_left fun d _ => by rw [Function.comp, T.d]; rfl
section
variable {δ : DS} {f : DS → Res D} {fs : DS → Res (List D)} {fn : DS → Res T} {fts : DS → Res (List T)} {fp : DS → Res (Nat × List Nat)} {i : Nat}
@[simp] theorem ev_nim : cNim f δ = (f δ).bind fun d => .ok (.im d) := rfl
@[simp] theorem ev_nl : cNl fs δ = (fs δ).bind fun ds => .ok (.nd .ls (ds.map T.im)) := rfl
@[simp] theorem ev_nnil : cNnil δ = .ok [] := rfl
@[simp] theorem ev_ncons : cNcons fn fts δ = (fn δ).bind fun x => (fts δ).bind fun xs => .ok (x :: xs) := rfl
@[simp] theorem ev_nlst : cNlst fts δ = (fts δ).bind fun ts => .ok (.nd .ls ts) := rfl
@[simp] theorem ev_ownN : cOwnN i fn δ = stE (fn δ) δ fun t => .nx (δ.set i (some (O.ofT t))) := rfl
end
theorem flat_len {α β : Type} {f : α → List β} {m : Nat} : ∀ {l : List α}, (∀ x ∈ l, (f x).length ≤ m) → (l.flatMap f).length ≤ m * l.length
  | [], _ => by simp
  | x :: l, h => by
    have h1 := h x (by simp)
    have h2 := flat_len (l := l) fun y hy => h y (by simp [hy])
    rw [List.flatMap_cons, List.length_append, List.length_cons, Nat.mul_succ]
    omega
end DV
namespace DV
open PySem L2
theorem rg1 {n : Nat} (h : n ≤ 1000) : gRange1 [.v (.int (n : Int))] = .ok ((List.range n).map fun (k : Nat) => D.int (k : Int)) := by
  unfold gRange1
  dsimp only
  rw [if_pos (by omega)]
  unfold rangeD
  simp
theorem rg2 {a b : Nat} (h : a ≤ 1000) (hb : b ≤ 1000) : gRange2 [.v (.int (a : Int)), .v (.int (b : Int))] = .ok ((List.range' a (b - a)).map fun (k : Nat) => D.int (k : Int)) := by
  unfold gRange2
  dsimp only
  rw [if_pos (by omega)]
  unfold rangeD
  have : ((b : Int) - (a : Int)).toNat = b - a := by omega
  rw [this, List.range'_eq_map_range]
  simp
end DV
namespace DV
open PySem L2
section
variable {δ : DS} {f f' f'' fa : DS → Res D} {fs : DS → Res (List D)} {t : DS → Res Bool} {g : DS → Fl} {i : Nat}
@[simp] theorem ev_fld {cs : List Str} {n : Str} : cFld cs n f δ = (f δ).bind (oFld cs n) := rfl
@[simp] theorem ev_mth {c m : Str} {F : List D → Res D} {dd : List D} : cMth c m F dd f fs δ = (f δ).bind fun x => (match x with
  | .ins c' ns vs => if c' = c ∧ m ∉ ns then (fs δ).bind fun ds => F (.ins c' ns vs :: (ds ++ dd)) else .no
  | _ => .no) := rfl
@[simp] theorem ev_mthF {c m : Str} {F : List D → Res (List D)} {dd : List D} : cMthF c m F dd f fs δ = (f δ).bind fun x => (match x with
  | .ins c' ns vs => if c' = c ∧ m ∉ ns then (fs δ).bind fun ds => F (.ins c' ns vs :: (ds ++ dd)) else .no
  | _ => .no) := rfl
@[simp] theorem ev_keysX : cKeysX f δ = (f δ).bind itemsX := rfl
@[simp] theorem ev_itemsX {ks : List NestedKey} {vs : List D} : itemsX (.dtt ks vs) = .ok (nkDs ks) := rfl
@[simp] theorem ev_listX {ks : List NestedKey} {vs : List D} : gListX [.dtt ks vs] = .ok (.lst (nkDs ks)) := rfl
@[simp] theorem ev_getX : cGetX f f' f'' δ = (f δ).bind fun x => (match x with
  | .dtt _ _ => (f' δ).bind fun y => (f'' δ).bind fun z => oGetX x y z
  | _ => .no) := rfl
@[simp] theorem ev_srtA : cSrtA f δ = (f δ).bind fun d => (asL d).bind srtA := rfl
@[simp] theorem ev_appF {h : DS → Res D} : cAppF fs h δ = stE (fs δ) δ fun ds => stE (h δ) δ fun _ => if ds.length < sizeLine then .nx δ else .no := rfl
@[simp] theorem ev_gIntB {b : Bool} : gInt [.v (.bl b)] = .ok (.int (if b = true then 1 else 0)) := rfl
@[simp] theorem ev_gIntI {n : Int} : gInt [.v (.int n)] = .ok (.int n) := rfl
theorem lend_ok {d : D} (h1 : obOk δ i = true) (h2 : f (fz i δ) = .ok d) (h3 : d.pl = true) : lend i f δ = .ok d := by
  unfold lend
  rw [if_pos h1, h2]
  dsimp only
  rw [if_pos h3]
end
theorem nkInts_nums : ∀ r : List Int, nkInts (r.map NestedKey.num) = true
  | [] => by rw [List.map_nil, nkInts]
  | x :: r => by rw [List.map_cons, nkInts, nkInts_nums r, nkInt]; rfl
theorem depth_nums : ∀ r : List Int, NestedKey.depthAll (r.map NestedKey.num) = 0
  | [] => by rw [List.map_nil, NestedKey.depthAll]
  | x :: r => by rw [List.map_cons, NestedKey.depthAll, depth_nums r, NestedKey.depth]; rfl
theorem nkOk_kR (r : List Int) : nkOk (kR r) = true := by
  unfold kR
  rw [nkOk, nkInts_nums, NestedKey.depth, depth_nums]
  rfl
theorem nkDs_nums : ∀ r : List Int, nkDs (r.map NestedKey.num) = r.map D.int
  | [] => by rw [List.map_nil, nkDs]; rfl
  | x :: r => by rw [List.map_cons, nkDs, nkDs_nums r, nkD, List.map_cons]
@[simp] theorem nkD_kR (r : List Int) : nkD (kR r) = tI r := by unfold kR tI; rw [nkD, nkDs_nums]
theorem nkDs_kR (rs : List (List Int)) : nkDs (rs.map kR) = rs.map tI := by rw [nkDs_map, List.map_map]; exact List.map_congr_left fun r _ => nkD_kR r
theorem dNks_ints : ∀ r : List Int, dNks (r.map D.int) = some (r.map NestedKey.num)
  | [] => by rw [List.map_nil, dNks]; rfl
  | x :: r => by rw [List.map_cons, dNks, dNks_ints r, dNk]; rfl
@[simp] theorem keyD_tI (r : List Int) : keyD (tI r) = some (kR r) := by
  unfold keyD tI
  rw [dNk, dNks_ints]
  show (if nkOk (kR r) = true then some (kR r) else none) = _
  rw [if_pos (nkOk_kR r)]
abbrev RP := List (List Int × Int)
def keysP (ps : RP) : List NestedKey := ps.map fun p => kR p.1
def valsP (ps : RP) : List D := ps.map fun p => D.int p.2
def dP (ps : RP) : D := .dtt (keysP ps) (valsP ps)
def getP (r : List Int) : RP → Option Int
  | [] => none
  | p :: ps => if p.1 = r then some p.2 else getP r ps
def bumpP (r : List Int) (n : Int) : RP → RP
  | [] => [(r, n)]
  | p :: ps => if p.1 = r then (p.1, p.2 + n) :: ps else p :: bumpP r n ps
def setP (r : List Int) (n : Int) : RP → RP
  | [] => [(r, n)]
  | p :: ps => if p.1 = r then (p.1, n) :: ps else p :: setP r n ps
def sumP (f : List Int → Bool) (ps : RP) : Int := (ps.map fun p => if f p.1 = true then p.2 else 0).sum
end DV
namespace DV
open PySem L2
def tallyP (some : List (List Int)) : RP := some.foldl (fun ps r => bumpP r 1 ps) []
theorem snoc_ind {α : Type} {P : List α → Prop} (h0 : P []) (hs : ∀ l a, P l → P (l ++ [a])) : ∀ l, P l := fun l => by
  have : ∀ l : List α, P l.reverse := fun l => by
    induction l with
    | nil => exact h0
    | cons a l ih => rw [List.reverse_cons]; exact hs _ _ ih
  have := this l.reverse
  rwa [List.reverse_reverse] at this
def rowStep (L : List (List Int)) (s : Int) : List (List Int) := L.flatMap fun r => (List.range s.toNat).map fun (v : Nat) => r ++ [(v : Int)]
def rowsV (szs : List Int) : List (List Int) := szs.foldl rowStep [[]]
def okR : List Int → List Int → Bool
  | [], [] => true
  | v :: r, s :: ss => decide (0 ≤ v) && decide (v < s) && okR r ss
  | _, _ => false
structure GoodV (ss : List Int) (L : List (List Int)) : Prop where
  m : ∀ r, r ∈ L ↔ okR r ss = true
  s : L.Pairwise fun a b => ltT a b = true
def projR (cs : List Int) (r : List Int) : List Int := cs.map fun c => r.getD c.toNat 0
end DV
namespace DV
open PySem L2
theorem plain_not {w : Web} (h : plainW w = true) {c : Nat} (hc : c < w.length) : (c : Int) ∉ leanW w c := by
  unfold plainW at h
  have := List.all_eq_true.mp (Bool.and_eq_true_iff.mp h).2 c (List.mem_range.mpr hc)
  unfold okCol at this
  simpa using (Bool.and_eq_true_iff.mp (Bool.and_eq_true_iff.mp this).1).2
theorem pre_len {β : Type} {done rest all : List β} {x : β} (h : done ++ x :: rest = all) : done.length < all.length := by
  rw [← h]
  simp
theorem Along.before {w : Web} {line : List Nat} (h : Along w line) {k c : Nat} (hc : c < w.length) (hx : (k : Int) ∈ leanW w c) : ∃ i j, ∃ (hi : i < line.length) (hj : j < line.length), i < j ∧ line[i] = k ∧ line[j] = c := by
  obtain ⟨j, hj, e⟩ := h.at hc
  obtain ⟨s, hs, hl⟩ := h.ln j hj
  rw [e] at hl
  rw [hl] at hx
  obtain ⟨k', e', hk⟩ := sub_mem (w := w) hs hx
  have : k' = k := by omega
  subst this
  obtain ⟨i, hi, e2⟩ := List.mem_iff_getElem.mp hk
  rw [List.getElem_take] at e2
  rw [List.length_take] at hi
  exact ⟨i, j, by omega, hj, by omega, e2, e⟩
def jn (w : Web) (a b : Nat) : Bool := decide ((a : Int) ∈ leanW w b) || decide ((b : Int) ∈ leanW w a)
def joinL (w : Web) : List (List Int) := (List.range w.length).flatMap fun lo => ((List.range' (lo + 1) (w.length - (lo + 1))).filter (jn w lo)).map fun (hi : Nat) => [(lo : Int), (hi : Int)]
def mm : List Int → List Int
  | [a, b] => [if b < a then b else a, if b > a then b else a]
  | l => l
def forkA (w : Web) : List (List Int) := (List.range w.length).flatMap fun mid => (leanW w mid).flatMap fun lo => ((leanW w mid).filter fun hi => decide (lo < hi) && !jn w lo.toNat hi.toNat).map fun hi => [lo, (mid : Int), hi]
def forkB (w : Web) : List (List Int) := (List.range w.length).flatMap fun lo => (List.range' (lo + 1) (w.length - (lo + 1))).flatMap fun hi => if jn w lo hi = true then [] else ((List.range w.length).filter fun mid => decide ((lo : Int) ∈ leanW w mid) && decide ((hi : Int) ∈ leanW w mid)).map fun (mid : Nat) => [(lo : Int), (mid : Int), (hi : Int)]
def Frk (w : Web) (p : List Int) : Prop := ∃ lo mid hi : Nat, p = [(lo : Int), (mid : Int), (hi : Int)] ∧ lo < hi ∧ hi < w.length ∧ mid < w.length ∧ (lo : Int) ∈ leanW w mid ∧ (hi : Int) ∈ leanW w mid ∧ jn w lo hi = false
end DV
namespace DV
open PySem L2
def nextW (w : Web) (f : List Nat) : List Nat := (List.range w.length).filter fun c => !inN f (c : Int) && (leanW w c).all (inN f)
def nxW (w : Web) (f : List Nat) : Nat := (nextW w f).headD 0
def ordW (w : Web) : Nat → List Nat
  | 0 => []
  | t + 1 => ordW w t ++ [nxW w (ordW w t)]
def Up (w : Web) : Nat → Nat → Nat → Prop
  | 0, x, c => c = x
  | k + 1, x, c => ∃ y, y < w.length ∧ Up w k x y ∧ (c : Int) ∈ leanW w y
def Dn (w : Web) (c x : Nat) : Prop := ∃ k, Up w (k + 1) x c
def upW (w : Web) (x : Nat) : Nat → List Int
  | 0 => setI [(x : Int)]
  | k + 1 => setI (upW w x k ++ (upW w x k).flatMap fun c => leanW w c.toNat)
end DV
namespace DV
open PySem L2
def blW (w : Web) (c : Nat) : Nat → List Nat
  | 0 => [c]
  | k + 1 => blW w c k ++ (List.range w.length).filter fun (d : Nat) => !inN (blW w c k) (d : Int) && (leanW w d).any (inN (blW w c k))
def wayOk (w : Web) (way : List Int) : Bool := decide (2 ≤ way.length) && decide ((setI way).length = way.length) && way.all fun x => decide (0 ≤ x) && decide (x < (w.length : Int))
def nbs (w : Web) (v : List Nat) : Bool := (List.range (v.length - 1)).all fun k => jn w (v.getD k 0) (v.getD (k + 1) 0)
def cN (v : List Nat) : List Int := v.map fun (k : Nat) => (k : Int)
def mtW (w : Web) (v : List Nat) (k : Nat) : Bool := decide (((v.getD (k - 1) 0 : Nat) : Int) ∈ leanW w (v.getD k 0)) && decide (((v.getD (k + 1) 0 : Nat) : Int) ∈ leanW w (v.getD k 0))
def ltW (w : Web) (seen : List Int) (v : List Nat) (k : Nat) : Bool := if mtW w v k = true then (blW w (v.getD k 0) w.length).any fun x => decide ((x : Int) ∈ seen) else !decide (((v.getD k 0 : Nat) : Int) ∈ seen)
def psW (w : Web) (seen : List Int) (v : List Nat) : Bool := (List.range' 1 (v.length - 2)).all (ltW w seen v)
def endW (seen : List Int) (v : List Nat) : Bool := !decide (((v.getD 0 0 : Nat) : Int) ∈ seen) && !decide (((v.getD (v.length - 1) 0 : Nat) : Int) ∈ seen)
end DV
namespace DV
open PySem L2
def subsU (cs : List Int) : List (List Int) := cs.foldl (fun L c => L ++ L.map fun l => l ++ [c]) [[]]
theorem srtA_tI {L : List (List Int)} (h0 : L.head? = some []) : srtA (L.map tI) = .ok ((sortT L).map tI) := by
  cases L with
  | nil => simp at h0
  | cons l L =>
    simp at h0
    subst h0
    unfold srtA
    have e1 : intsD (([] :: L).map tI) = none := rfl
    rw [e1, pyA_tI]
    dsimp only
    have ok : sortOkE (([] :: L).map pI) = true := by
      unfold sortOkE
      simp only [Bool.and_eq_true, List.all_eq_true, List.mem_map, forall_exists_index, and_imp, forall_apply_eq_imp_iff₂]
      refine ⟨⟨⟨fun a _ b _ => ?_, fun a ha => rfl⟩, rfl⟩, fun a _ => ?_⟩
      · show PySem.W.alike (.tuple _) (.tuple _) = true
        rw [PySem.W.alike]
        exact alike_ints a b
      · rw [decide_eq_true_eq]
        show PyData.depth (.tuple _) ≤ 60
        rw [PyData.depth, depth_ints]
        decide
    rw [if_pos (.inr ok)]
    congr 1
    unfold sortT
    rw [List.map_mergeSort (s := leD) (f := tI)]
    intro a _ b _
    exact (leD_tI a b).symm
def subsW (cs : List Int) : List (List Int) := sortT (subsU cs)
theorem fold_head : ∀ (cs : List Int) (L : List (List Int)), L.head? = some [] → (cs.foldl (fun L c => L ++ L.map fun l => l ++ [c]) L).head? = some []
  | [], _, h => h
  | c :: cs, L, h => by
    rw [List.foldl_cons]
    refine fold_head cs _ ?_
    cases L with
    | nil => simp at h
    | cons l L => simpa using h
theorem subsU_head (cs : List Int) : (subsU cs).head? = some [] := fold_head cs [[]] rfl
theorem subsU_snoc (cs : List Int) (c : Int) : subsU (cs ++ [c]) = subsU cs ++ (subsU cs).map fun l => l ++ [c] := by
  unfold subsU
  rw [List.foldl_append]
  rfl
theorem fold_len : ∀ (cs : List Int) (L : List (List Int)), (cs.foldl (fun L c => L ++ L.map fun l => l ++ [c]) L).length = L.length * 2 ^ cs.length
  | [], L => by simp
  | c :: cs, L => by
    rw [List.foldl_cons, fold_len cs, List.length_append, List.length_map, List.length_cons, Nat.pow_succ, Nat.mul_comm (2 ^ cs.length) 2, ← Nat.mul_assoc, Nat.mul_two]
theorem subsU_len (cs : List Int) : (subsU cs).length = 2 ^ cs.length := by
  unfold subsU
  rw [fold_len]
  simp
theorem fold_sub : ∀ (cs : List Int) (pre : List Int) (L : List (List Int)), (∀ l ∈ L, l.Sublist pre) → ∀ l ∈ cs.foldl (fun L c => L ++ L.map fun l => l ++ [c]) L, l.Sublist (pre ++ cs)
  | [], pre, L, h => by simpa using h
  | c :: cs, pre, L, h => by
    rw [List.foldl_cons]
    intro l hl
    have := fold_sub cs (pre ++ [c]) (L ++ L.map fun l => l ++ [c]) (fun m hm => by
      rcases List.mem_append.mp hm with hm | hm
      · exact (h m hm).trans (List.sublist_append_left pre [c])
      · obtain ⟨k, hk, rfl⟩ := List.mem_map.mp hm
        exact (h k hk).append (List.Sublist.refl [c])) l hl
    rw [List.append_assoc] at this
    exact this
theorem subsU_sub {cs l : List Int} (h : l ∈ subsU cs) : l.Sublist cs := by
  have := fold_sub cs [] [[]] (by simp) l h
  simpa using this
theorem subsW_sub {cs l : List Int} (h : l ∈ subsW cs) : l.Sublist cs := subsU_sub ((sortT_perm (subsU cs)).mem_iff.mp h)
def othW (n c : Nat) : List Int := ((List.range n).filter fun k => !decide (k = c)).map fun (k : Nat) => (k : Int)
def websU (n : Nat) : Nat → List Web
  | 0 => [[]]
  | k + 1 => (websU n k).flatMap fun w => (subsU (othW n k)).map fun l => w ++ [l]
def websW (n : Nat) : Nat → List Web
  | 0 => [[]]
  | k + 1 => (websW n k).flatMap fun w => (subsW (othW n k)).map fun l => w ++ [l]
theorem webs_perm (n : Nat) : ∀ k, (websW n k).Perm (websU n k)
  | 0 => List.Perm.refl _
  | k + 1 => by
    rw [websW, websU]
    refine ((webs_perm n k).flatMap_right _).trans ?_
    generalize websU n k = L
    induction L with
    | nil => exact List.Perm.refl _
    | cons w L ih =>
      rw [List.flatMap_cons, List.flatMap_cons]
      exact ((sortT_perm (subsU (othW n k))).map _).append ih
def allW (n : Nat) : List Web := (websW n n).filter ringlessW
theorem allW_len (n : Nat) : (allW n).length = ((websU n n).filter ringlessW).length := ((webs_perm n n).filter ringlessW).length_eq
theorem othW_rise (n c : Nat) : (othW n c).Pairwise (· < ·) := by
  unfold othW
  rw [List.pairwise_map]
  exact (List.Pairwise.filter _ List.pairwise_lt_range).imp fun {a b} h => by omega
theorem othW_mem {n c : Nat} {x : Int} (h : x ∈ othW n c) : ∃ k : Nat, x = (k : Int) ∧ k < n ∧ k ≠ c := by
  unfold othW at h
  obtain ⟨k, hk, rfl⟩ := List.mem_map.mp h
  rw [List.mem_filter, List.mem_range] at hk
  exact ⟨k, rfl, hk.1, by simpa using hk.2⟩
theorem othW_len (n c : Nat) : (othW n c).length ≤ n := by
  unfold othW
  rw [List.length_map]
  have := List.length_filter_le (fun k => !decide (k = c)) (List.range n)
  simpa using this
theorem webs_each {n : Nat} : ∀ k, ∀ w ∈ websW n k, w.length = k ∧ ∀ c, c < k → (leanW w c).Sublist (othW n c)
  | 0, w, h => by
    rw [websW, List.mem_singleton] at h
    subst h
    exact ⟨rfl, fun c hc => absurd hc (by omega)⟩
  | k + 1, w, h => by
    rw [websW] at h
    obtain ⟨v, hv, h⟩ := List.mem_flatMap.mp h
    obtain ⟨l, hl, rfl⟩ := List.mem_map.mp h
    obtain ⟨h1, h2⟩ := webs_each k v hv
    refine ⟨by rw [List.length_append, h1]; rfl, fun c hc => ?_⟩
    unfold leanW
    rw [List.getD_eq_getElem?_getD]
    by_cases e : c < v.length
    · rw [List.getElem?_append_left e, ← List.getD_eq_getElem?_getD]
      exact h2 c (by omega)
    · have : c = v.length := by omega
      subst this
      rw [List.getElem?_append_right (Nat.le_refl _), Nat.sub_self, h1]
      exact subsW_sub hl
theorem webs_plain {n : Nat} (h1 : 1 ≤ n) (h6 : n ≤ 6) {w : Web} (h : w ∈ websW n n) : plainW w = true ∧ ∀ l ∈ w, l.length ≤ n := by
  obtain ⟨hl, hs⟩ := webs_each n w h
  constructor
  · unfold plainW sizeW
    rw [hl, decide_eq_true h1, decide_eq_true h6, Bool.true_and, Bool.true_and, List.all_eq_true]
    intro c hc
    have hc' := List.mem_range.mp hc
    have hsub := hs c hc'
    unfold okCol
    rw [Bool.and_eq_true, Bool.and_eq_true, decide_eq_true_eq, Bool.not_eq_true', decide_eq_false_iff_not, List.all_eq_true]
    refine ⟨⟨(rising_set ((othW_rise n c).sublist hsub)).symm, fun z => ?_⟩, fun x hx => ?_⟩
    · obtain ⟨k, e, _, hk⟩ := othW_mem (hsub.subset z)
      exact hk (by omega)
    · obtain ⟨k, rfl, hk, _⟩ := othW_mem (hsub.subset hx)
      rw [hl]
      simp [hk]
  · intro l hl'
    obtain ⟨i, hi, rfl⟩ := List.mem_iff_getElem.mp hl'
    have hsub := hs i (by omega)
    have : leanW w i = w[i] := by unfold leanW; rw [List.getD_eq_getElem?_getD, List.getElem?_eq_getElem hi]; rfl
    rw [this] at hsub
    have h2 := hsub.length_le
    have h3 := othW_len n i
    omega
theorem websW_len (n : Nat) : ∀ k, (websW n k).length ≤ (2 ^ n) ^ k
  | 0 => by simp [websW]
  | k + 1 => by
    have ih := websW_len n k
    have hs : (subsW (othW n k)).length ≤ 2 ^ n := by
      unfold subsW
      rw [(sortT_perm _).length_eq, subsU_len]
      exact Nat.pow_le_pow_right (by decide) (othW_len n k)
    have key : ∀ L : List Web, (L.flatMap fun w => (subsW (othW n k)).map fun l => w ++ [l]).length ≤ 2 ^ n * L.length := fun L => by
      induction L with
      | nil => simp
      | cons w L ih =>
        rw [List.flatMap_cons, List.length_append, List.length_map, List.length_cons, Nat.mul_succ]
        omega
    rw [websW, Nat.pow_succ]
    refine Nat.le_trans (key _) ?_
    rw [Nat.mul_comm]
    exact Nat.mul_le_mul_right _ ih
end DV
namespace DV
open PySem L2
def prodI (l : List Int) : Int := l.foldl (· * ·) 1
theorem foldl_mul : ∀ (l : List Int) (a : Int), l.foldl (· * ·) a = a * prodI l
  | [], a => by unfold prodI; simp
  | x :: l, a => by
    rw [List.foldl_cons, foldl_mul l (a * x)]
    unfold prodI
    rw [List.foldl_cons, foldl_mul l (1 * x), Int.one_mul, Int.mul_assoc]
    rfl
theorem prodI_cons (x : Int) (l : List Int) : prodI (x :: l) = x * prodI l := by
  unfold prodI
  rw [List.foldl_cons, foldl_mul, Int.one_mul]
  rfl
theorem prodI_app : ∀ (l m : List Int), prodI (l ++ m) = prodI l * prodI m
  | [], m => by show prodI m = 1 * prodI m; rw [Int.one_mul]
  | x :: l, m => by rw [List.cons_append, prodI_cons, prodI_cons, prodI_app l m, Int.mul_assoc]
theorem prodI_le : ∀ (l : List Int) (b : Int), 0 ≤ b → (∀ x ∈ l, 0 ≤ x ∧ x ≤ b) → 0 ≤ prodI l ∧ prodI l ≤ b ^ l.length
  | [], b, _, _ => by unfold prodI; simp
  | x :: l, b, hb, h => by
    rw [prodI_cons, List.length_cons, Int.pow_succ]
    have h1 := h x (by simp)
    have h2 := prodI_le l b hb fun y hy => h y (by simp [hy])
    refine ⟨Int.mul_nonneg h1.1 h2.1, ?_⟩
    rw [Int.mul_comm]
    exact Int.mul_le_mul h2.2 h1.2 h1.1 (Int.pow_nonneg hb)
def riseP (a : Int) (n : Nat) : Int := prodI ((List.range n).map fun (i : Nat) => a + (i : Int))
section
variable {κ : Type} [DecidableEq κ]
def cntK (k : κ) (ks : List κ) : Nat := (ks.filter fun x => decide (x = k)).length
def tellS (a : Int) (ks : List κ) : List κ × Int := ks.foldl (fun st x => (st.1 ++ [x], st.2 * (a + (cntK x st.1 : Int)))) ([], 1)
def tellP (a : Int) (ks : List κ) : Int := (tellS a ks).2
end
end DV
namespace My
open PySem L2 DV
abbrev fr (p : Int × Int) : D := .tup [.int p.1, .int p.2]
theorem gcd_step (x y : Nat) : Nat.gcd y (x % y) = Nat.gcd x y := by
  rw [Nat.gcd_comm y (x % y), ← Nat.gcd_rec, Nat.gcd_comm]
theorem shared_loop : ∀ (n x y : Nat), y < n → whileF (cTest (cBin oNe (cVar 1) (cC (.int 0)))) g_shared_l1 n [some (.im (.int x)), some (.im (.int y))] = .nx [some (.im (.int (Nat.gcd x y))), some (.im (.int 0))]
  | 0, _, _, h => by omega
  | n + 1, x, y, h => by
    have ht : (cTest (cBin oNe (cVar 1) (cC (.int 0)))) [some (.im (.int x)), some (.im (.int y))] = .ok (!decide ((y : Int) = 0)) := by
      simp only [cTest, cBin, cVar, cC, List.getElem?_cons_succ, List.getElem?_cons_zero, Res.bind_ok, oNe_int, asB]
    rw [whileF, ht]
    by_cases hy : y = 0
    · subst hy
      simp
    · have h0 : ¬ ((y : Int) = 0) := by omega
      have hg : g_shared_l1 [some (.im (.int x)), some (.im (.int y))] = .nx [some (.im (.int y)), some (.im (.int ((x % y : Nat) : Int)))] := by
        have hm : oMod (.int x) (.int y) = .ok (.int ((x % y : Nat) : Int)) := by rw [oMod_pos (by omega)]; rfl
        simp [g_shared_l1, cPar, cCons, cVar, cBin, cNil, hm]
      rw [decide_eq_false h0, Bool.not_false]
      dsimp only
      rw [hg]
      dsimp only
      rw [shared_loop n y (x % y) (by have := Nat.mod_lt x (Nat.pos_of_ne_zero hy); omega), gcd_step]
theorem abs_nat (c : Int) : gAbs [.int c] = .ok (.int (c.natAbs : Int)) := by
  show Res.ok (D.int (if c < 0 then -c else c)) = _
  congr 2
  split <;> omega
theorem shared_ok (a b : Int) : F_shared [.int a, .int b] = .ok (.int (Int.gcd a b : Int)) := by
  have e1 : (cPar 0 1 (cCons (cCall gAbs (cCons (cVar 0) cNil)) (cCons (cCall gAbs (cCons (cVar 1) cNil)) cNil))) [some (.im (.int a)), some (.im (.int b))] = .nx [some (.im (.int (a.natAbs : Int))), some (.im (.int (b.natAbs : Int)))] := by
    simp [cPar, cCons, cCall, cVar, cNil, abs_nat]
  have e2 : (cWhile (fuelI 1) (cTest (cBin oNe (cVar 1) (cC (.int 0)))) g_shared_l1) [some (.im (.int (a.natAbs : Int))), some (.im (.int (b.natAbs : Int)))] = .nx [some (.im (.int (Int.gcd a b : Int))), some (.im (.int 0))] := by
    rw [cWhile]
    exact shared_loop _ _ _ (by simp [fuelI])
  show flR (g_shared [some (.im (.int a)), some (.im (.int b))]) = _
  rw [g_shared, seq_nx e1 (seq_nx e2 rfl)]
  rfl
def gS (t b : Int) : Int := if b < 0 then -(Int.gcd t b : Int) else Int.gcd t b
def partV (t b : Int) : Int × Int := (t.fdiv (gS t b), b.fdiv (gS t b))
theorem gS_ne {t b : Int} (hb : b ≠ 0) : gS t b ≠ 0 := by
  have h : Int.gcd t b ≠ 0 := fun h => hb (Int.gcd_eq_zero_iff.mp h).2
  unfold gS
  split <;> omega
theorem gS_le {t b : Int} (hb : b ≠ 0) : (gS t b).natAbs ≤ b.natAbs := by
  have h : Int.gcd t b ≤ b.natAbs := Nat.le_of_dvd (by omega) (Int.gcd_dvd_natAbs_right t b)
  unfold gS
  split <;> omega
theorem fdiv_ok {i j : Int} (h : j ≠ 0) (hl : j.natAbs < 2 ^ 9000) : oFdiv (.int i) (.int j) = .ok (.int (i.fdiv j)) := by
  show (if j ≠ 0 ∧ j.natAbs.log2 < 9000 then _ else _) = _
  rw [if_pos ⟨h, log2_small (by decide) hl⟩]
theorem lowest_ok {t b : Int} (hb : b ≠ 0) (hl : b.natAbs < 2 ^ 9000) : F_lowest [.int t, .int b] = .ok (fr (partV t b)) := by
  have e1 : (cIf (cTest (cBin oEq (cVar 1) (cC (.int 0)))) (cRaise "ByNought" (fd1 "word" "bynought") cNil) cNext) [some (.im (.int t)), some (.im (.int b)), none] = .nx [some (.im (.int t)), some (.im (.int b)), none] :=
    if_f (by simp [cTest, cBin, cVar, cC, oEq_int, asB, hb]) rfl
  have e2 : (cAsg 2 (cFn0 F_shared (cCons (cVar 0) (cCons (cVar 1) cNil)))) [some (.im (.int t)), some (.im (.int b)), none] = .nx [some (.im (.int t)), some (.im (.int b)), some (.im (.int (Int.gcd t b : Int)))] := by
    simp [cAsg, cFn0, cCons, cVar, cNil, shared_ok]
  have e3 : (cIf (cTest (cBin oLt (cVar 1) (cC (.int 0)))) (cAsg 2 (cUn oNeg (cVar 2))) cNext) [some (.im (.int t)), some (.im (.int b)), some (.im (.int (Int.gcd t b : Int)))] = .nx [some (.im (.int t)), some (.im (.int b)), some (.im (.int (gS t b)))] := by
    unfold gS
    by_cases h : b < 0
    · rw [if_pos h]
      exact if_t (by simp [cTest, cBin, cVar, cC, oLt, oI, asB, h]) rfl
    · rw [if_neg h]
      exact if_f (by simp [cTest, cBin, cVar, cC, oLt, oI, asB, h]) rfl
  have hg := gS_ne (t := t) hb
  have hs : (gS t b).natAbs < 2 ^ 9000 := Nat.lt_of_le_of_lt (gS_le hb) hl
  have e4 : (cRet (cTup (cCons (cBin oFdiv (cVar 0) (cVar 2)) (cCons (cBin oFdiv (cVar 1) (cVar 2)) cNil)))) [some (.im (.int t)), some (.im (.int b)), some (.im (.int (gS t b)))] = .rt (fr (partV t b)) := by
    simp [cRet, cTup, cCons, cBin, cVar, cNil, fdiv_ok hg hs, partV]
  show flR (g_lowest [some (.im (.int t)), some (.im (.int b)), none]) = _
  rw [g_lowest, seq_nx e1 (seq_nx e2 (seq_nx e3 e4))]
  rfl
def nought : Exn := ⟨"ByNought", [("word", .str "bynought")]⟩
theorem partV_le (t b : Int) (hb : b ≠ 0) : (partV t b).1.natAbs ≤ t.natAbs ∧ (partV t b).2.natAbs ≤ b.natAbs ∧ 0 < (partV t b).2 := by
  have hg := gS_ne (t := t) hb
  have d1 : gS t b ∣ t := by unfold gS; split; exact Int.neg_dvd.mpr (Int.gcd_dvd_left ..); exact Int.gcd_dvd_left ..
  have d2 : gS t b ∣ b := by unfold gS; split; exact Int.neg_dvd.mpr (Int.gcd_dvd_right ..); exact Int.gcd_dvd_right ..
  have key : ∀ {i j : Int}, j ≠ 0 → j ∣ i → ∃ q, i.fdiv j = q ∧ i = j * q := fun {i j} hj hd => by
    obtain ⟨q, rfl⟩ := hd
    exact ⟨q, Int.mul_fdiv_cancel_left _ hj, rfl⟩
  have le : ∀ {i j q : Int}, j ≠ 0 → i = j * q → q.natAbs ≤ i.natAbs := fun {i j q} hj e => by
    rw [e, Int.natAbs_mul]
    exact Nat.le_mul_of_pos_left _ (by omega)
  obtain ⟨p, e1, f1⟩ := key hg d1
  obtain ⟨q, e2, f2⟩ := key hg d2
  unfold partV
  dsimp only
  rw [e1, e2]
  refine ⟨le hg f1, le hg f2, ?_⟩
  by_cases h : b < 0
  · have hn : gS t b < 0 := by unfold gS at hg ⊢; rw [if_pos h] at hg ⊢; omega
    by_cases hq : 0 < q
    · exact hq
    · have := Int.mul_nonneg_of_nonpos_of_nonpos (Int.le_of_lt hn) (Int.not_lt.mp hq)
      omega
  · have hn : 0 < gS t b := by unfold gS at hg ⊢; rw [if_neg h] at hg ⊢; omega
    by_cases hq : 0 < q
    · exact hq
    · have := Int.mul_nonpos_of_nonneg_of_nonpos (Int.le_of_lt hn) (Int.not_lt.mp hq)
      omega
theorem part_mul (t b : Int) (hb : b ≠ 0) : ∃ g, g ≠ 0 ∧ t = g * (partV t b).1 ∧ b = g * (partV t b).2 ∧ g.natAbs = Int.gcd t b := by
  have hg := gS_ne (t := t) hb
  have d1 : gS t b ∣ t := by unfold gS; split; exact Int.neg_dvd.mpr (Int.gcd_dvd_left ..); exact Int.gcd_dvd_left ..
  have d2 : gS t b ∣ b := by unfold gS; split; exact Int.neg_dvd.mpr (Int.gcd_dvd_right ..); exact Int.gcd_dvd_right ..
  have hn : (gS t b).natAbs = Int.gcd t b := by unfold gS; split <;> simp
  unfold partV
  dsimp only
  generalize gS t b = g at *
  obtain ⟨p, rfl⟩ := d1
  obtain ⟨q, rfl⟩ := d2
  exact ⟨g, hg, by rw [Int.mul_fdiv_cancel_left _ hg], by rw [Int.mul_fdiv_cancel_left _ hg], hn⟩
theorem part_co (t b : Int) (hb : b ≠ 0) : Int.gcd (partV t b).1 (partV t b).2 = 1 := by
  obtain ⟨g, hg, e1, e2, e3⟩ := part_mul t b hb
  have h : Int.gcd t b = g.natAbs * Int.gcd (partV t b).1 (partV t b).2 := by
    have : ∀ p q : Int, t = g * p → b = g * q → Int.gcd t b = g.natAbs * Int.gcd p q := fun p q h1 h2 => by
      rw [h1, h2]
      exact Int.gcd_mul_left ..
    exact this _ _ e1 e2
  rw [← e3] at h
  have hp : 0 < g.natAbs := by omega
  have := Nat.eq_of_mul_eq_mul_left hp (h.symm.trans (Nat.mul_one _).symm)
  exact this
theorem part_rat (t b : Int) (hb : b ≠ 0) : (partV t b).1 * b = t * (partV t b).2 := by
  obtain ⟨g, hg, e1, e2, e3⟩ := part_mul t b hb
  generalize (partV t b).1 = p at *
  generalize (partV t b).2 = q at *
  subst e1 e2
  grind
theorem co_dvd {p q p' q' : Int} (h : Int.gcd p q = 1) (e : p * q' = p' * q) : q.natAbs ∣ q'.natAbs := by
  have h1 : q.natAbs ∣ p.natAbs * q'.natAbs := by
    rw [← Int.natAbs_mul, e, Int.natAbs_mul]
    exact Nat.dvd_mul_left ..
  exact Nat.Coprime.dvd_of_dvd_mul_left (Nat.Coprime.symm h) h1
theorem low_only {p q p' q' : Int} (h : Int.gcd p q = 1) (h' : Int.gcd p' q' = 1) (hq : 0 < q) (hq' : 0 < q') (e : p * q' = p' * q) : p = p' ∧ q = q' := by
  have d1 := co_dvd h e
  have d2 := co_dvd h' e.symm
  have hqq : q = q' := by
    have := Nat.dvd_antisymm d1 d2
    omega
  subst hqq
  exact ⟨Int.eq_of_mul_eq_mul_right (by omega) e, rfl⟩
theorem part_congr {t b t' b' : Int} (hb : b ≠ 0) (hb' : b' ≠ 0) (e : t * b' = t' * b) : partV t b = partV t' b' := by
  obtain ⟨g, hg, e1, e2, _⟩ := part_mul t b hb
  obtain ⟨g', hg', e1', e2', _⟩ := part_mul t' b' hb'
  have k : (partV t b).1 * (partV t' b').2 = (partV t' b').1 * (partV t b).2 := by
    generalize (partV t b).1 = p at *
    generalize (partV t b).2 = q at *
    generalize (partV t' b').1 = p' at *
    generalize (partV t' b').2 = q' at *
    subst e1 e2 e1' e2'
    have : (g * g') * (p * q') = (g * g') * (p' * q) := by grind
    exact Int.eq_of_mul_eq_mul_left (Int.mul_ne_zero hg hg') this
  obtain ⟨h1, h2⟩ := low_only (part_co t b hb) (part_co t' b' hb') (partV_le t b hb).2.2 (partV_le t' b' hb').2.2 k
  exact Prod.ext h1 h2
def plusV (p q : Int × Int) : Int × Int := partV (p.1 * q.2 + q.1 * p.2) (p.2 * q.2)
def timesV (p q : Int × Int) : Int × Int := partV (p.1 * q.1) (p.2 * q.2)
def Pos (p : Int × Int) : Prop := p.2 ≠ 0
def Low (p : Int × Int) : Prop := p.2 ≠ 0 ∧ partV p.1 p.2 = p
theorem part_pos {t b : Int} (hb : b ≠ 0) : Pos (partV t b) := by
  have := (partV_le t b hb).2.2
  show (partV t b).2 ≠ 0
  omega
theorem part_low {t b : Int} (hb : b ≠ 0) : Low (partV t b) := by
  refine ⟨part_pos hb, ?_⟩
  exact part_congr (part_pos hb) hb (part_rat t b hb)
theorem ix0 (x : Int) (y : D) : oIx (.tup [.int x, y]) (.int 0) = .ok (.int x) := rfl
theorem ix1 (x y : Int) : oIx (.tup [.int x, .int y]) (.int 1) = .ok (.int y) := rfl
end My
namespace DV
open PySem L2
def arrE (w : Web) (x y : Int) : Prop := ∃ c : Nat, y = (c : Int) ∧ c < w.length ∧ x ∈ leanW w c
def nxt (k m : Nat) : Nat := if k + 1 < m then k + 1 else 0
structure RingOf (w : Web) (r : List Int) : Prop where
  pos : 0 < r.length
  len : r.length ≤ 1000
  nd : r.Nodup
  least : ∀ x ∈ r, r.getD 0 0 ≤ x
  cyc : ∀ k, k < r.length → arrE w (r.getD k 0) (r.getD (nxt k r.length) 0)
def stepsW (w : Web) (wk : List Nat) : Prop := ∀ j, j + 1 < wk.length → arrE w ((wk.getD (j + 1) 0 : Nat) : Int) ((wk.getD j 0 : Nat) : Int)
theorem getD_lt {α : Type} {l : List α} {i : Nat} {d : α} (h : i < l.length) : l.getD i d = l[i] := by simp [List.getD_eq_getElem?_getD, h]
end DV
namespace DV
open PySem L2
def leansOf (L : List (List Int)) (c : Nat) : List Int := (L.filter fun p => decide (p.getD 1 0 = (c : Int))).map fun p => p.getD 0 0
def webL (n : Nat) (L : List (List Int)) : Web := (List.range n).map fun c => setI (leansOf L c)
def prL (L : List (List Int)) : Prop := ∀ p ∈ L, ∃ x y : Int, p = [x, y]
def okL (n : Nat) (L : List (List Int)) : Prop := ∀ p ∈ L, ∃ k c : Nat, p = [(k : Int), (c : Int)] ∧ k < n ∧ c < n ∧ k ≠ c
theorem okL.pr {n : Nat} {L : List (List Int)} (h : okL n L) : prL L := fun p hp => by
  obtain ⟨k, c, rfl, _⟩ := h p hp
  exact ⟨_, _, rfl⟩
theorem mem_leansOf {L : List (List Int)} (h : prL L) {c : Nat} {x : Int} : x ∈ leansOf L c ↔ [x, (c : Int)] ∈ L := by
  unfold leansOf
  rw [List.mem_map]
  constructor
  · rintro ⟨p, hp, rfl⟩
    obtain ⟨h1, h2⟩ := List.mem_filter.mp hp
    obtain ⟨x, y, rfl⟩ := h p h1
    have : y = (c : Int) := of_decide_eq_true h2
    rw [← this]
    exact h1
  · intro hm
    exact ⟨_, List.mem_filter.mpr ⟨hm, by simp⟩, rfl⟩
theorem webL_len (n : Nat) (L : List (List Int)) : (webL n L).length = n := by simp [webL]
theorem webL_lean {n : Nat} {L : List (List Int)} {c : Nat} (hc : c < n) : leanW (webL n L) c = setI (leansOf L c) := by
  unfold leanW webL
  rw [List.getD_eq_getElem?_getD]
  simp [hc]
theorem mem_webL {n : Nat} {L : List (List Int)} (h : prL L) {c : Nat} (hc : c < n) {x : Int} : x ∈ leanW (webL n L) c ↔ [x, (c : Int)] ∈ L := by
  rw [webL_lean hc, setI_mem, mem_leansOf h]
theorem webL_plain {n : Nat} {L : List (List Int)} (h1 : 1 ≤ n) (h6 : n ≤ 6) (h : okL n L) : plainW (webL n L) = true := by
  unfold plainW sizeW
  rw [webL_len, decide_eq_true h1, decide_eq_true h6]
  refine List.all_eq_true.mpr fun c hc => ?_
  have hc := List.mem_range.mp hc
  unfold okCol
  rw [Bool.and_eq_true, Bool.and_eq_true]
  refine ⟨⟨decide_eq_true ?_, ?_⟩, List.all_eq_true.mpr fun x hx => ?_⟩
  · rw [webL_lean hc, rising_set (setI_sorted _)]
  · rw [Bool.not_eq_true', decide_eq_false_iff_not, mem_webL h.pr hc]
    intro hm
    obtain ⟨k, d, e, _, _, ne⟩ := h _ hm
    have e1 := (List.cons.inj e).1
    have e2 := (List.cons.inj (List.cons.inj e).2).1
    exact ne (by omega)
  · rw [mem_webL h.pr hc] at hx
    obtain ⟨k, d, e, hk, _, _⟩ := h _ hx
    have e1 := (List.cons.inj e).1
    rw [webL_len, Bool.and_eq_true, decide_eq_true_eq, decide_eq_true_eq]
    omega
theorem mem_arr {w : Web} (hp : plainW w = true) {p : List Int} : p ∈ arrL w ↔ ∃ k c : Nat, p = [(k : Int), (c : Int)] ∧ k < w.length ∧ c < w.length ∧ (k : Int) ∈ leanW w c := by
  constructor
  · intro h
    unfold arrL at h
    obtain ⟨c, hc, h⟩ := List.mem_flatMap.mp h
    obtain ⟨x, hx, rfl⟩ := List.mem_map.mp h
    have hc := List.mem_range.mp hc
    obtain ⟨k, rfl, hk⟩ := range_of hp hc hx
    exact ⟨k, c, rfl, hk, hc, hx⟩
  · rintro ⟨k, c, rfl, hk, hc, hx⟩
    exact arrL_mem.mpr ⟨hc, hx⟩
theorem plain_self {w : Web} (h : plainW w = true) {c : Nat} (hc : c < w.length) : (c : Int) ∉ leanW w c := by
  unfold plainW at h
  have := List.all_eq_true.mp (Bool.and_eq_true_iff.mp h).2 c (List.mem_range.mpr hc)
  unfold okCol at this
  simpa using (Bool.and_eq_true_iff.mp (Bool.and_eq_true_iff.mp this).1).2
theorem plain_rises {w : Web} (h : plainW w = true) {c : Nat} (hc : c < w.length) : (leanW w c).Pairwise (· < ·) := by
  unfold plainW at h
  have := List.all_eq_true.mp (Bool.and_eq_true_iff.mp h).2 c (List.mem_range.mpr hc)
  unfold okCol at this
  have e := of_decide_eq_true (Bool.and_eq_true_iff.mp (Bool.and_eq_true_iff.mp this).1).1
  rw [e]
  exact setI_sorted _
theorem arr_okL {w : Web} (hp : plainW w = true) : okL w.length (arrL w) := fun p h => by
  obtain ⟨k, c, e, hk, hc, hx⟩ := (mem_arr hp).mp h
  exact ⟨k, c, e, hk, hc, fun z => plain_self hp hc (z ▸ hx)⟩
theorem arr_webL {n : Nat} {L : List (List Int)} (h1 : 1 ≤ n) (h6 : n ≤ 6) (h : okL n L) (p : List Int) : p ∈ arrL (webL n L) ↔ p ∈ L := by
  rw [mem_arr (webL_plain h1 h6 h)]
  constructor
  · rintro ⟨k, c, rfl, hk, hc, hx⟩
    rw [webL_len] at hc
    exact (mem_webL h.pr hc).mp hx
  · intro hp
    obtain ⟨k, c, rfl, hk, hc, _⟩ := h p hp
    exact ⟨k, c, rfl, by rw [webL_len]; exact hk, by rw [webL_len]; exact hc, (mem_webL h.pr hc).mpr hp⟩
theorem ringless_all {w : Web} : ringlessW w = true ↔ ∀ c, c < w.length → c ∈ placedW w w.length := by
  unfold ringlessW
  rw [decide_eq_true_eq, placed_len]
  constructor
  · intro h c hc
    by_cases z : c ∈ placedW w w.length
    · exact z
    · exact absurd (left_mem.mpr ⟨hc, z⟩) (by rw [h]; exact fun z => by cases z)
  · intro h
    cases e : leftW w w.length with
    | nil => rfl
    | cons c cs =>
      have : c ∈ leftW w w.length := by rw [e]; simp
      exact absurd (h c (left_mem.mp this).1) (left_mem.mp this).2
theorem ringless_less {w v : Web} (hl : v.length = w.length) (h : ∀ c, c < w.length → ∀ x ∈ leanW v c, x ∈ leanW w c) (hr : ringlessW w = true) : ringlessW v = true := by
  have key : ∀ t, ∀ c ∈ placedW w t, c ∈ placedW v t := fun t => by
    induction t with
    | zero => intro c hc; simp [placedW] at hc
    | succ t ih =>
      intro c hc
      obtain ⟨h1, h2⟩ := List.mem_filter.mp hc
      have hcw := List.mem_range.mp h1
      refine List.mem_filter.mpr ⟨by rw [hl]; exact h1, List.all_eq_true.mpr fun x hx => ?_⟩
      have := List.all_eq_true.mp h2 x (h c hcw x hx)
      unfold inN at this ⊢
      rw [decide_eq_true_eq] at this ⊢
      obtain ⟨k, hk, rfl⟩ := List.mem_map.mp this
      exact List.mem_map.mpr ⟨k, ih k hk, rfl⟩
  rw [ringless_all] at hr ⊢
  intro c hc
  rw [hl] at hc ⊢
  exact key _ c (hr c hc)
theorem ringless_two {w : Web} (hr : ringlessW w = true) {k c : Nat} (hk : k < w.length) (hc : c < w.length) (h1 : (k : Int) ∈ leanW w c) : (c : Int) ∉ leanW w k := by
  intro h2
  have key : ∀ t, k ∉ placedW w t ∧ c ∉ placedW w t := fun t => by
    induction t with
    | zero => simp [placedW]
    | succ t ih =>
      have f : ∀ {a b : Nat}, (a : Int) ∈ leanW w b → a ∉ placedW w t → b ∉ placedW w (t + 1) := fun {a b} ha hn hb => by
        have := List.all_eq_true.mp (List.mem_filter.mp hb).2 _ ha
        unfold inN at this
        rw [decide_eq_true_eq] at this
        obtain ⟨j, hj, e⟩ := List.mem_map.mp this
        have : j = a := Int.ofNat.inj e
        exact hn (this ▸ hj)
      exact ⟨f h2 ih.2, f h1 ih.1⟩
  exact (key w.length).1 (ringless_all.mp hr k hk)
theorem plain_leans {w : Web} (h : plainW w = true) {c : Nat} (hc : c < w.length) : (leanW w c).length ≤ w.length := by
  have nd := rising_nodup (plain_rises h hc)
  have sub : leanW w c ⊆ (List.range w.length).map fun (k : Nat) => (k : Int) := fun x hx => by
    obtain ⟨k, rfl, hk⟩ := range_of h hc hx
    exact List.mem_map.mpr ⟨k, List.mem_range.mpr hk, rfl⟩
  have := List.Nodup.length_le_of_subset nd sub
  simpa using this
theorem plain_len6 {w : Web} (h : plainW w = true) : 1 ≤ w.length ∧ w.length ≤ 6 := by
  unfold plainW sizeW at h
  simp at h
  exact h.1
theorem plain_lens {w : Web} (h : plainW w = true) : ∀ l ∈ w, l.length < 64 := fun l hl => by
  obtain ⟨c, hc, e⟩ := List.getElem_of_mem hl
  have := plain_leans h hc
  have h6 := plain_len6 h
  have e2 : leanW w c = l := by unfold leanW; rw [getD_lt hc]; exact e
  rw [e2] at this
  omega
theorem arr_nodup {w : Web} (h : plainW w = true) : (arrL w).Nodup := by
  unfold arrL
  refine List.pairwise_flatMap.mpr ⟨fun c hc => ?_, ?_⟩
  · have nd := rising_nodup (plain_rises h (List.mem_range.mp hc))
    exact List.Pairwise.map _ (fun x y hxy z => hxy (List.cons.inj z).1) nd
  · refine List.Pairwise.imp ?_ List.pairwise_lt_range
    intro a b hab p h1 q h2 e
    obtain ⟨x, _, rfl⟩ := List.mem_map.mp h1
    obtain ⟨y, _, rfl⟩ := List.mem_map.mp h2
    have := (List.cons.inj (List.cons.inj e).2).1
    omega
end DV
namespace DV
open PySem L2
def insP {α : Type} (n : Nat) (c : α) (l : List α) : List α := l.take n ++ c :: l.drop n
def insAt (c : Int) : List Int → Nat
  | [] => 0
  | x :: l => if x < c then insAt c l + 1 else 0
def outP {α : Type} (n : Nat) (l : List α) : List α := l.take n ++ l.drop (n + 1)
abbrev GP := List (List Int × List Int)
def addG (k : List Int) (n : Int) : GP → GP
  | [] => [(k, [n])]
  | p :: ps => if p.1 = k then (p.1, p.2 ++ [n]) :: ps else p :: addG k n ps
def getG (k : List Int) : GP → Option (List Int)
  | [] => none
  | p :: ps => if p.1 = k then some p.2 else getG k ps
def grpF (del : List Int → List Int) (tab : RP) : GP := tab.foldl (fun G p => addG (del p.1) p.2 G) []
end DV
namespace DV
open PySem L2
def rkOk (w : Web) (rk : Nat → Nat) : Prop := ∀ c, c < w.length → ∀ k : Nat, (k : Int) ∈ leanW w c → rk k < rk c
theorem placed_back {w : Web} {t k c : Nat} (h : c ∈ placedW w (t + 1)) (hk : (k : Int) ∈ leanW w c) : k ∈ placedW w t := by
  have := List.all_eq_true.mp (List.mem_filter.mp h).2 _ hk
  unfold inN at this
  rw [decide_eq_true_eq] at this
  obtain ⟨j, hj, e⟩ := List.mem_map.mp this
  have : j = k := Int.ofNat.inj e
  exact this ▸ hj
def latW (w : Web) (c : Nat) (t : Nat) : Bool := !decide (c ∈ placedW w t)
theorem cnt_mono {p q : Nat → Bool} : ∀ l : List Nat, (∀ t ∈ l, p t = true → q t = true) → (l.filter p).length ≤ (l.filter q).length
  | [], _ => Nat.le_refl _
  | t :: l, h => by
    have ih := cnt_mono l fun s hs => h s (by simp [hs])
    rw [List.filter_cons, List.filter_cons]
    cases e : p t with
    | true => rw [h t (by simp) e]; simp; exact ih
    | false => cases q t <;> simp <;> omega
theorem rank_of {w : Web} (hr : ringlessW w = true) : rkOk w fun c => ((List.range (w.length + 1)).filter (latW w c)).length := by
  intro c hc k hk
  by_cases hkn : k < w.length
  · have hkp : k ∈ placedW w w.length := ringless_all.mp hr k hkn
    show ((List.range (w.length + 1)).filter (latW w k)).length < ((List.range (w.length + 1)).filter (latW w c)).length
    have e1 : ((List.range (w.length + 1)).filter (latW w k)).length = ((List.range w.length).filter (latW w k)).length := by
      rw [List.range_succ, List.filter_append, List.length_append]
      have : ([w.length].filter (latW w k)) = [] := by
        rw [List.filter_cons]
        unfold latW
        rw [decide_eq_true hkp]
        rfl
      rw [this]
      rfl
    have e2 : ((List.range (w.length + 1)).filter (latW w c)).length = 1 + ((List.range w.length).filter fun t => latW w c (t + 1)).length := by
      rw [List.range_succ_eq_map, List.filter_cons]
      have : latW w c 0 = true := by unfold latW placedW; simp
      rw [if_pos this, List.length_cons, List.filter_map, List.length_map, Nat.add_comm]
      rfl
    rw [e1, e2]
    have := cnt_mono (p := latW w k) (q := fun t => latW w c (t + 1)) (List.range w.length) fun t _ h => by
      unfold latW at h ⊢
      rw [Bool.not_eq_true', decide_eq_false_iff_not] at h ⊢
      exact fun z => h (placed_back z hk)
    omega
  · exfalso
    have hcp : c ∈ placedW w w.length := ringless_all.mp hr c hc
    cases hn : w.length with
    | zero => omega
    | succ n =>
      rw [hn] at hcp
      have := placed_range (placed_back hcp hk)
      omega
theorem min_in {rk : Nat → Nat} : ∀ l : List Nat, l ≠ [] → ∃ c ∈ l, ∀ k ∈ l, rk c ≤ rk k
  | [], h => absurd rfl h
  | [c], _ => ⟨c, by simp, fun k hk => by rw [List.mem_singleton.mp hk]; exact Nat.le_refl _⟩
  | c :: d :: l, _ => by
    obtain ⟨m, hm, hmin⟩ := min_in (rk := rk) (d :: l) (by simp)
    by_cases h : rk c ≤ rk m
    · exact ⟨c, by simp, fun k hk => by
        rcases List.mem_cons.mp hk with rfl | hk
        · exact Nat.le_refl _
        · exact Nat.le_trans h (hmin k hk)⟩
    · exact ⟨m, List.mem_cons_of_mem _ hm, fun k hk => by
        rcases List.mem_cons.mp hk with rfl | hk
        · omega
        · exact hmin k hk⟩
theorem ringless_of {w : Web} (hp : plainW w = true) {rk : Nat → Nat} (h : rkOk w rk) : ringlessW w = true := by
  have ht : ∃ t, t ≤ w.length ∧ looseW w (leftW w t) = [] := by
    apply Classical.byContradiction
    intro hn
    have := left_len hp (w.length + 1) fun s hs z => hn ⟨s, by omega, z⟩
    omega
  obtain ⟨t, ht, hl⟩ := ht
  rw [ringless_iff hp ht hl, decide_eq_true_eq]
  apply Classical.byContradiction
  intro hne
  obtain ⟨c, hc, hmin⟩ := min_in (rk := rk) (leftW w t) hne
  have hcn := (left_mem.mp hc).1
  have : c ∈ looseW w (leftW w t) := by
    refine List.mem_filter.mpr ⟨hc, ?_⟩
    rw [Bool.not_eq_true', List.any_eq_false]
    intro x hx z
    unfold inN at z
    rw [decide_eq_true_eq] at z
    obtain ⟨k, hk, rfl⟩ := List.mem_map.mp z
    have h1 := h c hcn k hx
    have h2 := hmin k hk
    omega
  rw [hl] at this
  cases this
def turnL (v : Web) (x y : Nat) : List (List Int) := (arrL v).filter (fun p => !decide (p = [(x : Int), (y : Int)])) ++ [[(y : Int), (x : Int)]]
def turnW (v : Web) (x y : Nat) : Web := webL v.length (turnL v x y)
def covW (v : Web) (x y : Nat) : Bool := decide (x < v.length) && decide (y < v.length) && decide ((x : Int) ∈ leanW v y) && decide ((leanW v y).filter (fun k => !decide (k = (x : Int))) = leanW v x)
theorem covW_iff {v : Web} {x y : Nat} : covW v x y = true ↔ x < v.length ∧ y < v.length ∧ (x : Int) ∈ leanW v y ∧ (leanW v y).filter (fun k => !decide (k = (x : Int))) = leanW v x := by
  unfold covW
  simp only [Bool.and_eq_true, decide_eq_true_eq, and_assoc]
section
variable {v : Web} (hp : plainW v = true) (hr : ringlessW v = true) {x y : Nat} (hc : covW v x y = true)
include hp
theorem cov_ne (h : (x : Int) ∈ leanW v y) (hy : y < v.length) : x ≠ y := fun z => by
  subst z
  exact plain_self hp hy h
include hc
theorem turn_okL : okL v.length (turnL v x y) := fun p hpm => by
  obtain ⟨h1, h2, h3, _⟩ := covW_iff.mp hc
  rcases List.mem_append.mp hpm with h | h
  · exact arr_okL hp p (List.mem_filter.mp h).1
  · rw [List.mem_singleton.mp h]
    exact ⟨y, x, rfl, h2, h1, fun z => cov_ne hp h3 h2 z.symm⟩
theorem turn_len : (turnW v x y).length = v.length := webL_len _ _
theorem turn_plain : plainW (turnW v x y) = true := by
  have h6 := plain_len6 hp
  exact webL_plain h6.1 h6.2 (turn_okL hp hc)
theorem turn_mem {k c : Nat} (hcn : c < v.length) : (k : Int) ∈ leanW (turnW v x y) c ↔ ((k : Int) ∈ leanW v c ∧ ¬ (k = x ∧ c = y)) ∨ (k = y ∧ c = x) := by
  unfold turnW
  rw [mem_webL (turn_okL hp hc).pr hcn]
  unfold turnL
  rw [List.mem_append, List.mem_filter, List.mem_singleton, mem_arr hp]
  constructor
  · rintro (⟨⟨k', c', e, h1, h2, h3⟩, h4⟩ | h)
    · injection e with e1 e2
      injection e2 with e2 _
      have e1' : k = k' := Int.ofNat.inj e1
      have e2' : c = c' := Int.ofNat.inj e2
      subst e1' e2'
      refine .inl ⟨h3, fun z => ?_⟩
      rw [z.1, z.2] at h4
      simp at h4
    · injection h with e1 e2
      injection e2 with e2 _
      exact .inr ⟨Int.ofNat.inj e1, Int.ofNat.inj e2⟩
  · rintro (⟨h1, h2⟩ | ⟨rfl, rfl⟩)
    · obtain ⟨k', e, hk⟩ := range_of hp hcn h1
      have : k = k' := Int.ofNat.inj e
      subst this
      refine .inl ⟨⟨k, c, rfl, hk, hcn, h1⟩, ?_⟩
      rw [Bool.not_eq_true', decide_eq_false_iff_not]
      intro z
      injection z with e1 e2
      injection e2 with e2 _
      exact h2 ⟨Int.ofNat.inj e1, Int.ofNat.inj e2⟩
    · exact .inr rfl
theorem cov_leans {k : Int} : k ∈ leanW v y ↔ k = (x : Int) ∨ k ∈ leanW v x := by
  obtain ⟨h1, h2, h3, h4⟩ := covW_iff.mp hc
  constructor
  · intro h
    by_cases e : k = (x : Int)
    · exact .inl e
    · right
      rw [← h4]
      exact List.mem_filter.mpr ⟨h, by simpa using e⟩
  · rintro (rfl | h)
    · exact h3
    · rw [← h4] at h
      exact (List.mem_filter.mp h).1
include hr
theorem turn_ringless : ringlessW (turnW v x y) = true := by
  obtain ⟨h1, h2, h3, h4⟩ := covW_iff.mp hc
  have hrk := rank_of hr
  generalize (fun c => ((List.range (v.length + 1)).filter (latW v c)).length) = rk at hrk
  have hxy := hrk y h2 x h3
  have hne := cov_ne hp h3 h2
  refine ringless_of (rk := fun c => if c = y then 2 * rk x + 1 else 2 * rk c + 2) (turn_plain hp hc) fun c hcn k hk => ?_
  rw [turn_len hp hc] at hcn
  rw [turn_mem hp hc hcn] at hk
  dsimp only
  rcases hk with ⟨hk, hn⟩ | ⟨rfl, rfl⟩
  · have hkc := hrk c hcn k hk
    by_cases ec : c = y
    · subst ec
      have hkx : (k : Int) ∈ leanW v x := ((cov_leans hp hc).mp hk).resolve_left fun z => hn ⟨by omega, rfl⟩
      have := hrk x h1 k hkx
      have hky : k ≠ c := fun z => by
        subst z
        exact plain_self hp h2 hk
      rw [if_neg hky, if_pos rfl]
      omega
    · rw [if_neg ec]
      split
      · rename_i ek
        subst ek
        omega
      · omega
  · rw [if_pos rfl, if_neg hne]
    omega
theorem turn_jn (a b : Nat) (ha : a < v.length) (hb : b < v.length) : jn (turnW v x y) a b = jn v a b := by
  obtain ⟨h1, h2, h3, h4⟩ := covW_iff.mp hc
  have h5 := ringless_two hr h1 h2 h3
  unfold jn
  rw [Bool.eq_iff_iff, Bool.or_eq_true, Bool.or_eq_true, decide_eq_true_eq, decide_eq_true_eq, decide_eq_true_eq, decide_eq_true_eq, turn_mem hp hc hb, turn_mem hp hc ha]
  constructor
  · rintro ((⟨h, _⟩ | ⟨rfl, rfl⟩) | (⟨h, _⟩ | ⟨rfl, rfl⟩))
    · exact .inl h
    · exact .inr h3
    · exact .inr h
    · exact .inl h3
  · rintro (h | h)
    · by_cases e : a = x ∧ b = y
      · exact .inr (.inr ⟨e.2, e.1⟩)
      · exact .inl (.inl ⟨h, e⟩)
    · by_cases e : b = x ∧ a = y
      · exact .inl (.inr ⟨e.2, e.1⟩)
      · exact .inr (.inl ⟨h, e⟩)
end
end DV
namespace DV
open PySem L2
inductive Kin (w : Web) : Web → Prop
  | base : Kin w w
  | turn {v : Web} {x y : Nat} : Kin w v → covW v x y = true → Kin w (turnW v x y)
structure KinOk (w v : Web) : Prop where
  p : plainW v = true
  r : ringlessW v = true
  l : v.length = w.length
  j : ∀ a b, a < w.length → b < w.length → jn v a b = jn w a b
theorem kin_good {w v : Web} (hp : plainW w = true) (hr : ringlessW w = true) (h : Kin w v) : KinOk w v := by
  induction h with
  | base => exact ⟨hp, hr, rfl, fun _ _ _ _ => rfl⟩
  | @turn v x y _ hc ih =>
    refine ⟨turn_plain ih.p hc, turn_ringless ih.p ih.r hc, (turn_len ih.p hc).trans ih.l, fun a b ha hb => ?_⟩
    rw [turn_jn ih.p ih.r hc a b (by rw [ih.l]; exact ha) (by rw [ih.l]; exact hb), ih.j a b ha hb]
def allB : Nat → List (List Bool)
  | 0 => [[]]
  | m + 1 => (allB m).flatMap fun l => [false :: l, true :: l]
def pairsN (n : Nat) : List (Nat × Nat) := (List.range n).flatMap fun lo => (List.range' (lo + 1) (n - (lo + 1))).map fun hi => (lo, hi)
def codeW (n : Nat) (v : Web) : List Bool := (pairsN n).map fun p => decide ((p.1 : Int) ∈ leanW v p.2)
end DV
namespace DV
open PySem L2
def FkW (w : Web) (a m b : Nat) : Prop := a < w.length ∧ m < w.length ∧ b < w.length ∧ a ≠ b ∧ (a : Int) ∈ leanW w m ∧ (b : Int) ∈ leanW w m ∧ jn w a b = false
section
variable {v : Web} (hp : plainW v = true) (hr : ringlessW v = true) {x y : Nat} (hc : covW v x y = true)
include hp hr hc
end
structure AlikeW (u v : Web) : Prop where
  l : v.length = u.length
  j : ∀ a b, a < u.length → b < u.length → jn v a b = jn u a b
  f : ∀ a m b, FkW u a m b ↔ FkW v a m b
theorem AlikeW.refl (u : Web) : AlikeW u u := ⟨rfl, fun _ _ _ _ => rfl, fun _ _ _ => Iff.rfl⟩
theorem AlikeW.symm {u v : Web} (h : AlikeW u v) : AlikeW v u := ⟨h.l.symm, fun a b ha hb => (h.j a b (by rw [← h.l]; exact ha) (by rw [← h.l]; exact hb)).symm, fun a m b => (h.f a m b).symm⟩
theorem AlikeW.trans {u v t : Web} (h : AlikeW u v) (k : AlikeW v t) : AlikeW u t := ⟨k.l.trans h.l, fun a b ha hb => (k.j a b (by rw [h.l]; exact ha) (by rw [h.l]; exact hb)).trans (h.j a b ha hb), fun a m b => (h.f a m b).trans (k.f a m b)⟩
def revW (u v : Web) (x y : Nat) : Bool := decide ((x : Int) ∈ leanW u y) && decide ((y : Int) ∈ leanW v x)
section
variable {u v : Web} (pu : plainW u = true) (ru : ringlessW u = true) (pv : plainW v = true) (rv : ringlessW v = true) (al : AlikeW u v)
include pu ru pv rv al
end
end DV
namespace DV
open PySem L2
def difL (u v : Web) : List (List Int) := (arrL u).filter fun p => !decide (p ∈ arrL v)
def dif (u v : Web) : Nat := (difL u v).length
theorem difL_mem {u v : Web} {p : List Int} : p ∈ difL u v ↔ p ∈ arrL u ∧ p ∉ arrL v := by
  unfold difL
  rw [List.mem_filter, Bool.not_eq_true', decide_eq_false_iff_not]
section
variable {u : Web} (hp : plainW u = true) (hr : ringlessW u = true) {x y : Nat} (hc : covW u x y = true)
include hp hc
theorem turn_arr {p : List Int} : p ∈ arrL (turnW u x y) ↔ (p ∈ arrL u ∧ p ≠ [(x : Int), (y : Int)]) ∨ p = [(y : Int), (x : Int)] := by
  have h6 := plain_len6 hp
  unfold turnW
  rw [arr_webL h6.1 h6.2 (turn_okL hp hc)]
  unfold turnL
  rw [List.mem_append, List.mem_filter, List.mem_singleton]
  simp
theorem dif_turn_le (v : Web) : dif u v ≤ dif (turnW u x y) v + 1 := by
  have nd : (difL u v).Nodup := (arr_nodup hp).sublist List.filter_sublist
  have sub : difL u v ⊆ [(x : Int), (y : Int)] :: difL (turnW u x y) v := fun p h => by
    obtain ⟨h1, h2⟩ := difL_mem.mp h
    by_cases e : p = [(x : Int), (y : Int)]
    · rw [e]; simp
    · exact List.mem_cons_of_mem _ (difL_mem.mpr ⟨(turn_arr hp hc).mpr (.inl ⟨h1, e⟩), h2⟩)
  have := nd.length_le_of_subset sub
  rw [List.length_cons] at this
  exact this
include hr
end
inductive PathW (u : Web) : List (Nat × Nat) → Web → Prop
  | nil : PathW u [] u
  | snoc {p : List (Nat × Nat)} {t : Web} {x y : Nat} : PathW u p t → covW t x y = true → PathW u (p ++ [(x, y)]) (turnW t x y)
theorem PathW.kin {u v : Web} {p : List (Nat × Nat)} (h : PathW u p v) : Kin u v := by
  induction h with
  | nil => exact .base
  | snoc _ hc ih => exact .turn ih hc
theorem PathW.cons {u v : Web} {p : List (Nat × Nat)} {x y : Nat} (hc : covW u x y = true) (h : PathW (turnW u x y) p v) : PathW u ((x, y) :: p) v := by
  induction h with
  | nil => exact PathW.snoc (p := []) .nil hc
  | snoc _ hc' ih => exact PathW.snoc ih hc'
theorem PathW.far {u v : Web} (hp : plainW u = true) (hr : ringlessW u = true) {p : List (Nat × Nat)} (h : PathW u p v) : ∀ w, dif u w ≤ p.length + dif v w := by
  induction h with
  | nil => intro w; simp
  | @snoc p t x y ht hc ih =>
    intro w
    have kt := kin_good hp hr ht.kin
    have h1 := ih w
    have h2 := dif_turn_le kt.p hc w
    rw [List.length_append]
    simp
    omega
end DV
namespace DV
open PySem L2
def jL (w : Web) : List (List Int) := sortT ((sortT (arrL w)).map mm)
def fL (w : Web) : List (List Int) := sortT (forkA w)
def alikeB (u v : Web) : Bool := decide (u.length = v.length) && (decide (jL u = jL v) && decide (fL u = fL v))
section
variable {u v : Web} (pu : plainW u = true) (ru : ringlessW u = true) (pv : plainW v = true) (rv : ringlessW v = true)
include pu pv ru rv
end
end DV
namespace DV
open PySem L2
def endP (w : Web) (p : List (Nat × Nat)) : Web := p.foldl (fun v a => turnW v a.1 a.2) w
theorem endP_snoc (w : Web) (p : List (Nat × Nat)) (a : Nat × Nat) : endP w (p ++ [a]) = turnW (endP w p) a.1 a.2 := by
  unfold endP
  rw [List.foldl_append]
  rfl
theorem PathW.end_ {u v : Web} {p : List (Nat × Nat)} (h : PathW u p v) : v = endP u p := by
  induction h with
  | nil => rfl
  | snoc _ _ ih => rw [endP_snoc, ← ih]
theorem PathW.pre {u v : Web} {l : List (Nat × Nat)} (h : PathW u l v) : ∀ (q : List (Nat × Nat)) (a : Nat × Nat) (r : List (Nat × Nat)), l = q ++ a :: r → covW (endP u q) a.1 a.2 = true ∧ PathW u q (endP u q) := by
  induction h with
  | nil => intro q a r e; simp at e
  | @snoc p t x y ht hc ih =>
    intro q a r e
    rcases List.eq_nil_or_concat r with rfl | ⟨r', b, rfl⟩
    · have e' : p ++ [(x, y)] = q ++ [a] := e
      obtain ⟨rfl, e2⟩ := List.append_inj' e' rfl
      injection e2 with e2 _
      subst e2
      rw [← ht.end_]
      exact ⟨hc, ht⟩
    · rw [List.concat_eq_append, ← List.cons_append, ← List.append_assoc] at e
      obtain ⟨e1, _⟩ := List.append_inj' e rfl
      exact ih q a r' e1
theorem PathW.cov {u v : Web} {l : List (Nat × Nat)} (h : PathW u l v) {a : Nat × Nat} {q r : List (Nat × Nat)} (e : l = q ++ a :: r) : covW (endP u q) a.1 a.2 = true := (h.pre q a r e).1
theorem Along.more {w : Web} {line : List Nat} (h : Along w line) : Along (w ++ [[]]) (line ++ [w.length]) := by
  have low : ∀ c, c < w.length → leanW (w ++ [[]]) c = leanW w c := fun c hc => by
    unfold leanW
    rw [List.getD_eq_getElem?_getD, List.getD_eq_getElem?_getD, List.getElem?_append_left hc]
  refine ⟨by rw [List.length_append, List.length_append, h.len]; rfl, ?_, fun c hc => ?_, fun j hj => ?_⟩
  · rw [List.nodup_append]
    refine ⟨h.nd, by simp, fun a ha b hb => ?_⟩
    rw [List.mem_singleton] at hb
    have := h.rg a ha
    omega
  · rw [List.length_append]
    simp
    rcases List.mem_append.mp hc with z | z
    · have := h.rg c z
      omega
    · rw [List.mem_singleton] at z
      omega
  · by_cases hjl : j < line.length
    · obtain ⟨s, hs, hl⟩ := h.ln j hjl
      have e : (line ++ [w.length])[j] = line[j] := List.getElem_append_left hjl
      refine ⟨s, ?_, ?_⟩
      · rw [List.take_append_of_le_length (by omega)]
        exact hs
      · rw [e, low _ (h.rg _ (List.getElem_mem hjl)), hl]
    · have hj' : j = line.length := by rw [List.length_append] at hj; simp at hj; omega
      subst hj'
      have e : (line ++ [w.length])[line.length] = w.length := by simp
      refine ⟨[], List.nil_sublist _, ?_⟩
      rw [e]
      unfold leanW
      rw [List.getD_eq_getElem?_getD, List.getElem?_append_right (Nat.le_refl _)]
      simp [sortI]
end DV
namespace DV
inductive Ld (R : Nat → Nat → Prop) : Nat → Nat → Prop
  | refl (c : Nat) : Ld R c c
  | step {p q c : Nat} (h : R p q) (t : Ld R q c) : Ld R p c
section
variable {R : Nat → Nat → Prop} {Z : Nat → Prop}
def ZL (R : Nat → Nat → Prop) (Z : Nat → Prop) (c : Nat) : Prop := ∃ z, Z z ∧ Ld R c z
def LtP (R : Nat → Nat → Prop) (Z : Nat → Prop) (x y z : Nat) : Prop := (R x y ∧ R z y → ZL R Z y) ∧ (¬ (R x y ∧ R z y) → ¬ Z y)
structure Wk (R : Nat → Nat → Prop) (Z : Nat → Prop) (f : Nat → Nat) (n : Nat) : Prop where
  j : ∀ k, k < n → R (f k) (f (k + 1)) ∨ R (f (k + 1)) (f k)
  l : ∀ k, 0 < k → k < n → LtP R Z (f (k - 1)) (f k) (f (k + 1))
theorem ZL.up {c d : Nat} (h : R c d) : ZL R Z d → ZL R Z c := fun ⟨z, h1, h2⟩ => ⟨z, h1, .step h h2⟩
theorem Ld.trans {a b c : Nat} (h : Ld R a b) (t : Ld R b c) : Ld R a c := by
  induction h with
  | refl _ => exact t
  | step h _ ih => exact .step h (ih t)
def AS (R : Nat → Nat → Prop) (Z : Nat → Prop) (a b c : Nat) : Prop := Ld R c a ∨ Ld R c b ∨ ZL R Z c
def Nr (R : Nat → Nat → Prop) (Z : Nat → Prop) (a b u v : Nat) : Prop := u ≠ v ∧ AS R Z a b u ∧ AS R Z a b v ∧ ∃ c, AS R Z a b c ∧ (u = c ∨ R u c) ∧ (v = c ∨ R v c)
inductive Mr (R : Nat → Nat → Prop) (Z : Nat → Prop) (a b : Nat) : Nat → Prop
  | refl : Mr R Z a b a
  | step {u v : Nat} (t : Mr R Z a b u) (h : Nr R Z a b u v) (hz : ¬ Z v) : Mr R Z a b v
theorem AS.up {a b c d : Nat} (h : R c d) : AS R Z a b d → AS R Z a b c
  | .inl z => .inl (.step h z)
  | .inr (.inl z) => .inr (.inl (.step h z))
  | .inr (.inr z) => .inr (.inr (ZL.up h z))
theorem Wk.more {f : Nat → Nat} {n v : Nat} (h : Wk R Z f n) (hj : R (f n) v ∨ R v (f n)) (hl : 0 < n → LtP R Z (f (n - 1)) (f n) v) : ∃ g, Wk R Z g (n + 1) ∧ g 0 = f 0 ∧ g n = f n ∧ g (n + 1) = v := by
  let g : Nat → Nat := fun k => if k ≤ n then f k else v
  have g1 : ∀ k, k ≤ n → g k = f k := fun k hk => if_pos hk
  have g2 : g (n + 1) = v := if_neg (by omega)
  refine ⟨g, ⟨fun k hk => ?_, fun k h0 hk => ?_⟩, g1 0 (Nat.zero_le _), g1 n (Nat.le_refl _), g2⟩
  · by_cases e : k = n
    · subst e
      rw [g1 k (Nat.le_refl _), g2]
      exact hj
    · rw [g1 k (by omega), g1 (k + 1) (by omega)]
      exact h.j k (by omega)
  · by_cases e : k = n
    · subst e
      rw [g1 (k - 1) (by omega), g1 k (Nat.le_refl _), g2]
      exact hl h0
    · rw [g1 (k - 1) (by omega), g1 k (by omega), g1 (k + 1) (by omega)]
      exact h.l k h0 (by omega)
def Gd (R : Nat → Nat → Prop) (Z : Nat → Prop) (a u : Nat) : Prop := ¬ Z u ∧ ∃ f n, Wk R Z f n ∧ f 0 = a ∧ f n = u ∧ (n = 0 ∨ R u (f (n - 1)) ∨ ZL R Z u)
end
end DV
namespace DV
def ArW (w : Web) (p c : Nat) : Prop := p < w.length ∧ c < w.length ∧ (p : Int) ∈ leanW w c
def ZI (seen : List Int) (z : Nat) : Prop := (z : Int) ∈ seen
def lastN (v : List Nat) : Nat := v.getD (v.length - 1) 0
def stT (w : Web) (v : List Nat) (c : Nat) : Bool := !decide (c ∈ v) && (decide ((c : Int) ∈ leanW w (lastN v)) || decide (((lastN v : Nat) : Int) ∈ leanW w c))
def extW (w : Web) (v : List Nat) : List (List Nat) := ((List.range w.length).filter (stT w v)).map fun c => v ++ [c]
def lnW (w : Web) (a b : Nat) : Nat → List (List Nat)
  | 0 => [[a]]
  | i + 1 => ((lnW w a b i).flatMap (extW w)).filter (fun v => !decide ((lastN v : Int) = (b : Int)))
theorem ext_mem {w : Web} {v u : List Nat} (h : u ∈ extW w v) : ∃ c, c < w.length ∧ u = v ++ [c] ∧ c ∉ v ∧ (jn w (lastN v) c = true) := by
  unfold extW at h
  obtain ⟨c, hc, rfl⟩ := List.mem_map.mp h
  obtain ⟨h1, h2⟩ := List.mem_filter.mp hc
  unfold stT at h2
  rw [Bool.and_eq_true, Bool.not_eq_true', decide_eq_false_iff_not, Bool.or_comm] at h2
  exact ⟨c, List.mem_range.mp h1, rfl, h2.1, h2.2⟩
theorem getD_app {v : List Nat} {c k : Nat} (h : k < v.length) : (v ++ [c]).getD k 0 = v.getD k 0 := by
  rw [List.getD_eq_getElem?_getD, List.getD_eq_getElem?_getD, List.getElem?_append_left h]
theorem getD_end {v : List Nat} {c : Nat} : (v ++ [c]).getD v.length 0 = c := by
  rw [List.getD_eq_getElem?_getD]
  simp
structure WayW (w : Web) (a : Nat) (v : List Nat) : Prop where
  ne : v ≠ []
  rg : ∀ c ∈ v, c < w.length
  nd : v.Nodup
  hd : v.getD 0 0 = a
  nb : ∀ k, k + 1 < v.length → jn w (v.getD k 0) (v.getD (k + 1) 0) = true
theorem WayW.more {w : Web} {a : Nat} {v u : List Nat} (h : WayW w a v) (hu : u ∈ extW w v) : WayW w a u := by
  obtain ⟨c, hc, rfl, hn, hj⟩ := ext_mem hu
  have hp : 0 < v.length := List.length_pos_iff.mpr h.ne
  refine ⟨by simp, fun d hd => ?_, ?_, by rw [getD_app hp]; exact h.hd, fun k hk => ?_⟩
  · rcases List.mem_append.mp hd with hd | hd
    · exact h.rg d hd
    · rw [List.mem_singleton.mp hd]; exact hc
  · rw [List.nodup_append]
    refine ⟨h.nd, by simp, fun x hx y hy => ?_⟩
    rw [List.mem_singleton.mp hy]
    intro z
    exact hn (by rw [← z]; exact hx)
  · rw [List.length_append, List.length_singleton] at hk
    by_cases e : k + 1 < v.length
    · rw [getD_app (by omega), getD_app e]
      exact h.nb k e
    · have ek : k + 1 = v.length := by omega
      rw [getD_app (by omega), ek, getD_end]
      have : lastN v = v.getD k 0 := by unfold lastN; congr 1; omega
      rw [← this]
      exact hj
structure Ways (w : Web) (i : Nat) (L : List (List Nat)) : Prop where
  ll : ∀ v ∈ L, v.length = i + 1 ∧ ∀ c ∈ v, c < w.length
  ln : L.length ≤ 6 ^ i
def srch (w : Web) (a b : Nat) (seen : List Int) : Nat → Nat → Option (List Nat)
  | 0, _ => none
  | k + 1, i => match ((lnW w a b i).flatMap (extW w)).find? (fun v => decide ((lastN v : Int) = (b : Int)) && psW w seen v) with
    | some v => some v
    | none => srch w a b seen k (i + 1)
end DV
namespace DV
def isN (n : Nat) (l : List Int) : Prop := ∀ x ∈ l, ∃ c : Nat, x = (c : Int) ∧ c < n
theorem isN.set {n : Nat} {l : List Int} (h : isN n l) : isN n (setI l) := fun x hx => h x ((setI_mem l x).mp hx)
theorem isN.len {n : Nat} {l : List Int} (h : isN n l) (hnd : l.Nodup) : l.length ≤ n := by
  have := List.Nodup.length_le_of_subset hnd (l₂ := (List.range n).map fun (k : Nat) => (k : Int)) (fun x hx => by
    obtain ⟨c, rfl, hc⟩ := h x hx
    exact List.mem_map.mpr ⟨c, List.mem_range.mpr hc, rfl⟩)
  simpa using this
def lnI (w : Web) (x : Int) : List Int := leanW w x.toNat
def abW (w : Web) (S : List Int) : Nat → List Int
  | 0 => setI S
  | k + 1 => setI (abW w S k ++ (abW w S k).flatMap (lnI w))
def grW (w : Web) (A : List Int) (c : Int) : List Int := (lnI w c).filter (fun x => decide (x ∈ A)) ++ [c]
def prW (g : List Int) : List (List Int) := g.flatMap fun one => (g.filter fun other => !decide (one = other)).map fun other => [one, other]
def nrW (w : Web) (A : List Int) : List (List Int) := A.flatMap fun c => prW (grW w A c)
def cmW (prs : List (List Int)) (ey : List Int) (a : Int) : Nat → List Int
  | 0 => [a]
  | k + 1 => setI (cmW prs ey a k ++ (prs.filter fun p => decide (p.getD 0 0 ∈ cmW prs ey a k) && !decide (p.getD 1 0 ∈ ey)).map fun p => p.getD 1 0)
end DV
namespace DV
open PySem L2
section
variable {R R' : Nat → Nat → Prop} {a b : Nat} (hab : a ≠ b) (cov : ∀ k, R k b ↔ R k a ∨ k = a) (irr : ∀ k, ¬ R k k) (trn : ∀ k c, R' k c ↔ (R k c ∧ ¬ (k = a ∧ c = b)) ∨ (k = b ∧ c = a))
include hab cov irr trn
end
end DV
namespace DV
open PySem L2
section
variable {w : Web} (hp : plainW w = true) (hr : ringlessW w = true)
include hp hr
end
end DV
namespace DV
open PySem L2
def lxW : Web → Web → Bool
  | [], [] => false
  | [], _ :: _ => true
  | _ :: _, [] => false
  | x :: r, y :: t => ltT x y || (decide (x = y) && lxW r t)
def lqW (u v : Web) : Bool := !lxW v u
def sortW (K : List Web) : List Web := K.mergeSort lqW
theorem subs_all {cs l : List Int} (h : l.Sublist cs) : l ∈ subsW cs := by
  unfold subsW
  rw [(sortT_perm _).mem_iff]
  have key : ∀ cs : List Int, ∀ l, l.Sublist cs → l ∈ subsU cs := by
    intro cs
    induction cs using snoc_ind with
    | h0 => intro l h; rw [List.sublist_nil.mp h]; simp [subsU]
    | hs cs c ih =>
      intro l h
      rw [subsU_snoc, List.mem_append]
      obtain ⟨l1, l2, rfl, h1, h2⟩ := List.sublist_append_iff.mp h
      rcases List.sublist_cons_iff.mp h2 with h3 | ⟨r, e3, h3⟩
      · rw [List.sublist_nil.mp h3, List.append_nil]; exact .inl (ih l1 h1)
      · rw [e3, List.sublist_nil.mp h3]; exact .inr (List.mem_map.mpr ⟨l1, ih l1 h1, rfl⟩)
  exact key cs l h
theorem webs_all {n : Nat} {w : Web} (h : ∀ c, c < w.length → (leanW w c).Sublist (othW n c)) : ∀ k, k ≤ w.length → w.take k ∈ websW n k
  | 0, _ => by simp [websW]
  | k + 1, hk => by
    rw [websW, List.mem_flatMap]
    refine ⟨w.take k, webs_all h k (by omega), List.mem_map.mpr ⟨leanW w k, subs_all (h k (by omega)), ?_⟩⟩
    rw [List.take_succ_eq_append_getElem (by omega)]
    unfold leanW
    rw [getD_lt (by omega)]
theorem all_mem {n : Nat} (h1 : 1 ≤ n) (h6 : n ≤ 6) {w : Web} : w ∈ allW n ↔ w.length = n ∧ plainW w = true ∧ ringlessW w = true := by
  unfold allW
  rw [List.mem_filter]
  constructor
  · rintro ⟨h, hr⟩
    exact ⟨(webs_each n w h).1, (webs_plain h1 h6 h).1, hr⟩
  · rintro ⟨hl, hp, hr⟩
    refine ⟨?_, hr⟩
    have := webs_all (n := n) (w := w) (fun c hc => ?_) n (by omega)
    · have e : w.take n = w := by rw [← hl, List.take_length]
      rwa [e] at this
    · have r1 := plain_rises hp hc
      have e : leanW w c = (othW n c).filter fun x => decide (x ∈ leanW w c) := by
        refine rising_one r1 ((othW_rise n c).sublist List.filter_sublist) fun x => ?_
        rw [List.mem_filter, decide_eq_true_eq]
        constructor
        · intro hx
          refine ⟨?_, hx⟩
          obtain ⟨k, rfl, hk⟩ := range_of hp hc hx
          unfold othW
          refine List.mem_map.mpr ⟨k, List.mem_filter.mpr ⟨List.mem_range.mpr (by omega), ?_⟩, rfl⟩
          have : k ≠ c := fun z => plain_not hp hc (z ▸ hx)
          simp [this]
        · exact fun h => h.2
      rw [e]
      exact List.filter_sublist
end DV
namespace DV
open PySem L2
def restP (sz : List Int) (p : Nat → Bool) : Int := prodI (((List.range sz.length).filter p).map fun i => sz.getD i 0)
def keyU (L : List Int) (c : Nat) (r : List Int) : List Int × Int := (projR L r, r.getD c 0)
end DV
namespace DV
open PySem L2
def colsOk (n : Nat) (L : List Int) : Prop := ∀ c ∈ L, 0 ≤ c ∧ c < (n : Int)
def szA (sz cs : List Int) : List Int := cs.map fun c => sz.getD c.toNat 0
def putR (n : Nat) (b L u : List Int) : List Int := (List.range n).map fun (c : Nat) => if (c : Int) ∈ L then u.getD (L.idxOf (c : Int)) 0 else b.getD c 0
theorem sum_perm {l m : List Int} (h : l.Perm m) : l.sum = m.sum := by
  induction h with
  | nil => rfl
  | cons x _ ih => simp [ih]
  | swap x y l => simp; omega
  | trans _ _ i1 i2 => exact i1.trans i2
theorem sum_flat {α β : Type} (f : α → List β) (g : β → Int) : ∀ l : List α, ((l.flatMap f).map g).sum = (l.map fun x => ((f x).map g).sum).sum
  | [] => rfl
  | x :: l => by rw [List.flatMap_cons, List.map_append, List.sum_append, sum_flat f g l]; simp
def sumC (sz : List Int) (c : Nat) (g : List Int → Int) (r : List Int) : Int := ((List.range (sz.getD c 0).toNat).map fun (v : Nat) => g (r.set c (v : Int))).sum
def elimG (sz : List Int) : List Int → (List Int → Int) → List Int → Int
  | [], g => g
  | c :: cs, g => elimG sz cs (sumC sz c.toNat g)
def agr (n : Nat) (L r0 r : List Int) : Bool := (List.range n).all fun i => decide ((i : Int) ∈ L) || decide (r.getD i 0 = r0.getD i 0)
end DV
namespace DV
open PySem L2
structure Fac where
  cols : List Int
  V : List (List Int)
  phi : List Int → Int
  M : Int
  P : Int
structure FacOk (sz : List Int) (F : Fac) : Prop where
  rise : F.cols.Pairwise (· < ·)
  cin : colsOk sz.length F.cols
  nd : F.V.Nodup
  mem : ∀ v, v ∈ F.V ↔ okR v (szA sz F.cols) = true
  M1 : 1 ≤ F.M ∧ F.M ≤ F.P
  phi1 : ∀ v ∈ F.V, 1 ≤ F.phi v ∧ F.phi v ≤ F.P
def Psi (F : Fac) (r : List Int) : Int := F.phi (projR F.cols r)
def atV (L v : List Int) (c : Int) : Int := v.getD (L.idxOf c) 0
def fxAt (fx : List PI2) (c : Int) : Option Int := (fx.find? fun p => decide (p.1 = c)).map (·.2)
def fitQ (fx : List PI2) (r : List Int) : Bool := fx.all fun p => decide (r.getD p.1.toNat 0 = p.2)
structure PrsOk (sz : List Int) (fx : List PI2) : Prop where
  nd : (fx.map (·.1)).Nodup
  ok : ∀ p ∈ fx, 0 ≤ p.1 ∧ p.1 < (sz.length : Int) ∧ 0 ≤ p.2 ∧ p.2 < sz.getD p.1.toNat 0
def leftQ (fx : List PI2) (L : List Int) : List Int := L.filter fun c => (fxAt fx c).isNone
def consQ (fx : List PI2) (L v : List Int) : Bool := L.all fun c => match fxAt fx c with
  | some x => decide (atV L v c = x)
  | none => true
def fillQ (fx : List PI2) (L u : List Int) : List Int := L.map fun c => match fxAt fx c with
  | some x => x
  | none => atV (leftQ fx L) u c
def heldF (fx : List PI2) (F : Fac) : Fac where
  cols := leftQ fx F.cols
  V := (F.V.filter (consQ fx F.cols)).map fun v => (leftQ fx F.cols).map (atV F.cols v)
  phi := fun u => F.phi (fillQ fx F.cols u)
  M := F.M
  P := F.P
def mulF (sz : List Int) (F G : Fac) : Fac where
  cols := setI (F.cols ++ G.cols)
  V := rowsV (szA sz (setI (F.cols ++ G.cols)))
  phi := fun u => F.phi (F.cols.map (atV (setI (F.cols ++ G.cols)) u)) * G.phi (G.cols.map (atV (setI (F.cols ++ G.cols)) u))
  M := F.M * G.M
  P := F.P * G.P
end DV
namespace DV
open PySem L2
def nubE (L : List (List Int)) : List (List Int) := L.foldl (fun acc k => if k ∈ acc then acc else acc ++ [k]) []
def woF (F : Fac) (c : Int) : Fac where
  cols := F.cols.filter fun d => !decide (d = c)
  V := nubE (F.V.map fun v => v.eraseIdx (F.cols.idxOf c))
  phi := fun u => ((F.V.filter fun v => decide (v.eraseIdx (F.cols.idxOf c) = u)).map F.phi).sum
  M := F.M
  P := 4 * F.P
section
variable {sz : List Int} {F : Fac} {c : Int} (hsz : ∀ s ∈ sz, 2 ≤ s ∧ s ≤ 4) (h : FacOk sz F) (hc : c ∈ F.cols)
include h hc
include hsz
end
end DV
namespace DV
open PySem L2
def prodPsi (FL : List Fac) (r : List Int) : Int := prodI (FL.map fun F => Psi F r)
def hasC (c : Int) (F : Fac) : Bool := decide (c ∈ F.cols)
def stepF (sz : List Int) (c : Int) (FL : List Fac) : List Fac := match FL.filter (hasC c) with
  | [] => FL.filter fun F => !hasC c F
  | f :: fs => (FL.filter fun F => !hasC c F) ++ [woF (fs.foldl (mulF sz) f) c]
def massF (sz : List Int) : List Int → List Fac → List Fac
  | [], FL => FL
  | c :: cs, FL => massF sz cs (stepF sz c FL)
section
variable {sz : List Int}
structure LF (sz todo : List Int) (FL : List Fac) : Prop where
  ok : ∀ F ∈ FL, FacOk sz F
  sub : ∀ F ∈ FL, ∀ c ∈ F.cols, c ∈ todo
  has : ∀ c ∈ todo, ∃ F ∈ FL, c ∈ F.cols
variable (hsz : ∀ s ∈ sz, 2 ≤ s ∧ s ≤ 4) {c : Int} {cs : List Int} {FL : List Fac} (h : LF sz (c :: cs) FL)
include h in
include hsz h in
include h in
include h in
include h in
end
end DV
namespace DV
open PySem L2
abbrev insC (c : Nat) (L : List Int) : List Int := insP (insAt (c : Int) L) (c : Int) L
theorem prodI_perm {l m : List Int} (h : l.Perm m) : prodI l = prodI m := by
  induction h with
  | nil => rfl
  | cons x _ ih => rw [prodI_cons, prodI_cons, ih]
  | swap x y l => rw [prodI_cons, prodI_cons, prodI_cons, prodI_cons, Int.mul_left_comm]
  | trans _ _ i1 i2 => exact i1.trans i2
section
variable (G : List Int → Int)
def upG (v : Web) : Int := prodI ((List.range v.length).map fun c => G (insC c (leanW v c)))
def loG (v : Web) : Int := prodI ((List.range v.length).map fun c => G (leanW v c))
end
section
variable {κ μ : Type} [DecidableEq κ] [DecidableEq μ]
end
end DV
namespace DV
open PySem L2
section
variable {α β : Type}
theorem sumM_zero (l : List α) : (l.map fun _ => (0 : Int)).sum = 0 := by
  induction l with
  | nil => rfl
  | cons a l ih => simpa using ih
theorem sumM_add (f g : α → Int) : ∀ l : List α, (l.map fun x => f x + g x).sum = (l.map f).sum + (l.map g).sum
  | [] => rfl
  | a :: l => by simp only [List.map_cons, List.sum_cons, sumM_add f g l]; omega
theorem sumM_neg (f : α → Int) : ∀ l : List α, (l.map fun x => -f x).sum = -(l.map f).sum
  | [] => rfl
  | a :: l => by simp only [List.map_cons, List.sum_cons, sumM_neg f l]; omega
theorem sumM_mulr (f : α → Int) (k : Int) : ∀ l : List α, (l.map fun x => f x * k).sum = (l.map f).sum * k
  | [] => by simp
  | a :: l => by simp only [List.map_cons, List.sum_cons, sumM_mulr f k l, Int.add_mul]
theorem sumM_mull (f : α → Int) (k : Int) (l : List α) : (l.map fun x => k * f x).sum = k * (l.map f).sum := by
  rw [Int.mul_comm, ← sumM_mulr]
  exact congrArg List.sum (List.map_congr_left fun x _ => Int.mul_comm _ _)
theorem sumM_swap (f : α → β → Int) (m : List β) : ∀ l : List α, (l.map fun x => (m.map fun y => f x y).sum).sum = (m.map fun y => (l.map fun x => f x y).sum).sum
  | [] => by simp [sumM_zero]
  | a :: l => by
    rw [List.map_cons, List.sum_cons, sumM_swap f m l, ← sumM_add]
    rfl
theorem sumM_congr {f g : α → Int} {l : List α} (h : ∀ x ∈ l, f x = g x) : (l.map f).sum = (l.map g).sum := by rw [List.map_congr_left h]
theorem sumM_filter (p : α → Bool) (f : α → Int) : ∀ l : List α, (l.map fun x => (if p x = true then 1 else 0) * f x).sum = ((l.filter p).map f).sum
  | [] => rfl
  | a :: l => by
    rw [List.map_cons, List.sum_cons, sumM_filter p f l, List.filter_cons]
    by_cases h : p a = true
    · rw [if_pos h, if_pos h, List.map_cons, List.sum_cons, Int.one_mul]
    · rw [if_neg h, if_neg h, Int.zero_mul, Int.zero_add]
end
def subL : List Nat → List (List Nat)
  | [] => [[]]
  | a :: l => subL l ++ (subL l).map (a :: ·)
def sgnL : List Nat → Int
  | [] => 1
  | _ :: u => -sgnL u
theorem sgn_sum : ∀ {l : List Nat}, l ≠ [] → ((subL l).map sgnL).sum = 0
  | [], h => absurd rfl h
  | a :: l, _ => by
    rw [subL, List.map_append, List.sum_append, List.map_map]
    have : (List.map (sgnL ∘ fun x => a :: x) (subL l)) = (subL l).map fun u => -sgnL u := rfl
    rw [this, sumM_neg]
    omega
theorem subL_filter (p : Nat → Bool) : ∀ l : List Nat, (subL l).filter (fun u => u.all p) = subL (l.filter p)
  | [] => rfl
  | a :: l => by
    rw [subL, List.filter_append, subL_filter p l, List.filter_cons, List.filter_map]
    have e : ((fun u : List Nat => u.all p) ∘ fun x => a :: x) = fun u => p a && u.all p := by
      funext u
      simp
    rw [e]
    by_cases h : p a = true
    · rw [if_pos h, subL, h]
      simp only [Bool.true_and]
      rw [subL_filter p l]
    · have h' : p a = false := by simpa using h
      rw [if_neg h, h']
      simp
theorem subL_sub : ∀ {l u : List Nat}, u ∈ subL l → u.Sublist l
  | [], u, h => by rw [subL, List.mem_singleton] at h; subst h; exact List.Sublist.refl _
  | a :: l, u, h => by
    rw [subL, List.mem_append] at h
    rcases h with h | h
    · exact (subL_sub h).cons a
    · obtain ⟨v, hv, rfl⟩ := List.mem_map.mp h
      exact (subL_sub hv).cons_cons a
def mI (S : List Nat) : List Int := S.map fun (k : Nat) => (k : Int)
def chS (S : List Nat) (k : Nat) : List (List Int) := if k ∈ S then subsU (mI (S.filter fun d => !decide (d = k))) else [[]]
def websS (S : List Nat) : Nat → List Web
  | 0 => [[]]
  | k + 1 => (websS S k).flatMap fun w => (chS S k).map fun l => w ++ [l]
theorem subsU_filter (p : Int → Bool) : ∀ cs : List Int, (subsU cs).filter (fun l => l.all p) = subsU (cs.filter p) := by
  intro cs
  generalize hn : cs.length = n
  induction n generalizing cs with
  | zero => rw [List.length_eq_zero_iff.mp hn]; rfl
  | succ n ih =>
    have hne : cs ≠ [] := fun z => by rw [z] at hn; cases hn
    obtain ⟨ds, c, rfl⟩ : ∃ ds c, cs = ds ++ [c] := ⟨cs.dropLast, cs.getLast hne, (List.dropLast_concat_getLast hne).symm⟩
    have ih' := ih ds (by simpa using hn)
    rw [subsU_snoc, List.filter_append, ih', List.filter_append, List.filter_map]
    have e : ((fun l : List Int => l.all p) ∘ fun l => l ++ [c]) = fun l => l.all p && p c := by
      funext l
      simp
    rw [e]
    by_cases h : p c = true
    · rw [List.filter_cons, if_pos h, List.filter_nil, subsU_snoc, h]
      simp only [Bool.and_true]
      rw [ih']
    · have h' : p c = false := by simpa using h
      rw [List.filter_cons, if_neg h, List.filter_nil, List.append_nil, h']
      simp
def freeB (U : List Nat) (l : List Int) : Bool := l.all fun x => !inN U x
def lastB (U : List Nat) (w : Web) : Bool := w.all (freeB U)
def cutW (U : List Nat) (w : Web) : Web := (List.range w.length).map fun c => if c ∈ U then [] else leanW w c
def dropL (S U : List Nat) : List Nat := S.filter fun d => !decide (d ∈ U)
def prodG (g : Nat → List Int → Int) (S : List Nat) (w : Web) (k : Nat) : Int := prodI ((List.range k).map fun c => if c ∈ S then g c (leanW w c) else 1)
def sigG (g : Nat → List Int → Int) (R : List Nat) (c : Nat) : Int := ((subsU (mI R)).map (g c)).sum
theorem lean_app {w : Web} {l : List Int} {c : Nat} (h : c < w.length) : leanW (w ++ [l]) c = leanW w c := by
  unfold leanW
  rw [List.getD_eq_getElem?_getD, List.getElem?_append_left h, ← List.getD_eq_getElem?_getD]
theorem lean_last (w : Web) (l : List Int) : leanW (w ++ [l]) w.length = l := by
  unfold leanW
  rw [List.getD_eq_getElem?_getD, List.getElem?_append_right (Nat.le_refl _), Nat.sub_self]
  rfl
theorem cut_snoc (U : List Nat) (w : Web) (l : List Int) : cutW U (w ++ [l]) = cutW U w ++ [if w.length ∈ U then [] else l] := by
  unfold cutW
  rw [List.length_append, List.length_singleton, List.range_succ, List.map_append]
  congr 1
  · refine List.map_congr_left fun c hc => ?_
    rw [lean_app (List.mem_range.mp hc)]
  · simp only [List.map_cons, List.map_nil, lean_last]
theorem prodG_snoc (g : Nat → List Int → Int) (S : List Nat) (w : Web) (l : List Int) : prodG g S (w ++ [l]) (w.length + 1) = prodG g S w w.length * (if w.length ∈ S then g w.length l else 1) := by
  unfold prodG
  rw [List.range_succ, List.map_append, prodI_app]
  congr 1
  · congr 1
    refine List.map_congr_left fun c hc => ?_
    rw [lean_app (List.mem_range.mp hc)]
  · simp only [List.map_cons, List.map_nil, lean_last, prodI_cons]
    show _ * 1 = _
    rw [Int.mul_one]
theorem websS_len {S : List Nat} : ∀ {k : Nat} {w : Web}, w ∈ websS S k → w.length = k
  | 0, w, h => by rw [websS, List.mem_singleton] at h; rw [h]; rfl
  | k + 1, w, h => by
    rw [websS] at h
    obtain ⟨v, hv, h⟩ := List.mem_flatMap.mp h
    obtain ⟨l, _, rfl⟩ := List.mem_map.mp h
    rw [List.length_append, websS_len hv]; rfl
theorem free_filter {S U : List Nat} : (mI S).filter (fun x => !inN U x) = mI (dropL S U) := by
  unfold mI dropL
  rw [List.filter_map]
  congr 1
  refine List.filter_congr fun d _ => ?_
  show (!inN U ((d : Nat) : Int)) = _
  congr 1
  unfold inN
  rw [decide_eq_decide]
  constructor
  · intro h
    obtain ⟨k, hk, e⟩ := List.mem_map.mp h
    have : k = d := Int.ofNat.inj e
    exact this ▸ hk
  · exact fun h => List.mem_map.mpr ⟨d, h, rfl⟩
theorem ch_free {S U : List Nat} {k : Nat} (hk : k ∈ S) : (chS S k).filter (freeB U) = if k ∈ U then subsU (mI (dropL S U)) else chS (dropL S U) k := by
  unfold chS
  rw [if_pos hk]
  have e : (subsU (mI (S.filter fun d => !decide (d = k)))).filter (freeB U) = subsU (mI (dropL (S.filter fun d => !decide (d = k)) U)) := by
    rw [← free_filter, ← subsU_filter]
    rfl
  rw [e]
  by_cases hu : k ∈ U
  · rw [if_pos hu]
    congr 2
    unfold dropL
    rw [List.filter_filter]
    refine List.filter_congr fun d _ => ?_
    by_cases hd : d = k
    · subst hd; simp [hu]
    · simp [hd]
  · have hm : k ∈ dropL S U := List.mem_filter.mpr ⟨hk, by simp [hu]⟩
    rw [if_neg hu, if_pos hm]
    congr 2
    unfold dropL
    rw [List.filter_filter, List.filter_filter]
    exact List.filter_congr fun d _ => Bool.and_comm _ _
theorem drop_mem {S U : List Nat} {k : Nat} : k ∈ dropL S U ↔ k ∈ S ∧ k ∉ U := by
  unfold dropL
  rw [List.mem_filter]
  simp
theorem split_sum (g : Nat → List Int → Int) {S U : List Nat} (hU : ∀ u ∈ U, u ∈ S) : ∀ (k : Nat) (Φ : Web → Int),
    ((websS S k).map fun w => (if lastB U w = true then 1 else 0) * (Φ (cutW U w) * prodG g S w k)).sum = ((websS (dropL S U) k).map fun v => Φ v * prodG g (dropL S U) v k).sum * prodI (((List.range k).filter fun c => decide (c ∈ U)).map fun c => sigG g (dropL S U) c)
  | 0, Φ => by
    simp only [websS, List.map_cons, List.map_nil, List.range_zero, List.filter_nil]
    show (1 * (Φ [] * prodI []) + 0 : Int) = (Φ [] * prodI [] + 0) * prodI []
    show (1 * (Φ [] * 1) + 0 : Int) = (Φ [] * 1 + 0) * 1
    omega
  | k + 1, Φ => by
    have ih := split_sum g hU k
    rw [websS, sum_flat]
    have e1 : ((websS S k).map fun w => (((chS S k).map fun l => w ++ [l]).map fun w => (if lastB U w = true then (1 : Int) else 0) * (Φ (cutW U w) * prodG g S w (k + 1))).sum).sum
        = ((chS S k).map fun l => (if freeB U l = true then 1 else 0) * ((if k ∈ S then g k l else 1) * ((websS S k).map fun w => (if lastB U w = true then 1 else 0) * ((fun v => Φ (v ++ [if k ∈ U then [] else l])) (cutW U w) * prodG g S w k)).sum)).sum := by
      rw [show ((websS S k).map fun w => (((chS S k).map fun l => w ++ [l]).map fun w => (if lastB U w = true then (1 : Int) else 0) * (Φ (cutW U w) * prodG g S w (k + 1))).sum) = (websS S k).map fun w => ((chS S k).map fun l => (if lastB U (w ++ [l]) = true then (1 : Int) else 0) * (Φ (cutW U (w ++ [l])) * prodG g S (w ++ [l]) (k + 1))).sum from List.map_congr_left fun w _ => by rw [List.map_map]; rfl]
      rw [sumM_swap]
      refine sumM_congr fun l _ => ?_
      rw [← sumM_mull, ← sumM_mull]
      refine sumM_congr fun w hw => ?_
      have hl := websS_len hw
      have e2 : lastB U (w ++ [l]) = (lastB U w && freeB U l) := by unfold lastB; simp
      rw [e2, cut_snoc, hl]
      have e3 := prodG_snoc g S w l
      rw [hl] at e3
      rw [e3]
      by_cases h1 : lastB U w = true
      · by_cases h2 : freeB U l = true
        · simp only [h1, h2, Bool.and_self, if_true, Int.one_mul]
          rw [← Int.mul_assoc, Int.mul_comm]
        · have h2' : freeB U l = false := by simpa using h2
          simp [h1, h2']
      · have h1' : lastB U w = false := by simpa using h1
        simp [h1']
    rw [e1, sumM_filter]
    have e4 : ∀ L : List (List Int), (L.map fun l => (if k ∈ S then g k l else 1) * ((websS S k).map fun w => (if lastB U w = true then (1 : Int) else 0) * ((fun v => Φ (v ++ [if k ∈ U then [] else l])) (cutW U w) * prodG g S w k)).sum).sum = (L.map fun l => (if k ∈ S then g k l else 1) * ((websS (dropL S U) k).map fun v => Φ (v ++ [if k ∈ U then [] else l]) * prodG g (dropL S U) v k).sum).sum * prodI (((List.range k).filter fun c => decide (c ∈ U)).map fun c => sigG g (dropL S U) c) := by
      intro L
      rw [← sumM_mulr]
      refine sumM_congr fun l _ => ?_
      rw [ih (fun v => Φ (v ++ [if k ∈ U then [] else l])), Int.mul_assoc]
    rw [e4]
    have e5 : ((websS (dropL S U) (k + 1)).map fun v => Φ v * prodG g (dropL S U) v (k + 1)).sum = ((chS (dropL S U) k).map fun l => (if k ∈ dropL S U then g k l else 1) * ((websS (dropL S U) k).map fun v => Φ (v ++ [l]) * prodG g (dropL S U) v k).sum).sum := by
      rw [websS, sum_flat]
      rw [show ((websS (dropL S U) k).map fun w => (((chS (dropL S U) k).map fun l => w ++ [l]).map fun v => Φ v * prodG g (dropL S U) v (k + 1)).sum) = (websS (dropL S U) k).map fun w => ((chS (dropL S U) k).map fun l => Φ (w ++ [l]) * prodG g (dropL S U) (w ++ [l]) (k + 1)).sum from List.map_congr_left fun w _ => by rw [List.map_map]; rfl]
      rw [sumM_swap]
      refine sumM_congr fun l _ => ?_
      rw [← sumM_mull]
      refine sumM_congr fun w hw => ?_
      have hl := websS_len hw
      have e3 := prodG_snoc g (dropL S U) w l
      rw [hl] at e3
      rw [e3, ← Int.mul_assoc, Int.mul_comm]
    have er : (List.range (k + 1)).filter (fun c => decide (c ∈ U)) = (List.range k).filter (fun c => decide (c ∈ U)) ++ if k ∈ U then [k] else [] := by
      rw [List.range_succ, List.filter_append, List.filter_cons, List.filter_nil]
      by_cases h : k ∈ U <;> simp [h]
    rw [e5, er, List.map_append, prodI_app]
    by_cases hu : k ∈ U
    · have hs := hU k hu
      have hr : k ∉ dropL S U := fun z => (drop_mem.mp z).2 hu
      have ec : chS (dropL S U) k = [[]] := by unfold chS; rw [if_neg hr]
      rw [ch_free hs, if_pos hu, ec]
      simp only [hu, hs, hr, if_true, if_false, List.map_cons, List.map_nil, List.sum_cons, List.sum_nil, prodI_cons]
      rw [sumM_mulr]
      show sigG g (dropL S U) k * _ * _ = _
      show _ = (1 * _ + 0) * (_ * (_ * 1))
      rw [Int.one_mul, Int.add_zero, Int.mul_one, Int.mul_comm (sigG g (dropL S U) k), Int.mul_assoc, Int.mul_comm (sigG g (dropL S U) k)]
    · rw [if_neg hu, List.map_nil]
      show _ = _ * (_ * 1)
      rw [Int.mul_one]
      congr 1
      by_cases hs : k ∈ S
      · have hr : k ∈ dropL S U := drop_mem.mpr ⟨hs, hu⟩
        rw [ch_free hs, if_neg hu]
        simp only [hs, hr, hu, if_true, if_false]
      · have hr : k ∉ dropL S U := fun z => hs (drop_mem.mp z).1
        have ec : chS (dropL S U) k = [[]] := by unfold chS; rw [if_neg hr]
        have ec2 : chS S k = [[]] := by unfold chS; rw [if_neg hs]
        rw [ec, ec2]
        simp only [hs, hr, hu, if_false]
        rfl
end DV
namespace DV
open PySem L2
def rB (w : Web) : Int := if ringlessW w = true then 1 else 0
def totS (g : Nat → List Int → Int) (n : Nat) (S : List Nat) : Int := ((websS S n).map fun w => rB w * prodG g S w n).sum
theorem websS_each {S : List Nat} : ∀ {k : Nat} {w : Web}, w ∈ websS S k → ∀ c, c < k → leanW w c ∈ chS S c
  | 0, w, h, c, hc => absurd hc (by omega)
  | k + 1, w, h, c, hc => by
    rw [websS] at h
    obtain ⟨v, hv, h⟩ := List.mem_flatMap.mp h
    obtain ⟨l, hl, rfl⟩ := List.mem_map.mp h
    have hvl := websS_len hv
    by_cases e : c < k
    · rw [lean_app (by omega)]; exact websS_each hv c e
    · have : c = v.length := by omega
      subst this
      rw [lean_last, hvl]
      exact hl
theorem ch_in {S : List Nat} {c : Nat} {l : List Int} (h : l ∈ chS S c) (hc : c ∈ S) : l.Sublist (mI (S.filter fun d => !decide (d = c))) := by
  unfold chS at h
  rw [if_pos hc] at h
  exact subsU_sub h
theorem ch_out {S : List Nat} {c : Nat} {l : List Int} (h : l ∈ chS S c) (hc : c ∉ S) : l = [] := by
  unfold chS at h
  rw [if_neg hc, List.mem_singleton] at h
  exact h
theorem websS_oth {S : List Nat} {n : Nat} (hS : S.Sublist (List.range n)) {w : Web} (h : w ∈ websS S n) : ∀ c, c < n → (leanW w c).Sublist (othW n c) := fun c hc => by
  have h1 := websS_each h c hc
  by_cases hs : c ∈ S
  · exact (ch_in h1 hs).trans ((hS.filter _).map _)
  · rw [ch_out h1 hs]; exact List.nil_sublist _
theorem websS_plain {S : List Nat} {n : Nat} (h1 : 1 ≤ n) (h6 : n ≤ 6) (hS : S.Sublist (List.range n)) {w : Web} (h : w ∈ websS S n) : plainW w = true := by
  have hl := websS_len h
  have := webs_all (n := n) (w := w) (fun c hc => websS_oth hS h c (by omega)) n (by omega)
  rw [← hl, List.take_length] at this
  rw [hl] at this
  exact (webs_plain h1 h6 this).1
theorem max_inR {rk : Nat → Nat} : ∀ l : List Nat, l ≠ [] → ∃ c ∈ l, ∀ k ∈ l, rk k ≤ rk c
  | [], h => absurd rfl h
  | [c], _ => ⟨c, by simp, fun k hk => by rw [List.mem_singleton.mp hk]; exact Nat.le_refl _⟩
  | c :: d :: l, _ => by
    obtain ⟨m, hm, hmin⟩ := max_inR (rk := rk) (d :: l) (by simp)
    by_cases h : rk m ≤ rk c
    · exact ⟨c, by simp, fun k hk => by
        rcases List.mem_cons.mp hk with rfl | hk
        · exact Nat.le_refl _
        · exact Nat.le_trans (hmin k hk) h⟩
    · exact ⟨m, List.mem_cons_of_mem _ hm, fun k hk => by
        rcases List.mem_cons.mp hk with rfl | hk
        · omega
        · exact hmin k hk⟩
theorem free_iff {U : List Nat} {l : List Int} : freeB U l = true ↔ ∀ u ∈ U, ((u : Nat) : Int) ∉ l := by
  unfold freeB
  rw [List.all_eq_true]
  constructor
  · intro h u hu hm
    have := h _ hm
    unfold inN at this
    rw [Bool.not_eq_true', decide_eq_false_iff_not] at this
    exact this (List.mem_map.mpr ⟨u, hu, rfl⟩)
  · intro h x hx
    unfold inN
    rw [Bool.not_eq_true', decide_eq_false_iff_not]
    intro z
    obtain ⟨u, hu, rfl⟩ := List.mem_map.mp z
    exact h u hu hx
theorem last_iff {U : List Nat} {w : Web} : lastB U w = true ↔ ∀ c, c < w.length → ∀ u ∈ U, ((u : Nat) : Int) ∉ leanW w c := by
  unfold lastB
  rw [List.all_eq_true]
  constructor
  · intro h c hc
    have : leanW w c ∈ w := by
      unfold leanW
      rw [List.getD_eq_getElem?_getD, List.getElem?_eq_getElem hc]
      exact List.getElem_mem hc
    exact free_iff.mp (h _ this)
  · intro h l hl
    obtain ⟨c, hc, rfl⟩ := List.mem_iff_getElem.mp hl
    have : leanW w c = w[c] := by
      unfold leanW
      rw [List.getD_eq_getElem?_getD, List.getElem?_eq_getElem hc]; rfl
    rw [← this]
    exact free_iff.mpr (h c hc)
theorem last_all {U : List Nat} {w : Web} : lastB U w = U.all fun u => lastB [u] w := by
  rw [Bool.eq_iff_iff, List.all_eq_true, last_iff]
  constructor
  · exact fun h u hu => last_iff.mpr fun c hc v hv => by rw [List.mem_singleton.mp hv]; exact h c hc u hu
  · exact fun h c hc u hu => last_iff.mp (h u hu) c hc u (by simp)
theorem last_there {S : List Nat} {n : Nat} (hn : S ≠ []) (hS : S.Sublist (List.range n)) {w : Web} (h : w ∈ websS S n) (hr : ringlessW w = true) : ∃ z ∈ S, lastB [z] w = true := by
  have rk := rank_of hr
  obtain ⟨z, hz, hm⟩ := max_inR (rk := fun c => ((List.range (w.length + 1)).filter (latW w c)).length) S hn
  refine ⟨z, hz, last_iff.mpr fun c hc u hu hx => ?_⟩
  rw [List.mem_singleton.mp hu] at hx
  have hl := websS_len h
  by_cases hs : c ∈ S
  · have a := rk c hc z hx
    have b := hm c hs
    dsimp only at a b
    omega
  · rw [ch_out (websS_each h c (by omega)) hs] at hx
    cases hx
theorem cut_len (U : List Nat) (w : Web) : (cutW U w).length = w.length := by simp [cutW]
theorem cut_lean {U : List Nat} {w : Web} {c : Nat} (hc : c < w.length) : leanW (cutW U w) c = if c ∈ U then [] else leanW w c := by
  have e : leanW (cutW U w) c = (cutW U w)[c]'(by rw [cut_len]; exact hc) := by
    unfold leanW
    rw [List.getD_eq_getElem?_getD, List.getElem?_eq_getElem (by rw [cut_len]; exact hc)]; rfl
  rw [e]
  simp only [cutW, List.getElem_map, List.getElem_range]
theorem cut_ringless {U : List Nat} {w : Web} (hp : plainW w = true) (hu : lastB U w = true) : ringlessW (cutW U w) = ringlessW w := by
  rw [Bool.eq_iff_iff]
  constructor
  · intro h
    have rk := rank_of h
    have hl := last_iff.mp hu
    have hb : ∀ c, ((List.range ((cutW U w).length + 1)).filter (latW (cutW U w) c)).length ≤ w.length + 1 := fun c => by
      have := List.length_filter_le (latW (cutW U w) c) (List.range ((cutW U w).length + 1))
      rw [List.length_range, cut_len] at this
      rw [cut_len]
      exact this
    refine ringless_of hp (rk := fun c => if c ∈ U then w.length + 2 else ((List.range ((cutW U w).length + 1)).filter (latW (cutW U w) c)).length) fun c hc k hk => ?_
    have hku : k ∉ U := fun z => hl c hc k z hk
    dsimp only
    rw [if_neg hku]
    by_cases hcu : c ∈ U
    · rw [if_pos hcu]
      have := hb k
      omega
    · rw [if_neg hcu]
      exact rk c (by rw [cut_len]; exact hc) k (by rw [cut_lean hc, if_neg hcu]; exact hk)
  · intro h
    refine ringless_less (cut_len U w) (fun c hc x hx => ?_) h
    rw [cut_lean hc] at hx
    split at hx
    · cases hx
    · exact hx
theorem sign_last {S : List Nat} {n : Nat} (h1 : 1 ≤ n) (h6 : n ≤ 6) (hn : S ≠ []) (hS : S.Sublist (List.range n)) {w : Web} (h : w ∈ websS S n) :
    ((subL S).map fun U => sgnL U * ((if lastB U w = true then 1 else 0) * rB (cutW U w))).sum = 0 := by
  have hp := websS_plain h1 h6 hS h
  have e : ∀ U ∈ subL S, sgnL U * ((if lastB U w = true then 1 else 0) * rB (cutW U w)) = (if (U.all fun u => lastB [u] w) = true then 1 else 0) * sgnL U * rB w := fun U _ => by
    rw [← last_all]
    by_cases hu : lastB U w = true
    · rw [if_pos hu, Int.one_mul, Int.one_mul]
      unfold rB
      rw [cut_ringless hp hu]
    · rw [if_neg hu]; simp
  rw [sumM_congr e, sumM_mulr, sumM_filter, subL_filter]
  by_cases hr : ringlessW w = true
  · obtain ⟨z, hz, hl⟩ := last_there hn hS h hr
    rw [sgn_sum, Int.zero_mul]
    intro hz'
    have : z ∈ S.filter fun u => lastB [u] w := List.mem_filter.mpr ⟨hz, hl⟩
    rw [hz'] at this
    cases this
  · unfold rB
    rw [if_neg hr, Int.mul_zero]
theorem range_in {U : List Nat} {n : Nat} (h : U.Sublist (List.range n)) : (List.range n).filter (fun c => decide (c ∈ U)) = U := by
  have hn : (List.range n).Nodup := List.nodup_range
  generalize List.range n = R at h hn
  induction h with
  | slnil => rfl
  | @cons U R a h ih =>
    rw [List.nodup_cons] at hn
    rw [List.filter_cons, if_neg (by simpa using fun z => hn.1 (h.subset z))]
    exact ih hn.2
  | @cons_cons U R a h ih =>
    rw [List.nodup_cons] at hn
    rw [List.filter_cons, if_pos (by simp)]
    congr 1
    rw [← ih hn.2]
    refine List.filter_congr fun c hc => ?_
    have : c ≠ a := fun z => hn.1 (z ▸ hc)
    rw [ih hn.2]
    simp [this]
theorem incl_excl (g : Nat → List Int → Int) {S : List Nat} {n : Nat} (h1 : 1 ≤ n) (h6 : n ≤ 6) (hn : S ≠ []) (hS : S.Sublist (List.range n)) :
    ((subL S).map fun U => sgnL U * (totS g n (dropL S U) * prodI (U.map fun c => sigG g (dropL S U) c))).sum = 0 := by
  have e : ∀ U ∈ subL S, sgnL U * (totS g n (dropL S U) * prodI (U.map fun c => sigG g (dropL S U) c)) = ((websS S n).map fun w => sgnL U * ((if lastB U w = true then 1 else 0) * rB (cutW U w)) * prodG g S w n).sum := fun U hU => by
    have hs := subL_sub hU
    have := split_sum g (S := S) (U := U) (fun u hu => hs.subset hu) n rB
    rw [range_in (hs.trans hS)] at this
    unfold totS
    rw [← this, ← sumM_mull]
    refine sumM_congr fun w _ => ?_
    simp only [Int.mul_assoc]
  rw [sumM_congr e, sumM_swap]
  rw [show ((websS S n).map fun w => ((subL S).map fun U => sgnL U * ((if lastB U w = true then 1 else 0) * rB (cutW U w)) * prodG g S w n).sum) = (websS S n).map fun _ => (0 : Int) from List.map_congr_left fun w hw => by rw [sumM_mulr, sign_last h1 h6 hn hS hw, Int.zero_mul]]
  exact sumM_zero _
theorem subL_head : ∀ l : List Nat, ∃ t, subL l = [] :: t
  | [] => ⟨[], rfl⟩
  | a :: l => by
    obtain ⟨t, e⟩ := subL_head l
    exact ⟨t ++ (subL l).map (a :: ·), by rw [subL, e]; rfl⟩
theorem drop_nil (S : List Nat) : dropL S [] = S := by
  unfold dropL
  rw [List.filter_eq_self]
  intro a _
  simp
theorem tot_step (g : Nat → List Int → Int) {S : List Nat} {n : Nat} (h1 : 1 ≤ n) (h6 : n ≤ 6) (hn : S ≠ []) (hS : S.Sublist (List.range n)) :
    totS g n S = (((subL S).tail).map fun U => -sgnL U * (totS g n (dropL S U) * prodI (U.map fun c => sigG g (dropL S U) c))).sum := by
  have h := incl_excl g h1 h6 hn hS
  obtain ⟨t, e⟩ := subL_head S
  rw [e, List.map_cons, List.sum_cons, drop_nil] at h
  rw [e, List.tail_cons]
  have : (t.map fun U => -sgnL U * (totS g n (dropL S U) * prodI (U.map fun c => sigG g (dropL S U) c))).sum = -(t.map fun U => sgnL U * (totS g n (dropL S U) * prodI (U.map fun c => sigG g (dropL S U) c))).sum := by
    rw [← sumM_neg]
    exact sumM_congr fun U _ => by rw [Int.neg_mul]
  rw [this]
  have h0 : sgnL [] * (totS g n S * prodI (([] : List Nat).map fun c => sigG g S c)) = totS g n S := by
    show 1 * (_ * 1) = _
    omega
  rw [h0] at h
  omega
theorem websS_nil : ∀ n, websS [] n = [List.replicate n []]
  | 0 => rfl
  | n + 1 => by
    rw [websS, websS_nil n]
    have : chS [] n = [[]] := rfl
    rw [this, List.replicate_succ']
    rfl
theorem tot_nil (g : Nat → List Int → Int) {n : Nat} (h1 : 1 ≤ n) (h6 : n ≤ 6) : totS g n [] = 1 := by
  unfold totS
  rw [websS_nil]
  have hm : List.replicate n [] ∈ websS [] n := by rw [websS_nil]; simp
  have hp := websS_plain h1 h6 (List.nil_sublist _) hm
  have hr : ringlessW (List.replicate n ([] : List Int)) = true := ringless_of hp (rk := fun _ => 0) fun c hc k hk => by
    have := ch_out (websS_each hm c (by simpa using hc)) (by simp)
    rw [this] at hk
    cases hk
  have hg : prodG g [] (List.replicate n []) n = 1 := by
    unfold prodG
    rw [show ((List.range n).map fun c => if c ∈ ([] : List Nat) then g c (leanW (List.replicate n []) c) else 1) = (List.range n).map fun _ => (1 : Int) from List.map_congr_left fun c _ => by simp]
    generalize List.range n = R
    induction R with
    | nil => rfl
    | cons a R ih => rw [List.map_cons, prodI_cons, ih]; rfl
  unfold rB
  rw [List.map_cons, hr, hg]
  rfl
theorem prodI_nn : ∀ {l : List Int}, (∀ x ∈ l, 0 ≤ x) → 0 ≤ prodI l
  | [], _ => by show (0 : Int) ≤ 1; omega
  | a :: l, h => by
    rw [prodI_cons]
    exact Int.mul_nonneg (h a (by simp)) (prodI_nn fun x hx => h x (by simp [hx]))
theorem prodI_mono {α : Type} {f h : α → Int} : ∀ {l : List α}, (∀ x ∈ l, 0 ≤ f x ∧ f x ≤ h x) → prodI (l.map f) ≤ prodI (l.map h)
  | [], _ => Int.le_refl _
  | a :: l, e => by
    rw [List.map_cons, List.map_cons, prodI_cons, prodI_cons]
    have h1 := e a (by simp)
    have h2 := prodI_mono (l := l) fun x hx => e x (by simp [hx])
    have h3 : 0 ≤ prodI (l.map f) := prodI_nn fun y hy => by
      obtain ⟨x, hx, rfl⟩ := List.mem_map.mp hy
      exact (e x (by simp [hx])).1
    exact Int.mul_le_mul h1.2 h2 h3 (by omega)
theorem sum_nnG {α : Type} {f : α → Int} : ∀ {l : List α}, (∀ x ∈ l, 0 ≤ f x) → 0 ≤ (l.map f).sum
  | [], _ => Int.le_refl _
  | a :: l, h => by
    rw [List.map_cons, List.sum_cons]
    have := sum_nnG (l := l) fun x hx => h x (by simp [hx])
    have := h a (by simp)
    omega
theorem sum_leG {α : Type} {f h : α → Int} : ∀ {l : List α}, (∀ x ∈ l, f x ≤ h x) → (l.map f).sum ≤ (l.map h).sum
  | [], _ => Int.le_refl _
  | a :: l, e => by
    rw [List.map_cons, List.map_cons, List.sum_cons, List.sum_cons]
    have h1 := e a (by simp)
    have h2 := sum_leG (l := l) fun x hx => e x (by simp [hx])
    omega
theorem sum_filter_le {α : Type} (p : α → Bool) {f : α → Int} {l : List α} (h : ∀ x ∈ l, 0 ≤ f x) : ((l.filter p).map f).sum ≤ (l.map f).sum := by
  rw [← sumM_filter]
  refine sum_leG fun x hx => ?_
  have := h x hx
  split <;> omega
theorem prod_sum (g : Nat → List Int → Int) (S : List Nat) : ∀ k, ((websS S k).map fun w => prodG g S w k).sum = prodI ((List.range k).map fun c => if c ∈ S then ((chS S c).map (g c)).sum else 1)
  | 0 => rfl
  | k + 1 => by
    rw [websS, sum_flat, List.range_succ, List.map_append, prodI_app, ← prod_sum g S k, ← sumM_mulr]
    refine sumM_congr fun w hw => ?_
    have hl := websS_len hw
    rw [List.map_map, show ((fun w => prodG g S w (k + 1)) ∘ fun l => w ++ [l]) = fun l => prodG g S w k * (if k ∈ S then g k l else 1) from funext fun l => by
      have e3 := prodG_snoc g S w l
      rw [hl] at e3
      exact e3]
    rw [sumM_mull]
    congr 1
    rw [List.map_cons, List.map_nil, prodI_cons]
    show _ = _ * 1
    rw [Int.mul_one]
    by_cases hs : k ∈ S
    · simp only [hs, if_true]
    · simp only [hs, if_false]
      unfold chS
      rw [if_neg hs]
      rfl
theorem sig_le {g : Nat → List Int → Int} (hg : ∀ c l, 0 ≤ g c l) {R T : List Nat} (p : Nat → Bool) (h : R = T.filter p) (c : Nat) : sigG g R c ≤ sigG g T c := by
  unfold sigG
  have : mI R = (mI T).filter fun x => decide (x ∈ mI R) := by
    rw [h]
    unfold mI
    rw [List.filter_map]
    congr 1
    refine List.filter_congr fun d hd => ?_
    show p d = decide (((d : Nat) : Int) ∈ (T.filter p).map fun (k : Nat) => (k : Int))
    rw [Bool.eq_iff_iff, decide_eq_true_eq]
    constructor
    · exact fun e => List.mem_map.mpr ⟨d, List.mem_filter.mpr ⟨hd, e⟩, rfl⟩
    · intro e
      obtain ⟨k, hk, ek⟩ := List.mem_map.mp e
      have : k = d := Int.ofNat.inj ek
      subst this
      exact (List.mem_filter.mp hk).2
  rw [this, ← subsU_filter]
  exact sum_filter_le _ fun l _ => hg c l
theorem tot_bound {g : Nat → List Int → Int} (hg : ∀ c l, 0 ≤ g c l) {S : List Nat} {n : Nat} (hS : S.Sublist (List.range n)) : 0 ≤ totS g n S ∧ totS g n S ≤ prodI (S.map fun c => sigG g (List.range n) c) := by
  have hp : ∀ w : Web, 0 ≤ prodG g S w n := fun w => prodI_nn fun x hx => by
    obtain ⟨c, _, rfl⟩ := List.mem_map.mp hx
    split
    · exact hg _ _
    · omega
  constructor
  · refine sum_nnG fun w _ => ?_
    unfold rB
    have := hp w
    split <;> omega
  · refine Int.le_trans (sum_leG (h := fun w => prodG g S w n) fun w _ => ?_) ?_
    · unfold rB
      have := hp w
      split <;> omega
    · rw [prod_sum]
      have e : prodI ((List.range n).map fun c => if c ∈ S then ((chS S c).map (g c)).sum else 1) = prodI (S.map fun c => ((chS S c).map (g c)).sum) := by
        have key : ∀ R : List Nat, prodI (R.map fun c => if c ∈ S then ((chS S c).map (g c)).sum else 1) = prodI ((R.filter fun c => decide (c ∈ S)).map fun c => ((chS S c).map (g c)).sum) := by
          intro R
          induction R with
          | nil => rfl
          | cons a R ih =>
            rw [List.map_cons, prodI_cons, ih, List.filter_cons]
            by_cases h : a ∈ S
            · rw [if_pos h, if_pos (by simpa using h), List.map_cons, prodI_cons]
            · rw [if_neg h, if_neg (by simpa using h), Int.one_mul]
        rw [key, range_in hS]
      rw [e]
      refine prodI_mono fun c hc => ⟨sum_nnG fun l _ => hg c l, ?_⟩
      unfold chS
      rw [if_pos hc]
      have hc' := range_in hS
      refine sig_le hg (R := S.filter fun d => !decide (d = c)) (T := List.range n) (fun d => decide (d ∈ S) && !decide (d = c)) ?_ c
      conv => lhs; rw [← hc']
      rw [List.filter_filter]
      refine List.filter_congr fun d _ => ?_
      exact Bool.and_comm _ _
end DV
namespace DV
open PySem L2
def memN (n m : Nat) : List Nat := (List.range n).filter fun c => m.testBit c
def seqF (m : Nat) : Nat → Nat → List Nat
  | 0, _ => []
  | f + 1, u => if u = 0 then [] else u :: seqF m f ((u - 1) &&& m)
def seqM (m : Nat) : List Nat := seqF m (m + 1) m
theorem memN_sub (n m : Nat) : (memN n m).Sublist (List.range n) := List.filter_sublist
def maskB (n m : Nat) : Bool := ((seqM m).map (memN n)).isPerm ((subL (memN n m)).tail) && (seqM m).all (fun u => decide (u ≤ m) && decide (0 < u) && decide (m ^^^ u < m) && decide (memN n (m ^^^ u) = dropL (memN n m) (memN n u)) && decide ((memN n (m ^^^ u) ++ memN n u).isPerm (memN n m) = true)) && decide (m = 0 ∨ memN n m ≠ []) && decide ((seqM m).length ≤ 63)
theorem mask_all : ∀ n : Fin 7, ∀ m : Fin 64, (m : Nat) < 2 ^ (n : Nat) → maskB n m = true := by decide +kernel
structure Mask (n m : Nat) : Prop where
  p : ((seqM m).map (memN n)).Perm ((subL (memN n m)).tail)
  u : ∀ u ∈ seqM m, u ≤ m ∧ 0 < u ∧ m ^^^ u < m ∧ memN n (m ^^^ u) = dropL (memN n m) (memN n u) ∧ (memN n (m ^^^ u) ++ memN n u).Perm (memN n m)
  ne : m = 0 ∨ memN n m ≠ []
  len : (seqM m).length ≤ 63
theorem mask_ok {n m : Nat} (h6 : n ≤ 6) (hm : m < 2 ^ n) : Mask n m := by
  have h64 : m < 64 := Nat.lt_of_lt_of_le hm (Nat.le_trans (Nat.pow_le_pow_right (by decide) h6) (by decide))
  have := mask_all ⟨n, by omega⟩ ⟨m, h64⟩ hm
  unfold maskB at this
  simp only [Bool.and_eq_true, decide_eq_true_eq, List.all_eq_true] at this
  obtain ⟨⟨⟨h1, h2⟩, h3⟩, h4⟩ := this
  refine ⟨List.isPerm_iff.mp h1, fun u hu => ?_, h3, h4⟩
  obtain ⟨⟨⟨⟨a, b⟩, c⟩, d⟩, e⟩ := h2 u hu
  exact ⟨a, b, c, d, List.isPerm_iff.mp e⟩
section
variable (g : Nat → List Int → Int) (n : Nat)
def totM (m : Nat) : Int := totS g n (memN n m)
def termM (m u : Nat) : Int := -sgnL (memN n u) * (totM g n (m ^^^ u) * prodI ((memN n u).map fun c => sigG g (memN n (m ^^^ u)) c))
end
section
variable {g : Nat → List Int → Int} {n : Nat}
theorem totM_0 (h1 : 1 ≤ n) (h6 : n ≤ 6) : totM g n 0 = 1 := by
  unfold totM
  have : memN n 0 = [] := by unfold memN; simp
  rw [this, tot_nil g h1 h6]
theorem totM_step (h1 : 1 ≤ n) (h6 : n ≤ 6) {m : Nat} (hm : m < 2 ^ n) (h0 : m ≠ 0) : totM g n m = ((seqM m).map (termM g n m)).sum := by
  have M := mask_ok h6 hm
  unfold totM
  rw [tot_step g h1 h6 (M.ne.resolve_left h0) (memN_sub n m)]
  rw [← sum_perm (M.p.map fun U => -sgnL U * (totS g n (dropL (memN n m) U) * prodI (U.map fun c => sigG g (dropL (memN n m) U) c))), List.map_map]
  refine sumM_congr fun u hu => ?_
  obtain ⟨_, _, _, e, _⟩ := M.u u hu
  show -sgnL (memN n u) * (totS g n (dropL (memN n m) (memN n u)) * _) = _
  unfold termM totM
  rw [e]
theorem sgn_abs : ∀ u : List Nat, (sgnL u).natAbs = 1
  | [] => rfl
  | _ :: u => by rw [sgnL, Int.natAbs_neg]; exact sgn_abs u
theorem sgn_odd : ∀ u : List Nat, sgnL u = if u.length % 2 = 1 then -1 else 1
  | [] => rfl
  | _ :: u => by
    rw [sgnL, sgn_odd u, List.length_cons]
    by_cases h : u.length % 2 = 1
    · rw [if_pos h, if_neg (by omega)]; rfl
    · rw [if_neg h, if_pos (by omega)]
def capM (g : Nat → List Int → Int) (n m : Nat) : Int := prodI ((memN n m).map fun c => sigG g (List.range n) c)
theorem sig_nn (hg : ∀ c l, 0 ≤ g c l) (R : List Nat) (c : Nat) : 0 ≤ sigG g R c := sum_nnG fun l _ => hg c l
theorem tot_cap (hg : ∀ c l, 0 ≤ g c l) (m : Nat) : 0 ≤ totM g n m ∧ totM g n m ≤ capM g n m := tot_bound hg (memN_sub n m)
theorem term_cap (hg : ∀ c l, 0 ≤ g c l) (h6 : n ≤ 6) {m u : Nat} (hm : m < 2 ^ n) (hu : u ∈ seqM m) :
    0 ≤ prodI ((memN n u).map fun c => sigG g (memN n (m ^^^ u)) c) ∧ totM g n (m ^^^ u) * prodI ((memN n u).map fun c => sigG g (memN n (m ^^^ u)) c) ≤ capM g n m ∧ 0 ≤ totM g n (m ^^^ u) * prodI ((memN n u).map fun c => sigG g (memN n (m ^^^ u)) c) := by
  have M := mask_ok h6 hm
  obtain ⟨_, _, _, _, hp⟩ := M.u u hu
  obtain ⟨t0, t1⟩ := tot_cap (n := n) hg (m ^^^ u)
  have p0 : 0 ≤ prodI ((memN n u).map fun c => sigG g (memN n (m ^^^ u)) c) := prodI_nn fun x hx => by
    obtain ⟨c, _, rfl⟩ := List.mem_map.mp hx
    exact sig_nn hg _ _
  have p1 : prodI ((memN n u).map fun c => sigG g (memN n (m ^^^ u)) c) ≤ prodI ((memN n u).map fun c => sigG g (List.range n) c) := prodI_mono fun c _ => ⟨sig_nn hg _ _, sig_le hg (fun d => (m ^^^ u).testBit d) rfl c⟩
  refine ⟨p0, ?_, Int.mul_nonneg t0 p0⟩
  have e : capM g n m = capM g n (m ^^^ u) * prodI ((memN n u).map fun c => sigG g (List.range n) c) := by
    unfold capM
    rw [← prodI_perm (hp.map _), List.map_append, prodI_app]
  rw [e]
  exact Int.mul_le_mul t1 p1 p0 (Int.le_trans t0 t1)
end
theorem websS_all (n : Nat) : ∀ k, k ≤ n → websS (List.range n) k = websU n k
  | 0, _ => rfl
  | k + 1, h => by
    rw [websS, websU, websS_all n k (by omega)]
    have : chS (List.range n) k = subsU (othW n k) := by
      unfold chS
      rw [if_pos (List.mem_range.mpr (by omega))]
      rfl
    rw [this]
def prodW (g : Nat → List Int → Int) (n : Nat) (w : Web) : Int := prodI ((List.range n).map fun c => g c (leanW w c))
theorem memN_full (n : Nat) (h6 : n ≤ 6) : memN n (2 ^ n - 1) = List.range n := by
  have : ∀ n : Fin 7, memN n (2 ^ (n : Nat) - 1) = List.range n := by decide +kernel
  exact this ⟨n, by omega⟩
theorem tot_all (g : Nat → List Int → Int) {n : Nat} (h6 : n ≤ 6) : totM g n (2 ^ n - 1) = ((allW n).map (prodW g n)).sum := by
  unfold totM totS allW
  rw [memN_full n h6, websS_all n n (Nat.le_refl _)]
  rw [sum_perm (((webs_perm n n).filter ringlessW).map (prodW g n))]
  rw [← sumM_filter]
  refine sumM_congr fun w _ => ?_
  have : prodG g (List.range n) w n = prodW g n w := by
    unfold prodG prodW
    congr 1
    refine List.map_congr_left fun c hc => ?_
    rw [if_pos hc]
  rw [this]
  rfl
theorem prod_may {may : Nat → List Int → Bool} {g0 : Nat → List Int → Int} (w : Web) : ∀ l : List Nat, prodI (l.map fun c => if may c (leanW w c) = true then g0 c (leanW w c) else 0) = if (l.all fun c => may c (leanW w c)) = true then prodI (l.map fun c => g0 c (leanW w c)) else 0
  | [] => rfl
  | c :: l => by
    rw [List.map_cons, prodI_cons, prod_may w l, List.all_cons, List.map_cons, prodI_cons]
    by_cases h1 : may c (leanW w c) = true
    · rw [if_pos h1, h1, Bool.true_and]
      split
      · rfl
      · exact Int.mul_zero _
    · have h1' : may c (leanW w c) = false := by simpa using h1
      rw [if_neg h1, h1', Int.zero_mul]
      rfl
theorem tot_may (may : Nat → List Int → Bool) (g0 : Nat → List Int → Int) {n : Nat} (h6 : n ≤ 6) : totM (fun c l => if may c l = true then g0 c l else 0) n (2 ^ n - 1) = (((allW n).filter fun w => (List.range n).all fun c => may c (leanW w c)).map (prodW g0 n)).sum := by
  rw [tot_all _ h6, ← sumM_filter]
  refine sumM_congr fun w _ => ?_
  unfold prodW
  rw [prod_may]
  split <;> simp
end DV
namespace My
open PySem L2 DV
def scalP : V → Prop
  | .non => True
  | .bl _ => True
  | .int _ => True
  | .str z => SeqAt.shaped (.str z) = true
  | _ => False
def plain : Nat → D → Prop
  | 0, d => match d with
    | .v x => scalP x
    | _ => False
  | n + 1, d => match d with
    | .v x => scalP x
    | .lst xs => xs.length ≤ sizeLine ∧ ∀ x ∈ xs, plain n x
    | .tup xs => xs.length ≤ sizeLine ∧ ∀ x ∈ xs, plain n x
    | _ => False
theorem oEq_str {z : Str} (h : SeqAt.shaped (.str z) = true) : oEq (.str z) (.str z) = .ok (.bl true) := by
  show (if SeqAt.shaped (.str z) = true ∧ SeqAt.shaped (.str z) = true then Res.ok (D.bl (if false = true then _ else z == z)) else .no) = _
  rw [if_pos ⟨h, h⟩]
  simp
theorem same_scal (n : Nat) : ∀ (x : V), scalP x → F__law_same (n + 1) [.v x, .v x] = .ok (.bl true)
  | .non, _ => by
    simp [F__law_same, defF, g__law_same, st0, cSeq, cIf, cTest, cBin, oIsN, cVar, cC, asB, DV.isNon, cRet]
  | .bl b, _ => by
    simp [F__law_same, defF, g__law_same, st0, cSeq, cIf, cTest, cBin, oIsN, cVar, cC, asB, DV.isNon, cRet, cCall, gIsi, isiD, tyD, cCons, cNil, cNext, cAndV, oEq_bl]
  | .int i, _ => by
    have e := oEq_int i i
    simp at e
    simp [F__law_same, defF, g__law_same, st0, cSeq, cIf, cTest, cBin, oIsN, cVar, cC, asB, DV.isNon, cRet, cCall, gIsi, isiD, tyD, cCons, cNil, cNext, cAndV, oEq_bl, e]
  | .str z, h => by
    have e := oEq_str h
    simp [F__law_same, defF, g__law_same, st0, cSeq, cIf, cTest, cBin, oIsN, cVar, cC, asB, DV.isNon, cRet, cCall, gIsi, isiD, tyD, cCons, cNil, cNext, cAndV, oEq_bl, e]
end My
namespace My
open PySem L2 DV
abbrev dI (ns : List Int) : List D := ns.map D.int
abbrev tupI (ns : List Int) : D := .tup (dI ns)
def prodL (ss : List Int) : Int := ss.foldl (· * ·) 1
structure Good (ss : List Int) : Prop where
  ne : 1 ≤ ss.length
  le : ss.length ≤ 6
  sz : ∀ s ∈ ss, 2 ≤ s ∧ s ≤ 4
  pr : prodL ss ≤ 300
def rowsL : List Int → List (List Int) → List (List Int)
  | [], acc => acc
  | s :: ss, acc => rowsL ss (acc.flatMap fun r => (List.range s.toNat).map fun (v : Nat) => r ++ [(v : Int)])
abbrev dR (rs : List (List Int)) : List D := rs.map tupI
def stepR (s : Int) (r : List Int) : List (List Int) := (List.range s.toNat).map fun (v : Nat) => r ++ [(v : Int)]
abbrev dZ (ps : List (Int × Int)) : List D := ps.map fun p => D.tup [.int p.1, .int p.2]
def dQ (ps : List (Int × Int)) : List D := ps.map fun p => .tup [.int p.1, .int p.2]
def valB (vs : List Int) (p : Int × Int) : Bool := decide (vs.getD p.1.toNat 0 = p.2)
end My
namespace My
open PySem L2 DV
abbrev kT : NK := .ob "Tally" ["sizes", "known"]
def tsT (sz : List Int) (ps : RP) : List T := [.im (tI sz), .nd (.dt (keysP ps)) (ps.map fun p => T.im (D.int p.2))]
def obT (sz : List Int) (ps : RP) : D := .ins "Tally" ["sizes", "known"] [tI sz, dP ps]
end My
namespace My
open PySem L2 DV
theorem forF_nx {b : D → DS → Option DS} {g : DS → Fl} {d : D} {ds : List D} {δ δ' δ2 : DS} (h1 : b d δ = some δ') (h2 : g δ' = .nx δ2) : forF b g (d :: ds) δ = forF b g ds δ2 := by
  rw [forF, h1]
  dsimp only
  rw [h2]
def riseB (n last : Int) : List Int → Bool
  | [] => true
  | c :: t => decide (last < c) && decide (c < n) && riseB n c t
def vOk (sz : List Int) (p : Int × Int) : Bool := decide (0 ≤ p.2) && decide (p.2 < sz.getD p.1.toNat 0)
def pOk (sz : List Int) (last : Int) (ps : List (Int × Int)) : Bool := riseB sz.length last (ps.map (·.1)) && ps.all (vOk sz)
def xBP : Exn := ⟨"BadPairs", [("word", .str "badpairs")]⟩
end My
namespace My
open PySem L2 DV
def bigN : Nat := 2 ^ 400000
theorem pow_big : (2 : Nat) ^ 9000 ≤ bigN := by unfold bigN; exact Nat.pow_le_pow_right (by decide) (by decide)
theorem mul_big {i j : Int} (h1 : i.natAbs < bigN) (h2 : j.natAbs < bigN) : oMul2 (.int i) (.int j) = .ok (.int (i * j)) := by
  unfold bigN at h1 h2
  exact oMul_int (mul_ok (a := 400000) (b := 400000) h1 h2 (by decide) (by decide) (by decide))
theorem part_timesQ {a b c d : Int} (hb : 1 ≤ b) (hd : 1 ≤ d) : timesV (partV a b) (partV c d) = partV (a * c) (b * d) := by
  have r1 := part_rat a b (by omega)
  have r2 := part_rat c d (by omega)
  have p1 := (partV_le a b (by omega)).2.2
  have p2 := (partV_le c d (by omega)).2.2
  unfold timesV
  refine part_congr (Int.mul_ne_zero (by omega) (by omega)) (Int.mul_ne_zero (by omega) (by omega)) ?_
  generalize (partV a b).1 = x at *
  generalize (partV a b).2 = y at *
  generalize (partV c d).1 = z at *
  generalize (partV c d).2 = w at *
  calc x * z * (b * d) = (x * b) * (z * d) := by grind
    _ = (a * y) * (c * w) := by rw [r1, r2]
    _ = a * c * (y * w) := by grind
theorem part_plusQ {a b m : Int} (hm : 1 ≤ m) : plusV (partV a m) (partV b m) = partV (a + b) m := by
  have r1 := part_rat a m (by omega)
  have r2 := part_rat b m (by omega)
  have p1 := (partV_le a m (by omega)).2.2
  have p2 := (partV_le b m (by omega)).2.2
  unfold plusV
  refine part_congr (Int.mul_ne_zero (by omega) (by omega)) (by omega) ?_
  generalize (partV a m).1 = x at *
  generalize (partV a m).2 = y at *
  generalize (partV b m).1 = z at *
  generalize (partV b m).2 = w at *
  calc (x * w + z * y) * m = (x * m) * w + (z * m) * y := by grind
    _ = (a * y) * w + (b * w) * y := by rw [r1, r2]
    _ = (a + b) * (y * w) := by grind
theorem part_negQ {b m : Int} (hm : 1 ≤ m) : partV (-b) m = (-(partV b m).1, (partV b m).2) := by
  have h := part_low (t := b) (b := m) (by omega)
  have p1 := (partV_le b m (by omega)).2.2
  have r1 := part_rat b m (by omega)
  have c1 := part_co b m (by omega)
  have c2 := part_co (-b) m (by omega)
  have p2 := (partV_le (-b) m (by omega)).2.2
  have r2 := part_rat (-b) m (by omega)
  have := low_only (p := (partV (-b) m).1) (q := (partV (-b) m).2) (p' := -(partV b m).1) (q' := (partV b m).2) c2 (by rw [Int.neg_gcd]; exact c1) p2 p1 (by
    generalize (partV b m).1 = x at *
    generalize (partV b m).2 = y at *
    generalize (partV (-b) m).1 = z at *
    generalize (partV (-b) m).2 = w at *
    have : m * (z * y) = m * (-x * w) := by
      calc m * (z * y) = (z * m) * y := by grind
        _ = -b * w * y := by rw [r2]
        _ = -(b * y) * w := by grind
        _ = -(x * m) * w := by rw [r1]
        _ = m * (-x * w) := by grind
    exact Int.eq_of_mul_eq_mul_left (by omega) this)
  exact Prod.ext this.1 this.2
theorem den_lt {b d : Int} (hb : 1 ≤ b) (hd : 1 ≤ d) (h : b * d < 2 ^ 9000) (t u : Int) : ((partV t b).2 * (partV u d).2).natAbs < 2 ^ 9000 ∧ (partV t b).2.natAbs < bigN ∧ (partV u d).2.natAbs < bigN := by
  obtain ⟨_, q2, q3⟩ := partV_le t b (by omega)
  obtain ⟨_, q5, q6⟩ := partV_le u d (by omega)
  have hB := pow_big
  have h1 : b ≤ b * d := by have := Int.mul_le_mul_of_nonneg_left hd (by omega : (0 : Int) ≤ b); omega
  have h2 : d ≤ b * d := by have := Int.mul_le_mul_of_nonneg_right hb (by omega : (0 : Int) ≤ d); omega
  have hn : (b * d).natAbs < 2 ^ 9000 := by omega
  refine ⟨?_, ?_, ?_⟩
  · rw [Int.natAbs_mul]
    refine Nat.lt_of_le_of_lt (Nat.mul_le_mul q2 q5) ?_
    rw [← Int.natAbs_mul]
    exact hn
  · have : b.natAbs < 2 ^ 9000 := by omega
    omega
  · have : d.natAbs < 2 ^ 9000 := by omega
    omega
theorem timesQ {a b c d : Int} (hb : 1 ≤ b) (hd : 1 ≤ d) (ha : a.natAbs < bigN) (hc : c.natAbs < bigN) (h : b * d < 2 ^ 9000) : F_times [fr (partV a b), fr (partV c d)] = .ok (fr (partV (a * c) (b * d))) := by
  obtain ⟨q1, _, q3⟩ := partV_le a b (by omega)
  obtain ⟨q4, _, q6⟩ := partV_le c d (by omega)
  obtain ⟨e1, e2, e3⟩ := den_lt hb hd h a c
  have m1 := mul_big (Nat.lt_of_le_of_lt q1 ha) (Nat.lt_of_le_of_lt q4 hc)
  have m3 := mul_big e2 e3
  have hl := lowest_ok (t := (partV a b).1 * (partV c d).1) (Int.mul_ne_zero (by omega : (partV a b).2 ≠ 0) (by omega : (partV c d).2 ≠ 0)) e1
  rw [← part_timesQ hb hd]
  show flR (g_times [some (.im (fr (partV a b))), some (.im (fr (partV c d)))]) = _
  unfold g_times
  simp only [cRet, cFn0, cCons, cBin, cVar, cC, cNil, List.getElem?_cons_succ, List.getElem?_cons_zero, Res.bind_ok, ix0, ix1, m1, m3, hl, stE_ok, flR_rt]
  rfl
theorem plusQ {a b m : Int} (hm : 1 ≤ m) (ha : a.natAbs < bigN) (hb : b.natAbs < bigN) (h : m * m < 2 ^ 9000) : F_plus [fr (partV a m), fr (partV b m)] = .ok (fr (partV (a + b) m)) := by
  obtain ⟨q1, _, q3⟩ := partV_le a m (by omega)
  obtain ⟨q4, _, q6⟩ := partV_le b m (by omega)
  obtain ⟨e1, e2, e3⟩ := den_lt hm hm h a b
  have m1 := mul_big (Nat.lt_of_le_of_lt q1 ha) e3
  have m2 := mul_big (Nat.lt_of_le_of_lt q4 hb) e2
  have m3 := mul_big e2 e3
  have hl := lowest_ok (t := (partV a m).1 * (partV b m).2 + (partV b m).1 * (partV a m).2) (Int.mul_ne_zero (by omega : (partV a m).2 ≠ 0) (by omega : (partV b m).2 ≠ 0)) e1
  rw [← part_plusQ hm]
  show flR (g_plus [some (.im (fr (partV a m))), some (.im (fr (partV b m)))]) = _
  unfold g_plus
  simp only [cRet, cFn0, cCons, cBin, cVar, cC, cNil, List.getElem?_cons_succ, List.getElem?_cons_zero, Res.bind_ok, ix0, ix1, m1, m2, m3, oAdd, hl, stE_ok, flR_rt]
  rfl
theorem minusQ {a b m : Int} (hm : 1 ≤ m) (ha : a.natAbs < bigN) (hb : b.natAbs < bigN) (h : m * m < 2 ^ 9000) : F_minus [fr (partV a m), fr (partV b m)] = .ok (fr (partV (a - b) m)) := by
  have hp := plusQ (a := a) (b := -b) hm ha (by omega) h
  rw [part_negQ hm] at hp
  rw [show a - b = a + -b by omega]
  rw [← hp]
  show flR (g_minus [some (.im (fr (partV a m))), some (.im (fr (partV b m)))]) = _
  unfold g_minus
  have e : (cFn0 F_plus (cCons (cVar 0) (cCons (cTup (cCons (cUn oNeg (cBin oIx (cVar 1) (cC (.int 0)))) (cCons (cBin oIx (cVar 1) (cC (.int 1))) cNil))) cNil))) [some (.im (fr (partV a m))), some (.im (fr (partV b m)))] = F_plus [fr (partV a m), fr (-(partV b m).1, (partV b m).2)] := rfl
  show flR (stE ((cFn0 F_plus (cCons (cVar 0) (cCons (cTup (cCons (cUn oNeg (cBin oIx (cVar 1) (cC (.int 0)))) (cCons (cBin oIx (cVar 1) (cC (.int 1))) cNil))) cNil))) [some (.im (fr (partV a m))), some (.im (fr (partV b m)))]) _ fun z => .rt z) = _
  rw [e]
  cases F_plus [fr (partV a m), fr (-(partV b m).1, (partV b m).2)] <;> rfl
theorem part_0 {m : Int} (hm : 1 ≤ m) : partV 0 m = (0, 1) := by
  have : partV 0 m = partV 0 1 := part_congr (by omega) (by omega) (by omega)
  rw [this]
  decide
theorem summed_loop {m : Int} (hm : 1 ≤ m) (hmm : m * m < 2 ^ 9000) (R S : Option O) : ∀ (xs : List Int) (a : Int) (o : Option O), (∀ x ∈ xs, 0 ≤ x) → 0 ≤ a → (a + xs.sum).natAbs < bigN →
    ∃ o', forF (bName 3) g_summed_l1 (xs.map fun x => fr (partV x m)) [R, S, some (.im (fr (partV a m))), o] = .nx [R, S, some (.im (fr (partV (a + xs.sum) m))), o']
  | [], a, o, _, _, _ => ⟨o, by simp [forF]⟩
  | x :: xs, a, o, h, ha, hb => by
    have hx := h x (by simp)
    have hs : 0 ≤ xs.sum := by
      have : ∀ l : List Int, (∀ x ∈ l, 0 ≤ x) → 0 ≤ l.sum := fun l => by
        induction l with
        | nil => intro _; simp
        | cons y l ih => intro h; rw [List.sum_cons]; have := h y (by simp); have := ih fun z hz => h z (by simp [hz]); omega
      exact this xs fun z hz => h z (by simp [hz])
    rw [List.sum_cons] at hb ⊢
    obtain ⟨o', e⟩ := summed_loop hm hmm R S xs (a + x) (some (.im (fr (partV x m)))) (fun z hz => h z (by simp [hz])) (by omega) (by rw [Int.add_assoc]; exact hb)
    refine ⟨o', ?_⟩
    have hp := plusQ (a := a) (b := x) hm (by omega) (by omega) hmm
    have eb : g_summed_l1 [R, S, some (.im (fr (partV a m))), some (.im (fr (partV x m)))] = .nx [R, S, some (.im (fr (partV (a + x) m))), some (.im (fr (partV x m)))] :=
      asg_nx (by
        show F_plus [fr (partV a m), fr (partV x m)] = _
        exact hp)
    rw [List.map_cons, forF_nx rfl eb, e, Int.add_assoc]
theorem summed_okQ {m : Int} (hm : 1 ≤ m) (hmm : m * m < 2 ^ 9000) {xs : List Int} (h : ∀ x ∈ xs, 0 ≤ x) (hb : xs.sum.natAbs < bigN) : F_summed [.lst (xs.map fun x => fr (partV x m)), fr (0, 1)] = .ok (fr (partV xs.sum m)) := by
  obtain ⟨o', e⟩ := summed_loop hm hmm (some (.im (.lst (xs.map fun x => fr (partV x m))))) (some (.im (fr (0, 1)))) xs 0 none h (Int.le_refl _) (by rw [Int.zero_add]; exact hb)
  rw [Int.zero_add, part_0 hm] at e
  show flR (g_summed [some (.im (.lst (xs.map fun x => fr (partV x m)))), some (.im (fr (0, 1))), none, none]) = _
  rw [g_summed, seq_nx (asg_nx (d := fr (0, 1)) rfl) (seq_nx (for_r (ds := xs.map fun x => fr (partV x m)) rfl e) rfl)]
  rfl
end My
namespace My
open PySem L2 DV
def P4 (a : O) (δ : DS) : Prop := ∃ b c d, δ = [some a, b, c, d]
end My
namespace My
open PySem L2 DV
abbrev sG (w : Web) (l : List Nat) (o2 o3 o4 o5 o6 o7 : Option O) : DS := [some (.im (tW w)), some (.od (kvW w l)), o2, o3, o4, o5, o6, o7, none, none]
abbrev looseC : DS → Res D := cLookD true 1 (cL (cLc [3] (cKeys (cVar 1)) (bName 3) (cNotT (cTest (cCall gAny (cCons (cL (cLc [9] (cItems (cBin oIxD (cVar 1) (cVar 3))) (bName 9) cYes (cBin (oInD false) (cVar 9) (cVar 1)))) cNil)))) (cVar 3)))
end My
namespace My
open PySem L2 DV
def goodW (w : Web) : Bool := plainW w && ringlessW w
def badX : Exn := ⟨"BadWeb", [("word", .str "badweb")]⟩
end My
namespace My
open PySem L2 DV
end My
namespace My
open PySem L2 DV
def arrU (w : Web) (i : Nat) : List (List Int) := (List.range i).flatMap fun c => (leanW w c).map fun x => [x, (c : Int)]
theorem arrU_succ (w : Web) (i : Nat) : arrU w (i + 1) = arrU w i ++ (leanW w i).map fun x => [x, (i : Int)] := by
  unfold arrU
  rw [List.range_succ, List.flatMap_append]
  simp
theorem arrU_len {w : Web} (hl : ∀ l ∈ w, l.length < 64) : ∀ i, i ≤ w.length → (arrU w i).length ≤ 64 * i
  | 0, _ => by simp [arrU]
  | i + 1, h => by
    have h1 := arrU_len hl i (by omega)
    have h2 := hl _ (mem_lean (show i < w.length by omega))
    rw [arrU_succ, List.length_append, List.length_map]
    omega
theorem law_arrows_ok (w : Web) (hz : w.length ≤ 10) (hl : ∀ l ∈ w, l.length < 64) : F__law_arrows [tW w] = .ok (.lst ((sortT (arrL w)).map tI)) := by
  obtain ⟨δ2, h1, o2, rfl⟩ := for_range (n := w.length) (fun i δ => ∃ o2, δ = [some (.im (tW w)), some (.im (.lst ((arrU w i).map tI))), o2, none]) (b := bName 2) (g := g__law_arrows_l1) (fi := cIt gRange1 (cCons (cCall gLen (cCons (cVar 0) cNil)) cNil)) (δ := [some (.im (tW w)), some (.im (.lst [])), none, none]) (range_len w (by omega) rfl) ⟨_, rfl⟩ (by
    rintro i δ hi ⟨o2, rfl⟩
    refine ⟨_, _, rfl, asg_nx (d := .lst ((arrU w (i + 1)).map tI)) ?_, _, rfl⟩
    have hlc := lc_keep (δ := [some (.im (tW w)), some (.im (.lst ((arrU w i).map tI))), some (.im (.int (0 + (i : Int)))), none]) (vs := [3]) (fi := cItems (cBin oIx (cVar 0) (cVar 2))) (b := bName 3) (t := cYes) (e := cTup (cCons (cVar 3) (cCons (cVar 2) cNil))) D.int (fun _ => true) (fun x => tI [x, (i : Int)]) (leanW w i) (by simp [ix_lean hi]) (small_z (by have := hl _ (mem_lean hi); omega)) (fun x hx => ⟨_, rfl, rfl, fun _ => by
      simp only [ev_bname, ev_tup, ev_cons, ev_var, ev_nil, List.getElem?_cons_succ, List.getElem?_cons_zero, ev_wipe1, ev_wipe0, List.set_cons_succ, List.set_cons_zero, Res.bind_ok, Int.zero_add]
      rfl⟩)
    have ft : (leanW w i).filter (fun _ => true) = leanW w i := List.filter_eq_self.mpr fun _ _ => rfl
    rw [ft] at hlc
    show (cBin oAdd (cVar 1) (cL _)) [some (.im (tW w)), some (.im (.lst ((arrU w i).map tI))), some (.im (.int (0 + (i : Int)))), none] = _
    rw [ev_bin, ev_L, hlc]
    simp only [ev_var, List.getElem?_cons_succ, List.getElem?_cons_zero, Res.bind_ok]
    unfold oAdd
    dsimp only
    rw [if_pos]
    · rw [arrU_succ, List.map_append, List.map_map]
      rfl
    · refine small_z ?_
      have h1 := arrU_len hl i (by omega)
      have h2 := hl _ (mem_lean hi)
      simp
      omega)
  unfold F__law_arrows
  rw [defF_ev]
  show flR (g__law_arrows [some (.im (tW w)), none, none, none]) = _
  unfold g__law_arrows
  rw [seq_nx (asg_nx (d := .lst []) rfl) (seq_nx h1 rfl)]
  simp only [ev_ret, ev_L, ev_srt, ev_var, List.getElem?_cons_succ, List.getElem?_cons_zero, Res.bind_ok, ev_asL, srt_tI (L := arrU w w.length) arrL_ne, stE_ok]
  rfl
end My
namespace My
open PySem L2 DV
abbrev Prs := List (Int × Int)
def pD (p : Int × Int) : D := tI [p.1, p.2]
def tP (P : Prs) : D := .tup (P.map pD)
def capD : Option Int → D
  | none => .non
  | some k => .int k
@[simp] theorem tP_items (P : Prs) : itemsD (tP P) = .ok (P.map pD) := rfl
def overB (l : List Int) : Option Int → Bool
  | none => false
  | some k => decide ((l.length : Int) > k)
def mayB (c : Int) (l : List Int) (must never : Prs) (most : Option Int) : Bool :=
  !overB l most && !(never.any fun p => decide (p.2 = c) && decide (p.1 ∈ l)) && ((must.filter fun p => decide (p.2 = c)).all fun p => decide (p.1 ∈ l))
theorem all_lcf {β : Type} {δ : DS} {vs : List Nat} {fi : DS → Res (List D)} {b : D → DS → Option DS} {t : DS → Res Bool} {e : DS → Res D} (f : β → D) (q p : β → Bool) (xs : List β) (hi : fi δ = .ok (xs.map f)) (hz : xs.length ≤ sizeLine) (h : ∀ x, x ∈ xs → ∃ δ', b (f x) (wipeD δ vs) = some δ' ∧ t δ' = .ok (q x) ∧ (q x = true → e δ' = .ok (.bl (p x)))) :
    cCall gAll (cCons (cL (cLc vs fi b t e)) cNil) δ = .ok (.bl ((xs.filter q).all p)) := by
  have := lc_keep (δ := δ) (vs := vs) (fi := fi) (b := b) (t := t) (e := e) f q (fun x => D.bl (p x)) xs hi hz h
  simp only [ev_call, ev_cons, ev_L, this, Res.bind_ok, ev_nil, ev_all']
theorem may_ok (c : Int) (l : List Int) (must never : Prs) (most : Option Int) (h1 : must.length ≤ 1000) (h2 : never.length ≤ 1000) : F_may_lean [.int c, tI l, tP must, tP never, capD most] = .ok (.bl (mayB c l must never most)) := by
  unfold F_may_lean
  rw [defF_ev]
  show flR (g_may_lean [some (.im (.int c)), some (.im (tI l)), some (.im (tP must)), some (.im (tP never)), some (.im (capD most)), none, none]) = _
  unfold g_may_lean
  have t1 : cAndT (cTest (cBin (oIsN true) (cVar 4) (cC .non))) (cTest (cBin oGt (cCall gLen (cCons (cVar 1) cNil)) (cVar 4))) [some (.im (.int c)), some (.im (tI l)), some (.im (tP must)), some (.im (tP never)), some (.im (capD most)), none, none] = .ok (overB l most) := by
    cases most with
    | none => simp [capD, overB, D.non, DV.isNon]
    | some k => simp [capD, overB, D.non, DV.isNon]
  have t2 : cTest (cCall gAny (cCons (cL (cLc [5, 6] (cItems (cVar 3)) (bTup 2 (bCons (bName 5) (bCons (bName 6) bNil))) cYes (cAndV (cBin oEq (cVar 6) (cVar 0)) (cBin (oInA false) (cVar 5) (cVar 1))))) cNil)) [some (.im (.int c)), some (.im (tI l)), some (.im (tP must)), some (.im (tP never)), some (.im (capD most)), none, none] = .ok (never.any fun p => decide (p.2 = c) && decide (p.1 ∈ l)) := by
    refine test_ok (any_lc pD _ never (by simp) (small_z h2) fun p hp => ⟨[some (.im (.int c)), some (.im (tI l)), some (.im (tP must)), some (.im (tP never)), some (.im (capD most)), some (.im (.int p.1)), some (.im (.int p.2))], rfl, ?_⟩)
    by_cases hc : p.2 = c
    · simp [hc]
    · simp [hc]
  have t3 : (cCall gAll (cCons (cL (cLc [5, 6] (cItems (cVar 2)) (bTup 2 (bCons (bName 5) (bCons (bName 6) bNil))) (cTest (cBin oEq (cVar 6) (cVar 0))) (cBin (oInA false) (cVar 5) (cVar 1)))) cNil)) [some (.im (.int c)), some (.im (tI l)), some (.im (tP must)), some (.im (tP never)), some (.im (capD most)), none, none] = .ok (.bl ((must.filter fun p => decide (p.2 = c)).all fun p => decide (p.1 ∈ l))) := by
    refine all_lcf pD (fun p => decide (p.2 = c)) (fun p => decide (p.1 ∈ l)) must (by simp) (small_z h1) fun p hp => ⟨[some (.im (.int c)), some (.im (tI l)), some (.im (tP must)), some (.im (tP never)), some (.im (capD most)), some (.im (.int p.1)), some (.im (.int p.2))], rfl, ?_, fun _ => ?_⟩
    · simp
    · simp
  unfold mayB
  rw [ev_seq, if_b _ t1]
  cases overB l most with
  | true => simp
  | false =>
    simp only [Bool.false_eq_true, if_false, ev_next, Fl.then]
    rw [ev_seq, if_b _ t2]
    cases never.any fun p => decide (p.2 = c) && decide (p.1 ∈ l) with
    | true => simp
    | false =>
      simp only [Bool.false_eq_true, if_false, ev_next, Fl.then, ev_ret, t3]
      simp
def keepB (w : Web) (must never : Prs) (most : Option Int) : Bool := goodW w && (must.all fun p => decide ([p.1, p.2] ∈ arrL w)) && (List.range w.length).all fun c => mayB (c : Int) (leanW w c) must never most
theorem mem_sortT {a : List Int} {L : List (List Int)} : a ∈ sortT L ↔ a ∈ L := (sortT_perm L).mem_iff
end My
namespace My
open PySem L2 DV
theorem tI_snocQ (l : List Int) (c : Int) (h : l.length ≤ 900) : oAdd (tI l) (.tup [.v (.int c)]) = .ok (tI (l ++ [c])) := tI_add l [c] (small_z (by simp; omega))
theorem sub_lenQ {cs l : List Int} (h : l ∈ subsU cs) : l.length ≤ cs.length := (subsU_sub h).length_le
theorem subsets_okQ {cs : List Int} (hc : cs.length ≤ 6) : F_subsets [.lst (cs.map D.int)] = .ok (.lst ((subsW cs).map tI)) := by
  obtain ⟨δ2, h1, o2, rfl⟩ := for_done D.int (fun done δ => ∃ o2, δ = [some (.im (.lst (cs.map D.int))), some (.im (.lst ((subsU done).map tI))), o2, none]) (b := bName 2) (g := g_subsets_l1) (fi := cItems (cVar 0)) cs (δ := [some (.im (.lst (cs.map D.int))), some (.im (.lst [tI []])), none, none]) (by simp) ⟨none, rfl⟩ (by
    rintro done c rest δ hall ⟨o2, rfl⟩
    have dl := pre_len hall
    have p6 : 2 ^ done.length ≤ 64 := Nat.le_trans (Nat.pow_le_pow_right (by decide) (show done.length ≤ 6 by omega)) (by decide)
    have ul := subsU_len done
    have hlc := lc_keep (δ := [some (.im (.lst (cs.map D.int))), some (.im (.lst ((subsU done).map tI))), some (.im (.int c)), none]) (vs := [3]) (fi := cItems (cVar 1)) (b := bName 3) (t := cYes) (e := cBin oAdd (cVar 3) (cTup (cCons (cVar 2) cNil))) tI (fun _ => true) (fun l => tI (l ++ [c])) (subsU done) (by simp) (small_z (by omega)) (fun l hl => ⟨_, rfl, rfl, fun _ => by
      have := sub_lenQ hl
      simp only [ev_bin, ev_bname, ev_tup, ev_cons, ev_nil, ev_wipe1, ev_wipe0, ev_var, List.set_cons_succ, List.set_cons_zero, List.getElem?_cons_succ, List.getElem?_cons_zero, Res.bind_ok, tI_snocQ l c (by omega), D.int]⟩)
    have ft : (subsU done).filter (fun _ => true) = subsU done := List.filter_eq_self.mpr fun _ _ => rfl
    rw [ft] at hlc
    refine ⟨[some (.im (.lst (cs.map D.int))), some (.im (.lst ((subsU done).map tI))), some (.im (.int c)), none], _, rfl, asg_nx (d := .lst ((subsU (done ++ [c])).map tI)) ?_, _, rfl⟩
    rw [ev_bin, ev_L, hlc]
    simp only [ev_var, List.getElem?_cons_succ, List.getElem?_cons_zero, Res.bind_ok]
    unfold oAdd
    dsimp only
    rw [if_pos (small_z (by simp only [List.length_map]; omega)), subsU_snoc, List.map_append, List.map_map]
    rfl)
  unfold F_subsets
  rw [defF_ev]
  show flR (g_subsets [some (.im (.lst (cs.map D.int))), none, none, none]) = _
  unfold g_subsets
  refine (congrArg flR (seq_nx (asg_nx (d := .lst [tI []]) rfl) (seq_nx h1 (ret_rt (d := .lst ((subsW cs).map tI)) ?_)))).trans rfl
  rw [ev_L]
  show Res.bind (Res.bind (cVar 1 _) fun d => (asL d).bind srtA) _ = _
  simp only [ev_var, List.getElem?_cons_succ, List.getElem?_cons_zero, Res.bind_ok, ev_asL, srtA_tI (subsU_head cs)]
  rfl
theorem bit_all : ∀ m : Fin 64, ∀ c : Fin 6, decide (Builtin.bitAnd (((m : Nat) : Int) / 2 ^ (((c : Nat) : Int)).toNat) 1 = 1) = (m : Nat).testBit c := by decide +kernel
theorem xor_all : ∀ m : Fin 64, ∀ u : Fin 64, Builtin.bitXor ((m : Nat) : Int) ((u : Nat) : Int) = (((m : Nat) ^^^ (u : Nat) : Nat) : Int) := by decide +kernel
theorem and_all : ∀ m : Fin 64, ∀ u : Fin 64, Builtin.bitAnd ((m : Nat) : Int) ((u : Nat) : Int) = (((m : Nat) &&& (u : Nat) : Nat) : Int) := by decide +kernel
theorem lt64 {n m : Nat} (h6 : n ≤ 6) (hm : m < 2 ^ n) : m < 64 := Nat.lt_of_lt_of_le hm (Nat.le_trans (Nat.pow_le_pow_right (by decide) h6) (by decide))
theorem members_okQ {n m : Nat} (h6 : n ≤ 6) (hm : m < 2 ^ n) : F_members [.int (m : Int), .int (n : Int)] = .ok (.lst ((mI (memN n m)).map D.int)) := by
  have h64 := lt64 h6 hm
  have hlc := lc_keep (δ := [some (.im (.int (m : Int))), some (.im (.int (n : Int))), none]) (vs := [2]) (fi := cIt gRange1 (cCons (cVar 1) cNil)) (b := bName 2) (t := cTest (cBin oEq (cBin oAnd (cBin oShr (cVar 0) (cVar 2)) (cC (.int 1))) (cC (.int 1)))) (e := cVar 2) (fun (c : Nat) => D.int (c : Int)) (fun c => m.testBit c) (fun (c : Nat) => D.int (c : Int)) (List.range n) (by
      have := rg1 (n := n) (by omega)
      simp only [ev_it, ev_cons, ev_var, ev_nil, List.getElem?_cons_succ, List.getElem?_cons_zero, Res.bind_ok, D.int]
      exact this) (small_z (by simp; omega)) (fun c hc => ⟨[some (.im (.int (m : Int))), some (.im (.int (n : Int))), some (.im (.int (c : Int)))], rfl, by
      have hc' := List.mem_range.mp hc
      have e := bit_all ⟨m, h64⟩ ⟨c, by omega⟩
      have s : oShr (.int (m : Int)) (.int (c : Int)) = .ok (.int ((m : Int) / 2 ^ ((c : Int)).toNat)) := by
        unfold oShr
        dsimp only
        rw [if_pos (by omega)]
      simp only [cTest, cBin, cVar, cC, List.getElem?_cons_succ, List.getElem?_cons_zero, Res.bind_ok, s]
      show (oEq (.int (Builtin.bitAnd ((m : Int) / 2 ^ ((c : Int)).toNat) 1)) (.int 1)).bind asB = _
      rw [oEq_int]
      show Res.ok _ = _
      rw [e], fun _ => rfl⟩)
  show flR (g_members [some (.im (.int (m : Int))), some (.im (.int (n : Int))), none]) = _
  rw [g_members, ret_rt (d := .lst ((mI (memN n m)).map D.int)) (by
    rw [ev_L, hlc, Res.bind_ok]
    unfold mI memN
    rw [List.map_map]
    rfl)]
  rfl
theorem choices_okQ {R : List Nat} (hR : R.length ≤ 6) (c : Int) (must never : Prs) (most : Option Int) (h1 : must.length ≤ 1000) (h2 : never.length ≤ 1000) :
    F_choices [.int c, .lst ((mI R).map D.int), tP must, tP never, capD most] = .ok (.lst (((subsW (mI R)).filter fun l => mayB c l must never most).map tI)) := by
  have hl : (mI R).length = R.length := by simp [mI]
  have hw : (subsW (mI R)).length ≤ 64 := by
    unfold subsW
    rw [(sortT_perm _).length_eq, subsU_len]
    exact Nat.le_trans (Nat.pow_le_pow_right (by decide) (show (mI R).length ≤ 6 by omega)) (by decide)
  have hs := subsets_okQ (cs := mI R) (by omega)
  have hlc := lc_keep (δ := [some (.im (.int c)), some (.im (.lst ((mI R).map D.int))), some (.im (tP must)), some (.im (tP never)), some (.im (capD most)), none]) (vs := [5]) (fi := cItems (cFn0 F_subsets (cCons (cVar 1) cNil))) (b := bName 5) (t := cTest (cFn0 F_may_lean (cCons (cVar 0) (cCons (cVar 5) (cCons (cVar 2) (cCons (cVar 3) (cCons (cVar 4) cNil))))))) (e := cVar 5) tI (fun l => mayB c l must never most) tI (subsW (mI R)) (by
      show (F_subsets [.lst ((mI R).map D.int)]).bind itemsD = _
      rw [hs]
      rfl) (small_z (by omega)) (fun l _ => ⟨[some (.im (.int c)), some (.im (.lst ((mI R).map D.int))), some (.im (tP must)), some (.im (tP never)), some (.im (capD most)), some (.im (tI l))], rfl, by
      show (F_may_lean [.int c, tI l, tP must, tP never, capD most]).bind asB = _
      rw [may_ok c l must never most h1 h2]
      rfl, fun _ => rfl⟩)
  show flR (g_choices [some (.im (.int c)), some (.im (.lst ((mI R).map D.int))), some (.im (tP must)), some (.im (tP never)), some (.im (capD most)), none]) = _
  rw [g_choices, ret_rt (d := .lst (((subsW (mI R)).filter fun l => mayB c l must never most).map tI)) (by rw [ev_L, hlc]; rfl)]
  rfl
end My
namespace My
open PySem L2 DV
theorem part_11 : partV 1 1 = (1, 1) := by decide
def sgN : Int := 2 ^ 60000
theorem sg6 : ∀ k : Fin 7, (sgN ^ (k : Nat)).natAbs * 128 < bigN := by
  have h : ∀ k : Fin 7, ((2 : Int) ^ 60000) ^ (k : Nat) = 2 ^ (60000 * (k : Nat)) := fun k => by rw [← Int.pow_mul]
  intro k
  unfold sgN bigN
  rw [h, Int.natAbs_pow]
  have : (2 : Int).natAbs = 2 := rfl
  rw [this]
  have e : 2 ^ (60000 * (k : Nat)) * 128 = 2 ^ (60000 * (k : Nat) + 7) := by rw [Nat.pow_add]
  rw [e]
  exact Nat.pow_lt_pow_right (by decide) (by have := k.2; omega)
theorem sg_prod {l : List Int} (h : ∀ x ∈ l, 0 ≤ x ∧ x ≤ sgN) (hl : l.length ≤ 6) : 0 ≤ prodI l ∧ (prodI l).natAbs * 128 < bigN := by
  have s0 : (0 : Int) ≤ sgN := by unfold sgN; exact Int.pow_nonneg (by decide)
  have := prodI_le l sgN s0 h
  refine ⟨this.1, ?_⟩
  have h6 := sg6 ⟨l.length, by omega⟩
  have hle : (prodI l).natAbs ≤ (sgN ^ l.length).natAbs := by omega
  have h6' : (sgN ^ l.length).natAbs * 128 < bigN := h6
  omega
def callW (kn : D) (c : Nat) (L : List Int) : Res D := (cMth "Plain" "worth_of" F_Plain_worth_of [] (cVar 0) (cCons (cVar 1) (cCons (cVar 2) cNil))) [some (.im kn), some (.im (.int (c : Int))), some (.im (tI L))]
structure Wo (kn : D) (n : Nat) (g0 : Nat → List Int → Int) (K : Nat → Int) : Prop where
  h1 : 1 ≤ n
  h6 : n ≤ 6
  call : ∀ c, c < n → ∀ L : List Int, L.Sublist (othW n c) → callW kn c L = .ok (fr (partV (g0 c L) (K c)))
  nn : ∀ c L, 0 ≤ g0 c L
  sg : ∀ c, c < n → sigG g0 (List.range n) c ≤ sgN
  k1 : ∀ c, c < n → 1 ≤ K c
  kM : prodI ((List.range n).map K) * prodI ((List.range n).map K) < 2 ^ 9000
def gMay (g0 : Nat → List Int → Int) (must never : Prs) (most : Option Int) (c : Nat) (L : List Int) : Int := if mayB (c : Int) L must never most = true then g0 c L else 0
section
variable {kn : D} {n : Nat} {g0 : Nat → List Int → Int} {K : Nat → Int} (Q : Wo kn n g0 K)
include Q
theorem prodK_sub {S : List Nat} (hS : S.Sublist (List.range n)) : 1 ≤ prodI (S.map K) ∧ prodI (S.map K) ≤ prodI ((List.range n).map K) := by
  have h : ∀ {S R : List Nat}, S.Sublist R → (∀ c ∈ R, 1 ≤ K c) → 1 ≤ prodI (S.map K) ∧ prodI (S.map K) ≤ prodI (R.map K) := by
    intro S R hs
    induction hs with
    | slnil => intro _; exact ⟨Int.le_refl _, Int.le_refl _⟩
    | @cons S R a h ih =>
      intro hk
      obtain ⟨i1, i2⟩ := ih fun c hc => hk c (by simp [hc])
      refine ⟨i1, ?_⟩
      rw [List.map_cons, prodI_cons]
      have := hk a (by simp)
      have := Int.mul_le_mul_of_nonneg_right this (show 0 ≤ prodI (R.map K) by omega)
      omega
    | @cons_cons S R a h ih =>
      intro hk
      obtain ⟨i1, i2⟩ := ih fun c hc => hk c (by simp [hc])
      rw [List.map_cons, List.map_cons, prodI_cons, prodI_cons]
      have ha := hk a (by simp)
      have m1 := Int.mul_le_mul_of_nonneg_left i2 (show 0 ≤ K a by omega)
      have m2 := Int.mul_le_mul_of_nonneg_left i1 (show 0 ≤ K a by omega)
      omega
  exact h hS fun c hc => Q.k1 c (List.mem_range.mp hc)
theorem prodK_mul {S T : List Nat} (hS : S.Sublist (List.range n)) (hT : T.Sublist (List.range n)) : prodI (S.map K) * prodI (T.map K) < 2 ^ 9000 := by
  obtain ⟨a1, a2⟩ := prodK_sub Q hS
  obtain ⟨b1, b2⟩ := prodK_sub Q hT
  have := Int.mul_le_mul a2 b2 (by omega) (by omega)
  have := Q.kM
  omega
variable (must never : Prs) (most : Option Int)
theorem gMay_nn (c : Nat) (L : List Int) : 0 ≤ gMay g0 must never most c L := by
  unfold gMay
  split
  · exact Q.nn c L
  · omega
theorem gMay_sig {c : Nat} (hc : c < n) {R : List Nat} (hR : R.Sublist (List.range n)) : 0 ≤ sigG (gMay g0 must never most) R c ∧ sigG (gMay g0 must never most) R c ≤ sgN := by
  refine ⟨sig_nn (gMay_nn Q must never most) R c, ?_⟩
  have e := range_in hR
  refine Int.le_trans (sig_le (gMay_nn Q must never most) (T := List.range n) (fun d => decide (d ∈ R)) e.symm c) (Int.le_trans ?_ (Q.sg c hc))
  unfold sigG
  refine sum_leG fun l _ => ?_
  unfold gMay
  have := Q.nn c l
  split <;> omega
theorem sig_may (c : Nat) (R : List Nat) : sigG (gMay g0 must never most) R c = (((subsW (mI R)).filter fun l => mayB (c : Int) l must never most).map (g0 c)).sum := by
  unfold sigG subsW
  rw [← sumM_filter, ← sum_perm ((sortT_perm (subsU (mI R))).map (gMay g0 must never most c))]
  refine sumM_congr fun l _ => ?_
  unfold gMay
  split <;> simp
theorem oth_of {R : List Nat} (hR : R.Sublist (List.range n)) {c : Nat} (hc : c ∉ R) {L : List Int} (hL : L.Sublist (mI R)) : L.Sublist (othW n c) := by
  refine hL.trans ?_
  have : R = R.filter fun d => !decide (d = c) := (List.filter_eq_self.mpr fun d hd => by
    have : d ≠ c := fun z => hc (z ▸ hd)
    simp [this]).symm
  rw [this]
  exact (hR.filter _).map _
theorem last_okQ (h1 : must.length ≤ 1000) (h2 : never.length ≤ 1000) {m u : Nat} (hm : m < 2 ^ n) (hu : u ∈ seqM m) :
    F_last_ones [kn, .int (n : Int), .int (m : Int), .int (u : Int), .tup [tP must, tP never, capD most]] = .ok (fr (partV (prodI ((memN n u).map fun c => sigG (gMay g0 must never most) (memN n (m ^^^ u)) c)) (prodI ((memN n u).map K)))) := by
  have M := mask_ok Q.h6 hm
  obtain ⟨m1, m2, m3, m4, m5⟩ := M.u u hu
  have m64 := lt64 Q.h6 hm
  let R := memN n (m ^^^ u)
  have hR : R.Sublist (List.range n) := memN_sub _ _
  have hRl : R.length ≤ 6 := by have := hR.length_le; rw [List.length_range] at this; have := Q.h6; omega
  have hUs : (memN n u).Sublist (List.range n) := memN_sub _ _
  have hnin : ∀ c ∈ memN n u, c ∉ R := fun c hc z => by
    have z' : c ∈ dropL (memN n m) (memN n u) := m4 ▸ z
    exact (drop_mem.mp z').2 hc
  let σ := fun c => sigG (gMay g0 must never most) R c
  let S0 : DS := [some (.im (kn)), some (.im (.int (n : Int))), some (.im (.int (m : Int))), some (.im (.int (u : Int))), some (.im (.tup [tP must, tP never, capD most])), some (.im (tP must)), some (.im (tP never)), some (.im (capD most)), some (.im (.lst ((mI R).map D.int)))]
  have hloop := for_done (fun (c : Nat) => D.int (c : Int)) (fun done δ => ∃ o10 o11, δ = S0 ++ [some (.im (fr (partV (prodI (done.map σ)) (prodI (done.map K))))), o10, o11, none]) (fi := cItems (cFn0 F_members (cCons (cVar 3) (cCons (cVar 1) cNil)))) (b := bName 10) (g := g_last_ones_l1) (memN n u) (δ := S0 ++ [some (.im (fr (1, 1))), none, none, none]) (by
      show (F_members [.int (u : Int), .int (n : Int)]).bind itemsD = _
      rw [members_okQ Q.h6 (by omega)]
      unfold mI
      rw [List.map_map]
      rfl) ⟨none, none, by
      show _ = S0 ++ [some (.im (fr (partV 1 1))), none, none, none]
      rw [part_11]⟩ (by
      rintro done c rest δ hall ⟨o10, o11, rfl⟩
      have hcm : c ∈ memN n u := by rw [← hall]; simp
      have hcn : c < n := List.mem_range.mp (hUs.subset hcm)
      have hds : (done ++ [c]).Sublist (List.range n) := by
        refine List.Sublist.trans ?_ hUs
        rw [← hall]
        exact List.Sublist.append_left (by simp) done
      have hd1 : done.Sublist (List.range n) := (List.sublist_append_left done [c]).trans hds
      have hdl := hd1.length_le
      have hds6 := hds.length_le
      rw [List.length_range] at hdl hds6
      have h6 := Q.h6
      have hch := choices_okQ (R := R) hRl (c : Int) must never most h1 h2
      let Ls := (subsW (mI R)).filter fun l => mayB (c : Int) l must never most
      have hLl : Ls.length ≤ 64 := by
        have a := List.length_filter_le (fun l => mayB (c : Int) l must never most) (subsW (mI R))
        have b : (subsW (mI R)).length ≤ 64 := by
          unfold subsW
          rw [(sortT_perm _).length_eq, subsU_len]
          exact Nat.le_trans (Nat.pow_le_pow_right (by decide) (show (mI R).length ≤ 6 by simpa [mI] using hRl)) (by decide)
        exact Nat.le_trans a b
      let δ1 : DS := S0 ++ [some (.im (fr (partV (prodI (done.map σ)) (prodI (done.map K))))), some (.im (.int (c : Int))), o11, none]
      let δ2 : DS := S0 ++ [some (.im (fr (partV (prodI (done.map σ)) (prodI (done.map K))))), some (.im (.int (c : Int))), some (.im (.lst (Ls.map tI))), none]
      have hlc := lc_keep (δ := δ2) (vs := [12]) (fi := cItems (cVar 11)) (b := bName 12) (t := cYes) (e := (cMth "Plain" "worth_of" F_Plain_worth_of [] (cVar 0) (cCons (cVar 10) (cCons (cVar 12) cNil)))) tI (fun _ => true) (fun L => fr (partV (g0 c L) (K c))) Ls rfl (small_z (by omega)) (fun L hL => ⟨S0 ++ [some (.im (fr (partV (prodI (done.map σ)) (prodI (done.map K))))), some (.im (.int (c : Int))), some (.im (.lst (Ls.map tI))), some (.im (tI L))], rfl, rfl, fun _ => by
        have hsub := oth_of Q hR (hnin c hcm) (subsW_sub (List.mem_filter.mp hL).1)
        rw [← Q.call c hcn L hsub]
        rfl⟩)
      rw [show Ls.filter (fun _ => true) = Ls from List.filter_eq_self.mpr fun _ _ => rfl] at hlc
      have hk := Q.k1 c hcn
      have hsing : [c].Sublist (List.range n) := List.singleton_sublist.mpr (List.mem_range.mpr hcn)
      have hkk : K c * K c < 2 ^ 9000 := by
        have := prodK_mul Q hsing hsing
        simpa [prodI_cons, prodI] using this
      have hsig := sig_may Q must never most c R
      have hsb := gMay_sig Q must never most hcn hR
      have hsN : (sigG (gMay g0 must never most) R c).natAbs * 128 < bigN := by
        have := (sg_prod (l := [sigG (gMay g0 must never most) R c]) (fun x hx => by rw [List.mem_singleton.mp hx]; exact hsb) (by simp)).2
        simpa [prodI_cons, prodI] using this
      have hsum := summed_okQ (m := K c) hk hkk (xs := Ls.map (g0 c)) (fun x hx => by
        obtain ⟨L, _, rfl⟩ := List.mem_map.mp hx
        exact Q.nn c L) (by rw [← hsig]; omega)
      rw [← hsig, List.map_map] at hsum
      have hpd := sg_prod (l := done.map σ) (fun x hx => by
        obtain ⟨d, hd, rfl⟩ := List.mem_map.mp hx
        exact gMay_sig Q must never most (List.mem_range.mp (hd1.subset hd)) hR) (by rw [List.length_map]; omega)
      have htm := timesQ (a := prodI (done.map σ)) (b := prodI (done.map K)) (c := sigG (gMay g0 must never most) R c) (d := K c) (prodK_sub Q hd1).1 hk (by omega) (by omega) (by
        have := (prodK_mul Q hds (List.nil_sublist _))
        rw [List.map_append, prodI_app] at this
        simpa [prodI_cons, prodI] using this)
      refine ⟨δ1, _, rfl, seq_nx (δ' := δ2) (asg_nx (d := .lst (Ls.map tI)) hch) (asg_nx (d := fr (partV (prodI ((done ++ [c]).map σ)) (prodI ((done ++ [c]).map K)))) ?_), some (.im (.int (c : Int))), some (.im (.lst (Ls.map tI))), rfl⟩
      rw [List.map_append, List.map_append, prodI_app, prodI_app]
      have hsum' : F_summed [.lst (Ls.map fun L => fr (partV (g0 c L) (K c))), fr (0, 1)] = .ok (fr (partV (sigG (gMay g0 must never most) R c) (K c))) := hsum
      have eX : (cFn F_summed [(.tup [(.int 0), (.int 1)])] (cCons (cL (cLc [12] (cItems (cVar 11)) (bName 12) cYes ((cMth "Plain" "worth_of" F_Plain_worth_of [] (cVar 0) (cCons (cVar 10) (cCons (cVar 12) cNil)))))) cNil)) δ2 = .ok (fr (partV (sigG (gMay g0 must never most) R c) (K c))) := by
        rw [ev_fn, ev_cons, ev_L, hlc]
        exact hsum'
      have e2 : (cCons (cVar 9) (cCons (cFn F_summed [(.tup [(.int 0), (.int 1)])] (cCons (cL (cLc [12] (cItems (cVar 11)) (bName 12) cYes ((cMth "Plain" "worth_of" F_Plain_worth_of [] (cVar 0) (cCons (cVar 10) (cCons (cVar 12) cNil)))))) cNil)) cNil)) δ2 = .ok [fr (partV (prodI (done.map σ)) (prodI (done.map K))), fr (partV (sigG (gMay g0 must never most) R c) (K c))] := by
        rw [ev_cons, ev_cons, eX]
        rfl
      show ((cCons (cVar 9) (cCons (cFn F_summed [(.tup [(.int 0), (.int 1)])] (cCons (cL (cLc [12] (cItems (cVar 11)) (bName 12) cYes ((cMth "Plain" "worth_of" F_Plain_worth_of [] (cVar 0) (cCons (cVar 10) (cCons (cVar 12) cNil)))))) cNil)) cNil)) δ2).bind F_times = _
      rw [e2]
      show F_times [fr (partV (prodI (done.map σ)) (prodI (done.map K))), fr (partV (sigG (gMay g0 must never most) R c) (K c))] = _
      rw [htm]
      simp only [List.map_cons, List.map_nil, prodI_cons]
      show _ = Res.ok (fr (partV (prodI (done.map σ) * (σ c * 1)) (prodI (done.map K) * (K c * 1))))
      rw [Int.mul_one, Int.mul_one])
  obtain ⟨δ2, e1, o10, o11, rfl⟩ := hloop
  have hmem := members_okQ (n := n) (m := m ^^^ u) Q.h6 (by omega)
  have hx : Builtin.bitXor ((m : Nat) : Int) ((u : Nat) : Int) = (((m ^^^ u : Nat)) : Int) := xor_all ⟨m, m64⟩ ⟨u, by omega⟩
  show flR (g_last_ones [some (.im (kn)), some (.im (.int (n : Int))), some (.im (.int (m : Int))), some (.im (.int (u : Int))), some (.im (.tup [tP must, tP never, capD most])), none, none, none, none, none, none, none, none]) = _
  unfold g_last_ones
  refine (congrArg flR (seq_nx (δ' := [some (.im (kn)), some (.im (.int (n : Int))), some (.im (.int (m : Int))), some (.im (.int (u : Int))), some (.im (.tup [tP must, tP never, capD most])), some (.im (tP must)), some (.im (tP never)), some (.im (capD most)), none, none, none, none, none]) rfl
    (seq_nx (δ' := S0 ++ [none, none, none, none]) (asg_nx (d := .lst ((mI R).map D.int)) (by
      show F_members [.int (Builtin.bitXor (m : Int) (u : Int)), .int (n : Int)] = _
      rw [hx, hmem])) (seq_nx (δ' := S0 ++ [some (.im (fr (1, 1))), none, none, none]) rfl (seq_nx e1 (ret_rt rfl)))))).trans rfl
end
end My
namespace My
open PySem L2 DV
theorem ixLst {ds : List D} {i : Nat} {d : D} (h : ds[i]? = some d) : oIx (.lst ds) (.int (i : Int)) = .ok d := by
  have hl := (List.getElem?_eq_some_iff.mp h).1
  unfold oIx
  simp only [atI, ixN]
  rw [if_pos (by omega), if_pos (by omega)]
  simp [h]
theorem ixLast {ds : List D} {d : D} : oIx (.lst (ds ++ [d])) (.int (-1)) = .ok d := by
  unfold oIx
  simp only [atI, ixN]
  rw [if_neg (by omega), if_pos (by simp; omega)]
  have : (-1 + ((ds ++ [d]).length : Int)).toNat = ds.length := by simp; omega
  simp only [Option.bind_some, this]
  simp
theorem range'_in {a k : Nat} {done rest : List Nat} {N : Nat} (e : done ++ k :: rest = List.range' a N) : k = a + done.length ∧ done.length < N := by
  have hl := congrArg List.length e
  rw [List.length_append, List.length_cons, List.length_range'] at hl
  have hg : (List.range' a N)[done.length]? = some k := by rw [← e, List.getElem?_append_right (Nat.le_refl _), Nat.sub_self]; rfl
  rw [List.getElem?_range' (by omega)] at hg
  have := Option.some.inj hg
  omega
def KMf (n : Nat) (K : Nat → Int) (m : Nat) : Int := prodI ((memN n m).map K)
def foundQ (g : Nat → List Int → Int) (n : Nat) (K : Nat → Int) (k : Nat) : D := fr (partV (totM g n k) (KMf n K k))
section
variable {kn : D} {n : Nat} {g0 : Nat → List Int → Int} {K : Nat → Int} (Q : Wo kn n g0 K) (must never : Prs) (most : Option Int) (h1 : must.length ≤ 1000) (h2 : never.length ≤ 1000)
abbrev StQ (kn : D) (n : Nat) (must never : Prs) (most : Option Int) (ds : List D) (m : Nat) (o7 o8 o9 : Option O) : DS := [some (.im (kn)), some (.im (.int (n : Int))), some (.im (tP must)), some (.im (tP never)), some (.im (capD most)), some (.ow ds), some (.im (.int (m : Int))), o7, o8, o9]
include Q
theorem KM_mul {m u : Nat} (hm : m < 2 ^ n) (hu : u ∈ seqM m) : KMf n K (m ^^^ u) * KMf n K u = KMf n K m := by
  obtain ⟨_, _, _, _, hp⟩ := (mask_ok Q.h6 hm).u u hu
  unfold KMf
  rw [← prodI_app, ← List.map_append]
  exact prodI_perm (hp.map K)
theorem KM_1 (m : Nat) : 1 ≤ KMf n K m ∧ KMf n K m * KMf n K m < 2 ^ 9000 := ⟨(prodK_sub Q (memN_sub n m)).1, prodK_mul Q (memN_sub n m) (memN_sub n m)⟩
theorem cap_sm (m : Nat) : 0 ≤ capM (gMay g0 must never most) n m ∧ (capM (gMay g0 must never most) n m).natAbs * 128 < bigN := by
  unfold capM
  have hs := memN_sub n m
  refine sg_prod (fun x hx => ?_) (by rw [List.length_map]; have := hs.length_le; rw [List.length_range] at this; have := Q.h6; omega)
  obtain ⟨c, hc, rfl⟩ := List.mem_map.mp hx
  exact gMay_sig Q must never most (List.mem_range.mp (hs.subset hc)) (List.Sublist.refl _)
theorem term_sm {m u : Nat} (hm : m < 2 ^ n) (hu : u ∈ seqM m) : (termM (gMay g0 must never most) n m u).natAbs ≤ (capM (gMay g0 must never most) n m).natAbs := by
  obtain ⟨_, t1, t2⟩ := term_cap (gMay_nn Q must never most) Q.h6 hm hu
  unfold termM
  rw [Int.natAbs_mul, Int.natAbs_neg, sgn_abs, Nat.one_mul]
  omega
include h1 h2
theorem tot_turn {m u : Nat} (hm : m < 2 ^ n) (hu : u ∈ seqM m) {ds : List D} (hds : ds[m ^^^ u]? = some (foundQ (gMay g0 must never most) n K (m ^^^ u))) {acc : Int} (ha : acc.natAbs < bigN) (o9 : Option O) :
    ∃ o9', g_total_by_l1 (StQ kn n must never most ds m (some (.im (fr (partV acc (KMf n K m))))) (some (.im (.int (u : Int)))) o9) = .nx (StQ kn n must never most ds m (some (.im (fr (partV (acc + termM (gMay g0 must never most) n m u) (KMf n K m))))) (some (.im (.int (((u - 1) &&& m : Nat) : Int)))) o9') := by
  have M := mask_ok Q.h6 hm
  obtain ⟨m1, m2, m3, m4, m5⟩ := M.u u hu
  have m64 := lt64 Q.h6 hm
  have hx : Builtin.bitXor ((m : Nat) : Int) ((u : Nat) : Int) = (((m ^^^ u : Nat)) : Int) := xor_all ⟨m, m64⟩ ⟨u, by omega⟩
  have hand : Builtin.bitAnd (((u - 1 : Nat)) : Int) ((m : Nat) : Int) = ((((u - 1) &&& m : Nat)) : Int) := and_all ⟨u - 1, by omega⟩ ⟨m, m64⟩
  let σ := prodI ((memN n u).map fun c => sigG (gMay g0 must never most) (memN n (m ^^^ u)) c)
  have hlast := last_okQ Q must never most h1 h2 hm hu
  obtain ⟨p0, t1, t2⟩ := term_cap (gMay_nn Q must never most) Q.h6 hm hu
  have cs := cap_sm Q must never most m
  have cs2 := cap_sm Q must never most (m ^^^ u)
  have tc := tot_cap (n := n) (gMay_nn Q must never most) (m ^^^ u)
  have hσ : σ.natAbs * 128 < bigN := (sg_prod (l := (memN n u).map fun c => sigG (gMay g0 must never most) (memN n (m ^^^ u)) c) (fun x hx => by
    obtain ⟨c, hc, rfl⟩ := List.mem_map.mp hx
    exact gMay_sig Q must never most (List.mem_range.mp ((memN_sub n u).subset hc)) (memN_sub _ _)) (by
      rw [List.length_map]
      have := (memN_sub n u).length_le
      rw [List.length_range] at this
      have := Q.h6
      omega)).2
  have hKu := prodK_sub Q (memN_sub n u)
  have ht := timesQ (a := totM (gMay g0 must never most) n (m ^^^ u)) (b := KMf n K (m ^^^ u)) (c := σ) (d := KMf n K u) (KM_1 Q _).1 (KM_1 Q _).1 (by omega) (by omega) (prodK_mul Q (memN_sub n _) (memN_sub n u))
  rw [KM_mul Q hm hu] at ht
  let part := fr (partV (totM (gMay g0 must never most) n (m ^^^ u) * σ) (KMf n K m))
  have e1 : (cLookL 5 (cFn0 F_times (cCons (cBin oIx (cVar 5) (cBin oXor (cVar 6) (cVar 8))) (cCons (cFn0 F_last_ones (cCons (cVar 0) (cCons (cVar 1) (cCons (cVar 6) (cCons (cVar 8) (cCons (cTup (cCons (cVar 2) (cCons (cVar 3) (cCons (cVar 4) cNil)))) cNil)))))) cNil)))) (StQ kn n must never most ds m (some (.im (fr (partV acc (KMf n K m))))) (some (.im (.int (u : Int)))) o9) = .ok part := by
    have e0 : (cCons (cBin oIx (cVar 5) (cBin oXor (cVar 6) (cVar 8))) (cCons (cFn0 F_last_ones (cCons (cVar 0) (cCons (cVar 1) (cCons (cVar 6) (cCons (cVar 8) (cCons (cTup (cCons (cVar 2) (cCons (cVar 3) (cCons (cVar 4) cNil)))) cNil)))))) cNil)) [some (.im (kn)), some (.im (.int (n : Int))), some (.im (tP must)), some (.im (tP never)), some (.im (capD most)), some (.im (.lst ds)), some (.im (.int (m : Int))), some (.im (fr (partV acc (KMf n K m)))), some (.im (.int (u : Int))), o9] = .ok [foundQ (gMay g0 must never most) n K (m ^^^ u), fr (partV σ (KMf n K u))] := by
      rw [ev_cons, ev_cons]
      have a1 : (cBin oIx (cVar 5) (cBin oXor (cVar 6) (cVar 8))) [some (.im (kn)), some (.im (.int (n : Int))), some (.im (tP must)), some (.im (tP never)), some (.im (capD most)), some (.im (.lst ds)), some (.im (.int (m : Int))), some (.im (fr (partV acc (KMf n K m)))), some (.im (.int (u : Int))), o9] = .ok (foundQ (gMay g0 must never most) n K (m ^^^ u)) := by
        show oIx (.lst ds) (.int (Builtin.bitXor (m : Int) (u : Int))) = _
        rw [hx]
        exact ixLst hds
      have a2 : (cFn0 F_last_ones (cCons (cVar 0) (cCons (cVar 1) (cCons (cVar 6) (cCons (cVar 8) (cCons (cTup (cCons (cVar 2) (cCons (cVar 3) (cCons (cVar 4) cNil)))) cNil)))))) [some (.im (kn)), some (.im (.int (n : Int))), some (.im (tP must)), some (.im (tP never)), some (.im (capD most)), some (.im (.lst ds)), some (.im (.int (m : Int))), some (.im (fr (partV acc (KMf n K m)))), some (.im (.int (u : Int))), o9] = .ok (fr (partV σ (KMf n K u))) := by
        show F_last_ones [kn, .int (n : Int), .int (m : Int), .int (u : Int), .tup [tP must, tP never, capD most]] = _
        exact hlast
      rw [a1, a2]
      rfl
    show noLstR ((cCons (cBin oIx (cVar 5) (cBin oXor (cVar 6) (cVar 8))) (cCons (cFn0 F_last_ones (cCons (cVar 0) (cCons (cVar 1) (cCons (cVar 6) (cCons (cVar 8) (cCons (cTup (cCons (cVar 2) (cCons (cVar 3) (cCons (cVar 4) cNil)))) cNil)))))) cNil)) [some (.im (kn)), some (.im (.int (n : Int))), some (.im (tP must)), some (.im (tP never)), some (.im (capD most)), some (.im (.lst ds)), some (.im (.int (m : Int))), some (.im (fr (partV acc (KMf n K m)))), some (.im (.int (u : Int))), o9] |>.bind F_times) = _
    rw [e0, Res.bind_ok]
    unfold foundQ
    rw [ht]
    rfl
  have hmem := members_okQ (n := n) (m := u) Q.h6 (by omega)
  have hle : (memN n u).length ≤ 6 := by
    have := (memN_sub n u).length_le
    rw [List.length_range] at this
    have := Q.h6
    omega
  have t1' : totM (gMay g0 must never most) n (m ^^^ u) * σ ≤ capM (gMay g0 must never most) n m := t1
  have t2' : 0 ≤ totM (gMay g0 must never most) n (m ^^^ u) * σ := t2
  have hp := plusQ (a := acc) (b := totM (gMay g0 must never most) n (m ^^^ u) * σ) (KM_1 Q m).1 ha (by omega) (KM_1 Q m).2
  have hmi := minusQ (a := acc) (b := totM (gMay g0 must never most) n (m ^^^ u) * σ) (KM_1 Q m).1 ha (by omega) (KM_1 Q m).2
  let δ1 : DS := StQ kn n must never most ds m (some (.im (fr (partV acc (KMf n K m))))) (some (.im (.int (u : Int)))) (some (.im part))
  have et : (cTest (cBin oEq (cBin oMod (cCall gLen (cCons (cFn0 F_members (cCons (cVar 8) (cCons (cVar 1) cNil))) cNil)) (cC (.int 2))) (cC (.int 1)))) δ1 = .ok (decide ((memN n u).length % 2 = 1)) := by
    have b1 : (cCall gLen (cCons (cFn0 F_members (cCons (cVar 8) (cCons (cVar 1) cNil))) cNil)) δ1 = .ok (.int ((memN n u).length : Int)) := by
      show ((F_members [.int (u : Int), .int (n : Int)]).bind fun d => Res.bind (.ok []) fun ds => .ok (d :: ds)).bind gLen = _
      rw [hmem]
      show gLen [.lst ((mI (memN n u)).map D.int)] = _
      unfold gLen
      simp [mI]
    show ((((cCall gLen (cCons (cFn0 F_members (cCons (cVar 8) (cCons (cVar 1) cNil))) cNil)) δ1).bind fun x => Res.bind (.ok (.int 2)) fun y => oMod x y).bind fun x => Res.bind (.ok (.int 1)) fun y => oEq x y).bind asB = _
    rw [b1]
    show ((oMod (.int ((memN n u).length : Int)) (.int 2)).bind fun x => Res.bind (.ok (.int 1)) fun y => oEq x y).bind asB = _
    rw [oMod_pos (by omega)]
    show (oEq (.int (((memN n u).length : Int) % 2)) (.int 1)).bind asB = _
    rw [oEq_int]
    show Res.ok _ = _
    congr 1
    rw [decide_eq_decide]
    omega
  have e2 : (cIfE (cTest (cBin oEq (cBin oMod (cCall gLen (cCons (cFn0 F_members (cCons (cVar 8) (cCons (cVar 1) cNil))) cNil)) (cC (.int 2))) (cC (.int 1)))) (cFn0 F_plus (cCons (cVar 7) (cCons (cVar 9) cNil))) (cFn0 F_minus (cCons (cVar 7) (cCons (cVar 9) cNil)))) δ1 = .ok (fr (partV (acc + termM (gMay g0 must never most) n m u) (KMf n K m))) := by
    have eσ : termM (gMay g0 must never most) n m u = -sgnL (memN n u) * (totM (gMay g0 must never most) n (m ^^^ u) * σ) := rfl
    show ((cTest (cBin oEq (cBin oMod (cCall gLen (cCons (cFn0 F_members (cCons (cVar 8) (cCons (cVar 1) cNil))) cNil)) (cC (.int 2))) (cC (.int 1)))) δ1).bind (fun b => if b = true then F_plus [fr (partV acc (KMf n K m)), part] else F_minus [fr (partV acc (KMf n K m)), part]) = _
    rw [et, Res.bind_ok, eσ, sgn_odd]
    by_cases ho : (memN n u).length % 2 = 1
    · rw [if_pos (by simpa using ho), if_pos ho, hp]
      congr 4
      omega
    · rw [if_neg (by simpa using ho), if_neg ho, hmi]
      congr 4
      omega
  refine ⟨some (.im part), ?_⟩
  unfold g_total_by_l1
  refine seq_nx (δ' := δ1) (asg_nx (d := part) e1) (seq_nx (δ' := StQ kn n must never most ds m (some (.im (fr (partV (acc + termM (gMay g0 must never most) n m u) (KMf n K m))))) (some (.im (.int (u : Int)))) (some (.im part))) (asg_nx e2) (asg_nx (d := .int (((u - 1) &&& m : Nat) : Int)) ?_))
  show oAnd (.int ((u : Int) - 1)) (.int (m : Int)) = _
  rw [show ((u : Int) - 1) = (((u - 1 : Nat)) : Int) by omega]
  show Res.ok (D.int (Builtin.bitAnd (((u - 1 : Nat)) : Int) (m : Int))) = _
  rw [hand]
theorem tot_loop {m : Nat} (hm : m < 2 ^ n) {ds : List D} (hds : ∀ k, k < m → ds[k]? = some (foundQ (gMay g0 must never most) n K k)) : ∀ (f u : Nat) (acc : Int) (o9 : Option O), u < f → (∀ v ∈ seqF m f u, v ∈ seqM m) → acc.natAbs + (seqF m f u).length * (capM (gMay g0 must never most) n m).natAbs < bigN →
    ∃ o9', whileF (cTest (cBin oGt (cVar 8) (cC (.int 0)))) g_total_by_l1 f (StQ kn n must never most ds m (some (.im (fr (partV acc (KMf n K m))))) (some (.im (.int (u : Int)))) o9) = .nx (StQ kn n must never most ds m (some (.im (fr (partV (acc + ((seqF m f u).map (termM (gMay g0 must never most) n m)).sum) (KMf n K m))))) (some (.im (.int 0))) o9')
  | 0, u, _, _, h, _, _ => by omega
  | f + 1, u, acc, o9, h, hs, hb => by
    have ht : (cTest (cBin oGt (cVar 8) (cC (.int 0)))) (StQ kn n must never most ds m (some (.im (fr (partV acc (KMf n K m))))) (some (.im (.int (u : Int)))) o9) = .ok (decide (0 < u)) := by
      show (oGt (.int (u : Int)) (.int 0)).bind asB = _
      show Res.ok (decide ((0 : Int) < (u : Int))) = _
      congr 1
      rw [decide_eq_decide]
      omega
    rw [whileF, ht]
    by_cases hu : u = 0
    · subst hu
      refine ⟨o9, ?_⟩
      have : seqF m (f + 1) 0 = [] := rfl
      rw [this]
      simp
    · have hd : decide (0 < u) = true := by simp; omega
      rw [hd]
      dsimp only
      have es : seqF m (f + 1) u = u :: seqF m f ((u - 1) &&& m) := by rw [seqF, if_neg hu]
      rw [es] at hs hb ⊢
      have hum := hs u (by simp)
      obtain ⟨_, _, m3, _, _⟩ := (mask_ok Q.h6 hm).u u hum
      have hts := term_sm Q must never most hm hum
      rw [List.length_cons, Nat.succ_mul] at hb
      have ha : acc.natAbs < bigN := by omega
      obtain ⟨p9, e1⟩ := tot_turn Q must never most h1 h2 hm hum (hds _ m3) ha o9
      rw [e1]
      dsimp only
      have hlt : (u - 1) &&& m < f := Nat.lt_of_le_of_lt Nat.and_le_left (by omega)
      obtain ⟨q9, e2⟩ := tot_loop hm hds f ((u - 1) &&& m) (acc + termM (gMay g0 must never most) n m u) p9 hlt (fun v hv => hs v (by simp [hv])) (by omega)
      refine ⟨q9, ?_⟩
      rw [e2, List.map_cons, List.sum_cons, Int.add_assoc]
theorem total_by_okQ : F_total_by [kn, .int (n : Int), tP must, tP never, capD most] = .ok (fr (partV (totM (gMay g0 must never most) n (2 ^ n - 1)) (KMf n K (2 ^ n - 1)))) := by
  have hn1 := Q.h1
  have hn6 := Q.h6
  have hp : 2 ^ n ≤ 64 := Nat.le_trans (Nat.pow_le_pow_right (by decide) hn6) (by decide)
  have hp1 : 2 ≤ 2 ^ n := Nat.le_trans (by decide) (Nat.pow_le_pow_right (by decide) hn1)
  let F := fun k => foundQ (gMay g0 must never most) n K k
  let B : List D → Option O → Option O → Option O → Option O → DS := fun ds o6 o7 o8 o9 => [some (.im (kn)), some (.im (.int (n : Int))), some (.im (tP must)), some (.im (tP never)), some (.im (capD most)), some (.ow ds), o6, o7, o8, o9]
  have h0 : F 0 = fr (1, 1) := by
    show fr (partV (totM (gMay g0 must never most) n 0) (KMf n K 0)) = _
    rw [totM_0 hn1 hn6]
    have : KMf n K 0 = 1 := by
      unfold KMf
      have : memN n 0 = [] := by unfold memN; simp
      rw [this]
      rfl
    rw [this, part_11]
  have hshl : oShl (.int 1) (.int (n : Int)) = .ok (.int ((2 ^ n : Nat) : Int)) := by
    unfold oShl
    dsimp only
    rw [if_pos ⟨by omega, by omega, by decide⟩]
    congr 2
    simp
  obtain ⟨δ2, e1, o6, o7, o8, o9, rfl⟩ := for_done (fun (k : Nat) => D.int (k : Int)) (fun done δ => ∃ o6 o7 o8 o9, δ = B ((List.range (done.length + 1)).map F) o6 o7 o8 o9) (fi := cIt gRange2 (cCons (cC (.int 1)) (cCons (cBin oShl (cC (.int 1)) (cVar 1)) cNil))) (b := bName 6) (g := g_total_by_l2) (List.range' 1 (2 ^ n - 1)) (δ := B [fr (1, 1)] none none none none) (by
      have r := rg2 (a := 1) (b := 2 ^ n) (by omega) (by omega)
      show ((cCons (cC (.int 1)) (cCons (cBin oShl (cC (.int 1)) (cVar 1)) cNil)) (B [fr (1, 1)] none none none none)).bind gRange2 = _
      rw [ev_cons, ev_cons]
      have : (cBin oShl (cC (.int 1)) (cVar 1)) (B [fr (1, 1)] none none none none) = .ok (.int ((2 ^ n : Nat) : Int)) := hshl
      rw [this]
      exact r) ⟨none, none, none, none, by
      show _ = B ([F 0]) none none none none
      rw [h0]⟩ (by
    rintro done m rest δ hall ⟨o6, o7, o8, o9, rfl⟩
    obtain ⟨hm1, hm2⟩ := range'_in hall
    have hm : m < 2 ^ n := by omega
    have hm0 : m ≠ 0 := by omega
    have M := mask_ok hn6 hm
    have K1 := KM_1 Q m
    have hcap := cap_sm Q must never most m
    have hds : ∀ k, k < m → ((List.range (done.length + 1)).map F)[k]? = some (foundQ (gMay g0 must never most) n K k) := fun k hk => by
      rw [List.getElem?_map, List.getElem?_range (by omega)]
      rfl
    obtain ⟨q9, e2⟩ := tot_loop Q must never most h1 h2 hm hds (m + 1) m 0 o9 (by omega) (fun v hv => hv) (by
      have hl : (seqF m (m + 1) m).length ≤ 63 := M.len
      have := Nat.mul_le_mul_right (capM (gMay g0 must never most) n m).natAbs hl
      have := hcap.2
      show (0 : Int).natAbs + _ < bigN
      rw [show (0 : Int).natAbs = 0 from rfl]
      omega)
    rw [show seqF m (m + 1) m = seqM m from rfl, Int.zero_add, ← totM_step hn1 hn6 hm hm0, part_0 K1.1] at e2
    refine ⟨B ((List.range (done.length + 1)).map F) (some (.im (.int (m : Int)))) o7 o8 o9, _, rfl, ?_, some (.im (.int (m : Int))), some (.im (F m)), some (.im (.int 0)), q9, rfl⟩
    unfold g_total_by_l2
    refine seq_nx (δ' := B ((List.range (done.length + 1)).map F) (some (.im (.int (m : Int)))) (some (.im (fr (0, 1)))) o8 o9) rfl (seq_nx (δ' := B ((List.range (done.length + 1)).map F) (some (.im (.int (m : Int)))) (some (.im (fr (0, 1)))) (some (.im (.int (m : Int)))) o9) rfl (seq_nx (δ' := B ((List.range (done.length + 1)).map F) (some (.im (.int (m : Int)))) (some (.im (F m))) (some (.im (.int 0))) q9) ?_ ?_))
    · show whileF _ _ (((m : Int)).natAbs + 1) _ = _
      rw [show ((m : Int)).natAbs = m from by omega]
      exact e2
    · rw [ev_app]
      dsimp only [B, List.getElem?_cons_succ, List.getElem?_cons_zero]
      show stE (.ok (F m)) _ _ = _
      rw [stE_ok, if_pos (by rw [List.length_map, List.length_range, sizeLine_eq]; omega)]
      have : (List.range ((done ++ [m]).length + 1)).map F = (List.range (done.length + 1)).map F ++ [F m] := by
        rw [List.length_append, List.length_singleton, List.range_succ, List.map_append, show done.length + 1 = m by omega]
        rfl
      rw [this]
      rfl)
  show flR (g_total_by (B [] none none none none |>.set 5 none)) = _
  unfold g_total_by
  have hl : (List.range' 1 (2 ^ n - 1)).length + 1 = (2 ^ n - 1) + 1 := by rw [List.length_range']
  have er : (List.range ((List.range' 1 (2 ^ n - 1)).length + 1)).map F = (List.range (2 ^ n - 1)).map F ++ [F (2 ^ n - 1)] := by
    rw [hl, List.range_succ, List.map_append]
    rfl
  have e3 : cFz 5 (cRet (cBin oIx (cVar 5) (cUn oNeg (cC (.int 1))))) (B ((List.range ((List.range' 1 (2 ^ n - 1)).length + 1)).map F) o6 o7 o8 o9) = .rt (F (2 ^ n - 1)) := by
    rw [er]
    show cRet (cBin oIx (cVar 5) (cUn oNeg (cC (.int 1)))) [some (.im (kn)), some (.im (.int (n : Int))), some (.im (tP must)), some (.im (tP never)), some (.im (capD most)), some (.im (.lst ((List.range (2 ^ n - 1)).map F ++ [F (2 ^ n - 1)]))), o6, o7, o8, o9] = _
    refine ret_rt ?_
    exact ixLast
  exact (congrArg flR (seq_nx (δ' := B [fr (1, 1)] none none none none) rfl (seq_nx e1 e3))).trans rfl
end
end My
namespace My
open PySem L2 DV
theorem eqL_nil {neg : Bool} (L : List (List Int)) : oEqB neg (.lst (L.map tI)) (.lst []) = .ok (.bl (if neg then !decide (L = []) else decide (L = []))) := by
  have h1 : D.nbA (L.map tI) = true := D.nbA_of fun d hd => by obtain ⟨l, _, rfl⟩ := List.mem_map.mp hd; exact nb_tI l
  have h2 : D.depA (L.map tI) ≤ 1 := D.depA_of fun d hd => by
    obtain ⟨l, _, rfl⟩ := List.mem_map.mp hd
    show D.depA (l.map D.int) + 1 ≤ 1
    have := D.dep_ints l
    omega
  rw [oEqB_nb (by rw [D.nb]; exact h1) (by rfl) (by rw [D.dep]; omega) (by decide)]
  have : (D.lst (L.map tI) = D.lst []) ↔ L = [] := ⟨fun h => by simpa using D.lst.inj h, fun h => by rw [h]; rfl⟩
  simp only [this]
def capB (w : Web) : Option Int → Bool
  | none => true
  | some k => w.all fun l => decide ((l.length : Int) ≤ k)
def keptB (w : Web) (needs nots : Prs) (cap : Option Int) : Bool := (needs.all fun p => decide ([p.1, p.2] ∈ arrL w)) && (nots.all fun p => !decide ([p.1, p.2] ∈ arrL w)) && capB w cap
theorem gMax_ints {x : Int} {l : List Int} : gMax [.lst ((x :: l).map D.int)] = .ok (.int (maxI x l)) := by
  unfold gMax gInts
  simp only [intsD_map]
theorem kept_ok (w : Web) (h0 : w ≠ []) (hz : w.length ≤ 10) (hl : ∀ l ∈ w, l.length < 64) (needs nots : Prs) (cap : Option Int) (h1 : needs.length ≤ 1000) (h2 : nots.length ≤ 1000) : F__law_kept [tW w, tP needs, tP nots, capD cap] = .ok (.bl (keptB w needs nots cap)) := by
  unfold F__law_kept
  rw [defF_ev]
  show flR (g__law_kept [some (.im (tW w)), some (.im (tP needs)), some (.im (tP nots)), some (.im (capD cap)), none, none, none]) = _
  unfold g__law_kept keptB
  have a1 : cAsg 4 (cFn0 F__law_arrows (cCons (cVar 0) cNil)) [some (.im (tW w)), some (.im (tP needs)), some (.im (tP nots)), some (.im (capD cap)), none, none, none] = .nx [some (.im (tW w)), some (.im (tP needs)), some (.im (tP nots)), some (.im (capD cap)), some (.im (.lst ((sortT (arrL w)).map tI))), none, none] := by
    refine asg_nx ?_
    simp [law_arrows_ok w hz hl]
  have hin : ∀ p : Int × Int, (cBin (oInA false) (cVar 5) (cVar 4)) [some (.im (tW w)), some (.im (tP needs)), some (.im (tP nots)), some (.im (capD cap)), some (.im (.lst ((sortT (arrL w)).map tI))), some (.im (pD p)), none] = .ok (.bl (decide ([p.1, p.2] ∈ arrL w))) := fun p => by
    have := in_tI (neg := false) [p.1, p.2] (sortT (arrL w))
    simp only [ev_bin, ev_var, List.getElem?_cons_succ, List.getElem?_cons_zero, Res.bind_ok]
    rw [show pD p = tI [p.1, p.2] from rfl, this]
    simp only [mem_sortT, Bool.false_eq_true, if_false]
  have t1 : cNotT (cTest (cCall gAll (cCons (cL (cLc [5] (cItems (cVar 1)) (bName 5) cYes (cBin (oInA false) (cVar 5) (cVar 4)))) cNil))) [some (.im (tW w)), some (.im (tP needs)), some (.im (tP nots)), some (.im (capD cap)), some (.im (.lst ((sortT (arrL w)).map tI))), none, none] = .ok (!(needs.all fun p => decide ([p.1, p.2] ∈ arrL w))) :=
    not_ok (test_ok (all_lc pD _ needs (by simp) (small_z h1) fun p hp => ⟨_, rfl, hin p⟩))
  have t2 : cTest (cBin oNe (cL (cLc [5] (cItems (cVar 2)) (bName 5) (cTest (cBin (oInA false) (cVar 5) (cVar 4))) (cVar 5))) (cL cNil)) [some (.im (tW w)), some (.im (tP needs)), some (.im (tP nots)), some (.im (capD cap)), some (.im (.lst ((sortT (arrL w)).map tI))), none, none] = .ok (!(nots.all fun p => !decide ([p.1, p.2] ∈ arrL w))) := by
    have hlc := lc_keep (δ := [some (.im (tW w)), some (.im (tP needs)), some (.im (tP nots)), some (.im (capD cap)), some (.im (.lst ((sortT (arrL w)).map tI))), none, none]) (vs := [5]) (fi := cItems (cVar 2)) (b := bName 5) (t := cTest (cBin (oInA false) (cVar 5) (cVar 4))) (e := cVar 5) pD (fun p => decide ([p.1, p.2] ∈ arrL w)) pD nots (by simp) (small_z h2) (fun p hp => ⟨_, rfl, test_ok (hin p), fun _ => rfl⟩)
    refine test_ok ?_
    rw [ev_bin, ev_L, hlc]
    simp only [ev_L, ev_nil, Res.bind_ok]
    have e := eqL_nil (neg := true) ((nots.filter fun p => decide ([p.1, p.2] ∈ arrL w)).map fun p => [p.1, p.2])
    rw [List.map_map] at e
    rw [show oNe (.lst ((nots.filter fun p => decide ([p.1, p.2] ∈ arrL w)).map pD)) (.lst []) = _ from e]
    simp only [if_true, List.map_eq_nil_iff, List.filter_eq_nil_iff]
    congr 3
    rw [Bool.eq_iff_iff, decide_eq_true_eq, List.all_eq_true]
    simp
  rw [seq_nx a1 rfl, ev_seq, if_b (!((needs.all fun p => decide ([p.1, p.2] ∈ arrL w)) && nots.all fun p => !decide ([p.1, p.2] ∈ arrL w))) (by
    rw [ev_orT, t1, t2]
    cases needs.all fun p => decide ([p.1, p.2] ∈ arrL w) <;> simp)]
  cases (needs.all fun p => decide ([p.1, p.2] ∈ arrL w)) && nots.all fun p => !decide ([p.1, p.2] ∈ arrL w) with
  | false => simp
  | true =>
    simp only [Bool.not_true, Bool.false_eq_true, if_false, ev_next, Fl.then, Bool.true_and]
    cases cap with
    | none => simp [capD, D.non, DV.isNon, capB]
    | some k =>
      obtain ⟨l, w', rfl⟩ := List.exists_cons_of_ne_nil h0
      have hlc := lcF_map tI (fun l => D.int (l.length : Nat)) (b := bName 6) (t := cYes) (e := cCall gLen (cCons (cVar 6) cNil)) (δ := [some (.im (tW (l :: w'))), some (.im (tP needs)), some (.im (tP nots)), some (.im (capD (some k))), some (.im (.lst ((sortT (arrL (l :: w'))).map tI))), none, none]) (l :: w') (fun x hx => ⟨_, rfl, rfl, by simp⟩)
      have hmx : gMax [.lst ((l :: w').map fun l => D.int (l.length : Nat))] = .ok (.int (maxI (l.length : Nat) (w'.map fun l => ((l.length : Nat) : Int)))) := by
        rw [← gMax_ints]
        simp [Function.comp_def]
      have hz' : (l :: w').length ≤ sizeLine := small_z (by omega)
      have hm : (cCall gMax (cCons (cL (cLc [6] (cItems (cVar 0)) (bName 6) cYes (cCall gLen (cCons (cVar 6) cNil)))) cNil)) [some (.im (tW (l :: w'))), some (.im (tP needs)), some (.im (tP nots)), some (.im (capD (some k))), some (.im (.lst ((sortT (arrL (l :: w'))).map tI))), none, none] = .ok (.int (maxI (l.length : Nat) (w'.map fun l => ((l.length : Nat) : Int)))) := by
        simp only [ev_call, ev_cons, ev_L, ev_lc, ev_items, ev_var, ev_nil, List.getElem?_cons_succ, List.getElem?_cons_zero, Res.bind_ok, tW_items, List.length_map, if_pos hz', ev_wipe1, ev_wipe0, List.set_cons_succ, List.set_cons_zero, hlc, hmx]
      rw [ev_ret, ev_orV, ev_bin, ev_bin, hm]
      simp only [ev_var, ev_c, List.getElem?_cons_succ, List.getElem?_cons_zero, Res.bind_ok, capD, D.int, D.non, ev_isN, DV.isNon, Bool.false_eq_true, if_false, oLe_int, stE_ok, flR, capB]
      congr 3
      have sp := maxI_spec (w'.map fun l => ((l.length : Nat) : Int)) (l.length : Nat)
      rw [Bool.eq_iff_iff, decide_eq_true_eq, List.all_eq_true]
      simp only [decide_eq_true_eq]
      constructor
      · intro h x hx
        have := sp.2 ((x.length : Nat) : Int) (by
          rcases List.mem_cons.mp hx with rfl | hx
          · simp
          · exact List.mem_cons_of_mem _ (List.mem_map.mpr ⟨x, hx, rfl⟩))
        omega
      · intro h
        rcases List.mem_cons.mp sp.1 with e | e
        · rw [e]; exact h l (by simp)
        · obtain ⟨x, hx, e2⟩ := List.mem_map.mp e
          rw [← e2]; exact h x (by simp [hx])
theorem keep_kept {w : Web} (hg : goodW w = true) (must never : Prs) (most : Option Int) : keepB w must never most = keptB w must never most := by
  have hp : plainW w = true := by unfold goodW at hg; exact (Bool.and_eq_true _ _ ▸ hg).1
  unfold keepB keptB
  rw [hg, Bool.true_and, Bool.and_assoc]
  by_cases hm : (must.all fun p => decide ([p.1, p.2] ∈ arrL w)) = true
  case neg => simp [hm]
  rw [hm, Bool.true_and, Bool.true_and, Bool.eq_iff_iff, Bool.and_eq_true]
  simp only [List.all_eq_true, decide_eq_true_eq, Bool.not_eq_true', decide_eq_false_iff_not] at hm ⊢
  simp only [mayB, Bool.and_eq_true, Bool.not_eq_true', List.all_eq_true, List.mem_range, List.any_eq_false, decide_eq_true_eq, List.mem_filter, not_and]
  constructor
  · intro h
    refine ⟨fun p hp' ha => ?_, ?_⟩
    · obtain ⟨c, hc, hx⟩ := List.mem_flatMap.mp ha
      obtain ⟨x, hx, e⟩ := List.mem_map.mp hx
      simp only [List.cons.injEq, and_true] at e
      have hcl := List.mem_range.mp hc
      exact (h c hcl).1.2 p hp' e.2.symm (by rw [← e.1]; exact hx)
    · unfold capB
      cases most with
      | none => rfl
      | some k =>
        rw [List.all_eq_true]
        intro l hl
        obtain ⟨c, hc, e⟩ := List.mem_iff_getElem.mp hl
        have := (h c hc).1.1
        have el : leanW w c = l := by
          unfold leanW
          rw [List.getD_eq_getElem?_getD, List.getElem?_eq_getElem hc, ← e]
          rfl
        rw [el, overB, decide_eq_false_iff_not] at this
        rw [decide_eq_true_eq]
        omega
  · rintro ⟨h1, h2⟩ c hc
    refine ⟨⟨?_, fun p hp' e hx => ?_⟩, fun p hp' => ?_⟩
    · unfold capB at h2
      unfold overB
      cases most with
      | none => rfl
      | some k =>
        rw [List.all_eq_true] at h2
        have := h2 _ (mem_lean hc)
        rw [decide_eq_true_eq] at this
        rw [decide_eq_false_iff_not]
        omega
    · exact h1 p hp' (by rw [e]; exact arrL_mem.mpr ⟨hc, hx⟩)
    · have := hm p hp'.1
      rw [hp'.2] at this
      exact (arrL_mem.mp this).2
end My
namespace My
open PySem L2 DV
def tri : Nat → Nat
  | 0 => 0
  | k + 1 => tri k + k
theorem ix_ints {l : List Int} {i : Nat} (h : i < l.length) : oIx (.lst (l.map D.int)) (.v (.int (i : Int))) = .ok (.int l[i]) := by
  unfold oIx
  dsimp only
  rw [at_nat, List.getElem?_map, List.getElem?_eq_getElem h]
  rfl
abbrev nD (l : List Nat) : List D := l.map fun (k : Nat) => D.int (k : Int)
abbrev sW (c : Int) (n : Nat) (ds : List Int) (left line : List Nat) (o5 : Option O) (o6 o7 o8 o9 : Option O) : DS := [some (.im (.int c)), some (.im (.int (n : Int))), some (.im (.lst (ds.map D.int))), some (.ow (nD left)), some (.ow (nD line)), o5, o6, o7, o8, o9]
end My
namespace My
open PySem L2 DV
theorem digs_bd : ∀ (ss : List Int) (m : Int) (i : Nat) (hi : i < ss.length) (hj : i < (digs m ss).length), (∀ s ∈ ss, 0 < s) → 0 ≤ (digs m ss)[i] ∧ (digs m ss)[i] < ss[i]
  | [], _, i, hi, _, _ => by simp at hi
  | s :: ss, m, 0, _, _, hs => by
    have := hs s (by simp)
    exact ⟨Int.emod_nonneg _ (by omega), Int.emod_lt_of_pos _ this⟩
  | s :: ss, m, i + 1, hi, hj, hs => by
    have := digs_bd ss (m / s) i (by simpa using hi) (by simpa [digs] using hj) fun x hx => hs x (by simp [hx])
    simpa [digs] using this
theorem ix_pair0 (a b : Int) : oIx (tI [a, b]) (.v (.int 0)) = .ok (.int a) := by simp [tI, oIx, atI, ixN]
theorem ix_pair1 (a b : Int) : oIx (tI [a, b]) (.v (.int 1)) = .ok (.int b) := by simp [tI, oIx, atI, ixN]
abbrev sB (c : Int) (n : Nat) (ds : List Int) (needs nots : Prs) (o5 o6 o7 : Option O) : DS := [some (.im (.int c)), some (.im (.int (n : Int))), some (.im (.lst (ds.map D.int))), some (.ow (needs.map pD)), some (.ow (nots.map pD)), o5, o6, o7]
def prB (n : Nat) (P : Prs) : Prop := ∀ p ∈ P, ((0 ≤ p.1 ∧ p.1 < (n : Int)) ∧ 0 ≤ p.2 ∧ p.2 < (n : Int)) ∧ p.1 ≠ p.2
theorem prB.snoc {n : Nat} {P : Prs} {a b : Int} (h : prB n P) (ha : 0 ≤ a ∧ a < (n : Int)) (hb : 0 ≤ b ∧ b < (n : Int)) (ne : a ≠ b) : prB n (P ++ [(a, b)]) := fun p hp => by
  rcases List.mem_append.mp hp with hp | hp
  · exact h p hp
  · rw [List.mem_singleton.mp hp]; exact ⟨⟨ha, hb⟩, ne⟩
theorem bound_loop {c : Int} {n : Nat} {ds : List Int} (hd : ds.length = 12) (hbd : ∀ j (h : j < ds.length), 3 ≤ j → j < 11 → 0 ≤ ds[j] ∧ ds[j] < (n : Int)) : ∃ δ2, cFor (cIt gRange1 (cCons (cC (.int 4)) cNil)) (bName 5) g__law_bound_l1 (sB c n ds [] [] none none none) = .nx δ2 ∧ ∃ needs nots o5 o6, δ2 = sB c n ds needs nots o5 o6 none ∧ (needs.length ≤ 4 ∧ prB n needs) ∧ nots.length ≤ 4 ∧ prB n nots := by
  refine for_range (n := 4) (fun i δ => ∃ needs nots o5 o6, δ = sB c n ds needs nots o5 o6 none ∧ (needs.length ≤ i ∧ prB n needs) ∧ nots.length ≤ i ∧ prB n nots) rfl ⟨_, _, _, _, rfl, ⟨by simp, fun p hp => (by cases hp)⟩, by simp, fun p hp => (by cases hp)⟩ ?_
  rintro i δ hi ⟨needs, nots, o5, o6, rfl, l1, l2⟩
  have h1 : 3 + 2 * i < ds.length := by omega
  have h2 : 4 + 2 * i < ds.length := by omega
  have e1 := ix_ints h1
  have e2 := ix_ints h2
  have da := hbd (3 + 2 * i) h1 (by omega) (by omega)
  have db := hbd (4 + 2 * i) h2 (by omega) (by omega)
  generalize ds[3 + 2 * i] = a at e1 da
  generalize ds[4 + 2 * i] = b at e2 db
  have hm : oMul2 (.int 2) (.int (i : Int)) = .ok (.int (2 * (i : Int))) := oMul_int (mul_ok (a := 2) (b := 3) (by decide) (by omega) (by decide) (by decide) (by decide))
  have a1 : cAsg 6 (cTup (cCons (cBin oIx (cVar 2) (cBin oAdd (cC (.int 3)) (cBin oMul2 (cC (.int 2)) (cVar 5)))) (cCons (cBin oIx (cVar 2) (cBin oAdd (cC (.int 4)) (cBin oMul2 (cC (.int 2)) (cVar 5)))) cNil))) (sB c n ds needs nots (some (.im (.int (0 + (i : Int))))) o6 none) = .nx (sB c n ds needs nots (some (.im (.int (0 + (i : Int))))) (some (.im (pD (a, b)))) none) := by
    refine asg_nx (d := pD (a, b)) ?_
    simp only [ev_tup, ev_cons, ev_bin, ev_var, ev_c, ev_nil, sB, List.getElem?_cons_succ, List.getElem?_cons_zero, Res.bind_ok, Int.zero_add, D.int] at hm ⊢
    simp only [hm, Res.bind_ok, D.int, ev_add]
    rw [show (3 : Int) + 2 * (i : Int) = ((3 + 2 * i : Nat) : Int) by omega, show (4 : Int) + 2 * (i : Int) = ((4 + 2 * i : Nat) : Int) by omega, e1, e2]
    rfl
  have t0 : cTest (cBin oNe (cBin oIx (cVar 6) (cC (.int 0))) (cBin oIx (cVar 6) (cC (.int 1)))) (sB c n ds needs nots (some (.im (.int (0 + (i : Int))))) (some (.im (pD (a, b)))) none) = .ok (!decide (a = b)) := by
    refine test_ok ?_
    simp only [ev_bin, ev_var, ev_c, sB, List.getElem?_cons_succ, List.getElem?_cons_zero, Res.bind_ok, pD, D.int, ix_pair0, ix_pair1, ev_neI]
  have app3 : a ≠ b → ∀ (needs nots : Prs), (needs.length ≤ i ∧ prB n needs) → ∃ needs' : Prs, (needs'.length ≤ i + 1 ∧ prB n needs') ∧ cApp 3 (cVar 6) (sB c n ds needs nots (some (.im (.int (0 + (i : Int))))) (some (.im (pD (a, b)))) none) = .nx (sB c n ds needs' nots (some (.im (.int (0 + (i : Int))))) (some (.im (pD (a, b)))) none) := fun ne needs nots ⟨l, lp⟩ => by
    refine ⟨needs ++ [(a, b)], ⟨by simp; omega, lp.snoc da db ne⟩, ?_⟩
    have hz : (needs.map pD).length < sizeLine := Nat.lt_of_lt_of_le (m := 1000) (by simp; omega) (by decide)
    simp only [ev_app, ev_var, sB, List.getElem?_cons_succ, List.getElem?_cons_zero, stE_ok, if_pos hz, List.set_cons_succ, List.set_cons_zero, List.map_append, List.map_cons, List.map_nil]
  have app4 : a ≠ b → ∀ (needs nots : Prs), (nots.length ≤ i ∧ prB n nots) → ∃ nots' : Prs, (nots'.length ≤ i + 1 ∧ prB n nots') ∧ cApp 4 (cVar 6) (sB c n ds needs nots (some (.im (.int (0 + (i : Int))))) (some (.im (pD (a, b)))) none) = .nx (sB c n ds needs nots' (some (.im (.int (0 + (i : Int))))) (some (.im (pD (a, b)))) none) := fun ne needs nots ⟨l, lp⟩ => by
    refine ⟨nots ++ [(a, b)], ⟨by simp; omega, lp.snoc da db ne⟩, ?_⟩
    have hz : (nots.map pD).length < sizeLine := Nat.lt_of_lt_of_le (m := 1000) (by simp; omega) (by decide)
    simp only [ev_app, ev_var, sB, List.getElem?_cons_succ, List.getElem?_cons_zero, stE_ok, if_pos hz, List.set_cons_succ, List.set_cons_zero, List.map_append, List.map_cons, List.map_nil]
  have i0 := ix_ints (l := ds) (i := 0) (by omega)
  have i1 := ix_ints (l := ds) (i := 1) (by omega)
  rw [show ((0 : Nat) : Int) = 0 from rfl] at i0
  rw [show ((1 : Nat) : Int) = 1 from rfl] at i1
  have t1 : ∀ needs nots, ∃ q, cTest (cBin oLt (cVar 5) (cCall gMin (cCons (cC (.int 2)) (cCons (cBin oIx (cVar 2) (cC (.int 0))) cNil)))) (sB c n ds needs nots (some (.im (.int (0 + (i : Int))))) (some (.im (pD (a, b)))) none) = .ok q := fun needs nots => by
    refine ⟨_, test_ok (b := decide ((0 : Int) + (i : Int) < (if ds[0] < 2 then ds[0] else 2))) ?_⟩
    simp only [ev_bin, ev_var, ev_c, ev_call, ev_cons, ev_nil, sB, List.getElem?_cons_succ, List.getElem?_cons_zero, Res.bind_ok, D.int, i0]
    rfl
  have t2 : ∀ needs nots, ∃ q, cAndT (cTest (cBin oGe (cVar 5) (cC (.int 2)))) (cTest (cBin oLt (cBin oSub (cVar 5) (cC (.int 2))) (cBin oIx (cVar 2) (cC (.int 1))))) (sB c n ds needs nots (some (.im (.int (0 + (i : Int))))) (some (.im (pD (a, b)))) none) = .ok q := fun needs nots => by
    refine ⟨decide ((0 : Int) + (i : Int) ≥ 2) && decide ((0 : Int) + (i : Int) - 2 < ds[1]), ?_⟩
    simp only [ev_andT, ev_test, ev_bin, ev_var, ev_c, sB, List.getElem?_cons_succ, List.getElem?_cons_zero, Res.bind_ok, D.int, i1, ev_sub, ev_oI, ev_asB]
    cases decide ((0 : Int) + (i : Int) ≥ 2) <;> rfl
  by_cases hab : a = b
  · exact ⟨_, _, rfl, seq_nx a1 (if_f (t0.trans (by simp [hab])) rfl), needs, nots, _, _, rfl, ⟨by omega, l1.2⟩, by omega, l2.2⟩
  · obtain ⟨q1, t1'⟩ := t1 needs nots
    have s1 : ∃ needs' : Prs, (needs'.length ≤ i + 1 ∧ prB n needs') ∧ cIf (cTest (cBin oLt (cVar 5) (cCall gMin (cCons (cC (.int 2)) (cCons (cBin oIx (cVar 2) (cC (.int 0))) cNil))))) (cApp 3 (cVar 6)) cNext (sB c n ds needs nots (some (.im (.int (0 + (i : Int))))) (some (.im (pD (a, b)))) none) = .nx (sB c n ds needs' nots (some (.im (.int (0 + (i : Int))))) (some (.im (pD (a, b)))) none) := by
      cases q1 with
      | true => obtain ⟨x, hx, e⟩ := app3 hab needs nots l1; exact ⟨x, hx, if_t t1' e⟩
      | false => exact ⟨needs, ⟨by omega, l1.2⟩, if_f t1' rfl⟩
    obtain ⟨needs', hn', s1⟩ := s1
    obtain ⟨q2, t2'⟩ := t2 needs' nots
    have s2 : ∃ nots' : Prs, (nots'.length ≤ i + 1 ∧ prB n nots') ∧ cIf (cAndT (cTest (cBin oGe (cVar 5) (cC (.int 2)))) (cTest (cBin oLt (cBin oSub (cVar 5) (cC (.int 2))) (cBin oIx (cVar 2) (cC (.int 1)))))) (cApp 4 (cVar 6)) cNext (sB c n ds needs' nots (some (.im (.int (0 + (i : Int))))) (some (.im (pD (a, b)))) none) = .nx (sB c n ds needs' nots' (some (.im (.int (0 + (i : Int))))) (some (.im (pD (a, b)))) none) := by
      cases q2 with
      | true => obtain ⟨x, hx, e⟩ := app4 hab needs' nots l2; exact ⟨x, hx, if_t t2' e⟩
      | false => exact ⟨nots, ⟨by omega, l2.2⟩, if_f t2' rfl⟩
    obtain ⟨nots', hm', s2⟩ := s2
    exact ⟨_, _, rfl, seq_nx a1 (if_t (t0.trans (by simp [hab])) (seq_nx s1 s2)), needs', nots', _, _, rfl, hn', hm'⟩
theorem bound_ok (c : Int) (n : Nat) (hn : 1 ≤ n ∧ n ≤ 6) : ∃ (needs nots : Prs) (cap : Option Int), F__law_bound [.int c, .int (n : Int)] = .ok (.tup [tP needs, tP nots, capD cap]) ∧ (needs.length ≤ 4 ∧ prB n needs) ∧ nots.length ≤ 4 ∧ prB n nots := by
  obtain ⟨m, hm⟩ := draws_ok c [3, 3, 5, n, n, n, n, n, n, n, n, 3] (by intro s hs; simp at hs; omega) (by simp)
  have hb := digs_bd [3, 3, 5, (n : Int), n, n, n, n, n, n, n, 3] m
  generalize hds : digs m [3, 3, 5, (n : Int), n, n, n, n, n, n, n, 3] = ds at hm hb
  have hd : ds.length = 12 := by rw [← hds, digs_length]; rfl
  have hpos : ∀ s ∈ [3, 3, 5, (n : Int), n, n, n, n, n, n, n, 3], 0 < s := by intro s hs; simp at hs; omega
  have b2 := hb 2 (by simp) (by omega) hpos
  have b11 := hb 11 (by simp) (by omega) hpos
  have i2 := ix_ints (l := ds) (i := 2) (by omega)
  have i11 := ix_ints (l := ds) (i := 11) (by omega)
  rw [show ((2 : Nat) : Int) = 2 from rfl] at i2
  rw [show ((11 : Nat) : Int) = 11 from rfl] at i11
  have hbd : ∀ j (h : j < ds.length), 3 ≤ j → j < 11 → 0 ≤ ds[j] ∧ ds[j] < (n : Int) := fun j h h3 h11 => by
    have := hb j (by simp; omega) h hpos
    have e : [3, 3, 5, (n : Int), n, n, n, n, n, n, n, 3][j]'(by simp; omega) = (n : Int) := by
      have : j = 3 ∨ j = 4 ∨ j = 5 ∨ j = 6 ∨ j = 7 ∨ j = 8 ∨ j = 9 ∨ j = 10 := by omega
      rcases this with rfl | rfl | rfl | rfl | rfl | rfl | rfl | rfl <;> rfl
    rw [e] at this
    exact this
  obtain ⟨δ2, h1, needs, nots, o5, o6, rfl, l1, l2⟩ := bound_loop (c := c) (n := n) hd hbd
  generalize ds[2] = d2 at i2 b2
  generalize ds[11] = d11 at i11 b11
  simp only [List.getElem_cons_succ, List.getElem_cons_zero] at b2 b11
  have c1 : ∃ cap, (cBin oIx (cL (cCons (cC .non) (cCons (cC .non) (cCons (cC (.int 1)) (cCons (cC (.int 2)) (cCons (cC (.int 0)) cNil)))))) (cBin oIx (cVar 2) (cC (.int 2)))) (sB c n ds needs nots o5 o6 none) = .ok (capD cap) := by
    rw [ev_bin]
    have e : (cBin oIx (cVar 2) (cC (.int 2))) (sB c n ds needs nots o5 o6 none) = .ok (.int d2) := by
      simp only [ev_bin, ev_var, ev_c, sB, List.getElem?_cons_succ, List.getElem?_cons_zero, Res.bind_ok, D.int, i2]
    rw [e]
    have : d2 = 0 ∨ d2 = 1 ∨ d2 = 2 ∨ d2 = 3 ∨ d2 = 4 := by omega
    rcases this with rfl | rfl | rfl | rfl | rfl
    · exact ⟨none, rfl⟩
    · exact ⟨none, rfl⟩
    · exact ⟨some 1, rfl⟩
    · exact ⟨some 2, rfl⟩
    · exact ⟨some 0, rfl⟩
  obtain ⟨cap0, c1⟩ := c1
  have tt : cTest (cBin oEq (cBin oIx (cVar 2) (cC (.int 2))) (cC (.int 1))) (sB c n ds needs nots o5 o6 (some (.im (capD cap0)))) = .ok (decide (d2 = 1)) := by
    refine test_ok ?_
    simp only [ev_bin, ev_var, ev_c, sB, List.getElem?_cons_succ, List.getElem?_cons_zero, Res.bind_ok, D.int, i2, ev_eqI]
  have c2 : ∃ cap, cIf (cTest (cBin oEq (cBin oIx (cVar 2) (cC (.int 2))) (cC (.int 1)))) (cAsg 7 (cBin oIx (cL (cCons (cC .non) (cCons (cC (.int 3)) (cCons (cBin oPow (cC (.int 10)) (cC (.int 29))) cNil)))) (cBin oIx (cVar 2) (cC (.int 11))))) cNext (sB c n ds needs nots o5 o6 (some (.im (capD cap0)))) = .nx (sB c n ds needs nots o5 o6 (some (.im (capD cap)))) := by
    by_cases h : d2 = 1
    · have pw : oPow (.int 10) (.int 29) = .ok (.int (10 ^ 29)) := by rfl
      have e : (cBin oIx (cVar 2) (cC (.int 11))) (sB c n ds needs nots o5 o6 (some (.im (capD cap0)))) = .ok (.int d11) := by
        simp only [ev_bin, ev_var, ev_c, sB, List.getElem?_cons_succ, List.getElem?_cons_zero, Res.bind_ok, D.int, i11]
      have hl : cL (cCons (cC .non) (cCons (cC (.int 3)) (cCons (cBin oPow (cC (.int 10)) (cC (.int 29))) cNil))) (sB c n ds needs nots o5 o6 (some (.im (capD cap0)))) = .ok (.lst [.non, .int 3, .int (10 ^ 29)]) := by
        simp only [ev_L, ev_cons, ev_c, ev_bin, ev_nil, Res.bind_ok, pw]
      have : ∃ cap, (cBin oIx (cL (cCons (cC .non) (cCons (cC (.int 3)) (cCons (cBin oPow (cC (.int 10)) (cC (.int 29))) cNil)))) (cBin oIx (cVar 2) (cC (.int 11)))) (sB c n ds needs nots o5 o6 (some (.im (capD cap0)))) = .ok (capD cap) := by
        rw [ev_bin, e, hl]
        have : d11 = 0 ∨ d11 = 1 ∨ d11 = 2 := by omega
        rcases this with rfl | rfl | rfl
        · exact ⟨none, rfl⟩
        · exact ⟨some 3, rfl⟩
        · exact ⟨some (10 ^ 29), rfl⟩
      obtain ⟨cap, e⟩ := this
      exact ⟨cap, if_t (tt.trans (by simp [h])) (asg_nx e)⟩
    · exact ⟨cap0, if_f (tt.trans (by simp [h])) rfl⟩
  obtain ⟨cap, c2⟩ := c2
  refine ⟨needs, nots, cap, ?_, l1, l2⟩
  unfold F__law_bound
  rw [defF_ev]
  show flR (g__law_bound [some (.im (.int c)), some (.im (.int (n : Int))), none, none, none, none, none, none]) = _
  unfold g__law_bound
  rw [seq_nx (asg_nx (d := .lst (ds.map D.int)) hm) (seq_nx (own_nx (ds := []) rfl) (seq_nx (own_nx (ds := []) rfl) (seq_nx h1 (seq_nx (asg_nx c1) (seq_nx c2 rfl)))))]
  rfl
end My
namespace My
open PySem L2 DV
theorem fold_placed (w : Web) (f : Nat → Option O) : ∀ (n t : Nat) (o : Option O), ∃ o', (List.range' t n).foldl (fun (a : List Nat × Option O) i => (stepW w a.1, f i)) (placedW w t, o) = (placedW w (t + n), o')
  | 0, t, o => ⟨o, rfl⟩
  | n + 1, t, o => by
    obtain ⟨o', h⟩ := fold_placed w f n (t + 1) (f t)
    refine ⟨o', ?_⟩
    rw [List.range'_succ, List.foldl_cons]
    rw [show t + (n + 1) = t + 1 + n by omega]
    exact h
theorem ringless_ok (w : Web) (hz : w.length ≤ 1000) (hl : ∀ l ∈ w, l.length < 64) : F__law_ringless [tW w] = .ok (.bl (ringlessW w)) := by
  have step : ∀ (p : List Nat) (o : Option O) (i : Nat), g__law_ringless_l1 [some (.im (tW w)), some (.im (lN p)), some (.im (.int (0 + (i : Int)))), none, none] = .nx [some (.im (tW w)), some (.im (lN (stepW w p))), some (.im (.int (0 + (i : Int)))), none, none] := by
    intro p o i
    refine asg_nx (d := lN (stepW w p)) ?_
    have := lc_keep (δ := [some (.im (tW w)), some (.im (lN p)), some (.im (.int (0 + (i : Int)))), none, none]) (vs := [3]) (b := bName 3) (t := cTest (cCall gAll (cCons (cL (cLc [4] (cItems (cBin oIx (cVar 0) (cVar 3))) (bName 4) cYes (cBin (oInA false) (cVar 4) (cVar 1)))) cNil))) (e := cVar 3) (fun (i : Nat) => D.int (0 + (i : Int))) (fun c => (leanW w c).all (inN p)) (fun (i : Nat) => D.int (i : Int)) (List.range w.length) (range_len w hz rfl) (by rw [List.length_range]; exact small_z hz) (fun c hc => by
      have hc' := List.mem_range.mp hc
      refine ⟨_, rfl, test_ok (all_lc D.int _ (leanW w c) ?_ (small_z (by have := hl _ (mem_lean hc'); omega)) fun x hx => ⟨_, rfl, ?_⟩), fun _ => ?_⟩
      · simp [ix_lean hc']
      · simp
      · simp)
    rw [ev_L, this, Res.bind_ok, lN_map]
    rfl
  have hloop := forF_map (fun (i : Nat) => D.int (0 + (i : Int))) (fun (a : List Nat × Option O) => [some (.im (tW w)), some (.im (lN a.1)), a.2, none, none]) (fun (a : List Nat × Option O) i => (stepW w a.1, some (.im (.int (0 + (i : Int)))))) (fun _ => True) (b := bName 2) (g := g__law_ringless_l1) (List.range w.length) (placedW w 0, none) trivial fun a x hx _ => ⟨_, rfl, step a.1 a.2 x, trivial⟩
  obtain ⟨o', ho⟩ := fold_placed w (fun i => some (.im (.int (0 + (i : Int))))) w.length 0 none
  rw [← List.range_eq_range'] at ho
  rw [ho, Nat.zero_add] at hloop
  unfold F__law_ringless
  rw [defF_ev]
  show flR (g__law_ringless [some (.im (tW w)), none, none, none, none]) = _
  rw [g__law_ringless, seq_nx (asg_nx (d := lN []) rfl) rfl]
  simp only [List.set_cons_succ, List.set_cons_zero]
  have hf : cFor (cIt gRange1 (cCons (cCall gLen (cCons (cVar 0) cNil)) cNil)) (bName 2) g__law_ringless_l1 [some (.im (tW w)), some (.im (lN [])), none, none, none] = .nx [some (.im (tW w)), some (.im (lN (placedW w w.length))), o', none, none] := for_r (range_len w hz rfl) hloop.1
  rw [seq_nx hf rfl]
  simp only [ev_ret, ev_bin, ev_call, ev_cons, ev_var, ev_nil, List.getElem?_cons_zero, List.getElem?_cons_succ, Res.bind_ok, lN_len, tW_len, oEq_int]
  unfold ringlessW
  simp only [stE_ok, flR]
  congr 3
  exact propext (by omega)
end My
namespace My
open PySem L2 DV
theorem tI_snoc (l : List Int) (c : Int) (h : l.length ≤ 900) : oAdd (tI l) (.tup [.v (.int c)]) = .ok (tI (l ++ [c])) := tI_add l [c] (small_z (by simp; omega))
theorem big_z {n : Nat} (h : n ≤ 1000000) : n ≤ sizeLine := by rw [sizeLine_eq]; omega
theorem subW_len {cs l : List Int} (h : l ∈ subsU cs) : l.length ≤ cs.length := (subsU_sub h).length_le
theorem subsW_len {n c : Nat} (h : n ≤ 4) : (subsW (othW n c)).length ≤ 16 := by
  unfold subsW
  rw [(sortT_perm _).length_eq, subsU_len]
  exact Nat.le_trans (Nat.pow_le_pow_right (by decide) (Nat.le_trans (othW_len n c) h)) (by decide)
theorem webs_small {n k : Nat} (h : n ≤ 4) (hk : k ≤ 4) : (websW n k).length ≤ 65536 :=
  Nat.le_trans (websW_len n k) (Nat.le_trans (Nat.pow_le_pow_right (Nat.pow_pos (show 0 < 2 by decide)) hk) (Nat.le_trans (Nat.pow_le_pow_left (Nat.pow_le_pow_right (by decide) h) 4) (by decide)))
theorem tW_snoc {w : Web} {l : List Int} (h : w.length ≤ 900) : oAdd (tW w) (.tup [tI l]) = .ok (tW (w ++ [l])) := by
  unfold oAdd tW
  dsimp only
  rw [if_pos (small_z (by simp; omega)), List.map_append]
  rfl
def badM : Exn := ⟨"BadMany", [("word", .str "badmany")]⟩
theorem all_some {n k : Nat} (hn : n ≤ 4) (hk : k < n) (F : D) (o5 o6 o4 : Option O) :
    ∃ o4', cFor (cIt gRange1 (cCons (cVar 0) cNil)) (bName 4) g__law_all_webs_l1 [some (.im (.int (n : Int))), some (.im F), some (.im (.int (k : Int))), some (.im (.lst [tI []])), o4, o5, o6, none] = .nx [some (.im (.int (n : Int))), some (.im F), some (.im (.int (k : Int))), some (.im (.lst ((subsU (othW n k)).map tI))), o4', o5, o6, none] := by
  have uo : ∀ done : List Nat, (done.filter fun j => !decide (j = k)).length ≤ done.length := fun done => List.length_filter_le _ _
  obtain ⟨δ2, h1, o4', rfl⟩ := for_done (fun (j : Nat) => D.int (j : Int)) (fun done δ => ∃ o4, δ = [some (.im (.int (n : Int))), some (.im F), some (.im (.int (k : Int))), some (.im (.lst ((subsU ((done.filter fun j => !decide (j = k)).map fun (j : Nat) => (j : Int))).map tI))), o4, o5, o6, none]) (b := bName 4) (g := g__law_all_webs_l1) (fi := cIt gRange1 (cCons (cVar 0) cNil)) (List.range n) (δ := [some (.im (.int (n : Int))), some (.im F), some (.im (.int (k : Int))), some (.im (.lst [tI []])), o4, o5, o6, none]) (by
      have := rg1 (n := n) (by omega)
      simp only [ev_it, ev_cons, ev_var, ev_nil, List.getElem?_cons_succ, List.getElem?_cons_zero, Res.bind_ok, D.int]
      exact this) ⟨o4, rfl⟩ (by
    rintro done c rest δ hall ⟨o4, rfl⟩
    have dl := pre_len hall
    rw [List.length_range] at dl
    have hm : ∀ S : List (List Int), cTest (cBin oNe (cVar 4) (cVar 2)) [some (.im (.int (n : Int))), some (.im F), some (.im (.int (k : Int))), some (.im (.lst (S.map tI))), some (.im (.int (c : Int))), o5, o6, none] = .ok (!decide (c = k)) := fun S => by
      simp only [ev_test, ev_bin, ev_var, List.getElem?_cons_succ, List.getElem?_cons_zero, Res.bind_ok, ev_neI, ev_asB, D.int]
      congr 2
      rw [decide_eq_decide]
      omega
    by_cases hck : c = k
    · have ht := hm (subsU ((done.filter fun j => !decide (j = k)).map fun (j : Nat) => (j : Int)))
      rw [decide_eq_true hck] at ht
      refine ⟨[some (.im (.int (n : Int))), some (.im F), some (.im (.int (k : Int))), some (.im (.lst ((subsU ((done.filter fun j => !decide (j = k)).map fun (j : Nat) => (j : Int))).map tI))), some (.im (.int (c : Int))), o5, o6, none], _, rfl, if_f ht rfl, some (.im (.int (c : Int))), ?_⟩
      rw [List.filter_append]
      simp [hck]
    · have ht := hm (subsU ((done.filter fun j => !decide (j = k)).map fun (j : Nat) => (j : Int)))
      rw [decide_eq_false hck] at ht
      generalize hS : subsU ((done.filter fun j => !decide (j = k)).map fun (j : Nat) => (j : Int)) = S at ht
      have ul : S.length ≤ 64 := by
        rw [← hS, subsU_len, List.length_map]
        exact Nat.le_trans (Nat.pow_le_pow_right (by decide) (show _ ≤ 6 by have := uo done; omega)) (by decide)
      have sl : ∀ l ∈ S, l.length ≤ 10 := fun l hl => by
        rw [← hS] at hl
        have h1 := subW_len hl
        rw [List.length_map] at h1
        have := uo done
        omega
      have hlc := lc_keep (δ := [some (.im (.int (n : Int))), some (.im F), some (.im (.int (k : Int))), some (.im (.lst (S.map tI))), some (.im (.int (c : Int))), o5, o6, none]) (vs := [7]) (fi := cItems (cVar 3)) (b := bName 7) (t := cYes) (e := cBin oAdd (cVar 7) (cTup (cCons (cVar 4) cNil))) tI (fun _ => true) (fun l => tI (l ++ [(c : Int)])) S (by simp) (small_z (by omega)) (fun l hl => ⟨_, rfl, rfl, fun _ => by
        have := sl l hl
        simp only [ev_bin, ev_bname, ev_tup, ev_cons, ev_nil, ev_wipe1, ev_wipe0, ev_var, List.set_cons_succ, List.set_cons_zero, List.getElem?_cons_succ, List.getElem?_cons_zero, Res.bind_ok, tI_snoc l (c : Int) (by omega), D.int]⟩)
      have ft : S.filter (fun _ => true) = S := List.filter_eq_self.mpr fun _ _ => rfl
      rw [ft] at hlc
      have enew : subsU (((done ++ [c]).filter fun j => !decide (j = k)).map fun (j : Nat) => (j : Int)) = S ++ S.map fun l => l ++ [(c : Int)] := by
        rw [List.filter_append, List.map_append]
        simp only [List.filter_cons, List.filter_nil, hck, decide_false, Bool.not_false, if_true, List.map_cons, List.map_nil]
        rw [subsU_snoc, hS]
      refine ⟨[some (.im (.int (n : Int))), some (.im F), some (.im (.int (k : Int))), some (.im (.lst (S.map tI))), some (.im (.int (c : Int))), o5, o6, none], [some (.im (.int (n : Int))), some (.im F), some (.im (.int (k : Int))), some (.im (.lst ((S ++ S.map fun l => l ++ [(c : Int)]).map tI))), some (.im (.int (c : Int))), o5, o6, none], rfl, if_t ht (asg_nx ?_), some (.im (.int (c : Int))), by rw [enew]⟩
      rw [ev_bin, ev_L, hlc]
      simp only [ev_var, List.getElem?_cons_succ, List.getElem?_cons_zero, Res.bind_ok]
      unfold oAdd
      dsimp only
      rw [if_pos (small_z (by simp only [List.length_map]; omega)), List.map_append, List.map_map]
      rfl)
  exact ⟨o4', h1⟩
theorem all_wider {n k : Nat} (hn : n ≤ 4) (hk : k < n) (o4 o6 : Option O) :
    ∃ o6', cFor (cItems (cVar 1)) (bName 6) g__law_all_webs_l2 [some (.im (.int (n : Int))), some (.im (.lst ((websW n k).map tW))), some (.im (.int (k : Int))), some (.im (.lst ((subsU (othW n k)).map tI))), o4, some (.im (.lst [])), o6, none] = .nx [some (.im (.int (n : Int))), some (.im (.lst ((websW n k).map tW))), some (.im (.int (k : Int))), some (.im (.lst ((subsU (othW n k)).map tI))), o4, some (.im (.lst ((websW n (k + 1)).map tW))), o6', none] := by
  have sl := subsW_len (n := n) (c := k) hn
  have wl := webs_small (n := n) (k := k) hn (by omega)
  obtain ⟨δ2, h1, o6', rfl⟩ := for_done tW (fun done δ => ∃ o6, δ = [some (.im (.int (n : Int))), some (.im (.lst ((websW n k).map tW))), some (.im (.int (k : Int))), some (.im (.lst ((subsU (othW n k)).map tI))), o4, some (.im (.lst ((done.flatMap fun w => (subsW (othW n k)).map fun l => w ++ [l]).map tW))), o6, none]) (b := bName 6) (g := g__law_all_webs_l2) (fi := cItems (cVar 1)) (websW n k) (δ := [some (.im (.int (n : Int))), some (.im (.lst ((websW n k).map tW))), some (.im (.int (k : Int))), some (.im (.lst ((subsU (othW n k)).map tI))), o4, some (.im (.lst [])), o6, none]) (by simp) ⟨o6, rfl⟩ (by
    rintro done w rest δ hall ⟨o6, rfl⟩
    have hw : w ∈ websW n k := by rw [← hall]; simp
    have wlen := (webs_each k w hw).1
    have dl := pre_len hall
    have fl : (done.flatMap fun w => (subsW (othW n k)).map fun l => w ++ [l]).length ≤ 16 * done.length := flat_len fun y _ => by rw [List.length_map]; exact sl
    generalize hG : (done.flatMap fun w => (subsW (othW n k)).map fun l => w ++ [l]) = G at fl
    have hlc := lc_keep (δ := [some (.im (.int (n : Int))), some (.im (.lst ((websW n k).map tW))), some (.im (.int (k : Int))), some (.im (.lst ((subsU (othW n k)).map tI))), o4, some (.im (.lst (G.map tW))), some (.im (tW w)), none]) (vs := [7]) (fi := cItems (cL (cSrtA (cVar 3)))) (b := bName 7) (t := cYes) (e := cBin oAdd (cVar 6) (cTup (cCons (cVar 7) cNil))) tI (fun _ => true) (fun l => tW (w ++ [l])) (subsW (othW n k)) (by
      show Res.bind (Res.bind (Res.bind (cVar 3 _) fun d => (asL d).bind srtA) _) _ = _
      simp only [ev_var, List.getElem?_cons_succ, List.getElem?_cons_zero, Res.bind_ok, ev_asL, srtA_tI (subsU_head (othW n k)), ev_items_l]
      rfl) (small_z (by omega)) (fun l hl => ⟨_, rfl, rfl, fun _ => by
      simp only [ev_bin, ev_bname, ev_tup, ev_cons, ev_nil, ev_wipe1, ev_wipe0, ev_var, List.set_cons_succ, List.set_cons_zero, List.getElem?_cons_succ, List.getElem?_cons_zero, Res.bind_ok, tW_snoc (w := w) (l := l) (by omega)]⟩)
    have ft : (subsW (othW n k)).filter (fun _ => true) = subsW (othW n k) := List.filter_eq_self.mpr fun _ _ => rfl
    rw [ft] at hlc
    refine ⟨[some (.im (.int (n : Int))), some (.im (.lst ((websW n k).map tW))), some (.im (.int (k : Int))), some (.im (.lst ((subsU (othW n k)).map tI))), o4, some (.im (.lst (G.map tW))), some (.im (tW w)), none], [some (.im (.int (n : Int))), some (.im (.lst ((websW n k).map tW))), some (.im (.int (k : Int))), some (.im (.lst ((subsU (othW n k)).map tI))), o4, some (.im (.lst ((G ++ (subsW (othW n k)).map fun l => w ++ [l]).map tW))), some (.im (tW w)), none], rfl, asg_nx ?_, some (.im (tW w)), ?_⟩
    · rw [ev_bin, ev_L, hlc]
      simp only [ev_var, List.getElem?_cons_succ, List.getElem?_cons_zero, Res.bind_ok]
      unfold oAdd
      dsimp only
      rw [if_pos (by rw [sizeLine_eq]; simp only [List.length_map]; omega), List.map_append, List.map_map]
      rfl
    · rw [List.flatMap_append, hG]
      simp)
  exact ⟨o6', h1⟩
theorem all_webs_ok {n : Nat} (h1 : 1 ≤ n) (h4 : n ≤ 4) : F__law_all_webs [.int (n : Int)] = .ok (.lst ((allW n).map tW)) := by
  obtain ⟨δ2, h2, o2, o3, o4, o5, o6, rfl⟩ := for_done (fun (k : Nat) => D.int (k : Int)) (fun done δ => ∃ o2 o3 o4 o5 o6, δ = [some (.im (.int (n : Int))), some (.im (.lst ((websW n done.length).map tW))), o2, o3, o4, o5, o6, none]) (b := bName 2) (g := g__law_all_webs_l3) (fi := cIt gRange1 (cCons (cVar 0) cNil)) (List.range n) (δ := [some (.im (.int (n : Int))), some (.im (.lst [tW []])), none, none, none, none, none, none]) (by
      have := rg1 (n := n) (by omega)
      simp only [ev_it, ev_cons, ev_var, ev_nil, List.getElem?_cons_succ, List.getElem?_cons_zero, Res.bind_ok, D.int]
      exact this) ⟨_, _, _, _, _, rfl⟩ (by
    rintro done k rest δ hall ⟨o2, o3, o4, o5, o6, rfl⟩
    have hk : k < n := List.mem_range.mp (by rw [← hall]; simp)
    have ek : done.length = k := by
      have h1 : (List.range n)[done.length]? = some k := by rw [← hall, List.getElem?_append_right (Nat.le_refl _)]; simp
      have h2 : done.length < n := by have := pre_len hall; simpa using this
      rw [List.getElem?_range h2] at h1
      exact Option.some.inj h1
    rw [ek]
    obtain ⟨o4', e1⟩ := all_some h4 hk (.lst ((websW n k).map tW)) o5 o6 o4
    obtain ⟨o6', e2⟩ := all_wider h4 hk o4' o6
    refine ⟨[some (.im (.int (n : Int))), some (.im (.lst ((websW n k).map tW))), some (.im (.int (k : Int))), o3, o4, o5, o6, none], [some (.im (.int (n : Int))), some (.im (.lst ((websW n (k + 1)).map tW))), some (.im (.int (k : Int))), some (.im (.lst ((subsU (othW n k)).map tI))), o4', some (.im (.lst ((websW n (k + 1)).map tW))), o6', none], rfl, seq_nx (asg_nx (d := .lst [tI []]) rfl) (seq_nx e1 (seq_nx (asg_nx (d := .lst []) rfl) (seq_nx e2 rfl))), some (.im (.int (k : Int))), some (.im (.lst ((subsU (othW n k)).map tI))), o4', some (.im (.lst ((websW n (k + 1)).map tW))), o6', ?_⟩
    rw [List.length_append, ek]
    rfl)
  rw [List.length_range] at h2
  have hlc := lc_keep (δ := [some (.im (.int (n : Int))), some (.im (.lst ((websW n n).map tW))), o2, o3, o4, o5, o6, none]) (vs := [6]) (fi := cItems (cVar 1)) (b := bName 6) (t := cTest (cFn0 F__law_ringless (cCons (cVar 6) cNil))) (e := cVar 6) tW ringlessW tW (websW n n) (by simp) (big_z (by have := webs_small (n := n) (k := n) h4 h4; omega)) (fun w hw => ⟨_, rfl, by
      obtain ⟨pw, pl⟩ := webs_plain h1 (by omega) hw
      have hlw := (webs_each n w hw).1
      have hr := ringless_ok w (by omega) (fun l hl => by have := pl l hl; omega)
      refine test_ok ?_
      simp only [ev_fn0, ev_cons, ev_nil, ev_bname, ev_wipe1, ev_wipe0, ev_var, List.set_cons_succ, List.set_cons_zero, List.getElem?_cons_succ, List.getElem?_cons_zero, Res.bind_ok, hr], fun _ => rfl⟩)
  unfold F__law_all_webs
  rw [defF_ev]
  show flR (g__law_all_webs [some (.im (.int (n : Int))), none, none, none, none, none, none, none]) = _
  unfold g__law_all_webs
  refine (congrArg flR (seq_nx (asg_nx (d := .lst [tW []]) rfl) (seq_nx h2 (ret_rt (d := .lst ((allW n).map tW)) ?_)))).trans rfl
  rw [ev_L, hlc]
  rfl
end My
namespace DV
open PySem L2
def stepT (g : Nat → List Int → Int) (n m : Nat) (fs : List Int) : Int := ((seqM m).map fun u => -sgnL (memN n u) * (fs.getD (m ^^^ u) 0 * prodI ((memN n u).map fun c => sigG g (memN n (m ^^^ u)) c))).sum
def addT (g : Nat → List Int → Int) (n k : Nat) (fs : List Int) : List Int := fs ++ [if k = 0 then 1 else stepT g n k fs]
def tabT (g : Nat → List Int → Int) (n : Nat) : Nat → List Int
  | 0 => []
  | k + 1 => addT g n k (tabT g n k)
theorem tab_ok {g : Nat → List Int → Int} {n : Nat} (h1 : 1 ≤ n) (h6 : n ≤ 6) : ∀ k, k ≤ 2 ^ n → tabT g n k = (List.range k).map (totM g n)
  | 0, _ => rfl
  | k + 1, hk => by
    have ih := tab_ok (g := g) h1 h6 k (by omega)
    rw [tabT, ih, List.range_succ, List.map_append, addT]
    congr 1
    rw [List.map_cons, List.map_nil]
    congr 1
    by_cases h0 : k = 0
    · subst h0
      rw [if_pos rfl, totM_0 h1 h6]
    · rw [if_neg h0, totM_step h1 h6 (by omega) h0, stepT]
      congr 1
      refine List.map_congr_left fun u hu => ?_
      have := ((mask_ok h6 (show k < 2 ^ n by omega)).u u hu).2.2.1
      rw [termM, List.getD_eq_getElem?_getD, List.getElem?_map, List.getElem?_range this]
      rfl
def lastT (g : Nat → List Int → Int) (n : Nat) : Int := (tabT g n (2 ^ n)).getD (2 ^ n - 1) 0
theorem last_ok {g : Nat → List Int → Int} {n : Nat} (h1 : 1 ≤ n) (h6 : n ≤ 6) : totM g n (2 ^ n - 1) = lastT g n := by
  have h0 : 0 < 2 ^ n := Nat.pow_pos (by decide)
  rw [lastT, tab_ok h1 h6 (2 ^ n) (Nat.le_refl _), List.getD_eq_getElem?_getD, List.getElem?_map, List.getElem?_range (by omega)]
  rfl
end DV
namespace My
open PySem L2 DV
theorem fn0_ok {F : List D → Res D} {f : DS → Res (List D)} {δ : DS} {ds : List D} {r : Res D} (h : f δ = .ok ds) (hF : F ds = r) : cFn0 F f δ = r := by
  show (f δ).bind F = _
  rw [h]
  exact hF
theorem call_ok {F : List D → Res D} {f : DS → Res (List D)} {δ : DS} {ds : List D} {r : Res D} (h : f δ = .ok ds) (hF : F ds = r) : cCall F f δ = r := by
  show (f δ).bind F = _
  rw [h]
  exact hF
theorem cons_ok {f : DS → Res D} {g : DS → Res (List D)} {δ : DS} {d : D} {ds : List D} (h : f δ = .ok d) (h2 : g δ = .ok ds) : cCons f g δ = .ok (d :: ds) := by
  rw [ev_cons, h, h2]
  rfl
theorem bin_ok {g : D → D → Res D} {fa fb : DS → Res D} {δ : DS} {x y : D} {r : Res D} (h : fa δ = .ok x) (h2 : fb δ = .ok y) (h3 : g x y = r) : cBin g fa fb δ = r := by
  rw [ev_bin, h, h2]
  exact h3
def oneG : Nat → List Int → Int := fun _ _ => 1
def plD : D := .ins "Plain" [] []
theorem part_one (t : Int) : partV t 1 = (t, 1) := by
  have e : gS t 1 = 1 := by unfold gS; simp
  unfold partV
  rw [e, Int.fdiv_one]
  rfl
theorem prod_ones {α : Type} : ∀ l : List α, prodI (l.map fun _ => (1 : Int)) = 1
  | [] => rfl
  | _ :: l => by rw [List.map_cons, prodI_cons, prod_ones l]; rfl
theorem sum_ones {α : Type} : ∀ l : List α, (l.map fun _ => (1 : Int)).sum = (l.length : Int)
  | [] => rfl
  | _ :: l => by rw [List.map_cons, List.sum_cons, sum_ones l, List.length_cons]; omega
theorem wo_plain {n : Nat} (h1 : 1 ≤ n) (h6 : n ≤ 6) : Wo plD n oneG (fun _ => 1) where
  h1 := h1
  h6 := h6
  call := fun c hc L hL => by
    have e : fr (partV (oneG c L) 1) = .tup [.int 1, .int 1] := by
      show fr (partV 1 1) = _
      rw [part_one]
    rw [e]
    rfl
  nn := fun _ _ => by unfold oneG; decide
  sg := fun c hc => by
    unfold sigG
    show ((subsU (mI (List.range n))).map fun _ => (1 : Int)).sum ≤ sgN
    rw [sum_ones, subsU_len]
    have e1 : (mI (List.range n)).length = n := by simp [mI]
    rw [e1]
    have e2 : ∀ k : Fin 7, ((2 ^ (k : Nat) : Nat) : Int) ≤ 64 := by decide
    have e3 : (64 : Int) ≤ sgN := by unfold sgN; decide +kernel
    exact Int.le_trans (e2 ⟨n, by omega⟩) e3
  k1 := fun _ _ => by decide
  kM := by
    rw [prod_ones]
    decide +kernel
theorem totby_plain {n : Nat} (h1 : 1 ≤ n) (h6 : n ≤ 6) (must never : Prs) (most : Option Int) (l1 : must.length ≤ 1000) (l2 : never.length ≤ 1000) : F_total_by [plD, .int (n : Int), tP must, tP never, capD most] = .ok (.tup [.int (lastT (gMay oneG must never most) n), .int 1]) := by
  have h := total_by_okQ (wo_plain h1 h6) must never most l1 l2
  have e2 : KMf n (fun _ => 1) (2 ^ n - 1) = 1 := prod_ones _
  rw [e2, part_one, last_ok h1 h6] at h
  exact h
theorem many_ok {n : Nat} (h1 : 1 ≤ n) (h6 : n ≤ 6) (must never : Prs) (most : Option Int) (l1 : must.length ≤ 1000) (l2 : never.length ≤ 1000) : F_many_webs [.int (n : Int), tP must, tP never, capD most] = .ok (.int (lastT (gMay oneG must never most) n)) := by
  have ht := totby_plain h1 h6 must never most l1 l2
  let δ : DS := [some (.im (.int (n : Int))), some (.im (tP must)), some (.im (tP never)), some (.im (capD most))]
  have t1 : cTest (cBin oLt (cVar 0) (cC (.int 1))) δ = .ok (decide ((n : Int) < 1)) := rfl
  have t2 : cTest (cBin oGt (cVar 0) (cC (.int 6))) δ = .ok (decide ((n : Int) > 6)) := rfl
  have t : cOrT (cTest (cBin oLt (cVar 0) (cC (.int 1)))) (cTest (cBin oGt (cVar 0) (cC (.int 6)))) δ = .ok false := by
    rw [ev_orT, t1, decide_eq_false (by omega), Res.bind_ok, t2, decide_eq_false (by omega)]
    rfl
  have e : cFn0 F_total_by (cCons (cNd (cMk0 "Plain")) (cCons (cVar 0) (cCons (cVar 1) (cCons (cVar 2) (cCons (cVar 3) cNil))))) δ = .ok (.tup [.int (lastT (gMay oneG must never most) n), .int 1]) := fn0_ok (cons_ok (d := plD) rfl (cons_ok (d := .int (n : Int)) rfl (cons_ok (d := tP must) rfl (cons_ok (d := tP never) rfl (cons_ok (d := capD most) rfl rfl))))) ht
  show flR (g_many_webs δ) = _
  unfold g_many_webs
  exact (congrArg flR (seq_nx (δ' := δ) (if_f t rfl) (ret_rt (d := .int (lastT (gMay oneG must never most) n)) (bin_ok e rfl rfl)))).trans rfl
def xMany : Exn := ⟨"BadMany", [("word", .str "badmany")]⟩
theorem many_er {b : Int} (hb : b < 1 ∨ 6 < b) (m v c : D) : F_many_webs [.int b, m, v, c] = .er xMany := by
  let δ : DS := [some (.im (.int b)), some (.im m), some (.im v), some (.im c)]
  have t1 : cTest (cBin oLt (cVar 0) (cC (.int 1))) δ = .ok (decide (b < 1)) := rfl
  have t2 : cTest (cBin oGt (cVar 0) (cC (.int 6))) δ = .ok (decide (b > 6)) := rfl
  have t : cOrT (cTest (cBin oLt (cVar 0) (cC (.int 1)))) (cTest (cBin oGt (cVar 0) (cC (.int 6)))) δ = .ok true := by
    rw [ev_orT, t1, Res.bind_ok]
    by_cases h : b < 1
    · rw [decide_eq_true h]; rfl
    · rw [decide_eq_false h, t2, decide_eq_true (by omega)]; rfl
  show flR (g_many_webs δ) = _
  unfold g_many_webs
  exact (congrArg flR (seq_rs (δ' := δ) (if_t t rfl))).trans rfl
theorem kept_mayN {n : Nat} {w : Web} (h1 : w.length = n) (hp : plainW w = true) (hrl : ringlessW w = true) {needs nots : Prs} {cap : Option Int} (hn : prB n needs) : keptB w needs nots cap = (List.range n).all fun c => mayB (c : Int) (leanW w c) needs nots cap := by
  have hg : goodW w = true := by unfold goodW; rw [hp, hrl]; rfl
  rw [← keep_kept hg]
  unfold keepB
  rw [hg, Bool.true_and, h1]
  by_cases h : ((List.range n).all fun c => mayB (c : Int) (leanW w c) needs nots cap) = true
  · rw [h, Bool.and_true, List.all_eq_true]
    intro p hp'
    obtain ⟨⟨⟨a1, a2⟩, b1, b2⟩, ne⟩ := hn p hp'
    have hc := List.all_eq_true.mp h p.2.toNat (List.mem_range.mpr (by omega))
    unfold mayB at hc
    rw [Bool.and_eq_true] at hc
    have := List.all_eq_true.mp hc.2 p (List.mem_filter.mpr ⟨hp', by rw [decide_eq_true_eq]; omega⟩)
    rw [decide_eq_true_eq] at this
    rw [decide_eq_true_eq]
    have e : p.2 = ((p.2.toNat : Nat) : Int) := by omega
    rw [e]
    exact arrL_mem.mpr ⟨by omega, this⟩
  · have h' : ((List.range n).all fun c => mayB (c : Int) (leanW w c) needs nots cap) = false := by simpa using h
    rw [h', Bool.and_false]
theorem last_kept {n : Nat} (h1 : 1 ≤ n) (h6 : n ≤ 6) {must never : Prs} (most : Option Int) (hm : prB n must) : lastT (gMay oneG must never most) n = ((((allW n).filter fun w => keptB w must never most).length : Nat) : Int) := by
  rw [← last_ok h1 h6]
  have := tot_may (fun (c : Nat) (l : List Int) => mayB (c : Int) l must never most) oneG h6
  have e : (fun (c : Nat) (l : List Int) => if mayB (c : Int) l must never most = true then oneG c l else 0) = gMay oneG must never most := rfl
  rw [e] at this
  rw [this]
  have e1 : prodW oneG n = fun _ => 1 := by
    funext w
    exact prod_ones _
  rw [e1, sum_ones]
  congr 2
  refine List.filter_congr fun w hw => ?_
  obtain ⟨hwl, hwp, hwr⟩ := (all_mem h1 h6).mp hw
  exact (kept_mayN hwl hwp hwr hm).symm
theorem cnt_all : ∀ k : Fin 6, lastT (gMay oneG [] [] none) ((k : Nat) + 1) = [1, 3, 25, 543, 29281, 3781503].getD (k : Nat) 0 := by decide +kernel
theorem cnt_turn : ∀ k : Fin 4, lastT (gMay oneG [(0, 1)] [] none) ((k : Nat) + 2) = lastT (gMay oneG [(1, 0)] [] none) ((k : Nat) + 2) := by decide +kernel
end My
namespace My
open PySem L2 DV
theorem forF_invC {β : Type} (f : β → D) (P : DS → Prop) {b : D → DS → Option DS} {g : DS → Fl} : ∀ (xs : List β) (δ : DS), P δ →
    (∀ δ x, x ∈ xs → P δ → ∃ δ' δ2, b (f x) δ = some δ' ∧ (g δ' = .nx δ2 ∨ g δ' = .ct δ2) ∧ P δ2) → ∃ δ2, forF b g (xs.map f) δ = .nx δ2 ∧ P δ2
  | [], δ, hp, _ => ⟨δ, rfl, hp⟩
  | x :: xs, δ, hp, h => by
    obtain ⟨δ', δ2, h1, h2, h3⟩ := h δ x (by simp) hp
    obtain ⟨δ3, h4, h5⟩ := forF_invC f P xs δ2 h3 fun δ y hy => h δ y (by simp [hy])
    refine ⟨δ3, ?_, h5⟩
    rw [List.map_cons]
    unfold forF
    rw [h1]
    rcases h2 with h2 | h2
    · simp only [h2]; exact h4
    · simp only [h2]; exact h4
theorem seq_ct {f g : DS → Fl} {δ δ' : DS} (h : f δ = .ct δ') : cSeq f g δ = .ct δ' := by
  show (f δ).then g = _
  rw [h]
  rfl
theorem ixL {xs : List D} {i : Nat} {d : D} (h : xs[i]? = some d) : oIx (.lst xs) (.int (i : Int)) = .ok d := by
  have h1 := atI_nat h
  unfold oIx
  dsimp only
  rw [h1]
theorem cellN_ok (ns : List Int) (i : Nat) : F__law_cell [.lst (ns.map D.int), .int (i : Int)] = .ok (.int (ns.getD i 0)) := by
  by_cases h : i < ns.length
  · have i0 : oIx (.lst (ns.map D.int)) (.int (i : Int)) = .ok (.int (ns.getD i 0)) := ixL (by simp [h])
    have hlt : (i : Int) < (ns.length : Int) := by omega
    simp [F__law_cell, g__law_cell, i0, hlt, -List.getD_eq_getElem?_getD]
  · have hlt : ¬ (i : Int) < (ns.length : Int) := by omega
    simp [F__law_cell, g__law_cell, h]
def PL (ns : List Int) (o1 o2 o3 : Option O) (δ : DS) : Prop := ∃ o4 o5 o6 o7 o8 o9 o10, δ = [some (.im (.lst (ns.map D.int))), o1, o2, o3, o4, o5, o6, o7, o8, o9, o10]
theorem turn {ns : List Int} (x : Int) (o1 o2 o3 o5 o6 o7 o8 o9 o10 : Option O) : ∃ δ2,
    (g_law_l1 [some (.im (.lst (ns.map D.int))), o1, o2, o3, some (.im (.int x)), o5, o6, o7, o8, o9, o10] = .nx δ2 ∨
     g_law_l1 [some (.im (.lst (ns.map D.int))), o1, o2, o3, some (.im (.int x)), o5, o6, o7, o8, o9, o10] = .ct δ2) ∧ PL ns o1 o2 o3 δ2 := by
  obtain ⟨m, hm⟩ := draws_ok (x + 7) [4] (by decide) (by decide)
  have hds : digs m [4] = [m % 4] := rfl
  rw [hds] at hm
  obtain ⟨j, hj⟩ : ∃ j : Nat, m % 4 = (j : Int) := ⟨(m % 4).toNat, by omega⟩
  rw [hj] at hm
  let n : Nat := 1 + j
  have hn : 1 ≤ n ∧ n ≤ 4 := by
    show 1 ≤ 1 + j ∧ 1 + j ≤ 4
    omega
  obtain ⟨needs, nots, cap, hb, ⟨ln, hpn⟩, lo, hpo⟩ := bound_ok x n ⟨hn.1, by omega⟩
  let N0 : Option O := some (.im (.lst (ns.map D.int)))
  let N4 : Option O := some (.im (.int x))
  let N5 : Option O := some (.im (.int (n : Int)))
  let N6 : Option O := some (.im (tP needs))
  let N7 : Option O := some (.im (tP nots))
  let N8 : Option O := some (.im (capD cap))
  have s5 : cAsg 5 (cBin oAdd (cC (.int 1)) (cBin oIx (cFn0 F__law_draws (cCons (cBin oAdd (cVar 4) (cC (.int 7))) (cCons (cL (cCons (cC (.int 4)) cNil)) cNil))) (cC (.int 0)))) [N0, o1, o2, o3, N4, o5, o6, o7, o8, o9, o10] = .nx [N0, o1, o2, o3, N4, N5, o6, o7, o8, o9, o10] := by
    refine asg_nx (d := .int (n : Int)) (bin_ok (x := .int 1) (y := .int (j : Int)) rfl (bin_ok (x := .lst ([(j : Int)].map D.int)) (y := .int 0) (fn0_ok (cons_ok (d := .int (x + 7)) rfl (cons_ok (d := .lst [.int 4]) rfl rfl)) hm) rfl rfl) ?_)
    show Res.ok (D.int (1 + (j : Int))) = .ok (.int (((1 + j : Nat)) : Int))
    rw [Int.natCast_add]
    rfl
  have s6 : cAsgG (bTup 3 (bCons (bName 6) (bCons (bName 7) (bCons (bName 8) bNil)))) (cFn0 F__law_bound (cCons (cVar 4) (cCons (cVar 5) cNil))) [N0, o1, o2, o3, N4, N5, o6, o7, o8, o9, o10] = .nx [N0, o1, o2, o3, N4, N5, N6, N7, N8, o9, o10] := by
    have e : cFn0 F__law_bound (cCons (cVar 4) (cCons (cVar 5) cNil)) [N0, o1, o2, o3, N4, N5, o6, o7, o8, o9, o10] = .ok (.tup [tP needs, tP nots, capD cap]) := fn0_ok (cons_ok (d := .int x) rfl (cons_ok (d := .int (n : Int)) rfl rfl)) hb
    rw [ev_asgG, e]
    rfl
  let δ : DS := [N0, o1, o2, o3, N4, N5, N6, N7, N8, o9, o10]
  have t1 : cTest (cBin oEq (cVar 5) (cC (.int 4))) δ = .ok (decide ((n : Int) = 4)) := test_ok (bin_ok (x := .int (n : Int)) (y := .int 4) rfl rfl (oEq_int _ _))
  have t2 : cTest (cBin oGt (cBin oMod (cVar 4) (cC (.int 3))) (cC (.int 0))) δ = .ok (decide (x % 3 > 0)) := test_ok (bin_ok (x := .int (x % 3)) (y := .int 0) (bin_ok (x := .int x) (y := .int 3) rfl rfl (oMod_pos (by decide))) rfl rfl)
  have t : cAndT (cTest (cBin oEq (cVar 5) (cC (.int 4)))) (cTest (cBin oGt (cBin oMod (cVar 4) (cC (.int 3))) (cC (.int 0)))) δ = .ok (decide ((n : Int) = 4) && decide (x % 3 > 0)) := by
    rw [ev_andT, t1, Res.bind_ok]
    cases decide ((n : Int) = 4)
    · rfl
    · exact t2
  by_cases hc : (decide ((n : Int) = 4) && decide (x % 3 > 0)) = true
  · rw [hc] at t
    refine ⟨δ, .inr ?_, ⟨_, _, _, _, _, _, _, rfl⟩⟩
    unfold g_law_l1
    exact seq_nx s5 (seq_nx s6 (seq_ct (if_t t rfl)))
  rw [Bool.not_eq_true] at hc
  rw [hc] at t
  have hall := all_webs_ok hn.1 hn.2
  have hal := allW_len n
  let Ws := (allW n).filter fun w => keptB w needs nots cap
  have hWb : (allW n).length ≤ 5000 := by
    rw [allW_len]
    have : ∀ k : Fin 5, ((websU (k : Nat) (k : Nat)).filter ringlessW).length ≤ 5000 := by decide +kernel
    exact this ⟨n, by omega⟩
  let N9 : Option O := some (.im (.int (Ws.length : Int)))
  have s9 : cAsg 9 (cCall gLen (cCons (cL (cLc [10] (cItems (cFn0 F__law_all_webs (cCons (cVar 5) cNil))) (bName 10) (cTest (cFn0 F__law_kept (cCons (cVar 10) (cCons (cVar 6) (cCons (cVar 7) (cCons (cVar 8) cNil)))))) (cVar 10))) cNil)) δ = .nx [N0, o1, o2, o3, N4, N5, N6, N7, N8, N9, o10] := by
    have l := lc_keep (δ := δ) (vs := [10]) (fi := cItems (cFn0 F__law_all_webs (cCons (cVar 5) cNil))) (b := bName 10) (t := cTest (cFn0 F__law_kept (cCons (cVar 10) (cCons (cVar 6) (cCons (cVar 7) (cCons (cVar 8) cNil)))))) (e := cVar 10) tW (fun w => keptB w needs nots cap) tW (allW n) (by
      show ((cFn0 F__law_all_webs (cCons (cVar 5) cNil)) δ).bind itemsD = _
      rw [fn0_ok (cons_ok (d := .int (n : Int)) rfl rfl) hall]
      rfl) (by rw [sizeLine_eq]; omega) fun w hw => ⟨[N0, o1, o2, o3, N4, N5, N6, N7, N8, o9, some (.im (tW w))], rfl, by
        obtain ⟨hwl, hwp, hwr⟩ := (all_mem hn.1 (by omega)).mp hw
        exact test_ok (fn0_ok (cons_ok (d := tW w) rfl (cons_ok (d := tP needs) rfl (cons_ok (d := tP nots) rfl (cons_ok (d := capD cap) rfl rfl)))) (kept_ok w (fun z => by rw [z] at hwl; simp at hwl; omega) (by omega) (plain_lens hwp) needs nots cap (by omega) (by omega))), fun _ => rfl⟩
    refine asg_nx (d := .int (Ws.length : Int)) (call_ok (ds := [.lst (Ws.map tW)]) (cons_ok (by rw [ev_L, l]; rfl) rfl) ?_)
    show Res.ok (D.int ((Ws.map tW).length : Int)) = _
    rw [List.length_map]
  have hmany := many_ok hn.1 (show n ≤ 6 by omega) needs nots cap (by omega) (by omega)
  rw [last_kept hn.1 (show n ≤ 6 by omega) cap hpn] at hmany
  let δ9 : DS := [N0, o1, o2, o3, N4, N5, N6, N7, N8, N9, o10]
  have ek : cKw F_many_webs [.p 0, .k 1, .k 2, .k 0] (cCons (cVar 5) cNil) (cCons (cVar 8) (cCons (cVar 6) (cCons (cVar 7) cNil))) δ9 = .ok (.int (Ws.length : Int)) := hmany
  refine ⟨δ9, .inl ?_, ⟨_, _, _, _, _, _, _, rfl⟩⟩
  unfold g_law_l1
  exact seq_nx s5 (seq_nx s6 (seq_nx (δ' := δ) (if_f t rfl) (seq_nx s9 (if_f (not_ok (b := true) (test_ok (fn0_ok (cons_ok ek (cons_ok (d := .int (Ws.length : Int)) rfl rfl)) (same_scal 5 (.int (Ws.length : Int)) trivial)))) rfl))))
theorem law_true (ns : List Int) (h : ns.length ≤ 63) : F_law [.lst (ns.map D.int)] = .ok (.bl true) := by
  obtain ⟨ms, hms, hml⟩ : ∃ ms : List Int, cutD (ns.map D.int) none (some 63) = ms.map D.int ∧ ms.length ≤ 63 := by
    rw [cutD_map]
    refine ⟨_, rfl, ?_⟩
    rw [List.length_take, List.length_drop]
    omega
  obtain ⟨qs, hqs, hql⟩ : ∃ qs : List Int, cutD (ms.map D.int) none (some 6) = qs.map D.int ∧ qs.length ≤ 63 := by
    rw [cutD_map]
    refine ⟨_, rfl, ?_⟩
    rw [List.length_take, List.length_drop]
    omega
  obtain ⟨m, hm⟩ := draws_ok (ms.getD 0 0) [5, 6, 4] (by decide) (by decide)
  have hds : digs m [5, 6, 4] = [m % 5, m / 5 % 6, m / 5 / 6 % 4] := rfl
  rw [hds] at hm
  obtain ⟨d2, hd2⟩ : ∃ d2 : Nat, m / 5 / 6 % 4 = (d2 : Int) := ⟨(m / 5 / 6 % 4).toNat, by omega⟩
  have hd2' : d2 < 4 := by omega
  have hd1 : 0 ≤ m / 5 % 6 ∧ m / 5 % 6 < 6 := by omega
  rw [hd2] at hm
  generalize m % 5 = d0 at hm
  generalize m / 5 % 6 = d1 at hm hd1
  have hc0 : F__law_cell [.lst (ms.map D.int), .int 0] = .ok (.int (ms.getD 0 0)) := cellN_ok ms 0
  let A : Option O := some (.im (.lst (ms.map D.int)))
  let N1 : Option O := some (.im (.lst ([d0, d1, (d2 : Int)].map D.int)))
  let n : Nat := 2 + d2
  let N2 : Option O := some (.im (.int (n : Int)))
  have s0 : cAsg 0 (cSl (cVar 0) cNone (cSome (cC (.int 63)))) [some (.im (.lst (ns.map D.int))), none, none, none, none, none, none, none, none, none, none] = .nx [A, none, none, none, none, none, none, none, none, none, none] := by
    refine asg_nx (d := .lst (ms.map D.int)) ?_
    show Res.ok (D.lst (cutD (ns.map D.int) none (some 63))) = _
    rw [hms]
  have s1 : cAsg 1 (cFn0 F__law_draws (cCons (cFn0 F__law_cell (cCons (cVar 0) (cCons (cC (.int 0)) cNil))) (cCons (cL (cCons (cC (.int 5)) (cCons (cC (.int 6)) (cCons (cC (.int 4)) cNil)))) cNil))) [A, none, none, none, none, none, none, none, none, none, none] = .nx [A, N1, none, none, none, none, none, none, none, none, none] :=
    asg_nx (fn0_ok (cons_ok (fn0_ok (cons_ok (d := .lst (ms.map D.int)) rfl (cons_ok (d := .int 0) rfl rfl)) hc0) (cons_ok (d := .lst [.int 5, .int 6, .int 4]) rfl rfl)) hm)
  let δ1 : DS := [A, N1, none, none, none, none, none, none, none, none, none]
  have plain : ∀ i : Nat, i < 6 → F_many_webs [.int ((i + 1 : Nat) : Int), .tup [], .tup [], .non] = .ok (.int ([1, 3, 25, 543, 29281, 3781503].getD i 0)) := fun i hi => by
    have := many_ok (n := i + 1) (by omega) (by omega) [] [] none (by simp) (by simp)
    rw [cnt_all ⟨i, hi⟩] at this
    exact this
  have s2 : cIf (cTest (cBin oNe (cL (cLc [2] (cIt gRange2 (cCons (cC (.int 1)) (cCons (cC (.int 6)) cNil))) (bName 2) cYes (cFn F_many_webs [(.tup []), (.tup []), .non] (cCons (cVar 2) cNil)))) (cL (cCons (cC (.int 1)) (cCons (cC (.int 3)) (cCons (cC (.int 25)) (cCons (cC (.int 543)) (cCons (cC (.int 29281)) cNil)))))))) (cRet (cC (.bl false))) cNext δ1 = .nx δ1 := by
    have l := lc_keep (δ := δ1) (vs := [2]) (fi := cIt gRange2 (cCons (cC (.int 1)) (cCons (cC (.int 6)) cNil))) (b := bName 2) (t := cYes) (e := cFn F_many_webs [(.tup []), (.tup []), .non] (cCons (cVar 2) cNil)) (fun i : Nat => D.int ((i + 1 : Nat) : Int)) (fun _ => true) (fun i : Nat => D.int (([1, 3, 25, 543, 29281, 3781503] : List Int).getD i 0)) [0, 1, 2, 3, 4] rfl (by rw [sizeLine_eq]; decide) fun i hi => ⟨[A, N1, some (.im (.int ((i + 1 : Nat) : Int))), none, none, none, none, none, none, none, none], rfl, rfl, fun _ => by
      have hi6 : i < 6 := by
        simp at hi
        omega
      show F_many_webs [.int ((i + 1 : Nat) : Int), .tup [], .tup [], .non] = _
      exact plain i hi6⟩
    refine if_f (test_ok (bin_ok (x := .lst (([1, 3, 25, 543, 29281] : List Int).map D.int)) (y := .lst (([1, 3, 25, 543, 29281] : List Int).map D.int)) (by rw [ev_L, l]; rfl) rfl ?_)) rfl
    exact eqL_ints (neg := true) _ _
  have s3 : cIf (cAndT (cTest (cBin oEq (cBin oIx (cVar 1) (cC (.int 0))) (cC (.int 0)))) (cTest (cBin oNe (cFn F_many_webs [(.tup []), (.tup []), .non] (cCons (cC (.int 6)) cNil)) (cC (.int 3781503))))) (cRet (cC (.bl false))) cNext δ1 = .nx δ1 := by
    have t1 : cTest (cBin oEq (cBin oIx (cVar 1) (cC (.int 0))) (cC (.int 0))) δ1 = .ok (decide (d0 = 0)) := test_ok (bin_ok (x := .int d0) (y := .int 0) rfl rfl (oEq_int _ _))
    have t2 : cTest (cBin oNe (cFn F_many_webs [(.tup []), (.tup []), .non] (cCons (cC (.int 6)) cNil)) (cC (.int 3781503))) δ1 = .ok false := by
      refine test_ok (bin_ok (x := .int 3781503) (y := .int 3781503) ?_ rfl ?_)
      · show F_many_webs [.int ((5 + 1 : Nat) : Int), .tup [], .tup [], .non] = _
        exact plain 5 (by decide)
      · exact ev_neI _ _
    refine if_f (?_ : _ = Res.ok false) rfl
    rw [ev_andT, t1, Res.bind_ok]
    cases decide (d0 = 0)
    · rfl
    · exact t2
  have s4 : cAsg 2 (cBin oAdd (cC (.int 2)) (cBin oIx (cVar 1) (cC (.int 2)))) δ1 = .nx [A, N1, N2, none, none, none, none, none, none, none, none] := by
    refine asg_nx (d := .int (n : Int)) (bin_ok (x := .int 2) (y := .int (d2 : Int)) rfl (bin_ok (x := .lst ([d0, d1, (d2 : Int)].map D.int)) (y := .int 2) rfl rfl rfl) ?_)
    show Res.ok (D.int (2 + (d2 : Int))) = .ok (.int ((2 + d2 : Nat) : Int))
    rw [Int.natCast_add]
    rfl
  let δ2 : DS := [A, N1, N2, none, none, none, none, none, none, none, none]
  obtain ⟨b, hb, s5⟩ : ∃ b : Int, (b < 1 ∨ 6 < b) ∧ cAsg 3 (cBin oIx (cL (cCons (cC (.int 0)) (cCons (cUn oNeg (cC (.int 1))) (cCons (cC (.int 7)) (cCons (cBin oPow (cC (.int 10)) (cC (.int 29))) (cCons (cUn oNeg (cC (.int 9))) (cCons (cC (.int 8)) cNil))))))) (cBin oIx (cVar 1) (cC (.int 1)))) δ2 = .nx [A, N1, N2, some (.im (.int b)), none, none, none, none, none, none, none] := by
    have el : cL (cCons (cC (.int 0)) (cCons (cUn oNeg (cC (.int 1))) (cCons (cC (.int 7)) (cCons (cBin oPow (cC (.int 10)) (cC (.int 29))) (cCons (cUn oNeg (cC (.int 9))) (cCons (cC (.int 8)) cNil)))))) δ2 = .ok (.lst [.int 0, .int (-1), .int 7, .int (10 ^ 29), .int (-9), .int 8]) := rfl
    have e1 : cBin oIx (cVar 1) (cC (.int 1)) δ2 = .ok (.int d1) := bin_ok (x := .lst ([d0, d1, (d2 : Int)].map D.int)) (y := .int 1) rfl rfl rfl
    have hcase : d1 = 0 ∨ d1 = 1 ∨ d1 = 2 ∨ d1 = 3 ∨ d1 = 4 ∨ d1 = 5 := by omega
    rcases hcase with z | z | z | z | z | z
    · exact ⟨0, .inl (by decide), asg_nx (bin_ok el e1 (by rw [z]; rfl))⟩
    · exact ⟨-1, .inl (by decide), asg_nx (bin_ok el e1 (by rw [z]; rfl))⟩
    · exact ⟨7, .inr (by decide), asg_nx (bin_ok el e1 (by rw [z]; rfl))⟩
    · exact ⟨10 ^ 29, .inr (by decide), asg_nx (bin_ok el e1 (by rw [z]; rfl))⟩
    · exact ⟨-9, .inl (by decide), asg_nx (bin_ok el e1 (by rw [z]; rfl))⟩
    · exact ⟨8, .inr (by decide), asg_nx (bin_ok el e1 (by rw [z]; rfl))⟩
  let N3 : Option O := some (.im (.int b))
  let δ3 : DS := [A, N1, N2, N3, none, none, none, none, none, none, none]
  have s6 : cIf (cTest (cBin oNe (cLam 2 q__law_word "" (cFn F_many_webs [(.tup []), (.tup []), .non] (cCons (cVar 3) cNil))) (cC (.str "badmany")))) (cRet (cC (.bl false))) cNext δ3 = .nx δ3 := by
    have e1 : cLam 2 q__law_word "" (cFn F_many_webs [(.tup []), (.tup []), .non] (cCons (cVar 3) cNil)) δ3 = .ok (.str "badmany") := by
      show wordF 2 q__law_word "" (F_many_webs [.int b, .tup [], .tup [], .non]) = _
      rw [many_er hb]
      rfl
    refine if_f (test_ok (bin_ok e1 (y := .str "badmany") rfl ?_)) rfl
    have := eq_strs (neg := true) (x := "badmany") (y := "badmany") (by decide +kernel) (by decide +kernel)
    exact this
  have hn2 : 1 ≤ n ∧ n ≤ 6 := by
    show 1 ≤ 2 + d2 ∧ 2 + d2 ≤ 6
    omega
  have s7 : cIf (cTest (cBin oNe (cKw F_many_webs [.p 0, .k 0, .c (.tup []), .c .non] (cCons (cVar 2) cNil) (cCons (cTup (cCons (cTup (cCons (cC (.int 0)) (cCons (cC (.int 1)) cNil))) cNil)) cNil)) (cKw F_many_webs [.p 0, .k 0, .c (.tup []), .c .non] (cCons (cVar 2) cNil) (cCons (cTup (cCons (cTup (cCons (cC (.int 1)) (cCons (cC (.int 0)) cNil))) cNil)) cNil)))) (cRet (cC (.bl false))) cNext δ3 = .nx δ3 := by
    have m1 := many_ok hn2.1 hn2.2 [(0, 1)] [] none (by simp) (by simp)
    have m2 := many_ok hn2.1 hn2.2 [(1, 0)] [] none (by simp) (by simp)
    have ht := cnt_turn ⟨d2, hd2'⟩
    have en : d2 + 2 = n := Nat.add_comm _ _
    have ht' : lastT (gMay oneG [(0, 1)] [] none) n = lastT (gMay oneG [(1, 0)] [] none) n := by rw [← en]; exact ht
    rw [ht'] at m1
    have e1 : cKw F_many_webs [.p 0, .k 0, .c (.tup []), .c .non] (cCons (cVar 2) cNil) (cCons (cTup (cCons (cTup (cCons (cC (.int 0)) (cCons (cC (.int 1)) cNil))) cNil)) cNil) δ3 = .ok (.int (lastT (gMay oneG [(1, 0)] [] none) n)) := m1
    have e2 : cKw F_many_webs [.p 0, .k 0, .c (.tup []), .c .non] (cCons (cVar 2) cNil) (cCons (cTup (cCons (cTup (cCons (cC (.int 1)) (cCons (cC (.int 0)) cNil))) cNil)) cNil) δ3 = .ok (.int (lastT (gMay oneG [(1, 0)] [] none) n)) := m2
    refine if_f (test_ok (bin_ok e1 e2 ?_)) rfl
    show oEqB true (.v (.int _)) (.v (.int _)) = _
    rw [ev_neI]
    simp
  obtain ⟨δ8, e8, hP⟩ := forF_invC D.int (PL ms N1 N2 N3) (b := bName 4) (g := g_law_l1) (qs ++ [0, 1, 2]) δ3 ⟨_, _, _, _, _, _, _, rfl⟩ (by
    rintro δ x hx ⟨a4, a5, a6, a7, a8, a9, a10, rfl⟩
    obtain ⟨δ2, h1, h2⟩ := turn (ns := ms) x N1 N2 N3 a5 a6 a7 a8 a9 a10
    exact ⟨_, δ2, rfl, h1, h2⟩)
  have s8 : cFor (cItems (cBin oAdd (cSl (cVar 0) cNone (cSome (cC (.int 6)))) (cL (cCons (cC (.int 0)) (cCons (cC (.int 1)) (cCons (cC (.int 2)) cNil)))))) (bName 4) g_law_l1 δ3 = .nx δ8 := by
    refine for_r (ds := (qs ++ [0, 1, 2]).map D.int) ?_ e8
    have e1 : cSl (cVar 0) cNone (cSome (cC (.int 6))) δ3 = .ok (.lst (qs.map D.int)) := by
      show Res.ok (D.lst (cutD (ms.map D.int) none (some 6))) = _
      rw [hqs]
    have e2 : cBin oAdd (cSl (cVar 0) cNone (cSome (cC (.int 6)))) (cL (cCons (cC (.int 0)) (cCons (cC (.int 1)) (cCons (cC (.int 2)) cNil)))) δ3 = .ok (.lst ((qs ++ [0, 1, 2]).map D.int)) := by
      refine bin_ok e1 (y := .lst [.int 0, .int 1, .int 2]) rfl ?_
      unfold oAdd
      dsimp only
      rw [if_pos (by rw [List.length_map, sizeLine_eq]; simp; omega), List.map_append]
      rfl
    show (cBin oAdd _ _ δ3).bind itemsD = _
    rw [e2]
    rfl
  have k : g_law [some (.im (.lst (ns.map D.int))), none, none, none, none, none, none, none, none, none, none] = .rt (.bl true) := by
    unfold g_law
    exact seq_nx s0 (seq_nx s1 (seq_nx s2 (seq_nx s3 (seq_nx s4 (seq_nx s5 (seq_nx s6 (seq_nx s7 (seq_nx s8 (ret_rt rfl)))))))))
  show flR (g_law [some (.im (.lst (ns.map D.int))), none, none, none, none, none, none, none, none, none, none]) = _
  rw [k]
  rfl
end My
namespace My
open PySem L2 DV
theorem all_mk {l : PySem.W.OpenLaw} {w : World} {K : PySem.W.Frag} {h : Heap} {mg : Str → Option Value} {fa f0 f1 f2 f3 f4 f5 f6 f7 f8 f9 f10 f11 f12 f13 f14 f15 f16 f17 f18 f19 f20 f21 f22 f23 : Addr} (X : K.In h) (G : h.Ns mainGlobals mg) (hfa : mg "law" = some (.ref fa))
    {od0 an0 od1 an1 od2 an2 od3 an3 od4 an4 od5 an5 od6 an6 od7 an7 od8 an8 od9 an9 od10 an10 od11 an11 od12 an12 od13 an13 od14 an14 od15 an15 od16 an16 od17 an17 od18 an18 od19 an19 od20 an20 od21 an21 od22 an22 od23 an23 : Option Addr} {sl0 sl1 sl2 sl3 sl4 sl5 sl6 sl7 sl8 sl9 sl10 sl11 sl12 sl13 sl14 sl15 sl16 sl17 sl18 sl19 sl20 sl21 sl22 sl23 : Array (Option Value)} {oc0 kV0 dc0 pm0 cd0 ct0 oc1 kV1 dc1 pm1 cd1 ct1 oc2 kV2 dc2 pm2 cd2 ct2 oc3 kV3 dc3 pm3 cd3 ct3 oc4 kV4 dc4 pm4 cd4 ct4 oc5 dc5 pm5 cd5 ct5 oc6 kV6 dc6 pm6 cd6 ct6 oc7 kV7 dc7 pm7 cd7 ct7 oc8 kV8 dc8 pm8 cd8 ct8 oc9 kV9 dc9 pm9 cd9 ct9 oc10 kV10 dc10 pm10 cd10 ct10 oc11 kV11 dc11 pm11 cd11 ct11 oc12 kV12 dc12 pm12 cd12 ct12 oc13 dc13 pm13 cd13 ct13 oc14 kV14 dc14 pm14 cd14 ct14 oc15 kV15 dc15 pm15 cd15 ct15 oc16 kV16 dc16 pm16 cd16 ct16 oc17 kV17 dc17 pm17 cd17 ct17 oc18 kV18 dc18 pm18 cd18 ct18 oc19 kV19 dc19 pm19 cd19 ct19 oc20 kV20 dc20 pm20 cd20 ct20 oc21 kV21 dc21 pm21 cd21 ct21 oc22 kV22 dc22 pm22 cd22 ct22 oc23 kV23 dc23 pm23 ct23 : Value}
    {C_Plain : Addr}
    {C_BadMany I_BadMany C_NothingLeft I_NothingLeft C_ByNought I_ByNought C_Absent  C_LoomError : Addr} {iod_BadMany ian_BadMany iod_NothingLeft ian_NothingLeft iod_ByNought ian_ByNought : Option Addr} {isl_BadMany isl_NothingLeft isl_ByNought : Array (Option Value)} {ioc_BadMany ikV_BadMany idc_BadMany ipm_BadMany icd_BadMany ict_BadMany ioc_NothingLeft ikV_NothingLeft idc_NothingLeft ipm_NothingLeft icd_NothingLeft ict_NothingLeft ioc_ByNought ikV_ByNought idc_ByNought ipm_ByNought icd_ByNought ict_ByNought : Value}
    {dT1 : Addr} {dt1_0 : Tok} {dq1 : Value} {dr1 : Option Addr} {dn1 : Nat} {dz1 : Array (Option Value)}
    {dK5 : Addr}
    {dK13 : Addr}
    {tA_NOUGHT : Addr} {to_NOUGHT : Option Addr} {tn_NOUGHT : Nat} {ts_NOUGHT : Array (Option Value)} {tt_NOUGHT_0 tt_NOUGHT_1 : Tok}
    {tA_WHOLE : Addr} {to_WHOLE : Option Addr} {tn_WHOLE : Nat} {ts_WHOLE : Array (Option Value)} {tt_WHOLE_0 tt_WHOLE_1 : Tok}
    {tA_dT_many_webs_must : Addr} {to_dT_many_webs_must : Option Addr} {tn_dT_many_webs_must : Nat} {ts_dT_many_webs_must : Array (Option Value)}
    {tA_dT_many_webs_never : Addr} {to_dT_many_webs_never : Option Addr} {tn_dT_many_webs_never : Nat} {ts_dT_many_webs_never : Array (Option Value)}
    {tc_MOST_COLUMNS : Tok}
    {cL : Addr}
    (ca_BadMany : PySem.W.nsIn K mainGlobals "BadMany" = some (some (.ref C_BadMany))) (cb_BadMany : oexB K C_BadMany [.type "ValueError", .type "Exception", .type "BaseException", .type "object"] "ValueError.__new__" = true) (cc_BadMany : PySem.W.findIn K (.ref C_BadMany) "__init__" = some (some (.ref I_BadMany))) (cd_BadMany : PySem.W.typeIn K (.ref I_BadMany) = some (.type "function")) (ce_BadMany : xcB K C_BadMany = true)
    (cl_BadMany : K.lookup I_BadMany = some ⟨ioc_BadMany, iod_BadMany, .func (PySem.W.fnOf "__init__" "BadMany.__init__" (defArgs si_BadMany) (defBody si_BadMany) (defScope si_BadMany) .none ikV_BadMany idc_BadMany ipm_BadMany ian_BadMany icd_BadMany ict_BadMany), isl_BadMany⟩) (cm_BadMany : PySem.W.codeIn K icd_BadMany "BadMany.__init__" = true) (cn_BadMany : PySem.W.keepIn K (.ref I_BadMany) = true)
    (ca_NothingLeft : PySem.W.nsIn K mainGlobals "NothingLeft" = some (some (.ref C_NothingLeft))) (cb_NothingLeft : oexB K C_NothingLeft [.type "IndexError", .type "LookupError", .type "Exception", .type "BaseException", .type "object"] "IndexError.__new__" = true) (cc_NothingLeft : PySem.W.findIn K (.ref C_NothingLeft) "__init__" = some (some (.ref I_NothingLeft))) (cd_NothingLeft : PySem.W.typeIn K (.ref I_NothingLeft) = some (.type "function")) (ce_NothingLeft : xcB K C_NothingLeft = true)
    (cl_NothingLeft : K.lookup I_NothingLeft = some ⟨ioc_NothingLeft, iod_NothingLeft, .func (PySem.W.fnOf "__init__" "NothingLeft.__init__" (defArgs si_NothingLeft) (defBody si_NothingLeft) (defScope si_NothingLeft) .none ikV_NothingLeft idc_NothingLeft ipm_NothingLeft ian_NothingLeft icd_NothingLeft ict_NothingLeft), isl_NothingLeft⟩) (cm_NothingLeft : PySem.W.codeIn K icd_NothingLeft "NothingLeft.__init__" = true) (cn_NothingLeft : PySem.W.keepIn K (.ref I_NothingLeft) = true)
    (ca_ByNought : PySem.W.nsIn K mainGlobals "ByNought" = some (some (.ref C_ByNought))) (cb_ByNought : oexB K C_ByNought [.type "ZeroDivisionError", .type "ArithmeticError", .type "Exception", .type "BaseException", .type "object"] "ZeroDivisionError.__new__" = true) (cc_ByNought : PySem.W.findIn K (.ref C_ByNought) "__init__" = some (some (.ref I_ByNought))) (cd_ByNought : PySem.W.typeIn K (.ref I_ByNought) = some (.type "function")) (ce_ByNought : xcB K C_ByNought = true)
    (cl_ByNought : K.lookup I_ByNought = some ⟨ioc_ByNought, iod_ByNought, .func (PySem.W.fnOf "__init__" "ByNought.__init__" (defArgs si_ByNought) (defBody si_ByNought) (defScope si_ByNought) .none ikV_ByNought idc_ByNought ipm_ByNought ian_ByNought icd_ByNought ict_ByNought), isl_ByNought⟩) (cm_ByNought : PySem.W.codeIn K icd_ByNought "ByNought.__init__" = true) (cn_ByNought : PySem.W.keepIn K (.ref I_ByNought) = true)
    (ca_Absent : PySem.W.nsIn K mainGlobals "Absent" = some (some (.ref C_Absent)))
    (ca_LoomError : PySem.W.nsIn K mainGlobals "LoomError" = some (some (.ref C_LoomError)))
    (cx_BadMany_NothingLeft : PySem.W.exmOne K (.ref C_BadMany) (.ref C_NothingLeft) = some false)
    (cx_NothingLeft_NothingLeft : PySem.W.exmOne K (.ref C_NothingLeft) (.ref C_NothingLeft) = some true)
    (cx_ByNought_NothingLeft : PySem.W.exmOne K (.ref C_ByNought) (.ref C_NothingLeft) = some false)
    (cx_BadMany_Absent : PySem.W.exmOne K (.ref C_BadMany) (.ref C_Absent) = some false)
    (cx_NothingLeft_Absent : PySem.W.exmOne K (.ref C_NothingLeft) (.ref C_Absent) = some false)
    (cx_ByNought_Absent : PySem.W.exmOne K (.ref C_ByNought) (.ref C_Absent) = some false)
    (cx_BadMany_LoomError : PySem.W.exmOne K (.ref C_BadMany) (.ref C_LoomError) = some true)
    (cx_NothingLeft_LoomError : PySem.W.exmOne K (.ref C_NothingLeft) (.ref C_LoomError) = some false)
    (cx_ByNought_LoomError : PySem.W.exmOne K (.ref C_ByNought) (.ref C_LoomError) = some false)
    (na_Plain : PySem.W.nsIn K mainGlobals "Plain" = some (some (.ref C_Plain))) (nb_Plain : PySem.W.plainGet K C_Plain Str.empty = true) (nc_Plain : PySem.W.hasDictIn K C_Plain = true) (nd_Plain : PySem.W.plainOver K C_Plain = true) (ne_Plain : PySem.W.findIn K (.ref C_Plain) "__setattr__" = some (some (.builtin "object.__setattr__"))) (nm_Plain : PySem.W.makesIn K C_Plain = true) (nk_Plain : PySem.W.keepIn K (.ref C_Plain) = true)
    (ni_Plain : PySem.W.findIn K (.ref C_Plain) "__init__" = some (some (.builtin "object.__init__")))
    (a0 : PySem.W.nsIn K mainGlobals "shared" = some (some (.ref f0))) (l0 : K.lookup f0 = some ⟨oc0, od0, .func (PySem.W.fnOf "shared" "shared" (defArgs s_shared) (defBody s_shared) (defScope s_shared) .none kV0 dc0 pm0 an0 cd0 ct0), sl0⟩) (c0 : PySem.W.codeIn K cd0 "shared" = true) (k0 : PySem.W.keepIn K (.ref f0) = true)
    (a1 : PySem.W.nsIn K mainGlobals "lowest" = some (some (.ref f1))) (l1 : K.lookup f1 = some ⟨oc1, od1, .func (PySem.W.fnOf "lowest" "lowest" (defArgs s_lowest) (defBody s_lowest) (defScope s_lowest) (.ref dT1) kV1 dc1 pm1 an1 cd1 ct1), sl1⟩) (c1 : PySem.W.codeIn K cd1 "lowest" = true) (k1 : PySem.W.keepIn K (.ref f1) = true) (t1 : K.lookup dT1 = some ⟨dq1, dr1, .seq (List.toArray [.int 1 dt1_0]) dn1, dz1⟩)
    (a2 : PySem.W.nsIn K mainGlobals "plus" = some (some (.ref f2))) (l2 : K.lookup f2 = some ⟨oc2, od2, .func (PySem.W.fnOf "plus" "plus" (defArgs s_plus) (defBody s_plus) (defScope s_plus) .none kV2 dc2 pm2 an2 cd2 ct2), sl2⟩) (c2 : PySem.W.codeIn K cd2 "plus" = true) (k2 : PySem.W.keepIn K (.ref f2) = true)
    (a3 : PySem.W.nsIn K mainGlobals "minus" = some (some (.ref f3))) (l3 : K.lookup f3 = some ⟨oc3, od3, .func (PySem.W.fnOf "minus" "minus" (defArgs s_minus) (defBody s_minus) (defScope s_minus) .none kV3 dc3 pm3 an3 cd3 ct3), sl3⟩) (c3 : PySem.W.codeIn K cd3 "minus" = true) (k3 : PySem.W.keepIn K (.ref f3) = true)
    (a4 : PySem.W.nsIn K mainGlobals "times" = some (some (.ref f4))) (l4 : K.lookup f4 = some ⟨oc4, od4, .func (PySem.W.fnOf "times" "times" (defArgs s_times) (defBody s_times) (defScope s_times) .none kV4 dc4 pm4 an4 cd4 ct4), sl4⟩) (c4 : PySem.W.codeIn K cd4 "times" = true) (k4 : PySem.W.keepIn K (.ref f4) = true)
    (a5 : PySem.W.nsIn K mainGlobals "summed" = some (some (.ref f5))) (l5 : K.lookup f5 = some ⟨oc5, od5, .func (PySem.W.fnOf "summed" "summed" (defArgs s_summed) (defBody s_summed) (defScope s_summed) .none (.ref dK5) dc5 pm5 an5 cd5 ct5), sl5⟩) (c5 : PySem.W.codeIn K cd5 "summed" = true) (k5 : PySem.W.keepIn K (.ref f5) = true)
    (a6 : PySem.W.nsIn K mainGlobals "subsets" = some (some (.ref f6))) (l6 : K.lookup f6 = some ⟨oc6, od6, .func (PySem.W.fnOf "subsets" "subsets" (defArgs s_subsets) (defBody s_subsets) (defScope s_subsets) .none kV6 dc6 pm6 an6 cd6 ct6), sl6⟩) (c6 : PySem.W.codeIn K cd6 "subsets" = true) (k6 : PySem.W.keepIn K (.ref f6) = true)
    (a7 : PySem.W.nsIn K mainGlobals "may_lean" = some (some (.ref f7))) (l7 : K.lookup f7 = some ⟨oc7, od7, .func (PySem.W.fnOf "may_lean" "may_lean" (defArgs s_may_lean) (defBody s_may_lean) (defScope s_may_lean) .none kV7 dc7 pm7 an7 cd7 ct7), sl7⟩) (c7 : PySem.W.codeIn K cd7 "may_lean" = true) (k7 : PySem.W.keepIn K (.ref f7) = true)
    (a8 : PySem.W.nsIn K mainGlobals "members" = some (some (.ref f8))) (l8 : K.lookup f8 = some ⟨oc8, od8, .func (PySem.W.fnOf "members" "members" (defArgs s_members) (defBody s_members) (defScope s_members) .none kV8 dc8 pm8 an8 cd8 ct8), sl8⟩) (c8 : PySem.W.codeIn K cd8 "members" = true) (k8 : PySem.W.keepIn K (.ref f8) = true)
    (a9 : PySem.W.nsIn K mainGlobals "choices" = some (some (.ref f9))) (l9 : K.lookup f9 = some ⟨oc9, od9, .func (PySem.W.fnOf "choices" "choices" (defArgs s_choices) (defBody s_choices) (defScope s_choices) .none kV9 dc9 pm9 an9 cd9 ct9), sl9⟩) (c9 : PySem.W.codeIn K cd9 "choices" = true) (k9 : PySem.W.keepIn K (.ref f9) = true)
    (a10 : PySem.W.findIn K (.ref C_Plain) "worth_of" = some (some (.ref f10))) (af10 : PySem.W.isFn K (.ref f10) = true) (l10 : K.lookup f10 = some ⟨oc10, od10, .func (PySem.W.fnOf "worth_of" "Plain.worth_of" (defArgs s_Plain_worth_of) (defBody s_Plain_worth_of) (defScope s_Plain_worth_of) .none kV10 dc10 pm10 an10 cd10 ct10), sl10⟩) (c10 : PySem.W.codeIn K cd10 "Plain.worth_of" = true) (k10 : PySem.W.keepIn K (.ref f10) = true)
    (a11 : PySem.W.nsIn K mainGlobals "last_ones" = some (some (.ref f11))) (l11 : K.lookup f11 = some ⟨oc11, od11, .func (PySem.W.fnOf "last_ones" "last_ones" (defArgs s_last_ones) (defBody s_last_ones) (defScope s_last_ones) .none kV11 dc11 pm11 an11 cd11 ct11), sl11⟩) (c11 : PySem.W.codeIn K cd11 "last_ones" = true) (k11 : PySem.W.keepIn K (.ref f11) = true)
    (a12 : PySem.W.nsIn K mainGlobals "total_by" = some (some (.ref f12))) (l12 : K.lookup f12 = some ⟨oc12, od12, .func (PySem.W.fnOf "total_by" "total_by" (defArgs s_total_by) (defBody s_total_by) (defScope s_total_by) .none kV12 dc12 pm12 an12 cd12 ct12), sl12⟩) (c12 : PySem.W.codeIn K cd12 "total_by" = true) (k12 : PySem.W.keepIn K (.ref f12) = true)
    (a13 : PySem.W.nsIn K mainGlobals "many_webs" = some (some (.ref f13))) (l13 : K.lookup f13 = some ⟨oc13, od13, .func (PySem.W.fnOf "many_webs" "many_webs" (defArgs s_many_webs) (defBody s_many_webs) (defScope s_many_webs) .none (.ref dK13) dc13 pm13 an13 cd13 ct13), sl13⟩) (c13 : PySem.W.codeIn K cd13 "many_webs" = true) (k13 : PySem.W.keepIn K (.ref f13) = true)
    (a14 : PySem.W.nsIn K mainGlobals "_law_cell" = some (some (.ref f14))) (l14 : K.lookup f14 = some ⟨oc14, od14, .func (PySem.W.fnOf "_law_cell" "_law_cell" (defArgs s__law_cell) (defBody s__law_cell) (defScope s__law_cell) .none kV14 dc14 pm14 an14 cd14 ct14), sl14⟩) (c14 : PySem.W.codeIn K cd14 "_law_cell" = true) (k14 : PySem.W.keepIn K (.ref f14) = true)
    (a15 : PySem.W.nsIn K mainGlobals "_law_draws" = some (some (.ref f15))) (l15 : K.lookup f15 = some ⟨oc15, od15, .func (PySem.W.fnOf "_law_draws" "_law_draws" (defArgs s__law_draws) (defBody s__law_draws) (defScope s__law_draws) .none kV15 dc15 pm15 an15 cd15 ct15), sl15⟩) (c15 : PySem.W.codeIn K cd15 "_law_draws" = true) (k15 : PySem.W.keepIn K (.ref f15) = true)
    (a16 : PySem.W.nsIn K mainGlobals "_law_arrows" = some (some (.ref f16))) (l16 : K.lookup f16 = some ⟨oc16, od16, .func (PySem.W.fnOf "_law_arrows" "_law_arrows" (defArgs s__law_arrows) (defBody s__law_arrows) (defScope s__law_arrows) .none kV16 dc16 pm16 an16 cd16 ct16), sl16⟩) (c16 : PySem.W.codeIn K cd16 "_law_arrows" = true) (k16 : PySem.W.keepIn K (.ref f16) = true)
    (a17 : PySem.W.nsIn K mainGlobals "_law_ringless" = some (some (.ref f17))) (l17 : K.lookup f17 = some ⟨oc17, od17, .func (PySem.W.fnOf "_law_ringless" "_law_ringless" (defArgs s__law_ringless) (defBody s__law_ringless) (defScope s__law_ringless) .none kV17 dc17 pm17 an17 cd17 ct17), sl17⟩) (c17 : PySem.W.codeIn K cd17 "_law_ringless" = true) (k17 : PySem.W.keepIn K (.ref f17) = true)
    (a18 : PySem.W.nsIn K mainGlobals "_law_all_webs" = some (some (.ref f18))) (l18 : K.lookup f18 = some ⟨oc18, od18, .func (PySem.W.fnOf "_law_all_webs" "_law_all_webs" (defArgs s__law_all_webs) (defBody s__law_all_webs) (defScope s__law_all_webs) .none kV18 dc18 pm18 an18 cd18 ct18), sl18⟩) (c18 : PySem.W.codeIn K cd18 "_law_all_webs" = true) (k18 : PySem.W.keepIn K (.ref f18) = true)
    (a19 : PySem.W.nsIn K mainGlobals "_law_kept" = some (some (.ref f19))) (l19 : K.lookup f19 = some ⟨oc19, od19, .func (PySem.W.fnOf "_law_kept" "_law_kept" (defArgs s__law_kept) (defBody s__law_kept) (defScope s__law_kept) .none kV19 dc19 pm19 an19 cd19 ct19), sl19⟩) (c19 : PySem.W.codeIn K cd19 "_law_kept" = true) (k19 : PySem.W.keepIn K (.ref f19) = true)
    (a20 : PySem.W.nsIn K mainGlobals "_law_bound" = some (some (.ref f20))) (l20 : K.lookup f20 = some ⟨oc20, od20, .func (PySem.W.fnOf "_law_bound" "_law_bound" (defArgs s__law_bound) (defBody s__law_bound) (defScope s__law_bound) .none kV20 dc20 pm20 an20 cd20 ct20), sl20⟩) (c20 : PySem.W.codeIn K cd20 "_law_bound" = true) (k20 : PySem.W.keepIn K (.ref f20) = true)
    (a21 : PySem.W.nsIn K mainGlobals "_law_word" = some (some (.ref f21))) (l21 : K.lookup f21 = some ⟨oc21, od21, .func (PySem.W.fnOf "_law_word" "_law_word" (defArgs s__law_word) (defBody s__law_word) (defScope s__law_word) .none kV21 dc21 pm21 an21 cd21 ct21), sl21⟩) (c21 : PySem.W.codeIn K cd21 "_law_word" = true) (k21 : PySem.W.keepIn K (.ref f21) = true)
    (a22 : PySem.W.nsIn K mainGlobals "_law_same" = some (some (.ref f22))) (l22 : K.lookup f22 = some ⟨oc22, od22, .func (PySem.W.fnOf "_law_same" "_law_same" (defArgs s__law_same) (defBody s__law_same) (defScope s__law_same) .none kV22 dc22 pm22 an22 cd22 ct22), sl22⟩) (c22 : PySem.W.codeIn K cd22 "_law_same" = true) (k22 : PySem.W.keepIn K (.ref f22) = true)
    (a23 : PySem.W.nsIn K mainGlobals "law" = some (some (.ref f23))) (l23 : K.lookup f23 = some ⟨oc23, od23, .func (PySem.W.fnOf "law" "law" (defArgs s_law) (defBody s_law) (defScope s_law) .none kV23 dc23 pm23 an23 (.ref cL) ct23), sl23⟩) (c23 : PySem.W.codeIn K (.ref cL) "law" = true) (k23 : PySem.W.keepIn K (.ref f23) = true)
    (z_abs : PySem.W.nsIn K mainGlobals "abs" = some none)
    (z_all : PySem.W.nsIn K mainGlobals "all" = some none)
    (z_any : PySem.W.nsIn K mainGlobals "any" = some none)
    (z_bool : PySem.W.nsIn K mainGlobals "bool" = some none)
    (z_int : PySem.W.nsIn K mainGlobals "int" = some none)
    (z_isinstance : PySem.W.nsIn K mainGlobals "isinstance" = some none)
    (z_len : PySem.W.nsIn K mainGlobals "len" = some none)
    (z_list : PySem.W.nsIn K mainGlobals "list" = some none)
    (z_max : PySem.W.nsIn K mainGlobals "max" = some none)
    (z_min : PySem.W.nsIn K mainGlobals "min" = some none)
    (z_range : PySem.W.nsIn K mainGlobals "range" = some none)
    (z_sorted : PySem.W.nsIn K mainGlobals "sorted" = some none)
    (z_str : PySem.W.nsIn K mainGlobals "str" = some none)
    (z_tuple : PySem.W.nsIn K mainGlobals "tuple" = some none)
    (x_NOUGHT : PySem.W.nsIn K mainGlobals "NOUGHT" = some (some (.ref tA_NOUGHT))) (y_NOUGHT : K.lookup tA_NOUGHT = some ⟨.type "tuple", to_NOUGHT, .seq (List.toArray [.int 0 tt_NOUGHT_0, .int 1 tt_NOUGHT_1]) tn_NOUGHT, ts_NOUGHT⟩)
    (x_WHOLE : PySem.W.nsIn K mainGlobals "WHOLE" = some (some (.ref tA_WHOLE))) (y_WHOLE : K.lookup tA_WHOLE = some ⟨.type "tuple", to_WHOLE, .seq (List.toArray [.int 1 tt_WHOLE_0, .int 1 tt_WHOLE_1]) tn_WHOLE, ts_WHOLE⟩)
    (q5_0 : PySem.W.nsIn K dK5 "start" = some (some (.ref tA_NOUGHT)))
    (q13_0 : PySem.W.nsIn K dK13 "must" = some (some (.ref tA_dT_many_webs_must)))
    (q13_1 : PySem.W.nsIn K dK13 "never" = some (some (.ref tA_dT_many_webs_never)))
    (q13_2 : PySem.W.nsIn K dK13 "most" = some (some (.none)))
    (y_dT_many_webs_must : K.lookup tA_dT_many_webs_must = some ⟨.type "tuple", to_dT_many_webs_must, .seq (List.toArray []) tn_dT_many_webs_must, ts_dT_many_webs_must⟩)
    (y_dT_many_webs_never : K.lookup tA_dT_many_webs_never = some ⟨.type "tuple", to_dT_many_webs_never, .seq (List.toArray []) tn_dT_many_webs_never, ts_dT_many_webs_never⟩)
    (x_MOST_COLUMNS : PySem.W.nsIn K mainGlobals "MOST_COLUMNS" = some (some (.int 6 tc_MOST_COLUMNS)))
    {PL : Addr} {cvs : Array Value} {coc : Value} {cod : Option Addr} {csl : Array (Option Value)} (tc : K.lookup cL = some ⟨coc, cod, .fields cvs, csl⟩) (tp : cvs[11]? = some (.ref PL)) (tn : K.lookup PL = none)
    : ∃ (fd : FuncData) (cs : List (Addr × Addr)), TabsAre K lamNs cs ∧ (∀ p ∈ cs, K.lookup p.2 = none) ∧ (∀ (s : Shared) (v : Value), BindsTo s fd ⟨[v], []⟩ [("_law_script", v)]) ∧ ∀ base : Heap, K.In base → base.Ns mainGlobals mg → (∀ p ∈ cs, LamX.TabB base mg p.1 p.2) → FnOk l.prog w K mg base (L2.CX l.prog w) 11 fa fd ["_law_script"] (spD K 1 F_law) := by
  have e := hfa.symm.trans (PySem.W.mg_of X G a23)
  cases e
  have R_NOUGHT : ∀ B, Rp K B (.ref tA_NOUGHT) (.tup [(.int 0), (.int 1)]) := rp_tup (vs := [V.int 0, V.int 1]) y_NOUGHT (by simp) (.cons ⟨_, rfl⟩ (.cons ⟨_, rfl⟩ .nil)) (fun _ => (.cons (.v _) (.cons (.v _) .nil)))
  have R_WHOLE : ∀ B, Rp K B (.ref tA_WHOLE) (.tup [(.int 1), (.int 1)]) := rp_tup (vs := [V.int 1, V.int 1]) y_WHOLE (by simp) (.cons ⟨_, rfl⟩ (.cons ⟨_, rfl⟩ .nil)) (fun _ => (.cons (.v _) (.cons (.v _) .nil)))
  have R_dT_many_webs_must : ∀ B, Rp K B (.ref tA_dT_many_webs_must) (.tup []) := rp_tup (vs := []) y_dT_many_webs_must (by simp) .nil (fun _ => .nil)
  have R_dT_many_webs_never : ∀ B, Rp K B (.ref tA_dT_many_webs_never) (.tup []) := rp_tup (vs := []) y_dT_many_webs_never (by simp) .nil (fun _ => .nil)
  have IF_BadMany := fun_mk (st := si_BadMany) cl_BadMany cm_BadMany cn_BadMany
  have ib_BadMany := IF_BadMany.binds (ps := ["self"]) fun _ _ _ _ _ _ us hl => match us, hl with | [_], _ => rfl
  have X_BadMany : ExK K mg "BadMany" C_BadMany I_BadMany := ⟨oexB_ok PySem.F.excBase_ValueError PySem.F.store_ValueError cb_BadMany, PySem.W.mg_of X G ca_BadMany, clsV_of ca_BadMany, cc_BadMany, cd_BadMany⟩
  have IF_NothingLeft := fun_mk (st := si_NothingLeft) cl_NothingLeft cm_NothingLeft cn_NothingLeft
  have ib_NothingLeft := IF_NothingLeft.binds (ps := ["self"]) fun _ _ _ _ _ _ us hl => match us, hl with | [_], _ => rfl
  have X_NothingLeft : ExK K mg "NothingLeft" C_NothingLeft I_NothingLeft := ⟨oexB_ok PySem.F.excBase_IndexError PySem.F.store_IndexError cb_NothingLeft, PySem.W.mg_of X G ca_NothingLeft, clsV_of ca_NothingLeft, cc_NothingLeft, cd_NothingLeft⟩
  have IF_ByNought := fun_mk (st := si_ByNought) cl_ByNought cm_ByNought cn_ByNought
  have ib_ByNought := IF_ByNought.binds (ps := ["self"]) fun _ _ _ _ _ _ us hl => match us, hl with | [_], _ => rfl
  have X_ByNought : ExK K mg "ByNought" C_ByNought I_ByNought := ⟨oexB_ok PySem.F.excBase_ZeroDivisionError PySem.F.store_ZeroDivisionError cb_ByNought, PySem.W.mg_of X G ca_ByNought, clsV_of ca_ByNought, cc_ByNought, cd_ByNought⟩
  have kc_Plain : ClK K "Plain" C_Plain := ⟨clsV_of na_Plain, ⟨nb_Plain, nc_Plain, nd_Plain, ne_Plain⟩⟩
  have F0 := fun_mk (st := s_shared) l0 c0 k0
  have b0 := F0.binds (ps := ["one", "other"]) fun _ _ _ _ _ _ us hl => match us, hl with | [_, _], _ => rfl
  have F1 := funD_mk (st := s_lowest) (dvs := [V.int 1]) l1 c1 k1 t1 rfl (.cons ⟨_, rfl⟩ .nil) (by simp)
  have b1 := binds_all (F1.binds1 (ps := ["top", "bottom"]) 2 1 (by simp) rfl fun _ _ _ _ _ _ _ us its h1 h2 => match us, its, h1, h2 with | [_, _], [_], _, _ => ⟨_, rfl, rfl⟩) rfl
  have F2 := fun_mk (st := s_plus) l2 c2 k2
  have b2 := F2.binds (ps := ["one", "other"]) fun _ _ _ _ _ _ us hl => match us, hl with | [_, _], _ => rfl
  have F3 := fun_mk (st := s_minus) l3 c3 k3
  have b3 := F3.binds (ps := ["one", "other"]) fun _ _ _ _ _ _ us hl => match us, hl with | [_, _], _ => rfl
  have F4 := fun_mk (st := s_times) l4 c4 k4
  have b4 := F4.binds (ps := ["one", "other"]) fun _ _ _ _ _ _ us hl => match us, hl with | [_, _], _ => rfl
  have F5 := funK_mk (st := s_summed) (kws := [("start", V.ref tA_NOUGHT)]) l5 c5 k5 (fun q hq => by
    simp only [List.mem_cons, List.not_mem_nil, or_false] at hq
    rcases hq with rfl
    · exact ⟨_, q5_0, rfl⟩)
  obtain ⟨e1_5, dv1_5, bd1_5⟩ := F5.binds0 (ps := ["row", "start"]) 1 (by simp) rfl fun _ _ _ _ _ _ us ks h1 h2 => match us, ks, h1, h2 with | [_], [_], _, _ => ⟨_, _, _, _, _, _, rfl, rfl, rfl⟩
  have F6 := fun_mk (st := s_subsets) l6 c6 k6
  have b6 := F6.binds (ps := ["columns"]) fun _ _ _ _ _ _ us hl => match us, hl with | [_], _ => rfl
  have F7 := fun_mk (st := s_may_lean) l7 c7 k7
  have b7 := F7.binds (ps := ["column", "leans", "must", "never", "most"]) fun _ _ _ _ _ _ us hl => match us, hl with | [_, _, _, _, _], _ => rfl
  have F8 := fun_mk (st := s_members) l8 c8 k8
  have b8 := F8.binds (ps := ["whole", "many"]) fun _ _ _ _ _ _ us hl => match us, hl with | [_, _], _ => rfl
  have F9 := fun_mk (st := s_choices) l9 c9 k9
  have b9 := F9.binds (ps := ["column", "others", "must", "never", "most"]) fun _ _ _ _ _ _ us hl => match us, hl with | [_, _, _, _, _], _ => rfl
  have F10 := fun_mk (st := s_Plain_worth_of) l10 c10 k10
  have b10 := F10.binds (ps := ["self", "column", "leans"]) fun _ _ _ _ _ _ us hl => match us, hl with | [_, _, _], _ => rfl
  have F11 := fun_mk (st := s_last_ones) l11 c11 k11
  have b11 := F11.binds (ps := ["known", "many", "whole", "last", "bound"]) fun _ _ _ _ _ _ us hl => match us, hl with | [_, _, _, _, _], _ => rfl
  have F12 := fun_mk (st := s_total_by) l12 c12 k12
  have b12 := F12.binds (ps := ["known", "many", "must", "never", "most"]) fun _ _ _ _ _ _ us hl => match us, hl with | [_, _, _, _, _], _ => rfl
  have F13 := funK_mk (st := s_many_webs) (kws := [("must", V.ref tA_dT_many_webs_must), ("never", V.ref tA_dT_many_webs_never), ("most", V.non)]) l13 c13 k13 (fun q hq => by
    simp only [List.mem_cons, List.not_mem_nil, or_false] at hq
    rcases hq with rfl | rfl | rfl
    · exact ⟨_, q13_0, rfl⟩
    · exact ⟨_, q13_1, rfl⟩
    · exact ⟨_, q13_2, rfl⟩)
  obtain ⟨e1_13, dv1_13, bd1_13⟩ := F13.binds0 (ps := ["many", "must", "never", "most"]) 1 (by simp) rfl fun _ _ _ _ _ _ us ks h1 h2 => match us, ks, h1, h2 with | [_], [_, _, _], _, _ => ⟨_, _, _, _, _, _, rfl, rfl, ⟨_, _, _, _, _, _, rfl, rfl, ⟨_, _, _, _, _, _, rfl, rfl, rfl⟩⟩⟩
  have kf0_13 : KForm K _ ["many", "must", "never", "most"] 1 ["must"] [.p 0, .k 0, .c (V.ref tA_dT_many_webs_never), .c (V.non)] := form0k F13 1 _ [("never", V.ref tA_dT_many_webs_never), ("most", V.non)] _ (fun mv => [.p 0, .k 0, .c (mv.getD 0 .none), .c (mv.getD 1 .none)]) (by simp) (by simp) (fun mv hv => (.p 0 (.k 0 (.c (vals_getD 0 hv) (.c (vals_getD 1 hv) .nil))))) fun _ _ _ _ _ _ us mv ws h1 h2 h3 => match us, mv, ws, h1, h2, h3 with | [_], [_, _], [_], _, _, _ => ⟨_, _, _, _, _, _, rfl, rfl, ⟨_, _, _, _, _, _, rfl, rfl, rfl⟩⟩
  have kf1_13 : KForm K _ ["many", "must", "never", "most"] 1 ["most", "must", "never"] [.p 0, .k 1, .k 2, .k 0] := form0 F13 1 _ _ [.p 0, .k 1, .k 2, .k 0] (.p 0 (.k 1 (.k 2 (.k 0 .nil)))) fun _ _ _ _ _ _ us ws h1 h2 => match us, ws, h1, h2 with | [_], [_, _, _], _, _ => rfl
  have F14 := fun_mk (st := s__law_cell) l14 c14 k14
  have b14 := F14.binds (ps := ["_law_script", "_law_k"]) fun _ _ _ _ _ _ us hl => match us, hl with | [_, _], _ => rfl
  have F15 := fun_mk (st := s__law_draws) l15 c15 k15
  have b15 := F15.binds (ps := ["_law_cell_here", "_law_sizes"]) fun _ _ _ _ _ _ us hl => match us, hl with | [_, _], _ => rfl
  have F16 := fun_mk (st := s__law_arrows) l16 c16 k16
  have b16 := F16.binds (ps := ["_law_web"]) fun _ _ _ _ _ _ us hl => match us, hl with | [_], _ => rfl
  have F17 := fun_mk (st := s__law_ringless) l17 c17 k17
  have b17 := F17.binds (ps := ["_law_web"]) fun _ _ _ _ _ _ us hl => match us, hl with | [_], _ => rfl
  have F18 := fun_mk (st := s__law_all_webs) l18 c18 k18
  have b18 := F18.binds (ps := ["_law_many"]) fun _ _ _ _ _ _ us hl => match us, hl with | [_], _ => rfl
  have F19 := fun_mk (st := s__law_kept) l19 c19 k19
  have b19 := F19.binds (ps := ["_law_web", "_law_needs", "_law_nots", "_law_cap"]) fun _ _ _ _ _ _ us hl => match us, hl with | [_, _, _, _], _ => rfl
  have F20 := fun_mk (st := s__law_bound) l20 c20 k20
  have b20 := F20.binds (ps := ["_law_cell_here", "_law_many"]) fun _ _ _ _ _ _ us hl => match us, hl with | [_, _], _ => rfl
  have F21 := fun_mk (st := s__law_word) l21 c21 k21
  have b21 := F21.binds (ps := ["_law_asked"]) fun _ _ _ _ _ _ us hl => match us, hl with | [_], _ => rfl
  have F22 := fun_mk (st := s__law_same) l22 c22 k22
  have b22 := F22.binds (ps := ["_law_found", "_law_due"]) fun _ _ _ _ _ _ us hl => match us, hl with | [_, _], _ => rfl
  have F23 := fun_mk (st := s_law) l23 c23 k23
  have b23 := F23.binds (ps := ["_law_script"]) fun _ _ _ _ _ _ us hl => match us, hl with | [_], _ => rfl
  have ht := tabIn_of a23 l23 rfl tc tp
  refine ⟨(PySem.W.fnOf "law" "law" (defArgs s_law) (defBody s_law) (defScope s_law) .none kV23 dc23 pm23 an23 (.ref cL) ct23), [(cL, PL)], ⟨ht, trivial⟩, ?_, fun s v => .of_eq rfl, fun base _ _ TB => ?_⟩
  · intro p hp
    simp only [List.mem_cons, List.not_mem_nil, or_false] at hp
    rcases hp with rfl
    · exact tn
  have T : Txt K mg ⟨C_BadMany, I_BadMany, (PySem.W.fnOf "__init__" "BadMany.__init__" (defArgs si_BadMany) (defBody si_BadMany) (defScope si_BadMany) .none ikV_BadMany idc_BadMany ipm_BadMany ian_BadMany icd_BadMany ict_BadMany), C_NothingLeft, I_NothingLeft, (PySem.W.fnOf "__init__" "NothingLeft.__init__" (defArgs si_NothingLeft) (defBody si_NothingLeft) (defScope si_NothingLeft) .none ikV_NothingLeft idc_NothingLeft ipm_NothingLeft ian_NothingLeft icd_NothingLeft ict_NothingLeft), C_ByNought, I_ByNought, (PySem.W.fnOf "__init__" "ByNought.__init__" (defArgs si_ByNought) (defBody si_ByNought) (defScope si_ByNought) .none ikV_ByNought idc_ByNought ipm_ByNought ian_ByNought icd_ByNought ict_ByNought), C_Absent, C_LoomError, C_Plain, f0, (PySem.W.fnOf "shared" "shared" (defArgs s_shared) (defBody s_shared) (defScope s_shared) .none kV0 dc0 pm0 an0 cd0 ct0), f1, (PySem.W.fnOf "lowest" "lowest" (defArgs s_lowest) (defBody s_lowest) (defScope s_lowest) (.ref dT1) kV1 dc1 pm1 an1 cd1 ct1), f2, (PySem.W.fnOf "plus" "plus" (defArgs s_plus) (defBody s_plus) (defScope s_plus) .none kV2 dc2 pm2 an2 cd2 ct2), f3, (PySem.W.fnOf "minus" "minus" (defArgs s_minus) (defBody s_minus) (defScope s_minus) .none kV3 dc3 pm3 an3 cd3 ct3), f4, (PySem.W.fnOf "times" "times" (defArgs s_times) (defBody s_times) (defScope s_times) .none kV4 dc4 pm4 an4 cd4 ct4), f5, (PySem.W.fnOf "summed" "summed" (defArgs s_summed) (defBody s_summed) (defScope s_summed) .none (.ref dK5) dc5 pm5 an5 cd5 ct5), f6, (PySem.W.fnOf "subsets" "subsets" (defArgs s_subsets) (defBody s_subsets) (defScope s_subsets) .none kV6 dc6 pm6 an6 cd6 ct6), f7, (PySem.W.fnOf "may_lean" "may_lean" (defArgs s_may_lean) (defBody s_may_lean) (defScope s_may_lean) .none kV7 dc7 pm7 an7 cd7 ct7), f8, (PySem.W.fnOf "members" "members" (defArgs s_members) (defBody s_members) (defScope s_members) .none kV8 dc8 pm8 an8 cd8 ct8), f9, (PySem.W.fnOf "choices" "choices" (defArgs s_choices) (defBody s_choices) (defScope s_choices) .none kV9 dc9 pm9 an9 cd9 ct9), f10, (PySem.W.fnOf "worth_of" "Plain.worth_of" (defArgs s_Plain_worth_of) (defBody s_Plain_worth_of) (defScope s_Plain_worth_of) .none kV10 dc10 pm10 an10 cd10 ct10), f11, (PySem.W.fnOf "last_ones" "last_ones" (defArgs s_last_ones) (defBody s_last_ones) (defScope s_last_ones) .none kV11 dc11 pm11 an11 cd11 ct11), f12, (PySem.W.fnOf "total_by" "total_by" (defArgs s_total_by) (defBody s_total_by) (defScope s_total_by) .none kV12 dc12 pm12 an12 cd12 ct12), f13, (PySem.W.fnOf "many_webs" "many_webs" (defArgs s_many_webs) (defBody s_many_webs) (defScope s_many_webs) .none (.ref dK13) dc13 pm13 an13 cd13 ct13), f14, (PySem.W.fnOf "_law_cell" "_law_cell" (defArgs s__law_cell) (defBody s__law_cell) (defScope s__law_cell) .none kV14 dc14 pm14 an14 cd14 ct14), f15, (PySem.W.fnOf "_law_draws" "_law_draws" (defArgs s__law_draws) (defBody s__law_draws) (defScope s__law_draws) .none kV15 dc15 pm15 an15 cd15 ct15), f16, (PySem.W.fnOf "_law_arrows" "_law_arrows" (defArgs s__law_arrows) (defBody s__law_arrows) (defScope s__law_arrows) .none kV16 dc16 pm16 an16 cd16 ct16), f17, (PySem.W.fnOf "_law_ringless" "_law_ringless" (defArgs s__law_ringless) (defBody s__law_ringless) (defScope s__law_ringless) .none kV17 dc17 pm17 an17 cd17 ct17), f18, (PySem.W.fnOf "_law_all_webs" "_law_all_webs" (defArgs s__law_all_webs) (defBody s__law_all_webs) (defScope s__law_all_webs) .none kV18 dc18 pm18 an18 cd18 ct18), f19, (PySem.W.fnOf "_law_kept" "_law_kept" (defArgs s__law_kept) (defBody s__law_kept) (defScope s__law_kept) .none kV19 dc19 pm19 an19 cd19 ct19), f20, (PySem.W.fnOf "_law_bound" "_law_bound" (defArgs s__law_bound) (defBody s__law_bound) (defScope s__law_bound) .none kV20 dc20 pm20 an20 cd20 ct20), f21, (PySem.W.fnOf "_law_word" "_law_word" (defArgs s__law_word) (defBody s__law_word) (defScope s__law_word) .none kV21 dc21 pm21 an21 cd21 ct21), f22, (PySem.W.fnOf "_law_same" "_law_same" (defArgs s__law_same) (defBody s__law_same) (defScope s__law_same) .none kV22 dc22 pm22 an22 cd22 ct22), fa, (PySem.W.fnOf "law" "law" (defArgs s_law) (defBody s_law) (defScope s_law) .none kV23 dc23 pm23 an23 (.ref cL) ct23), e1_13, e1_5, (V.int 6), (Value.int 6 tc_MOST_COLUMNS), (V.ref tA_NOUGHT), (Value.ref tA_NOUGHT), (V.ref tA_WHOLE), (Value.ref tA_WHOLE), (V.ref tA_dT_many_webs_must), (Value.ref tA_dT_many_webs_must), (V.ref tA_dT_many_webs_never), (Value.ref tA_dT_many_webs_never)⟩ := ⟨X_BadMany, IF_BadMany, ib_BadMany, xcB_ok ce_BadMany, X_NothingLeft, IF_NothingLeft, ib_NothingLeft, xcB_ok ce_NothingLeft, X_ByNought, IF_ByNought, ib_ByNought, xcB_ok ce_ByNought, PySem.W.mg_of X G ca_Absent, PySem.W.mg_of X G ca_LoomError, PySem.W.mg_of X G ca_NothingLeft, cx_BadMany_NothingLeft, cx_NothingLeft_NothingLeft, cx_ByNought_NothingLeft, cx_BadMany_Absent, cx_NothingLeft_Absent, cx_ByNought_Absent, cx_BadMany_LoomError, cx_NothingLeft_LoomError, cx_ByNought_LoomError, F0, PySem.W.mg_of X G a0, k0, b0, F1, PySem.W.mg_of X G a1, k1, b1, F2, PySem.W.mg_of X G a2, k2, b2, F3, PySem.W.mg_of X G a3, k3, b3, F4, PySem.W.mg_of X G a4, k4, b4, F5, bd1_5, dv1_5, fun _ => (.cons ((R_NOUGHT) _) .nil), PySem.W.mg_of X G a5, k5, F6, PySem.W.mg_of X G a6, k6, b6, F7, PySem.W.mg_of X G a7, k7, b7, F8, PySem.W.mg_of X G a8, k8, b8, F9, PySem.W.mg_of X G a9, k9, b9, F10, ⟨a10, af10, k10⟩, b10, F11, PySem.W.mg_of X G a11, k11, b11, F12, PySem.W.mg_of X G a12, k12, b12, F13, bd1_13, dv1_13, fun _ => (.cons ((R_dT_many_webs_must) _) (.cons ((R_dT_many_webs_never) _) (.cons (.v _) .nil))), kf0_13, kf1_13, PySem.W.mg_of X G a13, k13, F14, PySem.W.mg_of X G a14, k14, b14, F15, PySem.W.mg_of X G a15, k15, b15, F16, PySem.W.mg_of X G a16, k16, b16, F17, PySem.W.mg_of X G a17, k17, b17, F18, PySem.W.mg_of X G a18, k18, b18, F19, PySem.W.mg_of X G a19, k19, b19, F20, PySem.W.mg_of X G a20, k20, b20, F21, PySem.W.mg_of X G a21, k21, b21, F22, PySem.W.mg_of X G a22, k22, b22, F23, PySem.W.mg_of X G a23, k23, b23, kc_Plain, PySem.W.mg_of X G na_Plain, ⟨nm_Plain, ni_Plain, nk_Plain⟩, PySem.W.mg_none_of X G z_abs, PySem.W.mg_none_of X G z_all, PySem.W.mg_none_of X G z_any, PySem.W.mg_none_of X G z_bool, PySem.W.mg_none_of X G z_int, PySem.W.mg_none_of X G z_isinstance, PySem.W.mg_none_of X G z_len, PySem.W.mg_none_of X G z_list, PySem.W.mg_none_of X G z_max, PySem.W.mg_none_of X G z_min, PySem.W.mg_none_of X G z_range, PySem.W.mg_none_of X G z_sorted, PySem.W.mg_none_of X G z_str, PySem.W.mg_none_of X G z_tuple, PySem.W.mg_of X G x_MOST_COLUMNS, ⟨_, rfl⟩, fun _ => .v _, PySem.W.mg_of X G x_NOUGHT, rfl, R_NOUGHT, PySem.W.mg_of X G x_WHOLE, rfl, R_WHOLE, rfl, R_dT_many_webs_must, rfl, R_dT_many_webs_never⟩
  exact ok_law T l23 c23 (in_tabs ht) (TB (cL, PL) (by simp))
end My
open PySem PySem.W PyProof.Rows in
set_option maxRecDepth 100000 in
set_option maxHeartbeats 0 in
theorem PySem.Challenge.cw_tallyloom_k37_whole_webs_counted_holds : PySem.Challenge.rw_tallyloom_k37_whole_webs_counted.Holds := by
  w_on; o_law; k_head; (case hw => w_witness2)
  k_fill
  refine DV.walkT (l := PySem.Challenge.rw_tallyloom_k37_whole_webs_counted) (n := 63) (k := 11) (x := "_law_script") (F := My.F_law) rfl (by decide) rfl ⟨rfl, by decide, by decide⟩ (fun w h Y => by first | exact PySem.W.kIn_of Y | exact PySem.W.km_in_of Y) ?hrec ?F My.law_true
  case hrec => kernel_rfl
  case F =>
    intro w mg fa h KX G hmg
    refine' My.all_mk KX G hmg ?ca_BadMany ?cb_BadMany ?cc_BadMany ?cd_BadMany ?ce_BadMany ?cl_BadMany ?cm_BadMany ?cn_BadMany ?ca_NothingLeft ?cb_NothingLeft ?cc_NothingLeft ?cd_NothingLeft ?ce_NothingLeft ?cl_NothingLeft ?cm_NothingLeft ?cn_NothingLeft ?ca_ByNought ?cb_ByNought ?cc_ByNought ?cd_ByNought ?ce_ByNought ?cl_ByNought ?cm_ByNought ?cn_ByNought ?ca_Absent ?ca_LoomError ?cx_BadMany_NothingLeft ?cx_NothingLeft_NothingLeft ?cx_ByNought_NothingLeft ?cx_BadMany_Absent ?cx_NothingLeft_Absent ?cx_ByNought_Absent ?cx_BadMany_LoomError ?cx_NothingLeft_LoomError ?cx_ByNought_LoomError ?na_Plain ?nb_Plain ?nc_Plain ?nd_Plain ?ne_Plain ?nm_Plain ?nk_Plain ?ni_Plain ?a0 ?l0 ?c0 ?k0 ?a1 ?l1 ?c1 ?k1 ?t1 ?a2 ?l2 ?c2 ?k2 ?a3 ?l3 ?c3 ?k3 ?a4 ?l4 ?c4 ?k4 ?a5 ?l5 ?c5 ?k5 ?a6 ?l6 ?c6 ?k6 ?a7 ?l7 ?c7 ?k7 ?a8 ?l8 ?c8 ?k8 ?a9 ?l9 ?c9 ?k9 ?a10 ?af10 ?l10 ?c10 ?k10 ?a11 ?l11 ?c11 ?k11 ?a12 ?l12 ?c12 ?k12 ?a13 ?l13 ?c13 ?k13 ?a14 ?l14 ?c14 ?k14 ?a15 ?l15 ?c15 ?k15 ?a16 ?l16 ?c16 ?k16 ?a17 ?l17 ?c17 ?k17 ?a18 ?l18 ?c18 ?k18 ?a19 ?l19 ?c19 ?k19 ?a20 ?l20 ?c20 ?k20 ?a21 ?l21 ?c21 ?k21 ?a22 ?l22 ?c22 ?k22 ?a23 ?l23 ?c23 ?k23 ?z_abs ?z_all ?z_any ?z_bool ?z_int ?z_isinstance ?z_len ?z_list ?z_max ?z_min ?z_range ?z_sorted ?z_str ?z_tuple ?x_NOUGHT ?y_NOUGHT ?x_WHOLE ?y_WHOLE ?q5_0 ?q13_0 ?q13_1 ?q13_2 ?y_dT_many_webs_must ?y_dT_many_webs_never ?x_MOST_COLUMNS ?tc ?tp ?tn
    (case ca_BadMany => k_is)
    (case cb_BadMany => kernel_rfl)
    (case cc_BadMany => k_is)
    (case cd_BadMany => k_is)
    (case ce_BadMany => kernel_rfl)
    (case cl_BadMany => k_is)
    (case cm_BadMany => k_is)
    (case cn_BadMany => k_is)
    (case ca_NothingLeft => k_is)
    (case cb_NothingLeft => kernel_rfl)
    (case cc_NothingLeft => k_is)
    (case cd_NothingLeft => k_is)
    (case ce_NothingLeft => kernel_rfl)
    (case cl_NothingLeft => k_is)
    (case cm_NothingLeft => k_is)
    (case cn_NothingLeft => k_is)
    (case ca_ByNought => k_is)
    (case cb_ByNought => kernel_rfl)
    (case cc_ByNought => k_is)
    (case cd_ByNought => k_is)
    (case ce_ByNought => kernel_rfl)
    (case cl_ByNought => k_is)
    (case cm_ByNought => k_is)
    (case cn_ByNought => k_is)
    (case ca_Absent => k_is)
    (case ca_LoomError => k_is)
    (case cx_BadMany_NothingLeft => kernel_rfl)
    (case cx_NothingLeft_NothingLeft => kernel_rfl)
    (case cx_ByNought_NothingLeft => kernel_rfl)
    (case cx_BadMany_Absent => kernel_rfl)
    (case cx_NothingLeft_Absent => kernel_rfl)
    (case cx_ByNought_Absent => kernel_rfl)
    (case cx_BadMany_LoomError => kernel_rfl)
    (case cx_NothingLeft_LoomError => kernel_rfl)
    (case cx_ByNought_LoomError => kernel_rfl)
    (case na_Plain => k_is)
    (case nb_Plain => k_is)
    (case nc_Plain => k_is)
    (case nd_Plain => k_is)
    (case ne_Plain => k_is)
    (case nm_Plain => k_is)
    (case nk_Plain => k_is)
    (case ni_Plain => k_is)
    (case a0 => k_is)
    (case l0 => k_is)
    (case c0 => k_is)
    (case k0 => k_is)
    (case a1 => k_is)
    (case l1 => k_is)
    (case c1 => k_is)
    (case k1 => k_is)
    (case t1 => k_is)
    (case a2 => k_is)
    (case l2 => k_is)
    (case c2 => k_is)
    (case k2 => k_is)
    (case a3 => k_is)
    (case l3 => k_is)
    (case c3 => k_is)
    (case k3 => k_is)
    (case a4 => k_is)
    (case l4 => k_is)
    (case c4 => k_is)
    (case k4 => k_is)
    (case a5 => k_is)
    (case l5 => k_is)
    (case c5 => k_is)
    (case k5 => k_is)
    (case a6 => k_is)
    (case l6 => k_is)
    (case c6 => k_is)
    (case k6 => k_is)
    (case a7 => k_is)
    (case l7 => k_is)
    (case c7 => k_is)
    (case k7 => k_is)
    (case a8 => k_is)
    (case l8 => k_is)
    (case c8 => k_is)
    (case k8 => k_is)
    (case a9 => k_is)
    (case l9 => k_is)
    (case c9 => k_is)
    (case k9 => k_is)
    (case a10 => k_is)
    (case af10 => k_is)
    (case l10 => k_is)
    (case c10 => k_is)
    (case k10 => k_is)
    (case a11 => k_is)
    (case l11 => k_is)
    (case c11 => k_is)
    (case k11 => k_is)
    (case a12 => k_is)
    (case l12 => k_is)
    (case c12 => k_is)
    (case k12 => k_is)
    (case a13 => k_is)
    (case l13 => k_is)
    (case c13 => k_is)
    (case k13 => k_is)
    (case a14 => k_is)
    (case l14 => k_is)
    (case c14 => k_is)
    (case k14 => k_is)
    (case a15 => k_is)
    (case l15 => k_is)
    (case c15 => k_is)
    (case k15 => k_is)
    (case a16 => k_is)
    (case l16 => k_is)
    (case c16 => k_is)
    (case k16 => k_is)
    (case a17 => k_is)
    (case l17 => k_is)
    (case c17 => k_is)
    (case k17 => k_is)
    (case a18 => k_is)
    (case l18 => k_is)
    (case c18 => k_is)
    (case k18 => k_is)
    (case a19 => k_is)
    (case l19 => k_is)
    (case c19 => k_is)
    (case k19 => k_is)
    (case a20 => k_is)
    (case l20 => k_is)
    (case c20 => k_is)
    (case k20 => k_is)
    (case a21 => k_is)
    (case l21 => k_is)
    (case c21 => k_is)
    (case k21 => k_is)
    (case a22 => k_is)
    (case l22 => k_is)
    (case c22 => k_is)
    (case k22 => k_is)
    (case a23 => k_is)
    (case l23 => k_is)
    (case c23 => k_is)
    (case k23 => k_is)
    (case z_abs => k_is)
    (case z_all => k_is)
    (case z_any => k_is)
    (case z_bool => k_is)
    (case z_int => k_is)
    (case z_isinstance => k_is)
    (case z_len => k_is)
    (case z_list => k_is)
    (case z_max => k_is)
    (case z_min => k_is)
    (case z_range => k_is)
    (case z_sorted => k_is)
    (case z_str => k_is)
    (case z_tuple => k_is)
    (case x_NOUGHT => k_is)
    (case y_NOUGHT => k_is)
    (case x_WHOLE => k_is)
    (case y_WHOLE => k_is)
    (case q5_0 => k_is)
    (case q13_0 => k_is)
    (case q13_1 => k_is)
    (case q13_2 => k_is)
    (case y_dT_many_webs_must => k_is)
    (case y_dT_many_webs_never => k_is)
    (case x_MOST_COLUMNS => k_is)
    (case tc => k_is)
    (case tp => rfl)
    (case tn => kernel_rfl)
