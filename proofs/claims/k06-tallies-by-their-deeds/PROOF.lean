import PyProof.Rows.All
import HandS.Nested
import Wide.All
import OpenK.AllK
import Wide.FinOn
import HandS.ForMost
import HandS.ForExc
import HandS.Wide
import HandS.IsInst
import HandS.Lambda
import HandS.EndTab
import KE.KDictKeyed
import KE.KDictWalk
import HandS.TupAny
import HandS.Style
import HandS.TupMul
import HandS.WideBits
import HandS.Flow
import HandS.Walk
import HandS.SortInts
import HandS.Conv
import HandS.Zip
import HandS.CallSlots
import HandS.Defaults
import HandS.Ends
import KE.KExcInit
import HandS.ExcInit
import HandS.ExcField
import HandS.ExcIs
import HandS.TryMany
import HandS.SetBool
import HandS.Strs
import HandS.SetFor
import HandS.TupSets
import PyProof.EnumMake
import PyProof.EnumStmt
import PyProof.TupleIter
import PyProof.WalksMore
import HandS.DictComp
import KE.SortData
import HandS.Deep
import HandS.More
import HandS.FStr
import PyProof.DictMoreH
import KE.KUnpackStar
import KE.KDictPairs
import KE.KDictCopyH
import HandS.Remove
import KE.DataFind
import KE.KUnpack
import PyProof.WalkInts
import KE.KDictZip
import PyProof.NeKinds
import KE.KDictDisplayH
import PyProof.MinMaxWalk
import HandS.OwnEq
import HandS.DictEq
import KE.KDictSum
import PySem.Challenge.RW_tallyloom_k06_tallies_by_their_deeds
set_option Elab.async false
set_option linter.all false
set_option autoImplicit false
set_option bootstrap.genMatcherCode false
set_option genSizeOf false
set_option maxRecDepth 100000
set_option maxHeartbeats 4000000
namespace DV
noncomputable def lamNs : List PySem.Str := ["law"]
noncomputable def lamAt : Nat → Nat → PySem.Str := fun _ _ => "law.<locals>.<lambda>"
end DV
namespace DV
open PySem L2
inductive D where
  | v (x : V)
  | lst (xs : List D)
  | tup (xs : List D)
  | dct (ks vs : List D)
  | dlk (ks vs : List D)
  | ins (c : Str) (ns : List Str) (vs : List D)
  | dtt (ks : List NestedKey) (vs : List D)
  | ptp (xs : List D)
  | wor (t a : D)
noncomputable instance : Inhabited D := ⟨.v .non⟩
noncomputable abbrev D.int (i : Int) : D := .v (.int i)
noncomputable abbrev D.bl (b : Bool) : D := .v (.bl b)
noncomputable abbrev D.str (s : Str) : D := .v (.str s)
noncomputable abbrev D.non : D := .v .non
structure Exn where
  cls : Str
  fs : List (Str × D)
inductive Res (α : Type) where
  | ok (a : α)
  | er (x : Exn)
  | no
noncomputable def Res.bind {α β : Type} : Res α → (α → Res β) → Res β
  | .ok a, f => f a
  | .er x, _ => .er x
  | .no, _ => .no
@[simp] theorem Res.bind_ok {α β : Type} (a : α) (f : α → Res β) : (Res.ok a).bind f = f a := rfl
@[simp] theorem Res.bind_er {α β : Type} (x : Exn) (f : α → Res β) : (Res.er x : Res α).bind f = .er x := rfl
@[simp] theorem Res.bind_no {α β : Type} (f : α → Res β) : (Res.no : Res α).bind f = .no := rfl
noncomputable def clsV (K : PySem.W.Frag) (n : Str) : Option Value := (PySem.W.nsIn K mainGlobals n).join
mutual
noncomputable def nkInt : NestedKey → Bool
  | .none => false
  | .num _ => true
  | .text _ => false
  | .tup ks => nkInts ks
noncomputable def nkInts : List NestedKey → Bool
  | [] => true
  | k :: ks => nkInt k && nkInts ks
end
mutual
noncomputable def nkHash : NestedKey → Int
  | .none => 0
  | .num i => hashInt i
  | .text _ => 0
  | .tup ks => reduceHash (Builtin.Tuple.tupleHashOf (nkHashes ks))
noncomputable def nkHashes : List NestedKey → List Int
  | [] => []
  | k :: ks => nkHash k :: nkHashes ks
end
mutual
theorem nkHash_eq (w : World) : ∀ k : NestedKey, nkInt k = true → k.hash w = nkHash k
  | .none, h => by simp [nkInt] at h
  | .num i, _ => by rw [NestedKey.hash, nkHash]
  | .text _, h => by simp [nkInt] at h
  | .tup ks, h => by rw [NestedKey.hash, nkHash, nkHashes_eq w ks (by simpa [nkInt] using h)]
theorem nkHashes_eq (w : World) : ∀ ks : List NestedKey, nkInts ks = true → NestedKey.hashes w ks = nkHashes ks
  | [], _ => by rw [NestedKey.hashes, nkHashes]
  | k :: ks, h => by
    rw [nkInts, Bool.and_eq_true] at h
    rw [NestedKey.hashes, nkHashes, nkHash_eq w k h.1, nkHashes_eq w ks h.2]
end
noncomputable def nkOk : NestedKey → Bool
  | .tup ks => nkInts ks && decide ((NestedKey.tup ks).depth ≤ 8)
  | _ => false
mutual
noncomputable def nkD : NestedKey → D
  | .none => .non
  | .num i => .int i
  | .text x => .str x
  | .tup ks => .tup (nkDs ks)
noncomputable def nkDs : List NestedKey → List D
  | [] => []
  | k :: ks => nkD k :: nkDs ks
end
mutual
noncomputable def dNk : D → Option NestedKey
  | .v (.int i) => some (.num i)
  | .tup ds => (dNks ds).map NestedKey.tup
  | _ => none
noncomputable def dNks : List D → Option (List NestedKey)
  | [] => some []
  | d :: ds => match dNk d, dNks ds with
    | some k, some ks => some (k :: ks)
    | _, _ => none
end
mutual
theorem dNk_some : ∀ (d : D) (k : NestedKey), dNk d = some k → nkD k = d ∧ nkInt k = true
  | .v x, k, h => by
    cases x with
    | int i => rw [dNk] at h; cases h; rw [nkD, nkInt]; exact ⟨rfl, rfl⟩
    | _ => simp [dNk] at h
  | .tup ds, k, h => by
    rw [dNk] at h
    cases e : dNks ds with
    | none => rw [e] at h; cases h
    | some ks =>
      rw [e] at h
      cases h
      obtain ⟨a, b⟩ := dNks_some ds ks e
      rw [nkD, nkInt, a]
      exact ⟨rfl, b⟩
  | .lst _, k, h => by simp [dNk] at h
  | .dct _ _, k, h => by simp [dNk] at h
  | .dlk _ _, k, h => by simp [dNk] at h
  | .ins _ _ _, k, h => by simp [dNk] at h
  | .dtt _ _, k, h => by simp [dNk] at h
  | .ptp _, k, h => by simp [dNk] at h
  | .wor _ _, k, h => by simp [dNk] at h
theorem dNks_some : ∀ (ds : List D) (ks : List NestedKey), dNks ds = some ks → nkDs ks = ds ∧ nkInts ks = true
  | [], ks, h => by rw [dNks] at h; cases h; rw [nkDs, nkInts]; exact ⟨rfl, rfl⟩
  | d :: ds, ks, h => by
    rw [dNks] at h
    cases e1 : dNk d with
    | none => rw [e1] at h; cases h
    | some k =>
      cases e2 : dNks ds with
      | none => rw [e1, e2] at h; cases h
      | some ks' =>
        rw [e1, e2] at h
        cases h
        obtain ⟨a, b⟩ := dNk_some d k e1
        obtain ⟨a', b'⟩ := dNks_some ds ks' e2
        rw [nkDs, nkInts, a, a', b, b']
        exact ⟨rfl, rfl⟩
end
noncomputable def DxO (a : Addr) (o : Obj) (us : List (Int × Addr × V)) : Prop :=
  us.length ≤ sizeLine ∧ (a == sysModules) = false ∧ o.ExactDict ∧ ∃ es ep, o.data = .dict es ep ∧ Paired (fun (u : Int × Addr × V) (e : DictEntry) => e.hash = u.1 ∧ e.key = .ref u.2.1 ∧ RelV u.2.2 e.val) us es.toList
noncomputable def Dx (a : Addr) (o : Obj) (us : List (Int × Addr × V)) : HO := .ext fun h => h.get? a = some o ∧ DxO a o us
noncomputable def unV : Value → V
  | .none => .non
  | .bool b => .bl b
  | .int i _ => .int i
  | .str x _ => .str x
  | .bytes b _ => .byt b
  | .float b _ => .flt b
  | .ref a => .ref a
  | .type n => .ty n
  | _ => .non
theorem relV_un {v : V} {u : Value} (h : RelV v u) : unV u = v := by
  cases v with
  | non => cases (show u = _ from h); rfl
  | bl b => cases (show u = _ from h); rfl
  | int i => obtain ⟨t, rfl⟩ := (show ∃ t, u = Value.int i t from h); rfl
  | str i => obtain ⟨t, rfl⟩ := (show ∃ t, u = Value.str i t from h); rfl
  | byt i => obtain ⟨t, rfl⟩ := (show ∃ t, u = Value.bytes i t from h); rfl
  | flt i => obtain ⟨t, rfl⟩ := (show ∃ t, u = Value.float i t from h); rfl
  | ref a => cases (show u = _ from h); rfl
  | ty n => cases (show u = _ from h); rfl
theorem relV_inj {v v' : V} {u : Value} (h : RelV v u) (h' : RelV v' u) : v = v' := (relV_un h).symm.trans (relV_un h')
theorem DxO.inj {a : Addr} {o : Obj} {us us' : List (Int × Addr × V)} (h : DxO a o us) (h' : DxO a o us') : us = us' := by
  obtain ⟨_, _, _, es, ep, hd, r⟩ := h
  obtain ⟨_, _, _, es', ep', hd', r'⟩ := h'
  rw [hd] at hd'
  cases hd'
  clear hd
  generalize es.toList = l at r r'
  rename_i z1 z2 z3 z4 z5 z6
  clear z1 z2 z3 z4 z5 z6
  induction r generalizing us' with
  | nil => cases r'; rfl
  | cons h t ih =>
    cases r' with
    | cons h' t' =>
      rw [ih t']
      obtain ⟨a1, a2, a3⟩ := h
      obtain ⟨b1, b2, b3⟩ := h'
      rw [a2] at b2
      have e1 := a1.symm.trans b1
      have e2 := relV_inj a3 b3
      injection b2 with e3
      congr 1
      exact Prod.ext e1 (Prod.ext e3 e2)
noncomputable def oneH (a : Addr) (o : Obj) : Heap := ⟨Array.replicate (a + 1) o, {}⟩
theorem oneH_get {a : Addr} {o : Obj} {us : List (Int × Addr × V)} (w : DxO a o us) (c : Addr) : (oneH a o).get? c = if c < a + 1 then some o else none := by
  obtain ⟨_, _, _, es, ep, hd, _⟩ := w
  unfold Heap.get? oneH
  dsimp only
  rw [Array.getElem?_replicate]
  by_cases hc : c < a + 1
  · rw [if_pos hc]
    obtain ⟨c, dd, dt, sl⟩ := o
    cases dt <;> first | rfl | cases hd
  · rw [if_neg hc]
theorem oneH_at {a : Addr} {o : Obj} {us : List (Int × Addr × V)} (w : DxO a o us) : (oneH a o).get? a = some o := by rw [oneH_get w, if_pos (Nat.lt_succ_self a)]
theorem Dx.inj {a : Addr} {o o' : Obj} {us us' : List (Int × Addr × V)} (w : DxO a o us) (h : Dx a o us = Dx a o' us') : o = o' ∧ us = us' := by
  unfold Dx at h
  injection h with h
  have q := congrFun h (oneH a o)
  obtain ⟨z1, z2⟩ := q.mp ⟨oneH_at w, w⟩
  rw [oneH_at w] at z1
  cases z1
  exact ⟨rfl, w.inj z2⟩
noncomputable def kD : Key → D
  | .inl i => .int i
  | .inr x => .str x
noncomputable def PlT (K : PySem.W.Frag) (B : Hp) (a : Addr) (xs : List V) : Prop := (∃ o : Obj, B a = some (.frz o (.tup xs)) ∧ o.dict = none) ∨
  ∃ (o : Obj) (its : Array Value) (n : Nat), K.lookup a = some o ∧ o.cls = .type "tuple" ∧ o.data = .seq its n ∧ its.size ≤ sizeLine ∧ Vals xs its.toList ∧ o.dict = none
theorem PlT.mono {K : PySem.W.Frag} {B B' : Hp} {a : Addr} {xs : List V} (e : ∀ a u, B a = some u → B' a = some u) (h : PlT K B a xs) : PlT K B' a xs := by
  rcases h with ⟨o, h, h2⟩ | h
  · exact .inl ⟨o, e _ _ h, h2⟩
  · exact .inr h
mutual
inductive Rp (K : PySem.W.Frag) (B : Hp) : V → D → Prop
  | v (x : V) : Rp K B x (.v x)
  | lst {a : Addr} {xs : List V} {ds : List D} : SqL K B a xs → RpA K B xs ds → Rp K B (.ref a) (.lst ds)
  | tup {a : Addr} {xs : List V} {ds : List D} : SqT K B a xs → RpA K B xs ds → Rp K B (.ref a) (.tup ds)
  | dct {a : Addr} {us : List (Key × V)} {ds : List D} : B a = some (.dK us) → RpA K B (us.map (·.2)) ds → Rp K B (.ref a) (.dct (us.map fun p => kD p.1) ds)
  | dcT {a : Addr} {o : Obj} {us : List (Int × Addr × V)} {ks : List NestedKey} {ds : List D} : B a = some (Dx a o us) → DxO a o us → us.map (·.1) = ks.map nkHash → ks.Nodup → (∀ k ∈ ks, nkOk k = true) → RpA K B (us.map fun u => .ref u.2.1) (nkDs ks) → RpA K B (us.map (·.2.2)) ds → Rp K B (.ref a) (.dtt ks ds)
  | ins {a C dx : Addr} {c : Str} {fs : List (Str × V)} {ds : List D} : B a = some (.ins C dx fs) → B dx = some (.own a) → clsV K c = some (.ref C) → RpA K B (fs.map (·.2)) ds → Rp K B (.ref a) (.ins c (fs.map (·.1)) ds)
  | dlk {a : Addr} {o : Obj} {us : List (Key × V)} {ds : List D} : B a = some (.frz o (.dK us)) → RpA K B (us.map (·.2)) ds → Rp K B (.ref a) (.dlk (us.map fun p => kD p.1) ds)
  | ptp {a : Addr} {xs : List V} {ds : List D} : PlT K B a xs → RpA K B xs ds → Rp K B (.ref a) (.ptp ds)
  | wor {a C dx m : Addr} {o : Obj} {tv av : V} {td ad : D} : B a = some (.frz o (.ins C dx [("counted", tv), ("ahead", av), ("told", .ref m)])) → clsV K "Worths" = some (.ref C) → Rp K B tv td → Rp K B av ad → Rp K B (.ref a) (.wor td ad)
inductive RpA (K : PySem.W.Frag) (B : Hp) : List V → List D → Prop
  | nil : RpA K B [] []
  | cons {v : V} {vs : List V} {d : D} {ds : List D} : Rp K B v d → RpA K B vs ds → RpA K B (v :: vs) (d :: ds)
end
theorem sqT_mono {K : PySem.W.Frag} {H H' : Hp} {a : Addr} {xs : List V} (e : Same H H') (h : SqT K H a xs) : SqT K H' a xs := by
  rcases h with (h | ⟨o, h⟩) | h
  · exact .inl (.inl (e _ _ h))
  · exact .inl (.inr ⟨o, e _ _ h⟩)
  · exact .inr h
section
variable {K : PySem.W.Frag} {B B' H H' : Hp}
mutual
theorem Rp.mono (e : Same B B') : ∀ {v : V} {d : D}, Rp K B v d → Rp K B' v d
  | _, _, .v x => .v x
  | _, _, .lst h r => .lst (e.seq h) (RpA.mono e r)
  | _, _, .tup h r => .tup (sqT_mono e h) (RpA.mono e r)
  | _, _, .dct h r => .dct (e _ _ h) (RpA.mono e r)
  | _, _, .dcT h h1 h2 h3 h4 r1 r => .dcT (e _ _ h) h1 h2 h3 h4 (RpA.mono e r1) (RpA.mono e r)
  | _, _, .ins h1 h2 h3 r => .ins (e _ _ h1) (e _ _ h2) h3 (RpA.mono e r)
  | _, _, .ptp h r => .ptp (h.mono e) (RpA.mono e r)
  | _, _, .dlk h r => .dlk (e _ _ h) (RpA.mono e r)
  | _, _, .wor h h2 r1 r2 => .wor (e _ _ h) h2 (Rp.mono e r1) (Rp.mono e r2)
theorem RpA.mono (e : Same B B') : ∀ {vs : List V} {ds : List D}, RpA K B vs ds → RpA K B' vs ds
  | _, _, .nil => .nil
  | _, _, .cons h r => .cons (Rp.mono e h) (RpA.mono e r)
end
theorem RpA.length : ∀ {vs : List V} {ds : List D}, RpA K B vs ds → vs.length = ds.length
  | _, _, .nil => rfl
  | _, _, .cons _ r => by simp [RpA.length r]
theorem RpA.append : ∀ {vs us : List V} {ds es : List D}, RpA K B vs ds → RpA K B us es → RpA K B (vs ++ us) (ds ++ es)
  | _, _, _, _, .nil, s => s
  | _, _, _, _, .cons h r, s => .cons h (RpA.append r s)
theorem RpA.get : ∀ {vs : List V} {ds : List D} {i : Nat} {d : D}, RpA K B vs ds → ds[i]? = some d → ∃ v, vs[i]? = some v ∧ Rp K B v d
  | _, _, _, _, .nil, e => by simp at e
  | _, _, 0, _, .cons h _, e => by simp at e; subst e; exact ⟨_, rfl, h⟩
  | _, _, i + 1, _, .cons _ r, e => by
    obtain ⟨v, h1, h2⟩ := RpA.get (i := i) r (by simpa using e)
    exact ⟨v, by simpa using h1, h2⟩
theorem RpA.get' : ∀ {vs : List V} {ds : List D} {i : Nat} {v : V}, RpA K B vs ds → vs[i]? = some v → ∃ d, ds[i]? = some d ∧ Rp K B v d
  | _, _, _, _, .nil, e => by simp at e
  | _, _, 0, _, .cons h _, e => by simp at e; subst e; exact ⟨_, rfl, h⟩
  | _, _, i + 1, _, .cons _ r, e => by
    obtain ⟨v, h1, h2⟩ := RpA.get' (i := i) r (by simpa using e)
    exact ⟨v, by simpa using h1, h2⟩
theorem RpA.drop : ∀ {vs : List V} {ds : List D} (n : Nat), RpA K B vs ds → RpA K B (vs.drop n) (ds.drop n)
  | _, _, 0, r => by simpa using r
  | _, _, _ + 1, .nil => by simpa using RpA.nil
  | _, _, n + 1, .cons _ r => by simpa using RpA.drop n r
theorem RpA.take : ∀ {vs : List V} {ds : List D} (n : Nat), RpA K B vs ds → RpA K B (vs.take n) (ds.take n)
  | _, _, 0, _ => by simpa using RpA.nil
  | _, _, _ + 1, .nil => by simpa using RpA.nil
  | _, _, n + 1, .cons h r => by simpa using RpA.cons h (RpA.take n r)
theorem RpA.reverse : ∀ {vs : List V} {ds : List D}, RpA K B vs ds → RpA K B vs.reverse ds.reverse
  | _, _, .nil => .nil
  | _, _, .cons h r => by
    rw [List.reverse_cons, List.reverse_cons]
    exact (RpA.reverse r).append (.cons h .nil)
theorem RpA.map {α : Type} (f : α → V) (g : α → D) : ∀ {l : List α}, (∀ a ∈ l, Rp K B (f a) (g a)) → RpA K B (l.map f) (l.map g)
  | [], _ => .nil
  | a :: l, h => .cons (h a (by simp)) (RpA.map f g fun b hb => h b (by simp [hb]))
theorem RpA.ints (ns : List Int) : RpA K B (ns.map V.int) (ns.map D.int) := RpA.map _ _ fun a _ => .v _
theorem RpA.ints_of : ∀ {ns : List Int} {vs : List V}, RpA K B vs (ns.map D.int) → vs = ns.map V.int
  | [], _, .nil => rfl
  | n :: ns, _, .cons h r => by
    cases h
    rw [RpA.ints_of r]
    rfl
theorem RpA.bls_of : ∀ {bs : List Bool} {vs : List V}, RpA K B vs (bs.map D.bl) → vs = bs.map V.bl
  | [], _, .nil => rfl
  | n :: ns, _, .cons h r => by
    cases h
    rw [RpA.bls_of r]
    rfl
noncomputable def tabsOf (K : PySem.W.Frag) : List Addr := lamNs.filterMap fun n => (PySem.W.tabIn K n).map (·.2)
noncomputable abbrev MX (a : Addr) (o : Obj) (us : List (Int × Addr × V)) : HO := .ext fun h => DxO a o us → ∃ o', h.get? a = some o' ∧ DxO a o' us
noncomputable def Std (o : HO) : Prop := (∀ ps, o ≠ .tbl ps) ∧ ∀ b c u, o ≠ MX b c u
noncomputable def Pln (o : HO) : Prop := Std o ∧ ∀ b C dx fs, o ≠ .frz b (.ins C dx fs)
noncomputable def NoT (B : Hp) : Prop := ∀ a o, B a = some o → Std o
noncomputable def TK (u : HO) : Prop := (∃ xs, u = .tup xs) ∨ ∃ o xs, u = .frz o (.tup xs)
noncomputable def kR (r : List Int) : NestedKey := .tup (r.map .num)
namespace Fw
noncomputable def prod (l : List Int) : Int := l.foldl (· * ·) 1
noncomputable def rise (a : Int) (n : Nat) : Int := prod ((List.range n).map fun (i : Nat) => a + (i : Int))
noncomputable def rowStep (L : List (List Int)) (s : Int) : List (List Int) := L.flatMap fun r => (List.range s.toNat).map fun (v : Nat) => r ++ [(v : Int)]
noncomputable def rows (szs : List Int) : List (List Int) := szs.foldl rowStep [[]]
noncomputable def proj (cs : List Int) (r : List Int) : List Int := cs.map fun c => r.getD c.toNat 0
noncomputable def cnt (ps : List (List Int × Int)) (f : List Int → Bool) : Int := ((ps.filter fun p => f p.1).map (·.2)).sum
noncomputable def rest (sz : List Int) (p : Nat → Bool) : Int := prod (((List.range sz.length).filter p).map fun i => sz.getD i 0)
noncomputable def more (sz : List Int) (c : Nat) (L : List Int) (a : Int) : Int := a * rest sz fun i => !decide (i = c) && !decide ((i : Int) ∈ L)
noncomputable def whole (sz : List Int) (L : List Int) (a : Int) : Int := a * rest sz fun i => !decide ((i : Int) ∈ L)
noncomputable def vals (sz : List Int) (L : List Int) : List (List Int) := rows (L.map fun c => sz.getD c.toNat 0)
noncomputable def top (sz : List Int) (ps : List (List Int × Int)) (c : Nat) (L : List Int) (a : Int) : Int :=
  prod ((vals sz L).flatMap fun v => (List.range (sz.getD c 0).toNat).map fun (u : Nat) => rise (more sz c L a) (cnt ps fun r => decide (proj L r = v) && decide (r.getD c 0 = (u : Int))).toNat)
noncomputable def bot (sz : List Int) (ps : List (List Int × Int)) (L : List Int) (a : Int) : Int :=
  prod ((vals sz L).map fun v => rise (whole sz L a) (cnt ps fun r => decide (proj L r = v)).toNat)
noncomputable def low (t b : Int) : D := .tup [.int (t / (Int.gcd t b : Int)), .int (b / (Int.gcd t b : Int))]
noncomputable def tally (sz : List Int) (ps : List (List Int × Int)) : D := .ins "Tally" ["sizes", "known"] [.tup (sz.map D.int), .dtt (ps.map fun p => kR p.1) (ps.map fun p => D.int p.2)]
end Fw
noncomputable def famR (td ad : D) (k : NestedKey) (d : D) : Prop := ∃ sz ps c L a, td = Fw.tally sz ps ∧ ad = .int a ∧ k = .tup [.num ((c : Nat) : Int), kR L] ∧ d = Fw.low (Fw.top sz ps c L a) (Fw.bot sz ps L a)
noncomputable def subsN : Nat → List (List Int)
  | 0 => [[]]
  | n + 1 => subsN n ++ (subsN n).map (· ++ [(n : Int)])
noncomputable def famKeys : List NestedKey := (List.range 6).flatMap fun c => (subsN 6).map fun L => .tup [.num ((c : Nat) : Int), kR L]
noncomputable def NiceW (τ : D × D) : Prop := ∃ sz ps a, τ = (Fw.tally sz ps, D.int a)
structure EntOk (K : PySem.W.Frag) (B : Hp) (τ : D × D) (us : List (Int × Addr × V)) (ks : List NestedKey) (ds : List D) : Prop where
  hs : us.map (·.1) = ks.map nkHash
  nd : ks.Nodup
  ok : ∀ k ∈ ks, nkOk k = true
  rk : RpA K B (us.map fun u => .ref u.2.1) (nkDs ks)
  rv : RpA K B (us.map (·.2.2)) ds
  fr : ∀ (i : Nat) (k : NestedKey), ks[i]? = some k → ∃ d, ds[i]? = some d ∧ famR τ.1 τ.2 k d
  fk : ∀ k ∈ ks, k ∈ famKeys
structure MemAt (K : PySem.W.Frag) (τ : D × D) (B H : Hp) (x C dx : Addr) (fs : List (Str × V)) (tv av : V) (a : Addr) (ob : Obj) (us : List (Int × Addr × V)) (ks : List NestedKey) (ds : List D) : Prop where
  fs : fs = [(("counted" : Str), tv), (("ahead" : Str), av), (("told" : Str), V.ref a)]
  dx : B dx = some (.own x)
  hm : H a = some (MX a ob us)
  ox : DxO a ob us
  nc : NiceW τ
  rt : Rp K B tv τ.1
  ra : Rp K B av τ.2
  en : EntOk K B τ us ks ds
noncomputable def MemOk (K : PySem.W.Frag) (τ : Addr → D × D) (B H : Hp) : Prop := ∀ x o C dx fs, B x = some (.frz o (.ins C dx fs)) → ∃ tv av a ob us ks ds, MemAt K (τ a) B H x C dx fs tv av a ob us ks ds
structure TBt (K : PySem.W.Frag) (τ : Addr → D × D) (B H : Hp) : Prop where
  nt : NoT B
  mo : MemOk K τ B H
noncomputable def TB (K : PySem.W.Frag) (B H : Hp) : Prop := ∃ τ, TBt K τ B H
theorem std_lst (xs : List V) : Std (.lst xs) := ⟨fun _ z => (by cases z), fun _ _ _ z => (by cases z)⟩
noncomputable def noH : Heap := ⟨#[], {}⟩
theorem dx_ne_mx {a b : Addr} {o c : Obj} {us ws : List (Int × Addr × V)} : Dx a o us ≠ MX b c ws := fun z => by
  unfold Dx at z
  injection z with z
  by_cases hd : DxO b c ws
  · have up : ∀ o', DxO b o' ws → o' = o := fun o' hd' => by
      have y := congrFun z (oneH b o')
      obtain ⟨e, w⟩ := y.mpr fun _ => ⟨o', oneH_at hd', hd'⟩
      rw [oneH_get hd'] at e
      split at e
      · exact Option.some.inj e
      · cases e
    have e1 := up c hd
    obtain ⟨d1, d2, d3, es, ep, hd4, r⟩ := hd
    have d5 : DxO b { c with data := .dict es (ep + 1) } ws := ⟨d1, d2, d3, es, ep + 1, rfl, r⟩
    have e2 := up _ d5
    rw [← e1] at e2
    have e3 := congrArg Obj.data e2
    rw [hd4] at e3
    injection e3 with _ e3
    omega
  · have y := congrFun z noH
    obtain ⟨e, _⟩ := y.mpr fun q => absurd q hd
    cases e
theorem EntOk.mono {τ : D × D} {us : List (Int × Addr × V)} {ks : List NestedKey} {ds : List D} (s : Same B B') (h : EntOk K B τ us ks ds) : EntOk K B' τ us ks ds := ⟨h.hs, h.nd, h.ok, h.rk.mono s, h.rv.mono s, h.fr, h.fk⟩
theorem MemAt.mono {τ : D × D} {x C dx : Addr} {fs : List (Str × V)} {tv av : V} {a : Addr} {ob : Obj} {us : List (Int × Addr × V)} {ks : List NestedKey} {ds : List D} (s : Same B B') (e : H' a = H a) (h : MemAt K τ B H x C dx fs tv av a ob us ks ds) : MemAt K τ B' H' x C dx fs tv av a ob us ks ds :=
  ⟨h.fs, s _ _ h.dx, e.trans h.hm, h.ox, h.nc, h.rt.mono s, h.ra.mono s, h.en.mono s⟩
theorem TBt.grow {τ : Addr → D × D} (h : TBt K τ B H) (s : Same B B') (new : ∀ a o, B' a = some o → B a = some o ∨ Pln o) (e : ∀ a o us, H a = some (MX a o us) → H' a = some (MX a o us)) : TBt K τ B' H' :=
  ⟨fun a o q => (new a o q).elim (h.nt a o) fun z => z.1, fun x o C dx fs q => by
    rcases new x _ q with q | q
    · obtain ⟨tv, av, a, ob, us, ks, ds, m⟩ := h.mo x o C dx fs q
      exact ⟨tv, av, a, ob, us, ks, ds, m.mono s ((e _ _ _ m.hm).trans m.hm.symm)⟩
    · exact absurd rfl (q.2 o C dx fs)⟩
structure Grow (K : PySem.W.Frag) (B H B' H' : Hp) : Prop where
  b : Same B B'
  h : ∀ b o, H b = some o → Std o → H' b = some o
  i : Same B' H'
  f : ∀ a, H a ≠ none → B' a = B a
  e : ∀ a, H a ≠ none → H' a ≠ none
  t : ∀ P, NdefX.TabN H P lamAt → NdefX.TabN H' P lamAt
  n : ∀ τ, TBt K τ B H → ∃ τ', (∀ x, H x ≠ none → τ' x = τ x) ∧ TBt K τ' B' H'
theorem Grow.tb (g : Grow K B H B' H') (h : TB K B H) : TB K B' H' := by
  obtain ⟨τ, h⟩ := h
  obtain ⟨τ', _, h'⟩ := g.n τ h
  exact ⟨τ', h'⟩
theorem Grow.refl (i : Same B H) : Grow K B H B H := ⟨Same.refl _, fun _ _ h _ => h, i, fun _ _ => rfl, fun _ h => h, fun _ h => h, fun τ h => ⟨τ, fun _ _ => rfl, h⟩⟩
theorem Grow.trans {B1 H1 B2 H2 : Hp} (g : Grow K B H B1 H1) (k : Grow K B1 H1 B2 H2) : Grow K B H B2 H2 :=
  ⟨g.b.trans k.b, fun b o h n => k.h b o (g.h b o h n) n, k.i, fun a ha => by rw [k.f a (g.e a ha), g.f a ha], fun a ha => k.e a (g.e a ha), fun P h => k.t P (g.t P h), fun τ h => by
    obtain ⟨τ1, a1, h1⟩ := g.n τ h
    obtain ⟨τ2, a2, h2⟩ := k.n τ1 h1
    exact ⟨τ2, fun x hx => (a2 x (g.e x hx)).trans (a1 x hx), h2⟩⟩
theorem Grow.free (g : Grow K B H B' H') {p : Addr} (h : H' p = none) : H p = none := by
  cases q : H p with
  | none => rfl
  | some o => exact absurd h (g.e p (by rw [q]; simp))
theorem same_e (s : Same H H') : ∀ a, H a ≠ none → H' a ≠ none := fun a ha => by
  cases q : H a with
  | none => exact absurd q ha
  | some o => rw [s a o q]; simp
theorem Grow.of (b : Same B B') (s : Same H H') (i : Same B' H') (f : ∀ a, H a ≠ none → B' a = B a) (n : ∀ a o, B' a = some o → B a = some o ∨ Pln o) : Grow K B H B' H' := ⟨b, fun a o h _ => s a o h, i, f, same_e s, fun P h => h.ext s, fun τ h => ⟨τ, fun _ _ => rfl, h.grow b n fun a o us q => s _ _ q⟩⟩
theorem same_new {H : Hp} {p : Addr} {o : HO} (h : H p = none) : Same H (upd H p o) := fun a u e => by
  rw [upd_ne (ne_of_none e h)]
  exact e
theorem upd_new {p : Addr} {o : HO} (ho : Pln o) : ∀ a u, upd B p o a = some u → B a = some u ∨ Pln u := fun a u q => by
  by_cases ha : a = p
  · subst ha; rw [upd_same] at q; cases q; exact .inr ho
  · rw [upd_ne ha] at q; exact .inl q
theorem Grow.new {p : Addr} {o : HO} (i : Same B H) (hp : H p = none) (ho : Pln o := by exact ⟨⟨fun _ z => (by cases z), fun _ _ _ z => (by cases z)⟩, fun _ _ _ _ z => (by cases z)⟩) : Grow K B H (upd B p o) (upd H p o) :=
  Grow.of (same_new (i.free hp)) (same_new hp) (fun a u e => by
    by_cases ha : a = p
    · subst ha; rw [upd_same] at e; cases e; exact upd_same
    · rw [upd_ne ha] at e; rw [upd_ne ha]; exact i a u e) (fun a ha => by
    have hap : a ≠ p := fun q => ha (by rw [q]; exact hp)
    rw [upd_ne hap]) (upd_new ho)
theorem Grow.raw {p : Addr} {o : HO} (i : Same B H) (hp : H p = none) : Grow K B H B (upd H p o) :=
  Grow.of (Same.refl _) (same_new hp) (i.trans (same_new hp)) (fun _ _ => rfl) (fun _ _ q => .inl q)
structure Kind (ho : HO) : Prop where
  tbl : ∀ ps, ho ≠ .tbl ps
  code : ∀ c q, ho ≠ LamX.CodeO c q
  frz : ∀ o u, ho ≠ .frz o u
  mx : ∀ b c u, ho ≠ MX b c u
theorem Kind.std {ho : HO} (k : Kind ho) : Std ho := ⟨k.tbl, k.mx⟩
theorem Kind.pln {ho : HO} (k : Kind ho) : Pln ho := ⟨k.std, fun b _ _ _ => k.frz b _⟩
theorem Kind.noMX {ho : HO} (k : Kind ho) {a : Addr} {o : Obj} {us : List (Int × Addr × V)} : ho ≠ MX a o us := k.mx _ _ _
theorem kind_lst (vs : List V) : Kind (.lst vs) := ⟨fun _ z => (by cases z), fun _ _ z => (by unfold LamX.CodeO at z; cases z), fun _ _ z => (by cases z), fun _ _ _ z => (by cases z)⟩
theorem kind_tup (vs : List V) : Kind (.tup vs) := ⟨fun _ z => (by cases z), fun _ _ z => (by unfold LamX.CodeO at z; cases z), fun _ _ z => (by cases z), fun _ _ _ z => (by cases z)⟩
theorem kind_dK (us : List (Key × V)) : Kind (.dK us) := ⟨fun _ z => (by cases z), fun _ _ z => (by unfold LamX.CodeO at z; cases z), fun _ _ z => (by cases z), fun _ _ _ z => (by cases z)⟩
theorem kind_dx {a : Addr} {o : Obj} {us : List (Int × Addr × V)} (h : DxO a o us) : Kind (Dx a o us) := by
  refine ⟨fun _ z => (by cases z), fun c q z => ?_, fun _ _ z => (by cases z), fun _ _ _ => dx_ne_mx⟩
  unfold LamX.CodeO Dx at z
  injection z with z
  have y := congrFun z (oneH a o)
  obtain ⟨oc, vs, t, e1, e2, _⟩ := y.mp ⟨oneH_at h, h⟩
  rw [oneH_get h] at e1
  split at e1
  · cases e1
    obtain ⟨_, _, _, es, ep, hd, _⟩ := h
    rw [hd] at e2
    cases e2
  · cases e1
theorem kind_ins (C dx : Addr) (fs : List (Str × V)) : Kind (.ins C dx fs) := ⟨fun _ z => (by cases z), fun _ _ z => (by unfold LamX.CodeO at z; cases z), fun _ _ z => (by cases z), fun _ _ _ z => (by cases z)⟩
theorem kind_own (x : Addr) : Kind (.own x) := ⟨fun _ z => (by cases z), fun _ _ z => (by unfold LamX.CodeO at z; cases z), fun _ _ z => (by cases z), fun _ _ _ z => (by cases z)⟩
theorem tab_updG {p P : Addr} {q : Nat → Nat → Str} {ho ho' : HO} (h : NdefX.TabN H P q) (hp : H p = some ho) (k : Kind ho) : NdefX.TabN (upd H p ho') P q := by
  obtain ⟨ps, h1, h2, h3⟩ := h
  have n1 : P ≠ p := fun z => by rw [z, hp] at h1; exact k.tbl ps (Option.some.inj h1)
  refine ⟨ps, by rw [upd_ne n1]; exact h1, h2, fun pos cv hc => ?_⟩
  obtain ⟨c, e1, e2⟩ := h3 pos cv hc
  have n2 : c ≠ p := fun z => by rw [z, hp] at e2; exact k.code _ _ (Option.some.inj e2)
  exact ⟨c, e1, by rw [upd_ne n2]; exact e2⟩
theorem tab_upd {p P : Addr} {q : Nat → Nat → Str} {us vs : List V} (h : NdefX.TabN H P q) (hp : H p = some (.lst us)) : NdefX.TabN (upd H p (.lst vs)) P q := tab_updG h hp (kind_lst _)
end
inductive NK where
  | ls
  | tp
  | dc (ks : List Key)
  | dt (ks : List NestedKey)
  | ob (c : Str) (ns : List Str)
inductive T where
  | im (d : D)
  | nd (k : NK) (ts : List T)
noncomputable def cell (K : PySem.W.Frag) (H : Hp) (p : Addr) (vs : List V) (fp : List Addr) : NK → Prop
  | .ls => H p = some (.lst vs) ∧ fp = [p]
  | .tp => H p = some (.tup vs) ∧ fp = [p]
  | .dc ks => ∃ us : List (Key × V), H p = some (.dK us) ∧ us.map (·.1) = ks ∧ vs = us.map (·.2) ∧ fp = [p]
  | .dt ks => ∃ (o : Obj) (us : List (Int × Addr × V)), H p = some (Dx p o us) ∧ (DxO p o us ∧ us.map (·.1) = ks.map nkHash ∧ ks.Nodup ∧ ∀ k ∈ ks, nkOk k = true) ∧ vs = us.map (·.2.2) ∧ fp = [p]
  | .ob c ns => ∃ (C dx : Addr) (fs : List (Str × V)), H p = some (.ins C dx fs) ∧ H dx = some (.own p) ∧ clsV K c = some (.ref C) ∧ fs.map (·.1) = ns ∧ vs = fs.map (·.2) ∧ fp = [p, dx]
section
variable {K : PySem.W.Frag} {H H' : Hp}
theorem cell_in {k : NK} {p : Addr} {vs : List V} {fp : List Addr} (h : cell K H p vs fp k) : p ∈ fp := by
  cases k with
  | ls => rw [h.2]; simp
  | tp => rw [h.2]; simp
  | dc ks => obtain ⟨us, _, _, _, rfl⟩ := h; simp
  | dt ks => obtain ⟨o, us, _, _, _, rfl⟩ := h; simp
  | ob c ns => obtain ⟨C, dx, fs, _, _, _, _, _, rfl⟩ := h; simp
theorem cell_kind {k : NK} {p : Addr} {vs : List V} {fp : List Addr} (h : cell K H p vs fp k) : ∀ q ∈ fp, ∃ u, H q = some u ∧ Kind u := by
  cases k with
  | ls => obtain ⟨h, rfl⟩ := h; intro q hq; rw [List.mem_singleton.mp hq]; exact ⟨_, h, kind_lst _⟩
  | tp => obtain ⟨h, rfl⟩ := h; intro q hq; rw [List.mem_singleton.mp hq]; exact ⟨_, h, kind_tup _⟩
  | dc ks => obtain ⟨us, h, _, _, rfl⟩ := h; intro q hq; rw [List.mem_singleton.mp hq]; exact ⟨_, h, kind_dK _⟩
  | dt ks => obtain ⟨o, us, h, ⟨h1, _⟩, _, rfl⟩ := h; intro q hq; rw [List.mem_singleton.mp hq]; exact ⟨_, h, kind_dx h1⟩
  | ob c ns =>
    obtain ⟨C, dx, fs, h1, h2, _, _, _, rfl⟩ := h
    intro q hq
    rcases List.mem_cons.mp hq with rfl | hq
    · exact ⟨_, h1, kind_ins _ _ _⟩
    · rw [List.mem_singleton.mp hq]; exact ⟨_, h2, kind_own _⟩
theorem cell_at {k : NK} {p : Addr} {vs : List V} {fp : List Addr} (h : cell K H p vs fp k) (e : ∀ q ∈ fp, H' q = H q) : cell K H' p vs fp k := by
  have ep := e p (cell_in h)
  cases k with
  | ls => exact ⟨ep.trans h.1, h.2⟩
  | tp => exact ⟨ep.trans h.1, h.2⟩
  | dc ks => obtain ⟨us, h, r⟩ := h; exact ⟨us, ep.trans h, r⟩
  | dt ks => obtain ⟨o, us, h, r⟩ := h; exact ⟨o, us, ep.trans h, r⟩
  | ob c ns =>
    obtain ⟨C, dx, fs, h1, h2, h3, h4, h5, h6⟩ := h
    exact ⟨C, dx, fs, ep.trans h1, (e dx (by rw [h6]; simp)).trans h2, h3, h4, h5, h6⟩
theorem cell_one {k : NK} {p : Addr} {vs vs' : List V} {fp fp' : List Addr} (h : cell K H p vs fp k) (h' : cell K H p vs' fp' k) : vs' = vs ∧ fp' = fp := by
  cases k with
  | ls =>
    have := h'.1.symm.trans h.1
    cases this
    exact ⟨rfl, h'.2.trans h.2.symm⟩
  | tp =>
    have := h'.1.symm.trans h.1
    cases this
    exact ⟨rfl, h'.2.trans h.2.symm⟩
  | dc ks =>
    obtain ⟨us, h, _, e, f⟩ := h
    obtain ⟨us', h', _, e', f'⟩ := h'
    have := h'.symm.trans h
    cases this
    exact ⟨e'.trans e.symm, f'.trans f.symm⟩
  | dt ks =>
    obtain ⟨o, us, h, ⟨w, _⟩, e, f⟩ := h
    obtain ⟨o', us', h', _, e', f'⟩ := h'
    obtain ⟨_, rfl⟩ := Dx.inj w (Option.some.inj (h.symm.trans h'))
    exact ⟨e'.trans e.symm, f'.trans f.symm⟩
  | ob c ns =>
    obtain ⟨C, dx, fs, h, _, _, _, e, f⟩ := h
    obtain ⟨C', dx', fs', h', _, _, _, e', f'⟩ := h'
    have := h'.symm.trans h
    cases this
    exact ⟨e'.trans e.symm, f'.trans f.symm⟩
end
mutual
noncomputable def FT (K : PySem.W.Frag) (H : Hp) : T → V → Addr → Prop
  | .im _, _, _ => False
  | .nd k ts, v, q => ∃ p vs fp, v = .ref p ∧ cell K H p vs fp k ∧ (q ∈ fp ∨ FTA K H ts vs q)
noncomputable def FTA (K : PySem.W.Frag) (H : Hp) : List T → List V → Addr → Prop
  | [], _, _ => False
  | _ :: _, [], _ => False
  | t :: ts, v :: vs, q => FT K H t v q ∨ FTA K H ts vs q
end
noncomputable def KO (K : PySem.W.Frag) (B H : Hp) (p : Addr) : NK → Prop
  | .dt ks => ∃ (o : Obj) (us : List (Int × Addr × V)), H p = some (Dx p o us) ∧ RpA K B (us.map fun u => .ref u.2.1) (nkDs ks)
  | _ => True
theorem KO.mono {K : PySem.W.Frag} {B B' H H' : Hp} {p : Addr} {k : NK} (h : KO K B H p k) (sb : Same B B') (e : H' p = H p) : KO K B' H' p k := by
  cases k with
  | dt ks => obtain ⟨o, us, h1, h2⟩ := h; exact ⟨o, us, e.trans h1, h2.mono sb⟩
  | _ => trivial
structure Apt (K : PySem.W.Frag) (B H : Hp) (p : Addr) (k : NK) (F : Addr → Prop) (fp : List Addr) : Prop where
  n : ∀ q ∈ fp, ¬ F q
  k : KO K B H p k
noncomputable instance {K : PySem.W.Frag} {B H : Hp} {p : Addr} {k : NK} {F : Addr → Prop} {fp : List Addr} : CoeFun (Apt K B H p k F fp) (fun _ => ∀ q ∈ fp, ¬ F q) := ⟨Apt.n⟩
mutual
noncomputable def RT (K : PySem.W.Frag) (B H : Hp) : T → V → Prop
  | .im d, v => Rp K B v d
  | .nd k ts, v => ∃ p vs fp, v = .ref p ∧ cell K H p vs fp k ∧ RTA K B H ts vs ∧ Apt K B H p k (FTA K H ts vs) fp
noncomputable def RTA (K : PySem.W.Frag) (B H : Hp) : List T → List V → Prop
  | [], [] => True
  | [], _ :: _ => False
  | _ :: _, [] => False
  | t :: ts, v :: vs => RT K B H t v ∧ RTA K B H ts vs ∧ ∀ q, FT K H t v q → ¬ FTA K H ts vs q
end
section
variable {K : PySem.W.Frag} {B B' H H' : Hp}
mutual
theorem RT.move : ∀ (t : T) (v : V), RT K B H t v → Same B B' → (∀ q, FT K H t v q → H' q = H q) → RT K B' H' t v ∧ ∀ q, FT K H' t v q ↔ FT K H t v q
  | .im d, v, h, sb, _ => by
    rw [RT] at h ⊢
    exact ⟨h.mono sb, fun q => by rw [FT, FT]⟩
  | .nd k ts, v, h, sb, e => by
    rw [RT] at h
    obtain ⟨p, vs, fp, rfl, hc, hr, hn⟩ := h
    have e1 : ∀ q ∈ fp, H' q = H q := fun q hq => e q (by rw [FT]; exact ⟨p, vs, fp, rfl, hc, .inl hq⟩)
    obtain ⟨r1, r2⟩ := RTA.move ts vs hr sb fun q hq => e q (by rw [FT]; exact ⟨p, vs, fp, rfl, hc, .inr hq⟩)
    have hc' := cell_at hc e1
    constructor
    · rw [RT]
      exact ⟨p, vs, fp, rfl, hc', r1, fun q hq z => hn q hq ((r2 q).mp z), hn.k.mono sb (e1 p (cell_in hc))⟩
    · intro q
      rw [FT, FT]
      constructor
      · rintro ⟨p', vs', fp', z, hc2, h⟩
        cases z
        obtain ⟨rfl, rfl⟩ := cell_one hc' hc2
        exact ⟨p, _, _, rfl, hc, h.imp id (r2 q).mp⟩
      · rintro ⟨p', vs', fp', z, hc2, h⟩
        cases z
        obtain ⟨rfl, rfl⟩ := cell_one hc hc2
        exact ⟨p, _, _, rfl, hc', h.imp id (r2 q).mpr⟩
theorem RTA.move : ∀ (ts : List T) (vs : List V), RTA K B H ts vs → Same B B' → (∀ q, FTA K H ts vs q → H' q = H q) → RTA K B' H' ts vs ∧ ∀ q, FTA K H' ts vs q ↔ FTA K H ts vs q
  | [], [], _, _, _ => ⟨by rw [RTA]; trivial, fun q => by rw [FTA, FTA]⟩
  | [], _ :: _, h, _, _ => by rw [RTA] at h; exact h.elim
  | _ :: _, [], h, _, _ => by rw [RTA] at h; exact h.elim
  | t :: ts, v :: vs, h, sb, e => by
    rw [RTA] at h
    obtain ⟨h1, h2, h3⟩ := h
    obtain ⟨a1, a2⟩ := RT.move t v h1 sb fun q hq => e q (by rw [FTA]; exact .inl hq)
    obtain ⟨b1, b2⟩ := RTA.move ts vs h2 sb fun q hq => e q (by rw [FTA]; exact .inr hq)
    constructor
    · rw [RTA]
      exact ⟨a1, b1, fun q hq z => h3 q ((a2 q).mp hq) ((b2 q).mp z)⟩
    · intro q
      rw [FTA, FTA, a2, b2]
end
mutual
theorem RT.kind : ∀ (t : T) (v : V), RT K B H t v → ∀ q, FT K H t v q → ∃ u, H q = some u ∧ Kind u
  | .im d, v, _, q, h => by rw [FT] at h; exact h.elim
  | .nd k ts, v, h, q, hq => by
    rw [RT] at h
    obtain ⟨p, vs, fp, rfl, hc, hr, _⟩ := h
    rw [FT] at hq
    obtain ⟨p', vs', fp', z, hc2, hq⟩ := hq
    cases z
    obtain ⟨rfl, rfl⟩ := cell_one hc hc2
    rcases hq with hq | hq
    · exact cell_kind hc q hq
    · exact RTA.kind ts _ hr q hq
theorem RTA.kind : ∀ (ts : List T) (vs : List V), RTA K B H ts vs → ∀ q, FTA K H ts vs q → ∃ u, H q = some u ∧ Kind u
  | [], _, _, q, h => by rw [FTA] at h; exact h.elim
  | _ :: _, [], h, _, _ => by rw [RTA] at h; exact h.elim
  | t :: ts, v :: vs, h, q, hq => by
    rw [RTA] at h
    rw [FTA] at hq
    rcases hq with hq | hq
    · exact RT.kind t v h.1 q hq
    · exact RTA.kind ts vs h.2.1 q hq
end
theorem RTA.length : ∀ {ts : List T} {vs : List V}, RTA K B H ts vs → vs.length = ts.length
  | [], [], _ => rfl
  | [], _ :: _, h => by rw [RTA] at h; exact h.elim
  | _ :: _, [], h => by rw [RTA] at h; exact h.elim
  | t :: ts, v :: vs, h => by rw [RTA] at h; simp [RTA.length h.2.1]
end
mutual
noncomputable def T.d : T → D
  | .im d => d
  | .nd k ts => match k with
    | .ls => .lst (T.dA ts)
    | .tp => .tup (T.dA ts)
    | .dc ks => .dct (ks.map kD) (T.dA ts)
    | .dt ks => .dtt ks (T.dA ts)
    | .ob c ns => .ins c ns (T.dA ts)
noncomputable def T.dA : List T → List D
  | [] => []
  | t :: ts => t.d :: T.dA ts
end
theorem T.dA_map : ∀ ts : List T, T.dA ts = ts.map T.d
  | [] => by rw [T.dA]; rfl
  | t :: ts => by rw [T.dA, T.dA_map ts]; rfl
section
variable {K : PySem.W.Frag} {B B' H : Hp}
mutual
theorem RT.frz : ∀ (t : T) (v : V), RT K B H t v → Same B B' → (∀ q, FT K H t v q → B' q = H q) → Rp K B' v t.d
  | .im d, v, h, sb, _ => by
    rw [RT] at h
    rw [T.d]
    exact h.mono sb
  | .nd k ts, v, h, sb, e => by
    rw [RT] at h
    obtain ⟨p, vs, fp, rfl, hc, hr, hn⟩ := h
    have r := RTA.frz ts vs hr sb fun q hq => e q (by rw [FT]; exact ⟨p, vs, fp, rfl, hc, .inr hq⟩)
    have hc' := cell_at (H' := B') hc fun q hq => e q (by rw [FT]; exact ⟨p, vs, fp, rfl, hc, .inl hq⟩)
    have hk := hn.k.mono (H' := B') sb (e p (by rw [FT]; exact ⟨p, vs, fp, rfl, hc, .inl (cell_in hc)⟩))
    cases k with
    | ls => rw [T.d]; exact .lst (SqL.of hc'.1) r
    | tp => rw [T.d]; exact .tup (.inl (.inl hc'.1)) r
    | dc ks =>
      obtain ⟨us, h1, rfl, rfl, _⟩ := hc'
      rw [T.d]
      simp only [List.map_map]
      exact .dct h1 r
    | dt ks =>
      obtain ⟨o, us, h1, ⟨h2, h3, h4, h5⟩, rfl, _⟩ := hc'
      obtain ⟨o', us', k1, k2⟩ := hk
      obtain ⟨_, rfl⟩ := Dx.inj h2 (Option.some.inj (h1.symm.trans k1))
      rw [T.d]
      exact .dcT h1 h2 h3 h4 h5 k2 r
    | ob c ns =>
      obtain ⟨C, dx, fs, h1, h2, h3, rfl, rfl, _⟩ := hc'
      rw [T.d]
      exact .ins h1 h2 h3 r
theorem RTA.frz : ∀ (ts : List T) (vs : List V), RTA K B H ts vs → Same B B' → (∀ q, FTA K H ts vs q → B' q = H q) → RpA K B' vs (T.dA ts)
  | [], [], _, _, _ => by rw [T.dA]; exact .nil
  | [], _ :: _, h, _, _ => by rw [RTA] at h; exact h.elim
  | _ :: _, [], h, _, _ => by rw [RTA] at h; exact h.elim
  | t :: ts, v :: vs, h, sb, e => by
    rw [RTA] at h
    rw [T.dA]
    exact .cons (RT.frz t v h.1 sb fun q hq => e q (by rw [FTA]; exact .inl hq)) (RTA.frz ts vs h.2.1 sb fun q hq => e q (by rw [FTA]; exact .inr hq))
end
end
inductive O where
  | im (d : D)
  | ow (ds : List D)
  | od (kvs : List (Key × D))
  | tr (m : Bool) (k : NK) (ts : List T)
noncomputable def O.isOw : O → Bool
  | .im _ => false
  | _ => true
noncomputable abbrev DS := List (Option O)
noncomputable def Ft (K : PySem.W.Frag) (H : Hp) (v : V) (q : Addr) : O → Prop
  | .im _ => False
  | .ow _ => v = .ref q
  | .od _ => v = .ref q
  | .tr _ k ts => FT K H (.nd k ts) v q
structure Org where
  h : Hp
  sf : Option V
noncomputable instance : CoeFun Org (fun _ => Addr → Option HO) := ⟨Org.h⟩
noncomputable instance : Coe Org Hp := ⟨Org.h⟩
noncomputable abbrev Org.of (H : Hp) : Org := ⟨H, none⟩
noncomputable abbrev Org.upd (H0 : Org) (p : Addr) (o : HO) : Org := ⟨L2.upd H0.h p o, H0.sf⟩
noncomputable def SR (K : PySem.W.Frag) (H0 : Org) (B H : Hp) (v : V) : O → Prop
  | .im d => Rp K B v d
  | .ow ds => ∃ p vs, v = .ref p ∧ H0 p = none ∧ B p = none ∧ H p = some (.lst vs) ∧ RpA K B vs ds
  | .od kvs => ∃ p us, v = .ref p ∧ H0 p = none ∧ B p = none ∧ H p = some (.dK us) ∧ us.map (·.1) = kvs.map (·.1) ∧ RpA K B (us.map (·.2)) (kvs.map (·.2))
  | .tr m k ts => RT K B H (.nd k ts) v ∧ (∀ q, FT K H (.nd k ts) v q → H0 q = none ∧ B q = none) ∧ (m = true → H0.sf = some v)
structure Rel (K : PySem.W.Frag) (B0 : Hp) (H0 : Org) (B H : Hp) (σ : L2.St) (δ : DS) : Prop where
  g : Grow K B0 H0.h B H
  tk : ∀ p ∈ tabsOf K, NdefX.TabN H0.h p lamAt
  nt : TB K B0 H0.h
  len : σ.length = δ.length
  sl : ∀ (i : Nat) (o : O), δ[i]? = some (some o) → ∃ v, σ[i]? = some (some v) ∧ SR K H0 B H v o
  sep : ∀ (i j : Nat) (o o' : O) (v v' : V), i ≠ j → δ[i]? = some (some o) → δ[j]? = some (some o') → σ[i]? = some (some v) → σ[j]? = some (some v') → ∀ q, Ft K H v q o → ¬ Ft K H v' q o'
section
variable {K : PySem.W.Frag} {B0 : Hp} {H0 : Org} {B H B' H' : Hp} {σ : L2.St} {δ : DS}
theorem SR.new {v : V} {o : O} (h : SR K H0 B H v o) : ∀ q, Ft K H v q o → H0 q = none ∧ B q = none ∧ ∃ u, H q = some u ∧ Kind u := by
  cases o with
  | im d => intro q z; exact z.elim
  | ow ds => obtain ⟨p, vs, rfl, h0, hb, hh, _⟩ := h; intro q z; cases z; exact ⟨h0, hb, _, hh, kind_lst _⟩
  | od kvs => obtain ⟨p, us, rfl, h0, hb, hh, _⟩ := h; intro q z; cases z; exact ⟨h0, hb, _, hh, kind_dK _⟩
  | tr m k ts => intro q z; exact ⟨(h.2.1 q z).1, (h.2.1 q z).2, RT.kind _ _ h.1 q z⟩
theorem SR.root {v : V} {o : O} (ho : o.isOw = true) (h : SR K H0 B H v o) : ∃ p, v = .ref p ∧ Ft K H v p o := by
  cases o with
  | im d => cases ho
  | ow ds => obtain ⟨p, vs, rfl, h0, hb, hh, _⟩ := h; exact ⟨p, rfl, rfl⟩
  | od kvs => obtain ⟨p, us, rfl, h0, hb, hh, _⟩ := h; exact ⟨p, rfl, rfl⟩
  | tr m k ts =>
    have h1 := h.1
    rw [RT] at h1
    obtain ⟨p, vs, fp, rfl, hc, _⟩ := h1
    exact ⟨p, rfl, by show FT K H (.nd k ts) _ p; rw [FT]; exact ⟨p, vs, fp, rfl, hc, .inl (cell_in hc)⟩⟩
theorem SR.move {v : V} {o : O} (h : SR K H0 B H v o) (sb : Same B B') (e : ∀ q, Ft K H v q o → B' q = none ∧ H' q = H q) : SR K H0 B' H' v o ∧ ∀ q, Ft K H' v q o ↔ Ft K H v q o := by
  cases o with
  | im d => exact ⟨Rp.mono sb h, fun _ => Iff.rfl⟩
  | ow ds =>
    obtain ⟨p, vs, rfl, h0, _, h1, r⟩ := h
    obtain ⟨hb, hh⟩ := e p rfl
    exact ⟨⟨_, vs, rfl, h0, hb, hh.trans h1, RpA.mono sb r⟩, fun _ => Iff.rfl⟩
  | od kvs =>
    obtain ⟨p, us, rfl, h0, _, h1, k, r⟩ := h
    obtain ⟨hb, hh⟩ := e p rfl
    exact ⟨⟨_, us, rfl, h0, hb, hh.trans h1, k, RpA.mono sb r⟩, fun _ => Iff.rfl⟩
  | tr m k ts =>
    obtain ⟨m1, m2⟩ := RT.move (.nd k ts) v h.1 sb fun q hq => (e q hq).2
    exact ⟨⟨m1, fun q hq => ⟨(h.2.1 q ((m2 q).mp hq)).1, (e q ((m2 q).mp hq)).1⟩, h.2.2⟩, m2⟩
theorem SR.grow {v : V} {o : O} (g : Grow K B H B' H') (h : SR K H0 B H v o) : SR K H0 B' H' v o ∧ ∀ q, Ft K H' v q o ↔ Ft K H v q o :=
  h.move g.b fun q hq => by
    obtain ⟨_, hb, u, hh, k⟩ := h.new q hq
    exact ⟨by rw [g.f q (by rw [hh]; simp)]; exact hb, by rw [hh]; exact g.h _ _ hh k.std⟩
theorem SR.mono {v : V} {o : O} (g : Grow K B H B' H') (h : SR K H0 B H v o) : SR K H0 B' H' v o := (h.grow g).1
theorem Rel.seps (r : Rel K B0 H0 B H σ δ) (h : ∀ (i : Nat) (o : O) (v : V), δ[i]? = some (some o) → σ[i]? = some (some v) → ∀ q, Ft K H' v q o → Ft K H v q o) :
    ∀ (i j : Nat) (o o' : O) (v v' : V), i ≠ j → δ[i]? = some (some o) → δ[j]? = some (some o') → σ[i]? = some (some v) → σ[j]? = some (some v') → ∀ q, Ft K H' v q o → ¬ Ft K H' v' q o' :=
  fun i j o o' v v' hij e1 e2 e3 e4 q f1 f2 => r.sep i j o o' v v' hij e1 e2 e3 e4 q (h i o v e1 e3 q f1) (h j o' v' e2 e4 q f2)
theorem Rel.mono (r : Rel K B0 H0 B H σ δ) (g : Grow K B H B' H') : Rel K B0 H0 B' H' σ δ :=
  ⟨r.g.trans g, r.tk, r.nt, r.len, fun i o e => by
    obtain ⟨v, h1, h2⟩ := r.sl i o e
    exact ⟨v, h1, h2.mono g⟩, r.seps fun i o v e1 e2 q hq => by
    obtain ⟨v', h1, h2⟩ := r.sl i o e1
    rw [e2] at h1
    cases h1
    exact ((h2.grow g).2 q).mp hq⟩
theorem Rel.get {i : Nat} {d : D} (r : Rel K B0 H0 B H σ δ) (e : δ[i]? = some (some (.im d))) : ∃ v, σ[i]? = some (some v) ∧ Rp K B v d := r.sl i _ e
theorem Rel.lt {i : Nat} {o : O} (e : δ[i]? = some (some o)) : i < δ.length := by
  by_cases hl : i < δ.length
  · exact hl
  · rw [List.getElem?_eq_none (by simpa using hl)] at e; cases e
theorem set_own {i m : Nat} {z : Option O} {o : O} (q : (δ.set i z)[m]? = some (some o)) : (i = m ∧ i < δ.length ∧ z = some o) ∨ (i ≠ m ∧ δ[m]? = some (some o)) := by
  by_cases hm : i = m
  · subst hm
    by_cases hl : i < δ.length
    · rw [List.getElem?_set_self hl] at q; exact .inl ⟨rfl, hl, Option.some.inj q⟩
    · rw [List.getElem?_eq_none (by simpa using hl)] at q; cases q
  · rw [List.getElem?_set_ne hm] at q
    exact .inr ⟨hm, q⟩
theorem Rel.sepSet {H' : Hp} {i : Nat} {v : V} {z : Option O} (r : Rel K B0 H0 B H σ δ) (hl : i < δ.length → i < σ.length)
    (old : ∀ (j : Nat) (o : O) (w : V), j ≠ i → δ[j]? = some (some o) → σ[j]? = some (some w) → ∀ q, Ft K H' w q o → Ft K H w q o)
    (new : ∀ o, z = some o → ∀ (j : Nat) (o' : O) (w : V), j ≠ i → δ[j]? = some (some o') → σ[j]? = some (some w) → ∀ q, Ft K H' v q o → ¬ Ft K H w q o') :
    ∀ (a b : Nat) (o o' : O) (w w' : V), a ≠ b → (δ.set i z)[a]? = some (some o) → (δ.set i z)[b]? = some (some o') → (σ.set i (some v))[a]? = some (some w) → (σ.set i (some v))[b]? = some (some w') → ∀ q, Ft K H' w q o → ¬ Ft K H' w' q o' := by
  intro a b o o' w w' hab e1 e2 e3 e4 q f1 f2
  rcases set_own e1 with ⟨rfl, hi, z1⟩ | ⟨n1, e1⟩
  · rw [List.getElem?_set_self (hl hi)] at e3
    cases e3
    rcases set_own e2 with ⟨rfl, _, _⟩ | ⟨n2, e2⟩
    · exact hab rfl
    · rw [List.getElem?_set_ne n2] at e4
      exact new o z1 b o' w' (Ne.symm n2) e2 e4 q f1 (old b o' w' (Ne.symm n2) e2 e4 q f2)
  · rw [List.getElem?_set_ne n1] at e3
    rcases set_own e2 with ⟨rfl, hi, z2⟩ | ⟨n2, e2⟩
    · rw [List.getElem?_set_self (hl hi)] at e4
      cases e4
      exact new o' z2 a o w (Ne.symm n1) e1 e3 q f2 (old a o w (Ne.symm n1) e1 e3 q f1)
    · rw [List.getElem?_set_ne n2] at e4
      exact r.sep a b o o' w w' hab e1 e2 e3 e4 q (old a o w (Ne.symm n1) e1 e3 q f1) (old b o' w' (Ne.symm n2) e2 e4 q f2)
theorem Rel.set {v : V} {d : D} (r : Rel K B0 H0 B H σ δ) (i : Nat) (h : Rp K B v d) : Rel K B0 H0 B H (σ.set i (some v)) (δ.set i (some (.im d))) := by
  refine ⟨r.g, r.tk, r.nt, by simp [r.len], fun j o e => ?_, r.sepSet (fun hi => by rw [r.len]; exact hi) (fun _ _ _ _ _ _ _ h => h) fun o z j o' w _ _ _ q f => by cases z; exact f.elim⟩
  rcases set_own e with ⟨rfl, hl, z⟩ | ⟨hj, e⟩
  · cases z
    exact ⟨v, by rw [List.getElem?_set_self (by rw [r.len]; exact hl)], h⟩
  · rw [List.getElem?_set_ne hj]
    exact r.sl j o e
theorem Rel.drop {v : Option V} (r : Rel K B0 H0 B H σ δ) (i : Nat) : Rel K B0 H0 B H (σ.set i v) (δ.set i none) := by
  refine ⟨r.g, r.tk, r.nt, by simp [r.len], fun j o e => ?_, fun a b o o' w w' hab e1 e2 e3 e4 => ?_⟩
  · rcases set_own e with ⟨_, _, z⟩ | ⟨hj, e⟩
    · cases z
    · rw [List.getElem?_set_ne hj]
      exact r.sl j o e
  · rcases set_own e1 with ⟨_, _, z⟩ | ⟨n1, e1⟩
    · cases z
    rcases set_own e2 with ⟨_, _, z⟩ | ⟨n2, e2⟩
    · cases z
    rw [List.getElem?_set_ne n1] at e3
    rw [List.getElem?_set_ne n2] at e4
    exact r.sep a b o o' w w' hab e1 e2 e3 e4
theorem Rel.setO {v : V} {o : O} (r : Rel K B0 H0 B H σ δ) (i : Nat) (h : SR K H0 B H v o) (fr : ∀ (j : Nat) (o' : O) (w : V), j ≠ i → δ[j]? = some (some o') → σ[j]? = some (some w) → ∀ q, Ft K H v q o → ¬ Ft K H w q o') :
    Rel K B0 H0 B H (σ.set i (some v)) (δ.set i (some o)) := by
  refine ⟨r.g, r.tk, r.nt, by simp [r.len], fun j o' e => ?_, r.sepSet (fun hi => by rw [r.len]; exact hi) (fun _ _ _ _ _ _ _ h => h) fun o1 z => by cases z; exact fr⟩
  rcases set_own e with ⟨rfl, hl, z⟩ | ⟨hj, e⟩
  · cases z
    exact ⟨_, by rw [List.getElem?_set_self (by rw [r.len]; exact hl)], h⟩
  · rw [List.getElem?_set_ne hj]
    exact r.sl j o' e
theorem Rel.fresh' {q : Addr} (r : Rel K B0 H0 B H σ δ) (hp : H q = none) : ∀ (j : Nat) (o' : O) (w : V), δ[j]? = some (some o') → σ[j]? = some (some w) → ¬ Ft K H w q o' := fun j o' w e e' z => by
  obtain ⟨v, h1, h2⟩ := r.sl j o' e
  rw [e'] at h1
  cases h1
  obtain ⟨_, _, u, hh, _⟩ := h2.new q z
  rw [hp] at hh
  cases hh
theorem Rel.free' {q : Addr} (r : Rel K B0 H0 B H σ δ) (g : Grow K B H B' H') (hp : H q = none) : ∀ (j : Nat) (o' : O) (w : V), δ[j]? = some (some o') → σ[j]? = some (some w) → ¬ Ft K H' w q o' := fun j o' w e e' z => by
  obtain ⟨v, h1, h2⟩ := r.sl j o' e
  rw [e'] at h1
  cases h1
  exact r.fresh' hp j o' w e e' (((h2.grow g).2 q).mp z)
theorem Rel.setG {p : Addr} {o : O} (r : Rel K B0 H0 B H σ δ) (i : Nat) (h : SR K H0 B H (.ref p) o) (fr : ∀ (j : Nat) (o' : O) (w : V), δ[j]? = some (some o') → σ[j]? = some (some w) → ¬ Ft K H w p o') (small : ∀ q, Ft K H (.ref p) q o → q = p := by intro q z; cases z; rfl) :
    Rel K B0 H0 B H (σ.set i (some (.ref p))) (δ.set i (some o)) := r.setO i h fun j o' w _ e e' q f => by rw [small q f]; exact fr j o' w e e'
theorem Rel.setOw {p : Addr} {vs : List V} {ds : List D} (r : Rel K B0 H0 B H σ δ) (i : Nat) (h0 : H0 p = none) (hb : B p = none) (hh : H p = some (.lst vs)) (q : RpA K B vs ds) (fr : ∀ (j : Nat) (o' : O) (w : V), δ[j]? = some (some o') → σ[j]? = some (some w) → ¬ Ft K H w p o') :
    Rel K B0 H0 B H (σ.set i (some (.ref p))) (δ.set i (some (.ow ds))) := r.setG i ⟨p, vs, rfl, h0, hb, hh, q⟩ fr
theorem Rel.chgK {i : Nat} {o : O} {z : Option O} {v v' : V} (r : Rel K B0 H0 B H σ δ) (e : δ[i]? = some (some o)) (es : σ[i]? = some (some v)) (g : Grow K B0 H0.h B' H') (sb : Same B B')
    (same : ∀ q u, ¬ Ft K H v q o → H q = some u → Kind u → H' q = H q ∧ B' q = B q) (new : ∀ o', z = some o' → SR K H0 B' H' v' o' ∧ ∀ q, Ft K H' v' q o' → Ft K H v q o ∨ H q = none) :
    Rel K B0 H0 B' H' (σ.set i (some v')) (δ.set i z) := by
  have hl := Rel.lt e
  have stay : ∀ (j : Nat) (oj : O) (w : V), j ≠ i → δ[j]? = some (some oj) → σ[j]? = some (some w) → SR K H0 B' H' w oj ∧ ∀ q, Ft K H' w q oj ↔ Ft K H w q oj := fun j oj w hj ej ew => by
    obtain ⟨w', h1, h2⟩ := r.sl j oj ej
    rw [ew] at h1
    cases h1
    refine h2.move sb fun q hq => ?_
    obtain ⟨_, hb, u, hh, kd⟩ := h2.new q hq
    obtain ⟨s1, s2⟩ := same q u (fun z => r.sep i j o oj v w (Ne.symm hj) e ej es ew q z hq) hh kd
    exact ⟨s2.trans hb, s1⟩
  refine ⟨g, r.tk, r.nt, by simp [r.len], fun j oj ej => ?_, r.sepSet (fun hi => by rw [r.len]; exact hi) (fun j oj w hj ej ew q hq => ((stay j oj w hj ej ew).2 q).mp hq) fun o' ho j oj w hj ej ew q hq hq' => ?_⟩
  · rcases set_own ej with ⟨rfl, _, ho⟩ | ⟨hj, ej⟩
    · exact ⟨v', by rw [List.getElem?_set_self (by rw [r.len]; exact hl)], (new oj ho).1⟩
    · obtain ⟨w, h1, _⟩ := r.sl j oj ej
      rw [List.getElem?_set_ne hj]
      exact ⟨w, h1, (stay j oj w (Ne.symm hj) ej h1).1⟩
  · rcases (new o' ho).2 q hq with h | h
    · exact r.sep i j o oj v w (Ne.symm hj) e ej es ew q h hq'
    · exact r.fresh' h j oj w ej ew hq'
theorem Rel.chg {i : Nat} {o : O} {z : Option O} {v v' : V} (r : Rel K B0 H0 B H σ δ) (e : δ[i]? = some (some o)) (es : σ[i]? = some (some v)) (g : Grow K B0 H0.h B' H') (sb : Same B B')
    (same : ∀ q, ¬ Ft K H v q o → H q ≠ none → H' q = H q ∧ B' q = B q) (new : ∀ o', z = some o' → SR K H0 B' H' v' o' ∧ ∀ q, Ft K H' v' q o' → Ft K H v q o ∨ H q = none) :
    Rel K B0 H0 B' H' (σ.set i (some v')) (δ.set i z) := r.chgK e es g sb (fun q u h1 h2 _ => same q h1 (by rw [h2]; simp)) new
theorem set_same {i : Nat} {v : V} (e : σ[i]? = some (some v)) : σ.set i (some v) = σ := by
  refine List.ext_getElem? fun j => ?_
  by_cases hj : i = j
  · subst hj
    have hl : i < σ.length := by
      by_cases hl : i < σ.length
      · exact hl
      · rw [List.getElem?_eq_none (by simpa using hl)] at e; cases e
    rw [List.getElem?_set_self hl, e]
  · rw [List.getElem?_set_ne hj]
theorem Grow.poke {p : Addr} {ho u : HO} {H0 : Hp} (g : Grow K B0 H0 B H) (h0 : H0 p = none) (hb : B p = none) (hh : H p = some u) (kd : Kind u) : Grow K B0 H0 B (upd H p ho) := by
  have nb : ∀ a o, B a = some o → a ≠ p := fun a o q z => by rw [z, hb] at q; cases q
  refine ⟨g.b, fun a o q nq => ?_, fun a o q => ?_, g.f, fun a ha => ?_, fun P hP => tab_updG (g.t P hP) hh kd, fun τ h => ?_⟩
  rotate_left 3
  · obtain ⟨τ', e, h'⟩ := g.n τ h
    refine ⟨τ', e, h'.grow (Same.refl _) (fun _ _ q => .inl q) fun a o us q => ?_⟩
    have : a ≠ p := fun z => by rw [z, hh] at q; exact kd.noMX (Option.some.inj q)
    rw [upd_ne this]
    exact q
  · have : a ≠ p := fun z => by rw [z, h0] at q; cases q
    rw [upd_ne this]
    exact g.h a o q nq
  · rw [upd_ne (nb a o q)]
    exact g.i a o q
  · have : a ≠ p := fun z => ha (by rw [z]; exact h0)
    rw [upd_ne this]
    exact g.e a ha
theorem Grow.fzp {p : Addr} {ho u : HO} {H0 : Hp} (g : Grow K B0 H0 B H) (h0 : H0 p = none) (hb : B p = none) (hh : H p = some u) (kd : Kind u) (nt : Pln ho) : Grow K B0 H0 (upd B p ho) (upd H p ho) := by
  refine ⟨g.b.trans (same_new hb), fun a o q nq => ?_, fun a o q => ?_, fun a ha => ?_, fun a ha => ?_, fun P hP => tab_updG (g.t P hP) hh kd, fun τ h => ?_⟩
  rotate_left 4
  · obtain ⟨τ', e, h'⟩ := g.n τ h
    refine ⟨τ', e, h'.grow (same_new hb) (upd_new nt) fun a o us q => ?_⟩
    have : a ≠ p := fun z => by rw [z, hh] at q; exact kd.noMX (Option.some.inj q)
    rw [upd_ne this]
    exact q
  · have : a ≠ p := fun z => by rw [z, h0] at q; cases q
    rw [upd_ne this]
    exact g.h a o q nq
  · by_cases hap : a = p
    · subst hap; rw [upd_same] at q ⊢; exact q
    · rw [upd_ne hap] at q ⊢; exact g.i a o q
  · have : a ≠ p := fun z => ha (by rw [z]; exact h0)
    rw [upd_ne this]
    exact g.f a ha
  · have : a ≠ p := fun z => ha (by rw [z]; exact h0)
    rw [upd_ne this]
    exact g.e a ha
theorem Rel.writeG {p : Addr} {o o' : O} {ho : HO} {i : Nat} (r : Rel K B0 H0 B H σ δ) (e : δ[i]? = some (some o)) (ow : o.isOw = true) (es_ : σ[i]? = some (some (.ref p))) (new : B p = none → H0 p = none → SR K H0 B (upd H p ho) (.ref p) o') (small : ∀ q, Ft K (upd H p ho) (.ref p) q o' → q = p := by intro q z; cases z; rfl) :
    Rel K B0 H0 B (upd H p ho) σ (δ.set i (some o')) := by
  obtain ⟨v, h1, hsr⟩ := r.sl i _ e
  rw [es_] at h1
  cases h1
  obtain ⟨p', hv, hf⟩ := SR.root ow hsr
  cases hv
  obtain ⟨h0, hb, u, hh, kd⟩ := hsr.new p hf
  have := r.chg (z := some o') (v' := .ref p) e es_ (r.g.poke h0 hb hh kd) (Same.refl _) (fun q hq _ => ⟨upd_ne fun z => hq (z ▸ hf), rfl⟩) fun o2 z => by
    cases z
    exact ⟨new hb h0, fun q hq => .inl (by rw [small q hq]; exact hf)⟩
  rw [set_same es_] at this
  exact this
theorem Rel.write {p : Addr} {us vs : List V} {ds es : List D} {i : Nat} (r : Rel K B0 H0 B H σ δ) (e : δ[i]? = some (some (.ow ds))) (es_ : σ[i]? = some (some (.ref p))) (q : RpA K B vs es) :
    Rel K B0 H0 B (upd H p (.lst vs)) σ (δ.set i (some (.ow es))) := r.writeG e rfl es_ fun hb h0 => ⟨p, vs, rfl, h0, hb, upd_same, q⟩
theorem Rel.freezeG {o : O} {d : D} {i : Nat} {p : Addr} {ho : HO} {H2 : Hp} (r : Rel K B0 H0 B H σ δ) (e : δ[i]? = some (some o)) (ow : o.isOw = true) (es_ : σ[i]? = some (some (.ref p))) (hH : H2 = upd H p ho) (nt : Pln ho)
    (hd : Rp K (upd B p ho) (.ref p) d) : Same B (upd B p ho) ∧ Rel K B0 H0 (upd B p ho) H2 σ (δ.set i (some (.im d))) := by
  obtain ⟨v, h1, hsr⟩ := r.sl i _ e
  rw [es_] at h1
  cases h1
  obtain ⟨p', hv, hf⟩ := SR.root ow hsr
  cases hv
  obtain ⟨h0, hb, u, hh, kd⟩ := hsr.new p hf
  subst hH
  have sb : Same B (upd B p ho) := same_new hb
  refine ⟨sb, ?_⟩
  have := r.chg (z := some (.im d)) (v' := .ref p) e es_ (r.g.fzp h0 hb hh kd nt) sb (fun q hq _ => ⟨upd_ne fun z => hq (z ▸ hf), upd_ne fun z => hq (z ▸ hf)⟩) fun o2 z => by
    cases z
    exact ⟨hd, fun q hq => hq.elim⟩
  rw [set_same es_] at this
  exact this
theorem upd_self {H : Hp} {p : Addr} {o : HO} (h : H p = some o) : upd H p o = H := by
  funext a
  by_cases ha : a = p
  · subst ha; rw [upd_same, h]
  · rw [upd_ne ha]
theorem Rel.freeze {ds : List D} {i : Nat} (r : Rel K B0 H0 B H σ δ) (e : δ[i]? = some (some (.ow ds))) : ∃ B', Same B B' ∧ Rel K B0 H0 B' H σ (δ.set i (some (.im (.lst ds)))) := by
  obtain ⟨v, h1, p, vs, rfl, h0, hb, hh, q⟩ := r.sl i _ e
  obtain ⟨sb, r'⟩ := r.freezeG (ho := .lst vs) (d := .lst ds) e rfl h1 (upd_self hh).symm (kind_lst _).pln (.lst (SqL.of upd_same) (RpA.mono (same_new hb) q))
  exact ⟨_, sb, r'⟩
open Classical in
noncomputable def fzH (B H : Hp) (F : Addr → Prop) : Hp := fun a => if F a then H a else B a
theorem fzH_same {F : Addr → Prop} (hF : ∀ q, F q → B q = none) : Same B (fzH B H F) := fun a o q => by
  have : ¬ F a := fun z => by rw [hF a z] at q; cases q
  unfold fzH
  rw [if_neg this]
  exact q
theorem Grow.fzF {F : Addr → Prop} {H0 : Hp} (g : Grow K B0 H0 B H) (hF : ∀ q, F q → H0 q = none ∧ B q = none ∧ ∃ u, H q = some u ∧ Kind u) : Grow K B0 H0 (fzH B H F) H := by
  refine ⟨g.b.trans (fzH_same fun q hq => (hF q hq).2.1), g.h, fun a o q => ?_, fun a ha => ?_, g.e, g.t, fun τ h => ?_⟩
  · unfold fzH at q
    split at q
    · exact q
    · exact g.i a o q
  · have : ¬ F a := fun z => ha (hF a z).1
    unfold fzH
    rw [if_neg this]
    exact g.f a ha
  · obtain ⟨τ', e, h'⟩ := g.n τ h
    refine ⟨τ', e, h'.grow (fzH_same fun q hq => (hF q hq).2.1) (fun a o q => ?_) fun a o us q => q⟩
    unfold fzH at q
    split at q
    · rename_i hf
      obtain ⟨_, _, u, hu, k⟩ := hF a hf
      rw [hu] at q
      cases q
      exact .inr k.pln
    · exact .inl q
theorem Rel.freezeT {m : Bool} {k : NK} {ts : List T} {i : Nat} {v : V} (r : Rel K B0 H0 B H σ δ) (e : δ[i]? = some (some (.tr m k ts))) (es : σ[i]? = some (some v)) : Same B (fzH B H (FT K H (.nd k ts) v)) ∧ Rel K B0 H0 (fzH B H (FT K H (.nd k ts) v)) H σ (δ.set i (some (.im (T.nd k ts).d))) := by
  obtain ⟨v', h1, hsr⟩ := r.sl i _ e
  rw [es] at h1
  cases h1
  have hF := hsr.new
  have sb := fzH_same (B := B) (H := H) (F := FT K H (.nd k ts) v) fun q hq => (hF q hq).2.1
  refine ⟨sb, ?_⟩
  have := r.chg (z := some (.im (T.nd k ts).d)) (v' := v) e es (r.g.fzF (F := FT K H (.nd k ts) v) hF) sb (fun q hq _ => ⟨rfl, by unfold fzH; exact if_neg hq⟩) fun o2 z => by
    cases z
    refine ⟨RT.frz _ _ hsr.1 sb fun q hq => ?_, fun q hq => hq.elim⟩
    unfold fzH
    rw [if_pos hq]
  rw [set_same es] at this
  exact this
end
noncomputable def RpX (K : PySem.W.Frag) (B : Hp) (c : Value) (dx : Option Addr) (x : Exn) : Prop :=
  clsV K x.cls = some c ∧ ∃ d us, dx = some d ∧ B d = some (.xd us) ∧ us.map (·.1) = x.fs.map (·.1) ∧ RpA K B (us.map (·.2)) (x.fs.map (·.2))
section
variable (K : PySem.W.Frag)
noncomputable def PostE (B H : Hp) (σ : L2.St) (W : WX) (Q : VK) : Res D → Prop
  | .ok d => ∀ v B' H', Grow K B H B' H' → Rp K B' v d → Q v H'
  | .er x => ∀ c dx B' H', Grow K B H B' H' → RpX K B' c dx x → W c dx σ H'
  | .no => False
noncomputable def PostT (B H : Hp) (σ : L2.St) (W : WX) (Q : Bool → Hp → Prop) : Res Bool → Prop
  | .ok b => ∀ B' H', Grow K B H B' H' → Q b H'
  | .er x => ∀ c dx B' H', Grow K B H B' H' → RpX K B' c dx x → W c dx σ H'
  | .no => False
noncomputable def PostA (B H : Hp) (σ : L2.St) (W : WX) (Q : List V → Hp → Prop) : Res (List D) → Prop
  | .ok ds => ∀ vs B' H', Grow K B H B' H' → RpA K B' vs ds → Q vs H'
  | .er x => ∀ c dx B' H', Grow K B H B' H' → RpX K B' c dx x → W c dx σ H'
  | .no => False
noncomputable def PostF (B H : Hp) (σ : L2.St) (W : WX) (Q : VK) : Res (List D) → Prop
  | .ok ds => ∀ p vs B' H', Grow K B H B' H' → H p = none → B' p = none → H' p = some (.lst vs) → RpA K B' vs ds → Q (.ref p) H'
  | .er x => ∀ c dx B' H', Grow K B H B' H' → RpX K B' c dx x → W c dx σ H'
  | .no => False
noncomputable def SE (W : WX) (t : TE) (f : DS → Res D) : Prop := ∀ B0 H0 δ σ B H (Q : VK), Rel K B0 H0 B H σ δ → PostE K B H σ W Q (f δ) → t σ H Q
noncomputable def ST (W : WX) (t : TT) (f : DS → Res Bool) : Prop := ∀ B0 H0 δ σ B H (Q : Bool → Hp → Prop), Rel K B0 H0 B H σ δ → PostT K B H σ W Q (f δ) → t σ H Q
noncomputable def SA (W : WX) (t : TA) (f : DS → Res (List D)) : Prop := ∀ B0 H0 δ σ B H (Q : List V → Hp → Prop), Rel K B0 H0 B H σ δ → PostA K B H σ W Q (f δ) → t σ H Q
noncomputable def SF (W : WX) (t : TE) (f : DS → Res (List D)) : Prop := ∀ B0 H0 δ σ B H (Q : VK), Rel K B0 H0 B H σ δ → PostF K B H σ W Q (f δ) → t σ H Q
end
inductive Fl where
  | nx (δ : DS)
  | rt (d : D)
  | rf (ds : List D)
  | rn (t : T)
  | ro (d : D) (δ : DS)
  | bk (δ : DS)
  | ct (δ : DS)
  | rs (x : Exn) (δ : DS)
  | no
noncomputable def PostS (K : PySem.W.Frag) (B0 : Hp) (H0 : Org) (B : Hp) (W : WX) (E : Ends) : Fl → Prop
  | .nx δ => ∀ σ B' H', Same B B' → Rel K B0 H0 B' H' σ δ → E.nx σ H'
  | .bk δ => ∀ σ B' H', Same B B' → Rel K B0 H0 B' H' σ δ → E.bk σ H'
  | .ct δ => ∀ σ B' H', Same B B' → Rel K B0 H0 B' H' σ δ → E.ct σ H'
  | .rt d => ∀ v B' H', Same B B' → Grow K B0 H0.h B' H' → Rp K B' v d → E.rt v H'
  | .ro d δ => ∀ v σ B' H', Same B B' → Rel K B0 H0 B' H' σ δ → Rp K B' v d → E.rt v H'
  | .rf ds => ∀ p xs B' H', Same B B' → Grow K B0 H0.h B' H' → H0.h p = none → B' p = none → H' p = some (.lst xs) → RpA K B' xs ds → E.rt (.ref p) H'
  | .rn t => ∀ v B' H', Same B B' → Grow K B0 H0.h B' H' → RT K B' H' t v → (∀ q, FT K H' t v q → H0.h q = none ∧ B' q = none) → E.rt v H'
  | .rs x δ => ∀ c dx σ B' H', Same B B' → Rel K B0 H0 B' H' σ δ → RpX K B' c dx x → W c dx σ H'
  | .no => False
noncomputable def SS (K : PySem.W.Frag) (W : WX) (t : TS) (g : DS → Fl) : Prop := ∀ B0 H0 δ σ B H (E : Ends), Rel K B0 H0 B H σ δ → PostS K B0 H0 B W E (g δ) → t E σ H
structure CE (X : Cx) (W : WX) (e : Expr) (t : TE) (f : DS → Res D) : Prop where
  pe : PE X e t
  se : SE X.K W t f
structure CF (X : Cx) (W : WX) (e : Expr) (t : TE) (f : DS → Res (List D)) : Prop where
  pe : PE X e t
  sf : SF X.K W t f
structure CT (X : Cx) (W : WX) (e : Expr) (t : TT) (f : DS → Res Bool) : Prop where
  pt : PT X e t
  st : ST X.K W t f
structure CW (X : Cx) (W : WX) (e : Expr) (t : TT) (f : DS → Res Bool) : Prop where
  pw : PW X e t
  st : ST X.K W t f
structure CA (X : Cx) (W : WX) (es : List Expr) (t : TA) (f : DS → Res (List D)) : Prop where
  pa : PA X es t
  sa : SA X.K W t f
structure CS (X : Cx) (W : WX) (s : Stmt) (t : TS) (g : DS → Fl) : Prop where
  ps : PS X s t
  ss : SS X.K W t g
structure CSs (X : Cx) (W : WX) (s : List Stmt) (t : TS) (g : DS → Fl) : Prop where
  ps : PSs X s t
  ss : SS X.K W t g
theorem CW.ct {X : Cx} {W : WX} {e : Expr} {t : TT} {f : DS → Res Bool} (h : CW X W e t f) : CT X W e t f := ⟨h.pw.pt, h.st⟩
end DV
namespace DV
open PySem L2
mutual
noncomputable def D.pu : D → Bool
  | .v _ => true
  | .tup xs => D.puA xs
  | _ => false
noncomputable def D.puA : List D → Bool
  | [] => true
  | d :: ds => d.pu && D.puA ds
end
mutual
theorem pu_nkD : ∀ k : NestedKey, (nkD k).pu = true
  | .none => by rw [nkD, D.pu]
  | .num _ => by rw [nkD, D.pu]
  | .text _ => by rw [nkD, D.pu]
  | .tup ks => by rw [nkD, D.pu]; exact pu_nkDs ks
theorem pu_nkDs : ∀ ks : List NestedKey, D.puA (nkDs ks) = true
  | [] => by rw [nkDs, D.puA]
  | k :: ks => by rw [nkDs, D.puA, pu_nkD k, pu_nkDs ks]; rfl
end
theorem puA_of : ∀ {ds : List D}, (∀ (i : Nat) (d : D), ds[i]? = some d → d.pu = true) → D.puA ds = true
  | [], _ => by rw [D.puA]
  | d :: ds, h => by
    rw [D.puA, h 0 d (by simp), puA_of fun i e he => h (i + 1) e (by simpa using he)]
    rfl
section
variable {K : PySem.W.Frag} {B B' H H' : Hp}
mutual
theorem Rp.pure (e : ∀ a u, TK u → B a = some u → B' a = some u) : ∀ {v : V} {d : D}, Rp K B v d → d.pu = true → Rp K B' v d
  | _, _, .v x, _ => .v x
  | _, _, .lst _ _, hd => by rw [D.pu] at hd; cases hd; all_goals (intros; rename_i z; cases z)
  | _, _, .tup h r, hd => by
    rw [D.pu] at hd
    refine .tup ?_ (RpA.pure e r hd)
    rcases h with (h | ⟨o, h⟩) | h
    · exact .inl (.inl (e _ _ (.inl ⟨_, rfl⟩) h))
    · exact .inl (.inr ⟨o, e _ _ (.inr ⟨_, _, rfl⟩) h⟩)
    · exact .inr h
  | _, _, .dct _ _, hd => by rw [D.pu] at hd; cases hd; all_goals (intros; rename_i z; cases z)
  | _, _, .dcT _ _ _ _ _ _ _, hd => by rw [D.pu] at hd; cases hd; all_goals (intros; rename_i z; cases z)
  | _, _, .ins _ _ _ _, hd => by rw [D.pu] at hd; cases hd; all_goals (intros; rename_i z; cases z)
  | _, _, .ptp _ _, hd => by rw [D.pu] at hd; cases hd; all_goals (intros; rename_i z; cases z)
  | _, _, .dlk _ _, hd => by rw [D.pu] at hd; cases hd; all_goals (intros; rename_i z; cases z)
  | _, _, .wor _ _ _ _, hd => by rw [D.pu] at hd; cases hd; all_goals (intros; rename_i z; cases z)
theorem RpA.pure (e : ∀ a u, TK u → B a = some u → B' a = some u) : ∀ {vs : List V} {ds : List D}, RpA K B vs ds → D.puA ds = true → RpA K B' vs ds
  | _, _, .nil, _ => .nil
  | _, _, .cons h r, hd => by
    rw [D.puA, Bool.and_eq_true] at hd
    exact .cons (Rp.pure e h hd.1) (RpA.pure e r hd.2)
end
theorem EntOk.pu {τ : D × D} {us : List (Int × Addr × V)} {ks : List NestedKey} {ds : List D} (h : EntOk K B τ us ks ds) : D.puA ds = true := puA_of fun i d hd => by
  have hl : ks.length = ds.length := by
    have h1 := congrArg List.length h.hs
    have h2 := h.rv.length
    simp only [List.length_map] at h1 h2
    omega
  have hi : i < ks.length := by rw [hl]; exact (List.getElem?_eq_some_iff.mp hd).1
  obtain ⟨d', h1, _, _, _, _, _, _, _, _, rfl⟩ := h.fr i ks[i] (List.getElem?_eq_getElem hi)
  rw [hd] at h1
  cases h1
  rfl
theorem EntOk.pure {τ : D × D} {us : List (Int × Addr × V)} {ks : List NestedKey} {ds : List D} (e : ∀ a u, TK u → B a = some u → B' a = some u) (h : EntOk K B τ us ks ds) : EntOk K B' τ us ks ds := ⟨h.hs, h.nd, h.ok, h.rk.pure e (pu_nkDs ks), h.rv.pure e h.pu, h.fr, h.fk⟩
noncomputable def dropW : Option HO → Option HO
  | some (.frz _ (.ins _ _ _)) => none
  | x => x
theorem dropW_some {x : Option HO} {u : HO} (h : dropW x = some u) : x = some u ∧ ∀ b C dx fs, u ≠ .frz b (.ins C dx fs) := by
  unfold dropW at h
  split at h
  · cases h
  · rename_i hn
    exact ⟨h, fun b C dx fs z => hn b C dx fs (by rw [h, z])⟩
theorem dropW_keep {u : HO} (h : ∀ b C dx fs, u ≠ .frz b (.ins C dx fs)) : dropW (some u) = some u := by
  unfold dropW
  split
  · rename_i e; cases e; exact absurd rfl (h _ _ _ _)
  · rfl
theorem TK.noW {u : HO} (h : TK u) : ∀ b C dx fs, u ≠ .frz b (.ins C dx fs) := fun b C dx fs z => by
  rcases h with ⟨_, rfl⟩ | ⟨_, _, rfl⟩ <;> cases z
theorem TBt.unlend {τ τ2 : Addr → D × D} {B2 H2 B3 H3 : Hp} (h : TBt K τ B H) (h2 : TBt K τ2 B2 H2) (e2 : ∀ x, H x ≠ none → τ2 x = τ x) (i : Same B H) (s2 : Same B B2) (s3 : Same B B3) (nt : NoT B3) (old : ∀ x o C dx fs, B3 x = some (.frz o (.ins C dx fs)) → B x = some (.frz o (.ins C dx fs)))
    (keep : ∀ a u, TK u → B2 a = some u → B3 a = some u) (hx : ∀ a o us, H2 a = some (MX a o us) → H3 a = some (MX a o us)) : TBt K τ2 B3 H3 := ⟨nt, fun x o C dx fs q => by
  have q0 := old x o C dx fs q
  obtain ⟨tv, av, a, ob, us, ks, ds, m⟩ := h.mo x o C dx fs q0
  obtain ⟨tv2, av2, a2, ob2, us2, ks2, ds2, m2⟩ := h2.mo x o C dx fs (s2 _ _ q0)
  have ef := m.fs.symm.trans m2.fs
  simp only [List.cons.injEq, Prod.mk.injEq, true_and, V.ref.injEq, and_true] at ef
  obtain ⟨rfl, rfl, rfl⟩ := ef
  have et : τ2 a = τ a := e2 a (by rw [m.hm]; simp)
  exact ⟨tv, av, a, ob2, us2, ks2, ds2, m2.fs, s3 _ _ m.dx, hx _ _ _ m2.hm, m2.ox, m2.nc, by rw [et]; exact m.rt.mono s3, by rw [et]; exact m.ra.mono s3, m2.en.pure keep⟩⟩
open Classical in
noncomputable def unB (B H B2 : Hp) : Hp := fun a => if H a = none then dropW (B2 a) else B a
theorem Grow.unlendT {B2 H2 : Hp} (i : Same B H) (nB : NoT B) (sb : Same B B') (new : ∀ a u, B' a = some u → B a = some u ∨ (H a = some u ∧ Kind u ∧ ¬ TK u)) (g : Grow K B' H B2 H2) :
    Grow K B H (unB B H B2) H2 ∧ (∀ a u, TK u → B2 a = some u → unB B H B2 a = some u) ∧ ∀ a u, (∀ b C dx fs, u ≠ .frz b (.ins C dx fs)) → (B' a = some u → B a = some u) → B2 a = some u → unB B H B2 a = some u := by
  have s3 : Same B (unB B H B2) := fun a o q => by
    unfold unB
    rw [if_neg (by rw [i a o q]; simp)]
    exact q
  have keep : ∀ a u, (∀ b C dx fs, u ≠ .frz b (.ins C dx fs)) → (B' a = some u → B a = some u) → B2 a = some u → unB B H B2 a = some u := fun a u hu hb q => by
    unfold unB
    by_cases ha : H a = none
    · rw [if_pos ha, q, dropW_keep hu]
    · rw [if_neg ha]
      rw [g.f a ha] at q
      exact hb q
  have keepT : ∀ a u, TK u → B2 a = some u → unB B H B2 a = some u := fun a u hu q => keep a u hu.noW (fun z => (new a u z).elim id fun z => absurd hu z.2.2) q
  refine ⟨⟨s3, g.h, fun a o q => ?_, fun a ha => ?_, g.e, g.t, fun τ h => ?_⟩, keepT, keep⟩
  · unfold unB at q
    split at q
    · exact g.i a o (dropW_some q).1
    · exact g.h a o (i a o q) (nB a o q)
  · unfold unB
    rw [if_neg ha]
  · have h' : TBt K τ B' H := h.grow sb (fun a o q => (new a o q).imp id fun z => z.2.1.pln) fun _ _ _ q => q
    obtain ⟨τ2, e2, h2⟩ := g.n τ h'
    refine ⟨τ2, e2, h.unlend h2 e2 i (sb.trans g.b) s3 (fun a o q => ?_) (fun x o C dx fs q => ?_) keepT fun _ _ _ q => q⟩
    · unfold unB at q
      split at q
      · exact h2.nt a o (dropW_some q).1
      · exact nB a o q
    · unfold unB at q
      split at q
      · exact absurd rfl ((dropW_some q).2 o C dx fs)
      · exact q
theorem TB.nt (h : TB K B H) : NoT B := h.elim fun _ h => h.nt
theorem TBt.poke {τ : Addr → D × D} {p : Addr} {u ho : HO} (h : TBt K τ B H) (hh : H p = some u) (nu : ∀ b c w, u ≠ MX b c w) : TBt K τ B (upd H p ho) := h.grow (Same.refl _) (fun _ _ q => .inl q) fun a o us q => by
  have : a ≠ p := fun z => by rw [z, hh] at q; exact nu _ _ _ (Option.some.inj q)
  rw [upd_ne this]
  exact q
theorem Grow.nu {p : Addr} {o : HO} (g : Grow K B H B' H') (hb : B' p = none) (po : Pln o) : ∀ τ, TBt K τ B H → ∃ τ', (∀ x, H x ≠ none → τ' x = τ x) ∧ TBt K τ' (upd B' p o) H' := fun τ h => by
  obtain ⟨τ', e, h'⟩ := g.n τ h
  exact ⟨τ', e, h'.grow (same_new hb) (upd_new po) fun _ _ _ q => q⟩
theorem Grow.np {p : Addr} {ho u : HO} (g : Grow K B H B' H') (hh : H' p = some u) (nu : ∀ b c w, u ≠ MX b c w) : ∀ τ, TBt K τ B H → ∃ τ', (∀ x, H x ≠ none → τ' x = τ x) ∧ TBt K τ' B' (upd H' p ho) := fun τ h => by
  obtain ⟨τ', e, h'⟩ := g.n τ h
  exact ⟨τ', e, h'.poke hh nu⟩
end
end DV
namespace DV
open PySem L2
section
variable {X : Cx} {W : WX} {K : PySem.W.Frag} {B H B0 : Hp} {H0 : Org} {σ : L2.St} {δ : DS} {Q : VK}
theorem postE_mono {B1 H1 : Hp} {Q : VK} {r : Res D} (g : Grow K B H B1 H1) (h : PostE K B H σ W Q r) : PostE K B1 H1 σ W Q r := by
  cases r with
  | ok d => exact fun v B' H' g' rp => h v B' H' (g.trans g') rp
  | er x => exact fun c dx B' H' g' rp => h c dx B' H' (g.trans g') rp
  | no => exact h
noncomputable def cVar (i : Nat) : DS → Res D := fun δ => match δ[i]? with
  | some (some (.im d)) => .ok d
  | _ => .no
theorem se_var (i : Nat) : SE K W (tVar i) (cVar i) := fun B0 H0 δ σ B H Q r h => by
  unfold cVar at h
  cases e : δ[i]? with
  | none => rw [e] at h; exact h.elim
  | some o =>
    cases o with
    | none => rw [e] at h; exact h.elim
    | some o =>
      cases o with
      | ow ds => rw [e] at h; exact h.elim
      | od ds => rw [e] at h; exact h.elim
      | tr _ _ _ => rw [e] at h; exact h.elim
      | im d =>
        rw [e] at h
        obtain ⟨v, h1, h2⟩ := r.get e
        exact ⟨v, h1, h v B H (Grow.refl r.g.i) h2⟩
theorem ce_var (i : Nat) {x : Str} {pos : Pos} (hN : X.N[i]? = some x := by rfl) (hv : Vis X.env.scope x := by first | exact Or.inl rfl | exact Or.inr (Or.inl rfl) | exact Or.inr (Or.inr rfl)) (hd : (x == ("__debug__" : Str)) = false := by decide)
    (hcd : (x == ("__classdict__" : Str)) = false := by decide) : CE X W (.Name x pos) (tVar i) (cVar i) := ⟨pe_var hN hv hd hcd, se_var i⟩
noncomputable def cC (d : D) : DS → Res D := fun _ => .ok d
theorem se_c (v : V) : SE K W (tC v) (cC (.v v)) := fun B0 H0 δ σ B H Q r h => h v B H (Grow.refl r.g.i) (.v v)
theorem ce_int {i : Int} {j pos} : CE X W (.Constant (.int i) j pos) (tC (.int i)) (cC (.int i)) := ⟨pe_int, se_c _⟩
theorem ce_bl {b : Bool} {j pos} : CE X W (.Constant (.bool b) j pos) (tC (.bl b)) (cC (.bl b)) := ⟨pe_bl, se_c _⟩
theorem ce_non {j pos} : CE X W (.Constant .none j pos) (tC .non) (cC .non) := ⟨pe_non, se_c _⟩
theorem ce_str {x : Str} {j pos} : CE X W (.Constant (.str x) j pos) (tC (.str x)) (cC (.str x)) := ⟨pe_str, se_c _⟩
theorem ce_glob {x : Str} {v : V} {u : Value} {d : D} {pos : Pos} (hg : Gl X x) (hm : X.mg x = some u) (r : RelV v u) (hk : ∀ B, Rp X.K B v d) (hd : (x == ("__debug__" : Str)) = false := by decide) : CE X W (.Name x pos) (tC v) (cC d) :=
  ⟨pe_glob hg hm r hd, fun B0 H0 δ σ B H Q r h => h v B H (Grow.refl r.g.i) (hk B)⟩
theorem ce_bltn {x : Str} {v : V} {u : Value} {pos : Pos} (hg : Gl X x) (hm : X.mg x = none) (hv : bootBuiltins x = some u) (r : RelV v u) (hn : x ≠ "__name__" := by decide) (hd : (x == ("__debug__" : Str)) = false := by decide) : CE X W (.Name x pos) (tC v) (cC (.v v)) :=
  ⟨pe_bltn hg hm hv r hn hd, se_c _⟩
noncomputable def PostV (K : PySem.W.Frag) (B H : Hp) (Q : VK) : Res D → Prop
  | .ok d => ∀ v B' H', Grow K B H B' H' → Rp K B' v d → Q v H'
  | _ => False
noncomputable def RO (K : PySem.W.Frag) (r : R2) (g : D → D → Res D) : Prop := ∀ x y d e B H Q, Same B H → Rp K B x d → Rp K B y e → PostV K B H Q (g d e) → r x y H Q
noncomputable def RU (K : PySem.W.Frag) (r : V → Hp → VK → Prop) (g : D → Res D) : Prop := ∀ x d B H Q, Same B H → Rp K B x d → PostV K B H Q (g d) → r x H Q
noncomputable def cBin (g : D → D → Res D) (fa fb : DS → Res D) : DS → Res D := fun δ => (fa δ).bind fun x => (fb δ).bind fun y => g x y
noncomputable def cUn (g : D → Res D) (fa : DS → Res D) : DS → Res D := fun δ => (fa δ).bind g
noncomputable def Calm2 (g : D → D → Res D) : Prop := ∀ d e x, g d e ≠ .er x
theorem postV_of {r : Res D} (h : PostE K B H σ W Q r) (hc : ∀ x, r ≠ .er x) : PostV K B H Q r := by
  cases r with
  | ok d => exact h
  | er x => exact absurd rfl (hc x)
  | no => exact h
theorem se_op {ta tb : TE} {fa fb : DS → Res D} {r : R2} {g : D → D → Res D} (ho : RO K r g) (hc : Calm2 g) (ha : SE K W ta fa) (hb : SE K W tb fb) : SE K W (tOp r ta tb) (cBin g fa fb) := fun B0 H0 δ σ B H Q rel h => by
  unfold cBin at h
  refine ha B0 H0 δ σ B H _ rel ?_
  cases e : fa δ with
  | no => rw [e] at h; exact h
  | er x => rw [e] at h; exact h
  | ok d =>
    rw [e, Res.bind_ok] at h
    intro v B1 H1 g1 r1
    refine hb B0 H0 δ σ B1 H1 _ (rel.mono g1) ?_
    cases e2 : fb δ with
    | no => rw [e2] at h; exact h
    | er x => rw [e2] at h; exact fun c dx B' H' g' rp => h c dx B' H' (g1.trans g') rp
    | ok d2 =>
      rw [e2, Res.bind_ok] at h
      intro u B2 H2 g2 r2
      exact ho v u d d2 B2 H2 Q g2.i (Rp.mono g2.b r1) r2 (postV_of (postE_mono (g1.trans g2) h) (hc d d2))
theorem ce_op {a b : Expr} {op : Operator} {pos : Pos} {ta tb : TE} {fa fb : DS → Res D} {r : R2} {g : D → D → Res D} (ho : OpR X (binaryOp op) r) (hr : RO X.K r g) (hc : Calm2 g) (ha : CE X W a ta fa) (hb : CE X W b tb fb) : CE X W (.BinOp a op b pos) (tOp r ta tb) (cBin g fa fb) :=
  ⟨pe_op ho ha.pe hb.pe, se_op hr hc ha.se hb.se⟩
theorem ce_cmp {a b : Expr} {op : CmpOp} {pos : Pos} {ta tb : TE} {fa fb : DS → Res D} {r : R2} {g : D → D → Res D} (ho : OpR X (compareOp op) r) (hr : RO X.K r g) (hc : Calm2 g) (ha : CE X W a ta fa) (hb : CE X W b tb fb) (hm : behindInMarks op b = false) : CE X W (.Compare a [op] [b] pos) (tOp r ta tb) (cBin g fa fb) :=
  ⟨pe_cmpR ho ha.pe hb.pe hm, se_op hr hc ha.se hb.se⟩
theorem se_un {ta : TE} {fa : DS → Res D} {r : V → Hp → VK → Prop} {g : D → Res D} (ho : RU K r g) (hc : ∀ d x, g d ≠ .er x) (ha : SE K W ta fa) : SE K W (tUn r ta) (cUn g fa) := fun B0 H0 δ σ B H Q rel h => by
  unfold cUn at h
  refine ha B0 H0 δ σ B H _ rel ?_
  cases e : fa δ with
  | no => rw [e] at h; exact h
  | er x => rw [e] at h; exact h
  | ok d =>
    rw [e, Res.bind_ok] at h
    intro v B1 H1 g1 r1
    exact ho v d B1 H1 Q g1.i r1 (postV_of (postE_mono g1 h) (hc d))
theorem ce_un {a : Expr} {op : UnaryOp} {pos : Pos} {ta : TE} {fa : DS → Res D} {r : V → Hp → VK → Prop} {g : D → Res D} (ho : UnR X (unaryOp op) r) (hr : RU X.K r g) (hc : ∀ d x, g d ≠ .er x) (ha : CE X W a ta fa) : CE X W (.UnaryOp op a pos) (tUn r ta) (cUn g fa) :=
  ⟨pe_un ho ha.pe, se_un hr hc ha.se⟩
end
section
variable {X : Cx} {W : WX} {K : PySem.W.Frag}
theorem ro_I {C : Int → Int → Prop} {gv : Int → Int → V} {g : D → D → Res D} (hg : ∀ d e z, g d e = .ok z → ∃ i j, d = .int i ∧ e = .int j ∧ C i j ∧ z = .v (gv i j)) : RO K (rI C gv) g := fun x y d e B H Q i rx ry h => by
  cases q : g d e with
  | ok z =>
    rw [q] at h
    obtain ⟨i', j, rfl, rfl, hc, rfl⟩ := hg d e z q
    cases rx
    cases ry
    exact ⟨i', j, rfl, rfl, hc, h _ B H (Grow.refl i) (.v _)⟩
  | er x => rw [q] at h; exact h.elim
  | no => rw [q] at h; exact h.elim
theorem ro_I0 {gv : Int → Int → V} {g : D → D → Res D} (hg : ∀ d e z, g d e = .ok z → ∃ i j, d = .int i ∧ e = .int j ∧ z = .v (gv i j)) : RO K (rI0 gv) g := fun x y d e B H Q i rx ry h => by
  cases q : g d e with
  | ok z =>
    rw [q] at h
    obtain ⟨i', j, rfl, rfl, rfl⟩ := hg d e z q
    cases rx
    cases ry
    exact ⟨i', j, rfl, rfl, h _ B H (Grow.refl i) (.v _)⟩
  | er x => rw [q] at h; exact h.elim
  | no => rw [q] at h; exact h.elim
noncomputable def oSub : D → D → Res D
  | .v (.int i), .v (.int j) => .ok (.int (i - j))
  | _, _ => .no
noncomputable def oMod : D → D → Res D
  | .v (.int i), .v (.int j) => if j ≠ 0 then .ok (.int (i.fmod j)) else .no
  | _, _ => .no
noncomputable def oFdiv : D → D → Res D
  | .v (.int i), .v (.int j) => if j ≠ 0 ∧ j.natAbs.log2 < 9000 then .ok (.int (i.fdiv j)) else .no
  | _, _ => .no
noncomputable def oPow : D → D → Res D
  | .v (.int i), .v (.int j) => if 0 ≤ j ∧ j.natAbs ≤ 1000000 ∧ i.natAbs < 18446744073709551616 then .ok (.int (i ^ j.toNat)) else .no
  | _, _ => .no
noncomputable def oAdd : D → D → Res D
  | .v (.int i), .v (.int j) => .ok (.int (i + j))
  | .v (.str i), .v (.str j) => if i.length + j.length ≤ sizeLine then .ok (.str (i ++ j)) else .no
  | .lst a, .lst b => if a.length + b.length ≤ sizeLine then .ok (.lst (a ++ b)) else .no
  | .tup a, .tup b => if a.length + b.length ≤ sizeLine then .ok (.tup (a ++ b)) else .no
  | _, _ => .no
theorem op_catL : OpR X (binaryOp .Add) (fun x y H Q => ∃ l b xs zs, x = .ref l ∧ y = .ref b ∧ SqL X.K H l xs ∧ SqL X.K H b zs ∧ xs.length + zs.length ≤ sizeLine ∧ ∀ p, H p = none → Q (.ref p) (upd H p (.lst (xs ++ zs)))) := by
  intro pins s σ H x y v u Q I rx ry h
  obtain ⟨l, b, xs, zs, rfl, rfl, hH, hB, hz, q⟩ := h
  cases rx
  cases ry
  obtain ⟨its, r, ⟨⟨cls, dd, data, sl⟩, n, ho, hc, hdd, hd⟩, z1⟩ := I.list hH
  obtain ⟨its2, r2, ⟨⟨cls2, dd2, data2, sl2⟩, n2, ho2, hc2, hdd2, hd2⟩, z2⟩ := I.list hB
  simp only at hc hd hc2 hd2
  subst hc hd hc2 hd2
  have hlen := r.length
  have hlen2 := r2.length
  have e : its.toArray ++ its2.toArray = (its ++ its2).toArray := by simp
  refine PySem.concat_meets ⟨_, ho, rfl⟩ ⟨_, ho2, rfl⟩ PySem.noFill_list_add PySem.seq_list_add PySem.F.slot_list_add PySem.F.entry_list_add (PySem.F.args_list_add_2 _ _) (PyProof.Rows.list_addW l b its.toArray its2.toArray n n2 dd dd2 sl sl2 (by simpa [← hlen, ← hlen2] using hz)) ⟨ho, ho2, ?_⟩
  rw [e]
  exact ⟨.ref _, _, I.lnew (t' := s.toks) (r.append r2) (by rw [List.length_append]; omega), rfl, q _ I.fresh⟩
noncomputable def rAdd (K : PySem.W.Frag) : R2 := fun x y H Q =>
  (∃ i j, x = V.int i ∧ y = V.int j ∧ Q (.int (i + j)) H) ∨
  (∃ i j, x = V.str i ∧ y = V.str j ∧ i.length + j.length ≤ sizeLine ∧ Q (.str (i ++ j)) H) ∨
  (∃ l b xs zs, x = .ref l ∧ y = .ref b ∧ SqL K H l xs ∧ SqL K H b zs ∧ xs.length + zs.length ≤ sizeLine ∧ ∀ p, H p = none → Q (.ref p) (upd H p (.lst (xs ++ zs)))) ∨ rCatA K x y H Q
theorem op_addA : OpR X (binaryOp .Add) (rAdd X.K) := OpR.or op_add (OpR.or op_add_str (OpR.or op_catL op_catA))
theorem ro_add : RO K (rAdd K) oAdd := fun x y d e B H Q i rx ry h => by
  unfold oAdd at h
  split at h
  · cases rx; cases ry
    exact .inl ⟨_, _, rfl, rfl, h _ B H (Grow.refl i) (.v _)⟩
  · split at h
    · rename_i hz
      cases rx; cases ry
      exact .inr (.inl ⟨_, _, rfl, rfl, hz, h _ B H (Grow.refl i) (.v _)⟩)
    · exact h.elim
  · split at h
    · rename_i hz
      cases rx with
      | lst h1 q1 =>
        cases ry with
        | lst h2 q2 =>
          have l1 := q1.length
          have l2 := q2.length
          refine .inr (.inr (.inl ⟨_, _, _, _, rfl, rfl, i.seq h1, i.seq h2, by omega, fun p hp => ?_⟩))
          exact h _ _ _ (Grow.new i hp) (.lst (SqL.of upd_same) ((q1.append q2).mono (Grow.new (K := K) i hp).b))
    · exact h.elim
  · split at h
    · rename_i hz
      cases rx with
      | tup h1 q1 =>
        cases ry with
        | tup h2 q2 =>
          have l1 := q1.length
          have l2 := q2.length
          refine .inr (.inr (.inr ⟨_, _, _, _, rfl, rfl, sqT_mono i h1, sqT_mono i h2, by omega, fun e0 => ?_, fun _ e0 => ?_, fun _ _ p hp => ?_⟩))
          · subst e0
            cases q1
            exact h _ B H (Grow.refl i) (.tup h2 q2)
          · subst e0
            cases q2
            rw [List.append_nil] at h
            exact h _ B H (Grow.refl i) (.tup h1 q1)
          · exact h _ _ _ (Grow.new i hp) (.tup (SqT.of upd_same) ((q1.append q2).mono (Grow.new (K := K) i hp).b))
    · exact h.elim
  · exact h.elim
theorem cm_add : Calm2 oAdd := fun d e x => by unfold oAdd; split <;> (try split) <;> simp
theorem ro_sub : RO K (rI0 fun i j => .int (i - j)) oSub := ro_I0 fun d e z h => by
  unfold oSub at h
  split at h
  · cases h; exact ⟨_, _, rfl, rfl, rfl⟩
  · cases h
theorem cm_sub : Calm2 oSub := fun d e x => by unfold oSub; split <;> simp
theorem ro_mod : RO K (rI (fun _ j => j ≠ 0) fun i j => .int (i.fmod j)) oMod := ro_I fun d e z h => by
  unfold oMod at h
  split at h
  · split at h
    · rename_i hj
      cases h; exact ⟨_, _, rfl, rfl, hj, rfl⟩
    · cases h
  · cases h
theorem cm_mod : Calm2 oMod := fun d e x => by unfold oMod; split <;> (try split) <;> simp
noncomputable def CFd (_ j : Int) : Prop := j ≠ 0 ∧ j.natAbs.log2 < 9000
theorem op_fdA : OpR X (binaryOp .FloorDiv) (rI CFd fun i j => .int (i.fdiv j)) := opI fun i j _ _ _ _ _ hc q => PyProof.Rows.floordiv_int hc.1 q (.inl (PyProof.noPylong_of_log2 hc.2))
theorem ro_fdiv : RO K (rI CFd fun i j => .int (i.fdiv j)) oFdiv := ro_I fun d e z h => by
  unfold oFdiv at h
  split at h
  · split at h
    · rename_i hj
      cases h; exact ⟨_, _, rfl, rfl, hj, rfl⟩
    · cases h
  · cases h
theorem cm_fdiv : Calm2 oFdiv := fun d e x => by unfold oFdiv; split <;> (try split) <;> simp
theorem ro_pow : RO K (rI CPow fun i j => .int (i ^ j.toNat)) oPow := ro_I fun d e z h => by
  unfold oPow at h
  split at h
  · split at h
    · rename_i hj
      cases h; exact ⟨_, _, rfl, rfl, ⟨hj.1, by omega, by omega⟩, rfl⟩
    · cases h
  · cases h
theorem cm_pow : Calm2 oPow := fun d e x => by unfold oPow; split <;> (try split) <;> simp
noncomputable def oMul2 : D → D → Res D
  | .v (.int i), .v (.int j) => if i.natAbs.log2 + j.natAbs.log2 < 1000000 then .ok (.int (i * j)) else .no
  | .tup a, .v (.int k) => if a.length ≠ 0 ∧ 2 ≤ k ∧ k ≤ 1000 ∧ a.length ≤ 1000 then .ok (.tup (List.replicate k.toNat a).flatten) else .no
  | _, _ => .no
noncomputable def rMulA (K : PySem.W.Frag) : R2 := fun x y H Q => rI CMulW (fun i j => .int (i * j)) x y H Q ∨ rRepT K x y H Q
theorem op_mulA : OpR X (binaryOp .Mult) (rMulA X.K) := OpR.or op_mulW op_repT
theorem RpA.flat {B : Hp} {vs : List V} {ds : List D} (r : RpA K B vs ds) : ∀ n : Nat, RpA K B (List.replicate n vs).flatten (List.replicate n ds).flatten
  | 0 => .nil
  | n + 1 => by
    rw [List.replicate_succ, List.replicate_succ, List.flatten_cons, List.flatten_cons]
    exact r.append (RpA.flat r n)
theorem ro_mul : RO K (rMulA K) oMul2 := fun x y d e B H Q i rx ry h => by
  unfold oMul2 at h
  split at h
  · split at h
    · rename_i hz
      cases rx; cases ry
      exact .inl ⟨_, _, rfl, rfl, hz, h _ B H (Grow.refl i) (.v _)⟩
    · exact h.elim
  · split at h
    · rename_i hz
      cases ry
      cases rx with
      | tup h1 q1 =>
        have l1 := q1.length
        refine .inr ⟨_, _, _, rfl, rfl, sqT_mono i h1, ?_, hz.2.1, hz.2.2.1, by omega, fun p hp => ?_⟩
        · intro z
          rw [z] at l1
          exact hz.1 (by rw [← l1]; rfl)
        · exact h _ _ _ (Grow.new i hp) (.tup (SqT.of upd_same) ((q1.flat _).mono (Grow.new (K := K) i hp).b))
    · exact h.elim
  · exact h.elim
theorem cm_mul : Calm2 oMul2 := fun d e x => by unfold oMul2; split <;> (try split) <;> simp
noncomputable def oNeg : D → Res D
  | .v (.int i) => .ok (.int (-i))
  | _ => .no
theorem ru_neg : RU K (rU fun i => .int (-i)) oNeg := fun x d B H Q i rx h => by
  unfold oNeg at h
  split at h
  · cases rx
    exact ⟨_, rfl, h _ B H (Grow.refl i) (.v _)⟩
  · exact h.elim
theorem ce_neg {a : Expr} {pos : Pos} {ta : TE} {fa : DS → Res D} (ha : CE X W a ta fa) : CE X W (.UnaryOp .USub a pos) (tUn (rU fun i => .int (-i)) ta) (cUn oNeg fa) := ce_un un_neg ru_neg (fun d x => by unfold oNeg; split <;> simp) ha
noncomputable def oI (p : Int → Int → Bool) : D → D → Res D
  | .v (.int i), .v (.int j) => .ok (.bl (p i j))
  | _, _ => .no
theorem ro_cI {p : Int → Int → Bool} : RO K (rI0 fun i j => .bl (p i j)) (oI p) := ro_I0 fun d e z h => by
  unfold oI at h
  split at h
  · cases h; exact ⟨_, _, rfl, rfl, rfl⟩
  · cases h
theorem cm_cI {p : Int → Int → Bool} : Calm2 (oI p) := fun d e x => by unfold oI; split <;> simp
noncomputable abbrev oLt := oI fun i j => decide (i < j)
noncomputable abbrev oLe := oI fun i j => decide (i ≤ j)
noncomputable abbrev oGt := oI fun i j => decide (j < i)
section
variable {a b : Expr} {pos : Pos} {ta tb : TE} {fa fb : DS → Res D}
end
noncomputable def cChain (g g' : D → D → Res D) (fa fb fc : DS → Res D) : DS → Res D := fun δ => (fa δ).bind fun x => (fb δ).bind fun y => (g x y).bind fun k => match k with
  | .v (.bl true) => (fc δ).bind fun z => g' y z
  | .v (.bl false) => .ok (.bl false)
  | _ => .no
theorem se_chain {ta tb tc : TE} {fa fb fc : DS → Res D} {r r' : R2} {g g' : D → D → Res D} (ho : RO K r g) (hc : Calm2 g) (ho' : RO K r' g') (hc' : Calm2 g') (ha : SE K W ta fa) (hb : SE K W tb fb) (hcc : SE K W tc fc) : SE K W (tChain r r' ta tb tc) (cChain g g' fa fb fc) := fun B0 H0 δ σ B H Q rel h => by
  unfold cChain at h
  refine ha B0 H0 δ σ B H _ rel ?_
  cases e : fa δ with
  | no => rw [e] at h; exact h
  | er x => rw [e] at h; exact h
  | ok d =>
    rw [e, Res.bind_ok] at h
    intro v B1 H1 g1 r1
    refine hb B0 H0 δ σ B1 H1 _ (rel.mono g1) ?_
    cases e2 : fb δ with
    | no => rw [e2] at h; exact h
    | er x => rw [e2] at h; exact fun c dx B' H' g' rp => h c dx B' H' (g1.trans g') rp
    | ok d2 =>
      rw [e2, Res.bind_ok] at h
      intro u B2 H2 g2 r2
      refine ho v u d d2 B2 H2 _ g2.i (Rp.mono g2.b r1) r2 ?_
      cases e3 : g d d2 with
      | no => rw [e3] at h; exact h
      | er x => exact absurd e3 (hc d d2 x)
      | ok k =>
        rw [e3, Res.bind_ok] at h
        intro kv B3 H3 g3 r3
        split at h
        · cases r3
          refine ⟨true, rfl, ?_⟩
          rw [if_pos rfl]
          refine hcc B0 H0 δ σ B3 H3 _ (((rel.mono g1).mono g2).mono g3) ?_
          cases e4 : fc δ with
          | no => rw [e4] at h; exact h
          | er x => rw [e4] at h; exact fun c dx B' H' g' rp => h c dx B' H' (((g1.trans g2).trans g3).trans g') rp
          | ok d4 =>
            rw [e4, Res.bind_ok] at h
            intro z B4 H4 g4 r4
            exact ho' u z d2 d4 B4 H4 Q g4.i (Rp.mono (g3.b.trans g4.b) r2) r4 (postV_of (postE_mono (((g1.trans g2).trans g3).trans g4) h) (hc' d2 d4))
        · cases r3
          refine ⟨false, rfl, ?_⟩
          rw [if_neg Bool.false_ne_true]
          exact h _ _ _ ((g1.trans g2).trans g3) (.v _)
        · exact h.elim
theorem ce_chain {a b c : Expr} {op op' : CmpOp} {pos : Pos} {ta tb tc : TE} {fa fb fc : DS → Res D} {r r' : R2} {g g' : D → D → Res D} (ho : OpR X (compareOp op) r) (hr : RO X.K r g) (hc : Calm2 g) (ho' : OpR X (compareOp op') r') (hr' : RO X.K r' g') (hc' : Calm2 g')
    (ha : CE X W a ta fa) (hb : CE X W b tb fb) (hcc : CE X W c tc fc) (hm : lastMarks [op, op'] [b, c] = false := by with_unfolding_all rfl) : CE X W (.Compare a [op, op'] [b, c] pos) (tChain r r' ta tb tc) (cChain g g' fa fb fc) := ⟨pe_chain ho ho' ha.pe hb.pe hcc.pe hm, se_chain hr hc hr' hc' ha.se hb.se hcc.se⟩
noncomputable def pyV : V → Option PyData
  | .non => some .none
  | .bl b => some (.bool b)
  | .int i => some (.int i)
  | .str s => some (.str s)
  | _ => none
mutual
noncomputable def D.py : D → Option PyData
  | .v x => pyV x
  | .lst xs => (D.pyA xs).map .list
  | .tup xs => (D.pyA xs).map .tuple
  | .dct _ _ => none
  | .dlk _ _ => none
  | .ins _ _ _ => none
  | .dtt _ _ => none
  | .ptp _ => none
  | .wor _ _ => none
noncomputable def D.pyA : List D → Option (List PyData)
  | [] => some []
  | x :: xs => match x.py, D.pyA xs with
    | some a, some as => some (a :: as)
    | _, _ => none
end
mutual
theorem dp_of {B : Hp} : ∀ {v : V} {d : D} {p : PyData}, Rp K B v d → d.py = some p → Dp K B v p
  | _, _, _, .v x, e => by
    unfold D.py at e
    cases x <;> first | (cases e; constructor) | cases e
  | _, _, _, .lst (ds := ds) h r, e => by
    unfold D.py at e
    cases q : D.pyA ds with
    | none => rw [q] at e; cases e
    | some ps => rw [q] at e; cases e; exact .lst h (dpA_of r q)
  | _, _, _, .tup (ds := ds) h r, e => by
    unfold D.py at e
    cases q : D.pyA ds with
    | none => rw [q] at e; cases e
    | some ps => rw [q] at e; cases e; exact .tup h (dpA_of r q)
  | _, _, _, .dct h r, e => by
    unfold D.py at e
    cases e
  | _, _, _, .dlk h r, e => by
    unfold D.py at e
    cases e
  | _, _, _, .dcT h _ _ _ _ _ r, e => by
    unfold D.py at e
    cases e
  | _, _, _, .ins _ _ _ r, e => by
    unfold D.py at e
    cases e
  | _, _, _, .ptp _ _, e => by
    unfold D.py at e
    cases e
  | _, _, _, .wor _ _ _ _, e => by
    unfold D.py at e
    cases e
theorem dpA_of {B : Hp} : ∀ {vs : List V} {ds : List D} {ps : List PyData}, RpA K B vs ds → D.pyA ds = some ps → DpAll K B vs ps
  | _, _, _, .nil, e => by
    unfold D.pyA at e
    cases e
    exact .nil
  | _, _, _, .cons (d := d) (ds := ds) h r, e => by
    unfold D.pyA at e
    cases q1 : d.py with
    | none => rw [q1] at e; cases e
    | some a =>
      cases q2 : D.pyA ds with
      | none => rw [q1, q2] at e; cases e
      | some as =>
        rw [q1, q2] at e
        cases e
        exact .cons (dp_of h q1) (dpA_of r q2)
end
noncomputable def oEqB (neg : Bool) (d e : D) : Res D := match d.py, e.py with
  | some a, some b => if SeqAt.shaped a = true ∧ SeqAt.shaped b = true then .ok (.bl (if neg then !PyData.eqv a b else PyData.eqv a b)) else .no
  | _, _ => .no
noncomputable abbrev oEq := oEqB false
noncomputable abbrev oNe := oEqB true
mutual
theorem dp_mono {B B' : Hp} (e : Same B B') : ∀ {v : V} {p : PyData}, Dp K B v p → Dp K B' v p
  | _, _, .non => .non
  | _, _, .bl b => .bl b
  | _, _, .int i => .int i
  | _, _, .str x => .str x
  | _, _, .lst h r => .lst (e.seq h) (dpA_mono e r)
  | _, _, .tup h r => .tup (sqT_mono e h) (dpA_mono e r)
theorem dpA_mono {B B' : Hp} (e : Same B B') : ∀ {vs : List V} {ps : List PyData}, DpAll K B vs ps → DpAll K B' vs ps
  | _, _, .nil => .nil
  | _, _, .cons h r => .cons (dp_mono e h) (dpA_mono e r)
end
theorem ro_eq : RO K (rEqD K) oEq := fun x y d e B H Q i rx ry h => by
  unfold oEq oEqB at h
  split at h
  · rename_i a b e1 e2
    split at h
    · rename_i hs
      exact ⟨a, b, dp_mono i (dp_of rx e1), dp_mono i (dp_of ry e2), hs.1, hs.2, h _ B H (Grow.refl i) (.v _)⟩
    · exact h.elim
  · exact h.elim
theorem ro_ne : RO K (rNeD K) oNe := fun x y d e B H Q i rx ry h => by
  unfold oNe oEqB at h
  split at h
  · rename_i a b e1 e2
    split at h
    · rename_i hs
      exact ⟨a, b, dp_mono i (dp_of rx e1), dp_mono i (dp_of ry e2), hs.1, hs.2, h _ B H (Grow.refl i) (.v _)⟩
    · exact h.elim
  · exact h.elim
theorem cm_eq {n : Bool} : Calm2 (oEqB n) := fun d e x => by unfold oEqB; split <;> (try split) <;> simp
section
variable {a b : Expr} {pos : Pos} {ta tb : TE} {fa fb : DS → Res D}
end
noncomputable def isNon : D → Bool
  | .v .non => true
  | _ => false
noncomputable def oIsN (neg : Bool) : D → D → Res D
  | d, .v .non => .ok (.bl (if neg then !isNon d else isNon d))
  | _, _ => .no
theorem non_dec {B : Hp} {x : V} {d : D} (r : Rp K B x d) : decide (x = .non) = isNon d := by
  cases r with
  | v x => cases x <;> simp [isNon]
  | lst _ _ => simp [isNon]
  | tup _ _ => simp [isNon]
  | dct _ _ => simp [isNon]
  | dlk _ _ => simp [isNon]
  | dcT _ _ _ _ _ _ _ => simp [isNon]
  | ins _ _ _ _ => simp [isNon]
  | ptp _ _ => simp [isNon]
  | wor _ _ _ _ => simp [isNon]
theorem ro_isN : RO K (fun x y H Q => y = .non ∧ Q (.bl (decide (x = .non))) H) (oIsN false) := fun x y d e B H Q i rx ry h => by
  unfold oIsN at h
  split at h
  · cases ry
    rw [non_dec rx]
    exact ⟨rfl, h _ B H (Grow.refl i) (.v _)⟩
  · exact h.elim
theorem cm_isN {n : Bool} : Calm2 (oIsN n) := fun d e x => by unfold oIsN; split <;> simp
section
variable {a b : Expr} {pos : Pos} {ta tb : TE} {fa fb : DS → Res D}
end
section
variable {a b : Expr} {pos : Pos} {ta tb : TE} {fa fb : DS → Res D}
end
end
end DV
namespace DV
open PySem L2
structure OK2 (X : Cx) (f : Value → Value → Sem Value) (r : R2) (g : D → D → Res D) : Prop where
  o : OpR X f r
  r : RO X.K r g
  c : Calm2 g
section
variable {X : Cx} {W : WX} {K : PySem.W.Frag}
theorem q_o_add : OK2 X (binaryOp .Add) (rAdd X.K) oAdd := ⟨op_addA, ro_add, cm_add⟩
theorem o_add (K : PySem.W.Frag) (hK : X.K = K) : OK2 X (binaryOp .Add) (rAdd K) oAdd := by
  subst hK
  exact (q_o_add )
theorem o_sub : OK2 X (binaryOp .Sub) (rI0 fun i j => .int (i - j)) oSub := ⟨op_sub, ro_sub, cm_sub⟩
theorem q_o_mul : OK2 X (binaryOp .Mult) (rMulA X.K) oMul2 := ⟨op_mulA, ro_mul, cm_mul⟩
theorem o_mul (K : PySem.W.Frag) (hK : X.K = K) : OK2 X (binaryOp .Mult) (rMulA K) oMul2 := by
  subst hK
  exact (q_o_mul )
theorem o_mod : OK2 X (binaryOp .Mod) (rI (fun _ j => j ≠ 0) fun i j => .int (i.fmod j)) oMod := ⟨op_modN, ro_mod, cm_mod⟩
theorem o_fdiv : OK2 X (binaryOp .FloorDiv) (rI CFd fun i j => .int (i.fdiv j)) oFdiv := ⟨op_fdA, ro_fdiv, cm_fdiv⟩
theorem o_pow : OK2 X (binaryOp .Pow) (rI CPow fun i j => .int (i ^ j.toNat)) oPow := ⟨op_pow, ro_pow, cm_pow⟩
theorem o_lt : OK2 X (compareOp .Lt) (rI0 fun i j => .bl (decide (i < j))) oLt := ⟨op_lt, ro_cI, cm_cI⟩
theorem o_le : OK2 X (compareOp .LtE) (rI0 fun i j => .bl (decide (i ≤ j))) oLe := ⟨op_le, ro_cI, cm_cI⟩
theorem o_gt : OK2 X (compareOp .Gt) (rI0 fun i j => .bl (decide (j < i))) oGt := ⟨op_gt, ro_cI, cm_cI⟩
theorem q_o_eq (hu : X.A.units + 64 < cLine) : OK2 X (compareOp .Eq) (rEqD X.K) oEq := ⟨op_eqD hu, ro_eq, cm_eq⟩
theorem o_eq (K : PySem.W.Frag) (hK : X.K = K) (hu : X.A.units + 64 < cLine) : OK2 X (compareOp .Eq) (rEqD K) oEq := by
  subst hK
  exact (q_o_eq hu)
theorem q_o_ne (hu : X.A.units + 64 < cLine) : OK2 X (compareOp .NotEq) (rNeD X.K) oNe := ⟨op_neD hu, ro_ne, cm_eq⟩
theorem o_ne (K : PySem.W.Frag) (hK : X.K = K) (hu : X.A.units + 64 < cLine) : OK2 X (compareOp .NotEq) (rNeD K) oNe := by
  subst hK
  exact (q_o_ne hu)
theorem o_is : OK2 X (compareOp .Is) (fun x y H Q => y = .non ∧ Q (.bl (decide (x = .non))) H) (oIsN false) := ⟨op_isN, ro_isN, cm_isN⟩
theorem ce_b {a b : Expr} {op : Operator} {pos : Pos} {ta tb : TE} {fa fb : DS → Res D} {r : R2} {g : D → D → Res D} (o : OK2 X (binaryOp op) r g) (ha : CE X W a ta fa) (hb : CE X W b tb fb) : CE X W (.BinOp a op b pos) (tOp r ta tb) (cBin g fa fb) := ce_op o.o o.r o.c ha hb
theorem ce_c {a b : Expr} {op : CmpOp} {pos : Pos} {ta tb : TE} {fa fb : DS → Res D} {r : R2} {g : D → D → Res D} (o : OK2 X (compareOp op) r g) (ha : CE X W a ta fa) (hb : CE X W b tb fb) (hm : behindInMarks op b = false := by first | exact nomark _ | rfl) : CE X W (.Compare a [op] [b] pos) (tOp r ta tb) (cBin g fa fb) := ce_cmp o.o o.r o.c ha hb hm
theorem ce_cc {a b c : Expr} {op op' : CmpOp} {pos : Pos} {ta tb tc : TE} {fa fb fc : DS → Res D} {r r' : R2} {g g' : D → D → Res D} (o : OK2 X (compareOp op) r g) (o' : OK2 X (compareOp op') r' g')
    (ha : CE X W a ta fa) (hb : CE X W b tb fb) (hc : CE X W c tc fc) (hm : lastMarks [op, op'] [b, c] = false := by with_unfolding_all rfl) : CE X W (.Compare a [op, op'] [b, c] pos) (tChain r r' ta tb tc) (cChain g g' fa fb fc) := ce_chain o.o o.r o.c o'.o o'.r o'.c ha hb hc hm
noncomputable def asB : D → Res Bool
  | .v (.bl b) => .ok b
  | _ => .no
noncomputable def cTest (f : DS → Res D) : DS → Res Bool := fun δ => (f δ).bind asB
theorem st_test {t : TE} {f : DS → Res D} (h : SE K W t f) : ST K W (tTest t) (cTest f) := fun B0 H0 δ σ B H Q rel hp => by
  unfold cTest at hp
  refine h B0 H0 δ σ B H _ rel ?_
  cases e : f δ with
  | no => rw [e] at hp; exact hp
  | er x => rw [e] at hp; exact hp
  | ok d =>
    rw [e, Res.bind_ok] at hp
    intro v B1 H1 g1 r1
    unfold asB at hp
    split at hp
    · cases r1
      exact ⟨_, rfl, hp _ _ g1⟩
    · exact hp.elim
theorem ct_val {e : Expr} {t : TE} {f : DS → Res D} (h : CE X W e t f) (he : ∀ whole, isTrue e X.env whole = (do let v ← whole; standAt e.pos; holding [v] (truthy v)) := by intro _; rfl) : CT X W e (tB t) (cTest f) := ⟨pt_val h.pe he, st_test h.se⟩
theorem ct_c {a b : Expr} {op : CmpOp} {pos : Pos} {ta tb : TE} {fa fb : DS → Res D} {r : R2} {g : D → D → Res D} (o : OK2 X (compareOp op) r g) (ha : CE X W a ta fa) (hb : CE X W b tb fb) (hm : behindInMarks op b = false := by first | exact nomark _ | rfl) : CT X W (.Compare a [op] [b] pos) (tTest (tOp r ta tb)) (cTest (cBin g fa fb)) :=
  ⟨pt_cmpR o.o ha.pe hb.pe hm, st_test (se_op o.r o.c ha.se hb.se)⟩
theorem ct_cc {a b c : Expr} {op op' : CmpOp} {pos : Pos} {ta tb tc : TE} {fa fb fc : DS → Res D} {r r' : R2} {g g' : D → D → Res D} (o : OK2 X (compareOp op) r g) (o' : OK2 X (compareOp op') r' g')
    (ha : CE X W a ta fa) (hb : CE X W b tb fb) (hc : CE X W c tc fc) (hm : lastMarks [op, op'] [b, c] = false := by with_unfolding_all rfl) : CT X W (.Compare a [op, op'] [b, c] pos) (tTest (tChain r r' ta tb tc)) (cTest (cChain g g' fa fb fc)) :=
  ⟨pt_chain o.o o'.o ha.pe hb.pe hc.pe hm, st_test (se_chain o.r o.c o'.r o'.c ha.se hb.se hc.se)⟩
noncomputable def cNotT (f : DS → Res Bool) : DS → Res Bool := fun δ => (f δ).bind fun b => .ok (!b)
noncomputable def cAndT (f g : DS → Res Bool) : DS → Res Bool := fun δ => (f δ).bind fun b => if b = true then g δ else .ok false
noncomputable def cOrT (f g : DS → Res Bool) : DS → Res Bool := fun δ => (f δ).bind fun b => if b = true then .ok true else g δ
theorem postT_mono {B H B1 H1 : Hp} {σ : L2.St} {Q : Bool → Hp → Prop} {r : Res Bool} (g : Grow K B H B1 H1) (h : PostT K B H σ W Q r) : PostT K B1 H1 σ W Q r := by
  cases r with
  | ok d => exact fun B' H' g' => h B' H' (g.trans g')
  | er x => exact fun c dx B' H' g' rp => h c dx B' H' (g.trans g') rp
  | no => exact h
theorem st_not {t : TT} {f : DS → Res Bool} (h : ST K W t f) : ST K W (tNot t) (cNotT f) := fun B0 H0 δ σ B H Q rel hp => by
  unfold cNotT at hp
  refine h B0 H0 δ σ B H _ rel ?_
  cases e : f δ with
  | no => rw [e] at hp; exact hp
  | er x => rw [e] at hp; exact hp
  | ok d => rw [e, Res.bind_ok] at hp; exact hp
theorem st_and {t u : TT} {f g : DS → Res Bool} (h : ST K W t f) (h2 : ST K W u g) : ST K W (tAnd t u) (cAndT f g) := fun B0 H0 δ σ B H Q rel hp => by
  unfold cAndT at hp
  refine h B0 H0 δ σ B H _ rel ?_
  cases e : f δ with
  | no => rw [e] at hp; exact hp
  | er x => rw [e] at hp; exact hp
  | ok d =>
    rw [e, Res.bind_ok] at hp
    intro B1 H1 g1
    cases d with
    | true => rw [if_pos rfl] at hp ⊢; exact h2 B0 H0 δ σ B1 H1 _ (rel.mono g1) (postT_mono g1 hp)
    | false => rw [if_neg Bool.false_ne_true] at hp ⊢; exact hp _ _ g1
theorem st_or {t u : TT} {f g : DS → Res Bool} (h : ST K W t f) (h2 : ST K W u g) : ST K W (tOr t u) (cOrT f g) := fun B0 H0 δ σ B H Q rel hp => by
  unfold cOrT at hp
  refine h B0 H0 δ σ B H _ rel ?_
  cases e : f δ with
  | no => rw [e] at hp; exact hp
  | er x => rw [e] at hp; exact hp
  | ok d =>
    rw [e, Res.bind_ok] at hp
    intro B1 H1 g1
    cases d with
    | false => rw [if_neg Bool.false_ne_true] at hp ⊢; exact h2 B0 H0 δ σ B1 H1 _ (rel.mono g1) (postT_mono g1 hp)
    | true => rw [if_pos rfl] at hp ⊢; exact hp _ _ g1
theorem ct_not {a : Expr} {pos : Pos} {t : TT} {f : DS → Res Bool} (h : CT X W a t f) : CT X W (.UnaryOp .Not a pos) (tNot t) (cNotT f) := ⟨pt_not h.pt, st_not h.st⟩
theorem cw_and1 {a : Expr} {pos : Pos} {t : TT} {f : DS → Res Bool} (h : CT X W a t f) : CW X W (.BoolOp .And [a] pos) t f := ⟨pw_and1 h.pt, h.st⟩
theorem cw_or1 {a : Expr} {pos : Pos} {t : TT} {f : DS → Res Bool} (h : CT X W a t f) : CW X W (.BoolOp .Or [a] pos) t f := ⟨pw_or1 h.pt, h.st⟩
theorem cw_and {a b : Expr} {rest : List Expr} {pos : Pos} {t u : TT} {f g : DS → Res Bool} (h : CT X W a t f) (h2 : CW X W (.BoolOp .And (b :: rest) pos) u g) : CW X W (.BoolOp .And (a :: b :: rest) pos) (tAnd t u) (cAndT f g) := ⟨pw_and h.pt h2.pw, st_and h.st h2.st⟩
theorem cw_or {a b : Expr} {rest : List Expr} {pos : Pos} {t u : TT} {f g : DS → Res Bool} (h : CT X W a t f) (h2 : CW X W (.BoolOp .Or (b :: rest) pos) u g) : CW X W (.BoolOp .Or (a :: b :: rest) pos) (tOr t u) (cOrT f g) := ⟨pw_or h.pt h2.pw, st_or h.st h2.st⟩
noncomputable def cAndV (f g : DS → Res D) : DS → Res D := fun δ => (f δ).bind fun x => match x with
  | .v (.bl true) => g δ
  | .v (.bl false) => .ok (.bl false)
  | _ => .no
theorem se_and {ta tb : TE} {f g : DS → Res D} (ha : SE K W ta f) (hb : SE K W tb g) : SE K W (tAndV ta tb) (cAndV f g) := fun B0 H0 δ σ B H Q rel hp => by
  unfold cAndV at hp
  refine ha B0 H0 δ σ B H _ rel ?_
  cases e : f δ with
  | no => rw [e] at hp; exact hp
  | er x => rw [e] at hp; exact hp
  | ok d =>
    rw [e, Res.bind_ok] at hp
    intro v B1 H1 g1 r1
    split at hp
    · cases r1
      refine ⟨true, rfl, ?_⟩
      rw [if_pos rfl]
      exact hb B0 H0 δ σ B1 H1 _ (rel.mono g1) (postE_mono g1 hp)
    · cases r1
      refine ⟨false, rfl, ?_⟩
      rw [if_neg Bool.false_ne_true]
      exact hp _ _ _ g1 (.v _)
    · exact hp.elim
theorem ce_one {op} {a : Expr} {pos : Pos} {t : TE} {f : DS → Res D} (h : CE X W a t f) : CE X W (.BoolOp op [a] pos) t f := ⟨pe_one h.pe, h.se⟩
theorem ce_and {a b : Expr} {rest : List Expr} {pos : Pos} {ta tb : TE} {f g : DS → Res D} (h : CE X W a ta f) (h2 : CE X W (.BoolOp .And (b :: rest) pos) tb g) : CE X W (.BoolOp .And (a :: b :: rest) pos) (tAndV ta tb) (cAndV f g) := ⟨pe_and h.pe h2.pe, se_and h.se h2.se⟩
noncomputable def cIfE (t : DS → Res Bool) (f g : DS → Res D) : DS → Res D := fun δ => (t δ).bind fun b => if b = true then f δ else g δ
theorem ce_if {c a b : Expr} {pos : Pos} {tt : TT} {ta tb : TE} {t : DS → Res Bool} {f g : DS → Res D} (hc : CT X W c tt t) (ha : CE X W a ta f) (hb : CE X W b tb g) : CE X W (.IfExp c a b pos) (tIf tt ta tb) (cIfE t f g) :=
  ⟨pe_ifExp hc.pt ha.pe hb.pe, fun B0 H0 δ σ B H Q rel hp => by
    unfold cIfE at hp
    refine hc.st B0 H0 δ σ B H _ rel ?_
    cases e : t δ with
    | no => rw [e] at hp; exact hp
    | er x => rw [e] at hp; exact hp
    | ok d =>
      rw [e, Res.bind_ok] at hp
      intro B1 H1 g1
      cases d with
      | false => rw [if_neg Bool.false_ne_true] at hp ⊢; exact hb.se B0 H0 δ σ B1 H1 _ (rel.mono g1) (postE_mono g1 hp)
      | true => rw [if_pos rfl] at hp ⊢; exact ha.se B0 H0 δ σ B1 H1 _ (rel.mono g1) (postE_mono g1 hp)⟩
structure CL (X : Cx) (W : WX) (es : List Expr) (t : TA) (f : DS → Res (List D)) : Prop extends CA X W es t f where
  ln : ∀ δ ds, f δ = .ok ds → ds.length = es.length
noncomputable def cNil : DS → Res (List D) := fun _ => .ok []
noncomputable def cCons (f : DS → Res D) (g : DS → Res (List D)) : DS → Res (List D) := fun δ => (f δ).bind fun x => (g δ).bind fun xs => .ok (x :: xs)
theorem ca_nil : CL X W [] tNil cNil := ⟨⟨pa_nil, fun B0 H0 δ σ B H Q rel hp => hp [] B H (Grow.refl rel.g.i) .nil⟩, fun δ ds h => by cases h; rfl⟩
theorem sa_cons {te : TE} {t : TA} {f : DS → Res D} {g : DS → Res (List D)} (ha : SE K W te f) (hb : SA K W t g) : SA K W (tCons te t) (cCons f g) := fun B0 H0 δ σ B H Q rel hp => by
  unfold cCons at hp
  refine ha B0 H0 δ σ B H _ rel ?_
  cases e : f δ with
  | no => rw [e] at hp; exact hp
  | er x => rw [e] at hp; exact hp
  | ok d =>
    rw [e, Res.bind_ok] at hp
    intro v B1 H1 g1 r1
    refine hb B0 H0 δ σ B1 H1 _ (rel.mono g1) ?_
    cases e2 : g δ with
    | no => rw [e2] at hp; exact hp
    | er x => rw [e2] at hp; exact fun c dx B' H' g' rp => hp c dx B' H' (g1.trans g') rp
    | ok ds =>
      rw [e2, Res.bind_ok] at hp
      exact fun vs B2 H2 g2 r2 => hp _ B2 H2 (g1.trans g2) (.cons (Rp.mono g2.b r1) r2)
theorem ca_cons {e : Expr} {es : List Expr} {te : TE} {t : TA} {f : DS → Res D} {g : DS → Res (List D)} (ha : CE X W e te f) (hb : CL X W es t g) (hs : starEach (e :: es) X.env = (false, eval e X.env) :: starEach es X.env := by rfl) : CL X W (e :: es) (tCons te t) (cCons f g) :=
  ⟨⟨pa_cons ha.pe hb.pa hs, sa_cons ha.se hb.sa⟩, fun δ ds h => by
    unfold cCons at h
    cases e1 : f δ with
    | no => rw [e1] at h; cases h
    | er x => rw [e1] at h; cases h
    | ok d =>
      rw [e1, Res.bind_ok] at h
      cases e2 : g δ with
      | no => rw [e2] at h; cases h
      | er x => rw [e2] at h; cases h
      | ok ds' =>
        rw [e2, Res.bind_ok] at h
        cases h
        simp [hb.ln δ ds' e2]⟩
noncomputable def cTup (f : DS → Res (List D)) : DS → Res D := fun δ => (f δ).bind fun ds => .ok (.tup ds)
theorem ce_tup {es : List Expr} {x1} {pos : Pos} {t : TA} {f : DS → Res (List D)} (h : CL X W es t f) (hl : es.length ≤ sizeLine := by decide) : CE X W (.Tuple es x1 pos) (tTup t) (cTup f) :=
  ⟨pe_tup h.pa, fun B0 H0 δ σ B H Q rel hp => by
    unfold cTup at hp
    refine h.sa B0 H0 δ σ B H _ rel ?_
    cases e : f δ with
    | no => rw [e] at hp; exact hp
    | er x => rw [e] at hp; exact hp
    | ok ds =>
      rw [e, Res.bind_ok] at hp
      intro vs B1 H1 g1 r1
      refine ⟨by rw [r1.length, h.ln δ ds e]; exact hl, fun p hp' => ?_⟩
      exact hp _ _ _ (g1.trans (Grow.new g1.i hp')) (.tup (SqT.of upd_same) (r1.mono (Grow.new (K := X.K) g1.i hp').b))⟩
theorem cf_lst {es : List Expr} {pos : Pos} {t : TA} {f : DS → Res (List D)} (h : CL X W es t f) (hl : es.length ≤ sizeLine := by decide) : CF X W (.List es pos) (tLst t) f :=
  ⟨pe_lst h.pa, fun B0 H0 δ σ B H Q rel hp => by
    refine h.sa B0 H0 δ σ B H _ rel ?_
    cases e : f δ with
    | no => rw [e] at hp; exact hp
    | er x => rw [e] at hp; exact hp
    | ok ds =>
      rw [e] at hp
      intro vs B1 H1 g1 r1
      refine ⟨by rw [r1.length, h.ln δ ds e]; exact hl, fun p hp' => ?_⟩
      exact hp p vs B1 _ (g1.trans (Grow.raw g1.i hp')) (g1.free hp') (g1.i.free hp') upd_same r1⟩
noncomputable def cL (f : DS → Res (List D)) : DS → Res D := fun δ => (f δ).bind fun ds => .ok (.lst ds)
theorem se_of_sf {t : TE} {f : DS → Res (List D)} (h : SF K W t f) : SE K W t (cL f) := fun B0 H0 δ σ B H Q rel hp => by
  unfold cL at hp
  refine h B0 H0 δ σ B H _ rel ?_
  cases e : f δ with
  | no => rw [e] at hp; exact hp
  | er x => rw [e] at hp; exact hp
  | ok ds =>
    rw [e, Res.bind_ok] at hp
    intro p vs B1 H1 g1 h0 hb hh r1
    have sb : Same B1 (upd B1 p (.lst vs)) := same_new hb
    refine hp _ (upd B1 p (.lst vs)) H1 ⟨g1.b.trans sb, g1.h, fun a o q => ?_, fun a ha => ?_, g1.e, g1.t, g1.nu hb (kind_lst _).pln⟩ (.lst (SqL.of upd_same) (r1.mono sb))
    · by_cases hap : a = p
      · subst hap; rw [upd_same] at q; cases q; exact hh
      · rw [upd_ne hap] at q; exact g1.i a o q
    · have : a ≠ p := fun z => ha (by rw [z]; exact h0)
      rw [upd_ne this]
      exact g1.f a ha
theorem ce_l {e : Expr} {t : TE} {f : DS → Res (List D)} (h : CF X W e t f) : CE X W e t (cL f) := ⟨h.pe, se_of_sf h.sf⟩
noncomputable def oIx : D → D → Res D
  | .lst xs, .v (.int i) => match atI xs i with
    | some d => .ok d
    | none => .no
  | .tup xs, .v (.int i) => match atI xs i with
    | some d => .ok d
    | none => .no
  | .v (.str z), .v (.int i) => match atI z.cps.toList i with
    | some c => if z.length ≤ sizeLine then .ok (.str ⟨#[c]⟩) else .no
    | none => .no
  | _, _ => .no
theorem RpA.at_ {B : Hp} {vs : List V} {ds : List D} {i : Int} {d : D} (r : RpA K B vs ds) (h : atI ds i = some d) : ∃ v, atI vs i = some v ∧ Rp K B v d := by
  have hl := r.length
  unfold atI at h ⊢
  rw [hl]
  cases e : ixN ds.length i with
  | none => rw [e] at h; cases h
  | some j =>
    rw [e] at h
    exact r.get h
theorem ro_ix : RO K (rIx K) oIx := fun x y d e B H Q i rx ry h => by
  unfold oIx at h
  split at h
  · split at h
    · rename_i d' e'
      cases ry
      cases rx with
      | lst h1 q =>
        obtain ⟨v, e2, r2⟩ := q.at_ e'
        exact .inl ⟨_, _, _, v, rfl, rfl, i.seq h1, e2, h v B H (Grow.refl i) r2⟩
    · exact h.elim
  · split at h
    · rename_i d' e'
      cases ry
      cases rx with
      | tup h1 q =>
        obtain ⟨v, e2, r2⟩ := q.at_ e'
        exact .inr (.inl ⟨_, _, _, v, rfl, rfl, sqT_mono i h1, e2, h v B H (Grow.refl i) r2⟩)
    · exact h.elim
  · split at h
    · rename_i c e'
      split at h
      · rename_i hz
        cases ry
        cases rx
        exact .inr (.inr ⟨_, _, c, rfl, rfl, hz, e', h _ B H (Grow.refl i) (.v _)⟩)
      · exact h.elim
    · exact h.elim
  · exact h.elim
theorem cm_ix : Calm2 oIx := fun d e x => by unfold oIx; split <;> (try split) <;> (try split) <;> simp
theorem q_ce_ix {a b : Expr} {pos : Pos} {ta tb : TE} {fa fb : DS → Res D} (ha : CE X W a ta fa) (hb : CE X W b tb fb) (hs : PlainIx b := by exact fun _ _ => rfl) : CE X W (.Subscript a b pos) (tOp (rIx X.K) ta tb) (cBin oIx fa fb) := ⟨pe_ix ix_seq ha.pe hb.pe hs, se_op ro_ix cm_ix ha.se hb.se⟩
theorem ce_ix (K : PySem.W.Frag) (hK : X.K = K) {a b : Expr} {pos : Pos} {ta tb : TE} {fa fb : DS → Res D} (ha : CE X W a ta fa) (hb : CE X W b tb fb) (hs : PlainIx b := by exact fun _ _ => rfl) : CE X W (.Subscript a b pos) (tOp (rIx K) ta tb) (cBin oIx fa fb) := by
  subst hK
  exact (q_ce_ix ha hb hs)
end
end DV
namespace DV
open PySem L2
section
variable {X : Cx} {W : WX} {K : PySem.W.Frag}
noncomputable def cutD (xs : List D) (lo hi : Option Int) : List D := (xs.drop (HT.sIx xs.length 0 lo)).take (HT.sIx xs.length xs.length hi - HT.sIx xs.length 0 lo)
theorem RpA.cut {B : Hp} {vs : List V} {ds : List D} (r : RpA K B vs ds) (lo hi : Option Int) : RpA K B (cutV vs lo hi) (cutD ds lo hi) := by
  unfold cutV cutD
  rw [r.length]
  exact (r.drop _).take _
noncomputable def asI : D → Res (Option Int)
  | .v (.int i) => .ok (some i)
  | _ => .no
noncomputable def cNone : DS → Res (Option Int) := fun _ => .ok none
noncomputable def cSome (f : DS → Res D) : DS → Res (Option Int) := fun δ => (f δ).bind asI
noncomputable def PostO (K : PySem.W.Frag) (B H : Hp) (σ : L2.St) (W : WX) (Q : Option Int → Hp → Prop) : Res (Option Int) → Prop
  | .ok o => ∀ B' H', Grow K B H B' H' → Q o H'
  | .er x => ∀ c dx B' H', Grow K B H B' H' → RpX K B' c dx x → W c dx σ H'
  | .no => False
structure CO (X : Cx) (W : WX) (e : Option Expr) (t : TO) (f : DS → Res (Option Int)) : Prop where
  po : PO X e t
  so : ∀ B0 H0 δ σ B H (Q : Option Int → Hp → Prop), Rel X.K B0 H0 B H σ δ → PostO X.K B H σ W Q (f δ) → t σ H Q
theorem co_none : CO X W none tNoPart cNone := ⟨po_none, fun B0 H0 δ σ B H Q rel hp => hp B H (Grow.refl rel.g.i)⟩
theorem co_some {e : Expr} {t : TE} {f : DS → Res D} (h : CE X W e t f) : CO X W (some e) (tPart t) (cSome f) := ⟨po_some h.pe, fun B0 H0 δ σ B H Q rel hp => by
  unfold cSome at hp
  refine h.se B0 H0 δ σ B H _ rel ?_
  cases e : f δ with
  | no => rw [e] at hp; exact hp
  | er x => rw [e] at hp; exact hp
  | ok d =>
    rw [e, Res.bind_ok] at hp
    intro v B1 H1 g1 r1
    unfold asI at hp
    split at hp
    · cases r1; exact ⟨_, rfl, hp B1 H1 g1⟩
    · exact hp.elim⟩
noncomputable def oSl (lo hi : Option Int) : D → Res D
  | .lst xs => .ok (.lst (cutD xs lo hi))
  | .tup xs => .ok (.tup (cutD xs lo hi))
  | .v (.str z) => if z.length ≤ sizeLine then .ok (.str (cutS z lo hi)) else .no
  | _ => .no
noncomputable def rSlD (K : PySem.W.Frag) : V → Option Int → Option Int → Hp → VK → Prop := fun x lo hi H Q => rSlL K x lo hi H Q ∨ rSlA K x lo hi H Q ∨ rSlS x lo hi H Q
theorem sl_D : SlR X (rSlD X.K) := sl_list.or (sl_tupA.or sl_str)
theorem cut_whole {xs : List V} {lo hi : Option Int} (h : HT.sIx xs.length 0 lo = 0 ∧ HT.sIx xs.length xs.length hi = xs.length) : cutV xs lo hi = xs := by
  unfold cutV
  rw [h.1, h.2]
  simp
theorem rs_sl {x : V} {d : D} {lo hi : Option Int} {B H : Hp} {Q : VK} (i : Same B H) (rx : Rp K B x d) (h : PostV K B H Q (oSl lo hi d)) : rSlD K x lo hi H Q := by
  unfold oSl at h
  split at h
  · cases rx with
    | lst h1 q => exact .inl ⟨_, _, rfl, i.seq h1, fun p hp => h _ _ _ (Grow.new i hp) (.lst (SqL.of upd_same) ((q.cut lo hi).mono (Grow.new (K := K) i hp).b))⟩
  · cases rx with
    | tup h1 q =>
      refine .inr (.inl ⟨_, _, rfl, sqT_mono i h1, fun hw => ?_, fun hw p hp => ?_⟩)
      · refine h _ B H (Grow.refl i) ?_
        have q2 := q.cut lo hi
        rw [cut_whole hw] at q2
        exact .tup h1 q2
      · exact h _ _ _ (Grow.new i hp) (.tup (SqT.of upd_same) ((q.cut lo hi).mono (Grow.new (K := K) i hp).b))
  · split at h
    · rename_i hz
      cases rx
      exact .inr (.inr ⟨_, rfl, hz, h _ B H (Grow.refl i) (.v _)⟩)
    · exact h.elim
  · exact h.elim
theorem cm_sl {lo hi : Option Int} {d : D} (x : Exn) : oSl lo hi d ≠ .er x := by unfold oSl; split <;> (try split) <;> simp
noncomputable def cSl (f : DS → Res D) (lo hi : DS → Res (Option Int)) : DS → Res D := fun δ => (f δ).bind fun x => (lo δ).bind fun l => (hi δ).bind fun h => oSl l h x
theorem q_ce_sl {e : Expr} {lo hi : Option Expr} {p2 pos : Pos} {te : TE} {tl th : TO} {f : DS → Res D} {fl fh : DS → Res (Option Int)} (he : CE X W e te f) (hl : CO X W lo tl fl) (hh : CO X W hi th fh) : CE X W (.Subscript e (.Slice lo hi none p2) pos) (tSl (rSlD X.K) te tl th) (cSl f fl fh) :=
  ⟨pe_slice sl_D he.pe hl.po hh.po, fun B0 H0 δ σ B H Q rel hp => by
    unfold cSl at hp
    refine he.se B0 H0 δ σ B H _ rel ?_
    cases e : f δ with
    | no => rw [e] at hp; exact hp
    | er x => rw [e] at hp; exact hp
    | ok d =>
      rw [e, Res.bind_ok] at hp
      intro v B1 H1 g1 r1
      refine hl.so B0 H0 δ σ B1 H1 _ (rel.mono g1) ?_
      cases e2 : fl δ with
      | no => rw [e2] at hp; exact hp
      | er x => rw [e2] at hp; exact fun c dx B' H' g' rp => hp c dx B' H' (g1.trans g') rp
      | ok l =>
        rw [e2, Res.bind_ok] at hp
        intro B2 H2 g2
        refine hh.so B0 H0 δ σ B2 H2 _ ((rel.mono g1).mono g2) ?_
        cases e3 : fh δ with
        | no => rw [e3] at hp; exact hp
        | er x => rw [e3] at hp; exact fun c dx B' H' g' rp => hp c dx B' H' ((g1.trans g2).trans g') rp
        | ok h =>
          rw [e3, Res.bind_ok] at hp
          intro B3 H3 g3
          exact rs_sl g3.i (r1.mono (g2.b.trans g3.b)) (postV_of (postE_mono ((g1.trans g2).trans g3) hp) fun x => cm_sl x)⟩
theorem ce_sl (K : PySem.W.Frag) (hK : X.K = K) {e : Expr} {lo hi : Option Expr} {p2 pos : Pos} {te : TE} {tl th : TO} {f : DS → Res D} {fl fh : DS → Res (Option Int)} (he : CE X W e te f) (hl : CO X W lo tl fl) (hh : CO X W hi th fh) : CE X W (.Subscript e (.Slice lo hi none p2) pos) (tSl (rSlD K) te tl th) (cSl f fl fh) := by
  subst hK
  exact (q_ce_sl he hl hh)
noncomputable def oRevL : D → Res D
  | .lst xs => .ok (.lst xs.reverse)
  | _ => .no
noncomputable def RC (K : PySem.W.Frag) (r : List V → Hp → VK → Prop) (g : List D → Res D) : Prop := ∀ vs ds B H Q, Same B H → RpA K B vs ds → PostV K B H Q (g ds) → r vs H Q
structure OKC (X : Cx) (f : Value) (r : List V → Hp → VK → Prop) (g : List D → Res D) : Prop where
  o : CallR X f r
  r : RC X.K r g
  c : ∀ ds x, g ds ≠ .er x
noncomputable def cCall (g : List D → Res D) (f : DS → Res (List D)) : DS → Res D := fun δ => (f δ).bind g
theorem se_call {t : TA} {f : DS → Res (List D)} {r : List V → Hp → VK → Prop} {g : List D → Res D} (hr : RC K r g) (hc : ∀ ds x, g ds ≠ .er x) (h : SA K W t f) : SE K W (tCB r t) (cCall g f) := fun B0 H0 δ σ B H Q rel hp => by
  unfold cCall at hp
  refine h B0 H0 δ σ B H _ rel ?_
  cases e : f δ with
  | no => rw [e] at hp; exact hp
  | er x => rw [e] at hp; exact hp
  | ok ds =>
    rw [e, Res.bind_ok] at hp
    intro vs B1 H1 g1 r1
    exact hr vs ds B1 H1 Q g1.i r1 (postV_of (postE_mono g1 hp) (hc ds))
theorem ce_callB {id : String} {x : Str} {e : Expr} {es : List Expr} {p pos : Pos} {r : List V → Hp → VK → Prop} {g : List D → Res D} {t : TA} {f : DS → Res (List D)} (o : OKC X (.builtin id) r g) (hm : X.mg x = none) (hv : bootBuiltins x = some (.builtin id)) (ha : CL X W (e :: es) t f) (hg : Gl X x := by rfl) (hn : x ≠ "__name__" := by decide) (hdb : (x == ("__debug__" : Str)) = false := by decide)
    (he : starEach (e :: es) X.env = (false, eval e X.env) :: starEach es X.env := by rfl) (hpl : (backTo pos (starEach es X.env)).any (·.1) = false := by rfl) : CE X W (.Call (.Name x p) (e :: es) [] pos) (tCB r t) (cCall g f) := ⟨pe_callB o.o hg hm hv ha.pa hn hdb he hpl, se_call o.r o.c ha.sa⟩
theorem ce_callTy {T : String} {x : Str} {e : Expr} {es : List Expr} {p pos : Pos} {r : List V → Hp → VK → Prop} {g : List D → Res D} {t : TA} {f : DS → Res (List D)} (o : OKC X (.type T) r g) (hm : X.mg x = none) (hv : bootBuiltins x = some (.type T)) (ha : CL X W (e :: es) t f) (hg : Gl X x := by rfl) (hn : x ≠ "__name__" := by decide) (hdb : (x == ("__debug__" : Str)) = false := by decide)
    (he : starEach (e :: es) X.env = (false, eval e X.env) :: starEach es X.env := by rfl) (hpl : (backTo pos (starEach es X.env)).any (·.1) = false := by rfl) : CE X W (.Call (.Name x p) (e :: es) [] pos) (tCB r t) (cCall g f) := ⟨pe_callTy o.o hg hm hv ha.pa hn hdb he hpl, se_call o.r o.c ha.sa⟩
noncomputable def gAbs : List D → Res D
  | [.v (.int i)] => .ok (.int (if i < 0 then -i else i))
  | _ => .no
theorem k_abs : OKC X (.builtin "abs") (fun xs H Q => ∃ i, xs = [.int i] ∧ Q (.int (if i < 0 then -i else i)) H) gAbs := ⟨call_abs, fun vs ds B H Q i r h => by
  unfold gAbs at h
  split at h
  · cases r with
    | cons r1 r2 => cases r2; cases r1; exact ⟨_, rfl, h _ B H (Grow.refl i) (.v _)⟩
  · exact h.elim, fun ds x => by unfold gAbs; split <;> simp⟩
noncomputable def gLen : List D → Res D
  | [.lst xs] => .ok (.int (xs.length : Nat))
  | [.tup xs] => .ok (.int (xs.length : Nat))
  | [.v (.str z)] => if z.length ≤ sizeLine then .ok (.int (z.length : Nat)) else .no
  | _ => .no
theorem q_k_len : OKC X (.builtin "len") (fun xs H Q => ∃ x n, xs = [x] ∧ LenV X.K x H n ∧ Q (.int n) H) gLen := ⟨call_len, fun vs ds B H Q i r h => by
  unfold gLen at h
  split at h
  · cases r with
    | cons r1 r2 =>
      cases r2
      cases r1 with
      | lst h1 q => exact ⟨_, _, rfl, .inl ⟨_, i.seq h1, rfl⟩, by rw [q.length]; exact h _ B H (Grow.refl i) (.v _)⟩
  · cases r with
    | cons r1 r2 =>
      cases r2
      cases r1 with
      | tup h1 q => exact ⟨_, _, rfl, .inr ⟨_, sqT_mono i h1, rfl⟩, by rw [q.length]; exact h _ B H (Grow.refl i) (.v _)⟩
  · split at h
    · rename_i hz
      cases r with
      | cons r1 r2 => cases r2; cases r1; exact ⟨_, _, rfl, ⟨hz, rfl⟩, h _ B H (Grow.refl i) (.v _)⟩
    · exact h.elim
  · exact h.elim, fun ds x => by unfold gLen; split <;> (try split) <;> simp⟩
theorem k_len (K : PySem.W.Frag) (hK : X.K = K) : OKC X (.builtin "len") (fun xs H Q => ∃ x n, xs = [x] ∧ LenV K x H n ∧ Q (.int n) H) gLen := by
  subst hK
  exact (q_k_len )
noncomputable def intsD : List D → Option (List Int)
  | [] => some []
  | .v (.int i) :: ds => (intsD ds).map (i :: ·)
  | _ => none
noncomputable def blsD : List D → Option (List Bool)
  | [] => some []
  | .v (.bl i) :: ds => (blsD ds).map (i :: ·)
  | _ => none
theorem intsD_of : ∀ {ds : List D} {ns : List Int}, intsD ds = some ns → ds = ns.map D.int
  | [], ns, h => by cases h; rfl
  | d :: ds, ns, h => by
    unfold intsD at h
    split at h
    · rename_i e; cases e
    · rename_i i ds' e
      cases e
      cases q : intsD ds with
      | none => rw [q] at h; cases h
      | some ms => rw [q] at h; cases h; rw [intsD_of q]; rfl
    · cases h
theorem blsD_of : ∀ {ds : List D} {ns : List Bool}, blsD ds = some ns → ds = ns.map D.bl
  | [], ns, h => by cases h; rfl
  | d :: ds, ns, h => by
    unfold blsD at h
    split at h
    · rename_i e; cases e
    · rename_i i ds' e
      cases e
      cases q : blsD ds with
      | none => rw [q] at h; cases h
      | some ms => rw [q] at h; cases h; rw [blsD_of q]; rfl
    · cases h
@[simp] theorem intsD_map (ns : List Int) : intsD (ns.map D.int) = some ns := by
  induction ns with
  | nil => rfl
  | cons n ns ih => simp [intsD, ih]
@[simp] theorem blsD_map (ns : List Bool) : blsD (ns.map D.bl) = some ns := by
  induction ns with
  | nil => rfl
  | cons n ns ih => simp [blsD, ih]
noncomputable def gInts (g : List Int → Res D) : List D → Res D
  | [.lst ds] => match intsD ds with
    | some ns => g ns
    | none => .no
  | _ => .no
noncomputable def gBls (g : List Bool → Res D) : List D → Res D
  | [.lst ds] => match blsD ds with
    | some ns => g ns
    | none => .no
  | _ => .no
theorem rc_ints {r : List V → Hp → VK → Prop} {g : List Int → Res D} (h : ∀ a ns B H Q, Same B H → SqL K H a (ns.map V.int) → PostV K B H Q (g ns) → r [.ref a] H Q) : RC K r (gInts g) := fun vs ds B H Q i rr hp => by
  unfold gInts at hp
  split at hp
  · split at hp
    · rename_i ds ns e
      cases rr with
      | cons r1 r2 =>
        cases r2
        cases r1 with
        | lst h1 q =>
          rw [intsD_of e] at q
          have e2 := q.ints_of
          subst e2
          exact h _ _ B H Q i (i.seq h1) hp
    · exact hp.elim
  · exact hp.elim
theorem rc_bls {r : List V → Hp → VK → Prop} {g : List Bool → Res D} (h : ∀ a ns B H Q, Same B H → SqL K H a (ns.map V.bl) → PostV K B H Q (g ns) → r [.ref a] H Q) : RC K r (gBls g) := fun vs ds B H Q i rr hp => by
  unfold gBls at hp
  split at hp
  · split at hp
    · rename_i ds ns e
      cases rr with
      | cons r1 r2 =>
        cases r2
        cases r1 with
        | lst h1 q =>
          rw [blsD_of e] at q
          have e2 := q.bls_of
          subst e2
          exact h _ _ B H Q i (i.seq h1) hp
    · exact hp.elim
  · exact hp.elim
theorem gInts_calm {g : List Int → Res D} (h : ∀ ns x, g ns ≠ .er x) (ds : List D) (x : Exn) : gInts g ds ≠ .er x := by
  unfold gInts; split <;> (try split) <;> first | exact h _ _ | simp
theorem gBls_calm {g : List Bool → Res D} (h : ∀ ns x, g ns ≠ .er x) (ds : List D) (x : Exn) : gBls g ds ≠ .er x := by
  unfold gBls; split <;> (try split) <;> first | exact h _ _ | simp
noncomputable def gSum : List D → Res D := gInts fun ns => .ok (.int ns.sum)
noncomputable def gAll : List D → Res D := gBls fun bs => .ok (.bl (bs.all id))
theorem q_k_sum (hc : X.calm = true := by rfl) : OKC X (.builtin "sum") (rSum X.K) gSum := ⟨cr_sum hc, rc_ints fun a ns B H Q i hs hp => ⟨a, ns, rfl, hs, hp _ B H (Grow.refl i) (.v _)⟩, gInts_calm fun _ _ => by simp⟩
theorem k_sum (K : PySem.W.Frag) (hK : X.K = K) (hc : X.calm = true := by rfl) : OKC X (.builtin "sum") (rSum K) gSum := by
  subst hK
  exact (q_k_sum hc)
theorem q_k_all (hc : X.calm = true := by rfl) : OKC X (.builtin "all") (rAll X.K) gAll := ⟨cr_all hc, rc_bls fun a ns B H Q i hs hp => ⟨a, ns, rfl, hs, hp _ B H (Grow.refl i) (.v _)⟩, gBls_calm fun _ _ => by simp⟩
theorem k_all (K : PySem.W.Frag) (hK : X.K = K) (hc : X.calm = true := by rfl) : OKC X (.builtin "all") (rAll K) gAll := by
  subst hK
  exact (q_k_all hc)
noncomputable def sortI (ns : List Int) : List Int := ns.mergeSort (fun a b => decide (a ≤ b))
theorem sortI_perm (ns : List Int) : (sortI ns).Perm ns := List.mergeSort_perm ns _
theorem sortI_sorted (ns : List Int) : (sortI ns).Pairwise (· ≤ ·) := by
  have h := List.pairwise_mergeSort (le := fun (a b : Int) => decide (a ≤ b)) (fun a b c h1 h2 => by simp at *; omega) (fun a b => by simp; omega) ns
  exact h.imp fun h => by simpa using h
theorem sortI_unique {ns ms : List Int} (hp : ms.Perm ns) (hs : ms.Pairwise (· ≤ ·)) : ms = sortI ns :=
  List.Perm.eq_of_pairwise (fun _ _ _ _ a b => Int.le_antisymm a b) hs (sortI_sorted ns) (hp.trans (sortI_perm ns).symm)
noncomputable def gTuple : List D → Res D
  | [.lst xs] => .ok (.tup xs)
  | [.tup xs] => .ok (.tup xs)
  | _ => .no
theorem q_k_tuple : OKC X (.type "tuple") (fun xs H Q => ∃ p ys, xs = [.ref p] ∧ ((SqL X.K H p ys ∧ ∀ l, H l = none → Q (.ref l) (upd H l (.tup ys))) ∨ (SqT X.K H p ys ∧ Q (.ref p) H))) gTuple := ⟨call_tuple_of, fun vs ds B H Q i r h => by
  unfold gTuple at h
  split at h
  · cases r with
    | cons r1 r2 =>
      cases r2
      cases r1 with
      | lst h1 q => exact ⟨_, _, rfl, .inl ⟨i.seq h1, fun p hp => h _ _ _ (Grow.new i hp) (.tup (SqT.of upd_same) (q.mono (Grow.new (K := X.K) i hp).b))⟩⟩
  · cases r with
    | cons r1 r2 =>
      cases r2
      cases r1 with
      | tup h1 q => exact ⟨_, _, rfl, .inr ⟨sqT_mono i h1, h _ B H (Grow.refl i) (.tup h1 q)⟩⟩
  · exact h.elim, fun ds x => by unfold gTuple; split <;> simp⟩
theorem k_tuple (K : PySem.W.Frag) (hK : X.K = K) : OKC X (.type "tuple") (fun xs H Q => ∃ p ys, xs = [.ref p] ∧ ((SqL K H p ys ∧ ∀ l, H l = none → Q (.ref l) (upd H l (.tup ys))) ∨ (SqT K H p ys ∧ Q (.ref p) H))) gTuple := by
  subst hK
  exact (q_k_tuple )
noncomputable def tyD : D → Option String
  | .v .non => some "NoneType"
  | .v (.bl _) => some "bool"
  | .v (.int _) => some "int"
  | .v (.str _) => some "str"
  | .lst _ => some "list"
  | .tup _ => some "tuple"
  | _ => none
end
end DV
namespace DV
open PySem L2
section
variable {X : Cx} {W : WX} {K : PySem.W.Frag}
noncomputable def isiD (d : D) (T : String) : Option Bool := match tyD d with
  | some t => if T = "int" then some (t == "int" || t == "bool") else if T = "bool" then some (t == "bool") else if T = "str" then some (t == "str") else if T = "list" then some (t == "list") else if T = "tuple" then some (t == "tuple") else none
  | none => none
noncomputable def tys : List String := ["NoneType", "bool", "int", "str", "list", "tuple"]
theorem kit_all : (tys.all fun t => kitB t "int" == some (t == "int" || t == "bool") && kitB t "bool" == some (t == "bool") && kitB t "str" == some (t == "str") && kitB t "list" == some (t == "list") && kitB t "tuple" == some (t == "tuple")) = true := by decide +kernel
theorem tyD_mem {d : D} {t : String} (h : tyD d = some t) : t ∈ tys := by
  unfold tyD at h
  split at h <;> first | (cases h; decide) | cases h
theorem kit_isi {d : D} {T t : String} {b : Bool} (ht : tyD d = some t) (h : isiD d T = some b) : kitB t T = some b := by
  have hm := List.all_eq_true.mp kit_all t (tyD_mem ht)
  simp only [Bool.and_eq_true, beq_iff_eq] at hm
  unfold isiD at h
  rw [ht] at h
  dsimp only at h
  obtain ⟨⟨⟨⟨h1, h2⟩, h3⟩, h4⟩, h5⟩ := hm
  split at h
  · rename_i e; rw [e, h1]; exact h
  · split at h
    · rename_i e; rw [e, h2]; exact h
    · split at h
      · rename_i e; rw [e, h3]; exact h
      · split at h
        · rename_i e; rw [e, h4]; exact h
        · split at h
          · rename_i e; rw [e, h5]; exact h
          · cases h
theorem tyX_of {B H : Hp} {x : V} {d : D} {t : String} (i : Same B H) (r : Rp K B x d) (ht : tyD d = some t) : TyX K H x (.type t) := by
  cases r with
  | v x =>
    unfold tyD at ht
    cases x <;> first | (cases ht; exact .base .non) | (cases ht; exact .base (.bl _)) | (cases ht; exact .base (.int _)) | (cases ht; exact .base (.str _)) | cases ht
  | lst h q =>
    cases ht
    rcases h with (h | ⟨o, h⟩) | ⟨o, its, n, h1, h2, _⟩
    · exact .base (.lst (i _ _ h))
    · exact .base (.frz (i _ _ h))
    · exact .kList h1 h2
  | tup h q =>
    cases ht
    rcases h with (h | ⟨o, h⟩) | ⟨o, its, n, h1, h2, _⟩
    · exact .base (.tup (i _ _ h))
    · exact .fTuple (i _ _ h)
    · exact .kTuple h1 h2
  | dct h q => cases ht
  | dlk h q => cases ht
  | dcT _ _ _ _ _ _ _ => cases ht
  | ins h _ _ q => cases ht
  | ptp _ _ => cases ht
  | wor _ _ _ _ => cases ht
noncomputable def gIsi : List D → Res D
  | [d, .v (.ty T)] => match isiD d T with
    | some b => .ok (.bl b)
    | none => .no
  | _ => .no
theorem q_k_isi : OKC X (.builtin "isinstance") (rIsi X.K) gIsi := ⟨call_isi, fun vs ds B H Q i r h => by
  unfold gIsi at h
  split at h
  · split at h
    · rename_i d T _ b e
      cases r with
      | cons r1 r2 =>
        cases r2 with
        | cons r2 r3 =>
          cases r2
          cases r3
          cases ht : tyD d with
          | none => unfold isiD at e; rw [ht] at e; cases e
          | some t => exact ⟨_, _, _, _, b, rfl, .ty T, tyX_of i r1 ht, kit_ty (kit_isi ht e), h _ B H (Grow.refl i) (.v _)⟩
    · exact h.elim
  · exact h.elim, fun ds x => by unfold gIsi; split <;> (try split) <;> simp⟩
theorem k_isi (K : PySem.W.Frag) (hK : X.K = K) : OKC X (.builtin "isinstance") (rIsi K) gIsi := by
  subst hK
  exact (q_k_isi )
noncomputable def wipeD (δ : DS) : List Nat → DS
  | [] => δ
  | v :: vs => (wipeD δ vs).set v none
theorem Rel.wipe {B0 : Hp} {H0 : Org} {B H : Hp} {σ : L2.St} {δ : DS} (r : Rel K B0 H0 B H σ δ) : ∀ vs : List Nat, Rel K B0 H0 B H (wipe σ vs) (wipeD δ vs)
  | [] => r
  | v :: vs => (Rel.wipe r vs).drop v
theorem wipe_get (σ : L2.St) (j : Nat) : ∀ vs : List Nat, (wipe σ vs)[j]? = if j ∈ vs ∧ j < σ.length then some none else σ[j]?
  | [] => by simp [wipe]
  | v :: vs => by
    unfold wipe
    by_cases hv : v = j
    · subst hv
      by_cases hl : v < σ.length
      · rw [List.getElem?_set_self (by rw [wipe_length]; exact hl), if_pos ⟨by simp, hl⟩]
      · rw [if_neg (fun z => hl z.2), List.getElem?_eq_none (by simp [wipe_length]; omega), List.getElem?_eq_none (by omega)]
    · rw [List.getElem?_set_ne hv, wipe_get σ j vs]
      have hv' : ¬ j = v := fun e => hv e.symm
      simp only [List.mem_cons, hv', false_or]
theorem wipe_eq {σ σ' : L2.St} {vs : List Nat} (hl : σ'.length = σ.length) (h : ∀ j, j ∉ vs → σ'[j]? = σ[j]?) : wipe σ' vs = wipe σ vs := by
  apply List.ext_getElem?
  intro j
  rw [wipe_get, wipe_get, hl]
  by_cases hj : j ∈ vs
  · by_cases h2 : j < σ.length
    · rw [if_pos ⟨hj, h2⟩, if_pos ⟨hj, h2⟩]
    · rw [if_neg (fun z => h2 z.2), if_neg (fun z => h2 z.2), List.getElem?_eq_none (by omega), List.getElem?_eq_none (by omega)]
  · rw [if_neg (fun z => hj z.1), if_neg (fun z => hj z.1)]
    exact h j hj
structure CG (X : Cx) (tg : Expr) (g : TG) (is : List Nat) (b : D → DS → Option DS) : Prop where
  pg : PG X tg g
  sg : ∀ B0 H0 B H σ δ v d (Q : L2.St → Hp → Prop), Rel X.K B0 H0 B H σ δ → Rp X.K B v d → (∀ δ' σ', b d δ = some δ' → Rel X.K B0 H0 B H σ' δ' → σ'.length = σ.length → (∀ j, j ∉ is → σ'[j]? = σ[j]?) → Q σ' H) → b d δ ≠ none → g v σ H Q
structure CGs (X : Cx) (tgs : List Expr) (g : TGs) (is : List Nat) (b : List D → DS → Option DS) : Prop where
  pg : PGs X tgs g
  sg : ∀ B0 H0 B H σ δ vs ds (Q : L2.St → Hp → Prop), Rel X.K B0 H0 B H σ δ → RpA X.K B vs ds → (∀ δ' σ', b ds δ = some δ' → Rel X.K B0 H0 B H σ' δ' → σ'.length = σ.length → (∀ j, j ∉ is → σ'[j]? = σ[j]?) → Q σ' H) → b ds δ ≠ none → g vs σ H Q
noncomputable def bName (i : Nat) : D → DS → Option DS := fun d δ => some (δ.set i (some (.im d)))
theorem cg_name (i : Nat) {x : Str} {pos : Pos} (hN : X.N.Nodup) (hi : X.N[i]? = some x := by rfl) (hx : Loc X.env.scope x := by first | exact Or.inl rfl | exact Or.inr rfl) (hf : X.fn x = true ∨ X.env.scope.names.lookup x = some .local := by first | exact .inl rfl | exact .inr rfl | assumption) : CG X (.Name x pos) (gName i) [i] (bName i) :=
  ⟨pg_name hN hi hx hf, fun B0 H0 B H σ δ v d Q rel rp h _ => h _ _ rfl (rel.set i rp) (by simp) fun j hj => by
    rw [List.getElem?_set_ne]
    intro e
    exact hj (by simp [e])⟩
noncomputable def bNil : List D → DS → Option DS := fun ds δ => match ds with
  | [] => some δ
  | _ => none
noncomputable def bCons (b : D → DS → Option DS) (c : List D → DS → Option DS) : List D → DS → Option DS := fun ds δ => match ds with
  | [] => none
  | d :: ds => (b d δ).bind fun δ' => c ds δ'
noncomputable def bTup (n : Nat) (c : List D → DS → Option DS) : D → DS → Option DS := fun d δ => match d with
  | .tup ds => if ds.length = n then c ds δ else none
  | _ => none
theorem cgs_nil : CGs X [] gNil [] bNil := ⟨pgs_nil, fun B0 H0 B H σ δ vs ds Q rel rp h hn => by
  cases rp with
  | nil => exact ⟨rfl, h δ σ rfl rel rfl fun _ _ => rfl⟩
  | cons _ _ => exact absurd rfl hn⟩
theorem cgs_cons {e : Expr} {es : List Expr} {t : TG} {u : TGs} {is js : List Nat} {b : D → DS → Option DS} {c : List D → DS → Option DS} (h1 : CG X e t is b) (h2 : CGs X es u js c) (hs : (assignEach (e :: es) X.env).map (·.2) = assign e X.env :: (assignEach es X.env).map (·.2)) : CGs X (e :: es) (gCons t u) (is ++ js) (bCons b c) :=
  ⟨pgs_cons h1.pg h2.pg hs, fun B0 H0 B H σ δ vs ds Q rel rp h hn => by
    cases rp with
    | nil => exact absurd rfl hn
    | @cons v vs d ds r1 r2 =>
      refine ⟨v, vs, rfl, ?_⟩
      have e0 : bCons b c (d :: ds) δ = (b d δ).bind fun δ' => c ds δ' := rfl
      rw [e0] at hn
      refine h1.sg B0 H0 B H σ δ v d _ rel r1 (fun δ1 σ1 e1 rel1 l1 f1 => ?_) (fun z => hn (by rw [z]; rfl))
      rw [e1] at hn
      refine h2.sg B0 H0 B H σ1 δ1 vs ds _ rel1 r2 (fun δ2 σ2 e2 rel2 l2 f2 => ?_) hn
      refine h δ2 σ2 (by rw [e0, e1]; exact e2) rel2 (l2.trans l1) fun j hj => ?_
      rw [List.mem_append, not_or] at hj
      exact (f2 j hj.2).trans (f1 j hj.1)⟩
theorem q_cg_tup {es : List Expr} {kk : Nat} {pos : Pos} {t : TGs} {n : Nat} {is : List Nat} {c : List D → DS → Option DS} (hc : X.calm = true) (h : CGs X es t is c) (hn : (assignEach es X.env).length = n) (hst : (assignEach es X.env).findIdx? (·.1) = none) : CG X (.Tuple es kk pos) (gTup X.K n t) is (bTup n c) :=
  ⟨pg_tup hc h.pg hn hst, fun B0 H0 B H σ δ v d Q rel rp hq hn => by
    unfold bTup at hn
    split at hn
    · rename_i ds
      split at hn
      · rename_i hl
        cases rp with
        | tup h1 q =>
          refine ⟨_, _, rfl, sqT_mono rel.g.i h1, by rw [q.length]; exact hl, ?_⟩
          refine h.sg B0 H0 B H σ δ _ ds _ rel q (fun δ' σ' e r l f => hq δ' σ' ?_ r l f) hn
          unfold bTup
          dsimp only
          rw [if_pos hl]
          exact e
      · exact absurd rfl hn
    · exact absurd rfl hn⟩
theorem cg_tup (K : PySem.W.Frag) (hK : X.K = K) {es : List Expr} {kk : Nat} {pos : Pos} {t : TGs} {n : Nat} {is : List Nat} {c : List D → DS → Option DS} (hc : X.calm = true) (h : CGs X es t is c) (hn : (assignEach es X.env).length = n) (hst : (assignEach es X.env).findIdx? (·.1) = none) : CG X (.Tuple es kk pos) (gTup K n t) is (bTup n c) := by
  subst hK
  exact (q_cg_tup hc h hn hst)
noncomputable def PostI (K : PySem.W.Frag) (B H : Hp) (σ : L2.St) (W : WX) (R : It → Hp → Prop) : Res (List D) → Prop
  | .ok ds => ∀ J B' H' G Y, Grow K B H B' H' → Walk J ds.length G Y → (∀ H2, Same B' H2 → G H2) →
      (∀ i d B2 H2 x H3, ds[i]? = some d → Same B' B2 → Same B2 H2 → Y i H2 x H3 → ∃ B3, Grow K B2 H2 B3 H3 ∧ Rp K B3 x d) → R J H'
  | .er x => ∀ c dx B' H', Grow K B H B' H' → RpX K B' c dx x → W c dx σ H'
  | .no => False
structure CI (X : Cx) (W : WX) (tg iter : Expr) (wi : TI) (f : DS → Res (List D)) : Prop where
  pi : PI X tg iter wi
  si : ∀ B0 H0 δ σ B H (R : It → Hp → Prop), Rel X.K B0 H0 B H σ δ → PostI X.K B H σ W R (f δ) → wi σ H R
theorem pi_or {tg iter : Expr} {wi wi' : TI} (h : PI X tg iter wi) (h' : PI X tg iter wi') : PI X tg iter (fun σ H R => wi σ H R ∨ wi' σ H R) :=
  ⟨fun pins s σ H R I q => q.elim (h.run pins s σ H R I) (h'.run pins s σ H R I)⟩
noncomputable def charsD (z : Str) : List D := z.cps.toList.map fun c => D.str ⟨#[c]⟩
noncomputable def itemsD : D → Res (List D)
  | .lst xs => .ok xs
  | .tup xs => .ok xs
  | .v (.str z) => .ok (charsD z)
  | _ => .no
noncomputable def cItems (f : DS → Res D) : DS → Res (List D) := fun δ => (f δ).bind itemsD
theorem q_ci_seq {tg e : Expr} {t : TE} {f : DS → Res D} (h : CE X W e t f) : CI X W tg e (fun σ H R => iList X.K t σ H R ∨ (iTup X.K t σ H R ∨ iStr t σ H R)) (cItems f) :=
  ⟨pi_or (pi_list h.pe) (pi_or (pi_tup h.pe) (pi_str h.pe)), fun B0 H0 δ σ B H R rel hp => by
    unfold cItems at hp
    cases e : f δ with
    | no => rw [e] at hp; exact hp.elim
    | er x =>
      rw [e] at hp
      exact .inl (h.se B0 H0 δ σ B H _ rel (by rw [e]; exact hp))
    | ok d =>
      rw [e, Res.bind_ok] at hp
      unfold itemsD at hp
      split at hp
      · refine .inl (h.se B0 H0 δ σ B H _ rel ?_)
        rw [e]
        intro v B1 H1 g1 r1
        cases r1 with
        | @lst a xs ds h1 q =>
          refine ⟨a, rfl, ⟨xs, g1.i.seq h1⟩, ?_⟩
          refine hp _ B1 H1 _ _ g1 (q.length ▸ walk_list) (fun H2 s2 => s2.seq h1) fun i d B2 H2 x H3 hi s1 s2 y => ?_
          obtain ⟨rfl, hx⟩ := y
          obtain ⟨d', hd, rp⟩ := q.get' hx
          rw [hd] at hi
          cases hi
          exact ⟨B2, Grow.refl s2, rp.mono s1⟩
      · refine .inr (.inl (h.se B0 H0 δ σ B H _ rel ?_))
        rw [e]
        intro v B1 H1 g1 r1
        cases r1 with
        | @tup a xs ds h1 q =>
          refine ⟨a, rfl, ⟨xs, sqT_mono g1.i h1⟩, ?_⟩
          refine hp _ B1 H1 _ _ g1 (q.length ▸ walk_tup) (fun H2 s2 => sqT_mono s2 h1) fun i d B2 H2 x H3 hi s1 s2 y => ?_
          obtain ⟨rfl, hx⟩ := y
          obtain ⟨d', hd, rp⟩ := q.get' hx
          rw [hd] at hi
          cases hi
          exact ⟨B2, Grow.refl s2, rp.mono s1⟩
      · rename_i z
        refine .inr (.inr (h.se B0 H0 δ σ B H _ rel ?_))
        rw [e]
        intro v B1 H1 g1 r1
        cases r1
        refine ⟨z, rfl, ?_⟩
        have hl : (charsD z).length = z.cps.size := by simp [charsD]
        refine hp _ B1 H1 _ _ g1 (by rw [hl]; exact walk_str) (fun _ _ => trivial) fun i d B2 H2 x H3 hi s1 s2 y => ?_
        obtain ⟨rfl, c, hc, rfl⟩ := y
        refine ⟨B2, Grow.refl s2, ?_⟩
        have : (charsD z)[i]? = some (D.str ⟨#[c]⟩) := by
          unfold charsD
          rw [List.getElem?_map, Array.getElem?_toList, hc]
          rfl
        rw [this] at hi
        cases hi
        exact .v _
      · exact hp.elim⟩
theorem ci_seq (K : PySem.W.Frag) (hK : X.K = K) {tg e : Expr} {t : TE} {f : DS → Res D} (h : CE X W e t f) : CI X W tg e (fun σ H R => iList K t σ H R ∨ (iTup K t σ H R ∨ iStr t σ H R)) (cItems f) := by
  subst hK
  exact (q_ci_seq h)
noncomputable def rangeD (lo : Int) (n : Nat) : List D := (List.range n).map fun (i : Nat) => D.int (lo + (i : Int))
noncomputable def gRange1 : List D → Res (List D)
  | [.v (.int j)] => if j.natAbs ≤ 1000000000 then .ok (rangeD 0 j.toNat) else .no
  | _ => .no
noncomputable def cIt (g : List D → Res (List D)) (f : DS → Res (List D)) : DS → Res (List D) := fun δ => (f δ).bind g
theorem postI_range {B H : Hp} {σ : L2.St} {R : It → Hp → Prop} {lo : Int} {n : Nat} {B1 H1 : Hp} (g1 : Grow K B H B1 H1) (hp : PostI K B H σ W R (.ok (rangeD lo n))) : R (Itr lo n) H1 := by
  have hl : (rangeD lo n).length = n := by simp [rangeD]
  refine hp _ B1 H1 _ _ g1 (by rw [hl]; exact walk_range) (fun _ _ => trivial) fun i d B2 H2 x H3 hi s1 s2 y => ?_
  obtain ⟨rfl, rfl⟩ := y
  refine ⟨B2, Grow.refl s2, ?_⟩
  unfold rangeD at hi
  rw [List.getElem?_map] at hi
  cases e : (List.range n)[i]? with
  | none => rw [e] at hi; cases hi
  | some j =>
    rw [e] at hi
    have : j = i := by
      have := List.getElem?_eq_some_iff.mp e
      obtain ⟨h1, h2⟩ := this
      simp at h2
      exact h2.symm
    subst this
    cases hi
    exact .v _
theorem ci_range1 {tg a : Expr} {p pos : Pos} {t : TA} {f : DS → Res (List D)} (hm : X.mg "range" = none) (ha : CL X W [a] t f) (hg : Gl X "range" := by rfl) (hs : starEach [a] X.env = [(false, eval a X.env)] := by rfl) : CI X W tg (.Call (.Name "range" p) [a] [] pos) (iRng1 t) (cIt gRange1 f) :=
  ⟨pi_range1 hg hm ha.pa hs, fun B0 H0 δ σ B H R rel hp => by
    unfold cIt at hp
    refine ha.sa B0 H0 δ σ B H _ rel ?_
    cases e : f δ with
    | no => rw [e] at hp; exact hp
    | er x => rw [e] at hp; exact hp
    | ok ds =>
      rw [e, Res.bind_ok] at hp
      intro vs B1 H1 g1 r1
      unfold gRange1 at hp
      split at hp
      · split at hp
        · rename_i hz
          cases r1 with
          | cons r1 r2 => cases r1; cases r2; exact ⟨_, rfl, by omega, by omega, postI_range g1 hp⟩
        · exact hp.elim
      · exact hp.elim⟩
noncomputable abbrev W0 : WX := fun _ _ _ _ => False
noncomputable def Res.calm {α : Type} : Res α → Res α
  | .ok a => .ok a
  | _ => .no
@[simp] theorem Res.calm_ok {α : Type} (a : α) : (Res.ok a).calm = .ok a := rfl
@[simp] theorem Res.calm_er {α : Type} (x : Exn) : (Res.er x : Res α).calm = .no := rfl
@[simp] theorem Res.calm_no {α : Type} : (Res.no : Res α).calm = .no := rfl
noncomputable def lcF (b : D → DS → Option DS) (t : DS → Res Bool) (e : DS → Res D) : List D → DS → Res (List D)
  | [], _ => .ok []
  | d :: ds, δ => match b d δ with
    | none => .no
    | some δ' => (t δ').calm.bind fun k => if k = true then (e δ').calm.bind fun y => (lcF b t e ds δ).bind fun ys => .ok (y :: ys) else lcF b t e ds δ
theorem lcF_calm (b : D → DS → Option DS) (t : DS → Res Bool) (e : DS → Res D) : ∀ (ds : List D) (δ : DS) (x : Exn), lcF b t e ds δ ≠ .er x
  | [], δ, x => by simp [lcF]
  | d :: ds, δ, x => by
    unfold lcF
    split
    · simp
    · rename_i δ' _
      have ih := lcF_calm b t e ds δ x
      cases h1 : t δ' with
      | no => simp
      | er x => simp
      | ok k =>
        simp only [Res.calm_ok, Res.bind_ok]
        split
        · cases h2 : e δ' with
          | no => simp
          | er x => simp
          | ok y =>
            simp only [Res.calm_ok, Res.bind_ok]
            cases h3 : lcF b t e ds δ with
            | no => simp
            | er x' => simp only [Res.bind_er]; rw [h3] at ih; exact ih
            | ok ys => simp
        · exact ih
noncomputable def cLc (vs : List Nat) (fi : DS → Res (List D)) (b : D → DS → Option DS) (t : DS → Res Bool) (e : DS → Res D) : DS → Res (List D) := fun δ => (fi δ).bind fun ds => if ds.length ≤ sizeLine then lcF b t e ds (wipeD δ vs) else .no
structure CTs (X : Cx) (W : WX) (ifs : List Expr) (t : TT) (f : DS → Res Bool) : Prop where
  pt : PTs X ifs t
  st : ST X.K W t f
noncomputable def cYes : DS → Res Bool := fun _ => .ok true
theorem cts_nil : CTs X W [] tYes cYes := ⟨pts_nil, fun B0 H0 δ σ B H Q rel hp => hp B H (Grow.refl rel.g.i)⟩
theorem sf_lc {wi : TI} {g : TG} {tt : TT} {te : TE} {vs is : List Nat} {fi : DS → Res (List D)} {b : D → DS → Option DS} {t : DS → Res Bool} {e : DS → Res D}
    (hi : ∀ B0 H0 δ σ B H (R : It → Hp → Prop), Rel K B0 H0 B H σ δ → PostI K B H σ W R (fi δ) → wi σ H R)
    (hg : ∀ B0 H0 B H σ δ v d (Q : L2.St → Hp → Prop), Rel K B0 H0 B H σ δ → Rp K B v d → (∀ δ' σ', b d δ = some δ' → Rel K B0 H0 B H σ' δ' → σ'.length = σ.length → (∀ j, j ∉ is → σ'[j]? = σ[j]?) → Q σ' H) → b d δ ≠ none → g v σ H Q)
    (ht : ST K W0 tt t) (he : SE K W0 te e) (his : ∀ i ∈ is, i ∈ vs) : SF K W (tLc wi g tt te vs) (cLc vs fi b t e) := fun B0 H0 δ σ B H Q rel hp => by
  unfold cLc at hp
  refine hi B0 H0 δ σ B H _ rel ?_
  cases e1 : fi δ with
  | no => rw [e1] at hp; exact hp
  | er x => rw [e1] at hp; exact hp
  | ok ds =>
    rw [e1, Res.bind_ok] at hp
    split at hp
    case isFalse => exact hp.elim
    case isTrue hz =>
      intro J B1 H1 G Y g1 wk hG hY Dl hD
      cases e2 : lcF b t e ds (wipeD δ vs) with
      | no => rw [e2] at hp; exact hp.elim
      | er x => exact absurd e2 (lcF_calm b t e ds _ x)
      | ok ys =>
        rw [e2] at hp
        have relw := (rel.mono g1).wipe vs
        refine lc_it wk (fun i H' => ∃ B' us done rest, Grow K B1 H1 B' H' ∧ B' Dl = none ∧ H' Dl = some (.lst us) ∧ RpA K B' us done ∧ us.length ≤ i ∧ lcF b t e (ds.drop i) (wipeD δ vs) = .ok rest ∧ done ++ rest = ys) ?_ ?_ ?_ ?_
        · exact ⟨B1, [], [], ys, Grow.raw g1.i hD, g1.i.free hD, upd_same, .nil, Nat.zero_le _, by simpa using e2, rfl⟩
        · rintro i H' hin ⟨B', us, done, rest, gr, hb, hh, rp, hl, hr, hy⟩
          exact hG H' (gr.b.trans gr.i)
        · rintro i x H2 H3 hin ⟨B', us, done, rest, gr, hb, hh, rp, hl, hr, hy⟩ y
          have hlt : i < ds.length := hin
          have hdi : ds[i]? = some ds[i] := by simp [hlt]
          obtain ⟨B3, g3, rx⟩ := hY i ds[i] B' H2 x H3 hdi gr.b gr.i y
          have hdrop : ds.drop i = ds[i] :: ds.drop (i + 1) := List.drop_eq_getElem_cons hlt
          rw [hdrop] at hr
          unfold lcF at hr
          cases e3 : b ds[i] (wipeD δ vs) with
          | none => rw [e3] at hr; cases hr
          | some δ' =>
            rw [e3] at hr
            dsimp only at hr
            have rel3 : Rel K B0 H0 B3 H3 (wipe σ vs) (wipeD δ vs) := (relw.mono gr).mono g3
            refine hg B0 H0 B3 H3 _ _ x ds[i] _ rel3 rx (fun δ2 σ2 e4 rel4 l4 f4 => ?_) (by rw [e3]; simp)
            rw [e3] at e4
            cases e4
            refine ⟨?_, ?_⟩
            · refine (wipe_eq (σ := wipe σ vs) l4 fun j hj => f4 j fun z => hj (his j z)).trans (wipe_eq (wipe_length σ vs) fun j hj => ?_)
              rw [wipe_get, if_neg (fun z => hj z.1)]
            refine ht B0 H0 δ' σ2 B3 H3 _ rel4 ?_
            cases e5 : t δ' with
            | no => rw [e5] at hr; simp at hr
            | er x => rw [e5] at hr; simp at hr
            | ok k =>
              rw [e5, Res.calm_ok, Res.bind_ok] at hr
              intro B4 H4 g4
              cases k with
              | false =>
                rw [if_neg Bool.false_ne_true] at hr ⊢
                have gg := (gr.trans g3).trans g4
                have hD4 : H4 Dl = some (.lst us) := (g3.trans g4).h _ _ hh ⟨fun _ z => (by cases z), fun _ _ _ z => (by cases z)⟩
                refine ⟨B4, us, done, rest, gg, ?_, hD4, rp.mono (g3.b.trans g4.b), by omega, hr, hy⟩
                rw [(g3.trans g4).f Dl (by rw [hh]; simp)]; exact hb
              | true =>
                rw [if_pos rfl] at hr ⊢
                refine he B0 H0 δ' σ2 B4 H4 _ (rel4.mono g4) ?_
                cases e6 : e δ' with
                | no => rw [e6] at hr; simp at hr
                | er x => rw [e6] at hr; simp at hr
                | ok yd =>
                  rw [e6, Res.calm_ok, Res.bind_ok] at hr
                  intro yv B5 H5 g5 r5
                  have gA := (g3.trans g4).trans g5
                  have hD5 : H5 Dl = some (.lst us) := gA.h _ _ hh ⟨fun _ z => (by cases z), fun _ _ _ z => (by cases z)⟩
                  have hB5 : B5 Dl = none := by rw [gA.f Dl (by rw [hh]; simp)]; exact hb
                  refine ⟨us, hD5, by omega, ?_⟩
                  cases e7 : lcF b t e (ds.drop (i + 1)) (wipeD δ vs) with
                  | no => rw [e7] at hr; cases hr
                  | er x => exact absurd e7 (lcF_calm b t e _ _ x)
                  | ok rest' =>
                    rw [e7, Res.bind_ok] at hr
                    cases hr
                    have gT := gr.trans gA
                    have neD : ∀ a o, B5 a = some o → a ≠ Dl := fun a o q z => by rw [z, hB5] at q; cases q
                    refine ⟨B5, us ++ [yv], done ++ [yd], rest', ⟨gT.b, fun a o q nq => ?_, fun a o q => ?_, gT.f, fun a ha => ?_, fun P hP => tab_upd (gT.t P hP) hD5, gT.np hD5 (std_lst _).2⟩, hB5, upd_same, (rp.mono gA.b).append (.cons r5 .nil), by simp; omega, rfl, by simpa using hy⟩
                    · rw [upd_ne (ne_of_none q hD)]; exact gT.h a o q nq
                    · rw [upd_ne (neD a o q)]; exact gT.i a o q
                    · have : a ≠ Dl := fun z => ha (by rw [z]; exact hD)
                      rw [upd_ne this]; exact gT.e a ha
        · rintro H' ⟨B', us, done, rest, gr, hb, hh, rp, hl, hr, hy⟩
          rw [List.drop_length] at hr
          cases hr
          rw [List.append_nil] at hy
          subst hy
          exact hp Dl us B' H' (g1.trans gr) (g1.free hD) hb hh rp
structure LC (X : Cx) (W : WX) (e : Expr) (t : TE) (f : DS → Res (List D)) : Prop extends CF X W e t f where
  set_ : ∀ (i : Nat) (y : Str) (py spos : Pos), X.N[i]? = some y → X.env.scope.names.lookup y = some .local → swapsWith e (some (.Name y py)) spos.line X.env = pure true → PS X (.Assign [.Name y py] e spos) (tAsg t (gName i))
theorem lc_1 {elt tg iter : Expr} {ifs : List Expr} {scope : Scope} {own : List (Str × Nat)} {pos : Pos} {wi : TI} {g : TG} {tt : TT} {te : TE} {is : List Nat} {fi : DS → Res (List D)} {b : D → DS → Option DS} {t : DS → Res Bool} {e : DS → Res D}
    (s0 : Shared) (hc : X.calm = true) (hN : X.N.Nodup) (hi : CI X W tg iter wi fi) (ok : BlkOk X.N X.env.scope scope own)
    (hg : ∀ (s : Shared) (H : Hp) (C : Addr) (cl : List (Str × Addr)) (fp : List Addr), CG (X.blk s H scope (compEnvC scope cl C X.env) fp) tg g is b)
    (ht : ∀ (s : Shared) (H : Hp) (C : Addr) (cl : List (Str × Addr)) (fp : List Addr), CTs (X.blk s H scope (compEnvC scope cl C X.env) fp) W0 ifs tt t)
    (he : ∀ (s : Shared) (H : Hp) (C : Addr) (cl : List (Str × Addr)) (fp : List Addr), CE (X.blk s H scope (compEnvC scope cl C X.env) fp) W0 elt te e)
    (his : ∀ i ∈ is, i ∈ own.map (·.2) := by decide) (hs : ∀ x, foldedSetIterable iter X.env x = pure x := by intro _; rfl) :
    LC X W (.ListComp elt [⟨tg, iter, ifs, 0⟩] scope pos) (tLc wi g tt te (own.map (·.2))) (cLc (own.map (·.2)) fi b t e) :=
  ⟨⟨pe_lc hc hN hi.pi ok (fun s H C cl fp => (hg s H C cl fp).pg) (fun s H C cl fp => (ht s H C cl fp).pt) (fun s H C cl fp => (he s H C cl fp).pe) hs,
    sf_lc hi.si (hg s0 (fun _ => none) 0 [] []).sg (ht s0 (fun _ => none) 0 [] []).st (he s0 (fun _ => none) 0 [] []).se his⟩,
   fun i y py spos hy hyl hsw => ps_setLc hc hN hy hyl hsw hi.pi ok (fun s H C cl fp => (hg s H C cl fp).pg) (fun s H C cl fp => (ht s H C cl fp).pt) (fun s H C cl fp => (he s H C cl fp).pe) hs⟩
end
end DV
namespace DV
open PySem L2
noncomputable def stE {α : Type} (r : Res α) (δ : DS) (k : α → Fl) : Fl := match r with
  | .ok a => k a
  | .er x => .rs x δ
  | .no => .no
@[simp] theorem stE_ok {α : Type} (a : α) (δ : DS) (k : α → Fl) : stE (.ok a) δ k = k a := rfl
@[simp] theorem stE_er {α : Type} (x : Exn) (δ : DS) (k : α → Fl) : stE (.er x : Res α) δ k = .rs x δ := rfl
@[simp] theorem stE_no {α : Type} (δ : DS) (k : α → Fl) : stE (.no : Res α) δ k = .no := rfl
noncomputable def Fl.then : Fl → (DS → Fl) → Fl
  | .nx δ, g => g δ
  | r, _ => r
@[simp] theorem Fl.then_nx (δ : DS) (g : DS → Fl) : (Fl.nx δ).then g = g δ := rfl
@[simp] theorem Fl.then_rt (d : D) (g : DS → Fl) : (Fl.rt d).then g = .rt d := rfl
@[simp] theorem Fl.then_rf (ds : List D) (g : DS → Fl) : (Fl.rf ds).then g = .rf ds := rfl
@[simp] theorem Fl.then_rn (t : T) (g : DS → Fl) : (Fl.rn t).then g = .rn t := rfl
@[simp] theorem Fl.then_ro (d : D) (δ : DS) (g : DS → Fl) : (Fl.ro d δ).then g = .ro d δ := rfl
@[simp] theorem Fl.then_rs (x : Exn) (δ : DS) (g : DS → Fl) : (Fl.rs x δ).then g = .rs x δ := rfl
@[simp] theorem Fl.then_bk (δ : DS) (g : DS → Fl) : (Fl.bk δ).then g = .bk δ := rfl
@[simp] theorem Fl.then_ct (δ : DS) (g : DS → Fl) : (Fl.ct δ).then g = .ct δ := rfl
@[simp] theorem Fl.then_no (g : DS → Fl) : (Fl.no).then g = .no := rfl
section
variable {X : Cx} {W : WX} {K : PySem.W.Frag} {B0 : Hp} {H0 : Org} {B H : Hp} {σ : L2.St} {δ : DS} {E : Ends}
theorem postS_mono {B' : Hp} {r : Fl} (s : Same B B') (h : PostS K B0 H0 B W E r) : PostS K B0 H0 B' W E r := by
  cases r with
  | nx δ => exact fun σ B2 H2 s2 rel => h σ B2 H2 (s.trans s2) rel
  | bk δ => exact fun σ B2 H2 s2 rel => h σ B2 H2 (s.trans s2) rel
  | ct δ => exact fun σ B2 H2 s2 rel => h σ B2 H2 (s.trans s2) rel
  | rt d => exact fun v B2 H2 s2 g rp => h v B2 H2 (s.trans s2) g rp
  | rf ds => exact fun p xs B2 H2 s2 g h0 hb hh rr => h p xs B2 H2 (s.trans s2) g h0 hb hh rr
  | rn t => exact fun v B2 H2 s2 g rt n => h v B2 H2 (s.trans s2) g rt n
  | ro d δ => exact fun v σ B2 H2 s2 rel rp => h v σ B2 H2 (s.trans s2) rel rp
  | rs x δ => exact fun c dx σ B2 H2 s2 rel rp => h c dx σ B2 H2 (s.trans s2) rel rp
  | no => exact h
theorem postE_of {f : Res D} {Q : VK} {k : D → Fl} (rel : Rel K B0 H0 B H σ δ) (h : PostS K B0 H0 B W E (stE f δ k)) (hk : ∀ d v B' H', f = .ok d → Grow K B H B' H' → Rp K B' v d → PostS K B0 H0 B' W E (k d) → Q v H') : PostE K B H σ W Q f := by
  cases f with
  | ok d => exact fun v B' H' g rp => hk d v B' H' rfl g rp (postS_mono g.b h)
  | er x => exact fun c dx B' H' g rp => h c dx σ B' H' g.b (rel.mono g) rp
  | no => exact h
theorem postT_of {f : Res Bool} {Q : Bool → Hp → Prop} {k : Bool → Fl} (rel : Rel K B0 H0 B H σ δ) (h : PostS K B0 H0 B W E (stE f δ k)) (hk : ∀ b B' H', Grow K B H B' H' → PostS K B0 H0 B' W E (k b) → Q b H') : PostT K B H σ W Q f := by
  cases f with
  | ok d => exact fun B' H' g => hk d B' H' g (postS_mono g.b h)
  | er x => exact fun c dx B' H' g rp => h c dx σ B' H' g.b (rel.mono g) rp
  | no => exact h
noncomputable def cSeq (g h : DS → Fl) : DS → Fl := fun δ => (g δ).then h
theorem ss_seq {t u : TS} {g h : DS → Fl} (h1 : SS K W t g) (h2 : SS K W u h) : SS K W (tSeq t u) (cSeq g h) := fun B0 H0 δ σ B H E rel hp => by
  unfold cSeq at hp
  refine h1 B0 H0 δ σ B H _ rel ?_
  cases e : g δ with
  | nx δ' => rw [e] at hp; exact fun σ' B' H' s rel' => h2 B0 H0 δ' σ' B' H' E rel' (postS_mono s hp)
  | bk δ' => rw [e] at hp; exact hp
  | ct δ' => rw [e] at hp; exact hp
  | rt d => rw [e] at hp; exact hp
  | rf d => rw [e] at hp; exact hp
  | rn d => rw [e] at hp; exact hp
  | ro d δ' => rw [e] at hp; exact hp
  | rs x δ' => rw [e] at hp; exact hp
  | no => rw [e] at hp; exact hp
noncomputable def cNext : DS → Fl := fun δ => .nx δ
theorem ss_next : SS K W tNext cNext := fun B0 H0 δ σ B H E rel hp => hp σ B H (Same.refl _) rel
theorem css_nil : CSs X W [] tNext cNext := ⟨pss_nil, ss_next⟩
theorem css_cons {s : Stmt} {ss : List Stmt} {t u : TS} {g h : DS → Fl} (h1 : CS X W s t g) (h2 : CSs X W ss u h) : CSs X W (s :: ss) (tSeq t u) (cSeq g h) := ⟨pss_cons h1.ps h2.ps, ss_seq h1.ss h2.ss⟩
theorem css_one {s : Stmt} {t : TS} {g : DS → Fl} (h1 : CS X W s t g) : CSs X W [s] t g := ⟨pss_one h1.ps, h1.ss⟩
noncomputable def cRet (f : DS → Res D) : DS → Fl := fun δ => stE (f δ) δ fun d => .rt d
theorem cs_ret {e : Expr} {pos : Pos} {t : TE} {f : DS → Res D} (h : CE X W e t f) : CS X W (.Return (some e) pos) (tRet t) (cRet f) :=
  ⟨ps_ret h.pe, fun B0 H0 δ σ B H E rel hp => h.se B0 H0 δ σ B H _ rel (postE_of rel hp fun d v B' H' _ g rp q => q v B' H' (Same.refl _) (rel.g.trans g) rp)⟩
noncomputable def cIf (t : DS → Res Bool) (g h : DS → Fl) : DS → Fl := fun δ => stE (t δ) δ fun b => if b = true then g δ else h δ
theorem cs_if {c : Expr} {a b : List Stmt} {pos : Pos} {tc : TT} {t u : TS} {f : DS → Res Bool} {g h : DS → Fl} (hc : CT X W c tc f) (ha : CSs X W a t g) (hb : CSs X W b u h) : CS X W (.If c a b pos) (tIfS tc t u) (cIf f g h) :=
  ⟨ps_if hc.pt ha.ps hb.ps, fun B0 H0 δ σ B H E rel hp => hc.st B0 H0 δ σ B H _ rel (postT_of rel hp fun b B' H' g q => by
    cases b with
    | true => rw [if_pos rfl] at q ⊢; exact ha.ss B0 H0 δ σ B' H' E (rel.mono g) q
    | false => rw [if_neg Bool.false_ne_true] at q ⊢; exact hb.ss B0 H0 δ σ B' H' E (rel.mono g) q)⟩
noncomputable def cDrop (f : DS → Res D) : DS → Fl := fun δ => stE (f δ) δ fun _ => .nx δ
theorem cs_expr {e : Expr} {pos : Pos} {t : TE} {f : DS → Res D} (h : CE X W e t f) (hs : swapsWith e none pos.line X.env = pure false := by rfl) : CS X W (.Expr e pos) (tDrop t) (cDrop f) :=
  ⟨ps_expr h.pe hs, fun B0 H0 δ σ B H E rel hp => h.se B0 H0 δ σ B H _ rel (postE_of rel hp fun d v B' H' _ g rp q => q σ B' H' (Same.refl _) (rel.mono g))⟩
noncomputable def cAsg (i : Nat) (f : DS → Res D) : DS → Fl := fun δ => stE (f δ) δ fun d => .nx (δ.set i (some (.im d)))
theorem ss_asg {i : Nat} {t : TE} {f : DS → Res D} (h : SE K W t f) : SS K W (tAsg t (gName i)) (cAsg i f) := fun B0 H0 δ σ B H E rel hp =>
  h B0 H0 δ σ B H _ rel (postE_of rel hp fun d v B' H' _ g rp q => q _ B' H' (Same.refl _) ((rel.mono g).set i rp))
theorem cs_set (i : Nat) {x : Str} {e : Expr} {t : TE} {f : DS → Res D} {pos pos' : Pos} (hN : X.N.Nodup) (he : CE X W e t f) (hi : X.N[i]? = some x := by rfl) (hx : Loc X.env.scope x := by first | exact Or.inl rfl | exact Or.inr rfl)
    (hs : swapsWith e (some (.Name x pos')) pos.line X.env = pure false := by rfl) (hf : X.fn x = true ∨ X.env.scope.names.lookup x = some .local := by first | exact .inl rfl | exact .inr rfl | assumption) :
    CS X W (.Assign [.Name x pos'] e pos) (tAsg t (gName i)) (cAsg i f) := ⟨ps_set hN hi hx he.pe hs hf, ss_asg he.se⟩
noncomputable def cAsgG (b : D → DS → Option DS) (f : DS → Res D) : DS → Fl := fun δ => stE (f δ) δ fun d => match b d δ with
  | some δ' => .nx δ'
  | none => .no
theorem cs_asg {tg e : Expr} {t : TE} {f : DS → Res D} {g : TG} {is : List Nat} {b : D → DS → Option DS} {pos : Pos} (he : CE X W e t f) (hg : CG X tg g is b) (hs : swapsWithSole [tg] e pos.line X.env = pure false := by rfl) (hw : swappedStores [tg] e X.env = pure none := by rfl)
    (h1 : List.map (fun x => x.snd) (assignEach [tg] X.env) = [assign tg X.env] := by rfl) : CS X W (.Assign [tg] e pos) (tAsg t g) (cAsgG b f) := ⟨ps_asg he.pe hg.pg hs hw h1, fun B0 H0 δ σ B H E rel hp =>
  he.se B0 H0 δ σ B H _ rel (postE_of rel hp fun d v B' H' _ gr rp q => by
    cases e : b d δ with
    | none => rw [e] at q; exact q.elim
    | some δ' =>
      rw [e] at q
      exact hg.sg B0 H0 B' H' σ δ v d _ (rel.mono gr) rp (fun δ2 σ2 e2 r2 _ _ => by rw [e] at e2; cases e2; exact q σ2 B' H' (Same.refl _) r2) (by rw [e]; simp))⟩
noncomputable def cAug (i : Nat) (o : D → D → Res D) (f : DS → Res D) : DS → Fl := fun δ => stE ((cVar i δ).bind fun x => (f δ).bind fun y => o x y) δ fun d => .nx (δ.set i (some (.im d)))
theorem cs_aug (i : Nat) {x : Str} {e : Expr} {t : TE} {f : DS → Res D} {op : Operator} {r : R2} {o : D → D → Res D} {pos pos' : Pos} (hN : X.N.Nodup) (he : CE X W e t f) (ho : OK2 X (inplaceOp op) r o) (hi : X.N[i]? = some x := by rfl) (hx : Loc X.env.scope x := by first | exact Or.inl rfl | exact Or.inr rfl) (hf : X.fn x = true ∨ X.env.scope.names.lookup x = some .local := by first | exact .inl rfl | exact .inr rfl | assumption) :
    CS X W (.AugAssign (.Name x pos') op e pos) (tAug i t r) (cAug i o f) := ⟨ps_aug hN hi hx he.pe ho.o hf, fun B0 H0 δ σ B H E rel hp => by
  unfold cAug cVar at hp
  cases e1 : δ[i]? with
  | none => rw [e1] at hp; exact hp.elim
  | some o1 =>
    cases o1 with
    | none => rw [e1] at hp; exact hp.elim
    | some o1 =>
      cases o1 with
      | ow ds => rw [e1] at hp; exact hp.elim
      | od ds => rw [e1] at hp; exact hp.elim
      | tr _ _ _ => rw [e1] at hp; exact hp.elim
      | im d =>
        rw [e1] at hp
        obtain ⟨v, h1, h2⟩ := rel.get e1
        refine ⟨v, h1, he.se B0 H0 δ σ B H _ rel ?_⟩
        simp only [Res.bind_ok] at hp
        cases e2 : f δ with
        | no => rw [e2] at hp; exact hp
        | er x => rw [e2] at hp; exact fun c dx B' H' g rp => hp c dx σ B' H' g.b (rel.mono g) rp
        | ok d2 =>
          rw [e2, Res.bind_ok] at hp
          intro v2 B' H' g rp
          refine ho.r v v2 d d2 B' H' _ g.i (h2.mono g.b) rp ?_
          cases e3 : o d d2 with
          | no => rw [e3] at hp; exact hp
          | er x => exact absurd e3 (ho.c d d2 x)
          | ok z =>
            rw [e3, stE_ok] at hp
            exact fun zv B2 H2 g2 r2 => hp _ B2 H2 (g.b.trans g2.b) (((rel.mono g).mono g2).set i r2)⟩
noncomputable def oAddI : D → D → Res D
  | .v (.int i), .v (.int j) => .ok (.int (i + j))
  | _, _ => .no
theorem iop_mulW : OpR X (inplaceOp .Mult) (rI CMulW fun i j => .int (i * j)) := opI fun _ _ _ _ _ _ _ hc q => PyProof.Rows.imul_int q hc.ok
noncomputable def oMulI : D → D → Res D
  | .v (.int i), .v (.int j) => if i.natAbs.log2 + j.natAbs.log2 < 1000000 then .ok (.int (i * j)) else .no
  | _, _ => .no
theorem oi_mul : OK2 X (inplaceOp .Mult) (rI CMulW fun i j => .int (i * j)) oMulI := ⟨iop_mulW, ro_I fun d e z h => (by
  unfold oMulI at h
  split at h
  · split at h
    · rename_i hz
      cases h; exact ⟨_, _, rfl, rfl, hz, rfl⟩
    · cases h
  · cases h), fun d e x => (by unfold oMulI; split <;> (try split) <;> simp)⟩
noncomputable def cOwn (i : Nat) (f : DS → Res (List D)) : DS → Fl := fun δ => stE (f δ) δ fun ds => .nx (δ.set i (some (.ow ds)))
theorem ss_own {i : Nat} {t : TE} {f : DS → Res (List D)} (h : SF K W t f) : SS K W (tAsg t (gName i)) (cOwn i f) := fun B0 H0 δ σ B H E rel hp => by
  unfold cOwn at hp
  refine h B0 H0 δ σ B H _ rel ?_
  cases e : f δ with
  | no => rw [e] at hp; exact hp
  | er x => rw [e] at hp; exact fun c dx B' H' g rp => hp c dx σ B' H' g.b (rel.mono g) rp
  | ok ds =>
    rw [e, stE_ok] at hp
    intro p vs B' H' g h0 hb hh rp
    exact hp _ B' H' g.b ((rel.mono g).setOw i (rel.g.free h0) hb hh rp (rel.free' g h0))
theorem cs_own (i : Nat) {x : Str} {e : Expr} {t : TE} {f : DS → Res (List D)} {pos pos' : Pos} (hN : X.N.Nodup) (he : CF X W e t f) (hi : X.N[i]? = some x := by rfl) (hx : Loc X.env.scope x := by first | exact Or.inl rfl | exact Or.inr rfl)
    (hs : swapsWith e (some (.Name x pos')) pos.line X.env = pure false := by rfl) (hf : X.fn x = true ∨ X.env.scope.names.lookup x = some .local := by first | exact .inl rfl | exact .inr rfl | assumption) :
    CS X W (.Assign [.Name x pos'] e pos) (tAsg t (gName i)) (cOwn i f) := ⟨ps_set hN hi hx he.pe hs hf, ss_own he.sf⟩
noncomputable def cApp (i : Nat) (f : DS → Res D) : DS → Fl := fun δ => match δ[i]? with
  | some (some (.ow ds)) => stE (f δ) δ fun d => if ds.length < sizeLine then .nx (δ.set i (some (.ow (ds ++ [d])))) else .no
  | _ => .no
theorem cs_app (i : Nat) {x : Str} {e : Expr} {t : TE} {f : DS → Res D} {px apos cpos pos : Pos} (he : CE X W e t f) (hv : PE X (.Name x px) (tVar i))
    (hbase : attributeBase (.Name x px) "append" X.env (eval (.Name x px) X.env) = eval (.Name x px) X.env := by rfl)
    (hfew : ((backTo cpos (starEach [e] X.env)).all (fun x => !x.1) && (backToKw cpos (keywordEach [] X.env)).all (fun x => x.1.isSome) && decide ([e].length + ([] : List Keyword).length + (if ([] : List Keyword).isEmpty then 0 else 1) < 30)) = true := by rfl)
    (hline : (apos.endLine == cpos.line) = true := by rfl) (hst : starEach [e] X.env = (false, eval e X.env) :: starEach [] X.env := by rfl) (hplain : (backTo cpos (starEach [] X.env)).any (·.1) = false := by rfl) (hs : swapsWith (.Call (.Attribute (.Name x px) "append" apos) [e] [] cpos) none pos.line X.env = pure false := by rfl) :
    CS X W (.Expr (.Call (.Attribute (.Name x px) "append" apos) [e] [] cpos) pos) (tDrop (tBM X.K "list" rAppend (tVar i) (tCons t tNil))) (cApp i f) :=
  ⟨ps_expr (pe_bm PySem.F.plainAttrs_list PySem.F.slot_list_append PySem.F.type_list_append mt_append hv (pa_cons he.pe pa_nil hst) hbase hfew hline hst hplain) hs, fun B0 H0 δ σ B H E rel hp => by
    unfold cApp at hp
    split at hp
    · rename_i ds ei
      obtain ⟨v, q1, p, vs, rfl, _, hb, hh, rp⟩ := rel.sl i _ ei
      refine ⟨_, q1, .inl ⟨rfl, vs, SqL.of hh⟩, ?_⟩
      refine he.se B0 H0 δ σ B H _ rel ?_
      cases e1 : f δ with
      | no => rw [e1] at hp; exact hp
      | er x => rw [e1] at hp; exact fun c dx B' H' g rp => hp c dx σ B' H' g.b (rel.mono g) rp
      | ok d =>
        rw [e1, stE_ok] at hp
        split at hp
        · rename_i hz
          intro v B' H' g r1
          refine ⟨p, vs, v, rfl, rfl, g.h _ _ hh ⟨fun _ z => (by cases z), fun _ _ _ z => (by cases z)⟩, by rw [rp.length]; exact hz, ?_⟩
          exact hp σ B' _ g.b ((rel.mono g).write (us := vs) ei q1 ((rp.mono g.b).append (.cons r1 .nil)))
        · exact hp.elim
    · exact hp.elim⟩
noncomputable def fz (i : Nat) (δ : DS) : DS := match δ[i]? with
  | some (some (.ow ds)) => δ.set i (some (.im (.lst ds)))
  | some (some (.tr m k ts)) => δ.set i (some (.im (T.nd k ts).d))
  | _ => δ
theorem Rel.fz {B0 : Hp} {H0 : Org} {B H : Hp} {σ : L2.St} {δ : DS} (r : Rel K B0 H0 B H σ δ) (i : Nat) : ∃ B', Same B B' ∧ Rel K B0 H0 B' H σ (fz i δ) := by
  unfold DV.fz
  split
  · rename_i ds e
    exact r.freeze e
  · rename_i k ts e
    obtain ⟨v, h1, _⟩ := r.sl i _ e
    exact ⟨_, r.freezeT e h1⟩
  · exact ⟨B, Same.refl _, r⟩
noncomputable def cFz (i : Nat) (g : DS → Fl) : DS → Fl := fun δ => g (fz i δ)
theorem ss_fz (i : Nat) {t : TS} {g : DS → Fl} (h : SS K W t g) : SS K W t (cFz i g) := fun B0 H0 δ σ B H E rel hp => by
  obtain ⟨B', s, r⟩ := rel.fz i
  exact h B0 H0 _ σ B' H E r (postS_mono s hp)
theorem cs_fz (i : Nat) {s : Stmt} {t : TS} {g : DS → Fl} (h : CS X W s t g) : CS X W s t (cFz i g) := ⟨h.ps, ss_fz i h.ss⟩
noncomputable def NK.noTp : NK → Bool
  | .tp => false
  | _ => true
mutual
noncomputable def T.noTp : T → Bool
  | .im _ => true
  | .nd k ts => k.noTp && T.noTpA ts
noncomputable def T.noTpA : List T → Bool
  | [] => true
  | t :: ts => t.noTp && T.noTpA ts
end
theorem cell_noTp {H : Hp} {k : NK} {p : Addr} {vs : List V} {fp : List Addr} (h : cell K H p vs fp k) (hk : k.noTp = true) : ∀ q ∈ fp, ∃ u, H q = some u ∧ ¬ TK u := by
  have no : ∀ u : HO, (∀ xs, u ≠ .tup xs) → (∀ o xs, u ≠ .frz o (.tup xs)) → ¬ TK u := fun u h1 h2 z => by
    rcases z with ⟨xs, z⟩ | ⟨o, xs, z⟩
    · exact h1 xs z
    · exact h2 o xs z
  cases k with
  | ls => obtain ⟨h, rfl⟩ := h; intro q hq; rw [List.mem_singleton.mp hq]; exact ⟨_, h, no _ (fun _ z => by cases z) (fun _ _ z => by cases z)⟩
  | tp => cases hk
  | dc ks => obtain ⟨us, h, _, _, rfl⟩ := h; intro q hq; rw [List.mem_singleton.mp hq]; exact ⟨_, h, no _ (fun _ z => by cases z) (fun _ _ z => by cases z)⟩
  | dt ks => obtain ⟨o, us, h, _, _, rfl⟩ := h; intro q hq; rw [List.mem_singleton.mp hq]; exact ⟨_, h, no _ (fun _ z => by cases z) (fun _ _ z => by cases z)⟩
  | ob c ns =>
    obtain ⟨C, dx, fs, h1, h2, _, _, _, rfl⟩ := h
    intro q hq
    rcases List.mem_cons.mp hq with rfl | hq
    · exact ⟨_, h1, no _ (fun _ z => by cases z) (fun _ _ z => by cases z)⟩
    · rw [List.mem_singleton.mp hq]; exact ⟨_, h2, no _ (fun _ z => by cases z) (fun _ _ z => by cases z)⟩
mutual
theorem RT.noTp {B H : Hp} : ∀ (t : T) (v : V), RT K B H t v → t.noTp = true → ∀ q, FT K H t v q → ∃ u, H q = some u ∧ ¬ TK u
  | .im d, v, _, _, q, h => by rw [FT] at h; exact h.elim
  | .nd k ts, v, h, hn, q, hq => by
    rw [RT] at h
    obtain ⟨p, vs, fp, rfl, hc, hr, _⟩ := h
    rw [T.noTp, Bool.and_eq_true] at hn
    rw [FT] at hq
    obtain ⟨p', vs', fp', z, hc2, hq⟩ := hq
    cases z
    obtain ⟨rfl, rfl⟩ := cell_one hc hc2
    rcases hq with hq | hq
    · exact cell_noTp hc hn.1 q hq
    · exact RTA.noTp ts _ hr hn.2 q hq
theorem RTA.noTp {B H : Hp} : ∀ (ts : List T) (vs : List V), RTA K B H ts vs → T.noTpA ts = true → ∀ q, FTA K H ts vs q → ∃ u, H q = some u ∧ ¬ TK u
  | [], _, _, _, q, h => by rw [FTA] at h; exact h.elim
  | _ :: _, [], h, _, _, _ => by rw [RTA] at h; exact h.elim
  | t :: ts, v :: vs, h, hn, q, hq => by
    rw [RTA] at h
    rw [T.noTpA, Bool.and_eq_true] at hn
    rw [FTA] at hq
    rcases hq with hq | hq
    · exact RT.noTp t v h.1 hn.1 q hq
    · exact RTA.noTp ts vs h.2.1 hn.2 q hq
end
noncomputable def forF (b : D → DS → Option DS) (g : DS → Fl) : List D → DS → Fl
  | [], δ => .nx δ
  | d :: ds, δ => match b d δ with
    | none => .no
    | some δ' => match g δ' with
      | .nx δ2 => forF b g ds δ2
      | .ct δ2 => forF b g ds δ2
      | .bk δ2 => .nx δ2
      | .rt d => .rt d
      | .rf es => .rf es
      | .rn t => .rn t
      | .ro d δ2 => .ro d δ2
      | .rs x δ2 => .rs x δ2
      | .no => .no
noncomputable def cFor (fi : DS → Res (List D)) (b : D → DS → Option DS) (g : DS → Fl) : DS → Fl := fun δ => stE (fi δ) δ fun ds => forF b g ds δ
theorem cs_for {tg iter : Expr} {body : List Stmt} {pos : Pos} {wi : TI} {g : TG} {tb : TS} {fi : DS → Res (List D)} {is : List Nat} {b : D → DS → Option DS} {gb : DS → Fl} (hp : PassesOwn (model X.prog X.w) X.A X.env X.xe) (hc : X.calm = true) (hi : CI X W tg iter wi fi) (hg : CG X tg g is b) (hb : CSs X W body tb gb)
    (hs : ∀ x, foldedSetIterable iter X.env x = pure x := by intro _; rfl) : CS X W (.For tg iter body [] pos) (tFor wi g tb) (cFor fi b gb) :=
  ⟨ps_for hp hc hi.pi hg.pg hb.ps hs, fun B0 H0 δ σ B H E rel hq => by
    unfold cFor at hq
    refine hi.si B0 H0 δ σ B H _ rel ?_
    cases e : fi δ with
    | no => rw [e] at hq; exact hq
    | er x => rw [e] at hq; exact fun c dx B' H' g rp => hq c dx σ B' H' g.b (rel.mono g) rp
    | ok ds =>
      rw [e, stE_ok] at hq
      intro J B1 H1 G Y g1 wk hG hY
      refine for_it wk (fun i σ' H' => ∃ B' δ', Same B1 B' ∧ Rel X.K B0 H0 B' H' σ' δ' ∧ PostS X.K B0 H0 B' W E (forF b gb (ds.drop i) δ')) ?_ ?_ ?_ ?_
      · exact ⟨B1, δ, Same.refl _, rel.mono g1, postS_mono g1.b hq⟩
      · rintro i σ' H' hin ⟨B', δ', s', r', _⟩
        exact hG H' (s'.trans r'.g.i)
      · rintro i x σ' H2 H3 hin ⟨B', δ', s', r', q'⟩ y
        have hlt : i < ds.length := hin
        have hdi : ds[i]? = some ds[i] := by simp [hlt]
        obtain ⟨B3, g3, rx⟩ := hY i ds[i] B' H2 x H3 hdi s' r'.g.i y
        rw [List.drop_eq_getElem_cons hlt] at q'
        unfold forF at q'
        cases e3 : b ds[i] δ' with
        | none => rw [e3] at q'; exact q'.elim
        | some δ2 =>
          rw [e3] at q'
          dsimp only at q'
          refine hg.sg B0 H0 B3 H3 σ' δ' x ds[i] _ (r'.mono g3) rx (fun δ4 σ4 e4 r4 _ _ => ?_) (by rw [e3]; simp)
          rw [e3] at e4
          cases e4
          refine hb.ss B0 H0 δ2 σ4 B3 H3 _ r4 ?_
          cases e5 : gb δ2 with
          | nx δ5 => rw [e5] at q'; exact fun σ5 B5 H5 s5 r5 => ⟨B5, δ5, (s'.trans g3.b).trans s5, r5, postS_mono (g3.b.trans s5) q'⟩
          | ct δ5 => rw [e5] at q'; exact fun σ5 B5 H5 s5 r5 => ⟨B5, δ5, (s'.trans g3.b).trans s5, r5, postS_mono (g3.b.trans s5) q'⟩
          | bk δ5 => rw [e5] at q'; exact postS_mono g3.b q'
          | rt d => rw [e5] at q'; exact postS_mono g3.b q'
          | rf d => rw [e5] at q'; exact postS_mono g3.b q'
          | rn d => rw [e5] at q'; exact postS_mono g3.b q'
          | ro d δ5 => rw [e5] at q'; exact postS_mono g3.b q'
          | rs x δ5 => rw [e5] at q'; exact postS_mono g3.b q'
          | no => rw [e5] at q'; exact q'
      · rintro σ' H' ⟨B', δ', s', r', q'⟩
        rw [List.drop_length] at q'
        exact q' σ' B' H' (Same.refl _) r'⟩
end
end DV
namespace DV
open PySem L2
noncomputable def PostD (K : PySem.W.Frag) (B H : Hp) (Q : VK) (E : XK) : Res D → Prop
  | .ok d => ∀ v B' H', Grow K B H B' H' → Rp K B' v d → Q v H'
  | .er x => ∀ c dx B' H', Grow K B H B' H' → RpX K B' c dx x → E c dx H'
  | .no => False
noncomputable def spD (K : PySem.W.Frag) (n : Nat) (F : List D → Res D) : Sp := fun vs H Q E => vs.length = n ∧ ∃ ds B, Same B H ∧ RpA K B vs ds ∧ ((∀ p ∈ tabsOf K, NdefX.TabN H p lamAt) ∧ TB K B H) ∧ PostD K B H Q E (F ds)
noncomputable def flR : Fl → Res D
  | .rt d => .ok d
  | .rf ds => .ok (.lst ds)
  | .ro d _ => .ok d
  | .nx _ => .ok .non
  | .rs x _ => .er x
  | _ => .no
@[simp] theorem flR_rt (d : D) : flR (.rt d) = .ok d := rfl
@[simp] theorem flR_nx (δ : DS) : flR (.nx δ) = .ok .non := rfl
@[simp] theorem flR_rs (x : Exn) (δ : DS) : flR (.rs x δ) = .er x := rfl
@[simp] theorem flR_no : flR .no = .no := rfl
noncomputable def st0 (m : Nat) (ds : List D) : DS := ds.map (fun d => some (.im d)) ++ List.replicate m none
noncomputable def defF (m : Nat) (g : DS → Fl) : List D → Res D := fun ds => flR (g (st0 m ds))
theorem rel0 {K : PySem.W.Frag} {B H : Hp} {N : List Str} {vs : List V} {ds : List D} (i : Same B H) (r : RpA K B vs ds) (tb : (∀ p ∈ tabsOf K, NdefX.TabN H p lamAt) ∧ TB K B H) : Rel K B (.of H) B H (L2.start N vs) (st0 (N.length - vs.length) ds) := by
  refine ⟨Grow.refl i, tb.1, tb.2, ?_, fun j o e => ?_, fun j k o o' w w' hjk e1 e2 e3 e4 q f1 => ?_⟩
  · simp [L2.start, st0, r.length]
  · unfold st0 at e
    by_cases hj : j < ds.length
    · rw [List.getElem?_append_left (by simpa using hj), List.getElem?_map] at e
      cases q : ds[j]? with
      | none => rw [q] at e; cases e
      | some d =>
        rw [q] at e
        cases e
        obtain ⟨v, h1, h2⟩ := r.get q
        refine ⟨v, ?_, h2⟩
        unfold L2.start
        rw [List.getElem?_append_left (by rw [List.length_map, r.length]; exact hj), List.getElem?_map, h1]
        rfl
    · rw [List.getElem?_append_right (by simpa using hj), List.getElem?_replicate] at e
      split at e <;> cases e
  · unfold st0 at e1
    by_cases hj : j < ds.length
    · rw [List.getElem?_append_left (by simpa using hj), List.getElem?_map] at e1
      cases q : ds[j]? with
      | none => rw [q] at e1; cases e1
      | some d => rw [q] at e1; cases e1; exact f1.elim
    · rw [List.getElem?_append_right (by simpa using hj), List.getElem?_replicate] at e1
      split at e1 <;> cases e1
theorem Grow.keep {K : PySem.W.Frag} {B H B' H' : Hp} (g : Grow K B H B' H') {p : Addr} {xs : List V} (h0 : H p = none) (hb : B' p = none) (hh : H' p = some (.lst xs)) : Grow K B H (upd B' p (.lst xs)) H' :=
  ⟨g.b.trans (same_new hb), g.h, fun a o q => by
    by_cases hap : a = p
    · subst hap; rw [upd_same] at q; cases q; exact hh
    · rw [upd_ne hap] at q; exact g.i a o q, fun a ha => by have hap : a ≠ p := fun z => ha (by rw [z]; exact h0); rw [upd_ne hap]; exact g.f a ha, g.e, g.t, fun τ h => by
    obtain ⟨τ', e, h'⟩ := g.n τ h
    exact ⟨τ', e, h'.grow (same_new hb) (upd_new (kind_lst _).pln) fun _ _ _ q => q⟩⟩
noncomputable abbrev Wof (E : XK) : WX := fun c d _ H => E c d H
theorem ss_def {K : PySem.W.Frag} {t : TS} {g : DS → Fl} {E : XK} {N : List Str} {vs : List V} {ds : List D} {B H : Hp} {Q : VK} (h : SS K (Wof E) t g) (i : Same B H) (r : RpA K B vs ds) (tb : (∀ p ∈ tabsOf K, NdefX.TabN H p lamAt) ∧ TB K B H) (hp : PostD K B H Q E (defF (N.length - vs.length) g ds)) :
    t { nx := fun _ H' => Q .non H', rt := Q } (L2.start N vs) H := by
  refine h B (.of H) _ _ B H _ (rel0 i r tb) ?_
  unfold defF at hp
  cases e : g (st0 (N.length - vs.length) ds) with
  | nx δ => rw [e] at hp; exact fun σ B' H' s rel => hp .non B' H' rel.g (.v _)
  | rt d => rw [e] at hp; exact fun v B' H' s gr rp => hp v B' H' gr rp
  | rf es => rw [e] at hp; exact fun p xs B' H' s gr h0 hb hh rr => hp (.ref p) (upd B' p (.lst xs)) H' (gr.keep h0 hb hh) (.lst (SqL.of upd_same) (rr.mono (same_new hb)))
  | rn t => rw [e] at hp; exact hp.elim
  | ro d δ => rw [e] at hp; exact fun v σ B' H' s rel rp => hp v B' H' rel.g rp
  | rs x δ => rw [e] at hp; exact fun c dx σ B' H' s rel rp => hp c dx B' H' rel.g rp
  | bk δ => rw [e] at hp; exact hp.elim
  | ct δ => rw [e] at hp; exact hp.elim
  | no => rw [e] at hp; exact hp
section
variable {P : Program} {w : World} {K : PySem.W.Frag} {mg : Str → Option Value} {base : Heap}
theorem def_ok {x qual : Str} {st : Stmt} {f : Addr} {fd : FuncData} {N ps : List Str} {k m : Nat} {g : DS → Fl} (F : Fun K x qual st f fd) (S : FnScope N ps (defScope st)) (hm : N.length - ps.length = m)
    (hbody : ∀ (cdv : Value) (A : Around) (outer : List Env) (s : Shared) (H : Hp) (E : XK), Room k (A.deeper (PyProof.Rows.envOfC qual (defScope st) s.heap.objs.size f cdv)) → Takes (cxOf (L2.CX P w) P w K mg base N qual (defScope st) f cdv A outer s H E) (Wof E) →
      PassesOwn (model P w) (A.deeper (PyProof.Rows.envOfC qual (defScope st) s.heap.objs.size f cdv)) (PyProof.Rows.envOfC qual (defScope st) s.heap.objs.size f cdv) (cxOf (L2.CX P w) P w K mg base N qual (defScope st) f cdv A outer s H E).xe → (A.deeper (PyProof.Rows.envOfC qual (defScope st) s.heap.objs.size f cdv)).units + 64 < cLine → ∃ t, CSs (cxOf (L2.CX P w) P w K mg base N qual (defScope st) f cdv A outer s H E) (Wof E) (defBody st) t g) : FnOk P w K mg base (L2.CX P w) (k + 1) f fd ps (spD K ps.length (defF m g)) := by
  refine F.okX S (fun vs H Q E h => h.1) fun cdv A outer s H vs Q E hr h => ?_
  obtain ⟨hl, ds, B, i, r, tb, hp⟩ := h
  obtain ⟨t, ht⟩ := hbody cdv A outer s H E hr (takes_of rfl rfl rfl rfl) (passes_of (X := cxOf (L2.CX P w) P w K mg base N qual _ f cdv A outer s H E) rfl) hr.units
  exact ⟨t, ht.ps, ss_def (N := N) ht.ss i r tb (by rw [hl, hm]; exact hp)⟩
end
section
variable {X : Cx} {W : WX} {K : PySem.W.Frag}
noncomputable def cFn (F : List D → Res D) (dd : List D) (f : DS → Res (List D)) : DS → Res D := fun δ => (f δ).bind fun ds => F (ds ++ dd)
theorem se_fn {n : Nat} {F : List D → Res D} {dd : List D} {dvs : List V} {t : TA} {f : DS → Res (List D)} (hl : ∀ δ ds, f δ = .ok ds → ds.length + dd.length = n) (hd : ∀ B, RpA K B dvs dd) (h : SA K W t f) : SE K W (tCallSD (spD K n F) dvs (WE W) t) (cFn F dd f) := fun B0 H0 δ σ B H Q rel hp => by
  unfold cFn at hp
  refine h B0 H0 δ σ B H _ rel ?_
  cases e : f δ with
  | no => rw [e] at hp; exact hp
  | er x => rw [e] at hp; exact hp
  | ok ds =>
    rw [e, Res.bind_ok] at hp
    intro vs B1 H1 g1 r1
    refine ⟨?_, ds ++ dd, B1, g1.i, r1.append (hd B1), ⟨fun p hp' => g1.t p (rel.g.t p (rel.tk p hp')), g1.tb (rel.g.tb rel.nt)⟩, ?_⟩
    · rw [List.length_append, r1.length, (hd B1).length]
      exact hl δ ds e
    · cases e2 : F (ds ++ dd) with
      | no => rw [e2] at hp; exact hp
      | er x => rw [e2] at hp; exact fun c dx B' H' g' rp => hp c dx B' H' (g1.trans g') rp
      | ok z => rw [e2] at hp; exact fun v B' H' g' rp => hp v B' H' (g1.trans g') rp
theorem q_ce_fn {k n : Nat} {f : Addr} {fd : FuncData} {ps : List Str} {F : List D → Res D} {dd : List D} {dvs : List V} {ds : List Value} {x : Str} {p pos : Pos} {e : Expr} {es : List Expr} {t : TA} {fa : DS → Res (List D)}
    (G : FnOk X.prog X.w X.K X.mg X.base (L2.CX X.prog X.w) k f fd ps (spD X.K n F)) (hr : Room k X.A) (hm : X.mg x = some (.ref f)) (hk : PySem.W.keepIn X.K (.ref f) = true) (hb : Binds X.K fd ps ds) (hd : Vals dvs ds) (hdd : ∀ B, RpA X.K B dvs dd) (tk : Takes X W)
    (ha : CL X W (e :: es) t fa) (hn : (e :: es).length + dd.length = n := by rfl) (hg : Gl X x := by rfl) (hdb : (x == ("__debug__" : Str)) = false := by decide) (he : starEach (e :: es) X.env = (false, eval e X.env) :: starEach es X.env := by rfl) (hpl : (backTo pos (starEach es X.env)).any (·.1) = false := by rfl) :
    CE X W (.Call (.Name x p) (e :: es) [] pos) (tCallSD (spD X.K n F) dvs (WE W) t) (cFn F dd fa) :=
  ⟨pe_callSD G hr hg hm hk hb hd (fun σ => passAt tk σ) ha.pa hdb he hpl, se_fn (fun δ ds h => by rw [ha.ln δ ds h]; exact hn) hdd ha.sa⟩
noncomputable def cFn0 (F : List D → Res D) (f : DS → Res (List D)) : DS → Res D := fun δ => (f δ).bind F
theorem q_ce_f {k n : Nat} {f : Addr} {fd : FuncData} {ps : List Str} {F : List D → Res D} {x : Str} {p pos : Pos} {e : Expr} {es : List Expr} {t : TA} {fa : DS → Res (List D)}
    (G : FnOk X.prog X.w X.K X.mg X.base (L2.CX X.prog X.w) k f fd ps (spD X.K n F)) (hr : Room k X.A) (hm : X.mg x = some (.ref f)) (hk : PySem.W.keepIn X.K (.ref f) = true) (hb : Binds X.K fd ps []) (tk : Takes X W)
    (ha : CL X W (e :: es) t fa) (hn : (e :: es).length = n := by rfl) (hg : Gl X x := by rfl) (hdb : (x == ("__debug__" : Str)) = false := by decide) (he : starEach (e :: es) X.env = (false, eval e X.env) :: starEach es X.env := by rfl) (hpl : (backTo pos (starEach es X.env)).any (·.1) = false := by rfl) :
    CE X W (.Call (.Name x p) (e :: es) [] pos) (tCallSD (spD X.K n F) [] (WE W) t) (cFn0 F fa) := by
  have h := q_ce_fn (dd := []) (p := p) (pos := pos) G hr hm hk hb .nil (fun _ => .nil) tk ha hn hg hdb he hpl
  refine ⟨h.pe, ?_⟩
  have e0 : cFn F [] fa = cFn0 F fa := by
    funext δ
    simp [cFn, cFn0]
  rw [← e0]
  exact h.se
theorem ce_f (K : PySem.W.Frag) (hK : X.K = K) {k n : Nat} {f : Addr} {fd : FuncData} {ps : List Str} {F : List D → Res D} {x : Str} {p pos : Pos} {e : Expr} {es : List Expr} {t : TA} {fa : DS → Res (List D)}
    (G : FnOk X.prog X.w K X.mg X.base (L2.CX X.prog X.w) k f fd ps (spD K n F)) (hr : Room k X.A) (hm : X.mg x = some (.ref f)) (hk : PySem.W.keepIn K (.ref f) = true) (hb : Binds K fd ps []) (tk : Takes X W)
    (ha : CL X W (e :: es) t fa) (hn : (e :: es).length = n := by rfl) (hg : Gl X x := by rfl) (hdb : (x == ("__debug__" : Str)) = false := by decide) (he : starEach (e :: es) X.env = (false, eval e X.env) :: starEach es X.env := by rfl) (hpl : (backTo pos (starEach es X.env)).any (·.1) = false := by rfl) :
    CE X W (.Call (.Name x p) (e :: es) [] pos) (tCallSD (spD K n F) [] (WE W) t) (cFn0 F fa) := by
  subst hK
  exact (q_ce_f G hr hm hk hb tk ha hn hg hdb he hpl)
end
open Classical in
noncomputable def lawB (H : Hp) : Hp := fun b => match H b with
  | some o => if Pln o then some o else none
  | none => none
theorem lawB_of {H : Hp} {b : Addr} {o : HO} (h : H b = some o) (p : Pln o) : lawB H b = some o := by unfold lawB; rw [h]; exact if_pos p
theorem lawB_some {H : Hp} {b : Addr} {o : HO} (h : lawB H b = some o) : H b = some o ∧ Pln o := by
  unfold lawB at h
  split at h
  · split at h
    · rename_i e p; cases h; exact ⟨e, p⟩
    · cases h
  · cases h
theorem spD_law {K : PySem.W.Frag} {H : Hp} {a : Addr} {ns : List Int} {F : List D → Res D} (hS : SqL K H a (ns.map V.int)) (tb : ∀ p ∈ tabsOf K, NdefX.TabN H p lamAt) (h : F [.lst (ns.map D.int)] = .ok (.bl true)) : spD K 1 F [.ref a] H (fun v _ => v = .bl true) (fun _ _ _ => False) := by
  have hS' : SqL K (lawB H) a (ns.map V.int) := by
    rcases hS with (h | ⟨o, h⟩) | h
    · exact .inl (.inl (lawB_of h (kind_lst _).pln))
    · exact .inl (.inr ⟨o, lawB_of h ⟨⟨fun _ z => (by cases z), fun _ _ _ z => (by cases z)⟩, fun _ _ _ _ z => (by cases z)⟩⟩)
    · exact .inr h
  refine ⟨rfl, [.lst (ns.map D.int)], lawB H, fun b o e => (lawB_some e).1, .cons (.lst hS' (RpA.ints ns)) .nil, ⟨tb, fun _ => (.non, .non), fun b o e => (lawB_some e).2.1, fun x o C dx fs q => absurd rfl ((lawB_some q).2.2 o C dx fs)⟩, ?_⟩
  rw [h]
  intro v B' H' g rp
  cases rp
  rfl
theorem cx_false {P : Program} {w : World} (H : Hp) (s : Shared) (e : Value) (s' : Shared) (h : L2.CX P w [] H s (fun _ _ _ => False) e s') : False := by
  obtain ⟨_, _, _, _, _, _, _, _, _, _, _, _, z⟩ := h
  exact z
end DV
namespace DV
open PySem PySem.Spec PyProof.Rows L2
section
variable {prog : Program} {w : World} {A : Around} {E : Value → Shared → Prop} {s : Shared}
end
section
variable {X : Cx} {W : WX} {K : PySem.W.Frag}
noncomputable def oRev : D → Res D
  | .lst xs => .ok (.lst xs.reverse)
  | .tup xs => .ok (.tup xs.reverse)
  | _ => .no
noncomputable def gDivmod : List D → Res D
  | [.v (.int i), .v (.int j)] => if 0 < j ∧ j.natAbs < 1073741824 then .ok (.tup [.int (i / j), .int (i % j)]) else .no
  | _ => .no
noncomputable def pairsD : List D → List D → List D
  | a :: as, b :: bs => .tup [a, b] :: pairsD as bs
  | _, _ => []
theorem pairsD_length : ∀ (as bs : List D), (pairsD as bs).length = min as.length bs.length
  | [], bs => by simp [pairsD]
  | a :: as, [] => by simp [pairsD]
  | a :: as, b :: bs => by simp [pairsD, pairsD_length as bs]
theorem pairsD_get : ∀ {as bs : List D} {i : Nat} {d : D}, (pairsD as bs)[i]? = some d → ∃ a b, as[i]? = some a ∧ bs[i]? = some b ∧ d = .tup [a, b]
  | [], bs, i, d, h => by simp [pairsD] at h
  | a :: as, [], i, d, h => by simp [pairsD] at h
  | a :: as, b :: bs, 0, d, h => by simp [pairsD] at h; exact ⟨a, b, rfl, rfl, h.symm⟩
  | a :: as, b :: bs, i + 1, d, h => by
    simp [pairsD] at h
    obtain ⟨x, y, h1, h2, h3⟩ := pairsD_get h
    exact ⟨x, y, by simpa using h1, by simpa using h2, h3⟩
noncomputable def gZip : List D → Res (List D)
  | [.lst as, .lst bs] => .ok (pairsD as bs)
  | [.tup as, .tup bs] => .ok (pairsD as bs)
  | _ => .no
theorem walk_zipT {a b : Addr} {xs ys : List V} {n : Nat} (hn : n = min xs.length ys.length) : Walk (RZ.ItzT K a b) n (fun H => SqT K H a xs ∧ SqT K H b ys) (YPair (fun i => xs[i]?) (fun i => ys[i]?)) := by
  refine ⟨fun i H hi ⟨h1, h2⟩ => ?_, fun H ⟨h1, h2⟩ => ⟨xs, ys, h1, h2, by omega⟩, fun i H v H' hi ⟨h1, h2⟩ y => ?_⟩
  · have l1 : i < xs.length := by omega
    have l2 : i < ys.length := by omega
    exact ⟨xs, ys, xs[i], ys[i], h1, h2, by simp [l1], by simp [l2]⟩
  · obtain ⟨T, x, y, e1, e2, e3, q1, q2⟩ := y
    exact ⟨T, x, y, e1, e2, e3, q1 xs h1, q2 ys h2⟩
theorem yields_pair {B1 : Hp} {xs ys : List V} {as bs : List D} (q1 : RpA K B1 xs as) (q2 : RpA K B1 ys bs) : ∀ (i : Nat) (d : D) (B2 H2 : Hp) (x : V) (H3 : Hp), (pairsD as bs)[i]? = some d → Same B1 B2 → Same B2 H2 → YPair (fun i => xs[i]?) (fun i => ys[i]?) i H2 x H3 → ∃ B3, Grow K B2 H2 B3 H3 ∧ Rp K B3 x d := by
  intro i d B2 H2 x H3 hi s1 s2 y
  obtain ⟨T, u, v, rfl, hT, rfl, hx, hy⟩ := y
  obtain ⟨a, b, ha, hb, rfl⟩ := pairsD_get hi
  obtain ⟨a', ea, ra⟩ := q1.get' hx
  obtain ⟨b', eb, rb⟩ := q2.get' hy
  rw [ea] at ha
  rw [eb] at hb
  cases ha
  cases hb
  exact ⟨upd B2 T (.tup [u, v]), Grow.new s2 hT, .tup (SqT.of upd_same) (.cons ((ra.mono s1).mono (Grow.new (K := K) s2 hT).b) (.cons ((rb.mono s1).mono (Grow.new (K := K) s2 hT).b) .nil))⟩
theorem q_ci_zip {e e2 : Expr} {t : TA} {f : DS → Res (List D)} {p pos tpos : Pos} {elts : List Expr} {kk : Nat} (hm : X.mg "zip" = none) (ha : CL X W [e, e2] t f) (hg : Gl X "zip" := by rfl)
    (hs : starEach [e, e2] X.env = (false, eval e X.env) :: starEach [e2] X.env := by rfl) (hpl : (backTo pos (starEach [e2] X.env)).any (·.1) = false := by rfl) : CI X W (.Tuple elts kk tpos) (.Call (.Name "zip" p) [e, e2] [] pos) (RZ.iZipA X.K t) (cIt gZip f) :=
  ⟨RZ.pi_zipA hg hm ha.pa hs hpl, fun B0 H0 δ σ B H R rel hp => by
    unfold cIt at hp
    refine ha.sa B0 H0 δ σ B H _ rel ?_
    cases e : f δ with
    | no => rw [e] at hp; exact hp
    | er x => rw [e] at hp; exact hp
    | ok ds =>
      rw [e, Res.bind_ok] at hp
      intro vs B1 H1 g1 r1
      unfold gZip at hp
      split at hp
      · cases r1 with
        | cons r1 r2 =>
          cases r2 with
          | cons r2 r3 =>
            cases r3
            cases r1 with
            | lst h1 q1 =>
              cases r2 with
              | lst h2 q2 =>
                refine ⟨_, _, _, _, rfl, .inl ⟨g1.i.seq h1, g1.i.seq h2, ?_⟩⟩
                exact hp _ B1 H1 _ _ g1 (walk_zip (by rw [pairsD_length, q1.length, q2.length])) (fun H2 s2 => ⟨s2.seq h1, s2.seq h2⟩) (yields_pair q1 q2)
      · cases r1 with
        | cons r1 r2 =>
          cases r2 with
          | cons r2 r3 =>
            cases r3
            cases r1 with
            | tup h1 q1 =>
              cases r2 with
              | tup h2 q2 =>
                refine ⟨_, _, _, _, rfl, .inr ⟨sqT_mono g1.i h1, sqT_mono g1.i h2, ?_⟩⟩
                exact hp _ B1 H1 _ _ g1 (walk_zipT (by rw [pairsD_length, q1.length, q2.length])) (fun H2 s2 => ⟨sqT_mono s2 h1, sqT_mono s2 h2⟩) (yields_pair q1 q2)
      · exact hp.elim⟩
theorem ci_zip (K : PySem.W.Frag) (hK : X.K = K) {e e2 : Expr} {t : TA} {f : DS → Res (List D)} {p pos tpos : Pos} {elts : List Expr} {kk : Nat} (hm : X.mg "zip" = none) (ha : CL X W [e, e2] t f) (hg : Gl X "zip" := by rfl)
    (hs : starEach [e, e2] X.env = (false, eval e X.env) :: starEach [e2] X.env := by rfl) (hpl : (backTo pos (starEach [e2] X.env)).any (·.1) = false := by rfl) : CI X W (.Tuple elts kk tpos) (.Call (.Name "zip" p) [e, e2] [] pos) (RZ.iZipA K t) (cIt gZip f) := by
  subst hK
  exact (q_ci_zip hm ha hg hs hpl)
end
end DV
namespace DV
open PySem L2 PySem.Spec PySem.Calls PyProof.Rows Builtin Builtin.ObjectAttr
structure OexB (K : PySem.W.Frag) (C : Addr) : Prop where
  base : ∃ (B newId initId : String) (bmB : List Value), ExcBaseFacts B newId initId bmB ∧ PySem.StoreFacts B bmB "object.__setattr__" "object" ∧ PySem.W.excInitIn K C bmB newId = true ∧ PySem.W.excOver K C bmB = true
  hd : PySem.W.hasDictIn K C = true
  sa : PySem.W.findIn K (.ref C) "__setattr__" = some (some (.builtin "object.__setattr__"))
  ex : PySem.W.subIn K (.ref C) (.type "BaseException") = some true
  ty : PySem.W.typeIn K (.ref C) = some (.type "type")
  kp : PySem.W.keepIn K (.ref C) = true
section
variable {prog : Program} {w : World} {A : Around} {R : Result → Shared → Prop} {hp : Heap} {g : Array GenState} {d : Drawn} {t : Nat} {os : OsState} {B : String} {bmB : List Value}
theorem taker_none {K : PySem.W.Frag} {C : Addr} {n : Str} (h : PySem.W.findIn K (.ref C) n = some none) : PySem.W.takerIn K C n = some none := by
  unfold PySem.W.takerIn
  rw [h]
  rfl
theorem osaB_new {K : PySem.W.Frag} {n : Str} {tk : Tok} {v : Value} {x C : Addr} {fv : Array Value} (SF : PySem.StoreFacts B bmB "object.__setattr__" "object") (X : K.In hp) (hx : hp.get? x = some { cls := .ref C, data := .fields fv })
    (ho : PySem.W.excOver K C bmB = true) (hh : PySem.W.hasDictIn K C = true) (ha : PySem.W.findIn K (.ref C) n = some none)
    (hq : ∀ h' tk' dx, (∀ b o, b ≠ x → hp.get? b = some o → h'.get? b = some o) → hp.objs.size ≤ dx → dx ≠ x → h'.get? x = some { cls := .ref C, dict := some dx, data := .fields fv } → h'.Ns1 dx (fun y => if y = n then some v else none) → R (.ok (.ret .none)) ⟨h', g, d, tk', os⟩) :
    codeAny (model prog w) A (.call (.builtin "object.__setattr__") ⟨[.ref x, .str n tk, v], []⟩) R ⟨hp, g, d, t, os⟩ := by
  have hxs : x ≠ hp.objs.size := Nat.ne_of_lt (Heap.lt_size hx)
  refine PySem.W.osa_openX (od := none) SF X ⟨hx, rfl, rfl, trivial⟩ ho (taker_none ha) fun b => ?_
  obtain ⟨cd, hc, hd'⟩ := PySem.W.any_some hh
  have hcls : PySem.W.Looks (model prog w) hp (classData C) cd := PySem.W.looks_clsIn X hc
  obtain ⟨nm, bs, mro, ns, qn, hdd, sn, sb, ab, col, del⟩ := cd
  dsimp only at hd'
  subst hd'
  show wpAny _ _ (storeInOwnDict (.ref x) (.ref C) (.str n tk) n v b) _ _ _
  unfold storeInOwnDict ownDictForStores
  repeat (first | with_reducible refine PySem.HandSPX.store_in_new ?_ ?_ | with_reducible refine wpAny_loadPart_at hx ?_ | with_reducible refine hcls.at ?_ | wp_step)
  · exact ⟨_, #[], _, (Heap.get?_update_ne _ _ _ _ hxs.symm).trans (Heap.get?_push_at rfl rfl), rfl, fun e he => absurd he (by simp), fun _ => rfl⟩
  · intro h' tk' hn' hs
    refine hq h' tk' hp.objs.size (fun b o hb q => ?_) (Nat.le_refl _) hxs.symm ?_ hn'
    · exact (hs.2 b (Nat.ne_of_lt (Heap.lt_size q))).trans ((Heap.get?_update_ne _ _ _ _ hb).trans (Heap.get?_push_of_some _ q))
    · exact (hs.2 x hxs).trans (Heap.get?_update_self _ (Heap.get?_push_of_some _ hx) rfl)
theorem osaB_old {K : PySem.W.Frag} {n : Str} {tk : Tok} {v : Value} {x C dx : Addr} {fv : Array Value} {m0 : Str → Option Value} {nl : List Str} (SF : PySem.StoreFacts B bmB "object.__setattr__" "object") (X : K.In hp) (hx : hp.get? x = some { cls := .ref C, dict := some dx, data := .fields fv })
    (hns : hp.Ns1 dx m0) (hw : Within m0 nl) (hz : nl.length ≤ 1000) (ho : PySem.W.excOver K C bmB = true) (hh : PySem.W.hasDictIn K C = true) (ha : PySem.W.findIn K (.ref C) n = some none)
    (hq : ∀ h' tk', (∀ b o, b ≠ dx → hp.get? b = some o → h'.get? b = some o) → h'.Ns1 dx (fun y => if y = n then some v else m0 y) → R (.ok (.ret .none)) ⟨h', g, d, tk', os⟩) :
    codeAny (model prog w) A (.call (.builtin "object.__setattr__") ⟨[.ref x, .str n tk, v], []⟩) R ⟨hp, g, d, t, os⟩ := by
  obtain ⟨oD, esD, epD, hoD, hdD, _⟩ := hns.count hw
  refine PySem.W.osa_openX (od := some oD) SF X ⟨hx, rfl, rfl, hoD⟩ ho (taker_none ha) fun b => ?_
  obtain ⟨cd, hc, hd'⟩ := PySem.W.any_some hh
  have hcls : PySem.W.Looks (model prog w) hp (classData C) cd := PySem.W.looks_clsIn X hc
  obtain ⟨nm, bs, mro, ns, qn, hdd, sn, sb, ab, col, del⟩ := cd
  dsimp only at hd'
  subst hd'
  show wpAny _ _ (storeInOwnDict (.ref x) (.ref C) (.str n tk) n v b) _ _ _
  unfold storeInOwnDict ownDictForStores
  repeat (first | with_reducible refine PySem.OEX.store_in_old hns hw hz ?_ | with_reducible refine wpAny_loadPart_at hx ?_ | with_reducible refine hcls.at ?_ | wp_step)
  intro h' tk' hn' hs
  exact hq h' tk' (fun b o hb q => (hs.2 b hb).trans q) hn'
end
section
variable {X : Cx} {pins : List (Addr × Obj)} {σ : L2.St} {H : Hp} {s : Shared} {a C dx : Addr} {f : Str} {y : V} {u : Value} {fs : List (Str × V)} {Q : Unit → Shared → Prop} {E : Value → Shared → Prop} {A : Around}
theorem ostB_new (T : OexB X.K C) (I : Inv X pins σ H s) (e : H a = some (exo a C none)) (hno : PySem.W.findIn X.K (.ref C) f = some none) (ry : RelV y u)
    (h : ∀ dx s', H dx = none → dx ≠ a → Inv X pins σ (upd (upd H dx (exd dx [(f, y)])) a (exo a C (some dx))) s' → Q () s') : wpAny (model X.prog X.w) A (setAttr (.ref a) f u) Q E s := by
  obtain ⟨B, newId, initId, bmB, -, SF, -, ov⟩ := T.base
  obtain ⟨t1, ho⟩ := exo_at I.hok e
  obtain ⟨hp, g, d, t, os⟩ := s
  refine PySem.W.set_plain I.kIn (od := none) ⟨ho, rfl, rfl, trivial⟩ T.sa (osaB_new SF I.kIn ho ov T.hd hno fun h' tk' dx k dn dne hx hn => ?_)
  have hnd : H dx = none := I.hok.fresh dn
  have nd : ∀ b o, hp.get? b = some o → b ≠ dx := fun b o q => Nat.ne_of_lt (Nat.lt_of_lt_of_le (Heap.lt_size q) dn)
  have na : ∀ b, H b = none → b ≠ a := fun b n z => by rw [z, e] at n; cases n
  have U : Un X.fs [] H (upd (upd H dx (exd dx [(f, y)])) a (exo a C (some dx))) hp h' := by
    refine ⟨fun b o q n _ _ => k b o (na b n) q, fun b o q n _ _ => ⟨o.slots, k b o (na b n) q⟩, fun b o q n _ => ?_, fun b o q _ => ?_, fun b xs q => ?_, fun b o v q => ?_, fun b ps q => ⟨#[], ?_⟩⟩
    · rw [upd_ne (na b n), upd_ne (nd b o q), n]
    · by_cases hb : b = a
      · subst hb; exact ⟨_, hx⟩
      · exact ⟨o, k b o hb q⟩
    · rw [upd_ne (at_ne e q exo_tup), upd_ne (ne_of_none q hnd), q]
    · rw [upd_ne (at_ne e q exo_frz), upd_ne (ne_of_none q hnd), q]
    · rw [upd_ne (at_ne e q exo_tbl), upd_ne (ne_of_none q hnd), q]; simp
  refine h dx _ hnd dne (I.un (t' := tk') U fun b o q => ?_)
  by_cases hb : b = a
  · subst hb; rw [upd_same] at q; cases q; exact exo_ok hx
  · rw [upd_ne hb] at q
    by_cases hd : b = dx
    · subst hd; rw [upd_same] at q; cases q; exact exd_ok hn (relO_put (fs := []) ry fun g => True.intro)
    · rw [upd_ne hd] at q
      refine (I.hok b o q).stay (fun c v hc z => k c v ?_ z) (fun c hc => ?_) (fun c xs hc => ?_)
      · rcases hc with hc | hc
        · exact fun z => hb (hc ▸ z)
        · exact at_ne e hc exo_own
      · rw [upd_ne (at_ne e hc exo_own), upd_ne (ne_of_none hc hnd), hc]
      · rw [upd_ne (at_ne e hc exo_tup), upd_ne (ne_of_none hc hnd), hc]
theorem ostB_old (T : OexB X.K C) (I : Inv X pins σ H s) (e : H a = some (exo a C (some dx))) (ed : H dx = some (exd dx fs)) (hl : fs.length ≤ 900) (hno : PySem.W.findIn X.K (.ref C) f = some none) (ry : RelV y u)
    (h : ∀ s', Inv X pins σ (upd H dx (exd dx ((f, y) :: fs))) s' → Q () s') : wpAny (model X.prog X.w) A (setAttr (.ref a) f u) Q E s := by
  obtain ⟨B, newId, initId, bmB, -, SF, -, ov⟩ := T.base
  obtain ⟨t1, ho⟩ := exo_at I.hok e
  obtain ⟨mA, hns, rel⟩ := exd_at I.hok ed
  obtain ⟨hp, g, d, t, os⟩ := s
  obtain ⟨oD, _, _, hoD, _, _⟩ := hns.count (within_of rel)
  refine PySem.W.set_plain I.kIn (od := some oD) ⟨ho, rfl, rfl, hoD⟩ T.sa (osaB_old SF I.kIn ho hns (within_of rel) (by rw [List.length_map]; omega) ov T.hd hno fun h' tk' k hn => ?_)
  have hd : ∃ o, h'.get? dx = some o := by
    obtain ⟨o, _, _, e', _⟩ := hn
    exact ⟨o, e'⟩
  exact h _ (I.write (t' := tk') (x := dx) (e := dx) (o := exd dx ((f, y) :: fs)) (by rw [ed]; exact True.intro) (.inl rfl) k hd (exd_ok hn (relO_put ry rel)))
end
noncomputable def tOsB (K : PySem.W.Frag) (f : Str) (to te : TE) : TS := fun D σ H => te σ H fun y H1 => to σ H1 fun x H2 => ∃ a C : Addr, x = .ref a ∧ OexB K C ∧ PySem.W.findIn K (.ref C) f = some none ∧
  ((H2 a = some (exo a C none) ∧ ∀ dx, H2 dx = none → dx ≠ a → D.nx σ (upd (upd H2 dx (exd dx [(f, y)])) a (exo a C (some dx)))) ∨
    ∃ (dx : Addr) (fs : List (Str × V)), H2 a = some (exo a C (some dx)) ∧ H2 dx = some (exd dx fs) ∧ fs.length ≤ 900 ∧ D.nx σ (upd H2 dx (exd dx ((f, y) :: fs))))
theorem ps_osB {X : Cx} {o e : Expr} {to te : TE} {f : Str} {p' pos : Pos} (ho : PE X o to) (he : PE X e te) (hs : swapsWith e (some (.Attribute o f p')) pos.line X.env = pure false := by rfl) : PS X (.Assign [.Attribute o f p'] e pos) (tOsB X.K f to te) := by
  refine ⟨fun pins s σ H D I h => ?_⟩
  refine plainObj_wpAny_Assign_Attribute (thn (he.run pins s σ H _ I h) fun v s1 ⟨y, H1, I1, r1, q1⟩ => thn (ho.run pins s1 σ H1 _ I1 q1) fun u s2 ⟨x, H2, I2, r2, a, C, ex, T, hno, q⟩ => ?_) hs
  subst ex
  obtain rfl : u = Value.ref a := r2
  rcases q with ⟨ea, q⟩ | ⟨dx, fs, ea, ed, hl, q⟩
  · exact ostB_new T I2 ea hno r1 fun dx s' n ne J => ⟨σ, _, J, q dx n ne⟩
  · exact ostB_old T I2 ea ed hl hno r1 fun s' J => ⟨σ, _, J, q⟩
noncomputable def spI (K : PySem.W.Frag) (C : Addr) (n : Nat) (ff : List V → List (Str × V)) : Sp := fun vs H Q _ => vs.length = n + 1 ∧ ∃ a ws, vs = .ref a :: ws ∧ H a = some (exo a C none) ∧ ∀ d H', H d = none → d ≠ a → H' a = some (exo a C (some d)) → H' d = some (exd d (ff ws)) → (∀ b, b ≠ a → b ≠ d → H' b = H b) → Q .non H'
section
variable {P : Program} {w : World} {K : PySem.W.Frag} {mg : Str → Option Value} {base : Heap}
theorem init1_ok {qual f z : Str} {st : Stmt} {fI C : Addr} {fd : FuncData} {k : Nat} (F : Fun K "__init__" qual st fI fd) (S : FnScope ["self"] ["self"] (defScope st)) (T : OexB K C) (hno : PySem.W.findIn K (.ref C) f = some none)
    (hb : ∀ (cdv : Value) (A : Around) (outer : List Env) (s : Shared) (H : Hp) (E : XK), PSs (cxOf (L2.CX P w) P w K mg base ["self"] qual (defScope st) fI cdv A outer s H E) (defBody st) (tOsB K f (tVar 0) (tC (.str z)))) :
    FnOk P w K mg base (L2.CX P w) (k + 1) fI fd ["self"] (spI K C 0 fun _ => [(f, .str z)]) := by
  refine F.okX S (fun vs H Q E h => h.1) fun cdv A outer s H vs Q E hr h => ⟨_, hb cdv A outer s H E, ?_⟩
  obtain ⟨hl, a, ws, rfl, ha, hq⟩ := h
  refine ⟨.ref a, rfl, a, C, rfl, T, hno, .inl ⟨ha, fun dx hn hne => hq dx _ hn hne upd_same ?_ fun b b1 b2 => ?_⟩⟩
  · rw [upd_ne hne, upd_same]
  · rw [upd_ne b1, upd_ne b2]
theorem init2_ok {qual f g z x : Str} {st : Stmt} {fI C : Addr} {fd : FuncData} {k : Nat} (F : Fun K "__init__" qual st fI fd) (S : FnScope ["self", x] ["self", x] (defScope st)) (T : OexB K C) (hno : PySem.W.findIn K (.ref C) f = some none) (hno2 : PySem.W.findIn K (.ref C) g = some none)
    (hb : ∀ (cdv : Value) (A : Around) (outer : List Env) (s : Shared) (H : Hp) (E : XK), PSs (cxOf (L2.CX P w) P w K mg base ["self", x] qual (defScope st) fI cdv A outer s H E) (defBody st) (tSeq (tOsB K f (tVar 0) (tC (.str z))) (tOsB K g (tVar 0) (tVar 1)))) :
    FnOk P w K mg base (L2.CX P w) (k + 1) fI fd ["self", x] (spI K C 1 fun ws => [(g, ws.getD 0 .non), (f, .str z)]) := by
  refine F.okX S (fun vs H Q E h => h.1) fun cdv A outer s H vs Q E hr h => ⟨_, hb cdv A outer s H E, ?_⟩
  obtain ⟨hl, a, ws, rfl, ha, hq⟩ := h
  obtain ⟨v, rfl⟩ : ∃ v, ws = [v] := by
    match ws, hl with
    | [v], _ => exact ⟨v, rfl⟩
  refine ⟨.ref a, rfl, a, C, rfl, T, hno, .inl ⟨ha, fun dx hn hne => ?_⟩⟩
  refine ⟨v, rfl, .ref a, rfl, a, C, rfl, T, hno2, .inr ⟨dx, [(f, .str z)], upd_same, ?_, by show (1 : Nat) ≤ 900; decide, ?_⟩⟩
  · rw [upd_ne hne, upd_same]
  · refine hq dx _ hn hne ?_ upd_same fun b b1 b2 => ?_
    · rw [upd_ne (Ne.symm hne), upd_same]
    · rw [upd_ne b2, upd_ne b1, upd_ne b2]
end
noncomputable def tMkB (C : Addr) (n : Nat) (ff : List V → List (Str × V)) (ta : TA) : L2.St → Hp → XK → Prop := fun σ H Q => ta σ H fun vs H1 => vs.length = n ∧ n ≤ 1000 ∧ ∀ d, H1 d = none → Q (.ref C) (some d) (upd H1 d (.xd (ff vs)))
section
variable {X : Cx} {x : Str} {C fI : Addr} {k n : Nat} {fd : FuncData} {ps : List Str} {ff : List V → List (Str × V)} {ta : TA} {p pos : Pos} {e : Expr} {es : List Expr}
theorem mkB_run {pins : List (Addr × Obj)} {σ : L2.St} {H1 : Hp} {s1 : Shared} {Q : XK} {us : List Value} {vs : List V} (T : OexB X.K C) (iC : PySem.W.findIn X.K (.ref C) "__init__" = some (some (.ref fI))) (tI : PySem.W.typeIn X.K (.ref fI) = some (.type "function"))
    (F1 : FnOk X.prog X.w X.K X.mg X.base (L2.CX X.prog X.w) k fI fd ps (spI X.K C n ff)) (hr : Room (k + 1) X.A) (hb : Binds X.K fd ps []) (I1 : Inv X pins σ H1 s1) (r1 : Vals vs us) (hv : vs.length = n) (hn1 : n ≤ 1000) (q1 : ∀ d, H1 d = none → Q (.ref C) (some d) (upd H1 d (.xd (ff vs)))) :
    wpAny (model X.prog X.w) X.A (call (.ref C) us) (MkP X pins σ Q) X.xe s1 := by
  obtain ⟨B, newId, initId, bmB, FB, -, hI, -⟩ := T.base
  obtain ⟨nm, N, qn, bs, bm, hdct, sn, sub, ab, col, dd, k0, k1, k2, k3, k5, hC, hT⟩ := PySem.W.excInit_of I1.kIn hI
  obtain ⟨hp, g, dr, tk, os⟩ := s1
  have hsz : hp.objs.size ≤ hp.objs.size + 1 := Nat.le_succ _
  have hn : H1 (hp.objs.size + 1) = none := I1.hok.fresh hsz
  have kk : ∀ b o, hp.get? b = some o → ((hp.push (PySem.W.kdv_tup us)).push (PySem.HandSPX.excO C hp.objs.size)).get? b = some o := fun b o z => Heap.get?_push_of_some _ (Heap.get?_push_of_some _ z)
  have hget : ((hp.push (PySem.W.kdv_tup us)).push (PySem.HandSPX.excO C hp.objs.size)).get? (hp.objs.size + 1) = some (PySem.HandSPX.excO C hp.objs.size) := by heap_get
  have I2 := I1.laid (t' := tk) (a := hp.objs.size + 1) (o := exo (hp.objs.size + 1) C none) (h' := (hp.push (PySem.W.kdv_tup us)).push (PySem.HandSPX.excO C hp.objs.size)) kk hsz (exo_ok hget)
  have hq : spI X.K C n ff (.ref (hp.objs.size + 1) :: vs) (upd H1 (hp.objs.size + 1) (exo (hp.objs.size + 1) C none)) (fun v H2 => v = .non ∧ ∃ (d : Addr), H2 (hp.objs.size + 1) = some (exo (hp.objs.size + 1) C (some d)) ∧ H2 d = some (exd d (ff vs)) ∧ H1 d = none ∧ Q (.ref C) (some d) (upd (del H2 (hp.objs.size + 1)) d (.xd (ff vs)))) (fun _ _ _ => False) := by
    refine ⟨by rw [List.length_cons, hv], _, vs, rfl, upd_same, fun d H2 hd hne e1 e2 e3 => ⟨rfl, d, e1, e2, ?_, ?_⟩⟩
    · rw [upd_ne hne] at hd; exact hd
    · rw [upd_ne hne] at hd
      have eH : upd (del H2 (hp.objs.size + 1)) d (.xd (ff vs)) = upd H1 d (.xd (ff vs)) := by
        funext b
        by_cases b1 : b = d
        · subst b1; rw [upd_same, upd_same]
        · rw [upd_ne b1, upd_ne b1]
          by_cases b2 : b = hp.objs.size + 1
          · subst b2; rw [del_same, hn]
          · rw [del_ne b2, e3 b b2 b1, upd_ne b2]
      rw [eH]
      exact q1 d hd
  have r2 : Vals (V.ref (hp.objs.size + 1) :: vs) (Value.ref (hp.objs.size + 1) :: us) := .cons rfl r1
  have hl : (Value.ref (hp.objs.size + 1) :: us).length = ps.length := by
    have z := r2.length
    rw [F1.len _ _ _ _ hq] at z
    exact z.symm
  have b2 := hb _ (Value.ref (hp.objs.size + 1) :: us) I2.kIn (by rw [List.append_nil]; exact hl)
  rw [List.append_nil] at b2
  refine wpAny_call (PySem.HandSPX.call_own FB hT hC (PySem.W.looks_findIn I1.kIn iC) (fun self => PySem.W.bind_fn I1.kIn self tI) (by rw [← Paired.length r1, hv, sizeLine_eq]; omega)
    (codeAny_mono (F1.run _ X.stack _ _ ⟨Value.ref (hp.objs.size + 1) :: us, []⟩ _ _ _ (fun _ _ _ => False) (hr.make C us []) (I2.env0.make C us []) b2 r2 hq) fun r s' hq' => ?_))
  cases r with
  | error er => exact (passL pins σ _ _ er s' I2 hq')
  | ok fl =>
    cases fl with
    | ret u =>
      obtain ⟨v, H2, os2, bare2, un2, hok2, rv, ev, d, ea, ed, hd1, q2⟩ := hq'
      subst ev
      obtain ⟨h2, g2, d2, t2, os'⟩ := s'
      exact ⟨rv, mk_end (raises_own T.ex T.ty) I1 hsz kk un2 hok2 os2 bare2 ea ed hd1 q2⟩
    | next => exact False.elim hq'
    | brk => exact False.elim hq'
    | cont => exact False.elim hq'
theorem pmkB0 (T : OexB X.K C) (iC : PySem.W.findIn X.K (.ref C) "__init__" = some (some (.ref fI))) (tI : PySem.W.typeIn X.K (.ref fI) = some (.type "function"))
    (F1 : FnOk X.prog X.w X.K X.mg X.base (L2.CX X.prog X.w) k fI fd ps (spI X.K C 0 ff)) (hr : Room (k + 1) X.A) (hb : Binds X.K fd ps []) (hm : X.mg x = some (.ref C)) (hg : Gl X x := by rfl) (hdb : (x == ("__debug__" : Str)) = false := by decide) :
    PMk X (.Call (.Name x p) [] [] pos) (tMkB C 0 ff tNil) := fun pins s σ H Q I h =>
  wpAny_Call_Name_kw (ld_glob I hg hm (PySem.W.callWith_K0 I.kIn T.kp (mkB_run (us := []) T iC tI F1 hr hb I .nil h.1 h.2.1 h.2.2)) hdb)
theorem pmkB (T : OexB X.K C) (iC : PySem.W.findIn X.K (.ref C) "__init__" = some (some (.ref fI))) (tI : PySem.W.typeIn X.K (.ref fI) = some (.type "function"))
    (F1 : FnOk X.prog X.w X.K X.mg X.base (L2.CX X.prog X.w) k fI fd ps (spI X.K C n ff)) (hr : Room (k + 1) X.A) (hb : Binds X.K fd ps []) (hm : X.mg x = some (.ref C)) (ha : PA X (e :: es) ta) (hg : Gl X x := by rfl) (hdb : (x == ("__debug__" : Str)) = false := by decide)
    (he : starEach (e :: es) X.env = (false, eval e X.env) :: starEach es X.env := by rfl) (hpl : (backTo pos (starEach es X.env)).any (·.1) = false := by rfl) :
    PMk X (.Call (.Name x p) (e :: es) [] pos) (tMkB C n ff ta) := fun pins s σ H Q I h =>
  wpAny_Call_Name_kw (ld_glob I hg hm (PySem.W.callWith_K (h₀ := X.base) I.ok.mod.kin T.kp (thn (ha.run pos pins s σ H _ I h) fun us s1 ⟨vs, H1, I1, r1, hv, hn1, q1⟩ => ⟨I1.kIn, mkB_run T iC tI F1 hr hb I1 r1 hv hn1 q1⟩) he hpl) hdb)
end
end DV
namespace DV
open PySem L2 PySem.Spec PySem.Calls PyProof.Rows
noncomputable abbrev TX := Addr → Value → Option Addr → TS
noncomputable def endsAt (D : Ends) (i : Nat) : Ends := { nx := fun σ H => D.nx (σ.set i none) H, rt := D.rt, bk := fun σ H => D.bk (σ.set i none) H, ct := fun σ H => D.ct (σ.set i none) H }
inductive HdsN (X : Cx) : List ExceptHandler → List (Value × Nat × TX) → Prop
  | nil : HdsN X [] []
  | cons {x n : Str} {i : Nat} {c : Value} {ts : TX} {b₀ : Stmt} {suite : List Stmt} {np pos' : Pos} {hds : List ExceptHandler} {l : List (Value × Nat × TX)} (hi : X.N[i]? = some n) (hln : X.env.kindOf n = some .local) (hc : Names X x c)
      (hsu : ∀ (a : Addr) (oe : Obj) (cls : Value) (d : Option Addr) (pn : List (Addr × Obj)), Zc cls d oe → (∃ vs, oe.data = .fields vs) → PSs (X.suite a ((a, oe) :: pn)) (b₀ :: suite) (ts a cls d)) (r : HdsN X hds l) :
      HdsN X (.ExceptHandler (some (.Name x np)) (some n) (b₀ :: suite) pos' :: hds) ((c, i, ts) :: l)
section
variable {X : Cx} {W : WX} {K : PySem.W.Frag}
noncomputable def cRaise (c : Str) (ff : List D → List (Str × D)) (fa : DS → Res (List D)) : DS → Fl := fun δ => stE (fa δ) δ fun ds => .rs ⟨c, ff ds⟩ δ
structure FF (n : Nat) (fv : List V → List (Str × V)) (fd : List D → List (Str × D)) : Prop where
  ok : ∀ (K : PySem.W.Frag) (B : Hp) (vs : List V) (ds : List D), vs.length = n → RpA K B vs ds → (fv vs).map (·.1) = (fd ds).map (·.1) ∧ RpA K B ((fv vs).map (·.2)) ((fd ds).map (·.2))
noncomputable def fv1 (f z : Str) : List V → List (Str × V) := fun _ => [(f, .str z)]
noncomputable def fd1 (f z : Str) : List D → List (Str × D) := fun _ => [(f, .str z)]
noncomputable def fv2 (f z g : Str) : List V → List (Str × V) := fun ws => [(g, ws.getD 0 .non), (f, .str z)]
noncomputable def fd2 (f z g : Str) : List D → List (Str × D) := fun ws => [(g, ws.getD 0 .non), (f, .str z)]
theorem ff1 {f z : Str} : FF 0 (fv1 f z) (fd1 f z) := ⟨fun _ _ _ _ _ _ => ⟨rfl, .cons (.v _) .nil⟩⟩
theorem ff2 {f z g : Str} : FF 1 (fv2 f z g) (fd2 f z g) := ⟨fun _ _ vs ds hl r => by
  cases r with
  | nil => cases hl
  | cons h r => exact ⟨rfl, .cons h (.cons (.v _) .nil)⟩⟩
theorem ss_raise {C : Addr} {c : Str} {n : Nat} {fv : List V → List (Str × V)} {fd : List D → List (Str × D)} {ta : TA} {fa : DS → Res (List D)} (hc : clsV K c = some (.ref C)) (hn : n ≤ 1000) (F : FF n fv fd) (ha : SA K W ta fa) (hl : ∀ δ ds, fa δ = .ok ds → ds.length = n) :
    SS K W (fun _ σ H => tMkB C n fv ta σ H fun cls d H' => W cls d σ H') (cRaise c fd fa) := fun B0 H0 δ σ B H E rel hp => by
  unfold cRaise at hp
  refine ha B0 H0 δ σ B H _ rel ?_
  cases e : fa δ with
  | no => rw [e] at hp; exact hp
  | er x => rw [e] at hp; exact fun c dx B' H' g r => hp c dx σ B' H' g.b (rel.mono g) r
  | ok ds =>
    rw [e] at hp
    intro vs B1 H1 g1 r1
    have hv : vs.length = n := r1.length.trans (hl δ ds e)
    refine ⟨hv, hn, fun d hd => ?_⟩
    have g2 := Grow.new (K := K) (o := .xd (fv vs)) g1.i hd
    obtain ⟨f1, f2⟩ := F.ok K B1 vs ds hv r1
    exact hp _ _ σ _ _ (g1.b.trans g2.b) ((rel.mono g1).mono g2) ⟨hc, d, fv vs, rfl, upd_same, f1, RpA.mono g2.b f2⟩
structure ExK (K : PySem.W.Frag) (mg : Str → Option Value) (x : Str) (C fI : Addr) : Prop where
  T : OexB K C
  m : mg x = some (.ref C)
  c : clsV K x = some (.ref C)
  iC : PySem.W.findIn K (.ref C) "__init__" = some (some (.ref fI))
  tI : PySem.W.typeIn K (.ref fI) = some (.type "function")
theorem q_cs_raise0 {x : Str} {C fI : Addr} {k : Nat} {fd : FuncData} {ps : List Str} {fv : List V → List (Str × V)} {fD : List D → List (Str × D)} {p pos pos' : Pos} (tk : Takes X W) (T : ExK X.K X.mg x C fI) (F1 : FnOk X.prog X.w X.K X.mg X.base (L2.CX X.prog X.w) k fI fd ps (spI X.K C 0 fv)) (hr : Room (k + 1) X.A) (hb : Binds X.K fd ps [])
    (F : FF 0 fv fD) (hc : X.calm = true) (hg : Gl X x := by rfl) (hdb : (x == ("__debug__" : Str)) = false := by decide) : CS X W (.Raise (some (.Call (.Name x p) [] [] pos)) none pos') (fun _ σ H => tMkB C 0 fv tNil σ H fun cls d H' => W cls d σ H') (cRaise x fD cNil) :=
  ⟨ps_raise hc tk (pmkB0 T.T T.iC T.tI F1 hr hb T.m hg hdb), ss_raise T.c (by decide) F (fun B0 H0 δ σ B H Q rel hp => hp [] B H (Grow.refl rel.g.i) .nil) (fun δ ds h => by cases h; rfl)⟩
theorem cs_raise0 (K : PySem.W.Frag) (hK : X.K = K) {x : Str} {C fI : Addr} {k : Nat} {fd : FuncData} {ps : List Str} {fv : List V → List (Str × V)} {fD : List D → List (Str × D)} {p pos pos' : Pos} (tk : Takes X W) (T : ExK K X.mg x C fI) (F1 : FnOk X.prog X.w K X.mg X.base (L2.CX X.prog X.w) k fI fd ps (spI K C 0 fv)) (hr : Room (k + 1) X.A) (hb : Binds K fd ps [])
    (F : FF 0 fv fD) (hc : X.calm = true := by rfl) (hg : Gl X x := by rfl) (hdb : (x == ("__debug__" : Str)) = false := by decide) : CS X W (.Raise (some (.Call (.Name x p) [] [] pos)) none pos') (fun _ σ H => tMkB C 0 fv tNil σ H fun cls d H' => W cls d σ H') (cRaise x fD cNil) := by
  subst hK
  exact q_cs_raise0 tk T F1 hr hb F hc hg hdb
theorem cs_raise (K : PySem.W.Frag) (hK : X.K = K) {x : Str} {C fI : Addr} {k n : Nat} {fd : FuncData} {ps : List Str} {fv : List V → List (Str × V)} {fD : List D → List (Str × D)} {p pos pos' : Pos} {e : Expr} {es : List Expr} {ta : TA} {fa : DS → Res (List D)} (tk : Takes X W) (T : ExK K X.mg x C fI) (F1 : FnOk X.prog X.w K X.mg X.base (L2.CX X.prog X.w) k fI fd ps (spI K C n fv)) (hr : Room (k + 1) X.A) (hb : Binds K fd ps [])
    (F : FF n fv fD) (ha : CL X W (e :: es) ta fa) (hn : (e :: es).length = n := by rfl) (hn1 : n ≤ 1000 := by decide) (hc : X.calm = true := by rfl) (hg : Gl X x := by rfl) (hdb : (x == ("__debug__" : Str)) = false := by decide) (he : starEach (e :: es) X.env = (false, eval e X.env) :: starEach es X.env := by rfl) (hpl : (backTo pos (starEach es X.env)).any (·.1) = false := by rfl) :
    CS X W (.Raise (some (.Call (.Name x p) (e :: es) [] pos)) none pos') (fun _ σ H => tMkB C n fv ta σ H fun cls d H' => W cls d σ H') (cRaise x fD fa) := by
  subst hK
  exact ⟨ps_raise hc tk (pmkB T.T T.iC T.tI F1 hr hb T.m ha.pa hg hdb he hpl), ss_raise T.c hn1 F ha.sa (fun δ ds h => (ha.ln δ ds h).trans hn)⟩
end
noncomputable def XcK (K : PySem.W.Frag) (v : Value) : Prop := ∃ C, v = .ref C ∧ XfC K C ∧ ExcC K C ∧ ∀ f ∈ (["word", "name", "there", "ring", "at"] : List Str), PySem.W.findIn K (.ref C) f = some none
section
variable {K : PySem.W.Frag} {B B' H H' : Hp} {x : Exn} {c : Value} {d : Option Addr}
theorem RpX.mono (s : Same B B') (h : RpX K B c d x) : RpX K B' c d x := by
  obtain ⟨h1, dd, us, h2, h3, h4, h5⟩ := h
  exact ⟨h1, dd, us, h2, s _ _ h3, h4, RpA.mono s h5⟩
structure Ctx1 (K : PySem.W.Frag) (i : Nat) (x : Exn) (a : Addr) (cls : Value) (d : Option Addr) (B : Hp) (σ : L2.St) : Prop where
  at_ : σ[i]? = some (some (.ref a))
  rp : RpX K B cls d x
  k : XcK K cls
theorem Ctx1.mono {i : Nat} {a : Addr} {σ : L2.St} (s : Same B B') (h : Ctx1 K i x a c d B σ) : Ctx1 K i x a c d B' σ := ⟨h.at_, h.rp.mono s, h.k⟩
end
noncomputable def SEx (K : PySem.W.Frag) (i : Nat) (x : Exn) (a : Addr) (cls : Value) (d : Option Addr) (t : TE) (f : DS → Res D) : Prop := ∀ B0 H0 δ σ B H (Q : VK), Rel K B0 H0 B H σ δ → Ctx1 K i x a cls d B σ → PostE K B H σ W0 Q (f δ) → t σ H Q
noncomputable def SAx (K : PySem.W.Frag) (i : Nat) (x : Exn) (a : Addr) (cls : Value) (d : Option Addr) (t : TA) (f : DS → Res (List D)) : Prop := ∀ B0 H0 δ σ B H (Q : List V → Hp → Prop), Rel K B0 H0 B H σ δ → Ctx1 K i x a cls d B σ → PostA K B H σ W0 Q (f δ) → t σ H Q
noncomputable def SSx (K : PySem.W.Frag) (i : Nat) (x : Exn) (a : Addr) (cls : Value) (d : Option Addr) (t : TS) (g : DS → Fl) : Prop := ∀ B0 H0 δ σ B H (E : Ends), Rel K B0 H0 B H σ δ → Ctx1 K i x a cls d B σ → PostS K B0 H0 B W0 E (g δ) → t E σ H
noncomputable abbrev TXE := Addr → Value → Option Addr → TE
noncomputable abbrev TXA := Addr → Value → Option Addr → TA
noncomputable def XCx (X : Cx) (P : Cx → Addr → Value → Option Addr → Prop) : Prop := ∀ (a : Addr) (oe : Obj) (cls : Value) (d : Option Addr) (pn : List (Addr × Obj)), Zc cls d oe → (∃ vs, oe.data = .fields vs) → P (X.suite a ((a, oe) :: pn)) a cls d
structure CEx (X : Cx) (i : Nat) (e : Expr) (t : TXE) (f : Exn → DS → Res D) : Prop where
  pe : XCx X fun Y a cls d => PE Y e (t a cls d)
  se : ∀ x a cls d, SEx X.K i x a cls d (t a cls d) (f x)
structure CAx (X : Cx) (i : Nat) (es : List Expr) (t : TXA) (f : Exn → DS → Res (List D)) : Prop where
  pa : XCx X fun Y a cls d => PA Y es (t a cls d)
  sa : ∀ x a cls d, SAx X.K i x a cls d (t a cls d) (f x)
structure CXs (X : Cx) (i : Nat) (ss : List Stmt) (t : TX) (g : Exn → DS → Fl) : Prop where
  ps : XCx X fun Y a cls d => PSs Y ss (t a cls d)
  ss : ∀ x a cls d, SSx X.K i x a cls d (t a cls d) (g x)
section
variable {X : Cx} {i : Nat}
theorem cex_lift {e : Expr} {t : TE} {f : DS → Res D} (h : XCx X fun Y _ _ _ => CE Y W0 e t f) (h2 : SE X.K W0 t f) : CEx X i e (fun _ _ _ => t) (fun _ => f) :=
  ⟨fun a oe cls d pn hz hf => (h a oe cls d pn hz hf).pe, fun x a cls d B0 H0 δ σ B H Q rel _ hp => h2 B0 H0 δ σ B H Q rel hp⟩
noncomputable def fldR (f : Str) (x : Exn) : Res D := match x.fs.lookup f with
  | some d => .ok d
  | none => .no
noncomputable def tXfB (K : PySem.W.Frag) (a : Addr) (cls : Value) (d : Option Addr) (f : Str) (te : TE) : TE := fun σ H Q => te σ H fun x H1 => x = .ref a ∧ ∃ C, cls = .ref C ∧ XfC K C ∧ PySem.W.findIn K (.ref C) f = some none ∧ ∃ (dd : Addr) (fs : List (Str × V)) (v : V), d = some dd ∧ H1 dd = some (.xd fs) ∧ fs.lookup f = some v ∧ Q v H1
theorem look2 {K : PySem.W.Frag} {B : Hp} {f : Str} : ∀ {us : List (Str × V)} {fs : List (Str × D)} {z : D}, us.map (·.1) = fs.map (·.1) → RpA K B (us.map (·.2)) (fs.map (·.2)) → fs.lookup f = some z → ∃ v, us.lookup f = some v ∧ Rp K B v z
  | [], [], z, _, _, e => by cases e
  | [], _ :: _, _, e, _, _ => by cases e
  | _ :: _, [], _, e, _, _ => by cases e
  | (n, u) :: us, (m, z') :: fs, z, e, r, l => by
    obtain ⟨e1, e2⟩ := List.cons.inj e
    dsimp only at e1
    subst e1
    cases r with
    | cons h r =>
      rw [List.lookup_cons] at l ⊢
      cases q : (f == n) with
      | true => rw [q] at l; cases l; exact ⟨u, rfl, h⟩
      | false => rw [q] at l; exact look2 e2 r l
theorem cex_fld {e : Expr} {f : Str} {pos : Pos} (he : XCx X fun Y _ _ _ => PE Y e (tVar i)) (hf : f ∈ (["word", "name", "there", "ring", "at"] : List Str) := by decide) (hb : attributeBase e f X.env (eval e X.env) = eval e X.env := by rfl) :
    CEx X i (.Attribute e f pos) (fun a cls d => tXfB X.K a cls d f (tVar i)) (fun x _ => fldR f x) := by
  refine ⟨fun a oe cls d pn hz hv => ⟨fun pins s σ H Q I h => ?_⟩, fun x a cls d B0 H0 δ σ B H Q rel cx hp => ?_⟩
  · refine attr_of hb (thn ((he a oe cls d pn hz hv).run pins s σ H _ I h) fun u s1 hh => ?_)
    obtain ⟨x, H1, I1, rx, ex, C, ec, T, hno, dd, fs, v, ed, ea, l, q⟩ := hh
    subst ex
    obtain rfl : u = Value.ref a := rx
    subst ec ed
    obtain ⟨ha, _⟩ := I1.pin (a, oe) (List.mem_append_left _ List.mem_cons_self)
    obtain ⟨vs, hd⟩ := hv
    obtain ⟨mA, hns, hr⟩ := (show ObjOk X.prog X.w H1 s1.heap dd (.xd fs) from I1.hok dd _ ea)
    obtain ⟨od, ho, hl⟩ := lookIn_ns hns
    obtain ⟨u, hu, ru⟩ := RelO.some_of (v := v) (o := mA f) (by rw [← l]; exact hr f)
    have J : PySem.W.InstAt s1.heap a oe C (some od) := ⟨ha, hz.1, by unfold PySem.W.notCls; rw [hd] <;> rfl, by rw [hz.2]; exact ho⟩
    exact HandSPX.exc_get I1.kIn J T.ga T.gg T.exC (PySem.W.findObj_own T.hdC hno rfl (by rw [hl, hu])) (handed_of ru) ⟨v, H1, I1.tok _, ru, q⟩
  · obtain ⟨C, rfl, T, _, hno⟩ := cx.k
    obtain ⟨_, dd, us, rfl, hB, e1, e2⟩ := cx.rp
    refine ⟨_, cx.at_, rfl, C, rfl, T, hno f hf, dd, us, ?_⟩
    unfold fldR at hp
    cases q : x.fs.lookup f with
    | none => rw [q] at hp; exact hp.elim
    | some z =>
      rw [q] at hp
      obtain ⟨v, l1, l2⟩ := look2 e1 e2 q
      exact ⟨v, rfl, rel.g.i _ _ hB, l1, hp v B H (Grow.refl rel.g.i) l2⟩
end
noncomputable def Fl.leave (i : Nat) : Fl → Fl
  | .nx δ => .nx (δ.set i none)
  | .bk δ => .bk (δ.set i none)
  | .ct δ => .ct (δ.set i none)
  | .rt d => .rt d
  | .rf ds => .rf ds
  | .rn t => .rn t
  | .ro d δ => .ro d δ
  | _ => .no
noncomputable abbrev Clauses := List ((Str → Option Bool) × Nat × (Exn → DS → Fl))
noncomputable def cPick : Clauses → Exn → DS → Fl
  | [], x, δ => .rs x δ
  | (p, i, gs) :: r, x, δ => match p x.cls with
    | none => .no
    | some true => if i < δ.length then (gs x (δ.set i none)).leave i else .no
    | some false => cPick r x δ
noncomputable def cTry (g : DS → Fl) (hs : Clauses) : DS → Fl := fun δ => match g δ with
  | .rs x δ' => cPick hs x δ'
  | r => r
noncomputable def tabP (l : List (Str × Bool)) : Str → Option Bool := fun s => l.lookup s
inductive HdsC (X : Cx) : List ExceptHandler → List (Value × Nat × TX) → Clauses → Prop
  | nil : HdsC X [] [] []
  | cons {x n : Str} {i : Nat} {c : Value} {ts : TX} {gs : Exn → DS → Fl} {p : Str → Option Bool} {b₀ : Stmt} {suite : List Stmt} {np pos' : Pos} {hds : List ExceptHandler} {l : List (Value × Nat × TX)} {q : Clauses} (hi : X.N[i]? = some n) (hln : X.env.kindOf n = some .local) (hc : Names X x c)
      (hp : ∀ s b v, p s = some b → clsV X.K s = some v → PySem.W.exmOne X.K v c = some b ∧ (b = true → XcK X.K v)) (hsu : CXs X i (b₀ :: suite) ts gs) (r : HdsC X hds l q) : HdsC X (.ExceptHandler (some (.Name x np)) (some n) (b₀ :: suite) pos' :: hds) ((c, i, ts) :: l) ((p, i, gs) :: q)
theorem HdsC.n {X : Cx} : ∀ {hds : List ExceptHandler} {l : List (Value × Nat × TX)} {q : Clauses}, HdsC X hds l q → HdsN X hds l
  | _, _, _, .nil => .nil
  | _, _, _, .cons hi hln hc _ hsu r => .cons hi hln hc hsu.ps r.n
section
variable {X : Cx} {W : WX}
theorem takes_look {pn : List (Addr × Obj)} {W' : WX} (hs : X.stack = X.env :: X.outer) (hf : X.env.frame = some X.env.locals) :
    Takes (X.tr pn (fun e s₁ => wpAny (model X.prog X.w) X.A (noteFrame e X.env) (fun _ s₂ => wpAny (model X.prog X.w) X.A (setFlight e none) (fun _ _ => True) (fun _ _ => True) s₂) (fun _ _ => True) s₁)) W' := fun u s' xx => by
  obtain ⟨a, B, sI, pins', σ', H', cls, d, rfl, J', nb, up, sky, na, os, ag, w⟩ := xx
  have hfr : X.A.frames = some (X.env :: X.outer) := by rw [← hs]; exact J'.ok.frames
  exact Sky.land Zc.steady hfr hf (by rw [← hs]; exact sky) fun h3 fl3 up3 => trivial
end
end DV
namespace DV
open PySem L2 PySem.Spec PySem.Calls PyProof.Rows
noncomputable def oexB (K : PySem.W.Frag) (C : Addr) (bmB : List Value) (newId : String) : Bool :=
  PySem.W.excInitIn K C bmB newId && (PySem.W.excOver K C bmB && (PySem.W.hasDictIn K C && (decide (PySem.W.findIn K (.ref C) "__setattr__" = some (some (.builtin "object.__setattr__"))) && (decide (PySem.W.subIn K (.ref C) (.type "BaseException") = some true) && (decide (PySem.W.typeIn K (.ref C) = some (.type "type")) && PySem.W.keepIn K (.ref C))))))
theorem oexB_ok {K : PySem.W.Frag} {C : Addr} {B newId initId : String} {bmB : List Value} (F : ExcBaseFacts B newId initId bmB) (SF : PySem.StoreFacts B bmB "object.__setattr__" "object") (h : oexB K C bmB newId = true) : OexB K C := by
  obtain ⟨h1, h⟩ := Bool.and_eq_true_iff.mp h
  obtain ⟨h2, h⟩ := Bool.and_eq_true_iff.mp h
  obtain ⟨h3, h⟩ := Bool.and_eq_true_iff.mp h
  obtain ⟨h4, h⟩ := Bool.and_eq_true_iff.mp h
  obtain ⟨h5, h⟩ := Bool.and_eq_true_iff.mp h
  obtain ⟨h6, h7⟩ := Bool.and_eq_true_iff.mp h
  exact ⟨⟨B, newId, initId, bmB, F, SF, h1, h2⟩, h3, of_decide_eq_true h4, of_decide_eq_true h5, of_decide_eq_true h6, h7⟩
noncomputable def xcB (K : PySem.W.Frag) (C : Addr) : Bool :=
  xfB K C && (decide (PySem.W.findIn K (.ref C) "__class__" = some (some (.builtin "object.__class__"))) && (decide (PySem.W.specialIn K (.builtin "object.__class__") "__get__" = some (some (.builtin "getset_descriptor.__get__"))) && (decide (PySem.W.takesIn K (.builtin "object.__class__") = some true) && (decide (PySem.W.mroIn K C (.type "object") = some true) &&
    (["word", "name", "there", "ring", "at"] : List Str).all fun f => decide (PySem.W.findIn K (.ref C) f = some none)))))
theorem xcB_ok {K : PySem.W.Frag} {C : Addr} (h : xcB K C = true) : XcK K (.ref C) := by
  obtain ⟨h1, h⟩ := Bool.and_eq_true_iff.mp h
  obtain ⟨h2, h⟩ := Bool.and_eq_true_iff.mp h
  obtain ⟨h3, h⟩ := Bool.and_eq_true_iff.mp h
  obtain ⟨h4, h⟩ := Bool.and_eq_true_iff.mp h
  obtain ⟨h5, h6⟩ := Bool.and_eq_true_iff.mp h
  have x := xfB_ok h1
  exact ⟨C, rfl, x, ⟨x.ga, x.gg, x.exC, x.hdC, of_decide_eq_true h2, of_decide_eq_true h3, of_decide_eq_true h4, of_decide_eq_true h5⟩, fun f hf => of_decide_eq_true (List.all_eq_true.mp h6 f hf)⟩
theorem XcK.no {K : PySem.W.Frag} {C : Addr} (h : XcK K (.ref C)) {f : Str} (hf : f ∈ (["word", "name", "there", "ring", "at"] : List Str) := by decide) : PySem.W.findIn K (.ref C) f = some none := by
  obtain ⟨C', e, _, _, h⟩ := h
  cases e
  exact h f hf
theorem clsV_of {K : PySem.W.Frag} {x : Str} {v : Value} (h : PySem.W.nsIn K mainGlobals x = some (some v)) : clsV K x = some v := by
  unfold clsV
  rw [h]
  rfl
noncomputable def TabOk (K : PySem.W.Frag) (c : Value) (l : List (Str × Bool)) : Prop := ∀ s b v, tabP l s = some b → clsV K s = some v → PySem.W.exmOne K v c = some b ∧ (b = true → XcK K v)
theorem tab_nil {K : PySem.W.Frag} {c : Value} : TabOk K c [] := fun s b v h => by cases h
theorem tab_cons {K : PySem.W.Frag} {c v0 : Value} {l : List (Str × Bool)} {x : Str} {b0 : Bool} (hx : clsV K x = some v0) (he : PySem.W.exmOne K v0 c = some b0) (hk : XcK K v0) (r : TabOk K c l) : TabOk K c ((x, b0) :: l) := fun s b v h hv => by
  unfold tabP at h
  rw [List.lookup_cons] at h
  cases q : (s == x) with
  | true =>
    rw [q] at h
    cases h
    rw [beq_iff_eq.mp q] at hv
    rw [hx] at hv
    cases hv
    exact ⟨he, fun _ => hk⟩
  | false => rw [q] at h; exact r s b v h hv
noncomputable def inCls (s : Stmt) (j : Nat) : Stmt := match s with
  | .ClassDef _ _ _ b _ _ _ _ _ _ _ => b.getD j (.Pass ⟨0, 0, 0, 0⟩)
  | _ => .Pass ⟨0, 0, 0, 0⟩
theorem funD_mk {K : PySem.W.Frag} {x qual : Str} {st : Stmt} {f T : Addr} {oc : Value} {od an : Option Addr} {osl : Array (Option Value)} {kV doc pm cdv ct : Value} {oT : Obj} {its : List Value} {nT : Nat} {dvs : List V} (l : K.lookup f = some ⟨oc, od, .func (PySem.W.fnOf x qual (defArgs st) (defBody st) (defScope st) (.ref T) kV doc pm an cdv ct), osl⟩)
    (c : PySem.W.codeIn K cdv qual = true) (k : PySem.W.keepIn K (.ref f) = true) (lT : K.lookup T = some oT) (dT : oT.data = .seq its.toArray nT) (hv : Vals dvs its) (hne : dvs ≠ []) : FunD K x qual (defArgs st) (defBody st) (defScope st) dvs [] f (PySem.W.fnOf x qual (defArgs st) (defBody st) (defScope st) (.ref T) kV doc pm an cdv ct) :=
  ⟨⟨oc, od, _, kV, doc, pm, an, cdv, ct, osl, rfl, l, c, .inr ⟨hne, T, oT, its, nT, rfl, lT, dT, hv⟩, .inl rfl⟩, k⟩
theorem binds_all {K : PySem.W.Frag} {fd : FuncData} {ps : List Str} {dvs : List V} (h : ∃ ds, Vals dvs ds ∧ Binds K fd ps ds) (hd : dvs = []) : Binds K fd ps [] := by
  subst hd
  obtain ⟨ds, hv, hb⟩ := h
  cases hv
  exact hb
end DV
namespace DV
open PySem L2 PySem.Spec PySem.Calls PyProof.Rows
section
variable {K : PySem.W.Frag} {B : Hp}
theorem RpA.getD : ∀ {vs : List V} {ds : List D} (i : Nat), RpA K B vs ds → Rp K B (vs.getD i .non) (ds.getD i .non)
  | _, _, _, .nil => by simpa using Rp.v .non
  | _, _, 0, .cons h _ => by simpa using h
  | _, _, i + 1, .cons _ r => by simpa using RpA.getD i r
end
section
variable {K : PySem.W.Frag} {x qual : Str} {params : Arguments} {body : List Stmt} {scope : Scope} {dvs : List V} {kws : List (Str × V)} {f : Addr} {fd : FuncData} {ps : List Str}
end
section
variable {X : Cx} {W : WX}
theorem cons_len {f : DS → Res D} {g : DS → Res (List D)} {n : Nat} (h : ∀ δ ds, g δ = .ok ds → ds.length = n) (δ : DS) (ds : List D) (e : cCons f g δ = .ok ds) : ds.length = n + 1 := by
  unfold cCons at e
  cases e1 : f δ with
  | no => rw [e1] at e; cases e
  | er x => rw [e1] at e; cases e
  | ok d =>
    rw [e1, Res.bind_ok] at e
    cases e2 : g δ with
    | no => rw [e2] at e; cases e
    | er x => rw [e2] at e; cases e
    | ok ds' =>
      rw [e2, Res.bind_ok] at e
      cases e
      rw [List.length_cons, h δ ds' e2]
end
end DV
namespace DV
open PySem L2 PySem.Spec PySem.Calls PyProof.Rows PySem.W
section
variable {prog : Program} {w : World} {A : Around} {E : Value → Shared → Prop} {s : Shared} {K : Frag} {x D : Addr} {ox od : Obj}
end
end DV
namespace DV
open PySem L2 PySem.Spec PySem.Calls PyProof.Rows
section
variable {X : Cx} {i : Nat}
end
end DV
namespace DV
open PySem L2 PySem.Spec PySem.Calls PyProof.Rows LamX
section
variable {X : Cx} {pins : List (Addr × Obj)} {σ : L2.St} {H : Hp} {s : Shared}
end
section
variable {X : Cx}
end
section
variable {X : Cx}
end
end DV
namespace DV
open PySem L2 PySem.Spec PySem.Calls PyProof.Rows LamX
theorem def_okC {P : Program} {w : World} {K : PySem.W.Frag} {mg : Str → Option Value} {base : Heap} {x qual : Str} {st : Stmt} {f : Addr} {oc : Value} {od an : Option Addr} {osl : Array (Option Value)} {kV doc pm cdv ct : Value} {N ps : List Str} {k m : Nat} {g : DS → Fl} (l : K.lookup f = some ⟨oc, od, .func (PySem.W.fnOf x qual (defArgs st) (defBody st) (defScope st) .none kV doc pm an cdv ct), osl⟩)
    (hc : PySem.W.codeIn K cdv qual = true) (S : FnScope N ps (defScope st)) (hm : N.length - ps.length = m)
    (hbody : ∀ (A : Around) (outer : List Env) (s : Shared) (H : Hp) (E : XK), Room k (A.deeper (PyProof.Rows.envOfC qual (defScope st) s.heap.objs.size f cdv)) → Takes (cxOf (L2.CX P w) P w K mg base N qual (defScope st) f cdv A outer s H E) (Wof E) →
      PassesOwn (model P w) (A.deeper (PyProof.Rows.envOfC qual (defScope st) s.heap.objs.size f cdv)) (PyProof.Rows.envOfC qual (defScope st) s.heap.objs.size f cdv) (cxOf (L2.CX P w) P w K mg base N qual (defScope st) f cdv A outer s H E).xe → (A.deeper (PyProof.Rows.envOfC qual (defScope st) s.heap.objs.size f cdv)).units + 64 < cLine →
      ∃ t, CSs (cxOf (L2.CX P w) P w K mg base N qual (defScope st) f cdv A outer s H E) (Wof E) (defBody st) t g) :
    FnOk P w K mg base (L2.CX P w) (k + 1) f (PySem.W.fnOf x qual (defArgs st) (defBody st) (defScope st) .none kV doc pm an cdv ct) ps (spD K ps.length (defF m g)) := by
  refine fn_of l hc S (fun vs H Q E h => h.1) fun A outer s H vs Q E hr h => ?_
  obtain ⟨hl, ds, B, i, r, tb, hp⟩ := h
  obtain ⟨t, ht⟩ := hbody A outer s H E hr (takes_of rfl rfl rfl rfl) (passes_of (X := cxOf (L2.CX P w) P w K mg base N qual _ f cdv A outer s H E) rfl) hr.units
  exact ⟨t, ht.ps, ss_def (N := N) ht.ss i r tb (by rw [hl, hm]; exact hp)⟩
noncomputable def TabsAre (K : PySem.W.Frag) : List Str → List (Addr × Addr) → Prop
  | [], [] => True
  | n :: ns, p :: ps => PySem.W.tabIn K n = some p ∧ TabsAre K ns ps
  | _, _ => False
theorem TabsAre.of {K : PySem.W.Frag} : ∀ {ns : List Str} {ps : List (Addr × Addr)}, TabsAre K ns ps → ∀ p ∈ ps, ∃ n ∈ ns, PySem.W.tabIn K n = some p
  | [], [], _, p, hp => by cases hp
  | [], _ :: _, h, _, _ => h.elim
  | _ :: _, [], h, _, _ => h.elim
  | n :: ns, q :: ps, h, p, hp => by
    rcases List.mem_cons.mp hp with rfl | z
    · exact ⟨n, by simp, h.1⟩
    · obtain ⟨m, h1, h2⟩ := TabsAre.of h.2 p z
      exact ⟨m, by simp [h1], h2⟩
theorem TabsAre.tab {K : PySem.W.Frag} : ∀ {ns : List Str} {ps : List (Addr × Addr)}, TabsAre K ns ps → ∀ P ∈ ns.filterMap (fun n => (PySem.W.tabIn K n).map (·.2)), ∃ p ∈ ps, p.2 = P
  | [], _, _, P, hp => by simp at hp
  | _ :: _, [], h, _, _ => h.elim
  | n :: ns, q :: ps, h, P, hp => by
    obtain ⟨m, h1, h2⟩ := List.mem_filterMap.mp hp
    rcases List.mem_cons.mp h1 with rfl | z
    · rw [h.1] at h2
      exact ⟨q, by simp, Option.some.inj h2⟩
    · obtain ⟨p, h3, h4⟩ := TabsAre.tab h.2 P (List.mem_filterMap.mpr ⟨m, z, h2⟩)
      exact ⟨p, by simp [h3], h4⟩
theorem walkT {l : PySem.W.OpenLaw} {n k : Nat} {q : Program} {loose : List Str} {XP : (Str → Option Value) → Heap → Prop} {YP : World → Heap → Prop} {d : DefRec} {K : Params → PySem.W.Frag} {x : Str} {F : List D → Res D} (hn : l.most = some n) (hn2 : n ≤ sizeLine) (hdf : d.params.defaults = []) (hr : Room k callerA)
    (hY : ∀ (w : World) (h : Heap), YP w h → (K w.params).In h) (hrec : (lamNs.all fun m => ((recsOf q).find? (fun e => e.name == m)).isSome) = true)
    (F0 : ∀ (w : World) (mg : Str → Option Value) (fa : Addr) (h : Heap), (K w.params).In h → h.Ns mainGlobals mg → mg d.name = some (.ref fa) → ∃ fd cs, TabsAre (K w.params) lamNs cs ∧ (∀ p ∈ cs, (K w.params).lookup p.2 = none) ∧ (∀ (s : Shared) (u : Value), BindsTo s fd ⟨[u], []⟩ [(x, u)]) ∧
      ∀ base : Heap, (K w.params).In base → base.Ns mainGlobals mg → (∀ p ∈ cs, TabB base mg p.1 p.2) → FnOk l.prog w (K w.params) mg base (L2.CX l.prog w) k fa fd [x] (spD (K w.params) 1 F))
    (hF : ∀ ns : List Int, ns.length ≤ n → F [.lst (ns.map D.int)] = .ok (.bl true)) : PySem.W.WalkO q loose XP YP l.row.toRowW d [] (fun f vs => PySem.call f vs) := by
  refine Att.attach_callB hn hdf fun w s₀ s₁ mg mb fa o pm cd doc a vs ns G Y ho hd hcd hmg hobj hints hlen hbits hg => ?_
  have KX := hY w _ Y
  obtain ⟨fd, cs, ht, nP, hb, hF0⟩ := F0 w mg fa _ KX G.T.g hmg
  have tm : ∀ p ∈ cs, ∃ m dL, (recsOf q).find? (fun e => e.name == m) = some dL ∧ PySem.W.tabIn (K w.params) m = some (p.1, p.2) := fun p hp => by
    obtain ⟨m, h1, h2⟩ := ht.of p hp
    obtain ⟨dL, hr1⟩ := Option.isSome_iff_exists.mp (List.all_eq_true.mp hrec m h1)
    exact ⟨m, dL, hr1, h2⟩
  exact law_callTs (cs := cs) KX G.T.g G.T.b G.T.builtins G.T.nolimit hg (fun p hp => by obtain ⟨m, dL, r1, r2⟩ := tm p hp; exact (PySem.W.tab_of G.T KX r1 r2).2) nP (fun p hp => by obtain ⟨m, dL, r1, r2⟩ := tm p hp; exact (PySem.W.tab_of G.T KX r1 r2).1) G.T.bmain hobj hints (Nat.le_trans hlen hn2) hr (fun base b1 b2 b3 => hF0 base b1 b2 b3) hb
    (fun H hH hS => spD_law hS (fun p hp => by
      obtain ⟨c, h1, rfl⟩ := ht.tab p hp
      exact NdefX.TabN.nil (hH c h1)) (hF ns hlen)) fun H e s' z => cx_false H s₁ e s' z
end DV
namespace DV
open PySem L2 PySem.Spec PySem.Calls PyProof.Rows LamX
theorem tabIn_of {K : PySem.W.Frag} {x : Str} {f c P : Addr} {oc o1 : Value} {od o2 : Option Addr} {fd : FuncData} {osl o3 : Array (Option Value)} {vs : Array Value} (a : PySem.W.nsIn K mainGlobals x = some (some (.ref f))) (l : K.lookup f = some ⟨oc, od, .func fd, osl⟩) (hc : fd.code = .ref c) (tc : K.lookup c = some ⟨o1, o2, .fields vs, o3⟩) (tp : vs[11]? = some (.ref P)) : PySem.W.tabIn K x = some (c, P) := by
  unfold PySem.W.tabIn
  rw [a]
  dsimp only
  rw [l]
  dsimp only
  rw [hc]
  dsimp only
  rw [tc]
  dsimp only
  rw [tp]
theorem in_tabs {K : PySem.W.Frag} {c P : Addr} {n : Str} (h : PySem.W.tabIn K n = some (c, P)) (hn : n ∈ lamNs := by decide) : P ∈ tabsOf K := by
  unfold tabsOf
  exact List.mem_filterMap.mpr ⟨n, hn, by rw [h]; rfl⟩
end DV
namespace DV
open PySem L2
section
variable {X : Cx} {W : WX}
end
end DV
namespace DV
open PySem
end DV
namespace DV
open PySem L2 PySem.Spec PySem.Calls PyProof.Rows PpSet
section
variable {X : Cx} {β : Type} {SO : Addr → β → HO} {b0 : β} {r : V → List V → Hp → VK → Prop}
end
end DV
namespace DV
open PySem L2
noncomputable def insU (k : Int) : List Int → List Int
  | [] => [k]
  | x :: xs => if k < x then k :: x :: xs else if k = x then x :: xs else x :: insU k xs
noncomputable def setI (ns : List Int) : List Int := ns.foldl (fun l k => insU k l) []
section
variable {X : Cx} {W : WX} {K : PySem.W.Frag}
end
end DV
namespace DV
open PySem L2
section
variable {X : Cx} {W : WX}
end
end DV
namespace DV
open PySem PySem.Spec PySem.Calls PyProof.Rows L2
section
variable {prog : Program} {w : World} {A : Around} {E : Value → Shared → Prop} {s : Shared}
end
end DV
namespace DV
open PySem PySem.Spec PySem.Calls PyProof.Rows L2
section
variable {X : Cx} {W : WX}
end
end DV
namespace DV
open PySem L2
inductive RpK (K : PySem.W.Frag) (B : Hp) : List (Key × V) → List (Key × D) → Prop
  | nil : RpK K B [] []
  | cons {k : Key} {v : V} {d : D} {us : List (Key × V)} {ks : List (Key × D)} : Rp K B v d → RpK K B us ks → RpK K B ((k, v) :: us) ((k, d) :: ks)
section
variable {K : PySem.W.Frag} {B B' : Hp}
theorem RpK.keys : ∀ {us : List (Key × V)} {ks : List (Key × D)}, RpK K B us ks → us.map (·.1) = ks.map (·.1)
  | _, _, .nil => rfl
  | _, _, .cons _ r => by simp [RpK.keys r]
theorem RpK.length {us : List (Key × V)} {ks : List (Key × D)} (r : RpK K B us ks) : us.length = ks.length := by
  have := congrArg List.length r.keys
  simpa using this
theorem RpK.append : ∀ {us ws : List (Key × V)} {ks ls : List (Key × D)}, RpK K B us ks → RpK K B ws ls → RpK K B (us ++ ws) (ks ++ ls)
  | _, _, _, _, .nil, s => s
  | _, _, _, _, .cons h r, s => .cons h (RpK.append r s)
end
section
variable {X : Cx} {W : WX} {K : PySem.W.Frag}
end
end DV
namespace DV
open PySem L2
mutual
noncomputable def D.noDct : D → Bool
  | .v _ => true
  | .lst xs => D.noDctA xs
  | .tup xs => D.noDctA xs
  | .dct _ _ => false
  | .dlk _ _ => false
  | .ins _ _ _ => false
  | .dtt _ _ => false
  | .ptp _ => false
  | .wor _ _ => false
noncomputable def D.noDctA : List D → Bool
  | [] => true
  | x :: xs => x.noDct && D.noDctA xs
end
section
variable {K : PySem.W.Frag} {B B' : Hp} {p : Addr}
end
section
variable {X : Cx} {W : WX} {K : PySem.W.Frag}
end
end DV
namespace DV
open PySem L2
section
variable {X : Cx} {W : WX} {K : PySem.W.Frag}
end
end DV
namespace DV
open PySem L2
section
variable {X : Cx} {W : WX} {K : PySem.W.Frag}
noncomputable def encD (d : D) : PyData := d.py.getD .none
noncomputable def leD : D → D → Bool := PySem.W.dataLe false encD
noncomputable def sortOk (ps : List PyData) : Bool := (ps.all fun p => ps.all fun q => PySem.W.alike p q) && (ps.all fun p => match p with
  | .tuple (_ :: _) => true
  | _ => false) && ps.all fun p => decide (p.depth ≤ 60)
noncomputable def rSortD (K : PySem.W.Frag) : List V → Hp → VK → Prop := fun xs H Q => ∃ p ys ds B, xs = [.ref p] ∧ Same B H ∧ SqL K H p ys ∧ RpA K B ys ds ∧ (∃ ps, D.pyA ds = some ps ∧ sortOk ps = true) ∧ ∀ q zs, H q = none → RpA K B zs (ds.mergeSort leD) → Q (.ref q) (upd H q (.lst zs))
theorem pyA_map : ∀ {ds : List D} {ps : List PyData}, D.pyA ds = some ps → ps = ds.map encD ∧ ∀ d ∈ ds, d.py = some (encD d)
  | [], ps, h => by cases h; exact ⟨rfl, fun d hd => by cases hd⟩
  | d :: ds, ps, h => by
    unfold D.pyA at h
    cases q1 : d.py with
    | none => rw [q1] at h; cases h
    | some a =>
      cases q2 : D.pyA ds with
      | none => rw [q1, q2] at h; cases h
      | some as =>
        rw [q1, q2] at h
        cases h
        obtain ⟨i1, i2⟩ := pyA_map q2
        have e : encD d = a := by unfold encD; rw [q1]; rfl
        refine ⟨by rw [i1, List.map_cons, e], fun x hx => ?_⟩
        rcases List.mem_cons.mp hx with rfl | hx
        · rw [q1, e]
        · exact i2 x hx
theorem cr_sortD (hu : X.A.units + 64 < cLine) : CallR X (.builtin "sorted") (rSortD X.K) := by
  intro pins s σ H xs us Q I r h
  obtain ⟨p, ys, ds, B, rfl, i, hs, rp, ⟨ps, hps, hok⟩, q⟩ := h
  rw [Vals.ref1 r]
  obtain ⟨its, rv, hl, hz⟩ := I.list hs
  obtain ⟨rfl, hpy⟩ := pyA_map hps
  simp only [sortOk, Bool.and_eq_true, List.all_eq_true, decide_eq_true_eq] at hok
  obtain ⟨⟨h1, h2⟩, h3⟩ := hok
  have er : ∀ {ys : List V} {its : List Value} {ds : List D}, Vals ys its → RpA X.K B ys ds → (∀ d ∈ ds, d.py = some (encD d)) → PySem.W.EachIs (fun v d => ∃ as, Reads s.heap v (encD d) as) its ds ∧ PySem.W.EachIs (fun v d => ∃ x, RelV x v ∧ Rp X.K B x d) its ds := by
    intro ys
    induction ys with
    | nil => intro its ds rv rp _; cases rv; cases rp; exact ⟨.nil, .nil⟩
    | cons y ys ih =>
      intro its ds rv rp hp
      cases rv with
      | cons rv1 rv2 =>
        cases rp with
        | @cons _ _ d ds rp1 rp2 =>
          obtain ⟨a1, a2⟩ := ih rv2 rp2 fun d hd => hp d (by simp [hd])
          exact ⟨.cons (Dp.reads I _ _ _ (dp_mono i (dp_of rp1 (hp d (by simp)))) rv1) a1, .cons ⟨_, rv1, rp1⟩ a2⟩
  obtain ⟨e1, e2⟩ := er rv rp hpy
  have hlen : ds.length ≤ sizeLine := by rw [← rp.length]; exact hz
  refine PySem.W.sorted_data (bs := ds) (enc := encD) (R := fun v d => ∃ x, RelV x v ∧ Rp X.K B x d) hl.isList e2 e1 (fun d hd d' hd' => h1 d hd d' hd') (.inl fun d hd => ?_) hlen (fun d hd => ?_) fun out ho hout => ?_
  · have := h2 d hd
    split at this
    · exact ⟨_, _, rfl⟩
    · cases this
  · have := h3 (encD d) (List.mem_map.mpr ⟨d, hd, rfl⟩)
    omega
  · have back : ∀ {out : List Value} {ds : List D}, PySem.W.EachIs (fun v d => ∃ x, RelV x v ∧ Rp X.K B x d) out ds → ∃ zs, Vals zs out ∧ RpA X.K B zs ds := by
      intro out
      induction out with
      | nil => intro ds h; cases h; exact ⟨[], .nil, .nil⟩
      | cons v out ih =>
        intro ds h
        cases h with
        | cons a b =>
          obtain ⟨x, x1, x2⟩ := a
          obtain ⟨zs, z1, z2⟩ := ih b
          exact ⟨x :: zs, .cons x1 z1, .cons x2 z2⟩
    obtain ⟨zs, z1, z2⟩ := back hout
    obtain ⟨ep, he'⟩ := PyProof.Rows.sortedAll_at s.heap its (List.toArray out)
    have hzl : zs.length ≤ sizeLine := by rw [z1.length, ho]; exact hlen
    exact ⟨.ref _, upd H (s.heap.objs.size + 1) (.lst zs), I.laid (t' := s.toks) (fun _ _ => PyProof.Rows.sortedAll_old) (Nat.le_succ _) ⟨hzl, out, ep, z1, he'⟩, rfl, q _ zs (I.hok.fresh (Nat.le_succ _)) z2⟩
noncomputable def srtD (ds : List D) : Res (List D) := match intsD ds with
  | some ns => .ok ((sortI ns).map D.int)
  | none => match D.pyA ds with
    | some ps => if sortOk ps then .ok (ds.mergeSort leD) else .no
    | none => .no
noncomputable def asL : D → Res (List D)
  | .lst ds => .ok ds
  | _ => .no
noncomputable def cSrt (f : DS → Res D) : DS → Res (List D) := fun δ => (f δ).bind fun d => (asL d).bind srtD
theorem cf_sorted (K : PySem.W.Frag) (hK : X.K = K) (hu : X.A.units + 64 < cLine) {a : Expr} {p pos : Pos} {t : TE} {f : DS → Res D} (hm : X.mg "sorted" = none) (ha : CE X W a t f) (hg : Gl X "sorted" := by rfl) (hs : starEach [a] X.env = (false, eval a X.env) :: starEach [] X.env := by rfl) (hpl : (backTo pos (starEach [] X.env)).any (·.1) = false := by rfl) :
    CF X W (.Call (.Name "sorted" p) [a] [] pos) (tCB (fun xs H Q => rSortedI K xs H Q ∨ rSortD K xs H Q) (tCons t tNil)) (cSrt f) := by
  subst hK
  refine ⟨pe_callB (CallR.or cr_sortedI (cr_sortD hu)) hg hm (by decide +kernel) (pa_cons ha.pe pa_nil hs) (by decide) (by decide) hs hpl, fun B0 H0 δ σ B H Q rel hp => ?_⟩
  unfold cSrt at hp
  refine ha.se B0 H0 δ σ B H _ rel ?_
  cases e : f δ with
  | no => rw [e] at hp; exact hp
  | er x => rw [e] at hp; exact hp
  | ok d =>
    rw [e, Res.bind_ok] at hp
    intro v B1 H1 g1 r1
    unfold asL at hp
    split at hp
    · rw [Res.bind_ok] at hp
      unfold srtD at hp
      split at hp
      · rename_i ns e2
        cases r1 with
        | lst h1 q =>
          rw [intsD_of e2] at q
          have e3 := q.ints_of
          subst e3
          refine .inl ⟨_, ns, rfl, g1.i.seq h1, fun ms z pm sr hz => ?_⟩
          have : ms = sortI ns := sortI_unique pm sr
          subst this
          exact hp z _ B1 _ (g1.trans (Grow.raw g1.i hz)) (g1.free hz) (g1.i.free hz) upd_same (RpA.ints _)
      · split at hp
        · rename_i ps e2
          split at hp
          · rename_i hok
            cases r1 with
            | lst h1 q =>
              exact .inr ⟨_, _, _, B1, rfl, g1.i, g1.i.seq h1, q, ⟨ps, e2, hok⟩, fun z zs hz rz => hp z zs B1 _ (g1.trans (Grow.raw g1.i hz)) (g1.free hz) (g1.i.free hz) upd_same rz⟩
          · exact hp.elim
        · exact hp.elim
    · exact hp.elim
end
end DV
namespace DV
open PySem L2
section
variable {X : Cx} {W : WX} {K : PySem.W.Frag}
noncomputable def lc2F (vs1 : List Nat) (b : D → DS → Option DS) (t : DS → Res Bool) (fi1 : DS → Res (List D)) (b1 : D → DS → Option DS) (t1 : DS → Res Bool) (e : DS → Res D) : List D → DS → Res (List D)
  | [], _ => .ok []
  | d :: ds, δ => match b d δ with
    | none => .no
    | some δ' => (t δ').calm.bind fun k => if k = true then (fi1 δ').calm.bind fun ds1 => (lcF b1 t1 e ds1 (wipeD δ' vs1)).bind fun ys => (lc2F vs1 b t fi1 b1 t1 e ds δ).bind fun zs => .ok (ys ++ zs) else lc2F vs1 b t fi1 b1 t1 e ds δ
theorem lc2F_calm (vs1 : List Nat) (b : D → DS → Option DS) (t : DS → Res Bool) (fi1 : DS → Res (List D)) (b1 : D → DS → Option DS) (t1 : DS → Res Bool) (e : DS → Res D) : ∀ (ds : List D) (δ : DS) (x : Exn), lc2F vs1 b t fi1 b1 t1 e ds δ ≠ .er x
  | [], δ, x => by simp [lc2F]
  | d :: ds, δ, x => by
    unfold lc2F
    split
    · simp
    · rename_i δ' _
      have ih := lc2F_calm vs1 b t fi1 b1 t1 e ds δ x
      cases t δ' with
      | no => simp
      | er x => simp
      | ok k =>
        simp only [Res.calm_ok, Res.bind_ok]
        split
        · cases fi1 δ' with
          | no => simp
          | er x => simp
          | ok ds1 =>
            simp only [Res.calm_ok, Res.bind_ok]
            cases h2 : lcF b1 t1 e ds1 (wipeD δ' vs1) with
            | no => simp
            | er x => exact absurd h2 (lcF_calm _ _ _ _ _ _)
            | ok ys =>
              simp only [Res.bind_ok]
              cases h3 : lc2F vs1 b t fi1 b1 t1 e ds δ with
              | no => simp
              | er x' => simp only [Res.bind_er]; rw [h3] at ih; exact ih
              | ok zs => simp
        · exact ih
noncomputable def cLc2 (vs vs1 : List Nat) (fi : DS → Res (List D)) (b : D → DS → Option DS) (t : DS → Res Bool) (fi1 : DS → Res (List D)) (b1 : D → DS → Option DS) (t1 : DS → Res Bool) (e : DS → Res D) : DS → Res (List D) := fun δ => (fi δ).bind fun ds => match lc2F vs1 b t fi1 b1 t1 e ds (wipeD δ vs) with
  | .ok ys => if ys.length ≤ sizeLine then .ok ys else .no
  | _ => .no
theorem lc2_in {J : It} {n : Nat} {G : Hp → Prop} {Y : Nat → Hp → V → Hp → Prop} (w : Walk J n G Y) {g : TG} {tt : TT} {te : TE} {vs : List Nat} {σ : L2.St} {H1 : Hp} {D : Addr} {Nx : Hp → Prop} (Pv : Nat → Hp → Prop) (h0 : Pv 0 H1) (hG : ∀ i H, i ≤ n → Pv i H → G H)
    (hs : ∀ i x H H', i < n → Pv i H → Y i H x H' → g x (wipe σ vs) H' fun σ3 H5 => wipe σ3 vs = wipe σ vs ∧ tt σ3 H5 fun b H6 => if b = true then te σ3 H6 fun y H7 => ∃ acc, H7 D = some (.lst acc) ∧ acc.length < sizeLine ∧ Pv (i + 1) (upd H7 D (.lst (acc ++ [y]))) else Pv (i + 1) H6) (hd : ∀ H, Pv n H → Nx H) :
    ∃ W1 : Nat → Nat → Hp → Prop, (∃ m, W1 0 m H1) ∧ ∀ j k H, W1 j k H → (J.stop j H ∧ Nx H) ∨ (J.go j H ∧ ∃ Nx1 : Hp → Prop, (∀ H', Nx1 H' → ∃ k', k' < k ∧ W1 (j + 1) k' H') ∧ ∀ x H', J.yld j H x H' → g x (wipe σ vs) H' fun σ3 H5 => wipe σ3 vs = wipe σ vs ∧ tt σ3 H5 fun b H6 =>
      if b = true then te σ3 H6 fun y H7 => ∃ acc, H7 D = some (.lst acc) ∧ acc.length < sizeLine ∧ Nx1 (upd H7 D (.lst (acc ++ [y]))) else Nx1 H6) := by
  refine ⟨fun i m H => m = n - i ∧ i ≤ n ∧ Pv i H, ⟨n, by simp, Nat.zero_le _, h0⟩, ?_⟩
  rintro i m H ⟨rfl, hin, pv⟩
  have q := hG i H hin pv
  by_cases hlt : i < n
  · exact .inr ⟨w.goes i H hlt q, Pv (i + 1), fun H' pv' => ⟨n - (i + 1), by omega, rfl, hlt, pv'⟩, fun x H' y => hs i x H H' hlt pv (w.yields i H x H' hlt q y)⟩
  · obtain rfl : i = n := by omega
    exact .inl ⟨w.stops H q, hd H pv⟩
theorem lc2_out {J : It} {n : Nat} {G : Hp → Prop} {Y : Nat → Hp → V → Hp → Prop} (w : Walk J n G Y) {R : V → Hp → (Hp → Prop) → Prop} {H1 : Hp} {Qd : Hp → Prop} (Pv : Nat → Hp → Prop) (h0 : Pv 0 H1) (hG : ∀ i H, i ≤ n → Pv i H → G H)
    (hs : ∀ i x H H', i < n → Pv i H → Y i H x H' → R x H' (Pv (i + 1))) (hd : ∀ H, Pv n H → Qd H) :
    ∃ M : Nat → Nat → Hp → Prop, (∃ m, M 0 m H1) ∧ ∀ i m H, M i m H → (J.stop i H ∧ Qd H) ∨ (J.go i H ∧ ∃ Nx : Hp → Prop, (∀ H', Nx H' → ∃ m', m' < m ∧ M (i + 1) m' H') ∧ ∀ x H', J.yld i H x H' → R x H' Nx) := by
  refine ⟨fun i m H => m = n - i ∧ i ≤ n ∧ Pv i H, ⟨n, by simp, Nat.zero_le _, h0⟩, ?_⟩
  rintro i m H ⟨rfl, hin, pv⟩
  have q := hG i H hin pv
  by_cases hlt : i < n
  · exact .inr ⟨w.goes i H hlt q, Pv (i + 1), fun H' pv' => ⟨n - (i + 1), by omega, rfl, hlt, pv'⟩, fun x H' y => hs i x H H' hlt pv (w.yields i H x H' hlt q y)⟩
  · obtain rfl : i = n := by omega
    exact .inl ⟨w.stops H q, hd H pv⟩
structure Acc (K : PySem.W.Frag) (B1 H1 : Hp) (Dl : Addr) (us : List V) (done : List D) (B' H' : Hp) : Prop where
  g : Grow K B1 H1 B' H'
  b : B' Dl = none
  h : H' Dl = some (.lst us)
  r : RpA K B' us done
theorem Acc.mono {B1 H1 B' H' B2 H2 : Hp} {Dl : Addr} {us : List V} {done : List D} (a : Acc K B1 H1 Dl us done B' H') (g : Grow K B' H' B2 H2) : Acc K B1 H1 Dl us done B2 H2 :=
  ⟨a.g.trans g, by rw [g.f Dl (by rw [a.h]; simp)]; exact a.b, g.h _ _ a.h ⟨fun _ z => (by cases z), fun _ _ _ z => (by cases z)⟩, a.r.mono g.b⟩
theorem Acc.snoc {B1 H1 B' H' : Hp} {Dl : Addr} {done : List D} {us : List V} {v : V} {d : D} (hD : H1 Dl = none) (a : Acc K B1 H1 Dl us done B' H') (r : Rp K B' v d) : Acc K B1 H1 Dl (us ++ [v]) (done ++ [d]) B' (upd H' Dl (.lst (us ++ [v]))) := by
  have neD : ∀ c o, B' c = some o → c ≠ Dl := fun c o q z => by rw [z, a.b] at q; cases q
  refine ⟨⟨a.g.b, fun c o q nq => ?_, fun c o q => ?_, a.g.f, fun c hc => ?_, fun P hP => tab_upd (a.g.t P hP) a.h, a.g.np a.h (std_lst _).2⟩, a.b, upd_same, a.r.append (.cons r .nil)⟩
  · rw [upd_ne (ne_of_none q hD)]; exact a.g.h c o q nq
  · rw [upd_ne (neD c o q)]; exact a.g.i c o q
  · have : c ≠ Dl := fun z => hc (by rw [z]; exact hD)
    rw [upd_ne this]; exact a.g.e c hc
theorem tab_less {H0 : Hp} {Dl P : Addr} {q : Nat → Nat → Str} {us : List V} (h0 : H0 Dl = none) (h : NdefX.TabN (upd H0 Dl (.lst us)) P q) : NdefX.TabN H0 P q := by
  obtain ⟨ps, h1, h2, h3⟩ := h
  have n1 : P ≠ Dl := fun z => by rw [z, upd_same] at h1; cases h1
  rw [upd_ne n1] at h1
  refine ⟨ps, h1, h2, fun pos cv hc => ?_⟩
  obtain ⟨c, e1, e2⟩ := h3 pos cv hc
  have n2 : c ≠ Dl := fun z => by rw [z, upd_same] at e2; unfold LamX.CodeO at e2; cases e2
  rw [upd_ne n2] at e2
  exact ⟨c, e1, e2⟩
theorem SR.base {H0 H0' : Org} {B H H' : Hp} {v : V} {o : O} (h : SR K H0 B H v o) (hs : H0'.sf = H0.sf) (h0 : ∀ p, H0.h p = none → H p ≠ none → H0'.h p = none ∧ H' p = H p) : SR K H0' B H' v o := by
  cases o with
  | im d => exact h
  | ow ds =>
    obtain ⟨p, vs, rfl, a0, ab, ah, r⟩ := h
    obtain ⟨z1, z2⟩ := h0 p a0 (by rw [ah]; simp)
    exact ⟨p, vs, rfl, z1, ab, z2.trans ah, r⟩
  | od kvs =>
    obtain ⟨p, vs, rfl, a0, ab, ah, k, r⟩ := h
    obtain ⟨z1, z2⟩ := h0 p a0 (by rw [ah]; simp)
    exact ⟨p, vs, rfl, z1, ab, z2.trans ah, k, r⟩
  | tr m k ts =>
    obtain ⟨m1, m2⟩ := RT.move (H' := H') (.nd k ts) v h.1 (Same.refl _) fun q hq => by
      obtain ⟨u, hu, _⟩ := RT.kind _ _ h.1 q hq
      exact (h0 q (h.2.1 q hq).1 (by rw [hu]; simp)).2
    refine ⟨m1, fun q hq => ?_, fun z => hs.trans (h.2.2 z)⟩
    have hq' := (m2 q).mp hq
    obtain ⟨u, hu, _⟩ := RT.kind _ _ h.1 q hq'
    exact ⟨(h0 q (h.2.1 q hq').1 (by rw [hu]; simp)).1, (h.2.1 q hq').2⟩
theorem SR.baseF {H0 H0' : Org} {B H H' : Hp} {v : V} {o : O} (h : SR K H0 B H v o) (hs : H0'.sf = H0.sf) (h0 : ∀ p, H0.h p = none → H p ≠ none → H0'.h p = none ∧ H' p = H p) : ∀ q, Ft K H' v q o → Ft K H v q o := by
  cases o with
  | im d => exact fun q z => z
  | ow ds => exact fun q z => z
  | od kvs => exact fun q z => z
  | tr m k ts =>
    obtain ⟨m1, m2⟩ := RT.move (H' := H') (.nd k ts) v h.1 (Same.refl _) fun q hq => by
      obtain ⟨u, hu, _⟩ := RT.kind _ _ h.1 q hq
      exact (h0 q (h.2.1 q hq).1 (by rw [hu]; simp)).2
    exact fun q hq => (m2 q).mp hq
theorem TBt.re {τ τ2 : Addr → D × D} {B H : Hp} (h : TBt K τ B H) (e : ∀ a, H a ≠ none → τ2 a = τ a) : TBt K τ2 B H := ⟨h.nt, fun x o C dx fs q => by
  obtain ⟨tv, av, a, ob, us, ks, ds, m⟩ := h.mo x o C dx fs q
  exact ⟨tv, av, a, ob, us, ks, ds, by rw [e a (by rw [m.hm]; simp)]; exact m⟩⟩
theorem TBt.sw {τ : Addr → D × D} {B H : Hp} {p : Addr} {us us' : List V} (h : TBt K τ B (upd H p (.lst us))) : TBt K τ B (upd H p (.lst us')) := h.grow (Same.refl _) (fun _ _ q => .inl q) fun a o ws q => by
  by_cases ha : a = p
  · subst ha; rw [upd_same] at q; cases q
  · rw [upd_ne ha] at q ⊢; exact q
theorem Rel.put {B0 : Hp} {H0 : Org} {B H : Hp} {σ : L2.St} {δ : DS} {Dl : Addr} {us us' : List V} (r : Rel K B0 (H0.upd Dl (.lst us)) B H σ δ) (h0 : H0.h Dl = none) (hb : B Dl = none) (hh : H Dl = some (.lst us)) : Rel K B0 (H0.upd Dl (.lst us')) B (upd H Dl (.lst us')) σ δ := by
  have neD : ∀ c o, B c = some o → c ≠ Dl := fun c o q z => by rw [z, hb] at q; cases q
  refine ⟨⟨r.g.b, fun a o q nq => ?_, fun a o q => ?_, fun a ha => ?_, fun a ha => ?_, fun P hP => tab_upd (r.g.t P ((tab_less h0 hP).ext (same_new h0))) hh, fun τ h => ?_⟩, fun p hp => (tab_less h0 (r.tk p hp)).ext (same_new h0), ?_, r.len, fun i o e => ?_, r.seps fun i o v e1 e2 => ?_⟩
  · (try dsimp only [Org.upd] at *)
    by_cases ha : a = Dl
    · subst ha; rw [upd_same] at q ⊢; exact q
    · rw [upd_ne ha] at q ⊢; exact r.g.h a o (by show upd H0.h Dl (.lst us) a = some o; rw [upd_ne ha]; exact q) nq
  · (try dsimp only [Org.upd] at *)
    rw [upd_ne (neD a o q)]; exact r.g.i a o q
  · (try dsimp only [Org.upd] at *)
    by_cases hz : a = Dl
    · exact r.g.f a (by show upd H0.h Dl (.lst us) a ≠ none; rw [hz, upd_same]; simp)
    · exact r.g.f a (by show upd H0.h Dl (.lst us) a ≠ none; rw [upd_ne hz] at ha ⊢; exact ha)
  · (try dsimp only [Org.upd] at *)
    by_cases hz : a = Dl
    · rw [hz, upd_same]; simp
    · rw [upd_ne hz] at ha ⊢; exact r.g.e a (by show upd H0.h Dl (.lst us) a ≠ none; rw [upd_ne hz]; exact ha)
  · obtain ⟨τ', e, h'⟩ := r.g.n τ h.sw
    refine ⟨τ', fun x hx => e x ?_, h'.poke hh (std_lst _).2⟩
    (try dsimp only [Org.upd] at *)
    by_cases hz : x = Dl
    · rw [hz, upd_same]; simp
    · rw [upd_ne hz] at hx ⊢; exact hx
  · exact r.nt.imp fun τ h => h.sw
  · (try dsimp only [Org.upd] at *)
    obtain ⟨v, h1, h2⟩ := r.sl i o e
    refine ⟨v, h1, h2.base rfl fun p hp _ => ?_⟩
    (try dsimp only [Org.upd] at *)
    have np : p ≠ Dl := fun z => by rw [z, upd_same] at hp; cases hp
    rw [upd_ne np] at hp
    exact ⟨by rw [upd_ne np]; exact hp, upd_ne np⟩
  · (try dsimp only [Org.upd] at *)
    obtain ⟨v', h1, h2⟩ := r.sl i o e1
    rw [e2] at h1
    cases h1
    refine h2.baseF (H0' := H0.upd Dl (.lst us')) rfl fun p hp _ => ?_
    (try dsimp only [Org.upd] at *)
    have np : p ≠ Dl := fun z => by rw [z, upd_same] at hp; cases hp
    rw [upd_ne np] at hp
    exact ⟨by rw [upd_ne np]; exact hp, upd_ne np⟩
theorem Rel.put0 {B0 : Hp} {H0 : Org} {B H : Hp} {σ : L2.St} {δ : DS} {Dl : Addr} {us : List V} (r : Rel K B0 H0 B H σ δ) (hh : H Dl = none) : Rel K B0 (H0.upd Dl (.lst us)) B (upd H Dl (.lst us)) σ δ := by
  have h0 : H0.h Dl = none := r.g.free hh
  have hb : B Dl = none := r.g.i.free hh
  have hb0 : B0 Dl = none := r.g.b.free hb
  have neD : ∀ c o, B c = some o → c ≠ Dl := fun c o q z => by rw [z, hb] at q; cases q
  refine ⟨⟨r.g.b, fun a o q nq => ?_, fun a o q => ?_, fun a ha => ?_, fun a ha => ?_, fun P hP => (r.g.t P (tab_less h0 hP)).ext (same_new hh), fun τ h => ?_⟩, fun p hp => (r.tk p hp).ext (same_new h0), r.nt.imp fun τ h => h.grow (Same.refl _) (fun _ _ q => .inl q) fun a o us q => same_new h0 _ _ q, r.len, fun i o e => ?_, r.seps fun i o v e1 e2 => ?_⟩
  · (try dsimp only [Org.upd] at *)
    by_cases ha : a = Dl
    · subst ha; rw [upd_same] at q ⊢; exact q
    · rw [upd_ne ha] at q ⊢; exact r.g.h a o q nq
  · (try dsimp only [Org.upd] at *)
    rw [upd_ne (neD a o q)]; exact r.g.i a o q
  · (try dsimp only [Org.upd] at *)
    by_cases hz : a = Dl
    · rw [hz, hb, hb0]
    · exact r.g.f a (by rw [upd_ne hz] at ha; exact ha)
  · (try dsimp only [Org.upd] at *)
    by_cases hz : a = Dl
    · rw [hz, upd_same]; simp
    · rw [upd_ne hz] at ha ⊢; exact r.g.e a ha
  · obtain ⟨τ', e, h'⟩ := r.g.n τ (h.grow (Same.refl _) (fun _ _ q => .inl q) fun a o ws q => by
      by_cases ha : a = Dl
      · subst ha; (try dsimp only [Org.upd] at q); rw [upd_same] at q; cases q
      · (try dsimp only [Org.upd] at q); rw [upd_ne ha] at q; exact q)
    refine ⟨fun x => if x = Dl then τ x else τ' x, fun x hx => ?_, (h'.re fun x hx => ?_).grow (Same.refl _) (fun _ _ q => .inl q) fun a o ws q => same_new hh _ _ q⟩
    · (try dsimp only [Org.upd] at *)
      by_cases hz : x = Dl
      · rw [if_pos hz]
      · rw [if_neg hz]; rw [upd_ne hz] at hx; exact e x hx
    · have : x ≠ Dl := fun z => hx (by rw [z]; exact hh)
      exact if_neg this
  · (try dsimp only [Org.upd] at *)
    obtain ⟨v, h1, h2⟩ := r.sl i o e
    refine ⟨v, h1, h2.base rfl fun p hp hq => ?_⟩
    (try dsimp only [Org.upd] at *)
    have np : p ≠ Dl := fun z => hq (by rw [z]; exact hh)
    exact ⟨by rw [upd_ne np]; exact hp, upd_ne np⟩
  · (try dsimp only [Org.upd] at *)
    obtain ⟨v', h1, h2⟩ := r.sl i o e1
    rw [e2] at h1
    cases h1
    refine h2.baseF (H0' := H0.upd Dl (.lst us)) rfl fun p hp hq => ?_
    (try dsimp only [Org.upd] at *)
    have np : p ≠ Dl := fun z => hq (by rw [z]; exact hh)
    exact ⟨by rw [upd_ne np]; exact hp, upd_ne np⟩
theorem sf_lc2 {wi wi1 : TI} {g g1 : TG} {tt tt1 : TT} {te : TE} {vs vs1 is is1 : List Nat} {fi fi1 : DS → Res (List D)} {b b1 : D → DS → Option DS} {t t1 : DS → Res Bool} {e : DS → Res D}
    (hi : ∀ B0 H0 δ σ B H (R : It → Hp → Prop), Rel K B0 H0 B H σ δ → PostI K B H σ W R (fi δ) → wi σ H R)
    (hg : ∀ B0 H0 B H σ δ v d (Q : L2.St → Hp → Prop), Rel K B0 H0 B H σ δ → Rp K B v d → (∀ δ' σ', b d δ = some δ' → Rel K B0 H0 B H σ' δ' → σ'.length = σ.length → (∀ j, j ∉ is → σ'[j]? = σ[j]?) → Q σ' H) → b d δ ≠ none → g v σ H Q)
    (ht : ST K W0 tt t) (hi1 : ∀ B0 H0 δ σ B H (R : It → Hp → Prop), Rel K B0 H0 B H σ δ → PostI K B H σ W0 R (fi1 δ) → wi1 σ H R)
    (hg1 : ∀ B0 H0 B H σ δ v d (Q : L2.St → Hp → Prop), Rel K B0 H0 B H σ δ → Rp K B v d → (∀ δ' σ', b1 d δ = some δ' → Rel K B0 H0 B H σ' δ' → σ'.length = σ.length → (∀ j, j ∉ is1 → σ'[j]? = σ[j]?) → Q σ' H) → b1 d δ ≠ none → g1 v σ H Q)
    (ht1 : ST K W0 tt1 t1) (he : SE K W0 te e) (his : ∀ i ∈ is, i ∈ vs) (his1 : ∀ i ∈ is1, i ∈ vs1) : SF K W (tLc2 wi g tt wi1 g1 tt1 te vs vs1) (cLc2 vs vs1 fi b t fi1 b1 t1 e) := fun B0 H0 δ σ B H Q rel hp => by
  unfold cLc2 at hp
  refine hi B0 H0 δ σ B H _ rel ?_
  cases e1 : fi δ with
  | no => rw [e1] at hp; exact hp
  | er x => rw [e1] at hp; exact hp
  | ok ds =>
    rw [e1, Res.bind_ok] at hp
    intro J B1 H1 G Y gg1 wk hG hY Dl hD
    cases e2 : lc2F vs1 b t fi1 b1 t1 e ds (wipeD δ vs) with
    | no => rw [e2] at hp; exact hp.elim
    | er x => rw [e2] at hp; exact hp.elim
    | ok ys =>
      rw [e2] at hp
      dsimp only at hp
      split at hp
      case isFalse => exact hp.elim
      case isTrue hz =>
      have h0D : H0 Dl = none := rel.g.free (gg1.free hD)
      have relw := (rel.mono gg1).wipe vs
      refine lc2_out wk (R := fun x H' Nx => g x (wipe σ vs) H' fun σ2 H2 => wipe σ2 vs = wipe σ vs ∧ tt σ2 H2 fun b H3 => if b = true then wi1 σ2 H3 fun J1 H4 => ∃ W1 : Nat → Nat → Hp → Prop, (∃ m, W1 0 m H4) ∧ ∀ j k H, W1 j k H →
          (J1.stop j H ∧ Nx H) ∨ (J1.go j H ∧ ∃ Nx1 : Hp → Prop, (∀ H', Nx1 H' → ∃ k', k' < k ∧ W1 (j + 1) k' H') ∧ ∀ x H', J1.yld j H x H' → g1 x (wipe σ2 vs1) H' fun σ3 H5 => wipe σ3 vs1 = wipe σ2 vs1 ∧ tt1 σ3 H5 fun b H6 =>
            if b = true then te σ3 H6 fun y H7 => ∃ acc, H7 Dl = some (.lst acc) ∧ acc.length < sizeLine ∧ Nx1 (upd H7 Dl (.lst (acc ++ [y]))) else Nx1 H6) else Nx H3)
        (fun i H' => ∃ B' us done rest, Acc K B1 H1 Dl us done B' H' ∧ Rel K B0 (H0.upd Dl (.lst us)) B' H' (wipe σ vs) (wipeD δ vs) ∧ lc2F vs1 b t fi1 b1 t1 e (ds.drop i) (wipeD δ vs) = .ok rest ∧ done ++ rest = ys) ?_ ?_ ?_ ?_
      · exact ⟨B1, [], [], ys, ⟨Grow.raw gg1.i hD, gg1.i.free hD, upd_same, .nil⟩, relw.put0 hD, by simpa using e2, rfl⟩
      · rintro i H' hin ⟨B', us, done, rest, ac, rl, hr, hy⟩
        exact hG H' (ac.g.b.trans ac.g.i)
      · rintro i x H2 H3 hin ⟨B', us, done, rest, ac, rl, hr, hy⟩ y
        have hlt : i < ds.length := hin
        obtain ⟨B3, g3, rx⟩ := hY i ds[i] B' H2 x H3 (by simp [hlt]) ac.g.b ac.g.i y
        rw [List.drop_eq_getElem_cons hlt] at hr
        unfold lc2F at hr
        cases e3 : b ds[i] (wipeD δ vs) with
        | none => rw [e3] at hr; cases hr
        | some δ' =>
          rw [e3] at hr
          dsimp only at hr
          refine hg B0 _ B3 H3 _ _ x ds[i] _ (rl.mono g3) rx (fun δ2 σ2 e4 rel4 l4 f4 => ?_) (by rw [e3]; simp)
          rw [e3] at e4
          cases e4
          refine ⟨?_, ?_⟩
          · refine (wipe_eq (σ := wipe σ vs) l4 fun j hj => f4 j fun z => hj (his j z)).trans (wipe_eq (wipe_length σ vs) fun j hj => ?_)
            rw [wipe_get, if_neg (fun z => hj z.1)]
          refine ht B0 _ δ' σ2 B3 H3 _ rel4 ?_
          cases e5 : t δ' with
          | no => rw [e5] at hr; simp at hr
          | er x => rw [e5] at hr; simp at hr
          | ok k =>
            rw [e5, Res.calm_ok, Res.bind_ok] at hr
            intro B4 H4 g4
            have g34 := g3.trans g4
            cases k with
            | false =>
              rw [if_neg Bool.false_ne_true] at hr ⊢
              exact ⟨B4, us, done, rest, ac.mono g34, rl.mono g34, hr, hy⟩
            | true =>
              rw [if_pos rfl] at hr ⊢
              refine hi1 B0 _ δ' σ2 B4 H4 _ (rel4.mono g4) ?_
              cases e6 : fi1 δ' with
              | no => rw [e6] at hr; simp at hr
              | er x => rw [e6] at hr; simp at hr
              | ok ds1 =>
                rw [e6, Res.calm_ok, Res.bind_ok] at hr
                intro J1 B5 H5 G1 Y1 g5 wk1 hG1 hY1
                cases e7 : lcF b1 t1 e ds1 (wipeD δ' vs1) with
                | no => rw [e7] at hr; cases hr
                | er x => exact absurd e7 (lcF_calm _ _ _ _ _ _)
                | ok ys1 =>
                rw [e7, Res.bind_ok] at hr
                cases e8 : lc2F vs1 b t fi1 b1 t1 e (ds.drop (i + 1)) (wipeD δ vs) with
                | no => rw [e8] at hr; cases hr
                | er x => exact absurd e8 (lc2F_calm _ _ _ _ _ _ _ _ _ _)
                | ok zs =>
                rw [e8, Res.bind_ok] at hr
                cases hr
                refine lc2_in wk1 (fun j Hj => ∃ Bj uj dn rs, Acc K B1 H1 Dl uj (done ++ dn) Bj Hj ∧ Same B5 Bj ∧ Rel K B0 (H0.upd Dl (.lst uj)) Bj Hj (wipe σ2 vs1) (wipeD δ' vs1) ∧ Rel K B0 (H0.upd Dl (.lst uj)) Bj Hj (wipe σ vs) (wipeD δ vs) ∧ lcF b1 t1 e (ds1.drop j) (wipeD δ' vs1) = .ok rs ∧ dn ++ rs = ys1) ?_ ?_ ?_ ?_
                · exact ⟨B5, us, [], ys1, by simpa using (ac.mono g34).mono g5, Same.refl _, ((rel4.mono g4).mono g5).wipe vs1, (rl.mono g34).mono g5, by simpa using e7, rfl⟩
                · rintro j Hj hj ⟨Bj, uj, dn, rs, acj, sj, r1, r2, hrj, hyj⟩
                  exact hG1 Hj (sj.trans acj.g.i)
                · rintro j xj Hj Hk hj ⟨Bj, uj, dn, rs, acj, sj, r1, r2, hrj, hyj⟩ yj
                  have hltj : j < ds1.length := hj
                  obtain ⟨Bk, gk, rxj⟩ := hY1 j ds1[j] Bj Hj xj Hk (by simp [hltj]) sj acj.g.i yj
                  rw [List.drop_eq_getElem_cons hltj] at hrj
                  unfold lcF at hrj
                  cases f3 : b1 ds1[j] (wipeD δ' vs1) with
                  | none => rw [f3] at hrj; cases hrj
                  | some δ3 =>
                    rw [f3] at hrj
                    dsimp only at hrj
                    refine hg1 B0 _ Bk Hk _ _ xj ds1[j] _ (r1.mono gk) rxj (fun δ4 σ4 k4 rel6 l6 f6 => ?_) (by rw [f3]; simp)
                    rw [f3] at k4
                    cases k4
                    refine ⟨?_, ?_⟩
                    · refine (wipe_eq (σ := wipe σ2 vs1) l6 fun c hc => f6 c fun z => hc (his1 c z)).trans (wipe_eq (wipe_length σ2 vs1) fun c hc => ?_)
                      rw [wipe_get, if_neg (fun z => hc z.1)]
                    refine ht1 B0 _ δ3 σ4 Bk Hk _ rel6 ?_
                    cases f5 : t1 δ3 with
                    | no => rw [f5] at hrj; simp at hrj
                    | er x => rw [f5] at hrj; simp at hrj
                    | ok k1 =>
                      rw [f5, Res.calm_ok, Res.bind_ok] at hrj
                      intro Bl Hl gl
                      have gkl := gk.trans gl
                      cases k1 with
                      | false =>
                        rw [if_neg Bool.false_ne_true] at hrj ⊢
                        exact ⟨Bl, uj, dn, rs, acj.mono gkl, sj.trans gkl.b, r1.mono gkl, r2.mono gkl, hrj, hyj⟩
                      | true =>
                        rw [if_pos rfl] at hrj ⊢
                        refine he B0 _ δ3 σ4 Bl Hl _ (rel6.mono gl) ?_
                        cases f7 : e δ3 with
                        | no => rw [f7] at hrj; simp at hrj
                        | er x => rw [f7] at hrj; simp at hrj
                        | ok yd =>
                          rw [f7, Res.calm_ok, Res.bind_ok] at hrj
                          intro yv Bm Hm gm rm
                          have gkm := gkl.trans gm
                          cases f8 : lcF b1 t1 e (ds1.drop (j + 1)) (wipeD δ' vs1) with
                          | no => rw [f8] at hrj; cases hrj
                          | er x => exact absurd f8 (lcF_calm _ _ _ _ _ _)
                          | ok rs' =>
                          rw [f8, Res.bind_ok] at hrj
                          cases hrj
                          have acm := acj.mono gkm
                          have hlen : uj.length < sizeLine := by
                            have l1 := acm.r.length
                            rw [← hy, ← hyj] at hz
                            simp at hz
                            simp at l1
                            omega
                          refine ⟨uj, acm.h, hlen, Bm, uj ++ [yv], dn ++ [yd], rs', ?_, sj.trans gkm.b, (r1.mono gkm).put h0D acm.b acm.h, (r2.mono gkm).put h0D acm.b acm.h, rfl, by simpa using hyj⟩
                          have := acm.snoc hD rm
                          simpa using this
                · rintro Hj ⟨Bj, uj, dn, rs, acj, sj, r1, r2, hrj, hyj⟩
                  rw [List.drop_length] at hrj
                  cases hrj
                  rw [List.append_nil] at hyj
                  subst hyj
                  exact ⟨Bj, uj, done ++ dn, zs, acj, r2, rfl, by simpa using hy⟩
      · rintro H' ⟨B', us, done, rest, ac, rl, hr, hy⟩
        rw [List.drop_length] at hr
        cases hr
        rw [List.append_nil] at hy
        subst hy
        exact hp Dl us B' H' (gg1.trans ac.g) (gg1.free hD) ac.b ac.h ac.r
theorem lc_2 {elt tg iter tg1 iter1 : Expr} {ifs ifs1 : List Expr} {scope : Scope} {own : List (Str × Nat)} {vs1 : List Nat} {pos : Pos} {wi wi1 : TI} {g g1 : TG} {tt tt1 : TT} {te : TE} {is is1 : List Nat} {fi fi1 : DS → Res (List D)} {b b1 : D → DS → Option DS} {t t1 : DS → Res Bool} {e : DS → Res D}
    (s0 : Shared) (hc : X.calm = true) (hN : X.N.Nodup) (hi : CI X W tg iter wi fi) (ok : BlkOk X.N X.env.scope scope own)
    (hg : ∀ (s : Shared) (H : Hp) (C : Addr) (cl : List (Str × Addr)) (fp : List Addr), CG (X.blk s H scope (compEnvC scope cl C X.env) fp) tg g is b)
    (ht : ∀ (s : Shared) (H : Hp) (C : Addr) (cl : List (Str × Addr)) (fp : List Addr), CTs (X.blk s H scope (compEnvC scope cl C X.env) fp) W0 ifs tt t)
    (hi1 : ∀ (s : Shared) (H : Hp) (C : Addr) (cl : List (Str × Addr)) (fp : List Addr), CI (X.blk s H scope (compEnvC scope cl C X.env) fp) W0 tg1 iter1 wi1 fi1)
    (hg1 : ∀ (s : Shared) (H : Hp) (C : Addr) (cl : List (Str × Addr)) (fp : List Addr), CG (X.blk s H scope (compEnvC scope cl C X.env) fp) tg1 g1 is1 b1)
    (ht1 : ∀ (s : Shared) (H : Hp) (C : Addr) (cl : List (Str × Addr)) (fp : List Addr), CTs (X.blk s H scope (compEnvC scope cl C X.env) fp) W0 ifs1 tt1 t1)
    (he : ∀ (s : Shared) (H : Hp) (C : Addr) (cl : List (Str × Addr)) (fp : List Addr), CE (X.blk s H scope (compEnvC scope cl C X.env) fp) W0 elt te e)
    (his : ∀ i ∈ is, i ∈ own.map (·.2) := by decide) (his1 : ∀ i ∈ is1, i ∈ vs1 := by decide) (hv : ∀ i ∈ vs1, i ∈ own.map (·.2) := by decide) (hs : ∀ x, foldedSetIterable iter X.env x = pure x := by intro _; rfl) (hs1 : ∀ env x, foldedSetIterable iter1 env x = pure x := by intro _ _; rfl) :
    LC X W (.ListComp elt [⟨tg, iter, ifs, 0⟩, ⟨tg1, iter1, ifs1, 0⟩] scope pos) (tLc2 wi g tt wi1 g1 tt1 te (own.map (·.2)) vs1) (cLc2 (own.map (·.2)) vs1 fi b t fi1 b1 t1 e) :=
  ⟨⟨pe_lc2 hc hN hi.pi ok hv (fun s H C cl fp => (hg s H C cl fp).pg) (fun s H C cl fp => (ht s H C cl fp).pt) (fun s H C cl fp => (hi1 s H C cl fp).pi) (fun s H C cl fp => (hg1 s H C cl fp).pg) (fun s H C cl fp => (ht1 s H C cl fp).pt) (fun s H C cl fp => (he s H C cl fp).pe) hs hs1,
    sf_lc2 hi.si (hg s0 (fun _ => none) 0 [] []).sg (ht s0 (fun _ => none) 0 [] []).st (hi1 s0 (fun _ => none) 0 [] []).si (hg1 s0 (fun _ => none) 0 [] []).sg (ht1 s0 (fun _ => none) 0 [] []).st (he s0 (fun _ => none) 0 [] []).se his his1⟩,
   fun i y py spos hy hyl hsw => ps_setLc2 hc hN hy hyl hsw hi.pi ok hv (fun s H C cl fp => (hg s H C cl fp).pg) (fun s H C cl fp => (ht s H C cl fp).pt) (fun s H C cl fp => (hi1 s H C cl fp).pi) (fun s H C cl fp => (hg1 s H C cl fp).pg) (fun s H C cl fp => (ht1 s H C cl fp).pt) (fun s H C cl fp => (he s H C cl fp).pe) hs hs1⟩
end
end DV
namespace DV
open PySem L2
section
variable {X : Cx} {W : WX} {K : PySem.W.Frag}
mutual
noncomputable def D.noLst : D → Bool
  | .v _ => true
  | .tup xs => D.noLstA xs
  | _ => false
noncomputable def D.noLstA : List D → Bool
  | [] => true
  | x :: xs => x.noLst && D.noLstA xs
end
end
end DV
namespace DV
open PySem L2
section
variable {X : Cx} {W : WX} {K : PySem.W.Frag}
end
theorem units5 {k : Nat} {A : Around} (r : Room k A) : A.units + 65 < cLine := by have := r.un; omega
end DV
namespace DV
open PySem L2
section
variable {K : PySem.W.Frag} {x qual : Str} {params : Arguments} {body : List Stmt} {scope : Scope} {kws : List (Str × V)} {f : Addr} {fd : FuncData} {ps : List Str}
end
end DV
namespace DV
open PySem L2
section
variable {X : Cx} {W : WX} {K : PySem.W.Frag}
noncomputable def flF : Fl → Res (List D)
  | .rf ds => .ok ds
  | .rs x _ => .er x
  | _ => .no
@[simp] theorem flF_rf (ds : List D) : flF (.rf ds) = .ok ds := rfl
@[simp] theorem flF_rs (x : Exn) (δ : DS) : flF (.rs x δ) = .er x := rfl
end
section
variable {P : Program} {w : World} {K : PySem.W.Frag} {mg : Str → Option Value} {base : Heap}
end
section
variable {X : Cx} {W : WX} {K : PySem.W.Frag}
end
end DV
namespace DV
open PySem L2
section
variable {X : Cx} {W : WX}
end
end DV
namespace DV
open PySem PySem.Spec PyProof.Rows L2
section
variable {prog : Program} {w : World} {A : Around} {s : Shared} {E : Value → Shared → Prop}
end
section
variable {X : Cx}
variable {W : WX}
end
end DV
namespace DV
open PySem L2
noncomputable def T.at : T → List Nat → Option T
  | t, [] => some t
  | .im _, _ :: _ => none
  | .nd _ ts, j :: js => match ts[j]? with
    | some t => t.at js
    | none => none
noncomputable def T.put : T → List Nat → T → T
  | _, [], t1 => t1
  | .im d, _ :: _, _ => .im d
  | .nd k ts, j :: js, t1 => match ts[j]? with
    | some t => .nd k (ts.set j (t.put js t1))
    | none => .nd k ts
noncomputable def ValAt (K : PySem.W.Frag) (H : Hp) : T → V → List Nat → V → Prop
  | _, v, [], w => w = v
  | .im _, _, _ :: _, _ => False
  | .nd k ts, v, j :: js, w => ∃ p vs fp, v = .ref p ∧ cell K H p vs fp k ∧ ∃ t' v', ts[j]? = some t' ∧ vs[j]? = some v' ∧ ValAt K H t' v' js w
section
variable {K : PySem.W.Frag} {B B' H H' : Hp}
theorem RTA.get : ∀ {ts : List T} {vs : List V} {j : Nat} {t : T} {v : V}, RTA K B H ts vs → ts[j]? = some t → vs[j]? = some v → RT K B H t v ∧ ∀ q, FT K H t v q → FTA K H ts vs q
  | [], _, _, _, _, _, e, _ => by simp at e
  | _ :: _, [], _, _, _, h, _, _ => by rw [RTA] at h; exact h.elim
  | t0 :: ts, v0 :: vs, 0, t, v, h, e1, e2 => by
    simp at e1 e2
    subst e1; subst e2
    rw [RTA] at h
    exact ⟨h.1, fun q hq => by rw [FTA]; exact .inl hq⟩
  | t0 :: ts, v0 :: vs, j + 1, t, v, h, e1, e2 => by
    rw [RTA] at h
    obtain ⟨a, b⟩ := RTA.get (j := j) h.2.1 (by simpa using e1) (by simpa using e2)
    exact ⟨a, fun q hq => by rw [FTA]; exact .inr (b q hq)⟩
theorem RT.at : ∀ {js : List Nat} {t : T} {v w : V} {t0 : T}, RT K B H t v → ValAt K H t v js w → t.at js = some t0 → RT K B H t0 w ∧ ∀ q, FT K H t0 w q → FT K H t v q
  | [], t, v, w, t0, h, e, a => by
    rw [T.at] at a
    cases a
    have : w = v := by cases t <;> exact e
    subst this
    exact ⟨h, fun _ h => h⟩
  | j :: js, .im d, v, w, t0, h, e, a => by cases a
  | j :: js, .nd k ts, v, w, t0, h, e, a => by
    rw [RT] at h
    obtain ⟨p, vs, fp, rfl, hc, hr, hn⟩ := h
    obtain ⟨p', vs', fp', z, hc', t', v', e1, e2, e3⟩ := e
    cases z
    obtain ⟨rfl, rfl⟩ := cell_one hc hc'
    obtain ⟨r1, r2⟩ := hr.get e1 e2
    have a' : t'.at js = some t0 := by
      rw [T.at, e1] at a
      exact a
    obtain ⟨s1, s2⟩ := RT.at r1 e3 a'
    exact ⟨s1, fun q hq => by rw [FT]; exact ⟨_, _, _, rfl, hc, .inr (r2 q (s2 q hq))⟩⟩
theorem ValAt.move : ∀ {js : List Nat} {t : T} {v w : V}, RT K B H t v → (∀ q, FT K H t v q → H' q = H q) → ValAt K H t v js w → ValAt K H' t v js w
  | [], t, v, w, h, m, e => by cases t <;> exact e
  | j :: js, .im d, v, w, h, m, e => e.elim
  | j :: js, .nd k ts, v, w, h, m, e => by
    rw [RT] at h
    obtain ⟨p, vs, fp, rfl, hc, hr, hn⟩ := h
    obtain ⟨p', vs', fp', z, hc', t', v', e1, e2, e3⟩ := e
    cases z
    obtain ⟨rfl, rfl⟩ := cell_one hc hc'
    obtain ⟨r1, r2⟩ := hr.get e1 e2
    refine ⟨_, _, _, rfl, cell_at hc fun q hq => m q (by rw [FT]; exact ⟨_, _, _, rfl, hc, .inl hq⟩), t', v', e1, e2, ValAt.move r1 (fun q hq => m q ?_) e3⟩
    rw [FT]
    exact ⟨_, _, _, rfl, hc, .inr (r2 q hq)⟩
theorem RTA.setAt : ∀ {ts : List T} {vs : List V} {j : Nat} {t t1 : T} {v : V}, RTA K B H ts vs → ts[j]? = some t → vs[j]? = some v → (∀ q, ¬ FT K H t v q → H q ≠ none → H' q = H q) → RT K B H' t1 v → (∀ q, FT K H' t1 v q → FT K H t v q ∨ H q = none) →
    RTA K B H' (ts.set j t1) vs ∧ ∀ q, FTA K H' (ts.set j t1) vs q → FTA K H ts vs q ∨ H q = none
  | [], _, _, _, _, _, _, e, _, _, _, _ => by simp at e
  | _ :: _, [], _, _, _, _, h, _, _, _, _, _ => by rw [RTA] at h; exact h.elim
  | t0 :: ts, v0 :: vs, 0, t, t1, v, h, e1, e2, m, n1, n2 => by
    simp at e1 e2
    subst e1; subst e2
    rw [RTA] at h
    obtain ⟨h1, h2, h3⟩ := h
    obtain ⟨a, b⟩ := RTA.move (B' := B) (H' := H') ts vs h2 (Same.refl _) fun q hq => by
      obtain ⟨u, hu, _⟩ := RTA.kind ts vs h2 q hq
      exact m q (fun z => h3 q z hq) (by rw [hu]; simp)
    rw [List.set_cons_zero]
    constructor
    · rw [RTA]
      refine ⟨n1, a, fun q hq z => ?_⟩
      have z' := (b q).mp z
      rcases n2 q hq with y | y
      · exact h3 q y z'
      · obtain ⟨u, hu, _⟩ := RTA.kind ts vs h2 q z'
        rw [y] at hu
        cases hu
    · intro q hq
      rw [FTA] at hq ⊢
      rcases hq with hq | hq
      · exact (n2 q hq).imp .inl id
      · exact .inl (.inr ((b q).mp hq))
  | t0 :: ts, v0 :: vs, j + 1, t, t1, v, h, e1, e2, m, n1, n2 => by
    rw [RTA] at h
    obtain ⟨h1, h2, h3⟩ := h
    obtain ⟨g1, g2⟩ := h2.get (j := j) (by simpa using e1) (by simpa using e2)
    obtain ⟨a, b⟩ := RTA.setAt (j := j) h2 (by simpa using e1) (by simpa using e2) m n1 n2
    obtain ⟨c, d⟩ := RT.move (B' := B) (H' := H') t0 v0 h1 (Same.refl _) fun q hq => by
      obtain ⟨u, hu, _⟩ := RT.kind t0 v0 h1 q hq
      exact m q (fun z => h3 q hq (g2 q z)) (by rw [hu]; simp)
    rw [List.set_cons_succ]
    constructor
    · rw [RTA]
      refine ⟨c, a, fun q hq z => ?_⟩
      have hq' := (d q).mp hq
      rcases b q z with y | y
      · exact h3 q hq' y
      · obtain ⟨u, hu, _⟩ := RT.kind t0 v0 h1 q hq'
        rw [y] at hu
        cases hu
    · intro q hq
      rw [FTA] at hq ⊢
      rcases hq with hq | hq
      · exact .inl (.inl ((d q).mp hq))
      · exact (b q hq).imp .inr id
theorem RT.putAt : ∀ {js : List Nat} {t : T} {v w : V} {t0 t1 : T}, RT K B H t v → ValAt K H t v js w → t.at js = some t0 → (∀ q, ¬ FT K H t0 w q → H q ≠ none → H' q = H q) → RT K B H' t1 w → (∀ q, FT K H' t1 w q → FT K H t0 w q ∨ H q = none) →
    RT K B H' (t.put js t1) v ∧ ∀ q, FT K H' (t.put js t1) v q → FT K H t v q ∨ H q = none
  | [], t, v, w, t0, t1, h, e, a, m, n1, n2 => by
    rw [T.at] at a
    cases a
    have : w = v := by cases t <;> exact e
    subst this
    rw [T.put]
    exact ⟨n1, n2⟩
  | j :: js, .im d, v, w, t0, t1, h, e, a, m, n1, n2 => by cases a
  | j :: js, .nd k ts, v, w, t0, t1, h, e, a, m, n1, n2 => by
    rw [RT] at h
    obtain ⟨p, vs, fp, rfl, hc, hr, hn⟩ := h
    obtain ⟨p', vs', fp', z, hc', t', v', e1, e2, e3⟩ := e
    cases z
    obtain ⟨rfl, rfl⟩ := cell_one hc hc'
    obtain ⟨r1, r2⟩ := hr.get e1 e2
    have a' : t'.at js = some t0 := by
      rw [T.at, e1] at a
      exact a
    obtain ⟨s1, s2⟩ := RT.at r1 e3 a'
    obtain ⟨x1, x2⟩ := RT.putAt r1 e3 a' m n1 n2
    obtain ⟨y1, y2⟩ := hr.setAt e1 e2 (fun q hq => m q fun z => hq (s2 q z)) x1 x2
    have hc2 := cell_at (H' := H') hc fun q hq => by
      obtain ⟨u, hu, _⟩ := cell_kind hc q hq
      exact m q (fun z => hn q hq (r2 q (s2 q z))) (by rw [hu]; simp)
    rw [T.put, e1]
    constructor
    · rw [RT]
      refine ⟨_, _, _, rfl, hc2, y1, fun q hq z => ?_, hn.k.mono (Same.refl _) ?_⟩
      rotate_left
      · obtain ⟨u, hu, _⟩ := cell_kind hc p (cell_in hc)
        exact m p (fun z => hn p (cell_in hc) (r2 p (s2 p z))) (by rw [hu]; simp)
      rcases y2 q z with y | y
      · exact hn q hq y
      · obtain ⟨u, hu, _⟩ := cell_kind hc q hq
        rw [y] at hu
        cases hu
    · intro q hq
      rw [FT] at hq ⊢
      obtain ⟨p', vs'', fp'', z, hc3, hq⟩ := hq
      cases z
      obtain ⟨rfl, rfl⟩ := cell_one hc2 hc3
      rcases hq with hq | hq
      · exact .inl ⟨_, _, _, rfl, hc, .inl hq⟩
      · rcases y2 q hq with y | y
        · exact .inl ⟨_, _, _, rfl, hc, .inr y⟩
        · exact .inr y
end
noncomputable def O.ofM (m : Bool) : T → O
  | .im d => .im d
  | .nd k ts => .tr m k ts
noncomputable abbrev O.ofT : T → O := O.ofM false
section
variable {K : PySem.W.Frag} {B0 : Hp} {H0 : Org} {B H B' H' : Hp} {σ : L2.St} {δ : DS}
theorem SR.ofM {m : Bool} {t : T} {v : V} (h : RT K B H t v) (n : ∀ q, FT K H t v q → H0.h q = none ∧ B q = none) (s : m = true → H0.sf = some v) : SR K H0 B H v (O.ofM m t) := by
  cases t with
  | im d => rw [RT] at h; exact h
  | nd k ts => exact ⟨h, n, s⟩
theorem SR.ofT {t : T} {v : V} (h : RT K B H t v) (n : ∀ q, FT K H t v q → H0.h q = none ∧ B q = none) : SR K H0 B H v (O.ofT t) := SR.ofM h n (fun z => by cases z)
theorem Ft.ofM {m : Bool} {t : T} {v : V} {q : Addr} : Ft K H v q (O.ofM m t) ↔ FT K H t v q := by
  cases t with
  | im d => rw [FT]; exact Iff.rfl
  | nd k ts => exact Iff.rfl
theorem Ft.ofT {t : T} {v : V} {q : Addr} : Ft K H v q (O.ofT t) ↔ FT K H t v q := Ft.ofM
theorem Rel.setT {t : T} {v : V} (r : Rel K B0 H0 B H σ δ) (i : Nat) (g : Grow K B H B' H') (h : RT K B' H' t v) (n : ∀ q, FT K H' t v q → H q = none ∧ B' q = none) : Rel K B0 H0 B' H' (σ.set i (some v)) (δ.set i (some (O.ofT t))) :=
  (r.mono g).setO i (SR.ofT h fun q hq => ⟨r.g.free (n q hq).1, (n q hq).2⟩) fun j o' w _ e e' q hq => r.free' g (n q (Ft.ofT.mp hq)).1 j o' w e e'
theorem Rel.putT {m : Bool} {k : NK} {ts : List T} {i : Nat} {js : List Nat} {v w : V} {t0 t1 : T} (r : Rel K B0 H0 B H σ δ) (e : δ[i]? = some (some (.tr m k ts))) (es : σ[i]? = some (some v)) (va : ValAt K H (.nd k ts) v js w) (a : (T.nd k ts).at js = some t0)
    (g : Grow K B0 H0.h B H') (m1 : ∀ q, ¬ FT K H t0 w q → H q ≠ none → H' q = H q) (n1 : RT K B H' t1 w) (n2 : ∀ q, FT K H' t1 w q → FT K H t0 w q ∨ H q = none) :
    Rel K B0 H0 B H' σ (δ.set i (some (O.ofM m ((T.nd k ts).put js t1)))) := by
  obtain ⟨v', h1, hsr⟩ := r.sl i _ e
  rw [es] at h1
  cases h1
  obtain ⟨s1, s2⟩ := RT.at hsr.1 va a
  obtain ⟨x1, x2⟩ := RT.putAt hsr.1 va a m1 n1 n2
  have := r.chg (z := some (O.ofM m ((T.nd k ts).put js t1))) (v' := v) e es g (Same.refl _) (fun q hq hn => ⟨m1 q (fun z => hq (s2 q z)) hn, rfl⟩) fun o' z => by
    cases z
    refine ⟨SR.ofM x1 (fun q hq => ?_) hsr.2.2, fun q hq => x2 q (Ft.ofM.mp hq)⟩
    rcases x2 q hq with y | y
    · exact hsr.2.1 q y
    · have h0 : H0.h q = none := r.g.free y
      exact ⟨h0, r.g.i.free y⟩
  rw [set_same es] at this
  exact this
end
end DV
namespace DV
open PySem L2
section
variable {K : PySem.W.Frag} {B0 : Hp} {H0 : Org} {B H B' H' : Hp} {σ : L2.St} {δ : DS}
theorem FTA.snoc : ∀ {ts : List T} {vs : List V} {t : T} {v : V} (hl : vs.length = ts.length) (q : Addr), FTA K H (ts ++ [t]) (vs ++ [v]) q ↔ FTA K H ts vs q ∨ FT K H t v q
  | [], [], t, v, _, q => by rw [List.nil_append, List.nil_append, FTA, FTA, FTA]; simp
  | [], _ :: _, _, _, hl, _ => by simp at hl
  | _ :: _, [], _, _, hl, _ => by simp at hl
  | t0 :: ts, v0 :: vs, t, v, hl, q => by
    rw [List.cons_append, List.cons_append, FTA, FTA, FTA.snoc (by simpa using hl), or_assoc]
theorem RTA.snoc : ∀ {ts : List T} {vs : List V} {t : T} {v : V}, RTA K B H ts vs → RT K B H t v → (∀ q, FTA K H ts vs q → ¬ FT K H t v q) → RTA K B H (ts ++ [t]) (vs ++ [v])
  | [], [], t, v, _, h, _ => by rw [List.nil_append, List.nil_append, RTA]; exact ⟨h, by rw [RTA]; trivial, fun q _ z => by rw [FTA] at z; exact z⟩
  | [], _ :: _, _, _, h, _, _ => by rw [RTA] at h; exact h.elim
  | _ :: _, [], _, _, h, _, _ => by rw [RTA] at h; exact h.elim
  | t0 :: ts, v0 :: vs, t, v, h, h1, n => by
    rw [RTA] at h
    obtain ⟨a, b, c⟩ := h
    rw [List.cons_append, List.cons_append, RTA]
    refine ⟨a, RTA.snoc b h1 fun q hq => n q (by rw [FTA]; exact .inr hq), fun q hq z => ?_⟩
    rcases (FTA.snoc b.length q).mp z with z | z
    · exact c q hq z
    · exact n q (by rw [FTA]; exact .inl hq) z
theorem FTA.ims : ∀ (ds : List D) (vs : List V) (q : Addr), ¬ FTA K H (ds.map T.im) vs q
  | [], _, q, z => by rw [List.map_nil, FTA] at z; exact z
  | _ :: _, [], q, z => by rw [List.map_cons, FTA] at z; exact z
  | d :: ds, v :: vs, q, z => by
    rw [List.map_cons, FTA, FT] at z
    rcases z with z | z
    · exact z
    · exact FTA.ims ds vs q z
theorem RTA.ims : ∀ {ds : List D} {vs : List V}, RpA K B vs ds → RTA K B H (ds.map T.im) vs
  | _, _, .nil => by rw [List.map_nil, RTA]; trivial
  | _, _, .cons (d := d) (ds := ds) (vs := vs) h r => by
    rw [List.map_cons, RTA, RT]
    exact ⟨h, RTA.ims r, fun q z => by rw [FT] at z; exact z.elim⟩
theorem RT.lst {p : Addr} {vs : List V} {ds : List D} (h : H p = some (.lst vs)) (r : RpA K B vs ds) : RT K B H (.nd .ls (ds.map T.im)) (.ref p) := by
  rw [RT]
  exact ⟨p, vs, [p], rfl, ⟨h, rfl⟩, RTA.ims r, fun q _ z => FTA.ims ds vs q z, trivial⟩
theorem FT.lst {p : Addr} {ds : List D} {q : Addr} (z : FT K H (.nd .ls (ds.map T.im)) (.ref p) q) : q = p := by
  rw [FT] at z
  obtain ⟨p', vs, fp, e, hc, z⟩ := z
  cases e
  rcases z with z | z
  · rw [hc.2] at z
    exact List.mem_singleton.mp z
  · exact (FTA.ims ds vs q z).elim
end
section
variable (K : PySem.W.Frag)
noncomputable def PostN (B H : Hp) (σ : L2.St) (W : WX) (Q : VK) : Res T → Prop
  | .ok t => ∀ v B' H', Grow K B H B' H' → RT K B' H' t v → (∀ q, FT K H' t v q → H q = none ∧ B' q = none) → Q v H'
  | .er x => ∀ c dx B' H', Grow K B H B' H' → RpX K B' c dx x → W c dx σ H'
  | .no => False
noncomputable def SN (W : WX) (t : TE) (f : DS → Res T) : Prop := ∀ B0 H0 δ σ B H (Q : VK), Rel K B0 H0 B H σ δ → PostN K B H σ W Q (f δ) → t σ H Q
end
structure CN (X : Cx) (W : WX) (e : Expr) (t : TE) (f : DS → Res T) : Prop where
  pe : PE X e t
  sn : SN X.K W t f
section
variable {X : Cx} {W : WX} {K : PySem.W.Frag}
noncomputable def cNim (f : DS → Res D) : DS → Res T := fun δ => (f δ).bind fun d => .ok (.im d)
theorem cn_e {e : Expr} {t : TE} {f : DS → Res D} (h : CE X W e t f) : CN X W e t (cNim f) := ⟨h.pe, fun B0 H0 δ σ B H Q rel hp => by
  unfold cNim at hp
  refine h.se B0 H0 δ σ B H Q rel ?_
  cases e1 : f δ with
  | no => rw [e1] at hp; exact hp
  | er x => rw [e1] at hp; exact hp
  | ok d =>
    rw [e1, Res.bind_ok] at hp
    exact fun v B' H' g r => hp v B' H' g (by rw [RT]; exact r) (fun q z => by rw [FT] at z; exact z.elim)⟩
noncomputable def cOwnN (i : Nat) (f : DS → Res T) : DS → Fl := fun δ => stE (f δ) δ fun t => .nx (δ.set i (some (O.ofT t)))
theorem ss_ownN {i : Nat} {t : TE} {f : DS → Res T} (h : SN K W t f) : SS K W (tAsg t (gName i)) (cOwnN i f) := fun B0 H0 δ σ B H E rel hp => by
  unfold cOwnN at hp
  refine h B0 H0 δ σ B H _ rel ?_
  cases e : f δ with
  | no => rw [e] at hp; exact hp
  | er x => rw [e] at hp; exact fun c dx B' H' g rp => hp c dx σ B' H' g.b (rel.mono g) rp
  | ok t =>
    rw [e, stE_ok] at hp
    intro v B' H' g r n
    exact hp _ B' H' g.b (rel.setT i g r n)
theorem cs_ownN (i : Nat) {x : Str} {e : Expr} {t : TE} {f : DS → Res T} {pos pos' : Pos} (hN : X.N.Nodup) (he : CN X W e t f) (hi : X.N[i]? = some x := by rfl) (hx : Loc X.env.scope x := by first | exact Or.inl rfl | exact Or.inr rfl)
    (hs : swapsWith e (some (.Name x pos')) pos.line X.env = pure false := by rfl) (hf : X.fn x = true ∨ X.env.scope.names.lookup x = some .local := by first | exact .inl rfl | exact .inr rfl | assumption) :
    CS X W (.Assign [.Name x pos'] e pos) (tAsg t (gName i)) (cOwnN i f) := ⟨ps_set hN hi hx he.pe hs hf, ss_ownN he.sn⟩
end
end DV
namespace DV
open PySem L2
noncomputable def nodeAt (δ : DS) (i : Nat) (js : List Nat) : Option T := match δ[i]? with
  | some (some (.tr m k ts)) => (T.nd k ts).at js
  | _ => none
noncomputable def putAt (δ : DS) (i : Nat) (js : List Nat) (t : T) : DS := match δ[i]? with
  | some (some (.tr m k ts)) => δ.set i (some (O.ofM m ((T.nd k ts).put js t)))
  | _ => δ
noncomputable def AtP (K : PySem.W.Frag) (H : Hp) (σ : L2.St) (δ : DS) (i : Nat) (js : List Nat) (v : V) : Prop := ∀ m k ts v0, δ[i]? = some (some (.tr m k ts)) → σ[i]? = some (some v0) → ValAt K H (.nd k ts) v0 js v
section
variable (K : PySem.W.Frag)
noncomputable def PostP (B H : Hp) (σ : L2.St) (δ : DS) (W : WX) (Q : VK) : Res (Nat × List Nat) → Prop
  | .ok p => ∀ v B' H', Grow K B H B' H' → AtP K H' σ δ p.1 p.2 v → Q v H'
  | .er x => ∀ c dx B' H', Grow K B H B' H' → RpX K B' c dx x → W c dx σ H'
  | .no => False
noncomputable def SP (W : WX) (t : TE) (f : DS → Res (Nat × List Nat)) : Prop := ∀ B0 H0 δ σ B H (Q : VK), Rel K B0 H0 B H σ δ → PostP K B H σ δ W Q (f δ) → t σ H Q
end
structure CP (X : Cx) (W : WX) (e : Expr) (t : TE) (f : DS → Res (Nat × List Nat)) : Prop where
  pe : PE X e t
  sp : SP X.K W t f
section
variable {K : PySem.W.Frag} {B0 : Hp} {H0 : Org} {B H B' H' : Hp} {σ : L2.St} {δ : DS}
theorem ValAt.snoc : ∀ {js : List Nat} {t : T} {v u w : V} {k : NK} {ts : List T} {j : Nat} {p : Addr} {vs : List V} {fp : List Addr} {t' : T}, ValAt K H t v js u → t.at js = some (.nd k ts) → u = .ref p → cell K H p vs fp k → ts[j]? = some t' → vs[j]? = some w → ValAt K H t v (js ++ [j]) w
  | [], t, v, u, w, k, ts, j, p, vs, fp, t', h, a, hu, hc, e1, e2 => by
    rw [T.at] at a
    cases a
    have : u = v := h
    subst this
    exact ⟨p, vs, fp, hu, hc, t', w, e1, e2, by cases t' <;> rfl⟩
  | j0 :: js, .im d, v, u, w, k, ts, j, p, vs, fp, t', h, a, hu, hc, e1, e2 => h.elim
  | j0 :: js, .nd k0 ts0, v, u, w, k, ts, j, p, vs, fp, t', h, a, hu, hc, e1, e2 => by
    obtain ⟨p', vs', fp', z, hc', t1, v1, f1, f2, f3⟩ := h
    have a' : t1.at js = some (.nd k ts) := by
      rw [T.at, f1] at a
      exact a
    exact ⟨p', vs', fp', z, hc', t1, v1, f1, f2, ValAt.snoc f3 a' hu hc e1 e2⟩
theorem Rel.node {i : Nat} {js : List Nat} {t0 : T} {v : V} (r : Rel K B0 H0 B H σ δ) (n : nodeAt δ i js = some t0) (va : AtP K H σ δ i js v) :
    ∃ m k ts v0, δ[i]? = some (some (.tr m k ts)) ∧ σ[i]? = some (some v0) ∧ ValAt K H (.nd k ts) v0 js v ∧ (T.nd k ts).at js = some t0 ∧ RT K B H t0 v ∧ (∀ q, FT K H t0 v q → FT K H (.nd k ts) v0 q) ∧ (∀ q, FT K H (.nd k ts) v0 q → H0 q = none ∧ B q = none) := by
  unfold nodeAt at n
  split at n
  · rename_i m k ts e
    obtain ⟨v0, h1, h2⟩ := r.sl i _ e
    have va' := va m k ts v0 e h1
    obtain ⟨a, b⟩ := RT.at h2.1 va' n
    exact ⟨m, k, ts, v0, e, h1, va', n, a, b, h2.2.1⟩
  · cases n
theorem AtP.mono {i : Nat} {js : List Nat} {v : V} (r : Rel K B0 H0 B H σ δ) (g : Grow K B H B' H') (va : AtP K H σ δ i js v) : AtP K H' σ δ i js v := fun m k ts v0 e es => by
  obtain ⟨v1, h1, h2⟩ := r.sl i _ e
  rw [es] at h1
  cases h1
  refine ValAt.move h2.1 (fun q hq => ?_) (va m k ts v0 e es)
  obtain ⟨u, hu, kd⟩ := RT.kind _ _ h2.1 q hq
  rw [hu]
  exact g.h _ _ hu kd.std
end
section
variable {X : Cx} {W : WX} {K : PySem.W.Frag}
noncomputable def cpVar (i : Nat) : DS → Res (Nat × List Nat) := fun δ => match δ[i]? with
  | some (some (.tr _ _ _)) => .ok (i, [])
  | _ => .no
theorem cp_var (i : Nat) {x : Str} {px : Pos} (hv : PE X (.Name x px) (tVar i)) : CP X W (.Name x px) (tVar i) (cpVar i) := ⟨hv, fun B0 H0 δ σ B H Q rel hp => by
  unfold cpVar at hp
  split at hp
  · rename_i k ts e
    obtain ⟨v, h1, _⟩ := rel.sl i _ e
    refine ⟨v, h1, hp v B H (Grow.refl rel.g.i) fun m' k' ts' v0 e' es => ?_⟩
    rw [h1] at es
    cases es
    rfl
  · exact hp.elim⟩
end
end DV
namespace DV
open PySem L2
section
variable {K : PySem.W.Frag} {B0 : Hp} {H0 : Org} {B H B' H' : Hp} {σ : L2.St} {δ : DS}
theorem AtP.snoc {i : Nat} {js : List Nat} {v w : V} {k : NK} {ts : List T} {j : Nat} {p : Addr} {vs : List V} {fp : List Addr} {t' : T} (va : AtP K H σ δ i js v) (n : nodeAt δ i js = some (.nd k ts)) (hv : v = .ref p) (hc : cell K H p vs fp k) (e1 : ts[j]? = some t') (e2 : vs[j]? = some w) : AtP K H σ δ i (js ++ [j]) w := fun m0 k0 ts0 v0 e es => by
  have a : (T.nd k0 ts0).at js = some (.nd k ts) := by
    unfold nodeAt at n
    rw [e] at n
    exact n
  exact ValAt.snoc (va m0 k0 ts0 v0 e es) a hv hc e1 e2
end
section
variable {X : Cx} {W : WX} {K : PySem.W.Frag}
end
end DV
namespace DV
open PySem L2
section
variable {X : Cx} {W : WX} {K : PySem.W.Frag}
end
end DV
namespace DV
open PySem L2
section
variable {X : Cx} {W : WX} {K : PySem.W.Frag}
end
end DV
namespace DV
open PySem L2
section
variable {P : Program} {w : World} {A : Around} {E : Value → Shared → Prop} {s : Shared}
end
section
variable {X : Cx} {W : WX}
end
end DV
namespace DV
open PySem L2
section
variable {X : Cx} {W : WX} {K : PySem.W.Frag}
end
end DV
namespace DV
open PySem L2 PyProof.Rows PySem.W PySem.Calls PySem.SeqAt
section
variable {prog : Program} {w : World} {A : Around} {E : Value → Shared → Prop} {s : Shared}
end
section
variable {X : Cx} {W : WX}
end
end DV
namespace DV
open PySem L2 PyProof.Rows
mutual
noncomputable def KeyAt (K : PySem.W.Frag) (H : Hp) : NestedKey → V → Prop
  | .num i, v => v = .int i
  | .tup ks, v => ∃ a xs, v = .ref a ∧ SqT K H a xs ∧ KeyAts K H ks xs
  | .none, _ => False
  | .text _, _ => False
noncomputable def KeyAts (K : PySem.W.Frag) (H : Hp) : List NestedKey → List V → Prop
  | [], vs => vs = []
  | k :: ks, vs => ∃ v vs', vs = v :: vs' ∧ KeyAt K H k v ∧ KeyAts K H ks vs'
end
section
variable {K : PySem.W.Frag} {B H H' : Hp}
mutual
theorem keyAt_of (i : Same B H) : ∀ (k : NestedKey) (v : V), nkInt k = true → Rp K B v (nkD k) → KeyAt K H k v
  | .num n, v, _, r => by rw [nkD] at r; rw [KeyAt]; cases r; rfl
  | .none, v, h, _ => by simp [nkInt] at h
  | .text _, v, h, _ => by simp [nkInt] at h
  | .tup ks, v, h, r => by
    rw [nkD] at r
    rw [KeyAt]
    cases r with
    | tup hs q => exact ⟨_, _, rfl, sqT_mono i hs, keyAts_of i ks _ (by simpa [nkInt] using h) q⟩
theorem keyAts_of (i : Same B H) : ∀ (ks : List NestedKey) (vs : List V), nkInts ks = true → RpA K B vs (nkDs ks) → KeyAts K H ks vs
  | [], vs, _, r => by rw [nkDs] at r; rw [KeyAts]; cases r; rfl
  | k :: ks, vs, h, r => by
    rw [nkInts, Bool.and_eq_true] at h
    rw [nkDs] at r
    rw [KeyAts]
    cases r with
    | cons r1 r2 => exact ⟨_, _, rfl, keyAt_of i k _ h.1 r1, keyAts_of i ks _ h.2 r2⟩
end
end
theorem nkOk_int {k : NestedKey} (h : nkOk k = true) : nkInt k = true := by
  cases k with
  | tup ks => rw [nkOk, Bool.and_eq_true] at h; rw [nkInt]; exact h.1
  | _ => cases h
theorem nkOk_depth {k : NestedKey} (h : nkOk k = true) : k.depth ≤ 8 := by
  cases k with
  | tup ks => rw [nkOk, Bool.and_eq_true] at h; exact of_decide_eq_true h.2
  | _ => cases h
theorem nkInts_all : ∀ {ks : List NestedKey}, (∀ k ∈ ks, nkOk k = true) → nkInts ks = true
  | [], _ => by rw [nkInts]
  | k :: ks, h => by rw [nkInts, nkOk_int (h k (by simp)), nkInts_all fun x hx => h x (by simp [hx])]; rfl
section
variable {X : Cx} {pins : List (Addr × Obj)} {σ : L2.St} {H : Hp} {s : Shared}
mutual
theorem nested_of (I : Inv X pins σ H s) : ∀ (k : NestedKey) (v : V) (u : Value), KeyAt X.K H k v → RelV v u → NestedIs s.heap k u
  | .num n, v, u, h, r => by
    rw [KeyAt] at h
    subst h
    obtain ⟨t, rfl⟩ := (show ∃ t, u = Value.int n t from r)
    exact .int _ _
  | .none, v, u, h, _ => by rw [KeyAt] at h; exact h.elim
  | .text _, v, u, h, _ => by rw [KeyAt] at h; exact h.elim
  | .tup ks, v, u, h, r => by
    rw [KeyAt] at h
    obtain ⟨a, xs, rfl, hs, hk⟩ := h
    cases (show u = Value.ref a from r)
    obtain ⟨its, rv, ⟨o, h1, h2, n, h3⟩, _⟩ := I.tuple hs
    exact .tup h1 h2 h3 (by simpa using nested_all I ks xs its hk rv)
theorem nested_all (I : Inv X pins σ H s) : ∀ (ks : List NestedKey) (vs : List V) (us : List Value), KeyAts X.K H ks vs → Vals vs us → NestedAll s.heap ks us
  | [], vs, us, h, r => by rw [KeyAts] at h; subst h; cases r; exact .nil
  | k :: ks, vs, us, h, r => by
    rw [KeyAts] at h
    obtain ⟨v, vs', rfl, h1, h2⟩ := h
    cases r with
    | cons r1 r2 => exact .cons (nested_of I k _ _ h1 r1) (nested_all I ks _ _ h2 r2)
end
end
section
variable {α β : Type}
noncomputable def atK (k : NestedKey) : List NestedKey → List α → Option α
  | k' :: ks, x :: xs => if k' = k then some x else atK k ks xs
  | _, _ => none
noncomputable def repK (k : NestedKey) (f : α → α) : List NestedKey → List α → List α
  | k' :: ks, x :: xs => (if k' = k then f x else x) :: repK k f ks xs
  | _, xs => xs
noncomputable def delK (k : NestedKey) : List NestedKey → List α → List α
  | k' :: ks, x :: xs => if k' = k then delK k ks xs else x :: delK k ks xs
  | _, xs => xs
theorem repK_len (k : NestedKey) (f : α → α) : ∀ (ks : List NestedKey) (xs : List α), (repK k f ks xs).length = xs.length
  | [], xs => by cases xs <;> rfl
  | _ :: _, [] => rfl
  | _ :: ks, x :: xs => by rw [repK, List.length_cons, List.length_cons, repK_len k f ks xs]
theorem delK_len (k : NestedKey) : ∀ (ks : List NestedKey) (xs : List α), (delK k ks xs).length ≤ xs.length
  | [], xs => by cases xs <;> exact Nat.le_refl _
  | _ :: _, [] => Nat.le_refl _
  | k' :: ks, x :: xs => by
    rw [delK]
    have := delK_len k ks xs
    split
    · rw [List.length_cons]; omega
    · rw [List.length_cons, List.length_cons]; omega
theorem atK_none (k : NestedKey) : ∀ (ks : List NestedKey) (xs : List α), k ∉ ks → atK k ks xs = none
  | [], xs, _ => by cases xs <;> rfl
  | _ :: _, [], _ => rfl
  | k' :: ks, x :: xs, h => by
    rw [atK, if_neg fun z => h (by simp [z]), atK_none k ks xs fun z => h (by simp [z])]
theorem atK_some (k : NestedKey) : ∀ (ks : List NestedKey) (xs : List α), k ∈ ks → ks.length = xs.length → ∃ x, atK k ks xs = some x
  | [], _, h, _ => by cases h
  | k' :: ks, [], _, hl => by simp at hl
  | k' :: ks, x :: xs, h, hl => by
    rw [atK]
    by_cases e : k' = k
    · exact ⟨x, if_pos e⟩
    · rw [if_neg e]
      exact atK_some k ks xs (by rcases List.mem_cons.mp h with z | z; exact absurd z.symm e; exact z) (by simpa using hl)
theorem delK_map (k : NestedKey) (f : α → β) : ∀ (ks : List NestedKey) (xs : List α), delK k ks (xs.map f) = (delK k ks xs).map f
  | [], xs => by cases xs <;> rfl
  | _ :: _, [] => rfl
  | k' :: ks, x :: xs => by
    rw [List.map_cons, delK, delK, delK_map k f ks xs]
    split <;> rfl
theorem repK_keep (k : NestedKey) (f : α → α) (g : α → β) (h : ∀ a, g (f a) = g a) : ∀ (ks : List NestedKey) (xs : List α), (repK k f ks xs).map g = xs.map g
  | [], xs => by cases xs <;> rfl
  | _ :: _, [] => rfl
  | k' :: ks, x :: xs => by
    rw [repK, List.map_cons, List.map_cons, repK_keep k f g h ks xs]
    split
    · rw [h]
    · rfl
theorem delK_self (k : NestedKey) : ∀ (ks : List NestedKey), delK k ks ks = ks.filter fun x => decide (x ≠ k)
  | [] => rfl
  | k' :: ks => by
    rw [delK, List.filter_cons, delK_self k ks]
    by_cases e : k' = k
    · rw [if_pos e, if_neg (by simp [e])]
    · rw [if_neg e, if_pos (by simp [e])]
end
structure DxAt (K : PySem.W.Frag) (H : Hp) (a : Addr) (ks : List NestedKey) (us : List (Int × Addr × V)) : Prop where
  at_ : ∃ o, H a = some (Dx a o us) ∧ DxO a o us
  hs : us.map (·.1) = ks.map nkHash
  nd : ks.Nodup
  ok : ∀ k ∈ ks, nkOk k = true
  ky : KeyAts K H ks (us.map fun u => .ref u.2.1)
theorem DxAt.len {K : PySem.W.Frag} {H : Hp} {a : Addr} {ks : List NestedKey} {us : List (Int × Addr × V)} (h : DxAt K H a ks us) : ks.length = us.length := by
  have := congrArg List.length h.hs
  simpa using this.symm
noncomputable abbrev PX : (Int × Addr × V) → (NestedKey × Addr × Value) → Prop := fun u x => u.1 = nkHash x.1 ∧ u.2.1 = x.2.1 ∧ RelV u.2.2 x.2.2
section
variable {X : Cx} {pins : List (Addr × Obj)} {σ : L2.St} {H : Hp} {s : Shared} {a : Addr} {ks : List NestedKey} {us : List (Int × Addr × V)}
theorem dict_zip (I : Inv X pins σ H s) : ∀ {us : List (Int × Addr × V)} {es : List DictEntry} {ks : List NestedKey}, Paired (fun (u : Int × Addr × V) (e : DictEntry) => e.hash = u.1 ∧ e.key = .ref u.2.1 ∧ RelV u.2.2 e.val) us es → us.map (·.1) = ks.map nkHash → (∀ k ∈ ks, nkOk k = true) →
    KeyAts X.K H ks (us.map fun u => .ref u.2.1) → ∃ xs : List (NestedKey × Addr × Value), es = xs.map (entryOfKey (nestedKind X.prog X.w)) ∧ xs.map (·.1) = ks ∧ Paired PX us xs ∧ ∀ x ∈ xs, (nestedKind X.prog X.w).is s.heap x.1 x.2.1
  | _, _, [], .nil, _, _, _ => ⟨[], rfl, rfl, .nil, fun x hx => nomatch hx⟩
  | _, _, _ :: _, .nil, h, _, _ => by simp at h
  | _, _, [], .cons _ _, h, _, _ => by simp at h
  | _, _, k :: ks, .cons (a := u) (b := e) (l₁ := us) (l₂ := es) h t, hh, ok, ky => by
    rw [List.map_cons, KeyAts] at ky
    obtain ⟨v, vs', hv, k1, k2⟩ := ky
    cases hv
    rw [List.map_cons, List.map_cons] at hh
    injection hh with hh1 hh2
    obtain ⟨xs, e1, e2, e3, e4⟩ := dict_zip I (ks := ks) t hh2 (fun x hx => ok x (by simp [hx])) k2
    have hk := ok k (by simp)
    refine ⟨(k, u.2.1, e.val) :: xs, ?_, by rw [List.map_cons, e2], .cons ⟨hh1, rfl, h.2.2⟩ e3, fun x hx => ?_⟩
    · rw [List.map_cons, ← e1]
      congr 1
      obtain ⟨eh, ek, ev⟩ := e
      obtain ⟨q1, q2, q3⟩ := h
      unfold entryOfKey
      simp only at q1 q2 ⊢
      rw [q1, q2, hh1, ← nkHash_eq X.w k (nkOk_int hk)]
      rfl
    · rcases List.mem_cons.mp hx with rfl | hx
      · exact ⟨nested_of I k _ _ k1 rfl, nkOk_depth hk⟩
      · exact e4 x hx
theorem DxAt.dict (I : Inv X pins σ H s) (h : DxAt X.K H a ks us) : ∃ xs : List (NestedKey × Addr × Value), s.heap.DictOfH (nestedKind X.prog X.w) a xs ∧ xs.map (·.1) = ks ∧ Paired PX us xs ∧ xs.length ≤ sizeLine ∧ (a == sysModules) = false := by
  obtain ⟨o, e, d⟩ := h.at_
  obtain ⟨⟨h1, _⟩, _, _⟩ := (show ObjOk X.prog X.w H s.heap a (Dx a o us) from I.hok a _ e)
  obtain ⟨hz, hm, hx, es, ep, hd, r⟩ := d
  obtain ⟨xs, e1, e2, e3, e4⟩ := dict_zip I r h.hs h.ok h.ky
  exact ⟨xs, ⟨o, es, ep, h1, hx, hd, e1, e4, by rw [e2]; exact h.nd⟩, e2, e3, by rw [← Paired.length e3]; exact hz, hm⟩
theorem dx_obj {P : Program} {w : World} {h' : Heap} {xs : List (NestedKey × Addr × Value)} {us : List (Int × Addr × V)} (d : h'.DictOfH (nestedKind P w) a xs) (r : Paired PX us xs) (ok : ∀ x ∈ xs, nkInt x.1 = true) (hz : us.length ≤ sizeLine) (hm : (a == sysModules) = false) :
    ∃ o, h'.get? a = some o ∧ DxO a o us := by
  obtain ⟨o, es, ep, h1, hx, hd, he, z1, z2⟩ := d
  refine ⟨o, h1, hz, hm, hx, es, ep, hd, ?_⟩
  rw [he]
  clear he hd h1 hx hz z1 z2
  induction r with
  | nil => exact .nil
  | @cons u x us xs hh t ih =>
    rw [List.map_cons]
    refine .cons ⟨?_, ?_, hh.2.2⟩ (ih fun y hy => ok y (by simp [hy]))
    · show NestedKey.hash w x.1 = u.1
      rw [nkHash_eq w x.1 (ok x (by simp)), hh.1]
    · show Value.ref x.2.1 = Value.ref u.2.1
      rw [hh.2.1]
theorem dx_ok {P : Program} {w : World} {H' : Hp} {h' : Heap} {o : Obj} {us : List (Int × Addr × V)} (h1 : h'.get? a = some o) (d : DxO a o us) : ObjOk P w H' h' a (Dx a o us) :=
  ⟨⟨h1, d⟩, ⟨o, h1⟩, fun h1 h2 q k => ⟨k _ q.1, q.2⟩⟩
theorem px_at : ∀ {us : List (Int × Addr × V)} {xs : List (NestedKey × Addr × Value)} (k : NestedKey), Paired PX us xs → (∀ u, atK k (xs.map (·.1)) us = some u → ∃ p, atKey xs k = some p ∧ u.2.1 = p.1 ∧ RelV u.2.2 p.2) ∧ (atK k (xs.map (·.1)) us = none → atKey xs k = none)
  | _, _, k, .nil => ⟨fun u h => by simp [atK] at h, fun _ => rfl⟩
  | _, _, k, .cons (a := u0) (b := x) (l₁ := us) (l₂ := xs) h t => by
    obtain ⟨i1, i2⟩ := px_at k t
    constructor
    · intro u hu
      rw [List.map_cons, atK] at hu
      by_cases e : x.1 = k
      · rw [if_pos e] at hu
        cases hu
        exact ⟨x.2, by simp [atKey, e], h.2.1, h.2.2⟩
      · rw [if_neg e] at hu
        obtain ⟨p, hp, r⟩ := i1 u hu
        exact ⟨p, by simpa [atKey, List.find?_cons, e] using hp, r⟩
    · intro hu
      rw [List.map_cons, atK] at hu
      by_cases e : x.1 = k
      · rw [if_pos e] at hu; cases hu
      · rw [if_neg e] at hu
        simpa [atKey, List.find?_cons, e] using i2 hu
theorem px_rep {k : NestedKey} {v : V} {u : Value} (rv : RelV v u) : ∀ {us : List (Int × Addr × V)} {xs : List (NestedKey × Addr × Value)}, Paired PX us xs → Paired PX (repK k (fun u => (u.1, u.2.1, v)) (xs.map (·.1)) us) (xs.map (PySem.putAt k u))
  | _, _, .nil => .nil
  | _, _, .cons (a := u0) (b := x) h t => by
    rw [List.map_cons, repK, List.map_cons]
    refine .cons ?_ (px_rep rv t)
    unfold PySem.putAt
    by_cases e : x.1 = k
    · rw [if_pos e, if_pos e]; exact ⟨h.1, h.2.1, rv⟩
    · rw [if_neg e, if_neg e]; exact h
theorem px_del {k : NestedKey} : ∀ {us : List (Int × Addr × V)} {xs : List (NestedKey × Addr × Value)}, Paired PX us xs → Paired PX (delK k (xs.map (·.1)) us) (withoutH xs k)
  | _, _, .nil => .nil
  | _, _, .cons (a := u0) (b := x) h t => by
    rw [List.map_cons, delK]
    unfold withoutH
    rw [List.filter_cons]
    by_cases e : x.1 = k
    · rw [if_pos e, if_neg (by simp [e])]; exact px_del t
    · rw [if_neg e, if_pos (by simp [e])]; exact .cons h (px_del t)
end
end DV
namespace DV
open PySem L2 PyProof.Rows
theorem room8 {A : Around} (hu : A.units + 64 < cLine) : A.in1.units + 8 < cLine := by
  rw [Around.in1_units]; omega
section
variable {X : Cx} {pins : List (Addr × Obj)} {σ : L2.St} {H : Hp} {s : Shared} {a : Addr} {ks : List NestedKey} {us : List (Int × Addr × V)} {k : NestedKey} {y v : V} {u r : Value} {A : Around} {E : Value → Shared → Prop}
theorem key_ref (h : KeyAt X.K H k y) (ok : nkOk k = true) : ∃ b, y = .ref b := by
  cases k with
  | tup ks => rw [KeyAt] at h; obtain ⟨b, _, rfl, _⟩ := h; exact ⟨b, rfl⟩
  | _ => cases ok
theorem key_is (I : Inv X pins σ H s) {b : Addr} (h : KeyAt X.K H k (.ref b)) (ok : nkOk k = true) : (nestedKind X.prog X.w).is s.heap k b := ⟨nested_of I k _ _ h rfl, nkOk_depth ok⟩
theorem x_getItem {z : Int × Addr × V} {Q : Value → Shared → Prop} (hu : A.units + 64 < cLine) (I : Inv X pins σ H s) (d : DxAt X.K H a ks us) (ok : nkOk k = true) (hk : KeyAt X.K H k y) (l : atK k ks us = some z) (ry : RelV y u) (h : ∀ w' s', Inv X pins σ H s' → RelV z.2.2 w' → Q w' s') :
    wpAny (model X.prog X.w) A (getItem (.ref a) u) Q E s := by
  obtain ⟨b, rfl⟩ := key_ref hk ok
  cases (show u = Value.ref b from ry)
  obtain ⟨xs, dd, rfl, px, hz, hm⟩ := d.dict I
  obtain ⟨p, hp, _, hr⟩ := (px_at k px).1 z l
  exact wpAny_getItem_heap (room8 hu) (key_is I hk ok) dd hp (h _ _ (I.tok _) hr)
theorem isSome_at {xs : List (NestedKey × Addr × Value)} (px : Paired PX us xs) : (atKey xs k).isSome = (atK k (xs.map (·.1)) us).isSome := by
  obtain ⟨h1, h2⟩ := px_at k px
  cases e : atK k (xs.map (·.1)) us with
  | none => rw [h2 e]; rfl
  | some z => obtain ⟨p, hp, _⟩ := h1 z e; rw [hp]; rfl
theorem x_get2 {z : V} {Q : Value → Shared → Prop} (hu : A.units + 64 < cLine) (I : Inv X pins σ H s) (d : DxAt X.K H a ks us) (ok : nkOk k = true) (hk : KeyAt X.K H k y) (ry : RelV y u) (rd : RelV z r) (h : ∀ w' s', Inv X pins σ H s' → RelV (((atK k ks us).map (·.2.2)).getD z) w' → Q w' s') :
    wpAny (model X.prog X.w) A (call (.builtin "dict.get") [.ref a, u, r]) Q E s := by
  obtain ⟨b, rfl⟩ := key_ref hk ok
  cases (show u = Value.ref b from ry)
  obtain ⟨xs, dd, rfl, px, hz, hm⟩ := d.dict I
  refine call_meetsIn PySem.F.slot_dict_get dd.typeIs PySem.F.entry_dict_get (PySem.F.args_dict_get_3 _ _ _) (meetsH_dict_get_default (nestedKind X.prog X.w) a b hm r) ⟨room8 hu, k, xs, key_is I hk ok, dd, h _ _ (I.tok _) ?_⟩
  obtain ⟨h1, h2⟩ := px_at k px
  cases e : atK k (xs.map (·.1)) us with
  | none => rw [h2 e]; exact rd
  | some z => obtain ⟨p, hp, _, hr⟩ := h1 z e; rw [hp]; exact hr
noncomputable def putU (ks : List NestedKey) (us : List (Int × Addr × V)) (k : NestedKey) (b : Addr) (v : V) : List (Int × Addr × V) :=
  if (atK k ks us).isSome = true then repK k (fun u => (u.1, u.2.1, v)) ks us else us ++ [(nkHash k, b, v)]
theorem x_setItem {b : Addr} {Q : Unit → Shared → Prop} (hu : A.units + 64 < cLine) (I : Inv X pins σ H s) (d : DxAt X.K H a ks us) (ok : nkOk k = true) (hk : KeyAt X.K H k (.ref b)) (hl : us.length < sizeLine) (rv : RelV v r)
    (h : ∀ o' s', DxO a o' (putU ks us k b v) → Inv X pins σ (upd H a (Dx a o' (putU ks us k b v))) s' → Q () s') : wpAny (model X.prog X.w) A (setItem (.ref a) (.ref b) r) Q E s := by
  obtain ⟨o, e0, _⟩ := d.at_
  obtain ⟨xs, dd, hks, px, hz, hm⟩ := d.dict I
  have hok : ∀ x ∈ xs, nkInt x.1 = true := fun x hx => nkOk_int (d.ok x.1 (by rw [← hks]; exact List.mem_map_of_mem hx))
  refine wpAny_setItem_heap (hsz := hz) (room8 hu) (key_is I hk ok) dd fun h' dd' hs => ?_
  have px' : Paired PX (putU ks us k b v) (storedH xs k b r) := by
    unfold putU storedH
    rw [← hks, isSome_at px]
    split
    · exact px_rep rv px
    · exact Paired.snoc px ⟨rfl, rfl, rv⟩
  have hok' : ∀ x ∈ storedH xs k b r, nkInt x.1 = true := by
    intro x hx
    unfold storedH at hx
    split at hx
    · obtain ⟨y, hy, rfl⟩ := List.mem_map.mp hx
      have := hok y hy
      unfold PySem.putAt
      split <;> exact this
    · rcases List.mem_append.mp hx with hx | hx
      · exact hok x hx
      · rw [List.mem_singleton.mp hx]; exact nkOk_int ok
  have hlen : (putU ks us k b v).length ≤ sizeLine := by
    unfold putU
    split
    · rw [repK_len]; omega
    · rw [List.length_append, List.length_singleton]; omega
  obtain ⟨o', ho, hd'⟩ := dx_obj dd' px' hok' hlen hm
  exact h o' _ hd' (d_write I (by rw [e0]; exact True.intro) hs ⟨o', ho⟩ (dx_ok ho hd'))
theorem x_pop {b : Addr} {z : Int × Addr × V} {Q : Value → Shared → Prop} (hu : A.units + 64 < cLine) (I : Inv X pins σ H s) (d : DxAt X.K H a ks us) (ok : nkOk k = true) (hk : KeyAt X.K H k (.ref b)) (l : atK k ks us = some z)
    (h : ∀ o' w' s', DxO a o' (delK k ks us) → Inv X pins σ (upd H a (Dx a o' (delK k ks us))) s' → RelV z.2.2 w' → Q w' s') : wpAny (model X.prog X.w) A (call (.builtin "dict.pop") [.ref a, .ref b]) Q E s := by
  obtain ⟨o, e0, d0⟩ := d.at_
  obtain ⟨xs, dd, hks, px, hz, hm⟩ := d.dict I
  have hok : ∀ x ∈ xs, nkInt x.1 = true := fun x hx => nkOk_int (d.ok x.1 (by rw [← hks]; exact List.mem_map_of_mem hx))
  rw [← hks] at l
  obtain ⟨p, hp, _, hr⟩ := (px_at k px).1 z l
  refine call_pop_heap (hsz := hz) (more := []) (.inl rfl) (PySem.F.args_dict_pop_2 _ _) (room8 hu) (key_is I hk ok) hm dd hp fun h' dd' hs => ?_
  have px' := px_del (k := k) px
  rw [hks] at px'
  obtain ⟨o', ho, hd'⟩ := dx_obj dd' px' (fun x hx => hok x (List.mem_filter.mp hx).1) (Nat.le_trans (delK_len k ks us) d0.1) hm
  exact h o' _ _ hd' (d_write I (by rw [e0]; exact True.intro) hs ⟨o', ho⟩ (dx_ok ho hd')) hr
end
noncomputable def tXGet (K : PySem.W.Frag) (td ty : TE) : TE := fun σ H Q => td σ H fun x H1 => ty σ H1 fun y H2 => ∃ a ks us k z, x = .ref a ∧ DxAt K H2 a ks us ∧ nkOk k = true ∧ KeyAt K H2 k y ∧ atK k ks us = some z ∧ Q z.2.2 H2
noncomputable def IsX (H : Hp) (a : Addr) : Prop := ∃ o us, H a = some (Dx a o us) ∧ DxO a o us
noncomputable def tXGet2 (K : PySem.W.Frag) (td ty tx : TE) : TE := fun σ H Q => td σ H fun x H1 => ∃ a, x = .ref a ∧ IsX H1 a ∧ ty σ H1 fun y H2 => tx σ H2 fun z H3 => ∃ ks us k, DxAt K H3 a ks us ∧ nkOk k = true ∧ KeyAt K H3 k y ∧ Q (((atK k ks us).map (·.2.2)).getD z) H3
noncomputable def sXPut (K : PySem.W.Frag) (td ty tv : TE) : TS := fun D σ H => tv σ H fun v H1 => td σ H1 fun x H2 => ty σ H2 fun y H3 => ∃ a ks us k b, x = .ref a ∧ y = .ref b ∧ DxAt K H3 a ks us ∧ nkOk k = true ∧ KeyAt K H3 k y ∧ us.length < sizeLine ∧ ∀ o', DxO a o' (putU ks us k b v) → D.nx σ (upd H3 a (Dx a o' (putU ks us k b v)))
noncomputable def tXPop (K : PySem.W.Frag) (td ty : TE) : TE := fun σ H Q => td σ H fun x H1 => ∃ a, x = .ref a ∧ IsX H1 a ∧ ty σ H1 fun y H2 => ∃ ks us k b z, y = .ref b ∧ DxAt K H2 a ks us ∧ nkOk k = true ∧ KeyAt K H2 k y ∧ atK k ks us = some z ∧ ∀ o', DxO a o' (delK k ks us) → Q z.2.2 (upd H2 a (Dx a o' (delK k ks us)))
section
variable {X : Cx} {pins : List (Addr × Obj)} {σ : L2.St} {H : Hp} {s : Shared} {a : Addr}
theorem isX_at (I : Inv X pins σ H s) (d : IsX H a) : s.TypeIs (.ref a) "dict" ∧ (∀ b, Value.ref a = .ref b → ∃ ob, s.heap.get? b = some ob ∧ ob.dict = none) := by
  obtain ⟨o, us, e, dd⟩ := d
  obtain ⟨⟨h1, _⟩, _, _⟩ := (show ObjOk X.prog X.w H s.heap a (Dx a o us) from I.hok a _ e)
  obtain ⟨_, _, hx, _⟩ := dd
  exact ⟨⟨o, h1, hx.1⟩, fun b q => by cases q; exact ⟨o, h1, hx.2.1⟩⟩
theorem DxAt.isX {K : PySem.W.Frag} {ks : List NestedKey} {us : List (Int × Addr × V)} (d : DxAt K H a ks us) : IsX H a := let ⟨o, e, x⟩ := d.at_; ⟨o, us, e, x⟩
end
section
variable {X : Cx} {o i e f value : Expr} {pos pos' tpos apos cpos : Pos} {td ty tx tv : TE}
theorem pe_xget (hu : X.A.units + 64 < cLine) (ho : PE X o td) (hi : PE X i ty) (hs : NoSl i) : PE X (.Subscript o i pos) (tXGet X.K td ty) := by
  refine ⟨fun pins s σ H Q I h => ?_⟩
  refine subD_of PySem.F.slot_dict_getitem.lookup hs (thn (ho.run pins s σ H _ I h) fun u s1 ⟨x, H1, I1, rx, q1⟩ => thn (hi.run pins s1 σ H1 _ I1 q1) fun iv s2 ⟨y, H2, I2, ry, a, ks, us, k, z, ex, d, ok, hk, l, q2⟩ => ?_)
  subst ex
  obtain rfl : u = Value.ref a := rx
  exact ⟨(isX_at I2 d.isX).1, x_getItem hu I2 d ok hk l ry fun w' s3 I3 rw' => ⟨_, H2, I3, rw', q2⟩⟩
theorem pe_xget2 (hu : X.A.units + 64 < cLine) (ho : PE X o td) (he : PE X e ty) (hf : PE X f tx) (m : M2 X o "get" apos e f cpos) : PE X (.Call (.Attribute o "get" apos) [e, f] [] cpos) (tXGet2 X.K td ty tx) := by
  refine ⟨fun pins s σ H Q I h => ?_⟩
  refine wpAny_Call_method m.base m.few m.line PySem.F.plainAttrs_dict PySem.F.slot_dict_get PySem.F.type_dict_get (thn (ho.run pins s σ H _ I h) fun u s1 ⟨x, H1, I1, rx, a, ex, d, q1⟩ => ?_)
  subst ex
  obtain rfl : u = Value.ref a := rx
  obtain ⟨t1, t2⟩ := isX_at I1 d
  refine ⟨t1, t2, ?_⟩
  rw [m.trees]
  refine Calls.callWith_builtin rfl (Calls.evalArgs_plain (Calls.spliced_cons (thn (he.run pins s1 σ H1 _ I1 q1) fun iv s2 ⟨y, H2, I2, ry, q2⟩ =>
    Calls.spliced_cons (thn (hf.run pins s2 σ H2 _ I2 q2) fun fv s3 ⟨z, H3, I3, rz, ks, us, k, d3, ok, hk, q3⟩ => Calls.spliced_nil ?_))))
  exact x_get2 hu I3 d3 ok hk ry rz fun w' s4 I4 rw' => ⟨_, H3, I4, rw', q3⟩
theorem ps_xput (hu : X.A.units + 64 < cLine) (ho : PE X o td) (hi : PE X i ty) (hv : PE X value tv) (hs : swapsWith value (some (.Subscript o i pos')) pos.line X.env = pure false) :
    PS X (.Assign [.Subscript o i pos'] value pos) (sXPut X.K td ty tv) := by
  refine ⟨fun pins s σ H D I h => ?_⟩
  refine wpAny_Assign_Subscript (thn (hv.run pins s σ H _ I h) fun r s1 ⟨v, H1, I1, rv, q1⟩ => thn (ho.run pins s1 σ H1 _ I1 q1) fun u s2 ⟨x, H2, I2, rx, q2⟩ => thn (hi.run pins s2 σ H2 _ I2 q2) fun iv s3 ⟨y, H3, I3, ry, a, ks, us, k, b, ex, ey, d, ok, hk, hl, q3⟩ => ?_) hs
  subst ex ey
  obtain rfl : u = Value.ref a := rx
  obtain rfl : iv = Value.ref b := ry
  exact x_setItem hu I3 d ok hk hl rv fun o' s4 hd I4 => ⟨σ, _, I4, q3 o' hd⟩
theorem pe_xpop (hu : X.A.units + 64 < cLine) (ho : PE X o td) (he : PE X e ty) (m : M1 X o "pop" apos e cpos) : PE X (.Call (.Attribute o "pop" apos) [e] [] cpos) (tXPop X.K td ty) := by
  refine ⟨fun pins s σ H Q I h => ?_⟩
  refine wpAny_Call_method m.base m.few m.line PySem.F.plainAttrs_dict PySem.F.slot_dict_pop PySem.F.type_dict_pop (thn (ho.run pins s σ H _ I h) fun u s1 ⟨x, H1, I1, rx, a, ex, d, q1⟩ => ?_)
  subst ex
  obtain rfl : u = Value.ref a := rx
  obtain ⟨t1, t2⟩ := isX_at I1 d
  refine ⟨t1, t2, ?_⟩
  rw [m.trees]
  refine Calls.callWith_builtin rfl (Calls.evalArgs_plain (Calls.spliced_cons (thn (he.run pins s1 σ H1 _ I1 q1) fun iv s2 ⟨y, H2, I2, ry, ks, us, k, b, z, ey, d2, ok, hk, l, q2⟩ => Calls.spliced_nil ?_)))
  subst ey
  obtain rfl : iv = Value.ref b := ry
  exact x_pop hu I2 d2 ok hk l fun o' w' s3 hd I3 rw' => ⟨_, _, I3, rw', q2 o' hd⟩
end
noncomputable def tXNew : TE := fun _ H Q => ∀ p o, H p = none → DxO p o [] → Q (.ref p) (upd H p (Dx p o []))
theorem pe_xnew {X : Cx} {pos : Pos} : PE X (.Dict [] [] pos) tXNew := ⟨fun pins s σ H Q I h => by
  have d : (s.heap.push { cls := .type "dict", data := .dict #[] }).DictOfH (nestedKind X.prog X.w) s.heap.objs.size [] := Heap.DictOfH.new s.heap
  obtain ⟨o, ho, hd⟩ := dx_obj (us := []) d .nil (fun _ hx => nomatch hx) (Nat.zero_le _) (beq_eq_false_iff_ne.mpr (Ne.symm (Nat.ne_of_lt I.big)))
  exact wpAny_Dict_empty ⟨.ref s.heap.objs.size, _, I.laid (a := s.heap.objs.size) (o := Dx s.heap.objs.size o []) (t' := s.toks) (fun _ _ q => Heap.get?_push_of_some _ q) (Nat.le_refl _) (dx_ok ho hd), rfl, h _ o (I.hok.fresh (Nat.le_refl _)) hd⟩⟩
noncomputable def ItX (d : Addr) (o : Obj) (us : List (Int × Addr × V)) : It :=
  ⟨fun i H => H d = some (Dx d o us) ∧ i < us.length, fun i H x H' => H' = H ∧ ∃ u, us[i]? = some u ∧ x = .ref u.2.1, fun i H => H d = some (Dx d o us) ∧ us.length ≤ i⟩
theorem dx_ent {d : Addr} {o : Obj} {us : List (Int × Addr × V)} (w : DxO d o us) : ∃ es ep, o.data = .dict es ep ∧ es.size = us.length ∧ ∀ (i : Nat) (u : Int × Addr × V), us[i]? = some u → ∃ en, es[i]? = some en ∧ en.key = .ref u.2.1 := by
  obtain ⟨_, _, _, es, ep, hd, r⟩ := w
  refine ⟨es, ep, hd, by rw [← Array.length_toList]; exact (Paired.length r).symm, ?_⟩
  intro i u hu
  have : ∀ {us : List (Int × Addr × V)} {l : List DictEntry} {i : Nat}, Paired (fun (u : Int × Addr × V) (e : DictEntry) => e.hash = u.1 ∧ e.key = .ref u.2.1 ∧ L2.RelV u.2.2 e.val) us l → us[i]? = some u → ∃ en, l[i]? = some en ∧ en.key = .ref u.2.1 := by
    intro us l i r hu
    induction r generalizing i with
    | nil => simp at hu
    | cons h t ih =>
      cases i with
      | zero => simp at hu; subst hu; exact ⟨_, rfl, h.2.1⟩
      | succ i => simp at hu; obtain ⟨en, h1, h2⟩ := ih hu; exact ⟨en, by simpa using h1, h2⟩
  obtain ⟨en, h1, h2⟩ := this r hu
  exact ⟨en, by rw [← Array.getElem?_toList]; exact h1, h2⟩
section
variable {P : Program} {w : World} {K : PySem.W.Frag} {tg : Expr} {d : Addr} {o : Obj} {es : Array DictEntry} {ep : Nat}
theorem dx_get {X : Cx} {pins : List (Addr × Obj)} {σ : L2.St} {H : Hp} {s : Shared} {us : List (Int × Addr × V)} (I : Inv X pins σ H s) (h : H d = some (Dx d o us)) : s.heap.get? d = some o :=
  (show ObjOk X.prog X.w H s.heap d (Dx d o us) from I.hok d _ h).1.1
theorem turn_keysX {us : List (Int × Addr × V)} (it : Addr) (wd : DxO d o us) (hod : o.data = .dict es ep) : Turn P w K tg (ItX d o us) [it] it (fun i h => h.IsKeyIter it d i us.length ep) where
  mem := by simp
  obj := fun i h st b hb => by
    have e : b = it := by simpa using hb
    subst e
    obtain ⟨oi, e, c, dd⟩ := st
    exact ⟨oi, e, fun v z => by rw [dd] at z; cases z⟩
  keep := fun i h h' st k => st.at fun oi e => k it (by simp) oi e
  item := by
    intro X hP hw hK hc i pins s σ H E I hf st hg
    subst hP hw hK
    obtain ⟨hd, hi⟩ := hg
    obtain ⟨f0, f1, f2, f3, f4, f5⟩ := hf it (by simp)
    obtain ⟨es', ep', hdt, hsz, ent⟩ := dx_ent wd
    obtain ⟨rfl, rfl⟩ := dict_ep hod hdt
    obtain ⟨u, hkv⟩ : ∃ p, us[i]? = some p := ⟨us[i], List.getElem?_eq_getElem hi⟩
    obtain ⟨en, hen, hkey⟩ := ent i u hkv
    refine next_key_item st (dx_get I hd) hdt hsz hen fun h' st' sb => ?_
    have I1 : Inv X pins σ H { s with heap := h' } := I.turned (t' := s.toks) (fun b ob hb e => (sb.2 b hb).trans e) f0 f1 f3 f4 f5
    obtain ⟨oi, e, c, dd⟩ := id st'
    exact ⟨en.key, rfl, go_of (s := { s with heap := h' }) e c dd (by decide) ⟨.ref u.2.1, H, I1, hkey, ⟨rfl, u, hkv, rfl⟩, st', fun b hb => (hf b hb).1⟩⟩
  done := by
    intro X hP hw hK hc i pins s σ H E I hf st hg
    subst hP hw hK
    obtain ⟨hd, hi⟩ := hg
    obtain ⟨f0, f1, f2, f3, f4, f5⟩ := hf it (by simp)
    obtain ⟨es', ep', hdt, hsz, ent⟩ := dx_ent wd
    obtain ⟨rfl, rfl⟩ := dict_ep hod hdt
    exact next_key_end (I.ok.hd hc) st (dx_get I hd) hdt hsz hi fun h' eb => ⟨rfl, I.turned (t' := s.toks) (fun b ob hb e => eb b ob hb e) f0 f1 f3 f4 f5⟩
  self := fun A i s Q E st h => by
    refine wpAny_pyIter_slot st.typeIs F.slot_dict_keyiterator_iter (wpAny_call_entry F.slot_dict_keyiterator_iter st.typeIs F.entry_dict_keyiterator_iter ?_ (F.args_dict_keyiterator_iter_1 _))
    show wpAny _ _ (ret (.ref it)) _ _ s
    exact wpAny_pure ⟨_, rfl, "dict_keyiterator", _, st.typeIs, F.slot_dict_keyiterator_next.lookup, h⟩
end
noncomputable def iXKeys (td : TE) : TI := fun σ H R => td σ H fun x H1 => ∃ d o us, x = .ref d ∧ H1 d = some (Dx d o us) ∧ DxO d o us ∧ R (ItX d o us) H1
theorem pi_xkeys {X : Cx} {tg e : Expr} {td : TE} (he : PE X e td) : PI X tg e (iXKeys td) := by
  refine ⟨fun pins s σ H R I h => ?_⟩
  refine thn (he.run pins s σ H _ I h) fun u s1 ⟨x, H1, I1, rx, d, o, us, ex, hd, wd, q⟩ => ?_
  subst ex
  obtain rfl : u = Value.ref d := rx
  obtain ⟨es, ep, hdt, hsz, ent⟩ := dx_ent wd
  refine iter_keys wd.2.1 (dx_get I1 hd) wd.2.2.1 hdt (pi_one (tk := s1.toks) I1 _ (turn_keysX _ wd hdt) ⟨_, Heap.get?_push_size _ rfl, rfl, ?_⟩ q)
  rw [hsz] <;> rfl
theorem walk_keysX {d : Addr} {o : Obj} {us : List (Int × Addr × V)} : Walk (ItX d o us) us.length (fun H => H d = some (Dx d o us)) (YAt (us.map fun u => .ref u.2.1)) :=
  ⟨fun _ _ hi q => ⟨q, hi⟩, fun _ q => ⟨q, Nat.le_refl _⟩, fun i H x H' _ _ ⟨h1, u, h2, h3⟩ => ⟨h1, by rw [List.getElem?_map, h2, h3]; rfl⟩⟩
theorem call_list_dX {X : Cx} (hc : X.calm = true) : CallR X (.type "list") (fun xs H Q => ∃ d o us, xs = [V.ref d] ∧ H d = some (Dx d o us) ∧ DxO d o us ∧ ∀ p, H p = none → Q (.ref p) (upd H p (.lst (us.map fun u => .ref u.2.1)))) := by
  intro pins s σ H xs us Q I r h
  obtain ⟨d, o, ws, rfl, hd, wd, q⟩ := h
  obtain ⟨u, rfl, rx⟩ := r.one
  cases rx
  obtain ⟨es, ep, hdt, hsz, ent⟩ := dx_ent wd
  have hz := wd.1
  refine PySem.W.kdl_call (kdl_raw wd.2.1 wd.2.2.1 hdt) (I.ok.hd hc) (dx_get I hd) (by omega) fun h' tk acc' c' kp e it => ?_
  have ea : acc'.toList = (ws.map fun u => u.2.1).map Value.ref := by
    have hl : acc'.toList.length = ws.length := by rw [Array.length_toList, it.1]; exact hsz
    apply List.ext_getElem?
    intro j
    rw [List.getElem?_map, List.getElem?_map]
    cases hj : acc'.toList[j]? with
    | none =>
      have h1 := List.getElem?_eq_none_iff.mp hj
      rw [List.getElem?_eq_none (by omega)]
      all_goals rfl
    | some v =>
      obtain ⟨en, hen, hv⟩ := it.2 j v (by rw [← Array.getElem?_toList]; exact hj)
      have hjl : j < ws.length := by
        have := (List.getElem?_eq_some_iff.mp hj).1
        omega
      obtain ⟨en', he', hk⟩ := ent j ws[j] (List.getElem?_eq_getElem hjl)
      rw [hen] at he'
      cases he'
      rw [List.getElem?_eq_getElem hjl, hv, hk]
      all_goals rfl
  have rv : Vals (ws.map fun u => V.ref u.2.1) acc'.toList := by
    rw [ea, show (ws.map fun u => V.ref u.2.1) = (ws.map fun u => u.2.1).map V.ref by rw [List.map_map]; rfl]
    exact vals_refs _
  refine ⟨.ref s.heap.objs.size, _, I.laid (t' := tk) (o := .lst (ws.map fun u => V.ref u.2.1)) kp (Nat.le_refl _) ?_, rfl, q _ (I.hok.fresh (Nat.le_refl _))⟩
  exact ⟨by rw [List.length_map]; exact hz, acc'.toList, c', rv, by rw [Array.toArray_toList]; exact e⟩
end DV
namespace DV
open PySem L2
noncomputable def keyD (d : D) : Option NestedKey := match dNk d with
  | some k => if nkOk k = true then some k else none
  | none => none
section
variable {K : PySem.W.Frag} {B H : Hp}
theorem keyD_nk {d : D} {k : NestedKey} (h : keyD d = some k) : nkOk k = true ∧ nkD k = d := by
  unfold keyD at h
  split at h
  · rename_i k' e
    split at h
    · rename_i hk
      cases h
      exact ⟨hk, (dNk_some d k e).1⟩
    · cases h
  · cases h
theorem keyD_of {d : D} {k : NestedKey} {y : V} (h : keyD d = some k) (r : Rp K B y d) (i : Same B H) : nkOk k = true ∧ KeyAt K H k y := by
  obtain ⟨h1, h2⟩ := keyD_nk h
  exact ⟨h1, keyAt_of i k y (nkOk_int h1) (by rw [h2]; exact r)⟩
theorem dtt_at {x : V} {ks : List NestedKey} {vs : List D} (r : Rp K B x (.dtt ks vs)) (i : Same B H) : ∃ a us o, x = .ref a ∧ B a = some (Dx a o us) ∧ DxO a o us ∧ DxAt K H a ks us ∧ RpA K B (us.map fun u => .ref u.2.1) (nkDs ks) ∧ RpA K B (us.map (·.2.2)) vs := by
  cases r with
  | dcT h1 h2 h3 h4 h5 h6 h7 => exact ⟨_, _, _, rfl, h1, h2, ⟨⟨_, i _ _ h1, h2⟩, h3, h4, h5, keyAts_of i _ _ (nkInts_all h5) h6⟩, h6, h7⟩
theorem atK_rel {k : NestedKey} {α : Type} (f : α → V) : ∀ {ks : List NestedKey} {us : List α} {vs : List D}, RpA K B (us.map f) vs → (∀ d, atK k ks vs = some d → ∃ u, atK k ks us = some u ∧ Rp K B (f u) d) ∧ (atK k ks vs = none → atK k ks us = none)
  | [], us, vs, _ => ⟨fun d h => by cases vs <;> simp [atK] at h, fun _ => by cases us <;> rfl⟩
  | k' :: ks, [], vs, r => by
    cases r
    exact ⟨fun d h => by simp [atK] at h, fun _ => rfl⟩
  | k' :: ks, u :: us, vs, r => by
    rw [List.map_cons] at r
    cases r with
    | cons r1 r2 =>
      obtain ⟨i1, i2⟩ := atK_rel (k := k) f (ks := ks) r2
      constructor
      · intro d h
        rw [atK] at h ⊢
        by_cases e : k' = k
        · rw [if_pos e] at h ⊢; cases h; exact ⟨u, rfl, r1⟩
        · rw [if_neg e] at h ⊢; exact i1 d h
      · intro h
        rw [atK] at h ⊢
        by_cases e : k' = k
        · rw [if_pos e] at h; cases h
        · rw [if_neg e] at h ⊢; exact i2 h
end
section
variable {X : Cx} {W : WX} {K : PySem.W.Frag}
noncomputable def oIxX (d e : D) : Res D := match d, keyD e with
  | .dtt ks vs, some k => match atK k ks vs with
    | some z => .ok z
    | none => .no
  | _, _ => .no
theorem ce_ixX (K : PySem.W.Frag) (hK : X.K = K) {a b : Expr} {pos : Pos} {ta tb : TE} {fa fb : DS → Res D} (hu : X.A.units + 64 < cLine) (ha : CE X W a ta fa) (hb : CE X W b tb fb) (hs : NoSl b := by exact fun _ _ => rfl) : CE X W (.Subscript a b pos) (tXGet K ta tb) (cBin oIxX fa fb) := by
  subst hK
  exact ⟨pe_xget hu ha.pe hb.pe hs, fun B0 H0 δ σ B H Q rel hp => by
    unfold cBin at hp
    refine ha.se B0 H0 δ σ B H _ rel ?_
    cases e : fa δ with
    | no => rw [e] at hp; exact hp
    | er x => rw [e] at hp; exact hp
    | ok d =>
      rw [e, Res.bind_ok] at hp
      intro v B1 H1 g1 r1
      refine hb.se B0 H0 δ σ B1 H1 _ (rel.mono g1) ?_
      cases e2 : fb δ with
      | no => rw [e2] at hp; exact hp
      | er x => rw [e2] at hp; exact fun c dx B' H' g' rp => hp c dx B' H' (g1.trans g') rp
      | ok d2 =>
        rw [e2, Res.bind_ok] at hp
        intro u B2 H2 g2 r2
        unfold oIxX at hp
        split at hp
        · rename_i ks vs k hk
          split at hp
          · rename_i z hz
            obtain ⟨p, us, o, rfl, _, _, dx, _, q⟩ := dtt_at (Rp.mono g2.b r1) g2.i
            obtain ⟨k1, k2⟩ := keyD_of hk r2 g2.i
            obtain ⟨w, hw, rw'⟩ := (atK_rel (k := k) (ks := ks) (fun u : Int × Addr × V => u.2.2) q).1 z hz
            exact ⟨p, ks, us, k, w, rfl, dx, k1, k2, hw, hp _ B2 H2 (g1.trans g2) rw'⟩
          · exact hp.elim
        · exact hp.elim⟩
noncomputable def oGetX (d e f : D) : Res D := match d, keyD e with
  | .dtt ks vs, some k => .ok ((atK k ks vs).getD f)
  | _, _ => .no
noncomputable def cGetX (fa fb fc : DS → Res D) : DS → Res D := fun δ => (fa δ).bind fun x => match x with
  | .dtt _ _ => (fb δ).bind fun y => (fc δ).bind fun z => oGetX x y z
  | _ => .no
theorem ce_getX (K : PySem.W.Frag) (hK : X.K = K) {o e f : Expr} {apos cpos : Pos} {ta tb tc : TE} {fa fb fc : DS → Res D} (hu : X.A.units + 64 < cLine) (ha : CE X W o ta fa) (hb : CE X W e tb fb) (hc : CE X W f tc fc) (hm : M2 X o "get" apos e f cpos := by exact ⟨rfl, rfl, rfl, rfl⟩) : CE X W (.Call (.Attribute o "get" apos) [e, f] [] cpos) (tXGet2 K ta tb tc) (cGetX fa fb fc) := by
  subst hK
  exact ⟨pe_xget2 hu ha.pe hb.pe hc.pe hm, fun B0 H0 δ σ B H Q rel hp => by
    unfold cGetX at hp
    refine ha.se B0 H0 δ σ B H _ rel ?_
    cases e : fa δ with
    | no => rw [e] at hp; exact hp
    | er x => rw [e] at hp; exact hp
    | ok d =>
      rw [e, Res.bind_ok] at hp
      intro v B1 H1 g1 r1
      split at hp
      case h_2 => exact hp.elim
      case h_1 ks vs =>
      obtain ⟨p, us0, o0, rfl, hb0, hd0, dx0, _, _⟩ := dtt_at r1 g1.i
      refine ⟨p, rfl, dx0.isX, ?_⟩
      refine hb.se B0 H0 δ σ B1 H1 _ (rel.mono g1) ?_
      cases e2 : fb δ with
      | no => rw [e2] at hp; exact hp
      | er x => rw [e2] at hp; exact fun c dx B' H' g' rp => hp c dx B' H' (g1.trans g') rp
      | ok d2 =>
        rw [e2, Res.bind_ok] at hp
        intro u B2 H2 g2 r2
        refine hc.se B0 H0 δ σ B2 H2 _ ((rel.mono g1).mono g2) ?_
        cases e3 : fc δ with
        | no => rw [e3] at hp; exact hp
        | er x => rw [e3] at hp; exact fun c dx B' H' g' rp => hp c dx B' H' ((g1.trans g2).trans g') rp
        | ok d3 =>
          rw [e3, Res.bind_ok] at hp
          intro w B3 H3 g3 r3
          unfold oGetX at hp
          split at hp
          · rename_i ks' vs' k heq hk
            cases heq
            obtain ⟨p', us, o, hp', _, _, dx, _, q⟩ := dtt_at (Rp.mono (g2.b.trans g3.b) r1) g3.i
            cases hp'
            obtain ⟨k1, k2⟩ := keyD_of hk (Rp.mono g3.b r2) g3.i
            refine ⟨ks, us, k, dx, k1, k2, hp _ B3 H3 ((g1.trans g2).trans g3) ?_⟩
            obtain ⟨a1, a2⟩ := atK_rel (k := k) (ks := ks) (fun u : Int × Addr × V => u.2.2) q
            cases ez : atK k ks vs with
            | none => rw [a2 ez]; exact r3
            | some z => obtain ⟨w', hw, rw'⟩ := a1 z ez; rw [hw]; exact rw'
          · exact hp.elim⟩
noncomputable def itemsX : D → Res (List D)
  | .dtt ks _ => .ok (nkDs ks)
  | _ => .no
noncomputable def cKeysX (f : DS → Res D) : DS → Res (List D) := fun δ => (f δ).bind itemsX
theorem nkDs_len : ∀ ks : List NestedKey, (nkDs ks).length = ks.length
  | [] => by rw [nkDs]; rfl
  | k :: ks => by rw [nkDs, List.length_cons, List.length_cons, nkDs_len ks]
theorem ci_xkeys {tg e : Expr} {t : TE} {f : DS → Res D} (h : CE X W e t f) : CI X W tg e (iXKeys t) (cKeysX f) :=
  ⟨pi_xkeys h.pe, fun B0 H0 δ σ B H R rel hp => by
    unfold cKeysX at hp
    refine h.se B0 H0 δ σ B H _ rel ?_
    cases e : f δ with
    | no => rw [e] at hp; exact hp
    | er x => rw [e] at hp; exact hp
    | ok d =>
      rw [e, Res.bind_ok] at hp
      intro v B1 H1 g1 r1
      unfold itemsX at hp
      split at hp
      · rename_i ks vs
        obtain ⟨p, us, o, rfl, hb, hd, dx, kq, q⟩ := dtt_at r1 g1.i
        refine ⟨p, o, us, rfl, g1.i _ _ hb, hd, ?_⟩
        have hl : (nkDs ks).length = us.length := by rw [nkDs_len]; exact dx.len
        refine hp _ B1 H1 _ _ g1 (by rw [hl]; exact walk_keysX) (fun H2 s2 => s2 _ _ hb) fun i d B2 H2 x H3 hi s1 s2 y => ?_
        obtain ⟨rfl, hx⟩ := y
        refine ⟨B2, Grow.refl s2, ?_⟩
        obtain ⟨w, h1, h2⟩ := (RpA.mono s1 kq).get hi
        rw [hx] at h1
        cases h1
        exact h2
      · exact hp.elim⟩
noncomputable def gListX : List D → Res D
  | [.dtt ks _] => .ok (.lst (nkDs ks))
  | _ => .no
theorem k_listX (hc : X.calm = true := by rfl) : OKC X (.type "list") (fun xs H Q => ∃ d o us, xs = [V.ref d] ∧ H d = some (Dx d o us) ∧ DxO d o us ∧ ∀ p, H p = none → Q (.ref p) (upd H p (.lst (us.map fun u => .ref u.2.1)))) gListX := ⟨call_list_dX hc, fun vs ds B H Q i r h => by
  unfold gListX at h
  split at h
  · cases r with
    | cons r1 r2 =>
      cases r2
      obtain ⟨p, us, o, rfl, hb, hd, dx, kq, q⟩ := dtt_at r1 i
      exact ⟨p, o, us, rfl, i _ _ hb, hd, fun l hl => h _ _ _ (Grow.new i hl) (.lst (SqL.of upd_same) (kq.mono (Grow.new (K := X.K) i hl).b))⟩
  · exact h.elim, fun ds x => by unfold gListX; split <;> simp⟩
end
end DV
namespace DV
open PySem L2
mutual
noncomputable def D.pl : D → Bool
  | .v _ => true
  | .lst xs => D.plA xs
  | .tup xs => D.plA xs
  | .dct _ _ => false
  | .dlk _ _ => false
  | .ins _ _ _ => false
  | .dtt _ _ => false
  | .ptp _ => false
  | .wor _ _ => false
noncomputable def D.plA : List D → Bool
  | [] => true
  | d :: ds => d.pl && D.plA ds
end
noncomputable def NK.noSq : NK → Bool
  | .ls => false
  | .tp => false
  | _ => true
mutual
noncomputable def T.noSq : T → Bool
  | .im _ => true
  | .nd k ts => k.noSq && T.noSqA ts
noncomputable def T.noSqA : List T → Bool
  | [] => true
  | t :: ts => t.noSq && T.noSqA ts
end
noncomputable def SK : HO → Prop
  | .lst _ => True
  | .tup _ => True
  | .frz _ (.ins _ _ _) => False
  | .frz _ _ => True
  | .xd _ => True
  | _ => False
noncomputable def Exn.pl (x : Exn) : Bool := D.plA (x.fs.map (·.2))
section
variable {K : PySem.W.Frag} {B B' H : Hp}
theorem cell_noSq {k : NK} {p : Addr} {vs : List V} {fp : List Addr} (h : cell K H p vs fp k) (hk : k.noSq = true) : ∀ q ∈ fp, ∃ u, H q = some u ∧ ¬ SK u := by
  cases k with
  | ls => cases hk
  | tp => cases hk
  | dc ks => obtain ⟨us, h, _, _, rfl⟩ := h; intro q hq; rw [List.mem_singleton.mp hq]; exact ⟨_, h, fun z => z⟩
  | dt ks => obtain ⟨o, us, h, _, _, rfl⟩ := h; intro q hq; rw [List.mem_singleton.mp hq]; exact ⟨_, h, fun z => z⟩
  | ob c ns =>
    obtain ⟨C, dx, fs, h1, h2, _, _, _, rfl⟩ := h
    intro q hq
    rcases List.mem_cons.mp hq with rfl | hq
    · exact ⟨_, h1, fun z => z⟩
    · rw [List.mem_singleton.mp hq]; exact ⟨_, h2, fun z => z⟩
mutual
theorem RT.noSq : ∀ (t : T) (v : V), RT K B H t v → t.noSq = true → ∀ q, FT K H t v q → ∃ u, H q = some u ∧ ¬ SK u
  | .im d, v, _, _, q, h => by rw [FT] at h; exact h.elim
  | .nd k ts, v, h, hn, q, hq => by
    rw [RT] at h
    obtain ⟨p, vs, fp, rfl, hc, hr, _⟩ := h
    rw [T.noSq, Bool.and_eq_true] at hn
    rw [FT] at hq
    obtain ⟨p', vs', fp', z, hc2, hq⟩ := hq
    cases z
    obtain ⟨rfl, rfl⟩ := cell_one hc hc2
    rcases hq with hq | hq
    · exact cell_noSq hc hn.1 q hq
    · exact RTA.noSq ts _ hr hn.2 q hq
theorem RTA.noSq : ∀ (ts : List T) (vs : List V), RTA K B H ts vs → T.noSqA ts = true → ∀ q, FTA K H ts vs q → ∃ u, H q = some u ∧ ¬ SK u
  | [], _, _, _, q, h => by rw [FTA] at h; exact h.elim
  | _ :: _, [], h, _, _, _ => by rw [RTA] at h; exact h.elim
  | t :: ts, v :: vs, h, hn, q, hq => by
    rw [RTA] at h
    rw [T.noSqA, Bool.and_eq_true] at hn
    rw [FTA] at hq
    rcases hq with hq | hq
    · exact RT.noSq t v h.1 hn.1 q hq
    · exact RTA.noSq ts vs h.2.1 hn.2 q hq
end
mutual
theorem Rp.plain (e : ∀ a u, SK u → B a = some u → B' a = some u) : ∀ {v : V} {d : D}, Rp K B v d → d.pl = true → Rp K B' v d
  | _, _, .v x, _ => .v x
  | _, _, .lst h r, hd => by
    rw [D.pl] at hd
    refine .lst ?_ (RpA.plain e r hd)
    rcases h with (h | ⟨o, h⟩) | h
    · exact .inl (.inl (e _ _ trivial h))
    · exact .inl (.inr ⟨o, e _ _ trivial h⟩)
    · exact .inr h
  | _, _, .tup h r, hd => by
    rw [D.pl] at hd
    refine .tup ?_ (RpA.plain e r hd)
    rcases h with (h | ⟨o, h⟩) | h
    · exact .inl (.inl (e _ _ trivial h))
    · exact .inl (.inr ⟨o, e _ _ trivial h⟩)
    · exact .inr h
  | _, _, .dct _ _, hd => by rw [D.pl] at hd; cases hd
  | _, _, .dcT _ _ _ _ _ _ _, hd => by rw [D.pl] at hd; cases hd
  | _, _, .ins _ _ _ _, hd => by rw [D.pl] at hd; cases hd
  | _, _, .ptp _ _, hd => by rw [D.pl] at hd; cases hd
  | _, _, .wor _ _ _ _, hd => by rw [D.pl] at hd; cases hd
  | _, _, .dlk _ _, hd => by rw [D.pl] at hd; cases hd
theorem RpA.plain (e : ∀ a u, SK u → B a = some u → B' a = some u) : ∀ {vs : List V} {ds : List D}, RpA K B vs ds → D.plA ds = true → RpA K B' vs ds
  | _, _, .nil, _ => .nil
  | _, _, .cons h r, hd => by
    rw [D.plA, Bool.and_eq_true] at hd
    exact .cons (Rp.plain e h hd.1) (RpA.plain e r hd.2)
end
theorem RpX.plain {c : Value} {dx : Option Addr} {x : Exn} (e : ∀ a u, SK u → B a = some u → B' a = some u) (h : RpX K B c dx x) (hx : x.pl = true) : RpX K B' c dx x := by
  obtain ⟨h1, d, us, h2, h3, h4, h5⟩ := h
  exact ⟨h1, d, us, h2, e _ _ trivial h3, h4, RpA.plain e h5 hx⟩
end
noncomputable def obOk (δ : DS) (i : Nat) : Bool := match δ[i]? with
  | some (some (.tr _ k ts)) => (T.nd k ts).noSq
  | some (some (.im _)) => true
  | _ => false
noncomputable def lend (i : Nat) (f : DS → Res D) : DS → Res D := fun δ => if obOk δ i = true then match f (fz i δ) with
  | .ok d => if d.pl = true then .ok d else .no
  | .er x => if x.pl = true then .er x else .no
  | .no => .no else .no
noncomputable def lendT (i : Nat) (f : DS → Res Bool) : DS → Res Bool := fun δ => if obOk δ i = true then match f (fz i δ) with
  | .ok b => .ok b
  | .er x => if x.pl = true then .er x else .no
  | .no => .no else .no
section
variable {X : Cx} {W : WX} {K : PySem.W.Frag}
theorem TK.sk {u : HO} (h : TK u) : SK u := by
  rcases h with ⟨_, rfl⟩ | ⟨_, _, rfl⟩ <;> trivial
theorem SK.noW {u : HO} (h : SK u) : ∀ b C dx fs, u ≠ .frz b (.ins C dx fs) := fun b C dx fs z => by
  subst z
  exact h
theorem Rel.lend {B0 : Hp} {H0 : Org} {B H : Hp} {σ : L2.St} {δ : DS} (r : Rel K B0 H0 B H σ δ) (i : Nat) (hk : obOk δ i = true) : ∃ B', Same B B' ∧ Rel K B0 H0 B' H σ (DV.fz i δ) ∧ ∀ a u, B' a = some u → B a = some u ∨ (H a = some u ∧ Kind u ∧ ¬ SK u) := by
  unfold DV.fz obOk at *
  split
  · rename_i ds e
    rw [e] at hk
    cases hk
  · rename_i m k ts e
    rw [e] at hk
    obtain ⟨v, h1, hsr⟩ := r.sl i _ e
    obtain ⟨sb, r'⟩ := r.freezeT e h1
    refine ⟨_, sb, r', fun a u hx => ?_⟩
    unfold fzH at hx
    split at hx
    · rename_i hf
      obtain ⟨_, _, u1, hu1, kd⟩ := hsr.new a hf
      obtain ⟨u2, hu2, n1⟩ := RT.noSq _ _ hsr.1 hk a hf
      rw [hx] at hu1 hu2
      cases hu1
      cases hu2
      exact .inr ⟨hx, kd, n1⟩
    · exact .inl hx
  · exact ⟨B, Same.refl _, r, fun _ _ h => .inl h⟩
theorem Grow.unlend {B B' B2 H H2 : Hp} (i : Same B H) (nB : NoT B) (s : Same B B') (new : ∀ a u, B' a = some u → B a = some u ∨ (H a = some u ∧ Kind u ∧ ¬ SK u)) (g : Grow K B' H B2 H2) : ∃ B3, Grow K B H B3 H2 ∧ ∀ a u, SK u → B2 a = some u → B3 a = some u := by
  obtain ⟨g3, _, k⟩ := Grow.unlendT i nB s (fun a u q => (new a u q).imp id fun z => ⟨z.1, z.2.1, fun y => z.2.2 y.sk⟩) g
  exact ⟨_, g3, fun a u hu q => k a u hu.noW (fun z => (new a u z).elim id fun y => absurd hu y.2.2) q⟩
theorem se_lend (i : Nat) {t : TE} {f : DS → Res D} (h : SE K W t f) : SE K W t (lend i f) := fun B0 H0 δ σ B H Q rel hp => by
  unfold DV.lend at hp
  split at hp
  case isFalse => exact hp.elim
  case isTrue hk =>
  obtain ⟨B', s, r, keep⟩ := rel.lend i hk
  refine h B0 H0 _ σ B' H Q r ?_
  cases e1 : f (DV.fz i δ) with
  | no => rw [e1] at hp; exact hp.elim
  | er x =>
    rw [e1] at hp
    dsimp only at hp
    split at hp
    case isFalse => exact hp.elim
    case isTrue hx =>
    intro c dx B2 H2 g rp
    obtain ⟨B3, g3, k3⟩ := Grow.unlend rel.g.i (rel.g.tb rel.nt).nt s keep g
    exact hp c dx B3 H2 g3 (rp.plain k3 hx)
  | ok d =>
    rw [e1] at hp
    dsimp only at hp
    split at hp
    case isFalse => exact hp.elim
    case isTrue hx =>
    intro v B2 H2 g rp
    obtain ⟨B3, g3, k3⟩ := Grow.unlend rel.g.i (rel.g.tb rel.nt).nt s keep g
    exact hp v B3 H2 g3 (rp.plain k3 hx)
theorem st_lend (i : Nat) {t : TT} {f : DS → Res Bool} (h : ST K W t f) : ST K W t (lendT i f) := fun B0 H0 δ σ B H Q rel hp => by
  unfold DV.lendT at hp
  split at hp
  case isFalse => exact hp.elim
  case isTrue hk =>
  obtain ⟨B', s, r, keep⟩ := rel.lend i hk
  refine h B0 H0 _ σ B' H Q r ?_
  cases e1 : f (DV.fz i δ) with
  | no => rw [e1] at hp; exact hp.elim
  | er x =>
    rw [e1] at hp
    dsimp only at hp
    split at hp
    case isFalse => exact hp.elim
    case isTrue hx =>
    intro c dx B2 H2 g rp
    obtain ⟨B3, g3, k3⟩ := Grow.unlend rel.g.i (rel.g.tb rel.nt).nt s keep g
    exact hp c dx B3 H2 g3 (rp.plain k3 hx)
  | ok d =>
    rw [e1] at hp
    intro B2 H2 g
    obtain ⟨B3, g3, k3⟩ := Grow.unlend rel.g.i (rel.g.tb rel.nt).nt s keep g
    exact hp B3 H2 g3
theorem ce_lend (i : Nat) {e : Expr} {t : TE} {f : DS → Res D} (h : CE X W e t f) : CE X W e t (lend i f) := ⟨h.pe, se_lend i h.se⟩
theorem ct_lend (i : Nat) {e : Expr} {t : TT} {f : DS → Res Bool} (h : CT X W e t f) : CT X W e t (lendT i f) := ⟨h.pt, st_lend i h.st⟩
end
end DV
namespace DV
open PySem L2
inductive RM (α : Type) where
  | ok (a : α) (δ : DS)
  | er (x : Exn) (δ : DS)
  | no
noncomputable def RM.bind {α β : Type} : RM α → (α → DS → RM β) → RM β
  | .ok a δ, f => f a δ
  | .er x δ, _ => .er x δ
  | .no, _ => .no
@[simp] theorem RM.bind_ok {α β : Type} (a : α) (δ : DS) (f : α → DS → RM β) : (RM.ok a δ).bind f = f a δ := rfl
@[simp] theorem RM.bind_er {α β : Type} (x : Exn) (δ : DS) (f : α → DS → RM β) : (RM.er x δ : RM α).bind f = .er x δ := rfl
@[simp] theorem RM.bind_no {α β : Type} (f : α → DS → RM β) : (RM.no : RM α).bind f = .no := rfl
noncomputable def Res.rm {α : Type} (r : Res α) (δ : DS) : RM α := match r with
  | .ok a => .ok a δ
  | .er x => .er x δ
  | .no => .no
@[simp] theorem Res.rm_ok {α : Type} (a : α) (δ : DS) : (Res.ok a).rm δ = .ok a δ := rfl
@[simp] theorem Res.rm_er {α : Type} (x : Exn) (δ : DS) : (Res.er x : Res α).rm δ = .er x δ := rfl
@[simp] theorem Res.rm_no {α : Type} (δ : DS) : (Res.no : Res α).rm δ = .no := rfl
section
variable (K : PySem.W.Frag)
noncomputable def PostEM (B0 : Hp) (H0 : Org) (B : Hp) (σ : L2.St) (W : WX) (Q : VK) : RM D → Prop
  | .ok d δ => ∀ v B' H', Same B B' → Rel K B0 H0 B' H' σ δ → Rp K B' v d → Q v H'
  | .er x δ => ∀ c dx B' H', Same B B' → Rel K B0 H0 B' H' σ δ → RpX K B' c dx x → W c dx σ H'
  | .no => False
noncomputable def PostAM (B0 : Hp) (H0 : Org) (B : Hp) (σ : L2.St) (W : WX) (Q : List V → Hp → Prop) : RM (List D) → Prop
  | .ok ds δ => ∀ vs B' H', Same B B' → Rel K B0 H0 B' H' σ δ → RpA K B' vs ds → Q vs H'
  | .er x δ => ∀ c dx B' H', Same B B' → Rel K B0 H0 B' H' σ δ → RpX K B' c dx x → W c dx σ H'
  | .no => False
noncomputable def PostTM (B0 : Hp) (H0 : Org) (B : Hp) (σ : L2.St) (W : WX) (Q : Bool → Hp → Prop) : RM Bool → Prop
  | .ok b δ => ∀ B' H', Same B B' → Rel K B0 H0 B' H' σ δ → Q b H'
  | .er x δ => ∀ c dx B' H', Same B B' → Rel K B0 H0 B' H' σ δ → RpX K B' c dx x → W c dx σ H'
  | .no => False
noncomputable def SEM (W : WX) (t : TE) (f : DS → RM D) : Prop := ∀ B0 H0 δ σ B H (Q : VK), Rel K B0 H0 B H σ δ → PostEM K B0 H0 B σ W Q (f δ) → t σ H Q
noncomputable def SAM (W : WX) (t : TA) (f : DS → RM (List D)) : Prop := ∀ B0 H0 δ σ B H (Q : List V → Hp → Prop), Rel K B0 H0 B H σ δ → PostAM K B0 H0 B σ W Q (f δ) → t σ H Q
noncomputable def STM (W : WX) (t : TT) (f : DS → RM Bool) : Prop := ∀ B0 H0 δ σ B H (Q : Bool → Hp → Prop), Rel K B0 H0 B H σ δ → PostTM K B0 H0 B σ W Q (f δ) → t σ H Q
end
structure CEM (X : Cx) (W : WX) (e : Expr) (t : TE) (f : DS → RM D) : Prop where
  pe : PE X e t
  se : SEM X.K W t f
structure CAM (X : Cx) (W : WX) (es : List Expr) (t : TA) (f : DS → RM (List D)) : Prop where
  pa : PA X es t
  sa : SAM X.K W t f
  ln : ∀ δ ds δ', f δ = .ok ds δ' → ds.length = es.length
structure CTM (X : Cx) (W : WX) (e : Expr) (t : TT) (f : DS → RM Bool) : Prop where
  pt : PT X e t
  st : STM X.K W t f
section
variable {X : Cx} {W : WX} {K : PySem.W.Frag} {B0 : Hp} {H0 : Org} {B B1 : Hp} {σ : L2.St}
noncomputable def cem (f : DS → Res D) : DS → RM D := fun δ => (f δ).rm δ
theorem cem_of {e : Expr} {t : TE} {f : DS → Res D} (h : CE X W e t f) : CEM X W e t (cem f) := ⟨h.pe, fun B0 H0 δ σ B H Q rel hp => by
  unfold cem at hp
  refine h.se B0 H0 δ σ B H Q rel ?_
  cases e : f δ with
  | no => rw [e] at hp; exact hp
  | er x => rw [e] at hp; exact fun c dx B' H' g rp => hp c dx B' H' g.b (rel.mono g) rp
  | ok d => rw [e] at hp; exact fun v B' H' g rp => hp v B' H' g.b (rel.mono g) rp⟩
noncomputable def caNilM : DS → RM (List D) := fun δ => .ok [] δ
noncomputable def caConsM (f : DS → RM D) (g : DS → RM (List D)) : DS → RM (List D) := fun δ => (f δ).bind fun d δ1 => (g δ1).bind fun ds δ2 => .ok (d :: ds) δ2
theorem cam_nil : CAM X W [] tNil caNilM := ⟨pa_nil, fun B0 H0 δ σ B H Q rel hp => hp [] B H (Same.refl _) rel .nil, fun δ ds δ' h => by cases h; rfl⟩
theorem cam_cons {e : Expr} {es : List Expr} {te : TE} {t : TA} {f : DS → RM D} {g : DS → RM (List D)} (h : CEM X W e te f) (hr : CAM X W es t g) (hs : starEach (e :: es) X.env = (false, eval e X.env) :: starEach es X.env := by rfl) : CAM X W (e :: es) (tCons te t) (caConsM f g) :=
  ⟨pa_cons h.pe hr.pa hs, fun B0 H0 δ σ B H Q rel hp => by
    unfold caConsM at hp
    refine h.se B0 H0 δ σ B H _ rel ?_
    cases e : f δ with
    | no => rw [e] at hp; exact hp
    | er x δ1 => rw [e] at hp; exact hp
    | ok d δ1 =>
      rw [e, RM.bind_ok] at hp
      intro v B1 H1 s1 r1 rp
      refine hr.sa B0 H0 δ1 σ B1 H1 _ r1 ?_
      cases e2 : g δ1 with
      | no => rw [e2] at hp; exact hp
      | er x δ2 => rw [e2] at hp; exact fun c dx B' H' s' r rp => hp c dx B' H' (s1.trans s') r rp
      | ok ds δ2 =>
        rw [e2, RM.bind_ok] at hp
        exact fun vs B2 H2 s2 r2 rr => hp (v :: vs) B2 H2 (s1.trans s2) r2 (.cons (rp.mono s2) rr), fun δ ds δ' q => by
    unfold caConsM at q
    cases e : f δ with
    | no => rw [e] at q; cases q
    | er x δ1 => rw [e] at q; cases q
    | ok d δ1 =>
      rw [e, RM.bind_ok] at q
      cases e2 : g δ1 with
      | no => rw [e2] at q; cases q
      | er x δ2 => rw [e2] at q; cases q
      | ok ds' δ2 =>
        rw [e2, RM.bind_ok] at q
        cases q
        rw [List.length_cons, List.length_cons, hr.ln δ1 ds' δ' e2]⟩
noncomputable def cFnM (F : List D → Res D) (f : DS → RM (List D)) : DS → RM D := fun δ => (f δ).bind fun ds δ1 => (F ds).rm δ1
theorem sem_fn {n : Nat} {F : List D → Res D} {t : TA} {f : DS → RM (List D)} (hl : ∀ δ ds δ', f δ = .ok ds δ' → ds.length = n) (h : SAM K W t f) : SEM K W (tCallSD (spD K n F) [] (WE W) t) (cFnM F f) := fun B0 H0 δ σ B H Q rel hp => by
  unfold cFnM at hp
  refine h B0 H0 δ σ B H _ rel ?_
  cases e : f δ with
  | no => rw [e] at hp; exact hp
  | er x δ1 => rw [e] at hp; exact hp
  | ok ds δ1 =>
    rw [e, RM.bind_ok] at hp
    intro vs B1 H1 s1 r1 rr
    refine ⟨by rw [List.append_nil, rr.length]; exact hl δ ds δ1 e, ds, B1, r1.g.i, by simpa using rr, ⟨fun p hp' => r1.g.t p (r1.tk p hp'), r1.g.tb r1.nt⟩, ?_⟩
    cases e2 : F ds with
    | no => rw [e2] at hp; exact hp
    | er x => rw [e2] at hp; exact fun c dx B' H' g' rp => hp c dx B' H' (s1.trans g'.b) (r1.mono g') rp
    | ok z => rw [e2] at hp; exact fun v B' H' g' rp => hp v B' H' (s1.trans g'.b) (r1.mono g') rp
theorem cem_f (K : PySem.W.Frag) (hK : X.K = K) {k n : Nat} {f : Addr} {fd : FuncData} {ps : List Str} {F : List D → Res D} {x : Str} {p pos : Pos} {e : Expr} {es : List Expr} {t : TA} {fa : DS → RM (List D)}
    (G : FnOk X.prog X.w K X.mg X.base (L2.CX X.prog X.w) k f fd ps (spD K n F)) (hr : Room k X.A) (hm : X.mg x = some (.ref f)) (hk : PySem.W.keepIn K (.ref f) = true) (hb : Binds K fd ps []) (tk : Takes X W)
    (ha : CAM X W (e :: es) t fa) (hn : (e :: es).length = n := by rfl) (hg : Gl X x := by rfl) (hdb : (x == ("__debug__" : Str)) = false := by decide) (he : starEach (e :: es) X.env = (false, eval e X.env) :: starEach es X.env := by rfl) (hpl : (backTo pos (starEach es X.env)).any (·.1) = false := by rfl) :
    CEM X W (.Call (.Name x p) (e :: es) [] pos) (tCallSD (spD K n F) [] (WE W) t) (cFnM F fa) := by
  subst hK
  exact ⟨pe_callSD G hr hg hm hk hb .nil (fun σ => passAt tk σ) ha.pa hdb he hpl, sem_fn (fun δ ds δ' h => by rw [ha.ln δ ds δ' h]; exact hn) ha.sa⟩
noncomputable def cTestM (f : DS → RM D) : DS → RM Bool := fun δ => (f δ).bind fun d δ1 => (asB d).rm δ1
theorem ctm_val {e : Expr} {t : TE} {f : DS → RM D} (h : CEM X W e t f) (he : ∀ whole, isTrue e X.env whole = (do let v ← whole; standAt e.pos; holding [v] (truthy v)) := by intro _; rfl) : CTM X W e (tB t) (cTestM f) :=
  ⟨pt_val h.pe he, fun B0 H0 δ σ B H Q rel hp => by
    unfold cTestM at hp
    refine h.se B0 H0 δ σ B H _ rel ?_
    cases e : f δ with
    | no => rw [e] at hp; exact hp
    | er x δ1 => rw [e] at hp; exact hp
    | ok d δ1 =>
      rw [e, RM.bind_ok] at hp
      intro v B1 H1 s1 r1 rp
      unfold asB at hp
      split at hp
      · cases rp
        exact ⟨_, rfl, hp B1 H1 s1 r1⟩
      · exact hp.elim⟩
noncomputable def cNotM (f : DS → RM Bool) : DS → RM Bool := fun δ => (f δ).bind fun b δ1 => .ok (!b) δ1
theorem ctm_not {a : Expr} {pos : Pos} {t : TT} {f : DS → RM Bool} (h : CTM X W a t f) : CTM X W (.UnaryOp .Not a pos) (tNot t) (cNotM f) := ⟨pt_not h.pt, fun B0 H0 δ σ B H Q rel hp => by
  unfold cNotM at hp
  refine h.st B0 H0 δ σ B H _ rel ?_
  cases e : f δ with
  | no => rw [e] at hp; exact hp
  | er x δ1 => rw [e] at hp; exact hp
  | ok b δ1 => rw [e, RM.bind_ok] at hp; exact hp⟩
noncomputable def stM {α : Type} (r : RM α) (k : α → DS → Fl) : Fl := match r with
  | .ok a δ => k a δ
  | .er x δ => .rs x δ
  | .no => .no
@[simp] theorem stM_ok {α : Type} (a : α) (δ : DS) (k : α → DS → Fl) : stM (.ok a δ) k = k a δ := rfl
@[simp] theorem stM_er {α : Type} (x : Exn) (δ : DS) (k : α → DS → Fl) : stM (.er x δ : RM α) k = .rs x δ := rfl
@[simp] theorem stM_no {α : Type} (k : α → DS → Fl) : stM (.no : RM α) k = .no := rfl
noncomputable def cIfM (f : DS → RM Bool) (g h : DS → Fl) : DS → Fl := fun δ => stM (f δ) fun b δ1 => if b = true then g δ1 else h δ1
theorem cs_ifM {c : Expr} {b e : List Stmt} {pos : Pos} {tc : TT} {tb te : TS} {f : DS → RM Bool} {g h : DS → Fl} (hc : CTM X W c tc f) (hb : CSs X W b tb g) (he : CSs X W e te h) : CS X W (.If c b e pos) (tIfS tc tb te) (cIfM f g h) :=
  ⟨ps_if hc.pt hb.ps he.ps, fun B0 H0 δ σ B H E rel hp => by
    unfold cIfM at hp
    refine hc.st B0 H0 δ σ B H _ rel ?_
    cases e1 : f δ with
    | no => rw [e1] at hp; exact hp
    | er x δ1 => rw [e1] at hp; exact fun c dx B' H' s r rp => hp c dx σ B' H' s r rp
    | ok b δ1 =>
      rw [e1, stM_ok] at hp
      intro B1 H1 s1 r1
      cases b with
      | true => rw [if_pos rfl] at hp ⊢; exact hb.ss B0 H0 δ1 σ B1 H1 E r1 (postS_mono s1 hp)
      | false => rw [if_neg Bool.false_ne_true] at hp ⊢; exact he.ss B0 H0 δ1 σ B1 H1 E r1 (postS_mono s1 hp)⟩
noncomputable def cDropM (f : DS → RM D) : DS → Fl := fun δ => stM (f δ) fun _ δ1 => .nx δ1
theorem cs_exprM {e : Expr} {pos : Pos} {t : TE} {f : DS → RM D} (h : CEM X W e t f) (hs : swapsWith e none pos.line X.env = pure false := by rfl) : CS X W (.Expr e pos) (tDrop t) (cDropM f) :=
  ⟨ps_expr h.pe hs, fun B0 H0 δ σ B H E rel hp => by
    unfold cDropM at hp
    refine h.se B0 H0 δ σ B H _ rel ?_
    cases e1 : f δ with
    | no => rw [e1] at hp; exact hp
    | er x δ1 => rw [e1] at hp; exact fun c dx B' H' s r rp => hp c dx σ B' H' s r rp
    | ok d δ1 =>
      rw [e1, stM_ok] at hp
      exact fun v B1 H1 s1 r1 rp => hp σ B1 H1 s1 r1⟩
noncomputable def cRetM (f : DS → RM D) : DS → Fl := fun δ => stM (f δ) fun d δ1 => .ro d δ1
theorem cs_retM {e : Expr} {pos : Pos} {t : TE} {f : DS → RM D} (h : CEM X W e t f) : CS X W (.Return (some e) pos) (tRet t) (cRetM f) :=
  ⟨ps_ret h.pe, fun B0 H0 δ σ B H E rel hp => by
    unfold cRetM at hp
    refine h.se B0 H0 δ σ B H _ rel ?_
    cases e1 : f δ with
    | no => rw [e1] at hp; exact hp
    | er x δ1 => rw [e1] at hp; exact fun c dx B' H' s r rp => hp c dx σ B' H' s r rp
    | ok d δ1 =>
      rw [e1, stM_ok] at hp
      exact fun v B1 H1 s1 r1 rp => hp v σ B1 H1 s1 r1 rp⟩
end
end DV
namespace DV
open PySem L2
inductive MR where
  | ok (d : D) (t : T)
  | er (x : Exn) (t : T)
  | no
open Classical in
noncomputable def lessF (H : Hp) (F : Addr → Prop) : Hp := fun a => if F a then none else H a
section
variable {K : PySem.W.Frag} {B H B' H' : Hp} {F : Addr → Prop}
theorem lessF_same : Same (lessF H F) H := fun a o e => by
  unfold lessF at e
  split at e
  · cases e
  · exact e
theorem lessF_out {a : Addr} (h : ¬ F a) : lessF H F a = H a := by unfold lessF; exact if_neg h
theorem lessF_in {a : Addr} (h : F a) : lessF H F a = none := by unfold lessF; exact if_pos h
theorem lessF_none {a : Addr} (h : lessF H F a = none) : F a ∨ H a = none := by
  by_cases hf : F a
  · exact .inl hf
  · rw [lessF_out hf] at h; exact .inr h
theorem tab_lessF {P : Addr} {q : Nat → Nat → Str} (hF : ∀ a, F a → ∃ u, H a = some u ∧ Kind u) (h : NdefX.TabN H P q) : NdefX.TabN (lessF H F) P q := by
  obtain ⟨ps, h1, h2, h3⟩ := h
  have n1 : ¬ F P := fun z => by
    obtain ⟨u, hu, k⟩ := hF P z
    rw [h1] at hu
    exact k.tbl ps (Option.some.inj hu).symm
  refine ⟨ps, by rw [lessF_out n1]; exact h1, h2, fun pos cv hc => ?_⟩
  obtain ⟨c, e1, e2⟩ := h3 pos cv hc
  have n2 : ¬ F c := fun z => by
    obtain ⟨u, hu, k⟩ := hF c z
    rw [e2] at hu
    exact k.code _ _ (Option.some.inj hu).symm
  exact ⟨c, e1, by rw [lessF_out n2]; exact e2⟩
end
theorem TBt.less {K : PySem.W.Frag} {B H : Hp} {F : Addr → Prop} {τ : Addr → D × D} (h : TBt K τ B H) (hF : ∀ a, F a → ∃ u, H a = some u ∧ Kind u) : TBt K τ B (lessF H F) := h.grow (Same.refl _) (fun _ _ q => .inl q) fun a o us q => by
  have : ¬ F a := fun z => by
    obtain ⟨u, hu, k⟩ := hF a z
    rw [q] at hu
    exact k.noMX (Option.some.inj hu).symm
  rw [lessF_out this]
  exact q
noncomputable def PostM (K : PySem.W.Frag) (B H : Hp) (F : Addr → Prop) (v0 : V) (Q : VK) (E : XK) : MR → Prop
  | .ok d t => ∀ v B' H', Grow K B (lessF H F) B' H' → Rp K B' v d → RT K B' H' t v0 → (∀ q, FT K H' t v0 q → (F q ∨ H q = none) ∧ B' q = none) → Q v H'
  | .er x t => ∀ c dx B' H', Grow K B (lessF H F) B' H' → RpX K B' c dx x → RT K B' H' t v0 → (∀ q, FT K H' t v0 q → (F q ∨ H q = none) ∧ B' q = none) → E c dx H'
  | .no => False
noncomputable def spM (K : PySem.W.Frag) (n j : Nat) (F : NK → List T → List D → MR) : Sp := fun vs H Q E => vs.length = n ∧ ∃ v0 k ts ds B, vs[j]? = some v0 ∧ Same B H ∧ RT K B H (.nd k ts) v0 ∧ (∀ q, FT K H (.nd k ts) v0 q → B q = none) ∧ RpA K B (vs.set j .non) ds ∧ ((∀ p ∈ tabsOf K, NdefX.TabN H p lamAt) ∧ TB K B H) ∧ PostM K B H (FT K H (.nd k ts) v0) v0 Q E (F k ts ds)
noncomputable def ownAt (δ : DS) (j : Nat) : Option T := match δ[j]? with
  | some (some (.tr true k ts)) => some (.nd k ts)
  | _ => none
noncomputable def flM (j : Nat) : Fl → MR
  | .ro d δ => match ownAt δ j with
    | some t => .ok d t
    | none => .no
  | .nx δ => match ownAt δ j with
    | some t => .ok .non t
    | none => .no
  | .rs x δ => match ownAt δ j with
    | some t => .er x t
    | none => .no
  | _ => .no
noncomputable def defM (m j : Nat) (g : DS → Fl) : NK → List T → List D → MR := fun k ts ds => flM j (g ((st0 m ds).set j (some (.tr true k ts))))
section
variable {K : PySem.W.Frag} {B H : Hp}
theorem relM {N : List Str} {vs : List V} {ds : List D} {j : Nat} {v0 : V} {k : NK} {ts : List T} (hj : vs[j]? = some v0) (i : Same B H) (rt : RT K B H (.nd k ts) v0) (nb : ∀ q, FT K H (.nd k ts) v0 q → B q = none) (r : RpA K B (vs.set j .non) ds) (tb : (∀ p ∈ tabsOf K, NdefX.TabN H p lamAt) ∧ TB K B H) :
    Rel K B ⟨lessF H (FT K H (.nd k ts) v0), some v0⟩ B H (L2.start N vs) ((st0 (N.length - vs.length) ds).set j (some (.tr true k ts))) := by
  have hl : ds.length = vs.length := by have := r.length; simpa using this.symm
  have hjl : j < vs.length := (List.getElem?_eq_some_iff.mp hj).1
  have one : ∀ (a : Nat) (o : O), ((st0 (N.length - vs.length) ds).set j (some (.tr true k ts)))[a]? = some (some o) → (j = a ∧ o = .tr true k ts) ∨ (j ≠ a ∧ ∃ d, o = .im d ∧ ds[a]? = some d) := fun a o e => by
    rcases set_own e with ⟨h1, _, h2⟩ | ⟨h1, h2⟩
    · cases h2; exact .inl ⟨h1, rfl⟩
    · refine .inr ⟨h1, ?_⟩
      unfold st0 at h2
      by_cases ha : a < ds.length
      · rw [List.getElem?_append_left (by simpa using ha), List.getElem?_map] at h2
        cases q : ds[a]? with
        | none => rw [q] at h2; cases h2
        | some d => rw [q] at h2; cases h2; exact ⟨d, rfl, rfl⟩
      · rw [List.getElem?_append_right (by simpa using ha), List.getElem?_replicate] at h2
        split at h2 <;> cases h2
  refine ⟨Grow.of (Same.refl _) lessF_same i (fun _ _ => rfl) (fun _ _ q => .inl q), fun p hp => tab_lessF (fun a ha => RT.kind _ _ rt a ha) (tb.1 p hp), tb.2.imp fun τ h => h.less fun a ha => RT.kind _ _ rt a ha, ?_, fun a o e => ?_, fun a b o o' w w' hab e1 e2 e3 e4 q f1 f2 => ?_⟩
  · simp [L2.start, st0, hl]
  · rcases one a o e with ⟨rfl, rfl⟩ | ⟨hja, d, rfl, hd⟩
    · refine ⟨v0, ?_, rt, fun q hq => ⟨lessF_in hq, nb q hq⟩, fun _ => rfl⟩
      unfold L2.start
      rw [List.getElem?_append_left (by simpa using hjl), List.getElem?_map, hj]
      rfl
    · obtain ⟨v, h1, h2⟩ := r.get hd
      rw [List.getElem?_set_ne hja] at h1
      refine ⟨v, ?_, h2⟩
      have ha : a < vs.length := (List.getElem?_eq_some_iff.mp h1).1
      unfold L2.start
      rw [List.getElem?_append_left (by simpa using ha), List.getElem?_map, h1]
      rfl
  · rcases one a o e1 with ⟨h1, h2⟩ | ⟨_, d, h2, _⟩
    · rcases one b o' e2 with ⟨h3, _⟩ | ⟨_, d, h4, _⟩
      · exact hab (h1.symm.trans h3)
      · subst h4; exact f2
    · subst h2; exact f1
theorem Rel.out {B0 : Hp} {H0 : Hp} {v0 : V} {B' H' : Hp} {σ : L2.St} {δ : DS} {j : Nat} {t : T} (r : Rel K B0 ⟨H0, some v0⟩ B' H' σ δ) (e : ownAt δ j = some t) : RT K B' H' t v0 ∧ ∀ q, FT K H' t v0 q → H0 q = none ∧ B' q = none := by
  unfold ownAt at e
  split at e
  · rename_i k ts e1
    cases e
    obtain ⟨v, _, h1, h2, h3⟩ := r.sl j _ e1
    have hv := h3 rfl
    cases hv
    exact ⟨h1, h2⟩
  · cases e
theorem ss_defM {t : TS} {g : DS → Fl} {E : XK} {N : List Str} {vs : List V} {ds : List D} {j : Nat} {v0 : V} {k : NK} {ts : List T} {Q : VK} (h : SS K (Wof E) t g) (hj : vs[j]? = some v0) (i : Same B H) (rt : RT K B H (.nd k ts) v0) (nb : ∀ q, FT K H (.nd k ts) v0 q → B q = none) (r : RpA K B (vs.set j .non) ds) (tb : (∀ p ∈ tabsOf K, NdefX.TabN H p lamAt) ∧ TB K B H)
    (hp : PostM K B H (FT K H (.nd k ts) v0) v0 Q E (defM (N.length - vs.length) j g k ts ds)) : t { nx := fun _ H' => Q .non H', rt := Q } (L2.start N vs) H := by
  refine h B _ _ _ B H _ (relM hj i rt nb r tb) ?_
  unfold defM at hp
  cases e : g ((st0 (N.length - vs.length) ds).set j (some (.tr true k ts))) with
  | nx δ =>
    rw [e] at hp
    unfold flM at hp
    dsimp only at hp
    split at hp
    · rename_i t' ht
      exact fun σ B' H' s rel => let ⟨a, b⟩ := rel.out ht; hp .non B' H' rel.g (.v _) a fun q hq => ⟨lessF_none (b q hq).1, (b q hq).2⟩
    · exact hp.elim
  | ro d δ =>
    rw [e] at hp
    unfold flM at hp
    dsimp only at hp
    split at hp
    · rename_i t' ht
      exact fun v σ B' H' s rel rp => let ⟨a, b⟩ := rel.out ht; hp v B' H' rel.g rp a fun q hq => ⟨lessF_none (b q hq).1, (b q hq).2⟩
    · exact hp.elim
  | rs x δ =>
    rw [e] at hp
    unfold flM at hp
    dsimp only at hp
    split at hp
    · rename_i t' ht
      exact fun c dx σ B' H' s rel rp => let ⟨a, b⟩ := rel.out ht; hp c dx B' H' rel.g rp a fun q hq => ⟨lessF_none (b q hq).1, (b q hq).2⟩
    · exact hp.elim
  | rt d => rw [e] at hp; exact hp.elim
  | rf ds => rw [e] at hp; exact hp.elim
  | rn ds => rw [e] at hp; exact hp.elim
  | bk δ => rw [e] at hp; exact hp.elim
  | ct δ => rw [e] at hp; exact hp.elim
  | no => rw [e] at hp; exact hp.elim
end
section
variable {P : Program} {w : World} {K : PySem.W.Frag} {mg : Str → Option Value} {base : Heap}
theorem def_okM {x qual : Str} {st : Stmt} {f : Addr} {fd : FuncData} {N ps : List Str} {k m : Nat} (j : Nat) {g : DS → Fl} (F : Fun K x qual st f fd) (S : FnScope N ps (defScope st)) (hm : N.length - ps.length = m)
    (hbody : ∀ (cdv : Value) (A : Around) (outer : List Env) (s : Shared) (H : Hp) (E : XK), Room k (A.deeper (PyProof.Rows.envOfC qual (defScope st) s.heap.objs.size f cdv)) → Takes (cxOf (L2.CX P w) P w K mg base N qual (defScope st) f cdv A outer s H E) (Wof E) →
      PassesOwn (model P w) (A.deeper (PyProof.Rows.envOfC qual (defScope st) s.heap.objs.size f cdv)) (PyProof.Rows.envOfC qual (defScope st) s.heap.objs.size f cdv) (cxOf (L2.CX P w) P w K mg base N qual (defScope st) f cdv A outer s H E).xe → (A.deeper (PyProof.Rows.envOfC qual (defScope st) s.heap.objs.size f cdv)).units + 64 < cLine → ∃ t, CSs (cxOf (L2.CX P w) P w K mg base N qual (defScope st) f cdv A outer s H E) (Wof E) (defBody st) t g) : FnOk P w K mg base (L2.CX P w) (k + 1) f fd ps (spM K ps.length j (defM m j g)) := by
  refine F.okX S (fun vs H Q E h => h.1) fun cdv A outer s H vs Q E hr h => ?_
  obtain ⟨hl, v0, k0, ts, ds, B, hj, i, rt, nb, r, tb, hp⟩ := h
  obtain ⟨t, ht⟩ := hbody cdv A outer s H E hr (takes_of rfl rfl rfl rfl) (passes_of (X := cxOf (L2.CX P w) P w K mg base N qual _ f cdv A outer s H E) rfl) hr.units
  exact ⟨t, ht.ps, ss_defM (N := N) ht.ss hj i rt nb r tb (by rw [hl, hm]; exact hp)⟩
theorem def_okDM {x qual : Str} {params : Arguments} {body : List Stmt} {scope : Scope} {dvs : List V} {kws : List (Str × V)} {f : Addr} {fd : FuncData} {N ps : List Str} {k m : Nat} (j : Nat) {g : DS → Fl} (F : FunD K x qual params body scope dvs kws f fd) (S : FnScope N ps scope) (hm : N.length - ps.length = m)
    (hbody : ∀ (cdv : Value) (A : Around) (outer : List Env) (s : Shared) (H : Hp) (E : XK), Room k (A.deeper (PyProof.Rows.envOfC qual scope s.heap.objs.size f cdv)) → Takes (cxOf (L2.CX P w) P w K mg base N qual scope f cdv A outer s H E) (Wof E) →
      PassesOwn (model P w) (A.deeper (PyProof.Rows.envOfC qual scope s.heap.objs.size f cdv)) (PyProof.Rows.envOfC qual scope s.heap.objs.size f cdv) (cxOf (L2.CX P w) P w K mg base N qual scope f cdv A outer s H E).xe → (A.deeper (PyProof.Rows.envOfC qual scope s.heap.objs.size f cdv)).units + 64 < cLine → ∃ t, CSs (cxOf (L2.CX P w) P w K mg base N qual scope f cdv A outer s H E) (Wof E) body t g) : FnOk P w K mg base (L2.CX P w) (k + 1) f fd ps (spM K ps.length j (defM m j g)) := by
  refine F.ok S (fun vs H Q E h => h.1) fun cdv A outer s H vs Q E hr h => ?_
  obtain ⟨hl, v0, k0, ts, ds, B, hj, i, rt, nb, r, tb, hp⟩ := h
  obtain ⟨t, ht⟩ := hbody cdv A outer s H E hr (takes_of rfl rfl rfl rfl) (passes_of (X := cxOf (L2.CX P w) P w K mg base N qual _ f cdv A outer s H E) rfl) hr.units
  exact ⟨t, ht.ps, ss_defM (N := N) ht.ss hj i rt nb r tb (by rw [hl, hm]; exact hp)⟩
end
section
variable {K : PySem.W.Frag} {B0 : Hp} {H0 : Org} {B H B' H' : Hp} {σ : L2.St} {δ : DS}
theorem Rel.back {m : Bool} {i : Nat} {k : NK} {ts : List T} {v0 : V} {t : T} (r : Rel K B0 H0 B H σ δ) (e : δ[i]? = some (some (.tr m k ts))) (es : σ[i]? = some (some v0)) (g : Grow K B (lessF H (FT K H (.nd k ts) v0)) B' H') (rt : RT K B' H' t v0) (n : ∀ q, FT K H' t v0 q → (FT K H (.nd k ts) v0 q ∨ H q = none) ∧ B' q = none) :
    Rel K B0 H0 B' H' σ (δ.set i (some (O.ofM m t))) := by
  obtain ⟨v, h1, hsr⟩ := r.sl i _ e
  rw [es] at h1
  cases h1
  have hF := hsr.new
  have out0 : ∀ a, H0.h a ≠ none → ¬ FT K H (.nd k ts) v0 a := fun a ha z => ha (hF a z).1
  have G : Grow K B0 H0.h B' H' := by
    refine ⟨r.g.b.trans g.b, fun a o q nq => ?_, g.i, fun a ha => ?_, fun a ha => ?_, fun P hP => g.t P (tab_lessF (fun a ha => (hF a ha).2.2) (r.g.t P hP)), fun τ h => ?_⟩
    · exact g.h a o (by rw [lessF_out (out0 a (by rw [q]; simp))]; exact r.g.h a o q nq) nq
    · rw [g.f a (by rw [lessF_out (out0 a ha)]; exact r.g.e a ha), r.g.f a ha]
    · exact g.e a (by rw [lessF_out (out0 a ha)]; exact r.g.e a ha)
    · obtain ⟨τ1, e1, h1⟩ := r.g.n τ h
      obtain ⟨τ2, e2, h2⟩ := g.n τ1 (h1.less fun a ha => (hF a ha).2.2)
      exact ⟨τ2, fun x hx => (e2 x (by rw [lessF_out (out0 x hx)]; exact r.g.e x hx)).trans (e1 x hx), h2⟩
  have := r.chgK (z := some (O.ofM m t)) (v' := v0) e es G g.b (fun q u hq hh kd => ?_) fun o' z => by
    cases z
    refine ⟨SR.ofM rt (fun q hq => ⟨?_, (n q hq).2⟩) hsr.2.2, fun q hq => (n q (Ft.ofM.mp hq)).1⟩
    rcases (n q hq).1 with y | y
    · exact (hF q y).1
    · exact r.g.free y
  · rw [set_same es] at this
    exact this
  · have hl : lessF H (FT K H (.nd k ts) v0) q = some u := by rw [lessF_out hq]; exact hh
    exact ⟨(g.h q u hl kd.std).trans hh.symm, g.f q (by rw [hl]; simp)⟩
end
noncomputable def PostAO (K : PySem.W.Frag) (B H : Hp) (σ : L2.St) (i j : Nat) (W : WX) (Q : List V → Hp → Prop) : Res (List D) → Prop
  | .ok ds => ∀ vs B' H', Grow K B H B' H' → (∀ v, σ[i]? = some (some v) → vs[j]? = some v) → RpA K B' (vs.set j .non) ds → Q vs H'
  | .er x => ∀ c dx B' H', Grow K B H B' H' → RpX K B' c dx x → W c dx σ H'
  | .no => False
structure CAO (X : Cx) (W : WX) (i j : Nat) (es : List Expr) (t : TA) (f : DS → Res (List D)) : Prop where
  pa : PA X es t
  sa : ∀ B0 H0 δ σ B H (Q : List V → Hp → Prop), Rel X.K B0 H0 B H σ δ → PostAO X.K B H σ i j W Q (f δ) → t σ H Q
  ln : ∀ δ ds, f δ = .ok ds → ds.length = es.length
noncomputable def asT (δ : DS) (i : Nat) : Option (Bool × NK × List T) := match δ[i]? with
  | some (some (.tr m k ts)) => some (m, k, ts)
  | _ => none
theorem asT_some {δ : DS} {i : Nat} {m : Bool} {k : NK} {ts : List T} (h : asT δ i = some (m, k, ts)) : δ[i]? = some (some (.tr m k ts)) := by
  unfold asT at h
  split at h
  · rename_i e; cases h; exact e
  · cases h
section
variable {X : Cx} {W : WX} {K : PySem.W.Frag}
noncomputable def cConsO (i : Nat) (g : DS → Res (List D)) : DS → Res (List D) := fun δ => match asT δ i with
  | some _ => (g δ).bind fun ds => .ok (.non :: ds)
  | none => .no
theorem cao_here (i : Nat) {x : Str} {px : Pos} {es : List Expr} {t : TA} {g : DS → Res (List D)} (hv : PE X (.Name x px) (tVar i)) (hr : CL X W es t g) (hs : starEach (.Name x px :: es) X.env = (false, eval (.Name x px) X.env) :: starEach es X.env := by rfl) : CAO X W i 0 (.Name x px :: es) (tCons (tVar i) t) (cConsO i g) :=
  ⟨pa_cons hv hr.pa hs, fun B0 H0 δ σ B H Q rel hp => by
    unfold cConsO at hp
    split at hp
    case h_2 => exact hp.elim
    case h_1 tt ht =>
    obtain ⟨m, k, ts⟩ := tt
    obtain ⟨v, h1, _⟩ := rel.sl i _ (asT_some ht)
    refine ⟨v, h1, hr.sa B0 H0 δ σ B H _ rel ?_⟩
    cases e2 : g δ with
    | no => rw [e2] at hp; exact hp
    | er x => rw [e2] at hp; exact hp
    | ok ds =>
      rw [e2, Res.bind_ok] at hp
      exact fun vs B' H' g rp => hp (v :: vs) B' H' g (fun v' hv' => by rw [h1] at hv'; cases hv'; rfl) (.cons (.v _) rp), fun δ ds q => by
    unfold cConsO at q
    split at q
    · cases e2 : g δ with
      | no => rw [e2] at q; cases q
      | er x => rw [e2] at q; cases q
      | ok ds' => rw [e2, Res.bind_ok] at q; cases q; rw [List.length_cons, List.length_cons, hr.ln δ ds' e2]
    · cases q⟩
theorem cao_cons {i j : Nat} {e : Expr} {es : List Expr} {te : TE} {t : TA} {f : DS → Res D} {g : DS → Res (List D)} (h : CE X W e te f) (hr : CAO X W i j es t g) (hs : starEach (e :: es) X.env = (false, eval e X.env) :: starEach es X.env := by rfl) : CAO X W i (j + 1) (e :: es) (tCons te t) (cCons f g) :=
  ⟨pa_cons h.pe hr.pa hs, fun B0 H0 δ σ B H Q rel hp => by
    unfold cCons at hp
    refine h.se B0 H0 δ σ B H _ rel ?_
    cases e : f δ with
    | no => rw [e] at hp; exact hp
    | er x => rw [e] at hp; exact hp
    | ok d =>
      rw [e, Res.bind_ok] at hp
      intro v B1 H1 g1 r1
      refine hr.sa B0 H0 δ σ B1 H1 _ (rel.mono g1) ?_
      cases e2 : g δ with
      | no => rw [e2] at hp; exact hp
      | er x => rw [e2] at hp; exact fun c dx B' H' g' rp => hp c dx B' H' (g1.trans g') rp
      | ok ds =>
        rw [e2, Res.bind_ok] at hp
        exact fun vs B2 H2 g2 hv rp => hp (v :: vs) B2 H2 (g1.trans g2) (fun v' hv' => by rw [List.getElem?_cons_succ]; exact hv v' hv') (.cons (r1.mono g2.b) rp), fun δ ds q => by
    unfold cCons at q
    cases e : f δ with
    | no => rw [e] at q; cases q
    | er x => rw [e] at q; cases q
    | ok d =>
      rw [e, Res.bind_ok] at q
      cases e2 : g δ with
      | no => rw [e2] at q; cases q
      | er x => rw [e2] at q; cases q
      | ok ds' => rw [e2, Res.bind_ok] at q; cases q; rw [List.length_cons, List.length_cons, hr.ln δ ds' e2]⟩
noncomputable def outM (δ : DS) (i : Nat) (m : Bool) : MR → RM D
  | .ok d t => .ok d (δ.set i (some (O.ofM m t)))
  | .er x t => .er x (δ.set i (some (O.ofM m t)))
  | .no => .no
noncomputable def cOwnF (i : Nat) (F : NK → List T → List D → MR) (dd : List D) (f : DS → Res (List D)) : DS → RM D := fun δ => (f δ).rm δ |>.bind fun ds _ => match asT δ i with
  | some (m, k, ts) => outM δ i m (F k ts (ds ++ dd))
  | none => .no
theorem sem_ownF {n i j : Nat} {F : NK → List T → List D → MR} {dd : List D} {dvs : List V} {es : List Expr} {t : TA} {f : DS → Res (List D)} (hK : X.K = K) (hn : es.length + dd.length = n) (hj : j < es.length) (hd : ∀ B, RpA K B dvs dd) (h : CAO X W i j es t f) : SEM K W (tCallSD (spM K n j F) dvs (WE W) t) (cOwnF i F dd f) := fun B0 H0 δ σ B H Q rel hp => by
  subst hK
  unfold cOwnF at hp
  refine h.sa B0 H0 δ σ B H _ rel ?_
  cases e : f δ with
  | no => rw [e] at hp; exact hp
  | er x => rw [e] at hp; exact fun c dx B' H' g rp => hp c dx B' H' g.b (rel.mono g) rp
  | ok ds =>
    rw [e, Res.rm_ok, RM.bind_ok] at hp
    split at hp
    case h_2 => exact hp.elim
    case h_1 m k ts ha =>
    have ea := asT_some ha
    intro vs B1 H1 g1 hv rr
    have rel1 := rel.mono g1
    obtain ⟨v0, h1, hsr⟩ := rel1.sl i _ ea
    have hl : vs.length = es.length := by have := rr.length; rw [List.length_set] at this; rw [this]; exact h.ln δ ds e
    have hjv : j < vs.length := by rw [hl]; exact hj
    refine ⟨by rw [List.length_append, (hd B1).length, hl]; exact hn, v0, k, ts, ds ++ dd, B1, by rw [List.getElem?_append_left hjv]; exact hv v0 h1, g1.i, hsr.1, fun q hq => (hsr.2.1 q hq).2, by rw [List.set_append_left _ _ hjv]; exact rr.append (hd B1), ⟨fun p hp' => rel1.g.t p (rel1.tk p hp'), rel1.g.tb rel1.nt⟩, ?_⟩
    cases e2 : F k ts (ds ++ dd) with
    | no => rw [e2] at hp; exact hp
    | er x t => rw [e2] at hp; exact fun c dx B' H' g' rp rt n => hp c dx B' H' (g1.b.trans g'.b) (rel1.back ea h1 g' rt n) rp
    | ok d t => rw [e2] at hp; exact fun v B' H' g' rp rt n => hp v B' H' (g1.b.trans g'.b) (rel1.back ea h1 g' rt n) rp
theorem cem_ownF (K : PySem.W.Frag) (hK : X.K = K) {k n i j : Nat} {f : Addr} {fd : FuncData} {ps : List Str} {F : NK → List T → List D → MR} {x : Str} {p pos : Pos} {e : Expr} {es : List Expr} {t : TA} {fa : DS → Res (List D)}
    (G : FnOk X.prog X.w K X.mg X.base (L2.CX X.prog X.w) k f fd ps (spM K n j F)) (hr : Room k X.A) (hm : X.mg x = some (.ref f)) (hk : PySem.W.keepIn K (.ref f) = true) (hb : Binds K fd ps []) (tk : Takes X W)
    (ha : CAO X W i j (e :: es) t fa) (hn : (e :: es).length = n := by rfl) (hj : j < (e :: es).length := by decide) (hg : Gl X x := by rfl) (hdb : (x == ("__debug__" : Str)) = false := by decide) (he : starEach (e :: es) X.env = (false, eval e X.env) :: starEach es X.env := by rfl) (hpl : (backTo pos (starEach es X.env)).any (·.1) = false := by rfl) :
    CEM X W (.Call (.Name x p) (e :: es) [] pos) (tCallSD (spM K n j F) [] (WE W) t) (cOwnF i F [] fa) := by
  subst hK
  exact ⟨pe_callSD G hr hg hm hk hb .nil (fun σ => passAt tk σ) ha.pa hdb he hpl, sem_ownF rfl (by simpa using hn) hj (fun _ => .nil) ha⟩
end
end DV
namespace DV
open PySem L2
noncomputable def tMethS (C : Addr) (m : Str) (sp : Sp) (dvs : List V) (E : L2.St → XK) (ta : TE) (t : TA) : TE := fun σ H Q => ta σ H fun x H1 => ∃ a dx fs, x = .ref a ∧ H1 a = some (.ins C dx fs) ∧ fs.lookup m = none ∧ t σ H1 fun vs H2 => sp (x :: (vs ++ dvs)) H2 Q (E σ)
noncomputable def tMakeS (C : Addr) (sp : Sp) (dvs : List V) (E : L2.St → XK) (t : TA) : TE := fun σ H Q => t σ H fun vs H1 => ∀ x dx, H1 x = none → H1 dx = none → dx ≠ x →
  sp (.ref x :: (vs ++ dvs)) (upd (upd H1 dx (.own x)) x (.ins C dx [])) (fun v H2 => v = .non ∧ Q (.ref x) H2) (E σ)
section
variable {X : Cx} {CX : CXT} {k : Nat} {f C : Addr} {fd : FuncData} {ps : List Str} {sp : Sp} {dvs : List V} {ds : List Value} {E : L2.St → XK} {x m : Str} {p pos apos : Pos} {e o : Expr} {es : List Expr} {ta : TE} {t : TA}
theorem pe_methSD {pl : Sem Bool} (he : PE X o ta) (c : Cls X.K C) (hm : Meth X.K C m f) (F : FnOk X.prog X.w X.K X.mg X.base CX k f fd ps sp) (hr : Room k X.A) (hb : Binds X.K fd ps ds) (hd : Vals dvs ds) (hx : ∀ σ, PassesAt CX X σ (E σ)) (ha : PA X (e :: es) t)
    (hst : starEach (e :: es) X.env = (false, eval e X.env) :: starEach es X.env := by rfl) (hpl : (backTo pos (starEach es X.env)).any (·.1) = false := by rfl)
    (ht : eval (.Call (.Attribute o m apos) (e :: es) [] pos) X.env = (do
      let ov ← eval o X.env
      standAt apos.atName
      let (f, first) ← holding [ov] (getMethod ov m pl)
      callWith pos f first (backTo pos (starEach (e :: es) X.env)) (backToKw pos (keywordEach [] X.env))) := by rfl) :
    PE X (.Call (.Attribute o m apos) (e :: es) [] pos) (tMethS C m sp dvs E ta t) := by
  refine ⟨fun pins s σ H Q I h => ?_⟩
  refine PySem.W.methodCall_KW (pl := pl) (thn (he.run pins s σ H _ I h) fun u s1 ⟨x, H1, I1, rx, a, dx, fs, ex, ea, l, q⟩ => ?_) ht
  subst ex
  obtain rfl : u = Value.ref a := rx
  refine getmeth_ok I1 ea c hm l ?_
  refine PySem.W.callWith_K (first := [.ref a]) (h₀ := X.base) I.ok.mod.kin hm.kp (thn (ha.run pos pins s1 σ H1 _ I1 q) fun us s2 ⟨vs, H2, I2, r, q2⟩ => ⟨I2.kIn, ?_⟩) hst hpl
  exact run_fnSD (us := .ref a :: us) (vs := .ref a :: vs) F hr hb hd (hx σ) I2 (.cons rfl r) q2
theorem pe_meth0SD {pl : Sem Bool} (he : PE X o ta) (c : Cls X.K C) (hm : Meth X.K C m f) (F : FnOk X.prog X.w X.K X.mg X.base CX k f fd ps sp) (hr : Room k X.A) (hb : Binds X.K fd ps ds) (hd : Vals dvs ds) (hx : ∀ σ, PassesAt CX X σ (E σ))
    (ht : eval (.Call (.Attribute o m apos) [] [] pos) X.env = (do
      let ov ← eval o X.env
      standAt apos.atName
      let (f, first) ← holding [ov] (getMethod ov m pl)
      callWith pos f first (backTo pos (starEach [] X.env)) (backToKw pos (keywordEach [] X.env))) := by rfl) :
    PE X (.Call (.Attribute o m apos) [] [] pos) (tMethS C m sp dvs E ta tNil) := by
  refine ⟨fun pins s σ H Q I h => ?_⟩
  refine PySem.W.methodCall_KW (pl := pl) (thn (he.run pins s σ H _ I h) fun u s1 ⟨x, H1, I1, rx, a, dx, fs, ex, ea, l, q⟩ => ?_) ht
  subst ex
  obtain rfl : u = Value.ref a := rx
  refine getmeth_ok I1 ea c hm l ?_
  exact PySem.W.callWith_K0 (first := [.ref a]) I1.kIn hm.kp (run_fnSD (us := [.ref a]) (vs := [.ref a]) F hr hb hd (hx σ) I1 (.cons rfl .nil) q)
theorem run_makeSD {pins : List (Addr × Obj)} {σ : L2.St} {H : Hp} {s : Shared} {Q : VK} {us : List Value} {vs : List V} (M : Mk X.K C f) (F : FnOk X.prog X.w X.K X.mg X.base CX k f fd ps sp) (hr : Room (k + 1) X.A) (hb : Binds X.K fd ps ds) (hd : Vals dvs ds)
    (hx : PassesAt CX X σ (E σ)) (I : Inv X pins σ H s) (r : Vals vs us)
    (h : ∀ x dx, H x = none → H dx = none → dx ≠ x → sp (.ref x :: (vs ++ dvs)) (upd (upd H dx (.own x)) x (.ins C dx [])) (fun v H2 => v = .non ∧ Q (.ref x) H2) (E σ)) :
    wpAny (model X.prog X.w) X.A (call (.ref C) us) (EP X pins σ Q) X.xe s := by
  have hq := h (s.heap.objs.size + 1) s.heap.objs.size (I.hok.fresh (Nat.le_succ _)) (I.hok.fresh (Nat.le_refl _)) (Nat.ne_of_lt (Nat.lt_succ_self _))
  have I2 := Inv.made (C := C) I
  have r2 : Vals (V.ref (s.heap.objs.size + 1) :: (vs ++ dvs)) (Value.ref (s.heap.objs.size + 1) :: (us ++ ds)) := .cons rfl (r.append hd)
  have hl : (Value.ref (s.heap.objs.size + 1) :: us ++ ds).length = ps.length := by
    have e := r2.length
    rw [F.len _ _ _ _ hq] at e
    exact e.symm
  refine wpAny_call (make_map (f := f) I.kIn M.makes M.init (beq_iff_eq.mp M.fn) (codeAny_mono (F.run _ X.stack _ _ ⟨Value.ref (s.heap.objs.size + 1) :: us, []⟩ (Value.ref (s.heap.objs.size + 1) :: (us ++ ds)) _ _ (E σ) (hr.make C us [])
    (I2.env0.make C us []) (hb _ (Value.ref (s.heap.objs.size + 1) :: us) I2.kIn hl) r2 hq) fun r s' hq' => ?_))
  cases r with
  | error e => exact hx pins _ _ e s' I2 hq'
  | ok fl =>
    cases fl with
    | ret u =>
      obtain ⟨v, H', I3, rv, ev, q3⟩ := I2.after hq'
      subst ev
      exact ⟨rv, ⟨V.ref (s.heap.objs.size + 1), H', I3, rfl, q3⟩⟩
    | next => exact False.elim hq'
    | brk => exact False.elim hq'
    | cont => exact False.elim hq'
theorem pe_makeSD (M : Mk X.K C f) (F : FnOk X.prog X.w X.K X.mg X.base CX k f fd ps sp) (hr : Room (k + 1) X.A) (hg : Gl X x) (hm : X.mg x = some (.ref C)) (hb : Binds X.K fd ps ds) (hd : Vals dvs ds) (hx : ∀ σ, PassesAt CX X σ (E σ))
    (ha : PA X (e :: es) t) (hdb : (x == ("__debug__" : Str)) = false := by decide) (he : starEach (e :: es) X.env = (false, eval e X.env) :: starEach es X.env := by rfl) (hpl : (backTo pos (starEach es X.env)).any (·.1) = false := by rfl) :
    PE X (.Call (.Name x p) (e :: es) [] pos) (tMakeS C sp dvs E t) := by
  refine ⟨fun pins s σ H Q I h => ?_⟩
  refine wpAny_Call_Name_kw (ld_glob I hg hm ?_ hdb)
  refine PySem.W.callWith_K (h₀ := X.base) I.ok.mod.kin M.kp (thn (ha.run pos pins s σ H _ I h) fun us s1 ⟨vs, H1, I1, r, q⟩ => ⟨I1.kIn, ?_⟩) he hpl
  exact run_makeSD M F hr hb hd (hx σ) I1 r q
end
end DV
namespace DV
open PySem L2
structure ClK (K : PySem.W.Frag) (c : Str) (C : Addr) : Prop where
  v : clsV K c = some (.ref C)
  cl : Cls K C
noncomputable def lookD (f : Str) : List Str → List D → Option D
  | n :: ns, d :: ds => if n = f then some d else lookD f ns ds
  | _, _ => none
section
variable {K : PySem.W.Frag} {B : Hp}
theorem lookD_rel {f : Str} : ∀ {fs : List (Str × V)} {ds : List D}, RpA K B (fs.map (·.2)) ds → ∀ d, lookD f (fs.map (·.1)) ds = some d → ∃ v, fs.lookup f = some v ∧ Rp K B v d
  | [], _, _, d, h => by simp [lookD] at h
  | (n, x) :: fs, ds, r, d, h => by
    rw [List.map_cons] at r
    cases r with
    | cons r1 r2 =>
      rw [List.map_cons, lookD] at h
      rw [List.lookup_cons]
      by_cases e : n = f
      · rw [if_pos e] at h
        cases h
        subst e
        exact ⟨x, by simp, r1⟩
      · rw [if_neg e] at h
        have : (f == n) = false := by simpa using fun z => e z.symm
        rw [this]
        exact lookD_rel r2 d h
theorem lookup_none {α : Type} {f : Str} : ∀ {fs : List (Str × α)}, f ∉ fs.map (·.1) → fs.lookup f = none
  | [], _ => rfl
  | (n, x) :: fs, h => by
    rw [List.lookup_cons]
    have : (f == n) = false := by
      simp only [List.map_cons, List.mem_cons, not_or] at h
      simpa using h.1
    rw [this]
    exact lookup_none fun z => h (by simp [List.map_cons, z])
theorem ins_of {c : Str} {ns : List Str} {ds : List D} {v : V} (r : Rp K B v (.ins c ns ds)) : ∃ a C dx fs, v = .ref a ∧ B a = some (.ins C dx fs) ∧ clsV K c = some (.ref C) ∧ fs.map (·.1) = ns ∧ RpA K B (fs.map (·.2)) ds := by
  cases r with
  | ins h1 h2 h3 q => exact ⟨_, _, _, _, rfl, h1, h3, rfl, q⟩
end
noncomputable def FldK (K : PySem.W.Frag) (cs : List Str) (f : Str) : Prop := ∀ c ∈ cs, ∃ C, ClK K c C ∧ NoAttr K C f
section
variable {X : Cx} {W : WX} {K : PySem.W.Frag}
noncomputable def oFld (cs : List Str) (f : Str) : D → Res D
  | .ins c ns ds => if c ∈ cs then match lookD f ns ds with
    | some d => .ok d
    | none => .no else .no
  | _ => .no
noncomputable def cFld (cs : List Str) (f : Str) (fa : DS → Res D) : DS → Res D := fun δ => (fa δ).bind (oFld cs f)
theorem ce_fld (K : PySem.W.Frag) (hK : X.K = K) {cs : List Str} {e : Expr} {f : Str} {pos : Pos} {ta : TE} {fa : DS → Res D} (hf : FldK K cs f) (h : CE X W e ta fa) (hb : attributeBase e f X.env (eval e X.env) = eval e X.env := by rfl) : CE X W (.Attribute e f pos) (tFld K ta f) (cFld cs f fa) := by
  subst hK
  refine ⟨pe_fld h.pe hb, fun B0 H0 δ σ B H Q rel hp => ?_⟩
  unfold cFld at hp
  refine h.se B0 H0 δ σ B H _ rel ?_
  cases e : fa δ with
  | no => rw [e] at hp; exact hp
  | er x => rw [e] at hp; exact hp
  | ok d =>
    rw [e, Res.bind_ok] at hp
    intro v B1 H1 g1 r1
    unfold oFld at hp
    split at hp
    · rename_i c ns ds
      split at hp
      · rename_i hc
        split at hp
        · rename_i d hd
          obtain ⟨a, C, dx, fs, rfl, hb1, hv, rfl, q⟩ := ins_of r1
          obtain ⟨C', k, na⟩ := hf c hc
          have := hv.symm.trans k.v
          cases this
          obtain ⟨w, hw, rw'⟩ := lookD_rel q d hd
          exact ⟨a, C, dx, fs, w, rfl, g1.i _ _ hb1, k.cl, na, hw, hp w B1 H1 g1 rw'⟩
        · exact hp.elim
      · exact hp.elim
    · exact hp.elim
noncomputable def cMth (c m : Str) (F : List D → Res D) (dd : List D) (fa : DS → Res D) (f : DS → Res (List D)) : DS → Res D := fun δ => (fa δ).bind fun x => match x with
  | .ins c' ns vs => if c' = c ∧ m ∉ ns then (f δ).bind fun ds => F (.ins c' ns vs :: (ds ++ dd)) else .no
  | _ => .no
theorem se_mth {c m : Str} {C : Addr} {n : Nat} {F : List D → Res D} {dd : List D} {dvs : List V} {ta : TE} {t : TA} {fa : DS → Res D} {f : DS → Res (List D)} (k : clsV K c = some (.ref C)) (hl : ∀ δ ds, f δ = .ok ds → ds.length + dd.length + 1 = n) (hd : ∀ B, RpA K B dvs dd) (ha : SE K W ta fa) (h : SA K W t f) : SE K W (tMethS C m (spD K n F) dvs (WE W) ta t) (cMth c m F dd fa f) := fun B0 H0 δ σ B H Q rel hp => by
  unfold cMth at hp
  refine ha B0 H0 δ σ B H _ rel ?_
  cases e : fa δ with
  | no => rw [e] at hp; exact hp
  | er x => rw [e] at hp; exact hp
  | ok d =>
    rw [e, Res.bind_ok] at hp
    intro v B1 H1 g1 r1
    split at hp
    · rename_i c' ns vs
      split at hp
      · rename_i hc
        obtain ⟨rfl, hm⟩ := hc
        obtain ⟨a, C', dx, fs, rfl, hb1, hv, rfl, q⟩ := ins_of r1
        have := hv.symm.trans k
        cases this
        refine ⟨a, dx, fs, rfl, g1.i _ _ hb1, lookup_none hm, h B0 H0 δ σ B1 H1 _ (rel.mono g1) ?_⟩
        cases e2 : f δ with
        | no => rw [e2] at hp; exact hp
        | er x => rw [e2] at hp; exact fun c dx B' H' g' rp => hp c dx B' H' (g1.trans g') rp
        | ok ds =>
          rw [e2, Res.bind_ok] at hp
          intro us B2 H2 g2 r2
          have rel2 := (rel.mono g1).mono g2
          refine ⟨?_, _ :: (ds ++ dd), B2, g2.i, .cons (r1.mono g2.b) (r2.append (hd B2)), ⟨fun p hp' => rel2.g.t p (rel2.tk p hp'), rel2.g.tb rel2.nt⟩, ?_⟩
          · rw [List.length_cons, List.length_append, r2.length, (hd B2).length]
            exact hl δ ds e2
          · cases e3 : F (.ins c' (fs.map (·.1)) vs :: (ds ++ dd)) with
            | no => rw [e3] at hp; exact hp
            | er x => rw [e3] at hp; exact fun c dx B' H' g' rp => hp c dx B' H' ((g1.trans g2).trans g') rp
            | ok z => rw [e3] at hp; exact fun v B' H' g' rp => hp v B' H' ((g1.trans g2).trans g') rp
      · exact hp.elim
    · exact hp.elim
theorem ce_mth (K : PySem.W.Frag) (hK : X.K = K) {k n : Nat} {c m : Str} {C f : Addr} {fd : FuncData} {ps : List Str} {F : List D → Res D} {dd : List D} {dvs : List V} {ds : List Value} {pos apos : Pos} {o e : Expr} {es : List Expr} {ta : TE} {t : TA} {fo : DS → Res D} {fa : DS → Res (List D)}
    (kc : ClK K c C) (hm : Meth K C m f) (G : FnOk X.prog X.w K X.mg X.base (L2.CX X.prog X.w) k f fd ps (spD K n F)) (hr : Room k X.A) (hb : Binds K fd ps ds) (hd : Vals dvs ds) (hdd : ∀ B, RpA K B dvs dd) (tk : Takes X W) (ho : CE X W o ta fo) (ha : CL X W (e :: es) t fa) {pl : Sem Bool}
    (hn : (e :: es).length + dd.length + 1 = n := by rfl)
    (hst : starEach (e :: es) X.env = (false, eval e X.env) :: starEach es X.env := by rfl) (hpl : (backTo pos (starEach es X.env)).any (·.1) = false := by rfl)
    (ht : eval (.Call (.Attribute o m apos) (e :: es) [] pos) X.env = (do
      let ov ← eval o X.env
      standAt apos.atName
      let (f, first) ← holding [ov] (getMethod ov m pl)
      callWith pos f first (backTo pos (starEach (e :: es) X.env)) (backToKw pos (keywordEach [] X.env))) := by rfl) :
    CE X W (.Call (.Attribute o m apos) (e :: es) [] pos) (tMethS C m (spD K n F) dvs (WE W) ta t) (cMth c m F dd fo fa) := by
  subst hK
  exact ⟨pe_methSD ho.pe kc.cl hm G hr hb hd (fun σ => passAt tk σ) ha.pa hst hpl ht, se_mth kc.v (fun δ ds h => by rw [ha.ln δ ds h]; exact hn) hdd ho.se ha.sa⟩
theorem ce_mth0 (K : PySem.W.Frag) (hK : X.K = K) {k n : Nat} {c m : Str} {C f : Addr} {fd : FuncData} {ps : List Str} {F : List D → Res D} {dd : List D} {dvs : List V} {ds : List Value} {pos apos : Pos} {o : Expr} {ta : TE} {fo : DS → Res D}
    (kc : ClK K c C) (hm : Meth K C m f) (G : FnOk X.prog X.w K X.mg X.base (L2.CX X.prog X.w) k f fd ps (spD K n F)) (hr : Room k X.A) (hb : Binds K fd ps ds) (hd : Vals dvs ds) (hdd : ∀ B, RpA K B dvs dd) (tk : Takes X W) (ho : CE X W o ta fo) {pl : Sem Bool}
    (hn : dd.length + 1 = n := by rfl)
    (ht : eval (.Call (.Attribute o m apos) [] [] pos) X.env = (do
      let ov ← eval o X.env
      standAt apos.atName
      let (f, first) ← holding [ov] (getMethod ov m pl)
      callWith pos f first (backTo pos (starEach [] X.env)) (backToKw pos (keywordEach [] X.env))) := by rfl) :
    CE X W (.Call (.Attribute o m apos) [] [] pos) (tMethS C m (spD K n F) dvs (WE W) ta tNil) (cMth c m F dd fo cNil) := by
  subst hK
  exact ⟨pe_meth0SD ho.pe kc.cl hm G hr hb hd (fun σ => passAt tk σ) ht, se_mth kc.v (fun δ ds h => by cases h; simpa using hn) hdd ho.se ca_nil.sa⟩
end
end DV
namespace DV
open PySem L2
section
variable {X : Cx} {W : WX} {K : PySem.W.Frag}
theorem RT.ob {B H : Hp} {c : Str} {ns : List Str} {ts : List T} {v : V} (h : RT K B H (.nd (.ob c ns) ts) v) : ∃ a C dx fs, v = .ref a ∧ H a = some (.ins C dx fs) ∧ clsV K c = some (.ref C) ∧ fs.map (·.1) = ns := by
  rw [RT] at h
  obtain ⟨p, vs, fp, rfl, hc, hr, hn⟩ := h
  obtain ⟨C, dx, fs, h1, h2, h3, h4, h5, h6⟩ := hc
  exact ⟨p, C, dx, fs, rfl, h1, h3, h4⟩
noncomputable def cOwnM (i : Nat) (c m : Str) (F : NK → List T → List D → MR) (dd : List D) (f : DS → Res (List D)) : DS → RM D := fun δ => match asT δ i with
  | some (mm, .ob c' ns, ts) => if c' = c ∧ m ∉ ns then (f δ).rm δ |>.bind fun ds _ => outM δ i mm (F (.ob c' ns) ts (.non :: (ds ++ dd))) else .no
  | _ => .no
theorem sem_ownM {c m : Str} {C : Addr} {n i : Nat} {F : NK → List T → List D → MR} {dd : List D} {dvs : List V} {t : TA} {f : DS → Res (List D)} (k : clsV K c = some (.ref C)) (hl : ∀ δ ds, f δ = .ok ds → ds.length + dd.length + 1 = n) (hd : ∀ B, RpA K B dvs dd) (h : SA K W t f) : SEM K W (tMethS C m (spM K n 0 F) dvs (WE W) (tVar i) t) (cOwnM i c m F dd f) := fun B0 H0 δ σ B H Q rel hp => by
  unfold cOwnM at hp
  split at hp
  case h_2 => exact hp.elim
  case h_1 mm c' ns ts ha =>
  split at hp
  case isFalse => exact hp.elim
  case isTrue hc =>
  obtain ⟨rfl, hm⟩ := hc
  have ea := asT_some ha
  obtain ⟨v0, h1, hsr⟩ := rel.sl i _ ea
  obtain ⟨a, C', dx, fs, rfl, hh, hv, rfl⟩ := RT.ob hsr.1
  have := hv.symm.trans k
  cases this
  refine ⟨_, h1, a, dx, fs, rfl, hh, lookup_none hm, h B0 H0 δ σ B H _ rel ?_⟩
  cases e2 : f δ with
  | no => rw [e2] at hp; exact hp
  | er x => rw [e2] at hp; exact fun c dx B' H' g' rp => hp c dx B' H' g'.b (rel.mono g') rp
  | ok ds =>
    rw [e2, Res.rm_ok, RM.bind_ok] at hp
    intro us B1 H1 g1 r1
    have rel1 := rel.mono g1
    obtain ⟨v1, h1', hsr1⟩ := rel1.sl i _ ea
    rw [h1] at h1'
    cases h1'
    refine ⟨?_, .ref a, _, ts, .non :: (ds ++ dd), B1, rfl, g1.i, hsr1.1, fun q hq => (hsr1.2.1 q hq).2, .cons (.v _) (r1.append (hd B1)), ⟨fun p hp' => rel1.g.t p (rel1.tk p hp'), rel1.g.tb rel1.nt⟩, ?_⟩
    · rw [List.length_cons, List.length_append, r1.length, (hd B1).length]
      exact hl δ ds e2
    · cases e3 : F (.ob c' (fs.map (·.1))) ts (.non :: (ds ++ dd)) with
      | no => rw [e3] at hp; exact hp
      | er x t => rw [e3] at hp; exact fun c dx B' H' g' rp rt n => hp c dx B' H' (g1.b.trans g'.b) (rel1.back ea h1 g' rt n) rp
      | ok d t => rw [e3] at hp; exact fun v B' H' g' rp rt n => hp v B' H' (g1.b.trans g'.b) (rel1.back ea h1 g' rt n) rp
theorem cem_ownM (K : PySem.W.Frag) (hK : X.K = K) (i : Nat) {k n : Nat} {c m x : Str} {C f : Addr} {fd : FuncData} {ps : List Str} {F : NK → List T → List D → MR} {dd : List D} {dvs : List V} {ds : List Value} {pos apos px : Pos} {e : Expr} {es : List Expr} {t : TA} {fa : DS → Res (List D)}
    (kc : ClK K c C) (hm : Meth K C m f) (G : FnOk X.prog X.w K X.mg X.base (L2.CX X.prog X.w) k f fd ps (spM K n 0 F)) (hr : Room k X.A) (hb : Binds K fd ps ds) (hd : Vals dvs ds) (hdd : ∀ B, RpA K B dvs dd) (tk : Takes X W) (ho : PE X (.Name x px) (tVar i)) (ha : CL X W (e :: es) t fa) {pl : Sem Bool}
    (hn : (e :: es).length + dd.length + 1 = n := by rfl)
    (hst : starEach (e :: es) X.env = (false, eval e X.env) :: starEach es X.env := by rfl) (hpl : (backTo pos (starEach es X.env)).any (·.1) = false := by rfl)
    (ht : eval (.Call (.Attribute (.Name x px) m apos) (e :: es) [] pos) X.env = (do
      let ov ← eval (.Name x px) X.env
      standAt apos.atName
      let (f, first) ← holding [ov] (getMethod ov m pl)
      callWith pos f first (backTo pos (starEach (e :: es) X.env)) (backToKw pos (keywordEach [] X.env))) := by rfl) :
    CEM X W (.Call (.Attribute (.Name x px) m apos) (e :: es) [] pos) (tMethS C m (spM K n 0 F) dvs (WE W) (tVar i) t) (cOwnM i c m F dd fa) := by
  subst hK
  exact ⟨pe_methSD ho kc.cl hm G hr hb hd (fun σ => passAt tk σ) ha.pa hst hpl ht, sem_ownM kc.v (fun δ ds h => by rw [ha.ln δ ds h]; exact hn) hdd ha.sa⟩
noncomputable def madeT : MR → Res T
  | .ok (.v .non) t => .ok t
  | .er x _ => .er x
  | _ => .no
noncomputable def cMake (c : Str) (F : NK → List T → List D → MR) (dd : List D) (f : DS → Res (List D)) : DS → Res T := fun δ => (f δ).bind fun ds => madeT (F (.ob c []) [] (.non :: (ds ++ dd)))
theorem sn_make {c : Str} {C : Addr} {n : Nat} {F : NK → List T → List D → MR} {dd : List D} {dvs : List V} {t : TA} {f : DS → Res (List D)} (k : clsV K c = some (.ref C)) (hl : ∀ δ ds, f δ = .ok ds → ds.length + dd.length + 1 = n) (hd : ∀ B, RpA K B dvs dd) (h : SA K W t f) : SN K W (tMakeS C (spM K n 0 F) dvs (WE W) t) (cMake c F dd f) := fun B0 H0 δ σ B H Q rel hp => by
  unfold cMake at hp
  refine h B0 H0 δ σ B H _ rel ?_
  cases e2 : f δ with
  | no => rw [e2] at hp; exact hp
  | er x => rw [e2] at hp; exact hp
  | ok ds =>
    rw [e2, Res.bind_ok] at hp
    intro us B1 H1 g1 r1 x dx hx hdx ne
    have rel1 := rel.mono g1
    have s1 : Same H1 (upd H1 dx (.own x)) := same_new hdx
    have hx' : upd H1 dx (.own x) x = none := by rw [upd_ne (Ne.symm ne)]; exact hx
    have s2 : Same (upd H1 dx (.own x)) (upd (upd H1 dx (.own x)) x (.ins C dx [])) := same_new hx'
    have hdx2 : upd (upd H1 dx (.own x)) x (.ins C dx []) dx = some (.own x) := by rw [upd_ne ne, upd_same]
    have hb1 : B1 x = none := g1.i.free hx
    have hb2 : B1 dx = none := g1.i.free hdx
    have rt : RT K B1 (upd (upd H1 dx (.own x)) x (.ins C dx [])) (.nd (.ob c []) []) (.ref x) := by
      rw [RT]
      exact ⟨x, [], [x, dx], rfl, ⟨C, dx, [], upd_same, hdx2, k, rfl, rfl, rfl⟩, by rw [RTA]; trivial, fun q _ z => by rw [FTA] at z; exact z, trivial⟩
    have ft : ∀ q, FT K (upd (upd H1 dx (.own x)) x (.ins C dx [])) (.nd (.ob c []) []) (.ref x) q ↔ q = x ∨ q = dx := fun q => by
      rw [FT]
      constructor
      · rintro ⟨p, vs, fp, z, hc, h⟩
        cases z
        obtain ⟨C', dx', fs, h1, h2, h3, h4, h5, rfl⟩ := hc
        rw [upd_same] at h1
        cases h1
        rcases h with h | h
        · simpa using h
        · rw [FTA] at h; exact h.elim
      · intro h
        exact ⟨x, [], [x, dx], rfl, ⟨C, dx, [], upd_same, hdx2, k, rfl, rfl, rfl⟩, .inl (by simpa using h)⟩
    have el : lessF (upd (upd H1 dx (.own x)) x (.ins C dx [])) (FT K (upd (upd H1 dx (.own x)) x (.ins C dx [])) (.nd (.ob c []) []) (.ref x)) = H1 := by
      funext a
      by_cases ha : a = x ∨ a = dx
      · rw [lessF_in ((ft a).mpr ha)]
        rcases ha with rfl | rfl
        · exact hx.symm
        · exact hdx.symm
      · rw [lessF_out fun z => ha ((ft a).mp z)]
        rw [upd_ne fun z => ha (.inl z), upd_ne fun z => ha (.inr z)]
    refine ⟨?_, .ref x, .ob c [], [], .non :: (ds ++ dd), B1, rfl, (g1.i.trans s1).trans s2, rt, fun q hq => ?_, .cons (.v _) (r1.append (hd B1)), ⟨fun p hp' => ((rel1.g.t p (rel1.tk p hp')).ext s1).ext s2, (rel1.g.tb rel1.nt).imp fun τ h => h.grow (Same.refl _) (fun _ _ q => .inl q) fun a o us q => s2 _ _ (s1 _ _ q)⟩, ?_⟩
    · rw [List.length_cons, List.length_append, r1.length, (hd B1).length]
      exact hl δ ds e2
    · rcases (ft q).mp hq with rfl | rfl
      · exact hb1
      · exact hb2
    · have new : ∀ q, (FT K (upd (upd H1 dx (.own x)) x (.ins C dx [])) (.nd (.ob c []) []) (.ref x) q ∨ upd (upd H1 dx (.own x)) x (.ins C dx []) q = none) → H1 q = none := fun q hq => by
        rcases hq with hq | hq
        · rcases (ft q).mp hq with rfl | rfl
          · exact hx
          · exact hdx
        · cases e : H1 q with
          | none => rfl
          | some u => rw [s2 _ _ (s1 _ _ e)] at hq; cases hq
      cases e3 : F (.ob c []) [] (.non :: (ds ++ dd)) with
      | no => rw [e3] at hp; exact hp
      | er x t =>
        rw [e3] at hp
        intro c' dx' B' H' g' rp rt' n
        rw [el] at g'
        exact hp c' dx' B' H' (g1.trans g') rp
      | ok d t =>
        rw [e3] at hp
        unfold madeT at hp
        split at hp
        · rename_i heq
          cases heq
          intro v B' H' g' rp rt' n
          rw [el] at g'
          cases rp
          exact ⟨rfl, hp _ B' H' (g1.trans g') rt' fun q hq => ⟨g1.free (new q (n q hq).1), (n q hq).2⟩⟩
        · rename_i heq; cases heq
        · exact hp.elim
theorem cn_make (K : PySem.W.Frag) (hK : X.K = K) {k n : Nat} {c : Str} {C f : Addr} {fd : FuncData} {ps : List Str} {F : NK → List T → List D → MR} {dd : List D} {dvs : List V} {ds : List Value} {p pos : Pos} {e : Expr} {es : List Expr} {t : TA} {fa : DS → Res (List D)}
    (kc : ClK K c C) (M : Mk K C f) (G : FnOk X.prog X.w K X.mg X.base (L2.CX X.prog X.w) k f fd ps (spM K n 0 F)) (hr : Room (k + 1) X.A) (hm : X.mg c = some (.ref C)) (hb : Binds K fd ps ds) (hd : Vals dvs ds) (hdd : ∀ B, RpA K B dvs dd) (tk : Takes X W)
    (ha : CL X W (e :: es) t fa) (hn : (e :: es).length + dd.length + 1 = n := by rfl) (hg : Gl X c := by rfl) (hdb : (c == ("__debug__" : Str)) = false := by decide) (he : starEach (e :: es) X.env = (false, eval e X.env) :: starEach es X.env := by rfl) (hpl : (backTo pos (starEach es X.env)).any (·.1) = false := by rfl) :
    CN X W (.Call (.Name c p) (e :: es) [] pos) (tMakeS C (spM K n 0 F) dvs (WE W) t) (cMake c F dd fa) := by
  subst hK
  exact ⟨pe_makeSD M G hr hg hm hb hd (fun σ => passAt tk σ) ha.pa hdb he hpl, sn_make kc.v (fun δ ds h => by rw [ha.ln δ ds h]; exact hn) hdd ha.sa⟩
end
end DV
namespace DV
open PySem L2
section
variable {X : Cx} {W : WX} {K : PySem.W.Frag}
noncomputable def cNx0 : DS → Res T := fun _ => .ok (.nd (.dt []) [])
theorem cn_x0 {pos : Pos} : CN X W (.Dict [] [] pos) tXNew cNx0 := ⟨pe_xnew, fun B0 H0 δ σ B H Q rel hp p o hp' hd => by
  refine hp (.ref p) B _ (Grow.raw rel.g.i hp') ?_ fun q hq => ?_
  · rw [RT]
    refine ⟨p, [], [p], rfl, ⟨o, [], upd_same, ⟨hd, rfl, List.nodup_nil, fun k hk => nomatch hk⟩, rfl, rfl⟩, by rw [RTA]; trivial, fun q _ z => by rw [FTA] at z; exact z, ⟨o, [], upd_same, by rw [nkDs]; exact .nil⟩⟩
  · rw [FT] at hq
    obtain ⟨p', vs, fp, z, hc, hq⟩ := hq
    cases z
    obtain ⟨o', us, h1, _, rfl, rfl⟩ := hc
    rcases hq with hq | hq
    · rw [List.mem_singleton.mp hq]; exact ⟨hp', rel.g.i.free hp'⟩
    · rw [FTA] at hq; exact hq.elim⟩
end
section
variable {K : PySem.W.Frag} {B0 : Hp} {H0 : Org} {B H B' H' : Hp} {σ : L2.St} {δ : DS}
theorem Rel.chgN {i : Nat} {o : O} {z : Option O} {v v' : V} (r : Rel K B0 H0 B H σ δ) (e : δ[i]? = some (some o)) (es : σ[i]? = some (some v)) (g : Grow K B0 H0.h B' H') (sb : Same B B')
    (same : ∀ q u, ¬ Ft K H v q o → H q = some u → Kind u → H' q = H q ∧ B' q = B q) (new : ∀ o', z = some o' → SR K H0 B' H' v' o' ∧ ∀ q, Ft K H' v' q o' → Ft K H v q o ∨ ∀ (j : Nat) (oj : O) (w : V), δ[j]? = some (some oj) → σ[j]? = some (some w) → ¬ Ft K H w q oj) :
    Rel K B0 H0 B' H' (σ.set i (some v')) (δ.set i z) := by
  have hl := Rel.lt e
  have stay : ∀ (j : Nat) (oj : O) (w : V), j ≠ i → δ[j]? = some (some oj) → σ[j]? = some (some w) → SR K H0 B' H' w oj ∧ ∀ q, Ft K H' w q oj ↔ Ft K H w q oj := fun j oj w hj ej ew => by
    obtain ⟨w', h1, h2⟩ := r.sl j oj ej
    rw [ew] at h1
    cases h1
    refine h2.move sb fun q hq => ?_
    obtain ⟨_, hb, u, hh, kd⟩ := h2.new q hq
    obtain ⟨s1, s2⟩ := same q u (fun z => r.sep i j o oj v w (Ne.symm hj) e ej es ew q z hq) hh kd
    exact ⟨s2.trans hb, s1⟩
  refine ⟨g, r.tk, r.nt, by simp [r.len], fun j oj ej => ?_, r.sepSet (fun hi => by rw [r.len]; exact hi) (fun j oj w hj ej ew q hq => ((stay j oj w hj ej ew).2 q).mp hq) fun o' ho j oj w hj ej ew q hq hq' => ?_⟩
  · rcases set_own ej with ⟨rfl, _, ho⟩ | ⟨hj, ej⟩
    · exact ⟨v', by rw [List.getElem?_set_self (by rw [r.len]; exact hl)], (new oj ho).1⟩
    · obtain ⟨w, h1, _⟩ := r.sl j oj ej
      rw [List.getElem?_set_ne hj]
      exact ⟨w, h1, (stay j oj w (Ne.symm hj) ej h1).1⟩
  · rcases (new o' ho).2 q hq with h | h
    · exact r.sep i j o oj v w (Ne.symm hj) e ej es ew q h hq'
    · exact h j oj w ej ew hq'
end
noncomputable def putN (f : Str) : List Str → List Str
  | [] => [f]
  | n :: ns => if n = f then n :: ns else n :: putN f ns
noncomputable def putTs (f : Str) (t : T) : List Str → List T → List T
  | n :: ns, x :: ts => if n = f then t :: ts else x :: putTs f t ns ts
  | _, _ => [t]
section
variable {K : PySem.W.Frag} {B H : Hp}
theorem putF_names (f : Str) (y : V) : ∀ fs : List (Str × V), (putF f y fs).map (·.1) = putN f (fs.map (·.1))
  | [] => rfl
  | (n, x) :: fs => by
    rw [show putF f y ((n, x) :: fs) = (if n = f then (n, y) :: fs else (n, x) :: putF f y fs) from rfl, List.map_cons, putN]
    split
    · rfl
    · rw [List.map_cons, putF_names f y fs]
theorem putF_rta {f : Str} {y : V} {t : T} : ∀ {fs : List (Str × V)} {ts : List T}, RTA K B H ts (fs.map (·.2)) → RT K B H t y → (∀ q, FT K H t y q → ¬ FTA K H ts (fs.map (·.2)) q) → RTA K B H (putTs f t (fs.map (·.1)) ts) ((putF f y fs).map (·.2)) ∧ ∀ q, FTA K H (putTs f t (fs.map (·.1)) ts) ((putF f y fs).map (·.2)) q → FTA K H ts (fs.map (·.2)) q ∨ FT K H t y q
  | [], [], _, h, _ => by
    constructor
    · show RTA K B H [t] [y]
      rw [RTA]
      exact ⟨h, by rw [RTA]; trivial, fun q _ z => by rw [FTA] at z; exact z⟩
    · intro q hq
      have hq' : FTA K H [t] [y] q := hq
      rw [FTA, FTA] at hq'
      exact .inr (hq'.resolve_right id)
  | [], _ :: _, h, _, _ => by rw [List.map_nil, RTA] at h; exact h.elim
  | _ :: _, [], h, _, _ => by rw [List.map_cons, RTA] at h; exact h.elim
  | (n, x) :: fs, t0 :: ts, h, ht, ap => by
    rw [List.map_cons, RTA] at h
    obtain ⟨h1, h2, h3⟩ := h
    rw [show putF f y ((n, x) :: fs) = (if n = f then (n, y) :: fs else (n, x) :: putF f y fs) from rfl, List.map_cons, putTs]
    have ap' : ∀ q, FT K H t y q → ¬ FTA K H ts (fs.map (·.2)) q := fun q hq z => ap q hq (by rw [List.map_cons, FTA]; exact .inr z)
    by_cases e : n = f
    · rw [if_pos e, if_pos e, List.map_cons]
      constructor
      · rw [RTA]; exact ⟨ht, h2, ap'⟩
      · intro q hq
        rw [FTA] at hq
        rw [List.map_cons, FTA]
        rcases hq with hq | hq
        · exact .inr hq
        · exact .inl (.inr hq)
    · rw [if_neg e, if_neg e, List.map_cons]
      obtain ⟨i1, i2⟩ := putF_rta (f := f) h2 ht ap'
      constructor
      · rw [RTA]
        refine ⟨h1, i1, fun q hq z => ?_⟩
        rcases i2 q z with z | z
        · exact h3 q hq z
        · exact ap q z (by rw [List.map_cons, FTA]; exact .inl hq)
      · intro q hq
        rw [FTA] at hq
        rw [List.map_cons, FTA]
        rcases hq with hq | hq
        · exact .inl (.inl hq)
        · rcases i2 q hq with z | z
          · exact .inl (.inr z)
          · exact .inr z
end
section
variable {X : Cx} {W : WX} {K : PySem.W.Frag}
noncomputable def cTfld (i : Nat) (cs : List Str) (f : Str) (fv : DS → Res T) : DS → Fl := fun δ => match asT δ i with
  | some (m, .ob c ns, ts) => if c ∈ cs ∧ ns.length < 1000 then stE (fv δ) δ fun t => .nx (δ.set i (some (.tr m (.ob c (putN f ns)) (putTs f t ns ts)))) else .no
  | _ => .no
theorem cs_tfld (K : PySem.W.Frag) (hK : X.K = K) (i : Nat) {cs : List Str} {x f : Str} {px pos pos' : Pos} {value : Expr} {tv : TE} {fv : DS → Res T} (hf : FldK K cs f) (ho : PE X (.Name x px) (tVar i)) (hv : CN X W value tv fv) (hs : swapsWith value (some (.Attribute (.Name x px) f pos')) pos.line X.env = pure false := by rfl) :
    CS X W (.Assign [.Attribute (.Name x px) f pos'] value pos) (sFld K (tVar i) tv f) (cTfld i cs f fv) := by
  subst hK
  refine ⟨ps_fld ho hv.pe hs, fun B0 H0 δ σ B H E rel hp => ?_⟩
  unfold cTfld at hp
  split at hp
  case h_2 => exact hp.elim
  case h_1 m c ns ts ha =>
  split at hp
  case isFalse => exact hp.elim
  case isTrue hc =>
  have ea := asT_some ha
  refine hv.sn B0 H0 δ σ B H _ rel ?_
  cases e : fv δ with
  | no => rw [e] at hp; exact hp.elim
  | er x => rw [e] at hp; exact fun c dx B' H' g rp => hp c dx σ B' H' g.b (rel.mono g) rp
  | ok t =>
    rw [e, stE_ok] at hp
    intro y B1 H1 g1 rt1 n1
    have rel1 := rel.mono g1
    obtain ⟨v, h1, hsr⟩ := rel1.sl i _ ea
    have rt0 := hsr.1
    rw [RT] at rt0
    obtain ⟨p, vs, fp, rfl, hcell, hr, hn⟩ := rt0
    obtain ⟨C, dx, fs, c1, c2, c3, rfl, rfl, rfl⟩ := hcell
    obtain ⟨C', k', na⟩ := hf c hc.1
    have := c3.symm.trans k'.v
    cases this
    refine ⟨_, h1, p, C, dx, fs, rfl, c1, k'.cl, na, by have := hc.2; simpa using this, ?_⟩
    have fp0 : ∀ q ∈ [p, dx], FT X.K H1 (.nd (.ob c (fs.map (·.1))) ts) (.ref p) q := fun q hq => by
      rw [FT]; exact ⟨p, _, _, rfl, ⟨C, dx, fs, c1, c2, c3, rfl, rfl, rfl⟩, .inl hq⟩
    have fts : ∀ q, FTA X.K H1 ts (fs.map (·.2)) q → FT X.K H1 (.nd (.ob c (fs.map (·.1))) ts) (.ref p) q := fun q hq => by
      rw [FT]; exact ⟨p, _, _, rfl, ⟨C, dx, fs, c1, c2, c3, rfl, rfl, rfl⟩, .inr hq⟩
    have ne : p ≠ dx := fun z => by rw [← z, c1] at c2; cases c2
    have old : ∀ q, FT X.K H1 (.nd (.ob c (fs.map (·.1))) ts) (.ref p) q → H q ≠ none := fun q hq z => by
      have r0 := rel.sl i _ ea
      obtain ⟨v', h1', hsr'⟩ := r0
      rw [h1] at h1'
      cases h1'
      have := ((SR.grow g1 hsr').2 q).mp hq
      obtain ⟨_, _, u, hu, _⟩ := hsr'.new q this
      rw [hu] at z
      cases z
    have ap : ∀ q, FT X.K H1 t y q → ¬ FTA X.K H1 ts (fs.map (·.2)) q := fun q hq z => old q (fts q z) (n1 q hq).1
    obtain ⟨i1, i2⟩ := putF_rta (f := f) hr rt1 ap
    have np : ∀ q, FTA X.K H1 (putTs f t (fs.map (·.1)) ts) ((putF f y fs).map (·.2)) q → q ≠ p ∧ q ≠ dx := fun q hq => by
      rcases i2 q hq with z | z
      · exact ⟨fun w => hn p (by simp) (w ▸ z), fun w => hn dx (by simp) (w ▸ z)⟩
      · exact ⟨fun w => old p (fp0 p (by simp)) (w ▸ (n1 q z).1), fun w => old dx (fp0 dx (by simp)) (w ▸ (n1 q z).1)⟩
    obtain ⟨m1, m2⟩ := RTA.move (B' := B1) (H' := upd H1 p (.ins C dx (putF f y fs))) _ _ i1 (Same.refl _) fun q hq => upd_ne (np q hq).1
    have hdx : upd H1 p (.ins C dx (putF f y fs)) dx = some (.own p) := by rw [upd_ne (Ne.symm ne)]; exact c2
    have rt2 : RT X.K B1 (upd H1 p (.ins C dx (putF f y fs))) (.nd (.ob c (putN f (fs.map (·.1)))) (putTs f t (fs.map (·.1)) ts)) (.ref p) := by
      rw [RT]
      exact ⟨p, _, [p, dx], rfl, ⟨C, dx, putF f y fs, upd_same, hdx, c3, putF_names f y fs, rfl, rfl⟩, m1, fun q hq z => by
        have := np q ((m2 q).mp z)
        simp only [List.mem_cons, List.not_mem_nil, or_false] at hq
        rcases hq with rfl | rfl
        · exact this.1 rfl
        · exact this.2 rfl, trivial⟩
    have hF := hsr.new
    obtain ⟨h0p, hbp, up, hup, kp⟩ := hF p (fp0 p (by simp))
    have := rel1.chgN (z := some (.tr m (.ob c (putN f (fs.map (·.1)))) (putTs f t (fs.map (·.1)) ts))) (v' := .ref p) ea h1 (rel1.g.poke h0p hbp hup kp) (Same.refl _) (fun q _ hq _ _ => ⟨upd_ne fun z => hq (z ▸ fp0 p (by simp)), rfl⟩) fun o' z => by
      cases z
      have sub : ∀ q, FT X.K (upd H1 p (.ins C dx (putF f y fs))) (.nd (.ob c (putN f (fs.map (·.1)))) (putTs f t (fs.map (·.1)) ts)) (.ref p) q → FT X.K H1 (.nd (.ob c (fs.map (·.1))) ts) (.ref p) q ∨ FT X.K H1 t y q := fun q hq => by
        rw [FT] at hq
        obtain ⟨p', vs', fp', z, hc', hq⟩ := hq
        cases z
        obtain ⟨rfl, rfl⟩ := cell_one (k := .ob c (putN f (fs.map (·.1)))) (vs := (putF f y fs).map (·.2)) (fp := [p, dx]) ⟨C, dx, putF f y fs, upd_same, hdx, c3, putF_names f y fs, rfl, rfl⟩ hc'
        rcases hq with hq | hq
        · exact .inl (fp0 q hq)
        · rcases i2 q ((m2 q).mp hq) with w | w
          · exact .inl (fts q w)
          · exact .inr w
      refine ⟨⟨rt2, fun q hq => ?_, hsr.2.2⟩, fun q hq => ?_⟩
      · rcases sub q hq with w | w
        · exact hsr.2.1 q w
        · exact ⟨rel.g.free (n1 q w).1, (n1 q w).2⟩
      · rcases sub q hq with w | w
        · exact .inl w
        · exact .inr fun j oj w' ej ew => rel.free' g1 (n1 q w).1 j oj w' ej ew
    rw [set_same h1] at this
    exact hp σ B1 _ g1.b this
end
end DV
namespace DV
open PySem L2
noncomputable def idxN (f : Str) : List Str → Option Nat
  | [] => none
  | n :: ns => if n = f then some 0 else (idxN f ns).map (· + 1)
section
variable {K : PySem.W.Frag} {B0 : Hp} {H0 : Org} {B H B' H' : Hp} {σ : L2.St} {δ : DS}
theorem idxN_look {f : Str} : ∀ {fs : List (Str × V)} {j : Nat}, idxN f (fs.map (·.1)) = some j → ∃ v, fs.lookup f = some v ∧ (fs.map (·.2))[j]? = some v
  | [], j, h => by cases h
  | (n, x) :: fs, j, h => by
    rw [List.map_cons, idxN] at h
    rw [List.lookup_cons]
    by_cases e : n = f
    · rw [if_pos e] at h
      cases h
      subst e
      exact ⟨x, by simp, rfl⟩
    · rw [if_neg e] at h
      have : (f == n) = false := by simpa using fun z => e z.symm
      rw [this]
      cases q : idxN f (fs.map (·.1)) with
      | none => rw [q] at h; cases h
      | some j' =>
        rw [q] at h
        cases h
        obtain ⟨v, h1, h2⟩ := idxN_look q
        exact ⟨v, h1, by simpa using h2⟩
end
section
variable {X : Cx} {W : WX} {K : PySem.W.Frag}
noncomputable def cpFld (cs : List Str) (f : Str) (fa : DS → Res (Nat × List Nat)) : DS → Res (Nat × List Nat) := fun δ => (fa δ).bind fun p => match nodeAt δ p.1 p.2 with
  | some (.nd (.ob c ns) ts) => if c ∈ cs then match idxN f ns with
    | some j => if j < ts.length then .ok (p.1, p.2 ++ [j]) else .no
    | none => .no else .no
  | _ => .no
theorem cp_fld (K : PySem.W.Frag) (hK : X.K = K) {cs : List Str} {e : Expr} {f : Str} {pos : Pos} {ta : TE} {fa : DS → Res (Nat × List Nat)} (hf : FldK K cs f) (h : CP X W e ta fa) (hb : attributeBase e f X.env (eval e X.env) = eval e X.env := by rfl) : CP X W (.Attribute e f pos) (tFld K ta f) (cpFld cs f fa) := by
  subst hK
  refine ⟨pe_fld h.pe hb, fun B0 H0 δ σ B H Q rel hp => ?_⟩
  unfold cpFld at hp
  refine h.sp B0 H0 δ σ B H _ rel ?_
  cases e : fa δ with
  | no => rw [e] at hp; exact hp
  | er x => rw [e] at hp; exact hp
  | ok p =>
    rw [e, Res.bind_ok] at hp
    intro v B1 H1 g1 va
    split at hp
    · rename_i c ns ts hn
      split at hp
      · rename_i hc
        split at hp
        · rename_i j hj
          split at hp
          · rename_i hjl
            obtain ⟨m, k0, ts0, v0, e1, es, va', a, rt, sub, new⟩ := (rel.mono g1).node hn va
            rw [RT] at rt
            obtain ⟨q, vs, fp, rfl, hcell, hr, hnn⟩ := rt
            obtain ⟨C, dx, fs, c1, c2, c3, rfl, rfl, rfl⟩ := hcell
            obtain ⟨C', k', na⟩ := hf c hc
            have := c3.symm.trans k'.v
            cases this
            obtain ⟨w, hw, hwj⟩ := idxN_look hj
            refine ⟨q, C, dx, fs, w, rfl, c1, k'.cl, na, hw, hp w B1 H1 g1 ?_⟩
            exact AtP.snoc va hn rfl ⟨C, dx, fs, c1, c2, c3, rfl, rfl, rfl⟩ (List.getElem?_eq_getElem hjl) hwj
          · exact hp.elim
        · exact hp.elim
      · exact hp.elim
    · exact hp.elim
end
section
variable {K : PySem.W.Frag} {B0 : Hp} {H0 : Org} {B H B' H' : Hp} {σ : L2.St} {δ : DS}
theorem Rel.wrX {i : Nat} {js : List Nat} {ks ks' : List NestedKey} {ts ts' : List T} {q : Addr} {o o' : Obj} {us us' : List (Int × Addr × V)} (r : Rel K B0 H0 B H σ δ) (n : nodeAt δ i js = some (.nd (.dt ks) ts)) (va : AtP K H σ δ i js (.ref q)) (hq : H q = some (Dx q o us)) (hd : DxO q o us)
    (hd' : DxO q o' us') (h1 : us'.map (·.1) = ks'.map nkHash) (h2 : ks'.Nodup) (h3 : ∀ k ∈ ks', nkOk k = true) (h4 : RpA K B (us'.map fun u => .ref u.2.1) (nkDs ks')) (h5 : RTA K B H ts' (us'.map (·.2.2))) (h6 : ∀ a, FTA K H ts' (us'.map (·.2.2)) a → FTA K H ts (us.map (·.2.2)) a) :
    Rel K B0 H0 B (upd H q (Dx q o' us')) σ (putAt δ i js (.nd (.dt ks') ts')) := by
  obtain ⟨m, k, ts0, v0, e, es, va', a, rt, sub, new⟩ := r.node n va
  unfold putAt
  rw [e]
  dsimp only
  have rt' := rt
  rw [RT] at rt'
  obtain ⟨p, vs, fp, z, hc, hr, hn⟩ := rt'
  cases z
  obtain ⟨o2, us2, hc1, hcs, rfl, rfl⟩ := hc
  obtain ⟨rfl, rfl⟩ := Dx.inj hd (Option.some.inj (hq.symm.trans hc1))
  have cl : cell K H q (us.map (·.2.2)) [q] (.dt ks) := ⟨o, us, hc1, hcs, rfl, rfl⟩
  have fq : FT K H (.nd (.dt ks) ts) (.ref q) q := by rw [FT]; exact ⟨q, _, [q], rfl, cl, .inl (by simp)⟩
  have nq : ∀ a, FTA K H ts' (us'.map (·.2.2)) a → a ≠ q := fun a ha z => hn q (by simp) (z ▸ h6 a ha)
  obtain ⟨m1, m2⟩ := RTA.move (B' := B) (H' := upd H q (Dx q o' us')) ts' _ h5 (Same.refl _) fun a ha => upd_ne (nq a ha)
  have cl' : cell K (upd H q (Dx q o' us')) q (us'.map (·.2.2)) [q] (.dt ks') := ⟨o', us', upd_same, ⟨hd', h1, h2, h3⟩, rfl, rfl⟩
  obtain ⟨hb0, hb⟩ := new q (sub q fq)
  refine r.putT e es va' a (r.g.poke hb0 hb hc1 (kind_dx hd)) (fun a ha _ => upd_ne fun z => ha (z ▸ fq)) (by
    rw [RT]
    exact ⟨q, _, [q], rfl, cl', m1, fun a ha z => nq a ((m2 a).mp z) (List.mem_singleton.mp ha), ⟨o', us', upd_same, h4⟩⟩) fun a ha => ?_
  rw [FT] at ha
  obtain ⟨p', vs', fp', z, hc2, ha⟩ := ha
  cases z
  obtain ⟨rfl, rfl⟩ := cell_one cl' hc2
  rcases ha with ha | ha
  · rw [List.mem_singleton.mp ha]; exact .inl fq
  · refine .inl ?_
    rw [FT]
    exact ⟨q, _, [q], rfl, cl, .inr (h6 a ((m2 a).mp ha))⟩
theorem Rel.nodeX {i : Nat} {js : List Nat} {ks : List NestedKey} {ts : List T} {v : V} (r : Rel K B0 H0 B H σ δ) (n : nodeAt δ i js = some (.nd (.dt ks) ts)) (va : AtP K H σ δ i js v) :
    ∃ q o us, v = .ref q ∧ H q = some (Dx q o us) ∧ DxO q o us ∧ DxAt K H q ks us ∧ RpA K B (us.map fun u => .ref u.2.1) (nkDs ks) ∧ RTA K B H ts (us.map (·.2.2)) := by
  obtain ⟨m, k, ts0, v0, e, es, va', a, rt, sub, new⟩ := r.node n va
  rw [RT] at rt
  obtain ⟨p, vs, fp, rfl, hc, hr, hn⟩ := rt
  obtain ⟨o, us, hc1, ⟨hd, c2, c3, c4⟩, rfl, rfl⟩ := hc
  obtain ⟨o', us', k1, k2⟩ := hn.k
  obtain ⟨_, rfl⟩ := Dx.inj hd (Option.some.inj (hc1.symm.trans k1))
  exact ⟨p, o, us, rfl, hc1, hd, ⟨⟨o, hc1, hd⟩, c2, c3, c4, keyAts_of r.g.i _ _ (nkInts_all c4) k2⟩, k2, hr⟩
theorem RTA.repK {k : NestedKey} {w : V} {d : D} (hw : Rp K B w d) : ∀ {ks : List NestedKey} {ts : List T} {us : List (Int × Addr × V)}, RTA K B H ts (us.map (·.2.2)) → RTA K B H (DV.repK k (fun _ => .im d) ks ts) ((DV.repK k (fun u => (u.1, u.2.1, w)) ks us).map (·.2.2)) ∧ ∀ a, FTA K H (DV.repK k (fun _ => .im d) ks ts) ((DV.repK k (fun u => (u.1, u.2.1, w)) ks us).map (·.2.2)) a → FTA K H ts (us.map (·.2.2)) a
  | [], ts, us, h => by
    have e1 : DV.repK k (fun _ => T.im d) [] ts = ts := by cases ts <;> rfl
    have e2 : DV.repK k (fun u : Int × Addr × V => (u.1, u.2.1, w)) [] us = us := by cases us <;> rfl
    rw [e1, e2]
    exact ⟨h, fun _ h => h⟩
  | _ :: _, [], [], h => ⟨h, fun _ h => h⟩
  | _ :: _, [], _ :: _, h => by rw [List.map_cons, RTA] at h; exact h.elim
  | _ :: _, _ :: _, [], h => by rw [List.map_nil, RTA] at h; exact h.elim
  | k' :: ks, t :: ts, u :: us, h => by
    rw [List.map_cons, RTA] at h
    obtain ⟨h1, h2, h3⟩ := h
    obtain ⟨i1, i2⟩ := RTA.repK (k := k) hw (ks := ks) h2
    rw [DV.repK, DV.repK, List.map_cons, List.map_cons]
    by_cases e : k' = k
    · rw [if_pos e, if_pos e]
      constructor
      · rw [RTA, RT]; exact ⟨hw, i1, fun q z => by rw [FT] at z; exact z.elim⟩
      · intro a ha
        rw [FTA, FT] at ha
        rw [FTA]
        exact .inr (i2 a (ha.resolve_left id))
    · rw [if_neg e, if_neg e]
      constructor
      · rw [RTA]; exact ⟨h1, i1, fun q hq z => h3 q hq (i2 q z)⟩
      · intro a ha
        rw [FTA] at ha ⊢
        exact ha.imp id (i2 a)
theorem RTA.delK {k : NestedKey} : ∀ {ks : List NestedKey} {ts : List T} {us : List (Int × Addr × V)}, RTA K B H ts (us.map (·.2.2)) → RTA K B H (DV.delK k ks ts) ((DV.delK k ks us).map (·.2.2)) ∧ ∀ a, FTA K H (DV.delK k ks ts) ((DV.delK k ks us).map (·.2.2)) a → FTA K H ts (us.map (·.2.2)) a
  | [], ts, us, h => by
    have e1 : DV.delK k [] ts = ts := by cases ts <;> rfl
    have e2 : DV.delK k [] us = us := by cases us <;> rfl
    rw [e1, e2]
    exact ⟨h, fun _ h => h⟩
  | _ :: _, [], [], h => ⟨h, fun _ h => h⟩
  | _ :: _, [], _ :: _, h => by rw [List.map_cons, RTA] at h; exact h.elim
  | _ :: _, _ :: _, [], h => by rw [List.map_nil, RTA] at h; exact h.elim
  | k' :: ks, t :: ts, u :: us, h => by
    rw [List.map_cons, RTA] at h
    obtain ⟨h1, h2, h3⟩ := h
    obtain ⟨i1, i2⟩ := RTA.delK (k := k) (ks := ks) h2
    rw [DV.delK, DV.delK, List.map_cons]
    by_cases e : k' = k
    · rw [if_pos e, if_pos e]
      exact ⟨i1, fun a ha => by rw [FTA]; exact .inr (i2 a ha)⟩
    · rw [if_neg e, if_neg e, List.map_cons]
      constructor
      · rw [RTA]; exact ⟨h1, i1, fun q hq z => h3 q hq (i2 q z)⟩
      · intro a ha
        rw [FTA] at ha ⊢
        exact ha.imp id (i2 a)
theorem nkDs_map : ∀ ks : List NestedKey, nkDs ks = ks.map nkD
  | [] => by rw [nkDs]; rfl
  | k :: ks => by rw [nkDs, List.map_cons, nkDs_map ks]
theorem RpA.delK {k : NestedKey} : ∀ {ks ls : List NestedKey} {us : List (Int × Addr × V)}, RpA K B (us.map fun u => .ref u.2.1) (nkDs ls) → RpA K B ((DV.delK k ks us).map fun u => .ref u.2.1) (nkDs (DV.delK k ks ls))
  | [], ls, us, h => by
    have e1 : DV.delK k [] ls = ls := by cases ls <;> rfl
    have e2 : DV.delK k [] us = us := by cases us <;> rfl
    rw [e1, e2]; exact h
  | _ :: _, [], [], h => h
  | _ :: _, [], _ :: _, h => by rw [nkDs] at h; cases h
  | _ :: _, _ :: _, [], h => by rw [nkDs] at h; cases h
  | k' :: ks, l :: ls, u :: us, h => by
    rw [List.map_cons, nkDs] at h
    cases h with
    | cons h1 h2 =>
      rw [DV.delK, DV.delK]
      by_cases e : k' = k
      · rw [if_pos e, if_pos e]; exact RpA.delK h2
      · rw [if_neg e, if_neg e, List.map_cons, nkDs]; exact .cons h1 (RpA.delK h2)
end
noncomputable def keysPut (ks : List NestedKey) (k : NestedKey) : List NestedKey := if k ∈ ks then ks else ks ++ [k]
noncomputable def tsPut (ks : List NestedKey) (ts : List T) (k : NestedKey) (d : D) : List T := if k ∈ ks then repK k (fun _ => .im d) ks ts else ts ++ [.im d]
theorem atK_iff {α : Type} {ks : List NestedKey} {xs : List α} (hl : ks.length = xs.length) (k : NestedKey) : (atK k ks xs).isSome = true ↔ k ∈ ks := by
  constructor
  · intro h
    by_cases hk : k ∈ ks
    · exact hk
    · rw [atK_none k ks xs hk] at h; cases h
  · intro h
    obtain ⟨x, hx⟩ := atK_some k ks xs h hl
    rw [hx]; rfl
section
variable {K : PySem.W.Frag} {B0 : Hp} {H0 : Org} {B H B' H' : Hp} {σ : L2.St} {δ : DS}
theorem nkDs_app (ks : List NestedKey) (k : NestedKey) : nkDs (ks ++ [k]) = nkDs ks ++ [nkD k] := by rw [nkDs_map, nkDs_map, List.map_append]; rfl
theorem Rel.putX {i : Nat} {js : List Nat} {ks : List NestedKey} {ts : List T} {q b : Addr} {o o' : Obj} {us : List (Int × Addr × V)} {k : NestedKey} {w : V} {d : D} (r : Rel K B0 H0 B H σ δ) (n : nodeAt δ i js = some (.nd (.dt ks) ts)) (va : AtP K H σ δ i js (.ref q)) (hq : H q = some (Dx q o us)) (hd : DxO q o us) (da : DxAt K H q ks us)
    (kq : RpA K B (us.map fun u => .ref u.2.1) (nkDs ks)) (hr : RTA K B H ts (us.map (·.2.2))) (ok : nkOk k = true) (rk : Rp K B (.ref b) (nkD k)) (rw' : Rp K B w d) (hd' : DxO q o' (putU ks us k b w)) :
    Rel K B0 H0 B (upd H q (Dx q o' (putU ks us k b w))) σ (putAt δ i js (.nd (.dt (keysPut ks k)) (tsPut ks ts k d))) := by
  have hl := da.len
  have iff := atK_iff hl k
  unfold keysPut tsPut putU at *
  by_cases hk : k ∈ ks
  · rw [if_pos (iff.mpr hk)] at hd' ⊢
    rw [if_pos hk, if_pos hk]
    obtain ⟨i1, i2⟩ := RTA.repK (k := k) rw' (ks := ks) hr
    refine r.wrX n va hq hd hd' ?_ da.nd da.ok ?_ i1 i2
    · rw [repK_keep k (fun u : Int × Addr × V => (u.1, u.2.1, w)) (·.1) (fun _ => rfl)]; exact da.hs
    · rw [repK_keep k (fun u : Int × Addr × V => (u.1, u.2.1, w)) (fun u => V.ref u.2.1) (fun _ => rfl)]; exact kq
  · have : ¬ (atK k ks us).isSome = true := fun z => hk (iff.mp z)
    rw [if_neg this] at hd' ⊢
    rw [if_neg hk, if_neg hk]
    have hrl := hr.length
    rw [List.length_map] at hrl
    refine r.wrX n va hq hd hd' ?_ ?_ ?_ ?_ ?_ ?_
    · rw [List.map_append, List.map_append, da.hs]; rfl
    · rw [List.nodup_append]
      refine ⟨da.nd, by simp, fun a ha b hb => ?_⟩
      rw [List.mem_singleton.mp hb]
      exact fun z => hk (z ▸ ha)
    · intro x hx
      rcases List.mem_append.mp hx with hx | hx
      · exact da.ok x hx
      · rw [List.mem_singleton.mp hx]; exact ok
    · rw [List.map_append, nkDs_app]; exact kq.append (.cons rk .nil)
    · rw [List.map_append]; exact hr.snoc (by rw [RT]; exact rw') fun a _ z => by rw [FT] at z; exact z
    · intro a ha
      rw [List.map_append] at ha
      rcases (FTA.snoc (by rw [List.length_map]; exact hrl) a).mp ha with z | z
      · exact z
      · rw [FT] at z; exact z.elim
theorem Rel.popX {i : Nat} {js : List Nat} {ks : List NestedKey} {ts : List T} {q : Addr} {o o' : Obj} {us : List (Int × Addr × V)} {k : NestedKey} (r : Rel K B0 H0 B H σ δ) (n : nodeAt δ i js = some (.nd (.dt ks) ts)) (va : AtP K H σ δ i js (.ref q)) (hq : H q = some (Dx q o us)) (hd : DxO q o us) (da : DxAt K H q ks us)
    (kq : RpA K B (us.map fun u => .ref u.2.1) (nkDs ks)) (hr : RTA K B H ts (us.map (·.2.2))) (hd' : DxO q o' (delK k ks us)) :
    Rel K B0 H0 B (upd H q (Dx q o' (delK k ks us))) σ (putAt δ i js (.nd (.dt (delK k ks ks)) (delK k ks ts))) := by
  obtain ⟨i1, i2⟩ := RTA.delK (k := k) (ks := ks) hr
  refine r.wrX n va hq hd hd' ?_ ?_ ?_ (RpA.delK kq) i1 i2
  · rw [← delK_map, ← delK_map, da.hs]
  · rw [delK_self]; exact da.nd.filter _
  · intro x hx
    rw [delK_self] at hx
    exact da.ok x (List.mem_filter.mp hx).1
end
section
variable {X : Cx} {W : WX} {K : PySem.W.Frag}
noncomputable def cTputX (fp : DS → Res (Nat × List Nat)) (fk fv : DS → Res D) : DS → Fl := fun δ => stE (fv δ) δ fun d => stE (fp δ) δ fun p => stE (fk δ) δ fun y => match nodeAt δ p.1 p.2, keyD y with
  | some (.nd (.dt ks) ts), some k => if ks.length < sizeLine then .nx (putAt δ p.1 p.2 (.nd (.dt (keysPut ks k)) (tsPut ks ts k d))) else .no
  | _, _ => .no
theorem cs_tputX (K : PySem.W.Frag) (hK : X.K = K) {o i value : Expr} {pos pos' : Pos} {td ty tv : TE} {fp : DS → Res (Nat × List Nat)} {fk fv : DS → Res D} (hu : X.A.units + 64 < cLine) (ho : CP X W o td fp) (hi : CE X W i ty fk) (hv : CE X W value tv fv) (hs : swapsWith value (some (.Subscript o i pos')) pos.line X.env = pure false := by rfl) :
    CS X W (.Assign [.Subscript o i pos'] value pos) (sXPut K td ty tv) (cTputX fp fk fv) := by
  subst hK
  refine ⟨ps_xput hu ho.pe hi.pe hv.pe hs, fun B0 H0 δ σ B H E rel hp => ?_⟩
  unfold cTputX at hp
  refine hv.se B0 H0 δ σ B H _ rel ?_
  cases e1 : fv δ with
  | no => rw [e1] at hp; exact hp
  | er x => rw [e1] at hp; exact fun c dx B' H' g rp => hp c dx σ B' H' g.b (rel.mono g) rp
  | ok d =>
    rw [e1, stE_ok] at hp
    intro w B1 H1 g1 r1
    refine ho.sp B0 H0 δ σ B1 H1 _ (rel.mono g1) ?_
    cases e2 : fp δ with
    | no => rw [e2] at hp; exact hp
    | er x => rw [e2] at hp; exact fun c dx B' H' g rp => hp c dx σ B' H' (g1.trans g).b ((rel.mono g1).mono g) rp
    | ok p =>
      rw [e2, stE_ok] at hp
      intro v B2 H2 g2 va
      refine hi.se B0 H0 δ σ B2 H2 _ ((rel.mono g1).mono g2) ?_
      cases e3 : fk δ with
      | no => rw [e3] at hp; exact hp
      | er x => rw [e3] at hp; exact fun c dx B' H' g rp => hp c dx σ B' H' ((g1.trans g2).trans g).b (((rel.mono g1).mono g2).mono g) rp
      | ok y =>
        rw [e3, stE_ok] at hp
        intro yv B3 H3 g3 r3
        have rel3 := ((rel.mono g1).mono g2).mono g3
        split at hp
        · rename_i ks ts k hn hk
          split at hp
          · rename_i hz
            have va3 := va.mono ((rel.mono g1).mono g2) g3
            obtain ⟨q, ob, us, rfl, hq, hd, da, kq, hr⟩ := rel3.nodeX hn va3
            obtain ⟨k1, k2⟩ := keyD_of hk r3 g3.i
            obtain ⟨b, rfl⟩ := key_ref k2 k1
            refine ⟨q, ks, us, k, b, rfl, rfl, da, k1, k2, by rw [← da.len]; exact hz, fun o' hd' => ?_⟩
            exact hp σ B3 _ ((g1.trans g2).trans g3).b (rel3.putX hn va3 hq hd da kq hr k1 (by rw [(keyD_nk hk).2]; exact r3) (r1.mono (g2.b.trans g3.b)) hd')
          · exact hp.elim
        · exact hp.elim
noncomputable def cTpopX (fp : DS → Res (Nat × List Nat)) (fk : DS → Res D) : DS → Fl := fun δ => stE (fp δ) δ fun p => match nodeAt δ p.1 p.2 with
  | some (.nd (.dt ks) ts) => stE (fk δ) δ fun y => match keyD y with
    | some k => if k ∈ ks then .nx (putAt δ p.1 p.2 (.nd (.dt (delK k ks ks)) (delK k ks ts))) else .no
    | none => .no
  | _ => .no
theorem cs_tpopX (K : PySem.W.Frag) (hK : X.K = K) {o e : Expr} {pos apos cpos : Pos} {td ty : TE} {fp : DS → Res (Nat × List Nat)} {fk : DS → Res D} (hu : X.A.units + 64 < cLine) (ho : CP X W o td fp) (hi : CE X W e ty fk) (hm : M1 X o "pop" apos e cpos := by exact ⟨rfl, rfl, rfl, rfl⟩) (hs : swapsWith (.Call (.Attribute o "pop" apos) [e] [] cpos) none pos.line X.env = pure false := by rfl) :
    CS X W (.Expr (.Call (.Attribute o "pop" apos) [e] [] cpos) pos) (tDrop (tXPop K td ty)) (cTpopX fp fk) := by
  subst hK
  refine ⟨ps_expr (pe_xpop hu ho.pe hi.pe hm) hs, fun B0 H0 δ σ B H E rel hp => ?_⟩
  unfold cTpopX at hp
  refine ho.sp B0 H0 δ σ B H _ rel ?_
  cases e2 : fp δ with
  | no => rw [e2] at hp; exact hp
  | er x => rw [e2] at hp; exact fun c dx B' H' g rp => hp c dx σ B' H' g.b (rel.mono g) rp
  | ok p =>
    rw [e2, stE_ok] at hp
    intro v B2 H2 g2 va
    split at hp
    case h_2 => exact hp.elim
    case h_1 ks ts hn =>
    obtain ⟨q, ob, us, rfl, hq, hd, da, kq, hr⟩ := (rel.mono g2).nodeX hn va
    refine ⟨q, rfl, da.isX, hi.se B0 H0 δ σ B2 H2 _ (rel.mono g2) ?_⟩
    cases e3 : fk δ with
    | no => rw [e3] at hp; exact hp
    | er x => rw [e3] at hp; exact fun c dx B' H' g rp => hp c dx σ B' H' (g2.trans g).b ((rel.mono g2).mono g) rp
    | ok y =>
      rw [e3, stE_ok] at hp
      intro yv B3 H3 g3 r3
      have rel3 := (rel.mono g2).mono g3
      split at hp
      · rename_i k hk
        split at hp
        · rename_i hin
          have va3 := va.mono (rel.mono g2) g3
          obtain ⟨q', ob', us', hq', hh, hd3, da3, kq3, hr3⟩ := rel3.nodeX hn va3
          cases hq'
          obtain ⟨k1, k2⟩ := keyD_of hk r3 g3.i
          obtain ⟨b, rfl⟩ := key_ref k2 k1
          obtain ⟨z, hz⟩ := atK_some k ks us' hin da3.len
          exact ⟨ks, us', k, b, z, rfl, da3, k1, k2, hz, fun o' hd' => hp σ B3 _ (g2.trans g3).b (rel3.popX hn va3 hh hd3 da3 kq3 hr3 hd')⟩
        · exact hp.elim
      · exact hp.elim
end
end DV
namespace DV
open PySem L2
section
variable {X : Cx} {K : PySem.W.Frag} {pins : List (Addr × Obj)} {σ : L2.St} {H : Hp} {s : Shared} {k n : Nat} {C f a dx : Addr} {fs : List (Str × V)} {fd : FuncData} {ps : List Str} {sp : Sp}
theorem run_in1 {Q : VK} {R : Value → Shared → Prop} (F : FnOk X.prog X.w X.K X.mg X.base (L2.CX X.prog X.w) k f fd ps sp) (hr : Room (k + 1) X.A) (hb : Binds X.K fd ps []) (I : Inv X pins σ H s) (h : sp [.ref a] H Q (fun _ _ _ => False)) (hR : ∀ u s', EP X pins σ Q u s' → R u s') :
    wpAny (model X.prog X.w) X.A.in1 (call (.ref f) [.ref a]) R X.xe s := by
  have hv : Vals [V.ref a] [Value.ref a] := .cons rfl .nil
  have hl : ([Value.ref a] ++ []).length = ps.length := F.len _ _ _ _ h
  refine wpAny_call (codeAny_mono (F.run X.A.in1 X.stack s H ⟨[.ref a], []⟩ [.ref a] [.ref a] Q (fun _ _ _ => False) hr.in1 I.env0.in1 (by simpa using hb s [.ref a] I.kIn hl) hv h) fun r s' hq => ?_)
  cases r with
  | error e =>
    obtain ⟨_, _, _, _, _, _, _, _, _, _, _, _, z⟩ := hq
    exact z.elim
  | ok fl =>
    cases fl with
    | ret u => exact hR u s' (I.after hq)
    | next => exact False.elim hq
    | brk => exact False.elim hq
    | cont => exact False.elim hq
theorem inst_at (I : Inv X pins σ H s) (e : H a = some (.ins C dx fs)) : ∃ od, PySem.W.InstAt s.heap a (PySem.W.instObj C dx) C (some od) := by
  obtain ⟨mA, O, _⟩ := ins_get I.hok e
  obtain ⟨od, J, _⟩ := O.look
  exact ⟨od, J⟩
noncomputable def rLenO (C : Addr) (sp : Sp) : List V → Hp → VK → Prop := fun xs H Q => ∃ a dx fs, xs = [.ref a] ∧ H a = some (.ins C dx fs) ∧ sp [.ref a] H (fun v H' => ∃ n : Int, v = .int n ∧ 0 ≤ n ∧ n < 2 ^ 63 ∧ Q (.int n) H') (fun _ _ _ => False)
theorem call_lenO (hs : PySem.W.findIn X.K (.ref C) "__len__" = some (some (.ref f))) (hf : PySem.W.isFn X.K (.ref f) = true) (F : FnOk X.prog X.w X.K X.mg X.base (L2.CX X.prog X.w) k f fd ps sp) (hr : Room (k + 1) X.A) (hb : Binds X.K fd ps []) : CallR X (.builtin "len") (rLenO C sp) := by
  intro pins s σ H xs us Q I r h
  obtain ⟨a, dx, fs, rfl, e, h⟩ := h
  obtain ⟨u, rfl, rx⟩ := r.one
  cases rx
  obtain ⟨od, J⟩ := inst_at I e
  apply Calls.call_function_entry PySem.kind_len PySem.plain_len PySem.entry_len (PySem.args_len1 _)
  · unfold Builtin.«len»
    refine wpAny_bind (m := oneArg "len" _) (wpAny_pure ?_)
    refine wpAny_bind (m := callSpecial? (.ref a) (Str.ofString "__len__")) (PySem.W.special_fn I.kIn J hs (beq_iff_eq.mp hf) (run_in1 F hr hb I h fun u s' q => ?_))
    obtain ⟨v, H', I', rv, n, rfl, h0, h1, q⟩ := q
    obtain ⟨t, rfl⟩ := rv
    refine wpAny_bind (wpAny_holding (wpAny_pure (wpAny_bind (wpAny_letGo ?_))))
    have e0 : ¬ n < 0 := by omega
    have e1 : ¬ n ≥ 2 ^ 63 := by omega
    show wpAny _ _ (if n < 0 then _ else _) _ _ _
    rw [if_neg e0]
    show wpAny _ _ (if n ≥ 2 ^ 63 then _ else _) _ _ _
    rw [if_neg e1]
    exact wpAny_bind (wpAny_mkInt (wpAny_pure ⟨_, rfl, .int n, H', I'.tok _, ⟨_, rfl⟩, q⟩))
noncomputable def rReprO (C : Addr) (sp : Sp) : List V → Hp → VK → Prop := fun xs H Q => ∃ a dx fs, xs = [.ref a] ∧ H a = some (.ins C dx fs) ∧ sp [.ref a] H (fun v H' => ∃ z : Str, v = .str z ∧ Q (.str z) H') (fun _ _ _ => False)
theorem call_reprO (hs : PySem.W.findIn X.K (.ref C) "__repr__" = some (some (.ref f))) (hf : PySem.W.isFn X.K (.ref f) = true) (F : FnOk X.prog X.w X.K X.mg X.base (L2.CX X.prog X.w) k f fd ps sp) (hr : Room (k + 1) X.A) (hb : Binds X.K fd ps []) : CallR X (.builtin "repr") (rReprO C sp) := by
  intro pins s σ H xs us Q I r h
  obtain ⟨a, dx, fs, rfl, e, h⟩ := h
  obtain ⟨u, rfl, rx⟩ := r.one
  cases rx
  obtain ⟨od, J⟩ := inst_at I e
  have hu : X.A.in1.units < cLine := by have := hr.un; rw [Around.in1_units]; omega
  apply Calls.call_function_entry PySem.F.kind_repr PySem.F.plain_repr PySem.F.entry_repr (PySem.F.args_repr1 _)
  · unfold Builtin.«repr»
    refine wpAny_bind (m := oneArg "repr" _) (wpAny_pure (wpAny_bind (wpAny_cRoomFor hu ?_)))
    refine wpAny_bind (wpAny_bind (J.type.here ((PySem.W.looks_findIn I.kIn hs).here ?_)))
    show wpAny _ _ (if (some (Value.ref f)).isNone = true then _ else _) _ _ _
    rw [if_neg (by simp : ¬ (some (Value.ref f)).isNone = true)]
    refine wpAny_bind (m := callSpecialIfBound? (.ref a) (Str.ofString "__repr__") _) (PySem.W.ifBound_K I.kIn J hs hf (run_in1 F hr hb I h fun u s' q => ?_))
    obtain ⟨v, H', I', rv, z, rfl, q⟩ := q
    obtain ⟨t, rfl⟩ := rv
    refine wpAny_bind (wpAny_isInstance (typeIs_str _ _ _) isSubtype_str_str ?_)
    first
      | exact wpAny_pure ⟨_, rfl, .str z, H', I', ⟨_, rfl⟩, q⟩
      | (rw [if_pos rfl]; exact wpAny_pure ⟨_, rfl, .str z, H', I', ⟨_, rfl⟩, q⟩)
      | (simp only [if_true]; exact wpAny_pure ⟨_, rfl, .str z, H', I', ⟨_, rfl⟩, q⟩)
end
end DV
namespace DV
open PySem L2 PySem.Spec PySem.Calls PyProof.Rows
section
variable {X : Cx} {pins : List (Addr × Obj)} {σ : L2.St} {H : Hp} {s : Shared} {a : Addr} {ks : List NestedKey} {us : List (Int × Addr × V)} {k : NestedKey} {v : V} {r : Value} {A : Around} {E : Value → Shared → Prop}
end
section
variable {X : Cx}
end
end DV
namespace DV
open PySem L2
section
variable {X : Cx} {W : WX} {K : PySem.W.Frag}
end
end DV
namespace DV
open PySem L2
section
variable {X : Cx} {W : WX} {K : PySem.W.Frag}
noncomputable def cTaugX (fp : DS → Res (Nat × List Nat)) (fk fv : DS → Res D) : DS → Fl := fun δ => stE (fp δ) δ fun p => stE (fk δ) δ fun y => match nodeAt δ p.1 p.2, keyD y with
  | some (.nd (.dt ks) ts), some k => match atK k ks ts with
    | some (.im (.v (.int i))) => stE (fv δ) δ fun z => match z with
      | .v (.int j) => if ks.length < sizeLine then .nx (putAt δ p.1 p.2 (.nd (.dt (keysPut ks k)) (tsPut ks ts k (.int (i + j))))) else .no
      | _ => .no
    | _ => .no
  | _, _ => .no
noncomputable def gInt : List D → Res D
  | [.v (.int i)] => .ok (.int i)
  | [.v (.bl b)] => .ok (.int (if b = true then 1 else 0))
  | _ => .no
end
end DV
namespace DV
open PySem L2
section
variable {X : Cx} {W : WX} {K : PySem.W.Frag}
theorem k_int : OKC X (.type "int") (fun xs H Q => (∃ i, xs = [.int i] ∧ Q (.int i) H) ∨ ∃ k, xs = [.bl k] ∧ Q (.int (if k then 1 else 0)) H) gInt := ⟨call_int1, fun vs ds B H Q i r h => by
  unfold gInt at h
  split at h
  · cases r with
    | cons r1 r2 => cases r2; cases r1; exact .inl ⟨_, rfl, h _ B H (Grow.refl i) (.v _)⟩
  · cases r with
    | cons r1 r2 => cases r2; cases r1; exact .inr ⟨_, rfl, h _ B H (Grow.refl i) (.v _)⟩
  · exact h.elim, fun ds x => by unfold gInt; split <;> simp⟩
noncomputable def gStr : List D → Res D
  | [.v (.int i)] => if i.natAbs.log2 < 1920 then .ok (.str (toString i)) else .no
  | _ => .no
theorem k_str : OKC X (.type "str") (fun xs H Q => ∃ i, xs = [.int i] ∧ i.natAbs.log2 < 1920 ∧ Q (.str (toString i)) H) gStr := ⟨call_str_int, fun vs ds B H Q i r h => by
  unfold gStr at h
  split at h
  · split at h
    · rename_i hz
      cases r with
      | cons r1 r2 => cases r2; cases r1; exact ⟨_, rfl, hz, h _ B H (Grow.refl i) (.v _)⟩
    · exact h.elim
  · exact h.elim, fun ds x => by unfold gStr; split <;> (try split) <;> simp⟩
noncomputable def oLenO (c : Str) (F : List D → Res D) : D → Res D
  | .ins c' ns vs => if c' = c then match F [.ins c' ns vs] with
    | .ok (.v (.int n)) => if 0 ≤ n ∧ n.natAbs < 9223372036854775808 then .ok (.int n) else .no
    | _ => .no else .no
  | _ => .no
noncomputable def cLenO (c : Str) (F : List D → Res D) (fe : DS → Res D) : DS → Res D := fun δ => (fe δ).bind (oLenO c F)
theorem ce_lenO (K : PySem.W.Frag) (hK : X.K = K) {k : Nat} {c : Str} {C f : Addr} {fd : FuncData} {ps : List Str} {F : List D → Res D} {p pos : Pos} {e : Expr} {te : TE} {fe : DS → Res D} (kc : ClK K c C) (hm : Meth K C "__len__" f) (G : FnOk X.prog X.w K X.mg X.base (L2.CX X.prog X.w) k f fd ps (spD K 1 F)) (hr : Room (k + 1) X.A) (hb : Binds K fd ps [])
    (hn : X.mg "len" = none) (he : CE X W e te fe) (hg : Gl X "len" := by rfl) (hst : starEach [e] X.env = (false, eval e X.env) :: starEach [] X.env := by rfl) (hpl : (backTo pos (starEach [] X.env)).any (·.1) = false := by rfl) :
    CE X W (.Call (.Name "len" p) [e] [] pos) (tCB (rLenO C (spD K 1 F)) (tCons te tNil)) (cLenO c F fe) := by
  subst hK
  refine ⟨pe_callB (call_lenO hm.at_ hm.fn G hr hb) hg hn (by decide +kernel) (pa_cons he.pe pa_nil hst) (by decide) (by decide) hst hpl, fun B0 H0 δ σ B H Q rel hp => ?_⟩
  unfold cLenO at hp
  refine he.se B0 H0 δ σ B H _ rel ?_
  cases e : fe δ with
  | no => rw [e] at hp; exact hp
  | er x => rw [e] at hp; exact hp
  | ok d =>
    rw [e, Res.bind_ok] at hp
    intro v B1 H1 g1 r1
    have rel1 := rel.mono g1
    unfold oLenO at hp
    split at hp
    · rename_i c' ns vs
      split at hp
      · rename_i hc
        subst hc
        obtain ⟨a, C', dx, fs, rfl, hb1, hv, rfl, q⟩ := ins_of r1
        have := hv.symm.trans kc.v
        cases this
        refine ⟨a, dx, fs, rfl, g1.i _ _ hb1, rfl, [.ins c' (fs.map (·.1)) vs], B1, g1.i, .cons r1 .nil, ⟨fun p hp' => rel1.g.t p (rel1.tk p hp'), rel1.g.tb rel1.nt⟩, ?_⟩
        split at hp
        · rename_i n hF
          split at hp
          · rename_i hz
            rw [hF]
            intro v B' H' g' rp
            cases rp
            exact ⟨n, rfl, hz.1, by have := hz.2; omega, hp _ B' H' (g1.trans g') (.v _)⟩
          · exact hp.elim
        · exact hp.elim
      · exact hp.elim
    · exact hp.elim
noncomputable def oReprO (c : Str) (F : List D → Res D) : D → Res D
  | .ins c' ns vs => if c' = c then match F [.ins c' ns vs] with
    | .ok (.v (.str z)) => .ok (.str z)
    | _ => .no else .no
  | _ => .no
noncomputable def cReprO (c : Str) (F : List D → Res D) (fe : DS → Res D) : DS → Res D := fun δ => (fe δ).bind (oReprO c F)
theorem ce_reprO (K : PySem.W.Frag) (hK : X.K = K) {k : Nat} {c : Str} {C f : Addr} {fd : FuncData} {ps : List Str} {F : List D → Res D} {p pos : Pos} {e : Expr} {te : TE} {fe : DS → Res D} (kc : ClK K c C) (hm : Meth K C "__repr__" f) (G : FnOk X.prog X.w K X.mg X.base (L2.CX X.prog X.w) k f fd ps (spD K 1 F)) (hr : Room (k + 1) X.A) (hb : Binds K fd ps [])
    (hn : X.mg "repr" = none) (he : CE X W e te fe) (hg : Gl X "repr" := by rfl) (hst : starEach [e] X.env = (false, eval e X.env) :: starEach [] X.env := by rfl) (hpl : (backTo pos (starEach [] X.env)).any (·.1) = false := by rfl) :
    CE X W (.Call (.Name "repr" p) [e] [] pos) (tCB (rReprO C (spD K 1 F)) (tCons te tNil)) (cReprO c F fe) := by
  subst hK
  refine ⟨pe_callB (call_reprO hm.at_ hm.fn G hr hb) hg hn (by decide +kernel) (pa_cons he.pe pa_nil hst) (by decide) (by decide) hst hpl, fun B0 H0 δ σ B H Q rel hp => ?_⟩
  unfold cReprO at hp
  refine he.se B0 H0 δ σ B H _ rel ?_
  cases e : fe δ with
  | no => rw [e] at hp; exact hp
  | er x => rw [e] at hp; exact hp
  | ok d =>
    rw [e, Res.bind_ok] at hp
    intro v B1 H1 g1 r1
    have rel1 := rel.mono g1
    unfold oReprO at hp
    split at hp
    · rename_i c' ns vs
      split at hp
      · rename_i hc
        subst hc
        obtain ⟨a, C', dx, fs, rfl, hb1, hv, rfl, q⟩ := ins_of r1
        have := hv.symm.trans kc.v
        cases this
        refine ⟨a, dx, fs, rfl, g1.i _ _ hb1, rfl, [.ins c' (fs.map (·.1)) vs], B1, g1.i, .cons r1 .nil, ⟨fun p hp' => rel1.g.t p (rel1.tk p hp'), rel1.g.tb rel1.nt⟩, ?_⟩
        split at hp
        · rename_i z hF
          rw [hF]
          intro v B' H' g' rp
          cases rp
          exact ⟨z, rfl, hp _ B' H' (g1.trans g') (.v _)⟩
        · exact hp.elim
      · exact hp.elim
    · exact hp.elim
end
end DV
namespace DV
open PySem L2
section
variable {X : Cx} {pins : List (Addr × Obj)} {σ : L2.St} {H : Hp} {s : Shared} {A : Around} {E : Value → Shared → Prop} {a b : Addr} {ks : List NestedKey} {us : List (Int × Addr × V)} {k : NestedKey} {v : V} {r : Value}
end
section
variable {X : Cx} {o e f : Expr} {apos cpos : Pos} {td ty tx : TE}
end
section
variable {X : Cx} {W : WX} {K : PySem.W.Frag}
end
end DV
namespace DV
open PySem L2
section
variable {X : Cx}
end
section
variable {X : Cx} {K : PySem.W.Frag}
end
end DV
namespace DV
open PySem L2
section
variable {X : Cx} {W : WX} {K : PySem.W.Frag}
end
section
variable {X : Cx} {W : WX} {K : PySem.W.Frag}
end
section
variable {P : Program} {w : World} {K : PySem.W.Frag} {mg : Str → Option Value} {base : Heap}
end
section
variable {X : Cx} {W : WX} {K : PySem.W.Frag}
end
section
variable {X : Cx} {W : WX} {K : PySem.W.Frag}
end
end DV
namespace DV
open PySem L2 PySem.Spec PySem.Calls PyProof.Rows PySem.W
section
variable {prog : Program} {w : World} {A : Around} {E : Value → Shared → Prop} {s : Shared}
end
section
variable {X : Cx} {W : WX} {K : PySem.W.Frag}
end
end DV
namespace DV
open PySem L2 PySem.Spec PySem.Calls PyProof.Rows
section
variable {X : Cx} {pins : List (Addr × Obj)} {σ : L2.St} {H : Hp} {s : Shared}
end
section
variable {K : PySem.W.Frag} {B H : Hp}
end
end DV
namespace DV
open PySem L2 PySem.Spec PySem.Calls PyProof.Rows
noncomputable def CTest (X : Cx) (tt : Expr) (pv : Value → Option Bool) : Prop := ∀ (a : Addr) (oe : Obj) (pn pins : List (Addr × Obj)) (σ : L2.St) (H : Hp) (s : Shared) (cls : Value) (b : Bool) (Q : Bool → Shared → Prop) (E : Value → Shared → Prop), Inv (X.suite a ((a, oe) :: pn)) pins σ H s →
  PySem.W.Looks (model X.prog X.w) s.heap (typeOf (.ref a)) cls → X.K.In s.heap → pv cls = some b → (∀ h', (∀ q o, s.heap.get? q = some o → h'.get? q = some o) → Q b { s with heap := h' }) →
  wpAny (model X.prog X.w) (X.A.mark (some (.ref a))) (eval tt X.env) (fun c s₁ => wpAny (model X.prog X.w) (X.A.mark (some (.ref a))) (excMatches (.ref a) c) Q E s₁) E s
section
variable {X : Cx}
theorem name_ld {x : Str} {c : Value} {np : Pos} (hc : Names X x c) {a : Addr} {oe : Obj} {pn pins : List (Addr × Obj)} {σ : L2.St} {H : Hp} {s : Shared} (S : Inv (X.suite a ((a, oe) :: pn)) pins σ H s) {Q : Value → Shared → Prop} {E : Value → Shared → Prop} (q : Q c s) :
    wpAny (model X.prog X.w) (X.A.mark (some (.ref a))) (eval (.Name x np) X.env) Q E s := by
  obtain ⟨hg, hdbg, hm | ⟨hm, hv, hnn⟩⟩ := hc
  · exact ld_glob (X := X.suite a ((a, oe) :: pn)) S hg hm q hdbg
  · exact ld_blt (X := X.suite a ((a, oe) :: pn)) S hg hm hv q hnn hdbg
theorem ctest_one {x : Str} {c : Value} {np : Pos} (hc : Names X x c) : CTest X (.Name x np) (fun cls => PySem.W.exmOne X.K cls c) := fun a oe pn pins σ H s cls b Q E S LT hK hp q =>
  name_ld hc S ((PySem.W.exm_one (M := model X.prog X.w) hK LT hp).here (q s.heap fun _ _ z => z))
theorem ctest_3 {x1 x2 x3 : Str} {c1 c2 c3 : Value} {p1 p2 p3 tpos : Pos} {kk : Nat} (n1 : Names X x1 c1) (n2 : Names X x2 c2) (n3 : Names X x3 c3) : CTest X (.Tuple [.Name x1 p1, .Name x2 p2, .Name x3 p3] kk tpos) (fun cls => PySem.W.exmAny X.K cls [c1, c2, c3]) := fun a oe pn pins σ H s cls b Q E S LT hK hp q => by
  refine wpAny_Tuple ?_
  refine wpAny_items_cons (name_ld n1 S ?_)
  refine wpAny_items_cons (name_ld n2 S ?_)
  refine wpAny_items_cons (name_ld n3 S ?_)
  refine wpAny_items_nil ⟨by size_fits, ?_⟩
  have kp : ∀ q o, s.heap.get? q = some o → (s.heap.push { cls := .type "tuple", data := .seq [c1, c2, c3].toArray }).get? q = some o := fun _ _ z => Heap.get?_push_of_some _ z
  exact (PySem.W.exm_tup3 (hK.keeps kp) (LT.keeps kp) (Heap.get?_push_size s.heap rfl) hp).here (q _ kp)
end
noncomputable def wNT (Wout : WX) (D : Ends) : List ((Value → Option Bool) × Nat × TX) → WX
  | [] => Wout
  | (pv, i, ts) :: r => fun cls d σ H => ∃ b, pv cls = some b ∧ (b = true → ∀ a, H a = none → ts a cls d (endsAt D i) (σ.set i (some (.ref a))) H) ∧ (b = false → wNT Wout D r cls d σ H)
inductive HdsT (X : Cx) : List ExceptHandler → List ((Value → Option Bool) × Nat × TX) → Prop
  | nil : HdsT X [] []
  | cons {n : Str} {i : Nat} {tt : Expr} {pv : Value → Option Bool} {ts : TX} {b₀ : Stmt} {suite : List Stmt} {pos' : Pos} {hds : List ExceptHandler} {l : List ((Value → Option Bool) × Nat × TX)} (hi : X.N[i]? = some n) (hln : X.env.kindOf n = some .local) (hc : CTest X tt pv)
      (hsu : ∀ (a : Addr) (oe : Obj) (cls : Value) (d : Option Addr) (pn : List (Addr × Obj)), Zc cls d oe → (∃ vs, oe.data = .fields vs) → PSs (X.suite a ((a, oe) :: pn)) (b₀ :: suite) (ts a cls d)) (r : HdsT X hds l) :
      HdsT X (.ExceptHandler (some tt) (some n) (b₀ :: suite) pos' :: hds) ((pv, i, ts) :: l)
theorem flyingZ_keeps {base h h' : Heap} {l : List Env} {e : Addr} {Z : Obj → Prop} (R : HandSPX.FlyingZ base l e Z h) (k : ∀ b o, h.get? b = some o → h'.get? b = some o) : HandSPX.FlyingZ base l e Z h' := by
  obtain ⟨f1, f2, f3, oe, vs, T, oT, ts, he, hz, hd, h1, h2, h3, h4, h5, h6⟩ := R
  exact ⟨fun b o q => k b o (f1 b o q), f2, f3.of_keeps fun b o q _ => ⟨o, k b o q, rfl⟩, oe, vs, T, oT, ts, k _ _ he, hz, hd, h1, h2, h3, k _ _ h4, h5, h6⟩
theorem ps_tryT {X : Cx} {body : List Stmt} {h₀ : ExceptHandler} {hds : List ExceptHandler} {l : List ((Value → Option Bool) × Nat × TX)} {pos : Pos} {tb : WX → TS} {Wout : WX} (hs : X.stack = X.env :: X.outer) (hf : X.env.frame = some X.env.locals) (hN : X.N.Nodup) (tk : Takes X Wout)
    (hb : ∀ (W : WX) (pn : List (Addr × Obj)) (xe : Value → Shared → Prop), Takes (X.tr pn xe) W → PassesOwn (model X.prog X.w) X.A X.env xe → PSs (X.tr pn xe) body (tb W)) (hh : HdsT X (h₀ :: hds) l) :
    PS X (.Try body (h₀ :: hds) [] [] pos) (fun D σ H => tb (wNT Wout D l) D σ H) := by
  refine ⟨fun pins s σ H D I h => ?_⟩
  have ok := I.ok
  have hfr : X.A.frames = some (X.env :: X.outer) := by rw [ok.frames, hs]
  refine wpAny_Try_except (wpAny_mono ((hb (wNT Wout D l) (X.pn ++ pins) (fun e s₁ => wpAny (model X.prog X.w) X.A (noteFrame e X.env) (fun _ s₂ => wpAny (model X.prog X.w) X.A (setFlight e none) (fun _ s₃ => wpAny (model X.prog X.w) X.A (handleBy e X.env (h₀ :: hds)) (L2.SP X pins D) X.xe s₃) X.xe s₂) X.xe s₁)
    (fun u s' xx => ?_) PassesOwn.looking).run [] s σ H D (I.toTry _) h) (fun f s1 hsp => ?_) (fun e s1 he => he))
  · obtain ⟨a, B, sI, pins', σ', H', cls, d, rfl, J', nb, up, sky, na, os, ag, w⟩ := xx
    have J : Inv X pins σ' H' sI := J'.ofTry ok
    show wpAny (model X.prog X.w) X.A (noteFrame (.ref a) X.env) _ _ _
    refine Sky.land Zc.steady hfr hf (by rw [← hs]; exact sky) fun h3 fl3 up3 => ?_
    have go : ∀ {hds' : List ExceptHandler} {l' : List ((Value → Option Bool) × Nat × TX)}, HdsT X hds' l' → ∀ h3 : Heap, HandSPX.FlyingZ B (X.env :: X.outer) a (Zc cls d) h3 → s'.heap.UpToSlots h3 → wNT Wout D l' cls d σ' H' → wpAny (model X.prog X.w) X.A (handleBy (.ref a) X.env hds') (L2.SP X pins D) X.xe { s' with heap := h3 } := by
      intro hds' l' hk
      induction hk with
      | nil =>
        intro h3 fl3 up3 w
        refine wpAny_handleBy_nil ?_
        obtain ⟨k1, k2, k3, oe, vs, T, oT, ts', he, hz, hd, h1, hr⟩ := id fl3
        unfold PySem.passOn
        refine wpAny_bind (wpAny_field he hd h1 ?_)
        rw [if_neg (by simp)]
        have fin : wpAny (model X.prog X.w) X.A (setFlight (.ref a) X.env.frame) (fun _ s4 => wpAny (model X.prog X.w) X.A (throw (.ref a) : Sem Flow) (L2.SP X pins D) X.xe s4) X.xe { s' with heap := h3 } := by
          rw [hf]
          exact HandSPX.setFlight_upZ fl3 fun h4 hh4 up4 => wpAny_throw (tk _ _ ⟨a, B, sI, pins, σ', H', cls, d, rfl, J, nb, (up.trans up3).trans up4, .inr (.inr (by rw [hs]; exact hh4)), na, os, ag, w⟩)
        first
          | exact wpAny_bind (wpAny_pure (wpAny_bind fin))
          | exact wpAny_bind fin
      | @cons n i tt pv ts b₀ suite pos' hds2 l2 hi hln hc hsu r ih =>
        intro h3 fl3 up3 w
        have J3 : Inv X pins σ' H' { s' with heap := h3 } := J.landed nb fl3.1 (up.trans up3) os ag
        obtain ⟨oe3, vs3, he3, hz3, hd3⟩ := fl3.there
        have nfr : a ∉ frs (X.env :: X.outer) := fun hm => by
          obtain ⟨_, o', e', hnf⟩ := fl3.2.2.1.mem hm
          rw [he3] at e'
          cases e'
          exact hnf _ hd3
        have nL : a ≠ X.env.locals := fun z => nfr (List.mem_filterMap.mpr ⟨X.env, List.mem_cons_self, by rw [hf, z]⟩)
        have nF : a ∉ X.fs := fun hm => by
          obtain ⟨e, he, q⟩ := List.mem_filterMap.mp hm
          exact nfr (List.mem_filterMap.mpr ⟨e, List.mem_cons_of_mem _ he, q⟩)
        have S3 := J3.suite he3 hd3 na nL nF
        obtain ⟨b, hb1, hyes, hno⟩ := w
        refine wpAny_handleBy_cons (codeAny_handlers_test ?_) (by intro q; cases q)
        have LT : PySem.W.Looks (model X.prog X.w) h3 (typeOf (.ref a)) cls := fun A Q E s k q => wpAny_typeOf_ref (k _ _ he3) (by rw [hz3.1]; exact q)
        refine hc a oe3 (X.pn ++ pins) [] σ' H' { s' with heap := h3 } cls b _ _ S3 LT J3.kIn hb1 fun h3' kp => ?_
        have fl3' := flyingZ_keeps fl3 kp
        have up3' : s'.heap.UpToSlots h3' := up3.trans (Heap.UpToSlots.of_keeps kp)
        cases b with
        | true =>
          refine codeAny_handlers_suite_as (HandSPX.lands_againZ (s := { s' with heap := h3' }) fl3' fun h4 fl4 up4 => ?_)
          have J4 : Inv X pins σ' H' { s' with heap := h4 } := J.landed nb fl4.1 ((up.trans up3').trans up4) os ag
          obtain ⟨oe4, vs4, he4, hz4, hd4⟩ := fl4.there
          refine store_ok (X := X.suite a ((a, oe4) :: (X.pn ++ pins))) (v := .ref a) (J4.suite he4 hd4 na nL nF) hN hi (.inl hln) rfl (fun s5 S5 => ?_) (.inr hln)
          refine wpAny_mono ((hsu a oe4 cls d (X.pn ++ pins) hz4 ⟨_, hd4⟩).run [] s5 _ H' _ S5 (hyes rfl a na)) (fun f s6 hsp => ?_) (fun _ _ z => False.elim z)
          have end_ : ∀ {σ6 : L2.St} {H6 : Hp} {Q : Shared → Prop}, Inv (X.suite a ((a, oe4) :: (X.pn ++ pins))) [] σ6 H6 s6 → (∀ s7, Inv X pins (σ6.set i none) H6 s7 → Q s7) → wpAny (model X.prog X.w) X.A (do bindName X.env n .none; unbindBehindTheSuite X.env n pos') (fun _ s7 => Q s7) X.xe s6 :=
            fun {σ6 H6 Q} S6 hq => gone_ok (S6.unsuite ok) hN hi hln hq
          cases f with
          | next => obtain ⟨σ6, H6, S6, q6⟩ := hsp; exact end_ S6 fun s7 J7 => ⟨_, _, J7, q6⟩
          | brk => obtain ⟨σ6, H6, S6, q6⟩ := hsp; exact end_ S6 fun s7 J7 => ⟨_, _, J7, q6⟩
          | cont => obtain ⟨σ6, H6, S6, q6⟩ := hsp; exact end_ S6 fun s7 J7 => ⟨_, _, J7, q6⟩
          | ret u => obtain ⟨v6, σ6, H6, S6, r6, q6⟩ := hsp; exact end_ S6 fun s7 J7 => ⟨_, _, _, J7, r6, q6⟩
        | false => exact ih h3' fl3' up3' (hno rfl)
    exact go hh h3 fl3 up3 w
  · cases f with
    | next => obtain ⟨σ', H', J', q⟩ := hsp; exact wpAny_execs_nil ⟨σ', H', J'.ofTry ok, q⟩
    | brk => obtain ⟨σ', H', J', q⟩ := hsp; exact ⟨σ', H', J'.ofTry ok, q⟩
    | cont => obtain ⟨σ', H', J', q⟩ := hsp; exact ⟨σ', H', J'.ofTry ok, q⟩
    | ret u => obtain ⟨v, σ', H', J', r, q⟩ := hsp; exact ⟨v, σ', H', J'.ofTry ok, r, q⟩
inductive HdsD (X : Cx) : List ExceptHandler → List ((Value → Option Bool) × Nat × TX) → Clauses → Prop
  | nil : HdsD X [] [] []
  | cons {n : Str} {i : Nat} {tt : Expr} {pv : Value → Option Bool} {ts : TX} {gs : Exn → DS → Fl} {p : Str → Option Bool} {b₀ : Stmt} {suite : List Stmt} {pos' : Pos} {hds : List ExceptHandler} {l : List ((Value → Option Bool) × Nat × TX)} {q : Clauses} (hi : X.N[i]? = some n) (hln : X.env.kindOf n = some .local) (hc : CTest X tt pv)
      (hp : ∀ s b v, p s = some b → clsV X.K s = some v → pv v = some b ∧ (b = true → XcK X.K v)) (hsu : CXs X i (b₀ :: suite) ts gs) (r : HdsD X hds l q) : HdsD X (.ExceptHandler (some tt) (some n) (b₀ :: suite) pos' :: hds) ((pv, i, ts) :: l) ((p, i, gs) :: q)
theorem HdsD.n {X : Cx} : ∀ {hds : List ExceptHandler} {l : List ((Value → Option Bool) × Nat × TX)} {q : Clauses}, HdsD X hds l q → HdsT X hds l
  | _, _, _, .nil => .nil
  | _, _, _, .cons hi hln hc _ hsu r => .cons hi hln hc hsu.ps r.n
section
variable {X : Cx} {W : WX}
theorem pick_okT {B0 : Hp} {H0 : Org} {B : Hp} {E : Ends} : ∀ {hds : List ExceptHandler} {l : List ((Value → Option Bool) × Nat × TX)} {q : Clauses}, HdsD X hds l q → ∀ {x : Exn} {δ : DS}, PostS X.K B0 H0 B W E (cPick q x δ) → ∀ {c : Value} {dx : Option Addr} {σ : L2.St} {B' H' : Hp}, Same B B' → Rel X.K B0 H0 B' H' σ δ → RpX X.K B' c dx x → wNT W E l c dx σ H'
  | _, _, _, .nil, x, δ, hp, c, dx, σ, B', H', sb, rel, rp => hp c dx σ B' H' sb rel rp
  | _, _, _, @HdsD.cons _ _ i tt pv ts gs p _ _ _ _ _ _ hi hln hc hpt hsu r, x, δ, hp, c, dx, σ, B', H', sb, rel, rp => by
    unfold cPick at hp
    cases e : p x.cls with
    | none => rw [e] at hp; exact hp.elim
    | some b =>
      rw [e] at hp
      obtain ⟨h1, h2⟩ := hpt _ _ _ e rp.1
      refine ⟨b, h1, fun hb a ha => ?_, fun hb => ?_⟩
      · subst hb
        dsimp only at hp
        split at hp
        case isFalse => exact hp.elim
        rename_i hl0
        have hl : i < σ.length := by rw [rel.len]; exact hl0
        refine hsu.ss x a c dx B0 H0 (δ.set i none) (σ.set i (some (.ref a))) B' H' _ (rel.drop i) ⟨by rw [List.getElem?_set_self hl], rp, h2 rfl⟩ ?_
        cases e2 : gs x (δ.set i none) with
        | nx δ2 => rw [e2] at hp; exact fun σ2 B2 H2 s2 r2 => hp _ B2 H2 (sb.trans s2) (r2.drop i)
        | bk δ2 => rw [e2] at hp; exact fun σ2 B2 H2 s2 r2 => hp _ B2 H2 (sb.trans s2) (r2.drop i)
        | ct δ2 => rw [e2] at hp; exact fun σ2 B2 H2 s2 r2 => hp _ B2 H2 (sb.trans s2) (r2.drop i)
        | rt z => rw [e2] at hp; exact fun v B2 H2 s2 g r2 => hp v B2 H2 (sb.trans s2) g r2
        | rf z => rw [e2] at hp; exact fun p xs B2 H2 s2 g h0 hb hh rr => hp p xs B2 H2 (sb.trans s2) g h0 hb hh rr
        | rn t => rw [e2] at hp; exact fun v B2 H2 s2 g rt n => hp v B2 H2 (sb.trans s2) g rt n
        | ro d δ => rw [e2] at hp; exact fun v σ B2 H2 s2 r rp => hp v σ B2 H2 (sb.trans s2) r rp
        | rs x2 δ2 => rw [e2] at hp; exact hp.elim
        | no => rw [e2] at hp; exact hp.elim
      · subst hb
        exact pick_okT r hp sb rel rp
theorem cs_tryT {body : List Stmt} {h₀ : ExceptHandler} {hds : List ExceptHandler} {l : List ((Value → Option Bool) × Nat × TX)} {q : Clauses} {pos : Pos} {tb : WX → TS} {g : DS → Fl} (hs : X.stack = X.env :: X.outer) (hf : X.env.frame = some X.env.locals) (hN : X.N.Nodup) (tk : Takes X W)
    (hb : ∀ (W' : WX) (pn : List (Addr × Obj)) (xe : Value → Shared → Prop), Takes (X.tr pn xe) W' → PassesOwn (model X.prog X.w) X.A X.env xe → CSs (X.tr pn xe) W' body (tb W') g) (hh : HdsD X (h₀ :: hds) l q) :
    CS X W (.Try body (h₀ :: hds) [] [] pos) (fun D σ H => tb (wNT W D l) D σ H) (cTry g q) := by
  refine ⟨ps_tryT hs hf hN tk (fun W' pn xe t1 t2 => (hb W' pn xe t1 t2).ps) hh.n, fun B0 H0 δ σ B H E rel hp => ?_⟩
  have S := (hb (wNT W E l) [] _ (takes_look hs hf) PassesOwn.looking).ss
  refine S B0 H0 δ σ B H E rel ?_
  unfold cTry at hp
  cases e : g δ with
  | nx δ2 => rw [e] at hp; exact hp
  | bk δ2 => rw [e] at hp; exact hp
  | ct δ2 => rw [e] at hp; exact hp
  | rt z => rw [e] at hp; exact hp
  | rf z => rw [e] at hp; exact hp
  | rn z => rw [e] at hp; exact hp
  | ro d δ => rw [e] at hp; exact hp
  | no => rw [e] at hp; exact hp
  | rs x δ2 =>
    rw [e] at hp
    exact fun c dx σ' B' H' sb rel' rp => pick_okT hh hp sb rel' rp
end
end DV
namespace DV
open PySem L2
theorem exa_nil {K : PySem.W.Frag} {v : Value} : PySem.W.exmAny K v [] = some false := rfl
theorem exa_cons {K : PySem.W.Frag} {v c : Value} {cs : List Value} {b d : Bool} (h : PySem.W.exmOne K v c = some b) (r : PySem.W.exmAny K v cs = some d) : PySem.W.exmAny K v (c :: cs) = some (b || d) := by
  unfold PySem.W.exmAny
  rw [h, r]
noncomputable def TabA (K : PySem.W.Frag) (cs : List Value) (l : List (Str × Bool)) : Prop := ∀ s b v, tabP l s = some b → clsV K s = some v → PySem.W.exmAny K v cs = some b ∧ (b = true → XcK K v)
theorem tabA_nil {K : PySem.W.Frag} {cs : List Value} : TabA K cs [] := fun s b v h => by cases h
theorem tabA_cons {K : PySem.W.Frag} {cs : List Value} {v0 : Value} {l : List (Str × Bool)} {x : Str} {b0 : Bool} (hx : clsV K x = some v0) (he : PySem.W.exmAny K v0 cs = some b0) (hk : XcK K v0) (r : TabA K cs l) : TabA K cs ((x, b0) :: l) := fun s b v h hv => by
  unfold tabP at h
  rw [List.lookup_cons] at h
  cases q : (s == x) with
  | true =>
    rw [q] at h
    cases h
    rw [beq_iff_eq.mp q] at hv
    rw [hx] at hv
    cases hv
    exact ⟨he, fun _ => hk⟩
  | false => rw [q] at h; exact r s b v h hv
section
variable {X : Cx} {i : Nat}
structure CLx (X : Cx) (i : Nat) (es : List Expr) (t : TXA) (f : Exn → DS → Res (List D)) : Prop where
  a : CAx X i es t f
  ln : ∀ x δ ds, f x δ = .ok ds → ds.length = es.length
theorem clx_nil : CLx X i [] (fun _ _ _ => tNil) (fun _ => cNil) :=
  ⟨⟨fun _ _ _ _ _ _ _ => pa_nil, fun x a c d B0 H0 δ σ B H Q rel cx hp => hp [] B H (Grow.refl rel.g.i) .nil⟩, fun x δ ds h => by cases h; rfl⟩
theorem clx_cons {e : Expr} {es : List Expr} {te : TXE} {t : TXA} {f : Exn → DS → Res D} {g : Exn → DS → Res (List D)} (ha : CEx X i e te f) (hb : CLx X i es t g) (hs : starEach (e :: es) X.env = (false, eval e X.env) :: starEach es X.env := by rfl) :
    CLx X i (e :: es) (fun a c d => tCons (te a c d) (t a c d)) (fun x => cCons (f x) (g x)) :=
  ⟨⟨fun a oe c d pn hz hf => pa_cons (ha.pe a oe c d pn hz hf) (hb.a.pa a oe c d pn hz hf) hs, fun x a c d B0 H0 δ σ B H Q rel cx hp => by
    unfold cCons at hp
    refine ha.se x a c d B0 H0 δ σ B H _ rel cx ?_
    cases e1 : f x δ with
    | no => rw [e1] at hp; exact hp
    | er x => rw [e1] at hp; exact hp
    | ok z =>
      rw [e1, Res.bind_ok] at hp
      intro v B1 H1 g1 r1
      refine hb.a.sa x a c d B0 H0 δ σ B1 H1 _ (rel.mono g1) (cx.mono g1.b) ?_
      cases e2 : g x δ with
      | no => rw [e2] at hp; exact hp
      | er x => rw [e2] at hp; exact fun c dx B' H' g' rp => hp c dx B' H' (g1.trans g') rp
      | ok zs =>
        rw [e2, Res.bind_ok] at hp
        exact fun vs B2 H2 g2 r2 => hp _ B2 H2 (g1.trans g2) (.cons (r1.mono g2.b) r2)⟩, fun x => cons_len (hb.ln x)⟩
theorem cex_tup {es : List Expr} {x1} {pos : Pos} {t : TXA} {f : Exn → DS → Res (List D)} (h : CLx X i es t f) (hl : es.length ≤ sizeLine := by decide) : CEx X i (.Tuple es x1 pos) (fun a c d => tTup (t a c d)) (fun x => cTup (f x)) :=
  ⟨fun a oe c d pn hz hf => pe_tup (h.a.pa a oe c d pn hz hf), fun x a c d B0 H0 δ σ B H Q rel cx hp => by
    unfold cTup at hp
    refine h.a.sa x a c d B0 H0 δ σ B H _ rel cx ?_
    cases e : f x δ with
    | no => rw [e] at hp; exact hp
    | er x => rw [e] at hp; exact hp
    | ok ds =>
      rw [e, Res.bind_ok] at hp
      intro vs B1 H1 g1 r1
      refine ⟨by rw [r1.length, h.ln x δ ds e]; exact hl, fun p hp' => ?_⟩
      exact hp _ _ _ (g1.trans (Grow.new g1.i hp')) (.tup (SqT.of upd_same) (r1.mono (Grow.new (K := X.K) g1.i hp').b))⟩
end
end DV
namespace DV
open PySem L2 PySem.Spec PySem.Calls PyProof.Rows LamX
section
variable {X : Cx}
end
end DV
namespace DV
open PySem L2 PySem.Spec PySem.Calls PyProof.Rows
section
variable {X : Cx} {W : WX}
end
end DV
namespace DV
open PySem L2 PySem.Spec PySem.Calls PyProof.Rows PySem.W
section
variable {prog : Program} {w : World} {A : Around} {E : Value → Shared → Prop} {s : Shared} {l : Addr} {xs : Array (Int × Tok)} {its : List Value} {ns : List Int}
end
section
variable {X : Cx}
end
end DV
namespace DV
open PySem
section
variable {prog : Program} {w : World} {A : Around} {E : Value → Shared → Prop} {s : Shared} {z TI TO T i1 i2 l1 l2 : Addr} {f : Bool} {oT : Obj} {k1 k2 : Nat} {xs ys : Array Value} {I1 I2 : Nat → Heap → Prop} {L1 L2 : Heap → Prop}
end
end DV
namespace DV
open PySem L2 PySem.Spec PySem.Calls PyProof.Rows
section
variable {X : Cx} {pins : List (Addr × Obj)} {σ : L2.St} {H : Hp} {s : Shared}
end
section
variable {X : Cx} {pins : List (Addr × Obj)} {σ : L2.St} {H : Hp} {s : Shared}
end
section
variable {K : PySem.W.Frag} {B H : Hp}
end
end DV
namespace DV
open PySem L2 PySem.Spec PySem.Calls PyProof.Rows
section
variable {X : Cx} {W : WX} {K : PySem.W.Frag}
end
end DV
namespace DV
open PySem L2 PySem.Spec PySem.Calls PyProof.Rows
section
variable {X : Cx}
end
end DV
namespace DV
open PySem L2 PySem.Spec PySem.Calls PyProof.Rows
noncomputable abbrev PI2 := Int × Int
noncomputable def ltQ (a b : PI2) : Prop := a.1 < b.1 ∨ (a.1 = b.1 ∧ a.2 < b.2)
noncomputable instance (a b : PI2) : Decidable (ltQ a b) := by unfold ltQ; exact inferInstance
noncomputable def bdQ (p : PI2) : Prop := 0 ≤ p.1 ∧ p.1 < 64 ∧ 0 ≤ p.2 ∧ p.2 < 64
noncomputable instance (p : PI2) : Decidable (bdQ p) := by unfold bdQ; exact inferInstance
section
variable {K : PySem.W.Frag} {W : WX}
end
end DV
namespace DV
open PySem L2 PySem.Spec PySem.Calls PyProof.Rows
section
variable {X : Cx} {W : WX}
end
end DV
namespace DV
open PySem L2 PySem.Spec PySem.Calls PyProof.Rows
section
variable {X : Cx} {W : WX}
end
end DV
namespace DV
open PySem L2 PySem.Spec PySem.Calls PyProof.Rows
section
variable {X : Cx} {W : WX}
end
end DV
namespace DV
open PySem L2
section
variable {X : Cx} {W : WX}
end
end DV
namespace DV
open PySem L2 PySem.Spec PySem.Calls PyProof.Rows
section
variable {X : Cx}
end
section
variable {X : Cx} {W : WX}
end
end DV
namespace DV
open PySem L2 PySem.Spec PySem.Calls PyProof.Rows
section
variable {X : Cx} {W : WX}
end
end DV
namespace DV
open PySem L2 PySem.Spec PySem.Calls PyProof.Rows
section
variable {X : Cx} {W : WX}
end
end DV
namespace DV
open PySem L2 PySem.Spec PySem.Calls PyProof.Rows PySem.W
section
variable {prog : Program} {w : World} {A : Around} {E : Value → Shared → Prop} {s : Shared} {l : Addr} {xs : Array (Int × Tok)} {its : List Value} {ns : List Int}
end
section
variable {X : Cx}
end
end DV
namespace DV
open PySem L2 PyProof.Rows
section
variable {X : Cx} {pins : List (Addr × Obj)} {σ : L2.St} {H : Hp} {s : Shared} {a : Addr} {ks : List NestedKey} {us : List (Int × Addr × V)} {k : NestedKey} {y v : V} {u r : Value} {A : Around} {E : Value → Shared → Prop}
end
section
variable {X : Cx} {o i e f value : Expr} {pos pos' tpos apos cpos : Pos} {td ty tx tv ta : TE} {fl : Str}
end
end DV
namespace DV
open PySem L2 PyProof.Rows
section
variable {K : PySem.W.Frag} {B : Hp}
end
end DV
namespace DV
open PySem L2 PyProof.Rows
section
variable {K : PySem.W.Frag} {B H : Hp}
end
end DV
namespace DV
open PySem L2 PyProof.Rows
section
variable {K : PySem.W.Frag} {B0 : Hp} {H0 : Org} {B H : Hp} {σ : L2.St} {δ : DS}
end
section
variable {X : Cx} {W : WX}
end
section
variable {X : Cx} {CX : CXT} {k : Nat} {f C : Addr} {fd : FuncData} {ps : List Str} {sp : Sp} {dvs : List V} {ds : List Value} {E : L2.St → XK} {x m : Str} {p pos apos : Pos} {e o : Expr} {es : List Expr} {ta : TE} {t : TA}
end
section
variable {X : Cx} {W : WX} {K : PySem.W.Frag}
end
end DV
namespace DV
open PySem L2 PyProof.Rows
section
variable {X : Cx} {W : WX} {K : PySem.W.Frag}
theorem three {α : Type} {vs : List α} (h : vs.length = 3) : ∃ a b c, vs = [a, b, c] := by
  match vs, h with
  | [a, b, c], _ => exact ⟨a, b, c, rfl⟩
end
end DV
namespace DV
open PySem L2
section
variable {X : Cx} {W : WX} {K : PySem.W.Frag}
theorem FldK.wor {cs : List Str} {f : Str} (h : FldK K cs f) (hc : ("Worths" : Str) ∈ cs := by decide) : FldK K ["Worths"] f := fun c hc' => by
  rw [List.mem_singleton.mp hc']
  exact h _ hc
end
end DV
namespace DV
open PySem L2
section
variable {X : Cx} {W : WX} {K : PySem.W.Frag}
end
end DV
namespace DV
open PySem L2 PyProof.Rows
section
variable {P : Program} {w : World} {K : PySem.W.Frag} {mg : Str → Option Value} {base : Heap}
end
section
variable {X : Cx} {W : WX} {K : PySem.W.Frag}
end
end DV
namespace DV
open PySem L2
section
variable {X : Cx} {i : Nat}
end
end DV
namespace DV
open PySem L2
section
variable {X : Cx} {C : Addr} {x : Str} {p pos : Pos}
end
section
variable {K : PySem.W.Frag} {W : WX}
end
section
variable {X : Cx} {W : WX}
end
end DV
namespace DV
open PySem L2
section
variable {X : Cx} {W : WX} {K : PySem.W.Frag}
end
end DV
namespace DV
open PySem L2
inductive HdsU (X : Cx) : List ExceptHandler → List (Value × TS) → Prop
  | nil : HdsU X [] []
  | cons {x : Str} {c : Value} {ts : TS} {b₀ : Stmt} {suite : List Stmt} {np pos' : Pos} {hds : List ExceptHandler} {l : List (Value × TS)} (hc : Names X x c)
      (hsu : ∀ (a : Addr) (oe : Obj) (pn : List (Addr × Obj)), PSs (X.suite a ((a, oe) :: pn)) (b₀ :: suite) ts) (r : HdsU X hds l) :
      HdsU X (.ExceptHandler (some (.Name x np)) none (b₀ :: suite) pos' :: hds) ((c, ts) :: l)
section
variable {X : Cx} {W : WX}
noncomputable abbrev ClsU := List ((Str → Option Bool) × (DS → Fl))
inductive HdsV (X : Cx) : List ExceptHandler → List (Value × TS) → ClsU → Prop
  | nil : HdsV X [] [] []
  | cons {x : Str} {c : Value} {ts : TS} {gs : DS → Fl} {p : Str → Option Bool} {b₀ : Stmt} {suite : List Stmt} {np pos' : Pos} {hds : List ExceptHandler} {l : List (Value × TS)} {q : ClsU} (hc : Names X x c)
      (hp : ∀ s b v, p s = some b → clsV X.K s = some v → PySem.W.exmOne X.K v c = some b ∧ (b = true → XcK X.K v)) (hsu : ∀ (a : Addr) (oe : Obj) (pn : List (Addr × Obj)), CSs (X.suite a ((a, oe) :: pn)) W0 (b₀ :: suite) ts gs) (r : HdsV X hds l q) :
      HdsV X (.ExceptHandler (some (.Name x np)) none (b₀ :: suite) pos' :: hds) ((c, ts) :: l) ((p, gs) :: q)
theorem HdsV.n {X : Cx} : ∀ {hds : List ExceptHandler} {l : List (Value × TS)} {q : ClsU}, HdsV X hds l q → HdsU X hds l
  | _, _, _, .nil => .nil
  | _, _, _, .cons hc _ hsu r => .cons hc (fun a oe pn => (hsu a oe pn).ps) r.n
end
end DV
namespace DV
open PySem L2
section
variable {X : Cx} {C f : Addr} {fd : FuncData} {ps : List Str} {sp : Sp} {k : Nat}
end
section
variable {K : PySem.W.Frag} {W : WX}
end
section
variable {X : Cx} {W : WX}
end
end DV
namespace DV
open PySem L2
section
variable {X : Cx} {W : WX}
end
end DV
namespace DV
open PySem L2 PyProof.Rows
section
variable {prog : Program} {w : World} {K : Type} [DecidableEq K] {knd : HeapKind prog w K} {A : Around} {E : Value → Shared → Prop} {s : Shared}
end
section
variable {P : Program} {w : World} {A : Around} {s : Shared}
end
section
variable {X : Cx} {W : WX} {K : PySem.W.Frag} {B : Hp}
end
end DV
namespace DV
open PySem L2
section
variable {X : Cx} {W : WX} {K : PySem.W.Frag}
end
section
variable {X : Cx} {W : WX}
end
end DV
namespace DV
open PySem L2
end DV
namespace PySem.W
open PySem PySem.Spec PySem.Calls PyProof.Rows
section
variable {prog : Program} {w : World} {A : Around} {E : Value → Shared → Prop} {s : Shared} {K : Frag} {x C L f : Addr} {h₀ : Heap} {m : Str → Option Value} {ox : Obj} {od : Option Obj} {b tb : Value}
end
end PySem.W
namespace DV
open PySem L2
section
variable {X : Cx} {C f : Addr} {fd : FuncData} {ps : List Str} {sp : Sp} {k : Nat}
end
section
variable {K : PySem.W.Frag} {W : WX}
end
section
variable {X : Cx} {W : WX} {k : Nat} {c : Str} {C f : Addr} {fd : FuncData} {ps : List Str} {F : List D → Res D} {a b : Expr} {pos : Pos} {ta tb : TE} {fa fb : DS → Res D}
end
end DV
namespace DV
open PySem L2
noncomputable def oFmt : D → Res D
  | .v (.str y) => if y.length ≤ sizeLine then .ok (.str y) else .no
  | .v (.int i) => if i.natAbs.log2 < 1920 then .ok (.str (toString i)) else .no
  | _ => .no
noncomputable def cFmt (f : DS → Res D) : DS → Res D := fun δ => (f δ).bind oFmt
noncomputable def joinD : List (DS → Res D) → Str → DS → Res D
  | [], acc, _ => .ok (.str acc)
  | f :: fs, acc, δ => (f δ).bind fun d => match d with
    | .v (.str y) => if (acc ++ y).length ≤ sizeLine then joinD fs (acc ++ y) δ else .no
    | _ => .no
noncomputable def cJoin (fs : List (DS → Res D)) : DS → Res D := joinD fs Str.empty
section
variable {X : Cx} {W : WX} {K : PySem.W.Frag}
theorem ce_fmt {e : Expr} {te : TE} {f : DS → Res D} {pos : Pos} (h : CE X W e te f) : CE X W (.FormattedValue e (-1) none pos) (tFmt te) (cFmt f) :=
  ⟨pe_fmt h.pe, fun B0 H0 δ σ B H Q rel hp => by
    unfold cFmt at hp
    refine h.se B0 H0 δ σ B H _ rel ?_
    cases e : f δ with
    | no => rw [e] at hp; exact hp
    | er x => rw [e] at hp; exact hp
    | ok d =>
      rw [e, Res.bind_ok] at hp
      intro v B1 H1 g1 r1
      unfold oFmt at hp
      split at hp
      · split at hp
        · rename_i hz
          cases r1
          exact .inl ⟨_, rfl, hz, hp _ B1 H1 g1 (.v _)⟩
        · exact hp.elim
      · split at hp
        · rename_i hz
          cases r1
          exact .inr ⟨_, rfl, hz, hp _ B1 H1 g1 (.v _)⟩
        · exact hp.elim
      · exact hp.elim⟩
structure CJ (X : Cx) (W : WX) (es : List Expr) (ts : List TE) (fs : List (DS → Res D)) : Prop where
  pj : PJ X es ts
  sj : ∀ B0 H0 δ σ B H (acc : Str) (Q : VK), Rel X.K B0 H0 B H σ δ → PostE X.K B H σ W Q (joinD fs acc δ) → tJs ts acc σ H fun out H1 => Q (.str out) H1
theorem cj_nil : CJ X W [] [] [] := ⟨.nil, fun B0 H0 δ σ B H acc Q rel hp => by
  unfold joinD at hp
  exact hp _ B H (Grow.refl rel.g.i) (.v _)⟩
theorem cj_cons {e : Expr} {t : TE} {f : DS → Res D} {es : List Expr} {ts : List TE} {fs : List (DS → Res D)} (h : CE X W e t f) (r : CJ X W es ts fs) : CJ X W (e :: es) (t :: ts) (f :: fs) :=
  ⟨.cons h.pe r.pj, fun B0 H0 δ σ B H acc Q rel hp => by
    unfold joinD at hp
    show t σ H _
    refine h.se B0 H0 δ σ B H _ rel ?_
    cases e : f δ with
    | no => rw [e] at hp; exact hp
    | er x => rw [e] at hp; exact hp
    | ok d =>
      rw [e, Res.bind_ok] at hp
      intro v B1 H1 g1 r1
      split at hp
      · split at hp
        · rename_i y hz
          cases r1
          refine ⟨y, rfl, hz, r.sj B0 H0 δ σ B1 H1 _ Q (rel.mono g1) ?_⟩
          cases e2 : joinD fs (acc ++ y) δ with
          | no => rw [e2] at hp; exact hp
          | er x => rw [e2] at hp; exact fun c dx B' H' g' rp => hp c dx B' H' (g1.trans g') rp
          | ok z => rw [e2] at hp; exact fun v B' H' g' rp => hp v B' H' (g1.trans g') rp
        · exact hp.elim
      · exact hp.elim⟩
theorem ce_join {v1 v2 : Expr} {rest : List Expr} {ts : List TE} {fs : List (DS → Res D)} {pos : Pos} (h : CJ X W (v1 :: v2 :: rest) ts fs) : CE X W (.JoinedStr (v1 :: v2 :: rest) pos) (fun σ H Q => tJs ts Str.empty σ H fun out H1 => Q (.str out) H1) (cJoin fs) :=
  ⟨pe_joined h.pj, fun B0 H0 δ σ B H Q rel hp => h.sj B0 H0 δ σ B H _ Q rel hp⟩
end
end DV
namespace DV
open PySem L2 PySem.Spec PySem.Calls PyProof.Rows
section
variable {prog : Program} {w : World} {K : Type} [DecidableEq K] {knd : HeapKind prog w K} {A : Around} {E : Value → Shared → Prop} {s : Shared}
end
section
variable {X : Cx} {W : WX}
end
end DV
namespace DV
open PySem L2
section
variable {X : Cx} {W : WX} {K : PySem.W.Frag}
end
mutual
noncomputable def T.pl : T → Bool
  | .im d => d.pl
  | .nd _ ts => T.plA ts
noncomputable def T.plA : List T → Bool
  | [] => true
  | t :: ts => t.pl && T.plA ts
end
section
variable {K : PySem.W.Frag} {B B' H : Hp}
end
section
variable {X : Cx} {W : WX} {K : PySem.W.Frag}
end
end DV
namespace PySem.W
open PySem PySem.Spec PySem.Calls PyProof.Rows
section
variable {prog : Program} {w : World} {T : String} {r d : Addr} {n : Nat} {P : Nat → Value → Prop} {OK : Heap → Prop} {A : Around} {E : Value → Shared → Prop} {s : Shared} {β : Type} {vs : List Value} {bs : List β} {enc : β → PyData} {R : Value → β → Prop}
theorem list_sort_at {a : Addr} {n : Nat} {Q : Value → Shared → Prop} (ho : s.heap.get? a = some (seqObj "list" vs.toArray n)) (e : EachIs R vs bs) (er' : EachIs (fun v b => ∃ as, Reads (sortingHeap s.heap a vs) v (enc b) as) vs bs) (hal : AllAlike (bs.map enc)) (hk : Sortable (bs.map enc)) (hL : bs.length ≤ sizeLine)
    (hu : ∀ b, b ∈ bs → A.units + 1 + (enc b).depth < cLine) (h : ∀ out, out.length = bs.length → EachIs R out (bs.mergeSort (dataLe false enc)) → Q .none { s with heap := sortedHeap s.heap a vs (List.toArray out) }) :
    wpAny (model prog w) A (call (.builtin "list.sort") [.ref a]) Q E s := by
  refine wpAny_call_entry slot_list_sort ⟨_, ho, rfl⟩ entry_list_sort (list_sort_vals (κ := dataKind (sortingHeap s.heap a vs) (bs.map enc)) ho (SortsAt.data (s := { s with heap := sortingHeap s.heap a vs }) (each_map (R := fun v d => ∃ as, Reads (sortingHeap s.heap a vs) v d as) enc er') hal hk (bound_map hu)) (by rw [e.length]; exact hL) ⟨.none, rfl, ?_⟩) (args_list_sort _)
  exact h _ (by rw [sortVals_length false rfl]; exact e.length) (sortVals_data false e er' hal)
theorem srt_collect {R : List Value → Shared → Prop} (K : KdlSrc prog w T r d n P OK) (hh : A.handled = none) (hok : OK s.heap) (hn : n ≤ sizeLine)
    (h : ∀ (h' : Heap) (tk : Nat) (acc : Array Value), (∀ b o, s.heap.get? b = some o → h'.get? b = some o) → s.heap.objs.size < h'.objs.size → ItemsOf P acc n → R acc.toList { s with heap := h', toks := tk }) :
    wpAny (model prog w) A (collect (.ref r)) R E s := by
  have hlt := K.there _ hok
  unfold collect
  refine wpAny_bind (wpAny_runValue (codeAny_builtin entry_proto_collect' ?_))
  rw [Around.under_plainId PySem.F.plain_proto_collect _]
  show wpAny _ A.in1 (newList [] >>= fun l => again (.builtin "list.__iadd__" ⟨[l, .ref r], []⟩)) _ _ s
  refine wpAny_bind (wpAny_newObj_type ?_)
  refine wpAny_pure ⟨plainId_quiet PySem.F.plain_list_iadd _, codeAny_builtin entry_list_iadd' ?_⟩
  rw [Around.under_plainId PySem.F.plain_list_iadd _]
  have hS₁ : (s.heap.push { cls := .type "list", data := .seq ([] : List Value).toArray }).get? s.heap.objs.size = some { cls := .type "list", data := .seq #[] } := Heap.get?_push_size _ rfl
  show wpAny _ A.in1 (Builtin.List.listExtendWith (.ref s.heap.objs.size) (.ref r) (.ref s.heap.objs.size)) _ _ _
  have key := kdl_extend (A := A) (s := { s with heap := s.heap.push { cls := .type "list", data := .seq ([] : List Value).toArray } })
    (R := fun (q : Result) (s' : Shared) => ∃ (h' : Heap) (tk : Nat) (acc' : Array Value) (c' : Nat), q = .ok (.ret (.ref s.heap.objs.size)) ∧ s' = { s with heap := h', toks := tk } ∧
      (∀ b o, s.heap.get? b = some o → h'.get? b = some o) ∧ h'.get? s.heap.objs.size = some { cls := .type "list", dict := none, data := .seq acc' c', slots := #[] } ∧ ItemsOf P acc' n)
    K hh (K.keep _ _ hok fun b _ o e => Heap.get?_push_of_some _ e) s.heap.objs.size (Nat.ne_of_gt hlt.1) (Nat.ne_of_gt hlt.2) (.ref s.heap.objs.size) 0 hS₁
    (fun h' tk acc' c' hk hS' hacc => ⟨h', tk, acc', c', rfl, rfl, fun b o e => hk b o (Nat.ne_of_lt (Heap.lt_size e)) (Heap.get?_push_of_some _ e), hS', hacc⟩) hn
  refine wpAny_mono key (fun fin s' x => ?_) fun e s' x => ?_
  · cases fin with
    | done f =>
      obtain ⟨h', tk, acc', c', e, rfl, hk, hS', hacc⟩ := x
      cases e
      show wpAny _ A (load s.heap.objs.size >>= _) _ _ _
      refine wpAny_bind (wpAny_load hS' ?_)
      exact wpAny_pure (h h' tk acc' hk (Heap.lt_size hS') hacc)
    | again c₁ =>
      refine ⟨x.1, codeAny_mono x.2 fun q s₂ y => ?_⟩
      obtain ⟨h', tk, acc', c', rfl, rfl, hk, hS', hacc⟩ := y
      show wpAny _ A (load s.heap.objs.size >>= _) _ _ _
      refine wpAny_bind (wpAny_load hS' ?_)
      exact wpAny_pure (h h' tk acc' hk (Heap.lt_size hS') hacc)
  · obtain ⟨_, _, _, _, e', _⟩ := x
    cases e'
theorem srt_src {Q : Value → Shared → Prop} (K : KdlSrc prog w T r d n P OK) (hh : A.handled = none) (hok : OK s.heap) (hn : n ≤ sizeLine)
    (h : ∀ (D : Addr) (h1 : Heap) (tk : Nat) (vs : List Value), s.heap.objs.size ≤ D → (∀ b o, s.heap.get? b = some o → h1.get? b = some o) → h1.get? D = some (seqObj "list" vs.toArray 0) → vs.length = n → (∀ (j : Nat) (v : Value), vs[j]? = some v → P j v) →
      wpAny (model prog w) A.in1 (call (.builtin "list.sort") [.ref D]) (fun _ s' => Q (.ref D) s') E { s with heap := h1, toks := tk }) :
    wpAny (model prog w) A (call (.builtin "sorted") [.ref r]) Q E s := by
  refine call_function_entry kind_sorted plain_sorted entry_sorted (args_sorted1 _) ?_
  unfold Builtin.«sorted»
  refine wpAny_bind (m := checkCount "sorted" 1 1 _) (wpAny_pure ?_)
  refine wpAny_bind (srt_collect (A := A.in1) K hh hok hn fun h' tk acc hk hs hacc => ?_)
  have hl : acc.toList.length = n := by rw [Array.length_toList]; exact hacc.1
  refine wpAny_bind (wpAny_newList ?_ (by rw [hl]; exact hn))
  have hg := h h'.objs.size (h'.push { cls := .type "list", data := .seq acc.toList.toArray }) tk acc.toList (Nat.le_of_lt hs) (fun b o e => Heap.get?_push_of_some _ (hk b o e)) (Heap.get?_push_size _ rfl) hl (fun j v e => hacc.2 j v (by rw [← Array.getElem?_toList]; exact e))
  refine wpAny_bind (wpAny_holding (wpAny_mono hg (fun _ s' x => ?_) fun _ _ e => e))
  exact wpAny_pure ⟨_, rfl, x⟩
end
end PySem.W
namespace DV
open PySem L2 PySem.Spec PySem.Calls PyProof.Rows
noncomputable def rSortX (K : PySem.W.Frag) : List V → Hp → VK → Prop := fun xs H Q => ∃ d o us ds B, xs = [.ref d] ∧ Same B H ∧ H d = some (Dx d o us) ∧ DxO d o us ∧ RpA K B (us.map fun u => .ref u.2.1) ds ∧ (∃ ps, D.pyA ds = some ps ∧ sortOk ps = true) ∧ ∀ q zs, H q = none → RpA K B zs (ds.mergeSort leD) → Q (.ref q) (upd H q (.lst zs))
section
variable {X : Cx}
theorem each_reads {B : Hp} {pins : List (Addr × Obj)} {σ : L2.St} {H : Hp} {s : Shared} (I : Inv X pins σ H s) (i : Same B H) : ∀ {ys : List V} {its : List Value} {ds : List D}, Vals ys its → RpA X.K B ys ds → (∀ d ∈ ds, d.py = some (encD d)) → PySem.W.EachIs (fun v d => ∃ as, PySem.Reads s.heap v (encD d) as) its ds ∧ PySem.W.EachIs (fun v d => ∃ x, RelV x v ∧ Rp X.K B x d) its ds := by
  intro ys
  induction ys with
  | nil => intro its ds rv rp _; cases rv; cases rp; exact ⟨.nil, .nil⟩
  | cons y ys ih =>
    intro its ds rv rp hp
    cases rv with
    | cons rv1 rv2 =>
      cases rp with
      | @cons _ _ d ds rp1 rp2 =>
        obtain ⟨a1, a2⟩ := ih rv2 rp2 fun d hd => hp d (by simp [hd])
        exact ⟨.cons (Dp.reads I _ _ _ (dp_mono i (dp_of rp1 (hp d (by simp)))) rv1) a1, .cons ⟨_, rv1, rp1⟩ a2⟩
theorem each_back {B : Hp} : ∀ {out : List Value} {ds : List D}, PySem.W.EachIs (fun v d => ∃ x, RelV x v ∧ Rp X.K B x d) out ds → ∃ zs, Vals zs out ∧ RpA X.K B zs ds := by
  intro out
  induction out with
  | nil => intro ds h; cases h; exact ⟨[], .nil, .nil⟩
  | cons v out ih =>
    intro ds h
    cases h with
    | cons a b =>
      obtain ⟨x, x1, x2⟩ := a
      obtain ⟨zs, z1, z2⟩ := ih b
      exact ⟨x :: zs, .cons x1 z1, .cons x2 z2⟩
theorem cr_sortX (hu : X.A.units + 64 < cLine) (hc : X.calm = true) : CallR X (.builtin "sorted") (rSortX X.K) := by
  intro pins s σ H xs us0 Q I r h
  obtain ⟨d, o, us, ds, B, rfl, i, hd, wd, rp, ⟨ps, hps, hok⟩, q⟩ := h
  obtain ⟨u, rfl, rx⟩ := r.one
  cases rx
  obtain ⟨es, ep, hdt, hsz, ent⟩ := dx_ent wd
  have hz := wd.1
  obtain ⟨rfl, hpy⟩ := pyA_map hps
  simp only [sortOk, Bool.and_eq_true, List.all_eq_true, decide_eq_true_eq] at hok
  obtain ⟨⟨h1, h2⟩, h3⟩ := hok
  refine PySem.W.srt_src (kdl_raw wd.2.1 wd.2.2.1 hdt) (I.ok.hd hc) (dx_get I hd) (by omega) fun D h' tk vs hD kp hDg hvl it => ?_
  have ea : vs = (us.map fun u => u.2.1).map Value.ref := by
    apply List.ext_getElem?
    intro j
    rw [List.getElem?_map, List.getElem?_map]
    cases hj : vs[j]? with
    | none =>
      have h1 := List.getElem?_eq_none_iff.mp hj
      rw [List.getElem?_eq_none (by omega)]
      all_goals rfl
    | some v =>
      obtain ⟨en, hen, hv⟩ := it j v hj
      have hjl : j < us.length := by
        have := (List.getElem?_eq_some_iff.mp hj).1
        omega
      obtain ⟨en', he', hk⟩ := ent j us[j] (List.getElem?_eq_getElem hjl)
      rw [hen] at he'
      cases he'
      rw [List.getElem?_eq_getElem hjl, hv, hk]
      all_goals rfl
  have rv : Vals (us.map fun u => V.ref u.2.1) vs := by
    rw [ea, show (us.map fun u => V.ref u.2.1) = (us.map fun u => u.2.1).map V.ref by rw [List.map_map]; rfl]
    exact vals_refs _
  obtain ⟨e1, e2⟩ := each_reads I i rv rp hpy
  have hlen : ds.length ≤ sizeLine := by rw [← rp.length, List.length_map]; exact hz
  have nD : ∀ b u, s.heap.get? b = some u → b ≠ D := fun b u e => by
    exact Nat.ne_of_lt (Nat.lt_of_lt_of_le (Heap.lt_size e) hD)
  refine PySem.W.list_sort_at (s := { s with heap := h', toks := tk }) (bs := ds) (enc := encD) (R := fun v d => ∃ x, RelV x v ∧ Rp X.K B x d) hDg e2 (e1.mono fun _ _ ⟨as, r⟩ => ⟨as, PyProof.Rows.Reads.keeps (fun b u e => PySem.W.sortingHeap_old (nD b u e) (kp b u e)) r⟩) (fun d hd d' hd' => h1 d hd d' hd') (.inl fun d hd => ?_) hlen (fun d hd => ?_) fun out ho hout => ?_
  · have := h2 d hd
    split at this
    · exact ⟨_, _, rfl⟩
    · cases this
  · have := h3 (encD d) (List.mem_map.mpr ⟨d, hd, rfl⟩)
    rw [Around.in1_units]
    omega
  · obtain ⟨zs, z1, z2⟩ := each_back hout
    obtain ⟨ep', he'⟩ := PyProof.Rows.sortedHeap_at (vs := vs) (out := List.toArray out) hDg
    have hzl : zs.length ≤ sizeLine := by rw [z1.length, ho]; exact hlen
    exact ⟨.ref D, upd H D (.lst zs), I.laid (t' := tk) (fun b u e => (PyProof.Rows.sortedHeap_old (nD b u e) (Heap.lt_size (kp b u e))).trans (kp b u e)) hD ⟨hzl, out, ep', z1, he'⟩, rfl, q D zs (I.hok.fresh hD) z2⟩
variable {W : WX} {K : PySem.W.Frag}
noncomputable def cSrtX (f : DS → Res D) : DS → Res (List D) := fun δ => (f δ).bind fun d => match d with
  | .dtt ks _ => match D.pyA (nkDs ks) with
    | some ps => if sortOk ps then .ok ((nkDs ks).mergeSort leD) else .no
    | none => .no
  | _ => .no
theorem cf_sortedX (K : PySem.W.Frag) (hK : X.K = K) (hu : X.A.units + 64 < cLine) {a : Expr} {p pos : Pos} {t : TE} {f : DS → Res D} (hm : X.mg "sorted" = none) (ha : CE X W a t f) (hc : X.calm = true := by rfl) (hg : Gl X "sorted" := by rfl) (hs : starEach [a] X.env = (false, eval a X.env) :: starEach [] X.env := by rfl) (hpl : (backTo pos (starEach [] X.env)).any (·.1) = false := by rfl) :
    CF X W (.Call (.Name "sorted" p) [a] [] pos) (tCB (rSortX K) (tCons t tNil)) (cSrtX f) := by
  subst hK
  refine ⟨pe_callB (cr_sortX hu hc) hg hm (by decide +kernel) (pa_cons ha.pe pa_nil hs) (by decide) (by decide) hs hpl, fun B0 H0 δ σ B H Q rel hp => ?_⟩
  unfold cSrtX at hp
  refine ha.se B0 H0 δ σ B H _ rel ?_
  cases e : f δ with
  | no => rw [e] at hp; exact hp
  | er x => rw [e] at hp; exact hp
  | ok d =>
    rw [e, Res.bind_ok] at hp
    intro v B1 H1 g1 r1
    show rSortX X.K [v] H1 Q
    split at hp
    · rename_i ks vs
      split at hp
      · rename_i ps e2
        split at hp
        · rename_i hok
          obtain ⟨a, us, o, rfl, hb, wd, da, rk, rv⟩ := dtt_at r1 g1.i
          exact ⟨a, o, us, nkDs ks, B1, rfl, g1.i, g1.i _ _ hb, wd, rk, ⟨ps, e2, hok⟩, fun z zs hz rz => hp z zs B1 _ (g1.trans (Grow.raw g1.i hz)) (g1.free hz) (g1.i.free hz) upd_same rz⟩
        · exact hp.elim
      · exact hp.elim
    · exact hp.elim
noncomputable def tListVals (to : TE) : TE := fun σ H Q => to σ H fun x H1 => ∃ d o us, x = .ref d ∧ H1 d = some (Dx d o us) ∧ DxO d o us ∧ ∀ p, H1 p = none → Q (.ref p) (upd H1 p (.lst (us.map (·.2.2))))
theorem dx_vals {a : Addr} {o : Obj} {us : List (Int × Addr × V)} (h : DxO a o us) : ∃ es ep, o.data = .dict es ep ∧ us.length = es.size ∧ Vals (us.map (·.2.2)) (es.toList.map (·.val)) := by
  obtain ⟨hz, hm, hx, es, ep, hd, r⟩ := h
  refine ⟨es, ep, hd, ?_, ?_⟩
  · rw [Paired.length r, Array.length_toList]
  · clear hd hx hm hz
    generalize es.toList = l at r
    induction r with
    | nil => exact .nil
    | @cons u e us es hh t ih => exact .cons hh.2.2 ih
theorem pe_listVals {o : Expr} {to : TE} {p apos cpos pos : Pos} (hg : Gl X "list") (hm : X.mg "list" = none) (ho : PE X o to) (hc : X.calm = true)
    (hbase : attributeBase o "values" X.env (eval o X.env) = eval o X.env) (hline : (apos.endLine == cpos.line) = true)
    (na : starEach [.Call (.Attribute o "values" apos) [] [] cpos] X.env = (false, eval (.Call (.Attribute o "values" apos) [] [] cpos) X.env) :: starEach [] X.env) (hpl : (backTo pos (starEach [] X.env)).any (·.1) = false) :
    PE X (.Call (.Name "list" p) [.Call (.Attribute o "values" apos) [] [] cpos] [] pos) (tListVals to) := by
  refine ⟨fun pins s σ H Q I h => ?_⟩
  refine Call_ (ld_blt I hg hm PyProof.Rows.boot_list ?_)
  refine PyProof.Rows.callWith_type1 (PyProof.Rows.args_cons ?_ na) na hpl
  refine wpAny_Call_method (T := "dict") (id := "dict.values") hbase rfl hline PySem.F.plainAttrs_dict PySem.F.slot_dict_values PySem.F.type_dict_values (thn (ho.run pins s σ H _ I h) fun u s1 ⟨x, H1, I1, rx, d, ob, us, ex, hd, wd, q⟩ => ?_)
  subst ex
  obtain rfl : u = Value.ref d := rx
  obtain ⟨es, ep, hdt, hsz, rv⟩ := dx_vals wd
  have hgd := dx_get I1 hd
  have hraw : s1.heap.DictRaw d es ep := ⟨ob, hgd, wd.2.2.1, hdt⟩
  refine ⟨hraw.typeIs, fun a e => ?_, ?_⟩
  · cases e
    exact ⟨ob, hgd, wd.2.2.1.2.1⟩
  have I2 : Inv X pins σ H1 { s1 with heap := s1.heap.push { cls := .type "dict_values", data := .fields #[.ref d] } } := I1.kept (t' := s1.toks) fun b ob q => Heap.get?_push_of_some _ q
  show wpAny _ _ (callWith cpos (.builtin "dict.values") [.ref d] [] []) _ X.xe s1
  refine method_meetsIn PySem.F.slot_dict_values PySem.F.entry_dict_values rfl (PySem.evalArgs_none ⟨rfl, hraw.typeIs, PySem.F.args_dict_values_1 _, _, meets_dict_values_raw d wd.2.1, ⟨es, ep, hraw⟩, ?_⟩)
  refine PyProof.Rows.args_nil ?_
  have hz := wd.1
  refine PySem.W.kdl_call (KdlSrc.rawValues (prog := X.prog) (w := X.w) (r := s1.heap.objs.size) (d := d) (es := es) (ep := ep)) (I2.ok.hd hc) ⟨⟨_, Heap.get?_push_size _ rfl, rfl, rfl⟩, hraw.push _⟩ (by omega) fun h' tk acc' c' kp e it => ?_
  have ea : acc'.toList = es.toList.map (·.val) := by
    have hl : acc'.toList.length = es.size := by rw [Array.length_toList, it.1]
    apply List.ext_getElem?
    intro j
    rw [List.getElem?_map]
    cases hj : acc'.toList[j]? with
    | none =>
      have h1 := List.getElem?_eq_none_iff.mp hj
      rw [List.getElem?_eq_none (by rw [Array.length_toList]; omega)]
      rfl
    | some v =>
      obtain ⟨hi, hv⟩ := it.2 j v (by rw [← Array.getElem?_toList]; exact hj)
      rw [Array.getElem?_toList, Array.getElem?_eq_getElem hi, hv]
      rfl
  rw [← ea] at rv
  refine ⟨.ref _, _, I2.laid (t' := tk) (o := .lst (us.map (·.2.2))) kp (Nat.le_refl _) ?_, rfl, q _ (I2.hok.fresh (Nat.le_refl _))⟩
  exact ⟨by rw [List.length_map]; exact hz, acc'.toList, c', rv, by rw [Array.toArray_toList]; exact e⟩
noncomputable def cListVals (f : DS → Res D) : DS → Res (List D) := fun δ => (f δ).bind fun d => match d with
  | .dtt _ vs => .ok vs
  | _ => .no
theorem cf_listVals {o : Expr} {to : TE} {fo : DS → Res D} {p apos cpos pos : Pos} (hm : X.mg "list" = none) (ho : CE X W o to fo) (hc : X.calm = true := by rfl) (hg : Gl X "list" := by rfl)
    (hbase : attributeBase o "values" X.env (eval o X.env) = eval o X.env := by rfl) (hline : (apos.endLine == cpos.line) = true := by rfl)
    (na : starEach [.Call (.Attribute o "values" apos) [] [] cpos] X.env = (false, eval (.Call (.Attribute o "values" apos) [] [] cpos) X.env) :: starEach [] X.env := by rfl) (hpl : (backTo pos (starEach [] X.env)).any (·.1) = false := by rfl) :
    CF X W (.Call (.Name "list" p) [.Call (.Attribute o "values" apos) [] [] cpos] [] pos) (tListVals to) (cListVals fo) :=
  ⟨pe_listVals hg hm ho.pe hc hbase hline na hpl, fun B0 H0 δ σ B H Q rel hp => by
    unfold cListVals at hp
    refine ho.se B0 H0 δ σ B H _ rel ?_
    cases e : fo δ with
    | no => rw [e] at hp; exact hp
    | er x => rw [e] at hp; exact hp
    | ok d =>
      rw [e, Res.bind_ok] at hp
      intro v B1 H1 g1 r1
      split at hp
      · rename_i ks vs
        obtain ⟨a, us, o, rfl, hb, wd, da, rk, rv⟩ := dtt_at r1 g1.i
        exact ⟨a, o, us, rfl, g1.i _ _ hb, wd, fun z hz => hp z _ B1 _ (g1.trans (Grow.raw g1.i hz)) (g1.free hz) (g1.i.free hz) upd_same rv⟩
      · exact hp.elim⟩
end
end DV
namespace DV
open PySem L2
section
variable {X : Cx} {i : Nat}
theorem cxs_retO {e : Expr} {t : TXE} {f : Exn → DS → Res D} {pos : Pos} (h : CEx X i e t f) : CXs X i [.Return (some e) pos] (fun a cls d => tRet (t a cls d)) (fun x δ => stE (f x δ) δ fun z => .ro z δ) :=
  ⟨fun a oe cls d pn hz hv => pss_one (ps_ret (h.pe a oe cls d pn hz hv)), fun x a cls d B0 H0 δ σ B H E rel cx hp => h.se x a cls d B0 H0 δ σ B H _ rel cx (postE_of rel hp fun z v B' H' _ g rp q => q v σ B' H' (Same.refl _) (rel.mono g) rp)⟩
end
end DV
namespace My
open PySem L2 DV
noncomputable abbrev g_multiplied_l1 : DS → Fl :=
  (cAug 1 oMulI (cVar 2))
noncomputable def g_multiplied : DS → Fl :=
  (cSeq (cAsg 1 (cC (.int 1)))
  (cSeq (cFor (cItems (cVar 0)) (bName 2) g_multiplied_l1)
  (cRet (cVar 1))))
noncomputable def F_multiplied : List D → Res D := defF 2 g_multiplied
noncomputable def g_look_sizes : DS → Fl :=
  (cSeq (cIf (cOrT (cNotT (cTest (cChain oLe oLe (cC (.int 1)) (cCall gLen (cCons (cVar 0) cNil)) (cC (.int 6))))) (cNotT (cTest (cCall gAll (cCons (cL (cLc [1] (cItems (cVar 0)) (bName 1) cYes (cChain oLe oLe (cC (.int 2)) (cVar 1) (cC (.int 4))))) cNil))))) (cRaise "BadSizes" (fd1 "word" "badsizes") cNil) cNext)
  (cIf (cTest (cBin oGt (cFn0 F_multiplied (cCons (cVar 0) cNil)) (cC (.int 300)))) (cRaise "BadSizes" (fd1 "word" "badsizes") cNil) cNext))
noncomputable def F_look_sizes : List D → Res D := defF 1 g_look_sizes
noncomputable def g_look_row : DS → Fl :=
  (cIf (cOrT (cTest (cBin oNe (cCall gLen (cCons (cVar 1) cNil)) (cCall gLen (cCons (cVar 0) cNil)))) (cNotT (cTest (cCall gAll (cCons (cL (cLc [2, 3] (cIt gZip (cCons (cVar 1) (cCons (cVar 0) cNil))) (bTup 2 (bCons (bName 2) (bCons (bName 3) bNil))) cYes (cChain oLe oLt (cC (.int 0)) (cVar 2) (cVar 3)))) cNil))))) (cRaise "BadRow" (fd1 "word" "badrow") cNil) cNext)
noncomputable def F_look_row : List D → Res D := defF 2 g_look_row
noncomputable def g_Tally_init : DS → Fl :=
  (cSeq (cDrop (cFn0 F_look_sizes (cCons (cVar 1) cNil)))
  (cSeq (cTfld 0 ["Tally"] "sizes" (cNim (cCall gTuple (cCons (cVar 1) cNil))))
  (cTfld 0 ["Tally"] "known" cNx0)))
noncomputable def F_Tally_init : NK → List T → List D → MR := defM 0 0 g_Tally_init
noncomputable def g_Tally_len : DS → Fl :=
  (cRet (cCall gLen (cCons (cL (cLc2 [1, 2] [2] (cKeysX (cFld ["Tally"] "known" (cVar 0))) (bName 1) cYes (cIt gRange1 (cCons (cBin oIxX (cFld ["Tally"] "known" (cVar 0)) (cVar 1)) cNil)) (bName 2) cYes (cVar 1))) cNil)))
noncomputable def F_Tally_len : List D → Res D := defF 2 g_Tally_len
noncomputable def g_Tally_repr : DS → Fl :=
  (cRet (cJoin ((cC (.str "Tally(")) :: ((cFmt (cLenO "Tally" F_Tally_len (cVar 0))) :: ((cC (.str " rows, ")) :: ((cFmt (cCall gLen (cCons (cFld ["Tally"] "sizes" (cVar 0)) cNil))) :: ((cC (.str " columns)")) :: [])))))))
noncomputable def F_Tally_repr : List D → Res D := defF 0 g_Tally_repr
noncomputable def g_Tally_whole : DS → Fl :=
  (cRet (cCall gSum (cCons (cL (cLc [1] (cKeysX (cFld ["Tally"] "known" (cVar 0))) (bName 1) cYes (cBin oIxX (cFld ["Tally"] "known" (cVar 0)) (cVar 1)))) cNil)))
noncomputable def F_Tally_whole : List D → Res D := defF 1 g_Tally_whole
noncomputable def g_Tally_put : DS → Fl :=
  (cSeq (cDrop (lend 0 (cFn0 F_look_row (cCons (cFld ["Tally"] "sizes" (cVar 0)) (cCons (cVar 1) cNil)))))
  (cSeq (cIf (cTest (cBin oLt (cVar 2) (cC (.int 1)))) (cRaise "BadMany" (fd1 "word" "badmany") cNil) cNext)
  (cSeq (cIf (lendT 0 (cTest (cBin oGt (cBin oAdd (cMth "Tally" "whole" F_Tally_whole [] (cVar 0) cNil) (cVar 2)) (cC (.int 10000))))) (cRaise "Full" (fd1 "word" "full") cNil) cNext)
  (cSeq (cAsg 1 (cCall gTuple (cCons (cVar 1) cNil)))
  (cTputX (cpFld ["Tally"] "known" (cpVar 0)) (cVar 1) (lend 0 (cBin oAdd (cGetX (cFld ["Tally"] "known" (cVar 0)) (cVar 1) (cC (.int 0))) (cVar 2))))))))
noncomputable def F_Tally_put : NK → List T → List D → MR := defM 0 0 g_Tally_put
noncomputable def g_Tally_take : DS → Fl :=
  (cSeq (cDrop (lend 0 (cFn0 F_look_row (cCons (cFld ["Tally"] "sizes" (cVar 0)) (cCons (cVar 1) cNil)))))
  (cSeq (cIf (cTest (cBin oLt (cVar 2) (cC (.int 1)))) (cRaise "BadMany" (fd1 "word" "badmany") cNil) cNext)
  (cSeq (cAsg 1 (cCall gTuple (cCons (cVar 1) cNil)))
  (cSeq (cAsg 3 (lend 0 (cGetX (cFld ["Tally"] "known" (cVar 0)) (cVar 1) (cC (.int 0)))))
  (cSeq (cIf (cTest (cBin oLt (cVar 3) (cVar 2))) (cRaise "NoRows" (fd2 "word" "norows" "there") (cCons (cVar 3) cNil)) cNext)
  (cSeq (cTputX (cpFld ["Tally"] "known" (cpVar 0)) (cVar 1) (cBin oSub (cVar 3) (cVar 2)))
  (cIf (cTest (cBin oEq (cVar 3) (cVar 2))) (cTpopX (cpFld ["Tally"] "known" (cpVar 0)) (cVar 1)) cNext)))))))
noncomputable def F_Tally_take : NK → List T → List D → MR := defM 1 0 g_Tally_take
noncomputable def g_Tally_rows : DS → Fl :=
  (cRet (cL (cLc [1] (cItems (cL (cSrt (cCall gListX (cCons (cFld ["Tally"] "known" (cVar 0)) cNil))))) (bName 1) cYes (cTup (cCons (cVar 1) (cCons (cBin oIxX (cFld ["Tally"] "known" (cVar 0)) (cVar 1)) cNil))))))
noncomputable def F_Tally_rows : List D → Res D := defF 1 g_Tally_rows
noncomputable def g__law_cell : DS → Fl :=
  (cSeq (cIf (cTest (cBin oLt (cVar 1) (cCall gLen (cCons (cVar 0) cNil)))) (cRet (cBin oIx (cVar 0) (cVar 1))) cNext)
  (cRet (cC (.int 0))))
noncomputable def F__law_cell : List D → Res D := defF 0 g__law_cell
noncomputable abbrev g__law_draws_l1 : DS → Fl :=
  (cSeq (cApp 5 (cBin oMod (cVar 0) (cVar 6)))
  (cAsg 0 (cBin oFdiv (cVar 0) (cVar 6))))
noncomputable def g__law_draws : DS → Fl :=
  (cSeq (cIf (cTest (cBin oLt (cCall gAbs (cCons (cVar 0) cNil)) (cBin oPow (cC (.int 10)) (cC (.int 18))))) (cSeq (cAsg 2 (cBin oMod (cBin oAdd (cBin oMul2 (cVar 0) (cC (.int 48271))) (cC (.int 11))) (cC (.int 2147483647))))
  (cSeq (cAsg 3 (cBin oMod (cBin oAdd (cBin oAdd (cBin oMul2 (cVar 2) (cVar 2)) (cBin oMul2 (cC (.int 40692)) (cVar 2))) (cVar 0)) (cC (.int 2147483399))))
  (cSeq (cAsg 4 (cBin oMod (cBin oAdd (cBin oMul2 (cVar 3) (cC (.int 16807))) (cVar 2)) (cC (.int 1000000007))))
  (cAsg 0 (cBin oAdd (cVar 3) (cBin oMul2 (cC (.int 2147483399)) (cBin oAdd (cVar 4) (cBin oMul2 (cC (.int 1000000007)) (cVar 2))))))))) (cAsg 0 (cBin oSub (cCall gAbs (cCons (cVar 0) cNil)) (cBin oPow (cC (.int 10)) (cC (.int 18))))))
  (cSeq (cOwn 5 cNil)
  (cSeq (cFor (cItems (cVar 1)) (bName 6) g__law_draws_l1)
  (cFz 5 (cRet (cVar 5))))))
noncomputable def F__law_draws : List D → Res D := defF 5 g__law_draws
noncomputable def g__law_sizes : DS → Fl :=
  (cSeq (cAsg 2 (cFn0 F__law_draws (cCons (cVar 0) (cCons (cL (cCons (cVar 1) (cCons (cC (.int 5)) (cCons (cC (.int 5)) (cCons (cC (.int 3)) cNil))))) cNil))))
  (cSeq (cAsg 3 (cBin oAdd (cC (.int 1)) (cBin oIx (cVar 2) (cC (.int 0)))))
  (cSeq (cAsg 4 (cL (cCons (cBin oAdd (cC (.int 2)) (cBin oFdiv (cBin oIx (cVar 2) (cC (.int 1))) (cC (.int 2)))) (cCons (cBin oAdd (cC (.int 2)) (cBin oFdiv (cBin oIx (cVar 2) (cC (.int 2))) (cC (.int 2)))) (cCons (cBin oAdd (cC (.int 2)) (cBin oMul2 (cBin oFdiv (cBin oIx (cVar 2) (cC (.int 3))) (cC (.int 2))) (cCall gInt (cCons (cBin oLt (cVar 3) (cC (.int 6))) cNil)))) (cCons (cC (.int 2)) (cCons (cC (.int 2)) (cCons (cC (.int 2)) cNil))))))))
  (cRet (cCall gTuple (cCons (cSl (cVar 4) cNone (cSome (cVar 3))) cNil))))))
noncomputable def F__law_sizes : List D → Res D := defF 3 g__law_sizes
noncomputable abbrev g__law_rows_l1 : DS → Fl :=
  (cAsg 3 (cBin oAdd (cVar 3) (cL (cLc [5] (cIt gRange1 (cCons (cVar 2) cNil)) (bName 5) cYes (cBin oAdd (cVar 4) (cTup (cCons (cVar 5) cNil)))))))
noncomputable abbrev g__law_rows_l2 : DS → Fl :=
  (cSeq (cAsg 3 (cL cNil))
  (cSeq (cFor (cItems (cVar 1)) (bName 4) g__law_rows_l1)
  (cAsg 1 (cVar 3))))
noncomputable def g__law_rows : DS → Fl :=
  (cSeq (cAsg 1 (cL (cCons (cTup cNil) cNil)))
  (cSeq (cFor (cItems (cVar 0)) (bName 2) g__law_rows_l2)
  (cRet (cVar 1))))
noncomputable def F__law_rows : List D → Res D := defF 5 g__law_rows
noncomputable def g__law_tally_deed : DS → Fl :=
  (cSeq (cAsg 3 (cFn0 F__law_rows (cCons (cVar 1) cNil)))
  (cSeq (cAsg 4 (cBin oIx (cVar 3) (cBin oMod (cBin oIx (cVar 0) (cC (.int 1))) (cCall gLen (cCons (cVar 3) cNil)))))
  (cSeq (cIf (cTest (cBin oEq (cBin oIx (cVar 0) (cC (.int 2))) (cC (.int 0)))) (cAsg 4 (cBin oIx (cL (cCons (cBin oAdd (cVar 4) (cTup (cCons (cC (.int 0)) cNil))) (cCons (cSl (cVar 4) cNone (cSome (cUn oNeg (cC (.int 1))))) (cCons (cBin oAdd (cCall gTuple (cCons (cL (cCons (cC (.int 9)) cNil)) cNil)) (cSl (cVar 4) (cSome (cC (.int 1))) cNone)) (cCons (cBin oAdd (cCall gTuple (cCons (cL (cCons (cUn oNeg (cC (.int 1))) cNil)) cNil)) (cSl (cVar 4) (cSome (cC (.int 1))) cNone)) cNil))))) (cBin oMod (cBin oIx (cVar 0) (cC (.int 3))) (cC (.int 4))))) cNext)
  (cSeq (cAsg 5 (cBin oIx (cL (cCons (cC (.int 1)) (cCons (cC (.int 1)) (cCons (cC (.int 2)) (cCons (cBin oAdd (cC (.int 3)) (cBin oMod (cBin oIx (cVar 0) (cC (.int 3))) (cC (.int 40)))) (cCons (cC (.int 0)) (cCons (cUn oNeg (cC (.int 1))) (cCons (cC (.int 9999)) (cCons (cC (.int 10001)) cNil))))))))) (cBin oMod (cBin oIx (cVar 0) (cC (.int 4))) (cC (.int 8)))))
  (cRet (cTup (cCons (cIfE (cTest (cBin oGt (cBin oIx (cVar 0) (cC (.int 0))) (cC (.int 3)))) (cC (.str "take")) (cC (.str "put"))) (cCons (cVar 4) (cCons (cVar 5) cNil)))))))))
noncomputable def F__law_tally_deed : List D → Res D := defF 3 g__law_tally_deed
noncomputable def g__law_tally_due : DS → Fl :=
  (cSeq (cAsgG (bTup 3 (bCons (bName 3) (bCons (bName 4) (bCons (bName 5) bNil)))) (cVar 0))
  (cSeq (cAsg 6 (cAndV (cBin oEq (cCall gLen (cCons (cVar 4) cNil)) (cCall gLen (cCons (cVar 1) cNil))) (cCall gAll (cCons (cL (cLc [8] (cIt gRange1 (cCons (cCall gLen (cCons (cVar 4) cNil)) cNil)) (bName 8) cYes (cChain oLe oLt (cC (.int 0)) (cBin oIx (cVar 4) (cVar 8)) (cBin oIx (cVar 1) (cVar 8))))) cNil))))
  (cSeq (cIf (cNotT (cTest (cVar 6))) (cRet (cTup (cCons (cC (.str "badrow")) (cCons (cC .non) cNil)))) cNext)
  (cSeq (cIf (cTest (cBin oLt (cVar 5) (cC (.int 1)))) (cRet (cTup (cCons (cC (.str "badmany")) (cCons (cC .non) cNil)))) cNext)
  (cSeq (cIf (cTest (cBin oEq (cVar 3) (cC (.str "put")))) (cRet (cIfE (cTest (cBin oGt (cBin oAdd (cCall gSum (cCons (cL (cListVals (cVar 2))) cNil)) (cVar 5)) (cC (.int 10000)))) (cTup (cCons (cC (.str "full")) (cCons (cC .non) cNil))) (cTup (cCons (cC (.str "")) (cCons (cC .non) cNil))))) cNext)
  (cSeq (cAsg 7 (cGetX (cVar 2) (cVar 4) (cC (.int 0))))
  (cRet (cIfE (cTest (cBin oLt (cVar 7) (cVar 5))) (cTup (cCons (cC (.str "norows")) (cCons (cVar 7) cNil))) (cTup (cCons (cC (.str "")) (cCons (cC .non) cNil)))))))))))
noncomputable def F__law_tally_due : List D → Res D := defF 6 g__law_tally_due
noncomputable def g__law_tally_next : DS → Fl :=
  (cSeq (cAsgG (bTup 3 (bCons (bName 2) (bCons (bName 3) (bCons (bName 4) bNil)))) (cVar 0))
  (cSeq (cAsg 5 (lend 1 (cBin oAdd (cGetX (cVar 1) (cVar 3) (cC (.int 0))) (cIfE (cTest (cBin oEq (cVar 2) (cC (.str "put")))) (cVar 4) (cUn oNeg (cVar 4))))))
  (cIf (cTest (cBin oGt (cVar 5) (cC (.int 0)))) (cTputX (cpVar 1) (cVar 3) (cVar 5)) (cTpopX (cpVar 1) (cVar 3)))))
noncomputable def F__law_tally_next : NK → List T → List D → MR := defM 4 1 g__law_tally_next
noncomputable def g__law_same (rec : List D → Res D) : DS → Fl :=
  (cSeq (cIf (cTest (cBin (oIsN false) (cVar 1) (cC .non))) (cRet (cBin (oIsN false) (cVar 0) (cC .non))) cNext)
  (cSeq (cIf (cTest (cCall gIsi (cCons (cVar 1) (cCons (cC (.v (.ty "str"))) cNil)))) (cRet (cAndV (cCall gIsi (cCons (cVar 0) (cCons (cC (.v (.ty "str"))) cNil))) (cBin oEq (cVar 0) (cVar 1)))) cNext)
  (cSeq (cIf (cTest (cCall gIsi (cCons (cVar 1) (cCons (cC (.v (.ty "int"))) cNil)))) (cRet (cAndV (cCall gIsi (cCons (cVar 0) (cCons (cC (.v (.ty "int"))) cNil))) (cAndV (cBin oEq (cCall gIsi (cCons (cVar 0) (cCons (cC (.v (.ty "bool"))) cNil))) (cCall gIsi (cCons (cVar 1) (cCons (cC (.v (.ty "bool"))) cNil)))) (cBin oEq (cVar 0) (cVar 1))))) cNext)
  (cSeq (cIf (cOrT (cTest (cBin oNe (cCall gIsi (cCons (cVar 1) (cCons (cC (.v (.ty "list"))) cNil))) (cCall gIsi (cCons (cVar 0) (cCons (cC (.v (.ty "list"))) cNil))))) (cTest (cBin oNe (cCall gIsi (cCons (cVar 1) (cCons (cC (.v (.ty "tuple"))) cNil))) (cCall gIsi (cCons (cVar 0) (cCons (cC (.v (.ty "tuple"))) cNil)))))) (cRet (cC (.bl false))) cNext)
  (cRet (cAndV (cBin oEq (cCall gLen (cCons (cVar 0) cNil)) (cCall gLen (cCons (cVar 1) cNil))) (cCall gAll (cCons (cL (cLc [2] (cIt gRange1 (cCons (cCall gLen (cCons (cVar 1) cNil)) cNil)) (bName 2) cYes (cFn0 rec (cCons (cBin oIx (cVar 0) (cVar 2)) (cCons (cBin oIx (cVar 1) (cVar 2)) cNil))))) cNil))))))))
noncomputable def F__law_same : Nat → List D → Res D
  | 0 => fun _ => .no
  | n + 1 => defF 1 (g__law_same (F__law_same n))
noncomputable def g__law_done : DS → Fl :=
  (cSeq (cAsgG (bTup 3 (bCons (bName 2) (bCons (bName 3) (bCons (bName 4) bNil)))) (cVar 1))
  (cSeq (cTry (cIf (cAndT (cTest (cBin oEq (cVar 4) (cC (.int 1)))) (cTest (cBin oEq (cVar 2) (cC (.str "put"))))) (cDropM (cOwnM 0 "Tally" "put" F_Tally_put [(.int 1)] (cCons (cVar 3) cNil))) (cIf (cTest (cBin oEq (cVar 2) (cC (.str "put")))) (cDropM (cOwnM 0 "Tally" "put" F_Tally_put [] (cCons (cVar 3) (cCons (cVar 4) cNil)))) (cDropM (cOwnM 0 "Tally" "take" F_Tally_take [] (cCons (cVar 3) (cCons (cVar 4) cNil)))))) ((tabP [("BadSizes", false), ("BadRow", false), ("BadMany", false), ("Full", false), ("NoRows", true)], 5, (fun x δ => stE ((fun x => cTup ((fun x => cCons ((fun x _ => fldR "word" x) x) ((fun x => cCons ((fun x _ => fldR "there" x) x) ((fun _ => cNil) x)) x)) x)) x δ) δ fun z => .ro z δ)) :: ((tabP [("BadSizes", false), ("BadRow", true), ("BadMany", true), ("Full", true), ("NoRows", false)], 5, (fun x δ => stE ((fun x => cTup ((fun x => cCons ((fun x _ => fldR "word" x) x) ((fun x => cCons ((fun _ => cC .non) x) ((fun _ => cNil) x)) x)) x)) x δ) δ fun z => .ro z δ)) :: [])))
  (cRetM (cem (cTup (cCons (cC (.str "")) (cCons (cC .non) cNil)))))))
noncomputable def F__law_done : NK → List T → List D → MR := defM 4 0 g__law_done
noncomputable abbrev g_law_l1 : DS → Fl :=
  (cSeq (cAsg 5 (lend 3 (cFn0 F__law_tally_deed (cCons (cFn0 F__law_draws (cCons (cVar 4) (cCons (cL (cCons (cC (.int 6)) (cCons (cC (.int 997)) (cCons (cC (.int 9)) (cCons (cC (.int 97)) (cCons (cC (.int 8)) cNil)))))) cNil))) (cCons (cVar 1) (cCons (cVar 3) cNil))))))
  (cSeq (cAsg 6 (lend 3 (cFn0 F__law_tally_due (cCons (cVar 5) (cCons (cVar 1) (cCons (cVar 3) cNil))))))
  (cSeq (cIfM (cNotM (cTestM (cFnM (F__law_same 6) (caConsM (cOwnF 2 F__law_done [] (cConsO 2 (cCons (cVar 5) cNil))) (caConsM (cem (cVar 6)) caNilM))))) (cRet (cC (.bl false))) cNext)
  (cSeq (cIf (cTest (cBin oEq (cBin oIx (cVar 6) (cC (.int 0))) (cC (.str "")))) (cDropM (cOwnF 3 F__law_tally_next [] (cCons (cVar 5) (cConsO 3 cNil)))) cNext)
  (cSeq (cAsg 7 (lend 3 (cCall gSum (cCons (cL (cListVals (cVar 3))) cNil))))
  (cSeq (cAsg 8 (cBin oAdd (cBin oAdd (cBin oAdd (cBin oAdd (cC (.str "Tally(")) (cCall gStr (cCons (cVar 7) cNil))) (cC (.str " rows, "))) (cCall gStr (cCons (cCall gLen (cCons (cVar 1) cNil)) cNil))) (cC (.str " columns)"))))
  (cSeq (cAsg 9 (lend 2 (cL (cCons (cMth "Tally" "rows" F_Tally_rows [] (cVar 2) cNil) (cCons (cLenO "Tally" F_Tally_len (cVar 2)) (cCons (cReprO "Tally" F_Tally_repr (cVar 2)) (cCons (cFld ["Tally"] "sizes" (cVar 2)) cNil)))))))
  (cIf (lendT 3 (cNotT (cTest (cFn0 (F__law_same 6) (cCons (cVar 9) (cCons (cL (cCons (cL (cLc [10] (cItems (cL (cSrtX (cVar 3)))) (bName 10) cYes (cTup (cCons (cVar 10) (cCons (cBin oIxX (cVar 3) (cVar 10)) cNil))))) (cCons (cVar 7) (cCons (cVar 8) (cCons (cVar 1) cNil))))) cNil)))))) (cRet (cC (.bl false))) cNext))))))))
noncomputable def g_law : DS → Fl :=
  (cSeq (cAsg 0 (cSl (cVar 0) cNone (cSome (cC (.int 63)))))
  (cSeq (cAsg 1 (cFn0 F__law_sizes (cCons (cFn0 F__law_cell (cCons (cVar 0) (cCons (cC (.int 0)) cNil))) (cCons (cC (.int 4)) cNil))))
  (cSeq (cOwnN 2 (cMake "Tally" F_Tally_init [] (cCons (cVar 1) cNil)))
  (cSeq (cOwnN 3 cNx0)
  (cSeq (cFor (cItems (cBin oAdd (cSl (cVar 0) (cSome (cC (.int 1))) cNone) (cL (cCons (cC (.int 0)) (cCons (cC (.int 1)) cNil))))) (bName 4) g_law_l1)
  (cRet (cC (.bl true))))))))
noncomputable def F_law : List D → Res D := defF 10 g_law
end My
namespace My
open PySem L2 DV
noncomputable def top (i : Nat) : Stmt := PySem.Challenge.pw_tallyloom_k06_tallies_by_their_deeds.main.body.getD i (.Pass ⟨0, 0, 0, 0⟩)
noncomputable abbrev s_multiplied : Stmt := top 12
noncomputable abbrev s_look_sizes : Stmt := top 13
noncomputable abbrev s_look_row : Stmt := top 14
noncomputable abbrev s_Tally_init : Stmt := inCls (top 17) 0
noncomputable abbrev s_Tally_len : Stmt := inCls (top 17) 1
noncomputable abbrev s_Tally_repr : Stmt := inCls (top 17) 3
noncomputable abbrev s_Tally_whole : Stmt := inCls (top 17) 4
noncomputable abbrev s_Tally_put : Stmt := inCls (top 17) 5
noncomputable abbrev s_Tally_take : Stmt := inCls (top 17) 6
noncomputable abbrev s_Tally_rows : Stmt := inCls (top 17) 8
noncomputable abbrev s__law_cell : Stmt := top 19
noncomputable abbrev s__law_draws : Stmt := top 20
noncomputable abbrev s__law_sizes : Stmt := top 21
noncomputable abbrev s__law_rows : Stmt := top 22
noncomputable abbrev s__law_tally_deed : Stmt := top 23
noncomputable abbrev s__law_tally_due : Stmt := top 24
noncomputable abbrev s__law_tally_next : Stmt := top 25
noncomputable abbrev s__law_same : Stmt := top 26
noncomputable abbrev s__law_done : Stmt := top 27
noncomputable abbrev s_law : Stmt := top 28
noncomputable abbrev si_BadSizes : Stmt := inCls (top 3) 0
noncomputable abbrev si_BadRow : Stmt := inCls (top 4) 0
noncomputable abbrev si_BadMany : Stmt := inCls (top 5) 0
noncomputable abbrev si_Full : Stmt := inCls (top 6) 0
noncomputable abbrev si_NoRows : Stmt := inCls (top 7) 0
set_option genInjectivity false in set_option genSizeOf false in
structure Ads where
  c_BadSizes : Addr
  i_BadSizes : Addr
  di_BadSizes : FuncData
  c_BadRow : Addr
  i_BadRow : Addr
  di_BadRow : FuncData
  c_BadMany : Addr
  i_BadMany : Addr
  di_BadMany : FuncData
  c_Full : Addr
  i_Full : Addr
  di_Full : FuncData
  c_NoRows : Addr
  i_NoRows : Addr
  di_NoRows : FuncData
  C_Tally : Addr
  f_multiplied : Addr
  d_multiplied : FuncData
  f_look_sizes : Addr
  d_look_sizes : FuncData
  f_look_row : Addr
  d_look_row : FuncData
  f_Tally_init : Addr
  d_Tally_init : FuncData
  f_Tally_len : Addr
  d_Tally_len : FuncData
  f_Tally_repr : Addr
  d_Tally_repr : FuncData
  f_Tally_whole : Addr
  d_Tally_whole : FuncData
  f_Tally_put : Addr
  d_Tally_put : FuncData
  f_Tally_take : Addr
  d_Tally_take : FuncData
  f_Tally_rows : Addr
  d_Tally_rows : FuncData
  f__law_cell : Addr
  d__law_cell : FuncData
  f__law_draws : Addr
  d__law_draws : FuncData
  f__law_sizes : Addr
  d__law_sizes : FuncData
  f__law_rows : Addr
  d__law_rows : FuncData
  f__law_tally_deed : Addr
  d__law_tally_deed : FuncData
  f__law_tally_due : Addr
  d__law_tally_due : FuncData
  f__law_tally_next : Addr
  d__law_tally_next : FuncData
  f__law_same : Addr
  d__law_same : FuncData
  f__law_done : Addr
  d__law_done : FuncData
  f_law : Addr
  d_law : FuncData
  e2_Tally_put : List Value
  v_MOST_COLUMNS : V
  u_MOST_COLUMNS : Value
  v_MOST_COUNTED : V
  u_MOST_COUNTED : Value
  v_MOST_ROWS : V
  u_MOST_ROWS : Value
  v_MOST_SIZE : V
  u_MOST_SIZE : Value
set_option genInjectivity false in set_option genSizeOf false in
structure Txt (K : PySem.W.Frag) (mg : Str → Option Value) (a : Ads) : Prop where
  X_BadSizes : ExK K mg "BadSizes" a.c_BadSizes a.i_BadSizes
  IF_BadSizes : Fun K "__init__" "BadSizes.__init__" si_BadSizes a.i_BadSizes a.di_BadSizes
  ib_BadSizes : Binds K a.di_BadSizes ["self"] []
  xc_BadSizes : XcK K (.ref a.c_BadSizes)
  X_BadRow : ExK K mg "BadRow" a.c_BadRow a.i_BadRow
  IF_BadRow : Fun K "__init__" "BadRow.__init__" si_BadRow a.i_BadRow a.di_BadRow
  ib_BadRow : Binds K a.di_BadRow ["self"] []
  xc_BadRow : XcK K (.ref a.c_BadRow)
  X_BadMany : ExK K mg "BadMany" a.c_BadMany a.i_BadMany
  IF_BadMany : Fun K "__init__" "BadMany.__init__" si_BadMany a.i_BadMany a.di_BadMany
  ib_BadMany : Binds K a.di_BadMany ["self"] []
  xc_BadMany : XcK K (.ref a.c_BadMany)
  X_Full : ExK K mg "Full" a.c_Full a.i_Full
  IF_Full : Fun K "__init__" "Full.__init__" si_Full a.i_Full a.di_Full
  ib_Full : Binds K a.di_Full ["self"] []
  xc_Full : XcK K (.ref a.c_Full)
  X_NoRows : ExK K mg "NoRows" a.c_NoRows a.i_NoRows
  IF_NoRows : Fun K "__init__" "NoRows.__init__" si_NoRows a.i_NoRows a.di_NoRows
  ib_NoRows : Binds K a.di_NoRows ["self", "there"] []
  xc_NoRows : XcK K (.ref a.c_NoRows)
  hm_BadMany : mg "BadMany" = some (.ref a.c_BadMany)
  hm_BadRow : mg "BadRow" = some (.ref a.c_BadRow)
  hm_Full : mg "Full" = some (.ref a.c_Full)
  hm_NoRows : mg "NoRows" = some (.ref a.c_NoRows)
  ex_BadSizes_BadRow : PySem.W.exmOne K (.ref a.c_BadSizes) (.ref a.c_BadRow) = some false
  ex_BadSizes_BadMany : PySem.W.exmOne K (.ref a.c_BadSizes) (.ref a.c_BadMany) = some false
  ex_BadSizes_Full : PySem.W.exmOne K (.ref a.c_BadSizes) (.ref a.c_Full) = some false
  ex_BadRow_BadRow : PySem.W.exmOne K (.ref a.c_BadRow) (.ref a.c_BadRow) = some true
  ex_BadRow_BadMany : PySem.W.exmOne K (.ref a.c_BadRow) (.ref a.c_BadMany) = some false
  ex_BadRow_Full : PySem.W.exmOne K (.ref a.c_BadRow) (.ref a.c_Full) = some false
  ex_BadMany_BadRow : PySem.W.exmOne K (.ref a.c_BadMany) (.ref a.c_BadRow) = some false
  ex_BadMany_BadMany : PySem.W.exmOne K (.ref a.c_BadMany) (.ref a.c_BadMany) = some true
  ex_BadMany_Full : PySem.W.exmOne K (.ref a.c_BadMany) (.ref a.c_Full) = some false
  ex_Full_BadRow : PySem.W.exmOne K (.ref a.c_Full) (.ref a.c_BadRow) = some false
  ex_Full_BadMany : PySem.W.exmOne K (.ref a.c_Full) (.ref a.c_BadMany) = some false
  ex_Full_Full : PySem.W.exmOne K (.ref a.c_Full) (.ref a.c_Full) = some true
  ex_NoRows_BadRow : PySem.W.exmOne K (.ref a.c_NoRows) (.ref a.c_BadRow) = some false
  ex_NoRows_BadMany : PySem.W.exmOne K (.ref a.c_NoRows) (.ref a.c_BadMany) = some false
  ex_NoRows_Full : PySem.W.exmOne K (.ref a.c_NoRows) (.ref a.c_Full) = some false
  ex_BadSizes_NoRows : PySem.W.exmOne K (.ref a.c_BadSizes) (.ref a.c_NoRows) = some false
  ex_BadRow_NoRows : PySem.W.exmOne K (.ref a.c_BadRow) (.ref a.c_NoRows) = some false
  ex_BadMany_NoRows : PySem.W.exmOne K (.ref a.c_BadMany) (.ref a.c_NoRows) = some false
  ex_Full_NoRows : PySem.W.exmOne K (.ref a.c_Full) (.ref a.c_NoRows) = some false
  ex_NoRows_NoRows : PySem.W.exmOne K (.ref a.c_NoRows) (.ref a.c_NoRows) = some true
  F_multiplied : Fun K "multiplied" "multiplied" s_multiplied a.f_multiplied a.d_multiplied
  g_multiplied : mg "multiplied" = some (.ref a.f_multiplied)
  k_multiplied : PySem.W.keepIn K (.ref a.f_multiplied) = true
  bd_multiplied : Binds K a.d_multiplied ["sizes"] []
  F_look_sizes : Fun K "look_sizes" "look_sizes" s_look_sizes a.f_look_sizes a.d_look_sizes
  g_look_sizes : mg "look_sizes" = some (.ref a.f_look_sizes)
  k_look_sizes : PySem.W.keepIn K (.ref a.f_look_sizes) = true
  bd_look_sizes : Binds K a.d_look_sizes ["sizes"] []
  F_look_row : Fun K "look_row" "look_row" s_look_row a.f_look_row a.d_look_row
  g_look_row : mg "look_row" = some (.ref a.f_look_row)
  k_look_row : PySem.W.keepIn K (.ref a.f_look_row) = true
  bd_look_row : Binds K a.d_look_row ["sizes", "row"] []
  F_Tally_init : Fun K "__init__" "Tally.__init__" s_Tally_init a.f_Tally_init a.d_Tally_init
  M_Tally_init : Meth K a.C_Tally "__init__" a.f_Tally_init
  bd_Tally_init : Binds K a.d_Tally_init ["self", "sizes"] []
  F_Tally_len : Fun K "__len__" "Tally.__len__" s_Tally_len a.f_Tally_len a.d_Tally_len
  M_Tally_len : Meth K a.C_Tally "__len__" a.f_Tally_len
  bd_Tally_len : Binds K a.d_Tally_len ["self"] []
  F_Tally_repr : Fun K "__repr__" "Tally.__repr__" s_Tally_repr a.f_Tally_repr a.d_Tally_repr
  M_Tally_repr : Meth K a.C_Tally "__repr__" a.f_Tally_repr
  bd_Tally_repr : Binds K a.d_Tally_repr ["self"] []
  F_Tally_whole : Fun K "whole" "Tally.whole" s_Tally_whole a.f_Tally_whole a.d_Tally_whole
  M_Tally_whole : Meth K a.C_Tally "whole" a.f_Tally_whole
  bd_Tally_whole : Binds K a.d_Tally_whole ["self"] []
  F_Tally_put : FunD K "put" "Tally.put" (defArgs s_Tally_put) (defBody s_Tally_put) (defScope s_Tally_put) [V.int 1] [] a.f_Tally_put a.d_Tally_put
  bd2_Tally_put : Binds K a.d_Tally_put ["self", "row", "many"] a.e2_Tally_put
  dv2_Tally_put : Vals [V.int 1] a.e2_Tally_put
  dd2_Tally_put : ∀ B, RpA K B [V.int 1] [(.int 1)]
  M_Tally_put : Meth K a.C_Tally "put" a.f_Tally_put
  bd_Tally_put : Binds K a.d_Tally_put ["self", "row", "many"] []
  F_Tally_take : FunD K "take" "Tally.take" (defArgs s_Tally_take) (defBody s_Tally_take) (defScope s_Tally_take) [V.int 1] [] a.f_Tally_take a.d_Tally_take
  M_Tally_take : Meth K a.C_Tally "take" a.f_Tally_take
  bd_Tally_take : Binds K a.d_Tally_take ["self", "row", "many"] []
  F_Tally_rows : Fun K "rows" "Tally.rows" s_Tally_rows a.f_Tally_rows a.d_Tally_rows
  M_Tally_rows : Meth K a.C_Tally "rows" a.f_Tally_rows
  bd_Tally_rows : Binds K a.d_Tally_rows ["self"] []
  F__law_cell : Fun K "_law_cell" "_law_cell" s__law_cell a.f__law_cell a.d__law_cell
  g__law_cell : mg "_law_cell" = some (.ref a.f__law_cell)
  k__law_cell : PySem.W.keepIn K (.ref a.f__law_cell) = true
  bd__law_cell : Binds K a.d__law_cell ["_law_script", "_law_k"] []
  F__law_draws : Fun K "_law_draws" "_law_draws" s__law_draws a.f__law_draws a.d__law_draws
  g__law_draws : mg "_law_draws" = some (.ref a.f__law_draws)
  k__law_draws : PySem.W.keepIn K (.ref a.f__law_draws) = true
  bd__law_draws : Binds K a.d__law_draws ["_law_cell_here", "_law_sizes_here"] []
  F__law_sizes : Fun K "_law_sizes" "_law_sizes" s__law_sizes a.f__law_sizes a.d__law_sizes
  g__law_sizes : mg "_law_sizes" = some (.ref a.f__law_sizes)
  k__law_sizes : PySem.W.keepIn K (.ref a.f__law_sizes) = true
  bd__law_sizes : Binds K a.d__law_sizes ["_law_cell_here", "_law_upto"] []
  F__law_rows : Fun K "_law_rows" "_law_rows" s__law_rows a.f__law_rows a.d__law_rows
  g__law_rows : mg "_law_rows" = some (.ref a.f__law_rows)
  k__law_rows : PySem.W.keepIn K (.ref a.f__law_rows) = true
  bd__law_rows : Binds K a.d__law_rows ["_law_sizes_here"] []
  F__law_tally_deed : Fun K "_law_tally_deed" "_law_tally_deed" s__law_tally_deed a.f__law_tally_deed a.d__law_tally_deed
  g__law_tally_deed : mg "_law_tally_deed" = some (.ref a.f__law_tally_deed)
  k__law_tally_deed : PySem.W.keepIn K (.ref a.f__law_tally_deed) = true
  bd__law_tally_deed : Binds K a.d__law_tally_deed ["_law_d", "_law_sizes_here", "_law_known"] []
  F__law_tally_due : Fun K "_law_tally_due" "_law_tally_due" s__law_tally_due a.f__law_tally_due a.d__law_tally_due
  g__law_tally_due : mg "_law_tally_due" = some (.ref a.f__law_tally_due)
  k__law_tally_due : PySem.W.keepIn K (.ref a.f__law_tally_due) = true
  bd__law_tally_due : Binds K a.d__law_tally_due ["_law_deed", "_law_sizes_here", "_law_known"] []
  F__law_tally_next : Fun K "_law_tally_next" "_law_tally_next" s__law_tally_next a.f__law_tally_next a.d__law_tally_next
  g__law_tally_next : mg "_law_tally_next" = some (.ref a.f__law_tally_next)
  k__law_tally_next : PySem.W.keepIn K (.ref a.f__law_tally_next) = true
  bd__law_tally_next : Binds K a.d__law_tally_next ["_law_deed", "_law_known"] []
  F__law_same : Fun K "_law_same" "_law_same" s__law_same a.f__law_same a.d__law_same
  g__law_same : mg "_law_same" = some (.ref a.f__law_same)
  k__law_same : PySem.W.keepIn K (.ref a.f__law_same) = true
  bd__law_same : Binds K a.d__law_same ["_law_found", "_law_due"] []
  F__law_done : Fun K "_law_done" "_law_done" s__law_done a.f__law_done a.d__law_done
  g__law_done : mg "_law_done" = some (.ref a.f__law_done)
  k__law_done : PySem.W.keepIn K (.ref a.f__law_done) = true
  bd__law_done : Binds K a.d__law_done ["_law_made", "_law_deed"] []
  F_law : Fun K "law" "law" s_law a.f_law a.d_law
  g_law : mg "law" = some (.ref a.f_law)
  k_law : PySem.W.keepIn K (.ref a.f_law) = true
  bd_law : Binds K a.d_law ["_law_script"] []
  kc_Tally : ClK K "Tally" a.C_Tally
  mc_Tally : mg "Tally" = some (.ref a.C_Tally)
  mk_Tally : Mk K a.C_Tally a.f_Tally_init
  fl_sizes : FldK K ["Tally"] "sizes"
  fl_known : FldK K ["Tally"] "known"
  b_abs : mg "abs" = none
  b_all : mg "all" = none
  b_bool : mg "bool" = none
  b_int : mg "int" = none
  b_isinstance : mg "isinstance" = none
  b_len : mg "len" = none
  b_list : mg "list" = none
  b_range : mg "range" = none
  b_repr : mg "repr" = none
  b_sorted : mg "sorted" = none
  b_str : mg "str" = none
  b_sum : mg "sum" = none
  b_tuple : mg "tuple" = none
  b_zip : mg "zip" = none
  c_MOST_COLUMNS : mg "MOST_COLUMNS" = some a.u_MOST_COLUMNS
  w_MOST_COLUMNS : RelV a.v_MOST_COLUMNS a.u_MOST_COLUMNS
  r_MOST_COLUMNS : ∀ B, Rp K B a.v_MOST_COLUMNS (.int 6)
  c_MOST_COUNTED : mg "MOST_COUNTED" = some a.u_MOST_COUNTED
  w_MOST_COUNTED : RelV a.v_MOST_COUNTED a.u_MOST_COUNTED
  r_MOST_COUNTED : ∀ B, Rp K B a.v_MOST_COUNTED (.int 10000)
  c_MOST_ROWS : mg "MOST_ROWS" = some a.u_MOST_ROWS
  w_MOST_ROWS : RelV a.v_MOST_ROWS a.u_MOST_ROWS
  r_MOST_ROWS : ∀ B, Rp K B a.v_MOST_ROWS (.int 300)
  c_MOST_SIZE : mg "MOST_SIZE" = some a.u_MOST_SIZE
  w_MOST_SIZE : RelV a.v_MOST_SIZE a.u_MOST_SIZE
  r_MOST_SIZE : ∀ B, Rp K B a.v_MOST_SIZE (.int 4)
section
variable {P : Program} {w : World} {K : PySem.W.Frag} {mg : Str → Option Value} {base : Heap} {a : Ads}
theorem sc_BadSizes : FnScope ["self"] ["self"] (defScope si_BadSizes) := ⟨rfl, rfl, rfl, by decide +kernel, rfl, by decide +kernel, by decide +kernel⟩
theorem in_BadSizes (T : Txt K mg a) : FnOk P w K mg base (L2.CX P w) 1 a.i_BadSizes a.di_BadSizes ["self"] (spI K a.c_BadSizes 0 (fv1 "word" "badsizes")) :=
  init1_ok (k := 0) T.IF_BadSizes sc_BadSizes T.X_BadSizes.T T.xc_BadSizes.no fun cdv A outer s H E => pss_one (ps_osB (pv 0) pe_str)
theorem sc_BadRow : FnScope ["self"] ["self"] (defScope si_BadRow) := ⟨rfl, rfl, rfl, by decide +kernel, rfl, by decide +kernel, by decide +kernel⟩
theorem in_BadRow (T : Txt K mg a) : FnOk P w K mg base (L2.CX P w) 1 a.i_BadRow a.di_BadRow ["self"] (spI K a.c_BadRow 0 (fv1 "word" "badrow")) :=
  init1_ok (k := 0) T.IF_BadRow sc_BadRow T.X_BadRow.T T.xc_BadRow.no fun cdv A outer s H E => pss_one (ps_osB (pv 0) pe_str)
theorem sc_BadMany : FnScope ["self"] ["self"] (defScope si_BadMany) := ⟨rfl, rfl, rfl, by decide +kernel, rfl, by decide +kernel, by decide +kernel⟩
theorem in_BadMany (T : Txt K mg a) : FnOk P w K mg base (L2.CX P w) 1 a.i_BadMany a.di_BadMany ["self"] (spI K a.c_BadMany 0 (fv1 "word" "badmany")) :=
  init1_ok (k := 0) T.IF_BadMany sc_BadMany T.X_BadMany.T T.xc_BadMany.no fun cdv A outer s H E => pss_one (ps_osB (pv 0) pe_str)
theorem sc_Full : FnScope ["self"] ["self"] (defScope si_Full) := ⟨rfl, rfl, rfl, by decide +kernel, rfl, by decide +kernel, by decide +kernel⟩
theorem in_Full (T : Txt K mg a) : FnOk P w K mg base (L2.CX P w) 1 a.i_Full a.di_Full ["self"] (spI K a.c_Full 0 (fv1 "word" "full")) :=
  init1_ok (k := 0) T.IF_Full sc_Full T.X_Full.T T.xc_Full.no fun cdv A outer s H E => pss_one (ps_osB (pv 0) pe_str)
theorem sc_NoRows : FnScope ["self", "there"] ["self", "there"] (defScope si_NoRows) := ⟨rfl, rfl, rfl, by decide +kernel, rfl, by decide +kernel, by decide +kernel⟩
theorem in_NoRows (T : Txt K mg a) : FnOk P w K mg base (L2.CX P w) 1 a.i_NoRows a.di_NoRows ["self", "there"] (spI K a.c_NoRows 1 (fv2 "word" "norows" "there")) :=
  init2_ok (k := 0) T.IF_NoRows sc_NoRows T.X_NoRows.T T.xc_NoRows.no T.xc_NoRows.no fun cdv A outer s H E => pss_cons (ps_osB (pv 0) pe_str) (pss_one (ps_osB (pv 0) (pv 1)))
theorem sc_multiplied : FnScope ["sizes", "found", "size"] ["sizes"] (defScope s_multiplied) := ⟨rfl, rfl, rfl, by decide +kernel, rfl, by decide +kernel, by decide +kernel⟩
theorem ok_multiplied (T : Txt K mg a) : FnOk P w K mg base (L2.CX P w) 1 a.f_multiplied a.d_multiplied ["sizes"] (spD K 1 F_multiplied) := by
  refine def_ok (k := 0) T.F_multiplied sc_multiplied rfl fun cdv A outer s H E hr tk po hu => ?_
  have nd := sc_multiplied.nd
  have hu5 := units5 hr
  exact ⟨_, (css_cons (cs_set 1 nd ce_int)
  (css_cons (cs_for po rfl (ci_seq K (by rfl) (ce_var 0)) (cg_name 2 nd) (css_one (cs_aug 1 nd (ce_var 2) oi_mul)))
  (css_one (cs_ret (ce_var 1)))))⟩
theorem sc_look_sizes : FnScope ["sizes", "size"] ["sizes"] (defScope s_look_sizes) := ⟨rfl, rfl, rfl, by decide +kernel, rfl, by decide +kernel, by decide +kernel⟩
theorem ok_look_sizes (T : Txt K mg a) : FnOk P w K mg base (L2.CX P w) 3 a.f_look_sizes a.d_look_sizes ["sizes"] (spD K 1 F_look_sizes) := by
  refine def_ok (k := 2) T.F_look_sizes sc_look_sizes rfl fun cdv A outer s H E hr tk po hu => ?_
  have nd := sc_look_sizes.nd
  have hu5 := units5 hr
  exact ⟨_, (css_cons (cs_if (CW.ct (cw_or (ct_not (ct_cc o_le o_le ce_int (ce_callB (k_len K (by rfl)) T.b_len (by decide +kernel) (ca_cons (ce_var 0) ca_nil)) (ce_glob (by rfl) T.c_MOST_COLUMNS T.w_MOST_COLUMNS (fun B => T.r_MOST_COLUMNS B)))) (cw_or1 (ct_not (ct_val (ce_callB (k_all K (by rfl) (by rfl)) T.b_all (by decide +kernel) (ca_cons (ce_l (lc_1 (own := [("size", 1)]) s rfl nd (ci_seq K (by rfl) (ce_var 0)) (blkOk_by (by kernel_rfl)) (fun _ _ _ _ _ => (cg_name 1 nd)) (fun _ _ _ _ _ => cts_nil) (fun _ _ _ _ _ => (ce_cc o_le o_le ce_int (ce_var 1) (ce_glob (by rfl) T.c_MOST_SIZE T.w_MOST_SIZE (fun B => T.r_MOST_SIZE B))))).toCF) ca_nil))))))) (css_one (cs_raise0 K (by rfl) tk T.X_BadSizes (in_BadSizes T) (hr.mono (by decide)) T.ib_BadSizes ff1)) css_nil)
  (css_one (cs_if (ct_c o_gt (ce_f K (by rfl) (ok_multiplied T) (hr.mono (by decide)) T.g_multiplied T.k_multiplied T.bd_multiplied tk (ca_cons (ce_var 0) ca_nil)) (ce_glob (by rfl) T.c_MOST_ROWS T.w_MOST_ROWS (fun B => T.r_MOST_ROWS B))) (css_one (cs_raise0 K (by rfl) tk T.X_BadSizes (in_BadSizes T) (hr.mono (by decide)) T.ib_BadSizes ff1)) css_nil)))⟩
theorem sc_look_row : FnScope ["sizes", "row", "value", "size"] ["sizes", "row"] (defScope s_look_row) := ⟨rfl, rfl, rfl, by decide +kernel, rfl, by decide +kernel, by decide +kernel⟩
theorem ok_look_row (T : Txt K mg a) : FnOk P w K mg base (L2.CX P w) 3 a.f_look_row a.d_look_row ["sizes", "row"] (spD K 2 F_look_row) := by
  refine def_ok (k := 2) T.F_look_row sc_look_row rfl fun cdv A outer s H E hr tk po hu => ?_
  have nd := sc_look_row.nd
  have hu5 := units5 hr
  exact ⟨_, (css_one (cs_if (CW.ct (cw_or (ct_c (o_ne K (by rfl) hu) (ce_callB (k_len K (by rfl)) T.b_len (by decide +kernel) (ca_cons (ce_var 1) ca_nil)) (ce_callB (k_len K (by rfl)) T.b_len (by decide +kernel) (ca_cons (ce_var 0) ca_nil))) (cw_or1 (ct_not (ct_val (ce_callB (k_all K (by rfl) (by rfl)) T.b_all (by decide +kernel) (ca_cons (ce_l (lc_1 (own := [("value", 2), ("size", 3)]) s rfl nd (ci_zip K (by rfl) T.b_zip (ca_cons (ce_var 1) (ca_cons (ce_var 0) ca_nil))) (blkOk_by (by kernel_rfl)) (fun _ _ _ _ _ => (cg_tup K (by rfl) (by rfl) (cgs_cons (cg_name 2 nd) (cgs_cons (cg_name 3 nd) cgs_nil (by rfl)) (by rfl)) (by rfl) (by rfl))) (fun _ _ _ _ _ => cts_nil) (fun _ _ _ _ _ => (ce_cc o_le o_lt ce_int (ce_var 2) (ce_var 3)))).toCF) ca_nil))))))) (css_one (cs_raise0 K (by rfl) tk T.X_BadRow (in_BadRow T) (hr.mono (by decide)) T.ib_BadRow ff1)) css_nil))⟩
theorem sc_Tally_init : FnScope ["self", "sizes"] ["self", "sizes"] (defScope s_Tally_init) := ⟨rfl, rfl, rfl, by decide +kernel, rfl, by decide +kernel, by decide +kernel⟩
theorem ok_Tally_init (T : Txt K mg a) : FnOk P w K mg base (L2.CX P w) 4 a.f_Tally_init a.d_Tally_init ["self", "sizes"] (spM K 2 0 F_Tally_init) := by
  refine def_okM 0 (k := 3) T.F_Tally_init sc_Tally_init rfl fun cdv A outer s H E hr tk po hu => ?_
  have nd := sc_Tally_init.nd
  have hu5 := units5 hr
  exact ⟨_, (css_cons (cs_expr (ce_f K (by rfl) (ok_look_sizes T) (hr.mono (by decide)) T.g_look_sizes T.k_look_sizes T.bd_look_sizes tk (ca_cons (ce_var 1) ca_nil)))
  (css_cons (cs_tfld K (by rfl) 0 T.fl_sizes (pv 0) (cn_e (ce_callTy (k_tuple K (by rfl)) T.b_tuple (by decide +kernel) (ca_cons (ce_var 1) ca_nil))))
  (css_one (cs_tfld K (by rfl) 0 T.fl_known (pv 0) cn_x0))))⟩
theorem sc_Tally_len : FnScope ["self", "row", "turn"] ["self"] (defScope s_Tally_len) := ⟨rfl, rfl, rfl, by decide +kernel, rfl, by decide +kernel, by decide +kernel⟩
theorem ok_Tally_len (T : Txt K mg a) : FnOk P w K mg base (L2.CX P w) 1 a.f_Tally_len a.d_Tally_len ["self"] (spD K 1 F_Tally_len) := by
  refine def_ok (k := 0) T.F_Tally_len sc_Tally_len rfl fun cdv A outer s H E hr tk po hu => ?_
  have nd := sc_Tally_len.nd
  have hu5 := units5 hr
  exact ⟨_, (css_one (cs_ret (ce_callB (k_len K (by rfl)) T.b_len (by decide +kernel) (ca_cons (ce_l (lc_2 (own := [("row", 1), ("turn", 2)]) (vs1 := [2]) s rfl nd (ci_xkeys (ce_fld K (by rfl) T.fl_known (ce_var 0))) (blkOk_by (by kernel_rfl)) (fun _ _ _ _ _ => (cg_name 1 nd)) (fun _ _ _ _ _ => cts_nil) (fun _ _ _ _ _ => (ci_range1 T.b_range (ca_cons (ce_ixX K (by rfl) hu (ce_fld K (by rfl) T.fl_known (ce_var 0)) (ce_var 1)) ca_nil))) (fun _ _ _ _ _ => (cg_name 2 nd)) (fun _ _ _ _ _ => cts_nil) (fun _ _ _ _ _ => (ce_var 1))).toCF) ca_nil))))⟩
theorem sc_Tally_repr : FnScope ["self"] ["self"] (defScope s_Tally_repr) := ⟨rfl, rfl, rfl, by decide +kernel, rfl, by decide +kernel, by decide +kernel⟩
theorem ok_Tally_repr (T : Txt K mg a) : FnOk P w K mg base (L2.CX P w) 3 a.f_Tally_repr a.d_Tally_repr ["self"] (spD K 1 F_Tally_repr) := by
  refine def_ok (k := 2) T.F_Tally_repr sc_Tally_repr rfl fun cdv A outer s H E hr tk po hu => ?_
  have nd := sc_Tally_repr.nd
  have hu5 := units5 hr
  exact ⟨_, (css_one (cs_ret (ce_join (cj_cons ce_str (cj_cons (ce_fmt (ce_lenO K (by rfl) T.kc_Tally T.M_Tally_len (ok_Tally_len T) (hr.mono (by decide)) T.bd_Tally_len T.b_len (ce_var 0))) (cj_cons ce_str (cj_cons (ce_fmt (ce_callB (k_len K (by rfl)) T.b_len (by decide +kernel) (ca_cons (ce_fld K (by rfl) T.fl_sizes (ce_var 0)) ca_nil))) (cj_cons ce_str cj_nil))))))))⟩
theorem sc_Tally_whole : FnScope ["self", "row"] ["self"] (defScope s_Tally_whole) := ⟨rfl, rfl, rfl, by decide +kernel, rfl, by decide +kernel, by decide +kernel⟩
theorem ok_Tally_whole (T : Txt K mg a) : FnOk P w K mg base (L2.CX P w) 1 a.f_Tally_whole a.d_Tally_whole ["self"] (spD K 1 F_Tally_whole) := by
  refine def_ok (k := 0) T.F_Tally_whole sc_Tally_whole rfl fun cdv A outer s H E hr tk po hu => ?_
  have nd := sc_Tally_whole.nd
  have hu5 := units5 hr
  exact ⟨_, (css_one (cs_ret (ce_callB (k_sum K (by rfl) (by rfl)) T.b_sum (by decide +kernel) (ca_cons (ce_l (lc_1 (own := [("row", 1)]) s rfl nd (ci_xkeys (ce_fld K (by rfl) T.fl_known (ce_var 0))) (blkOk_by (by kernel_rfl)) (fun _ _ _ _ _ => (cg_name 1 nd)) (fun _ _ _ _ _ => cts_nil) (fun _ _ _ _ _ => (ce_ixX K (by rfl) hu (ce_fld K (by rfl) T.fl_known (ce_var 0)) (ce_var 1)))).toCF) ca_nil))))⟩
theorem sc_Tally_put : FnScope ["self", "row", "many"] ["self", "row", "many"] (defScope s_Tally_put) := ⟨rfl, rfl, rfl, by decide +kernel, rfl, by decide +kernel, by decide +kernel⟩
theorem ok_Tally_put (T : Txt K mg a) : FnOk P w K mg base (L2.CX P w) 4 a.f_Tally_put a.d_Tally_put ["self", "row", "many"] (spM K 3 0 F_Tally_put) := by
  refine def_okDM 0 (k := 3) T.F_Tally_put sc_Tally_put rfl fun cdv A outer s H E hr tk po hu => ?_
  have nd := sc_Tally_put.nd
  have hu5 := units5 hr
  exact ⟨_, (css_cons (cs_expr (ce_lend 0 (ce_f K (by rfl) (ok_look_row T) (hr.mono (by decide)) T.g_look_row T.k_look_row T.bd_look_row tk (ca_cons (ce_fld K (by rfl) T.fl_sizes (ce_var 0)) (ca_cons (ce_var 1) ca_nil)))))
  (css_cons (cs_if (ct_c o_lt (ce_var 2) ce_int) (css_one (cs_raise0 K (by rfl) tk T.X_BadMany (in_BadMany T) (hr.mono (by decide)) T.ib_BadMany ff1)) css_nil)
  (css_cons (cs_if (ct_lend 0 (ct_c o_gt (ce_b (o_add K (by rfl)) (ce_mth0 K (by rfl) T.kc_Tally T.M_Tally_whole (ok_Tally_whole T) (hr.mono (by decide)) T.bd_Tally_whole .nil (fun _ => .nil) tk (ce_var 0)) (ce_var 2)) (ce_glob (by rfl) T.c_MOST_COUNTED T.w_MOST_COUNTED (fun B => T.r_MOST_COUNTED B)))) (css_one (cs_raise0 K (by rfl) tk T.X_Full (in_Full T) (hr.mono (by decide)) T.ib_Full ff1)) css_nil)
  (css_cons (cs_set 1 nd (ce_callTy (k_tuple K (by rfl)) T.b_tuple (by decide +kernel) (ca_cons (ce_var 1) ca_nil)))
  (css_one (cs_tputX K (by rfl) hu (cp_fld K (by rfl) T.fl_known (cp_var 0 (pv 0))) (ce_var 1) (ce_lend 0 (ce_b (o_add K (by rfl)) (ce_getX K (by rfl) hu (ce_fld K (by rfl) T.fl_known (ce_var 0)) (ce_var 1) ce_int) (ce_var 2)))))))))⟩
theorem sc_Tally_take : FnScope ["self", "row", "many", "there"] ["self", "row", "many"] (defScope s_Tally_take) := ⟨rfl, rfl, rfl, by decide +kernel, rfl, by decide +kernel, by decide +kernel⟩
theorem ok_Tally_take (T : Txt K mg a) : FnOk P w K mg base (L2.CX P w) 4 a.f_Tally_take a.d_Tally_take ["self", "row", "many"] (spM K 3 0 F_Tally_take) := by
  refine def_okDM 0 (k := 3) T.F_Tally_take sc_Tally_take rfl fun cdv A outer s H E hr tk po hu => ?_
  have nd := sc_Tally_take.nd
  have hu5 := units5 hr
  exact ⟨_, (css_cons (cs_expr (ce_lend 0 (ce_f K (by rfl) (ok_look_row T) (hr.mono (by decide)) T.g_look_row T.k_look_row T.bd_look_row tk (ca_cons (ce_fld K (by rfl) T.fl_sizes (ce_var 0)) (ca_cons (ce_var 1) ca_nil)))))
  (css_cons (cs_if (ct_c o_lt (ce_var 2) ce_int) (css_one (cs_raise0 K (by rfl) tk T.X_BadMany (in_BadMany T) (hr.mono (by decide)) T.ib_BadMany ff1)) css_nil)
  (css_cons (cs_set 1 nd (ce_callTy (k_tuple K (by rfl)) T.b_tuple (by decide +kernel) (ca_cons (ce_var 1) ca_nil)))
  (css_cons (cs_set 3 nd (ce_lend 0 (ce_getX K (by rfl) hu (ce_fld K (by rfl) T.fl_known (ce_var 0)) (ce_var 1) ce_int)))
  (css_cons (cs_if (ct_c o_lt (ce_var 3) (ce_var 2)) (css_one (cs_raise K (by rfl) tk T.X_NoRows (in_NoRows T) (hr.mono (by decide)) T.ib_NoRows ff2 (ca_cons (ce_var 3) ca_nil))) css_nil)
  (css_cons (cs_tputX K (by rfl) hu (cp_fld K (by rfl) T.fl_known (cp_var 0 (pv 0))) (ce_var 1) (ce_b o_sub (ce_var 3) (ce_var 2)))
  (css_one (cs_if (ct_c (o_eq K (by rfl) hu) (ce_var 3) (ce_var 2)) (css_one (cs_tpopX K (by rfl) hu (cp_fld K (by rfl) T.fl_known (cp_var 0 (pv 0))) (ce_var 1))) css_nil))))))))⟩
theorem sc_Tally_rows : FnScope ["self", "row"] ["self"] (defScope s_Tally_rows) := ⟨rfl, rfl, rfl, by decide +kernel, rfl, by decide +kernel, by decide +kernel⟩
theorem ok_Tally_rows (T : Txt K mg a) : FnOk P w K mg base (L2.CX P w) 1 a.f_Tally_rows a.d_Tally_rows ["self"] (spD K 1 F_Tally_rows) := by
  refine def_ok (k := 0) T.F_Tally_rows sc_Tally_rows rfl fun cdv A outer s H E hr tk po hu => ?_
  have nd := sc_Tally_rows.nd
  have hu5 := units5 hr
  exact ⟨_, (css_one (cs_ret (ce_l (lc_1 (own := [("row", 1)]) s rfl nd (ci_seq K (by rfl) (ce_l (cf_sorted K (by rfl) hu T.b_sorted (ce_callTy k_listX T.b_list (by decide +kernel) (ca_cons (ce_fld K (by rfl) T.fl_known (ce_var 0)) ca_nil))))) (blkOk_by (by kernel_rfl)) (fun _ _ _ _ _ => (cg_name 1 nd)) (fun _ _ _ _ _ => cts_nil) (fun _ _ _ _ _ => (ce_tup (ca_cons (ce_var 1) (ca_cons (ce_ixX K (by rfl) hu (ce_fld K (by rfl) T.fl_known (ce_var 0)) (ce_var 1)) ca_nil))))).toCF)))⟩
theorem sc__law_cell : FnScope ["_law_script", "_law_k"] ["_law_script", "_law_k"] (defScope s__law_cell) := ⟨rfl, rfl, rfl, by decide +kernel, rfl, by decide +kernel, by decide +kernel⟩
theorem ok__law_cell (T : Txt K mg a) : FnOk P w K mg base (L2.CX P w) 1 a.f__law_cell a.d__law_cell ["_law_script", "_law_k"] (spD K 2 F__law_cell) := by
  refine def_ok (k := 0) T.F__law_cell sc__law_cell rfl fun cdv A outer s H E hr tk po hu => ?_
  have nd := sc__law_cell.nd
  have hu5 := units5 hr
  exact ⟨_, (css_cons (cs_if (ct_c o_lt (ce_var 1) (ce_callB (k_len K (by rfl)) T.b_len (by decide +kernel) (ca_cons (ce_var 0) ca_nil))) (css_one (cs_ret (ce_ix K (by rfl) (ce_var 0) (ce_var 1)))) css_nil)
  (css_one (cs_ret ce_int)))⟩
theorem sc__law_draws : FnScope ["_law_cell_here", "_law_sizes_here", "_law_mixed", "_law_two", "_law_six", "_law_found", "_law_size"] ["_law_cell_here", "_law_sizes_here"] (defScope s__law_draws) := ⟨rfl, rfl, rfl, by decide +kernel, rfl, by decide +kernel, by decide +kernel⟩
theorem ok__law_draws (T : Txt K mg a) : FnOk P w K mg base (L2.CX P w) 1 a.f__law_draws a.d__law_draws ["_law_cell_here", "_law_sizes_here"] (spD K 2 F__law_draws) := by
  refine def_ok (k := 0) T.F__law_draws sc__law_draws rfl fun cdv A outer s H E hr tk po hu => ?_
  have nd := sc__law_draws.nd
  have hu5 := units5 hr
  exact ⟨_, (css_cons (cs_if (ct_c o_lt (ce_callB k_abs T.b_abs (by decide +kernel) (ca_cons (ce_var 0) ca_nil)) (ce_b o_pow ce_int ce_int)) (css_cons (cs_set 2 nd (ce_b o_mod (ce_b (o_add K (by rfl)) (ce_b (o_mul K (by rfl)) (ce_var 0) ce_int) ce_int) ce_int))
  (css_cons (cs_set 3 nd (ce_b o_mod (ce_b (o_add K (by rfl)) (ce_b (o_add K (by rfl)) (ce_b (o_mul K (by rfl)) (ce_var 2) (ce_var 2)) (ce_b (o_mul K (by rfl)) ce_int (ce_var 2))) (ce_var 0)) ce_int))
  (css_cons (cs_set 4 nd (ce_b o_mod (ce_b (o_add K (by rfl)) (ce_b (o_mul K (by rfl)) (ce_var 3) ce_int) (ce_var 2)) ce_int))
  (css_one (cs_set 0 nd (ce_b (o_add K (by rfl)) (ce_var 3) (ce_b (o_mul K (by rfl)) ce_int (ce_b (o_add K (by rfl)) (ce_var 4) (ce_b (o_mul K (by rfl)) ce_int (ce_var 2)))))))))) (css_one (cs_set 0 nd (ce_b o_sub (ce_callB k_abs T.b_abs (by decide +kernel) (ca_cons (ce_var 0) ca_nil)) (ce_b o_pow ce_int ce_int)))))
  (css_cons (cs_own 5 nd (cf_lst ca_nil))
  (css_cons (cs_for po rfl (ci_seq K (by rfl) (ce_var 1)) (cg_name 6 nd) (css_cons (cs_app 5 (ce_b o_mod (ce_var 0) (ce_var 6)) (pv 5))
  (css_one (cs_set 0 nd (ce_b o_fdiv (ce_var 0) (ce_var 6))))))
  (css_one (cs_fz 5 (cs_ret (ce_var 5)))))))⟩
theorem sc__law_sizes : FnScope ["_law_cell_here", "_law_upto", "_law_drawn", "_law_many", "_law_sizes_here"] ["_law_cell_here", "_law_upto"] (defScope s__law_sizes) := ⟨rfl, rfl, rfl, by decide +kernel, rfl, by decide +kernel, by decide +kernel⟩
theorem ok__law_sizes (T : Txt K mg a) : FnOk P w K mg base (L2.CX P w) 2 a.f__law_sizes a.d__law_sizes ["_law_cell_here", "_law_upto"] (spD K 2 F__law_sizes) := by
  refine def_ok (k := 1) T.F__law_sizes sc__law_sizes rfl fun cdv A outer s H E hr tk po hu => ?_
  have nd := sc__law_sizes.nd
  have hu5 := units5 hr
  exact ⟨_, (css_cons (cs_set 2 nd (ce_f K (by rfl) (ok__law_draws T) (hr.mono (by decide)) T.g__law_draws T.k__law_draws T.bd__law_draws tk (ca_cons (ce_var 0) (ca_cons (ce_l (cf_lst (ca_cons (ce_var 1) (ca_cons ce_int (ca_cons ce_int (ca_cons ce_int ca_nil)))))) ca_nil))))
  (css_cons (cs_set 3 nd (ce_b (o_add K (by rfl)) ce_int (ce_ix K (by rfl) (ce_var 2) ce_int)))
  (css_cons (cs_set 4 nd (ce_l (cf_lst (ca_cons (ce_b (o_add K (by rfl)) ce_int (ce_b o_fdiv (ce_ix K (by rfl) (ce_var 2) ce_int) ce_int)) (ca_cons (ce_b (o_add K (by rfl)) ce_int (ce_b o_fdiv (ce_ix K (by rfl) (ce_var 2) ce_int) ce_int)) (ca_cons (ce_b (o_add K (by rfl)) ce_int (ce_b (o_mul K (by rfl)) (ce_b o_fdiv (ce_ix K (by rfl) (ce_var 2) ce_int) ce_int) (ce_callTy k_int T.b_int (by decide +kernel) (ca_cons (ce_c o_lt (ce_var 3) ce_int) ca_nil)))) (ca_cons ce_int (ca_cons ce_int (ca_cons ce_int ca_nil)))))))))
  (css_one (cs_ret (ce_callTy (k_tuple K (by rfl)) T.b_tuple (by decide +kernel) (ca_cons (ce_sl K (by rfl) (ce_var 4) co_none (co_some (ce_var 3))) ca_nil)))))))⟩
theorem sc__law_rows : FnScope ["_law_sizes_here", "_law_found", "_law_size", "_law_longer", "_law_row", "_law_value"] ["_law_sizes_here"] (defScope s__law_rows) := ⟨rfl, rfl, rfl, by decide +kernel, rfl, by decide +kernel, by decide +kernel⟩
theorem ok__law_rows (T : Txt K mg a) : FnOk P w K mg base (L2.CX P w) 1 a.f__law_rows a.d__law_rows ["_law_sizes_here"] (spD K 1 F__law_rows) := by
  refine def_ok (k := 0) T.F__law_rows sc__law_rows rfl fun cdv A outer s H E hr tk po hu => ?_
  have nd := sc__law_rows.nd
  have hu5 := units5 hr
  exact ⟨_, (css_cons (cs_set 1 nd (ce_l (cf_lst (ca_cons (ce_tup ca_nil) ca_nil))))
  (css_cons (cs_for po rfl (ci_seq K (by rfl) (ce_var 0)) (cg_name 2 nd) (css_cons (cs_set 3 nd (ce_l (cf_lst ca_nil)))
  (css_cons (cs_for po rfl (ci_seq K (by rfl) (ce_var 1)) (cg_name 4 nd) (css_one (cs_set 3 nd (ce_b (o_add K (by rfl)) (ce_var 3) (ce_l (lc_1 (own := [("_law_value", 5)]) s rfl nd (ci_range1 T.b_range (ca_cons (ce_var 2) ca_nil)) (blkOk_by (by kernel_rfl)) (fun _ _ _ _ _ => (cg_name 5 nd)) (fun _ _ _ _ _ => cts_nil) (fun _ _ _ _ _ => (ce_b (o_add K (by rfl)) (ce_var 4) (ce_tup (ca_cons (ce_var 5) ca_nil))))).toCF)))))
  (css_one (cs_set 1 nd (ce_var 3))))))
  (css_one (cs_ret (ce_var 1)))))⟩
theorem sc__law_tally_deed : FnScope ["_law_d", "_law_sizes_here", "_law_known", "_law_some", "_law_row", "_law_many"] ["_law_d", "_law_sizes_here", "_law_known"] (defScope s__law_tally_deed) := ⟨rfl, rfl, rfl, by decide +kernel, rfl, by decide +kernel, by decide +kernel⟩
theorem ok__law_tally_deed (T : Txt K mg a) : FnOk P w K mg base (L2.CX P w) 2 a.f__law_tally_deed a.d__law_tally_deed ["_law_d", "_law_sizes_here", "_law_known"] (spD K 3 F__law_tally_deed) := by
  refine def_ok (k := 1) T.F__law_tally_deed sc__law_tally_deed rfl fun cdv A outer s H E hr tk po hu => ?_
  have nd := sc__law_tally_deed.nd
  have hu5 := units5 hr
  exact ⟨_, (css_cons (cs_set 3 nd (ce_f K (by rfl) (ok__law_rows T) (hr.mono (by decide)) T.g__law_rows T.k__law_rows T.bd__law_rows tk (ca_cons (ce_var 1) ca_nil)))
  (css_cons (cs_set 4 nd (ce_ix K (by rfl) (ce_var 3) (ce_b o_mod (ce_ix K (by rfl) (ce_var 0) ce_int) (ce_callB (k_len K (by rfl)) T.b_len (by decide +kernel) (ca_cons (ce_var 3) ca_nil)))))
  (css_cons (cs_if (ct_c (o_eq K (by rfl) hu) (ce_ix K (by rfl) (ce_var 0) ce_int) ce_int) (css_one (cs_set 4 nd (ce_ix K (by rfl) (ce_l (cf_lst (ca_cons (ce_b (o_add K (by rfl)) (ce_var 4) (ce_tup (ca_cons ce_int ca_nil))) (ca_cons (ce_sl K (by rfl) (ce_var 4) co_none (co_some (ce_neg ce_int))) (ca_cons (ce_b (o_add K (by rfl)) (ce_callTy (k_tuple K (by rfl)) T.b_tuple (by decide +kernel) (ca_cons (ce_l (cf_lst (ca_cons ce_int ca_nil))) ca_nil)) (ce_sl K (by rfl) (ce_var 4) (co_some ce_int) co_none)) (ca_cons (ce_b (o_add K (by rfl)) (ce_callTy (k_tuple K (by rfl)) T.b_tuple (by decide +kernel) (ca_cons (ce_l (cf_lst (ca_cons (ce_neg ce_int) ca_nil))) ca_nil)) (ce_sl K (by rfl) (ce_var 4) (co_some ce_int) co_none)) ca_nil)))))) (ce_b o_mod (ce_ix K (by rfl) (ce_var 0) ce_int) ce_int)))) css_nil)
  (css_cons (cs_set 5 nd (ce_ix K (by rfl) (ce_l (cf_lst (ca_cons ce_int (ca_cons ce_int (ca_cons ce_int (ca_cons (ce_b (o_add K (by rfl)) ce_int (ce_b o_mod (ce_ix K (by rfl) (ce_var 0) ce_int) ce_int)) (ca_cons ce_int (ca_cons (ce_neg ce_int) (ca_cons ce_int (ca_cons ce_int ca_nil)))))))))) (ce_b o_mod (ce_ix K (by rfl) (ce_var 0) ce_int) ce_int)))
  (css_one (cs_ret (ce_tup (ca_cons (ce_if (ct_c o_gt (ce_ix K (by rfl) (ce_var 0) ce_int) ce_int) ce_str ce_str) (ca_cons (ce_var 4) (ca_cons (ce_var 5) ca_nil))))))))))⟩
theorem sc__law_tally_due : FnScope ["_law_deed", "_law_sizes_here", "_law_known", "_law_word", "_law_row", "_law_many", "_law_good", "_law_there", "_law_c"] ["_law_deed", "_law_sizes_here", "_law_known"] (defScope s__law_tally_due) := ⟨rfl, rfl, rfl, by decide +kernel, rfl, by decide +kernel, by decide +kernel⟩
theorem ok__law_tally_due (T : Txt K mg a) : FnOk P w K mg base (L2.CX P w) 1 a.f__law_tally_due a.d__law_tally_due ["_law_deed", "_law_sizes_here", "_law_known"] (spD K 3 F__law_tally_due) := by
  refine def_ok (k := 0) T.F__law_tally_due sc__law_tally_due rfl fun cdv A outer s H E hr tk po hu => ?_
  have nd := sc__law_tally_due.nd
  have hu5 := units5 hr
  exact ⟨_, (css_cons (cs_asg (ce_var 0) (cg_tup K (by rfl) (by rfl) (cgs_cons (cg_name 3 nd) (cgs_cons (cg_name 4 nd) (cgs_cons (cg_name 5 nd) cgs_nil (by rfl)) (by rfl)) (by rfl)) (by rfl) (by rfl)))
  (css_cons (cs_set 6 nd (ce_and (ce_c (o_eq K (by rfl) hu) (ce_callB (k_len K (by rfl)) T.b_len (by decide +kernel) (ca_cons (ce_var 4) ca_nil)) (ce_callB (k_len K (by rfl)) T.b_len (by decide +kernel) (ca_cons (ce_var 1) ca_nil))) (ce_one (ce_callB (k_all K (by rfl) (by rfl)) T.b_all (by decide +kernel) (ca_cons (ce_l (lc_1 (own := [("_law_c", 8)]) s rfl nd (ci_range1 T.b_range (ca_cons (ce_callB (k_len K (by rfl)) T.b_len (by decide +kernel) (ca_cons (ce_var 4) ca_nil)) ca_nil)) (blkOk_by (by kernel_rfl)) (fun _ _ _ _ _ => (cg_name 8 nd)) (fun _ _ _ _ _ => cts_nil) (fun _ _ _ _ _ => (ce_cc o_le o_lt ce_int (ce_ix K (by rfl) (ce_var 4) (ce_var 8)) (ce_ix K (by rfl) (ce_var 1) (ce_var 8))))).toCF) ca_nil)))))
  (css_cons (cs_if (ct_not (ct_val (ce_var 6))) (css_one (cs_ret (ce_tup (ca_cons ce_str (ca_cons ce_non ca_nil))))) css_nil)
  (css_cons (cs_if (ct_c o_lt (ce_var 5) ce_int) (css_one (cs_ret (ce_tup (ca_cons ce_str (ca_cons ce_non ca_nil))))) css_nil)
  (css_cons (cs_if (ct_c (o_eq K (by rfl) hu) (ce_var 3) ce_str) (css_one (cs_ret (ce_if (ct_c o_gt (ce_b (o_add K (by rfl)) (ce_callB (k_sum K (by rfl) (by rfl)) T.b_sum (by decide +kernel) (ca_cons (ce_l (cf_listVals T.b_list (ce_var 2))) ca_nil)) (ce_var 5)) ce_int) (ce_tup (ca_cons ce_str (ca_cons ce_non ca_nil))) (ce_tup (ca_cons ce_str (ca_cons ce_non ca_nil)))))) css_nil)
  (css_cons (cs_set 7 nd (ce_getX K (by rfl) hu (ce_var 2) (ce_var 4) ce_int))
  (css_one (cs_ret (ce_if (ct_c o_lt (ce_var 7) (ce_var 5)) (ce_tup (ca_cons ce_str (ca_cons (ce_var 7) ca_nil))) (ce_tup (ca_cons ce_str (ca_cons ce_non ca_nil))))))))))))⟩
theorem sc__law_tally_next : FnScope ["_law_deed", "_law_known", "_law_word", "_law_row", "_law_many", "_law_left"] ["_law_deed", "_law_known"] (defScope s__law_tally_next) := ⟨rfl, rfl, rfl, by decide +kernel, rfl, by decide +kernel, by decide +kernel⟩
theorem ok__law_tally_next (T : Txt K mg a) : FnOk P w K mg base (L2.CX P w) 1 a.f__law_tally_next a.d__law_tally_next ["_law_deed", "_law_known"] (spM K 2 1 F__law_tally_next) := by
  refine def_okM 1 (k := 0) T.F__law_tally_next sc__law_tally_next rfl fun cdv A outer s H E hr tk po hu => ?_
  have nd := sc__law_tally_next.nd
  have hu5 := units5 hr
  exact ⟨_, (css_cons (cs_asg (ce_var 0) (cg_tup K (by rfl) (by rfl) (cgs_cons (cg_name 2 nd) (cgs_cons (cg_name 3 nd) (cgs_cons (cg_name 4 nd) cgs_nil (by rfl)) (by rfl)) (by rfl)) (by rfl) (by rfl)))
  (css_cons (cs_set 5 nd (ce_lend 1 (ce_b (o_add K (by rfl)) (ce_getX K (by rfl) hu (ce_var 1) (ce_var 3) ce_int) (ce_if (ct_c (o_eq K (by rfl) hu) (ce_var 2) ce_str) (ce_var 4) (ce_neg (ce_var 4))))))
  (css_one (cs_if (ct_c o_gt (ce_var 5) ce_int) (css_one (cs_tputX K (by rfl) hu (cp_var 1 (pv 1)) (ce_var 3) (ce_var 5))) (css_one (cs_tpopX K (by rfl) hu (cp_var 1 (pv 1)) (ce_var 3)))))))⟩
theorem sc__law_same : FnScope ["_law_found", "_law_due", "_law_k"] ["_law_found", "_law_due"] (defScope s__law_same) := ⟨rfl, rfl, rfl, by decide +kernel, rfl, by decide +kernel, by decide +kernel⟩
theorem ok__law_same (T : Txt K mg a) : ∀ n : Nat, FnOk P w K mg base (L2.CX P w) (1 + n) a.f__law_same a.d__law_same ["_law_found", "_law_due"] (spD K 2 (F__law_same n))
  | 0 => ⟨fun vs H Q E h => h.1, fun A outer s H args us vs Q E hr he hb hv h => (by obtain ⟨_, _, _, _, _, _, z⟩ := h; exact z.elim)⟩
  | n + 1 => by
    have ih := ok__law_same T n
    refine def_ok (k := 1 + n) T.F__law_same sc__law_same rfl fun cdv A outer s H E hr tk po hu => ?_
    have nd := sc__law_same.nd
    have hu5 := units5 hr
    exact ⟨_, (css_cons (cs_if (ct_c o_is (ce_var 1) ce_non) (css_one (cs_ret (ce_c o_is (ce_var 0) ce_non))) css_nil)
  (css_cons (cs_if (ct_val (ce_callB (k_isi K (by rfl)) T.b_isinstance (by decide +kernel) (ca_cons (ce_var 1) (ca_cons (ce_bltn (v := .ty "str") (by rfl) T.b_str (by decide +kernel) rfl) ca_nil)))) (css_one (cs_ret (ce_and (ce_callB (k_isi K (by rfl)) T.b_isinstance (by decide +kernel) (ca_cons (ce_var 0) (ca_cons (ce_bltn (v := .ty "str") (by rfl) T.b_str (by decide +kernel) rfl) ca_nil))) (ce_one (ce_c (o_eq K (by rfl) hu) (ce_var 0) (ce_var 1)))))) css_nil)
  (css_cons (cs_if (ct_val (ce_callB (k_isi K (by rfl)) T.b_isinstance (by decide +kernel) (ca_cons (ce_var 1) (ca_cons (ce_bltn (v := .ty "int") (by rfl) T.b_int (by decide +kernel) rfl) ca_nil)))) (css_one (cs_ret (ce_and (ce_callB (k_isi K (by rfl)) T.b_isinstance (by decide +kernel) (ca_cons (ce_var 0) (ca_cons (ce_bltn (v := .ty "int") (by rfl) T.b_int (by decide +kernel) rfl) ca_nil))) (ce_and (ce_c (o_eq K (by rfl) hu) (ce_callB (k_isi K (by rfl)) T.b_isinstance (by decide +kernel) (ca_cons (ce_var 0) (ca_cons (ce_bltn (v := .ty "bool") (by rfl) T.b_bool (by decide +kernel) rfl) ca_nil))) (ce_callB (k_isi K (by rfl)) T.b_isinstance (by decide +kernel) (ca_cons (ce_var 1) (ca_cons (ce_bltn (v := .ty "bool") (by rfl) T.b_bool (by decide +kernel) rfl) ca_nil)))) (ce_one (ce_c (o_eq K (by rfl) hu) (ce_var 0) (ce_var 1))))))) css_nil)
  (css_cons (cs_if (CW.ct (cw_or (ct_c (o_ne K (by rfl) hu) (ce_callB (k_isi K (by rfl)) T.b_isinstance (by decide +kernel) (ca_cons (ce_var 1) (ca_cons (ce_bltn (v := .ty "list") (by rfl) T.b_list (by decide +kernel) rfl) ca_nil))) (ce_callB (k_isi K (by rfl)) T.b_isinstance (by decide +kernel) (ca_cons (ce_var 0) (ca_cons (ce_bltn (v := .ty "list") (by rfl) T.b_list (by decide +kernel) rfl) ca_nil)))) (cw_or1 (ct_c (o_ne K (by rfl) hu) (ce_callB (k_isi K (by rfl)) T.b_isinstance (by decide +kernel) (ca_cons (ce_var 1) (ca_cons (ce_bltn (v := .ty "tuple") (by rfl) T.b_tuple (by decide +kernel) rfl) ca_nil))) (ce_callB (k_isi K (by rfl)) T.b_isinstance (by decide +kernel) (ca_cons (ce_var 0) (ca_cons (ce_bltn (v := .ty "tuple") (by rfl) T.b_tuple (by decide +kernel) rfl) ca_nil))))))) (css_one (cs_ret ce_bl)) css_nil)
  (css_one (cs_ret (ce_and (ce_c (o_eq K (by rfl) hu) (ce_callB (k_len K (by rfl)) T.b_len (by decide +kernel) (ca_cons (ce_var 0) ca_nil)) (ce_callB (k_len K (by rfl)) T.b_len (by decide +kernel) (ca_cons (ce_var 1) ca_nil))) (ce_one (ce_callB (k_all K (by rfl) (by rfl)) T.b_all (by decide +kernel) (ca_cons (ce_l (lc_1 (own := [("_law_k", 2)]) s rfl nd (ci_range1 T.b_range (ca_cons (ce_callB (k_len K (by rfl)) T.b_len (by decide +kernel) (ca_cons (ce_var 1) ca_nil)) ca_nil)) (blkOk_by (by kernel_rfl)) (fun _ _ _ _ _ => (cg_name 2 nd)) (fun _ _ _ _ _ => cts_nil) (fun _ _ _ _ _ => (ce_f K (by rfl) ih (hr.mono (by omega)) T.g__law_same T.k__law_same T.bd__law_same takes0 (ca_cons (ce_ix K (by rfl) (ce_var 0) (ce_var 2)) (ca_cons (ce_ix K (by rfl) (ce_var 1) (ce_var 2)) ca_nil))))).toCF) ca_nil))))))))))⟩
theorem sc__law_done : FnScope ["_law_made", "_law_deed", "_law_word", "_law_row", "_law_many", "e"] ["_law_made", "_law_deed"] (defScope s__law_done) := ⟨rfl, rfl, rfl, by decide +kernel, rfl, by decide +kernel, by decide +kernel⟩
theorem ok__law_done (T : Txt K mg a) : FnOk P w K mg base (L2.CX P w) 5 a.f__law_done a.d__law_done ["_law_made", "_law_deed"] (spM K 2 0 F__law_done) := by
  refine def_okM 0 (k := 4) T.F__law_done sc__law_done rfl fun cdv A outer s H E hr tk po hu => ?_
  have nd := sc__law_done.nd
  have hu5 := units5 hr
  exact ⟨_, (css_cons (cs_asg (ce_var 1) (cg_tup K (by rfl) (by rfl) (cgs_cons (cg_name 2 nd) (cgs_cons (cg_name 3 nd) (cgs_cons (cg_name 4 nd) cgs_nil (by rfl)) (by rfl)) (by rfl)) (by rfl) (by rfl)))
  (css_cons (cs_tryT rfl rfl nd tk (fun W1 pn1 xe1 tk po => (css_one (cs_if (CW.ct (cw_and (ct_c (o_eq K (by rfl) hu) (ce_var 4) ce_int) (cw_and1 (ct_c (o_eq K (by rfl) hu) (ce_var 2) ce_str)))) (css_one (cs_exprM (cem_ownM K (by rfl) 0 T.kc_Tally T.M_Tally_put (ok_Tally_put T) (hr.mono (by decide)) T.bd2_Tally_put T.dv2_Tally_put (fun B => T.dd2_Tally_put B) tk (pv 0) (ca_cons (ce_var 3) ca_nil)))) (css_one (cs_if (ct_c (o_eq K (by rfl) hu) (ce_var 2) ce_str) (css_one (cs_exprM (cem_ownM K (by rfl) 0 T.kc_Tally T.M_Tally_put (ok_Tally_put T) (hr.mono (by decide)) T.bd_Tally_put .nil (fun _ => .nil) tk (pv 0) (ca_cons (ce_var 3) (ca_cons (ce_var 4) ca_nil))))) (css_one (cs_exprM (cem_ownM K (by rfl) 0 T.kc_Tally T.M_Tally_take (ok_Tally_take T) (hr.mono (by decide)) T.bd_Tally_take .nil (fun _ => .nil) tk (pv 0) (ca_cons (ce_var 3) (ca_cons (ce_var 4) ca_nil)))))))))) (HdsD.cons (i := 5) rfl rfl (ctest_one ⟨rfl, by decide, .inl T.hm_NoRows⟩) (tab_cons T.X_BadSizes.c T.ex_BadSizes_NoRows T.xc_BadSizes (tab_cons T.X_BadRow.c T.ex_BadRow_NoRows T.xc_BadRow (tab_cons T.X_BadMany.c T.ex_BadMany_NoRows T.xc_BadMany (tab_cons T.X_Full.c T.ex_Full_NoRows T.xc_Full (tab_cons T.X_NoRows.c T.ex_NoRows_NoRows T.xc_NoRows tab_nil))))) (cxs_retO (cex_tup (clx_cons (cex_fld (fun _ _ _ _ _ _ _ => pv 5)) (clx_cons (cex_fld (fun _ _ _ _ _ _ _ => pv 5)) clx_nil)))) (HdsD.cons (i := 5) rfl rfl (ctest_3 ⟨rfl, by decide, .inl T.hm_BadRow⟩ ⟨rfl, by decide, .inl T.hm_BadMany⟩ ⟨rfl, by decide, .inl T.hm_Full⟩) (tabA_cons T.X_BadSizes.c (exa_cons T.ex_BadSizes_BadRow (exa_cons T.ex_BadSizes_BadMany (exa_cons T.ex_BadSizes_Full exa_nil))) T.xc_BadSizes (tabA_cons T.X_BadRow.c (exa_cons T.ex_BadRow_BadRow (exa_cons T.ex_BadRow_BadMany (exa_cons T.ex_BadRow_Full exa_nil))) T.xc_BadRow (tabA_cons T.X_BadMany.c (exa_cons T.ex_BadMany_BadRow (exa_cons T.ex_BadMany_BadMany (exa_cons T.ex_BadMany_Full exa_nil))) T.xc_BadMany (tabA_cons T.X_Full.c (exa_cons T.ex_Full_BadRow (exa_cons T.ex_Full_BadMany (exa_cons T.ex_Full_Full exa_nil))) T.xc_Full (tabA_cons T.X_NoRows.c (exa_cons T.ex_NoRows_BadRow (exa_cons T.ex_NoRows_BadMany (exa_cons T.ex_NoRows_Full exa_nil))) T.xc_NoRows tabA_nil))))) (cxs_retO (cex_tup (clx_cons (cex_fld (fun _ _ _ _ _ _ _ => pv 5)) (clx_cons (cex_lift (fun _ _ _ _ _ _ _ => ce_non) (se_c _)) clx_nil)))) HdsD.nil)))
  (css_one (cs_retM (cem_of (ce_tup (ca_cons ce_str (ca_cons ce_non ca_nil))))))))⟩
theorem sc_law : FnScope ["_law_script", "_law_sizes_here", "_law_made", "_law_known", "_law_cell_here", "_law_deed", "_law_due", "_law_whole", "_law_text", "_law_found", "_law_row"] ["_law_script"] (defScope s_law) := ⟨rfl, rfl, rfl, by decide +kernel, rfl, by decide +kernel, by decide +kernel⟩
theorem ok_law {oc kV doc pm ct : Value} {od an : Option Addr} {osl : Array (Option Value)} {cL PL : Addr} (T : Txt K mg a) (lL : K.lookup a.f_law = some ⟨oc, od, .func (PySem.W.fnOf "law" "law" (defArgs s_law) (defBody s_law) (defScope s_law) .none kV doc pm an (.ref cL) ct), osl⟩) (hcL : PySem.W.codeIn K (.ref cL) "law" = true) (hP : PL ∈ tabsOf K) (TB : LamX.TabB base mg cL PL) :
    FnOk P w K mg base (L2.CX P w) 8 a.f_law (PySem.W.fnOf "law" "law" (defArgs s_law) (defBody s_law) (defScope s_law) .none kV doc pm an (.ref cL) ct) ["_law_script"] (spD K 1 F_law) := by
  refine def_okC (k := 7) lL hcL sc_law rfl fun A outer s H E hr tk po hu => ?_
  have nd := sc_law.nd
  have hu5 := units5 hr
  exact ⟨_, (css_cons (cs_set 0 nd (ce_sl K (by rfl) (ce_var 0) co_none (co_some ce_int)))
  (css_cons (cs_set 1 nd (ce_f K (by rfl) (ok__law_sizes T) (hr.mono (by decide)) T.g__law_sizes T.k__law_sizes T.bd__law_sizes tk (ca_cons (ce_f K (by rfl) (ok__law_cell T) (hr.mono (by decide)) T.g__law_cell T.k__law_cell T.bd__law_cell tk (ca_cons (ce_var 0) (ca_cons ce_int ca_nil))) (ca_cons ce_int ca_nil))))
  (css_cons (cs_ownN 2 nd (cn_make K (by rfl) T.kc_Tally T.mk_Tally (ok_Tally_init T) (hr.mono (by decide)) T.mc_Tally T.bd_Tally_init .nil (fun _ => .nil) tk (ca_cons (ce_var 1) ca_nil)))
  (css_cons (cs_ownN 3 nd cn_x0)
  (css_cons (cs_for po rfl (ci_seq K (by rfl) (ce_b (o_add K (by rfl)) (ce_sl K (by rfl) (ce_var 0) (co_some ce_int) co_none) (ce_l (cf_lst (ca_cons ce_int (ca_cons ce_int ca_nil)))))) (cg_name 4 nd) (css_cons (cs_set 5 nd (ce_lend 3 (ce_f K (by rfl) (ok__law_tally_deed T) (hr.mono (by decide)) T.g__law_tally_deed T.k__law_tally_deed T.bd__law_tally_deed tk (ca_cons (ce_f K (by rfl) (ok__law_draws T) (hr.mono (by decide)) T.g__law_draws T.k__law_draws T.bd__law_draws tk (ca_cons (ce_var 4) (ca_cons (ce_l (cf_lst (ca_cons ce_int (ca_cons ce_int (ca_cons ce_int (ca_cons ce_int (ca_cons ce_int ca_nil))))))) ca_nil))) (ca_cons (ce_var 1) (ca_cons (ce_var 3) ca_nil))))))
  (css_cons (cs_set 6 nd (ce_lend 3 (ce_f K (by rfl) (ok__law_tally_due T) (hr.mono (by decide)) T.g__law_tally_due T.k__law_tally_due T.bd__law_tally_due tk (ca_cons (ce_var 5) (ca_cons (ce_var 1) (ca_cons (ce_var 3) ca_nil))))))
  (css_cons (cs_ifM (ctm_not (ctm_val (cem_f K (by rfl) (ok__law_same T 6) (hr.mono (by decide)) T.g__law_same T.k__law_same T.bd__law_same tk (cam_cons (cem_ownF K (by rfl) (ok__law_done T) (hr.mono (by decide)) T.g__law_done T.k__law_done T.bd__law_done tk (cao_here 2 (pv 2) (ca_cons (ce_var 5) ca_nil))) (cam_cons (cem_of (ce_var 6)) cam_nil))))) (css_one (cs_ret ce_bl)) css_nil)
  (css_cons (cs_if (ct_c (o_eq K (by rfl) hu) (ce_ix K (by rfl) (ce_var 6) ce_int) ce_str) (css_one (cs_exprM (cem_ownF K (by rfl) (ok__law_tally_next T) (hr.mono (by decide)) T.g__law_tally_next T.k__law_tally_next T.bd__law_tally_next tk (cao_cons (ce_var 5) (cao_here 3 (pv 3) ca_nil))))) css_nil)
  (css_cons (cs_set 7 nd (ce_lend 3 (ce_callB (k_sum K (by rfl) (by rfl)) T.b_sum (by decide +kernel) (ca_cons (ce_l (cf_listVals T.b_list (ce_var 3))) ca_nil))))
  (css_cons (cs_set 8 nd (ce_b (o_add K (by rfl)) (ce_b (o_add K (by rfl)) (ce_b (o_add K (by rfl)) (ce_b (o_add K (by rfl)) ce_str (ce_callTy k_str T.b_str (by decide +kernel) (ca_cons (ce_var 7) ca_nil))) ce_str) (ce_callTy k_str T.b_str (by decide +kernel) (ca_cons (ce_callB (k_len K (by rfl)) T.b_len (by decide +kernel) (ca_cons (ce_var 1) ca_nil)) ca_nil))) ce_str))
  (css_cons (cs_set 9 nd (ce_lend 2 (ce_l (cf_lst (ca_cons (ce_mth0 K (by rfl) T.kc_Tally T.M_Tally_rows (ok_Tally_rows T) (hr.mono (by decide)) T.bd_Tally_rows .nil (fun _ => .nil) tk (ce_var 2)) (ca_cons (ce_lenO K (by rfl) T.kc_Tally T.M_Tally_len (ok_Tally_len T) (hr.mono (by decide)) T.bd_Tally_len T.b_len (ce_var 2)) (ca_cons (ce_reprO K (by rfl) T.kc_Tally T.M_Tally_repr (ok_Tally_repr T) (hr.mono (by decide)) T.bd_Tally_repr T.b_repr (ce_var 2)) (ca_cons (ce_fld K (by rfl) T.fl_sizes (ce_var 2)) ca_nil))))))))
  (css_one (cs_if (ct_lend 3 (ct_not (ct_val (ce_f K (by rfl) (ok__law_same T 6) (hr.mono (by decide)) T.g__law_same T.k__law_same T.bd__law_same tk (ca_cons (ce_var 9) (ca_cons (ce_l (cf_lst (ca_cons (ce_l (lc_1 (own := [("_law_row", 10)]) s rfl nd (ci_seq K (by rfl) (ce_l (cf_sortedX K (by rfl) hu T.b_sorted (ce_var 3)))) (blkOk_by (by kernel_rfl)) (fun _ _ _ _ _ => (cg_name 10 nd)) (fun _ _ _ _ _ => cts_nil) (fun _ _ _ _ _ => (ce_tup (ca_cons (ce_var 10) (ca_cons (ce_ixX K (by rfl) hu (ce_var 3) (ce_var 10)) ca_nil))))).toCF) (ca_cons (ce_var 7) (ca_cons (ce_var 8) (ca_cons (ce_var 1) ca_nil)))))) ca_nil)))))) (css_one (cs_ret ce_bl)) css_nil))))))))))
  (css_one (cs_ret ce_bl)))))))⟩
end
end My
namespace DV
open PySem L2
theorem lcF_map {β : Type} (f : β → D) (h : β → D) {b : D → DS → Option DS} {t : DS → Res Bool} {e : DS → Res D} {δ : DS} : ∀ xs : List β,
    (∀ x, x ∈ xs → ∃ δ', b (f x) δ = some δ' ∧ t δ' = .ok true ∧ e δ' = .ok (h x)) → lcF b t e (xs.map f) δ = .ok (xs.map h)
  | [], _ => rfl
  | x :: xs, hh => by
    obtain ⟨δ', h1, h2, h3⟩ := hh x (by simp)
    rw [List.map_cons, lcF, h1]
    dsimp only
    rw [h2, h3]
    simp only [Res.calm_ok, Res.bind_ok, if_true]
    rw [lcF_map f h xs fun y hy => hh y (by simp [hy])]
    rfl
theorem lcF_filter {β : Type} (f : β → D) (p : β → Bool) (h : β → D) {b : D → DS → Option DS} {t : DS → Res Bool} {e : DS → Res D} {δ : DS} : ∀ xs : List β,
    (∀ x, x ∈ xs → ∃ δ', b (f x) δ = some δ' ∧ t δ' = .ok (p x) ∧ (p x = true → e δ' = .ok (h x))) → lcF b t e (xs.map f) δ = .ok ((xs.filter p).map h)
  | [], _ => rfl
  | x :: xs, hh => by
    obtain ⟨δ', h1, h2, h3⟩ := hh x (by simp)
    have ih := lcF_filter f p h xs fun y hy => hh y (by simp [hy])
    rw [List.map_cons, lcF, h1]
    dsimp only
    rw [h2]
    simp only [Res.calm_ok, Res.bind_ok]
    cases hp : p x with
    | true =>
      rw [if_pos rfl, h3 hp, Res.calm_ok, Res.bind_ok, ih, Res.bind_ok, List.filter_cons, if_pos hp]
      rfl
    | false =>
      rw [if_neg Bool.false_ne_true, ih, List.filter_cons, if_neg (by rw [hp]; exact Bool.false_ne_true)]
theorem cutD_map {β : Type} (f : β → D) (xs : List β) (lo hi : Option Int) : cutD (xs.map f) lo hi = ((xs.drop (HT.sIx xs.length 0 lo)).take (HT.sIx xs.length xs.length hi - HT.sIx xs.length 0 lo)).map f := by
  unfold cutD
  rw [List.length_map, List.map_take, List.map_drop]
theorem mul_ok {i j : Int} {a b : Nat} (ha : i.natAbs < 2 ^ a) (hb : j.natAbs < 2 ^ b) (h0 : 0 < a) (h1 : 0 < b) (h : a + b ≤ 1000000) : i.natAbs.log2 + j.natAbs.log2 < 1000000 := wide_mul ha hb h0 h1 h
theorem oMul_int {i j : Int} (h : i.natAbs.log2 + j.natAbs.log2 < 1000000) : oMul2 (.int i) (.int j) = .ok (.int (i * j)) := by
  show (if i.natAbs.log2 + j.natAbs.log2 < 1000000 then _ else _) = _
  rw [if_pos h]
theorem oMulI_int {i j : Int} (h : i.natAbs.log2 + j.natAbs.log2 < 1000000) : oMulI (.int i) (.int j) = .ok (.int (i * j)) := by
  show (if i.natAbs.log2 + j.natAbs.log2 < 1000000 then _ else _) = _
  rw [if_pos h]
theorem oMod_pos {i j : Int} (h : 0 < j) : oMod (.int i) (.int j) = .ok (.int (i % j)) := by
  show (if j ≠ 0 then _ else _) = _
  rw [if_pos (by omega), Int.fmod_eq_emod_of_nonneg i (by omega)]
theorem log2_small {n k : Nat} (h0 : 0 < k) (h : n < 2 ^ k) : n.log2 < k := PySem.Flt.log2_lt_of h0 h
theorem oFdiv_pos {i j : Int} (h : 0 < j) (hl : j.natAbs < 2 ^ 9000) : oFdiv (.int i) (.int j) = .ok (.int (i / j)) := by
  show (if j ≠ 0 ∧ j.natAbs.log2 < 9000 then _ else _) = _
  rw [if_pos ⟨by omega, log2_small (by decide) hl⟩, Int.fdiv_eq_ediv_of_nonneg i (by omega)]
theorem oAdd_int (i j : Int) : oAdd (.int i) (.int j) = .ok (.int (i + j)) := rfl
theorem oSub_int (i j : Int) : oSub (.int i) (.int j) = .ok (.int (i - j)) := rfl
theorem oEq_int (i j : Int) : oEq (.int i) (.int j) = .ok (.bl (decide (i = j))) := by
  show (if SeqAt.shaped (.int i) = true ∧ SeqAt.shaped (.int j) = true then Res.ok (D.bl (if false = true then _ else i == j)) else .no) = _
  rw [if_pos ⟨by rfl, by rfl⟩]
  rfl
theorem oNe_int (i j : Int) : oNe (.int i) (.int j) = .ok (.bl (!decide (i = j))) := by
  show (if SeqAt.shaped (.int i) = true ∧ SeqAt.shaped (.int j) = true then Res.ok (D.bl (if true = true then !(i == j) else _)) else .no) = _
  rw [if_pos ⟨by rfl, by rfl⟩]
  rfl
theorem oEq_bl (i j : Bool) : oEq (.bl i) (.bl j) = .ok (.bl (i == j)) := by
  cases i <;> cases j <;> rfl
theorem oNe_bl (i j : Bool) : oNe (.bl i) (.bl j) = .ok (.bl (!(i == j))) := by
  cases i <;> cases j <;> rfl
theorem gRange1_nat {n : Nat} (hz : n ≤ sizeLine) : gRange1 [D.int (n : Int)] = .ok (rangeD 0 n) := by
  rw [sizeLine_eq] at hz
  unfold gRange1
  dsimp only
  rw [if_pos (by omega), Int.toNat_natCast]
theorem rangeD_len (lo : Int) (n : Nat) : (rangeD lo n).length = n := by simp [rangeD]
theorem seq_nx {g h : DS → Fl} {δ δ' : DS} {r : Fl} (h1 : g δ = .nx δ') (h2 : h δ' = r) : cSeq g h δ = r := by
  rw [cSeq, h1]
  exact h2
theorem seq_rt {g h : DS → Fl} {δ : DS} {d : D} (h1 : g δ = .rt d) : cSeq g h δ = .rt d := by
  rw [cSeq, h1]
  rfl
theorem seq_rs {g h : DS → Fl} {δ δ' : DS} {x : Exn} (h1 : g δ = .rs x δ') : cSeq g h δ = .rs x δ' := by
  rw [cSeq, h1]
  rfl
theorem asg_nx {i : Nat} {f : DS → Res D} {δ : DS} {d : D} (h : f δ = .ok d) : cAsg i f δ = .nx (δ.set i (some (.im d))) := by
  rw [cAsg, h]
  rfl
theorem drop_nx {f : DS → Res D} {δ : DS} {d : D} (h : f δ = .ok d) : cDrop f δ = .nx δ := by
  rw [cDrop, h]
  rfl
theorem ret_rt {f : DS → Res D} {δ : DS} {d : D} (h : f δ = .ok d) : cRet f δ = .rt d := by
  rw [cRet, h]
  rfl
theorem if_t {t : DS → Res Bool} {g h : DS → Fl} {δ : DS} {r : Fl} (ht : t δ = .ok true) (hg : g δ = r) : cIf t g h δ = r := by
  rw [cIf, ht]
  exact hg
theorem if_f {t : DS → Res Bool} {g h : DS → Fl} {δ : DS} {r : Fl} (ht : t δ = .ok false) (hh : h δ = r) : cIf t g h δ = r := by
  rw [cIf, ht]
  exact hh
theorem for_r {fi : DS → Res (List D)} {b : D → DS → Option DS} {g : DS → Fl} {δ : DS} {ds : List D} {r : Fl} (h : fi δ = .ok ds) (hf : forF b g ds δ = r) : cFor fi b g δ = r := by
  rw [cFor, h]
  exact hf
end DV
namespace My
open PySem L2 DV
noncomputable def digs : Int → List Int → List Int
  | _, [] => []
  | m, s :: ss => m % s :: digs (m / s) ss
theorem draws_loop (L : D) (o2 o3 o4 : Option O) : ∀ (ss : List Int) (m : Int) (ds : List D) (o : Option O), (∀ s ∈ ss, 0 < s ∧ s < 2 ^ 31) → ds.length + ss.length < 1000 →
    ∃ m' o', forF (bName 6) (cSeq (cApp 5 (cBin oMod (cVar 0) (cVar 6))) (cAsg 0 (cBin oFdiv (cVar 0) (cVar 6)))) (ss.map D.int) [some (.im (.int m)), some (.im L), o2, o3, o4, some (.ow ds), o] =
      .nx [some (.im (.int m')), some (.im L), o2, o3, o4, some (.ow (ds ++ (digs m ss).map D.int)), o']
  | [], m, ds, o, _, _ => ⟨m, o, by simp [forF, digs]⟩
  | s :: ss, m, ds, o, hs, hl => by
    obtain ⟨h1, h2⟩ := hs s (by simp)
    have hl2 : ds.length + (ss.length + 1) < 1000 := by simpa using hl
    have hz : ds.length < sizeLine := Nat.lt_trans (by omega : ds.length < 1000) (by decide)
    obtain ⟨m', o', ih⟩ := draws_loop L o2 o3 o4 ss (m / s) (ds ++ [D.int (m % s)]) (some (.im (.int s))) (fun x hx => hs x (by simp [hx])) (by simp; omega)
    refine ⟨m', o', ?_⟩
    have hs9 : s.natAbs < 2 ^ 9000 := Nat.lt_of_lt_of_le (show s.natAbs < 2 ^ 31 by omega) (Nat.pow_le_pow_right (by decide) (by decide))
    rw [List.map_cons, forF]
    simp only [bName, List.set_cons_succ, List.set_cons_zero]
    have e1 : oMod (.int m) (.int s) = .ok (.int (m % s)) := oMod_pos h1
    have e2 : oFdiv (.int m) (.int s) = .ok (.int (m / s)) := oFdiv_pos h1 hs9
    have eb : cSeq (cApp 5 (cBin oMod (cVar 0) (cVar 6))) (cAsg 0 (cBin oFdiv (cVar 0) (cVar 6))) [some (.im (.int m)), some (.im L), o2, o3, o4, some (.ow ds), some (.im (.int s))] =
        .nx [some (.im (.int (m / s))), some (.im L), o2, o3, o4, some (.ow (ds ++ [D.int (m % s)])), some (.im (.int s))] := by
      simp [cSeq, cApp, cBin, cVar, cAsg, e1, e2, hz]
    rw [eb]
    dsimp only
    rw [ih]
    simp [digs]
theorem draws_ok (c : Int) (ss : List Int) (hs : ∀ s ∈ ss, 0 < s ∧ s < 2 ^ 31) (hl : ss.length < 1000) : ∃ m, F__law_draws [.int c, .lst (ss.map D.int)] = .ok (.lst ((digs m ss).map D.int)) := by
  have fin : ∀ (m : Int) (o2 o3 o4 : Option O), flR (((cSeq (cOwn 5 cNil) (cSeq (cFor (cItems (cVar 1)) (bName 6) (cSeq (cApp 5 (cBin oMod (cVar 0) (cVar 6))) (cAsg 0 (cBin oFdiv (cVar 0) (cVar 6))))) (cFz 5 (cRet (cVar 5)))))) [some (.im (.int m)), some (.im (.lst (ss.map D.int))), o2, o3, o4, none, none]) = .ok (.lst ((digs m ss).map D.int)) := by
    intro m o2 o3 o4
    obtain ⟨m', o', h⟩ := draws_loop (.lst (ss.map D.int)) o2 o3 o4 ss m [] none hs (by simpa using hl)
    simp only [List.nil_append] at h
    simp [cSeq, cOwn, cNil, cFor, cItems, cVar, itemsD, h, cFz, fz, cRet]
  unfold F__law_draws defF g__law_draws
  have est : st0 5 [D.int c, .lst (ss.map D.int)] = [some (.im (.int c)), some (.im (.lst (ss.map D.int))), none, none, none, none, none] := rfl
  rw [est, cSeq]
  have p1 : oPow (.int 10) (.int 18) = .ok (.int (10 ^ 18)) := by rfl
  have htest : (cTest (cBin oLt (cCall gAbs (cCons (cVar 0) cNil)) (cBin oPow (cC (.int 10)) (cC (.int 18))))) [some (.im (.int c)), some (.im (.lst (ss.map D.int))), none, none, none, none, none] = .ok (decide ((if c < 0 then -c else c) < 10 ^ 18)) := by
    simp [cTest, cBin, cCall, gAbs, cCons, cVar, cNil, cC, p1, oI, asB]
  by_cases hc : (if c < 0 then -c else c) < 10 ^ 18
  · have hc1 : c.natAbs < 2 ^ 60 := by
      have : (10 : Int) ^ 18 < 2 ^ 60 := by decide
      split at hc <;> omega
    have m1 : oMul2 (.int c) (.int 48271) = .ok (.int (c * 48271)) := oMul_int (mul_ok (a := 60) (b := 16) hc1 (by decide) (by decide) (by decide) (by decide))
    have hm0 : 0 ≤ (c * 48271 + 11) % 2147483647 ∧ (c * 48271 + 11) % 2147483647 < 2147483647 := by omega
    generalize hmx : (c * 48271 + 11) % 2147483647 = mx at hm0
    have m2 : oMul2 (.int mx) (.int mx) = .ok (.int (mx * mx)) := oMul_int (mul_ok (a := 31) (b := 31) (by omega) (by omega) (by decide) (by decide) (by decide))
    have m3 : oMul2 (.int 40692) (.int mx) = .ok (.int (40692 * mx)) := oMul_int (mul_ok (a := 31) (b := 31) (by decide) (by omega) (by decide) (by decide) (by decide))
    have ht0 : 0 ≤ (mx * mx + 40692 * mx + c) % 2147483399 ∧ (mx * mx + 40692 * mx + c) % 2147483399 < 2147483399 := ⟨Int.emod_nonneg _ (by decide), Int.emod_lt_of_pos _ (by decide)⟩
    generalize htw : (mx * mx + 40692 * mx + c) % 2147483399 = tw at ht0
    have m4 : oMul2 (.int tw) (.int 16807) = .ok (.int (tw * 16807)) := oMul_int (mul_ok (a := 31) (b := 31) (by omega) (by decide) (by decide) (by decide) (by decide))
    have hx0 : 0 ≤ (tw * 16807 + mx) % 1000000007 ∧ (tw * 16807 + mx) % 1000000007 < 1000000007 := by omega
    generalize hsx : (tw * 16807 + mx) % 1000000007 = sx at hx0
    have m5 : oMul2 (.int 1000000007) (.int mx) = .ok (.int (1000000007 * mx)) := oMul_int (mul_ok (a := 31) (b := 31) (by decide) (by omega) (by decide) (by decide) (by decide))
    have m6 : oMul2 (.int 2147483399) (.int (sx + 1000000007 * mx)) = .ok (.int (2147483399 * (sx + 1000000007 * mx))) := oMul_int (mul_ok (a := 32) (b := 64) (by decide) (by omega) (by decide) (by decide) (by decide))
    have d1 : oMod (.int (c * 48271 + 11)) (.int 2147483647) = .ok (.int mx) := by rw [oMod_pos (by decide), hmx]
    have d2 : oMod (.int (mx * mx + 40692 * mx + c)) (.int 2147483399) = .ok (.int tw) := by rw [oMod_pos (by decide), htw]
    have d3 : oMod (.int (tw * 16807 + mx)) (.int 1000000007) = .ok (.int sx) := by rw [oMod_pos (by decide), hsx]
    refine ⟨tw + 2147483399 * (sx + 1000000007 * mx), ?_⟩
    have hif : cIf (cTest (cBin oLt (cCall gAbs (cCons (cVar 0) cNil)) (cBin oPow (cC (.int 10)) (cC (.int 18))))) (cSeq (cAsg 2 (cBin oMod (cBin oAdd (cBin oMul2 (cVar 0) (cC (.int 48271))) (cC (.int 11))) (cC (.int 2147483647))))
        (cSeq (cAsg 3 (cBin oMod (cBin oAdd (cBin oAdd (cBin oMul2 (cVar 2) (cVar 2)) (cBin oMul2 (cC (.int 40692)) (cVar 2))) (cVar 0)) (cC (.int 2147483399))))
        (cSeq (cAsg 4 (cBin oMod (cBin oAdd (cBin oMul2 (cVar 3) (cC (.int 16807))) (cVar 2)) (cC (.int 1000000007))))
        (cAsg 0 (cBin oAdd (cVar 3) (cBin oMul2 (cC (.int 2147483399)) (cBin oAdd (cVar 4) (cBin oMul2 (cC (.int 1000000007)) (cVar 2))))))))) (cAsg 0 (cBin oSub (cCall gAbs (cCons (cVar 0) cNil)) (cBin oPow (cC (.int 10)) (cC (.int 18)))))
        [some (.im (.int c)), some (.im (.lst (ss.map D.int))), none, none, none, none, none] = .nx [some (.im (.int (tw + 2147483399 * (sx + 1000000007 * mx)))), some (.im (.lst (ss.map D.int))), some (.im (.int mx)), some (.im (.int tw)), some (.im (.int sx)), none, none] := by
      rw [cIf, htest, stE_ok, if_pos (decide_eq_true hc)]
      simp [cBin, cVar, cC, cSeq, cAsg, oAdd_int, m1, m2, m3, m4, m5, m6, d1, d2, d3]
    rw [hif]
    exact fin _ _ _ _
  · refine ⟨(if c < 0 then -c else c) - 10 ^ 18, ?_⟩
    have hif : cIf (cTest (cBin oLt (cCall gAbs (cCons (cVar 0) cNil)) (cBin oPow (cC (.int 10)) (cC (.int 18))))) (cSeq (cAsg 2 (cBin oMod (cBin oAdd (cBin oMul2 (cVar 0) (cC (.int 48271))) (cC (.int 11))) (cC (.int 2147483647))))
        (cSeq (cAsg 3 (cBin oMod (cBin oAdd (cBin oAdd (cBin oMul2 (cVar 2) (cVar 2)) (cBin oMul2 (cC (.int 40692)) (cVar 2))) (cVar 0)) (cC (.int 2147483399))))
        (cSeq (cAsg 4 (cBin oMod (cBin oAdd (cBin oMul2 (cVar 3) (cC (.int 16807))) (cVar 2)) (cC (.int 1000000007))))
        (cAsg 0 (cBin oAdd (cVar 3) (cBin oMul2 (cC (.int 2147483399)) (cBin oAdd (cVar 4) (cBin oMul2 (cC (.int 1000000007)) (cVar 2))))))))) (cAsg 0 (cBin oSub (cCall gAbs (cCons (cVar 0) cNil)) (cBin oPow (cC (.int 10)) (cC (.int 18)))))
        [some (.im (.int c)), some (.im (.lst (ss.map D.int))), none, none, none, none, none] = .nx [some (.im (.int ((if c < 0 then -c else c) - 10 ^ 18))), some (.im (.lst (ss.map D.int))), none, none, none, none, none] := by
      rw [cIf, htest, stE_ok, if_neg (by simpa using hc)]
      simp [cBin, cVar, cC, cCall, gAbs, cCons, cNil, cAsg, p1, oSub_int]
    rw [hif]
    exact fin _ _ _ _
end My
namespace My
open PySem L2 DV
noncomputable def scalP : V → Prop
  | .non => True
  | .bl _ => True
  | .int _ => True
  | .str z => SeqAt.shaped (.str z) = true
  | _ => False
noncomputable def plain : Nat → D → Prop
  | 0, d => match d with
    | .v x => scalP x
    | _ => False
  | n + 1, d => match d with
    | .v x => scalP x
    | .lst xs => xs.length ≤ sizeLine ∧ ∀ x ∈ xs, plain n x
    | .tup xs => xs.length ≤ sizeLine ∧ ∀ x ∈ xs, plain n x
    | _ => False
theorem oEq_str {z : Str} (h : SeqAt.shaped (.str z) = true) : oEq (.str z) (.str z) = .ok (.bl true) := by
  show (if SeqAt.shaped (.str z) = true ∧ SeqAt.shaped (.str z) = true then Res.ok (D.bl (if false = true then _ else z == z)) else .no) = _
  rw [if_pos ⟨h, h⟩]
  simp
theorem all_true : ∀ n : Nat, gAll [.lst ((List.range n).map fun _ => D.bl true)] = .ok (.bl true) := fun n => by
  have e : ((List.range n).map fun _ => D.bl true) = ((List.range n).map fun _ => true).map D.bl := by simp
  unfold gAll gBls
  dsimp only
  rw [e, blsD_map]
  dsimp only
  congr 2
  simp
theorem same_items {n : Nat} {xs : List D} {δ0 δ1 : O} (ih : ∀ x ∈ xs, F__law_same (n + 1) [x, x] = .ok (.bl true)) (hx : ∀ (i : Nat) (d : D), xs[i]? = some d → (cBin oIx (cVar 0) (cVar 2)) [some δ0, some δ1, some (.im (.int (0 + (i : Int))))] = .ok d ∧ (cBin oIx (cVar 1) (cVar 2)) [some δ0, some δ1, some (.im (.int (0 + (i : Int))))] = .ok d) :
    lcF (bName 2) cYes (cFn0 (F__law_same (n + 1)) (cCons (cBin oIx (cVar 0) (cVar 2)) (cCons (cBin oIx (cVar 1) (cVar 2)) cNil))) (rangeD 0 xs.length) [some δ0, some δ1, none] = .ok ((List.range xs.length).map fun _ => D.bl true) := by
  unfold rangeD
  refine lcF_map _ _ _ fun i hi => ?_
  have hi' : i < xs.length := List.mem_range.mp hi
  obtain ⟨h1, h2⟩ := hx i xs[i] (by simp [hi'])
  refine ⟨_, rfl, rfl, ?_⟩
  show cFn0 _ _ [some δ0, some δ1, some (.im (.int (0 + (i : Int))))] = _
  simp only [cFn0, cCons, h1, h2, cNil, Res.bind_ok]
  exact ih _ (List.getElem_mem hi')
theorem ix_at {xs : List D} {i : Nat} {d : D} (h : xs[i]? = some d) : atI xs (0 + (i : Int)) = some d := by
  rw [Int.zero_add]
  exact atI_nat h
theorem same_scal (n : Nat) : ∀ (x : V), scalP x → F__law_same (n + 1) [.v x, .v x] = .ok (.bl true)
  | .non, _ => by
    simp [F__law_same, defF, g__law_same, st0, cSeq, cIf, cTest, cBin, oIsN, cVar, cC, asB, DV.isNon, cRet]
  | .bl b, _ => by
    simp [F__law_same, defF, g__law_same, st0, cSeq, cIf, cTest, cBin, oIsN, cVar, cC, asB, DV.isNon, cRet, cCall, gIsi, isiD, tyD, cCons, cNil, cNext, cAndV, oEq_bl]
  | .int i, _ => by
    have e := oEq_int i i
    simp at e
    simp [F__law_same, defF, g__law_same, st0, cSeq, cIf, cTest, cBin, oIsN, cVar, cC, asB, DV.isNon, cRet, cCall, gIsi, isiD, tyD, cCons, cNil, cNext, cAndV, oEq_bl, e]
  | .str z, h => by
    have e := oEq_str h
    simp [F__law_same, defF, g__law_same, st0, cSeq, cIf, cTest, cBin, oIsN, cVar, cC, asB, DV.isNon, cRet, cCall, gIsi, isiD, tyD, cCons, cNil, cNext, cAndV, oEq_bl, e]
theorem same_lst {n : Nat} {xs : List D} (hz : xs.length ≤ sizeLine) (ih : ∀ x ∈ xs, F__law_same (n + 1) [x, x] = .ok (.bl true)) : F__law_same (n + 1 + 1) [.lst xs, .lst xs] = .ok (.bl true) := by
  have e := oEq_int (xs.length : Int) xs.length
  simp at e
  have hl := same_items (n := n) (δ0 := .im (.lst xs)) (δ1 := .im (.lst xs)) ih fun i d hi => by
    simp [cBin, cVar, oIx, ix_at hi, atI_nat hi]
  have hr := gRange1_nat hz
  have hz2 : (rangeD 0 xs.length).length ≤ sizeLine := by rw [rangeD_len]; exact hz
  have ha := all_true xs.length
  rw [F__law_same]
  simp [defF, g__law_same, st0, cSeq, cIf, cTest, cBin, oIsN, cVar, cC, asB, DV.isNon, cRet, cCall, gIsi, isiD, tyD, cCons, cNil, cNext, cAndV, cOrT, oNe_bl, oEq_bl, gLen, e, cL, cLc, cIt, hr, hz2, wipeD, hl, ha]
theorem same_tup {n : Nat} {xs : List D} (hz : xs.length ≤ sizeLine) (ih : ∀ x ∈ xs, F__law_same (n + 1) [x, x] = .ok (.bl true)) : F__law_same (n + 1 + 1) [.tup xs, .tup xs] = .ok (.bl true) := by
  have e := oEq_int (xs.length : Int) xs.length
  simp at e
  have hl := same_items (n := n) (δ0 := .im (.tup xs)) (δ1 := .im (.tup xs)) ih fun i d hi => by
    simp [cBin, cVar, oIx, ix_at hi, atI_nat hi]
  have hr := gRange1_nat hz
  have hz2 : (rangeD 0 xs.length).length ≤ sizeLine := by rw [rangeD_len]; exact hz
  have ha := all_true xs.length
  rw [F__law_same]
  simp [defF, g__law_same, st0, cSeq, cIf, cTest, cBin, oIsN, cVar, cC, asB, DV.isNon, cRet, cCall, gIsi, isiD, tyD, cCons, cNil, cNext, cAndV, cOrT, oNe_bl, oEq_bl, gLen, e, cL, cLc, cIt, hr, hz2, wipeD, hl, ha]
theorem same_refl (n : Nat) : ∀ (d : D), plain n d → F__law_same (n + 1) [d, d] = .ok (.bl true) := by
  induction n with
  | zero =>
    intro d h
    cases d with
    | v x => exact same_scal 0 x h
    | lst _ => exact h.elim
    | tup _ => exact h.elim
    | _ => exact h.elim
  | succ n ih =>
    intro d h
    cases d with
    | v x => exact same_scal (n + 1) x h
    | lst xs => exact same_lst h.1 fun x hx => ih x (h.2 x hx)
    | tup xs => exact same_tup h.1 fun x hx => ih x (h.2 x hx)
    | _ => exact h.elim
end My
namespace DV
open PySem L2
section
variable {δ : DS} {f f' : DS → Res D} {fs fk : DS → Res (List D)} {t u : DS → Res Bool} {g h : DS → Fl} {i : Nat}
@[simp] theorem ev_var : cVar i δ = (match δ[i]? with | some (some (.im d)) => .ok d | _ => .no) := rfl
@[simp] theorem ev_c {d : D} : cC d δ = .ok d := rfl
@[simp] theorem ev_bin {o : D → D → Res D} : cBin o f f' δ = (f δ).bind fun x => (f' δ).bind fun y => o x y := rfl
@[simp] theorem ev_un {o : D → Res D} : cUn o f δ = (f δ).bind o := rfl
@[simp] theorem ev_chain {o o' : D → D → Res D} {fb fc : DS → Res D} : cChain o o' f fb fc δ = (f δ).bind fun x => (fb δ).bind fun y => (o x y).bind fun k => (match k with
  | .v (.bl true) => (fc δ).bind fun z => o' y z
  | .v (.bl false) => .ok (.bl false)
  | _ => .no) := rfl
@[simp] theorem ev_test : cTest f δ = (f δ).bind asB := rfl
@[simp] theorem ev_asB {b : Bool} : asB (.v (.bl b)) = .ok b := rfl
@[simp] theorem ev_asI {b : Int} : asI (.v (.int b)) = .ok (some b) := rfl
@[simp] theorem ev_notT : cNotT t δ = (t δ).bind fun b => .ok (!b) := rfl
@[simp] theorem ev_andT : cAndT t u δ = (t δ).bind fun b => if b = true then u δ else .ok false := rfl
@[simp] theorem ev_orT : cOrT t u δ = (t δ).bind fun b => if b = true then .ok true else u δ := rfl
@[simp] theorem ev_andV : cAndV f f' δ = (f δ).bind fun x => (match x with
  | .v (.bl true) => f' δ
  | .v (.bl false) => .ok (.bl false)
  | _ => .no) := rfl
@[simp] theorem ev_ifE : cIfE t f f' δ = (t δ).bind fun b => if b = true then f δ else f' δ := rfl
@[simp] theorem ev_nil : cNil δ = .ok [] := rfl
@[simp] theorem ev_cons : cCons f fs δ = (f δ).bind fun x => (fs δ).bind fun xs => .ok (x :: xs) := rfl
@[simp] theorem ev_tup : cTup fs δ = (fs δ).bind fun ds => .ok (.tup ds) := rfl
@[simp] theorem ev_L : cL fs δ = (fs δ).bind fun ds => .ok (.lst ds) := rfl
@[simp] theorem ev_call {c : List D → Res D} : cCall c fs δ = (fs δ).bind c := rfl
@[simp] theorem ev_fn0 {F : List D → Res D} : cFn0 F fs δ = (fs δ).bind F := rfl
@[simp] theorem ev_fn {F : List D → Res D} {dd : List D} : cFn F dd fs δ = (fs δ).bind fun ds => F (ds ++ dd) := rfl
@[simp] theorem ev_items : cItems f δ = (f δ).bind itemsD := rfl
@[simp] theorem ev_items_l {xs : List D} : itemsD (.lst xs) = .ok xs := rfl
@[simp] theorem ev_items_t {xs : List D} : itemsD (.tup xs) = .ok xs := rfl
@[simp] theorem ev_it {c : List D → Res (List D)} : cIt c fs δ = (fs δ).bind c := rfl
@[simp] theorem ev_lc {vs : List Nat} {b : D → DS → Option DS} : cLc vs fs b t f δ = (fs δ).bind fun ds => if ds.length ≤ sizeLine then lcF b t f ds (wipeD δ vs) else .no := rfl
@[simp] theorem ev_yes : cYes δ = .ok true := rfl
@[simp] theorem ev_wipe0 : wipeD δ [] = δ := rfl
@[simp] theorem ev_wipe1 {v : Nat} {vs : List Nat} : wipeD δ (v :: vs) = (wipeD δ vs).set v none := rfl
@[simp] theorem ev_none : cNone δ = .ok none := rfl
@[simp] theorem ev_some : cSome f δ = (f δ).bind asI := rfl
@[simp] theorem ev_sl {lo hi : DS → Res (Option Int)} : cSl f lo hi δ = (f δ).bind fun x => (lo δ).bind fun l => (hi δ).bind fun h => oSl l h x := rfl
@[simp] theorem ev_slt {lo hi : Option Int} {xs : List D} : oSl lo hi (.tup xs) = .ok (.tup (cutD xs lo hi)) := rfl
@[simp] theorem ev_sll {lo hi : Option Int} {xs : List D} : oSl lo hi (.lst xs) = .ok (.lst (cutD xs lo hi)) := rfl
@[simp] theorem ev_bname {d : D} : bName i d δ = some (δ.set i (some (.im d))) := rfl
@[simp] theorem ev_bnil : bNil [] δ = some δ := rfl
@[simp] theorem ev_bcons {b : D → DS → Option DS} {c : List D → DS → Option DS} {d : D} {ds : List D} : bCons b c (d :: ds) δ = (b d δ).bind fun δ' => c ds δ' := rfl
@[simp] theorem ev_btup {n : Nat} {c : List D → DS → Option DS} {ds : List D} : bTup n c (.tup ds) δ = if ds.length = n then c ds δ else none := rfl
@[simp] theorem ev_seq : cSeq g h δ = (g δ).then h := rfl
@[simp] theorem ev_next : cNext δ = .nx δ := rfl
@[simp] theorem ev_ret : cRet f δ = stE (f δ) δ fun d => .rt d := rfl
@[simp] theorem ev_if : cIf t g h δ = stE (t δ) δ fun b => if b = true then g δ else h δ := rfl
@[simp] theorem ev_drop : cDrop f δ = stE (f δ) δ fun _ => .nx δ := rfl
@[simp] theorem ev_asg : cAsg i f δ = stE (f δ) δ fun d => .nx (δ.set i (some (.im d))) := rfl
@[simp] theorem ev_asgG {b : D → DS → Option DS} : cAsgG b f δ = stE (f δ) δ fun d => (match b d δ with
  | some δ' => .nx δ'
  | none => .no) := rfl
@[simp] theorem ev_aug {o : D → D → Res D} : cAug i o f δ = stE ((cVar i δ).bind fun x => (f δ).bind fun y => o x y) δ fun d => .nx (δ.set i (some (.im d))) := rfl
@[simp] theorem ev_own : cOwn i fs δ = stE (fs δ) δ fun ds => .nx (δ.set i (some (.ow ds))) := rfl
@[simp] theorem ev_app : cApp i f δ = (match δ[i]? with
  | some (some (.ow ds)) => stE (f δ) δ fun d => if ds.length < sizeLine then .nx (δ.set i (some (.ow (ds ++ [d])))) else .no
  | _ => .no) := rfl
@[simp] theorem ev_cfz : cFz i g δ = g (fz i δ) := rfl
@[simp] theorem ev_fz : fz i δ = (match δ[i]? with
  | some (some (.ow ds)) => δ.set i (some (.im (.lst ds)))
  | some (some (.tr m k ts)) => δ.set i (some (.im (T.nd k ts).d))
  | _ => δ) := rfl
@[simp] theorem ev_for {b : D → DS → Option DS} : cFor fs b g δ = stE (fs δ) δ fun ds => forF b g ds δ := rfl
@[simp] theorem ev_raise {c : Str} {ff : List D → List (Str × D)} : cRaise c ff fs δ = stE (fs δ) δ fun ds => .rs ⟨c, ff ds⟩ δ := rfl
@[simp] theorem ev_forF0 {b : D → DS → Option DS} : forF b g [] δ = .nx δ := rfl
@[simp] theorem ev_lcF0 {b : D → DS → Option DS} : lcF b t f [] δ = .ok [] := rfl
@[simp] theorem ev_add (i j : Int) : oAdd (.v (.int i)) (.v (.int j)) = .ok (.int (i + j)) := rfl
@[simp] theorem ev_sub (i j : Int) : oSub (.v (.int i)) (.v (.int j)) = .ok (.int (i - j)) := rfl
@[simp] theorem ev_neg (i : Int) : oNeg (.v (.int i)) = .ok (.int (-i)) := rfl
@[simp] theorem ev_addI (i j : Int) : oAddI (.v (.int i)) (.v (.int j)) = .ok (.int (i + j)) := rfl
@[simp] theorem ev_oI {p : Int → Int → Bool} (i j : Int) : oI p (.v (.int i)) (.v (.int j)) = .ok (.bl (p i j)) := rfl
@[simp] theorem ev_eqI (i j : Int) : oEqB false (.v (.int i)) (.v (.int j)) = .ok (.bl (decide (i = j))) := oEq_int i j
@[simp] theorem ev_neI (i j : Int) : oEqB true (.v (.int i)) (.v (.int j)) = .ok (.bl (!decide (i = j))) := oNe_int i j
@[simp] theorem ev_eqB (i j : Bool) : oEqB false (.v (.bl i)) (.v (.bl j)) = .ok (.bl (i == j)) := oEq_bl i j
@[simp] theorem ev_neB (i j : Bool) : oEqB true (.v (.bl i)) (.v (.bl j)) = .ok (.bl (!(i == j))) := oNe_bl i j
@[simp] theorem ev_isN {b : Bool} {x : V} : oIsN b (.v x) (.v .non) = .ok (.bl (if b then !isNon (.v x) else isNon (.v x))) := by cases b <;> rfl
@[simp] theorem ev_lenl {xs : List D} : gLen [.lst xs] = .ok (.int (xs.length : Nat)) := rfl
@[simp] theorem ev_lent {xs : List D} : gLen [.tup xs] = .ok (.int (xs.length : Nat)) := rfl
@[simp] theorem ev_revt {xs : List D} : oRev (.tup xs) = .ok (.tup xs.reverse) := rfl
@[simp] theorem ev_revl {xs : List D} : oRev (.lst xs) = .ok (.lst xs.reverse) := rfl
@[simp] theorem ev_all {bs : List Bool} : gAll [.lst (bs.map D.bl)] = .ok (.bl (bs.all id)) := by unfold gAll gBls; simp
end
@[simp] theorem defF_ev {m : Nat} {g : DS → Fl} {ds : List D} : defF m g ds = flR (g (st0 m ds)) := rfl
@[simp] theorem st0_ev {m : Nat} {ds : List D} : st0 m ds = ds.map (fun d => some (.im d)) ++ List.replicate m none := rfl
theorem at_nat {α : Type} {xs : List α} {i : Nat} : atI xs (i : Int) = xs[i]? := by
  unfold atI ixN
  by_cases h : i < xs.length
  · simp [h]
  · simp [h]
end DV
namespace DV
open PySem L2
mutual
noncomputable def D.nb : D → Bool
  | .v .non => true
  | .v (.int _) => true
  | .v (.str s) => PyData.canLay0 (.str s)
  | .v _ => false
  | .lst xs => D.nbA xs
  | .tup xs => D.nbA xs
  | .dct _ _ => false
  | .dlk _ _ => false
  | .ins _ _ _ => false
  | .dtt _ _ => false
  | .ptp _ => false
  | .wor _ _ => false
noncomputable def D.nbA : List D → Bool
  | [] => true
  | x :: xs => x.nb && D.nbA xs
end
mutual
noncomputable def D.dep : D → Nat
  | .lst xs => D.depA xs + 1
  | .tup xs => D.depA xs + 1
  | _ => 0
noncomputable def D.depA : List D → Nat
  | [] => 0
  | x :: xs => max x.dep (D.depA xs)
end
mutual
noncomputable def D.eqb : D → D → Bool
  | .v x, .v y => decide (x = y)
  | .lst xs, .lst ys => D.eqbA xs ys
  | .tup xs, .tup ys => D.eqbA xs ys
  | .dct ks vs, .dct ls ws => D.eqbA ks ls && D.eqbA vs ws
  | .dlk ks vs, .dlk ls ws => D.eqbA ks ls && D.eqbA vs ws
  | .ins c ns vs, .ins b ms ws => decide (c = b) && decide (ns = ms) && D.eqbA vs ws
  | .dtt ks vs, .dtt ls ws => decide (ks = ls) && D.eqbA vs ws
  | .ptp xs, .ptp ys => D.eqbA xs ys
  | .wor t a, .wor u b => t.eqb u && a.eqb b
  | _, _ => false
noncomputable def D.eqbA : List D → List D → Bool
  | [], [] => true
  | x :: xs, y :: ys => x.eqb y && D.eqbA xs ys
  | _, _ => false
end
mutual
theorem D.eqb_iff : ∀ d e : D, d.eqb e = true ↔ d = e
  | .v x, e => by cases e <;> simp [D.eqb]
  | .lst xs, e => by cases e <;> simp [D.eqb, D.eqbA_iff]
  | .tup xs, e => by cases e <;> simp [D.eqb, D.eqbA_iff]
  | .dct ks vs, e => by cases e <;> simp [D.eqb, D.eqbA_iff]
  | .dlk ks vs, e => by cases e <;> simp [D.eqb, D.eqbA_iff]
  | .ins c ns vs, e => by cases e <;> simp [D.eqb, D.eqbA_iff, and_assoc]
  | .dtt ks vs, e => by cases e <;> simp [D.eqb, D.eqbA_iff]
  | .ptp xs, e => by cases e <;> simp [D.eqb, D.eqbA_iff]
  | .wor t a, e => by cases e <;> simp [D.eqb, D.eqb_iff t, D.eqb_iff a]
theorem D.eqbA_iff : ∀ ds es : List D, D.eqbA ds es = true ↔ ds = es
  | [], es => by cases es <;> simp [D.eqbA]
  | d :: ds, es => by
    cases es with
    | nil => simp [D.eqbA]
    | cons e es => simp [D.eqbA, D.eqb_iff d e, D.eqbA_iff ds es]
end
noncomputable instance : DecidableEq D := fun d e => decidable_of_iff (d.eqb e = true) (D.eqb_iff d e)
end DV
namespace DV
open PySem L2
section
variable {δ : DS} {f f' fk fv : DS → Res D} {fs : DS → Res (List D)} {fi : DS → Res (List Int)} {fd : DS → Res (List (Key × D))} {t : DS → Res Bool} {g : DS → Fl} {i j : Nat}
@[simp] theorem ev_srt : cSrt f δ = (f δ).bind fun d => (asL d).bind srtD := rfl
@[simp] theorem ev_asL {ds : List D} : asL (.lst ds) = .ok ds := rfl
@[simp] theorem ev_srtI {ns : List Int} : srtD (ns.map D.int) = .ok ((sortI ns).map D.int) := by
  unfold srtD
  simp
@[simp] theorem ev_tupl {xs : List D} : gTuple [.lst xs] = .ok (.tup xs) := rfl
@[simp] theorem ev_tupt {xs : List D} : gTuple [.tup xs] = .ok (.tup xs) := rfl
@[simp] theorem ev_isiB {b : Bool} : gIsi [.v (.bl b), .v (.ty "bool")] = .ok (.bl true) := rfl
end
@[simp] theorem flatV_int (i : Int) : flatV (.int i) = true := by first | rfl | simp [flatV]
theorem lc_keep {β : Type} {δ : DS} {vs : List Nat} {fi : DS → Res (List D)} {b : D → DS → Option DS} {t : DS → Res Bool} {e : DS → Res D} (f : β → D) (p : β → Bool) (h : β → D) (xs : List β) (hi : fi δ = .ok (xs.map f)) (hz : xs.length ≤ sizeLine) (hh : ∀ x, x ∈ xs → ∃ δ', b (f x) (wipeD δ vs) = some δ' ∧ t δ' = .ok (p x) ∧ (p x = true → e δ' = .ok (h x))) :
    cLc vs fi b t e δ = .ok ((xs.filter p).map h) := by
  simp only [ev_lc, hi, Res.bind_ok, List.length_map, if_pos hz]
  exact lcF_filter f p h xs hh
theorem not_ok {δ : DS} {t : DS → Res Bool} {b : Bool} (h : t δ = .ok b) : cNotT t δ = .ok (!b) := by
  rw [cNotT, h]
  rfl
theorem test_ok {δ : DS} {f : DS → Res D} {b : Bool} (h : f δ = .ok (.bl b)) : cTest f δ = .ok b := by
  rw [cTest, h]
  rfl
end DV
namespace DV
open PySem L2
theorem lc2F_flat {β γ : Type} (f : β → D) (g : β → List γ) (k : γ → D) (q : β → γ → Bool) (h : β → γ → D) {vs1 : List Nat} {b b1 : D → DS → Option DS} {t t1 : DS → Res Bool} {fi1 : DS → Res (List D)} {e : DS → Res D} {δ : DS} : ∀ xs : List β,
    (∀ x, x ∈ xs → ∃ δ', b (f x) δ = some δ' ∧ t δ' = .ok true ∧ fi1 δ' = .ok ((g x).map k) ∧ ∀ y, y ∈ g x → ∃ δ'', b1 (k y) (wipeD δ' vs1) = some δ'' ∧ t1 δ'' = .ok (q x y) ∧ (q x y = true → e δ'' = .ok (h x y))) →
    lc2F vs1 b t fi1 b1 t1 e (xs.map f) δ = .ok (xs.flatMap fun x => ((g x).filter (q x)).map (h x))
  | [], _ => rfl
  | x :: xs, hh => by
    obtain ⟨δ', h1, h2, h3, h4⟩ := hh x (by simp)
    have ih := lc2F_flat f g k q h (vs1 := vs1) (b := b) (b1 := b1) (t := t) (t1 := t1) (fi1 := fi1) (e := e) (δ := δ) xs fun y hy => hh y (by simp [hy])
    have hin := lcF_filter k (q x) (h x) (b := b1) (t := t1) (e := e) (δ := wipeD δ' vs1) (g x) h4
    rw [List.map_cons, lc2F, h1]
    dsimp only
    rw [h2, h3]
    simp only [Res.calm_ok, Res.bind_ok, if_true, hin, ih, List.flatMap_cons]
theorem lc2_flat {β γ : Type} (f : β → D) (g : β → List γ) (k : γ → D) (q : β → γ → Bool) (h : β → γ → D) {vs vs1 : List Nat} {fi : DS → Res (List D)} {b b1 : D → DS → Option DS} {t t1 : DS → Res Bool} {fi1 : DS → Res (List D)} {e : DS → Res D} {δ : DS} (xs : List β) (hi : fi δ = .ok (xs.map f))
    (hz : (xs.flatMap fun x => ((g x).filter (q x)).map (h x)).length ≤ sizeLine)
    (hh : ∀ x, x ∈ xs → ∃ δ', b (f x) (wipeD δ vs) = some δ' ∧ t δ' = .ok true ∧ fi1 δ' = .ok ((g x).map k) ∧ ∀ y, y ∈ g x → ∃ δ'', b1 (k y) (wipeD δ' vs1) = some δ'' ∧ t1 δ'' = .ok (q x y) ∧ (q x y = true → e δ'' = .ok (h x y))) :
    cLc2 vs vs1 fi b t fi1 b1 t1 e δ = .ok (xs.flatMap fun x => ((g x).filter (q x)).map (h x)) := by
  unfold cLc2
  rw [hi, Res.bind_ok]
  rw [lc2F_flat f g k q h xs hh]
  dsimp only
  rw [if_pos hz]
end DV
namespace DV
open PySem L2
noncomputable abbrev Web := List (List Int)
noncomputable def leanW (w : Web) (c : Nat) : List Int := w.getD c []
noncomputable def tI (l : List Int) : D := .tup (l.map D.int)
@[simp] theorem tI_items (l : List Int) : itemsD (tI l) = .ok (l.map D.int) := rfl
@[simp] theorem tI_tuple (l : List Int) : gTuple [tI l] = .ok (tI l) := rfl
@[simp] theorem tI_of (l : List Int) : gTuple [.lst (l.map D.int)] = .ok (tI l) := rfl
@[simp] theorem tI_len (l : List Int) : gLen [tI l] = .ok (.int (l.length : Nat)) := by simp [tI]
@[simp] theorem tI_rev (l : List Int) : oRev (tI l) = .ok (tI l.reverse) := by simp [tI]
@[simp] theorem tI_noLst (l : List Int) : (tI l).noLst = true := by
  unfold tI
  rw [D.noLst]
  induction l with
  | nil => rfl
  | cons x l ih => rw [List.map_cons, D.noLstA, ih]; rfl
noncomputable def okCol (w : Web) (c : Nat) : Bool := decide (leanW w c = setI (leanW w c)) && !decide ((c : Int) ∈ leanW w c) && (leanW w c).all fun x => decide (0 ≤ x) && decide (x < w.length)
noncomputable def sizeW (w : Web) : Bool := decide (1 ≤ w.length) && decide (w.length ≤ 6)
noncomputable def plainW (w : Web) : Bool := sizeW w && (List.range w.length).all (okCol w)
noncomputable def inN (l : List Nat) (x : Int) : Bool := decide (x ∈ l.map fun (k : Nat) => (k : Int))
noncomputable def stepW (w : Web) (p : List Nat) : List Nat := (List.range w.length).filter fun c => (leanW w c).all (inN p)
noncomputable def placedW (w : Web) : Nat → List Nat
  | 0 => []
  | t + 1 => stepW w (placedW w t)
noncomputable def ringlessW (w : Web) : Bool := decide ((placedW w w.length).length = w.length)
@[simp] theorem inN_nat {l : List Nat} {k : Nat} : inN l (k : Int) = decide (k ∈ l) := by
  simp only [inN, List.mem_map]
  congr 1
  exact propext ⟨fun ⟨a, h, e⟩ => by rw [← show a = k by omega]; exact h, fun h => ⟨k, h, rfl⟩⟩
end DV
namespace DV
open PySem L2
end DV
namespace DV
open PySem L2
end DV
namespace DV
open PySem L2
noncomputable def pI (l : List Int) : PyData := .tuple (l.map PyData.int)
theorem pyA_ints : ∀ l : List Int, D.pyA (l.map D.int) = some (l.map PyData.int)
  | [] => rfl
  | x :: l => by
    rw [List.map_cons, D.pyA, pyA_ints l]
    rfl
theorem py_tI (l : List Int) : (tI l).py = some (pI l) := by
  unfold tI
  rw [D.py, pyA_ints]
  rfl
theorem pyA_tI : ∀ L : List (List Int), D.pyA (L.map tI) = some (L.map pI)
  | [] => rfl
  | l :: L => by rw [List.map_cons, D.pyA, py_tI, pyA_tI L]; rfl
noncomputable def ltT : List Int → List Int → Bool
  | [], [] => false
  | [], _ :: _ => true
  | _ :: _, [] => false
  | x :: r, y :: t => decide (x < y) || (decide (x = y) && ltT r t)
noncomputable def leT (a b : List Int) : Bool := !ltT b a
theorem lex_ints : ∀ a b : List Int, PyProof.Rows.lexLt PyProof.Rows.itemOrd (PySem.W.keyToksAll (a.map PyData.int)) (PySem.W.keyToksAll (b.map PyData.int)) = ltT a b
  | [], [] => by decide
  | [], y :: t => by
    show PyProof.Rows.lexLt PyProof.Rows.itemOrd [.inl 0] (.inl 1 :: _) = true
    rw [PyProof.Rows.lex_cons]
    rfl
  | x :: r, [] => by
    show PyProof.Rows.lexLt PyProof.Rows.itemOrd (.inl 1 :: _) [.inl 0] = false
    rw [PyProof.Rows.lex_cons]
    rfl
  | x :: r, y :: t => by
    have ih := lex_ints r t
    show PyProof.Rows.lexLt PyProof.Rows.itemOrd (.inl 1 :: .inl x :: PySem.W.keyToksAll (r.map PyData.int)) (.inl 1 :: .inl y :: PySem.W.keyToksAll (t.map PyData.int)) = _
    rw [PyProof.Rows.lex_cons, PyProof.Rows.lex_cons, ih]
    show (decide ((1 : Int) < 1) || (!decide ((1 : Int) < 1) && (decide (x < y) || (!decide (y < x) && ltT r t)))) = (decide (x < y) || (decide (x = y) && ltT r t))
    by_cases h1 : x < y
    · simp [h1]
    · by_cases h2 : x = y
      · subst h2; simp
      · have : y < x := by omega
        simp [h1, h2, this]
theorem leD_tI (a b : List Int) : leD (tI a) (tI b) = leT a b := by
  have e : ∀ l, encD (tI l) = pI l := fun l => by unfold encD; rw [py_tI]; rfl
  show (!PyProof.Rows.lexLt PyProof.Rows.itemOrd (PySem.W.keyToks (encD (tI b))) (PySem.W.keyToks (encD (tI a)))) = _
  rw [e, e]
  show (!PyProof.Rows.lexLt PyProof.Rows.itemOrd (PySem.W.keyToksAll (b.map PyData.int)) (PySem.W.keyToksAll (a.map PyData.int))) = _
  rw [lex_ints]
  rfl
noncomputable def sortT (L : List (List Int)) : List (List Int) := L.mergeSort leT
theorem sortT_perm (L : List (List Int)) : (sortT L).Perm L := List.mergeSort_perm L _
theorem alike_ints : ∀ a b : List Int, PySem.W.alikeAll (a.map PyData.int) (b.map PyData.int) = true
  | [], _ => by cases ‹List Int› <;> simp [PySem.W.alikeAll]
  | _ :: _, [] => by simp [PySem.W.alikeAll]
  | x :: a, y :: b => by
    rw [List.map_cons, List.map_cons, PySem.W.alikeAll, alike_ints a b]
    simp [PySem.W.alike]
theorem depth_ints (l : List Int) : PyData.depthAll (l.map PyData.int) = 0 := by
  induction l with
  | nil => rfl
  | cons x l ih => rw [List.map_cons, PyData.depthAll, ih]; rfl
theorem srt_tI {L : List (List Int)} (h : ∀ l ∈ L, l ≠ []) : srtD (L.map tI) = .ok ((sortT L).map tI) := by
  cases L with
  | nil => simp [srtD, sortT, intsD, sortI]
  | cons l L =>
    unfold srtD
    have e1 : intsD ((l :: L).map tI) = none := rfl
    rw [e1, pyA_tI]
    dsimp only
    have ok : sortOk ((l :: L).map pI) = true := by
      unfold sortOk
      simp only [Bool.and_eq_true, List.all_eq_true, List.mem_map, forall_exists_index, and_imp, forall_apply_eq_imp_iff₂]
      refine ⟨⟨fun a _ b _ => ?_, fun a ha => ?_⟩, fun a _ => ?_⟩
      · show PySem.W.alike (.tuple _) (.tuple _) = true
        rw [PySem.W.alike]
        exact alike_ints a b
      · cases a with
        | nil => exact absurd rfl (h _ ha)
        | cons x a => rfl
      · rw [decide_eq_true_eq]
        show PyData.depth (.tuple _) ≤ 60
        rw [PyData.depth, depth_ints]
        decide
    rw [if_pos ok]
    congr 1
    unfold sortT
    rw [List.map_mergeSort (s := leD) (f := tI)]
    intro a _ b _
    exact (leD_tI a b).symm
noncomputable def arrL (w : Web) : List (List Int) := (List.range w.length).flatMap fun c => (leanW w c).map fun x => [x, (c : Int)]
end DV
namespace DV
open PySem L2
section
variable {δ : DS} {f : DS → Res D} {fs : DS → Res (List D)} {i k : Nat}
end
theorem forF_done {β : Type} (f : β → D) (P : List β → DS → Prop) {b : D → DS → Option DS} {g : DS → Fl} (all : List β) : ∀ (xs done : List β) (δ : DS), done ++ xs = all → P done δ →
    (∀ done x rest δ, done ++ x :: rest = all → P done δ → ∃ δ' δ2, b (f x) δ = some δ' ∧ g δ' = .nx δ2 ∧ P (done ++ [x]) δ2) → ∃ δ2, forF b g (xs.map f) δ = .nx δ2 ∧ P all δ2
  | [], done, δ, e, hp, _ => ⟨δ, rfl, by rw [← e, List.append_nil]; exact hp⟩
  | x :: xs, done, δ, e, hp, h => by
    obtain ⟨δ', δ2, h1, h2, h3⟩ := h done x xs δ e hp
    obtain ⟨δ3, h4, h5⟩ := forF_done f P all xs (done ++ [x]) δ2 (by rw [List.append_assoc]; exact e) h3 h
    refine ⟨δ3, ?_, h5⟩
    rw [List.map_cons, forF, h1]
    dsimp only
    rw [h2]
    exact h4
theorem for_done {β : Type} (f : β → D) (P : List β → DS → Prop) {b : D → DS → Option DS} {g : DS → Fl} (all : List β) {fi : DS → Res (List D)} {δ : DS} (hi : fi δ = .ok (all.map f)) (h0 : P [] δ)
    (h : ∀ done x rest δ, done ++ x :: rest = all → P done δ → ∃ δ' δ2, b (f x) δ = some δ' ∧ g δ' = .nx δ2 ∧ P (done ++ [x]) δ2) : ∃ δ2, cFor fi b g δ = .nx δ2 ∧ P all δ2 := by
  obtain ⟨δ2, h1, h2⟩ := forF_done f P all all [] δ rfl h0 h
  exact ⟨δ2, for_r hi h1, h2⟩
end DV
namespace DV
open PySem L2
@[simp] theorem dA_ims (ds : List D) : T.dA (ds.map T.im) = ds := by
  rw [T.dA_map, List.map_map]
  conv => rhs; rw [← List.map_id ds]
  exact List.map_congr_left fun d _ => by rw [Function.comp, T.d]; rfl
section
variable {δ : DS} {f : DS → Res D} {fs : DS → Res (List D)} {fn : DS → Res T} {fts : DS → Res (List T)} {fp : DS → Res (Nat × List Nat)} {i : Nat}
@[simp] theorem ev_nim : cNim f δ = (f δ).bind fun d => .ok (.im d) := rfl
@[simp] theorem ev_ownN : cOwnN i fn δ = stE (fn δ) δ fun t => .nx (δ.set i (some (O.ofT t))) := rfl
end
theorem ownN_nx {i : Nat} {f : DS → Res T} {δ : DS} {t : T} (h : f δ = .ok t) : cOwnN i f δ = .nx (δ.set i (some (O.ofT t))) := by
  rw [cOwnN, h]
  rfl
theorem node1 {δ : DS} {i j : Nat} {m : Bool} {k : NK} {ts : List T} {t : T} (h : δ[i]? = some (some (.tr m k ts))) (ht : ts[j]? = some t) : nodeAt δ i [j] = some t := by
  unfold nodeAt
  rw [h]
  dsimp only
  rw [T.at, ht]
  cases t <;> rfl
theorem put1 {δ : DS} {i j : Nat} {m : Bool} {k : NK} {ts : List T} {t t1 : T} (h : δ[i]? = some (some (.tr m k ts))) (ht : ts[j]? = some t) : putAt δ i [j] t1 = δ.set i (some (.tr m k (ts.set j t1))) := by
  unfold putAt
  rw [h]
  dsimp only
  rw [T.put, ht]
  dsimp only
  have : t.put [] t1 = t1 := by cases t <;> rfl
  rw [this]
  rfl
end DV
namespace DV
open PySem L2
theorem ltT_trans : ∀ a b c : List Int, ltT a b = true → ltT b c = true → ltT a c = true
  | [], _, [], h1, h2 => by
    rename_i b
    cases b with
    | nil => cases h1
    | cons => cases h2
  | [], _, _ :: _, _, _ => rfl
  | _ :: _, [], _, h, _ => by cases h
  | _ :: _, _ :: _, [], _, h => by cases h
  | x :: r, y :: t, z :: s, h1, h2 => by
    rw [ltT, Bool.or_eq_true, Bool.and_eq_true, decide_eq_true_eq, decide_eq_true_eq] at h1 h2 ⊢
    rcases h1 with h1 | ⟨rfl, h1⟩
    · rcases h2 with h2 | ⟨rfl, h2⟩
      · exact .inl (by omega)
      · exact .inl h1
    · rcases h2 with h2 | ⟨rfl, h2⟩
      · exact .inl h2
      · exact .inr ⟨rfl, ltT_trans r t s h1 h2⟩
theorem rg1 {n : Nat} (h : n ≤ 1000) : gRange1 [.v (.int (n : Int))] = .ok ((List.range n).map fun (k : Nat) => D.int (k : Int)) := by
  unfold gRange1
  dsimp only
  rw [if_pos (by omega)]
  unfold rangeD
  simp
end DV
namespace DV
open PySem L2
section
variable {δ : DS} {f f' f'' fa : DS → Res D} {fs : DS → Res (List D)} {t : DS → Res Bool} {g : DS → Fl} {i : Nat}
@[simp] theorem ev_fld {cs : List Str} {n : Str} : cFld cs n f δ = (f δ).bind (oFld cs n) := rfl
@[simp] theorem ev_mth {c m : Str} {F : List D → Res D} {dd : List D} : cMth c m F dd f fs δ = (f δ).bind fun x => (match x with
  | .ins c' ns vs => if c' = c ∧ m ∉ ns then (fs δ).bind fun ds => F (.ins c' ns vs :: (ds ++ dd)) else .no
  | _ => .no) := rfl
@[simp] theorem ev_keysX : cKeysX f δ = (f δ).bind itemsX := rfl
@[simp] theorem ev_itemsX {ks : List NestedKey} {vs : List D} : itemsX (.dtt ks vs) = .ok (nkDs ks) := rfl
@[simp] theorem ev_listX {ks : List NestedKey} {vs : List D} : gListX [.dtt ks vs] = .ok (.lst (nkDs ks)) := rfl
@[simp] theorem ev_getX : cGetX f f' f'' δ = (f δ).bind fun x => (match x with
  | .dtt _ _ => (f' δ).bind fun y => (f'' δ).bind fun z => oGetX x y z
  | _ => .no) := rfl
@[simp] theorem ev_gIntB {b : Bool} : gInt [.v (.bl b)] = .ok (.int (if b = true then 1 else 0)) := rfl
@[simp] theorem ev_gIntI {n : Int} : gInt [.v (.int n)] = .ok (.int n) := rfl
theorem lend_ok {d : D} (h1 : obOk δ i = true) (h2 : f (fz i δ) = .ok d) (h3 : d.pl = true) : lend i f δ = .ok d := by
  unfold lend
  rw [if_pos h1, h2]
  dsimp only
  rw [if_pos h3]
theorem lend_er {x : Exn} (h1 : obOk δ i = true) (h2 : f (fz i δ) = .er x) (h3 : x.pl = true) : lend i f δ = .er x := by
  unfold lend
  rw [if_pos h1, h2]
  dsimp only
  rw [if_pos h3]
theorem lendT_ok {b : Bool} (h1 : obOk δ i = true) (h2 : t (fz i δ) = .ok b) : lendT i t δ = .ok b := by
  unfold lendT
  rw [if_pos h1, h2]
end
theorem nkInts_nums : ∀ r : List Int, nkInts (r.map NestedKey.num) = true
  | [] => by rw [List.map_nil, nkInts]
  | x :: r => by rw [List.map_cons, nkInts, nkInts_nums r, nkInt]; rfl
theorem depth_nums : ∀ r : List Int, NestedKey.depthAll (r.map NestedKey.num) = 0
  | [] => by rw [List.map_nil, NestedKey.depthAll]
  | x :: r => by rw [List.map_cons, NestedKey.depthAll, depth_nums r, NestedKey.depth]; rfl
theorem nkOk_kR (r : List Int) : nkOk (kR r) = true := by
  unfold kR
  rw [nkOk, nkInts_nums, NestedKey.depth, depth_nums]
  rfl
theorem nkDs_nums : ∀ r : List Int, nkDs (r.map NestedKey.num) = r.map D.int
  | [] => by rw [List.map_nil, nkDs]; rfl
  | x :: r => by rw [List.map_cons, nkDs, nkDs_nums r, nkD, List.map_cons]
@[simp] theorem nkD_kR (r : List Int) : nkD (kR r) = tI r := by unfold kR tI; rw [nkD, nkDs_nums]
theorem dNks_ints : ∀ r : List Int, dNks (r.map D.int) = some (r.map NestedKey.num)
  | [] => by rw [List.map_nil, dNks]; rfl
  | x :: r => by rw [List.map_cons, dNks, dNks_ints r, dNk]; rfl
@[simp] theorem keyD_tI (r : List Int) : keyD (tI r) = some (kR r) := by
  unfold keyD tI
  rw [dNk, dNks_ints]
  show (if nkOk (kR r) = true then some (kR r) else none) = _
  rw [if_pos (nkOk_kR r)]
theorem num_inj : ∀ {a b : List Int}, a.map NestedKey.num = b.map NestedKey.num → a = b
  | [], [], _ => rfl
  | [], _ :: _, h => by cases h
  | _ :: _, [], h => by cases h
  | x :: a, y :: b, h => by
    rw [List.map_cons, List.map_cons] at h
    injection h with h1 h2
    injection h1 with h1
    rw [h1, num_inj h2]
theorem kR_inj {a b : List Int} (h : kR a = kR b) : a = b := by
  unfold kR at h
  injection h with h
  exact num_inj h
noncomputable abbrev RP := List (List Int × Int)
noncomputable def keysP (ps : RP) : List NestedKey := ps.map fun p => kR p.1
noncomputable def valsP (ps : RP) : List D := ps.map fun p => D.int p.2
noncomputable def dP (ps : RP) : D := .dtt (keysP ps) (valsP ps)
noncomputable def getP (r : List Int) : RP → Option Int
  | [] => none
  | p :: ps => if p.1 = r then some p.2 else getP r ps
noncomputable def bumpP (r : List Int) (n : Int) : RP → RP
  | [] => [(r, n)]
  | p :: ps => if p.1 = r then (p.1, p.2 + n) :: ps else p :: bumpP r n ps
noncomputable def setP (r : List Int) (n : Int) : RP → RP
  | [] => [(r, n)]
  | p :: ps => if p.1 = r then (p.1, n) :: ps else p :: setP r n ps
theorem atK_P {α : Type} (h : Int → α) (r : List Int) : ∀ ps : RP, atK (kR r) (keysP ps) (ps.map fun p => h p.2) = (getP r ps).map h
  | [] => rfl
  | p :: ps => by
    show atK (kR r) (kR p.1 :: keysP ps) (h p.2 :: ps.map fun p => h p.2) = _
    rw [atK, getP]
    by_cases e : p.1 = r
    · rw [if_pos (by rw [e]), if_pos e]; rfl
    · rw [if_neg (fun z => e (kR_inj z)), if_neg e]; exact atK_P h r ps
theorem mem_keysP {r : List Int} {ps : RP} : kR r ∈ keysP ps ↔ r ∈ ps.map (·.1) := by
  unfold keysP
  simp only [List.mem_map]
  constructor
  · rintro ⟨p, hp, e⟩; exact ⟨p, hp, kR_inj e⟩
  · rintro ⟨p, hp, e⟩; exact ⟨p, hp, by rw [e]⟩
theorem getP_mem {r : List Int} : ∀ {ps : RP}, (getP r ps).isSome = true ↔ r ∈ ps.map (·.1)
  | [] => by simp [getP]
  | p :: ps => by
    rw [getP]
    by_cases e : p.1 = r
    · rw [if_pos e]; simp [e]
    · rw [if_neg e, getP_mem (ps := ps)]
      have : ¬ r = p.1 := fun z => e z.symm
      simp [this]
theorem repK_none {α : Type} (k : NestedKey) (f : α → α) : ∀ (ks : List NestedKey) (xs : List α), k ∉ ks → repK k f ks xs = xs
  | [], xs, _ => by cases xs <;> rfl
  | _ :: _, [], _ => rfl
  | k' :: ks, x :: xs, h => by
    rw [repK, if_neg fun z => h (by simp [z]), repK_none k f ks xs fun z => h (by simp [z])]
theorem setP_keys (r : List Int) (n : Int) : ∀ ps : RP, keysP (setP r n ps) = keysPut (keysP ps) (kR r)
  | [] => by simp [setP, keysP, keysPut]
  | p :: ps => by
    have ih := setP_keys r n ps
    rw [setP]
    unfold keysPut at ih ⊢
    by_cases e : p.1 = r
    · rw [if_pos e]
      have : kR r ∈ keysP (p :: ps) := by rw [mem_keysP]; simp [e]
      rw [if_pos this]
      rfl
    · rw [if_neg e]
      have e2 : kR r ∈ keysP (p :: ps) ↔ kR r ∈ keysP ps := by
        rw [mem_keysP, mem_keysP, List.map_cons, List.mem_cons]
        exact ⟨fun h => h.resolve_left fun z => e z.symm, .inr⟩
      show kR p.1 :: keysP (setP r n ps) = _
      rw [ih]
      by_cases h : kR r ∈ keysP ps
      · rw [if_pos h, if_pos (e2.mpr h)]; rfl
      · rw [if_neg h, if_neg fun z => h (e2.mp z)]; rfl
theorem setP_ts (r : List Int) (n : Int) : ∀ ps : RP, (ps.map (·.1)).Nodup → (setP r n ps).map (fun p => T.im (D.int p.2)) = tsPut (keysP ps) (ps.map fun p => T.im (D.int p.2)) (kR r) (.int n)
  | [], _ => by simp [setP, keysP, tsPut]
  | p :: ps, hn => by
    rw [List.map_cons, List.nodup_cons] at hn
    have ih := setP_ts r n ps hn.2
    rw [setP]
    unfold tsPut at ih ⊢
    by_cases e : p.1 = r
    · rw [if_pos e]
      have : kR r ∈ keysP (p :: ps) := by rw [mem_keysP]; simp [e]
      rw [if_pos this]
      show T.im (D.int n) :: _ = repK (kR r) _ (kR p.1 :: keysP ps) (T.im (D.int p.2) :: _)
      rw [repK, if_pos (by rw [e]), repK_none _ _ _ _ (by rw [mem_keysP, ← e]; exact hn.1)]
    · rw [if_neg e]
      have e2 : kR r ∈ keysP (p :: ps) ↔ kR r ∈ keysP ps := by
        rw [mem_keysP, mem_keysP, List.map_cons, List.mem_cons]
        exact ⟨fun h => h.resolve_left fun z => e z.symm, .inr⟩
      rw [List.map_cons, ih]
      by_cases h : kR r ∈ keysP ps
      · rw [if_pos h, if_pos (e2.mpr h)]
        show _ = repK (kR r) _ (kR p.1 :: keysP ps) (T.im (D.int p.2) :: _)
        rw [repK, if_neg fun z => e (kR_inj z)]
      · rw [if_neg h, if_neg fun z => h (e2.mp z)]; rfl
theorem setP_bump (r : List Int) (n : Int) : ∀ ps : RP, setP r ((getP r ps).getD 0 + n) ps = bumpP r n ps
  | [] => by simp [setP, getP, bumpP]
  | p :: ps => by
    rw [setP, getP, bumpP]
    by_cases e : p.1 = r
    · rw [if_pos e, if_pos e, if_pos e]; rfl
    · rw [if_neg e, if_neg e, if_neg e, setP_bump r n ps]
theorem bump_keys {r : List Int} {n : Int} : ∀ {ps : RP}, (bumpP r n ps).map (·.1) = if r ∈ ps.map (·.1) then ps.map (·.1) else ps.map (·.1) ++ [r]
  | [] => by simp [bumpP]
  | p :: ps => by
    have ih := bump_keys (r := r) (n := n) (ps := ps)
    rw [bumpP]
    by_cases e : p.1 = r
    · rw [if_pos e, if_pos (by simp [e])]; rfl
    · rw [if_neg e, List.map_cons, ih]
      have e2 : r ∈ (p :: ps).map (·.1) ↔ r ∈ ps.map (·.1) := by
        rw [List.map_cons, List.mem_cons]
        exact ⟨fun h => h.resolve_left fun z => e z.symm, .inr⟩
      by_cases h : r ∈ ps.map (·.1)
      · rw [if_pos h, if_pos (e2.mpr h)]; rfl
      · rw [if_neg h, if_neg fun z => h (e2.mp z)]; rfl
theorem bump_nodup {r : List Int} {n : Int} {ps : RP} (h : (ps.map (·.1)).Nodup) : ((bumpP r n ps).map (·.1)).Nodup := by
  rw [bump_keys]
  split
  · exact h
  · rename_i hr
    rw [List.nodup_append]
    exact ⟨h, by simp, fun a ha b hb => by rw [List.mem_singleton.mp hb]; exact fun z => hr (z ▸ ha)⟩
noncomputable def sumP (f : List Int → Bool) (ps : RP) : Int := (ps.map fun p => if f p.1 = true then p.2 else 0).sum
end DV
namespace DV
open PySem L2
noncomputable def rowStep (L : List (List Int)) (s : Int) : List (List Int) := L.flatMap fun r => (List.range s.toNat).map fun (v : Nat) => r ++ [(v : Int)]
noncomputable def rowsV (szs : List Int) : List (List Int) := szs.foldl rowStep [[]]
noncomputable def okR : List Int → List Int → Bool
  | [], [] => true
  | v :: r, s :: ss => decide (0 ≤ v) && decide (v < s) && okR r ss
  | _, _ => false
theorem okR_len : ∀ {r ss : List Int}, okR r ss = true → r.length = ss.length
  | [], [], _ => rfl
  | [], _ :: _, h => by cases h
  | _ :: _, [], h => by cases h
  | v :: r, s :: ss, h => by
    rw [okR, Bool.and_eq_true] at h
    rw [List.length_cons, List.length_cons, okR_len h.2]
theorem okR_snoc : ∀ {r ss : List Int} {v s : Int}, okR (r ++ [v]) (ss ++ [s]) = (okR r ss && (decide (0 ≤ v) && decide (v < s)))
  | [], [], v, s => by simp [okR]
  | [], s' :: ss, v, s => by
    cases ss with
    | nil => simp [okR]
    | cons a b => simp [okR]
  | v' :: r, [], v, s => by
    cases r with
    | nil => simp [okR]
    | cons a b => simp [okR]
  | v' :: r, s' :: ss, v, s => by
    rw [List.cons_append, List.cons_append, okR, okR, okR_snoc]
    simp [Bool.and_assoc]
theorem okR_last {r ss : List Int} {s : Int} (h : okR r (ss ++ [s]) = true) : ∃ r' v, r = r' ++ [v] := by
  have hl := okR_len h
  rw [List.length_append, List.length_singleton] at hl
  refine ⟨r.take ss.length, r.getD ss.length 0, ?_⟩
  have hlt : ss.length < r.length := by omega
  have e1 : r.drop ss.length = [r[ss.length]] := by
    rw [List.drop_eq_getElem_cons hlt, List.drop_of_length_le (by omega)]
  have e2 : r.getD ss.length 0 = r[ss.length] := by simp [List.getD_eq_getElem?_getD, hlt]
  rw [e2, ← e1, List.take_append_drop]
theorem ltT_snoc : ∀ {a b : List Int} (u v : Int), a.length = b.length → ltT a b = true → ltT (a ++ [u]) (b ++ [v]) = true
  | [], [], _, _, _, h => by cases h
  | [], _ :: _, _, _, hl, _ => by simp at hl
  | _ :: _, [], _, _, hl, _ => by simp at hl
  | x :: a, y :: b, u, v, hl, h => by
    rw [ltT, Bool.or_eq_true, Bool.and_eq_true] at h
    rw [List.cons_append, List.cons_append, ltT, Bool.or_eq_true, Bool.and_eq_true]
    exact h.imp id fun ⟨h1, h2⟩ => ⟨h1, ltT_snoc u v (by simpa using hl) h2⟩
theorem ltT_last : ∀ (a : List Int) {u v : Int}, u < v → ltT (a ++ [u]) (a ++ [v]) = true
  | [], u, v, h => by simp [ltT, h]
  | x :: a, u, v, h => by rw [List.cons_append, List.cons_append, ltT, ltT_last a h]; simp
structure GoodV (ss : List Int) (L : List (List Int)) : Prop where
  m : ∀ r, r ∈ L ↔ okR r ss = true
  s : L.Pairwise fun a b => ltT a b = true
theorem goodV0 : GoodV [] [[]] := ⟨fun r => by
  rw [List.mem_singleton]
  cases r with
  | nil => simp [okR]
  | cons v r => simp [okR], by simp⟩
theorem goodV_step {ss : List Int} {L : List (List Int)} (g : GoodV ss L) (s : Int) : GoodV (ss ++ [s]) (rowStep L s) := by
  constructor
  · intro r
    unfold rowStep
    simp only [List.mem_flatMap, List.mem_map, List.mem_range]
    constructor
    · rintro ⟨r', hr, v, hv, rfl⟩
      rw [okR_snoc, (g.m r').mp hr]
      simp
      omega
    · intro h
      obtain ⟨r', v, rfl⟩ := okR_last h
      rw [okR_snoc, Bool.and_eq_true, Bool.and_eq_true, decide_eq_true_eq, decide_eq_true_eq] at h
      exact ⟨r', (g.m r').mpr h.1, v.toNat, by omega, by rw [Int.toNat_of_nonneg h.2.1]⟩
  · unfold rowStep
    have key : ∀ L : List (List Int), (∀ r ∈ L, r.length = ss.length) → L.Pairwise (fun a b => ltT a b = true) → (L.flatMap fun r => (List.range s.toNat).map fun (v : Nat) => r ++ [(v : Int)]).Pairwise fun a b => ltT a b = true := by
      intro L
      induction L with
      | nil => intro _ _; simp
      | cons r L ih =>
        intro hl hp
        rw [List.flatMap_cons, List.pairwise_append]
        rw [List.pairwise_cons] at hp
        refine ⟨?_, ih (fun x hx => hl x (by simp [hx])) hp.2, fun a ha b hb => ?_⟩
        · rw [List.pairwise_map]
          exact List.Pairwise.imp (fun {a b} h => ltT_last r (by omega)) List.pairwise_lt_range
        · obtain ⟨u, _, rfl⟩ := List.mem_map.mp ha
          obtain ⟨r', hr', hb⟩ := List.mem_flatMap.mp hb
          obtain ⟨v, _, rfl⟩ := List.mem_map.mp hb
          exact ltT_snoc _ _ (by rw [hl r (by simp), hl r' (by simp [hr'])]) (hp.1 r' hr')
    exact key L (fun r hr => okR_len ((g.m r).mp hr)) g.s
theorem goodV_fold : ∀ (ss done : List Int) (L : List (List Int)), GoodV done L → GoodV (done ++ ss) (ss.foldl rowStep L)
  | [], done, L, g => by simpa using g
  | s :: ss, done, L, g => by
    have := goodV_fold ss (done ++ [s]) (rowStep L s) (goodV_step g s)
    simpa using this
theorem goodV (ss : List Int) : GoodV ss (rowsV ss) := by unfold rowsV; simpa using goodV_fold ss [] [[]] goodV0
end DV
namespace My
open PySem L2 DV
noncomputable abbrev dI (ns : List Int) : List D := ns.map D.int
noncomputable abbrev tupI (ns : List Int) : D := .tup (dI ns)
noncomputable def prodL (ss : List Int) : Int := ss.foldl (· * ·) 1
structure Good (ss : List Int) : Prop where
  ne : 1 ≤ ss.length
  le : ss.length ≤ 6
  sz : ∀ s ∈ ss, 2 ≤ s ∧ s ≤ 4
  pr : prodL ss ≤ 300
theorem pow4 (n : Nat) : (0 : Int) < 4 ^ n := Int.pow_pos (by decide)
theorem mul_loop (S : Option O) : ∀ (ss : List Int) (a : Int) (o : Option O), (∀ s ∈ ss, 2 ≤ s ∧ s ≤ 4) → 0 < a → a * 4 ^ ss.length < 2 ^ 60 →
    ∃ o', forF (bName 2) (cAug 1 oMulI (cVar 2)) (dI ss) [S, some (.im (.int a)), o] = .nx [S, some (.im (.int (ss.foldl (· * ·) a))), o']
  | [], a, o, _, _, _ => ⟨o, rfl⟩
  | s :: ss, a, o, hs, ha, hb => by
    obtain ⟨h1, h2⟩ := hs s (by simp)
    have hp := pow4 ss.length
    have e : a * 4 ^ (s :: ss).length = a * 4 * 4 ^ ss.length := by rw [List.length_cons, Int.pow_succ, Int.mul_comm (4 ^ ss.length) 4, Int.mul_assoc]
    rw [e] at hb
    have ha4 : a * s ≤ a * 4 := Int.mul_le_mul_of_nonneg_left h2 (by omega)
    have has : 0 < a * s := Int.mul_pos ha (by omega)
    have hb2 : a * s * 4 ^ ss.length < 2 ^ 60 := Int.lt_of_le_of_lt (Int.mul_le_mul_of_nonneg_right ha4 (by omega)) hb
    have hab : a < 2 ^ 60 := by
      have h3 : a ≤ a * 4 * 4 ^ ss.length := by
        have : a * 4 * 1 ≤ a * 4 * 4 ^ ss.length := Int.mul_le_mul_of_nonneg_left hp (by omega)
        omega
      omega
    obtain ⟨o', ih⟩ := mul_loop S ss (a * s) (some (.im (.int s))) (fun x hx => hs x (by simp [hx])) has hb2
    refine ⟨o', ?_⟩
    have m1 : oMulI (.int a) (.int s) = .ok (.int (a * s)) := oMulI_int (mul_ok (a := 60) (b := 60) (by omega) (by omega) (by decide) (by decide) (by decide))
    rw [dI, List.map_cons, forF]
    simp only [bName, List.set_cons_succ, List.set_cons_zero]
    have eb : cAug 1 oMulI (cVar 2) [S, some (.im (.int a)), some (.im (.int s))] = .nx [S, some (.im (.int (a * s))), some (.im (.int s))] := by
      simp [cAug, cVar, m1]
    rw [eb]
    exact ih
theorem mult_ok {ss : List Int} (hs : ∀ s ∈ ss, 2 ≤ s ∧ s ≤ 4) (hl : ss.length ≤ 6) : F_multiplied [tupI ss] = .ok (.int (prodL ss)) := by
  have hb : (1 : Int) * 4 ^ ss.length < 2 ^ 60 := by
    have h1 : (4 : Int) ^ ss.length ≤ 4096 := (by decide : ∀ n : Fin 7, (4 : Int) ^ (n : Nat) ≤ 4096) ⟨ss.length, by omega⟩
    omega
  obtain ⟨o', h⟩ := mul_loop (some (.im (tupI ss))) ss 1 none hs (by decide) hb
  simp [F_multiplied, defF, g_multiplied, st0, cSeq, cAsg, cC, cFor, cItems, cVar, itemsD, h, cRet, prodL]
theorem all_ok {bs : List Bool} (h : ∀ b ∈ bs, b = true) : gAll [.lst (bs.map D.bl)] = .ok (.bl true) := by
  unfold gAll gBls
  dsimp only
  rw [blsD_map]
  dsimp only
  congr 2
  simpa using h
theorem all_ok' {α : Type} {xs : List α} : gAll [.lst (xs.map fun _ => D.bl true)] = .ok (.bl true) := by
  have e : (xs.map fun _ => D.bl true) = (xs.map fun _ => true).map D.bl := by simp
  rw [e]
  exact all_ok (by simp)
theorem look_ok {ss : List Int} (G : Good ss) : F_look_sizes [tupI ss] = .ok .non := by
  have hm := mult_ok G.sz G.le
  have hz : (dI ss).length ≤ sizeLine := by
    rw [List.length_map, sizeLine_eq]
    have := G.le
    omega
  have hlc : lcF (bName 1) cYes (cChain oLe oLe (cC (.int 2)) (cVar 1) (cC (.int 4))) (dI ss) [some (.im (tupI ss)), none] = .ok (ss.map fun _ => D.bl true) := by
    refine lcF_map _ _ _ fun s hs => ⟨_, rfl, rfl, ?_⟩
    obtain ⟨h1, h2⟩ := G.sz s hs
    simp [cChain, cC, cVar, oI, h1, h2]
  have ha := all_ok' (xs := ss)
  have l1 : (1 : Int) ≤ (ss.length : Int) := by have := G.ne; omega
  have l2 : (ss.length : Int) ≤ 6 := by have := G.le; omega
  have hp : ¬ (300 < prodL ss) := by have := G.pr; omega
  have hlen : ss.length ≤ sizeLine := by simpa using hz
  simp [F_look_sizes, defF, g_look_sizes, st0, cSeq, cIf, cOrT, cNotT, cTest, cChain, cC, cCall, cCons, cVar, cNil, gLen, oI, l1, l2, asB, cL, cLc, cItems, itemsD, hlen, wipeD, hlc, ha, cBin, cFn0, hm, hp, cNext]
noncomputable def rowsL : List Int → List (List Int) → List (List Int)
  | [], acc => acc
  | s :: ss, acc => rowsL ss (acc.flatMap fun r => (List.range s.toNat).map fun (v : Nat) => r ++ [(v : Int)])
noncomputable abbrev dR (rs : List (List Int)) : List D := rs.map tupI
noncomputable def stepR (s : Int) (r : List Int) : List (List Int) := (List.range s.toNat).map fun (v : Nat) => r ++ [(v : Int)]
theorem rows_inner (S F : Option O) (s : Int) (hs : 2 ≤ s ∧ s ≤ 4) (o5 : Option O) : ∀ (rs acc : List (List Int)) (o : Option O), (∀ r ∈ rs, r.length ≤ 6) → acc.length + 4 * rs.length ≤ 100000 →
    ∃ o', forF (bName 4) (cAsg 3 (cBin oAdd (cVar 3) (cL (cLc [5] (cIt gRange1 (cCons (cVar 2) cNil)) (bName 5) cYes (cBin oAdd (cVar 4) (cTup (cCons (cVar 5) cNil))))))) (dR rs) [S, F, some (.im (.int s)), some (.im (.lst (dR acc))), o, o5] =
      .nx [S, F, some (.im (.int s)), some (.im (.lst (dR (acc ++ rs.flatMap (stepR s))))), o', o5]
  | [], acc, o, _, _ => ⟨o, by simp [forF]⟩
  | r :: rs, acc, o, hr, hb => by
    have hb' : acc.length + 4 * (rs.length + 1) ≤ 100000 := by simpa using hb
    have hn : (stepR s r).length ≤ 4 := by simp [stepR]; omega
    obtain ⟨o', ih⟩ := rows_inner S F s hs o5 rs (acc ++ stepR s r) (some (.im (tupI r))) (fun x hx => hr x (by simp [hx])) (by simp; omega)
    refine ⟨o', ?_⟩
    have hrl := hr r (by simp)
    have h1 : gRange1 [D.int s] = .ok (rangeD 0 s.toNat) := by
      have := gRange1_nat (n := s.toNat) (by rw [sizeLine_eq]; omega)
      rw [show ((s.toNat : Nat) : Int) = s by omega] at this
      exact this
    have hlc : lcF (bName 5) cYes (cBin oAdd (cVar 4) (cTup (cCons (cVar 5) cNil))) (rangeD 0 s.toNat) [S, F, some (.im (.int s)), some (.im (.lst (dR acc))), some (.im (tupI r)), none] = .ok (dR (stepR s r)) := by
      unfold rangeD dR stepR
      rw [List.map_map]
      refine lcF_map _ _ _ fun v hv => ⟨_, rfl, rfl, ?_⟩
      have hz : r.length + 1 ≤ sizeLine := by rw [sizeLine_eq]; omega
      simp [cBin, cVar, cTup, cCons, cNil, oAdd, hz]
    have hz2 : s.toNat ≤ sizeLine := by rw [sizeLine_eq]; omega
    have hz3 : acc.length + (stepR s r).length ≤ sizeLine := by rw [sizeLine_eq]; omega
    rw [dR, List.map_cons, forF]
    simp only [bName, List.set_cons_succ, List.set_cons_zero]
    have eb : cAsg 3 (cBin oAdd (cVar 3) (cL (cLc [5] (cIt gRange1 (cCons (cVar 2) cNil)) (bName 5) cYes (cBin oAdd (cVar 4) (cTup (cCons (cVar 5) cNil)))))) [S, F, some (.im (.int s)), some (.im (.lst (dR acc))), some (.im (tupI r)), o5] =
        .nx [S, F, some (.im (.int s)), some (.im (.lst (dR (acc ++ stepR s r)))), some (.im (tupI r)), o5] := by
      simp [cAsg, cBin, cVar, cL, cLc, cIt, cCons, cNil, h1, rangeD_len, hz2, wipeD, hlc, oAdd, hz3]
    rw [eb]
    dsimp only
    rw [ih]
    simp [List.flatMap_cons]
theorem len_flat (s : Int) (hs : 2 ≤ s ∧ s ≤ 4) (rs : List (List Int)) : ((rs.flatMap (stepR s)).length : Int) = rs.length * s := by
  induction rs with
  | nil => simp
  | cons r rs ih =>
    have e : ((stepR s r).length : Int) = s := by simp [stepR]; omega
    rw [List.flatMap_cons, List.length_append, List.length_cons, Int.natCast_add, ih, e, Int.natCast_add, Int.add_mul]
    omega
theorem rows_outer (S : Option O) (o5 : Option O) : ∀ (ss : List Int) (acc : List (List Int)) (o2 o3 o4 : Option O) (k : Nat), (∀ s ∈ ss, 2 ≤ s ∧ s ≤ 4) → (∀ r ∈ acc, r.length = k) → k + ss.length ≤ 6 → acc.length * 4 ^ ss.length ≤ 5000 →
    ∃ o2' o3' o4', forF (bName 2) (cSeq (cAsg 3 (cL cNil)) (cSeq (cFor (cItems (cVar 1)) (bName 4) (cAsg 3 (cBin oAdd (cVar 3) (cL (cLc [5] (cIt gRange1 (cCons (cVar 2) cNil)) (bName 5) cYes (cBin oAdd (cVar 4) (cTup (cCons (cVar 5) cNil))))))))
      (cAsg 1 (cVar 3)))) (dI ss) [S, some (.im (.lst (dR acc))), o2, o3, o4, o5] = .nx [S, some (.im (.lst (dR (rowsL ss acc)))), o2', o3', o4', o5]
  | [], acc, o2, o3, o4, k, _, _, _, _ => ⟨o2, o3, o4, rfl⟩
  | s :: ss, acc, o2, o3, o4, k, hs, hk, hl, hb => by
    have h2 := hs s (by simp)
    have hl' : k + (ss.length + 1) ≤ 6 := by simpa using hl
    have hb' : acc.length * (4 ^ ss.length * 4) ≤ 5000 := by simpa [Nat.pow_succ] using hb
    have hp : 0 < 4 ^ ss.length := Nat.pow_pos (by decide)
    have hal : acc.length * 4 ≤ 5000 := by
      have : acc.length * 4 ≤ acc.length * (4 ^ ss.length * 4) := Nat.mul_le_mul_left _ (by omega)
      omega
    have hlen : (acc.flatMap (stepR s)).length ≤ acc.length * 4 := by
      have h3 := len_flat s h2 acc
      have h4 : (acc.length : Int) * s ≤ acc.length * 4 := Int.mul_le_mul_of_nonneg_left h2.2 (by omega)
      omega
    obtain ⟨o4', hin⟩ := rows_inner S (some (.im (.lst (dR acc)))) s h2 o5 acc [] o4 (fun r hr => by have := hk r hr; omega) (by simp; omega)
    obtain ⟨p2, p3, p4, ih⟩ := rows_outer S o5 ss (acc.flatMap (stepR s)) (some (.im (.int s))) (some (.im (.lst (dR (acc.flatMap (stepR s)))))) o4' (k + 1) (fun x hx => hs x (by simp [hx]))
      (fun r hr => by
        obtain ⟨r', h5, h6⟩ := List.mem_flatMap.mp hr
        obtain ⟨v, _, rfl⟩ := List.mem_map.mp h6
        simp [hk r' h5]) (by omega) (by
        have : (acc.flatMap (stepR s)).length * 4 ^ ss.length ≤ acc.length * 4 * 4 ^ ss.length := Nat.mul_le_mul_right _ hlen
        have e : acc.length * 4 * 4 ^ ss.length = acc.length * (4 ^ ss.length * 4) := by rw [Nat.mul_assoc, Nat.mul_comm 4]
        omega)
    refine ⟨p2, p3, p4, ?_⟩
    rw [dI, List.map_cons, forF]
    simp only [bName, List.set_cons_succ, List.set_cons_zero]
    simp only [List.nil_append] at hin
    have eb : cSeq (cAsg 3 (cL cNil)) (cSeq (cFor (cItems (cVar 1)) (bName 4) (cAsg 3 (cBin oAdd (cVar 3) (cL (cLc [5] (cIt gRange1 (cCons (cVar 2) cNil)) (bName 5) cYes (cBin oAdd (cVar 4) (cTup (cCons (cVar 5) cNil)))))))) (cAsg 1 (cVar 3))) [S, some (.im (.lst (dR acc))), some (.im (.int s)), o3, o4, o5] =
        .nx [S, some (.im (.lst (dR (acc.flatMap (stepR s))))), some (.im (.int s)), some (.im (.lst (dR (acc.flatMap (stepR s))))), o4', o5] := by
      have hin' : forF (bName 4) (cAsg 3 (cBin oAdd (cVar 3) (cL (cLc [5] (cIt gRange1 (cCons (cVar 2) cNil)) (bName 5) cYes (cBin oAdd (cVar 4) (cTup (cCons (cVar 5) cNil))))))) (dR acc) [S, some (.im (.lst (dR acc))), some (.im (.int s)), some (.im (.lst [])), o4, o5] = _ := hin
      simp only [cSeq, cAsg, cL, cNil, Res.bind_ok, stE_ok, Fl.then_nx, List.set_cons_succ, List.set_cons_zero, cFor, cItems, cVar, List.getElem?_cons_succ, List.getElem?_cons_zero, itemsD]
      rw [hin']
      rfl
    rw [eb]
    exact ih
theorem rows_ok {ss : List Int} (hsz : ∀ s ∈ ss, 2 ≤ s ∧ s ≤ 4) (hle : ss.length ≤ 6) : F__law_rows [tupI ss] = .ok (.lst (dR (rowsL ss [[]]))) := by
  obtain ⟨o2, o3, o4, h⟩ := rows_outer (some (.im (tupI ss))) none ss [[]] none none none 0 hsz (by simp) (by omega) (by
    have h1 : 4 ^ ss.length ≤ 4096 := (by decide : ∀ n : Fin 7, 4 ^ (n : Nat) ≤ 4096) ⟨ss.length, by omega⟩
    simp; omega)
  have h' : forF (bName 2) (cSeq (cAsg 3 (cL cNil)) (cSeq (cFor (cItems (cVar 1)) (bName 4) (cAsg 3 (cBin oAdd (cVar 3) (cL (cLc [5] (cIt gRange1 (cCons (cVar 2) cNil)) (bName 5) cYes (cBin oAdd (cVar 4) (cTup (cCons (cVar 5) cNil))))))))
      (cAsg 1 (cVar 3)))) (dI ss) [some (.im (tupI ss)), some (.im (.lst [D.tup []])), none, none, none, none] = _ := h
  unfold F__law_rows defF g__law_rows
  show flR (cSeq _ _ [some (.im (tupI ss)), none, none, none, none, none]) = _
  rw [cSeq, show (cAsg 1 (cL (cCons (cTup cNil) cNil))) [some (.im (tupI ss)), none, none, none, none, none] = .nx [some (.im (tupI ss)), some (.im (.lst [D.tup []])), none, none, none, none] from rfl, Fl.then_nx, cSeq, cFor,
    show (cItems (cVar 0)) [some (.im (tupI ss)), some (.im (.lst [D.tup []])), none, none, none, none] = .ok (dI ss) from rfl, stE_ok, h']
  rfl
noncomputable abbrev dZ (ps : List (Int × Int)) : List D := ps.map fun p => D.tup [.int p.1, .int p.2]
theorem pairs_zip : ∀ (vs ss : List Int), pairsD (dI vs) (dI ss) = dZ (vs.zip ss)
  | [], ss => rfl
  | v :: vs, [] => rfl
  | v :: vs, s :: ss => by
    show .tup [.int v, .int s] :: pairsD (dI vs) (dI ss) = _
    rw [pairs_zip vs ss]
    rfl
theorem lookrow_ok {ss vs : List Int} (hl : vs.length = ss.length) (hle : ss.length ≤ 6) (hp : ∀ p ∈ vs.zip ss, 0 ≤ p.1 ∧ p.1 < p.2) : F_look_row [tupI ss, tupI vs] = .ok .non := by
  have e1 : oNe (.int (vs.length : Int)) (.int (ss.length : Int)) = .ok (.bl false) := by rw [oNe_int, hl]; simp
  have hz : (vs.zip ss).length ≤ sizeLine := by rw [List.length_zip, sizeLine_eq]; omega
  have hz' : min vs.length ss.length ≤ sizeLine := by rw [sizeLine_eq]; omega
  have hlc : lcF (bTup 2 (bCons (bName 2) (bCons (bName 3) bNil))) cYes (cChain oLe oLt (cC (.int 0)) (cVar 2) (cVar 3)) (dZ (vs.zip ss)) [some (.im (tupI ss)), some (.im (tupI vs)), none, none] = .ok ((vs.zip ss).map fun _ => D.bl true) := by
    refine lcF_map _ _ _ fun p h => ⟨[some (.im (tupI ss)), some (.im (tupI vs)), some (.im (.int p.1)), some (.im (.int p.2))], rfl, rfl, ?_⟩
    obtain ⟨h1, h2⟩ := hp p h
    simp [cChain, cC, cVar, oI, h1, h2]
  have ha := all_ok' (xs := vs.zip ss)
  have hpz := pairs_zip vs ss
  simp [F_look_row, defF, g_look_row, st0, cIf, cOrT, cNotT, cTest, cBin, cCall, cCons, cVar, cNil, gLen, e1, asB, cL, cLc, cIt, gZip, hpz, hz', wipeD, hlc, ha, cNext]
theorem ix_val {vs : List Int} {i : Int} (h0 : 0 ≤ i) (h1 : i < vs.length) : oIx (tupI vs) (.int i) = .ok (.int (vs.getD i.toNat 0)) := by
  obtain ⟨k, rfl⟩ := Int.eq_ofNat_of_zero_le h0
  have hk : k < vs.length := by omega
  simp [oIx, at_nat, hk, List.getD]
theorem rowsL_V : ∀ (ss : List Int) (L : List (List Int)), rowsL ss L = ss.foldl rowStep L
  | [], L => rfl
  | s :: ss, L => by rw [rowsL, rowsL_V ss, List.foldl_cons]; rfl
theorem rowsV_ok {ss : List Int} (hsz : ∀ s ∈ ss, 2 ≤ s ∧ s ≤ 4) (hle : ss.length ≤ 6) : F__law_rows [tI ss] = .ok (.lst ((rowsV ss).map tI)) := by
  have := rows_ok hsz hle
  rw [rowsL_V] at this
  exact this
theorem okR_zip : ∀ {r ss : List Int}, okR r ss = true → ∀ p ∈ r.zip ss, 0 ≤ p.1 ∧ p.1 < p.2
  | [], [], _, p, hp => by simp at hp
  | [], _ :: _, h, _, _ => by cases h
  | _ :: _, [], h, _, _ => by cases h
  | v :: r, s :: ss, h, p, hp => by
    rw [okR, Bool.and_eq_true, Bool.and_eq_true, decide_eq_true_eq, decide_eq_true_eq] at h
    rw [List.zip_cons_cons, List.mem_cons] at hp
    rcases hp with rfl | hp
    · exact h.1
    · exact okR_zip h.2 p hp
theorem okR_at : ∀ {r ss : List Int} (i : Nat), okR r ss = true → i < ss.length → 0 ≤ r.getD i 0 ∧ r.getD i 0 < ss.getD i 0
  | [], [], i, _, hi => by simp at hi
  | [], _ :: _, _, h, _ => by cases h
  | _ :: _, [], _, h, _ => by cases h
  | v :: r, s :: ss, 0, h, _ => by
    rw [okR, Bool.and_eq_true, Bool.and_eq_true, decide_eq_true_eq, decide_eq_true_eq] at h
    exact h.1
  | v :: r, s :: ss, i + 1, h, hi => by
    rw [okR, Bool.and_eq_true] at h
    exact okR_at i h.2 (by simpa using hi)
theorem lookRow {ss r : List Int} (hle : ss.length ≤ 6) (h : okR r ss = true) : F_look_row [tI ss, tI r] = .ok .non := lookrow_ok (okR_len h) hle (okR_zip h)
end My
namespace My
open PySem L2 DV
noncomputable abbrev kT : NK := .ob "Tally" ["sizes", "known"]
noncomputable def tsT (sz : List Int) (ps : RP) : List T := [.im (tI sz), .nd (.dt (keysP ps)) (ps.map fun p => T.im (D.int p.2))]
noncomputable def obT (sz : List Int) (ps : RP) : D := .ins "Tally" ["sizes", "known"] [tI sz, dP ps]
theorem tree_known (ps : RP) : (T.nd (.dt (keysP ps)) (ps.map fun p => T.im (D.int p.2))).d = dP ps := by
  rw [T.d]
  show D.dtt (keysP ps) (T.dA _) = _
  rw [T.dA_map, List.map_map]
  rfl
theorem tree_d (sz : List Int) (ps : RP) : (T.nd kT (tsT sz ps)).d = obT sz ps := by
  rw [T.d]
  show D.ins "Tally" ["sizes", "known"] (T.dA _) = _
  unfold tsT obT
  rw [T.dA, T.dA, T.dA, T.d, tree_known]
theorem fld_sizes (sz : List Int) (ps : RP) : oFld ["Tally"] "sizes" (obT sz ps) = .ok (tI sz) := rfl
theorem fld_known (sz : List Int) (ps : RP) : oFld ["Tally"] "known" (obT sz ps) = .ok (dP ps) := rfl
theorem noSq_ims (ps : RP) : T.noSqA (ps.map fun p => T.im (D.int p.2)) = true := by
  induction ps with
  | nil => rw [List.map_nil, T.noSqA]
  | cons p ps ih => rw [List.map_cons, T.noSqA, ih, T.noSq]; rfl
theorem noSq_T (sz : List Int) (ps : RP) : (T.nd kT (tsT sz ps)).noSq = true := by
  unfold tsT
  rw [T.noSq, T.noSqA, T.noSqA, T.noSqA, T.noSq, T.noSq, noSq_ims]
  rfl
theorem ix_known {ps : RP} {r : List Int} {n : Int} (h : getP r ps = some n) : oIxX (dP ps) (tI r) = .ok (.int n) := by
  unfold oIxX dP
  rw [keyD_tI]
  dsimp only
  have : atK (kR r) (keysP ps) (valsP ps) = some (D.int n) := by
    unfold valsP
    rw [atK_P D.int, h]; rfl
  rw [this]
theorem getP_of {ps : RP} (hn : (ps.map (·.1)).Nodup) : ∀ p ∈ ps, getP p.1 ps = some p.2 := by
  induction ps with
  | nil => intro p hp; cases hp
  | cons q ps ih =>
    intro p hp
    rw [List.map_cons, List.nodup_cons] at hn
    rw [getP]
    rcases List.mem_cons.mp hp with rfl | hp
    · rw [if_pos rfl]
    · rw [if_neg (show ¬ q.1 = p.1 from fun z => hn.1 (z ▸ List.mem_map_of_mem (f := (·.1)) hp)), ih hn.2 p hp]
theorem nkDs_keysP (ps : RP) : nkDs (keysP ps) = ps.map fun p => tI p.1 := by
  unfold keysP
  rw [nkDs_map, List.map_map]
  exact List.map_congr_left fun p _ => nkD_kR p.1
theorem items_known (ps : RP) : itemsX (dP ps) = .ok (ps.map fun p => tI p.1) := by
  unfold dP
  rw [ev_itemsX, nkDs_keysP]
theorem sum_ints (ns : List Int) : gSum [.lst (ns.map D.int)] = .ok (.int ns.sum) := by
  unfold gSum gInts
  dsimp only
  rw [intsD_map]
theorem sumP_all (ps : RP) : sumP (fun _ => true) ps = (ps.map (·.2)).sum := by
  unfold sumP
  simp
theorem whole_ok {sz : List Int} {ps : RP} (hn : (ps.map (·.1)).Nodup) (hz : ps.length ≤ sizeLine) : F_Tally_whole [obT sz ps] = .ok (.int (sumP (fun _ => true) ps)) := by
  have hlc : lcF (bName 1) cYes (cBin oIxX (cFld ["Tally"] "known" (cVar 0)) (cVar 1)) (ps.map fun p => tI p.1) [some (.im (obT sz ps)), none] = .ok (ps.map fun p => D.int p.2) := by
    refine lcF_map _ _ _ fun p hp => ⟨[some (.im (obT sz ps)), some (.im (tI p.1))], rfl, rfl, ?_⟩
    have := ix_known (getP_of hn p hp)
    simp [fld_known, this]
  have hs := sum_ints (ps.map (·.2))
  rw [List.map_map] at hs
  have hs' : gSum [.lst (ps.map fun p => D.int p.2)] = .ok (.int (ps.map (·.2)).sum) := hs
  rw [sumP_all]
  simp [F_Tally_whole, g_Tally_whole, fld_known, items_known, hz, hlc, hs']
theorem init_ok {sz : List Int} (G : Good sz) : F_Tally_init (.ob "Tally" []) [] [.non, tI sz] = .ok .non (.nd kT (tsT sz [])) := by
  have hl : F_look_sizes [tI sz] = .ok .non := look_ok G
  unfold F_Tally_init defM g_Tally_init
  have hs : ¬ ("sizes" : Str) = "known" := by decide
  simp [hl, cTfld, asT, cNx0, putN, putTs, flM, ownAt, tsT, keysP, hs]
theorem put_okN {sz r : List Int} {ps : RP} {n : Int} (h1n : 1 ≤ n) (hle : sz.length ≤ 6) (hr : okR r sz = true) (hn : (ps.map (·.1)).Nodup) (hz : ps.length < sizeLine) (hs : sumP (fun _ => true) ps + n ≤ 10000) : F_Tally_put kT (tsT sz ps) [.non, tI r, .int n] = .ok .non (.nd kT (tsT sz (bumpP r n ps))) := by
  have hn1 : ¬ n < 1 := by omega
  have h1 := lookRow hle hr
  have h2 := whole_ok (sz := sz) hn (Nat.le_of_lt hz)
  have ob : ∀ a b, obOk [some (.tr true kT (tsT sz ps)), a, b] 0 = true := fun a b => noSq_T sz ps
  have ef : ∀ a b, fz 0 [some (.tr true kT (tsT sz ps)), a, b] = [some (.im (obT sz ps)), a, b] := fun a b => by rw [← tree_d]; rfl
  have l1 : ∀ a, lend 0 (cFn0 F_look_row (cCons (cFld ["Tally"] "sizes" (cVar 0)) (cCons (cVar 1) cNil))) [some (.tr true kT (tsT sz ps)), some (.im (tI r)), a] = .ok .non := fun a => by
    refine lend_ok (ob _ _) ?_ rfl
    rw [ef]
    simp [fld_sizes, h1]
  have l2 : lendT 0 (cTest (cBin oGt (cBin oAdd (cMth "Tally" "whole" F_Tally_whole [] (cVar 0) cNil) (cVar 2)) (cC (.int 10000)))) [some (.tr true kT (tsT sz ps)), some (.im (tI r)), some (.im (.int n))] = .ok false := by
    refine lendT_ok (ob _ _) ?_
    rw [ef]
    have h2' : F_Tally_whole [.ins "Tally" ["sizes", "known"] [tI sz, dP ps]] = _ := h2
    have q1 : ¬ ("whole" : Str) = "sizes" := by decide
    have q2 : ¬ ("whole" : Str) = "known" := by decide
    simp [obT, h2', q1, q2]
    omega
  have l3 : lend 0 (cBin oAdd (cGetX (cFld ["Tally"] "known" (cVar 0)) (cVar 1) (cC (.int 0))) (cVar 2)) [some (.tr true kT (tsT sz ps)), some (.im (tI r)), some (.im (.int n))] = .ok (.int ((getP r ps).getD 0 + n)) := by
    refine lend_ok (ob _ _) ?_ rfl
    rw [ef]
    have hg : oGetX (dP ps) (tI r) (.int 0) = .ok (.int ((getP r ps).getD 0)) := by
      unfold oGetX dP
      rw [keyD_tI]
      dsimp only
      unfold valsP
      rw [atK_P D.int]
      cases getP r ps <;> rfl
    have hg' : oGetX (.dtt (keysP ps) (valsP ps)) (tI r) (.int 0) = .ok (.int ((getP r ps).getD 0)) := hg
    simp [fld_known, dP, hg']
  have key : g_Tally_put [some (.tr true kT (tsT sz ps)), some (.im (tI r)), some (.im (.int n))] = .nx [some (.tr true kT (tsT sz (bumpP r n ps))), some (.im (tI r)), some (.im (.int n))] := by
    unfold g_Tally_put
    refine seq_nx (drop_nx (l1 _)) (seq_nx (δ' := [some (.tr true kT (tsT sz ps)), some (.im (tI r)), some (.im (.int n))]) (by simp [hn1]) (seq_nx (δ' := [some (.tr true kT (tsT sz ps)), some (.im (tI r)), some (.im (.int n))]) (if_f l2 rfl) (seq_nx (δ' := [some (.tr true kT (tsT sz ps)), some (.im (tI r)), some (.im (.int n))]) (by simp) ?_)))
    have hp : cpFld ["Tally"] "known" (cpVar 0) [some (.tr true kT (tsT sz ps)), some (.im (tI r)), some (.im (.int n))] = .ok (0, [1]) := rfl
    unfold cTputX
    rw [l3, stE_ok, hp, stE_ok]
    have hnd : nodeAt [some (.tr true kT (tsT sz ps)), some (.im (tI r)), some (.im (.int n))] 0 [1] = some (.nd (.dt (keysP ps)) (ps.map fun p => T.im (D.int p.2))) := node1 rfl rfl
    have hlen : (keysP ps).length < sizeLine := by unfold keysP; rw [List.length_map]; exact hz
    simp only [ev_var, List.getElem?_cons_succ, List.getElem?_cons_zero, stE_ok, hnd, keyD_tI, hlen, if_true]
    rw [put1 rfl (t := .nd (.dt (keysP ps)) (ps.map fun p => T.im (D.int p.2))) rfl]
    have e3 : keysPut (keysP ps) (kR r) = keysP (bumpP r n ps) := by rw [← setP_bump, setP_keys]
    have e4 : tsPut (keysP ps) (ps.map fun p => T.im (D.int p.2)) (kR r) (.int ((getP r ps).getD 0 + n)) = (bumpP r n ps).map fun p => T.im (D.int p.2) := by rw [← setP_bump, setP_ts _ _ _ hn]
    rw [e3, e4]
    rfl
  have e : F_Tally_put kT (tsT sz ps) [.non, tI r, .int n] = flM 0 (g_Tally_put [some (.tr true kT (tsT sz ps)), some (.im (tI r)), some (.im (.int n))]) := rfl
  rw [e, key]
  rfl
end My
namespace My
open PySem L2 DV
noncomputable def delP (r : List Int) (ps : RP) : RP := ps.filter fun p => decide (p.1 ≠ r)
noncomputable def takeP (r : List Int) (n : Int) (ps : RP) : RP := if (getP r ps).getD 0 = n then delP r (setP r 0 ps) else setP r ((getP r ps).getD 0 - n) ps
theorem delP_at {α : Type} (f : Int → α) (r : List Int) : ∀ ps : RP, delK (kR r) (keysP ps) (ps.map fun p => f p.2) = (delP r ps).map fun p => f p.2
  | [] => rfl
  | p :: ps => by
    show delK (kR r) (kR p.1 :: keysP ps) (f p.2 :: ps.map fun p => f p.2) = _
    rw [delK]
    unfold delP
    rw [List.filter_cons]
    by_cases e : p.1 = r
    · rw [if_pos (by rw [e]), if_neg (by simp [e]), delP_at f r ps]; rfl
    · rw [if_neg (fun z => e (kR_inj z)), if_pos (by simpa using e), delP_at f r ps]; rfl
theorem delP_keys (r : List Int) : ∀ ps : RP, delK (kR r) (keysP ps) (keysP ps) = keysP (delP r ps)
  | [] => rfl
  | p :: ps => by
    show delK (kR r) (kR p.1 :: keysP ps) (kR p.1 :: keysP ps) = _
    rw [delK]
    unfold delP
    rw [List.filter_cons]
    by_cases e : p.1 = r
    · rw [if_pos (by rw [e]), if_neg (by simp [e]), delP_keys r ps]; rfl
    · rw [if_neg (fun z => e (kR_inj z)), if_pos (by simpa using e), delP_keys r ps]; rfl
section
variable {sz r : List Int} {ps : RP} {n : Int} (hle : sz.length ≤ 6) (hr : okR r sz = true) (h1n : 1 ≤ n)
include hle hr h1n
theorem take_pre (g : DS → Fl) (z : Fl) (hg : g [some (.tr true kT (tsT sz ps)), some (.im (tI r)), some (.im (.int n)), some (.im (.int ((getP r ps).getD 0)))] = z) :
    (cSeq (cDrop (lend 0 (cFn0 F_look_row (cCons (cFld ["Tally"] "sizes" (cVar 0)) (cCons (cVar 1) cNil)))))
  (cSeq (cIf (cTest (cBin oLt (cVar 2) (cC (.int 1)))) (cRaise "BadMany" (fd1 "word" "badmany") cNil) cNext)
  (cSeq (cAsg 1 (cCall gTuple (cCons (cVar 1) cNil)))
  (cSeq (cAsg 3 (lend 0 (cGetX (cFld ["Tally"] "known" (cVar 0)) (cVar 1) (cC (.int 0))))) g)))) [some (.tr true kT (tsT sz ps)), some (.im (tI r)), some (.im (.int n)), none] = z := by
  have h1 := lookRow hle hr
  have ob : ∀ a b c, obOk [some (.tr true kT (tsT sz ps)), a, b, c] 0 = true := fun a b c => noSq_T sz ps
  have ef : ∀ a b c, fz 0 [some (.tr true kT (tsT sz ps)), a, b, c] = [some (.im (obT sz ps)), a, b, c] := fun a b c => by rw [← tree_d]; rfl
  have l1 : ∀ a b, lend 0 (cFn0 F_look_row (cCons (cFld ["Tally"] "sizes" (cVar 0)) (cCons (cVar 1) cNil))) [some (.tr true kT (tsT sz ps)), some (.im (tI r)), a, b] = .ok .non := fun a b => by
    refine lend_ok (ob _ _ _) ?_ rfl
    rw [ef]
    simp [fld_sizes, h1]
  have l3 : ∀ b, lend 0 (cGetX (cFld ["Tally"] "known" (cVar 0)) (cVar 1) (cC (.int 0))) [some (.tr true kT (tsT sz ps)), some (.im (tI r)), some (.im (.int n)), b] = .ok (.int ((getP r ps).getD 0)) := fun b => by
    refine lend_ok (ob _ _ _) ?_ rfl
    rw [ef]
    have hg : oGetX (dP ps) (tI r) (.int 0) = .ok (.int ((getP r ps).getD 0)) := by
      unfold oGetX dP
      rw [keyD_tI]
      dsimp only
      unfold valsP
      rw [atK_P D.int]
      cases getP r ps <;> rfl
    have hg' : oGetX (.dtt (keysP ps) (valsP ps)) (tI r) (.int 0) = .ok (.int ((getP r ps).getD 0)) := hg
    simp [fld_known, dP, hg']
  have hn1 : ¬ n < 1 := by omega
  refine seq_nx (drop_nx (l1 _ _)) (seq_nx (δ' := [some (.tr true kT (tsT sz ps)), some (.im (tI r)), some (.im (.int n)), none]) (by simp [hn1]) (seq_nx (δ' := [some (.tr true kT (tsT sz ps)), some (.im (tI r)), some (.im (.int n)), none]) (by simp) (seq_nx (asg_nx (l3 _)) hg)))
theorem take_ok (hn : (ps.map (·.1)).Nodup) (hz : ps.length < sizeLine) (hs : n ≤ (getP r ps).getD 0) : F_Tally_take kT (tsT sz ps) [.non, tI r, .int n] = .ok .non (.nd kT (tsT sz (takeP r n ps))) := by
  let m := (getP r ps).getD 0
  have hm : m = (getP r ps).getD 0 := rfl
  let o1 : Option O := some (.im (tI r))
  let o2 : Option O := some (.im (.int n))
  let o3 : Option O := some (.im (.int m))
  have hp : ∀ t : Option O, cpFld ["Tally"] "known" (cpVar 0) [some (.tr true kT (tsT sz ps)), o1, o2, t] = .ok (0, [1]) := fun _ => rfl
  have s5 : cTputX (cpFld ["Tally"] "known" (cpVar 0)) (cVar 1) (cBin oSub (cVar 3) (cVar 2)) [some (.tr true kT (tsT sz ps)), o1, o2, o3] = .nx [some (.tr true kT (tsT sz (setP r (m - n) ps))), o1, o2, o3] := by
    unfold cTputX
    have l3 : cBin oSub (cVar 3) (cVar 2) [some (.tr true kT (tsT sz ps)), o1, o2, o3] = .ok (.int (m - n)) := rfl
    rw [l3, stE_ok, hp, stE_ok]
    have hnd : nodeAt [some (.tr true kT (tsT sz ps)), o1, o2, o3] 0 [1] = some (.nd (.dt (keysP ps)) (ps.map fun p => T.im (D.int p.2))) := node1 rfl rfl
    have hlen : (keysP ps).length < sizeLine := by unfold keysP; rw [List.length_map]; exact hz
    have hv : cVar 1 [some (.tr true kT (tsT sz ps)), o1, o2, o3] = .ok (tI r) := rfl
    rw [hv, stE_ok]
    simp only [hnd, keyD_tI, hlen, if_true]
    rw [put1 rfl (t := .nd (.dt (keysP ps)) (ps.map fun p => T.im (D.int p.2))) rfl]
    have e3 : keysPut (keysP ps) (kR r) = keysP (setP r (m - n) ps) := (setP_keys _ _ _).symm
    have e4 : tsPut (keysP ps) (ps.map fun p => T.im (D.int p.2)) (kR r) (.int (m - n)) = (setP r (m - n) ps).map fun p => T.im (D.int p.2) := (setP_ts _ _ _ hn).symm
    rw [e3, e4]
    rfl
  have hlt : cIf (cTest (cBin oLt (cVar 3) (cVar 2))) (cRaise "NoRows" (fd2 "word" "norows" "there") (cCons (cVar 3) cNil)) cNext [some (.tr true kT (tsT sz ps)), o1, o2, o3] = .nx [some (.tr true kT (tsT sz ps)), o1, o2, o3] := by
    refine if_f (test_ok (b := false) ?_) rfl
    show Res.ok (D.bl (decide (m < n))) = _
    rw [decide_eq_false (by omega)]
  have key : g_Tally_take [some (.tr true kT (tsT sz ps)), o1, o2, none] = .nx [some (.tr true kT (tsT sz (takeP r n ps))), o1, o2, o3] := by
    unfold g_Tally_take
    refine take_pre hle hr h1n _ _ (seq_nx hlt (seq_nx s5 ?_))
    by_cases e : m = n
    · have et : takeP r n ps = delP r (setP r 0 ps) := by unfold takeP; rw [if_pos (hm ▸ e)]
      have e0 : m - n = 0 := by omega
      refine if_t (test_ok (b := true) ?_) ?_
      · show oEq (.int m) (.int n) = _
        rw [oEq_int, decide_eq_true e]
      · rw [et, e0]
        unfold cTpopX
        have hp2 : cpFld ["Tally"] "known" (cpVar 0) [some (.tr true kT (tsT sz (setP r 0 ps))), o1, o2, o3] = .ok (0, [1]) := rfl
        rw [hp2, stE_ok]
        have hnd : nodeAt [some (.tr true kT (tsT sz (setP r 0 ps))), o1, o2, o3] 0 [1] = some (.nd (.dt (keysP (setP r 0 ps))) ((setP r 0 ps).map fun p => T.im (D.int p.2))) := node1 rfl rfl
        have hv : cVar 1 [some (.tr true kT (tsT sz (setP r 0 ps))), o1, o2, o3] = .ok (tI r) := rfl
        simp only [hnd, hv, stE_ok, keyD_tI]
        have hin : kR r ∈ keysP (setP r 0 ps) := by
          rw [setP_keys]
          unfold keysPut
          split
          · assumption
          · simp
        rw [if_pos hin, put1 rfl (t := .nd (.dt (keysP (setP r 0 ps))) ((setP r 0 ps).map fun p => T.im (D.int p.2))) rfl, delP_keys, delP_at fun i => T.im (D.int i)]
        rfl
    · have et : takeP r n ps = setP r (m - n) ps := by unfold takeP; rw [if_neg (hm ▸ e)]
      refine if_f (test_ok (b := false) ?_) ?_
      · show oEq (.int m) (.int n) = _
        rw [oEq_int, decide_eq_false e]
      · rw [et]
        rfl
  have e : F_Tally_take kT (tsT sz ps) [.non, tI r, .int n] = flM 0 (g_Tally_take [some (.tr true kT (tsT sz ps)), o1, o2, none]) := rfl
  rw [e, key]
  rfl
end
end My
namespace My
open PySem L2 DV
theorem set_keys {r : List Int} {x : Int} : ∀ {ps : RP}, r ∈ ps.map (·.1) → (setP r x ps).map (·.1) = ps.map (·.1)
  | [], h => by cases h
  | p :: ps, h => by
    rw [setP]
    by_cases e : p.1 = r
    · rw [if_pos e]; rfl
    · rw [if_neg e, List.map_cons, set_keys ((List.mem_cons.mp h).resolve_left fun z => e z.symm), List.map_cons]
end My
namespace My
open PySem L2 DV
noncomputable def riseB (n last : Int) : List Int → Bool
  | [] => true
  | c :: t => decide (last < c) && decide (c < n) && riseB n c t
end My
namespace DV
open PySem L2
noncomputable def jn (w : Web) (a b : Nat) : Bool := decide ((a : Int) ∈ leanW w b) || decide ((b : Int) ∈ leanW w a)
noncomputable def mm : List Int → List Int
  | [a, b] => [if b < a then b else a, if b > a then b else a]
  | l => l
noncomputable def forkA (w : Web) : List (List Int) := (List.range w.length).flatMap fun mid => (leanW w mid).flatMap fun lo => ((leanW w mid).filter fun hi => decide (lo < hi) && !jn w lo.toNat hi.toNat).map fun hi => [lo, (mid : Int), hi]
end DV
namespace DV
open PySem L2
end DV
namespace DV
open PySem L2
end DV
namespace DV
open PySem L2
end DV
namespace My
open PySem L2 DV
end My
namespace DV
open PySem L2
section
variable {κ : Type} [DecidableEq κ]
end
end DV
namespace DV
open PySem L2
end DV
namespace My
open PySem L2 DV
end My
namespace My
open PySem L2 DV
theorem q2 : ("table" : Str) ∉ (["sizes", "known"] : List Str) := by decide
theorem cut_lo {xs : List Int} {k : Nat} (h : k ≤ xs.length) : cutD (xs.map D.int) none (some (k : Int)) = (xs.take k).map D.int := by
  rw [cutD_map]
  have : HT.sIx xs.length xs.length (some (k : Int)) = k := by rw [HT.sIx_nat]; omega
  rw [this]
  rfl
end My
namespace DV
open PySem L2
end DV
namespace My
open PySem L2 DV
noncomputable abbrev fr (p : Int × Int) : D := .tup [.int p.1, .int p.2]
noncomputable def Pos (p : Int × Int) : Prop := p.2 ≠ 0
theorem ix0 (x : Int) (y : D) : oIx (.tup [.int x, y]) (.int 0) = .ok (.int x) := rfl
theorem ix1 (x y : Int) : oIx (.tup [.int x, .int y]) (.int 1) = .ok (.int y) := rfl
end My
namespace My
open PySem L2 DV
end My
namespace My
open PySem L2 DV
end My
namespace My
open PySem L2 DV
end My
namespace My
open PySem L2 DV
structure Fam (sz : List Int) (rs : List (List Int)) (c : Nat) (L : List Int) : Prop where
  fG : Good sz
  fr : ∀ r ∈ rs, okR r sz = true
  fn : rs.length ≤ 30
  fL : riseB sz.length (-1) L = true
  fc : c < sz.length
  fo : (c : Int) ∉ L
section
variable {sz : List Int} {rs : List (List Int)} {c : Nat} {L : List Int} {a : Int} (F : Fam sz rs c L) (ha : 1 ≤ a ∧ a ≤ 9)
include F
include ha
end
end My
namespace My
open PySem L2 DV
noncomputable def goodB (ss : List Int) : Bool := decide (1 ≤ ss.length) && decide (ss.length ≤ 6) && (ss.all fun s => decide (2 ≤ s) && decide (s ≤ 4)) && decide (prodL ss ≤ 300)
theorem goodB_ok {ss : List Int} (h : goodB ss = true) : Good ss := by
  unfold goodB at h
  simp only [Bool.and_eq_true, decide_eq_true_eq, List.all_eq_true] at h
  exact ⟨h.1.1.1, h.1.1.2, h.1.2, h.2⟩
theorem sizes_all : ∀ (i j : Fin 3) (k : Fin 2) (a : Fin 6), goodB ([2 + ((i : Nat) : Int), 2 + ((j : Nat) : Int), 2 + ((k : Nat) : Int) * (if (a : Nat) < 5 then 1 else 0), 2, 2, 2].take (a + 1)) = true := by decide +kernel
theorem good_take {x y z : Int} {a : Nat} (hx : 0 ≤ x ∧ x < 3) (hy : 0 ≤ y ∧ y < 3) (hz : 0 ≤ z ∧ z < 2) (ha : a < 6) : Good ([2 + x, 2 + y, 2 + z * (if a < 5 then 1 else 0), 2, 2, 2].take (a + 1)) := by
  have := sizes_all ⟨x.toNat, by omega⟩ ⟨y.toNat, by omega⟩ ⟨z.toNat, by omega⟩ ⟨a, ha⟩
  simp only [Int.toNat_of_nonneg hx.1, Int.toNat_of_nonneg hy.1, Int.toNat_of_nonneg hz.1] at this
  exact goodB_ok this
theorem cut_take {xs : List Int} {k : Nat} (h : k ≤ xs.length) : cutD (xs.map D.int) none (some (k : Int)) = (xs.take k).map D.int := cut_lo h
theorem sizes_ok (c : Int) (u : Nat) (hu : 1 ≤ u ∧ u ≤ 6) : ∃ sz, F__law_sizes [.int c, .int (u : Int)] = .ok (tI sz) ∧ Good sz ∧ sz.length ≤ u := by
  obtain ⟨m, hm⟩ := draws_ok c [(u : Int), 5, 5, 3] (by intro s hs; simp at hs; omega) (by simp)
  have e : digs m [(u : Int), 5, 5, 3] = [m % u, m / u % 5, m / u / 5 % 5, m / u / 5 / 5 % 3] := rfl
  rw [e] at hm
  have h1 : 0 ≤ m % u ∧ m % u < u := ⟨Int.emod_nonneg _ (by omega), Int.emod_lt_of_pos _ (by omega)⟩
  have h2 : 0 ≤ m / u % 5 ∧ m / u % 5 < 5 := ⟨Int.emod_nonneg _ (by omega), Int.emod_lt_of_pos _ (by omega)⟩
  have h3 : 0 ≤ m / u / 5 % 5 ∧ m / u / 5 % 5 < 5 := ⟨Int.emod_nonneg _ (by omega), Int.emod_lt_of_pos _ (by omega)⟩
  have h4 : 0 ≤ m / u / 5 / 5 % 3 ∧ m / u / 5 / 5 % 3 < 3 := ⟨Int.emod_nonneg _ (by omega), Int.emod_lt_of_pos _ (by omega)⟩
  generalize m % u = a at *
  generalize m / u % 5 = b at *
  generalize m / u / 5 % 5 = b2 at *
  generalize m / u / 5 / 5 % 3 = d at *
  obtain ⟨k, rfl⟩ := Int.eq_ofNat_of_zero_le h1.1
  let J : Int := if k < 5 then 1 else 0
  let xs : List Int := [2 + b / 2, 2 + b2 / 2, 2 + d / 2 * J, 2, 2, 2]
  refine ⟨xs.take (k + 1), ?_, good_take (by omega) (by omega) (by omega) (by omega), by rw [List.length_take]; omega⟩
  have d1 : oFdiv (.int b) (.int 2) = .ok (.int (b / 2)) := oFdiv_pos (by decide) (by decide)
  have d2 : oFdiv (.int b2) (.int 2) = .ok (.int (b2 / 2)) := oFdiv_pos (by decide) (by decide)
  have d3 : oFdiv (.int d) (.int 2) = .ok (.int (d / 2)) := oFdiv_pos (by decide) (by decide)
  have hJ : J = 1 ∨ J = 0 := by simp only [J]; split <;> simp
  have m1 : oMul2 (.int (d / 2)) (.int J) = .ok (.int (d / 2 * J)) := oMul_int (mul_ok (a := 31) (b := 31) (by omega) (by omega) (by decide) (by decide) (by decide))
  have hg : gInt [.v (.bl (decide (1 + (k : Int) < 6)))] = .ok (.int J) := by
    rw [ev_gIntB]
    simp only [J]
    congr 2
    by_cases h : k < 5
    · have : (1 + (k : Int)) < 6 := by omega
      simp [h, this]
    · have : ¬ (1 + (k : Int)) < 6 := by omega
      simp [h, this]
  let dr : D := .lst [.int (k : Int), .int b, .int b2, .int d]
  have s1 : F__law_draws [.int c, .lst [.int (u : Int), .int 5, .int 5, .int 3]] = .ok dr := hm
  have ix0 : oIx dr (.int 0) = .ok (.int (k : Int)) := rfl
  have ix1 : oIx dr (.int 1) = .ok (.int b) := rfl
  have ix2 : oIx dr (.int 2) = .ok (.int b2) := rfl
  have ix3 : oIx dr (.int 3) = .ok (.int d) := rfl
  have e0 : F__law_sizes [.int c, .int (u : Int)] = flR (g__law_sizes [some (.im (.int c)), some (.im (.int (u : Int))), none, none, none]) := rfl
  have lst : cL (cCons (cBin oAdd (cC (.int 2)) (cBin oFdiv (cBin oIx (cVar 2) (cC (.int 1))) (cC (.int 2)))) (cCons (cBin oAdd (cC (.int 2)) (cBin oFdiv (cBin oIx (cVar 2) (cC (.int 2))) (cC (.int 2)))) (cCons (cBin oAdd (cC (.int 2)) (cBin oMul2 (cBin oFdiv (cBin oIx (cVar 2) (cC (.int 3))) (cC (.int 2))) (cCall gInt (cCons (cBin oLt (cVar 3) (cC (.int 6))) cNil)))) (cCons (cC (.int 2)) (cCons (cC (.int 2)) (cCons (cC (.int 2)) cNil)))))) [some (.im (.int c)), some (.im (.int (u : Int))), some (.im dr), some (.im (.int (1 + (k : Int)))), none] = .ok (.lst (xs.map D.int)) := by
    simp [ix1, ix2, ix3, d1, d2, d3, hg, m1, xs, -ev_gIntB]
  have hc := cut_take (xs := xs) (k := k + 1) (by simp [xs]; omega)
  have hc' : cutD (xs.map D.int) none (some (1 + (k : Int))) = (xs.take (k + 1)).map D.int := by
    rw [← hc]
    congr 2
    omega
  have ke : g__law_sizes [some (.im (.int c)), some (.im (.int (u : Int))), none, none, none] = .rt (tI (xs.take (k + 1))) := by
    unfold g__law_sizes
    refine seq_nx (asg_nx (d := dr) (by simp [s1])) (seq_nx (asg_nx (d := .int (1 + (k : Int))) (by simp [ix0])) (seq_nx (asg_nx (d := .lst (xs.map D.int)) lst) (ret_rt ?_)))
    show (((Res.ok (D.lst (xs.map D.int))).bind fun x => (Res.ok (none : Option Int)).bind fun l => ((Res.ok (D.int (1 + (k : Int)))).bind asI).bind fun h => oSl l h x).bind fun x => (Res.ok ([] : List D)).bind fun xs => Res.ok (x :: xs)).bind gTuple = _
    simp only [Res.bind_ok, ev_asI, ev_sll, hc']
    rfl
  rw [e0, ke]
  rfl
theorem zeros_ok : ∀ {ss : List Int}, (∀ s ∈ ss, 2 ≤ s ∧ s ≤ 4) → okR (ss.map fun _ => 0) ss = true
  | [], _ => rfl
  | s :: ss, h => by
    have h1 := h s (by simp)
    rw [List.map_cons, okR, zeros_ok fun x hx => h x (by simp [hx])]
    simp
    omega
theorem rowsV_pos {ss : List Int} (h : ∀ s ∈ ss, 2 ≤ s ∧ s ≤ 4) : 0 < (rowsV ss).length := List.length_pos_of_mem (((goodV ss).m _).mpr (zeros_ok h))
end My
namespace My
open PySem L2 DV
theorem ixL {xs : List D} {i : Nat} {d : D} (h : xs[i]? = some d) : oIx (.lst xs) (.int (i : Int)) = .ok d := by
  have h1 := atI_nat h
  unfold oIx
  dsimp only
  rw [h1]
theorem cell_ok (ns : List Int) (i : Nat) : F__law_cell [.lst (ns.map D.int), .int (i : Int)] = .ok (.int (ns.getD i 0)) := by
  by_cases h : i < ns.length
  · have i0 : oIx (.lst (ns.map D.int)) (.int (i : Int)) = .ok (.int (ns.getD i 0)) := ixL (by simp [h])
    have hlt : (i : Int) < (ns.length : Int) := by omega
    simp [F__law_cell, g__law_cell, i0, hlt, -List.getD_eq_getElem?_getD]
  · have hlt : ¬ (i : Int) < (ns.length : Int) := by omega
    simp [F__law_cell, g__law_cell, h]
end My
namespace DV
open PySem L2
end DV
namespace DV
open PySem L2
noncomputable def leansOf (L : List (List Int)) (c : Nat) : List Int := (L.filter fun p => decide (p.getD 1 0 = (c : Int))).map fun p => p.getD 0 0
noncomputable def webL (n : Nat) (L : List (List Int)) : Web := (List.range n).map fun c => setI (leansOf L c)
end DV
namespace DV
open PySem L2
noncomputable def turnL (v : Web) (x y : Nat) : List (List Int) := (arrL v).filter (fun p => !decide (p = [(x : Int), (y : Int)])) ++ [[(y : Int), (x : Int)]]
noncomputable def turnW (v : Web) (x y : Nat) : Web := webL v.length (turnL v x y)
noncomputable def covW (v : Web) (x y : Nat) : Bool := decide (x < v.length) && decide (y < v.length) && decide ((x : Int) ∈ leanW v y) && decide ((leanW v y).filter (fun k => !decide (k = (x : Int))) = leanW v x)
section
variable {v : Web} (hp : plainW v = true) (hr : ringlessW v = true) {x y : Nat} (hc : covW v x y = true)
include hp
include hc
include hr
end
end DV
namespace DV
open PySem L2
end DV
namespace DV
open PySem L2
noncomputable def FkW (w : Web) (a m b : Nat) : Prop := a < w.length ∧ m < w.length ∧ b < w.length ∧ a ≠ b ∧ (a : Int) ∈ leanW w m ∧ (b : Int) ∈ leanW w m ∧ jn w a b = false
section
variable {v : Web} (hp : plainW v = true) (hr : ringlessW v = true) {x y : Nat} (hc : covW v x y = true)
include hp hr hc
end
structure AlikeW (u v : Web) : Prop where
  l : v.length = u.length
  j : ∀ a b, a < u.length → b < u.length → jn v a b = jn u a b
  f : ∀ a m b, FkW u a m b ↔ FkW v a m b
section
variable {u v : Web} (pu : plainW u = true) (ru : ringlessW u = true) (pv : plainW v = true) (rv : ringlessW v = true) (al : AlikeW u v)
include pu ru pv rv al
end
end DV
namespace DV
open PySem L2
section
variable {u : Web} (hp : plainW u = true) (hr : ringlessW u = true) {x y : Nat} (hc : covW u x y = true)
include hp hc
include hr
end
inductive PathW (u : Web) : List (Nat × Nat) → Web → Prop
  | nil : PathW u [] u
  | snoc {p : List (Nat × Nat)} {t : Web} {x y : Nat} : PathW u p t → covW t x y = true → PathW u (p ++ [(x, y)]) (turnW t x y)
theorem PathW.cons {u v : Web} {p : List (Nat × Nat)} {x y : Nat} (hc : covW u x y = true) (h : PathW (turnW u x y) p v) : PathW u ((x, y) :: p) v := by
  induction h with
  | nil => exact PathW.snoc (p := []) .nil hc
  | snoc _ hc' ih => exact PathW.snoc ih hc'
end DV
namespace DV
open PySem L2
noncomputable def fL (w : Web) : List (List Int) := sortT (forkA w)
section
variable {u v : Web} (pu : plainW u = true) (ru : ringlessW u = true) (pv : plainW v = true) (rv : ringlessW v = true)
include pu pv ru rv
end
end DV
namespace My
open PySem L2 DV
theorem fn0_ok {F : List D → Res D} {f : DS → Res (List D)} {δ : DS} {ds : List D} {r : Res D} (h : f δ = .ok ds) (hF : F ds = r) : cFn0 F f δ = r := by
  unfold cFn0
  rw [h]
  exact hF
theorem call_ok {F : List D → Res D} {f : DS → Res (List D)} {δ : DS} {ds : List D} {r : Res D} (h : f δ = .ok ds) (hF : F ds = r) : cCall F f δ = r := by
  unfold cCall
  rw [h]
  exact hF
theorem cons_ok {f : DS → Res D} {g : DS → Res (List D)} {δ : DS} {d : D} {ds : List D} (h : f δ = .ok d) (h2 : g δ = .ok ds) : cCons f g δ = .ok (d :: ds) := by
  rw [ev_cons, h, Res.bind_ok, h2]
  rfl
theorem bin_ok {g : D → D → Res D} {fa fb : DS → Res D} {δ : DS} {x y : D} {r : Res D} (h : fa δ = .ok x) (h2 : fb δ = .ok y) (h3 : g x y = r) : cBin g fa fb δ = r := by
  rw [ev_bin, h, Res.bind_ok, h2, Res.bind_ok, h3]
theorem seq_rs {g h : DS → Fl} {δ δ' : DS} {x : Exn} (h1 : g δ = .rs x δ') : cSeq g h δ = .rs x δ' := by
  unfold cSeq
  rw [h1]
  rfl
theorem drop_rs {f : DS → Res D} {δ : DS} {x : Exn} (h : f δ = .er x) : cDrop f δ = .rs x δ := by
  unfold cDrop
  rw [h]
  rfl
theorem lend_er {f : DS → Res D} {δ : DS} {i : Nat} {x : Exn} (h1 : obOk δ i = true) (h2 : f (fz i δ) = .er x) (h3 : x.pl = true) : lend i f δ = .er x := by
  unfold lend
  rw [if_pos h1, h2]
  dsimp only
  rw [if_pos h3]
theorem or_ff {t u : DS → Res Bool} {δ : DS} {r : Res Bool} (h : t δ = .ok false) (h2 : u δ = r) : cOrT t u δ = r := by
  rw [ev_orT, h]
  exact h2
theorem or_tt {t u : DS → Res Bool} {δ : DS} (h : t δ = .ok true) : cOrT t u δ = .ok true := by
  rw [ev_orT, h]
  rfl
theorem _root_.List.filter_true {α : Type} (l : List α) : (l.filter fun _ => true) = l := List.filter_eq_self.mpr fun _ _ => rfl
theorem all_bls (bs : List Bool) : gAll [.lst (bs.map D.bl)] = .ok (.bl (bs.all id)) := by
  unfold gAll gBls
  dsimp only
  rw [blsD_map]
noncomputable def xBR : Exn := ⟨"BadRow", [("word", .str "badrow")]⟩
noncomputable def xBM : Exn := ⟨"BadMany", [("word", .str "badmany")]⟩
noncomputable def xFull : Exn := ⟨"Full", [("word", .str "full")]⟩
noncomputable def xLess (n : Int) : Exn := ⟨"NoRows", [("there", .int n), ("word", .str "norows")]⟩
theorem okR_all : ∀ {r ss : List Int}, r.length = ss.length → okR r ss = (r.zip ss).all fun p => decide (0 ≤ p.1) && decide (p.1 < p.2)
  | [], [], _ => rfl
  | [], _ :: _, h => by cases h
  | _ :: _, [], h => by cases h
  | v :: r, s :: ss, h => by
    rw [okR, List.zip_cons_cons, List.all_cons, okR_all (by simpa using h)]
theorem between (a v b : Int) (δ : DS) (fa fv fb : DS → Res D) (h1 : fa δ = .ok (.int a)) (h2 : fv δ = .ok (.int v)) (h3 : fb δ = .ok (.int b)) : cChain oLe oLt fa fv fb δ = .ok (.bl (decide (a ≤ v) && decide (v < b))) := by
  unfold cChain
  rw [h1, Res.bind_ok, h2, Res.bind_ok]
  show (Res.bind (Res.ok (D.bl (decide (a ≤ v)))) _) = _
  rw [Res.bind_ok]
  by_cases e : a ≤ v
  · rw [decide_eq_true e]
    show (Res.bind (fb δ) fun z => oLt (.int v) z) = _
    rw [h3]
    rfl
  · rw [decide_eq_false e]
    rfl
theorem lookrow_er {ss vs : List Int} (h : okR vs ss = false) (hle : ss.length ≤ 6) (hvl : vs.length ≤ 20) : F_look_row [tI ss, tI vs] = .er xBR := by
  have l1 : ∀ a b : Option O, cCall gLen (cCons (cVar 1) cNil) [some (.im (tI ss)), some (.im (tI vs)), a, b] = .ok (.int (vs.length : Nat)) := fun a b => call_ok (cons_ok (d := tI vs) rfl rfl) (tI_len vs)
  have l0 : ∀ a b : Option O, cCall gLen (cCons (cVar 0) cNil) [some (.im (tI ss)), some (.im (tI vs)), a, b] = .ok (.int (ss.length : Nat)) := fun a b => call_ok (cons_ok (d := tI ss) rfl rfl) (tI_len ss)
  have raise : cRaise "BadRow" (fd1 "word" "badrow") cNil [some (.im (tI ss)), some (.im (tI vs)), none, none] = .rs xBR [some (.im (tI ss)), some (.im (tI vs)), none, none] := rfl
  show flR (g_look_row [some (.im (tI ss)), some (.im (tI vs)), none, none]) = _
  unfold g_look_row
  by_cases hl : vs.length = ss.length
  · rw [okR_all hl] at h
    have e1 : cTest (cBin oNe (cCall gLen (cCons (cVar 1) cNil)) (cCall gLen (cCons (cVar 0) cNil))) [some (.im (tI ss)), some (.im (tI vs)), none, none] = .ok false := by
      refine test_ok (bin_ok (l1 _ _) (l0 _ _) ?_)
      rw [oNe_int, hl]
      simp
    have hz : (vs.zip ss).length ≤ sizeLine := by rw [List.length_zip, sizeLine_eq]; omega
    have hc := lc_keep (δ := [some (.im (tI ss)), some (.im (tI vs)), none, none]) (vs := [2, 3]) (fi := cIt gZip (cCons (cVar 1) (cCons (cVar 0) cNil))) (b := bTup 2 (bCons (bName 2) (bCons (bName 3) bNil))) (t := cYes) (e := cChain oLe oLt (cC (.int 0)) (cVar 2) (cVar 3)) (fun p : Int × Int => D.tup [.int p.1, .int p.2]) (fun _ => true) (fun p => D.bl (decide (0 ≤ p.1) && decide (p.1 < p.2))) (vs.zip ss) (by
      exact congrArg Res.ok (pairs_zip vs ss)) hz fun p hp => ⟨[some (.im (tI ss)), some (.im (tI vs)), some (.im (.int p.1)), some (.im (.int p.2))], rfl, rfl, fun _ => between 0 p.1 p.2 _ _ _ _ rfl rfl rfl⟩
    have e2 : cCall gAll (cCons (cL (cLc [2, 3] (cIt gZip (cCons (cVar 1) (cCons (cVar 0) cNil))) (bTup 2 (bCons (bName 2) (bCons (bName 3) bNil))) cYes (cChain oLe oLt (cC (.int 0)) (cVar 2) (cVar 3)))) cNil) [some (.im (tI ss)), some (.im (tI vs)), none, none] = .ok (.bl false) := by
      refine call_ok (cons_ok (d := .lst (((vs.zip ss).map fun p => (decide (0 ≤ p.1) && decide (p.1 < p.2))).map D.bl)) ?_ rfl) ?_
      · rw [ev_L, hc, List.filter_true, List.map_map]
        rfl
      · rw [all_bls, List.all_map]
        exact congrArg (fun b => Res.ok (D.bl b)) h
    rw [if_t (or_ff e1 (not_ok (b := false) (test_ok e2))) raise]
    rfl
  · have e1 : cTest (cBin oNe (cCall gLen (cCons (cVar 1) cNil)) (cCall gLen (cCons (cVar 0) cNil))) [some (.im (tI ss)), some (.im (tI vs)), none, none] = .ok true := by
      refine test_ok (bin_ok (l1 _ _) (l0 _ _) ?_)
      rw [oNe_int]
      have : ¬ ((vs.length : Int) = (ss.length : Int)) := by omega
      simp [this]
    rw [if_t (or_tt e1) raise]
    rfl
section
variable {sz r : List Int} {ps : RP} {n : Int} (hle : sz.length ≤ 6)
include hle
theorem look_bad {δ : DS} (hr : okR r sz = false) (hrl : r.length ≤ 20) (h0 : δ[0]? = some (some (.tr true kT (tsT sz ps)))) (h1 : δ[1]? = some (some (.im (tI r)))) : cDrop (lend 0 (cFn0 F_look_row (cCons (cFld ["Tally"] "sizes" (cVar 0)) (cCons (cVar 1) cNil)))) δ = .rs xBR δ := by
  have ob : obOk δ 0 = true := by unfold obOk; rw [h0]; exact noSq_T sz ps
  have ef : fz 0 δ = δ.set 0 (some (.im (obT sz ps))) := by
    unfold fz
    rw [h0]
    show δ.set 0 (some (.im (T.nd kT (tsT sz ps)).d)) = _
    rw [tree_d]
  have hl : 0 < δ.length := (List.getElem?_eq_some_iff.mp h0).1
  refine drop_rs (lend_er ob ?_ rfl)
  rw [ef]
  refine fn0_ok (ds := [tI sz, tI r]) (cons_ok (d := tI sz) ?_ (cons_ok (d := tI r) ?_ rfl)) (lookrow_er hr hle hrl)
  · show (Res.bind (cVar 0 _) (oFld ["Tally"] "sizes")) = _
    rw [ev_var, List.getElem?_set_self hl]
    rfl
  · rw [ev_var, List.getElem?_set_ne (by decide), h1]
theorem look_good {δ : DS} (hr : okR r sz = true) (h0 : δ[0]? = some (some (.tr true kT (tsT sz ps)))) (h1 : δ[1]? = some (some (.im (tI r)))) : cDrop (lend 0 (cFn0 F_look_row (cCons (cFld ["Tally"] "sizes" (cVar 0)) (cCons (cVar 1) cNil)))) δ = .nx δ := by
  have ob : obOk δ 0 = true := by unfold obOk; rw [h0]; exact noSq_T sz ps
  have ef : fz 0 δ = δ.set 0 (some (.im (obT sz ps))) := by
    unfold fz
    rw [h0]
    show δ.set 0 (some (.im (T.nd kT (tsT sz ps)).d)) = _
    rw [tree_d]
  have hl : 0 < δ.length := (List.getElem?_eq_some_iff.mp h0).1
  refine drop_nx (d := .non) (lend_ok ob ?_ rfl)
  rw [ef]
  refine fn0_ok (ds := [tI sz, tI r]) (cons_ok (d := tI sz) ?_ (cons_ok (d := tI r) ?_ rfl)) (lookRow hle hr)
  · show (Res.bind (cVar 0 _) (oFld ["Tally"] "sizes")) = _
    rw [ev_var, List.getElem?_set_self hl]
    rfl
  · rw [ev_var, List.getElem?_set_ne (by decide), h1]
theorem put_bad (hr : okR r sz = false) (hrl : r.length ≤ 20) : F_Tally_put kT (tsT sz ps) [.non, tI r, .int n] = .er xBR (.nd kT (tsT sz ps)) := by
  show flM 0 (g_Tally_put [some (.tr true kT (tsT sz ps)), some (.im (tI r)), some (.im (.int n))]) = _
  unfold g_Tally_put
  rw [seq_rs (look_bad hle hr hrl rfl rfl)]
  rfl
theorem take_bad (hr : okR r sz = false) (hrl : r.length ≤ 20) : F_Tally_take kT (tsT sz ps) [.non, tI r, .int n] = .er xBR (.nd kT (tsT sz ps)) := by
  show flM 0 (g_Tally_take [some (.tr true kT (tsT sz ps)), some (.im (tI r)), some (.im (.int n)), none]) = _
  unfold g_Tally_take
  rw [seq_rs (look_bad hle hr hrl rfl rfl)]
  rfl
theorem few_t {δ : DS} (h2 : δ[2]? = some (some (.im (.int n)))) (hn : n < 1) : cIf (cTest (cBin oLt (cVar 2) (cC (.int 1)))) (cRaise "BadMany" (fd1 "word" "badmany") cNil) cNext δ = .rs xBM δ := by
  refine if_t (test_ok (bin_ok (x := .int n) (y := .int 1) (r := .ok (.bl true)) (by rw [ev_var, h2]) rfl ?_)) rfl
  show Res.ok (D.bl (decide (n < 1))) = _
  rw [decide_eq_true hn]
theorem few_f {δ : DS} (h2 : δ[2]? = some (some (.im (.int n)))) (hn : 1 ≤ n) : cIf (cTest (cBin oLt (cVar 2) (cC (.int 1)))) (cRaise "BadMany" (fd1 "word" "badmany") cNil) cNext δ = .nx δ := by
  refine if_f (test_ok (bin_ok (x := .int n) (y := .int 1) (r := .ok (.bl false)) (by rw [ev_var, h2]) rfl ?_)) rfl
  show Res.ok (D.bl (decide (n < 1))) = _
  rw [decide_eq_false (by omega)]
theorem put_few (hr : okR r sz = true) (hn : n < 1) : F_Tally_put kT (tsT sz ps) [.non, tI r, .int n] = .er xBM (.nd kT (tsT sz ps)) := by
  show flM 0 (g_Tally_put [some (.tr true kT (tsT sz ps)), some (.im (tI r)), some (.im (.int n))]) = _
  unfold g_Tally_put
  rw [seq_nx (look_good hle hr rfl rfl) (seq_rs (few_t hle rfl hn))]
  rfl
theorem take_few (hr : okR r sz = true) (hn : n < 1) : F_Tally_take kT (tsT sz ps) [.non, tI r, .int n] = .er xBM (.nd kT (tsT sz ps)) := by
  show flM 0 (g_Tally_take [some (.tr true kT (tsT sz ps)), some (.im (tI r)), some (.im (.int n)), none]) = _
  unfold g_Tally_take
  rw [seq_nx (look_good hle hr rfl rfl) (seq_rs (few_t hle rfl hn))]
  rfl
theorem put_full (hr : okR r sz = true) (hn : 1 ≤ n) (hd : (ps.map (·.1)).Nodup) (hz : ps.length ≤ sizeLine) (hs : 10000 < sumP (fun _ => true) ps + n) : F_Tally_put kT (tsT sz ps) [.non, tI r, .int n] = .er xFull (.nd kT (tsT sz ps)) := by
  have h2 := whole_ok (sz := sz) hd hz
  have l2 : lendT 0 (cTest (cBin oGt (cBin oAdd (cMth "Tally" "whole" F_Tally_whole [] (cVar 0) cNil) (cVar 2)) (cC (.int 10000)))) [some (.tr true kT (tsT sz ps)), some (.im (tI r)), some (.im (.int n))] = .ok true := by
    refine lendT_ok (noSq_T sz ps) ?_
    have ef : fz 0 [some (.tr true kT (tsT sz ps)), some (.im (tI r)), some (.im (.int n))] = [some (.im (obT sz ps)), some (.im (tI r)), some (.im (.int n))] := by rw [← tree_d]; rfl
    rw [ef]
    have h2' : F_Tally_whole [.ins "Tally" ["sizes", "known"] [tI sz, dP ps]] = _ := h2
    have q1 : ¬ ("whole" : Str) = "sizes" := by decide
    have q2 : ¬ ("whole" : Str) = "known" := by decide
    simp [obT, h2', q1, q2]
    omega
  have key : g_Tally_put [some (.tr true kT (tsT sz ps)), some (.im (tI r)), some (.im (.int n))] = .rs xFull [some (.tr true kT (tsT sz ps)), some (.im (tI r)), some (.im (.int n))] := by
    unfold g_Tally_put
    exact seq_nx (look_good hle hr rfl rfl) (seq_nx (few_f hle rfl hn) (seq_rs (if_t l2 rfl)))
  show flM 0 (g_Tally_put [some (.tr true kT (tsT sz ps)), some (.im (tI r)), some (.im (.int n))]) = _
  rw [key]
  rfl
theorem take_less (hr : okR r sz = true) (hn : 1 ≤ n) (hs : (getP r ps).getD 0 < n) : F_Tally_take kT (tsT sz ps) [.non, tI r, .int n] = .er (xLess ((getP r ps).getD 0)) (.nd kT (tsT sz ps)) := by
  have key : g_Tally_take [some (.tr true kT (tsT sz ps)), some (.im (tI r)), some (.im (.int n)), none] = .rs (xLess ((getP r ps).getD 0)) [some (.tr true kT (tsT sz ps)), some (.im (tI r)), some (.im (.int n)), some (.im (.int ((getP r ps).getD 0)))] := by
    unfold g_Tally_take
    refine take_pre hle hr hn _ _ (seq_rs (if_t (test_ok (b := true) ?_) rfl))
    show Res.ok (D.bl (decide ((getP r ps).getD 0 < n))) = _
    rw [decide_eq_true hs]
  show flM 0 (g_Tally_take [some (.tr true kT (tsT sz ps)), some (.im (tI r)), some (.im (.int n)), none]) = _
  rw [key]
  rfl
end
end My
namespace My
open PySem L2 DV
noncomputable abbrev tsK (ps : RP) : List T := ps.map fun p => T.im (D.int p.2)
noncomputable abbrev kD (ps : RP) : NK := .dt (keysP ps)
noncomputable def wordD (put : Bool) : Str := if put = true then "put" else "take"
noncomputable def deedD (put : Bool) (r : List Int) (n : Int) : D := .tup [.str (wordD put), tI r, .int n]
noncomputable def okD : D := .tup [.str "", .non]
noncomputable def fineB (put : Bool) (r : List Int) (n : Int) (sz : List Int) (ps : RP) : Bool :=
  okR r sz && (decide (1 ≤ n) && if put = true then decide (sumP (fun _ => true) ps + n ≤ 10000) else decide (n ≤ (getP r ps).getD 0))
noncomputable def dueD (put : Bool) (r : List Int) (n : Int) (sz : List Int) (ps : RP) : D :=
  if okR r sz = true then
    (if n < 1 then .tup [.str "badmany", .non]
     else if put = true then (if 10000 < sumP (fun _ => true) ps + n then .tup [.str "full", .non] else okD)
     else if (getP r ps).getD 0 < n then .tup [.str "norows", .int ((getP r ps).getD 0)] else okD)
  else .tup [.str "badrow", .non]
noncomputable def nextP (put : Bool) (r : List Int) (n : Int) (ps : RP) : RP := if put = true then bumpP r n ps else takeP r n ps
theorem okR_of : ∀ {r ss : List Int}, r.length = ss.length → (∀ i, i < ss.length → 0 ≤ r.getD i 0 ∧ r.getD i 0 < ss.getD i 0) → okR r ss = true
  | [], [], _, _ => rfl
  | [], _ :: _, h, _ => by cases h
  | _ :: _, [], h, _ => by cases h
  | v :: r, s :: ss, h, hh => by
    have h0 := hh 0 (by simp)
    simp at h0
    have ih := okR_of (r := r) (ss := ss) (by simpa using h) fun i hi => by
      have := hh (i + 1) (by simpa using hi)
      simpa using this
    rw [okR, ih, decide_eq_true h0.1, decide_eq_true h0.2]
    rfl
theorem okR_range {r ss : List Int} (hl : r.length = ss.length) : ((List.range r.length).all fun c => decide (0 ≤ r.getD c 0) && decide (r.getD c 0 < ss.getD c 0)) = okR r ss := by
  rw [Bool.eq_iff_iff, List.all_eq_true]
  constructor
  · intro h
    refine okR_of hl fun i hi => ?_
    have := h i (List.mem_range.mpr (by omega))
    rw [Bool.and_eq_true] at this
    exact ⟨of_decide_eq_true this.1, of_decide_eq_true this.2⟩
  · intro h i hi
    have hi := List.mem_range.mp hi
    obtain ⟨h1, h2⟩ := okR_at i h (by omega)
    rw [decide_eq_true h1, decide_eq_true h2]
    rfl
theorem get_known (ps : RP) (r : List Int) : oGetX (dP ps) (tI r) (.int 0) = .ok (.int ((getP r ps).getD 0)) := by
  unfold oGetX dP
  rw [keyD_tI]
  dsimp only
  unfold valsP
  rw [atK_P D.int]
  cases getP r ps <;> rfl
theorem and_ff {f g : DS → Res D} {δ : DS} (h : f δ = .ok (.bl false)) : cAndV f g δ = .ok (.bl false) := by
  rw [ev_andV, h]
  rfl
theorem and_tt {f g : DS → Res D} {δ : DS} {r : Res D} (h : f δ = .ok (.bl true)) (h2 : g δ = r) : cAndV f g δ = r := by
  rw [ev_andV, h]
  exact h2
theorem ifE {t : DS → Res Bool} {f g : DS → Res D} {δ : DS} {b : Bool} {x y : D} (ht : t δ = .ok b) (hf : f δ = .ok x) (hg : g δ = .ok y) : cIfE t f g δ = .ok (if b = true then x else y) := by
  unfold cIfE
  rw [ht]
  cases b
  · exact hg
  · exact hf
theorem strEq {x y : Str} (h1 : SeqAt.shaped (.str x) = true) (h2 : SeqAt.shaped (.str y) = true) : oEq (.str x) (.str y) = .ok (.bl (x == y)) := by
  show (if SeqAt.shaped (.str x) = true ∧ SeqAt.shaped (.str y) = true then Res.ok (D.bl (if false = true then _ else x == y)) else .no) = _
  rw [if_pos ⟨h1, h2⟩]
  rfl
theorem word_put (put : Bool) : oEq (.str (wordD put)) (.str "put") = .ok (.bl put) := by
  cases put
  · exact strEq (x := "take") (y := "put") (by decide +kernel) (by decide +kernel)
  · exact strEq (x := "put") (y := "put") (by decide +kernel) (by decide +kernel)
theorem due_ok {put : Bool} {r sz : List Int} {n : Int} {ps : RP} (hle : sz.length ≤ 6) (hrl : r.length ≤ 20) : F__law_tally_due [deedD put r n, tI sz, dP ps] = .ok (dueD put r n sz ps) := by
  let S : Option O → Option O → DS := fun g t => [some (.im (deedD put r n)), some (.im (tI sz)), some (.im (dP ps)), some (.im (.str (wordD put))), some (.im (tI r)), some (.im (.int n)), g, t, none]
  have s1 : cAsgG (bTup 3 (bCons (bName 3) (bCons (bName 4) (bCons (bName 5) bNil)))) (cVar 0) [some (.im (deedD put r n)), some (.im (tI sz)), some (.im (dP ps)), none, none, none, none, none, none] = .nx (S none none) := rfl
  have lr : ∀ g t, cCall gLen (cCons (cVar 4) cNil) (S g t) = .ok (.int (r.length : Nat)) := fun g t => call_ok (cons_ok (d := tI r) rfl rfl) (tI_len r)
  have ls : ∀ g t, cCall gLen (cCons (cVar 1) cNil) (S g t) = .ok (.int (sz.length : Nat)) := fun g t => call_ok (cons_ok (d := tI sz) rfl rfl) (tI_len sz)
  have good : (cAndV (cBin oEq (cCall gLen (cCons (cVar 4) cNil)) (cCall gLen (cCons (cVar 1) cNil))) (cCall gAll (cCons (cL (cLc [8] (cIt gRange1 (cCons (cCall gLen (cCons (cVar 4) cNil)) cNil)) (bName 8) cYes (cChain oLe oLt (cC (.int 0)) (cBin oIx (cVar 4) (cVar 8)) (cBin oIx (cVar 1) (cVar 8))))) cNil))) (S none none) = .ok (.bl (okR r sz)) := by
    by_cases hl : r.length = sz.length
    · refine and_tt (bin_ok (lr _ _) (ls _ _) ?_) ?_
      · rw [oEq_int, hl]
        simp
      · have hc := lc_keep (δ := S none none) (vs := [8]) (fi := cIt gRange1 (cCons (cCall gLen (cCons (cVar 4) cNil)) cNil)) (b := bName 8) (t := cYes) (e := cChain oLe oLt (cC (.int 0)) (cBin oIx (cVar 4) (cVar 8)) (cBin oIx (cVar 1) (cVar 8))) (fun i : Nat => D.int (i : Int)) (fun _ => true) (fun c => D.bl (decide (0 ≤ r.getD c 0) && decide (r.getD c 0 < sz.getD c 0))) (List.range r.length) (by
          show (Res.bind (cCons (cCall gLen (cCons (cVar 4) cNil)) cNil (S none none)) gRange1) = _
          rw [cons_ok (lr _ _) rfl]
          exact rg1 (by omega)) (by rw [List.length_range, sizeLine_eq]; omega) fun i hi => ⟨(S none none).set 8 (some (.im (.int (i : Int)))), rfl, rfl, fun _ => by
          have hi' := List.mem_range.mp hi
          exact between 0 (r.getD i 0) (sz.getD i 0) _ _ _ _ rfl (bin_ok rfl rfl (ix_val (vs := r) (by omega) (by omega))) (bin_ok rfl rfl (ix_val (vs := sz) (by omega) (by omega)))⟩
        refine call_ok (cons_ok (d := .lst (((List.range r.length).map fun c => (decide (0 ≤ r.getD c 0) && decide (r.getD c 0 < sz.getD c 0))).map D.bl)) ?_ rfl) ?_
        · rw [ev_L, hc, List.filter_true, List.map_map]
          rfl
        · rw [all_bls, List.all_map]
          exact congrArg (fun b => Res.ok (D.bl b)) (okR_range hl)
    · have hf : okR r sz = false := by
        cases e : okR r sz with
        | false => rfl
        | true => exact absurd (okR_len e) hl
      rw [hf]
      refine and_ff (bin_ok (lr _ _) (ls _ _) ?_)
      rw [oEq_int]
      have : ¬ ((r.length : Int) = (sz.length : Int)) := by omega
      rw [decide_eq_false this]
  have tst : cNotT (cTest (cVar 6)) (S (some (.im (.bl (okR r sz)))) none) = .ok (!okR r sz) := not_ok (test_ok rfl)
  have tup2 : ∀ (x : Str) (δ : DS), cTup (cCons (cC (.str x)) (cCons (cC .non) cNil)) δ = .ok (.tup [.str x, .non]) := fun _ _ => rfl
  show flR (g__law_tally_due [some (.im (deedD put r n)), some (.im (tI sz)), some (.im (dP ps)), none, none, none, none, none, none]) = _
  have key : g__law_tally_due [some (.im (deedD put r n)), some (.im (tI sz)), some (.im (dP ps)), none, none, none, none, none, none] = .rt (dueD put r n sz ps) := by
    unfold g__law_tally_due dueD
    refine seq_nx s1 (seq_nx (δ' := S (some (.im (.bl (okR r sz)))) none) (asg_nx good) ?_)
    by_cases hr : okR r sz = true
    · rw [if_pos hr]
      rw [hr] at tst ⊢
      refine seq_nx (if_f tst rfl) ?_
      by_cases hn : n < 1
      · rw [if_pos hn]
        refine seq_rt (if_t (test_ok (b := true) ?_) (ret_rt (tup2 _ _)))
        show Res.ok (D.bl (decide (n < 1))) = _
        rw [decide_eq_true hn]
      · rw [if_neg hn]
        refine seq_nx (if_f (test_ok (b := false) ?_) rfl) ?_
        · show Res.ok (D.bl (decide (n < 1))) = _
          rw [decide_eq_false hn]
        have hw : cTest (cBin oEq (cVar 3) (cC (.str "put"))) (S (some (.im (.bl true))) none) = .ok put := test_ok (bin_ok (x := .str (wordD put)) (y := .str "put") rfl rfl (word_put put))
        by_cases hp : put = true
        · subst hp
          rw [if_pos rfl]
          refine seq_rt (if_t hw (ret_rt ?_))
          have hs : cCall gSum (cCons (cL (cListVals (cVar 2))) cNil) (S (some (.im (.bl true))) none) = .ok (.int (sumP (fun _ => true) ps)) := by
            refine call_ok (cons_ok (d := .lst ((ps.map (·.2)).map D.int)) ?_ rfl) ((sum_ints _).trans (by rw [sumP_all]))
            rw [List.map_map]
            rfl
          have h1 : cTest (cBin oGt (cBin oAdd (cCall gSum (cCons (cL (cListVals (cVar 2))) cNil)) (cVar 5)) (cC (.int 10000))) (S (some (.im (.bl true))) none) = .ok (decide (10000 < sumP (fun _ => true) ps + n)) := test_ok (bin_ok (bin_ok hs (y := .int n) rfl rfl) (y := .int 10000) rfl rfl)
          refine (ifE h1 (tup2 _ _) (tup2 _ _)).trans ?_
          by_cases h2 : 10000 < sumP (fun _ => true) ps + n
          · rw [decide_eq_true h2, if_pos rfl, if_pos h2]
          · rw [decide_eq_false h2, if_neg Bool.false_ne_true, if_neg h2]
            rfl
        · rw [if_neg hp]
          have hp' : put = false := by simpa using hp
          subst hp'
          refine seq_nx (if_f hw rfl) ?_
          refine seq_nx (δ' := S (some (.im (.bl true))) (some (.im (.int ((getP r ps).getD 0))))) (asg_nx ?_) (ret_rt ?_)
          · show (Res.ok (dP ps)).bind _ = _
            rw [Res.bind_ok]
            exact get_known ps r
          · have h1 : cTest (cBin oLt (cVar 7) (cVar 5)) (S (some (.im (.bl true))) (some (.im (.int ((getP r ps).getD 0))))) = .ok (decide ((getP r ps).getD 0 < n)) := test_ok rfl
            refine (ifE h1 (x := .tup [.str "norows", .int ((getP r ps).getD 0)]) rfl (tup2 _ _)).trans ?_
            by_cases h2 : (getP r ps).getD 0 < n
            · rw [decide_eq_true h2, if_pos rfl, if_pos h2]
            · rw [decide_eq_false h2, if_neg Bool.false_ne_true, if_neg h2]
              rfl
    · rw [if_neg hr]
      have hr' : okR r sz = false := by simpa using hr
      rw [hr'] at tst ⊢
      exact seq_rt (if_t tst (ret_rt (tup2 _ _)))
  rw [key]
  rfl
end My
namespace My
open PySem L2 DV
structure Inv (sz : List Int) (ps : RP) : Prop where
  nd : (ps.map (·.1)).Nodup
  ok : ∀ p ∈ ps, okR p.1 sz = true
  pos : ∀ p ∈ ps, 1 ≤ p.2
  le : sumP (fun _ => true) ps ≤ 10000
theorem sum_len : ∀ {ps : RP}, (∀ p ∈ ps, 1 ≤ p.2) → (ps.length : Int) ≤ sumP (fun _ => true) ps
  | [], _ => by simp [sumP]
  | p :: ps, h => by
    have h1 := h p (by simp)
    have ih := sum_len (ps := ps) fun q hq => h q (by simp [hq])
    rw [sumP_all] at ih ⊢
    rw [List.map_cons, List.sum_cons, List.length_cons]
    omega
theorem Inv.len {sz : List Int} {ps : RP} (I : Inv sz ps) : ps.length ≤ 10000 := by
  have := sum_len I.pos
  have := I.le
  omega
theorem delP_setP (r : List Int) (x : Int) : ∀ ps : RP, delP r (setP r x ps) = delP r ps
  | [] => by simp [setP, delP]
  | p :: ps => by
    have ih := delP_setP r x ps
    unfold delP at ih ⊢
    rw [setP]
    by_cases e : p.1 = r
    · rw [if_pos e, List.filter_cons, List.filter_cons, if_neg (by simp [e]), if_neg (by simp [e])]
    · rw [if_neg e, List.filter_cons, List.filter_cons, if_pos (by simpa using e), if_pos (by simpa using e), ih]
theorem getP_in {r : List Int} {x : Int} : ∀ {ps : RP}, getP r ps = some x → (r, x) ∈ ps
  | [], h => by cases h
  | p :: ps, h => by
    rw [getP] at h
    by_cases e : p.1 = r
    · rw [if_pos e] at h
      cases h
      rw [← e]
      simp
    · rw [if_neg e] at h
      exact List.mem_cons_of_mem _ (getP_in h)
theorem sum_bump' (r : List Int) (n : Int) : ∀ ps : RP, sumP (fun _ => true) (bumpP r n ps) = sumP (fun _ => true) ps + n
  | [] => by simp [bumpP, sumP]
  | p :: ps => by
    have ih := sum_bump' r n ps
    rw [sumP_all] at ih ⊢
    rw [sumP_all] at ih ⊢
    rw [bumpP]
    by_cases e : p.1 = r
    · rw [if_pos e, List.map_cons, List.sum_cons, List.map_cons, List.sum_cons]
      show p.2 + n + _ = _
      omega
    · rw [if_neg e, List.map_cons, List.sum_cons, List.map_cons, List.sum_cons, ih]
      omega
theorem bump_mem {r : List Int} {n : Int} : ∀ {ps : RP} {p : List Int × Int}, p ∈ bumpP r n ps → p = (r, n) ∨ (∃ q ∈ ps, q.1 = r ∧ p = (r, q.2 + n)) ∨ p ∈ ps
  | [], p, h => by
    rw [bumpP, List.mem_singleton] at h
    exact .inl h
  | q :: ps, p, h => by
    rw [bumpP] at h
    by_cases e : q.1 = r
    · rw [if_pos e] at h
      rcases List.mem_cons.mp h with h | h
      · exact .inr (.inl ⟨q, by simp, e, by rw [h, e]⟩)
      · exact .inr (.inr (List.mem_cons_of_mem _ h))
    · rw [if_neg e] at h
      rcases List.mem_cons.mp h with h | h
      · exact .inr (.inr (by rw [h]; simp))
      · rcases bump_mem h with h | ⟨q', h1, h2⟩ | h
        · exact .inl h
        · exact .inr (.inl ⟨q', List.mem_cons_of_mem _ h1, h2⟩)
        · exact .inr (.inr (List.mem_cons_of_mem _ h))
theorem set_mem {r : List Int} {x : Int} : ∀ {ps : RP} {p : List Int × Int}, p ∈ setP r x ps → p = (r, x) ∨ p ∈ ps
  | [], p, h => by
    rw [setP, List.mem_singleton] at h
    exact .inl h
  | q :: ps, p, h => by
    rw [setP] at h
    by_cases e : q.1 = r
    · rw [if_pos e] at h
      rcases List.mem_cons.mp h with h | h
      · exact .inl (by rw [h, ← e])
      · exact .inr (List.mem_cons_of_mem _ h)
    · rw [if_neg e] at h
      rcases List.mem_cons.mp h with h | h
      · exact .inr (by rw [h]; simp)
      · exact (set_mem h).imp id fun h => List.mem_cons_of_mem _ h
theorem sum_set {r : List Int} {x y : Int} : ∀ {ps : RP}, getP r ps = some y → sumP (fun _ => true) (setP r x ps) = sumP (fun _ => true) ps - y + x
  | [], h => by cases h
  | p :: ps, h => by
    rw [getP] at h
    rw [sumP_all, sumP_all, setP]
    by_cases e : p.1 = r
    · rw [if_pos e] at h
      cases h
      rw [if_pos e, List.map_cons, List.sum_cons, List.map_cons, List.sum_cons]
      show x + _ = _
      omega
    · rw [if_neg e] at h
      have ih := sum_set (x := x) h
      rw [sumP_all, sumP_all] at ih
      rw [if_neg e, List.map_cons, List.sum_cons, List.map_cons, List.sum_cons, ih]
      omega
theorem sum_del (r : List Int) : ∀ {ps : RP}, (∀ p ∈ ps, 1 ≤ p.2) → sumP (fun _ => true) (delP r ps) ≤ sumP (fun _ => true) ps
  | [], _ => Int.le_refl _
  | p :: ps, h => by
    have h1 := h p (by simp)
    have ih := sum_del r (ps := ps) fun q hq => h q (by simp [hq])
    rw [sumP_all, sumP_all] at ih ⊢
    unfold delP at ih ⊢
    rw [List.filter_cons]
    split
    · rw [List.map_cons, List.sum_cons, List.map_cons, List.sum_cons]
      omega
    · rw [List.map_cons, List.sum_cons]
      omega
theorem take_eq {r : List Int} {n : Int} (ps : RP) : takeP r n ps = if (getP r ps).getD 0 = n then delP r ps else setP r ((getP r ps).getD 0 - n) ps := by
  unfold takeP
  rw [delP_setP]
theorem Inv.next {put : Bool} {r sz : List Int} {n : Int} {ps : RP} (I : Inv sz ps) (h : fineB put r n sz ps = true) : Inv sz (nextP put r n ps) := by
  unfold fineB at h
  rw [Bool.and_eq_true, Bool.and_eq_true] at h
  obtain ⟨hr, hn, hs⟩ := h
  have hn := of_decide_eq_true hn
  unfold nextP
  cases put with
  | true =>
    rw [if_pos rfl] at hs ⊢
    have hs := of_decide_eq_true hs
    refine ⟨bump_nodup I.nd, fun p hp => ?_, fun p hp => ?_, by rw [sum_bump']; exact hs⟩
    · rcases bump_mem hp with rfl | ⟨q, _, _, rfl⟩ | h
      · exact hr
      · exact hr
      · exact I.ok p h
    · rcases bump_mem hp with rfl | ⟨q, hq, _, rfl⟩ | h
      · exact hn
      · have := I.pos q hq
        show 1 ≤ q.2 + n
        omega
      · exact I.pos p h
  | false =>
    rw [if_neg Bool.false_ne_true] at hs ⊢
    have hs := of_decide_eq_true hs
    obtain ⟨y, hy⟩ : ∃ y, getP r ps = some y := by
      cases e : getP r ps with
      | none => rw [e] at hs; exact absurd hs (by simp; omega)
      | some y => exact ⟨y, rfl⟩
    have hin := getP_in hy
    have hk : r ∈ ps.map (·.1) := List.mem_map.mpr ⟨_, hin, rfl⟩
    rw [take_eq, hy]
    rw [hy] at hs
    have hs : n ≤ y := hs
    show Inv sz (if y = n then delP r ps else setP r (y - n) ps)
    split
    · refine ⟨?_, fun p hp => I.ok p (List.mem_filter.mp hp).1, fun p hp => I.pos p (List.mem_filter.mp hp).1, Int.le_trans (sum_del r I.pos) I.le⟩
      exact List.Nodup.sublist (List.Sublist.map _ List.filter_sublist) I.nd
    · rename_i hne
      refine ⟨by rw [set_keys hk]; exact I.nd, fun p hp => ?_, fun p hp => ?_, ?_⟩
      · rcases set_mem hp with rfl | h
        · exact hr
        · exact I.ok p h
      · rcases set_mem hp with rfl | h
        · show 1 ≤ y - n
          omega
        · exact I.pos p h
      · rw [sum_set hy]
        have := I.le
        omega
theorem due_fine {put : Bool} {r sz : List Int} {n : Int} {ps : RP} (h : fineB put r n sz ps = true) : dueD put r n sz ps = okD := by
  unfold fineB at h
  rw [Bool.and_eq_true, Bool.and_eq_true] at h
  obtain ⟨hr, hn, hs⟩ := h
  have hn := of_decide_eq_true hn
  unfold dueD
  rw [if_pos hr, if_neg (by omega)]
  cases put with
  | true =>
    rw [if_pos rfl] at hs ⊢
    have hs := of_decide_eq_true hs
    rw [if_neg (by omega)]
  | false =>
    rw [if_neg Bool.false_ne_true] at hs ⊢
    have hs := of_decide_eq_true hs
    rw [if_neg (by omega)]
theorem due_not {put : Bool} {r sz : List Int} {n : Int} {ps : RP} (h : fineB put r n sz ps = false) : ∃ (w : Str) (d : D), dueD put r n sz ps = .tup [.str w, d] ∧ (w == "") = false ∧ SeqAt.shaped (.str w) = true := by
  unfold fineB at h
  unfold dueD
  have q : ∀ w : Str, w ∈ (["badmany", "full", "norows", "badrow"] : List Str) → (w == "") = false ∧ SeqAt.shaped (.str w) = true := by decide +kernel
  by_cases hr : okR r sz = true
  · rw [if_pos hr]
    rw [hr, Bool.true_and] at h
    by_cases hn : n < 1
    · rw [if_pos hn]
      exact ⟨_, _, rfl, q _ (by simp)⟩
    · rw [if_neg hn]
      rw [decide_eq_true (show 1 ≤ n by omega), Bool.true_and] at h
      cases put with
      | true =>
        rw [if_pos rfl] at h ⊢
        have h := of_decide_eq_false h
        rw [if_pos (by omega)]
        exact ⟨_, _, rfl, q _ (by simp)⟩
      | false =>
        rw [if_neg Bool.false_ne_true] at h ⊢
        have h := of_decide_eq_false h
        rw [if_pos (by omega)]
        exact ⟨_, _, rfl, q _ (by simp)⟩
  · rw [if_neg hr]
    exact ⟨_, _, rfl, q _ (by simp)⟩
end My
namespace My
open PySem L2 DV
noncomputable def outF (R : MR) (δ : DS) (i : Nat) : Fl := match R with
  | .ok _ t => .nx (δ.set i (some (O.ofM true t)))
  | .er x t => .rs x (δ.set i (some (O.ofM true t)))
  | .no => .no
theorem ownA {δ : DS} {m : Str} {F : NK → List T → List D → MR} {fs : DS → Res (List D)} {dd ds : List D} {sz : List Int} {ps : RP} {R : MR} (h : δ[0]? = some (some (.tr true kT (tsT sz ps)))) (hm : m ∉ (["sizes", "known"] : List Str)) (hf : fs δ = .ok ds) (hF : F kT (tsT sz ps) (.non :: (ds ++ dd)) = R) :
    cDropM (cOwnM 0 "Tally" m F dd fs) δ = outF R δ 0 := by
  have ha : asT δ 0 = some (true, kT, tsT sz ps) := by unfold asT; rw [h]
  unfold cDropM cOwnM
  rw [ha]
  dsimp only
  rw [if_pos ⟨rfl, hm⟩, hf]
  show stM (outM δ 0 true (F kT (tsT sz ps) (.non :: (ds ++ dd)))) _ = _
  rw [hF]
  cases R <;> rfl
theorem w1 : ("put" : Str) ∉ (["sizes", "known"] : List Str) := by decide
theorem w2 : ("take" : Str) ∉ (["sizes", "known"] : List Str) := by decide
theorem w3 : ("rows" : Str) ∉ (["sizes", "known"] : List Str) := by decide
noncomputable def deedR (put : Bool) (r : List Int) (n : Int) (sz : List Int) (ps : RP) : MR := if put = true then F_Tally_put kT (tsT sz ps) [.non, tI r, .int n] else F_Tally_take kT (tsT sz ps) [.non, tI r, .int n]
section
variable {put : Bool} {r sz : List Int} {n : Int} {ps : RP} (I : Inv sz ps) (hle : sz.length ≤ 6) (hrl : r.length ≤ 20)
include I hle hrl
theorem deed_fine (h : fineB put r n sz ps = true) : deedR put r n sz ps = .ok .non (.nd kT (tsT sz (nextP put r n ps))) := by
  unfold fineB at h
  rw [Bool.and_eq_true, Bool.and_eq_true] at h
  obtain ⟨hr, hn, hs⟩ := h
  have hn := of_decide_eq_true hn
  have hz : ps.length < sizeLine := by have := I.len; rw [sizeLine_eq]; omega
  unfold deedR nextP
  cases put with
  | true =>
    rw [if_pos rfl] at hs ⊢
    exact put_okN hn hle hr I.nd hz (of_decide_eq_true hs)
  | false =>
    rw [if_neg Bool.false_ne_true] at hs ⊢
    exact take_ok hle hr hn I.nd hz (of_decide_eq_true hs)
noncomputable def hands : Clauses := [(tabP [("BadSizes", false), ("BadRow", false), ("BadMany", false), ("Full", false), ("NoRows", true)], 5, (fun x δ => stE ((fun x => cTup ((fun x => cCons ((fun x _ => fldR "word" x) x) ((fun x => cCons ((fun x _ => fldR "there" x) x) ((fun _ => cNil) x)) x)) x)) x δ) δ fun z => .ro z δ)), (tabP [("BadSizes", false), ("BadRow", true), ("BadMany", true), ("Full", true), ("NoRows", false)], 5, (fun x δ => stE ((fun x => cTup ((fun x => cCons ((fun x _ => fldR "word" x) x) ((fun x => cCons ((fun _ => cC .non) x) ((fun _ => cNil) x)) x)) x)) x δ) δ fun z => .ro z δ))]
omit hle hrl I in
theorem pick_1 (w c : Str) (hc : c ∈ (["BadRow", "BadMany", "Full"] : List Str)) {δ : DS} (h5 : 5 < δ.length) : cPick hands ⟨c, [("word", .str w)]⟩ δ = .ro (.tup [.str w, .non]) (δ.set 5 none) := by
  have t1 : tabP [("BadSizes", false), ("BadRow", false), ("BadMany", false), ("Full", false), ("NoRows", true)] c = some false := by
    simp only [List.mem_cons, List.not_mem_nil, or_false] at hc
    rcases hc with rfl | rfl | rfl <;> decide
  have t2 : tabP [("BadSizes", false), ("BadRow", true), ("BadMany", true), ("Full", true), ("NoRows", false)] c = some true := by
    simp only [List.mem_cons, List.not_mem_nil, or_false] at hc
    rcases hc with rfl | rfl | rfl <;> decide
  unfold hands cPick
  rw [t1]
  unfold cPick
  rw [t2]
  dsimp only
  rw [if_pos h5]
  rfl
omit hle hrl I in
theorem pick_2 (n : Int) {δ : DS} (h5 : 5 < δ.length) : cPick hands (xLess n) δ = .ro (.tup [.str "norows", .int n]) (δ.set 5 none) := by
  have t1 : tabP [("BadSizes", false), ("BadRow", false), ("BadMany", false), ("Full", false), ("NoRows", true)] (xLess n).cls = some true := by
    show tabP [("BadSizes", false), ("BadRow", false), ("BadMany", false), ("Full", false), ("NoRows", true)] "NoRows" = some true
    decide
  unfold hands cPick
  rw [t1]
  dsimp only
  rw [if_pos h5]
  rfl
theorem deed_not (h : fineB put r n sz ps = false) : ∃ x, deedR put r n sz ps = .er x (.nd kT (tsT sz ps)) ∧ ∀ δ : DS, 5 < δ.length → cPick hands x δ = .ro (dueD put r n sz ps) (δ.set 5 none) := by
  have hz : ps.length ≤ sizeLine := by have := I.len; rw [sizeLine_eq]; omega
  unfold fineB at h
  unfold dueD deedR
  by_cases hr : okR r sz = true
  · rw [if_pos hr]
    rw [hr, Bool.true_and] at h
    by_cases hn : n < 1
    · rw [if_pos hn]
      refine ⟨xBM, ?_, fun δ h5 => pick_1 "badmany" "BadMany" (by simp) h5⟩
      cases put with
      | true => rw [if_pos rfl]; exact put_few hle hr hn
      | false => rw [if_neg Bool.false_ne_true]; exact take_few hle hr hn
    · rw [if_neg hn]
      rw [decide_eq_true (show 1 ≤ n by omega), Bool.true_and] at h
      cases put with
      | true =>
        rw [if_pos rfl] at h ⊢
        have h := of_decide_eq_false h
        rw [if_pos rfl, if_pos (show 10000 < sumP (fun _ => true) ps + n by omega)]
        exact ⟨xFull, put_full hle hr (by omega) I.nd hz (by omega), fun δ h5 => pick_1 "full" "Full" (by simp) h5⟩
      | false =>
        rw [if_neg Bool.false_ne_true] at h ⊢
        have h := of_decide_eq_false h
        rw [if_neg Bool.false_ne_true, if_pos (show (getP r ps).getD 0 < n by omega)]
        exact ⟨xLess ((getP r ps).getD 0), take_less hle hr (by omega) (by omega), fun δ h5 => pick_2 _ h5⟩
  · rw [if_neg hr]
    have hr' : okR r sz = false := by simpa using hr
    refine ⟨xBR, ?_, fun δ h5 => pick_1 "badrow" "BadRow" (by simp) h5⟩
    cases put with
    | true => rw [if_pos rfl]; exact put_bad hle hr' hrl
    | false => rw [if_neg Bool.false_ne_true]; exact take_bad hle hr' hrl
theorem done_ok : F__law_done kT (tsT sz ps) [.non, deedD put r n] = .ok (dueD put r n sz ps) (.nd kT (tsT sz (if fineB put r n sz ps = true then nextP put r n ps else ps))) := by
  let S : RP → DS := fun q => [some (.tr true kT (tsT sz q)), some (.im (deedD put r n)), some (.im (.str (wordD put))), some (.im (tI r)), some (.im (.int n)), none]
  have s1 : cAsgG (bTup 3 (bCons (bName 2) (bCons (bName 3) (bCons (bName 4) bNil)))) (cVar 1) [some (.tr true kT (tsT sz ps)), some (.im (deedD put r n)), none, none, none, none] = .nx (S ps) := rfl
  have hw : cTest (cBin oEq (cVar 2) (cC (.str "put"))) (S ps) = .ok put := test_ok (bin_ok (x := .str (wordD put)) (y := .str "put") rfl rfl (word_put put))
  have h1 : cTest (cBin oEq (cVar 4) (cC (.int 1))) (S ps) = .ok (decide (n = 1)) := test_ok (bin_ok (x := .int n) (y := .int 1) rfl rfl (oEq_int n 1))
  have body : (cIf (cAndT (cTest (cBin oEq (cVar 4) (cC (.int 1)))) (cTest (cBin oEq (cVar 2) (cC (.str "put"))))) (cDropM (cOwnM 0 "Tally" "put" F_Tally_put [(.int 1)] (cCons (cVar 3) cNil))) (cIf (cTest (cBin oEq (cVar 2) (cC (.str "put")))) (cDropM (cOwnM 0 "Tally" "put" F_Tally_put [] (cCons (cVar 3) (cCons (cVar 4) cNil)))) (cDropM (cOwnM 0 "Tally" "take" F_Tally_take [] (cCons (cVar 3) (cCons (cVar 4) cNil)))))) (S ps) = outF (deedR put r n sz ps) (S ps) 0 := by
    have two : cCons (cVar 3) (cCons (cVar 4) cNil) (S ps) = .ok [tI r, .int n] := rfl
    have rest : (cIf (cTest (cBin oEq (cVar 2) (cC (.str "put")))) (cDropM (cOwnM 0 "Tally" "put" F_Tally_put [] (cCons (cVar 3) (cCons (cVar 4) cNil)))) (cDropM (cOwnM 0 "Tally" "take" F_Tally_take [] (cCons (cVar 3) (cCons (cVar 4) cNil))))) (S ps) = outF (deedR put r n sz ps) (S ps) 0 := by
      cases put with
      | true => exact if_t hw (ownA rfl w1 two rfl)
      | false => exact if_f hw (ownA rfl w2 two rfl)
    by_cases hn : n = 1
    · cases put with
      | true =>
        refine if_t ?_ (ownA (ds := [tI r]) rfl w1 rfl (by rw [hn]; rfl))
        rw [ev_andT, h1, decide_eq_true hn]
        exact hw
      | false =>
        refine if_f ?_ rest
        rw [ev_andT, h1, decide_eq_true hn]
        exact hw
    · refine if_f ?_ rest
      rw [ev_andT, h1, decide_eq_false hn]
      rfl
  show flM 0 (g__law_done [some (.tr true kT (tsT sz ps)), some (.im (deedD put r n)), none, none, none, none]) = _
  unfold g__law_done
  by_cases hf : fineB put r n sz ps = true
  · have hb : ∀ hs, cTry (cIf (cAndT (cTest (cBin oEq (cVar 4) (cC (.int 1)))) (cTest (cBin oEq (cVar 2) (cC (.str "put"))))) (cDropM (cOwnM 0 "Tally" "put" F_Tally_put [(.int 1)] (cCons (cVar 3) cNil))) (cIf (cTest (cBin oEq (cVar 2) (cC (.str "put")))) (cDropM (cOwnM 0 "Tally" "put" F_Tally_put [] (cCons (cVar 3) (cCons (cVar 4) cNil)))) (cDropM (cOwnM 0 "Tally" "take" F_Tally_take [] (cCons (cVar 3) (cCons (cVar 4) cNil)))))) hs (S ps) = .nx (S (nextP put r n ps)) := fun hs => by
      unfold cTry
      rw [body, deed_fine I hle hrl hf]
      rfl
    rw [if_pos hf, due_fine hf, seq_nx s1 (seq_nx (hb _) rfl)]
    rfl
  · have hf' : fineB put r n sz ps = false := by simpa using hf
    obtain ⟨x, e1, e2⟩ := deed_not I hle hrl hf'
    have hb : cTry (cIf (cAndT (cTest (cBin oEq (cVar 4) (cC (.int 1)))) (cTest (cBin oEq (cVar 2) (cC (.str "put"))))) (cDropM (cOwnM 0 "Tally" "put" F_Tally_put [(.int 1)] (cCons (cVar 3) cNil))) (cIf (cTest (cBin oEq (cVar 2) (cC (.str "put")))) (cDropM (cOwnM 0 "Tally" "put" F_Tally_put [] (cCons (cVar 3) (cCons (cVar 4) cNil)))) (cDropM (cOwnM 0 "Tally" "take" F_Tally_take [] (cCons (cVar 3) (cCons (cVar 4) cNil)))))) hands (S ps) = .ro (dueD put r n sz ps) (S ps) := by
      unfold cTry
      rw [body, e1]
      exact e2 _ (by show 5 < 6; decide)
    have key : (cSeq (cAsgG (bTup 3 (bCons (bName 2) (bCons (bName 3) (bCons (bName 4) bNil)))) (cVar 1)) (cSeq (cTry (cIf (cAndT (cTest (cBin oEq (cVar 4) (cC (.int 1)))) (cTest (cBin oEq (cVar 2) (cC (.str "put"))))) (cDropM (cOwnM 0 "Tally" "put" F_Tally_put [(.int 1)] (cCons (cVar 3) cNil))) (cIf (cTest (cBin oEq (cVar 2) (cC (.str "put")))) (cDropM (cOwnM 0 "Tally" "put" F_Tally_put [] (cCons (cVar 3) (cCons (cVar 4) cNil)))) (cDropM (cOwnM 0 "Tally" "take" F_Tally_take [] (cCons (cVar 3) (cCons (cVar 4) cNil)))))) hands) (cRetM (cem (cTup (cCons (cC (.str "")) (cCons (cC .non) cNil))))))) [some (.tr true kT (tsT sz ps)), some (.im (deedD put r n)), none, none, none, none] = .ro (dueD put r n sz ps) (S ps) := by
      rw [seq_nx s1 rfl]
      unfold cSeq
      rw [hb]
      rfl
    rw [if_neg hf]
    exact (congrArg (flM 0) key).trans rfl
end
theorem noSq_K (ps : RP) : (T.nd (kD ps) (tsK ps)).noSq = true := by
  rw [T.noSq, noSq_ims]
  rfl
theorem next_ok {put : Bool} {r sz : List Int} {n : Int} {ps : RP} (I : Inv sz ps) (h : fineB put r n sz ps = true) : F__law_tally_next (kD ps) (tsK ps) [deedD put r n, .non] = .ok .non (.nd (kD (nextP put r n ps)) (tsK (nextP put r n ps))) := by
  have h0 := h
  unfold fineB at h
  rw [Bool.and_eq_true, Bool.and_eq_true] at h
  obtain ⟨hr, hn, hs⟩ := h
  have hn := of_decide_eq_true hn
  let g := (getP r ps).getD 0
  let S : RP → Option O → DS := fun q l => [some (.im (deedD put r n)), some (.tr true (kD q) (tsK q)), some (.im (.str (wordD put))), some (.im (tI r)), some (.im (.int n)), l]
  let left : Int := if put = true then g + n else g - n
  have s1 : cAsgG (bTup 3 (bCons (bName 2) (bCons (bName 3) (bCons (bName 4) bNil)))) (cVar 0) [some (.im (deedD put r n)), some (.tr true (kD ps) (tsK ps)), none, none, none, none] = .nx (S ps none) := rfl
  have s2 : cAsg 5 (lend 1 (cBin oAdd (cGetX (cVar 1) (cVar 3) (cC (.int 0))) (cIfE (cTest (cBin oEq (cVar 2) (cC (.str "put")))) (cVar 4) (cUn oNeg (cVar 4))))) (S ps none) = .nx (S ps (some (.im (.int left)))) := by
    refine asg_nx (lend_ok (noSq_K ps) ?_ rfl)
    have ef : fz 1 (S ps none) = [some (.im (deedD put r n)), some (.im (dP ps)), some (.im (.str (wordD put))), some (.im (tI r)), some (.im (.int n)), none] := by rw [← tree_known]; rfl
    rw [ef]
    have hw : cTest (cBin oEq (cVar 2) (cC (.str "put"))) [some (.im (deedD put r n)), some (.im (dP ps)), some (.im (.str (wordD put))), some (.im (tI r)), some (.im (.int n)), none] = .ok put := test_ok (bin_ok (x := .str (wordD put)) (y := .str "put") rfl rfl (word_put put))
    refine bin_ok (x := .int g) ?_ (ifE hw (x := .int n) (y := .int (-n)) rfl rfl) ?_
    · show (Res.ok (dP ps)).bind _ = _
      rw [Res.bind_ok]
      exact get_known ps r
    · cases put
      · show Res.ok (D.int (g + -n)) = Res.ok (D.int (g - n))
        rw [Int.sub_eq_add_neg]
      · rfl
  have hlen : (keysP ps).length < sizeLine := by unfold keysP; rw [List.length_map]; have := I.len; rw [sizeLine_eq]; omega
  have put_nx : ∀ x : Int, cTputX (cpVar 1) (cVar 3) (cVar 5) (S ps (some (.im (.int x)))) = .nx (S (setP r x ps) (some (.im (.int x)))) := fun x => by
    unfold cTputX
    have l3 : cVar 5 (S ps (some (.im (.int x)))) = .ok (.int x) := rfl
    have hp : cpVar 1 (S ps (some (.im (.int x)))) = .ok (1, []) := rfl
    have hv : cVar 3 (S ps (some (.im (.int x)))) = .ok (tI r) := rfl
    rw [l3, stE_ok, hp, stE_ok, hv, stE_ok]
    have hnd : nodeAt (S ps (some (.im (.int x)))) 1 [] = some (.nd (kD ps) (tsK ps)) := rfl
    simp only [hnd, keyD_tI, hlen, if_true]
    have e3 : keysPut (keysP ps) (kR r) = keysP (setP r x ps) := (setP_keys _ _ _).symm
    have e4 : tsPut (keysP ps) (tsK ps) (kR r) (.int x) = tsK (setP r x ps) := (setP_ts _ _ _ I.nd).symm
    rw [e3, e4]
    rfl
  have pop_nx : ∀ x : Int, r ∈ ps.map (·.1) → cTpopX (cpVar 1) (cVar 3) (S ps (some (.im (.int x)))) = .nx (S (delP r ps) (some (.im (.int x)))) := fun x hk => by
    unfold cTpopX
    have hp : cpVar 1 (S ps (some (.im (.int x)))) = .ok (1, []) := rfl
    have hv : cVar 3 (S ps (some (.im (.int x)))) = .ok (tI r) := rfl
    rw [hp, stE_ok]
    have hnd : nodeAt (S ps (some (.im (.int x)))) 1 [] = some (.nd (kD ps) (tsK ps)) := rfl
    simp only [hnd, hv, stE_ok, keyD_tI]
    have hin : kR r ∈ keysP ps := by
      obtain ⟨p, hpp, e⟩ := List.mem_map.mp hk
      rw [← e]
      exact List.mem_map_of_mem (f := fun p : List Int × Int => kR p.1) hpp
    rw [if_pos hin, delP_keys, delP_at fun i => T.im (D.int i)]
    rfl
  have cmp : ∀ x : Int, cTest (cBin oGt (cVar 5) (cC (.int 0))) (S ps (some (.im (.int x)))) = .ok (decide (0 < x)) := fun x => test_ok rfl
  show flM 1 (g__law_tally_next [some (.im (deedD put r n)), some (.tr true (kD ps) (tsK ps)), none, none, none, none]) = _
  have key : ∃ l, g__law_tally_next [some (.im (deedD put r n)), some (.tr true (kD ps) (tsK ps)), none, none, none, none] = .nx (S (nextP put r n ps) l) := by
    unfold g__law_tally_next
    refine ⟨some (.im (.int left)), seq_nx s1 (seq_nx s2 ?_)⟩
    have g0 : 0 ≤ g := by
      show 0 ≤ (getP r ps).getD 0
      cases e : getP r ps with
      | none => exact Int.le_refl _
      | some y => have := I.pos _ (getP_in e); show 0 ≤ y; omega
    cases put with
    | true =>
      have hl : left = g + n := if_pos rfl
      rw [hl]
      refine if_t ((cmp _).trans (by rw [decide_eq_true (by omega)])) ((put_nx _).trans ?_)
      have : setP r (g + n) ps = nextP true r n ps := by
        unfold nextP
        rw [if_pos rfl]
        exact setP_bump r n ps
      rw [this]
    | false =>
      have hl : left = g - n := if_neg Bool.false_ne_true
      rw [hl]
      rw [if_neg Bool.false_ne_true] at hs
      have hs : n ≤ g := of_decide_eq_true hs
      have hk : r ∈ ps.map (·.1) := by
        refine getP_mem.mp ?_
        cases e : getP r ps with
        | none =>
          have : g = 0 := by show (getP r ps).getD 0 = 0; rw [e]; rfl
          omega
        | some y => rfl
      have e : nextP false r n ps = if g = n then delP r ps else setP r (g - n) ps := by
        unfold nextP
        rw [if_neg Bool.false_ne_true, take_eq]
      by_cases hgn : g = n
      · refine if_f ((cmp _).trans (by rw [decide_eq_false (by omega)])) ((pop_nx _ hk).trans ?_)
        rw [e, if_pos hgn]
      · refine if_t ((cmp _).trans (by rw [decide_eq_true (by omega)])) ((put_nx _).trans ?_)
        rw [e, if_neg hgn]
  obtain ⟨l, key⟩ := key
  rw [key]
  rfl
end My
namespace My
open PySem L2 DV
theorem flat_sum : ∀ ps : RP, (∀ p ∈ ps, 0 ≤ p.2) → ((ps.flatMap fun p => ((List.range p.2.toNat).filter fun _ => true).map fun _ => tI p.1).length : Int) = (ps.map (·.2)).sum
  | [], _ => rfl
  | p :: ps, h => by
    have h1 := h p (by simp)
    have ih := flat_sum ps fun q hq => h q (by simp [hq])
    rw [List.flatMap_cons, List.length_append, List.map_cons, List.sum_cons, ← ih]
    have : (((List.range p.2.toNat).filter fun _ => true).map fun _ => tI p.1).length = p.2.toNat := by
      rw [show ((List.range p.2.toNat).filter fun _ => true) = List.range p.2.toNat from by simp, List.length_map, List.length_range]
    rw [this]
    omega
theorem rows_told {sz : List Int} {ps : RP} (hn : (ps.map (·.1)).Nodup) (hz : ps.length < sizeLine) (hr : ∀ p ∈ ps, p.1 ≠ []) : F_Tally_rows [obT sz ps] = .ok (.lst ((sortT (ps.map (·.1))).map fun r => .tup [tI r, .int ((getP r ps).getD 0)])) := by
  have h1 : srtD (ps.map fun p => tI p.1) = .ok ((sortT (ps.map (·.1))).map tI) := by
    have := srt_tI (L := ps.map (·.1)) (fun l hl => by
      obtain ⟨p, hp, rfl⟩ := List.mem_map.mp hl
      exact hr p hp)
    rw [List.map_map] at this
    exact this
  have hg : gListX [dP ps] = .ok (.lst (ps.map fun p => tI p.1)) := by
    unfold dP
    rw [ev_listX, nkDs_keysP]
  have hlc : lcF (bName 1) cYes (cTup (cCons (cVar 1) (cCons (cBin oIxX (cFld ["Tally"] "known" (cVar 0)) (cVar 1)) cNil))) ((sortT (ps.map (·.1))).map tI) [some (.im (obT sz ps)), none] = .ok ((sortT (ps.map (·.1))).map fun r => .tup [tI r, .int ((getP r ps).getD 0)]) := by
    refine lcF_map _ _ _ fun r hr' => ⟨[some (.im (obT sz ps)), some (.im (tI r))], rfl, rfl, ?_⟩
    have hm : r ∈ ps.map (·.1) := (sortT_perm _).mem_iff.mp hr'
    have := getP_mem.mpr hm
    obtain ⟨n, hn⟩ := Option.isSome_iff_exists.mp this
    have hx := ix_known hn
    simp [fld_known, hx, hn]
  have hl : (sortT (ps.map (·.1))).length ≤ sizeLine := by
    rw [(sortT_perm _).length_eq, List.length_map]
    omega
  simp [F_Tally_rows, g_Tally_rows, fld_known, hg, h1, hl, hlc, flF]
theorem pl_ints (l : List Int) : (tI l).pl = true := by
  show D.plA (l.map D.int) = true
  induction l with
  | nil => rfl
  | cons x l ih => rw [List.map_cons, D.plA, ih]; rfl
theorem rows_pl (L : List (List Int)) (f : List Int → Int) : (D.lst (L.map fun r => .tup [tI r, .int (f r)])).pl = true := by
  rw [D.pl]
  induction L with
  | nil => rfl
  | cons v L ih =>
    rw [List.map_cons, D.plA, ih, D.pl, D.plA, pl_ints]
    rfl
noncomputable abbrev rowsD (ps : RP) : D := .lst ((sortT (ps.map (·.1))).map fun r => .tup [tI r, .int ((getP r ps).getD 0)])
theorem ne_key {sz : List Int} (G : Good sz) {ps : RP} (I : Inv sz ps) : ∀ p ∈ ps, p.1 ≠ [] := fun p hp z => by
  have h1 := okR_len (I.ok p hp)
  have h2 := G.ne
  rw [z] at h1
  simp at h1
  omega
theorem rows_of {sz : List Int} (G : Good sz) {ps : RP} (I : Inv sz ps) : F_Tally_rows [obT sz ps] = .ok (rowsD ps) :=
  rows_told I.nd (by have := I.len; rw [sizeLine_eq]; omega) (ne_key G I)
theorem srtX_ok {ps : RP} (hr : ∀ p ∈ ps, p.1 ≠ []) {δ : DS} {f : DS → Res D} (hf : f δ = .ok (dP ps)) : cSrtX f δ = .ok ((sortT (ps.map (·.1))).map tI) := by
  have hn : nkDs (keysP ps) = (ps.map (·.1)).map tI := by rw [nkDs_keysP, List.map_map]; rfl
  have hs := srt_tI (L := ps.map (·.1)) (fun l hl => by
    obtain ⟨p, hp, rfl⟩ := List.mem_map.mp hl
    exact hr p hp)
  unfold cSrtX
  rw [hf, Res.bind_ok]
  unfold dP
  dsimp only
  rw [hn]
  cases e : ps.map (·.1) with
  | nil =>
    rw [e] at hs
    simp [D.pyA, sortOk, sortT]
  | cons l L =>
    rw [e] at hs
    unfold srtD at hs
    have e1 : intsD ((l :: L).map tI) = none := rfl
    rw [e1] at hs
    exact hs
theorem lawrows_ok {sz : List Int} (G : Good sz) {ps : RP} (I : Inv sz ps) {δ : DS} (h3 : δ[3]? = some (some (.im (dP ps)))) (h10 : 10 < δ.length) : cL (cLc [10] (cItems (cL (cSrtX (cVar 3)))) (bName 10) cYes (cTup (cCons (cVar 10) (cCons (cBin oIxX (cVar 3) (cVar 10)) cNil)))) δ = .ok (rowsD ps) := by
  have hl : (sortT (ps.map (·.1))).length ≤ sizeLine := by
    rw [(sortT_perm _).length_eq, List.length_map]
    have := I.len
    rw [sizeLine_eq]
    omega
  have hw : wipeD δ [10] = δ.set 10 none := by
    simp [wipeD]
  have hc := lc_keep (δ := δ) (vs := [10]) (fi := cItems (cL (cSrtX (cVar 3)))) (b := bName 10) (t := cYes) (e := cTup (cCons (cVar 10) (cCons (cBin oIxX (cVar 3) (cVar 10)) cNil))) tI (fun _ => true) (fun r => D.tup [tI r, .int ((getP r ps).getD 0)]) (sortT (ps.map (·.1))) (by
    have h0 := srtX_ok (ne_key G I) (δ := δ) (f := cVar 3) (by rw [ev_var, h3])
    unfold cItems
    rw [ev_L, h0]
    rfl) hl fun r hr => by
    rw [hw]
    refine ⟨(δ.set 10 none).set 10 (some (.im (tI r))), ?_, rfl, fun _ => ?_⟩
    · rfl
    · have hm : r ∈ ps.map (·.1) := (sortT_perm _).mem_iff.mp hr
      obtain ⟨n, hn⟩ := Option.isSome_iff_exists.mp (getP_mem.mpr hm)
      have hx := ix_known hn
      have v10 : cVar 10 ((δ.set 10 none).set 10 (some (.im (tI r)))) = .ok (tI r) := by
        rw [ev_var, List.getElem?_set_self (by rw [List.length_set]; exact h10)]
      have v3 : cVar 3 ((δ.set 10 none).set 10 (some (.im (tI r)))) = .ok (dP ps) := by
        rw [ev_var, List.getElem?_set_ne (by decide), List.getElem?_set_ne (by decide), h3]
      have : cCons (cVar 10) (cCons (cBin oIxX (cVar 3) (cVar 10)) cNil) ((δ.set 10 none).set 10 (some (.im (tI r)))) = .ok [tI r, .int n] := cons_ok v10 (cons_ok (bin_ok v3 v10 hx) rfl)
      unfold cTup
      rw [this, hn]
      rfl
  rw [ev_L, hc, List.filter_true]
  rfl
theorem len_ok {sz : List Int} {ps : RP} (I : Inv sz ps) : F_Tally_len [obT sz ps] = .ok (.int (sumP (fun _ => true) ps)) := by
  have hpos := I.pos
  have hle := I.le
  have hlen : (((ps.flatMap fun p => ((List.range p.2.toNat).filter fun _ => true).map fun _ => tI p.1).length : Nat) : Int) = sumP (fun _ => true) ps := by
    rw [flat_sum ps fun p hp => by have := hpos p hp; omega, sumP_all]
  have hsum : ∀ p ∈ ps, p.2.toNat ≤ 10000 := fun p hp => by
    have h1 : p.2.toNat ≤ (ps.flatMap fun p => ((List.range p.2.toNat).filter fun _ => true).map fun _ => tI p.1).length := by
      obtain ⟨l1, l2, e⟩ := List.append_of_mem hp
      rw [e, List.flatMap_append, List.flatMap_cons, List.length_append, List.length_append, List.filter_true, List.length_map, List.length_range]
      omega
    omega
  have := lc2_flat (δ := [some (.im (obT sz ps)), none, none]) (vs := [1, 2]) (vs1 := [2]) (fi := cKeysX (cFld ["Tally"] "known" (cVar 0))) (b := bName 1) (t := cYes) (fi1 := cIt gRange1 (cCons (cBin oIxX (cFld ["Tally"] "known" (cVar 0)) (cVar 1)) cNil)) (b1 := bName 2) (t1 := cYes) (e := cVar 1)
    (fun p : List Int × Int => tI p.1) (fun p => List.range p.2.toNat) (fun i : Nat => D.int (0 + (i : Int))) (fun _ _ => true) (fun p _ => tI p.1) ps (by
      show ((oFld ["Tally"] "known" (obT sz ps)).bind itemsX) = _
      rw [fld_known]
      exact items_known ps) (by rw [sizeLine_eq]; omega) fun p hp => by
    refine ⟨[some (.im (obT sz ps)), some (.im (tI p.1)), none], rfl, rfl, ?_, fun i _ => ⟨_, rfl, rfl, fun _ => rfl⟩⟩
    have hix := ix_known (getP_of I.nd p hp)
    have hp1 := hpos p hp
    show (((oFld ["Tally"] "known" (obT sz ps)).bind fun x => oIxX x (tI p.1)).bind fun x => Res.ok [x]).bind gRange1 = _
    rw [fld_known, Res.bind_ok, hix]
    show gRange1 [D.int p.2] = _
    have e : p.2 = ((p.2.toNat : Nat) : Int) := by omega
    rw [e]
    exact gRange1_nat (by have := hsum p hp; rw [sizeLine_eq]; omega)
  show flR (cRet (cCall gLen (cCons (cL (cLc2 [1, 2] [2] (cKeysX (cFld ["Tally"] "known" (cVar 0))) (bName 1) cYes (cIt gRange1 (cCons (cBin oIxX (cFld ["Tally"] "known" (cVar 0)) (cVar 1)) cNil)) (bName 2) cYes (cVar 1))) cNil)) [some (.im (obT sz ps)), none, none]) = _
  rw [ev_ret, ev_call, ev_cons, ev_L, this]
  show Res.ok (D.int (((ps.flatMap fun p => ((List.range p.2.toNat).filter fun _ => true).map fun _ => tI p.1).length : Nat) : Int)) = _
  rw [hlen]
theorem sum_0 {sz : List Int} {ps : RP} (I : Inv sz ps) : 0 ≤ sumP (fun _ => true) ps := by
  have := sum_len I.pos
  omega
theorem lenO {sz : List Int} {ps : RP} (I : Inv sz ps) {f : DS → Res D} {δ : DS} (h : f δ = .ok (obT sz ps)) : cLenO "Tally" F_Tally_len f δ = .ok (.int (sumP (fun _ => true) ps)) := by
  unfold cLenO
  rw [h]
  show (if ("Tally" : Str) = "Tally" then (match F_Tally_len [obT sz ps] with
    | .ok (.v (.int n)) => if 0 ≤ n ∧ n.natAbs < 9223372036854775808 then Res.ok (D.int n) else .no
    | _ => .no) else .no) = _
  rw [if_pos rfl, len_ok I]
  have h0 := sum_0 I
  have h1 := I.le
  show (if 0 ≤ sumP (fun _ => true) ps ∧ (sumP (fun _ => true) ps).natAbs < 9223372036854775808 then _ else _) = _
  rw [if_pos ⟨h0, by omega⟩]
theorem app_len (a b : Str) : (a ++ b).length = a.length + b.length := by
  show (a.cps ++ b.cps).size = _
  rw [Array.size_append]
  rfl
theorem ok_app {a b : Str} (h1 : PySem.PyData.strOk a = true) (h2 : PySem.PyData.strOk b = true) : PySem.PyData.strOk (a ++ b) = true := by
  unfold PySem.PyData.strOk at *
  show (a.cps ++ b.cps).all _ = true
  rw [Array.all_append, h1, h2]
  rfl
theorem ok_of (s : String) : PySem.PyData.strOk (Str.ofString s) = true := by
  rw [Str.ofString_eq_toList]
  unfold PySem.PyData.strOk
  simp only [List.all_toArray, List.all_map, List.all_eq_true, Function.comp_apply, decide_eq_true_eq]
  intro c _
  have h := c.valid
  have : c.toNat = c.val.toNat := rfl
  rcases h with h | h
  · have : c.val.toNat < 0xd800 := h
    omega
  · have : c.val.toNat < 0x110000 := h.2
    omega
theorem empty_app (a : Str) : Str.empty ++ a = a := by
  cases a with
  | mk c =>
    show (⟨#[] ++ c⟩ : Str) = _
    rw [Array.empty_append]
noncomputable def numS (n : Int) : Str := Str.ofString (toString n)
theorem num_len {n : Int} (h : 0 ≤ n ∧ n ≤ 10000) : (numS n).length ≤ 6 := by
  unfold numS
  have := int_text_length_le10 (a := n) (k := 5) (by decide) (by omega)
  rw [ofString_length]
  exact this
noncomputable def textS (n c : Int) : Str := ((("Tally(" ++ numS n : Str) ++ (" rows, " : Str)) ++ numS c) ++ (" columns)" : Str)
theorem text_ok (n c : Int) : SeqAt.shaped (.str (textS n c)) = true := by
  have : PySem.PyData.strOk (textS n c) = true := ok_app (ok_app (ok_app (ok_app (ok_of _) (ok_of _)) (ok_of _)) (ok_of _)) (ok_of _)
  show (PyData.canLay0 (.str (textS n c)) && _) = true
  rw [PyData.canLay0, this]
  rfl
theorem log_ok {n : Int} (h : 0 ≤ n ∧ n ≤ 10000) : n.natAbs.log2 < 1920 := by
  have h1 : n.natAbs < 2 ^ 14 := by omega
  by_cases h0 : n.natAbs = 0
  · rw [h0]; decide
  · have := (Nat.log2_lt h0).mpr h1
    omega
theorem len_1 : ("Tally(" : Str).length = 6 ∧ (" rows, " : Str).length = 7 ∧ (" columns)" : Str).length = 9 := by decide +kernel
theorem str_ok {n : Int} (h : 0 ≤ n ∧ n ≤ 10000) : gStr [.int n] = .ok (.str (numS n)) := by
  show (if n.natAbs.log2 < 1920 then Res.ok (D.str (toString n)) else .no) = _
  rw [if_pos (log_ok h)]
  rfl
theorem addS {a b : Str} (h : a.length + b.length ≤ 1000) : oAdd (.str a) (.str b) = .ok (.str (a ++ b)) := by
  show (if a.length + b.length ≤ sizeLine then Res.ok (D.str (a ++ b)) else .no) = _
  rw [if_pos (by rw [sizeLine_eq]; omega)]
theorem join_cons {f : DS → Res D} {fs : List (DS → Res D)} {acc y : Str} {δ : DS} (h : f δ = .ok (.str y)) (hz : acc.length + y.length ≤ 1000) : joinD (f :: fs) acc δ = joinD fs (acc ++ y) δ := by
  rw [joinD, h]
  show (if (acc ++ y).length ≤ sizeLine then joinD fs (acc ++ y) δ else .no) = _
  rw [if_pos (by rw [app_len, sizeLine_eq]; omega)]
theorem fmt_ok {f : DS → Res D} {δ : DS} {n : Int} (h : f δ = .ok (.int n)) (hn : 0 ≤ n ∧ n ≤ 10000) : cFmt f δ = .ok (.str (numS n)) := by
  unfold cFmt
  rw [h]
  show (if n.natAbs.log2 < 1920 then Res.ok (D.str (toString n)) else .no) = _
  rw [if_pos (log_ok hn)]
  rfl
theorem repr_ok {sz : List Int} {ps : RP} (I : Inv sz ps) (hs : sz.length ≤ 6) : F_Tally_repr [obT sz ps] = .ok (.str (textS (sumP (fun _ => true) ps) (sz.length : Nat))) := by
  have hn : 0 ≤ sumP (fun _ => true) ps ∧ sumP (fun _ => true) ps ≤ 10000 := ⟨sum_0 I, I.le⟩
  have hc : 0 ≤ ((sz.length : Nat) : Int) ∧ ((sz.length : Nat) : Int) ≤ 10000 := by omega
  have h1 := fmt_ok (lenO I (δ := [some (.im (obT sz ps))]) (f := cVar 0) rfl) hn
  have h2 : cCall gLen (cCons (cFld ["Tally"] "sizes" (cVar 0)) cNil) [some (.im (obT sz ps))] = .ok (.int (sz.length : Nat)) :=
    call_ok (cons_ok (d := tI sz) rfl rfl) (tI_len sz)
  have h2' := fmt_ok h2 hc
  have b1 := num_len hn
  have b2 := num_len hc
  obtain ⟨c1, c2, c3⟩ := len_1
  have key : cJoin [cC (.str "Tally("), cFmt (cLenO "Tally" F_Tally_len (cVar 0)), cC (.str " rows, "), cFmt (cCall gLen (cCons (cFld ["Tally"] "sizes" (cVar 0)) cNil)), cC (.str " columns)")] [some (.im (obT sz ps))] = .ok (.str (textS (sumP (fun _ => true) ps) (sz.length : Nat))) := by
    unfold cJoin
    rw [join_cons (y := "Tally(") rfl (by rw [c1]; decide), empty_app, join_cons h1 (by omega), join_cons (y := " rows, ") rfl (by rw [app_len]; omega), join_cons h2' (by rw [app_len, app_len]; omega), join_cons (y := " columns)") rfl (by rw [app_len, app_len, app_len]; omega)]
    rfl
  show flR (g_Tally_repr [some (.im (obT sz ps))]) = _
  unfold g_Tally_repr
  rw [ret_rt key]
  rfl
theorem reprO {sz : List Int} {ps : RP} (I : Inv sz ps) (hs : sz.length ≤ 6) {f : DS → Res D} {δ : DS} (h : f δ = .ok (obT sz ps)) : cReprO "Tally" F_Tally_repr f δ = .ok (.str (textS (sumP (fun _ => true) ps) (sz.length : Nat))) := by
  unfold cReprO
  rw [h]
  show (if ("Tally" : Str) = "Tally" then (match F_Tally_repr [obT sz ps] with
    | .ok (.v (.str z)) => Res.ok (D.str z)
    | _ => .no) else .no) = _
  rw [if_pos rfl, repr_ok I hs]
theorem lawtext_ok {sz : List Int} {n : Int} {δ : DS} (hs : sz.length ≤ 6) (hn : 0 ≤ n ∧ n ≤ 10000) (h7 : δ[7]? = some (some (.im (.int n)))) (h1 : δ[1]? = some (some (.im (tI sz)))) :
    (cBin oAdd (cBin oAdd (cBin oAdd (cBin oAdd (cC (.str "Tally(")) (cCall gStr (cCons (cVar 7) cNil))) (cC (.str " rows, "))) (cCall gStr (cCons (cCall gLen (cCons (cVar 1) cNil)) cNil))) (cC (.str " columns)"))) δ = .ok (.str (textS n (sz.length : Nat))) := by
  have hc : 0 ≤ ((sz.length : Nat) : Int) ∧ ((sz.length : Nat) : Int) ≤ 10000 := by omega
  have b1 := num_len hn
  have b2 := num_len hc
  obtain ⟨c1, c2, c3⟩ := len_1
  have g1 : cCall gStr (cCons (cVar 7) cNil) δ = .ok (.str (numS n)) := call_ok (cons_ok (d := .int n) (by rw [ev_var, h7]) rfl) (str_ok hn)
  have g2 : cCall gStr (cCons (cCall gLen (cCons (cVar 1) cNil)) cNil) δ = .ok (.str (numS (sz.length : Nat))) := call_ok (cons_ok (call_ok (cons_ok (d := tI sz) (by rw [ev_var, h1]) rfl) (tI_len sz)) rfl) (str_ok hc)
  exact bin_ok (bin_ok (bin_ok (bin_ok (x := .str "Tally(") rfl g1 (addS (by omega))) (y := .str " rows, ") rfl (addS (by rw [app_len]; omega))) g2 (addS (by rw [app_len, app_len]; omega))) (y := .str " columns)") rfl (addS (by rw [app_len, app_len, app_len]; omega))
end My
namespace My
open PySem L2 DV
theorem mod_ok {δ : DS} {fa fb : DS → Res D} {a b : Int} (h1 : fa δ = .ok (.int a)) (h2 : fb δ = .ok (.int b)) (hb : 0 < b) : cBin oMod fa fb δ = .ok (.int (((a % b).toNat : Nat) : Int)) ∧ (a % b).toNat < b.toNat := by
  have h0 := Int.emod_nonneg a (show b ≠ 0 by omega)
  have h3 := Int.emod_lt_of_pos a hb
  refine ⟨bin_ok h1 h2 ?_, by omega⟩
  show (if b ≠ 0 then Res.ok (D.int (a.fmod b)) else .no) = _
  rw [if_pos (by omega), Int.fmod_eq_emod_of_nonneg _ (by omega)]
  have : (((a % b).toNat : Nat) : Int) = a % b := by omega
  rw [this]
theorem cut_some (ns : List Int) (lo hi : Option Int) : ∃ ms : List Int, cutD (ns.map D.int) lo hi = ms.map D.int ∧ ms.length ≤ ns.length := by
  rw [cutD_map]
  refine ⟨_, rfl, ?_⟩
  rw [List.length_take, List.length_drop]
  omega
theorem addT {a b : List Int} (h : a.length + b.length ≤ 1000) : oAdd (tI a) (tI b) = .ok (tI (a ++ b)) := by
  show (if (a.map D.int).length + (b.map D.int).length ≤ sizeLine then Res.ok (D.tup (a.map D.int ++ b.map D.int)) else .no) = _
  rw [if_pos (by rw [List.length_map, List.length_map, sizeLine_eq]; omega), ← List.map_append]
  rfl
theorem deed_ok {sz : List Int} (G : Good sz) (d0 d1 d2 d3 d4 : Int) (k : D) : ∃ (put : Bool) (r : List Int) (n : Int), F__law_tally_deed [.lst [.int d0, .int d1, .int d2, .int d3, .int d4], tI sz, k] = .ok (deedD put r n) ∧ r.length ≤ 20 := by
  have hR := rowsV_ok G.sz G.le
  have hp := rowsV_pos G.sz
  have hm := (goodV sz).m
  generalize rowsV sz = R at *
  let dr : D := .lst [.int d0, .int d1, .int d2, .int d3, .int d4]
  let S : Option O → Option O → DS := fun r n => [some (.im dr), some (.im (tI sz)), some (.im k), some (.im (.lst (R.map tI))), r, n]
  have s1 : cAsg 3 (cFn0 F__law_rows (cCons (cVar 1) cNil)) [some (.im dr), some (.im (tI sz)), some (.im k), none, none, none] = .nx (S none none) := asg_nx (fn0_ok (cons_ok (d := tI sz) rfl rfl) hR)
  obtain ⟨q1, q2⟩ := mod_ok (δ := S none none) (fa := cBin oIx (cVar 0) (cC (.int 1))) (fb := cCall gLen (cCons (cVar 3) cNil)) (a := d1) (b := (R.length : Nat)) rfl (call_ok (cons_ok (d := .lst (R.map tI)) rfl rfl) (by simp)) (by omega)
  have hk : (d1 % ((R.length : Nat) : Int)).toNat < R.length := by omega
  let r0 : List Int := R[(d1 % ((R.length : Nat) : Int)).toNat]
  have hr0 : r0.length ≤ 6 := by
    have := okR_len ((hm _).mp (List.getElem_mem hk))
    have := G.le
    show R[(d1 % ((R.length : Nat) : Int)).toNat].length ≤ 6
    omega
  have s2 : cAsg 4 (cBin oIx (cVar 3) (cBin oMod (cBin oIx (cVar 0) (cC (.int 1))) (cCall gLen (cCons (cVar 3) cNil)))) (S none none) = .nx (S (some (.im (tI r0))) none) := asg_nx (bin_ok rfl q1 (ixL (by simp [hk]; rfl)))
  obtain ⟨r, s3, hr⟩ : ∃ r : List Int, (cIf (cTest (cBin oEq (cBin oIx (cVar 0) (cC (.int 2))) (cC (.int 0)))) (cAsg 4 (cBin oIx (cL (cCons (cBin oAdd (cVar 4) (cTup (cCons (cC (.int 0)) cNil))) (cCons (cSl (cVar 4) cNone (cSome (cUn oNeg (cC (.int 1))))) (cCons (cBin oAdd (cCall gTuple (cCons (cL (cCons (cC (.int 9)) cNil)) cNil)) (cSl (cVar 4) (cSome (cC (.int 1))) cNone)) (cCons (cBin oAdd (cCall gTuple (cCons (cL (cCons (cUn oNeg (cC (.int 1))) cNil)) cNil)) (cSl (cVar 4) (cSome (cC (.int 1))) cNone)) cNil))))) (cBin oMod (cBin oIx (cVar 0) (cC (.int 3))) (cC (.int 4))))) cNext) (S (some (.im (tI r0))) none) = .nx (S (some (.im (tI r))) none) ∧ r.length ≤ 20 := by
    have ht : cTest (cBin oEq (cBin oIx (cVar 0) (cC (.int 2))) (cC (.int 0))) (S (some (.im (tI r0))) none) = .ok (decide (d2 = 0)) := test_ok (bin_ok (x := .int d2) (y := .int 0) rfl rfl (oEq_int d2 0))
    by_cases hd : d2 = 0
    · rw [decide_eq_true hd] at ht
      obtain ⟨a, ha, hal⟩ := cut_some r0 none (some (-1))
      obtain ⟨b, hb, hbl⟩ := cut_some r0 (some 1) none
      let L : List (List Int) := [r0 ++ [0], a, [9] ++ b, [-1] ++ b]
      have sa : cSl (cVar 4) cNone (cSome (cUn oNeg (cC (.int 1)))) (S (some (.im (tI r0))) none) = .ok (tI a) := by
        show Res.ok (D.tup (cutD (r0.map D.int) none (some (-1)))) = _
        rw [ha]
        rfl
      have sb : cSl (cVar 4) (cSome (cC (.int 1))) cNone (S (some (.im (tI r0))) none) = .ok (tI b) := by
        show Res.ok (D.tup (cutD (r0.map D.int) (some 1) none)) = _
        rw [hb]
        rfl
      have hL : cL (cCons (cBin oAdd (cVar 4) (cTup (cCons (cC (.int 0)) cNil))) (cCons (cSl (cVar 4) cNone (cSome (cUn oNeg (cC (.int 1))))) (cCons (cBin oAdd (cCall gTuple (cCons (cL (cCons (cC (.int 9)) cNil)) cNil)) (cSl (cVar 4) (cSome (cC (.int 1))) cNone)) (cCons (cBin oAdd (cCall gTuple (cCons (cL (cCons (cUn oNeg (cC (.int 1))) cNil)) cNil)) (cSl (cVar 4) (cSome (cC (.int 1))) cNone)) cNil)))) (S (some (.im (tI r0))) none) = .ok (.lst (L.map tI)) := by
        have hc : (cCons (cBin oAdd (cVar 4) (cTup (cCons (cC (.int 0)) cNil))) (cCons (cSl (cVar 4) cNone (cSome (cUn oNeg (cC (.int 1))))) (cCons (cBin oAdd (cCall gTuple (cCons (cL (cCons (cC (.int 9)) cNil)) cNil)) (cSl (cVar 4) (cSome (cC (.int 1))) cNone)) (cCons (cBin oAdd (cCall gTuple (cCons (cL (cCons (cUn oNeg (cC (.int 1))) cNil)) cNil)) (cSl (cVar 4) (cSome (cC (.int 1))) cNone)) cNil)))) (S (some (.im (tI r0))) none) = .ok (L.map tI) :=
          cons_ok (bin_ok (x := tI r0) (y := tI [0]) rfl rfl (addT (by simp; omega))) (cons_ok sa (cons_ok (bin_ok (x := tI [9]) rfl sb (addT (by simp; omega))) (cons_ok (bin_ok (x := tI [-1]) rfl sb (addT (by simp; omega))) rfl)))
        rw [ev_L, hc]
        rfl
      obtain ⟨p1, p2⟩ := mod_ok (δ := S (some (.im (tI r0))) none) (fa := cBin oIx (cVar 0) (cC (.int 3))) (fb := cC (.int 4)) (a := d3) (b := 4) rfl rfl (by decide)
      have hk3 : (d3 % 4).toNat < L.length := by show (d3 % 4).toNat < 4; omega
      refine ⟨L[(d3 % 4).toNat], if_t ht (asg_nx (bin_ok hL p1 (ixL (by simp [hk3])))), ?_⟩
      have hin : L[(d3 % 4).toNat] ∈ L := List.getElem_mem hk3
      have hall : ∀ x ∈ L, x.length ≤ 20 := by
        intro x hx
        simp only [L, List.mem_cons, List.not_mem_nil, or_false] at hx
        rcases hx with rfl | rfl | rfl | rfl
        · rw [List.length_append]; simp; omega
        · omega
        · rw [List.length_append]; simp; omega
        · rw [List.length_append]; simp; omega
      exact hall _ hin
    · rw [decide_eq_false hd] at ht
      exact ⟨r0, if_f ht rfl, by omega⟩
  let M : List Int := [1, 1, 2, 3 + (((d3 % 40).toNat : Nat) : Int), 0, -1, 9999, 10001]
  obtain ⟨o1, _⟩ := mod_ok (δ := S (some (.im (tI r))) none) (fa := cBin oIx (cVar 0) (cC (.int 3))) (fb := cC (.int 40)) (a := d3) (b := 40) rfl rfl (by decide)
  obtain ⟨o2, o3⟩ := mod_ok (δ := S (some (.im (tI r))) none) (fa := cBin oIx (cVar 0) (cC (.int 4))) (fb := cC (.int 8)) (a := d4) (b := 8) rfl rfl (by decide)
  have hM : cL (cCons (cC (.int 1)) (cCons (cC (.int 1)) (cCons (cC (.int 2)) (cCons (cBin oAdd (cC (.int 3)) (cBin oMod (cBin oIx (cVar 0) (cC (.int 3))) (cC (.int 40)))) (cCons (cC (.int 0)) (cCons (cUn oNeg (cC (.int 1))) (cCons (cC (.int 9999)) (cCons (cC (.int 10001)) cNil)))))))) (S (some (.im (tI r))) none) = .ok (.lst (M.map D.int)) := by
    have hc : (cCons (cC (.int 1)) (cCons (cC (.int 1)) (cCons (cC (.int 2)) (cCons (cBin oAdd (cC (.int 3)) (cBin oMod (cBin oIx (cVar 0) (cC (.int 3))) (cC (.int 40)))) (cCons (cC (.int 0)) (cCons (cUn oNeg (cC (.int 1))) (cCons (cC (.int 9999)) (cCons (cC (.int 10001)) cNil)))))))) (S (some (.im (tI r))) none) = .ok (M.map D.int) :=
      cons_ok rfl (cons_ok rfl (cons_ok rfl (cons_ok (bin_ok (x := .int 3) rfl o1 rfl) rfl)))
    rw [ev_L, hc]
    rfl
  have hk4 : (d4 % 8).toNat < M.length := by show (d4 % 8).toNat < 8; omega
  let n : Int := M[(d4 % 8).toNat]
  have s4 : cAsg 5 (cBin oIx (cL (cCons (cC (.int 1)) (cCons (cC (.int 1)) (cCons (cC (.int 2)) (cCons (cBin oAdd (cC (.int 3)) (cBin oMod (cBin oIx (cVar 0) (cC (.int 3))) (cC (.int 40)))) (cCons (cC (.int 0)) (cCons (cUn oNeg (cC (.int 1))) (cCons (cC (.int 9999)) (cCons (cC (.int 10001)) cNil))))))))) (cBin oMod (cBin oIx (cVar 0) (cC (.int 4))) (cC (.int 8)))) (S (some (.im (tI r))) none) = .nx (S (some (.im (tI r))) (some (.im (.int n)))) :=
    asg_nx (bin_ok hM o2 (ixL (by simp [hk4]; rfl)))
  refine ⟨!decide (3 < d0), r, n, ?_, hr⟩
  have hw : cIfE (cTest (cBin oGt (cBin oIx (cVar 0) (cC (.int 0))) (cC (.int 3)))) (cC (.str "take")) (cC (.str "put")) (S (some (.im (tI r))) (some (.im (.int n)))) = .ok (.str (wordD (!decide (3 < d0)))) := by
    refine (ifE (b := decide (3 < d0)) (test_ok rfl) rfl rfl).trans ?_
    by_cases h : 3 < d0
    · rw [decide_eq_true h]; rfl
    · rw [decide_eq_false h]; rfl
  show flR (g__law_tally_deed [some (.im dr), some (.im (tI sz)), some (.im k), none, none, none]) = _
  have key : g__law_tally_deed [some (.im dr), some (.im (tI sz)), some (.im k), none, none, none] = .rt (deedD (!decide (3 < d0)) r n) := by
    unfold g__law_tally_deed
    refine seq_nx s1 (seq_nx s2 (seq_nx s3 (seq_nx s4 (ret_rt ?_))))
    have hc : cCons (cIfE (cTest (cBin oGt (cBin oIx (cVar 0) (cC (.int 0))) (cC (.int 3)))) (cC (.str "take")) (cC (.str "put"))) (cCons (cVar 4) (cCons (cVar 5) cNil)) (S (some (.im (tI r))) (some (.im (.int n)))) = .ok [.str (wordD (!decide (3 < d0))), tI r, .int n] := cons_ok hw rfl
    unfold cTup
    rw [hc]
    rfl
  rw [key]
  rfl
theorem draw_ok (x : Int) : ∃ d0 d1 d2 d3 d4 : Int, F__law_draws [.int x, .lst [.int 6, .int 997, .int 9, .int 97, .int 8]] = .ok (.lst [.int d0, .int d1, .int d2, .int d3, .int d4]) := by
  obtain ⟨m, hm⟩ := draws_ok x [6, 997, 9, 97, 8] (by decide) (by decide)
  exact ⟨_, _, _, _, _, hm⟩
noncomputable abbrev tupO (ns : List Int) : Option O := some (.im (tI ns))
noncomputable abbrev trT (sz : List Int) (ps : RP) : Option O := some (.tr false kT (tsT sz ps))
noncomputable abbrev trK (ps : RP) : Option O := some (.tr false (kD ps) (tsK ps))
theorem fz_T {δ : DS} {i : Nat} {sz : List Int} {ps : RP} (h : δ[i]? = some (trT sz ps)) : fz i δ = δ.set i (some (.im (obT sz ps))) := by
  unfold fz
  rw [h]
  show δ.set i (some (.im (T.nd kT (tsT sz ps)).d)) = _
  rw [tree_d]
theorem fz_K {δ : DS} {i : Nat} {ps : RP} (h : δ[i]? = some (trK ps)) : fz i δ = δ.set i (some (.im (dP ps))) := by
  unfold fz
  rw [h]
  show δ.set i (some (.im (T.nd (.dt (keysP ps)) (ps.map fun p => T.im (D.int p.2))).d)) = _
  rw [tree_known]
theorem ob_T {δ : DS} {i : Nat} {sz : List Int} {ps : RP} (h : δ[i]? = some (trT sz ps)) : obOk δ i = true := by
  unfold obOk
  rw [h]
  exact noSq_T sz ps
theorem ob_K {δ : DS} {i : Nat} {ps : RP} (h : δ[i]? = some (trK ps)) : obOk δ i = true := by
  unfold obOk
  rw [h]
  exact noSq_K ps
theorem lend_T {δ : DS} {i : Nat} {sz : List Int} {ps : RP} {f : DS → Res D} {d : D} (h : δ[i]? = some (trT sz ps)) (ht : f (δ.set i (some (.im (obT sz ps)))) = .ok d) (hp : d.pl = true) : lend i f δ = .ok d :=
  lend_ok (ob_T h) (by rw [fz_T h]; exact ht) hp
theorem lend_K {δ : DS} {i : Nat} {ps : RP} {f : DS → Res D} {d : D} (h : δ[i]? = some (trK ps)) (ht : f (δ.set i (some (.im (dP ps)))) = .ok d) (hp : d.pl = true) : lend i f δ = .ok d :=
  lend_ok (ob_K h) (by rw [fz_K h]; exact ht) hp
theorem lendT_K {δ : DS} {i : Nat} {ps : RP} {t : DS → Res Bool} {b : Bool} (h : δ[i]? = some (trK ps)) (ht : t (δ.set i (some (.im (dP ps)))) = .ok b) : lendT i t δ = .ok b :=
  lendT_ok (ob_K h) (by rw [fz_K h]; exact ht)
theorem mth_T {sz : List Int} {ps : RP} {m : Str} {F : List D → Res D} {dd ds : List D} {f : DS → Res D} {fs : DS → Res (List D)} {δ : DS} {r : Res D} (h1 : f δ = .ok (obT sz ps)) (h2 : m ∉ (["sizes", "known"] : List Str)) (h3 : fs δ = .ok ds) (h4 : F (obT sz ps :: (ds ++ dd)) = r) : cMth "Tally" m F dd f fs δ = r := by
  rw [ev_mth, h1]
  show (if ("Tally" : Str) = "Tally" ∧ m ∉ (["sizes", "known"] : List Str) then _ else _) = _
  rw [if_pos ⟨rfl, h2⟩, h3]
  exact h4
theorem pl_deed (put : Bool) (r : List Int) (n : Int) : (deedD put r n).pl = true := by
  unfold deedD
  rw [D.pl, D.plA, D.plA, pl_ints]
  rfl
theorem pl_due (put : Bool) (r : List Int) (n : Int) (sz : List Int) (ps : RP) : (dueD put r n sz ps).pl = true := by
  unfold dueD okD
  repeat' split
  all_goals rfl
theorem plain_int (n : Nat) (i : Int) : plain n (.int i) := by cases n <;> trivial
theorem plain_due (put : Bool) (r : List Int) (n : Int) (sz : List Int) (ps : RP) : plain 5 (dueD put r n sz ps) := by
  have q : ∀ w : Str, w ∈ (["badmany", "full", "norows", "badrow", ""] : List Str) → SeqAt.shaped (.str w) = true := by decide +kernel
  have two : ∀ (w : Str) (d : D), w ∈ (["badmany", "full", "norows", "badrow", ""] : List Str) → plain 4 d → plain 5 (.tup [.str w, d]) := fun w d hw hd => ⟨by rw [sizeLine_eq]; simp, fun x hx => by
    simp only [List.mem_cons, List.not_mem_nil, or_false] at hx
    rcases hx with rfl | rfl
    · exact q w hw
    · exact hd⟩
  unfold dueD okD
  repeat' split
  all_goals first
    | exact two _ _ (by simp) trivial
    | exact two _ _ (by simp) (plain_int 4 _)
theorem plain_tI (n : Nat) {l : List Int} (h : l.length ≤ 100) : plain (n + 1) (tI l) := ⟨by rw [List.length_map, sizeLine_eq]; omega, fun x hx => by
  obtain ⟨i, _, rfl⟩ := List.mem_map.mp hx
  exact plain_int n i⟩
noncomputable abbrev foundD (sz : List Int) (ps : RP) : D := .lst [rowsD ps, .int (sumP (fun _ => true) ps), .str (textS (sumP (fun _ => true) ps) (sz.length : Nat)), tI sz]
theorem plain_found {sz : List Int} (G : Good sz) {ps : RP} (I : Inv sz ps) : plain 5 (foundD sz ps) := by
  have hG := G.le
  refine ⟨by rw [sizeLine_eq]; simp, fun x hx => ?_⟩
  simp only [List.mem_cons, List.not_mem_nil, or_false] at hx
  rcases hx with rfl | rfl | rfl | rfl
  · refine ⟨?_, fun y hy => ?_⟩
    · rw [List.length_map, (sortT_perm _).length_eq, List.length_map]
      have := I.len
      rw [sizeLine_eq]
      omega
    · obtain ⟨r, hr, rfl⟩ := List.mem_map.mp hy
      have hm : r ∈ ps.map (·.1) := (sortT_perm _).mem_iff.mp hr
      obtain ⟨p, hp, rfl⟩ := List.mem_map.mp hm
      have := okR_len (I.ok p hp)
      refine ⟨by rw [sizeLine_eq]; simp, fun z hz => ?_⟩
      simp only [List.mem_cons, List.not_mem_nil, or_false] at hz
      rcases hz with rfl | rfl
      · exact plain_tI 1 (l := p.1) (by omega)
      · exact plain_int 3 _
  · exact plain_int 4 _
  · exact text_ok _ _
  · exact plain_tI 3 (by omega)
theorem pl_found (sz : List Int) (ps : RP) : (foundD sz ps).pl = true := by
  have h := rows_pl (sortT (ps.map (·.1))) fun r => (getP r ps).getD 0
  show D.plA [rowsD ps, _, _, tI sz] = true
  rw [D.plA, D.plA, D.plA, D.plA, h, pl_ints]
  rfl
section
variable {sz : List Int} (G : Good sz) (A0 : Option O)
noncomputable abbrev St (sz : List Int) (A0 : Option O) (ps qs : RP) (o4 o5 o6 o7 o8 o9 : Option O) : DS := [A0, tupO sz, trT sz ps, trK qs, o4, o5, o6, o7, o8, o9, none]
include G
theorem turn_ok {ps : RP} (I : Inv sz ps) (x : Int) (o5 o6 o7 o8 o9 : Option O) : ∃ (ps' : RP) (p5 p6 p7 p8 p9 : Option O), g_law_l1 (St sz A0 ps ps (some (.im (.int x))) o5 o6 o7 o8 o9) = .nx (St sz A0 ps' ps' (some (.im (.int x))) p5 p6 p7 p8 p9) ∧ Inv sz ps' := by
  obtain ⟨d0, d1, d2, d3, d4, hd⟩ := draw_ok x
  obtain ⟨put, r, n, hdeed, hrl⟩ := deed_ok G d0 d1 d2 d3 d4 (dP ps)
  have hG := G.le
  let X : Option O := some (.im (.int x))
  let p5 : Option O := some (.im (deedD put r n))
  let p6 : Option O := some (.im (dueD put r n sz ps))
  let ps' : RP := if fineB put r n sz ps = true then nextP put r n ps else ps
  have I' : Inv sz ps' := by
    show Inv sz (if fineB put r n sz ps = true then nextP put r n ps else ps)
    split
    · rename_i h
      exact I.next h
    · exact I
  have hn : 0 ≤ sumP (fun _ => true) ps' ∧ sumP (fun _ => true) ps' ≤ 10000 := ⟨sum_0 I', I'.le⟩
  let p7 : Option O := some (.im (.int (sumP (fun _ => true) ps')))
  let p8 : Option O := some (.im (.str (textS (sumP (fun _ => true) ps') (sz.length : Nat))))
  let p9 : Option O := some (.im (foundD sz ps'))
  refine ⟨ps', p5, p6, p7, p8, p9, ?_, I'⟩
  unfold g_law_l1
  refine seq_nx (δ' := St sz A0 ps ps X p5 o6 o7 o8 o9) (asg_nx (lend_K (i := 3) rfl (fn0_ok (cons_ok (fn0_ok (cons_ok (d := .int x) rfl (cons_ok (d := .lst [.int 6, .int 997, .int 9, .int 97, .int 8]) rfl rfl)) hd) (cons_ok (d := tI sz) rfl (cons_ok (d := dP ps) rfl rfl))) hdeed) (pl_deed _ _ _))) ?_
  refine seq_nx (δ' := St sz A0 ps ps X p5 p6 o7 o8 o9) (asg_nx (lend_K (i := 3) rfl (fn0_ok (cons_ok (d := deedD put r n) rfl (cons_ok (d := tI sz) rfl (cons_ok (d := dP ps) rfl rfl))) (due_ok hG hrl)) (pl_due _ _ _ _ _))) ?_
  refine seq_nx (δ' := St sz A0 ps' ps X p5 p6 o7 o8 o9) ?_ ?_
  · have h1 : cOwnF 2 F__law_done [] (cConsO 2 (cCons (cVar 5) cNil)) (St sz A0 ps ps X p5 p6 o7 o8 o9) = .ok (dueD put r n sz ps) (St sz A0 ps' ps X p5 p6 o7 o8 o9) := by
      have ha : asT (St sz A0 ps ps X p5 p6 o7 o8 o9) 2 = some (false, kT, tsT sz ps) := rfl
      have hc : cConsO 2 (cCons (cVar 5) cNil) (St sz A0 ps ps X p5 p6 o7 o8 o9) = .ok [.non, deedD put r n] := rfl
      unfold cOwnF
      rw [hc]
      show (match asT (St sz A0 ps ps X p5 p6 o7 o8 o9) 2 with
        | some (m, k, ts) => outM (St sz A0 ps ps X p5 p6 o7 o8 o9) 2 m (F__law_done k ts ([D.non, deedD put r n] ++ []))
        | none => .no) = _
      rw [ha]
      show outM _ 2 false (F__law_done kT (tsT sz ps) [.non, deedD put r n]) = _
      rw [done_ok I hG hrl]
      rfl
    have h2 : cFnM (F__law_same 6) (caConsM (cOwnF 2 F__law_done [] (cConsO 2 (cCons (cVar 5) cNil))) (caConsM (cem (cVar 6)) caNilM)) (St sz A0 ps ps X p5 p6 o7 o8 o9) = .ok (.bl true) (St sz A0 ps' ps X p5 p6 o7 o8 o9) := by
      have hs := same_refl 5 _ (plain_due put r n sz ps)
      unfold cFnM caConsM
      rw [h1]
      show ((F__law_same 6 [dueD put r n sz ps, dueD put r n sz ps]).rm (St sz A0 ps' ps X p5 p6 o7 o8 o9)) = _
      rw [hs]
      rfl
    unfold cIfM cNotM cTestM
    rw [h2]
    rfl
  refine seq_nx (δ' := St sz A0 ps' ps' X p5 p6 o7 o8 o9) ?_ ?_
  · by_cases hf : fineB put r n sz ps = true
    · have e : ps' = nextP put r n ps := if_pos hf
      have hd : dueD put r n sz ps = okD := due_fine hf
      refine if_t (test_ok (b := true) ?_) ?_
      · refine bin_ok (x := .str "") (y := .str "") ?_ rfl (strEq (by decide +kernel) (by decide +kernel))
        refine bin_ok (x := okD) (y := .int 0) ?_ rfl rfl
        show Res.ok (dueD put r n sz ps) = _
        rw [hd]
      · have h1 : cOwnF 3 F__law_tally_next [] (cCons (cVar 5) (cConsO 3 cNil)) (St sz A0 ps' ps X p5 p6 o7 o8 o9) = .ok .non (St sz A0 ps' ps' X p5 p6 o7 o8 o9) := by
          have ha : asT (St sz A0 ps' ps X p5 p6 o7 o8 o9) 3 = some (false, kD ps, tsK ps) := rfl
          have hc : cCons (cVar 5) (cConsO 3 cNil) (St sz A0 ps' ps X p5 p6 o7 o8 o9) = .ok [deedD put r n, .non] := rfl
          unfold cOwnF
          rw [hc]
          show (match asT (St sz A0 ps' ps X p5 p6 o7 o8 o9) 3 with
            | some (m, k, ts) => outM (St sz A0 ps' ps X p5 p6 o7 o8 o9) 3 m (F__law_tally_next k ts ([deedD put r n, D.non] ++ []))
            | none => .no) = _
          rw [ha]
          show outM _ 3 false (F__law_tally_next (kD ps) (tsK ps) [deedD put r n, .non]) = _
          rw [next_ok I hf, ← e]
          rfl
        unfold cDropM
        rw [h1]
        rfl
    · have hf' : fineB put r n sz ps = false := by simpa using hf
      have e : ps' = ps := if_neg hf
      obtain ⟨w, d, h1, h2, h3⟩ := due_not hf'
      refine if_f (test_ok (b := false) ?_) ?_
      · refine bin_ok (x := .str w) (y := .str "") ?_ rfl ((strEq h3 (by decide +kernel)).trans (by rw [h2]))
        refine bin_ok (x := .tup [.str w, d]) (y := .int 0) ?_ rfl rfl
        show Res.ok (dueD put r n sz ps) = _
        rw [h1]
      · show Fl.nx (St sz A0 ps' ps X p5 p6 o7 o8 o9) = _
        rw [e]
  refine seq_nx (δ' := St sz A0 ps' ps' X p5 p6 p7 o8 o9) (asg_nx (lend_K (i := 3) rfl ?_ rfl)) ?_
  · refine call_ok (cons_ok (d := .lst ((ps'.map (·.2)).map D.int)) ?_ rfl) ((sum_ints _).trans (by rw [sumP_all]))
    rw [List.map_map]
    rfl
  refine seq_nx (δ' := St sz A0 ps' ps' X p5 p6 p7 p8 o9) (asg_nx (lawtext_ok hG hn rfl rfl)) ?_
  refine seq_nx (δ' := St sz A0 ps' ps' X p5 p6 p7 p8 p9) (asg_nx (lend_T (i := 2) rfl ?_ (pl_found _ _))) ?_
  · have hc : cCons (cMth "Tally" "rows" F_Tally_rows [] (cVar 2) cNil) (cCons (cLenO "Tally" F_Tally_len (cVar 2)) (cCons (cReprO "Tally" F_Tally_repr (cVar 2)) (cCons (cFld ["Tally"] "sizes" (cVar 2)) cNil))) ((St sz A0 ps' ps' X p5 p6 p7 p8 o9).set 2 (some (.im (obT sz ps')))) = .ok [rowsD ps', .int (sumP (fun _ => true) ps'), .str (textS (sumP (fun _ => true) ps') (sz.length : Nat)), tI sz] :=
      cons_ok (mth_T rfl w3 rfl (rows_of G I')) (cons_ok (lenO I' rfl) (cons_ok (reprO I' hG rfl) (cons_ok (d := tI sz) rfl rfl)))
    rw [ev_L, hc]
    rfl
  refine if_f (lendT_K (i := 3) rfl (not_ok (b := true) (test_ok (fn0_ok (cons_ok (d := foundD sz ps') rfl (cons_ok (d := foundD sz ps') ?_ rfl)) (same_refl 5 _ (plain_found G I')))))) rfl
  have hc : cCons (cL (cLc [10] (cItems (cL (cSrtX (cVar 3)))) (bName 10) cYes (cTup (cCons (cVar 10) (cCons (cBin oIxX (cVar 3) (cVar 10)) cNil))))) (cCons (cVar 7) (cCons (cVar 8) (cCons (cVar 1) cNil))) ((St sz A0 ps' ps' X p5 p6 p7 p8 p9).set 3 (some (.im (dP ps')))) = .ok [rowsD ps', .int (sumP (fun _ => true) ps'), .str (textS (sumP (fun _ => true) ps') (sz.length : Nat)), tI sz] :=
    cons_ok (lawrows_ok G I' rfl (by show 10 < 11; decide)) rfl
  rw [ev_L, hc]
  rfl
end
theorem law_true (ns : List Int) (h : ns.length ≤ 63) : F_law [.lst (ns.map D.int)] = .ok (.bl true) := by
  obtain ⟨ms, hms, hml⟩ := cut_some ns none (some 63)
  obtain ⟨sz, hsz, G, hsl⟩ := sizes_ok (ms.getD 0 0) 4 (by decide)
  obtain ⟨cs, hcs, hcl⟩ := cut_some ms (some 1) none
  let A0 : Option O := some (.im (.lst (ms.map D.int)))
  have I0 : Inv sz [] := ⟨by simp, by simp, by simp, by simp [sumP]⟩
  let P : List Int → DS → Prop := fun _ δ => ∃ (ps : RP) (o4 o5 o6 o7 o8 o9 : Option O), δ = St sz A0 ps ps o4 o5 o6 o7 o8 o9 ∧ Inv sz ps
  have hcells : cItems (cBin oAdd (cSl (cVar 0) (cSome (cC (.int 1))) cNone) (cL (cCons (cC (.int 0)) (cCons (cC (.int 1)) cNil)))) (St sz A0 [] [] none none none none none none) = .ok ((cs ++ [0, 1]).map D.int) := by
    have : cBin oAdd (cSl (cVar 0) (cSome (cC (.int 1))) cNone) (cL (cCons (cC (.int 0)) (cCons (cC (.int 1)) cNil))) (St sz A0 [] [] none none none none none none) = .ok (.lst ((cs ++ [0, 1]).map D.int)) := by
      refine bin_ok (x := .lst (cs.map D.int)) (y := .lst [.int 0, .int 1]) ?_ rfl ?_
      · show Res.ok (D.lst (cutD (ms.map D.int) (some 1) none)) = _
        rw [hcs]
      · show (if (cs.map D.int).length + 2 ≤ sizeLine then Res.ok (D.lst (cs.map D.int ++ [.int 0, .int 1])) else .no) = _
        rw [if_pos (by rw [List.length_map, sizeLine_eq]; omega), List.map_append]
        rfl
    unfold cItems
    rw [this]
    rfl
  obtain ⟨δ2, h1, _⟩ := for_done (b := bName 4) (g := g_law_l1) D.int P (cs ++ [0, 1]) hcells ⟨[], none, none, none, none, none, none, rfl, I0⟩ (by
    rintro done x rest δ e ⟨ps, o4, o5, o6, o7, o8, o9, rfl, I⟩
    obtain ⟨ps', p5, p6, p7, p8, p9, ht, I'⟩ := turn_ok G A0 I x o5 o6 o7 o8 o9
    exact ⟨_, _, rfl, ht, ps', _, p5, p6, p7, p8, p9, rfl, I'⟩)
  have g : g_law [some (.im (.lst (ns.map D.int))), none, none, none, none, none, none, none, none, none, none] = .rt (.bl true) := by
    unfold g_law
    refine seq_nx (δ' := [A0, none, none, none, none, none, none, none, none, none, none]) (asg_nx (d := .lst (ms.map D.int)) ?_) ?_
    · show Res.ok (D.lst (cutD (ns.map D.int) none (some 63))) = _
      rw [hms]
    refine seq_nx (δ' := [A0, tupO sz, none, none, none, none, none, none, none, none, none]) (asg_nx (fn0_ok (cons_ok (d := .int (ms.getD 0 0)) (fn0_ok (cons_ok (d := .lst (ms.map D.int)) rfl (cons_ok (d := .int 0) rfl rfl)) (cell_ok ms 0)) (cons_ok (d := .int 4) rfl rfl)) hsz)) ?_
    refine seq_nx (δ' := [A0, tupO sz, trT sz [], none, none, none, none, none, none, none, none]) (ownN_nx (t := .nd kT (tsT sz [])) ?_) ?_
    · have := init_ok G
      simp [cMake, this, madeT]
    refine seq_nx (δ' := St sz A0 [] [] none none none none none none) rfl ?_
    exact seq_nx h1 rfl
  show flR (g_law [some (.im (.lst (ns.map D.int))), none, none, none, none, none, none, none, none, none, none]) = _
  rw [g]
  rfl
end My
namespace My
open PySem L2 DV
theorem arL1 {α : Type} : ∀ {us : List α}, us.length = 1 → ∃ a, us = [a]
  | [a], _ => ⟨_, rfl⟩
theorem arL2 {α : Type} : ∀ {us : List α}, us.length = 2 → ∃ a b, us = [a, b]
  | [a, b], _ => ⟨_, _, rfl⟩
theorem arL3 {α : Type} : ∀ {us : List α}, us.length = 3 → ∃ a b c, us = [a, b, c]
  | [a, b, c], _ => ⟨_, _, _, rfl⟩
theorem all_mk {l : PySem.W.OpenLaw} {w : World} {K : PySem.W.Frag} {h : Heap} {mg : Str → Option Value} {fa f0 f1 f2 f3 f4 f5 f6 f7 f8 f9 f10 f11 f12 f13 f14 f15 f16 f17 f18 f19 : Addr} (X : K.In h) (G : h.Ns mainGlobals mg) (hfa : mg "law" = some (.ref fa))
    {od0 an0 od1 an1 od2 an2 od3 an3 od4 an4 od5 an5 od6 an6 od7 an7 od8 an8 od9 an9 od10 an10 od11 an11 od12 an12 od13 an13 od14 an14 od15 an15 od16 an16 od17 an17 od18 an18 od19 an19 : Option Addr} {sl0 sl1 sl2 sl3 sl4 sl5 sl6 sl7 sl8 sl9 sl10 sl11 sl12 sl13 sl14 sl15 sl16 sl17 sl18 sl19 : Array (Option Value)} {oc0 kV0 dc0 pm0 cd0 ct0 oc1 kV1 dc1 pm1 cd1 ct1 oc2 kV2 dc2 pm2 cd2 ct2 oc3 kV3 dc3 pm3 cd3 ct3 oc4 kV4 dc4 pm4 cd4 ct4 oc5 kV5 dc5 pm5 cd5 ct5 oc6 kV6 dc6 pm6 cd6 ct6 oc7 kV7 dc7 pm7 cd7 ct7 oc8 kV8 dc8 pm8 cd8 ct8 oc9 kV9 dc9 pm9 cd9 ct9 oc10 kV10 dc10 pm10 cd10 ct10 oc11 kV11 dc11 pm11 cd11 ct11 oc12 kV12 dc12 pm12 cd12 ct12 oc13 kV13 dc13 pm13 cd13 ct13 oc14 kV14 dc14 pm14 cd14 ct14 oc15 kV15 dc15 pm15 cd15 ct15 oc16 kV16 dc16 pm16 cd16 ct16 oc17 kV17 dc17 pm17 cd17 ct17 oc18 kV18 dc18 pm18 cd18 ct18 oc19 kV19 dc19 pm19 ct19 : Value}
    {C_Tally : Addr}
    {C_BadSizes I_BadSizes C_BadRow I_BadRow C_BadMany I_BadMany C_Full I_Full C_NoRows I_NoRows : Addr} {iod_BadSizes ian_BadSizes iod_BadRow ian_BadRow iod_BadMany ian_BadMany iod_Full ian_Full iod_NoRows ian_NoRows : Option Addr} {isl_BadSizes isl_BadRow isl_BadMany isl_Full isl_NoRows : Array (Option Value)} {ioc_BadSizes ikV_BadSizes idc_BadSizes ipm_BadSizes icd_BadSizes ict_BadSizes ioc_BadRow ikV_BadRow idc_BadRow ipm_BadRow icd_BadRow ict_BadRow ioc_BadMany ikV_BadMany idc_BadMany ipm_BadMany icd_BadMany ict_BadMany ioc_Full ikV_Full idc_Full ipm_Full icd_Full ict_Full ioc_NoRows ikV_NoRows idc_NoRows ipm_NoRows icd_NoRows ict_NoRows : Value}
    {dT7 : Addr} {dt7_0 : Tok} {dq7 : Value} {dr7 : Option Addr} {dn7 : Nat} {dz7 : Array (Option Value)}
    {dT8 : Addr} {dt8_0 : Tok} {dq8 : Value} {dr8 : Option Addr} {dn8 : Nat} {dz8 : Array (Option Value)}
    {tc_MOST_COLUMNS tc_MOST_COUNTED tc_MOST_ROWS tc_MOST_SIZE : Tok}
    {cL : Addr}
    (ca_BadSizes : PySem.W.nsIn K mainGlobals "BadSizes" = some (some (.ref C_BadSizes))) (cb_BadSizes : oexB K C_BadSizes [.type "ValueError", .type "Exception", .type "BaseException", .type "object"] "ValueError.__new__" = true) (cc_BadSizes : PySem.W.findIn K (.ref C_BadSizes) "__init__" = some (some (.ref I_BadSizes))) (cd_BadSizes : PySem.W.typeIn K (.ref I_BadSizes) = some (.type "function")) (ce_BadSizes : xcB K C_BadSizes = true)
    (cl_BadSizes : K.lookup I_BadSizes = some ⟨ioc_BadSizes, iod_BadSizes, .func (PySem.W.fnOf "__init__" "BadSizes.__init__" (defArgs si_BadSizes) (defBody si_BadSizes) (defScope si_BadSizes) .none ikV_BadSizes idc_BadSizes ipm_BadSizes ian_BadSizes icd_BadSizes ict_BadSizes), isl_BadSizes⟩) (cm_BadSizes : PySem.W.codeIn K icd_BadSizes "BadSizes.__init__" = true) (cn_BadSizes : PySem.W.keepIn K (.ref I_BadSizes) = true)
    (ca_BadRow : PySem.W.nsIn K mainGlobals "BadRow" = some (some (.ref C_BadRow))) (cb_BadRow : oexB K C_BadRow [.type "ValueError", .type "Exception", .type "BaseException", .type "object"] "ValueError.__new__" = true) (cc_BadRow : PySem.W.findIn K (.ref C_BadRow) "__init__" = some (some (.ref I_BadRow))) (cd_BadRow : PySem.W.typeIn K (.ref I_BadRow) = some (.type "function")) (ce_BadRow : xcB K C_BadRow = true)
    (cl_BadRow : K.lookup I_BadRow = some ⟨ioc_BadRow, iod_BadRow, .func (PySem.W.fnOf "__init__" "BadRow.__init__" (defArgs si_BadRow) (defBody si_BadRow) (defScope si_BadRow) .none ikV_BadRow idc_BadRow ipm_BadRow ian_BadRow icd_BadRow ict_BadRow), isl_BadRow⟩) (cm_BadRow : PySem.W.codeIn K icd_BadRow "BadRow.__init__" = true) (cn_BadRow : PySem.W.keepIn K (.ref I_BadRow) = true)
    (ca_BadMany : PySem.W.nsIn K mainGlobals "BadMany" = some (some (.ref C_BadMany))) (cb_BadMany : oexB K C_BadMany [.type "ValueError", .type "Exception", .type "BaseException", .type "object"] "ValueError.__new__" = true) (cc_BadMany : PySem.W.findIn K (.ref C_BadMany) "__init__" = some (some (.ref I_BadMany))) (cd_BadMany : PySem.W.typeIn K (.ref I_BadMany) = some (.type "function")) (ce_BadMany : xcB K C_BadMany = true)
    (cl_BadMany : K.lookup I_BadMany = some ⟨ioc_BadMany, iod_BadMany, .func (PySem.W.fnOf "__init__" "BadMany.__init__" (defArgs si_BadMany) (defBody si_BadMany) (defScope si_BadMany) .none ikV_BadMany idc_BadMany ipm_BadMany ian_BadMany icd_BadMany ict_BadMany), isl_BadMany⟩) (cm_BadMany : PySem.W.codeIn K icd_BadMany "BadMany.__init__" = true) (cn_BadMany : PySem.W.keepIn K (.ref I_BadMany) = true)
    (ca_Full : PySem.W.nsIn K mainGlobals "Full" = some (some (.ref C_Full))) (cb_Full : oexB K C_Full [.type "ValueError", .type "Exception", .type "BaseException", .type "object"] "ValueError.__new__" = true) (cc_Full : PySem.W.findIn K (.ref C_Full) "__init__" = some (some (.ref I_Full))) (cd_Full : PySem.W.typeIn K (.ref I_Full) = some (.type "function")) (ce_Full : xcB K C_Full = true)
    (cl_Full : K.lookup I_Full = some ⟨ioc_Full, iod_Full, .func (PySem.W.fnOf "__init__" "Full.__init__" (defArgs si_Full) (defBody si_Full) (defScope si_Full) .none ikV_Full idc_Full ipm_Full ian_Full icd_Full ict_Full), isl_Full⟩) (cm_Full : PySem.W.codeIn K icd_Full "Full.__init__" = true) (cn_Full : PySem.W.keepIn K (.ref I_Full) = true)
    (ca_NoRows : PySem.W.nsIn K mainGlobals "NoRows" = some (some (.ref C_NoRows))) (cb_NoRows : oexB K C_NoRows [.type "ValueError", .type "Exception", .type "BaseException", .type "object"] "ValueError.__new__" = true) (cc_NoRows : PySem.W.findIn K (.ref C_NoRows) "__init__" = some (some (.ref I_NoRows))) (cd_NoRows : PySem.W.typeIn K (.ref I_NoRows) = some (.type "function")) (ce_NoRows : xcB K C_NoRows = true)
    (cl_NoRows : K.lookup I_NoRows = some ⟨ioc_NoRows, iod_NoRows, .func (PySem.W.fnOf "__init__" "NoRows.__init__" (defArgs si_NoRows) (defBody si_NoRows) (defScope si_NoRows) .none ikV_NoRows idc_NoRows ipm_NoRows ian_NoRows icd_NoRows ict_NoRows), isl_NoRows⟩) (cm_NoRows : PySem.W.codeIn K icd_NoRows "NoRows.__init__" = true) (cn_NoRows : PySem.W.keepIn K (.ref I_NoRows) = true)
    (cx_BadSizes_BadRow : PySem.W.exmOne K (.ref C_BadSizes) (.ref C_BadRow) = some false)
    (cx_BadSizes_BadMany : PySem.W.exmOne K (.ref C_BadSizes) (.ref C_BadMany) = some false)
    (cx_BadSizes_Full : PySem.W.exmOne K (.ref C_BadSizes) (.ref C_Full) = some false)
    (cx_BadRow_BadRow : PySem.W.exmOne K (.ref C_BadRow) (.ref C_BadRow) = some true)
    (cx_BadRow_BadMany : PySem.W.exmOne K (.ref C_BadRow) (.ref C_BadMany) = some false)
    (cx_BadRow_Full : PySem.W.exmOne K (.ref C_BadRow) (.ref C_Full) = some false)
    (cx_BadMany_BadRow : PySem.W.exmOne K (.ref C_BadMany) (.ref C_BadRow) = some false)
    (cx_BadMany_BadMany : PySem.W.exmOne K (.ref C_BadMany) (.ref C_BadMany) = some true)
    (cx_BadMany_Full : PySem.W.exmOne K (.ref C_BadMany) (.ref C_Full) = some false)
    (cx_Full_BadRow : PySem.W.exmOne K (.ref C_Full) (.ref C_BadRow) = some false)
    (cx_Full_BadMany : PySem.W.exmOne K (.ref C_Full) (.ref C_BadMany) = some false)
    (cx_Full_Full : PySem.W.exmOne K (.ref C_Full) (.ref C_Full) = some true)
    (cx_NoRows_BadRow : PySem.W.exmOne K (.ref C_NoRows) (.ref C_BadRow) = some false)
    (cx_NoRows_BadMany : PySem.W.exmOne K (.ref C_NoRows) (.ref C_BadMany) = some false)
    (cx_NoRows_Full : PySem.W.exmOne K (.ref C_NoRows) (.ref C_Full) = some false)
    (cx_BadSizes_NoRows : PySem.W.exmOne K (.ref C_BadSizes) (.ref C_NoRows) = some false)
    (cx_BadRow_NoRows : PySem.W.exmOne K (.ref C_BadRow) (.ref C_NoRows) = some false)
    (cx_BadMany_NoRows : PySem.W.exmOne K (.ref C_BadMany) (.ref C_NoRows) = some false)
    (cx_Full_NoRows : PySem.W.exmOne K (.ref C_Full) (.ref C_NoRows) = some false)
    (cx_NoRows_NoRows : PySem.W.exmOne K (.ref C_NoRows) (.ref C_NoRows) = some true)
    (na_Tally : PySem.W.nsIn K mainGlobals "Tally" = some (some (.ref C_Tally))) (nb_Tally : PySem.W.plainGet K C_Tally Str.empty = true) (nc_Tally : PySem.W.hasDictIn K C_Tally = true) (nd_Tally : PySem.W.plainOver K C_Tally = true) (ne_Tally : PySem.W.findIn K (.ref C_Tally) "__setattr__" = some (some (.builtin "object.__setattr__"))) (nm_Tally : PySem.W.makesIn K C_Tally = true) (nk_Tally : PySem.W.keepIn K (.ref C_Tally) = true)
    (nf_Tally_sizes : PySem.W.findIn K (.ref C_Tally) "sizes" = some none)
    (nf_Tally_known : PySem.W.findIn K (.ref C_Tally) "known" = some none)
    (a0 : PySem.W.nsIn K mainGlobals "multiplied" = some (some (.ref f0))) (l0 : K.lookup f0 = some ⟨oc0, od0, .func (PySem.W.fnOf "multiplied" "multiplied" (defArgs s_multiplied) (defBody s_multiplied) (defScope s_multiplied) .none kV0 dc0 pm0 an0 cd0 ct0), sl0⟩) (c0 : PySem.W.codeIn K cd0 "multiplied" = true) (k0 : PySem.W.keepIn K (.ref f0) = true)
    (a1 : PySem.W.nsIn K mainGlobals "look_sizes" = some (some (.ref f1))) (l1 : K.lookup f1 = some ⟨oc1, od1, .func (PySem.W.fnOf "look_sizes" "look_sizes" (defArgs s_look_sizes) (defBody s_look_sizes) (defScope s_look_sizes) .none kV1 dc1 pm1 an1 cd1 ct1), sl1⟩) (c1 : PySem.W.codeIn K cd1 "look_sizes" = true) (k1 : PySem.W.keepIn K (.ref f1) = true)
    (a2 : PySem.W.nsIn K mainGlobals "look_row" = some (some (.ref f2))) (l2 : K.lookup f2 = some ⟨oc2, od2, .func (PySem.W.fnOf "look_row" "look_row" (defArgs s_look_row) (defBody s_look_row) (defScope s_look_row) .none kV2 dc2 pm2 an2 cd2 ct2), sl2⟩) (c2 : PySem.W.codeIn K cd2 "look_row" = true) (k2 : PySem.W.keepIn K (.ref f2) = true)
    (a3 : PySem.W.findIn K (.ref C_Tally) "__init__" = some (some (.ref f3))) (af3 : PySem.W.isFn K (.ref f3) = true) (l3 : K.lookup f3 = some ⟨oc3, od3, .func (PySem.W.fnOf "__init__" "Tally.__init__" (defArgs s_Tally_init) (defBody s_Tally_init) (defScope s_Tally_init) .none kV3 dc3 pm3 an3 cd3 ct3), sl3⟩) (c3 : PySem.W.codeIn K cd3 "Tally.__init__" = true) (k3 : PySem.W.keepIn K (.ref f3) = true)
    (a4 : PySem.W.findIn K (.ref C_Tally) "__len__" = some (some (.ref f4))) (af4 : PySem.W.isFn K (.ref f4) = true) (l4 : K.lookup f4 = some ⟨oc4, od4, .func (PySem.W.fnOf "__len__" "Tally.__len__" (defArgs s_Tally_len) (defBody s_Tally_len) (defScope s_Tally_len) .none kV4 dc4 pm4 an4 cd4 ct4), sl4⟩) (c4 : PySem.W.codeIn K cd4 "Tally.__len__" = true) (k4 : PySem.W.keepIn K (.ref f4) = true)
    (a5 : PySem.W.findIn K (.ref C_Tally) "__repr__" = some (some (.ref f5))) (af5 : PySem.W.isFn K (.ref f5) = true) (l5 : K.lookup f5 = some ⟨oc5, od5, .func (PySem.W.fnOf "__repr__" "Tally.__repr__" (defArgs s_Tally_repr) (defBody s_Tally_repr) (defScope s_Tally_repr) .none kV5 dc5 pm5 an5 cd5 ct5), sl5⟩) (c5 : PySem.W.codeIn K cd5 "Tally.__repr__" = true) (k5 : PySem.W.keepIn K (.ref f5) = true)
    (a6 : PySem.W.findIn K (.ref C_Tally) "whole" = some (some (.ref f6))) (af6 : PySem.W.isFn K (.ref f6) = true) (l6 : K.lookup f6 = some ⟨oc6, od6, .func (PySem.W.fnOf "whole" "Tally.whole" (defArgs s_Tally_whole) (defBody s_Tally_whole) (defScope s_Tally_whole) .none kV6 dc6 pm6 an6 cd6 ct6), sl6⟩) (c6 : PySem.W.codeIn K cd6 "Tally.whole" = true) (k6 : PySem.W.keepIn K (.ref f6) = true)
    (a7 : PySem.W.findIn K (.ref C_Tally) "put" = some (some (.ref f7))) (af7 : PySem.W.isFn K (.ref f7) = true) (l7 : K.lookup f7 = some ⟨oc7, od7, .func (PySem.W.fnOf "put" "Tally.put" (defArgs s_Tally_put) (defBody s_Tally_put) (defScope s_Tally_put) (.ref dT7) kV7 dc7 pm7 an7 cd7 ct7), sl7⟩) (c7 : PySem.W.codeIn K cd7 "Tally.put" = true) (k7 : PySem.W.keepIn K (.ref f7) = true) (t7 : K.lookup dT7 = some ⟨dq7, dr7, .seq (List.toArray [.int 1 dt7_0]) dn7, dz7⟩)
    (a8 : PySem.W.findIn K (.ref C_Tally) "take" = some (some (.ref f8))) (af8 : PySem.W.isFn K (.ref f8) = true) (l8 : K.lookup f8 = some ⟨oc8, od8, .func (PySem.W.fnOf "take" "Tally.take" (defArgs s_Tally_take) (defBody s_Tally_take) (defScope s_Tally_take) (.ref dT8) kV8 dc8 pm8 an8 cd8 ct8), sl8⟩) (c8 : PySem.W.codeIn K cd8 "Tally.take" = true) (k8 : PySem.W.keepIn K (.ref f8) = true) (t8 : K.lookup dT8 = some ⟨dq8, dr8, .seq (List.toArray [.int 1 dt8_0]) dn8, dz8⟩)
    (a9 : PySem.W.findIn K (.ref C_Tally) "rows" = some (some (.ref f9))) (af9 : PySem.W.isFn K (.ref f9) = true) (l9 : K.lookup f9 = some ⟨oc9, od9, .func (PySem.W.fnOf "rows" "Tally.rows" (defArgs s_Tally_rows) (defBody s_Tally_rows) (defScope s_Tally_rows) .none kV9 dc9 pm9 an9 cd9 ct9), sl9⟩) (c9 : PySem.W.codeIn K cd9 "Tally.rows" = true) (k9 : PySem.W.keepIn K (.ref f9) = true)
    (a10 : PySem.W.nsIn K mainGlobals "_law_cell" = some (some (.ref f10))) (l10 : K.lookup f10 = some ⟨oc10, od10, .func (PySem.W.fnOf "_law_cell" "_law_cell" (defArgs s__law_cell) (defBody s__law_cell) (defScope s__law_cell) .none kV10 dc10 pm10 an10 cd10 ct10), sl10⟩) (c10 : PySem.W.codeIn K cd10 "_law_cell" = true) (k10 : PySem.W.keepIn K (.ref f10) = true)
    (a11 : PySem.W.nsIn K mainGlobals "_law_draws" = some (some (.ref f11))) (l11 : K.lookup f11 = some ⟨oc11, od11, .func (PySem.W.fnOf "_law_draws" "_law_draws" (defArgs s__law_draws) (defBody s__law_draws) (defScope s__law_draws) .none kV11 dc11 pm11 an11 cd11 ct11), sl11⟩) (c11 : PySem.W.codeIn K cd11 "_law_draws" = true) (k11 : PySem.W.keepIn K (.ref f11) = true)
    (a12 : PySem.W.nsIn K mainGlobals "_law_sizes" = some (some (.ref f12))) (l12 : K.lookup f12 = some ⟨oc12, od12, .func (PySem.W.fnOf "_law_sizes" "_law_sizes" (defArgs s__law_sizes) (defBody s__law_sizes) (defScope s__law_sizes) .none kV12 dc12 pm12 an12 cd12 ct12), sl12⟩) (c12 : PySem.W.codeIn K cd12 "_law_sizes" = true) (k12 : PySem.W.keepIn K (.ref f12) = true)
    (a13 : PySem.W.nsIn K mainGlobals "_law_rows" = some (some (.ref f13))) (l13 : K.lookup f13 = some ⟨oc13, od13, .func (PySem.W.fnOf "_law_rows" "_law_rows" (defArgs s__law_rows) (defBody s__law_rows) (defScope s__law_rows) .none kV13 dc13 pm13 an13 cd13 ct13), sl13⟩) (c13 : PySem.W.codeIn K cd13 "_law_rows" = true) (k13 : PySem.W.keepIn K (.ref f13) = true)
    (a14 : PySem.W.nsIn K mainGlobals "_law_tally_deed" = some (some (.ref f14))) (l14 : K.lookup f14 = some ⟨oc14, od14, .func (PySem.W.fnOf "_law_tally_deed" "_law_tally_deed" (defArgs s__law_tally_deed) (defBody s__law_tally_deed) (defScope s__law_tally_deed) .none kV14 dc14 pm14 an14 cd14 ct14), sl14⟩) (c14 : PySem.W.codeIn K cd14 "_law_tally_deed" = true) (k14 : PySem.W.keepIn K (.ref f14) = true)
    (a15 : PySem.W.nsIn K mainGlobals "_law_tally_due" = some (some (.ref f15))) (l15 : K.lookup f15 = some ⟨oc15, od15, .func (PySem.W.fnOf "_law_tally_due" "_law_tally_due" (defArgs s__law_tally_due) (defBody s__law_tally_due) (defScope s__law_tally_due) .none kV15 dc15 pm15 an15 cd15 ct15), sl15⟩) (c15 : PySem.W.codeIn K cd15 "_law_tally_due" = true) (k15 : PySem.W.keepIn K (.ref f15) = true)
    (a16 : PySem.W.nsIn K mainGlobals "_law_tally_next" = some (some (.ref f16))) (l16 : K.lookup f16 = some ⟨oc16, od16, .func (PySem.W.fnOf "_law_tally_next" "_law_tally_next" (defArgs s__law_tally_next) (defBody s__law_tally_next) (defScope s__law_tally_next) .none kV16 dc16 pm16 an16 cd16 ct16), sl16⟩) (c16 : PySem.W.codeIn K cd16 "_law_tally_next" = true) (k16 : PySem.W.keepIn K (.ref f16) = true)
    (a17 : PySem.W.nsIn K mainGlobals "_law_same" = some (some (.ref f17))) (l17 : K.lookup f17 = some ⟨oc17, od17, .func (PySem.W.fnOf "_law_same" "_law_same" (defArgs s__law_same) (defBody s__law_same) (defScope s__law_same) .none kV17 dc17 pm17 an17 cd17 ct17), sl17⟩) (c17 : PySem.W.codeIn K cd17 "_law_same" = true) (k17 : PySem.W.keepIn K (.ref f17) = true)
    (a18 : PySem.W.nsIn K mainGlobals "_law_done" = some (some (.ref f18))) (l18 : K.lookup f18 = some ⟨oc18, od18, .func (PySem.W.fnOf "_law_done" "_law_done" (defArgs s__law_done) (defBody s__law_done) (defScope s__law_done) .none kV18 dc18 pm18 an18 cd18 ct18), sl18⟩) (c18 : PySem.W.codeIn K cd18 "_law_done" = true) (k18 : PySem.W.keepIn K (.ref f18) = true)
    (a19 : PySem.W.nsIn K mainGlobals "law" = some (some (.ref f19))) (l19 : K.lookup f19 = some ⟨oc19, od19, .func (PySem.W.fnOf "law" "law" (defArgs s_law) (defBody s_law) (defScope s_law) .none kV19 dc19 pm19 an19 (.ref cL) ct19), sl19⟩) (c19 : PySem.W.codeIn K (.ref cL) "law" = true) (k19 : PySem.W.keepIn K (.ref f19) = true)
    (z_abs : PySem.W.nsIn K mainGlobals "abs" = some none)
    (z_all : PySem.W.nsIn K mainGlobals "all" = some none)
    (z_bool : PySem.W.nsIn K mainGlobals "bool" = some none)
    (z_int : PySem.W.nsIn K mainGlobals "int" = some none)
    (z_isinstance : PySem.W.nsIn K mainGlobals "isinstance" = some none)
    (z_len : PySem.W.nsIn K mainGlobals "len" = some none)
    (z_list : PySem.W.nsIn K mainGlobals "list" = some none)
    (z_range : PySem.W.nsIn K mainGlobals "range" = some none)
    (z_repr : PySem.W.nsIn K mainGlobals "repr" = some none)
    (z_sorted : PySem.W.nsIn K mainGlobals "sorted" = some none)
    (z_str : PySem.W.nsIn K mainGlobals "str" = some none)
    (z_sum : PySem.W.nsIn K mainGlobals "sum" = some none)
    (z_tuple : PySem.W.nsIn K mainGlobals "tuple" = some none)
    (z_zip : PySem.W.nsIn K mainGlobals "zip" = some none)
    (x_MOST_COLUMNS : PySem.W.nsIn K mainGlobals "MOST_COLUMNS" = some (some (.int 6 tc_MOST_COLUMNS)))
    (x_MOST_COUNTED : PySem.W.nsIn K mainGlobals "MOST_COUNTED" = some (some (.int 10000 tc_MOST_COUNTED)))
    (x_MOST_ROWS : PySem.W.nsIn K mainGlobals "MOST_ROWS" = some (some (.int 300 tc_MOST_ROWS)))
    (x_MOST_SIZE : PySem.W.nsIn K mainGlobals "MOST_SIZE" = some (some (.int 4 tc_MOST_SIZE)))
    {PL : Addr} {cvs : Array Value} {coc : Value} {cod : Option Addr} {csl : Array (Option Value)} (tc : K.lookup cL = some ⟨coc, cod, .fields cvs, csl⟩) (tp : cvs[11]? = some (.ref PL)) (tn : K.lookup PL = none)
    : ∃ (fd : FuncData) (cs : List (Addr × Addr)), TabsAre K lamNs cs ∧ (∀ p ∈ cs, K.lookup p.2 = none) ∧ (∀ (s : Shared) (v : Value), BindsTo s fd ⟨[v], []⟩ [("_law_script", v)]) ∧ ∀ base : Heap, K.In base → base.Ns mainGlobals mg → (∀ p ∈ cs, LamX.TabB base mg p.1 p.2) → FnOk l.prog w K mg base (L2.CX l.prog w) 8 fa fd ["_law_script"] (spD K 1 F_law) := by
  have e := hfa.symm.trans (PySem.W.mg_of X G a19)
  cases e
  have IF_BadSizes := fun_mk (st := si_BadSizes) cl_BadSizes cm_BadSizes cn_BadSizes
  have ib_BadSizes := IF_BadSizes.binds (ps := ["self"]) fun _ _ _ _ _ _ us hl => by obtain ⟨_, rfl⟩ := arL1 hl; rfl
  have X_BadSizes : ExK K mg "BadSizes" C_BadSizes I_BadSizes := ⟨oexB_ok PySem.F.excBase_ValueError PySem.F.store_ValueError cb_BadSizes, PySem.W.mg_of X G ca_BadSizes, clsV_of ca_BadSizes, cc_BadSizes, cd_BadSizes⟩
  have IF_BadRow := fun_mk (st := si_BadRow) cl_BadRow cm_BadRow cn_BadRow
  have ib_BadRow := IF_BadRow.binds (ps := ["self"]) fun _ _ _ _ _ _ us hl => by obtain ⟨_, rfl⟩ := arL1 hl; rfl
  have X_BadRow : ExK K mg "BadRow" C_BadRow I_BadRow := ⟨oexB_ok PySem.F.excBase_ValueError PySem.F.store_ValueError cb_BadRow, PySem.W.mg_of X G ca_BadRow, clsV_of ca_BadRow, cc_BadRow, cd_BadRow⟩
  have IF_BadMany := fun_mk (st := si_BadMany) cl_BadMany cm_BadMany cn_BadMany
  have ib_BadMany := IF_BadMany.binds (ps := ["self"]) fun _ _ _ _ _ _ us hl => by obtain ⟨_, rfl⟩ := arL1 hl; rfl
  have X_BadMany : ExK K mg "BadMany" C_BadMany I_BadMany := ⟨oexB_ok PySem.F.excBase_ValueError PySem.F.store_ValueError cb_BadMany, PySem.W.mg_of X G ca_BadMany, clsV_of ca_BadMany, cc_BadMany, cd_BadMany⟩
  have IF_Full := fun_mk (st := si_Full) cl_Full cm_Full cn_Full
  have ib_Full := IF_Full.binds (ps := ["self"]) fun _ _ _ _ _ _ us hl => by obtain ⟨_, rfl⟩ := arL1 hl; rfl
  have X_Full : ExK K mg "Full" C_Full I_Full := ⟨oexB_ok PySem.F.excBase_ValueError PySem.F.store_ValueError cb_Full, PySem.W.mg_of X G ca_Full, clsV_of ca_Full, cc_Full, cd_Full⟩
  have IF_NoRows := fun_mk (st := si_NoRows) cl_NoRows cm_NoRows cn_NoRows
  have ib_NoRows := IF_NoRows.binds (ps := ["self", "there"]) fun _ _ _ _ _ _ us hl => by obtain ⟨_, _, rfl⟩ := arL2 hl; rfl
  have X_NoRows : ExK K mg "NoRows" C_NoRows I_NoRows := ⟨oexB_ok PySem.F.excBase_ValueError PySem.F.store_ValueError cb_NoRows, PySem.W.mg_of X G ca_NoRows, clsV_of ca_NoRows, cc_NoRows, cd_NoRows⟩
  have kc_Tally : ClK K "Tally" C_Tally := ⟨clsV_of na_Tally, ⟨nb_Tally, nc_Tally, nd_Tally, ne_Tally⟩⟩
  have F0 := fun_mk (st := s_multiplied) l0 c0 k0
  have b0 := F0.binds (ps := ["sizes"]) fun _ _ _ _ _ _ us hl => by obtain ⟨_, rfl⟩ := arL1 hl; rfl
  have F1 := fun_mk (st := s_look_sizes) l1 c1 k1
  have b1 := F1.binds (ps := ["sizes"]) fun _ _ _ _ _ _ us hl => by obtain ⟨_, rfl⟩ := arL1 hl; rfl
  have F2 := fun_mk (st := s_look_row) l2 c2 k2
  have b2 := F2.binds (ps := ["sizes", "row"]) fun _ _ _ _ _ _ us hl => by obtain ⟨_, _, rfl⟩ := arL2 hl; rfl
  have F3 := fun_mk (st := s_Tally_init) l3 c3 k3
  have b3 := F3.binds (ps := ["self", "sizes"]) fun _ _ _ _ _ _ us hl => by obtain ⟨_, _, rfl⟩ := arL2 hl; rfl
  have F4 := fun_mk (st := s_Tally_len) l4 c4 k4
  have b4 := F4.binds (ps := ["self"]) fun _ _ _ _ _ _ us hl => by obtain ⟨_, rfl⟩ := arL1 hl; rfl
  have F5 := fun_mk (st := s_Tally_repr) l5 c5 k5
  have b5 := F5.binds (ps := ["self"]) fun _ _ _ _ _ _ us hl => by obtain ⟨_, rfl⟩ := arL1 hl; rfl
  have F6 := fun_mk (st := s_Tally_whole) l6 c6 k6
  have b6 := F6.binds (ps := ["self"]) fun _ _ _ _ _ _ us hl => by obtain ⟨_, rfl⟩ := arL1 hl; rfl
  have F7 := funD_mk (st := s_Tally_put) (dvs := [V.int 1]) l7 c7 k7 t7 rfl (.cons ⟨_, rfl⟩ .nil) (by simp)
  have b7 := binds_all (F7.binds1 (ps := ["self", "row", "many"]) 3 1 (by simp) rfl fun _ _ _ _ _ _ _ us its h1 h2 => by obtain ⟨_, _, _, rfl⟩ := arL3 h1; obtain ⟨_, rfl⟩ := arL1 h2; exact ⟨_, rfl, rfl⟩) rfl
  obtain ⟨e2_7, dv2_7, bd2_7⟩ := F7.binds1 (ps := ["self", "row", "many"]) 2 0 (by simp) rfl fun _ _ _ _ _ _ _ us its h1 h2 => by obtain ⟨_, _, rfl⟩ := arL2 h1; obtain ⟨_, rfl⟩ := arL1 h2; exact ⟨_, rfl, rfl⟩
  have F8 := funD_mk (st := s_Tally_take) (dvs := [V.int 1]) l8 c8 k8 t8 rfl (.cons ⟨_, rfl⟩ .nil) (by simp)
  have b8 := binds_all (F8.binds1 (ps := ["self", "row", "many"]) 3 1 (by simp) rfl fun _ _ _ _ _ _ _ us its h1 h2 => by obtain ⟨_, _, _, rfl⟩ := arL3 h1; obtain ⟨_, rfl⟩ := arL1 h2; exact ⟨_, rfl, rfl⟩) rfl
  have F9 := fun_mk (st := s_Tally_rows) l9 c9 k9
  have b9 := F9.binds (ps := ["self"]) fun _ _ _ _ _ _ us hl => by obtain ⟨_, rfl⟩ := arL1 hl; rfl
  have F10 := fun_mk (st := s__law_cell) l10 c10 k10
  have b10 := F10.binds (ps := ["_law_script", "_law_k"]) fun _ _ _ _ _ _ us hl => by obtain ⟨_, _, rfl⟩ := arL2 hl; rfl
  have F11 := fun_mk (st := s__law_draws) l11 c11 k11
  have b11 := F11.binds (ps := ["_law_cell_here", "_law_sizes_here"]) fun _ _ _ _ _ _ us hl => by obtain ⟨_, _, rfl⟩ := arL2 hl; rfl
  have F12 := fun_mk (st := s__law_sizes) l12 c12 k12
  have b12 := F12.binds (ps := ["_law_cell_here", "_law_upto"]) fun _ _ _ _ _ _ us hl => by obtain ⟨_, _, rfl⟩ := arL2 hl; rfl
  have F13 := fun_mk (st := s__law_rows) l13 c13 k13
  have b13 := F13.binds (ps := ["_law_sizes_here"]) fun _ _ _ _ _ _ us hl => by obtain ⟨_, rfl⟩ := arL1 hl; rfl
  have F14 := fun_mk (st := s__law_tally_deed) l14 c14 k14
  have b14 := F14.binds (ps := ["_law_d", "_law_sizes_here", "_law_known"]) fun _ _ _ _ _ _ us hl => by obtain ⟨_, _, _, rfl⟩ := arL3 hl; rfl
  have F15 := fun_mk (st := s__law_tally_due) l15 c15 k15
  have b15 := F15.binds (ps := ["_law_deed", "_law_sizes_here", "_law_known"]) fun _ _ _ _ _ _ us hl => by obtain ⟨_, _, _, rfl⟩ := arL3 hl; rfl
  have F16 := fun_mk (st := s__law_tally_next) l16 c16 k16
  have b16 := F16.binds (ps := ["_law_deed", "_law_known"]) fun _ _ _ _ _ _ us hl => by obtain ⟨_, _, rfl⟩ := arL2 hl; rfl
  have F17 := fun_mk (st := s__law_same) l17 c17 k17
  have b17 := F17.binds (ps := ["_law_found", "_law_due"]) fun _ _ _ _ _ _ us hl => by obtain ⟨_, _, rfl⟩ := arL2 hl; rfl
  have F18 := fun_mk (st := s__law_done) l18 c18 k18
  have b18 := F18.binds (ps := ["_law_made", "_law_deed"]) fun _ _ _ _ _ _ us hl => by obtain ⟨_, _, rfl⟩ := arL2 hl; rfl
  have F19 := fun_mk (st := s_law) l19 c19 k19
  have b19 := F19.binds (ps := ["_law_script"]) fun _ _ _ _ _ _ us hl => by obtain ⟨_, rfl⟩ := arL1 hl; rfl
  have ht := tabIn_of a19 l19 rfl tc tp
  refine ⟨(PySem.W.fnOf "law" "law" (defArgs s_law) (defBody s_law) (defScope s_law) .none kV19 dc19 pm19 an19 (.ref cL) ct19), [(cL, PL)], ⟨ht, trivial⟩, ?_, fun s v => .of_eq rfl, fun base _ _ TB => ?_⟩
  · intro p hp
    simp only [List.mem_cons, List.not_mem_nil, or_false] at hp
    rcases hp with rfl
    · exact tn
  have T : Txt K mg ⟨C_BadSizes, I_BadSizes, (PySem.W.fnOf "__init__" "BadSizes.__init__" (defArgs si_BadSizes) (defBody si_BadSizes) (defScope si_BadSizes) .none ikV_BadSizes idc_BadSizes ipm_BadSizes ian_BadSizes icd_BadSizes ict_BadSizes), C_BadRow, I_BadRow, (PySem.W.fnOf "__init__" "BadRow.__init__" (defArgs si_BadRow) (defBody si_BadRow) (defScope si_BadRow) .none ikV_BadRow idc_BadRow ipm_BadRow ian_BadRow icd_BadRow ict_BadRow), C_BadMany, I_BadMany, (PySem.W.fnOf "__init__" "BadMany.__init__" (defArgs si_BadMany) (defBody si_BadMany) (defScope si_BadMany) .none ikV_BadMany idc_BadMany ipm_BadMany ian_BadMany icd_BadMany ict_BadMany), C_Full, I_Full, (PySem.W.fnOf "__init__" "Full.__init__" (defArgs si_Full) (defBody si_Full) (defScope si_Full) .none ikV_Full idc_Full ipm_Full ian_Full icd_Full ict_Full), C_NoRows, I_NoRows, (PySem.W.fnOf "__init__" "NoRows.__init__" (defArgs si_NoRows) (defBody si_NoRows) (defScope si_NoRows) .none ikV_NoRows idc_NoRows ipm_NoRows ian_NoRows icd_NoRows ict_NoRows), C_Tally, f0, (PySem.W.fnOf "multiplied" "multiplied" (defArgs s_multiplied) (defBody s_multiplied) (defScope s_multiplied) .none kV0 dc0 pm0 an0 cd0 ct0), f1, (PySem.W.fnOf "look_sizes" "look_sizes" (defArgs s_look_sizes) (defBody s_look_sizes) (defScope s_look_sizes) .none kV1 dc1 pm1 an1 cd1 ct1), f2, (PySem.W.fnOf "look_row" "look_row" (defArgs s_look_row) (defBody s_look_row) (defScope s_look_row) .none kV2 dc2 pm2 an2 cd2 ct2), f3, (PySem.W.fnOf "__init__" "Tally.__init__" (defArgs s_Tally_init) (defBody s_Tally_init) (defScope s_Tally_init) .none kV3 dc3 pm3 an3 cd3 ct3), f4, (PySem.W.fnOf "__len__" "Tally.__len__" (defArgs s_Tally_len) (defBody s_Tally_len) (defScope s_Tally_len) .none kV4 dc4 pm4 an4 cd4 ct4), f5, (PySem.W.fnOf "__repr__" "Tally.__repr__" (defArgs s_Tally_repr) (defBody s_Tally_repr) (defScope s_Tally_repr) .none kV5 dc5 pm5 an5 cd5 ct5), f6, (PySem.W.fnOf "whole" "Tally.whole" (defArgs s_Tally_whole) (defBody s_Tally_whole) (defScope s_Tally_whole) .none kV6 dc6 pm6 an6 cd6 ct6), f7, (PySem.W.fnOf "put" "Tally.put" (defArgs s_Tally_put) (defBody s_Tally_put) (defScope s_Tally_put) (.ref dT7) kV7 dc7 pm7 an7 cd7 ct7), f8, (PySem.W.fnOf "take" "Tally.take" (defArgs s_Tally_take) (defBody s_Tally_take) (defScope s_Tally_take) (.ref dT8) kV8 dc8 pm8 an8 cd8 ct8), f9, (PySem.W.fnOf "rows" "Tally.rows" (defArgs s_Tally_rows) (defBody s_Tally_rows) (defScope s_Tally_rows) .none kV9 dc9 pm9 an9 cd9 ct9), f10, (PySem.W.fnOf "_law_cell" "_law_cell" (defArgs s__law_cell) (defBody s__law_cell) (defScope s__law_cell) .none kV10 dc10 pm10 an10 cd10 ct10), f11, (PySem.W.fnOf "_law_draws" "_law_draws" (defArgs s__law_draws) (defBody s__law_draws) (defScope s__law_draws) .none kV11 dc11 pm11 an11 cd11 ct11), f12, (PySem.W.fnOf "_law_sizes" "_law_sizes" (defArgs s__law_sizes) (defBody s__law_sizes) (defScope s__law_sizes) .none kV12 dc12 pm12 an12 cd12 ct12), f13, (PySem.W.fnOf "_law_rows" "_law_rows" (defArgs s__law_rows) (defBody s__law_rows) (defScope s__law_rows) .none kV13 dc13 pm13 an13 cd13 ct13), f14, (PySem.W.fnOf "_law_tally_deed" "_law_tally_deed" (defArgs s__law_tally_deed) (defBody s__law_tally_deed) (defScope s__law_tally_deed) .none kV14 dc14 pm14 an14 cd14 ct14), f15, (PySem.W.fnOf "_law_tally_due" "_law_tally_due" (defArgs s__law_tally_due) (defBody s__law_tally_due) (defScope s__law_tally_due) .none kV15 dc15 pm15 an15 cd15 ct15), f16, (PySem.W.fnOf "_law_tally_next" "_law_tally_next" (defArgs s__law_tally_next) (defBody s__law_tally_next) (defScope s__law_tally_next) .none kV16 dc16 pm16 an16 cd16 ct16), f17, (PySem.W.fnOf "_law_same" "_law_same" (defArgs s__law_same) (defBody s__law_same) (defScope s__law_same) .none kV17 dc17 pm17 an17 cd17 ct17), f18, (PySem.W.fnOf "_law_done" "_law_done" (defArgs s__law_done) (defBody s__law_done) (defScope s__law_done) .none kV18 dc18 pm18 an18 cd18 ct18), fa, (PySem.W.fnOf "law" "law" (defArgs s_law) (defBody s_law) (defScope s_law) .none kV19 dc19 pm19 an19 (.ref cL) ct19), e2_7, (V.int 6), (Value.int 6 tc_MOST_COLUMNS), (V.int 10000), (Value.int 10000 tc_MOST_COUNTED), (V.int 300), (Value.int 300 tc_MOST_ROWS), (V.int 4), (Value.int 4 tc_MOST_SIZE)⟩ := ⟨X_BadSizes, IF_BadSizes, ib_BadSizes, xcB_ok ce_BadSizes, X_BadRow, IF_BadRow, ib_BadRow, xcB_ok ce_BadRow, X_BadMany, IF_BadMany, ib_BadMany, xcB_ok ce_BadMany, X_Full, IF_Full, ib_Full, xcB_ok ce_Full, X_NoRows, IF_NoRows, ib_NoRows, xcB_ok ce_NoRows, PySem.W.mg_of X G ca_BadMany, PySem.W.mg_of X G ca_BadRow, PySem.W.mg_of X G ca_Full, PySem.W.mg_of X G ca_NoRows, cx_BadSizes_BadRow, cx_BadSizes_BadMany, cx_BadSizes_Full, cx_BadRow_BadRow, cx_BadRow_BadMany, cx_BadRow_Full, cx_BadMany_BadRow, cx_BadMany_BadMany, cx_BadMany_Full, cx_Full_BadRow, cx_Full_BadMany, cx_Full_Full, cx_NoRows_BadRow, cx_NoRows_BadMany, cx_NoRows_Full, cx_BadSizes_NoRows, cx_BadRow_NoRows, cx_BadMany_NoRows, cx_Full_NoRows, cx_NoRows_NoRows, F0, PySem.W.mg_of X G a0, k0, b0, F1, PySem.W.mg_of X G a1, k1, b1, F2, PySem.W.mg_of X G a2, k2, b2, F3, ⟨a3, af3, k3⟩, b3, F4, ⟨a4, af4, k4⟩, b4, F5, ⟨a5, af5, k5⟩, b5, F6, ⟨a6, af6, k6⟩, b6, F7, bd2_7, dv2_7, fun _ => (.cons (.v _) .nil), ⟨a7, af7, k7⟩, b7, F8, ⟨a8, af8, k8⟩, b8, F9, ⟨a9, af9, k9⟩, b9, F10, PySem.W.mg_of X G a10, k10, b10, F11, PySem.W.mg_of X G a11, k11, b11, F12, PySem.W.mg_of X G a12, k12, b12, F13, PySem.W.mg_of X G a13, k13, b13, F14, PySem.W.mg_of X G a14, k14, b14, F15, PySem.W.mg_of X G a15, k15, b15, F16, PySem.W.mg_of X G a16, k16, b16, F17, PySem.W.mg_of X G a17, k17, b17, F18, PySem.W.mg_of X G a18, k18, b18, F19, PySem.W.mg_of X G a19, k19, b19, kc_Tally, PySem.W.mg_of X G na_Tally, ⟨nm_Tally, a3, af3, nk_Tally⟩, fun c hc => by simp only [List.mem_cons, List.not_mem_nil, or_false] at hc; subst hc; exact ⟨_, kc_Tally, nf_Tally_sizes⟩, fun c hc => by simp only [List.mem_cons, List.not_mem_nil, or_false] at hc; subst hc; exact ⟨_, kc_Tally, nf_Tally_known⟩, PySem.W.mg_none_of X G z_abs, PySem.W.mg_none_of X G z_all, PySem.W.mg_none_of X G z_bool, PySem.W.mg_none_of X G z_int, PySem.W.mg_none_of X G z_isinstance, PySem.W.mg_none_of X G z_len, PySem.W.mg_none_of X G z_list, PySem.W.mg_none_of X G z_range, PySem.W.mg_none_of X G z_repr, PySem.W.mg_none_of X G z_sorted, PySem.W.mg_none_of X G z_str, PySem.W.mg_none_of X G z_sum, PySem.W.mg_none_of X G z_tuple, PySem.W.mg_none_of X G z_zip, PySem.W.mg_of X G x_MOST_COLUMNS, ⟨_, rfl⟩, fun _ => .v _, PySem.W.mg_of X G x_MOST_COUNTED, ⟨_, rfl⟩, fun _ => .v _, PySem.W.mg_of X G x_MOST_ROWS, ⟨_, rfl⟩, fun _ => .v _, PySem.W.mg_of X G x_MOST_SIZE, ⟨_, rfl⟩, fun _ => .v _⟩
  exact ok_law T l19 c19 (in_tabs ht) (TB (cL, PL) (by simp))
end My
open PySem PySem.W PyProof.Rows in
set_option maxRecDepth 100000 in
set_option maxHeartbeats 0 in
theorem PySem.Challenge.cw_tallyloom_k06_tallies_by_their_deeds_holds : PySem.Challenge.rw_tallyloom_k06_tallies_by_their_deeds.Holds := by
  w_on; o_law; k_head; (case hw => w_witness2)
  k_fill
  refine DV.walkT (l := PySem.Challenge.rw_tallyloom_k06_tallies_by_their_deeds) (n := 63) (k := 8) (x := "_law_script") (F := My.F_law) rfl (by decide) rfl ⟨rfl, by decide, by decide⟩ (fun w h Y => by first | exact PySem.W.kIn_of Y | exact PySem.W.km_in_of Y) ?hrec ?F My.law_true
  case hrec => kernel_rfl
  case F =>
    intro w mg fa h KX G hmg
    refine' My.all_mk KX G hmg ?ca_BadSizes ?cb_BadSizes ?cc_BadSizes ?cd_BadSizes ?ce_BadSizes ?cl_BadSizes ?cm_BadSizes ?cn_BadSizes ?ca_BadRow ?cb_BadRow ?cc_BadRow ?cd_BadRow ?ce_BadRow ?cl_BadRow ?cm_BadRow ?cn_BadRow ?ca_BadMany ?cb_BadMany ?cc_BadMany ?cd_BadMany ?ce_BadMany ?cl_BadMany ?cm_BadMany ?cn_BadMany ?ca_Full ?cb_Full ?cc_Full ?cd_Full ?ce_Full ?cl_Full ?cm_Full ?cn_Full ?ca_NoRows ?cb_NoRows ?cc_NoRows ?cd_NoRows ?ce_NoRows ?cl_NoRows ?cm_NoRows ?cn_NoRows ?cx_BadSizes_BadRow ?cx_BadSizes_BadMany ?cx_BadSizes_Full ?cx_BadRow_BadRow ?cx_BadRow_BadMany ?cx_BadRow_Full ?cx_BadMany_BadRow ?cx_BadMany_BadMany ?cx_BadMany_Full ?cx_Full_BadRow ?cx_Full_BadMany ?cx_Full_Full ?cx_NoRows_BadRow ?cx_NoRows_BadMany ?cx_NoRows_Full ?cx_BadSizes_NoRows ?cx_BadRow_NoRows ?cx_BadMany_NoRows ?cx_Full_NoRows ?cx_NoRows_NoRows ?na_Tally ?nb_Tally ?nc_Tally ?nd_Tally ?ne_Tally ?nm_Tally ?nk_Tally ?nf_Tally_sizes ?nf_Tally_known ?a0 ?l0 ?c0 ?k0 ?a1 ?l1 ?c1 ?k1 ?a2 ?l2 ?c2 ?k2 ?a3 ?af3 ?l3 ?c3 ?k3 ?a4 ?af4 ?l4 ?c4 ?k4 ?a5 ?af5 ?l5 ?c5 ?k5 ?a6 ?af6 ?l6 ?c6 ?k6 ?a7 ?af7 ?l7 ?c7 ?k7 ?t7 ?a8 ?af8 ?l8 ?c8 ?k8 ?t8 ?a9 ?af9 ?l9 ?c9 ?k9 ?a10 ?l10 ?c10 ?k10 ?a11 ?l11 ?c11 ?k11 ?a12 ?l12 ?c12 ?k12 ?a13 ?l13 ?c13 ?k13 ?a14 ?l14 ?c14 ?k14 ?a15 ?l15 ?c15 ?k15 ?a16 ?l16 ?c16 ?k16 ?a17 ?l17 ?c17 ?k17 ?a18 ?l18 ?c18 ?k18 ?a19 ?l19 ?c19 ?k19 ?z_abs ?z_all ?z_bool ?z_int ?z_isinstance ?z_len ?z_list ?z_range ?z_repr ?z_sorted ?z_str ?z_sum ?z_tuple ?z_zip ?x_MOST_COLUMNS ?x_MOST_COUNTED ?x_MOST_ROWS ?x_MOST_SIZE ?tc ?tp ?tn
    (case ca_BadSizes => k_is)
    (case cb_BadSizes => kernel_rfl)
    (case cc_BadSizes => k_is)
    (case cd_BadSizes => k_is)
    (case ce_BadSizes => kernel_rfl)
    (case cl_BadSizes => k_is)
    (case cm_BadSizes => k_is)
    (case cn_BadSizes => k_is)
    (case ca_BadRow => k_is)
    (case cb_BadRow => kernel_rfl)
    (case cc_BadRow => k_is)
    (case cd_BadRow => k_is)
    (case ce_BadRow => kernel_rfl)
    (case cl_BadRow => k_is)
    (case cm_BadRow => k_is)
    (case cn_BadRow => k_is)
    (case ca_BadMany => k_is)
    (case cb_BadMany => kernel_rfl)
    (case cc_BadMany => k_is)
    (case cd_BadMany => k_is)
    (case ce_BadMany => kernel_rfl)
    (case cl_BadMany => k_is)
    (case cm_BadMany => k_is)
    (case cn_BadMany => k_is)
    (case ca_Full => k_is)
    (case cb_Full => kernel_rfl)
    (case cc_Full => k_is)
    (case cd_Full => k_is)
    (case ce_Full => kernel_rfl)
    (case cl_Full => k_is)
    (case cm_Full => k_is)
    (case cn_Full => k_is)
    (case ca_NoRows => k_is)
    (case cb_NoRows => kernel_rfl)
    (case cc_NoRows => k_is)
    (case cd_NoRows => k_is)
    (case ce_NoRows => kernel_rfl)
    (case cl_NoRows => k_is)
    (case cm_NoRows => k_is)
    (case cn_NoRows => k_is)
    (case cx_BadSizes_BadRow => kernel_rfl)
    (case cx_BadSizes_BadMany => kernel_rfl)
    (case cx_BadSizes_Full => kernel_rfl)
    (case cx_BadRow_BadRow => kernel_rfl)
    (case cx_BadRow_BadMany => kernel_rfl)
    (case cx_BadRow_Full => kernel_rfl)
    (case cx_BadMany_BadRow => kernel_rfl)
    (case cx_BadMany_BadMany => kernel_rfl)
    (case cx_BadMany_Full => kernel_rfl)
    (case cx_Full_BadRow => kernel_rfl)
    (case cx_Full_BadMany => kernel_rfl)
    (case cx_Full_Full => kernel_rfl)
    (case cx_NoRows_BadRow => kernel_rfl)
    (case cx_NoRows_BadMany => kernel_rfl)
    (case cx_NoRows_Full => kernel_rfl)
    (case cx_BadSizes_NoRows => kernel_rfl)
    (case cx_BadRow_NoRows => kernel_rfl)
    (case cx_BadMany_NoRows => kernel_rfl)
    (case cx_Full_NoRows => kernel_rfl)
    (case cx_NoRows_NoRows => kernel_rfl)
    (case na_Tally => k_is)
    (case nb_Tally => k_is)
    (case nc_Tally => k_is)
    (case nd_Tally => k_is)
    (case ne_Tally => k_is)
    (case nm_Tally => k_is)
    (case nk_Tally => k_is)
    (case nf_Tally_sizes => k_is)
    (case nf_Tally_known => k_is)
    (case a0 => k_is)
    (case l0 => k_is)
    (case c0 => k_is)
    (case k0 => k_is)
    (case a1 => k_is)
    (case l1 => k_is)
    (case c1 => k_is)
    (case k1 => k_is)
    (case a2 => k_is)
    (case l2 => k_is)
    (case c2 => k_is)
    (case k2 => k_is)
    (case a3 => k_is)
    (case af3 => k_is)
    (case l3 => k_is)
    (case c3 => k_is)
    (case k3 => k_is)
    (case a4 => k_is)
    (case af4 => k_is)
    (case l4 => k_is)
    (case c4 => k_is)
    (case k4 => k_is)
    (case a5 => k_is)
    (case af5 => k_is)
    (case l5 => k_is)
    (case c5 => k_is)
    (case k5 => k_is)
    (case a6 => k_is)
    (case af6 => k_is)
    (case l6 => k_is)
    (case c6 => k_is)
    (case k6 => k_is)
    (case a7 => k_is)
    (case af7 => k_is)
    (case l7 => k_is)
    (case c7 => k_is)
    (case k7 => k_is)
    (case t7 => k_is)
    (case a8 => k_is)
    (case af8 => k_is)
    (case l8 => k_is)
    (case c8 => k_is)
    (case k8 => k_is)
    (case t8 => k_is)
    (case a9 => k_is)
    (case af9 => k_is)
    (case l9 => k_is)
    (case c9 => k_is)
    (case k9 => k_is)
    (case a10 => k_is)
    (case l10 => k_is)
    (case c10 => k_is)
    (case k10 => k_is)
    (case a11 => k_is)
    (case l11 => k_is)
    (case c11 => k_is)
    (case k11 => k_is)
    (case a12 => k_is)
    (case l12 => k_is)
    (case c12 => k_is)
    (case k12 => k_is)
    (case a13 => k_is)
    (case l13 => k_is)
    (case c13 => k_is)
    (case k13 => k_is)
    (case a14 => k_is)
    (case l14 => k_is)
    (case c14 => k_is)
    (case k14 => k_is)
    (case a15 => k_is)
    (case l15 => k_is)
    (case c15 => k_is)
    (case k15 => k_is)
    (case a16 => k_is)
    (case l16 => k_is)
    (case c16 => k_is)
    (case k16 => k_is)
    (case a17 => k_is)
    (case l17 => k_is)
    (case c17 => k_is)
    (case k17 => k_is)
    (case a18 => k_is)
    (case l18 => k_is)
    (case c18 => k_is)
    (case k18 => k_is)
    (case a19 => k_is)
    (case l19 => k_is)
    (case c19 => k_is)
    (case k19 => k_is)
    (case z_abs => k_is)
    (case z_all => k_is)
    (case z_bool => k_is)
    (case z_int => k_is)
    (case z_isinstance => k_is)
    (case z_len => k_is)
    (case z_list => k_is)
    (case z_range => k_is)
    (case z_repr => k_is)
    (case z_sorted => k_is)
    (case z_str => k_is)
    (case z_sum => k_is)
    (case z_tuple => k_is)
    (case z_zip => k_is)
    (case x_MOST_COLUMNS => k_is)
    (case x_MOST_COUNTED => k_is)
    (case x_MOST_ROWS => k_is)
    (case x_MOST_SIZE => k_is)
    (case tc => k_is)
    (case tp => rfl)
    (case tn => kernel_rfl)
