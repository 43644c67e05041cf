import PyProof.Rows.All
import HandS.Nested
import Wide.All
import OpenK.AllK
import Wide.FinOn
import HandS.ForMost
import HandS.ForExc
import HandS.Wide
import HandS.IsInst
import HandS.Lambda
import HandS.EndTab
import KE.KDictKeyed
import KE.OsRunLaw
import KE.KDictWalk
import HandS.TupAny
import HandS.Style
import HandS.TupMul
import HandS.WideBits
import HandS.Flow
import HandS.Walk
import HandS.SortInts
import HandS.Conv
import HandS.Zip
import HandS.CallSlots
import HandS.Defaults
import HandS.Ends
import KE.KExcInit
import HandS.ExcInit
import HandS.ExcField
import HandS.ExcIs
import HandS.TryMany
import HandS.SetBool
import HandS.Strs
import HandS.SetFor
import HandS.TupSets
import PyProof.EnumMake
import PyProof.EnumStmt
import PyProof.TupleIter
import PyProof.WalksMore
import HandS.DictComp
import KE.SortData
import HandS.Deep
import HandS.More
import HandS.FStr
import PyProof.DictMoreH
import KE.KUnpackStar
import KE.KDictPairs
import KE.KDictCopyH
import HandS.Remove
import KE.DataFind
import KE.KUnpack
import PyProof.WalkInts
import KE.KDictZip
import PyProof.NeKinds
import KE.KDictDisplayH
import PyProof.MinMaxWalk
import HandS.OwnEq
import HandS.DictEq
import KE.KDictSum
import HandS.TupLe
import HandS.SetKeys
import PySem.Challenge.RW_tallyloom_k53_books_of_columns_refused
set_option Elab.async false
set_option linter.all false
set_option autoImplicit false
set_option bootstrap.genMatcherCode false
set_option genSizeOf false
set_option maxRecDepth 100000
set_option maxHeartbeats 4000000
namespace DV
noncomputable def lamNs : List PySem.Str := ["law"]
noncomputable def lamAt : Nat → Nat → PySem.Str := fun _ _ => "law.<locals>.<lambda>"
end DV
namespace DV
open PySem L2
inductive D where
  | v (x : V)
  | lst (xs : List D)
  | tup (xs : List D)
  | dct (ks vs : List D)
  | dlk (ks vs : List D)
  | ins (c : Str) (ns : List Str) (vs : List D)
  | dtt (ks : List NestedKey) (vs : List D)
  | ptp (xs : List D)
  | wor (t a : D)
noncomputable instance : Inhabited D := ⟨.v .non⟩
noncomputable abbrev D.int (i : Int) : D := .v (.int i)
noncomputable abbrev D.bl (b : Bool) : D := .v (.bl b)
noncomputable abbrev D.str (s : Str) : D := .v (.str s)
noncomputable abbrev D.non : D := .v .non
structure Exn where
  cls : Str
  fs : List (Str × D)
inductive Res (α : Type) where
  | ok (a : α)
  | er (x : Exn)
  | no
noncomputable def Res.bind {α β : Type} : Res α → (α → Res β) → Res β
  | .ok a, f => f a
  | .er x, _ => .er x
  | .no, _ => .no
@[simp] theorem Res.bind_ok {α β : Type} (a : α) (f : α → Res β) : (Res.ok a).bind f = f a := rfl
@[simp] theorem Res.bind_er {α β : Type} (x : Exn) (f : α → Res β) : (Res.er x : Res α).bind f = .er x := rfl
@[simp] theorem Res.bind_no {α β : Type} (f : α → Res β) : (Res.no : Res α).bind f = .no := rfl
noncomputable def clsV (K : PySem.W.Frag) (n : Str) : Option Value := (PySem.W.nsIn K mainGlobals n).join
mutual
noncomputable def nkInt : NestedKey → Bool
  | .none => false
  | .num _ => true
  | .text _ => false
  | .tup ks => nkInts ks
noncomputable def nkInts : List NestedKey → Bool
  | [] => true
  | k :: ks => nkInt k && nkInts ks
end
mutual
noncomputable def nkHash : NestedKey → Int
  | .none => 0
  | .num i => hashInt i
  | .text _ => 0
  | .tup ks => reduceHash (Builtin.Tuple.tupleHashOf (nkHashes ks))
noncomputable def nkHashes : List NestedKey → List Int
  | [] => []
  | k :: ks => nkHash k :: nkHashes ks
end
mutual
theorem nkHash_eq (w : World) : ∀ k : NestedKey, nkInt k = true → k.hash w = nkHash k
  | .none, h => by simp [nkInt] at h
  | .num i, _ => by rw [NestedKey.hash, nkHash]
  | .text _, h => by simp [nkInt] at h
  | .tup ks, h => by rw [NestedKey.hash, nkHash, nkHashes_eq w ks (by simpa [nkInt] using h)]
theorem nkHashes_eq (w : World) : ∀ ks : List NestedKey, nkInts ks = true → NestedKey.hashes w ks = nkHashes ks
  | [], _ => by rw [NestedKey.hashes, nkHashes]
  | k :: ks, h => by
    rw [nkInts, Bool.and_eq_true] at h
    rw [NestedKey.hashes, nkHashes, nkHash_eq w k h.1, nkHashes_eq w ks h.2]
end
noncomputable def nkOk : NestedKey → Bool
  | .tup ks => nkInts ks && decide ((NestedKey.tup ks).depth ≤ 8)
  | _ => false
mutual
noncomputable def nkD : NestedKey → D
  | .none => .non
  | .num i => .int i
  | .text x => .str x
  | .tup ks => .tup (nkDs ks)
noncomputable def nkDs : List NestedKey → List D
  | [] => []
  | k :: ks => nkD k :: nkDs ks
end
mutual
noncomputable def dNk : D → Option NestedKey
  | .v (.int i) => some (.num i)
  | .tup ds => (dNks ds).map NestedKey.tup
  | _ => none
noncomputable def dNks : List D → Option (List NestedKey)
  | [] => some []
  | d :: ds => match dNk d, dNks ds with
    | some k, some ks => some (k :: ks)
    | _, _ => none
end
mutual
theorem dNk_some : ∀ (d : D) (k : NestedKey), dNk d = some k → nkD k = d ∧ nkInt k = true
  | .v x, k, h => by
    cases x with
    | int i => rw [dNk] at h; cases h; rw [nkD, nkInt]; exact ⟨rfl, rfl⟩
    | _ => simp [dNk] at h
  | .tup ds, k, h => by
    rw [dNk] at h
    cases e : dNks ds with
    | none => rw [e] at h; cases h
    | some ks =>
      rw [e] at h
      cases h
      obtain ⟨a, b⟩ := dNks_some ds ks e
      rw [nkD, nkInt, a]
      exact ⟨rfl, b⟩
  | .lst _, k, h => by simp [dNk] at h
  | .dct _ _, k, h => by simp [dNk] at h
  | .dlk _ _, k, h => by simp [dNk] at h
  | .ins _ _ _, k, h => by simp [dNk] at h
  | .dtt _ _, k, h => by simp [dNk] at h
  | .ptp _, k, h => by simp [dNk] at h
  | .wor _ _, k, h => by simp [dNk] at h
theorem dNks_some : ∀ (ds : List D) (ks : List NestedKey), dNks ds = some ks → nkDs ks = ds ∧ nkInts ks = true
  | [], ks, h => by rw [dNks] at h; cases h; rw [nkDs, nkInts]; exact ⟨rfl, rfl⟩
  | d :: ds, ks, h => by
    rw [dNks] at h
    cases e1 : dNk d with
    | none => rw [e1] at h; cases h
    | some k =>
      cases e2 : dNks ds with
      | none => rw [e1, e2] at h; cases h
      | some ks' =>
        rw [e1, e2] at h
        cases h
        obtain ⟨a, b⟩ := dNk_some d k e1
        obtain ⟨a', b'⟩ := dNks_some ds ks' e2
        rw [nkDs, nkInts, a, a', b, b']
        exact ⟨rfl, rfl⟩
end
noncomputable def DxO (a : Addr) (o : Obj) (us : List (Int × Addr × V)) : Prop :=
  us.length ≤ sizeLine ∧ (a == sysModules) = false ∧ o.ExactDict ∧ ∃ es ep, o.data = .dict es ep ∧ Paired (fun (u : Int × Addr × V) (e : DictEntry) => e.hash = u.1 ∧ e.key = .ref u.2.1 ∧ RelV u.2.2 e.val) us es.toList
noncomputable def Dx (a : Addr) (o : Obj) (us : List (Int × Addr × V)) : HO := .ext fun h => h.get? a = some o ∧ DxO a o us
noncomputable def unV : Value → V
  | .none => .non
  | .bool b => .bl b
  | .int i _ => .int i
  | .str x _ => .str x
  | .bytes b _ => .byt b
  | .float b _ => .flt b
  | .ref a => .ref a
  | .type n => .ty n
  | _ => .non
theorem relV_un {v : V} {u : Value} (h : RelV v u) : unV u = v := by
  cases v with
  | non => cases (show u = _ from h); rfl
  | bl b => cases (show u = _ from h); rfl
  | int i => obtain ⟨t, rfl⟩ := (show ∃ t, u = Value.int i t from h); rfl
  | str i => obtain ⟨t, rfl⟩ := (show ∃ t, u = Value.str i t from h); rfl
  | byt i => obtain ⟨t, rfl⟩ := (show ∃ t, u = Value.bytes i t from h); rfl
  | flt i => obtain ⟨t, rfl⟩ := (show ∃ t, u = Value.float i t from h); rfl
  | ref a => cases (show u = _ from h); rfl
  | ty n => cases (show u = _ from h); rfl
theorem relV_inj {v v' : V} {u : Value} (h : RelV v u) (h' : RelV v' u) : v = v' := (relV_un h).symm.trans (relV_un h')
theorem DxO.inj {a : Addr} {o : Obj} {us us' : List (Int × Addr × V)} (h : DxO a o us) (h' : DxO a o us') : us = us' := by
  obtain ⟨_, _, _, es, ep, hd, r⟩ := h
  obtain ⟨_, _, _, es', ep', hd', r'⟩ := h'
  rw [hd] at hd'
  cases hd'
  clear hd
  generalize es.toList = l at r r'
  rename_i z1 z2 z3 z4 z5 z6
  clear z1 z2 z3 z4 z5 z6
  induction r generalizing us' with
  | nil => cases r'; rfl
  | cons h t ih =>
    cases r' with
    | cons h' t' =>
      rw [ih t']
      obtain ⟨a1, a2, a3⟩ := h
      obtain ⟨b1, b2, b3⟩ := h'
      rw [a2] at b2
      have e1 := a1.symm.trans b1
      have e2 := relV_inj a3 b3
      injection b2 with e3
      congr 1
      exact Prod.ext e1 (Prod.ext e3 e2)
noncomputable def oneH (a : Addr) (o : Obj) : Heap := ⟨Array.replicate (a + 1) o, {}⟩
theorem oneH_get {a : Addr} {o : Obj} {us : List (Int × Addr × V)} (w : DxO a o us) (c : Addr) : (oneH a o).get? c = if c < a + 1 then some o else none := by
  obtain ⟨_, _, _, es, ep, hd, _⟩ := w
  unfold Heap.get? oneH
  dsimp only
  rw [Array.getElem?_replicate]
  by_cases hc : c < a + 1
  · rw [if_pos hc]
    obtain ⟨c, dd, dt, sl⟩ := o
    cases dt <;> first | rfl | cases hd
  · rw [if_neg hc]
theorem oneH_at {a : Addr} {o : Obj} {us : List (Int × Addr × V)} (w : DxO a o us) : (oneH a o).get? a = some o := by rw [oneH_get w, if_pos (Nat.lt_succ_self a)]
theorem Dx.inj {a : Addr} {o o' : Obj} {us us' : List (Int × Addr × V)} (w : DxO a o us) (h : Dx a o us = Dx a o' us') : o = o' ∧ us = us' := by
  unfold Dx at h
  injection h with h
  have q := congrFun h (oneH a o)
  obtain ⟨z1, z2⟩ := q.mp ⟨oneH_at w, w⟩
  rw [oneH_at w] at z1
  cases z1
  exact ⟨rfl, w.inj z2⟩
noncomputable def kD : Key → D
  | .inl i => .int i
  | .inr x => .str x
noncomputable def PlT (K : PySem.W.Frag) (B : Hp) (a : Addr) (xs : List V) : Prop := (∃ o : Obj, B a = some (.frz o (.tup xs)) ∧ o.dict = none) ∨
  ∃ (o : Obj) (its : Array Value) (n : Nat), K.lookup a = some o ∧ o.cls = .type "tuple" ∧ o.data = .seq its n ∧ its.size ≤ sizeLine ∧ Vals xs its.toList ∧ o.dict = none
theorem PlT.mono {K : PySem.W.Frag} {B B' : Hp} {a : Addr} {xs : List V} (e : ∀ a u, B a = some u → B' a = some u) (h : PlT K B a xs) : PlT K B' a xs := by
  rcases h with ⟨o, h, h2⟩ | h
  · exact .inl ⟨o, e _ _ h, h2⟩
  · exact .inr h
mutual
inductive Rp (K : PySem.W.Frag) (B : Hp) : V → D → Prop
  | v (x : V) : Rp K B x (.v x)
  | lst {a : Addr} {xs : List V} {ds : List D} : SqL K B a xs → RpA K B xs ds → Rp K B (.ref a) (.lst ds)
  | tup {a : Addr} {xs : List V} {ds : List D} : SqT K B a xs → RpA K B xs ds → Rp K B (.ref a) (.tup ds)
  | dct {a : Addr} {us : List (Key × V)} {ds : List D} : B a = some (.dK us) → RpA K B (us.map (·.2)) ds → Rp K B (.ref a) (.dct (us.map fun p => kD p.1) ds)
  | dcT {a : Addr} {o : Obj} {us : List (Int × Addr × V)} {ks : List NestedKey} {ds : List D} : B a = some (Dx a o us) → DxO a o us → us.map (·.1) = ks.map nkHash → ks.Nodup → (∀ k ∈ ks, nkOk k = true) → RpA K B (us.map fun u => .ref u.2.1) (nkDs ks) → RpA K B (us.map (·.2.2)) ds → Rp K B (.ref a) (.dtt ks ds)
  | ins {a C dx : Addr} {c : Str} {fs : List (Str × V)} {ds : List D} : B a = some (.ins C dx fs) → B dx = some (.own a) → clsV K c = some (.ref C) → RpA K B (fs.map (·.2)) ds → Rp K B (.ref a) (.ins c (fs.map (·.1)) ds)
  | dlk {a : Addr} {o : Obj} {us : List (Key × V)} {ds : List D} : B a = some (.frz o (.dK us)) → RpA K B (us.map (·.2)) ds → Rp K B (.ref a) (.dlk (us.map fun p => kD p.1) ds)
  | ptp {a : Addr} {xs : List V} {ds : List D} : PlT K B a xs → RpA K B xs ds → Rp K B (.ref a) (.ptp ds)
  | wor {a C dx m : Addr} {o : Obj} {tv av : V} {td ad : D} : B a = some (.frz o (.ins C dx [("counted", tv), ("ahead", av), ("told", .ref m)])) → clsV K "Worths" = some (.ref C) → Rp K B tv td → Rp K B av ad → Rp K B (.ref a) (.wor td ad)
inductive RpA (K : PySem.W.Frag) (B : Hp) : List V → List D → Prop
  | nil : RpA K B [] []
  | cons {v : V} {vs : List V} {d : D} {ds : List D} : Rp K B v d → RpA K B vs ds → RpA K B (v :: vs) (d :: ds)
end
theorem sqT_mono {K : PySem.W.Frag} {H H' : Hp} {a : Addr} {xs : List V} (e : Same H H') (h : SqT K H a xs) : SqT K H' a xs := by
  rcases h with (h | ⟨o, h⟩) | h
  · exact .inl (.inl (e _ _ h))
  · exact .inl (.inr ⟨o, e _ _ h⟩)
  · exact .inr h
section
variable {K : PySem.W.Frag} {B B' H H' : Hp}
mutual
theorem Rp.mono (e : Same B B') : ∀ {v : V} {d : D}, Rp K B v d → Rp K B' v d
  | _, _, .v x => .v x
  | _, _, .lst h r => .lst (e.seq h) (RpA.mono e r)
  | _, _, .tup h r => .tup (sqT_mono e h) (RpA.mono e r)
  | _, _, .dct h r => .dct (e _ _ h) (RpA.mono e r)
  | _, _, .dcT h h1 h2 h3 h4 r1 r => .dcT (e _ _ h) h1 h2 h3 h4 (RpA.mono e r1) (RpA.mono e r)
  | _, _, .ins h1 h2 h3 r => .ins (e _ _ h1) (e _ _ h2) h3 (RpA.mono e r)
  | _, _, .ptp h r => .ptp (h.mono e) (RpA.mono e r)
  | _, _, .dlk h r => .dlk (e _ _ h) (RpA.mono e r)
  | _, _, .wor h h2 r1 r2 => .wor (e _ _ h) h2 (Rp.mono e r1) (Rp.mono e r2)
theorem RpA.mono (e : Same B B') : ∀ {vs : List V} {ds : List D}, RpA K B vs ds → RpA K B' vs ds
  | _, _, .nil => .nil
  | _, _, .cons h r => .cons (Rp.mono e h) (RpA.mono e r)
end
theorem RpA.length : ∀ {vs : List V} {ds : List D}, RpA K B vs ds → vs.length = ds.length
  | _, _, .nil => rfl
  | _, _, .cons _ r => by simp [RpA.length r]
theorem RpA.append : ∀ {vs us : List V} {ds es : List D}, RpA K B vs ds → RpA K B us es → RpA K B (vs ++ us) (ds ++ es)
  | _, _, _, _, .nil, s => s
  | _, _, _, _, .cons h r, s => .cons h (RpA.append r s)
theorem RpA.get : ∀ {vs : List V} {ds : List D} {i : Nat} {d : D}, RpA K B vs ds → ds[i]? = some d → ∃ v, vs[i]? = some v ∧ Rp K B v d
  | _, _, _, _, .nil, e => by simp at e
  | _, _, 0, _, .cons h _, e => by simp at e; subst e; exact ⟨_, rfl, h⟩
  | _, _, i + 1, _, .cons _ r, e => by
    obtain ⟨v, h1, h2⟩ := RpA.get (i := i) r (by simpa using e)
    exact ⟨v, by simpa using h1, h2⟩
theorem RpA.get' : ∀ {vs : List V} {ds : List D} {i : Nat} {v : V}, RpA K B vs ds → vs[i]? = some v → ∃ d, ds[i]? = some d ∧ Rp K B v d
  | _, _, _, _, .nil, e => by simp at e
  | _, _, 0, _, .cons h _, e => by simp at e; subst e; exact ⟨_, rfl, h⟩
  | _, _, i + 1, _, .cons _ r, e => by
    obtain ⟨v, h1, h2⟩ := RpA.get' (i := i) r (by simpa using e)
    exact ⟨v, by simpa using h1, h2⟩
theorem RpA.drop : ∀ {vs : List V} {ds : List D} (n : Nat), RpA K B vs ds → RpA K B (vs.drop n) (ds.drop n)
  | _, _, 0, r => by simpa using r
  | _, _, _ + 1, .nil => by simpa using RpA.nil
  | _, _, n + 1, .cons _ r => by simpa using RpA.drop n r
theorem RpA.take : ∀ {vs : List V} {ds : List D} (n : Nat), RpA K B vs ds → RpA K B (vs.take n) (ds.take n)
  | _, _, 0, _ => by simpa using RpA.nil
  | _, _, _ + 1, .nil => by simpa using RpA.nil
  | _, _, n + 1, .cons h r => by simpa using RpA.cons h (RpA.take n r)
theorem RpA.reverse : ∀ {vs : List V} {ds : List D}, RpA K B vs ds → RpA K B vs.reverse ds.reverse
  | _, _, .nil => .nil
  | _, _, .cons h r => by
    rw [List.reverse_cons, List.reverse_cons]
    exact (RpA.reverse r).append (.cons h .nil)
theorem RpA.set : ∀ {vs : List V} {ds : List D} {v : V} {d : D} (i : Nat), RpA K B vs ds → Rp K B v d → RpA K B (vs.set i v) (ds.set i d)
  | _, _, _, _, _, .nil, _ => .nil
  | _, _, _, _, 0, .cons _ r, q => .cons q r
  | _, _, _, _, i + 1, .cons h r, q => .cons h (RpA.set i r q)
theorem RpA.map {α : Type} (f : α → V) (g : α → D) : ∀ {l : List α}, (∀ a ∈ l, Rp K B (f a) (g a)) → RpA K B (l.map f) (l.map g)
  | [], _ => .nil
  | a :: l, h => .cons (h a (by simp)) (RpA.map f g fun b hb => h b (by simp [hb]))
theorem RpA.ints (ns : List Int) : RpA K B (ns.map V.int) (ns.map D.int) := RpA.map _ _ fun a _ => .v _
theorem RpA.ints_of : ∀ {ns : List Int} {vs : List V}, RpA K B vs (ns.map D.int) → vs = ns.map V.int
  | [], _, .nil => rfl
  | n :: ns, _, .cons h r => by
    cases h
    rw [RpA.ints_of r]
    rfl
theorem RpA.bls_of : ∀ {bs : List Bool} {vs : List V}, RpA K B vs (bs.map D.bl) → vs = bs.map V.bl
  | [], _, .nil => rfl
  | n :: ns, _, .cons h r => by
    cases h
    rw [RpA.bls_of r]
    rfl
noncomputable def tabsOf (K : PySem.W.Frag) : List Addr := lamNs.filterMap fun n => (PySem.W.tabIn K n).map (·.2)
noncomputable abbrev MX (a : Addr) (o : Obj) (us : List (Int × Addr × V)) : HO := .ext fun h => DxO a o us → ∃ o', h.get? a = some o' ∧ DxO a o' us
noncomputable def Std (o : HO) : Prop := (∀ ps, o ≠ .tbl ps) ∧ ∀ b c u, o ≠ MX b c u
noncomputable def Pln (o : HO) : Prop := Std o ∧ ∀ b C dx fs, o ≠ .frz b (.ins C dx fs)
noncomputable def NoT (B : Hp) : Prop := ∀ a o, B a = some o → Std o
noncomputable def TK (u : HO) : Prop := (∃ xs, u = .tup xs) ∨ ∃ o xs, u = .frz o (.tup xs)
noncomputable def kR (r : List Int) : NestedKey := .tup (r.map .num)
namespace Fw
noncomputable def prod (l : List Int) : Int := l.foldl (· * ·) 1
noncomputable def rise (a : Int) (n : Nat) : Int := prod ((List.range n).map fun (i : Nat) => a + (i : Int))
noncomputable def rowStep (L : List (List Int)) (s : Int) : List (List Int) := L.flatMap fun r => (List.range s.toNat).map fun (v : Nat) => r ++ [(v : Int)]
noncomputable def rows (szs : List Int) : List (List Int) := szs.foldl rowStep [[]]
noncomputable def proj (cs : List Int) (r : List Int) : List Int := cs.map fun c => r.getD c.toNat 0
noncomputable def cnt (ps : List (List Int × Int)) (f : List Int → Bool) : Int := ((ps.filter fun p => f p.1).map (·.2)).sum
noncomputable def rest (sz : List Int) (p : Nat → Bool) : Int := prod (((List.range sz.length).filter p).map fun i => sz.getD i 0)
noncomputable def more (sz : List Int) (c : Nat) (L : List Int) (a : Int) : Int := a * rest sz fun i => !decide (i = c) && !decide ((i : Int) ∈ L)
noncomputable def whole (sz : List Int) (L : List Int) (a : Int) : Int := a * rest sz fun i => !decide ((i : Int) ∈ L)
noncomputable def vals (sz : List Int) (L : List Int) : List (List Int) := rows (L.map fun c => sz.getD c.toNat 0)
noncomputable def top (sz : List Int) (ps : List (List Int × Int)) (c : Nat) (L : List Int) (a : Int) : Int :=
  prod ((vals sz L).flatMap fun v => (List.range (sz.getD c 0).toNat).map fun (u : Nat) => rise (more sz c L a) (cnt ps fun r => decide (proj L r = v) && decide (r.getD c 0 = (u : Int))).toNat)
noncomputable def bot (sz : List Int) (ps : List (List Int × Int)) (L : List Int) (a : Int) : Int :=
  prod ((vals sz L).map fun v => rise (whole sz L a) (cnt ps fun r => decide (proj L r = v)).toNat)
noncomputable def low (t b : Int) : D := .tup [.int (t / (Int.gcd t b : Int)), .int (b / (Int.gcd t b : Int))]
noncomputable def tally (sz : List Int) (ps : List (List Int × Int)) : D := .ins "Tally" ["sizes", "known"] [.tup (sz.map D.int), .dtt (ps.map fun p => kR p.1) (ps.map fun p => D.int p.2)]
end Fw
noncomputable def famR (td ad : D) (k : NestedKey) (d : D) : Prop := ∃ sz ps c L a, td = Fw.tally sz ps ∧ ad = .int a ∧ k = .tup [.num ((c : Nat) : Int), kR L] ∧ d = Fw.low (Fw.top sz ps c L a) (Fw.bot sz ps L a)
noncomputable def subsN : Nat → List (List Int)
  | 0 => [[]]
  | n + 1 => subsN n ++ (subsN n).map (· ++ [(n : Int)])
noncomputable def famKeys : List NestedKey := (List.range 6).flatMap fun c => (subsN 6).map fun L => .tup [.num ((c : Nat) : Int), kR L]
noncomputable def NiceW (τ : D × D) : Prop := ∃ sz ps a, τ = (Fw.tally sz ps, D.int a)
structure EntOk (K : PySem.W.Frag) (B : Hp) (τ : D × D) (us : List (Int × Addr × V)) (ks : List NestedKey) (ds : List D) : Prop where
  hs : us.map (·.1) = ks.map nkHash
  nd : ks.Nodup
  ok : ∀ k ∈ ks, nkOk k = true
  rk : RpA K B (us.map fun u => .ref u.2.1) (nkDs ks)
  rv : RpA K B (us.map (·.2.2)) ds
  fr : ∀ (i : Nat) (k : NestedKey), ks[i]? = some k → ∃ d, ds[i]? = some d ∧ famR τ.1 τ.2 k d
  fk : ∀ k ∈ ks, k ∈ famKeys
structure MemAt (K : PySem.W.Frag) (τ : D × D) (B H : Hp) (x C dx : Addr) (fs : List (Str × V)) (tv av : V) (a : Addr) (ob : Obj) (us : List (Int × Addr × V)) (ks : List NestedKey) (ds : List D) : Prop where
  fs : fs = [(("counted" : Str), tv), (("ahead" : Str), av), (("told" : Str), V.ref a)]
  dx : B dx = some (.own x)
  hm : H a = some (MX a ob us)
  ox : DxO a ob us
  nc : NiceW τ
  rt : Rp K B tv τ.1
  ra : Rp K B av τ.2
  en : EntOk K B τ us ks ds
noncomputable def MemOk (K : PySem.W.Frag) (τ : Addr → D × D) (B H : Hp) : Prop := ∀ x o C dx fs, B x = some (.frz o (.ins C dx fs)) → ∃ tv av a ob us ks ds, MemAt K (τ a) B H x C dx fs tv av a ob us ks ds
structure TBt (K : PySem.W.Frag) (τ : Addr → D × D) (B H : Hp) : Prop where
  nt : NoT B
  mo : MemOk K τ B H
noncomputable def TB (K : PySem.W.Frag) (B H : Hp) : Prop := ∃ τ, TBt K τ B H
theorem std_lst (xs : List V) : Std (.lst xs) := ⟨fun _ z => (by cases z), fun _ _ _ z => (by cases z)⟩
noncomputable def noH : Heap := ⟨#[], {}⟩
theorem ext_ne_mx {φ : Heap → Prop} {b : Addr} {o : Obj} {us : List (Int × Addr × V)} (h0 : ¬ φ noH) (h1 : ∀ o', DxO b o' us → φ (oneH b o') → False) : (HO.ext φ) ≠ MX b o us := fun z => by
  injection z with z
  by_cases hd : DxO b o us
  · have y := congrFun z (oneH b o)
    exact h1 o hd (y.mpr fun _ => ⟨o, oneH_at hd, hd⟩)
  · have y := congrFun z noH
    exact h0 (y.mpr fun q => absurd q hd)
theorem dx_ne_mx {a b : Addr} {o c : Obj} {us ws : List (Int × Addr × V)} : Dx a o us ≠ MX b c ws := fun z => by
  unfold Dx at z
  injection z with z
  by_cases hd : DxO b c ws
  · have up : ∀ o', DxO b o' ws → o' = o := fun o' hd' => by
      have y := congrFun z (oneH b o')
      obtain ⟨e, w⟩ := y.mpr fun _ => ⟨o', oneH_at hd', hd'⟩
      rw [oneH_get hd'] at e
      split at e
      · exact Option.some.inj e
      · cases e
    have e1 := up c hd
    obtain ⟨d1, d2, d3, es, ep, hd4, r⟩ := hd
    have d5 : DxO b { c with data := .dict es (ep + 1) } ws := ⟨d1, d2, d3, es, ep + 1, rfl, r⟩
    have e2 := up _ d5
    rw [← e1] at e2
    have e3 := congrArg Obj.data e2
    rw [hd4] at e3
    injection e3 with _ e3
    omega
  · have y := congrFun z noH
    obtain ⟨e, _⟩ := y.mpr fun q => absurd q hd
    cases e
theorem EntOk.mono {τ : D × D} {us : List (Int × Addr × V)} {ks : List NestedKey} {ds : List D} (s : Same B B') (h : EntOk K B τ us ks ds) : EntOk K B' τ us ks ds := ⟨h.hs, h.nd, h.ok, h.rk.mono s, h.rv.mono s, h.fr, h.fk⟩
theorem MemAt.mono {τ : D × D} {x C dx : Addr} {fs : List (Str × V)} {tv av : V} {a : Addr} {ob : Obj} {us : List (Int × Addr × V)} {ks : List NestedKey} {ds : List D} (s : Same B B') (e : H' a = H a) (h : MemAt K τ B H x C dx fs tv av a ob us ks ds) : MemAt K τ B' H' x C dx fs tv av a ob us ks ds :=
  ⟨h.fs, s _ _ h.dx, e.trans h.hm, h.ox, h.nc, h.rt.mono s, h.ra.mono s, h.en.mono s⟩
theorem TBt.grow {τ : Addr → D × D} (h : TBt K τ B H) (s : Same B B') (new : ∀ a o, B' a = some o → B a = some o ∨ Pln o) (e : ∀ a o us, H a = some (MX a o us) → H' a = some (MX a o us)) : TBt K τ B' H' :=
  ⟨fun a o q => (new a o q).elim (h.nt a o) fun z => z.1, fun x o C dx fs q => by
    rcases new x _ q with q | q
    · obtain ⟨tv, av, a, ob, us, ks, ds, m⟩ := h.mo x o C dx fs q
      exact ⟨tv, av, a, ob, us, ks, ds, m.mono s ((e _ _ _ m.hm).trans m.hm.symm)⟩
    · exact absurd rfl (q.2 o C dx fs)⟩
structure Grow (K : PySem.W.Frag) (B H B' H' : Hp) : Prop where
  b : Same B B'
  h : ∀ b o, H b = some o → Std o → H' b = some o
  i : Same B' H'
  f : ∀ a, H a ≠ none → B' a = B a
  e : ∀ a, H a ≠ none → H' a ≠ none
  t : ∀ P, NdefX.TabN H P lamAt → NdefX.TabN H' P lamAt
  n : ∀ τ, TBt K τ B H → ∃ τ', (∀ x, H x ≠ none → τ' x = τ x) ∧ TBt K τ' B' H'
theorem Grow.tb (g : Grow K B H B' H') (h : TB K B H) : TB K B' H' := by
  obtain ⟨τ, h⟩ := h
  obtain ⟨τ', _, h'⟩ := g.n τ h
  exact ⟨τ', h'⟩
theorem Grow.refl (i : Same B H) : Grow K B H B H := ⟨Same.refl _, fun _ _ h _ => h, i, fun _ _ => rfl, fun _ h => h, fun _ h => h, fun τ h => ⟨τ, fun _ _ => rfl, h⟩⟩
theorem Grow.trans {B1 H1 B2 H2 : Hp} (g : Grow K B H B1 H1) (k : Grow K B1 H1 B2 H2) : Grow K B H B2 H2 :=
  ⟨g.b.trans k.b, fun b o h n => k.h b o (g.h b o h n) n, k.i, fun a ha => by rw [k.f a (g.e a ha), g.f a ha], fun a ha => k.e a (g.e a ha), fun P h => k.t P (g.t P h), fun τ h => by
    obtain ⟨τ1, a1, h1⟩ := g.n τ h
    obtain ⟨τ2, a2, h2⟩ := k.n τ1 h1
    exact ⟨τ2, fun x hx => (a2 x (g.e x hx)).trans (a1 x hx), h2⟩⟩
theorem Grow.free (g : Grow K B H B' H') {p : Addr} (h : H' p = none) : H p = none := by
  cases q : H p with
  | none => rfl
  | some o => exact absurd h (g.e p (by rw [q]; simp))
theorem same_e (s : Same H H') : ∀ a, H a ≠ none → H' a ≠ none := fun a ha => by
  cases q : H a with
  | none => exact absurd q ha
  | some o => rw [s a o q]; simp
theorem Grow.of (b : Same B B') (s : Same H H') (i : Same B' H') (f : ∀ a, H a ≠ none → B' a = B a) (n : ∀ a o, B' a = some o → B a = some o ∨ Pln o) : Grow K B H B' H' := ⟨b, fun a o h _ => s a o h, i, f, same_e s, fun P h => h.ext s, fun τ h => ⟨τ, fun _ _ => rfl, h.grow b n fun a o us q => s _ _ q⟩⟩
theorem same_new {H : Hp} {p : Addr} {o : HO} (h : H p = none) : Same H (upd H p o) := fun a u e => by
  rw [upd_ne (ne_of_none e h)]
  exact e
theorem upd_new {p : Addr} {o : HO} (ho : Pln o) : ∀ a u, upd B p o a = some u → B a = some u ∨ Pln u := fun a u q => by
  by_cases ha : a = p
  · subst ha; rw [upd_same] at q; cases q; exact .inr ho
  · rw [upd_ne ha] at q; exact .inl q
theorem Grow.new {p : Addr} {o : HO} (i : Same B H) (hp : H p = none) (ho : Pln o := by exact ⟨⟨fun _ z => (by cases z), fun _ _ _ z => (by cases z)⟩, fun _ _ _ _ z => (by cases z)⟩) : Grow K B H (upd B p o) (upd H p o) :=
  Grow.of (same_new (i.free hp)) (same_new hp) (fun a u e => by
    by_cases ha : a = p
    · subst ha; rw [upd_same] at e; cases e; exact upd_same
    · rw [upd_ne ha] at e; rw [upd_ne ha]; exact i a u e) (fun a ha => by
    have hap : a ≠ p := fun q => ha (by rw [q]; exact hp)
    rw [upd_ne hap]) (upd_new ho)
theorem Grow.raw {p : Addr} {o : HO} (i : Same B H) (hp : H p = none) : Grow K B H B (upd H p o) :=
  Grow.of (Same.refl _) (same_new hp) (i.trans (same_new hp)) (fun _ _ => rfl) (fun _ _ q => .inl q)
structure Kind (ho : HO) : Prop where
  tbl : ∀ ps, ho ≠ .tbl ps
  code : ∀ c q, ho ≠ LamX.CodeO c q
  frz : ∀ o u, ho ≠ .frz o u
  mx : ∀ b c u, ho ≠ MX b c u
theorem Kind.std {ho : HO} (k : Kind ho) : Std ho := ⟨k.tbl, k.mx⟩
theorem Kind.pln {ho : HO} (k : Kind ho) : Pln ho := ⟨k.std, fun b _ _ _ => k.frz b _⟩
theorem Kind.noMX {ho : HO} (k : Kind ho) {a : Addr} {o : Obj} {us : List (Int × Addr × V)} : ho ≠ MX a o us := k.mx _ _ _
theorem kind_lst (vs : List V) : Kind (.lst vs) := ⟨fun _ z => (by cases z), fun _ _ z => (by unfold LamX.CodeO at z; cases z), fun _ _ z => (by cases z), fun _ _ _ z => (by cases z)⟩
theorem kind_tup (vs : List V) : Kind (.tup vs) := ⟨fun _ z => (by cases z), fun _ _ z => (by unfold LamX.CodeO at z; cases z), fun _ _ z => (by cases z), fun _ _ _ z => (by cases z)⟩
theorem kind_dK (us : List (Key × V)) : Kind (.dK us) := ⟨fun _ z => (by cases z), fun _ _ z => (by unfold LamX.CodeO at z; cases z), fun _ _ z => (by cases z), fun _ _ _ z => (by cases z)⟩
theorem kind_dx {a : Addr} {o : Obj} {us : List (Int × Addr × V)} (h : DxO a o us) : Kind (Dx a o us) := by
  refine ⟨fun _ z => (by cases z), fun c q z => ?_, fun _ _ z => (by cases z), fun _ _ _ => dx_ne_mx⟩
  unfold LamX.CodeO Dx at z
  injection z with z
  have y := congrFun z (oneH a o)
  obtain ⟨oc, vs, t, e1, e2, _⟩ := y.mp ⟨oneH_at h, h⟩
  rw [oneH_get h] at e1
  split at e1
  · cases e1
    obtain ⟨_, _, _, es, ep, hd, _⟩ := h
    rw [hd] at e2
    cases e2
  · cases e1
theorem kind_ins (C dx : Addr) (fs : List (Str × V)) : Kind (.ins C dx fs) := ⟨fun _ z => (by cases z), fun _ _ z => (by unfold LamX.CodeO at z; cases z), fun _ _ z => (by cases z), fun _ _ _ z => (by cases z)⟩
theorem kind_own (x : Addr) : Kind (.own x) := ⟨fun _ z => (by cases z), fun _ _ z => (by unfold LamX.CodeO at z; cases z), fun _ _ z => (by cases z), fun _ _ _ z => (by cases z)⟩
theorem tab_updG {p P : Addr} {q : Nat → Nat → Str} {ho ho' : HO} (h : NdefX.TabN H P q) (hp : H p = some ho) (k : Kind ho) : NdefX.TabN (upd H p ho') P q := by
  obtain ⟨ps, h1, h2, h3⟩ := h
  have n1 : P ≠ p := fun z => by rw [z, hp] at h1; exact k.tbl ps (Option.some.inj h1)
  refine ⟨ps, by rw [upd_ne n1]; exact h1, h2, fun pos cv hc => ?_⟩
  obtain ⟨c, e1, e2⟩ := h3 pos cv hc
  have n2 : c ≠ p := fun z => by rw [z, hp] at e2; exact k.code _ _ (Option.some.inj e2)
  exact ⟨c, e1, by rw [upd_ne n2]; exact e2⟩
theorem tab_upd {p P : Addr} {q : Nat → Nat → Str} {us vs : List V} (h : NdefX.TabN H P q) (hp : H p = some (.lst us)) : NdefX.TabN (upd H p (.lst vs)) P q := tab_updG h hp (kind_lst _)
end
inductive NK where
  | ls
  | tp
  | dc (ks : List Key)
  | dt (ks : List NestedKey)
  | ob (c : Str) (ns : List Str)
inductive T where
  | im (d : D)
  | nd (k : NK) (ts : List T)
noncomputable def cell (K : PySem.W.Frag) (H : Hp) (p : Addr) (vs : List V) (fp : List Addr) : NK → Prop
  | .ls => H p = some (.lst vs) ∧ fp = [p]
  | .tp => H p = some (.tup vs) ∧ fp = [p]
  | .dc ks => ∃ us : List (Key × V), H p = some (.dK us) ∧ us.map (·.1) = ks ∧ vs = us.map (·.2) ∧ fp = [p]
  | .dt ks => ∃ (o : Obj) (us : List (Int × Addr × V)), H p = some (Dx p o us) ∧ (DxO p o us ∧ us.map (·.1) = ks.map nkHash ∧ ks.Nodup ∧ ∀ k ∈ ks, nkOk k = true) ∧ vs = us.map (·.2.2) ∧ fp = [p]
  | .ob c ns => ∃ (C dx : Addr) (fs : List (Str × V)), H p = some (.ins C dx fs) ∧ H dx = some (.own p) ∧ clsV K c = some (.ref C) ∧ fs.map (·.1) = ns ∧ vs = fs.map (·.2) ∧ fp = [p, dx]
section
variable {K : PySem.W.Frag} {H H' : Hp}
theorem cell_in {k : NK} {p : Addr} {vs : List V} {fp : List Addr} (h : cell K H p vs fp k) : p ∈ fp := by
  cases k with
  | ls => rw [h.2]; simp
  | tp => rw [h.2]; simp
  | dc ks => obtain ⟨us, _, _, _, rfl⟩ := h; simp
  | dt ks => obtain ⟨o, us, _, _, _, rfl⟩ := h; simp
  | ob c ns => obtain ⟨C, dx, fs, _, _, _, _, _, rfl⟩ := h; simp
theorem cell_kind {k : NK} {p : Addr} {vs : List V} {fp : List Addr} (h : cell K H p vs fp k) : ∀ q ∈ fp, ∃ u, H q = some u ∧ Kind u := by
  cases k with
  | ls => obtain ⟨h, rfl⟩ := h; intro q hq; rw [List.mem_singleton.mp hq]; exact ⟨_, h, kind_lst _⟩
  | tp => obtain ⟨h, rfl⟩ := h; intro q hq; rw [List.mem_singleton.mp hq]; exact ⟨_, h, kind_tup _⟩
  | dc ks => obtain ⟨us, h, _, _, rfl⟩ := h; intro q hq; rw [List.mem_singleton.mp hq]; exact ⟨_, h, kind_dK _⟩
  | dt ks => obtain ⟨o, us, h, ⟨h1, _⟩, _, rfl⟩ := h; intro q hq; rw [List.mem_singleton.mp hq]; exact ⟨_, h, kind_dx h1⟩
  | ob c ns =>
    obtain ⟨C, dx, fs, h1, h2, _, _, _, rfl⟩ := h
    intro q hq
    rcases List.mem_cons.mp hq with rfl | hq
    · exact ⟨_, h1, kind_ins _ _ _⟩
    · rw [List.mem_singleton.mp hq]; exact ⟨_, h2, kind_own _⟩
theorem cell_at {k : NK} {p : Addr} {vs : List V} {fp : List Addr} (h : cell K H p vs fp k) (e : ∀ q ∈ fp, H' q = H q) : cell K H' p vs fp k := by
  have ep := e p (cell_in h)
  cases k with
  | ls => exact ⟨ep.trans h.1, h.2⟩
  | tp => exact ⟨ep.trans h.1, h.2⟩
  | dc ks => obtain ⟨us, h, r⟩ := h; exact ⟨us, ep.trans h, r⟩
  | dt ks => obtain ⟨o, us, h, r⟩ := h; exact ⟨o, us, ep.trans h, r⟩
  | ob c ns =>
    obtain ⟨C, dx, fs, h1, h2, h3, h4, h5, h6⟩ := h
    exact ⟨C, dx, fs, ep.trans h1, (e dx (by rw [h6]; simp)).trans h2, h3, h4, h5, h6⟩
theorem cell_one {k : NK} {p : Addr} {vs vs' : List V} {fp fp' : List Addr} (h : cell K H p vs fp k) (h' : cell K H p vs' fp' k) : vs' = vs ∧ fp' = fp := by
  cases k with
  | ls =>
    have := h'.1.symm.trans h.1
    cases this
    exact ⟨rfl, h'.2.trans h.2.symm⟩
  | tp =>
    have := h'.1.symm.trans h.1
    cases this
    exact ⟨rfl, h'.2.trans h.2.symm⟩
  | dc ks =>
    obtain ⟨us, h, _, e, f⟩ := h
    obtain ⟨us', h', _, e', f'⟩ := h'
    have := h'.symm.trans h
    cases this
    exact ⟨e'.trans e.symm, f'.trans f.symm⟩
  | dt ks =>
    obtain ⟨o, us, h, ⟨w, _⟩, e, f⟩ := h
    obtain ⟨o', us', h', _, e', f'⟩ := h'
    obtain ⟨_, rfl⟩ := Dx.inj w (Option.some.inj (h.symm.trans h'))
    exact ⟨e'.trans e.symm, f'.trans f.symm⟩
  | ob c ns =>
    obtain ⟨C, dx, fs, h, _, _, _, e, f⟩ := h
    obtain ⟨C', dx', fs', h', _, _, _, e', f'⟩ := h'
    have := h'.symm.trans h
    cases this
    exact ⟨e'.trans e.symm, f'.trans f.symm⟩
end
mutual
noncomputable def FT (K : PySem.W.Frag) (H : Hp) : T → V → Addr → Prop
  | .im _, _, _ => False
  | .nd k ts, v, q => ∃ p vs fp, v = .ref p ∧ cell K H p vs fp k ∧ (q ∈ fp ∨ FTA K H ts vs q)
noncomputable def FTA (K : PySem.W.Frag) (H : Hp) : List T → List V → Addr → Prop
  | [], _, _ => False
  | _ :: _, [], _ => False
  | t :: ts, v :: vs, q => FT K H t v q ∨ FTA K H ts vs q
end
noncomputable def KO (K : PySem.W.Frag) (B H : Hp) (p : Addr) : NK → Prop
  | .dt ks => ∃ (o : Obj) (us : List (Int × Addr × V)), H p = some (Dx p o us) ∧ RpA K B (us.map fun u => .ref u.2.1) (nkDs ks)
  | _ => True
theorem KO.mono {K : PySem.W.Frag} {B B' H H' : Hp} {p : Addr} {k : NK} (h : KO K B H p k) (sb : Same B B') (e : H' p = H p) : KO K B' H' p k := by
  cases k with
  | dt ks => obtain ⟨o, us, h1, h2⟩ := h; exact ⟨o, us, e.trans h1, h2.mono sb⟩
  | _ => trivial
structure Apt (K : PySem.W.Frag) (B H : Hp) (p : Addr) (k : NK) (F : Addr → Prop) (fp : List Addr) : Prop where
  n : ∀ q ∈ fp, ¬ F q
  k : KO K B H p k
noncomputable instance {K : PySem.W.Frag} {B H : Hp} {p : Addr} {k : NK} {F : Addr → Prop} {fp : List Addr} : CoeFun (Apt K B H p k F fp) (fun _ => ∀ q ∈ fp, ¬ F q) := ⟨Apt.n⟩
mutual
noncomputable def RT (K : PySem.W.Frag) (B H : Hp) : T → V → Prop
  | .im d, v => Rp K B v d
  | .nd k ts, v => ∃ p vs fp, v = .ref p ∧ cell K H p vs fp k ∧ RTA K B H ts vs ∧ Apt K B H p k (FTA K H ts vs) fp
noncomputable def RTA (K : PySem.W.Frag) (B H : Hp) : List T → List V → Prop
  | [], [] => True
  | [], _ :: _ => False
  | _ :: _, [] => False
  | t :: ts, v :: vs => RT K B H t v ∧ RTA K B H ts vs ∧ ∀ q, FT K H t v q → ¬ FTA K H ts vs q
end
section
variable {K : PySem.W.Frag} {B B' H H' : Hp}
mutual
theorem RT.move : ∀ (t : T) (v : V), RT K B H t v → Same B B' → (∀ q, FT K H t v q → H' q = H q) → RT K B' H' t v ∧ ∀ q, FT K H' t v q ↔ FT K H t v q
  | .im d, v, h, sb, _ => by
    rw [RT] at h ⊢
    exact ⟨h.mono sb, fun q => by rw [FT, FT]⟩
  | .nd k ts, v, h, sb, e => by
    rw [RT] at h
    obtain ⟨p, vs, fp, rfl, hc, hr, hn⟩ := h
    have e1 : ∀ q ∈ fp, H' q = H q := fun q hq => e q (by rw [FT]; exact ⟨p, vs, fp, rfl, hc, .inl hq⟩)
    obtain ⟨r1, r2⟩ := RTA.move ts vs hr sb fun q hq => e q (by rw [FT]; exact ⟨p, vs, fp, rfl, hc, .inr hq⟩)
    have hc' := cell_at hc e1
    constructor
    · rw [RT]
      exact ⟨p, vs, fp, rfl, hc', r1, fun q hq z => hn q hq ((r2 q).mp z), hn.k.mono sb (e1 p (cell_in hc))⟩
    · intro q
      rw [FT, FT]
      constructor
      · rintro ⟨p', vs', fp', z, hc2, h⟩
        cases z
        obtain ⟨rfl, rfl⟩ := cell_one hc' hc2
        exact ⟨p, _, _, rfl, hc, h.imp id (r2 q).mp⟩
      · rintro ⟨p', vs', fp', z, hc2, h⟩
        cases z
        obtain ⟨rfl, rfl⟩ := cell_one hc hc2
        exact ⟨p, _, _, rfl, hc', h.imp id (r2 q).mpr⟩
theorem RTA.move : ∀ (ts : List T) (vs : List V), RTA K B H ts vs → Same B B' → (∀ q, FTA K H ts vs q → H' q = H q) → RTA K B' H' ts vs ∧ ∀ q, FTA K H' ts vs q ↔ FTA K H ts vs q
  | [], [], _, _, _ => ⟨by rw [RTA]; trivial, fun q => by rw [FTA, FTA]⟩
  | [], _ :: _, h, _, _ => by rw [RTA] at h; exact h.elim
  | _ :: _, [], h, _, _ => by rw [RTA] at h; exact h.elim
  | t :: ts, v :: vs, h, sb, e => by
    rw [RTA] at h
    obtain ⟨h1, h2, h3⟩ := h
    obtain ⟨a1, a2⟩ := RT.move t v h1 sb fun q hq => e q (by rw [FTA]; exact .inl hq)
    obtain ⟨b1, b2⟩ := RTA.move ts vs h2 sb fun q hq => e q (by rw [FTA]; exact .inr hq)
    constructor
    · rw [RTA]
      exact ⟨a1, b1, fun q hq z => h3 q ((a2 q).mp hq) ((b2 q).mp z)⟩
    · intro q
      rw [FTA, FTA, a2, b2]
end
mutual
theorem RT.kind : ∀ (t : T) (v : V), RT K B H t v → ∀ q, FT K H t v q → ∃ u, H q = some u ∧ Kind u
  | .im d, v, _, q, h => by rw [FT] at h; exact h.elim
  | .nd k ts, v, h, q, hq => by
    rw [RT] at h
    obtain ⟨p, vs, fp, rfl, hc, hr, _⟩ := h
    rw [FT] at hq
    obtain ⟨p', vs', fp', z, hc2, hq⟩ := hq
    cases z
    obtain ⟨rfl, rfl⟩ := cell_one hc hc2
    rcases hq with hq | hq
    · exact cell_kind hc q hq
    · exact RTA.kind ts _ hr q hq
theorem RTA.kind : ∀ (ts : List T) (vs : List V), RTA K B H ts vs → ∀ q, FTA K H ts vs q → ∃ u, H q = some u ∧ Kind u
  | [], _, _, q, h => by rw [FTA] at h; exact h.elim
  | _ :: _, [], h, _, _ => by rw [RTA] at h; exact h.elim
  | t :: ts, v :: vs, h, q, hq => by
    rw [RTA] at h
    rw [FTA] at hq
    rcases hq with hq | hq
    · exact RT.kind t v h.1 q hq
    · exact RTA.kind ts vs h.2.1 q hq
end
theorem RTA.length : ∀ {ts : List T} {vs : List V}, RTA K B H ts vs → vs.length = ts.length
  | [], [], _ => rfl
  | [], _ :: _, h => by rw [RTA] at h; exact h.elim
  | _ :: _, [], h => by rw [RTA] at h; exact h.elim
  | t :: ts, v :: vs, h => by rw [RTA] at h; simp [RTA.length h.2.1]
end
mutual
noncomputable def T.d : T → D
  | .im d => d
  | .nd k ts => match k with
    | .ls => .lst (T.dA ts)
    | .tp => .tup (T.dA ts)
    | .dc ks => .dct (ks.map kD) (T.dA ts)
    | .dt ks => .dtt ks (T.dA ts)
    | .ob c ns => .ins c ns (T.dA ts)
noncomputable def T.dA : List T → List D
  | [] => []
  | t :: ts => t.d :: T.dA ts
end
section
variable {K : PySem.W.Frag} {B B' H : Hp}
mutual
theorem RT.frz : ∀ (t : T) (v : V), RT K B H t v → Same B B' → (∀ q, FT K H t v q → B' q = H q) → Rp K B' v t.d
  | .im d, v, h, sb, _ => by
    rw [RT] at h
    rw [T.d]
    exact h.mono sb
  | .nd k ts, v, h, sb, e => by
    rw [RT] at h
    obtain ⟨p, vs, fp, rfl, hc, hr, hn⟩ := h
    have r := RTA.frz ts vs hr sb fun q hq => e q (by rw [FT]; exact ⟨p, vs, fp, rfl, hc, .inr hq⟩)
    have hc' := cell_at (H' := B') hc fun q hq => e q (by rw [FT]; exact ⟨p, vs, fp, rfl, hc, .inl hq⟩)
    have hk := hn.k.mono (H' := B') sb (e p (by rw [FT]; exact ⟨p, vs, fp, rfl, hc, .inl (cell_in hc)⟩))
    cases k with
    | ls => rw [T.d]; exact .lst (SqL.of hc'.1) r
    | tp => rw [T.d]; exact .tup (.inl (.inl hc'.1)) r
    | dc ks =>
      obtain ⟨us, h1, rfl, rfl, _⟩ := hc'
      rw [T.d]
      simp only [List.map_map]
      exact .dct h1 r
    | dt ks =>
      obtain ⟨o, us, h1, ⟨h2, h3, h4, h5⟩, rfl, _⟩ := hc'
      obtain ⟨o', us', k1, k2⟩ := hk
      obtain ⟨_, rfl⟩ := Dx.inj h2 (Option.some.inj (h1.symm.trans k1))
      rw [T.d]
      exact .dcT h1 h2 h3 h4 h5 k2 r
    | ob c ns =>
      obtain ⟨C, dx, fs, h1, h2, h3, rfl, rfl, _⟩ := hc'
      rw [T.d]
      exact .ins h1 h2 h3 r
theorem RTA.frz : ∀ (ts : List T) (vs : List V), RTA K B H ts vs → Same B B' → (∀ q, FTA K H ts vs q → B' q = H q) → RpA K B' vs (T.dA ts)
  | [], [], _, _, _ => by rw [T.dA]; exact .nil
  | [], _ :: _, h, _, _ => by rw [RTA] at h; exact h.elim
  | _ :: _, [], h, _, _ => by rw [RTA] at h; exact h.elim
  | t :: ts, v :: vs, h, sb, e => by
    rw [RTA] at h
    rw [T.dA]
    exact .cons (RT.frz t v h.1 sb fun q hq => e q (by rw [FTA]; exact .inl hq)) (RTA.frz ts vs h.2.1 sb fun q hq => e q (by rw [FTA]; exact .inr hq))
end
end
inductive O where
  | im (d : D)
  | ow (ds : List D)
  | od (kvs : List (Key × D))
  | tr (m : Bool) (k : NK) (ts : List T)
noncomputable def O.isOw : O → Bool
  | .im _ => false
  | _ => true
noncomputable abbrev DS := List (Option O)
noncomputable def Ft (K : PySem.W.Frag) (H : Hp) (v : V) (q : Addr) : O → Prop
  | .im _ => False
  | .ow _ => v = .ref q
  | .od _ => v = .ref q
  | .tr _ k ts => FT K H (.nd k ts) v q
structure Org where
  h : Hp
  sf : Option V
noncomputable instance : CoeFun Org (fun _ => Addr → Option HO) := ⟨Org.h⟩
noncomputable instance : Coe Org Hp := ⟨Org.h⟩
noncomputable abbrev Org.of (H : Hp) : Org := ⟨H, none⟩
noncomputable abbrev Org.upd (H0 : Org) (p : Addr) (o : HO) : Org := ⟨L2.upd H0.h p o, H0.sf⟩
noncomputable def SR (K : PySem.W.Frag) (H0 : Org) (B H : Hp) (v : V) : O → Prop
  | .im d => Rp K B v d
  | .ow ds => ∃ p vs, v = .ref p ∧ H0 p = none ∧ B p = none ∧ H p = some (.lst vs) ∧ RpA K B vs ds
  | .od kvs => ∃ p us, v = .ref p ∧ H0 p = none ∧ B p = none ∧ H p = some (.dK us) ∧ us.map (·.1) = kvs.map (·.1) ∧ RpA K B (us.map (·.2)) (kvs.map (·.2))
  | .tr m k ts => RT K B H (.nd k ts) v ∧ (∀ q, FT K H (.nd k ts) v q → H0 q = none ∧ B q = none) ∧ (m = true → H0.sf = some v)
structure Rel (K : PySem.W.Frag) (B0 : Hp) (H0 : Org) (B H : Hp) (σ : L2.St) (δ : DS) : Prop where
  g : Grow K B0 H0.h B H
  tk : ∀ p ∈ tabsOf K, NdefX.TabN H0.h p lamAt
  nt : TB K B0 H0.h
  len : σ.length = δ.length
  sl : ∀ (i : Nat) (o : O), δ[i]? = some (some o) → ∃ v, σ[i]? = some (some v) ∧ SR K H0 B H v o
  sep : ∀ (i j : Nat) (o o' : O) (v v' : V), i ≠ j → δ[i]? = some (some o) → δ[j]? = some (some o') → σ[i]? = some (some v) → σ[j]? = some (some v') → ∀ q, Ft K H v q o → ¬ Ft K H v' q o'
section
variable {K : PySem.W.Frag} {B0 : Hp} {H0 : Org} {B H B' H' : Hp} {σ : L2.St} {δ : DS}
theorem SR.new {v : V} {o : O} (h : SR K H0 B H v o) : ∀ q, Ft K H v q o → H0 q = none ∧ B q = none ∧ ∃ u, H q = some u ∧ Kind u := by
  cases o with
  | im d => intro q z; exact z.elim
  | ow ds => obtain ⟨p, vs, rfl, h0, hb, hh, _⟩ := h; intro q z; cases z; exact ⟨h0, hb, _, hh, kind_lst _⟩
  | od kvs => obtain ⟨p, us, rfl, h0, hb, hh, _⟩ := h; intro q z; cases z; exact ⟨h0, hb, _, hh, kind_dK _⟩
  | tr m k ts => intro q z; exact ⟨(h.2.1 q z).1, (h.2.1 q z).2, RT.kind _ _ h.1 q z⟩
theorem SR.root {v : V} {o : O} (ho : o.isOw = true) (h : SR K H0 B H v o) : ∃ p, v = .ref p ∧ Ft K H v p o := by
  cases o with
  | im d => cases ho
  | ow ds => obtain ⟨p, vs, rfl, h0, hb, hh, _⟩ := h; exact ⟨p, rfl, rfl⟩
  | od kvs => obtain ⟨p, us, rfl, h0, hb, hh, _⟩ := h; exact ⟨p, rfl, rfl⟩
  | tr m k ts =>
    have h1 := h.1
    rw [RT] at h1
    obtain ⟨p, vs, fp, rfl, hc, _⟩ := h1
    exact ⟨p, rfl, by show FT K H (.nd k ts) _ p; rw [FT]; exact ⟨p, vs, fp, rfl, hc, .inl (cell_in hc)⟩⟩
theorem SR.move {v : V} {o : O} (h : SR K H0 B H v o) (sb : Same B B') (e : ∀ q, Ft K H v q o → B' q = none ∧ H' q = H q) : SR K H0 B' H' v o ∧ ∀ q, Ft K H' v q o ↔ Ft K H v q o := by
  cases o with
  | im d => exact ⟨Rp.mono sb h, fun _ => Iff.rfl⟩
  | ow ds =>
    obtain ⟨p, vs, rfl, h0, _, h1, r⟩ := h
    obtain ⟨hb, hh⟩ := e p rfl
    exact ⟨⟨_, vs, rfl, h0, hb, hh.trans h1, RpA.mono sb r⟩, fun _ => Iff.rfl⟩
  | od kvs =>
    obtain ⟨p, us, rfl, h0, _, h1, k, r⟩ := h
    obtain ⟨hb, hh⟩ := e p rfl
    exact ⟨⟨_, us, rfl, h0, hb, hh.trans h1, k, RpA.mono sb r⟩, fun _ => Iff.rfl⟩
  | tr m k ts =>
    obtain ⟨m1, m2⟩ := RT.move (.nd k ts) v h.1 sb fun q hq => (e q hq).2
    exact ⟨⟨m1, fun q hq => ⟨(h.2.1 q ((m2 q).mp hq)).1, (e q ((m2 q).mp hq)).1⟩, h.2.2⟩, m2⟩
theorem SR.grow {v : V} {o : O} (g : Grow K B H B' H') (h : SR K H0 B H v o) : SR K H0 B' H' v o ∧ ∀ q, Ft K H' v q o ↔ Ft K H v q o :=
  h.move g.b fun q hq => by
    obtain ⟨_, hb, u, hh, k⟩ := h.new q hq
    exact ⟨by rw [g.f q (by rw [hh]; simp)]; exact hb, by rw [hh]; exact g.h _ _ hh k.std⟩
theorem SR.mono {v : V} {o : O} (g : Grow K B H B' H') (h : SR K H0 B H v o) : SR K H0 B' H' v o := (h.grow g).1
theorem Rel.seps (r : Rel K B0 H0 B H σ δ) (h : ∀ (i : Nat) (o : O) (v : V), δ[i]? = some (some o) → σ[i]? = some (some v) → ∀ q, Ft K H' v q o → Ft K H v q o) :
    ∀ (i j : Nat) (o o' : O) (v v' : V), i ≠ j → δ[i]? = some (some o) → δ[j]? = some (some o') → σ[i]? = some (some v) → σ[j]? = some (some v') → ∀ q, Ft K H' v q o → ¬ Ft K H' v' q o' :=
  fun i j o o' v v' hij e1 e2 e3 e4 q f1 f2 => r.sep i j o o' v v' hij e1 e2 e3 e4 q (h i o v e1 e3 q f1) (h j o' v' e2 e4 q f2)
theorem Rel.mono (r : Rel K B0 H0 B H σ δ) (g : Grow K B H B' H') : Rel K B0 H0 B' H' σ δ :=
  ⟨r.g.trans g, r.tk, r.nt, r.len, fun i o e => by
    obtain ⟨v, h1, h2⟩ := r.sl i o e
    exact ⟨v, h1, h2.mono g⟩, r.seps fun i o v e1 e2 q hq => by
    obtain ⟨v', h1, h2⟩ := r.sl i o e1
    rw [e2] at h1
    cases h1
    exact ((h2.grow g).2 q).mp hq⟩
theorem Rel.get {i : Nat} {d : D} (r : Rel K B0 H0 B H σ δ) (e : δ[i]? = some (some (.im d))) : ∃ v, σ[i]? = some (some v) ∧ Rp K B v d := r.sl i _ e
theorem Rel.lt {i : Nat} {o : O} (e : δ[i]? = some (some o)) : i < δ.length := by
  by_cases hl : i < δ.length
  · exact hl
  · rw [List.getElem?_eq_none (by simpa using hl)] at e; cases e
theorem set_own {i m : Nat} {z : Option O} {o : O} (q : (δ.set i z)[m]? = some (some o)) : (i = m ∧ i < δ.length ∧ z = some o) ∨ (i ≠ m ∧ δ[m]? = some (some o)) := by
  by_cases hm : i = m
  · subst hm
    by_cases hl : i < δ.length
    · rw [List.getElem?_set_self hl] at q; exact .inl ⟨rfl, hl, Option.some.inj q⟩
    · rw [List.getElem?_eq_none (by simpa using hl)] at q; cases q
  · rw [List.getElem?_set_ne hm] at q
    exact .inr ⟨hm, q⟩
theorem Rel.sepSet {H' : Hp} {i : Nat} {v : V} {z : Option O} (r : Rel K B0 H0 B H σ δ) (hl : i < δ.length → i < σ.length)
    (old : ∀ (j : Nat) (o : O) (w : V), j ≠ i → δ[j]? = some (some o) → σ[j]? = some (some w) → ∀ q, Ft K H' w q o → Ft K H w q o)
    (new : ∀ o, z = some o → ∀ (j : Nat) (o' : O) (w : V), j ≠ i → δ[j]? = some (some o') → σ[j]? = some (some w) → ∀ q, Ft K H' v q o → ¬ Ft K H w q o') :
    ∀ (a b : Nat) (o o' : O) (w w' : V), a ≠ b → (δ.set i z)[a]? = some (some o) → (δ.set i z)[b]? = some (some o') → (σ.set i (some v))[a]? = some (some w) → (σ.set i (some v))[b]? = some (some w') → ∀ q, Ft K H' w q o → ¬ Ft K H' w' q o' := by
  intro a b o o' w w' hab e1 e2 e3 e4 q f1 f2
  rcases set_own e1 with ⟨rfl, hi, z1⟩ | ⟨n1, e1⟩
  · rw [List.getElem?_set_self (hl hi)] at e3
    cases e3
    rcases set_own e2 with ⟨rfl, _, _⟩ | ⟨n2, e2⟩
    · exact hab rfl
    · rw [List.getElem?_set_ne n2] at e4
      exact new o z1 b o' w' (Ne.symm n2) e2 e4 q f1 (old b o' w' (Ne.symm n2) e2 e4 q f2)
  · rw [List.getElem?_set_ne n1] at e3
    rcases set_own e2 with ⟨rfl, hi, z2⟩ | ⟨n2, e2⟩
    · rw [List.getElem?_set_self (hl hi)] at e4
      cases e4
      exact new o' z2 a o w (Ne.symm n1) e1 e3 q f2 (old a o w (Ne.symm n1) e1 e3 q f1)
    · rw [List.getElem?_set_ne n2] at e4
      exact r.sep a b o o' w w' hab e1 e2 e3 e4 q (old a o w (Ne.symm n1) e1 e3 q f1) (old b o' w' (Ne.symm n2) e2 e4 q f2)
theorem Rel.set {v : V} {d : D} (r : Rel K B0 H0 B H σ δ) (i : Nat) (h : Rp K B v d) : Rel K B0 H0 B H (σ.set i (some v)) (δ.set i (some (.im d))) := by
  refine ⟨r.g, r.tk, r.nt, by simp [r.len], fun j o e => ?_, r.sepSet (fun hi => by rw [r.len]; exact hi) (fun _ _ _ _ _ _ _ h => h) fun o z j o' w _ _ _ q f => by cases z; exact f.elim⟩
  rcases set_own e with ⟨rfl, hl, z⟩ | ⟨hj, e⟩
  · cases z
    exact ⟨v, by rw [List.getElem?_set_self (by rw [r.len]; exact hl)], h⟩
  · rw [List.getElem?_set_ne hj]
    exact r.sl j o e
theorem Rel.drop {v : Option V} (r : Rel K B0 H0 B H σ δ) (i : Nat) : Rel K B0 H0 B H (σ.set i v) (δ.set i none) := by
  refine ⟨r.g, r.tk, r.nt, by simp [r.len], fun j o e => ?_, fun a b o o' w w' hab e1 e2 e3 e4 => ?_⟩
  · rcases set_own e with ⟨_, _, z⟩ | ⟨hj, e⟩
    · cases z
    · rw [List.getElem?_set_ne hj]
      exact r.sl j o e
  · rcases set_own e1 with ⟨_, _, z⟩ | ⟨n1, e1⟩
    · cases z
    rcases set_own e2 with ⟨_, _, z⟩ | ⟨n2, e2⟩
    · cases z
    rw [List.getElem?_set_ne n1] at e3
    rw [List.getElem?_set_ne n2] at e4
    exact r.sep a b o o' w w' hab e1 e2 e3 e4
theorem Rel.setO {v : V} {o : O} (r : Rel K B0 H0 B H σ δ) (i : Nat) (h : SR K H0 B H v o) (fr : ∀ (j : Nat) (o' : O) (w : V), j ≠ i → δ[j]? = some (some o') → σ[j]? = some (some w) → ∀ q, Ft K H v q o → ¬ Ft K H w q o') :
    Rel K B0 H0 B H (σ.set i (some v)) (δ.set i (some o)) := by
  refine ⟨r.g, r.tk, r.nt, by simp [r.len], fun j o' e => ?_, r.sepSet (fun hi => by rw [r.len]; exact hi) (fun _ _ _ _ _ _ _ h => h) fun o1 z => by cases z; exact fr⟩
  rcases set_own e with ⟨rfl, hl, z⟩ | ⟨hj, e⟩
  · cases z
    exact ⟨_, by rw [List.getElem?_set_self (by rw [r.len]; exact hl)], h⟩
  · rw [List.getElem?_set_ne hj]
    exact r.sl j o' e
theorem Rel.fresh' {q : Addr} (r : Rel K B0 H0 B H σ δ) (hp : H q = none) : ∀ (j : Nat) (o' : O) (w : V), δ[j]? = some (some o') → σ[j]? = some (some w) → ¬ Ft K H w q o' := fun j o' w e e' z => by
  obtain ⟨v, h1, h2⟩ := r.sl j o' e
  rw [e'] at h1
  cases h1
  obtain ⟨_, _, u, hh, _⟩ := h2.new q z
  rw [hp] at hh
  cases hh
theorem Rel.free' {q : Addr} (r : Rel K B0 H0 B H σ δ) (g : Grow K B H B' H') (hp : H q = none) : ∀ (j : Nat) (o' : O) (w : V), δ[j]? = some (some o') → σ[j]? = some (some w) → ¬ Ft K H' w q o' := fun j o' w e e' z => by
  obtain ⟨v, h1, h2⟩ := r.sl j o' e
  rw [e'] at h1
  cases h1
  exact r.fresh' hp j o' w e e' (((h2.grow g).2 q).mp z)
theorem Rel.setG {p : Addr} {o : O} (r : Rel K B0 H0 B H σ δ) (i : Nat) (h : SR K H0 B H (.ref p) o) (fr : ∀ (j : Nat) (o' : O) (w : V), δ[j]? = some (some o') → σ[j]? = some (some w) → ¬ Ft K H w p o') (small : ∀ q, Ft K H (.ref p) q o → q = p := by intro q z; cases z; rfl) :
    Rel K B0 H0 B H (σ.set i (some (.ref p))) (δ.set i (some o)) := r.setO i h fun j o' w _ e e' q f => by rw [small q f]; exact fr j o' w e e'
theorem Rel.setOw {p : Addr} {vs : List V} {ds : List D} (r : Rel K B0 H0 B H σ δ) (i : Nat) (h0 : H0 p = none) (hb : B p = none) (hh : H p = some (.lst vs)) (q : RpA K B vs ds) (fr : ∀ (j : Nat) (o' : O) (w : V), δ[j]? = some (some o') → σ[j]? = some (some w) → ¬ Ft K H w p o') :
    Rel K B0 H0 B H (σ.set i (some (.ref p))) (δ.set i (some (.ow ds))) := r.setG i ⟨p, vs, rfl, h0, hb, hh, q⟩ fr
theorem Rel.chgK {i : Nat} {o : O} {z : Option O} {v v' : V} (r : Rel K B0 H0 B H σ δ) (e : δ[i]? = some (some o)) (es : σ[i]? = some (some v)) (g : Grow K B0 H0.h B' H') (sb : Same B B')
    (same : ∀ q u, ¬ Ft K H v q o → H q = some u → Kind u → H' q = H q ∧ B' q = B q) (new : ∀ o', z = some o' → SR K H0 B' H' v' o' ∧ ∀ q, Ft K H' v' q o' → Ft K H v q o ∨ H q = none) :
    Rel K B0 H0 B' H' (σ.set i (some v')) (δ.set i z) := by
  have hl := Rel.lt e
  have stay : ∀ (j : Nat) (oj : O) (w : V), j ≠ i → δ[j]? = some (some oj) → σ[j]? = some (some w) → SR K H0 B' H' w oj ∧ ∀ q, Ft K H' w q oj ↔ Ft K H w q oj := fun j oj w hj ej ew => by
    obtain ⟨w', h1, h2⟩ := r.sl j oj ej
    rw [ew] at h1
    cases h1
    refine h2.move sb fun q hq => ?_
    obtain ⟨_, hb, u, hh, kd⟩ := h2.new q hq
    obtain ⟨s1, s2⟩ := same q u (fun z => r.sep i j o oj v w (Ne.symm hj) e ej es ew q z hq) hh kd
    exact ⟨s2.trans hb, s1⟩
  refine ⟨g, r.tk, r.nt, by simp [r.len], fun j oj ej => ?_, r.sepSet (fun hi => by rw [r.len]; exact hi) (fun j oj w hj ej ew q hq => ((stay j oj w hj ej ew).2 q).mp hq) fun o' ho j oj w hj ej ew q hq hq' => ?_⟩
  · rcases set_own ej with ⟨rfl, _, ho⟩ | ⟨hj, ej⟩
    · exact ⟨v', by rw [List.getElem?_set_self (by rw [r.len]; exact hl)], (new oj ho).1⟩
    · obtain ⟨w, h1, _⟩ := r.sl j oj ej
      rw [List.getElem?_set_ne hj]
      exact ⟨w, h1, (stay j oj w (Ne.symm hj) ej h1).1⟩
  · rcases (new o' ho).2 q hq with h | h
    · exact r.sep i j o oj v w (Ne.symm hj) e ej es ew q h hq'
    · exact r.fresh' h j oj w ej ew hq'
theorem Rel.chg {i : Nat} {o : O} {z : Option O} {v v' : V} (r : Rel K B0 H0 B H σ δ) (e : δ[i]? = some (some o)) (es : σ[i]? = some (some v)) (g : Grow K B0 H0.h B' H') (sb : Same B B')
    (same : ∀ q, ¬ Ft K H v q o → H q ≠ none → H' q = H q ∧ B' q = B q) (new : ∀ o', z = some o' → SR K H0 B' H' v' o' ∧ ∀ q, Ft K H' v' q o' → Ft K H v q o ∨ H q = none) :
    Rel K B0 H0 B' H' (σ.set i (some v')) (δ.set i z) := r.chgK e es g sb (fun q u h1 h2 _ => same q h1 (by rw [h2]; simp)) new
theorem set_same {i : Nat} {v : V} (e : σ[i]? = some (some v)) : σ.set i (some v) = σ := by
  refine List.ext_getElem? fun j => ?_
  by_cases hj : i = j
  · subst hj
    have hl : i < σ.length := by
      by_cases hl : i < σ.length
      · exact hl
      · rw [List.getElem?_eq_none (by simpa using hl)] at e; cases e
    rw [List.getElem?_set_self hl, e]
  · rw [List.getElem?_set_ne hj]
theorem Grow.poke {p : Addr} {ho u : HO} {H0 : Hp} (g : Grow K B0 H0 B H) (h0 : H0 p = none) (hb : B p = none) (hh : H p = some u) (kd : Kind u) : Grow K B0 H0 B (upd H p ho) := by
  have nb : ∀ a o, B a = some o → a ≠ p := fun a o q z => by rw [z, hb] at q; cases q
  refine ⟨g.b, fun a o q nq => ?_, fun a o q => ?_, g.f, fun a ha => ?_, fun P hP => tab_updG (g.t P hP) hh kd, fun τ h => ?_⟩
  rotate_left 3
  · obtain ⟨τ', e, h'⟩ := g.n τ h
    refine ⟨τ', e, h'.grow (Same.refl _) (fun _ _ q => .inl q) fun a o us q => ?_⟩
    have : a ≠ p := fun z => by rw [z, hh] at q; exact kd.noMX (Option.some.inj q)
    rw [upd_ne this]
    exact q
  · have : a ≠ p := fun z => by rw [z, h0] at q; cases q
    rw [upd_ne this]
    exact g.h a o q nq
  · rw [upd_ne (nb a o q)]
    exact g.i a o q
  · have : a ≠ p := fun z => ha (by rw [z]; exact h0)
    rw [upd_ne this]
    exact g.e a ha
theorem Grow.fzp {p : Addr} {ho u : HO} {H0 : Hp} (g : Grow K B0 H0 B H) (h0 : H0 p = none) (hb : B p = none) (hh : H p = some u) (kd : Kind u) (nt : Pln ho) : Grow K B0 H0 (upd B p ho) (upd H p ho) := by
  refine ⟨g.b.trans (same_new hb), fun a o q nq => ?_, fun a o q => ?_, fun a ha => ?_, fun a ha => ?_, fun P hP => tab_updG (g.t P hP) hh kd, fun τ h => ?_⟩
  rotate_left 4
  · obtain ⟨τ', e, h'⟩ := g.n τ h
    refine ⟨τ', e, h'.grow (same_new hb) (upd_new nt) fun a o us q => ?_⟩
    have : a ≠ p := fun z => by rw [z, hh] at q; exact kd.noMX (Option.some.inj q)
    rw [upd_ne this]
    exact q
  · have : a ≠ p := fun z => by rw [z, h0] at q; cases q
    rw [upd_ne this]
    exact g.h a o q nq
  · by_cases hap : a = p
    · subst hap; rw [upd_same] at q ⊢; exact q
    · rw [upd_ne hap] at q ⊢; exact g.i a o q
  · have : a ≠ p := fun z => ha (by rw [z]; exact h0)
    rw [upd_ne this]
    exact g.f a ha
  · have : a ≠ p := fun z => ha (by rw [z]; exact h0)
    rw [upd_ne this]
    exact g.e a ha
theorem Rel.writeG {p : Addr} {o o' : O} {ho : HO} {i : Nat} (r : Rel K B0 H0 B H σ δ) (e : δ[i]? = some (some o)) (ow : o.isOw = true) (es_ : σ[i]? = some (some (.ref p))) (new : B p = none → H0 p = none → SR K H0 B (upd H p ho) (.ref p) o') (small : ∀ q, Ft K (upd H p ho) (.ref p) q o' → q = p := by intro q z; cases z; rfl) :
    Rel K B0 H0 B (upd H p ho) σ (δ.set i (some o')) := by
  obtain ⟨v, h1, hsr⟩ := r.sl i _ e
  rw [es_] at h1
  cases h1
  obtain ⟨p', hv, hf⟩ := SR.root ow hsr
  cases hv
  obtain ⟨h0, hb, u, hh, kd⟩ := hsr.new p hf
  have := r.chg (z := some o') (v' := .ref p) e es_ (r.g.poke h0 hb hh kd) (Same.refl _) (fun q hq _ => ⟨upd_ne fun z => hq (z ▸ hf), rfl⟩) fun o2 z => by
    cases z
    exact ⟨new hb h0, fun q hq => .inl (by rw [small q hq]; exact hf)⟩
  rw [set_same es_] at this
  exact this
theorem Rel.write {p : Addr} {us vs : List V} {ds es : List D} {i : Nat} (r : Rel K B0 H0 B H σ δ) (e : δ[i]? = some (some (.ow ds))) (es_ : σ[i]? = some (some (.ref p))) (q : RpA K B vs es) :
    Rel K B0 H0 B (upd H p (.lst vs)) σ (δ.set i (some (.ow es))) := r.writeG e rfl es_ fun hb h0 => ⟨p, vs, rfl, h0, hb, upd_same, q⟩
theorem Rel.freezeG {o : O} {d : D} {i : Nat} {p : Addr} {ho : HO} {H2 : Hp} (r : Rel K B0 H0 B H σ δ) (e : δ[i]? = some (some o)) (ow : o.isOw = true) (es_ : σ[i]? = some (some (.ref p))) (hH : H2 = upd H p ho) (nt : Pln ho)
    (hd : Rp K (upd B p ho) (.ref p) d) : Same B (upd B p ho) ∧ Rel K B0 H0 (upd B p ho) H2 σ (δ.set i (some (.im d))) := by
  obtain ⟨v, h1, hsr⟩ := r.sl i _ e
  rw [es_] at h1
  cases h1
  obtain ⟨p', hv, hf⟩ := SR.root ow hsr
  cases hv
  obtain ⟨h0, hb, u, hh, kd⟩ := hsr.new p hf
  subst hH
  have sb : Same B (upd B p ho) := same_new hb
  refine ⟨sb, ?_⟩
  have := r.chg (z := some (.im d)) (v' := .ref p) e es_ (r.g.fzp h0 hb hh kd nt) sb (fun q hq _ => ⟨upd_ne fun z => hq (z ▸ hf), upd_ne fun z => hq (z ▸ hf)⟩) fun o2 z => by
    cases z
    exact ⟨hd, fun q hq => hq.elim⟩
  rw [set_same es_] at this
  exact this
theorem upd_self {H : Hp} {p : Addr} {o : HO} (h : H p = some o) : upd H p o = H := by
  funext a
  by_cases ha : a = p
  · subst ha; rw [upd_same, h]
  · rw [upd_ne ha]
theorem Rel.freeze {ds : List D} {i : Nat} (r : Rel K B0 H0 B H σ δ) (e : δ[i]? = some (some (.ow ds))) : ∃ B', Same B B' ∧ Rel K B0 H0 B' H σ (δ.set i (some (.im (.lst ds)))) := by
  obtain ⟨v, h1, p, vs, rfl, h0, hb, hh, q⟩ := r.sl i _ e
  obtain ⟨sb, r'⟩ := r.freezeG (ho := .lst vs) (d := .lst ds) e rfl h1 (upd_self hh).symm (kind_lst _).pln (.lst (SqL.of upd_same) (RpA.mono (same_new hb) q))
  exact ⟨_, sb, r'⟩
open Classical in
noncomputable def fzH (B H : Hp) (F : Addr → Prop) : Hp := fun a => if F a then H a else B a
theorem fzH_same {F : Addr → Prop} (hF : ∀ q, F q → B q = none) : Same B (fzH B H F) := fun a o q => by
  have : ¬ F a := fun z => by rw [hF a z] at q; cases q
  unfold fzH
  rw [if_neg this]
  exact q
theorem Grow.fzF {F : Addr → Prop} {H0 : Hp} (g : Grow K B0 H0 B H) (hF : ∀ q, F q → H0 q = none ∧ B q = none ∧ ∃ u, H q = some u ∧ Kind u) : Grow K B0 H0 (fzH B H F) H := by
  refine ⟨g.b.trans (fzH_same fun q hq => (hF q hq).2.1), g.h, fun a o q => ?_, fun a ha => ?_, g.e, g.t, fun τ h => ?_⟩
  · unfold fzH at q
    split at q
    · exact q
    · exact g.i a o q
  · have : ¬ F a := fun z => ha (hF a z).1
    unfold fzH
    rw [if_neg this]
    exact g.f a ha
  · obtain ⟨τ', e, h'⟩ := g.n τ h
    refine ⟨τ', e, h'.grow (fzH_same fun q hq => (hF q hq).2.1) (fun a o q => ?_) fun a o us q => q⟩
    unfold fzH at q
    split at q
    · rename_i hf
      obtain ⟨_, _, u, hu, k⟩ := hF a hf
      rw [hu] at q
      cases q
      exact .inr k.pln
    · exact .inl q
theorem Rel.freezeT {m : Bool} {k : NK} {ts : List T} {i : Nat} {v : V} (r : Rel K B0 H0 B H σ δ) (e : δ[i]? = some (some (.tr m k ts))) (es : σ[i]? = some (some v)) : Same B (fzH B H (FT K H (.nd k ts) v)) ∧ Rel K B0 H0 (fzH B H (FT K H (.nd k ts) v)) H σ (δ.set i (some (.im (T.nd k ts).d))) := by
  obtain ⟨v', h1, hsr⟩ := r.sl i _ e
  rw [es] at h1
  cases h1
  have hF := hsr.new
  have sb := fzH_same (B := B) (H := H) (F := FT K H (.nd k ts) v) fun q hq => (hF q hq).2.1
  refine ⟨sb, ?_⟩
  have := r.chg (z := some (.im (T.nd k ts).d)) (v' := v) e es (r.g.fzF (F := FT K H (.nd k ts) v) hF) sb (fun q hq _ => ⟨rfl, by unfold fzH; exact if_neg hq⟩) fun o2 z => by
    cases z
    refine ⟨RT.frz _ _ hsr.1 sb fun q hq => ?_, fun q hq => hq.elim⟩
    unfold fzH
    rw [if_pos hq]
  rw [set_same es] at this
  exact this
end
noncomputable def RpX (K : PySem.W.Frag) (B : Hp) (c : Value) (dx : Option Addr) (x : Exn) : Prop :=
  clsV K x.cls = some c ∧ ∃ d us, dx = some d ∧ B d = some (.xd us) ∧ us.map (·.1) = x.fs.map (·.1) ∧ RpA K B (us.map (·.2)) (x.fs.map (·.2))
section
variable (K : PySem.W.Frag)
noncomputable def PostE (B H : Hp) (σ : L2.St) (W : WX) (Q : VK) : Res D → Prop
  | .ok d => ∀ v B' H', Grow K B H B' H' → Rp K B' v d → Q v H'
  | .er x => ∀ c dx B' H', Grow K B H B' H' → RpX K B' c dx x → W c dx σ H'
  | .no => False
noncomputable def PostT (B H : Hp) (σ : L2.St) (W : WX) (Q : Bool → Hp → Prop) : Res Bool → Prop
  | .ok b => ∀ B' H', Grow K B H B' H' → Q b H'
  | .er x => ∀ c dx B' H', Grow K B H B' H' → RpX K B' c dx x → W c dx σ H'
  | .no => False
noncomputable def PostA (B H : Hp) (σ : L2.St) (W : WX) (Q : List V → Hp → Prop) : Res (List D) → Prop
  | .ok ds => ∀ vs B' H', Grow K B H B' H' → RpA K B' vs ds → Q vs H'
  | .er x => ∀ c dx B' H', Grow K B H B' H' → RpX K B' c dx x → W c dx σ H'
  | .no => False
noncomputable def PostF (B H : Hp) (σ : L2.St) (W : WX) (Q : VK) : Res (List D) → Prop
  | .ok ds => ∀ p vs B' H', Grow K B H B' H' → H p = none → B' p = none → H' p = some (.lst vs) → RpA K B' vs ds → Q (.ref p) H'
  | .er x => ∀ c dx B' H', Grow K B H B' H' → RpX K B' c dx x → W c dx σ H'
  | .no => False
noncomputable def SE (W : WX) (t : TE) (f : DS → Res D) : Prop := ∀ B0 H0 δ σ B H (Q : VK), Rel K B0 H0 B H σ δ → PostE K B H σ W Q (f δ) → t σ H Q
noncomputable def ST (W : WX) (t : TT) (f : DS → Res Bool) : Prop := ∀ B0 H0 δ σ B H (Q : Bool → Hp → Prop), Rel K B0 H0 B H σ δ → PostT K B H σ W Q (f δ) → t σ H Q
noncomputable def SA (W : WX) (t : TA) (f : DS → Res (List D)) : Prop := ∀ B0 H0 δ σ B H (Q : List V → Hp → Prop), Rel K B0 H0 B H σ δ → PostA K B H σ W Q (f δ) → t σ H Q
noncomputable def SF (W : WX) (t : TE) (f : DS → Res (List D)) : Prop := ∀ B0 H0 δ σ B H (Q : VK), Rel K B0 H0 B H σ δ → PostF K B H σ W Q (f δ) → t σ H Q
end
inductive Fl where
  | nx (δ : DS)
  | rt (d : D)
  | rf (ds : List D)
  | rn (t : T)
  | ro (d : D) (δ : DS)
  | bk (δ : DS)
  | ct (δ : DS)
  | rs (x : Exn) (δ : DS)
  | no
noncomputable def PostS (K : PySem.W.Frag) (B0 : Hp) (H0 : Org) (B : Hp) (W : WX) (E : Ends) : Fl → Prop
  | .nx δ => ∀ σ B' H', Same B B' → Rel K B0 H0 B' H' σ δ → E.nx σ H'
  | .bk δ => ∀ σ B' H', Same B B' → Rel K B0 H0 B' H' σ δ → E.bk σ H'
  | .ct δ => ∀ σ B' H', Same B B' → Rel K B0 H0 B' H' σ δ → E.ct σ H'
  | .rt d => ∀ v B' H', Same B B' → Grow K B0 H0.h B' H' → Rp K B' v d → E.rt v H'
  | .ro d δ => ∀ v σ B' H', Same B B' → Rel K B0 H0 B' H' σ δ → Rp K B' v d → E.rt v H'
  | .rf ds => ∀ p xs B' H', Same B B' → Grow K B0 H0.h B' H' → H0.h p = none → B' p = none → H' p = some (.lst xs) → RpA K B' xs ds → E.rt (.ref p) H'
  | .rn t => ∀ v B' H', Same B B' → Grow K B0 H0.h B' H' → RT K B' H' t v → (∀ q, FT K H' t v q → H0.h q = none ∧ B' q = none) → E.rt v H'
  | .rs x δ => ∀ c dx σ B' H', Same B B' → Rel K B0 H0 B' H' σ δ → RpX K B' c dx x → W c dx σ H'
  | .no => False
noncomputable def SS (K : PySem.W.Frag) (W : WX) (t : TS) (g : DS → Fl) : Prop := ∀ B0 H0 δ σ B H (E : Ends), Rel K B0 H0 B H σ δ → PostS K B0 H0 B W E (g δ) → t E σ H
structure CE (X : Cx) (W : WX) (e : Expr) (t : TE) (f : DS → Res D) : Prop where
  pe : PE X e t
  se : SE X.K W t f
structure CF (X : Cx) (W : WX) (e : Expr) (t : TE) (f : DS → Res (List D)) : Prop where
  pe : PE X e t
  sf : SF X.K W t f
structure CT (X : Cx) (W : WX) (e : Expr) (t : TT) (f : DS → Res Bool) : Prop where
  pt : PT X e t
  st : ST X.K W t f
structure CW (X : Cx) (W : WX) (e : Expr) (t : TT) (f : DS → Res Bool) : Prop where
  pw : PW X e t
  st : ST X.K W t f
structure CA (X : Cx) (W : WX) (es : List Expr) (t : TA) (f : DS → Res (List D)) : Prop where
  pa : PA X es t
  sa : SA X.K W t f
structure CS (X : Cx) (W : WX) (s : Stmt) (t : TS) (g : DS → Fl) : Prop where
  ps : PS X s t
  ss : SS X.K W t g
structure CSs (X : Cx) (W : WX) (s : List Stmt) (t : TS) (g : DS → Fl) : Prop where
  ps : PSs X s t
  ss : SS X.K W t g
theorem CW.ct {X : Cx} {W : WX} {e : Expr} {t : TT} {f : DS → Res Bool} (h : CW X W e t f) : CT X W e t f := ⟨h.pw.pt, h.st⟩
end DV
namespace DV
open PySem L2
mutual
noncomputable def D.pu : D → Bool
  | .v _ => true
  | .tup xs => D.puA xs
  | _ => false
noncomputable def D.puA : List D → Bool
  | [] => true
  | d :: ds => d.pu && D.puA ds
end
mutual
theorem pu_nkD : ∀ k : NestedKey, (nkD k).pu = true
  | .none => by rw [nkD, D.pu]
  | .num _ => by rw [nkD, D.pu]
  | .text _ => by rw [nkD, D.pu]
  | .tup ks => by rw [nkD, D.pu]; exact pu_nkDs ks
theorem pu_nkDs : ∀ ks : List NestedKey, D.puA (nkDs ks) = true
  | [] => by rw [nkDs, D.puA]
  | k :: ks => by rw [nkDs, D.puA, pu_nkD k, pu_nkDs ks]; rfl
end
theorem puA_of : ∀ {ds : List D}, (∀ (i : Nat) (d : D), ds[i]? = some d → d.pu = true) → D.puA ds = true
  | [], _ => by rw [D.puA]
  | d :: ds, h => by
    rw [D.puA, h 0 d (by simp), puA_of fun i e he => h (i + 1) e (by simpa using he)]
    rfl
section
variable {K : PySem.W.Frag} {B B' H H' : Hp}
mutual
theorem Rp.pure (e : ∀ a u, TK u → B a = some u → B' a = some u) : ∀ {v : V} {d : D}, Rp K B v d → d.pu = true → Rp K B' v d
  | _, _, .v x, _ => .v x
  | _, _, .lst _ _, hd => by rw [D.pu] at hd; cases hd; all_goals (intros; rename_i z; cases z)
  | _, _, .tup h r, hd => by
    rw [D.pu] at hd
    refine .tup ?_ (RpA.pure e r hd)
    rcases h with (h | ⟨o, h⟩) | h
    · exact .inl (.inl (e _ _ (.inl ⟨_, rfl⟩) h))
    · exact .inl (.inr ⟨o, e _ _ (.inr ⟨_, _, rfl⟩) h⟩)
    · exact .inr h
  | _, _, .dct _ _, hd => by rw [D.pu] at hd; cases hd; all_goals (intros; rename_i z; cases z)
  | _, _, .dcT _ _ _ _ _ _ _, hd => by rw [D.pu] at hd; cases hd; all_goals (intros; rename_i z; cases z)
  | _, _, .ins _ _ _ _, hd => by rw [D.pu] at hd; cases hd; all_goals (intros; rename_i z; cases z)
  | _, _, .ptp _ _, hd => by rw [D.pu] at hd; cases hd; all_goals (intros; rename_i z; cases z)
  | _, _, .dlk _ _, hd => by rw [D.pu] at hd; cases hd; all_goals (intros; rename_i z; cases z)
  | _, _, .wor _ _ _ _, hd => by rw [D.pu] at hd; cases hd; all_goals (intros; rename_i z; cases z)
theorem RpA.pure (e : ∀ a u, TK u → B a = some u → B' a = some u) : ∀ {vs : List V} {ds : List D}, RpA K B vs ds → D.puA ds = true → RpA K B' vs ds
  | _, _, .nil, _ => .nil
  | _, _, .cons h r, hd => by
    rw [D.puA, Bool.and_eq_true] at hd
    exact .cons (Rp.pure e h hd.1) (RpA.pure e r hd.2)
end
theorem EntOk.pu {τ : D × D} {us : List (Int × Addr × V)} {ks : List NestedKey} {ds : List D} (h : EntOk K B τ us ks ds) : D.puA ds = true := puA_of fun i d hd => by
  have hl : ks.length = ds.length := by
    have h1 := congrArg List.length h.hs
    have h2 := h.rv.length
    simp only [List.length_map] at h1 h2
    omega
  have hi : i < ks.length := by rw [hl]; exact (List.getElem?_eq_some_iff.mp hd).1
  obtain ⟨d', h1, _, _, _, _, _, _, _, _, rfl⟩ := h.fr i ks[i] (List.getElem?_eq_getElem hi)
  rw [hd] at h1
  cases h1
  rfl
theorem EntOk.pure {τ : D × D} {us : List (Int × Addr × V)} {ks : List NestedKey} {ds : List D} (e : ∀ a u, TK u → B a = some u → B' a = some u) (h : EntOk K B τ us ks ds) : EntOk K B' τ us ks ds := ⟨h.hs, h.nd, h.ok, h.rk.pure e (pu_nkDs ks), h.rv.pure e h.pu, h.fr, h.fk⟩
noncomputable def dropW : Option HO → Option HO
  | some (.frz _ (.ins _ _ _)) => none
  | x => x
theorem dropW_some {x : Option HO} {u : HO} (h : dropW x = some u) : x = some u ∧ ∀ b C dx fs, u ≠ .frz b (.ins C dx fs) := by
  unfold dropW at h
  split at h
  · cases h
  · rename_i hn
    exact ⟨h, fun b C dx fs z => hn b C dx fs (by rw [h, z])⟩
theorem dropW_keep {u : HO} (h : ∀ b C dx fs, u ≠ .frz b (.ins C dx fs)) : dropW (some u) = some u := by
  unfold dropW
  split
  · rename_i e; cases e; exact absurd rfl (h _ _ _ _)
  · rfl
theorem TK.noW {u : HO} (h : TK u) : ∀ b C dx fs, u ≠ .frz b (.ins C dx fs) := fun b C dx fs z => by
  rcases h with ⟨_, rfl⟩ | ⟨_, _, rfl⟩ <;> cases z
theorem TBt.unlend {τ τ2 : Addr → D × D} {B2 H2 B3 H3 : Hp} (h : TBt K τ B H) (h2 : TBt K τ2 B2 H2) (e2 : ∀ x, H x ≠ none → τ2 x = τ x) (i : Same B H) (s2 : Same B B2) (s3 : Same B B3) (nt : NoT B3) (old : ∀ x o C dx fs, B3 x = some (.frz o (.ins C dx fs)) → B x = some (.frz o (.ins C dx fs)))
    (keep : ∀ a u, TK u → B2 a = some u → B3 a = some u) (hx : ∀ a o us, H2 a = some (MX a o us) → H3 a = some (MX a o us)) : TBt K τ2 B3 H3 := ⟨nt, fun x o C dx fs q => by
  have q0 := old x o C dx fs q
  obtain ⟨tv, av, a, ob, us, ks, ds, m⟩ := h.mo x o C dx fs q0
  obtain ⟨tv2, av2, a2, ob2, us2, ks2, ds2, m2⟩ := h2.mo x o C dx fs (s2 _ _ q0)
  have ef := m.fs.symm.trans m2.fs
  simp only [List.cons.injEq, Prod.mk.injEq, true_and, V.ref.injEq, and_true] at ef
  obtain ⟨rfl, rfl, rfl⟩ := ef
  have et : τ2 a = τ a := e2 a (by rw [m.hm]; simp)
  exact ⟨tv, av, a, ob2, us2, ks2, ds2, m2.fs, s3 _ _ m.dx, hx _ _ _ m2.hm, m2.ox, m2.nc, by rw [et]; exact m.rt.mono s3, by rw [et]; exact m.ra.mono s3, m2.en.pure keep⟩⟩
open Classical in
noncomputable def unB (B H B2 : Hp) : Hp := fun a => if H a = none then dropW (B2 a) else B a
theorem Grow.unlendT {B2 H2 : Hp} (i : Same B H) (nB : NoT B) (sb : Same B B') (new : ∀ a u, B' a = some u → B a = some u ∨ (H a = some u ∧ Kind u ∧ ¬ TK u)) (g : Grow K B' H B2 H2) :
    Grow K B H (unB B H B2) H2 ∧ (∀ a u, TK u → B2 a = some u → unB B H B2 a = some u) ∧ ∀ a u, (∀ b C dx fs, u ≠ .frz b (.ins C dx fs)) → (B' a = some u → B a = some u) → B2 a = some u → unB B H B2 a = some u := by
  have s3 : Same B (unB B H B2) := fun a o q => by
    unfold unB
    rw [if_neg (by rw [i a o q]; simp)]
    exact q
  have keep : ∀ a u, (∀ b C dx fs, u ≠ .frz b (.ins C dx fs)) → (B' a = some u → B a = some u) → B2 a = some u → unB B H B2 a = some u := fun a u hu hb q => by
    unfold unB
    by_cases ha : H a = none
    · rw [if_pos ha, q, dropW_keep hu]
    · rw [if_neg ha]
      rw [g.f a ha] at q
      exact hb q
  have keepT : ∀ a u, TK u → B2 a = some u → unB B H B2 a = some u := fun a u hu q => keep a u hu.noW (fun z => (new a u z).elim id fun z => absurd hu z.2.2) q
  refine ⟨⟨s3, g.h, fun a o q => ?_, fun a ha => ?_, g.e, g.t, fun τ h => ?_⟩, keepT, keep⟩
  · unfold unB at q
    split at q
    · exact g.i a o (dropW_some q).1
    · exact g.h a o (i a o q) (nB a o q)
  · unfold unB
    rw [if_neg ha]
  · have h' : TBt K τ B' H := h.grow sb (fun a o q => (new a o q).imp id fun z => z.2.1.pln) fun _ _ _ q => q
    obtain ⟨τ2, e2, h2⟩ := g.n τ h'
    refine ⟨τ2, e2, h.unlend h2 e2 i (sb.trans g.b) s3 (fun a o q => ?_) (fun x o C dx fs q => ?_) keepT fun _ _ _ q => q⟩
    · unfold unB at q
      split at q
      · exact h2.nt a o (dropW_some q).1
      · exact nB a o q
    · unfold unB at q
      split at q
      · exact absurd rfl ((dropW_some q).2 o C dx fs)
      · exact q
theorem TB.nt (h : TB K B H) : NoT B := h.elim fun _ h => h.nt
theorem TBt.poke {τ : Addr → D × D} {p : Addr} {u ho : HO} (h : TBt K τ B H) (hh : H p = some u) (nu : ∀ b c w, u ≠ MX b c w) : TBt K τ B (upd H p ho) := h.grow (Same.refl _) (fun _ _ q => .inl q) fun a o us q => by
  have : a ≠ p := fun z => by rw [z, hh] at q; exact nu _ _ _ (Option.some.inj q)
  rw [upd_ne this]
  exact q
theorem Grow.nu {p : Addr} {o : HO} (g : Grow K B H B' H') (hb : B' p = none) (po : Pln o) : ∀ τ, TBt K τ B H → ∃ τ', (∀ x, H x ≠ none → τ' x = τ x) ∧ TBt K τ' (upd B' p o) H' := fun τ h => by
  obtain ⟨τ', e, h'⟩ := g.n τ h
  exact ⟨τ', e, h'.grow (same_new hb) (upd_new po) fun _ _ _ q => q⟩
theorem Grow.np {p : Addr} {ho u : HO} (g : Grow K B H B' H') (hh : H' p = some u) (nu : ∀ b c w, u ≠ MX b c w) : ∀ τ, TBt K τ B H → ∃ τ', (∀ x, H x ≠ none → τ' x = τ x) ∧ TBt K τ' B' (upd H' p ho) := fun τ h => by
  obtain ⟨τ', e, h'⟩ := g.n τ h
  exact ⟨τ', e, h'.poke hh nu⟩
end
end DV
namespace DV
open PySem L2
section
variable {X : Cx} {W : WX} {K : PySem.W.Frag} {B H B0 : Hp} {H0 : Org} {σ : L2.St} {δ : DS} {Q : VK}
theorem postE_mono {B1 H1 : Hp} {Q : VK} {r : Res D} (g : Grow K B H B1 H1) (h : PostE K B H σ W Q r) : PostE K B1 H1 σ W Q r := by
  cases r with
  | ok d => exact fun v B' H' g' rp => h v B' H' (g.trans g') rp
  | er x => exact fun c dx B' H' g' rp => h c dx B' H' (g.trans g') rp
  | no => exact h
noncomputable def cVar (i : Nat) : DS → Res D := fun δ => match δ[i]? with
  | some (some (.im d)) => .ok d
  | _ => .no
theorem se_var (i : Nat) : SE K W (tVar i) (cVar i) := fun B0 H0 δ σ B H Q r h => by
  unfold cVar at h
  cases e : δ[i]? with
  | none => rw [e] at h; exact h.elim
  | some o =>
    cases o with
    | none => rw [e] at h; exact h.elim
    | some o =>
      cases o with
      | ow ds => rw [e] at h; exact h.elim
      | od ds => rw [e] at h; exact h.elim
      | tr _ _ _ => rw [e] at h; exact h.elim
      | im d =>
        rw [e] at h
        obtain ⟨v, h1, h2⟩ := r.get e
        exact ⟨v, h1, h v B H (Grow.refl r.g.i) h2⟩
theorem ce_var (i : Nat) {x : Str} {pos : Pos} (hN : X.N[i]? = some x := by rfl) (hv : Vis X.env.scope x := by first | exact Or.inl rfl | exact Or.inr (Or.inl rfl) | exact Or.inr (Or.inr rfl)) (hd : (x == ("__debug__" : Str)) = false := by decide)
    (hcd : (x == ("__classdict__" : Str)) = false := by decide) : CE X W (.Name x pos) (tVar i) (cVar i) := ⟨pe_var hN hv hd hcd, se_var i⟩
noncomputable def cC (d : D) : DS → Res D := fun _ => .ok d
theorem se_c (v : V) : SE K W (tC v) (cC (.v v)) := fun B0 H0 δ σ B H Q r h => h v B H (Grow.refl r.g.i) (.v v)
theorem ce_int {i : Int} {j pos} : CE X W (.Constant (.int i) j pos) (tC (.int i)) (cC (.int i)) := ⟨pe_int, se_c _⟩
theorem ce_bl {b : Bool} {j pos} : CE X W (.Constant (.bool b) j pos) (tC (.bl b)) (cC (.bl b)) := ⟨pe_bl, se_c _⟩
theorem ce_non {j pos} : CE X W (.Constant .none j pos) (tC .non) (cC .non) := ⟨pe_non, se_c _⟩
theorem ce_str {x : Str} {j pos} : CE X W (.Constant (.str x) j pos) (tC (.str x)) (cC (.str x)) := ⟨pe_str, se_c _⟩
theorem ce_glob {x : Str} {v : V} {u : Value} {d : D} {pos : Pos} (hg : Gl X x) (hm : X.mg x = some u) (r : RelV v u) (hk : ∀ B, Rp X.K B v d) (hd : (x == ("__debug__" : Str)) = false := by decide) : CE X W (.Name x pos) (tC v) (cC d) :=
  ⟨pe_glob hg hm r hd, fun B0 H0 δ σ B H Q r h => h v B H (Grow.refl r.g.i) (hk B)⟩
theorem ce_bltn {x : Str} {v : V} {u : Value} {pos : Pos} (hg : Gl X x) (hm : X.mg x = none) (hv : bootBuiltins x = some u) (r : RelV v u) (hn : x ≠ "__name__" := by decide) (hd : (x == ("__debug__" : Str)) = false := by decide) : CE X W (.Name x pos) (tC v) (cC (.v v)) :=
  ⟨pe_bltn hg hm hv r hn hd, se_c _⟩
noncomputable def PostV (K : PySem.W.Frag) (B H : Hp) (Q : VK) : Res D → Prop
  | .ok d => ∀ v B' H', Grow K B H B' H' → Rp K B' v d → Q v H'
  | _ => False
noncomputable def RO (K : PySem.W.Frag) (r : R2) (g : D → D → Res D) : Prop := ∀ x y d e B H Q, Same B H → Rp K B x d → Rp K B y e → PostV K B H Q (g d e) → r x y H Q
noncomputable def cBin (g : D → D → Res D) (fa fb : DS → Res D) : DS → Res D := fun δ => (fa δ).bind fun x => (fb δ).bind fun y => g x y
noncomputable def cUn (g : D → Res D) (fa : DS → Res D) : DS → Res D := fun δ => (fa δ).bind g
noncomputable def Calm2 (g : D → D → Res D) : Prop := ∀ d e x, g d e ≠ .er x
theorem postV_of {r : Res D} (h : PostE K B H σ W Q r) (hc : ∀ x, r ≠ .er x) : PostV K B H Q r := by
  cases r with
  | ok d => exact h
  | er x => exact absurd rfl (hc x)
  | no => exact h
theorem se_op {ta tb : TE} {fa fb : DS → Res D} {r : R2} {g : D → D → Res D} (ho : RO K r g) (hc : Calm2 g) (ha : SE K W ta fa) (hb : SE K W tb fb) : SE K W (tOp r ta tb) (cBin g fa fb) := fun B0 H0 δ σ B H Q rel h => by
  unfold cBin at h
  refine ha B0 H0 δ σ B H _ rel ?_
  cases e : fa δ with
  | no => rw [e] at h; exact h
  | er x => rw [e] at h; exact h
  | ok d =>
    rw [e, Res.bind_ok] at h
    intro v B1 H1 g1 r1
    refine hb B0 H0 δ σ B1 H1 _ (rel.mono g1) ?_
    cases e2 : fb δ with
    | no => rw [e2] at h; exact h
    | er x => rw [e2] at h; exact fun c dx B' H' g' rp => h c dx B' H' (g1.trans g') rp
    | ok d2 =>
      rw [e2, Res.bind_ok] at h
      intro u B2 H2 g2 r2
      exact ho v u d d2 B2 H2 Q g2.i (Rp.mono g2.b r1) r2 (postV_of (postE_mono (g1.trans g2) h) (hc d d2))
theorem ce_op {a b : Expr} {op : Operator} {pos : Pos} {ta tb : TE} {fa fb : DS → Res D} {r : R2} {g : D → D → Res D} (ho : OpR X (binaryOp op) r) (hr : RO X.K r g) (hc : Calm2 g) (ha : CE X W a ta fa) (hb : CE X W b tb fb) : CE X W (.BinOp a op b pos) (tOp r ta tb) (cBin g fa fb) :=
  ⟨pe_op ho ha.pe hb.pe, se_op hr hc ha.se hb.se⟩
theorem ce_cmp {a b : Expr} {op : CmpOp} {pos : Pos} {ta tb : TE} {fa fb : DS → Res D} {r : R2} {g : D → D → Res D} (ho : OpR X (compareOp op) r) (hr : RO X.K r g) (hc : Calm2 g) (ha : CE X W a ta fa) (hb : CE X W b tb fb) (hm : behindInMarks op b = false) : CE X W (.Compare a [op] [b] pos) (tOp r ta tb) (cBin g fa fb) :=
  ⟨pe_cmpR ho ha.pe hb.pe hm, se_op hr hc ha.se hb.se⟩
end
section
variable {X : Cx} {W : WX} {K : PySem.W.Frag}
theorem ro_I {C : Int → Int → Prop} {gv : Int → Int → V} {g : D → D → Res D} (hg : ∀ d e z, g d e = .ok z → ∃ i j, d = .int i ∧ e = .int j ∧ C i j ∧ z = .v (gv i j)) : RO K (rI C gv) g := fun x y d e B H Q i rx ry h => by
  cases q : g d e with
  | ok z =>
    rw [q] at h
    obtain ⟨i', j, rfl, rfl, hc, rfl⟩ := hg d e z q
    cases rx
    cases ry
    exact ⟨i', j, rfl, rfl, hc, h _ B H (Grow.refl i) (.v _)⟩
  | er x => rw [q] at h; exact h.elim
  | no => rw [q] at h; exact h.elim
theorem ro_I0 {gv : Int → Int → V} {g : D → D → Res D} (hg : ∀ d e z, g d e = .ok z → ∃ i j, d = .int i ∧ e = .int j ∧ z = .v (gv i j)) : RO K (rI0 gv) g := fun x y d e B H Q i rx ry h => by
  cases q : g d e with
  | ok z =>
    rw [q] at h
    obtain ⟨i', j, rfl, rfl, rfl⟩ := hg d e z q
    cases rx
    cases ry
    exact ⟨i', j, rfl, rfl, h _ B H (Grow.refl i) (.v _)⟩
  | er x => rw [q] at h; exact h.elim
  | no => rw [q] at h; exact h.elim
noncomputable def oSub : D → D → Res D
  | .v (.int i), .v (.int j) => .ok (.int (i - j))
  | _, _ => .no
noncomputable def oMod : D → D → Res D
  | .v (.int i), .v (.int j) => if j ≠ 0 then .ok (.int (i.fmod j)) else .no
  | _, _ => .no
noncomputable def oFdiv : D → D → Res D
  | .v (.int i), .v (.int j) => if j ≠ 0 ∧ j.natAbs.log2 < 9000 then .ok (.int (i.fdiv j)) else .no
  | _, _ => .no
noncomputable def oPow : D → D → Res D
  | .v (.int i), .v (.int j) => if 0 ≤ j ∧ j.natAbs ≤ 1000000 ∧ i.natAbs < 18446744073709551616 then .ok (.int (i ^ j.toNat)) else .no
  | _, _ => .no
noncomputable def oAdd : D → D → Res D
  | .v (.int i), .v (.int j) => .ok (.int (i + j))
  | .v (.str i), .v (.str j) => if i.length + j.length ≤ sizeLine then .ok (.str (i ++ j)) else .no
  | .lst a, .lst b => if a.length + b.length ≤ sizeLine then .ok (.lst (a ++ b)) else .no
  | .tup a, .tup b => if a.length + b.length ≤ sizeLine then .ok (.tup (a ++ b)) else .no
  | _, _ => .no
theorem op_catL : OpR X (binaryOp .Add) (fun x y H Q => ∃ l b xs zs, x = .ref l ∧ y = .ref b ∧ SqL X.K H l xs ∧ SqL X.K H b zs ∧ xs.length + zs.length ≤ sizeLine ∧ ∀ p, H p = none → Q (.ref p) (upd H p (.lst (xs ++ zs)))) := by
  intro pins s σ H x y v u Q I rx ry h
  obtain ⟨l, b, xs, zs, rfl, rfl, hH, hB, hz, q⟩ := h
  cases rx
  cases ry
  obtain ⟨its, r, ⟨⟨cls, dd, data, sl⟩, n, ho, hc, hdd, hd⟩, z1⟩ := I.list hH
  obtain ⟨its2, r2, ⟨⟨cls2, dd2, data2, sl2⟩, n2, ho2, hc2, hdd2, hd2⟩, z2⟩ := I.list hB
  simp only at hc hd hc2 hd2
  subst hc hd hc2 hd2
  have hlen := r.length
  have hlen2 := r2.length
  have e : its.toArray ++ its2.toArray = (its ++ its2).toArray := by simp
  refine PySem.concat_meets ⟨_, ho, rfl⟩ ⟨_, ho2, rfl⟩ PySem.noFill_list_add PySem.seq_list_add PySem.F.slot_list_add PySem.F.entry_list_add (PySem.F.args_list_add_2 _ _) (PyProof.Rows.list_addW l b its.toArray its2.toArray n n2 dd dd2 sl sl2 (by simpa [← hlen, ← hlen2] using hz)) ⟨ho, ho2, ?_⟩
  rw [e]
  exact ⟨.ref _, _, I.lnew (t' := s.toks) (r.append r2) (by rw [List.length_append]; omega), rfl, q _ I.fresh⟩
noncomputable def rAdd (K : PySem.W.Frag) : R2 := fun x y H Q =>
  (∃ i j, x = V.int i ∧ y = V.int j ∧ Q (.int (i + j)) H) ∨
  (∃ i j, x = V.str i ∧ y = V.str j ∧ i.length + j.length ≤ sizeLine ∧ Q (.str (i ++ j)) H) ∨
  (∃ l b xs zs, x = .ref l ∧ y = .ref b ∧ SqL K H l xs ∧ SqL K H b zs ∧ xs.length + zs.length ≤ sizeLine ∧ ∀ p, H p = none → Q (.ref p) (upd H p (.lst (xs ++ zs)))) ∨ rCatA K x y H Q
theorem op_addA : OpR X (binaryOp .Add) (rAdd X.K) := OpR.or op_add (OpR.or op_add_str (OpR.or op_catL op_catA))
theorem ro_add : RO K (rAdd K) oAdd := fun x y d e B H Q i rx ry h => by
  unfold oAdd at h
  split at h
  · cases rx; cases ry
    exact .inl ⟨_, _, rfl, rfl, h _ B H (Grow.refl i) (.v _)⟩
  · split at h
    · rename_i hz
      cases rx; cases ry
      exact .inr (.inl ⟨_, _, rfl, rfl, hz, h _ B H (Grow.refl i) (.v _)⟩)
    · exact h.elim
  · split at h
    · rename_i hz
      cases rx with
      | lst h1 q1 =>
        cases ry with
        | lst h2 q2 =>
          have l1 := q1.length
          have l2 := q2.length
          refine .inr (.inr (.inl ⟨_, _, _, _, rfl, rfl, i.seq h1, i.seq h2, by omega, fun p hp => ?_⟩))
          exact h _ _ _ (Grow.new i hp) (.lst (SqL.of upd_same) ((q1.append q2).mono (Grow.new (K := K) i hp).b))
    · exact h.elim
  · split at h
    · rename_i hz
      cases rx with
      | tup h1 q1 =>
        cases ry with
        | tup h2 q2 =>
          have l1 := q1.length
          have l2 := q2.length
          refine .inr (.inr (.inr ⟨_, _, _, _, rfl, rfl, sqT_mono i h1, sqT_mono i h2, by omega, fun e0 => ?_, fun _ e0 => ?_, fun _ _ p hp => ?_⟩))
          · subst e0
            cases q1
            exact h _ B H (Grow.refl i) (.tup h2 q2)
          · subst e0
            cases q2
            rw [List.append_nil] at h
            exact h _ B H (Grow.refl i) (.tup h1 q1)
          · exact h _ _ _ (Grow.new i hp) (.tup (SqT.of upd_same) ((q1.append q2).mono (Grow.new (K := K) i hp).b))
    · exact h.elim
  · exact h.elim
theorem cm_add : Calm2 oAdd := fun d e x => by unfold oAdd; split <;> (try split) <;> simp
theorem ro_sub : RO K (rI0 fun i j => .int (i - j)) oSub := ro_I0 fun d e z h => by
  unfold oSub at h
  split at h
  · cases h; exact ⟨_, _, rfl, rfl, rfl⟩
  · cases h
theorem cm_sub : Calm2 oSub := fun d e x => by unfold oSub; split <;> simp
theorem ro_mod : RO K (rI (fun _ j => j ≠ 0) fun i j => .int (i.fmod j)) oMod := ro_I fun d e z h => by
  unfold oMod at h
  split at h
  · split at h
    · rename_i hj
      cases h; exact ⟨_, _, rfl, rfl, hj, rfl⟩
    · cases h
  · cases h
theorem cm_mod : Calm2 oMod := fun d e x => by unfold oMod; split <;> (try split) <;> simp
noncomputable def CFd (_ j : Int) : Prop := j ≠ 0 ∧ j.natAbs.log2 < 9000
theorem op_fdA : OpR X (binaryOp .FloorDiv) (rI CFd fun i j => .int (i.fdiv j)) := opI fun i j _ _ _ _ _ hc q => PyProof.Rows.floordiv_int hc.1 q (.inl (PyProof.noPylong_of_log2 hc.2))
theorem ro_fdiv : RO K (rI CFd fun i j => .int (i.fdiv j)) oFdiv := ro_I fun d e z h => by
  unfold oFdiv at h
  split at h
  · split at h
    · rename_i hj
      cases h; exact ⟨_, _, rfl, rfl, hj, rfl⟩
    · cases h
  · cases h
theorem cm_fdiv : Calm2 oFdiv := fun d e x => by unfold oFdiv; split <;> (try split) <;> simp
theorem ro_pow : RO K (rI CPow fun i j => .int (i ^ j.toNat)) oPow := ro_I fun d e z h => by
  unfold oPow at h
  split at h
  · split at h
    · rename_i hj
      cases h; exact ⟨_, _, rfl, rfl, ⟨hj.1, by omega, by omega⟩, rfl⟩
    · cases h
  · cases h
theorem cm_pow : Calm2 oPow := fun d e x => by unfold oPow; split <;> (try split) <;> simp
noncomputable def oMul2 : D → D → Res D
  | .v (.int i), .v (.int j) => if i.natAbs.log2 + j.natAbs.log2 < 1000000 then .ok (.int (i * j)) else .no
  | .tup a, .v (.int k) => if a.length ≠ 0 ∧ 2 ≤ k ∧ k ≤ 1000 ∧ a.length ≤ 1000 then .ok (.tup (List.replicate k.toNat a).flatten) else .no
  | _, _ => .no
noncomputable def rMulA (K : PySem.W.Frag) : R2 := fun x y H Q => rI CMulW (fun i j => .int (i * j)) x y H Q ∨ rRepT K x y H Q
theorem op_mulA : OpR X (binaryOp .Mult) (rMulA X.K) := OpR.or op_mulW op_repT
theorem RpA.flat {B : Hp} {vs : List V} {ds : List D} (r : RpA K B vs ds) : ∀ n : Nat, RpA K B (List.replicate n vs).flatten (List.replicate n ds).flatten
  | 0 => .nil
  | n + 1 => by
    rw [List.replicate_succ, List.replicate_succ, List.flatten_cons, List.flatten_cons]
    exact r.append (RpA.flat r n)
theorem ro_mul : RO K (rMulA K) oMul2 := fun x y d e B H Q i rx ry h => by
  unfold oMul2 at h
  split at h
  · split at h
    · rename_i hz
      cases rx; cases ry
      exact .inl ⟨_, _, rfl, rfl, hz, h _ B H (Grow.refl i) (.v _)⟩
    · exact h.elim
  · split at h
    · rename_i hz
      cases ry
      cases rx with
      | tup h1 q1 =>
        have l1 := q1.length
        refine .inr ⟨_, _, _, rfl, rfl, sqT_mono i h1, ?_, hz.2.1, hz.2.2.1, by omega, fun p hp => ?_⟩
        · intro z
          rw [z] at l1
          exact hz.1 (by rw [← l1]; rfl)
        · exact h _ _ _ (Grow.new i hp) (.tup (SqT.of upd_same) ((q1.flat _).mono (Grow.new (K := K) i hp).b))
    · exact h.elim
  · exact h.elim
theorem cm_mul : Calm2 oMul2 := fun d e x => by unfold oMul2; split <;> (try split) <;> simp
noncomputable def oI (p : Int → Int → Bool) : D → D → Res D
  | .v (.int i), .v (.int j) => .ok (.bl (p i j))
  | _, _ => .no
theorem ro_cI {p : Int → Int → Bool} : RO K (rI0 fun i j => .bl (p i j)) (oI p) := ro_I0 fun d e z h => by
  unfold oI at h
  split at h
  · cases h; exact ⟨_, _, rfl, rfl, rfl⟩
  · cases h
theorem cm_cI {p : Int → Int → Bool} : Calm2 (oI p) := fun d e x => by unfold oI; split <;> simp
noncomputable abbrev oLt := oI fun i j => decide (i < j)
noncomputable abbrev oLe := oI fun i j => decide (i ≤ j)
noncomputable abbrev oGt := oI fun i j => decide (j < i)
section
variable {a b : Expr} {pos : Pos} {ta tb : TE} {fa fb : DS → Res D}
end
noncomputable def cChain (g g' : D → D → Res D) (fa fb fc : DS → Res D) : DS → Res D := fun δ => (fa δ).bind fun x => (fb δ).bind fun y => (g x y).bind fun k => match k with
  | .v (.bl true) => (fc δ).bind fun z => g' y z
  | .v (.bl false) => .ok (.bl false)
  | _ => .no
theorem se_chain {ta tb tc : TE} {fa fb fc : DS → Res D} {r r' : R2} {g g' : D → D → Res D} (ho : RO K r g) (hc : Calm2 g) (ho' : RO K r' g') (hc' : Calm2 g') (ha : SE K W ta fa) (hb : SE K W tb fb) (hcc : SE K W tc fc) : SE K W (tChain r r' ta tb tc) (cChain g g' fa fb fc) := fun B0 H0 δ σ B H Q rel h => by
  unfold cChain at h
  refine ha B0 H0 δ σ B H _ rel ?_
  cases e : fa δ with
  | no => rw [e] at h; exact h
  | er x => rw [e] at h; exact h
  | ok d =>
    rw [e, Res.bind_ok] at h
    intro v B1 H1 g1 r1
    refine hb B0 H0 δ σ B1 H1 _ (rel.mono g1) ?_
    cases e2 : fb δ with
    | no => rw [e2] at h; exact h
    | er x => rw [e2] at h; exact fun c dx B' H' g' rp => h c dx B' H' (g1.trans g') rp
    | ok d2 =>
      rw [e2, Res.bind_ok] at h
      intro u B2 H2 g2 r2
      refine ho v u d d2 B2 H2 _ g2.i (Rp.mono g2.b r1) r2 ?_
      cases e3 : g d d2 with
      | no => rw [e3] at h; exact h
      | er x => exact absurd e3 (hc d d2 x)
      | ok k =>
        rw [e3, Res.bind_ok] at h
        intro kv B3 H3 g3 r3
        split at h
        · cases r3
          refine ⟨true, rfl, ?_⟩
          rw [if_pos rfl]
          refine hcc B0 H0 δ σ B3 H3 _ (((rel.mono g1).mono g2).mono g3) ?_
          cases e4 : fc δ with
          | no => rw [e4] at h; exact h
          | er x => rw [e4] at h; exact fun c dx B' H' g' rp => h c dx B' H' (((g1.trans g2).trans g3).trans g') rp
          | ok d4 =>
            rw [e4, Res.bind_ok] at h
            intro z B4 H4 g4 r4
            exact ho' u z d2 d4 B4 H4 Q g4.i (Rp.mono (g3.b.trans g4.b) r2) r4 (postV_of (postE_mono (((g1.trans g2).trans g3).trans g4) h) (hc' d2 d4))
        · cases r3
          refine ⟨false, rfl, ?_⟩
          rw [if_neg Bool.false_ne_true]
          exact h _ _ _ ((g1.trans g2).trans g3) (.v _)
        · exact h.elim
theorem ce_chain {a b c : Expr} {op op' : CmpOp} {pos : Pos} {ta tb tc : TE} {fa fb fc : DS → Res D} {r r' : R2} {g g' : D → D → Res D} (ho : OpR X (compareOp op) r) (hr : RO X.K r g) (hc : Calm2 g) (ho' : OpR X (compareOp op') r') (hr' : RO X.K r' g') (hc' : Calm2 g')
    (ha : CE X W a ta fa) (hb : CE X W b tb fb) (hcc : CE X W c tc fc) (hm : lastMarks [op, op'] [b, c] = false := by with_unfolding_all rfl) : CE X W (.Compare a [op, op'] [b, c] pos) (tChain r r' ta tb tc) (cChain g g' fa fb fc) := ⟨pe_chain ho ho' ha.pe hb.pe hcc.pe hm, se_chain hr hc hr' hc' ha.se hb.se hcc.se⟩
noncomputable def pyV : V → Option PyData
  | .non => some .none
  | .bl b => some (.bool b)
  | .int i => some (.int i)
  | .str s => some (.str s)
  | _ => none
mutual
noncomputable def D.py : D → Option PyData
  | .v x => pyV x
  | .lst xs => (D.pyA xs).map .list
  | .tup xs => (D.pyA xs).map .tuple
  | .dct _ _ => none
  | .dlk _ _ => none
  | .ins _ _ _ => none
  | .dtt _ _ => none
  | .ptp _ => none
  | .wor _ _ => none
noncomputable def D.pyA : List D → Option (List PyData)
  | [] => some []
  | x :: xs => match x.py, D.pyA xs with
    | some a, some as => some (a :: as)
    | _, _ => none
end
mutual
theorem dp_of {B : Hp} : ∀ {v : V} {d : D} {p : PyData}, Rp K B v d → d.py = some p → Dp K B v p
  | _, _, _, .v x, e => by
    unfold D.py at e
    cases x <;> first | (cases e; constructor) | cases e
  | _, _, _, .lst (ds := ds) h r, e => by
    unfold D.py at e
    cases q : D.pyA ds with
    | none => rw [q] at e; cases e
    | some ps => rw [q] at e; cases e; exact .lst h (dpA_of r q)
  | _, _, _, .tup (ds := ds) h r, e => by
    unfold D.py at e
    cases q : D.pyA ds with
    | none => rw [q] at e; cases e
    | some ps => rw [q] at e; cases e; exact .tup h (dpA_of r q)
  | _, _, _, .dct h r, e => by
    unfold D.py at e
    cases e
  | _, _, _, .dlk h r, e => by
    unfold D.py at e
    cases e
  | _, _, _, .dcT h _ _ _ _ _ r, e => by
    unfold D.py at e
    cases e
  | _, _, _, .ins _ _ _ r, e => by
    unfold D.py at e
    cases e
  | _, _, _, .ptp _ _, e => by
    unfold D.py at e
    cases e
  | _, _, _, .wor _ _ _ _, e => by
    unfold D.py at e
    cases e
theorem dpA_of {B : Hp} : ∀ {vs : List V} {ds : List D} {ps : List PyData}, RpA K B vs ds → D.pyA ds = some ps → DpAll K B vs ps
  | _, _, _, .nil, e => by
    unfold D.pyA at e
    cases e
    exact .nil
  | _, _, _, .cons (d := d) (ds := ds) h r, e => by
    unfold D.pyA at e
    cases q1 : d.py with
    | none => rw [q1] at e; cases e
    | some a =>
      cases q2 : D.pyA ds with
      | none => rw [q1, q2] at e; cases e
      | some as =>
        rw [q1, q2] at e
        cases e
        exact .cons (dp_of h q1) (dpA_of r q2)
end
noncomputable def oEqB (neg : Bool) (d e : D) : Res D := match d.py, e.py with
  | some a, some b => if SeqAt.shaped a = true ∧ SeqAt.shaped b = true then .ok (.bl (if neg then !PyData.eqv a b else PyData.eqv a b)) else .no
  | _, _ => .no
noncomputable abbrev oEq := oEqB false
noncomputable abbrev oNe := oEqB true
mutual
theorem dp_mono {B B' : Hp} (e : Same B B') : ∀ {v : V} {p : PyData}, Dp K B v p → Dp K B' v p
  | _, _, .non => .non
  | _, _, .bl b => .bl b
  | _, _, .int i => .int i
  | _, _, .str x => .str x
  | _, _, .lst h r => .lst (e.seq h) (dpA_mono e r)
  | _, _, .tup h r => .tup (sqT_mono e h) (dpA_mono e r)
theorem dpA_mono {B B' : Hp} (e : Same B B') : ∀ {vs : List V} {ps : List PyData}, DpAll K B vs ps → DpAll K B' vs ps
  | _, _, .nil => .nil
  | _, _, .cons h r => .cons (dp_mono e h) (dpA_mono e r)
end
theorem ro_eq : RO K (rEqD K) oEq := fun x y d e B H Q i rx ry h => by
  unfold oEq oEqB at h
  split at h
  · rename_i a b e1 e2
    split at h
    · rename_i hs
      exact ⟨a, b, dp_mono i (dp_of rx e1), dp_mono i (dp_of ry e2), hs.1, hs.2, h _ B H (Grow.refl i) (.v _)⟩
    · exact h.elim
  · exact h.elim
theorem ro_ne : RO K (rNeD K) oNe := fun x y d e B H Q i rx ry h => by
  unfold oNe oEqB at h
  split at h
  · rename_i a b e1 e2
    split at h
    · rename_i hs
      exact ⟨a, b, dp_mono i (dp_of rx e1), dp_mono i (dp_of ry e2), hs.1, hs.2, h _ B H (Grow.refl i) (.v _)⟩
    · exact h.elim
  · exact h.elim
theorem cm_eq {n : Bool} : Calm2 (oEqB n) := fun d e x => by unfold oEqB; split <;> (try split) <;> simp
section
variable {a b : Expr} {pos : Pos} {ta tb : TE} {fa fb : DS → Res D}
end
noncomputable def isNon : D → Bool
  | .v .non => true
  | _ => false
noncomputable def oIsN (neg : Bool) : D → D → Res D
  | d, .v .non => .ok (.bl (if neg then !isNon d else isNon d))
  | _, _ => .no
theorem non_dec {B : Hp} {x : V} {d : D} (r : Rp K B x d) : decide (x = .non) = isNon d := by
  cases r with
  | v x => cases x <;> simp [isNon]
  | lst _ _ => simp [isNon]
  | tup _ _ => simp [isNon]
  | dct _ _ => simp [isNon]
  | dlk _ _ => simp [isNon]
  | dcT _ _ _ _ _ _ _ => simp [isNon]
  | ins _ _ _ _ => simp [isNon]
  | ptp _ _ => simp [isNon]
  | wor _ _ _ _ => simp [isNon]
theorem ro_isN : RO K (fun x y H Q => y = .non ∧ Q (.bl (decide (x = .non))) H) (oIsN false) := fun x y d e B H Q i rx ry h => by
  unfold oIsN at h
  split at h
  · cases ry
    rw [non_dec rx]
    exact ⟨rfl, h _ B H (Grow.refl i) (.v _)⟩
  · exact h.elim
theorem cm_isN {n : Bool} : Calm2 (oIsN n) := fun d e x => by unfold oIsN; split <;> simp
section
variable {a b : Expr} {pos : Pos} {ta tb : TE} {fa fb : DS → Res D}
end
noncomputable def flatD : D → Option V
  | .v x => if flatV x then some x else none
  | _ => none
noncomputable def flatsD : List D → Option (List V)
  | [] => some []
  | d :: ds => match flatD d, flatsD ds with
    | some x, some xs => some (x :: xs)
    | _, _ => none
noncomputable def D.items : D → Option (List D)
  | .lst xs => some xs
  | .tup xs => some xs
  | _ => none
noncomputable def oIn (neg : Bool) (d e : D) : Res D := match flatD d, e.items with
  | some x, some es => match flatsD es with
    | some xs => .ok (.bl (if neg then !inV x xs else inV x xs))
    | none => .no
  | _, _ => .no
section
variable {a b : Expr} {pos : Pos} {ta tb : TE} {fa fb : DS → Res D}
end
end
end DV
namespace DV
open PySem L2
structure OK2 (X : Cx) (f : Value → Value → Sem Value) (r : R2) (g : D → D → Res D) : Prop where
  o : OpR X f r
  r : RO X.K r g
  c : Calm2 g
section
variable {X : Cx} {W : WX} {K : PySem.W.Frag}
theorem q_o_add : OK2 X (binaryOp .Add) (rAdd X.K) oAdd := ⟨op_addA, ro_add, cm_add⟩
theorem o_add (K : PySem.W.Frag) (hK : X.K = K) : OK2 X (binaryOp .Add) (rAdd K) oAdd := by
  subst hK
  exact (q_o_add )
theorem o_sub : OK2 X (binaryOp .Sub) (rI0 fun i j => .int (i - j)) oSub := ⟨op_sub, ro_sub, cm_sub⟩
theorem q_o_mul : OK2 X (binaryOp .Mult) (rMulA X.K) oMul2 := ⟨op_mulA, ro_mul, cm_mul⟩
theorem o_mul (K : PySem.W.Frag) (hK : X.K = K) : OK2 X (binaryOp .Mult) (rMulA K) oMul2 := by
  subst hK
  exact (q_o_mul )
theorem o_mod : OK2 X (binaryOp .Mod) (rI (fun _ j => j ≠ 0) fun i j => .int (i.fmod j)) oMod := ⟨op_modN, ro_mod, cm_mod⟩
theorem o_fdiv : OK2 X (binaryOp .FloorDiv) (rI CFd fun i j => .int (i.fdiv j)) oFdiv := ⟨op_fdA, ro_fdiv, cm_fdiv⟩
theorem o_pow : OK2 X (binaryOp .Pow) (rI CPow fun i j => .int (i ^ j.toNat)) oPow := ⟨op_pow, ro_pow, cm_pow⟩
theorem o_lt : OK2 X (compareOp .Lt) (rI0 fun i j => .bl (decide (i < j))) oLt := ⟨op_lt, ro_cI, cm_cI⟩
theorem o_le : OK2 X (compareOp .LtE) (rI0 fun i j => .bl (decide (i ≤ j))) oLe := ⟨op_le, ro_cI, cm_cI⟩
theorem o_gt : OK2 X (compareOp .Gt) (rI0 fun i j => .bl (decide (j < i))) oGt := ⟨op_gt, ro_cI, cm_cI⟩
theorem q_o_eq (hu : X.A.units + 64 < cLine) : OK2 X (compareOp .Eq) (rEqD X.K) oEq := ⟨op_eqD hu, ro_eq, cm_eq⟩
theorem o_eq (K : PySem.W.Frag) (hK : X.K = K) (hu : X.A.units + 64 < cLine) : OK2 X (compareOp .Eq) (rEqD K) oEq := by
  subst hK
  exact (q_o_eq hu)
theorem q_o_ne (hu : X.A.units + 64 < cLine) : OK2 X (compareOp .NotEq) (rNeD X.K) oNe := ⟨op_neD hu, ro_ne, cm_eq⟩
theorem o_ne (K : PySem.W.Frag) (hK : X.K = K) (hu : X.A.units + 64 < cLine) : OK2 X (compareOp .NotEq) (rNeD K) oNe := by
  subst hK
  exact (q_o_ne hu)
theorem o_is : OK2 X (compareOp .Is) (fun x y H Q => y = .non ∧ Q (.bl (decide (x = .non))) H) (oIsN false) := ⟨op_isN, ro_isN, cm_isN⟩
theorem ce_b {a b : Expr} {op : Operator} {pos : Pos} {ta tb : TE} {fa fb : DS → Res D} {r : R2} {g : D → D → Res D} (o : OK2 X (binaryOp op) r g) (ha : CE X W a ta fa) (hb : CE X W b tb fb) : CE X W (.BinOp a op b pos) (tOp r ta tb) (cBin g fa fb) := ce_op o.o o.r o.c ha hb
theorem ce_c {a b : Expr} {op : CmpOp} {pos : Pos} {ta tb : TE} {fa fb : DS → Res D} {r : R2} {g : D → D → Res D} (o : OK2 X (compareOp op) r g) (ha : CE X W a ta fa) (hb : CE X W b tb fb) (hm : behindInMarks op b = false := by first | exact nomark _ | rfl) : CE X W (.Compare a [op] [b] pos) (tOp r ta tb) (cBin g fa fb) := ce_cmp o.o o.r o.c ha hb hm
theorem ce_cc {a b c : Expr} {op op' : CmpOp} {pos : Pos} {ta tb tc : TE} {fa fb fc : DS → Res D} {r r' : R2} {g g' : D → D → Res D} (o : OK2 X (compareOp op) r g) (o' : OK2 X (compareOp op') r' g')
    (ha : CE X W a ta fa) (hb : CE X W b tb fb) (hc : CE X W c tc fc) (hm : lastMarks [op, op'] [b, c] = false := by with_unfolding_all rfl) : CE X W (.Compare a [op, op'] [b, c] pos) (tChain r r' ta tb tc) (cChain g g' fa fb fc) := ce_chain o.o o.r o.c o'.o o'.r o'.c ha hb hc hm
noncomputable def asB : D → Res Bool
  | .v (.bl b) => .ok b
  | _ => .no
noncomputable def cTest (f : DS → Res D) : DS → Res Bool := fun δ => (f δ).bind asB
theorem st_test {t : TE} {f : DS → Res D} (h : SE K W t f) : ST K W (tTest t) (cTest f) := fun B0 H0 δ σ B H Q rel hp => by
  unfold cTest at hp
  refine h B0 H0 δ σ B H _ rel ?_
  cases e : f δ with
  | no => rw [e] at hp; exact hp
  | er x => rw [e] at hp; exact hp
  | ok d =>
    rw [e, Res.bind_ok] at hp
    intro v B1 H1 g1 r1
    unfold asB at hp
    split at hp
    · cases r1
      exact ⟨_, rfl, hp _ _ g1⟩
    · exact hp.elim
theorem ct_val {e : Expr} {t : TE} {f : DS → Res D} (h : CE X W e t f) (he : ∀ whole, isTrue e X.env whole = (do let v ← whole; standAt e.pos; holding [v] (truthy v)) := by intro _; rfl) : CT X W e (tB t) (cTest f) := ⟨pt_val h.pe he, st_test h.se⟩
theorem ct_c {a b : Expr} {op : CmpOp} {pos : Pos} {ta tb : TE} {fa fb : DS → Res D} {r : R2} {g : D → D → Res D} (o : OK2 X (compareOp op) r g) (ha : CE X W a ta fa) (hb : CE X W b tb fb) (hm : behindInMarks op b = false := by first | exact nomark _ | rfl) : CT X W (.Compare a [op] [b] pos) (tTest (tOp r ta tb)) (cTest (cBin g fa fb)) :=
  ⟨pt_cmpR o.o ha.pe hb.pe hm, st_test (se_op o.r o.c ha.se hb.se)⟩
theorem ct_cc {a b c : Expr} {op op' : CmpOp} {pos : Pos} {ta tb tc : TE} {fa fb fc : DS → Res D} {r r' : R2} {g g' : D → D → Res D} (o : OK2 X (compareOp op) r g) (o' : OK2 X (compareOp op') r' g')
    (ha : CE X W a ta fa) (hb : CE X W b tb fb) (hc : CE X W c tc fc) (hm : lastMarks [op, op'] [b, c] = false := by with_unfolding_all rfl) : CT X W (.Compare a [op, op'] [b, c] pos) (tTest (tChain r r' ta tb tc)) (cTest (cChain g g' fa fb fc)) :=
  ⟨pt_chain o.o o'.o ha.pe hb.pe hc.pe hm, st_test (se_chain o.r o.c o'.r o'.c ha.se hb.se hc.se)⟩
noncomputable def cNotT (f : DS → Res Bool) : DS → Res Bool := fun δ => (f δ).bind fun b => .ok (!b)
noncomputable def cOrT (f g : DS → Res Bool) : DS → Res Bool := fun δ => (f δ).bind fun b => if b = true then .ok true else g δ
theorem postT_mono {B H B1 H1 : Hp} {σ : L2.St} {Q : Bool → Hp → Prop} {r : Res Bool} (g : Grow K B H B1 H1) (h : PostT K B H σ W Q r) : PostT K B1 H1 σ W Q r := by
  cases r with
  | ok d => exact fun B' H' g' => h B' H' (g.trans g')
  | er x => exact fun c dx B' H' g' rp => h c dx B' H' (g.trans g') rp
  | no => exact h
theorem st_not {t : TT} {f : DS → Res Bool} (h : ST K W t f) : ST K W (tNot t) (cNotT f) := fun B0 H0 δ σ B H Q rel hp => by
  unfold cNotT at hp
  refine h B0 H0 δ σ B H _ rel ?_
  cases e : f δ with
  | no => rw [e] at hp; exact hp
  | er x => rw [e] at hp; exact hp
  | ok d => rw [e, Res.bind_ok] at hp; exact hp
theorem st_or {t u : TT} {f g : DS → Res Bool} (h : ST K W t f) (h2 : ST K W u g) : ST K W (tOr t u) (cOrT f g) := fun B0 H0 δ σ B H Q rel hp => by
  unfold cOrT at hp
  refine h B0 H0 δ σ B H _ rel ?_
  cases e : f δ with
  | no => rw [e] at hp; exact hp
  | er x => rw [e] at hp; exact hp
  | ok d =>
    rw [e, Res.bind_ok] at hp
    intro B1 H1 g1
    cases d with
    | false => rw [if_neg Bool.false_ne_true] at hp ⊢; exact h2 B0 H0 δ σ B1 H1 _ (rel.mono g1) (postT_mono g1 hp)
    | true => rw [if_pos rfl] at hp ⊢; exact hp _ _ g1
theorem ct_not {a : Expr} {pos : Pos} {t : TT} {f : DS → Res Bool} (h : CT X W a t f) : CT X W (.UnaryOp .Not a pos) (tNot t) (cNotT f) := ⟨pt_not h.pt, st_not h.st⟩
theorem cw_or1 {a : Expr} {pos : Pos} {t : TT} {f : DS → Res Bool} (h : CT X W a t f) : CW X W (.BoolOp .Or [a] pos) t f := ⟨pw_or1 h.pt, h.st⟩
theorem cw_or {a b : Expr} {rest : List Expr} {pos : Pos} {t u : TT} {f g : DS → Res Bool} (h : CT X W a t f) (h2 : CW X W (.BoolOp .Or (b :: rest) pos) u g) : CW X W (.BoolOp .Or (a :: b :: rest) pos) (tOr t u) (cOrT f g) := ⟨pw_or h.pt h2.pw, st_or h.st h2.st⟩
noncomputable def cAndV (f g : DS → Res D) : DS → Res D := fun δ => (f δ).bind fun x => match x with
  | .v (.bl true) => g δ
  | .v (.bl false) => .ok (.bl false)
  | _ => .no
noncomputable def cOrV (f g : DS → Res D) : DS → Res D := fun δ => (f δ).bind fun x => match x with
  | .v (.bl true) => .ok (.bl true)
  | .v (.bl false) => g δ
  | _ => .no
theorem se_and {ta tb : TE} {f g : DS → Res D} (ha : SE K W ta f) (hb : SE K W tb g) : SE K W (tAndV ta tb) (cAndV f g) := fun B0 H0 δ σ B H Q rel hp => by
  unfold cAndV at hp
  refine ha B0 H0 δ σ B H _ rel ?_
  cases e : f δ with
  | no => rw [e] at hp; exact hp
  | er x => rw [e] at hp; exact hp
  | ok d =>
    rw [e, Res.bind_ok] at hp
    intro v B1 H1 g1 r1
    split at hp
    · cases r1
      refine ⟨true, rfl, ?_⟩
      rw [if_pos rfl]
      exact hb B0 H0 δ σ B1 H1 _ (rel.mono g1) (postE_mono g1 hp)
    · cases r1
      refine ⟨false, rfl, ?_⟩
      rw [if_neg Bool.false_ne_true]
      exact hp _ _ _ g1 (.v _)
    · exact hp.elim
theorem se_or {ta tb : TE} {f g : DS → Res D} (ha : SE K W ta f) (hb : SE K W tb g) : SE K W (tOrV ta tb) (cOrV f g) := fun B0 H0 δ σ B H Q rel hp => by
  unfold cOrV at hp
  refine ha B0 H0 δ σ B H _ rel ?_
  cases e : f δ with
  | no => rw [e] at hp; exact hp
  | er x => rw [e] at hp; exact hp
  | ok d =>
    rw [e, Res.bind_ok] at hp
    intro v B1 H1 g1 r1
    split at hp
    · cases r1
      refine ⟨true, rfl, ?_⟩
      rw [if_pos rfl]
      exact hp _ _ _ g1 (.v _)
    · cases r1
      refine ⟨false, rfl, ?_⟩
      rw [if_neg Bool.false_ne_true]
      exact hb B0 H0 δ σ B1 H1 _ (rel.mono g1) (postE_mono g1 hp)
    · exact hp.elim
theorem ce_one {op} {a : Expr} {pos : Pos} {t : TE} {f : DS → Res D} (h : CE X W a t f) : CE X W (.BoolOp op [a] pos) t f := ⟨pe_one h.pe, h.se⟩
theorem ce_and {a b : Expr} {rest : List Expr} {pos : Pos} {ta tb : TE} {f g : DS → Res D} (h : CE X W a ta f) (h2 : CE X W (.BoolOp .And (b :: rest) pos) tb g) : CE X W (.BoolOp .And (a :: b :: rest) pos) (tAndV ta tb) (cAndV f g) := ⟨pe_and h.pe h2.pe, se_and h.se h2.se⟩
theorem ce_or {a b : Expr} {rest : List Expr} {pos : Pos} {ta tb : TE} {f g : DS → Res D} (h : CE X W a ta f) (h2 : CE X W (.BoolOp .Or (b :: rest) pos) tb g) : CE X W (.BoolOp .Or (a :: b :: rest) pos) (tOrV ta tb) (cOrV f g) := ⟨pe_or h.pe h2.pe, se_or h.se h2.se⟩
noncomputable def cIfE (t : DS → Res Bool) (f g : DS → Res D) : DS → Res D := fun δ => (t δ).bind fun b => if b = true then f δ else g δ
theorem ce_if {c a b : Expr} {pos : Pos} {tt : TT} {ta tb : TE} {t : DS → Res Bool} {f g : DS → Res D} (hc : CT X W c tt t) (ha : CE X W a ta f) (hb : CE X W b tb g) : CE X W (.IfExp c a b pos) (tIf tt ta tb) (cIfE t f g) :=
  ⟨pe_ifExp hc.pt ha.pe hb.pe, fun B0 H0 δ σ B H Q rel hp => by
    unfold cIfE at hp
    refine hc.st B0 H0 δ σ B H _ rel ?_
    cases e : t δ with
    | no => rw [e] at hp; exact hp
    | er x => rw [e] at hp; exact hp
    | ok d =>
      rw [e, Res.bind_ok] at hp
      intro B1 H1 g1
      cases d with
      | false => rw [if_neg Bool.false_ne_true] at hp ⊢; exact hb.se B0 H0 δ σ B1 H1 _ (rel.mono g1) (postE_mono g1 hp)
      | true => rw [if_pos rfl] at hp ⊢; exact ha.se B0 H0 δ σ B1 H1 _ (rel.mono g1) (postE_mono g1 hp)⟩
structure CL (X : Cx) (W : WX) (es : List Expr) (t : TA) (f : DS → Res (List D)) : Prop extends CA X W es t f where
  ln : ∀ δ ds, f δ = .ok ds → ds.length = es.length
noncomputable def cNil : DS → Res (List D) := fun _ => .ok []
noncomputable def cCons (f : DS → Res D) (g : DS → Res (List D)) : DS → Res (List D) := fun δ => (f δ).bind fun x => (g δ).bind fun xs => .ok (x :: xs)
theorem ca_nil : CL X W [] tNil cNil := ⟨⟨pa_nil, fun B0 H0 δ σ B H Q rel hp => hp [] B H (Grow.refl rel.g.i) .nil⟩, fun δ ds h => by cases h; rfl⟩
theorem sa_cons {te : TE} {t : TA} {f : DS → Res D} {g : DS → Res (List D)} (ha : SE K W te f) (hb : SA K W t g) : SA K W (tCons te t) (cCons f g) := fun B0 H0 δ σ B H Q rel hp => by
  unfold cCons at hp
  refine ha B0 H0 δ σ B H _ rel ?_
  cases e : f δ with
  | no => rw [e] at hp; exact hp
  | er x => rw [e] at hp; exact hp
  | ok d =>
    rw [e, Res.bind_ok] at hp
    intro v B1 H1 g1 r1
    refine hb B0 H0 δ σ B1 H1 _ (rel.mono g1) ?_
    cases e2 : g δ with
    | no => rw [e2] at hp; exact hp
    | er x => rw [e2] at hp; exact fun c dx B' H' g' rp => hp c dx B' H' (g1.trans g') rp
    | ok ds =>
      rw [e2, Res.bind_ok] at hp
      exact fun vs B2 H2 g2 r2 => hp _ B2 H2 (g1.trans g2) (.cons (Rp.mono g2.b r1) r2)
theorem ca_cons {e : Expr} {es : List Expr} {te : TE} {t : TA} {f : DS → Res D} {g : DS → Res (List D)} (ha : CE X W e te f) (hb : CL X W es t g) (hs : starEach (e :: es) X.env = (false, eval e X.env) :: starEach es X.env := by rfl) : CL X W (e :: es) (tCons te t) (cCons f g) :=
  ⟨⟨pa_cons ha.pe hb.pa hs, sa_cons ha.se hb.sa⟩, fun δ ds h => by
    unfold cCons at h
    cases e1 : f δ with
    | no => rw [e1] at h; cases h
    | er x => rw [e1] at h; cases h
    | ok d =>
      rw [e1, Res.bind_ok] at h
      cases e2 : g δ with
      | no => rw [e2] at h; cases h
      | er x => rw [e2] at h; cases h
      | ok ds' =>
        rw [e2, Res.bind_ok] at h
        cases h
        simp [hb.ln δ ds' e2]⟩
noncomputable def cTup (f : DS → Res (List D)) : DS → Res D := fun δ => (f δ).bind fun ds => .ok (.tup ds)
theorem ce_tup {es : List Expr} {x1} {pos : Pos} {t : TA} {f : DS → Res (List D)} (h : CL X W es t f) (hl : es.length ≤ sizeLine := by decide) : CE X W (.Tuple es x1 pos) (tTup t) (cTup f) :=
  ⟨pe_tup h.pa, fun B0 H0 δ σ B H Q rel hp => by
    unfold cTup at hp
    refine h.sa B0 H0 δ σ B H _ rel ?_
    cases e : f δ with
    | no => rw [e] at hp; exact hp
    | er x => rw [e] at hp; exact hp
    | ok ds =>
      rw [e, Res.bind_ok] at hp
      intro vs B1 H1 g1 r1
      refine ⟨by rw [r1.length, h.ln δ ds e]; exact hl, fun p hp' => ?_⟩
      exact hp _ _ _ (g1.trans (Grow.new g1.i hp')) (.tup (SqT.of upd_same) (r1.mono (Grow.new (K := X.K) g1.i hp').b))⟩
theorem cf_lst {es : List Expr} {pos : Pos} {t : TA} {f : DS → Res (List D)} (h : CL X W es t f) (hl : es.length ≤ sizeLine := by decide) : CF X W (.List es pos) (tLst t) f :=
  ⟨pe_lst h.pa, fun B0 H0 δ σ B H Q rel hp => by
    refine h.sa B0 H0 δ σ B H _ rel ?_
    cases e : f δ with
    | no => rw [e] at hp; exact hp
    | er x => rw [e] at hp; exact hp
    | ok ds =>
      rw [e] at hp
      intro vs B1 H1 g1 r1
      refine ⟨by rw [r1.length, h.ln δ ds e]; exact hl, fun p hp' => ?_⟩
      exact hp p vs B1 _ (g1.trans (Grow.raw g1.i hp')) (g1.free hp') (g1.i.free hp') upd_same r1⟩
noncomputable def cL (f : DS → Res (List D)) : DS → Res D := fun δ => (f δ).bind fun ds => .ok (.lst ds)
theorem se_of_sf {t : TE} {f : DS → Res (List D)} (h : SF K W t f) : SE K W t (cL f) := fun B0 H0 δ σ B H Q rel hp => by
  unfold cL at hp
  refine h B0 H0 δ σ B H _ rel ?_
  cases e : f δ with
  | no => rw [e] at hp; exact hp
  | er x => rw [e] at hp; exact hp
  | ok ds =>
    rw [e, Res.bind_ok] at hp
    intro p vs B1 H1 g1 h0 hb hh r1
    have sb : Same B1 (upd B1 p (.lst vs)) := same_new hb
    refine hp _ (upd B1 p (.lst vs)) H1 ⟨g1.b.trans sb, g1.h, fun a o q => ?_, fun a ha => ?_, g1.e, g1.t, g1.nu hb (kind_lst _).pln⟩ (.lst (SqL.of upd_same) (r1.mono sb))
    · by_cases hap : a = p
      · subst hap; rw [upd_same] at q; cases q; exact hh
      · rw [upd_ne hap] at q; exact g1.i a o q
    · have : a ≠ p := fun z => ha (by rw [z]; exact h0)
      rw [upd_ne this]
      exact g1.f a ha
theorem ce_l {e : Expr} {t : TE} {f : DS → Res (List D)} (h : CF X W e t f) : CE X W e t (cL f) := ⟨h.pe, se_of_sf h.sf⟩
noncomputable def oIx : D → D → Res D
  | .lst xs, .v (.int i) => match atI xs i with
    | some d => .ok d
    | none => .no
  | .tup xs, .v (.int i) => match atI xs i with
    | some d => .ok d
    | none => .no
  | .v (.str z), .v (.int i) => match atI z.cps.toList i with
    | some c => if z.length ≤ sizeLine then .ok (.str ⟨#[c]⟩) else .no
    | none => .no
  | _, _ => .no
theorem RpA.at_ {B : Hp} {vs : List V} {ds : List D} {i : Int} {d : D} (r : RpA K B vs ds) (h : atI ds i = some d) : ∃ v, atI vs i = some v ∧ Rp K B v d := by
  have hl := r.length
  unfold atI at h ⊢
  rw [hl]
  cases e : ixN ds.length i with
  | none => rw [e] at h; cases h
  | some j =>
    rw [e] at h
    exact r.get h
theorem ro_ix : RO K (rIx K) oIx := fun x y d e B H Q i rx ry h => by
  unfold oIx at h
  split at h
  · split at h
    · rename_i d' e'
      cases ry
      cases rx with
      | lst h1 q =>
        obtain ⟨v, e2, r2⟩ := q.at_ e'
        exact .inl ⟨_, _, _, v, rfl, rfl, i.seq h1, e2, h v B H (Grow.refl i) r2⟩
    · exact h.elim
  · split at h
    · rename_i d' e'
      cases ry
      cases rx with
      | tup h1 q =>
        obtain ⟨v, e2, r2⟩ := q.at_ e'
        exact .inr (.inl ⟨_, _, _, v, rfl, rfl, sqT_mono i h1, e2, h v B H (Grow.refl i) r2⟩)
    · exact h.elim
  · split at h
    · rename_i c e'
      split at h
      · rename_i hz
        cases ry
        cases rx
        exact .inr (.inr ⟨_, _, c, rfl, rfl, hz, e', h _ B H (Grow.refl i) (.v _)⟩)
      · exact h.elim
    · exact h.elim
  · exact h.elim
theorem cm_ix : Calm2 oIx := fun d e x => by unfold oIx; split <;> (try split) <;> (try split) <;> simp
theorem q_ce_ix {a b : Expr} {pos : Pos} {ta tb : TE} {fa fb : DS → Res D} (ha : CE X W a ta fa) (hb : CE X W b tb fb) (hs : PlainIx b := by exact fun _ _ => rfl) : CE X W (.Subscript a b pos) (tOp (rIx X.K) ta tb) (cBin oIx fa fb) := ⟨pe_ix ix_seq ha.pe hb.pe hs, se_op ro_ix cm_ix ha.se hb.se⟩
theorem ce_ix (K : PySem.W.Frag) (hK : X.K = K) {a b : Expr} {pos : Pos} {ta tb : TE} {fa fb : DS → Res D} (ha : CE X W a ta fa) (hb : CE X W b tb fb) (hs : PlainIx b := by exact fun _ _ => rfl) : CE X W (.Subscript a b pos) (tOp (rIx K) ta tb) (cBin oIx fa fb) := by
  subst hK
  exact (q_ce_ix ha hb hs)
end
end DV
namespace DV
open PySem L2
section
variable {X : Cx} {W : WX} {K : PySem.W.Frag}
noncomputable def cutD (xs : List D) (lo hi : Option Int) : List D := (xs.drop (HT.sIx xs.length 0 lo)).take (HT.sIx xs.length xs.length hi - HT.sIx xs.length 0 lo)
theorem RpA.cut {B : Hp} {vs : List V} {ds : List D} (r : RpA K B vs ds) (lo hi : Option Int) : RpA K B (cutV vs lo hi) (cutD ds lo hi) := by
  unfold cutV cutD
  rw [r.length]
  exact (r.drop _).take _
noncomputable def asI : D → Res (Option Int)
  | .v (.int i) => .ok (some i)
  | _ => .no
noncomputable def cNone : DS → Res (Option Int) := fun _ => .ok none
noncomputable def cSome (f : DS → Res D) : DS → Res (Option Int) := fun δ => (f δ).bind asI
noncomputable def PostO (K : PySem.W.Frag) (B H : Hp) (σ : L2.St) (W : WX) (Q : Option Int → Hp → Prop) : Res (Option Int) → Prop
  | .ok o => ∀ B' H', Grow K B H B' H' → Q o H'
  | .er x => ∀ c dx B' H', Grow K B H B' H' → RpX K B' c dx x → W c dx σ H'
  | .no => False
structure CO (X : Cx) (W : WX) (e : Option Expr) (t : TO) (f : DS → Res (Option Int)) : Prop where
  po : PO X e t
  so : ∀ B0 H0 δ σ B H (Q : Option Int → Hp → Prop), Rel X.K B0 H0 B H σ δ → PostO X.K B H σ W Q (f δ) → t σ H Q
theorem co_none : CO X W none tNoPart cNone := ⟨po_none, fun B0 H0 δ σ B H Q rel hp => hp B H (Grow.refl rel.g.i)⟩
theorem co_some {e : Expr} {t : TE} {f : DS → Res D} (h : CE X W e t f) : CO X W (some e) (tPart t) (cSome f) := ⟨po_some h.pe, fun B0 H0 δ σ B H Q rel hp => by
  unfold cSome at hp
  refine h.se B0 H0 δ σ B H _ rel ?_
  cases e : f δ with
  | no => rw [e] at hp; exact hp
  | er x => rw [e] at hp; exact hp
  | ok d =>
    rw [e, Res.bind_ok] at hp
    intro v B1 H1 g1 r1
    unfold asI at hp
    split at hp
    · cases r1; exact ⟨_, rfl, hp B1 H1 g1⟩
    · exact hp.elim⟩
noncomputable def oSl (lo hi : Option Int) : D → Res D
  | .lst xs => .ok (.lst (cutD xs lo hi))
  | .tup xs => .ok (.tup (cutD xs lo hi))
  | .v (.str z) => if z.length ≤ sizeLine then .ok (.str (cutS z lo hi)) else .no
  | _ => .no
noncomputable def rSlD (K : PySem.W.Frag) : V → Option Int → Option Int → Hp → VK → Prop := fun x lo hi H Q => rSlL K x lo hi H Q ∨ rSlA K x lo hi H Q ∨ rSlS x lo hi H Q
theorem sl_D : SlR X (rSlD X.K) := sl_list.or (sl_tupA.or sl_str)
theorem cut_whole {xs : List V} {lo hi : Option Int} (h : HT.sIx xs.length 0 lo = 0 ∧ HT.sIx xs.length xs.length hi = xs.length) : cutV xs lo hi = xs := by
  unfold cutV
  rw [h.1, h.2]
  simp
theorem rs_sl {x : V} {d : D} {lo hi : Option Int} {B H : Hp} {Q : VK} (i : Same B H) (rx : Rp K B x d) (h : PostV K B H Q (oSl lo hi d)) : rSlD K x lo hi H Q := by
  unfold oSl at h
  split at h
  · cases rx with
    | lst h1 q => exact .inl ⟨_, _, rfl, i.seq h1, fun p hp => h _ _ _ (Grow.new i hp) (.lst (SqL.of upd_same) ((q.cut lo hi).mono (Grow.new (K := K) i hp).b))⟩
  · cases rx with
    | tup h1 q =>
      refine .inr (.inl ⟨_, _, rfl, sqT_mono i h1, fun hw => ?_, fun hw p hp => ?_⟩)
      · refine h _ B H (Grow.refl i) ?_
        have q2 := q.cut lo hi
        rw [cut_whole hw] at q2
        exact .tup h1 q2
      · exact h _ _ _ (Grow.new i hp) (.tup (SqT.of upd_same) ((q.cut lo hi).mono (Grow.new (K := K) i hp).b))
  · split at h
    · rename_i hz
      cases rx
      exact .inr (.inr ⟨_, rfl, hz, h _ B H (Grow.refl i) (.v _)⟩)
    · exact h.elim
  · exact h.elim
theorem cm_sl {lo hi : Option Int} {d : D} (x : Exn) : oSl lo hi d ≠ .er x := by unfold oSl; split <;> (try split) <;> simp
noncomputable def cSl (f : DS → Res D) (lo hi : DS → Res (Option Int)) : DS → Res D := fun δ => (f δ).bind fun x => (lo δ).bind fun l => (hi δ).bind fun h => oSl l h x
theorem q_ce_sl {e : Expr} {lo hi : Option Expr} {p2 pos : Pos} {te : TE} {tl th : TO} {f : DS → Res D} {fl fh : DS → Res (Option Int)} (he : CE X W e te f) (hl : CO X W lo tl fl) (hh : CO X W hi th fh) : CE X W (.Subscript e (.Slice lo hi none p2) pos) (tSl (rSlD X.K) te tl th) (cSl f fl fh) :=
  ⟨pe_slice sl_D he.pe hl.po hh.po, fun B0 H0 δ σ B H Q rel hp => by
    unfold cSl at hp
    refine he.se B0 H0 δ σ B H _ rel ?_
    cases e : f δ with
    | no => rw [e] at hp; exact hp
    | er x => rw [e] at hp; exact hp
    | ok d =>
      rw [e, Res.bind_ok] at hp
      intro v B1 H1 g1 r1
      refine hl.so B0 H0 δ σ B1 H1 _ (rel.mono g1) ?_
      cases e2 : fl δ with
      | no => rw [e2] at hp; exact hp
      | er x => rw [e2] at hp; exact fun c dx B' H' g' rp => hp c dx B' H' (g1.trans g') rp
      | ok l =>
        rw [e2, Res.bind_ok] at hp
        intro B2 H2 g2
        refine hh.so B0 H0 δ σ B2 H2 _ ((rel.mono g1).mono g2) ?_
        cases e3 : fh δ with
        | no => rw [e3] at hp; exact hp
        | er x => rw [e3] at hp; exact fun c dx B' H' g' rp => hp c dx B' H' ((g1.trans g2).trans g') rp
        | ok h =>
          rw [e3, Res.bind_ok] at hp
          intro B3 H3 g3
          exact rs_sl g3.i (r1.mono (g2.b.trans g3.b)) (postV_of (postE_mono ((g1.trans g2).trans g3) hp) fun x => cm_sl x)⟩
theorem ce_sl (K : PySem.W.Frag) (hK : X.K = K) {e : Expr} {lo hi : Option Expr} {p2 pos : Pos} {te : TE} {tl th : TO} {f : DS → Res D} {fl fh : DS → Res (Option Int)} (he : CE X W e te f) (hl : CO X W lo tl fl) (hh : CO X W hi th fh) : CE X W (.Subscript e (.Slice lo hi none p2) pos) (tSl (rSlD K) te tl th) (cSl f fl fh) := by
  subst hK
  exact (q_ce_sl he hl hh)
noncomputable def oRevL : D → Res D
  | .lst xs => .ok (.lst xs.reverse)
  | _ => .no
noncomputable def RC (K : PySem.W.Frag) (r : List V → Hp → VK → Prop) (g : List D → Res D) : Prop := ∀ vs ds B H Q, Same B H → RpA K B vs ds → PostV K B H Q (g ds) → r vs H Q
structure OKC (X : Cx) (f : Value) (r : List V → Hp → VK → Prop) (g : List D → Res D) : Prop where
  o : CallR X f r
  r : RC X.K r g
  c : ∀ ds x, g ds ≠ .er x
noncomputable def cCall (g : List D → Res D) (f : DS → Res (List D)) : DS → Res D := fun δ => (f δ).bind g
theorem se_call {t : TA} {f : DS → Res (List D)} {r : List V → Hp → VK → Prop} {g : List D → Res D} (hr : RC K r g) (hc : ∀ ds x, g ds ≠ .er x) (h : SA K W t f) : SE K W (tCB r t) (cCall g f) := fun B0 H0 δ σ B H Q rel hp => by
  unfold cCall at hp
  refine h B0 H0 δ σ B H _ rel ?_
  cases e : f δ with
  | no => rw [e] at hp; exact hp
  | er x => rw [e] at hp; exact hp
  | ok ds =>
    rw [e, Res.bind_ok] at hp
    intro vs B1 H1 g1 r1
    exact hr vs ds B1 H1 Q g1.i r1 (postV_of (postE_mono g1 hp) (hc ds))
theorem ce_callB {id : String} {x : Str} {e : Expr} {es : List Expr} {p pos : Pos} {r : List V → Hp → VK → Prop} {g : List D → Res D} {t : TA} {f : DS → Res (List D)} (o : OKC X (.builtin id) r g) (hm : X.mg x = none) (hv : bootBuiltins x = some (.builtin id)) (ha : CL X W (e :: es) t f) (hg : Gl X x := by rfl) (hn : x ≠ "__name__" := by decide) (hdb : (x == ("__debug__" : Str)) = false := by decide)
    (he : starEach (e :: es) X.env = (false, eval e X.env) :: starEach es X.env := by rfl) (hpl : (backTo pos (starEach es X.env)).any (·.1) = false := by rfl) : CE X W (.Call (.Name x p) (e :: es) [] pos) (tCB r t) (cCall g f) := ⟨pe_callB o.o hg hm hv ha.pa hn hdb he hpl, se_call o.r o.c ha.sa⟩
theorem ce_callTy {T : String} {x : Str} {e : Expr} {es : List Expr} {p pos : Pos} {r : List V → Hp → VK → Prop} {g : List D → Res D} {t : TA} {f : DS → Res (List D)} (o : OKC X (.type T) r g) (hm : X.mg x = none) (hv : bootBuiltins x = some (.type T)) (ha : CL X W (e :: es) t f) (hg : Gl X x := by rfl) (hn : x ≠ "__name__" := by decide) (hdb : (x == ("__debug__" : Str)) = false := by decide)
    (he : starEach (e :: es) X.env = (false, eval e X.env) :: starEach es X.env := by rfl) (hpl : (backTo pos (starEach es X.env)).any (·.1) = false := by rfl) : CE X W (.Call (.Name x p) (e :: es) [] pos) (tCB r t) (cCall g f) := ⟨pe_callTy o.o hg hm hv ha.pa hn hdb he hpl, se_call o.r o.c ha.sa⟩
noncomputable def gAbs : List D → Res D
  | [.v (.int i)] => .ok (.int (if i < 0 then -i else i))
  | _ => .no
theorem k_abs : OKC X (.builtin "abs") (fun xs H Q => ∃ i, xs = [.int i] ∧ Q (.int (if i < 0 then -i else i)) H) gAbs := ⟨call_abs, fun vs ds B H Q i r h => by
  unfold gAbs at h
  split at h
  · cases r with
    | cons r1 r2 => cases r2; cases r1; exact ⟨_, rfl, h _ B H (Grow.refl i) (.v _)⟩
  · exact h.elim, fun ds x => by unfold gAbs; split <;> simp⟩
noncomputable def gLen : List D → Res D
  | [.lst xs] => .ok (.int (xs.length : Nat))
  | [.tup xs] => .ok (.int (xs.length : Nat))
  | [.v (.str z)] => if z.length ≤ sizeLine then .ok (.int (z.length : Nat)) else .no
  | _ => .no
theorem q_k_len : OKC X (.builtin "len") (fun xs H Q => ∃ x n, xs = [x] ∧ LenV X.K x H n ∧ Q (.int n) H) gLen := ⟨call_len, fun vs ds B H Q i r h => by
  unfold gLen at h
  split at h
  · cases r with
    | cons r1 r2 =>
      cases r2
      cases r1 with
      | lst h1 q => exact ⟨_, _, rfl, .inl ⟨_, i.seq h1, rfl⟩, by rw [q.length]; exact h _ B H (Grow.refl i) (.v _)⟩
  · cases r with
    | cons r1 r2 =>
      cases r2
      cases r1 with
      | tup h1 q => exact ⟨_, _, rfl, .inr ⟨_, sqT_mono i h1, rfl⟩, by rw [q.length]; exact h _ B H (Grow.refl i) (.v _)⟩
  · split at h
    · rename_i hz
      cases r with
      | cons r1 r2 => cases r2; cases r1; exact ⟨_, _, rfl, ⟨hz, rfl⟩, h _ B H (Grow.refl i) (.v _)⟩
    · exact h.elim
  · exact h.elim, fun ds x => by unfold gLen; split <;> (try split) <;> simp⟩
theorem k_len (K : PySem.W.Frag) (hK : X.K = K) : OKC X (.builtin "len") (fun xs H Q => ∃ x n, xs = [x] ∧ LenV K x H n ∧ Q (.int n) H) gLen := by
  subst hK
  exact (q_k_len )
noncomputable def intsD : List D → Option (List Int)
  | [] => some []
  | .v (.int i) :: ds => (intsD ds).map (i :: ·)
  | _ => none
noncomputable def blsD : List D → Option (List Bool)
  | [] => some []
  | .v (.bl i) :: ds => (blsD ds).map (i :: ·)
  | _ => none
theorem intsD_of : ∀ {ds : List D} {ns : List Int}, intsD ds = some ns → ds = ns.map D.int
  | [], ns, h => by cases h; rfl
  | d :: ds, ns, h => by
    unfold intsD at h
    split at h
    · rename_i e; cases e
    · rename_i i ds' e
      cases e
      cases q : intsD ds with
      | none => rw [q] at h; cases h
      | some ms => rw [q] at h; cases h; rw [intsD_of q]; rfl
    · cases h
theorem blsD_of : ∀ {ds : List D} {ns : List Bool}, blsD ds = some ns → ds = ns.map D.bl
  | [], ns, h => by cases h; rfl
  | d :: ds, ns, h => by
    unfold blsD at h
    split at h
    · rename_i e; cases e
    · rename_i i ds' e
      cases e
      cases q : blsD ds with
      | none => rw [q] at h; cases h
      | some ms => rw [q] at h; cases h; rw [blsD_of q]; rfl
    · cases h
@[simp] theorem intsD_map (ns : List Int) : intsD (ns.map D.int) = some ns := by
  induction ns with
  | nil => rfl
  | cons n ns ih => simp [intsD, ih]
@[simp] theorem blsD_map (ns : List Bool) : blsD (ns.map D.bl) = some ns := by
  induction ns with
  | nil => rfl
  | cons n ns ih => simp [blsD, ih]
noncomputable def gInts (g : List Int → Res D) : List D → Res D
  | [.lst ds] => match intsD ds with
    | some ns => g ns
    | none => .no
  | _ => .no
noncomputable def gBls (g : List Bool → Res D) : List D → Res D
  | [.lst ds] => match blsD ds with
    | some ns => g ns
    | none => .no
  | _ => .no
theorem rc_bls {r : List V → Hp → VK → Prop} {g : List Bool → Res D} (h : ∀ a ns B H Q, Same B H → SqL K H a (ns.map V.bl) → PostV K B H Q (g ns) → r [.ref a] H Q) : RC K r (gBls g) := fun vs ds B H Q i rr hp => by
  unfold gBls at hp
  split at hp
  · split at hp
    · rename_i ds ns e
      cases rr with
      | cons r1 r2 =>
        cases r2
        cases r1 with
        | lst h1 q =>
          rw [blsD_of e] at q
          have e2 := q.bls_of
          subst e2
          exact h _ _ B H Q i (i.seq h1) hp
    · exact hp.elim
  · exact hp.elim
theorem gBls_calm {g : List Bool → Res D} (h : ∀ ns x, g ns ≠ .er x) (ds : List D) (x : Exn) : gBls g ds ≠ .er x := by
  unfold gBls; split <;> (try split) <;> first | exact h _ _ | simp
noncomputable def gAll : List D → Res D := gBls fun bs => .ok (.bl (bs.all id))
noncomputable def gAny : List D → Res D := gBls fun bs => .ok (.bl (bs.any id))
theorem q_k_all (hc : X.calm = true := by rfl) : OKC X (.builtin "all") (rAll X.K) gAll := ⟨cr_all hc, rc_bls fun a ns B H Q i hs hp => ⟨a, ns, rfl, hs, hp _ B H (Grow.refl i) (.v _)⟩, gBls_calm fun _ _ => by simp⟩
theorem k_all (K : PySem.W.Frag) (hK : X.K = K) (hc : X.calm = true := by rfl) : OKC X (.builtin "all") (rAll K) gAll := by
  subst hK
  exact (q_k_all hc)
theorem q_k_any (hc : X.calm = true := by rfl) : OKC X (.builtin "any") (rAny X.K) gAny := ⟨cr_any hc, rc_bls fun a ns B H Q i hs hp => ⟨a, ns, rfl, hs, hp _ B H (Grow.refl i) (.v _)⟩, gBls_calm fun _ _ => by simp⟩
theorem k_any (K : PySem.W.Frag) (hK : X.K = K) (hc : X.calm = true := by rfl) : OKC X (.builtin "any") (rAny K) gAny := by
  subst hK
  exact (q_k_any hc)
noncomputable def sortI (ns : List Int) : List Int := ns.mergeSort (fun a b => decide (a ≤ b))
theorem sortI_perm (ns : List Int) : (sortI ns).Perm ns := List.mergeSort_perm ns _
theorem sortI_sorted (ns : List Int) : (sortI ns).Pairwise (· ≤ ·) := by
  have h := List.pairwise_mergeSort (le := fun (a b : Int) => decide (a ≤ b)) (fun a b c h1 h2 => by simp at *; omega) (fun a b => by simp; omega) ns
  exact h.imp fun h => by simpa using h
theorem sortI_unique {ns ms : List Int} (hp : ms.Perm ns) (hs : ms.Pairwise (· ≤ ·)) : ms = sortI ns :=
  List.Perm.eq_of_pairwise (fun _ _ _ _ a b => Int.le_antisymm a b) hs (sortI_sorted ns) (hp.trans (sortI_perm ns).symm)
noncomputable def gTuple : List D → Res D
  | [.lst xs] => .ok (.tup xs)
  | [.tup xs] => .ok (.tup xs)
  | _ => .no
theorem q_k_tuple : OKC X (.type "tuple") (fun xs H Q => ∃ p ys, xs = [.ref p] ∧ ((SqL X.K H p ys ∧ ∀ l, H l = none → Q (.ref l) (upd H l (.tup ys))) ∨ (SqT X.K H p ys ∧ Q (.ref p) H))) gTuple := ⟨call_tuple_of, fun vs ds B H Q i r h => by
  unfold gTuple at h
  split at h
  · cases r with
    | cons r1 r2 =>
      cases r2
      cases r1 with
      | lst h1 q => exact ⟨_, _, rfl, .inl ⟨i.seq h1, fun p hp => h _ _ _ (Grow.new i hp) (.tup (SqT.of upd_same) (q.mono (Grow.new (K := X.K) i hp).b))⟩⟩
  · cases r with
    | cons r1 r2 =>
      cases r2
      cases r1 with
      | tup h1 q => exact ⟨_, _, rfl, .inr ⟨sqT_mono i h1, h _ B H (Grow.refl i) (.tup h1 q)⟩⟩
  · exact h.elim, fun ds x => by unfold gTuple; split <;> simp⟩
theorem k_tuple (K : PySem.W.Frag) (hK : X.K = K) : OKC X (.type "tuple") (fun xs H Q => ∃ p ys, xs = [.ref p] ∧ ((SqL K H p ys ∧ ∀ l, H l = none → Q (.ref l) (upd H l (.tup ys))) ∨ (SqT K H p ys ∧ Q (.ref p) H))) gTuple := by
  subst hK
  exact (q_k_tuple )
noncomputable def gList : List D → Res D
  | [.lst xs] => .ok (.lst xs)
  | [.tup xs] => .ok (.lst xs)
  | _ => .no
theorem q_k_list : OKC X (.type "list") (fun xs H Q => ∃ p ys, xs = [.ref p] ∧ (SqL X.K H p ys ∨ SqT X.K H p ys) ∧ ∀ l, H l = none → Q (.ref l) (upd H l (.lst ys))) gList := ⟨call_list_of, fun vs ds B H Q i r h => by
  unfold gList at h
  split at h
  · cases r with
    | cons r1 r2 =>
      cases r2
      cases r1 with
      | lst h1 q => exact ⟨_, _, rfl, .inl (i.seq h1), fun p hp => h _ _ _ (Grow.new i hp) (.lst (SqL.of upd_same) (q.mono (Grow.new (K := X.K) i hp).b))⟩
  · cases r with
    | cons r1 r2 =>
      cases r2
      cases r1 with
      | tup h1 q => exact ⟨_, _, rfl, .inr (sqT_mono i h1), fun p hp => h _ _ _ (Grow.new i hp) (.lst (SqL.of upd_same) (q.mono (Grow.new (K := X.K) i hp).b))⟩
  · exact h.elim, fun ds x => by unfold gList; split <;> simp⟩
theorem k_list (K : PySem.W.Frag) (hK : X.K = K) : OKC X (.type "list") (fun xs H Q => ∃ p ys, xs = [.ref p] ∧ (SqL K H p ys ∨ SqT K H p ys) ∧ ∀ l, H l = none → Q (.ref l) (upd H l (.lst ys))) gList := by
  subst hK
  exact (q_k_list )
noncomputable def tyD : D → Option String
  | .v .non => some "NoneType"
  | .v (.bl _) => some "bool"
  | .v (.int _) => some "int"
  | .v (.str _) => some "str"
  | .lst _ => some "list"
  | .tup _ => some "tuple"
  | _ => none
end
end DV
namespace DV
open PySem L2
section
variable {X : Cx} {W : WX} {K : PySem.W.Frag}
noncomputable def isiD (d : D) (T : String) : Option Bool := match tyD d with
  | some t => if T = "int" then some (t == "int" || t == "bool") else if T = "bool" then some (t == "bool") else if T = "str" then some (t == "str") else if T = "list" then some (t == "list") else if T = "tuple" then some (t == "tuple") else none
  | none => none
noncomputable def tys : List String := ["NoneType", "bool", "int", "str", "list", "tuple"]
theorem kit_all : (tys.all fun t => kitB t "int" == some (t == "int" || t == "bool") && kitB t "bool" == some (t == "bool") && kitB t "str" == some (t == "str") && kitB t "list" == some (t == "list") && kitB t "tuple" == some (t == "tuple")) = true := by decide +kernel
theorem tyD_mem {d : D} {t : String} (h : tyD d = some t) : t ∈ tys := by
  unfold tyD at h
  split at h <;> first | (cases h; decide) | cases h
theorem kit_isi {d : D} {T t : String} {b : Bool} (ht : tyD d = some t) (h : isiD d T = some b) : kitB t T = some b := by
  have hm := List.all_eq_true.mp kit_all t (tyD_mem ht)
  simp only [Bool.and_eq_true, beq_iff_eq] at hm
  unfold isiD at h
  rw [ht] at h
  dsimp only at h
  obtain ⟨⟨⟨⟨h1, h2⟩, h3⟩, h4⟩, h5⟩ := hm
  split at h
  · rename_i e; rw [e, h1]; exact h
  · split at h
    · rename_i e; rw [e, h2]; exact h
    · split at h
      · rename_i e; rw [e, h3]; exact h
      · split at h
        · rename_i e; rw [e, h4]; exact h
        · split at h
          · rename_i e; rw [e, h5]; exact h
          · cases h
theorem tyX_of {B H : Hp} {x : V} {d : D} {t : String} (i : Same B H) (r : Rp K B x d) (ht : tyD d = some t) : TyX K H x (.type t) := by
  cases r with
  | v x =>
    unfold tyD at ht
    cases x <;> first | (cases ht; exact .base .non) | (cases ht; exact .base (.bl _)) | (cases ht; exact .base (.int _)) | (cases ht; exact .base (.str _)) | cases ht
  | lst h q =>
    cases ht
    rcases h with (h | ⟨o, h⟩) | ⟨o, its, n, h1, h2, _⟩
    · exact .base (.lst (i _ _ h))
    · exact .base (.frz (i _ _ h))
    · exact .kList h1 h2
  | tup h q =>
    cases ht
    rcases h with (h | ⟨o, h⟩) | ⟨o, its, n, h1, h2, _⟩
    · exact .base (.tup (i _ _ h))
    · exact .fTuple (i _ _ h)
    · exact .kTuple h1 h2
  | dct h q => cases ht
  | dlk h q => cases ht
  | dcT _ _ _ _ _ _ _ => cases ht
  | ins h _ _ q => cases ht
  | ptp _ _ => cases ht
  | wor _ _ _ _ => cases ht
noncomputable def gIsi : List D → Res D
  | [d, .v (.ty T)] => match isiD d T with
    | some b => .ok (.bl b)
    | none => .no
  | _ => .no
theorem q_k_isi : OKC X (.builtin "isinstance") (rIsi X.K) gIsi := ⟨call_isi, fun vs ds B H Q i r h => by
  unfold gIsi at h
  split at h
  · split at h
    · rename_i d T _ b e
      cases r with
      | cons r1 r2 =>
        cases r2 with
        | cons r2 r3 =>
          cases r2
          cases r3
          cases ht : tyD d with
          | none => unfold isiD at e; rw [ht] at e; cases e
          | some t => exact ⟨_, _, _, _, b, rfl, .ty T, tyX_of i r1 ht, kit_ty (kit_isi ht e), h _ B H (Grow.refl i) (.v _)⟩
    · exact h.elim
  · exact h.elim, fun ds x => by unfold gIsi; split <;> (try split) <;> simp⟩
theorem k_isi (K : PySem.W.Frag) (hK : X.K = K) : OKC X (.builtin "isinstance") (rIsi K) gIsi := by
  subst hK
  exact (q_k_isi )
noncomputable def wipeD (δ : DS) : List Nat → DS
  | [] => δ
  | v :: vs => (wipeD δ vs).set v none
theorem Rel.wipe {B0 : Hp} {H0 : Org} {B H : Hp} {σ : L2.St} {δ : DS} (r : Rel K B0 H0 B H σ δ) : ∀ vs : List Nat, Rel K B0 H0 B H (wipe σ vs) (wipeD δ vs)
  | [] => r
  | v :: vs => (Rel.wipe r vs).drop v
theorem wipe_get (σ : L2.St) (j : Nat) : ∀ vs : List Nat, (wipe σ vs)[j]? = if j ∈ vs ∧ j < σ.length then some none else σ[j]?
  | [] => by simp [wipe]
  | v :: vs => by
    unfold wipe
    by_cases hv : v = j
    · subst hv
      by_cases hl : v < σ.length
      · rw [List.getElem?_set_self (by rw [wipe_length]; exact hl), if_pos ⟨by simp, hl⟩]
      · rw [if_neg (fun z => hl z.2), List.getElem?_eq_none (by simp [wipe_length]; omega), List.getElem?_eq_none (by omega)]
    · rw [List.getElem?_set_ne hv, wipe_get σ j vs]
      have hv' : ¬ j = v := fun e => hv e.symm
      simp only [List.mem_cons, hv', false_or]
theorem wipe_eq {σ σ' : L2.St} {vs : List Nat} (hl : σ'.length = σ.length) (h : ∀ j, j ∉ vs → σ'[j]? = σ[j]?) : wipe σ' vs = wipe σ vs := by
  apply List.ext_getElem?
  intro j
  rw [wipe_get, wipe_get, hl]
  by_cases hj : j ∈ vs
  · by_cases h2 : j < σ.length
    · rw [if_pos ⟨hj, h2⟩, if_pos ⟨hj, h2⟩]
    · rw [if_neg (fun z => h2 z.2), if_neg (fun z => h2 z.2), List.getElem?_eq_none (by omega), List.getElem?_eq_none (by omega)]
  · rw [if_neg (fun z => hj z.1), if_neg (fun z => hj z.1)]
    exact h j hj
structure CG (X : Cx) (tg : Expr) (g : TG) (is : List Nat) (b : D → DS → Option DS) : Prop where
  pg : PG X tg g
  sg : ∀ B0 H0 B H σ δ v d (Q : L2.St → Hp → Prop), Rel X.K B0 H0 B H σ δ → Rp X.K B v d → (∀ δ' σ', b d δ = some δ' → Rel X.K B0 H0 B H σ' δ' → σ'.length = σ.length → (∀ j, j ∉ is → σ'[j]? = σ[j]?) → Q σ' H) → b d δ ≠ none → g v σ H Q
structure CGs (X : Cx) (tgs : List Expr) (g : TGs) (is : List Nat) (b : List D → DS → Option DS) : Prop where
  pg : PGs X tgs g
  sg : ∀ B0 H0 B H σ δ vs ds (Q : L2.St → Hp → Prop), Rel X.K B0 H0 B H σ δ → RpA X.K B vs ds → (∀ δ' σ', b ds δ = some δ' → Rel X.K B0 H0 B H σ' δ' → σ'.length = σ.length → (∀ j, j ∉ is → σ'[j]? = σ[j]?) → Q σ' H) → b ds δ ≠ none → g vs σ H Q
noncomputable def bName (i : Nat) : D → DS → Option DS := fun d δ => some (δ.set i (some (.im d)))
theorem cg_name (i : Nat) {x : Str} {pos : Pos} (hN : X.N.Nodup) (hi : X.N[i]? = some x := by rfl) (hx : Loc X.env.scope x := by first | exact Or.inl rfl | exact Or.inr rfl) (hf : X.fn x = true ∨ X.env.scope.names.lookup x = some .local := by first | exact .inl rfl | exact .inr rfl | assumption) : CG X (.Name x pos) (gName i) [i] (bName i) :=
  ⟨pg_name hN hi hx hf, fun B0 H0 B H σ δ v d Q rel rp h _ => h _ _ rfl (rel.set i rp) (by simp) fun j hj => by
    rw [List.getElem?_set_ne]
    intro e
    exact hj (by simp [e])⟩
noncomputable def bNil : List D → DS → Option DS := fun ds δ => match ds with
  | [] => some δ
  | _ => none
noncomputable def bCons (b : D → DS → Option DS) (c : List D → DS → Option DS) : List D → DS → Option DS := fun ds δ => match ds with
  | [] => none
  | d :: ds => (b d δ).bind fun δ' => c ds δ'
noncomputable def bTup (n : Nat) (c : List D → DS → Option DS) : D → DS → Option DS := fun d δ => match d with
  | .tup ds => if ds.length = n then c ds δ else none
  | _ => none
theorem cgs_nil : CGs X [] gNil [] bNil := ⟨pgs_nil, fun B0 H0 B H σ δ vs ds Q rel rp h hn => by
  cases rp with
  | nil => exact ⟨rfl, h δ σ rfl rel rfl fun _ _ => rfl⟩
  | cons _ _ => exact absurd rfl hn⟩
theorem cgs_cons {e : Expr} {es : List Expr} {t : TG} {u : TGs} {is js : List Nat} {b : D → DS → Option DS} {c : List D → DS → Option DS} (h1 : CG X e t is b) (h2 : CGs X es u js c) (hs : (assignEach (e :: es) X.env).map (·.2) = assign e X.env :: (assignEach es X.env).map (·.2)) : CGs X (e :: es) (gCons t u) (is ++ js) (bCons b c) :=
  ⟨pgs_cons h1.pg h2.pg hs, fun B0 H0 B H σ δ vs ds Q rel rp h hn => by
    cases rp with
    | nil => exact absurd rfl hn
    | @cons v vs d ds r1 r2 =>
      refine ⟨v, vs, rfl, ?_⟩
      have e0 : bCons b c (d :: ds) δ = (b d δ).bind fun δ' => c ds δ' := rfl
      rw [e0] at hn
      refine h1.sg B0 H0 B H σ δ v d _ rel r1 (fun δ1 σ1 e1 rel1 l1 f1 => ?_) (fun z => hn (by rw [z]; rfl))
      rw [e1] at hn
      refine h2.sg B0 H0 B H σ1 δ1 vs ds _ rel1 r2 (fun δ2 σ2 e2 rel2 l2 f2 => ?_) hn
      refine h δ2 σ2 (by rw [e0, e1]; exact e2) rel2 (l2.trans l1) fun j hj => ?_
      rw [List.mem_append, not_or] at hj
      exact (f2 j hj.2).trans (f1 j hj.1)⟩
theorem q_cg_tup {es : List Expr} {kk : Nat} {pos : Pos} {t : TGs} {n : Nat} {is : List Nat} {c : List D → DS → Option DS} (hc : X.calm = true) (h : CGs X es t is c) (hn : (assignEach es X.env).length = n) (hst : (assignEach es X.env).findIdx? (·.1) = none) : CG X (.Tuple es kk pos) (gTup X.K n t) is (bTup n c) :=
  ⟨pg_tup hc h.pg hn hst, fun B0 H0 B H σ δ v d Q rel rp hq hn => by
    unfold bTup at hn
    split at hn
    · rename_i ds
      split at hn
      · rename_i hl
        cases rp with
        | tup h1 q =>
          refine ⟨_, _, rfl, sqT_mono rel.g.i h1, by rw [q.length]; exact hl, ?_⟩
          refine h.sg B0 H0 B H σ δ _ ds _ rel q (fun δ' σ' e r l f => hq δ' σ' ?_ r l f) hn
          unfold bTup
          dsimp only
          rw [if_pos hl]
          exact e
      · exact absurd rfl hn
    · exact absurd rfl hn⟩
theorem cg_tup (K : PySem.W.Frag) (hK : X.K = K) {es : List Expr} {kk : Nat} {pos : Pos} {t : TGs} {n : Nat} {is : List Nat} {c : List D → DS → Option DS} (hc : X.calm = true) (h : CGs X es t is c) (hn : (assignEach es X.env).length = n) (hst : (assignEach es X.env).findIdx? (·.1) = none) : CG X (.Tuple es kk pos) (gTup K n t) is (bTup n c) := by
  subst hK
  exact (q_cg_tup hc h hn hst)
noncomputable def PostI (K : PySem.W.Frag) (B H : Hp) (σ : L2.St) (W : WX) (R : It → Hp → Prop) : Res (List D) → Prop
  | .ok ds => ∀ J B' H' G Y, Grow K B H B' H' → Walk J ds.length G Y → (∀ H2, Same B' H2 → G H2) →
      (∀ i d B2 H2 x H3, ds[i]? = some d → Same B' B2 → Same B2 H2 → Y i H2 x H3 → ∃ B3, Grow K B2 H2 B3 H3 ∧ Rp K B3 x d) → R J H'
  | .er x => ∀ c dx B' H', Grow K B H B' H' → RpX K B' c dx x → W c dx σ H'
  | .no => False
structure CI (X : Cx) (W : WX) (tg iter : Expr) (wi : TI) (f : DS → Res (List D)) : Prop where
  pi : PI X tg iter wi
  si : ∀ B0 H0 δ σ B H (R : It → Hp → Prop), Rel X.K B0 H0 B H σ δ → PostI X.K B H σ W R (f δ) → wi σ H R
theorem pi_or {tg iter : Expr} {wi wi' : TI} (h : PI X tg iter wi) (h' : PI X tg iter wi') : PI X tg iter (fun σ H R => wi σ H R ∨ wi' σ H R) :=
  ⟨fun pins s σ H R I q => q.elim (h.run pins s σ H R I) (h'.run pins s σ H R I)⟩
noncomputable def charsD (z : Str) : List D := z.cps.toList.map fun c => D.str ⟨#[c]⟩
noncomputable def itemsD : D → Res (List D)
  | .lst xs => .ok xs
  | .tup xs => .ok xs
  | .v (.str z) => .ok (charsD z)
  | _ => .no
noncomputable def cItems (f : DS → Res D) : DS → Res (List D) := fun δ => (f δ).bind itemsD
theorem q_ci_seq {tg e : Expr} {t : TE} {f : DS → Res D} (h : CE X W e t f) : CI X W tg e (fun σ H R => iList X.K t σ H R ∨ (iTup X.K t σ H R ∨ iStr t σ H R)) (cItems f) :=
  ⟨pi_or (pi_list h.pe) (pi_or (pi_tup h.pe) (pi_str h.pe)), fun B0 H0 δ σ B H R rel hp => by
    unfold cItems at hp
    cases e : f δ with
    | no => rw [e] at hp; exact hp.elim
    | er x =>
      rw [e] at hp
      exact .inl (h.se B0 H0 δ σ B H _ rel (by rw [e]; exact hp))
    | ok d =>
      rw [e, Res.bind_ok] at hp
      unfold itemsD at hp
      split at hp
      · refine .inl (h.se B0 H0 δ σ B H _ rel ?_)
        rw [e]
        intro v B1 H1 g1 r1
        cases r1 with
        | @lst a xs ds h1 q =>
          refine ⟨a, rfl, ⟨xs, g1.i.seq h1⟩, ?_⟩
          refine hp _ B1 H1 _ _ g1 (q.length ▸ walk_list) (fun H2 s2 => s2.seq h1) fun i d B2 H2 x H3 hi s1 s2 y => ?_
          obtain ⟨rfl, hx⟩ := y
          obtain ⟨d', hd, rp⟩ := q.get' hx
          rw [hd] at hi
          cases hi
          exact ⟨B2, Grow.refl s2, rp.mono s1⟩
      · refine .inr (.inl (h.se B0 H0 δ σ B H _ rel ?_))
        rw [e]
        intro v B1 H1 g1 r1
        cases r1 with
        | @tup a xs ds h1 q =>
          refine ⟨a, rfl, ⟨xs, sqT_mono g1.i h1⟩, ?_⟩
          refine hp _ B1 H1 _ _ g1 (q.length ▸ walk_tup) (fun H2 s2 => sqT_mono s2 h1) fun i d B2 H2 x H3 hi s1 s2 y => ?_
          obtain ⟨rfl, hx⟩ := y
          obtain ⟨d', hd, rp⟩ := q.get' hx
          rw [hd] at hi
          cases hi
          exact ⟨B2, Grow.refl s2, rp.mono s1⟩
      · rename_i z
        refine .inr (.inr (h.se B0 H0 δ σ B H _ rel ?_))
        rw [e]
        intro v B1 H1 g1 r1
        cases r1
        refine ⟨z, rfl, ?_⟩
        have hl : (charsD z).length = z.cps.size := by simp [charsD]
        refine hp _ B1 H1 _ _ g1 (by rw [hl]; exact walk_str) (fun _ _ => trivial) fun i d B2 H2 x H3 hi s1 s2 y => ?_
        obtain ⟨rfl, c, hc, rfl⟩ := y
        refine ⟨B2, Grow.refl s2, ?_⟩
        have : (charsD z)[i]? = some (D.str ⟨#[c]⟩) := by
          unfold charsD
          rw [List.getElem?_map, Array.getElem?_toList, hc]
          rfl
        rw [this] at hi
        cases hi
        exact .v _
      · exact hp.elim⟩
theorem ci_seq (K : PySem.W.Frag) (hK : X.K = K) {tg e : Expr} {t : TE} {f : DS → Res D} (h : CE X W e t f) : CI X W tg e (fun σ H R => iList K t σ H R ∨ (iTup K t σ H R ∨ iStr t σ H R)) (cItems f) := by
  subst hK
  exact (q_ci_seq h)
noncomputable def rangeD (lo : Int) (n : Nat) : List D := (List.range n).map fun (i : Nat) => D.int (lo + (i : Int))
noncomputable def gRange1 : List D → Res (List D)
  | [.v (.int j)] => if j.natAbs ≤ 1000000000 then .ok (rangeD 0 j.toNat) else .no
  | _ => .no
noncomputable def cIt (g : List D → Res (List D)) (f : DS → Res (List D)) : DS → Res (List D) := fun δ => (f δ).bind g
theorem postI_range {B H : Hp} {σ : L2.St} {R : It → Hp → Prop} {lo : Int} {n : Nat} {B1 H1 : Hp} (g1 : Grow K B H B1 H1) (hp : PostI K B H σ W R (.ok (rangeD lo n))) : R (Itr lo n) H1 := by
  have hl : (rangeD lo n).length = n := by simp [rangeD]
  refine hp _ B1 H1 _ _ g1 (by rw [hl]; exact walk_range) (fun _ _ => trivial) fun i d B2 H2 x H3 hi s1 s2 y => ?_
  obtain ⟨rfl, rfl⟩ := y
  refine ⟨B2, Grow.refl s2, ?_⟩
  unfold rangeD at hi
  rw [List.getElem?_map] at hi
  cases e : (List.range n)[i]? with
  | none => rw [e] at hi; cases hi
  | some j =>
    rw [e] at hi
    have : j = i := by
      have := List.getElem?_eq_some_iff.mp e
      obtain ⟨h1, h2⟩ := this
      simp at h2
      exact h2.symm
    subst this
    cases hi
    exact .v _
theorem ci_range1 {tg a : Expr} {p pos : Pos} {t : TA} {f : DS → Res (List D)} (hm : X.mg "range" = none) (ha : CL X W [a] t f) (hg : Gl X "range" := by rfl) (hs : starEach [a] X.env = [(false, eval a X.env)] := by rfl) : CI X W tg (.Call (.Name "range" p) [a] [] pos) (iRng1 t) (cIt gRange1 f) :=
  ⟨pi_range1 hg hm ha.pa hs, fun B0 H0 δ σ B H R rel hp => by
    unfold cIt at hp
    refine ha.sa B0 H0 δ σ B H _ rel ?_
    cases e : f δ with
    | no => rw [e] at hp; exact hp
    | er x => rw [e] at hp; exact hp
    | ok ds =>
      rw [e, Res.bind_ok] at hp
      intro vs B1 H1 g1 r1
      unfold gRange1 at hp
      split at hp
      · split at hp
        · rename_i hz
          cases r1 with
          | cons r1 r2 => cases r1; cases r2; exact ⟨_, rfl, by omega, by omega, postI_range g1 hp⟩
        · exact hp.elim
      · exact hp.elim⟩
noncomputable abbrev W0 : WX := fun _ _ _ _ => False
noncomputable def Res.calm {α : Type} : Res α → Res α
  | .ok a => .ok a
  | _ => .no
@[simp] theorem Res.calm_ok {α : Type} (a : α) : (Res.ok a).calm = .ok a := rfl
@[simp] theorem Res.calm_er {α : Type} (x : Exn) : (Res.er x : Res α).calm = .no := rfl
@[simp] theorem Res.calm_no {α : Type} : (Res.no : Res α).calm = .no := rfl
noncomputable def lcF (b : D → DS → Option DS) (t : DS → Res Bool) (e : DS → Res D) : List D → DS → Res (List D)
  | [], _ => .ok []
  | d :: ds, δ => match b d δ with
    | none => .no
    | some δ' => (t δ').calm.bind fun k => if k = true then (e δ').calm.bind fun y => (lcF b t e ds δ).bind fun ys => .ok (y :: ys) else lcF b t e ds δ
theorem lcF_calm (b : D → DS → Option DS) (t : DS → Res Bool) (e : DS → Res D) : ∀ (ds : List D) (δ : DS) (x : Exn), lcF b t e ds δ ≠ .er x
  | [], δ, x => by simp [lcF]
  | d :: ds, δ, x => by
    unfold lcF
    split
    · simp
    · rename_i δ' _
      have ih := lcF_calm b t e ds δ x
      cases h1 : t δ' with
      | no => simp
      | er x => simp
      | ok k =>
        simp only [Res.calm_ok, Res.bind_ok]
        split
        · cases h2 : e δ' with
          | no => simp
          | er x => simp
          | ok y =>
            simp only [Res.calm_ok, Res.bind_ok]
            cases h3 : lcF b t e ds δ with
            | no => simp
            | er x' => simp only [Res.bind_er]; rw [h3] at ih; exact ih
            | ok ys => simp
        · exact ih
noncomputable def cLc (vs : List Nat) (fi : DS → Res (List D)) (b : D → DS → Option DS) (t : DS → Res Bool) (e : DS → Res D) : DS → Res (List D) := fun δ => (fi δ).bind fun ds => if ds.length ≤ sizeLine then lcF b t e ds (wipeD δ vs) else .no
structure CTs (X : Cx) (W : WX) (ifs : List Expr) (t : TT) (f : DS → Res Bool) : Prop where
  pt : PTs X ifs t
  st : ST X.K W t f
noncomputable def cYes : DS → Res Bool := fun _ => .ok true
theorem cts_nil : CTs X W [] tYes cYes := ⟨pts_nil, fun B0 H0 δ σ B H Q rel hp => hp B H (Grow.refl rel.g.i)⟩
theorem sf_lc {wi : TI} {g : TG} {tt : TT} {te : TE} {vs is : List Nat} {fi : DS → Res (List D)} {b : D → DS → Option DS} {t : DS → Res Bool} {e : DS → Res D}
    (hi : ∀ B0 H0 δ σ B H (R : It → Hp → Prop), Rel K B0 H0 B H σ δ → PostI K B H σ W R (fi δ) → wi σ H R)
    (hg : ∀ B0 H0 B H σ δ v d (Q : L2.St → Hp → Prop), Rel K B0 H0 B H σ δ → Rp K B v d → (∀ δ' σ', b d δ = some δ' → Rel K B0 H0 B H σ' δ' → σ'.length = σ.length → (∀ j, j ∉ is → σ'[j]? = σ[j]?) → Q σ' H) → b d δ ≠ none → g v σ H Q)
    (ht : ST K W0 tt t) (he : SE K W0 te e) (his : ∀ i ∈ is, i ∈ vs) : SF K W (tLc wi g tt te vs) (cLc vs fi b t e) := fun B0 H0 δ σ B H Q rel hp => by
  unfold cLc at hp
  refine hi B0 H0 δ σ B H _ rel ?_
  cases e1 : fi δ with
  | no => rw [e1] at hp; exact hp
  | er x => rw [e1] at hp; exact hp
  | ok ds =>
    rw [e1, Res.bind_ok] at hp
    split at hp
    case isFalse => exact hp.elim
    case isTrue hz =>
      intro J B1 H1 G Y g1 wk hG hY Dl hD
      cases e2 : lcF b t e ds (wipeD δ vs) with
      | no => rw [e2] at hp; exact hp.elim
      | er x => exact absurd e2 (lcF_calm b t e ds _ x)
      | ok ys =>
        rw [e2] at hp
        have relw := (rel.mono g1).wipe vs
        refine lc_it wk (fun i H' => ∃ B' us done rest, Grow K B1 H1 B' H' ∧ B' Dl = none ∧ H' Dl = some (.lst us) ∧ RpA K B' us done ∧ us.length ≤ i ∧ lcF b t e (ds.drop i) (wipeD δ vs) = .ok rest ∧ done ++ rest = ys) ?_ ?_ ?_ ?_
        · exact ⟨B1, [], [], ys, Grow.raw g1.i hD, g1.i.free hD, upd_same, .nil, Nat.zero_le _, by simpa using e2, rfl⟩
        · rintro i H' hin ⟨B', us, done, rest, gr, hb, hh, rp, hl, hr, hy⟩
          exact hG H' (gr.b.trans gr.i)
        · rintro i x H2 H3 hin ⟨B', us, done, rest, gr, hb, hh, rp, hl, hr, hy⟩ y
          have hlt : i < ds.length := hin
          have hdi : ds[i]? = some ds[i] := by simp [hlt]
          obtain ⟨B3, g3, rx⟩ := hY i ds[i] B' H2 x H3 hdi gr.b gr.i y
          have hdrop : ds.drop i = ds[i] :: ds.drop (i + 1) := List.drop_eq_getElem_cons hlt
          rw [hdrop] at hr
          unfold lcF at hr
          cases e3 : b ds[i] (wipeD δ vs) with
          | none => rw [e3] at hr; cases hr
          | some δ' =>
            rw [e3] at hr
            dsimp only at hr
            have rel3 : Rel K B0 H0 B3 H3 (wipe σ vs) (wipeD δ vs) := (relw.mono gr).mono g3
            refine hg B0 H0 B3 H3 _ _ x ds[i] _ rel3 rx (fun δ2 σ2 e4 rel4 l4 f4 => ?_) (by rw [e3]; simp)
            rw [e3] at e4
            cases e4
            refine ⟨?_, ?_⟩
            · refine (wipe_eq (σ := wipe σ vs) l4 fun j hj => f4 j fun z => hj (his j z)).trans (wipe_eq (wipe_length σ vs) fun j hj => ?_)
              rw [wipe_get, if_neg (fun z => hj z.1)]
            refine ht B0 H0 δ' σ2 B3 H3 _ rel4 ?_
            cases e5 : t δ' with
            | no => rw [e5] at hr; simp at hr
            | er x => rw [e5] at hr; simp at hr
            | ok k =>
              rw [e5, Res.calm_ok, Res.bind_ok] at hr
              intro B4 H4 g4
              cases k with
              | false =>
                rw [if_neg Bool.false_ne_true] at hr ⊢
                have gg := (gr.trans g3).trans g4
                have hD4 : H4 Dl = some (.lst us) := (g3.trans g4).h _ _ hh ⟨fun _ z => (by cases z), fun _ _ _ z => (by cases z)⟩
                refine ⟨B4, us, done, rest, gg, ?_, hD4, rp.mono (g3.b.trans g4.b), by omega, hr, hy⟩
                rw [(g3.trans g4).f Dl (by rw [hh]; simp)]; exact hb
              | true =>
                rw [if_pos rfl] at hr ⊢
                refine he B0 H0 δ' σ2 B4 H4 _ (rel4.mono g4) ?_
                cases e6 : e δ' with
                | no => rw [e6] at hr; simp at hr
                | er x => rw [e6] at hr; simp at hr
                | ok yd =>
                  rw [e6, Res.calm_ok, Res.bind_ok] at hr
                  intro yv B5 H5 g5 r5
                  have gA := (g3.trans g4).trans g5
                  have hD5 : H5 Dl = some (.lst us) := gA.h _ _ hh ⟨fun _ z => (by cases z), fun _ _ _ z => (by cases z)⟩
                  have hB5 : B5 Dl = none := by rw [gA.f Dl (by rw [hh]; simp)]; exact hb
                  refine ⟨us, hD5, by omega, ?_⟩
                  cases e7 : lcF b t e (ds.drop (i + 1)) (wipeD δ vs) with
                  | no => rw [e7] at hr; cases hr
                  | er x => exact absurd e7 (lcF_calm b t e _ _ x)
                  | ok rest' =>
                    rw [e7, Res.bind_ok] at hr
                    cases hr
                    have gT := gr.trans gA
                    have neD : ∀ a o, B5 a = some o → a ≠ Dl := fun a o q z => by rw [z, hB5] at q; cases q
                    refine ⟨B5, us ++ [yv], done ++ [yd], rest', ⟨gT.b, fun a o q nq => ?_, fun a o q => ?_, gT.f, fun a ha => ?_, fun P hP => tab_upd (gT.t P hP) hD5, gT.np hD5 (std_lst _).2⟩, hB5, upd_same, (rp.mono gA.b).append (.cons r5 .nil), by simp; omega, rfl, by simpa using hy⟩
                    · rw [upd_ne (ne_of_none q hD)]; exact gT.h a o q nq
                    · rw [upd_ne (neD a o q)]; exact gT.i a o q
                    · have : a ≠ Dl := fun z => ha (by rw [z]; exact hD)
                      rw [upd_ne this]; exact gT.e a ha
        · rintro H' ⟨B', us, done, rest, gr, hb, hh, rp, hl, hr, hy⟩
          rw [List.drop_length] at hr
          cases hr
          rw [List.append_nil] at hy
          subst hy
          exact hp Dl us B' H' (g1.trans gr) (g1.free hD) hb hh rp
structure LC (X : Cx) (W : WX) (e : Expr) (t : TE) (f : DS → Res (List D)) : Prop extends CF X W e t f where
  set_ : ∀ (i : Nat) (y : Str) (py spos : Pos), X.N[i]? = some y → X.env.scope.names.lookup y = some .local → swapsWith e (some (.Name y py)) spos.line X.env = pure true → PS X (.Assign [.Name y py] e spos) (tAsg t (gName i))
theorem lc_1 {elt tg iter : Expr} {ifs : List Expr} {scope : Scope} {own : List (Str × Nat)} {pos : Pos} {wi : TI} {g : TG} {tt : TT} {te : TE} {is : List Nat} {fi : DS → Res (List D)} {b : D → DS → Option DS} {t : DS → Res Bool} {e : DS → Res D}
    (s0 : Shared) (hc : X.calm = true) (hN : X.N.Nodup) (hi : CI X W tg iter wi fi) (ok : BlkOk X.N X.env.scope scope own)
    (hg : ∀ (s : Shared) (H : Hp) (C : Addr) (cl : List (Str × Addr)) (fp : List Addr), CG (X.blk s H scope (compEnvC scope cl C X.env) fp) tg g is b)
    (ht : ∀ (s : Shared) (H : Hp) (C : Addr) (cl : List (Str × Addr)) (fp : List Addr), CTs (X.blk s H scope (compEnvC scope cl C X.env) fp) W0 ifs tt t)
    (he : ∀ (s : Shared) (H : Hp) (C : Addr) (cl : List (Str × Addr)) (fp : List Addr), CE (X.blk s H scope (compEnvC scope cl C X.env) fp) W0 elt te e)
    (his : ∀ i ∈ is, i ∈ own.map (·.2) := by decide) (hs : ∀ x, foldedSetIterable iter X.env x = pure x := by intro _; rfl) :
    LC X W (.ListComp elt [⟨tg, iter, ifs, 0⟩] scope pos) (tLc wi g tt te (own.map (·.2))) (cLc (own.map (·.2)) fi b t e) :=
  ⟨⟨pe_lc hc hN hi.pi ok (fun s H C cl fp => (hg s H C cl fp).pg) (fun s H C cl fp => (ht s H C cl fp).pt) (fun s H C cl fp => (he s H C cl fp).pe) hs,
    sf_lc hi.si (hg s0 (fun _ => none) 0 [] []).sg (ht s0 (fun _ => none) 0 [] []).st (he s0 (fun _ => none) 0 [] []).se his⟩,
   fun i y py spos hy hyl hsw => ps_setLc hc hN hy hyl hsw hi.pi ok (fun s H C cl fp => (hg s H C cl fp).pg) (fun s H C cl fp => (ht s H C cl fp).pt) (fun s H C cl fp => (he s H C cl fp).pe) hs⟩
end
end DV
namespace DV
open PySem L2
noncomputable def stE {α : Type} (r : Res α) (δ : DS) (k : α → Fl) : Fl := match r with
  | .ok a => k a
  | .er x => .rs x δ
  | .no => .no
@[simp] theorem stE_ok {α : Type} (a : α) (δ : DS) (k : α → Fl) : stE (.ok a) δ k = k a := rfl
@[simp] theorem stE_er {α : Type} (x : Exn) (δ : DS) (k : α → Fl) : stE (.er x : Res α) δ k = .rs x δ := rfl
@[simp] theorem stE_no {α : Type} (δ : DS) (k : α → Fl) : stE (.no : Res α) δ k = .no := rfl
noncomputable def Fl.then : Fl → (DS → Fl) → Fl
  | .nx δ, g => g δ
  | r, _ => r
@[simp] theorem Fl.then_nx (δ : DS) (g : DS → Fl) : (Fl.nx δ).then g = g δ := rfl
@[simp] theorem Fl.then_rt (d : D) (g : DS → Fl) : (Fl.rt d).then g = .rt d := rfl
@[simp] theorem Fl.then_rf (ds : List D) (g : DS → Fl) : (Fl.rf ds).then g = .rf ds := rfl
@[simp] theorem Fl.then_rn (t : T) (g : DS → Fl) : (Fl.rn t).then g = .rn t := rfl
@[simp] theorem Fl.then_ro (d : D) (δ : DS) (g : DS → Fl) : (Fl.ro d δ).then g = .ro d δ := rfl
@[simp] theorem Fl.then_rs (x : Exn) (δ : DS) (g : DS → Fl) : (Fl.rs x δ).then g = .rs x δ := rfl
@[simp] theorem Fl.then_bk (δ : DS) (g : DS → Fl) : (Fl.bk δ).then g = .bk δ := rfl
@[simp] theorem Fl.then_ct (δ : DS) (g : DS → Fl) : (Fl.ct δ).then g = .ct δ := rfl
@[simp] theorem Fl.then_no (g : DS → Fl) : (Fl.no).then g = .no := rfl
section
variable {X : Cx} {W : WX} {K : PySem.W.Frag} {B0 : Hp} {H0 : Org} {B H : Hp} {σ : L2.St} {δ : DS} {E : Ends}
theorem postS_mono {B' : Hp} {r : Fl} (s : Same B B') (h : PostS K B0 H0 B W E r) : PostS K B0 H0 B' W E r := by
  cases r with
  | nx δ => exact fun σ B2 H2 s2 rel => h σ B2 H2 (s.trans s2) rel
  | bk δ => exact fun σ B2 H2 s2 rel => h σ B2 H2 (s.trans s2) rel
  | ct δ => exact fun σ B2 H2 s2 rel => h σ B2 H2 (s.trans s2) rel
  | rt d => exact fun v B2 H2 s2 g rp => h v B2 H2 (s.trans s2) g rp
  | rf ds => exact fun p xs B2 H2 s2 g h0 hb hh rr => h p xs B2 H2 (s.trans s2) g h0 hb hh rr
  | rn t => exact fun v B2 H2 s2 g rt n => h v B2 H2 (s.trans s2) g rt n
  | ro d δ => exact fun v σ B2 H2 s2 rel rp => h v σ B2 H2 (s.trans s2) rel rp
  | rs x δ => exact fun c dx σ B2 H2 s2 rel rp => h c dx σ B2 H2 (s.trans s2) rel rp
  | no => exact h
theorem postE_of {f : Res D} {Q : VK} {k : D → Fl} (rel : Rel K B0 H0 B H σ δ) (h : PostS K B0 H0 B W E (stE f δ k)) (hk : ∀ d v B' H', f = .ok d → Grow K B H B' H' → Rp K B' v d → PostS K B0 H0 B' W E (k d) → Q v H') : PostE K B H σ W Q f := by
  cases f with
  | ok d => exact fun v B' H' g rp => hk d v B' H' rfl g rp (postS_mono g.b h)
  | er x => exact fun c dx B' H' g rp => h c dx σ B' H' g.b (rel.mono g) rp
  | no => exact h
theorem postT_of {f : Res Bool} {Q : Bool → Hp → Prop} {k : Bool → Fl} (rel : Rel K B0 H0 B H σ δ) (h : PostS K B0 H0 B W E (stE f δ k)) (hk : ∀ b B' H', Grow K B H B' H' → PostS K B0 H0 B' W E (k b) → Q b H') : PostT K B H σ W Q f := by
  cases f with
  | ok d => exact fun B' H' g => hk d B' H' g (postS_mono g.b h)
  | er x => exact fun c dx B' H' g rp => h c dx σ B' H' g.b (rel.mono g) rp
  | no => exact h
noncomputable def cSeq (g h : DS → Fl) : DS → Fl := fun δ => (g δ).then h
theorem ss_seq {t u : TS} {g h : DS → Fl} (h1 : SS K W t g) (h2 : SS K W u h) : SS K W (tSeq t u) (cSeq g h) := fun B0 H0 δ σ B H E rel hp => by
  unfold cSeq at hp
  refine h1 B0 H0 δ σ B H _ rel ?_
  cases e : g δ with
  | nx δ' => rw [e] at hp; exact fun σ' B' H' s rel' => h2 B0 H0 δ' σ' B' H' E rel' (postS_mono s hp)
  | bk δ' => rw [e] at hp; exact hp
  | ct δ' => rw [e] at hp; exact hp
  | rt d => rw [e] at hp; exact hp
  | rf d => rw [e] at hp; exact hp
  | rn d => rw [e] at hp; exact hp
  | ro d δ' => rw [e] at hp; exact hp
  | rs x δ' => rw [e] at hp; exact hp
  | no => rw [e] at hp; exact hp
noncomputable def cNext : DS → Fl := fun δ => .nx δ
theorem ss_next : SS K W tNext cNext := fun B0 H0 δ σ B H E rel hp => hp σ B H (Same.refl _) rel
theorem css_nil : CSs X W [] tNext cNext := ⟨pss_nil, ss_next⟩
theorem css_cons {s : Stmt} {ss : List Stmt} {t u : TS} {g h : DS → Fl} (h1 : CS X W s t g) (h2 : CSs X W ss u h) : CSs X W (s :: ss) (tSeq t u) (cSeq g h) := ⟨pss_cons h1.ps h2.ps, ss_seq h1.ss h2.ss⟩
theorem css_one {s : Stmt} {t : TS} {g : DS → Fl} (h1 : CS X W s t g) : CSs X W [s] t g := ⟨pss_one h1.ps, h1.ss⟩
noncomputable def cRet (f : DS → Res D) : DS → Fl := fun δ => stE (f δ) δ fun d => .rt d
theorem cs_ret {e : Expr} {pos : Pos} {t : TE} {f : DS → Res D} (h : CE X W e t f) : CS X W (.Return (some e) pos) (tRet t) (cRet f) :=
  ⟨ps_ret h.pe, fun B0 H0 δ σ B H E rel hp => h.se B0 H0 δ σ B H _ rel (postE_of rel hp fun d v B' H' _ g rp q => q v B' H' (Same.refl _) (rel.g.trans g) rp)⟩
noncomputable def cIf (t : DS → Res Bool) (g h : DS → Fl) : DS → Fl := fun δ => stE (t δ) δ fun b => if b = true then g δ else h δ
theorem cs_if {c : Expr} {a b : List Stmt} {pos : Pos} {tc : TT} {t u : TS} {f : DS → Res Bool} {g h : DS → Fl} (hc : CT X W c tc f) (ha : CSs X W a t g) (hb : CSs X W b u h) : CS X W (.If c a b pos) (tIfS tc t u) (cIf f g h) :=
  ⟨ps_if hc.pt ha.ps hb.ps, fun B0 H0 δ σ B H E rel hp => hc.st B0 H0 δ σ B H _ rel (postT_of rel hp fun b B' H' g q => by
    cases b with
    | true => rw [if_pos rfl] at q ⊢; exact ha.ss B0 H0 δ σ B' H' E (rel.mono g) q
    | false => rw [if_neg Bool.false_ne_true] at q ⊢; exact hb.ss B0 H0 δ σ B' H' E (rel.mono g) q)⟩
noncomputable def cDrop (f : DS → Res D) : DS → Fl := fun δ => stE (f δ) δ fun _ => .nx δ
theorem cs_expr {e : Expr} {pos : Pos} {t : TE} {f : DS → Res D} (h : CE X W e t f) (hs : swapsWith e none pos.line X.env = pure false := by rfl) : CS X W (.Expr e pos) (tDrop t) (cDrop f) :=
  ⟨ps_expr h.pe hs, fun B0 H0 δ σ B H E rel hp => h.se B0 H0 δ σ B H _ rel (postE_of rel hp fun d v B' H' _ g rp q => q σ B' H' (Same.refl _) (rel.mono g))⟩
noncomputable def cAsg (i : Nat) (f : DS → Res D) : DS → Fl := fun δ => stE (f δ) δ fun d => .nx (δ.set i (some (.im d)))
theorem ss_asg {i : Nat} {t : TE} {f : DS → Res D} (h : SE K W t f) : SS K W (tAsg t (gName i)) (cAsg i f) := fun B0 H0 δ σ B H E rel hp =>
  h B0 H0 δ σ B H _ rel (postE_of rel hp fun d v B' H' _ g rp q => q _ B' H' (Same.refl _) ((rel.mono g).set i rp))
theorem cs_set (i : Nat) {x : Str} {e : Expr} {t : TE} {f : DS → Res D} {pos pos' : Pos} (hN : X.N.Nodup) (he : CE X W e t f) (hi : X.N[i]? = some x := by rfl) (hx : Loc X.env.scope x := by first | exact Or.inl rfl | exact Or.inr rfl)
    (hs : swapsWith e (some (.Name x pos')) pos.line X.env = pure false := by rfl) (hf : X.fn x = true ∨ X.env.scope.names.lookup x = some .local := by first | exact .inl rfl | exact .inr rfl | assumption) :
    CS X W (.Assign [.Name x pos'] e pos) (tAsg t (gName i)) (cAsg i f) := ⟨ps_set hN hi hx he.pe hs hf, ss_asg he.se⟩
noncomputable def cAug (i : Nat) (o : D → D → Res D) (f : DS → Res D) : DS → Fl := fun δ => stE ((cVar i δ).bind fun x => (f δ).bind fun y => o x y) δ fun d => .nx (δ.set i (some (.im d)))
theorem cs_aug (i : Nat) {x : Str} {e : Expr} {t : TE} {f : DS → Res D} {op : Operator} {r : R2} {o : D → D → Res D} {pos pos' : Pos} (hN : X.N.Nodup) (he : CE X W e t f) (ho : OK2 X (inplaceOp op) r o) (hi : X.N[i]? = some x := by rfl) (hx : Loc X.env.scope x := by first | exact Or.inl rfl | exact Or.inr rfl) (hf : X.fn x = true ∨ X.env.scope.names.lookup x = some .local := by first | exact .inl rfl | exact .inr rfl | assumption) :
    CS X W (.AugAssign (.Name x pos') op e pos) (tAug i t r) (cAug i o f) := ⟨ps_aug hN hi hx he.pe ho.o hf, fun B0 H0 δ σ B H E rel hp => by
  unfold cAug cVar at hp
  cases e1 : δ[i]? with
  | none => rw [e1] at hp; exact hp.elim
  | some o1 =>
    cases o1 with
    | none => rw [e1] at hp; exact hp.elim
    | some o1 =>
      cases o1 with
      | ow ds => rw [e1] at hp; exact hp.elim
      | od ds => rw [e1] at hp; exact hp.elim
      | tr _ _ _ => rw [e1] at hp; exact hp.elim
      | im d =>
        rw [e1] at hp
        obtain ⟨v, h1, h2⟩ := rel.get e1
        refine ⟨v, h1, he.se B0 H0 δ σ B H _ rel ?_⟩
        simp only [Res.bind_ok] at hp
        cases e2 : f δ with
        | no => rw [e2] at hp; exact hp
        | er x => rw [e2] at hp; exact fun c dx B' H' g rp => hp c dx σ B' H' g.b (rel.mono g) rp
        | ok d2 =>
          rw [e2, Res.bind_ok] at hp
          intro v2 B' H' g rp
          refine ho.r v v2 d d2 B' H' _ g.i (h2.mono g.b) rp ?_
          cases e3 : o d d2 with
          | no => rw [e3] at hp; exact hp
          | er x => exact absurd e3 (ho.c d d2 x)
          | ok z =>
            rw [e3, stE_ok] at hp
            exact fun zv B2 H2 g2 r2 => hp _ B2 H2 (g.b.trans g2.b) (((rel.mono g).mono g2).set i r2)⟩
noncomputable def oAddI : D → D → Res D
  | .v (.int i), .v (.int j) => .ok (.int (i + j))
  | _, _ => .no
theorem iop_mulW : OpR X (inplaceOp .Mult) (rI CMulW fun i j => .int (i * j)) := opI fun _ _ _ _ _ _ _ hc q => PyProof.Rows.imul_int q hc.ok
noncomputable def oMulI : D → D → Res D
  | .v (.int i), .v (.int j) => if i.natAbs.log2 + j.natAbs.log2 < 1000000 then .ok (.int (i * j)) else .no
  | _, _ => .no
theorem oi_mul : OK2 X (inplaceOp .Mult) (rI CMulW fun i j => .int (i * j)) oMulI := ⟨iop_mulW, ro_I fun d e z h => (by
  unfold oMulI at h
  split at h
  · split at h
    · rename_i hz
      cases h; exact ⟨_, _, rfl, rfl, hz, rfl⟩
    · cases h
  · cases h), fun d e x => (by unfold oMulI; split <;> (try split) <;> simp)⟩
noncomputable def cOwn (i : Nat) (f : DS → Res (List D)) : DS → Fl := fun δ => stE (f δ) δ fun ds => .nx (δ.set i (some (.ow ds)))
theorem ss_own {i : Nat} {t : TE} {f : DS → Res (List D)} (h : SF K W t f) : SS K W (tAsg t (gName i)) (cOwn i f) := fun B0 H0 δ σ B H E rel hp => by
  unfold cOwn at hp
  refine h B0 H0 δ σ B H _ rel ?_
  cases e : f δ with
  | no => rw [e] at hp; exact hp
  | er x => rw [e] at hp; exact fun c dx B' H' g rp => hp c dx σ B' H' g.b (rel.mono g) rp
  | ok ds =>
    rw [e, stE_ok] at hp
    intro p vs B' H' g h0 hb hh rp
    exact hp _ B' H' g.b ((rel.mono g).setOw i (rel.g.free h0) hb hh rp (rel.free' g h0))
theorem cs_own (i : Nat) {x : Str} {e : Expr} {t : TE} {f : DS → Res (List D)} {pos pos' : Pos} (hN : X.N.Nodup) (he : CF X W e t f) (hi : X.N[i]? = some x := by rfl) (hx : Loc X.env.scope x := by first | exact Or.inl rfl | exact Or.inr rfl)
    (hs : swapsWith e (some (.Name x pos')) pos.line X.env = pure false := by rfl) (hf : X.fn x = true ∨ X.env.scope.names.lookup x = some .local := by first | exact .inl rfl | exact .inr rfl | assumption) :
    CS X W (.Assign [.Name x pos'] e pos) (tAsg t (gName i)) (cOwn i f) := ⟨ps_set hN hi hx he.pe hs hf, ss_own he.sf⟩
noncomputable def cApp (i : Nat) (f : DS → Res D) : DS → Fl := fun δ => match δ[i]? with
  | some (some (.ow ds)) => stE (f δ) δ fun d => if ds.length < sizeLine then .nx (δ.set i (some (.ow (ds ++ [d])))) else .no
  | _ => .no
theorem cs_app (i : Nat) {x : Str} {e : Expr} {t : TE} {f : DS → Res D} {px apos cpos pos : Pos} (he : CE X W e t f) (hv : PE X (.Name x px) (tVar i))
    (hbase : attributeBase (.Name x px) "append" X.env (eval (.Name x px) X.env) = eval (.Name x px) X.env := by rfl)
    (hfew : ((backTo cpos (starEach [e] X.env)).all (fun x => !x.1) && (backToKw cpos (keywordEach [] X.env)).all (fun x => x.1.isSome) && decide ([e].length + ([] : List Keyword).length + (if ([] : List Keyword).isEmpty then 0 else 1) < 30)) = true := by rfl)
    (hline : (apos.endLine == cpos.line) = true := by rfl) (hst : starEach [e] X.env = (false, eval e X.env) :: starEach [] X.env := by rfl) (hplain : (backTo cpos (starEach [] X.env)).any (·.1) = false := by rfl) (hs : swapsWith (.Call (.Attribute (.Name x px) "append" apos) [e] [] cpos) none pos.line X.env = pure false := by rfl) :
    CS X W (.Expr (.Call (.Attribute (.Name x px) "append" apos) [e] [] cpos) pos) (tDrop (tBM X.K "list" rAppend (tVar i) (tCons t tNil))) (cApp i f) :=
  ⟨ps_expr (pe_bm PySem.F.plainAttrs_list PySem.F.slot_list_append PySem.F.type_list_append mt_append hv (pa_cons he.pe pa_nil hst) hbase hfew hline hst hplain) hs, fun B0 H0 δ σ B H E rel hp => by
    unfold cApp at hp
    split at hp
    · rename_i ds ei
      obtain ⟨v, q1, p, vs, rfl, _, hb, hh, rp⟩ := rel.sl i _ ei
      refine ⟨_, q1, .inl ⟨rfl, vs, SqL.of hh⟩, ?_⟩
      refine he.se B0 H0 δ σ B H _ rel ?_
      cases e1 : f δ with
      | no => rw [e1] at hp; exact hp
      | er x => rw [e1] at hp; exact fun c dx B' H' g rp => hp c dx σ B' H' g.b (rel.mono g) rp
      | ok d =>
        rw [e1, stE_ok] at hp
        split at hp
        · rename_i hz
          intro v B' H' g r1
          refine ⟨p, vs, v, rfl, rfl, g.h _ _ hh ⟨fun _ z => (by cases z), fun _ _ _ z => (by cases z)⟩, by rw [rp.length]; exact hz, ?_⟩
          exact hp σ B' _ g.b ((rel.mono g).write (us := vs) ei q1 ((rp.mono g.b).append (.cons r1 .nil)))
        · exact hp.elim
    · exact hp.elim⟩
noncomputable def fz (i : Nat) (δ : DS) : DS := match δ[i]? with
  | some (some (.ow ds)) => δ.set i (some (.im (.lst ds)))
  | some (some (.tr m k ts)) => δ.set i (some (.im (T.nd k ts).d))
  | _ => δ
theorem Rel.fz {B0 : Hp} {H0 : Org} {B H : Hp} {σ : L2.St} {δ : DS} (r : Rel K B0 H0 B H σ δ) (i : Nat) : ∃ B', Same B B' ∧ Rel K B0 H0 B' H σ (fz i δ) := by
  unfold DV.fz
  split
  · rename_i ds e
    exact r.freeze e
  · rename_i k ts e
    obtain ⟨v, h1, _⟩ := r.sl i _ e
    exact ⟨_, r.freezeT e h1⟩
  · exact ⟨B, Same.refl _, r⟩
noncomputable def cFz (i : Nat) (g : DS → Fl) : DS → Fl := fun δ => g (fz i δ)
theorem ss_fz (i : Nat) {t : TS} {g : DS → Fl} (h : SS K W t g) : SS K W t (cFz i g) := fun B0 H0 δ σ B H E rel hp => by
  obtain ⟨B', s, r⟩ := rel.fz i
  exact h B0 H0 _ σ B' H E r (postS_mono s hp)
theorem cs_fz (i : Nat) {s : Stmt} {t : TS} {g : DS → Fl} (h : CS X W s t g) : CS X W s t (cFz i g) := ⟨h.ps, ss_fz i h.ss⟩
noncomputable def NK.noTp : NK → Bool
  | .tp => false
  | _ => true
mutual
noncomputable def T.noTp : T → Bool
  | .im _ => true
  | .nd k ts => k.noTp && T.noTpA ts
noncomputable def T.noTpA : List T → Bool
  | [] => true
  | t :: ts => t.noTp && T.noTpA ts
end
theorem cell_noTp {H : Hp} {k : NK} {p : Addr} {vs : List V} {fp : List Addr} (h : cell K H p vs fp k) (hk : k.noTp = true) : ∀ q ∈ fp, ∃ u, H q = some u ∧ ¬ TK u := by
  have no : ∀ u : HO, (∀ xs, u ≠ .tup xs) → (∀ o xs, u ≠ .frz o (.tup xs)) → ¬ TK u := fun u h1 h2 z => by
    rcases z with ⟨xs, z⟩ | ⟨o, xs, z⟩
    · exact h1 xs z
    · exact h2 o xs z
  cases k with
  | ls => obtain ⟨h, rfl⟩ := h; intro q hq; rw [List.mem_singleton.mp hq]; exact ⟨_, h, no _ (fun _ z => by cases z) (fun _ _ z => by cases z)⟩
  | tp => cases hk
  | dc ks => obtain ⟨us, h, _, _, rfl⟩ := h; intro q hq; rw [List.mem_singleton.mp hq]; exact ⟨_, h, no _ (fun _ z => by cases z) (fun _ _ z => by cases z)⟩
  | dt ks => obtain ⟨o, us, h, _, _, rfl⟩ := h; intro q hq; rw [List.mem_singleton.mp hq]; exact ⟨_, h, no _ (fun _ z => by cases z) (fun _ _ z => by cases z)⟩
  | ob c ns =>
    obtain ⟨C, dx, fs, h1, h2, _, _, _, rfl⟩ := h
    intro q hq
    rcases List.mem_cons.mp hq with rfl | hq
    · exact ⟨_, h1, no _ (fun _ z => by cases z) (fun _ _ z => by cases z)⟩
    · rw [List.mem_singleton.mp hq]; exact ⟨_, h2, no _ (fun _ z => by cases z) (fun _ _ z => by cases z)⟩
mutual
theorem RT.noTp {B H : Hp} : ∀ (t : T) (v : V), RT K B H t v → t.noTp = true → ∀ q, FT K H t v q → ∃ u, H q = some u ∧ ¬ TK u
  | .im d, v, _, _, q, h => by rw [FT] at h; exact h.elim
  | .nd k ts, v, h, hn, q, hq => by
    rw [RT] at h
    obtain ⟨p, vs, fp, rfl, hc, hr, _⟩ := h
    rw [T.noTp, Bool.and_eq_true] at hn
    rw [FT] at hq
    obtain ⟨p', vs', fp', z, hc2, hq⟩ := hq
    cases z
    obtain ⟨rfl, rfl⟩ := cell_one hc hc2
    rcases hq with hq | hq
    · exact cell_noTp hc hn.1 q hq
    · exact RTA.noTp ts _ hr hn.2 q hq
theorem RTA.noTp {B H : Hp} : ∀ (ts : List T) (vs : List V), RTA K B H ts vs → T.noTpA ts = true → ∀ q, FTA K H ts vs q → ∃ u, H q = some u ∧ ¬ TK u
  | [], _, _, _, q, h => by rw [FTA] at h; exact h.elim
  | _ :: _, [], h, _, _, _ => by rw [RTA] at h; exact h.elim
  | t :: ts, v :: vs, h, hn, q, hq => by
    rw [RTA] at h
    rw [T.noTpA, Bool.and_eq_true] at hn
    rw [FTA] at hq
    rcases hq with hq | hq
    · exact RT.noTp t v h.1 hn.1 q hq
    · exact RTA.noTp ts vs h.2.1 hn.2 q hq
end
noncomputable def fzq (i : Nat) (δ : DS) : DS := match δ[i]? with
  | some (some (.ow ds)) => δ.set i (some (.im (.lst ds)))
  | some (some (.tr m k ts)) => if (T.nd k ts).noTp = true then δ.set i (some (.im (T.nd k ts).d)) else δ
  | _ => δ
theorem Rel.fzT {B0 : Hp} {H0 : Org} {B H : Hp} {σ : L2.St} {δ : DS} {m : Bool} {k : NK} {ts : List T} {i : Nat} {v : V} (r : Rel K B0 H0 B H σ δ) (e : δ[i]? = some (some (.tr m k ts))) (es : σ[i]? = some (some v)) (hn : ∀ q, FT K H (.nd k ts) v q → ∃ u, H q = some u ∧ ¬ TK u) :
    ∀ a u, fzH B H (FT K H (.nd k ts) v) a = some u → B a = some u ∨ (H a = some u ∧ Kind u ∧ ¬ TK u) := fun a u q => by
  obtain ⟨v', h1, hsr⟩ := r.sl i _ e
  rw [es] at h1
  cases h1
  unfold fzH at q
  split at q
  · rename_i hf
    obtain ⟨_, _, u', hu, kd⟩ := hsr.new a hf
    obtain ⟨u2, hu2, nt⟩ := hn a hf
    rw [q] at hu hu2
    cases hu
    cases hu2
    exact .inr ⟨q, kd, nt⟩
  · exact .inl q
theorem Rel.fzq {B0 : Hp} {H0 : Org} {B H : Hp} {σ : L2.St} {δ : DS} (r : Rel K B0 H0 B H σ δ) (i : Nat) : ∃ B', Same B B' ∧ Rel K B0 H0 B' H σ (fzq i δ) ∧ ∀ a u, B' a = some u → B a = some u ∨ (H a = some u ∧ Kind u ∧ ¬ TK u) := by
  unfold DV.fzq
  split
  · rename_i ds e
    obtain ⟨v, h1, p, vs, rfl, h0, hb, hh, q⟩ := r.sl i _ e
    obtain ⟨sb, r'⟩ := r.freezeG (ho := .lst vs) (d := .lst ds) e rfl h1 (upd_self hh).symm (kind_lst _).pln (.lst (SqL.of upd_same) (RpA.mono (same_new hb) q))
    refine ⟨_, sb, r', fun a u z => ?_⟩
    by_cases ha : a = p
    · subst ha; rw [upd_same] at z; cases z; exact .inr ⟨hh, kind_lst _, fun z => by rcases z with ⟨_, z⟩ | ⟨_, _, z⟩ <;> cases z⟩
    · rw [upd_ne ha] at z; exact .inl z
  · rename_i k ts e
    split
    · rename_i hn
      obtain ⟨v, h1, hsr⟩ := r.sl i _ e
      obtain ⟨s, r'⟩ := r.freezeT e h1
      exact ⟨_, s, r', r.fzT e h1 fun q hq => RT.noTp _ _ hsr.1 hn q hq⟩
    · exact ⟨B, Same.refl _, r, fun a u z => .inl z⟩
  · exact ⟨B, Same.refl _, r, fun a u z => .inl z⟩
noncomputable def cLookT (i : Nat) (f : DS → Res Bool) : DS → Res Bool := fun δ => (f (fzq i δ)).calm
theorem st_look (i : Nat) {t : TT} {f : DS → Res Bool} (h : ST K W t f) : ST K W t (cLookT i f) := fun B0 H0 δ σ B H Q rel hp => by
  obtain ⟨B', s, r, new⟩ := rel.fzq i
  refine h B0 H0 _ σ B' H Q r ?_
  unfold cLookT at hp
  cases e : f (fzq i δ) with
  | no => rw [e] at hp; exact hp
  | er x => rw [e] at hp; exact hp.elim
  | ok b =>
    rw [e] at hp
    intro B2 H2 g
    obtain ⟨g3, _⟩ := Grow.unlendT rel.g.i (rel.g.tb rel.nt).nt s new g
    exact hp _ H2 g3
theorem ct_look (i : Nat) {e : Expr} {t : TT} {f : DS → Res Bool} (h : CT X W e t f) : CT X W e t (cLookT i f) := ⟨h.pt, st_look i h.st⟩
noncomputable def forF (b : D → DS → Option DS) (g : DS → Fl) : List D → DS → Fl
  | [], δ => .nx δ
  | d :: ds, δ => match b d δ with
    | none => .no
    | some δ' => match g δ' with
      | .nx δ2 => forF b g ds δ2
      | .ct δ2 => forF b g ds δ2
      | .bk δ2 => .nx δ2
      | .rt d => .rt d
      | .rf es => .rf es
      | .rn t => .rn t
      | .ro d δ2 => .ro d δ2
      | .rs x δ2 => .rs x δ2
      | .no => .no
noncomputable def cFor (fi : DS → Res (List D)) (b : D → DS → Option DS) (g : DS → Fl) : DS → Fl := fun δ => stE (fi δ) δ fun ds => forF b g ds δ
theorem cs_for {tg iter : Expr} {body : List Stmt} {pos : Pos} {wi : TI} {g : TG} {tb : TS} {fi : DS → Res (List D)} {is : List Nat} {b : D → DS → Option DS} {gb : DS → Fl} (hp : PassesOwn (model X.prog X.w) X.A X.env X.xe) (hc : X.calm = true) (hi : CI X W tg iter wi fi) (hg : CG X tg g is b) (hb : CSs X W body tb gb)
    (hs : ∀ x, foldedSetIterable iter X.env x = pure x := by intro _; rfl) : CS X W (.For tg iter body [] pos) (tFor wi g tb) (cFor fi b gb) :=
  ⟨ps_for hp hc hi.pi hg.pg hb.ps hs, fun B0 H0 δ σ B H E rel hq => by
    unfold cFor at hq
    refine hi.si B0 H0 δ σ B H _ rel ?_
    cases e : fi δ with
    | no => rw [e] at hq; exact hq
    | er x => rw [e] at hq; exact fun c dx B' H' g rp => hq c dx σ B' H' g.b (rel.mono g) rp
    | ok ds =>
      rw [e, stE_ok] at hq
      intro J B1 H1 G Y g1 wk hG hY
      refine for_it wk (fun i σ' H' => ∃ B' δ', Same B1 B' ∧ Rel X.K B0 H0 B' H' σ' δ' ∧ PostS X.K B0 H0 B' W E (forF b gb (ds.drop i) δ')) ?_ ?_ ?_ ?_
      · exact ⟨B1, δ, Same.refl _, rel.mono g1, postS_mono g1.b hq⟩
      · rintro i σ' H' hin ⟨B', δ', s', r', _⟩
        exact hG H' (s'.trans r'.g.i)
      · rintro i x σ' H2 H3 hin ⟨B', δ', s', r', q'⟩ y
        have hlt : i < ds.length := hin
        have hdi : ds[i]? = some ds[i] := by simp [hlt]
        obtain ⟨B3, g3, rx⟩ := hY i ds[i] B' H2 x H3 hdi s' r'.g.i y
        rw [List.drop_eq_getElem_cons hlt] at q'
        unfold forF at q'
        cases e3 : b ds[i] δ' with
        | none => rw [e3] at q'; exact q'.elim
        | some δ2 =>
          rw [e3] at q'
          dsimp only at q'
          refine hg.sg B0 H0 B3 H3 σ' δ' x ds[i] _ (r'.mono g3) rx (fun δ4 σ4 e4 r4 _ _ => ?_) (by rw [e3]; simp)
          rw [e3] at e4
          cases e4
          refine hb.ss B0 H0 δ2 σ4 B3 H3 _ r4 ?_
          cases e5 : gb δ2 with
          | nx δ5 => rw [e5] at q'; exact fun σ5 B5 H5 s5 r5 => ⟨B5, δ5, (s'.trans g3.b).trans s5, r5, postS_mono (g3.b.trans s5) q'⟩
          | ct δ5 => rw [e5] at q'; exact fun σ5 B5 H5 s5 r5 => ⟨B5, δ5, (s'.trans g3.b).trans s5, r5, postS_mono (g3.b.trans s5) q'⟩
          | bk δ5 => rw [e5] at q'; exact postS_mono g3.b q'
          | rt d => rw [e5] at q'; exact postS_mono g3.b q'
          | rf d => rw [e5] at q'; exact postS_mono g3.b q'
          | rn d => rw [e5] at q'; exact postS_mono g3.b q'
          | ro d δ5 => rw [e5] at q'; exact postS_mono g3.b q'
          | rs x δ5 => rw [e5] at q'; exact postS_mono g3.b q'
          | no => rw [e5] at q'; exact q'
      · rintro σ' H' ⟨B', δ', s', r', q'⟩
        rw [List.drop_length] at q'
        exact q' σ' B' H' (Same.refl _) r'⟩
end
end DV
namespace DV
open PySem L2
noncomputable def PostD (K : PySem.W.Frag) (B H : Hp) (Q : VK) (E : XK) : Res D → Prop
  | .ok d => ∀ v B' H', Grow K B H B' H' → Rp K B' v d → Q v H'
  | .er x => ∀ c dx B' H', Grow K B H B' H' → RpX K B' c dx x → E c dx H'
  | .no => False
noncomputable def spD (K : PySem.W.Frag) (n : Nat) (F : List D → Res D) : Sp := fun vs H Q E => vs.length = n ∧ ∃ ds B, Same B H ∧ RpA K B vs ds ∧ ((∀ p ∈ tabsOf K, NdefX.TabN H p lamAt) ∧ TB K B H) ∧ PostD K B H Q E (F ds)
noncomputable def flR : Fl → Res D
  | .rt d => .ok d
  | .rf ds => .ok (.lst ds)
  | .ro d _ => .ok d
  | .nx _ => .ok .non
  | .rs x _ => .er x
  | _ => .no
@[simp] theorem flR_rt (d : D) : flR (.rt d) = .ok d := rfl
@[simp] theorem flR_nx (δ : DS) : flR (.nx δ) = .ok .non := rfl
@[simp] theorem flR_rs (x : Exn) (δ : DS) : flR (.rs x δ) = .er x := rfl
@[simp] theorem flR_no : flR .no = .no := rfl
noncomputable def st0 (m : Nat) (ds : List D) : DS := ds.map (fun d => some (.im d)) ++ List.replicate m none
noncomputable def defF (m : Nat) (g : DS → Fl) : List D → Res D := fun ds => flR (g (st0 m ds))
theorem rel0 {K : PySem.W.Frag} {B H : Hp} {N : List Str} {vs : List V} {ds : List D} (i : Same B H) (r : RpA K B vs ds) (tb : (∀ p ∈ tabsOf K, NdefX.TabN H p lamAt) ∧ TB K B H) : Rel K B (.of H) B H (L2.start N vs) (st0 (N.length - vs.length) ds) := by
  refine ⟨Grow.refl i, tb.1, tb.2, ?_, fun j o e => ?_, fun j k o o' w w' hjk e1 e2 e3 e4 q f1 => ?_⟩
  · simp [L2.start, st0, r.length]
  · unfold st0 at e
    by_cases hj : j < ds.length
    · rw [List.getElem?_append_left (by simpa using hj), List.getElem?_map] at e
      cases q : ds[j]? with
      | none => rw [q] at e; cases e
      | some d =>
        rw [q] at e
        cases e
        obtain ⟨v, h1, h2⟩ := r.get q
        refine ⟨v, ?_, h2⟩
        unfold L2.start
        rw [List.getElem?_append_left (by rw [List.length_map, r.length]; exact hj), List.getElem?_map, h1]
        rfl
    · rw [List.getElem?_append_right (by simpa using hj), List.getElem?_replicate] at e
      split at e <;> cases e
  · unfold st0 at e1
    by_cases hj : j < ds.length
    · rw [List.getElem?_append_left (by simpa using hj), List.getElem?_map] at e1
      cases q : ds[j]? with
      | none => rw [q] at e1; cases e1
      | some d => rw [q] at e1; cases e1; exact f1.elim
    · rw [List.getElem?_append_right (by simpa using hj), List.getElem?_replicate] at e1
      split at e1 <;> cases e1
theorem Grow.keep {K : PySem.W.Frag} {B H B' H' : Hp} (g : Grow K B H B' H') {p : Addr} {xs : List V} (h0 : H p = none) (hb : B' p = none) (hh : H' p = some (.lst xs)) : Grow K B H (upd B' p (.lst xs)) H' :=
  ⟨g.b.trans (same_new hb), g.h, fun a o q => by
    by_cases hap : a = p
    · subst hap; rw [upd_same] at q; cases q; exact hh
    · rw [upd_ne hap] at q; exact g.i a o q, fun a ha => by have hap : a ≠ p := fun z => ha (by rw [z]; exact h0); rw [upd_ne hap]; exact g.f a ha, g.e, g.t, fun τ h => by
    obtain ⟨τ', e, h'⟩ := g.n τ h
    exact ⟨τ', e, h'.grow (same_new hb) (upd_new (kind_lst _).pln) fun _ _ _ q => q⟩⟩
noncomputable abbrev Wof (E : XK) : WX := fun c d _ H => E c d H
theorem ss_def {K : PySem.W.Frag} {t : TS} {g : DS → Fl} {E : XK} {N : List Str} {vs : List V} {ds : List D} {B H : Hp} {Q : VK} (h : SS K (Wof E) t g) (i : Same B H) (r : RpA K B vs ds) (tb : (∀ p ∈ tabsOf K, NdefX.TabN H p lamAt) ∧ TB K B H) (hp : PostD K B H Q E (defF (N.length - vs.length) g ds)) :
    t { nx := fun _ H' => Q .non H', rt := Q } (L2.start N vs) H := by
  refine h B (.of H) _ _ B H _ (rel0 i r tb) ?_
  unfold defF at hp
  cases e : g (st0 (N.length - vs.length) ds) with
  | nx δ => rw [e] at hp; exact fun σ B' H' s rel => hp .non B' H' rel.g (.v _)
  | rt d => rw [e] at hp; exact fun v B' H' s gr rp => hp v B' H' gr rp
  | rf es => rw [e] at hp; exact fun p xs B' H' s gr h0 hb hh rr => hp (.ref p) (upd B' p (.lst xs)) H' (gr.keep h0 hb hh) (.lst (SqL.of upd_same) (rr.mono (same_new hb)))
  | rn t => rw [e] at hp; exact hp.elim
  | ro d δ => rw [e] at hp; exact fun v σ B' H' s rel rp => hp v B' H' rel.g rp
  | rs x δ => rw [e] at hp; exact fun c dx σ B' H' s rel rp => hp c dx B' H' rel.g rp
  | bk δ => rw [e] at hp; exact hp.elim
  | ct δ => rw [e] at hp; exact hp.elim
  | no => rw [e] at hp; exact hp
section
variable {P : Program} {w : World} {K : PySem.W.Frag} {mg : Str → Option Value} {base : Heap}
theorem def_ok {x qual : Str} {st : Stmt} {f : Addr} {fd : FuncData} {N ps : List Str} {k m : Nat} {g : DS → Fl} (F : Fun K x qual st f fd) (S : FnScope N ps (defScope st)) (hm : N.length - ps.length = m)
    (hbody : ∀ (cdv : Value) (A : Around) (outer : List Env) (s : Shared) (H : Hp) (E : XK), Room k (A.deeper (PyProof.Rows.envOfC qual (defScope st) s.heap.objs.size f cdv)) → Takes (cxOf (L2.CX P w) P w K mg base N qual (defScope st) f cdv A outer s H E) (Wof E) →
      PassesOwn (model P w) (A.deeper (PyProof.Rows.envOfC qual (defScope st) s.heap.objs.size f cdv)) (PyProof.Rows.envOfC qual (defScope st) s.heap.objs.size f cdv) (cxOf (L2.CX P w) P w K mg base N qual (defScope st) f cdv A outer s H E).xe → (A.deeper (PyProof.Rows.envOfC qual (defScope st) s.heap.objs.size f cdv)).units + 64 < cLine → ∃ t, CSs (cxOf (L2.CX P w) P w K mg base N qual (defScope st) f cdv A outer s H E) (Wof E) (defBody st) t g) : FnOk P w K mg base (L2.CX P w) (k + 1) f fd ps (spD K ps.length (defF m g)) := by
  refine F.okX S (fun vs H Q E h => h.1) fun cdv A outer s H vs Q E hr h => ?_
  obtain ⟨hl, ds, B, i, r, tb, hp⟩ := h
  obtain ⟨t, ht⟩ := hbody cdv A outer s H E hr (takes_of rfl rfl rfl rfl) (passes_of (X := cxOf (L2.CX P w) P w K mg base N qual _ f cdv A outer s H E) rfl) hr.units
  exact ⟨t, ht.ps, ss_def (N := N) ht.ss i r tb (by rw [hl, hm]; exact hp)⟩
end
section
variable {X : Cx} {W : WX} {K : PySem.W.Frag}
noncomputable def cFn (F : List D → Res D) (dd : List D) (f : DS → Res (List D)) : DS → Res D := fun δ => (f δ).bind fun ds => F (ds ++ dd)
theorem se_fn {n : Nat} {F : List D → Res D} {dd : List D} {dvs : List V} {t : TA} {f : DS → Res (List D)} (hl : ∀ δ ds, f δ = .ok ds → ds.length + dd.length = n) (hd : ∀ B, RpA K B dvs dd) (h : SA K W t f) : SE K W (tCallSD (spD K n F) dvs (WE W) t) (cFn F dd f) := fun B0 H0 δ σ B H Q rel hp => by
  unfold cFn at hp
  refine h B0 H0 δ σ B H _ rel ?_
  cases e : f δ with
  | no => rw [e] at hp; exact hp
  | er x => rw [e] at hp; exact hp
  | ok ds =>
    rw [e, Res.bind_ok] at hp
    intro vs B1 H1 g1 r1
    refine ⟨?_, ds ++ dd, B1, g1.i, r1.append (hd B1), ⟨fun p hp' => g1.t p (rel.g.t p (rel.tk p hp')), g1.tb (rel.g.tb rel.nt)⟩, ?_⟩
    · rw [List.length_append, r1.length, (hd B1).length]
      exact hl δ ds e
    · cases e2 : F (ds ++ dd) with
      | no => rw [e2] at hp; exact hp
      | er x => rw [e2] at hp; exact fun c dx B' H' g' rp => hp c dx B' H' (g1.trans g') rp
      | ok z => rw [e2] at hp; exact fun v B' H' g' rp => hp v B' H' (g1.trans g') rp
theorem q_ce_fn {k n : Nat} {f : Addr} {fd : FuncData} {ps : List Str} {F : List D → Res D} {dd : List D} {dvs : List V} {ds : List Value} {x : Str} {p pos : Pos} {e : Expr} {es : List Expr} {t : TA} {fa : DS → Res (List D)}
    (G : FnOk X.prog X.w X.K X.mg X.base (L2.CX X.prog X.w) k f fd ps (spD X.K n F)) (hr : Room k X.A) (hm : X.mg x = some (.ref f)) (hk : PySem.W.keepIn X.K (.ref f) = true) (hb : Binds X.K fd ps ds) (hd : Vals dvs ds) (hdd : ∀ B, RpA X.K B dvs dd) (tk : Takes X W)
    (ha : CL X W (e :: es) t fa) (hn : (e :: es).length + dd.length = n := by rfl) (hg : Gl X x := by rfl) (hdb : (x == ("__debug__" : Str)) = false := by decide) (he : starEach (e :: es) X.env = (false, eval e X.env) :: starEach es X.env := by rfl) (hpl : (backTo pos (starEach es X.env)).any (·.1) = false := by rfl) :
    CE X W (.Call (.Name x p) (e :: es) [] pos) (tCallSD (spD X.K n F) dvs (WE W) t) (cFn F dd fa) :=
  ⟨pe_callSD G hr hg hm hk hb hd (fun σ => passAt tk σ) ha.pa hdb he hpl, se_fn (fun δ ds h => by rw [ha.ln δ ds h]; exact hn) hdd ha.sa⟩
noncomputable def cFn0 (F : List D → Res D) (f : DS → Res (List D)) : DS → Res D := fun δ => (f δ).bind F
theorem q_ce_f {k n : Nat} {f : Addr} {fd : FuncData} {ps : List Str} {F : List D → Res D} {x : Str} {p pos : Pos} {e : Expr} {es : List Expr} {t : TA} {fa : DS → Res (List D)}
    (G : FnOk X.prog X.w X.K X.mg X.base (L2.CX X.prog X.w) k f fd ps (spD X.K n F)) (hr : Room k X.A) (hm : X.mg x = some (.ref f)) (hk : PySem.W.keepIn X.K (.ref f) = true) (hb : Binds X.K fd ps []) (tk : Takes X W)
    (ha : CL X W (e :: es) t fa) (hn : (e :: es).length = n := by rfl) (hg : Gl X x := by rfl) (hdb : (x == ("__debug__" : Str)) = false := by decide) (he : starEach (e :: es) X.env = (false, eval e X.env) :: starEach es X.env := by rfl) (hpl : (backTo pos (starEach es X.env)).any (·.1) = false := by rfl) :
    CE X W (.Call (.Name x p) (e :: es) [] pos) (tCallSD (spD X.K n F) [] (WE W) t) (cFn0 F fa) := by
  have h := q_ce_fn (dd := []) (p := p) (pos := pos) G hr hm hk hb .nil (fun _ => .nil) tk ha hn hg hdb he hpl
  refine ⟨h.pe, ?_⟩
  have e0 : cFn F [] fa = cFn0 F fa := by
    funext δ
    simp [cFn, cFn0]
  rw [← e0]
  exact h.se
theorem ce_f (K : PySem.W.Frag) (hK : X.K = K) {k n : Nat} {f : Addr} {fd : FuncData} {ps : List Str} {F : List D → Res D} {x : Str} {p pos : Pos} {e : Expr} {es : List Expr} {t : TA} {fa : DS → Res (List D)}
    (G : FnOk X.prog X.w K X.mg X.base (L2.CX X.prog X.w) k f fd ps (spD K n F)) (hr : Room k X.A) (hm : X.mg x = some (.ref f)) (hk : PySem.W.keepIn K (.ref f) = true) (hb : Binds K fd ps []) (tk : Takes X W)
    (ha : CL X W (e :: es) t fa) (hn : (e :: es).length = n := by rfl) (hg : Gl X x := by rfl) (hdb : (x == ("__debug__" : Str)) = false := by decide) (he : starEach (e :: es) X.env = (false, eval e X.env) :: starEach es X.env := by rfl) (hpl : (backTo pos (starEach es X.env)).any (·.1) = false := by rfl) :
    CE X W (.Call (.Name x p) (e :: es) [] pos) (tCallSD (spD K n F) [] (WE W) t) (cFn0 F fa) := by
  subst hK
  exact (q_ce_f G hr hm hk hb tk ha hn hg hdb he hpl)
end
open Classical in
noncomputable def lawB (H : Hp) : Hp := fun b => match H b with
  | some o => if Pln o then some o else none
  | none => none
theorem lawB_of {H : Hp} {b : Addr} {o : HO} (h : H b = some o) (p : Pln o) : lawB H b = some o := by unfold lawB; rw [h]; exact if_pos p
theorem lawB_some {H : Hp} {b : Addr} {o : HO} (h : lawB H b = some o) : H b = some o ∧ Pln o := by
  unfold lawB at h
  split at h
  · split at h
    · rename_i e p; cases h; exact ⟨e, p⟩
    · cases h
  · cases h
theorem spD_law {K : PySem.W.Frag} {H : Hp} {a : Addr} {ns : List Int} {F : List D → Res D} (hS : SqL K H a (ns.map V.int)) (tb : ∀ p ∈ tabsOf K, NdefX.TabN H p lamAt) (h : F [.lst (ns.map D.int)] = .ok (.bl true)) : spD K 1 F [.ref a] H (fun v _ => v = .bl true) (fun _ _ _ => False) := by
  have hS' : SqL K (lawB H) a (ns.map V.int) := by
    rcases hS with (h | ⟨o, h⟩) | h
    · exact .inl (.inl (lawB_of h (kind_lst _).pln))
    · exact .inl (.inr ⟨o, lawB_of h ⟨⟨fun _ z => (by cases z), fun _ _ _ z => (by cases z)⟩, fun _ _ _ _ z => (by cases z)⟩⟩)
    · exact .inr h
  refine ⟨rfl, [.lst (ns.map D.int)], lawB H, fun b o e => (lawB_some e).1, .cons (.lst hS' (RpA.ints ns)) .nil, ⟨tb, fun _ => (.non, .non), fun b o e => (lawB_some e).2.1, fun x o C dx fs q => absurd rfl ((lawB_some q).2.2 o C dx fs)⟩, ?_⟩
  rw [h]
  intro v B' H' g rp
  cases rp
  rfl
theorem cx_false {P : Program} {w : World} (H : Hp) (s : Shared) (e : Value) (s' : Shared) (h : L2.CX P w [] H s (fun _ _ _ => False) e s') : False := by
  obtain ⟨_, _, _, _, _, _, _, _, _, _, _, _, z⟩ := h
  exact z
end DV
namespace DV
open PySem PySem.Spec PyProof.Rows L2
theorem rev_places (n : Nat) : Builtin.Slice.sliceAdjust none none (-1) (n : Int) = ((n : Int) - 1, -1) := by
  unfold Builtin.Slice.sliceAdjust
  have h1 : ((-1 : Int) < 0) := by omega
  simp only [h1, if_true]
theorem rev_count (n : Nat) : Builtin.Slice.slicePlaces ((n : Int) - 1) (-1) (-1) = n := by
  unfold Builtin.Slice.slicePlaces
  have h1 : ¬ ((-1 : Int) > 0) := by omega
  simp only [h1, if_false, Int.neg_neg, Int.ediv_one]
  split <;> omega
theorem fm_congr {α β : Type} {f g : α → Option β} : ∀ {l : List α}, (∀ a ∈ l, f a = g a) → l.filterMap f = l.filterMap g
  | [], _ => rfl
  | a :: l, h => by
    rw [List.filterMap_cons, List.filterMap_cons, h a (by simp), fm_congr fun b hb => h b (by simp [hb])]
theorem rev_pick (xs : Array Value) : ((List.range xs.size).filterMap fun (m : Nat) => xs[(((xs.size : Nat) : Int) - 1 + (m : Int) * (-1)).toNat]?).toArray = xs.toList.reverse.toArray := by
  congr 1
  have e : (List.range xs.size).filterMap (fun (m : Nat) => xs[(((xs.size : Nat) : Int) - 1 + (m : Int) * (-1)).toNat]?) = (List.range xs.size).filterMap (fun m => xs.toList.reverse[m]?) := by
    refine fm_congr fun m hm => ?_
    have hm' : m < xs.size := List.mem_range.mp hm
    have e1 : (((xs.size : Nat) : Int) - 1 + (m : Int) * (-1)).toNat = xs.size - 1 - m := by omega
    rw [e1, List.getElem?_reverse (by simpa using hm'), Array.getElem?_toList]
    simp
  rw [e]
  have : ∀ l : List Value, (List.range l.length).filterMap (fun m => l[m]?) = l := by
    intro l
    induction l with
    | nil => rfl
    | cons a l ih =>
      rw [List.length_cons, List.range_succ_eq_map, List.filterMap_cons, List.filterMap_map]
      simp only [List.getElem?_cons_zero]
      congr 1
  have h2 := this xs.toList.reverse
  rw [List.length_reverse, Array.length_toList] at h2
  exact h2
section
variable {prog : Program} {w : World} {A : Around} {E : Value → Shared → Prop} {s : Shared}
theorem getItem_tuple_rev {t sl : Addr} {items : Array Value} {vl vu vs : Value} {Q : Value → Shared → Prop} (ht : IsTup s.heap t items) (hs : s.heap.IsSliceOf sl vl vu vs) (pl : IsPart vl none) (pu : IsPart vu none) (ps : IsPart vs (some (-1)))
    (h : Q (.ref s.heap.objs.size) { s with heap := s.heap.push { cls := .type "tuple", data := .seq items.toList.reverse.toArray } })
    (hsz : items.size ≤ sizeLine) : wpAny (model prog w) A (getItem (.ref t) (.ref sl)) Q E s := by
  have htake : sizeOk (.seq items.toList.reverse.toArray) := by
    show (items.toList.reverse.toArray).size ≤ sizeLine
    simpa using hsz
  obtain ⟨os, hos, hcs, hds⟩ := id hs
  have hTs : s.TypeIs (.ref sl) "slice" := ⟨os, hos, hcs⟩
  unfold getItem
  try with_reducible refine wpAny_holding ?_
  first | refine wpAny_bind (wpAny_pure ?_) | skip
  refine wpAny_bind (wpAny_sequenceKey ht.typeIs (by decide) ?_)
  refine wpAny_bind (wpAny_callSpecial?_slot (name := Str.ofString "__getitem__") ht.typeIs slot_tuple_getitem
    (wpAny_call_entry slot_tuple_getitem ht.typeIs entry_tuple_getitem ?_ (args_tuple_getitem _ _)))
  show wpAny _ _ (Builtin.Tuple.tupleItemsOf (.ref t) >>= _) _ _ s
  refine wpAny_bind (tupleItemsOf_ ht ?_)
  refine wpAny_bind (wpAny_typeOf hTs ?_)
  rw [if_pos (by decide)]
  refine wpAny_bind ?_
  unfold Builtin.Slice.sliceApplied Builtin.Slice.sliceFields
  refine wpAny_bind (wpAny_bind (wpAny_field hos hds (x := vl) rfl (wpAny_bind (wpAny_field hos hds (x := vu) rfl (wpAny_bind (wpAny_field hos hds (x := vs) rfl (wpAny_pure ?_)))))))
  refine wpAny_bind (HT.slicePart_ ps ?_)
  show wpAny _ _ (if ((-1 : Int) == 0) = true then _ else _) _ _ s
  rw [if_neg (by decide)]
  refine wpAny_bind (HT.slicePart_ pl (wpAny_bind (HT.slicePart_ pu (wpAny_bind (wpAny_pure ?_)))))
  show wpAny _ _ (match Builtin.Slice.sliceAdjust none none (-1) (items.size : Int) with | (lo, hi) => pure (lo, (-1 : Int), Builtin.Slice.slicePlaces lo hi (-1))) _ _ s
  rw [rev_places]
  show wpAny _ _ (pure ((items.size : Int) - 1, (-1 : Int), Builtin.Slice.slicePlaces ((items.size : Int) - 1) (-1) (-1))) _ _ s
  rw [rev_count]
  refine wpAny_pure ?_
  have hno : ¬ (((items.size : Int) - 1 == 0 && (-1 : Int) == 1 && items.size == items.size) = true) := by simp
  show wpAny _ _ (if ((items.size : Int) - 1 == 0 && (-1 : Int) == 1 && items.size == items.size) = true then _ else _) _ _ s
  rw [if_neg hno, rev_pick]
  first
    | exact wpAny_bind (m := Builtin.Tuple.tupleExact _) (wpAny_newObj_type (wpAny_pure ⟨_, rfl, wpAny_pure h⟩) htake)
    | exact wpAny_bind (m := Builtin.Tuple.tupleExact _) (wpAny_newObj_type (wpAny_bind (wpAny_pure (wpAny_pure ⟨_, rfl, wpAny_pure h⟩))) htake)
    | exact wpAny_bind (wpAny_bind (m := Builtin.Tuple.tupleExact _) (wpAny_newObj_type (wpAny_pure (wpAny_pure ⟨_, rfl, wpAny_pure h⟩)) htake))
    | exact wpAny_bind (wpAny_bind (m := Builtin.Tuple.tupleExact _) (wpAny_newObj_type (wpAny_pure ⟨_, rfl, wpAny_pure h⟩) htake))
end
section
variable {X : Cx} {W : WX} {K : PySem.W.Frag}
noncomputable def tRevT (K : PySem.W.Frag) (te : TE) : TE := fun σ H Q => te σ H fun x H1 => ∃ a xs, x = .ref a ∧ SqT K H1 a xs ∧ ∀ p, H1 p = none → Q (.ref p) (upd H1 p (.tup xs.reverse))
theorem pe_revT {e : Expr} {te : TE} {k : Nat} {p1 p2 p3 pos : Pos} (he : PE X e te) : PE X (.Subscript e (.Slice none none (some (.UnaryOp .USub (.Constant (.int 1) k p1) p2)) p3) pos) (tRevT X.K te) := by
  constructor
  intro pins s σ H Q I h
  refine Subscript_ (thn (he.run pins s σ H _ I h) fun v s1 ⟨x, H1, I1, r1, q1⟩ => ?_)
  obtain ⟨a, xs, rfl, hx, q⟩ := q1
  cases r1
  have hst : PO X (some (.UnaryOp .USub (.Constant (.int 1) k p1) p2)) (tPart (tUn (rU fun i => .int (-i)) (tC (.int 1)))) := po_some (pe_un un_neg pe_int)
  refine wpAny_Slice (thn (po_none.run pins s1 σ H1 (fun o H2 => o = none ∧ H2 = H1) I1 ⟨rfl, rfl⟩) fun vl s2 h2 => ?_)
  obtain ⟨l, H2, I2, pl, rfl, rfl⟩ := h2
  refine thn (po_none.run pins s2 σ H2 (fun o H3 => o = none ∧ H3 = H2) I2 ⟨rfl, rfl⟩) fun vu s3 h3 => ?_
  obtain ⟨u, H3, I3, pu, rfl, rfl⟩ := h3
  refine thn (hst.run pins s3 σ H3 (fun o H4 => o = some (-1) ∧ H4 = H3) I3 ⟨1, rfl, -1, rfl, rfl, rfl⟩) fun vs s4 h4 => ?_
  obtain ⟨o, H4, I4, ps, rfl, rfl⟩ := h4
  have I5 : Inv X pins σ H4 { s4 with heap := s4.heap.push { cls := .type "slice", data := .fields #[vl, vu, vs] } } := I4.kept (t' := s4.toks) fun b ob q => Heap.get?_push_of_some _ q
  obtain ⟨its, r, ht, hz⟩ := I5.tuple hx
  have hlen := r.length
  show wpAny (model X.prog X.w) X.A (subscriptTail e (.Slice none none (some (.UnaryOp .USub (.Constant (.int 1) k p1) p2)) p3) (.ref a) (.ref s4.heap.objs.size)) (EP X pins σ Q) X.xe _
  refine tail_any (ops := [.ref a, .ref s4.heap.objs.size]) ht.typeIs slot_tuple_getitem.lookup ?_ (by with_unfolding_all rfl)
  refine getItem_tuple_rev ht (Heap.IsSliceOf.new _ vl vu vs) pl pu ps ?_ (by rw [List.size_toArray]; omega)
  refine ⟨.ref _, _, I5.laid (t' := s4.toks) (o := .tup xs.reverse) (fun b ob q => Heap.get?_push_of_some _ q) (Nat.le_refl _) ?_, rfl, q _ (I5.hok.fresh (Nat.le_refl _))⟩
  exact ⟨by rw [List.length_reverse]; exact hz, _, r.reverse, IsTup.new _ _⟩
noncomputable def oRev : D → Res D
  | .lst xs => .ok (.lst xs.reverse)
  | .tup xs => .ok (.tup xs.reverse)
  | _ => .no
theorem pe_or {e : Expr} {t t' : TE} (h : PE X e t) (h' : PE X e t') : PE X e (fun σ H Q => t σ H Q ∨ t' σ H Q) :=
  ⟨fun pins s σ H Q I q => q.elim (h.run pins s σ H Q I) (h'.run pins s σ H Q I)⟩
theorem q_ce_rev {e : Expr} {k : Nat} {p1 p2 p3 pos : Pos} {te : TE} {f : DS → Res D} (he : CE X W e te f) : CE X W (.Subscript e (.Slice none none (some (.UnaryOp .USub (.Constant (.int 1) k p1) p2)) p3) pos) (fun σ H Q => tRevL X.K te σ H Q ∨ tRevT X.K te σ H Q) (cUn oRev f) :=
  ⟨pe_or (pe_revL he.pe) (pe_revT he.pe), fun B0 H0 δ σ B H Q rel hp => by
    unfold cUn at hp
    cases e : f δ with
    | no => rw [e] at hp; exact hp.elim
    | er x => rw [e] at hp; exact .inl (he.se B0 H0 δ σ B H _ rel (by rw [e]; exact hp))
    | ok d =>
      rw [e, Res.bind_ok] at hp
      unfold oRev at hp
      split at hp
      · refine .inl (he.se B0 H0 δ σ B H _ rel ?_)
        rw [e]
        intro v B1 H1 g1 r1
        cases r1 with
        | lst h1 q => exact ⟨_, _, rfl, g1.i.seq h1, fun p hp' => hp _ _ _ (g1.trans (Grow.new g1.i hp')) (.lst (SqL.of upd_same) (q.reverse.mono (Grow.new (K := X.K) g1.i hp').b))⟩
      · refine .inr (he.se B0 H0 δ σ B H _ rel ?_)
        rw [e]
        intro v B1 H1 g1 r1
        cases r1 with
        | tup h1 q => exact ⟨_, _, rfl, sqT_mono g1.i h1, fun p hp' => hp _ _ _ (g1.trans (Grow.new g1.i hp')) (.tup (SqT.of upd_same) (q.reverse.mono (Grow.new (K := X.K) g1.i hp').b))⟩
      · exact hp.elim⟩
theorem ce_rev (K : PySem.W.Frag) (hK : X.K = K) {e : Expr} {k : Nat} {p1 p2 p3 pos : Pos} {te : TE} {f : DS → Res D} (he : CE X W e te f) : CE X W (.Subscript e (.Slice none none (some (.UnaryOp .USub (.Constant (.int 1) k p1) p2)) p3) pos) (fun σ H Q => tRevL K te σ H Q ∨ tRevT K te σ H Q) (cUn oRev f) := by
  subst hK
  exact (q_ce_rev he)
end
end DV
namespace DV
open PySem L2 PySem.Spec PySem.Calls PyProof.Rows Builtin Builtin.ObjectAttr
structure OexB (K : PySem.W.Frag) (C : Addr) : Prop where
  base : ∃ (B newId initId : String) (bmB : List Value), ExcBaseFacts B newId initId bmB ∧ PySem.StoreFacts B bmB "object.__setattr__" "object" ∧ PySem.W.excInitIn K C bmB newId = true ∧ PySem.W.excOver K C bmB = true
  hd : PySem.W.hasDictIn K C = true
  sa : PySem.W.findIn K (.ref C) "__setattr__" = some (some (.builtin "object.__setattr__"))
  ex : PySem.W.subIn K (.ref C) (.type "BaseException") = some true
  ty : PySem.W.typeIn K (.ref C) = some (.type "type")
  kp : PySem.W.keepIn K (.ref C) = true
section
variable {prog : Program} {w : World} {A : Around} {R : Result → Shared → Prop} {hp : Heap} {g : Array GenState} {d : Drawn} {t : Nat} {os : OsState} {B : String} {bmB : List Value}
theorem taker_none {K : PySem.W.Frag} {C : Addr} {n : Str} (h : PySem.W.findIn K (.ref C) n = some none) : PySem.W.takerIn K C n = some none := by
  unfold PySem.W.takerIn
  rw [h]
  rfl
theorem osaB_new {K : PySem.W.Frag} {n : Str} {tk : Tok} {v : Value} {x C : Addr} {fv : Array Value} (SF : PySem.StoreFacts B bmB "object.__setattr__" "object") (X : K.In hp) (hx : hp.get? x = some { cls := .ref C, data := .fields fv })
    (ho : PySem.W.excOver K C bmB = true) (hh : PySem.W.hasDictIn K C = true) (ha : PySem.W.findIn K (.ref C) n = some none)
    (hq : ∀ h' tk' dx, (∀ b o, b ≠ x → hp.get? b = some o → h'.get? b = some o) → hp.objs.size ≤ dx → dx ≠ x → h'.get? x = some { cls := .ref C, dict := some dx, data := .fields fv } → h'.Ns1 dx (fun y => if y = n then some v else none) → R (.ok (.ret .none)) ⟨h', g, d, tk', os⟩) :
    codeAny (model prog w) A (.call (.builtin "object.__setattr__") ⟨[.ref x, .str n tk, v], []⟩) R ⟨hp, g, d, t, os⟩ := by
  have hxs : x ≠ hp.objs.size := Nat.ne_of_lt (Heap.lt_size hx)
  refine PySem.W.osa_openX (od := none) SF X ⟨hx, rfl, rfl, trivial⟩ ho (taker_none ha) fun b => ?_
  obtain ⟨cd, hc, hd'⟩ := PySem.W.any_some hh
  have hcls : PySem.W.Looks (model prog w) hp (classData C) cd := PySem.W.looks_clsIn X hc
  obtain ⟨nm, bs, mro, ns, qn, hdd, sn, sb, ab, col, del⟩ := cd
  dsimp only at hd'
  subst hd'
  show wpAny _ _ (storeInOwnDict (.ref x) (.ref C) (.str n tk) n v b) _ _ _
  unfold storeInOwnDict ownDictForStores
  repeat (first | with_reducible refine PySem.HandSPX.store_in_new ?_ ?_ | with_reducible refine wpAny_loadPart_at hx ?_ | with_reducible refine hcls.at ?_ | wp_step)
  · exact ⟨_, #[], _, (Heap.get?_update_ne _ _ _ _ hxs.symm).trans (Heap.get?_push_at rfl rfl), rfl, fun e he => absurd he (by simp), fun _ => rfl⟩
  · intro h' tk' hn' hs
    refine hq h' tk' hp.objs.size (fun b o hb q => ?_) (Nat.le_refl _) hxs.symm ?_ hn'
    · exact (hs.2 b (Nat.ne_of_lt (Heap.lt_size q))).trans ((Heap.get?_update_ne _ _ _ _ hb).trans (Heap.get?_push_of_some _ q))
    · exact (hs.2 x hxs).trans (Heap.get?_update_self _ (Heap.get?_push_of_some _ hx) rfl)
theorem osaB_old {K : PySem.W.Frag} {n : Str} {tk : Tok} {v : Value} {x C dx : Addr} {fv : Array Value} {m0 : Str → Option Value} {nl : List Str} (SF : PySem.StoreFacts B bmB "object.__setattr__" "object") (X : K.In hp) (hx : hp.get? x = some { cls := .ref C, dict := some dx, data := .fields fv })
    (hns : hp.Ns1 dx m0) (hw : Within m0 nl) (hz : nl.length ≤ 1000) (ho : PySem.W.excOver K C bmB = true) (hh : PySem.W.hasDictIn K C = true) (ha : PySem.W.findIn K (.ref C) n = some none)
    (hq : ∀ h' tk', (∀ b o, b ≠ dx → hp.get? b = some o → h'.get? b = some o) → h'.Ns1 dx (fun y => if y = n then some v else m0 y) → R (.ok (.ret .none)) ⟨h', g, d, tk', os⟩) :
    codeAny (model prog w) A (.call (.builtin "object.__setattr__") ⟨[.ref x, .str n tk, v], []⟩) R ⟨hp, g, d, t, os⟩ := by
  obtain ⟨oD, esD, epD, hoD, hdD, _⟩ := hns.count hw
  refine PySem.W.osa_openX (od := some oD) SF X ⟨hx, rfl, rfl, hoD⟩ ho (taker_none ha) fun b => ?_
  obtain ⟨cd, hc, hd'⟩ := PySem.W.any_some hh
  have hcls : PySem.W.Looks (model prog w) hp (classData C) cd := PySem.W.looks_clsIn X hc
  obtain ⟨nm, bs, mro, ns, qn, hdd, sn, sb, ab, col, del⟩ := cd
  dsimp only at hd'
  subst hd'
  show wpAny _ _ (storeInOwnDict (.ref x) (.ref C) (.str n tk) n v b) _ _ _
  unfold storeInOwnDict ownDictForStores
  repeat (first | with_reducible refine PySem.OEX.store_in_old hns hw hz ?_ | with_reducible refine wpAny_loadPart_at hx ?_ | with_reducible refine hcls.at ?_ | wp_step)
  intro h' tk' hn' hs
  exact hq h' tk' (fun b o hb q => (hs.2 b hb).trans q) hn'
end
section
variable {X : Cx} {pins : List (Addr × Obj)} {σ : L2.St} {H : Hp} {s : Shared} {a C dx : Addr} {f : Str} {y : V} {u : Value} {fs : List (Str × V)} {Q : Unit → Shared → Prop} {E : Value → Shared → Prop} {A : Around}
theorem ostB_new (T : OexB X.K C) (I : Inv X pins σ H s) (e : H a = some (exo a C none)) (hno : PySem.W.findIn X.K (.ref C) f = some none) (ry : RelV y u)
    (h : ∀ dx s', H dx = none → dx ≠ a → Inv X pins σ (upd (upd H dx (exd dx [(f, y)])) a (exo a C (some dx))) s' → Q () s') : wpAny (model X.prog X.w) A (setAttr (.ref a) f u) Q E s := by
  obtain ⟨B, newId, initId, bmB, -, SF, -, ov⟩ := T.base
  obtain ⟨t1, ho⟩ := exo_at I.hok e
  obtain ⟨hp, g, d, t, os⟩ := s
  refine PySem.W.set_plain I.kIn (od := none) ⟨ho, rfl, rfl, trivial⟩ T.sa (osaB_new SF I.kIn ho ov T.hd hno fun h' tk' dx k dn dne hx hn => ?_)
  have hnd : H dx = none := I.hok.fresh dn
  have nd : ∀ b o, hp.get? b = some o → b ≠ dx := fun b o q => Nat.ne_of_lt (Nat.lt_of_lt_of_le (Heap.lt_size q) dn)
  have na : ∀ b, H b = none → b ≠ a := fun b n z => by rw [z, e] at n; cases n
  have U : Un X.fs [] H (upd (upd H dx (exd dx [(f, y)])) a (exo a C (some dx))) hp h' := by
    refine ⟨fun b o q n _ _ => k b o (na b n) q, fun b o q n _ _ => ⟨o.slots, k b o (na b n) q⟩, fun b o q n _ => ?_, fun b o q _ => ?_, fun b xs q => ?_, fun b o v q => ?_, fun b ps q => ⟨#[], ?_⟩⟩
    · rw [upd_ne (na b n), upd_ne (nd b o q), n]
    · by_cases hb : b = a
      · subst hb; exact ⟨_, hx⟩
      · exact ⟨o, k b o hb q⟩
    · rw [upd_ne (at_ne e q exo_tup), upd_ne (ne_of_none q hnd), q]
    · rw [upd_ne (at_ne e q exo_frz), upd_ne (ne_of_none q hnd), q]
    · rw [upd_ne (at_ne e q exo_tbl), upd_ne (ne_of_none q hnd), q]; simp
  refine h dx _ hnd dne (I.un (t' := tk') U fun b o q => ?_)
  by_cases hb : b = a
  · subst hb; rw [upd_same] at q; cases q; exact exo_ok hx
  · rw [upd_ne hb] at q
    by_cases hd : b = dx
    · subst hd; rw [upd_same] at q; cases q; exact exd_ok hn (relO_put (fs := []) ry fun g => True.intro)
    · rw [upd_ne hd] at q
      refine (I.hok b o q).stay (fun c v hc z => k c v ?_ z) (fun c hc => ?_) (fun c xs hc => ?_)
      · rcases hc with hc | hc
        · exact fun z => hb (hc ▸ z)
        · exact at_ne e hc exo_own
      · rw [upd_ne (at_ne e hc exo_own), upd_ne (ne_of_none hc hnd), hc]
      · rw [upd_ne (at_ne e hc exo_tup), upd_ne (ne_of_none hc hnd), hc]
theorem ostB_old (T : OexB X.K C) (I : Inv X pins σ H s) (e : H a = some (exo a C (some dx))) (ed : H dx = some (exd dx fs)) (hl : fs.length ≤ 900) (hno : PySem.W.findIn X.K (.ref C) f = some none) (ry : RelV y u)
    (h : ∀ s', Inv X pins σ (upd H dx (exd dx ((f, y) :: fs))) s' → Q () s') : wpAny (model X.prog X.w) A (setAttr (.ref a) f u) Q E s := by
  obtain ⟨B, newId, initId, bmB, -, SF, -, ov⟩ := T.base
  obtain ⟨t1, ho⟩ := exo_at I.hok e
  obtain ⟨mA, hns, rel⟩ := exd_at I.hok ed
  obtain ⟨hp, g, d, t, os⟩ := s
  obtain ⟨oD, _, _, hoD, _, _⟩ := hns.count (within_of rel)
  refine PySem.W.set_plain I.kIn (od := some oD) ⟨ho, rfl, rfl, hoD⟩ T.sa (osaB_old SF I.kIn ho hns (within_of rel) (by rw [List.length_map]; omega) ov T.hd hno fun h' tk' k hn => ?_)
  have hd : ∃ o, h'.get? dx = some o := by
    obtain ⟨o, _, _, e', _⟩ := hn
    exact ⟨o, e'⟩
  exact h _ (I.write (t' := tk') (x := dx) (e := dx) (o := exd dx ((f, y) :: fs)) (by rw [ed]; exact True.intro) (.inl rfl) k hd (exd_ok hn (relO_put ry rel)))
end
noncomputable def tOsB (K : PySem.W.Frag) (f : Str) (to te : TE) : TS := fun D σ H => te σ H fun y H1 => to σ H1 fun x H2 => ∃ a C : Addr, x = .ref a ∧ OexB K C ∧ PySem.W.findIn K (.ref C) f = some none ∧
  ((H2 a = some (exo a C none) ∧ ∀ dx, H2 dx = none → dx ≠ a → D.nx σ (upd (upd H2 dx (exd dx [(f, y)])) a (exo a C (some dx)))) ∨
    ∃ (dx : Addr) (fs : List (Str × V)), H2 a = some (exo a C (some dx)) ∧ H2 dx = some (exd dx fs) ∧ fs.length ≤ 900 ∧ D.nx σ (upd H2 dx (exd dx ((f, y) :: fs))))
theorem ps_osB {X : Cx} {o e : Expr} {to te : TE} {f : Str} {p' pos : Pos} (ho : PE X o to) (he : PE X e te) (hs : swapsWith e (some (.Attribute o f p')) pos.line X.env = pure false := by rfl) : PS X (.Assign [.Attribute o f p'] e pos) (tOsB X.K f to te) := by
  refine ⟨fun pins s σ H D I h => ?_⟩
  refine plainObj_wpAny_Assign_Attribute (thn (he.run pins s σ H _ I h) fun v s1 ⟨y, H1, I1, r1, q1⟩ => thn (ho.run pins s1 σ H1 _ I1 q1) fun u s2 ⟨x, H2, I2, r2, a, C, ex, T, hno, q⟩ => ?_) hs
  subst ex
  obtain rfl : u = Value.ref a := r2
  rcases q with ⟨ea, q⟩ | ⟨dx, fs, ea, ed, hl, q⟩
  · exact ostB_new T I2 ea hno r1 fun dx s' n ne J => ⟨σ, _, J, q dx n ne⟩
  · exact ostB_old T I2 ea ed hl hno r1 fun s' J => ⟨σ, _, J, q⟩
noncomputable def spI (K : PySem.W.Frag) (C : Addr) (n : Nat) (ff : List V → List (Str × V)) : Sp := fun vs H Q _ => vs.length = n + 1 ∧ ∃ a ws, vs = .ref a :: ws ∧ H a = some (exo a C none) ∧ ∀ d H', H d = none → d ≠ a → H' a = some (exo a C (some d)) → H' d = some (exd d (ff ws)) → (∀ b, b ≠ a → b ≠ d → H' b = H b) → Q .non H'
section
variable {P : Program} {w : World} {K : PySem.W.Frag} {mg : Str → Option Value} {base : Heap}
theorem init1_ok {qual f z : Str} {st : Stmt} {fI C : Addr} {fd : FuncData} {k : Nat} (F : Fun K "__init__" qual st fI fd) (S : FnScope ["self"] ["self"] (defScope st)) (T : OexB K C) (hno : PySem.W.findIn K (.ref C) f = some none)
    (hb : ∀ (cdv : Value) (A : Around) (outer : List Env) (s : Shared) (H : Hp) (E : XK), PSs (cxOf (L2.CX P w) P w K mg base ["self"] qual (defScope st) fI cdv A outer s H E) (defBody st) (tOsB K f (tVar 0) (tC (.str z)))) :
    FnOk P w K mg base (L2.CX P w) (k + 1) fI fd ["self"] (spI K C 0 fun _ => [(f, .str z)]) := by
  refine F.okX S (fun vs H Q E h => h.1) fun cdv A outer s H vs Q E hr h => ⟨_, hb cdv A outer s H E, ?_⟩
  obtain ⟨hl, a, ws, rfl, ha, hq⟩ := h
  refine ⟨.ref a, rfl, a, C, rfl, T, hno, .inl ⟨ha, fun dx hn hne => hq dx _ hn hne upd_same ?_ fun b b1 b2 => ?_⟩⟩
  · rw [upd_ne hne, upd_same]
  · rw [upd_ne b1, upd_ne b2]
end
noncomputable def tMkB (C : Addr) (n : Nat) (ff : List V → List (Str × V)) (ta : TA) : L2.St → Hp → XK → Prop := fun σ H Q => ta σ H fun vs H1 => vs.length = n ∧ n ≤ 1000 ∧ ∀ d, H1 d = none → Q (.ref C) (some d) (upd H1 d (.xd (ff vs)))
section
variable {X : Cx} {x : Str} {C fI : Addr} {k n : Nat} {fd : FuncData} {ps : List Str} {ff : List V → List (Str × V)} {ta : TA} {p pos : Pos} {e : Expr} {es : List Expr}
theorem mkB_run {pins : List (Addr × Obj)} {σ : L2.St} {H1 : Hp} {s1 : Shared} {Q : XK} {us : List Value} {vs : List V} (T : OexB X.K C) (iC : PySem.W.findIn X.K (.ref C) "__init__" = some (some (.ref fI))) (tI : PySem.W.typeIn X.K (.ref fI) = some (.type "function"))
    (F1 : FnOk X.prog X.w X.K X.mg X.base (L2.CX X.prog X.w) k fI fd ps (spI X.K C n ff)) (hr : Room (k + 1) X.A) (hb : Binds X.K fd ps []) (I1 : Inv X pins σ H1 s1) (r1 : Vals vs us) (hv : vs.length = n) (hn1 : n ≤ 1000) (q1 : ∀ d, H1 d = none → Q (.ref C) (some d) (upd H1 d (.xd (ff vs)))) :
    wpAny (model X.prog X.w) X.A (call (.ref C) us) (MkP X pins σ Q) X.xe s1 := by
  obtain ⟨B, newId, initId, bmB, FB, -, hI, -⟩ := T.base
  obtain ⟨nm, N, qn, bs, bm, hdct, sn, sub, ab, col, dd, k0, k1, k2, k3, k5, hC, hT⟩ := PySem.W.excInit_of I1.kIn hI
  obtain ⟨hp, g, dr, tk, os⟩ := s1
  have hsz : hp.objs.size ≤ hp.objs.size + 1 := Nat.le_succ _
  have hn : H1 (hp.objs.size + 1) = none := I1.hok.fresh hsz
  have kk : ∀ b o, hp.get? b = some o → ((hp.push (PySem.W.kdv_tup us)).push (PySem.HandSPX.excO C hp.objs.size)).get? b = some o := fun b o z => Heap.get?_push_of_some _ (Heap.get?_push_of_some _ z)
  have hget : ((hp.push (PySem.W.kdv_tup us)).push (PySem.HandSPX.excO C hp.objs.size)).get? (hp.objs.size + 1) = some (PySem.HandSPX.excO C hp.objs.size) := by heap_get
  have I2 := I1.laid (t' := tk) (a := hp.objs.size + 1) (o := exo (hp.objs.size + 1) C none) (h' := (hp.push (PySem.W.kdv_tup us)).push (PySem.HandSPX.excO C hp.objs.size)) kk hsz (exo_ok hget)
  have hq : spI X.K C n ff (.ref (hp.objs.size + 1) :: vs) (upd H1 (hp.objs.size + 1) (exo (hp.objs.size + 1) C none)) (fun v H2 => v = .non ∧ ∃ (d : Addr), H2 (hp.objs.size + 1) = some (exo (hp.objs.size + 1) C (some d)) ∧ H2 d = some (exd d (ff vs)) ∧ H1 d = none ∧ Q (.ref C) (some d) (upd (del H2 (hp.objs.size + 1)) d (.xd (ff vs)))) (fun _ _ _ => False) := by
    refine ⟨by rw [List.length_cons, hv], _, vs, rfl, upd_same, fun d H2 hd hne e1 e2 e3 => ⟨rfl, d, e1, e2, ?_, ?_⟩⟩
    · rw [upd_ne hne] at hd; exact hd
    · rw [upd_ne hne] at hd
      have eH : upd (del H2 (hp.objs.size + 1)) d (.xd (ff vs)) = upd H1 d (.xd (ff vs)) := by
        funext b
        by_cases b1 : b = d
        · subst b1; rw [upd_same, upd_same]
        · rw [upd_ne b1, upd_ne b1]
          by_cases b2 : b = hp.objs.size + 1
          · subst b2; rw [del_same, hn]
          · rw [del_ne b2, e3 b b2 b1, upd_ne b2]
      rw [eH]
      exact q1 d hd
  have r2 : Vals (V.ref (hp.objs.size + 1) :: vs) (Value.ref (hp.objs.size + 1) :: us) := .cons rfl r1
  have hl : (Value.ref (hp.objs.size + 1) :: us).length = ps.length := by
    have z := r2.length
    rw [F1.len _ _ _ _ hq] at z
    exact z.symm
  have b2 := hb _ (Value.ref (hp.objs.size + 1) :: us) I2.kIn (by rw [List.append_nil]; exact hl)
  rw [List.append_nil] at b2
  refine wpAny_call (PySem.HandSPX.call_own FB hT hC (PySem.W.looks_findIn I1.kIn iC) (fun self => PySem.W.bind_fn I1.kIn self tI) (by rw [← Paired.length r1, hv, sizeLine_eq]; omega)
    (codeAny_mono (F1.run _ X.stack _ _ ⟨Value.ref (hp.objs.size + 1) :: us, []⟩ _ _ _ (fun _ _ _ => False) (hr.make C us []) (I2.env0.make C us []) b2 r2 hq) fun r s' hq' => ?_))
  cases r with
  | error er => exact (passL pins σ _ _ er s' I2 hq')
  | ok fl =>
    cases fl with
    | ret u =>
      obtain ⟨v, H2, os2, bare2, un2, hok2, rv, ev, d, ea, ed, hd1, q2⟩ := hq'
      subst ev
      obtain ⟨h2, g2, d2, t2, os'⟩ := s'
      exact ⟨rv, mk_end (raises_own T.ex T.ty) I1 hsz kk un2 hok2 os2 bare2 ea ed hd1 q2⟩
    | next => exact False.elim hq'
    | brk => exact False.elim hq'
    | cont => exact False.elim hq'
theorem pmkB0 (T : OexB X.K C) (iC : PySem.W.findIn X.K (.ref C) "__init__" = some (some (.ref fI))) (tI : PySem.W.typeIn X.K (.ref fI) = some (.type "function"))
    (F1 : FnOk X.prog X.w X.K X.mg X.base (L2.CX X.prog X.w) k fI fd ps (spI X.K C 0 ff)) (hr : Room (k + 1) X.A) (hb : Binds X.K fd ps []) (hm : X.mg x = some (.ref C)) (hg : Gl X x := by rfl) (hdb : (x == ("__debug__" : Str)) = false := by decide) :
    PMk X (.Call (.Name x p) [] [] pos) (tMkB C 0 ff tNil) := fun pins s σ H Q I h =>
  wpAny_Call_Name_kw (ld_glob I hg hm (PySem.W.callWith_K0 I.kIn T.kp (mkB_run (us := []) T iC tI F1 hr hb I .nil h.1 h.2.1 h.2.2)) hdb)
end
end DV
namespace DV
open PySem L2 PySem.Spec PySem.Calls PyProof.Rows
noncomputable abbrev TX := Addr → Value → Option Addr → TS
noncomputable def endsAt (D : Ends) (i : Nat) : Ends := { nx := fun σ H => D.nx (σ.set i none) H, rt := D.rt, bk := fun σ H => D.bk (σ.set i none) H, ct := fun σ H => D.ct (σ.set i none) H }
inductive HdsN (X : Cx) : List ExceptHandler → List (Value × Nat × TX) → Prop
  | nil : HdsN X [] []
  | cons {x n : Str} {i : Nat} {c : Value} {ts : TX} {b₀ : Stmt} {suite : List Stmt} {np pos' : Pos} {hds : List ExceptHandler} {l : List (Value × Nat × TX)} (hi : X.N[i]? = some n) (hln : X.env.kindOf n = some .local) (hc : Names X x c)
      (hsu : ∀ (a : Addr) (oe : Obj) (cls : Value) (d : Option Addr) (pn : List (Addr × Obj)), Zc cls d oe → (∃ vs, oe.data = .fields vs) → PSs (X.suite a ((a, oe) :: pn)) (b₀ :: suite) (ts a cls d)) (r : HdsN X hds l) :
      HdsN X (.ExceptHandler (some (.Name x np)) (some n) (b₀ :: suite) pos' :: hds) ((c, i, ts) :: l)
section
variable {X : Cx} {W : WX} {K : PySem.W.Frag}
noncomputable def cRaise (c : Str) (ff : List D → List (Str × D)) (fa : DS → Res (List D)) : DS → Fl := fun δ => stE (fa δ) δ fun ds => .rs ⟨c, ff ds⟩ δ
structure FF (n : Nat) (fv : List V → List (Str × V)) (fd : List D → List (Str × D)) : Prop where
  ok : ∀ (K : PySem.W.Frag) (B : Hp) (vs : List V) (ds : List D), vs.length = n → RpA K B vs ds → (fv vs).map (·.1) = (fd ds).map (·.1) ∧ RpA K B ((fv vs).map (·.2)) ((fd ds).map (·.2))
noncomputable def fv1 (f z : Str) : List V → List (Str × V) := fun _ => [(f, .str z)]
noncomputable def fd1 (f z : Str) : List D → List (Str × D) := fun _ => [(f, .str z)]
theorem ff1 {f z : Str} : FF 0 (fv1 f z) (fd1 f z) := ⟨fun _ _ _ _ _ _ => ⟨rfl, .cons (.v _) .nil⟩⟩
theorem ss_raise {C : Addr} {c : Str} {n : Nat} {fv : List V → List (Str × V)} {fd : List D → List (Str × D)} {ta : TA} {fa : DS → Res (List D)} (hc : clsV K c = some (.ref C)) (hn : n ≤ 1000) (F : FF n fv fd) (ha : SA K W ta fa) (hl : ∀ δ ds, fa δ = .ok ds → ds.length = n) :
    SS K W (fun _ σ H => tMkB C n fv ta σ H fun cls d H' => W cls d σ H') (cRaise c fd fa) := fun B0 H0 δ σ B H E rel hp => by
  unfold cRaise at hp
  refine ha B0 H0 δ σ B H _ rel ?_
  cases e : fa δ with
  | no => rw [e] at hp; exact hp
  | er x => rw [e] at hp; exact fun c dx B' H' g r => hp c dx σ B' H' g.b (rel.mono g) r
  | ok ds =>
    rw [e] at hp
    intro vs B1 H1 g1 r1
    have hv : vs.length = n := r1.length.trans (hl δ ds e)
    refine ⟨hv, hn, fun d hd => ?_⟩
    have g2 := Grow.new (K := K) (o := .xd (fv vs)) g1.i hd
    obtain ⟨f1, f2⟩ := F.ok K B1 vs ds hv r1
    exact hp _ _ σ _ _ (g1.b.trans g2.b) ((rel.mono g1).mono g2) ⟨hc, d, fv vs, rfl, upd_same, f1, RpA.mono g2.b f2⟩
structure ExK (K : PySem.W.Frag) (mg : Str → Option Value) (x : Str) (C fI : Addr) : Prop where
  T : OexB K C
  m : mg x = some (.ref C)
  c : clsV K x = some (.ref C)
  iC : PySem.W.findIn K (.ref C) "__init__" = some (some (.ref fI))
  tI : PySem.W.typeIn K (.ref fI) = some (.type "function")
theorem q_cs_raise0 {x : Str} {C fI : Addr} {k : Nat} {fd : FuncData} {ps : List Str} {fv : List V → List (Str × V)} {fD : List D → List (Str × D)} {p pos pos' : Pos} (tk : Takes X W) (T : ExK X.K X.mg x C fI) (F1 : FnOk X.prog X.w X.K X.mg X.base (L2.CX X.prog X.w) k fI fd ps (spI X.K C 0 fv)) (hr : Room (k + 1) X.A) (hb : Binds X.K fd ps [])
    (F : FF 0 fv fD) (hc : X.calm = true) (hg : Gl X x := by rfl) (hdb : (x == ("__debug__" : Str)) = false := by decide) : CS X W (.Raise (some (.Call (.Name x p) [] [] pos)) none pos') (fun _ σ H => tMkB C 0 fv tNil σ H fun cls d H' => W cls d σ H') (cRaise x fD cNil) :=
  ⟨ps_raise hc tk (pmkB0 T.T T.iC T.tI F1 hr hb T.m hg hdb), ss_raise T.c (by decide) F (fun B0 H0 δ σ B H Q rel hp => hp [] B H (Grow.refl rel.g.i) .nil) (fun δ ds h => by cases h; rfl)⟩
theorem cs_raise0 (K : PySem.W.Frag) (hK : X.K = K) {x : Str} {C fI : Addr} {k : Nat} {fd : FuncData} {ps : List Str} {fv : List V → List (Str × V)} {fD : List D → List (Str × D)} {p pos pos' : Pos} (tk : Takes X W) (T : ExK K X.mg x C fI) (F1 : FnOk X.prog X.w K X.mg X.base (L2.CX X.prog X.w) k fI fd ps (spI K C 0 fv)) (hr : Room (k + 1) X.A) (hb : Binds K fd ps [])
    (F : FF 0 fv fD) (hc : X.calm = true := by rfl) (hg : Gl X x := by rfl) (hdb : (x == ("__debug__" : Str)) = false := by decide) : CS X W (.Raise (some (.Call (.Name x p) [] [] pos)) none pos') (fun _ σ H => tMkB C 0 fv tNil σ H fun cls d H' => W cls d σ H') (cRaise x fD cNil) := by
  subst hK
  exact q_cs_raise0 tk T F1 hr hb F hc hg hdb
end
noncomputable def XcK (K : PySem.W.Frag) (v : Value) : Prop := ∃ C, v = .ref C ∧ XfC K C ∧ ExcC K C ∧ ∀ f ∈ (["word", "name", "there", "ring", "at"] : List Str), PySem.W.findIn K (.ref C) f = some none
section
variable {K : PySem.W.Frag} {B B' H H' : Hp} {x : Exn} {c : Value} {d : Option Addr}
structure Ctx1 (K : PySem.W.Frag) (i : Nat) (x : Exn) (a : Addr) (cls : Value) (d : Option Addr) (B : Hp) (σ : L2.St) : Prop where
  at_ : σ[i]? = some (some (.ref a))
  rp : RpX K B cls d x
  k : XcK K cls
end
noncomputable def SEx (K : PySem.W.Frag) (i : Nat) (x : Exn) (a : Addr) (cls : Value) (d : Option Addr) (t : TE) (f : DS → Res D) : Prop := ∀ B0 H0 δ σ B H (Q : VK), Rel K B0 H0 B H σ δ → Ctx1 K i x a cls d B σ → PostE K B H σ W0 Q (f δ) → t σ H Q
noncomputable def SSx (K : PySem.W.Frag) (i : Nat) (x : Exn) (a : Addr) (cls : Value) (d : Option Addr) (t : TS) (g : DS → Fl) : Prop := ∀ B0 H0 δ σ B H (E : Ends), Rel K B0 H0 B H σ δ → Ctx1 K i x a cls d B σ → PostS K B0 H0 B W0 E (g δ) → t E σ H
noncomputable abbrev TXE := Addr → Value → Option Addr → TE
noncomputable def XCx (X : Cx) (P : Cx → Addr → Value → Option Addr → Prop) : Prop := ∀ (a : Addr) (oe : Obj) (cls : Value) (d : Option Addr) (pn : List (Addr × Obj)), Zc cls d oe → (∃ vs, oe.data = .fields vs) → P (X.suite a ((a, oe) :: pn)) a cls d
structure CEx (X : Cx) (i : Nat) (e : Expr) (t : TXE) (f : Exn → DS → Res D) : Prop where
  pe : XCx X fun Y a cls d => PE Y e (t a cls d)
  se : ∀ x a cls d, SEx X.K i x a cls d (t a cls d) (f x)
structure CXs (X : Cx) (i : Nat) (ss : List Stmt) (t : TX) (g : Exn → DS → Fl) : Prop where
  ps : XCx X fun Y a cls d => PSs Y ss (t a cls d)
  ss : ∀ x a cls d, SSx X.K i x a cls d (t a cls d) (g x)
section
variable {X : Cx} {i : Nat}
noncomputable def fldR (f : Str) (x : Exn) : Res D := match x.fs.lookup f with
  | some d => .ok d
  | none => .no
noncomputable def tXfB (K : PySem.W.Frag) (a : Addr) (cls : Value) (d : Option Addr) (f : Str) (te : TE) : TE := fun σ H Q => te σ H fun x H1 => x = .ref a ∧ ∃ C, cls = .ref C ∧ XfC K C ∧ PySem.W.findIn K (.ref C) f = some none ∧ ∃ (dd : Addr) (fs : List (Str × V)) (v : V), d = some dd ∧ H1 dd = some (.xd fs) ∧ fs.lookup f = some v ∧ Q v H1
theorem look2 {K : PySem.W.Frag} {B : Hp} {f : Str} : ∀ {us : List (Str × V)} {fs : List (Str × D)} {z : D}, us.map (·.1) = fs.map (·.1) → RpA K B (us.map (·.2)) (fs.map (·.2)) → fs.lookup f = some z → ∃ v, us.lookup f = some v ∧ Rp K B v z
  | [], [], z, _, _, e => by cases e
  | [], _ :: _, _, e, _, _ => by cases e
  | _ :: _, [], _, e, _, _ => by cases e
  | (n, u) :: us, (m, z') :: fs, z, e, r, l => by
    obtain ⟨e1, e2⟩ := List.cons.inj e
    dsimp only at e1
    subst e1
    cases r with
    | cons h r =>
      rw [List.lookup_cons] at l ⊢
      cases q : (f == n) with
      | true => rw [q] at l; cases l; exact ⟨u, rfl, h⟩
      | false => rw [q] at l; exact look2 e2 r l
theorem cex_fld {e : Expr} {f : Str} {pos : Pos} (he : XCx X fun Y _ _ _ => PE Y e (tVar i)) (hf : f ∈ (["word", "name", "there", "ring", "at"] : List Str) := by decide) (hb : attributeBase e f X.env (eval e X.env) = eval e X.env := by rfl) :
    CEx X i (.Attribute e f pos) (fun a cls d => tXfB X.K a cls d f (tVar i)) (fun x _ => fldR f x) := by
  refine ⟨fun a oe cls d pn hz hv => ⟨fun pins s σ H Q I h => ?_⟩, fun x a cls d B0 H0 δ σ B H Q rel cx hp => ?_⟩
  · refine attr_of hb (thn ((he a oe cls d pn hz hv).run pins s σ H _ I h) fun u s1 hh => ?_)
    obtain ⟨x, H1, I1, rx, ex, C, ec, T, hno, dd, fs, v, ed, ea, l, q⟩ := hh
    subst ex
    obtain rfl : u = Value.ref a := rx
    subst ec ed
    obtain ⟨ha, _⟩ := I1.pin (a, oe) (List.mem_append_left _ List.mem_cons_self)
    obtain ⟨vs, hd⟩ := hv
    obtain ⟨mA, hns, hr⟩ := (show ObjOk X.prog X.w H1 s1.heap dd (.xd fs) from I1.hok dd _ ea)
    obtain ⟨od, ho, hl⟩ := lookIn_ns hns
    obtain ⟨u, hu, ru⟩ := RelO.some_of (v := v) (o := mA f) (by rw [← l]; exact hr f)
    have J : PySem.W.InstAt s1.heap a oe C (some od) := ⟨ha, hz.1, by unfold PySem.W.notCls; rw [hd] <;> rfl, by rw [hz.2]; exact ho⟩
    exact HandSPX.exc_get I1.kIn J T.ga T.gg T.exC (PySem.W.findObj_own T.hdC hno rfl (by rw [hl, hu])) (handed_of ru) ⟨v, H1, I1.tok _, ru, q⟩
  · obtain ⟨C, rfl, T, _, hno⟩ := cx.k
    obtain ⟨_, dd, us, rfl, hB, e1, e2⟩ := cx.rp
    refine ⟨_, cx.at_, rfl, C, rfl, T, hno f hf, dd, us, ?_⟩
    unfold fldR at hp
    cases q : x.fs.lookup f with
    | none => rw [q] at hp; exact hp.elim
    | some z =>
      rw [q] at hp
      obtain ⟨v, l1, l2⟩ := look2 e1 e2 q
      exact ⟨v, rfl, rel.g.i _ _ hB, l1, hp v B H (Grow.refl rel.g.i) l2⟩
end
noncomputable def Fl.leave (i : Nat) : Fl → Fl
  | .nx δ => .nx (δ.set i none)
  | .bk δ => .bk (δ.set i none)
  | .ct δ => .ct (δ.set i none)
  | .rt d => .rt d
  | .rf ds => .rf ds
  | .rn t => .rn t
  | .ro d δ => .ro d δ
  | _ => .no
noncomputable abbrev Clauses := List ((Str → Option Bool) × Nat × (Exn → DS → Fl))
noncomputable def cPick : Clauses → Exn → DS → Fl
  | [], x, δ => .rs x δ
  | (p, i, gs) :: r, x, δ => match p x.cls with
    | none => .no
    | some true => if i < δ.length then (gs x (δ.set i none)).leave i else .no
    | some false => cPick r x δ
noncomputable def cTry (g : DS → Fl) (hs : Clauses) : DS → Fl := fun δ => match g δ with
  | .rs x δ' => cPick hs x δ'
  | r => r
noncomputable def tabP (l : List (Str × Bool)) : Str → Option Bool := fun s => l.lookup s
inductive HdsC (X : Cx) : List ExceptHandler → List (Value × Nat × TX) → Clauses → Prop
  | nil : HdsC X [] [] []
  | cons {x n : Str} {i : Nat} {c : Value} {ts : TX} {gs : Exn → DS → Fl} {p : Str → Option Bool} {b₀ : Stmt} {suite : List Stmt} {np pos' : Pos} {hds : List ExceptHandler} {l : List (Value × Nat × TX)} {q : Clauses} (hi : X.N[i]? = some n) (hln : X.env.kindOf n = some .local) (hc : Names X x c)
      (hp : ∀ s b v, p s = some b → clsV X.K s = some v → PySem.W.exmOne X.K v c = some b ∧ (b = true → XcK X.K v)) (hsu : CXs X i (b₀ :: suite) ts gs) (r : HdsC X hds l q) : HdsC X (.ExceptHandler (some (.Name x np)) (some n) (b₀ :: suite) pos' :: hds) ((c, i, ts) :: l) ((p, i, gs) :: q)
theorem HdsC.n {X : Cx} : ∀ {hds : List ExceptHandler} {l : List (Value × Nat × TX)} {q : Clauses}, HdsC X hds l q → HdsN X hds l
  | _, _, _, .nil => .nil
  | _, _, _, .cons hi hln hc _ hsu r => .cons hi hln hc hsu.ps r.n
section
variable {X : Cx} {W : WX}
theorem takes_look {pn : List (Addr × Obj)} {W' : WX} (hs : X.stack = X.env :: X.outer) (hf : X.env.frame = some X.env.locals) :
    Takes (X.tr pn (fun e s₁ => wpAny (model X.prog X.w) X.A (noteFrame e X.env) (fun _ s₂ => wpAny (model X.prog X.w) X.A (setFlight e none) (fun _ _ => True) (fun _ _ => True) s₂) (fun _ _ => True) s₁)) W' := fun u s' xx => by
  obtain ⟨a, B, sI, pins', σ', H', cls, d, rfl, J', nb, up, sky, na, os, ag, w⟩ := xx
  have hfr : X.A.frames = some (X.env :: X.outer) := by rw [← hs]; exact J'.ok.frames
  exact Sky.land Zc.steady hfr hf (by rw [← hs]; exact sky) fun h3 fl3 up3 => trivial
end
end DV
namespace DV
open PySem L2 PySem.Spec PySem.Calls PyProof.Rows
noncomputable def oexB (K : PySem.W.Frag) (C : Addr) (bmB : List Value) (newId : String) : Bool :=
  PySem.W.excInitIn K C bmB newId && (PySem.W.excOver K C bmB && (PySem.W.hasDictIn K C && (decide (PySem.W.findIn K (.ref C) "__setattr__" = some (some (.builtin "object.__setattr__"))) && (decide (PySem.W.subIn K (.ref C) (.type "BaseException") = some true) && (decide (PySem.W.typeIn K (.ref C) = some (.type "type")) && PySem.W.keepIn K (.ref C))))))
theorem oexB_ok {K : PySem.W.Frag} {C : Addr} {B newId initId : String} {bmB : List Value} (F : ExcBaseFacts B newId initId bmB) (SF : PySem.StoreFacts B bmB "object.__setattr__" "object") (h : oexB K C bmB newId = true) : OexB K C := by
  obtain ⟨h1, h⟩ := Bool.and_eq_true_iff.mp h
  obtain ⟨h2, h⟩ := Bool.and_eq_true_iff.mp h
  obtain ⟨h3, h⟩ := Bool.and_eq_true_iff.mp h
  obtain ⟨h4, h⟩ := Bool.and_eq_true_iff.mp h
  obtain ⟨h5, h⟩ := Bool.and_eq_true_iff.mp h
  obtain ⟨h6, h7⟩ := Bool.and_eq_true_iff.mp h
  exact ⟨⟨B, newId, initId, bmB, F, SF, h1, h2⟩, h3, of_decide_eq_true h4, of_decide_eq_true h5, of_decide_eq_true h6, h7⟩
noncomputable def xcB (K : PySem.W.Frag) (C : Addr) : Bool :=
  xfB K C && (decide (PySem.W.findIn K (.ref C) "__class__" = some (some (.builtin "object.__class__"))) && (decide (PySem.W.specialIn K (.builtin "object.__class__") "__get__" = some (some (.builtin "getset_descriptor.__get__"))) && (decide (PySem.W.takesIn K (.builtin "object.__class__") = some true) && (decide (PySem.W.mroIn K C (.type "object") = some true) &&
    (["word", "name", "there", "ring", "at"] : List Str).all fun f => decide (PySem.W.findIn K (.ref C) f = some none)))))
theorem xcB_ok {K : PySem.W.Frag} {C : Addr} (h : xcB K C = true) : XcK K (.ref C) := by
  obtain ⟨h1, h⟩ := Bool.and_eq_true_iff.mp h
  obtain ⟨h2, h⟩ := Bool.and_eq_true_iff.mp h
  obtain ⟨h3, h⟩ := Bool.and_eq_true_iff.mp h
  obtain ⟨h4, h⟩ := Bool.and_eq_true_iff.mp h
  obtain ⟨h5, h6⟩ := Bool.and_eq_true_iff.mp h
  have x := xfB_ok h1
  exact ⟨C, rfl, x, ⟨x.ga, x.gg, x.exC, x.hdC, of_decide_eq_true h2, of_decide_eq_true h3, of_decide_eq_true h4, of_decide_eq_true h5⟩, fun f hf => of_decide_eq_true (List.all_eq_true.mp h6 f hf)⟩
theorem XcK.no {K : PySem.W.Frag} {C : Addr} (h : XcK K (.ref C)) {f : Str} (hf : f ∈ (["word", "name", "there", "ring", "at"] : List Str) := by decide) : PySem.W.findIn K (.ref C) f = some none := by
  obtain ⟨C', e, _, _, h⟩ := h
  cases e
  exact h f hf
theorem clsV_of {K : PySem.W.Frag} {x : Str} {v : Value} (h : PySem.W.nsIn K mainGlobals x = some (some v)) : clsV K x = some v := by
  unfold clsV
  rw [h]
  rfl
noncomputable def inCls (s : Stmt) (j : Nat) : Stmt := match s with
  | .ClassDef _ _ _ b _ _ _ _ _ _ _ => b.getD j (.Pass ⟨0, 0, 0, 0⟩)
  | _ => .Pass ⟨0, 0, 0, 0⟩
end DV
namespace DV
open PySem L2 PySem.Spec PySem.Calls PyProof.Rows
inductive Pk (α : Type) where
  | p (i : Nat)
  | k (j : Nat)
  | c (a : α)
noncomputable def Pk.get {α : Type} (z : α) (us ws : List α) : Pk α → α
  | .p i => us.getD i z
  | .k j => ws.getD j z
  | .c a => a
section
variable {K : PySem.W.Frag} {B : Hp}
theorem RpA.getD : ∀ {vs : List V} {ds : List D} (i : Nat), RpA K B vs ds → Rp K B (vs.getD i .non) (ds.getD i .non)
  | _, _, _, .nil => by simpa using Rp.v .non
  | _, _, 0, .cons h _ => by simpa using h
  | _, _, i + 1, .cons _ r => by simpa using RpA.getD i r
end
section
variable {K : PySem.W.Frag} {x qual : Str} {params : Arguments} {body : List Stmt} {scope : Scope} {dvs : List V} {kws : List (Str × V)} {f : Addr} {fd : FuncData} {ps : List Str}
end
section
variable {X : Cx} {W : WX}
end
end DV
namespace DV
open PySem L2 PySem.Spec PySem.Calls PyProof.Rows PySem.W
section
variable {prog : Program} {w : World} {A : Around} {E : Value → Shared → Prop} {s : Shared} {K : Frag} {x D : Addr} {ox od : Obj}
end
end DV
namespace DV
open PySem L2 PySem.Spec PySem.Calls PyProof.Rows
section
variable {X : Cx} {i : Nat}
end
end DV
namespace DV
open PySem L2 PySem.Spec PySem.Calls PyProof.Rows LamX
section
variable {X : Cx} {pins : List (Addr × Obj)} {σ : L2.St} {H : Hp} {s : Shared}
end
section
variable {X : Cx}
end
section
variable {X : Cx}
end
end DV
namespace DV
open PySem L2 PySem.Spec PySem.Calls PyProof.Rows LamX
theorem def_okC {P : Program} {w : World} {K : PySem.W.Frag} {mg : Str → Option Value} {base : Heap} {x qual : Str} {st : Stmt} {f : Addr} {oc : Value} {od an : Option Addr} {osl : Array (Option Value)} {kV doc pm cdv ct : Value} {N ps : List Str} {k m : Nat} {g : DS → Fl} (l : K.lookup f = some ⟨oc, od, .func (PySem.W.fnOf x qual (defArgs st) (defBody st) (defScope st) .none kV doc pm an cdv ct), osl⟩)
    (hc : PySem.W.codeIn K cdv qual = true) (S : FnScope N ps (defScope st)) (hm : N.length - ps.length = m)
    (hbody : ∀ (A : Around) (outer : List Env) (s : Shared) (H : Hp) (E : XK), Room k (A.deeper (PyProof.Rows.envOfC qual (defScope st) s.heap.objs.size f cdv)) → Takes (cxOf (L2.CX P w) P w K mg base N qual (defScope st) f cdv A outer s H E) (Wof E) →
      PassesOwn (model P w) (A.deeper (PyProof.Rows.envOfC qual (defScope st) s.heap.objs.size f cdv)) (PyProof.Rows.envOfC qual (defScope st) s.heap.objs.size f cdv) (cxOf (L2.CX P w) P w K mg base N qual (defScope st) f cdv A outer s H E).xe → (A.deeper (PyProof.Rows.envOfC qual (defScope st) s.heap.objs.size f cdv)).units + 64 < cLine →
      ∃ t, CSs (cxOf (L2.CX P w) P w K mg base N qual (defScope st) f cdv A outer s H E) (Wof E) (defBody st) t g) :
    FnOk P w K mg base (L2.CX P w) (k + 1) f (PySem.W.fnOf x qual (defArgs st) (defBody st) (defScope st) .none kV doc pm an cdv ct) ps (spD K ps.length (defF m g)) := by
  refine fn_of l hc S (fun vs H Q E h => h.1) fun A outer s H vs Q E hr h => ?_
  obtain ⟨hl, ds, B, i, r, tb, hp⟩ := h
  obtain ⟨t, ht⟩ := hbody A outer s H E hr (takes_of rfl rfl rfl rfl) (passes_of (X := cxOf (L2.CX P w) P w K mg base N qual _ f cdv A outer s H E) rfl) hr.units
  exact ⟨t, ht.ps, ss_def (N := N) ht.ss i r tb (by rw [hl, hm]; exact hp)⟩
noncomputable def TabsAre (K : PySem.W.Frag) : List Str → List (Addr × Addr) → Prop
  | [], [] => True
  | n :: ns, p :: ps => PySem.W.tabIn K n = some p ∧ TabsAre K ns ps
  | _, _ => False
theorem TabsAre.of {K : PySem.W.Frag} : ∀ {ns : List Str} {ps : List (Addr × Addr)}, TabsAre K ns ps → ∀ p ∈ ps, ∃ n ∈ ns, PySem.W.tabIn K n = some p
  | [], [], _, p, hp => by cases hp
  | [], _ :: _, h, _, _ => h.elim
  | _ :: _, [], h, _, _ => h.elim
  | n :: ns, q :: ps, h, p, hp => by
    rcases List.mem_cons.mp hp with rfl | z
    · exact ⟨n, by simp, h.1⟩
    · obtain ⟨m, h1, h2⟩ := TabsAre.of h.2 p z
      exact ⟨m, by simp [h1], h2⟩
theorem TabsAre.tab {K : PySem.W.Frag} : ∀ {ns : List Str} {ps : List (Addr × Addr)}, TabsAre K ns ps → ∀ P ∈ ns.filterMap (fun n => (PySem.W.tabIn K n).map (·.2)), ∃ p ∈ ps, p.2 = P
  | [], _, _, P, hp => by simp at hp
  | _ :: _, [], h, _, _ => h.elim
  | n :: ns, q :: ps, h, P, hp => by
    obtain ⟨m, h1, h2⟩ := List.mem_filterMap.mp hp
    rcases List.mem_cons.mp h1 with rfl | z
    · rw [h.1] at h2
      exact ⟨q, by simp, Option.some.inj h2⟩
    · obtain ⟨p, h3, h4⟩ := TabsAre.tab h.2 P (List.mem_filterMap.mpr ⟨m, z, h2⟩)
      exact ⟨p, by simp [h3], h4⟩
theorem walkT {l : PySem.W.OpenLaw} {n k : Nat} {q : Program} {loose : List Str} {XP : (Str → Option Value) → Heap → Prop} {YP : World → Heap → Prop} {d : DefRec} {K : Params → PySem.W.Frag} {x : Str} {F : List D → Res D} (hn : l.most = some n) (hn2 : n ≤ sizeLine) (hdf : d.params.defaults = []) (hr : Room k callerA)
    (hY : ∀ (w : World) (h : Heap), YP w h → (K w.params).In h) (hrec : (lamNs.all fun m => ((recsOf q).find? (fun e => e.name == m)).isSome) = true)
    (F0 : ∀ (w : World) (mg : Str → Option Value) (fa : Addr) (h : Heap), (K w.params).In h → h.Ns mainGlobals mg → mg d.name = some (.ref fa) → ∃ fd cs, TabsAre (K w.params) lamNs cs ∧ (∀ p ∈ cs, (K w.params).lookup p.2 = none) ∧ (∀ (s : Shared) (u : Value), BindsTo s fd ⟨[u], []⟩ [(x, u)]) ∧
      ∀ base : Heap, (K w.params).In base → base.Ns mainGlobals mg → (∀ p ∈ cs, TabB base mg p.1 p.2) → FnOk l.prog w (K w.params) mg base (L2.CX l.prog w) k fa fd [x] (spD (K w.params) 1 F))
    (hF : ∀ ns : List Int, ns.length ≤ n → F [.lst (ns.map D.int)] = .ok (.bl true)) : PySem.W.WalkO q loose XP YP l.row.toRowW d [] (fun f vs => PySem.call f vs) := by
  refine Att.attach_callB hn hdf fun w s₀ s₁ mg mb fa o pm cd doc a vs ns G Y ho hd hcd hmg hobj hints hlen hbits hg => ?_
  have KX := hY w _ Y
  obtain ⟨fd, cs, ht, nP, hb, hF0⟩ := F0 w mg fa _ KX G.T.g hmg
  have tm : ∀ p ∈ cs, ∃ m dL, (recsOf q).find? (fun e => e.name == m) = some dL ∧ PySem.W.tabIn (K w.params) m = some (p.1, p.2) := fun p hp => by
    obtain ⟨m, h1, h2⟩ := ht.of p hp
    obtain ⟨dL, hr1⟩ := Option.isSome_iff_exists.mp (List.all_eq_true.mp hrec m h1)
    exact ⟨m, dL, hr1, h2⟩
  exact law_callTs (cs := cs) KX G.T.g G.T.b G.T.builtins G.T.nolimit hg (fun p hp => by obtain ⟨m, dL, r1, r2⟩ := tm p hp; exact (PySem.W.tab_of G.T KX r1 r2).2) nP (fun p hp => by obtain ⟨m, dL, r1, r2⟩ := tm p hp; exact (PySem.W.tab_of G.T KX r1 r2).1) G.T.bmain hobj hints (Nat.le_trans hlen hn2) hr (fun base b1 b2 b3 => hF0 base b1 b2 b3) hb
    (fun H hH hS => spD_law hS (fun p hp => by
      obtain ⟨c, h1, rfl⟩ := ht.tab p hp
      exact NdefX.TabN.nil (hH c h1)) (hF ns hlen)) fun H e s' z => cx_false H s₁ e s' z
end DV
namespace DV
open PySem L2 PySem.Spec PySem.Calls PyProof.Rows LamX
theorem tabIn_of {K : PySem.W.Frag} {x : Str} {f c P : Addr} {oc o1 : Value} {od o2 : Option Addr} {fd : FuncData} {osl o3 : Array (Option Value)} {vs : Array Value} (a : PySem.W.nsIn K mainGlobals x = some (some (.ref f))) (l : K.lookup f = some ⟨oc, od, .func fd, osl⟩) (hc : fd.code = .ref c) (tc : K.lookup c = some ⟨o1, o2, .fields vs, o3⟩) (tp : vs[11]? = some (.ref P)) : PySem.W.tabIn K x = some (c, P) := by
  unfold PySem.W.tabIn
  rw [a]
  dsimp only
  rw [l]
  dsimp only
  rw [hc]
  dsimp only
  rw [tc]
  dsimp only
  rw [tp]
theorem in_tabs {K : PySem.W.Frag} {c P : Addr} {n : Str} (h : PySem.W.tabIn K n = some (c, P)) (hn : n ∈ lamNs := by decide) : P ∈ tabsOf K := by
  unfold tabsOf
  exact List.mem_filterMap.mpr ⟨n, hn, by rw [h]; rfl⟩
end DV
namespace DV
open PySem L2
section
variable {X : Cx} {W : WX}
noncomputable def cPut (i : Nat) (fi fe : DS → Res D) : DS → Fl := fun δ => match δ[i]? with
  | some (some (.ow ds)) => stE (fe δ) δ fun d => stE (fi δ) δ fun y => match y with
    | .v (.int k) => match ixN ds.length k with
      | some j => .nx (δ.set i (some (.ow (ds.set j d))))
      | none => .no
    | _ => .no
  | _ => .no
theorem cs_put (i : Nat) {x : Str} {e k : Expr} {t tk : TE} {f fk : DS → Res D} {px tpos pos : Pos} (he : CE X W e t f) (hk : CE X W k tk fk) (hv : PE X (.Name x px) (tVar i)) (hs : swapsWithSole [.Subscript (.Name x px) k tpos] e pos.line X.env = pure false := by rfl) (hw : swappedStores [.Subscript (.Name x px) k tpos] e X.env = pure none := by rfl)
    (ha : ∀ v, assign (.Subscript (.Name x px) k tpos) X.env v = (do
      let ov ← holding [v] (eval (.Name x px) X.env)
      let iv ← holding [v, ov] (eval k X.env)
      standAt tpos
      holding [v, ov, iv] (setItem ov iv v)
      release [v, ov, iv] []) := by intro _; rfl) (h1 : (assignEach [.Subscript (.Name x px) k tpos] X.env).map (·.2) = [assign (.Subscript (.Name x px) k tpos) X.env] := by rfl) :
    CS X W (.Assign [.Subscript (.Name x px) k tpos] e pos) (tAsg t (gSub (tVar i) tk rSetL)) (cPut i fk f) :=
  ⟨ps_asg he.pe (pg_sub hv hk.pe set_list ha) hs hw h1, fun B0 H0 δ σ B H E rel hp => by
    unfold cPut at hp
    split at hp
    case h_2 => exact hp.elim
    rename_i ds ei
    obtain ⟨v, q1, p, vs, rfl, _, hb, hh, rp⟩ := rel.sl i _ ei
    refine he.se B0 H0 δ σ B H _ rel ?_
    cases e1 : f δ with
    | no => rw [e1] at hp; exact hp
    | er x => rw [e1] at hp; exact fun c dx B' H' g rp => hp c dx σ B' H' g.b (rel.mono g) rp
    | ok d =>
      rw [e1, stE_ok] at hp
      intro v B1 H1 g1 r1
      refine ⟨_, q1, ?_⟩
      refine hk.se B0 H0 δ σ B1 H1 _ (rel.mono g1) ?_
      cases e2 : fk δ with
      | no => rw [e2] at hp; exact hp
      | er x => rw [e2] at hp; exact fun c dx B' H' g rp => hp c dx σ B' H' (g1.b.trans g.b) ((rel.mono g1).mono g) rp
      | ok y =>
        rw [e2, stE_ok] at hp
        intro w B2 H2 g2 r2
        split at hp
        case h_2 => exact hp.elim
        split at hp
        case h_2 => exact hp.elim
        rename_i _ j hj
        cases r2
        have gg := g1.trans g2
        refine ⟨p, vs, _, j, rfl, rfl, gg.h _ _ hh ⟨fun _ z => (by cases z), fun _ _ _ z => (by cases z)⟩, by rw [rp.length]; exact hj, ?_⟩
        exact hp σ B2 _ gg.b ((rel.mono gg).write (us := vs) ei q1 ((rp.mono gg.b).set j (r1.mono g2.b)))⟩
end
end DV
namespace DV
open PySem
end DV
namespace DV
open PySem L2 PySem.Spec PySem.Calls PyProof.Rows PpSet
section
variable {X : Cx} {β : Type} {SO : Addr → β → HO} {b0 : β} {r : V → List V → Hp → VK → Prop}
noncomputable def tScG (SO : Addr → β → HO) (b0 : β) (r : V → List V → Hp → VK → Prop) (wi : TI) (g : TG) (tt : TT) (te : TE) (vs : List Nat) : TE := fun σ H Q => wi σ H fun J H1 =>
  ∀ D, H1 D = none → ∃ M : Nat → Nat → Hp → Prop, (∃ k, M 0 k (upd H1 D (SO D b0))) ∧ ∀ j k Hj, M j k Hj →
    (J.stop j Hj ∧ Q (.ref D) Hj) ∨ (J.go j Hj ∧ ∃ N : Hp → Prop, (∀ Hk, N Hk → ∃ k', k' < k ∧ M (j + 1) k' Hk) ∧
      ∀ x Hk, J.yld j Hj x Hk → g x (wipe σ vs) Hk fun σ2 H2 => wipe σ2 vs = wipe σ vs ∧ tt σ2 H2 fun b H3 => if b = true then te σ2 H3 fun y H4 => r (.ref D) [y] H4 (fun _ H5 => N H5) else N H3)
noncomputable abbrev freshSet (w : World) : Obj := { cls := .type "set", dict := none, data := .set #[] 0 (.fresh 0 0 (!w.params.followText "set-order")) }
theorem scg_core {pins : List (Addr × Obj)} {s : Shared} {σ : L2.St} {H : Hp} {Q : VK} {elt tg iter : Expr} {ifs : List Expr} {scope : Scope} {own : List (Str × Nat)} {pos pos' : Pos} {wi : TI} {g : TG} {tt : TT} {te : TE} {use : Option (Value → Sem Unit)} {Qf : Value → Shared → Prop}
    (hnew : ∀ (Hx : Hp) (h : Heap) (a : Addr), h.get? a = some (freshSet X.w) → ObjOk X.prog X.w Hx h a (SO a b0))
    (hadd : ∀ (s : Shared) (H : Hp) (C : Addr) (cl : List (Str × Addr)) (fp : List Addr), MtR (X.blk s H scope (compEnvC scope cl C X.env) fp) "set.add" r)
    (hc : X.calm = true) (hN : X.N.Nodup) (I : Inv X pins σ H s) (hi : PI X tg iter wi) (ok : BlkOk X.N X.env.scope scope own)
    (hg : ∀ (s : Shared) (H : Hp) (C : Addr) (cl : List (Str × Addr)) (fp : List Addr), PG (X.blk s H scope (compEnvC scope cl C X.env) fp) tg g)
    (ht : ∀ (s : Shared) (H : Hp) (C : Addr) (cl : List (Str × Addr)) (fp : List Addr), PTs (X.blk s H scope (compEnvC scope cl C X.env) fp) ifs tt)
    (he : ∀ (s : Shared) (H : Hp) (C : Addr) (cl : List (Str × Addr)) (fp : List Addr), PE (X.blk s H scope (compEnvC scope cl C X.env) fp) elt te)
    (hs : ∀ x, foldedSetIterable iter X.env x = pure x) (h : tScG SO b0 r wi g tt te (own.map (·.2)) σ H Q)
    (hend : ∀ D C s' m H', Inv X pins σ H' s' → Q (.ref D) H' → s'.heap.Ns C m → FpOk X pins H' C → compPost (model X.prog X.w) X.A X.xe use Qf (.ref D) C (.ok .next) s') :
    wpAny (model X.prog X.w) X.A (comprehension (.SetComp elt [⟨tg, iter, ifs, 0⟩] scope pos) scope X.env pos' (newSet (.type "set")) false (eval iter X.env) use) Qf X.xe s := by
  have cells : ∀ y ∈ scope.names, y.2 = .free → ∃ c, X.env.cells.lookup y.1 = some c := fun y hy e =>
    (ok.free y hy e).elim (fun k => I.ok.has _ (.inl k)) (fun k => I.ok.has _ (.inr k))
  refine wpAny_comprehension_free (use := use) rfl hs (closure_ok cells) ok.kind (fun y hy e => (ok.uniq y hy).trans (by rw [e])) ?_
  refine thn (hi.run pins s σ H _ I h) fun xv s1 hx => thn hx fun itv s2 h2 => ?_
  obtain ⟨it, fp, tn, J, H2, rfl, I2, T, at2, ft2, q⟩ := h2
  refine newSet_ok (newEnv_comp ?_)
  have hDn : H2 s2.heap.objs.size = none := I2.hok.fresh (Nat.le_refl _)
  obtain ⟨M, ⟨k0, m0⟩, turn⟩ := q _ hDn
  have pushed : ∀ b o, s2.heap.get? b = some o → (s2.heap.push (freshSet X.w)).get? b = some o := fun b o e => Heap.get?_push_of_some _ e
  have hself : (s2.heap.push (freshSet X.w)).get? s2.heap.objs.size = some (freshSet X.w) := Heap.get?_push_size _ rfl
  generalize hD : s2.heap.objs.size = D at hDn m0 turn hself
  have J3 : Inv X pins σ (upd H2 D (SO D b0)) { s2 with heap := s2.heap.push (freshSet X.w) } := I2.laid (t' := s2.toks) pushed (Nat.le_of_eq hD) (hnew _ _ _ hself)
  have lt2 : ∀ b ∈ fp, b < s2.heap.objs.size := fun b hb => by
    obtain ⟨o, e, -⟩ := T.obj _ _ at2 b hb
    exact Heap.lt_size e
  have ft3 : ∀ b ∈ fp, FpOk X pins (upd H2 D (SO D b0)) b ∧ b < (s2.heap.push (freshSet X.w)).objs.size := fun b hb =>
    ⟨⟨by rw [upd_ne (by rw [← hD]; exact Nat.ne_of_lt (lt2 b hb))]; exact (ft2 b hb).1, (ft2 b hb).2⟩, by rw [Heap.size_push]; exact Nat.lt_succ_of_lt (lt2 b hb)⟩
  have at3 : tn 0 (s2.heap.push (freshSet X.w)) := T.keep _ _ _ at2 fun b _ o e => pushed b o e
  generalize hs3 : ({ s2 with heap := s2.heap.push (freshSet X.w) } : Shared) = s3 at J3
  have hp3 : s2.heap.push (freshSet X.w) = s3.heap := by rw [← hs3]
  rw [hp3] at ft3 at3
  generalize hH3 : upd H2 D (SO D b0) = H3 at J3 m0 ft3
  have J4 := block_start J3 ok hN ft3
  have no3 : ∀ b ∈ fp, H3 b = none := fun b hb => (ft3 b hb).1.1
  generalize hC : s3.heap.objs.size = C at J4
  have lC : (compEnvC scope (cellsFrom (C + 1) scope.names (cloFrom X.env.cells scope.names [])) C X.env).locals = C := rfl
  have pg := hg s3 H3 C (cellsFrom (C + 1) scope.names (cloFrom X.env.cells scope.names [])) fp
  have pt := ht s3 H3 C (cellsFrom (C + 1) scope.names (cloFrom X.env.cells scope.names [])) fp
  have pe := he s3 H3 C (cellsFrom (C + 1) scope.names (cloFrom X.env.cells scope.names [])) fp
  have pa := hadd s3 H3 C (cellsFrom (C + 1) scope.names (cloFrom X.env.cells scope.names [])) fp
  show codeAny _ _ (.compStart (.SetComp elt [⟨tg, iter, ifs, 0⟩] scope pos) 0 (.ref it) (.ref D) (compEnvC scope (cellsFrom (C + 1) scope.names (cloFrom X.env.cells scope.names [])) C X.env))
    (compPost (model X.prog X.w) X.A X.xe use Qf (.ref D) C) { s3 with heap := pushCells (s3.heap.push { cls := .type "dict", data := .dict #[] }) scope.names }
  generalize compEnvC scope (cellsFrom (C + 1) scope.names (cloFrom X.env.cells scope.names [])) C X.env = ce at J4 pg pt pe pa lC ⊢
  have at4 : tn 0 ({ s3 with heap := pushCells (s3.heap.push { cls := .type "dict", data := .dict #[] }) scope.names } : Shared).heap := T.keep _ _ _ at3 fun b _ o e => pushCells_keeps _ _ _ _ (Heap.get?_push_of_some _ e)
  generalize ({ s3 with heap := pushCells (s3.heap.push { cls := .type "dict", data := .dict #[] }) scope.names } : Shared) = s4 at J4 at4 ⊢
  have foot : ∀ {σ' : L2.St} {H' : Hp} {s' : Shared}, Inv (X.blk s3 H3 scope ce fp) [] σ' H' s' → (∀ b ∈ fp, H' b = none) → ∀ b ∈ fp, FpOk (X.blk s3 H3 scope ce fp) [] H' b :=
    fun {_ _ _} Jx nx b hb => ⟨nx b hb, (Jx.ok.exf b hb).1, Jx.ok.exfs b hb, .inl hb, fun y c e => (Jx.ok.exf b hb).2 y c e, fun p hp => absurd (show p ∈ ([] : List (Addr × Obj)) ++ [] from hp) (by simp)⟩
  have whole : codeAny (model X.prog X.w) X.A (.compLoop (.SetComp elt [⟨tg, iter, ifs, 0⟩] scope pos) 0 (.ref it) (.ref D) ce) (compPost (model X.prog X.w) X.A X.xe use Qf (.ref D) C) s4 := by
    refine compLoopS_any (fun n s' => ∃ j Hj, Inv (X.blk s3 H3 scope ce fp) [] (wipe σ (own.map (·.2))) Hj s' ∧ tn j s'.heap ∧ (∀ b ∈ fp, Hj b = none) ∧ M j n Hj) ?_ k0 ⟨0, H3, J4, at4, no3, m0⟩
    rintro n s5 ⟨j, H5, J5, at5, no5, m5⟩
    rcases turn j n H5 m5 with ⟨stop, fin⟩ | ⟨go, N, hN', step⟩
    · refine thnF (T.done (X.blk s3 H3 scope ce fp) rfl rfl rfl hc j [] s5 _ H5 (fun _ _ => False) J5 (foot J5 no5) at5 stop) fun res s6 hres => ?_
      obtain ⟨rfl, J6⟩ := hres
      have J7 : Inv X pins σ H5 s6 := J3.call' (ch := fp) J6.os J6.base J6.hok J6.bare fun b hb => by
        obtain ⟨⟨_, z1, z2, z3, z4, z5⟩, _⟩ := ft3 b hb
        exact ⟨z3, z1, z4, z5⟩
      have nC : H5 C = none := by
        have z : H5 ce.locals = none := J6.free
        rwa [lC] at z
      obtain ⟨mm, hm, -⟩ := J6.loc
      have hm' : s6.heap.Ns ce.locals mm := hm
      rw [lC] at hm'
      exact hend D C s6 mm H5 J7 fin hm' (J3.fpOk (Nat.le_of_eq hC) nC)
    · refine thnF (T.item (X.blk s3 H3 scope ce fp) rfl rfl rfl hc j [] s5 _ H5 (fun _ _ => False) J5 (foot J5 no5) at5 go) fun res s6 hres => ?_
      obtain ⟨u, rfl, h6⟩ := hres
      refine thnF h6 fun _ s7 ⟨x, H7, J7, r7, y7, at7, no7⟩ => ?_
      refine thnF (pg.run _ s7 _ H7 x u _ (J7.pinned (foot J7 no7) (T.obj _ _ at7)) r7 (step x H7 y7)) fun _ s8 ⟨σ8, H8, J8, w8, q8⟩ => ?_
      refine thnF (pt.run _ s8 σ8 H8 _ J8 q8) fun b s9 ⟨H9, J9, q9⟩ => ?_
      have close : ∀ {s' : Shared} {H' : Hp}, Inv (X.blk s3 H3 scope ce fp) ([] ++ pinsAt fp s7.heap) σ8 H' s' → N H' → ∃ k', k' < n ∧ ∃ j Hj, Inv (X.blk s3 H3 scope ce fp) [] (wipe σ (own.map (·.2))) Hj s' ∧ tn j s'.heap ∧ (∀ b ∈ fp, Hj b = none) ∧ M j k' Hj := by
        intro s' H' Jx nx
        obtain ⟨k', lt, mm⟩ := hN' H' nx
        have pin : ∀ b ∈ fp, ∀ o, s7.heap.get? b = some o → s'.heap.get? b = some o ∧ H' b = none := fun b hb o e => by
          have z := Jx.pin (b, o) (List.mem_append_right _ (List.mem_append_right _ (mem_pinsAt hb e)))
          exact ⟨z.1, z.2.1⟩
        refine ⟨k', lt, j + 1, H', (Jx.unpinned (pins := [])).weak (by rw [← w8, wipe_length]) (fun i v e => (wipe_some (by rw [w8]; exact e)).1), T.keep _ _ _ at7 fun b hb o e => (pin b hb o e).1, fun b hb => ?_, mm⟩
        obtain ⟨o, e, -⟩ := T.obj _ _ at7 b hb
        exact (pin b hb o e).2
      cases b with
      | false => exact close J9 (by simpa using q9)
      | true =>
        have q9' := q9
        simp only [if_true] at q9' ⊢
        refine thnF (pe.run _ s9 σ8 H9 _ J9 q9') fun z s10 ⟨yv, H10, J10, r10, q10⟩ => ?_
        exact thnF (pa _ s10 σ8 H10 (.ref D) [yv] (.ref D) [z] _ J10 rfl (.cons r10 .nil) q10) fun _ s11 ⟨_, H11, J11, _, nx⟩ => close J11 nx
  exact codeAny_compStart_set whole (T.self X.A 0 _ _ _ at4 whole)
theorem pe_scG {elt tg iter : Expr} {ifs : List Expr} {scope : Scope} {own : List (Str × Nat)} {pos : Pos} {wi : TI} {g : TG} {tt : TT} {te : TE}
    (hnew : ∀ (Hx : Hp) (h : Heap) (a : Addr), h.get? a = some (freshSet X.w) → ObjOk X.prog X.w Hx h a (SO a b0))
    (hadd : ∀ (s : Shared) (H : Hp) (C : Addr) (cl : List (Str × Addr)) (fp : List Addr), MtR (X.blk s H scope (compEnvC scope cl C X.env) fp) "set.add" r)
    (hc : X.calm = true) (hN : X.N.Nodup) (hi : PI X tg iter wi) (ok : BlkOk X.N X.env.scope scope own)
    (hg : ∀ (s : Shared) (H : Hp) (C : Addr) (cl : List (Str × Addr)) (fp : List Addr), PG (X.blk s H scope (compEnvC scope cl C X.env) fp) tg g)
    (ht : ∀ (s : Shared) (H : Hp) (C : Addr) (cl : List (Str × Addr)) (fp : List Addr), PTs (X.blk s H scope (compEnvC scope cl C X.env) fp) ifs tt)
    (he : ∀ (s : Shared) (H : Hp) (C : Addr) (cl : List (Str × Addr)) (fp : List Addr), PE (X.blk s H scope (compEnvC scope cl C X.env) fp) elt te) (hs : ∀ x, foldedSetIterable iter X.env x = pure x := by intro _; rfl) :
    PE X (.SetComp elt [⟨tg, iter, ifs, 0⟩] scope pos) (tScG SO b0 r wi g tt te (own.map (·.2))) := ⟨fun pins s σ H Q I h => by
  rw [eval_SetComp]
  refine scg_core hnew hadd hc hN I hi ok hg ht he hs h fun D C s' m H' J q hn ⟨z0, z1, z2, z3, z4, z5⟩ => ⟨m, hn, fun h'' sb => ⟨.ref D, H', ?_, rfl, q⟩⟩
  exact J.turned (t' := s'.toks) (fun b o hb e => (sb.2 b hb).trans e) z0 z1 z3 z4 z5⟩
end
end DV
namespace DV
open PySem L2
noncomputable def insU (k : Int) : List Int → List Int
  | [] => [k]
  | x :: xs => if k < x then k :: x :: xs else if k = x then x :: xs else x :: insU k xs
noncomputable def setI (ns : List Int) : List Int := ns.foldl (fun l k => insU k l) []
theorem ext_ne_code {a : Addr} {q : Str} {φ : Heap → Prop} (hφ : ∀ (h : Heap) (o : Obj), φ h → h.get? a = some o → ∀ vs, o.data ≠ .fields vs) : HO.ext φ ≠ LamX.CodeO a q := fun z => by
  unfold LamX.CodeO at z
  injection z with z
  let o : Obj := { cls := .none, data := .fields #[.none, .str q default] }
  let h : Heap := { objs := Array.replicate (a + 1) o }
  have hg : h.get? a = some o := by
    show (match (Array.replicate (a + 1) o)[a]? with | some ⟨_, _, .freed, _⟩ => none | r => r) = some o
    have : (Array.replicate (a + 1) o)[a]? = some o := by simp
    rw [this]
  have hφh : φ h := by
    rw [z]
    exact ⟨o, _, _, hg, rfl, rfl⟩
  exact hφ h o hφh hg _ rfl
section
variable {X : Cx} {W : WX} {K : PySem.W.Frag}
theorem sc_it {β : Type} {SO : Addr → β → HO} {b0 : β} {r : V → List V → Hp → VK → Prop} {J : It} {n : Nat} {G : Hp → Prop} {Y : Nat → Hp → V → Hp → Prop} (w : Walk J n G Y) {g : TG} {tt : TT} {te : TE} {vs : List Nat} {σ : L2.St} {H1 : Hp} {D : Addr} {Qd : Hp → Prop} (Pv : Nat → Hp → Prop)
    (h0 : Pv 0 (upd H1 D (SO D b0))) (hG : ∀ i H, i ≤ n → Pv i H → G H)
    (hs : ∀ i x H H', i < n → Pv i H → Y i H x H' → g x (wipe σ vs) H' fun σ2 H2 => wipe σ2 vs = wipe σ vs ∧ tt σ2 H2 fun b H3 => if b = true then te σ2 H3 fun y H4 => r (.ref D) [y] H4 (fun _ H5 => Pv (i + 1) H5) else Pv (i + 1) H3) (hd : ∀ H, Pv n H → Qd H) :
    ∃ M : Nat → Nat → Hp → Prop, (∃ k, M 0 k (upd H1 D (SO D b0))) ∧ ∀ j k Hj, M j k Hj → (J.stop j Hj ∧ Qd Hj) ∨ (J.go j Hj ∧ ∃ N : Hp → Prop, (∀ Hk, N Hk → ∃ k', k' < k ∧ M (j + 1) k' Hk) ∧
      ∀ x Hk, J.yld j Hj x Hk → g x (wipe σ vs) Hk fun σ2 H2 => wipe σ2 vs = wipe σ vs ∧ tt σ2 H2 fun b H3 => if b = true then te σ2 H3 fun y H4 => r (.ref D) [y] H4 (fun _ H5 => N H5) else N H3) := by
  refine ⟨fun i m H => m = n - i ∧ i ≤ n ∧ Pv i H, ⟨n, by simp, Nat.zero_le _, h0⟩, ?_⟩
  rintro i m H ⟨rfl, hin, pv⟩
  have q := hG i H hin pv
  by_cases hlt : i < n
  · exact .inr ⟨w.goes i H hlt q, Pv (i + 1), fun H' pv' => ⟨n - (i + 1), by omega, rfl, hlt, pv'⟩, fun x H' y => hs i x H H' hlt pv (w.yields i H x H' hlt q y)⟩
  · obtain rfl : i = n := by omega
    exact .inl ⟨w.stops H q, hd H pv⟩
end
end DV
namespace DV
open PySem L2
section
variable {X : Cx} {W : WX}
end
end DV
namespace DV
open PySem PySem.Spec PySem.Calls PyProof.Rows L2
section
variable {prog : Program} {w : World} {A : Around} {E : Value → Shared → Prop} {s : Shared}
end
end DV
namespace DV
open PySem PySem.Spec PySem.Calls PyProof.Rows L2
section
variable {X : Cx} {W : WX}
end
end DV
namespace DV
open PySem L2
inductive RpK (K : PySem.W.Frag) (B : Hp) : List (Key × V) → List (Key × D) → Prop
  | nil : RpK K B [] []
  | cons {k : Key} {v : V} {d : D} {us : List (Key × V)} {ks : List (Key × D)} : Rp K B v d → RpK K B us ks → RpK K B ((k, v) :: us) ((k, d) :: ks)
section
variable {K : PySem.W.Frag} {B B' : Hp}
theorem RpK.keys : ∀ {us : List (Key × V)} {ks : List (Key × D)}, RpK K B us ks → us.map (·.1) = ks.map (·.1)
  | _, _, .nil => rfl
  | _, _, .cons _ r => by simp [RpK.keys r]
theorem RpK.length {us : List (Key × V)} {ks : List (Key × D)} (r : RpK K B us ks) : us.length = ks.length := by
  have := congrArg List.length r.keys
  simpa using this
theorem RpK.append : ∀ {us ws : List (Key × V)} {ks ls : List (Key × D)}, RpK K B us ks → RpK K B ws ls → RpK K B (us ++ ws) (ks ++ ls)
  | _, _, _, _, .nil, s => s
  | _, _, _, _, .cons h r, s => .cons h (RpK.append r s)
end
section
variable {X : Cx} {W : WX} {K : PySem.W.Frag}
end
end DV
namespace DV
open PySem L2
mutual
noncomputable def D.noDct : D → Bool
  | .v _ => true
  | .lst xs => D.noDctA xs
  | .tup xs => D.noDctA xs
  | .dct _ _ => false
  | .dlk _ _ => false
  | .ins _ _ _ => false
  | .dtt _ _ => false
  | .ptp _ => false
  | .wor _ _ => false
noncomputable def D.noDctA : List D → Bool
  | [] => true
  | x :: xs => x.noDct && D.noDctA xs
end
section
variable {K : PySem.W.Frag} {B B' : Hp} {p : Addr}
end
section
variable {X : Cx} {W : WX} {K : PySem.W.Frag}
end
end DV
namespace DV
open PySem L2
section
variable {X : Cx} {W : WX} {K : PySem.W.Frag}
end
end DV
namespace DV
open PySem L2
section
variable {X : Cx} {W : WX} {K : PySem.W.Frag}
noncomputable def encD (d : D) : PyData := d.py.getD .none
noncomputable def leD : D → D → Bool := PySem.W.dataLe false encD
noncomputable def sortOk (ps : List PyData) : Bool := (ps.all fun p => ps.all fun q => PySem.W.alike p q) && (ps.all fun p => match p with
  | .tuple (_ :: _) => true
  | _ => false) && ps.all fun p => decide (p.depth ≤ 60)
noncomputable def rSortD (K : PySem.W.Frag) : List V → Hp → VK → Prop := fun xs H Q => ∃ p ys ds B, xs = [.ref p] ∧ Same B H ∧ SqL K H p ys ∧ RpA K B ys ds ∧ (∃ ps, D.pyA ds = some ps ∧ sortOk ps = true) ∧ ∀ q zs, H q = none → RpA K B zs (ds.mergeSort leD) → Q (.ref q) (upd H q (.lst zs))
theorem pyA_map : ∀ {ds : List D} {ps : List PyData}, D.pyA ds = some ps → ps = ds.map encD ∧ ∀ d ∈ ds, d.py = some (encD d)
  | [], ps, h => by cases h; exact ⟨rfl, fun d hd => by cases hd⟩
  | d :: ds, ps, h => by
    unfold D.pyA at h
    cases q1 : d.py with
    | none => rw [q1] at h; cases h
    | some a =>
      cases q2 : D.pyA ds with
      | none => rw [q1, q2] at h; cases h
      | some as =>
        rw [q1, q2] at h
        cases h
        obtain ⟨i1, i2⟩ := pyA_map q2
        have e : encD d = a := by unfold encD; rw [q1]; rfl
        refine ⟨by rw [i1, List.map_cons, e], fun x hx => ?_⟩
        rcases List.mem_cons.mp hx with rfl | hx
        · rw [q1, e]
        · exact i2 x hx
theorem cr_sortD (hu : X.A.units + 64 < cLine) : CallR X (.builtin "sorted") (rSortD X.K) := by
  intro pins s σ H xs us Q I r h
  obtain ⟨p, ys, ds, B, rfl, i, hs, rp, ⟨ps, hps, hok⟩, q⟩ := h
  rw [Vals.ref1 r]
  obtain ⟨its, rv, hl, hz⟩ := I.list hs
  obtain ⟨rfl, hpy⟩ := pyA_map hps
  simp only [sortOk, Bool.and_eq_true, List.all_eq_true, decide_eq_true_eq] at hok
  obtain ⟨⟨h1, h2⟩, h3⟩ := hok
  have er : ∀ {ys : List V} {its : List Value} {ds : List D}, Vals ys its → RpA X.K B ys ds → (∀ d ∈ ds, d.py = some (encD d)) → PySem.W.EachIs (fun v d => ∃ as, Reads s.heap v (encD d) as) its ds ∧ PySem.W.EachIs (fun v d => ∃ x, RelV x v ∧ Rp X.K B x d) its ds := by
    intro ys
    induction ys with
    | nil => intro its ds rv rp _; cases rv; cases rp; exact ⟨.nil, .nil⟩
    | cons y ys ih =>
      intro its ds rv rp hp
      cases rv with
      | cons rv1 rv2 =>
        cases rp with
        | @cons _ _ d ds rp1 rp2 =>
          obtain ⟨a1, a2⟩ := ih rv2 rp2 fun d hd => hp d (by simp [hd])
          exact ⟨.cons (Dp.reads I _ _ _ (dp_mono i (dp_of rp1 (hp d (by simp)))) rv1) a1, .cons ⟨_, rv1, rp1⟩ a2⟩
  obtain ⟨e1, e2⟩ := er rv rp hpy
  have hlen : ds.length ≤ sizeLine := by rw [← rp.length]; exact hz
  refine PySem.W.sorted_data (bs := ds) (enc := encD) (R := fun v d => ∃ x, RelV x v ∧ Rp X.K B x d) hl.isList e2 e1 (fun d hd d' hd' => h1 d hd d' hd') (.inl fun d hd => ?_) hlen (fun d hd => ?_) fun out ho hout => ?_
  · have := h2 d hd
    split at this
    · exact ⟨_, _, rfl⟩
    · cases this
  · have := h3 (encD d) (List.mem_map.mpr ⟨d, hd, rfl⟩)
    omega
  · have back : ∀ {out : List Value} {ds : List D}, PySem.W.EachIs (fun v d => ∃ x, RelV x v ∧ Rp X.K B x d) out ds → ∃ zs, Vals zs out ∧ RpA X.K B zs ds := by
      intro out
      induction out with
      | nil => intro ds h; cases h; exact ⟨[], .nil, .nil⟩
      | cons v out ih =>
        intro ds h
        cases h with
        | cons a b =>
          obtain ⟨x, x1, x2⟩ := a
          obtain ⟨zs, z1, z2⟩ := ih b
          exact ⟨x :: zs, .cons x1 z1, .cons x2 z2⟩
    obtain ⟨zs, z1, z2⟩ := back hout
    obtain ⟨ep, he'⟩ := PyProof.Rows.sortedAll_at s.heap its (List.toArray out)
    have hzl : zs.length ≤ sizeLine := by rw [z1.length, ho]; exact hlen
    exact ⟨.ref _, upd H (s.heap.objs.size + 1) (.lst zs), I.laid (t' := s.toks) (fun _ _ => PyProof.Rows.sortedAll_old) (Nat.le_succ _) ⟨hzl, out, ep, z1, he'⟩, rfl, q _ zs (I.hok.fresh (Nat.le_succ _)) z2⟩
noncomputable def srtD (ds : List D) : Res (List D) := match intsD ds with
  | some ns => .ok ((sortI ns).map D.int)
  | none => match D.pyA ds with
    | some ps => if sortOk ps then .ok (ds.mergeSort leD) else .no
    | none => .no
noncomputable def asL : D → Res (List D)
  | .lst ds => .ok ds
  | _ => .no
noncomputable def cSrt (f : DS → Res D) : DS → Res (List D) := fun δ => (f δ).bind fun d => (asL d).bind srtD
theorem cf_sorted (K : PySem.W.Frag) (hK : X.K = K) (hu : X.A.units + 64 < cLine) {a : Expr} {p pos : Pos} {t : TE} {f : DS → Res D} (hm : X.mg "sorted" = none) (ha : CE X W a t f) (hg : Gl X "sorted" := by rfl) (hs : starEach [a] X.env = (false, eval a X.env) :: starEach [] X.env := by rfl) (hpl : (backTo pos (starEach [] X.env)).any (·.1) = false := by rfl) :
    CF X W (.Call (.Name "sorted" p) [a] [] pos) (tCB (fun xs H Q => rSortedI K xs H Q ∨ rSortD K xs H Q) (tCons t tNil)) (cSrt f) := by
  subst hK
  refine ⟨pe_callB (CallR.or cr_sortedI (cr_sortD hu)) hg hm (by decide +kernel) (pa_cons ha.pe pa_nil hs) (by decide) (by decide) hs hpl, fun B0 H0 δ σ B H Q rel hp => ?_⟩
  unfold cSrt at hp
  refine ha.se B0 H0 δ σ B H _ rel ?_
  cases e : f δ with
  | no => rw [e] at hp; exact hp
  | er x => rw [e] at hp; exact hp
  | ok d =>
    rw [e, Res.bind_ok] at hp
    intro v B1 H1 g1 r1
    unfold asL at hp
    split at hp
    · rw [Res.bind_ok] at hp
      unfold srtD at hp
      split at hp
      · rename_i ns e2
        cases r1 with
        | lst h1 q =>
          rw [intsD_of e2] at q
          have e3 := q.ints_of
          subst e3
          refine .inl ⟨_, ns, rfl, g1.i.seq h1, fun ms z pm sr hz => ?_⟩
          have : ms = sortI ns := sortI_unique pm sr
          subst this
          exact hp z _ B1 _ (g1.trans (Grow.raw g1.i hz)) (g1.free hz) (g1.i.free hz) upd_same (RpA.ints _)
      · split at hp
        · rename_i ps e2
          split at hp
          · rename_i hok
            cases r1 with
            | lst h1 q =>
              exact .inr ⟨_, _, _, B1, rfl, g1.i, g1.i.seq h1, q, ⟨ps, e2, hok⟩, fun z zs hz rz => hp z zs B1 _ (g1.trans (Grow.raw g1.i hz)) (g1.free hz) (g1.i.free hz) upd_same rz⟩
          · exact hp.elim
        · exact hp.elim
    · exact hp.elim
end
end DV
namespace DV
open PySem L2
section
variable {X : Cx} {W : WX} {K : PySem.W.Frag}
noncomputable def lc2F (vs1 : List Nat) (b : D → DS → Option DS) (t : DS → Res Bool) (fi1 : DS → Res (List D)) (b1 : D → DS → Option DS) (t1 : DS → Res Bool) (e : DS → Res D) : List D → DS → Res (List D)
  | [], _ => .ok []
  | d :: ds, δ => match b d δ with
    | none => .no
    | some δ' => (t δ').calm.bind fun k => if k = true then (fi1 δ').calm.bind fun ds1 => (lcF b1 t1 e ds1 (wipeD δ' vs1)).bind fun ys => (lc2F vs1 b t fi1 b1 t1 e ds δ).bind fun zs => .ok (ys ++ zs) else lc2F vs1 b t fi1 b1 t1 e ds δ
theorem lc2F_calm (vs1 : List Nat) (b : D → DS → Option DS) (t : DS → Res Bool) (fi1 : DS → Res (List D)) (b1 : D → DS → Option DS) (t1 : DS → Res Bool) (e : DS → Res D) : ∀ (ds : List D) (δ : DS) (x : Exn), lc2F vs1 b t fi1 b1 t1 e ds δ ≠ .er x
  | [], δ, x => by simp [lc2F]
  | d :: ds, δ, x => by
    unfold lc2F
    split
    · simp
    · rename_i δ' _
      have ih := lc2F_calm vs1 b t fi1 b1 t1 e ds δ x
      cases t δ' with
      | no => simp
      | er x => simp
      | ok k =>
        simp only [Res.calm_ok, Res.bind_ok]
        split
        · cases fi1 δ' with
          | no => simp
          | er x => simp
          | ok ds1 =>
            simp only [Res.calm_ok, Res.bind_ok]
            cases h2 : lcF b1 t1 e ds1 (wipeD δ' vs1) with
            | no => simp
            | er x => exact absurd h2 (lcF_calm _ _ _ _ _ _)
            | ok ys =>
              simp only [Res.bind_ok]
              cases h3 : lc2F vs1 b t fi1 b1 t1 e ds δ with
              | no => simp
              | er x' => simp only [Res.bind_er]; rw [h3] at ih; exact ih
              | ok zs => simp
        · exact ih
noncomputable def cLc2 (vs vs1 : List Nat) (fi : DS → Res (List D)) (b : D → DS → Option DS) (t : DS → Res Bool) (fi1 : DS → Res (List D)) (b1 : D → DS → Option DS) (t1 : DS → Res Bool) (e : DS → Res D) : DS → Res (List D) := fun δ => (fi δ).bind fun ds => match lc2F vs1 b t fi1 b1 t1 e ds (wipeD δ vs) with
  | .ok ys => if ys.length ≤ sizeLine then .ok ys else .no
  | _ => .no
theorem lc2_in {J : It} {n : Nat} {G : Hp → Prop} {Y : Nat → Hp → V → Hp → Prop} (w : Walk J n G Y) {g : TG} {tt : TT} {te : TE} {vs : List Nat} {σ : L2.St} {H1 : Hp} {D : Addr} {Nx : Hp → Prop} (Pv : Nat → Hp → Prop) (h0 : Pv 0 H1) (hG : ∀ i H, i ≤ n → Pv i H → G H)
    (hs : ∀ i x H H', i < n → Pv i H → Y i H x H' → g x (wipe σ vs) H' fun σ3 H5 => wipe σ3 vs = wipe σ vs ∧ tt σ3 H5 fun b H6 => if b = true then te σ3 H6 fun y H7 => ∃ acc, H7 D = some (.lst acc) ∧ acc.length < sizeLine ∧ Pv (i + 1) (upd H7 D (.lst (acc ++ [y]))) else Pv (i + 1) H6) (hd : ∀ H, Pv n H → Nx H) :
    ∃ W1 : Nat → Nat → Hp → Prop, (∃ m, W1 0 m H1) ∧ ∀ j k H, W1 j k H → (J.stop j H ∧ Nx H) ∨ (J.go j H ∧ ∃ Nx1 : Hp → Prop, (∀ H', Nx1 H' → ∃ k', k' < k ∧ W1 (j + 1) k' H') ∧ ∀ x H', J.yld j H x H' → g x (wipe σ vs) H' fun σ3 H5 => wipe σ3 vs = wipe σ vs ∧ tt σ3 H5 fun b H6 =>
      if b = true then te σ3 H6 fun y H7 => ∃ acc, H7 D = some (.lst acc) ∧ acc.length < sizeLine ∧ Nx1 (upd H7 D (.lst (acc ++ [y]))) else Nx1 H6) := by
  refine ⟨fun i m H => m = n - i ∧ i ≤ n ∧ Pv i H, ⟨n, by simp, Nat.zero_le _, h0⟩, ?_⟩
  rintro i m H ⟨rfl, hin, pv⟩
  have q := hG i H hin pv
  by_cases hlt : i < n
  · exact .inr ⟨w.goes i H hlt q, Pv (i + 1), fun H' pv' => ⟨n - (i + 1), by omega, rfl, hlt, pv'⟩, fun x H' y => hs i x H H' hlt pv (w.yields i H x H' hlt q y)⟩
  · obtain rfl : i = n := by omega
    exact .inl ⟨w.stops H q, hd H pv⟩
theorem lc2_out {J : It} {n : Nat} {G : Hp → Prop} {Y : Nat → Hp → V → Hp → Prop} (w : Walk J n G Y) {R : V → Hp → (Hp → Prop) → Prop} {H1 : Hp} {Qd : Hp → Prop} (Pv : Nat → Hp → Prop) (h0 : Pv 0 H1) (hG : ∀ i H, i ≤ n → Pv i H → G H)
    (hs : ∀ i x H H', i < n → Pv i H → Y i H x H' → R x H' (Pv (i + 1))) (hd : ∀ H, Pv n H → Qd H) :
    ∃ M : Nat → Nat → Hp → Prop, (∃ m, M 0 m H1) ∧ ∀ i m H, M i m H → (J.stop i H ∧ Qd H) ∨ (J.go i H ∧ ∃ Nx : Hp → Prop, (∀ H', Nx H' → ∃ m', m' < m ∧ M (i + 1) m' H') ∧ ∀ x H', J.yld i H x H' → R x H' Nx) := by
  refine ⟨fun i m H => m = n - i ∧ i ≤ n ∧ Pv i H, ⟨n, by simp, Nat.zero_le _, h0⟩, ?_⟩
  rintro i m H ⟨rfl, hin, pv⟩
  have q := hG i H hin pv
  by_cases hlt : i < n
  · exact .inr ⟨w.goes i H hlt q, Pv (i + 1), fun H' pv' => ⟨n - (i + 1), by omega, rfl, hlt, pv'⟩, fun x H' y => hs i x H H' hlt pv (w.yields i H x H' hlt q y)⟩
  · obtain rfl : i = n := by omega
    exact .inl ⟨w.stops H q, hd H pv⟩
structure Acc (K : PySem.W.Frag) (B1 H1 : Hp) (Dl : Addr) (us : List V) (done : List D) (B' H' : Hp) : Prop where
  g : Grow K B1 H1 B' H'
  b : B' Dl = none
  h : H' Dl = some (.lst us)
  r : RpA K B' us done
theorem Acc.mono {B1 H1 B' H' B2 H2 : Hp} {Dl : Addr} {us : List V} {done : List D} (a : Acc K B1 H1 Dl us done B' H') (g : Grow K B' H' B2 H2) : Acc K B1 H1 Dl us done B2 H2 :=
  ⟨a.g.trans g, by rw [g.f Dl (by rw [a.h]; simp)]; exact a.b, g.h _ _ a.h ⟨fun _ z => (by cases z), fun _ _ _ z => (by cases z)⟩, a.r.mono g.b⟩
theorem Acc.snoc {B1 H1 B' H' : Hp} {Dl : Addr} {done : List D} {us : List V} {v : V} {d : D} (hD : H1 Dl = none) (a : Acc K B1 H1 Dl us done B' H') (r : Rp K B' v d) : Acc K B1 H1 Dl (us ++ [v]) (done ++ [d]) B' (upd H' Dl (.lst (us ++ [v]))) := by
  have neD : ∀ c o, B' c = some o → c ≠ Dl := fun c o q z => by rw [z, a.b] at q; cases q
  refine ⟨⟨a.g.b, fun c o q nq => ?_, fun c o q => ?_, a.g.f, fun c hc => ?_, fun P hP => tab_upd (a.g.t P hP) a.h, a.g.np a.h (std_lst _).2⟩, a.b, upd_same, a.r.append (.cons r .nil)⟩
  · rw [upd_ne (ne_of_none q hD)]; exact a.g.h c o q nq
  · rw [upd_ne (neD c o q)]; exact a.g.i c o q
  · have : c ≠ Dl := fun z => hc (by rw [z]; exact hD)
    rw [upd_ne this]; exact a.g.e c hc
theorem tab_less {H0 : Hp} {Dl P : Addr} {q : Nat → Nat → Str} {us : List V} (h0 : H0 Dl = none) (h : NdefX.TabN (upd H0 Dl (.lst us)) P q) : NdefX.TabN H0 P q := by
  obtain ⟨ps, h1, h2, h3⟩ := h
  have n1 : P ≠ Dl := fun z => by rw [z, upd_same] at h1; cases h1
  rw [upd_ne n1] at h1
  refine ⟨ps, h1, h2, fun pos cv hc => ?_⟩
  obtain ⟨c, e1, e2⟩ := h3 pos cv hc
  have n2 : c ≠ Dl := fun z => by rw [z, upd_same] at e2; unfold LamX.CodeO at e2; cases e2
  rw [upd_ne n2] at e2
  exact ⟨c, e1, e2⟩
theorem SR.base {H0 H0' : Org} {B H H' : Hp} {v : V} {o : O} (h : SR K H0 B H v o) (hs : H0'.sf = H0.sf) (h0 : ∀ p, H0.h p = none → H p ≠ none → H0'.h p = none ∧ H' p = H p) : SR K H0' B H' v o := by
  cases o with
  | im d => exact h
  | ow ds =>
    obtain ⟨p, vs, rfl, a0, ab, ah, r⟩ := h
    obtain ⟨z1, z2⟩ := h0 p a0 (by rw [ah]; simp)
    exact ⟨p, vs, rfl, z1, ab, z2.trans ah, r⟩
  | od kvs =>
    obtain ⟨p, vs, rfl, a0, ab, ah, k, r⟩ := h
    obtain ⟨z1, z2⟩ := h0 p a0 (by rw [ah]; simp)
    exact ⟨p, vs, rfl, z1, ab, z2.trans ah, k, r⟩
  | tr m k ts =>
    obtain ⟨m1, m2⟩ := RT.move (H' := H') (.nd k ts) v h.1 (Same.refl _) fun q hq => by
      obtain ⟨u, hu, _⟩ := RT.kind _ _ h.1 q hq
      exact (h0 q (h.2.1 q hq).1 (by rw [hu]; simp)).2
    refine ⟨m1, fun q hq => ?_, fun z => hs.trans (h.2.2 z)⟩
    have hq' := (m2 q).mp hq
    obtain ⟨u, hu, _⟩ := RT.kind _ _ h.1 q hq'
    exact ⟨(h0 q (h.2.1 q hq').1 (by rw [hu]; simp)).1, (h.2.1 q hq').2⟩
theorem SR.baseF {H0 H0' : Org} {B H H' : Hp} {v : V} {o : O} (h : SR K H0 B H v o) (hs : H0'.sf = H0.sf) (h0 : ∀ p, H0.h p = none → H p ≠ none → H0'.h p = none ∧ H' p = H p) : ∀ q, Ft K H' v q o → Ft K H v q o := by
  cases o with
  | im d => exact fun q z => z
  | ow ds => exact fun q z => z
  | od kvs => exact fun q z => z
  | tr m k ts =>
    obtain ⟨m1, m2⟩ := RT.move (H' := H') (.nd k ts) v h.1 (Same.refl _) fun q hq => by
      obtain ⟨u, hu, _⟩ := RT.kind _ _ h.1 q hq
      exact (h0 q (h.2.1 q hq).1 (by rw [hu]; simp)).2
    exact fun q hq => (m2 q).mp hq
theorem TBt.re {τ τ2 : Addr → D × D} {B H : Hp} (h : TBt K τ B H) (e : ∀ a, H a ≠ none → τ2 a = τ a) : TBt K τ2 B H := ⟨h.nt, fun x o C dx fs q => by
  obtain ⟨tv, av, a, ob, us, ks, ds, m⟩ := h.mo x o C dx fs q
  exact ⟨tv, av, a, ob, us, ks, ds, by rw [e a (by rw [m.hm]; simp)]; exact m⟩⟩
theorem TBt.sw {τ : Addr → D × D} {B H : Hp} {p : Addr} {us us' : List V} (h : TBt K τ B (upd H p (.lst us))) : TBt K τ B (upd H p (.lst us')) := h.grow (Same.refl _) (fun _ _ q => .inl q) fun a o ws q => by
  by_cases ha : a = p
  · subst ha; rw [upd_same] at q; cases q
  · rw [upd_ne ha] at q ⊢; exact q
theorem Rel.put {B0 : Hp} {H0 : Org} {B H : Hp} {σ : L2.St} {δ : DS} {Dl : Addr} {us us' : List V} (r : Rel K B0 (H0.upd Dl (.lst us)) B H σ δ) (h0 : H0.h Dl = none) (hb : B Dl = none) (hh : H Dl = some (.lst us)) : Rel K B0 (H0.upd Dl (.lst us')) B (upd H Dl (.lst us')) σ δ := by
  have neD : ∀ c o, B c = some o → c ≠ Dl := fun c o q z => by rw [z, hb] at q; cases q
  refine ⟨⟨r.g.b, fun a o q nq => ?_, fun a o q => ?_, fun a ha => ?_, fun a ha => ?_, fun P hP => tab_upd (r.g.t P ((tab_less h0 hP).ext (same_new h0))) hh, fun τ h => ?_⟩, fun p hp => (tab_less h0 (r.tk p hp)).ext (same_new h0), ?_, r.len, fun i o e => ?_, r.seps fun i o v e1 e2 => ?_⟩
  · (try dsimp only [Org.upd] at *)
    by_cases ha : a = Dl
    · subst ha; rw [upd_same] at q ⊢; exact q
    · rw [upd_ne ha] at q ⊢; exact r.g.h a o (by show upd H0.h Dl (.lst us) a = some o; rw [upd_ne ha]; exact q) nq
  · (try dsimp only [Org.upd] at *)
    rw [upd_ne (neD a o q)]; exact r.g.i a o q
  · (try dsimp only [Org.upd] at *)
    by_cases hz : a = Dl
    · exact r.g.f a (by show upd H0.h Dl (.lst us) a ≠ none; rw [hz, upd_same]; simp)
    · exact r.g.f a (by show upd H0.h Dl (.lst us) a ≠ none; rw [upd_ne hz] at ha ⊢; exact ha)
  · (try dsimp only [Org.upd] at *)
    by_cases hz : a = Dl
    · rw [hz, upd_same]; simp
    · rw [upd_ne hz] at ha ⊢; exact r.g.e a (by show upd H0.h Dl (.lst us) a ≠ none; rw [upd_ne hz]; exact ha)
  · obtain ⟨τ', e, h'⟩ := r.g.n τ h.sw
    refine ⟨τ', fun x hx => e x ?_, h'.poke hh (std_lst _).2⟩
    (try dsimp only [Org.upd] at *)
    by_cases hz : x = Dl
    · rw [hz, upd_same]; simp
    · rw [upd_ne hz] at hx ⊢; exact hx
  · exact r.nt.imp fun τ h => h.sw
  · (try dsimp only [Org.upd] at *)
    obtain ⟨v, h1, h2⟩ := r.sl i o e
    refine ⟨v, h1, h2.base rfl fun p hp _ => ?_⟩
    (try dsimp only [Org.upd] at *)
    have np : p ≠ Dl := fun z => by rw [z, upd_same] at hp; cases hp
    rw [upd_ne np] at hp
    exact ⟨by rw [upd_ne np]; exact hp, upd_ne np⟩
  · (try dsimp only [Org.upd] at *)
    obtain ⟨v', h1, h2⟩ := r.sl i o e1
    rw [e2] at h1
    cases h1
    refine h2.baseF (H0' := H0.upd Dl (.lst us')) rfl fun p hp _ => ?_
    (try dsimp only [Org.upd] at *)
    have np : p ≠ Dl := fun z => by rw [z, upd_same] at hp; cases hp
    rw [upd_ne np] at hp
    exact ⟨by rw [upd_ne np]; exact hp, upd_ne np⟩
theorem Rel.put0 {B0 : Hp} {H0 : Org} {B H : Hp} {σ : L2.St} {δ : DS} {Dl : Addr} {us : List V} (r : Rel K B0 H0 B H σ δ) (hh : H Dl = none) : Rel K B0 (H0.upd Dl (.lst us)) B (upd H Dl (.lst us)) σ δ := by
  have h0 : H0.h Dl = none := r.g.free hh
  have hb : B Dl = none := r.g.i.free hh
  have hb0 : B0 Dl = none := r.g.b.free hb
  have neD : ∀ c o, B c = some o → c ≠ Dl := fun c o q z => by rw [z, hb] at q; cases q
  refine ⟨⟨r.g.b, fun a o q nq => ?_, fun a o q => ?_, fun a ha => ?_, fun a ha => ?_, fun P hP => (r.g.t P (tab_less h0 hP)).ext (same_new hh), fun τ h => ?_⟩, fun p hp => (r.tk p hp).ext (same_new h0), r.nt.imp fun τ h => h.grow (Same.refl _) (fun _ _ q => .inl q) fun a o us q => same_new h0 _ _ q, r.len, fun i o e => ?_, r.seps fun i o v e1 e2 => ?_⟩
  · (try dsimp only [Org.upd] at *)
    by_cases ha : a = Dl
    · subst ha; rw [upd_same] at q ⊢; exact q
    · rw [upd_ne ha] at q ⊢; exact r.g.h a o q nq
  · (try dsimp only [Org.upd] at *)
    rw [upd_ne (neD a o q)]; exact r.g.i a o q
  · (try dsimp only [Org.upd] at *)
    by_cases hz : a = Dl
    · rw [hz, hb, hb0]
    · exact r.g.f a (by rw [upd_ne hz] at ha; exact ha)
  · (try dsimp only [Org.upd] at *)
    by_cases hz : a = Dl
    · rw [hz, upd_same]; simp
    · rw [upd_ne hz] at ha ⊢; exact r.g.e a ha
  · obtain ⟨τ', e, h'⟩ := r.g.n τ (h.grow (Same.refl _) (fun _ _ q => .inl q) fun a o ws q => by
      by_cases ha : a = Dl
      · subst ha; (try dsimp only [Org.upd] at q); rw [upd_same] at q; cases q
      · (try dsimp only [Org.upd] at q); rw [upd_ne ha] at q; exact q)
    refine ⟨fun x => if x = Dl then τ x else τ' x, fun x hx => ?_, (h'.re fun x hx => ?_).grow (Same.refl _) (fun _ _ q => .inl q) fun a o ws q => same_new hh _ _ q⟩
    · (try dsimp only [Org.upd] at *)
      by_cases hz : x = Dl
      · rw [if_pos hz]
      · rw [if_neg hz]; rw [upd_ne hz] at hx; exact e x hx
    · have : x ≠ Dl := fun z => hx (by rw [z]; exact hh)
      exact if_neg this
  · (try dsimp only [Org.upd] at *)
    obtain ⟨v, h1, h2⟩ := r.sl i o e
    refine ⟨v, h1, h2.base rfl fun p hp hq => ?_⟩
    (try dsimp only [Org.upd] at *)
    have np : p ≠ Dl := fun z => hq (by rw [z]; exact hh)
    exact ⟨by rw [upd_ne np]; exact hp, upd_ne np⟩
  · (try dsimp only [Org.upd] at *)
    obtain ⟨v', h1, h2⟩ := r.sl i o e1
    rw [e2] at h1
    cases h1
    refine h2.baseF (H0' := H0.upd Dl (.lst us)) rfl fun p hp hq => ?_
    (try dsimp only [Org.upd] at *)
    have np : p ≠ Dl := fun z => hq (by rw [z]; exact hh)
    exact ⟨by rw [upd_ne np]; exact hp, upd_ne np⟩
theorem sf_lc2 {wi wi1 : TI} {g g1 : TG} {tt tt1 : TT} {te : TE} {vs vs1 is is1 : List Nat} {fi fi1 : DS → Res (List D)} {b b1 : D → DS → Option DS} {t t1 : DS → Res Bool} {e : DS → Res D}
    (hi : ∀ B0 H0 δ σ B H (R : It → Hp → Prop), Rel K B0 H0 B H σ δ → PostI K B H σ W R (fi δ) → wi σ H R)
    (hg : ∀ B0 H0 B H σ δ v d (Q : L2.St → Hp → Prop), Rel K B0 H0 B H σ δ → Rp K B v d → (∀ δ' σ', b d δ = some δ' → Rel K B0 H0 B H σ' δ' → σ'.length = σ.length → (∀ j, j ∉ is → σ'[j]? = σ[j]?) → Q σ' H) → b d δ ≠ none → g v σ H Q)
    (ht : ST K W0 tt t) (hi1 : ∀ B0 H0 δ σ B H (R : It → Hp → Prop), Rel K B0 H0 B H σ δ → PostI K B H σ W0 R (fi1 δ) → wi1 σ H R)
    (hg1 : ∀ B0 H0 B H σ δ v d (Q : L2.St → Hp → Prop), Rel K B0 H0 B H σ δ → Rp K B v d → (∀ δ' σ', b1 d δ = some δ' → Rel K B0 H0 B H σ' δ' → σ'.length = σ.length → (∀ j, j ∉ is1 → σ'[j]? = σ[j]?) → Q σ' H) → b1 d δ ≠ none → g1 v σ H Q)
    (ht1 : ST K W0 tt1 t1) (he : SE K W0 te e) (his : ∀ i ∈ is, i ∈ vs) (his1 : ∀ i ∈ is1, i ∈ vs1) : SF K W (tLc2 wi g tt wi1 g1 tt1 te vs vs1) (cLc2 vs vs1 fi b t fi1 b1 t1 e) := fun B0 H0 δ σ B H Q rel hp => by
  unfold cLc2 at hp
  refine hi B0 H0 δ σ B H _ rel ?_
  cases e1 : fi δ with
  | no => rw [e1] at hp; exact hp
  | er x => rw [e1] at hp; exact hp
  | ok ds =>
    rw [e1, Res.bind_ok] at hp
    intro J B1 H1 G Y gg1 wk hG hY Dl hD
    cases e2 : lc2F vs1 b t fi1 b1 t1 e ds (wipeD δ vs) with
    | no => rw [e2] at hp; exact hp.elim
    | er x => rw [e2] at hp; exact hp.elim
    | ok ys =>
      rw [e2] at hp
      dsimp only at hp
      split at hp
      case isFalse => exact hp.elim
      case isTrue hz =>
      have h0D : H0 Dl = none := rel.g.free (gg1.free hD)
      have relw := (rel.mono gg1).wipe vs
      refine lc2_out wk (R := fun x H' Nx => g x (wipe σ vs) H' fun σ2 H2 => wipe σ2 vs = wipe σ vs ∧ tt σ2 H2 fun b H3 => if b = true then wi1 σ2 H3 fun J1 H4 => ∃ W1 : Nat → Nat → Hp → Prop, (∃ m, W1 0 m H4) ∧ ∀ j k H, W1 j k H →
          (J1.stop j H ∧ Nx H) ∨ (J1.go j H ∧ ∃ Nx1 : Hp → Prop, (∀ H', Nx1 H' → ∃ k', k' < k ∧ W1 (j + 1) k' H') ∧ ∀ x H', J1.yld j H x H' → g1 x (wipe σ2 vs1) H' fun σ3 H5 => wipe σ3 vs1 = wipe σ2 vs1 ∧ tt1 σ3 H5 fun b H6 =>
            if b = true then te σ3 H6 fun y H7 => ∃ acc, H7 Dl = some (.lst acc) ∧ acc.length < sizeLine ∧ Nx1 (upd H7 Dl (.lst (acc ++ [y]))) else Nx1 H6) else Nx H3)
        (fun i H' => ∃ B' us done rest, Acc K B1 H1 Dl us done B' H' ∧ Rel K B0 (H0.upd Dl (.lst us)) B' H' (wipe σ vs) (wipeD δ vs) ∧ lc2F vs1 b t fi1 b1 t1 e (ds.drop i) (wipeD δ vs) = .ok rest ∧ done ++ rest = ys) ?_ ?_ ?_ ?_
      · exact ⟨B1, [], [], ys, ⟨Grow.raw gg1.i hD, gg1.i.free hD, upd_same, .nil⟩, relw.put0 hD, by simpa using e2, rfl⟩
      · rintro i H' hin ⟨B', us, done, rest, ac, rl, hr, hy⟩
        exact hG H' (ac.g.b.trans ac.g.i)
      · rintro i x H2 H3 hin ⟨B', us, done, rest, ac, rl, hr, hy⟩ y
        have hlt : i < ds.length := hin
        obtain ⟨B3, g3, rx⟩ := hY i ds[i] B' H2 x H3 (by simp [hlt]) ac.g.b ac.g.i y
        rw [List.drop_eq_getElem_cons hlt] at hr
        unfold lc2F at hr
        cases e3 : b ds[i] (wipeD δ vs) with
        | none => rw [e3] at hr; cases hr
        | some δ' =>
          rw [e3] at hr
          dsimp only at hr
          refine hg B0 _ B3 H3 _ _ x ds[i] _ (rl.mono g3) rx (fun δ2 σ2 e4 rel4 l4 f4 => ?_) (by rw [e3]; simp)
          rw [e3] at e4
          cases e4
          refine ⟨?_, ?_⟩
          · refine (wipe_eq (σ := wipe σ vs) l4 fun j hj => f4 j fun z => hj (his j z)).trans (wipe_eq (wipe_length σ vs) fun j hj => ?_)
            rw [wipe_get, if_neg (fun z => hj z.1)]
          refine ht B0 _ δ' σ2 B3 H3 _ rel4 ?_
          cases e5 : t δ' with
          | no => rw [e5] at hr; simp at hr
          | er x => rw [e5] at hr; simp at hr
          | ok k =>
            rw [e5, Res.calm_ok, Res.bind_ok] at hr
            intro B4 H4 g4
            have g34 := g3.trans g4
            cases k with
            | false =>
              rw [if_neg Bool.false_ne_true] at hr ⊢
              exact ⟨B4, us, done, rest, ac.mono g34, rl.mono g34, hr, hy⟩
            | true =>
              rw [if_pos rfl] at hr ⊢
              refine hi1 B0 _ δ' σ2 B4 H4 _ (rel4.mono g4) ?_
              cases e6 : fi1 δ' with
              | no => rw [e6] at hr; simp at hr
              | er x => rw [e6] at hr; simp at hr
              | ok ds1 =>
                rw [e6, Res.calm_ok, Res.bind_ok] at hr
                intro J1 B5 H5 G1 Y1 g5 wk1 hG1 hY1
                cases e7 : lcF b1 t1 e ds1 (wipeD δ' vs1) with
                | no => rw [e7] at hr; cases hr
                | er x => exact absurd e7 (lcF_calm _ _ _ _ _ _)
                | ok ys1 =>
                rw [e7, Res.bind_ok] at hr
                cases e8 : lc2F vs1 b t fi1 b1 t1 e (ds.drop (i + 1)) (wipeD δ vs) with
                | no => rw [e8] at hr; cases hr
                | er x => exact absurd e8 (lc2F_calm _ _ _ _ _ _ _ _ _ _)
                | ok zs =>
                rw [e8, Res.bind_ok] at hr
                cases hr
                refine lc2_in wk1 (fun j Hj => ∃ Bj uj dn rs, Acc K B1 H1 Dl uj (done ++ dn) Bj Hj ∧ Same B5 Bj ∧ Rel K B0 (H0.upd Dl (.lst uj)) Bj Hj (wipe σ2 vs1) (wipeD δ' vs1) ∧ Rel K B0 (H0.upd Dl (.lst uj)) Bj Hj (wipe σ vs) (wipeD δ vs) ∧ lcF b1 t1 e (ds1.drop j) (wipeD δ' vs1) = .ok rs ∧ dn ++ rs = ys1) ?_ ?_ ?_ ?_
                · exact ⟨B5, us, [], ys1, by simpa using (ac.mono g34).mono g5, Same.refl _, ((rel4.mono g4).mono g5).wipe vs1, (rl.mono g34).mono g5, by simpa using e7, rfl⟩
                · rintro j Hj hj ⟨Bj, uj, dn, rs, acj, sj, r1, r2, hrj, hyj⟩
                  exact hG1 Hj (sj.trans acj.g.i)
                · rintro j xj Hj Hk hj ⟨Bj, uj, dn, rs, acj, sj, r1, r2, hrj, hyj⟩ yj
                  have hltj : j < ds1.length := hj
                  obtain ⟨Bk, gk, rxj⟩ := hY1 j ds1[j] Bj Hj xj Hk (by simp [hltj]) sj acj.g.i yj
                  rw [List.drop_eq_getElem_cons hltj] at hrj
                  unfold lcF at hrj
                  cases f3 : b1 ds1[j] (wipeD δ' vs1) with
                  | none => rw [f3] at hrj; cases hrj
                  | some δ3 =>
                    rw [f3] at hrj
                    dsimp only at hrj
                    refine hg1 B0 _ Bk Hk _ _ xj ds1[j] _ (r1.mono gk) rxj (fun δ4 σ4 k4 rel6 l6 f6 => ?_) (by rw [f3]; simp)
                    rw [f3] at k4
                    cases k4
                    refine ⟨?_, ?_⟩
                    · refine (wipe_eq (σ := wipe σ2 vs1) l6 fun c hc => f6 c fun z => hc (his1 c z)).trans (wipe_eq (wipe_length σ2 vs1) fun c hc => ?_)
                      rw [wipe_get, if_neg (fun z => hc z.1)]
                    refine ht1 B0 _ δ3 σ4 Bk Hk _ rel6 ?_
                    cases f5 : t1 δ3 with
                    | no => rw [f5] at hrj; simp at hrj
                    | er x => rw [f5] at hrj; simp at hrj
                    | ok k1 =>
                      rw [f5, Res.calm_ok, Res.bind_ok] at hrj
                      intro Bl Hl gl
                      have gkl := gk.trans gl
                      cases k1 with
                      | false =>
                        rw [if_neg Bool.false_ne_true] at hrj ⊢
                        exact ⟨Bl, uj, dn, rs, acj.mono gkl, sj.trans gkl.b, r1.mono gkl, r2.mono gkl, hrj, hyj⟩
                      | true =>
                        rw [if_pos rfl] at hrj ⊢
                        refine he B0 _ δ3 σ4 Bl Hl _ (rel6.mono gl) ?_
                        cases f7 : e δ3 with
                        | no => rw [f7] at hrj; simp at hrj
                        | er x => rw [f7] at hrj; simp at hrj
                        | ok yd =>
                          rw [f7, Res.calm_ok, Res.bind_ok] at hrj
                          intro yv Bm Hm gm rm
                          have gkm := gkl.trans gm
                          cases f8 : lcF b1 t1 e (ds1.drop (j + 1)) (wipeD δ' vs1) with
                          | no => rw [f8] at hrj; cases hrj
                          | er x => exact absurd f8 (lcF_calm _ _ _ _ _ _)
                          | ok rs' =>
                          rw [f8, Res.bind_ok] at hrj
                          cases hrj
                          have acm := acj.mono gkm
                          have hlen : uj.length < sizeLine := by
                            have l1 := acm.r.length
                            rw [← hy, ← hyj] at hz
                            simp at hz
                            simp at l1
                            omega
                          refine ⟨uj, acm.h, hlen, Bm, uj ++ [yv], dn ++ [yd], rs', ?_, sj.trans gkm.b, (r1.mono gkm).put h0D acm.b acm.h, (r2.mono gkm).put h0D acm.b acm.h, rfl, by simpa using hyj⟩
                          have := acm.snoc hD rm
                          simpa using this
                · rintro Hj ⟨Bj, uj, dn, rs, acj, sj, r1, r2, hrj, hyj⟩
                  rw [List.drop_length] at hrj
                  cases hrj
                  rw [List.append_nil] at hyj
                  subst hyj
                  exact ⟨Bj, uj, done ++ dn, zs, acj, r2, rfl, by simpa using hy⟩
      · rintro H' ⟨B', us, done, rest, ac, rl, hr, hy⟩
        rw [List.drop_length] at hr
        cases hr
        rw [List.append_nil] at hy
        subst hy
        exact hp Dl us B' H' (gg1.trans ac.g) (gg1.free hD) ac.b ac.h ac.r
theorem lc_2 {elt tg iter tg1 iter1 : Expr} {ifs ifs1 : List Expr} {scope : Scope} {own : List (Str × Nat)} {vs1 : List Nat} {pos : Pos} {wi wi1 : TI} {g g1 : TG} {tt tt1 : TT} {te : TE} {is is1 : List Nat} {fi fi1 : DS → Res (List D)} {b b1 : D → DS → Option DS} {t t1 : DS → Res Bool} {e : DS → Res D}
    (s0 : Shared) (hc : X.calm = true) (hN : X.N.Nodup) (hi : CI X W tg iter wi fi) (ok : BlkOk X.N X.env.scope scope own)
    (hg : ∀ (s : Shared) (H : Hp) (C : Addr) (cl : List (Str × Addr)) (fp : List Addr), CG (X.blk s H scope (compEnvC scope cl C X.env) fp) tg g is b)
    (ht : ∀ (s : Shared) (H : Hp) (C : Addr) (cl : List (Str × Addr)) (fp : List Addr), CTs (X.blk s H scope (compEnvC scope cl C X.env) fp) W0 ifs tt t)
    (hi1 : ∀ (s : Shared) (H : Hp) (C : Addr) (cl : List (Str × Addr)) (fp : List Addr), CI (X.blk s H scope (compEnvC scope cl C X.env) fp) W0 tg1 iter1 wi1 fi1)
    (hg1 : ∀ (s : Shared) (H : Hp) (C : Addr) (cl : List (Str × Addr)) (fp : List Addr), CG (X.blk s H scope (compEnvC scope cl C X.env) fp) tg1 g1 is1 b1)
    (ht1 : ∀ (s : Shared) (H : Hp) (C : Addr) (cl : List (Str × Addr)) (fp : List Addr), CTs (X.blk s H scope (compEnvC scope cl C X.env) fp) W0 ifs1 tt1 t1)
    (he : ∀ (s : Shared) (H : Hp) (C : Addr) (cl : List (Str × Addr)) (fp : List Addr), CE (X.blk s H scope (compEnvC scope cl C X.env) fp) W0 elt te e)
    (his : ∀ i ∈ is, i ∈ own.map (·.2) := by decide) (his1 : ∀ i ∈ is1, i ∈ vs1 := by decide) (hv : ∀ i ∈ vs1, i ∈ own.map (·.2) := by decide) (hs : ∀ x, foldedSetIterable iter X.env x = pure x := by intro _; rfl) (hs1 : ∀ env x, foldedSetIterable iter1 env x = pure x := by intro _ _; rfl) :
    LC X W (.ListComp elt [⟨tg, iter, ifs, 0⟩, ⟨tg1, iter1, ifs1, 0⟩] scope pos) (tLc2 wi g tt wi1 g1 tt1 te (own.map (·.2)) vs1) (cLc2 (own.map (·.2)) vs1 fi b t fi1 b1 t1 e) :=
  ⟨⟨pe_lc2 hc hN hi.pi ok hv (fun s H C cl fp => (hg s H C cl fp).pg) (fun s H C cl fp => (ht s H C cl fp).pt) (fun s H C cl fp => (hi1 s H C cl fp).pi) (fun s H C cl fp => (hg1 s H C cl fp).pg) (fun s H C cl fp => (ht1 s H C cl fp).pt) (fun s H C cl fp => (he s H C cl fp).pe) hs hs1,
    sf_lc2 hi.si (hg s0 (fun _ => none) 0 [] []).sg (ht s0 (fun _ => none) 0 [] []).st (hi1 s0 (fun _ => none) 0 [] []).si (hg1 s0 (fun _ => none) 0 [] []).sg (ht1 s0 (fun _ => none) 0 [] []).st (he s0 (fun _ => none) 0 [] []).se his his1⟩,
   fun i y py spos hy hyl hsw => ps_setLc2 hc hN hy hyl hsw hi.pi ok hv (fun s H C cl fp => (hg s H C cl fp).pg) (fun s H C cl fp => (ht s H C cl fp).pt) (fun s H C cl fp => (hi1 s H C cl fp).pi) (fun s H C cl fp => (hg1 s H C cl fp).pg) (fun s H C cl fp => (ht1 s H C cl fp).pt) (fun s H C cl fp => (he s H C cl fp).pe) hs hs1⟩
end
end DV
namespace DV
open PySem L2
section
variable {X : Cx} {W : WX} {K : PySem.W.Frag}
noncomputable def oInA (neg : Bool) (d e : D) : Res D := match oIn neg d e with
  | .no => match d.py, e with
    | some p, .lst es => match D.pyA es with
      | some ps => if SeqAt.shaped p = true ∧ SeqAt.shaped (.list ps) = true then .ok (.bl (if neg then !(ps.any fun z => PyData.eqv z p) else ps.any fun z => PyData.eqv z p)) else .no
      | none => .no
    | _, _ => .no
  | r => r
mutual
noncomputable def D.noLst : D → Bool
  | .v _ => true
  | .tup xs => D.noLstA xs
  | _ => false
noncomputable def D.noLstA : List D → Bool
  | [] => true
  | x :: xs => x.noLst && D.noLstA xs
end
noncomputable def noLstR : Res D → Res D
  | .ok d => if d.noLst then .ok d else .no
  | _ => .no
noncomputable def fzL (i : Nat) (δ : DS) : DS := match δ[i]? with
  | some (some (.ow ds)) => δ.set i (some (.im (.lst ds)))
  | _ => δ
noncomputable def cLookL (i : Nat) (f : DS → Res D) : DS → Res D := fun δ => noLstR (f (fzL i δ))
mutual
theorem Rp.tups {B B' : Hp} (e : ∀ a u, TK u → B a = some u → B' a = some u) : ∀ {v : V} {d : D}, Rp K B v d → d.noLst = true → Rp K B' v d
  | _, _, .v x, _ => .v x
  | _, _, .lst _ _, hd => by cases hd
  | _, _, .tup h r, hd => by
    rw [D.noLst] at hd
    refine .tup ?_ (RpA.tups e r hd)
    rcases h with (h | ⟨o, h⟩) | h
    · exact .inl (.inl (e _ _ (.inl ⟨_, rfl⟩) h))
    · exact .inl (.inr ⟨o, e _ _ (.inr ⟨_, _, rfl⟩) h⟩)
    · exact .inr h
  | _, _, .dct _ _, hd => by cases hd
  | _, _, .dlk _ _, hd => by cases hd
  | _, _, .dcT _ _ _ _ _ _ _, hd => by cases hd
  | _, _, .ins _ _ _ _, hd => by cases hd
  | _, _, .ptp _ _, hd => by cases hd
  | _, _, .wor _ _ _ _, hd => by cases hd
theorem RpA.tups {B B' : Hp} (e : ∀ a u, TK u → B a = some u → B' a = some u) : ∀ {vs : List V} {ds : List D}, RpA K B vs ds → D.noLstA ds = true → RpA K B' vs ds
  | _, _, .nil, _ => .nil
  | _, _, .cons h r, hd => by
    rw [D.noLstA, Bool.and_eq_true] at hd
    exact .cons (Rp.tups e h hd.1) (RpA.tups e r hd.2)
end
theorem se_lookL (i : Nat) {t : TE} {f : DS → Res D} (h : SE K W t f) : SE K W t (cLookL i f) := fun B0 H0 δ σ B H Q rel hp => by
  unfold cLookL at hp
  by_cases hk : ∃ ds, δ[i]? = some (some (.ow ds))
  · obtain ⟨ds, ei⟩ := hk
    have hfz : fzL i δ = δ.set i (some (.im (.lst ds))) := by unfold fzL; rw [ei]
    obtain ⟨v, h1, p, vs, rfl, h0, hb, hh, q⟩ := rel.sl i _ ei
    obtain ⟨sb, rel2⟩ := rel.freezeG (ho := .lst vs) (d := .lst ds) ei rfl h1 (upd_self hh).symm ⟨⟨fun _ z => (by cases z), fun _ _ _ z => (by cases z)⟩, fun _ _ _ _ z => (by cases z)⟩ (.lst (SqL.of upd_same) (RpA.mono (same_new hb) q))
    rw [hfz] at hp
    refine h B0 H0 _ σ _ H Q rel2 ?_
    cases e : f (δ.set i (some (.im (.lst ds)))) with
    | no => rw [e] at hp; exact hp.elim
    | er x => rw [e] at hp; exact hp.elim
    | ok d =>
      rw [e] at hp
      unfold noLstR at hp
      dsimp only at hp
      split at hp
      · rename_i hd
        intro w B2 H2 g rp
        have bp2 : B2 p = some (.lst vs) := g.b p _ upd_same
        have kl := kind_lst vs
        obtain ⟨g3, kT, _⟩ := Grow.unlendT rel.g.i (rel.g.tb rel.nt).nt sb (fun a u z => by
          by_cases ha : a = p
          · subst ha; rw [upd_same] at z; cases z; exact .inr ⟨hh, kl, fun z => by rcases z with ⟨_, z⟩ | ⟨_, _, z⟩ <;> cases z⟩
          · rw [upd_ne ha] at z; exact .inl z) g
        exact hp w _ H2 g3 (rp.tups kT hd)
      · exact hp.elim
  · have hfz : fzL i δ = δ := by
      unfold fzL
      split
      · rename_i ds e; exact absurd ⟨ds, e⟩ hk
      · rfl
    rw [hfz] at hp
    refine h B0 H0 δ σ B H Q rel ?_
    cases e : f δ with
    | no => rw [e] at hp; exact hp.elim
    | er x => rw [e] at hp; exact hp.elim
    | ok d =>
      rw [e] at hp
      unfold noLstR at hp
      dsimp only at hp
      split at hp
      · exact hp
      · exact hp.elim
theorem ce_lookL (i : Nat) {e : Expr} {t : TE} {f : DS → Res D} (h : CE X W e t f) : CE X W e t (cLookL i f) := ⟨h.pe, se_lookL i h.se⟩
end
end DV
namespace DV
open PySem L2
section
variable {X : Cx} {W : WX} {K : PySem.W.Frag}
noncomputable def cListOf (f : DS → Res D) : DS → Res (List D) := fun δ => (f δ).bind fun d => match d with
  | .lst ds => .ok ds
  | .tup ds => .ok ds
  | _ => .no
theorem cf_list (K : PySem.W.Frag) (hK : X.K = K) {a : Expr} {p pos : Pos} {t : TE} {f : DS → Res D} (hm : X.mg "list" = none) (ha : CE X W a t f) (hg : Gl X "list" := by rfl) (hs : starEach [a] X.env = (false, eval a X.env) :: starEach [] X.env := by rfl) (hpl : (backTo pos (starEach [] X.env)).any (·.1) = false := by rfl) :
    CF X W (.Call (.Name "list" p) [a] [] pos) (tCB (fun xs H Q => ∃ p ys, xs = [.ref p] ∧ (SqL K H p ys ∨ SqT K H p ys) ∧ ∀ l, H l = none → Q (.ref l) (upd H l (.lst ys))) (tCons t tNil)) (cListOf f) := by
  subst hK
  refine ⟨pe_callTy (k_list X.K rfl).o hg hm (by decide +kernel) (pa_cons ha.pe pa_nil hs) (by decide) (by decide) hs hpl, fun B0 H0 δ σ B H Q rel hp => ?_⟩
  unfold cListOf at hp
  refine ha.se B0 H0 δ σ B H _ rel ?_
  cases e : f δ with
  | no => rw [e] at hp; exact hp
  | er x => rw [e] at hp; exact hp
  | ok d =>
    rw [e, Res.bind_ok] at hp
    intro v B1 H1 g1 r1
    split at hp
    · cases r1 with
      | lst h1 q => exact ⟨_, _, rfl, .inl (g1.i.seq h1), fun l hl => hp l _ B1 _ (g1.trans (Grow.raw g1.i hl)) (g1.free hl) (g1.i.free hl) upd_same q⟩
    · cases r1 with
      | tup h1 q => exact ⟨_, _, rfl, .inr (sqT_mono g1.i h1), fun l hl => hp l _ B1 _ (g1.trans (Grow.raw g1.i hl)) (g1.free hl) (g1.i.free hl) upd_same q⟩
    · exact hp.elim
end
theorem units5 {k : Nat} {A : Around} (r : Room k A) : A.units + 65 < cLine := by have := r.un; omega
end DV
namespace DV
open PySem L2
section
variable {K : PySem.W.Frag} {x qual : Str} {params : Arguments} {body : List Stmt} {scope : Scope} {kws : List (Str × V)} {f : Addr} {fd : FuncData} {ps : List Str}
end
end DV
namespace DV
open PySem L2
section
variable {X : Cx} {W : WX} {K : PySem.W.Frag}
end
section
variable {P : Program} {w : World} {K : PySem.W.Frag} {mg : Str → Option Value} {base : Heap}
end
section
variable {X : Cx} {W : WX} {K : PySem.W.Frag}
end
end DV
namespace DV
open PySem L2
section
variable {X : Cx} {W : WX}
end
end DV
namespace DV
open PySem PySem.Spec PyProof.Rows L2
section
variable {prog : Program} {w : World} {A : Around} {s : Shared} {E : Value → Shared → Prop}
end
section
variable {X : Cx}
variable {W : WX}
end
end DV
namespace DV
open PySem L2
noncomputable def ValAt (K : PySem.W.Frag) (H : Hp) : T → V → List Nat → V → Prop
  | _, v, [], w => w = v
  | .im _, _, _ :: _, _ => False
  | .nd k ts, v, j :: js, w => ∃ p vs fp, v = .ref p ∧ cell K H p vs fp k ∧ ∃ t' v', ts[j]? = some t' ∧ vs[j]? = some v' ∧ ValAt K H t' v' js w
section
variable {K : PySem.W.Frag} {B B' H H' : Hp}
theorem RTA.get : ∀ {ts : List T} {vs : List V} {j : Nat} {t : T} {v : V}, RTA K B H ts vs → ts[j]? = some t → vs[j]? = some v → RT K B H t v ∧ ∀ q, FT K H t v q → FTA K H ts vs q
  | [], _, _, _, _, _, e, _ => by simp at e
  | _ :: _, [], _, _, _, h, _, _ => by rw [RTA] at h; exact h.elim
  | t0 :: ts, v0 :: vs, 0, t, v, h, e1, e2 => by
    simp at e1 e2
    subst e1; subst e2
    rw [RTA] at h
    exact ⟨h.1, fun q hq => by rw [FTA]; exact .inl hq⟩
  | t0 :: ts, v0 :: vs, j + 1, t, v, h, e1, e2 => by
    rw [RTA] at h
    obtain ⟨a, b⟩ := RTA.get (j := j) h.2.1 (by simpa using e1) (by simpa using e2)
    exact ⟨a, fun q hq => by rw [FTA]; exact .inr (b q hq)⟩
end
section
variable {K : PySem.W.Frag} {B0 : Hp} {H0 : Org} {B H B' H' : Hp} {σ : L2.St} {δ : DS}
end
end DV
namespace DV
open PySem L2
section
variable {K : PySem.W.Frag} {B0 : Hp} {H0 : Org} {B H B' H' : Hp} {σ : L2.St} {δ : DS}
theorem FTA.ims : ∀ (ds : List D) (vs : List V) (q : Addr), ¬ FTA K H (ds.map T.im) vs q
  | [], _, q, z => by rw [List.map_nil, FTA] at z; exact z
  | _ :: _, [], q, z => by rw [List.map_cons, FTA] at z; exact z
  | d :: ds, v :: vs, q, z => by
    rw [List.map_cons, FTA, FT] at z
    rcases z with z | z
    · exact z
    · exact FTA.ims ds vs q z
theorem RTA.ims : ∀ {ds : List D} {vs : List V}, RpA K B vs ds → RTA K B H (ds.map T.im) vs
  | _, _, .nil => by rw [List.map_nil, RTA]; trivial
  | _, _, .cons (d := d) (ds := ds) (vs := vs) h r => by
    rw [List.map_cons, RTA, RT]
    exact ⟨h, RTA.ims r, fun q z => by rw [FT] at z; exact z.elim⟩
theorem RT.lst {p : Addr} {vs : List V} {ds : List D} (h : H p = some (.lst vs)) (r : RpA K B vs ds) : RT K B H (.nd .ls (ds.map T.im)) (.ref p) := by
  rw [RT]
  exact ⟨p, vs, [p], rfl, ⟨h, rfl⟩, RTA.ims r, fun q _ z => FTA.ims ds vs q z, trivial⟩
theorem FT.lst {p : Addr} {ds : List D} {q : Addr} (z : FT K H (.nd .ls (ds.map T.im)) (.ref p) q) : q = p := by
  rw [FT] at z
  obtain ⟨p', vs, fp, e, hc, z⟩ := z
  cases e
  rcases z with z | z
  · rw [hc.2] at z
    exact List.mem_singleton.mp z
  · exact (FTA.ims ds vs q z).elim
end
section
variable (K : PySem.W.Frag)
noncomputable def PostN (B H : Hp) (σ : L2.St) (W : WX) (Q : VK) : Res T → Prop
  | .ok t => ∀ v B' H', Grow K B H B' H' → RT K B' H' t v → (∀ q, FT K H' t v q → H q = none ∧ B' q = none) → Q v H'
  | .er x => ∀ c dx B' H', Grow K B H B' H' → RpX K B' c dx x → W c dx σ H'
  | .no => False
noncomputable def SN (W : WX) (t : TE) (f : DS → Res T) : Prop := ∀ B0 H0 δ σ B H (Q : VK), Rel K B0 H0 B H σ δ → PostN K B H σ W Q (f δ) → t σ H Q
end
structure CN (X : Cx) (W : WX) (e : Expr) (t : TE) (f : DS → Res T) : Prop where
  pe : PE X e t
  sn : SN X.K W t f
section
variable {X : Cx} {W : WX} {K : PySem.W.Frag}
noncomputable def cNim (f : DS → Res D) : DS → Res T := fun δ => (f δ).bind fun d => .ok (.im d)
theorem cn_e {e : Expr} {t : TE} {f : DS → Res D} (h : CE X W e t f) : CN X W e t (cNim f) := ⟨h.pe, fun B0 H0 δ σ B H Q rel hp => by
  unfold cNim at hp
  refine h.se B0 H0 δ σ B H Q rel ?_
  cases e1 : f δ with
  | no => rw [e1] at hp; exact hp
  | er x => rw [e1] at hp; exact hp
  | ok d =>
    rw [e1, Res.bind_ok] at hp
    exact fun v B' H' g r => hp v B' H' g (by rw [RT]; exact r) (fun q z => by rw [FT] at z; exact z.elim)⟩
noncomputable def cNl (f : DS → Res (List D)) : DS → Res T := fun δ => (f δ).bind fun ds => .ok (.nd .ls (ds.map T.im))
theorem sn_l {t : TE} {f : DS → Res (List D)} (h : SF K W t f) : SN K W t (cNl f) := fun B0 H0 δ σ B H Q rel hp => by
  unfold cNl at hp
  refine h B0 H0 δ σ B H Q rel ?_
  cases e1 : f δ with
  | no => rw [e1] at hp; exact hp
  | er x => rw [e1] at hp; exact hp
  | ok ds =>
    rw [e1, Res.bind_ok] at hp
    exact fun p vs B' H' g h0 hb hh r => hp (.ref p) B' H' g (RT.lst hh r) (fun q z => by rw [FT.lst z]; exact ⟨h0, hb⟩)
theorem cn_l {e : Expr} {t : TE} {f : DS → Res (List D)} (h : CF X W e t f) : CN X W e t (cNl f) := ⟨h.pe, sn_l h.sf⟩
end
end DV
namespace DV
open PySem L2
noncomputable def AtP (K : PySem.W.Frag) (H : Hp) (σ : L2.St) (δ : DS) (i : Nat) (js : List Nat) (v : V) : Prop := ∀ m k ts v0, δ[i]? = some (some (.tr m k ts)) → σ[i]? = some (some v0) → ValAt K H (.nd k ts) v0 js v
section
variable (K : PySem.W.Frag)
noncomputable def PostP (B H : Hp) (σ : L2.St) (δ : DS) (W : WX) (Q : VK) : Res (Nat × List Nat) → Prop
  | .ok p => ∀ v B' H', Grow K B H B' H' → AtP K H' σ δ p.1 p.2 v → Q v H'
  | .er x => ∀ c dx B' H', Grow K B H B' H' → RpX K B' c dx x → W c dx σ H'
  | .no => False
noncomputable def SP (W : WX) (t : TE) (f : DS → Res (Nat × List Nat)) : Prop := ∀ B0 H0 δ σ B H (Q : VK), Rel K B0 H0 B H σ δ → PostP K B H σ δ W Q (f δ) → t σ H Q
end
section
variable {K : PySem.W.Frag} {B0 : Hp} {H0 : Org} {B H B' H' : Hp} {σ : L2.St} {δ : DS}
end
section
variable {X : Cx} {W : WX} {K : PySem.W.Frag}
end
end DV
namespace DV
open PySem L2
section
variable {K : PySem.W.Frag} {B0 : Hp} {H0 : Org} {B H B' H' : Hp} {σ : L2.St} {δ : DS}
end
section
variable {X : Cx} {W : WX} {K : PySem.W.Frag}
end
end DV
namespace DV
open PySem L2
section
variable {X : Cx} {W : WX} {K : PySem.W.Frag}
end
end DV
namespace DV
open PySem L2
section
variable {X : Cx} {W : WX} {K : PySem.W.Frag}
end
end DV
namespace DV
open PySem L2
section
variable {P : Program} {w : World} {A : Around} {E : Value → Shared → Prop} {s : Shared}
end
section
variable {X : Cx} {W : WX}
noncomputable def rSetL (K : PySem.W.Frag) (w : World) : List V → Hp → VK → Prop := fun xs H Q => ∃ (p : Addr) (ns : List Int), xs = [.ref p] ∧ SqL K H p (ns.map V.int) ∧ ns.length < 400 ∧ ∀ q, H q = none → Q (.ref q) (upd H q (SetO w q (fun k => decide (k ∈ ns)) (setI ns).length))
end
end DV
namespace DV
open PySem L2
section
variable {X : Cx} {W : WX} {K : PySem.W.Frag}
end
end DV
namespace DV
open PySem L2 PyProof.Rows PySem.W PySem.Calls PySem.SeqAt
section
variable {prog : Program} {w : World} {A : Around} {E : Value → Shared → Prop} {s : Shared}
end
section
variable {X : Cx} {W : WX}
end
end DV
namespace DV
open PySem L2 PyProof.Rows
mutual
noncomputable def KeyAt (K : PySem.W.Frag) (H : Hp) : NestedKey → V → Prop
  | .num i, v => v = .int i
  | .tup ks, v => ∃ a xs, v = .ref a ∧ SqT K H a xs ∧ KeyAts K H ks xs
  | .none, _ => False
  | .text _, _ => False
noncomputable def KeyAts (K : PySem.W.Frag) (H : Hp) : List NestedKey → List V → Prop
  | [], vs => vs = []
  | k :: ks, vs => ∃ v vs', vs = v :: vs' ∧ KeyAt K H k v ∧ KeyAts K H ks vs'
end
section
variable {K : PySem.W.Frag} {B H H' : Hp}
mutual
theorem keyAt_of (i : Same B H) : ∀ (k : NestedKey) (v : V), nkInt k = true → Rp K B v (nkD k) → KeyAt K H k v
  | .num n, v, _, r => by rw [nkD] at r; rw [KeyAt]; cases r; rfl
  | .none, v, h, _ => by simp [nkInt] at h
  | .text _, v, h, _ => by simp [nkInt] at h
  | .tup ks, v, h, r => by
    rw [nkD] at r
    rw [KeyAt]
    cases r with
    | tup hs q => exact ⟨_, _, rfl, sqT_mono i hs, keyAts_of i ks _ (by simpa [nkInt] using h) q⟩
theorem keyAts_of (i : Same B H) : ∀ (ks : List NestedKey) (vs : List V), nkInts ks = true → RpA K B vs (nkDs ks) → KeyAts K H ks vs
  | [], vs, _, r => by rw [nkDs] at r; rw [KeyAts]; cases r; rfl
  | k :: ks, vs, h, r => by
    rw [nkInts, Bool.and_eq_true] at h
    rw [nkDs] at r
    rw [KeyAts]
    cases r with
    | cons r1 r2 => exact ⟨_, _, rfl, keyAt_of i k _ h.1 r1, keyAts_of i ks _ h.2 r2⟩
end
end
theorem nkOk_int {k : NestedKey} (h : nkOk k = true) : nkInt k = true := by
  cases k with
  | tup ks => rw [nkOk, Bool.and_eq_true] at h; rw [nkInt]; exact h.1
  | _ => cases h
theorem nkOk_depth {k : NestedKey} (h : nkOk k = true) : k.depth ≤ 8 := by
  cases k with
  | tup ks => rw [nkOk, Bool.and_eq_true] at h; exact of_decide_eq_true h.2
  | _ => cases h
theorem nkInts_all : ∀ {ks : List NestedKey}, (∀ k ∈ ks, nkOk k = true) → nkInts ks = true
  | [], _ => by rw [nkInts]
  | k :: ks, h => by rw [nkInts, nkOk_int (h k (by simp)), nkInts_all fun x hx => h x (by simp [hx])]; rfl
section
variable {X : Cx} {pins : List (Addr × Obj)} {σ : L2.St} {H : Hp} {s : Shared}
mutual
theorem nested_of (I : Inv X pins σ H s) : ∀ (k : NestedKey) (v : V) (u : Value), KeyAt X.K H k v → RelV v u → NestedIs s.heap k u
  | .num n, v, u, h, r => by
    rw [KeyAt] at h
    subst h
    obtain ⟨t, rfl⟩ := (show ∃ t, u = Value.int n t from r)
    exact .int _ _
  | .none, v, u, h, _ => by rw [KeyAt] at h; exact h.elim
  | .text _, v, u, h, _ => by rw [KeyAt] at h; exact h.elim
  | .tup ks, v, u, h, r => by
    rw [KeyAt] at h
    obtain ⟨a, xs, rfl, hs, hk⟩ := h
    cases (show u = Value.ref a from r)
    obtain ⟨its, rv, ⟨o, h1, h2, n, h3⟩, _⟩ := I.tuple hs
    exact .tup h1 h2 h3 (by simpa using nested_all I ks xs its hk rv)
theorem nested_all (I : Inv X pins σ H s) : ∀ (ks : List NestedKey) (vs : List V) (us : List Value), KeyAts X.K H ks vs → Vals vs us → NestedAll s.heap ks us
  | [], vs, us, h, r => by rw [KeyAts] at h; subst h; cases r; exact .nil
  | k :: ks, vs, us, h, r => by
    rw [KeyAts] at h
    obtain ⟨v, vs', rfl, h1, h2⟩ := h
    cases r with
    | cons r1 r2 => exact .cons (nested_of I k _ _ h1 r1) (nested_all I ks _ _ h2 r2)
end
end
section
variable {α β : Type}
noncomputable def atK (k : NestedKey) : List NestedKey → List α → Option α
  | k' :: ks, x :: xs => if k' = k then some x else atK k ks xs
  | _, _ => none
noncomputable def repK (k : NestedKey) (f : α → α) : List NestedKey → List α → List α
  | k' :: ks, x :: xs => (if k' = k then f x else x) :: repK k f ks xs
  | _, xs => xs
noncomputable def delK (k : NestedKey) : List NestedKey → List α → List α
  | k' :: ks, x :: xs => if k' = k then delK k ks xs else x :: delK k ks xs
  | _, xs => xs
theorem repK_len (k : NestedKey) (f : α → α) : ∀ (ks : List NestedKey) (xs : List α), (repK k f ks xs).length = xs.length
  | [], xs => by cases xs <;> rfl
  | _ :: _, [] => rfl
  | _ :: ks, x :: xs => by rw [repK, List.length_cons, List.length_cons, repK_len k f ks xs]
theorem delK_len (k : NestedKey) : ∀ (ks : List NestedKey) (xs : List α), (delK k ks xs).length ≤ xs.length
  | [], xs => by cases xs <;> exact Nat.le_refl _
  | _ :: _, [] => Nat.le_refl _
  | k' :: ks, x :: xs => by
    rw [delK]
    have := delK_len k ks xs
    split
    · rw [List.length_cons]; omega
    · rw [List.length_cons, List.length_cons]; omega
end
structure DxAt (K : PySem.W.Frag) (H : Hp) (a : Addr) (ks : List NestedKey) (us : List (Int × Addr × V)) : Prop where
  at_ : ∃ o, H a = some (Dx a o us) ∧ DxO a o us
  hs : us.map (·.1) = ks.map nkHash
  nd : ks.Nodup
  ok : ∀ k ∈ ks, nkOk k = true
  ky : KeyAts K H ks (us.map fun u => .ref u.2.1)
theorem DxAt.len {K : PySem.W.Frag} {H : Hp} {a : Addr} {ks : List NestedKey} {us : List (Int × Addr × V)} (h : DxAt K H a ks us) : ks.length = us.length := by
  have := congrArg List.length h.hs
  simpa using this.symm
noncomputable abbrev PX : (Int × Addr × V) → (NestedKey × Addr × Value) → Prop := fun u x => u.1 = nkHash x.1 ∧ u.2.1 = x.2.1 ∧ RelV u.2.2 x.2.2
section
variable {X : Cx} {pins : List (Addr × Obj)} {σ : L2.St} {H : Hp} {s : Shared} {a : Addr} {ks : List NestedKey} {us : List (Int × Addr × V)}
theorem dict_zip (I : Inv X pins σ H s) : ∀ {us : List (Int × Addr × V)} {es : List DictEntry} {ks : List NestedKey}, Paired (fun (u : Int × Addr × V) (e : DictEntry) => e.hash = u.1 ∧ e.key = .ref u.2.1 ∧ RelV u.2.2 e.val) us es → us.map (·.1) = ks.map nkHash → (∀ k ∈ ks, nkOk k = true) →
    KeyAts X.K H ks (us.map fun u => .ref u.2.1) → ∃ xs : List (NestedKey × Addr × Value), es = xs.map (entryOfKey (nestedKind X.prog X.w)) ∧ xs.map (·.1) = ks ∧ Paired PX us xs ∧ ∀ x ∈ xs, (nestedKind X.prog X.w).is s.heap x.1 x.2.1
  | _, _, [], .nil, _, _, _ => ⟨[], rfl, rfl, .nil, fun x hx => nomatch hx⟩
  | _, _, _ :: _, .nil, h, _, _ => by simp at h
  | _, _, [], .cons _ _, h, _, _ => by simp at h
  | _, _, k :: ks, .cons (a := u) (b := e) (l₁ := us) (l₂ := es) h t, hh, ok, ky => by
    rw [List.map_cons, KeyAts] at ky
    obtain ⟨v, vs', hv, k1, k2⟩ := ky
    cases hv
    rw [List.map_cons, List.map_cons] at hh
    injection hh with hh1 hh2
    obtain ⟨xs, e1, e2, e3, e4⟩ := dict_zip I (ks := ks) t hh2 (fun x hx => ok x (by simp [hx])) k2
    have hk := ok k (by simp)
    refine ⟨(k, u.2.1, e.val) :: xs, ?_, by rw [List.map_cons, e2], .cons ⟨hh1, rfl, h.2.2⟩ e3, fun x hx => ?_⟩
    · rw [List.map_cons, ← e1]
      congr 1
      obtain ⟨eh, ek, ev⟩ := e
      obtain ⟨q1, q2, q3⟩ := h
      unfold entryOfKey
      simp only at q1 q2 ⊢
      rw [q1, q2, hh1, ← nkHash_eq X.w k (nkOk_int hk)]
      rfl
    · rcases List.mem_cons.mp hx with rfl | hx
      · exact ⟨nested_of I k _ _ k1 rfl, nkOk_depth hk⟩
      · exact e4 x hx
theorem DxAt.dict (I : Inv X pins σ H s) (h : DxAt X.K H a ks us) : ∃ xs : List (NestedKey × Addr × Value), s.heap.DictOfH (nestedKind X.prog X.w) a xs ∧ xs.map (·.1) = ks ∧ Paired PX us xs ∧ xs.length ≤ sizeLine ∧ (a == sysModules) = false := by
  obtain ⟨o, e, d⟩ := h.at_
  obtain ⟨⟨h1, _⟩, _, _⟩ := (show ObjOk X.prog X.w H s.heap a (Dx a o us) from I.hok a _ e)
  obtain ⟨hz, hm, hx, es, ep, hd, r⟩ := d
  obtain ⟨xs, e1, e2, e3, e4⟩ := dict_zip I r h.hs h.ok h.ky
  exact ⟨xs, ⟨o, es, ep, h1, hx, hd, e1, e4, by rw [e2]; exact h.nd⟩, e2, e3, by rw [← Paired.length e3]; exact hz, hm⟩
theorem dx_obj {P : Program} {w : World} {h' : Heap} {xs : List (NestedKey × Addr × Value)} {us : List (Int × Addr × V)} (d : h'.DictOfH (nestedKind P w) a xs) (r : Paired PX us xs) (ok : ∀ x ∈ xs, nkInt x.1 = true) (hz : us.length ≤ sizeLine) (hm : (a == sysModules) = false) :
    ∃ o, h'.get? a = some o ∧ DxO a o us := by
  obtain ⟨o, es, ep, h1, hx, hd, he, z1, z2⟩ := d
  refine ⟨o, h1, hz, hm, hx, es, ep, hd, ?_⟩
  rw [he]
  clear he hd h1 hx hz z1 z2
  induction r with
  | nil => exact .nil
  | @cons u x us xs hh t ih =>
    rw [List.map_cons]
    refine .cons ⟨?_, ?_, hh.2.2⟩ (ih fun y hy => ok y (by simp [hy]))
    · show NestedKey.hash w x.1 = u.1
      rw [nkHash_eq w x.1 (ok x (by simp)), hh.1]
    · show Value.ref x.2.1 = Value.ref u.2.1
      rw [hh.2.1]
theorem dx_ok {P : Program} {w : World} {H' : Hp} {h' : Heap} {o : Obj} {us : List (Int × Addr × V)} (h1 : h'.get? a = some o) (d : DxO a o us) : ObjOk P w H' h' a (Dx a o us) :=
  ⟨⟨h1, d⟩, ⟨o, h1⟩, fun h1 h2 q k => ⟨k _ q.1, q.2⟩⟩
theorem px_at : ∀ {us : List (Int × Addr × V)} {xs : List (NestedKey × Addr × Value)} (k : NestedKey), Paired PX us xs → (∀ u, atK k (xs.map (·.1)) us = some u → ∃ p, atKey xs k = some p ∧ u.2.1 = p.1 ∧ RelV u.2.2 p.2) ∧ (atK k (xs.map (·.1)) us = none → atKey xs k = none)
  | _, _, k, .nil => ⟨fun u h => by simp [atK] at h, fun _ => rfl⟩
  | _, _, k, .cons (a := u0) (b := x) (l₁ := us) (l₂ := xs) h t => by
    obtain ⟨i1, i2⟩ := px_at k t
    constructor
    · intro u hu
      rw [List.map_cons, atK] at hu
      by_cases e : x.1 = k
      · rw [if_pos e] at hu
        cases hu
        exact ⟨x.2, by simp [atKey, e], h.2.1, h.2.2⟩
      · rw [if_neg e] at hu
        obtain ⟨p, hp, r⟩ := i1 u hu
        exact ⟨p, by simpa [atKey, List.find?_cons, e] using hp, r⟩
    · intro hu
      rw [List.map_cons, atK] at hu
      by_cases e : x.1 = k
      · rw [if_pos e] at hu; cases hu
      · rw [if_neg e] at hu
        simpa [atKey, List.find?_cons, e] using i2 hu
end
end DV
namespace DV
open PySem L2 PyProof.Rows
theorem room8 {A : Around} (hu : A.units + 64 < cLine) : A.in1.units + 8 < cLine := by
  rw [Around.in1_units]; omega
section
variable {X : Cx} {pins : List (Addr × Obj)} {σ : L2.St} {H : Hp} {s : Shared} {a : Addr} {ks : List NestedKey} {us : List (Int × Addr × V)} {k : NestedKey} {y v : V} {u r : Value} {A : Around} {E : Value → Shared → Prop}
theorem key_ref (h : KeyAt X.K H k y) (ok : nkOk k = true) : ∃ b, y = .ref b := by
  cases k with
  | tup ks => rw [KeyAt] at h; obtain ⟨b, _, rfl, _⟩ := h; exact ⟨b, rfl⟩
  | _ => cases ok
theorem key_is (I : Inv X pins σ H s) {b : Addr} (h : KeyAt X.K H k (.ref b)) (ok : nkOk k = true) : (nestedKind X.prog X.w).is s.heap k b := ⟨nested_of I k _ _ h rfl, nkOk_depth ok⟩
theorem x_getItem {z : Int × Addr × V} {Q : Value → Shared → Prop} (hu : A.units + 64 < cLine) (I : Inv X pins σ H s) (d : DxAt X.K H a ks us) (ok : nkOk k = true) (hk : KeyAt X.K H k y) (l : atK k ks us = some z) (ry : RelV y u) (h : ∀ w' s', Inv X pins σ H s' → RelV z.2.2 w' → Q w' s') :
    wpAny (model X.prog X.w) A (getItem (.ref a) u) Q E s := by
  obtain ⟨b, rfl⟩ := key_ref hk ok
  cases (show u = Value.ref b from ry)
  obtain ⟨xs, dd, rfl, px, hz, hm⟩ := d.dict I
  obtain ⟨p, hp, _, hr⟩ := (px_at k px).1 z l
  exact wpAny_getItem_heap (room8 hu) (key_is I hk ok) dd hp (h _ _ (I.tok _) hr)
end
noncomputable def tXGet (K : PySem.W.Frag) (td ty : TE) : TE := fun σ H Q => td σ H fun x H1 => ty σ H1 fun y H2 => ∃ a ks us k z, x = .ref a ∧ DxAt K H2 a ks us ∧ nkOk k = true ∧ KeyAt K H2 k y ∧ atK k ks us = some z ∧ Q z.2.2 H2
noncomputable def IsX (H : Hp) (a : Addr) : Prop := ∃ o us, H a = some (Dx a o us) ∧ DxO a o us
section
variable {X : Cx} {pins : List (Addr × Obj)} {σ : L2.St} {H : Hp} {s : Shared} {a : Addr}
theorem isX_at (I : Inv X pins σ H s) (d : IsX H a) : s.TypeIs (.ref a) "dict" ∧ (∀ b, Value.ref a = .ref b → ∃ ob, s.heap.get? b = some ob ∧ ob.dict = none) := by
  obtain ⟨o, us, e, dd⟩ := d
  obtain ⟨⟨h1, _⟩, _, _⟩ := (show ObjOk X.prog X.w H s.heap a (Dx a o us) from I.hok a _ e)
  obtain ⟨_, _, hx, _⟩ := dd
  exact ⟨⟨o, h1, hx.1⟩, fun b q => by cases q; exact ⟨o, h1, hx.2.1⟩⟩
theorem DxAt.isX {K : PySem.W.Frag} {ks : List NestedKey} {us : List (Int × Addr × V)} (d : DxAt K H a ks us) : IsX H a := let ⟨o, e, x⟩ := d.at_; ⟨o, us, e, x⟩
end
section
variable {X : Cx} {o i e f value : Expr} {pos pos' tpos apos cpos : Pos} {td ty tx tv : TE}
theorem pe_xget (hu : X.A.units + 64 < cLine) (ho : PE X o td) (hi : PE X i ty) (hs : NoSl i) : PE X (.Subscript o i pos) (tXGet X.K td ty) := by
  refine ⟨fun pins s σ H Q I h => ?_⟩
  refine subD_of PySem.F.slot_dict_getitem.lookup hs (thn (ho.run pins s σ H _ I h) fun u s1 ⟨x, H1, I1, rx, q1⟩ => thn (hi.run pins s1 σ H1 _ I1 q1) fun iv s2 ⟨y, H2, I2, ry, a, ks, us, k, z, ex, d, ok, hk, l, q2⟩ => ?_)
  subst ex
  obtain rfl : u = Value.ref a := rx
  exact ⟨(isX_at I2 d.isX).1, x_getItem hu I2 d ok hk l ry fun w' s3 I3 rw' => ⟨_, H2, I3, rw', q2⟩⟩
end
noncomputable def tXNew : TE := fun _ H Q => ∀ p o, H p = none → DxO p o [] → Q (.ref p) (upd H p (Dx p o []))
theorem pe_xnew {X : Cx} {pos : Pos} : PE X (.Dict [] [] pos) tXNew := ⟨fun pins s σ H Q I h => by
  have d : (s.heap.push { cls := .type "dict", data := .dict #[] }).DictOfH (nestedKind X.prog X.w) s.heap.objs.size [] := Heap.DictOfH.new s.heap
  obtain ⟨o, ho, hd⟩ := dx_obj (us := []) d .nil (fun _ hx => nomatch hx) (Nat.zero_le _) (beq_eq_false_iff_ne.mpr (Ne.symm (Nat.ne_of_lt I.big)))
  exact wpAny_Dict_empty ⟨.ref s.heap.objs.size, _, I.laid (a := s.heap.objs.size) (o := Dx s.heap.objs.size o []) (t' := s.toks) (fun _ _ q => Heap.get?_push_of_some _ q) (Nat.le_refl _) (dx_ok ho hd), rfl, h _ o (I.hok.fresh (Nat.le_refl _)) hd⟩⟩
noncomputable def ItX (d : Addr) (o : Obj) (us : List (Int × Addr × V)) : It :=
  ⟨fun i H => H d = some (Dx d o us) ∧ i < us.length, fun i H x H' => H' = H ∧ ∃ u, us[i]? = some u ∧ x = .ref u.2.1, fun i H => H d = some (Dx d o us) ∧ us.length ≤ i⟩
theorem dx_ent {d : Addr} {o : Obj} {us : List (Int × Addr × V)} (w : DxO d o us) : ∃ es ep, o.data = .dict es ep ∧ es.size = us.length ∧ ∀ (i : Nat) (u : Int × Addr × V), us[i]? = some u → ∃ en, es[i]? = some en ∧ en.key = .ref u.2.1 := by
  obtain ⟨_, _, _, es, ep, hd, r⟩ := w
  refine ⟨es, ep, hd, by rw [← Array.length_toList]; exact (Paired.length r).symm, ?_⟩
  intro i u hu
  have : ∀ {us : List (Int × Addr × V)} {l : List DictEntry} {i : Nat}, Paired (fun (u : Int × Addr × V) (e : DictEntry) => e.hash = u.1 ∧ e.key = .ref u.2.1 ∧ L2.RelV u.2.2 e.val) us l → us[i]? = some u → ∃ en, l[i]? = some en ∧ en.key = .ref u.2.1 := by
    intro us l i r hu
    induction r generalizing i with
    | nil => simp at hu
    | cons h t ih =>
      cases i with
      | zero => simp at hu; subst hu; exact ⟨_, rfl, h.2.1⟩
      | succ i => simp at hu; obtain ⟨en, h1, h2⟩ := ih hu; exact ⟨en, by simpa using h1, h2⟩
  obtain ⟨en, h1, h2⟩ := this r hu
  exact ⟨en, by rw [← Array.getElem?_toList]; exact h1, h2⟩
section
variable {P : Program} {w : World} {K : PySem.W.Frag} {tg : Expr} {d : Addr} {o : Obj} {es : Array DictEntry} {ep : Nat}
theorem dx_get {X : Cx} {pins : List (Addr × Obj)} {σ : L2.St} {H : Hp} {s : Shared} {us : List (Int × Addr × V)} (I : Inv X pins σ H s) (h : H d = some (Dx d o us)) : s.heap.get? d = some o :=
  (show ObjOk X.prog X.w H s.heap d (Dx d o us) from I.hok d _ h).1.1
theorem turn_keysX {us : List (Int × Addr × V)} (it : Addr) (wd : DxO d o us) (hod : o.data = .dict es ep) : Turn P w K tg (ItX d o us) [it] it (fun i h => h.IsKeyIter it d i us.length ep) where
  mem := by simp
  obj := fun i h st b hb => by
    have e : b = it := by simpa using hb
    subst e
    obtain ⟨oi, e, c, dd⟩ := st
    exact ⟨oi, e, fun v z => by rw [dd] at z; cases z⟩
  keep := fun i h h' st k => st.at fun oi e => k it (by simp) oi e
  item := by
    intro X hP hw hK hc i pins s σ H E I hf st hg
    subst hP hw hK
    obtain ⟨hd, hi⟩ := hg
    obtain ⟨f0, f1, f2, f3, f4, f5⟩ := hf it (by simp)
    obtain ⟨es', ep', hdt, hsz, ent⟩ := dx_ent wd
    obtain ⟨rfl, rfl⟩ := dict_ep hod hdt
    obtain ⟨u, hkv⟩ : ∃ p, us[i]? = some p := ⟨us[i], List.getElem?_eq_getElem hi⟩
    obtain ⟨en, hen, hkey⟩ := ent i u hkv
    refine next_key_item st (dx_get I hd) hdt hsz hen fun h' st' sb => ?_
    have I1 : Inv X pins σ H { s with heap := h' } := I.turned (t' := s.toks) (fun b ob hb e => (sb.2 b hb).trans e) f0 f1 f3 f4 f5
    obtain ⟨oi, e, c, dd⟩ := id st'
    exact ⟨en.key, rfl, go_of (s := { s with heap := h' }) e c dd (by decide) ⟨.ref u.2.1, H, I1, hkey, ⟨rfl, u, hkv, rfl⟩, st', fun b hb => (hf b hb).1⟩⟩
  done := by
    intro X hP hw hK hc i pins s σ H E I hf st hg
    subst hP hw hK
    obtain ⟨hd, hi⟩ := hg
    obtain ⟨f0, f1, f2, f3, f4, f5⟩ := hf it (by simp)
    obtain ⟨es', ep', hdt, hsz, ent⟩ := dx_ent wd
    obtain ⟨rfl, rfl⟩ := dict_ep hod hdt
    exact next_key_end (I.ok.hd hc) st (dx_get I hd) hdt hsz hi fun h' eb => ⟨rfl, I.turned (t' := s.toks) (fun b ob hb e => eb b ob hb e) f0 f1 f3 f4 f5⟩
  self := fun A i s Q E st h => by
    refine wpAny_pyIter_slot st.typeIs F.slot_dict_keyiterator_iter (wpAny_call_entry F.slot_dict_keyiterator_iter st.typeIs F.entry_dict_keyiterator_iter ?_ (F.args_dict_keyiterator_iter_1 _))
    show wpAny _ _ (ret (.ref it)) _ _ s
    exact wpAny_pure ⟨_, rfl, "dict_keyiterator", _, st.typeIs, F.slot_dict_keyiterator_next.lookup, h⟩
end
noncomputable def iXKeys (td : TE) : TI := fun σ H R => td σ H fun x H1 => ∃ d o us, x = .ref d ∧ H1 d = some (Dx d o us) ∧ DxO d o us ∧ R (ItX d o us) H1
theorem pi_xkeys {X : Cx} {tg e : Expr} {td : TE} (he : PE X e td) : PI X tg e (iXKeys td) := by
  refine ⟨fun pins s σ H R I h => ?_⟩
  refine thn (he.run pins s σ H _ I h) fun u s1 ⟨x, H1, I1, rx, d, o, us, ex, hd, wd, q⟩ => ?_
  subst ex
  obtain rfl : u = Value.ref d := rx
  obtain ⟨es, ep, hdt, hsz, ent⟩ := dx_ent wd
  refine iter_keys wd.2.1 (dx_get I1 hd) wd.2.2.1 hdt (pi_one (tk := s1.toks) I1 _ (turn_keysX _ wd hdt) ⟨_, Heap.get?_push_size _ rfl, rfl, ?_⟩ q)
  rw [hsz] <;> rfl
theorem walk_keysX {d : Addr} {o : Obj} {us : List (Int × Addr × V)} : Walk (ItX d o us) us.length (fun H => H d = some (Dx d o us)) (YAt (us.map fun u => .ref u.2.1)) :=
  ⟨fun _ _ hi q => ⟨q, hi⟩, fun _ q => ⟨q, Nat.le_refl _⟩, fun i H x H' _ _ ⟨h1, u, h2, h3⟩ => ⟨h1, by rw [List.getElem?_map, h2, h3]; rfl⟩⟩
theorem call_list_dX {X : Cx} (hc : X.calm = true) : CallR X (.type "list") (fun xs H Q => ∃ d o us, xs = [V.ref d] ∧ H d = some (Dx d o us) ∧ DxO d o us ∧ ∀ p, H p = none → Q (.ref p) (upd H p (.lst (us.map fun u => .ref u.2.1)))) := by
  intro pins s σ H xs us Q I r h
  obtain ⟨d, o, ws, rfl, hd, wd, q⟩ := h
  obtain ⟨u, rfl, rx⟩ := r.one
  cases rx
  obtain ⟨es, ep, hdt, hsz, ent⟩ := dx_ent wd
  have hz := wd.1
  refine PySem.W.kdl_call (kdl_raw wd.2.1 wd.2.2.1 hdt) (I.ok.hd hc) (dx_get I hd) (by omega) fun h' tk acc' c' kp e it => ?_
  have ea : acc'.toList = (ws.map fun u => u.2.1).map Value.ref := by
    have hl : acc'.toList.length = ws.length := by rw [Array.length_toList, it.1]; exact hsz
    apply List.ext_getElem?
    intro j
    rw [List.getElem?_map, List.getElem?_map]
    cases hj : acc'.toList[j]? with
    | none =>
      have h1 := List.getElem?_eq_none_iff.mp hj
      rw [List.getElem?_eq_none (by omega)]
      all_goals rfl
    | some v =>
      obtain ⟨en, hen, hv⟩ := it.2 j v (by rw [← Array.getElem?_toList]; exact hj)
      have hjl : j < ws.length := by
        have := (List.getElem?_eq_some_iff.mp hj).1
        omega
      obtain ⟨en', he', hk⟩ := ent j ws[j] (List.getElem?_eq_getElem hjl)
      rw [hen] at he'
      cases he'
      rw [List.getElem?_eq_getElem hjl, hv, hk]
      all_goals rfl
  have rv : Vals (ws.map fun u => V.ref u.2.1) acc'.toList := by
    rw [ea, show (ws.map fun u => V.ref u.2.1) = (ws.map fun u => u.2.1).map V.ref by rw [List.map_map]; rfl]
    exact vals_refs _
  refine ⟨.ref s.heap.objs.size, _, I.laid (t' := tk) (o := .lst (ws.map fun u => V.ref u.2.1)) kp (Nat.le_refl _) ?_, rfl, q _ (I.hok.fresh (Nat.le_refl _))⟩
  exact ⟨by rw [List.length_map]; exact hz, acc'.toList, c', rv, by rw [Array.toArray_toList]; exact e⟩
end DV
namespace DV
open PySem L2
noncomputable def keyD (d : D) : Option NestedKey := match dNk d with
  | some k => if nkOk k = true then some k else none
  | none => none
section
variable {K : PySem.W.Frag} {B H : Hp}
theorem keyD_nk {d : D} {k : NestedKey} (h : keyD d = some k) : nkOk k = true ∧ nkD k = d := by
  unfold keyD at h
  split at h
  · rename_i k' e
    split at h
    · rename_i hk
      cases h
      exact ⟨hk, (dNk_some d k e).1⟩
    · cases h
  · cases h
theorem keyD_of {d : D} {k : NestedKey} {y : V} (h : keyD d = some k) (r : Rp K B y d) (i : Same B H) : nkOk k = true ∧ KeyAt K H k y := by
  obtain ⟨h1, h2⟩ := keyD_nk h
  exact ⟨h1, keyAt_of i k y (nkOk_int h1) (by rw [h2]; exact r)⟩
theorem dtt_at {x : V} {ks : List NestedKey} {vs : List D} (r : Rp K B x (.dtt ks vs)) (i : Same B H) : ∃ a us o, x = .ref a ∧ B a = some (Dx a o us) ∧ DxO a o us ∧ DxAt K H a ks us ∧ RpA K B (us.map fun u => .ref u.2.1) (nkDs ks) ∧ RpA K B (us.map (·.2.2)) vs := by
  cases r with
  | dcT h1 h2 h3 h4 h5 h6 h7 => exact ⟨_, _, _, rfl, h1, h2, ⟨⟨_, i _ _ h1, h2⟩, h3, h4, h5, keyAts_of i _ _ (nkInts_all h5) h6⟩, h6, h7⟩
theorem atK_rel {k : NestedKey} {α : Type} (f : α → V) : ∀ {ks : List NestedKey} {us : List α} {vs : List D}, RpA K B (us.map f) vs → (∀ d, atK k ks vs = some d → ∃ u, atK k ks us = some u ∧ Rp K B (f u) d) ∧ (atK k ks vs = none → atK k ks us = none)
  | [], us, vs, _ => ⟨fun d h => by cases vs <;> simp [atK] at h, fun _ => by cases us <;> rfl⟩
  | k' :: ks, [], vs, r => by
    cases r
    exact ⟨fun d h => by simp [atK] at h, fun _ => rfl⟩
  | k' :: ks, u :: us, vs, r => by
    rw [List.map_cons] at r
    cases r with
    | cons r1 r2 =>
      obtain ⟨i1, i2⟩ := atK_rel (k := k) f (ks := ks) r2
      constructor
      · intro d h
        rw [atK] at h ⊢
        by_cases e : k' = k
        · rw [if_pos e] at h ⊢; cases h; exact ⟨u, rfl, r1⟩
        · rw [if_neg e] at h ⊢; exact i1 d h
      · intro h
        rw [atK] at h ⊢
        by_cases e : k' = k
        · rw [if_pos e] at h; cases h
        · rw [if_neg e] at h ⊢; exact i2 h
end
section
variable {X : Cx} {W : WX} {K : PySem.W.Frag}
noncomputable def oIxX (d e : D) : Res D := match d, keyD e with
  | .dtt ks vs, some k => match atK k ks vs with
    | some z => .ok z
    | none => .no
  | _, _ => .no
theorem ce_ixX (K : PySem.W.Frag) (hK : X.K = K) {a b : Expr} {pos : Pos} {ta tb : TE} {fa fb : DS → Res D} (hu : X.A.units + 64 < cLine) (ha : CE X W a ta fa) (hb : CE X W b tb fb) (hs : NoSl b := by exact fun _ _ => rfl) : CE X W (.Subscript a b pos) (tXGet K ta tb) (cBin oIxX fa fb) := by
  subst hK
  exact ⟨pe_xget hu ha.pe hb.pe hs, fun B0 H0 δ σ B H Q rel hp => by
    unfold cBin at hp
    refine ha.se B0 H0 δ σ B H _ rel ?_
    cases e : fa δ with
    | no => rw [e] at hp; exact hp
    | er x => rw [e] at hp; exact hp
    | ok d =>
      rw [e, Res.bind_ok] at hp
      intro v B1 H1 g1 r1
      refine hb.se B0 H0 δ σ B1 H1 _ (rel.mono g1) ?_
      cases e2 : fb δ with
      | no => rw [e2] at hp; exact hp
      | er x => rw [e2] at hp; exact fun c dx B' H' g' rp => hp c dx B' H' (g1.trans g') rp
      | ok d2 =>
        rw [e2, Res.bind_ok] at hp
        intro u B2 H2 g2 r2
        unfold oIxX at hp
        split at hp
        · rename_i ks vs k hk
          split at hp
          · rename_i z hz
            obtain ⟨p, us, o, rfl, _, _, dx, _, q⟩ := dtt_at (Rp.mono g2.b r1) g2.i
            obtain ⟨k1, k2⟩ := keyD_of hk r2 g2.i
            obtain ⟨w, hw, rw'⟩ := (atK_rel (k := k) (ks := ks) (fun u : Int × Addr × V => u.2.2) q).1 z hz
            exact ⟨p, ks, us, k, w, rfl, dx, k1, k2, hw, hp _ B2 H2 (g1.trans g2) rw'⟩
          · exact hp.elim
        · exact hp.elim⟩
noncomputable def oGetX (d e f : D) : Res D := match d, keyD e with
  | .dtt ks vs, some k => .ok ((atK k ks vs).getD f)
  | _, _ => .no
noncomputable def cGetX (fa fb fc : DS → Res D) : DS → Res D := fun δ => (fa δ).bind fun x => match x with
  | .dtt _ _ => (fb δ).bind fun y => (fc δ).bind fun z => oGetX x y z
  | _ => .no
noncomputable def itemsX : D → Res (List D)
  | .dtt ks _ => .ok (nkDs ks)
  | _ => .no
noncomputable def cKeysX (f : DS → Res D) : DS → Res (List D) := fun δ => (f δ).bind itemsX
theorem nkDs_len : ∀ ks : List NestedKey, (nkDs ks).length = ks.length
  | [] => by rw [nkDs]; rfl
  | k :: ks => by rw [nkDs, List.length_cons, List.length_cons, nkDs_len ks]
theorem ci_xkeys {tg e : Expr} {t : TE} {f : DS → Res D} (h : CE X W e t f) : CI X W tg e (iXKeys t) (cKeysX f) :=
  ⟨pi_xkeys h.pe, fun B0 H0 δ σ B H R rel hp => by
    unfold cKeysX at hp
    refine h.se B0 H0 δ σ B H _ rel ?_
    cases e : f δ with
    | no => rw [e] at hp; exact hp
    | er x => rw [e] at hp; exact hp
    | ok d =>
      rw [e, Res.bind_ok] at hp
      intro v B1 H1 g1 r1
      unfold itemsX at hp
      split at hp
      · rename_i ks vs
        obtain ⟨p, us, o, rfl, hb, hd, dx, kq, q⟩ := dtt_at r1 g1.i
        refine ⟨p, o, us, rfl, g1.i _ _ hb, hd, ?_⟩
        have hl : (nkDs ks).length = us.length := by rw [nkDs_len]; exact dx.len
        refine hp _ B1 H1 _ _ g1 (by rw [hl]; exact walk_keysX) (fun H2 s2 => s2 _ _ hb) fun i d B2 H2 x H3 hi s1 s2 y => ?_
        obtain ⟨rfl, hx⟩ := y
        refine ⟨B2, Grow.refl s2, ?_⟩
        obtain ⟨w, h1, h2⟩ := (RpA.mono s1 kq).get hi
        rw [hx] at h1
        cases h1
        exact h2
      · exact hp.elim⟩
noncomputable def gListX : List D → Res D
  | [.dtt ks _] => .ok (.lst (nkDs ks))
  | _ => .no
theorem k_listX (hc : X.calm = true := by rfl) : OKC X (.type "list") (fun xs H Q => ∃ d o us, xs = [V.ref d] ∧ H d = some (Dx d o us) ∧ DxO d o us ∧ ∀ p, H p = none → Q (.ref p) (upd H p (.lst (us.map fun u => .ref u.2.1)))) gListX := ⟨call_list_dX hc, fun vs ds B H Q i r h => by
  unfold gListX at h
  split at h
  · cases r with
    | cons r1 r2 =>
      cases r2
      obtain ⟨p, us, o, rfl, hb, hd, dx, kq, q⟩ := dtt_at r1 i
      exact ⟨p, o, us, rfl, i _ _ hb, hd, fun l hl => h _ _ _ (Grow.new i hl) (.lst (SqL.of upd_same) (kq.mono (Grow.new (K := X.K) i hl).b))⟩
  · exact h.elim, fun ds x => by unfold gListX; split <;> simp⟩
end
end DV
namespace DV
open PySem L2
mutual
noncomputable def D.pl : D → Bool
  | .v _ => true
  | .lst xs => D.plA xs
  | .tup xs => D.plA xs
  | .dct _ _ => false
  | .dlk _ _ => false
  | .ins _ _ _ => false
  | .dtt _ _ => false
  | .ptp _ => false
  | .wor _ _ => false
noncomputable def D.plA : List D → Bool
  | [] => true
  | d :: ds => d.pl && D.plA ds
end
noncomputable def NK.noSq : NK → Bool
  | .ls => false
  | .tp => false
  | _ => true
mutual
noncomputable def T.noSq : T → Bool
  | .im _ => true
  | .nd k ts => k.noSq && T.noSqA ts
noncomputable def T.noSqA : List T → Bool
  | [] => true
  | t :: ts => t.noSq && T.noSqA ts
end
noncomputable def SK : HO → Prop
  | .lst _ => True
  | .tup _ => True
  | .frz _ (.ins _ _ _) => False
  | .frz _ _ => True
  | .xd _ => True
  | _ => False
noncomputable def Exn.pl (x : Exn) : Bool := D.plA (x.fs.map (·.2))
section
variable {K : PySem.W.Frag} {B B' H : Hp}
theorem cell_noSq {k : NK} {p : Addr} {vs : List V} {fp : List Addr} (h : cell K H p vs fp k) (hk : k.noSq = true) : ∀ q ∈ fp, ∃ u, H q = some u ∧ ¬ SK u := by
  cases k with
  | ls => cases hk
  | tp => cases hk
  | dc ks => obtain ⟨us, h, _, _, rfl⟩ := h; intro q hq; rw [List.mem_singleton.mp hq]; exact ⟨_, h, fun z => z⟩
  | dt ks => obtain ⟨o, us, h, _, _, rfl⟩ := h; intro q hq; rw [List.mem_singleton.mp hq]; exact ⟨_, h, fun z => z⟩
  | ob c ns =>
    obtain ⟨C, dx, fs, h1, h2, _, _, _, rfl⟩ := h
    intro q hq
    rcases List.mem_cons.mp hq with rfl | hq
    · exact ⟨_, h1, fun z => z⟩
    · rw [List.mem_singleton.mp hq]; exact ⟨_, h2, fun z => z⟩
mutual
theorem RT.noSq : ∀ (t : T) (v : V), RT K B H t v → t.noSq = true → ∀ q, FT K H t v q → ∃ u, H q = some u ∧ ¬ SK u
  | .im d, v, _, _, q, h => by rw [FT] at h; exact h.elim
  | .nd k ts, v, h, hn, q, hq => by
    rw [RT] at h
    obtain ⟨p, vs, fp, rfl, hc, hr, _⟩ := h
    rw [T.noSq, Bool.and_eq_true] at hn
    rw [FT] at hq
    obtain ⟨p', vs', fp', z, hc2, hq⟩ := hq
    cases z
    obtain ⟨rfl, rfl⟩ := cell_one hc hc2
    rcases hq with hq | hq
    · exact cell_noSq hc hn.1 q hq
    · exact RTA.noSq ts _ hr hn.2 q hq
theorem RTA.noSq : ∀ (ts : List T) (vs : List V), RTA K B H ts vs → T.noSqA ts = true → ∀ q, FTA K H ts vs q → ∃ u, H q = some u ∧ ¬ SK u
  | [], _, _, _, q, h => by rw [FTA] at h; exact h.elim
  | _ :: _, [], h, _, _, _ => by rw [RTA] at h; exact h.elim
  | t :: ts, v :: vs, h, hn, q, hq => by
    rw [RTA] at h
    rw [T.noSqA, Bool.and_eq_true] at hn
    rw [FTA] at hq
    rcases hq with hq | hq
    · exact RT.noSq t v h.1 hn.1 q hq
    · exact RTA.noSq ts vs h.2.1 hn.2 q hq
end
end
section
variable {X : Cx} {W : WX} {K : PySem.W.Frag}
end
end DV
namespace DV
open PySem L2
inductive RM (α : Type) where
  | ok (a : α) (δ : DS)
  | er (x : Exn) (δ : DS)
  | no
noncomputable def RM.bind {α β : Type} : RM α → (α → DS → RM β) → RM β
  | .ok a δ, f => f a δ
  | .er x δ, _ => .er x δ
  | .no, _ => .no
@[simp] theorem RM.bind_ok {α β : Type} (a : α) (δ : DS) (f : α → DS → RM β) : (RM.ok a δ).bind f = f a δ := rfl
@[simp] theorem RM.bind_er {α β : Type} (x : Exn) (δ : DS) (f : α → DS → RM β) : (RM.er x δ : RM α).bind f = .er x δ := rfl
@[simp] theorem RM.bind_no {α β : Type} (f : α → DS → RM β) : (RM.no : RM α).bind f = .no := rfl
section
variable (K : PySem.W.Frag)
end
section
variable {X : Cx} {W : WX} {K : PySem.W.Frag} {B0 : Hp} {H0 : Org} {B B1 : Hp} {σ : L2.St}
end
end DV
namespace DV
open PySem L2
inductive MR where
  | ok (d : D) (t : T)
  | er (x : Exn) (t : T)
  | no
open Classical in
noncomputable def lessF (H : Hp) (F : Addr → Prop) : Hp := fun a => if F a then none else H a
section
variable {K : PySem.W.Frag} {B H B' H' : Hp} {F : Addr → Prop}
theorem lessF_same : Same (lessF H F) H := fun a o e => by
  unfold lessF at e
  split at e
  · cases e
  · exact e
theorem lessF_out {a : Addr} (h : ¬ F a) : lessF H F a = H a := by unfold lessF; exact if_neg h
theorem lessF_in {a : Addr} (h : F a) : lessF H F a = none := by unfold lessF; exact if_pos h
theorem lessF_none {a : Addr} (h : lessF H F a = none) : F a ∨ H a = none := by
  by_cases hf : F a
  · exact .inl hf
  · rw [lessF_out hf] at h; exact .inr h
theorem tab_lessF {P : Addr} {q : Nat → Nat → Str} (hF : ∀ a, F a → ∃ u, H a = some u ∧ Kind u) (h : NdefX.TabN H P q) : NdefX.TabN (lessF H F) P q := by
  obtain ⟨ps, h1, h2, h3⟩ := h
  have n1 : ¬ F P := fun z => by
    obtain ⟨u, hu, k⟩ := hF P z
    rw [h1] at hu
    exact k.tbl ps (Option.some.inj hu).symm
  refine ⟨ps, by rw [lessF_out n1]; exact h1, h2, fun pos cv hc => ?_⟩
  obtain ⟨c, e1, e2⟩ := h3 pos cv hc
  have n2 : ¬ F c := fun z => by
    obtain ⟨u, hu, k⟩ := hF c z
    rw [e2] at hu
    exact k.code _ _ (Option.some.inj hu).symm
  exact ⟨c, e1, by rw [lessF_out n2]; exact e2⟩
end
theorem TBt.less {K : PySem.W.Frag} {B H : Hp} {F : Addr → Prop} {τ : Addr → D × D} (h : TBt K τ B H) (hF : ∀ a, F a → ∃ u, H a = some u ∧ Kind u) : TBt K τ B (lessF H F) := h.grow (Same.refl _) (fun _ _ q => .inl q) fun a o us q => by
  have : ¬ F a := fun z => by
    obtain ⟨u, hu, k⟩ := hF a z
    rw [q] at hu
    exact k.noMX (Option.some.inj hu).symm
  rw [lessF_out this]
  exact q
noncomputable def PostM (K : PySem.W.Frag) (B H : Hp) (F : Addr → Prop) (v0 : V) (Q : VK) (E : XK) : MR → Prop
  | .ok d t => ∀ v B' H', Grow K B (lessF H F) B' H' → Rp K B' v d → RT K B' H' t v0 → (∀ q, FT K H' t v0 q → (F q ∨ H q = none) ∧ B' q = none) → Q v H'
  | .er x t => ∀ c dx B' H', Grow K B (lessF H F) B' H' → RpX K B' c dx x → RT K B' H' t v0 → (∀ q, FT K H' t v0 q → (F q ∨ H q = none) ∧ B' q = none) → E c dx H'
  | .no => False
noncomputable def spM (K : PySem.W.Frag) (n j : Nat) (F : NK → List T → List D → MR) : Sp := fun vs H Q E => vs.length = n ∧ ∃ v0 k ts ds B, vs[j]? = some v0 ∧ Same B H ∧ RT K B H (.nd k ts) v0 ∧ (∀ q, FT K H (.nd k ts) v0 q → B q = none) ∧ RpA K B (vs.set j .non) ds ∧ ((∀ p ∈ tabsOf K, NdefX.TabN H p lamAt) ∧ TB K B H) ∧ PostM K B H (FT K H (.nd k ts) v0) v0 Q E (F k ts ds)
noncomputable def ownAt (δ : DS) (j : Nat) : Option T := match δ[j]? with
  | some (some (.tr true k ts)) => some (.nd k ts)
  | _ => none
noncomputable def flM (j : Nat) : Fl → MR
  | .ro d δ => match ownAt δ j with
    | some t => .ok d t
    | none => .no
  | .nx δ => match ownAt δ j with
    | some t => .ok .non t
    | none => .no
  | .rs x δ => match ownAt δ j with
    | some t => .er x t
    | none => .no
  | _ => .no
noncomputable def defM (m j : Nat) (g : DS → Fl) : NK → List T → List D → MR := fun k ts ds => flM j (g ((st0 m ds).set j (some (.tr true k ts))))
section
variable {K : PySem.W.Frag} {B H : Hp}
theorem relM {N : List Str} {vs : List V} {ds : List D} {j : Nat} {v0 : V} {k : NK} {ts : List T} (hj : vs[j]? = some v0) (i : Same B H) (rt : RT K B H (.nd k ts) v0) (nb : ∀ q, FT K H (.nd k ts) v0 q → B q = none) (r : RpA K B (vs.set j .non) ds) (tb : (∀ p ∈ tabsOf K, NdefX.TabN H p lamAt) ∧ TB K B H) :
    Rel K B ⟨lessF H (FT K H (.nd k ts) v0), some v0⟩ B H (L2.start N vs) ((st0 (N.length - vs.length) ds).set j (some (.tr true k ts))) := by
  have hl : ds.length = vs.length := by have := r.length; simpa using this.symm
  have hjl : j < vs.length := (List.getElem?_eq_some_iff.mp hj).1
  have one : ∀ (a : Nat) (o : O), ((st0 (N.length - vs.length) ds).set j (some (.tr true k ts)))[a]? = some (some o) → (j = a ∧ o = .tr true k ts) ∨ (j ≠ a ∧ ∃ d, o = .im d ∧ ds[a]? = some d) := fun a o e => by
    rcases set_own e with ⟨h1, _, h2⟩ | ⟨h1, h2⟩
    · cases h2; exact .inl ⟨h1, rfl⟩
    · refine .inr ⟨h1, ?_⟩
      unfold st0 at h2
      by_cases ha : a < ds.length
      · rw [List.getElem?_append_left (by simpa using ha), List.getElem?_map] at h2
        cases q : ds[a]? with
        | none => rw [q] at h2; cases h2
        | some d => rw [q] at h2; cases h2; exact ⟨d, rfl, rfl⟩
      · rw [List.getElem?_append_right (by simpa using ha), List.getElem?_replicate] at h2
        split at h2 <;> cases h2
  refine ⟨Grow.of (Same.refl _) lessF_same i (fun _ _ => rfl) (fun _ _ q => .inl q), fun p hp => tab_lessF (fun a ha => RT.kind _ _ rt a ha) (tb.1 p hp), tb.2.imp fun τ h => h.less fun a ha => RT.kind _ _ rt a ha, ?_, fun a o e => ?_, fun a b o o' w w' hab e1 e2 e3 e4 q f1 f2 => ?_⟩
  · simp [L2.start, st0, hl]
  · rcases one a o e with ⟨rfl, rfl⟩ | ⟨hja, d, rfl, hd⟩
    · refine ⟨v0, ?_, rt, fun q hq => ⟨lessF_in hq, nb q hq⟩, fun _ => rfl⟩
      unfold L2.start
      rw [List.getElem?_append_left (by simpa using hjl), List.getElem?_map, hj]
      rfl
    · obtain ⟨v, h1, h2⟩ := r.get hd
      rw [List.getElem?_set_ne hja] at h1
      refine ⟨v, ?_, h2⟩
      have ha : a < vs.length := (List.getElem?_eq_some_iff.mp h1).1
      unfold L2.start
      rw [List.getElem?_append_left (by simpa using ha), List.getElem?_map, h1]
      rfl
  · rcases one a o e1 with ⟨h1, h2⟩ | ⟨_, d, h2, _⟩
    · rcases one b o' e2 with ⟨h3, _⟩ | ⟨_, d, h4, _⟩
      · exact hab (h1.symm.trans h3)
      · subst h4; exact f2
    · subst h2; exact f1
theorem Rel.out {B0 : Hp} {H0 : Hp} {v0 : V} {B' H' : Hp} {σ : L2.St} {δ : DS} {j : Nat} {t : T} (r : Rel K B0 ⟨H0, some v0⟩ B' H' σ δ) (e : ownAt δ j = some t) : RT K B' H' t v0 ∧ ∀ q, FT K H' t v0 q → H0 q = none ∧ B' q = none := by
  unfold ownAt at e
  split at e
  · rename_i k ts e1
    cases e
    obtain ⟨v, _, h1, h2, h3⟩ := r.sl j _ e1
    have hv := h3 rfl
    cases hv
    exact ⟨h1, h2⟩
  · cases e
theorem ss_defM {t : TS} {g : DS → Fl} {E : XK} {N : List Str} {vs : List V} {ds : List D} {j : Nat} {v0 : V} {k : NK} {ts : List T} {Q : VK} (h : SS K (Wof E) t g) (hj : vs[j]? = some v0) (i : Same B H) (rt : RT K B H (.nd k ts) v0) (nb : ∀ q, FT K H (.nd k ts) v0 q → B q = none) (r : RpA K B (vs.set j .non) ds) (tb : (∀ p ∈ tabsOf K, NdefX.TabN H p lamAt) ∧ TB K B H)
    (hp : PostM K B H (FT K H (.nd k ts) v0) v0 Q E (defM (N.length - vs.length) j g k ts ds)) : t { nx := fun _ H' => Q .non H', rt := Q } (L2.start N vs) H := by
  refine h B _ _ _ B H _ (relM hj i rt nb r tb) ?_
  unfold defM at hp
  cases e : g ((st0 (N.length - vs.length) ds).set j (some (.tr true k ts))) with
  | nx δ =>
    rw [e] at hp
    unfold flM at hp
    dsimp only at hp
    split at hp
    · rename_i t' ht
      exact fun σ B' H' s rel => let ⟨a, b⟩ := rel.out ht; hp .non B' H' rel.g (.v _) a fun q hq => ⟨lessF_none (b q hq).1, (b q hq).2⟩
    · exact hp.elim
  | ro d δ =>
    rw [e] at hp
    unfold flM at hp
    dsimp only at hp
    split at hp
    · rename_i t' ht
      exact fun v σ B' H' s rel rp => let ⟨a, b⟩ := rel.out ht; hp v B' H' rel.g rp a fun q hq => ⟨lessF_none (b q hq).1, (b q hq).2⟩
    · exact hp.elim
  | rs x δ =>
    rw [e] at hp
    unfold flM at hp
    dsimp only at hp
    split at hp
    · rename_i t' ht
      exact fun c dx σ B' H' s rel rp => let ⟨a, b⟩ := rel.out ht; hp c dx B' H' rel.g rp a fun q hq => ⟨lessF_none (b q hq).1, (b q hq).2⟩
    · exact hp.elim
  | rt d => rw [e] at hp; exact hp.elim
  | rf ds => rw [e] at hp; exact hp.elim
  | rn ds => rw [e] at hp; exact hp.elim
  | bk δ => rw [e] at hp; exact hp.elim
  | ct δ => rw [e] at hp; exact hp.elim
  | no => rw [e] at hp; exact hp.elim
end
section
variable {P : Program} {w : World} {K : PySem.W.Frag} {mg : Str → Option Value} {base : Heap}
theorem def_okM {x qual : Str} {st : Stmt} {f : Addr} {fd : FuncData} {N ps : List Str} {k m : Nat} (j : Nat) {g : DS → Fl} (F : Fun K x qual st f fd) (S : FnScope N ps (defScope st)) (hm : N.length - ps.length = m)
    (hbody : ∀ (cdv : Value) (A : Around) (outer : List Env) (s : Shared) (H : Hp) (E : XK), Room k (A.deeper (PyProof.Rows.envOfC qual (defScope st) s.heap.objs.size f cdv)) → Takes (cxOf (L2.CX P w) P w K mg base N qual (defScope st) f cdv A outer s H E) (Wof E) →
      PassesOwn (model P w) (A.deeper (PyProof.Rows.envOfC qual (defScope st) s.heap.objs.size f cdv)) (PyProof.Rows.envOfC qual (defScope st) s.heap.objs.size f cdv) (cxOf (L2.CX P w) P w K mg base N qual (defScope st) f cdv A outer s H E).xe → (A.deeper (PyProof.Rows.envOfC qual (defScope st) s.heap.objs.size f cdv)).units + 64 < cLine → ∃ t, CSs (cxOf (L2.CX P w) P w K mg base N qual (defScope st) f cdv A outer s H E) (Wof E) (defBody st) t g) : FnOk P w K mg base (L2.CX P w) (k + 1) f fd ps (spM K ps.length j (defM m j g)) := by
  refine F.okX S (fun vs H Q E h => h.1) fun cdv A outer s H vs Q E hr h => ?_
  obtain ⟨hl, v0, k0, ts, ds, B, hj, i, rt, nb, r, tb, hp⟩ := h
  obtain ⟨t, ht⟩ := hbody cdv A outer s H E hr (takes_of rfl rfl rfl rfl) (passes_of (X := cxOf (L2.CX P w) P w K mg base N qual _ f cdv A outer s H E) rfl) hr.units
  exact ⟨t, ht.ps, ss_defM (N := N) ht.ss hj i rt nb r tb (by rw [hl, hm]; exact hp)⟩
end
section
variable {K : PySem.W.Frag} {B0 : Hp} {H0 : Org} {B H B' H' : Hp} {σ : L2.St} {δ : DS}
end
noncomputable def asT (δ : DS) (i : Nat) : Option (Bool × NK × List T) := match δ[i]? with
  | some (some (.tr m k ts)) => some (m, k, ts)
  | _ => none
theorem asT_some {δ : DS} {i : Nat} {m : Bool} {k : NK} {ts : List T} (h : asT δ i = some (m, k, ts)) : δ[i]? = some (some (.tr m k ts)) := by
  unfold asT at h
  split at h
  · rename_i e; cases h; exact e
  · cases h
section
variable {X : Cx} {W : WX} {K : PySem.W.Frag}
end
end DV
namespace DV
open PySem L2
noncomputable def tMethS (C : Addr) (m : Str) (sp : Sp) (dvs : List V) (E : L2.St → XK) (ta : TE) (t : TA) : TE := fun σ H Q => ta σ H fun x H1 => ∃ a dx fs, x = .ref a ∧ H1 a = some (.ins C dx fs) ∧ fs.lookup m = none ∧ t σ H1 fun vs H2 => sp (x :: (vs ++ dvs)) H2 Q (E σ)
noncomputable def tMakeS (C : Addr) (sp : Sp) (dvs : List V) (E : L2.St → XK) (t : TA) : TE := fun σ H Q => t σ H fun vs H1 => ∀ x dx, H1 x = none → H1 dx = none → dx ≠ x →
  sp (.ref x :: (vs ++ dvs)) (upd (upd H1 dx (.own x)) x (.ins C dx [])) (fun v H2 => v = .non ∧ Q (.ref x) H2) (E σ)
section
variable {X : Cx} {CX : CXT} {k : Nat} {f C : Addr} {fd : FuncData} {ps : List Str} {sp : Sp} {dvs : List V} {ds : List Value} {E : L2.St → XK} {x m : Str} {p pos apos : Pos} {e o : Expr} {es : List Expr} {ta : TE} {t : TA}
theorem pe_methSD {pl : Sem Bool} (he : PE X o ta) (c : Cls X.K C) (hm : Meth X.K C m f) (F : FnOk X.prog X.w X.K X.mg X.base CX k f fd ps sp) (hr : Room k X.A) (hb : Binds X.K fd ps ds) (hd : Vals dvs ds) (hx : ∀ σ, PassesAt CX X σ (E σ)) (ha : PA X (e :: es) t)
    (hst : starEach (e :: es) X.env = (false, eval e X.env) :: starEach es X.env := by rfl) (hpl : (backTo pos (starEach es X.env)).any (·.1) = false := by rfl)
    (ht : eval (.Call (.Attribute o m apos) (e :: es) [] pos) X.env = (do
      let ov ← eval o X.env
      standAt apos.atName
      let (f, first) ← holding [ov] (getMethod ov m pl)
      callWith pos f first (backTo pos (starEach (e :: es) X.env)) (backToKw pos (keywordEach [] X.env))) := by rfl) :
    PE X (.Call (.Attribute o m apos) (e :: es) [] pos) (tMethS C m sp dvs E ta t) := by
  refine ⟨fun pins s σ H Q I h => ?_⟩
  refine PySem.W.methodCall_KW (pl := pl) (thn (he.run pins s σ H _ I h) fun u s1 ⟨x, H1, I1, rx, a, dx, fs, ex, ea, l, q⟩ => ?_) ht
  subst ex
  obtain rfl : u = Value.ref a := rx
  refine getmeth_ok I1 ea c hm l ?_
  refine PySem.W.callWith_K (first := [.ref a]) (h₀ := X.base) I.ok.mod.kin hm.kp (thn (ha.run pos pins s1 σ H1 _ I1 q) fun us s2 ⟨vs, H2, I2, r, q2⟩ => ⟨I2.kIn, ?_⟩) hst hpl
  exact run_fnSD (us := .ref a :: us) (vs := .ref a :: vs) F hr hb hd (hx σ) I2 (.cons rfl r) q2
theorem pe_meth0SD {pl : Sem Bool} (he : PE X o ta) (c : Cls X.K C) (hm : Meth X.K C m f) (F : FnOk X.prog X.w X.K X.mg X.base CX k f fd ps sp) (hr : Room k X.A) (hb : Binds X.K fd ps ds) (hd : Vals dvs ds) (hx : ∀ σ, PassesAt CX X σ (E σ))
    (ht : eval (.Call (.Attribute o m apos) [] [] pos) X.env = (do
      let ov ← eval o X.env
      standAt apos.atName
      let (f, first) ← holding [ov] (getMethod ov m pl)
      callWith pos f first (backTo pos (starEach [] X.env)) (backToKw pos (keywordEach [] X.env))) := by rfl) :
    PE X (.Call (.Attribute o m apos) [] [] pos) (tMethS C m sp dvs E ta tNil) := by
  refine ⟨fun pins s σ H Q I h => ?_⟩
  refine PySem.W.methodCall_KW (pl := pl) (thn (he.run pins s σ H _ I h) fun u s1 ⟨x, H1, I1, rx, a, dx, fs, ex, ea, l, q⟩ => ?_) ht
  subst ex
  obtain rfl : u = Value.ref a := rx
  refine getmeth_ok I1 ea c hm l ?_
  exact PySem.W.callWith_K0 (first := [.ref a]) I1.kIn hm.kp (run_fnSD (us := [.ref a]) (vs := [.ref a]) F hr hb hd (hx σ) I1 (.cons rfl .nil) q)
theorem run_makeSD {pins : List (Addr × Obj)} {σ : L2.St} {H : Hp} {s : Shared} {Q : VK} {us : List Value} {vs : List V} (M : Mk X.K C f) (F : FnOk X.prog X.w X.K X.mg X.base CX k f fd ps sp) (hr : Room (k + 1) X.A) (hb : Binds X.K fd ps ds) (hd : Vals dvs ds)
    (hx : PassesAt CX X σ (E σ)) (I : Inv X pins σ H s) (r : Vals vs us)
    (h : ∀ x dx, H x = none → H dx = none → dx ≠ x → sp (.ref x :: (vs ++ dvs)) (upd (upd H dx (.own x)) x (.ins C dx [])) (fun v H2 => v = .non ∧ Q (.ref x) H2) (E σ)) :
    wpAny (model X.prog X.w) X.A (call (.ref C) us) (EP X pins σ Q) X.xe s := by
  have hq := h (s.heap.objs.size + 1) s.heap.objs.size (I.hok.fresh (Nat.le_succ _)) (I.hok.fresh (Nat.le_refl _)) (Nat.ne_of_lt (Nat.lt_succ_self _))
  have I2 := Inv.made (C := C) I
  have r2 : Vals (V.ref (s.heap.objs.size + 1) :: (vs ++ dvs)) (Value.ref (s.heap.objs.size + 1) :: (us ++ ds)) := .cons rfl (r.append hd)
  have hl : (Value.ref (s.heap.objs.size + 1) :: us ++ ds).length = ps.length := by
    have e := r2.length
    rw [F.len _ _ _ _ hq] at e
    exact e.symm
  refine wpAny_call (make_map (f := f) I.kIn M.makes M.init (beq_iff_eq.mp M.fn) (codeAny_mono (F.run _ X.stack _ _ ⟨Value.ref (s.heap.objs.size + 1) :: us, []⟩ (Value.ref (s.heap.objs.size + 1) :: (us ++ ds)) _ _ (E σ) (hr.make C us [])
    (I2.env0.make C us []) (hb _ (Value.ref (s.heap.objs.size + 1) :: us) I2.kIn hl) r2 hq) fun r s' hq' => ?_))
  cases r with
  | error e => exact hx pins _ _ e s' I2 hq'
  | ok fl =>
    cases fl with
    | ret u =>
      obtain ⟨v, H', I3, rv, ev, q3⟩ := I2.after hq'
      subst ev
      exact ⟨rv, ⟨V.ref (s.heap.objs.size + 1), H', I3, rfl, q3⟩⟩
    | next => exact False.elim hq'
    | brk => exact False.elim hq'
    | cont => exact False.elim hq'
theorem pe_makeSD (M : Mk X.K C f) (F : FnOk X.prog X.w X.K X.mg X.base CX k f fd ps sp) (hr : Room (k + 1) X.A) (hg : Gl X x) (hm : X.mg x = some (.ref C)) (hb : Binds X.K fd ps ds) (hd : Vals dvs ds) (hx : ∀ σ, PassesAt CX X σ (E σ))
    (ha : PA X (e :: es) t) (hdb : (x == ("__debug__" : Str)) = false := by decide) (he : starEach (e :: es) X.env = (false, eval e X.env) :: starEach es X.env := by rfl) (hpl : (backTo pos (starEach es X.env)).any (·.1) = false := by rfl) :
    PE X (.Call (.Name x p) (e :: es) [] pos) (tMakeS C sp dvs E t) := by
  refine ⟨fun pins s σ H Q I h => ?_⟩
  refine wpAny_Call_Name_kw (ld_glob I hg hm ?_ hdb)
  refine PySem.W.callWith_K (h₀ := X.base) I.ok.mod.kin M.kp (thn (ha.run pos pins s σ H _ I h) fun us s1 ⟨vs, H1, I1, r, q⟩ => ⟨I1.kIn, ?_⟩) he hpl
  exact run_makeSD M F hr hb hd (hx σ) I1 r q
end
end DV
namespace DV
open PySem L2
structure ClK (K : PySem.W.Frag) (c : Str) (C : Addr) : Prop where
  v : clsV K c = some (.ref C)
  cl : Cls K C
noncomputable def lookD (f : Str) : List Str → List D → Option D
  | n :: ns, d :: ds => if n = f then some d else lookD f ns ds
  | _, _ => none
section
variable {K : PySem.W.Frag} {B : Hp}
theorem lookD_rel {f : Str} : ∀ {fs : List (Str × V)} {ds : List D}, RpA K B (fs.map (·.2)) ds → ∀ d, lookD f (fs.map (·.1)) ds = some d → ∃ v, fs.lookup f = some v ∧ Rp K B v d
  | [], _, _, d, h => by simp [lookD] at h
  | (n, x) :: fs, ds, r, d, h => by
    rw [List.map_cons] at r
    cases r with
    | cons r1 r2 =>
      rw [List.map_cons, lookD] at h
      rw [List.lookup_cons]
      by_cases e : n = f
      · rw [if_pos e] at h
        cases h
        subst e
        exact ⟨x, by simp, r1⟩
      · rw [if_neg e] at h
        have : (f == n) = false := by simpa using fun z => e z.symm
        rw [this]
        exact lookD_rel r2 d h
theorem lookup_none {α : Type} {f : Str} : ∀ {fs : List (Str × α)}, f ∉ fs.map (·.1) → fs.lookup f = none
  | [], _ => rfl
  | (n, x) :: fs, h => by
    rw [List.lookup_cons]
    have : (f == n) = false := by
      simp only [List.map_cons, List.mem_cons, not_or] at h
      simpa using h.1
    rw [this]
    exact lookup_none fun z => h (by simp [List.map_cons, z])
theorem ins_of {c : Str} {ns : List Str} {ds : List D} {v : V} (r : Rp K B v (.ins c ns ds)) : ∃ a C dx fs, v = .ref a ∧ B a = some (.ins C dx fs) ∧ clsV K c = some (.ref C) ∧ fs.map (·.1) = ns ∧ RpA K B (fs.map (·.2)) ds := by
  cases r with
  | ins h1 h2 h3 q => exact ⟨_, _, _, _, rfl, h1, h3, rfl, q⟩
end
noncomputable def FldK (K : PySem.W.Frag) (cs : List Str) (f : Str) : Prop := ∀ c ∈ cs, ∃ C, ClK K c C ∧ NoAttr K C f
section
variable {X : Cx} {W : WX} {K : PySem.W.Frag}
noncomputable def oFld (cs : List Str) (f : Str) : D → Res D
  | .ins c ns ds => if c ∈ cs then match lookD f ns ds with
    | some d => .ok d
    | none => .no else .no
  | _ => .no
noncomputable def cFld (cs : List Str) (f : Str) (fa : DS → Res D) : DS → Res D := fun δ => (fa δ).bind (oFld cs f)
theorem ce_fld (K : PySem.W.Frag) (hK : X.K = K) {cs : List Str} {e : Expr} {f : Str} {pos : Pos} {ta : TE} {fa : DS → Res D} (hf : FldK K cs f) (h : CE X W e ta fa) (hb : attributeBase e f X.env (eval e X.env) = eval e X.env := by rfl) : CE X W (.Attribute e f pos) (tFld K ta f) (cFld cs f fa) := by
  subst hK
  refine ⟨pe_fld h.pe hb, fun B0 H0 δ σ B H Q rel hp => ?_⟩
  unfold cFld at hp
  refine h.se B0 H0 δ σ B H _ rel ?_
  cases e : fa δ with
  | no => rw [e] at hp; exact hp
  | er x => rw [e] at hp; exact hp
  | ok d =>
    rw [e, Res.bind_ok] at hp
    intro v B1 H1 g1 r1
    unfold oFld at hp
    split at hp
    · rename_i c ns ds
      split at hp
      · rename_i hc
        split at hp
        · rename_i d hd
          obtain ⟨a, C, dx, fs, rfl, hb1, hv, rfl, q⟩ := ins_of r1
          obtain ⟨C', k, na⟩ := hf c hc
          have := hv.symm.trans k.v
          cases this
          obtain ⟨w, hw, rw'⟩ := lookD_rel q d hd
          exact ⟨a, C, dx, fs, w, rfl, g1.i _ _ hb1, k.cl, na, hw, hp w B1 H1 g1 rw'⟩
        · exact hp.elim
      · exact hp.elim
    · exact hp.elim
noncomputable def cMth (c m : Str) (F : List D → Res D) (dd : List D) (fa : DS → Res D) (f : DS → Res (List D)) : DS → Res D := fun δ => (fa δ).bind fun x => match x with
  | .ins c' ns vs => if c' = c ∧ m ∉ ns then (f δ).bind fun ds => F (.ins c' ns vs :: (ds ++ dd)) else .no
  | _ => .no
theorem se_mth {c m : Str} {C : Addr} {n : Nat} {F : List D → Res D} {dd : List D} {dvs : List V} {ta : TE} {t : TA} {fa : DS → Res D} {f : DS → Res (List D)} (k : clsV K c = some (.ref C)) (hl : ∀ δ ds, f δ = .ok ds → ds.length + dd.length + 1 = n) (hd : ∀ B, RpA K B dvs dd) (ha : SE K W ta fa) (h : SA K W t f) : SE K W (tMethS C m (spD K n F) dvs (WE W) ta t) (cMth c m F dd fa f) := fun B0 H0 δ σ B H Q rel hp => by
  unfold cMth at hp
  refine ha B0 H0 δ σ B H _ rel ?_
  cases e : fa δ with
  | no => rw [e] at hp; exact hp
  | er x => rw [e] at hp; exact hp
  | ok d =>
    rw [e, Res.bind_ok] at hp
    intro v B1 H1 g1 r1
    split at hp
    · rename_i c' ns vs
      split at hp
      · rename_i hc
        obtain ⟨rfl, hm⟩ := hc
        obtain ⟨a, C', dx, fs, rfl, hb1, hv, rfl, q⟩ := ins_of r1
        have := hv.symm.trans k
        cases this
        refine ⟨a, dx, fs, rfl, g1.i _ _ hb1, lookup_none hm, h B0 H0 δ σ B1 H1 _ (rel.mono g1) ?_⟩
        cases e2 : f δ with
        | no => rw [e2] at hp; exact hp
        | er x => rw [e2] at hp; exact fun c dx B' H' g' rp => hp c dx B' H' (g1.trans g') rp
        | ok ds =>
          rw [e2, Res.bind_ok] at hp
          intro us B2 H2 g2 r2
          have rel2 := (rel.mono g1).mono g2
          refine ⟨?_, _ :: (ds ++ dd), B2, g2.i, .cons (r1.mono g2.b) (r2.append (hd B2)), ⟨fun p hp' => rel2.g.t p (rel2.tk p hp'), rel2.g.tb rel2.nt⟩, ?_⟩
          · rw [List.length_cons, List.length_append, r2.length, (hd B2).length]
            exact hl δ ds e2
          · cases e3 : F (.ins c' (fs.map (·.1)) vs :: (ds ++ dd)) with
            | no => rw [e3] at hp; exact hp
            | er x => rw [e3] at hp; exact fun c dx B' H' g' rp => hp c dx B' H' ((g1.trans g2).trans g') rp
            | ok z => rw [e3] at hp; exact fun v B' H' g' rp => hp v B' H' ((g1.trans g2).trans g') rp
      · exact hp.elim
    · exact hp.elim
theorem ce_mth (K : PySem.W.Frag) (hK : X.K = K) {k n : Nat} {c m : Str} {C f : Addr} {fd : FuncData} {ps : List Str} {F : List D → Res D} {dd : List D} {dvs : List V} {ds : List Value} {pos apos : Pos} {o e : Expr} {es : List Expr} {ta : TE} {t : TA} {fo : DS → Res D} {fa : DS → Res (List D)}
    (kc : ClK K c C) (hm : Meth K C m f) (G : FnOk X.prog X.w K X.mg X.base (L2.CX X.prog X.w) k f fd ps (spD K n F)) (hr : Room k X.A) (hb : Binds K fd ps ds) (hd : Vals dvs ds) (hdd : ∀ B, RpA K B dvs dd) (tk : Takes X W) (ho : CE X W o ta fo) (ha : CL X W (e :: es) t fa) {pl : Sem Bool}
    (hn : (e :: es).length + dd.length + 1 = n := by rfl)
    (hst : starEach (e :: es) X.env = (false, eval e X.env) :: starEach es X.env := by rfl) (hpl : (backTo pos (starEach es X.env)).any (·.1) = false := by rfl)
    (ht : eval (.Call (.Attribute o m apos) (e :: es) [] pos) X.env = (do
      let ov ← eval o X.env
      standAt apos.atName
      let (f, first) ← holding [ov] (getMethod ov m pl)
      callWith pos f first (backTo pos (starEach (e :: es) X.env)) (backToKw pos (keywordEach [] X.env))) := by rfl) :
    CE X W (.Call (.Attribute o m apos) (e :: es) [] pos) (tMethS C m (spD K n F) dvs (WE W) ta t) (cMth c m F dd fo fa) := by
  subst hK
  exact ⟨pe_methSD ho.pe kc.cl hm G hr hb hd (fun σ => passAt tk σ) ha.pa hst hpl ht, se_mth kc.v (fun δ ds h => by rw [ha.ln δ ds h]; exact hn) hdd ho.se ha.sa⟩
theorem ce_mth0 (K : PySem.W.Frag) (hK : X.K = K) {k n : Nat} {c m : Str} {C f : Addr} {fd : FuncData} {ps : List Str} {F : List D → Res D} {dd : List D} {dvs : List V} {ds : List Value} {pos apos : Pos} {o : Expr} {ta : TE} {fo : DS → Res D}
    (kc : ClK K c C) (hm : Meth K C m f) (G : FnOk X.prog X.w K X.mg X.base (L2.CX X.prog X.w) k f fd ps (spD K n F)) (hr : Room k X.A) (hb : Binds K fd ps ds) (hd : Vals dvs ds) (hdd : ∀ B, RpA K B dvs dd) (tk : Takes X W) (ho : CE X W o ta fo) {pl : Sem Bool}
    (hn : dd.length + 1 = n := by rfl)
    (ht : eval (.Call (.Attribute o m apos) [] [] pos) X.env = (do
      let ov ← eval o X.env
      standAt apos.atName
      let (f, first) ← holding [ov] (getMethod ov m pl)
      callWith pos f first (backTo pos (starEach [] X.env)) (backToKw pos (keywordEach [] X.env))) := by rfl) :
    CE X W (.Call (.Attribute o m apos) [] [] pos) (tMethS C m (spD K n F) dvs (WE W) ta tNil) (cMth c m F dd fo cNil) := by
  subst hK
  exact ⟨pe_meth0SD ho.pe kc.cl hm G hr hb hd (fun σ => passAt tk σ) ht, se_mth kc.v (fun δ ds h => by cases h; simpa using hn) hdd ho.se ca_nil.sa⟩
end
end DV
namespace DV
open PySem L2
section
variable {X : Cx} {W : WX} {K : PySem.W.Frag}
noncomputable def madeT : MR → Res T
  | .ok (.v .non) t => .ok t
  | .er x _ => .er x
  | _ => .no
noncomputable def cMake (c : Str) (F : NK → List T → List D → MR) (dd : List D) (f : DS → Res (List D)) : DS → Res T := fun δ => (f δ).bind fun ds => madeT (F (.ob c []) [] (.non :: (ds ++ dd)))
theorem sn_make {c : Str} {C : Addr} {n : Nat} {F : NK → List T → List D → MR} {dd : List D} {dvs : List V} {t : TA} {f : DS → Res (List D)} (k : clsV K c = some (.ref C)) (hl : ∀ δ ds, f δ = .ok ds → ds.length + dd.length + 1 = n) (hd : ∀ B, RpA K B dvs dd) (h : SA K W t f) : SN K W (tMakeS C (spM K n 0 F) dvs (WE W) t) (cMake c F dd f) := fun B0 H0 δ σ B H Q rel hp => by
  unfold cMake at hp
  refine h B0 H0 δ σ B H _ rel ?_
  cases e2 : f δ with
  | no => rw [e2] at hp; exact hp
  | er x => rw [e2] at hp; exact hp
  | ok ds =>
    rw [e2, Res.bind_ok] at hp
    intro us B1 H1 g1 r1 x dx hx hdx ne
    have rel1 := rel.mono g1
    have s1 : Same H1 (upd H1 dx (.own x)) := same_new hdx
    have hx' : upd H1 dx (.own x) x = none := by rw [upd_ne (Ne.symm ne)]; exact hx
    have s2 : Same (upd H1 dx (.own x)) (upd (upd H1 dx (.own x)) x (.ins C dx [])) := same_new hx'
    have hdx2 : upd (upd H1 dx (.own x)) x (.ins C dx []) dx = some (.own x) := by rw [upd_ne ne, upd_same]
    have hb1 : B1 x = none := g1.i.free hx
    have hb2 : B1 dx = none := g1.i.free hdx
    have rt : RT K B1 (upd (upd H1 dx (.own x)) x (.ins C dx [])) (.nd (.ob c []) []) (.ref x) := by
      rw [RT]
      exact ⟨x, [], [x, dx], rfl, ⟨C, dx, [], upd_same, hdx2, k, rfl, rfl, rfl⟩, by rw [RTA]; trivial, fun q _ z => by rw [FTA] at z; exact z, trivial⟩
    have ft : ∀ q, FT K (upd (upd H1 dx (.own x)) x (.ins C dx [])) (.nd (.ob c []) []) (.ref x) q ↔ q = x ∨ q = dx := fun q => by
      rw [FT]
      constructor
      · rintro ⟨p, vs, fp, z, hc, h⟩
        cases z
        obtain ⟨C', dx', fs, h1, h2, h3, h4, h5, rfl⟩ := hc
        rw [upd_same] at h1
        cases h1
        rcases h with h | h
        · simpa using h
        · rw [FTA] at h; exact h.elim
      · intro h
        exact ⟨x, [], [x, dx], rfl, ⟨C, dx, [], upd_same, hdx2, k, rfl, rfl, rfl⟩, .inl (by simpa using h)⟩
    have el : lessF (upd (upd H1 dx (.own x)) x (.ins C dx [])) (FT K (upd (upd H1 dx (.own x)) x (.ins C dx [])) (.nd (.ob c []) []) (.ref x)) = H1 := by
      funext a
      by_cases ha : a = x ∨ a = dx
      · rw [lessF_in ((ft a).mpr ha)]
        rcases ha with rfl | rfl
        · exact hx.symm
        · exact hdx.symm
      · rw [lessF_out fun z => ha ((ft a).mp z)]
        rw [upd_ne fun z => ha (.inl z), upd_ne fun z => ha (.inr z)]
    refine ⟨?_, .ref x, .ob c [], [], .non :: (ds ++ dd), B1, rfl, (g1.i.trans s1).trans s2, rt, fun q hq => ?_, .cons (.v _) (r1.append (hd B1)), ⟨fun p hp' => ((rel1.g.t p (rel1.tk p hp')).ext s1).ext s2, (rel1.g.tb rel1.nt).imp fun τ h => h.grow (Same.refl _) (fun _ _ q => .inl q) fun a o us q => s2 _ _ (s1 _ _ q)⟩, ?_⟩
    · rw [List.length_cons, List.length_append, r1.length, (hd B1).length]
      exact hl δ ds e2
    · rcases (ft q).mp hq with rfl | rfl
      · exact hb1
      · exact hb2
    · have new : ∀ q, (FT K (upd (upd H1 dx (.own x)) x (.ins C dx [])) (.nd (.ob c []) []) (.ref x) q ∨ upd (upd H1 dx (.own x)) x (.ins C dx []) q = none) → H1 q = none := fun q hq => by
        rcases hq with hq | hq
        · rcases (ft q).mp hq with rfl | rfl
          · exact hx
          · exact hdx
        · cases e : H1 q with
          | none => rfl
          | some u => rw [s2 _ _ (s1 _ _ e)] at hq; cases hq
      cases e3 : F (.ob c []) [] (.non :: (ds ++ dd)) with
      | no => rw [e3] at hp; exact hp
      | er x t =>
        rw [e3] at hp
        intro c' dx' B' H' g' rp rt' n
        rw [el] at g'
        exact hp c' dx' B' H' (g1.trans g') rp
      | ok d t =>
        rw [e3] at hp
        unfold madeT at hp
        split at hp
        · rename_i heq
          cases heq
          intro v B' H' g' rp rt' n
          rw [el] at g'
          cases rp
          exact ⟨rfl, hp _ B' H' (g1.trans g') rt' fun q hq => ⟨g1.free (new q (n q hq).1), (n q hq).2⟩⟩
        · rename_i heq; cases heq
        · exact hp.elim
theorem cn_make (K : PySem.W.Frag) (hK : X.K = K) {k n : Nat} {c : Str} {C f : Addr} {fd : FuncData} {ps : List Str} {F : NK → List T → List D → MR} {dd : List D} {dvs : List V} {ds : List Value} {p pos : Pos} {e : Expr} {es : List Expr} {t : TA} {fa : DS → Res (List D)}
    (kc : ClK K c C) (M : Mk K C f) (G : FnOk X.prog X.w K X.mg X.base (L2.CX X.prog X.w) k f fd ps (spM K n 0 F)) (hr : Room (k + 1) X.A) (hm : X.mg c = some (.ref C)) (hb : Binds K fd ps ds) (hd : Vals dvs ds) (hdd : ∀ B, RpA K B dvs dd) (tk : Takes X W)
    (ha : CL X W (e :: es) t fa) (hn : (e :: es).length + dd.length + 1 = n := by rfl) (hg : Gl X c := by rfl) (hdb : (c == ("__debug__" : Str)) = false := by decide) (he : starEach (e :: es) X.env = (false, eval e X.env) :: starEach es X.env := by rfl) (hpl : (backTo pos (starEach es X.env)).any (·.1) = false := by rfl) :
    CN X W (.Call (.Name c p) (e :: es) [] pos) (tMakeS C (spM K n 0 F) dvs (WE W) t) (cMake c F dd fa) := by
  subst hK
  exact ⟨pe_makeSD M G hr hg hm hb hd (fun σ => passAt tk σ) ha.pa hdb he hpl, sn_make kc.v (fun δ ds h => by rw [ha.ln δ ds h]; exact hn) hdd ha.sa⟩
end
end DV
namespace DV
open PySem L2
section
variable {X : Cx} {W : WX} {K : PySem.W.Frag}
noncomputable def cNx0 : DS → Res T := fun _ => .ok (.nd (.dt []) [])
theorem cn_x0 {pos : Pos} : CN X W (.Dict [] [] pos) tXNew cNx0 := ⟨pe_xnew, fun B0 H0 δ σ B H Q rel hp p o hp' hd => by
  refine hp (.ref p) B _ (Grow.raw rel.g.i hp') ?_ fun q hq => ?_
  · rw [RT]
    refine ⟨p, [], [p], rfl, ⟨o, [], upd_same, ⟨hd, rfl, List.nodup_nil, fun k hk => nomatch hk⟩, rfl, rfl⟩, by rw [RTA]; trivial, fun q _ z => by rw [FTA] at z; exact z, ⟨o, [], upd_same, by rw [nkDs]; exact .nil⟩⟩
  · rw [FT] at hq
    obtain ⟨p', vs, fp, z, hc, hq⟩ := hq
    cases z
    obtain ⟨o', us, h1, _, rfl, rfl⟩ := hc
    rcases hq with hq | hq
    · rw [List.mem_singleton.mp hq]; exact ⟨hp', rel.g.i.free hp'⟩
    · rw [FTA] at hq; exact hq.elim⟩
end
section
variable {K : PySem.W.Frag} {B0 : Hp} {H0 : Org} {B H B' H' : Hp} {σ : L2.St} {δ : DS}
theorem Rel.chgN {i : Nat} {o : O} {z : Option O} {v v' : V} (r : Rel K B0 H0 B H σ δ) (e : δ[i]? = some (some o)) (es : σ[i]? = some (some v)) (g : Grow K B0 H0.h B' H') (sb : Same B B')
    (same : ∀ q u, ¬ Ft K H v q o → H q = some u → Kind u → H' q = H q ∧ B' q = B q) (new : ∀ o', z = some o' → SR K H0 B' H' v' o' ∧ ∀ q, Ft K H' v' q o' → Ft K H v q o ∨ ∀ (j : Nat) (oj : O) (w : V), δ[j]? = some (some oj) → σ[j]? = some (some w) → ¬ Ft K H w q oj) :
    Rel K B0 H0 B' H' (σ.set i (some v')) (δ.set i z) := by
  have hl := Rel.lt e
  have stay : ∀ (j : Nat) (oj : O) (w : V), j ≠ i → δ[j]? = some (some oj) → σ[j]? = some (some w) → SR K H0 B' H' w oj ∧ ∀ q, Ft K H' w q oj ↔ Ft K H w q oj := fun j oj w hj ej ew => by
    obtain ⟨w', h1, h2⟩ := r.sl j oj ej
    rw [ew] at h1
    cases h1
    refine h2.move sb fun q hq => ?_
    obtain ⟨_, hb, u, hh, kd⟩ := h2.new q hq
    obtain ⟨s1, s2⟩ := same q u (fun z => r.sep i j o oj v w (Ne.symm hj) e ej es ew q z hq) hh kd
    exact ⟨s2.trans hb, s1⟩
  refine ⟨g, r.tk, r.nt, by simp [r.len], fun j oj ej => ?_, r.sepSet (fun hi => by rw [r.len]; exact hi) (fun j oj w hj ej ew q hq => ((stay j oj w hj ej ew).2 q).mp hq) fun o' ho j oj w hj ej ew q hq hq' => ?_⟩
  · rcases set_own ej with ⟨rfl, _, ho⟩ | ⟨hj, ej⟩
    · exact ⟨v', by rw [List.getElem?_set_self (by rw [r.len]; exact hl)], (new oj ho).1⟩
    · obtain ⟨w, h1, _⟩ := r.sl j oj ej
      rw [List.getElem?_set_ne hj]
      exact ⟨w, h1, (stay j oj w (Ne.symm hj) ej h1).1⟩
  · rcases (new o' ho).2 q hq with h | h
    · exact r.sep i j o oj v w (Ne.symm hj) e ej es ew q h hq'
    · exact h j oj w ej ew hq'
end
noncomputable def putN (f : Str) : List Str → List Str
  | [] => [f]
  | n :: ns => if n = f then n :: ns else n :: putN f ns
noncomputable def putTs (f : Str) (t : T) : List Str → List T → List T
  | n :: ns, x :: ts => if n = f then t :: ts else x :: putTs f t ns ts
  | _, _ => [t]
section
variable {K : PySem.W.Frag} {B H : Hp}
theorem putF_names (f : Str) (y : V) : ∀ fs : List (Str × V), (putF f y fs).map (·.1) = putN f (fs.map (·.1))
  | [] => rfl
  | (n, x) :: fs => by
    rw [show putF f y ((n, x) :: fs) = (if n = f then (n, y) :: fs else (n, x) :: putF f y fs) from rfl, List.map_cons, putN]
    split
    · rfl
    · rw [List.map_cons, putF_names f y fs]
theorem putF_rta {f : Str} {y : V} {t : T} : ∀ {fs : List (Str × V)} {ts : List T}, RTA K B H ts (fs.map (·.2)) → RT K B H t y → (∀ q, FT K H t y q → ¬ FTA K H ts (fs.map (·.2)) q) → RTA K B H (putTs f t (fs.map (·.1)) ts) ((putF f y fs).map (·.2)) ∧ ∀ q, FTA K H (putTs f t (fs.map (·.1)) ts) ((putF f y fs).map (·.2)) q → FTA K H ts (fs.map (·.2)) q ∨ FT K H t y q
  | [], [], _, h, _ => by
    constructor
    · show RTA K B H [t] [y]
      rw [RTA]
      exact ⟨h, by rw [RTA]; trivial, fun q _ z => by rw [FTA] at z; exact z⟩
    · intro q hq
      have hq' : FTA K H [t] [y] q := hq
      rw [FTA, FTA] at hq'
      exact .inr (hq'.resolve_right id)
  | [], _ :: _, h, _, _ => by rw [List.map_nil, RTA] at h; exact h.elim
  | _ :: _, [], h, _, _ => by rw [List.map_cons, RTA] at h; exact h.elim
  | (n, x) :: fs, t0 :: ts, h, ht, ap => by
    rw [List.map_cons, RTA] at h
    obtain ⟨h1, h2, h3⟩ := h
    rw [show putF f y ((n, x) :: fs) = (if n = f then (n, y) :: fs else (n, x) :: putF f y fs) from rfl, List.map_cons, putTs]
    have ap' : ∀ q, FT K H t y q → ¬ FTA K H ts (fs.map (·.2)) q := fun q hq z => ap q hq (by rw [List.map_cons, FTA]; exact .inr z)
    by_cases e : n = f
    · rw [if_pos e, if_pos e, List.map_cons]
      constructor
      · rw [RTA]; exact ⟨ht, h2, ap'⟩
      · intro q hq
        rw [FTA] at hq
        rw [List.map_cons, FTA]
        rcases hq with hq | hq
        · exact .inr hq
        · exact .inl (.inr hq)
    · rw [if_neg e, if_neg e, List.map_cons]
      obtain ⟨i1, i2⟩ := putF_rta (f := f) h2 ht ap'
      constructor
      · rw [RTA]
        refine ⟨h1, i1, fun q hq z => ?_⟩
        rcases i2 q z with z | z
        · exact h3 q hq z
        · exact ap q z (by rw [List.map_cons, FTA]; exact .inl hq)
      · intro q hq
        rw [FTA] at hq
        rw [List.map_cons, FTA]
        rcases hq with hq | hq
        · exact .inl (.inl hq)
        · rcases i2 q hq with z | z
          · exact .inl (.inr z)
          · exact .inr z
end
section
variable {X : Cx} {W : WX} {K : PySem.W.Frag}
noncomputable def cTfld (i : Nat) (cs : List Str) (f : Str) (fv : DS → Res T) : DS → Fl := fun δ => match asT δ i with
  | some (m, .ob c ns, ts) => if c ∈ cs ∧ ns.length < 1000 then stE (fv δ) δ fun t => .nx (δ.set i (some (.tr m (.ob c (putN f ns)) (putTs f t ns ts)))) else .no
  | _ => .no
theorem cs_tfld (K : PySem.W.Frag) (hK : X.K = K) (i : Nat) {cs : List Str} {x f : Str} {px pos pos' : Pos} {value : Expr} {tv : TE} {fv : DS → Res T} (hf : FldK K cs f) (ho : PE X (.Name x px) (tVar i)) (hv : CN X W value tv fv) (hs : swapsWith value (some (.Attribute (.Name x px) f pos')) pos.line X.env = pure false := by rfl) :
    CS X W (.Assign [.Attribute (.Name x px) f pos'] value pos) (sFld K (tVar i) tv f) (cTfld i cs f fv) := by
  subst hK
  refine ⟨ps_fld ho hv.pe hs, fun B0 H0 δ σ B H E rel hp => ?_⟩
  unfold cTfld at hp
  split at hp
  case h_2 => exact hp.elim
  case h_1 m c ns ts ha =>
  split at hp
  case isFalse => exact hp.elim
  case isTrue hc =>
  have ea := asT_some ha
  refine hv.sn B0 H0 δ σ B H _ rel ?_
  cases e : fv δ with
  | no => rw [e] at hp; exact hp.elim
  | er x => rw [e] at hp; exact fun c dx B' H' g rp => hp c dx σ B' H' g.b (rel.mono g) rp
  | ok t =>
    rw [e, stE_ok] at hp
    intro y B1 H1 g1 rt1 n1
    have rel1 := rel.mono g1
    obtain ⟨v, h1, hsr⟩ := rel1.sl i _ ea
    have rt0 := hsr.1
    rw [RT] at rt0
    obtain ⟨p, vs, fp, rfl, hcell, hr, hn⟩ := rt0
    obtain ⟨C, dx, fs, c1, c2, c3, rfl, rfl, rfl⟩ := hcell
    obtain ⟨C', k', na⟩ := hf c hc.1
    have := c3.symm.trans k'.v
    cases this
    refine ⟨_, h1, p, C, dx, fs, rfl, c1, k'.cl, na, by have := hc.2; simpa using this, ?_⟩
    have fp0 : ∀ q ∈ [p, dx], FT X.K H1 (.nd (.ob c (fs.map (·.1))) ts) (.ref p) q := fun q hq => by
      rw [FT]; exact ⟨p, _, _, rfl, ⟨C, dx, fs, c1, c2, c3, rfl, rfl, rfl⟩, .inl hq⟩
    have fts : ∀ q, FTA X.K H1 ts (fs.map (·.2)) q → FT X.K H1 (.nd (.ob c (fs.map (·.1))) ts) (.ref p) q := fun q hq => by
      rw [FT]; exact ⟨p, _, _, rfl, ⟨C, dx, fs, c1, c2, c3, rfl, rfl, rfl⟩, .inr hq⟩
    have ne : p ≠ dx := fun z => by rw [← z, c1] at c2; cases c2
    have old : ∀ q, FT X.K H1 (.nd (.ob c (fs.map (·.1))) ts) (.ref p) q → H q ≠ none := fun q hq z => by
      have r0 := rel.sl i _ ea
      obtain ⟨v', h1', hsr'⟩ := r0
      rw [h1] at h1'
      cases h1'
      have := ((SR.grow g1 hsr').2 q).mp hq
      obtain ⟨_, _, u, hu, _⟩ := hsr'.new q this
      rw [hu] at z
      cases z
    have ap : ∀ q, FT X.K H1 t y q → ¬ FTA X.K H1 ts (fs.map (·.2)) q := fun q hq z => old q (fts q z) (n1 q hq).1
    obtain ⟨i1, i2⟩ := putF_rta (f := f) hr rt1 ap
    have np : ∀ q, FTA X.K H1 (putTs f t (fs.map (·.1)) ts) ((putF f y fs).map (·.2)) q → q ≠ p ∧ q ≠ dx := fun q hq => by
      rcases i2 q hq with z | z
      · exact ⟨fun w => hn p (by simp) (w ▸ z), fun w => hn dx (by simp) (w ▸ z)⟩
      · exact ⟨fun w => old p (fp0 p (by simp)) (w ▸ (n1 q z).1), fun w => old dx (fp0 dx (by simp)) (w ▸ (n1 q z).1)⟩
    obtain ⟨m1, m2⟩ := RTA.move (B' := B1) (H' := upd H1 p (.ins C dx (putF f y fs))) _ _ i1 (Same.refl _) fun q hq => upd_ne (np q hq).1
    have hdx : upd H1 p (.ins C dx (putF f y fs)) dx = some (.own p) := by rw [upd_ne (Ne.symm ne)]; exact c2
    have rt2 : RT X.K B1 (upd H1 p (.ins C dx (putF f y fs))) (.nd (.ob c (putN f (fs.map (·.1)))) (putTs f t (fs.map (·.1)) ts)) (.ref p) := by
      rw [RT]
      exact ⟨p, _, [p, dx], rfl, ⟨C, dx, putF f y fs, upd_same, hdx, c3, putF_names f y fs, rfl, rfl⟩, m1, fun q hq z => by
        have := np q ((m2 q).mp z)
        simp only [List.mem_cons, List.not_mem_nil, or_false] at hq
        rcases hq with rfl | rfl
        · exact this.1 rfl
        · exact this.2 rfl, trivial⟩
    have hF := hsr.new
    obtain ⟨h0p, hbp, up, hup, kp⟩ := hF p (fp0 p (by simp))
    have := rel1.chgN (z := some (.tr m (.ob c (putN f (fs.map (·.1)))) (putTs f t (fs.map (·.1)) ts))) (v' := .ref p) ea h1 (rel1.g.poke h0p hbp hup kp) (Same.refl _) (fun q _ hq _ _ => ⟨upd_ne fun z => hq (z ▸ fp0 p (by simp)), rfl⟩) fun o' z => by
      cases z
      have sub : ∀ q, FT X.K (upd H1 p (.ins C dx (putF f y fs))) (.nd (.ob c (putN f (fs.map (·.1)))) (putTs f t (fs.map (·.1)) ts)) (.ref p) q → FT X.K H1 (.nd (.ob c (fs.map (·.1))) ts) (.ref p) q ∨ FT X.K H1 t y q := fun q hq => by
        rw [FT] at hq
        obtain ⟨p', vs', fp', z, hc', hq⟩ := hq
        cases z
        obtain ⟨rfl, rfl⟩ := cell_one (k := .ob c (putN f (fs.map (·.1)))) (vs := (putF f y fs).map (·.2)) (fp := [p, dx]) ⟨C, dx, putF f y fs, upd_same, hdx, c3, putF_names f y fs, rfl, rfl⟩ hc'
        rcases hq with hq | hq
        · exact .inl (fp0 q hq)
        · rcases i2 q ((m2 q).mp hq) with w | w
          · exact .inl (fts q w)
          · exact .inr w
      refine ⟨⟨rt2, fun q hq => ?_, hsr.2.2⟩, fun q hq => ?_⟩
      · rcases sub q hq with w | w
        · exact hsr.2.1 q w
        · exact ⟨rel.g.free (n1 q w).1, (n1 q w).2⟩
      · rcases sub q hq with w | w
        · exact .inl w
        · exact .inr fun j oj w' ej ew => rel.free' g1 (n1 q w).1 j oj w' ej ew
    rw [set_same h1] at this
    exact hp σ B1 _ g1.b this
end
end DV
namespace DV
open PySem L2
section
variable {K : PySem.W.Frag} {B0 : Hp} {H0 : Org} {B H B' H' : Hp} {σ : L2.St} {δ : DS}
end
section
variable {X : Cx} {W : WX} {K : PySem.W.Frag}
end
section
variable {K : PySem.W.Frag} {B0 : Hp} {H0 : Org} {B H B' H' : Hp} {σ : L2.St} {δ : DS}
end
section
variable {K : PySem.W.Frag} {B0 : Hp} {H0 : Org} {B H B' H' : Hp} {σ : L2.St} {δ : DS}
end
section
variable {X : Cx} {W : WX} {K : PySem.W.Frag}
end
end DV
namespace DV
open PySem L2
section
variable {X : Cx} {K : PySem.W.Frag} {pins : List (Addr × Obj)} {σ : L2.St} {H : Hp} {s : Shared} {k n : Nat} {C f a dx : Addr} {fs : List (Str × V)} {fd : FuncData} {ps : List Str} {sp : Sp}
theorem run_in1 {Q : VK} {R : Value → Shared → Prop} (F : FnOk X.prog X.w X.K X.mg X.base (L2.CX X.prog X.w) k f fd ps sp) (hr : Room (k + 1) X.A) (hb : Binds X.K fd ps []) (I : Inv X pins σ H s) (h : sp [.ref a] H Q (fun _ _ _ => False)) (hR : ∀ u s', EP X pins σ Q u s' → R u s') :
    wpAny (model X.prog X.w) X.A.in1 (call (.ref f) [.ref a]) R X.xe s := by
  have hv : Vals [V.ref a] [Value.ref a] := .cons rfl .nil
  have hl : ([Value.ref a] ++ []).length = ps.length := F.len _ _ _ _ h
  refine wpAny_call (codeAny_mono (F.run X.A.in1 X.stack s H ⟨[.ref a], []⟩ [.ref a] [.ref a] Q (fun _ _ _ => False) hr.in1 I.env0.in1 (by simpa using hb s [.ref a] I.kIn hl) hv h) fun r s' hq => ?_)
  cases r with
  | error e =>
    obtain ⟨_, _, _, _, _, _, _, _, _, _, _, _, z⟩ := hq
    exact z.elim
  | ok fl =>
    cases fl with
    | ret u => exact hR u s' (I.after hq)
    | next => exact False.elim hq
    | brk => exact False.elim hq
    | cont => exact False.elim hq
theorem inst_at (I : Inv X pins σ H s) (e : H a = some (.ins C dx fs)) : ∃ od, PySem.W.InstAt s.heap a (PySem.W.instObj C dx) C (some od) := by
  obtain ⟨mA, O, _⟩ := ins_get I.hok e
  obtain ⟨od, J, _⟩ := O.look
  exact ⟨od, J⟩
noncomputable def rLenO (C : Addr) (sp : Sp) : List V → Hp → VK → Prop := fun xs H Q => ∃ a dx fs, xs = [.ref a] ∧ H a = some (.ins C dx fs) ∧ sp [.ref a] H (fun v H' => ∃ n : Int, v = .int n ∧ 0 ≤ n ∧ n < 2 ^ 63 ∧ Q (.int n) H') (fun _ _ _ => False)
theorem call_lenO (hs : PySem.W.findIn X.K (.ref C) "__len__" = some (some (.ref f))) (hf : PySem.W.isFn X.K (.ref f) = true) (F : FnOk X.prog X.w X.K X.mg X.base (L2.CX X.prog X.w) k f fd ps sp) (hr : Room (k + 1) X.A) (hb : Binds X.K fd ps []) : CallR X (.builtin "len") (rLenO C sp) := by
  intro pins s σ H xs us Q I r h
  obtain ⟨a, dx, fs, rfl, e, h⟩ := h
  obtain ⟨u, rfl, rx⟩ := r.one
  cases rx
  obtain ⟨od, J⟩ := inst_at I e
  apply Calls.call_function_entry PySem.kind_len PySem.plain_len PySem.entry_len (PySem.args_len1 _)
  · unfold Builtin.«len»
    refine wpAny_bind (m := oneArg "len" _) (wpAny_pure ?_)
    refine wpAny_bind (m := callSpecial? (.ref a) (Str.ofString "__len__")) (PySem.W.special_fn I.kIn J hs (beq_iff_eq.mp hf) (run_in1 F hr hb I h fun u s' q => ?_))
    obtain ⟨v, H', I', rv, n, rfl, h0, h1, q⟩ := q
    obtain ⟨t, rfl⟩ := rv
    refine wpAny_bind (wpAny_holding (wpAny_pure (wpAny_bind (wpAny_letGo ?_))))
    have e0 : ¬ n < 0 := by omega
    have e1 : ¬ n ≥ 2 ^ 63 := by omega
    show wpAny _ _ (if n < 0 then _ else _) _ _ _
    rw [if_neg e0]
    show wpAny _ _ (if n ≥ 2 ^ 63 then _ else _) _ _ _
    rw [if_neg e1]
    exact wpAny_bind (wpAny_mkInt (wpAny_pure ⟨_, rfl, .int n, H', I'.tok _, ⟨_, rfl⟩, q⟩))
end
end DV
namespace DV
open PySem L2 PySem.Spec PySem.Calls PyProof.Rows
section
variable {X : Cx} {pins : List (Addr × Obj)} {σ : L2.St} {H : Hp} {s : Shared} {a : Addr} {ks : List NestedKey} {us : List (Int × Addr × V)} {k : NestedKey} {v : V} {r : Value} {A : Around} {E : Value → Shared → Prop}
end
section
variable {X : Cx}
end
end DV
namespace DV
open PySem L2
section
variable {X : Cx} {W : WX} {K : PySem.W.Frag}
end
end DV
namespace DV
open PySem L2
section
variable {X : Cx} {W : WX} {K : PySem.W.Frag}
end
end DV
namespace DV
open PySem L2
section
variable {X : Cx} {W : WX} {K : PySem.W.Frag}
noncomputable def gStr : List D → Res D
  | [.v (.int i)] => if i.natAbs.log2 < 1920 then .ok (.str (toString i)) else .no
  | _ => .no
noncomputable def oLenO (c : Str) (F : List D → Res D) : D → Res D
  | .ins c' ns vs => if c' = c then match F [.ins c' ns vs] with
    | .ok (.v (.int n)) => if 0 ≤ n ∧ n.natAbs < 9223372036854775808 then .ok (.int n) else .no
    | _ => .no else .no
  | _ => .no
noncomputable def cLenO (c : Str) (F : List D → Res D) (fe : DS → Res D) : DS → Res D := fun δ => (fe δ).bind (oLenO c F)
theorem ce_lenO (K : PySem.W.Frag) (hK : X.K = K) {k : Nat} {c : Str} {C f : Addr} {fd : FuncData} {ps : List Str} {F : List D → Res D} {p pos : Pos} {e : Expr} {te : TE} {fe : DS → Res D} (kc : ClK K c C) (hm : Meth K C "__len__" f) (G : FnOk X.prog X.w K X.mg X.base (L2.CX X.prog X.w) k f fd ps (spD K 1 F)) (hr : Room (k + 1) X.A) (hb : Binds K fd ps [])
    (hn : X.mg "len" = none) (he : CE X W e te fe) (hg : Gl X "len" := by rfl) (hst : starEach [e] X.env = (false, eval e X.env) :: starEach [] X.env := by rfl) (hpl : (backTo pos (starEach [] X.env)).any (·.1) = false := by rfl) :
    CE X W (.Call (.Name "len" p) [e] [] pos) (tCB (rLenO C (spD K 1 F)) (tCons te tNil)) (cLenO c F fe) := by
  subst hK
  refine ⟨pe_callB (call_lenO hm.at_ hm.fn G hr hb) hg hn (by decide +kernel) (pa_cons he.pe pa_nil hst) (by decide) (by decide) hst hpl, fun B0 H0 δ σ B H Q rel hp => ?_⟩
  unfold cLenO at hp
  refine he.se B0 H0 δ σ B H _ rel ?_
  cases e : fe δ with
  | no => rw [e] at hp; exact hp
  | er x => rw [e] at hp; exact hp
  | ok d =>
    rw [e, Res.bind_ok] at hp
    intro v B1 H1 g1 r1
    have rel1 := rel.mono g1
    unfold oLenO at hp
    split at hp
    · rename_i c' ns vs
      split at hp
      · rename_i hc
        subst hc
        obtain ⟨a, C', dx, fs, rfl, hb1, hv, rfl, q⟩ := ins_of r1
        have := hv.symm.trans kc.v
        cases this
        refine ⟨a, dx, fs, rfl, g1.i _ _ hb1, rfl, [.ins c' (fs.map (·.1)) vs], B1, g1.i, .cons r1 .nil, ⟨fun p hp' => rel1.g.t p (rel1.tk p hp'), rel1.g.tb rel1.nt⟩, ?_⟩
        split at hp
        · rename_i n hF
          split at hp
          · rename_i hz
            rw [hF]
            intro v B' H' g' rp
            cases rp
            exact ⟨n, rfl, hz.1, by have := hz.2; omega, hp _ B' H' (g1.trans g') (.v _)⟩
          · exact hp.elim
        · exact hp.elim
      · exact hp.elim
    · exact hp.elim
end
end DV
namespace DV
open PySem L2
section
variable {X : Cx} {pins : List (Addr × Obj)} {σ : L2.St} {H : Hp} {s : Shared} {A : Around} {E : Value → Shared → Prop} {a b : Addr} {ks : List NestedKey} {us : List (Int × Addr × V)} {k : NestedKey} {v : V} {r : Value}
end
section
variable {X : Cx} {o e f : Expr} {apos cpos : Pos} {td ty tx : TE}
end
section
variable {X : Cx} {W : WX} {K : PySem.W.Frag}
noncomputable def cNd (f : DS → Res T) : DS → Res D := fun δ => (f δ).bind fun t => .ok t.d
theorem ce_new {e : Expr} {t : TE} {f : DS → Res T} (h : CN X W e t f) : CE X W e t (cNd f) := ⟨h.pe, fun B0 H0 δ σ B H Q rel hp => by
  unfold cNd at hp
  refine h.sn B0 H0 δ σ B H _ rel ?_
  cases e1 : f δ with
  | no => rw [e1] at hp; exact hp.elim
  | er x => rw [e1] at hp; exact hp
  | ok u =>
    rw [e1, Res.bind_ok] at hp
    intro v B1 H1 g1 rt n
    have hF : ∀ q, FT X.K H1 u v q → H q = none ∧ B1 q = none ∧ ∃ w, H1 q = some w ∧ Kind w := fun q hq => ⟨(n q hq).1, (n q hq).2, RT.kind _ _ rt q hq⟩
    refine hp v (fzH B1 H1 (FT X.K H1 u v)) H1 (g1.fzF hF) (RT.frz _ _ rt (fzH_same fun q hq => (n q hq).2) fun q hq => ?_)
    unfold fzH
    rw [if_pos hq]⟩
end
end DV
namespace DV
open PySem L2
section
variable {X : Cx}
end
section
variable {X : Cx} {K : PySem.W.Frag}
end
end DV
namespace DV
open PySem L2
section
variable {X : Cx} {W : WX} {K : PySem.W.Frag}
end
section
variable {X : Cx} {W : WX} {K : PySem.W.Frag}
end
section
variable {P : Program} {w : World} {K : PySem.W.Frag} {mg : Str → Option Value} {base : Heap}
end
section
variable {X : Cx} {W : WX} {K : PySem.W.Frag}
end
section
variable {X : Cx} {W : WX} {K : PySem.W.Frag}
end
end DV
namespace DV
open PySem L2 PySem.Spec PySem.Calls PyProof.Rows PySem.W
section
variable {prog : Program} {w : World} {A : Around} {E : Value → Shared → Prop} {s : Shared}
end
section
variable {X : Cx} {W : WX} {K : PySem.W.Frag}
end
end DV
namespace DV
open PySem L2 PySem.Spec PySem.Calls PyProof.Rows
section
variable {X : Cx} {pins : List (Addr × Obj)} {σ : L2.St} {H : Hp} {s : Shared}
end
section
variable {K : PySem.W.Frag} {B H : Hp}
end
end DV
namespace DV
open PySem L2 PySem.Spec PySem.Calls PyProof.Rows
noncomputable def CTest (X : Cx) (tt : Expr) (pv : Value → Option Bool) : Prop := ∀ (a : Addr) (oe : Obj) (pn pins : List (Addr × Obj)) (σ : L2.St) (H : Hp) (s : Shared) (cls : Value) (b : Bool) (Q : Bool → Shared → Prop) (E : Value → Shared → Prop), Inv (X.suite a ((a, oe) :: pn)) pins σ H s →
  PySem.W.Looks (model X.prog X.w) s.heap (typeOf (.ref a)) cls → X.K.In s.heap → pv cls = some b → (∀ h', (∀ q o, s.heap.get? q = some o → h'.get? q = some o) → Q b { s with heap := h' }) →
  wpAny (model X.prog X.w) (X.A.mark (some (.ref a))) (eval tt X.env) (fun c s₁ => wpAny (model X.prog X.w) (X.A.mark (some (.ref a))) (excMatches (.ref a) c) Q E s₁) E s
section
variable {X : Cx}
theorem name_ld {x : Str} {c : Value} {np : Pos} (hc : Names X x c) {a : Addr} {oe : Obj} {pn pins : List (Addr × Obj)} {σ : L2.St} {H : Hp} {s : Shared} (S : Inv (X.suite a ((a, oe) :: pn)) pins σ H s) {Q : Value → Shared → Prop} {E : Value → Shared → Prop} (q : Q c s) :
    wpAny (model X.prog X.w) (X.A.mark (some (.ref a))) (eval (.Name x np) X.env) Q E s := by
  obtain ⟨hg, hdbg, hm | ⟨hm, hv, hnn⟩⟩ := hc
  · exact ld_glob (X := X.suite a ((a, oe) :: pn)) S hg hm q hdbg
  · exact ld_blt (X := X.suite a ((a, oe) :: pn)) S hg hm hv q hnn hdbg
theorem ctest_2 {x1 x2 : Str} {c1 c2 : Value} {p1 p2 tpos : Pos} {kk : Nat} (n1 : Names X x1 c1) (n2 : Names X x2 c2) : CTest X (.Tuple [.Name x1 p1, .Name x2 p2] kk tpos) (fun cls => PySem.W.exmAny X.K cls [c1, c2]) := fun a oe pn pins σ H s cls b Q E S LT hK hp q => by
  refine wpAny_Tuple ?_
  refine wpAny_items_cons (name_ld n1 S ?_)
  refine wpAny_items_cons (name_ld n2 S ?_)
  refine wpAny_items_nil ⟨by size_fits, ?_⟩
  have kp : ∀ q o, s.heap.get? q = some o → (s.heap.push { cls := .type "tuple", data := .seq [c1, c2].toArray }).get? q = some o := fun _ _ z => Heap.get?_push_of_some _ z
  exact (PySem.W.exm_tup2 (hK.keeps kp) (LT.keeps kp) (Heap.get?_push_size s.heap rfl) hp).here (q _ kp)
end
noncomputable def wNT (Wout : WX) (D : Ends) : List ((Value → Option Bool) × Nat × TX) → WX
  | [] => Wout
  | (pv, i, ts) :: r => fun cls d σ H => ∃ b, pv cls = some b ∧ (b = true → ∀ a, H a = none → ts a cls d (endsAt D i) (σ.set i (some (.ref a))) H) ∧ (b = false → wNT Wout D r cls d σ H)
inductive HdsT (X : Cx) : List ExceptHandler → List ((Value → Option Bool) × Nat × TX) → Prop
  | nil : HdsT X [] []
  | cons {n : Str} {i : Nat} {tt : Expr} {pv : Value → Option Bool} {ts : TX} {b₀ : Stmt} {suite : List Stmt} {pos' : Pos} {hds : List ExceptHandler} {l : List ((Value → Option Bool) × Nat × TX)} (hi : X.N[i]? = some n) (hln : X.env.kindOf n = some .local) (hc : CTest X tt pv)
      (hsu : ∀ (a : Addr) (oe : Obj) (cls : Value) (d : Option Addr) (pn : List (Addr × Obj)), Zc cls d oe → (∃ vs, oe.data = .fields vs) → PSs (X.suite a ((a, oe) :: pn)) (b₀ :: suite) (ts a cls d)) (r : HdsT X hds l) :
      HdsT X (.ExceptHandler (some tt) (some n) (b₀ :: suite) pos' :: hds) ((pv, i, ts) :: l)
theorem flyingZ_keeps {base h h' : Heap} {l : List Env} {e : Addr} {Z : Obj → Prop} (R : HandSPX.FlyingZ base l e Z h) (k : ∀ b o, h.get? b = some o → h'.get? b = some o) : HandSPX.FlyingZ base l e Z h' := by
  obtain ⟨f1, f2, f3, oe, vs, T, oT, ts, he, hz, hd, h1, h2, h3, h4, h5, h6⟩ := R
  exact ⟨fun b o q => k b o (f1 b o q), f2, f3.of_keeps fun b o q _ => ⟨o, k b o q, rfl⟩, oe, vs, T, oT, ts, k _ _ he, hz, hd, h1, h2, h3, k _ _ h4, h5, h6⟩
theorem ps_tryT {X : Cx} {body : List Stmt} {h₀ : ExceptHandler} {hds : List ExceptHandler} {l : List ((Value → Option Bool) × Nat × TX)} {pos : Pos} {tb : WX → TS} {Wout : WX} (hs : X.stack = X.env :: X.outer) (hf : X.env.frame = some X.env.locals) (hN : X.N.Nodup) (tk : Takes X Wout)
    (hb : ∀ (W : WX) (pn : List (Addr × Obj)) (xe : Value → Shared → Prop), Takes (X.tr pn xe) W → PassesOwn (model X.prog X.w) X.A X.env xe → PSs (X.tr pn xe) body (tb W)) (hh : HdsT X (h₀ :: hds) l) :
    PS X (.Try body (h₀ :: hds) [] [] pos) (fun D σ H => tb (wNT Wout D l) D σ H) := by
  refine ⟨fun pins s σ H D I h => ?_⟩
  have ok := I.ok
  have hfr : X.A.frames = some (X.env :: X.outer) := by rw [ok.frames, hs]
  refine wpAny_Try_except (wpAny_mono ((hb (wNT Wout D l) (X.pn ++ pins) (fun e s₁ => wpAny (model X.prog X.w) X.A (noteFrame e X.env) (fun _ s₂ => wpAny (model X.prog X.w) X.A (setFlight e none) (fun _ s₃ => wpAny (model X.prog X.w) X.A (handleBy e X.env (h₀ :: hds)) (L2.SP X pins D) X.xe s₃) X.xe s₂) X.xe s₁)
    (fun u s' xx => ?_) PassesOwn.looking).run [] s σ H D (I.toTry _) h) (fun f s1 hsp => ?_) (fun e s1 he => he))
  · obtain ⟨a, B, sI, pins', σ', H', cls, d, rfl, J', nb, up, sky, na, os, ag, w⟩ := xx
    have J : Inv X pins σ' H' sI := J'.ofTry ok
    show wpAny (model X.prog X.w) X.A (noteFrame (.ref a) X.env) _ _ _
    refine Sky.land Zc.steady hfr hf (by rw [← hs]; exact sky) fun h3 fl3 up3 => ?_
    have go : ∀ {hds' : List ExceptHandler} {l' : List ((Value → Option Bool) × Nat × TX)}, HdsT X hds' l' → ∀ h3 : Heap, HandSPX.FlyingZ B (X.env :: X.outer) a (Zc cls d) h3 → s'.heap.UpToSlots h3 → wNT Wout D l' cls d σ' H' → wpAny (model X.prog X.w) X.A (handleBy (.ref a) X.env hds') (L2.SP X pins D) X.xe { s' with heap := h3 } := by
      intro hds' l' hk
      induction hk with
      | nil =>
        intro h3 fl3 up3 w
        refine wpAny_handleBy_nil ?_
        obtain ⟨k1, k2, k3, oe, vs, T, oT, ts', he, hz, hd, h1, hr⟩ := id fl3
        unfold PySem.passOn
        refine wpAny_bind (wpAny_field he hd h1 ?_)
        rw [if_neg (by simp)]
        have fin : wpAny (model X.prog X.w) X.A (setFlight (.ref a) X.env.frame) (fun _ s4 => wpAny (model X.prog X.w) X.A (throw (.ref a) : Sem Flow) (L2.SP X pins D) X.xe s4) X.xe { s' with heap := h3 } := by
          rw [hf]
          exact HandSPX.setFlight_upZ fl3 fun h4 hh4 up4 => wpAny_throw (tk _ _ ⟨a, B, sI, pins, σ', H', cls, d, rfl, J, nb, (up.trans up3).trans up4, .inr (.inr (by rw [hs]; exact hh4)), na, os, ag, w⟩)
        first
          | exact wpAny_bind (wpAny_pure (wpAny_bind fin))
          | exact wpAny_bind fin
      | @cons n i tt pv ts b₀ suite pos' hds2 l2 hi hln hc hsu r ih =>
        intro h3 fl3 up3 w
        have J3 : Inv X pins σ' H' { s' with heap := h3 } := J.landed nb fl3.1 (up.trans up3) os ag
        obtain ⟨oe3, vs3, he3, hz3, hd3⟩ := fl3.there
        have nfr : a ∉ frs (X.env :: X.outer) := fun hm => by
          obtain ⟨_, o', e', hnf⟩ := fl3.2.2.1.mem hm
          rw [he3] at e'
          cases e'
          exact hnf _ hd3
        have nL : a ≠ X.env.locals := fun z => nfr (List.mem_filterMap.mpr ⟨X.env, List.mem_cons_self, by rw [hf, z]⟩)
        have nF : a ∉ X.fs := fun hm => by
          obtain ⟨e, he, q⟩ := List.mem_filterMap.mp hm
          exact nfr (List.mem_filterMap.mpr ⟨e, List.mem_cons_of_mem _ he, q⟩)
        have S3 := J3.suite he3 hd3 na nL nF
        obtain ⟨b, hb1, hyes, hno⟩ := w
        refine wpAny_handleBy_cons (codeAny_handlers_test ?_) (by intro q; cases q)
        have LT : PySem.W.Looks (model X.prog X.w) h3 (typeOf (.ref a)) cls := fun A Q E s k q => wpAny_typeOf_ref (k _ _ he3) (by rw [hz3.1]; exact q)
        refine hc a oe3 (X.pn ++ pins) [] σ' H' { s' with heap := h3 } cls b _ _ S3 LT J3.kIn hb1 fun h3' kp => ?_
        have fl3' := flyingZ_keeps fl3 kp
        have up3' : s'.heap.UpToSlots h3' := up3.trans (Heap.UpToSlots.of_keeps kp)
        cases b with
        | true =>
          refine codeAny_handlers_suite_as (HandSPX.lands_againZ (s := { s' with heap := h3' }) fl3' fun h4 fl4 up4 => ?_)
          have J4 : Inv X pins σ' H' { s' with heap := h4 } := J.landed nb fl4.1 ((up.trans up3').trans up4) os ag
          obtain ⟨oe4, vs4, he4, hz4, hd4⟩ := fl4.there
          refine store_ok (X := X.suite a ((a, oe4) :: (X.pn ++ pins))) (v := .ref a) (J4.suite he4 hd4 na nL nF) hN hi (.inl hln) rfl (fun s5 S5 => ?_) (.inr hln)
          refine wpAny_mono ((hsu a oe4 cls d (X.pn ++ pins) hz4 ⟨_, hd4⟩).run [] s5 _ H' _ S5 (hyes rfl a na)) (fun f s6 hsp => ?_) (fun _ _ z => False.elim z)
          have end_ : ∀ {σ6 : L2.St} {H6 : Hp} {Q : Shared → Prop}, Inv (X.suite a ((a, oe4) :: (X.pn ++ pins))) [] σ6 H6 s6 → (∀ s7, Inv X pins (σ6.set i none) H6 s7 → Q s7) → wpAny (model X.prog X.w) X.A (do bindName X.env n .none; unbindBehindTheSuite X.env n pos') (fun _ s7 => Q s7) X.xe s6 :=
            fun {σ6 H6 Q} S6 hq => gone_ok (S6.unsuite ok) hN hi hln hq
          cases f with
          | next => obtain ⟨σ6, H6, S6, q6⟩ := hsp; exact end_ S6 fun s7 J7 => ⟨_, _, J7, q6⟩
          | brk => obtain ⟨σ6, H6, S6, q6⟩ := hsp; exact end_ S6 fun s7 J7 => ⟨_, _, J7, q6⟩
          | cont => obtain ⟨σ6, H6, S6, q6⟩ := hsp; exact end_ S6 fun s7 J7 => ⟨_, _, J7, q6⟩
          | ret u => obtain ⟨v6, σ6, H6, S6, r6, q6⟩ := hsp; exact end_ S6 fun s7 J7 => ⟨_, _, _, J7, r6, q6⟩
        | false => exact ih h3' fl3' up3' (hno rfl)
    exact go hh h3 fl3 up3 w
  · cases f with
    | next => obtain ⟨σ', H', J', q⟩ := hsp; exact wpAny_execs_nil ⟨σ', H', J'.ofTry ok, q⟩
    | brk => obtain ⟨σ', H', J', q⟩ := hsp; exact ⟨σ', H', J'.ofTry ok, q⟩
    | cont => obtain ⟨σ', H', J', q⟩ := hsp; exact ⟨σ', H', J'.ofTry ok, q⟩
    | ret u => obtain ⟨v, σ', H', J', r, q⟩ := hsp; exact ⟨v, σ', H', J'.ofTry ok, r, q⟩
inductive HdsD (X : Cx) : List ExceptHandler → List ((Value → Option Bool) × Nat × TX) → Clauses → Prop
  | nil : HdsD X [] [] []
  | cons {n : Str} {i : Nat} {tt : Expr} {pv : Value → Option Bool} {ts : TX} {gs : Exn → DS → Fl} {p : Str → Option Bool} {b₀ : Stmt} {suite : List Stmt} {pos' : Pos} {hds : List ExceptHandler} {l : List ((Value → Option Bool) × Nat × TX)} {q : Clauses} (hi : X.N[i]? = some n) (hln : X.env.kindOf n = some .local) (hc : CTest X tt pv)
      (hp : ∀ s b v, p s = some b → clsV X.K s = some v → pv v = some b ∧ (b = true → XcK X.K v)) (hsu : CXs X i (b₀ :: suite) ts gs) (r : HdsD X hds l q) : HdsD X (.ExceptHandler (some tt) (some n) (b₀ :: suite) pos' :: hds) ((pv, i, ts) :: l) ((p, i, gs) :: q)
theorem HdsD.n {X : Cx} : ∀ {hds : List ExceptHandler} {l : List ((Value → Option Bool) × Nat × TX)} {q : Clauses}, HdsD X hds l q → HdsT X hds l
  | _, _, _, .nil => .nil
  | _, _, _, .cons hi hln hc _ hsu r => .cons hi hln hc hsu.ps r.n
section
variable {X : Cx} {W : WX}
theorem pick_okT {B0 : Hp} {H0 : Org} {B : Hp} {E : Ends} : ∀ {hds : List ExceptHandler} {l : List ((Value → Option Bool) × Nat × TX)} {q : Clauses}, HdsD X hds l q → ∀ {x : Exn} {δ : DS}, PostS X.K B0 H0 B W E (cPick q x δ) → ∀ {c : Value} {dx : Option Addr} {σ : L2.St} {B' H' : Hp}, Same B B' → Rel X.K B0 H0 B' H' σ δ → RpX X.K B' c dx x → wNT W E l c dx σ H'
  | _, _, _, .nil, x, δ, hp, c, dx, σ, B', H', sb, rel, rp => hp c dx σ B' H' sb rel rp
  | _, _, _, @HdsD.cons _ _ i tt pv ts gs p _ _ _ _ _ _ hi hln hc hpt hsu r, x, δ, hp, c, dx, σ, B', H', sb, rel, rp => by
    unfold cPick at hp
    cases e : p x.cls with
    | none => rw [e] at hp; exact hp.elim
    | some b =>
      rw [e] at hp
      obtain ⟨h1, h2⟩ := hpt _ _ _ e rp.1
      refine ⟨b, h1, fun hb a ha => ?_, fun hb => ?_⟩
      · subst hb
        dsimp only at hp
        split at hp
        case isFalse => exact hp.elim
        rename_i hl0
        have hl : i < σ.length := by rw [rel.len]; exact hl0
        refine hsu.ss x a c dx B0 H0 (δ.set i none) (σ.set i (some (.ref a))) B' H' _ (rel.drop i) ⟨by rw [List.getElem?_set_self hl], rp, h2 rfl⟩ ?_
        cases e2 : gs x (δ.set i none) with
        | nx δ2 => rw [e2] at hp; exact fun σ2 B2 H2 s2 r2 => hp _ B2 H2 (sb.trans s2) (r2.drop i)
        | bk δ2 => rw [e2] at hp; exact fun σ2 B2 H2 s2 r2 => hp _ B2 H2 (sb.trans s2) (r2.drop i)
        | ct δ2 => rw [e2] at hp; exact fun σ2 B2 H2 s2 r2 => hp _ B2 H2 (sb.trans s2) (r2.drop i)
        | rt z => rw [e2] at hp; exact fun v B2 H2 s2 g r2 => hp v B2 H2 (sb.trans s2) g r2
        | rf z => rw [e2] at hp; exact fun p xs B2 H2 s2 g h0 hb hh rr => hp p xs B2 H2 (sb.trans s2) g h0 hb hh rr
        | rn t => rw [e2] at hp; exact fun v B2 H2 s2 g rt n => hp v B2 H2 (sb.trans s2) g rt n
        | ro d δ => rw [e2] at hp; exact fun v σ B2 H2 s2 r rp => hp v σ B2 H2 (sb.trans s2) r rp
        | rs x2 δ2 => rw [e2] at hp; exact hp.elim
        | no => rw [e2] at hp; exact hp.elim
      · subst hb
        exact pick_okT r hp sb rel rp
theorem cs_tryT {body : List Stmt} {h₀ : ExceptHandler} {hds : List ExceptHandler} {l : List ((Value → Option Bool) × Nat × TX)} {q : Clauses} {pos : Pos} {tb : WX → TS} {g : DS → Fl} (hs : X.stack = X.env :: X.outer) (hf : X.env.frame = some X.env.locals) (hN : X.N.Nodup) (tk : Takes X W)
    (hb : ∀ (W' : WX) (pn : List (Addr × Obj)) (xe : Value → Shared → Prop), Takes (X.tr pn xe) W' → PassesOwn (model X.prog X.w) X.A X.env xe → CSs (X.tr pn xe) W' body (tb W') g) (hh : HdsD X (h₀ :: hds) l q) :
    CS X W (.Try body (h₀ :: hds) [] [] pos) (fun D σ H => tb (wNT W D l) D σ H) (cTry g q) := by
  refine ⟨ps_tryT hs hf hN tk (fun W' pn xe t1 t2 => (hb W' pn xe t1 t2).ps) hh.n, fun B0 H0 δ σ B H E rel hp => ?_⟩
  have S := (hb (wNT W E l) [] _ (takes_look hs hf) PassesOwn.looking).ss
  refine S B0 H0 δ σ B H E rel ?_
  unfold cTry at hp
  cases e : g δ with
  | nx δ2 => rw [e] at hp; exact hp
  | bk δ2 => rw [e] at hp; exact hp
  | ct δ2 => rw [e] at hp; exact hp
  | rt z => rw [e] at hp; exact hp
  | rf z => rw [e] at hp; exact hp
  | rn z => rw [e] at hp; exact hp
  | ro d δ => rw [e] at hp; exact hp
  | no => rw [e] at hp; exact hp
  | rs x δ2 =>
    rw [e] at hp
    exact fun c dx σ' B' H' sb rel' rp => pick_okT hh hp sb rel' rp
end
end DV
namespace DV
open PySem L2
theorem exa_nil {K : PySem.W.Frag} {v : Value} : PySem.W.exmAny K v [] = some false := rfl
theorem exa_cons {K : PySem.W.Frag} {v c : Value} {cs : List Value} {b d : Bool} (h : PySem.W.exmOne K v c = some b) (r : PySem.W.exmAny K v cs = some d) : PySem.W.exmAny K v (c :: cs) = some (b || d) := by
  unfold PySem.W.exmAny
  rw [h, r]
noncomputable def TabA (K : PySem.W.Frag) (cs : List Value) (l : List (Str × Bool)) : Prop := ∀ s b v, tabP l s = some b → clsV K s = some v → PySem.W.exmAny K v cs = some b ∧ (b = true → XcK K v)
theorem tabA_nil {K : PySem.W.Frag} {cs : List Value} : TabA K cs [] := fun s b v h => by cases h
theorem tabA_cons {K : PySem.W.Frag} {cs : List Value} {v0 : Value} {l : List (Str × Bool)} {x : Str} {b0 : Bool} (hx : clsV K x = some v0) (he : PySem.W.exmAny K v0 cs = some b0) (hk : XcK K v0) (r : TabA K cs l) : TabA K cs ((x, b0) :: l) := fun s b v h hv => by
  unfold tabP at h
  rw [List.lookup_cons] at h
  cases q : (s == x) with
  | true =>
    rw [q] at h
    cases h
    rw [beq_iff_eq.mp q] at hv
    rw [hx] at hv
    cases hv
    exact ⟨he, fun _ => hk⟩
  | false => rw [q] at h; exact r s b v h hv
section
variable {X : Cx} {i : Nat}
end
end DV
namespace DV
open PySem L2 PySem.Spec PySem.Calls PyProof.Rows LamX
section
variable {X : Cx}
end
end DV
namespace DV
open PySem L2 PySem.Spec PySem.Calls PyProof.Rows
section
variable {X : Cx} {W : WX}
end
end DV
namespace DV
open PySem L2 PySem.Spec PySem.Calls PyProof.Rows PySem.W
section
variable {prog : Program} {w : World} {A : Around} {E : Value → Shared → Prop} {s : Shared} {l : Addr} {xs : Array (Int × Tok)} {its : List Value} {ns : List Int}
end
section
variable {X : Cx}
end
end DV
namespace DV
open PySem
section
variable {prog : Program} {w : World} {A : Around} {E : Value → Shared → Prop} {s : Shared} {z TI TO T i1 i2 l1 l2 : Addr} {f : Bool} {oT : Obj} {k1 k2 : Nat} {xs ys : Array Value} {I1 I2 : Nat → Heap → Prop} {L1 L2 : Heap → Prop}
end
end DV
namespace DV
open PySem L2 PySem.Spec PySem.Calls PyProof.Rows
section
variable {X : Cx} {pins : List (Addr × Obj)} {σ : L2.St} {H : Hp} {s : Shared}
end
section
variable {X : Cx} {pins : List (Addr × Obj)} {σ : L2.St} {H : Hp} {s : Shared}
end
section
variable {K : PySem.W.Frag} {B H : Hp}
end
end DV
namespace DV
open PySem L2 PySem.Spec PySem.Calls PyProof.Rows
section
variable {X : Cx} {W : WX} {K : PySem.W.Frag}
end
end DV
namespace DV
open PySem L2 PySem.Spec PySem.Calls PyProof.Rows
section
variable {X : Cx}
end
end DV
namespace DV
open PySem L2 PySem.Spec PySem.Calls PyProof.Rows
noncomputable abbrev PI2 := Int × Int
noncomputable def ltQ (a b : PI2) : Prop := a.1 < b.1 ∨ (a.1 = b.1 ∧ a.2 < b.2)
noncomputable instance (a b : PI2) : Decidable (ltQ a b) := by unfold ltQ; exact inferInstance
noncomputable def bdQ (p : PI2) : Prop := 0 ≤ p.1 ∧ p.1 < 64 ∧ 0 ≤ p.2 ∧ p.2 < 64
noncomputable instance (p : PI2) : Decidable (bdQ p) := by unfold bdQ; exact inferInstance
section
variable {K : PySem.W.Frag} {W : WX}
end
end DV
namespace DV
open PySem L2 PySem.Spec PySem.Calls PyProof.Rows
section
variable {X : Cx} {W : WX}
end
end DV
namespace DV
open PySem L2 PySem.Spec PySem.Calls PyProof.Rows
section
variable {X : Cx} {W : WX}
noncomputable def rNeNil (K : PySem.W.Frag) : R2 := fun x y H Q => ∃ a b xs, x = .ref a ∧ y = .ref b ∧ SqL K H a xs ∧ SqL K H b [] ∧ Q (.bl (!xs.isEmpty)) H
theorem ne_nil_at {prog : Program} {w : World} {A : Around} {E Q : Value → Shared → Prop} {s : Shared} {l b : Addr} {items : Array Value} (hl : s.heap.IsList l items) (hb : s.heap.IsList b #[]) (hu : A.units < cLine) (h : Q (.bool (!items.isEmpty)) s) : wpAny (model prog w) A (compareOp .NotEq (.ref l) (.ref b)) Q E s := by
  obtain ⟨⟨cls, dd, data, sl⟩, ho, hc, n, hd⟩ := id hl
  obtain ⟨⟨cls2, dd2, data2, sl2⟩, ho2, hc2, n2, hd2⟩ := id hb
  simp only at hc hd hc2 hd2
  subst hc hd hc2 hd2
  have ta : s.TypeIs (.ref l) "list" := ⟨_, ho, rfl⟩
  have tb : s.TypeIs (.ref b) "list" := ⟨_, ho2, rfl⟩
  by_cases hz : items.size = 0
  · have he : items.isEmpty = true := by rw [Array.isEmpty_iff_size_eq_zero]; exact hz
    rw [he] at h
    exact wpAny_richCompare_same_room (op := .NotEq) ta tb PySem.F.slot_list_ne (call_meets PySem.F.slot_list_ne ta PySem.F.entry_list_ne (PySem.F.args_list_ne_2 _ _) (SeqAt.list_neAt l b items #[] n n2 dd dd2 sl sl2 (by simp [hz]) (fun _ => true))
      ⟨ho, ho2, fun j h1 h2 => absurd h2 (by simp), show Value.bool _ ≠ Value.notImplemented ∧ Q (.bool _) s from ⟨(fun x => nomatch x), by simpa [hz] using h⟩⟩) hu
  · have he : items.isEmpty = false := by simpa using hz
    rw [he] at h
    exact wpAny_richCompare_same_room (op := .NotEq) ta tb PySem.F.slot_list_ne (call_meets PySem.F.slot_list_ne ta PySem.F.entry_list_ne (PySem.F.args_list_ne_2 _ _) (SeqAt.list_ne_lengthsAt l b items #[] n n2 dd dd2 sl sl2 (by simpa using hz))
      ⟨ho, ho2, show Value.bool true ≠ Value.notImplemented ∧ Q (.bool true) s from ⟨(fun x => nomatch x), h⟩⟩) hu
theorem op_neNil (hu : X.A.units + 64 < cLine) : OpR X (compareOp .NotEq) (rNeNil X.K) := by
  intro pins s σ H x y v u Q I rx ry h
  obtain ⟨a, b, xs, rfl, rfl, ha, hb, q⟩ := h
  cases rx
  cases ry
  obtain ⟨its, r1, p1, _⟩ := I.list ha
  obtain ⟨its2, r2, p2, _⟩ := I.list hb
  cases r2
  have e : its.toArray.isEmpty = xs.isEmpty := by
    have := r1.length
    cases its <;> cases xs <;> simp_all
  exact ne_nil_at p1.isList p2.isList (by omega) ⟨.bl _, H, I, by rw [e]; rfl, q⟩
noncomputable def oNeNil : D → D → Res D
  | .lst xs, .lst [] => .ok (.bl (!xs.isEmpty))
  | _, _ => .no
theorem o_neNil (K : PySem.W.Frag) (hK : X.K = K) (hu : X.A.units + 64 < cLine) : OK2 X (compareOp .NotEq) (rNeNil K) oNeNil := by
  subst hK
  refine ⟨op_neNil hu, fun x y d e B H Q i rx ry h => ?_, fun d e x => by unfold oNeNil; split <;> simp⟩
  unfold oNeNil at h
  split at h
  · cases rx with
    | @lst a xs ds h1 q1 =>
      cases ry with
      | @lst b ys _ h2 q2 =>
        cases q2
        refine ⟨a, b, xs, rfl, rfl, i.seq h1, i.seq h2, ?_⟩
        cases q1
        · exact h _ B H (Grow.refl i) (.v _)
        · exact h _ B H (Grow.refl i) (.v _)
  · exact h.elim
end
end DV
namespace DV
open PySem L2 PySem.Spec PySem.Calls PyProof.Rows
section
variable {X : Cx} {W : WX}
end
end DV
namespace DV
open PySem L2
section
variable {X : Cx} {W : WX}
end
end DV
namespace DV
open PySem L2 PySem.Spec PySem.Calls PyProof.Rows
section
variable {X : Cx}
end
section
variable {X : Cx} {W : WX}
end
end DV
namespace DV
open PySem L2 PySem.Spec PySem.Calls PyProof.Rows
section
variable {X : Cx} {W : WX}
end
end DV
namespace DV
open PySem L2 PySem.Spec PySem.Calls PyProof.Rows
section
variable {X : Cx} {W : WX}
end
end DV
namespace DV
open PySem L2 PySem.Spec PySem.Calls PyProof.Rows PySem.W
section
variable {prog : Program} {w : World} {A : Around} {E : Value → Shared → Prop} {s : Shared} {l : Addr} {xs : Array (Int × Tok)} {its : List Value} {ns : List Int}
end
section
variable {X : Cx}
end
end DV
namespace DV
open PySem L2 PyProof.Rows
section
variable {X : Cx} {pins : List (Addr × Obj)} {σ : L2.St} {H : Hp} {s : Shared} {a : Addr} {ks : List NestedKey} {us : List (Int × Addr × V)} {k : NestedKey} {y v : V} {u r : Value} {A : Around} {E : Value → Shared → Prop}
end
section
variable {X : Cx} {o i e f value : Expr} {pos pos' tpos apos cpos : Pos} {td ty tx tv ta : TE} {fl : Str}
end
end DV
namespace DV
open PySem L2 PyProof.Rows
section
variable {K : PySem.W.Frag} {B : Hp}
end
end DV
namespace DV
open PySem L2 PyProof.Rows
section
variable {K : PySem.W.Frag} {B H : Hp}
end
end DV
namespace DV
open PySem L2 PyProof.Rows
section
variable {K : PySem.W.Frag} {B0 : Hp} {H0 : Org} {B H : Hp} {σ : L2.St} {δ : DS}
end
section
variable {X : Cx} {W : WX}
end
section
variable {X : Cx} {CX : CXT} {k : Nat} {f C : Addr} {fd : FuncData} {ps : List Str} {sp : Sp} {dvs : List V} {ds : List Value} {E : L2.St → XK} {x m : Str} {p pos apos : Pos} {e o : Expr} {es : List Expr} {ta : TE} {t : TA}
end
section
variable {X : Cx} {W : WX} {K : PySem.W.Frag}
end
end DV
namespace DV
open PySem L2 PyProof.Rows
section
variable {X : Cx} {W : WX} {K : PySem.W.Frag}
theorem three {α : Type} {vs : List α} (h : vs.length = 3) : ∃ a b c, vs = [a, b, c] := by
  match vs, h with
  | [a, b, c], _ => exact ⟨a, b, c, rfl⟩
end
end DV
namespace DV
open PySem L2
section
variable {X : Cx} {W : WX} {K : PySem.W.Frag}
theorem FldK.wor {cs : List Str} {f : Str} (h : FldK K cs f) (hc : ("Worths" : Str) ∈ cs := by decide) : FldK K ["Worths"] f := fun c hc' => by
  rw [List.mem_singleton.mp hc']
  exact h _ hc
end
end DV
namespace DV
open PySem L2
section
variable {X : Cx} {W : WX} {K : PySem.W.Frag}
end
end DV
namespace DV
open PySem L2 PyProof.Rows
section
variable {P : Program} {w : World} {K : PySem.W.Frag} {mg : Str → Option Value} {base : Heap}
end
section
variable {X : Cx} {W : WX} {K : PySem.W.Frag}
end
end DV
namespace DV
open PySem L2
section
variable {X : Cx} {i : Nat}
end
end DV
namespace DV
open PySem L2
section
variable {X : Cx} {C : Addr} {x : Str} {p pos : Pos}
end
section
variable {K : PySem.W.Frag} {W : WX}
end
section
variable {X : Cx} {W : WX}
end
end DV
namespace DV
open PySem L2
section
variable {X : Cx} {W : WX} {K : PySem.W.Frag}
end
end DV
namespace DV
open PySem L2
inductive HdsU (X : Cx) : List ExceptHandler → List (Value × TS) → Prop
  | nil : HdsU X [] []
  | cons {x : Str} {c : Value} {ts : TS} {b₀ : Stmt} {suite : List Stmt} {np pos' : Pos} {hds : List ExceptHandler} {l : List (Value × TS)} (hc : Names X x c)
      (hsu : ∀ (a : Addr) (oe : Obj) (pn : List (Addr × Obj)), PSs (X.suite a ((a, oe) :: pn)) (b₀ :: suite) ts) (r : HdsU X hds l) :
      HdsU X (.ExceptHandler (some (.Name x np)) none (b₀ :: suite) pos' :: hds) ((c, ts) :: l)
section
variable {X : Cx} {W : WX}
noncomputable abbrev ClsU := List ((Str → Option Bool) × (DS → Fl))
inductive HdsV (X : Cx) : List ExceptHandler → List (Value × TS) → ClsU → Prop
  | nil : HdsV X [] [] []
  | cons {x : Str} {c : Value} {ts : TS} {gs : DS → Fl} {p : Str → Option Bool} {b₀ : Stmt} {suite : List Stmt} {np pos' : Pos} {hds : List ExceptHandler} {l : List (Value × TS)} {q : ClsU} (hc : Names X x c)
      (hp : ∀ s b v, p s = some b → clsV X.K s = some v → PySem.W.exmOne X.K v c = some b ∧ (b = true → XcK X.K v)) (hsu : ∀ (a : Addr) (oe : Obj) (pn : List (Addr × Obj)), CSs (X.suite a ((a, oe) :: pn)) W0 (b₀ :: suite) ts gs) (r : HdsV X hds l q) :
      HdsV X (.ExceptHandler (some (.Name x np)) none (b₀ :: suite) pos' :: hds) ((c, ts) :: l) ((p, gs) :: q)
theorem HdsV.n {X : Cx} : ∀ {hds : List ExceptHandler} {l : List (Value × TS)} {q : ClsU}, HdsV X hds l q → HdsU X hds l
  | _, _, _, .nil => .nil
  | _, _, _, .cons hc _ hsu r => .cons hc (fun a oe pn => (hsu a oe pn).ps) r.n
end
end DV
namespace DV
open PySem L2
noncomputable def noK : XK := fun _ _ _ => False
noncomputable def rEqO (C : Addr) (sp : Sp) : R2 := fun x y H Q => ∃ a b dx dy fs gs, x = .ref a ∧ y = .ref b ∧ H a = some (.ins C dx fs) ∧ H b = some (.ins C dy gs) ∧ sp [.ref a, .ref b] H (fun v H' => (∃ z, v = .bl z) ∧ Q v H') noK
section
variable {X : Cx} {C f : Addr} {fd : FuncData} {ps : List Str} {sp : Sp} {k : Nat}
theorem op_eqO (F : FnOk X.prog X.w X.K X.mg X.base (L2.CX X.prog X.w) k f fd ps sp) (hr : Room k X.A) (hs : PySem.W.findIn X.K (.ref C) "__eq__" = some (some (.ref f))) (hf : PySem.W.isFn X.K (.ref f) = true) (hb : Binds X.K fd ps []) :
    OpR X (compareOp .Eq) (rEqO C sp) := by
  intro pins s σ H x y u v Q I rx ry d
  obtain ⟨a, b, dx, dy, fs, gs, rfl, rfl, ha, hb', hsp⟩ := d
  cases rx
  cases ry
  obtain ⟨mA, J, _⟩ := ins_get I.hok ha
  obtain ⟨mB, J', _⟩ := ins_get I.hok hb'
  obtain ⟨od, J, _⟩ := J.look
  obtain ⟨od', J', _⟩ := J'.look
  obtain ⟨m, hF⟩ := I.fr
  show wpAny (model X.prog X.w) X.A (richCompare .Eq (.ref a) (.ref b)) (EP X pins σ Q) X.xe s
  refine PySem.W.cmp_K (op := .Eq) (tb := .ref C) hr.units0 hF I.ok.mod.kin J J'.type (by simp [PySem.W.notFirst]) hs hf ?_
  have hx : Passes (L2.CX X.prog X.w) X noK := fun pins σ H s e s' I h => by
    obtain ⟨a, B, H', cls, d, _, _, _, _, _, _, _, h⟩ := h
    exact h.elim
  refine wpAny_mono (run_fn (us := [.ref a, .ref b]) (vs := [.ref a, .ref b]) (dvs := []) (ds := []) F hr hb .nil hx I (.cons rfl (.cons rfl .nil)) hsp) (fun v s' h => ?_) fun _ _ z => z
  obtain ⟨v', H', I', rv, ⟨z, rfl⟩, q⟩ := h
  cases rv
  exact ⟨.bl z, H', I', rfl, q⟩
end
section
variable {K : PySem.W.Frag} {W : WX}
noncomputable def cEqO (c : Str) (F : List D → Res D) (fa fb : DS → Res D) : DS → Res D := fun δ => (fa δ).bind fun x => (fb δ).bind fun y => match x, y with
  | .ins c1 ns vs, .ins c2 ms us => if c1 = c ∧ c2 = c then (match F [.ins c1 ns vs, .ins c2 ms us] with
    | .ok (.v (.bl z)) => .ok (.bl z)
    | _ => .no) else .no
  | _, _ => .no
theorem se_eqO {c : Str} {C : Addr} {F : List D → Res D} {ta tb : TE} {fa fb : DS → Res D} (k : clsV K c = some (.ref C)) (ha : SE K W ta fa) (hb : SE K W tb fb) : SE K W (tOp (rEqO C (spD K 2 F)) ta tb) (cEqO c F fa fb) := fun B0 H0 δ σ B H Q rel hp => by
  unfold cEqO at hp
  refine ha B0 H0 δ σ B H _ rel ?_
  cases e : fa δ with
  | no => rw [e] at hp; exact hp
  | er x => rw [e] at hp; exact hp
  | ok d =>
    rw [e, Res.bind_ok] at hp
    intro v B1 H1 g1 r1
    refine hb B0 H0 δ σ B1 H1 _ (rel.mono g1) ?_
    cases e2 : fb δ with
    | no => rw [e2] at hp; exact hp
    | er x => rw [e2] at hp; exact fun c dx B' H' g' rp => hp c dx B' H' (g1.trans g') rp
    | ok d2 =>
      rw [e2, Res.bind_ok] at hp
      intro v2 B2 H2 g2 r2
      split at hp
      · rename_i c1 ns vs c2 ms us
        split at hp
        · rename_i hc
          obtain ⟨rfl, hc2⟩ := hc
          subst hc2
          obtain ⟨a, C1, dx, fs, rfl, hb1, hv1, _, _⟩ := ins_of (r1.mono g2.b)
          obtain ⟨b, C2, dy, gs, rfl, hb2, hv2, _, _⟩ := ins_of r2
          have z1 := hv1.symm.trans k
          have z2 := hv2.symm.trans k
          cases z1
          cases z2
          have rel2 := (rel.mono g1).mono g2
          refine ⟨a, b, dx, dy, fs, gs, rfl, rfl, g2.i _ _ hb1, g2.i _ _ hb2, rfl, [_, _], B2, g2.i, .cons (r1.mono g2.b) (.cons r2 .nil), ⟨fun p hp' => rel2.g.t p (rel2.tk p hp'), rel2.g.tb rel2.nt⟩, ?_⟩
          split at hp
          · rename_i z e3
            rw [e3]
            intro v B' H' g' rp
            cases rp
            exact ⟨⟨z, rfl⟩, hp _ B' H' ((g1.trans g2).trans g') (.v _)⟩
          · exact hp.elim
        · exact hp.elim
      · exact hp.elim
end
section
variable {X : Cx} {W : WX}
theorem ce_eqO (K : PySem.W.Frag) (hK : X.K = K) {k : Nat} {c : Str} {C f : Addr} {fd : FuncData} {ps : List Str} {F : List D → Res D} {a b : Expr} {pos : Pos} {ta tb : TE} {fa fb : DS → Res D} (kc : ClK K c C) (hm : Meth K C "__eq__" f)
    (G : FnOk X.prog X.w K X.mg X.base (L2.CX X.prog X.w) k f fd ps (spD K 2 F)) (hr : Room k X.A) (hb : Binds K fd ps []) (ha : CE X W a ta fa) (hb' : CE X W b tb fb) (hk : behindInMarks .Eq b = false := by first | exact nomark _ | rfl) :
    CE X W (.Compare a [.Eq] [b] pos) (tOp (rEqO C (spD K 2 F)) ta tb) (cEqO c F fa fb) := by
  subst hK
  exact ⟨pe_cmpR (op_eqO G hr hm.at_ hm.fn hb) ha.pe hb'.pe hk, se_eqO kc.v ha.se hb'.se⟩
end
end DV
namespace DV
open PySem L2
structure IsO (K : PySem.W.Frag) (c : Str) (C : Addr) : Prop where
  k : ClK K c C
  ha : PySem.W.findIn K (.ref C) "__class__" = some (some (.builtin "object.__class__"))
  hn : PySem.W.specialIn K (.builtin "object.__class__") "__get__" = some (some (.builtin "getset_descriptor.__get__"))
  htk : PySem.W.takesIn K (.builtin "object.__class__") = some true
  hm : PySem.W.mroIn K C (.type "object") = some true
  nb : ∀ t ∈ tys, PySem.W.kitOne K (.type t) (.ref C) = some false
noncomputable def cIsO (c : Str) (f : DS → Res D) : DS → Res D := fun δ => (f δ).bind fun d => match d with
  | .ins c' _ _ => if c' = c then .ok (.bl true) else .no
  | d => match tyD d with
    | some _ => .ok (.bl false)
    | none => .no
section
variable {X : Cx} {W : WX}
theorem se_isO {K : PySem.W.Frag} {c : Str} {C : Addr} {ta : TE} {fa : DS → Res D} (I : IsO K c C) (ha : SE K W ta fa) : SE K W (tCB (rIsi K) (tCons ta (tCons (tC (.ref C)) tNil))) (cIsO c fa) := fun B0 H0 δ σ B H Q rel hp => by
  unfold cIsO at hp
  refine ha B0 H0 δ σ B H _ rel ?_
  cases e : fa δ with
  | no => rw [e] at hp; exact hp
  | er x => rw [e] at hp; exact hp
  | ok d =>
    rw [e, Res.bind_ok] at hp
    intro v B1 H1 g1 r1
    have fin : ∀ (t : Value) (b : Bool), TyX K H1 v t → PySem.W.kitOne K t (.ref C) = some b → Q (.bl b) H1 → rIsi K [v, .ref C] H1 Q := fun t b h1 h2 h3 => ⟨v, .ref C, t, .ref C, b, rfl, .own C, h1, h2, h3⟩
    show rIsi K [v, .ref C] H1 Q
    split at hp
    · rename_i c' ns vs
      split at hp
      · rename_i hc
        subst hc
        obtain ⟨a, C1, dx, fs, rfl, hb1, hv1, _, _⟩ := ins_of r1
        have z1 := hv1.symm.trans I.k.v
        cases z1
        exact fin (.ref C) true (.base (.ins (g1.i _ _ hb1) I.k.cl I.ha I.hn I.htk I.hm)) (if_pos (by simp)) (hp _ B1 H1 g1 (.v _))
      · exact hp.elim
    · split at hp
      · rename_i t ht
        exact fin (.type t) false (tyX_of g1.i r1 ht) (I.nb t (tyD_mem ht)) (hp _ B1 H1 g1 (.v _))
      · exact hp.elim
theorem ce_isO (K : PySem.W.Frag) (hK : X.K = K) {c : Str} {C : Addr} {e : Expr} {p p2 pos : Pos} {ta : TE} {fa : DS → Res D} (I : IsO K c C) (hmi : X.mg "isinstance" = none) (hmc : X.mg c = some (.ref C)) (ha : CE X W e ta fa)
    (hg : Gl X "isinstance" := by rfl) (hgc : Gl X c := by rfl) (hdb : (c == ("__debug__" : Str)) = false := by decide)
    (he : starEach [e, .Name c p2] X.env = (false, eval e X.env) :: starEach [.Name c p2] X.env := by rfl) (hpl : (backTo pos (starEach [.Name c p2] X.env)).any (·.1) = false := by rfl) :
    CE X W (.Call (.Name "isinstance" p) [e, .Name c p2] [] pos) (tCB (rIsi K) (tCons ta (tCons (tC (.ref C)) tNil))) (cIsO c fa) := by
  subst hK
  exact ⟨pe_callB call_isi hg hmi rfl (pa_cons (hs := he) ha.pe (pa_cons (pe_glob hgc hmc rfl hdb) pa_nil)) (by decide) (by decide) he hpl, se_isO I ha.se⟩
end
end DV
namespace DV
open PySem L2 PyProof.Rows
section
variable {prog : Program} {w : World} {K : Type} [DecidableEq K] {knd : HeapKind prog w K} {A : Around} {E : Value → Shared → Prop} {s : Shared}
end
section
variable {P : Program} {w : World} {A : Around} {s : Shared}
end
section
variable {X : Cx} {W : WX} {K : PySem.W.Frag} {B : Hp}
end
end DV
namespace DV
open PySem L2
section
variable {X : Cx} {W : WX} {K : PySem.W.Frag}
end
section
variable {X : Cx} {W : WX}
theorem ct_eqO (K : PySem.W.Frag) (hK : X.K = K) {k : Nat} {c : Str} {C f : Addr} {fd : FuncData} {ps : List Str} {F : List D → Res D} {a b : Expr} {pos : Pos} {ta tb : TE} {fa fb : DS → Res D} (kc : ClK K c C) (hm : Meth K C "__eq__" f)
    (G : FnOk X.prog X.w K X.mg X.base (L2.CX X.prog X.w) k f fd ps (spD K 2 F)) (hr : Room k X.A) (hb : Binds K fd ps []) (ha : CE X W a ta fa) (hb' : CE X W b tb fb) (hk : behindInMarks .Eq b = false := by first | exact nomark _ | rfl) :
    CT X W (.Compare a [.Eq] [b] pos) (tTest (tOp (rEqO C (spD K 2 F)) ta tb)) (cTest (cEqO c F fa fb)) := by
  subst hK
  exact ⟨pt_cmpR (op_eqO G hr hm.at_ hm.fn hb) ha.pe hb'.pe hk, st_test (se_eqO kc.v ha.se hb'.se)⟩
end
end DV
namespace DV
open PySem L2
end DV
namespace PySem.W
open PySem PySem.Spec PySem.Calls PyProof.Rows
section
variable {prog : Program} {w : World} {A : Around} {E : Value → Shared → Prop} {s : Shared} {K : Frag} {x C L f : Addr} {h₀ : Heap} {m : Str → Option Value} {ox : Obj} {od : Option Obj} {b tb : Value}
end
end PySem.W
namespace DV
open PySem L2
section
variable {X : Cx} {C f : Addr} {fd : FuncData} {ps : List Str} {sp : Sp} {k : Nat}
end
section
variable {K : PySem.W.Frag} {W : WX}
end
section
variable {X : Cx} {W : WX} {k : Nat} {c : Str} {C f : Addr} {fd : FuncData} {ps : List Str} {F : List D → Res D} {a b : Expr} {pos : Pos} {ta tb : TE} {fa fb : DS → Res D}
end
end DV
namespace DV
open PySem L2
section
variable {X : Cx} {W : WX} {K : PySem.W.Frag}
end
end DV
namespace DV
open PySem L2 PySem.Spec PySem.Calls PyProof.Rows
section
variable {prog : Program} {w : World} {K : Type} [DecidableEq K] {knd : HeapKind prog w K} {A : Around} {E : Value → Shared → Prop} {s : Shared}
end
section
variable {X : Cx} {W : WX}
end
end DV
namespace DV
open PySem L2
section
variable {X : Cx} {W : WX} {K : PySem.W.Frag}
end
mutual
noncomputable def T.pl : T → Bool
  | .im d => d.pl
  | .nd _ ts => T.plA ts
noncomputable def T.plA : List T → Bool
  | [] => true
  | t :: ts => t.pl && T.plA ts
end
section
variable {K : PySem.W.Frag} {B B' H : Hp}
end
section
variable {X : Cx} {W : WX} {K : PySem.W.Frag}
end
end DV
namespace PySem.W
open PySem PySem.Spec PySem.Calls PyProof.Rows
section
variable {prog : Program} {w : World} {T : String} {r d : Addr} {n : Nat} {P : Nat → Value → Prop} {OK : Heap → Prop} {A : Around} {E : Value → Shared → Prop} {s : Shared} {β : Type} {vs : List Value} {bs : List β} {enc : β → PyData} {R : Value → β → Prop}
end
end PySem.W
namespace DV
open PySem L2 PySem.Spec PySem.Calls PyProof.Rows
section
variable {X : Cx}
variable {W : WX} {K : PySem.W.Frag}
end
end DV
namespace DV
open PySem L2
section
variable {X : Cx} {i : Nat}
end
end DV
namespace DV
open PySem L2
section
variable {X : Cx} {K : PySem.W.Frag}
end
end DV
namespace DV
open PySem L2
section
variable {K : PySem.W.Frag} {W : WX} {B0 : Hp} {H0 : Org} {B H : Hp} {σ : L2.St} {δ : DS}
end
section
variable {X : Cx} {W : WX}
end
end DV
namespace DV
open PySem PySem.W PySem.F PySem.Calls L2
variable {X : Cx} {i : Nat}
theorem cxs_asg (j : Nat) {x : Str} {e : Expr} {t : TXE} {f : Exn → DS → Res D} {pos pos' : Pos} (hN : X.N.Nodup) (he : CEx X i e t f) (hi : X.N[j]? = some x := by rfl) (hx : Loc X.env.scope x := by first | exact Or.inl rfl | exact Or.inr rfl)
    (hs : swapsWith e (some (.Name x pos')) pos.line X.env = pure false := by rfl) (hf : X.fn x = true ∨ X.env.scope.names.lookup x = some .local := by first | exact .inl rfl | exact .inr rfl | assumption) :
    CXs X i [.Assign [.Name x pos'] e pos] (fun a c d => tAsg (t a c d) (gName j)) (fun y => cAsg j (f y)) :=
  ⟨fun a oe c d pn hz hv => pss_one (ps_set (X := X.suite a ((a, oe) :: pn)) hN hi hx (he.pe a oe c d pn hz hv) hs hf), fun y a c d B0 H0 δ σ B H E rel cx hp =>
    he.se y a c d B0 H0 δ σ B H _ rel cx (postE_of rel hp fun d v B' H' _ g rp q => q _ B' H' (Same.refl _) ((rel.mono g).set j rp))⟩
end DV
namespace DV
open PySem PySem.W PySem.F PySem.Calls L2
mutual
noncomputable def T.nl : T → Bool
  | .im d => d.noLst
  | .nd _ ts => T.nlA ts
noncomputable def T.nlA : List T → Bool
  | [] => true
  | t :: ts => t.nl && T.nlA ts
end
mutual
theorem nkD_nl : ∀ k : NestedKey, nkInt k = true → (nkD k).noLst = true
  | .none, h => by rw [nkInt] at h; cases h
  | .num i, h => by rw [nkD]; rfl
  | .text s, h => by rw [nkInt] at h; cases h
  | .tup ks, h => by rw [nkInt] at h; rw [nkD, D.noLst]; exact nkDs_nl ks h
theorem nkDs_nl : ∀ ks : List NestedKey, nkInts ks = true → D.noLstA (nkDs ks) = true
  | [], _ => by rw [nkDs]; rfl
  | k :: ks, h => by
    rw [nkInts, Bool.and_eq_true] at h
    rw [nkDs, D.noLstA, nkD_nl k h.1, nkDs_nl ks h.2]
    rfl
end
section
variable {K : PySem.W.Frag} {B B' H : Hp}
mutual
theorem RT.tups (e : ∀ a u, TK u → B a = some u → B' a = some u) : ∀ (t : T) (v : V), RT K B H t v → t.nl = true → RT K B' H t v
  | .im d, v, h, hd => by
    rw [T.nl] at hd
    rw [RT] at h ⊢
    exact Rp.tups e h hd
  | .nd k ts, v, h, hd => by
    rw [T.nl] at hd
    rw [RT] at h ⊢
    obtain ⟨p, vs, fp, rfl, hc, hr, ha⟩ := h
    refine ⟨p, vs, fp, rfl, hc, RTA.tups e ts vs hr hd, ha.n, ?_⟩
    cases k with
    | dt ks =>
      obtain ⟨o, us, h1, h2⟩ := ha.k
      obtain ⟨o', us', h1', ⟨_, _, _, ok⟩, _, _⟩ := hc
      exact ⟨o, us, h1, RpA.tups e h2 (nkDs_nl ks (nkInts_all ok))⟩
    | _ => trivial
theorem RTA.tups (e : ∀ a u, TK u → B a = some u → B' a = some u) : ∀ (ts : List T) (vs : List V), RTA K B H ts vs → T.nlA ts = true → RTA K B' H ts vs
  | [], [], _, _ => by rw [RTA]; trivial
  | [], _ :: _, h, _ => by rw [RTA] at h; exact h.elim
  | _ :: _, [], h, _ => by rw [RTA] at h; exact h.elim
  | t :: ts, v :: vs, h, hd => by
    rw [T.nlA, Bool.and_eq_true] at hd
    rw [RTA] at h ⊢
    exact ⟨RT.tups e t v h.1 hd.1, RTA.tups e ts vs h.2.1 hd.2, h.2.2⟩
end
end
noncomputable def Exn.nl (x : Exn) : Bool := D.noLstA (x.fs.map (·.2))
noncomputable def lookN (i : Nat) (f : DS → Res T) : DS → Res T := fun δ => match f (fzL i δ) with
  | .ok t => if t.nl = true then .ok t else .no
  | .er x => if x.nl = true then .er x else .no
  | .no => .no
section
variable {X : Cx} {W : WX} {K : PySem.W.Frag}
theorem Rel.lookL {B0 : Hp} {H0 : Org} {B H : Hp} {σ : L2.St} {δ : DS} (r : Rel K B0 H0 B H σ δ) (i : Nat) : ∃ B', Same B B' ∧ Rel K B0 H0 B' H σ (fzL i δ) ∧ ∀ a u, B' a = some u → B a = some u ∨ ((H a = some u ∧ Kind u ∧ ¬ TK u) ∧ ∀ fs, u ≠ .xd fs) := by
  by_cases hk : ∃ ds, δ[i]? = some (some (.ow ds))
  · obtain ⟨ds, ei⟩ := hk
    have hfz : fzL i δ = δ.set i (some (.im (.lst ds))) := by unfold fzL; rw [ei]
    obtain ⟨v, h1, p, vs, rfl, h0, hb, hh, q⟩ := r.sl i _ ei
    obtain ⟨sb, rel2⟩ := r.freezeG (ho := .lst vs) (d := .lst ds) ei rfl h1 (upd_self hh).symm ⟨⟨fun _ z => (by cases z), fun _ _ _ z => (by cases z)⟩, fun _ _ _ _ z => (by cases z)⟩ (.lst (SqL.of upd_same) (RpA.mono (same_new hb) q))
    refine ⟨_, sb, by rw [hfz]; exact rel2, fun a u z => ?_⟩
    by_cases ha : a = p
    · subst ha; rw [upd_same] at z; cases z; exact .inr ⟨⟨hh, kind_lst vs, fun z => by rcases z with ⟨_, z⟩ | ⟨_, _, z⟩ <;> cases z⟩, fun _ z => by cases z⟩
    · rw [upd_ne ha] at z; exact .inl z
  · have hfz : fzL i δ = δ := by
      unfold fzL
      split
      · rename_i ds e; exact absurd ⟨ds, e⟩ hk
      · rfl
    exact ⟨B, Same.refl _, by rw [hfz]; exact r, fun _ _ h => .inl h⟩
theorem sn_look (i : Nat) {t : TE} {f : DS → Res T} (h : SN K W t f) : SN K W t (lookN i f) := fun B0 H0 δ σ B H Q rel hp => by
  unfold DV.lookN at hp
  obtain ⟨B', s, r, keep⟩ := rel.lookL i
  refine h B0 H0 _ σ B' H Q r ?_
  cases e1 : f (fzL i δ) with
  | no => rw [e1] at hp; exact hp.elim
  | er x =>
    rw [e1] at hp
    dsimp only at hp
    split at hp
    case isFalse => exact hp.elim
    case isTrue hx =>
    intro c dx B2 H2 g rp
    obtain ⟨g3, kT, k⟩ := Grow.unlendT rel.g.i (rel.g.tb rel.nt).nt s (fun a u q => (keep a u q).imp id fun z => z.1) g
    obtain ⟨h1, d, us, h2, h3, h4, h5⟩ := rp
    exact hp c dx _ H2 g3 ⟨h1, d, us, h2, k _ _ (fun _ _ _ _ z => by cases z) (fun z => (keep _ _ z).elim id fun y => absurd rfl (y.2 us)) h3, h4, RpA.tups kT h5 hx⟩
  | ok d =>
    rw [e1] at hp
    dsimp only at hp
    split at hp
    case isFalse => exact hp.elim
    case isTrue hx =>
    intro v B2 H2 g rt n
    obtain ⟨g3, kT, k⟩ := Grow.unlendT rel.g.i (rel.g.tb rel.nt).nt s (fun a u q => (keep a u q).imp id fun z => z.1) g
    refine hp v _ H2 g3 (RT.tups kT _ _ rt hx) fun q hq => ⟨(n q hq).1, ?_⟩
    unfold unB
    rw [if_pos (n q hq).1, (n q hq).2]
    rfl
theorem cn_look (i : Nat) {e : Expr} {t : TE} {f : DS → Res T} (h : CN X W e t f) : CN X W e t (lookN i f) := ⟨h.pe, sn_look i h.sn⟩
end
end DV
namespace DV
open PySem L2
noncomputable def insW (k : Str) (l : List Str) : List Str := if k ∈ l then l else l ++ [k]
noncomputable def ddW (ns : List Str) : List Str := ns.foldl (fun l k => insW k l) []
theorem insW_mem (k : Str) (l : List Str) (j : Str) : j ∈ insW k l ↔ j ∈ l ∨ j = k := by
  unfold insW
  split
  · rename_i h
    exact ⟨.inl, fun z => z.elim id fun z => z ▸ h⟩
  · simp
theorem insW_len (k : Str) (l : List Str) : (insW k l).length = if k ∈ l then l.length else l.length + 1 := by
  unfold insW
  split <;> simp
theorem ddW_snoc (ns : List Str) (k : Str) : ddW (ns ++ [k]) = insW k (ddW ns) := by simp [ddW]
theorem foldW_mem (ns : List Str) : ∀ (l : List Str) (j : Str), j ∈ ns.foldl (fun l k => insW k l) l ↔ j ∈ ns ∨ j ∈ l := by
  induction ns with
  | nil => intro l j; simp
  | cons n ns ih =>
    intro l j
    rw [List.foldl_cons, ih, insW_mem, List.mem_cons]
    constructor
    · rintro (h | h | h)
      · exact .inl (.inr h)
      · exact .inr h
      · exact .inl (.inl h)
    · rintro ((h | h) | h)
      · exact .inr (.inr h)
      · exact .inl h
      · exact .inr (.inl h)
theorem ddW_mem (ns : List Str) (j : Str) : j ∈ ddW ns ↔ j ∈ ns := by
  have := foldW_mem ns [] j
  simpa [ddW] using this
theorem foldW_len (ns : List Str) : ∀ (l : List Str), (ns.foldl (fun l k => insW k l) l).length ≤ ns.length + l.length := by
  induction ns with
  | nil => intro l; simp
  | cons n ns ih =>
    intro l
    have h1 := ih (insW n l)
    have h2 := insW_len n l
    rw [List.foldl_cons, List.length_cons]
    split at h2 <;> omega
theorem ddW_len (ns : List Str) : (ddW ns).length ≤ ns.length := by
  have := foldW_len ns []
  simpa [ddW] using this
noncomputable def kinW (xs : List Str) : Key → Bool
  | .inl _ => false
  | .inr x => decide (x ∈ xs)
theorem kinW_snoc (xs : List Str) (x : Str) : (fun j => kinW xs j || decide (j = Sum.inr x)) = kinW (xs ++ [x]) := by
  funext j
  cases j with
  | inl i => simp [kinW]
  | inr y =>
    show (decide (y ∈ xs) || decide ((Sum.inr y : Key) = Sum.inr x)) = decide (y ∈ xs ++ [x])
    rw [Bool.eq_iff_iff]
    simp
theorem kinW_count (xs : List Str) (x : Str) : (if kinW xs (Sum.inr x) = true then (ddW xs).length else (ddW xs).length + 1) = (ddW (xs ++ [x])).length := by
  rw [ddW_snoc, insW_len]
  show (if decide (x ∈ xs) = true then _ else _) = _
  simp only [decide_eq_true_eq, ddW_mem]
noncomputable def setKI (P : Program) (w : World) (a : Addr) (p : (Key → Bool) × Nat) : HO := SetK P w a p.1 p.2
noncomputable def setK0 : (Key → Bool) × Nat := (fun _ => false, 0)
theorem setK_ne_code {P : Program} {w : World} {a : Addr} {S : Key → Bool} {n : Nat} {q : Str} : SetK P w a S n ≠ LamX.CodeO a q := ext_ne_code fun h o hs ho vs hv => by
  obtain ⟨o', es, ep, t, h1, _, h3, _⟩ := hs
  rw [ho] at h1
  cases h1
  rw [hv] at h3
  cases h3
theorem setK_ne_mx {P : Program} {w : World} {a b : Addr} {S : Key → Bool} {n : Nat} {o : Obj} {us : List (Int × Addr × V)} : SetK P w a S n ≠ MX b o us := ext_ne_mx (fun h => by obtain ⟨o', es, ep, t, h1, _⟩ := h; cases h1) fun o' hd hs => by
  obtain ⟨o2, es, ep, t, h1, _, h3, _⟩ := hs
  rw [oneH_get hd] at h1
  split at h1
  · cases h1
    obtain ⟨_, _, _, es', ep', h4, _⟩ := hd
    rw [h4] at h3
    cases h3
  · cases h1
theorem setK_fresh {P : Program} {w : World} {h : Heap} {a : Addr} (ha : h.get? a = some (freshSet w)) : h.SetOf (mixKind P w) a (fun _ => false) 0 :=
  ⟨_, #[], 0, _, ha, ⟨rfl, rfl, rfl⟩, rfl, (fun e he => by simp at he), (fun k => by simp), (by decide), (by rfl), rfl⟩
noncomputable def strsD : List D → Option (List Str)
  | [] => some []
  | .v (.str x) :: r => (strsD r).map (x :: ·)
  | _ => none
theorem strsD_of : ∀ {ds : List D} {ns : List Str}, strsD ds = some ns → ds = ns.map D.str
  | [], ns, h => by cases h; rfl
  | d :: r, ns, h => by
    unfold strsD at h
    split at h
    · rename_i e; cases e
    · rename_i x r' e
      cases e
      cases q : strsD r with
      | none => rw [q] at h; cases h
      | some ms => rw [q] at h; cases h; rw [strsD_of q]; rfl
    · cases h
theorem strsD_map : ∀ (ns : List Str), strsD (ns.map D.str) = some ns
  | [] => rfl
  | n :: ns => by
    show (strsD (ns.map D.str)).map (n :: ·) = _
    rw [strsD_map ns]
    rfl
theorem strs_inj : ∀ {xs ys : List Str}, xs.map D.str = ys.map D.str → xs = ys
  | [], [], _ => rfl
  | [], _ :: _, h => by cases h
  | _ :: _, [], h => by cases h
  | x :: xs, y :: ys, h => by
    simp only [List.map_cons, List.cons.injEq, D.str, D.v.injEq, V.str.injEq] at h
    rw [h.1, strs_inj h.2]
theorem strs_app {ds es : List D} {ns : List Str} (h : ds ++ es = ns.map D.str) : ∃ ms ls, ds = ms.map D.str ∧ es = ls.map D.str ∧ ms ++ ls = ns := by
  refine ⟨ns.take ds.length, ns.drop ds.length, ?_, ?_, List.take_append_drop ..⟩
  · rw [List.map_take, ← h]; simp
  · rw [List.map_drop, ← h]; simp
theorem RpA.strs_of {K : PySem.W.Frag} {B : Hp} : ∀ {vs : List V} {ns : List Str}, RpA K B vs (ns.map D.str) → vs = ns.map V.str
  | _, [], h => by cases h; rfl
  | _, n :: ns, h => by
    cases h with
    | cons h r => cases h; rw [RpA.strs_of r]; rfl
section
variable {X : Cx} {W : WX} {K : PySem.W.Frag}
noncomputable def cStrs (f : DS → Res (List D)) : DS → Res (List Str) := fun δ => (f δ).bind fun ds => match strsD ds with
  | some ns => if ns.length < 64 then .ok ns else .no
  | none => .no
noncomputable def PostSW (K : PySem.W.Frag) (P : Program) (w : World) (B H : Hp) (σ : L2.St) (W : WX) (Q : VK) : Res (List Str) → Prop
  | .ok ns => ∀ p B' H', Grow K B H B' H' → B' p = none → H' p = some (SetK P w p (kinW ns) (ddW ns).length) → (ddW ns).length < 64 → Q (.ref p) H'
  | .er x => ∀ c dx B' H', Grow K B H B' H' → RpX K B' c dx x → W c dx σ H'
  | .no => False
structure CSW (X : Cx) (W : WX) (e : Expr) (t : TE) (f : DS → Res (List Str)) : Prop where
  pe : PE X e t
  si : ∀ B0 H0 δ σ B H (Q : VK), Rel X.K B0 H0 B H σ δ → PostSW X.K X.prog X.w B H σ W Q (f δ) → t σ H Q
theorem sw_sc {P : Program} {w : World} {wi : TI} {g : TG} {tt : TT} {te : TE} {vs is : List Nat} {fi : DS → Res (List D)} {b : D → DS → Option DS} {t : DS → Res Bool} {e : DS → Res D}
    (hi : ∀ B0 H0 δ σ B H (R : It → Hp → Prop), Rel K B0 H0 B H σ δ → PostI K B H σ W R (fi δ) → wi σ H R)
    (hg : ∀ B0 H0 B H σ δ v d (Q : L2.St → Hp → Prop), Rel K B0 H0 B H σ δ → Rp K B v d → (∀ δ' σ', b d δ = some δ' → Rel K B0 H0 B H σ' δ' → σ'.length = σ.length → (∀ j, j ∉ is → σ'[j]? = σ[j]?) → Q σ' H) → b d δ ≠ none → g v σ H Q)
    (ht : ST K W0 tt t) (he : SE K W0 te e) (his : ∀ i ∈ is, i ∈ vs) :
    ∀ B0 H0 δ σ B H (Q : VK), Rel K B0 H0 B H σ δ → PostSW K P w B H σ W Q (cStrs (cLc vs fi b t e) δ) → tScG (setKI P w) setK0 (rSAddK P w) wi g tt te vs σ H Q := fun B0 H0 δ σ B H Q rel hp => by
  unfold cStrs cLc at hp
  refine hi B0 H0 δ σ B H _ rel ?_
  cases e1 : fi δ with
  | no => rw [e1] at hp; exact hp
  | er x => rw [e1] at hp; exact hp
  | ok ds =>
    rw [e1, Res.bind_ok] at hp
    split at hp
    case isFalse => exact hp.elim
    case isTrue hz =>
      intro J B1 H1 G Y g1 wk hG hY Dl hD
      cases e2 : lcF b t e ds (wipeD δ vs) with
      | no => rw [e2] at hp; exact hp.elim
      | er x => exact absurd e2 (lcF_calm b t e ds _ x)
      | ok ys =>
        rw [e2, Res.bind_ok] at hp
        cases e8 : strsD ys with
        | none => rw [e8] at hp; exact hp.elim
        | some ns =>
        rw [e8] at hp
        dsimp only at hp
        split at hp
        case isFalse => exact hp.elim
        case isTrue h64 =>
        have hys := strsD_of e8
        have hlen := ddW_len ns
        have relw := (rel.mono g1).wipe vs
        refine sc_it wk (fun i H' => ∃ B' done rest, Grow K B1 H1 B' H' ∧ B' Dl = none ∧ H' Dl = some (SetK P w Dl (kinW done) (ddW done).length) ∧ lcF b t e (ds.drop i) (wipeD δ vs) = .ok rest ∧ done.map D.str ++ rest = ys) ?_ ?_ ?_ ?_
        · refine ⟨B1, [], ys, Grow.raw g1.i hD, g1.i.free hD, ?_, by simpa using e2, rfl⟩
          rw [upd_same]
          have : kinW [] = fun _ => false := by funext j; cases j <;> simp [kinW]
          rw [this]
          rfl
        · rintro i H' hin ⟨B', done, rest, gr, hb, hh, hr, hy⟩
          exact hG H' (gr.b.trans gr.i)
        · rintro i x H2 H3 hin ⟨B', done, rest, gr, hb, hh, hr, hy⟩ y
          have hlt : i < ds.length := hin
          obtain ⟨B3, g3, rx⟩ := hY i ds[i] B' H2 x H3 (by simp [hlt]) gr.b gr.i y
          rw [List.drop_eq_getElem_cons hlt] at hr
          unfold lcF at hr
          cases e3 : b ds[i] (wipeD δ vs) with
          | none => rw [e3] at hr; cases hr
          | some δ' =>
            rw [e3] at hr
            dsimp only at hr
            refine hg B0 H0 B3 H3 _ _ x ds[i] _ ((relw.mono gr).mono g3) rx (fun δ2 σ2 e4 rel4 l4 f4 => ?_) (by rw [e3]; simp)
            rw [e3] at e4
            cases e4
            refine ⟨?_, ?_⟩
            · refine (wipe_eq (σ := wipe σ vs) l4 fun j hj => f4 j fun z => hj (his j z)).trans (wipe_eq (wipe_length σ vs) fun j hj => ?_)
              rw [wipe_get, if_neg (fun z => hj z.1)]
            refine ht B0 H0 δ' σ2 B3 H3 _ rel4 ?_
            cases e5 : t δ' with
            | no => rw [e5] at hr; simp at hr
            | er x => rw [e5] at hr; simp at hr
            | ok k =>
              rw [e5, Res.calm_ok, Res.bind_ok] at hr
              intro B4 H4 g4
              cases k with
              | false =>
                rw [if_neg Bool.false_ne_true] at hr ⊢
                have hD4 := (g3.trans g4).h _ _ hh ⟨fun _ z => (by cases z), fun _ _ _ => setK_ne_mx⟩
                refine ⟨B4, done, rest, (gr.trans g3).trans g4, ?_, hD4, hr, hy⟩
                rw [(g3.trans g4).f Dl (by rw [hh]; simp)]; exact hb
              | true =>
                rw [if_pos rfl] at hr ⊢
                refine he B0 H0 δ' σ2 B4 H4 _ (rel4.mono g4) ?_
                cases e6 : e δ' with
                | no => rw [e6] at hr; simp at hr
                | er x => rw [e6] at hr; simp at hr
                | ok yd =>
                  rw [e6, Res.calm_ok, Res.bind_ok] at hr
                  intro yv B5 H5 g5 r5
                  have gA := (g3.trans g4).trans g5
                  have hD5 := gA.h _ _ hh ⟨fun _ z => (by cases z), fun _ _ _ => setK_ne_mx⟩
                  have hB5 : B5 Dl = none := by rw [gA.f Dl (by rw [hh]; simp)]; exact hb
                  cases e7 : lcF b t e (ds.drop (i + 1)) (wipeD δ vs) with
                  | no => rw [e7] at hr; cases hr
                  | er x => exact absurd e7 (lcF_calm b t e _ _ x)
                  | ok rest' =>
                    rw [e7, Res.bind_ok] at hr
                    cases hr
                    rw [hys] at hy
                    obtain ⟨ms, ls, a1, a2, a3⟩ := strs_app hy
                    cases ls with
                    | nil => cases a2
                    | cons k ls =>
                    simp only [List.map_cons, List.cons.injEq] at a2
                    obtain ⟨rfl, a2⟩ := a2
                    cases r5
                    have hdl : done.length ≤ ns.length := by
                      have := congrArg List.length hy
                      simp at this
                      omega
                    have hsl := ddW_len done
                    refine ⟨Dl, Sum.inr k, kinW done, (ddW done).length, rfl, rfl, hD5, Nat.lt_of_lt_of_le (by omega : (ddW done).length + 1 < 66) (by decide), ?_⟩
                    have gT := gr.trans gA
                    have neD : ∀ a o, B5 a = some o → a ≠ Dl := fun a o q z => by rw [z, hB5] at q; cases q
                    refine ⟨B5, done ++ [k], rest', ⟨gT.b, fun a o q nq => ?_, fun a o q => ?_, gT.f, fun a ha => ?_, fun P hP => ?_, gT.np hD5 (fun b c w => setK_ne_mx)⟩, hB5, ?_, rfl, ?_⟩
                    · rw [upd_ne (ne_of_none q hD)]; exact gT.h a o q nq
                    · rw [upd_ne (neD a o q)]; exact gT.i a o q
                    · have : a ≠ Dl := fun z => ha (by rw [z]; exact hD)
                      rw [upd_ne this]; exact gT.e a ha
                    · obtain ⟨ps, h1, h2, h3⟩ := gT.t P hP
                      have n1 : P ≠ Dl := fun z => by rw [z, hD5] at h1; cases h1
                      refine ⟨ps, by rw [upd_ne n1]; exact h1, h2, fun pos cv hcv => ?_⟩
                      obtain ⟨c, c1, c2⟩ := h3 pos cv hcv
                      have n2 : c ≠ Dl := fun z => by
                        rw [z, hD5] at c2
                        exact setK_ne_code (Option.some.inj c2)
                      exact ⟨c, c1, by rw [upd_ne n2]; exact c2⟩
                    · rw [upd_same, kinW_snoc, kinW_count]
                    · rw [hys, ← hy]; simp
        · rintro H' ⟨B', done, rest, gr, hb, hh, hr, hy⟩
          rw [List.drop_length] at hr
          cases hr
          rw [List.append_nil, hys] at hy
          have := strs_inj hy
          subst this
          exact hp Dl B' H' (g1.trans gr) hb hh (by omega)
theorem csw_1 {elt tg iter : Expr} {ifs : List Expr} {scope : Scope} {own : List (Str × Nat)} {pos : Pos} {wi : TI} {g : TG} {tt : TT} {te : TE} {is : List Nat} {fi : DS → Res (List D)} {b : D → DS → Option DS} {t : DS → Res Bool} {e : DS → Res D}
    (s0 : Shared) (hc : X.calm = true) (hN : X.N.Nodup) (hi : CI X W tg iter wi fi) (ok : BlkOk X.N X.env.scope scope own)
    (hg : ∀ (s : Shared) (H : Hp) (C : Addr) (cl : List (Str × Addr)) (fp : List Addr), CG (X.blk s H scope (compEnvC scope cl C X.env) fp) tg g is b)
    (ht : ∀ (s : Shared) (H : Hp) (C : Addr) (cl : List (Str × Addr)) (fp : List Addr), CTs (X.blk s H scope (compEnvC scope cl C X.env) fp) W0 ifs tt t)
    (he : ∀ (s : Shared) (H : Hp) (C : Addr) (cl : List (Str × Addr)) (fp : List Addr), CE (X.blk s H scope (compEnvC scope cl C X.env) fp) W0 elt te e)
    (his : ∀ i ∈ is, i ∈ own.map (·.2) := by decide) (hs : ∀ x, foldedSetIterable iter X.env x = pure x := by intro _; rfl) :
    CSW X W (.SetComp elt [⟨tg, iter, ifs, 0⟩] scope pos) (tScG (setKI X.prog X.w) setK0 (rSAddK X.prog X.w) wi g tt te (own.map (·.2))) (cStrs (cLc (own.map (·.2)) fi b t e)) :=
  ⟨pe_scG (fun Hx h a ha => setK_new (setK_fresh ha)) (fun s H C cl fp => mt_saddK (X := X.blk s H scope (compEnvC scope cl C X.env) fp)) hc hN hi.pi ok
      (fun s H C cl fp => (hg s H C cl fp).pg) (fun s H C cl fp => (ht s H C cl fp).pt) (fun s H C cl fp => (he s H C cl fp).pe) hs,
    sw_sc hi.si (hg s0 (fun _ => none) 0 [] []).sg (ht s0 (fun _ => none) 0 [] []).st (he s0 (fun _ => none) 0 [] []).se his⟩
noncomputable def rLenW (P : Program) (w : World) : List V → Hp → VK → Prop := fun xs H Q => ∃ (a : Addr) (S : Key → Bool) (n : Nat), xs = [.ref a] ∧ H a = some (SetK P w a S n) ∧ n < 64 ∧ Q (.int n) H
theorem cr_lenW : CallR X (.builtin "len") (rLenW X.prog X.w) := by
  intro pins s σ H xs us Q I r h
  obtain ⟨a, S, n, rfl, ha, hl, q⟩ := h
  rw [Vals.ref1 r]
  obtain ⟨o, es, ep, t, ho, hex, hd, _, _, _, hf, hn⟩ := setK_get I ha
  exact call_len_set ho hex hd hf (by rw [hn] <;> omega) ⟨.int n, H, I.tok _, ⟨_, by rw [hn]⟩, q⟩
noncomputable def cLenW (f : DS → Res (List Str)) : DS → Res D := fun δ => (f δ).bind fun ns => .ok (.int ((ddW ns).length : Nat))
theorem ce_lenW {e : Expr} {p pos : Pos} {t : TE} {f : DS → Res (List Str)} (P : Program) (w : World) (hP : X.prog = P) (hw : X.w = w) (hm : X.mg "len" = none) (he : CSW X W e t f) (hg : Gl X "len" := by rfl) (hs : starEach [e] X.env = (false, eval e X.env) :: starEach [] X.env := by rfl) (hpl : (backTo pos (starEach [] X.env)).any (·.1) = false := by rfl) :
    CE X W (.Call (.Name "len" p) [e] [] pos) (tCB (rLenW P w) (tCons t tNil)) (cLenW f) := by
  subst hw
  subst hP
  refine ⟨pe_callB cr_lenW hg hm PySem.boot_len (pa_cons he.pe pa_nil hs) (by decide) (by decide) hs hpl, fun B0 H0 δ σ B H Q rel hp => ?_⟩
  unfold cLenW at hp
  refine he.si B0 H0 δ σ B H _ rel ?_
  cases e1 : f δ with
  | no => rw [e1] at hp; exact hp
  | er x => rw [e1] at hp; exact hp
  | ok ns =>
    rw [e1, Res.bind_ok] at hp
    intro z B1 H1 g1 hb hh h64
    exact ⟨z, _, _, rfl, hh, h64, hp _ B1 H1 g1 (.v _)⟩
end
end DV
namespace DV
open PySem PySem.Spec PyProof.Rows L2
section
variable {prog : Program} {w : World} {A : Around} {R : Result → Shared → Prop} {I : Addr} {fp wr : List Addr} {G : Array GenState → Array GenState → Prop} {n : Nat} {P : Nat → Value → Prop} {St : Nat → Shared → Prop}
theorem loopW (W : WalksS prog w A.in1 I fp wr G n P St) (S : Addr) (hSf : S ∉ fp) (xs : List Str) (hsz : xs.length = n) (hn1 : n < 64)
    (hval : ∀ i v, P i v → ∃ t, v = .str (xs.getD i Str.empty) t) :
    ∀ (k i : Nat) (s : Shared), n - i = k → i ≤ n → St i s →
      s.heap.SetOf (mixKind prog w) S (kinW (xs.take i)) (ddW (xs.take i)).length →
      (∀ s', Moved (S :: wr) G s s' → s'.heap.SetOf (mixKind prog w) S (kinW (xs.take n)) (ddW (xs.take n)).length → R (.ok (.ret .none)) s') →
      codeAny (model prog w) A (.builtin "set.update.loop" ⟨[.ref S, .ref I], []⟩) R s := by
  have hSw : S ∉ wr := fun h => hSf (W.sub _ h)
  have hsub : ∀ b ∈ wr, b ∈ S :: wr := fun b hb => List.mem_cons_of_mem _ hb
  intro k
  induction k with
  | zero =>
    intro i s hk hi hst hS hR
    have hin : i = n := by omega
    subst hin
    refine codeAny_builtin PyProof.Rows.F.entry_set_update_loop ?_
    rw [Around.under_plainId PyProof.Rows.F.plain_set_update_loop _]
    show wpAny _ A.in1 (pyNext (.ref I) >>= _) _ _ s
    refine wpAny_bind (W.done s _ _ hst fun s' hm => ?_)
    show wpAny _ A.in1 (ret Value.none) _ _ s'
    exact wpAny_pure (hR s' (hm.mono hsub) (by
      obtain ⟨o, es, ep, t, ho, rest⟩ := hS
      exact ⟨o, es, ep, t, hm.heap S _ hSw ho, rest⟩))
  | succ k ih =>
    intro i s hk hi hst hS hR
    have hlt : i < n := by omega
    refine codeAny_builtin PyProof.Rows.F.entry_set_update_loop ?_
    rw [Around.under_plainId PyProof.Rows.F.plain_set_update_loop _]
    show wpAny _ A.in1 (pyNext (.ref I) >>= _) _ _ s
    refine wpAny_bind (W.item i s _ _ hlt hst fun v s' hP hst' hm => ?_)
    obtain ⟨t, rfl⟩ := hval i v hP
    have hS' : s'.heap.SetOf (mixKind prog w) S (kinW (xs.take i)) (ddW (xs.take i)).length := by
      obtain ⟨o, es, ep, tb, ho, rest⟩ := hS
      exact ⟨o, es, ep, tb, hm.heap S _ hSw ho, rest⟩
    have ry : RelV (kV (Sum.inr (xs.getD i Str.empty))) (Value.str (xs.getD i Str.empty) t) := ⟨t, rfl⟩
    show wpAny _ A.in1 (holding [Value.str (xs.getD i Str.empty) t] (setAdd S (.str (xs.getD i Str.empty) t)) >>= _) _ _ s'
    refine wpAny_bind (wpAny_holding ?_)
    unfold setAdd
    refine wpAny_holding ?_
    refine wpAny_bind ((mixKind prog w).pyHash (k := Sum.inr (xs.getD i Str.empty)) (kV_is ry) ?_)
    have hroom : (ddW (xs.take i)).length + 1 < scanBound := by
      have h1 := ddW_len (xs.take i)
      have h2 : (xs.take i).length ≤ i := by rw [List.length_take]; omega
      unfold scanBound
      omega
    refine wpAny_setAddHashed_of (knd := mixKind prog w) (s := { s' with toks := s'.toks + 1 }) (kV_is ry) rfl hS' hroom fun h' hsb hS2 => ?_
    have et : xs.take (i + 1) = xs.take i ++ [xs.getD i Str.empty] := by
      have hl : i < xs.length := by omega
      rw [List.take_succ, List.getD_eq_getElem?_getD, List.getElem?_eq_getElem hl]
      rfl
    have hSi : h'.SetOf (mixKind prog w) S (kinW (xs.take (i + 1))) (ddW (xs.take (i + 1))).length := by
      rw [et, ← kinW_count, ← kinW_snoc]
      exact hS2
    refine wpAny_pure ⟨plainId_quiet PyProof.Rows.F.plain_set_update_loop _, ih (i + 1) _ (by omega) hlt (W.frame _ s' _ _ hst' (Nat.le_succ _) fun b hb o e => ?_) hSi fun s'' hm'' hS'' => ?_⟩
    · rw [hsb.2 b (fun h : b = S => hSf (by rw [← h]; exact hb))]; exact e
    · refine hR s'' (Moved.trans W.gtrans ((hm.mono hsub).then_heap (Nat.le_succ _) fun b o hb e => ?_) hm'') hS''
      rw [hsb.2 b (fun h : b = S => hb (by rw [h]; exact List.mem_cons_self))]; exact e
end
theorem setK_led {P : Program} {w : World} {h : Heap} {a : Addr} {led : Bool} (ha : h.get? a = some { cls := .type "set", dict := none, data := .set #[] 0 (.fresh 0 0 led) }) : h.SetOf (mixKind P w) a (fun _ => false) 0 :=
  ⟨_, #[], 0, _, ha, ⟨rfl, rfl, rfl⟩, rfl, (fun e he => by simp at he), (fun k => by simp), (by decide), (by rfl), rfl⟩
section
variable {prog : Program} {w : World} {A : Around} {E : Value → Shared → Prop} {s : Shared}
theorem call_setW {l : Addr} {items : Array Value} {xs : List Str} {Q : Value → Shared → Prop}
    (hh : A.handled = none) (hl : s.heap.IsList l items) (hi : PyProof.Rows.StrsAre items.toList xs) (hn1 : xs.length < 64)
    (h : ∀ (h' : Heap) (tk : Nat), h'.SetOf (mixKind prog w) s.heap.objs.size (kinW xs) (ddW xs).length →
      (∀ b o, b < s.heap.objs.size → s.heap.get? b = some o → h'.get? b = some o) → Q (.ref s.heap.objs.size) { s with heap := h', toks := tk }) :
    wpAny (model prog w) A (call (.type "set") [.ref l]) Q E s := by
  obtain ⟨c, tl, hmro⟩ := PySem.F.called_set.mro
  have hmade := PySem.F.called_set.made
  have hsub := PySem.F.called_set.sub
  refine wpAny_call (codeAny_of_tree ?_)
  show wpAny _ _ (callAny (.type "set") _) _ _ _
  refine wpAny_pure ⟨Code.quiet_builtin _ (by decide +kernel), codeAny_builtin PySem.F.entry_type_call ?_⟩
  rw [Around.under_plain (weight_type_call_type "set" [.ref l] []) rfl]
  have h1 := PySem.F.called_set.notType
  have h2 := PySem.F.called_set.canCreate
  have hct := PySem.F.typeCall_set_1 (.ref l)
  repeat (any_goals (first | assumption | wp_step))
  refine codeAny_mono (code_set_new_1 (.ref l) (E := E) (Q₁ := fun obj s₁ => ∃ led : Bool, obj = .ref s.heap.objs.size ∧ s₁ = { s with heap := s.heap.push { cls := .type "set", dict := none, data := .set #[] 0 (.fresh 0 0 led) } }) fun led => ⟨led, rfl, rfl⟩) fun r s₁ hr => ?_
  cases r with
  | error e => exact hr
  | ok fl =>
    cases fl with
    | ret obj =>
      obtain ⟨led, rfl, rfl⟩ := hr
      have hS : (s.heap.push { cls := .type "set", dict := none, data := .set #[] 0 (.fresh 0 0 led) }).get? s.heap.objs.size = some { cls := .type "set", dict := none, data := .set #[] 0 (.fresh 0 0 led) } := Heap.get?_push_size _ rfl
      have hT : Shared.TypeIs { s with heap := s.heap.push { cls := .type "set", dict := none, data := .set #[] 0 (.fresh 0 0 led) } } (.ref s.heap.objs.size) "set" := ⟨_, hS, rfl⟩
      have hli := PySem.F.called_set.init.lookup
      have hbi := PySem.F.called_set.init.bind (.ref s.heap.objs.size)
      repeat (any_goals (first | assumption | wp_step))
      refine codeAny_mono (codeAny_call_builtin (R := wants (fun r s₂ => r = .none ∧ ∃ h' tk, s₂ = { s with heap := h', toks := tk } ∧
          h'.SetOf (mixKind prog w) s.heap.objs.size (kinW xs) (ddW xs).length ∧
          (∀ b o, b < s.heap.objs.size → s.heap.get? b = some o → h'.get? b = some o)) E) PySem.F.called_set.init.plain PySem.F.entry_set_init (check_set_init_1 hT ?_)) fun r₂ s₂ hr₂ => ?_
      · obtain ⟨ol, hol, hcl, nl, hdl⟩ := hl
        obtain ⟨ocls, odict, odata, oslots⟩ := ol
        simp only at hcl hdl
        subst hcl; subst hdl
        have hol' : (s.heap.push { cls := .type "set", dict := none, data := .set #[] 0 (.fresh 0 0 led) }).get? l = some { cls := .type "list", dict := odict, data := .seq items nl, slots := oslots } := Heap.get?_push_of_some _ hol
        have hsls := PySem.F.sub_list_set
        have hslf := PySem.F.sub_list_frozenset
        have hne : (Value.type "list" == Value.type "dict") = false := by decide
        have hl1 : (s.heap.push { cls := .type "set", dict := none, data := .set #[] 0 (.fresh 0 0 led) }).IsList l items := ⟨_, hol', rfl, nl, rfl⟩
        unfold Builtin.«set.__init__» noKeywords Builtin.Frozenset.updateFrom
        generalize hPI : pyIter = PI
        wp_walk
        subst hPI
        refine wpAny_pyIter_list hl1 ?_
        refine wpAny_bind (wpAny_runValue ?_)
        have hlS : l < s.heap.objs.size := Heap.lt_size hol
        have hh3 : A.in1.in1.in1.handled = none := by simp [hh]
        have hneI : l ≠ (s.heap.push { cls := .type "set", dict := none, data := .set #[] 0 (.fresh 0 0 led) }).objs.size := by
          rw [Heap.size_push]; exact Nat.ne_of_lt (Nat.lt_succ_of_lt hlS)
        have hSf : s.heap.objs.size ∉ [(s.heap.push { cls := .type "set", dict := none, data := .set #[] 0 (.fresh 0 0 led) }).objs.size, l] := by
          rw [Heap.size_push]; simp only [List.mem_cons, List.mem_singleton, List.not_mem_nil, or_false, not_or]
          exact ⟨Nat.ne_of_lt (Nat.lt_succ_self _), Nat.ne_of_gt hlS⟩
        have hsz : xs.length = items.size := by rw [← StrsAre.len_eq hi, Array.length_toList]
        have hval : ∀ (i : Nat) (v : Value), items[i]? = some v → ∃ t, v = .str (xs.getD i Str.empty) t := fun i v hv => SS.strs_at hi i v (by rw [Array.getElem?_toList]; exact hv)
        have ea : xs.take items.size = xs := by rw [← hsz]; exact List.take_length
        refine loopW ((Walks.list hh3 _ l hneI items).toS) s.heap.objs.size
          hSf xs hsz (by rw [← hsz]; exact hn1) hval (items.size - 0) 0 _ (by omega) (Nat.zero_le _)
          ⟨⟨_, Heap.get?_push_size _ rfl, rfl, rfl⟩, (hl1.push _)⟩ ?hS0 ?hR
        case hS0 =>
          have hget : ((s.heap.push { cls := .type "set", dict := none, data := .set #[] 0 (.fresh 0 0 led) }).push { cls := .type "list_iterator", data := .fields #[.ref l, .int 0 0] }).get? s.heap.objs.size
              = some { cls := .type "set", dict := none, data := .set #[] 0 (.fresh 0 0 led) } := Heap.get?_push_of_some _ hS
          have e0 : kinW (xs.take 0) = fun _ => false := by rw [List.take_zero]; funext j; cases j <;> simp [kinW]
          rw [e0, List.take_zero]
          exact setK_led hget
        case hR =>
          intro s' hm hS'
          obtain ⟨h', g', d', tk', os'⟩ := s'
          have eg : g' = s.gens := hm.gens
          have ed : d' = s.drawn := hm.drawn
          have eo : os' = s.os := hm.os
          subst eg; subst ed; subst eo
          rw [ea] at hS'
          show wpAny _ _ _ _ _ _
          refine wpAny_pure ?_
          show wpAny _ _ (ret Value.none) _ _ _
          refine wpAny_pure ⟨rfl, h', tk', rfl, hS', fun b o hb e => ?_⟩
          have hb1 : b ≠ s.heap.objs.size := Nat.ne_of_lt hb
          have hb2 : b ≠ (s.heap.push { cls := .type "set", dict := none, data := .set #[] 0 (.fresh 0 0 led) }).objs.size := by
            rw [Heap.size_push]; exact Nat.ne_of_lt (Nat.lt_succ_of_lt hb)
          exact hm.heap b o (by simp only [List.mem_cons, List.mem_singleton, List.not_mem_nil, or_false, not_or]; exact ⟨hb1, hb2⟩) (Heap.get?_push_of_some _ (Heap.get?_push_of_some _ e))
      · cases r₂ with
        | error e => exact hr₂
        | ok fl₂ =>
          cases fl₂ with
          | ret r =>
            obtain ⟨rfl, h', tk, rfl, hS', hk'⟩ := hr₂
            repeat (any_goals (first | assumption | wp_step))
            exact h _ _ hS' hk'
          | _ => exact hr₂.elim
    | _ => exact hr.elim
end
section
variable {X : Cx} {W : WX} {K : PySem.W.Frag}
noncomputable def asStrs : D → Res (List Str)
  | .lst ds => match strsD ds with
    | some ns => if ns.length < 64 then .ok ns else .no
    | none => .no
  | _ => .no
noncomputable def rSetW (K : PySem.W.Frag) (P : Program) (w : World) : List V → Hp → VK → Prop := fun xs H Q => ∃ (p : Addr) (ns : List Str), xs = [.ref p] ∧ SqL K H p (ns.map V.str) ∧ ns.length < 64 ∧ ∀ q, H q = none → Q (.ref q) (upd H q (SetK P w q (kinW ns) (ddW ns).length))
theorem cr_setW (hc : X.calm = true) : CallR X (.type "set") (rSetW X.K X.prog X.w) := by
  intro pins s σ H xs us Q I r h
  obtain ⟨p, ns, rfl, hp, hl, q⟩ := h
  rw [Vals.ref1 r]
  obtain ⟨its, r2, pl, hz⟩ := I.list hp
  refine call_setW (xs := ns) (I.ok.hd hc) pl.isList (by simpa using strsAre_of r2) hl fun h' tk R keep => ?_
  exact ⟨.ref _, _, I.laid (t' := tk) (o := SetK X.prog X.w s.heap.objs.size (kinW ns) (ddW ns).length) (fun b o e => keep b o (Heap.lt_size e) e) (Nat.le_refl _) (setK_new R), rfl, q _ (I.hok.fresh (Nat.le_refl _))⟩
theorem csw_set (K : PySem.W.Frag) (hK : X.K = K) {a : Expr} {p pos : Pos} {t : TE} {f : DS → Res D} (hc : X.calm = true) (hm : X.mg "set" = none) (ha : CE X W a t f) (hg : Gl X "set" := by rfl) (hs : starEach [a] X.env = (false, eval a X.env) :: starEach [] X.env := by rfl) (hpl : (backTo pos (starEach [] X.env)).any (·.1) = false := by rfl) :
    CSW X W (.Call (.Name "set" p) [a] [] pos) (tCB (rSetW K X.prog X.w) (tCons t tNil)) (fun δ => (f δ).bind asStrs) := by
  subst hK
  refine ⟨pe_callTy (cr_setW hc) hg hm PyProof.Rows.boot_set (pa_cons ha.pe pa_nil hs) (by decide) (by decide) hs hpl, fun B0 H0 δ σ B H Q rel hp => ?_⟩
  refine ha.se B0 H0 δ σ B H _ rel ?_
  cases e : f δ with
  | no => rw [e] at hp; exact hp
  | er x => rw [e] at hp; exact hp
  | ok d =>
    rw [e, Res.bind_ok] at hp
    intro v B1 H1 g1 r1
    unfold asStrs at hp
    split at hp
    · split at hp
      · rename_i ns e2
        split at hp
        · rename_i hl
          cases r1 with
          | lst h1 q =>
            rw [strsD_of e2] at q
            have e3 := q.strs_of
            subst e3
            refine ⟨_, ns, rfl, g1.i.seq h1, hl, fun z hz => ?_⟩
            have := ddW_len ns
            exact hp z B1 _ (g1.trans (Grow.raw g1.i hz)) (g1.i.free hz) upd_same (by omega)
        · exact hp.elim
      · exact hp.elim
    · exact hp.elim
noncomputable def oInS (d e : D) : Res D := match d, e with
  | .v (.str i), .v (.str j) => .ok (.bl (!(Builtin.Str.occurrences j i 0 j.length 1).isEmpty))
  | _, _ => .no
theorem o_inS : OK2 X (compareOp .In) (fun x y H Q => ∃ i j, x = .str i ∧ y = .str j ∧ Q (.bl (!(Builtin.Str.occurrences j i 0 j.length 1).isEmpty)) H) oInS :=
  ⟨op_in_str, fun x y d e B H Q i rx ry h => by
    unfold oInS at h
    split at h
    · cases rx
      cases ry
      exact ⟨_, _, rfl, rfl, h _ B H (Grow.refl i) (.v _)⟩
    · exact h.elim, fun d e x => by unfold oInS; split <;> simp⟩
end
end DV
namespace DV
open PySem PySem.W PySem.F PySem.Calls L2
section
variable {X : Cx} {W : WX}
theorem cn_make0 (K : PySem.W.Frag) (hK : X.K = K) {k n : Nat} {c : Str} {C f : Addr} {fd : FuncData} {ps : List Str} {F : NK → List T → List D → MR} {dd : List D} {dvs : List V} {ds : List Value} {p pos : Pos}
    (kc : ClK K c C) (M : Mk K C f) (G : FnOk X.prog X.w K X.mg X.base (L2.CX X.prog X.w) k f fd ps (spM K n 0 F)) (hr : Room (k + 1) X.A) (hm : X.mg c = some (.ref C)) (hb : Binds K fd ps ds) (hd : Vals dvs ds) (hdd : ∀ B, RpA K B dvs dd) (tk : Takes X W)
    (hn : dd.length + 1 = n := by rfl) (hg : Gl X c := by rfl) (hdb : (c == ("__debug__" : Str)) = false := by decide) :
    CN X W (.Call (.Name c p) [] [] pos) (tMakeS C (spM K n 0 F) dvs (WE W) tNil) (cMake c F dd cNil) := by
  subst hK
  refine ⟨⟨fun pins s σ H Q I h => ?_⟩, sn_make kc.v (fun δ ds h => by cases h; simpa using hn) hdd ca_nil.sa⟩
  refine wpAny_Call_Name_kw (ld_glob I hg hm ?_ hdb)
  exact PySem.W.callWith_K0 I.kIn M.kp (run_makeSD M G hr hb hd (passAt tk σ) I .nil h)
end
end DV
namespace My
open PySem L2 DV
noncomputable abbrev g_multiplied_l1 : DS → Fl :=
  (cAug 1 oMulI (cVar 2))
noncomputable def g_multiplied : DS → Fl :=
  (cSeq (cAsg 1 (cC (.int 1)))
  (cSeq (cFor (cItems (cVar 0)) (bName 2) g_multiplied_l1)
  (cRet (cVar 1))))
noncomputable def F_multiplied : List D → Res D := defF 2 g_multiplied
noncomputable def g_look_sizes : DS → Fl :=
  (cSeq (cIf (cOrT (cNotT (cTest (cChain oLe oLe (cC (.int 1)) (cCall gLen (cCons (cVar 0) cNil)) (cC (.int 6))))) (cNotT (cTest (cCall gAll (cCons (cL (cLc [1] (cItems (cVar 0)) (bName 1) cYes (cChain oLe oLe (cC (.int 2)) (cVar 1) (cC (.int 4))))) cNil))))) (cRaise "BadSizes" (fd1 "word" "badsizes") cNil) cNext)
  (cIf (cTest (cBin oGt (cFn0 F_multiplied (cCons (cVar 0) cNil)) (cC (.int 300)))) (cRaise "BadSizes" (fd1 "word" "badsizes") cNil) cNext))
noncomputable def F_look_sizes : List D → Res D := defF 1 g_look_sizes
noncomputable def g_Tally_init : DS → Fl :=
  (cSeq (cDrop (cFn0 F_look_sizes (cCons (cVar 1) cNil)))
  (cSeq (cTfld 0 ["Tally"] "sizes" (cNim (cCall gTuple (cCons (cVar 1) cNil))))
  (cTfld 0 ["Tally"] "known" cNx0)))
noncomputable def F_Tally_init : NK → List T → List D → MR := defM 0 0 g_Tally_init
noncomputable def g_Tally_len : DS → Fl :=
  (cRet (cCall gLen (cCons (cL (cLc2 [1, 2] [2] (cKeysX (cFld ["Tally"] "known" (cVar 0))) (bName 1) cYes (cIt gRange1 (cCons (cBin oIxX (cFld ["Tally"] "known" (cVar 0)) (cVar 1)) cNil)) (bName 2) cYes (cVar 1))) cNil)))
noncomputable def F_Tally_len : List D → Res D := defF 2 g_Tally_len
noncomputable def g_Tally_rows : DS → Fl :=
  (cRet (cL (cLc [1] (cItems (cL (cSrt (cCall gListX (cCons (cFld ["Tally"] "known" (cVar 0)) cNil))))) (bName 1) cYes (cTup (cCons (cVar 1) (cCons (cBin oIxX (cFld ["Tally"] "known" (cVar 0)) (cVar 1)) cNil))))))
noncomputable def F_Tally_rows : List D → Res D := defF 1 g_Tally_rows
noncomputable def g_is_name : DS → Fl :=
  (cRet (cAndV (cChain oLe oLe (cC (.int 1)) (cCall gLen (cCons (cVar 0) cNil)) (cC (.int 8))) (cCall gAll (cCons (cL (cLc [1] (cItems (cVar 0)) (bName 1) cYes (cBin oInS (cVar 1) (cC (.str "abcdefghijklmnopqrstuvwxyz"))))) cNil))))
noncomputable def F_is_name : List D → Res D := defF 1 g_is_name
noncomputable def g_look_names : DS → Fl :=
  (cIf (cOrT (cNotT (cTest (cCall gAll (cCons (cL (cLc [1] (cItems (cVar 0)) (bName 1) cYes (cFn0 F_is_name (cCons (cVar 1) cNil)))) cNil)))) (cTest (cBin oNe (cLenW (cStrs (cLc [1] (cItems (cVar 0)) (bName 1) cYes (cVar 1)))) (cCall gLen (cCons (cVar 0) cNil))))) (cRaise "BadName" (fd1 "word" "badname") cNil) cNext)
noncomputable def F_look_names : List D → Res D := defF 1 g_look_names
noncomputable def g_Reckoned_init : DS → Fl :=
  (cSeq (cTfld 0 ["Reckoned"] "worths_told" cNx0)
  (cTfld 0 ["Reckoned"] "many_told" (cNim (cC (.int 0)))))
noncomputable def F_Reckoned_init : NK → List T → List D → MR := defM 0 0 g_Reckoned_init
noncomputable abbrev g_Book_init_l1 : DS → Fl :=
  (cSeq (cDrop (cFn0 F_look_names (cCons (cL (cCons (cVar 2) cNil)) cNil)))
  (cDrop (cFn0 F_look_names (cCons (cCall gList (cCons (cVar 3) cNil)) cNil))))
noncomputable def g_Book_init : DS → Fl :=
  (cSeq (cFor (cItems (cVar 1)) (bTup 2 (bCons (bName 2) (bCons (bName 3) bNil))) g_Book_init_l1)
  (cSeq (cDrop (cFn0 F_look_names (cCons (cL (cLc [2, 3] (cItems (cVar 1)) (bTup 2 (bCons (bName 2) (bCons (bName 3) bNil))) cYes (cVar 2))) cNil)))
  (cSeq (cTfld 0 ["Book"] "names_told" (cNim (cCall gTuple (cCons (cL (cLc [2, 3] (cItems (cVar 1)) (bTup 2 (bCons (bName 2) (bCons (bName 3) bNil))) cYes (cTup (cCons (cVar 2) (cCons (cCall gTuple (cCons (cVar 3) cNil)) cNil))))) cNil))))
  (cSeq (cTfld 0 ["Book"] "rows_told" (cMake "Tally" F_Tally_init [] (cCons (cCall gTuple (cCons (cL (cLc [2, 3] (cItems (cVar 1)) (bTup 2 (bCons (bName 2) (bCons (bName 3) bNil))) cYes (cCall gLen (cCons (cVar 3) cNil)))) cNil)) cNil)))
  (cSeq (cTfld 0 ["Book"] "musts" (cNim (cTup cNil)))
  (cSeq (cTfld 0 ["Book"] "nevers" (cNim (cTup cNil)))
  (cSeq (cTfld 0 ["Book"] "at_most" (cNim (cC .non)))
  (cSeq (cTfld 0 ["Book"] "done" (cNl cNil))
  (cSeq (cTfld 0 ["Book"] "past" (cNl cNil))
  (cSeq (cTfld 0 ["Book"] "gone" (cNl cNil))
  (cTfld 0 ["Book"] "reckoner" (cMake "Reckoned" F_Reckoned_init [] cNil))))))))))))
noncomputable def F_Book_init : NK → List T → List D → MR := defM 2 0 g_Book_init
noncomputable def g_Book_len : DS → Fl :=
  (cRet (cLenO "Tally" F_Tally_len (cFld ["Book"] "rows_told" (cVar 0))))
noncomputable def F_Book_len : List D → Res D := defF 0 g_Book_len
noncomputable def g_Book_face : DS → Fl :=
  (cRet (cTup (cCons (cMth "Tally" "rows" F_Tally_rows [] (cFld ["Book"] "rows_told" (cVar 0)) cNil) (cCons (cFld ["Book"] "musts" (cVar 0)) (cCons (cFld ["Book"] "nevers" (cVar 0)) (cCons (cFld ["Book"] "at_most" (cVar 0)) cNil))))))
noncomputable def F_Book_face : List D → Res D := defF 0 g_Book_face
noncomputable def g_Book_eq : DS → Fl :=
  (cSeq (cIf (cNotT (cTest (cIsO "Book" (cVar 1)))) (cRet (cC (.bl false))) cNext)
  (cRet (cAndV (cBin oEq (cFld ["Book"] "names_told" (cVar 0)) (cFld ["Book"] "names_told" (cVar 1))) (cBin oEq (cMth "Book" "face" F_Book_face [] (cVar 0) cNil) (cMth "Book" "face" F_Book_face [] (cVar 1) cNil)))))
noncomputable def F_Book_eq : List D → Res D := defF 0 g_Book_eq
noncomputable def g_Book_columns : DS → Fl :=
  (cRet (cCall gList (cCons (cFld ["Book"] "names_told" (cVar 0)) cNil)))
noncomputable def F_Book_columns : List D → Res D := defF 0 g_Book_columns
noncomputable abbrev g__law_draws_l1 : DS → Fl :=
  (cSeq (cApp 5 (cBin oMod (cVar 0) (cVar 6)))
  (cAsg 0 (cBin oFdiv (cVar 0) (cVar 6))))
noncomputable def g__law_draws : DS → Fl :=
  (cSeq (cIf (cTest (cBin oLt (cCall gAbs (cCons (cVar 0) cNil)) (cBin oPow (cC (.int 10)) (cC (.int 18))))) (cSeq (cAsg 2 (cBin oMod (cBin oAdd (cBin oMul2 (cVar 0) (cC (.int 48271))) (cC (.int 11))) (cC (.int 2147483647))))
  (cSeq (cAsg 3 (cBin oMod (cBin oAdd (cBin oAdd (cBin oMul2 (cVar 2) (cVar 2)) (cBin oMul2 (cC (.int 40692)) (cVar 2))) (cVar 0)) (cC (.int 2147483399))))
  (cSeq (cAsg 4 (cBin oMod (cBin oAdd (cBin oMul2 (cVar 3) (cC (.int 16807))) (cVar 2)) (cC (.int 1000000007))))
  (cAsg 0 (cBin oAdd (cVar 3) (cBin oMul2 (cC (.int 2147483399)) (cBin oAdd (cVar 4) (cBin oMul2 (cC (.int 1000000007)) (cVar 2))))))))) (cAsg 0 (cBin oSub (cCall gAbs (cCons (cVar 0) cNil)) (cBin oPow (cC (.int 10)) (cC (.int 18))))))
  (cSeq (cOwn 5 cNil)
  (cSeq (cFor (cItems (cVar 1)) (bName 6) g__law_draws_l1)
  (cFz 5 (cRet (cVar 5))))))
noncomputable def F__law_draws : List D → Res D := defF 5 g__law_draws
noncomputable def g__law_same (rec : List D → Res D) : DS → Fl :=
  (cSeq (cIf (cTest (cBin (oIsN false) (cVar 1) (cC .non))) (cRet (cBin (oIsN false) (cVar 0) (cC .non))) cNext)
  (cSeq (cIf (cTest (cCall gIsi (cCons (cVar 1) (cCons (cC (.v (.ty "str"))) cNil)))) (cRet (cAndV (cCall gIsi (cCons (cVar 0) (cCons (cC (.v (.ty "str"))) cNil))) (cBin oEq (cVar 0) (cVar 1)))) cNext)
  (cSeq (cIf (cTest (cCall gIsi (cCons (cVar 1) (cCons (cC (.v (.ty "int"))) cNil)))) (cRet (cAndV (cCall gIsi (cCons (cVar 0) (cCons (cC (.v (.ty "int"))) cNil))) (cAndV (cBin oEq (cCall gIsi (cCons (cVar 0) (cCons (cC (.v (.ty "bool"))) cNil))) (cCall gIsi (cCons (cVar 1) (cCons (cC (.v (.ty "bool"))) cNil)))) (cBin oEq (cVar 0) (cVar 1))))) cNext)
  (cSeq (cIf (cOrT (cTest (cBin oNe (cCall gIsi (cCons (cVar 1) (cCons (cC (.v (.ty "list"))) cNil))) (cCall gIsi (cCons (cVar 0) (cCons (cC (.v (.ty "list"))) cNil))))) (cTest (cBin oNe (cCall gIsi (cCons (cVar 1) (cCons (cC (.v (.ty "tuple"))) cNil))) (cCall gIsi (cCons (cVar 0) (cCons (cC (.v (.ty "tuple"))) cNil)))))) (cRet (cC (.bl false))) cNext)
  (cRet (cAndV (cBin oEq (cCall gLen (cCons (cVar 0) cNil)) (cCall gLen (cCons (cVar 1) cNil))) (cCall gAll (cCons (cL (cLc [2] (cIt gRange1 (cCons (cCall gLen (cCons (cVar 1) cNil)) cNil)) (bName 2) cYes (cFn0 rec (cCons (cBin oIx (cVar 0) (cVar 2)) (cCons (cBin oIx (cVar 1) (cVar 2)) cNil))))) cNil))))))))
noncomputable def F__law_same : Nat → List D → Res D
  | 0 => fun _ => .no
  | n + 1 => defF 1 (g__law_same (F__law_same n))
noncomputable def g__law_good_names : DS → Fl :=
  (cSeq (cAsg 1 (cC (.str "abcdefghijklmnopqrstuvwxyz")))
  (cSeq (cIf (cTest (cBin oNe (cLenW (fun δ => ((cVar 0) δ).bind asStrs)) (cCall gLen (cCons (cVar 0) cNil)))) (cRet (cC (.bl false))) cNext)
  (cRet (cCall gAll (cCons (cL (cLc [2] (cItems (cVar 0)) (bName 2) cYes (cAndV (cChain oLe oLe (cC (.int 1)) (cCall gLen (cCons (cVar 2) cNil)) (cC (.int 8))) (cCall gAll (cCons (cL (cLc [3] (cItems (cVar 2)) (bName 3) cYes (cBin oInS (cVar 3) (cVar 1)))) cNil))))) cNil)))))
noncomputable def F__law_good_names : List D → Res D := defF 3 g__law_good_names
noncomputable abbrev g__law_word_due_l1 : DS → Fl :=
  (cAsg 1 (cBin oMul2 (cVar 1) (cCall gLen (cCons (cVar 3) cNil))))
noncomputable def g__law_word_due : DS → Fl :=
  (cSeq (cIf (cNotT (cTest (cCall gAll (cCons (cL (cLc [2, 3] (cItems (cVar 0)) (bTup 2 (bCons (bName 2) (bCons (bName 3) bNil))) cYes (cAndV (cFn0 F__law_good_names (cCons (cL (cCons (cVar 2) cNil)) cNil)) (cFn0 F__law_good_names (cCons (cCall gList (cCons (cVar 3) cNil)) cNil))))) cNil)))) (cRet (cC (.str "badname"))) cNext)
  (cSeq (cIf (cNotT (cTest (cFn0 F__law_good_names (cCons (cL (cLc [2, 3] (cItems (cVar 0)) (bTup 2 (bCons (bName 2) (bCons (bName 3) bNil))) cYes (cVar 2))) cNil)))) (cRet (cC (.str "badname"))) cNext)
  (cSeq (cAsg 1 (cC (.int 1)))
  (cSeq (cFor (cItems (cVar 0)) (bTup 2 (bCons (bName 2) (bCons (bName 3) bNil))) g__law_word_due_l1)
  (cSeq (cAsg 4 (cAndV (cChain oLe oLe (cC (.int 1)) (cCall gLen (cCons (cVar 0) cNil)) (cC (.int 6))) (cAndV (cCall gAll (cCons (cL (cLc [2, 3] (cItems (cVar 0)) (bTup 2 (bCons (bName 2) (bCons (bName 3) bNil))) cYes (cChain oLe oLe (cC (.int 2)) (cCall gLen (cCons (cVar 3) cNil)) (cC (.int 4))))) cNil)) (cBin oLe (cVar 1) (cC (.int 300))))))
  (cRet (cIfE (cTest (cVar 4)) (cC (.str "")) (cC (.str "badsizes")))))))))
noncomputable def F__law_word_due : List D → Res D := defF 4 g__law_word_due
noncomputable abbrev g_law_l1 : DS → Fl :=
  (cSeq (cAsg 5 (cBin oIx (cL (cCons (cC (.int 2)) (cCons (cC (.int 2)) (cCons (cC (.int 3)) (cCons (cC (.int 4)) (cCons (cC (.int 2)) cNil)))))) (cBin oIx (cVar 2) (cBin oAdd (cC (.int 1)) (cVar 4)))))
  (cApp 3 (cTup (cCons (cBin oAdd (cSl (cC (.str "column")) cNone (cSome (cBin oAdd (cC (.int 1)) (cBin oMod (cVar 4) (cC (.int 6)))))) (cBin oIx (cC (.str "abcdefg")) (cVar 4))) (cCons (cCall gTuple (cCons (cSl (cL (cCons (cC (.str "no")) (cCons (cC (.str "yes")) (cCons (cC (.str "maybe")) (cCons (cC (.str "never")) cNil))))) cNone (cSome (cVar 5))) cNil)) cNil)))))
noncomputable abbrev g_law_l2 : DS → Fl :=
  (cSeq (cAsg 2 (cFn0 F__law_draws (cCons (cVar 1) (cCons (cL (cCons (cC (.int 8)) (cCons (cC (.int 5)) (cCons (cC (.int 5)) (cCons (cC (.int 5)) (cCons (cC (.int 5)) (cCons (cC (.int 5)) (cCons (cC (.int 5)) (cCons (cC (.int 5)) (cCons (cC (.int 8)) (cCons (cC (.int 9)) (cCons (cC (.int 3)) cNil)))))))))))) cNil))))
  (cSeq (cOwn 3 cNil)
  (cSeq (cFor (cIt gRange1 (cCons (cBin oIx (cVar 2) (cC (.int 0))) cNil)) (bName 4) g_law_l1)
  (cSeq (cAsg 6 (cLookL 3 (cBin oIx (cL (cCons (cC (.str "abcdefghi")) (cCons (cC (.str "")) (cCons (cC (.str "Ab")) (cCons (cC (.str "a1")) (cCons (cC (.str "abcdefgh")) (cCons (cC (.str "no")) (cCons (cC (.str "a b")) (cCons (cIfE (cTest (cBin oNeNil (cVar 3) (cL cNil))) (cBin oIx (cBin oIx (cVar 3) (cC (.int 0))) (cC (.int 0))) (cC (.str "x"))) cNil))))))))) (cBin oIx (cVar 2) (cC (.int 8))))))
  (cSeq (cIf (cLookT 3 (cTest (cBin oNeNil (cVar 3) (cL cNil)))) (cSeq (cAsg 7 (cLookL 3 (cBin oMod (cBin oIx (cVar 2) (cC (.int 9))) (cCall gLen (cCons (cVar 3) cNil)))))
  (cSeq (cIf (cTest (cBin oEq (cBin oIx (cVar 2) (cC (.int 10))) (cC (.int 0)))) (cPut 3 (cVar 7) (cLookL 3 (cTup (cCons (cVar 6) (cCons (cBin oIx (cBin oIx (cVar 3) (cVar 7)) (cC (.int 1))) cNil))))) cNext)
  (cSeq (cIf (cTest (cBin oEq (cBin oIx (cVar 2) (cC (.int 9))) (cC (.int 7)))) (cPut 3 (cVar 7) (cLookL 3 (cTup (cCons (cBin oIx (cBin oIx (cVar 3) (cVar 7)) (cC (.int 0))) (cCons (cSl (cBin oIx (cBin oIx (cVar 3) (cVar 7)) (cC (.int 1))) cNone (cSome (cC (.int 1)))) cNil))))) cNext)
  (cIf (cTest (cBin oEq (cBin oIx (cVar 2) (cC (.int 9))) (cC (.int 8)))) (cPut 3 (cVar 7) (cLookL 3 (cTup (cCons (cBin oIx (cBin oIx (cVar 3) (cVar 7)) (cC (.int 0))) (cCons (cBin oAdd (cBin oIx (cBin oIx (cVar 3) (cVar 7)) (cC (.int 1))) (cTup (cCons (cVar 6) (cCons (cC (.str "more")) (cCons (cC (.str "most")) cNil))))) cNil))))) cNext)))) cNext)
  (cSeq (cFz 3 (cAsg 8 (cC (.str ""))))
  (cSeq (cOwn 9 (cListOf (cVar 3)))
  (cSeq (cAsg 10 (cC .non))
  (cSeq (cTry (cAsg 10 (cNd (lookN 9 (cMake "Book" F_Book_init [] (cCons (cIfE (cTest (cBin oGt (cBin oIx (cVar 2) (cC (.int 1))) (cC (.int 0)))) (cVar 9) (cCall gTuple (cCons (cVar 9) cNil))) cNil))))) ((tabP [("BadSizes", true), ("BadRow", false), ("BadMany", false), ("BadDeed", false), ("Same", false), ("Taken", false), ("Full", false), ("BadName", true), ("Ring", false), ("NoRows", false), ("NoColumn", false), ("NotBound", false)], 11, (fun x => cAsg 8 ((fun x _ => fldR "word" x) x))) :: []))
  (cSeq (cIf (cTest (cBin oNe (cVar 8) (cFn0 F__law_word_due (cCons (cVar 3) cNil)))) (cRet (cC (.bl false))) cNext)
  (cIf (cTest (cBin oEq (cVar 8) (cC (.str "")))) (cSeq (cApp 9 (cTup (cCons (cC (.str "late")) (cCons (cTup (cCons (cC (.str "no")) (cCons (cC (.str "yes")) cNil))) cNil))))
  (cSeq (cIf (cOrT (cNotT (cTest (cFn0 (F__law_same 6) (cCons (cMth "Book" "columns" F_Book_columns [] (cVar 10) cNil) (cCons (cVar 3) cNil))))) (cOrT (cTest (cBin oNe (cLenO "Book" F_Book_len (cVar 10)) (cC (.int 0)))) (cNotT (cTest (cEqO "Book" F_Book_eq (cVar 10) (cNd (cMake "Book" F_Book_init [] (cCons (cVar 3) cNil)))))))) (cRet (cC (.bl false))) cNext)
  (cSeq (cOwn 12 (cCons (cBin oAdd (cL (cCons (cTup (cCons (cC (.str "late")) (cCons (cBin oIx (cBin oIx (cVar 3) (cC (.int 0))) (cC (.int 1))) cNil))) cNil)) (cSl (cVar 3) (cSome (cC (.int 1))) cNone)) (cCons (cBin oAdd (cL (cCons (cTup (cCons (cBin oIx (cBin oIx (cVar 3) (cC (.int 0))) (cC (.int 0))) (cCons (cUn oRev (cBin oIx (cBin oIx (cVar 3) (cC (.int 0))) (cC (.int 1)))) cNil))) cNil)) (cSl (cVar 3) (cSome (cC (.int 1))) cNone)) cNil)))
  (cSeq (cApp 12 (cBin oAdd (cL (cCons (cTup (cCons (cBin oIx (cBin oIx (cVar 3) (cC (.int 0))) (cC (.int 0))) (cCons (cBin oAdd (cTup (cCons (cC (.str "w")) cNil)) (cSl (cBin oIx (cBin oIx (cVar 3) (cC (.int 0))) (cC (.int 1))) (cSome (cC (.int 1))) cNone)) cNil))) cNil)) (cSl (cVar 3) (cSome (cC (.int 1))) cNone)))
  (cIf (cLookT 12 (cTest (cCall gAny (cCons (cL (cLc [13] (cItems (cVar 12)) (bName 13) cYes (cOrV (cEqO "Book" F_Book_eq (cVar 10) (cNd (cMake "Book" F_Book_init [] (cCons (cVar 13) cNil)))) (cEqO "Book" F_Book_eq (cNd (cMake "Book" F_Book_init [] (cCons (cVar 13) cNil))) (cVar 10))))) cNil)))) (cRet (cC (.bl false))) cNext))))) cNext)))))))))))
noncomputable def g_law : DS → Fl :=
  (cSeq (cAsg 0 (cSl (cVar 0) cNone (cSome (cC (.int 63)))))
  (cSeq (cFor (cItems (cBin oAdd (cVar 0) (cL (cCons (cC (.int 0)) (cCons (cC (.int 1)) (cCons (cC (.int 2)) cNil)))))) (bName 1) g_law_l2)
  (cRet (cC (.bl true)))))
noncomputable def F_law : List D → Res D := defF 13 g_law
end My
namespace My
open PySem L2 DV
noncomputable def top (i : Nat) : Stmt := PySem.Challenge.pw_tallyloom_k53_books_of_columns_refused.main.body.getD i (.Pass ⟨0, 0, 0, 0⟩)
noncomputable abbrev s_multiplied : Stmt := top 20
noncomputable abbrev s_look_sizes : Stmt := top 21
noncomputable abbrev s_Tally_init : Stmt := inCls (top 29) 0
noncomputable abbrev s_Tally_len : Stmt := inCls (top 29) 1
noncomputable abbrev s_Tally_rows : Stmt := inCls (top 29) 8
noncomputable abbrev s_is_name : Stmt := top 33
noncomputable abbrev s_look_names : Stmt := top 34
noncomputable abbrev s_Reckoned_init : Stmt := inCls (top 37) 0
noncomputable abbrev s_Book_init : Stmt := inCls (top 38) 0
noncomputable abbrev s_Book_len : Stmt := inCls (top 38) 1
noncomputable abbrev s_Book_face : Stmt := inCls (top 38) 5
noncomputable abbrev s_Book_eq : Stmt := inCls (top 38) 2
noncomputable abbrev s_Book_columns : Stmt := inCls (top 38) 27
noncomputable abbrev s__law_draws : Stmt := top 40
noncomputable abbrev s__law_same : Stmt := top 41
noncomputable abbrev s__law_good_names : Stmt := top 42
noncomputable abbrev s__law_word_due : Stmt := top 43
noncomputable abbrev s_law : Stmt := top 44
noncomputable abbrev si_BadSizes : Stmt := inCls (top 4) 0
noncomputable abbrev si_BadRow : Stmt := inCls (top 5) 0
noncomputable abbrev si_BadMany : Stmt := inCls (top 6) 0
noncomputable abbrev si_BadDeed : Stmt := inCls (top 7) 0
noncomputable abbrev si_Same : Stmt := inCls (top 8) 0
noncomputable abbrev si_Taken : Stmt := inCls (top 9) 0
noncomputable abbrev si_Full : Stmt := inCls (top 10) 0
noncomputable abbrev si_BadName : Stmt := inCls (top 11) 0
noncomputable abbrev si_Ring : Stmt := inCls (top 12) 0
noncomputable abbrev si_NoRows : Stmt := inCls (top 13) 0
noncomputable abbrev si_NoColumn : Stmt := inCls (top 14) 0
noncomputable abbrev si_NotBound : Stmt := inCls (top 15) 0
set_option genInjectivity false in set_option genSizeOf false in
structure Ads where
  c_BadSizes : Addr
  i_BadSizes : Addr
  di_BadSizes : FuncData
  c_BadRow : Addr
  i_BadRow : Addr
  di_BadRow : FuncData
  c_BadMany : Addr
  i_BadMany : Addr
  di_BadMany : FuncData
  c_BadDeed : Addr
  i_BadDeed : Addr
  di_BadDeed : FuncData
  c_Same : Addr
  i_Same : Addr
  di_Same : FuncData
  c_Taken : Addr
  i_Taken : Addr
  di_Taken : FuncData
  c_Full : Addr
  i_Full : Addr
  di_Full : FuncData
  c_BadName : Addr
  i_BadName : Addr
  di_BadName : FuncData
  c_Ring : Addr
  i_Ring : Addr
  di_Ring : FuncData
  c_NoRows : Addr
  i_NoRows : Addr
  di_NoRows : FuncData
  c_NoColumn : Addr
  i_NoColumn : Addr
  di_NoColumn : FuncData
  c_NotBound : Addr
  i_NotBound : Addr
  di_NotBound : FuncData
  C_Book : Addr
  C_Reckoned : Addr
  C_Tally : Addr
  f_multiplied : Addr
  d_multiplied : FuncData
  f_look_sizes : Addr
  d_look_sizes : FuncData
  f_Tally_init : Addr
  d_Tally_init : FuncData
  f_Tally_len : Addr
  d_Tally_len : FuncData
  f_Tally_rows : Addr
  d_Tally_rows : FuncData
  f_is_name : Addr
  d_is_name : FuncData
  f_look_names : Addr
  d_look_names : FuncData
  f_Reckoned_init : Addr
  d_Reckoned_init : FuncData
  f_Book_init : Addr
  d_Book_init : FuncData
  f_Book_len : Addr
  d_Book_len : FuncData
  f_Book_face : Addr
  d_Book_face : FuncData
  f_Book_eq : Addr
  d_Book_eq : FuncData
  f_Book_columns : Addr
  d_Book_columns : FuncData
  f__law_draws : Addr
  d__law_draws : FuncData
  f__law_same : Addr
  d__law_same : FuncData
  f__law_good_names : Addr
  d__law_good_names : FuncData
  f__law_word_due : Addr
  d__law_word_due : FuncData
  f_law : Addr
  d_law : FuncData
  v_LONGEST : V
  u_LONGEST : Value
  v_MOST_COLUMNS : V
  u_MOST_COLUMNS : Value
  v_MOST_ROWS : V
  u_MOST_ROWS : Value
  v_MOST_SIZE : V
  u_MOST_SIZE : Value
  v_SMALL : V
  u_SMALL : Value
set_option genInjectivity false in set_option genSizeOf false in
structure Txt (K : PySem.W.Frag) (mg : Str → Option Value) (a : Ads) : Prop where
  X_BadSizes : ExK K mg "BadSizes" a.c_BadSizes a.i_BadSizes
  IF_BadSizes : Fun K "__init__" "BadSizes.__init__" si_BadSizes a.i_BadSizes a.di_BadSizes
  ib_BadSizes : Binds K a.di_BadSizes ["self"] []
  xc_BadSizes : XcK K (.ref a.c_BadSizes)
  X_BadRow : ExK K mg "BadRow" a.c_BadRow a.i_BadRow
  IF_BadRow : Fun K "__init__" "BadRow.__init__" si_BadRow a.i_BadRow a.di_BadRow
  ib_BadRow : Binds K a.di_BadRow ["self"] []
  xc_BadRow : XcK K (.ref a.c_BadRow)
  X_BadMany : ExK K mg "BadMany" a.c_BadMany a.i_BadMany
  IF_BadMany : Fun K "__init__" "BadMany.__init__" si_BadMany a.i_BadMany a.di_BadMany
  ib_BadMany : Binds K a.di_BadMany ["self"] []
  xc_BadMany : XcK K (.ref a.c_BadMany)
  X_BadDeed : ExK K mg "BadDeed" a.c_BadDeed a.i_BadDeed
  IF_BadDeed : Fun K "__init__" "BadDeed.__init__" si_BadDeed a.i_BadDeed a.di_BadDeed
  ib_BadDeed : Binds K a.di_BadDeed ["self"] []
  xc_BadDeed : XcK K (.ref a.c_BadDeed)
  X_Same : ExK K mg "Same" a.c_Same a.i_Same
  IF_Same : Fun K "__init__" "Same.__init__" si_Same a.i_Same a.di_Same
  ib_Same : Binds K a.di_Same ["self"] []
  xc_Same : XcK K (.ref a.c_Same)
  X_Taken : ExK K mg "Taken" a.c_Taken a.i_Taken
  IF_Taken : Fun K "__init__" "Taken.__init__" si_Taken a.i_Taken a.di_Taken
  ib_Taken : Binds K a.di_Taken ["self"] []
  xc_Taken : XcK K (.ref a.c_Taken)
  X_Full : ExK K mg "Full" a.c_Full a.i_Full
  IF_Full : Fun K "__init__" "Full.__init__" si_Full a.i_Full a.di_Full
  ib_Full : Binds K a.di_Full ["self"] []
  xc_Full : XcK K (.ref a.c_Full)
  X_BadName : ExK K mg "BadName" a.c_BadName a.i_BadName
  IF_BadName : Fun K "__init__" "BadName.__init__" si_BadName a.i_BadName a.di_BadName
  ib_BadName : Binds K a.di_BadName ["self"] []
  xc_BadName : XcK K (.ref a.c_BadName)
  X_Ring : ExK K mg "Ring" a.c_Ring a.i_Ring
  IF_Ring : Fun K "__init__" "Ring.__init__" si_Ring a.i_Ring a.di_Ring
  ib_Ring : Binds K a.di_Ring ["self", "ring"] []
  xc_Ring : XcK K (.ref a.c_Ring)
  X_NoRows : ExK K mg "NoRows" a.c_NoRows a.i_NoRows
  IF_NoRows : Fun K "__init__" "NoRows.__init__" si_NoRows a.i_NoRows a.di_NoRows
  ib_NoRows : Binds K a.di_NoRows ["self", "there"] []
  xc_NoRows : XcK K (.ref a.c_NoRows)
  X_NoColumn : ExK K mg "NoColumn" a.c_NoColumn a.i_NoColumn
  IF_NoColumn : Fun K "__init__" "NoColumn.__init__" si_NoColumn a.i_NoColumn a.di_NoColumn
  ib_NoColumn : Binds K a.di_NoColumn ["self", "name"] []
  xc_NoColumn : XcK K (.ref a.c_NoColumn)
  X_NotBound : ExK K mg "NotBound" a.c_NotBound a.i_NotBound
  IF_NotBound : Fun K "__init__" "NotBound.__init__" si_NotBound a.i_NotBound a.di_NotBound
  ib_NotBound : Binds K a.di_NotBound ["self"] []
  xc_NotBound : XcK K (.ref a.c_NotBound)
  hm_BadName : mg "BadName" = some (.ref a.c_BadName)
  hm_BadSizes : mg "BadSizes" = some (.ref a.c_BadSizes)
  ex_BadSizes_BadName : PySem.W.exmOne K (.ref a.c_BadSizes) (.ref a.c_BadName) = some false
  ex_BadSizes_BadSizes : PySem.W.exmOne K (.ref a.c_BadSizes) (.ref a.c_BadSizes) = some true
  ex_BadRow_BadName : PySem.W.exmOne K (.ref a.c_BadRow) (.ref a.c_BadName) = some false
  ex_BadRow_BadSizes : PySem.W.exmOne K (.ref a.c_BadRow) (.ref a.c_BadSizes) = some false
  ex_BadMany_BadName : PySem.W.exmOne K (.ref a.c_BadMany) (.ref a.c_BadName) = some false
  ex_BadMany_BadSizes : PySem.W.exmOne K (.ref a.c_BadMany) (.ref a.c_BadSizes) = some false
  ex_BadDeed_BadName : PySem.W.exmOne K (.ref a.c_BadDeed) (.ref a.c_BadName) = some false
  ex_BadDeed_BadSizes : PySem.W.exmOne K (.ref a.c_BadDeed) (.ref a.c_BadSizes) = some false
  ex_Same_BadName : PySem.W.exmOne K (.ref a.c_Same) (.ref a.c_BadName) = some false
  ex_Same_BadSizes : PySem.W.exmOne K (.ref a.c_Same) (.ref a.c_BadSizes) = some false
  ex_Taken_BadName : PySem.W.exmOne K (.ref a.c_Taken) (.ref a.c_BadName) = some false
  ex_Taken_BadSizes : PySem.W.exmOne K (.ref a.c_Taken) (.ref a.c_BadSizes) = some false
  ex_Full_BadName : PySem.W.exmOne K (.ref a.c_Full) (.ref a.c_BadName) = some false
  ex_Full_BadSizes : PySem.W.exmOne K (.ref a.c_Full) (.ref a.c_BadSizes) = some false
  ex_BadName_BadName : PySem.W.exmOne K (.ref a.c_BadName) (.ref a.c_BadName) = some true
  ex_BadName_BadSizes : PySem.W.exmOne K (.ref a.c_BadName) (.ref a.c_BadSizes) = some false
  ex_Ring_BadName : PySem.W.exmOne K (.ref a.c_Ring) (.ref a.c_BadName) = some false
  ex_Ring_BadSizes : PySem.W.exmOne K (.ref a.c_Ring) (.ref a.c_BadSizes) = some false
  ex_NoRows_BadName : PySem.W.exmOne K (.ref a.c_NoRows) (.ref a.c_BadName) = some false
  ex_NoRows_BadSizes : PySem.W.exmOne K (.ref a.c_NoRows) (.ref a.c_BadSizes) = some false
  ex_NoColumn_BadName : PySem.W.exmOne K (.ref a.c_NoColumn) (.ref a.c_BadName) = some false
  ex_NoColumn_BadSizes : PySem.W.exmOne K (.ref a.c_NoColumn) (.ref a.c_BadSizes) = some false
  ex_NotBound_BadName : PySem.W.exmOne K (.ref a.c_NotBound) (.ref a.c_BadName) = some false
  ex_NotBound_BadSizes : PySem.W.exmOne K (.ref a.c_NotBound) (.ref a.c_BadSizes) = some false
  F_multiplied : Fun K "multiplied" "multiplied" s_multiplied a.f_multiplied a.d_multiplied
  g_multiplied : mg "multiplied" = some (.ref a.f_multiplied)
  k_multiplied : PySem.W.keepIn K (.ref a.f_multiplied) = true
  bd_multiplied : Binds K a.d_multiplied ["sizes"] []
  F_look_sizes : Fun K "look_sizes" "look_sizes" s_look_sizes a.f_look_sizes a.d_look_sizes
  g_look_sizes : mg "look_sizes" = some (.ref a.f_look_sizes)
  k_look_sizes : PySem.W.keepIn K (.ref a.f_look_sizes) = true
  bd_look_sizes : Binds K a.d_look_sizes ["sizes"] []
  F_Tally_init : Fun K "__init__" "Tally.__init__" s_Tally_init a.f_Tally_init a.d_Tally_init
  M_Tally_init : Meth K a.C_Tally "__init__" a.f_Tally_init
  bd_Tally_init : Binds K a.d_Tally_init ["self", "sizes"] []
  F_Tally_len : Fun K "__len__" "Tally.__len__" s_Tally_len a.f_Tally_len a.d_Tally_len
  M_Tally_len : Meth K a.C_Tally "__len__" a.f_Tally_len
  bd_Tally_len : Binds K a.d_Tally_len ["self"] []
  F_Tally_rows : Fun K "rows" "Tally.rows" s_Tally_rows a.f_Tally_rows a.d_Tally_rows
  M_Tally_rows : Meth K a.C_Tally "rows" a.f_Tally_rows
  bd_Tally_rows : Binds K a.d_Tally_rows ["self"] []
  F_is_name : Fun K "is_name" "is_name" s_is_name a.f_is_name a.d_is_name
  g_is_name : mg "is_name" = some (.ref a.f_is_name)
  k_is_name : PySem.W.keepIn K (.ref a.f_is_name) = true
  bd_is_name : Binds K a.d_is_name ["text"] []
  F_look_names : Fun K "look_names" "look_names" s_look_names a.f_look_names a.d_look_names
  g_look_names : mg "look_names" = some (.ref a.f_look_names)
  k_look_names : PySem.W.keepIn K (.ref a.f_look_names) = true
  bd_look_names : Binds K a.d_look_names ["names"] []
  F_Reckoned_init : Fun K "__init__" "Reckoned.__init__" s_Reckoned_init a.f_Reckoned_init a.d_Reckoned_init
  M_Reckoned_init : Meth K a.C_Reckoned "__init__" a.f_Reckoned_init
  bd_Reckoned_init : Binds K a.d_Reckoned_init ["self"] []
  F_Book_init : Fun K "__init__" "Book.__init__" s_Book_init a.f_Book_init a.d_Book_init
  M_Book_init : Meth K a.C_Book "__init__" a.f_Book_init
  bd_Book_init : Binds K a.d_Book_init ["self", "columns"] []
  F_Book_len : Fun K "__len__" "Book.__len__" s_Book_len a.f_Book_len a.d_Book_len
  M_Book_len : Meth K a.C_Book "__len__" a.f_Book_len
  bd_Book_len : Binds K a.d_Book_len ["self"] []
  F_Book_face : Fun K "face" "Book.face" s_Book_face a.f_Book_face a.d_Book_face
  M_Book_face : Meth K a.C_Book "face" a.f_Book_face
  bd_Book_face : Binds K a.d_Book_face ["self"] []
  F_Book_eq : Fun K "__eq__" "Book.__eq__" s_Book_eq a.f_Book_eq a.d_Book_eq
  M_Book_eq : Meth K a.C_Book "__eq__" a.f_Book_eq
  bd_Book_eq : Binds K a.d_Book_eq ["self", "other"] []
  F_Book_columns : Fun K "columns" "Book.columns" s_Book_columns a.f_Book_columns a.d_Book_columns
  M_Book_columns : Meth K a.C_Book "columns" a.f_Book_columns
  bd_Book_columns : Binds K a.d_Book_columns ["self"] []
  F__law_draws : Fun K "_law_draws" "_law_draws" s__law_draws a.f__law_draws a.d__law_draws
  g__law_draws : mg "_law_draws" = some (.ref a.f__law_draws)
  k__law_draws : PySem.W.keepIn K (.ref a.f__law_draws) = true
  bd__law_draws : Binds K a.d__law_draws ["_law_cell", "_law_sizes"] []
  F__law_same : Fun K "_law_same" "_law_same" s__law_same a.f__law_same a.d__law_same
  g__law_same : mg "_law_same" = some (.ref a.f__law_same)
  k__law_same : PySem.W.keepIn K (.ref a.f__law_same) = true
  bd__law_same : Binds K a.d__law_same ["_law_found", "_law_due"] []
  F__law_good_names : Fun K "_law_good_names" "_law_good_names" s__law_good_names a.f__law_good_names a.d__law_good_names
  g__law_good_names : mg "_law_good_names" = some (.ref a.f__law_good_names)
  k__law_good_names : PySem.W.keepIn K (.ref a.f__law_good_names) = true
  bd__law_good_names : Binds K a.d__law_good_names ["_law_some"] []
  F__law_word_due : Fun K "_law_word_due" "_law_word_due" s__law_word_due a.f__law_word_due a.d__law_word_due
  g__law_word_due : mg "_law_word_due" = some (.ref a.f__law_word_due)
  k__law_word_due : PySem.W.keepIn K (.ref a.f__law_word_due) = true
  bd__law_word_due : Binds K a.d__law_word_due ["_law_columns"] []
  F_law : Fun K "law" "law" s_law a.f_law a.d_law
  g_law : mg "law" = some (.ref a.f_law)
  k_law : PySem.W.keepIn K (.ref a.f_law) = true
  bd_law : Binds K a.d_law ["_law_script"] []
  kc_Book : ClK K "Book" a.C_Book
  mc_Book : mg "Book" = some (.ref a.C_Book)
  mk_Book : Mk K a.C_Book a.f_Book_init
  kc_Reckoned : ClK K "Reckoned" a.C_Reckoned
  mc_Reckoned : mg "Reckoned" = some (.ref a.C_Reckoned)
  mk_Reckoned : Mk K a.C_Reckoned a.f_Reckoned_init
  kc_Tally : ClK K "Tally" a.C_Tally
  mc_Tally : mg "Tally" = some (.ref a.C_Tally)
  mk_Tally : Mk K a.C_Tally a.f_Tally_init
  io_Book : IsO K "Book" a.C_Book
  fl_sizes : FldK K ["Tally"] "sizes"
  fl_known : FldK K ["Tally"] "known"
  fl_worths_told : FldK K ["Reckoned"] "worths_told"
  fl_many_told : FldK K ["Reckoned"] "many_told"
  fl_names_told : FldK K ["Book"] "names_told"
  fl_rows_told : FldK K ["Book"] "rows_told"
  fl_musts : FldK K ["Book"] "musts"
  fl_nevers : FldK K ["Book"] "nevers"
  fl_at_most : FldK K ["Book"] "at_most"
  fl_done : FldK K ["Book"] "done"
  fl_past : FldK K ["Book"] "past"
  fl_gone : FldK K ["Book"] "gone"
  fl_reckoner : FldK K ["Book"] "reckoner"
  b_abs : mg "abs" = none
  b_all : mg "all" = none
  b_any : mg "any" = none
  b_bool : mg "bool" = none
  b_int : mg "int" = none
  b_isinstance : mg "isinstance" = none
  b_len : mg "len" = none
  b_list : mg "list" = none
  b_range : mg "range" = none
  b_set : mg "set" = none
  b_sorted : mg "sorted" = none
  b_str : mg "str" = none
  b_tuple : mg "tuple" = none
  c_LONGEST : mg "LONGEST" = some a.u_LONGEST
  w_LONGEST : RelV a.v_LONGEST a.u_LONGEST
  r_LONGEST : ∀ B, Rp K B a.v_LONGEST (.int 8)
  c_MOST_COLUMNS : mg "MOST_COLUMNS" = some a.u_MOST_COLUMNS
  w_MOST_COLUMNS : RelV a.v_MOST_COLUMNS a.u_MOST_COLUMNS
  r_MOST_COLUMNS : ∀ B, Rp K B a.v_MOST_COLUMNS (.int 6)
  c_MOST_ROWS : mg "MOST_ROWS" = some a.u_MOST_ROWS
  w_MOST_ROWS : RelV a.v_MOST_ROWS a.u_MOST_ROWS
  r_MOST_ROWS : ∀ B, Rp K B a.v_MOST_ROWS (.int 300)
  c_MOST_SIZE : mg "MOST_SIZE" = some a.u_MOST_SIZE
  w_MOST_SIZE : RelV a.v_MOST_SIZE a.u_MOST_SIZE
  r_MOST_SIZE : ∀ B, Rp K B a.v_MOST_SIZE (.int 4)
  c_SMALL : mg "SMALL" = some a.u_SMALL
  w_SMALL : RelV a.v_SMALL a.u_SMALL
  r_SMALL : ∀ B, Rp K B a.v_SMALL (.str "abcdefghijklmnopqrstuvwxyz")
section
variable {P : Program} {w : World} {K : PySem.W.Frag} {mg : Str → Option Value} {base : Heap} {a : Ads}
theorem sc_BadSizes : FnScope ["self"] ["self"] (defScope si_BadSizes) := ⟨rfl, rfl, rfl, by decide +kernel, rfl, by decide +kernel, by decide +kernel⟩
theorem in_BadSizes (T : Txt K mg a) : FnOk P w K mg base (L2.CX P w) 1 a.i_BadSizes a.di_BadSizes ["self"] (spI K a.c_BadSizes 0 (fv1 "word" "badsizes")) :=
  init1_ok (k := 0) T.IF_BadSizes sc_BadSizes T.X_BadSizes.T T.xc_BadSizes.no fun cdv A outer s H E => pss_one (ps_osB (pv 0) pe_str)
theorem sc_BadName : FnScope ["self"] ["self"] (defScope si_BadName) := ⟨rfl, rfl, rfl, by decide +kernel, rfl, by decide +kernel, by decide +kernel⟩
theorem in_BadName (T : Txt K mg a) : FnOk P w K mg base (L2.CX P w) 1 a.i_BadName a.di_BadName ["self"] (spI K a.c_BadName 0 (fv1 "word" "badname")) :=
  init1_ok (k := 0) T.IF_BadName sc_BadName T.X_BadName.T T.xc_BadName.no fun cdv A outer s H E => pss_one (ps_osB (pv 0) pe_str)
theorem sc_multiplied : FnScope ["sizes", "found", "size"] ["sizes"] (defScope s_multiplied) := ⟨rfl, rfl, rfl, by decide +kernel, rfl, by decide +kernel, by decide +kernel⟩
theorem ok_multiplied (T : Txt K mg a) : FnOk P w K mg base (L2.CX P w) 1 a.f_multiplied a.d_multiplied ["sizes"] (spD K 1 F_multiplied) := by
  refine def_ok (k := 0) T.F_multiplied sc_multiplied rfl fun cdv A outer s H E hr tk po hu => ?_
  have nd := sc_multiplied.nd
  have hu5 := units5 hr
  exact ⟨_, (css_cons (cs_set 1 nd ce_int)
  (css_cons (cs_for po rfl (ci_seq K (by rfl) (ce_var 0)) (cg_name 2 nd) (css_one (cs_aug 1 nd (ce_var 2) oi_mul)))
  (css_one (cs_ret (ce_var 1)))))⟩
theorem sc_look_sizes : FnScope ["sizes", "size"] ["sizes"] (defScope s_look_sizes) := ⟨rfl, rfl, rfl, by decide +kernel, rfl, by decide +kernel, by decide +kernel⟩
theorem ok_look_sizes (T : Txt K mg a) : FnOk P w K mg base (L2.CX P w) 3 a.f_look_sizes a.d_look_sizes ["sizes"] (spD K 1 F_look_sizes) := by
  refine def_ok (k := 2) T.F_look_sizes sc_look_sizes rfl fun cdv A outer s H E hr tk po hu => ?_
  have nd := sc_look_sizes.nd
  have hu5 := units5 hr
  exact ⟨_, (css_cons (cs_if (CW.ct (cw_or (ct_not (ct_cc o_le o_le ce_int (ce_callB (k_len K (by rfl)) T.b_len (by decide +kernel) (ca_cons (ce_var 0) ca_nil)) (ce_glob (by rfl) T.c_MOST_COLUMNS T.w_MOST_COLUMNS (fun B => T.r_MOST_COLUMNS B)))) (cw_or1 (ct_not (ct_val (ce_callB (k_all K (by rfl) (by rfl)) T.b_all (by decide +kernel) (ca_cons (ce_l (lc_1 (own := [("size", 1)]) s rfl nd (ci_seq K (by rfl) (ce_var 0)) (blkOk_by (by kernel_rfl)) (fun _ _ _ _ _ => (cg_name 1 nd)) (fun _ _ _ _ _ => cts_nil) (fun _ _ _ _ _ => (ce_cc o_le o_le ce_int (ce_var 1) (ce_glob (by rfl) T.c_MOST_SIZE T.w_MOST_SIZE (fun B => T.r_MOST_SIZE B))))).toCF) ca_nil))))))) (css_one (cs_raise0 K (by rfl) tk T.X_BadSizes (in_BadSizes T) (hr.mono (by decide)) T.ib_BadSizes ff1)) css_nil)
  (css_one (cs_if (ct_c o_gt (ce_f K (by rfl) (ok_multiplied T) (hr.mono (by decide)) T.g_multiplied T.k_multiplied T.bd_multiplied tk (ca_cons (ce_var 0) ca_nil)) (ce_glob (by rfl) T.c_MOST_ROWS T.w_MOST_ROWS (fun B => T.r_MOST_ROWS B))) (css_one (cs_raise0 K (by rfl) tk T.X_BadSizes (in_BadSizes T) (hr.mono (by decide)) T.ib_BadSizes ff1)) css_nil)))⟩
theorem sc_Tally_init : FnScope ["self", "sizes"] ["self", "sizes"] (defScope s_Tally_init) := ⟨rfl, rfl, rfl, by decide +kernel, rfl, by decide +kernel, by decide +kernel⟩
theorem ok_Tally_init (T : Txt K mg a) : FnOk P w K mg base (L2.CX P w) 4 a.f_Tally_init a.d_Tally_init ["self", "sizes"] (spM K 2 0 F_Tally_init) := by
  refine def_okM 0 (k := 3) T.F_Tally_init sc_Tally_init rfl fun cdv A outer s H E hr tk po hu => ?_
  have nd := sc_Tally_init.nd
  have hu5 := units5 hr
  exact ⟨_, (css_cons (cs_expr (ce_f K (by rfl) (ok_look_sizes T) (hr.mono (by decide)) T.g_look_sizes T.k_look_sizes T.bd_look_sizes tk (ca_cons (ce_var 1) ca_nil)))
  (css_cons (cs_tfld K (by rfl) 0 T.fl_sizes (pv 0) (cn_e (ce_callTy (k_tuple K (by rfl)) T.b_tuple (by decide +kernel) (ca_cons (ce_var 1) ca_nil))))
  (css_one (cs_tfld K (by rfl) 0 T.fl_known (pv 0) cn_x0))))⟩
theorem sc_Tally_len : FnScope ["self", "row", "turn"] ["self"] (defScope s_Tally_len) := ⟨rfl, rfl, rfl, by decide +kernel, rfl, by decide +kernel, by decide +kernel⟩
theorem ok_Tally_len (T : Txt K mg a) : FnOk P w K mg base (L2.CX P w) 1 a.f_Tally_len a.d_Tally_len ["self"] (spD K 1 F_Tally_len) := by
  refine def_ok (k := 0) T.F_Tally_len sc_Tally_len rfl fun cdv A outer s H E hr tk po hu => ?_
  have nd := sc_Tally_len.nd
  have hu5 := units5 hr
  exact ⟨_, (css_one (cs_ret (ce_callB (k_len K (by rfl)) T.b_len (by decide +kernel) (ca_cons (ce_l (lc_2 (own := [("row", 1), ("turn", 2)]) (vs1 := [2]) s rfl nd (ci_xkeys (ce_fld K (by rfl) T.fl_known (ce_var 0))) (blkOk_by (by kernel_rfl)) (fun _ _ _ _ _ => (cg_name 1 nd)) (fun _ _ _ _ _ => cts_nil) (fun _ _ _ _ _ => (ci_range1 T.b_range (ca_cons (ce_ixX K (by rfl) hu (ce_fld K (by rfl) T.fl_known (ce_var 0)) (ce_var 1)) ca_nil))) (fun _ _ _ _ _ => (cg_name 2 nd)) (fun _ _ _ _ _ => cts_nil) (fun _ _ _ _ _ => (ce_var 1))).toCF) ca_nil))))⟩
theorem sc_Tally_rows : FnScope ["self", "row"] ["self"] (defScope s_Tally_rows) := ⟨rfl, rfl, rfl, by decide +kernel, rfl, by decide +kernel, by decide +kernel⟩
theorem ok_Tally_rows (T : Txt K mg a) : FnOk P w K mg base (L2.CX P w) 1 a.f_Tally_rows a.d_Tally_rows ["self"] (spD K 1 F_Tally_rows) := by
  refine def_ok (k := 0) T.F_Tally_rows sc_Tally_rows rfl fun cdv A outer s H E hr tk po hu => ?_
  have nd := sc_Tally_rows.nd
  have hu5 := units5 hr
  exact ⟨_, (css_one (cs_ret (ce_l (lc_1 (own := [("row", 1)]) s rfl nd (ci_seq K (by rfl) (ce_l (cf_sorted K (by rfl) hu T.b_sorted (ce_callTy k_listX T.b_list (by decide +kernel) (ca_cons (ce_fld K (by rfl) T.fl_known (ce_var 0)) ca_nil))))) (blkOk_by (by kernel_rfl)) (fun _ _ _ _ _ => (cg_name 1 nd)) (fun _ _ _ _ _ => cts_nil) (fun _ _ _ _ _ => (ce_tup (ca_cons (ce_var 1) (ca_cons (ce_ixX K (by rfl) hu (ce_fld K (by rfl) T.fl_known (ce_var 0)) (ce_var 1)) ca_nil))))).toCF)))⟩
theorem sc_is_name : FnScope ["text", "sign"] ["text"] (defScope s_is_name) := ⟨rfl, rfl, rfl, by decide +kernel, rfl, by decide +kernel, by decide +kernel⟩
theorem ok_is_name (T : Txt K mg a) : FnOk P w K mg base (L2.CX P w) 1 a.f_is_name a.d_is_name ["text"] (spD K 1 F_is_name) := by
  refine def_ok (k := 0) T.F_is_name sc_is_name rfl fun cdv A outer s H E hr tk po hu => ?_
  have nd := sc_is_name.nd
  have hu5 := units5 hr
  exact ⟨_, (css_one (cs_ret (ce_and (ce_cc o_le o_le ce_int (ce_callB (k_len K (by rfl)) T.b_len (by decide +kernel) (ca_cons (ce_var 0) ca_nil)) (ce_glob (by rfl) T.c_LONGEST T.w_LONGEST (fun B => T.r_LONGEST B))) (ce_one (ce_callB (k_all K (by rfl) (by rfl)) T.b_all (by decide +kernel) (ca_cons (ce_l (lc_1 (own := [("sign", 1)]) s rfl nd (ci_seq K (by rfl) (ce_var 0)) (blkOk_by (by kernel_rfl)) (fun _ _ _ _ _ => (cg_name 1 nd)) (fun _ _ _ _ _ => cts_nil) (fun _ _ _ _ _ => (ce_c o_inS (ce_var 1) (ce_glob (by rfl) T.c_SMALL T.w_SMALL (fun B => T.r_SMALL B))))).toCF) ca_nil))))))⟩
theorem sc_look_names : FnScope ["names", "name"] ["names"] (defScope s_look_names) := ⟨rfl, rfl, rfl, by decide +kernel, rfl, by decide +kernel, by decide +kernel⟩
theorem ok_look_names (T : Txt K mg a) : FnOk P w K mg base (L2.CX P w) 3 a.f_look_names a.d_look_names ["names"] (spD K 1 F_look_names) := by
  refine def_ok (k := 2) T.F_look_names sc_look_names rfl fun cdv A outer s H E hr tk po hu => ?_
  have nd := sc_look_names.nd
  have hu5 := units5 hr
  exact ⟨_, (css_one (cs_if (CW.ct (cw_or (ct_not (ct_val (ce_callB (k_all K (by rfl) (by rfl)) T.b_all (by decide +kernel) (ca_cons (ce_l (lc_1 (own := [("name", 1)]) s rfl nd (ci_seq K (by rfl) (ce_var 0)) (blkOk_by (by kernel_rfl)) (fun _ _ _ _ _ => (cg_name 1 nd)) (fun _ _ _ _ _ => cts_nil) (fun _ _ _ _ _ => (ce_f K (by rfl) (ok_is_name T) (hr.mono (by decide)) T.g_is_name T.k_is_name T.bd_is_name takes0 (ca_cons (ce_var 1) ca_nil)))).toCF) ca_nil)))) (cw_or1 (ct_c (o_ne K (by rfl) hu) (ce_lenW P w (by rfl) (by rfl) T.b_len (csw_1 (own := [("name", 1)]) s rfl nd (ci_seq K (by rfl) (ce_var 0)) (blkOk_by (by kernel_rfl)) (fun _ _ _ _ _ => (cg_name 1 nd)) (fun _ _ _ _ _ => cts_nil) (fun _ _ _ _ _ => (ce_var 1)))) (ce_callB (k_len K (by rfl)) T.b_len (by decide +kernel) (ca_cons (ce_var 0) ca_nil)))))) (css_one (cs_raise0 K (by rfl) tk T.X_BadName (in_BadName T) (hr.mono (by decide)) T.ib_BadName ff1)) css_nil))⟩
theorem sc_Reckoned_init : FnScope ["self"] ["self"] (defScope s_Reckoned_init) := ⟨rfl, rfl, rfl, by decide +kernel, rfl, by decide +kernel, by decide +kernel⟩
theorem ok_Reckoned_init (T : Txt K mg a) : FnOk P w K mg base (L2.CX P w) 1 a.f_Reckoned_init a.d_Reckoned_init ["self"] (spM K 1 0 F_Reckoned_init) := by
  refine def_okM 0 (k := 0) T.F_Reckoned_init sc_Reckoned_init rfl fun cdv A outer s H E hr tk po hu => ?_
  have nd := sc_Reckoned_init.nd
  have hu5 := units5 hr
  exact ⟨_, (css_cons (cs_tfld K (by rfl) 0 T.fl_worths_told (pv 0) cn_x0)
  (css_one (cs_tfld K (by rfl) 0 T.fl_many_told (pv 0) (cn_e ce_int))))⟩
theorem sc_Book_init : FnScope ["self", "columns", "name", "values"] ["self", "columns"] (defScope s_Book_init) := ⟨rfl, rfl, rfl, by decide +kernel, rfl, by decide +kernel, by decide +kernel⟩
theorem ok_Book_init (T : Txt K mg a) : FnOk P w K mg base (L2.CX P w) 6 a.f_Book_init a.d_Book_init ["self", "columns"] (spM K 2 0 F_Book_init) := by
  refine def_okM 0 (k := 5) T.F_Book_init sc_Book_init rfl fun cdv A outer s H E hr tk po hu => ?_
  have nd := sc_Book_init.nd
  have hu5 := units5 hr
  exact ⟨_, (css_cons (cs_for po rfl (ci_seq K (by rfl) (ce_var 1)) (cg_tup K (by rfl) (by rfl) (cgs_cons (cg_name 2 nd) (cgs_cons (cg_name 3 nd) cgs_nil (by rfl)) (by rfl)) (by rfl) (by rfl)) (css_cons (cs_expr (ce_f K (by rfl) (ok_look_names T) (hr.mono (by decide)) T.g_look_names T.k_look_names T.bd_look_names tk (ca_cons (ce_l (cf_lst (ca_cons (ce_var 2) ca_nil))) ca_nil)))
  (css_one (cs_expr (ce_f K (by rfl) (ok_look_names T) (hr.mono (by decide)) T.g_look_names T.k_look_names T.bd_look_names tk (ca_cons (ce_callTy (k_list K (by rfl)) T.b_list (by decide +kernel) (ca_cons (ce_var 3) ca_nil)) ca_nil))))))
  (css_cons (cs_expr (ce_f K (by rfl) (ok_look_names T) (hr.mono (by decide)) T.g_look_names T.k_look_names T.bd_look_names tk (ca_cons (ce_l (lc_1 (own := [("name", 2), ("values", 3)]) s rfl nd (ci_seq K (by rfl) (ce_var 1)) (blkOk_by (by kernel_rfl)) (fun _ _ _ _ _ => (cg_tup K (by rfl) (by rfl) (cgs_cons (cg_name 2 nd) (cgs_cons (cg_name 3 nd) cgs_nil (by rfl)) (by rfl)) (by rfl) (by rfl))) (fun _ _ _ _ _ => cts_nil) (fun _ _ _ _ _ => (ce_var 2))).toCF) ca_nil)))
  (css_cons (cs_tfld K (by rfl) 0 T.fl_names_told (pv 0) (cn_e (ce_callTy (k_tuple K (by rfl)) T.b_tuple (by decide +kernel) (ca_cons (ce_l (lc_1 (own := [("name", 2), ("values", 3)]) s rfl nd (ci_seq K (by rfl) (ce_var 1)) (blkOk_by (by kernel_rfl)) (fun _ _ _ _ _ => (cg_tup K (by rfl) (by rfl) (cgs_cons (cg_name 2 nd) (cgs_cons (cg_name 3 nd) cgs_nil (by rfl)) (by rfl)) (by rfl) (by rfl))) (fun _ _ _ _ _ => cts_nil) (fun _ _ _ _ _ => (ce_tup (ca_cons (ce_var 2) (ca_cons (ce_callTy (k_tuple K (by rfl)) T.b_tuple (by decide +kernel) (ca_cons (ce_var 3) ca_nil)) ca_nil))))).toCF) ca_nil))))
  (css_cons (cs_tfld K (by rfl) 0 T.fl_rows_told (pv 0) (cn_make K (by rfl) T.kc_Tally T.mk_Tally (ok_Tally_init T) (hr.mono (by decide)) T.mc_Tally T.bd_Tally_init .nil (fun _ => .nil) tk (ca_cons (ce_callTy (k_tuple K (by rfl)) T.b_tuple (by decide +kernel) (ca_cons (ce_l (lc_1 (own := [("name", 2), ("values", 3)]) s rfl nd (ci_seq K (by rfl) (ce_var 1)) (blkOk_by (by kernel_rfl)) (fun _ _ _ _ _ => (cg_tup K (by rfl) (by rfl) (cgs_cons (cg_name 2 nd) (cgs_cons (cg_name 3 nd) cgs_nil (by rfl)) (by rfl)) (by rfl) (by rfl))) (fun _ _ _ _ _ => cts_nil) (fun _ _ _ _ _ => (ce_callB (k_len K (by rfl)) T.b_len (by decide +kernel) (ca_cons (ce_var 3) ca_nil)))).toCF) ca_nil)) ca_nil)))
  (css_cons (cs_tfld K (by rfl) 0 T.fl_musts (pv 0) (cn_e (ce_tup ca_nil)))
  (css_cons (cs_tfld K (by rfl) 0 T.fl_nevers (pv 0) (cn_e (ce_tup ca_nil)))
  (css_cons (cs_tfld K (by rfl) 0 T.fl_at_most (pv 0) (cn_e ce_non))
  (css_cons (cs_tfld K (by rfl) 0 T.fl_done (pv 0) (cn_l (cf_lst ca_nil)))
  (css_cons (cs_tfld K (by rfl) 0 T.fl_past (pv 0) (cn_l (cf_lst ca_nil)))
  (css_cons (cs_tfld K (by rfl) 0 T.fl_gone (pv 0) (cn_l (cf_lst ca_nil)))
  (css_one (cs_tfld K (by rfl) 0 T.fl_reckoner (pv 0) (cn_make0 K (by rfl) T.kc_Reckoned T.mk_Reckoned (ok_Reckoned_init T) (hr.mono (by decide)) T.mc_Reckoned T.bd_Reckoned_init .nil (fun _ => .nil) tk)))))))))))))⟩
theorem sc_Book_len : FnScope ["self"] ["self"] (defScope s_Book_len) := ⟨rfl, rfl, rfl, by decide +kernel, rfl, by decide +kernel, by decide +kernel⟩
theorem ok_Book_len (T : Txt K mg a) : FnOk P w K mg base (L2.CX P w) 3 a.f_Book_len a.d_Book_len ["self"] (spD K 1 F_Book_len) := by
  refine def_ok (k := 2) T.F_Book_len sc_Book_len rfl fun cdv A outer s H E hr tk po hu => ?_
  have nd := sc_Book_len.nd
  have hu5 := units5 hr
  exact ⟨_, (css_one (cs_ret (ce_lenO K (by rfl) T.kc_Tally T.M_Tally_len (ok_Tally_len T) (hr.mono (by decide)) T.bd_Tally_len T.b_len (ce_fld K (by rfl) T.fl_rows_told (ce_var 0)))))⟩
theorem sc_Book_face : FnScope ["self"] ["self"] (defScope s_Book_face) := ⟨rfl, rfl, rfl, by decide +kernel, rfl, by decide +kernel, by decide +kernel⟩
theorem ok_Book_face (T : Txt K mg a) : FnOk P w K mg base (L2.CX P w) 2 a.f_Book_face a.d_Book_face ["self"] (spD K 1 F_Book_face) := by
  refine def_ok (k := 1) T.F_Book_face sc_Book_face rfl fun cdv A outer s H E hr tk po hu => ?_
  have nd := sc_Book_face.nd
  have hu5 := units5 hr
  exact ⟨_, (css_one (cs_ret (ce_tup (ca_cons (ce_mth0 K (by rfl) T.kc_Tally T.M_Tally_rows (ok_Tally_rows T) (hr.mono (by decide)) T.bd_Tally_rows .nil (fun _ => .nil) tk (ce_fld K (by rfl) T.fl_rows_told (ce_var 0))) (ca_cons (ce_fld K (by rfl) T.fl_musts (ce_var 0)) (ca_cons (ce_fld K (by rfl) T.fl_nevers (ce_var 0)) (ca_cons (ce_fld K (by rfl) T.fl_at_most (ce_var 0)) ca_nil)))))))⟩
theorem sc_Book_eq : FnScope ["self", "other"] ["self", "other"] (defScope s_Book_eq) := ⟨rfl, rfl, rfl, by decide +kernel, rfl, by decide +kernel, by decide +kernel⟩
theorem ok_Book_eq (T : Txt K mg a) : FnOk P w K mg base (L2.CX P w) 3 a.f_Book_eq a.d_Book_eq ["self", "other"] (spD K 2 F_Book_eq) := by
  refine def_ok (k := 2) T.F_Book_eq sc_Book_eq rfl fun cdv A outer s H E hr tk po hu => ?_
  have nd := sc_Book_eq.nd
  have hu5 := units5 hr
  exact ⟨_, (css_cons (cs_if (ct_not (ct_val (ce_isO K (by rfl) T.io_Book T.b_isinstance T.mc_Book (ce_var 1)))) (css_one (cs_ret ce_bl)) css_nil)
  (css_one (cs_ret (ce_and (ce_c (o_eq K (by rfl) hu) (ce_fld K (by rfl) T.fl_names_told (ce_var 0)) (ce_fld K (by rfl) T.fl_names_told (ce_var 1))) (ce_one (ce_c (o_eq K (by rfl) hu) (ce_mth0 K (by rfl) T.kc_Book T.M_Book_face (ok_Book_face T) (hr.mono (by decide)) T.bd_Book_face .nil (fun _ => .nil) tk (ce_var 0)) (ce_mth0 K (by rfl) T.kc_Book T.M_Book_face (ok_Book_face T) (hr.mono (by decide)) T.bd_Book_face .nil (fun _ => .nil) tk (ce_var 1))))))))⟩
theorem sc_Book_columns : FnScope ["self"] ["self"] (defScope s_Book_columns) := ⟨rfl, rfl, rfl, by decide +kernel, rfl, by decide +kernel, by decide +kernel⟩
theorem ok_Book_columns (T : Txt K mg a) : FnOk P w K mg base (L2.CX P w) 1 a.f_Book_columns a.d_Book_columns ["self"] (spD K 1 F_Book_columns) := by
  refine def_ok (k := 0) T.F_Book_columns sc_Book_columns rfl fun cdv A outer s H E hr tk po hu => ?_
  have nd := sc_Book_columns.nd
  have hu5 := units5 hr
  exact ⟨_, (css_one (cs_ret (ce_callTy (k_list K (by rfl)) T.b_list (by decide +kernel) (ca_cons (ce_fld K (by rfl) T.fl_names_told (ce_var 0)) ca_nil))))⟩
theorem sc__law_draws : FnScope ["_law_cell", "_law_sizes", "_law_mixed", "_law_two", "_law_six", "_law_found", "_law_size"] ["_law_cell", "_law_sizes"] (defScope s__law_draws) := ⟨rfl, rfl, rfl, by decide +kernel, rfl, by decide +kernel, by decide +kernel⟩
theorem ok__law_draws (T : Txt K mg a) : FnOk P w K mg base (L2.CX P w) 1 a.f__law_draws a.d__law_draws ["_law_cell", "_law_sizes"] (spD K 2 F__law_draws) := by
  refine def_ok (k := 0) T.F__law_draws sc__law_draws rfl fun cdv A outer s H E hr tk po hu => ?_
  have nd := sc__law_draws.nd
  have hu5 := units5 hr
  exact ⟨_, (css_cons (cs_if (ct_c o_lt (ce_callB k_abs T.b_abs (by decide +kernel) (ca_cons (ce_var 0) ca_nil)) (ce_b o_pow ce_int ce_int)) (css_cons (cs_set 2 nd (ce_b o_mod (ce_b (o_add K (by rfl)) (ce_b (o_mul K (by rfl)) (ce_var 0) ce_int) ce_int) ce_int))
  (css_cons (cs_set 3 nd (ce_b o_mod (ce_b (o_add K (by rfl)) (ce_b (o_add K (by rfl)) (ce_b (o_mul K (by rfl)) (ce_var 2) (ce_var 2)) (ce_b (o_mul K (by rfl)) ce_int (ce_var 2))) (ce_var 0)) ce_int))
  (css_cons (cs_set 4 nd (ce_b o_mod (ce_b (o_add K (by rfl)) (ce_b (o_mul K (by rfl)) (ce_var 3) ce_int) (ce_var 2)) ce_int))
  (css_one (cs_set 0 nd (ce_b (o_add K (by rfl)) (ce_var 3) (ce_b (o_mul K (by rfl)) ce_int (ce_b (o_add K (by rfl)) (ce_var 4) (ce_b (o_mul K (by rfl)) ce_int (ce_var 2)))))))))) (css_one (cs_set 0 nd (ce_b o_sub (ce_callB k_abs T.b_abs (by decide +kernel) (ca_cons (ce_var 0) ca_nil)) (ce_b o_pow ce_int ce_int)))))
  (css_cons (cs_own 5 nd (cf_lst ca_nil))
  (css_cons (cs_for po rfl (ci_seq K (by rfl) (ce_var 1)) (cg_name 6 nd) (css_cons (cs_app 5 (ce_b o_mod (ce_var 0) (ce_var 6)) (pv 5))
  (css_one (cs_set 0 nd (ce_b o_fdiv (ce_var 0) (ce_var 6))))))
  (css_one (cs_fz 5 (cs_ret (ce_var 5)))))))⟩
theorem sc__law_same : FnScope ["_law_found", "_law_due", "_law_k"] ["_law_found", "_law_due"] (defScope s__law_same) := ⟨rfl, rfl, rfl, by decide +kernel, rfl, by decide +kernel, by decide +kernel⟩
theorem ok__law_same (T : Txt K mg a) : ∀ n : Nat, FnOk P w K mg base (L2.CX P w) (1 + n) a.f__law_same a.d__law_same ["_law_found", "_law_due"] (spD K 2 (F__law_same n))
  | 0 => ⟨fun vs H Q E h => h.1, fun A outer s H args us vs Q E hr he hb hv h => (by obtain ⟨_, _, _, _, _, _, z⟩ := h; exact z.elim)⟩
  | n + 1 => by
    have ih := ok__law_same T n
    refine def_ok (k := 1 + n) T.F__law_same sc__law_same rfl fun cdv A outer s H E hr tk po hu => ?_
    have nd := sc__law_same.nd
    have hu5 := units5 hr
    exact ⟨_, (css_cons (cs_if (ct_c o_is (ce_var 1) ce_non) (css_one (cs_ret (ce_c o_is (ce_var 0) ce_non))) css_nil)
  (css_cons (cs_if (ct_val (ce_callB (k_isi K (by rfl)) T.b_isinstance (by decide +kernel) (ca_cons (ce_var 1) (ca_cons (ce_bltn (v := .ty "str") (by rfl) T.b_str (by decide +kernel) rfl) ca_nil)))) (css_one (cs_ret (ce_and (ce_callB (k_isi K (by rfl)) T.b_isinstance (by decide +kernel) (ca_cons (ce_var 0) (ca_cons (ce_bltn (v := .ty "str") (by rfl) T.b_str (by decide +kernel) rfl) ca_nil))) (ce_one (ce_c (o_eq K (by rfl) hu) (ce_var 0) (ce_var 1)))))) css_nil)
  (css_cons (cs_if (ct_val (ce_callB (k_isi K (by rfl)) T.b_isinstance (by decide +kernel) (ca_cons (ce_var 1) (ca_cons (ce_bltn (v := .ty "int") (by rfl) T.b_int (by decide +kernel) rfl) ca_nil)))) (css_one (cs_ret (ce_and (ce_callB (k_isi K (by rfl)) T.b_isinstance (by decide +kernel) (ca_cons (ce_var 0) (ca_cons (ce_bltn (v := .ty "int") (by rfl) T.b_int (by decide +kernel) rfl) ca_nil))) (ce_and (ce_c (o_eq K (by rfl) hu) (ce_callB (k_isi K (by rfl)) T.b_isinstance (by decide +kernel) (ca_cons (ce_var 0) (ca_cons (ce_bltn (v := .ty "bool") (by rfl) T.b_bool (by decide +kernel) rfl) ca_nil))) (ce_callB (k_isi K (by rfl)) T.b_isinstance (by decide +kernel) (ca_cons (ce_var 1) (ca_cons (ce_bltn (v := .ty "bool") (by rfl) T.b_bool (by decide +kernel) rfl) ca_nil)))) (ce_one (ce_c (o_eq K (by rfl) hu) (ce_var 0) (ce_var 1))))))) css_nil)
  (css_cons (cs_if (CW.ct (cw_or (ct_c (o_ne K (by rfl) hu) (ce_callB (k_isi K (by rfl)) T.b_isinstance (by decide +kernel) (ca_cons (ce_var 1) (ca_cons (ce_bltn (v := .ty "list") (by rfl) T.b_list (by decide +kernel) rfl) ca_nil))) (ce_callB (k_isi K (by rfl)) T.b_isinstance (by decide +kernel) (ca_cons (ce_var 0) (ca_cons (ce_bltn (v := .ty "list") (by rfl) T.b_list (by decide +kernel) rfl) ca_nil)))) (cw_or1 (ct_c (o_ne K (by rfl) hu) (ce_callB (k_isi K (by rfl)) T.b_isinstance (by decide +kernel) (ca_cons (ce_var 1) (ca_cons (ce_bltn (v := .ty "tuple") (by rfl) T.b_tuple (by decide +kernel) rfl) ca_nil))) (ce_callB (k_isi K (by rfl)) T.b_isinstance (by decide +kernel) (ca_cons (ce_var 0) (ca_cons (ce_bltn (v := .ty "tuple") (by rfl) T.b_tuple (by decide +kernel) rfl) ca_nil))))))) (css_one (cs_ret ce_bl)) css_nil)
  (css_one (cs_ret (ce_and (ce_c (o_eq K (by rfl) hu) (ce_callB (k_len K (by rfl)) T.b_len (by decide +kernel) (ca_cons (ce_var 0) ca_nil)) (ce_callB (k_len K (by rfl)) T.b_len (by decide +kernel) (ca_cons (ce_var 1) ca_nil))) (ce_one (ce_callB (k_all K (by rfl) (by rfl)) T.b_all (by decide +kernel) (ca_cons (ce_l (lc_1 (own := [("_law_k", 2)]) s rfl nd (ci_range1 T.b_range (ca_cons (ce_callB (k_len K (by rfl)) T.b_len (by decide +kernel) (ca_cons (ce_var 1) ca_nil)) ca_nil)) (blkOk_by (by kernel_rfl)) (fun _ _ _ _ _ => (cg_name 2 nd)) (fun _ _ _ _ _ => cts_nil) (fun _ _ _ _ _ => (ce_f K (by rfl) ih (hr.mono (by omega)) T.g__law_same T.k__law_same T.bd__law_same takes0 (ca_cons (ce_ix K (by rfl) (ce_var 0) (ce_var 2)) (ca_cons (ce_ix K (by rfl) (ce_var 1) (ce_var 2)) ca_nil))))).toCF) ca_nil))))))))))⟩
theorem sc__law_good_names : FnScope ["_law_some", "_law_letters", "_law_name", "_law_sign"] ["_law_some"] (defScope s__law_good_names) := ⟨rfl, rfl, rfl, by decide +kernel, rfl, by decide +kernel, by decide +kernel⟩
theorem ok__law_good_names (T : Txt K mg a) : FnOk P w K mg base (L2.CX P w) 1 a.f__law_good_names a.d__law_good_names ["_law_some"] (spD K 1 F__law_good_names) := by
  refine def_ok (k := 0) T.F__law_good_names sc__law_good_names rfl fun cdv A outer s H E hr tk po hu => ?_
  have nd := sc__law_good_names.nd
  have hu5 := units5 hr
  exact ⟨_, (css_cons (cs_set 1 nd ce_str)
  (css_cons (cs_if (ct_c (o_ne K (by rfl) hu) (ce_lenW P w (by rfl) (by rfl) T.b_len (csw_set K (by rfl) rfl T.b_set (ce_var 0))) (ce_callB (k_len K (by rfl)) T.b_len (by decide +kernel) (ca_cons (ce_var 0) ca_nil))) (css_one (cs_ret ce_bl)) css_nil)
  (css_one (cs_ret (ce_callB (k_all K (by rfl) (by rfl)) T.b_all (by decide +kernel) (ca_cons (ce_l (lc_1 (own := [("_law_name", 2)]) s rfl nd (ci_seq K (by rfl) (ce_var 0)) (blkOk_by (by kernel_rfl)) (fun _ _ _ _ _ => (cg_name 2 nd)) (fun _ _ _ _ _ => cts_nil) (fun _ _ _ _ _ => (ce_and (ce_cc o_le o_le ce_int (ce_callB (k_len K (by rfl)) T.b_len (by decide +kernel) (ca_cons (ce_var 2) ca_nil)) ce_int) (ce_one (ce_callB (k_all K (by rfl) (by rfl)) T.b_all (by decide +kernel) (ca_cons (ce_l (lc_1 (own := [("_law_sign", 3)]) s rfl nd (ci_seq K (by rfl) (ce_var 2)) (blkOk_by (by kernel_rfl)) (fun _ _ _ _ _ => (cg_name 3 nd)) (fun _ _ _ _ _ => cts_nil) (fun _ _ _ _ _ => (ce_c o_inS (ce_var 3) (ce_var 1)))).toCF) ca_nil)))))).toCF) ca_nil))))))⟩
theorem sc__law_word_due : FnScope ["_law_columns", "_law_whole", "_law_name", "_law_values", "_law_good"] ["_law_columns"] (defScope s__law_word_due) := ⟨rfl, rfl, rfl, by decide +kernel, rfl, by decide +kernel, by decide +kernel⟩
theorem ok__law_word_due (T : Txt K mg a) : FnOk P w K mg base (L2.CX P w) 2 a.f__law_word_due a.d__law_word_due ["_law_columns"] (spD K 1 F__law_word_due) := by
  refine def_ok (k := 1) T.F__law_word_due sc__law_word_due rfl fun cdv A outer s H E hr tk po hu => ?_
  have nd := sc__law_word_due.nd
  have hu5 := units5 hr
  exact ⟨_, (css_cons (cs_if (ct_not (ct_val (ce_callB (k_all K (by rfl) (by rfl)) T.b_all (by decide +kernel) (ca_cons (ce_l (lc_1 (own := [("_law_name", 2), ("_law_values", 3)]) s rfl nd (ci_seq K (by rfl) (ce_var 0)) (blkOk_by (by kernel_rfl)) (fun _ _ _ _ _ => (cg_tup K (by rfl) (by rfl) (cgs_cons (cg_name 2 nd) (cgs_cons (cg_name 3 nd) cgs_nil (by rfl)) (by rfl)) (by rfl) (by rfl))) (fun _ _ _ _ _ => cts_nil) (fun _ _ _ _ _ => (ce_and (ce_f K (by rfl) (ok__law_good_names T) (hr.mono (by decide)) T.g__law_good_names T.k__law_good_names T.bd__law_good_names takes0 (ca_cons (ce_l (cf_lst (ca_cons (ce_var 2) ca_nil))) ca_nil)) (ce_one (ce_f K (by rfl) (ok__law_good_names T) (hr.mono (by decide)) T.g__law_good_names T.k__law_good_names T.bd__law_good_names takes0 (ca_cons (ce_callTy (k_list K (by rfl)) T.b_list (by decide +kernel) (ca_cons (ce_var 3) ca_nil)) ca_nil)))))).toCF) ca_nil)))) (css_one (cs_ret ce_str)) css_nil)
  (css_cons (cs_if (ct_not (ct_val (ce_f K (by rfl) (ok__law_good_names T) (hr.mono (by decide)) T.g__law_good_names T.k__law_good_names T.bd__law_good_names tk (ca_cons (ce_l (lc_1 (own := [("_law_name", 2), ("_law_values", 3)]) s rfl nd (ci_seq K (by rfl) (ce_var 0)) (blkOk_by (by kernel_rfl)) (fun _ _ _ _ _ => (cg_tup K (by rfl) (by rfl) (cgs_cons (cg_name 2 nd) (cgs_cons (cg_name 3 nd) cgs_nil (by rfl)) (by rfl)) (by rfl) (by rfl))) (fun _ _ _ _ _ => cts_nil) (fun _ _ _ _ _ => (ce_var 2))).toCF) ca_nil)))) (css_one (cs_ret ce_str)) css_nil)
  (css_cons (cs_set 1 nd ce_int)
  (css_cons (cs_for po rfl (ci_seq K (by rfl) (ce_var 0)) (cg_tup K (by rfl) (by rfl) (cgs_cons (cg_name 2 nd) (cgs_cons (cg_name 3 nd) cgs_nil (by rfl)) (by rfl)) (by rfl) (by rfl)) (css_one (cs_set 1 nd (ce_b (o_mul K (by rfl)) (ce_var 1) (ce_callB (k_len K (by rfl)) T.b_len (by decide +kernel) (ca_cons (ce_var 3) ca_nil))))))
  (css_cons (cs_set 4 nd (ce_and (ce_cc o_le o_le ce_int (ce_callB (k_len K (by rfl)) T.b_len (by decide +kernel) (ca_cons (ce_var 0) ca_nil)) ce_int) (ce_and (ce_callB (k_all K (by rfl) (by rfl)) T.b_all (by decide +kernel) (ca_cons (ce_l (lc_1 (own := [("_law_name", 2), ("_law_values", 3)]) s rfl nd (ci_seq K (by rfl) (ce_var 0)) (blkOk_by (by kernel_rfl)) (fun _ _ _ _ _ => (cg_tup K (by rfl) (by rfl) (cgs_cons (cg_name 2 nd) (cgs_cons (cg_name 3 nd) cgs_nil (by rfl)) (by rfl)) (by rfl) (by rfl))) (fun _ _ _ _ _ => cts_nil) (fun _ _ _ _ _ => (ce_cc o_le o_le ce_int (ce_callB (k_len K (by rfl)) T.b_len (by decide +kernel) (ca_cons (ce_var 3) ca_nil)) ce_int))).toCF) ca_nil)) (ce_one (ce_c o_le (ce_var 1) ce_int)))))
  (css_one (cs_ret (ce_if (ct_val (ce_var 4)) ce_str ce_str))))))))⟩
theorem sc_law : FnScope ["_law_script", "_law_cell", "_law_drawn", "_law_columns", "_law_k", "_law_size", "_law_odd", "_law_at", "_law_word", "_law_handed", "_law_book", "e", "_law_others", "_law_other"] ["_law_script"] (defScope s_law) := ⟨rfl, rfl, rfl, by decide +kernel, rfl, by decide +kernel, by decide +kernel⟩
theorem ok_law {oc kV doc pm ct : Value} {od an : Option Addr} {osl : Array (Option Value)} {cL PL : Addr} (T : Txt K mg a) (lL : K.lookup a.f_law = some ⟨oc, od, .func (PySem.W.fnOf "law" "law" (defArgs s_law) (defBody s_law) (defScope s_law) .none kV doc pm an (.ref cL) ct), osl⟩) (hcL : PySem.W.codeIn K (.ref cL) "law" = true) (hP : PL ∈ tabsOf K) (TB : LamX.TabB base mg cL PL) :
    FnOk P w K mg base (L2.CX P w) 8 a.f_law (PySem.W.fnOf "law" "law" (defArgs s_law) (defBody s_law) (defScope s_law) .none kV doc pm an (.ref cL) ct) ["_law_script"] (spD K 1 F_law) := by
  refine def_okC (k := 7) lL hcL sc_law rfl fun A outer s H E hr tk po hu => ?_
  have nd := sc_law.nd
  have hu5 := units5 hr
  exact ⟨_, (css_cons (cs_set 0 nd (ce_sl K (by rfl) (ce_var 0) co_none (co_some ce_int)))
  (css_cons (cs_for po rfl (ci_seq K (by rfl) (ce_b (o_add K (by rfl)) (ce_var 0) (ce_l (cf_lst (ca_cons ce_int (ca_cons ce_int (ca_cons ce_int ca_nil))))))) (cg_name 1 nd) (css_cons (cs_set 2 nd (ce_f K (by rfl) (ok__law_draws T) (hr.mono (by decide)) T.g__law_draws T.k__law_draws T.bd__law_draws tk (ca_cons (ce_var 1) (ca_cons (ce_l (cf_lst (ca_cons ce_int (ca_cons ce_int (ca_cons ce_int (ca_cons ce_int (ca_cons ce_int (ca_cons ce_int (ca_cons ce_int (ca_cons ce_int (ca_cons ce_int (ca_cons ce_int (ca_cons ce_int ca_nil))))))))))))) ca_nil))))
  (css_cons (cs_own 3 nd (cf_lst ca_nil))
  (css_cons (cs_for po rfl (ci_range1 T.b_range (ca_cons (ce_ix K (by rfl) (ce_var 2) ce_int) ca_nil)) (cg_name 4 nd) (css_cons (cs_set 5 nd (ce_ix K (by rfl) (ce_l (cf_lst (ca_cons ce_int (ca_cons ce_int (ca_cons ce_int (ca_cons ce_int (ca_cons ce_int ca_nil))))))) (ce_ix K (by rfl) (ce_var 2) (ce_b (o_add K (by rfl)) ce_int (ce_var 4)))))
  (css_one (cs_app 3 (ce_tup (ca_cons (ce_b (o_add K (by rfl)) (ce_sl K (by rfl) ce_str co_none (co_some (ce_b (o_add K (by rfl)) ce_int (ce_b o_mod (ce_var 4) ce_int)))) (ce_ix K (by rfl) ce_str (ce_var 4))) (ca_cons (ce_callTy (k_tuple K (by rfl)) T.b_tuple (by decide +kernel) (ca_cons (ce_sl K (by rfl) (ce_l (cf_lst (ca_cons ce_str (ca_cons ce_str (ca_cons ce_str (ca_cons ce_str ca_nil)))))) co_none (co_some (ce_var 5))) ca_nil)) ca_nil))) (pv 3)))))
  (css_cons (cs_set 6 nd (ce_lookL 3 (ce_ix K (by rfl) (ce_l (cf_lst (ca_cons ce_str (ca_cons ce_str (ca_cons ce_str (ca_cons ce_str (ca_cons ce_str (ca_cons ce_str (ca_cons ce_str (ca_cons (ce_if (ct_c (o_neNil K (by rfl) hu) (ce_var 3) (ce_l (cf_lst ca_nil))) (ce_ix K (by rfl) (ce_ix K (by rfl) (ce_var 3) ce_int) ce_int) ce_str) ca_nil)))))))))) (ce_ix K (by rfl) (ce_var 2) ce_int))))
  (css_cons (cs_if (ct_look 3 (ct_c (o_neNil K (by rfl) hu) (ce_var 3) (ce_l (cf_lst ca_nil)))) (css_cons (cs_set 7 nd (ce_lookL 3 (ce_b o_mod (ce_ix K (by rfl) (ce_var 2) ce_int) (ce_callB (k_len K (by rfl)) T.b_len (by decide +kernel) (ca_cons (ce_var 3) ca_nil)))))
  (css_cons (cs_if (ct_c (o_eq K (by rfl) hu) (ce_ix K (by rfl) (ce_var 2) ce_int) ce_int) (css_one (cs_put 3 (ce_lookL 3 (ce_tup (ca_cons (ce_var 6) (ca_cons (ce_ix K (by rfl) (ce_ix K (by rfl) (ce_var 3) (ce_var 7)) ce_int) ca_nil)))) (ce_var 7) (pv 3))) css_nil)
  (css_cons (cs_if (ct_c (o_eq K (by rfl) hu) (ce_ix K (by rfl) (ce_var 2) ce_int) ce_int) (css_one (cs_put 3 (ce_lookL 3 (ce_tup (ca_cons (ce_ix K (by rfl) (ce_ix K (by rfl) (ce_var 3) (ce_var 7)) ce_int) (ca_cons (ce_sl K (by rfl) (ce_ix K (by rfl) (ce_ix K (by rfl) (ce_var 3) (ce_var 7)) ce_int) co_none (co_some ce_int)) ca_nil)))) (ce_var 7) (pv 3))) css_nil)
  (css_one (cs_if (ct_c (o_eq K (by rfl) hu) (ce_ix K (by rfl) (ce_var 2) ce_int) ce_int) (css_one (cs_put 3 (ce_lookL 3 (ce_tup (ca_cons (ce_ix K (by rfl) (ce_ix K (by rfl) (ce_var 3) (ce_var 7)) ce_int) (ca_cons (ce_b (o_add K (by rfl)) (ce_ix K (by rfl) (ce_ix K (by rfl) (ce_var 3) (ce_var 7)) ce_int) (ce_tup (ca_cons (ce_var 6) (ca_cons ce_str (ca_cons ce_str ca_nil))))) ca_nil)))) (ce_var 7) (pv 3))) css_nil))))) css_nil)
  (css_cons (cs_fz 3 (cs_set 8 nd ce_str))
  (css_cons (cs_own 9 nd (cf_list K (by rfl) T.b_list (ce_var 3)))
  (css_cons (cs_set 10 nd ce_non)
  (css_cons (cs_tryT rfl rfl nd tk (fun W1 pn1 xe1 tk po => (css_one (cs_set 10 nd (ce_new (cn_look 9 (cn_make K (by rfl) T.kc_Book T.mk_Book (ok_Book_init T) (hr.mono (by decide)) T.mc_Book T.bd_Book_init .nil (fun _ => .nil) tk (ca_cons (ce_if (ct_c o_gt (ce_ix K (by rfl) (ce_var 2) ce_int) ce_int) (ce_var 9) (ce_callTy (k_tuple K (by rfl)) T.b_tuple (by decide +kernel) (ca_cons (ce_var 9) ca_nil))) ca_nil))))))) (HdsD.cons (i := 11) rfl rfl (ctest_2 ⟨rfl, by decide, .inl T.hm_BadName⟩ ⟨rfl, by decide, .inl T.hm_BadSizes⟩) (tabA_cons T.X_BadSizes.c (exa_cons T.ex_BadSizes_BadName (exa_cons T.ex_BadSizes_BadSizes exa_nil)) T.xc_BadSizes (tabA_cons T.X_BadRow.c (exa_cons T.ex_BadRow_BadName (exa_cons T.ex_BadRow_BadSizes exa_nil)) T.xc_BadRow (tabA_cons T.X_BadMany.c (exa_cons T.ex_BadMany_BadName (exa_cons T.ex_BadMany_BadSizes exa_nil)) T.xc_BadMany (tabA_cons T.X_BadDeed.c (exa_cons T.ex_BadDeed_BadName (exa_cons T.ex_BadDeed_BadSizes exa_nil)) T.xc_BadDeed (tabA_cons T.X_Same.c (exa_cons T.ex_Same_BadName (exa_cons T.ex_Same_BadSizes exa_nil)) T.xc_Same (tabA_cons T.X_Taken.c (exa_cons T.ex_Taken_BadName (exa_cons T.ex_Taken_BadSizes exa_nil)) T.xc_Taken (tabA_cons T.X_Full.c (exa_cons T.ex_Full_BadName (exa_cons T.ex_Full_BadSizes exa_nil)) T.xc_Full (tabA_cons T.X_BadName.c (exa_cons T.ex_BadName_BadName (exa_cons T.ex_BadName_BadSizes exa_nil)) T.xc_BadName (tabA_cons T.X_Ring.c (exa_cons T.ex_Ring_BadName (exa_cons T.ex_Ring_BadSizes exa_nil)) T.xc_Ring (tabA_cons T.X_NoRows.c (exa_cons T.ex_NoRows_BadName (exa_cons T.ex_NoRows_BadSizes exa_nil)) T.xc_NoRows (tabA_cons T.X_NoColumn.c (exa_cons T.ex_NoColumn_BadName (exa_cons T.ex_NoColumn_BadSizes exa_nil)) T.xc_NoColumn (tabA_cons T.X_NotBound.c (exa_cons T.ex_NotBound_BadName (exa_cons T.ex_NotBound_BadSizes exa_nil)) T.xc_NotBound tabA_nil)))))))))))) (cxs_asg 8 nd (cex_fld (fun _ _ _ _ _ _ _ => pv 11))) HdsD.nil))
  (css_cons (cs_if (ct_c (o_ne K (by rfl) hu) (ce_var 8) (ce_f K (by rfl) (ok__law_word_due T) (hr.mono (by decide)) T.g__law_word_due T.k__law_word_due T.bd__law_word_due tk (ca_cons (ce_var 3) ca_nil))) (css_one (cs_ret ce_bl)) css_nil)
  (css_one (cs_if (ct_c (o_eq K (by rfl) hu) (ce_var 8) ce_str) (css_cons (cs_app 9 (ce_tup (ca_cons ce_str (ca_cons (ce_tup (ca_cons ce_str (ca_cons ce_str ca_nil))) ca_nil))) (pv 9))
  (css_cons (cs_if (CW.ct (cw_or (ct_not (ct_val (ce_f K (by rfl) (ok__law_same T 6) (hr.mono (by decide)) T.g__law_same T.k__law_same T.bd__law_same tk (ca_cons (ce_mth0 K (by rfl) T.kc_Book T.M_Book_columns (ok_Book_columns T) (hr.mono (by decide)) T.bd_Book_columns .nil (fun _ => .nil) tk (ce_var 10)) (ca_cons (ce_var 3) ca_nil))))) (cw_or (ct_c (o_ne K (by rfl) hu) (ce_lenO K (by rfl) T.kc_Book T.M_Book_len (ok_Book_len T) (hr.mono (by decide)) T.bd_Book_len T.b_len (ce_var 10)) ce_int) (cw_or1 (ct_not (ct_eqO K (by rfl) T.kc_Book T.M_Book_eq (ok_Book_eq T) (hr.mono (by decide)) T.bd_Book_eq (ce_var 10) (ce_new (cn_make K (by rfl) T.kc_Book T.mk_Book (ok_Book_init T) (hr.mono (by decide)) T.mc_Book T.bd_Book_init .nil (fun _ => .nil) tk (ca_cons (ce_var 3) ca_nil))))))))) (css_one (cs_ret ce_bl)) css_nil)
  (css_cons (cs_own 12 nd (cf_lst (ca_cons (ce_b (o_add K (by rfl)) (ce_l (cf_lst (ca_cons (ce_tup (ca_cons ce_str (ca_cons (ce_ix K (by rfl) (ce_ix K (by rfl) (ce_var 3) ce_int) ce_int) ca_nil))) ca_nil))) (ce_sl K (by rfl) (ce_var 3) (co_some ce_int) co_none)) (ca_cons (ce_b (o_add K (by rfl)) (ce_l (cf_lst (ca_cons (ce_tup (ca_cons (ce_ix K (by rfl) (ce_ix K (by rfl) (ce_var 3) ce_int) ce_int) (ca_cons (ce_rev K (by rfl) (ce_ix K (by rfl) (ce_ix K (by rfl) (ce_var 3) ce_int) ce_int)) ca_nil))) ca_nil))) (ce_sl K (by rfl) (ce_var 3) (co_some ce_int) co_none)) ca_nil))))
  (css_cons (cs_app 12 (ce_b (o_add K (by rfl)) (ce_l (cf_lst (ca_cons (ce_tup (ca_cons (ce_ix K (by rfl) (ce_ix K (by rfl) (ce_var 3) ce_int) ce_int) (ca_cons (ce_b (o_add K (by rfl)) (ce_tup (ca_cons ce_str ca_nil)) (ce_sl K (by rfl) (ce_ix K (by rfl) (ce_ix K (by rfl) (ce_var 3) ce_int) ce_int) (co_some ce_int) co_none)) ca_nil))) ca_nil))) (ce_sl K (by rfl) (ce_var 3) (co_some ce_int) co_none)) (pv 12))
  (css_one (cs_if (ct_look 12 (ct_val (ce_callB (k_any K (by rfl) (by rfl)) T.b_any (by decide +kernel) (ca_cons (ce_l (lc_1 (own := [("_law_other", 13)]) s rfl nd (ci_seq K (by rfl) (ce_var 12)) (blkOk_by (by kernel_rfl)) (fun _ _ _ _ _ => (cg_name 13 nd)) (fun _ _ _ _ _ => cts_nil) (fun _ _ _ _ _ => (ce_or (ce_eqO K (by rfl) T.kc_Book T.M_Book_eq (ok_Book_eq T) (hr.mono (by decide)) T.bd_Book_eq (ce_var 10) (ce_new (cn_make K (by rfl) T.kc_Book T.mk_Book (ok_Book_init T) (hr.mono (by decide)) T.mc_Book T.bd_Book_init .nil (fun _ => .nil) takes0 (ca_cons (ce_var 13) ca_nil)))) (ce_one (ce_eqO K (by rfl) T.kc_Book T.M_Book_eq (ok_Book_eq T) (hr.mono (by decide)) T.bd_Book_eq (ce_new (cn_make K (by rfl) T.kc_Book T.mk_Book (ok_Book_init T) (hr.mono (by decide)) T.mc_Book T.bd_Book_init .nil (fun _ => .nil) takes0 (ca_cons (ce_var 13) ca_nil))) (ce_var 10)))))).toCF) ca_nil)))) (css_one (cs_ret ce_bl)) css_nil)))))) css_nil)))))))))))))
  (css_one (cs_ret ce_bl))))⟩
end
end My
namespace DV
open PySem L2
theorem forF_inv {β : Type} (f : β → D) (P : DS → Prop) {b : D → DS → Option DS} {g : DS → Fl} : ∀ (xs : List β) (δ : DS), P δ →
    (∀ δ x, x ∈ xs → P δ → ∃ δ' δ2, b (f x) δ = some δ' ∧ g δ' = .nx δ2 ∧ P δ2) → ∃ δ2, forF b g (xs.map f) δ = .nx δ2 ∧ P δ2
  | [], δ, hp, _ => ⟨δ, rfl, hp⟩
  | x :: xs, δ, hp, h => by
    obtain ⟨δ', δ2, h1, h2, h3⟩ := h δ x (by simp) hp
    obtain ⟨δ3, h4, h5⟩ := forF_inv f P xs δ2 h3 fun δ y hy => h δ y (by simp [hy])
    refine ⟨δ3, ?_, h5⟩
    rw [List.map_cons, forF, h1]
    dsimp only
    rw [h2]
    exact h4
theorem lcF_map {β : Type} (f : β → D) (h : β → D) {b : D → DS → Option DS} {t : DS → Res Bool} {e : DS → Res D} {δ : DS} : ∀ xs : List β,
    (∀ x, x ∈ xs → ∃ δ', b (f x) δ = some δ' ∧ t δ' = .ok true ∧ e δ' = .ok (h x)) → lcF b t e (xs.map f) δ = .ok (xs.map h)
  | [], _ => rfl
  | x :: xs, hh => by
    obtain ⟨δ', h1, h2, h3⟩ := hh x (by simp)
    rw [List.map_cons, lcF, h1]
    dsimp only
    rw [h2, h3]
    simp only [Res.calm_ok, Res.bind_ok, if_true]
    rw [lcF_map f h xs fun y hy => hh y (by simp [hy])]
    rfl
theorem lcF_filter {β : Type} (f : β → D) (p : β → Bool) (h : β → D) {b : D → DS → Option DS} {t : DS → Res Bool} {e : DS → Res D} {δ : DS} : ∀ xs : List β,
    (∀ x, x ∈ xs → ∃ δ', b (f x) δ = some δ' ∧ t δ' = .ok (p x) ∧ (p x = true → e δ' = .ok (h x))) → lcF b t e (xs.map f) δ = .ok ((xs.filter p).map h)
  | [], _ => rfl
  | x :: xs, hh => by
    obtain ⟨δ', h1, h2, h3⟩ := hh x (by simp)
    have ih := lcF_filter f p h xs fun y hy => hh y (by simp [hy])
    rw [List.map_cons, lcF, h1]
    dsimp only
    rw [h2]
    simp only [Res.calm_ok, Res.bind_ok]
    cases hp : p x with
    | true =>
      rw [if_pos rfl, h3 hp, Res.calm_ok, Res.bind_ok, ih, Res.bind_ok, List.filter_cons, if_pos hp]
      rfl
    | false =>
      rw [if_neg Bool.false_ne_true, ih, List.filter_cons, if_neg (by rw [hp]; exact Bool.false_ne_true)]
theorem cutD_map {β : Type} (f : β → D) (xs : List β) (lo hi : Option Int) : cutD (xs.map f) lo hi = ((xs.drop (HT.sIx xs.length 0 lo)).take (HT.sIx xs.length xs.length hi - HT.sIx xs.length 0 lo)).map f := by
  unfold cutD
  rw [List.length_map, List.map_take, List.map_drop]
theorem mul_ok {i j : Int} {a b : Nat} (ha : i.natAbs < 2 ^ a) (hb : j.natAbs < 2 ^ b) (h0 : 0 < a) (h1 : 0 < b) (h : a + b ≤ 1000000) : i.natAbs.log2 + j.natAbs.log2 < 1000000 := wide_mul ha hb h0 h1 h
theorem oMul_int {i j : Int} (h : i.natAbs.log2 + j.natAbs.log2 < 1000000) : oMul2 (.int i) (.int j) = .ok (.int (i * j)) := by
  show (if i.natAbs.log2 + j.natAbs.log2 < 1000000 then _ else _) = _
  rw [if_pos h]
theorem oMulI_int {i j : Int} (h : i.natAbs.log2 + j.natAbs.log2 < 1000000) : oMulI (.int i) (.int j) = .ok (.int (i * j)) := by
  show (if i.natAbs.log2 + j.natAbs.log2 < 1000000 then _ else _) = _
  rw [if_pos h]
theorem oMod_pos {i j : Int} (h : 0 < j) : oMod (.int i) (.int j) = .ok (.int (i % j)) := by
  show (if j ≠ 0 then _ else _) = _
  rw [if_pos (by omega), Int.fmod_eq_emod_of_nonneg i (by omega)]
theorem log2_small {n k : Nat} (h0 : 0 < k) (h : n < 2 ^ k) : n.log2 < k := PySem.Flt.log2_lt_of h0 h
theorem oFdiv_pos {i j : Int} (h : 0 < j) (hl : j.natAbs < 2 ^ 9000) : oFdiv (.int i) (.int j) = .ok (.int (i / j)) := by
  show (if j ≠ 0 ∧ j.natAbs.log2 < 9000 then _ else _) = _
  rw [if_pos ⟨by omega, log2_small (by decide) hl⟩, Int.fdiv_eq_ediv_of_nonneg i (by omega)]
theorem oAdd_int (i j : Int) : oAdd (.int i) (.int j) = .ok (.int (i + j)) := rfl
theorem oSub_int (i j : Int) : oSub (.int i) (.int j) = .ok (.int (i - j)) := rfl
theorem oEq_int (i j : Int) : oEq (.int i) (.int j) = .ok (.bl (decide (i = j))) := by
  show (if SeqAt.shaped (.int i) = true ∧ SeqAt.shaped (.int j) = true then Res.ok (D.bl (if false = true then _ else i == j)) else .no) = _
  rw [if_pos ⟨by rfl, by rfl⟩]
  rfl
theorem oNe_int (i j : Int) : oNe (.int i) (.int j) = .ok (.bl (!decide (i = j))) := by
  show (if SeqAt.shaped (.int i) = true ∧ SeqAt.shaped (.int j) = true then Res.ok (D.bl (if true = true then !(i == j) else _)) else .no) = _
  rw [if_pos ⟨by rfl, by rfl⟩]
  rfl
theorem oEq_bl (i j : Bool) : oEq (.bl i) (.bl j) = .ok (.bl (i == j)) := by
  cases i <;> cases j <;> rfl
theorem oNe_bl (i j : Bool) : oNe (.bl i) (.bl j) = .ok (.bl (!(i == j))) := by
  cases i <;> cases j <;> rfl
theorem gRange1_nat {n : Nat} (hz : n ≤ sizeLine) : gRange1 [D.int (n : Int)] = .ok (rangeD 0 n) := by
  rw [sizeLine_eq] at hz
  unfold gRange1
  dsimp only
  rw [if_pos (by omega), Int.toNat_natCast]
theorem rangeD_len (lo : Int) (n : Nat) : (rangeD lo n).length = n := by simp [rangeD]
theorem for_r {fi : DS → Res (List D)} {b : D → DS → Option DS} {g : DS → Fl} {δ : DS} {ds : List D} {r : Fl} (h : fi δ = .ok ds) (hf : forF b g ds δ = r) : cFor fi b g δ = r := by
  rw [cFor, h]
  exact hf
end DV
namespace My
open PySem L2 DV
noncomputable def digs : Int → List Int → List Int
  | _, [] => []
  | m, s :: ss => m % s :: digs (m / s) ss
theorem draws_loop (L : D) (o2 o3 o4 : Option O) : ∀ (ss : List Int) (m : Int) (ds : List D) (o : Option O), (∀ s ∈ ss, 0 < s ∧ s < 2 ^ 31) → ds.length + ss.length < 1000 →
    ∃ m' o', forF (bName 6) (cSeq (cApp 5 (cBin oMod (cVar 0) (cVar 6))) (cAsg 0 (cBin oFdiv (cVar 0) (cVar 6)))) (ss.map D.int) [some (.im (.int m)), some (.im L), o2, o3, o4, some (.ow ds), o] =
      .nx [some (.im (.int m')), some (.im L), o2, o3, o4, some (.ow (ds ++ (digs m ss).map D.int)), o']
  | [], m, ds, o, _, _ => ⟨m, o, by simp [forF, digs]⟩
  | s :: ss, m, ds, o, hs, hl => by
    obtain ⟨h1, h2⟩ := hs s (by simp)
    have hl2 : ds.length + (ss.length + 1) < 1000 := by simpa using hl
    have hz : ds.length < sizeLine := Nat.lt_trans (by omega : ds.length < 1000) (by decide)
    obtain ⟨m', o', ih⟩ := draws_loop L o2 o3 o4 ss (m / s) (ds ++ [D.int (m % s)]) (some (.im (.int s))) (fun x hx => hs x (by simp [hx])) (by simp; omega)
    refine ⟨m', o', ?_⟩
    have hs9 : s.natAbs < 2 ^ 9000 := Nat.lt_of_lt_of_le (show s.natAbs < 2 ^ 31 by omega) (Nat.pow_le_pow_right (by decide) (by decide))
    rw [List.map_cons, forF]
    simp only [bName, List.set_cons_succ, List.set_cons_zero]
    have e1 : oMod (.int m) (.int s) = .ok (.int (m % s)) := oMod_pos h1
    have e2 : oFdiv (.int m) (.int s) = .ok (.int (m / s)) := oFdiv_pos h1 hs9
    have eb : cSeq (cApp 5 (cBin oMod (cVar 0) (cVar 6))) (cAsg 0 (cBin oFdiv (cVar 0) (cVar 6))) [some (.im (.int m)), some (.im L), o2, o3, o4, some (.ow ds), some (.im (.int s))] =
        .nx [some (.im (.int (m / s))), some (.im L), o2, o3, o4, some (.ow (ds ++ [D.int (m % s)])), some (.im (.int s))] := by
      simp [cSeq, cApp, cBin, cVar, cAsg, e1, e2, hz]
    rw [eb]
    dsimp only
    rw [ih]
    simp [digs]
theorem draws_ok (c : Int) (ss : List Int) (hs : ∀ s ∈ ss, 0 < s ∧ s < 2 ^ 31) (hl : ss.length < 1000) : ∃ m, F__law_draws [.int c, .lst (ss.map D.int)] = .ok (.lst ((digs m ss).map D.int)) := by
  have fin : ∀ (m : Int) (o2 o3 o4 : Option O), flR (((cSeq (cOwn 5 cNil) (cSeq (cFor (cItems (cVar 1)) (bName 6) (cSeq (cApp 5 (cBin oMod (cVar 0) (cVar 6))) (cAsg 0 (cBin oFdiv (cVar 0) (cVar 6))))) (cFz 5 (cRet (cVar 5)))))) [some (.im (.int m)), some (.im (.lst (ss.map D.int))), o2, o3, o4, none, none]) = .ok (.lst ((digs m ss).map D.int)) := by
    intro m o2 o3 o4
    obtain ⟨m', o', h⟩ := draws_loop (.lst (ss.map D.int)) o2 o3 o4 ss m [] none hs (by simpa using hl)
    simp only [List.nil_append] at h
    simp [cSeq, cOwn, cNil, cFor, cItems, cVar, itemsD, h, cFz, fz, cRet]
  unfold F__law_draws defF g__law_draws
  have est : st0 5 [D.int c, .lst (ss.map D.int)] = [some (.im (.int c)), some (.im (.lst (ss.map D.int))), none, none, none, none, none] := rfl
  rw [est, cSeq]
  have p1 : oPow (.int 10) (.int 18) = .ok (.int (10 ^ 18)) := by rfl
  have htest : (cTest (cBin oLt (cCall gAbs (cCons (cVar 0) cNil)) (cBin oPow (cC (.int 10)) (cC (.int 18))))) [some (.im (.int c)), some (.im (.lst (ss.map D.int))), none, none, none, none, none] = .ok (decide ((if c < 0 then -c else c) < 10 ^ 18)) := by
    simp [cTest, cBin, cCall, gAbs, cCons, cVar, cNil, cC, p1, oI, asB]
  by_cases hc : (if c < 0 then -c else c) < 10 ^ 18
  · have hc1 : c.natAbs < 2 ^ 60 := by
      have : (10 : Int) ^ 18 < 2 ^ 60 := by decide
      split at hc <;> omega
    have m1 : oMul2 (.int c) (.int 48271) = .ok (.int (c * 48271)) := oMul_int (mul_ok (a := 60) (b := 16) hc1 (by decide) (by decide) (by decide) (by decide))
    have hm0 : 0 ≤ (c * 48271 + 11) % 2147483647 ∧ (c * 48271 + 11) % 2147483647 < 2147483647 := by omega
    generalize hmx : (c * 48271 + 11) % 2147483647 = mx at hm0
    have m2 : oMul2 (.int mx) (.int mx) = .ok (.int (mx * mx)) := oMul_int (mul_ok (a := 31) (b := 31) (by omega) (by omega) (by decide) (by decide) (by decide))
    have m3 : oMul2 (.int 40692) (.int mx) = .ok (.int (40692 * mx)) := oMul_int (mul_ok (a := 31) (b := 31) (by decide) (by omega) (by decide) (by decide) (by decide))
    have ht0 : 0 ≤ (mx * mx + 40692 * mx + c) % 2147483399 ∧ (mx * mx + 40692 * mx + c) % 2147483399 < 2147483399 := ⟨Int.emod_nonneg _ (by decide), Int.emod_lt_of_pos _ (by decide)⟩
    generalize htw : (mx * mx + 40692 * mx + c) % 2147483399 = tw at ht0
    have m4 : oMul2 (.int tw) (.int 16807) = .ok (.int (tw * 16807)) := oMul_int (mul_ok (a := 31) (b := 31) (by omega) (by decide) (by decide) (by decide) (by decide))
    have hx0 : 0 ≤ (tw * 16807 + mx) % 1000000007 ∧ (tw * 16807 + mx) % 1000000007 < 1000000007 := by omega
    generalize hsx : (tw * 16807 + mx) % 1000000007 = sx at hx0
    have m5 : oMul2 (.int 1000000007) (.int mx) = .ok (.int (1000000007 * mx)) := oMul_int (mul_ok (a := 31) (b := 31) (by decide) (by omega) (by decide) (by decide) (by decide))
    have m6 : oMul2 (.int 2147483399) (.int (sx + 1000000007 * mx)) = .ok (.int (2147483399 * (sx + 1000000007 * mx))) := oMul_int (mul_ok (a := 32) (b := 64) (by decide) (by omega) (by decide) (by decide) (by decide))
    have d1 : oMod (.int (c * 48271 + 11)) (.int 2147483647) = .ok (.int mx) := by rw [oMod_pos (by decide), hmx]
    have d2 : oMod (.int (mx * mx + 40692 * mx + c)) (.int 2147483399) = .ok (.int tw) := by rw [oMod_pos (by decide), htw]
    have d3 : oMod (.int (tw * 16807 + mx)) (.int 1000000007) = .ok (.int sx) := by rw [oMod_pos (by decide), hsx]
    refine ⟨tw + 2147483399 * (sx + 1000000007 * mx), ?_⟩
    have hif : cIf (cTest (cBin oLt (cCall gAbs (cCons (cVar 0) cNil)) (cBin oPow (cC (.int 10)) (cC (.int 18))))) (cSeq (cAsg 2 (cBin oMod (cBin oAdd (cBin oMul2 (cVar 0) (cC (.int 48271))) (cC (.int 11))) (cC (.int 2147483647))))
        (cSeq (cAsg 3 (cBin oMod (cBin oAdd (cBin oAdd (cBin oMul2 (cVar 2) (cVar 2)) (cBin oMul2 (cC (.int 40692)) (cVar 2))) (cVar 0)) (cC (.int 2147483399))))
        (cSeq (cAsg 4 (cBin oMod (cBin oAdd (cBin oMul2 (cVar 3) (cC (.int 16807))) (cVar 2)) (cC (.int 1000000007))))
        (cAsg 0 (cBin oAdd (cVar 3) (cBin oMul2 (cC (.int 2147483399)) (cBin oAdd (cVar 4) (cBin oMul2 (cC (.int 1000000007)) (cVar 2))))))))) (cAsg 0 (cBin oSub (cCall gAbs (cCons (cVar 0) cNil)) (cBin oPow (cC (.int 10)) (cC (.int 18)))))
        [some (.im (.int c)), some (.im (.lst (ss.map D.int))), none, none, none, none, none] = .nx [some (.im (.int (tw + 2147483399 * (sx + 1000000007 * mx)))), some (.im (.lst (ss.map D.int))), some (.im (.int mx)), some (.im (.int tw)), some (.im (.int sx)), none, none] := by
      rw [cIf, htest, stE_ok, if_pos (decide_eq_true hc)]
      simp [cBin, cVar, cC, cSeq, cAsg, oAdd_int, m1, m2, m3, m4, m5, m6, d1, d2, d3]
    rw [hif]
    exact fin _ _ _ _
  · refine ⟨(if c < 0 then -c else c) - 10 ^ 18, ?_⟩
    have hif : cIf (cTest (cBin oLt (cCall gAbs (cCons (cVar 0) cNil)) (cBin oPow (cC (.int 10)) (cC (.int 18))))) (cSeq (cAsg 2 (cBin oMod (cBin oAdd (cBin oMul2 (cVar 0) (cC (.int 48271))) (cC (.int 11))) (cC (.int 2147483647))))
        (cSeq (cAsg 3 (cBin oMod (cBin oAdd (cBin oAdd (cBin oMul2 (cVar 2) (cVar 2)) (cBin oMul2 (cC (.int 40692)) (cVar 2))) (cVar 0)) (cC (.int 2147483399))))
        (cSeq (cAsg 4 (cBin oMod (cBin oAdd (cBin oMul2 (cVar 3) (cC (.int 16807))) (cVar 2)) (cC (.int 1000000007))))
        (cAsg 0 (cBin oAdd (cVar 3) (cBin oMul2 (cC (.int 2147483399)) (cBin oAdd (cVar 4) (cBin oMul2 (cC (.int 1000000007)) (cVar 2))))))))) (cAsg 0 (cBin oSub (cCall gAbs (cCons (cVar 0) cNil)) (cBin oPow (cC (.int 10)) (cC (.int 18)))))
        [some (.im (.int c)), some (.im (.lst (ss.map D.int))), none, none, none, none, none] = .nx [some (.im (.int ((if c < 0 then -c else c) - 10 ^ 18))), some (.im (.lst (ss.map D.int))), none, none, none, none, none] := by
      rw [cIf, htest, stE_ok, if_neg (by simpa using hc)]
      simp [cBin, cVar, cC, cCall, gAbs, cCons, cNil, cAsg, p1, oSub_int]
    rw [hif]
    exact fin _ _ _ _
end My
namespace My
open PySem L2 DV
noncomputable def scalP : V → Prop
  | .non => True
  | .bl _ => True
  | .int _ => True
  | .str z => SeqAt.shaped (.str z) = true
  | _ => False
noncomputable def plain : Nat → D → Prop
  | 0, d => match d with
    | .v x => scalP x
    | _ => False
  | n + 1, d => match d with
    | .v x => scalP x
    | .lst xs => xs.length ≤ sizeLine ∧ ∀ x ∈ xs, plain n x
    | .tup xs => xs.length ≤ sizeLine ∧ ∀ x ∈ xs, plain n x
    | _ => False
theorem oEq_str {z : Str} (h : SeqAt.shaped (.str z) = true) : oEq (.str z) (.str z) = .ok (.bl true) := by
  show (if SeqAt.shaped (.str z) = true ∧ SeqAt.shaped (.str z) = true then Res.ok (D.bl (if false = true then _ else z == z)) else .no) = _
  rw [if_pos ⟨h, h⟩]
  simp
theorem all_true : ∀ n : Nat, gAll [.lst ((List.range n).map fun _ => D.bl true)] = .ok (.bl true) := fun n => by
  have e : ((List.range n).map fun _ => D.bl true) = ((List.range n).map fun _ => true).map D.bl := by simp
  unfold gAll gBls
  dsimp only
  rw [e, blsD_map]
  dsimp only
  congr 2
  simp
theorem same_items {n : Nat} {xs : List D} {δ0 δ1 : O} (ih : ∀ x ∈ xs, F__law_same (n + 1) [x, x] = .ok (.bl true)) (hx : ∀ (i : Nat) (d : D), xs[i]? = some d → (cBin oIx (cVar 0) (cVar 2)) [some δ0, some δ1, some (.im (.int (0 + (i : Int))))] = .ok d ∧ (cBin oIx (cVar 1) (cVar 2)) [some δ0, some δ1, some (.im (.int (0 + (i : Int))))] = .ok d) :
    lcF (bName 2) cYes (cFn0 (F__law_same (n + 1)) (cCons (cBin oIx (cVar 0) (cVar 2)) (cCons (cBin oIx (cVar 1) (cVar 2)) cNil))) (rangeD 0 xs.length) [some δ0, some δ1, none] = .ok ((List.range xs.length).map fun _ => D.bl true) := by
  unfold rangeD
  refine lcF_map _ _ _ fun i hi => ?_
  have hi' : i < xs.length := List.mem_range.mp hi
  obtain ⟨h1, h2⟩ := hx i xs[i] (by simp [hi'])
  refine ⟨_, rfl, rfl, ?_⟩
  show cFn0 _ _ [some δ0, some δ1, some (.im (.int (0 + (i : Int))))] = _
  simp only [cFn0, cCons, h1, h2, cNil, Res.bind_ok]
  exact ih _ (List.getElem_mem hi')
theorem ix_at {xs : List D} {i : Nat} {d : D} (h : xs[i]? = some d) : atI xs (0 + (i : Int)) = some d := by
  rw [Int.zero_add]
  exact atI_nat h
theorem same_scal (n : Nat) : ∀ (x : V), scalP x → F__law_same (n + 1) [.v x, .v x] = .ok (.bl true)
  | .non, _ => by
    simp [F__law_same, defF, g__law_same, st0, cSeq, cIf, cTest, cBin, oIsN, cVar, cC, asB, DV.isNon, cRet]
  | .bl b, _ => by
    simp [F__law_same, defF, g__law_same, st0, cSeq, cIf, cTest, cBin, oIsN, cVar, cC, asB, DV.isNon, cRet, cCall, gIsi, isiD, tyD, cCons, cNil, cNext, cAndV, oEq_bl]
  | .int i, _ => by
    have e := oEq_int i i
    simp at e
    simp [F__law_same, defF, g__law_same, st0, cSeq, cIf, cTest, cBin, oIsN, cVar, cC, asB, DV.isNon, cRet, cCall, gIsi, isiD, tyD, cCons, cNil, cNext, cAndV, oEq_bl, e]
  | .str z, h => by
    have e := oEq_str h
    simp [F__law_same, defF, g__law_same, st0, cSeq, cIf, cTest, cBin, oIsN, cVar, cC, asB, DV.isNon, cRet, cCall, gIsi, isiD, tyD, cCons, cNil, cNext, cAndV, oEq_bl, e]
theorem same_lst {n : Nat} {xs : List D} (hz : xs.length ≤ sizeLine) (ih : ∀ x ∈ xs, F__law_same (n + 1) [x, x] = .ok (.bl true)) : F__law_same (n + 1 + 1) [.lst xs, .lst xs] = .ok (.bl true) := by
  have e := oEq_int (xs.length : Int) xs.length
  simp at e
  have hl := same_items (n := n) (δ0 := .im (.lst xs)) (δ1 := .im (.lst xs)) ih fun i d hi => by
    simp [cBin, cVar, oIx, ix_at hi, atI_nat hi]
  have hr := gRange1_nat hz
  have hz2 : (rangeD 0 xs.length).length ≤ sizeLine := by rw [rangeD_len]; exact hz
  have ha := all_true xs.length
  rw [F__law_same]
  simp [defF, g__law_same, st0, cSeq, cIf, cTest, cBin, oIsN, cVar, cC, asB, DV.isNon, cRet, cCall, gIsi, isiD, tyD, cCons, cNil, cNext, cAndV, cOrT, oNe_bl, oEq_bl, gLen, e, cL, cLc, cIt, hr, hz2, wipeD, hl, ha]
theorem same_tup {n : Nat} {xs : List D} (hz : xs.length ≤ sizeLine) (ih : ∀ x ∈ xs, F__law_same (n + 1) [x, x] = .ok (.bl true)) : F__law_same (n + 1 + 1) [.tup xs, .tup xs] = .ok (.bl true) := by
  have e := oEq_int (xs.length : Int) xs.length
  simp at e
  have hl := same_items (n := n) (δ0 := .im (.tup xs)) (δ1 := .im (.tup xs)) ih fun i d hi => by
    simp [cBin, cVar, oIx, ix_at hi, atI_nat hi]
  have hr := gRange1_nat hz
  have hz2 : (rangeD 0 xs.length).length ≤ sizeLine := by rw [rangeD_len]; exact hz
  have ha := all_true xs.length
  rw [F__law_same]
  simp [defF, g__law_same, st0, cSeq, cIf, cTest, cBin, oIsN, cVar, cC, asB, DV.isNon, cRet, cCall, gIsi, isiD, tyD, cCons, cNil, cNext, cAndV, cOrT, oNe_bl, oEq_bl, gLen, e, cL, cLc, cIt, hr, hz2, wipeD, hl, ha]
theorem same_refl (n : Nat) : ∀ (d : D), plain n d → F__law_same (n + 1) [d, d] = .ok (.bl true) := by
  induction n with
  | zero =>
    intro d h
    cases d with
    | v x => exact same_scal 0 x h
    | lst _ => exact h.elim
    | tup _ => exact h.elim
    | _ => exact h.elim
  | succ n ih =>
    intro d h
    cases d with
    | v x => exact same_scal (n + 1) x h
    | lst xs => exact same_lst h.1 fun x hx => ih x (h.2 x hx)
    | tup xs => exact same_tup h.1 fun x hx => ih x (h.2 x hx)
    | _ => exact h.elim
end My
namespace DV
open PySem L2
section
variable {δ : DS} {f f' : DS → Res D} {fs fk : DS → Res (List D)} {t u : DS → Res Bool} {g h : DS → Fl} {i : Nat}
@[simp] theorem ev_var : cVar i δ = (match δ[i]? with | some (some (.im d)) => .ok d | _ => .no) := rfl
@[simp] theorem ev_c {d : D} : cC d δ = .ok d := rfl
@[simp] theorem ev_bin {o : D → D → Res D} : cBin o f f' δ = (f δ).bind fun x => (f' δ).bind fun y => o x y := rfl
@[simp] theorem ev_un {o : D → Res D} : cUn o f δ = (f δ).bind o := rfl
@[simp] theorem ev_chain {o o' : D → D → Res D} {fb fc : DS → Res D} : cChain o o' f fb fc δ = (f δ).bind fun x => (fb δ).bind fun y => (o x y).bind fun k => (match k with
  | .v (.bl true) => (fc δ).bind fun z => o' y z
  | .v (.bl false) => .ok (.bl false)
  | _ => .no) := rfl
@[simp] theorem ev_test : cTest f δ = (f δ).bind asB := rfl
@[simp] theorem ev_asB {b : Bool} : asB (.v (.bl b)) = .ok b := rfl
@[simp] theorem ev_asI {b : Int} : asI (.v (.int b)) = .ok (some b) := rfl
@[simp] theorem ev_notT : cNotT t δ = (t δ).bind fun b => .ok (!b) := rfl
@[simp] theorem ev_orT : cOrT t u δ = (t δ).bind fun b => if b = true then .ok true else u δ := rfl
@[simp] theorem ev_andV : cAndV f f' δ = (f δ).bind fun x => (match x with
  | .v (.bl true) => f' δ
  | .v (.bl false) => .ok (.bl false)
  | _ => .no) := rfl
@[simp] theorem ev_orV : cOrV f f' δ = (f δ).bind fun x => (match x with
  | .v (.bl true) => .ok (.bl true)
  | .v (.bl false) => f' δ
  | _ => .no) := rfl
@[simp] theorem ev_ifE : cIfE t f f' δ = (t δ).bind fun b => if b = true then f δ else f' δ := rfl
@[simp] theorem ev_nil : cNil δ = .ok [] := rfl
@[simp] theorem ev_cons : cCons f fs δ = (f δ).bind fun x => (fs δ).bind fun xs => .ok (x :: xs) := rfl
@[simp] theorem ev_tup : cTup fs δ = (fs δ).bind fun ds => .ok (.tup ds) := rfl
@[simp] theorem ev_L : cL fs δ = (fs δ).bind fun ds => .ok (.lst ds) := rfl
@[simp] theorem ev_call {c : List D → Res D} : cCall c fs δ = (fs δ).bind c := rfl
@[simp] theorem ev_fn0 {F : List D → Res D} : cFn0 F fs δ = (fs δ).bind F := rfl
@[simp] theorem ev_fn {F : List D → Res D} {dd : List D} : cFn F dd fs δ = (fs δ).bind fun ds => F (ds ++ dd) := rfl
@[simp] theorem ev_pk_p {α : Type} {z : α} {us ws : List α} {n : Nat} : Pk.get z us ws (.p n) = us.getD n z := rfl
@[simp] theorem ev_pk_k {α : Type} {z : α} {us ws : List α} {n : Nat} : Pk.get z us ws (.k n) = ws.getD n z := rfl
@[simp] theorem ev_pk_c {α : Type} {z x : α} {us ws : List α} : Pk.get z us ws (.c x) = x := rfl
@[simp] theorem ev_items : cItems f δ = (f δ).bind itemsD := rfl
@[simp] theorem ev_items_l {xs : List D} : itemsD (.lst xs) = .ok xs := rfl
@[simp] theorem ev_items_t {xs : List D} : itemsD (.tup xs) = .ok xs := rfl
@[simp] theorem ev_it {c : List D → Res (List D)} : cIt c fs δ = (fs δ).bind c := rfl
@[simp] theorem ev_lc {vs : List Nat} {b : D → DS → Option DS} : cLc vs fs b t f δ = (fs δ).bind fun ds => if ds.length ≤ sizeLine then lcF b t f ds (wipeD δ vs) else .no := rfl
@[simp] theorem ev_yes : cYes δ = .ok true := rfl
@[simp] theorem ev_wipe0 : wipeD δ [] = δ := rfl
@[simp] theorem ev_wipe1 {v : Nat} {vs : List Nat} : wipeD δ (v :: vs) = (wipeD δ vs).set v none := rfl
@[simp] theorem ev_none : cNone δ = .ok none := rfl
@[simp] theorem ev_some : cSome f δ = (f δ).bind asI := rfl
@[simp] theorem ev_sl {lo hi : DS → Res (Option Int)} : cSl f lo hi δ = (f δ).bind fun x => (lo δ).bind fun l => (hi δ).bind fun h => oSl l h x := rfl
@[simp] theorem ev_slt {lo hi : Option Int} {xs : List D} : oSl lo hi (.tup xs) = .ok (.tup (cutD xs lo hi)) := rfl
@[simp] theorem ev_sll {lo hi : Option Int} {xs : List D} : oSl lo hi (.lst xs) = .ok (.lst (cutD xs lo hi)) := rfl
@[simp] theorem ev_bname {d : D} : bName i d δ = some (δ.set i (some (.im d))) := rfl
@[simp] theorem ev_bnil : bNil [] δ = some δ := rfl
@[simp] theorem ev_bcons {b : D → DS → Option DS} {c : List D → DS → Option DS} {d : D} {ds : List D} : bCons b c (d :: ds) δ = (b d δ).bind fun δ' => c ds δ' := rfl
@[simp] theorem ev_btup {n : Nat} {c : List D → DS → Option DS} {ds : List D} : bTup n c (.tup ds) δ = if ds.length = n then c ds δ else none := rfl
@[simp] theorem ev_seq : cSeq g h δ = (g δ).then h := rfl
@[simp] theorem ev_next : cNext δ = .nx δ := rfl
@[simp] theorem ev_ret : cRet f δ = stE (f δ) δ fun d => .rt d := rfl
@[simp] theorem ev_if : cIf t g h δ = stE (t δ) δ fun b => if b = true then g δ else h δ := rfl
@[simp] theorem ev_drop : cDrop f δ = stE (f δ) δ fun _ => .nx δ := rfl
@[simp] theorem ev_asg : cAsg i f δ = stE (f δ) δ fun d => .nx (δ.set i (some (.im d))) := rfl
@[simp] theorem ev_aug {o : D → D → Res D} : cAug i o f δ = stE ((cVar i δ).bind fun x => (f δ).bind fun y => o x y) δ fun d => .nx (δ.set i (some (.im d))) := rfl
@[simp] theorem ev_own : cOwn i fs δ = stE (fs δ) δ fun ds => .nx (δ.set i (some (.ow ds))) := rfl
@[simp] theorem ev_app : cApp i f δ = (match δ[i]? with
  | some (some (.ow ds)) => stE (f δ) δ fun d => if ds.length < sizeLine then .nx (δ.set i (some (.ow (ds ++ [d])))) else .no
  | _ => .no) := rfl
@[simp] theorem ev_cfz : cFz i g δ = g (fz i δ) := rfl
@[simp] theorem ev_fz : fz i δ = (match δ[i]? with
  | some (some (.ow ds)) => δ.set i (some (.im (.lst ds)))
  | some (some (.tr m k ts)) => δ.set i (some (.im (T.nd k ts).d))
  | _ => δ) := rfl
@[simp] theorem ev_fzq : fzq i δ = (match δ[i]? with
  | some (some (.ow ds)) => δ.set i (some (.im (.lst ds)))
  | some (some (.tr m k ts)) => if (T.nd k ts).noTp = true then δ.set i (some (.im (T.nd k ts).d)) else δ
  | _ => δ) := rfl
@[simp] theorem ev_lookT : cLookT i t δ = (t (fzq i δ)).calm := rfl
@[simp] theorem ev_for {b : D → DS → Option DS} : cFor fs b g δ = stE (fs δ) δ fun ds => forF b g ds δ := rfl
@[simp] theorem ev_raise {c : Str} {ff : List D → List (Str × D)} : cRaise c ff fs δ = stE (fs δ) δ fun ds => .rs ⟨c, ff ds⟩ δ := rfl
@[simp] theorem ev_forF0 {b : D → DS → Option DS} : forF b g [] δ = .nx δ := rfl
@[simp] theorem ev_lcF0 {b : D → DS → Option DS} : lcF b t f [] δ = .ok [] := rfl
@[simp] theorem ev_add (i j : Int) : oAdd (.v (.int i)) (.v (.int j)) = .ok (.int (i + j)) := rfl
@[simp] theorem ev_sub (i j : Int) : oSub (.v (.int i)) (.v (.int j)) = .ok (.int (i - j)) := rfl
@[simp] theorem ev_addI (i j : Int) : oAddI (.v (.int i)) (.v (.int j)) = .ok (.int (i + j)) := rfl
@[simp] theorem ev_oI {p : Int → Int → Bool} (i j : Int) : oI p (.v (.int i)) (.v (.int j)) = .ok (.bl (p i j)) := rfl
@[simp] theorem ev_eqI (i j : Int) : oEqB false (.v (.int i)) (.v (.int j)) = .ok (.bl (decide (i = j))) := oEq_int i j
@[simp] theorem ev_neI (i j : Int) : oEqB true (.v (.int i)) (.v (.int j)) = .ok (.bl (!decide (i = j))) := oNe_int i j
@[simp] theorem ev_eqB (i j : Bool) : oEqB false (.v (.bl i)) (.v (.bl j)) = .ok (.bl (i == j)) := oEq_bl i j
@[simp] theorem ev_neB (i j : Bool) : oEqB true (.v (.bl i)) (.v (.bl j)) = .ok (.bl (!(i == j))) := oNe_bl i j
@[simp] theorem ev_isN {b : Bool} {x : V} : oIsN b (.v x) (.v .non) = .ok (.bl (if b then !isNon (.v x) else isNon (.v x))) := by cases b <;> rfl
@[simp] theorem ev_lenl {xs : List D} : gLen [.lst xs] = .ok (.int (xs.length : Nat)) := rfl
@[simp] theorem ev_lent {xs : List D} : gLen [.tup xs] = .ok (.int (xs.length : Nat)) := rfl
@[simp] theorem ev_revt {xs : List D} : oRev (.tup xs) = .ok (.tup xs.reverse) := rfl
@[simp] theorem ev_revl {xs : List D} : oRev (.lst xs) = .ok (.lst xs.reverse) := rfl
@[simp] theorem ev_all {bs : List Bool} : gAll [.lst (bs.map D.bl)] = .ok (.bl (bs.all id)) := by unfold gAll gBls; simp
@[simp] theorem ev_any {bs : List Bool} : gAny [.lst (bs.map D.bl)] = .ok (.bl (bs.any id)) := by unfold gAny gBls; simp
theorem ev_all' {α : Type} {xs : List α} {p : α → Bool} : gAll [.lst (xs.map fun a => D.bl (p a))] = .ok (.bl (xs.all p)) := by
  have e : (xs.map fun a => D.bl (p a)) = (xs.map p).map D.bl := by simp
  rw [e, ev_all]
  simp [List.all_map, Function.comp_def]
theorem ev_any' {α : Type} {xs : List α} {p : α → Bool} : gAny [.lst (xs.map fun a => D.bl (p a))] = .ok (.bl (xs.any p)) := by
  have e : (xs.map fun a => D.bl (p a)) = (xs.map p).map D.bl := by simp
  rw [e, ev_any]
  simp [List.any_map, Function.comp_def]
end
@[simp] theorem defF_ev {m : Nat} {g : DS → Fl} {ds : List D} : defF m g ds = flR (g (st0 m ds)) := rfl
@[simp] theorem st0_ev {m : Nat} {ds : List D} : st0 m ds = ds.map (fun d => some (.im d)) ++ List.replicate m none := rfl
end DV
namespace DV
open PySem L2
mutual
noncomputable def D.nb : D → Bool
  | .v .non => true
  | .v (.int _) => true
  | .v (.str s) => PyData.canLay0 (.str s)
  | .v _ => false
  | .lst xs => D.nbA xs
  | .tup xs => D.nbA xs
  | .dct _ _ => false
  | .dlk _ _ => false
  | .ins _ _ _ => false
  | .dtt _ _ => false
  | .ptp _ => false
  | .wor _ _ => false
noncomputable def D.nbA : List D → Bool
  | [] => true
  | x :: xs => x.nb && D.nbA xs
end
mutual
noncomputable def D.dep : D → Nat
  | .lst xs => D.depA xs + 1
  | .tup xs => D.depA xs + 1
  | _ => 0
noncomputable def D.depA : List D → Nat
  | [] => 0
  | x :: xs => max x.dep (D.depA xs)
end
mutual
noncomputable def D.eqb : D → D → Bool
  | .v x, .v y => decide (x = y)
  | .lst xs, .lst ys => D.eqbA xs ys
  | .tup xs, .tup ys => D.eqbA xs ys
  | .dct ks vs, .dct ls ws => D.eqbA ks ls && D.eqbA vs ws
  | .dlk ks vs, .dlk ls ws => D.eqbA ks ls && D.eqbA vs ws
  | .ins c ns vs, .ins b ms ws => decide (c = b) && decide (ns = ms) && D.eqbA vs ws
  | .dtt ks vs, .dtt ls ws => decide (ks = ls) && D.eqbA vs ws
  | .ptp xs, .ptp ys => D.eqbA xs ys
  | .wor t a, .wor u b => t.eqb u && a.eqb b
  | _, _ => false
noncomputable def D.eqbA : List D → List D → Bool
  | [], [] => true
  | x :: xs, y :: ys => x.eqb y && D.eqbA xs ys
  | _, _ => false
end
mutual
theorem D.eqb_iff : ∀ d e : D, d.eqb e = true ↔ d = e
  | .v x, e => by cases e <;> simp [D.eqb]
  | .lst xs, e => by cases e <;> simp [D.eqb, D.eqbA_iff]
  | .tup xs, e => by cases e <;> simp [D.eqb, D.eqbA_iff]
  | .dct ks vs, e => by cases e <;> simp [D.eqb, D.eqbA_iff]
  | .dlk ks vs, e => by cases e <;> simp [D.eqb, D.eqbA_iff]
  | .ins c ns vs, e => by cases e <;> simp [D.eqb, D.eqbA_iff, and_assoc]
  | .dtt ks vs, e => by cases e <;> simp [D.eqb, D.eqbA_iff]
  | .ptp xs, e => by cases e <;> simp [D.eqb, D.eqbA_iff]
  | .wor t a, e => by cases e <;> simp [D.eqb, D.eqb_iff t, D.eqb_iff a]
theorem D.eqbA_iff : ∀ ds es : List D, D.eqbA ds es = true ↔ ds = es
  | [], es => by cases es <;> simp [D.eqbA]
  | d :: ds, es => by
    cases es with
    | nil => simp [D.eqbA]
    | cons e es => simp [D.eqbA, D.eqb_iff d e, D.eqbA_iff ds es]
end
noncomputable instance : DecidableEq D := fun d e => decidable_of_iff (d.eqb e = true) (D.eqb_iff d e)
theorem D.eqb_dec (d e : D) : d.eqb e = decide (d = e) := by
  rw [Bool.eq_iff_iff, D.eqb_iff, decide_eq_true_eq]
mutual
theorem D.nb_py : ∀ d : D, d.nb = true → ∃ p, d.py = some p ∧ p.canLay0 = true ∧ p.depth = d.dep
  | .v .non, _ => ⟨.none, rfl, rfl, rfl⟩
  | .v (.int i), _ => ⟨.int i, rfl, rfl, rfl⟩
  | .v (.str s), h => ⟨.str s, rfl, h, rfl⟩
  | .v (.bl _), h => by cases h
  | .v (.byt _), h => by cases h
  | .v (.flt _), h => by cases h
  | .v (.ref _), h => by cases h
  | .v (.ty _), h => by cases h
  | .dct _ _, h => by cases h
  | .dlk _ _, h => by cases h
  | .ins _ _ _, h => by cases h
  | .dtt _ _, h => by cases h
  | .ptp _, h => by cases h
  | .wor _ _, h => by cases h
  | .lst xs, h => by
    obtain ⟨ps, h1, h2, h3⟩ := D.nbA_py xs (by simpa [D.nb] using h)
    exact ⟨.list ps, by rw [D.py, h1]; rfl, h2, by rw [PyData.depth, h3, D.dep]⟩
  | .tup xs, h => by
    obtain ⟨ps, h1, h2, h3⟩ := D.nbA_py xs (by simpa [D.nb] using h)
    exact ⟨.tuple ps, by rw [D.py, h1]; rfl, h2, by rw [PyData.depth, h3, D.dep]⟩
theorem D.nbA_py : ∀ ds : List D, D.nbA ds = true → ∃ ps, D.pyA ds = some ps ∧ PyData.canLayAll0 ps = true ∧ PyData.depthAll ps = D.depA ds
  | [], _ => ⟨[], rfl, rfl, rfl⟩
  | d :: ds, h => by
    rw [D.nbA, Bool.and_eq_true] at h
    obtain ⟨p, h1, h2, h3⟩ := D.nb_py d h.1
    obtain ⟨ps, g1, g2, g3⟩ := D.nbA_py ds h.2
    refine ⟨p :: ps, ?_, ?_, ?_⟩
    · rw [D.pyA, h1, g1]
    · rw [PyData.canLayAll0, h2, g2]; rfl
    · rw [PyData.depthAll, h3, g3, D.depA]
end
mutual
theorem D.nb_eqv : ∀ (d e : D) (p q : PyData), d.nb = true → e.nb = true → d.py = some p → e.py = some q → PyData.eqv p q = d.eqb e
  | .v x, e, p, q, hd, he, hp, hq => by
    cases x <;> first | (cases hd; done) | skip
    all_goals
      cases hp
      cases e with
      | v y =>
        cases y <;> first | (cases he; done) | (cases hq; simp [PyData.eqv, D.eqb]; done) | (cases hq; simp [PyData.eqv, D.eqb, Bool.beq_eq_decide_eq]; done) | (cases hq; simp [PyData.eqv, D.eqb]; rw [Bool.eq_iff_iff]; simp)
      | lst ys => rw [D.py] at hq; cases z : D.pyA ys <;> rw [z] at hq <;> cases hq <;> rfl
      | tup ys => rw [D.py] at hq; cases z : D.pyA ys <;> rw [z] at hq <;> cases hq <;> rfl
      | dct _ _ => cases he
      | dlk _ _ => cases he
      | dtt _ _ => cases he
      | ptp _ => cases he
      | wor _ _ => cases he
      | ins _ _ _ => cases he
  | .lst xs, e, p, q, hd, he, hp, hq => by
    obtain ⟨ps, h1, _, _⟩ := D.nbA_py xs (by simpa [D.nb] using hd)
    rw [D.py, h1] at hp
    cases hp
    cases e with
    | v y => cases y <;> first | (cases he; done) | (cases hq; rfl)
    | lst ys =>
      obtain ⟨qs, g1, _, _⟩ := D.nbA_py ys (by simpa [D.nb] using he)
      rw [D.py, g1] at hq
      cases hq
      rw [PyData.eqv, D.eqb]
      exact D.nbA_eqv xs ys ps qs (by simpa [D.nb] using hd) (by simpa [D.nb] using he) h1 g1
    | tup ys => rw [D.py] at hq; cases z : D.pyA ys <;> rw [z] at hq <;> cases hq <;> rfl
    | dct _ _ => cases he
    | dlk _ _ => cases he
    | dtt _ _ => cases he
    | ptp _ => cases he
    | wor _ _ => cases he
    | ins _ _ _ => cases he
  | .tup xs, e, p, q, hd, he, hp, hq => by
    obtain ⟨ps, h1, _, _⟩ := D.nbA_py xs (by simpa [D.nb] using hd)
    rw [D.py, h1] at hp
    cases hp
    cases e with
    | v y => cases y <;> first | (cases he; done) | (cases hq; rfl)
    | tup ys =>
      obtain ⟨qs, g1, _, _⟩ := D.nbA_py ys (by simpa [D.nb] using he)
      rw [D.py, g1] at hq
      cases hq
      rw [PyData.eqv, D.eqb]
      exact D.nbA_eqv xs ys ps qs (by simpa [D.nb] using hd) (by simpa [D.nb] using he) h1 g1
    | lst ys => rw [D.py] at hq; cases z : D.pyA ys <;> rw [z] at hq <;> cases hq <;> rfl
    | dct _ _ => cases he
    | dlk _ _ => cases he
    | dtt _ _ => cases he
    | ptp _ => cases he
    | wor _ _ => cases he
    | ins _ _ _ => cases he
  | .dct _ _, _, _, _, hd, _, _, _ => by cases hd
  | .dlk _ _, _, _, _, hd, _, _, _ => by cases hd
  | .ins _ _ _, _, _, _, hd, _, _, _ => by cases hd
  | .dtt _ _, _, _, _, hd, _, _, _ => by cases hd
  | .ptp _, _, _, _, hd, _, _, _ => by cases hd
  | .wor _ _, _, _, _, hd, _, _, _ => by cases hd
theorem D.nbA_eqv : ∀ (ds es : List D) (ps qs : List PyData), D.nbA ds = true → D.nbA es = true → D.pyA ds = some ps → D.pyA es = some qs → PyData.eqvAll ps qs = D.eqbA ds es
  | [], es, ps, qs, hd, he, hp, hq => by
    cases hp
    cases es with
    | nil => cases hq; rfl
    | cons e es =>
      rw [D.pyA] at hq
      split at hq
      · cases hq; rfl
      · cases hq
  | d :: ds, es, ps, qs, hd, he, hp, hq => by
    rw [D.nbA, Bool.and_eq_true] at hd
    obtain ⟨p, h1, _, _⟩ := D.nb_py d hd.1
    obtain ⟨ps', g1, _, _⟩ := D.nbA_py ds hd.2
    rw [D.pyA, h1, g1] at hp
    cases hp
    cases es with
    | nil => cases hq; rfl
    | cons e es =>
      rw [D.nbA, Bool.and_eq_true] at he
      obtain ⟨q, k1, _, _⟩ := D.nb_py e he.1
      obtain ⟨qs', l1, _, _⟩ := D.nbA_py es he.2
      rw [D.pyA, k1, l1] at hq
      cases hq
      rw [PyData.eqvAll, D.eqbA, D.nb_eqv d e p q hd.1 he.1 h1 k1, D.nbA_eqv ds es ps' qs' hd.2 he.2 g1 l1]
end
theorem oEqB_nb {neg : Bool} {d e : D} (hd : d.nb = true) (he : e.nb = true) (h1 : d.dep ≤ 64) (h2 : e.dep ≤ 64) : oEqB neg d e = .ok (.bl (if neg then !decide (d = e) else decide (d = e))) := by
  obtain ⟨p, a1, a2, a3⟩ := D.nb_py d hd
  obtain ⟨q, b1, b2, b3⟩ := D.nb_py e he
  unfold oEqB
  rw [a1, b1]
  dsimp only
  have sp : SeqAt.shaped p = true := by unfold SeqAt.shaped; rw [a2, decide_eq_true (by omega)]; rfl
  have sq : SeqAt.shaped q = true := by unfold SeqAt.shaped; rw [b2, decide_eq_true (by omega)]; rfl
  rw [if_pos ⟨sp, sq⟩, D.nb_eqv d e p q hd he a1 b1, D.eqb_dec]
theorem D.nbA_of : ∀ {ds : List D}, (∀ d ∈ ds, d.nb = true) → D.nbA ds = true
  | [], _ => rfl
  | d :: ds, h => by rw [D.nbA, h d (by simp), D.nbA_of fun e he => h e (by simp [he])]; rfl
theorem D.depA_of {n : Nat} : ∀ {ds : List D}, (∀ d ∈ ds, d.dep ≤ n) → D.depA ds ≤ n
  | [], _ => Nat.zero_le _
  | d :: ds, h => by rw [D.depA]; exact Nat.max_le.mpr ⟨h d (by simp), D.depA_of fun e he => h e (by simp [he])⟩
end DV
namespace DV
open PySem L2
section
variable {δ : DS} {f f' fk fv : DS → Res D} {fs : DS → Res (List D)} {fi : DS → Res (List Int)} {fd : DS → Res (List (Key × D))} {t : DS → Res Bool} {g : DS → Fl} {i j : Nat}
@[simp] theorem ev_lookL : cLookL i f δ = noLstR (f (fzL i δ)) := rfl
@[simp] theorem ev_fzL : fzL i δ = (match δ[i]? with
  | some (some (.ow ds)) => δ.set i (some (.im (.lst ds)))
  | _ => δ) := rfl
@[simp] theorem ev_noLst {d : D} : noLstR (.ok d) = if d.noLst then .ok d else .no := rfl
@[simp] theorem ev_listOf : cListOf f δ = (f δ).bind fun d => (match d with
  | .lst ds => .ok ds
  | .tup ds => .ok ds
  | _ => .no) := rfl
@[simp] theorem ev_put : cPut i f f' δ = (match δ[i]? with
  | some (some (.ow ds)) => stE (f' δ) δ fun d => stE (f δ) δ fun y => (match y with
    | .v (.int k) => (match ixN ds.length k with
      | some j => .nx (δ.set i (some (.ow (ds.set j d))))
      | none => .no)
    | _ => .no)
  | _ => .no) := rfl
@[simp] theorem ev_srt : cSrt f δ = (f δ).bind fun d => (asL d).bind srtD := rfl
@[simp] theorem ev_asL {ds : List D} : asL (.lst ds) = .ok ds := rfl
@[simp] theorem ev_srtI {ns : List Int} : srtD (ns.map D.int) = .ok ((sortI ns).map D.int) := by
  unfold srtD
  simp
@[simp] theorem ev_tupl {xs : List D} : gTuple [.lst xs] = .ok (.tup xs) := rfl
@[simp] theorem ev_tupt {xs : List D} : gTuple [.tup xs] = .ok (.tup xs) := rfl
@[simp] theorem ev_listl {xs : List D} : gList [.lst xs] = .ok (.lst xs) := rfl
@[simp] theorem ev_listt {xs : List D} : gList [.tup xs] = .ok (.lst xs) := rfl
@[simp] theorem ev_isiB {b : Bool} : gIsi [.v (.bl b), .v (.ty "bool")] = .ok (.bl true) := rfl
end
@[simp] theorem flatV_int (i : Int) : flatV (.int i) = true := by first | rfl | simp [flatV]
theorem all_lc {β : Type} {δ : DS} {vs : List Nat} {fi : DS → Res (List D)} {b : D → DS → Option DS} {e : DS → Res D} (f : β → D) (p : β → Bool) (xs : List β) (hi : fi δ = .ok (xs.map f)) (hz : xs.length ≤ sizeLine) (h : ∀ x, x ∈ xs → ∃ δ', b (f x) (wipeD δ vs) = some δ' ∧ e δ' = .ok (.bl (p x))) :
    cCall gAll (cCons (cL (cLc vs fi b cYes e)) cNil) δ = .ok (.bl (xs.all p)) := by
  simp only [ev_call, ev_cons, ev_L, ev_lc, hi, Res.bind_ok, List.length_map, if_pos hz]
  rw [lcF_map f (fun x => D.bl (p x)) xs fun x hx => by obtain ⟨δ', h1, h2⟩ := h x hx; exact ⟨δ', h1, rfl, h2⟩]
  simp only [Res.bind_ok, ev_nil, ev_all']
theorem any_lc {β : Type} {δ : DS} {vs : List Nat} {fi : DS → Res (List D)} {b : D → DS → Option DS} {e : DS → Res D} (f : β → D) (p : β → Bool) (xs : List β) (hi : fi δ = .ok (xs.map f)) (hz : xs.length ≤ sizeLine) (h : ∀ x, x ∈ xs → ∃ δ', b (f x) (wipeD δ vs) = some δ' ∧ e δ' = .ok (.bl (p x))) :
    cCall gAny (cCons (cL (cLc vs fi b cYes e)) cNil) δ = .ok (.bl (xs.any p)) := by
  simp only [ev_call, ev_cons, ev_L, ev_lc, hi, Res.bind_ok, List.length_map, if_pos hz]
  rw [lcF_map f (fun x => D.bl (p x)) xs fun x hx => by obtain ⟨δ', h1, h2⟩ := h x hx; exact ⟨δ', h1, rfl, h2⟩]
  simp only [Res.bind_ok, ev_nil, ev_any']
end DV
namespace DV
open PySem L2
end DV
namespace DV
open PySem L2
noncomputable def tI (l : List Int) : D := .tup (l.map D.int)
@[simp] theorem tI_items (l : List Int) : itemsD (tI l) = .ok (l.map D.int) := rfl
@[simp] theorem tI_list (l : List Int) : gList [tI l] = .ok (.lst (l.map D.int)) := rfl
@[simp] theorem tI_tuple (l : List Int) : gTuple [tI l] = .ok (tI l) := rfl
@[simp] theorem tI_of (l : List Int) : gTuple [.lst (l.map D.int)] = .ok (tI l) := rfl
@[simp] theorem tI_len (l : List Int) : gLen [tI l] = .ok (.int (l.length : Nat)) := by simp [tI]
@[simp] theorem tI_rev (l : List Int) : oRev (tI l) = .ok (tI l.reverse) := by simp [tI]
@[simp] theorem tI_noLst (l : List Int) : (tI l).noLst = true := by
  unfold tI
  rw [D.noLst]
  induction l with
  | nil => rfl
  | cons x l ih => rw [List.map_cons, D.noLstA, ih]; rfl
end DV
namespace DV
open PySem L2
end DV
namespace DV
open PySem L2
end DV
namespace DV
open PySem L2
end DV
namespace DV
open PySem L2
section
variable {δ : DS} {f : DS → Res D} {fs : DS → Res (List D)} {i k : Nat}
end
theorem forF_done {β : Type} (f : β → D) (P : List β → DS → Prop) {b : D → DS → Option DS} {g : DS → Fl} (all : List β) : ∀ (xs done : List β) (δ : DS), done ++ xs = all → P done δ →
    (∀ done x rest δ, done ++ x :: rest = all → P done δ → ∃ δ' δ2, b (f x) δ = some δ' ∧ g δ' = .nx δ2 ∧ P (done ++ [x]) δ2) → ∃ δ2, forF b g (xs.map f) δ = .nx δ2 ∧ P all δ2
  | [], done, δ, e, hp, _ => ⟨δ, rfl, by rw [← e, List.append_nil]; exact hp⟩
  | x :: xs, done, δ, e, hp, h => by
    obtain ⟨δ', δ2, h1, h2, h3⟩ := h done x xs δ e hp
    obtain ⟨δ3, h4, h5⟩ := forF_done f P all xs (done ++ [x]) δ2 (by rw [List.append_assoc]; exact e) h3 h
    refine ⟨δ3, ?_, h5⟩
    rw [List.map_cons, forF, h1]
    dsimp only
    rw [h2]
    exact h4
theorem for_done {β : Type} (f : β → D) (P : List β → DS → Prop) {b : D → DS → Option DS} {g : DS → Fl} (all : List β) {fi : DS → Res (List D)} {δ : DS} (hi : fi δ = .ok (all.map f)) (h0 : P [] δ)
    (h : ∀ done x rest δ, done ++ x :: rest = all → P done δ → ∃ δ' δ2, b (f x) δ = some δ' ∧ g δ' = .nx δ2 ∧ P (done ++ [x]) δ2) : ∃ δ2, cFor fi b g δ = .nx δ2 ∧ P all δ2 := by
  obtain ⟨δ2, h1, h2⟩ := forF_done f P all all [] δ rfl h0 h
  exact ⟨δ2, for_r hi h1, h2⟩
end DV
namespace DV
open PySem L2
section
variable {δ : DS} {f : DS → Res D} {fs : DS → Res (List D)} {fn : DS → Res T} {fts : DS → Res (List T)} {fp : DS → Res (Nat × List Nat)} {i : Nat}
@[simp] theorem ev_nim : cNim f δ = (f δ).bind fun d => .ok (.im d) := rfl
@[simp] theorem ev_nl : cNl fs δ = (fs δ).bind fun ds => .ok (.nd .ls (ds.map T.im)) := rfl
end
end DV
namespace DV
open PySem L2
end DV
namespace DV
open PySem L2
section
variable {δ : DS} {f f' f'' fa : DS → Res D} {fs : DS → Res (List D)} {t : DS → Res Bool} {g : DS → Fl} {i : Nat}
@[simp] theorem ev_fld {cs : List Str} {n : Str} : cFld cs n f δ = (f δ).bind (oFld cs n) := rfl
@[simp] theorem ev_mth {c m : Str} {F : List D → Res D} {dd : List D} : cMth c m F dd f fs δ = (f δ).bind fun x => (match x with
  | .ins c' ns vs => if c' = c ∧ m ∉ ns then (fs δ).bind fun ds => F (.ins c' ns vs :: (ds ++ dd)) else .no
  | _ => .no) := rfl
@[simp] theorem ev_keysX : cKeysX f δ = (f δ).bind itemsX := rfl
@[simp] theorem ev_itemsX {ks : List NestedKey} {vs : List D} : itemsX (.dtt ks vs) = .ok (nkDs ks) := rfl
@[simp] theorem ev_listX {ks : List NestedKey} {vs : List D} : gListX [.dtt ks vs] = .ok (.lst (nkDs ks)) := rfl
@[simp] theorem ev_getX : cGetX f f' f'' δ = (f δ).bind fun x => (match x with
  | .dtt _ _ => (f' δ).bind fun y => (f'' δ).bind fun z => oGetX x y z
  | _ => .no) := rfl
end
end DV
namespace DV
open PySem L2
noncomputable def rowStep (L : List (List Int)) (s : Int) : List (List Int) := L.flatMap fun r => (List.range s.toNat).map fun (v : Nat) => r ++ [(v : Int)]
end DV
namespace My
open PySem L2 DV
noncomputable abbrev dI (ns : List Int) : List D := ns.map D.int
noncomputable abbrev tupI (ns : List Int) : D := .tup (dI ns)
noncomputable def prodL (ss : List Int) : Int := ss.foldl (· * ·) 1
structure Good (ss : List Int) : Prop where
  ne : 1 ≤ ss.length
  le : ss.length ≤ 6
  sz : ∀ s ∈ ss, 2 ≤ s ∧ s ≤ 4
  pr : prodL ss ≤ 300
theorem pow4 (n : Nat) : (0 : Int) < 4 ^ n := Int.pow_pos (by decide)
theorem mul_loop (S : Option O) : ∀ (ss : List Int) (a : Int) (o : Option O), (∀ s ∈ ss, 2 ≤ s ∧ s ≤ 4) → 0 < a → a * 4 ^ ss.length < 2 ^ 60 →
    ∃ o', forF (bName 2) (cAug 1 oMulI (cVar 2)) (dI ss) [S, some (.im (.int a)), o] = .nx [S, some (.im (.int (ss.foldl (· * ·) a))), o']
  | [], a, o, _, _, _ => ⟨o, rfl⟩
  | s :: ss, a, o, hs, ha, hb => by
    obtain ⟨h1, h2⟩ := hs s (by simp)
    have hp := pow4 ss.length
    have e : a * 4 ^ (s :: ss).length = a * 4 * 4 ^ ss.length := by rw [List.length_cons, Int.pow_succ, Int.mul_comm (4 ^ ss.length) 4, Int.mul_assoc]
    rw [e] at hb
    have ha4 : a * s ≤ a * 4 := Int.mul_le_mul_of_nonneg_left h2 (by omega)
    have has : 0 < a * s := Int.mul_pos ha (by omega)
    have hb2 : a * s * 4 ^ ss.length < 2 ^ 60 := Int.lt_of_le_of_lt (Int.mul_le_mul_of_nonneg_right ha4 (by omega)) hb
    have hab : a < 2 ^ 60 := by
      have h3 : a ≤ a * 4 * 4 ^ ss.length := by
        have : a * 4 * 1 ≤ a * 4 * 4 ^ ss.length := Int.mul_le_mul_of_nonneg_left hp (by omega)
        omega
      omega
    obtain ⟨o', ih⟩ := mul_loop S ss (a * s) (some (.im (.int s))) (fun x hx => hs x (by simp [hx])) has hb2
    refine ⟨o', ?_⟩
    have m1 : oMulI (.int a) (.int s) = .ok (.int (a * s)) := oMulI_int (mul_ok (a := 60) (b := 60) (by omega) (by omega) (by decide) (by decide) (by decide))
    rw [dI, List.map_cons, forF]
    simp only [bName, List.set_cons_succ, List.set_cons_zero]
    have eb : cAug 1 oMulI (cVar 2) [S, some (.im (.int a)), some (.im (.int s))] = .nx [S, some (.im (.int (a * s))), some (.im (.int s))] := by
      simp [cAug, cVar, m1]
    rw [eb]
    exact ih
theorem mult_ok {ss : List Int} (hs : ∀ s ∈ ss, 2 ≤ s ∧ s ≤ 4) (hl : ss.length ≤ 6) : F_multiplied [tupI ss] = .ok (.int (prodL ss)) := by
  have hb : (1 : Int) * 4 ^ ss.length < 2 ^ 60 := by
    have h1 : (4 : Int) ^ ss.length ≤ 4096 := (by decide : ∀ n : Fin 7, (4 : Int) ^ (n : Nat) ≤ 4096) ⟨ss.length, by omega⟩
    omega
  obtain ⟨o', h⟩ := mul_loop (some (.im (tupI ss))) ss 1 none hs (by decide) hb
  simp [F_multiplied, defF, g_multiplied, st0, cSeq, cAsg, cC, cFor, cItems, cVar, itemsD, h, cRet, prodL]
theorem all_ok {bs : List Bool} (h : ∀ b ∈ bs, b = true) : gAll [.lst (bs.map D.bl)] = .ok (.bl true) := by
  unfold gAll gBls
  dsimp only
  rw [blsD_map]
  dsimp only
  congr 2
  simpa using h
theorem all_ok' {α : Type} {xs : List α} : gAll [.lst (xs.map fun _ => D.bl true)] = .ok (.bl true) := by
  have e : (xs.map fun _ => D.bl true) = (xs.map fun _ => true).map D.bl := by simp
  rw [e]
  exact all_ok (by simp)
theorem look_ok {ss : List Int} (G : Good ss) : F_look_sizes [tupI ss] = .ok .non := by
  have hm := mult_ok G.sz G.le
  have hz : (dI ss).length ≤ sizeLine := by
    rw [List.length_map, sizeLine_eq]
    have := G.le
    omega
  have hlc : lcF (bName 1) cYes (cChain oLe oLe (cC (.int 2)) (cVar 1) (cC (.int 4))) (dI ss) [some (.im (tupI ss)), none] = .ok (ss.map fun _ => D.bl true) := by
    refine lcF_map _ _ _ fun s hs => ⟨_, rfl, rfl, ?_⟩
    obtain ⟨h1, h2⟩ := G.sz s hs
    simp [cChain, cC, cVar, oI, h1, h2]
  have ha := all_ok' (xs := ss)
  have l1 : (1 : Int) ≤ (ss.length : Int) := by have := G.ne; omega
  have l2 : (ss.length : Int) ≤ 6 := by have := G.le; omega
  have hp : ¬ (300 < prodL ss) := by have := G.pr; omega
  have hlen : ss.length ≤ sizeLine := by simpa using hz
  simp [F_look_sizes, defF, g_look_sizes, st0, cSeq, cIf, cOrT, cNotT, cTest, cChain, cC, cCall, cCons, cVar, cNil, gLen, oI, l1, l2, asB, cL, cLc, cItems, itemsD, hlen, wipeD, hlc, ha, cBin, cFn0, hm, hp, cNext]
end My
namespace My
open PySem L2 DV
noncomputable def ws : List Str := ["ca", "cob", "colc", "colud", "colume", "columnf", "cg", "abcdefghi", "", "Ab", "a1", "abcdefgh", "no", "a b", "x", "yes", "maybe", "never", "more", "most", "late", "w"]
noncomputable def gs : List Str := ["ca", "cob", "colc", "colud", "colume", "columnf", "cg", "abcdefgh", "no", "x", "yes", "maybe", "never", "more", "most", "late", "w"]
noncomputable def gn (s : Str) : Bool := gs.contains s
theorem of_ws {P : Str → Prop} (h0 : P "ca") (h1 : P "cob") (h2 : P "colc") (h3 : P "colud") (h4 : P "colume") (h5 : P "columnf") (h6 : P "cg") (h7 : P "abcdefghi") (h8 : P "") (h9 : P "Ab") (h10 : P "a1") (h11 : P "abcdefgh") (h12 : P "no") (h13 : P "a b") (h14 : P "x") (h15 : P "yes") (h16 : P "maybe") (h17 : P "never") (h18 : P "more") (h19 : P "most") (h20 : P "late") (h21 : P "w") :
    ∀ s ∈ ws, P s := by
  intro s hs
  unfold ws at hs
  simp only [List.mem_cons, List.not_mem_nil, or_false] at hs
  rcases hs with rfl | rfl | rfl | rfl | rfl | rfl | rfl | rfl | rfl | rfl | rfl | rfl | rfl | rfl | rfl | rfl | rfl | rfl | rfl | rfl | rfl | rfl <;> assumption
set_option maxHeartbeats 0 in
theorem isname_ok : ∀ s ∈ ws, F_is_name [.str s] = .ok (.bl (gn s)) := by
  apply of_ws <;> kernel_rfl
noncomputable abbrev lgE : DS → Res D := (cAndV (cChain oLe oLe (cC (.int 1)) (cCall gLen (cCons (cVar 2) cNil)) (cC (.int 8))) (cCall gAll (cCons (cL (cLc [3] (cItems (cVar 2)) (bName 3) cYes (cBin oInS (cVar 3) (cVar 1)))) cNil)))
set_option maxHeartbeats 0 in
theorem lname_ok (o : Option O) : ∀ s ∈ ws, lgE [o, some (.im (.str "abcdefghijklmnopqrstuvwxyz")), some (.im (.str s)), none] = .ok (.bl (gn s)) := by
  apply of_ws <;> kernel_rfl
theorem shaped_ok : ∀ s ∈ ws, SeqAt.shaped (.str s) = true := by
  apply of_ws <;> kernel_rfl
noncomputable def goodL (ns : List Str) : Bool := ns.all gn && decide ((ddW ns).length = ns.length)
noncomputable def wsD (ns : List Str) : D := .lst (ns.map D.str)
theorem sl64 {n : Nat} (h : n < 64) : n ≤ sizeLine := Nat.le_of_lt (Nat.lt_of_lt_of_le h (by rw [sizeLine_eq]; decide))
theorem names_ok {ns : List Str} (hw : ∀ s ∈ ns, s ∈ ws) (hl : ns.length < 64) : F_look_names [wsD ns] = if goodL ns = true then .ok .non else .er ⟨"BadName", [("word", .str "badname")]⟩ := by
  have e1 : ∀ δ : DS, δ = [some (.im (wsD ns)), none] → cCall gAll (cCons (cL (cLc [1] (cItems (cVar 0)) (bName 1) cYes (cFn0 F_is_name (cCons (cVar 1) cNil)))) cNil) δ = .ok (.bl (ns.all gn)) := fun δ hδ => by
    subst hδ
    refine all_lc D.str gn ns rfl (sl64 hl) fun x hx => ⟨_, rfl, ?_⟩
    exact isname_ok x (hw x hx)
  have e2 : (cStrs (cLc [1] (cItems (cVar 0)) (bName 1) cYes (cVar 1))) [some (.im (wsD ns)), none] = .ok ns := by
    have l1 : lcF (bName 1) cYes (cVar 1) (ns.map D.str) [some (.im (wsD ns)), none] = .ok (ns.map D.str) := lcF_map D.str D.str ns fun x hx => ⟨_, rfl, rfl, rfl⟩
    have l2 : cLc [1] (cItems (cVar 0)) (bName 1) cYes (cVar 1) [some (.im (wsD ns)), none] = .ok (ns.map D.str) := by
      rw [ev_lc]
      show (Res.ok (ns.map D.str)).bind _ = _
      rw [Res.bind_ok, List.length_map, if_pos (sl64 hl)]
      exact l1
    unfold cStrs
    rw [l2, Res.bind_ok, strsD_map]
    dsimp only
    rw [if_pos hl]
  have e3 := oNe_int ((ddW ns).length : Int) (ns.length : Int)
  unfold F_look_names defF g_look_names
  show flR (cIf _ _ _ [some (.im (wsD ns)), none]) = _
  simp only [ev_if, ev_orT, ev_notT, ev_test, e1 _ rfl, Res.bind_ok, ev_asB, cLenW, e2, ev_bin, ev_call, ev_cons, ev_nil, ev_var]
  have e4 : gLen [wsD ns] = .ok (.int (ns.length : Int)) := by
    show Res.ok (D.int ((ns.map D.str).length : Nat)) = _
    rw [List.length_map]
  simp only [List.getElem?_cons_zero, Res.bind_ok, e4, e3, ev_asB]
  unfold goodL
  cases h1 : ns.all gn with
  | false =>
    simp only [Bool.not_false, if_true, Bool.false_and, stE_ok, Bool.false_eq_true, if_false]
    rfl
  | true =>
    by_cases h2 : (ddW ns).length = ns.length
    · simp [h2]
    · have h3 : ¬ (((ddW ns).length : Int) = (ns.length : Int)) := by omega
      simp [h2, h3]
      try rfl
theorem lgood_ok {ns : List Str} (hw : ∀ s ∈ ns, s ∈ ws) (hl : ns.length < 64) : F__law_good_names [wsD ns] = .ok (.bl (goodL ns)) := by
  have e1 : cCall gAll (cCons (cL (cLc [2] (cItems (cVar 0)) (bName 2) cYes lgE)) cNil) [some (.im (wsD ns)), some (.im (.str "abcdefghijklmnopqrstuvwxyz")), none, none] = .ok (.bl (ns.all gn)) := by
    refine all_lc D.str gn ns rfl (sl64 hl) fun x hx => ⟨_, rfl, ?_⟩
    exact lname_ok _ x (hw x hx)
  have e2 : asStrs (wsD ns) = .ok ns := by
    show (match strsD (ns.map D.str) with | some ns => if ns.length < 64 then Res.ok ns else .no | none => .no) = _
    rw [strsD_map]
    dsimp only
    rw [if_pos hl]
  have e3 := oNe_int ((ddW ns).length : Int) (ns.length : Int)
  have e4 : gLen [wsD ns] = .ok (.int (ns.length : Int)) := by
    show Res.ok (D.int ((ns.map D.str).length : Nat)) = _
    rw [List.length_map]
  unfold F__law_good_names defF g__law_good_names
  show flR (cSeq _ _ [some (.im (wsD ns)), none, none, none]) = _
  rw [ev_seq, ev_asg, ev_c, stE_ok]
  rw [show ([some (O.im (wsD ns)), none, none, none] : DS).set 1 (some (.im (.str "abcdefghijklmnopqrstuvwxyz"))) = [some (.im (wsD ns)), some (.im (.str "abcdefghijklmnopqrstuvwxyz")), none, none] from rfl, Fl.then_nx, ev_seq, ev_if, ev_test, ev_bin]
  have e5 : cLenW (fun δ => ((cVar 0) δ).bind asStrs) [some (.im (wsD ns)), some (.im (.str "abcdefghijklmnopqrstuvwxyz")), none, none] = .ok (.int ((ddW ns).length : Nat)) := by
    unfold cLenW
    show ((asStrs (wsD ns)).bind _) = _
    rw [e2, Res.bind_ok]
  have e6 : cCall gLen (cCons (cVar 0) cNil) [some (.im (wsD ns)), some (.im (.str "abcdefghijklmnopqrstuvwxyz")), none, none] = .ok (.int (ns.length : Int)) := e4
  rw [e5, Res.bind_ok, e6, Res.bind_ok, e3, Res.bind_ok, ev_asB, stE_ok]
  unfold goodL
  by_cases h2 : (ddW ns).length = ns.length
  · rw [if_neg (by simp [h2])]
    rw [ev_next, Fl.then_nx, ev_ret, e1, stE_ok]
    simp [h2]
    try rfl
  · have h3 : ¬ (((ddW ns).length : Int) = (ns.length : Int)) := by omega
    rw [if_pos (by simp [h3])]
    show Res.ok (D.bl false) = _
    simp [h2]
end My
namespace My
open PySem L2 DV
noncomputable abbrev Col := Str × List Str
noncomputable def colD (c : Col) : D := .tup [.str c.1, .tup (c.2.map D.str)]
noncomputable def colsD (cs : List Col) : List D := cs.map colD
noncomputable def szs (cs : List Col) : List Int := cs.map fun c => (c.2.length : Int)
structure Wrd (cs : List Col) : Prop where
  few7 : cs.length ≤ 7
  n : ∀ c ∈ cs, c.1 ∈ ws
  v : ∀ c ∈ cs, ∀ s ∈ c.2, s ∈ ws
  l7 : ∀ c ∈ cs, c.2.length ≤ 7
theorem Wrd.few {cs : List Col} (h : Wrd cs) : cs.length < 64 := by have := h.few7; omega
theorem Wrd.l {cs : List Col} (h : Wrd cs) : ∀ c ∈ cs, c.2.length < 64 := fun c hc => by have := h.l7 c hc; omega
theorem Wrd.tail {c : Col} {cs : List Col} (h : Wrd (c :: cs)) : Wrd cs :=
  ⟨by have := h.few7; rw [List.length_cons] at this; omega, fun x hx => h.n x (by simp [hx]), fun x hx => h.v x (by simp [hx]), fun x hx => h.l7 x (by simp [hx])⟩
noncomputable def good1 (c : Col) : Bool := goodL [c.1] && goodL c.2
noncomputable def goodC (cs : List Col) : Bool := cs.all good1 && goodL (cs.map (·.1))
noncomputable abbrev badN : Exn := ⟨"BadName", [("word", .str "badname")]⟩
noncomputable abbrev badS : Exn := ⟨"BadSizes", [("word", .str "badsizes")]⟩
theorem book_loop (S L : Option O) : ∀ (cs : List Col) (o2 o3 : Option O), Wrd cs →
    ∃ o2' o3', forF (bTup 2 (bCons (bName 2) (bCons (bName 3) bNil))) g_Book_init_l1 (colsD cs) [S, L, o2, o3] = if cs.all good1 = true then .nx [S, L, o2', o3'] else .rs badN [S, L, o2', o3']
  | [], o2, o3, _ => ⟨o2, o3, rfl⟩
  | c :: cs, o2, o3, h => by
    obtain ⟨o2', o3', ih⟩ := book_loop S L cs (some (.im (.str c.1))) (some (.im (.tup (c.2.map D.str)))) h.tail
    have e1 := names_ok (ns := [c.1]) (fun s hs => by rw [List.mem_singleton.mp hs]; exact h.n c (by simp)) (by simp)
    have e2 := names_ok (ns := c.2) (h.v c (by simp)) (h.l c (by simp))
    have eb : (bTup 2 (bCons (bName 2) (bCons (bName 3) bNil))) (colD c) [S, L, o2, o3] = some [S, L, some (.im (.str c.1)), some (.im (.tup (c.2.map D.str)))] := rfl
    have g : g_Book_init_l1 [S, L, some (.im (.str c.1)), some (.im (.tup (c.2.map D.str)))] = if good1 c = true then .nx [S, L, some (.im (.str c.1)), some (.im (.tup (c.2.map D.str)))] else .rs badN [S, L, some (.im (.str c.1)), some (.im (.tup (c.2.map D.str)))] := by
      have a1 : cFn0 F_look_names (cCons (cL (cCons (cVar 2) cNil)) cNil) [S, L, some (.im (.str c.1)), some (.im (.tup (c.2.map D.str)))] = F_look_names [wsD [c.1]] := rfl
      have a2 : cFn0 F_look_names (cCons (cCall gList (cCons (cVar 3) cNil)) cNil) [S, L, some (.im (.str c.1)), some (.im (.tup (c.2.map D.str)))] = F_look_names [wsD c.2] := rfl
      show cSeq _ _ _ = _
      rw [ev_seq, ev_drop, a1, e1]
      unfold good1
      cases h1 : goodL [c.1] with
      | false => rfl
      | true =>
        rw [if_pos rfl, stE_ok, Fl.then_nx, ev_drop, a2, e2, Bool.true_and]
        cases h2 : goodL c.2 <;> rfl
    cases hg : good1 c with
    | false =>
      refine ⟨some (.im (.str c.1)), some (.im (.tup (c.2.map D.str))), ?_⟩
      show forF _ _ (colD c :: colsD cs) _ = _
      rw [forF, eb]
      dsimp only
      rw [g, hg]
      simp [hg]
    | true =>
      refine ⟨o2', o3', ?_⟩
      show forF _ _ (colD c :: colsD cs) _ = _
      rw [forF, eb]
      dsimp only
      rw [g, hg, if_pos rfl]
      dsimp only
      rw [ih, List.all_cons, hg, Bool.true_and]
noncomputable def szOk (ss : List Int) : Bool := decide (1 ≤ ss.length) && decide (ss.length ≤ 6) && ss.all (fun s => decide (2 ≤ s) && decide (s ≤ 4)) && decide (prodL ss ≤ 300)
theorem szOk_good {ss : List Int} (h : szOk ss = true) : Good ss := by
  unfold szOk at h
  simp only [Bool.and_eq_true, decide_eq_true_eq, List.all_eq_true] at h
  exact ⟨h.1.1.1, h.1.1.2, h.1.2, h.2⟩
theorem sizes_bad {ss : List Int} (hl : ss.length < 64) (h : szOk ss = false) : F_look_sizes [tupI ss] = .er badS := by
  have e1 : cCall gAll (cCons (cL (cLc [1] (cItems (cVar 0)) (bName 1) cYes (cChain oLe oLe (cC (.int 2)) (cVar 1) (cC (.int 4))))) cNil) [some (.im (tupI ss)), none] = .ok (.bl (ss.all fun s => decide (2 ≤ s) && decide (s ≤ 4))) := by
    refine all_lc D.int _ ss rfl (sl64 hl) fun s hs => ⟨_, rfl, ?_⟩
    show cChain oLe oLe (cC (.int 2)) (cVar 1) (cC (.int 4)) [some (.im (tupI ss)), some (.im (.int s))] = _
    by_cases q : (2 : Int) ≤ s <;> simp [oI, q]
  have e2 : cChain oLe oLe (cC (.int 1)) (cCall gLen (cCons (cVar 0) cNil)) (cC (.int 6)) [some (.im (tupI ss)), none] = .ok (.bl (decide (1 ≤ ss.length) && decide (ss.length ≤ 6))) := by
    have l1 : gLen [tupI ss] = .ok (.int (ss.length : Int)) := by
      show Res.ok (D.int ((ss.map D.int).length : Nat)) = _
      rw [List.length_map]
    have e3 : cCall gLen (cCons (cVar 0) cNil) [some (.im (tupI ss)), none] = .ok (.int (ss.length : Int)) := l1
    rw [ev_chain, ev_c, Res.bind_ok, e3, Res.bind_ok]
    by_cases q : 1 ≤ ss.length
    · have q' : (1 : Int) ≤ (ss.length : Int) := by omega
      by_cases q2 : ss.length ≤ 6
      · have q2' : (ss.length : Int) ≤ 6 := by omega
        simp [oI, q, q', q2, q2']
      · have q2' : ¬ (ss.length : Int) ≤ 6 := by omega
        simp [oI, q, q', q2, q2']
    · have q' : ¬ (1 : Int) ≤ (ss.length : Int) := by omega
      simp [oI, q, q']
  unfold F_look_sizes defF g_look_sizes
  show flR (cSeq _ _ [some (.im (tupI ss)), none]) = _
  rw [ev_seq, ev_if, ev_orT, ev_notT, ev_test, e2, Res.bind_ok, ev_asB, Res.bind_ok]
  cases h1 : (decide (1 ≤ ss.length) && decide (ss.length ≤ 6)) with
  | false => rfl
  | true =>
    rw [show (!true) = false from rfl, Res.bind_ok, if_neg Bool.false_ne_true, ev_notT, ev_test, e1, Res.bind_ok, ev_asB, Res.bind_ok]
    cases h2 : (ss.all fun s => decide (2 ≤ s) && decide (s ≤ 4)) with
    | false => rfl
    | true =>
      simp only [Bool.and_eq_true, decide_eq_true_eq] at h1
      have h3 := h2
      simp only [List.all_eq_true, Bool.and_eq_true, decide_eq_true_eq] at h3
      have hm := mult_ok h3 h1.2
      have hp : ¬ prodL ss ≤ 300 := fun z => by
        unfold szOk at h
        rw [h2] at h
        simp [h1.1, h1.2, z] at h
      have e4 : cFn0 F_multiplied (cCons (cVar 0) cNil) [some (.im (tupI ss)), none] = .ok (.int (prodL ss)) := hm
      rw [show (!true) = false from rfl, stE_ok, if_neg Bool.false_ne_true, ev_next, Fl.then_nx, ev_if, ev_test, ev_bin, e4, Res.bind_ok, ev_c, Res.bind_ok]
      have hp2 : (300 : Int) < prodL ss := by omega
      simp [oI, hp2]
      rfl
noncomputable abbrev bkN : List Str := ["names_told", "rows_told", "musts", "nevers", "at_most", "done", "past", "gone", "reckoner"]
noncomputable abbrev rkT : T := .nd (.ob "Reckoned" ["worths_told", "many_told"]) [.nd (.dt []) [], .im (.int 0)]
noncomputable abbrev tlT (ss : List Int) : T := .nd (.ob "Tally" ["sizes", "known"]) [.im (tupI ss), .nd (.dt []) []]
noncomputable def bkT (cs : List Col) : T := .nd (.ob "Book" bkN) [.im (.tup (colsD cs)), tlT (szs cs), .im (.tup []), .im (.tup []), .im .non, .nd .ls [], .nd .ls [], .nd .ls [], rkT]
noncomputable def bkD (cs : List Col) : D := .ins "Book" bkN [.tup (colsD cs), .ins "Tally" ["sizes", "known"] [tupI (szs cs), .dtt [] []], .tup [], .tup [], .non, .lst [], .lst [], .lst [], .ins "Reckoned" ["worths_told", "many_told"] [.dtt [] [], .int 0]]
theorem bkT_d (cs : List Col) : (bkT cs).d = bkD cs := by
  unfold bkT bkD
  simp [T.d, T.dA]
noncomputable def Holds2 (L : D) (cs : List Col) : Prop := L = .lst (colsD cs) ∨ L = .tup (colsD cs)
theorem items_holds {L : D} {cs : List Col} (h : Holds2 L cs) : itemsD L = .ok (colsD cs) := by rcases h with rfl | rfl <;> rfl
theorem lc_cols {L : D} {cs : List Col} (hL : Holds2 L cs) (hz : cs.length < 64) (f : Col → D) {e : DS → Res D} (S o2 o3 : Option O)
    (he : ∀ c ∈ cs, e [S, some (.im L), some (.im (.str c.1)), some (.im (.tup (c.2.map D.str)))] = .ok (f c)) :
    cLc [2, 3] (cItems (cVar 1)) (bTup 2 (bCons (bName 2) (bCons (bName 3) bNil))) cYes e [S, some (.im L), o2, o3] = .ok (cs.map f) := by
  have e1 : cItems (cVar 1) [S, some (.im L), o2, o3] = .ok (colsD cs) := items_holds hL
  rw [ev_lc, e1, Res.bind_ok, show (colsD cs).length = cs.length from List.length_map .., if_pos (sl64 hz)]
  exact lcF_map colD f cs fun c hc => ⟨_, rfl, rfl, he c hc⟩
theorem rk_make {δ : DS} : cMake "Reckoned" F_Reckoned_init [] cNil δ = .ok rkT := by
  have hs : ¬ ("worths_told" : Str) = "many_told" := by decide
  simp [cMake, F_Reckoned_init, defM, g_Reckoned_init, st0, cTfld, asT, cNx0, cNim, putN, putTs, flM, ownAt, madeT, hs]
theorem tl_make {ss : List Int} {fs : DS → Res (List D)} {δ : DS} (hf : fs δ = .ok [tupI ss]) (hl : ss.length < 64) : cMake "Tally" F_Tally_init [] fs δ = if szOk ss = true then .ok (tlT ss) else .er badS := by
  have hs : ¬ ("sizes" : Str) = "known" := by decide
  cases h : szOk ss with
  | false =>
    have e := sizes_bad hl h
    simp [cMake, hf, F_Tally_init, defM, g_Tally_init, st0, e, flM, ownAt, madeT]
  | true =>
    have e := look_ok (szOk_good h)
    simp [cMake, hf, F_Tally_init, defM, g_Tally_init, st0, e, cTfld, asT, cNx0, cNim, putN, putTs, flM, ownAt, madeT, hs]
end My
namespace My
open PySem L2 DV
theorem lst_map {f : DS → Res (List D)} {δ : DS} {ds : List D} (h : f δ = .ok ds) : cL f δ = .ok (.lst ds) := by
  rw [ev_L, h, Res.bind_ok]
theorem tfld_ok {i : Nat} {cs ns : List Str} {c f : Str} {ts : List T} {fv : DS → Res T} {δ : DS} {t : T} {m : Bool} (ha : asT δ i = some (m, .ob c ns, ts)) (hc : c ∈ cs) (hn : ns.length < 1000) (hv : fv δ = .ok t) : cTfld i cs f fv δ = .nx (δ.set i (some (.tr m (.ob c (putN f ns)) (putTs f t ns ts)))) := by
  unfold cTfld
  rw [ha]
  dsimp only
  rw [if_pos ⟨hc, hn⟩, hv, stE_ok]
theorem book_make {L : D} {cs : List Col} {fs : DS → Res (List D)} {δ : DS} (hL : Holds2 L cs) (h : Wrd cs) (hf : fs δ = .ok [L]) :
    cMake "Book" F_Book_init [] fs δ = if goodC cs = true then (if szOk (szs cs) = true then .ok (bkT cs) else .er badS) else .er badN := by
  unfold cMake
  rw [hf, Res.bind_ok]
  unfold F_Book_init defM g_Book_init
  rw [show (st0 2 (.non :: ([L] ++ [])) : DS).set 0 (some (.tr true (.ob "Book" []) [])) = [some (.tr true (.ob "Book" []) []), some (.im L), none, none] from rfl]
  obtain ⟨o2, o3, hl⟩ := book_loop (some (.tr true (.ob "Book" []) [])) (some (.im L)) cs none none h
  rw [ev_seq]
  have e1 : cFor (cItems (cVar 1)) (bTup 2 (bCons (bName 2) (bCons (bName 3) bNil))) g_Book_init_l1 [some (.tr true (.ob "Book" []) []), some (.im L), none, none] = if cs.all good1 = true then .nx [some (.tr true (.ob "Book" []) []), some (.im L), o2, o3] else .rs badN [some (.tr true (.ob "Book" []) []), some (.im L), o2, o3] := by
    unfold cFor
    rw [show cItems (cVar 1) [some (.tr true (.ob "Book" []) []), some (.im L), none, none] = .ok (colsD cs) from items_holds hL, stE_ok]
    exact hl
  rw [e1]
  unfold goodC
  cases h1 : cs.all good1 with
  | false => rfl
  | true =>
    have e2 : cL (cLc [2, 3] (cItems (cVar 1)) (bTup 2 (bCons (bName 2) (bCons (bName 3) bNil))) cYes (cVar 2)) [some (.tr true (.ob "Book" []) []), some (.im L), o2, o3] = .ok (wsD (cs.map (·.1))) := by
      have := lst_map (lc_cols hL h.few (fun c => D.str c.1) (e := cVar 2) (some (.tr true (.ob "Book" []) [])) o2 o3 fun c hc => rfl)
      rw [this]
      unfold wsD
      rw [List.map_map]
      rfl
    have e3 := names_ok (ns := cs.map (·.1)) (fun s hs => by
      obtain ⟨c, hc, rfl⟩ := List.mem_map.mp hs
      exact h.n c hc) (by rw [List.length_map]; exact h.few)
    rw [if_pos rfl, Fl.then_nx, Bool.true_and, ev_seq, ev_drop, ev_fn0, ev_cons, e2, Res.bind_ok, ev_nil, Res.bind_ok, Res.bind_ok, e3]
    cases h2 : goodL (cs.map (·.1)) with
    | false => rfl
    | true =>
      rw [if_pos rfl, stE_ok, Fl.then_nx, ev_seq]
      have e4 : (cNim (cCall gTuple (cCons (cL (cLc [2, 3] (cItems (cVar 1)) (bTup 2 (bCons (bName 2) (bCons (bName 3) bNil))) cYes (cTup (cCons (cVar 2) (cCons (cCall gTuple (cCons (cVar 3) cNil)) cNil))))) cNil))) [some (.tr true (.ob "Book" []) []), some (.im L), o2, o3] = .ok (.im (.tup (colsD cs))) := by
        have := lst_map (lc_cols hL h.few colD (e := cTup (cCons (cVar 2) (cCons (cCall gTuple (cCons (cVar 3) cNil)) cNil))) (some (.tr true (.ob "Book" []) [])) o2 o3 fun c hc => rfl)
        unfold cNim
        rw [ev_call, ev_cons, this]
        rfl
      rw [tfld_ok rfl (by decide) (by decide) e4, Fl.then_nx, ev_seq]
      have e5 : (cCons (cCall gTuple (cCons (cL (cLc [2, 3] (cItems (cVar 1)) (bTup 2 (bCons (bName 2) (bCons (bName 3) bNil))) cYes (cCall gLen (cCons (cVar 3) cNil)))) cNil)) cNil) [some (.tr true (.ob "Book" ["names_told"]) [.im (.tup (colsD cs))]), some (.im L), o2, o3] = .ok [tupI (szs cs)] := by
        have := lst_map (lc_cols hL h.few (fun c => D.int (c.2.length : Int)) (e := cCall gLen (cCons (cVar 3) cNil)) (some (.tr true (.ob "Book" ["names_told"]) [.im (.tup (colsD cs))])) o2 o3 fun c hc => by
          show Res.ok (D.int ((c.2.map D.str).length : Nat)) = _
          rw [List.length_map])
        rw [ev_cons, ev_call, ev_cons, this]
        show Res.ok [D.tup (cs.map fun c => D.int (c.2.length : Int))] = _
        unfold szs tupI dI
        rw [List.map_map]
        rfl
      have e6 := tl_make e5 (by unfold szs; rw [List.length_map]; exact h.few)
      show madeT (flM 0 ((cTfld 0 ["Book"] "rows_told" (cMake "Tally" F_Tally_init [] _) [some (.tr true (.ob "Book" ["names_told"]) [.im (.tup (colsD cs))]), some (.im L), o2, o3]).then _)) = _
      cases h3 : szOk (szs cs) with
      | false =>
        rw [h3, if_neg Bool.false_ne_true] at e6
        unfold cTfld
        rw [show asT [some (O.tr true (.ob "Book" ["names_told"]) [.im (.tup (colsD cs))]), some (.im L), o2, o3] 0 = some (true, .ob "Book" ["names_told"], [.im (.tup (colsD cs))]) from rfl]
        dsimp only
        rw [if_pos (by decide), e6]
        rfl
      | true =>
        rw [h3, if_pos rfl] at e6
        rw [tfld_ok rfl (by decide) (by decide) e6, Fl.then_nx]
        have e7 : ∀ δ, cMake "Reckoned" F_Reckoned_init [] cNil δ = .ok rkT := fun δ => rk_make
        generalize cMake "Reckoned" F_Reckoned_init [] cNil = R at e7
        rw [ev_seq, tfld_ok rfl (by decide) (by decide) (show _ = Res.ok (T.im (.tup [])) from rfl), Fl.then_nx]
        rw [ev_seq, tfld_ok rfl (by decide) (by decide) (show _ = Res.ok (T.im (.tup [])) from rfl), Fl.then_nx]
        rw [ev_seq, tfld_ok rfl (by decide) (by decide) (show _ = Res.ok (T.im .non) from rfl), Fl.then_nx]
        rw [ev_seq, tfld_ok rfl (by decide) (by decide) (show _ = Res.ok (T.nd .ls []) from rfl), Fl.then_nx]
        rw [ev_seq, tfld_ok rfl (by decide) (by decide) (show _ = Res.ok (T.nd .ls []) from rfl), Fl.then_nx]
        rw [ev_seq, tfld_ok rfl (by decide) (by decide) (show _ = Res.ok (T.nd .ls []) from rfl), Fl.then_nx]
        rw [tfld_ok rfl (by decide) (by decide) (e7 _)]
        rfl
end My
namespace My
open PySem L2 DV
theorem col_nb {c : Col} (h1 : c.1 ∈ ws) (h2 : ∀ s ∈ c.2, s ∈ ws) : (colD c).nb = true := by
  have nb : ∀ s ∈ ws, (D.str s).nb = true := fun s hs => by
    have := shaped_ok s hs
    unfold SeqAt.shaped at this
    rw [Bool.and_eq_true] at this
    exact this.1
  unfold colD
  rw [D.nb, D.nbA, D.nbA, D.nbA, nb _ h1, D.nb, D.nbA_of fun d hd => by
    obtain ⟨s, hs, rfl⟩ := List.mem_map.mp hd
    exact nb s (h2 s hs)]
  rfl
theorem col_dep (c : Col) : (colD c).dep ≤ 2 := by
  have h : D.depA (c.2.map D.str) ≤ 0 := D.depA_of fun d hd => by
    obtain ⟨s, hs, rfl⟩ := List.mem_map.mp hd
    rw [D.dep]; exact Nat.le_refl _
    all_goals (intros; first | contradiction | simp)
  have : (D.str c.1).dep = 0 := rfl
  unfold colD
  rw [D.dep, D.depA, D.depA, D.depA, D.dep, this]
  omega
theorem cols_nb {cs : List Col} (h : Wrd cs) : D.nbA (colsD cs) = true := D.nbA_of fun d hd => by
  obtain ⟨c, hc, rfl⟩ := List.mem_map.mp hd
  exact col_nb (h.n c hc) (h.v c hc)
theorem cols_dep (cs : List Col) : D.depA (colsD cs) ≤ 2 := D.depA_of fun d hd => by
  obtain ⟨c, hc, rfl⟩ := List.mem_map.mp hd
  exact col_dep c
theorem colD_inj {c d : Col} (h : colD c = colD d) : c = d := by
  obtain ⟨a, b⟩ := c
  obtain ⟨a', b'⟩ := d
  unfold colD at h
  simp only [D.tup.injEq, List.cons.injEq, D.str, D.v.injEq, V.str.injEq, and_true] at h
  rw [h.1, strs_inj h.2]
theorem colsD_inj : ∀ {cs ds : List Col}, colsD cs = colsD ds → cs = ds
  | [], [], _ => rfl
  | [], _ :: _, h => by cases h
  | _ :: _, [], h => by cases h
  | c :: cs, d :: ds, h => by
    obtain ⟨h1, h2⟩ := List.cons.inj (show colD c :: colsD cs = colD d :: colsD ds from h)
    rw [colD_inj h1, colsD_inj h2]
noncomputable abbrev face0 : D := .tup [.lst [], .tup [], .tup [], .non]
theorem face_ok (cs : List Col) : F_Book_face [bkD cs] = .ok face0 := by kernel_rfl
theorem blen_ok (cs : List Col) : F_Book_len [bkD cs] = .ok (.int 0) := by kernel_rfl
theorem beq_ok {cs ds : List Col} (h1 : Wrd cs) (h2 : Wrd ds) : F_Book_eq [bkD cs, bkD ds] = .ok (.bl (decide (cs = ds))) := by
  have e1 : oEq (.tup (colsD cs)) (.tup (colsD ds)) = .ok (.bl (decide (cs = ds))) := by
    have := oEqB_nb (neg := false) (d := .tup (colsD cs)) (e := .tup (colsD ds)) (by rw [D.nb]; exact cols_nb h1) (by rw [D.nb]; exact cols_nb h2) (by rw [D.dep]; have := cols_dep cs; omega) (by rw [D.dep]; have := cols_dep ds; omega)
    refine this.trans ?_
    rw [if_neg Bool.false_ne_true]
    have : (D.tup (colsD cs) = D.tup (colsD ds)) ↔ cs = ds := by
      rw [D.tup.injEq]
      exact ⟨colsD_inj, fun h => by rw [h]⟩
    simp only [this]
  have e2 : oEq face0 face0 = .ok (.bl true) := by kernel_rfl
  have m1 : cMth "Book" "face" F_Book_face [] (cVar 0) cNil [some (.im (bkD cs)), some (.im (bkD ds))] = F_Book_face [bkD cs] := rfl
  have m2 : cMth "Book" "face" F_Book_face [] (cVar 1) cNil [some (.im (bkD cs)), some (.im (bkD ds))] = F_Book_face [bkD ds] := rfl
  unfold F_Book_eq defF g_Book_eq
  show flR (cSeq _ _ [some (.im (bkD cs)), some (.im (bkD ds))]) = _
  rw [ev_seq, ev_if, show cNotT (cTest (cIsO "Book" (cVar 1))) [some (.im (bkD cs)), some (.im (bkD ds))] = .ok false from rfl, stE_ok, if_neg Bool.false_ne_true, ev_next, Fl.then_nx, ev_ret, ev_andV, ev_bin,
    show cFld ["Book"] "names_told" (cVar 0) [some (.im (bkD cs)), some (.im (bkD ds))] = .ok (.tup (colsD cs)) from rfl, Res.bind_ok, show cFld ["Book"] "names_told" (cVar 1) [some (.im (bkD cs)), some (.im (bkD ds))] = .ok (.tup (colsD ds)) from rfl, Res.bind_ok, e1, Res.bind_ok]
  by_cases h : cs = ds
  · rw [ev_bin, m1, m2, face_ok, face_ok, Res.bind_ok, Res.bind_ok, e2]
    simp [h]
  · simp [h]
theorem due_loop (L : Option O) (o4 : Option O) : ∀ (cs : List Col) (a : Int) (o2 o3 : Option O), (∀ c ∈ cs, c.2.length ≤ 7) → 0 ≤ a → a * 8 ^ cs.length < 2 ^ 60 →
    ∃ o2' o3', forF (bTup 2 (bCons (bName 2) (bCons (bName 3) bNil))) g__law_word_due_l1 (colsD cs) [L, some (.im (.int a)), o2, o3, o4] = .nx [L, some (.im (.int ((szs cs).foldl (· * ·) a))), o2', o3', o4]
  | [], a, o2, o3, _, _, _ => ⟨o2, o3, rfl⟩
  | c :: cs, a, o2, o3, hs, ha, hb => by
    have h1 := hs c (by simp)
    have hp : (0 : Int) < 8 ^ cs.length := Int.pow_pos (by decide)
    have e : a * 8 ^ (c :: cs).length = a * 8 * 8 ^ cs.length := by rw [List.length_cons, Int.pow_succ, Int.mul_comm (8 ^ cs.length) 8, Int.mul_assoc]
    rw [e] at hb
    have ha8 : a * (c.2.length : Int) ≤ a * 8 := Int.mul_le_mul_of_nonneg_left (by omega) ha
    have has : 0 ≤ a * (c.2.length : Int) := Int.mul_nonneg ha (by omega)
    have hb2 : a * (c.2.length : Int) * 8 ^ cs.length < 2 ^ 60 := Int.lt_of_le_of_lt (Int.mul_le_mul_of_nonneg_right ha8 (by omega)) hb
    have hab : a < 2 ^ 60 := by
      have h3 : a * 8 * 1 ≤ a * 8 * 8 ^ cs.length := Int.mul_le_mul_of_nonneg_left hp (by omega)
      omega
    obtain ⟨o2', o3', ih⟩ := due_loop L o4 cs (a * (c.2.length : Int)) (some (.im (.str c.1))) (some (.im (.tup (c.2.map D.str)))) (fun x hx => hs x (by simp [hx])) has hb2
    refine ⟨o2', o3', ?_⟩
    have m1 : oMul2 (.int a) (.int (c.2.length : Int)) = .ok (.int (a * (c.2.length : Int))) := oMul_int (mul_ok (a := 60) (b := 60) (by omega) (by omega) (by decide) (by decide) (by decide))
    show forF _ _ (colD c :: colsD cs) _ = _
    rw [forF, show (bTup 2 (bCons (bName 2) (bCons (bName 3) bNil))) (colD c) [L, some (.im (.int a)), o2, o3, o4] = some [L, some (.im (.int a)), some (.im (.str c.1)), some (.im (.tup (c.2.map D.str))), o4] from rfl]
    dsimp only
    have l1 : cCall gLen (cCons (cVar 3) cNil) [L, some (.im (.int a)), some (.im (.str c.1)), some (.im (.tup (c.2.map D.str))), o4] = .ok (.int (c.2.length : Int)) := by
      show Res.ok (D.int ((c.2.map D.str).length : Nat)) = _
      rw [List.length_map]
    have g : g__law_word_due_l1 [L, some (.im (.int a)), some (.im (.str c.1)), some (.im (.tup (c.2.map D.str))), o4] = .nx [L, some (.im (.int (a * (c.2.length : Int)))), some (.im (.str c.1)), some (.im (.tup (c.2.map D.str))), o4] := by
      show cAsg 1 _ _ = _
      rw [ev_asg, ev_bin, show cVar 1 [L, some (.im (.int a)), some (.im (.str c.1)), some (.im (.tup (c.2.map D.str))), o4] = .ok (.int a) from rfl, Res.bind_ok, l1, Res.bind_ok, m1, stE_ok]
      rfl
    rw [g]
    dsimp only
    exact ih
noncomputable def dueW (cs : List Col) : Str := if goodC cs = true then (if szOk (szs cs) = true then "" else "badsizes") else "badname"
theorem due_ok {cs : List Col} (h : Wrd cs) : F__law_word_due [.lst (colsD cs)] = .ok (.str (dueW cs)) := by
  have hz := h.few
  have lcs : (colsD cs).length = cs.length := List.length_map ..
  have all1 : cCall gAll (cCons (cL (cLc [2, 3] (cItems (cVar 0)) (bTup 2 (bCons (bName 2) (bCons (bName 3) bNil))) cYes (cAndV (cFn0 F__law_good_names (cCons (cL (cCons (cVar 2) cNil)) cNil)) (cFn0 F__law_good_names (cCons (cCall gList (cCons (cVar 3) cNil)) cNil))))) cNil) [some (.im (.lst (colsD cs))), none, none, none, none] = .ok (.bl (cs.all good1)) := by
    refine all_lc colD good1 cs rfl (sl64 hz) fun c hc => ⟨_, rfl, ?_⟩
    have e1 := lgood_ok (ns := [c.1]) (fun s hs => by rw [List.mem_singleton.mp hs]; exact h.n c hc) (by simp)
    have e2 := lgood_ok (ns := c.2) (h.v c hc) (h.l c hc)
    show cAndV _ _ [some (.im (.lst (colsD cs))), none, some (.im (.str c.1)), some (.im (.tup (c.2.map D.str))), none] = _
    rw [ev_andV, show cFn0 F__law_good_names (cCons (cL (cCons (cVar 2) cNil)) cNil) [some (.im (.lst (colsD cs))), none, some (.im (.str c.1)), some (.im (.tup (c.2.map D.str))), none] = F__law_good_names [wsD [c.1]] from rfl, e1, Res.bind_ok]
    unfold good1
    cases h1 : goodL [c.1] with
    | false => rfl
    | true =>
      rw [show cFn0 F__law_good_names (cCons (cCall gList (cCons (cVar 3) cNil)) cNil) [some (.im (.lst (colsD cs))), none, some (.im (.str c.1)), some (.im (.tup (c.2.map D.str))), none] = F__law_good_names [wsD c.2] from rfl, e2, Bool.true_and]
  unfold F__law_word_due defF g__law_word_due
  show flR (cSeq _ _ [some (.im (.lst (colsD cs))), none, none, none, none]) = _
  rw [ev_seq, ev_if, ev_notT, ev_test, all1, Res.bind_ok, ev_asB, Res.bind_ok, stE_ok]
  unfold dueW goodC
  cases h1 : cs.all good1 with
  | false => rfl
  | true =>
    rw [show (!true) = false from rfl, if_neg Bool.false_ne_true, ev_next, Fl.then_nx, ev_seq, ev_if, ev_notT, ev_test, Bool.true_and]
    have e3 := lgood_ok (ns := cs.map (·.1)) (fun s hs => by
      obtain ⟨c, hc, rfl⟩ := List.mem_map.mp hs
      exact h.n c hc) (by rw [List.length_map]; exact hz)
    have e4 : cL (cLc [2, 3] (cItems (cVar 0)) (bTup 2 (bCons (bName 2) (bCons (bName 3) bNil))) cYes (cVar 2)) [some (.im (.lst (colsD cs))), none, none, none, none] = .ok (wsD (cs.map (·.1))) := by
      rw [ev_L, ev_lc, show cItems (cVar 0) [some (.im (.lst (colsD cs))), none, none, none, none] = .ok (colsD cs) from rfl, Res.bind_ok, lcs, if_pos (sl64 hz)]
      unfold colsD
      rw [lcF_map colD (fun c => D.str c.1) cs fun c hc => ⟨_, rfl, rfl, rfl⟩, Res.bind_ok]
      unfold wsD
      rw [List.map_map]
      rfl
    rw [ev_fn0, ev_cons, e4, Res.bind_ok, ev_nil, Res.bind_ok, Res.bind_ok, e3, Res.bind_ok, ev_asB, Res.bind_ok, stE_ok]
    cases h2 : goodL (cs.map (·.1)) with
    | false => rfl
    | true =>
      rw [show (!true) = false from rfl, if_neg Bool.false_ne_true, ev_next, Fl.then_nx, ev_seq, ev_asg, ev_c, stE_ok]
      obtain ⟨o2, o3, hl⟩ := due_loop (some (.im (.lst (colsD cs)))) none cs 1 none none h.l7 (by decide) (by
        have h7 := h.few7
        have : (8 : Int) ^ cs.length ≤ 8 ^ 7 := (by decide : ∀ n : Fin 8, (8 : Int) ^ (n : Nat) ≤ 8 ^ 7) ⟨cs.length, by omega⟩
        omega)
      rw [show ([some (.im (.lst (colsD cs))), none, none, none, none] : DS).set 1 (some (.im (.int 1))) = [some (.im (.lst (colsD cs))), some (.im (.int 1)), none, none, none] from rfl, Fl.then_nx, ev_seq]
      have e5 : cFor (cItems (cVar 0)) (bTup 2 (bCons (bName 2) (bCons (bName 3) bNil))) g__law_word_due_l1 [some (.im (.lst (colsD cs))), some (.im (.int 1)), none, none, none] = .nx [some (.im (.lst (colsD cs))), some (.im (.int (prodL (szs cs)))), o2, o3, none] := by
        unfold cFor
        rw [show cItems (cVar 0) [some (.im (.lst (colsD cs))), some (.im (.int 1)), none, none, none] = .ok (colsD cs) from rfl, stE_ok]
        exact hl
      rw [e5, Fl.then_nx, ev_seq]
      have e6 : (cAndV (cChain oLe oLe (cC (.int 1)) (cCall gLen (cCons (cVar 0) cNil)) (cC (.int 6))) (cAndV (cCall gAll (cCons (cL (cLc [2, 3] (cItems (cVar 0)) (bTup 2 (bCons (bName 2) (bCons (bName 3) bNil))) cYes (cChain oLe oLe (cC (.int 2)) (cCall gLen (cCons (cVar 3) cNil)) (cC (.int 4))))) cNil)) (cBin oLe (cVar 1) (cC (.int 300))))) [some (.im (.lst (colsD cs))), some (.im (.int (prodL (szs cs)))), o2, o3, none] = .ok (.bl (szOk (szs cs))) := by
        have l1 : cCall gLen (cCons (cVar 0) cNil) [some (.im (.lst (colsD cs))), some (.im (.int (prodL (szs cs)))), o2, o3, none] = .ok (.int (cs.length : Int)) := by
          show Res.ok (D.int ((colsD cs).length : Nat)) = _
          rw [lcs]
        have c1 : cChain oLe oLe (cC (.int 1)) (cCall gLen (cCons (cVar 0) cNil)) (cC (.int 6)) [some (.im (.lst (colsD cs))), some (.im (.int (prodL (szs cs)))), o2, o3, none] = .ok (.bl (decide (1 ≤ cs.length) && decide (cs.length ≤ 6))) := by
          rw [ev_chain, ev_c, Res.bind_ok, l1, Res.bind_ok]
          by_cases q : 1 ≤ cs.length
          · have q' : (1 : Int) ≤ (cs.length : Int) := by omega
            by_cases q2 : cs.length ≤ 6
            · have q2' : (cs.length : Int) ≤ 6 := by omega
              simp [oI, q, q', q2, q2']
            · have q2' : ¬ (cs.length : Int) ≤ 6 := by omega
              simp [oI, q, q', q2, q2']
          · have q' : ¬ (1 : Int) ≤ (cs.length : Int) := by omega
            simp [oI, q, q']
        have c2 : cCall gAll (cCons (cL (cLc [2, 3] (cItems (cVar 0)) (bTup 2 (bCons (bName 2) (bCons (bName 3) bNil))) cYes (cChain oLe oLe (cC (.int 2)) (cCall gLen (cCons (cVar 3) cNil)) (cC (.int 4))))) cNil) [some (.im (.lst (colsD cs))), some (.im (.int (prodL (szs cs)))), o2, o3, none] = .ok (.bl (cs.all fun c => decide ((2 : Int) ≤ (c.2.length : Int)) && decide ((c.2.length : Int) ≤ 4))) := by
          refine all_lc colD _ cs rfl (sl64 hz) fun c hc => ⟨_, rfl, ?_⟩
          show cChain _ _ _ _ _ [some (.im (.lst (colsD cs))), some (.im (.int (prodL (szs cs)))), some (.im (.str c.1)), some (.im (.tup (c.2.map D.str))), none] = _
          rw [ev_chain, ev_c, Res.bind_ok, show cCall gLen (cCons (cVar 3) cNil) [some (.im (.lst (colsD cs))), some (.im (.int (prodL (szs cs)))), some (.im (.str c.1)), some (.im (.tup (c.2.map D.str))), none] = .ok (.int (c.2.length : Int)) from by
            show Res.ok (D.int ((c.2.map D.str).length : Nat)) = _
            rw [List.length_map], Res.bind_ok]
          by_cases q : (2 : Int) ≤ (c.2.length : Int) <;> simp [oI, q]
        rw [ev_andV, c1, Res.bind_ok]
        have ea : (szs cs).all (fun s => decide (2 ≤ s) && decide (s ≤ 4)) = cs.all fun c => decide ((2 : Int) ≤ (c.2.length : Int)) && decide ((c.2.length : Int) ≤ 4) := by
          unfold szs
          rw [List.all_map]
          rfl
        unfold szOk
        rw [ea, show (szs cs).length = cs.length from List.length_map ..]
        cases (decide (1 ≤ cs.length) && decide (cs.length ≤ 6)) with
        | false => rfl
        | true =>
          dsimp only
          rw [ev_andV, c2, Res.bind_ok, Bool.true_and]
          cases (cs.all fun c => decide ((2 : Int) ≤ (c.2.length : Int)) && decide ((c.2.length : Int) ≤ 4)) with
          | false => rfl
          | true => rfl
      rw [ev_asg, e6, stE_ok]
      cases h3 : szOk (szs cs) <;> rfl
end My
namespace My
open PySem L2 DV
noncomputable def ws0 : List Str := ["ca", "cob", "colc", "colud", "colume", "columnf", "cg", "abcdefghi", "", "Ab", "a1", "abcdefgh", "no", "a b", "x", "yes", "maybe", "never", "more", "most"]
theorem ws0_ws : ∀ s ∈ ws0, s ∈ ws := by decide +kernel
theorem ws0_late : ("late" : Str) ∉ ws0 := by decide +kernel
theorem ws0_w : ("w" : Str) ∉ ws0 := by decide +kernel
structure Wr0 (cs : List Col) : Prop where
  few7 : cs.length ≤ 7
  n : ∀ c ∈ cs, c.1 ∈ ws0
  v : ∀ c ∈ cs, ∀ s ∈ c.2, s ∈ ws0
  l7 : ∀ c ∈ cs, c.2.length ≤ 7
theorem Wr0.w {cs : List Col} (h : Wr0 cs) : Wrd cs := ⟨h.few7, fun c hc => ws0_ws _ (h.n c hc), fun c hc s hs => ws0_ws _ (h.v c hc s hs), h.l7⟩
noncomputable def nameK (k : Nat) : Str := (["ca", "cob", "colc", "colud", "colume", "columnf", "cg"] : List Str).getD k "ca"
noncomputable def szK (d : Int) : Nat := ([2, 2, 3, 4, 2] : List Nat).getD d.toNat 2
noncomputable def vals (n : Nat) : List Str := (["no", "yes", "maybe", "never"] : List Str).take n
theorem nameK_ws (k : Nat) : nameK k ∈ ws0 := by
  have h : ∀ k < 7, nameK k ∈ ws0 := by decide +kernel
  by_cases z : k < 7
  · exact h k z
  · have : nameK k = "ca" := by
      unfold nameK
      rw [List.getD_eq_getElem?_getD, List.getElem?_eq_none (by simpa using z)]
      rfl
    rw [this]
    decide +kernel
theorem vals_ws (n : Nat) : ∀ s ∈ vals n, s ∈ ws0 := fun s hs => by
  have h : ∀ s ∈ (["no", "yes", "maybe", "never"] : List Str), s ∈ ws0 := by decide +kernel
  exact h s (List.mem_of_mem_take hs)
theorem vals_len (n : Nat) : (vals n).length ≤ 4 := by
  unfold vals
  rw [List.length_take]
  exact Nat.min_le_right _ _
theorem szK_or (d : Int) : szK d = 2 ∨ szK d = 3 ∨ szK d = 4 := by
  unfold szK
  rw [List.getD_eq_getElem?_getD]
  match d.toNat with
  | 0 => exact .inl rfl
  | 1 => exact .inl rfl
  | 2 => exact .inr (.inl rfl)
  | 3 => exact .inr (.inr rfl)
  | 4 => exact .inl rfl
  | n + 5 => exact .inl rfl
theorem five {d : Int} (h : 0 ≤ d ∧ d < 5) : d = 0 ∨ d = 1 ∨ d = 2 ∨ d = 3 ∨ d = 4 := by omega
theorem sizeD (d : Int) (h : 0 ≤ d ∧ d < 5) : oIx (.lst [.int 2, .int 2, .int 3, .int 4, .int 2]) (.int d) = .ok (.int (szK d : Nat)) := by
  rcases five h with rfl | rfl | rfl | rfl | rfl <;> kernel_rfl
noncomputable abbrev colE : DS → Res D := (cTup (cCons (cBin oAdd (cSl (cC (.str "column")) cNone (cSome (cBin oAdd (cC (.int 1)) (cBin oMod (cVar 4) (cC (.int 6)))))) (cBin oIx (cC (.str "abcdefg")) (cVar 4))) (cCons (cCall gTuple (cCons (cSl (cL (cCons (cC (.str "no")) (cCons (cC (.str "yes")) (cCons (cC (.str "maybe")) (cCons (cC (.str "never")) cNil))))) cNone (cSome (cVar 5))) cNil)) cNil)))
theorem seven {k : Nat} (h : k < 7) : k = 0 ∨ k = 1 ∨ k = 2 ∨ k = 3 ∨ k = 4 ∨ k = 5 ∨ k = 6 := by omega
theorem colE_ok {k n : Nat} (hk : k < 7) (hn : n = 2 ∨ n = 3 ∨ n = 4) (o0 o1 o2 o3 : Option O) (r : DS) : colE (o0 :: o1 :: o2 :: o3 :: some (.im (.int (0 + (k : Int)))) :: some (.im (.int (n : Int))) :: r) = .ok (colD (nameK k, vals n)) := by
  rcases seven hk with rfl | rfl | rfl | rfl | rfl | rfl | rfl <;> rcases hn with rfl | rfl | rfl <;> kernel_rfl
noncomputable def drD (ds : List Int) : D := .lst (ds.map D.int)
structure Drawn (ds : List Int) : Prop where
  len : ds.length = 11
  d0 : 0 ≤ ds.getD 0 0 ∧ ds.getD 0 0 < 8
  d5 : ∀ k, 1 ≤ k → k < 8 → 0 ≤ ds.getD k 0 ∧ ds.getD k 0 < 5
  d8 : 0 ≤ ds.getD 8 0 ∧ ds.getD 8 0 < 8
  d9 : 0 ≤ ds.getD 9 0
noncomputable def colK (ds : List Int) (k : Nat) : Col := (nameK k, vals (szK (ds.getD (1 + k) 0)))
theorem dr_ix {ds : List Int} {k : Nat} (h : k < ds.length) : oIx (drD ds) (.int (k : Int)) = .ok (.int (ds.getD k 0)) := by
  unfold drD
  show (match atI (ds.map D.int) (k : Int) with | some d => Res.ok d | none => .no) = _
  rw [atI_nat (v := D.int (ds.getD k 0)) (by rw [List.getElem?_map, List.getD_eq_getElem?_getD, List.getElem?_eq_getElem h]; rfl)]
theorem sl_lt {n : Nat} (h : n < 64) : n < sizeLine := Nat.lt_of_lt_of_le h (by rw [sizeLine_eq]; decide)
theorem cols_turn {ds : List Int} (D0 : Drawn ds) {k : Nat} (hk : k < 7) (cs : List Col) (hl : cs.length < 64) (A C : Option O) (o5 : Option O) (r : DS) :
    g_law_l1 (A :: C :: some (.im (drD ds)) :: some (.ow (colsD cs)) :: some (.im (.int (0 + (k : Int)))) :: o5 :: r) = .nx (A :: C :: some (.im (drD ds)) :: some (.ow (colsD (cs ++ [colK ds k]))) :: some (.im (.int (0 + (k : Int)))) :: some (.im (.int (szK (ds.getD (1 + k) 0) : Nat))) :: r) := by
  have hd := D0.d5 (1 + k) (by omega) (by omega)
  have e1 : cBin oIx (cVar 2) (cBin oAdd (cC (.int 1)) (cVar 4)) (A :: C :: some (.im (drD ds)) :: some (.ow (colsD cs)) :: some (.im (.int (0 + (k : Int)))) :: o5 :: r) = .ok (.int (ds.getD (1 + k) 0)) := by
    show oIx (drD ds) (.int (1 + (0 + (k : Int)))) = _
    rw [show (1 : Int) + (0 + (k : Int)) = ((1 + k : Nat) : Int) by omega]
    exact dr_ix (by rw [D0.len]; omega)
  have e2 : cBin oIx (cL (cCons (cC (.int 2)) (cCons (cC (.int 2)) (cCons (cC (.int 3)) (cCons (cC (.int 4)) (cCons (cC (.int 2)) cNil)))))) (cBin oIx (cVar 2) (cBin oAdd (cC (.int 1)) (cVar 4))) (A :: C :: some (.im (drD ds)) :: some (.ow (colsD cs)) :: some (.im (.int (0 + (k : Int)))) :: o5 :: r) = .ok (.int (szK (ds.getD (1 + k) 0) : Nat)) := by
    rw [ev_bin, show cL (cCons (cC (.int 2)) (cCons (cC (.int 2)) (cCons (cC (.int 3)) (cCons (cC (.int 4)) (cCons (cC (.int 2)) cNil))))) (A :: C :: some (.im (drD ds)) :: some (.ow (colsD cs)) :: some (.im (.int (0 + (k : Int)))) :: o5 :: r) = .ok (.lst [.int 2, .int 2, .int 3, .int 4, .int 2]) from rfl, Res.bind_ok, e1, Res.bind_ok]
    exact sizeD _ hd
  show cSeq (cAsg 5 _) (cApp 3 colE) _ = _
  rw [ev_seq, ev_asg, e2, stE_ok, Fl.then_nx]
  show cApp 3 colE (A :: C :: some (.im (drD ds)) :: some (.ow (colsD cs)) :: some (.im (.int (0 + (k : Int)))) :: some (.im (.int (szK (ds.getD (1 + k) 0) : Nat))) :: r) = _
  rw [ev_app]
  dsimp only [List.getElem?_cons_succ, List.getElem?_cons_zero]
  rw [colE_ok hk (szK_or _), stE_ok, show (colsD cs).length = cs.length from List.length_map .., if_pos (sl_lt hl)]
  unfold colsD
  rw [List.map_append]
  rfl
theorem cols_loop {ds : List Int} (D0 : Drawn ds) (A C : Option O) (o4 o5 : Option O) (r : DS) :
    ∃ o4' o5', cFor (cIt gRange1 (cCons (cBin oIx (cVar 2) (cC (.int 0))) cNil)) (bName 4) g_law_l1 (A :: C :: some (.im (drD ds)) :: some (.ow []) :: o4 :: o5 :: r) =
      .nx (A :: C :: some (.im (drD ds)) :: some (.ow (colsD ((List.range (ds.getD 0 0).toNat).map (colK ds)))) :: o4' :: o5' :: r) := by
  have h0 := D0.d0
  obtain ⟨n, hn⟩ : ∃ n : Nat, ds.getD 0 0 = (n : Int) := ⟨(ds.getD 0 0).toNat, by omega⟩
  have hn7 : n < 8 := by omega
  have e1 : cIt gRange1 (cCons (cBin oIx (cVar 2) (cC (.int 0))) cNil) (A :: C :: some (.im (drD ds)) :: some (.ow []) :: o4 :: o5 :: r) = .ok ((List.range n).map fun (i : Nat) => D.int (0 + (i : Int))) := by
    rw [ev_it, ev_cons, show cBin oIx (cVar 2) (cC (.int 0)) (A :: C :: some (.im (drD ds)) :: some (.ow []) :: o4 :: o5 :: r) = oIx (drD ds) (.int ((0 : Nat) : Int)) from rfl, dr_ix (by rw [D0.len]; omega), hn, Res.bind_ok, ev_nil, Res.bind_ok, Res.bind_ok]
    exact gRange1_nat (sl64 (by omega))
  obtain ⟨δ2, h1, o4', o5', rfl⟩ := for_done (b := bName 4) (g := g_law_l1) (fun (i : Nat) => D.int (0 + (i : Int))) (fun done δ => ∃ o4 o5, δ = A :: C :: some (.im (drD ds)) :: some (.ow (colsD (done.map (colK ds)))) :: o4 :: o5 :: r) (List.range n) e1 ⟨o4, o5, rfl⟩ (by
    rintro done x rest δ ed ⟨p4, p5, rfl⟩
    have hx : x < n := List.mem_range.mp (by rw [← ed]; simp)
    have hl : done.length ≤ n := by
      have := congrArg List.length ed
      rw [List.length_range, List.length_append, List.length_cons] at this
      omega
    refine ⟨_, _, rfl, cols_turn D0 (k := x) (by omega) (done.map (colK ds)) (by rw [List.length_map]; omega) A C p5 r, some (.im (.int (0 + (x : Int)))), some (.im (.int (szK (ds.getD (1 + x) 0) : Nat))), by rw [List.map_append]; rfl⟩)
  refine ⟨o4', o5', ?_⟩
  rw [h1, hn]
  rfl
theorem cols_w {ds : List Int} (D0 : Drawn ds) : Wr0 ((List.range (ds.getD 0 0).toNat).map (colK ds)) := by
  have h0 := D0.d0
  refine ⟨by rw [List.length_map, List.length_range]; omega, fun c hc => ?_, fun c hc s hs => ?_, fun c hc => ?_⟩
  · obtain ⟨k, _, rfl⟩ := List.mem_map.mp hc; exact nameK_ws k
  · obtain ⟨k, _, rfl⟩ := List.mem_map.mp hc; exact vals_ws _ s hs
  · obtain ⟨k, _, rfl⟩ := List.mem_map.mp hc
    have := vals_len (szK (ds.getD (1 + k) 0))
    show (vals _).length ≤ 7
    omega
end My
namespace My
open PySem L2 DV
theorem col_at {cs : List Col} {j : Nat} {c : Col} (h : cs[j]? = some c) : oIx (.lst (colsD cs)) (.int (j : Int)) = .ok (colD c) := by
  show (match atI (colsD cs) (j : Int) with | some d => Res.ok d | none => .no) = _
  rw [atI_nat (v := colD c) (by unfold colsD; rw [List.getElem?_map, h]; rfl)]
theorem colD_nl (c : Col) : (colD c).noLst = true := by
  have h : ∀ l : List Str, D.noLstA (l.map D.str) = true := fun l => by
    induction l with
    | nil => rfl
    | cons s l ih => rw [List.map_cons, D.noLstA, ih]; rfl
  unfold colD
  rw [D.noLst, D.noLstA, D.noLstA, D.noLstA, D.noLst, D.noLst, h]
  rfl
noncomputable abbrev oddE : DS → Res D := (cBin oIx (cL (cCons (cC (.str "abcdefghi")) (cCons (cC (.str "")) (cCons (cC (.str "Ab")) (cCons (cC (.str "a1")) (cCons (cC (.str "abcdefgh")) (cCons (cC (.str "no")) (cCons (cC (.str "a b")) (cCons (cIfE (cTest (cBin oNeNil (cVar 3) (cL cNil))) (cBin oIx (cBin oIx (cVar 3) (cC (.int 0))) (cC (.int 0))) (cC (.str "x"))) cNil))))))))) (cBin oIx (cVar 2) (cC (.int 8))))
noncomputable def lastW (cs : List Col) : Str := match cs with
  | [] => "x"
  | c :: _ => c.1
theorem lastW_ws {cs : List Col} (h : Wr0 cs) : lastW cs ∈ ws0 := by
  cases cs with
  | nil => show ("x" : Str) ∈ ws0; decide +kernel
  | cons c cs => exact h.n c (by simp)
theorem eight {d : Int} (h : 0 ≤ d ∧ d < 8) : d = 0 ∨ d = 1 ∨ d = 2 ∨ d = 3 ∨ d = 4 ∨ d = 5 ∨ d = 6 ∨ d = 7 := by omega
theorem odd_ok {ds : List Int} (D0 : Drawn ds) {cs : List Col} (h : Wr0 cs) (A C : Option O) (r : DS) : ∃ s ∈ ws0, oddE (A :: C :: some (.im (drD ds)) :: some (.im (.lst (colsD cs))) :: r) = .ok (.str s) := by
  have e1 : (cIfE (cTest (cBin oNeNil (cVar 3) (cL cNil))) (cBin oIx (cBin oIx (cVar 3) (cC (.int 0))) (cC (.int 0))) (cC (.str "x"))) (A :: C :: some (.im (drD ds)) :: some (.im (.lst (colsD cs))) :: r) = .ok (.str (lastW cs)) := by
    cases cs with
    | nil => rfl
    | cons c cs =>
      show (oIx (.lst (colsD (c :: cs))) (.int ((0 : Nat) : Int))).bind _ = _
      rw [col_at (c := c) rfl]
      rfl
  have e2 : cBin oIx (cVar 2) (cC (.int 8)) (A :: C :: some (.im (drD ds)) :: some (.im (.lst (colsD cs))) :: r) = .ok (.int (ds.getD 8 0)) := dr_ix (k := 8) (by rw [D0.len]; decide)
  have hl := lastW_ws h
  have h8 := eight D0.d8
  have hw : ∀ s ∈ (["abcdefghi", "", "Ab", "a1", "abcdefgh", "no", "a b"] : List Str), s ∈ ws0 := by decide +kernel
  unfold oddE
  rw [ev_bin, e2]
  simp only [ev_L, ev_cons, e1, ev_c, ev_nil, Res.bind_ok]
  generalize lastW cs = x at hl
  rcases h8 with z | z | z | z | z | z | z | z <;> rw [z]
  · exact ⟨_, hw "abcdefghi" (by simp), rfl⟩
  · exact ⟨_, hw "" (by simp), rfl⟩
  · exact ⟨_, hw "Ab" (by simp), rfl⟩
  · exact ⟨_, hw "a1" (by simp), rfl⟩
  · exact ⟨_, hw "abcdefgh" (by simp), rfl⟩
  · exact ⟨_, hw "no" (by simp), rfl⟩
  · exact ⟨_, hw "a b" (by simp), rfl⟩
  · exact ⟨_, hl, rfl⟩
theorem set_w {cs : List Col} {c : Col} (j : Nat) (h : Wr0 cs) (h1 : c.1 ∈ ws0) (h2 : ∀ s ∈ c.2, s ∈ ws0) (h3 : c.2.length ≤ 7) : Wr0 (cs.set j c) := by
  refine ⟨by rw [List.length_set]; exact h.few7, fun x hx => ?_, fun x hx => ?_, fun x hx => ?_⟩ <;> rcases List.mem_or_eq_of_mem_set hx with hx | rfl
  · exact h.n x hx
  · exact h1
  · exact h.v x hx
  · exact h2
  · exact h.l7 x hx
  · exact h3
theorem put_ok {ds : List Int} {cs : List Col} {j : Nat} (hj : j < cs.length) {c : Col} {f : DS → Res D} (A C o4 o5 o6 : Option O) (r : DS)
    (hf : f (A :: C :: some (.im (drD ds)) :: some (.im (.lst (colsD cs))) :: o4 :: o5 :: o6 :: some (.im (.int (j : Int))) :: r) = .ok (colD c)) :
    cPut 3 (cVar 7) (cLookL 3 f) (A :: C :: some (.im (drD ds)) :: some (.ow (colsD cs)) :: o4 :: o5 :: o6 :: some (.im (.int (j : Int))) :: r) =
      .nx (A :: C :: some (.im (drD ds)) :: some (.ow (colsD (cs.set j c))) :: o4 :: o5 :: o6 :: some (.im (.int (j : Int))) :: r) := by
  have e1 : cLookL 3 f (A :: C :: some (.im (drD ds)) :: some (.ow (colsD cs)) :: o4 :: o5 :: o6 :: some (.im (.int (j : Int))) :: r) = .ok (colD c) := by
    show noLstR (f (A :: C :: some (.im (drD ds)) :: some (.im (.lst (colsD cs))) :: o4 :: o5 :: o6 :: some (.im (.int (j : Int))) :: r)) = _
    rw [hf]
    show (if (colD c).noLst = true then Res.ok (colD c) else .no) = _
    rw [if_pos (colD_nl c)]
  have e2 : ixN (colsD cs).length (j : Int) = some j := by
    rw [show (colsD cs).length = cs.length from List.length_map ..]
    unfold ixN
    simp
    omega
  have e3 : (colsD cs).set j (colD c) = colsD (cs.set j c) := by unfold colsD; rw [List.map_set]
  unfold cPut
  dsimp only [List.getElem?_cons_succ, List.getElem?_cons_zero]
  rw [e1, stE_ok, show cVar 7 (A :: C :: some (.im (drD ds)) :: some (.ow (colsD cs)) :: o4 :: o5 :: o6 :: some (.im (.int (j : Int))) :: r) = .ok (.int (j : Int)) from rfl, stE_ok]
  dsimp only
  rw [e2]
  dsimp only
  rw [e3]
  try rfl
theorem cut1 (l : List Str) : cutD (l.map D.str) none (some 1) = (l.take 1).map D.str := by
  cases l with
  | nil => rfl
  | cons s l =>
    rw [cutD_map]
    congr 1
noncomputable abbrev putA : DS → Fl := (cPut 3 (cVar 7) (cLookL 3 (cTup (cCons (cVar 6) (cCons (cBin oIx (cBin oIx (cVar 3) (cVar 7)) (cC (.int 1))) cNil)))))
noncomputable abbrev putB : DS → Fl := (cPut 3 (cVar 7) (cLookL 3 (cTup (cCons (cBin oIx (cBin oIx (cVar 3) (cVar 7)) (cC (.int 0))) (cCons (cSl (cBin oIx (cBin oIx (cVar 3) (cVar 7)) (cC (.int 1))) cNone (cSome (cC (.int 1)))) cNil)))))
noncomputable abbrev putC : DS → Fl := (cPut 3 (cVar 7) (cLookL 3 (cTup (cCons (cBin oIx (cBin oIx (cVar 3) (cVar 7)) (cC (.int 0))) (cCons (cBin oAdd (cBin oIx (cBin oIx (cVar 3) (cVar 7)) (cC (.int 1))) (cTup (cCons (cVar 6) (cCons (cC (.str "more")) (cCons (cC (.str "most")) cNil))))) cNil)))))
section
variable {ds : List Int} {cs : List Col} {j : Nat} {s : Str}
theorem putA_ok (h : Wr0 cs) (hj : j < cs.length) (hs : s ∈ ws0) (h4 : ∀ c ∈ cs, c.2.length ≤ 4) (A C o4 o5 : Option O) (r : DS) : ∃ cs', Wr0 cs' ∧ cs'.length = cs.length ∧ (∀ c ∈ cs', c.2.length ≤ 4) ∧
    putA (A :: C :: some (.im (drD ds)) :: some (.ow (colsD cs)) :: o4 :: o5 :: some (.im (.str s)) :: some (.im (.int (j : Int))) :: r) = .nx (A :: C :: some (.im (drD ds)) :: some (.ow (colsD cs')) :: o4 :: o5 :: some (.im (.str s)) :: some (.im (.int (j : Int))) :: r) := by
  have hc : cs[j]? = some cs[j] := List.getElem?_eq_getElem hj
  have hm : cs[j] ∈ cs := List.getElem_mem hj
  refine ⟨cs.set j (s, cs[j].2), set_w j h hs (h.v cs[j] hm) (h.l7 cs[j] hm), List.length_set, fun c hx => ?_, put_ok hj (c := (s, cs[j].2)) A C o4 o5 _ r ?_⟩
  · rcases List.mem_or_eq_of_mem_set hx with hx | rfl
    · exact h4 c hx
    · exact h4 cs[j] hm
  · have e := col_at hc
    rw [ev_tup, ev_cons, show cVar 6 (A :: C :: some (.im (drD ds)) :: some (.im (.lst (colsD cs))) :: o4 :: o5 :: some (.im (.str s)) :: some (.im (.int (j : Int))) :: r) = .ok (.str s) from rfl, Res.bind_ok, ev_cons, ev_bin, show cBin oIx (cVar 3) (cVar 7) (A :: C :: some (.im (drD ds)) :: some (.im (.lst (colsD cs))) :: o4 :: o5 :: some (.im (.str s)) :: some (.im (.int (j : Int))) :: r) = .ok (colD cs[j]) from e]
    rfl
theorem putB_ok (h : Wr0 cs) (hj : j < cs.length) (h4 : ∀ c ∈ cs, c.2.length ≤ 4) (A C o4 o5 o6 : Option O) (r : DS) : ∃ cs', Wr0 cs' ∧ cs'.length = cs.length ∧ (∀ c ∈ cs', c.2.length ≤ 4) ∧
    putB (A :: C :: some (.im (drD ds)) :: some (.ow (colsD cs)) :: o4 :: o5 :: o6 :: some (.im (.int (j : Int))) :: r) = .nx (A :: C :: some (.im (drD ds)) :: some (.ow (colsD cs')) :: o4 :: o5 :: o6 :: some (.im (.int (j : Int))) :: r) := by
  have hc : cs[j]? = some cs[j] := List.getElem?_eq_getElem hj
  have hm : cs[j] ∈ cs := List.getElem_mem hj
  have hl : (cs[j].2.take 1).length ≤ 4 := by rw [List.length_take]; omega
  refine ⟨cs.set j (cs[j].1, cs[j].2.take 1), set_w j h (h.n cs[j] hm) (fun s hs => h.v cs[j] hm s (List.mem_of_mem_take hs)) (by show (cs[j].2.take 1).length ≤ 7; omega), List.length_set, fun c hx => ?_, put_ok hj (c := (cs[j].1, cs[j].2.take 1)) A C o4 o5 o6 r ?_⟩
  · rcases List.mem_or_eq_of_mem_set hx with hx | rfl
    · exact h4 c hx
    · exact hl
  · have e : cBin oIx (cVar 3) (cVar 7) (A :: C :: some (.im (drD ds)) :: some (.im (.lst (colsD cs))) :: o4 :: o5 :: o6 :: some (.im (.int (j : Int))) :: r) = .ok (colD cs[j]) := col_at hc
    rw [ev_tup, ev_cons, ev_bin, e, Res.bind_ok, ev_c, Res.bind_ok, show oIx (colD cs[j]) (.int 0) = .ok (.str cs[j].1) from rfl, Res.bind_ok, ev_cons, ev_sl, ev_bin, e, Res.bind_ok, ev_c, Res.bind_ok, show oIx (colD cs[j]) (.int 1) = .ok (.tup (cs[j].2.map D.str)) from rfl, Res.bind_ok, ev_none, Res.bind_ok, ev_some, ev_c, Res.bind_ok, ev_asI, Res.bind_ok, ev_slt, cut1]
    rfl
theorem putC_ok (h : Wr0 cs) (hj : j < cs.length) (hs : s ∈ ws0) (h4 : ∀ c ∈ cs, c.2.length ≤ 4) (A C o4 o5 : Option O) (r : DS) : ∃ cs', Wr0 cs' ∧
    putC (A :: C :: some (.im (drD ds)) :: some (.ow (colsD cs)) :: o4 :: o5 :: some (.im (.str s)) :: some (.im (.int (j : Int))) :: r) = .nx (A :: C :: some (.im (drD ds)) :: some (.ow (colsD cs')) :: o4 :: o5 :: some (.im (.str s)) :: some (.im (.int (j : Int))) :: r) := by
  have hc : cs[j]? = some cs[j] := List.getElem?_eq_getElem hj
  have hm : cs[j] ∈ cs := List.getElem_mem hj
  have hl := h4 _ hm
  have hw : ∀ x ∈ ([s, "more", "most"] : List Str), x ∈ ws0 := fun x hx => by
    simp only [List.mem_cons, List.not_mem_nil, or_false] at hx
    rcases hx with rfl | rfl | rfl
    · exact hs
    · decide +kernel
    · decide +kernel
  refine ⟨cs.set j (cs[j].1, cs[j].2 ++ [s, "more", "most"]), set_w j h (h.n cs[j] hm) (fun x hx => (List.mem_append.mp hx).elim (h.v cs[j] hm x) (hw x)) (by show (cs[j].2 ++ [s, "more", "most"]).length ≤ 7; rw [List.length_append]; simp only [List.length_cons, List.length_nil]; omega), put_ok hj (c := (cs[j].1, cs[j].2 ++ [s, "more", "most"])) A C o4 o5 _ r ?_⟩
  have e : cBin oIx (cVar 3) (cVar 7) (A :: C :: some (.im (drD ds)) :: some (.im (.lst (colsD cs))) :: o4 :: o5 :: some (.im (.str s)) :: some (.im (.int (j : Int))) :: r) = .ok (colD cs[j]) := col_at hc
  rw [ev_tup, ev_cons, ev_bin, e, Res.bind_ok, ev_c, Res.bind_ok, show oIx (colD cs[j]) (.int 0) = .ok (.str cs[j].1) from rfl, Res.bind_ok, ev_cons, ev_bin, ev_bin, e, Res.bind_ok, ev_c, Res.bind_ok, show oIx (colD cs[j]) (.int 1) = .ok (.tup (cs[j].2.map D.str)) from rfl, Res.bind_ok]
  rw [show (cTup (cCons (cVar 6) (cCons (cC (.str "more")) (cCons (cC (.str "most")) cNil)))) (A :: C :: some (.im (drD ds)) :: some (.im (.lst (colsD cs))) :: o4 :: o5 :: some (.im (.str s)) :: some (.im (.int (j : Int))) :: r) = .ok (.tup (([s, "more", "most"] : List Str).map D.str)) from rfl, Res.bind_ok]
  rw [show oAdd (.tup (cs[j].2.map D.str)) (.tup (([s, "more", "most"] : List Str).map D.str)) = .ok (.tup ((cs[j].2 ++ [s, "more", "most"]).map D.str)) from by
    show (if _ then _ else _) = _
    rw [if_pos (by rw [List.length_map, List.length_map]; exact sl64 (by simp only [List.length_cons, List.length_nil]; omega)), List.map_append], Res.bind_ok]
  rfl
end
end My
namespace My
open PySem L2 DV
theorem foldW_nodup (ns : List Str) : ∀ l : List Str, (ns.foldl (fun l k => insW k l) l).length = ns.length + l.length ↔ ns.Nodup ∧ ∀ k ∈ ns, k ∉ l := by
  induction ns with
  | nil => intro l; simp
  | cons n ns ih =>
    intro l
    rw [List.foldl_cons, List.length_cons, List.nodup_cons]
    by_cases h : n ∈ l
    · have e : insW n l = l := by unfold insW; rw [if_pos h]
      have h1 := foldW_len ns l
      rw [e]
      constructor
      · intro z; omega
      · intro z; exact absurd h (z.2 n (by simp))
    · have e : insW n l = l ++ [n] := by unfold insW; rw [if_neg h]
      have i := ih (l ++ [n])
      rw [e]
      rw [show ns.length + 1 + l.length = ns.length + (l ++ [n]).length by rw [List.length_append, List.length_singleton]; omega, i]
      constructor
      · rintro ⟨h1, h2⟩
        refine ⟨⟨fun z => (h2 n z) (by simp), h1⟩, fun k hk => ?_⟩
        rcases List.mem_cons.mp hk with rfl | hk
        · exact h
        · exact fun z => h2 k hk (by simp [z])
      · rintro ⟨⟨h1, h2⟩, h3⟩
        refine ⟨h2, fun k hk z => ?_⟩
        rcases List.mem_append.mp z with z | z
        · exact h3 k (by simp [hk]) z
        · rw [List.mem_singleton.mp z] at hk; exact h1 hk
theorem goodL_iff (ns : List Str) : goodL ns = true ↔ (∀ s ∈ ns, gn s = true) ∧ ns.Nodup := by
  have := foldW_nodup ns []
  unfold goodL ddW
  rw [Bool.and_eq_true, List.all_eq_true, decide_eq_true_eq]
  simp only [List.length_nil, Nat.add_zero] at this
  rw [this]
  simp
theorem goodC_iff (cs : List Col) : goodC cs = true ↔ (∀ c ∈ cs, gn c.1 = true ∧ (∀ s ∈ c.2, gn s = true) ∧ c.2.Nodup) ∧ (cs.map (·.1)).Nodup := by
  unfold goodC good1
  rw [Bool.and_eq_true, List.all_eq_true, goodL_iff]
  constructor
  · rintro ⟨h1, h2, h3⟩
    refine ⟨fun c hc => ?_, h3⟩
    have := h1 c hc
    rw [Bool.and_eq_true, goodL_iff, goodL_iff] at this
    exact ⟨this.1.1 _ (by simp), this.2.1, this.2.2⟩
  · rintro ⟨h1, h2⟩
    refine ⟨fun c hc => ?_, fun s hs => ?_, h2⟩
    · obtain ⟨a, b, d⟩ := h1 c hc
      rw [Bool.and_eq_true, goodL_iff, goodL_iff]
      exact ⟨⟨fun s hs => by rw [List.mem_singleton.mp hs]; exact a, by simp⟩, b, d⟩
    · obtain ⟨c, hc, rfl⟩ := List.mem_map.mp hs
      exact (h1 c hc).1
structure Oth (cs o : List Col) : Prop where
  w : Wrd o
  g : goodC o = true
  z : szs o = szs cs
  ne : o ≠ cs
section
variable {c : Col} {cs : List Col}
theorem late_o (h : Wr0 (c :: cs)) (g : goodC (c :: cs) = true) : Oth (c :: cs) (("late", c.2) :: cs) := by
  have W := h.w
  rw [goodC_iff] at g
  obtain ⟨g1, g2⟩ := g
  have hn : ("late" : Str) ∈ ws := by decide +kernel
  have hg : gn "late" = true := by decide +kernel
  refine ⟨⟨W.few7, fun x hx => ?_, fun x hx => ?_, fun x hx => ?_⟩, ?_, rfl, fun z => ?_⟩
  · rcases List.mem_cons.mp hx with rfl | hx
    · exact hn
    · exact W.n x (by simp [hx])
  · rcases List.mem_cons.mp hx with rfl | hx
    · exact W.v c (by simp)
    · exact W.v x (by simp [hx])
  · rcases List.mem_cons.mp hx with rfl | hx
    · exact W.l7 c (by simp)
    · exact W.l7 x (by simp [hx])
  · rw [goodC_iff]
    refine ⟨fun x hx => ?_, ?_⟩
    · rcases List.mem_cons.mp hx with rfl | hx
      · exact ⟨hg, (g1 c (by simp)).2⟩
      · exact g1 x (by simp [hx])
    · rw [List.map_cons, List.nodup_cons] at g2 ⊢
      refine ⟨fun z => ?_, g2.2⟩
      obtain ⟨x, hx, e⟩ := List.mem_map.mp z
      exact ws0_late ((show x.1 = "late" from e) ▸ h.n x (by simp [hx]))
  · have := (List.cons.inj z).1
    exact ws0_late (by rw [show ("late" : Str) = c.1 from congrArg Prod.fst this]; exact h.n c (by simp))
theorem rev_o (h : Wr0 (c :: cs)) (g : goodC (c :: cs) = true) (h2 : 2 ≤ c.2.length) : Oth (c :: cs) ((c.1, c.2.reverse) :: cs) := by
  have W := h.w
  rw [goodC_iff] at g
  obtain ⟨g1, g2⟩ := g
  have gc := g1 c (by simp)
  refine ⟨⟨W.few7, fun x hx => ?_, fun x hx => ?_, fun x hx => ?_⟩, ?_, ?_, fun z => ?_⟩
  · rcases List.mem_cons.mp hx with rfl | hx
    · exact W.n c (by simp)
    · exact W.n x (by simp [hx])
  · rcases List.mem_cons.mp hx with rfl | hx
    · exact fun s hs => W.v c (by simp) s (List.mem_reverse.mp hs)
    · exact W.v x (by simp [hx])
  · rcases List.mem_cons.mp hx with rfl | hx
    · show c.2.reverse.length ≤ 7
      rw [List.length_reverse]
      exact W.l7 c (by simp)
    · exact W.l7 x (by simp [hx])
  · rw [goodC_iff]
    refine ⟨fun x hx => ?_, g2⟩
    rcases List.mem_cons.mp hx with rfl | hx
    · exact ⟨gc.1, fun s hs => gc.2.1 s (List.mem_reverse.mp hs), (List.reverse_perm c.2).nodup_iff.mpr gc.2.2⟩
    · exact g1 x (by simp [hx])
  · unfold szs
    rw [List.map_cons, List.map_cons]
    show ((c.2.reverse.length : Nat) : Int) :: _ = _
    rw [List.length_reverse]
  · have e : c.2.reverse = c.2 := congrArg Prod.snd (List.cons.inj z).1
    match hc : c.2, h2, e, gc.2.2 with
    | a :: b :: l, _, e, nd =>
      have h0 : (a :: b :: l).reverse[0]? = some a := by rw [e]; rfl
      rw [List.getElem?_reverse (by simp)] at h0
      have h3 : (a :: b :: l)[l.length + 1]? = some a := by
        rw [show (a :: b :: l).length - 1 - 0 = l.length + 1 by simp] at h0
        exact h0
      rw [List.getElem?_cons_succ] at h3
      exact (List.nodup_cons.mp nd).1 (List.mem_of_getElem? h3)
theorem w_o (h : Wr0 (c :: cs)) (g : goodC (c :: cs) = true) (h2 : 2 ≤ c.2.length) : Oth (c :: cs) ((c.1, "w" :: c.2.drop 1) :: cs) := by
  have W := h.w
  rw [goodC_iff] at g
  obtain ⟨g1, g2⟩ := g
  have gc := g1 c (by simp)
  have hw : ("w" : Str) ∈ ws := by decide +kernel
  have hg : gn "w" = true := by decide +kernel
  have hl : ("w" :: c.2.drop 1 : List Str).length = c.2.length := by rw [List.length_cons, List.length_drop]; omega
  have nw : ("w" : Str) ∉ c.2 := fun z => ws0_w (h.v c (by simp) _ z)
  refine ⟨⟨W.few7, fun x hx => ?_, fun x hx => ?_, fun x hx => ?_⟩, ?_, ?_, fun z => ?_⟩
  · rcases List.mem_cons.mp hx with rfl | hx
    · exact W.n c (by simp)
    · exact W.n x (by simp [hx])
  · rcases List.mem_cons.mp hx with rfl | hx
    · intro s hs
      rcases List.mem_cons.mp hs with rfl | hs
      · exact hw
      · exact W.v c (by simp) s (List.mem_of_mem_drop hs)
    · exact W.v x (by simp [hx])
  · rcases List.mem_cons.mp hx with rfl | hx
    · show ("w" :: c.2.drop 1 : List Str).length ≤ 7
      rw [hl]
      exact W.l7 c (by simp)
    · exact W.l7 x (by simp [hx])
  · rw [goodC_iff]
    refine ⟨fun x hx => ?_, g2⟩
    rcases List.mem_cons.mp hx with rfl | hx
    · refine ⟨gc.1, fun s hs => ?_, List.nodup_cons.mpr ⟨fun z => nw (List.mem_of_mem_drop z), gc.2.2.sublist (List.drop_sublist _ _)⟩⟩
      rcases List.mem_cons.mp hs with rfl | hs
      · exact hg
      · exact gc.2.1 s (List.mem_of_mem_drop hs)
    · exact g1 x (by simp [hx])
  · unfold szs
    rw [List.map_cons, List.map_cons]
    show ((("w" :: c.2.drop 1 : List Str).length : Nat) : Int) :: _ = _
    rw [hl]
  · have e : ("w" : Str) :: c.2.drop 1 = c.2 := congrArg Prod.snd (List.cons.inj z).1
    exact nw (by rw [← e]; simp)
end
end My
namespace My
open PySem L2 DV
noncomputable abbrev blkE : DS → Fl := (cIf (cLookT 3 (cTest (cBin oNeNil (cVar 3) (cL cNil)))) (cSeq (cAsg 7 (cLookL 3 (cBin oMod (cBin oIx (cVar 2) (cC (.int 9))) (cCall gLen (cCons (cVar 3) cNil)))))
  (cSeq (cIf (cTest (cBin oEq (cBin oIx (cVar 2) (cC (.int 10))) (cC (.int 0)))) putA cNext)
  (cSeq (cIf (cTest (cBin oEq (cBin oIx (cVar 2) (cC (.int 9))) (cC (.int 7)))) putB cNext)
  (cIf (cTest (cBin oEq (cBin oIx (cVar 2) (cC (.int 9))) (cC (.int 8)))) putC cNext)))) cNext)
theorem test_dr {ds : List Int} (D0 : Drawn ds) {k : Nat} (hk : k < 11) (z : Int) (A C : Option O) (r : DS) : cTest (cBin oEq (cBin oIx (cVar 2) (cC (.int (k : Int)))) (cC (.int z))) (A :: C :: some (.im (drD ds)) :: r) = .ok (decide (ds.getD k 0 = z)) := by
  rw [ev_test, ev_bin, show cBin oIx (cVar 2) (cC (.int (k : Int))) (A :: C :: some (.im (drD ds)) :: r) = oIx (drD ds) (.int (k : Int)) from rfl, dr_ix (by rw [D0.len]; exact hk), Res.bind_ok, ev_c, Res.bind_ok, oEq_int, Res.bind_ok, ev_asB]
theorem blk_ok {ds : List Int} (D0 : Drawn ds) {cs : List Col} (h : Wr0 cs) (h4 : ∀ c ∈ cs, c.2.length ≤ 4) {s : Str} (hs : s ∈ ws0) (A C o4 o5 o7 : Option O) (r : DS) :
    ∃ cs' o7', Wr0 cs' ∧ blkE (A :: C :: some (.im (drD ds)) :: some (.ow (colsD cs)) :: o4 :: o5 :: some (.im (.str s)) :: o7 :: r) = .nx (A :: C :: some (.im (drD ds)) :: some (.ow (colsD cs')) :: o4 :: o5 :: some (.im (.str s)) :: o7' :: r) := by
  have t1 : cLookT 3 (cTest (cBin oNeNil (cVar 3) (cL cNil))) (A :: C :: some (.im (drD ds)) :: some (.ow (colsD cs)) :: o4 :: o5 :: some (.im (.str s)) :: o7 :: r) = .ok (!(colsD cs).isEmpty) := rfl
  unfold blkE
  rw [ev_if, t1, stE_ok]
  by_cases hn : cs = []
  · subst hn
    exact ⟨[], o7, h, rfl⟩
  · have hl : 0 < cs.length := List.length_pos_iff.mpr hn
    have he : (!(colsD cs).isEmpty) = true := by
      cases cs with
      | nil => exact absurd rfl hn
      | cons c cs => rfl
    rw [if_pos he]
    have d9 := D0.d9
    obtain ⟨j, hj⟩ : ∃ j : Nat, ds.getD 9 0 % (cs.length : Int) = (j : Int) := ⟨(ds.getD 9 0 % (cs.length : Int)).toNat, by rw [Int.toNat_of_nonneg (Int.emod_nonneg _ (by omega))]⟩
    have hjl : j < cs.length := by
      have := Int.emod_lt_of_pos (ds.getD 9 0) (show (0 : Int) < (cs.length : Int) by omega)
      omega
    have a1 : cLookL 3 (cBin oMod (cBin oIx (cVar 2) (cC (.int 9))) (cCall gLen (cCons (cVar 3) cNil))) (A :: C :: some (.im (drD ds)) :: some (.ow (colsD cs)) :: o4 :: o5 :: some (.im (.str s)) :: o7 :: r) = .ok (.int (j : Int)) := by
      show noLstR ((oIx (drD ds) (.int ((9 : Nat) : Int))).bind fun x => Res.bind (.ok (D.int ((colsD cs).length : Nat))) fun y => oMod x y) = _
      rw [dr_ix (by rw [D0.len]; decide), Res.bind_ok, Res.bind_ok, show (colsD cs).length = cs.length from List.length_map .., oMod_pos (by omega), hj]
      rfl
    rw [ev_seq, ev_asg, a1, stE_ok, Fl.then_nx, show (A :: C :: some (.im (drD ds)) :: some (.ow (colsD cs)) :: o4 :: o5 :: some (.im (.str s)) :: o7 :: r : DS).set 7 (some (.im (.int (j : Int)))) = (A :: C :: some (.im (drD ds)) :: some (.ow (colsD cs)) :: o4 :: o5 :: some (.im (.str s)) :: some (.im (.int (j : Int))) :: r) from rfl]
    obtain ⟨cs1, w1, l1, b1, e1⟩ : ∃ cs1, Wr0 cs1 ∧ cs1.length = cs.length ∧ (∀ c ∈ cs1, c.2.length ≤ 4) ∧ cIf (cTest (cBin oEq (cBin oIx (cVar 2) (cC (.int 10))) (cC (.int 0)))) putA cNext (A :: C :: some (.im (drD ds)) :: some (.ow (colsD cs)) :: o4 :: o5 :: some (.im (.str s)) :: some (.im (.int (j : Int))) :: r) = .nx (A :: C :: some (.im (drD ds)) :: some (.ow (colsD cs1)) :: o4 :: o5 :: some (.im (.str s)) :: some (.im (.int (j : Int))) :: r) := by
      have t := test_dr D0 (k := 10) (by decide) 0 A C (some (.ow (colsD cs)) :: o4 :: o5 :: some (.im (.str s)) :: some (.im (.int (j : Int))) :: r)
      rw [ev_if]
      by_cases q : ds.getD 10 0 = 0
      · obtain ⟨cs1, w1, l1, b1, e1⟩ := putA_ok (ds := ds) h hjl hs h4 A C o4 o5 r
        refine ⟨cs1, w1, l1, b1, ?_⟩
        rw [show cTest (cBin oEq (cBin oIx (cVar 2) (cC (.int 10))) (cC (.int 0))) _ = _ from t, stE_ok, if_pos (decide_eq_true q)]
        exact e1
      · refine ⟨cs, h, rfl, h4, ?_⟩
        rw [show cTest (cBin oEq (cBin oIx (cVar 2) (cC (.int 10))) (cC (.int 0))) _ = _ from t, stE_ok, if_neg (by simpa using q)]
        rfl
    rw [ev_seq, e1, Fl.then_nx]
    have hj1 : j < cs1.length := by omega
    obtain ⟨cs2, w2, l2, b2, e2⟩ : ∃ cs2, Wr0 cs2 ∧ cs2.length = cs1.length ∧ (∀ c ∈ cs2, c.2.length ≤ 4) ∧ cIf (cTest (cBin oEq (cBin oIx (cVar 2) (cC (.int 9))) (cC (.int 7)))) putB cNext (A :: C :: some (.im (drD ds)) :: some (.ow (colsD cs1)) :: o4 :: o5 :: some (.im (.str s)) :: some (.im (.int (j : Int))) :: r) = .nx (A :: C :: some (.im (drD ds)) :: some (.ow (colsD cs2)) :: o4 :: o5 :: some (.im (.str s)) :: some (.im (.int (j : Int))) :: r) := by
      have t := test_dr D0 (k := 9) (by decide) 7 A C (some (.ow (colsD cs1)) :: o4 :: o5 :: some (.im (.str s)) :: some (.im (.int (j : Int))) :: r)
      rw [ev_if]
      by_cases q : ds.getD 9 0 = 7
      · obtain ⟨cs2, w2, l2, b2, e2⟩ := putB_ok (ds := ds) w1 hj1 b1 A C o4 o5 (some (.im (.str s))) r
        refine ⟨cs2, w2, l2, b2, ?_⟩
        rw [show cTest (cBin oEq (cBin oIx (cVar 2) (cC (.int 9))) (cC (.int 7))) _ = _ from t, stE_ok, if_pos (decide_eq_true q)]
        exact e2
      · refine ⟨cs1, w1, rfl, b1, ?_⟩
        rw [show cTest (cBin oEq (cBin oIx (cVar 2) (cC (.int 9))) (cC (.int 7))) _ = _ from t, stE_ok, if_neg (by simpa using q)]
        rfl
    rw [ev_seq, e2, Fl.then_nx]
    have hj2 : j < cs2.length := by omega
    have t := test_dr D0 (k := 9) (by decide) 8 A C (some (.ow (colsD cs2)) :: o4 :: o5 :: some (.im (.str s)) :: some (.im (.int (j : Int))) :: r)
    rw [ev_if]
    by_cases q : ds.getD 9 0 = 8
    · obtain ⟨cs3, w3, e3⟩ := putC_ok (ds := ds) w2 hj2 hs b2 A C o4 o5 r
      refine ⟨cs3, some (.im (.int (j : Int))), w3, ?_⟩
      rw [show cTest (cBin oEq (cBin oIx (cVar 2) (cC (.int 9))) (cC (.int 8))) _ = _ from t, stE_ok, if_pos (decide_eq_true q)]
      exact e3
    · refine ⟨cs2, some (.im (.int (j : Int))), w2, ?_⟩
      rw [show cTest (cBin oEq (cBin oIx (cVar 2) (cC (.int 9))) (cC (.int 8))) _ = _ from t, stE_ok, if_neg (by simpa using q)]
      rfl
end My
namespace My
open PySem L2 DV
theorem cols_nl (cs : List Col) : D.noLstA (colsD cs) = true := by
  unfold colsD
  induction cs with
  | nil => rfl
  | cons c cs ih => rw [List.map_cons, D.noLstA, colD_nl, ih]; rfl
theorem ints_nl (ns : List Int) : D.noLstA (ns.map D.int) = true := by
  induction ns with
  | nil => rfl
  | cons n ns ih => rw [List.map_cons, D.noLstA, ih]; rfl
theorem bkT_nl (cs : List Col) : (bkT cs).nl = true := by
  unfold bkT
  simp only [T.nl, T.nlA, D.noLst, D.noLstA, cols_nl, tupI, dI, ints_nl]
  rfl
noncomputable abbrev bookE : DS → Res D := (cNd (lookN 9 (cMake "Book" F_Book_init [] (cCons (cIfE (cTest (cBin oGt (cBin oIx (cVar 2) (cC (.int 1))) (cC (.int 0)))) (cVar 9) (cCall gTuple (cCons (cVar 9) cNil))) cNil))))
theorem bookE_ok {ds : List Int} (D0 : Drawn ds) {cs : List Col} (h : Wr0 cs) (A C o3 o4 o5 o6 o7 o8 : Option O) (r : DS) :
    bookE (A :: C :: some (.im (drD ds)) :: o3 :: o4 :: o5 :: o6 :: o7 :: o8 :: some (.ow (colsD cs)) :: r) = if goodC cs = true then (if szOk (szs cs) = true then .ok (bkD cs) else .er badS) else .er badN := by
  obtain ⟨L, hL, e⟩ : ∃ L, Holds2 L cs ∧ (cCons (cIfE (cTest (cBin oGt (cBin oIx (cVar 2) (cC (.int 1))) (cC (.int 0)))) (cVar 9) (cCall gTuple (cCons (cVar 9) cNil))) cNil) (A :: C :: some (.im (drD ds)) :: o3 :: o4 :: o5 :: o6 :: o7 :: o8 :: some (.im (.lst (colsD cs))) :: r) = .ok [L] := by
    have t : cTest (cBin oGt (cBin oIx (cVar 2) (cC (.int 1))) (cC (.int 0))) (A :: C :: some (.im (drD ds)) :: o3 :: o4 :: o5 :: o6 :: o7 :: o8 :: some (.im (.lst (colsD cs))) :: r) = .ok (decide (ds.getD 1 0 > 0)) := by
      rw [ev_test, ev_bin, show cBin oIx (cVar 2) (cC (.int 1)) (A :: C :: some (.im (drD ds)) :: o3 :: o4 :: o5 :: o6 :: o7 :: o8 :: some (.im (.lst (colsD cs))) :: r) = oIx (drD ds) (.int ((1 : Nat) : Int)) from rfl, dr_ix (by rw [D0.len]; decide), Res.bind_ok, ev_c, Res.bind_ok]
      rfl
    rw [ev_cons, ev_ifE, t, Res.bind_ok]
    by_cases q : ds.getD 1 0 > 0
    · rw [if_pos (decide_eq_true q)]
      exact ⟨.lst (colsD cs), .inl rfl, rfl⟩
    · rw [if_neg (by simpa using q)]
      exact ⟨.tup (colsD cs), .inr rfl, rfl⟩
  have m := book_make hL h.w e
  unfold bookE cNd lookN
  rw [show fzL 9 (A :: C :: some (.im (drD ds)) :: o3 :: o4 :: o5 :: o6 :: o7 :: o8 :: some (.ow (colsD cs)) :: r) = (A :: C :: some (.im (drD ds)) :: o3 :: o4 :: o5 :: o6 :: o7 :: o8 :: some (.im (.lst (colsD cs))) :: r) from rfl, m]
  cases goodC cs with
  | false => rfl
  | true =>
    cases szOk (szs cs) with
    | false => rfl
    | true =>
      rw [if_pos rfl, if_pos rfl, if_pos rfl, if_pos rfl]
      dsimp only
      rw [if_pos (bkT_nl cs), Res.bind_ok, bkT_d]
theorem mk_ok {L : D} {cs : List Col} (hL : Holds2 L cs) (W : Wrd cs) (g : goodC cs = true) (z : szOk (szs cs) = true) {f : DS → Res D} {δ : DS} (hf : f δ = .ok L) : cNd (cMake "Book" F_Book_init [] (cCons f cNil)) δ = .ok (bkD cs) := by
  have m := book_make (fs := cCons f cNil) (δ := δ) hL W (by rw [ev_cons, hf]; rfl)
  rw [g, z, if_pos rfl, if_pos rfl] at m
  unfold cNd
  rw [m, Res.bind_ok, bkT_d]
theorem eqO_ok {cs os : List Col} (h1 : Wrd cs) (h2 : Wrd os) {f g : DS → Res D} {δ : DS} (hf : f δ = .ok (bkD cs)) (hg : g δ = .ok (bkD os)) : cEqO "Book" F_Book_eq f g δ = .ok (.bl (decide (cs = os))) := by
  unfold cEqO
  rw [hf, Res.bind_ok, hg, Res.bind_ok]
  have e := beq_ok h1 h2
  unfold bkD at e ⊢
  dsimp only
  rw [if_pos ⟨rfl, rfl⟩, e]
theorem plain_cols {cs : List Col} (h : Wrd cs) : plain 5 (.lst (colsD cs)) := by
  refine ⟨by rw [show (colsD cs).length = cs.length from List.length_map ..]; exact sl64 h.few, fun d hd => ?_⟩
  obtain ⟨c, hc, rfl⟩ := List.mem_map.mp hd
  refine ⟨by rw [sizeLine_eq]; show 2 ≤ _; decide, fun d hd => ?_⟩
  simp only [List.mem_cons, List.not_mem_nil, or_false] at hd
  rcases hd with rfl | rfl
  · exact shaped_ok _ (h.n c hc)
  · refine ⟨by rw [List.length_map]; exact sl64 (h.l c hc), fun d hd => ?_⟩
    obtain ⟨s, hs, rfl⟩ := List.mem_map.mp hd
    exact shaped_ok _ (h.v c hc s hs)
end My
namespace My
open PySem L2 DV
noncomputable abbrev tryE : DS → Fl := (cTry (cAsg 10 (cNd (lookN 9 (cMake "Book" F_Book_init [] (cCons (cIfE (cTest (cBin oGt (cBin oIx (cVar 2) (cC (.int 1))) (cC (.int 0)))) (cVar 9) (cCall gTuple (cCons (cVar 9) cNil))) cNil))))) ((tabP [("BadSizes", true), ("BadRow", false), ("BadMany", false), ("BadDeed", false), ("Same", false), ("Taken", false), ("Full", false), ("BadName", true), ("Ring", false), ("NoRows", false), ("NoColumn", false), ("NotBound", false)], 11, (fun x => cAsg 8 ((fun x _ => fldR "word" x) x))) :: []))
noncomputable abbrev sameE : DS → Fl := (cIf (cOrT (cNotT (cTest (cFn0 (F__law_same 6) (cCons (cMth "Book" "columns" F_Book_columns [] (cVar 10) cNil) (cCons (cVar 3) cNil))))) (cOrT (cTest (cBin oNe (cLenO "Book" F_Book_len (cVar 10)) (cC (.int 0)))) (cNotT (cTest (cEqO "Book" F_Book_eq (cVar 10) (cNd (cMake "Book" F_Book_init [] (cCons (cVar 3) cNil)))))))) (cRet (cC (.bl false))) cNext)
noncomputable abbrev oth1E : DS → Fl := (cOwn 12 (cCons (cBin oAdd (cL (cCons (cTup (cCons (cC (.str "late")) (cCons (cBin oIx (cBin oIx (cVar 3) (cC (.int 0))) (cC (.int 1))) cNil))) cNil)) (cSl (cVar 3) (cSome (cC (.int 1))) cNone)) (cCons (cBin oAdd (cL (cCons (cTup (cCons (cBin oIx (cBin oIx (cVar 3) (cC (.int 0))) (cC (.int 0))) (cCons (cUn oRev (cBin oIx (cBin oIx (cVar 3) (cC (.int 0))) (cC (.int 1)))) cNil))) cNil)) (cSl (cVar 3) (cSome (cC (.int 1))) cNone)) cNil)))
noncomputable abbrev oth2E : DS → Fl := (cApp 12 (cBin oAdd (cL (cCons (cTup (cCons (cBin oIx (cBin oIx (cVar 3) (cC (.int 0))) (cC (.int 0))) (cCons (cBin oAdd (cTup (cCons (cC (.str "w")) cNil)) (cSl (cBin oIx (cBin oIx (cVar 3) (cC (.int 0))) (cC (.int 1))) (cSome (cC (.int 1))) cNone)) cNil))) cNil)) (cSl (cVar 3) (cSome (cC (.int 1))) cNone)))
noncomputable abbrev anyE : DS → Fl := (cIf (cLookT 12 (cTest (cCall gAny (cCons (cL (cLc [13] (cItems (cVar 12)) (bName 13) cYes (cOrV (cEqO "Book" F_Book_eq (cVar 10) (cNd (cMake "Book" F_Book_init [] (cCons (cVar 13) cNil)))) (cEqO "Book" F_Book_eq (cNd (cMake "Book" F_Book_init [] (cCons (cVar 13) cNil))) (cVar 10))))) cNil)))) (cRet (cC (.bl false))) cNext)
noncomputable abbrev goodE : DS → Fl := (cSeq (cApp 9 (cTup (cCons (cC (.str "late")) (cCons (cTup (cCons (cC (.str "no")) (cCons (cC (.str "yes")) cNil))) cNil))))
  (cSeq sameE
  (cSeq oth1E
  (cSeq oth2E
  anyE))))
noncomputable abbrev restE : DS → Fl := (cSeq (cFz 3 (cAsg 8 (cC (.str ""))))
  (cSeq (cOwn 9 (cListOf (cVar 3)))
  (cSeq (cAsg 10 (cC .non))
  (cSeq tryE
  (cSeq (cIf (cTest (cBin oNe (cVar 8) (cFn0 F__law_word_due (cCons (cVar 3) cNil)))) (cRet (cC (.bl false))) cNext)
  (cIf (cTest (cBin oEq (cVar 8) (cC (.str "")))) goodE cNext))))))
noncomputable def bkO (cs : List Col) : D := if goodC cs = true then (if szOk (szs cs) = true then bkD cs else .non) else .non
section
variable {ds : List Int} {cs : List Col}
theorem try_ok (D0 : Drawn ds) (h : Wr0 cs) (A C o3 o4 o5 o6 o7 o11 o12 o13 : Option O) :
    ∃ o11', tryE [A, C, some (.im (drD ds)), o3, o4, o5, o6, o7, some (.im (.str "")), some (.ow (colsD cs)), some (.im .non), o11, o12, o13] = .nx [A, C, some (.im (drD ds)), o3, o4, o5, o6, o7, some (.im (.str (dueW cs))), some (.ow (colsD cs)), some (.im (bkO cs)), o11', o12, o13] := by
  have e := bookE_ok D0 h A C o3 o4 o5 o6 o7 (some (.im (.str ""))) [some (.im .non), o11, o12, o13]
  unfold bookE at e
  unfold tryE cTry dueW bkO
  rw [ev_asg, e]
  cases goodC cs with
  | false => exact ⟨none, rfl⟩
  | true =>
    cases szOk (szs cs) with
    | false => exact ⟨none, rfl⟩
    | true => exact ⟨o11, rfl⟩
theorem tail_cut (c : Col) (cs : List Col) : cutD (colsD (c :: cs)) (some 1) none = colsD cs := by
  unfold colsD
  rw [cutD_map]
  simp [HT.sIx]
theorem tail_cutS (l : List Str) : cutD (l.map D.str) (some 1) none = (l.drop 1).map D.str := by
  rw [cutD_map]
  cases l with
  | nil => rfl
  | cons s l => simp [HT.sIx]
noncomputable abbrev stG (ds : List Int) (cs : List Col) (A C o4 o5 o6 o7 : Option O) (hd : List D) (r : DS) : DS := A :: C :: some (.im (drD ds)) :: some (.im (.lst (colsD cs))) :: o4 :: o5 :: o6 :: o7 :: some (.im (.str "")) :: some (.ow hd) :: some (.im (bkD cs)) :: r
theorem same_ok (h : Wr0 cs) (g : goodC cs = true) (z : szOk (szs cs) = true) (A C o4 o5 o6 o7 : Option O) (hd : List D) (r : DS) : sameE (stG ds cs A C o4 o5 o6 o7 hd r) = .nx (stG ds cs A C o4 o5 o6 o7 hd r) := by
  have e1 : cFn0 (F__law_same 6) (cCons (cMth "Book" "columns" F_Book_columns [] (cVar 10) cNil) (cCons (cVar 3) cNil)) (stG ds cs A C o4 o5 o6 o7 hd r) = .ok (.bl true) := same_refl 5 _ (plain_cols h.w)
  have e2 : cLenO "Book" F_Book_len (cVar 10) (stG ds cs A C o4 o5 o6 o7 hd r) = .ok (.int 0) := by
    have b := blen_ok cs
    unfold bkD at b
    show oLenO "Book" F_Book_len (bkD cs) = _
    unfold oLenO bkD
    dsimp only
    rw [if_pos rfl, b]
    rfl
  have e3 := eqO_ok h.w h.w (f := cVar 10) (g := cNd (cMake "Book" F_Book_init [] (cCons (cVar 3) cNil))) (δ := stG ds cs A C o4 o5 o6 o7 hd r) rfl (mk_ok (.inl rfl) h.w g z rfl)
  unfold sameE
  rw [ev_if, ev_orT, ev_notT, ev_test, e1, Res.bind_ok, ev_asB, Res.bind_ok, Res.bind_ok, show (!true) = false from rfl, if_neg Bool.false_ne_true, ev_orT, ev_test, ev_bin, e2, Res.bind_ok, ev_c, Res.bind_ok, oNe_int, Res.bind_ok, ev_asB, Res.bind_ok, ev_notT, ev_test, e3]
  simp
theorem oth1_ok {c : Col} {cs : List Col} (h : Wr0 (c :: cs)) (A C o4 o5 o6 o7 o11 o12 o13 : Option O) (hd : List D) : oth1E (stG ds (c :: cs) A C o4 o5 o6 o7 hd [o11, o12, o13]) = .nx (stG ds (c :: cs) A C o4 o5 o6 o7 hd [o11, some (.ow [.lst (colsD (("late", c.2) :: cs)), .lst (colsD ((c.1, c.2.reverse) :: cs))]), o13]) := by
  let st := stG ds (c :: cs) A C o4 o5 o6 o7 hd [o11, o12, o13]
  have hl : cs.length < 63 := by have := h.few7; rw [List.length_cons] at this; omega
  have x0 : cBin oIx (cVar 3) (cC (.int 0)) st = .ok (colD c) := col_at (cs := c :: cs) (j := 0) rfl
  have x1 : cSl (cVar 3) (cSome (cC (.int 1))) cNone st = .ok (.lst (colsD cs)) := by
    show Res.ok (D.lst (cutD (colsD (c :: cs)) (some 1) none)) = _
    rw [tail_cut]
  have ad : ∀ x : Col, oAdd (.lst [colD x]) (.lst (colsD cs)) = .ok (.lst (colsD (x :: cs))) := fun x => by
    show (if 1 + (colsD cs).length ≤ sizeLine then _ else _) = _
    rw [show (colsD cs).length = cs.length from List.length_map .., if_pos (sl64 (by omega))]
    rfl
  have y1 : cL (cCons (cTup (cCons (cC (.str "late")) (cCons (cBin oIx (cBin oIx (cVar 3) (cC (.int 0))) (cC (.int 1))) cNil))) cNil) st = .ok (.lst [colD ("late", c.2)]) := by
    simp only [ev_L, ev_cons, ev_tup, ev_c, ev_nil, Res.bind_ok]
    rw [ev_bin, x0]
    rfl
  have y2 : cL (cCons (cTup (cCons (cBin oIx (cBin oIx (cVar 3) (cC (.int 0))) (cC (.int 0))) (cCons (cUn oRev (cBin oIx (cBin oIx (cVar 3) (cC (.int 0))) (cC (.int 1)))) cNil))) cNil) st = .ok (.lst [colD (c.1, c.2.reverse)]) := by
    have a1 : cBin oIx (cBin oIx (cVar 3) (cC (.int 0))) (cC (.int 0)) st = .ok (.str c.1) := by rw [ev_bin, x0]; rfl
    have a2 : cUn oRev (cBin oIx (cBin oIx (cVar 3) (cC (.int 0))) (cC (.int 1))) st = .ok (.tup (c.2.reverse.map D.str)) := by
      rw [ev_un, ev_bin, x0]
      show Res.ok (D.tup (c.2.map D.str).reverse) = _
      rw [List.map_reverse]
    rw [ev_L, ev_cons, ev_tup, ev_cons, a1, Res.bind_ok, ev_cons, a2]
    rfl
  unfold oth1E
  rw [ev_own, ev_cons, ev_bin, y1, Res.bind_ok, x1, Res.bind_ok, ad, Res.bind_ok, ev_cons, ev_bin, y2, Res.bind_ok, x1, Res.bind_ok, ad]
  rfl
theorem oth2_ok {c : Col} {cs : List Col} (h : Wr0 (c :: cs)) (A C o4 o5 o6 o7 o11 o13 : Option O) (hd : List D) (a b : D) : oth2E (stG ds (c :: cs) A C o4 o5 o6 o7 hd [o11, some (.ow [a, b]), o13]) = .nx (stG ds (c :: cs) A C o4 o5 o6 o7 hd [o11, some (.ow [a, b, .lst (colsD ((c.1, "w" :: c.2.drop 1) :: cs))]), o13]) := by
  let st := stG ds (c :: cs) A C o4 o5 o6 o7 hd [o11, some (.ow [a, b]), o13]
  have hl : cs.length < 63 := by have := h.few7; rw [List.length_cons] at this; omega
  have hv : c.2.length ≤ 7 := h.l7 c (by simp)
  have x0 : cBin oIx (cVar 3) (cC (.int 0)) st = .ok (colD c) := col_at (cs := c :: cs) (j := 0) rfl
  have x1 : cSl (cVar 3) (cSome (cC (.int 1))) cNone st = .ok (.lst (colsD cs)) := by
    show Res.ok (D.lst (cutD (colsD (c :: cs)) (some 1) none)) = _
    rw [tail_cut]
  have ad : ∀ x : Col, oAdd (.lst [colD x]) (.lst (colsD cs)) = .ok (.lst (colsD (x :: cs))) := fun x => by
    show (if 1 + (colsD cs).length ≤ sizeLine then _ else _) = _
    rw [show (colsD cs).length = cs.length from List.length_map .., if_pos (sl64 (by omega))]
    rfl
  have a1 : cBin oIx (cBin oIx (cVar 3) (cC (.int 0))) (cC (.int 0)) st = .ok (.str c.1) := by rw [ev_bin, x0]; rfl
  have a2 : cBin oAdd (cTup (cCons (cC (.str "w")) cNil)) (cSl (cBin oIx (cBin oIx (cVar 3) (cC (.int 0))) (cC (.int 1))) (cSome (cC (.int 1))) cNone) st = .ok (.tup (("w" :: c.2.drop 1 : List Str).map D.str)) := by
    rw [ev_bin, show cTup (cCons (cC (.str "w")) cNil) st = .ok (.tup [.str "w"]) from rfl, Res.bind_ok, ev_sl, ev_bin, x0]
    show Res.bind (Res.ok (D.tup (cutD (c.2.map D.str) (some 1) none))) _ = _
    rw [Res.bind_ok, tail_cutS]
    show (if 1 + ((c.2.drop 1).map D.str).length ≤ sizeLine then _ else _) = _
    rw [if_pos (sl64 (by rw [List.length_map, List.length_drop]; omega))]
    rfl
  have y : cL (cCons (cTup (cCons (cBin oIx (cBin oIx (cVar 3) (cC (.int 0))) (cC (.int 0))) (cCons (cBin oAdd (cTup (cCons (cC (.str "w")) cNil)) (cSl (cBin oIx (cBin oIx (cVar 3) (cC (.int 0))) (cC (.int 1))) (cSome (cC (.int 1))) cNone)) cNil))) cNil) st = .ok (.lst [colD (c.1, "w" :: c.2.drop 1)]) := by
    rw [ev_L, ev_cons, ev_tup, ev_cons, a1, Res.bind_ok, ev_cons, a2]
    rfl
  unfold oth2E
  rw [ev_app]
  dsimp only [List.getElem?_cons_succ, List.getElem?_cons_zero]
  rw [ev_bin, y, Res.bind_ok, x1, Res.bind_ok, ad, stE_ok, if_pos (sl_lt (by show 2 < 64; decide))]
  rfl
theorem any_ok (h : Wr0 cs) (g : goodC cs = true) (z : szOk (szs cs) = true) {o1 o2 o3 : List Col} (h1 : Oth cs o1) (h2 : Oth cs o2) (h3 : Oth cs o3) (A C o4 o5 o6 o7 o11 o13 : Option O) (hd : List D) :
    anyE (stG ds cs A C o4 o5 o6 o7 hd [o11, some (.ow [.lst (colsD o1), .lst (colsD o2), .lst (colsD o3)]), o13]) = .nx (stG ds cs A C o4 o5 o6 o7 hd [o11, some (.ow [.lst (colsD o1), .lst (colsD o2), .lst (colsD o3)]), o13]) := by
  have e : cCall gAny (cCons (cL (cLc [13] (cItems (cVar 12)) (bName 13) cYes (cOrV (cEqO "Book" F_Book_eq (cVar 10) (cNd (cMake "Book" F_Book_init [] (cCons (cVar 13) cNil)))) (cEqO "Book" F_Book_eq (cNd (cMake "Book" F_Book_init [] (cCons (cVar 13) cNil))) (cVar 10))))) cNil) (stG ds cs A C o4 o5 o6 o7 hd [o11, some (.im (.lst [.lst (colsD o1), .lst (colsD o2), .lst (colsD o3)])), o13]) = .ok (.bl (([o1, o2, o3] : List (List Col)).any fun _ => false)) := by
    refine any_lc (fun o => D.lst (colsD o)) (fun _ => false) [o1, o2, o3] rfl (by rw [sizeLine_eq]; show 3 ≤ _; decide) fun o ho => ⟨_, rfl, ?_⟩
    have O : Oth cs o := by
      simp only [List.mem_cons, List.not_mem_nil, or_false] at ho
      rcases ho with rfl | rfl | rfl <;> assumption
    have m : cNd (cMake "Book" F_Book_init [] (cCons (cVar 13) cNil)) (stG ds cs A C o4 o5 o6 o7 hd [o11, some (.im (.lst [.lst (colsD o1), .lst (colsD o2), .lst (colsD o3)])), some (.im (.lst (colsD o)))]) = .ok (bkD o) := mk_ok (.inl rfl) O.w O.g (by rw [O.z]; exact z) rfl
    have q1 := eqO_ok h.w O.w (f := cVar 10) (δ := stG ds cs A C o4 o5 o6 o7 hd [o11, some (.im (.lst [.lst (colsD o1), .lst (colsD o2), .lst (colsD o3)])), some (.im (.lst (colsD o)))]) rfl m
    have q2 := eqO_ok O.w h.w (g := cVar 10) (δ := stG ds cs A C o4 o5 o6 o7 hd [o11, some (.im (.lst [.lst (colsD o1), .lst (colsD o2), .lst (colsD o3)])), some (.im (.lst (colsD o)))]) m rfl
    rw [decide_eq_false (fun z => O.ne z.symm)] at q1
    rw [decide_eq_false O.ne] at q2
    show cOrV _ _ (stG ds cs A C o4 o5 o6 o7 hd [o11, some (.im (.lst [.lst (colsD o1), .lst (colsD o2), .lst (colsD o3)])), some (.im (.lst (colsD o)))]) = _
    rw [ev_orV, q1, Res.bind_ok]
    exact q2
  unfold anyE
  rw [ev_if, show cLookT 12 (cTest (cCall gAny (cCons (cL (cLc [13] (cItems (cVar 12)) (bName 13) cYes (cOrV (cEqO "Book" F_Book_eq (cVar 10) (cNd (cMake "Book" F_Book_init [] (cCons (cVar 13) cNil)))) (cEqO "Book" F_Book_eq (cNd (cMake "Book" F_Book_init [] (cCons (cVar 13) cNil))) (cVar 10))))) cNil))) (stG ds cs A C o4 o5 o6 o7 hd [o11, some (.ow [.lst (colsD o1), .lst (colsD o2), .lst (colsD o3)]), o13]) = .ok false from by
    show (Res.bind _ asB).calm = _
    rw [show (cCall gAny _ (fzq 12 (stG ds cs A C o4 o5 o6 o7 hd [o11, some (.ow [.lst (colsD o1), .lst (colsD o2), .lst (colsD o3)]), o13]))) = _ from e]
    rfl]
  rfl
theorem rest_ok (D0 : Drawn ds) (h : Wr0 cs) (A C o4 o5 o6 o7 o8 o9 o10 o11 o12 o13 : Option O) :
    ∃ l, restE [A, C, some (.im (drD ds)), some (.ow (colsD cs)), o4, o5, o6, o7, o8, o9, o10, o11, o12, o13] = .nx (A :: l) ∧ l.length = 13 := by
  obtain ⟨o11', e1⟩ := try_ok D0 h A C (some (.im (.lst (colsD cs)))) o4 o5 o6 o7 o11 o12 o13
  unfold restE
  rw [ev_seq, show (cFz 3 (cAsg 8 (cC (.str "")))) [A, C, some (.im (drD ds)), some (.ow (colsD cs)), o4, o5, o6, o7, o8, o9, o10, o11, o12, o13] = .nx [A, C, some (.im (drD ds)), some (.im (.lst (colsD cs))), o4, o5, o6, o7, some (.im (.str "")), o9, o10, o11, o12, o13] from rfl, Fl.then_nx,
    ev_seq, show (cOwn 9 (cListOf (cVar 3))) [A, C, some (.im (drD ds)), some (.im (.lst (colsD cs))), o4, o5, o6, o7, some (.im (.str "")), o9, o10, o11, o12, o13] = .nx [A, C, some (.im (drD ds)), some (.im (.lst (colsD cs))), o4, o5, o6, o7, some (.im (.str "")), some (.ow (colsD cs)), o10, o11, o12, o13] from rfl, Fl.then_nx,
    ev_seq, show (cAsg 10 (cC .non)) [A, C, some (.im (drD ds)), some (.im (.lst (colsD cs))), o4, o5, o6, o7, some (.im (.str "")), some (.ow (colsD cs)), o10, o11, o12, o13] = .nx [A, C, some (.im (drD ds)), some (.im (.lst (colsD cs))), o4, o5, o6, o7, some (.im (.str "")), some (.ow (colsD cs)), some (.im .non), o11, o12, o13] from rfl, Fl.then_nx,
    ev_seq, e1, Fl.then_nx, ev_seq]
  have e2 : cFn0 F__law_word_due (cCons (cVar 3) cNil) [A, C, some (.im (drD ds)), some (.im (.lst (colsD cs))), o4, o5, o6, o7, some (.im (.str (dueW cs))), some (.ow (colsD cs)), some (.im (bkO cs)), o11', o12, o13] = .ok (.str (dueW cs)) := due_ok h.w
  have e3 : oNe (.str (dueW cs)) (.str (dueW cs)) = .ok (.bl false) := by
    unfold dueW
    cases goodC cs with
    | false => kernel_rfl
    | true => cases szOk (szs cs) <;> kernel_rfl
  rw [ev_if, ev_test, ev_bin, show cVar 8 [A, C, some (.im (drD ds)), some (.im (.lst (colsD cs))), o4, o5, o6, o7, some (.im (.str (dueW cs))), some (.ow (colsD cs)), some (.im (bkO cs)), o11', o12, o13] = .ok (.str (dueW cs)) from rfl, Res.bind_ok, e2, Res.bind_ok, e3, Res.bind_ok, ev_asB, stE_ok, if_neg Bool.false_ne_true, ev_next, Fl.then_nx, ev_if]
  by_cases hg : goodC cs = true ∧ szOk (szs cs) = true
  · obtain ⟨g, z⟩ := hg
    have ew : dueW cs = "" := by unfold dueW; rw [if_pos g, if_pos z]
    have eb : bkO cs = bkD cs := by unfold bkO; rw [if_pos g, if_pos z]
    rw [ew, eb, show cTest (cBin oEq (cVar 8) (cC (.str ""))) [A, C, some (.im (drD ds)), some (.im (.lst (colsD cs))), o4, o5, o6, o7, some (.im (.str "")), some (.ow (colsD cs)), some (.im (bkD cs)), o11', o12, o13] = .ok true from by kernel_rfl, stE_ok, if_pos rfl]
    have G := szOk_good z
    match cs, h, g, z, G with
    | [], _, _, z, G => exact absurd G.ne (by decide)
    | c :: cs, h, g, z, G =>
      have h2 : 2 ≤ c.2.length := by
        have := (G.sz (c.2.length : Int) (by unfold szs; simp)).1
        omega
      have ap : cApp 9 (cTup (cCons (cC (.str "late")) (cCons (cTup (cCons (cC (.str "no")) (cCons (cC (.str "yes")) cNil))) cNil))) (stG ds (c :: cs) A C o4 o5 o6 o7 (colsD (c :: cs)) [o11', o12, o13]) = .nx (stG ds (c :: cs) A C o4 o5 o6 o7 (colsD (c :: cs) ++ [.tup [.str "late", .tup [.str "no", .str "yes"]]]) [o11', o12, o13]) := by
        have hl : (colsD (c :: cs)).length < 64 := by rw [show (colsD (c :: cs)).length = (c :: cs).length from List.length_map ..]; exact h.w.few
        rw [ev_app]
        dsimp only [List.getElem?_cons_succ, List.getElem?_cons_zero]
        rw [show (cTup (cCons (cC (.str "late")) (cCons (cTup (cCons (cC (.str "no")) (cCons (cC (.str "yes")) cNil))) cNil))) _ = Res.ok (D.tup [.str "late", .tup [.str "no", .str "yes"]]) from rfl, stE_ok, if_pos (sl_lt hl)]
        rfl
      unfold goodE
      rw [ev_seq, ap, Fl.then_nx, ev_seq, same_ok h g z, Fl.then_nx, ev_seq, oth1_ok h, Fl.then_nx, ev_seq, oth2_ok h, Fl.then_nx, any_ok h g z (late_o h g) (rev_o h g h2) (w_o h g h2)]
      exact ⟨_, rfl, rfl⟩
  · have ew : dueW cs = "badsizes" ∨ dueW cs = "badname" := by
      unfold dueW
      cases g : goodC cs with
      | false => exact .inr rfl
      | true =>
        cases z : szOk (szs cs) with
        | false => exact .inl rfl
        | true => exact absurd ⟨g, z⟩ hg
    rcases ew with ew | ew
    · rw [ew, show cTest (cBin oEq (cVar 8) (cC (.str ""))) [A, C, some (.im (drD ds)), some (.im (.lst (colsD cs))), o4, o5, o6, o7, some (.im (.str "badsizes")), some (.ow (colsD cs)), some (.im (bkO cs)), o11', o12, o13] = .ok false from by kernel_rfl, stE_ok, if_neg Bool.false_ne_true, ev_next]
      exact ⟨_, rfl, rfl⟩
    · rw [ew, show cTest (cBin oEq (cVar 8) (cC (.str ""))) [A, C, some (.im (drD ds)), some (.im (.lst (colsD cs))), o4, o5, o6, o7, some (.im (.str "badname")), some (.ow (colsD cs)), some (.im (bkO cs)), o11', o12, o13] = .ok false from by kernel_rfl, stE_ok, if_neg Bool.false_ne_true, ev_next]
      exact ⟨_, rfl, rfl⟩
end
end My
namespace My
open PySem L2 DV
noncomputable abbrev szD : List Int := [8, 5, 5, 5, 5, 5, 5, 5, 8, 9, 3]
theorem drawn_of (m : Int) : Drawn (digs m szD) := by
  have h : ∀ (a s : Int), 0 < s → 0 ≤ a % s ∧ a % s < s := fun a s hs => ⟨Int.emod_nonneg _ (by omega), Int.emod_lt_of_pos _ hs⟩
  refine ⟨rfl, h _ 8 (by decide), fun k h1 h8 => ?_, h _ 8 (by decide), (h _ 9 (by decide)).1⟩
  match k, h1, h8 with
  | 1, _, _ => exact h _ 5 (by decide)
  | 2, _, _ => exact h _ 5 (by decide)
  | 3, _, _ => exact h _ 5 (by decide)
  | 4, _, _ => exact h _ 5 (by decide)
  | 5, _, _ => exact h _ 5 (by decide)
  | 6, _, _ => exact h _ 5 (by decide)
  | 7, _, _ => exact h _ 5 (by decide)
theorem turn_ok (A o2 o3 o4 o5 o6 o7 o8 o9 o10 o11 o12 o13 : Option O) (c : Int) :
    ∃ l, g_law_l2 [A, some (.im (.int c)), o2, o3, o4, o5, o6, o7, o8, o9, o10, o11, o12, o13] = .nx (A :: l) ∧ l.length = 13 := by
  obtain ⟨m, hm⟩ := draws_ok c szD (by decide) (by decide)
  have D0 := drawn_of m
  generalize digs m szD = ds at hm D0
  have e1 : cAsg 2 (cFn0 F__law_draws (cCons (cVar 1) (cCons (cL (cCons (cC (.int 8)) (cCons (cC (.int 5)) (cCons (cC (.int 5)) (cCons (cC (.int 5)) (cCons (cC (.int 5)) (cCons (cC (.int 5)) (cCons (cC (.int 5)) (cCons (cC (.int 5)) (cCons (cC (.int 8)) (cCons (cC (.int 9)) (cCons (cC (.int 3)) cNil)))))))))))) cNil))) [A, some (.im (.int c)), o2, o3, o4, o5, o6, o7, o8, o9, o10, o11, o12, o13] = .nx [A, some (.im (.int c)), some (.im (drD ds)), o3, o4, o5, o6, o7, o8, o9, o10, o11, o12, o13] := by
    have : cFn0 F__law_draws (cCons (cVar 1) (cCons (cL (cCons (cC (.int 8)) (cCons (cC (.int 5)) (cCons (cC (.int 5)) (cCons (cC (.int 5)) (cCons (cC (.int 5)) (cCons (cC (.int 5)) (cCons (cC (.int 5)) (cCons (cC (.int 5)) (cCons (cC (.int 8)) (cCons (cC (.int 9)) (cCons (cC (.int 3)) cNil)))))))))))) cNil)) [A, some (.im (.int c)), o2, o3, o4, o5, o6, o7, o8, o9, o10, o11, o12, o13] = .ok (drD ds) := hm
    rw [ev_asg, this, stE_ok]
    rfl
  obtain ⟨p4, p5, e2⟩ := cols_loop D0 A (some (.im (.int c))) o4 o5 [o6, o7, o8, o9, o10, o11, o12, o13]
  have hw := cols_w D0
  have h4 : ∀ x ∈ (List.range (ds.getD 0 0).toNat).map (colK ds), x.2.length ≤ 4 := fun x hx => by
    obtain ⟨k, _, rfl⟩ := List.mem_map.mp hx
    exact vals_len _
  generalize (List.range (ds.getD 0 0).toNat).map (colK ds) = cs at e2 hw h4
  obtain ⟨s, hs, e3⟩ := odd_ok D0 hw A (some (.im (.int c))) [p4, p5, o6, o7, o8, o9, o10, o11, o12, o13]
  have e4 : cAsg 6 (cLookL 3 oddE) [A, some (.im (.int c)), some (.im (drD ds)), some (.ow (colsD cs)), p4, p5, o6, o7, o8, o9, o10, o11, o12, o13] = .nx [A, some (.im (.int c)), some (.im (drD ds)), some (.ow (colsD cs)), p4, p5, some (.im (.str s)), o7, o8, o9, o10, o11, o12, o13] := by
    have : cLookL 3 oddE [A, some (.im (.int c)), some (.im (drD ds)), some (.ow (colsD cs)), p4, p5, o6, o7, o8, o9, o10, o11, o12, o13] = .ok (.str s) := by
      show noLstR (oddE [A, some (.im (.int c)), some (.im (drD ds)), some (.im (.lst (colsD cs))), p4, p5, o6, o7, o8, o9, o10, o11, o12, o13]) = _
      rw [e3]
      rfl
    rw [ev_asg, this, stE_ok]
    rfl
  obtain ⟨cs', p7, hw', e5⟩ := blk_ok D0 hw h4 hs A (some (.im (.int c))) p4 p5 o7 [o8, o9, o10, o11, o12, o13]
  obtain ⟨l, e6, hl⟩ := rest_ok D0 hw' A (some (.im (.int c))) p4 p5 (some (.im (.str s))) p7 o8 o9 o10 o11 o12 o13
  refine ⟨l, ?_, hl⟩
  show cSeq _ (cSeq (cOwn 3 cNil) (cSeq (cFor _ _ g_law_l1) (cSeq (cAsg 6 (cLookL 3 oddE)) (cSeq blkE restE)))) _ = _
  rw [ev_seq, e1, Fl.then_nx, ev_seq, show cOwn 3 cNil [A, some (.im (.int c)), some (.im (drD ds)), o3, o4, o5, o6, o7, o8, o9, o10, o11, o12, o13] = .nx [A, some (.im (.int c)), some (.im (drD ds)), some (.ow []), o4, o5, o6, o7, o8, o9, o10, o11, o12, o13] from rfl, Fl.then_nx, ev_seq, e2, Fl.then_nx, ev_seq, e4, Fl.then_nx, ev_seq, e5, Fl.then_nx]
  exact e6
theorem law_true (ns : List Int) (h : ns.length ≤ 63) : F_law [.lst (ns.map D.int)] = .ok (.bl true) := by
  have hcut : cutD (ns.map D.int) none (some 63) = ns.map D.int := by
    rw [cutD_map]
    have : HT.sIx ns.length ns.length (some 63) = ns.length := by
      simp [HT.sIx]
      omega
    congr 1
    simp only [this]
    rw [show HT.sIx ns.length 0 none = 0 from rfl, List.drop_zero, Nat.sub_zero, List.take_length]
  have it : cItems (cBin oAdd (cVar 0) (cL (cCons (cC (.int 0)) (cCons (cC (.int 1)) (cCons (cC (.int 2)) cNil))))) [some (.im (.lst (ns.map D.int))), none, none, none, none, none, none, none, none, none, none, none, none, none] = .ok ((ns ++ [0, 1, 2]).map D.int) := by
    show (oAdd (.lst (ns.map D.int)) (.lst [.int 0, .int 1, .int 2])).bind itemsD = _
    rw [show oAdd (.lst (ns.map D.int)) (.lst [.int 0, .int 1, .int 2]) = .ok (.lst ((ns ++ [0, 1, 2]).map D.int)) from by
      show (if _ then _ else _) = _
      rw [if_pos (by rw [List.length_map, sizeLine_eq]; show ns.length + 3 ≤ _; omega), List.map_append]
      rfl]
    rfl
  obtain ⟨δ2, e1, l, rfl, hl⟩ := forF_inv (b := bName 1) (g := g_law_l2) D.int (fun δ => ∃ l, δ = some (.im (.lst (ns.map D.int))) :: l ∧ l.length = 13) (ns ++ [0, 1, 2]) [some (.im (.lst (ns.map D.int))), none, none, none, none, none, none, none, none, none, none, none, none, none] ⟨_, rfl, rfl⟩ (by
    rintro δ c hc ⟨l, rfl, hl⟩
    match l, hl with
    | [o1, o2, o3, o4, o5, o6, o7, o8, o9, o10, o11, o12, o13], _ =>
      obtain ⟨l', e, hl'⟩ := turn_ok (some (.im (.lst (ns.map D.int)))) o2 o3 o4 o5 o6 o7 o8 o9 o10 o11 o12 o13 c
      exact ⟨_, _, rfl, e, l', rfl, hl'⟩)
  unfold F_law defF g_law
  show flR (cSeq _ _ [some (.im (.lst (ns.map D.int))), none, none, none, none, none, none, none, none, none, none, none, none, none]) = _
  rw [ev_seq, ev_asg, show cSl (cVar 0) cNone (cSome (cC (.int 63))) [some (.im (.lst (ns.map D.int))), none, none, none, none, none, none, none, none, none, none, none, none, none] = .ok (.lst (cutD (ns.map D.int) none (some 63))) from rfl, hcut, stE_ok]
  show flR (Fl.then (Fl.nx [some (.im (.lst (ns.map D.int))), none, none, none, none, none, none, none, none, none, none, none, none, none]) _) = _
  rw [Fl.then_nx, ev_seq]
  unfold cFor
  rw [it, stE_ok, e1, Fl.then_nx]
  rfl
end My
namespace My
open PySem L2 DV
theorem arL1 {α : Type} : ∀ {us : List α}, us.length = 1 → ∃ a, us = [a]
  | [a], _ => ⟨_, rfl⟩
theorem arL2 {α : Type} : ∀ {us : List α}, us.length = 2 → ∃ a b, us = [a, b]
  | [a, b], _ => ⟨_, _, rfl⟩
theorem all_mk {l : PySem.W.OpenLaw} {w : World} {K : PySem.W.Frag} {h : Heap} {mg : Str → Option Value} {fa f0 f1 f2 f3 f4 f5 f6 f7 f8 f9 f10 f11 f12 f13 f14 f15 f16 f17 : Addr} (X : K.In h) (G : h.Ns mainGlobals mg) (hfa : mg "law" = some (.ref fa))
    {od0 an0 od1 an1 od2 an2 od3 an3 od4 an4 od5 an5 od6 an6 od7 an7 od8 an8 od9 an9 od10 an10 od11 an11 od12 an12 od13 an13 od14 an14 od15 an15 od16 an16 od17 an17 : Option Addr} {sl0 sl1 sl2 sl3 sl4 sl5 sl6 sl7 sl8 sl9 sl10 sl11 sl12 sl13 sl14 sl15 sl16 sl17 : Array (Option Value)} {oc0 kV0 dc0 pm0 cd0 ct0 oc1 kV1 dc1 pm1 cd1 ct1 oc2 kV2 dc2 pm2 cd2 ct2 oc3 kV3 dc3 pm3 cd3 ct3 oc4 kV4 dc4 pm4 cd4 ct4 oc5 kV5 dc5 pm5 cd5 ct5 oc6 kV6 dc6 pm6 cd6 ct6 oc7 kV7 dc7 pm7 cd7 ct7 oc8 kV8 dc8 pm8 cd8 ct8 oc9 kV9 dc9 pm9 cd9 ct9 oc10 kV10 dc10 pm10 cd10 ct10 oc11 kV11 dc11 pm11 cd11 ct11 oc12 kV12 dc12 pm12 cd12 ct12 oc13 kV13 dc13 pm13 cd13 ct13 oc14 kV14 dc14 pm14 cd14 ct14 oc15 kV15 dc15 pm15 cd15 ct15 oc16 kV16 dc16 pm16 cd16 ct16 oc17 kV17 dc17 pm17 ct17 : Value}
    {C_Book C_Reckoned C_Tally : Addr}
    {C_BadSizes I_BadSizes C_BadRow I_BadRow C_BadMany I_BadMany C_BadDeed I_BadDeed C_Same I_Same C_Taken I_Taken C_Full I_Full C_BadName I_BadName C_Ring I_Ring C_NoRows I_NoRows C_NoColumn I_NoColumn C_NotBound I_NotBound : Addr} {iod_BadSizes ian_BadSizes iod_BadRow ian_BadRow iod_BadMany ian_BadMany iod_BadDeed ian_BadDeed iod_Same ian_Same iod_Taken ian_Taken iod_Full ian_Full iod_BadName ian_BadName iod_Ring ian_Ring iod_NoRows ian_NoRows iod_NoColumn ian_NoColumn iod_NotBound ian_NotBound : Option Addr} {isl_BadSizes isl_BadRow isl_BadMany isl_BadDeed isl_Same isl_Taken isl_Full isl_BadName isl_Ring isl_NoRows isl_NoColumn isl_NotBound : Array (Option Value)} {ioc_BadSizes ikV_BadSizes idc_BadSizes ipm_BadSizes icd_BadSizes ict_BadSizes ioc_BadRow ikV_BadRow idc_BadRow ipm_BadRow icd_BadRow ict_BadRow ioc_BadMany ikV_BadMany idc_BadMany ipm_BadMany icd_BadMany ict_BadMany ioc_BadDeed ikV_BadDeed idc_BadDeed ipm_BadDeed icd_BadDeed ict_BadDeed ioc_Same ikV_Same idc_Same ipm_Same icd_Same ict_Same ioc_Taken ikV_Taken idc_Taken ipm_Taken icd_Taken ict_Taken ioc_Full ikV_Full idc_Full ipm_Full icd_Full ict_Full ioc_BadName ikV_BadName idc_BadName ipm_BadName icd_BadName ict_BadName ioc_Ring ikV_Ring idc_Ring ipm_Ring icd_Ring ict_Ring ioc_NoRows ikV_NoRows idc_NoRows ipm_NoRows icd_NoRows ict_NoRows ioc_NoColumn ikV_NoColumn idc_NoColumn ipm_NoColumn icd_NoColumn ict_NoColumn ioc_NotBound ikV_NotBound idc_NotBound ipm_NotBound icd_NotBound ict_NotBound : Value}
    {tc_LONGEST tc_MOST_COLUMNS tc_MOST_ROWS tc_MOST_SIZE tc_SMALL : Tok}
    {cL : Addr}
    (ca_BadSizes : PySem.W.nsIn K mainGlobals "BadSizes" = some (some (.ref C_BadSizes))) (cb_BadSizes : oexB K C_BadSizes [.type "ValueError", .type "Exception", .type "BaseException", .type "object"] "ValueError.__new__" = true) (cc_BadSizes : PySem.W.findIn K (.ref C_BadSizes) "__init__" = some (some (.ref I_BadSizes))) (cd_BadSizes : PySem.W.typeIn K (.ref I_BadSizes) = some (.type "function")) (ce_BadSizes : xcB K C_BadSizes = true)
    (cl_BadSizes : K.lookup I_BadSizes = some ⟨ioc_BadSizes, iod_BadSizes, .func (PySem.W.fnOf "__init__" "BadSizes.__init__" (defArgs si_BadSizes) (defBody si_BadSizes) (defScope si_BadSizes) .none ikV_BadSizes idc_BadSizes ipm_BadSizes ian_BadSizes icd_BadSizes ict_BadSizes), isl_BadSizes⟩) (cm_BadSizes : PySem.W.codeIn K icd_BadSizes "BadSizes.__init__" = true) (cn_BadSizes : PySem.W.keepIn K (.ref I_BadSizes) = true)
    (ca_BadRow : PySem.W.nsIn K mainGlobals "BadRow" = some (some (.ref C_BadRow))) (cb_BadRow : oexB K C_BadRow [.type "ValueError", .type "Exception", .type "BaseException", .type "object"] "ValueError.__new__" = true) (cc_BadRow : PySem.W.findIn K (.ref C_BadRow) "__init__" = some (some (.ref I_BadRow))) (cd_BadRow : PySem.W.typeIn K (.ref I_BadRow) = some (.type "function")) (ce_BadRow : xcB K C_BadRow = true)
    (cl_BadRow : K.lookup I_BadRow = some ⟨ioc_BadRow, iod_BadRow, .func (PySem.W.fnOf "__init__" "BadRow.__init__" (defArgs si_BadRow) (defBody si_BadRow) (defScope si_BadRow) .none ikV_BadRow idc_BadRow ipm_BadRow ian_BadRow icd_BadRow ict_BadRow), isl_BadRow⟩) (cm_BadRow : PySem.W.codeIn K icd_BadRow "BadRow.__init__" = true) (cn_BadRow : PySem.W.keepIn K (.ref I_BadRow) = true)
    (ca_BadMany : PySem.W.nsIn K mainGlobals "BadMany" = some (some (.ref C_BadMany))) (cb_BadMany : oexB K C_BadMany [.type "ValueError", .type "Exception", .type "BaseException", .type "object"] "ValueError.__new__" = true) (cc_BadMany : PySem.W.findIn K (.ref C_BadMany) "__init__" = some (some (.ref I_BadMany))) (cd_BadMany : PySem.W.typeIn K (.ref I_BadMany) = some (.type "function")) (ce_BadMany : xcB K C_BadMany = true)
    (cl_BadMany : K.lookup I_BadMany = some ⟨ioc_BadMany, iod_BadMany, .func (PySem.W.fnOf "__init__" "BadMany.__init__" (defArgs si_BadMany) (defBody si_BadMany) (defScope si_BadMany) .none ikV_BadMany idc_BadMany ipm_BadMany ian_BadMany icd_BadMany ict_BadMany), isl_BadMany⟩) (cm_BadMany : PySem.W.codeIn K icd_BadMany "BadMany.__init__" = true) (cn_BadMany : PySem.W.keepIn K (.ref I_BadMany) = true)
    (ca_BadDeed : PySem.W.nsIn K mainGlobals "BadDeed" = some (some (.ref C_BadDeed))) (cb_BadDeed : oexB K C_BadDeed [.type "ValueError", .type "Exception", .type "BaseException", .type "object"] "ValueError.__new__" = true) (cc_BadDeed : PySem.W.findIn K (.ref C_BadDeed) "__init__" = some (some (.ref I_BadDeed))) (cd_BadDeed : PySem.W.typeIn K (.ref I_BadDeed) = some (.type "function")) (ce_BadDeed : xcB K C_BadDeed = true)
    (cl_BadDeed : K.lookup I_BadDeed = some ⟨ioc_BadDeed, iod_BadDeed, .func (PySem.W.fnOf "__init__" "BadDeed.__init__" (defArgs si_BadDeed) (defBody si_BadDeed) (defScope si_BadDeed) .none ikV_BadDeed idc_BadDeed ipm_BadDeed ian_BadDeed icd_BadDeed ict_BadDeed), isl_BadDeed⟩) (cm_BadDeed : PySem.W.codeIn K icd_BadDeed "BadDeed.__init__" = true) (cn_BadDeed : PySem.W.keepIn K (.ref I_BadDeed) = true)
    (ca_Same : PySem.W.nsIn K mainGlobals "Same" = some (some (.ref C_Same))) (cb_Same : oexB K C_Same [.type "ValueError", .type "Exception", .type "BaseException", .type "object"] "ValueError.__new__" = true) (cc_Same : PySem.W.findIn K (.ref C_Same) "__init__" = some (some (.ref I_Same))) (cd_Same : PySem.W.typeIn K (.ref I_Same) = some (.type "function")) (ce_Same : xcB K C_Same = true)
    (cl_Same : K.lookup I_Same = some ⟨ioc_Same, iod_Same, .func (PySem.W.fnOf "__init__" "Same.__init__" (defArgs si_Same) (defBody si_Same) (defScope si_Same) .none ikV_Same idc_Same ipm_Same ian_Same icd_Same ict_Same), isl_Same⟩) (cm_Same : PySem.W.codeIn K icd_Same "Same.__init__" = true) (cn_Same : PySem.W.keepIn K (.ref I_Same) = true)
    (ca_Taken : PySem.W.nsIn K mainGlobals "Taken" = some (some (.ref C_Taken))) (cb_Taken : oexB K C_Taken [.type "ValueError", .type "Exception", .type "BaseException", .type "object"] "ValueError.__new__" = true) (cc_Taken : PySem.W.findIn K (.ref C_Taken) "__init__" = some (some (.ref I_Taken))) (cd_Taken : PySem.W.typeIn K (.ref I_Taken) = some (.type "function")) (ce_Taken : xcB K C_Taken = true)
    (cl_Taken : K.lookup I_Taken = some ⟨ioc_Taken, iod_Taken, .func (PySem.W.fnOf "__init__" "Taken.__init__" (defArgs si_Taken) (defBody si_Taken) (defScope si_Taken) .none ikV_Taken idc_Taken ipm_Taken ian_Taken icd_Taken ict_Taken), isl_Taken⟩) (cm_Taken : PySem.W.codeIn K icd_Taken "Taken.__init__" = true) (cn_Taken : PySem.W.keepIn K (.ref I_Taken) = true)
    (ca_Full : PySem.W.nsIn K mainGlobals "Full" = some (some (.ref C_Full))) (cb_Full : oexB K C_Full [.type "ValueError", .type "Exception", .type "BaseException", .type "object"] "ValueError.__new__" = true) (cc_Full : PySem.W.findIn K (.ref C_Full) "__init__" = some (some (.ref I_Full))) (cd_Full : PySem.W.typeIn K (.ref I_Full) = some (.type "function")) (ce_Full : xcB K C_Full = true)
    (cl_Full : K.lookup I_Full = some ⟨ioc_Full, iod_Full, .func (PySem.W.fnOf "__init__" "Full.__init__" (defArgs si_Full) (defBody si_Full) (defScope si_Full) .none ikV_Full idc_Full ipm_Full ian_Full icd_Full ict_Full), isl_Full⟩) (cm_Full : PySem.W.codeIn K icd_Full "Full.__init__" = true) (cn_Full : PySem.W.keepIn K (.ref I_Full) = true)
    (ca_BadName : PySem.W.nsIn K mainGlobals "BadName" = some (some (.ref C_BadName))) (cb_BadName : oexB K C_BadName [.type "ValueError", .type "Exception", .type "BaseException", .type "object"] "ValueError.__new__" = true) (cc_BadName : PySem.W.findIn K (.ref C_BadName) "__init__" = some (some (.ref I_BadName))) (cd_BadName : PySem.W.typeIn K (.ref I_BadName) = some (.type "function")) (ce_BadName : xcB K C_BadName = true)
    (cl_BadName : K.lookup I_BadName = some ⟨ioc_BadName, iod_BadName, .func (PySem.W.fnOf "__init__" "BadName.__init__" (defArgs si_BadName) (defBody si_BadName) (defScope si_BadName) .none ikV_BadName idc_BadName ipm_BadName ian_BadName icd_BadName ict_BadName), isl_BadName⟩) (cm_BadName : PySem.W.codeIn K icd_BadName "BadName.__init__" = true) (cn_BadName : PySem.W.keepIn K (.ref I_BadName) = true)
    (ca_Ring : PySem.W.nsIn K mainGlobals "Ring" = some (some (.ref C_Ring))) (cb_Ring : oexB K C_Ring [.type "ValueError", .type "Exception", .type "BaseException", .type "object"] "ValueError.__new__" = true) (cc_Ring : PySem.W.findIn K (.ref C_Ring) "__init__" = some (some (.ref I_Ring))) (cd_Ring : PySem.W.typeIn K (.ref I_Ring) = some (.type "function")) (ce_Ring : xcB K C_Ring = true)
    (cl_Ring : K.lookup I_Ring = some ⟨ioc_Ring, iod_Ring, .func (PySem.W.fnOf "__init__" "Ring.__init__" (defArgs si_Ring) (defBody si_Ring) (defScope si_Ring) .none ikV_Ring idc_Ring ipm_Ring ian_Ring icd_Ring ict_Ring), isl_Ring⟩) (cm_Ring : PySem.W.codeIn K icd_Ring "Ring.__init__" = true) (cn_Ring : PySem.W.keepIn K (.ref I_Ring) = true)
    (ca_NoRows : PySem.W.nsIn K mainGlobals "NoRows" = some (some (.ref C_NoRows))) (cb_NoRows : oexB K C_NoRows [.type "ValueError", .type "Exception", .type "BaseException", .type "object"] "ValueError.__new__" = true) (cc_NoRows : PySem.W.findIn K (.ref C_NoRows) "__init__" = some (some (.ref I_NoRows))) (cd_NoRows : PySem.W.typeIn K (.ref I_NoRows) = some (.type "function")) (ce_NoRows : xcB K C_NoRows = true)
    (cl_NoRows : K.lookup I_NoRows = some ⟨ioc_NoRows, iod_NoRows, .func (PySem.W.fnOf "__init__" "NoRows.__init__" (defArgs si_NoRows) (defBody si_NoRows) (defScope si_NoRows) .none ikV_NoRows idc_NoRows ipm_NoRows ian_NoRows icd_NoRows ict_NoRows), isl_NoRows⟩) (cm_NoRows : PySem.W.codeIn K icd_NoRows "NoRows.__init__" = true) (cn_NoRows : PySem.W.keepIn K (.ref I_NoRows) = true)
    (ca_NoColumn : PySem.W.nsIn K mainGlobals "NoColumn" = some (some (.ref C_NoColumn))) (cb_NoColumn : oexB K C_NoColumn [.type "LookupError", .type "Exception", .type "BaseException", .type "object"] "LookupError.__new__" = true) (cc_NoColumn : PySem.W.findIn K (.ref C_NoColumn) "__init__" = some (some (.ref I_NoColumn))) (cd_NoColumn : PySem.W.typeIn K (.ref I_NoColumn) = some (.type "function")) (ce_NoColumn : xcB K C_NoColumn = true)
    (cl_NoColumn : K.lookup I_NoColumn = some ⟨ioc_NoColumn, iod_NoColumn, .func (PySem.W.fnOf "__init__" "NoColumn.__init__" (defArgs si_NoColumn) (defBody si_NoColumn) (defScope si_NoColumn) .none ikV_NoColumn idc_NoColumn ipm_NoColumn ian_NoColumn icd_NoColumn ict_NoColumn), isl_NoColumn⟩) (cm_NoColumn : PySem.W.codeIn K icd_NoColumn "NoColumn.__init__" = true) (cn_NoColumn : PySem.W.keepIn K (.ref I_NoColumn) = true)
    (ca_NotBound : PySem.W.nsIn K mainGlobals "NotBound" = some (some (.ref C_NotBound))) (cb_NotBound : oexB K C_NotBound [.type "LookupError", .type "Exception", .type "BaseException", .type "object"] "LookupError.__new__" = true) (cc_NotBound : PySem.W.findIn K (.ref C_NotBound) "__init__" = some (some (.ref I_NotBound))) (cd_NotBound : PySem.W.typeIn K (.ref I_NotBound) = some (.type "function")) (ce_NotBound : xcB K C_NotBound = true)
    (cl_NotBound : K.lookup I_NotBound = some ⟨ioc_NotBound, iod_NotBound, .func (PySem.W.fnOf "__init__" "NotBound.__init__" (defArgs si_NotBound) (defBody si_NotBound) (defScope si_NotBound) .none ikV_NotBound idc_NotBound ipm_NotBound ian_NotBound icd_NotBound ict_NotBound), isl_NotBound⟩) (cm_NotBound : PySem.W.codeIn K icd_NotBound "NotBound.__init__" = true) (cn_NotBound : PySem.W.keepIn K (.ref I_NotBound) = true)
    (cx_BadSizes_BadName : PySem.W.exmOne K (.ref C_BadSizes) (.ref C_BadName) = some false)
    (cx_BadSizes_BadSizes : PySem.W.exmOne K (.ref C_BadSizes) (.ref C_BadSizes) = some true)
    (cx_BadRow_BadName : PySem.W.exmOne K (.ref C_BadRow) (.ref C_BadName) = some false)
    (cx_BadRow_BadSizes : PySem.W.exmOne K (.ref C_BadRow) (.ref C_BadSizes) = some false)
    (cx_BadMany_BadName : PySem.W.exmOne K (.ref C_BadMany) (.ref C_BadName) = some false)
    (cx_BadMany_BadSizes : PySem.W.exmOne K (.ref C_BadMany) (.ref C_BadSizes) = some false)
    (cx_BadDeed_BadName : PySem.W.exmOne K (.ref C_BadDeed) (.ref C_BadName) = some false)
    (cx_BadDeed_BadSizes : PySem.W.exmOne K (.ref C_BadDeed) (.ref C_BadSizes) = some false)
    (cx_Same_BadName : PySem.W.exmOne K (.ref C_Same) (.ref C_BadName) = some false)
    (cx_Same_BadSizes : PySem.W.exmOne K (.ref C_Same) (.ref C_BadSizes) = some false)
    (cx_Taken_BadName : PySem.W.exmOne K (.ref C_Taken) (.ref C_BadName) = some false)
    (cx_Taken_BadSizes : PySem.W.exmOne K (.ref C_Taken) (.ref C_BadSizes) = some false)
    (cx_Full_BadName : PySem.W.exmOne K (.ref C_Full) (.ref C_BadName) = some false)
    (cx_Full_BadSizes : PySem.W.exmOne K (.ref C_Full) (.ref C_BadSizes) = some false)
    (cx_BadName_BadName : PySem.W.exmOne K (.ref C_BadName) (.ref C_BadName) = some true)
    (cx_BadName_BadSizes : PySem.W.exmOne K (.ref C_BadName) (.ref C_BadSizes) = some false)
    (cx_Ring_BadName : PySem.W.exmOne K (.ref C_Ring) (.ref C_BadName) = some false)
    (cx_Ring_BadSizes : PySem.W.exmOne K (.ref C_Ring) (.ref C_BadSizes) = some false)
    (cx_NoRows_BadName : PySem.W.exmOne K (.ref C_NoRows) (.ref C_BadName) = some false)
    (cx_NoRows_BadSizes : PySem.W.exmOne K (.ref C_NoRows) (.ref C_BadSizes) = some false)
    (cx_NoColumn_BadName : PySem.W.exmOne K (.ref C_NoColumn) (.ref C_BadName) = some false)
    (cx_NoColumn_BadSizes : PySem.W.exmOne K (.ref C_NoColumn) (.ref C_BadSizes) = some false)
    (cx_NotBound_BadName : PySem.W.exmOne K (.ref C_NotBound) (.ref C_BadName) = some false)
    (cx_NotBound_BadSizes : PySem.W.exmOne K (.ref C_NotBound) (.ref C_BadSizes) = some false)
    (na_Book : PySem.W.nsIn K mainGlobals "Book" = some (some (.ref C_Book))) (nb_Book : PySem.W.plainGet K C_Book Str.empty = true) (nc_Book : PySem.W.hasDictIn K C_Book = true) (nd_Book : PySem.W.plainOver K C_Book = true) (ne_Book : PySem.W.findIn K (.ref C_Book) "__setattr__" = some (some (.builtin "object.__setattr__"))) (nm_Book : PySem.W.makesIn K C_Book = true) (nk_Book : PySem.W.keepIn K (.ref C_Book) = true)
    (ia_Book : PySem.W.findIn K (.ref C_Book) "__class__" = some (some (.builtin "object.__class__"))) (ck_ig_Book : PySem.W.specialIn K (.builtin "object.__class__") "__get__" = some (some (.builtin "getset_descriptor.__get__"))) (ck_it_Book : PySem.W.takesIn K (.builtin "object.__class__") = some true) (ck_im_Book : PySem.W.mroIn K C_Book (.type "object") = some true) (ck_i0_Book : PySem.W.kitOne K (.type "NoneType") (.ref C_Book) = some false) (ck_i1_Book : PySem.W.kitOne K (.type "bool") (.ref C_Book) = some false) (ck_i2_Book : PySem.W.kitOne K (.type "int") (.ref C_Book) = some false) (ck_i3_Book : PySem.W.kitOne K (.type "str") (.ref C_Book) = some false) (ck_i4_Book : PySem.W.kitOne K (.type "list") (.ref C_Book) = some false) (ck_i5_Book : PySem.W.kitOne K (.type "tuple") (.ref C_Book) = some false)
    (nf_Book_names_told : PySem.W.findIn K (.ref C_Book) "names_told" = some none)
    (nf_Book_rows_told : PySem.W.findIn K (.ref C_Book) "rows_told" = some none)
    (nf_Book_musts : PySem.W.findIn K (.ref C_Book) "musts" = some none)
    (nf_Book_nevers : PySem.W.findIn K (.ref C_Book) "nevers" = some none)
    (nf_Book_at_most : PySem.W.findIn K (.ref C_Book) "at_most" = some none)
    (nf_Book_done : PySem.W.findIn K (.ref C_Book) "done" = some none)
    (nf_Book_past : PySem.W.findIn K (.ref C_Book) "past" = some none)
    (nf_Book_gone : PySem.W.findIn K (.ref C_Book) "gone" = some none)
    (nf_Book_reckoner : PySem.W.findIn K (.ref C_Book) "reckoner" = some none)
    (na_Reckoned : PySem.W.nsIn K mainGlobals "Reckoned" = some (some (.ref C_Reckoned))) (nb_Reckoned : PySem.W.plainGet K C_Reckoned Str.empty = true) (nc_Reckoned : PySem.W.hasDictIn K C_Reckoned = true) (nd_Reckoned : PySem.W.plainOver K C_Reckoned = true) (ne_Reckoned : PySem.W.findIn K (.ref C_Reckoned) "__setattr__" = some (some (.builtin "object.__setattr__"))) (nm_Reckoned : PySem.W.makesIn K C_Reckoned = true) (nk_Reckoned : PySem.W.keepIn K (.ref C_Reckoned) = true)
    (nf_Reckoned_worths_told : PySem.W.findIn K (.ref C_Reckoned) "worths_told" = some none)
    (nf_Reckoned_many_told : PySem.W.findIn K (.ref C_Reckoned) "many_told" = some none)
    (na_Tally : PySem.W.nsIn K mainGlobals "Tally" = some (some (.ref C_Tally))) (nb_Tally : PySem.W.plainGet K C_Tally Str.empty = true) (nc_Tally : PySem.W.hasDictIn K C_Tally = true) (nd_Tally : PySem.W.plainOver K C_Tally = true) (ne_Tally : PySem.W.findIn K (.ref C_Tally) "__setattr__" = some (some (.builtin "object.__setattr__"))) (nm_Tally : PySem.W.makesIn K C_Tally = true) (nk_Tally : PySem.W.keepIn K (.ref C_Tally) = true)
    (nf_Tally_sizes : PySem.W.findIn K (.ref C_Tally) "sizes" = some none)
    (nf_Tally_known : PySem.W.findIn K (.ref C_Tally) "known" = some none)
    (a0 : PySem.W.nsIn K mainGlobals "multiplied" = some (some (.ref f0))) (l0 : K.lookup f0 = some ⟨oc0, od0, .func (PySem.W.fnOf "multiplied" "multiplied" (defArgs s_multiplied) (defBody s_multiplied) (defScope s_multiplied) .none kV0 dc0 pm0 an0 cd0 ct0), sl0⟩) (c0 : PySem.W.codeIn K cd0 "multiplied" = true) (k0 : PySem.W.keepIn K (.ref f0) = true)
    (a1 : PySem.W.nsIn K mainGlobals "look_sizes" = some (some (.ref f1))) (l1 : K.lookup f1 = some ⟨oc1, od1, .func (PySem.W.fnOf "look_sizes" "look_sizes" (defArgs s_look_sizes) (defBody s_look_sizes) (defScope s_look_sizes) .none kV1 dc1 pm1 an1 cd1 ct1), sl1⟩) (c1 : PySem.W.codeIn K cd1 "look_sizes" = true) (k1 : PySem.W.keepIn K (.ref f1) = true)
    (a2 : PySem.W.findIn K (.ref C_Tally) "__init__" = some (some (.ref f2))) (af2 : PySem.W.isFn K (.ref f2) = true) (l2 : K.lookup f2 = some ⟨oc2, od2, .func (PySem.W.fnOf "__init__" "Tally.__init__" (defArgs s_Tally_init) (defBody s_Tally_init) (defScope s_Tally_init) .none kV2 dc2 pm2 an2 cd2 ct2), sl2⟩) (c2 : PySem.W.codeIn K cd2 "Tally.__init__" = true) (k2 : PySem.W.keepIn K (.ref f2) = true)
    (a3 : PySem.W.findIn K (.ref C_Tally) "__len__" = some (some (.ref f3))) (af3 : PySem.W.isFn K (.ref f3) = true) (l3 : K.lookup f3 = some ⟨oc3, od3, .func (PySem.W.fnOf "__len__" "Tally.__len__" (defArgs s_Tally_len) (defBody s_Tally_len) (defScope s_Tally_len) .none kV3 dc3 pm3 an3 cd3 ct3), sl3⟩) (c3 : PySem.W.codeIn K cd3 "Tally.__len__" = true) (k3 : PySem.W.keepIn K (.ref f3) = true)
    (a4 : PySem.W.findIn K (.ref C_Tally) "rows" = some (some (.ref f4))) (af4 : PySem.W.isFn K (.ref f4) = true) (l4 : K.lookup f4 = some ⟨oc4, od4, .func (PySem.W.fnOf "rows" "Tally.rows" (defArgs s_Tally_rows) (defBody s_Tally_rows) (defScope s_Tally_rows) .none kV4 dc4 pm4 an4 cd4 ct4), sl4⟩) (c4 : PySem.W.codeIn K cd4 "Tally.rows" = true) (k4 : PySem.W.keepIn K (.ref f4) = true)
    (a5 : PySem.W.nsIn K mainGlobals "is_name" = some (some (.ref f5))) (l5 : K.lookup f5 = some ⟨oc5, od5, .func (PySem.W.fnOf "is_name" "is_name" (defArgs s_is_name) (defBody s_is_name) (defScope s_is_name) .none kV5 dc5 pm5 an5 cd5 ct5), sl5⟩) (c5 : PySem.W.codeIn K cd5 "is_name" = true) (k5 : PySem.W.keepIn K (.ref f5) = true)
    (a6 : PySem.W.nsIn K mainGlobals "look_names" = some (some (.ref f6))) (l6 : K.lookup f6 = some ⟨oc6, od6, .func (PySem.W.fnOf "look_names" "look_names" (defArgs s_look_names) (defBody s_look_names) (defScope s_look_names) .none kV6 dc6 pm6 an6 cd6 ct6), sl6⟩) (c6 : PySem.W.codeIn K cd6 "look_names" = true) (k6 : PySem.W.keepIn K (.ref f6) = true)
    (a7 : PySem.W.findIn K (.ref C_Reckoned) "__init__" = some (some (.ref f7))) (af7 : PySem.W.isFn K (.ref f7) = true) (l7 : K.lookup f7 = some ⟨oc7, od7, .func (PySem.W.fnOf "__init__" "Reckoned.__init__" (defArgs s_Reckoned_init) (defBody s_Reckoned_init) (defScope s_Reckoned_init) .none kV7 dc7 pm7 an7 cd7 ct7), sl7⟩) (c7 : PySem.W.codeIn K cd7 "Reckoned.__init__" = true) (k7 : PySem.W.keepIn K (.ref f7) = true)
    (a8 : PySem.W.findIn K (.ref C_Book) "__init__" = some (some (.ref f8))) (af8 : PySem.W.isFn K (.ref f8) = true) (l8 : K.lookup f8 = some ⟨oc8, od8, .func (PySem.W.fnOf "__init__" "Book.__init__" (defArgs s_Book_init) (defBody s_Book_init) (defScope s_Book_init) .none kV8 dc8 pm8 an8 cd8 ct8), sl8⟩) (c8 : PySem.W.codeIn K cd8 "Book.__init__" = true) (k8 : PySem.W.keepIn K (.ref f8) = true)
    (a9 : PySem.W.findIn K (.ref C_Book) "__len__" = some (some (.ref f9))) (af9 : PySem.W.isFn K (.ref f9) = true) (l9 : K.lookup f9 = some ⟨oc9, od9, .func (PySem.W.fnOf "__len__" "Book.__len__" (defArgs s_Book_len) (defBody s_Book_len) (defScope s_Book_len) .none kV9 dc9 pm9 an9 cd9 ct9), sl9⟩) (c9 : PySem.W.codeIn K cd9 "Book.__len__" = true) (k9 : PySem.W.keepIn K (.ref f9) = true)
    (a10 : PySem.W.findIn K (.ref C_Book) "face" = some (some (.ref f10))) (af10 : PySem.W.isFn K (.ref f10) = true) (l10 : K.lookup f10 = some ⟨oc10, od10, .func (PySem.W.fnOf "face" "Book.face" (defArgs s_Book_face) (defBody s_Book_face) (defScope s_Book_face) .none kV10 dc10 pm10 an10 cd10 ct10), sl10⟩) (c10 : PySem.W.codeIn K cd10 "Book.face" = true) (k10 : PySem.W.keepIn K (.ref f10) = true)
    (a11 : PySem.W.findIn K (.ref C_Book) "__eq__" = some (some (.ref f11))) (af11 : PySem.W.isFn K (.ref f11) = true) (l11 : K.lookup f11 = some ⟨oc11, od11, .func (PySem.W.fnOf "__eq__" "Book.__eq__" (defArgs s_Book_eq) (defBody s_Book_eq) (defScope s_Book_eq) .none kV11 dc11 pm11 an11 cd11 ct11), sl11⟩) (c11 : PySem.W.codeIn K cd11 "Book.__eq__" = true) (k11 : PySem.W.keepIn K (.ref f11) = true)
    (a12 : PySem.W.findIn K (.ref C_Book) "columns" = some (some (.ref f12))) (af12 : PySem.W.isFn K (.ref f12) = true) (l12 : K.lookup f12 = some ⟨oc12, od12, .func (PySem.W.fnOf "columns" "Book.columns" (defArgs s_Book_columns) (defBody s_Book_columns) (defScope s_Book_columns) .none kV12 dc12 pm12 an12 cd12 ct12), sl12⟩) (c12 : PySem.W.codeIn K cd12 "Book.columns" = true) (k12 : PySem.W.keepIn K (.ref f12) = true)
    (a13 : PySem.W.nsIn K mainGlobals "_law_draws" = some (some (.ref f13))) (l13 : K.lookup f13 = some ⟨oc13, od13, .func (PySem.W.fnOf "_law_draws" "_law_draws" (defArgs s__law_draws) (defBody s__law_draws) (defScope s__law_draws) .none kV13 dc13 pm13 an13 cd13 ct13), sl13⟩) (c13 : PySem.W.codeIn K cd13 "_law_draws" = true) (k13 : PySem.W.keepIn K (.ref f13) = true)
    (a14 : PySem.W.nsIn K mainGlobals "_law_same" = some (some (.ref f14))) (l14 : K.lookup f14 = some ⟨oc14, od14, .func (PySem.W.fnOf "_law_same" "_law_same" (defArgs s__law_same) (defBody s__law_same) (defScope s__law_same) .none kV14 dc14 pm14 an14 cd14 ct14), sl14⟩) (c14 : PySem.W.codeIn K cd14 "_law_same" = true) (k14 : PySem.W.keepIn K (.ref f14) = true)
    (a15 : PySem.W.nsIn K mainGlobals "_law_good_names" = some (some (.ref f15))) (l15 : K.lookup f15 = some ⟨oc15, od15, .func (PySem.W.fnOf "_law_good_names" "_law_good_names" (defArgs s__law_good_names) (defBody s__law_good_names) (defScope s__law_good_names) .none kV15 dc15 pm15 an15 cd15 ct15), sl15⟩) (c15 : PySem.W.codeIn K cd15 "_law_good_names" = true) (k15 : PySem.W.keepIn K (.ref f15) = true)
    (a16 : PySem.W.nsIn K mainGlobals "_law_word_due" = some (some (.ref f16))) (l16 : K.lookup f16 = some ⟨oc16, od16, .func (PySem.W.fnOf "_law_word_due" "_law_word_due" (defArgs s__law_word_due) (defBody s__law_word_due) (defScope s__law_word_due) .none kV16 dc16 pm16 an16 cd16 ct16), sl16⟩) (c16 : PySem.W.codeIn K cd16 "_law_word_due" = true) (k16 : PySem.W.keepIn K (.ref f16) = true)
    (a17 : PySem.W.nsIn K mainGlobals "law" = some (some (.ref f17))) (l17 : K.lookup f17 = some ⟨oc17, od17, .func (PySem.W.fnOf "law" "law" (defArgs s_law) (defBody s_law) (defScope s_law) .none kV17 dc17 pm17 an17 (.ref cL) ct17), sl17⟩) (c17 : PySem.W.codeIn K (.ref cL) "law" = true) (k17 : PySem.W.keepIn K (.ref f17) = true)
    (z_abs : PySem.W.nsIn K mainGlobals "abs" = some none)
    (z_all : PySem.W.nsIn K mainGlobals "all" = some none)
    (z_any : PySem.W.nsIn K mainGlobals "any" = some none)
    (z_bool : PySem.W.nsIn K mainGlobals "bool" = some none)
    (z_int : PySem.W.nsIn K mainGlobals "int" = some none)
    (z_isinstance : PySem.W.nsIn K mainGlobals "isinstance" = some none)
    (z_len : PySem.W.nsIn K mainGlobals "len" = some none)
    (z_list : PySem.W.nsIn K mainGlobals "list" = some none)
    (z_range : PySem.W.nsIn K mainGlobals "range" = some none)
    (z_set : PySem.W.nsIn K mainGlobals "set" = some none)
    (z_sorted : PySem.W.nsIn K mainGlobals "sorted" = some none)
    (z_str : PySem.W.nsIn K mainGlobals "str" = some none)
    (z_tuple : PySem.W.nsIn K mainGlobals "tuple" = some none)
    (x_LONGEST : PySem.W.nsIn K mainGlobals "LONGEST" = some (some (.int 8 tc_LONGEST)))
    (x_MOST_COLUMNS : PySem.W.nsIn K mainGlobals "MOST_COLUMNS" = some (some (.int 6 tc_MOST_COLUMNS)))
    (x_MOST_ROWS : PySem.W.nsIn K mainGlobals "MOST_ROWS" = some (some (.int 300 tc_MOST_ROWS)))
    (x_MOST_SIZE : PySem.W.nsIn K mainGlobals "MOST_SIZE" = some (some (.int 4 tc_MOST_SIZE)))
    (x_SMALL : PySem.W.nsIn K mainGlobals "SMALL" = some (some (.str "abcdefghijklmnopqrstuvwxyz" tc_SMALL)))
    {PL : Addr} {cvs : Array Value} {coc : Value} {cod : Option Addr} {csl : Array (Option Value)} (tc : K.lookup cL = some ⟨coc, cod, .fields cvs, csl⟩) (tp : cvs[11]? = some (.ref PL)) (tn : K.lookup PL = none)
    : ∃ (fd : FuncData) (cs : List (Addr × Addr)), TabsAre K lamNs cs ∧ (∀ p ∈ cs, K.lookup p.2 = none) ∧ (∀ (s : Shared) (v : Value), BindsTo s fd ⟨[v], []⟩ [("_law_script", v)]) ∧ ∀ base : Heap, K.In base → base.Ns mainGlobals mg → (∀ p ∈ cs, LamX.TabB base mg p.1 p.2) → FnOk l.prog w K mg base (L2.CX l.prog w) 8 fa fd ["_law_script"] (spD K 1 F_law) := by
  have e := hfa.symm.trans (PySem.W.mg_of X G a17)
  cases e
  have IF_BadSizes := fun_mk (st := si_BadSizes) cl_BadSizes cm_BadSizes cn_BadSizes
  have ib_BadSizes := IF_BadSizes.binds (ps := ["self"]) fun _ _ _ _ _ _ us hl => by obtain ⟨_, rfl⟩ := arL1 hl; rfl
  have X_BadSizes : ExK K mg "BadSizes" C_BadSizes I_BadSizes := ⟨oexB_ok PySem.F.excBase_ValueError PySem.F.store_ValueError cb_BadSizes, PySem.W.mg_of X G ca_BadSizes, clsV_of ca_BadSizes, cc_BadSizes, cd_BadSizes⟩
  have IF_BadRow := fun_mk (st := si_BadRow) cl_BadRow cm_BadRow cn_BadRow
  have ib_BadRow := IF_BadRow.binds (ps := ["self"]) fun _ _ _ _ _ _ us hl => by obtain ⟨_, rfl⟩ := arL1 hl; rfl
  have X_BadRow : ExK K mg "BadRow" C_BadRow I_BadRow := ⟨oexB_ok PySem.F.excBase_ValueError PySem.F.store_ValueError cb_BadRow, PySem.W.mg_of X G ca_BadRow, clsV_of ca_BadRow, cc_BadRow, cd_BadRow⟩
  have IF_BadMany := fun_mk (st := si_BadMany) cl_BadMany cm_BadMany cn_BadMany
  have ib_BadMany := IF_BadMany.binds (ps := ["self"]) fun _ _ _ _ _ _ us hl => by obtain ⟨_, rfl⟩ := arL1 hl; rfl
  have X_BadMany : ExK K mg "BadMany" C_BadMany I_BadMany := ⟨oexB_ok PySem.F.excBase_ValueError PySem.F.store_ValueError cb_BadMany, PySem.W.mg_of X G ca_BadMany, clsV_of ca_BadMany, cc_BadMany, cd_BadMany⟩
  have IF_BadDeed := fun_mk (st := si_BadDeed) cl_BadDeed cm_BadDeed cn_BadDeed
  have ib_BadDeed := IF_BadDeed.binds (ps := ["self"]) fun _ _ _ _ _ _ us hl => by obtain ⟨_, rfl⟩ := arL1 hl; rfl
  have X_BadDeed : ExK K mg "BadDeed" C_BadDeed I_BadDeed := ⟨oexB_ok PySem.F.excBase_ValueError PySem.F.store_ValueError cb_BadDeed, PySem.W.mg_of X G ca_BadDeed, clsV_of ca_BadDeed, cc_BadDeed, cd_BadDeed⟩
  have IF_Same := fun_mk (st := si_Same) cl_Same cm_Same cn_Same
  have ib_Same := IF_Same.binds (ps := ["self"]) fun _ _ _ _ _ _ us hl => by obtain ⟨_, rfl⟩ := arL1 hl; rfl
  have X_Same : ExK K mg "Same" C_Same I_Same := ⟨oexB_ok PySem.F.excBase_ValueError PySem.F.store_ValueError cb_Same, PySem.W.mg_of X G ca_Same, clsV_of ca_Same, cc_Same, cd_Same⟩
  have IF_Taken := fun_mk (st := si_Taken) cl_Taken cm_Taken cn_Taken
  have ib_Taken := IF_Taken.binds (ps := ["self"]) fun _ _ _ _ _ _ us hl => by obtain ⟨_, rfl⟩ := arL1 hl; rfl
  have X_Taken : ExK K mg "Taken" C_Taken I_Taken := ⟨oexB_ok PySem.F.excBase_ValueError PySem.F.store_ValueError cb_Taken, PySem.W.mg_of X G ca_Taken, clsV_of ca_Taken, cc_Taken, cd_Taken⟩
  have IF_Full := fun_mk (st := si_Full) cl_Full cm_Full cn_Full
  have ib_Full := IF_Full.binds (ps := ["self"]) fun _ _ _ _ _ _ us hl => by obtain ⟨_, rfl⟩ := arL1 hl; rfl
  have X_Full : ExK K mg "Full" C_Full I_Full := ⟨oexB_ok PySem.F.excBase_ValueError PySem.F.store_ValueError cb_Full, PySem.W.mg_of X G ca_Full, clsV_of ca_Full, cc_Full, cd_Full⟩
  have IF_BadName := fun_mk (st := si_BadName) cl_BadName cm_BadName cn_BadName
  have ib_BadName := IF_BadName.binds (ps := ["self"]) fun _ _ _ _ _ _ us hl => by obtain ⟨_, rfl⟩ := arL1 hl; rfl
  have X_BadName : ExK K mg "BadName" C_BadName I_BadName := ⟨oexB_ok PySem.F.excBase_ValueError PySem.F.store_ValueError cb_BadName, PySem.W.mg_of X G ca_BadName, clsV_of ca_BadName, cc_BadName, cd_BadName⟩
  have IF_Ring := fun_mk (st := si_Ring) cl_Ring cm_Ring cn_Ring
  have ib_Ring := IF_Ring.binds (ps := ["self", "ring"]) fun _ _ _ _ _ _ us hl => by obtain ⟨_, _, rfl⟩ := arL2 hl; rfl
  have X_Ring : ExK K mg "Ring" C_Ring I_Ring := ⟨oexB_ok PySem.F.excBase_ValueError PySem.F.store_ValueError cb_Ring, PySem.W.mg_of X G ca_Ring, clsV_of ca_Ring, cc_Ring, cd_Ring⟩
  have IF_NoRows := fun_mk (st := si_NoRows) cl_NoRows cm_NoRows cn_NoRows
  have ib_NoRows := IF_NoRows.binds (ps := ["self", "there"]) fun _ _ _ _ _ _ us hl => by obtain ⟨_, _, rfl⟩ := arL2 hl; rfl
  have X_NoRows : ExK K mg "NoRows" C_NoRows I_NoRows := ⟨oexB_ok PySem.F.excBase_ValueError PySem.F.store_ValueError cb_NoRows, PySem.W.mg_of X G ca_NoRows, clsV_of ca_NoRows, cc_NoRows, cd_NoRows⟩
  have IF_NoColumn := fun_mk (st := si_NoColumn) cl_NoColumn cm_NoColumn cn_NoColumn
  have ib_NoColumn := IF_NoColumn.binds (ps := ["self", "name"]) fun _ _ _ _ _ _ us hl => by obtain ⟨_, _, rfl⟩ := arL2 hl; rfl
  have X_NoColumn : ExK K mg "NoColumn" C_NoColumn I_NoColumn := ⟨oexB_ok PySem.F.excBase_LookupError PySem.F.store_LookupError cb_NoColumn, PySem.W.mg_of X G ca_NoColumn, clsV_of ca_NoColumn, cc_NoColumn, cd_NoColumn⟩
  have IF_NotBound := fun_mk (st := si_NotBound) cl_NotBound cm_NotBound cn_NotBound
  have ib_NotBound := IF_NotBound.binds (ps := ["self"]) fun _ _ _ _ _ _ us hl => by obtain ⟨_, rfl⟩ := arL1 hl; rfl
  have X_NotBound : ExK K mg "NotBound" C_NotBound I_NotBound := ⟨oexB_ok PySem.F.excBase_LookupError PySem.F.store_LookupError cb_NotBound, PySem.W.mg_of X G ca_NotBound, clsV_of ca_NotBound, cc_NotBound, cd_NotBound⟩
  have kc_Book : ClK K "Book" C_Book := ⟨clsV_of na_Book, ⟨nb_Book, nc_Book, nd_Book, ne_Book⟩⟩
  have kc_Reckoned : ClK K "Reckoned" C_Reckoned := ⟨clsV_of na_Reckoned, ⟨nb_Reckoned, nc_Reckoned, nd_Reckoned, ne_Reckoned⟩⟩
  have kc_Tally : ClK K "Tally" C_Tally := ⟨clsV_of na_Tally, ⟨nb_Tally, nc_Tally, nd_Tally, ne_Tally⟩⟩
  have F0 := fun_mk (st := s_multiplied) l0 c0 k0
  have b0 := F0.binds (ps := ["sizes"]) fun _ _ _ _ _ _ us hl => by obtain ⟨_, rfl⟩ := arL1 hl; rfl
  have F1 := fun_mk (st := s_look_sizes) l1 c1 k1
  have b1 := F1.binds (ps := ["sizes"]) fun _ _ _ _ _ _ us hl => by obtain ⟨_, rfl⟩ := arL1 hl; rfl
  have F2 := fun_mk (st := s_Tally_init) l2 c2 k2
  have b2 := F2.binds (ps := ["self", "sizes"]) fun _ _ _ _ _ _ us hl => by obtain ⟨_, _, rfl⟩ := arL2 hl; rfl
  have F3 := fun_mk (st := s_Tally_len) l3 c3 k3
  have b3 := F3.binds (ps := ["self"]) fun _ _ _ _ _ _ us hl => by obtain ⟨_, rfl⟩ := arL1 hl; rfl
  have F4 := fun_mk (st := s_Tally_rows) l4 c4 k4
  have b4 := F4.binds (ps := ["self"]) fun _ _ _ _ _ _ us hl => by obtain ⟨_, rfl⟩ := arL1 hl; rfl
  have F5 := fun_mk (st := s_is_name) l5 c5 k5
  have b5 := F5.binds (ps := ["text"]) fun _ _ _ _ _ _ us hl => by obtain ⟨_, rfl⟩ := arL1 hl; rfl
  have F6 := fun_mk (st := s_look_names) l6 c6 k6
  have b6 := F6.binds (ps := ["names"]) fun _ _ _ _ _ _ us hl => by obtain ⟨_, rfl⟩ := arL1 hl; rfl
  have F7 := fun_mk (st := s_Reckoned_init) l7 c7 k7
  have b7 := F7.binds (ps := ["self"]) fun _ _ _ _ _ _ us hl => by obtain ⟨_, rfl⟩ := arL1 hl; rfl
  have F8 := fun_mk (st := s_Book_init) l8 c8 k8
  have b8 := F8.binds (ps := ["self", "columns"]) fun _ _ _ _ _ _ us hl => by obtain ⟨_, _, rfl⟩ := arL2 hl; rfl
  have F9 := fun_mk (st := s_Book_len) l9 c9 k9
  have b9 := F9.binds (ps := ["self"]) fun _ _ _ _ _ _ us hl => by obtain ⟨_, rfl⟩ := arL1 hl; rfl
  have F10 := fun_mk (st := s_Book_face) l10 c10 k10
  have b10 := F10.binds (ps := ["self"]) fun _ _ _ _ _ _ us hl => by obtain ⟨_, rfl⟩ := arL1 hl; rfl
  have F11 := fun_mk (st := s_Book_eq) l11 c11 k11
  have b11 := F11.binds (ps := ["self", "other"]) fun _ _ _ _ _ _ us hl => by obtain ⟨_, _, rfl⟩ := arL2 hl; rfl
  have F12 := fun_mk (st := s_Book_columns) l12 c12 k12
  have b12 := F12.binds (ps := ["self"]) fun _ _ _ _ _ _ us hl => by obtain ⟨_, rfl⟩ := arL1 hl; rfl
  have F13 := fun_mk (st := s__law_draws) l13 c13 k13
  have b13 := F13.binds (ps := ["_law_cell", "_law_sizes"]) fun _ _ _ _ _ _ us hl => by obtain ⟨_, _, rfl⟩ := arL2 hl; rfl
  have F14 := fun_mk (st := s__law_same) l14 c14 k14
  have b14 := F14.binds (ps := ["_law_found", "_law_due"]) fun _ _ _ _ _ _ us hl => by obtain ⟨_, _, rfl⟩ := arL2 hl; rfl
  have F15 := fun_mk (st := s__law_good_names) l15 c15 k15
  have b15 := F15.binds (ps := ["_law_some"]) fun _ _ _ _ _ _ us hl => by obtain ⟨_, rfl⟩ := arL1 hl; rfl
  have F16 := fun_mk (st := s__law_word_due) l16 c16 k16
  have b16 := F16.binds (ps := ["_law_columns"]) fun _ _ _ _ _ _ us hl => by obtain ⟨_, rfl⟩ := arL1 hl; rfl
  have F17 := fun_mk (st := s_law) l17 c17 k17
  have b17 := F17.binds (ps := ["_law_script"]) fun _ _ _ _ _ _ us hl => by obtain ⟨_, rfl⟩ := arL1 hl; rfl
  have ht := tabIn_of a17 l17 rfl tc tp
  refine ⟨(PySem.W.fnOf "law" "law" (defArgs s_law) (defBody s_law) (defScope s_law) .none kV17 dc17 pm17 an17 (.ref cL) ct17), [(cL, PL)], ⟨ht, trivial⟩, ?_, fun s v => .of_eq rfl, fun base _ _ TB => ?_⟩
  · intro p hp
    simp only [List.mem_cons, List.not_mem_nil, or_false] at hp
    rcases hp with rfl
    · exact tn
  have T : Txt K mg ⟨C_BadSizes, I_BadSizes, (PySem.W.fnOf "__init__" "BadSizes.__init__" (defArgs si_BadSizes) (defBody si_BadSizes) (defScope si_BadSizes) .none ikV_BadSizes idc_BadSizes ipm_BadSizes ian_BadSizes icd_BadSizes ict_BadSizes), C_BadRow, I_BadRow, (PySem.W.fnOf "__init__" "BadRow.__init__" (defArgs si_BadRow) (defBody si_BadRow) (defScope si_BadRow) .none ikV_BadRow idc_BadRow ipm_BadRow ian_BadRow icd_BadRow ict_BadRow), C_BadMany, I_BadMany, (PySem.W.fnOf "__init__" "BadMany.__init__" (defArgs si_BadMany) (defBody si_BadMany) (defScope si_BadMany) .none ikV_BadMany idc_BadMany ipm_BadMany ian_BadMany icd_BadMany ict_BadMany), C_BadDeed, I_BadDeed, (PySem.W.fnOf "__init__" "BadDeed.__init__" (defArgs si_BadDeed) (defBody si_BadDeed) (defScope si_BadDeed) .none ikV_BadDeed idc_BadDeed ipm_BadDeed ian_BadDeed icd_BadDeed ict_BadDeed), C_Same, I_Same, (PySem.W.fnOf "__init__" "Same.__init__" (defArgs si_Same) (defBody si_Same) (defScope si_Same) .none ikV_Same idc_Same ipm_Same ian_Same icd_Same ict_Same), C_Taken, I_Taken, (PySem.W.fnOf "__init__" "Taken.__init__" (defArgs si_Taken) (defBody si_Taken) (defScope si_Taken) .none ikV_Taken idc_Taken ipm_Taken ian_Taken icd_Taken ict_Taken), C_Full, I_Full, (PySem.W.fnOf "__init__" "Full.__init__" (defArgs si_Full) (defBody si_Full) (defScope si_Full) .none ikV_Full idc_Full ipm_Full ian_Full icd_Full ict_Full), C_BadName, I_BadName, (PySem.W.fnOf "__init__" "BadName.__init__" (defArgs si_BadName) (defBody si_BadName) (defScope si_BadName) .none ikV_BadName idc_BadName ipm_BadName ian_BadName icd_BadName ict_BadName), C_Ring, I_Ring, (PySem.W.fnOf "__init__" "Ring.__init__" (defArgs si_Ring) (defBody si_Ring) (defScope si_Ring) .none ikV_Ring idc_Ring ipm_Ring ian_Ring icd_Ring ict_Ring), C_NoRows, I_NoRows, (PySem.W.fnOf "__init__" "NoRows.__init__" (defArgs si_NoRows) (defBody si_NoRows) (defScope si_NoRows) .none ikV_NoRows idc_NoRows ipm_NoRows ian_NoRows icd_NoRows ict_NoRows), C_NoColumn, I_NoColumn, (PySem.W.fnOf "__init__" "NoColumn.__init__" (defArgs si_NoColumn) (defBody si_NoColumn) (defScope si_NoColumn) .none ikV_NoColumn idc_NoColumn ipm_NoColumn ian_NoColumn icd_NoColumn ict_NoColumn), C_NotBound, I_NotBound, (PySem.W.fnOf "__init__" "NotBound.__init__" (defArgs si_NotBound) (defBody si_NotBound) (defScope si_NotBound) .none ikV_NotBound idc_NotBound ipm_NotBound ian_NotBound icd_NotBound ict_NotBound), C_Book, C_Reckoned, C_Tally, f0, (PySem.W.fnOf "multiplied" "multiplied" (defArgs s_multiplied) (defBody s_multiplied) (defScope s_multiplied) .none kV0 dc0 pm0 an0 cd0 ct0), f1, (PySem.W.fnOf "look_sizes" "look_sizes" (defArgs s_look_sizes) (defBody s_look_sizes) (defScope s_look_sizes) .none kV1 dc1 pm1 an1 cd1 ct1), f2, (PySem.W.fnOf "__init__" "Tally.__init__" (defArgs s_Tally_init) (defBody s_Tally_init) (defScope s_Tally_init) .none kV2 dc2 pm2 an2 cd2 ct2), f3, (PySem.W.fnOf "__len__" "Tally.__len__" (defArgs s_Tally_len) (defBody s_Tally_len) (defScope s_Tally_len) .none kV3 dc3 pm3 an3 cd3 ct3), f4, (PySem.W.fnOf "rows" "Tally.rows" (defArgs s_Tally_rows) (defBody s_Tally_rows) (defScope s_Tally_rows) .none kV4 dc4 pm4 an4 cd4 ct4), f5, (PySem.W.fnOf "is_name" "is_name" (defArgs s_is_name) (defBody s_is_name) (defScope s_is_name) .none kV5 dc5 pm5 an5 cd5 ct5), f6, (PySem.W.fnOf "look_names" "look_names" (defArgs s_look_names) (defBody s_look_names) (defScope s_look_names) .none kV6 dc6 pm6 an6 cd6 ct6), f7, (PySem.W.fnOf "__init__" "Reckoned.__init__" (defArgs s_Reckoned_init) (defBody s_Reckoned_init) (defScope s_Reckoned_init) .none kV7 dc7 pm7 an7 cd7 ct7), f8, (PySem.W.fnOf "__init__" "Book.__init__" (defArgs s_Book_init) (defBody s_Book_init) (defScope s_Book_init) .none kV8 dc8 pm8 an8 cd8 ct8), f9, (PySem.W.fnOf "__len__" "Book.__len__" (defArgs s_Book_len) (defBody s_Book_len) (defScope s_Book_len) .none kV9 dc9 pm9 an9 cd9 ct9), f10, (PySem.W.fnOf "face" "Book.face" (defArgs s_Book_face) (defBody s_Book_face) (defScope s_Book_face) .none kV10 dc10 pm10 an10 cd10 ct10), f11, (PySem.W.fnOf "__eq__" "Book.__eq__" (defArgs s_Book_eq) (defBody s_Book_eq) (defScope s_Book_eq) .none kV11 dc11 pm11 an11 cd11 ct11), f12, (PySem.W.fnOf "columns" "Book.columns" (defArgs s_Book_columns) (defBody s_Book_columns) (defScope s_Book_columns) .none kV12 dc12 pm12 an12 cd12 ct12), f13, (PySem.W.fnOf "_law_draws" "_law_draws" (defArgs s__law_draws) (defBody s__law_draws) (defScope s__law_draws) .none kV13 dc13 pm13 an13 cd13 ct13), f14, (PySem.W.fnOf "_law_same" "_law_same" (defArgs s__law_same) (defBody s__law_same) (defScope s__law_same) .none kV14 dc14 pm14 an14 cd14 ct14), f15, (PySem.W.fnOf "_law_good_names" "_law_good_names" (defArgs s__law_good_names) (defBody s__law_good_names) (defScope s__law_good_names) .none kV15 dc15 pm15 an15 cd15 ct15), f16, (PySem.W.fnOf "_law_word_due" "_law_word_due" (defArgs s__law_word_due) (defBody s__law_word_due) (defScope s__law_word_due) .none kV16 dc16 pm16 an16 cd16 ct16), fa, (PySem.W.fnOf "law" "law" (defArgs s_law) (defBody s_law) (defScope s_law) .none kV17 dc17 pm17 an17 (.ref cL) ct17), (V.int 8), (Value.int 8 tc_LONGEST), (V.int 6), (Value.int 6 tc_MOST_COLUMNS), (V.int 300), (Value.int 300 tc_MOST_ROWS), (V.int 4), (Value.int 4 tc_MOST_SIZE), (V.str "abcdefghijklmnopqrstuvwxyz"), (Value.str "abcdefghijklmnopqrstuvwxyz" tc_SMALL)⟩ := ⟨X_BadSizes, IF_BadSizes, ib_BadSizes, xcB_ok ce_BadSizes, X_BadRow, IF_BadRow, ib_BadRow, xcB_ok ce_BadRow, X_BadMany, IF_BadMany, ib_BadMany, xcB_ok ce_BadMany, X_BadDeed, IF_BadDeed, ib_BadDeed, xcB_ok ce_BadDeed, X_Same, IF_Same, ib_Same, xcB_ok ce_Same, X_Taken, IF_Taken, ib_Taken, xcB_ok ce_Taken, X_Full, IF_Full, ib_Full, xcB_ok ce_Full, X_BadName, IF_BadName, ib_BadName, xcB_ok ce_BadName, X_Ring, IF_Ring, ib_Ring, xcB_ok ce_Ring, X_NoRows, IF_NoRows, ib_NoRows, xcB_ok ce_NoRows, X_NoColumn, IF_NoColumn, ib_NoColumn, xcB_ok ce_NoColumn, X_NotBound, IF_NotBound, ib_NotBound, xcB_ok ce_NotBound, PySem.W.mg_of X G ca_BadName, PySem.W.mg_of X G ca_BadSizes, cx_BadSizes_BadName, cx_BadSizes_BadSizes, cx_BadRow_BadName, cx_BadRow_BadSizes, cx_BadMany_BadName, cx_BadMany_BadSizes, cx_BadDeed_BadName, cx_BadDeed_BadSizes, cx_Same_BadName, cx_Same_BadSizes, cx_Taken_BadName, cx_Taken_BadSizes, cx_Full_BadName, cx_Full_BadSizes, cx_BadName_BadName, cx_BadName_BadSizes, cx_Ring_BadName, cx_Ring_BadSizes, cx_NoRows_BadName, cx_NoRows_BadSizes, cx_NoColumn_BadName, cx_NoColumn_BadSizes, cx_NotBound_BadName, cx_NotBound_BadSizes, F0, PySem.W.mg_of X G a0, k0, b0, F1, PySem.W.mg_of X G a1, k1, b1, F2, ⟨a2, af2, k2⟩, b2, F3, ⟨a3, af3, k3⟩, b3, F4, ⟨a4, af4, k4⟩, b4, F5, PySem.W.mg_of X G a5, k5, b5, F6, PySem.W.mg_of X G a6, k6, b6, F7, ⟨a7, af7, k7⟩, b7, F8, ⟨a8, af8, k8⟩, b8, F9, ⟨a9, af9, k9⟩, b9, F10, ⟨a10, af10, k10⟩, b10, F11, ⟨a11, af11, k11⟩, b11, F12, ⟨a12, af12, k12⟩, b12, F13, PySem.W.mg_of X G a13, k13, b13, F14, PySem.W.mg_of X G a14, k14, b14, F15, PySem.W.mg_of X G a15, k15, b15, F16, PySem.W.mg_of X G a16, k16, b16, F17, PySem.W.mg_of X G a17, k17, b17, kc_Book, PySem.W.mg_of X G na_Book, ⟨nm_Book, a8, af8, nk_Book⟩, kc_Reckoned, PySem.W.mg_of X G na_Reckoned, ⟨nm_Reckoned, a7, af7, nk_Reckoned⟩, kc_Tally, PySem.W.mg_of X G na_Tally, ⟨nm_Tally, a2, af2, nk_Tally⟩, ⟨kc_Book, ia_Book, ck_ig_Book, ck_it_Book, ck_im_Book, fun t ht => by simp only [tys, List.mem_cons, List.not_mem_nil, or_false] at ht; rcases ht with rfl | rfl | rfl | rfl | rfl | rfl <;> assumption⟩, fun c hc => by simp only [List.mem_cons, List.not_mem_nil, or_false] at hc; subst hc; exact ⟨_, kc_Tally, nf_Tally_sizes⟩, fun c hc => by simp only [List.mem_cons, List.not_mem_nil, or_false] at hc; subst hc; exact ⟨_, kc_Tally, nf_Tally_known⟩, fun c hc => by simp only [List.mem_cons, List.not_mem_nil, or_false] at hc; subst hc; exact ⟨_, kc_Reckoned, nf_Reckoned_worths_told⟩, fun c hc => by simp only [List.mem_cons, List.not_mem_nil, or_false] at hc; subst hc; exact ⟨_, kc_Reckoned, nf_Reckoned_many_told⟩, fun c hc => by simp only [List.mem_cons, List.not_mem_nil, or_false] at hc; subst hc; exact ⟨_, kc_Book, nf_Book_names_told⟩, fun c hc => by simp only [List.mem_cons, List.not_mem_nil, or_false] at hc; subst hc; exact ⟨_, kc_Book, nf_Book_rows_told⟩, fun c hc => by simp only [List.mem_cons, List.not_mem_nil, or_false] at hc; subst hc; exact ⟨_, kc_Book, nf_Book_musts⟩, fun c hc => by simp only [List.mem_cons, List.not_mem_nil, or_false] at hc; subst hc; exact ⟨_, kc_Book, nf_Book_nevers⟩, fun c hc => by simp only [List.mem_cons, List.not_mem_nil, or_false] at hc; subst hc; exact ⟨_, kc_Book, nf_Book_at_most⟩, fun c hc => by simp only [List.mem_cons, List.not_mem_nil, or_false] at hc; subst hc; exact ⟨_, kc_Book, nf_Book_done⟩, fun c hc => by simp only [List.mem_cons, List.not_mem_nil, or_false] at hc; subst hc; exact ⟨_, kc_Book, nf_Book_past⟩, fun c hc => by simp only [List.mem_cons, List.not_mem_nil, or_false] at hc; subst hc; exact ⟨_, kc_Book, nf_Book_gone⟩, fun c hc => by simp only [List.mem_cons, List.not_mem_nil, or_false] at hc; subst hc; exact ⟨_, kc_Book, nf_Book_reckoner⟩, PySem.W.mg_none_of X G z_abs, PySem.W.mg_none_of X G z_all, PySem.W.mg_none_of X G z_any, PySem.W.mg_none_of X G z_bool, PySem.W.mg_none_of X G z_int, PySem.W.mg_none_of X G z_isinstance, PySem.W.mg_none_of X G z_len, PySem.W.mg_none_of X G z_list, PySem.W.mg_none_of X G z_range, PySem.W.mg_none_of X G z_set, PySem.W.mg_none_of X G z_sorted, PySem.W.mg_none_of X G z_str, PySem.W.mg_none_of X G z_tuple, PySem.W.mg_of X G x_LONGEST, ⟨_, rfl⟩, fun _ => .v _, PySem.W.mg_of X G x_MOST_COLUMNS, ⟨_, rfl⟩, fun _ => .v _, PySem.W.mg_of X G x_MOST_ROWS, ⟨_, rfl⟩, fun _ => .v _, PySem.W.mg_of X G x_MOST_SIZE, ⟨_, rfl⟩, fun _ => .v _, PySem.W.mg_of X G x_SMALL, ⟨_, rfl⟩, fun _ => .v _⟩
  exact ok_law T l17 c17 (in_tabs ht) (TB (cL, PL) (by simp))
end My
open PySem PySem.W PyProof.Rows in
set_option maxRecDepth 100000 in
set_option maxHeartbeats 0 in
theorem PySem.Challenge.cw_tallyloom_k53_books_of_columns_refused_holds : PySem.Challenge.rw_tallyloom_k53_books_of_columns_refused.Holds := by
  w_on; o_law; k_headL; (case hw => w_witness2)
  k_fill
  refine DV.walkT (l := PySem.Challenge.rw_tallyloom_k53_books_of_columns_refused) (n := 63) (k := 8) (x := "_law_script") (F := My.F_law) rfl (by decide) rfl ⟨rfl, by decide, by decide⟩ (fun w h Y => by first | exact PySem.W.kIn_of Y | exact PySem.W.km_in_of Y) ?hrec ?F My.law_true
  case hrec => kernel_rfl
  case F =>
    intro w mg fa h KX G hmg
    refine' My.all_mk KX G hmg ?ca_BadSizes ?cb_BadSizes ?cc_BadSizes ?cd_BadSizes ?ce_BadSizes ?cl_BadSizes ?cm_BadSizes ?cn_BadSizes ?ca_BadRow ?cb_BadRow ?cc_BadRow ?cd_BadRow ?ce_BadRow ?cl_BadRow ?cm_BadRow ?cn_BadRow ?ca_BadMany ?cb_BadMany ?cc_BadMany ?cd_BadMany ?ce_BadMany ?cl_BadMany ?cm_BadMany ?cn_BadMany ?ca_BadDeed ?cb_BadDeed ?cc_BadDeed ?cd_BadDeed ?ce_BadDeed ?cl_BadDeed ?cm_BadDeed ?cn_BadDeed ?ca_Same ?cb_Same ?cc_Same ?cd_Same ?ce_Same ?cl_Same ?cm_Same ?cn_Same ?ca_Taken ?cb_Taken ?cc_Taken ?cd_Taken ?ce_Taken ?cl_Taken ?cm_Taken ?cn_Taken ?ca_Full ?cb_Full ?cc_Full ?cd_Full ?ce_Full ?cl_Full ?cm_Full ?cn_Full ?ca_BadName ?cb_BadName ?cc_BadName ?cd_BadName ?ce_BadName ?cl_BadName ?cm_BadName ?cn_BadName ?ca_Ring ?cb_Ring ?cc_Ring ?cd_Ring ?ce_Ring ?cl_Ring ?cm_Ring ?cn_Ring ?ca_NoRows ?cb_NoRows ?cc_NoRows ?cd_NoRows ?ce_NoRows ?cl_NoRows ?cm_NoRows ?cn_NoRows ?ca_NoColumn ?cb_NoColumn ?cc_NoColumn ?cd_NoColumn ?ce_NoColumn ?cl_NoColumn ?cm_NoColumn ?cn_NoColumn ?ca_NotBound ?cb_NotBound ?cc_NotBound ?cd_NotBound ?ce_NotBound ?cl_NotBound ?cm_NotBound ?cn_NotBound ?cx_BadSizes_BadName ?cx_BadSizes_BadSizes ?cx_BadRow_BadName ?cx_BadRow_BadSizes ?cx_BadMany_BadName ?cx_BadMany_BadSizes ?cx_BadDeed_BadName ?cx_BadDeed_BadSizes ?cx_Same_BadName ?cx_Same_BadSizes ?cx_Taken_BadName ?cx_Taken_BadSizes ?cx_Full_BadName ?cx_Full_BadSizes ?cx_BadName_BadName ?cx_BadName_BadSizes ?cx_Ring_BadName ?cx_Ring_BadSizes ?cx_NoRows_BadName ?cx_NoRows_BadSizes ?cx_NoColumn_BadName ?cx_NoColumn_BadSizes ?cx_NotBound_BadName ?cx_NotBound_BadSizes ?na_Book ?nb_Book ?nc_Book ?nd_Book ?ne_Book ?nm_Book ?nk_Book ?ia_Book ?ck_ig_Book ?ck_it_Book ?ck_im_Book ?ck_i0_Book ?ck_i1_Book ?ck_i2_Book ?ck_i3_Book ?ck_i4_Book ?ck_i5_Book ?nf_Book_names_told ?nf_Book_rows_told ?nf_Book_musts ?nf_Book_nevers ?nf_Book_at_most ?nf_Book_done ?nf_Book_past ?nf_Book_gone ?nf_Book_reckoner ?na_Reckoned ?nb_Reckoned ?nc_Reckoned ?nd_Reckoned ?ne_Reckoned ?nm_Reckoned ?nk_Reckoned ?nf_Reckoned_worths_told ?nf_Reckoned_many_told ?na_Tally ?nb_Tally ?nc_Tally ?nd_Tally ?ne_Tally ?nm_Tally ?nk_Tally ?nf_Tally_sizes ?nf_Tally_known ?a0 ?l0 ?c0 ?k0 ?a1 ?l1 ?c1 ?k1 ?a2 ?af2 ?l2 ?c2 ?k2 ?a3 ?af3 ?l3 ?c3 ?k3 ?a4 ?af4 ?l4 ?c4 ?k4 ?a5 ?l5 ?c5 ?k5 ?a6 ?l6 ?c6 ?k6 ?a7 ?af7 ?l7 ?c7 ?k7 ?a8 ?af8 ?l8 ?c8 ?k8 ?a9 ?af9 ?l9 ?c9 ?k9 ?a10 ?af10 ?l10 ?c10 ?k10 ?a11 ?af11 ?l11 ?c11 ?k11 ?a12 ?af12 ?l12 ?c12 ?k12 ?a13 ?l13 ?c13 ?k13 ?a14 ?l14 ?c14 ?k14 ?a15 ?l15 ?c15 ?k15 ?a16 ?l16 ?c16 ?k16 ?a17 ?l17 ?c17 ?k17 ?z_abs ?z_all ?z_any ?z_bool ?z_int ?z_isinstance ?z_len ?z_list ?z_range ?z_set ?z_sorted ?z_str ?z_tuple ?x_LONGEST ?x_MOST_COLUMNS ?x_MOST_ROWS ?x_MOST_SIZE ?x_SMALL ?tc ?tp ?tn
    (case ca_BadSizes => k_is)
    (case cb_BadSizes => kernel_rfl)
    (case cc_BadSizes => k_is)
    (case cd_BadSizes => k_is)
    (case ce_BadSizes => kernel_rfl)
    (case cl_BadSizes => k_is)
    (case cm_BadSizes => k_is)
    (case cn_BadSizes => k_is)
    (case ca_BadRow => k_is)
    (case cb_BadRow => kernel_rfl)
    (case cc_BadRow => k_is)
    (case cd_BadRow => k_is)
    (case ce_BadRow => kernel_rfl)
    (case cl_BadRow => k_is)
    (case cm_BadRow => k_is)
    (case cn_BadRow => k_is)
    (case ca_BadMany => k_is)
    (case cb_BadMany => kernel_rfl)
    (case cc_BadMany => k_is)
    (case cd_BadMany => k_is)
    (case ce_BadMany => kernel_rfl)
    (case cl_BadMany => k_is)
    (case cm_BadMany => k_is)
    (case cn_BadMany => k_is)
    (case ca_BadDeed => k_is)
    (case cb_BadDeed => kernel_rfl)
    (case cc_BadDeed => k_is)
    (case cd_BadDeed => k_is)
    (case ce_BadDeed => kernel_rfl)
    (case cl_BadDeed => k_is)
    (case cm_BadDeed => k_is)
    (case cn_BadDeed => k_is)
    (case ca_Same => k_is)
    (case cb_Same => kernel_rfl)
    (case cc_Same => k_is)
    (case cd_Same => k_is)
    (case ce_Same => kernel_rfl)
    (case cl_Same => k_is)
    (case cm_Same => k_is)
    (case cn_Same => k_is)
    (case ca_Taken => k_is)
    (case cb_Taken => kernel_rfl)
    (case cc_Taken => k_is)
    (case cd_Taken => k_is)
    (case ce_Taken => kernel_rfl)
    (case cl_Taken => k_is)
    (case cm_Taken => k_is)
    (case cn_Taken => k_is)
    (case ca_Full => k_is)
    (case cb_Full => kernel_rfl)
    (case cc_Full => k_is)
    (case cd_Full => k_is)
    (case ce_Full => kernel_rfl)
    (case cl_Full => k_is)
    (case cm_Full => k_is)
    (case cn_Full => k_is)
    (case ca_BadName => k_is)
    (case cb_BadName => kernel_rfl)
    (case cc_BadName => k_is)
    (case cd_BadName => k_is)
    (case ce_BadName => kernel_rfl)
    (case cl_BadName => k_is)
    (case cm_BadName => k_is)
    (case cn_BadName => k_is)
    (case ca_Ring => k_is)
    (case cb_Ring => kernel_rfl)
    (case cc_Ring => k_is)
    (case cd_Ring => k_is)
    (case ce_Ring => kernel_rfl)
    (case cl_Ring => k_is)
    (case cm_Ring => k_is)
    (case cn_Ring => k_is)
    (case ca_NoRows => k_is)
    (case cb_NoRows => kernel_rfl)
    (case cc_NoRows => k_is)
    (case cd_NoRows => k_is)
    (case ce_NoRows => kernel_rfl)
    (case cl_NoRows => k_is)
    (case cm_NoRows => k_is)
    (case cn_NoRows => k_is)
    (case ca_NoColumn => k_is)
    (case cb_NoColumn => kernel_rfl)
    (case cc_NoColumn => k_is)
    (case cd_NoColumn => k_is)
    (case ce_NoColumn => kernel_rfl)
    (case cl_NoColumn => k_is)
    (case cm_NoColumn => k_is)
    (case cn_NoColumn => k_is)
    (case ca_NotBound => k_is)
    (case cb_NotBound => kernel_rfl)
    (case cc_NotBound => k_is)
    (case cd_NotBound => k_is)
    (case ce_NotBound => kernel_rfl)
    (case cl_NotBound => k_is)
    (case cm_NotBound => k_is)
    (case cn_NotBound => k_is)
    (case cx_BadSizes_BadName => kernel_rfl)
    (case cx_BadSizes_BadSizes => kernel_rfl)
    (case cx_BadRow_BadName => kernel_rfl)
    (case cx_BadRow_BadSizes => kernel_rfl)
    (case cx_BadMany_BadName => kernel_rfl)
    (case cx_BadMany_BadSizes => kernel_rfl)
    (case cx_BadDeed_BadName => kernel_rfl)
    (case cx_BadDeed_BadSizes => kernel_rfl)
    (case cx_Same_BadName => kernel_rfl)
    (case cx_Same_BadSizes => kernel_rfl)
    (case cx_Taken_BadName => kernel_rfl)
    (case cx_Taken_BadSizes => kernel_rfl)
    (case cx_Full_BadName => kernel_rfl)
    (case cx_Full_BadSizes => kernel_rfl)
    (case cx_BadName_BadName => kernel_rfl)
    (case cx_BadName_BadSizes => kernel_rfl)
    (case cx_Ring_BadName => kernel_rfl)
    (case cx_Ring_BadSizes => kernel_rfl)
    (case cx_NoRows_BadName => kernel_rfl)
    (case cx_NoRows_BadSizes => kernel_rfl)
    (case cx_NoColumn_BadName => kernel_rfl)
    (case cx_NoColumn_BadSizes => kernel_rfl)
    (case cx_NotBound_BadName => kernel_rfl)
    (case cx_NotBound_BadSizes => kernel_rfl)
    (case na_Book => k_is)
    (case nb_Book => k_is)
    (case nc_Book => k_is)
    (case nd_Book => k_is)
    (case ne_Book => k_is)
    (case nm_Book => k_is)
    (case nk_Book => k_is)
    (case ia_Book => k_is)
    (case ck_ig_Book => kernel_rfl)
    (case ck_it_Book => kernel_rfl)
    (case ck_im_Book => kernel_rfl)
    (case ck_i0_Book => kernel_rfl)
    (case ck_i1_Book => kernel_rfl)
    (case ck_i2_Book => kernel_rfl)
    (case ck_i3_Book => kernel_rfl)
    (case ck_i4_Book => kernel_rfl)
    (case ck_i5_Book => kernel_rfl)
    (case nf_Book_names_told => k_is)
    (case nf_Book_rows_told => k_is)
    (case nf_Book_musts => k_is)
    (case nf_Book_nevers => k_is)
    (case nf_Book_at_most => k_is)
    (case nf_Book_done => k_is)
    (case nf_Book_past => k_is)
    (case nf_Book_gone => k_is)
    (case nf_Book_reckoner => k_is)
    (case na_Reckoned => k_is)
    (case nb_Reckoned => k_is)
    (case nc_Reckoned => k_is)
    (case nd_Reckoned => k_is)
    (case ne_Reckoned => k_is)
    (case nm_Reckoned => k_is)
    (case nk_Reckoned => k_is)
    (case nf_Reckoned_worths_told => k_is)
    (case nf_Reckoned_many_told => k_is)
    (case na_Tally => k_is)
    (case nb_Tally => k_is)
    (case nc_Tally => k_is)
    (case nd_Tally => k_is)
    (case ne_Tally => k_is)
    (case nm_Tally => k_is)
    (case nk_Tally => k_is)
    (case nf_Tally_sizes => k_is)
    (case nf_Tally_known => k_is)
    (case a0 => k_is)
    (case l0 => k_is)
    (case c0 => k_is)
    (case k0 => k_is)
    (case a1 => k_is)
    (case l1 => k_is)
    (case c1 => k_is)
    (case k1 => k_is)
    (case a2 => k_is)
    (case af2 => k_is)
    (case l2 => k_is)
    (case c2 => k_is)
    (case k2 => k_is)
    (case a3 => k_is)
    (case af3 => k_is)
    (case l3 => k_is)
    (case c3 => k_is)
    (case k3 => k_is)
    (case a4 => k_is)
    (case af4 => k_is)
    (case l4 => k_is)
    (case c4 => k_is)
    (case k4 => k_is)
    (case a5 => k_is)
    (case l5 => k_is)
    (case c5 => k_is)
    (case k5 => k_is)
    (case a6 => k_is)
    (case l6 => k_is)
    (case c6 => k_is)
    (case k6 => k_is)
    (case a7 => k_is)
    (case af7 => k_is)
    (case l7 => k_is)
    (case c7 => k_is)
    (case k7 => k_is)
    (case a8 => k_is)
    (case af8 => k_is)
    (case l8 => k_is)
    (case c8 => k_is)
    (case k8 => k_is)
    (case a9 => k_is)
    (case af9 => k_is)
    (case l9 => k_is)
    (case c9 => k_is)
    (case k9 => k_is)
    (case a10 => k_is)
    (case af10 => k_is)
    (case l10 => k_is)
    (case c10 => k_is)
    (case k10 => k_is)
    (case a11 => k_is)
    (case af11 => k_is)
    (case l11 => k_is)
    (case c11 => k_is)
    (case k11 => k_is)
    (case a12 => k_is)
    (case af12 => k_is)
    (case l12 => k_is)
    (case c12 => k_is)
    (case k12 => k_is)
    (case a13 => k_is)
    (case l13 => k_is)
    (case c13 => k_is)
    (case k13 => k_is)
    (case a14 => k_is)
    (case l14 => k_is)
    (case c14 => k_is)
    (case k14 => k_is)
    (case a15 => k_is)
    (case l15 => k_is)
    (case c15 => k_is)
    (case k15 => k_is)
    (case a16 => k_is)
    (case l16 => k_is)
    (case c16 => k_is)
    (case k16 => k_is)
    (case a17 => k_is)
    (case l17 => k_is)
    (case c17 => k_is)
    (case k17 => k_is)
    (case z_abs => k_is)
    (case z_all => k_is)
    (case z_any => k_is)
    (case z_bool => k_is)
    (case z_int => k_is)
    (case z_isinstance => k_is)
    (case z_len => k_is)
    (case z_list => k_is)
    (case z_range => k_is)
    (case z_set => k_is)
    (case z_sorted => k_is)
    (case z_str => k_is)
    (case z_tuple => k_is)
    (case x_LONGEST => k_is)
    (case x_MOST_COLUMNS => k_is)
    (case x_MOST_ROWS => k_is)
    (case x_MOST_SIZE => k_is)
    (case x_SMALL => k_is)
    (case tc => k_is)
    (case tp => rfl)
    (case tn => kernel_rfl)
