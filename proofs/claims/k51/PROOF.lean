import PyProof.Rows.All
import Wide.All
import OpenK.AllK
import Wide.FinOn
import HandS.ForMost
import HandS.More
import HandS.SortInts
import HandS.Wide
import KE.KDictKeyed
import KE.KeyNested
import HandS.TupAny
import HandS.Style
import HandS.IsInst
import HandS.ListItems
import HandS.Zip
import HandS.NoneIn
import HandS.Rev
import HandS.SortKw
import KE.DataCmp
import KE.SortData
import KE.DataMinMax
import KE.KDictPairs
import HandS.Conv
import KE.KEqNest
import KE.DataEq
import HandS.DictComp
import HandS.SetFor
import HandS.Exc
import HandS.ExcInit
import KE.KExcInit
import KE.KExcIs
import PyProof.ExcBaseAll.LookupError
import PyProof.ExcBaseAll.IndexError
import PyProof.ExcBaseAll.ArithmeticError
import HandS.ExcOwn
import KE.KIsAll
import KE.Datum
import PySem.Challenge.RW_dialroad_k51_lengths_by_search
set_option Elab.async false
set_option linter.all false
set_option maxRecDepth 100000
set_option maxHeartbeats 4000000
/-! G: pure values with ownership, over the hand layer. -/
namespace G
open PySem PySem.Spec PyProof.Rows L2

abbrev D := PyData
abbrev FP := Addr → Prop
abbrev fE : FP := fun _ => False
abbrev fU (P R : FP) : FP := fun a => P a ∨ R a
abbrev f1 (a : Addr) : FP := fun b => b = a
def Dis (P R : FP) : Prop := ∀ a, P a → R a → False
/-- the tracked heap, and what in it is frozen -/
structure S where
  H : Hp
  Z : FP
def KL (K : PySem.W.Frag) (a : Addr) (xs : List V) : Prop := SqL K (fun _ => none) a xs
def KT' (K : PySem.W.Frag) (a : Addr) (xs : List V) : Prop := SqT K (fun _ => none) a xs
def LAt (K : PySem.W.Frag) (s : S) (a : Addr) (xs : List V) : Prop := (s.Z a ∧ Rd s.H a (.lst xs)) ∨ KL K a xs
def TAt (K : PySem.W.Frag) (s : S) (a : Addr) (xs : List V) : Prop := (s.Z a ∧ Rd s.H a (.tup xs)) ∨ KT' K a xs
theorem KL.sq {K : PySem.W.Frag} {H : Hp} {a : Addr} {xs : List V} (h : KL K a xs) : SqL K H a xs := by
  rcases h with (h | ⟨_, h⟩) | h
  · cases h
  · cases h
  · exact .inr h
theorem KT'.sq {K : PySem.W.Frag} {H : Hp} {a : Addr} {xs : List V} (h : KT' K a xs) : SqT K H a xs := by
  rcases h with (h | ⟨_, h⟩) | h
  · cases h
  · cases h
  · exact .inr h
theorem LAt.sq {K : PySem.W.Frag} {s : S} {a : Addr} {xs : List V} (h : LAt K s a xs) : SqL K s.H a xs := h.elim (fun q => .inl q.2) KL.sq
theorem TAt.sq {K : PySem.W.Frag} {s : S} {a : Addr} {xs : List V} (h : TAt K s a xs) : SqT K s.H a xs := h.elim (fun q => .inl q.2) KT'.sq
/-- a new tuple, as its object stands -/
def NewT (o : Obj) : Prop := o.cls = .type "tuple" ∧ o.dict = none
/-- items that look like the terms of a polynomial -/
def polyI : D → Bool
  | .tuple (.int _ :: _) => true
  | _ => false
def polyish (ds : List D) : Bool := ds.all polyI
/-- a tuple that is known by its object: frozen so, or one of the written part -/
def GoodT (K : PySem.W.Frag) (s : S) (a : Addr) : Prop := (s.Z a ∧ ∃ o w, NewT o ∧ Rd s.H a (.frz o w)) ∨ ∃ o, K.lookup a = some o ∧ NewT o
def kD : Key → D
  | .inl i => .int i
  | .inr x => .str x
mutual
inductive Rep (K : PySem.W.Frag) (s : S) : V → D → Prop
  | non : Rep K s .non .none
  | bl (b : Bool) : Rep K s (.bl b) (.bool b)
  | int (i : Int) : Rep K s (.int i) (.int i)
  | str (x : Str) : Rep K s (.str x) (.str x)
  | lst {a : Addr} {xs : List V} {ds : List D} : LAt K s a xs → RepL K s xs ds → Rep K s (.ref a) (.list ds)
  | tup {a : Addr} {xs : List V} {ds : List D} : TAt K s a xs → RepL K s xs ds → (polyish ds = true → GoodT K s a) → Rep K s (.ref a) (.tuple ds)
  | dic {a : Addr} {kvs : List (Key × V)} {es : List (D × D)} : s.Z a → Rd s.H a (.dK kvs) → RepK K s kvs es → Rep K s (.ref a) (.dict es)
inductive RepL (K : PySem.W.Frag) (s : S) : List V → List D → Prop
  | nil : RepL K s [] []
  | cons {v : V} {vs : List V} {d : D} {ds : List D} : Rep K s v d → RepL K s vs ds → RepL K s (v :: vs) (d :: ds)
inductive RepK (K : PySem.W.Frag) (s : S) : List (Key × V) → List (D × D) → Prop
  | nil : RepK K s [] []
  | cons {k : Key} {v : V} {vs : List (Key × V)} {d : D} {ds : List (D × D)} : Rep K s v d → RepK K s vs ds → RepK K s ((k, v) :: vs) ((kD k, d) :: ds)
end
/-- what is frozen stays -/
structure Fz (s s' : S) : Prop where
  z : ∀ a, s.Z a → s'.Z a
  r : ∀ a u, s.Z a → Rd s.H a u → Rd s'.H a u
theorem Fz.refl (s : S) : Fz s s := ⟨fun _ h => h, fun _ _ _ h => h⟩
theorem Fz.trans {a b c : S} (h : Fz a b) (g : Fz b c) : Fz a c := ⟨fun x q => g.z x (h.z x q), fun x u z r => g.r x u (h.z x z) (h.r x u z r)⟩
theorem GoodT.mono {K : PySem.W.Frag} {s s' : S} (f : Fz s s') {a : Addr} (h : GoodT K s a) : GoodT K s' a := h.elim (fun ⟨z, o, w, n, r⟩ => .inl ⟨f.z _ z, o, w, n, f.r _ _ z r⟩) .inr
theorem LAt.mono {K : PySem.W.Frag} {s s' : S} (f : Fz s s') {a : Addr} {xs : List V} (h : LAt K s a xs) : LAt K s' a xs := h.elim (fun q => .inl ⟨f.z _ q.1, f.r _ _ q.1 q.2⟩) .inr
theorem TAt.mono {K : PySem.W.Frag} {s s' : S} (f : Fz s s') {a : Addr} {xs : List V} (h : TAt K s a xs) : TAt K s' a xs := h.elim (fun q => .inl ⟨f.z _ q.1, f.r _ _ q.1 q.2⟩) .inr
mutual
theorem Rep.mono {K : PySem.W.Frag} {s s' : S} (f : Fz s s') : ∀ (d : D) (v : V), Rep K s v d → Rep K s' v d
  | .none, _, h => by cases h; exact .non
  | .bool _, _, h => by cases h; exact .bl _
  | .int _, _, h => by cases h; exact .int _
  | .str _, _, h => by cases h; exact .str _
  | .list ds, _, h => by
    cases h with
    | lst h1 h2 => exact .lst (h1.mono f) (RepL.mono f ds _ h2)
  | .tuple ds, _, h => by
    cases h with
    | tup h1 h2 h3 => exact .tup (h1.mono f) (RepL.mono f ds _ h2) fun q => (h3 q).mono f
  | .dict es, _, h => by
    cases h with
    | dic h1 h2 h3 => exact .dic (f.z _ h1) (f.r _ _ h1 h2) (RepK.mono f es _ h3)
theorem RepL.mono {K : PySem.W.Frag} {s s' : S} (f : Fz s s') : ∀ (ds : List D) (vs : List V), RepL K s vs ds → RepL K s' vs ds
  | [], _, h => by cases h; exact .nil
  | d :: ds, _, h => by
    cases h with
    | cons h1 h2 => exact .cons (Rep.mono f d _ h1) (RepL.mono f ds _ h2)
theorem RepK.mono {K : PySem.W.Frag} {s s' : S} (f : Fz s s') : ∀ (es : List (D × D)) (kvs : List (Key × V)), RepK K s kvs es → RepK K s' kvs es
  | [], _, h => by cases h; exact .nil
  | (_, d) :: es, _, h => by
    cases h with
    | cons h1 h2 => exact .cons (Rep.mono f d _ h1) (RepK.mono f es _ h2)
end
theorem RepL.length {K : PySem.W.Frag} {s : S} : ∀ {ds : List D} {vs : List V}, RepL K s vs ds → vs.length = ds.length
  | [], _, h => by cases h; rfl
  | d :: ds, _, h => by
    cases h with
    | cons h1 h2 => simp [RepL.length h2]
theorem RepL.get {K : PySem.W.Frag} {s : S} : ∀ {ds : List D} {vs : List V}, RepL K s vs ds → ∀ {i : Nat} {v : V}, vs[i]? = some v → ∃ d, ds[i]? = some d ∧ Rep K s v d
  | [], _, h, i, v, e => by cases h; simp at e
  | d :: ds, _, h, i, v, e => by
    cases h with
    | cons h1 h2 =>
      cases i with
      | zero => simp at e; subst e; exact ⟨d, rfl, h1⟩
      | succ i => simpa using RepL.get h2 (i := i) (by simpa using e)
theorem RepL.get' {K : PySem.W.Frag} {s : S} {ds : List D} {vs : List V} (h : RepL K s vs ds) {i : Nat} {d : D} (e : ds[i]? = some d) : ∃ v, vs[i]? = some v ∧ Rep K s v d := by
  have hl := h.length
  have hi : i < ds.length := (List.getElem?_eq_some_iff.mp e).1
  have ev : vs[i]? = some (vs[i]'(by omega)) := by simp [hl, hi]
  obtain ⟨d', e', r⟩ := h.get ev
  rw [e] at e'; cases e'
  exact ⟨_, ev, r⟩
theorem RepL.append {K : PySem.W.Frag} {s : S} : ∀ {vs ws : List V} {ds es : List D}, RepL K s vs ds → RepL K s ws es → RepL K s (vs ++ ws) (ds ++ es)
  | _, _, _, _, .nil, h => h
  | _, _, _, _, .cons h t, g => .cons h (t.append g)
theorem RepL.take {K : PySem.W.Frag} {s : S} : ∀ {vs : List V} {ds : List D} (n : Nat), RepL K s vs ds → RepL K s (vs.take n) (ds.take n)
  | _, _, 0, _ => by simpa using RepL.nil
  | _, _, n + 1, .nil => .nil
  | _, _, n + 1, .cons h t => .cons h (t.take n)
theorem RepL.drop {K : PySem.W.Frag} {s : S} : ∀ {vs : List V} {ds : List D} (n : Nat), RepL K s vs ds → RepL K s (vs.drop n) (ds.drop n)
  | _, _, 0, h => h
  | _, _, n + 1, .nil => .nil
  | _, _, n + 1, .cons h t => t.drop n
theorem RepL.reverse {K : PySem.W.Frag} {s : S} : ∀ {vs : List V} {ds : List D}, RepL K s vs ds → RepL K s vs.reverse ds.reverse
  | _, _, .nil => .nil
  | _, _, .cons h t => by simpa using t.reverse.append (.cons h .nil)
theorem RepL.set {K : PySem.W.Frag} {s : S} : ∀ {vs : List V} {ds : List D} (i : Nat) {v : V} {d : D}, RepL K s vs ds → Rep K s v d → RepL K s (vs.set i v) (ds.set i d)
  | _, _, _, _, _, .nil, _ => .nil
  | _, _, 0, _, _, .cons _ t, h => .cons h t
  | _, _, i + 1, _, _, .cons q t, h => .cons q (t.set i h)
theorem RepL.eraseIdx {K : PySem.W.Frag} {s : S} : ∀ {vs : List V} {ds : List D} (i : Nat), RepL K s vs ds → RepL K s (vs.eraseIdx i) (ds.eraseIdx i)
  | _, _, _, .nil => .nil
  | _, _, 0, .cons _ t => t
  | _, _, i + 1, .cons q t => .cons q (t.eraseIdx i)
theorem RepL.ints {K : PySem.W.Frag} {s : S} : ∀ (ns : List Int), RepL K s (ns.map V.int) (ns.map PyData.int)
  | [] => .nil
  | n :: ns => .cons (.int n) (RepL.ints ns)
/-- ints alone -/
def allI : List D → Option (List Int)
  | [] => some []
  | .int i :: r => (allI r).map (i :: ·)
  | _ :: _ => none
theorem allI_some : ∀ {ds : List D} {ns : List Int}, allI ds = some ns → ds = ns.map PyData.int
  | [], ns, h => by simp [allI] at h; subst h; rfl
  | .int i :: r, ns, h => by
    simp only [allI, Option.map_eq_some_iff] at h
    obtain ⟨m, h1, rfl⟩ := h
    simp [allI_some h1]
  | .none :: _, _, h => by simp [allI] at h
  | .bool _ :: _, _, h => by simp [allI] at h
  | .str _ :: _, _, h => by simp [allI] at h
  | .list _ :: _, _, h => by simp [allI] at h
  | .tuple _ :: _, _, h => by simp [allI] at h
  | .dict _ :: _, _, h => by simp [allI] at h
theorem allI_map (ns : List Int) : allI (ns.map PyData.int) = some ns := by
  induction ns with
  | nil => rfl
  | cons n ns ih => simp [allI, ih]
theorem RepL.of_ints {K : PySem.W.Frag} {s : S} : ∀ {ns : List Int} {vs : List V}, RepL K s vs (ns.map PyData.int) → vs = ns.map V.int
  | [], _, h => by cases h; rfl
  | n :: ns, _, h => by
    cases h with
    | cons h1 h2 => cases h1; simp [RepL.of_ints h2]

/-! ### owned values -/
inductive OV where
  | fz (d : D)
  | oL (ds : List D)
  | oD (kvs : List (Key × D))
  | oN (os : List OV)
  | oI (C : Addr) (fs : List (Str × OV))
  | oT (os : List OV)
  | oK (kvs : List (D × OV))
  | fK (kvs : List (D × OV))
  | fI (C : Addr) (fs : List (Str × OV))
  | eX (c : Str) (ds : List (Str × D))
mutual
def nkOf : D → Option NestedKey
  | .int i => some (.num i)
  | .tuple ds => (nkOfs ds).map .tup
  | _ => none
def nkOfs : List D → Option (List NestedKey)
  | [] => some []
  | d :: ds => match nkOf d, nkOfs ds with
    | some k, some ks => some (k :: ks)
    | _, _ => none
end
mutual
def khash : NestedKey → Int
  | .none => 0
  | .num i => hashInt i
  | .text _ => 0
  | .tup ks => reduceHash (Builtin.Tuple.tupleHashOf (khashs ks))
def khashs : List NestedKey → List Int
  | [] => []
  | k :: ks => khash k :: khashs ks
end
abbrev Trip := NestedKey × Addr × Value
def kent (x : Trip) : DictEntry := ⟨khash x.1, .ref x.2.1, x.2.2⟩
/-- exactly this object stands at a -/
def dNo (a : Addr) (o : Obj) : HO := .ext fun h => h.get? a = some o
/-- an object that is a dict with these entries -/
structure DObj (a : Addr) (o : Obj) (xs : List Trip) : Prop where
  sm : (a == sysModules) = false
  ed : o.ExactDict
  dt : ∃ es ep, o.data = .dict es ep ∧ es.toList = xs.map kent
  nd : (xs.map (·.1)).Nodup
  len : xs.length ≤ 16000000
/-- a caught exception of the class at C stands at a, its dict at od -/
def exH (C : Addr) (od : Option Addr) (a : Addr) : HO := .ext fun h => ∃ oe vs, h.get? a = some oe ∧ oe.cls = .ref C ∧ oe.dict = od ∧ oe.data = .fields vs
/-- its fields -/
def FldOk (K : PySem.W.Frag) (s : S) (vs : List (Str × V)) (ds : List (Str × D)) : Prop := ∀ f d, ds.lookup f = some d → ∃ v, vs.lookup f = some v ∧ Rep K s v d
def DxOk (K : PySem.W.Frag) (s : S) (od : Option Addr) (ds : List (Str × D)) : Prop := (od = none ∧ ds = []) ∨ ∃ dx vs, od = some dx ∧ s.Z dx ∧ Rd s.H dx (.xd vs) ∧ FldOk K s vs ds
theorem DxOk.mono {K : PySem.W.Frag} {s s' : S} (f : Fz s s') {od : Option Addr} {ds : List (Str × D)} (h : DxOk K s od ds) : DxOk K s' od ds := by
  rcases h with h | ⟨dx, vs, h1, h2, h3, h4⟩
  · exact .inl h
  · exact .inr ⟨dx, vs, h1, f.z _ h2, f.r _ _ h2 h3, fun x d q => let ⟨v, a, b⟩ := h4 x d q; ⟨v, a, b.mono f⟩⟩
inductive RepO' (K : PySem.W.Frag) (s : S) : List (Key × V) → List (Key × D) → Prop
  | nil : RepO' K s [] []
  | cons {k : Key} {v : V} {vs : List (Key × V)} {d : D} {ds : List (Key × D)} : Rep K s v d → RepO' K s vs ds → RepO' K s ((k, v) :: vs) ((k, d) :: ds)
mutual
inductive RepO (K : PySem.W.Frag) (s : S) : OV → V → FP → Prop
  | fz {v : V} {d : D} : Rep K s v d → RepO K s (.fz d) v fE
  | oL {a : Addr} {vs : List V} {ds : List D} : s.H a = some (.lst vs) → RepL K s vs ds → RepO K s (.oL ds) (.ref a) (f1 a)
  | oD {a : Addr} {vs : List (Key × V)} {ds : List (Key × D)} : s.H a = some (.dK vs) → RepO' K s vs ds → RepO K s (.oD ds) (.ref a) (f1 a)
  | oN {a : Addr} {vs : List V} {os : List OV} {P : FP} : s.H a = some (.lst vs) → RepOs K s os vs P → ¬ P a → RepO K s (.oN os) (.ref a) (fU (f1 a) P)
  | oI {a C dx : Addr} {fs : List (Str × V)} {os : List (Str × OV)} {P : FP} : s.H a = some (.ins C dx fs) → RepOf K s os fs P → ¬ P a → RepO K s (.oI C os) (.ref a) (fU (f1 a) P)
  | oT {a : Addr} {vs : List V} {os : List OV} {P : FP} : s.Z a → Rd s.H a (.tup vs) → RepOs K s os vs P → RepO K s (.oT os) (.ref a) P
  | oK {a : Addr} {o : Obj} {xs : List Trip} {kvs : List (D × OV)} {P : FP} : s.H a = some (dNo a o) → DObj a o xs → RepOk K s kvs xs P → ¬ P a → RepO K s (.oK kvs) (.ref a) (fU (f1 a) P)
  | fK {a : Addr} {o : Obj} {xs : List Trip} {kvs : List (D × OV)} {P : FP} : s.Z a → Rd s.H a (dNo a o) → DObj a o xs → RepOk K s kvs xs P → (∀ x, ¬ P x) → RepO K s (.fK kvs) (.ref a) fE
  | fI {a C dx : Addr} {fs : List (Str × V)} {os : List (Str × OV)} {P : FP} : s.Z a → Rd s.H a (.ins C dx fs) → RepOf K s os fs P → (∀ x, ¬ P x) → RepO K s (.fI C os) (.ref a) fE
  | eX {a C : Addr} {c : Str} {od : Option Addr} {ds : List (Str × D)} : s.Z a → Rd s.H a (exH C od a) → PySem.W.nsIn K mainGlobals c = some (some (.ref C)) → DxOk K s od ds → RepO K s (.eX c ds) (.ref a) fE
inductive RepOk (K : PySem.W.Frag) (s : S) : List (D × OV) → List Trip → FP → Prop
  | nil : RepOk K s [] [] fE
  | cons {d : D} {k : NestedKey} {q : Addr} {u : Value} {v : V} {o : OV} {os : List (D × OV)} {xs : List Trip} {P R : FP} : nkOf d = some k → k.depth ≤ 8 → Rep K s (.ref q) d → RelV v u → RepO K s o v P → RepOk K s os xs R → Dis P R → RepOk K s ((d, o) :: os) ((k, q, u) :: xs) (fU P R)
inductive RepOs (K : PySem.W.Frag) (s : S) : List OV → List V → FP → Prop
  | nil : RepOs K s [] [] fE
  | cons {o : OV} {os : List OV} {v : V} {vs : List V} {P R : FP} : RepO K s o v P → RepOs K s os vs R → Dis P R → RepOs K s (o :: os) (v :: vs) (fU P R)
inductive RepOf (K : PySem.W.Frag) (s : S) : List (Str × OV) → List (Str × V) → FP → Prop
  | nil : RepOf K s [] [] fE
  | cons {f : Str} {o : OV} {os : List (Str × OV)} {v : V} {vs : List (Str × V)} {P R : FP} : RepO K s o v P → RepOf K s os vs R → Dis P R → RepOf K s ((f, o) :: os) ((f, v) :: vs) (fU P R)
end
theorem RepO'.mono {K : PySem.W.Frag} {s s' : S} (f : Fz s s') : ∀ {vs : List (Key × V)} {ds : List (Key × D)}, RepO' K s vs ds → RepO' K s' vs ds
  | _, _, .nil => .nil
  | _, _, .cons h t => .cons (h.mono f) (t.mono f)
/-- what is owned stays: the same heap there -/
structure Kp (P : FP) (s s' : S) : Prop where
  f : Fz s s'
  k : ∀ a, P a → s'.H a = s.H a
theorem Kp.l {P R : FP} {s s' : S} (h : Kp (fU P R) s s') : Kp P s s' := ⟨h.f, fun a q => h.k a (.inl q)⟩
theorem Kp.r {P R : FP} {s s' : S} (h : Kp (fU P R) s s') : Kp R s s' := ⟨h.f, fun a q => h.k a (.inr q)⟩
theorem Kp.sub {P R : FP} {s s' : S} (h : Kp P s s') (i : ∀ a, R a → P a) : Kp R s s' := ⟨h.f, fun a q => h.k a (i a q)⟩
mutual
theorem RepO.mono {K : PySem.W.Frag} {s s' : S} : ∀ (o : OV) (v : V) (P : FP), RepO K s o v P → Kp P s s' → RepO K s' o v P
  | .fz _, _, _, h, k => by
    cases h with
    | fz h => exact .fz (h.mono k.f)
  | .oL _, _, _, h, k => by
    cases h with
    | oL h1 h2 => exact .oL ((k.k _ rfl).trans h1) (h2.mono k.f)
  | .oD _, _, _, h, k => by
    cases h with
    | oD h1 h2 => exact .oD ((k.k _ rfl).trans h1) (h2.mono k.f)
  | .oN os, _, _, h, k => by
    cases h with
    | oN h1 h2 h3 => exact .oN ((k.l.k _ rfl).trans h1) (RepOs.mono os _ _ h2 k.r) h3
  | .oI C os, _, _, h, k => by
    cases h with
    | oI h1 h2 h3 => exact .oI ((k.l.k _ rfl).trans h1) (RepOf.mono os _ _ h2 k.r) h3
  | .oT os, _, _, h, k => by
    cases h with
    | oT h1 h2 h3 => exact .oT (k.f.z _ h1) (k.f.r _ _ h1 h2) (RepOs.mono os _ _ h3 k)
  | .oK kvs, _, _, h, k => by
    cases h with
    | oK h1 h2 h3 h4 => exact .oK ((k.l.k _ rfl).trans h1) h2 (RepOk.mono kvs _ _ h3 k.r) h4
  | .fK kvs, _, _, h, k => by
    cases h with
    | fK h1 h2 h3 h4 h5 => exact .fK (k.f.z _ h1) (k.f.r _ _ h1 h2) h3 (RepOk.mono kvs _ _ h4 ⟨k.f, fun a q => (h5 a q).elim⟩) h5
  | .fI C os, _, _, h, k => by
    cases h with
    | fI h1 h2 h3 h4 => exact .fI (k.f.z _ h1) (k.f.r _ _ h1 h2) (RepOf.mono os _ _ h3 ⟨k.f, fun a q => (h4 a q).elim⟩) h4
  | .eX c ds, _, _, h, k => by
    cases h with
    | eX h1 h2 h3 h4 => exact .eX (k.f.z _ h1) (k.f.r _ _ h1 h2) h3 (h4.mono k.f)
theorem RepOk.mono {K : PySem.W.Frag} {s s' : S} : ∀ (os : List (D × OV)) (vs : List Trip) (P : FP), RepOk K s os vs P → Kp P s s' → RepOk K s' os vs P
  | [], _, _, h, _ => by cases h; exact .nil
  | (_, o) :: os, _, _, h, k => by
    cases h with
    | cons h1 h2 h3 h4 h5 h6 h7 => exact .cons h1 h2 (Rep.mono k.f _ _ h3) h4 (RepO.mono o _ _ h5 k.l) (RepOk.mono os _ _ h6 k.r) h7
theorem RepOs.mono {K : PySem.W.Frag} {s s' : S} : ∀ (os : List OV) (vs : List V) (P : FP), RepOs K s os vs P → Kp P s s' → RepOs K s' os vs P
  | [], _, _, h, _ => by cases h; exact .nil
  | o :: os, _, _, h, k => by
    cases h with
    | cons h1 h2 h3 => exact .cons (RepO.mono o _ _ h1 k.l) (RepOs.mono os _ _ h2 k.r) h3
theorem RepOf.mono {K : PySem.W.Frag} {s s' : S} : ∀ (os : List (Str × OV)) (vs : List (Str × V)) (P : FP), RepOf K s os vs P → Kp P s s' → RepOf K s' os vs P
  | [], _, _, h, _ => by cases h; exact .nil
  | (_, o) :: os, _, _, h, k => by
    cases h with
    | cons h1 h2 h3 => exact .cons (RepO.mono o _ _ h1 k.l) (RepOf.mono os _ _ h2 k.r) h3
end
/-- a value frozen: lists and dicts of frozen things -/
def OV.frz : OV → Option D
  | .fz d => some d
  | .oL ds => some (.list ds)
  | .oD kvs => some (.dict (kvs.map fun p => (kD p.1, p.2)))
  | _ => none
theorem RepO'.toK {K : PySem.W.Frag} {s : S} : ∀ {vs : List (Key × V)} {ds : List (Key × D)}, RepO' K s vs ds → RepK K s vs (ds.map fun p => (kD p.1, p.2))
  | _, _, .nil => .nil
  | _, _, .cons h t => .cons h t.toK
theorem RepO.freeze {K : PySem.W.Frag} {s : S} {o : OV} {v : V} {P : FP} {d : D} (h : RepO K s o v P) (e : o.frz = some d) {Z' : FP} (hz : ∀ a, s.Z a → Z' a) (hp : ∀ a, P a → Z' a) : Rep K ⟨s.H, Z'⟩ v d := by
  have f : Fz s ⟨s.H, Z'⟩ := ⟨hz, fun _ _ _ r => r⟩
  cases h with
  | fz h => cases e; exact h.mono f
  | oL h1 h2 => cases e; exact .lst (.inl ⟨hp _ rfl, .inl h1⟩) (h2.mono f)
  | oD h1 h2 => cases e; exact .dic (hp _ rfl) (.inl h1) (h2.mono f).toK
  | oN h1 h2 h3 => cases e
  | oI h1 h2 h3 => cases e
  | oT _ _ _ => cases e
  | oK _ _ _ _ => cases e
  | fK _ _ _ _ _ => cases e
  | fI _ _ _ _ => cases e
  | eX _ _ _ _ => cases e
theorem RepO.cast {K : PySem.W.Frag} {s : S} {o : OV} {v : V} {P R : FP} (h : RepO K s o v P) (e : ∀ a, P a ↔ R a) : RepO K s o v R := by
  have : P = R := funext fun a => propext (e a)
  exact this ▸ h
/-- every owned address holds something; so does every frozen one -/
structure Own (P : FP) (s : S) : Prop where
  o : ∀ a, P a → ¬ s.Z a ∧ s.H a ≠ none
  w : ∀ a, s.Z a → s.H a ≠ none
/-- a step from footprint P to footprint P' -/
structure Ext (P : FP) (s : S) (P' : FP) (s' : S) : Prop where
  keep : ∀ a o, s.H a = some o → ¬ P a → ¬ s.Z a → s'.H a = some o
  frz : ∀ a u, s.Z a → Rd s.H a u → Rd s'.H a u
  zz : ∀ a, s.Z a → s'.Z a
  zo : ∀ a, s'.Z a → s.Z a ∨ P a ∨ s.H a = none
  po : ∀ a, P' a → P a ∨ s.H a = none
  dom : ∀ a, s'.H a = none → s.H a = none
  wf : ∀ a, s'.Z a → s.Z a ∨ s'.H a ≠ none
theorem Ext.fz {P P' : FP} {s s' : S} (e : Ext P s P' s') : Fz s s' := ⟨e.zz, e.frz⟩
theorem Ext.refl (P : FP) (s : S) : Ext P s P s := ⟨fun _ _ h _ _ => h, fun _ _ _ h => h, fun _ h => h, fun _ h => .inl h, fun _ h => .inl h, fun _ h => h, fun _ h => .inl h⟩
theorem Ext.trans {P P1 P2 : FP} {s s1 s2 : S} (a : Ext P s P1 s1) (b : Ext P1 s1 P2 s2) : Ext P s P2 s2 where
  keep := fun x o h n z => b.keep x o (a.keep x o h n z) (fun q => (a.po x q).elim n fun q => by rw [h] at q; cases q) (fun q => by
    rcases a.zo x q with q | q | q
    · exact z q
    · exact n q
    · rw [h] at q; cases q)
  frz := fun x u z r => b.frz x u (a.zz x z) (a.frz x u z r)
  zz := fun x z => b.zz x (a.zz x z)
  zo := fun x z => by
    rcases b.zo x z with q | q | q
    · exact a.zo x q
    · exact (a.po x q).elim (fun q => .inr (.inl q)) fun q => .inr (.inr q)
    · exact .inr (.inr (a.dom x q))
  po := fun x q => (b.po x q).elim (a.po x) fun q => .inr (a.dom x q)
  dom := fun x q => a.dom x (b.dom x q)
  wf := fun x z => (b.wf x z).elim (fun z => (a.wf x z).imp_right fun n q => n (b.dom x q)) .inr
theorem Ext.sub {P P' R : FP} {s s' : S} (a : Ext P s P' s') (h : ∀ x, R x → P' x) : Ext P s R s' := ⟨a.keep, a.frz, a.zz, a.zo, fun x q => a.po x (h x q), a.dom, a.wf⟩
theorem Own.sub {P R : FP} {s : S} (a : Own P s) (h : ∀ x, R x → P x) : Own R s := ⟨fun x q => a.o x (h x q), a.w⟩
theorem Own.or {P R : FP} {s : S} (a : Own P s) (b : Own R s) : Own (fU P R) s := ⟨fun x q => q.elim (a.o x) (b.o x), a.w⟩
/-- what is beside the footprint -/
theorem Ext.kp {P P' R : FP} {s s' : S} (e : Ext P s P' s') (d : Dis P R) (o : Own R s) : Kp R s s' := ⟨e.fz, fun a r => by
  obtain ⟨nz, nn⟩ := o.o a r
  cases q : s.H a with
  | none => exact absurd q nn
  | some u => exact e.keep a u q (fun p => d a p r) nz⟩
theorem Ext.ownR {P P' R : FP} {s s' : S} (e : Ext P s P' s') (d : Dis P R) (o : Own R s) : Own R s' := ⟨fun a r => by
  obtain ⟨nz, nn⟩ := o.o a r
  refine ⟨fun z => ?_, fun q => nn (e.dom a q)⟩
  rcases e.zo a z with q | q | q
  · exact nz q
  · exact d a q r
  · exact nn q, fun a z => (e.wf a z).elim (fun z q => o.w a z (e.dom a q)) id⟩
theorem Ext.disR {P P' R : FP} {s s' : S} (e : Ext P s P' s') (d : Dis P R) (o : Own R s) : Dis P' R := fun a p r => (e.po a p).elim (fun p => d a p r) fun q => (o.o a r).2 q
theorem Ext.frame {P P' R : FP} {s s' : S} (e : Ext P s P' s') : Ext (fU P R) s (fU P' R) s' :=
  ⟨fun a o h n z => e.keep a o h (fun p => n (.inl p)) z, e.frz, e.zz, fun a z => (e.zo a z).elim .inl fun q => q.elim (fun p => .inr (.inl (.inl p))) fun q => .inr (.inr q),
    fun a q => q.elim (fun p => (e.po a p).elim (fun p => .inl (.inl p)) .inr) fun r => .inl (.inr r), e.dom, e.wf⟩
theorem Ext.wide {P P' R : FP} {s s' : S} (e : Ext P s P' s') (h : ∀ x, P x → R x) : Ext R s P' s' :=
  ⟨fun a o q n z => e.keep a o q (fun p => n (h a p)) z, e.frz, e.zz, fun a z => (e.zo a z).elim .inl fun q => q.elim (fun p => .inr (.inl (h a p))) fun q => .inr (.inr q), fun a q => (e.po a q).elim (fun p => .inl (h a p)) .inr, e.dom, e.wf⟩
/-- a new object, owned -/
theorem Ext.new {P : FP} {s : S} {a : Addr} {u : HO} (hn : s.H a = none) : Ext P s (fU P (f1 a)) ⟨upd s.H a u, s.Z⟩ where
  keep := fun x o h _ _ => by
    show upd s.H a u x = some o
    rw [upd_ne (ne_of_none h hn)]; exact h
  frz := fun x o _ r => by
    rcases r with r | ⟨q, r⟩
    · exact .inl ((upd_ne (ne_of_none r hn)).trans r)
    · exact .inr ⟨q, (upd_ne (ne_of_none r hn)).trans r⟩
  zz := fun _ h => h
  zo := fun _ h => .inl h
  po := fun x q => q.elim .inl fun q => .inr (by cases q; exact hn)
  dom := fun x q => by
    by_cases e : x = a
    · subst e; exact hn
    · exact (upd_ne e).symm.trans q
  wf := fun _ h => .inl h
/-- a new object, frozen -/
theorem Ext.newz {P : FP} {s : S} {a : Addr} {u : HO} (hn : s.H a = none) : Ext P s P ⟨upd s.H a u, fU s.Z (f1 a)⟩ where
  keep := (Ext.new (P := P) (u := u) hn).keep
  frz := (Ext.new (P := P) (u := u) hn).frz
  zz := fun _ h => .inl h
  zo := fun x h => h.elim .inl fun q => .inr (.inr (by cases q; exact hn))
  po := fun _ q => .inl q
  dom := (Ext.new (P := P) (u := u) hn).dom
  wf := fun x h => h.imp_right fun q z => by
    have q : x = a := q
    subst q
    have z' : upd s.H x u x = none := z
    rw [upd_same] at z'; cases z'
/-- a part of the footprint frozen -/
theorem Ext.freeze {P R : FP} {s : S} (w : Own P s) (h : ∀ a, R a → P a) : Ext P s (fun a => P a ∧ ¬ R a) ⟨s.H, fU s.Z R⟩ :=
  ⟨fun _ _ h _ _ => h, fun _ _ _ r => r, fun _ z => .inl z, fun a z => z.elim .inl fun q => .inr (.inl (h a q)), fun _ q => .inl q.1, fun _ q => q, fun a z => z.imp_right fun q => (w.o a (h a q)).2⟩
/-- an owned object written -/
theorem Ext.write {P : FP} {s : S} {a : Addr} {u : HO} (w : Own P s) (h : P a) : Ext P s P ⟨upd s.H a u, s.Z⟩ where
  keep := fun x o q n _ => by
    show upd s.H a u x = some o
    have hx : x ≠ a := fun e => n (by rw [e]; exact h)
    rw [upd_ne hx]; exact q
  frz := fun x o z r => by
    have hx : x ≠ a := fun e => (w.o a h).1 (by rw [← e]; exact z)
    rcases r with r | ⟨q, r⟩
    · exact .inl ((upd_ne hx).trans r)
    · exact .inr ⟨q, (upd_ne hx).trans r⟩
  zz := fun _ h => h
  zo := fun _ h => .inl h
  po := fun _ q => .inl q
  dom := fun x q => by
    by_cases e : x = a
    · subst e
      have q' : upd s.H x u x = none := q
      rw [upd_same] at q'; cases q'
    · exact (upd_ne e).symm.trans q
  wf := fun _ h => .inl h
end G
namespace G
open PySem PySem.Spec PyProof.Rows L2

abbrev Env := List (Option OV)
def lk (e : Env) (i : Nat) : Option OV := (e[i]?).join
theorem lk_some {e : Env} {i : Nat} {o : OV} : lk e i = some o ↔ e[i]? = some (some o) := by
  unfold lk
  cases h : e[i]? with
  | none => simp
  | some x => cases x <;> simp
@[simp] theorem lk_zero {x : Option OV} {e : Env} : lk (x :: e) 0 = x := by cases x <;> rfl
@[simp] theorem lk_succ {x : Option OV} {e : Env} {i : Nat} : lk (x :: e) (i + 1) = lk e i := rfl
structure EnvAt (K : PySem.W.Frag) (s : S) (σ : L2.St) (e : Env) (f : Nat → FP) : Prop where
  len : σ.length = e.length
  val : ∀ i o, lk e i = some o → ∃ v, σ[i]? = some (some v) ∧ RepO K s o v (f i)
  no : ∀ i, lk e i = none → ∀ a, ¬ f i a
  inj : ∀ i j a, f i a → f j a → i = j
def EnvOk (K : PySem.W.Frag) (s : S) (σ : L2.St) (e : Env) (P : FP) : Prop := ∃ f, EnvAt K s σ e f ∧ ∀ a, P a ↔ ∃ i, f i a
theorem EnvOk.len {K : PySem.W.Frag} {s : S} {σ : L2.St} {e : Env} {P : FP} (h : EnvOk K s σ e P) : σ.length = e.length := let ⟨_, a, _⟩ := h; a.len
theorem EnvAt.mono {K : PySem.W.Frag} {s s' : S} {σ : L2.St} {e : Env} {f : Nat → FP} (h : EnvAt K s σ e f) (k : ∀ i, Kp (f i) s s') : EnvAt K s' σ e f :=
  ⟨h.len, fun i o q => let ⟨v, h1, h2⟩ := h.val i o q; ⟨v, h1, h2.mono _ _ _ (k i)⟩, h.no, h.inj⟩
theorem EnvOk.mono {K : PySem.W.Frag} {s s' : S} {σ : L2.St} {e : Env} {P : FP} (h : EnvOk K s σ e P) (k : Kp P s s') : EnvOk K s' σ e P :=
  let ⟨f, a, hp⟩ := h
  ⟨f, a.mono fun i => k.sub fun x q => (hp x).mpr ⟨i, q⟩, hp⟩
theorem lk_set {e : Env} {i j : Nat} {x : Option OV} (hi : i < e.length) : lk (e.set i x) j = if i = j then x else lk e j := by
  unfold lk
  rw [List.getElem?_set]
  by_cases h : i = j
  · subst h; simp [hi]
  · simp [h]
theorem lk_lt {e : Env} {i : Nat} {o : OV} (h : lk e i = some o) : i < e.length := (List.getElem?_eq_some_iff.mp (lk_some.mp h)).1
/-- a slot stored: any new value with a footprint apart -/
theorem EnvAt.set {K : PySem.W.Frag} {s : S} {σ : L2.St} {e : Env} {f : Nat → FP} (h : EnvAt K s σ e f) {i : Nat} (hi : i < e.length) {o : OV} {v : V} {R : FP} (r : RepO K s o v R) (d : ∀ j a, j ≠ i → f j a → R a → False) :
    EnvAt K s (σ.set i (some v)) (e.set i (some o)) (fun j => if j = i then R else f j) := by
  refine ⟨by simp [h.len], fun j o' q => ?_, fun j q => ?_, fun j k a q1 q2 => ?_⟩
  · rw [lk_set hi] at q
    by_cases e' : i = j
    · subst e'
      rw [if_pos rfl] at q; cases q
      refine ⟨v, by simp [h.len, hi], ?_⟩
      rw [if_pos rfl]; exact r
    · rw [if_neg e'] at q
      obtain ⟨w, h1, h2⟩ := h.val j o' q
      refine ⟨w, by rw [List.getElem?_set_ne e']; exact h1, ?_⟩
      rw [if_neg (Ne.symm e')]; exact h2
  · rw [lk_set hi] at q
    by_cases e' : i = j
    · rw [if_pos e'] at q; cases q
    · rw [if_neg e'] at q
      intro a z
      rw [if_neg (Ne.symm e')] at z
      exact h.no j q a z
  · by_cases e1 : j = i
    · by_cases e2 : k = i
      · rw [e1, e2]
      · rw [if_pos e1] at q1; rw [if_neg e2] at q2
        exact (d k a e2 q2 q1).elim
    · rw [if_neg e1] at q1
      by_cases e2 : k = i
      · rw [if_pos e2] at q2
        exact (d j a e1 q1 q2).elim
      · rw [if_neg e2] at q2
        exact h.inj j k a q1 q2
/-- a slot's content taken or forgotten -/
theorem EnvAt.clear {K : PySem.W.Frag} {s : S} {σ : L2.St} {e : Env} {f : Nat → FP} (h : EnvAt K s σ e f) (i : Nat) : EnvAt K s σ (e.set i none) (fun j => if j = i then fE else f j) := by
  refine ⟨by simp [h.len], fun j o' q => ?_, fun j q a z => ?_, fun j k a q1 q2 => ?_⟩
  · by_cases hi : i < e.length
    · rw [lk_set hi] at q
      by_cases e' : i = j
      · rw [if_pos e'] at q; cases q
      · rw [if_neg e'] at q
        obtain ⟨w, h1, h2⟩ := h.val j o' q
        exact ⟨w, h1, by rw [if_neg (Ne.symm e')]; exact h2⟩
    · rw [List.set_eq_of_length_le (by omega)] at q
      have hj := lk_lt q
      obtain ⟨w, h1, h2⟩ := h.val j o' q
      exact ⟨w, h1, by rw [if_neg (by omega)]; exact h2⟩
  · by_cases e' : j = i
    · rw [if_pos e'] at z; exact z
    · rw [if_neg e'] at z
      refine h.no j ?_ a z
      by_cases hi : i < e.length
      · rw [lk_set hi, if_neg (Ne.symm e')] at q; exact q
      · rw [List.set_eq_of_length_le (by omega)] at q; exact q
  · by_cases e1 : j = i
    · rw [if_pos e1] at q1; exact q1.elim
    · by_cases e2 : k = i
      · rw [if_pos e2] at q2; exact q2.elim
      · rw [if_neg e1] at q1; rw [if_neg e2] at q2
        exact h.inj j k a q1 q2
/-- reading a slot: what is there, what is beside -/
theorem EnvOk.get {K : PySem.W.Frag} {s : S} {σ : L2.St} {e : Env} {P : FP} (h : EnvOk K s σ e P) {i : Nat} {o : OV} (q : lk e i = some o) :
    ∃ v Po R, σ[i]? = some (some v) ∧ RepO K s o v Po ∧ Dis Po R ∧ (∀ a, P a ↔ Po a ∨ R a) ∧ EnvOk K s σ (e.set i none) R ∧
      ∀ s' o' Po', Kp R s s' → RepO K s' o' v Po' → Dis Po' R → EnvOk K s' σ (e.set i (some o')) (fU Po' R) := by
  obtain ⟨f, a, hp⟩ := h
  obtain ⟨v, h1, h2⟩ := a.val i o q
  have hi := lk_lt q
  have hR : ∀ x, (∃ j, j ≠ i ∧ f j x) ↔ ∃ j, (if j = i then fE else f j) x := fun x => by
    constructor
    · rintro ⟨j, n, z⟩
      exact ⟨j, by rw [if_neg n]; exact z⟩
    · rintro ⟨j, z⟩
      by_cases e' : j = i
      · rw [if_pos e'] at z; exact z.elim
      · rw [if_neg e'] at z; exact ⟨j, e', z⟩
  refine ⟨v, f i, fun x => ∃ j, j ≠ i ∧ f j x, h1, h2, fun x z ⟨j, n, w⟩ => n (a.inj j i x w z), fun x => ?_, ⟨_, a.clear i, hR⟩, fun s' o' Po' k r d => ?_⟩
  · rw [hp x]
    constructor
    · rintro ⟨j, z⟩
      by_cases e' : j = i
      · subst e'; exact .inl z
      · exact .inr ⟨j, e', z⟩
    · rintro (z | ⟨j, _, z⟩)
      · exact ⟨_, z⟩
      · exact ⟨_, z⟩
  · have a' : EnvAt K s' σ (e.set i none) (fun j => if j = i then fE else f j) := (a.clear i).mono fun j => k.sub fun x z => by
      by_cases e' : j = i
      · rw [if_pos e'] at z; exact z.elim
      · rw [if_neg e'] at z; exact ⟨j, e', z⟩
    have hσ : σ.set i (some v) = σ := by
      refine List.ext_getElem? fun j => ?_
      by_cases e' : i = j
      · subst e'; rw [List.getElem?_set_self (by rw [a.len]; exact hi)]; exact h1.symm
      · rw [List.getElem?_set_ne e']
    have b := a'.set (i := i) (by simpa using hi) r fun j x n z w => d x w ⟨j, n, by rw [if_neg n] at z; exact z⟩
    rw [hσ, List.set_set] at b
    refine ⟨_, b, fun x => ?_⟩
    constructor
    · rintro (z | ⟨j, n, z⟩)
      · exact ⟨i, by rw [if_pos rfl]; exact z⟩
      · exact ⟨j, by rw [if_neg n, if_neg n]; exact z⟩
    · rintro ⟨j, z⟩
      by_cases e' : j = i
      · rw [if_pos e'] at z; exact .inl z
      · rw [if_neg e', if_neg e'] at z; exact .inr ⟨j, e', z⟩
/-- storing a name -/
theorem EnvOk.put {K : PySem.W.Frag} {s : S} {σ : L2.St} {e : Env} {P R : FP} (h : EnvOk K s σ e P) {i : Nat} (hi : i < e.length) {o : OV} {v : V} (r : RepO K s o v R) (d : Dis P R) :
    ∃ P', EnvOk K s (σ.set i (some v)) (e.set i (some o)) P' ∧ ∀ a, P' a → fU P R a := by
  obtain ⟨f, a, hp⟩ := h
  refine ⟨fun x => ∃ j, (if j = i then R else f j) x, ⟨_, a.set hi r fun j x n z w => d x ((hp x).mpr ⟨j, z⟩) w, fun x => Iff.rfl⟩, fun x ⟨j, z⟩ => ?_⟩
  by_cases e' : j = i
  · rw [if_pos e'] at z; exact .inr z
  · rw [if_neg e'] at z; exact .inl ((hp x).mpr ⟨j, z⟩)
theorem EnvOk.nil_of {K : PySem.W.Frag} {s : S} {σ : L2.St} {e : Env} (hl : σ.length = e.length) (h : ∀ i, lk e i = none) : EnvOk K s σ e fE :=
  ⟨fun _ => fE, ⟨hl, fun i o q => (by rw [h i] at q; cases q), fun _ _ _ z => z, fun _ _ _ z => z.elim⟩, fun a => ⟨fun z => z.elim, fun ⟨_, z⟩ => z.elim⟩⟩
theorem EnvOk.cast {K : PySem.W.Frag} {s : S} {σ : L2.St} {e : Env} {P R : FP} (h : EnvOk K s σ e P) (q : ∀ a, P a ↔ R a) : EnvOk K s σ e R := by
  have : P = R := funext fun a => propext (q a)
  exact (this ▸ h)
/-- freezing a slot -/
theorem EnvOk.freeze {K : PySem.W.Frag} {s : S} {σ : L2.St} {e : Env} {P : FP} (h : EnvOk K s σ e P) (w : Own P s) {i : Nat} {o : OV} (q : lk e i = some o) {d : D} (hd : o.frz = some d) :
    ∃ v s' P', σ[i]? = some (some v) ∧ s'.H = s.H ∧ EnvOk K s' σ (e.set i (some (.fz d))) P' ∧ Own P' s' ∧ Ext P s P' s' ∧ Rep K s' v d := by
  obtain ⟨v, Po, R, h1, h2, h3, h4, h5, h6⟩ := h.get q
  have hz : Rep K ⟨s.H, fU s.Z Po⟩ v d := h2.freeze hd (fun _ z => .inl z) fun _ z => .inr z
  have x : Ext P s (fun a => P a ∧ ¬ Po a) ⟨s.H, fU s.Z Po⟩ := Ext.freeze w fun a z => (h4 a).mpr (.inl z)
  have k : Kp R s ⟨s.H, fU s.Z Po⟩ := ⟨x.fz, fun _ _ => rfl⟩
  have b := h6 ⟨s.H, fU s.Z Po⟩ (.fz d) fE k (.fz hz) fun _ z _ => z
  refine ⟨v, ⟨s.H, fU s.Z Po⟩, fun a => P a ∧ ¬ Po a, h1, rfl, b.cast fun a => ?_, ⟨fun a ⟨z1, z2⟩ => ?_, fun a z => z.elim (w.w a) fun q => (w.o a ((h4 a).mpr (.inl q))).2⟩, x, hz⟩
  · constructor
    · rintro (z | z)
      · exact z.elim
      · exact ⟨(h4 a).mpr (.inr z), fun w => h3 a w z⟩
    · rintro ⟨z1, z2⟩
      exact .inr (((h4 a).mp z1).resolve_left z2)
  · refine ⟨fun z => ?_, (w.o a z1).2⟩
    rcases z with z | z
    · exact (w.o a z1).1 z
    · exact z2 z

/-! ### operands -/
inductive AV where
  | own (o : OV)
  | at (i : Nat)
inductive AvOk (K : PySem.W.Frag) (s : S) (σ : L2.St) : List AV → List V → FP → Prop
  | nil : AvOk K s σ [] [] fE
  | own {o : OV} {v : V} {P R : FP} {as : List AV} {vs : List V} : RepO K s o v P → AvOk K s σ as vs R → Dis P R → AvOk K s σ (.own o :: as) (v :: vs) (fU P R)
  | at {i : Nat} {v : V} {R : FP} {as : List AV} {vs : List V} : σ[i]? = some (some v) → AvOk K s σ as vs R → AvOk K s σ (.at i :: as) (v :: vs) R
theorem AvOk.mono {K : PySem.W.Frag} {s s' : S} {σ : L2.St} : ∀ {as : List AV} {vs : List V} {P : FP}, AvOk K s σ as vs P → Kp P s s' → AvOk K s' σ as vs P
  | _, _, _, .nil, _ => .nil
  | _, _, _, .own h t d, k => .own (h.mono _ _ _ k.l) (t.mono k.r) d
  | _, _, _, .at h t, k => .at h (t.mono k)
def resolve1 (e : Env) : AV → Option OV
  | .own o => some o
  | .at i => lk e i
def resolve (e : Env) : List AV → Option (List OV)
  | [] => some []
  | a :: as => match resolve1 e a with
    | none => none
    | some o => (resolve e as).map (o :: ·)
/-- values and what they are, to be read -/
inductive RdO (K : PySem.W.Frag) (s : S) : List OV → List V → Prop
  | nil : RdO K s [] []
  | cons {o : OV} {v : V} {P : FP} {os : List OV} {vs : List V} : RepO K s o v P → RdO K s os vs → RdO K s (o :: os) (v :: vs)
theorem AvOk.read {K : PySem.W.Frag} {s : S} {σ : L2.St} {e : Env} {P : FP} (h : EnvOk K s σ e P) : ∀ {as : List AV} {vs : List V} {R : FP} {os : List OV}, AvOk K s σ as vs R → resolve e as = some os → RdO K s os vs
  | _, _, _, _, .nil, q => by cases q; exact .nil
  | _, _, _, _, .own (o := o) r t _, q => by
    simp only [resolve, resolve1, Option.map_eq_some_iff] at q
    obtain ⟨os, q, rfl⟩ := q
    exact .cons r (t.read h q)
  | _, _, _, _, .at (i := i) e1 t, q => by
    cases z : lk e i with
    | none => simp [resolve, resolve1, z] at q
    | some o =>
      simp only [resolve, resolve1, z, Option.map_eq_some_iff] at q
      obtain ⟨os, q, rfl⟩ := q
      obtain ⟨v, Po, R, h1, h2, _⟩ := h.get z
      rw [e1] at h1; cases h1
      exact .cons h2 (t.read h q)

/-! ### judgements -/
abbrev ME := Env → Option (OV × Env)
abbrev MV := Env → Option (AV × Env)
abbrev MA := Env → Option (List AV × Env)
/-- behind an expression -/
def PostE (K : PySem.W.Frag) (σ : L2.St) (s : S) (P : FP) (o : OV) (e' : Env) (Q : VK) : Prop :=
  ∀ v s' P' R, EnvOk K s' σ e' P' → RepO K s' o v R → Dis P' R → Own (fU P' R) s' → Ext P s (fU P' R) s' → Q v s'.H
structure DE (X : Cx) (e : Expr) (m : ME) : Prop where
  run : ∃ t, PE X e t ∧ ∀ σ s env P o env', EnvOk X.K s σ env P → Own P s → m env = some (o, env') → ∀ Q, PostE X.K σ s P o env' Q → t σ s.H Q
def PostV (K : PySem.W.Frag) (σ : L2.St) (s : S) (P : FP) (a : AV) (e' : Env) (Q : VK) : Prop :=
  ∀ v s' P' R, EnvOk K s' σ e' P' → AvOk K s' σ [a] [v] R → Dis P' R → Own (fU P' R) s' → Ext P s (fU P' R) s' → Q v s'.H
structure DV (X : Cx) (e : Expr) (m : MV) : Prop where
  run : ∃ t, PE X e t ∧ ∀ σ s env P a env', EnvOk X.K s σ env P → Own P s → m env = some (a, env') → ∀ Q, PostV X.K σ s P a env' Q → t σ s.H Q
def seqT : List TE → TA
  | [] => tNil
  | t :: ts => tCons t (seqT ts)
inductive PEs (X : Cx) : List Expr → List TE → Prop
  | nil : PEs X [] []
  | cons {e : Expr} {t : TE} {es : List Expr} {ts : List TE} : PE X e t → PEs X es ts → PEs X (e :: es) (t :: ts)
def PostA (K : PySem.W.Frag) (σ : L2.St) (s : S) (P : FP) (as : List AV) (e' : Env) (Q : List V → Hp → Prop) : Prop :=
  ∀ vs s' P' R, EnvOk K s' σ e' P' → AvOk K s' σ as vs R → Dis P' R → Own (fU P' R) s' → Ext P s (fU P' R) s' → Q vs s'.H
structure DA (X : Cx) (es : List Expr) (m : MA) : Prop where
  run : ∃ ts, PEs X es ts ∧ PA X es (seqT ts) ∧ ∀ σ s env P as env', EnvOk X.K s σ env P → Own P s → m env = some (as, env') → ∀ Q, PostA X.K σ s P as env' Q → seqT ts σ s.H Q
section
variable {X : Cx} {e : Expr} {es : List Expr}
def mOwn (m : ME) : MV := fun env => match m env with
  | none => none
  | some (o, env') => some (.own o, env')
theorem fU_iff {P : FP} {a : Addr} : fU P fE a ↔ P a := ⟨fun z => z.elim id fun q => q.elim, .inl⟩
theorem fU_eq (P : FP) : fU P fE = P := funext fun a => propext fU_iff
theorem DV.own {m : ME} (h : DE X e m) : DV X e (mOwn m) := by
  obtain ⟨t, hp, hr⟩ := h.run
  refine ⟨t, hp, fun σ s env P a env' he hw hm Q hq => ?_⟩
  unfold mOwn at hm
  split at hm
  · cases hm
  · rename_i o env1 q
    cases hm
    refine hr σ s env P o _ he hw q Q fun v s' P' R h1 h2 h3 h4 h5 => ?_
    have r := AvOk.own h2 (.nil (σ := σ)) (fun _ _ z => z)
    rw [fU_eq] at r
    exact hq v s' P' R h1 r h3 h4 h5
def mAt (i : Nat) : MV := fun env => match lk env i with
  | none => none
  | some _ => some (.at i, env)
theorem DV.at (i : Nat) {x : Str} {pos : Pos} (hN : X.N[i]? = some x := by rfl) (hv : Vis X.env.scope x := by first | exact Or.inl rfl | exact Or.inr (Or.inl rfl) | exact Or.inr (Or.inr rfl)) (hd : (x == ("__debug__" : Str)) = false := by decide)
    (hcd : (x == ("__classdict__" : Str)) = false := by decide) : DV X (.Name x pos) (mAt i) := by
  refine ⟨tVar i, pe_var hN hv hd hcd, fun σ s env P a env' he hw hm Q hq => ?_⟩
  unfold mAt at hm
  split at hm
  · cases hm
  · rename_i o q
    cases hm
    obtain ⟨v, Po, R, h1, _⟩ := he.get q
    exact ⟨v, h1, hq v s P fE he (.at h1 .nil) (fun _ _ z => z) (by rw [fU_eq]; exact hw) (by rw [fU_eq]; exact .refl _ _)⟩
def mNil : MA := fun env => some ([], env)
def mCons (m : MV) (r : MA) : MA := fun env => match m env with
  | none => none
  | some (a, e1) => match r e1 with
    | none => none
    | some (as, e2) => some (a :: as, e2)
theorem DA.nil : DA X [] mNil := ⟨[], .nil, pa_nil, fun σ s env P as env' he hw hm Q hq => by
  cases hm
  exact hq [] s P fE he .nil (fun _ _ z => z) (by rw [fU_eq]; exact hw) (by rw [fU_eq]; exact .refl _ _)⟩
theorem AvOk.app1 {K : PySem.W.Frag} {s : S} {σ : L2.St} {a : AV} {v : V} {as : List AV} {vs : List V} {P R : FP} (h : AvOk K s σ [a] [v] P) (t : AvOk K s σ as vs R) (d : Dis P R) : AvOk K s σ (a :: as) (v :: vs) (fU P R) := by
  cases h with
  | own h t' d' =>
    cases t'
    rename_i P0
    rw [fU_eq] at d ⊢
    exact .own h t d
  | «at» h t' =>
    cases t'
    have e : fU fE R = R := funext fun a => propext ⟨fun z => z.elim (fun q => q.elim) id, .inr⟩
    rw [e]
    exact .at h t
theorem DA.cons {m : MV} {r : MA} (h : DV X e m) (hr : DA X es r) (hs : starEach (e :: es) X.env = (false, eval e X.env) :: starEach es X.env := by rfl) : DA X (e :: es) (mCons m r) := by
  obtain ⟨t, hp, h1⟩ := h.run
  obtain ⟨ts, hps, hpa, h2⟩ := hr.run
  refine ⟨t :: ts, .cons hp hps, pa_cons hp hpa hs, fun σ s env P as env' he hw hm Q hq => ?_⟩
  unfold mCons at hm
  split at hm
  · cases hm
  · rename_i a e1 q1
    split at hm
    · cases hm
    · rename_i as' e2 q2
      cases hm
      refine h1 σ s env P a e1 he hw q1 _ fun v s1 P1 R1 a1 a2 a3 a4 a5 => ?_
      refine h2 σ s1 e1 P1 as' _ a1 (a4.sub fun _ z => .inl z) q2 _ fun vs s2 P2 R2 b1 b2 b3 b4 b5 => ?_
      have o1 : Own R1 s1 := a4.sub fun _ z => .inr z
      have k := b5.kp a3 o1
      have d1 : Dis (fU P2 R2) R1 := b5.disR a3 o1
      have ow := b5.ownR a3 o1
      refine hq (v :: vs) s2 P2 (fU R1 R2) b1 ((a2.mono k).app1 b2 fun x z w => d1 x (.inr w) z) (fun x z w => w.elim (fun w => d1 x (.inl z) w) fun w => b3 x z w) ((b4.or ow).sub fun x z => ?_) ?_
      · rcases z with z | z | z
        · exact .inl (.inl z)
        · exact .inr z
        · exact .inl (.inr z)
      · have := a5.trans b5.frame
        refine this.sub fun x z => ?_
        rcases z with z | z | z
        · exact .inl (.inl z)
        · exact .inr z
        · exact .inl (.inr z)
def PostP (K : PySem.W.Frag) (s : S) (o : OV) (Q : VK) : Prop := ∀ v s' R, RepO K s' o v R → Own R s' → Ext fE s R s' → Q v s'.H
/-- an operation on values that may be read: f says what it gives -/
def Pure (K : PySem.W.Frag) (r : List V → Hp → VK → Prop) (f : List OV → Option OV) : Prop :=
  ∀ s os vs o, (∀ a, s.Z a → s.H a ≠ none) → RdO K s os vs → f os = some o → ∀ Q : VK, PostP K s o Q → r vs s.H Q
def mOp (f : List OV → Option OV) (m : MA) : ME := fun env => match m env with
  | none => none
  | some (as, e1) => match resolve e1 as with
    | none => none
    | some os => match f os with
      | none => none
      | some o => some (o, e1)
theorem Pure.post {K : PySem.W.Frag} {r : List V → Hp → VK → Prop} {f : List OV → Option OV} (hf : Pure K r f) {σ : L2.St} {s : S} {P : FP} {as : List AV} {e1 : Env} {os : List OV} {o : OV} {Q : VK} (h1 : resolve e1 as = some os) (h2 : f os = some o)
    (hq : PostE K σ s P o e1 Q) : PostA K σ s P as e1 fun vs H => r vs H Q := by
  intro vs s1 P1 R1 a1 a2 a3 a4 a5
  refine hf s1 os vs o a4.w (a2.read a1 h1) h2 Q fun v s2 R2 b1 b2 b3 => ?_
  have o1 : Own P1 s1 := a4.sub fun _ z => .inl z
  have d0 : Dis fE P1 := fun _ z => z.elim
  refine hq v s2 P1 R2 (a1.mono (b3.kp d0 o1)) b1 (fun x z w => (b3.disR d0 o1) x w z) ((b3.ownR d0 o1).or b2) ?_
  refine (a5.sub (R := P1) fun _ z => .inl z).trans ((b3.frame (R := P1)).wide fun x z => ?_) |>.sub fun x z => z.symm
  exact z.resolve_left fun w => w
end
end G
namespace G
open PySem PySem.Spec PyProof.Rows L2

/-! ### contracts, with nothing of repr running -/
structure FnG (P : Program) (w : World) (K : PySem.W.Frag) (mg : Str → Option Value) (base : Heap) (k : Nat) (f : Addr) (fd : FuncData) (ps : List Str) (sp : Sp) : Prop where
  len : ∀ vs H Q E, sp vs H Q E → vs.length = ps.length
  run : ∀ (A : Around) (fr : List PySem.Env) (s : Shared) (H : Hp) (ar : Args) (us : List Value) (vs : List V) (Q : VK) (E : XK), Room k A → A.guards = some [] → Env0 P w K mg base A fr s H → BindsTo s fd ar (ps.zip us) → Vals vs us → sp vs H Q E →
    codeAny (model P w) A (.call (.ref f) ar) (CR CX0 fr P w H s Q E) s
theorem FnG.mono {P : Program} {w : World} {K : PySem.W.Frag} {mg : Str → Option Value} {base : Heap} {j k : Nat} {f : Addr} {fd : FuncData} {ps : List Str} {sp : Sp} (F : FnG P w K mg base j f fd ps sp) (h : j ≤ k) : FnG P w K mg base k f fd ps sp :=
  ⟨F.len, fun A fr s H ar us vs Q E r => F.run A fr s H ar us vs Q E (r.mono h)⟩
section
variable {P : Program} {w : World} {K : PySem.W.Frag} {mg : Str → Option Value} {base : Heap}
/-- a def of the text, by its body -/
theorem okG {x qual : Str} {st : Stmt} {f : Addr} {fd : FuncData} {N ps : List Str} {k : Nat} {sp : Sp} (F : Fun K x qual st f fd) (S : FnScope N ps (defScope st)) (len : ∀ vs H Q E, sp vs H Q E → vs.length = ps.length)
    (hb : ∀ (cdv : Value) (A : Around) (fr : List PySem.Env) (s : Shared) (H : Hp) (vs : List V) (Q : VK) (E : XK), Room k (A.deeper (envOfC qual (defScope st) s.heap.objs.size f cdv)) → A.guards = some [] → sp vs H Q E →
      ∃ t, PSs (cxOf CX0 P w K mg base N qual (defScope st) f cdv A fr s H E).nox (defBody st) t ∧ t { nx := fun _ H' => Q .non H', rt := Q } (start N vs) H) : FnG P w K mg base (k + 1) f fd ps sp := by
  obtain ⟨oc, od, kV, doc, pm, an, cdv, ct, osl, rfl, lk, hcd⟩ := F.ex
  refine ⟨len, fun A fr s H ar us vs Q E hr hg e0 hbd r hsp => ?_⟩
  have hl := len _ _ _ _ hsp
  have kin : K.In s.heap := e0.mod.kin.keeps fun b o e => (e0.bs b o e).1
  have nl : s.heap.NoLimit := e0.mod.nolimit.keeps fun b o e => (e0.bs b o e).1
  refine codeAny_call_function hr.depth (kin _ _ lk) rfl S.co S.gen rfl (PySem.W.codeRec_of kin hcd) (hbd _ _ _ _ ?_)
  refine wpAny_newFunctionEnv_cells S.kind (fun y hy => ?_) fun env he s1 ic => ?_
  · rcases S.par y.1 (List.of_mem_zip (show (y.1, y.2) ∈ _ from hy)).1 with q | q
    · exact .inl q
    · exact .inr ⟨q, PySem.W.cellsFrom_some _ _ _ (.inl q)⟩
  subst he
  refine ⟨nl.keeps ic.toInCall.keep, codeAny_func ?_⟩
  obtain ⟨t, ht, hq⟩ := hb cdv A fr s H vs Q E (hr.deeper _) hg hsp
  have I := inv_start (CX := CX0) (E := E) S hr.hd e0 hl r ic
  refine wpAny_mono (ht.nox.run [] s1 _ H _ I hq) (fun fl s' z => ?_) fun _ _ z => z
  cases fl with
  | ret u => obtain ⟨v, σ', H', J, rv, q⟩ := z; exact ⟨v, H', J.os, J.bare, J.base, J.hok, rv, q⟩
  | next => obtain ⟨σ', H', J, q⟩ := z; exact ⟨V.non, H', J.os, J.bare, J.base, J.hok, rfl, q⟩
  | brk => obtain ⟨_, _, _, q⟩ := z; exact False.elim q
  | cont => obtain ⟨_, _, _, q⟩ := z; exact False.elim q
end
section
variable {X : Cx}
theorem runG {pins : List (Addr × Obj)} {σ : L2.St} {H : Hp} {s : Shared} {Q : VK} {us : List Value} {vs : List V} {k : Nat} {f : Addr} {fd : FuncData} {ps : List Str} {sp : Sp} (F : FnG X.prog X.w X.K X.mg X.base k f fd ps sp)
    (hr : Room k X.A) (hg : X.A.guards = some []) (hb : Binds X.K fd ps []) (I : Inv X pins σ H s) (r : Vals vs us) (h : sp vs H Q E0) : wpAny (model X.prog X.w) X.A (call (.ref f) us) (EP X pins σ Q) X.xe s := by
  have hl : (us ++ []).length = ps.length := by rw [List.append_nil, ← r.length]; exact F.len _ _ _ _ h
  have bd := hb s us I.kIn hl
  rw [List.append_nil] at bd
  refine wpAny_call (codeAny_mono (F.run X.A X.stack s H _ us vs Q E0 hr hg I.env0 bd r h) fun rs s' z => ?_)
  cases rs with
  | error e => exact False.elim z
  | ok fl =>
    cases fl with
    | ret u => exact I.after z
    | next => exact False.elim z
    | brk => exact False.elim z
    | cont => exact False.elim z
def tCallG (sp : Sp) (t : TA) : TE := fun σ H Q => t σ H fun vs H1 => sp vs H1 Q E0
theorem peG {x : Str} {p pos : Pos} {e : Expr} {es : List Expr} {t : TA} {k : Nat} {f : Addr} {fd : FuncData} {ps : List Str} {sp : Sp} (F : FnG X.prog X.w X.K X.mg X.base k f fd ps sp) (hr : Room k X.A) (hgd : X.A.guards = some []) (hg : Gl X x)
    (hm : X.mg x = some (.ref f)) (hk : PySem.W.keepIn X.K (.ref f) = true) (hb : Binds X.K fd ps []) (ha : PA X (e :: es) t) (hdb : (x == ("__debug__" : Str)) = false := by decide)
    (he : starEach (e :: es) X.env = (false, eval e X.env) :: starEach es X.env := by rfl) (hpl : (backTo pos (starEach es X.env)).any (·.1) = false := by rfl) : PE X (.Call (.Name x p) (e :: es) [] pos) (tCallG sp t) := by
  constructor
  intro pins s σ H Q I h
  refine wpAny_Call_Name_kw (ld_glob I hg hm ?_ hdb)
  exact PySem.W.callWith_K (h₀ := X.base) I.ok.mod.kin hk (thn (ha.run pos pins s σ H _ I h) fun us s1 ⟨vs, H1, I1, r, q⟩ => ⟨I1.kIn, runG F hr hgd hb I1 r q⟩) he hpl
end

/-! ### a def as a pure function; what becomes of its arguments -/
inductive Outs (K : PySem.W.Frag) (s : S) : List (Option OV) → List V → FP → Prop
  | nil : Outs K s [] [] fE
  | no {os : List (Option OV)} {v : V} {vs : List V} {R : FP} : Outs K s os vs R → Outs K s (none :: os) (v :: vs) R
  | yes {o : OV} {os : List (Option OV)} {v : V} {vs : List V} {P R : FP} : RepO K s o v P → Outs K s os vs R → Dis P R → Outs K s (some o :: os) (v :: vs) (fU P R)
abbrev MF := List OV → Option (OV × List (Option OV))
def FnD (K : PySem.W.Frag) (n : Nat) (m : MF) : Sp := fun vs H Q _ => ∃ Z P os o outs, vs.length = n ∧ RepOs K ⟨H, Z⟩ os vs P ∧ Own P ⟨H, Z⟩ ∧ m os = some (o, outs) ∧
  ∀ v s' P' R, Outs K s' outs vs P' → RepO K s' o v R → Dis P' R → Own (fU P' R) s' → Ext P ⟨H, Z⟩ (fU P' R) s' → Q v s'.H
def takeA : Env → List AV → Option (List OV × List (Option Nat) × Env)
  | e, [] => some ([], [], e)
  | e, .own o :: as => match takeA e as with
    | none => none
    | some (os, ts, e') => some (o :: os, none :: ts, e')
  | e, .at i :: as => match lk e i with
    | none => none
    | some (.fz d) => match takeA e as with
      | none => none
      | some (os, ts, e') => some (.fz d :: os, none :: ts, e')
    | some o => match takeA (e.set i none) as with
      | none => none
      | some (os, ts, e') => some (o :: os, some i :: ts, e')
def putB : Env → List (Option Nat) → List (Option OV) → Env
  | e, some i :: ts, o :: outs => putB (e.set i o) ts outs
  | e, none :: ts, _ :: outs => putB e ts outs
  | e, _, _ => e
inductive TsOk (σ : L2.St) (n : Nat) : List (Option Nat) → List V → Prop
  | nil : TsOk σ n [] []
  | no {ts : List (Option Nat)} {v : V} {vs : List V} : TsOk σ n ts vs → TsOk σ n (none :: ts) (v :: vs)
  | yes {i : Nat} {ts : List (Option Nat)} {v : V} {vs : List V} : i < n → σ[i]? = some (some v) → TsOk σ n ts vs → TsOk σ n (some i :: ts) (v :: vs)
theorem AvOk.tail_sub {K : PySem.W.Frag} {s : S} {σ : L2.St} : ∀ {as : List AV} {vs : List V} {R : FP}, AvOk K s σ as vs R → True := fun _ => trivial
theorem takeA_ok {K : PySem.W.Frag} {s : S} {σ : L2.St} : ∀ {as : List AV} {vs : List V} {R P : FP} {e : Env} {os : List OV} {ts : List (Option Nat)} {e2 : Env}, AvOk K s σ as vs R → EnvOk K s σ e P → Dis P R → takeA e as = some (os, ts, e2) →
    ∃ P2 R2, EnvOk K s σ e2 P2 ∧ RepOs K s os vs R2 ∧ Dis P2 R2 ∧ (∀ a, P2 a ∨ R2 a → P a ∨ R a) ∧ TsOk σ e2.length ts vs ∧ e2.length = e.length
  | _, _, _, P, e, _, _, _, .nil, h, d, q => by
    simp only [takeA, Option.some.injEq, Prod.mk.injEq] at q
    obtain ⟨rfl, rfl, rfl⟩ := q
    exact ⟨P, fE, h, .nil, fun _ _ z => z, fun _ z => z, .nil, rfl⟩
  | _, _, _, P, e, _, _, _, .own (o := o) (P := Po) (R := Ro) h1 h2 h3, h, d, q => by
    simp only [takeA] at q
    split at q
    · cases q
    · rename_i os' ts' e' q'
      cases q
      obtain ⟨P2, R2, a1, a2, a3, a4, a5, a6⟩ := takeA_ok h2 h (fun x z w => d x z (.inr w)) q'
      refine ⟨P2, fU Po R2, a1, .cons h1 a2 fun x z w => ?_, fun x z w => ?_, fun x z => ?_, .no a5, a6⟩
      · rcases a4 x (.inr w) with y | y
        · exact d x y (.inl z)
        · exact h3 x z y
      · rcases w with w | w
        · rcases a4 x (.inl z) with y | y
          · exact d x y (.inl w)
          · exact h3 x w y
        · exact a3 x z w
      · rcases z with z | z | z
        · exact (a4 x (.inl z)).imp_right .inr
        · exact .inr (.inl z)
        · exact (a4 x (.inr z)).imp_right .inr
  | _, _, R, P, e, _, _, _, .at (i := i) (v := v) h1 h2, h, d, q => by
    simp only [takeA] at q
    split at q
    · cases q
    · rename_i dd ql
      split at q
      · cases q
      · rename_i os' ts' e' q'
        cases q
        obtain ⟨v', Po, R', b1, b2, _⟩ := h.get ql
        rw [h1] at b1; cases b1
        obtain ⟨P2, R2, a1, a2, a3, a4, a5, a6⟩ := takeA_ok h2 h d q'
        cases b2 with
        | fz b2 =>
          refine ⟨P2, fU fE R2, a1, .cons (.fz b2) a2 fun _ z => z.elim, fun x z w => w.elim (fun w => w) (a3 x z), fun x z => ?_, .no a5, a6⟩
          rcases z with z | z | z
          · exact a4 x (.inl z)
          · exact z.elim
          · exact a4 x (.inr z)
    · rename_i o nf ql
      split at q
      · cases q
      · rename_i os' ts' e' q'
        cases q
        obtain ⟨v', Po, R', b1, b2, b3, b4, b5, _⟩ := h.get ql
        rw [h1] at b1; cases b1
        obtain ⟨P2, R2, a1, a2, a3, a4, a5, a6⟩ := takeA_ok h2 b5 (fun x z w => d x ((b4 x).mpr (.inr z)) w) q'
        have nP : ∀ x, Po x → ¬ (P2 x ∨ R2 x) := fun x z w => (a4 x w).elim (fun y => b3 x z y) fun y => d x ((b4 x).mpr (.inl z)) y
        have hi := lk_lt ql
        rw [List.length_set] at a6
        refine ⟨P2, fU Po R2, a1, .cons b2 a2 fun x z w => nP x z (.inr w), fun x z w => w.elim (fun w => nP x w (.inl z)) (a3 x z), fun x z => ?_, .yes (by omega) h1 a5, a6⟩
        rcases z with z | z | z
        · exact (a4 x (.inl z)).imp_left fun y => (b4 x).mpr (.inr y)
        · exact .inl ((b4 x).mpr (.inl z))
        · exact (a4 x (.inr z)).imp_left fun y => (b4 x).mpr (.inr y)
theorem putB_ok {K : PySem.W.Frag} {s : S} {σ : L2.St} : ∀ {ts : List (Option Nat)} {vs : List V} {outs : List (Option OV)} {e : Env} {P R : FP}, TsOk σ e.length ts vs → Outs K s outs vs R → EnvOk K s σ e P → Dis P R →
    ∃ P', EnvOk K s σ (putB e ts outs) P' ∧ ∀ a, P' a → P a ∨ R a
  | _, _, _, e, P, _, .nil, .nil, h, _ => ⟨P, h, fun _ z => .inl z⟩
  | _, _, _, e, P, _, .no t, .no o, h, d => by
    obtain ⟨P', a, b⟩ := putB_ok t o h d
    exact ⟨P', a, b⟩
  | _, _, _, e, P, _, .no t, .yes _ o _, h, d => by
    obtain ⟨P', a, b⟩ := putB_ok t o h fun x z w => d x z (.inr w)
    exact ⟨P', a, fun x z => (b x z).imp_right .inr⟩
  | _, _, _, e, P, R, .yes (i := i) hi hv t, .no o, h, d => by
    obtain ⟨f, a, hp⟩ := h
    have c : EnvOk K s σ (e.set i none) (fun x => ∃ j, (if j = i then fE else f j) x) := ⟨_, a.clear i, fun _ => Iff.rfl⟩
    have sub : ∀ x, (∃ j, (if j = i then fE else f j) x) → P x := fun x ⟨j, z⟩ => by
      by_cases e' : j = i
      · rw [if_pos e'] at z; exact z.elim
      · rw [if_neg e'] at z; exact (hp x).mpr ⟨j, z⟩
    obtain ⟨P', a', b⟩ := putB_ok (e := e.set i none) (by simpa using t) o c fun x z w => d x (sub x z) w
    exact ⟨P', a', fun x z => (b x z).imp_left (sub x)⟩
  | _, _, _, e, P, _, .yes (i := i) (v := v) hi hv t, .yes (P := Po) (R := Ro) r o dd, h, d => by
    obtain ⟨P1, c, sub⟩ := h.put hi r fun x z w => d x z (.inl w)
    have hσ : σ.set i (some v) = σ := by
      refine List.ext_getElem? fun j => ?_
      by_cases e' : i = j
      · subst e'; rw [List.getElem?_set_self (by rw [h.len]; exact hi)]; exact hv.symm
      · rw [List.getElem?_set_ne e']
    rw [hσ] at c
    obtain ⟨P', a', b⟩ := putB_ok (e := e.set i (some _)) (by simpa using t) o c fun x z w => (sub x z).elim (fun z => d x z (.inr w)) fun z => dd x z w
    exact ⟨P', a', fun x z => (b x z).elim (fun z => (sub x z).imp_right .inl) fun z => .inr (.inr z)⟩
def mCall (m : MF) (ma : MA) : ME := fun env => match ma env with
  | none => none
  | some (as, e1) => match takeA e1 as with
    | none => none
    | some (os, ts, e2) => match m os with
      | none => none
      | some (o, outs) => some (o, putB e2 ts outs)
theorem RepOs.len {K : PySem.W.Frag} {s : S} : ∀ {os : List OV} {vs : List V} {P : FP}, RepOs K s os vs P → vs.length = os.length
  | _, _, _, .nil => rfl
  | _, _, _, .cons _ t _ => by simp [t.len]
/-- what a call does, by the def's pure function -/
theorem callD {K : PySem.W.Frag} {n : Nat} {m : MF} {σ : L2.St} {s : S} {P : FP} {as : List AV} {e1 e2 : Env} {os : List OV} {ts : List (Option Nat)} {o : OV} {outs : List (Option OV)} {Q : VK} {E : XK} (h1 : takeA e1 as = some (os, ts, e2)) (h2 : m os = some (o, outs)) (hn : os.length = n)
    (hq : PostE K σ s P o (putB e2 ts outs) Q) : PostA K σ s P as e1 fun vs H => FnD K n m vs H Q E := by
  intro vs s1 P1 R1 a1 a2 a3 a4 a5
  obtain ⟨P2, R2, b1, b2, b3, b4, b5, b6⟩ := takeA_ok a2 a1 a3 h1
  have w : Own (fU P2 R2) s1 := a4.sub fun x z => b4 x z
  have wR : Own R2 s1 := w.sub fun _ z => .inr z
  have wP : Own P2 s1 := w.sub fun _ z => .inl z
  have d21 : Dis R2 P2 := fun x z y => b3 x y z
  refine ⟨s1.Z, R2, os, o, outs, by rw [b2.len]; exact hn, b2, wR, h2, fun v s' P' R c1 c2 c3 c4 c5 => ?_⟩
  have k := c5.kp d21 wP
  have dP := c5.disR d21 wP
  obtain ⟨P3, f1, f2⟩ := putB_ok b5 c1 (b1.mono k) fun x z y => dP x (.inl y) z
  have wP' := c5.ownR d21 wP
  refine hq v s' P3 R f1 c2 (fun x z y => (f2 x z).elim (fun z => dP x (.inr y) z) fun z => c3 x z y) ((wP'.or c4).sub fun x z => ?_) ?_
  · rcases z with z | z
    · exact (f2 x z).elim .inl fun z => .inr (.inl z)
    · exact .inr (.inr z)
  · refine ((a5.sub (R := fU R2 P2) fun x z => b4 x z.symm).trans c5.frame).sub fun x z => ?_
    rcases z with z | z
    · exact (f2 x z).elim .inr fun z => .inl (.inl z)
    · exact .inl (.inr z)
theorem DE.call {X : Cx} {x : Str} {p pos : Pos} {e : Expr} {es : List Expr} {k n : Nat} {f : Addr} {fd : FuncData} {ps : List Str} {m : MF} {ma : MA} (F : FnG X.prog X.w X.K X.mg X.base k f fd ps (FnD X.K n m)) (hr : Room k X.A) (hgd : X.A.guards = some [])
    (hg : Gl X x) (hm : X.mg x = some (.ref f)) (hk : PySem.W.keepIn X.K (.ref f) = true) (hb : Binds X.K fd ps []) (hn : ∀ os r, m os = some r → os.length = n) (ha : DA X (e :: es) ma) (hdb : (x == ("__debug__" : Str)) = false := by decide)
    (he : starEach (e :: es) X.env = (false, eval e X.env) :: starEach es X.env := by rfl) (hpl : (backTo pos (starEach es X.env)).any (·.1) = false := by rfl) : DE X (.Call (.Name x p) (e :: es) [] pos) (mCall m ma) := by
  obtain ⟨ts, hp, hpa, hrun⟩ := ha.run
  refine ⟨_, peG F hr hgd hg hm hk hb hpa hdb he hpl, fun σ s env P o env' h1 h2 h3 Q hq => ?_⟩
  unfold mCall at h3
  split at h3
  · cases h3
  · rename_i as e1 q1
    split at h3
    · cases h3
    · rename_i os tks e2 q2
      split at h3
      · cases h3
      · rename_i o' outs q3
        cases h3
        exact hrun σ s env P as e1 h1 h2 q1 _ (callD q2 q3 (hn _ _ q3) hq)
end G
namespace G
open PySem PySem.Spec PyProof.Rows L2

/-! ### behind a pure operation -/
def Wf (s : S) : Prop := ∀ a, s.Z a → s.H a ≠ none
section
variable {K : PySem.W.Frag} {s : S} {Q : VK}
theorem PostP.fz {v : V} {d : D} (h : PostP K s (.fz d) Q) (w : Wf s) (r : Rep K s v d) : Q v s.H := h v s fE (.fz r) ⟨fun _ z => z.elim, w⟩ (.refl _ _)
theorem PostP.bl {b : Bool} (h : PostP K s (.fz (.bool b)) Q) (w : Wf s) : Q (.bl b) s.H := h.fz w (.bl b)
theorem PostP.int {i : Int} (h : PostP K s (.fz (.int i)) Q) (w : Wf s) : Q (.int i) s.H := h.fz w (.int i)
theorem PostP.str {x : Str} (h : PostP K s (.fz (.str x)) Q) (w : Wf s) : Q (.str x) s.H := h.fz w (.str x)
theorem PostP.newL {ds : List D} {vs : List V} (h : PostP K s (.oL ds) Q) (w : Wf s) (r : RepL K s vs ds) {p : Addr} (hp : s.H p = none) : Q (.ref p) (upd s.H p (.lst vs)) := by
  have x : Ext fE s (fU fE (f1 p)) ⟨upd s.H p (.lst vs), s.Z⟩ := Ext.new hp
  refine h (.ref p) ⟨upd s.H p (.lst vs), s.Z⟩ (f1 p) (.oL upd_same (r.mono x.fz)) ⟨fun a z => ?_, fun a z q => w a z (x.dom a q)⟩ (x.sub fun a z => .inr z)
  cases (show a = p from z)
  exact ⟨fun z => w _ z hp, by show upd s.H p _ p ≠ none; rw [upd_same]; exact fun z => nomatch z⟩
theorem PostP.newD {ds : List (Key × D)} {vs : List (Key × V)} (h : PostP K s (.oD ds) Q) (w : Wf s) (r : RepO' K s vs ds) {p : Addr} (hp : s.H p = none) : Q (.ref p) (upd s.H p (.dK vs)) := by
  have x : Ext fE s (fU fE (f1 p)) ⟨upd s.H p (.dK vs), s.Z⟩ := Ext.new hp
  refine h (.ref p) ⟨upd s.H p (.dK vs), s.Z⟩ (f1 p) (.oD upd_same (r.mono x.fz)) ⟨fun a z => ?_, fun a z q => w a z (x.dom a q)⟩ (x.sub fun a z => .inr z)
  cases (show a = p from z)
  exact ⟨fun z => w _ z hp, by show upd s.H p _ p ≠ none; rw [upd_same]; exact fun z => nomatch z⟩
/-- a new tuple that does not look like a polynomial -/
theorem PostP.newT {ds : List D} {vs : List V} (h : PostP K s (.fz (.tuple ds)) Q) (np : polyish ds = false) (w : Wf s) (r : RepL K s vs ds) {p : Addr} (hp : s.H p = none) : Q (.ref p) (upd s.H p (.tup vs)) := by
  have x : Ext fE s fE ⟨upd s.H p (.tup vs), fU s.Z (f1 p)⟩ := Ext.newz hp
  exact h (.ref p) ⟨upd s.H p (.tup vs), fU s.Z (f1 p)⟩ fE (.fz (.tup (.inl ⟨.inr rfl, .inl upd_same⟩) (r.mono x.fz) fun q => nomatch np.symm.trans q)) ⟨fun _ z => z.elim, fun a z => (x.wf a z).elim (fun z q => w a z (x.dom a q)) id⟩ x
/-- a new tuple, known by its object -/
theorem PostP.newTG {ds : List D} {vs : List V} (h : PostP K s (.fz (.tuple ds)) Q) (w : Wf s) (r : RepL K s vs ds) {p : Addr} {o : Obj} (n : NewT o) (hp : s.H p = none) : Q (.ref p) (upd s.H p (.frz o (.tup vs))) := by
  have x : Ext fE s fE ⟨upd s.H p (.frz o (.tup vs)), fU s.Z (f1 p)⟩ := Ext.newz hp
  exact h (.ref p) ⟨upd s.H p (.frz o (.tup vs)), fU s.Z (f1 p)⟩ fE (.fz (.tup (.inl ⟨.inr rfl, .inr ⟨o, upd_same⟩⟩) (r.mono x.fz) fun _ => .inl ⟨.inr rfl, o, .tup vs, n, .inl upd_same⟩)) ⟨fun _ z => z.elim, fun a z => (x.wf a z).elim (fun z q => w a z (x.dom a q)) id⟩ x
end
def lift1 (r : V → Hp → VK → Prop) : List V → Hp → VK → Prop
  | [x], H, Q => r x H Q
  | _, _, _ => False
def lift2 (r : V → V → Hp → VK → Prop) : List V → Hp → VK → Prop
  | [x, y], H, Q => r x y H Q
  | _, _, _ => False
/-! ### new tuples, known by their objects: the display, +, slices, tuple(list) -/
def tTupG (t : TA) : TE := fun σ H Q => t σ H fun xs H1 => xs.length ≤ sizeLine ∧ ∀ p o, NewT o → H1 p = none → Q (.ref p) (upd H1 p (.frz o (.tup xs)))
theorem pe_tupG {X : Cx} {es : List Expr} {t : TA} {pos : Pos} {x1} (h : PA X es t) : PE X (.Tuple es x1 pos) (tTupG t) := by
  refine ⟨fun pins s σ H Q I hq => ?_⟩
  refine wpAny_Tuple_spliced (thn (h.run pos pins s σ H _ I hq) fun us s1 ⟨xs, H1, I1, r, z, q⟩ => ⟨by rw [← r.length]; exact z, ?_⟩)
  have hf : H1 s1.heap.objs.size = none := I1.hok.fresh (Nat.le_refl _)
  refine ⟨.ref s1.heap.objs.size, upd H1 s1.heap.objs.size (.frz { cls := .type "tuple", data := .seq us.toArray } (.tup xs)), I1.laid (t' := s1.toks) (fun b u e => Heap.get?_push_of_some _ e) (Nat.le_refl _) ?_, rfl, q _ _ ⟨rfl, rfl⟩ hf⟩
  exact ⟨Heap.get?_push_size _ rfl, z, us, r, ⟨_, Heap.get?_push_size _ rfl, rfl, _, rfl⟩⟩
def rTupG (K : PySem.W.Frag) : V → Hp → VK → Prop := fun x H Q => (∃ p xs, x = .ref p ∧ SqL K H p xs ∧ ∀ q o, NewT o → H q = none → Q (.ref q) (upd H q (.frz o (.tup xs)))) ∨ (∃ p xs, x = .ref p ∧ SqT K H p xs ∧ Q (.ref p) H)
theorem call_tupG {X : Cx} : CallR X (.type "tuple") (lift1 (rTupG X.K)) := by
  intro pins s σ H xs us Q I r h
  match xs, h with
  | [x], h =>
    obtain ⟨u, rfl, rx⟩ := vals1 r
    rcases h with ⟨p, ys, rfl, hs, q⟩ | ⟨p, ys, rfl, hs, q⟩
    · cases rx
      obtain ⟨its, rv, pl, hz⟩ := I.list hs
      refine call_tuple_list pl.isList (fun h' hk => ?_) (by rw [List.size_toArray, ← rv.length]; exact hz)
      have I1 : Inv X pins σ H { s with heap := h' } := I.kept (t' := s.toks) hk
      have I2 : Inv X pins σ (upd H h'.objs.size (.frz { cls := .type "tuple", data := .seq its.toArray } (.tup ys))) { s with heap := h'.push { cls := .type "tuple", data := .seq its.toArray } } :=
        I1.laid (t' := s.toks) (fun b o e => Heap.get?_push_of_some _ e) (Nat.le_refl _) ⟨Heap.get?_push_size _ rfl, hz, its, rv, IsTup.new _ _⟩
      exact ⟨.ref h'.objs.size, _, I2, rfl, q _ _ ⟨rfl, rfl⟩ (I1.hok.fresh (Nat.le_refl _))⟩
    · cases rx
      obtain ⟨its, rv, pl, hz⟩ := I.tuple hs
      exact call_tuple_tup pl ⟨.ref p, H, I, rfl, q⟩
def rCatG (K : PySem.W.Frag) : R2 := fun x y H Q => ∃ a b xs ys, x = .ref a ∧ y = .ref b ∧ SqT K H a xs ∧ SqT K H b ys ∧ xs.length + ys.length ≤ sizeLine ∧
  (xs = [] → Q (.ref b) H) ∧ (xs ≠ [] → ys = [] → Q (.ref a) H) ∧ (xs ≠ [] → ys ≠ [] → ∀ p o, NewT o → H p = none → Q (.ref p) (upd H p (.frz o (.tup (xs ++ ys)))))
theorem op_catG {X : Cx} : OpR X (binaryOp .Add) (rCatG X.K) := by
  intro pins s σ H x y v u Q I rx ry h
  obtain ⟨a, b, xs, ys, rfl, rfl, ha, hb, hz, q0, q1, q2⟩ := h
  cases rx
  cases ry
  obtain ⟨its, r1, p1, _⟩ := I.tuple ha
  obtain ⟨its2, r2, p2, _⟩ := I.tuple hb
  by_cases hx : xs = []
  · subst hx
    cases r1
    exact cat_tup0 p1 p2 ⟨.ref b, H, I, rfl, q0 rfl⟩
  · refine HT.cat_tup p1 p2 (fun z => hx (r1.nil_iff.mp z)) (fun z => ⟨.ref a, H, I, rfl, q1 hx (r2.nil_iff.mp z)⟩) (fun z => ?_) (by rw [← r1.length, ← r2.length]; exact hz)
    refine ⟨.ref s.heap.objs.size, _, I.laid (t' := s.toks) (o := .frz { cls := .type "tuple", data := .seq (its ++ its2).toArray } (.tup (xs ++ ys))) (fun b ob q => Heap.get?_push_of_some _ q) (Nat.le_refl _) ?_, rfl, q2 hx (fun w => z (r2.nil_iff.mpr w)) _ _ ⟨rfl, rfl⟩ (I.hok.fresh (Nat.le_refl _))⟩
    exact ⟨Heap.get?_push_size _ rfl, by rw [List.length_append]; exact hz, _, r1.append r2, IsTup.new _ _⟩
def rSlG (K : PySem.W.Frag) : V → Option Int → Option Int → Hp → VK → Prop := fun x lo hi H Q => ∃ a xs, x = .ref a ∧ SqT K H a xs ∧
  (HT.sIx xs.length 0 lo = 0 ∧ HT.sIx xs.length xs.length hi = xs.length → Q (.ref a) H) ∧ (¬ (HT.sIx xs.length 0 lo = 0 ∧ HT.sIx xs.length xs.length hi = xs.length) → ∀ p o, NewT o → H p = none → Q (.ref p) (upd H p (.frz o (.tup (cutV xs lo hi)))))
theorem sl_tupG {X : Cx} : SlR X (rSlG X.K) := by
  intro pins s σ H x v vl vu lo hi sl Q I rx hs pl pu h
  obtain ⟨a, xs, rfl, hx, q1, q2⟩ := h
  cases rx
  obtain ⟨its, r, ht, hz⟩ := I.tuple hx
  have hlen : its.toArray.size = xs.length := by rw [List.size_toArray]; exact r.length.symm
  refine ⟨"tuple", _, PyProof.Rows.slot_tuple_getitem.lookup, ht.typeIs, ?_⟩
  by_cases hw : HT.sIx xs.length 0 lo = 0 ∧ HT.sIx xs.length xs.length hi = xs.length
  · exact getItem_tuple_whole ht hs pl pu (by rw [hlen]; exact hw) ⟨.ref a, H, I, rfl, q1 hw⟩
  · refine HT.getItem_tuple_cut ht hs pl pu (by rw [hlen]; exact hw) ?_ (by rw [hlen]; exact hz)
    rw [hlen]
    refine ⟨.ref s.heap.objs.size, _, I.laid (t' := s.toks) (o := .frz { cls := .type "tuple", data := .seq ((its.drop (HT.sIx xs.length 0 lo)).take (HT.sIx xs.length xs.length hi - HT.sIx xs.length 0 lo)).toArray } (.tup (cutV xs lo hi))) (fun b ob q => Heap.get?_push_of_some _ q) (Nat.le_refl _) ?_, rfl, q2 hw _ _ ⟨rfl, rfl⟩ (I.hok.fresh (Nat.le_refl _))⟩
    exact ⟨Heap.get?_push_size _ rfl, Nat.le_trans (cutV_length xs lo hi) hz, _, (r.drop (HT.sIx xs.length 0 lo)).take (HT.sIx xs.length xs.length hi - HT.sIx xs.length 0 lo), IsTup.new _ _⟩
def l1 (f : OV → Option OV) : List OV → Option OV
  | [a] => f a
  | _ => none
def l2 (f : OV → OV → Option OV) : List OV → Option OV
  | [a, b] => f a b
  | _ => none
def P1 (K : PySem.W.Frag) (r : V → Hp → VK → Prop) (f : OV → Option OV) : Prop := ∀ s a v P o, Wf s → RepO K s a v P → f a = some o → ∀ Q, PostP K s o Q → r v s.H Q
def P2 (K : PySem.W.Frag) (r : V → V → Hp → VK → Prop) (f : OV → OV → Option OV) : Prop := ∀ s a v P b u R o, Wf s → RepO K s a v P → RepO K s b u R → f a b = some o → ∀ Q, PostP K s o Q → r v u s.H Q
theorem P1.pure {K : PySem.W.Frag} {r : V → Hp → VK → Prop} {f : OV → Option OV} (h : P1 K r f) : Pure K (lift1 r) (l1 f) := by
  intro s os vs o w rd e Q hq
  cases rd with
  | nil => cases e
  | cons h1 t =>
    cases t with
    | nil => exact h s _ _ _ o w h1 e Q hq
    | cons _ _ => cases e
theorem P2.pure {K : PySem.W.Frag} {r : V → V → Hp → VK → Prop} {f : OV → OV → Option OV} (h : P2 K r f) : Pure K (lift2 r) (l2 f) := by
  intro s os vs o w rd e Q hq
  cases rd with
  | nil => cases e
  | cons h1 t =>
    cases t with
    | nil => cases e
    | cons h2 t =>
      cases t with
      | nil => exact h s _ _ _ _ _ _ o w h1 h2 e Q hq
      | cons _ _ => cases e

section
variable {X : Cx} {a b c e : Expr} {es : List Expr} {pos p : Pos}
theorem PEs.two {es : List Expr} {ts : List TE} (h : PEs X [a, b] ts) : ∃ ta tb, ts = [ta, tb] ∧ PE X a ta ∧ PE X b tb := by
  cases h with
  | cons h1 t =>
    cases t with
    | cons h2 t => cases t; exact ⟨_, _, rfl, h1, h2⟩
theorem PEs.one {ts : List TE} (h : PEs X [a] ts) : ∃ ta, ts = [ta] ∧ PE X a ta := by
  cases h with
  | cons h1 t => cases t; exact ⟨_, rfl, h1⟩
def mC (o : OV) : ME := fun env => some (o, env)
theorem DE.const {v : V} {d : D} {t : TE} (h : PE X e t) (ht : t = tC v) (r : ∀ s, Rep X.K s v d) : DE X e (mC (.fz d)) :=
  ⟨t, h, fun σ s env P o env' h1 h2 h3 Q hq => by
    subst ht
    cases h3
    exact hq v s P fE h1 (.fz (r s)) (fun _ _ z => z) (by rw [fU_eq]; exact h2) (by rw [fU_eq]; exact .refl _ _)⟩
theorem DE.int {i j pos} : DE X (.Constant (.int i) j pos) (mC (.fz (.int i))) := .const pe_int rfl fun _ => .int i
theorem DE.bl {i j pos} : DE X (.Constant (.bool i) j pos) (mC (.fz (.bool i))) := .const pe_bl rfl fun _ => .bl i
theorem DE.non {j pos} : DE X (.Constant .none j pos) (mC (.fz .none)) := .const pe_non rfl fun _ => .non
theorem DE.str {x j pos} : DE X (.Constant (.str x) j pos) (mC (.fz (.str x))) := .const pe_str rfl fun _ => .str x
/-- a name as a value: frozen -/
def mNm (i : Nat) : ME := fun env => match lk env i with
  | none => none
  | some o => match o.frz with
    | none => none
    | some d => some (.fz d, env.set i (some (.fz d)))
theorem DE.nm (i : Nat) {x : Str} {pos : Pos} (hN : X.N[i]? = some x := by rfl) (hv : Vis X.env.scope x := by first | exact Or.inl rfl | exact Or.inr (Or.inl rfl) | exact Or.inr (Or.inr rfl)) (hd : (x == ("__debug__" : Str)) = false := by decide)
    (hcd : (x == ("__classdict__" : Str)) = false := by decide) : DE X (.Name x pos) (mNm i) := by
  refine ⟨tVar i, pe_var hN hv hd hcd, fun σ s env P o env' h1 h2 h3 Q hq => ?_⟩
  unfold mNm at h3
  split at h3
  · cases h3
  · rename_i o' q
    split at h3
    · cases h3
    · rename_i d q2
      cases h3
      obtain ⟨v, s', P', a1, a2, a3, a4, a5, a6⟩ := h1.freeze h2 q q2
      refine ⟨v, a1, ?_⟩
      rw [← a2]
      exact hq v s' P' fE a3 (.fz a6) (fun _ _ z => z) (by rw [fU_eq]; exact a4) (by rw [fU_eq]; exact a5)
theorem mOp_some {f : List OV → Option OV} {m : MA} {env : Env} {o : OV} {e' : Env} (h : mOp f m env = some (o, e')) : ∃ as os, m env = some (as, e') ∧ resolve e' as = some os ∧ f os = some o := by
  unfold mOp at h
  split at h
  · cases h
  · rename_i as e1 q1
    split at h
    · cases h
    · rename_i os q2
      split at h
      · cases h
      · rename_i o' q3
        cases h
        exact ⟨as, os, q1, q2, q3⟩
theorem DE.bin {op : Operator} {r : R2} {f : OV → OV → Option OV} {m : MA} (ho : OpR X (binaryOp op) r) (hp : P2 X.K r f) (hA : DA X [a, b] m) : DE X (.BinOp a op b pos) (mOp (l2 f) m) := by
  obtain ⟨ts, h1, h2, h3⟩ := hA.run
  obtain ⟨ta, tb, rfl, pa, pb⟩ := h1.two (es := [])
  refine ⟨_, pe_op ho pa pb, fun σ s env P o env' a1 a2 a3 Q hq => ?_⟩
  obtain ⟨as, os, q1, q2, q3⟩ := mOp_some a3
  exact h3 σ s env P as env' a1 a2 q1 _ (hp.pure.post q2 q3 hq)
theorem DE.un {op : UnaryOp} {r : V → Hp → VK → Prop} {f : OV → Option OV} {m : MA} (ho : UnR X (unaryOp op) r) (hp : P1 X.K r f) (hA : DA X [a] m) : DE X (.UnaryOp op a pos) (mOp (l1 f) m) := by
  obtain ⟨ts, h1, h2, h3⟩ := hA.run
  obtain ⟨ta, rfl, pa⟩ := h1.one
  refine ⟨_, pe_un ho pa, fun σ s env P o env' a1 a2 a3 Q hq => ?_⟩
  obtain ⟨as, os, q1, q2, q3⟩ := mOp_some a3
  exact h3 σ s env P as env' a1 a2 q1 _ (hp.pure.post q2 q3 hq)
theorem DE.cmp {op : CmpOp} {r : R2} {f : OV → OV → Option OV} {m : MA} (ho : OpR X (compareOp op) r) (hp : P2 X.K r f) (hm : behindInMarks op b = false) (hA : DA X [a, b] m) : DE X (.Compare a [op] [b] pos) (mOp (l2 f) m) := by
  obtain ⟨ts, h1, h2, h3⟩ := hA.run
  obtain ⟨ta, tb, rfl, pa, pb⟩ := h1.two (es := [])
  refine ⟨_, pe_cmpR ho pa pb hm, fun σ s env P o env' a1 a2 a3 Q hq => ?_⟩
  obtain ⟨as, os, q1, q2, q3⟩ := mOp_some a3
  exact h3 σ s env P as env' a1 a2 q1 _ (hp.pure.post q2 q3 hq)
theorem DE.callB {id : String} {x : Str} {r : List V → Hp → VK → Prop} {f : List OV → Option OV} {m : MA} (hc : CallR X (.builtin id) r) (hp : Pure X.K r f) (hg : Gl X x) (hm : X.mg x = none) (hv : bootBuiltins x = some (.builtin id)) (hA : DA X (e :: es) m) (hn : x ≠ "__name__" := by decide) (hdb : (x == ("__debug__" : Str)) = false := by decide)
    (he : starEach (e :: es) X.env = (false, eval e X.env) :: starEach es X.env := by rfl) (hpl : (backTo pos (starEach es X.env)).any (·.1) = false := by rfl) : DE X (.Call (.Name x p) (e :: es) [] pos) (mOp f m) := by
  obtain ⟨ts, h1, h2, h3⟩ := hA.run
  refine ⟨_, pe_callB hc hg hm hv h2 hn hdb he hpl, fun σ s env P o env' a1 a2 a3 Q hq => ?_⟩
  obtain ⟨as, os, q1, q2, q3⟩ := mOp_some a3
  exact h3 σ s env P as env' a1 a2 q1 _ (hp.post q2 q3 hq)
theorem DE.callTy {T : String} {x : Str} {r : List V → Hp → VK → Prop} {f : List OV → Option OV} {m : MA} (hc : CallR X (.type T) r) (hp : Pure X.K r f) (hg : Gl X x) (hm : X.mg x = none) (hv : bootBuiltins x = some (.type T)) (hA : DA X (e :: es) m) (hn : x ≠ "__name__" := by decide) (hdb : (x == ("__debug__" : Str)) = false := by decide)
    (he : starEach (e :: es) X.env = (false, eval e X.env) :: starEach es X.env := by rfl) (hpl : (backTo pos (starEach es X.env)).any (·.1) = false := by rfl) : DE X (.Call (.Name x p) (e :: es) [] pos) (mOp f m) := by
  obtain ⟨ts, h1, h2, h3⟩ := hA.run
  refine ⟨_, pe_callTy hc hg hm hv h2 hn hdb he hpl, fun σ s env P o env' a1 a2 a3 Q hq => ?_⟩
  obtain ⟨as, os, q1, q2, q3⟩ := mOp_some a3
  exact h3 σ s env P as env' a1 a2 q1 _ (hp.post q2 q3 hq)
theorem DE.ix {r : R2} {f : OV → OV → Option OV} {m : MA} (hr : IxR X r) (hp : P2 X.K r f) (hA : DA X [a, b] m) (hs : PlainIx b) : DE X (.Subscript a b pos) (mOp (l2 f) m) := by
  obtain ⟨ts, h1, h2, h3⟩ := hA.run
  obtain ⟨ta, tb, rfl, pa, pb⟩ := h1.two (es := [])
  refine ⟨_, pe_ix hr pa pb hs, fun σ s env P o env' a1 a2 a3 Q hq => ?_⟩
  obtain ⟨as, os, q1, q2, q3⟩ := mOp_some a3
  exact h3 σ s env P as env' a1 a2 q1 _ (hp.pure.post q2 q3 hq)
end

/-! ### views -/
def OV.lst? : OV → Option (List D)
  | .fz (.list ds) => some ds
  | .oL ds => some ds
  | _ => none
def OV.tup? : OV → Option (List D)
  | .fz (.tuple ds) => some ds
  | _ => none
def OV.seq? : OV → Option (List D)
  | .fz (.list ds) => some ds
  | .oL ds => some ds
  | .fz (.tuple ds) => some ds
  | _ => none
section
variable {K : PySem.W.Frag} {s : S} {o : OV} {v : V} {P : FP}
theorem RepO.lst (h : RepO K s o v P) {ds : List D} (e : o.lst? = some ds) : ∃ a vs, v = .ref a ∧ SqL K s.H a vs ∧ RepL K s vs ds := by
  cases h with
  | fz h =>
    cases h with
    | lst h1 h2 => cases e; exact ⟨_, _, rfl, h1.sq, h2⟩
    | _ => cases e
  | oL h1 h2 => cases e; exact ⟨_, _, rfl, SqL.of h1, h2⟩
  | _ => cases e
theorem RepO.tup (h : RepO K s o v P) {ds : List D} (e : o.tup? = some ds) : ∃ a vs, v = .ref a ∧ SqT K s.H a vs ∧ RepL K s vs ds := by
  cases h with
  | fz h =>
    cases h with
    | tup h1 h2 _ => cases e; exact ⟨_, _, rfl, h1.sq, h2⟩
    | _ => cases e
  | _ => cases e
theorem OV.tup_of {o : OV} {ds : List D} (e : o.tup? = some ds) : o = .fz (.tuple ds) := by
  cases o with
  | fz d => cases d <;> first | cases e; rfl | cases e
  | _ => cases e
theorem RepO.seq (h : RepO K s o v P) {ds : List D} (e : o.seq? = some ds) : ∃ a vs, v = .ref a ∧ (SqL K s.H a vs ∨ SqT K s.H a vs) ∧ RepL K s vs ds := by
  cases h with
  | fz h =>
    cases h with
    | lst h1 h2 => cases e; exact ⟨_, _, rfl, .inl h1.sq, h2⟩
    | tup h1 h2 _ => cases e; exact ⟨_, _, rfl, .inr h1.sq, h2⟩
    | _ => cases e
  | oL h1 h2 => cases e; exact ⟨_, _, rfl, .inl (SqL.of h1), h2⟩
  | _ => cases e
theorem RepO.int (h : RepO K s (.fz (.int i)) v P) : v = .int i := by cases h with | fz h => cases h; rfl
theorem RepO.str (h : RepO K s (.fz (.str x)) v P) : v = .str x := by cases h with | fz h => cases h; rfl
theorem RepO.bl (h : RepO K s (.fz (.bool x)) v P) : v = .bl x := by cases h with | fz h => cases h; rfl
theorem RepO.non (h : RepO K s (.fz .none) v P) : v = .non := by cases h with | fz h => cases h; rfl
end
/-- the most that a list or text may hold here -/
def lim : Nat := 16000000
theorem lim_le : lim ≤ sizeLine := by rw [sizeLine_eq]; decide
theorem le_line {n : Nat} (h : n ≤ lim) : n ≤ sizeLine := Nat.le_trans h lim_le
theorem lt_line {n : Nat} (h : n ≤ lim) : n < sizeLine := Nat.lt_of_le_of_lt h (by rw [sizeLine_eq]; decide)

/-! ### ints -/
def iii (f : Int → Int → Int) : OV → OV → Option OV
  | .fz (.int i), .fz (.int j) => some (.fz (.int (f i j)))
  | _, _ => none
def iib (f : Int → Int → Bool) : OV → OV → Option OV
  | .fz (.int i), .fz (.int j) => some (.fz (.bool (f i j)))
  | _, _ => none
def iiic (c : Int → Int → Bool) (f : Int → Int → Int) : OV → OV → Option OV
  | .fz (.int i), .fz (.int j) => if c i j then some (.fz (.int (f i j))) else none
  | _, _ => none
theorem iii_inv {f : Int → Int → Int} {a b o : OV} (h : iii f a b = some o) : ∃ i j, a = .fz (.int i) ∧ b = .fz (.int j) ∧ o = .fz (.int (f i j)) := by
  unfold iii at h
  split at h
  · cases h; exact ⟨_, _, rfl, rfl, rfl⟩
  · cases h
theorem iib_inv {f : Int → Int → Bool} {a b o : OV} (h : iib f a b = some o) : ∃ i j, a = .fz (.int i) ∧ b = .fz (.int j) ∧ o = .fz (.bool (f i j)) := by
  unfold iib at h
  split at h
  · cases h; exact ⟨_, _, rfl, rfl, rfl⟩
  · cases h
theorem iiic_inv {c : Int → Int → Bool} {f : Int → Int → Int} {a b o : OV} (h : iiic c f a b = some o) : ∃ i j, a = .fz (.int i) ∧ b = .fz (.int j) ∧ c i j = true ∧ o = .fz (.int (f i j)) := by
  unfold iiic at h
  split at h
  · split at h
    · cases h; exact ⟨_, _, rfl, rfl, by assumption, rfl⟩
    · cases h
  · cases h
theorem p_iii {K : PySem.W.Frag} {f : Int → Int → Int} : P2 K (rI0 fun i j => .int (f i j)) (iii f) := by
  intro s a v P b u R o w ra rb e Q hq
  obtain ⟨i, j, rfl, rfl, rfl⟩ := iii_inv e
  exact ⟨i, j, ra.int, rb.int, hq.int w⟩
theorem p_iib {K : PySem.W.Frag} {f : Int → Int → Bool} : P2 K (rI0 fun i j => .bl (f i j)) (iib f) := by
  intro s a v P b u R o w ra rb e Q hq
  obtain ⟨i, j, rfl, rfl, rfl⟩ := iib_inv e
  exact ⟨i, j, ra.int, rb.int, hq.bl w⟩
theorem p_iiic {K : PySem.W.Frag} {c : Int → Int → Bool} {f : Int → Int → Int} {C : Int → Int → Prop} (hc : ∀ i j, c i j = true → C i j) : P2 K (rI C fun i j => .int (f i j)) (iiic c f) := by
  intro s a v P b u R o w ra rb e Q hq
  obtain ⟨i, j, rfl, rfl, h, rfl⟩ := iiic_inv e
  exact ⟨i, j, ra.int, rb.int, hc i j h, hq.int w⟩
/-- how large a number is, in bits -/
def bits (i : Int) : Nat := i.natAbs.log2
def mulC (i j : Int) : Bool := decide (bits i + bits j < 1000000)
def divC (i j : Int) : Bool := (decide (0 < j) && decide (bits j < 9000)) || (decide (j < 0) && decide (-1073741824 < j))
def modC (i j : Int) : Bool := decide (j ≠ 0)
def gDiv (i j : Int) : Int := if 0 < j then i / j else i.fdiv j
def gMod (i j : Int) : Int := if 0 < j then i % j else i.fmod j
def powC (i j : Int) : Bool := decide (0 ≤ j) && decide (j ≤ 1000000) && decide (i.natAbs < 2 ^ 64)
def fMul := iiic mulC fun i j => i * j
def fDiv := iiic divC gDiv
def fMod := iiic modC gMod
def fPow := iiic powC fun i j => i ^ j.toNat
def fSub := iii fun i j => i - j
theorem p_mul {K : PySem.W.Frag} : P2 K (rI CMulW fun i j => .int (i * j)) fMul := p_iiic fun i j h => of_decide_eq_true (p := bits i + bits j < 1000000) h
theorem p_div {K : PySem.W.Frag} : P2 K (rI (fun i j => CDivW i j ∨ (j < 0 ∧ CDivN i j)) fun i j => .int (gDiv i j)) fDiv := p_iiic fun i j h => by
  simp only [divC, Bool.or_eq_true, Bool.and_eq_true, decide_eq_true_eq] at h
  rcases h with h | ⟨h1, h2⟩
  · exact .inl h
  · exact .inr ⟨h1, by omega, by omega⟩
theorem p_mod {K : PySem.W.Frag} : P2 K (rI (fun _ j => j ≠ 0) fun i j => .int (gMod i j)) fMod := p_iiic fun i j h => of_decide_eq_true h
theorem op_modB {X : Cx} : OpR X (binaryOp .Mod) (rI (fun _ j => j ≠ 0) fun i j => .int (gMod i j)) := by
  intro pins s σ H x y v u Q I rx ry h
  obtain ⟨i, j, rfl, rfl, c, q⟩ := h
  refine op_modN pins s σ H _ _ v u Q I rx ry ⟨i, j, rfl, rfl, c, ?_⟩
  have e : gMod i j = i.fmod j := by
    unfold gMod
    split
    · rw [Int.fmod_eq_emod_of_nonneg i (by omega)]
    · rfl
  have q' : Q (.int (gMod i j)) H := q
  rw [e] at q'
  exact q'
theorem op_fdivB {X : Cx} : OpR X (binaryOp .FloorDiv) (rI (fun i j => CDivW i j ∨ (j < 0 ∧ CDivN i j)) fun i j => .int (gDiv i j)) := by
  intro pins s σ H x y v u Q I rx ry h
  obtain ⟨i, j, rfl, rfl, c, q⟩ := h
  rcases c with c | c
  · refine op_fdivW pins s σ H _ _ v u Q I rx ry ⟨i, j, rfl, rfl, c, ?_⟩
    have e : gDiv i j = i / j := by unfold gDiv; rw [if_pos c.1]
    have q' : Q (.int (gDiv i j)) H := q
    rw [e] at q'
    exact q'
  · refine op_fdivN pins s σ H _ _ v u Q I rx ry ⟨i, j, rfl, rfl, c.2, ?_⟩
    have e : gDiv i j = i.fdiv j := by unfold gDiv; rw [if_neg (by omega)]
    have q' : Q (.int (gDiv i j)) H := q
    rw [e] at q'
    exact q'
theorem p_pow {K : PySem.W.Frag} : P2 K (rI CPow fun i j => .int (i ^ j.toNat)) fPow := p_iiic fun i j h => by
  simp only [powC, Bool.and_eq_true, decide_eq_true_eq] at h
  exact ⟨h.1.1, h.1.2, h.2⟩
section
variable {X : Cx} {a b : Expr} {pos : Pos} {m : MA}
theorem DE.sub (h : DA X [a, b] m) : DE X (.BinOp a .Sub b pos) (mOp (l2 fSub) m) := .bin op_sub p_iii h
theorem DE.mod (h : DA X [a, b] m) : DE X (.BinOp a .Mod b pos) (mOp (l2 fMod) m) := .bin op_modB p_mod h
theorem DE.div (h : DA X [a, b] m) : DE X (.BinOp a .FloorDiv b pos) (mOp (l2 fDiv) m) := .bin op_fdivB p_div h
theorem DE.pow (h : DA X [a, b] m) : DE X (.BinOp a .Pow b pos) (mOp (l2 fPow) m) := .bin op_pow p_pow h
theorem DE.mul (h : DA X [a, b] m) : DE X (.BinOp a .Mult b pos) (mOp (l2 fMul) m) := .bin op_mulW p_mul h
def fNeg : OV → Option OV
  | .fz (.int i) => some (.fz (.int (-i)))
  | _ => none
theorem DE.neg {m : MA} (h : DA X [a] m) : DE X (.UnaryOp .USub a pos) (mOp (l1 fNeg) m) := by
  refine .un un_neg (fun s a v P o w ra e Q hq => ?_) h
  unfold fNeg at e
  split at e
  · cases e; exact ⟨_, ra.int, hq.int w⟩
  · cases e
end
/-! ### +: ints, texts, lists, tuples -/
def fAdd : OV → OV → Option OV
  | .fz (.int i), .fz (.int j) => some (.fz (.int (i + j)))
  | .fz (.str x), .fz (.str y) => if x.length + y.length ≤ lim then some (.fz (.str (x ++ y))) else none
  | a, b => match a.lst?, b.lst? with
    | some xs, some ys => if xs.length + ys.length ≤ lim then some (.oL (xs ++ ys)) else none
    | _, _ => match a.tup?, b.tup? with
      | some xs, some ys => if xs.length + ys.length ≤ lim then some (.fz (.tuple (xs ++ ys))) else none
      | _, _ => none
def rCatL (K : PySem.W.Frag) : R2 := fun x y H Q => ∃ l b xs zs, x = .ref l ∧ y = .ref b ∧ SqL K H l xs ∧ SqL K H b zs ∧ xs.length + zs.length ≤ sizeLine ∧ ∀ p, H p = none → Q (.ref p) (upd H p (.lst (xs ++ zs)))
theorem op_catL {X : Cx} : OpR X (binaryOp .Add) (rCatL X.K) := by
  intro pins s σ H x y v u Q I rx ry h
  obtain ⟨l, b, xs, zs, rfl, rfl, hl, hb, hz, q⟩ := h
  cases rx
  cases ry
  obtain ⟨its, r, ⟨o1, n1, e1, k1, d1, t1⟩, _⟩ := I.list hl
  obtain ⟨its2, r2, ⟨o2, n2, e2, k2, d2, t2⟩, _⟩ := I.list hb
  have l1 := r.length
  have l2 := r2.length
  obtain ⟨c1, dd1, dt1, sl1⟩ := o1
  obtain ⟨c2, dd2, dt2, sl2⟩ := o2
  simp only at k1 d1 t1 k2 d2 t2
  subst k1 d1 t1 k2 d2 t2
  have ea : its.toArray ++ its2.toArray = (its ++ its2).toArray := by simp
  refine concat_meets ⟨_, e1, rfl⟩ ⟨_, e2, rfl⟩ noFill_list_add seq_list_add PySem.F.slot_list_add PySem.F.entry_list_add
    (PySem.F.args_list_add_2 _ _) (list_addW l b its.toArray its2.toArray n1 n2 none none sl1 sl2 (by simp only [List.size_toArray]; omega)) ⟨e1, e2, ?_⟩
  rw [ea]
  exact ⟨.ref _, _, I.lnew (t' := s.toks) (r.append r2) (by rw [List.length_append]; omega), rfl, q _ I.fresh⟩
def rAddA (K : PySem.W.Frag) : R2 := fun x y H Q => (∃ i j, x = .int i ∧ y = .int j ∧ Q (.int (i + j)) H) ∨ (∃ i j, x = .str i ∧ y = .str j ∧ i.length + j.length ≤ sizeLine ∧ Q (.str (i ++ j)) H) ∨ rCatL K x y H Q ∨ rCatG K x y H Q
theorem op_addA {X : Cx} : OpR X (binaryOp .Add) (rAddA X.K) := (op_add.or (op_add_str.or (op_catL.or op_catG)))
theorem fAdd_inv {a b o : OV} (h : fAdd a b = some o) : (∃ i j, a = .fz (.int i) ∧ b = .fz (.int j) ∧ o = .fz (.int (i + j))) ∨ (∃ x y, a = .fz (.str x) ∧ b = .fz (.str y) ∧ x.length + y.length ≤ lim ∧ o = .fz (.str (x ++ y))) ∨
    (∃ xs ys, a.lst? = some xs ∧ b.lst? = some ys ∧ xs.length + ys.length ≤ lim ∧ o = .oL (xs ++ ys)) ∨ ∃ xs ys, a.tup? = some xs ∧ b.tup? = some ys ∧ xs.length + ys.length ≤ lim ∧ o = .fz (.tuple (xs ++ ys)) := by
  unfold fAdd at h
  split at h
  · cases h; exact .inl ⟨_, _, rfl, rfl, rfl⟩
  · split at h
    · cases h; exact .inr (.inl ⟨_, _, rfl, rfl, by assumption, rfl⟩)
    · cases h
  · split at h
    · split at h
      · cases h; exact .inr (.inr (.inl ⟨_, _, by assumption, by assumption, by assumption, rfl⟩))
      · cases h
    · split at h
      · split at h
        · cases h; exact .inr (.inr (.inr ⟨_, _, by assumption, by assumption, by assumption, rfl⟩))
        · cases h
      · cases h
theorem p_add {K : PySem.W.Frag} : P2 K (rAddA K) fAdd := by
  intro s a v P b u R o w ra rb e Q hq
  rcases fAdd_inv e with ⟨i, j, rfl, rfl, rfl⟩ | ⟨x, y, rfl, rfl, h, rfl⟩ | ⟨xs, ys, h1, h2, h, rfl⟩ | ⟨xs, ys, h1, h2, h, rfl⟩
  · exact .inl ⟨i, j, ra.int, rb.int, hq.int w⟩
  · exact .inr (.inl ⟨x, y, ra.str, rb.str, le_line h, hq.str w⟩)
  · obtain ⟨l, vs, rfl, a1, a2⟩ := ra.lst h1
    obtain ⟨m, us, rfl, b1, b2⟩ := rb.lst h2
    exact .inr (.inr (.inl ⟨l, m, vs, us, rfl, rfl, a1, b1, by rw [a2.length, b2.length]; exact le_line h, fun p hp => hq.newL w (a2.append b2) hp⟩))
  · obtain ⟨l, vs, rfl, a1, a2⟩ := ra.tup h1
    obtain ⟨m, us, rfl, b1, b2⟩ := rb.tup h2
    have ea := OV.tup_of h1
    have eb := OV.tup_of h2
    subst ea eb
    refine .inr (.inr (.inr ⟨l, m, vs, us, rfl, rfl, a1, b1, by rw [a2.length, b2.length]; exact le_line h, fun z => ?_, fun _ z => ?_, fun _ _ p o n hp => hq.newTG w (a2.append b2) n hp⟩))
    · subst z
      cases a2
      cases rb with
      | fz rb => exact hq.fz w rb
    · subst z
      cases b2
      cases ra with
      | fz ra => exact hq.fz w (by rw [List.append_nil]; exact ra)
theorem DE.add {X : Cx} {a b : Expr} {pos : Pos} {m : MA} (h : DA X [a, b] m) : DE X (.BinOp a .Add b pos) (mOp (l2 fAdd) m) := .bin op_addA p_add h

/-! ### comparisons of ints -/
section
variable {X : Cx} {a b : Expr} {pos : Pos} {m : MA}
def fLt := iib fun i j => decide (i < j)
def fLe := iib fun i j => decide (i ≤ j)
def fGt := iib fun i j => decide (j < i)
def fGe := iib fun i j => decide (j ≤ i)
theorem DE.lt (h : DA X [a, b] m) : DE X (.Compare a [.Lt] [b] pos) (mOp (l2 fLt) m) := .cmp op_lt p_iib (nomark _) h
theorem DE.le (h : DA X [a, b] m) : DE X (.Compare a [.LtE] [b] pos) (mOp (l2 fLe) m) := .cmp op_le p_iib (nomark _) h
theorem DE.gt (h : DA X [a, b] m) : DE X (.Compare a [.Gt] [b] pos) (mOp (l2 fGt) m) := .cmp op_gt p_iib (nomark _) h
theorem DE.ge (h : DA X [a, b] m) : DE X (.Compare a [.GtE] [b] pos) (mOp (l2 fGe) m) := .cmp op_ge p_iib (nomark _) h
end
end G
namespace G
open PySem PySem.Spec PyProof.Rows L2

/-! ### deep views: ==, repr -/
mutual
theorem Rep.dp {K : PySem.W.Frag} {s : S} : ∀ (d : D) (v : V), Rep K s v d → d.hasDict = false → Dp K s.H v d
  | .none, _, h, _ => by cases h; exact .non
  | .bool _, _, h, _ => by cases h; exact .bl _
  | .int _, _, h, _ => by cases h; exact .int _
  | .str _, _, h, _ => by cases h; exact .str _
  | .list ds, _, h, q => by
    cases h with
    | lst h1 h2 => exact .lst h1.sq (RepL.dp ds _ h2 (by simpa [PyData.hasDict] using q))
  | .tuple ds, _, h, q => by
    cases h with
    | tup h1 h2 _ => exact .tup h1.sq (RepL.dp ds _ h2 (by simpa [PyData.hasDict] using q))
  | .dict es, _, h, q => by simp [PyData.hasDict] at q
theorem RepL.dp {K : PySem.W.Frag} {s : S} : ∀ (ds : List D) (vs : List V), RepL K s vs ds → PyData.hasDictAll ds = false → DpAll K s.H vs ds
  | [], _, h, _ => by cases h; exact .nil
  | d :: ds, _, h, q => by
    cases h with
    | cons h1 h2 =>
      simp only [PyData.hasDictAll, Bool.or_eq_false_iff] at q
      exact .cons (Rep.dp d _ h1 q.1) (RepL.dp ds _ h2 q.2)
end
def OV.flat? : OV → Option D
  | .fz d => if d.hasDict then none else some d
  | .oL ds => if PyData.hasDictAll ds then none else some (.list ds)
  | _ => none
theorem RepO.dp {K : PySem.W.Frag} {s : S} {o : OV} {v : V} {P : FP} {d : D} (h : RepO K s o v P) (e : o.flat? = some d) : Dp K s.H v d ∧ d.hasDict = false := by
  cases h with
  | fz h =>
    simp only [OV.flat?] at e
    split at e
    · cases e
    · rename_i q
      cases e
      have q' : d.hasDict = false := by simpa using q
      exact ⟨Rep.dp _ _ h q', q'⟩
  | @oL a vs ds h1 h2 =>
    simp only [OV.flat?] at e
    split at e
    · cases e
    · rename_i q
      cases e
      have q' : PyData.hasDictAll ds = false := by simpa using q
      exact ⟨.lst (SqL.of h1) (RepL.dp _ _ h2 q'), by simpa [PyData.hasDict] using q'⟩
  | _ => cases e
/-- two texts -/
def strS : OV → OV → Option (Str × Str)
  | .fz (.str x), .fz (.str y) => some (x, y)
  | _, _ => none
theorem strS_some {a b : OV} {p : Str × Str} (h : strS a b = some p) : a = .fz (.str p.1) ∧ b = .fz (.str p.2) := by
  unfold strS at h
  split at h
  · cases h; exact ⟨rfl, rfl⟩
  · cases h
def fEq : OV → OV → Option OV := fun a b => match strS a b with
  | some p => some (.fz (.bool (decide (p.1 = p.2))))
  | none => match a.flat?, b.flat? with
    | some x, some y => if SeqAt.shaped x && SeqAt.shaped y then some (.fz (.bool (PyData.eqv x y))) else none
    | _, _ => none
def fNe : OV → OV → Option OV := fun a b => match strS a b with
  | some p => some (.fz (.bool (!decide (p.1 = p.2))))
  | none => match a.flat?, b.flat? with
    | some x, some y => if SeqAt.shaped x && SeqAt.shaped y then some (.fz (.bool (!PyData.eqv x y))) else none
    | _, _ => none
def rEqA (K : PySem.W.Frag) : R2 := fun x y H Q => rEq x y H Q ∨ rEqD K x y H Q
def rNeA (K : PySem.W.Frag) : R2 := fun x y H Q => rNe x y H Q ∨ rNeD K x y H Q
theorem dec_strV (x y : Str) : decide (V.str x = V.str y) = decide (x = y) := by
  by_cases h : x = y
  · simp [h]
  · simp [h]
theorem p_eq {K : PySem.W.Frag} : P2 K (rEqA K) fEq := by
  intro s a v P b u R o w ra rb e Q hq
  unfold fEq at e
  split at e
  · rename_i p e1
    cases e
    obtain ⟨rfl, rfl⟩ := strS_some e1
    have h1 := ra.str
    have h2 := rb.str
    subst h1 h2
    exact .inl ⟨rfl, by rw [dec_strV]; exact hq.bl w⟩
  split at e
  · rename_i x y e1 e2
    split at e
    · rename_i c
      cases e
      rw [Bool.and_eq_true] at c
      exact .inr ⟨x, y, (ra.dp e1).1, (rb.dp e2).1, c.1, c.2, hq.bl w⟩
    · cases e
  · cases e
theorem p_ne {K : PySem.W.Frag} : P2 K (rNeA K) fNe := by
  intro s a v P b u R o w ra rb e Q hq
  unfold fNe at e
  split at e
  · rename_i p e1
    cases e
    obtain ⟨rfl, rfl⟩ := strS_some e1
    have h1 := ra.str
    have h2 := rb.str
    subst h1 h2
    exact .inl ⟨rfl, by rw [dec_strV]; exact hq.bl w⟩
  split at e
  · rename_i x y e1 e2
    split at e
    · rename_i c
      cases e
      rw [Bool.and_eq_true] at c
      exact .inr ⟨x, y, (ra.dp e1).1, (rb.dp e2).1, c.1, c.2, hq.bl w⟩
    · cases e
  · cases e
theorem op_eqA {X : Cx} {k : Nat} (hr : Room k X.A) : OpR X (compareOp .Eq) (rEqA X.K) := OpR.or op_eq (op_eqD hr.units)
theorem op_neA {X : Cx} {k : Nat} (hr : Room k X.A) : OpR X (compareOp .NotEq) (rNeA X.K) := OpR.or op_ne (op_neD hr.units)
section
variable {X : Cx} {a b e : Expr} {es : List Expr} {pos p : Pos} {m : MA} {k : Nat}
theorem hu64 (hr : Room k X.A) : X.A.units + 64 < cLine := hr.units
theorem DE.eq (hr : Room k X.A) (h : DA X [a, b] m) : DE X (.Compare a [.Eq] [b] pos) (mOp (l2 fEq) m) := .cmp (op_eqA hr) p_eq (nomark _) h
theorem DE.ne (hr : Room k X.A) (h : DA X [a, b] m) : DE X (.Compare a [.NotEq] [b] pos) (mOp (l2 fNe) m) := .cmp (op_neA hr) p_ne (nomark _) h
end

/-- repr -/
def fRepr : OV → Option OV := fun a => match a.flat? with
  | some d => if d.showable && decide (d.depth ≤ 60) && decide (d.shown.length ≤ lim) then some (.fz (.str d.shown)) else none
  | _ => none
def rRepr (K : PySem.W.Frag) : V → Hp → VK → Prop := fun x H Q => ∃ d : D, Dp K H x d ∧ d.hasDict = false ∧ d.showable = true ∧ d.depth ≤ 60 ∧ d.shown.length ≤ sizeLine ∧ Q (.str d.shown) H
theorem call_reprD {X : Cx} {k : Nat} (hr : Room k X.A) (hg : X.A.guards = some []) : CallR X (.builtin "repr") (lift1 (rRepr X.K)) := by
  intro pins s σ H xs us Q I r h
  match xs, h with
  | [x], h =>
    obtain ⟨d, hd, nd, hs, hdep, hsz, q⟩ := h
    obtain ⟨u, rfl, rx⟩ := vals1 r
    obtain ⟨as, rd⟩ := Dp.reads I d x u hd rx
    have fin : ∀ (h' : Heap) (t : Tok) (tk : Nat), (∀ b o, s.heap.get? b = some o → h'.get? b = some o) → EP X pins σ Q (.str d.shown t) { s with heap := h', toks := tk } := fun h' t tk kp => ⟨.str d.shown, H, I.kept kp, ⟨_, rfl⟩, q⟩
    have hu := hr.units
    cases hd with
    | non => cases rx; exact PySem.P.repr_of_none (by simpa only [PyData.shown] using fin s.heap _ _ fun _ _ e => e)
    | bl b => cases rx; exact PySem.P.repr_of_bool (by simpa only [PyData.shown] using fin s.heap _ _ fun _ _ e => e)
    | int i => obtain ⟨t, rfl⟩ := rx; exact PySem.P.repr_of_int (by simpa [PyData.showable] using hs) (by simpa only [PyData.shown] using fin s.heap _ _ fun _ _ e => e)
    | str z => obtain ⟨t, rfl⟩ := rx; exact PySem.P.repr_of_str (by simpa only [PyData.shown] using fin s.heap _ _ fun _ _ e => e) (by simpa only [PyData.shown] using hsz)
    | lst h1 h2 => cases rx; exact repr_of_reads' (h₀ := s.heap) rd hs (PyData.noDict_hsm nd) hg (by omega) (fun _ _ e => e) (fun h' t tk kp => fin h' t tk kp) hsz
    | tup h1 h2 => cases rx; exact repr_of_reads' (h₀ := s.heap) rd hs (PyData.noDict_hsm nd) hg (by omega) (fun _ _ e => e) (fun h' t tk kp => fin h' t tk kp) hsz
theorem p_repr {K : PySem.W.Frag} : P1 K (rRepr K) fRepr := by
  intro s a v P o w ra e Q hq
  unfold fRepr at e
  split at e
  · rename_i d e1
    split at e
    · rename_i c
      cases e
      simp only [Bool.and_eq_true, decide_eq_true_eq] at c
      obtain ⟨h1, h2⟩ := ra.dp e1
      exact ⟨d, h1, h2, c.1.1, c.1.2, le_line c.2, hq.str w⟩
    · cases e
  · cases e
theorem boot_repr : bootBuiltins "repr" = some (.builtin "repr") := by decide +kernel
section
variable {X : Cx} {a b e : Expr} {es : List Expr} {pos p : Pos} {m : MA} {k : Nat}
theorem DE.repr (hr : Room k X.A) (hgd : X.A.guards = some []) (hg : Gl X "repr") (hm : X.mg "repr" = none) (h : DA X [a] m) (he : starEach [a] X.env = (false, eval a X.env) :: starEach [] X.env := by rfl) : DE X (.Call (.Name "repr" p) [a] [] pos) (mOp (l1 fRepr) m) :=
  .callB (call_reprD hr hgd) p_repr.pure hg hm boot_repr h (by decide) (by decide) he rfl
/-! ### len, abs, min, max, sum, all, any -/
def fLen : OV → Option OV
  | .fz (.str x) => if x.length ≤ lim then some (.fz (.int x.length)) else none
  | .oD kvs => some (.fz (.int kvs.length))
  | o => match o.seq? with
    | some ds => some (.fz (.int ds.length))
    | none => none
def rLen (K : PySem.W.Frag) : V → Hp → VK → Prop := fun x H Q => (∃ n, LenV K x H n ∧ Q (.int n) H) ∨ ∃ a kvs, x = .ref a ∧ Rd H a (.dK kvs) ∧ Q (.int kvs.length) H
theorem call_lenA : CallR X (.builtin "len") (lift1 (rLen X.K)) := by
  intro pins s σ H xs us Q I r h
  match xs, h with
  | [x], h =>
    rcases h with ⟨n, h1, h2⟩ | ⟨a, kvs, rfl, h1, h2⟩
    · exact call_len pins s σ H [x] us Q I r ⟨x, n, rfl, h1, h2⟩
    · obtain ⟨u, rfl, rx⟩ := vals1 r
      cases rx
      exact d_len I h1 fun t s' I' => ⟨.int kvs.length, H, I', ⟨t, rfl⟩, h2⟩
theorem RepO'.len {K : PySem.W.Frag} {s : S} : ∀ {vs : List (Key × V)} {ds : List (Key × D)}, RepO' K s vs ds → vs.length = ds.length
  | _, _, .nil => rfl
  | _, _, .cons _ t => by simp [t.len]
theorem p_len {K : PySem.W.Frag} : P1 K (rLen K) fLen := by
  intro s a v P o w ra e Q hq
  unfold fLen at e
  split at e
  · rename_i x
    split at e
    · rename_i c
      cases e
      exact .inl ⟨x.length, by rw [ra.str]; exact ⟨le_line c, rfl⟩, hq.int w⟩
    · cases e
  · rename_i kvs
    cases e
    cases ra with
    | oD h1 h2 => exact .inr ⟨_, _, rfl, .inl h1, by rw [h2.len]; exact hq.int w⟩
  · split at e
    · rename_i ds e1
      cases e
      obtain ⟨l, vs, rfl, h1, h2⟩ := ra.seq e1
      refine .inl ⟨ds.length, ?_, hq.int w⟩
      rcases h1 with h1 | h1
      · exact .inl ⟨vs, h1, h2.length.symm⟩
      · exact .inr ⟨vs, h1, h2.length.symm⟩
    · cases e
theorem boot_len' : bootBuiltins "len" = some (.builtin "len") := by decide +kernel
theorem DE.len (hg : Gl X "len") (hm : X.mg "len" = none) (h : DA X [a] m) (he : starEach [a] X.env = (false, eval a X.env) :: starEach [] X.env := by rfl) : DE X (.Call (.Name "len" p) [a] [] pos) (mOp (l1 fLen) m) :=
  .callB call_lenA p_len.pure hg hm boot_len' h (by decide) (by decide) he rfl
def fAbs : OV → Option OV
  | .fz (.int i) => some (.fz (.int (if i < 0 then -i else i)))
  | _ => none
theorem pure_abs {K : PySem.W.Frag} : Pure K (fun xs H Q => ∃ i, xs = [V.int i] ∧ Q (V.int (if i < 0 then -i else i)) H) (l1 fAbs) := by
  intro s os vs o w rd e Q hq
  cases rd with
  | nil => cases e
  | cons h1 t =>
    cases t with
    | cons _ _ => cases e
    | nil =>
      simp only [l1] at e
      unfold fAbs at e
      split at e
      · cases e; exact ⟨_, by rw [h1.int], hq.int w⟩
      · cases e
theorem boot_abs' : bootBuiltins "abs" = some (.builtin "abs") := by decide +kernel
theorem DE.abs (hg : Gl X "abs") (hm : X.mg "abs" = none) (h : DA X [a] m) (he : starEach [a] X.env = (false, eval a X.env) :: starEach [] X.env := by rfl) : DE X (.Call (.Name "abs" p) [a] [] pos) (mOp (l1 fAbs) m) :=
  .callB call_abs pure_abs hg hm boot_abs' h (by decide) (by decide) he rfl
def fMax2 : OV → OV → Option OV
  | .fz (.int i), .fz (.int j) => some (.fz (.int (if j > i then j else i)))
  | _, _ => none
def fMin2 : OV → OV → Option OV
  | .fz (.int i), .fz (.int j) => some (.fz (.int (if j < i then j else i)))
  | _, _ => none
theorem rd2 {K : PySem.W.Frag} {s : S} {os : List OV} {vs : List V} {f : OV → OV → Option OV} {o : OV} (rd : RdO K s os vs) (e : l2 f os = some o) : ∃ x y u v P R, os = [x, y] ∧ vs = [u, v] ∧ RepO K s x u P ∧ RepO K s y v R ∧ f x y = some o := by
  cases rd with
  | nil => cases e
  | cons h1 t =>
    cases t with
    | nil => cases e
    | cons h2 t =>
      cases t with
      | nil => exact ⟨_, _, _, _, _, _, rfl, rfl, h1, h2, e⟩
      | cons _ _ => cases e
theorem rd1 {K : PySem.W.Frag} {s : S} {os : List OV} {vs : List V} {f : OV → Option OV} {o : OV} (rd : RdO K s os vs) (e : l1 f os = some o) : ∃ x u P, os = [x] ∧ vs = [u] ∧ RepO K s x u P ∧ f x = some o := by
  cases rd with
  | nil => cases e
  | cons h1 t =>
    cases t with
    | nil => exact ⟨_, _, _, rfl, rfl, h1, e⟩
    | cons _ _ => cases e
theorem pure_max2 {K : PySem.W.Frag} : Pure K (fun xs H Q => ∃ i j, xs = [V.int i, V.int j] ∧ Q (V.int (if j > i then j else i)) H) (l2 fMax2) := by
  intro s os vs o w rd e Q hq
  obtain ⟨x, y, u, v, P, R, rfl, rfl, h1, h2, e⟩ := rd2 rd e
  unfold fMax2 at e
  split at e
  · cases e; exact ⟨_, _, by rw [h1.int, h2.int], hq.int w⟩
  · cases e
theorem pure_min2 {K : PySem.W.Frag} : Pure K (fun xs H Q => ∃ i j, xs = [V.int i, V.int j] ∧ Q (V.int (if j < i then j else i)) H) (l2 fMin2) := by
  intro s os vs o w rd e Q hq
  obtain ⟨x, y, u, v, P, R, rfl, rfl, h1, h2, e⟩ := rd2 rd e
  unfold fMin2 at e
  split at e
  · cases e; exact ⟨_, _, by rw [h1.int, h2.int], hq.int w⟩
  · cases e
theorem boot_max' : bootBuiltins "max" = some (.builtin "max") := by decide +kernel
theorem boot_min' : bootBuiltins "min" = some (.builtin "min") := by decide +kernel
theorem DE.max2 (hc : X.calm = true) (hg : Gl X "max") (hm : X.mg "max" = none) (h : DA X [a, b] m) (he : starEach [a, b] X.env = (false, eval a X.env) :: starEach [b] X.env := by rfl) (hpl : (backTo pos (starEach [b] X.env)).any (·.1) = false := by rfl) : DE X (.Call (.Name "max" p) [a, b] [] pos) (mOp (l2 fMax2) m) :=
  .callB (call_max2 hc) pure_max2 hg hm boot_max' h (by decide) (by decide) he hpl
theorem DE.min2 (hc : X.calm = true) (hg : Gl X "min") (hm : X.mg "min" = none) (h : DA X [a, b] m) (he : starEach [a, b] X.env = (false, eval a X.env) :: starEach [b] X.env := by rfl) (hpl : (backTo pos (starEach [b] X.env)).any (·.1) = false := by rfl) : DE X (.Call (.Name "min" p) [a, b] [] pos) (mOp (l2 fMin2) m) :=
  .callB (call_min2 hc) pure_min2 hg hm boot_min' h (by decide) (by decide) he hpl
/-! ### list(x), tuple(x) -/
def fList : OV → Option OV := fun o => match o with
  | .oD kvs => some (.oL (kvs.map fun p => kD p.1))
  | .fz (.dict es) => some (.oL (es.map (·.1)))
  | o => match o.seq? with
    | some ds => some (.oL ds)
    | none => none
def rList (K : PySem.W.Frag) : V → Hp → VK → Prop := fun x H Q => (∃ p ys, x = .ref p ∧ (SqL K H p ys ∨ SqT K H p ys) ∧ ∀ l, H l = none → Q (.ref l) (upd H l (.lst ys))) ∨
  ∃ a kvs, x = .ref a ∧ Rd H a (.dK kvs) ∧ ∀ p, H p = none → Q (.ref p) (upd H p (.lst (kvs.map fun kv => kV kv.1)))
theorem call_listA (hc : X.calm = true) : CallR X (.type "list") (lift1 (rList X.K)) := by
  intro pins s σ H xs us Q I r h
  match xs, h with
  | [x], h =>
    rcases h with ⟨p, ys, rfl, h1, h2⟩ | ⟨a, kvs, rfl, h1, h2⟩
    · exact call_list_of pins s σ H _ us Q I r ⟨p, ys, rfl, h1, h2⟩
    · exact call_listD hc pins s σ H _ us Q I r ⟨a, kvs, rfl, h1, h2⟩
theorem RepO'.keys {K : PySem.W.Frag} {s : S} : ∀ {vs : List (Key × V)} {ds : List (Key × D)}, RepO' K s vs ds → vs.map (·.1) = ds.map (·.1)
  | _, _, .nil => rfl
  | _, _, .cons _ t => by simp [t.keys]
theorem rep_keys {K : PySem.W.Frag} {s : S} : ∀ ks : List Key, RepL K s (ks.map kV) (ks.map kD)
  | [] => .nil
  | .inl i :: ks => .cons (.int i) (rep_keys ks)
  | .inr x :: ks => .cons (.str x) (rep_keys ks)
theorem RepK.keysL {K : PySem.W.Frag} {s : S} : ∀ {vs : List (Key × V)} {es : List (D × D)}, RepK K s vs es → RepL K s (vs.map fun kv => kV kv.1) (es.map (·.1))
  | _, _, .nil => .nil
  | _, _, .cons (k := .inl i) _ t => .cons (.int i) t.keysL
  | _, _, .cons (k := .inr i) _ t => .cons (.str i) t.keysL
theorem p_list {K : PySem.W.Frag} : P1 K (rList K) fList := by
  intro s a v P o w ra e Q hq
  unfold fList at e
  split at e
  · rename_i kvs
    cases e
    cases ra with
    | oD h1 h2 =>
      refine .inr ⟨_, _, rfl, .inl h1, fun p hp => hq.newL w ?_ hp⟩
      have z := rep_keys (K := K) (s := s) (kvs.map (·.1))
      have e1 : (kvs.map (·.1)).map kV = _ := congrArg (List.map kV) h2.keys.symm
      rw [e1, List.map_map, List.map_map] at z
      exact z
  · rename_i es
    cases e
    cases ra with
    | fz ra =>
      cases ra with
      | dic h1 h2 h3 => exact .inr ⟨_, _, rfl, h2, fun p hp => hq.newL w h3.keysL hp⟩
  · split at e
    · rename_i ds e1
      cases e
      obtain ⟨l, vs, rfl, h1, h2⟩ := ra.seq e1
      exact .inl ⟨l, vs, rfl, h1, fun p hp => hq.newL w h2 hp⟩
    · cases e
theorem boot_list' : bootBuiltins "list" = some (.type "list") := by decide +kernel
theorem boot_tuple' : bootBuiltins "tuple" = some (.type "tuple") := by decide +kernel
theorem DE.list (hc : X.calm = true) (hg : Gl X "list") (hm : X.mg "list" = none) (h : DA X [a] m) (he : starEach [a] X.env = (false, eval a X.env) :: starEach [] X.env := by rfl) : DE X (.Call (.Name "list" p) [a] [] pos) (mOp (l1 fList) m) :=
  .callTy (call_listA hc) p_list.pure hg hm boot_list' h (by decide) (by decide) he rfl
def fTuple : OV → Option OV := fun o => match o.seq? with
  | some ds => some (.fz (.tuple ds))
  | none => none
theorem p_tupG {K : PySem.W.Frag} : P1 K (rTupG K) fTuple := by
  intro s a v P o w ra e Q hq
  unfold fTuple at e
  split at e
  · rename_i ds e1
    cases e
    cases ra with
    | fz h1 =>
      cases h1 with
      | lst a1 a2 => cases e1; exact .inl ⟨_, _, rfl, a1.sq, fun l o n hl => hq.newTG w a2 n hl⟩
      | tup a1 a2 a3 => cases e1; exact .inr ⟨_, _, rfl, a1.sq, hq.fz w (.tup a1 a2 a3)⟩
      | _ => cases e1
    | oL a1 a2 => cases e1; exact .inl ⟨_, _, rfl, SqL.of a1, fun l o n hl => hq.newTG w a2 n hl⟩
    | _ => cases e1
  · cases e
theorem DE.tuple (hg : Gl X "tuple") (hm : X.mg "tuple" = none) (h : DA X [a] m) (he : starEach [a] X.env = (false, eval a X.env) :: starEach [] X.env := by rfl) : DE X (.Call (.Name "tuple" p) [a] [] pos) (mOp (l1 fTuple) m) :=
  .callTy call_tupG p_tupG.pure hg hm boot_tuple' h (by decide) (by decide) he rfl
/-! ### subscripts: x[i] -/
def fIx : OV → OV → Option OV := fun a b => match b with
  | .fz (.int i) => match a with
    | .fz (.str z) => if z.length ≤ lim then (atI z.cps.toList i).map fun c => .fz (.str ⟨#[c]⟩) else none
    | a => match a.seq? with
      | some ds => (atI ds i).map fun d => .fz d
      | none => none
  | _ => none
theorem RepL.atI {K : PySem.W.Frag} {s : S} {vs : List V} {ds : List D} (h : RepL K s vs ds) {i : Int} {d : D} (e : L2.atI ds i = some d) : ∃ v, L2.atI vs i = some v ∧ Rep K s v d := by
  unfold L2.atI at e ⊢
  rw [h.length]
  cases q : ixN ds.length i with
  | none => rw [q] at e; cases e
  | some j =>
    rw [q] at e
    exact h.get' e
theorem p_ix {K : PySem.W.Frag} : P2 K (rIx K) fIx := by
  intro s a v P b u R o w ra rb e Q hq
  unfold fIx at e
  split at e
  · rename_i i
    split at e
    · rename_i z
      split at e
      · rename_i c
        obtain ⟨cc, h1, rfl⟩ := Option.map_eq_some_iff.mp e
        exact .inr (.inr ⟨z, i, cc, ra.str, rb.int, le_line c, h1, hq.str w⟩)
      · cases e
    · split at e
      · rename_i ds e1
        obtain ⟨d, h1, rfl⟩ := Option.map_eq_some_iff.mp e
        obtain ⟨l, vs, rfl, h2, h3⟩ := ra.seq e1
        obtain ⟨y, h4, h5⟩ := h3.atI h1
        rcases h2 with h2 | h2
        · exact .inl ⟨l, vs, i, y, rfl, rb.int, h2, h4, hq.fz w h5⟩
        · exact .inr (.inl ⟨l, vs, i, y, rfl, rb.int, h2, h4, hq.fz w h5⟩)
      · cases e
  · cases e
theorem DE.item (h : DA X [a, b] m) (hs : PlainIx b := by exact fun _ _ => rfl) : DE X (.Subscript a b pos) (mOp (l2 fIx) m) := .ix ix_seq p_ix h hs
/-! ### displays -/
def fzAll : List OV → Option (List D)
  | [] => some []
  | o :: os => match o.frz with
    | none => none
    | some d => (fzAll os).map (d :: ·)
end
end G
namespace G
open PySem PySem.Spec PyProof.Rows L2

/-! ### operands frozen -/
def frzA : Env → List AV → Option (List D × Env)
  | e, [] => some ([], e)
  | e, .own o :: as => match o.frz with
    | none => none
    | some d => match frzA e as with
      | none => none
      | some (ds, e') => some (d :: ds, e')
  | e, .at i :: as => match lk e i with
    | none => none
    | some o => match o.frz with
      | none => none
      | some d => match frzA (e.set i (some (.fz d))) as with
        | none => none
        | some (ds, e') => some (d :: ds, e')
theorem frzA_ok {K : PySem.W.Frag} {σ : L2.St} : ∀ {as : List AV} {vs : List V} {s : S} {R P : FP} {e : Env} {ds : List D} {e2 : Env}, AvOk K s σ as vs R → EnvOk K s σ e P → Dis P R → Own (fU P R) s → frzA e as = some (ds, e2) →
    ∃ s' P', s'.H = s.H ∧ EnvOk K s' σ e2 P' ∧ RepL K s' vs ds ∧ Own P' s' ∧ Ext (fU P R) s P' s'
  | _, _, s, _, P, e, _, _, .nil, h, d, w, q => by
    cases q
    exact ⟨s, P, rfl, h, .nil, w.sub fun _ z => .inl z, (Ext.refl _ _).sub fun _ z => .inl z⟩
  | _, _, s, _, P, e, _, _, .own (o := o) (v := v) (P := Po) (R := Ro) h1 h2 h3, h, d, w, q => by
    simp only [frzA] at q
    split at q
    · cases q
    · rename_i dd q1
      split at q
      · cases q
      · rename_i ds' e' q2
        cases q
        have x1 : Ext (fU P (fU Po Ro)) s (fun a => fU P (fU Po Ro) a ∧ ¬ Po a) ⟨s.H, fU s.Z Po⟩ := Ext.freeze w fun a z => .inr (.inl z)
        have f1 : Fz s ⟨s.H, fU s.Z Po⟩ := x1.fz
        have w1 : Own (fU P Ro) (⟨s.H, fU s.Z Po⟩ : S) := ⟨fun a z => by
          have hz : fU P (fU Po Ro) a := z.elim .inl fun z => .inr (.inr z)
          refine ⟨fun y => ?_, (w.o a hz).2⟩
          rcases y with y | y
          · exact (w.o a hz).1 y
          · exact z.elim (fun z => d a z (.inl y)) fun z => h3 a y z, fun a z => z.elim (w.w a) fun y => (w.o a (.inr (.inl y))).2⟩
        obtain ⟨s', P', a1, a2, a3, a4, a5⟩ := frzA_ok (h2.mono ⟨f1, fun _ _ => rfl⟩) (h.mono ⟨f1, fun _ _ => rfl⟩) (fun a z y => d a z (.inr y)) w1 q2
        refine ⟨s', P', a1, a2, .cons ((h1.freeze q1 (fun _ z => .inl z) fun _ z => .inr z).mono a5.fz) a3, a4, (x1.sub fun a z => ?_).trans a5⟩
        rcases z with z | z
        · exact ⟨.inl z, fun y => d a z (.inl y)⟩
        · exact ⟨.inr (.inr z), fun y => h3 a y z⟩
  | _, _, s, R, P, e, _, _, .at (i := i) (v := v) h1 h2, h, d, w, q => by
    simp only [frzA] at q
    split at q
    · cases q
    · rename_i o q0
      split at q
      · cases q
      · rename_i dd q1
        split at q
        · cases q
        · rename_i ds' e' q2
          cases q
          have wP : Own P s := w.sub fun _ z => .inl z
          have wR : Own R s := w.sub fun _ z => .inr z
          obtain ⟨v', s1, P1, b1, b2, b3, b4, b5, b6⟩ := h.freeze wP q0 q1
          rw [h1] at b1; cases b1
          have wR1 := b5.ownR d wR
          obtain ⟨s', P', a1, a2, a3, a4, a5⟩ := frzA_ok (h2.mono (b5.kp d wR)) b3 (b5.disR d wR) (b4.or wR1) q2
          exact ⟨s', P', a1.trans b2, a2, .cons (Rep.mono a5.fz _ _ b6) a3, a4, b5.frame.trans a5⟩
/-- behind the operands, a new object of frozen things -/
def mTup (m : MA) : ME := fun env => match m env with
  | none => none
  | some (as, e1) => match frzA e1 as with
    | none => none
    | some (ds, e2) => if ds.length ≤ lim then some (.fz (.tuple ds), e2) else none
def mLst (m : MA) : ME := fun env => match m env with
  | none => none
  | some (as, e1) => match frzA e1 as with
    | none => none
    | some (ds, e2) => if ds.length ≤ lim then some (.oL ds, e2) else none
section
variable {X : Cx} {a b e : Expr} {es : List Expr} {pos p : Pos} {m : MA} {k : Nat}
theorem PostE.pure {K : PySem.W.Frag} {σ : L2.St} {s : S} {P : FP} {o : OV} {e' : Env} {Q : VK} (h : PostE K σ s P o e' Q) {s1 : S} {P1 : FP} (h1 : EnvOk K s1 σ e' P1) (w : Own P1 s1) (x : Ext P s P1 s1) : PostP K s1 o Q := by
  intro v s2 R r w2 x2
  have d0 : Dis fE P1 := fun _ z => z.elim
  refine h v s2 P1 R (h1.mono (x2.kp d0 w)) r (fun a z y => x2.disR d0 w a y z) ((x2.ownR d0 w).or w2) (x.trans ((x2.frame (R := P1)).wide fun a z => ?_) |>.sub fun a z => z.symm)
  exact z.resolve_left fun w => w
theorem DE.tup {kk : Nat} (hA : DA X es m) : DE X (.Tuple es kk pos) (mTup m) := by
  obtain ⟨ts, h1, h2, h3⟩ := hA.run
  refine ⟨_, pe_tupG h2, fun σ s env P o env' a1 a2 a3 Q hq => ?_⟩
  unfold mTup at a3
  split at a3
  · cases a3
  · rename_i as e1 q1
    split at a3
    · cases a3
    · rename_i ds e2 q2
      split at a3
      · rename_i hz
        cases a3
        refine h3 σ s env P as e1 a1 a2 q1 _ fun vs s1 P1 R b1 b2 b3 b4 b5 => ?_
        obtain ⟨s2, P2, c1, c2, c3, c4, c5⟩ := frzA_ok b2 b1 b3 b4 q2
        refine ⟨by rw [c3.length]; exact le_line hz, fun p o n hp => ?_⟩
        rw [← c1] at hp ⊢
        exact (hq.pure c2 c4 (b5.trans c5)).newTG c4.w c3 n hp
      · cases a3
theorem DE.lst (hA : DA X es m) : DE X (.List es pos) (mLst m) := by
  obtain ⟨ts, h1, h2, h3⟩ := hA.run
  refine ⟨_, pe_lst h2, fun σ s env P o env' a1 a2 a3 Q hq => ?_⟩
  unfold mLst at a3
  split at a3
  · cases a3
  · rename_i as e1 q1
    split at a3
    · cases a3
    · rename_i ds e2 q2
      split at a3
      · rename_i hz
        cases a3
        refine h3 σ s env P as e1 a1 a2 q1 _ fun vs s1 P1 R b1 b2 b3 b4 b5 => ?_
        obtain ⟨s2, P2, c1, c2, c3, c4, c5⟩ := frzA_ok b2 b1 b3 b4 q2
        refine ⟨by rw [c3.length]; exact le_line hz, fun p hp => ?_⟩
        rw [← c1] at hp ⊢
        exact (hq.pure c2 c4 (b5.trans c5)).newL c4.w c3 hp
      · cases a3
theorem DE.dic0 : DE X (.Dict [] [] pos) (mC (.oD [])) :=
  ⟨tDNewK, pe_dnewK, fun σ s env P o env' h1 h2 h3 Q hq => by
    cases h3
    intro p hp
    exact (hq.pure h1 h2 (.refl _ _)).newD h2.w .nil hp⟩

/-! ### dicts -/
def lkD (kvs : List (Key × D)) (k : Key) : Option D := (kvs.find? fun kv => decide (kv.1 = k)).map (·.2)
def putD (kvs : List (Key × D)) (k : Key) (v : D) : List (Key × D) :=
  if (kvs.any fun kv => decide (kv.1 = k)) then kvs.map fun kv => if kv.1 = k then (kv.1, v) else kv else kvs ++ [(k, v)]
def keyOf : D → Option Key
  | .int i => some (.inl i)
  | .str x => some (.inr x)
  | _ => none
def esK : List (D × D) → Option (List (Key × D))
  | [] => some []
  | (k, v) :: es => match keyOf k with
    | none => none
    | some k' => (esK es).map ((k', v) :: ·)
def OV.dic? : OV → Option (List (Key × D))
  | .oD kvs => some kvs
  | .fz (.dict es) => esK es
  | _ => none
def OV.key? : OV → Option Key
  | .fz d => keyOf d
  | _ => none
theorem keyOf_kD (k : Key) : keyOf (kD k) = some k := by cases k <;> rfl
theorem RepK.toO' {K : PySem.W.Frag} {s : S} : ∀ {vs : List (Key × V)} {es : List (D × D)} {ds : List (Key × D)}, RepK K s vs es → esK es = some ds → RepO' K s vs ds
  | _, _, _, .nil, e => by cases e; exact .nil
  | _, _, _, .cons (k := k) h t, e => by
    simp only [esK, keyOf_kD, Option.map_eq_some_iff] at e
    obtain ⟨r, e, rfl⟩ := e
    exact .cons h (t.toO' e)
theorem RepO.dic {K : PySem.W.Frag} {s : S} {o : OV} {v : V} {P : FP} (h : RepO K s o v P) {ds : List (Key × D)} (e : o.dic? = some ds) : ∃ a vs, v = .ref a ∧ Rd s.H a (.dK vs) ∧ RepO' K s vs ds := by
  cases h with
  | fz h =>
    cases h with
    | dic h1 h2 h3 => exact ⟨_, _, rfl, h2, h3.toO' e⟩
    | _ => cases e
  | oD h1 h2 => cases e; exact ⟨_, _, rfl, .inl h1, h2⟩
  | _ => cases e
theorem RepO.key {K : PySem.W.Frag} {s : S} {o : OV} {v : V} {P : FP} (h : RepO K s o v P) {k : Key} (e : o.key? = some k) : v = kV k := by
  cases h with
  | fz h =>
    cases h with
    | int i => cases e; rfl
    | str i => cases e; rfl
    | _ => cases e
  | _ => cases e
theorem RepO'.val {K : PySem.W.Frag} {s : S} : ∀ {vs : List (Key × V)} {ds : List (Key × D)}, RepO' K s vs ds → ∀ k, (valV vs k = none ∧ lkD ds k = none) ∨ ∃ v d, valV vs k = some v ∧ lkD ds k = some d ∧ Rep K s v d
  | _, _, .nil, k => .inl ⟨rfl, rfl⟩
  | _, _, .cons (k := k') (v := v) (d := d) h t, k => by
    by_cases e : k' = k
    · exact .inr ⟨v, d, by simp [valV, List.find?_cons, e], by simp [lkD, List.find?_cons, e], h⟩
    · rcases t.val k with ⟨a, b⟩ | ⟨v, d, a, b, c⟩
      · exact .inl ⟨by rw [← a]; simp [valV, List.find?_cons, e], by rw [← b]; simp [lkD, List.find?_cons, e]⟩
      · exact .inr ⟨v, d, by rw [← a]; simp [valV, List.find?_cons, e], by rw [← b]; simp [lkD, List.find?_cons, e], c⟩
theorem RepO'.any {K : PySem.W.Frag} {s : S} (k : Key) : ∀ {vs : List (Key × V)} {ds : List (Key × D)}, RepO' K s vs ds → (vs.any fun kv => decide (kv.1 = k)) = ds.any fun kv => decide (kv.1 = k)
  | _, _, .nil => rfl
  | _, _, .cons h t => by simp [t.any k]
theorem RepO'.app {K : PySem.W.Frag} {s : S} : ∀ {vs us : List (Key × V)} {ds es : List (Key × D)}, RepO' K s vs ds → RepO' K s us es → RepO' K s (vs ++ us) (ds ++ es)
  | _, _, _, _, .nil, h => h
  | _, _, _, _, .cons h t, g => .cons h (t.app g)
theorem RepO'.mapv {K : PySem.W.Frag} {s : S} (k : Key) {v : V} {d : D} (r : Rep K s v d) : ∀ {vs : List (Key × V)} {ds : List (Key × D)}, RepO' K s vs ds →
    RepO' K s (vs.map fun kv => if kv.1 = k then (kv.1, v) else kv) (ds.map fun kv => if kv.1 = k then (kv.1, d) else kv)
  | _, _, .nil => .nil
  | _, _, .cons (k := k') h t => by
    simp only [List.map_cons]
    by_cases e : k' = k
    · rw [if_pos e, if_pos e]; exact .cons r (t.mapv k r)
    · rw [if_neg e, if_neg e]; exact .cons h (t.mapv k r)
theorem RepO'.put {K : PySem.W.Frag} {s : S} {vs : List (Key × V)} {ds : List (Key × D)} (h : RepO' K s vs ds) (k : Key) {v : V} {d : D} (r : Rep K s v d) : RepO' K s (putK vs k v) (putD ds k d) := by
  unfold putK putD
  rw [h.any k]
  split
  · exact h.mapv k r
  · exact h.app (.cons r .nil)
/-- x[i] of lists, tuples, texts, dicts -/
theorem ix_dic {X : Cx} (hu : X.A.units + 1 < cLine) : IxR X (fun x y H Q => ∃ a v, x = .ref a ∧ DGet H a y (some v) ∧ Q v H) := by
  intro value slice pins s σ H x y v u Q I rx ry h hs
  obtain ⟨a, z, rfl, g, q⟩ := h
  cases rx
  exact tail_any (dict_typeIs I g) PySem.F.slot_dict_getitem.lookup (d_getItem hu I g ry fun w' s' I' r' => ⟨z, H, I', r', q⟩) hs
def rIxA (K : PySem.W.Frag) : R2 := fun x y H Q => rIx K x y H Q ∨ ∃ a v, x = .ref a ∧ DGet H a y (some v) ∧ Q v H
def fIxA : OV → OV → Option OV := fun a b => match a.dic? with
  | some kvs => match b.key? with
    | some k => (lkD kvs k).map fun d => .fz d
    | none => none
  | none => fIx a b
theorem p_ixA {K : PySem.W.Frag} : P2 K (rIxA K) fIxA := by
  intro s a v P b u R o w ra rb e Q hq
  unfold fIxA at e
  split at e
  · rename_i kvs e1
    split at e
    · rename_i k e2
      obtain ⟨d, h1, rfl⟩ := Option.map_eq_some_iff.mp e
      obtain ⟨p, vs, rfl, c1, c2⟩ := ra.dic e1
      rcases c2.val k with ⟨_, z⟩ | ⟨y, d', z1, z2, z3⟩
      · rw [h1] at z; cases z
      · rw [h1] at z2; cases z2
        exact .inr ⟨p, y, rfl, .inl ⟨vs, k, c1, rb.key e2, z1.symm⟩, hq.fz w z3⟩
    · cases e
  · exact .inl (p_ix s a v P b u R o w ra rb e Q hq)
theorem DE.at_ (hr : Room k X.A) (h : DA X [a, b] m) (hs : PlainIx b := by exact fun _ _ => rfl) : DE X (.Subscript a b pos) (mOp (l2 fIxA) m) := .ix (ix_seq.or (ix_dic (hu_of hr))) p_ixA h hs
/-- d.get(k, x) -/
def mGet (m : MV) (r : MA) : ME := fun env => match m env with
  | none => none
  | some (a, e1) => match resolve1 e1 a with
    | none => none
    | some o1 => match o1.dic? with
      | none => none
      | some _ => match r e1 with
        | none => none
        | some (as, e2) => match resolve e2 (a :: as) with
          | some [o, ok, ox] => match o.dic?, ok.key?, ox with
            | some kvs, some kk, .fz d => some (.fz ((lkD kvs kk).getD d), e2)
            | _, _, _ => none
          | _ => none
theorem RdO.one {K : PySem.W.Frag} {s : S} {a : OV} {vs : List V} (h : RdO K s [a] vs) : ∃ u P, vs = [u] ∧ RepO K s a u P := by
  cases h with
  | cons h1 t => cases t; exact ⟨_, _, rfl, h1⟩
theorem RdO.three {K : PySem.W.Frag} {s : S} {a b c : OV} {vs : List V} (h : RdO K s [a, b, c] vs) : ∃ u v x P Q R, vs = [u, v, x] ∧ RepO K s a u P ∧ RepO K s b v Q ∧ RepO K s c x R := by
  cases h with
  | cons h1 t =>
    cases t with
    | cons h2 t =>
      cases t with
      | cons h3 t => cases t; exact ⟨_, _, _, _, _, _, rfl, h1, h2, h3⟩
theorem DE.get {o kx dx : Expr} {apos cpos : Pos} {mo : MV} (hr : Room k X.A) (ho : DV X o mo) (hA : DA X [kx, dx] m) (mm : M2 X o "get" apos kx dx cpos) : DE X (.Call (.Attribute o "get" apos) [kx, dx] [] cpos) (mGet mo m) := by
  obtain ⟨t0, p0, r0⟩ := ho.run
  obtain ⟨ts, h1, h2, h3⟩ := hA.run
  obtain ⟨ta, tb, rfl, pa, pb⟩ := h1.two (es := [])
  refine ⟨_, pe_dget2 (hu_of hr) p0 pa pb mm, fun σ s env P oo env' a1 a2 a3 Q hq => ?_⟩
  unfold mGet at a3
  split at a3
  · cases a3
  rename_i a e1 q1
  split at a3
  · cases a3
  rename_i o1 q2
  split at a3
  · cases a3
  rename_i kv1 q3
  split at a3
  · cases a3
  rename_i as e2 q4
  split at a3
  · rename_i o ok ox q5
    split at a3
    · rename_i kvs kk d q6 q7
      cases a3
      refine r0 σ s env P a e1 a1 a2 q1 _ fun v s1 P1 R b1 b2 b3 b4 b5 => ?_
      have rd := b2.read b1 (os := [o1]) (by simp [resolve, q2])
      obtain ⟨u0, W0, e0, rd⟩ := rd.one
      cases e0
      obtain ⟨ad, vs, rfl, c1, c2⟩ := rd.dic q3
      refine ⟨ad, rfl, .inl ⟨vs, c1⟩, ?_⟩
      have o1' : Own R s1 := b4.sub fun _ z => .inr z
      refine h3 σ s1 e1 P1 as _ b1 (b4.sub fun _ z => .inl z) q4 (fun ys H3 => lift2 (fun y z H Q => ∃ o, DGet H ad y o ∧ Q (o.getD z) H) ys H3 Q) fun ys s2 P2 R2 d1 d2 d3 d4 d5 => ?_
      have kk2 := d5.kp b3 o1'
      have dd := d5.disR b3 o1'
      have av := (b2.mono kk2).app1 d2 fun x z w => dd x (.inr w) z
      have rd3 := av.read d1 q5
      obtain ⟨u1, u2, u3, W1, W2, W3, e', g1, g2, g3⟩ := rd3.three
      cases e'
      show ∃ o, DGet s2.H ad u2 o ∧ Q (o.getD u3) s2.H
      obtain ⟨ad', vs', e'', c1', c2'⟩ := g1.dic q6
      cases e''
      refine ⟨valV vs' kk, .inl ⟨vs', kk, c1', g2.key q7, rfl⟩, ?_⟩
      have d21 : Dis P2 R2 := d3
      have w2 : Own P2 s2 := d4.sub fun _ z => .inl z
      have pp : PostP X.K s2 (.fz ((lkD kvs kk).getD d)) Q := hq.pure d1 w2 ((b5.trans (d5.frame (R := R))).sub fun x z => .inl (.inl z))
      refine pp.fz d4.w ?_
      rcases c2'.val kk with ⟨z1, z2⟩ | ⟨y, d', z1, z2, z3⟩
      · rw [z1, z2]
        cases g3 with
        | fz g3 => exact g3
      · rw [z1, z2]; exact z3
    · cases a3
  · cases a3
end
end G
namespace G
open PySem PySem.Spec PyProof.Rows L2

/-! ### tests -/
abbrev MT := Env → Option (Bool × Env)
def PostT (K : PySem.W.Frag) (σ : L2.St) (s : S) (P : FP) (b : Bool) (e' : Env) (Q : Bool → Hp → Prop) : Prop :=
  ∀ s' P', EnvOk K s' σ e' P' → Own P' s' → Ext P s P' s' → Q b s'.H
structure DT (X : Cx) (e : Expr) (m : MT) : Prop where
  run : ∃ t, PT X e t ∧ ∀ σ s env P b env', EnvOk X.K s σ env P → Own P s → m env = some (b, env') → ∀ Q, PostT X.K σ s P b env' Q → t σ s.H Q
structure DW (X : Cx) (e : Expr) (m : MT) : Prop where
  run : ∃ t, PW X e t ∧ ∀ σ s env P b env', EnvOk X.K s σ env P → Own P s → m env = some (b, env') → ∀ Q, PostT X.K σ s P b env' Q → t σ s.H Q
/-- a value's truth -/
def truO : OV → Option Bool
  | .fz .none => some false
  | .fz (.bool b) => some b
  | .fz (.int i) => some (i != 0)
  | .fz (.str x) => if x.length ≤ lim then some ((x.length : Int) != 0) else none
  | .oD kvs => some (!kvs.isEmpty)
  | o => match o.seq? with
    | some ds => some (!ds.isEmpty)
    | none => none
theorem RepL.emp {K : PySem.W.Frag} {s : S} {vs : List V} {ds : List D} (h : RepL K s vs ds) : vs.isEmpty = ds.isEmpty := by cases h <;> rfl
theorem RepO'.emp {K : PySem.W.Frag} {s : S} {vs : List (Key × V)} {ds : List (Key × D)} (h : RepO' K s vs ds) : vs.isEmpty = ds.isEmpty := by cases h <;> rfl
theorem truO_ok {K : PySem.W.Frag} {s : S} {o : OV} {v : V} {P : FP} {b : Bool} (h : RepO K s o v P) (e : truO o = some b) : TruV K v s.H b := by
  unfold truO at e
  split at e
  · cases e; rw [h.non]; rfl
  · cases e; rw [h.bl]; rfl
  · cases e; rw [h.int]; rfl
  · split at e
    · rename_i c
      cases e; rw [h.str]; exact ⟨le_line c, rfl⟩
    · cases e
  · cases e
    cases h with
    | oD h1 h2 => exact .inr (.inr ⟨_, h1, by rw [h2.emp]⟩)
  · split at e
    · rename_i ds e1
      cases e
      obtain ⟨a, vs, rfl, h1, h2⟩ := h.seq e1
      rcases h1 with h1 | h1
      · exact .inl ⟨vs, h1, by rw [h2.emp]⟩
      · exact .inr (.inl ⟨vs, h1, by rw [h2.emp]⟩)
    · cases e
section
variable {X : Cx} {a b c e : Expr} {es rest : List Expr} {pos p : Pos} {k : Nat}
/-- an expression's value as a test, by its truth -/
def mTru (m : MV) : MT := fun env => match m env with
  | none => none
  | some (a, e1) => match resolve1 e1 a with
    | none => none
    | some o => (truO o).map (·, e1)
theorem PostV.drop {K : PySem.W.Frag} {σ : L2.St} {s : S} {P : FP} {b : Bool} {e' : Env} {Q : Bool → Hp → Prop} (h : PostT K σ s P b e' Q) {s' : S} {P' R : FP} (h1 : EnvOk K s' σ e' P') (w : Own (fU P' R) s') (x : Ext P s (fU P' R) s') : Q b s'.H :=
  h s' P' h1 (w.sub fun _ z => .inl z) (x.sub fun _ z => .inl z)
theorem DT.tru {m : MV} (h : DV X e m) (he : ∀ whole, isTrue e X.env whole = (do let v ← whole; standAt e.pos; holding [v] (truthy v)) := by exact fun _ => rfl) : DT X e (mTru m) := by
  obtain ⟨t, hp, hr⟩ := h.run
  refine ⟨_, pt_truth hp he, fun σ s env P b env' a1 a2 a3 Q hq => ?_⟩
  unfold mTru at a3
  split at a3
  · cases a3
  rename_i av e1 q1
  split at a3
  · cases a3
  rename_i o q2
  obtain ⟨b', q3, q4⟩ := Option.map_eq_some_iff.mp a3
  cases q4
  refine hr σ s env P av _ a1 a2 q1 _ fun v s1 P1 R b1 b2 b3 b4 b5 => ?_
  obtain ⟨u, W, e0, rd⟩ := (b2.read b1 (os := [o]) (by simp [resolve, q2])).one
  cases e0
  exact ⟨b, truO_ok rd q3, PostV.drop hq b1 b4 b5⟩
/-- a value that is a bool, as a test: comparisons -/
def mBl (m : ME) : MT := fun env => match m env with
  | some (.fz (.bool b), e1) => some (b, e1)
  | _ => none
theorem mBl_some {m : ME} {env : Env} {b : Bool} {e' : Env} (h : mBl m env = some (b, e')) : m env = some (.fz (.bool b), e') := by
  unfold mBl at h
  split at h
  · rename_i q; cases h; exact q
  · cases h
theorem postE_bl {K : PySem.W.Frag} {σ : L2.St} {s : S} {P : FP} {b : Bool} {e' : Env} {Q : Bool → Hp → Prop} (hq : PostT K σ s P b e' Q) : PostE K σ s P (.fz (.bool b)) e' fun x H => ∃ k, x = .bl k ∧ Q k H := by
  intro v s' P' R b1 b2 b3 b4 b5
  exact ⟨b, b2.bl, PostV.drop hq b1 b4 b5⟩
theorem DT.cmp {op : CmpOp} {r : R2} {f : OV → OV → Option OV} {m : MA} (ho : OpR X (compareOp op) r) (hp : P2 X.K r f) (hm : behindInMarks op b = false) (hA : DA X [a, b] m) : DT X (.Compare a [op] [b] pos) (mBl (mOp (l2 f) m)) := by
  obtain ⟨ts, h1, h2, h3⟩ := hA.run
  obtain ⟨ta, tb, rfl, pa, pb⟩ := h1.two (es := [])
  refine ⟨_, pt_cmpR ho pa pb hm, fun σ s env P o env' a1 a2 a3 Q hq => ?_⟩
  obtain ⟨as, os, q1, q2, q3⟩ := mOp_some (mBl_some a3)
  exact h3 σ s env P as env' a1 a2 q1 _ (hp.pure.post q2 q3 (postE_bl hq))
theorem DT.lt {m : MA} (h : DA X [a, b] m) : DT X (.Compare a [.Lt] [b] pos) (mBl (mOp (l2 fLt) m)) := .cmp op_lt p_iib (nomark _) h
theorem DT.le {m : MA} (h : DA X [a, b] m) : DT X (.Compare a [.LtE] [b] pos) (mBl (mOp (l2 fLe) m)) := .cmp op_le p_iib (nomark _) h
theorem DT.gt {m : MA} (h : DA X [a, b] m) : DT X (.Compare a [.Gt] [b] pos) (mBl (mOp (l2 fGt) m)) := .cmp op_gt p_iib (nomark _) h
theorem DT.ge {m : MA} (h : DA X [a, b] m) : DT X (.Compare a [.GtE] [b] pos) (mBl (mOp (l2 fGe) m)) := .cmp op_ge p_iib (nomark _) h
theorem DT.eq {m : MA} (hr : Room k X.A) (h : DA X [a, b] m) : DT X (.Compare a [.Eq] [b] pos) (mBl (mOp (l2 fEq) m)) := .cmp (op_eqA hr) p_eq (nomark _) h
theorem DT.ne {m : MA} (hr : Room k X.A) (h : DA X [a, b] m) : DT X (.Compare a [.NotEq] [b] pos) (mBl (mOp (l2 fNe) m)) := .cmp (op_neA hr) p_ne (nomark _) h
def mNot (m : MT) : MT := fun env => match m env with
  | none => none
  | some (b, e1) => some (!b, e1)
theorem DT.not {m : MT} (h : DT X a m) : DT X (.UnaryOp .Not a pos) (mNot m) := by
  obtain ⟨t, hp, hr⟩ := h.run
  refine ⟨_, pt_not hp, fun σ s env P b env' a1 a2 a3 Q hq => ?_⟩
  unfold mNot at a3
  split at a3
  · cases a3
  rename_i b' e1 q1
  cases a3
  exact hr σ s env P b' _ a1 a2 q1 _ fun s' P' h1 h2 h3 => hq s' P' h1 h2 h3
def mAndT (m r : MT) : MT := fun env => match m env with
  | none => none
  | some (true, e1) => r e1
  | some (false, e1) => some (false, e1)
def mOrT (m r : MT) : MT := fun env => match m env with
  | none => none
  | some (false, e1) => r e1
  | some (true, e1) => some (true, e1)
theorem DW.and1 {m : MT} (h : DT X a m) : DW X (.BoolOp .And [a] pos) m := let ⟨t, hp, hr⟩ := h.run; ⟨t, pw_and1 hp, hr⟩
theorem DW.or1 {m : MT} (h : DT X a m) : DW X (.BoolOp .Or [a] pos) m := let ⟨t, hp, hr⟩ := h.run; ⟨t, pw_or1 hp, hr⟩
theorem DW.and {m r : MT} (h : DT X a m) (g : DW X (.BoolOp .And (b :: rest) pos) r) : DW X (.BoolOp .And (a :: b :: rest) pos) (mAndT m r) := by
  obtain ⟨t, hp, hr⟩ := h.run
  obtain ⟨u, gp, gr⟩ := g.run
  refine ⟨_, pw_and hp gp, fun σ s env P bb env' a1 a2 a3 Q hq => ?_⟩
  unfold mAndT at a3
  split at a3
  · cases a3
  · rename_i e1 q1
    refine hr σ s env P true e1 a1 a2 q1 _ fun s1 P1 b1 b2 b3 => ?_
    rw [if_pos rfl]
    exact gr σ s1 e1 P1 bb env' b1 b2 a3 Q fun s2 P2 c1 c2 c3 => hq s2 P2 c1 c2 (b3.trans c3)
  · rename_i e1 q1
    cases a3
    refine hr σ s env P false _ a1 a2 q1 _ fun s1 P1 b1 b2 b3 => ?_
    rw [if_neg Bool.false_ne_true]
    exact hq s1 P1 b1 b2 b3
theorem DW.or {m r : MT} (h : DT X a m) (g : DW X (.BoolOp .Or (b :: rest) pos) r) : DW X (.BoolOp .Or (a :: b :: rest) pos) (mOrT m r) := by
  obtain ⟨t, hp, hr⟩ := h.run
  obtain ⟨u, gp, gr⟩ := g.run
  refine ⟨_, pw_or hp gp, fun σ s env P bb env' a1 a2 a3 Q hq => ?_⟩
  unfold mOrT at a3
  split at a3
  · cases a3
  · rename_i e1 q1
    refine hr σ s env P false e1 a1 a2 q1 _ fun s1 P1 b1 b2 b3 => ?_
    rw [if_neg Bool.false_ne_true]
    exact gr σ s1 e1 P1 bb env' b1 b2 a3 Q fun s2 P2 c1 c2 c3 => hq s2 P2 c1 c2 (b3.trans c3)
  · rename_i e1 q1
    cases a3
    refine hr σ s env P true _ a1 a2 q1 _ fun s1 P1 b1 b2 b3 => ?_
    rw [if_pos rfl]
    exact hq s1 P1 b1 b2 b3
theorem DW.t {m : MT} (h : DW X e m) : DT X e m := let ⟨t, hp, hr⟩ := h.run; ⟨t, hp.pt, hr⟩
/-- .. as values, of bools -/
def mBo (m : MT) : ME := fun env => match m env with
  | none => none
  | some (b, e1) => some (.fz (.bool b), e1)
def mAndE (m r : ME) : ME := fun env => match m env with
  | some (.fz (.bool true), e1) => r e1
  | some (.fz (.bool false), e1) => some (.fz (.bool false), e1)
  | _ => none
def mOrE (m r : ME) : ME := fun env => match m env with
  | some (.fz (.bool false), e1) => r e1
  | some (.fz (.bool true), e1) => some (.fz (.bool true), e1)
  | _ => none
def mNotE (m : ME) : ME := fun env => match m env with
  | some (.fz (.bool b), e1) => some (.fz (.bool (!b)), e1)
  | _ => none
theorem PostE.step {K : PySem.W.Frag} {σ : L2.St} {s s1 : S} {P P1 R : FP} {o : OV} {e' : Env} {Q : VK} (h : PostE K σ s P o e' Q) (x : Ext P s (fU P1 R) s1) : PostE K σ s1 P1 o e' Q :=
  fun v s' P' W c1 c2 c3 c4 c5 => h v s' P' W c1 c2 c3 c4 ((x.sub fun _ z => .inl z).trans c5)
theorem DE.one {op} {m : ME} (h : DE X a m) : DE X (.BoolOp op [a] pos) m := let ⟨t, hp, hr⟩ := h.run; ⟨t, pe_one hp, hr⟩
theorem DE.and {m r : ME} (h : DE X a m) (g : DE X (.BoolOp .And (b :: rest) pos) r) : DE X (.BoolOp .And (a :: b :: rest) pos) (mAndE m r) := by
  obtain ⟨t, hp, hr⟩ := h.run
  obtain ⟨u, gp, gr⟩ := g.run
  refine ⟨_, pe_and hp gp, fun σ s env P o env' a1 a2 a3 Q hq => ?_⟩
  unfold mAndE at a3
  split at a3
  · rename_i e1 q1
    refine hr σ s env P _ e1 a1 a2 q1 _ fun v s1 P1 R b1 b2 b3 b4 b5 => ⟨true, b2.bl, ?_⟩
    rw [if_pos rfl]
    exact gr σ s1 e1 P1 o env' b1 (b4.sub fun _ z => .inl z) a3 Q (hq.step b5)
  · rename_i e1 q1
    cases a3
    refine hr σ s env P _ _ a1 a2 q1 _ fun v s1 P1 R b1 b2 b3 b4 b5 => ⟨false, b2.bl, ?_⟩
    rw [if_neg Bool.false_ne_true]
    have := b2.bl
    subst this
    exact hq _ s1 P1 R b1 b2 b3 b4 b5
  · cases a3
theorem DE.or {m r : ME} (h : DE X a m) (g : DE X (.BoolOp .Or (b :: rest) pos) r) : DE X (.BoolOp .Or (a :: b :: rest) pos) (mOrE m r) := by
  obtain ⟨t, hp, hr⟩ := h.run
  obtain ⟨u, gp, gr⟩ := g.run
  refine ⟨_, pe_or hp gp, fun σ s env P o env' a1 a2 a3 Q hq => ?_⟩
  unfold mOrE at a3
  split at a3
  · rename_i e1 q1
    refine hr σ s env P _ e1 a1 a2 q1 _ fun v s1 P1 R b1 b2 b3 b4 b5 => ⟨false, b2.bl, ?_⟩
    rw [if_neg Bool.false_ne_true]
    exact gr σ s1 e1 P1 o env' b1 (b4.sub fun _ z => .inl z) a3 Q (hq.step b5)
  · rename_i e1 q1
    cases a3
    refine hr σ s env P _ _ a1 a2 q1 _ fun v s1 P1 R b1 b2 b3 b4 b5 => ⟨true, b2.bl, ?_⟩
    rw [if_pos rfl]
    have := b2.bl
    subst this
    exact hq _ s1 P1 R b1 b2 b3 b4 b5
  · cases a3
theorem DE.not {m : ME} (h : DE X a m) : DE X (.UnaryOp .Not a pos) (mNotE m) := by
  obtain ⟨t, hp, hr⟩ := h.run
  refine ⟨_, pe_not hp, fun σ s env P o env' a1 a2 a3 Q hq => ?_⟩
  unfold mNotE at a3
  split at a3
  · rename_i b e1 q1
    cases a3
    refine hr σ s env P _ _ a1 a2 q1 _ fun v s1 P1 R b1 b2 b3 b4 b5 => ⟨b, b2.bl, ?_⟩
    cases b2 with
    | fz b2 => exact hq _ s1 P1 fE b1 (.fz (.bl _)) (fun _ _ z => z) (by rw [fU_eq]; exact b4.sub fun _ z => .inl z) (by rw [fU_eq]; exact b5.sub fun _ z => .inl z)
  · cases a3
/-- a if c else b -/
def mIfE (c : MT) (m r : ME) : ME := fun env => match c env with
  | none => none
  | some (true, e1) => m e1
  | some (false, e1) => r e1
theorem DE.ife {mc : MT} {m r : ME} (hc : DT X c mc) (h : DE X a m) (g : DE X b r) : DE X (.IfExp c a b pos) (mIfE mc m r) := by
  obtain ⟨tc, cp, cr⟩ := hc.run
  obtain ⟨t, hp, hr⟩ := h.run
  obtain ⟨u, gp, gr⟩ := g.run
  refine ⟨_, pe_ifExp cp hp gp, fun σ s env P o env' a1 a2 a3 Q hq => ?_⟩
  unfold mIfE at a3
  split at a3
  · cases a3
  · rename_i e1 q1
    refine cr σ s env P true e1 a1 a2 q1 _ fun s1 P1 b1 b2 b3 => ?_
    rw [if_pos rfl]
    exact hr σ s1 e1 P1 o env' b1 b2 a3 Q fun v s2 P2 R c1 c2 c3 c4 c5 => hq v s2 P2 R c1 c2 c3 c4 (b3.trans c5)
  · rename_i e1 q1
    refine cr σ s env P false e1 a1 a2 q1 _ fun s1 P1 b1 b2 b3 => ?_
    rw [if_neg Bool.false_ne_true]
    exact gr σ s1 e1 P1 o env' b1 b2 a3 Q fun v s2 P2 R c1 c2 c3 c4 c5 => hq v s2 P2 R c1 c2 c3 c4 (b3.trans c5)
/-! ### slices -/
def PostO (K : PySem.W.Frag) (σ : L2.St) (s : S) (P : FP) (i : Option Int) (e' : Env) (Q : Option Int → Hp → Prop) : Prop := ∀ s' P', EnvOk K s' σ e' P' → Own P' s' → Ext P s P' s' → Q i s'.H
structure DO (X : Cx) (e : Option Expr) (m : Env → Option (Option Int × Env)) : Prop where
  run : ∃ t, PO X e t ∧ ∀ σ s env P i env', EnvOk X.K s σ env P → Own P s → m env = some (i, env') → ∀ Q, PostO X.K σ s P i env' Q → t σ s.H Q
def mNoI : Env → Option (Option Int × Env) := fun env => some (none, env)
def mSoI (m : ME) : Env → Option (Option Int × Env) := fun env => match m env with
  | some (.fz (.int i), e1) => some (some i, e1)
  | _ => none
theorem DO.no : DO X none mNoI := ⟨_, po_none, fun σ s env P i env' a1 a2 a3 Q hq => by cases a3; exact hq s P a1 a2 (.refl _ _)⟩
theorem DO.so {m : ME} (h : DE X e m) : DO X (some e) (mSoI m) := by
  obtain ⟨t, hp, hr⟩ := h.run
  refine ⟨_, po_some hp, fun σ s env P o env' a1 a2 a3 Q hq => ?_⟩
  unfold mSoI at a3
  split at a3
  · rename_i i e1 q1
    cases a3
    exact hr σ s env P _ _ a1 a2 q1 _ fun v s1 P1 R b1 b2 b3 b4 b5 => ⟨i, b2.int, hq s1 P1 b1 (b4.sub fun _ z => .inl z) (b5.sub fun _ z => .inl z)⟩
  · cases a3
def cutD (xs : List D) (lo hi : Option Int) : List D := (xs.drop (HT.sIx xs.length 0 lo)).take (HT.sIx xs.length xs.length hi - HT.sIx xs.length 0 lo)
def fCut (o : OV) (lo hi : Option Int) : Option OV := match o with
  | .fz (.str z) => if z.length ≤ lim then some (.fz (.str (cutS z lo hi))) else none
  | o => match o.lst? with
    | some ds => some (.oL (cutD ds lo hi))
    | none => match o.tup? with
      | some ds => some (.fz (.tuple (cutD ds lo hi)))
      | none => none
def mCut (m : MV) (lo hi : Env → Option (Option Int × Env)) : ME := fun env => match m env with
  | none => none
  | some (a, e1) => match lo e1 with
    | none => none
    | some (i, e2) => match hi e2 with
      | none => none
      | some (j, e3) => match resolve1 e3 a with
        | none => none
        | some o => (fCut o i j).map (·, e3)
theorem RepL.cut {K : PySem.W.Frag} {s : S} {vs : List V} {ds : List D} (h : RepL K s vs ds) (lo hi : Option Int) : RepL K s (cutV vs lo hi) (cutD ds lo hi) := by
  unfold cutV cutD
  rw [h.length]
  exact (h.drop _).take _
end
end G
namespace G
open PySem PySem.Spec PyProof.Rows L2

section
variable {X : Cx} {a b c e : Expr} {es rest : List Expr} {pos p p2 : Pos} {k : Nat}
def rSlA3 (K : PySem.W.Frag) : V → Option Int → Option Int → Hp → VK → Prop := fun x lo hi H Q => rSlL K x lo hi H Q ∨ rSlG K x lo hi H Q ∨ rSlS x lo hi H Q
theorem p_cut {K : PySem.W.Frag} {s : S} {o o' : OV} {v : V} {P : FP} {lo hi : Option Int} {Q : VK} (w : Wf s) (r : RepO K s o v P) (e : fCut o lo hi = some o') (hq : PostP K s o' Q) : rSlA3 K v lo hi s.H Q := by
  unfold fCut at e
  split at e
  · split at e
    · rename_i c
      cases e
      exact .inr (.inr ⟨_, r.str, le_line c, hq.str w⟩)
    · cases e
  · split at e
    · rename_i ds e1
      cases e
      obtain ⟨a, vs, rfl, h1, h2⟩ := r.lst e1
      exact .inl ⟨a, vs, rfl, h1, fun p hp => hq.newL w (h2.cut lo hi) hp⟩
    · split at e
      · rename_i ds e1
        cases e
        obtain ⟨a, vs, rfl, h1, h2⟩ := r.tup e1
        have eo := OV.tup_of e1
        subst eo
        refine .inr (.inl ⟨a, vs, rfl, h1, fun z => ?_, fun _ p o n hp => hq.newTG w (h2.cut lo hi) n hp⟩)
        have ec : cutD ds lo hi = ds := by
          unfold cutD
          rw [← h2.length, z.1, z.2, h2.length]
          simp
        rw [ec] at hq
        cases r with
        | fz r => exact hq.fz w r
      · cases e
theorem DE.cut {mv : MV} {ml mh : Env → Option (Option Int × Env)} {lo hi : Option Expr} (h : DV X e mv) (hl : DO X lo ml) (hh : DO X hi mh) : DE X (.Subscript e (.Slice lo hi none p2) pos) (mCut mv ml mh) := by
  obtain ⟨t, hp, hr⟩ := h.run
  obtain ⟨tl, lp, lr⟩ := hl.run
  obtain ⟨th, tp, tr⟩ := hh.run
  refine ⟨_, pe_slice (r := rSlA3 X.K) (sl_list.or (sl_tupG.or sl_str)) hp lp tp, fun σ s env P o env' a1 a2 a3 Q hq => ?_⟩
  unfold mCut at a3
  split at a3
  · cases a3
  rename_i av e1 q1
  split at a3
  · cases a3
  rename_i i e2 q2
  split at a3
  · cases a3
  rename_i j e3 q3
  split at a3
  · cases a3
  rename_i ov q4
  obtain ⟨o', q5, q6⟩ := Option.map_eq_some_iff.mp a3
  cases q6
  refine hr σ s env P av e1 a1 a2 q1 _ fun v s1 P1 R b1 b2 b3 b4 b5 => ?_
  have oR : Own R s1 := b4.sub fun _ z => .inr z
  refine lr σ s1 e1 P1 i e2 b1 (b4.sub fun _ z => .inl z) q2 _ fun s2 P2 c1 c2 c3 => ?_
  have oR2 := c3.ownR b3 oR
  have d2 := c3.disR b3 oR
  refine tr σ s2 e2 P2 j _ c1 c2 q3 _ fun s3 P3 d1 d2' d3 => ?_
  have av3 := (b2.mono (c3.kp b3 oR)).mono (d3.kp d2 oR2)
  obtain ⟨u, W, e0, rd⟩ := (av3.read d1 (os := [ov]) (by simp [resolve, q4])).one
  cases e0
  exact p_cut d2'.w rd q5 (hq.pure d1 d2' ((b5.trans (c3.trans d3).frame).sub fun x z => .inl z))
end

/-! ### statements -/
inductive Out where
  | nx (e : Env)
  | rt (o : OV) (e : Env)
  | bk (e : Env)
  | ct (e : Env)
abbrev MS := Env → Option Out
/-- slots that stay -/
def Fx (fx : List Nat) (σ σ' : L2.St) : Prop := ∀ i ∈ fx, σ'[i]? = σ[i]?
theorem Fx.refl (fx : List Nat) (σ : L2.St) : Fx fx σ σ := fun _ _ => rfl
theorem Fx.trans {fx : List Nat} {a b c : L2.St} (h : Fx fx a b) (g : Fx fx b c) : Fx fx a c := fun i q => (g i q).trans (h i q)
theorem Fx.set {fx : List Nat} {σ : L2.St} {i : Nat} {v : Option V} (h : i ∉ fx) : Fx fx σ (σ.set i v) := fun j q => List.getElem?_set_ne fun z => h (by rw [z]; exact q)
def Nx (K : PySem.W.Frag) (fx : List Nat) (σ : L2.St) (s : S) (P : FP) (e' : Env) (N : L2.St → Hp → Prop) : Prop :=
  ∀ σ' s' P', EnvOk K s' σ' e' P' → Own P' s' → Ext P s P' s' → Fx fx σ σ' → N σ' s'.H
def Rt (K : PySem.W.Frag) (fx : List Nat) (σ : L2.St) (s : S) (P : FP) (o : OV) (e' : Env) (Q : VK) : Prop :=
  ∀ v σ' s' P' R, EnvOk K s' σ' e' P' → RepO K s' o v R → Dis P' R → Own (fU P' R) s' → Ext P s (fU P' R) s' → Fx fx σ σ' → Q v s'.H
def PostS (K : PySem.W.Frag) (fx : List Nat) (σ : L2.St) (s : S) (P : FP) : Out → L2.Ends → Prop
  | .nx e', D => Nx K fx σ s P e' D.nx
  | .rt o e', D => Rt K fx σ s P o e' D.rt
  | .bk e', D => Nx K fx σ s P e' D.bk
  | .ct e', D => Nx K fx σ s P e' D.ct
structure DS (X : Cx) (fx : List Nat) (st : Stmt) (m : MS) : Prop where
  run : ∃ t, PS X st t ∧ ∀ σ s env P out, EnvOk X.K s σ env P → Own P s → m env = some out → ∀ D, PostS X.K fx σ s P out D → t D σ s.H
structure DSs (X : Cx) (fx : List Nat) (sts : List Stmt) (m : MS) : Prop where
  run : ∃ t, PSs X sts t ∧ ∀ σ s env P out, EnvOk X.K s σ env P → Own P s → m env = some out → ∀ D, PostS X.K fx σ s P out D → t D σ s.H
theorem Nx.step {K : PySem.W.Frag} {fx : List Nat} {σ σ1 : L2.St} {s s1 : S} {P P1 : FP} {e' : Env} {N : L2.St → Hp → Prop} (h : Nx K fx σ s P e' N) (x : Ext P s P1 s1) (f : Fx fx σ σ1) : Nx K fx σ1 s1 P1 e' N :=
  fun σ' s' P' a b c d => h σ' s' P' a b (x.trans c) (f.trans d)
theorem Rt.step {K : PySem.W.Frag} {fx : List Nat} {σ σ1 : L2.St} {s s1 : S} {P P1 : FP} {o : OV} {e' : Env} {N : VK} (h : Rt K fx σ s P o e' N) (x : Ext P s P1 s1) (f : Fx fx σ σ1) : Rt K fx σ1 s1 P1 o e' N :=
  fun v σ' s' P' R a b c d g i => h v σ' s' P' R a b c d (x.trans g) (f.trans i)
theorem PostS.step {K : PySem.W.Frag} {fx : List Nat} {σ σ1 : L2.St} {s s1 : S} {P P1 : FP} {out : Out} {D : L2.Ends} (h : PostS K fx σ s P out D) (x : Ext P s P1 s1) (f : Fx fx σ σ1) : PostS K fx σ1 s1 P1 out D := by
  cases out with
  | nx e => exact Nx.step h x f
  | rt o e => exact Rt.step h x f
  | bk e => exact Nx.step h x f
  | ct e => exact Nx.step h x f
section
variable {X : Cx} {fx : List Nat} {a b c e : Expr} {es rest : List Expr} {pos p p2 : Pos} {k : Nat} {st : Stmt} {sts : List Stmt}
def mNext : MS := fun env => some (.nx env)
def mSeq (m r : MS) : MS := fun env => match m env with
  | some (.nx e1) => r e1
  | x => x
theorem DSs.nil : DSs X fx [] mNext := ⟨_, pss_nil, fun σ s env P out a1 a2 a3 D hq => by cases a3; exact hq σ s P a1 a2 (.refl _ _) (.refl _ _)⟩
theorem DSs.cons {m r : MS} (h : DS X fx st m) (g : DSs X fx sts r) : DSs X fx (st :: sts) (mSeq m r) := by
  obtain ⟨t, hp, hr⟩ := h.run
  obtain ⟨u, gp, gr⟩ := g.run
  refine ⟨_, pss_cons hp gp, fun σ s env P out a1 a2 a3 D hq => ?_⟩
  unfold mSeq at a3
  split at a3
  · rename_i e1 q1
    exact hr σ s env P _ a1 a2 q1 _ fun σ1 s1 P1 b1 b2 b3 b4 => gr σ1 s1 e1 P1 out b1 b2 a3 D (hq.step b3 b4)
  · rename_i nn
    refine hr σ s env P out a1 a2 a3 { D with nx := u D } ?_
    cases out with
    | nx e => exact (nn e a3).elim
    | rt o e => exact hq
    | bk e => exact hq
    | ct e => exact hq
theorem DSs.one {m : MS} (h : DS X fx st m) : DSs X fx [st] m := let ⟨t, hp, hr⟩ := h.run; ⟨t, pss_one hp, hr⟩
def mNever : MS := fun _ => none
theorem DS.never : DS X fx st mNever := ⟨_, ps_never, fun σ s env P out a1 a2 a3 D hq => by cases a3⟩
theorem DS.pass : DS X fx (.Pass pos) mNext := ⟨_, ps_pass, fun σ s env P out a1 a2 a3 D hq => by cases a3; exact hq σ s P a1 a2 (.refl _ _) (.refl _ _)⟩
def mBrk : MS := fun env => some (.bk env)
def mCnt : MS := fun env => some (.ct env)
theorem DS.brk : DS X fx (.Break pos) mBrk := ⟨_, ps_break, fun σ s env P out a1 a2 a3 D hq => by cases a3; exact hq σ s P a1 a2 (.refl _ _) (.refl _ _)⟩
theorem DS.cnt : DS X fx (.Continue pos) mCnt := ⟨_, ps_continue, fun σ s env P out a1 a2 a3 D hq => by cases a3; exact hq σ s P a1 a2 (.refl _ _) (.refl _ _)⟩
def mIf (c : MT) (m r : MS) : MS := fun env => match c env with
  | none => none
  | some (true, e1) => m e1
  | some (false, e1) => r e1
theorem DS.ite {mc : MT} {m r : MS} {sa sb : List Stmt} (hc : DT X c mc) (h : DSs X fx sa m) (g : DSs X fx sb r) : DS X fx (.If c sa sb pos) (mIf mc m r) := by
  obtain ⟨tc, cp, cr⟩ := hc.run
  obtain ⟨t, hp, hr⟩ := h.run
  obtain ⟨u, gp, gr⟩ := g.run
  refine ⟨_, ps_if cp hp gp, fun σ s env P out a1 a2 a3 D hq => ?_⟩
  unfold mIf at a3
  split at a3
  · cases a3
  · rename_i e1 q1
    refine cr σ s env P true e1 a1 a2 q1 _ fun s1 P1 b1 b2 b3 => ?_
    rw [if_pos rfl]
    exact hr σ s1 e1 P1 out b1 b2 a3 D (hq.step b3 (.refl _ _))
  · rename_i e1 q1
    refine cr σ s env P false e1 a1 a2 q1 _ fun s1 P1 b1 b2 b3 => ?_
    rw [if_neg Bool.false_ne_true]
    exact gr σ s1 e1 P1 out b1 b2 a3 D (hq.step b3 (.refl _ _))
/-- an expression for its effect -/
def mDrop (m : ME) : MS := fun env => match m env with
  | none => none
  | some (_, e1) => some (.nx e1)
theorem DS.expr {m : ME} (h : DE X e m) (hs : swapsWith e none pos.line X.env = pure false := by rfl) : DS X fx (.Expr e pos) (mDrop m) := by
  obtain ⟨t, hp, hr⟩ := h.run
  refine ⟨_, ps_expr hp hs, fun σ s env P out a1 a2 a3 D hq => ?_⟩
  unfold mDrop at a3
  split at a3
  · cases a3
  rename_i o e1 q1
  cases a3
  exact hr σ s env P o _ a1 a2 q1 _ fun v s1 P1 R b1 b2 b3 b4 b5 => hq σ s1 P1 b1 (b4.sub fun _ z => .inl z) (b5.sub fun _ z => .inl z) (.refl _ _)
/-- return e -/
def mRet (m : ME) : MS := fun env => match m env with
  | none => none
  | some (o, e1) => some (.rt o e1)
theorem DS.ret {m : ME} (h : DE X e m) : DS X fx (.Return (some e) pos) (mRet m) := by
  obtain ⟨t, hp, hr⟩ := h.run
  refine ⟨_, ps_ret hp, fun σ s env P out a1 a2 a3 D hq => ?_⟩
  unfold mRet at a3
  split at a3
  · cases a3
  rename_i o e1 q1
  cases a3
  exact hr σ s env P o _ a1 a2 q1 _ fun v s1 P1 R b1 b2 b3 b4 b5 => hq v σ s1 P1 R b1 b2 b3 b4 b5 (.refl _ _)
def mRetN : MS := fun env => some (.rt (.fz .none) env)
theorem DS.retN : DS X fx (.Return none pos) mRetN := ⟨_, ps_retN, fun σ s env P out a1 a2 a3 D hq => by
  cases a3
  exact hq .non σ s P fE a1 (.fz .non) (fun _ _ z => z) (by rw [fU_eq]; exact a2) (by rw [fU_eq]; exact .refl _ _) (.refl _ _)⟩
/-- return of a local: handed over -/
def mMv (i : Nat) : ME := fun env => match lk env i with
  | none => none
  | some o => some (o, env.set i none)
theorem DE.mv (i : Nat) {x : Str} {pos : Pos} (hN : X.N[i]? = some x := by rfl) (hv : Vis X.env.scope x := by first | exact Or.inl rfl | exact Or.inr (Or.inl rfl) | exact Or.inr (Or.inr rfl)) (hd : (x == ("__debug__" : Str)) = false := by decide)
    (hcd : (x == ("__classdict__" : Str)) = false := by decide) : DE X (.Name x pos) (mMv i) := by
  refine ⟨tVar i, pe_var hN hv hd hcd, fun σ s env P o env' h1 h2 h3 Q hq => ?_⟩
  unfold mMv at h3
  split at h3
  · cases h3
  rename_i o' q
  cases h3
  obtain ⟨v, Po, R, b1, b2, b3, b4, b5, _⟩ := h1.get q
  have e : fU R Po = P := funext fun a => propext ⟨fun z => (b4 a).mpr z.symm, fun z => ((b4 a).mp z).symm⟩
  exact ⟨v, b1, hq v s R Po b5 b2 (fun a z y => b3 a y z) (by rw [e]; exact h2) (by rw [e]; exact .refl _ _)⟩

/-! ### targets -/
abbrev MG := D → Env → Option Env
structure Ch (ts : List Nat) (σ σ' : L2.St) : Prop where
  len : σ'.length = σ.length
  same : ∀ j, j ∉ ts → σ'[j]? = σ[j]?
structure DG (X : Cx) (ts : List Nat) (tg : Expr) (m : MG) : Prop where
  run : ∃ g, PG X tg g ∧ ∀ σ s env P d v env', EnvOk X.K s σ env P → Own P s → Rep X.K s v d → m d env = some env' →
    ∀ Q : L2.St → Hp → Prop, (∀ σ' P', EnvOk X.K s σ' env' P' → (∀ a, P' a → P a) → Ch ts σ σ' → Q σ' s.H) → g v σ s.H Q
def gNm (i : Nat) : MG := fun d env => if i < env.length then some (env.set i (some (.fz d))) else none
theorem DG.nm (i : Nat) {x : Str} {pos : Pos} (hN : X.N.Nodup) (hi : X.N[i]? = some x := by rfl) (hx : Loc X.env.scope x := by first | exact Or.inl rfl | exact Or.inr rfl) (hf : X.fn x = true ∨ X.env.scope.names.lookup x = some .local := by first | exact .inl rfl | exact .inr rfl) : DG X [i] (.Name x pos) (gNm i) := by
  refine ⟨_, pg_name hN hi hx hf, fun σ s env P d v env' a1 a2 a3 a4 Q hq => ?_⟩
  unfold gNm at a4
  split at a4
  · rename_i hl
    cases a4
    obtain ⟨P', b1, b2⟩ := a1.put hl (.fz a3) fun _ _ z => z
    exact hq _ P' b1 (fun a z => (b2 a z).elim id fun z => z.elim) ⟨by simp, fun j h => List.getElem?_set_ne fun e => h (by simp [e])⟩
  · cases a4
abbrev MGs := List D → Env → Option Env
structure DGs (X : Cx) (ts : List Nat) (tgs : List Expr) (m : MGs) : Prop where
  run : ∃ g, PGs X tgs g ∧ ∀ σ s env P ds vs env', EnvOk X.K s σ env P → Own P s → RepL X.K s vs ds → m ds env = some env' →
    ∀ Q : L2.St → Hp → Prop, (∀ σ' P', EnvOk X.K s σ' env' P' → (∀ a, P' a → P a) → Ch ts σ σ' → Q σ' s.H) → g vs σ s.H Q
def gsNil : MGs := fun ds env => match ds with
  | [] => some env
  | _ => none
def gsCons (g : MG) (r : MGs) : MGs := fun ds env => match ds with
  | d :: ds => match g d env with
    | none => none
    | some e1 => r ds e1
  | [] => none
theorem DGs.nil : DGs X [] [] gsNil := ⟨_, pgs_nil, fun σ s env P ds vs env' a1 a2 a3 a4 Q hq => by
  cases a3 with
  | nil => cases a4; exact ⟨rfl, hq σ P a1 (fun _ z => z) ⟨rfl, fun _ _ => rfl⟩⟩
  | cons _ _ => cases a4⟩
theorem DGs.cons {ts us : List Nat} {tg : Expr} {tgs : List Expr} {g : MG} {r : MGs} (h : DG X ts tg g) (hr : DGs X us tgs r) (hs : (assignEach (tg :: tgs) X.env).map (·.2) = assign tg X.env :: (assignEach tgs X.env).map (·.2) := by rfl) : DGs X (ts ++ us) (tg :: tgs) (gsCons g r) := by
  obtain ⟨t, hp, h1⟩ := h.run
  obtain ⟨u, gp, h2⟩ := hr.run
  refine ⟨_, pgs_cons hp gp hs, fun σ s env P ds vs env' a1 a2 a3 a4 Q hq => ?_⟩
  cases a3 with
  | nil => cases a4
  | cons r1 r2 =>
    unfold gsCons at a4
    simp only at a4
    split at a4
    · cases a4
    rename_i e1 q1
    refine ⟨_, _, rfl, h1 σ s env P _ _ e1 a1 a2 r1 q1 _ fun σ1 P1 b1 b2 b3 => ?_⟩
    exact h2 σ1 s e1 P1 _ _ env' b1 (a2.sub b2) r2 a4 Q fun σ2 P2 c1 c2 c3 => hq σ2 P2 c1 (fun a z => b2 a (c2 a z)) ⟨c3.len.trans b3.len, fun j n => by
      rw [List.mem_append, not_or] at n
      exact (c3.same j n.2).trans (b3.same j n.1)⟩
/-- (a, b, ..) of a tuple -/
def gTp (n : Nat) (r : MGs) : MG := fun d env => match d with
  | .tuple ds => if ds.length = n then r ds env else none
  | _ => none
theorem DG.tup {ts : List Nat} {tgs : List Expr} {r : MGs} {kk : Nat} (n : Nat) (hc : X.calm = true) (h : DGs X ts tgs r) (hn : (assignEach tgs X.env).length = n := by rfl) (hst : (assignEach tgs X.env).findIdx? (·.1) = none := by rfl) : DG X ts (.Tuple tgs kk pos) (gTp n r) := by
  obtain ⟨g, hp, hr⟩ := h.run
  refine ⟨_, pg_tup hc hp hn hst, fun σ s env P d v env' a1 a2 a3 a4 Q hq => ?_⟩
  unfold gTp at a4
  split at a4
  · split at a4
    · rename_i hl
      cases a3 with
      | tup h1 h2 _ => exact ⟨_, _, rfl, h1.sq, by rw [h2.length]; exact hl, hr σ s env P _ _ env' a1 a2 h2 a4 Q hq⟩
    · cases a4
  · cases a4
theorem Ch.toFx {ts fx : List Nat} {σ σ' : L2.St} (h : Ch ts σ σ') (d : ∀ i ∈ fx, i ∉ ts) : Fx fx σ σ' := fun i q => h.same i (d i q)

/-! ### assignments -/
/-- name = e: the value itself -/
def mSet (i : Nat) (m : ME) : MS := fun env => match m env with
  | none => none
  | some (o, e1) => if i < e1.length then some (.nx (e1.set i (some o))) else none
theorem DS.set {i : Nat} {x : Str} {p1 : Pos} {m : ME} (hN : X.N.Nodup) (h : DE X e m) (hfx : i ∉ fx := by decide) (hi : X.N[i]? = some x := by rfl) (hx : Loc X.env.scope x := by first | exact Or.inl rfl | exact Or.inr rfl) (hs : swapsWith e (some (.Name x p1)) pos.line X.env = pure false := by rfl)
    (hf : X.fn x = true ∨ X.env.scope.names.lookup x = some .local := by first | exact .inl rfl | exact .inr rfl) : DS X fx (.Assign [.Name x p1] e pos) (mSet i m) := by
  obtain ⟨t, hp, hr⟩ := h.run
  refine ⟨_, ps_set hN hi hx hp hs hf, fun σ s env P out a1 a2 a3 D hq => ?_⟩
  unfold mSet at a3
  split at a3
  · cases a3
  rename_i o e1 q1
  split at a3
  · rename_i hl
    cases a3
    refine hr σ s env P o e1 a1 a2 q1 _ fun v s1 P1 R b1 b2 b3 b4 b5 => ?_
    obtain ⟨P', c1, c2⟩ := b1.put hl b2 b3
    exact hq _ s1 P' c1 (b4.sub c2) (b5.sub c2) (Fx.set hfx)
  · cases a3
/-- target = e, of frozen things -/
def mAsg (g : MG) (m : ME) : MS := fun env => match m env with
  | none => none
  | some (o, e1) => match o.frz with
    | none => none
    | some d => match g d e1 with
      | none => none
      | some e2 => some (.nx e2)
theorem DS.asg {ts : List Nat} {tg : Expr} {g : MG} {m : ME} (h : DE X e m) (hg : DG X ts tg g) (hfx : ∀ i ∈ fx, i ∉ ts := by decide) (hs : swapsWithSole [tg] e pos.line X.env = pure false := by rfl) (hw : swappedStores [tg] e X.env = pure none := by rfl)
    (h1 : (assignEach [tg] X.env).map (·.2) = [assign tg X.env] := by rfl) : DS X fx (.Assign [tg] e pos) (mAsg g m) := by
  obtain ⟨t, hp, hr⟩ := h.run
  obtain ⟨u, gp, gr⟩ := hg.run
  refine ⟨_, ps_asg hp gp hs hw h1, fun σ s env P out a1 a2 a3 D hq => ?_⟩
  unfold mAsg at a3
  split at a3
  · cases a3
  rename_i o e1 q1
  split at a3
  · cases a3
  rename_i d q2
  split at a3
  · cases a3
  rename_i e2 q3
  cases a3
  refine hr σ s env P o e1 a1 a2 q1 _ fun v s1 P1 R b1 b2 b3 b4 b5 => ?_
  have x : Ext (fU P1 R) s1 (fun a => fU P1 R a ∧ ¬ R a) ⟨s1.H, fU s1.Z R⟩ := Ext.freeze b4 fun a z => .inr z
  have x' : Ext (fU P1 R) s1 P1 ⟨s1.H, fU s1.Z R⟩ := x.sub fun a z => ⟨.inl z, b3 a z⟩
  have w' : Own P1 (⟨s1.H, fU s1.Z R⟩ : S) := ⟨fun a z => ⟨fun y => y.elim (b4.o a (.inl z)).1 (b3 a z), (b4.o a (.inl z)).2⟩, fun a z => z.elim (b4.w a) fun y => (b4.o a (.inr y)).2⟩
  refine gr σ ⟨s1.H, fU s1.Z R⟩ e1 P1 d v e2 (b1.mono ⟨x.fz, fun _ _ => rfl⟩) w' (b2.freeze q2 (fun _ z => .inl z) fun _ z => .inr z) q3 _ fun σ' P' c1 c2 c3 => ?_
  exact hq σ' ⟨s1.H, fU s1.Z R⟩ P' c1 (w'.sub c2) ((b5.trans x').sub c2) (c3.toFx hfx)
end
end G
namespace G
open PySem PySem.Spec PyProof.Rows L2

/-! ### frozen values of expressions -/
def PostF (K : PySem.W.Frag) (σ : L2.St) (s : S) (P : FP) (d : D) (e' : Env) (Q : VK) : Prop :=
  ∀ v s' P', EnvOk K s' σ e' P' → Rep K s' v d → Own P' s' → Ext P s P' s' → Q v s'.H
abbrev MD := Env → Option (D × Env)
structure DF (X : Cx) (e : Expr) (m : MD) : Prop where
  run : ∃ t, PE X e t ∧ ∀ σ s env P d env', EnvOk X.K s σ env P → Own P s → m env = some (d, env') → ∀ Q, PostF X.K σ s P d env' Q → t σ s.H Q
def mFz (m : ME) : MD := fun env => match m env with
  | none => none
  | some (o, e1) => match o.frz with
    | none => none
    | some d => some (d, e1)
theorem Own.frzd {P1 R : FP} {s1 : S} (b4 : Own (fU P1 R) s1) (b3 : Dis P1 R) : Own P1 (⟨s1.H, fU s1.Z R⟩ : S) ∧ Ext (fU P1 R) s1 P1 ⟨s1.H, fU s1.Z R⟩ :=
  ⟨⟨fun a z => ⟨fun y => y.elim (b4.o a (.inl z)).1 (b3 a z), (b4.o a (.inl z)).2⟩, fun a z => z.elim (b4.w a) fun y => (b4.o a (.inr y)).2⟩, (Ext.freeze b4 fun a z => .inr z).sub fun a z => ⟨.inl z, b3 a z⟩⟩
section
variable {X : Cx} {fx : List Nat} {a b c e tg : Expr} {es rest : List Expr} {pos p p2 : Pos} {k : Nat} {st : Stmt} {sts : List Stmt}
theorem DF.of {m : ME} (h : DE X e m) : DF X e (mFz m) := by
  obtain ⟨t, hp, hr⟩ := h.run
  refine ⟨t, hp, fun σ s env P d env' a1 a2 a3 Q hq => ?_⟩
  unfold mFz at a3
  split at a3
  · cases a3
  rename_i o e1 q1
  split at a3
  · cases a3
  rename_i d' q2
  cases a3
  refine hr σ s env P o _ a1 a2 q1 _ fun v s1 P1 R b1 b2 b3 b4 b5 => ?_
  obtain ⟨w, x⟩ := b4.frzd b3
  exact hq v ⟨s1.H, fU s1.Z R⟩ P1 (b1.mono ⟨x.fz, fun _ _ => rfl⟩) (b2.freeze q2 (fun _ z => .inl z) fun _ z => .inr z) w (b5.trans x)
/-! ### slots written -/
theorem EnvOk.slotL {K : PySem.W.Frag} {s : S} {σ : L2.St} {e : Env} {P : FP} (h : EnvOk K s σ e P) (w : Own P s) {i : Nat} {ds : List D} (q : lk e i = some (.oL ds)) :
    ∃ a vs, σ[i]? = some (some (.ref a)) ∧ s.H a = some (.lst vs) ∧ RepL K s vs ds ∧ P a ∧ ∀ vs' ds', RepL K s vs' ds' → EnvOk K ⟨upd s.H a (.lst vs'), s.Z⟩ σ (e.set i (some (.oL ds'))) P ∧ Own P ⟨upd s.H a (.lst vs'), s.Z⟩ ∧ Ext P s P ⟨upd s.H a (.lst vs'), s.Z⟩ := by
  obtain ⟨v, Po, R, h1, h2, h3, h4, h5, h6⟩ := h.get q
  cases h2 with
  | @oL a vs _ g1 g2 =>
    have pa : P a := (h4 a).mpr (.inl rfl)
    refine ⟨a, vs, h1, g1, g2, pa, fun vs' ds' r => ?_⟩
    have x : Ext P s P ⟨upd s.H a (.lst vs'), s.Z⟩ := Ext.write w pa
    have kp : Kp R s ⟨upd s.H a (.lst vs'), s.Z⟩ := ⟨x.fz, fun b z => upd_ne fun e => h3 b e z⟩
    refine ⟨(h6 _ (.oL ds') (f1 a) kp (.oL upd_same (r.mono x.fz)) h3).cast fun b => (h4 b).symm, ⟨fun b z => ⟨(w.o b z).1, fun y => (w.o b z).2 (x.dom b y)⟩, fun b z y => w.w b z (x.dom b y)⟩, x⟩
theorem EnvOk.slotD {K : PySem.W.Frag} {s : S} {σ : L2.St} {e : Env} {P : FP} (h : EnvOk K s σ e P) (w : Own P s) {i : Nat} {ds : List (Key × D)} (q : lk e i = some (.oD ds)) :
    ∃ a vs, σ[i]? = some (some (.ref a)) ∧ s.H a = some (.dK vs) ∧ RepO' K s vs ds ∧ P a ∧ ∀ vs' ds', RepO' K s vs' ds' → EnvOk K ⟨upd s.H a (.dK vs'), s.Z⟩ σ (e.set i (some (.oD ds'))) P ∧ Own P ⟨upd s.H a (.dK vs'), s.Z⟩ ∧ Ext P s P ⟨upd s.H a (.dK vs'), s.Z⟩ := by
  obtain ⟨v, Po, R, h1, h2, h3, h4, h5, h6⟩ := h.get q
  cases h2 with
  | @oD a vs _ g1 g2 =>
    have pa : P a := (h4 a).mpr (.inl rfl)
    refine ⟨a, vs, h1, g1, g2, pa, fun vs' ds' r => ?_⟩
    have x : Ext P s P ⟨upd s.H a (.dK vs'), s.Z⟩ := Ext.write w pa
    have kp : Kp R s ⟨upd s.H a (.dK vs'), s.Z⟩ := ⟨x.fz, fun b z => upd_ne fun e => h3 b e z⟩
    refine ⟨(h6 _ (.oD ds') (f1 a) kp (.oD upd_same (r.mono x.fz)) h3).cast fun b => (h4 b).symm, ⟨fun b z => ⟨(w.o b z).1, fun y => (w.o b z).2 (x.dom b y)⟩, fun b z y => w.w b z (x.dom b y)⟩, x⟩
/-! ### x[i] = v, the container in a slot -/
def putO (o : OV) (k d : D) : Option OV := match o with
  | .oL ds => match k with
    | .int i => (ixN ds.length i).map fun j => .oL (ds.set j d)
    | _ => none
  | .oD kvs => match keyOf k with
    | some kk => if kvs.length ≤ lim then some (.oD (putD kvs kk d)) else none
    | none => none
  | _ => none
def rPut : V → V → V → Hp → (Hp → Prop) → Prop := fun o i v H Q => rSetL o i v H Q ∨ ∃ a H4, o = .ref a ∧ DPut H a i v H4 ∧ Q H4
theorem set_any (hu : X.A.units + 1 < cLine) : PSet X rPut := by
  intro pins s σ H o i v ov iv u Q I r1 r2 r3 h
  rcases h with h | ⟨a, H4, rfl, g, q⟩
  · exact set_list pins s σ H o i v ov iv u Q I r1 r2 r3 h
  · cases r1
    exact d_setItem hu I g r2 r3 fun s' I' => ⟨H4, I', q⟩
def mPut (j : Nat) (mv mi : MD) : MS := fun env => match mv env with
  | none => none
  | some (d, e1) => match lk e1 j with
    | none => none
    | some _ => match mi e1 with
      | none => none
      | some (k, e2) => match lk e2 j with
        | none => none
        | some o => match putO o k d with
          | none => none
          | some o' => some (.nx (e2.set j (some o')))
theorem Rep.int_inv {K : PySem.W.Frag} {s : S} {v : V} {i : Int} (h : Rep K s v (.int i)) : v = .int i := by cases h; rfl
theorem Rep.key {K : PySem.W.Frag} {s : S} {v : V} {d : D} {kk : Key} (h : Rep K s v d) (e : keyOf d = some kk) : v = kV kk := (RepO.fz h).key (k := kk) e
theorem DS.put {mv mi : MD} {x : Str} {px pos' : Pos} (j : Nat) (hr : Room k X.A) (hv : DF X e mv) (hi : DF X a mi) (hN : X.N[j]? = some x := by rfl) (hx : Vis X.env.scope x := by first | exact Or.inl rfl | exact Or.inr (Or.inl rfl) | exact Or.inr (Or.inr rfl))
    (hs : swapsWithSole [.Subscript (.Name x px) a pos'] e pos.line X.env = pure false := by rfl) (hw : swappedStores [.Subscript (.Name x px) a pos'] e X.env = pure none := by rfl)
    (h1 : (assignEach [.Subscript (.Name x px) a pos'] X.env).map (·.2) = [assign (.Subscript (.Name x px) a pos') X.env] := by rfl)
    (ha : ∀ v, assign (.Subscript (.Name x px) a pos') X.env v = (do
      let ov ← holding [v] (eval (.Name x px) X.env)
      let iv ← holding [v, ov] (eval a X.env)
      standAt pos'
      holding [v, ov, iv] (setItem ov iv v)
      release [v, ov, iv] []) := by exact fun _ => rfl)
    (hd : (x == ("__debug__" : Str)) = false := by decide) (hcd : (x == ("__classdict__" : Str)) = false := by decide) : DS X fx (.Assign [.Subscript (.Name x px) a pos'] e pos) (mPut j mv mi) := by
  obtain ⟨tv, vp, vr⟩ := hv.run
  obtain ⟨ti, ip, ir⟩ := hi.run
  refine ⟨_, ps_asg vp (pg_sub (pe_var hN hx hd hcd) ip (set_any (hu_of hr)) ha) hs hw h1, fun σ s env P out a1 a2 a3 D hq => ?_⟩
  unfold mPut at a3
  split at a3
  · cases a3
  rename_i d e1 q1
  split at a3
  · cases a3
  rename_i o1 q2
  split at a3
  · cases a3
  rename_i kd e2 q3
  split at a3
  · cases a3
  rename_i o q4
  split at a3
  · cases a3
  rename_i o' q5
  cases a3
  refine vr σ s env P d e1 a1 a2 q1 _ fun v s1 P1 b1 b2 b3 b4 => ?_
  obtain ⟨u, _, _, g1, _⟩ := b1.get q2
  refine ⟨u, g1, ir σ s1 e1 P1 kd e2 b1 b3 q3 _ fun iv s2 P2 c1 c2 c3 c4 => ?_⟩
  have rv := Rep.mono c4.fz _ _ b2
  unfold putO at q5
  split at q5
  · rename_i ds
    obtain ⟨ad, vs, f1, f2, f3, f4, f5⟩ := c1.slotL c3 q4
    rw [g1] at f1; cases f1
    split at q5
    · rename_i i
      obtain ⟨jj, z1, rfl⟩ := Option.map_eq_some_iff.mp q5
      obtain ⟨y1, y2, y3⟩ := f5 (vs.set jj v) (ds.set jj d) (f3.set jj rv)
      exact .inl ⟨ad, vs, i, jj, rfl, c2.int_inv, f2, by rw [f3.length]; exact z1, hq σ _ P2 y1 y2 (b4.trans (c4.trans y3)) (.refl _ _)⟩
    · cases q5
  · rename_i kvs
    obtain ⟨ad, vs, f1, f2, f3, f4, f5⟩ := c1.slotD c3 q4
    rw [g1] at f1; cases f1
    split at q5
    · rename_i kk z1
      split at q5
      · rename_i hz
        cases q5
        obtain ⟨y1, y2, y3⟩ := f5 (putK vs kk v) (putD kvs kk d) (f3.put kk rv)
        refine .inr ⟨ad, _, rfl, .inl ⟨vs, kk, f2, c2.key z1, by rw [f3.len]; exact lt_line hz, rfl⟩, hq σ _ P2 y1 y2 (b4.trans (c4.trans y3)) (.refl _ _)⟩
      · cases q5
    · cases q5
  · cases q5
/-! ### x op= e -/
def mAug (i : Nat) (f : OV → OV → Option OV) (m : MD) : MS := fun env => match lk env i with
  | some (.fz d1) => match m env with
    | none => none
    | some (d, e1) => match f (.fz d1) (.fz d) with
      | some (.fz d') => if i < e1.length then some (.nx (e1.set i (some (.fz d')))) else none
      | _ => none
  | _ => none
theorem DS.aug {i : Nat} {x : Str} {p1 : Pos} {op : Operator} {r : R2} {f : OV → OV → Option OV} {m : MD} (hN : X.N.Nodup) (ho : OpR X (inplaceOp op) r) (hp : P2 X.K r f) (h : DF X e m) (hfx : i ∉ fx := by decide) (hi : X.N[i]? = some x := by rfl)
    (hx : Loc X.env.scope x := by first | exact Or.inl rfl | exact Or.inr rfl) (hf : X.fn x = true ∨ X.env.scope.names.lookup x = some .local := by first | exact .inl rfl | exact .inr rfl) : DS X fx (.AugAssign (.Name x p1) op e pos) (mAug i f m) := by
  obtain ⟨t, hpe, hr⟩ := h.run
  refine ⟨_, ps_aug hN hi hx hpe (ti := r) (fun pins s σ H x y v u Q I rx ry q => ho pins s σ H x y v u Q I rx ry q) hf, fun σ s env P out a1 a2 a3 D hq => ?_⟩
  unfold mAug at a3
  split at a3
  · rename_i d1 q0
    split at a3
    · cases a3
    rename_i d e1 q1
    split at a3
    · rename_i d' q2
      split at a3
      · rename_i hl
        cases a3
        obtain ⟨v, Po, R, h1, h2, _⟩ := a1.get q0
        refine ⟨v, h1, hr σ s env P d e1 a1 a2 q1 _ fun u s1 P1 b1 b2 b3 b4 => ?_⟩
        have r1 : RepO X.K s1 (.fz d1) v fE := by
          cases h2 with
          | fz h2 => exact .fz (Rep.mono b4.fz _ _ h2)
        refine hp s1 _ v fE _ u fE _ b3.w r1 (.fz b2) q2 _ fun z s2 R2 c1 c2 c3 => ?_
        cases c1 with
        | fz c1 =>
          have d0 : Dis fE P1 := fun _ z => z.elim
          obtain ⟨P', g1, g2⟩ := (b1.mono (c3.kp d0 b3)).put hl (.fz c1) fun _ _ z => z
          have sub : ∀ a, P' a → P1 a := fun a z => (g2 a z).elim id fun z => z.elim
          exact hq _ s2 P' g1 ((c3.ownR d0 b3).sub sub) ((b4.trans ((c3.frame (R := P1)).wide fun a z => z.resolve_left fun w => w)).sub fun a z => .inr (sub a z)) (Fx.set hfx)
      · cases a3
    · cases a3
  · cases a3
theorem p_iaddI : OpR X (inplaceOp .Add) (rI0 fun i j => .int (i + j)) := iop_add
def fIAdd := iii fun i j => i + j
theorem DS.iadd {i : Nat} {x : Str} {p1 : Pos} {m : MD} (hN : X.N.Nodup) (h : DF X e m) (hfx : i ∉ fx := by decide) (hi : X.N[i]? = some x := by rfl)
    (hx : Loc X.env.scope x := by first | exact Or.inl rfl | exact Or.inr rfl) (hf : X.fn x = true ∨ X.env.scope.names.lookup x = some .local := by first | exact .inl rfl | exact .inr rfl) : DS X fx (.AugAssign (.Name x p1) .Add e pos) (mAug i fIAdd m) := .aug hN iop_add p_iii h hfx hi hx hf
theorem iop_mulW : OpR X (inplaceOp .Mult) (rI CMulW fun i j => .int (i * j)) := opI fun _ _ _ _ _ _ _ hc q => imul_int q hc.ok
theorem DS.imul {i : Nat} {x : Str} {p1 : Pos} {m : MD} (hN : X.N.Nodup) (h : DF X e m) (hfx : i ∉ fx := by decide) (hi : X.N[i]? = some x := by rfl)
    (hx : Loc X.env.scope x := by first | exact Or.inl rfl | exact Or.inr rfl) (hf : X.fn x = true ∨ X.env.scope.names.lookup x = some .local := by first | exact .inl rfl | exact .inr rfl) : DS X fx (.AugAssign (.Name x p1) .Mult e pos) (mAug i fMul m) := .aug hN iop_mulW p_mul h hfx hi hx hf
end
end G
namespace G
open PySem PySem.Spec PyProof.Rows L2

/-! ### methods of a list in a slot -/
def LM1 (r : V → List V → Hp → VK → Prop) (g : List D → D → Option (D × List D)) : Prop :=
  ∀ (K : PySem.W.Frag) (s : S) (a : Addr) (vs : List V) (ds : List D) (v : V) (d d' : D) (ds' : List D), s.H a = some (.lst vs) → RepL K s vs ds → Rep K s v d → g ds d = some (d', ds') →
    ∃ v' vs', Rep K s v' d' ∧ RepL K s vs' ds' ∧ ∀ Q : VK, Q v' (upd s.H a (.lst vs')) → r (.ref a) [v] s.H Q
def LM0 (r : V → List V → Hp → VK → Prop) (g : List D → Option (D × List D)) : Prop :=
  ∀ (K : PySem.W.Frag) (s : S) (a : Addr) (vs : List V) (ds : List D) (d' : D) (ds' : List D), s.H a = some (.lst vs) → RepL K s vs ds → g ds = some (d', ds') →
    ∃ v' vs', Rep K s v' d' ∧ RepL K s vs' ds' ∧ ∀ Q : VK, Q v' (upd s.H a (.lst vs')) → r (.ref a) [] s.H Q
def gApp (ds : List D) (d : D) : Option (D × List D) := if ds.length ≤ lim then some (.none, ds ++ [d]) else none
theorem lm_app : LM1 rAppend gApp := by
  intro K s a vs ds v d d' ds' h r rv e
  unfold gApp at e
  split at e
  · rename_i hz
    cases e
    exact ⟨.non, vs ++ [v], .non, r.append (.cons rv .nil), fun Q q => ⟨a, vs, v, rfl, rfl, h, by rw [r.length]; exact lt_line hz, q⟩⟩
  · cases e
def gPop (ds : List D) : Option (D × List D) := match ds.getLast? with
  | some d => some (d, ds.dropLast)
  | none => none
theorem dropLast_take {α : Type} (l : List α) : l.dropLast = l.take (l.length - 1) := List.dropLast_eq_take
theorem lm_pop : LM0 rPop gPop := by
  intro K s a vs ds d' ds' h r e
  unfold gPop at e
  split at e
  · rename_i d q
    cases e
    rw [List.getLast?_eq_getElem?] at q
    obtain ⟨v, q2, rv⟩ := r.get' q
    refine ⟨v, vs.dropLast, rv, ?_, fun Q z => ⟨a, vs, v, rfl, rfl, h, by rw [r.length]; exact q2, z⟩⟩
    rw [dropLast_take, dropLast_take, r.length]
    exact r.take _
  · cases e
def gPopAt (ds : List D) (k : D) : Option (D × List D) := match k with
  | .int i => match ixN ds.length i with
    | some j => if i.natAbs ≤ lim then (ds[j]?).map (·, ds.eraseIdx j) else none
    | none => none
  | _ => none
theorem lm_popAt : LM1 rPopAt gPopAt := by
  intro K s a vs ds v d d' ds' h r rv e
  unfold gPopAt at e
  split at e
  · rename_i i
    split at e
    · rename_i j q
      split at e
      · rename_i hb
        obtain ⟨y, q2, q3⟩ := Option.map_eq_some_iff.mp e
        cases q3
        obtain ⟨u, q4, q5⟩ := r.get' q2
        have hl : lim = 16000000 := rfl
        obtain ⟨z1, _⟩ := ixN_seq q
        exact ⟨u, vs.eraseIdx j, q5, r.eraseIdx j, fun Q z => ⟨a, vs, i, j, u, rfl, by rw [rv.int_inv], h, by omega, by omega, by rw [r.length]; exact z1, q4, z⟩⟩
      · cases e
    · cases e
  · cases e
def mLM1 (g : List D → D → Option (D × List D)) (j : Nat) (m : MD) : ME := fun env => match lk env j with
  | some (.oL _) => match m env with
    | none => none
    | some (d, e1) => match lk e1 j with
      | some (.oL ds) => match g ds d with
        | none => none
        | some (d', ds') => some (.fz d', e1.set j (some (.oL ds')))
      | _ => none
  | _ => none
def mLM0 (g : List D → Option (D × List D)) (j : Nat) : ME := fun env => match lk env j with
  | some (.oL ds) => match g ds with
    | none => none
    | some (d', ds') => some (.fz d', env.set j (some (.oL ds')))
  | _ => none
section
variable {X : Cx} {fx : List Nat} {a b c e tg : Expr} {es rest : List Expr} {pos p p2 : Pos} {k : Nat} {st : Stmt} {sts : List Stmt}
theorem postE_plain {K : PySem.W.Frag} {σ : L2.St} {s s' : S} {P P' : FP} {d : D} {v : V} {e' : Env} {Q : VK} (hq : PostE K σ s P (.fz d) e' Q) (h1 : EnvOk K s' σ e' P') (w : Own P' s') (x : Ext P s P' s') (r : Rep K s' v d) : Q v s'.H :=
  hq v s' P' fE h1 (.fz r) (fun _ _ z => z) (by rw [fU_eq]; exact w) (by rw [fU_eq]; exact x)
theorem DE.lm1 {m : MD} {x nm : Str} {id : String} {px apos : Pos} {r : V → List V → Hp → VK → Prop} {g : List D → D → Option (D × List D)} (j : Nat) (slot : Slot "list" nm id) (hty : typeOf (.builtin id) = pure (.type "method_descriptor")) (hm : MtR X id r) (hg : LM1 r g) (h : DF X e m)
    (hN : X.N[j]? = some x := by rfl) (hx : Vis X.env.scope x := by first | exact Or.inl rfl | exact Or.inr (Or.inl rfl) | exact Or.inr (Or.inr rfl))
    (hd : (x == ("__debug__" : Str)) = false := by decide) (hcd : (x == ("__classdict__" : Str)) = false := by decide) (hs : starEach [e] X.env = (false, eval e X.env) :: starEach [] X.env := by rfl)
    (hbase : attributeBase (.Name x px) nm X.env (eval (.Name x px) X.env) = eval (.Name x px) X.env := by rfl)
    (hfew : ((backTo pos (starEach [e] X.env)).all (fun x => !x.1) && (backToKw pos (keywordEach [] X.env)).all (fun x => x.1.isSome)
      && decide (([e] : List Expr).length + ([] : List Keyword).length + (if ([] : List Keyword).isEmpty then 0 else 1) < 30)) = true := by rfl)
    (hline : (apos.endLine == pos.line) = true := by rfl) : DE X (.Call (.Attribute (.Name x px) nm apos) [e] [] pos) (mLM1 g j m) := by
  obtain ⟨t, hp, hr⟩ := h.run
  refine ⟨_, pe_bm PySem.F.plainAttrs_list slot hty hm (pe_var hN hx hd hcd) (pa_cons hp pa_nil hs) hbase hfew hline hs rfl, fun σ s env P o env' a1 a2 a3 Q hq => ?_⟩
  unfold mLM1 at a3
  split at a3
  · rename_i ds0 q1
    split at a3
    · cases a3
    rename_i d e1 q2
    split at a3
    · rename_i ds q3
      split at a3
      · cases a3
      rename_i d' ds' q4
      cases a3
      obtain ⟨ad, vs0, g1, g2, _⟩ := a1.slotL a2 q1
      refine ⟨_, g1, .inl ⟨rfl, _, SqL.of g2⟩, ?_⟩
      refine hr σ s env P d e1 a1 a2 q2 (fun y H2 => r (.ref ad) [y] H2 Q) fun v s1 P1 b1 b2 b3 b4 => ?_
      obtain ⟨ad', vs, f1, f2, f3, f4, f5⟩ := b1.slotL b3 q3
      rw [g1] at f1; cases f1
      obtain ⟨v', vs', z1, z2, z3⟩ := hg X.K s1 ad vs ds v d d' ds' f2 f3 b2 q4
      obtain ⟨y1, y2, y3⟩ := f5 vs' ds' z2
      exact z3 Q (postE_plain hq y1 y2 (b4.trans y3) (Rep.mono y3.fz _ _ z1))
    · cases a3
  · cases a3
theorem DE.lm0 {x nm : Str} {id : String} {px apos : Pos} {r : V → List V → Hp → VK → Prop} {g : List D → Option (D × List D)} (j : Nat) (slot : Slot "list" nm id) (hty : typeOf (.builtin id) = pure (.type "method_descriptor")) (hm : MtR X id r) (hg : LM0 r g)
    (hN : X.N[j]? = some x := by rfl) (hx : Vis X.env.scope x := by first | exact Or.inl rfl | exact Or.inr (Or.inl rfl) | exact Or.inr (Or.inr rfl))
    (hd : (x == ("__debug__" : Str)) = false := by decide) (hcd : (x == ("__classdict__" : Str)) = false := by decide)
    (hbase : attributeBase (.Name x px) nm X.env (eval (.Name x px) X.env) = eval (.Name x px) X.env := by rfl)
    (hline : (apos.endLine == pos.line) = true := by rfl) : DE X (.Call (.Attribute (.Name x px) nm apos) [] [] pos) (mLM0 g j) := by
  refine ⟨_, pe_bm0 PySem.F.plainAttrs_list slot hty hm (pe_var hN hx hd hcd) hbase hline, fun σ s env P o env' a1 a2 a3 Q hq => ?_⟩
  unfold mLM0 at a3
  split at a3
  · rename_i ds q3
    split at a3
    · cases a3
    rename_i d' ds' q4
    cases a3
    obtain ⟨ad, vs, f1, f2, f3, f4, f5⟩ := a1.slotL a2 q3
    refine ⟨_, f1, .inl ⟨rfl, _, SqL.of f2⟩, ?_⟩
    obtain ⟨v', vs', z1, z2, z3⟩ := hg X.K s ad vs ds d' ds' f2 f3 q4
    obtain ⟨y1, y2, y3⟩ := f5 vs' ds' z2
    exact z3 Q (postE_plain hq y1 y2 y3 (Rep.mono y3.fz _ _ z1))
  · cases a3

/-! ### what a loop walks -/
def Wk (K : PySem.W.Frag) (J : It) (ds : List D) (s0 : S) : Prop := ∀ i s1, Fz s0 s1 → Wf s1 →
  (∀ d, ds[i]? = some d → J.go i s1.H ∧ ∀ x H', J.yld i s1.H x H' → ∃ s2, s2.H = H' ∧ Ext fE s1 fE s2 ∧ Rep K s2 x d) ∧ (ds.length ≤ i → J.stop i s1.H)
abbrev MI := Env → Option (List D × Env)
structure DI (X : Cx) (tg iter : Expr) (m : MI) : Prop where
  run : ∃ wi, PI X tg iter wi ∧ ∀ σ s env P ds env', EnvOk X.K s σ env P → Own P s → m env = some (ds, env') →
    ∀ R : It → Hp → Prop, (∀ J s' P', EnvOk X.K s' σ env' P' → Own P' s' → Ext P s P' s' → Wk X.K J ds s' → R J s'.H) → wi σ s.H R
theorem wk_list {K : PySem.W.Frag} {s0 : S} {a : Addr} {vs : List V} {ds : List D} (h : LAt K s0 a vs) (r : RepL K s0 vs ds) : Wk K (Itl K a) ds s0 := by
  intro i s1 f w
  have h1 := (h.mono f).sq
  refine ⟨fun d e => ?_, fun hl => ⟨vs, h1, by rw [r.length]; exact hl⟩⟩
  obtain ⟨v, e1, e2⟩ := r.get' e
  refine ⟨⟨vs, v, h1, e1⟩, fun x H' ⟨e3, e4⟩ => ⟨s1, e3.symm, .refl _ _, ?_⟩⟩
  have := e4 vs h1
  rw [e1] at this; cases this
  exact Rep.mono f _ _ e2
theorem wk_tup {K : PySem.W.Frag} {s0 : S} {a : Addr} {vs : List V} {ds : List D} (h : TAt K s0 a vs) (r : RepL K s0 vs ds) : Wk K (Itt K a) ds s0 := by
  intro i s1 f w
  have h1 := (h.mono f).sq
  refine ⟨fun d e => ?_, fun hl => ⟨vs, h1, by rw [r.length]; exact hl⟩⟩
  obtain ⟨v, e1, e2⟩ := r.get' e
  refine ⟨⟨vs, v, h1, e1⟩, fun x H' ⟨e3, e4⟩ => ⟨s1, e3.symm, .refl _ _, ?_⟩⟩
  have := e4 vs h1
  rw [e1] at this; cases this
  exact Rep.mono f _ _ e2
def rgD (lo : Int) (n : Nat) : List D := (List.range n).map fun k => .int (lo + (k : Nat))
theorem wk_rng {K : PySem.W.Frag} {s0 : S} {lo : Int} {n : Nat} : Wk K (Itr lo n) (rgD lo n) s0 := by
  intro i s1 f w
  refine ⟨fun d e => ?_, fun hl => show n ≤ i by simpa [rgD] using hl⟩
  have hi : i < n := by
    have := (List.getElem?_eq_some_iff.mp e).1
    simpa [rgD] using this
  refine ⟨hi, fun x H' ⟨e3, e4⟩ => ⟨s1, e3.symm, .refl _ _, ?_⟩⟩
  subst e4
  simp only [rgD, List.getElem?_map, List.getElem?_range hi, Option.map_some, Option.some.injEq] at e
  subst e
  exact .int _
def chD (x : Str) : List D := x.cps.toList.map fun c => .str ⟨#[c]⟩
theorem wk_str {K : PySem.W.Frag} {s0 : S} {x : Str} : Wk K (Its x) (chD x) s0 := by
  intro i s1 f w
  refine ⟨fun d e => ?_, fun hl => show x.cps.size ≤ i by simpa [chD] using hl⟩
  have hi : i < x.cps.size := by
    have := (List.getElem?_eq_some_iff.mp e).1
    simpa [chD] using this
  refine ⟨hi, fun y H' ⟨e3, c, e4, e5⟩ => ⟨s1, e3.symm, .refl _ _, ?_⟩⟩
  subst e5
  simp only [chD, List.getElem?_map, Array.getElem?_toList, e4, Option.map_some, Option.some.injEq] at e
  subst e
  exact .str _
/-- a list, a tuple, a text, once its value is there -/
theorem it_seq {X : Cx} {tg : Expr} {pins : List (Addr × Obj)} {σ : L2.St} {s : Shared} {H : Hp} {x : V} {u : Value} {R : It → Hp → Prop} (I : Inv X pins σ H s) (ru : RelV x u)
    (h : (∃ a xs, x = .ref a ∧ SqL X.K H a xs ∧ R (Itl X.K a) H) ∨ (∃ a xs, x = .ref a ∧ SqT X.K H a xs ∧ R (Itt X.K a) H) ∨ ∃ z, x = .str z ∧ R (Its z) H) :
    wpAny (model X.prog X.w) X.A (pyIter u) (PIE X pins σ tg R) X.xe s := by
  have one : ∀ (J : It) (tn : Nat → Heap → Prop) (o : Obj) (tk : Nat), Turn X.prog X.w X.K tg J [s.heap.objs.size] s.heap.objs.size tn → tn 0 (s.heap.push o) → R J H → PIE X pins σ tg R (.ref s.heap.objs.size) { s with heap := s.heap.push o, toks := tk } := by
    intro J tn o tk T st q
    refine ⟨_, _, tn, J, H, rfl, I.kept fun _ _ z => Heap.get?_push_of_some _ z, T, st, fun b hb => ?_, q⟩
    cases List.mem_singleton.mp hb
    exact I.fpOk (Nat.le_refl _) (I.hok.fresh (Nat.le_refl _))
  rcases h with ⟨a, xs, rfl, h1, q⟩ | ⟨a, xs, rfl, h1, q⟩ | ⟨z, rfl, q⟩
  · cases ru
    obtain ⟨ls, _, pl, _⟩ := I.list h1
    exact wpAny_pyIter_list pl.isList (one _ _ _ s.toks (turn_list a _) ⟨_, Heap.get?_push_size _ rfl, rfl, rfl⟩ q)
  · cases ru
    obtain ⟨ls, _, pt, _⟩ := I.tuple h1
    exact wpAny_pyIter_tuple (show s.heap.IsTuple a ls.toArray from pt) (one _ _ _ s.toks (turn_tuple a _) ⟨_, Heap.get?_push_size _ rfl, rfl, rfl⟩ q)
  · obtain ⟨t, rfl⟩ := ru
    cases ha : z.cps.all (· < 128)
    · exact wpAny_pyIter_wide ha (one _ _ _ s.toks (turn_str _ z t "str_iterator" (.inr rfl)) ⟨_, Heap.get?_push_size _ rfl, rfl, rfl⟩ q)
    · exact wpAny_pyIter_ascii ha (one _ _ _ s.toks (turn_str _ z t "str_ascii_iterator" (.inl rfl)) ⟨_, Heap.get?_push_size _ rfl, rfl, rfl⟩ q)
def itemsD : D → Option (List D)
  | .list ds => some ds
  | .tuple ds => some ds
  | .str x => some (chD x)
  | _ => none
def mIt (m : MD) : MI := fun env => match m env with
  | none => none
  | some (d, e1) => (itemsD d).map (·, e1)
theorem DI.seq {m : MD} (h : DF X e m) : DI X tg e (mIt m) := by
  obtain ⟨t, hp, hr⟩ := h.run
  refine ⟨fun σ H R => t σ H fun x H1 => (∃ a xs, x = .ref a ∧ SqL X.K H1 a xs ∧ R (Itl X.K a) H1) ∨ (∃ a xs, x = .ref a ∧ SqT X.K H1 a xs ∧ R (Itt X.K a) H1) ∨ ∃ z, x = .str z ∧ R (Its z) H1,
    ⟨fun pins s σ H R I hq => thn (hp.run pins s σ H _ I hq) fun u s1 ⟨x, H1, I1, r1, q1⟩ => it_seq I1 r1 q1⟩, fun σ s env P ds env' a1 a2 a3 R hq => ?_⟩
  unfold mIt at a3
  split at a3
  · cases a3
  rename_i d e1 q1
  obtain ⟨ds', q2, q3⟩ := Option.map_eq_some_iff.mp a3
  cases q3
  refine hr σ s env P d _ a1 a2 q1 _ fun v s1 P1 b1 b2 b3 b4 => ?_
  cases b2 with
  | lst h1 h2 => cases q2; exact .inl ⟨_, _, rfl, h1.sq, hq _ s1 P1 b1 b3 b4 (wk_list h1 h2)⟩
  | tup h1 h2 _ => cases q2; exact .inr (.inl ⟨_, _, rfl, h1.sq, hq _ s1 P1 b1 b3 b4 (wk_tup h1 h2)⟩)
  | str x => cases q2; exact .inr (.inr ⟨_, rfl, hq _ s1 P1 b1 b3 b4 wk_str⟩)
  | _ => cases q2
/-- range -/
def mRg1 (m : MA) : MI := fun env => match m env with
  | none => none
  | some (as, e1) => match resolve e1 as with
    | some [.fz (.int j)] => if j.natAbs ≤ 2 ^ 60 then some (rgD 0 j.toNat, e1) else none
    | _ => none
def mRg2 (m : MA) : MI := fun env => match m env with
  | none => none
  | some (as, e1) => match resolve e1 as with
    | some [.fz (.int i), .fz (.int j)] => if i.natAbs ≤ 2 ^ 60 ∧ j.natAbs ≤ 2 ^ 60 then some (rgD i (j - i).toNat, e1) else none
    | _ => none
theorem DI.rg1 {m : MA} (hg : Gl X "range") (hm : X.mg "range" = none) (h : DA X [a] m) (hs : starEach [a] X.env = [(false, eval a X.env)] := by rfl) : DI X tg (.Call (.Name "range" p) [a] [] pos) (mRg1 m) := by
  obtain ⟨ts, h1, h2, h3⟩ := h.run
  refine ⟨_, pi_range1 hg hm h2 hs, fun σ s env P ds env' a1 a2 a3 R hq => ?_⟩
  unfold mRg1 at a3
  split at a3
  · cases a3
  rename_i as e1 q1
  split at a3
  · rename_i j q2
    split at a3
    · rename_i hz
      cases a3
      refine h3 σ s env P as _ a1 a2 q1 _ fun vs s1 P1 R1 b1 b2 b3 b4 b5 => ?_
      obtain ⟨u, W, e0, rd⟩ := (b2.read b1 q2).one
      subst e0
      exact ⟨j, by rw [rd.int], by omega, by omega, hq _ s1 P1 b1 (b4.sub fun _ z => .inl z) (b5.sub fun _ z => .inl z) wk_rng⟩
    · cases a3
  · cases a3
theorem RdO.two {K : PySem.W.Frag} {s : S} {a b : OV} {vs : List V} (h : RdO K s [a, b] vs) : ∃ u v P Q, vs = [u, v] ∧ RepO K s a u P ∧ RepO K s b v Q := by
  cases h with
  | cons h1 t =>
    cases t with
    | cons h2 t => cases t; exact ⟨_, _, _, _, rfl, h1, h2⟩
theorem DI.rg2 {m : MA} (hg : Gl X "range") (hm : X.mg "range" = none) (h : DA X [a, b] m) (hs : starEach [a, b] X.env = [(false, eval a X.env), (false, eval b X.env)] := by rfl) (hs2 : starEach [b] X.env = [(false, eval b X.env)] := by rfl) : DI X tg (.Call (.Name "range" p) [a, b] [] pos) (mRg2 m) := by
  obtain ⟨ts, h1, h2, h3⟩ := h.run
  refine ⟨_, pi_range2 hg hm h2 hs hs2, fun σ s env P ds env' a1 a2 a3 R hq => ?_⟩
  unfold mRg2 at a3
  split at a3
  · cases a3
  rename_i as e1 q1
  split at a3
  · rename_i i j q2
    split at a3
    · rename_i hz
      cases a3
      refine h3 σ s env P as _ a1 a2 q1 _ fun vs s1 P1 R1 b1 b2 b3 b4 b5 => ?_
      obtain ⟨u, v, W, W2, e0, rd, rd2⟩ := (b2.read b1 q2).two
      subst e0
      exact ⟨i, j, by rw [rd.int, rd2.int], ⟨by omega, by omega, by omega, by omega⟩, hq _ s1 P1 b1 (b4.sub fun _ z => .inl z) (b5.sub fun _ z => .inl z) wk_rng⟩
    · cases a3
  · cases a3
/-! ### for, while -/
def mLoop (g : MG) (mb : MS) : List D → Env → Option Out
  | [], e => some (.nx e)
  | d :: ds, e => match g d e with
    | none => none
    | some e1 => match mb e1 with
      | some (.nx e2) => mLoop g mb ds e2
      | some (.ct e2) => mLoop g mb ds e2
      | some (.bk e2) => some (.nx e2)
      | x => x
def mFor (mi : MI) (g : MG) (mb : MS) : MS := fun env => match mi env with
  | none => none
  | some (ds, e1) => mLoop g mb ds e1
def LoopAt (K : PySem.W.Frag) (fx : List Nat) (σ0 : L2.St) (s0 : S) (P0 : FP) (f : Env → Option Out) (out : Out) (σ : L2.St) (H : Hp) : Prop :=
  ∃ s' P' env', s'.H = H ∧ EnvOk K s' σ env' P' ∧ Own P' s' ∧ Ext P0 s0 P' s' ∧ Fx fx σ0 σ ∧ f env' = some out
theorem DS.for_ {mi : MI} {ts : List Nat} {g : MG} {mb : MS} {body : List Stmt} (hps : PassesOwn (model X.prog X.w) X.A X.env X.xe) (hc : X.calm = true) (hi : DI X tg e mi) (hg : DG X ts tg g) (hb : DSs X fx body mb) (hfx : ∀ i ∈ fx, i ∉ ts := by decide)
    (hs : ∀ x, foldedSetIterable e X.env x = pure x := by exact fun _ => rfl) : DS X fx (.For tg e body [] pos) (mFor mi g mb) := by
  obtain ⟨wi, ip, ir⟩ := hi.run
  obtain ⟨tgg, gp, gr⟩ := hg.run
  obtain ⟨tb, bp, br⟩ := hb.run
  refine ⟨_, ps_for hps hc ip gp bp hs, fun σ s env P out a1 a2 a3 D hq => ?_⟩
  unfold mFor at a3
  split at a3
  · cases a3
  rename_i ds e1 q1
  refine ir σ s env P ds e1 a1 a2 q1 _ fun J s1 P1 b1 b2 b3 b4 => ?_
  refine ⟨fun i m σ' H' => m = ds.length - i ∧ ∃ s' P' env', s'.H = H' ∧ EnvOk X.K s' σ' env' P' ∧ Own P' s' ∧ Ext P1 s1 P' s' ∧ Fx fx σ σ' ∧ mLoop g mb (ds.drop i) env' = some out, ⟨_, rfl, s1, P1, e1, rfl, b1, b2, .refl _ _, .refl _ _, a3⟩, ?_⟩
  rintro i m σ' H' ⟨rfl, s', P', env', rfl, c1, c2, c3, c4, c5⟩
  obtain ⟨w1, w2⟩ := b4 i s' c3.fz c2.w
  by_cases hi : i < ds.length
  · right
    have ed : ds[i]? = some ds[i] := by simp [hi]
    rw [List.drop_eq_getElem_cons hi] at c5
    obtain ⟨w3, w4⟩ := w1 _ ed
    refine ⟨w3, fun σ2 H2 => ∃ m', m' < ds.length - i ∧ (m' = ds.length - (i + 1) ∧ ∃ s' P' env', s'.H = H2 ∧ EnvOk X.K s' σ2 env' P' ∧ Own P' s' ∧ Ext P1 s1 P' s' ∧ Fx fx σ σ2 ∧ mLoop g mb (ds.drop (i + 1)) env' = some out), fun _ _ z => z, fun x H2 y => ?_⟩
    obtain ⟨s2, rfl, x2, r2⟩ := w4 x H2 y
    have d0 : Dis fE P' := fun _ z => z.elim
    unfold mLoop at c5
    split at c5
    · cases c5
    rename_i e2 q2
    have x3 : Ext P' s' P' s2 := ((x2.frame (R := P')).wide fun a z => z.resolve_left fun w => w).sub fun a z => .inr z
    refine gr σ' s2 env' P' _ x e2 (c1.mono (x2.kp d0 c2)) (x2.ownR d0 c2) r2 q2 _ fun σ3 P3 f1 f2 f3 => ?_
    have ow3 := (x2.ownR d0 c2).sub f2
    have xx := c3.trans (x3.sub f2)
    have ff := c4.trans (f3.toFx hfx)
    have again : ∀ e4, mLoop g mb (ds.drop (i + 1)) e4 = some out → Nx X.K fx σ3 s2 P3 e4 fun σ2 H2 => ∃ m', m' < ds.length - i ∧ (m' = ds.length - (i + 1) ∧ ∃ s' P' env', s'.H = H2 ∧ EnvOk X.K s' σ2 env' P' ∧ Own P' s' ∧ Ext P1 s1 P' s' ∧ Fx fx σ σ2 ∧ mLoop g mb (ds.drop (i + 1)) env' = some out) :=
      fun e4 q4 σ5 s5 P5 g1 g2 g3 g4 => ⟨_, by omega, rfl, s5, P5, e4, rfl, g1, g2, xx.trans g3, ff.trans g4, q4⟩
    split at c5
    · rename_i e4 q4
      exact br σ3 s2 e2 P3 _ f1 ow3 q4 _ (again e4 c5)
    · rename_i e4 q4
      exact br σ3 s2 e2 P3 _ f1 ow3 q4 _ (again e4 c5)
    · rename_i e4 q4
      cases c5
      refine br σ3 s2 e2 P3 _ f1 ow3 q4 _ ?_
      exact Nx.step (show Nx X.K fx σ s P e4 D.nx from hq) (b3.trans xx) ff
    · rename_i n1 n2 n3
      refine br σ3 s2 e2 P3 out f1 ow3 c5 _ ?_
      cases out with
      | nx e => exact (n1 e c5).elim
      | ct e => exact (n2 e c5).elim
      | bk e => exact (n3 e c5).elim
      | rt o e => exact Rt.step (show Rt X.K fx σ s P o e D.rt from hq) (b3.trans xx) ff
  · left
    have e0 : ds.drop i = [] := List.drop_eq_nil_of_le (by omega)
    rw [e0] at c5
    cases c5
    exact ⟨w2 (by omega), (show Nx X.K fx σ s P env' D.nx from hq) σ' s' P' c1 c2 (b3.trans c3) c4⟩
def mWhile (c : MT) (mb : MS) : Nat → Env → Option Out
  | 0, _ => none
  | n + 1, e => match c e with
    | none => none
    | some (false, e1) => some (.nx e1)
    | some (true, e1) => match mb e1 with
      | some (.nx e2) => mWhile c mb n e2
      | some (.ct e2) => mWhile c mb n e2
      | some (.bk e2) => some (.nx e2)
      | x => x
theorem DS.while_ (n : Nat) {mc : MT} {mb : MS} {body : List Stmt} (hps : PassesOwn (model X.prog X.w) X.A X.env X.xe) (hc : DT X c mc) (hb : DSs X fx body mb) : DS X fx (.While c body [] pos) (mWhile mc mb n) := by
  obtain ⟨tc, cp, cr⟩ := hc.run
  obtain ⟨tb, bp, br⟩ := hb.run
  refine ⟨_, ps_while hps cp bp, fun σ s env P out a1 a2 a3 D hq => ?_⟩
  refine ⟨fun m σ' H' => ∃ s' P' env', s'.H = H' ∧ EnvOk X.K s' σ' env' P' ∧ Own P' s' ∧ Ext P s P' s' ∧ Fx fx σ σ' ∧ mWhile mc mb m env' = some out, ⟨n, s, P, env, rfl, a1, a2, .refl _ _, .refl _ _, a3⟩, ?_⟩
  rintro m σ' H' ⟨s', P', env', rfl, c1, c2, c3, c4, c5⟩
  cases m with
  | zero => cases c5
  | succ m =>
    unfold mWhile at c5
    split at c5
    · cases c5
    · rename_i e1 q1
      cases c5
      refine cr σ' s' env' P' false _ c1 c2 q1 _ fun s1 P1 b1 b2 b3 => ?_
      rw [if_neg Bool.false_ne_true]
      exact (show Nx X.K fx σ s P e1 D.nx from hq) σ' s1 P1 b1 b2 (c3.trans b3) c4
    · rename_i e1 q1
      refine cr σ' s' env' P' true e1 c1 c2 q1 _ fun s1 P1 b1 b2 b3 => ?_
      rw [if_pos rfl]
      refine ⟨fun σ2 H2 => ∃ m', m' < m + 1 ∧ ∃ s' P' env', s'.H = H2 ∧ EnvOk X.K s' σ2 env' P' ∧ Own P' s' ∧ Ext P s P' s' ∧ Fx fx σ σ2 ∧ mWhile mc mb m' env' = some out, fun _ _ z => z, ?_⟩
      have again : ∀ e4, mWhile mc mb m e4 = some out → Nx X.K fx σ' s1 P1 e4 fun σ2 H2 => ∃ m', m' < m + 1 ∧ ∃ s' P' env', s'.H = H2 ∧ EnvOk X.K s' σ2 env' P' ∧ Own P' s' ∧ Ext P s P' s' ∧ Fx fx σ σ2 ∧ mWhile mc mb m' env' = some out :=
        fun e4 q4 σ5 s5 P5 g1 g2 g3 g4 => ⟨m, by omega, s5, P5, e4, rfl, g1, g2, (c3.trans b3).trans g3, c4.trans g4, q4⟩
      split at c5
      · rename_i e4 q4
        exact br σ' s1 e1 P1 _ b1 b2 q4 _ (again e4 c5)
      · rename_i e4 q4
        exact br σ' s1 e1 P1 _ b1 b2 q4 _ (again e4 c5)
      · rename_i e4 q4
        cases c5
        refine br σ' s1 e1 P1 _ b1 b2 q4 _ ?_
        exact Nx.step (show Nx X.K fx σ s P e4 D.nx from hq) (c3.trans b3) c4
      · rename_i n1 n2 n3
        refine br σ' s1 e1 P1 out b1 b2 c5 _ ?_
        cases out with
        | nx e => exact (n1 e c5).elim
        | ct e => exact (n2 e c5).elim
        | bk e => exact (n3 e c5).elim
        | rt o e => exact Rt.step (show Rt X.K fx σ s P o e D.rt from hq) (c3.trans b3) c4
end
end G
namespace G
open PySem PySem.Spec PyProof.Rows L2

/-! ### comprehensions -/
def clr : List Nat → Env → Env
  | [], e => e
  | v :: vs, e => (clr vs e).set v none
theorem clr_len : ∀ (vs : List Nat) (e : Env), (clr vs e).length = e.length
  | [], _ => rfl
  | v :: vs, e => by simp [clr, clr_len vs e]
theorem lk_set_none {e : Env} {i j : Nat} : lk (e.set i none) j = if i = j then none else lk e j := by
  by_cases hi : i < e.length
  · exact lk_set hi
  · rw [List.set_eq_of_length_le (by omega)]
    by_cases h : i = j
    · subst h
      rw [if_pos rfl]
      unfold lk
      rw [List.getElem?_eq_none (by omega)]; rfl
    · rw [if_neg h]
theorem lk_clr {j : Nat} : ∀ {vs : List Nat} {e : Env}, lk (clr vs e) j = if j ∈ vs then none else lk e j
  | [], e => by simp [clr]
  | v :: vs, e => by
    rw [clr, lk_set_none, lk_clr]
    by_cases h : v = j
    · simp [h]
    · by_cases h2 : j ∈ vs
      · simp [h, h2]
      · simp [h, h2, Ne.symm h]
theorem wipe_get {σ : L2.St} {j : Nat} : ∀ {vs : List Nat}, (wipe σ vs)[j]? = if j ∈ vs ∧ j < σ.length then some none else σ[j]?
  | [] => by simp [wipe]
  | v :: vs => by
    rw [wipe, List.getElem?_set, wipe_length]
    by_cases h : v = j
    · subst h
      by_cases h2 : v < σ.length
      · simp [h2]
      · simp [h2, List.getElem?_eq_none (show σ.length ≤ v by omega)]
    · rw [if_neg h, wipe_get]
      by_cases h2 : j ∈ vs
      · simp [h2]
      · simp [h2, Ne.symm h]
theorem EnvOk.wipe {K : PySem.W.Frag} {s : S} {σ : L2.St} {e : Env} {P : FP} (vs : List Nat) (h : EnvOk K s σ e P) (n : ∀ j ∈ vs, lk e j = none) : EnvOk K s (wipe σ vs) e P := by
  obtain ⟨f, a, hp⟩ := h
  refine ⟨f, ⟨by rw [wipe_length]; exact a.len, fun i o q => ?_, a.no, a.inj⟩, hp⟩
  obtain ⟨v, h1, h2⟩ := a.val i o q
  refine ⟨v, ?_, h2⟩
  rw [wipe_get, if_neg fun z => by rw [n i z.1] at q; cases q]
  exact h1
theorem EnvOk.unwipe {K : PySem.W.Frag} {s : S} {σ σ' : L2.St} {e : Env} {P : FP} (vs : List Nat) (h : EnvOk K s σ' e P) (w : L2.wipe σ' vs = L2.wipe σ vs) (n : ∀ j ∈ vs, lk e j = none) : EnvOk K s σ e P := by
  obtain ⟨f, a, hp⟩ := h
  have hl : σ'.length = σ.length := by rw [← wipe_length σ' vs, w, wipe_length]
  refine ⟨f, ⟨by rw [← hl]; exact a.len, fun i o q => ?_, a.no, a.inj⟩, hp⟩
  obtain ⟨v, h1, h2⟩ := a.val i o q
  refine ⟨v, ?_, h2⟩
  have hv : i ∉ vs := fun z => by rw [n i z] at q; cases q
  have := congrArg (fun l : L2.St => l[i]?) w
  simp only [wipe_get] at this
  rw [if_neg fun z => hv z.1, if_neg fun z => hv z.1] at this
  rw [← this]; exact h1
theorem EnvOk.clr {K : PySem.W.Frag} {s : S} {σ : L2.St} {e : Env} {P : FP} (h : EnvOk K s σ e P) : ∀ vs : List Nat, ∃ P', EnvOk K s σ (clr vs e) P' ∧ ∀ a, P' a → P a
  | [] => ⟨P, h, fun _ z => z⟩
  | v :: vs => by
    obtain ⟨P', ⟨f, a, hp⟩, h2⟩ := h.clr vs
    refine ⟨fun x => ∃ j, (if j = v then fE else f j) x, ⟨_, a.clear v, fun _ => Iff.rfl⟩, fun x ⟨j, z⟩ => h2 x ?_⟩
    by_cases e' : j = v
    · rw [if_pos e'] at z; exact z.elim
    · rw [if_neg e'] at z; exact (hp x).mpr ⟨j, z⟩
/-- a clause's tests: none, one -/
structure DTs (X : Cx) (ifs : List Expr) (m : MT) : Prop where
  run : ∃ t, PTs X ifs t ∧ ∀ σ s env P b env', EnvOk X.K s σ env P → Own P s → m env = some (b, env') → ∀ Q, PostT X.K σ s P b env' Q → t σ s.H Q
def mYes : MT := fun env => some (true, env)
theorem DTs.nil {X : Cx} : DTs X [] mYes := ⟨_, pts_nil, fun σ s env P b env' a1 a2 a3 Q hq => by cases a3; exact hq s P a1 a2 (.refl _ _)⟩
theorem DTs.one {X : Cx} {c : Expr} {m : MT} (h : DT X c m) : DTs X [c] m := let ⟨t, hp, hr⟩ := h.run; ⟨t, pts_one hp, hr⟩
/-- over all of a comprehension's blocks at once -/
theorem all_F {ι : Type} {F : ι → Cx} {K : PySem.W.Frag} {e : Expr} {m : MD} (hK : ∀ i, (F i).K = K) (h : ∀ i, DF (F i) e m) :
    ∃ te, (∀ i, PE (F i) e te) ∧ ∀ σ s env P d env', EnvOk K s σ env P → Own P s → m env = some (d, env') → ∀ Q, PostF K σ s P d env' Q → te σ s.H Q :=
  ⟨fun σ H Q => ∀ i, Classical.choose (h i).run σ H Q, fun i => ⟨fun pins s σ H Q I q => (Classical.choose_spec (h i).run).1.run pins s σ H Q I (q i)⟩,
    fun σ s env P d env' a1 a2 a3 Q hq i => (Classical.choose_spec (h i).run).2 σ s env P d env' (by rw [hK]; exact a1) a2 a3 Q (by rw [hK]; exact hq)⟩
theorem all_T {ι : Type} {F : ι → Cx} {K : PySem.W.Frag} {ifs : List Expr} {m : MT} (hK : ∀ i, (F i).K = K) (h : ∀ i, DTs (F i) ifs m) :
    ∃ te, (∀ i, PTs (F i) ifs te) ∧ ∀ σ s env P b env', EnvOk K s σ env P → Own P s → m env = some (b, env') → ∀ Q, PostT K σ s P b env' Q → te σ s.H Q :=
  ⟨fun σ H Q => ∀ i, Classical.choose (h i).run σ H Q, fun i => ⟨fun pins s σ H Q I q => (Classical.choose_spec (h i).run).1.run pins s σ H Q I (q i)⟩,
    fun σ s env P b env' a1 a2 a3 Q hq i => (Classical.choose_spec (h i).run).2 σ s env P b env' (by rw [hK]; exact a1) a2 a3 Q (by rw [hK]; exact hq)⟩
theorem all_G {ι : Type} {F : ι → Cx} {K : PySem.W.Frag} {ts : List Nat} {tg : Expr} {m : MG} (hK : ∀ i, (F i).K = K) (h : ∀ i, DG (F i) ts tg m) :
    ∃ g, (∀ i, PG (F i) tg g) ∧ ∀ σ s env P d v env', EnvOk K s σ env P → Own P s → Rep K s v d → m d env = some env' →
      ∀ Q : L2.St → Hp → Prop, (∀ σ' P', EnvOk K s σ' env' P' → (∀ a, P' a → P a) → Ch ts σ σ' → Q σ' s.H) → g v σ s.H Q :=
  ⟨fun v σ H Q => ∀ i, Classical.choose (h i).run v σ H Q, fun i => ⟨fun pins s σ H v u Q I r q => (Classical.choose_spec (h i).run).1.run pins s σ H v u Q I r (q i)⟩,
    fun σ s env P d v env' a1 a2 a3 a4 Q hq i => (Classical.choose_spec (h i).run).2 σ s env P d v env' (by rw [hK]; exact a1) a2 (by rw [hK]; exact a3) a4 Q (by rw [hK]; exact hq)⟩
def mCmpL (vs : List Nat) (g : MG) (t : MT) (m : MD) : List D → List D → Env → Option (List D × Env)
  | [], acc, e => some (acc, e)
  | d :: ds, acc, e => match g d e with
    | none => none
    | some e1 => match t e1 with
      | none => none
      | some (false, e2) => mCmpL vs g t m ds acc (clr vs e2)
      | some (true, e2) => match m e2 with
        | none => none
        | some (d', e3) => if acc.length ≤ lim then mCmpL vs g t m ds (acc ++ [d']) (clr vs e3) else none
def mComp (vs : List Nat) (mi : MI) (g : MG) (t : MT) (m : MD) : ME := fun env => match mi env with
  | none => none
  | some (ds, e1) => match mCmpL vs g t m ds [] (clr vs e1) with
    | none => none
    | some (acc, e2) => some (.oL acc, e2)
theorem clr_none {vs : List Nat} {e : Env} : ∀ j ∈ vs, lk (clr vs e) j = none := fun j h => by rw [lk_clr, if_pos h]
/-- the reading of a comprehension -/
theorem lc_run {X : Cx} {K : PySem.W.Frag} {σ : L2.St} {s : S} {P : FP} {ds : List D} {e1 e2 : Env} {J : It} {vs ts : List Nat} {g : MG} {t : MT} {m : MD} {acc : List D} {tgg : TG} {tt : TT} {te : TE} {Q : VK} (hts : ∀ j ∈ ts, j ∈ vs)
    (gr : ∀ σ s env P d v env', EnvOk K s σ env P → Own P s → Rep K s v d → g d env = some env' → ∀ Q : L2.St → Hp → Prop, (∀ σ' P', EnvOk K s σ' env' P' → (∀ a, P' a → P a) → Ch ts σ σ' → Q σ' s.H) → tgg v σ s.H Q)
    (tr : ∀ σ s env P b env', EnvOk K s σ env P → Own P s → t env = some (b, env') → ∀ Q, PostT K σ s P b env' Q → tt σ s.H Q)
    (er : ∀ σ s env P d env', EnvOk K s σ env P → Own P s → m env = some (d, env') → ∀ Q, PostF K σ s P d env' Q → te σ s.H Q)
    (b1 : EnvOk K s σ e1 P) (b2 : Own P s) (b4 : Wk K J ds s) (hm : mCmpL vs g t m ds [] (clr vs e1) = some (acc, e2)) (hq : PostE K σ s P (.oL acc) e2 Q) :
    ∀ D, s.H D = none → ∃ W : Nat → Nat → Hp → Prop, (∃ m, W 0 m (upd s.H D (.lst []))) ∧ ∀ i m H, W i m H →
      (J.stop i H ∧ Q (.ref D) H) ∨ (J.go i H ∧ ∃ Nx : Hp → Prop, (∀ H', Nx H' → ∃ m', m' < m ∧ W (i + 1) m' H') ∧ ∀ x H', J.yld i H x H' → tgg x (wipe σ vs) H' fun σ2 H2 => wipe σ2 vs = wipe σ vs ∧ tt σ2 H2 fun b H3 =>
        if b = true then te σ2 H3 fun y H4 => ∃ acc, H4 D = some (.lst acc) ∧ acc.length < sizeLine ∧ Nx (upd H4 D (.lst (acc ++ [y]))) else Nx H3) := by
  intro D hD
  -- the new list, owned
  have x0 : Ext P s (fU P (f1 D)) ⟨upd s.H D (.lst []), s.Z⟩ := Ext.new hD
  have nPD : ¬ P D := fun z => (b2.o D z).2 hD
  have w0 : Own (fU P (f1 D)) (⟨upd s.H D (.lst []), s.Z⟩ : S) := ⟨fun a z => by
    rcases z with z | z
    · exact ⟨(b2.o a z).1, fun q => (b2.o a z).2 (x0.dom a q)⟩
    · cases (show a = D from z)
      exact ⟨fun z => b2.w _ z hD, by show upd s.H D _ D ≠ none; rw [upd_same]; exact fun z => nomatch z⟩, fun a z q => b2.w a z (x0.dom a q)⟩
  have k0 : Kp P s ⟨upd s.H D (.lst []), s.Z⟩ := ⟨x0.fz, fun a z => upd_ne fun e => nPD (by rw [← e]; exact z)⟩
  obtain ⟨P0, c0, c0'⟩ := (b1.mono k0).clr vs
  refine ⟨fun i n H => n = ds.length - i ∧ ∃ s' P' env' a va, s'.H = H ∧ EnvOk K s' (wipe σ vs) env' P' ∧ (∀ j ∈ vs, lk env' j = none) ∧ Own (fU P' (f1 D)) s' ∧ ¬ P' D ∧ Ext P s (fU P' (f1 D)) s' ∧ Fz s s' ∧ s'.H D = some (.lst va) ∧ RepL K s' va a ∧ mCmpL vs g t m (ds.drop i) a env' = some (acc, e2),
    ⟨_, rfl, _, P0, clr vs e1, [], [], rfl, c0.wipe vs clr_none, clr_none, w0.sub fun a z => z.imp_left (c0' a), fun z => nPD (c0' _ z), x0.sub fun a z => z.imp_left (c0' a), x0.fz, upd_same, .nil, hm⟩, ?_⟩
  rintro i n H ⟨rfl, s', P', env', a, va, rfl, d1, d2, d3, d4, d5, d6, d7, d8, d9⟩
  obtain ⟨w1, w2⟩ := b4 i s' d6 d3.w
  by_cases hi : i < ds.length
  · right
    have ed : ds[i]? = some ds[i] := by simp [hi]
    rw [List.drop_eq_getElem_cons hi] at d9
    obtain ⟨w3, w4⟩ := w1 _ ed
    refine ⟨w3, fun H2 => ∃ m', m' < ds.length - i ∧ (m' = ds.length - (i + 1) ∧ ∃ s' P' env' a va, s'.H = H2 ∧ EnvOk K s' (wipe σ vs) env' P' ∧ (∀ j ∈ vs, lk env' j = none) ∧ Own (fU P' (f1 D)) s' ∧ ¬ P' D ∧ Ext P s (fU P' (f1 D)) s' ∧ Fz s s' ∧ s'.H D = some (.lst va) ∧ RepL K s' va a ∧ mCmpL vs g t m (ds.drop (i + 1)) a env' = some (acc, e2)), fun _ z => z, fun x H2 y => ?_⟩
    obtain ⟨s2, rfl, x2, r2⟩ := w4 x H2 y
    have d0 : Dis fE (fU P' (f1 D)) := fun _ z => z.elim
    unfold mCmpL at d9
    split at d9
    · cases d9
    rename_i ea q2
    have kk := x2.kp d0 d3
    have ow2 := x2.ownR d0 d3
    have x3 : Ext (fU P' (f1 D)) s' (fU P' (f1 D)) s2 := ((x2.frame (R := fU P' (f1 D))).wide fun a z => z.resolve_left fun w => w).sub fun a z => .inr z
    refine gr _ s2 env' P' _ x ea (d1.mono kk.l) (ow2.sub fun _ z => .inl z) r2 q2 _ fun σ3 P3 f1' f2 f3 => ?_
    have wp : wipe σ3 vs = wipe σ vs := by
      refine List.ext_getElem? fun j => ?_
      have hl : σ3.length = σ.length := by rw [f3.len, wipe_length]
      rw [wipe_get, wipe_get, hl]
      by_cases hj : j ∈ vs
      · by_cases hj2 : j < σ.length
        · simp [hj, hj2]
        · simp [hj2, List.getElem?_eq_none (show σ3.length ≤ j by omega), List.getElem?_eq_none (show σ.length ≤ j by omega)]
      · rw [if_neg fun z => hj z.1, if_neg fun z => hj z.1, f3.same j fun z => hj (hts j z), wipe_get, if_neg fun z => hj z.1]
    refine ⟨wp, ?_⟩
    have ow3 : Own (fU P3 (f1 D)) s2 := ow2.sub fun a z => z.imp_left (f2 a)
    have nD3 : ¬ P3 D := fun z => d4 (f2 _ z)
    have xs2 : Ext P s (fU P3 (f1 D)) s2 := (d5.trans x3).sub fun a z => z.imp_left (f2 a)
    have hD2 : s2.H D = some (.lst va) := (kk.k D (.inr rfl)).trans d7
    split at d9
    · cases d9
    · rename_i eb q3
      refine tr σ3 s2 ea P3 false eb f1' (ow3.sub fun _ z => .inl z) q3 _ fun s3 P4 g1 g2 g3 => ?_
      rw [if_neg Bool.false_ne_true]
      have dD : Dis P3 (f1 D) := fun a z y => nD3 (by cases (show a = D from y); exact z)
      have oD : Own (f1 D) s2 := ow3.sub fun _ z => .inr z
      have oD3 := g3.ownR dD oD
      have dD4 := g3.disR dD oD
      have xs3 := xs2.trans (g3.frame (R := f1 D))
      obtain ⟨P5, h1, h2⟩ := g1.clr vs
      refine ⟨_, by omega, rfl, s3, P5, clr vs eb, a, va, rfl, ?_, clr_none, (g2.or oD3).sub fun a z => z.imp_left (h2 a), fun z => dD4 D (h2 D z) rfl, xs3.sub fun a z => z.imp_left (h2 a), xs3.fz, ((g3.kp dD oD).k D rfl).trans hD2, RepL.mono g3.fz _ _ (RepL.mono x2.fz _ _ d8), d9⟩
      rw [← wp]
      exact h1.wipe vs clr_none
    · rename_i eb q3
      refine tr σ3 s2 ea P3 true eb f1' (ow3.sub fun _ z => .inl z) q3 _ fun s3 P4 g1 g2 g3 => ?_
      rw [if_pos rfl]
      have dD : Dis P3 (f1 D) := fun a z y => nD3 (by cases (show a = D from y); exact z)
      have oD : Own (f1 D) s2 := ow3.sub fun _ z => .inr z
      have oD3 := g3.ownR dD oD
      have dD4 := g3.disR dD oD
      have xs3 := xs2.trans (g3.frame (R := f1 D))
      split at d9
      · cases d9
      rename_i d' ec q4
      split at d9
      · rename_i hz
        refine er σ3 s3 eb P4 d' ec g1 g2 q4 _ fun y s4 P6 i1 i2 i3 i4 => ?_
        have oD4 := i4.ownR dD4 oD3
        have dD6 := i4.disR dD4 oD3
        have xs4 := xs3.trans (i4.frame (R := f1 D))
        have hD4 : s4.H D = some (.lst va) := ((i4.kp dD4 oD3).k D rfl).trans (((g3.kp dD oD).k D rfl).trans hD2)
        have ra : RepL K s4 va a := RepL.mono i4.fz _ _ (RepL.mono g3.fz _ _ (RepL.mono x2.fz _ _ d8))
        refine ⟨va, hD4, by rw [ra.length]; exact lt_line hz, ?_⟩
        have x5 : Ext (fU P6 (f1 D)) s4 (fU P6 (f1 D)) ⟨upd s4.H D (.lst (va ++ [y])), s4.Z⟩ := Ext.write (i3.or oD4) (.inr rfl)
        have k5 : Kp P6 s4 ⟨upd s4.H D (.lst (va ++ [y])), s4.Z⟩ := ⟨x5.fz, fun a z => upd_ne fun e => dD6 a z (show a = D from e)⟩
        have w5 : Own (fU P6 (f1 D)) (⟨upd s4.H D (.lst (va ++ [y])), s4.Z⟩ : S) := ⟨fun a z => ⟨((i3.or oD4).o a z).1, fun q => ((i3.or oD4).o a z).2 (x5.dom a q)⟩, fun a z q => i3.w a z (x5.dom a q)⟩
        obtain ⟨P7, h1, h2⟩ := (i1.mono k5).clr vs
        have xs5 := xs4.trans x5
        refine ⟨_, by omega, rfl, ⟨upd s4.H D (.lst (va ++ [y])), s4.Z⟩, P7, clr vs ec, a ++ [d'], va ++ [y], rfl, ?_, clr_none, w5.sub fun a z => z.imp_left (h2 a), fun z => dD6 D (h2 D z) rfl, xs5.sub fun a z => z.imp_left (h2 a), xs5.fz, upd_same, RepL.mono x5.fz _ _ (ra.append (.cons i2 .nil)), d9⟩
        rw [← wp]
        exact h1.wipe vs clr_none
      · cases d9
  · left
    have e0 : ds.drop i = [] := List.drop_eq_nil_of_le (by omega)
    rw [e0] at d9
    cases d9
    have hl : wipe (wipe σ vs) vs = wipe σ vs := by
      refine List.ext_getElem? fun j => ?_
      rw [wipe_get, wipe_get, wipe_length]
      by_cases hj : j ∈ vs ∧ j < σ.length
      · simp [hj]
      · rw [if_neg hj, if_neg hj]
    exact ⟨w2 (by omega), hq (.ref D) s' P' (f1 D) (d1.unwipe vs hl d2) (.oL d7 d8) (fun a z y => d4 (by cases (show a = D from y); exact z)) d3 d5⟩
section
variable {X : Cx} {fx : List Nat} {elt tg iter : Expr} {ifs : List Expr} {scope : Scope} {own : List (Str × Nat)} {pos spos : Pos} {ts : List Nat} {mi : MI} {g : MG} {t : MT} {m : MD}
theorem DE.comp (own : List (Str × Nat)) (hc : X.calm = true) (hN : X.N.Nodup) (hi : DI X tg iter mi) (ok : BlkOk X.N X.env.scope scope own)
    (hg : ∀ (s : Shared) (H : Hp) (C : Addr) (cl : List (Str × Addr)) (fp : List Addr), DG (X.blk s H scope (compEnvC scope cl C X.env) fp) ts tg g) (ht : ∀ (s : Shared) (H : Hp) (C : Addr) (cl : List (Str × Addr)) (fp : List Addr), DTs (X.blk s H scope (compEnvC scope cl C X.env) fp) ifs t)
    (he : ∀ (s : Shared) (H : Hp) (C : Addr) (cl : List (Str × Addr)) (fp : List Addr), DF (X.blk s H scope (compEnvC scope cl C X.env) fp) elt m) (hts : ∀ j ∈ ts, j ∈ own.map (·.2) := by decide)
    (hs : ∀ x, foldedSetIterable iter X.env x = pure x := by exact fun _ => rfl) : DE X (.ListComp elt [⟨tg, iter, ifs, 0⟩] scope pos) (mComp (own.map (·.2)) mi g t m) := by
  obtain ⟨wi, ip, ir⟩ := hi.run
  obtain ⟨tgg, gp, gr⟩ := all_G (F := fun (q : Shared × Hp × Addr × List (Str × Addr) × List Addr) => X.blk q.1 q.2.1 scope (compEnvC scope q.2.2.2.1 q.2.2.1 X.env) q.2.2.2.2) (K := X.K) (fun _ => rfl) fun q => hg q.1 q.2.1 q.2.2.1 q.2.2.2.1 q.2.2.2.2
  obtain ⟨tt, tp, tr⟩ := all_T (F := fun (q : Shared × Hp × Addr × List (Str × Addr) × List Addr) => X.blk q.1 q.2.1 scope (compEnvC scope q.2.2.2.1 q.2.2.1 X.env) q.2.2.2.2) (K := X.K) (fun _ => rfl) fun q => ht q.1 q.2.1 q.2.2.1 q.2.2.2.1 q.2.2.2.2
  obtain ⟨te, ep, er⟩ := all_F (F := fun (q : Shared × Hp × Addr × List (Str × Addr) × List Addr) => X.blk q.1 q.2.1 scope (compEnvC scope q.2.2.2.1 q.2.2.1 X.env) q.2.2.2.2) (K := X.K) (fun _ => rfl) fun q => he q.1 q.2.1 q.2.2.1 q.2.2.2.1 q.2.2.2.2
  refine ⟨_, pe_lc hc hN ip ok (fun s H C cl fp => gp (s, H, C, cl, fp)) (fun s H C cl fp => tp (s, H, C, cl, fp)) (fun s H C cl fp => ep (s, H, C, cl, fp)) hs, fun σ s env P o env' a1 a2 a3 Q hq => ?_⟩
  unfold mComp at a3
  split at a3
  · cases a3
  rename_i ds e1 q1
  split at a3
  · cases a3
  rename_i acc e2 q2
  cases a3
  refine ir σ s env P ds e1 a1 a2 q1 _ fun J s1 P1 b1 b2 b3 b4 => ?_
  exact lc_run (X := X) hts gr tr er b1 b2 b4 q2 fun v s' P' R c1 c2 c3 c4 c5 => hq v s' P' R c1 c2 c3 c4 (b3.trans c5)
theorem DS.setComp {i : Nat} {y : Str} {py : Pos} (own : List (Str × Nat)) (hc : X.calm = true) (hN : X.N.Nodup) (hi : DI X tg iter mi) (ok : BlkOk X.N X.env.scope scope own)
    (hg : ∀ (s : Shared) (H : Hp) (C : Addr) (cl : List (Str × Addr)) (fp : List Addr), DG (X.blk s H scope (compEnvC scope cl C X.env) fp) ts tg g) (ht : ∀ (s : Shared) (H : Hp) (C : Addr) (cl : List (Str × Addr)) (fp : List Addr), DTs (X.blk s H scope (compEnvC scope cl C X.env) fp) ifs t)
    (he : ∀ (s : Shared) (H : Hp) (C : Addr) (cl : List (Str × Addr)) (fp : List Addr), DF (X.blk s H scope (compEnvC scope cl C X.env) fp) elt m) (hfx : i ∉ fx := by decide) (hts : ∀ j ∈ ts, j ∈ own.map (·.2) := by decide) (hy : X.N[i]? = some y := by rfl)
    (hyl : X.env.scope.names.lookup y = some .local := by rfl) (hsw : swapsWith (.ListComp elt [⟨tg, iter, ifs, 0⟩] scope pos) (some (.Name y py)) spos.line X.env = pure true := by exact sw_true rfl rfl rfl (by decide +kernel))
    (hs : ∀ x, foldedSetIterable iter X.env x = pure x := by exact fun _ => rfl) : DS X fx (.Assign [.Name y py] (.ListComp elt [⟨tg, iter, ifs, 0⟩] scope pos) spos) (mSet i (mComp (own.map (·.2)) mi g t m)) := by
  obtain ⟨wi, ip, ir⟩ := hi.run
  obtain ⟨tgg, gp, gr⟩ := all_G (F := fun (q : Shared × Hp × Addr × List (Str × Addr) × List Addr) => X.blk q.1 q.2.1 scope (compEnvC scope q.2.2.2.1 q.2.2.1 X.env) q.2.2.2.2) (K := X.K) (fun _ => rfl) fun q => hg q.1 q.2.1 q.2.2.1 q.2.2.2.1 q.2.2.2.2
  obtain ⟨tt, tp, tr⟩ := all_T (F := fun (q : Shared × Hp × Addr × List (Str × Addr) × List Addr) => X.blk q.1 q.2.1 scope (compEnvC scope q.2.2.2.1 q.2.2.1 X.env) q.2.2.2.2) (K := X.K) (fun _ => rfl) fun q => ht q.1 q.2.1 q.2.2.1 q.2.2.2.1 q.2.2.2.2
  obtain ⟨te, ep, er⟩ := all_F (F := fun (q : Shared × Hp × Addr × List (Str × Addr) × List Addr) => X.blk q.1 q.2.1 scope (compEnvC scope q.2.2.2.1 q.2.2.1 X.env) q.2.2.2.2) (K := X.K) (fun _ => rfl) fun q => he q.1 q.2.1 q.2.2.1 q.2.2.2.1 q.2.2.2.2
  refine ⟨_, ps_setLc hc hN hy hyl hsw ip ok (fun s H C cl fp => gp (s, H, C, cl, fp)) (fun s H C cl fp => tp (s, H, C, cl, fp)) (fun s H C cl fp => ep (s, H, C, cl, fp)) hs, fun σ s env P out a1 a2 a3 D hq => ?_⟩
  unfold mSet at a3
  split at a3
  · cases a3
  rename_i o e9 q9
  split at a3
  · rename_i hl
    cases a3
    unfold mComp at q9
    split at q9
    · cases q9
    rename_i ds e1 q1
    split at q9
    · cases q9
    rename_i acc e2 q2
    cases q9
    refine ir σ s env P ds e1 a1 a2 q1 _ fun J s1 P1 b1 b2 b3 b4 => ?_
    refine lc_run (X := X) (Q := fun x H1 => gName i x σ H1 D.nx) hts gr tr er b1 b2 b4 q2 fun v s' P' R c1 c2 c3 c4 c5 => ?_
    obtain ⟨P9, g1, g2⟩ := c1.put hl c2 c3
    exact hq _ s' P9 g1 (c4.sub g2) ((b3.trans c5).sub g2) (Fx.set hfx)
  · cases a3
end
end G
namespace G
open PySem PySem.Spec PyProof.Rows L2

/-! ### a def from its body -/
def outsOf : List Bool → Env → List (Option OV)
  | [], _ => []
  | b :: bs, x :: e => (if b then x else none) :: outsOf bs e
  | _ :: bs, [] => none :: outsOf bs []
def runF (N n : Nat) (fl : List Bool) (m : MS) : MF := fun os => if os.length = n then
    match m (os.map some ++ List.replicate (N - n) none) with
    | some (.rt o e) => some (o, outsOf fl e)
    | some (.nx e) => some (.fz .none, outsOf fl e)
    | _ => none
  else none
theorem EnvAt.cons {K : PySem.W.Frag} {s : S} {σ : L2.St} {e : Env} {f : Nat → FP} (h : EnvAt K s σ e f) {o : OV} {v : V} {R : FP} (r : RepO K s o v R) (d : ∀ i a, R a → f i a → False) :
    EnvAt K s (some v :: σ) (some o :: e) (fun i => match i with | 0 => R | i + 1 => f i) := by
  refine ⟨by simp [h.len], fun i o' q => ?_, fun i q => ?_, fun i j a q1 q2 => ?_⟩
  · cases i with
    | zero => rw [lk_zero] at q; cases q; exact ⟨v, rfl, r⟩
    | succ i => rw [lk_succ] at q; simpa using h.val i o' q
  · cases i with
    | zero => rw [lk_zero] at q; cases q
    | succ i => rw [lk_succ] at q; exact h.no i q
  · cases i with
    | zero =>
      cases j with
      | zero => rfl
      | succ j => exact (d j a q1 q2).elim
    | succ i =>
      cases j with
      | zero => exact (d i a q2 q1).elim
      | succ j => rw [h.inj i j a q1 q2]
theorem EnvOk.of_args {K : PySem.W.Frag} {s : S} (r : Nat) : ∀ {os : List OV} {vs : List V} {P : FP}, RepOs K s os vs P → EnvOk K s (vs.map some ++ List.replicate r none) (os.map some ++ List.replicate r none) P
  | _, _, _, .nil => EnvOk.nil_of (by simp) fun i => by
    unfold lk
    simp only [List.map_nil, List.nil_append, List.getElem?_replicate]
    split <;> rfl
  | _, _, _, .cons (P := P) (R := R) h t d => by
    obtain ⟨f, a, hp⟩ := EnvOk.of_args r t
    refine ⟨_, a.cons h fun i x z w => d x z ((hp x).mpr ⟨i, w⟩), fun x => ?_⟩
    constructor
    · rintro (z | z)
      · exact ⟨0, z⟩
      · obtain ⟨i, z⟩ := (hp x).mp z
        exact ⟨i + 1, z⟩
    · rintro ⟨i, z⟩
      cases i with
      | zero => exact .inl z
      | succ i => exact .inr ((hp x).mpr ⟨i, z⟩)
theorem EnvAt.tail {K : PySem.W.Frag} {s : S} {x : Option V} {σ : L2.St} {y : Option OV} {e : Env} {f : Nat → FP} (h : EnvAt K s (x :: σ) (y :: e) f) : EnvAt K s σ e (fun i => f (i + 1)) :=
  ⟨by simpa using h.len, fun i o q => by simpa using h.val (i + 1) o (by simpa using q), fun i q => h.no (i + 1) (by simpa using q), fun i j a q1 q2 => by simpa using h.inj (i + 1) (j + 1) a q1 q2⟩
theorem outs_nil {K : PySem.W.Frag} {s : S} : ∀ {fl : List Bool} {vs : List V}, vs.length = fl.length → Outs K s (outsOf fl []) vs fE
  | [], vs, h => by
    have : vs = [] := List.eq_nil_of_length_eq_zero h
    subst this; exact .nil
  | b :: fl, v :: vs, h => .no (outs_nil (by simpa using h))
theorem outs_ok {K : PySem.W.Frag} {s : S} : ∀ {fl : List Bool} {e : Env} {σ : L2.St} {f : Nat → FP} {vs : List V}, EnvAt K s σ e f → vs.length = fl.length → (∀ (i : Nat) (v : V), fl[i]? = some true → vs[i]? = some v → σ[i]? = some (some v)) →
    ∃ P, Outs K s (outsOf fl e) vs P ∧ ∀ a, P a → ∃ i, f i a
  | [], e, σ, f, vs, _, hl, _ => by
    have : vs = [] := List.eq_nil_of_length_eq_zero hl
    subst this
    exact ⟨fE, .nil, fun _ z => z.elim⟩
  | b :: fl, e, σ, f, vs, h, hl, hv => by
    match vs, hl with
    | v :: vs, hl =>
      match e, h with
      | [], h => exact ⟨fE, outs_nil hl, fun _ z => z.elim⟩
      | y :: e, h =>
        match σ, h with
        | [], h => have := h.len; simp at this
        | x :: σ, h =>
          obtain ⟨P, o1, o2⟩ := outs_ok (fl := fl) (vs := vs) h.tail (by simpa using hl) fun i v q1 q2 => by simpa using hv (i + 1) v (by simpa using q1) (by simpa using q2)
          unfold outsOf
          cases b with
          | false => exact ⟨P, .no o1, fun a z => let ⟨i, w⟩ := o2 a z; ⟨i + 1, w⟩⟩
          | true =>
            cases y with
            | none => exact ⟨P, .no o1, fun a z => let ⟨i, w⟩ := o2 a z; ⟨i + 1, w⟩⟩
            | some o =>
              obtain ⟨u, q1, q2⟩ := h.val 0 o (by rw [lk_zero])
              have q3 := hv 0 v rfl rfl
              rw [q3] at q1; cases q1
              refine ⟨fU (f 0) P, .yes q2 o1 fun a z w => ?_, fun a z => z.elim (fun z => ⟨0, z⟩) fun z => let ⟨i, w⟩ := o2 a z; ⟨i + 1, w⟩⟩
              obtain ⟨i, w⟩ := o2 a w
              have := h.inj 0 (i + 1) a z w
              omega
section
variable {P : Program} {w : World} {K : PySem.W.Frag} {mg : Str → Option Value} {base : Heap}
theorem okD {x qual : Str} {st : Stmt} {f : Addr} {fd : FuncData} {N ps : List Str} {k : Nat} {fx : List Nat} {fl : List Bool} {m : MS} (F : Fun K x qual st f fd) (sc : FnScope N ps (defScope st)) (hfl : fl.length = ps.length) (hfx : ∀ i, i < fl.length → fl[i]? = some true → i ∈ fx)
    (hb : ∀ (cdv : Value) (A : Around) (fr : List PySem.Env) (s : Shared) (H : Hp) (E : XK), Room k (A.deeper (envOfC qual (defScope st) s.heap.objs.size f cdv)) → A.guards = some [] →
      DSs (cxOf CX0 P w K mg base N qual (defScope st) f cdv A fr s H E).nox fx (defBody st) m) : FnG P w K mg base (k + 1) f fd ps (FnD K ps.length (runF N.length ps.length fl m)) := by
  refine okG F sc (fun vs H Q E h => ?_) fun cdv A fr s H vs Q E hr hg h => ?_
  · obtain ⟨Z, P, os, o, outs, hl, _⟩ := h; exact hl
  · obtain ⟨Z, Pf, os, o, outs, hl, ro, ow, hm, post⟩ := h
    obtain ⟨t, tp, tr⟩ := (hb cdv A fr s H E hr hg).run
    refine ⟨t, tp, ?_⟩
    have hn : os.length = ps.length := by rw [← ro.len]; exact hl
    unfold runF at hm
    rw [if_pos hn] at hm
    have e0 : EnvOk K ⟨H, Z⟩ (L2.start N vs) (os.map some ++ List.replicate (N.length - ps.length) none) Pf := by
      unfold L2.start
      rw [hl]
      exact EnvOk.of_args _ ro
    have key : ∀ (o' : OV) (e' : Env) (v : V) (σ' : L2.St) (s' : S) (P' R : FP), EnvOk K s' σ' e' P' → RepO K s' o' v R → Dis P' R → Own (fU P' R) s' → Ext Pf ⟨H, Z⟩ (fU P' R) s' → Fx fx (L2.start N vs) σ' → o' = o → outsOf fl e' = outs → Q v s'.H := by
      intro o' e' v σ' s' P' R c1 c2 c3 c4 c5 c6 eo eq
      subst eo eq
      obtain ⟨g, ga, gp⟩ := c1
      have st0 : ∀ (i : Nat) (u : V), vs[i]? = some u → (L2.start N vs)[i]? = some (some u) := fun i u q => by
        unfold L2.start
        rw [List.getElem?_append_left (by rw [List.length_map]; exact (List.getElem?_eq_some_iff.mp q).1), List.getElem?_map, q]; rfl
      obtain ⟨P2, o1, o2⟩ := outs_ok (fl := fl) (vs := vs) ga (by rw [hl, hfl]) fun i u q1 q2 => by
        rw [c6 i (hfx i (List.getElem?_eq_some_iff.mp q1).1 q1)]; exact st0 i u q2
      have sub : ∀ a, P2 a → P' a := fun a z => (gp a).mpr (o2 a z)
      exact post v s' P2 R o1 c2 (fun a z y => c3 a (sub a z) y) (c4.sub fun a z => z.imp_left (sub a)) (c5.sub fun a z => z.imp_left (sub a))
    cases hmm : m (os.map some ++ List.replicate (N.length - ps.length) none) with
    | none => rw [hmm] at hm; cases hm
    | some out =>
      rw [hmm] at hm
      refine tr _ ⟨H, Z⟩ _ Pf out e0 ow hmm _ ?_
      cases out with
      | nx e' =>
        cases hm
        exact fun σ' s' P' c1 c2 c3 c4 => key _ e' .non σ' s' P' fE c1 (.fz .non) (fun _ _ z => z) (by rw [fU_eq]; exact c2) (by rw [fU_eq]; exact c3) c4 rfl rfl
      | rt o' e' =>
        cases hm
        exact fun v σ' s' P' R c1 c2 c3 c4 c5 c6 => key _ e' v σ' s' P' R c1 c2 c3 c4 c5 c6 rfl rfl
      | bk e' => cases hm
      | ct e' => cases hm
theorem runF_len {N n : Nat} {fl : List Bool} {m : MS} : ∀ os r, runF N n fl m os = some r → os.length = n := by
  intro os r h
  unfold runF at h
  split at h
  · assumption
  · cases h
end
/-! ### the law's call -/
theorem lawG {P : Program} {w : World} {K : PySem.W.Frag} {mg mb : Str → Option Value} {k : Nat} {fa a : Addr} {fd : FuncData} {x : Str} {m : MF} {s1 : Shared} {vs : List Value} {ns : List Int}
    (kx : K.In s1.heap) (g1 : s1.heap.Ns mainGlobals mg) (g2 : s1.heap.Ns builtinsNs mb) (g3 : ∀ x : Str, x ≠ "__name__" → mb x = bootBuiltins x) (lim1 : s1.heap.NoLimit) (gens : s1.gens = #[])
    (la : s1.heap.get? a = some { cls := .type "list", data := .seq vs.toArray }) (hi : IntsAre vs ns) (hl : ns.length ≤ sizeLine) (hr : Room k callerA) (F : ∀ base : Heap, K.In base → base.Ns mainGlobals mg → FnG P w K mg base k fa fd [x] (FnD K 1 m))
    (hb : ∀ (s : Shared) (u : Value), BindsTo s fd ⟨[u], []⟩ [(x, u)]) (hm : ∃ outs, m [.fz (.list (ns.map PyData.int))] = some (.fz (.bool true), outs)) :
    codeAny (model P w) callerA (.call (.ref fa) ⟨[.ref a], []⟩) (fun r s' => r = .ok (.ret (.bool true)) ∧ OldK s1.heap s'.heap ∧ s'.os = s1.os ∧ AllBare s'.gens) s1 := by
  have rv := vals_ints hi
  have lv := hi.length
  obtain ⟨outs, hm⟩ := hm
  have main : ∀ H : Hp, (∀ b, H b = none ∨ (b = a ∧ K.lookup a = none ∧ ∃ o, H b = some (.frz o (.lst (ns.map V.int))))) → SqL K H a (ns.map V.int) → HOk P w H s1.heap →
      codeAny (model P w) callerA (.call (.ref fa) ⟨[.ref a], []⟩) (fun r s' => r = .ok (.ret (.bool true)) ∧ OldK s1.heap s'.heap ∧ s'.os = s1.os ∧ AllBare s'.gens) s1 := by
    intro H hH hS ok
    have notA : ∀ {b : Addr} {o : Obj}, s1.heap.get? b = some o → (b = a → o.cls ≠ .type "list") ∨ H b = none → H b = none := fun {b o} e q => by
      rcases q with q | q
      · rcases hH b with z | ⟨z, _⟩
        · exact z
        · subst z
          rw [la] at e; cases e
          exact (q rfl rfl).elim
      · exact q
    have nsk : ∀ {b : Addr} {m : Str → Option Value}, s1.heap.Ns b m → (hidT s1.heap H).Ns b m := by
      intro b m hn
      obtain ⟨o, es, ep, e, d, rest⟩ := hn
      refine ⟨o, es, ep, hidT_get e ?_, d, rest⟩
      rcases hH b with z | ⟨z, _⟩
      · exact z
      · subst z
        rw [la] at e; cases e; cases d
    have kb : K.In (hidT s1.heap H) := fun b o e => hidT_get (kx b o e) (by
      rcases hH b with z | ⟨z, nk, _⟩
      · exact z
      · subst z; rw [nk] at e; cases e)
    have md : Mod K mg (hidT s1.heap H) := ⟨kb, nsk g1, ⟨mb, nsk g2, g3⟩, let ⟨mc, q1, q2⟩ := lim1; ⟨mc, nsk q1, q2⟩⟩
    have e0 : Env0 P w K mg (hidT s1.heap H) callerA [] s1 H := ⟨rfl, md, fun b o e => of_hidT e, Nat.le_of_eq (hidT_size _ _), trivial, fun b z => absurd z (by simp [frs]), ok, .of_eq gens⟩
    have rep : Rep K ⟨H, fun b => H b ≠ none⟩ (.ref a) (.list (ns.map PyData.int)) := by
      refine .lst ?_ (RepL.ints ns)
      rcases hS with z | z
      · refine .inl ⟨?_, z⟩
        rcases z with z | ⟨o, z⟩
        · show H a ≠ none; rw [z]; exact fun z => nomatch z
        · show H a ≠ none; rw [z]; exact fun z => nomatch z
      · exact .inr (.inr z)
    have sp : FnD K 1 m [.ref a] H (fun v _ => v = .bl true) E0 := by
      refine ⟨fun b => H b ≠ none, fU fE fE, [.fz (.list (ns.map PyData.int))], .fz (.bool true), outs, rfl, .cons (.fz rep) .nil (fun _ z => z.elim), ⟨fun _ z => z.elim (fun z => z.elim) fun z => z.elim, fun _ z => z⟩, hm, fun v s' P' R c1 c2 c3 c4 c5 => c2.bl⟩
    refine codeAny_mono ((F _ kb (nsk g1)).run callerA [] s1 H _ [.ref a] [.ref a] _ E0 hr rfl e0 (hb s1 (.ref a)) (.cons rfl .nil) sp) fun r s' h => ?_
    match r, h with
    | .ok (.ret u), h =>
      obtain ⟨v, H', os, bare, un, ok', rr, q⟩ := h
      have q' : v = .bl true := q
      subst q'
      have ru : u = Value.bool true := rr
      subst ru
      refine ⟨rfl, OldK.of_keep fun b o e => ?_, os, bare⟩
      rcases hH b with z | ⟨_, _, ob, z⟩
      · exact un.keep b o e z (by simp [frs]) (by simp)
      · obtain ⟨y1, _⟩ := ok b _ z
        obtain ⟨y2, _⟩ := ok' b _ (un.frzs b ob _ z)
        rw [e] at y1; cases y1
        exact y2
  cases hk : K.lookup a with
  | some o =>
    have e := kx a o hk
    rw [la] at e; cases e
    exact main (fun _ => none) (fun _ => .inl rfl) (.inr ⟨_, vs.toArray, _, hk, rfl, rfl, rfl, by rw [List.size_toArray, lv]; exact hl, by simpa using rv⟩) fun b u z => nomatch z
  | none =>
    refine main (fun b => if b = a then some (.frz { cls := .type "list", data := .seq vs.toArray } (.lst (ns.map V.int))) else none) (fun b => ?_) (.inl (.inr ⟨_, if_pos rfl⟩)) fun b u z => ?_
    · by_cases q : b = a
      · exact .inr ⟨q, hk, _, if_pos q⟩
      · exact .inl (if_neg q)
    · by_cases q : b = a
      · have z' := (if_pos q).symm.trans z
        cases z'
        subst q
        exact ⟨la, by rw [List.length_map]; exact hl, vs, _, rv, la⟩
      · have z' := (if_neg q).symm.trans z
        cases z'
/-- the goal that the head leaves, from the law's pure function -/
theorem walkG {l : PySem.W.OpenLaw} {n k : Nat} {q : Program} {loose : List Str} {XP : (Str → Option Value) → Heap → Prop} {YP : World → Heap → Prop} {d : DefRec} {K : Params → PySem.W.Frag} {x : Str} {m : MF}
    (hn : l.most = some n) (hn2 : n ≤ sizeLine) (hdf : d.params.defaults = []) (hr : Room k callerA) (hY : ∀ (w : World) (h : Heap), YP w h → (K w.params).In h)
    (F : ∀ (w : World) (mg : Str → Option Value) (fa : Addr) (h : Heap), (K w.params).In h → h.Ns mainGlobals mg → mg d.name = some (.ref fa) →
      ∃ fd : FuncData, (∀ (s : Shared) (u : Value), BindsTo s fd ⟨[u], []⟩ [(x, u)]) ∧ ∀ base : Heap, (K w.params).In base → base.Ns mainGlobals mg → FnG l.prog w (K w.params) mg base k fa fd [x] (FnD (K w.params) 1 m))
    (hm : ∀ ns : List Int, ns.length ≤ n → ∃ outs, m [.fz (.list (ns.map PyData.int))] = some (.fz (.bool true), outs)) :
    PySem.W.WalkO q loose XP YP l.row.toRowW d [] (fun f vs => PySem.call f vs) := by
  refine Att.attach_call hn hdf fun w s0 s1 mg mb fa o pm cd doc a vs ns G Y ho hd hcd hmg hobj hints hlen hg => ?_
  obtain ⟨fd, hb, hF⟩ := F w mg fa _ (hY w _ Y) G.T.g hmg
  exact lawG (hY w _ Y) G.T.g G.T.b G.T.builtins G.T.nolimit hg hobj hints (Nat.le_trans hlen hn2) hr hF hb (hm ns hlen)
end G
namespace G
open PySem PySem.Spec PyProof.Rows L2

/-! ### sorted: ints of a list, a tuple's list, the keys of a dict -/
def sortI (ns : List Int) : List Int := ns.mergeSort (fun a b => decide (a ≤ b))
theorem sortI_perm (ns : List Int) : (sortI ns).Perm ns := List.mergeSort_perm _ _
theorem sortI_le (ns : List Int) : (sortI ns).Pairwise (· ≤ ·) := by
  have h := List.pairwise_mergeSort (le := fun a b : Int => decide (a ≤ b)) (fun a b c h1 h2 => by simp only [decide_eq_true_eq] at *; omega) (fun a b => by simp only [Bool.or_eq_true, decide_eq_true_eq]; omega) ns
  exact h.imp fun q => by simpa using q
theorem perm_le_eq : ∀ {a b : List Int}, a.Perm b → a.Pairwise (· ≤ ·) → b.Pairwise (· ≤ ·) → a = b
  | [], b, h, _, _ => by rw [List.nil_perm.mp h]
  | x :: a, [], h, _, _ => by simp at h
  | x :: a, y :: b, h, ha, hb => by
    have hx : x ∈ y :: b := h.mem_iff.mp List.mem_cons_self
    have hy : y ∈ x :: a := h.mem_iff.mpr List.mem_cons_self
    have e : x = y := by
      rcases List.mem_cons.mp hx with q | q
      · exact q
      · rcases List.mem_cons.mp hy with p | p
        · exact p.symm
        · have h1 := (List.pairwise_cons.mp hb).1 x q
          have h2 := (List.pairwise_cons.mp ha).1 y p
          omega
    subst e
    rw [perm_le_eq ((List.perm_cons x).mp h) (List.pairwise_cons.mp ha).2 (List.pairwise_cons.mp hb).2]
theorem sortI_uniq {ns ms : List Int} (h : ms.Perm ns) (p : ms.Pairwise (· ≤ ·)) : ms = sortI ns := perm_le_eq (h.trans (sortI_perm ns).symm) p (sortI_le ns)
def intKeys : List (Key × D) → Option (List Int)
  | [] => some []
  | (.inl i, _) :: r => (intKeys r).map (i :: ·)
  | (.inr _, _) :: _ => none
theorem intKeys_some : ∀ {ds : List (Key × D)} {ns : List Int}, intKeys ds = some ns → ds.map (·.1) = ns.map Sum.inl
  | [], ns, h => by cases h; rfl
  | (.inl i, d) :: r, ns, h => by
    simp only [intKeys, Option.map_eq_some_iff] at h
    obtain ⟨m, h1, rfl⟩ := h
    simp [intKeys_some h1]
  | (.inr _, _) :: _, _, h => by cases h
def fSorted : OV → Option OV := fun o => match o.dic? with
  | some kvs => (intKeys kvs).map fun ns => .oL ((sortI ns).map PyData.int)
  | none => match o.lst? with
    | some ds => (allI ds).map fun ns => .oL ((sortI ns).map PyData.int)
    | none => none
def rSortA (K : PySem.W.Frag) : V → Hp → VK → Prop := fun x H Q => (∃ (a : Addr) (ns : List Int), x = .ref a ∧ SqL K H a (ns.map V.int) ∧ ∀ (ns' : List Int) (p : Addr), ns'.Perm ns → ns'.Pairwise (· ≤ ·) → H p = none → Q (.ref p) (upd H p (.lst (ns'.map V.int)))) ∨
  ∃ (a : Addr) (kvs : List (Key × V)) (ks : List Int), x = .ref a ∧ Rd H a (.dK kvs) ∧ kvs.map (·.1) = ks.map Sum.inl ∧ ∀ (ys : List Int) (p : Addr), ys.Perm ks → ys.Pairwise (· ≤ ·) → H p = none → Q (.ref p) (upd H p (.lst (ys.map V.int)))
theorem call_sortA {X : Cx} (hc : X.calm = true) : CallR X (.builtin "sorted") (lift1 (rSortA X.K)) := by
  intro pins s σ H xs us Q I r h
  match xs, h with
  | [x], h =>
    rcases h with ⟨a, ns, rfl, h1, q⟩ | ⟨a, kvs, ks, rfl, hd, hks, q⟩
    · exact cr_sortedI pins s σ H _ us Q I r ⟨a, ns, rfl, h1, q⟩
    · obtain ⟨u, rfl, rx⟩ := vals1 r
      cases rx
      obtain ⟨z, lo, vs, rel, dd⟩ := dk_rd I.hok hd
      obtain ⟨ep, hat⟩ := dd.dictAt
      have hkeys : vs.map (·.1) = ks.map Sum.inl := rel.keys.symm.trans hks
      have hl : vs.length = ks.length := by simpa using congrArg List.length hkeys
      have h16 : vs.length ≤ sizeLine := by rw [← rel.length]; exact z
      refine Calls.call_function_entry PyProof.Rows.kind_sorted PyProof.Rows.plain_sorted PyProof.Rows.entry_sorted (PyProof.Rows.args_sorted1 _) ?_
      unfold Builtin.«sorted»
      refine wpAny_bind (m := checkCount "sorted" 1 1 _) (wpAny_pure (wpAny_bind (PySem.W.kdu_collect (A := X.A.in1) (PySem.W.kdl_dict (knd := mixKind X.prog X.w) (kvs := vs) (ep := ep) lo) (I.ok.hd hc) hat h16 fun h' tk acc hk hacc => ?_)))
      have hal : acc.toList.length = ks.length := by rw [Array.length_toList, hacc.1, hl]
      have hS : IntsAre acc.toList ks := ints_each hal fun j v e => by
        obtain ⟨k, y, e1, e2⟩ := hacc.2 j v (by rw [← Array.getElem?_toList]; exact e)
        have e3 : (vs.map (·.1))[j]? = some k := by rw [List.getElem?_map, e1]; rfl
        rw [hkeys, List.getElem?_map] at e3
        obtain ⟨i, e4, e5⟩ := Option.map_eq_some_iff.mp e3
        subst e5
        rcases keyIs_shape (show keyIs (Sum.inl i) v = true from e2) with ⟨i', t, ek, ev⟩ | ⟨z, t, ek, ev⟩
        · cases ek; exact ⟨i, t, e4, ev⟩
        · cases ek
      have I1 : L2.Inv X pins σ H { s with heap := h', toks := tk } := I.kept hk
      have hz2 : acc.toList.length ≤ sizeLine := by omega
      refine wpAny_bind (wpAny_newList ?_ hz2)
      have ho : (h'.push (seqObj "list" acc.toList.toArray 0)).get? h'.objs.size = some (seqObj "list" acc.toList.toArray 0) := Heap.get?_push_size _ rfl
      refine wpAny_bind (wpAny_holding (wpAny_call_entry PyProof.Rows.slot_list_sort ⟨_, ho, rfl⟩ PyProof.Rows.entry_list_sort
        (SrtO.list_sort_ord (s := { s with heap := h'.push (seqObj "list" acc.toList.toArray 0), toks := tk }) SrtO.swo_int ho hz2 (fun h2 => SrtO.ints_sortable hS h2) fun out g1 g2 => ⟨_, rfl, ?_⟩) (PyProof.Rows.args_list_sort _)))
      obtain ⟨k1, k2, k3⟩ := SrtO.ints_out hS g1 g2
      obtain ⟨e', he'⟩ := PyProof.Rows.sortedHeap_at (vs := acc.toList) (out := out.toArray) ho
      have hlen : ((out.map SrtO.iv).map V.int).length ≤ sizeLine := by rw [List.length_map, k2.length_eq, ← hal]; exact hz2
      refine wpAny_pure ⟨_, rfl, .ref h'.objs.size, upd H h'.objs.size (.lst ((out.map SrtO.iv).map V.int)), I1.laid (t' := tk) (fun b u e => ?_) (Nat.le_refl _) ⟨hlen, out, e', vals_of_ints k1, he'⟩, rfl, q _ _ k2 k3 (I1.hok.fresh (Nat.le_refl _))⟩
      have hb : b < h'.objs.size := Heap.lt_size e
      exact (PyProof.Rows.sortedHeap_old (Nat.ne_of_lt hb) (by rw [size_push']; exact Nat.lt_succ_of_lt hb)).trans (Heap.get?_push_of_some _ e)
theorem p_sorted {K : PySem.W.Frag} : P1 K (rSortA K) fSorted := by
  intro s a v P o w ra e Q hq
  unfold fSorted at e
  split at e
  · rename_i kvs e1
    obtain ⟨ns, e2, rfl⟩ := Option.map_eq_some_iff.mp e
    obtain ⟨p, vs, rfl, h1, h2⟩ := ra.dic e1
    refine .inr ⟨p, vs, ns, rfl, h1, h2.keys.trans (intKeys_some e2), fun ys q p1 p2 hp => ?_⟩
    rw [sortI_uniq p1 p2]
    exact hq.newL w (RepL.ints _) hp
  · split at e
    · rename_i ds e1
      obtain ⟨ns, e2, rfl⟩ := Option.map_eq_some_iff.mp e
      obtain ⟨p, vs, rfl, h1, h2⟩ := ra.lst e1
      have := allI_some e2
      subst this
      rw [h2.of_ints] at h1
      refine .inl ⟨p, ns, rfl, h1, fun ys q p1 p2 hp => ?_⟩
      rw [sortI_uniq p1 p2]
      exact hq.newL w (RepL.ints _) hp
    · cases e
theorem boot_sorted' : bootBuiltins "sorted" = some (.builtin "sorted") := by decide +kernel
section
variable {X : Cx} {fx : List Nat} {a b c e tg : Expr} {es rest : List Expr} {pos p p2 : Pos} {k : Nat} {st : Stmt} {sts : List Stmt}
theorem DE.sorted {m : MA} (hc : X.calm = true) (hg : Gl X "sorted") (hm : X.mg "sorted" = none) (h : DA X [a] m) (he : starEach [a] X.env = (false, eval a X.env) :: starEach [] X.env := by rfl) : DE X (.Call (.Name "sorted" p) [a] [] pos) (mOp (l1 fSorted) m) :=
  .callB (call_sortA hc) p_sorted.pure hg hm boot_sorted' h (by decide) (by decide) he rfl
/-! ### sum, all, any of a list -/
def sumI (ns : List Int) : Int := ns.sum
def fSum : OV → Option OV := fun o => match o.lst? with
  | some ds => (allI ds).map fun ns => .fz (.int (sumI ns))
  | none => none
theorem pure_sum {K : PySem.W.Frag} : Pure K (rSum K) (l1 fSum) := by
  intro s os vs o w rd e Q hq
  obtain ⟨x, u, P, rfl, rfl, h1, e⟩ := rd1 rd e
  unfold fSum at e
  split at e
  · rename_i ds e1
    obtain ⟨ns, e2, rfl⟩ := Option.map_eq_some_iff.mp e
    obtain ⟨l, ws, rfl, h2, h3⟩ := h1.lst e1
    have := allI_some e2
    subst this
    rw [h3.of_ints] at h2
    exact ⟨l, ns, rfl, h2, hq.int w⟩
  · cases e
theorem boot_sum' : bootBuiltins "sum" = some (.builtin "sum") := by decide +kernel
theorem DE.sum {m : MA} (hc : X.calm = true) (hg : Gl X "sum") (hm : X.mg "sum" = none) (h : DA X [a] m) (he : starEach [a] X.env = (false, eval a X.env) :: starEach [] X.env := by rfl) : DE X (.Call (.Name "sum" p) [a] [] pos) (mOp (l1 fSum) m) :=
  .callB (cr_sum hc) pure_sum hg hm boot_sum' h (by decide) (by decide) he rfl
def allB : List D → Option (List Bool)
  | [] => some []
  | .bool i :: r => (allB r).map (i :: ·)
  | _ :: _ => none
theorem allB_some : ∀ {ds : List D} {bs : List Bool}, allB ds = some bs → ds = bs.map PyData.bool
  | [], bs, h => by cases h; rfl
  | .bool i :: r, bs, h => by
    simp only [allB, Option.map_eq_some_iff] at h
    obtain ⟨m, h1, rfl⟩ := h
    simp [allB_some h1]
  | .none :: _, _, h => by simp [allB] at h
  | .int _ :: _, _, h => by simp [allB] at h
  | .str _ :: _, _, h => by simp [allB] at h
  | .list _ :: _, _, h => by simp [allB] at h
  | .tuple _ :: _, _, h => by simp [allB] at h
  | .dict _ :: _, _, h => by simp [allB] at h
theorem RepL.of_bls {K : PySem.W.Frag} {s : S} : ∀ {bs : List Bool} {vs : List V}, RepL K s vs (bs.map PyData.bool) → vs = bs.map V.bl
  | [], _, h => by cases h; rfl
  | n :: ns, _, h => by
    cases h with
    | cons h1 h2 => cases h1; simp [RepL.of_bls h2]
def fAll : OV → Option OV := fun o => match o.lst? with
  | some ds => (allB ds).map fun bs => .fz (.bool (bs.all id))
  | none => none
def fAny : OV → Option OV := fun o => match o.lst? with
  | some ds => (allB ds).map fun bs => .fz (.bool (bs.any id))
  | none => none
theorem pure_all {K : PySem.W.Frag} : Pure K (rAll K) (l1 fAll) := by
  intro s os vs o w rd e Q hq
  obtain ⟨x, u, P, rfl, rfl, h1, e⟩ := rd1 rd e
  unfold fAll at e
  split at e
  · rename_i ds e1
    obtain ⟨ns, e2, rfl⟩ := Option.map_eq_some_iff.mp e
    obtain ⟨l, ws, rfl, h2, h3⟩ := h1.lst e1
    have := allB_some e2
    subst this
    rw [h3.of_bls] at h2
    exact ⟨l, ns, rfl, h2, hq.bl w⟩
  · cases e
theorem pure_any {K : PySem.W.Frag} : Pure K (rAny K) (l1 fAny) := by
  intro s os vs o w rd e Q hq
  obtain ⟨x, u, P, rfl, rfl, h1, e⟩ := rd1 rd e
  unfold fAny at e
  split at e
  · rename_i ds e1
    obtain ⟨ns, e2, rfl⟩ := Option.map_eq_some_iff.mp e
    obtain ⟨l, ws, rfl, h2, h3⟩ := h1.lst e1
    have := allB_some e2
    subst this
    rw [h3.of_bls] at h2
    exact ⟨l, ns, rfl, h2, hq.bl w⟩
  · cases e
theorem boot_all' : bootBuiltins "all" = some (.builtin "all") := by decide +kernel
theorem boot_any' : bootBuiltins "any" = some (.builtin "any") := by decide +kernel
theorem DE.all {m : MA} (hc : X.calm = true) (hg : Gl X "all") (hm : X.mg "all" = none) (h : DA X [a] m) (he : starEach [a] X.env = (false, eval a X.env) :: starEach [] X.env := by rfl) : DE X (.Call (.Name "all" p) [a] [] pos) (mOp (l1 fAll) m) :=
  .callB (cr_all hc) pure_all hg hm boot_all' h (by decide) (by decide) he rfl
theorem DE.any {m : MA} (hc : X.calm = true) (hg : Gl X "any") (hm : X.mg "any" = none) (h : DA X [a] m) (he : starEach [a] X.env = (false, eval a X.env) :: starEach [] X.env := by rfl) : DE X (.Call (.Name "any" p) [a] [] pos) (mOp (l1 fAny) m) :=
  .callB (cr_any hc) pure_any hg hm boot_any' h (by decide) (by decide) he rfl
/-! ### {k: v, ..}, the keys written texts or ints -/
def mPrs : List (Key × MD) → Env → Option (List (Key × D) × Env)
  | [], e => some ([], e)
  | (k, m) :: r, e => match m e with
    | none => none
    | some (d, e1) => match mPrs r e1 with
      | none => none
      | some (kvs, e2) => some ((k, d) :: kvs, e2)
structure DPs (X : Cx) (pos : Pos) (ks : List (Option Expr)) (vs : List Expr) (ms : List (Key × MD)) : Prop where
  run : ∃ trs, PPs X pos ks vs trs ∧ ∀ σ s env P R kvs env', EnvOk X.K s σ env P → Own (fU P R) s → Dis P R → mPrs ms env = some (kvs, env') → ∀ Q : List (V × V) → Hp → Prop,
    (∀ ws s' P', EnvOk X.K s' σ env' P' → RepO' X.K s' ws kvs → Own (fU P' R) s' → Dis P' R → Ext (fU P R) s (fU P' R) s' → Kp R s s' → Q (ws.map fun kv => (kV kv.1, kv.2)) s'.H) → tPairs trs σ s.H Q
theorem DPs.nil : DPs X pos [] [] [] := ⟨[], pps_nil, fun σ s env P R kvs env' a1 a2 a3 a4 Q hq => by
  cases a4
  exact hq [] s P a1 .nil a2 a3 (.refl _ _) ⟨.refl _, fun _ _ => rfl⟩⟩
theorem DPs.cons {kx vx : Expr} {key : Key} {ks : List (Option Expr)} {vs : List Expr} {ms : List (Key × MD)} {m : MD} (hk : PE X kx (tC (kV key))) (h : DF X vx m) (hr : DPs X pos ks vs ms) : DPs X pos (some kx :: ks) (vx :: vs) ((key, m) :: ms) := by
  obtain ⟨t, hp, h1⟩ := h.run
  obtain ⟨trs, gp, g1⟩ := hr.run
  refine ⟨(_, t) :: trs, pps_cons hk hp gp, fun σ s env P R kvs env' a1 a2 a3 a4 Q hq => ?_⟩
  unfold mPrs at a4
  split at a4
  · cases a4
  rename_i d e1 q1
  split at a4
  · cases a4
  rename_i kvs' e2 q2
  cases a4
  refine h1 σ s env P d e1 a1 (a2.sub fun _ z => .inl z) q1 _ fun v s1 P1 b1 b2 b3 b4 => ?_
  have oR : Own R s := a2.sub fun _ z => .inr z
  have k1 := b4.kp a3 oR
  refine g1 σ s1 e1 P1 R _ _ b1 (b3.or (b4.ownR a3 oR)) (b4.disR a3 oR) q2 _ fun ws s2 P2 c1 c2 c3 c4 c5 c6 => ?_
  exact hq ((key, v) :: ws) s2 P2 c1 (.cons (Rep.mono c5.fz _ _ b2) c2) c3 c4 ((b4.frame (R := R)).trans c5) ⟨k1.f.trans c6.f, fun a z => (c6.k a z).trans (k1.k a z)⟩
def mrgD (kvs more : List (Key × D)) : List (Key × D) := more.foldl (fun acc kv => putD acc kv.1 kv.2) kvs
theorem RepO'.mrg {K : PySem.W.Frag} {s : S} : ∀ {vs : List (Key × V)} {ds : List (Key × D)} {us : List (Key × V)} {es : List (Key × D)}, RepO' K s us es → RepO' K s vs ds → RepO' K s (mergeK vs us) (mrgD ds es)
  | _, _, _, _, .nil, h => h
  | _, _, _, _, .cons (k := k) r t, h => by
    have q := RepO'.mrg t (h.put k r)
    exact q
def mDic (ms : List (Key × MD)) : ME := fun env => match mPrs ms env with
  | none => none
  | some (kvs, e1) => some (.oD (mrgD [] kvs), e1)
theorem mPrs_len : ∀ {ms : List (Key × MD)} {e : Env} {kvs : List (Key × D)} {e' : Env}, mPrs ms e = some (kvs, e') → kvs.length = ms.length
  | [], _, _, _, h => by cases h; rfl
  | (k, m) :: r, e, kvs, e', h => by
    unfold mPrs at h
    split at h
    · cases h
    split at h
    · cases h
    rename_i q
    cases h
    simp [mPrs_len q]
theorem DE.dic {ks : List (Option Expr)} {vs : List Expr} {ms : List (Key × MD)} (h : DPs X pos ks vs ms) (hall : ks.all (·.isSome) = true := by rfl) (hl : ks.length = vs.length := by rfl) (h0 : ks ≠ [] := by exact fun z => nomatch z) (h15 : ks.length ≤ 15 := by decide) (hms : ms.length ≤ 15 := by exact (by decide)) : DE X (.Dict ks vs pos) (mDic ms) := by
  obtain ⟨trs, hp, hr⟩ := h.run
  refine ⟨_, pe_disp hp hall hl h0 h15, fun σ s env P o env' a1 a2 a3 Q hq => ?_⟩
  unfold mDic at a3
  split at a3
  · cases a3
  rename_i kvs e1 q1
  cases a3
  intro p hpn
  have x0 : Ext P s (fU P (f1 p)) ⟨upd s.H p (.dK []), s.Z⟩ := Ext.new hpn
  have nP : ¬ P p := fun z => (a2.o p z).2 hpn
  have w0 : Own (fU P (f1 p)) (⟨upd s.H p (.dK []), s.Z⟩ : S) := ⟨fun a z => by
    rcases z with z | z
    · exact ⟨(a2.o a z).1, fun q => (a2.o a z).2 (x0.dom a q)⟩
    · cases (show a = p from z)
      exact ⟨fun z => a2.w _ z hpn, by show upd s.H p _ p ≠ none; rw [upd_same]; exact fun z => nomatch z⟩, fun a z q => a2.w a z (x0.dom a q)⟩
  have k0 : Kp P s ⟨upd s.H p (.dK []), s.Z⟩ := ⟨x0.fz, fun a z => upd_ne fun e => nP (by rw [← e]; exact z)⟩
  refine hr σ ⟨upd s.H p (.dK []), s.Z⟩ env P (f1 p) kvs _ (a1.mono k0) w0 (fun a z y => nP (by cases (show a = p from y); exact z)) q1 _ fun ws s1 P1 b1 b2 b3 b4 b5 b6 => ?_
  have h1 : s1.H p = some (.dK []) := (b6.k p rfl).trans upd_same
  refine ⟨h1, ws, rfl, by rw [b2.len, mPrs_len q1]; exact hms, ?_⟩
  have x1 : Ext (fU P1 (f1 p)) s1 (fU P1 (f1 p)) ⟨upd s1.H p (.dK (mergeK [] ws)), s1.Z⟩ := Ext.write b3 (.inr rfl)
  have k1 : Kp P1 s1 ⟨upd s1.H p (.dK (mergeK [] ws)), s1.Z⟩ := ⟨x1.fz, fun a z => upd_ne fun e => b4 a z (show a = p from e)⟩
  exact hq (.ref p) ⟨upd s1.H p (.dK (mergeK [] ws)), s1.Z⟩ P1 (f1 p) (b1.mono k1) (.oD upd_same ((b2.mono x1.fz).mrg .nil)) b4 ⟨fun a z => ⟨(b3.o a z).1, fun q => (b3.o a z).2 (x1.dom a q)⟩, fun a z q => b3.w a z (x1.dom a q)⟩ ((x0.trans b5).trans x1)
end
end G
namespace G
open PySem PySem.Spec PyProof.Rows L2

/-! ### a, b = x, y -/
def parA : Env → List AV → Option (List OV × Env)
  | e, [] => some ([], e)
  | e, .own o :: as => match parA e as with
    | none => none
    | some (os, e') => some (o :: os, e')
  | e, .at i :: as => match lk e i with
    | none => none
    | some o => match o.frz with
      | none => none
      | some d => match parA (e.set i (some (.fz d))) as with
        | none => none
        | some (os, e') => some (.fz d :: os, e')
theorem fU_l (P Q R : FP) : fU P (fU Q R) = fU (fU P R) Q := funext fun a => propext ⟨fun z => by
  rcases z with z | z | z
  · exact .inl (.inl z)
  · exact .inr z
  · exact .inl (.inr z), fun z => by
  rcases z with (z | z) | z
  · exact .inl z
  · exact .inr (.inr z)
  · exact .inr (.inl z)⟩
theorem parA_ok {K : PySem.W.Frag} {σ : L2.St} : ∀ {as : List AV} {vs : List V} {s : S} {R P : FP} {e : Env} {os : List OV} {e2 : Env}, AvOk K s σ as vs R → EnvOk K s σ e P → Dis P R → Own (fU P R) s → parA e as = some (os, e2) →
    ∃ s' P' R', s'.H = s.H ∧ EnvOk K s' σ e2 P' ∧ RepOs K s' os vs R' ∧ Dis P' R' ∧ Own (fU P' R') s' ∧ Ext (fU P R) s (fU P' R') s'
  | _, _, s, _, P, e, _, _, .nil, h, d, w, q => by
    cases q
    exact ⟨s, P, fE, rfl, h, .nil, d, w, .refl _ _⟩
  | _, _, s, _, P, e, _, _, .own (o := o) (v := v) (P := Po) (R := Ro) h1 h2 h3, h, d, w, q => by
    simp only [parA] at q
    split at q
    · cases q
    · rename_i os' e' q2
      cases q
      have w1 : Own (fU P Ro) s := w.sub fun a z => z.elim .inl fun z => .inr (.inr z)
      have wo : Own Po s := w.sub fun a z => .inr (.inl z)
      have d1 : Dis (fU P Ro) Po := fun a z y => z.elim (fun z => d a z (.inl y)) fun z => h3 a y z
      obtain ⟨s', P', R', a1, a2, a3, a4, a5, a6⟩ := parA_ok h2 h (fun a z y => d a z (.inr y)) w1 q2
      have dR := a6.disR d1 wo
      refine ⟨s', P', fU Po R', a1, a2, .cons (RepO.mono _ _ _ h1 (a6.kp d1 wo)) a3 fun a z y => dR a (.inr y) z, fun a z y => y.elim (fun y => dR a (.inl z) y) fun y => a4 a z y, ?_, ?_⟩
      · rw [fU_l]; exact a5.or (a6.ownR d1 wo)
      · rw [fU_l, fU_l]; exact a6.frame
  | _, _, s, R, P, e, _, _, .at (i := i) (v := v) h1 h2, h, d, w, q => by
    simp only [parA] at q
    split at q
    · cases q
    · rename_i o q0
      split at q
      · cases q
      · rename_i dd q1
        split at q
        · cases q
        · rename_i os' e' q2
          cases q
          have wP : Own P s := w.sub fun _ z => .inl z
          have wR : Own R s := w.sub fun _ z => .inr z
          obtain ⟨v', s1, P1, b1, b2, b3, b4, b5, b6⟩ := h.freeze wP q0 q1
          rw [h1] at b1; cases b1
          have wR1 := b5.ownR d wR
          obtain ⟨s', P', R', a1, a2, a3, a4, a5, a6⟩ := parA_ok (h2.mono (b5.kp d wR)) b3 (b5.disR d wR) (b4.or wR1) q2
          refine ⟨s', P', R', a1.trans b2, a2, ?_, a4, a5, b5.frame.trans a6⟩
          have r : RepOs K s' (.fz dd :: os') (v :: _) (fU fE R') := .cons (.fz (Rep.mono a6.fz _ _ b6)) a3 fun _ z => z.elim
          have e : fU fE R' = R' := funext fun a => propext ⟨fun z => z.elim (fun z => z.elim) id, .inr⟩
          rwa [e] at r
def mPar2 (i j : Nat) (m : MA) : MS := fun env => match m env with
  | none => none
  | some (as, e1) => match parA e1 as with
    | some ([a, b], e2) => if i < e2.length ∧ j < e2.length then some (.nx ((e2.set i (some a)).set j (some b))) else none
    | _ => none
def mPar3 (i j l : Nat) (m : MA) : MS := fun env => match m env with
  | none => none
  | some (as, e1) => match parA e1 as with
    | some ([a, b, c], e2) => if i < e2.length ∧ j < e2.length ∧ l < e2.length then some (.nx (((e2.set i (some a)).set j (some b)).set l (some c))) else none
    | _ => none
section
variable {X : Cx} {fx : List Nat} {a b c e tg : Expr} {es rest : List Expr} {pos p p2 : Pos} {k : Nat} {st : Stmt} {sts : List Stmt}
theorem DS.par2 {i j : Nat} {x y : Str} {px py pt : Pos} {kt k2 pt2} {m : MA} (hc : X.calm = true) (hN : X.N.Nodup) (ha : DA X [a, b] m) (hfi : i ∉ fx := by decide) (hfj : j ∉ fx := by decide) (hij : i ≠ j := by decide) (hi : X.N[i]? = some x := by rfl) (hj : X.N[j]? = some y := by rfl)
    (hx : X.env.scope.names.lookup x = some .local := by rfl) (hy : X.env.scope.names.lookup y = some .local := by rfl)
    (hw : swappedStores [.Tuple [.Name x px, .Name y py] kt pt] (.Tuple [a, b] k2 pt2) X.env = pure (some [x, y]) := by rfl)
    (hs : swapsWithSole [.Tuple [.Name x px, .Name y py] kt pt] (.Tuple [a, b] k2 pt2) pos.line X.env = pure false := by rfl) :
    DS X fx (.Assign [.Tuple [.Name x px, .Name y py] kt pt] (.Tuple [a, b] k2 pt2) pos) (mPar2 i j m) := by
  obtain ⟨ts, h1, h2, h3⟩ := ha.run
  refine ⟨_, ps_par hc hN hi hj hij hx hy h2 hw hs, fun σ s env P out a1 a2 a3 D hq => ?_⟩
  unfold mPar2 at a3
  split at a3
  · cases a3
  rename_i as e1 q1
  split at a3
  · rename_i o1 o2 e2 q2
    split at a3
    · rename_i hl
      cases a3
      refine h3 σ s env P as e1 a1 a2 q1 _ fun vs s1 P1 R b1 b2 b3 b4 b5 => ?_
      obtain ⟨s2, P2, R2, c1, c2, c3, c4, c5, c6⟩ := parA_ok b2 b1 b3 b4 q2
      match vs, R2, c3, c4, c5, c6 with
      | _, _, .cons (v := v1) (P := R1) r1 (.cons (v := v2) (P := R2) r2 .nil d2) d1, c4, c5, c6 =>
        refine ⟨v1, v2, rfl, ?_⟩
        obtain ⟨P3, g1, g2⟩ := c2.put hl.1 r1 fun a z y => c4 a z (.inl y)
        obtain ⟨P4, g3, g4⟩ := g1.put (by rw [List.length_set]; exact hl.2) r2 fun a z y => (g2 a z).elim (fun z => c4 a z (.inr (.inl y))) fun z => d1 a z (.inl y)
        have sub : ∀ a, P4 a → fU P2 (fU R1 (fU R2 fE)) a := fun a z => (g4 a z).elim (fun z => (g2 a z).elim .inl fun z => .inr (.inl z)) fun z => .inr (.inr (.inl z))
        rw [← c1]
        exact hq _ s2 P4 g3 (c5.sub sub) ((b5.trans c6).sub sub) fun l hl => ((Fx.set hfj) l hl).trans ((Fx.set hfi) l hl)
    · cases a3
  · cases a3
theorem DS.par3 {i j l : Nat} {x y z : Str} {px py pz pt : Pos} {kt k2 pt2} {m : MA} (hc : X.calm = true) (hN : X.N.Nodup) (ha : DA X [a, b, c] m) (hfi : i ∉ fx := by decide) (hfj : j ∉ fx := by decide) (hfl : l ∉ fx := by decide) (hij : i ≠ j := by decide) (hil : i ≠ l := by decide) (hjl : j ≠ l := by decide)
    (hi : X.N[i]? = some x := by rfl) (hj : X.N[j]? = some y := by rfl) (hl : X.N[l]? = some z := by rfl)
    (hx : X.env.scope.names.lookup x = some .local := by rfl) (hy : X.env.scope.names.lookup y = some .local := by rfl) (hz : X.env.scope.names.lookup z = some .local := by rfl)
    (hw : swappedStores [.Tuple [.Name x px, .Name y py, .Name z pz] kt pt] (.Tuple [a, b, c] k2 pt2) X.env = pure (some [x, y, z]) := by rfl)
    (hs : swapsWithSole [.Tuple [.Name x px, .Name y py, .Name z pz] kt pt] (.Tuple [a, b, c] k2 pt2) pos.line X.env = pure false := by rfl) :
    DS X fx (.Assign [.Tuple [.Name x px, .Name y py, .Name z pz] kt pt] (.Tuple [a, b, c] k2 pt2) pos) (mPar3 i j l m) := by
  obtain ⟨ts, h1, h2, h3⟩ := ha.run
  refine ⟨_, ps_par3 hc hN hi hj hl hij hil hjl hx hy hz h2 hw hs, fun σ s env P out a1 a2 a3 D hq => ?_⟩
  unfold mPar3 at a3
  split at a3
  · cases a3
  rename_i as e1 q1
  split at a3
  · rename_i o1 o2 o3 e2 q2
    split at a3
    · rename_i hl
      cases a3
      refine h3 σ s env P as e1 a1 a2 q1 _ fun vs s1 P1 R b1 b2 b3 b4 b5 => ?_
      obtain ⟨s2, P2, R2, c1, c2, c3, c4, c5, c6⟩ := parA_ok b2 b1 b3 b4 q2
      match vs, R2, c3, c4, c5, c6 with
      | _, _, .cons (v := v1) (P := R1) r1 (.cons (v := v2) (P := R2) r2 (.cons (v := v3) (P := R3) r3 .nil d3) d2) d1, c4, c5, c6 =>
        refine ⟨v1, v2, v3, rfl, ?_⟩
        obtain ⟨P3, g1, g2⟩ := c2.put hl.1 r1 fun a z y => c4 a z (.inl y)
        obtain ⟨P4, g3, g4⟩ := g1.put (by rw [List.length_set]; exact hl.2.1) r2 fun a z y => (g2 a z).elim (fun z => c4 a z (.inr (.inl y))) fun z => d1 a z (.inl y)
        obtain ⟨P5, g5, g6⟩ := g3.put (by rw [List.length_set, List.length_set]; exact hl.2.2) r3 fun a z y => (g4 a z).elim (fun z => (g2 a z).elim (fun z => c4 a z (.inr (.inr (.inl y)))) fun z => d1 a z (.inr (.inl y))) fun z => d2 a z (.inl y)
        have sub : ∀ a, P5 a → fU P2 (fU R1 (fU R2 (fU R3 fE))) a := fun a z => (g6 a z).elim (fun z => (g4 a z).elim (fun z => (g2 a z).elim .inl fun z => .inr (.inl z)) fun z => .inr (.inr (.inl z))) fun z => .inr (.inr (.inr (.inl z)))
        rw [← c1]
        exact hq _ s2 P5 g5 (c5.sub sub) ((b5.trans c6).sub sub) fun l hl => ((Fx.set hfl) l hl).trans (((Fx.set hfj) l hl).trans ((Fx.set hfi) l hl))
    · cases a3
  · cases a3
end
end G
namespace G
open PySem PySem.Spec PyProof.Rows L2

/-! ### int(x) -/
def fInt : OV → Option OV
  | .fz (.int i) => some (.fz (.int i))
  | .fz (.bool b) => some (.fz (.int (if b then 1 else 0)))
  | _ => none
theorem pure_int {K : PySem.W.Frag} : Pure K (fun xs H Q => (∃ i, xs = [V.int i] ∧ Q (V.int i) H) ∨ ∃ k, xs = [V.bl k] ∧ Q (V.int (if k then 1 else 0)) H) (l1 fInt) := by
  intro s os vs o w rd e Q hq
  obtain ⟨x, u, P, rfl, rfl, h1, e⟩ := rd1 rd e
  unfold fInt at e
  split at e
  · cases e; exact .inl ⟨_, by rw [h1.int], hq.int w⟩
  · cases e; exact .inr ⟨_, by rw [h1.bl], hq.int w⟩
  · cases e
theorem boot_int' : bootBuiltins "int" = some (.type "int") := by decide +kernel
theorem boot_min2' : bootBuiltins "min" = some (.builtin "min") := by decide +kernel
theorem boot_max2' : bootBuiltins "max" = some (.builtin "max") := by decide +kernel
section
variable {X : Cx} {fx : List Nat} {a b c e tg : Expr} {es rest : List Expr} {pos p p2 apos cpos : Pos} {k : Nat} {st : Stmt} {sts : List Stmt}
theorem DE.int_ {m : MA} (hg : Gl X "int") (hm : X.mg "int" = none) (h : DA X [a] m) (he : starEach [a] X.env = (false, eval a X.env) :: starEach [] X.env := by rfl) : DE X (.Call (.Name "int" p) [a] [] pos) (mOp (l1 fInt) m) :=
  .callTy call_int1 pure_int hg hm boot_int' h (by decide) (by decide) he rfl
/-! ### min(ns), max(ns) -/
def minL : List Int → Option Int
  | [] => none
  | n :: ns => match minL ns with
    | none => some n
    | some m => some (if m < n then m else n)
def maxL : List Int → Option Int
  | [] => none
  | n :: ns => match maxL ns with
    | none => some n
    | some m => some (if n < m then m else n)
theorem minL_nil {ns : List Int} (h : minL ns = none) : ns = [] := by
  cases ns with
  | nil => rfl
  | cons n ns => unfold minL at h; split at h <;> cases h
theorem maxL_nil {ns : List Int} (h : maxL ns = none) : ns = [] := by
  cases ns with
  | nil => rfl
  | cons n ns => unfold maxL at h; split at h <;> cases h
theorem minL_ok : ∀ {ns : List Int} {m : Int}, minL ns = some m → m ∈ ns ∧ ∀ y ∈ ns, m ≤ y
  | [], _, h => by cases h
  | n :: ns, m, h => by
    unfold minL at h
    split at h
    · rename_i q
      cases h
      rw [minL_nil q]
      simp
    · rename_i z q
      obtain ⟨h1, h2⟩ := minL_ok q
      by_cases hz : z < n
      · rw [if_pos hz] at h
        cases h
        refine ⟨by simp [h1], fun y hy => ?_⟩
        rcases List.mem_cons.mp hy with r | r
        · omega
        · exact h2 y r
      · rw [if_neg hz] at h
        cases h
        refine ⟨by simp, fun y hy => ?_⟩
        rcases List.mem_cons.mp hy with r | r
        · omega
        · have := h2 y r; omega
theorem maxL_ok : ∀ {ns : List Int} {m : Int}, maxL ns = some m → m ∈ ns ∧ ∀ y ∈ ns, y ≤ m
  | [], _, h => by cases h
  | n :: ns, m, h => by
    unfold maxL at h
    split at h
    · rename_i q
      cases h
      rw [maxL_nil q]
      simp
    · rename_i z q
      obtain ⟨h1, h2⟩ := maxL_ok q
      by_cases hz : n < z
      · rw [if_pos hz] at h
        cases h
        refine ⟨by simp [h1], fun y hy => ?_⟩
        rcases List.mem_cons.mp hy with r | r
        · omega
        · exact h2 y r
      · rw [if_neg hz] at h
        cases h
        refine ⟨by simp, fun y hy => ?_⟩
        rcases List.mem_cons.mp hy with r | r
        · omega
        · have := h2 y r; omega
def fMin1 : OV → Option OV := fun o => match o.lst? with
  | some ds => match allI ds with
    | some ns => (minL ns).map fun m => .fz (.int m)
    | none => none
  | none => none
def fMax1 : OV → Option OV := fun o => match o.lst? with
  | some ds => match allI ds with
    | some ns => (maxL ns).map fun m => .fz (.int m)
    | none => none
  | none => none
theorem pure_min1 {K : PySem.W.Frag} : Pure K (rMin K) (l1 fMin1) := by
  intro s os vs o w rd e Q hq
  obtain ⟨x, u, P, rfl, rfl, h1, e⟩ := rd1 rd e
  unfold fMin1 at e
  split at e
  · rename_i ds e1
    split at e
    · rename_i ns e2
      obtain ⟨m, e3, rfl⟩ := Option.map_eq_some_iff.mp e
      obtain ⟨l, ws, rfl, h2, h3⟩ := h1.lst e1
      have := allI_some e2
      subst this
      rw [h3.of_ints] at h2
      obtain ⟨m1, m2⟩ := minL_ok e3
      refine ⟨l, ns, rfl, h2, List.length_pos_of_mem m1, fun z z1 z2 => ?_⟩
      have : z = m := by have := z2 m m1; have := m2 z z1; omega
      subst this
      exact hq.int w
    · cases e
  · cases e
theorem pure_max1 {K : PySem.W.Frag} : Pure K (rMax K) (l1 fMax1) := by
  intro s os vs o w rd e Q hq
  obtain ⟨x, u, P, rfl, rfl, h1, e⟩ := rd1 rd e
  unfold fMax1 at e
  split at e
  · rename_i ds e1
    split at e
    · rename_i ns e2
      obtain ⟨m, e3, rfl⟩ := Option.map_eq_some_iff.mp e
      obtain ⟨l, ws, rfl, h2, h3⟩ := h1.lst e1
      have := allI_some e2
      subst this
      rw [h3.of_ints] at h2
      obtain ⟨m1, m2⟩ := maxL_ok e3
      refine ⟨l, ns, rfl, h2, List.length_pos_of_mem m1, fun z z1 z2 => ?_⟩
      have : z = m := by have := z2 m m1; have := m2 z z1; omega
      subst this
      exact hq.int w
    · cases e
  · cases e
theorem DE.min1 {m : MA} (hc : X.calm = true) (hg : Gl X "min") (hm : X.mg "min" = none) (h : DA X [a] m) (he : starEach [a] X.env = (false, eval a X.env) :: starEach [] X.env := by rfl) : DE X (.Call (.Name "min" p) [a] [] pos) (mOp (l1 fMin1) m) :=
  .callB (cr_min hc) pure_min1 hg hm boot_min2' h (by decide) (by decide) he rfl
theorem DE.max1 {m : MA} (hc : X.calm = true) (hg : Gl X "max") (hm : X.mg "max" = none) (h : DA X [a] m) (he : starEach [a] X.env = (false, eval a X.env) :: starEach [] X.env := by rfl) : DE X (.Call (.Name "max" p) [a] [] pos) (mOp (l1 fMax1) m) :=
  .callB (cr_max hc) pure_max1 hg hm boot_max2' h (by decide) (by decide) he rfl
/-! ### is, is not: with None, of truth values -/
def isNon : OV → Bool
  | .fz .none => true
  | _ => false
theorem isNon_ok {K : PySem.W.Frag} {s : S} {o : OV} {v : V} {P : FP} (h : RepO K s o v P) : decide (v = .non) = isNon o := by
  cases h with
  | fz h => cases h <;> first | rfl | exact decide_eq_false fun z => nomatch z
  | _ => exact decide_eq_false fun z => nomatch z
def isBB : OV → OV → Option Bool
  | .fz (.bool a), .fz (.bool b) => some (decide (a = b))
  | _, _ => none
def fIs : OV → OV → Option OV := fun a b => if isNon b then some (.fz (.bool (isNon a))) else (isBB a b).map fun r => .fz (.bool r)
def fIsN : OV → OV → Option OV := fun a b => if isNon b then some (.fz (.bool (!isNon a))) else (isBB a b).map fun r => .fz (.bool (!r))
def rIsA : R2 := fun x y H Q => (y = .non ∧ Q (.bl (decide (x = .non))) H) ∨ rIsB x y H Q
def rIsNA : R2 := fun x y H Q => (y = .non ∧ Q (.bl (!decide (x = .non))) H) ∨ rNotB x y H Q
theorem isNon_v {K : PySem.W.Frag} {s : S} {o : OV} {v : V} {P : FP} (h : RepO K s o v P) (e : isNon o = true) : v = .non := by
  have := isNon_ok h
  rw [e] at this
  exact of_decide_eq_true this
theorem isBB_ok {a b : OV} {r : Bool} (h : isBB a b = some r) : ∃ x y, a = .fz (.bool x) ∧ b = .fz (.bool y) ∧ r = decide (x = y) := by
  unfold isBB at h
  split at h
  · cases h; exact ⟨_, _, rfl, rfl, rfl⟩
  · cases h
theorem p_is {K : PySem.W.Frag} : P2 K rIsA fIs := by
  intro s a v P b u R o w ra rb e Q hq
  unfold fIs at e
  split at e
  · rename_i c
    cases e
    exact .inl ⟨isNon_v rb c, by rw [isNon_ok ra]; exact hq.bl w⟩
  · obtain ⟨r, e1, rfl⟩ := Option.map_eq_some_iff.mp e
    obtain ⟨x, y, rfl, rfl, rfl⟩ := isBB_ok e1
    exact .inr ⟨x, y, ra.bl, rb.bl, hq.bl w⟩
theorem p_isN {K : PySem.W.Frag} : P2 K rIsNA fIsN := by
  intro s a v P b u R o w ra rb e Q hq
  unfold fIsN at e
  split at e
  · rename_i c
    cases e
    exact .inl ⟨isNon_v rb c, by rw [isNon_ok ra]; exact hq.bl w⟩
  · obtain ⟨r, e1, rfl⟩ := Option.map_eq_some_iff.mp e
    obtain ⟨x, y, rfl, rfl, rfl⟩ := isBB_ok e1
    exact .inr ⟨x, y, ra.bl, rb.bl, hq.bl w⟩
theorem DE.is_ {m : MA} (h : DA X [a, b] m) : DE X (.Compare a [.Is] [b] pos) (mOp (l2 fIs) m) := .cmp (OpR.or op_isN op_isBl) p_is (nomark _) h
theorem DE.isnt {m : MA} (h : DA X [a, b] m) : DE X (.Compare a [.IsNot] [b] pos) (mOp (l2 fIsN) m) := .cmp (OpR.or op_notN op_notBl) p_isN (nomark _) h
theorem DT.is_ {m : MA} (h : DA X [a, b] m) : DT X (.Compare a [.Is] [b] pos) (mBl (mOp (l2 fIs) m)) := .cmp (OpR.or op_isN op_isBl) p_is (nomark _) h
theorem DT.isnt {m : MA} (h : DA X [a, b] m) : DT X (.Compare a [.IsNot] [b] pos) (mBl (mOp (l2 fIsN) m)) := .cmp (OpR.or op_notN op_notBl) p_isN (nomark _) h
/-! ### a < b < c of ints -/
def mChn (f g : Int → Int → Bool) (ma mb mc : MD) : MT := fun env => match ma env with
  | some (.int i, e1) => match mb e1 with
    | some (.int j, e2) => if f i j = true then
        match mc e2 with
        | some (.int l, e3) => some (g j l, e3)
        | _ => none
      else some (false, e2)
    | _ => none
  | _ => none
theorem chn_run {f g : Int → Int → Bool} {ma mb mc : MD} (ha : DF X a ma) (hb : DF X b mb) (hc : DF X c mc) : ∃ ta tb tc, PE X a ta ∧ PE X b tb ∧ PE X c tc ∧ ∀ σ s env P r env', EnvOk X.K s σ env P → Own P s → mChn f g ma mb mc env = some (r, env') →
    ∀ Q : VK, (∀ s' P', EnvOk X.K s' σ env' P' → Own P' s' → Ext P s P' s' → Q (.bl r) s'.H) → tChain (rI0 fun i j => .bl (f i j)) (rI0 fun i j => .bl (g i j)) ta tb tc σ s.H Q := by
  obtain ⟨ta, pa, ra⟩ := ha.run
  obtain ⟨tb, pb, rb⟩ := hb.run
  obtain ⟨tc, pc, rc⟩ := hc.run
  refine ⟨ta, tb, tc, pa, pb, pc, fun σ s env P r env' a1 a2 a3 Q hq => ?_⟩
  unfold mChn at a3
  split at a3
  · rename_i i e1 q1
    split at a3
    · rename_i j e2 q2
      refine ra σ s env P _ _ a1 a2 q1 _ fun v1 s1 P1 b1 b2 b3 b4 => ?_
      refine rb σ s1 _ P1 _ _ b1 b3 q2 _ fun v2 s2 P2 c1 c2 c3 c4 => ?_
      have hv1 := b2.int_inv
      have hv2 := c2.int_inv
      subst hv1 hv2
      refine ⟨i, j, rfl, rfl, f i j, rfl, ?_⟩
      by_cases hf : f i j = true
      · rw [if_pos hf] at a3 ⊢
        split at a3
        · rename_i l e3 q3
          cases a3
          refine rc σ s2 _ P2 _ _ c1 c3 q3 _ fun v3 s3 P3 d1 d2 d3 d4 => ?_
          have hv3 := d2.int_inv
          subst hv3
          exact ⟨j, l, rfl, rfl, hq s3 P3 d1 d3 ((b4.trans c4).trans d4)⟩
        · cases a3
      · rw [if_neg hf] at a3 ⊢
        cases a3
        exact hq s2 P2 c1 c3 (b4.trans c4)
    · cases a3
  · cases a3
theorem DT.chain {op op' : CmpOp} {f g : Int → Int → Bool} {ma mb mc : MD} (ho : OpR X (compareOp op) (rI0 fun i j => .bl (f i j))) (ho' : OpR X (compareOp op') (rI0 fun i j => .bl (g i j))) (ha : DF X a ma) (hb : DF X b mb) (hc : DF X c mc)
    (hm : lastMarks [op, op'] [b, c] = false := by with_unfolding_all rfl) : DT X (.Compare a [op, op'] [b, c] pos) (mChn f g ma mb mc) := by
  obtain ⟨ta, tb, tc, pa, pb, pc, hr⟩ := chn_run (f := f) (g := g) ha hb hc
  refine ⟨_, pt_chain ho ho' pa pb pc hm, fun σ s env P r env' a1 a2 a3 Q hq => ?_⟩
  exact hr σ s env P r env' a1 a2 a3 _ fun s' P' b1 b2 b3 => ⟨r, rfl, hq s' P' b1 b2 b3⟩
theorem DE.chain {op op' : CmpOp} {f g : Int → Int → Bool} {ma mb mc : MD} (ho : OpR X (compareOp op) (rI0 fun i j => .bl (f i j))) (ho' : OpR X (compareOp op') (rI0 fun i j => .bl (g i j))) (ha : DF X a ma) (hb : DF X b mb) (hc : DF X c mc)
    (hm : lastMarks [op, op'] [b, c] = false := by with_unfolding_all rfl) : DE X (.Compare a [op, op'] [b, c] pos) (mBo (mChn f g ma mb mc)) := by
  obtain ⟨ta, tb, tc, pa, pb, pc, hr⟩ := chn_run (f := f) (g := g) ha hb hc
  refine ⟨_, pe_chain ho ho' pa pb pc hm, fun σ s env P o env' a1 a2 a3 Q hq => ?_⟩
  unfold mBo at a3
  split at a3
  · cases a3
  rename_i r e1 q1
  cases a3
  exact hr σ s env P r _ a1 a2 q1 _ fun s' P' b1 b2 b3 => postE_plain hq b1 b2 b3 (.bl r)
/-! ### isinstance(x, T) -/
def tyO : OV → Option String
  | .fz .none => some "NoneType"
  | .fz (.bool _) => some "bool"
  | .fz (.int _) => some "int"
  | .fz (.str _) => some "str"
  | .fz (.list _) => some "list"
  | .fz (.tuple _) => some "tuple"
  | .fz (.dict _) => some "dict"
  | .oL _ => some "list"
  | .oD _ => some "dict"
  | .oN _ => some "list"
  | .oI _ _ => none
  | .oT _ => some "tuple"
  | .oK _ => none
  | .fK _ => none
  | .fI _ _ => none
  | .eX _ _ => none
theorem tyx_L {K : PySem.W.Frag} {H : Hp} {a : Addr} {vs : List V} (h : SqL K H a vs) : TyX K H (.ref a) (.type "list") := by
  rcases h with (h | ⟨o, h⟩) | ⟨o, xs, n, h1, h2, _⟩
  · exact .base (.lst h)
  · exact .base (.frz h)
  · exact .kList h1 h2
theorem tyx_T {K : PySem.W.Frag} {H : Hp} {a : Addr} {vs : List V} (h : SqT K H a vs) : TyX K H (.ref a) (.type "tuple") := by
  rcases h with (h | ⟨o, h⟩) | ⟨o, xs, n, h1, h2, _⟩
  · exact .base (.tup h)
  · exact .fTuple h
  · exact .kTuple h1 h2
theorem tyx_D {K : PySem.W.Frag} {H : Hp} {a : Addr} {vs : List (Key × V)} (h : Rd H a (.dK vs)) : TyX K H (.ref a) (.type "dict") := by
  rcases h with h | ⟨o, h⟩
  · exact .base (.dK h)
  · exact .fDict h
theorem tyx_of {K : PySem.W.Frag} {s : S} {o : OV} {v : V} {P : FP} (h : RepO K s o v P) {t : String} (e : tyO o = some t) : TyX K s.H v (.type t) := by
  cases o with
  | fz d =>
    cases d with
    | none => cases e; have q := h.non; subst q; exact .base .non
    | bool b => cases e; have q := h.bl; subst q; exact .base (.bl b)
    | int i => cases e; have q := h.int; subst q; exact .base (.int i)
    | str x => cases e; have q := h.str; subst q; exact .base (.str x)
    | list ds => cases e; obtain ⟨a, vs, rfl, h1, _⟩ := h.lst (ds := ds) rfl; exact tyx_L h1
    | tuple ds => cases e; obtain ⟨a, vs, rfl, h1, _⟩ := h.tup (ds := ds) rfl; exact tyx_T h1
    | dict es =>
      cases e
      cases h with
      | fz h => cases h with | dic h1 h2 h3 => exact tyx_D h2
  | oL ds => cases e; cases h with | oL h1 h2 => exact .base (.lst h1)
  | oD ds => cases e; cases h with | oD h1 h2 => exact .base (.dK h1)
  | oN ds => cases e; cases h with | oN h1 h2 h3 => exact .base (.lst h1)
  | oI C fs => cases e
  | oT os =>
    cases e
    cases h with
    | oT h1 h2 h3 => exact h2.elim (fun h => .base (.tup h)) fun ⟨o, h⟩ => .fTuple h
  | oK _ => cases e
  | fK _ => cases e
  | fI _ _ => cases e
  | eX _ _ => cases e
def fIsi (T : String) (o : OV) : Option Bool := match tyO o with
  | none => none
  | some t => kitB t T
def mIsi (T : String) (m : MV) : MT := fun env => match m env with
  | none => none
  | some (a, e1) => match resolve1 e1 a with
    | none => none
    | some o => (fIsi T o).map (·, e1)
theorem fIsi_ok {K : PySem.W.Frag} {s : S} {o : OV} {v : V} {P : FP} (h : RepO K s o v P) {T : String} {b : Bool} (e : fIsi T o = some b) : ∃ t, TyX K s.H v (.type t) ∧ PySem.W.kitOne K (.type t) (.type T) = some b := by
  unfold fIsi at e
  split at e
  · cases e
  · rename_i t q
    exact ⟨t, tyx_of h q, kit_ty e⟩
theorem DE.isi {T : String} {m : MV} {t : Str} {pt : Pos} (hg : Gl X "isinstance") (hm : X.mg "isinstance" = none) (h : DV X a m) (hgt : Gl X t) (hmt : X.mg t = none) (hb : bootBuiltins t = some (.type T)) (hn : t ≠ "__name__" := by decide) (hd : (t == ("__debug__" : Str)) = false := by decide)
    (he : starEach [a, .Name t pt] X.env = (false, eval a X.env) :: starEach [.Name t pt] X.env := by rfl) (he2 : starEach [.Name t pt] X.env = (false, eval (.Name t pt) X.env) :: starEach [] X.env := by rfl) (hpl : (backTo pos (starEach [.Name t pt] X.env)).any (·.1) = false := by rfl) :
    DE X (.Call (.Name "isinstance" p) [a, .Name t pt] [] pos) (mBo (mIsi T m)) := by
  obtain ⟨ta, pa, ra⟩ := h.run
  refine ⟨_, pe_callB call_isi hg hm (by decide +kernel) (pa_cons pa (pa_cons (pe_bltn hgt hmt hb (v := .ty T) rfl hn hd) pa_nil he2) he) (by decide) (by decide) he hpl, fun σ s env P o env' a1 a2 a3 Q hq => ?_⟩
  unfold mBo at a3
  split at a3
  · cases a3
  rename_i r e1 q1
  cases a3
  unfold mIsi at q1
  split at q1
  · cases q1
  rename_i av e2 q2
  split at q1
  · cases q1
  rename_i o' q3
  obtain ⟨b', q4, q5⟩ := Option.map_eq_some_iff.mp q1
  cases q5
  refine ra σ s env P av _ a1 a2 q2 _ fun v s1 P1 R b1 b2 b3 b4 b5 => ?_
  obtain ⟨u, W, e0, rd⟩ := (b2.read b1 (os := [o']) (by simp [resolve, q3])).one
  cases e0
  obtain ⟨t', h1, h2⟩ := fIsi_ok rd q4
  exact ⟨_, _, _, _, _, rfl, .ty T, h1, h2, postE_plain hq b1 (b4.sub fun _ z => .inl z) (b5.sub fun _ z => .inl z) (.bl _)⟩
theorem DT.of {m : MT} (h : DE X e (mBo m)) (he : ∀ whole, isTrue e X.env whole = (do let v ← whole; standAt e.pos; holding [v] (truthy v)) := by exact fun _ => rfl) : DT X e m := by
  obtain ⟨t, hp, hr⟩ := h.run
  refine ⟨_, pt_truth hp he, fun σ s env P b env' a1 a2 a3 Q hq => ?_⟩
  refine hr σ s env P _ _ a1 a2 (by unfold mBo; rw [a3]) _ fun v s1 P1 R b1 b2 b3 b4 b5 => ?_
  have := b2.bl
  subst this
  exact ⟨b, rfl, PostV.drop hq b1 b4 b5⟩
/-! ### list(d.items()), d a local dict of one's own -/
def mItems (j : Nat) : ME := fun env => match lk env j with
  | some (.oD kvs) => some (.oL (kvs.map fun kv => .tuple [kD kv.1, kv.2]), env)
  | _ => none
theorem rep_kV {K : PySem.W.Frag} {s : S} : ∀ k : Key, Rep K s (kV k) (kD k)
  | .inl i => .int i
  | .inr x => .str x
theorem items_rep {K : PySem.W.Frag} {H' : Hp} {Z' : FP} : ∀ {ts : List Addr} {vs : List (Key × V)} {ds : List (Key × D)}, Paired (fun (t : Addr) (q : Key × V) => H' t = some (.tup [kV q.1, q.2])) ts vs → RepO' K ⟨H', Z'⟩ vs ds → (∀ t ∈ ts, Z' t) →
    RepL K ⟨H', Z'⟩ (ts.map V.ref) (ds.map fun kv => PyData.tuple [kD kv.1, kv.2])
  | [], [], [], _, _, _ => .nil
  | t :: ts, (k, v) :: vs, (k', d) :: ds, p, r, z => by
    cases p with
    | cons h p =>
      cases r with
      | cons r q => exact .cons (.tup (.inl ⟨z t (by simp), .inl h⟩) (.cons (rep_kV k) (.cons r .nil)) fun q => by cases k <;> cases q) (items_rep p q fun t' h' => z t' (by simp [h']))
  | [], _ :: _, _, p, _, _ => nomatch p
  | _ :: _, [], _, p, _, _ => nomatch p
  | _, [], _ :: _, _, r, _ => nomatch r
  | _, _ :: _, [], _, r, _ => nomatch r
theorem DE.items (j : Nat) {x : Str} {px : Pos} (hc : X.calm = true) (hg : Gl X "list") (hm : X.mg "list" = none) (hN : X.N[j]? = some x := by rfl) (hx : Vis X.env.scope x := by first | exact Or.inl rfl | exact Or.inr (Or.inl rfl) | exact Or.inr (Or.inr rfl))
    (hd : (x == ("__debug__" : Str)) = false := by decide) (hcd : (x == ("__classdict__" : Str)) = false := by decide)
    (hbase : attributeBase (.Name x px) "items" X.env (eval (.Name x px) X.env) = eval (.Name x px) X.env := by rfl) (hline : (apos.endLine == cpos.line) = true := by rfl)
    (hs : starEach [.Call (.Attribute (.Name x px) "items" apos) [] [] cpos] X.env = (false, eval (.Call (.Attribute (.Name x px) "items" apos) [] [] cpos) X.env) :: starEach [] X.env := by rfl) :
    DE X (.Call (.Name "list" p) [.Call (.Attribute (.Name x px) "items" apos) [] [] cpos] [] pos) (mItems j) := by
  refine ⟨_, LiI.pe_listItems hc (pe_var hN hx hd hcd) hg hm (by decide +kernel) hbase hline hs, fun σ s env P o env' a1 a2 a3 Q hq => ?_⟩
  unfold mItems at a3
  split at a3
  · rename_i kvs q1
    cases a3
    obtain ⟨ad, vs, g1, f2, f3, _⟩ := a1.slotD a2 q1
    refine ⟨_, g1, ad, vs, rfl, f2, fun H' l ts k0 k1 k2 k3 k4 k5 => ?_⟩
    have fz0 : Fz s (⟨H', fU s.Z (fun a => a ∈ ts)⟩ : S) := ⟨fun _ z => .inl z, fun a u _ r => r.elim (fun r => .inl (k0 _ _ r)) fun ⟨o, r⟩ => .inr ⟨o, k0 _ _ r⟩⟩
    have kpP : Kp P s (⟨H', fU s.Z (fun a => a ∈ ts)⟩ : S) := ⟨fz0, fun a z => by
      have nn := (a2.o a z).2
      cases q : s.H a with
      | none => exact (nn q).elim
      | some u => exact k0 _ _ q⟩
    have dm : ∀ a, H' a = none → s.H a = none := fun a z => by
      cases q : s.H a with
      | none => rfl
      | some u => rw [k0 _ _ q] at z; cases z
    have hts : ∀ t ∈ ts, H' t ≠ none := fun t ht => by
      obtain ⟨i, hi⟩ := List.getElem?_of_mem ht
      obtain ⟨y, g1, g2⟩ := LiI.paired_get k5 hi
      rw [g2]
      exact fun z => nomatch z
    refine hq (.ref l) ⟨H', fU s.Z (fun a => a ∈ ts)⟩ P (f1 l) (a1.mono kpP) (.oL k4 (items_rep k5 (f3.mono fz0) fun t h => .inr h)) (fun a z y => (a2.o a z).2 (by cases (show a = l from y); exact k1)) ⟨fun a z => ?_, fun a z => ?_⟩ ⟨fun a u q _ _ => k0 _ _ q, fz0.r, fun _ z => .inl z, fun a z => z.elim .inl fun z => .inr (.inr (k2 a z)), fun a z => z.elim .inl fun z => .inr (by cases (show a = l from z); exact k1), dm, fun a z => z.elim .inl fun z => .inr (hts a z)⟩
    · rcases z with z | z
      · refine ⟨fun y => y.elim (a2.o a z).1 fun y => (a2.o a z).2 (k2 a y), fun y => (a2.o a z).2 (dm a y)⟩
      · cases (show a = l from z)
        refine ⟨fun y => y.elim (fun y => a2.w _ y k1) k3, by show H' l ≠ none; rw [k4]; exact fun z => nomatch z⟩
    · rcases z with z | z
      · exact fun y => a2.w a z (dm a y)
      · exact hts a z
  · cases a3
end
end G
namespace G
open PySem PySem.Spec PyProof.Rows L2

/-- how often a while may turn at most -/
def wn : Nat := 1000000000
/-! ### a name of the module: its value stands in the written part -/
theorem DE.glob {X : Cx} {x : Str} {pos : Pos} {d : D} (hg : Gl X x) (h : ∃ v u, X.mg x = some u ∧ RelV v u ∧ ∀ s : S, Rep X.K s v d) (hd : (x == ("__debug__" : Str)) = false := by decide) : DE X (.Name x pos) (mC (.fz d)) := by
  obtain ⟨v, u, hm, r, hr⟩ := h
  exact .const (pe_glob hg hm r hd) rfl hr
/-- what a value of the written part stands for -/
def KRep (K : PySem.W.Frag) (u : Value) (d : D) : Prop := ∃ v, RelV v u ∧ ∀ s : S, Rep K s v d
theorem kr_int {K : PySem.W.Frag} {i : Int} {t : Tok} : KRep K (.int i t) (.int i) := ⟨.int i, ⟨t, rfl⟩, fun _ => .int i⟩
theorem kr_str {K : PySem.W.Frag} {x : Str} {t : Tok} : KRep K (.str x t) (.str x) := ⟨.str x, ⟨t, rfl⟩, fun _ => .str x⟩
inductive KReps (K : PySem.W.Frag) : List Value → List D → Prop
  | nil : KReps K [] []
  | cons {u : Value} {d : D} {us : List Value} {ds : List D} : KRep K u d → KReps K us ds → KReps K (u :: us) (d :: ds)
theorem KReps.ok {K : PySem.W.Frag} : ∀ {us : List Value} {ds : List D}, KReps K us ds → ∃ vs, Vals vs us ∧ vs.length = us.length ∧ ∀ s : S, RepL K s vs ds
  | _, _, .nil => ⟨[], .nil, rfl, fun _ => .nil⟩
  | _, _, .cons ⟨v, r, h⟩ t => by
    obtain ⟨vs, h1, h2, h3⟩ := t.ok
    exact ⟨v :: vs, .cons r h1, by simp [h2], fun s => .cons (h s) (h3 s)⟩
theorem kr_tup {K : PySem.W.Frag} {a : Addr} {od : Option Addr} {us : List Value} {n : Nat} {sl : Array (Option Value)} {ds : List D} (l : K.lookup a = some ⟨.type "tuple", od, .seq us.toArray n, sl⟩) (h : KReps K us ds) (hs : us.length ≤ sizeLine) (np : polyish ds = false) : KRep K (.ref a) (.tuple ds) := by
  obtain ⟨vs, h1, h2, h3⟩ := h.ok
  exact ⟨.ref a, rfl, fun s => .tup (.inr (.inr ⟨_, us.toArray, n, l, rfl, rfl, by simpa using hs, by simpa using h1⟩)) (h3 s) fun q => nomatch np.symm.trans q⟩
/-- a tuple that is known by its object -/
theorem kr_tupN {K : PySem.W.Frag} {a : Addr} {us : List Value} {n : Nat} {sl : Array (Option Value)} {ds : List D} (l : K.lookup a = some ⟨.type "tuple", none, .seq us.toArray n, sl⟩) (h : KReps K us ds) (hs : us.length ≤ sizeLine) : KRep K (.ref a) (.tuple ds) := by
  obtain ⟨vs, h1, h2, h3⟩ := h.ok
  exact ⟨.ref a, rfl, fun s => .tup (.inr (.inr ⟨_, us.toArray, n, l, rfl, rfl, by simpa using hs, by simpa using h1⟩)) (h3 s) fun _ => .inr ⟨_, l, rfl, rfl⟩⟩
theorem KRep.mg {K : PySem.W.Frag} {mg : Str → Option Value} {x : Str} {u : Value} {d : D} (h : KRep K u d) (m : mg x = some u) : ∃ v u, mg x = some u ∧ RelV v u ∧ ∀ s : S, Rep K s v d :=
  let ⟨v, r, q⟩ := h
  ⟨v, u, m, r, q⟩
end G
namespace G
open PySem PySem.Spec PyProof.Rows L2

/-! ### a, b = a list -/
def gLs (n : Nat) (r : MGs) : MG := fun d env => match d with
  | .list ds => if ds.length = n then r ds env else none
  | _ => none
theorem DG.lst {X : Cx} {pos : Pos} {ts : List Nat} {tgs : List Expr} {r : MGs} {kk : Nat} (n : Nat) (hc : X.calm = true) (h : DGs X ts tgs r) (hn : (assignEach tgs X.env).length = n := by rfl) (hst : (assignEach tgs X.env).findIdx? (·.1) = none := by rfl) : DG X ts (.Tuple tgs kk pos) (gLs n r) := by
  obtain ⟨g, hp, hr⟩ := h.run
  refine ⟨_, pg_unl hc hp hn hst, fun σ s env P d v env' a1 a2 a3 a4 Q hq => ?_⟩
  unfold gLs at a4
  split at a4
  · split at a4
    · rename_i hl
      cases a3 with
      | lst h1 h2 => exact ⟨_, _, rfl, h1.sq, by rw [h2.length]; exact hl, hr σ s env P _ _ env' a1 a2 h2 a4 Q hq⟩
    · cases a4
  · cases a4
/-! ### zip, enumerate, reversed -/
def zipD (xs ys : List D) : List D := List.zipWith (fun x y => PyData.tuple [x, y]) xs ys
def notPoly : D → Bool
  | .tuple ds => !polyish ds
  | _ => true
theorem zip_get {xs ys : List D} {i : Nat} {d : D} (h : (zipD xs ys)[i]? = some d) : ∃ x y, xs[i]? = some x ∧ ys[i]? = some y ∧ d = .tuple [x, y] := by
  unfold zipD at h
  rw [List.getElem?_zipWith] at h
  split at h
  · cases h; exact ⟨_, _, by assumption, by assumption, rfl⟩
  · cases h
theorem pair_new {K : PySem.W.Frag} {s0 s1 : S} {T : Addr} {x y : V} {dx dy : D} (np : polyish [dx, dy] = false) (hT : s1.H T = none) (f : Fz s0 s1) (rx : Rep K s0 x dx) (ry : Rep K s0 y dy) :
    ∃ s2 : S, s2.H = upd s1.H T (.tup [x, y]) ∧ Ext fE s1 fE s2 ∧ Rep K s2 (.ref T) (.tuple [dx, dy]) := by
  have e : Ext fE s1 fE ⟨upd s1.H T (.tup [x, y]), fU s1.Z (f1 T)⟩ := Ext.newz hT
  refine ⟨⟨upd s1.H T (.tup [x, y]), fU s1.Z (f1 T)⟩, rfl, e, .tup (.inl ⟨.inr rfl, .inl upd_same⟩) (.cons (Rep.mono (f.trans e.fz) _ _ rx) (.cons (Rep.mono (f.trans e.fz) _ _ ry) .nil)) fun q => nomatch np.symm.trans q⟩
theorem wk_zipL {K : PySem.W.Frag} {s0 : S} {a b : Addr} {vs us : List V} {ds es : List D} (h : LAt K s0 a vs) (r : RepL K s0 vs ds) (h' : LAt K s0 b us) (r' : RepL K s0 us es) (np : ∀ d ∈ zipD ds es, notPoly d = true) : Wk K (Itz K a b) (zipD ds es) s0 := by
  intro i s1 f w
  have h1 := (h.mono f).sq
  have h2 := (h'.mono f).sq
  refine ⟨fun d e => ?_, fun hl => ⟨vs, us, h1, h2, ?_⟩⟩
  · have hnp := np d (List.mem_of_getElem? e)
    obtain ⟨x, y, e1, e2, rfl⟩ := zip_get e
    obtain ⟨v, g1, g2⟩ := r.get' e1
    obtain ⟨u, g3, g4⟩ := r'.get' e2
    refine ⟨⟨vs, us, v, u, h1, h2, g1, g3⟩, fun z H' ⟨T, v', u', e3, e4, e5, e6, e7⟩ => ?_⟩
    subst e3 e5
    have c1 := e6 vs h1
    have c2 := e7 us h2
    rw [g1] at c1; cases c1
    rw [g3] at c2; cases c2
    exact pair_new (by simpa [notPoly] using hnp) e4 f g2 g4
  · unfold zipD at hl
    rw [List.length_zipWith, ← r.length, ← r'.length] at hl
    omega
theorem wk_zipT {K : PySem.W.Frag} {s0 : S} {a b : Addr} {vs us : List V} {ds es : List D} (h : TAt K s0 a vs) (r : RepL K s0 vs ds) (h' : TAt K s0 b us) (r' : RepL K s0 us es) (np : ∀ d ∈ zipD ds es, notPoly d = true) : Wk K (RZ.ItzT K a b) (zipD ds es) s0 := by
  intro i s1 f w
  have h1 := (h.mono f).sq
  have h2 := (h'.mono f).sq
  refine ⟨fun d e => ?_, fun hl => ⟨vs, us, h1, h2, ?_⟩⟩
  · have hnp := np d (List.mem_of_getElem? e)
    obtain ⟨x, y, e1, e2, rfl⟩ := zip_get e
    obtain ⟨v, g1, g2⟩ := r.get' e1
    obtain ⟨u, g3, g4⟩ := r'.get' e2
    refine ⟨⟨vs, us, v, u, h1, h2, g1, g3⟩, fun z H' ⟨T, v', u', e3, e4, e5, e6, e7⟩ => ?_⟩
    subst e3 e5
    have c1 := e6 vs h1
    have c2 := e7 us h2
    rw [g1] at c1; cases c1
    rw [g3] at c2; cases c2
    exact pair_new (by simpa [notPoly] using hnp) e4 f g2 g4
  · unfold zipD at hl
    rw [List.length_zipWith, ← r.length, ← r'.length] at hl
    omega
def enD (xs : List D) : List D := xs.mapIdx fun i x => PyData.tuple [.int (i : Int), x]
theorem en_get {xs : List D} {i : Nat} {d : D} (h : (enD xs)[i]? = some d) : ∃ x, xs[i]? = some x ∧ d = .tuple [.int (i : Int), x] := by
  unfold enD at h
  rw [List.getElem?_mapIdx] at h
  obtain ⟨x, h1, h2⟩ := Option.map_eq_some_iff.mp h
  exact ⟨x, h1, h2.symm⟩
theorem wk_enum {K : PySem.W.Frag} {s0 : S} {a : Addr} {vs : List V} {ds : List D} (h : LAt K s0 a vs) (r : RepL K s0 vs ds) : Wk K (Ite K a) (enD ds) s0 := by
  intro i s1 f w
  have h1 := (h.mono f).sq
  refine ⟨fun d e => ?_, fun hl => ⟨vs, h1, ?_⟩⟩
  · obtain ⟨x, e1, rfl⟩ := en_get e
    obtain ⟨v, g1, g2⟩ := r.get' e1
    refine ⟨⟨vs, v, h1, g1⟩, fun z H' ⟨T, v', e3, e4, e5, e6⟩ => ?_⟩
    subst e3 e5
    have c1 := e6 vs h1
    rw [g1] at c1; cases c1
    exact pair_new rfl e4 f (.int _) g2
  · unfold enD at hl
    rw [List.length_mapIdx, ← r.length] at hl
    exact hl
theorem rev_get {α : Type} {xs : List α} {i : Nat} (h : i < xs.length) : xs.reverse[i]? = xs[xs.length - 1 - i]? := by
  rw [List.getElem?_reverse h]
theorem wk_rev {K : PySem.W.Frag} {s0 : S} {a : Addr} {vs : List V} {ds : List D} (h : LAt K s0 a vs) (r : RepL K s0 vs ds) : Wk K (Itv K a vs.length) ds.reverse s0 := by
  intro i s1 f w
  have h1 := (h.mono f).sq
  have hl' := r.length
  refine ⟨fun d e => ?_, fun hl => show vs.length ≤ i by rw [List.length_reverse] at hl; omega⟩
  have hi : i < ds.length := by
    have := (List.getElem?_eq_some_iff.mp e).1
    rwa [List.length_reverse] at this
  rw [rev_get hi] at e
  obtain ⟨v, g1, g2⟩ := r.get' e
  rw [← hl'] at g1
  refine ⟨⟨by omega, vs, v, h1, g1⟩, fun z H' ⟨e3, e4⟩ => ⟨s1, e3.symm, .refl _ _, ?_⟩⟩
  have c := e4 vs h1
  rw [g1] at c; cases c
  exact Rep.mono f _ _ g2
theorem wk_revT {K : PySem.W.Frag} {s0 : S} {a : Addr} {vs : List V} {ds : List D} (h : TAt K s0 a vs) (r : RepL K s0 vs ds) : Wk K (RT.ItvT K a vs.length) ds.reverse s0 := by
  intro i s1 f w
  have h1 := (h.mono f).sq
  have hl' := r.length
  refine ⟨fun d e => ?_, fun hl => show vs.length ≤ i by rw [List.length_reverse] at hl; omega⟩
  have hi : i < ds.length := by
    have := (List.getElem?_eq_some_iff.mp e).1
    rwa [List.length_reverse] at this
  rw [rev_get hi] at e
  obtain ⟨v, g1, g2⟩ := r.get' e
  rw [← hl'] at g1
  refine ⟨⟨by omega, vs, v, h1, g1⟩, fun z H' ⟨e3, e4⟩ => ⟨s1, e3.symm, .refl _ _, ?_⟩⟩
  have c := e4 vs h1
  rw [g1] at c; cases c
  exact Rep.mono f _ _ g2
def zipO : D → D → Option (List D)
  | .list xs, .list ys => if (zipD xs ys).all notPoly = true then some (zipD xs ys) else none
  | .tuple xs, .tuple ys => if (zipD xs ys).all notPoly = true then some (zipD xs ys) else none
  | _, _ => none
def mZip (ma mb : MD) : MI := fun env => match ma env with
  | none => none
  | some (x, e1) => match mb e1 with
    | none => none
    | some (y, e2) => (zipO x y).map (·, e2)
def mEnum (ma : MD) : MI := fun env => match ma env with
  | some (.list xs, e1) => some (enD xs, e1)
  | _ => none
def revO : D → Option (List D)
  | .list xs => some xs.reverse
  | .tuple xs => some xs.reverse
  | _ => none
def mRev (ma : MD) : MI := fun env => match ma env with
  | none => none
  | some (x, e1) => (revO x).map (·, e1)
section
variable {X : Cx} {fx : List Nat} {a b c e tg : Expr} {es rest elts : List Expr} {pos p p2 apos cpos tpos : Pos} {k kk : Nat} {st : Stmt} {sts : List Stmt}
theorem DI.zip {ma mb : MD} (hg : Gl X "zip") (hm : X.mg "zip" = none) (ha : DF X a ma) (hb : DF X b mb) (hs : starEach [a, b] X.env = (false, eval a X.env) :: starEach [b] X.env := by rfl) (hs2 : starEach [b] X.env = (false, eval b X.env) :: starEach [] X.env := by rfl) (hpl : (backTo pos (starEach [b] X.env)).any (·.1) = false := by rfl) :
    DI X (.Tuple elts kk tpos) (.Call (.Name "zip" p) [a, b] [] pos) (mZip ma mb) := by
  obtain ⟨ta, pa, ra⟩ := ha.run
  obtain ⟨tb, pb, rb⟩ := hb.run
  refine ⟨_, RZ.pi_zipA hg hm (pa_cons pa (pa_cons pb pa_nil hs2) hs) hs hpl, fun σ s env P ds env' a1 a2 a3 R hq => ?_⟩
  unfold mZip at a3
  split at a3
  · cases a3
  rename_i x e1 q1
  split at a3
  · cases a3
  rename_i y e2 q2
  obtain ⟨zs, q3, q4⟩ := Option.map_eq_some_iff.mp a3
  cases q4
  refine ra σ s env P x e1 a1 a2 q1 _ fun v1 s1 P1 b1 b2 b3 b4 => ?_
  refine rb σ s1 e1 P1 y _ b1 b3 q2 _ fun v2 s2 P2 c1 c2 c3 c4 => ?_
  have b2' := Rep.mono c4.fz _ _ b2
  unfold zipO at q3
  split at q3
  · split at q3
    · rename_i np
      cases q3
      cases b2' with
      | lst h1 h2 =>
        cases c2 with
        | lst h3 h4 => exact ⟨_, _, _, _, rfl, .inl ⟨h1.sq, h3.sq, hq _ s2 P2 c1 c3 (b4.trans c4) (wk_zipL h1 h2 h3 h4 (List.all_eq_true.mp np))⟩⟩
    · cases q3
  · split at q3
    · rename_i np
      cases q3
      cases b2' with
      | tup h1 h2 _ =>
        cases c2 with
        | tup h3 h4 _ => exact ⟨_, _, _, _, rfl, .inr ⟨h1.sq, h3.sq, hq _ s2 P2 c1 c3 (b4.trans c4) (wk_zipT h1 h2 h3 h4 (List.all_eq_true.mp np))⟩⟩
    · cases q3
  · cases q3
theorem DI.enum {ma : MD} (hg : Gl X "enumerate") (hm : X.mg "enumerate" = none) (ha : DF X a ma) (hs : starEach [a] X.env = [(false, eval a X.env)] := by rfl) :
    DI X (.Tuple elts kk tpos) (.Call (.Name "enumerate" p) [a] [] pos) (mEnum ma) := by
  obtain ⟨ta, pa, ra⟩ := ha.run
  refine ⟨_, pi_enum hg hm (pa_cons pa pa_nil hs) hs, fun σ s env P ds env' a1 a2 a3 R hq => ?_⟩
  unfold mEnum at a3
  split at a3
  · rename_i xs e1 q1
    cases a3
    refine ra σ s env P _ _ a1 a2 q1 _ fun v1 s1 P1 b1 b2 b3 b4 => ?_
    cases b2 with
    | lst h1 h2 => exact ⟨_, _, rfl, h1.sq, hq _ s1 P1 b1 b3 b4 (wk_enum h1 h2)⟩
  · cases a3
theorem DI.rev {ma : MD} (hg : Gl X "reversed") (hm : X.mg "reversed" = none) (ha : DF X a ma) (hs : starEach [a] X.env = (false, eval a X.env) :: starEach [] X.env := by rfl) :
    DI X tg (.Call (.Name "reversed" p) [a] [] pos) (mRev ma) := by
  obtain ⟨ta, pa, ra⟩ := ha.run
  refine ⟨_, RT.pi_revA hg hm pa hs, fun σ s env P ds env' a1 a2 a3 R hq => ?_⟩
  unfold mRev at a3
  split at a3
  · cases a3
  rename_i x e1 q1
  obtain ⟨zs, q3, q4⟩ := Option.map_eq_some_iff.mp a3
  cases q4
  refine ra σ s env P _ _ a1 a2 q1 _ fun v1 s1 P1 b1 b2 b3 b4 => ?_
  unfold revO at q3
  split at q3
  · cases q3
    cases b2 with
    | lst h1 h2 => exact ⟨_, _, rfl, .inl ⟨h1.sq, hq _ s1 P1 b1 b3 b4 (wk_rev h1 h2)⟩⟩
  · cases q3
    cases b2 with
    | tup h1 h2 _ => exact ⟨_, _, rfl, .inr ⟨h1.sq, hq _ s1 P1 b1 b3 b4 (wk_revT h1 h2)⟩⟩
  · cases q3
end
end G
namespace G
open PySem PySem.Spec PyProof.Rows L2

/-- a def of which nothing is asked: the ground of a recursion -/
theorem okNever {P : Program} {w : World} {K : PySem.W.Frag} {mg : Str → Option Value} {base : Heap} {x qual : Str} {st : Stmt} {f : Addr} {fd : FuncData} {N ps : List Str} {k : Nat} (F : Fun K x qual st f fd) (sc : FnScope N ps (defScope st)) :
    FnG P w K mg base (k + 1) f fd ps (FnD K ps.length (fun _ => none)) := by
  refine okG F sc (fun vs H Q E h => ?_) fun cdv A fr s H vs Q E hr hg h => ?_
  · obtain ⟨Z, P, os, o, outs, hl, _⟩ := h; exact hl
  · obtain ⟨Z, Pf, os, o, outs, hl, ro, ow, hm, post⟩ := h
    cases hm
end G
namespace G
open PySem PySem.Spec PyProof.Rows L2

/-! ### f(a = x, b = y): keywords alone -/
structure DK (X : Cx) (kws : List Keyword) (m : MA) : Prop where
  run : ∃ t, PK X kws t ∧ ∀ σ s env P as env', EnvOk X.K s σ env P → Own P s → m env = some (as, env') → ∀ Q, PostA X.K σ s P as env' Q → t σ s.H Q
section
variable {X : Cx} {e : Expr} {kws : List Keyword} {nm : Option Str} {kpos : Pos}
theorem DK.nil : DK X [] mNil := ⟨tNil, pk_nil, fun σ s env P as env' he hw hm Q hq => by
  cases hm
  exact hq [] s P fE he .nil (fun _ _ z => z) (by rw [fU_eq]; exact hw) (by rw [fU_eq]; exact .refl _ _)⟩
theorem DK.cons {m : MV} {r : MA} (h : DV X e m) (hr : DK X kws r) : DK X (⟨nm, e, kpos⟩ :: kws) (mCons m r) := by
  obtain ⟨t, hp, h1⟩ := h.run
  obtain ⟨ts, hpk, h2⟩ := hr.run
  refine ⟨tCons t ts, pk_cons hp hpk, fun σ s env P as env' he hw hm Q hq => ?_⟩
  unfold mCons at hm
  split at hm
  · cases hm
  · rename_i a e1 q1
    split at hm
    · cases hm
    · rename_i as' e2 q2
      cases hm
      refine h1 σ s env P a e1 he hw q1 _ fun v s1 P1 R1 a1 a2 a3 a4 a5 => ?_
      refine h2 σ s1 e1 P1 as' _ a1 (a4.sub fun _ z => .inl z) q2 _ fun vs s2 P2 R2 b1 b2 b3 b4 b5 => ?_
      have o1 : Own R1 s1 := a4.sub fun _ z => .inr z
      have k := b5.kp a3 o1
      have d1 : Dis (fU P2 R2) R1 := b5.disR a3 o1
      have ow := b5.ownR a3 o1
      refine hq (v :: vs) s2 P2 (fU R1 R2) b1 ((a2.mono k).app1 b2 fun x z w => d1 x (.inr w) z) (fun x z w => w.elim (fun w => d1 x (.inl z) w) fun w => b3 x z w) ((b4.or ow).sub fun x z => ?_) ?_
      · rcases z with z | z | z
        · exact .inl (.inl z)
        · exact .inr z
        · exact .inl (.inr z)
      · refine (a5.trans b5.frame).sub fun x z => ?_
        rcases z with z | z | z
        · exact .inl (.inl z)
        · exact .inr z
        · exact .inl (.inr z)
end
def pickA {α : Type} (ix : List Nat) (xs : List α) : List α := ix.filterMap fun i => xs[i]?
theorem vals_get : ∀ {vs : List V} {us : List Value}, Vals vs us → ∀ i : Nat, (vs[i]? = none ∧ us[i]? = none) ∨ ∃ v u, vs[i]? = some v ∧ us[i]? = some u ∧ RelV v u
  | _, _, .nil, i => .inl ⟨by simp, by simp⟩
  | _, _, .cons r t, 0 => .inr ⟨_, _, rfl, rfl, r⟩
  | _, _, .cons r t, i + 1 => by simpa using vals_get t i
theorem pick_vals {vs : List V} {us : List Value} (h : Vals vs us) : ∀ ix : List Nat, Vals (pickA ix vs) (pickA ix us)
  | [] => .nil
  | i :: ix => by
    unfold pickA
    rw [List.filterMap_cons, List.filterMap_cons]
    rcases vals_get h i with ⟨a, b⟩ | ⟨v, u, a, b, r⟩
    · rw [a, b]; exact pick_vals h ix
    · rw [a, b]; exact .cons r (pick_vals h ix)
theorem repl_get : ∀ {K : PySem.W.Frag} {s : S} {vs : List V} {ds : List D}, RepL K s vs ds → ∀ i : Nat, (vs[i]? = none ∧ ds[i]? = none) ∨ ∃ v d, vs[i]? = some v ∧ ds[i]? = some d ∧ Rep K s v d
  | _, _, _, _, .nil, i => .inl ⟨by simp, by simp⟩
  | _, _, _, _, .cons r t, 0 => .inr ⟨_, _, rfl, rfl, r⟩
  | _, _, _, _, .cons r t, i + 1 => by simpa using repl_get t i
theorem pick_repl {K : PySem.W.Frag} {s : S} {vs : List V} {ds : List D} (h : RepL K s vs ds) : ∀ ix : List Nat, RepL K s (pickA ix vs) (pickA ix ds)
  | [] => .nil
  | i :: ix => by
    unfold pickA
    rw [List.filterMap_cons, List.filterMap_cons]
    rcases repl_get h i with ⟨a, b⟩ | ⟨v, d, a, b, r⟩
    · rw [a, b]; exact pick_repl h ix
    · rw [a, b]; exact .cons r (pick_repl h ix)
def KB (K : PySem.W.Frag) (fd : FuncData) (ps ks : List Str) (ix : List Nat) : Prop :=
  ∀ (s : Shared) (ws : List Value), K.In s.heap → (pickA ix ws).length = ps.length → BindsTo s fd ⟨[], ks.zip ws⟩ (ps.zip (pickA ix ws))
theorem kb_of {K : PySem.W.Frag} {x qual : Str} {st : Stmt} {f : Addr} {fd : FuncData} {ps ks : List Str} {ix : List Nat} (F : Fun K x qual st f fd)
    (h : ∀ (kV doc pm : Value) (an : Option Addr) (cdv ct : Value) (ws : List Value), (pickA ix ws).length = ps.length → bindArgs (PySem.W.fnOf x qual (defArgs st) (defBody st) (defScope st) .none kV doc pm an cdv ct) ⟨[], ks.zip ws⟩ = pure (ps.zip (pickA ix ws))) : KB K fd ps ks ix := by
  obtain ⟨oc, od, kV, doc, pm, an, cdv, ct, osl, rfl, lk, hcd⟩ := F.ex
  exact fun s ws _ hl => .of_eq (h kV doc pm an cdv ct ws hl)
theorem repOs_fz {K : PySem.W.Frag} {s : S} : ∀ {vs : List V} {ds : List D}, RepL K s vs ds → RepOs K s (ds.map OV.fz) vs fE
  | _, _, .nil => .nil
  | _, _, .cons r t => by
    have h : RepOs K s (_ :: _) (_ :: _) (fU fE fE) := .cons (.fz r) (repOs_fz t) fun _ z => z.elim
    rw [fU_eq] at h
    exact h
def mCallK (ix : List Nat) (m : MF) (ma : MA) : ME := fun env => match ma env with
  | none => none
  | some (as, e1) => match frzA e1 as with
    | none => none
    | some (ds, e2) => match m ((pickA ix ds).map OV.fz) with
      | none => none
      | some (o, _) => some (o, e2)
theorem DE.callK {X : Cx} {x : Str} {p pos : Pos} {kws : List Keyword} {k n : Nat} {f : Addr} {fd : FuncData} {ps ks : List Str} {ix : List Nat} {m : MF} {ma : MA} (F : FnG X.prog X.w X.K X.mg X.base k f fd ps (FnD X.K n m)) (hr : Room k X.A) (hgd : X.A.guards = some [])
    (hg : Gl X x) (hm : X.mg x = some (.ref f)) (hk : PySem.W.keepIn X.K (.ref f) = true) (hb : KB X.K fd ps ks ix) (hn : ∀ os r, m os = some r → os.length = n) (ha : DK X kws ma) (hdb : (x == ("__debug__" : Str)) = false := by decide)
    (hall : (backToKw pos (keywordEach kws X.env)).all (·.1.isSome) = true := by rfl) (hks : (backToKw pos (keywordEach kws X.env)).filterMap (·.1) = ks := by rfl)
    (hpl : ((backTo pos (starEach [] X.env)).any (·.1) || (backToKw pos (keywordEach kws X.env)).any (·.1.isNone)) = false := by rfl) : DE X (.Call (.Name x p) [] kws pos) (mCallK ix m ma) := by
  obtain ⟨t, hp, hrun⟩ := ha.run
  refine ⟨fun σ H Q => t σ H fun vs H1 => FnD X.K n m (pickA ix vs) H1 Q E0, ⟨fun pins s σ H Q I h => ?_⟩, fun σ s env P o env' h1 h2 h3 Q hq => ?_⟩
  · refine wpAny_Call_Name_kw (ld_glob I hg hm ?_ hdb)
    refine PySem.W.callWith_KW0 (h₀ := X.base) I.ok.mod.kin hk hall (thn (hp.run pos pins s σ H _ I h) fun ws s1 ⟨zs, H1, I1, rz, q⟩ => ⟨I1.kIn, ?_⟩) hpl
    rw [hks]
    have rv := pick_vals rz ix
    have hl : (pickA ix ws).length = ps.length := by rw [← rv.length]; exact F.len _ _ _ _ q
    have bd := hb s1 ws I1.kIn hl
    refine wpAny_call (codeAny_mono (F.run X.A X.stack s1 H1 _ _ _ Q E0 hr hgd I1.env0 bd rv q) fun rs s' z => ?_)
    cases rs with
    | error e => exact False.elim z
    | ok fl =>
      cases fl with
      | ret u => exact I1.after z
      | next => exact False.elim z
      | brk => exact False.elim z
      | cont => exact False.elim z
  · unfold mCallK at h3
    split at h3
    · cases h3
    · rename_i as e1 q1
      split at h3
      · cases h3
      · rename_i ds e2 q2
        split at h3
        · cases h3
        · rename_i o' outs q3
          cases h3
          refine hrun σ s env P as e1 h1 h2 q1 _ fun vs s1 P1 R b1 b2 b3 b4 b5 => ?_
          obtain ⟨s2, P2, c1, c2, c3, c4, c5⟩ := frzA_ok b2 b1 b3 b4 q2
          have rp := pick_repl c3 ix
          have ro := repOs_fz rp
          rw [← c1]
          refine ⟨s2.Z, fE, _, o, outs, by rw [ro.len]; exact hn _ _ q3, ro, ⟨fun _ z => z.elim, c4.w⟩, q3, fun v s' P' R' d1 d2 d3 d4 d5 => ?_⟩
          have dE : Dis fE P2 := fun _ z => z.elim
          refine hq v s' P2 R' (c2.mono (d5.kp dE c4)) d2 (fun a z y => d5.disR dE c4 a (.inr y) z) (((d5.ownR dE c4).or d4).sub fun a z => z.elim .inl fun z => .inr (.inr z)) ?_
          have f := (d5.frame (R := P2)).wide (R := P2) fun a z => z.resolve_left fun w => w
          exact ((b5.trans c5).trans f).sub fun a z => z.elim .inr fun z => .inl (.inr z)
end G
namespace G
open PySem PySem.Spec PyProof.Rows L2

/-! ### data in order: <, min(.., default=..), sorted -/
def rLtD (K : PySem.W.Frag) : R2 := fun x y H Q => ∃ dx dy : D, Dp K H x dx ∧ Dp K H y dy ∧ PySem.W.alike dx dy = true ∧ dx ≠ .none ∧ dx.depth ≤ 60 ∧ Q (.bl (PySem.W.dataLt dx dy)) H
theorem op_ltD {X : Cx} {k : Nat} (hr : Room k X.A) : OpR X (compareOp .Lt) (rLtD X.K) := by
  intro pins s σ H x y v u Q I rx ry h
  obtain ⟨dx, dy, h1, h2, al, hn, hd, q⟩ := h
  obtain ⟨as, ra⟩ := Dp.reads I dx x v h1 rx
  obtain ⟨bs, rb⟩ := Dp.reads I dy y u h2 ry
  exact PySem.W.lt_data ra rb al hn (by have := hr.units; omega) ⟨.bl _, H, I, rfl, q⟩
def nnD : D → Bool
  | .none => false
  | _ => true
theorem nnD_ne {d : D} (h : nnD d = true) : d ≠ .none := by rintro rfl; cases h
def fLtD : OV → OV → Option OV := fun a b => match a.flat?, b.flat? with
  | some x, some y => if PySem.W.alike x y && nnD x && decide (x.depth ≤ 60) then some (.fz (.bool (PySem.W.dataLt x y))) else none
  | _, _ => none
theorem p_ltD {K : PySem.W.Frag} : P2 K (rLtD K) fLtD := by
  intro s a v P b u R o w ra rb e Q hq
  unfold fLtD at e
  split at e
  · rename_i x y e1 e2
    split at e
    · rename_i c
      cases e
      simp only [Bool.and_eq_true, decide_eq_true_eq] at c
      exact ⟨x, y, (ra.dp e1).1, (rb.dp e2).1, c.1.1, nnD_ne c.1.2, c.2, hq.bl w⟩
    · cases e
  · cases e
section
variable {X : Cx} {a b c e : Expr} {es rest : List Expr} {pos p : Pos} {k : Nat}
theorem DE.ltD {m : MA} (hr : Room k X.A) (h : DA X [a, b] m) : DE X (.Compare a [.Lt] [b] pos) (mOp (l2 fLtD) m) := .cmp (op_ltD hr) p_ltD (nomark _) h
theorem DT.ltD {m : MA} (hr : Room k X.A) (h : DA X [a, b] m) : DT X (.Compare a [.Lt] [b] pos) (mBl (mOp (l2 fLtD) m)) := .cmp (op_ltD hr) p_ltD (nomark _) h
end
/-! min(xs, default=z) -/
def alikeC (ds : List D) : Bool := (ds.all fun x => ds.all fun y => PySem.W.alike x y) && ds.all nnD
theorem alikeC_ok {ds : List D} (h : alikeC ds = true) : PySem.W.AlikeAll ds := by
  unfold alikeC at h
  simp only [Bool.and_eq_true, List.all_eq_true] at h
  exact ⟨h.1, fun x hx => nnD_ne (h.2 x hx)⟩
theorem minD_mem (x : D) (xs : List D) : PySem.W.minD x xs ∈ x :: xs := by
  unfold PySem.W.minD
  induction xs generalizing x with
  | nil => exact List.mem_cons_self
  | cons y ys ih =>
    rw [List.foldl_cons]
    have h := ih (if PySem.W.dataLt y x = true then y else x)
    rcases List.mem_cons.mp h with h | h
    · rw [h]
      split
      · simp
      · simp
    · exact List.mem_cons_of_mem _ (List.mem_cons_of_mem _ h)
def rMinDef (K : PySem.W.Frag) : List V → List V → Hp → VK → Prop := fun vs zs H Q => ∃ (a : Addr) (xs : List V) (ds : List D) (z : V), vs = [.ref a] ∧ zs = [z] ∧ SqL K H a xs ∧ DpAll K H xs ds ∧ PySem.W.AlikeAll ds ∧ PyData.depthAll ds ≤ 60 ∧
  (ds = [] → Q z H) ∧ ∀ y ys (i : Nat) v, ds = y :: ys → xs[i]? = some v → ds[i]? = some (PySem.W.minD y ys) → Q v H
theorem readsAll_get {h : Heap} : ∀ {us : List Value} {ds : List D} {as : List Addr}, ReadsAll h us ds as → ∀ {i : Nat} {u : Value}, us[i]? = some u → ∃ d bs, ds[i]? = some d ∧ Reads h u d bs
  | _, _, _, .nil, _, _, e => by simp at e
  | _, _, _, .cons r t, 0, _, e => by simp at e; subst e; exact ⟨_, _, rfl, r⟩
  | _, _, _, .cons r t, i + 1, _, e => by simpa using readsAll_get t (by simpa using e)
theorem vals_get' {xs : List V} {us : List Value} (r : Vals xs us) {i : Nat} {u : Value} (e : us[i]? = some u) : ∃ x, xs[i]? = some x ∧ RelV x u := by
  have hl := r.length
  have hi : i < us.length := (List.getElem?_eq_some_iff.mp e).1
  have ex : xs[i]? = some (xs[i]'(by omega)) := List.getElem?_eq_getElem (by omega)
  obtain ⟨u', e', r'⟩ := r.get ex
  rw [e] at e'; cases e'
  exact ⟨_, ex, r'⟩
theorem cr_minDef {X : Cx} {k : Nat} (hc : X.calm = true) (hr : Room k X.A) : CallRK X (.builtin "min") [Str.ofString "default"] (rMinDef X.K) := by
  intro pins s σ H vs zs us ws Q I r rz h
  obtain ⟨a, xs, ds, z, rfl, rfl, hs, hd, ha, hdep, q0, q1⟩ := h
  obtain rfl := Vals.ref1 r
  obtain ⟨w1, rfl, e1⟩ := vals1 rz
  obtain ⟨its, rv, pl, hz⟩ := I.list hs
  obtain ⟨as, ra⟩ := Dp.readsAll I ds xs its hd rv
  have hu := hr.units
  refine PySem.W.min_list_default (vs := its.toArray) (I.ok.hd hc) pl.isList ra ha (by omega) (fun e h' tk kp => ?_) fun y ys i v h' tk bs e hv hrd kp => ?_
  · exact ⟨z, H, I.kept kp, e1, q0 e⟩
  · have hv' : its[i]? = some v := by simpa using hv
    obtain ⟨x, ex, rx⟩ := vals_get' rv hv'
    obtain ⟨d, bs', ed, rd⟩ := readsAll_get ra hv'
    have hmd : d ∈ ds := List.mem_of_getElem? ed
    have hmm : PySem.W.minD y ys ∈ ds := by rw [e]; exact minD_mem y ys
    have : d = PySem.W.minD y ys := PySem.W.alike_unique d _ v bs' bs (ha.1 d hmd _ hmm) (PyProof.Rows.Reads.keeps kp rd) hrd
    subst this
    exact ⟨x, H, I.kept kp, rx, q1 y ys i x e ex ed⟩
def fMinDef : OV → OV → Option OV := fun a z => match a.lst? with
  | some ds => if alikeC ds && !PyData.hasDictAll ds && decide (PyData.depthAll ds ≤ 60) then (match ds, z with
    | [], .fz d => some (.fz d)
    | y :: ys, .fz _ => some (.fz (PySem.W.minD y ys))
    | _, _ => none) else none
  | none => none
theorem p_minDef {K : PySem.W.Frag} : P2 K (fun u v H Q => rMinDef K [u] [v] H Q) fMinDef := by
  intro s a v P b u R o w ra rb e Q hq
  unfold fMinDef at e
  split at e
  · rename_i ds e1
    split at e
    · rename_i c
      simp only [Bool.and_eq_true, decide_eq_true_eq, Bool.not_eq_true'] at c
      obtain ⟨l, xs, rfl, h1, h2⟩ := ra.lst e1
      have hdp : DpAll K s.H xs ds := RepL.dp _ _ h2 c.1.2
      cases b with
      | fz d =>
        cases ds with
        | nil =>
          cases e
          refine ⟨l, xs, [], u, rfl, rfl, h1, hdp, alikeC_ok c.1.1, c.2, fun _ => ?_, fun y ys i v q => by cases q⟩
          cases rb with
          | fz rb => exact hq.fz w rb
        | cons y ys =>
          cases e
          refine ⟨l, xs, y :: ys, u, rfl, rfl, h1, hdp, alikeC_ok c.1.1, c.2, fun q => (by cases q), fun y' ys' i v q ex ed => ?_⟩
          cases q
          obtain ⟨d, ed', rd⟩ := h2.get ex
          rw [ed] at ed'; cases ed'
          exact hq.fz w rd
      | _ => cases ds <;> cases e
    · cases e
  · cases e
theorem boot_min3 : bootBuiltins "min" = some (.builtin "min") := by decide +kernel
theorem DE.minDef {X : Cx} {a b : Expr} {pos p kp : Pos} {k : Nat} {m : MA} (hc : X.calm = true) (hr : Room k X.A) (hg : Gl X "min") (hm : X.mg "min" = none) (h : DA X [a, b] m)
    (he : backTo pos (starEach [a] X.env) = (false, eval a X.env) :: backTo pos (starEach [] X.env) := by rfl) (hpl : (backTo pos (starEach [a] X.env)).any (·.1) = false := by rfl) (hs : starEach [a] X.env = (false, eval a X.env) :: starEach [] X.env := by rfl)
    (hall : (backToKw pos (keywordEach [⟨some (Str.ofString "default"), b, kp⟩] X.env)).all (·.1.isSome) = true := by rfl) (hnone : (backToKw pos (keywordEach [⟨some (Str.ofString "default"), b, kp⟩] X.env)).any (·.1.isNone) = false := by rfl) (hks : (backToKw pos (keywordEach [⟨some (Str.ofString "default"), b, kp⟩] X.env)).filterMap (·.1) = [Str.ofString "default"] := by rfl) :
    DE X (.Call (.Name "min" p) [a] [⟨some (Str.ofString "default"), b, kp⟩] pos) (mOp (l2 fMinDef) m) := by
  obtain ⟨ts, h1, h2, h3⟩ := h.run
  obtain ⟨ta, tb, rfl, pa, pb⟩ := h1.two (es := [])
  refine ⟨_, pe_callBK (cr_minDef hc hr) hg hm boot_min3 (pa_cons pa pa_nil hs) (pk_cons pb pk_nil) (by decide) (by decide) he hpl hall hnone hks, fun σ s env P o env' a1 a2 a3 Q hq => ?_⟩
  obtain ⟨as, os, q1, q2, q3⟩ := mOp_some a3
  exact h3 σ s env P as env' a1 a2 q1 _ (p_minDef.pure.post q2 q3 hq)
/-! sorted(xs) of data -/
def rSortD (K : PySem.W.Frag) : V → Hp → VK → Prop := fun x H Q => ∃ (a : Addr) (xs : List V) (ds : List D), x = .ref a ∧ SqL K H a xs ∧ DpAll K H xs ds ∧ xs.length = ds.length ∧ PySem.W.AllAlike ds ∧ PySem.W.Sortable ds ∧ PyData.depthAll ds ≤ 60 ∧
  ∀ p, H p = none → Q (.ref p) (upd H p (.lst (((xs.zip ds).mergeSort (PySem.W.dataLe false Prod.snd)).map Prod.fst)))
theorem each_vals : ∀ {xs : List V} {us : List Value} {ds : List D}, Vals xs us → xs.length = ds.length → PySem.W.EachIs (fun (v : Value) (b : V × D) => RelV b.1 v) us (xs.zip ds)
  | _, _, [], .nil, _ => .nil
  | _, _, d :: ds, .cons r t, h => .cons r (each_vals t (by simpa using h))
  | _, _, [], .cons r t, h => by simp at h
  | _, _, d :: ds, .nil, h => by simp at h
theorem each_reads {h : Heap} : ∀ {xs : List V} {us : List Value} {ds : List D} {as : List Addr}, ReadsAll h us ds as → xs.length = ds.length → PySem.W.EachIs (fun (v : Value) (b : V × D) => ∃ as, Reads h v b.2 as) us (xs.zip ds)
  | [], _, _, _, .nil, _ => .nil
  | x :: xs, _, _, _, .cons r t, hl => .cons ⟨_, r⟩ (each_reads t (by simpa using hl))
  | [], _, _, _, .cons r t, hl => by simp at hl
  | x :: xs, _, _, _, .nil, hl => by simp at hl
theorem vals_each : ∀ {us : List Value} {bs : List (V × D)}, PySem.W.EachIs (fun (v : Value) (b : V × D) => RelV b.1 v) us bs → Vals (bs.map Prod.fst) us
  | _, _, .nil => .nil
  | _, _, .cons r t => .cons r (vals_each t)
theorem depthAll_mem : ∀ {ds : List D} {d : D}, d ∈ ds → d.depth ≤ PyData.depthAll ds
  | e :: ds, d, h => by
    rw [PyData.depthAll]
    rcases List.mem_cons.mp h with rfl | h
    · exact Nat.le_max_left _ _
    · exact Nat.le_trans (depthAll_mem h) (Nat.le_max_right _ _)
theorem call_sortD {X : Cx} {k : Nat} (hr : Room k X.A) : CallR X (.builtin "sorted") (lift1 (rSortD X.K)) := by
  intro pins s σ H xs us Q I r h
  match xs, h with
  | [x], h =>
    obtain ⟨a, ys, ds, rfl, hs, hd, hl, hal, hso, hdep, q⟩ := h
    obtain ⟨u, rfl, rx⟩ := vals1 r
    cases rx
    obtain ⟨its, rv, pl, hz⟩ := I.list hs
    obtain ⟨as, ra⟩ := Dp.readsAll I ds ys its hd rv
    have hsnd : (ys.zip ds).map Prod.snd = ds := List.map_snd_zip (by omega)
    have hu := hr.units
    refine PySem.W.sorted_data (vs := its) (bs := ys.zip ds) (enc := Prod.snd) (R := fun (v : Value) (b : V × D) => RelV b.1 v) pl.isList (each_vals rv hl) (each_reads ra hl) (by rw [hsnd]; exact hal) (by rw [hsnd]; exact hso) (by rw [List.length_zip]; omega) (fun b hb => ?_) fun out ho eo => ?_
    · have : b.2 ∈ ds := by rw [← hsnd]; exact List.mem_map_of_mem hb
      have := depthAll_mem this
      omega
    · have rv2 := vals_each eo
      obtain ⟨ep, he'⟩ := PyProof.Rows.sortedAll_at s.heap its out.toArray
      have hlen : (((ys.zip ds).mergeSort (PySem.W.dataLe false Prod.snd)).map Prod.fst).length ≤ sizeLine := by
        rw [List.length_map, List.length_mergeSort, List.length_zip]; omega
      exact ⟨.ref _, upd H (s.heap.objs.size + 1) (.lst (((ys.zip ds).mergeSort (PySem.W.dataLe false Prod.snd)).map Prod.fst)), I.laid (t' := s.toks) (fun _ _ => PyProof.Rows.sortedAll_old) (Nat.le_succ _) ⟨hlen, _, ep, rv2, by simpa using he'⟩, rfl, q _ (I.hok.fresh (Nat.le_succ _))⟩
def tupCons : D → Bool
  | .tuple (_ :: _) => true
  | _ => false
def notTup : D → Bool
  | .tuple _ => false
  | .none => false
  | _ => true
def sortD (ds : List D) : List D := ds.mergeSort (PySem.W.dataLe false id)
def fSortD : OV → Option OV := fun o => match o.lst? with
  | some ds => if (ds.all fun x => ds.all fun y => PySem.W.alike x y) && (ds.all tupCons || ds.all notTup) && !PyData.hasDictAll ds && decide (PyData.depthAll ds ≤ 60) then some (.oL (sortD ds)) else none
  | none => none
theorem repl_zip {K : PySem.W.Frag} {s : S} : ∀ {xs : List V} {ds : List D}, RepL K s xs ds → ∀ b ∈ xs.zip ds, Rep K s b.1 b.2
  | _, _, .nil, b, hb => by cases hb
  | _, _, .cons h t, b, hb => by
    rcases List.mem_cons.mp hb with rfl | hb
    · exact h
    · exact repl_zip t b hb
theorem repl_of_zip {K : PySem.W.Frag} {s : S} : ∀ {bs : List (V × D)}, (∀ b ∈ bs, Rep K s b.1 b.2) → RepL K s (bs.map Prod.fst) (bs.map Prod.snd)
  | [], _ => .nil
  | b :: bs, h => .cons (h b (by simp)) (repl_of_zip fun c hc => h c (by simp [hc]))
theorem sort_snd (xs : List V) (ds : List D) (h : xs.length = ds.length) : ((xs.zip ds).mergeSort (PySem.W.dataLe false Prod.snd)).map Prod.snd = sortD ds := by
  have hsnd : (xs.zip ds).map Prod.snd = ds := List.map_snd_zip (by omega)
  unfold sortD
  have := List.map_mergeSort (l := xs.zip ds) (f := Prod.snd) (r := PySem.W.dataLe false Prod.snd) (s := PySem.W.dataLe false id) (fun a _ b _ => rfl)
  rw [hsnd] at this
  exact this
theorem p_sortD {K : PySem.W.Frag} : P1 K (rSortD K) fSortD := by
  intro s a v P o w ra e Q hq
  unfold fSortD at e
  split at e
  · rename_i ds e1
    split at e
    · rename_i c
      cases e
      simp only [Bool.and_eq_true, decide_eq_true_eq, Bool.not_eq_true', Bool.or_eq_true, List.all_eq_true] at c
      obtain ⟨l, xs, rfl, h1, h2⟩ := ra.lst e1
      have hl := h2.length
      refine ⟨l, xs, ds, rfl, h1, RepL.dp _ _ h2 c.1.2, hl, c.1.1.1, ?_, c.2, fun p hp => ?_⟩
      · rcases c.1.1.2 with z | z
        · refine .inl fun d hd => ?_
          have := z d hd
          unfold tupCons at this
          split at this
          · exact ⟨_, _, rfl⟩
          · cases this
        · refine .inr fun d hd => ?_
          have := z d hd
          unfold notTup at this
          split at this
          · cases this
          · cases this
          · rename_i h3 h4
            exact ⟨fun q => h4 q, fun xs q => h3 xs q⟩
      · have hr : RepL K s (((xs.zip ds).mergeSort (PySem.W.dataLe false Prod.snd)).map Prod.fst) (sortD ds) := by
          rw [← sort_snd xs ds hl]
          exact repl_of_zip fun b hb => repl_zip h2 b ((List.mergeSort_perm _ _).mem_iff.mp hb)
        exact hq.newL w hr hp
    · cases e
  · cases e
theorem boot_sorted3 : bootBuiltins "sorted" = some (.builtin "sorted") := by decide +kernel
theorem DE.sortD {X : Cx} {a : Expr} {pos p : Pos} {k : Nat} {m : MA} (hr : Room k X.A) (hg : Gl X "sorted") (hm : X.mg "sorted" = none) (h : DA X [a] m) (he : starEach [a] X.env = (false, eval a X.env) :: starEach [] X.env := by rfl) : DE X (.Call (.Name "sorted" p) [a] [] pos) (mOp (l1 fSortD) m) :=
  .callB (call_sortD hr) p_sortD.pure hg hm boot_sorted3 h (by decide) (by decide) he rfl
end G
namespace G
open PySem PySem.Spec PyProof.Rows L2

/-! ### repr of data with dicts (and no lists) -/
mutual
inductive Dq (K : PySem.W.Frag) (H : Hp) : V → D → Prop
  | non : Dq K H .non .none
  | bl (b : Bool) : Dq K H (.bl b) (.bool b)
  | int (i : Int) : Dq K H (.int i) (.int i)
  | str (x : Str) : Dq K H (.str x) (.str x)
  | tup {a : Addr} {xs : List V} {ds : List D} : SqT K H a xs → DqAll K H xs ds → Dq K H (.ref a) (.tuple ds)
  | dic {a : Addr} {kvs : List (Key × V)} {ds : List D} : Rd H a (.dK kvs) → DqAll K H (kvs.map (·.2)) ds → Dq K H (.ref a) (.dict ((kvs.map fun p => kD p.1).zip ds))
inductive DqAll (K : PySem.W.Frag) (H : Hp) : List V → List D → Prop
  | nil : DqAll K H [] []
  | cons {v : V} {vs : List V} {d : D} {ds : List D} : Dq K H v d → DqAll K H vs ds → DqAll K H (v :: vs) (d :: ds)
end
mutual
def noL : D → Bool
  | .list _ => false
  | .tuple ds => noLs ds
  | .dict es => noLk es
  | _ => true
def noLs : List D → Bool
  | [] => true
  | d :: ds => noL d && noLs ds
def noLk : List (D × D) → Bool
  | [] => true
  | (_, d) :: es => noL d && noLk es
end
theorem DqAll.len {K : PySem.W.Frag} {H : Hp} : ∀ {vs : List V} {ds : List D}, DqAll K H vs ds → vs.length = ds.length
  | _, _, .nil => rfl
  | _, _, .cons _ t => by simp [t.len]
mutual
theorem Rep.dq {K : PySem.W.Frag} {s : S} : ∀ (d : D) (v : V), Rep K s v d → noL d = true → Dq K s.H v d
  | .none, _, h, _ => by cases h; exact .non
  | .bool _, _, h, _ => by cases h; exact .bl _
  | .int _, _, h, _ => by cases h; exact .int _
  | .str _, _, h, _ => by cases h; exact .str _
  | .list ds, _, h, q => by simp [noL] at q
  | .tuple ds, _, h, q => by
    cases h with
    | tup h1 h2 _ => exact .tup h1.sq (RepL.dq ds _ h2 (by simpa [noL] using q))
  | .dict es, _, h, q => by
    cases h with
    | dic h1 h2 h3 =>
      obtain ⟨ds, e1, e2⟩ := RepK.dq es _ h3 (by simpa [noL] using q)
      rw [e1]
      exact .dic h2 e2
theorem RepL.dq {K : PySem.W.Frag} {s : S} : ∀ (ds : List D) (vs : List V), RepL K s vs ds → noLs ds = true → DqAll K s.H vs ds
  | [], _, h, _ => by cases h; exact .nil
  | d :: ds, _, h, q => by
    cases h with
    | cons h1 h2 =>
      simp only [noLs, Bool.and_eq_true] at q
      exact .cons (Rep.dq d _ h1 q.1) (RepL.dq ds _ h2 q.2)
theorem RepK.dq {K : PySem.W.Frag} {s : S} : ∀ (es : List (D × D)) (kvs : List (Key × V)), RepK K s kvs es → noLk es = true → ∃ ds, es = (kvs.map fun p => kD p.1).zip ds ∧ DqAll K s.H (kvs.map (·.2)) ds
  | [], _, h, _ => by cases h; exact ⟨[], rfl, .nil⟩
  | (_, d) :: es, _, h, q => by
    cases h with
    | cons h1 h2 =>
      simp only [noLk, Bool.and_eq_true] at q
      obtain ⟨ds, e1, e2⟩ := RepK.dq es _ h2 q.2
      exact ⟨d :: ds, by simp [← e1], .cons (Rep.dq d _ h1 q.1) e2⟩
end
def OV.q? : OV → Option D
  | .fz d => if noL d then some d else none
  | .oD kvs => if noLk (kvs.map fun p => (kD p.1, p.2)) then some (.dict (kvs.map fun p => (kD p.1, p.2))) else none
  | _ => none
theorem RepO.dq {K : PySem.W.Frag} {s : S} {o : OV} {v : V} {P : FP} {d : D} (h : RepO K s o v P) (e : o.q? = some d) : Dq K s.H v d := by
  cases h with
  | fz h =>
    simp only [OV.q?] at e
    split at e
    · rename_i q; cases e; exact Rep.dq _ _ h q
    · cases e
  | @oD a vs ds h1 h2 =>
    simp only [OV.q?] at e
    split at e
    · rename_i q
      cases e
      obtain ⟨ds', e1, e2⟩ := RepK.dq _ _ h2.toK q
      rw [e1]
      exact .dic (.inl h1) e2
    · cases e
  | _ => cases e
theorem pairs_reads {P : Program} {w : World} {h : Heap} : ∀ {es : List DictEntry} {ps : List (Key × Value)}, Pairs (mixKind P w) es ps → ∃ as, ReadsAll h (es.map (·.key)) (ps.map fun p => kD p.1) as ∧ sysModules ∉ as
  | _, _, .nil => ⟨[], .nil, by simp⟩
  | _, _, .cons hk hv t => by
    obtain ⟨as, r, n⟩ := pairs_reads (h := h) t
    rcases keyIs_shape hk with ⟨i, tk, e1, e2⟩ | ⟨x, tk, e1, e2⟩
    · refine ⟨[] ++ as, .cons ?_ r, by simpa using n⟩
      show Reads h (DictEntry.key _) (kD _) _
      rw [e1, e2]; exact .int i tk
    · refine ⟨[] ++ as, .cons ?_ r, by simpa using n⟩
      show Reads h (DictEntry.key _) (kD _) _
      rw [e1, e2]; exact .str x tk
theorem pairs_vals {P : Program} {w : World} : ∀ {es : List DictEntry} {ps : List (Key × Value)}, Pairs (mixKind P w) es ps → es.map (·.val) = ps.map (·.2)
  | _, _, .nil => rfl
  | _, _, .cons hk hv t => by rw [List.map_cons, List.map_cons, hv, pairs_vals t]
theorem kv_fst : ∀ {kvs : List (Key × V)} {ps : List (Key × Value)}, KV kvs ps → kvs.map (·.1) = ps.map (·.1)
  | _, _, .nil => rfl
  | _, _, .cons h t => by rw [List.map_cons, List.map_cons, h.1, kv_fst t]
theorem kv_snd : ∀ {kvs : List (Key × V)} {ps : List (Key × Value)}, KV kvs ps → Vals (kvs.map (·.2)) (ps.map (·.2))
  | _, _, .nil => .nil
  | _, _, .cons h t => .cons h.2 (kv_snd t)
section
variable {X : Cx} {pins : List (Addr × Obj)} {σ : L2.St} {H : Hp} {s : Shared}
mutual
theorem Dq.reads (I : Inv X pins σ H s) : ∀ {d : D} {v : V}, Dq X.K H v d → ∀ u : Value, RelV v u → ∃ as, Reads s.heap u d as ∧ sysModules ∉ as
  | _, _, .non, _, r => by cases r; exact ⟨_, .none, by simp⟩
  | _, _, .bl _, _, r => by cases r; exact ⟨_, .bool _, by simp⟩
  | _, _, .int _, _, r => by obtain ⟨t, rfl⟩ := r; exact ⟨_, .int _ _, by simp⟩
  | _, _, .str _, _, r => by obtain ⟨t, rfl⟩ := r; exact ⟨_, .str _ _, by simp⟩
  | _, _, .tup hs ha, _, r => by
    cases r
    obtain ⟨its, rv, ⟨o, ho, hc, n, hd⟩, _⟩ := I.tuple hs
    obtain ⟨as, hr, hn⟩ := Dq.readsAll I ha its rv
    exact ⟨_, Reads.tuple ho hc hd hr, hn⟩
  | _, _, .dic (a := a) (kvs := kvs) (ds := ds) hd ha, _, r => by
    cases r
    obtain ⟨_, lo, ps, hkv, o, ens, ep, ho, hex, hdat, _, hp, _⟩ := dk_rd I.hok hd
    obtain ⟨as, r1, n1⟩ := pairs_reads (h := s.heap) hp
    obtain ⟨bs, r2, n2⟩ := Dq.readsAll I ha _ (kv_snd hkv)
    have hl : (kvs.map fun p => kD p.1).length = ds.length := by rw [List.length_map, ← ha.len, List.length_map]
    have k1 : ((kvs.map fun p => kD p.1).zip ds).map (·.1) = kvs.map fun p => kD p.1 := List.map_fst_zip (by omega)
    have k2 : ((kvs.map fun p => kD p.1).zip ds).map (·.2) = ds := List.map_snd_zip (by omega)
    have k3 : (ps.map fun p => kD p.1) = kvs.map fun p => kD p.1 := by
      have := congrArg (List.map kD) (kv_fst hkv)
      rw [List.map_map, List.map_map] at this
      exact this.symm
    refine ⟨a :: as ++ bs, Reads.dict ho hex.1 hdat (by rw [k1, ← k3]; exact r1) (by rw [k2, pairs_vals hp]; exact r2), ?_⟩
    have hne : sysModules ≠ a := by
      rintro rfl
      simp at lo
    simp only [List.cons_append, List.mem_cons, List.mem_append, not_or]
    exact ⟨hne, n1, n2⟩
theorem Dq.readsAll (I : Inv X pins σ H s) : ∀ {ds : List D} {vs : List V}, DqAll X.K H vs ds → ∀ us : List Value, Vals vs us → ∃ as, ReadsAll s.heap us ds as ∧ sysModules ∉ as
  | _, _, .nil, _, r => by cases r; exact ⟨_, .nil, by simp⟩
  | _, _, .cons h1 h2, _, r => by
    cases r with
    | cons r1 r2 =>
      obtain ⟨as, q1, n1⟩ := Dq.reads I h1 _ r1
      obtain ⟨bs, q2, n2⟩ := Dq.readsAll I h2 _ r2
      exact ⟨_, .cons q1 q2, by rw [List.mem_append, not_or]; exact ⟨n1, n2⟩⟩
end
end
def rReprQ (K : PySem.W.Frag) : V → Hp → VK → Prop := fun x H Q => rRepr K x H Q ∨ ∃ (d : D) (a : Addr), x = .ref a ∧ Dq K H x d ∧ d.showable = true ∧ d.depth ≤ 60 ∧ d.shown.length ≤ sizeLine ∧ Q (.str d.shown) H
theorem call_reprQ {X : Cx} {k : Nat} (hr : Room k X.A) (hg : X.A.guards = some []) : CallR X (.builtin "repr") (lift1 (rReprQ X.K)) := by
  intro pins s σ H xs us Q I r h
  match xs, h with
  | [x], h =>
    rcases h with h | ⟨d, a, rfl, hd, hs, hdep, hsz, q⟩
    · exact call_reprD hr hg pins s σ H [x] us Q I r h
    · obtain ⟨u, rfl, rx⟩ := vals1 r
      obtain ⟨as, rd, hn⟩ := Dq.reads I hd u rx
      have hu := hr.units
      cases rx
      exact repr_of_reads' (h₀ := s.heap) rd hs (fun _ => hn) hg (by omega) (fun _ _ e => e) (fun h' t tk kp => ⟨.str d.shown, H, I.kept kp, ⟨_, rfl⟩, q⟩) hsz
def isRef : D → Bool
  | .tuple _ => true
  | .dict _ => true
  | _ => false
def fReprQ : OV → Option OV := fun a => match a.flat? with
  | some _ => fRepr a
  | none => match a.q? with
    | some d => if isRef d && d.showable && decide (d.depth ≤ 60) && decide (d.shown.length ≤ lim) then some (.fz (.str d.shown)) else none
    | none => none
theorem p_reprQ {K : PySem.W.Frag} : P1 K (rReprQ K) fReprQ := by
  intro s a v P o w ra e Q hq
  unfold fReprQ at e
  split at e
  · exact .inl (p_repr s a v P o w ra e Q hq)
  · split at e
    · rename_i d e1
      split at e
      · rename_i c
        cases e
        simp only [Bool.and_eq_true, decide_eq_true_eq] at c
        have hd := ra.dq e1
        have hx : ∃ a, v = .ref a := by
          cases hd with
          | tup _ _ => exact ⟨_, rfl⟩
          | dic _ _ => exact ⟨_, rfl⟩
          | non => exact absurd c.1.1.1 Bool.false_ne_true
          | bl _ => exact absurd c.1.1.1 Bool.false_ne_true
          | int _ => exact absurd c.1.1.1 Bool.false_ne_true
          | str _ => exact absurd c.1.1.1 Bool.false_ne_true
        obtain ⟨a', rfl⟩ := hx
        exact .inr ⟨d, a', rfl, hd, c.1.1.2, c.1.2, le_line c.2, hq.str w⟩
      · cases e
    · cases e
theorem boot_repr2 : bootBuiltins "repr" = some (.builtin "repr") := by decide +kernel
theorem DE.reprQ {X : Cx} {a : Expr} {pos p : Pos} {k : Nat} {m : MA} (hr : Room k X.A) (hgd : X.A.guards = some []) (hg : Gl X "repr") (hm : X.mg "repr" = none) (h : DA X [a] m) (he : starEach [a] X.env = (false, eval a X.env) :: starEach [] X.env := by rfl) : DE X (.Call (.Name "repr" p) [a] [] pos) (mOp (l1 fReprQ) m) :=
  .callB (call_reprQ hr hgd) p_reprQ.pure hg hm boot_repr2 h (by decide) (by decide) he rfl
end G
namespace G
open PySem PySem.Spec PyProof.Rows L2

/-! ### t[::k], t a tuple -/
def pickS {α : Type} (xs : List α) (lo k : Int) (cnt : Nat) : List α := (List.range cnt).filterMap fun (m : Nat) => xs[(lo + (m : Int) * k).toNat]?
def stp {α : Type} (xs : List α) (k : Int) : List α := pickS xs (Builtin.Slice.sliceAdjust none none k (xs.length : Int)).1 k (Builtin.Slice.slicePlaces (Builtin.Slice.sliceAdjust none none k (xs.length : Int)).1 (Builtin.Slice.sliceAdjust none none k (xs.length : Int)).2 k)
section
variable {prog : Program} {w : World} {A : Around} {E : Value → Shared → Prop} {s : Shared}
theorem sliceApplied_step {sl : Addr} {vl vu vs : Value} {k : Int} {n : Nat} {Q : Int × Int × Nat → Shared → Prop} (hs : s.heap.IsSliceOf sl vl vu vs) (pl : IsPart vl none) (pu : IsPart vu none) (ps : IsPart vs (some k)) (hk : k ≠ 0)
    (h : Q ((Builtin.Slice.sliceAdjust none none k (n : Int)).1, k, Builtin.Slice.slicePlaces (Builtin.Slice.sliceAdjust none none k (n : Int)).1 (Builtin.Slice.sliceAdjust none none k (n : Int)).2 k) s) : wpAny (model prog w) A (Builtin.Slice.sliceApplied (.ref sl) (pure (n : Int))) Q E s := by
  obtain ⟨os, hos, hcs, hds⟩ := id hs
  unfold Builtin.Slice.sliceApplied Builtin.Slice.sliceFields
  refine wpAny_bind (wpAny_bind (wpAny_field hos hds (x := vl) rfl (wpAny_bind (wpAny_field hos hds (x := vu) rfl (wpAny_bind (wpAny_field hos hds (x := vs) rfl (wpAny_pure ?_)))))))
  refine wpAny_bind (HT.slicePart_ ps ?_)
  show wpAny _ _ (if (k == 0) = true then _ else _) _ _ s
  rw [if_neg (by simpa using hk)]
  refine wpAny_bind (HT.slicePart_ pl (wpAny_bind (HT.slicePart_ pu (wpAny_bind (wpAny_pure ?_)))))
  exact wpAny_pure h
theorem getItem_tuple_step {t sl : Addr} {items : Array Value} {vl vu vs : Value} {k : Int} {Q : Value → Shared → Prop} (ht : IsTup s.heap t items) (hs : s.heap.IsSliceOf sl vl vu vs) (pl : IsPart vl none) (pu : IsPart vu none) (ps : IsPart vs (some k)) (hk : k ≠ 0) (hk1 : k ≠ 1)
    (h : Q (.ref s.heap.objs.size) { s with heap := s.heap.push { cls := .type "tuple", data := .seq (stp items.toList k).toArray } })
    (hsz : (stp items.toList k).length ≤ sizeLine) : wpAny (model prog w) A (getItem (.ref t) (.ref sl)) Q E s := by
  have htake : sizeOk (.seq (stp items.toList k).toArray) := by
    show (stp items.toList k).toArray.size ≤ sizeLine
    rw [List.size_toArray]; exact hsz
  obtain ⟨os, hos, hcs, hds⟩ := id hs
  have hTs : s.TypeIs (.ref sl) "slice" := ⟨os, hos, hcs⟩
  unfold getItem
  try with_reducible refine wpAny_holding ?_
  first | refine wpAny_bind (wpAny_pure ?_) | skip
  refine wpAny_bind (wpAny_sequenceKey ht.typeIs (by decide) ?_)
  refine wpAny_bind (wpAny_callSpecial?_slot (name := Str.ofString "__getitem__") ht.typeIs PyProof.Rows.slot_tuple_getitem
    (wpAny_call_entry PyProof.Rows.slot_tuple_getitem ht.typeIs entry_tuple_getitem ?_ (args_tuple_getitem _ _)))
  show wpAny _ _ (Builtin.Tuple.tupleItemsOf (.ref t) >>= _) _ _ s
  refine wpAny_bind (PyProof.Rows.tupleItemsOf_ ht ?_)
  refine wpAny_bind (wpAny_typeOf hTs ?_)
  rw [if_pos (by decide)]
  refine wpAny_bind (sliceApplied_step hs pl pu ps hk ?_)
  have hno : ¬ (((Builtin.Slice.sliceAdjust none none k (items.size : Int)).1 == 0 && k == 1 && (Builtin.Slice.slicePlaces (Builtin.Slice.sliceAdjust none none k (items.size : Int)).1 (Builtin.Slice.sliceAdjust none none k (items.size : Int)).2 k) == items.size) = true) := by
    intro q
    rw [Bool.and_eq_true, Bool.and_eq_true] at q
    exact hk1 (eq_of_beq q.1.2)
  show wpAny _ _ (if ((Builtin.Slice.sliceAdjust none none k (items.size : Int)).1 == 0 && k == 1 && (Builtin.Slice.slicePlaces (Builtin.Slice.sliceAdjust none none k (items.size : Int)).1 (Builtin.Slice.sliceAdjust none none k (items.size : Int)).2 k) == items.size) = true then _ else _) _ _ s
  rw [if_neg hno]
  have hp : ((List.range (Builtin.Slice.slicePlaces (Builtin.Slice.sliceAdjust none none k (items.size : Int)).1 (Builtin.Slice.sliceAdjust none none k (items.size : Int)).2 k)).filterMap fun (m : Nat) => items[((Builtin.Slice.sliceAdjust none none k (items.size : Int)).1 + (m : Int) * k).toNat]?).toArray = (stp items.toList k).toArray := by
    unfold stp pickS
    rw [Array.length_toList]
    congr 1
    refine congrArg (fun f => List.filterMap f _) (funext fun m => ?_)
    rw [Array.getElem?_toList]
  first
    | (rw [hp]; exact wpAny_bind (m := Builtin.Tuple.tupleExact _) (wpAny_newObj_type (wpAny_pure ⟨_, rfl, wpAny_pure h⟩) htake))
    | (rw [hp]; exact wpAny_bind (m := Builtin.Tuple.tupleExact _) (wpAny_newObj_type (wpAny_bind (wpAny_pure (wpAny_pure ⟨_, rfl, wpAny_pure h⟩))) htake))
    | (rw [hp]; exact wpAny_bind (wpAny_bind (m := Builtin.Tuple.tupleExact _) (wpAny_newObj_type (wpAny_pure (wpAny_pure ⟨_, rfl, wpAny_pure h⟩)) htake)))
    | (rw [hp]; exact wpAny_bind (wpAny_bind (m := Builtin.Tuple.tupleExact _) (wpAny_newObj_type (wpAny_pure ⟨_, rfl, wpAny_pure h⟩) htake)))
end
theorem vals_pick {xs : List V} {us : List Value} (r : Vals xs us) (lo k : Int) : ∀ ms : List Nat, Vals (ms.filterMap fun (m : Nat) => xs[(lo + (m : Int) * k).toNat]?) (ms.filterMap fun (m : Nat) => us[(lo + (m : Int) * k).toNat]?)
  | [] => .nil
  | m :: ms => by
    rw [List.filterMap_cons, List.filterMap_cons]
    cases h : xs[(lo + (m : Int) * k).toNat]? with
    | none =>
      rw [r.none_of h]
      exact vals_pick r lo k ms
    | some x =>
      obtain ⟨u, e, rx⟩ := r.get h
      rw [e]
      exact .cons rx (vals_pick r lo k ms)
theorem vals_stp {xs : List V} {us : List Value} (r : Vals xs us) (k : Int) : Vals (stp xs k) (stp us k) := by
  unfold stp pickS
  rw [r.length]
  exact vals_pick r _ k _
theorem repl_pick {K : PySem.W.Frag} {s : S} {xs : List V} {us : List D} (r : RepL K s xs us) (lo k : Int) : ∀ ms : List Nat, RepL K s (ms.filterMap fun (m : Nat) => xs[(lo + (m : Int) * k).toNat]?) (ms.filterMap fun (m : Nat) => us[(lo + (m : Int) * k).toNat]?)
  | [] => .nil
  | m :: ms => by
    rw [List.filterMap_cons, List.filterMap_cons]
    rcases repl_get r (lo + (m : Int) * k).toNat with ⟨a, b⟩ | ⟨v, d, a, b, q⟩
    · rw [a, b]; exact repl_pick r lo k ms
    · rw [a, b]; exact .cons q (repl_pick r lo k ms)
theorem repl_stp {K : PySem.W.Frag} {s : S} {xs : List V} {us : List D} (r : RepL K s xs us) (k : Int) : RepL K s (stp xs k) (stp us k) := by
  unfold stp pickS
  rw [r.length]
  exact repl_pick r _ k _
def tStp (K : PySem.W.Frag) (te : TE) (tk : TO) : TE := fun σ H Q => te σ H fun x H1 => tk σ H1 fun o H2 => ∃ a xs k, x = .ref a ∧ o = some k ∧ k ≠ 0 ∧ k ≠ 1 ∧ SqT K H2 a xs ∧ (stp xs k).length ≤ sizeLine ∧ ∀ p o, NewT o → H2 p = none → Q (.ref p) (upd H2 p (.frz o (.tup (stp xs k))))
theorem pe_stp {X : Cx} {e st : Expr} {te : TE} {tk : TO} {p3 pos : Pos} (he : PE X e te) (hst : PO X (some st) tk) : PE X (.Subscript e (.Slice none none (some st) p3) pos) (tStp X.K te tk) := by
  refine ⟨fun pins s σ H Q I h => ?_⟩
  refine Subscript_ (thn (he.run pins s σ H _ I h) fun v s1 ⟨x, H1, I1, r1, q1⟩ => ?_)
  refine wpAny_Slice (thn (po_none.run pins s1 σ H1 (fun o H2 => o = none ∧ H2 = H1) I1 ⟨rfl, rfl⟩) fun vl s2 ⟨l, H2, I2, pl, el, e2⟩ => ?_)
  subst el e2
  refine thn (po_none.run pins s2 σ H2 (fun o H3 => o = none ∧ H3 = H2) I2 ⟨rfl, rfl⟩) fun vu s3 ⟨u, H3, I3, pu, eu, e3⟩ => ?_
  subst eu e3
  refine thn (hst.run pins s3 σ H3 _ I3 q1) fun vs s4 ⟨o, H4, I4, ps, q4⟩ => ?_
  obtain ⟨a, xs, k, ex, eo, hk, hk1, hx, hz, q⟩ := q4
  subst ex eo
  cases r1
  have I5 : Inv X pins σ H4 { s4 with heap := s4.heap.push { cls := .type "slice", data := .fields #[vl, vu, vs] } } := I4.kept (t' := s4.toks) fun b ob q => Heap.get?_push_of_some _ q
  obtain ⟨its, r, ht, _⟩ := I5.tuple hx
  have rs := vals_stp r k
  show wpAny (model X.prog X.w) X.A (subscriptTail e (.Slice none none (some st) p3) (.ref a) (.ref s4.heap.objs.size)) (EP X pins σ Q) X.xe { s4 with heap := s4.heap.push { cls := .type "slice", data := .fields #[vl, vu, vs] } }
  refine tail_any (ops := [.ref a, .ref s4.heap.objs.size]) ht.typeIs (PyProof.Rows.slot_tuple_getitem.lookup) ?_ (by with_unfolding_all rfl)
  refine getItem_tuple_step ht (Heap.IsSliceOf.new _ vl vu vs) pl pu ps hk hk1 ?_ (by show (stp its k).length ≤ _; rw [← rs.length]; exact hz)
  refine ⟨.ref _, _, I5.laid (t' := s4.toks) (o := .frz { cls := .type "tuple", data := .seq (stp its k).toArray } (.tup (stp xs k))) (fun b ob q => Heap.get?_push_of_some _ q) (Nat.le_refl _) ?_, rfl, q _ _ ⟨rfl, rfl⟩ (I5.hok.fresh (Nat.le_refl _))⟩
  exact ⟨Heap.get?_push_size _ rfl, hz, _, rs, IsTup.new _ _⟩
def fStp (o : OV) (k : Option Int) : Option OV := match o.tup?, k with
  | some ds, some k => if k ≠ 0 ∧ k ≠ 1 ∧ (stp ds k).length ≤ lim then some (.fz (.tuple (stp ds k))) else none
  | _, _ => none
def mStp (m : MV) (mk : Env → Option (Option Int × Env)) : ME := fun env => match m env with
  | none => none
  | some (a, e1) => match mk e1 with
    | none => none
    | some (i, e2) => match resolve1 e2 a with
        | none => none
        | some o => (fStp o i).map (·, e2)
theorem DE.stp {X : Cx} {e st : Expr} {p3 pos : Pos} {mv : MV} {mk : Env → Option (Option Int × Env)} (h : DV X e mv) (hl : DO X (some st) mk) : DE X (.Subscript e (.Slice none none (some st) p3) pos) (mStp mv mk) := by
  obtain ⟨t, hp, hr⟩ := h.run
  obtain ⟨tl, lp, lr⟩ := hl.run
  refine ⟨_, pe_stp hp lp, fun σ s env P o env' a1 a2 a3 Q hq => ?_⟩
  unfold mStp at a3
  split at a3
  · cases a3
  rename_i av e1 q1
  split at a3
  · cases a3
  rename_i i e2 q2
  split at a3
  · cases a3
  rename_i ov q4
  obtain ⟨o', q5, q6⟩ := Option.map_eq_some_iff.mp a3
  cases q6
  refine hr σ s env P av e1 a1 a2 q1 _ fun v s1 P1 R b1 b2 b3 b4 b5 => ?_
  have oR : Own R s1 := b4.sub fun _ z => .inr z
  refine lr σ s1 e1 P1 i _ b1 (b4.sub fun _ z => .inl z) q2 _ fun s2 P2 c1 c2 c3 => ?_
  have av3 := b2.mono (c3.kp b3 oR)
  obtain ⟨u, W, e0, rd⟩ := (av3.read c1 (os := [ov]) (by simp [resolve, q4])).one
  cases e0
  unfold fStp at q5
  split at q5
  · rename_i ds k e3 
    split at q5
    · rename_i c
      cases q5
      obtain ⟨a, vs, rfl, h1, h2⟩ := rd.tup e3
      have hr2 := repl_stp h2 k
      have hq' : PostP X.K s2 (.fz (.tuple (G.stp ds k))) Q := hq.pure c1 c2 ((b5.trans c3.frame).sub fun x z => .inl z)
      exact ⟨a, vs, k, rfl, rfl, c.1, c.2.1, h1, by rw [hr2.length]; exact le_line c.2.2, fun p o n hp => hq'.newTG c2.w hr2 n hp⟩
    · cases q5
  · cases q5
end G
namespace G
open PySem PySem.Spec PyProof.Rows L2

/-! ### dict(x): of a dict, of a list of pairs, of a tuple of pairs -/
def pairD : D → Option (Key × D)
  | .tuple [k, v] => (keyOf k).map (·, v)
  | _ => none
def pairsD : List D → Option (List (Key × D))
  | [] => some []
  | d :: ds => match pairD d with
    | none => none
    | some q => (pairsD ds).map (q :: ·)
theorem pair_rep {K : PySem.W.Frag} {s : S} {v : V} {d : D} {q : Key × D} (h : Rep K s v d) (e : pairD d = some q) : ∃ (a : Addr) (w : V), v = .ref a ∧ SqT K s.H a [kV q.1, w] ∧ Rep K s w q.2 := by
  unfold pairD at e
  split at e
  · rename_i k x
    obtain ⟨kk, e1, rfl⟩ := Option.map_eq_some_iff.mp e
    cases h with
    | tup h1 h2 _ =>
      cases h2 with
      | cons r1 t =>
        cases t with
        | cons r2 t =>
          cases t
          have hk := RepO.key (o := .fz k) (.fz r1) (k := kk) e1
          subst hk
          exact ⟨_, _, rfl, h1.sq, r2⟩
  · cases e
theorem pairs_rep {K : PySem.W.Frag} {s : S} : ∀ {vs : List V} {ds : List D} {kvs : List (Key × D)}, RepL K s vs ds → pairsD ds = some kvs →
    ∃ (ps : List Addr) (ws : List (Key × V)), vs = ps.map V.ref ∧ Paired (fun (p : Addr) (kv : Key × V) => SqT K s.H p [kV kv.1, kv.2]) ps ws ∧ RepO' K s ws kvs
  | _, _, kvs, .nil, e => by cases e; exact ⟨[], [], rfl, .nil, .nil⟩
  | _, _, kvs, .cons (d := d) (ds := ds) r t, e => by
    unfold pairsD at e
    split at e
    · cases e
    · rename_i q e1
      obtain ⟨kvs', e2, rfl⟩ := Option.map_eq_some_iff.mp e
      obtain ⟨a, w, rfl, h1, h2⟩ := pair_rep r e1
      obtain ⟨ps, ws, rfl, h3, h4⟩ := pairs_rep t e2
      exact ⟨a :: ps, (q.1, w) :: ws, rfl, .cons h1 h3, .cons h2 h4⟩
def rDictP (K : PySem.W.Frag) : V → Hp → VK → Prop := fun x H Q => ∃ (a : Addr) (ps : List Addr) (kvs : List (Key × V)), x = .ref a ∧ SqL K H a (ps.map V.ref) ∧ Paired (fun p kv => SqT K H p [kV kv.1, kv.2]) ps kvs ∧ ∀ p, H p = none → Q (.ref p) (upd H p (.dK (mergeK [] kvs)))
def rDictD : V → Hp → VK → Prop := fun x H Q => ∃ (a : Addr) (kvs : List (Key × V)), x = .ref a ∧ Rd H a (.dK kvs) ∧ ∀ p, H p = none → Q (.ref p) (upd H p (.dK kvs))
def rDictT (K : PySem.W.Frag) : V → Hp → VK → Prop := fun x H Q => ∃ (a : Addr) (ps : List Addr) (kvs : List (Key × V)) (o : Obj), x = .ref a ∧ SqT K H a (ps.map V.ref) ∧ NewT o ∧ ((∃ w, Rd H a (.frz o w)) ∨ K.lookup a = some o) ∧ Paired (fun p kv => SqT K H p [kV kv.1, kv.2]) ps kvs ∧ ∀ p, H p = none → Q (.ref p) (upd H p (.dK (mergeK [] kvs)))
theorem pairs_of2 {X : Cx} {pins : List (Addr × Obj)} {σ : L2.St} {H : Hp} {s : Shared} (I : Inv X pins σ H s) : ∀ {ps : List Addr} {kvs : List (Key × V)}, Paired (fun (p : Addr) (kv : Key × V) => SqT X.K H p [kV kv.1, kv.2]) ps kvs →
    ∃ (prs : List (Key × Value)) (us : List (Value × Value)), KV kvs prs ∧ prs.length = ps.length ∧ us.length = ps.length ∧ ∀ (j : Nat) (q : Value × Value), us[j]? = some q → ∃ (b : Addr) (k : Key), ps[j]? = some b ∧ prs[j]? = some (k, q.2) ∧ IsTup s.heap b #[q.1, q.2] ∧ keyIs k q.1 = true
  | _, _, .nil => ⟨[], [], .nil, rfl, rfl, fun j q e => by simp at e⟩
  | _, _, .cons (a := p) (b := kv) h t => by
    obtain ⟨prs, us, r, hl, hl2, hp⟩ := pairs_of2 I t
    obtain ⟨its, rv, ht, _⟩ := I.tuple h
    obtain ⟨u, y, ei, ru, ry⟩ := vals2 rv
    subst ei
    refine ⟨(kv.1, y) :: prs, (u, y) :: us, .cons ⟨rfl, ry⟩ r, by rw [List.length_cons, List.length_cons, hl], by rw [List.length_cons, List.length_cons, hl2], fun j q e => ?_⟩
    cases j with
    | zero =>
      have e' : (u, y) = q := Option.some.inj e
      subst e'
      exact ⟨p, kv.1, rfl, rfl, ht, kV_is (P := X.prog) (w := X.w) ru⟩
    | succ j =>
      obtain ⟨b, k, e1, e2, e3, e4⟩ := hp j q (by simpa using e)
      exact ⟨b, k, by simpa using e1, by simpa using e2, e3, e4⟩
theorem call_dictT {X : Cx} (hcalm : X.calm = true) : CallR X (.type "dict") (lift1 (rDictT X.K)) := by
  intro pins s σ H xs us Q I r h
  match xs, h with
  | [x], h =>
    obtain ⟨a, ps, kvs, o, rfl, hs, hn, ho, hp, q⟩ := h
    obtain ⟨u, rfl, rx⟩ := vals1 r
    cases rx
    obtain ⟨its, rv, ⟨o', ho', _, n, hd⟩, hz⟩ := I.tuple hs
    have ho2 : s.heap.get? a = some o := by
      rcases ho with ⟨w, hr⟩ | hk
      · exact (rd_of I.hok hr).1
      · exact I.kIn a o hk
    rw [ho'] at ho2
    cases ho2
    have ei := refs_at rv
    subst ei
    rw [List.length_map] at hz
    obtain ⟨prs, us2, rel, hl, hl2, hpr⟩ := pairs_of2 I hp
    refine PySem.call_dict_pairs (knd := mixKind X.prog X.w) (kvs := prs) (PairArg.tuple a (ps.map Value.ref).toArray (fun j => ps.getD j 0) us2) (I.ok.hd hcalm) ⟨⟨o, n, ho', hn.1, hn.2, hd⟩, by simp [hl2], fun j k v e => ?_⟩ ⟨by rw [hl, hl2], fun j k v e => ?_⟩ (by rw [hl2]; exact hz) fun h' tk hd' k => ?_
    · obtain ⟨b, kk, e1, e2, e3, e4⟩ := hpr j _ e
      have hb : ps.getD j 0 = b := by rw [List.getD_eq_getElem?_getD, e1]; rfl
      refine ⟨by simp [e1, hb], .inl ?_⟩
      show s.heap.IsTuple (ps.getD j 0) _
      rw [hb]
      obtain ⟨o3, g1, g2, n3, g3⟩ := e3
      exact ⟨o3, g1, g2, n3, g3⟩
    · obtain ⟨b, kk, e1, e2, e3, e4⟩ := hpr j _ e
      exact ⟨kk, e2, e4⟩
    · have hm : (s.heap.objs.size == sysModules) = false := beq_eq_false_iff_ne.mpr (Nat.ne_of_gt I.big)
      have hlen : (mergeK [] kvs).length ≤ sizeLine := by
        refine Nat.le_trans (length_mergeK kvs []) ?_
        rw [List.length_nil, Nat.zero_add, rel.length, hl]
        exact hz
      exact ⟨.ref s.heap.objs.size, upd H s.heap.objs.size (.dK (mergeK [] kvs)), I.laid (t' := tk) (fun b o e => k b o (fun h => nomatch h) e) (Nat.le_refl _) (show ObjOk X.prog X.w _ _ _ (.dK (mergeK [] kvs)) from ⟨hlen, hm, merged [] prs, KV.merge rel .nil, hd'⟩), rfl, q _ (I.hok.fresh (Nat.le_refl _))⟩
def rDictA (K : PySem.W.Frag) : V → Hp → VK → Prop := fun x H Q => rDictD x H Q ∨ rDictP K x H Q ∨ rDictT K x H Q
theorem call_dictA {X : Cx} (hcalm : X.calm = true) : CallR X (.type "dict") (lift1 (rDictA X.K)) := by
  intro pins s σ H xs us Q I r h
  match xs, h with
  | [x], h =>
    rcases h with ⟨a, kvs, rfl, h1, q⟩ | ⟨a, ps, kvs, rfl, h1, h2, q⟩ | h
    · exact call_dictD pins s σ H _ us Q I r ⟨a, kvs, rfl, h1, q⟩
    · exact call_dictP hcalm pins s σ H _ us Q I r ⟨a, ps, kvs, rfl, h1, h2, q⟩
    · exact call_dictT hcalm pins s σ H [x] us Q I r h
def fDict : OV → Option OV := fun o => match o.dic? with
  | some kvs => some (.oD kvs)
  | none => match o.lst? with
    | some ds => (pairsD ds).map fun kvs => .oD (mrgD [] kvs)
    | none => match o.tup? with
      | some ds => if polyish ds = true then (pairsD ds).map fun kvs => .oD (mrgD [] kvs) else none
      | none => none
theorem p_dict {K : PySem.W.Frag} : P1 K (rDictA K) fDict := by
  intro s a v P o w ra e Q hq
  unfold fDict at e
  split at e
  · rename_i kvs e1
    cases e
    obtain ⟨p, vs, rfl, h1, h2⟩ := ra.dic e1
    exact .inl ⟨p, vs, rfl, h1, fun q hp => hq.newD w h2 hp⟩
  · split at e
    · rename_i ds e1
      obtain ⟨kvs, e2, rfl⟩ := Option.map_eq_some_iff.mp e
      obtain ⟨l, xs, rfl, h1, h2⟩ := ra.lst e1
      obtain ⟨ps, ws, rfl, h3, h4⟩ := pairs_rep h2 e2
      exact .inr (.inl ⟨l, ps, ws, rfl, h1, h3, fun q hp => hq.newD w (RepO'.mrg h4 .nil) hp⟩)
    · split at e
      · rename_i ds e1
        split at e
        · rename_i hpo
          obtain ⟨kvs, e2, rfl⟩ := Option.map_eq_some_iff.mp e
          have eo := OV.tup_of e1
          subst eo
          cases ra with
          | fz ra =>
            cases ra with
            | tup h1 h2 h3 =>
              obtain ⟨ps, ws, rfl, h4, h5⟩ := pairs_rep h2 e2
              have hk : ∀ q, s.H q = none → Q (.ref q) (upd s.H q (.dK (mergeK [] ws))) := fun q hp => hq.newD w (RepO'.mrg h5 .nil) hp
              rcases h3 hpo with ⟨_, o, u, n, hr⟩ | ⟨o, hl, n⟩
              · exact .inr (.inr ⟨_, ps, ws, o, rfl, h1.sq, n, .inl ⟨u, hr⟩, h4, hk⟩)
              · exact .inr (.inr ⟨_, ps, ws, o, rfl, h1.sq, n, .inr hl, h4, hk⟩)
        · cases e
      · cases e
theorem boot_dict' : bootBuiltins "dict" = some (.type "dict") := by decide +kernel
theorem DE.dict_ {X : Cx} {a : Expr} {pos p : Pos} {m : MA} (hc : X.calm = true) (hg : Gl X "dict") (hm : X.mg "dict" = none) (h : DA X [a] m) (he : starEach [a] X.env = (false, eval a X.env) :: starEach [] X.env := by rfl) : DE X (.Call (.Name "dict" p) [a] [] pos) (mOp (l1 fDict) m) :=
  .callTy (call_dictA hc) p_dict.pure hg hm boot_dict' h (by decide) (by decide) he rfl
end G
namespace G
open PySem PySem.Spec PyProof.Rows L2

/-! ### sorted(range(a, b), reverse=True) -/
def rgI (a b : Int) : List Int := (List.range (b - a).toNat).map fun (i : Nat) => a + (i : Int)
theorem rgV_I (a b : Int) : rgV a b = (rgI a b).map V.int := by unfold rgV rgI; rw [List.map_map]; rfl
theorem rgI_asc (a b : Int) : (rgI a b).Pairwise (· ≤ ·) := by
  unfold rgI
  rw [List.pairwise_map]
  exact List.pairwise_lt_range.imp fun h => by omega
/-! far ranges: the iterator of big whole numbers -/
theorem extend_far {prog : Program} {w : World} {A : Around} {s : Shared} {R : Result → Shared → Prop} {r : Addr} {a b c : Int} {t u v : Tok} {n : Nat} (hh : A.handled = none) (hr : IsRange s.heap r a b c t u v) (hbig : Builtin.Range.small a b c = false)
    (hn : Builtin.Range.rangeSize a b c = n) (hlen : n ≤ 2 ^ 24) (L : Addr) (res : Value) (c0 : Nat) (hL : s.heap.get? L = some { cls := .type "list", data := .seq #[] c0 })
    (hR : ∀ h' tk acc c', (∀ b o, b ≠ L → s.heap.get? b = some o → h'.get? b = some o) → h'.get? L = some { cls := .type "list", dict := none, data := .seq acc c', slots := #[] } → ItemsOf (fun i v => ∃ t, v = .int (a + i * c) t) acc n → R (.ok (.ret res)) { s with heap := h', toks := tk }) :
    wpAny (model prog w) A.in1 (Builtin.List.listExtendWith (.ref L) (.ref r) res)
      (fun fin s' => match fin with | .done f => R (.ok f) s' | .again c' => c'.quiet = true ∧ codeAny (model prog w) A c' R s') (fun e s' => R (.error e) s') s := by
  have nLr : L ≠ r := fun e => by rw [e, hr] at hL; simp at hL
  have sz : L < s.heap.objs.size := Heap.lt_size hL
  have nLI : L ≠ s.heap.objs.size := Nat.ne_of_lt sz
  have W := (Walks.longrange (prog := prog) (w := w) (A := A.in1) hh s.heap.objs.size a c n).toS
  have fin : ∀ (h : Heap) (c1 tk : Nat), IsLongIter h s.heap.objs.size (a + ((0 : Nat) : Int) * c) ((n : Int) - ((0 : Nat) : Int)) c → (∀ b o, b ≠ L → s.heap.get? b = some o → h.get? b = some o) → h.get? L = some { cls := .type "list", data := .seq #[] c1 } →
      codeAny (model prog w) A (.builtin "list.extend.loop" ⟨[.ref L, .ref s.heap.objs.size, res], []⟩) R { s with heap := h, toks := tk } := by
    intro h c1 tk hit hk hL1
    refine codeAny_extend_loopS W (by rw [sizeLine_eq]; omega) L (fun hm => nLI (List.mem_singleton.mp hm)) res n 0 _ #[] c1 rfl (Nat.zero_le _) hit hL1 (ItemsOf.nil _) fun s' acc c' hm hL' hi => ?_
    rw [Moved.eq_with hm]
    refine hR s'.heap s'.toks acc c' (fun b o hb e => hm.heap b o (fun z => ?_) (hk b o hb e)) hL' hi
    rcases List.mem_cons.mp z with z | z
    · exact hb z
    · exact absurd (Heap.lt_size e) (by rw [List.mem_singleton.mp z]; exact Nat.lt_irrefl _)
  unfold Builtin.List.listExtendWith
  refine wpAny_bind (wpAny_typeOf (T := "range") ⟨_, hr, rfl⟩ ?_)
  have z1 : Builtin.List.listSameRef (.ref L) (.ref r) = false := by simp [Builtin.List.listSameRef, nLr]
  have z2 : (Value.type "range" == Value.type "list") = false := by decide
  have z3 : (Value.type "range" == Value.type "tuple") = false := by decide
  simp only [z1, z2, z3, Bool.or_false, Bool.false_eq_true, if_false]
  refine wpAny_bind (wpAny_pyIter_longrange hr hbig ?_)
  refine wpAny_bind (wpAny_holding (wpAny_hint_range (n := n) (Heap.get?_push_of_some _ hr) hn hlen ?_))
  have hI : IsLongIter (s.heap.push { cls := .type "longrange_iterator", data := .fields #[rawInt a, rawInt (Builtin.Range.rangeSize a b c), rawInt c] }) s.heap.objs.size (a + ((0 : Nat) : Int) * c) ((n : Int) - ((0 : Nat) : Int)) c := by
    show IsLongIter _ _ _ _ _; rw [hn]; simpa using Heap.get?_push_size _ rfl
  have hL1 := Heap.get?_push_of_some { cls := .type "longrange_iterator", data := .fields #[rawInt a, rawInt (Builtin.Range.rangeSize a b c), rawInt c] } hL
  refine wpAny_ite_split (fun _ => ?_) (fun _ => wpAny_pure ⟨plainId_quiet F.plain_extend_loop _, fin _ c0 _ hI (fun b o _ e => Heap.get?_push_of_some _ e) hL1⟩)
  refine wpAny_bind (wpAny_rule ?_)
  refine wpAny_bind ?_
  show wpAny _ _ (updateSeq L (·.push .none) >>= fun _ => updateSeq L (·.pop)) _ _ _
  refine wpAny_bind (wpAny_updateSeq hL1 rfl ?_)
  have hL2 := Heap.get?_update_self (Obj.mapSeq (·.push Value.none)) hL1 rfl
  refine wpAny_updateSeq (hz := by seq_fits) hL2 rfl ?_
  have hL3 := Heap.get?_update_self (Obj.mapSeq (·.pop)) hL2 rfl
  refine wpAny_pure ⟨plainId_quiet F.plain_extend_loop _, fin _ _ _ ?_ (fun b o hb e => ?_) hL3⟩
  · exact (Heap.get?_update_other _ _ nLI).trans ((Heap.get?_update_other _ _ nLI).trans hI)
  · exact (Heap.get?_update_other _ _ (Ne.symm hb)).trans ((Heap.get?_update_other _ _ (Ne.symm hb)).trans (Heap.get?_push_of_some _ e))
theorem collect_far {prog : Program} {w : World} {A : Around} {E : Value → Shared → Prop} {s : Shared} {Q : List Value → Shared → Prop} {r : Addr} {a b c : Int} {t u v : Tok} {n : Nat} (hh : A.handled = none) (hr : IsRange s.heap r a b c t u v) (hbig : Builtin.Range.small a b c = false)
    (hn : Builtin.Range.rangeSize a b c = n) (hlen : n ≤ 2 ^ 24)
    (hQ : ∀ (h' : Heap) (tk : Nat) (acc : Array Value), (∀ b o, s.heap.get? b = some o → h'.get? b = some o) → ItemsOf (fun i v => ∃ t, v = .int (a + i * c) t) acc n → Q acc.toList { s with heap := h', toks := tk }) :
    wpAny (model prog w) A (collect (.ref r)) Q E s := by
  unfold collect
  refine wpAny_bind (wpAny_runValue (codeAny_builtin F.entry_proto_collect ?_))
  rw [Around.under_plainId F.plain_proto_collect _]
  show wpAny _ A.in1 (newList [] >>= fun l => again (.builtin "list.__iadd__" ⟨[l, .ref r], []⟩)) _ _ s
  refine wpAny_bind (wpAny_newObj_type ?_)
  refine wpAny_pure ⟨plainId_quiet F.plain_list_iadd _, codeAny_builtin F.entry_list_iadd ?_⟩
  rw [Around.under_plainId F.plain_list_iadd _]
  show wpAny _ A.in1 (Builtin.List.listExtendWith (.ref s.heap.objs.size) (.ref r) (.ref s.heap.objs.size)) _ _ _
  refine wpAny_mono (extend_far (A := A) (R := fun rr s' => rr = .ok (.ret (.ref s.heap.objs.size)) ∧ ∃ (h' : Heap) (tk : Nat) (acc : Array Value) (c' : Nat), s' = { s with heap := h', toks := tk } ∧
      (∀ b o, s.heap.get? b = some o → h'.get? b = some o) ∧ h'.get? s.heap.objs.size = some { cls := .type "list", dict := none, data := .seq acc c', slots := #[] } ∧ ItemsOf (fun i v => ∃ t, v = .int (a + i * c) t) acc n)
    (s := { s with heap := s.heap.push { cls := .type "list", data := .seq ([] : List Value).toArray } }) hh (Heap.get?_push_of_some _ hr) hbig hn hlen _ _ 0 (Heap.get?_push_size _ rfl)
    (fun h' tk acc c' hk e hi => ⟨rfl, h', tk, acc, c', rfl, fun b o q => hk b o (Nat.ne_of_lt (Heap.lt_size q)) (Heap.get?_push_of_some _ q), e, hi⟩)) (fun fin s' h => ?_) (fun e s' h => ?_)
  · cases fin with
    | done f =>
      obtain ⟨e, h', tk, acc, c', rfl, hk, hS', hi⟩ := h
      cases e
      show wpAny _ A (load s.heap.objs.size >>= _) _ _ _
      exact wpAny_bind (wpAny_load hS' (wpAny_pure (hQ h' tk acc hk hi)))
    | again c' =>
      refine ⟨h.1, codeAny_mono h.2 fun rr s'' hr' => ?_⟩
      obtain ⟨rfl, h', tk, acc, c', rfl, hk, hS', hi⟩ := hr'
      show wpAny _ A (load s.heap.objs.size >>= _) _ _ _
      exact wpAny_bind (wpAny_load hS' (wpAny_pure (hQ h' tk acc hk hi)))
  · exact absurd h.1 (by simp)
theorem collect_any {prog : Program} {w : World} {A : Around} {E : Value → Shared → Prop} {s : Shared} {Q : List Value → Shared → Prop} {r : Addr} {a b c : Int} {t u v : Tok} {n : Nat} (hh : A.handled = none) (hr : IsRange s.heap r a b c t u v)
    (hn : Builtin.Range.rangeSize a b c = n) (hlen : n ≤ 2 ^ 24)
    (hQ : ∀ (h' : Heap) (tk : Nat) (acc : Array Value), (∀ b o, s.heap.get? b = some o → h'.get? b = some o) → ItemsOf (fun i v => ∃ t, v = .int (a + i * c) t) acc n → Q acc.toList { s with heap := h', toks := tk }) :
    wpAny (model prog w) A (collect (.ref r)) Q E s := by
  by_cases hs : Builtin.Range.small a b c = true
  · exact collect_range hh hr hs hn hlen hQ
  · exact collect_far hh hr (by simpa using hs) hn hlen hQ
def RgOkW (a b : Int) : Prop := (b - a).toNat ≤ 2 ^ 24
theorem sorted_rangeR {X : Cx} {pins : List (Addr × Obj)} {σ : L2.St} {H : Hp} {s : Shared} {r : Addr} {a b : Int} {t u v : Tok} {Q : VK} (hc : X.calm = true) (I : Inv X pins σ H s) (hr : IsRange s.heap r a b 1 t u v) (ok : RgOkW a b)
    (q : ∀ p, H p = none → Q (.ref p) (upd H p (.lst ((rgI a b).reverse.map V.int)))) :
    wpAny (model X.prog X.w) X.A (call (.builtin "sorted") [.ref r] [(Str.ofString "reverse", .bool true)]) (EP X pins σ Q) X.xe s := by
  have b5 : (b - a).toNat ≤ 2 ^ 24 := ok
  refine PyProof.Rows.call_function_entry_kw PyProof.Rows.kind_sorted PyProof.Rows.plain_sorted PyProof.Rows.entry_sorted (PyProof.Rows.args_sorted_rev _ _) ?_
  unfold Builtin.«sorted»
  refine wpAny_bind (m := checkCount "sorted" 1 1 _) (wpAny_pure ?_)
  refine wpAny_bind (collect_any (n := (b - a).toNat) (I.ok.hd hc) hr (rangeSize_nat a b) b5 fun h' tk acc hk hi => ?_)
  have hv := vals_rg hi
  rw [rgV_I] at hv
  have hS : IntsAre acc.toList (rgI a b) := intsAre_of hv
  have hal : acc.toList.length = (b - a).toNat := by rw [Array.length_toList]; exact hi.1
  have hz : acc.toList.length ≤ sizeLine := by rw [hal, sizeLine_eq]; omega
  have I1 : L2.Inv X pins σ H { s with heap := h', toks := tk } := I.kept hk
  refine wpAny_bind (wpAny_newList ?_ hz)
  have ho : (h'.push (seqObj "list" acc.toList.toArray 0)).get? h'.objs.size = some (seqObj "list" acc.toList.toArray 0) := Heap.get?_push_size _ rfl
  refine wpAny_bind (wpAny_holding (wpAny_call_entry_kw PyProof.Rows.slot_list_sort ⟨_, ho, rfl⟩ PyProof.Rows.entry_list_sort ?_ (PyProof.Rows.args_list_sort_rev _ _)))
  refine SrtR.list_sort_ordR (s := { s with heap := h'.push (seqObj "list" acc.toList.toArray 0), toks := tk }) (b := true) SrtO.swo_int ho hz (fun h2 => SrtO.ints_sortable hS h2) fun out g1 g2 => ⟨_, rfl, ?_⟩
  obtain ⟨ns', k1, k2, k3⟩ := SrtR.ints_outR (b := true) hS g1 g2
  have hns : ns' = (rgI a b).reverse := by
    have h1 : ns'.reverse.Pairwise (· ≤ ·) := by
      rw [List.pairwise_reverse]
      exact k3
    have h2 : ns'.reverse = sortI (rgI a b) := sortI_uniq ((List.reverse_perm _).trans k2) h1
    have h3 : rgI a b = sortI (rgI a b) := sortI_uniq (List.Perm.refl _) (rgI_asc a b)
    rw [← h3] at h2
    rw [← h2, List.reverse_reverse]
  subst hns
  obtain ⟨e', he'⟩ := PyProof.Rows.sortedHeap_at (vs := acc.toList) (out := (if true = true then out.toArray.reverse else out.toArray)) ho
  have hlen : ((rgI a b).reverse.map V.int).length ≤ sizeLine := by
    rw [List.length_map, List.length_reverse]
    unfold rgI
    rw [List.length_map, List.length_range, sizeLine_eq]; omega
  refine wpAny_pure ⟨_, rfl, .ref h'.objs.size, upd H h'.objs.size (.lst ((rgI a b).reverse.map V.int)), I1.laid (t' := tk) (fun b u e => ?_) (Nat.le_refl _) ⟨hlen, _, e', vals_of_ints k1, by rw [Array.toArray_toList]; exact he'⟩, rfl, q _ (I1.hok.fresh (Nat.le_refl _))⟩
  have hb : b < h'.objs.size := Heap.lt_size e
  exact (PyProof.Rows.sortedHeap_old (Nat.ne_of_lt hb) (by rw [size_push']; exact Nat.lt_succ_of_lt hb)).trans (Heap.get?_push_of_some _ e)
def tSRR (te : L2.St → Hp → (Int → Int → Hp → Prop) → Prop) : TE := fun σ H Q => te σ H fun a b H1 => RgOkW a b ∧ ∀ p, H1 p = none → Q (.ref p) (upd H1 p (.lst ((rgI a b).reverse.map V.int)))
theorem boot_sorted4 : bootBuiltins "sorted" = some (.builtin "sorted") := by decide +kernel
theorem pe_SRR {X : Cx} {e : Expr} {te : L2.St → Hp → (Int → Int → Hp → Prop) → Prop} {p pos cp kp : Pos} {i : Nat} (hc : X.calm = true) (hg : Gl X "sorted") (hm : X.mg "sorted" = none) (he : PRg X e te) (na : starEach [e] X.env = (false, eval e X.env) :: starEach [] X.env := by rfl)
    (h1 : backTo pos (starEach [e] X.env) = (false, eval e X.env) :: backTo pos (starEach [] X.env) := by rfl) (hpl : (backTo pos (starEach [e] X.env)).any (·.1) = false := by rfl)
    (hall : (backToKw pos (keywordEach [⟨some (Str.ofString "reverse"), .Constant (.bool true) i cp, kp⟩] X.env)).all (·.1.isSome) = true := by rfl) (hnone : (backToKw pos (keywordEach [⟨some (Str.ofString "reverse"), .Constant (.bool true) i cp, kp⟩] X.env)).any (·.1.isNone) = false := by rfl) (hks : (backToKw pos (keywordEach [⟨some (Str.ofString "reverse"), .Constant (.bool true) i cp, kp⟩] X.env)).filterMap (·.1) = [Str.ofString "reverse"] := by rfl) :
    PE X (.Call (.Name "sorted" p) [e] [⟨some (Str.ofString "reverse"), .Constant (.bool true) i cp, kp⟩] pos) (tSRR te) := by
  refine ⟨fun pins s σ H Q I h => ?_⟩
  refine wpAny_Call_Name_kw (ld_blt I hg hm boot_sorted4 ?_ (by decide) (by decide))
  refine PyProof.Rows.callWith_kw (args_cons (thn (he pins s σ H _ I h) fun x s1 ⟨r, a, b, t, u, v, H1, ex, hr, I1, ok, q⟩ => args_nil ?_) na) h1 hpl hall hnone
  subst ex
  show wpAny _ _ (evalAll ((do let v ← eval (.Constant (.bool true) i cp) X.env; standAt pos; pure v) :: [])) _ _ s1
  refine wpAny_evalAll_cons (wpAny_bind (Constant_bool (wpAny_bind (wpAny_standAt (wpAny_pure (wpAny_evalAll_nil ?_))))))
  rw [hks]
  exact sorted_rangeR hc I1 hr ok q
/-- the pure side -/
def rgOkB (a b : Int) : Bool := decide ((b - a).toNat ≤ 16000000)
theorem rgOkB_ok {a b : Int} (h : rgOkB a b = true) : RgOkW a b := by
  unfold rgOkB at h
  simp only [decide_eq_true_eq] at h
  unfold RgOkW
  omega
def mSRR (m : MA) : ME := fun env => match m env with
  | none => none
  | some (as, e1) => match resolve e1 as with
    | some [.fz (.int i), .fz (.int j)] => if rgOkB i j = true then some (.oL ((rgI i j).reverse.map PyData.int), e1) else none
    | _ => none
theorem DE.srr {X : Cx} {a b : Expr} {p pos cp kp p1 p2 : Pos} {i : Nat} {m : MA} (hc : X.calm = true) (hg : Gl X "sorted") (hm : X.mg "sorted" = none) (hg2 : Gl X "range") (hm2 : X.mg "range" = none) (h : DA X [a, b] m)
    (hs : starEach [a, b] X.env = (false, eval a X.env) :: starEach [b] X.env := by rfl) (hs2 : starEach [b] X.env = (false, eval b X.env) :: starEach [] X.env := by rfl) (hp : (backTo p2 (starEach [b] X.env)).any (·.1) = false := by rfl)
    (na : starEach [Expr.Call (.Name "range" p1) [a, b] [] p2] X.env = (false, eval (Expr.Call (.Name "range" p1) [a, b] [] p2) X.env) :: starEach [] X.env := by rfl)
    (h1 : backTo pos (starEach [Expr.Call (.Name "range" p1) [a, b] [] p2] X.env) = (false, eval (Expr.Call (.Name "range" p1) [a, b] [] p2) X.env) :: backTo pos (starEach [] X.env) := by rfl) (hpl : (backTo pos (starEach [Expr.Call (.Name "range" p1) [a, b] [] p2] X.env)).any (·.1) = false := by rfl)
    (hall : (backToKw pos (keywordEach [⟨some (Str.ofString "reverse"), .Constant (.bool true) i cp, kp⟩] X.env)).all (·.1.isSome) = true := by rfl) (hnone : (backToKw pos (keywordEach [⟨some (Str.ofString "reverse"), .Constant (.bool true) i cp, kp⟩] X.env)).any (·.1.isNone) = false := by rfl) (hks : (backToKw pos (keywordEach [⟨some (Str.ofString "reverse"), .Constant (.bool true) i cp, kp⟩] X.env)).filterMap (·.1) = [Str.ofString "reverse"] := by rfl) :
    DE X (.Call (.Name "sorted" p) [Expr.Call (.Name "range" p1) [a, b] [] p2] [⟨some (Str.ofString "reverse"), .Constant (.bool true) i cp, kp⟩] pos) (mSRR m) := by
  obtain ⟨ts, k1, k2, k3⟩ := h.run
  obtain ⟨ta, tb, rfl, pa, pb⟩ := k1.two (es := [])
  refine ⟨_, pe_SRR hc hg hm (prg_2 hg2 hm2 pa pb hs hs2 hp) na h1 hpl hall hnone hks, fun σ s env P o env' a1 a2 a3 Q hq => ?_⟩
  unfold mSRR at a3
  split at a3
  · cases a3
  rename_i as e1 q1
  split at a3
  · rename_i i' j' q2
    split at a3
    · rename_i ok
      cases a3
      refine k3 σ s env P as _ a1 a2 q1 (fun vs H => lift2 (fun x y H (Q : VK) => ∃ i j, x = .int i ∧ y = .int j ∧ (RgOkW i j ∧ ∀ p, H p = none → Q (.ref p) (upd H p (.lst ((rgI i j).reverse.map V.int))))) vs H Q) fun vs s1 P1 R1 c1 c2 c3 c4 c5 => ?_
      obtain ⟨u1, u2, W1, W2, ev, g1, g2⟩ := (c2.read c1 q2).two
      subst ev
      refine ⟨i', j', g1.int, g2.int, rgOkB_ok ok, fun p hp => ?_⟩
      have wP : Own P1 s1 := c4.sub fun _ z => .inl z
      exact (hq.pure c1 wP (c5.sub fun _ z => .inl z)).newL c4.w (RepL.ints _) hp
    · cases a3
  · cases a3
end G
namespace G
open PySem PySem.Spec PyProof.Rows L2

/-! ### xs.extend(an own list) -/
def mLExt (j : Nat) (m : ME) : ME := fun env => match lk env j with
  | some (.oL _) => match m env with
    | some (.oL zs, e1) => match lk e1 j with
      | some (.oL ds) => if ds.length + zs.length ≤ lim then some (.fz .none, e1.set j (some (.oL (ds ++ zs)))) else none
      | _ => none
    | _ => none
  | _ => none
section
variable {X : Cx} {e : Expr} {pos : Pos}
theorem DE.lext {m : ME} {x : Str} {px apos : Pos} (j : Nat) (h : DE X e m)
    (hN : X.N[j]? = some x := by rfl) (hx : Vis X.env.scope x := by first | exact Or.inl rfl | exact Or.inr (Or.inl rfl) | exact Or.inr (Or.inr rfl))
    (hd : (x == ("__debug__" : Str)) = false := by decide) (hcd : (x == ("__classdict__" : Str)) = false := by decide) (hs : starEach [e] X.env = (false, eval e X.env) :: starEach [] X.env := by rfl)
    (hbase : attributeBase (.Name x px) "extend" X.env (eval (.Name x px) X.env) = eval (.Name x px) X.env := by rfl)
    (hfew : ((backTo pos (starEach [e] X.env)).all (fun x => !x.1) && (backToKw pos (keywordEach [] X.env)).all (fun x => x.1.isSome)
      && decide (([e] : List Expr).length + ([] : List Keyword).length + (if ([] : List Keyword).isEmpty then 0 else 1) < 30)) = true := by rfl)
    (hline : (apos.endLine == pos.line) = true := by rfl) : DE X (.Call (.Attribute (.Name x px) "extend" apos) [e] [] pos) (mLExt j m) := by
  obtain ⟨t, hp, hr⟩ := h.run
  refine ⟨_, pe_bm PySem.F.plainAttrs_list PySem.F.slot_list_extend PySem.F.type_list_extend mt_extend (pe_var hN hx hd hcd) (pa_cons hp pa_nil hs) hbase hfew hline hs rfl, fun σ s env P o env' a1 a2 a3 Q hq => ?_⟩
  unfold mLExt at a3
  split at a3
  · rename_i ds0 q1
    split at a3
    · rename_i zs e1 q2
      split at a3
      · rename_i ds q3
        split at a3
        · rename_i hlen
          cases a3
          obtain ⟨ad, vs0, g1, g2, _⟩ := a1.slotL a2 q1
          refine ⟨_, g1, .inl ⟨rfl, _, SqL.of g2⟩, ?_⟩
          refine hr σ s env P _ e1 a1 a2 q2 (fun y H2 => rExtend (.ref ad) [y] H2 Q) fun v s1 P1 R1 b1 b2 b3 b4 b5 => ?_
          have wP : Own P1 s1 := b4.sub fun _ z => .inl z
          obtain ⟨ad', vs, f1, f2, f3, f4, f5⟩ := b1.slotL wP q3
          rw [g1] at f1; cases f1
          cases b2 with
          | @oL b ws _ k1 k2 =>
            obtain ⟨y1, y2, y3⟩ := f5 (vs ++ ws) (ds ++ zs) (f3.append k2)
            refine ⟨ad, b, vs, ws, rfl, rfl, f2, k1, ?_, ?_⟩
            · rw [f3.length, k2.length, sizeLine_eq]
              have hl : lim = 16000000 := rfl
              omega
            · exact postE_plain hq y1 y2 ((b5.sub fun _ z => .inl z).trans y3) .non
        · cases a3
      · cases a3
    · cases a3
  · cases a3
end
end G
namespace G
open PySem PySem.Spec PyProof.Rows L2

/-! ### what is frozen stays but for a dict's lock -/
structure Fw (K : PySem.W.Frag) (s s' : S) : Prop where
  z : ∀ a, s.Z a → s'.Z a
  l : ∀ a xs, s.Z a → Rd s.H a (.lst xs) → Rd s'.H a (.lst xs)
  t : ∀ a xs, s.Z a → Rd s.H a (.tup xs) → Rd s'.H a (.tup xs)
  d : ∀ a kvs, s.Z a → Rd s.H a (.dK kvs) → Rd s'.H a (.dK kvs)
  n : ∀ a b o, s.Z a → Rd s.H a (dNo b o) → Rd s'.H a (dNo b o)
  i : ∀ a C dx fs, s.Z a → Rd s.H a (.ins C dx fs) → Rd s'.H a (.ins C dx fs)
  x : ∀ a C od, s.Z a → Rd s.H a (exH C od a) → Rd s'.H a (exH C od a)
  y : ∀ a vs, s.Z a → Rd s.H a (.xd vs) → Rd s'.H a (.xd vs)
  g : ∀ a, GoodT K s a → GoodT K s' a
mutual
theorem Rep.monoW {K : PySem.W.Frag} {s s' : S} (f : Fw K s s') : ∀ (d : D) (v : V), Rep K s v d → Rep K s' v d
  | .none, _, h => by cases h; exact .non
  | .bool _, _, h => by cases h; exact .bl _
  | .int _, _, h => by cases h; exact .int _
  | .str _, _, h => by cases h; exact .str _
  | .list ds, _, h => by
    cases h with
    | lst h1 h2 => exact .lst (h1.elim (fun q => .inl ⟨f.z _ q.1, f.l _ _ q.1 q.2⟩) .inr) (RepL.monoW f ds _ h2)
  | .tuple ds, _, h => by
    cases h with
    | tup h1 h2 h3 => exact .tup (h1.elim (fun q => .inl ⟨f.z _ q.1, f.t _ _ q.1 q.2⟩) .inr) (RepL.monoW f ds _ h2) fun q => f.g _ (h3 q)
  | .dict es, _, h => by
    cases h with
    | dic h1 h2 h3 => exact .dic (f.z _ h1) (f.d _ _ h1 h2) (RepK.monoW f es _ h3)
theorem RepL.monoW {K : PySem.W.Frag} {s s' : S} (f : Fw K s s') : ∀ (ds : List D) (vs : List V), RepL K s vs ds → RepL K s' vs ds
  | [], _, h => by cases h; exact .nil
  | d :: ds, _, h => by
    cases h with
    | cons h1 h2 => exact .cons (Rep.monoW f d _ h1) (RepL.monoW f ds _ h2)
theorem RepK.monoW {K : PySem.W.Frag} {s s' : S} (f : Fw K s s') : ∀ (es : List (D × D)) (kvs : List (Key × V)), RepK K s kvs es → RepK K s' kvs es
  | [], _, h => by cases h; exact .nil
  | (_, d) :: es, _, h => by
    cases h with
    | cons h1 h2 => exact .cons (Rep.monoW f d _ h1) (RepK.monoW f es _ h2)
end
theorem RepO'.monoW {K : PySem.W.Frag} {s s' : S} (f : Fw K s s') : ∀ {vs : List (Key × V)} {ds : List (Key × D)}, RepO' K s vs ds → RepO' K s' vs ds
  | _, _, .nil => .nil
  | _, _, .cons h t => .cons (Rep.monoW f _ _ h) (t.monoW f)
mutual
theorem RepO.monoW {K : PySem.W.Frag} {s s' : S} (f : Fw K s s') : ∀ (o : OV) (v : V) (P : FP), RepO K s o v P → (∀ a, P a → s'.H a = s.H a) → RepO K s' o v P
  | .fz _, _, _, h, k => by
    cases h with
    | fz h => exact .fz (Rep.monoW f _ _ h)
  | .oL _, _, _, h, k => by
    cases h with
    | oL h1 h2 => exact .oL ((k _ rfl).trans h1) (RepL.monoW f _ _ h2)
  | .oD _, _, _, h, k => by
    cases h with
    | oD h1 h2 => exact .oD ((k _ rfl).trans h1) (h2.monoW f)
  | .oN os, _, _, h, k => by
    cases h with
    | oN h1 h2 h3 => exact .oN ((k _ (.inl rfl)).trans h1) (RepOs.monoW f os _ _ h2 fun a q => k a (.inr q)) h3
  | .oI C os, _, _, h, k => by
    cases h with
    | oI h1 h2 h3 => exact .oI ((k _ (.inl rfl)).trans h1) (RepOf.monoW f os _ _ h2 fun a q => k a (.inr q)) h3
  | .oT os, _, _, h, k => by
    cases h with
    | oT h1 h2 h3 => exact .oT (f.z _ h1) (f.t _ _ h1 h2) (RepOs.monoW f os _ _ h3 k)
  | .oK kvs, _, _, h, k => by
    cases h with
    | oK h1 h2 h3 h4 => exact .oK ((k _ (.inl rfl)).trans h1) h2 (RepOk.monoW f kvs _ _ h3 fun a q => k a (.inr q)) h4
  | .fK kvs, _, _, h, k => by
    cases h with
    | fK h1 h2 h3 h4 h5 => exact .fK (f.z _ h1) (f.n _ _ _ h1 h2) h3 (RepOk.monoW f kvs _ _ h4 fun a q => (h5 a q).elim) h5
  | .fI C os, _, _, h, k => by
    cases h with
    | fI h1 h2 h3 h4 => exact .fI (f.z _ h1) (f.i _ _ _ _ h1 h2) (RepOf.monoW f os _ _ h3 fun a q => (h4 a q).elim) h4
  | .eX c ds, _, _, h, k => by
    cases h with
    | eX h1 h2 h3 h4 =>
      refine .eX (f.z _ h1) (f.x _ _ _ h1 h2) h3 ?_
      rcases h4 with h | ⟨dx, vs, g1, g2, g3, g4⟩
      · exact .inl h
      · exact .inr ⟨dx, vs, g1, f.z _ g2, f.y _ _ g2 g3, fun x d q => let ⟨v, a, b⟩ := g4 x d q; ⟨v, a, Rep.monoW f _ _ b⟩⟩
theorem RepOk.monoW {K : PySem.W.Frag} {s s' : S} (f : Fw K s s') : ∀ (os : List (D × OV)) (vs : List Trip) (P : FP), RepOk K s os vs P → (∀ a, P a → s'.H a = s.H a) → RepOk K s' os vs P
  | [], _, _, h, _ => by cases h; exact .nil
  | (_, o) :: os, _, _, h, k => by
    cases h with
    | cons h1 h2 h3 h4 h5 h6 h7 => exact .cons h1 h2 (Rep.monoW f _ _ h3) h4 (RepO.monoW f o _ _ h5 fun a q => k a (.inl q)) (RepOk.monoW f os _ _ h6 fun a q => k a (.inr q)) h7
theorem RepOs.monoW {K : PySem.W.Frag} {s s' : S} (f : Fw K s s') : ∀ (os : List OV) (vs : List V) (P : FP), RepOs K s os vs P → (∀ a, P a → s'.H a = s.H a) → RepOs K s' os vs P
  | [], _, _, h, _ => by cases h; exact .nil
  | o :: os, _, _, h, k => by
    cases h with
    | cons h1 h2 h3 => exact .cons (RepO.monoW f o _ _ h1 fun a q => k a (.inl q)) (RepOs.monoW f os _ _ h2 fun a q => k a (.inr q)) h3
theorem RepOf.monoW {K : PySem.W.Frag} {s s' : S} (f : Fw K s s') : ∀ (os : List (Str × OV)) (vs : List (Str × V)) (P : FP), RepOf K s os vs P → (∀ a, P a → s'.H a = s.H a) → RepOf K s' os vs P
  | [], _, _, h, _ => by cases h; exact .nil
  | (_, o) :: os, _, _, h, k => by
    cases h with
    | cons h1 h2 h3 => exact .cons (RepO.monoW f o _ _ h1 fun a q => k a (.inl q)) (RepOf.monoW f os _ _ h2 fun a q => k a (.inr q)) h3
end
theorem EnvOk.monoW {K : PySem.W.Frag} {s s' : S} {σ : L2.St} {e : Env} {P : FP} (h : EnvOk K s σ e P) (f : Fw K s s') (k : ∀ a, P a → s'.H a = s.H a) : EnvOk K s' σ e P :=
  let ⟨g, a, hp⟩ := h
  ⟨g, ⟨a.len, fun i o q => let ⟨v, h1, h2⟩ := a.val i o q; ⟨v, h1, h2.monoW f _ _ _ fun x z => k x ((hp x).mpr ⟨i, z⟩)⟩, a.no, a.inj⟩, hp⟩
/-- a frozen dict, locked -/
theorem locked {H : Hp} {d : Addr} {od : Obj} {kvs : List (Key × V)} (h1 : Rd H d (.frz od (.dK kvs))) (h2 : Rd H d (.dK kvs)) : H d = some (.frz od (.dK kvs)) := by
  rcases h1 with h1 | ⟨o, h1⟩
  · exact h1
  · rcases h2 with h2 | ⟨o2, h2⟩
    · rw [h1] at h2; cases h2
    · rw [h1] at h2; cases h2
def lockS (s : S) (d : Addr) (u : HO) : S := ⟨upd s.H d u, s.Z⟩
theorem lock_ext {P : FP} {s : S} {d : Addr} {od : Obj} {kvs : List (Key × V)} (hz : s.Z d) (h : s.H d = some (.dK kvs)) : Ext P s P (lockS s d (.frz od (.dK kvs))) where
  keep := fun a o q _ z => by
    have hx : a ≠ d := fun e => z (by rw [e]; exact hz)
    exact (upd_ne hx).trans q
  frz := fun a u z r => by
    by_cases hx : a = d
    · subst hx
      rcases r with r | ⟨o, r⟩
      · rw [h] at r; cases r
        exact .inr ⟨od, upd_same⟩
      · rw [h] at r; cases r
    · exact r.elim (fun r => .inl ((upd_ne hx).trans r)) fun ⟨o, r⟩ => .inr ⟨o, (upd_ne hx).trans r⟩
  zz := fun _ z => z
  zo := fun _ z => .inl z
  po := fun _ q => .inl q
  dom := fun a q => by
    by_cases hx : a = d
    · subst hx
      have q' : upd s.H a (.frz od (.dK kvs)) a = none := q
      rw [upd_same] at q'; cases q'
    · exact (upd_ne hx).symm.trans q
  wf := fun _ z => .inl z
/-- unlocked again: from the start over the locked states to the end -/
theorem unlock_ext {P P' : FP} {s s2 : S} {d : Addr} {od : Obj} {kvs : List (Key × V)} (hz : s.Z d) (h : s.H d = some (.dK kvs)) (x : Ext P (lockS s d (.frz od (.dK kvs))) P' s2) : Ext P s P' (lockS s2 d (.dK kvs)) where
  keep := fun a o q n z => by
    have hx : a ≠ d := fun e => z (by rw [e]; exact hz)
    exact (upd_ne hx).trans (x.keep a o ((upd_ne hx).trans q) n z)
  frz := fun a u z r => by
    by_cases hx : a = d
    · subst hx
      rcases r with r | ⟨o, r⟩
      · rw [h] at r; cases r
        exact .inl upd_same
      · rw [h] at r; cases r
    · have r' : Rd (lockS s d (.frz od (.dK kvs))).H a u := r.elim (fun r => .inl ((upd_ne hx).trans r)) fun ⟨o, r⟩ => .inr ⟨o, (upd_ne hx).trans r⟩
      exact (x.frz a u z r').elim (fun r => .inl ((upd_ne hx).trans r)) fun ⟨o, r⟩ => .inr ⟨o, (upd_ne hx).trans r⟩
  zz := fun a z => x.zz a z
  zo := fun a z => (x.zo a z).imp_right fun q => q.imp_right fun q => by
    by_cases hx : a = d
    · subst hx
      have q' : upd s.H a (.frz od (.dK kvs)) a = none := q
      rw [upd_same] at q'; cases q'
    · exact (upd_ne hx).symm.trans q
  po := fun a z => (x.po a z).imp_right fun q => by
    by_cases hx : a = d
    · subst hx
      have q' : upd s.H a (.frz od (.dK kvs)) a = none := q
      rw [upd_same] at q'; cases q'
    · exact (upd_ne hx).symm.trans q
  dom := fun a q => by
    by_cases hx : a = d
    · subst hx
      have q' : upd s2.H a (.dK kvs) a = none := q
      rw [upd_same] at q'; cases q'
    · have q1 : s2.H a = none := (upd_ne hx).symm.trans q
      exact (upd_ne hx).symm.trans (x.dom a q1)
  wf := fun a z => (x.wf a z).imp_right fun n q => by
    by_cases hx : a = d
    · subst hx
      have q' : upd s2.H a (.dK kvs) a = none := q
      rw [upd_same] at q'; cases q'
    · exact n ((upd_ne hx).symm.trans q)
theorem unlock_fw {K : PySem.W.Frag} {s2 : S} {d : Addr} {od : Obj} {kvs : List (Key × V)} (hn : od.cls ≠ .type "tuple") (h : s2.H d = some (.frz od (.dK kvs))) : Fw K s2 (lockS s2 d (.dK kvs)) where
  z := fun _ z => z
  l := fun a xs z r => by
    by_cases hx : a = d
    · subst hx
      rcases r with r | ⟨o, r⟩ <;> (rw [h] at r; cases r)
    · exact r.elim (fun r => .inl ((upd_ne hx).trans r)) fun ⟨o, r⟩ => .inr ⟨o, (upd_ne hx).trans r⟩
  t := fun a xs z r => by
    by_cases hx : a = d
    · subst hx
      rcases r with r | ⟨o, r⟩ <;> (rw [h] at r; cases r)
    · exact r.elim (fun r => .inl ((upd_ne hx).trans r)) fun ⟨o, r⟩ => .inr ⟨o, (upd_ne hx).trans r⟩
  n := fun a b o z r => by
    by_cases hx : a = d
    · subst hx
      rcases r with r | ⟨o, r⟩ <;> (rw [h] at r; cases r)
    · exact r.elim (fun r => .inl ((upd_ne hx).trans r)) fun ⟨o, r⟩ => .inr ⟨o, (upd_ne hx).trans r⟩
  i := fun a C dx fs z r => by
    by_cases hx : a = d
    · subst hx
      rcases r with r | ⟨o, r⟩ <;> (rw [h] at r; cases r)
    · exact r.elim (fun r => .inl ((upd_ne hx).trans r)) fun ⟨o, r⟩ => .inr ⟨o, (upd_ne hx).trans r⟩
  x := fun a C od z r => by
    by_cases hx : a = d
    · subst hx
      rcases r with r | ⟨o, r⟩ <;> (rw [h] at r; cases r)
    · exact r.elim (fun r => .inl ((upd_ne hx).trans r)) fun ⟨o, r⟩ => .inr ⟨o, (upd_ne hx).trans r⟩
  y := fun a vs z r => by
    by_cases hx : a = d
    · subst hx
      rcases r with r | ⟨o, r⟩ <;> (rw [h] at r; cases r)
    · exact r.elim (fun r => .inl ((upd_ne hx).trans r)) fun ⟨o, r⟩ => .inr ⟨o, (upd_ne hx).trans r⟩
  d := fun a xs z r => by
    by_cases hx : a = d
    · subst hx
      rcases r with r | ⟨o, r⟩
      · rw [h] at r; cases r
      · rw [h] at r; cases r
        exact .inl upd_same
    · exact r.elim (fun r => .inl ((upd_ne hx).trans r)) fun ⟨o, r⟩ => .inr ⟨o, (upd_ne hx).trans r⟩
  g := fun a q => q.elim (fun ⟨z, o, w, n, r⟩ => by
    by_cases hx : a = d
    · subst hx
      rcases r with r | ⟨o2, r⟩
      · rw [h] at r; cases r
        exact (hn n.1).elim
      · rw [h] at r; cases r
    · exact .inl ⟨z, o, w, n, r.elim (fun r => .inl ((upd_ne hx).trans r)) fun ⟨o, r⟩ => .inr ⟨o, (upd_ne hx).trans r⟩⟩) .inr
/-! ### keys of a dict walked -/
theorem RepK.key {K : PySem.W.Frag} {s : S} : ∀ {kvs : List (Key × V)} {es : List (D × D)}, RepK K s kvs es → ∀ i : Nat, (kvs[i]?).map (fun (q : Key × V) => kD q.1) = (es[i]?).map (fun (q : D × D) => q.1)
  | _, _, .nil, i => by simp
  | _, _, .cons h t, 0 => by simp
  | _, _, .cons h t, i + 1 => by simpa using RepK.key t i
theorem RepK.length {K : PySem.W.Frag} {s : S} : ∀ {kvs : List (Key × V)} {es : List (D × D)}, RepK K s kvs es → kvs.length = es.length
  | _, _, .nil => rfl
  | _, _, .cons h t => by simp [t.length]
theorem wk_keys {K : PySem.W.Frag} {s0 : S} {d : Addr} {od : Obj} {kvs : List (Key × V)} {es : List (D × D)} (hz : s0.Z d) (h : s0.H d = some (.frz od (.dK kvs))) (r : RepK K s0 kvs es) : Wk K (Itk d od kvs) (es.map (·.1)) s0 := by
  intro i s1 f w
  have h1 : s1.H d = some (.frz od (.dK kvs)) := locked (f.r _ _ hz (.inl h)) (f.r _ _ hz (.inr ⟨od, h⟩))
  have hk := r.key i
  refine ⟨fun dd e => ?_, fun hl => ⟨h1, by rw [r.length]; simpa using hl⟩⟩
  rw [List.getElem?_map] at e
  have hi : i < kvs.length := by
    rw [r.length]
    cases q : es[i]? with
    | none => rw [q] at e; cases e
    | some _ => exact (List.getElem?_eq_some_iff.mp q).1
  refine ⟨⟨h1, hi⟩, fun x H' ⟨e3, k, v, e4, e5⟩ => ⟨s1, e3.symm, .refl _ _, ?_⟩⟩
  subst e5
  rw [e4, e] at hk
  cases hk
  exact rep_kV k
/-! ### PS, put together -/
theorem ps_or {X : Cx} {st : Stmt} {t u : TS} (h : PS X st t) (g : PS X st u) : PS X st (fun D σ H => t D σ H ∨ u D σ H) :=
  ⟨fun pins s σ H D I q => q.elim (h.run pins s σ H D I) (g.run pins s σ H D I)⟩
/-- what is locked as a dict is no tuple -/
def NoTup (H : Hp) : Prop := ∀ d od kvs, H d = some (.frz od (.dK kvs)) → od.cls ≠ .type "tuple"
theorem noTup_of {X : Cx} {pins : List (Addr × Obj)} {σ : L2.St} {H : Hp} {s : Shared} (I : L2.Inv X pins σ H s) : NoTup H := by
  intro d od kvs h
  obtain ⟨h1, h2, h3, es, h4, h5⟩ := I.hok d _ h
  obtain ⟨o, es2, ep, g1, g2, _⟩ := h5
  rw [h1] at g1; cases g1
  rw [g2.1]
  decide
theorem ps_guard {X : Cx} {st : Stmt} {t : TS} (h : PS X st t) : PS X st (fun D σ H => NoTup H → t D σ H) :=
  ⟨fun pins s σ H D I q => h.run pins s σ H D I (q (noTup_of I))⟩
section
variable {X : Cx} {fx : List Nat} {a b c e tg : Expr} {es rest : List Expr} {pos p p2 : Pos} {k : Nat} {st : Stmt} {sts : List Stmt}
def GRun (X : Cx) (ts : List Nat) (tgg : V → L2.St → Hp → (L2.St → Hp → Prop) → Prop) (g : MG) : Prop :=
  ∀ σ s env P d v env', EnvOk X.K s σ env P → Own P s → Rep X.K s v d → g d env = some env' →
    ∀ Q : L2.St → Hp → Prop, (∀ σ' P', EnvOk X.K s σ' env' P' → (∀ a, P' a → P a) → Ch ts σ σ' → Q σ' s.H) → tgg v σ s.H Q
def BRun (X : Cx) (fx : List Nat) (tb : TS) (mb : MS) : Prop :=
  ∀ σ s env P out, EnvOk X.K s σ env P → Own P s → mb env = some out → ∀ D, PostS X.K fx σ s P out D → tb D σ s.H
/-- a loop over what is walked from a state on -/
theorem for_core {wi : TI} {ts : List Nat} {tgg : V → L2.St → Hp → (L2.St → Hp → Prop) → Prop} {tb : TS} {g : MG} {mb : MS} {ds : List D} (gr : GRun X ts tgg g) (br : BRun X fx tb mb) (hfx : ∀ i ∈ fx, i ∉ ts)
    {σ : L2.St} {s : S} {env : Env} {P : FP} {out : Out} (a1 : EnvOk X.K s σ env P) (a2 : Own P s)
    (hw : ∀ R : It → Hp → Prop, (∀ J, Wk X.K J ds s → R J s.H) → wi σ s.H R) (a3 : mLoop g mb ds env = some out) (D : L2.Ends) (hq : PostS X.K fx σ s P out D) : tFor wi tgg tb D σ s.H := by
  refine hw _ fun J b4 => ?_
  refine ⟨fun i m σ' H' => m = ds.length - i ∧ ∃ s' P' env', s'.H = H' ∧ EnvOk X.K s' σ' env' P' ∧ Own P' s' ∧ Ext P s P' s' ∧ Fx fx σ σ' ∧ mLoop g mb (ds.drop i) env' = some out, ⟨_, rfl, s, P, env, rfl, a1, a2, .refl _ _, .refl _ _, a3⟩, ?_⟩
  rintro i m σ' H' ⟨rfl, s', P', env', rfl, c1, c2, c3, c4, c5⟩
  obtain ⟨w1, w2⟩ := b4 i s' c3.fz c2.w
  by_cases hi : i < ds.length
  · right
    have ed : ds[i]? = some ds[i] := by simp [hi]
    rw [List.drop_eq_getElem_cons hi] at c5
    obtain ⟨w3, w4⟩ := w1 _ ed
    refine ⟨w3, fun σ2 H2 => ∃ m', m' < ds.length - i ∧ (m' = ds.length - (i + 1) ∧ ∃ s' P' env', s'.H = H2 ∧ EnvOk X.K s' σ2 env' P' ∧ Own P' s' ∧ Ext P s P' s' ∧ Fx fx σ σ2 ∧ mLoop g mb (ds.drop (i + 1)) env' = some out), fun _ _ z => z, fun x H2 y => ?_⟩
    obtain ⟨s2, rfl, x2, r2⟩ := w4 x H2 y
    have d0 : Dis fE P' := fun _ z => z.elim
    unfold mLoop at c5
    split at c5
    · cases c5
    rename_i e2 q2
    have x3 : Ext P' s' P' s2 := ((x2.frame (R := P')).wide fun a z => z.resolve_left fun w => w).sub fun a z => .inr z
    refine gr σ' s2 env' P' _ x e2 (c1.mono (x2.kp d0 c2)) (x2.ownR d0 c2) r2 q2 _ fun σ3 P3 f1 f2 f3 => ?_
    have ow3 := (x2.ownR d0 c2).sub f2
    have xx := c3.trans (x3.sub f2)
    have ff := c4.trans (f3.toFx hfx)
    have again : ∀ e4, mLoop g mb (ds.drop (i + 1)) e4 = some out → Nx X.K fx σ3 s2 P3 e4 fun σ2 H2 => ∃ m', m' < ds.length - i ∧ (m' = ds.length - (i + 1) ∧ ∃ s' P' env', s'.H = H2 ∧ EnvOk X.K s' σ2 env' P' ∧ Own P' s' ∧ Ext P s P' s' ∧ Fx fx σ σ2 ∧ mLoop g mb (ds.drop (i + 1)) env' = some out) :=
      fun e4 q4 σ5 s5 P5 g1 g2 g3 g4 => ⟨_, by omega, rfl, s5, P5, e4, rfl, g1, g2, xx.trans g3, ff.trans g4, q4⟩
    split at c5
    · rename_i e4 q4
      exact br σ3 s2 e2 P3 _ f1 ow3 q4 _ (again e4 c5)
    · rename_i e4 q4
      exact br σ3 s2 e2 P3 _ f1 ow3 q4 _ (again e4 c5)
    · rename_i e4 q4
      cases c5
      refine br σ3 s2 e2 P3 _ f1 ow3 q4 _ ?_
      exact Nx.step (show Nx X.K fx σ s P e4 D.nx from hq) xx ff
    · rename_i n1 n2 n3
      refine br σ3 s2 e2 P3 out f1 ow3 c5 _ ?_
      cases out with
      | nx e => exact (n1 e c5).elim
      | ct e => exact (n2 e c5).elim
      | bk e => exact (n3 e c5).elim
      | rt o e => exact Rt.step (show Rt X.K fx σ s P o e D.rt from hq) xx ff
  · left
    have e0 : ds.drop i = [] := List.drop_eq_nil_of_le (by omega)
    rw [e0] at c5
    cases c5
    exact ⟨w2 (by omega), (show Nx X.K fx σ s P env' D.nx from hq) σ' s' P' c1 c2 c3 c4⟩
/-! ### for k in d: d a dict that is frozen; no return within -/
def mForK (j : Nat) (g : MG) (mb : MS) : MS := fun env => match lk env j with
  | some (.fz (.dict es)) => match mLoop g mb (es.map (·.1)) env with
    | some (.nx e) => some (.nx e)
    | _ => none
  | _ => none
theorem DS.forK {ts : List Nat} {g : MG} {mb : MS} {body : List Stmt} {x : Str} {px : Pos} (j : Nat) (hps : PassesOwn (model X.prog X.w) X.A X.env X.xe) (hc : X.calm = true) (hg : DG X ts tg g) (hb : DSs X fx body mb)
    (hN : X.N[j]? = some x := by rfl) (hx : Vis X.env.scope x := by first | exact Or.inl rfl | exact Or.inr (Or.inl rfl) | exact Or.inr (Or.inr rfl))
    (hd : (x == ("__debug__" : Str)) = false := by decide) (hcd : (x == ("__classdict__" : Str)) = false := by decide) (hfx : ∀ i ∈ fx, i ∉ ts := by decide)
    (hs : ∀ y, foldedSetIterable (.Name x px) X.env y = pure y := by exact fun _ => rfl) : DS X fx (.For tg (.Name x px) body [] pos) (mForK j g mb) := by
  obtain ⟨tgg, gp, gr⟩ := hg.run
  obtain ⟨tb, bp, br⟩ := hb.run
  have base := ps_for (pos := pos) hps hc (pi_keys (pe_var (pos := px) hN hx hd hcd)) gp bp hs
  refine ⟨_, ps_or base (ps_lock (ps_guard base)), fun σ s env P out a1 a2 a3 D hq => ?_⟩
  unfold mForK at a3
  split at a3
  · rename_i es q1
    split at a3
    · rename_i e1 q2
      cases a3
      obtain ⟨v, Po, R, h1, h2, h3, h4, h5, h6⟩ := a1.get q1
      cases h2 with
      | fz h2 =>
        cases h2 with
        | @dic d kvs _ z1 z2 z3 =>
          rcases z2 with z2 | ⟨od, z2⟩
          · refine .inr ⟨d, _, z2, trivial, fun od nt => ?_⟩
            have hcls := nt d od kvs upd_same
            have x0 := lock_ext (P := P) (od := od) z1 z2
            have kp : Kp P s (lockS s d (.frz od (.dK kvs))) := ⟨x0.fz, fun a z => by
              have hx : a ≠ d := fun e => (a2.o a z).1 (by rw [e]; exact z1)
              exact upd_ne hx⟩
            have ow : Own P (lockS s d (.frz od (.dK kvs))) := ⟨fun a z => ⟨(a2.o a z).1, fun q => (a2.o a z).2 (x0.dom a q)⟩, fun a z q => a2.w a z (x0.dom a q)⟩
            have hl : (lockS s d (.frz od (.dK kvs))).H d = some (.frz od (.dK kvs)) := upd_same
            refine for_core (s := lockS s d (.frz od (.dK kvs))) (ds := es.map (·.1)) gr br hfx (a1.mono kp) ow (fun R hR => ⟨_, h1, d, od, rfl, .inl ⟨kvs, hl, hR _ (wk_keys z1 hl (RepK.mono x0.fz _ _ z3))⟩⟩) q2 _ ?_
            intro σ' s' P' b1 b2 b3 b4
            have hl' : s'.H d = some (.frz od (.dK kvs)) := locked (b3.frz _ _ z1 (.inl hl)) (b3.frz _ _ z1 (.inr ⟨od, hl⟩))
            refine ⟨hl', ?_⟩
            have x1 := unlock_ext z1 z2 b3
            have fw := unlock_fw (K := X.K) hcls hl'
            have nd : ∀ a, P' a → a ≠ d := fun a z e => (b2.o a z).1 (by rw [e]; exact b3.zz d z1)
            exact (show Nx X.K fx σ s P e1 D.nx from hq) σ' (lockS s' d (.dK kvs)) P' (b1.monoW fw fun a z => upd_ne (nd a z)) ⟨fun a z => ⟨(b2.o a z).1, fun q => (b2.o a z).2 ((upd_ne (nd a z)).symm.trans q)⟩, fun a z q => by
              by_cases hx : a = d
              · subst hx
                have q' : upd s'.H a (.dK kvs) a = none := q
                rw [upd_same] at q'; cases q'
              · exact b2.w a z ((upd_ne hx).symm.trans q)⟩ x1 b4
          · exact .inl (for_core (ds := es.map (·.1)) gr br hfx a1 a2 (fun R hR => ⟨_, h1, d, od, rfl, .inl ⟨kvs, z2, hR _ (wk_keys z1 z2 z3)⟩⟩) q2 D hq)
    · cases a3
  · cases a3
/-! ### list(d.items()), d any dict -/
def rItemsR : V → Hp → VK → Prop := fun x H Q => ∃ d kvs, x = .ref d ∧ Rd H d (.dK kvs) ∧ ∀ (H' : Hp) (p : Addr) (ts : List Addr), (∀ b o, H b = some o → H' b = some o) → H p = none → (∀ t ∈ ts, H t = none) → ¬ p ∈ ts →
  H' p = some (.lst (ts.map V.ref)) → Paired (fun (t : Addr) (q : Key × V) => H' t = some (.tup [kV q.1, q.2])) ts kvs → Q (.ref p) H'
theorem pe_itemsR {te : TE} {apos cpos : Pos} (hc : X.calm = true) (he : PE X e te) (hg : Gl X "list") (hm : X.mg "list" = none) (hv : bootBuiltins "list" = some (.type "list"))
    (hbase : attributeBase e "items" X.env (eval e X.env) = eval e X.env := by rfl) (hline : (apos.endLine == cpos.line) = true := by rfl)
    (hs : starEach [.Call (.Attribute e "items" apos) [] [] cpos] X.env = (false, eval (.Call (.Attribute e "items" apos) [] [] cpos) X.env) :: starEach [] X.env := by rfl) :
    PE X (.Call (.Name "list" p) [.Call (.Attribute e "items" apos) [] [] cpos] [] pos) (fun σ H Q => te σ H fun x H1 => rItemsR x H1 Q) := by
  refine ⟨fun pins s σ H Q I hq => ?_⟩
  refine wpAny_Call_Name_kw (ld_blt I hg hm hv (PyProof.Rows.callWith_type1 ?_ hs rfl) (by decide) (by decide))
  rw [hs]
  refine Calls.spliced_cons ?_
  refine wpAny_Call_method hbase rfl hline PySem.F.plainAttrs_dict PySem.F.slot_dict_items PySem.F.type_dict_items ?_
  refine thn (he.run pins s σ H (fun x H1 => rItemsR x H1 Q) I hq) fun u s1 hx => ?_
  obtain ⟨x, H1, I1, rx, d, kvs, rfl, hd, q⟩ := hx
  cases rx
  obtain ⟨hz, hs0, vs, kv, hdo⟩ := rd_of I1.hok hd
  obtain ⟨ep, hat⟩ := Heap.DictOf.dictAt hdo
  have lk := Paired.length kv
  have I2 := I1.kept (t' := s1.toks) (h' := s1.heap.push { cls := .type "dict_items", data := .fields #[.ref d] }) fun b ob q => Heap.get?_push_of_some _ q
  refine ⟨Heap.DictOf.typeIs hdo, Heap.MapOf.noDict (Heap.DictOf.mapOf hdo), ?_⟩
  refine method_meetsIn PySem.F.slot_dict_items PySem.F.entry_dict_items rfl (PySem.evalArgs_none ⟨rfl, Heap.DictOf.typeIs hdo, PySem.F.args_dict_items_1 (.ref d), _, meets_dict_items (mixKind X.prog X.w) d hs0, ⟨vs, hdo⟩, ?_⟩)
  refine Calls.spliced_nil ?_
  refine PySem.W.kdx_call (I1.ok.hd hc) ⟨_, Heap.get?_push_size s1.heap rfl, rfl, rfl⟩ (Heap.DictAt.push hat _) (by omega) fun h' tk acc c as hk hS hl hG hacc => ?_
  obtain ⟨H', k1, k2, k3, k4, k5, k6, J⟩ := LiI.items_laid I2 hz kv hk hS hl hG hacc
  exact ⟨.ref _, H', J, rfl, q H' _ as k1 k2 k3 k4 k5 k6⟩
def mItemsA (j : Nat) : ME := fun env => match lk env j with
  | some o => match o.dic? with
    | some kvs => some (.oL (kvs.map fun kv => .tuple [kD kv.1, kv.2]), env)
    | none => none
  | none => none
theorem DE.itemsA (j : Nat) {x : Str} {px apos cpos : Pos} (hc : X.calm = true) (hg : Gl X "list") (hm : X.mg "list" = none) (hN : X.N[j]? = some x := by rfl) (hx : Vis X.env.scope x := by first | exact Or.inl rfl | exact Or.inr (Or.inl rfl) | exact Or.inr (Or.inr rfl))
    (hd : (x == ("__debug__" : Str)) = false := by decide) (hcd : (x == ("__classdict__" : Str)) = false := by decide)
    (hbase : attributeBase (.Name x px) "items" X.env (eval (.Name x px) X.env) = eval (.Name x px) X.env := by rfl) (hline : (apos.endLine == cpos.line) = true := by rfl)
    (hs : starEach [.Call (.Attribute (.Name x px) "items" apos) [] [] cpos] X.env = (false, eval (.Call (.Attribute (.Name x px) "items" apos) [] [] cpos) X.env) :: starEach [] X.env := by rfl) :
    DE X (.Call (.Name "list" p) [.Call (.Attribute (.Name x px) "items" apos) [] [] cpos] [] pos) (mItemsA j) := by
  refine ⟨_, pe_itemsR hc (pe_var hN hx hd hcd) hg hm (by decide +kernel) hbase hline hs, fun σ s env P o env' a1 a2 a3 Q hq => ?_⟩
  unfold mItemsA at a3
  split at a3
  · rename_i od q1
    split at a3
    · rename_i kvs q2
      cases a3
      obtain ⟨v, Po, R, g1, g2, _⟩ := a1.get q1
      obtain ⟨ad, vs, rfl, f2, f3⟩ := g2.dic q2
      refine ⟨_, g1, ad, vs, rfl, f2, fun H' l ts k0 k1 k2 k3 k4 k5 => ?_⟩
      have fz0 : Fz s (⟨H', fU s.Z (fun a => a ∈ ts)⟩ : S) := ⟨fun _ z => .inl z, fun a u _ r => r.elim (fun r => .inl (k0 _ _ r)) fun ⟨o, r⟩ => .inr ⟨o, k0 _ _ r⟩⟩
      have kpP : Kp P s (⟨H', fU s.Z (fun a => a ∈ ts)⟩ : S) := ⟨fz0, fun a z => by
        have nn := (a2.o a z).2
        cases q : s.H a with
        | none => exact (nn q).elim
        | some u => exact k0 _ _ q⟩
      have dm : ∀ a, H' a = none → s.H a = none := fun a z => by
        cases q : s.H a with
        | none => rfl
        | some u => rw [k0 _ _ q] at z; cases z
      have hts : ∀ t ∈ ts, H' t ≠ none := fun t ht => by
        obtain ⟨i, hi⟩ := List.getElem?_of_mem ht
        obtain ⟨y, g1, g2⟩ := LiI.paired_get k5 hi
        rw [g2]
        exact fun z => nomatch z
      refine hq (.ref l) ⟨H', fU s.Z (fun a => a ∈ ts)⟩ P (f1 l) (a1.mono kpP) (.oL k4 (items_rep k5 (f3.mono fz0) fun t h => .inr h)) (fun a z y => (a2.o a z).2 (by cases (show a = l from y); exact k1)) ⟨fun a z => ?_, fun a z => ?_⟩ ⟨fun a u q _ _ => k0 _ _ q, fz0.r, fun _ z => .inl z, fun a z => z.elim .inl fun z => .inr (.inr (k2 a z)), fun a z => z.elim .inl fun z => .inr (by cases (show a = l from z); exact k1), dm, fun a z => z.elim .inl fun z => .inr (hts a z)⟩
      · rcases z with z | z
        · refine ⟨fun y => y.elim (a2.o a z).1 fun y => (a2.o a z).2 (k2 a y), fun y => (a2.o a z).2 (dm a y)⟩
        · cases (show a = l from z)
          refine ⟨fun y => y.elim (fun y => a2.w _ y k1) k3, by show H' l ≠ none; rw [k4]; exact fun z => nomatch z⟩
      · rcases z with z | z
        · exact fun y => a2.w a z (dm a y)
        · exact hts a z
    · cases a3
  · cases a3
end
end G
namespace G
open PySem PySem.Spec PyProof.Rows L2

/-! ### a, b = x, y where a name is read by an inner block -/
theorem Ext.bare {P : FP} {s : S} {a : Addr} {u : HO} (hn : s.H a = none) : Ext P s P ⟨upd s.H a u, s.Z⟩ := (Ext.new (u := u) hn).sub fun _ z => .inl z
section
variable {X : Cx} {fx : List Nat} {a b c e tg : Expr} {es rest : List Expr} {pos p p2 : Pos} {k : Nat} {st : Stmt} {sts : List Stmt}
theorem DS.parT {i j : Nat} {x y : Str} {px py pt : Pos} {kt k2 pt2} {m : MA} (hc : X.calm = true) (hN : X.N.Nodup) (ha : DA X [a, b] m) (hfi : i ∉ fx := by decide) (hfj : j ∉ fx := by decide) (hij : i ≠ j := by decide) (hi : X.N[i]? = some x := by rfl) (hj : X.N[j]? = some y := by rfl)
    (hx : Loc X.env.scope x := by first | exact Or.inl rfl | exact Or.inr rfl) (hy : Loc X.env.scope y := by first | exact Or.inl rfl | exact Or.inr rfl)
    (hfx : X.fn x = true ∨ X.env.scope.names.lookup x = some .local := by first | exact .inl rfl | exact .inr rfl) (hfy : X.fn y = true ∨ X.env.scope.names.lookup y = some .local := by first | exact .inl rfl | exact .inr rfl)
    (hs2 : (assignEach (.Name x px :: [.Name y py]) X.env).map (·.2) = assign (.Name x px) X.env :: (assignEach [.Name y py] X.env).map (·.2) := by rfl)
    (hs3 : (assignEach (.Name y py :: []) X.env).map (·.2) = assign (.Name y py) X.env :: (assignEach [] X.env).map (·.2) := by rfl)
    (hn : (assignEach [.Name x px, .Name y py] X.env).length = 2 := by rfl) (hst : (assignEach [.Name x px, .Name y py] X.env).findIdx? (·.1) = none := by rfl)
    (hs : swapsWithSole [.Tuple [.Name x px, .Name y py] kt pt] (.Tuple [a, b] k2 pt2) pos.line X.env = pure false := by rfl)
    (hw : swappedStores [.Tuple [.Name x px, .Name y py] kt pt] (.Tuple [a, b] k2 pt2) X.env = pure none := by rfl)
    (h1 : (assignEach [.Tuple [.Name x px, .Name y py] kt pt] X.env).map (·.2) = [assign (.Tuple [.Name x px, .Name y py] kt pt) X.env] := by rfl) :
    DS X fx (.Assign [.Tuple [.Name x px, .Name y py] kt pt] (.Tuple [a, b] k2 pt2) pos) (mPar2 i j m) := by
  obtain ⟨ts, t1, t2, t3⟩ := ha.run
  have gp : PG X (.Tuple [.Name x px, .Name y py] kt pt) _ := pg_tup (pos := pt) hc (pgs_cons (pg_name (pos := px) hN hi hx hfx) (pgs_cons (pg_name (pos := py) hN hj hy hfy) pgs_nil hs3) hs2) hn hst
  refine ⟨_, ps_asg (pe_tupG (pos := pt2) t2) gp hs hw h1, fun σ s env P out a1 a2 a3 D hq => ?_⟩
  unfold mPar2 at a3
  split at a3
  · cases a3
  rename_i as e1 q1
  split at a3
  · rename_i o1 o2 e2 q2
    split at a3
    · rename_i hl
      cases a3
      refine t3 σ s env P as e1 a1 a2 q1 _ fun vs s1 P1 R b1 b2 b3 b4 b5 => ?_
      obtain ⟨s2, P2, R2, c1, c2, c3, c4, c5, c6⟩ := parA_ok b2 b1 b3 b4 q2
      match vs, R2, c3, c4, c5, c6 with
      | _, _, .cons (v := v1) (P := R1) r1 (.cons (v := v2) (P := R2) r2 .nil d2) d1, c4, c5, c6 =>
        refine ⟨by rw [sizeLine_eq]; show 2 ≤ 16777216; decide, fun q o nt hp => ?_⟩
        rw [← c1] at hp ⊢
        have x0 : Ext (fU P2 (fU R1 (fU R2 fE))) s2 (fU P2 (fU R1 (fU R2 fE))) ⟨upd s2.H q (.frz o (.tup [v1, v2])), s2.Z⟩ := Ext.bare hp
        have w0 : Own (fU P2 (fU R1 (fU R2 fE))) (⟨upd s2.H q (.frz o (.tup [v1, v2])), s2.Z⟩ : S) := ⟨fun a z => ⟨(c5.o a z).1, fun y => (c5.o a z).2 (x0.dom a y)⟩, fun a z y => c5.w a z (x0.dom a y)⟩
        have kp : ∀ T : FP, (∀ a, T a → fU P2 (fU R1 (fU R2 fE)) a) → Kp T s2 ⟨upd s2.H q (.frz o (.tup [v1, v2])), s2.Z⟩ := fun T hT => ⟨x0.fz, fun a z => upd_ne fun e => (c5.o a (hT a z)).2 (by rw [e]; exact hp)⟩
        have e2 := c2.mono (kp P2 fun a z => .inl z)
        have r1' := RepO.mono _ _ _ r1 (kp R1 fun a z => .inr (.inl z))
        have r2' := RepO.mono _ _ _ r2 (kp R2 fun a z => .inr (.inr (.inl z)))
        obtain ⟨P3, g1, g2⟩ := e2.put hl.1 r1' fun a z y => c4 a z (.inl y)
        obtain ⟨P4, g3, g4⟩ := g1.put (by rw [List.length_set]; exact hl.2) r2' fun a z y => (g2 a z).elim (fun z => c4 a z (.inr (.inl y))) fun z => d1 a z (.inl y)
        have sub : ∀ a, P4 a → fU P2 (fU R1 (fU R2 fE)) a := fun a z => (g4 a z).elim (fun z => (g2 a z).elim .inl fun z => .inr (.inl z)) fun z => .inr (.inr (.inl z))
        refine ⟨q, [v1, v2], rfl, .inl (.inr ⟨o, upd_same⟩), rfl, v1, [v2], rfl, v2, [], rfl, rfl, ?_⟩
        exact hq _ _ P4 g3 (w0.sub sub) ((b5.trans (c6.trans x0)).sub sub) fun l hl => ((Fx.set hfj) l hl).trans ((Fx.set hfi) l hl)
    · cases a3
  · cases a3
end
end G
namespace G
open PySem PySem.Spec PyProof.Rows L2

/-! ### //: any divisor that is not 0 -/
def divWC (_ j : Int) : Bool := decide (j ≠ 0) && decide (bits j < 9000)
def fDivW := iiic divWC fun i j => i.fdiv j
def CDivA : Int → Int → Prop := fun _ j => j ≠ 0 ∧ j.natAbs.log2 < 9000
theorem p_divW {K : PySem.W.Frag} : P2 K (rI CDivA fun i j => .int (i.fdiv j)) fDivW := p_iiic fun i j h => by
  simp only [divWC, Bool.and_eq_true, decide_eq_true_eq] at h
  exact h
theorem op_fdivA {X : Cx} : OpR X (binaryOp .FloorDiv) (rI CDivA fun i j => V.int (i.fdiv j)) :=
  opI fun _ _ _ _ _ _ _ hc q => floordiv_int hc.1 q (.inl (PyProof.noPylong_of_log2 hc.2))
theorem DE.divW {X : Cx} {a b : Expr} {pos : Pos} {m : MA} (h : DA X [a, b] m) : DE X (.BinOp a .FloorDiv b pos) (mOp (l2 fDivW) m) := .bin op_fdivA p_divW h
@[simp] theorem e_divW (i j : Int) : fDivW (.fz (.int i)) (.fz (.int j)) = if j ≠ 0 ∧ bits j < 9000 then some (.fz (.int (i.fdiv j))) else none := by
  show (if divWC i j = true then some (OV.fz (.int (i.fdiv j))) else none) = _
  unfold divWC
  simp only [Bool.and_eq_true, decide_eq_true_eq]
end G
namespace G
open PySem PySem.Spec PyProof.Rows L2
open PySem.SeqAt (EqIn EqAt)

/-! ### in, not in -/
mutual
theorem plain_of : ∀ d : D, d.hasDict = false → d.plain = true
  | .none, _ => rfl
  | .bool _, _ => rfl
  | .int _, _ => rfl
  | .str _, _ => rfl
  | .list xs, h => by rw [PyData.plain]; exact plain_ofs xs (by simpa [PyData.hasDict] using h)
  | .tuple xs, h => by rw [PyData.plain]; exact plain_ofs xs (by simpa [PyData.hasDict] using h)
  | .dict _, h => by simp [PyData.hasDict] at h
theorem plain_ofs : ∀ ds : List D, PyData.hasDictAll ds = false → PyData.plainAll ds = true
  | [], _ => rfl
  | d :: ds, h => by
    simp only [PyData.hasDictAll, Bool.or_eq_false_iff] at h
    rw [PyData.plainAll, plain_of d h.1, plain_ofs ds h.2]; rfl
end
def anyD (ds : List D) (d : D) : Bool := ds.any fun y => PyData.eqv y d
def rInD (K : PySem.W.Frag) (neg : Bool) : R2 := fun x y H Q => ∃ dx ds, Dp K H x dx ∧ (Dp K H y (.list ds) ∨ Dp K H y (.tuple ds)) ∧ dx.hasDict = false ∧ PyData.hasDictAll ds = false ∧ dx.depth ≤ 60 ∧ Q (.bl (xor neg (anyD ds dx))) H
theorem op_inD {X : Cx} (hu : X.A.units + 64 < cLine) : OpR X (compareOp .In) (rInD X.K false) := by
  intro pins s σ H x y v u Q I rx ry h
  obtain ⟨dx, ds, h1, h2, h3, h4, h5, q⟩ := h
  obtain ⟨as, r1⟩ := Dp.reads I dx x v h1 rx
  rcases h2 with h2 | h2
  · obtain ⟨bs, r2⟩ := Dp.reads I _ y u h2 ry
    exact SeqAt.in_list_data r2 r1 (plain_ofs ds h4) (plain_of dx h3) (by omega) ⟨.bl _, H, I, rfl, by simpa [anyD] using q⟩
  · obtain ⟨bs, r2⟩ := Dp.reads I _ y u h2 ry
    exact SeqAt.in_tuple_data r2 r1 (plain_ofs ds h4) (plain_of dx h3) (by omega) ⟨.bl _, H, I, rfl, by simpa [anyD] using q⟩
theorem op_ninD {X : Cx} (hu : X.A.units + 64 < cLine) : OpR X (compareOp .NotIn) (rInD X.K true) := by
  intro pins s σ H x y v u Q I rx ry h
  obtain ⟨dx, ds, h1, h2, h3, h4, h5, q⟩ := h
  obtain ⟨as, r1⟩ := Dp.reads I dx x v h1 rx
  rcases h2 with h2 | h2
  · obtain ⟨bs, r2⟩ := Dp.reads I _ y u h2 ry
    exact SeqAt.notIn_list_data r2 r1 (plain_ofs ds h4) (plain_of dx h3) (by omega) ⟨.bl _, H, I, rfl, by simpa [anyD] using q⟩
  · obtain ⟨bs, r2⟩ := Dp.reads I _ y u h2 ry
    exact SeqAt.notIn_tuple_data r2 r1 (plain_ofs ds h4) (plain_of dx h3) (by omega) ⟨.bl _, H, I, rfl, by simpa [anyD] using q⟩
def rInK (neg : Bool) : R2 := fun x y H Q => ∃ a o, y = .ref a ∧ DGet H a x o ∧ Q (.bl (xor neg o.isSome)) H
theorem op_inK {X : Cx} (hu : X.A.units + 64 < cLine) : OpR X (compareOp .In) (rInK false) := by
  intro pins s σ H x y v u Q I rx ry h
  obtain ⟨a, o, rfl, g, q⟩ := h
  cases ry
  exact d_in (by omega) I g rx fun s' I' => ⟨.bl _, H, I', rfl, by simpa using q⟩
theorem op_ninK {X : Cx} (hu : X.A.units + 64 < cLine) : OpR X (compareOp .NotIn) (rInK true) := by
  intro pins s σ H x y v u Q I rx ry h
  obtain ⟨a, o, rfl, g, q⟩ := h
  cases ry
  exact d_notIn (by omega) I g rx fun s' I' => ⟨.bl _, H, I', rfl, by simpa using q⟩
def rInC (neg : Bool) : R2 := fun x y H Q => ∃ (c : Nat) (z : Str), x = .str ⟨#[c]⟩ ∧ y = .str z ∧ Q (.bl (xor neg (decide (c ∈ z.cps.toList)))) H
theorem op_inC {X : Cx} : OpR X (compareOp .In) (rInC false) := by
  intro pins s σ H x y v u Q I rx ry h
  obtain ⟨c, z, e1, e2, q⟩ := h
  exact op_in_sign pins s σ H x y v u Q I rx ry ⟨c, z, e1, e2, by simpa using q⟩
theorem op_ninC {X : Cx} : OpR X (compareOp .NotIn) (rInC true) := by
  intro pins s σ H x y v u Q I rx ry h
  obtain ⟨c, z, e1, e2, q⟩ := h
  exact op_notIn_sign pins s σ H x y v u Q I rx ry ⟨c, z, e1, e2, by simpa using q⟩
def OV.seqD? (o : OV) : Option (List D) := match o.flat? with
  | some (.list ds) => some ds
  | some (.tuple ds) => some ds
  | _ => none
def sign? : OV → Option Nat
  | .fz (.str x) => match x.cps.toList with
    | [c] => some c
    | _ => none
  | _ => none
def text? : OV → Option Str
  | .fz (.str x) => some x
  | _ => none
def inO (neg : Bool) (a b : OV) : Option OV := match text? b with
  | some z => (sign? a).map fun c => .fz (.bool (xor neg (decide (c ∈ z.cps.toList))))
  | none => match b.dic? with
    | some kvs => a.key?.map fun k => .fz (.bool (xor neg (lkD kvs k).isSome))
    | none => match a.flat?, b.seqD? with
      | some d, some ds => if d.depth ≤ 60 then some (.fz (.bool (xor neg (anyD ds d)))) else none
      | _, _ => none
def fIn := inO false
def fNotIn := inO true
def rInA (K : PySem.W.Frag) (neg : Bool) : R2 := fun x y H Q => rInD K neg x y H Q ∨ rInK neg x y H Q ∨ rInC neg x y H Q
theorem sign_ok {K : PySem.W.Frag} {s : S} {o : OV} {v : V} {P : FP} {c : Nat} (r : RepO K s o v P) (e : sign? o = some c) : v = .str ⟨#[c]⟩ := by
  unfold sign? at e
  split at e
  · rename_i x
    split at e
    · rename_i c' q
      cases e
      rw [r.str]
      congr 1
      obtain ⟨⟨l⟩⟩ := x
      have q' : l = [c] := q
      rw [q']
    · cases e
  · cases e
theorem p_inO {K : PySem.W.Frag} {neg : Bool} : P2 K (rInA K neg) (inO neg) := by
  intro s a v P b u R o w ra rb e Q hq
  unfold inO at e
  split at e
  · rename_i z ez
    obtain ⟨c, ec, rfl⟩ := Option.map_eq_some_iff.mp e
    unfold text? at ez
    split at ez
    · cases ez
      exact .inr (.inr ⟨c, _, sign_ok ra ec, rb.str, hq.bl w⟩)
    · cases ez
  · split at e
    · rename_i kvs ek
      obtain ⟨k, e2, rfl⟩ := Option.map_eq_some_iff.mp e
      obtain ⟨ad, vs, rfl, h1, h2⟩ := rb.dic ek
      rcases h2.val k with ⟨g1, g2⟩ | ⟨v1, d1, g1, g2, g3⟩
      · rw [g2] at hq
        exact .inr (.inl ⟨ad, none, rfl, .inl ⟨vs, k, h1, ra.key e2, g1.symm⟩, hq.bl w⟩)
      · rw [g2] at hq
        exact .inr (.inl ⟨ad, some v1, rfl, .inl ⟨vs, k, h1, ra.key e2, g1.symm⟩, hq.bl w⟩)
    · split at e
      · rename_i d ds e1 e2
        split at e
        · rename_i hd
          cases e
          obtain ⟨p1, p2⟩ := ra.dp e1
          unfold OV.seqD? at e2
          split at e2
          · rename_i ds' e3
            cases e2
            obtain ⟨q1, q2⟩ := rb.dp e3
            exact .inl ⟨d, ds, p1, .inl q1, p2, by simpa [PyData.hasDict] using q2, hd, hq.bl w⟩
          · rename_i ds' e3
            cases e2
            obtain ⟨q1, q2⟩ := rb.dp e3
            exact .inl ⟨d, ds, p1, .inr q1, p2, by simpa [PyData.hasDict] using q2, hd, hq.bl w⟩
          · cases e2
        · cases e
      · cases e
section
variable {X : Cx} {a b : Expr} {pos : Pos} {k : Nat} {m : MA}
theorem DE.in_ (hr : Room k X.A) (h : DA X [a, b] m) (hm : behindInMarks .In b = false := by rfl) : DE X (.Compare a [.In] [b] pos) (mOp (l2 fIn) m) := .cmp (OpR.or (op_inD hr.units) (OpR.or (op_inK hr.units) op_inC)) p_inO hm h
theorem DE.nin (hr : Room k X.A) (h : DA X [a, b] m) (hm : behindInMarks .NotIn b = false := by rfl) : DE X (.Compare a [.NotIn] [b] pos) (mOp (l2 fNotIn) m) := .cmp (OpR.or (op_ninD hr.units) (OpR.or (op_ninK hr.units) op_ninC)) p_inO hm h
theorem DT.in_ (hr : Room k X.A) (h : DA X [a, b] m) (hm : behindInMarks .In b = false := by rfl) : DT X (.Compare a [.In] [b] pos) (mBl (mOp (l2 fIn) m)) := .cmp (OpR.or (op_inD hr.units) (OpR.or (op_inK hr.units) op_inC)) p_inO hm h
theorem DT.nin (hr : Room k X.A) (h : DA X [a, b] m) (hm : behindInMarks .NotIn b = false := by rfl) : DT X (.Compare a [.NotIn] [b] pos) (mBl (mOp (l2 fNotIn) m)) := .cmp (OpR.or (op_ninD hr.units) (OpR.or (op_ninK hr.units) op_ninC)) p_inO hm h
end
/-! ### data with dicts that are the same -/
def sameN : Nat → D → D → Bool
  | 0, _, _ => false
  | _ + 1, .none, .none => true
  | _ + 1, .bool a, .bool b => decide (a = b)
  | _ + 1, .int a, .int b => decide (a = b)
  | _ + 1, .str a, .str b => decide (a = b)
  | n + 1, .list ds, .list es => decide (ds.length = es.length) && (ds.zip es).all fun p => sameN n p.1 p.2
  | n + 1, .tuple ds, .tuple es => decide (ds.length = es.length) && (ds.zip es).all fun p => sameN n p.1 p.2
  | n + 1, .dict es, .dict fs => match esK es, esK fs with
    | some a, some b => decide (a.length = b.length) && a.all fun p => match lkD b p.1 with
      | some u => sameN n p.2 u
      | none => false
    | _, _ => false
  | _ + 1, _, _ => false
/-- two containers of equal things -/
def EqUR (K : PySem.W.Frag) (H : Hp) (E : V → V → Prop) (x y : V) : Prop :=
  (∃ a b xs ys, x = .ref a ∧ y = .ref b ∧ SqL K H a xs ∧ SqL K H b ys ∧ Paired E xs ys) ∨ (∃ a b xs ys, x = .ref a ∧ y = .ref b ∧ SqT K H a xs ∧ SqT K H b ys ∧ Paired E xs ys) ∨
    ∃ a b ks ls, x = .ref a ∧ y = .ref b ∧ Rd H a (.dK ks) ∧ Rd H b (.dK ls) ∧ ks.length = ls.length ∧ ∀ p ∈ ks, ∃ u, valV ls p.1 = some u ∧ E p.2 u
def EqU (K : PySem.W.Frag) (H : Hp) : Nat → V → V → Prop
  | 0 => fun _ _ => False
  | n + 1 => fun x y => (x = y ∧ flatB x = true) ∨ EqUR K H (EqU K H n) x y
theorem paired_rep {K : PySem.W.Frag} {s : S} {E : V → V → Prop} {ds es : List D} {vs us : List V} (r1 : RepL K s vs ds) (r2 : RepL K s us es) (hl : ds.length = es.length)
    (h : ∀ p ∈ ds.zip es, ∀ v u, Rep K s v p.1 → Rep K s u p.2 → E v u) : Paired E vs us := by
  induction ds generalizing es vs us with
  | nil =>
    cases es with
    | nil => cases r1; cases r2; exact .nil
    | cons _ _ => simp at hl
  | cons d ds ih =>
    cases es with
    | nil => simp at hl
    | cons e es =>
      cases r1 with
      | cons a1 a2 =>
        cases r2 with
        | cons b1 b2 => exact .cons (h (d, e) (by simp) _ _ a1 b1) (ih a2 b2 (by simpa using hl) fun p hp v u q1 q2 => h p (by simp [hp]) v u q1 q2)
theorem repO'_mem {K : PySem.W.Frag} {s : S} : ∀ {vs : List (Key × V)} {ds : List (Key × D)}, RepO' K s vs ds → ∀ p ∈ vs, ∃ d, (p.1, d) ∈ ds ∧ Rep K s p.2 d
  | _, _, .nil, p, h => nomatch h
  | _, _, .cons r t, p, h => by
    rcases List.mem_cons.mp h with rfl | h
    · exact ⟨_, List.mem_cons_self, r⟩
    · obtain ⟨d, h1, h2⟩ := repO'_mem t p h
      exact ⟨d, List.mem_cons_of_mem _ h1, h2⟩
theorem same_rep {K : PySem.W.Frag} {s : S} : ∀ (n : Nat) (d e : D) (v u : V), sameN n d e = true → Rep K s v d → Rep K s u e → EqU K s.H n v u
  | 0, _, _, _, _, h, _, _ => by simp [sameN] at h
  | n + 1, .none, e, v, u, h, r1, r2 => by
    cases e <;> simp [sameN] at h
    cases r1; cases r2; exact .inl ⟨rfl, rfl⟩
  | n + 1, .bool a, e, v, u, h, r1, r2 => by
    cases e <;> simp [sameN] at h
    subst h
    cases r1; cases r2; exact .inl ⟨rfl, rfl⟩
  | n + 1, .int a, e, v, u, h, r1, r2 => by
    cases e <;> simp [sameN] at h
    subst h
    cases r1; cases r2; exact .inl ⟨rfl, rfl⟩
  | n + 1, .str a, e, v, u, h, r1, r2 => by
    cases e <;> simp [sameN] at h
    subst h
    cases r1; cases r2; exact .inl ⟨rfl, rfl⟩
  | n + 1, .list ds, e, v, u, h, r1, r2 => by
    cases e with
    | list es =>
      rw [sameN, Bool.and_eq_true, decide_eq_true_eq, List.all_eq_true] at h
      cases r1 with
      | lst a1 a2 =>
        cases r2 with
        | lst b1 b2 => exact .inr (.inl ⟨_, _, _, _, rfl, rfl, a1.sq, b1.sq, paired_rep a2 b2 h.1 fun p hp v u q1 q2 => same_rep n p.1 p.2 v u (h.2 p hp) q1 q2⟩)
    | _ => simp [sameN] at h
  | n + 1, .tuple ds, e, v, u, h, r1, r2 => by
    cases e with
    | tuple es =>
      rw [sameN, Bool.and_eq_true, decide_eq_true_eq, List.all_eq_true] at h
      cases r1 with
      | tup a1 a2 =>
        cases r2 with
        | tup b1 b2 => exact .inr (.inr (.inl ⟨_, _, _, _, rfl, rfl, a1.sq, b1.sq, paired_rep a2 b2 h.1 fun p hp v u q1 q2 => same_rep n p.1 p.2 v u (h.2 p hp) q1 q2⟩))
    | _ => simp [sameN] at h
  | n + 1, .dict es, e, v, u, h, r1, r2 => by
    cases e with
    | dict fs =>
      rw [sameN] at h
      split at h
      · rename_i ka kb e1 e2
        rw [Bool.and_eq_true, decide_eq_true_eq, List.all_eq_true] at h
        cases r1 with
        | dic a0 a1 a2 =>
          cases r2 with
          | dic b0 b1 b2 =>
            have ra := a2.toO' e1
            have rb := b2.toO' e2
            refine .inr (.inr (.inr ⟨_, _, _, _, rfl, rfl, a1, b1, by rw [ra.len, rb.len]; exact h.1, fun p hp => ?_⟩))
            obtain ⟨d, m1, m2⟩ := repO'_mem ra p hp
            have hh := h.2 (p.1, d) m1
            rcases rb.val p.1 with ⟨g1, g2⟩ | ⟨v1, d1, g1, g2, g3⟩
            · simp only [g2] at hh
              cases hh
            · simp only [g2] at hh
              exact ⟨v1, g1, same_rep n d d1 p.2 v1 hh m2 g3⟩
      · cases h
    | _ => simp [sameN] at h
section
variable {X : Cx} {pins : List (Addr × Obj)} {σ : L2.St} {H : Hp} {s : Shared}
theorem each_in {P : Program} {w : World} {A : Around} {F : V → V → Prop} (ih : ∀ x y v u, F x y → RelV x v → RelV y u → EqIn P w A s v u true) {xs ys : List V} (hp : Paired F xs ys) :
    ∀ {us ws : List Value}, Vals xs us → Vals ys ws → ∀ (j : Nat) (q1 : j < us.length) (q2 : j < ws.length), EqIn P w A s us[j] ws[j] true := by
  induction hp with
  | nil => intro us ws r1 r2 j q1 q2; cases r1; exact absurd q1 (Nat.not_lt_zero j)
  | cons f _ more =>
    intro us ws r1 r2 j q1 q2
    cases r1 with
    | cons a1 b1 =>
      cases r2 with
      | cons a2 b2 =>
        cases j with
        | zero => exact ih _ _ _ _ f a1 a2
        | succ j => exact more b1 b2 j (Nat.lt_of_succ_lt_succ q1) (Nat.lt_of_succ_lt_succ q2)
theorem hits_in {P : Program} {w : World} {A : Around} {F : V → V → Prop} (ih : ∀ x y v u, F x y → RelV x v → RelV y u → EqIn P w A s v u true) {ls : List (Key × V)} {vb : List (Key × Value)} (rb : KV ls vb) {ks : List (Key × V)} {va : List (Key × Value)}
    (ra : KV ks va) : (∀ p ∈ ks, ∃ u, valV ls p.1 = some u ∧ F p.2 u) → PySem.W.KeqHitsIn P w A s vb va true := by
  unfold KV at ra
  induction ra with
  | nil => intro _; exact .nil
  | @cons p q ps qs h t more =>
    intro hp
    obtain ⟨h1, h2⟩ := h
    obtain ⟨u, e, f⟩ := hp p List.mem_cons_self
    have rr : RelO (some u) (valueAt vb p.1) := by rw [← e]; exact rb.val p.1
    obtain ⟨y, hy, ry⟩ := rr.some_of
    obtain ⟨key, v⟩ := q
    have h1' : p.1 = key := h1
    rw [h1'] at hy
    exact PySem.W.KeqHitsIn.hit (e := true) (b := true) hy (ih _ _ _ _ f h2 ry) (more fun p' hm => hp p' (List.mem_cons_of_mem _ hm))
theorem dk_at (I : L2.Inv X pins σ H s) {a : Addr} {ks : List (Key × V)} (h : Rd H a (.dK ks)) : ObjOk X.prog X.w H s.heap a (.dK ks) := by
  rcases h with h | ⟨o, h⟩
  · exact I.hok a _ h
  · exact (I.hok a _ h).2
theorem eqUR_run (I : L2.Inv X pins σ H s) {A : Around} {F : V → V → Prop} (hu : A.units < cLine) (ih : ∀ x y v u, F x y → RelV x v → RelV y u → EqIn X.prog X.w A.in1 s v u true) {x y : V} {v u : Value} (h : EqUR X.K H F x y) (rx : RelV x v) (ry : RelV y u)
    (E Q : Value → Shared → Prop) (q : Q (.bool true) s) : wpAny (model X.prog X.w) A (richCompare .Eq v u) Q E s := by
  rcases h with ⟨a, b, xs, ys, rfl, rfl, ha, hb, hp⟩ | ⟨a, b, xs, ys, rfl, rfl, ha, hb, hp⟩ | ⟨a, b, ks, ls, rfl, rfl, ha, hb, hl, hp⟩
  · cases rx
    cases ry
    obtain ⟨us, r1, p1, _⟩ := I.list ha
    obtain ⟨ws, r2, p2, _⟩ := I.list hb
    have hz : us.toArray.size = ws.toArray.size := by rw [List.size_toArray, List.size_toArray, ← r1.length, ← r2.length]; exact Paired.length hp
    refine SeqAt.rcIn_lists (e := fun _ => true) p1.isList p2.isList hz hu (fun j q1 q2 => ?_) ?_
    · simpa using each_in ih hp r1 r2 j (by simpa using q1) (by simpa using q2)
    · rw [show ((List.range us.toArray.size).all fun _ => true) = true from List.all_eq_true.mpr fun _ _ => rfl]; exact q
  · cases rx
    cases ry
    obtain ⟨us, r1, p1, _⟩ := I.tuple ha
    obtain ⟨ws, r2, p2, _⟩ := I.tuple hb
    have hz : us.toArray.size = ws.toArray.size := by rw [List.size_toArray, List.size_toArray, ← r1.length, ← r2.length]; exact Paired.length hp
    refine SeqAt.rcIn_tuples (e := fun _ => true) (show s.heap.IsTuple a us.toArray from p1) (show s.heap.IsTuple b ws.toArray from p2) hu (fun j q1 q2 => ?_) ?_
    · simpa using each_in ih hp r1 r2 j (by simpa using q1) (by simpa using q2)
    · rw [hz, show ((List.range (min ws.toArray.size ws.toArray.size)).all fun _ => true) = true from List.all_eq_true.mpr fun _ _ => rfl]; simpa using q
  · cases rx
    cases ry
    obtain ⟨_, ya, va, ra, da⟩ := dk_at I ha
    obtain ⟨_, yb, vb, rb, db⟩ := dk_at I hb
    refine PySem.W.keq_eqIn (knd := mixKind X.prog X.w) (r := true) ya yb da db hu (fun _ => hits_in ih rb ra hp) ?_
    have e : va.length = vb.length := by rw [← ra.length, ← rb.length]; exact hl
    rw [e]; simpa using q
theorem eqU_run (I : L2.Inv X pins σ H s) : ∀ (n : Nat) (A : Around), A.units + n < cLine → ∀ (x y : V) (v u : Value), EqU X.K H n x y → RelV x v → RelV y u → EqIn X.prog X.w A s v u true
  | 0, _, _, _, _, _, _, h, _, _ => (show False from h).elim
  | n + 1, A, hu, x, y, v, u, h, rx, ry => by
    rcases h with ⟨rfl, f⟩ | h
    · exact (eqAt_same rx ry f).inModel _ _
    · have go := eqUR_run I (A := A) (by omega) (eqU_run I n A.in1 (by show A.units + 1 + n < cLine; omega)) h rx ry
      obtain ⟨a, b, rfl, rfl⟩ : ∃ a b, x = .ref a ∧ y = .ref b := by
        rcases h with ⟨a, b, _, _, e1, e2, _⟩ | ⟨a, b, _, _, e1, e2, _⟩ | ⟨a, b, _, _, e1, e2, _⟩ <;> exact ⟨a, b, e1, e2⟩
      cases rx
      cases ry
      by_cases e : a = b
      · subst e; exact (SeqAt.EqAt.same _).inModel _ _
      · exact SeqAt.EqIn.of_refs e go
end
/-- two tuples of equal things: != says no -/
theorem tup_neS {prog : Program} {w : World} (l r : Addr) (us ws : Array Value) (n m : Nat) (dl dr : Option Addr) (sl sr : Array (Option Value)) (hz : us.size = ws.size) :
    MeetsIn prog w (Builtin.«tuple.__ne__» ⟨[.ref l, .ref r], []⟩)
      (fun A R s => (s.heap.get? l = some { cls := .type "tuple", dict := dl, data := .seq us n, slots := sl } ∧ s.heap.get? r = some { cls := .type "tuple", dict := dr, data := .seq ws m, slots := sr }) ∧
        (∀ (j : Nat) (q1 : j < us.size) (q2 : j < ws.size), EqIn prog w A.in1 s us[j] ws[j] true) ∧ R (.ok (.ret (.bool false))) s) :=
  .of_wp fun A R s h => by
    obtain ⟨hp, g, d, tk, os⟩ := s
    obtain ⟨⟨hl, hr⟩, he, hR⟩ := h
    have f2 := AutoSeq1.sub_tuple_tuple
    wp_walk using AutoSeq1.wpAny_loadPart' hl, AutoSeq1.wpAny_loadPart' hr, wpAny_forIn_list _ (fun rest z s' => z.1 = none ∧ s' = ⟨hp, g, d, tk, os⟩ ∧ ∃ i, rest = (us.toList.zip ws.toList).drop i) _
    case turn =>
      rintro ⟨y, x⟩ rest z s' ⟨hz', rfl, i, hd⟩
      have lt : i < (us.toList.zip ws.toList).length := by
        refine Nat.lt_of_not_le fun q => ?_
        rw [List.drop_of_length_le q] at hd; cases hd
      have lt1 : i < us.size := by simp at lt; omega
      have lt2 : i < ws.size := by simp at lt; omega
      rw [List.drop_eq_getElem_cons lt] at hd
      injection hd with e1 e2
      obtain ⟨ey, ex⟩ : y = us[i] ∧ x = ws[i] := by
        have a1 := congrArg Prod.fst e1
        have a2 := congrArg Prod.snd e1
        exact ⟨by simpa using a1, by simpa using a2⟩
      subst ey ex
      refine wpAny_bind (he i lt1 lt2 _ _ ?_)
      wp_walk
      exact ⟨rfl, rfl, i + 1, e2⟩
    case fin =>
      rintro ⟨z1, z2⟩ s' ⟨hz', rfl, i, hd⟩
      simp only at hz'
      subst hz'
      wp_walk
      exact ⟨_, rfl, by simpa [Builtin.Tuple.tupleCompareSizes, bne, hz] using hR⟩
    case h => exact ⟨rfl, rfl, 0, rfl⟩
def rNeS (K : PySem.W.Frag) : R2 := fun x y H Q => ∃ n a b xs ys, n ≤ 60 ∧ x = .ref a ∧ y = .ref b ∧ SqT K H a xs ∧ SqT K H b ys ∧ Paired (EqU K H n) xs ys ∧ Q (.bl false) H
theorem op_neS {X : Cx} (hu : X.A.units + 64 < cLine) : OpR X (compareOp .NotEq) (rNeS X.K) := by
  intro pins s σ H x y v u Q I rx ry h
  obtain ⟨n, a, b, xs, ys, hn, rfl, rfl, ha, hb, hp, q⟩ := h
  cases rx
  cases ry
  obtain ⟨us, r1, p1, _⟩ := I.tuple ha
  obtain ⟨ws, r2, p2, _⟩ := I.tuple hb
  have hz : us.toArray.size = ws.toArray.size := by rw [List.size_toArray, List.size_toArray, ← r1.length, ← r2.length]; exact Paired.length hp
  have each : ∀ (j : Nat) (q1 : j < us.toArray.size) (q2 : j < ws.toArray.size), EqIn X.prog X.w X.A.in1 s us.toArray[j] ws.toArray[j] true := fun j q1 q2 => by
    simpa using each_in (fun x y v u f a1 a2 => eqU_run I n X.A.in1 (by show X.A.units + 1 + n < cLine; omega) x y v u f a1 a2) hp r1 r2 j (by simpa using q1) (by simpa using q2)
  obtain ⟨⟨cls, dl, data, sl⟩, ho, hc, k1, hd⟩ := id (show s.heap.IsTuple a us.toArray from p1)
  obtain ⟨⟨cls2, dr, data2, sr⟩, ho2, hc2, k2, hd2⟩ := id (show s.heap.IsTuple b ws.toArray from p2)
  simp only at hc hd hc2 hd2
  subst hc hd hc2 hd2
  refine wpAny_richCompare_same_room (T := "tuple") (op := .NotEq) ⟨_, ho, rfl⟩ ⟨_, ho2, rfl⟩ F.slot_tuple_ne ?_ (by omega)
  refine call_meetsIn F.slot_tuple_ne ⟨_, ho, rfl⟩ F.entry_tuple_ne (F.args_tuple_ne_2 _ _) (tup_neS a b us.toArray ws.toArray k1 k2 dl dr sl sr hz) ⟨⟨ho, ho2⟩, each, ?_⟩
  exact ⟨fun z => (nomatch z), .bl false, H, I, rfl, q⟩
def rEqS (K : PySem.W.Frag) : R2 := fun x y H Q => ∃ n, n ≤ 60 ∧ EqUR K H (EqU K H n) x y ∧ Q (.bl true) H
theorem op_eqS {X : Cx} (hu : X.A.units + 64 < cLine) : OpR X (compareOp .Eq) (rEqS X.K) := by
  intro pins s σ H x y v u Q I rx ry h
  obtain ⟨n, hn, h, q⟩ := h
  exact eqUR_run I (A := X.A) (by omega) (eqU_run I n X.A.in1 (by show X.A.units + 1 + n < cLine; omega)) h rx ry _ _ ⟨.bl true, H, I, rfl, q⟩
def isCon : D → Bool
  | .list _ => true
  | .tuple _ => true
  | .dict _ => true
  | _ => false
/-- == and != of data with dicts: known when they are the same -/
def fEqE : OV → OV → Option OV := fun a b => match fEq a b with
  | some o => some o
  | none => match a.frz, b.frz with
    | some d, some e => if isCon d && sameN 61 d e then some (.fz (.bool true)) else none
    | _, _ => none
def fNeE : OV → OV → Option OV := fun a b => match fNe a b with
  | some o => some o
  | none => match a.tup?, b.tup? with
    | some ds, some es => if sameN 61 (.tuple ds) (.tuple es) then some (.fz (.bool false)) else none
    | _, _ => none
theorem RepO.rep {K : PySem.W.Frag} {s : S} {o : OV} {v : V} {P : FP} {d : D} (h : RepO K s o v P) (e : o.frz = some d) : ∃ Z', Rep K ⟨s.H, Z'⟩ v d := ⟨fU s.Z P, h.freeze e (fun _ z => .inl z) fun _ z => .inr z⟩
theorem Rep.anyZ {K : PySem.W.Frag} {H : Hp} {Z Z' : FP} {v : V} {d : D} (h : Rep K ⟨H, Z⟩ v d) : Rep K ⟨H, fU Z Z'⟩ v d := Rep.mono (s := ⟨H, Z⟩) (s' := ⟨H, fU Z Z'⟩) ⟨fun _ z => Or.inl z, fun _ _ _ r => r⟩ _ _ h
theorem Rep.anyZ' {K : PySem.W.Frag} {H : Hp} {Z Z' : FP} {v : V} {d : D} (h : Rep K ⟨H, Z⟩ v d) : Rep K ⟨H, fU Z' Z⟩ v d := Rep.mono (s := ⟨H, Z⟩) (s' := ⟨H, fU Z' Z⟩) ⟨fun _ z => Or.inr z, fun _ _ _ r => r⟩ _ _ h
theorem p_eqE {K : PySem.W.Frag} : P2 K (fun x y H Q => rEqA K x y H Q ∨ rEqS K x y H Q) fEqE := by
  intro s a v P b u R o w ra rb e Q hq
  unfold fEqE at e
  split at e
  · rename_i o' e1
    cases e
    exact .inl (p_eq s a v P b u R o w ra rb e1 Q hq)
  · split at e
    · rename_i d d' e1 e2
      split at e
      · rename_i c
        cases e
        rw [Bool.and_eq_true] at c
        obtain ⟨Z1, g1⟩ := ra.rep e1
        obtain ⟨Z2, g2⟩ := rb.rep e2
        rcases same_rep 61 d d' v u c.2 (g1.anyZ (Z' := Z2)) (g2.anyZ' (Z' := Z1)) with ⟨rfl, f⟩ | h
        · exfalso
          have c1 := c.1
          cases d <;> simp [isCon] at c1
          all_goals (cases g1; cases f)
        · exact .inr ⟨60, by omega, h, hq.bl w⟩
      · cases e
    · cases e
theorem p_neE {K : PySem.W.Frag} : P2 K (fun x y H Q => rNeA K x y H Q ∨ rNeS K x y H Q) fNeE := by
  intro s a v P b u R o w ra rb e Q hq
  unfold fNeE at e
  split at e
  · rename_i o' e1
    cases e
    exact .inl (p_ne s a v P b u R o w ra rb e1 Q hq)
  · split at e
    · rename_i ds es e1 e2
      split at e
      · rename_i c
        cases e
        have ea := OV.tup_of e1
        have eb := OV.tup_of e2
        subst ea eb
        cases ra with
        | fz ra =>
          cases rb with
          | fz rb =>
            cases ra with
            | tup a1 a2 a3 =>
              cases rb with
              | tup b1 b2 b3 =>
                rw [sameN, Bool.and_eq_true, decide_eq_true_eq, List.all_eq_true] at c
                exact .inr ⟨60, _, _, _, _, by omega, rfl, rfl, a1.sq, b1.sq, paired_rep a2 b2 c.1 fun p hp v u q1 q2 => same_rep 60 p.1 p.2 v u (c.2 p hp) q1 q2, hq.bl w⟩
      · cases e
    · cases e
section
variable {X : Cx} {a b : Expr} {pos : Pos} {k : Nat} {m : MA}
theorem DE.eqE (hr : Room k X.A) (h : DA X [a, b] m) : DE X (.Compare a [.Eq] [b] pos) (mOp (l2 fEqE) m) := .cmp (OpR.or (op_eqA hr) (op_eqS hr.units)) p_eqE (nomark _) h
theorem DE.neE (hr : Room k X.A) (h : DA X [a, b] m) : DE X (.Compare a [.NotEq] [b] pos) (mOp (l2 fNeE) m) := .cmp (OpR.or (op_neA hr) (op_neS hr.units)) p_neE (nomark _) h
theorem DT.eqE (hr : Room k X.A) (h : DA X [a, b] m) : DT X (.Compare a [.Eq] [b] pos) (mBl (mOp (l2 fEqE) m)) := .cmp (OpR.or (op_eqA hr) (op_eqS hr.units)) p_eqE (nomark _) h
theorem DT.neE (hr : Room k X.A) (h : DA X [a, b] m) : DT X (.Compare a [.NotEq] [b] pos) (mBl (mOp (l2 fNeE) m)) := .cmp (OpR.or (op_neA hr) (op_neS hr.units)) p_neE (nomark _) h
end
end G
namespace G
open PySem PySem.Spec PyProof.Rows L2

/-! ### dict comprehensions -/
def mDcL (vs : List Nat) (g : MG) (t : MT) (mk m : MD) : List D → List (Key × D) → Env → Option (List (Key × D) × Env)
  | [], acc, e => some (acc, e)
  | d :: ds, acc, e => match g d e with
    | none => none
    | some e1 => match t e1 with
      | none => none
      | some (false, e2) => mDcL vs g t mk m ds acc (clr vs e2)
      | some (true, e2) => match mk e2 with
        | none => none
        | some (kd, e3) => match keyOf kd with
          | none => none
          | some k => match m e3 with
            | none => none
            | some (d', e4) => if acc.length ≤ lim then mDcL vs g t mk m ds (putD acc k d') (clr vs e4) else none
def mDComp (vs : List Nat) (mi : MI) (g : MG) (t : MT) (mk m : MD) : ME := fun env => match mi env with
  | none => none
  | some (ds, e1) => match mDcL vs g t mk m ds [] (clr vs e1) with
    | none => none
    | some (acc, e2) => some (.oD acc, e2)
/-- its reading -/
theorem dc_run {X : Cx} {K : PySem.W.Frag} {σ : L2.St} {s : S} {P : FP} {ds : List D} {e1 e2 : Env} {J : It} {vs ts : List Nat} {g : MG} {t : MT} {mk m : MD} {acc : List (Key × D)} {tgg : TG} {tt : TT} {tk te : TE} {Q : VK} (hts : ∀ j ∈ ts, j ∈ vs)
    (gr : ∀ σ s env P d v env', EnvOk K s σ env P → Own P s → Rep K s v d → g d env = some env' → ∀ Q : L2.St → Hp → Prop, (∀ σ' P', EnvOk K s σ' env' P' → (∀ a, P' a → P a) → Ch ts σ σ' → Q σ' s.H) → tgg v σ s.H Q)
    (tr : ∀ σ s env P b env', EnvOk K s σ env P → Own P s → t env = some (b, env') → ∀ Q, PostT K σ s P b env' Q → tt σ s.H Q)
    (kr : ∀ σ s env P d env', EnvOk K s σ env P → Own P s → mk env = some (d, env') → ∀ Q, PostF K σ s P d env' Q → tk σ s.H Q)
    (er : ∀ σ s env P d env', EnvOk K s σ env P → Own P s → m env = some (d, env') → ∀ Q, PostF K σ s P d env' Q → te σ s.H Q)
    (b1 : EnvOk K s σ e1 P) (b2 : Own P s) (b4 : Wk K J ds s) (hm : mDcL vs g t mk m ds [] (clr vs e1) = some (acc, e2)) (hq : PostE K σ s P (.oD acc) e2 Q) :
    ∀ D, s.H D = none → ∃ W : Nat → Nat → Hp → Prop, (∃ m, W 0 m (upd s.H D (.dK []))) ∧ ∀ i m H, W i m H →
      (J.stop i H ∧ Q (.ref D) H) ∨ (J.go i H ∧ ∃ Nx : Hp → Prop, (∀ H', Nx H' → ∃ m', m' < m ∧ W (i + 1) m' H') ∧ ∀ x H', J.yld i H x H' → tgg x (wipe σ vs) H' fun σ2 H2 => wipe σ2 vs = wipe σ vs ∧ tt σ2 H2 fun b H3 =>
        if b = true then tk σ2 H3 fun y H4 => te σ2 H4 fun z H5 => ∃ kvs k, y = kV k ∧ H5 D = some (.dK kvs) ∧ kvs.length < sizeLine ∧ Nx (upd H5 D (.dK (putK kvs k z))) else Nx H3) := by
  intro D hD
  have x0 : Ext P s (fU P (f1 D)) ⟨upd s.H D (.dK []), s.Z⟩ := Ext.new hD
  have nPD : ¬ P D := fun z => (b2.o D z).2 hD
  have w0 : Own (fU P (f1 D)) (⟨upd s.H D (.dK []), s.Z⟩ : S) := ⟨fun a z => by
    rcases z with z | z
    · exact ⟨(b2.o a z).1, fun q => (b2.o a z).2 (x0.dom a q)⟩
    · cases (show a = D from z)
      exact ⟨fun z => b2.w _ z hD, by show upd s.H D _ D ≠ none; rw [upd_same]; exact fun z => nomatch z⟩, fun a z q => b2.w a z (x0.dom a q)⟩
  have k0 : Kp P s ⟨upd s.H D (.dK []), s.Z⟩ := ⟨x0.fz, fun a z => upd_ne fun e => nPD (by rw [← e]; exact z)⟩
  obtain ⟨P0, c0, c0'⟩ := (b1.mono k0).clr vs
  refine ⟨fun i n H => n = ds.length - i ∧ ∃ s' P' env' a va, s'.H = H ∧ EnvOk K s' (wipe σ vs) env' P' ∧ (∀ j ∈ vs, lk env' j = none) ∧ Own (fU P' (f1 D)) s' ∧ ¬ P' D ∧ Ext P s (fU P' (f1 D)) s' ∧ Fz s s' ∧ s'.H D = some (.dK va) ∧ RepO' K s' va a ∧ mDcL vs g t mk m (ds.drop i) a env' = some (acc, e2),
    ⟨_, rfl, _, P0, clr vs e1, [], [], rfl, c0.wipe vs clr_none, clr_none, w0.sub fun a z => z.imp_left (c0' a), fun z => nPD (c0' _ z), x0.sub fun a z => z.imp_left (c0' a), x0.fz, upd_same, .nil, hm⟩, ?_⟩
  rintro i n H ⟨rfl, s', P', env', a, va, rfl, d1, d2, d3, d4, d5, d6, d7, d8, d9⟩
  obtain ⟨w1, w2⟩ := b4 i s' d6 d3.w
  by_cases hi : i < ds.length
  · right
    have ed : ds[i]? = some ds[i] := by simp [hi]
    rw [List.drop_eq_getElem_cons hi] at d9
    obtain ⟨w3, w4⟩ := w1 _ ed
    refine ⟨w3, fun H2 => ∃ m', m' < ds.length - i ∧ (m' = ds.length - (i + 1) ∧ ∃ s' P' env' a va, s'.H = H2 ∧ EnvOk K s' (wipe σ vs) env' P' ∧ (∀ j ∈ vs, lk env' j = none) ∧ Own (fU P' (f1 D)) s' ∧ ¬ P' D ∧ Ext P s (fU P' (f1 D)) s' ∧ Fz s s' ∧ s'.H D = some (.dK va) ∧ RepO' K s' va a ∧ mDcL vs g t mk m (ds.drop (i + 1)) a env' = some (acc, e2)), fun _ z => z, fun x H2 y => ?_⟩
    obtain ⟨s2, rfl, x2, r2⟩ := w4 x H2 y
    have d0 : Dis fE (fU P' (f1 D)) := fun _ z => z.elim
    unfold mDcL at d9
    split at d9
    · cases d9
    rename_i ea q2
    have kk := x2.kp d0 d3
    have ow2 := x2.ownR d0 d3
    have x3 : Ext (fU P' (f1 D)) s' (fU P' (f1 D)) s2 := ((x2.frame (R := fU P' (f1 D))).wide fun a z => z.resolve_left fun w => w).sub fun a z => .inr z
    refine gr _ s2 env' P' _ x ea (d1.mono kk.l) (ow2.sub fun _ z => .inl z) r2 q2 _ fun σ3 P3 f1' f2 f3 => ?_
    have wp : wipe σ3 vs = wipe σ vs := by
      refine List.ext_getElem? fun j => ?_
      have hl : σ3.length = σ.length := by rw [f3.len, wipe_length]
      rw [wipe_get, wipe_get, hl]
      by_cases hj : j ∈ vs
      · by_cases hj2 : j < σ.length
        · simp [hj, hj2]
        · simp [hj2, List.getElem?_eq_none (show σ3.length ≤ j by omega), List.getElem?_eq_none (show σ.length ≤ j by omega)]
      · rw [if_neg fun z => hj z.1, if_neg fun z => hj z.1, f3.same j fun z => hj (hts j z), wipe_get, if_neg fun z => hj z.1]
    refine ⟨wp, ?_⟩
    have ow3 : Own (fU P3 (f1 D)) s2 := ow2.sub fun a z => z.imp_left (f2 a)
    have nD3 : ¬ P3 D := fun z => d4 (f2 _ z)
    have xs2 : Ext P s (fU P3 (f1 D)) s2 := (d5.trans x3).sub fun a z => z.imp_left (f2 a)
    have hD2 : s2.H D = some (.dK va) := (kk.k D (.inr rfl)).trans d7
    have dD : Dis P3 (f1 D) := fun a z y => nD3 (by cases (show a = D from y); exact z)
    have oD : Own (f1 D) s2 := ow3.sub fun _ z => .inr z
    split at d9
    · cases d9
    · rename_i eb q3
      refine tr σ3 s2 ea P3 false eb f1' (ow3.sub fun _ z => .inl z) q3 _ fun s3 P4 g1 g2 g3 => ?_
      rw [if_neg Bool.false_ne_true]
      have oD3 := g3.ownR dD oD
      have dD4 := g3.disR dD oD
      have xs3 := xs2.trans (g3.frame (R := f1 D))
      obtain ⟨P5, h1, h2⟩ := g1.clr vs
      refine ⟨_, by omega, rfl, s3, P5, clr vs eb, a, va, rfl, ?_, clr_none, (g2.or oD3).sub fun a z => z.imp_left (h2 a), fun z => dD4 D (h2 D z) rfl, xs3.sub fun a z => z.imp_left (h2 a), xs3.fz, ((g3.kp dD oD).k D rfl).trans hD2, (d8.mono x2.fz).mono g3.fz, d9⟩
      rw [← wp]
      exact h1.wipe vs clr_none
    · rename_i eb q3
      refine tr σ3 s2 ea P3 true eb f1' (ow3.sub fun _ z => .inl z) q3 _ fun s3 P4 g1 g2 g3 => ?_
      rw [if_pos rfl]
      have oD3 := g3.ownR dD oD
      have dD4 := g3.disR dD oD
      have xs3 := xs2.trans (g3.frame (R := f1 D))
      split at d9
      · cases d9
      rename_i kd ek qk
      split at d9
      · cases d9
      rename_i key qq
      split at d9
      · cases d9
      rename_i d' ec q4
      split at d9
      · rename_i hz
        refine kr σ3 s3 eb P4 kd ek g1 g2 qk _ fun y s4 P6 i1 i2 i3 i4 => ?_
        have oD4 := i4.ownR dD4 oD3
        have dD6 := i4.disR dD4 oD3
        have xs4 := xs3.trans (i4.frame (R := f1 D))
        refine er σ3 s4 ek P6 d' ec i1 i3 q4 _ fun z s5 P8 j1 j2 j3 j4 => ?_
        have oD5 := j4.ownR dD6 oD4
        have dD8 := j4.disR dD6 oD4
        have xs5 := xs4.trans (j4.frame (R := f1 D))
        have hD5 : s5.H D = some (.dK va) := ((j4.kp dD6 oD4).k D rfl).trans (((i4.kp dD4 oD3).k D rfl).trans (((g3.kp dD oD).k D rfl).trans hD2))
        have ra : RepO' K s5 va a := (((d8.mono x2.fz).mono g3.fz).mono i4.fz).mono j4.fz
        refine ⟨va, key, i2.key qq, hD5, by rw [ra.len]; exact lt_line hz, ?_⟩
        have x5 : Ext (fU P8 (f1 D)) s5 (fU P8 (f1 D)) ⟨upd s5.H D (.dK (putK va key z)), s5.Z⟩ := Ext.write (j3.or oD5) (.inr rfl)
        have k5 : Kp P8 s5 ⟨upd s5.H D (.dK (putK va key z)), s5.Z⟩ := ⟨x5.fz, fun a z => upd_ne fun e => dD8 a z (show a = D from e)⟩
        have w5 : Own (fU P8 (f1 D)) (⟨upd s5.H D (.dK (putK va key z)), s5.Z⟩ : S) := ⟨fun a z => ⟨((j3.or oD5).o a z).1, fun q => ((j3.or oD5).o a z).2 (x5.dom a q)⟩, fun a z q => j3.w a z (x5.dom a q)⟩
        obtain ⟨P7, h1, h2⟩ := (j1.mono k5).clr vs
        have xs6 := xs5.trans x5
        refine ⟨_, by omega, rfl, ⟨upd s5.H D (.dK (putK va key z)), s5.Z⟩, P7, clr vs ec, putD a key d', putK va key z, rfl, ?_, clr_none, w5.sub fun a z => z.imp_left (h2 a), fun z => dD8 D (h2 D z) rfl, xs6.sub fun a z => z.imp_left (h2 a), xs6.fz, upd_same, (ra.put key j2).mono x5.fz, d9⟩
        rw [← wp]
        exact h1.wipe vs clr_none
      · cases d9
  · left
    have e0 : ds.drop i = [] := List.drop_eq_nil_of_le (by omega)
    rw [e0] at d9
    cases d9
    have hl : wipe (wipe σ vs) vs = wipe σ vs := by
      refine List.ext_getElem? fun j => ?_
      rw [wipe_get, wipe_get, wipe_length]
      by_cases hj : j ∈ vs ∧ j < σ.length
      · simp [hj]
      · rw [if_neg hj, if_neg hj]
    exact ⟨w2 (by omega), hq (.ref D) s' P' (f1 D) (d1.unwipe vs hl d2) (.oD d7 d8) (fun a z y => d4 (by cases (show a = D from y); exact z)) d3 d5⟩
section
variable {X : Cx} {kx vx tg iter : Expr} {ifs : List Expr} {scope : Scope} {own : List (Str × Nat)} {pos spos : Pos} {ts : List Nat} {mi : MI} {g : MG} {t : MT} {mk m : MD}
theorem DE.dcomp (own : List (Str × Nat)) (hc : X.calm = true) (hN : X.N.Nodup) (hi : DI X tg iter mi) (ok : BlkOk X.N X.env.scope scope own)
    (hg : ∀ (s : Shared) (H : Hp) (C : Addr) (cl : List (Str × Addr)) (fp : List Addr), DG (X.blk s H scope (compEnvC scope cl C X.env) fp) ts tg g) (ht : ∀ (s : Shared) (H : Hp) (C : Addr) (cl : List (Str × Addr)) (fp : List Addr), DTs (X.blk s H scope (compEnvC scope cl C X.env) fp) ifs t)
    (hk : ∀ (s : Shared) (H : Hp) (C : Addr) (cl : List (Str × Addr)) (fp : List Addr), DF (X.blk s H scope (compEnvC scope cl C X.env) fp) kx mk)
    (he : ∀ (s : Shared) (H : Hp) (C : Addr) (cl : List (Str × Addr)) (fp : List Addr), DF (X.blk s H scope (compEnvC scope cl C X.env) fp) vx m) (hts : ∀ j ∈ ts, j ∈ own.map (·.2) := by decide)
    (hs : ∀ x, foldedSetIterable iter X.env x = pure x := by exact fun _ => rfl) : DE X (.DictComp kx vx [⟨tg, iter, ifs, 0⟩] scope pos) (mDComp (own.map (·.2)) mi g t mk m) := by
  obtain ⟨wi, ip, ir⟩ := hi.run
  obtain ⟨tgg, gp, gr⟩ := all_G (F := fun (q : Shared × Hp × Addr × List (Str × Addr) × List Addr) => X.blk q.1 q.2.1 scope (compEnvC scope q.2.2.2.1 q.2.2.1 X.env) q.2.2.2.2) (K := X.K) (fun _ => rfl) fun q => hg q.1 q.2.1 q.2.2.1 q.2.2.2.1 q.2.2.2.2
  obtain ⟨tt, tp, tr⟩ := all_T (F := fun (q : Shared × Hp × Addr × List (Str × Addr) × List Addr) => X.blk q.1 q.2.1 scope (compEnvC scope q.2.2.2.1 q.2.2.1 X.env) q.2.2.2.2) (K := X.K) (fun _ => rfl) fun q => ht q.1 q.2.1 q.2.2.1 q.2.2.2.1 q.2.2.2.2
  obtain ⟨tk, kp, kr⟩ := all_F (F := fun (q : Shared × Hp × Addr × List (Str × Addr) × List Addr) => X.blk q.1 q.2.1 scope (compEnvC scope q.2.2.2.1 q.2.2.1 X.env) q.2.2.2.2) (K := X.K) (fun _ => rfl) fun q => hk q.1 q.2.1 q.2.2.1 q.2.2.2.1 q.2.2.2.2
  obtain ⟨te, ep, er⟩ := all_F (F := fun (q : Shared × Hp × Addr × List (Str × Addr) × List Addr) => X.blk q.1 q.2.1 scope (compEnvC scope q.2.2.2.1 q.2.2.1 X.env) q.2.2.2.2) (K := X.K) (fun _ => rfl) fun q => he q.1 q.2.1 q.2.2.1 q.2.2.2.1 q.2.2.2.2
  refine ⟨_, pe_dc hc hN ip ok (fun s H C cl fp => gp (s, H, C, cl, fp)) (fun s H C cl fp => tp (s, H, C, cl, fp)) (fun s H C cl fp => kp (s, H, C, cl, fp)) (fun s H C cl fp => ep (s, H, C, cl, fp)) hs, fun σ s env P o env' a1 a2 a3 Q hq => ?_⟩
  unfold mDComp at a3
  split at a3
  · cases a3
  rename_i ds e1 q1
  split at a3
  · cases a3
  rename_i acc e2 q2
  cases a3
  refine ir σ s env P ds e1 a1 a2 q1 _ fun J s1 P1 b1 b2 b3 b4 => ?_
  exact dc_run (X := X) hts gr tr kr er b1 b2 b4 q2 fun v s' P' R c1 c2 c3 c4 c5 => hq v s' P' R c1 c2 c3 c4 (b3.trans c5)
theorem ps_setD {i : Nat} {y : Str} {py : Pos} {wi : TI} {gg : TG} {tt : TT} {tk tv : TE} (hc : X.calm = true) (hN : X.N.Nodup) (hy : X.N[i]? = some y) (hyl : X.env.scope.names.lookup y = some .local)
    (hsw : swapsWith (.DictComp kx vx [⟨tg, iter, ifs, 0⟩] scope pos) (some (.Name y py)) spos.line X.env = pure true) (hi : PI X tg iter wi) (ok : BlkOk X.N X.env.scope scope own)
    (hg : ∀ (s : Shared) (H : Hp) (C : Addr) (cl : List (Str × Addr)) (fp : List Addr), PG (X.blk s H scope (compEnvC scope cl C X.env) fp) tg gg) (ht : ∀ (s : Shared) (H : Hp) (C : Addr) (cl : List (Str × Addr)) (fp : List Addr), PTs (X.blk s H scope (compEnvC scope cl C X.env) fp) ifs tt)
    (hk : ∀ (s : Shared) (H : Hp) (C : Addr) (cl : List (Str × Addr)) (fp : List Addr), PE (X.blk s H scope (compEnvC scope cl C X.env) fp) kx tk)
    (he : ∀ (s : Shared) (H : Hp) (C : Addr) (cl : List (Str × Addr)) (fp : List Addr), PE (X.blk s H scope (compEnvC scope cl C X.env) fp) vx tv) (hs : ∀ x, foldedSetIterable iter X.env x = pure x) :
    PS X (.Assign [.Name y py] (.DictComp kx vx [⟨tg, iter, ifs, 0⟩] scope pos) spos) (tAsg (tDc wi gg tt tk tv (own.map (·.2))) (gName i)) := by
  refine ⟨fun pins s σ H D I hh => ?_⟩
  rw [exec_Assign_Name_used _ _ _ _ hsw]; refine wpAny_bind (wpAny_standAt (wpAny_bind ?_))
  show wpAny _ X.A (do let _ ← comprehension (.DictComp kx vx [⟨tg, iter, ifs, 0⟩] scope pos) scope X.env (firstIterPos [⟨tg, iter, ifs, 0⟩] pos) newDict false (eval iter X.env) (some (assign (.Name y py) X.env))) _ _ s
  have h : tDc wi gg tt tk tv (own.map (·.2)) σ H (fun x H1 => gName i x σ H1 D.nx) := hh
  refine wpAny_bind (thn (dc_core (Qf := fun _ s' => SP X pins D .next s') hc hN I hi ok hg ht hk he hs h fun L C s' mm H' I' q hn f => ?_) fun _ s' hq => wpAny_pure (wpAny_pure hq))
  show wpAny _ _ (assign (.Name y py) X.env (.ref L)) _ _ _; refine wpAny_assign_Name (store_ok2 (v := V.ref L) I' hN hy (.inl hyl) rfl (fun s2 I2 ⟨a, sb, ha⟩ => ?_) (.inr hyl))
  obtain ⟨f0, f1, f2, f3, f4, f5⟩ := f; have apart : C ≠ a := ha.elim (fun z => by rw [z]; exact f1) fun z e => f4 y a z e.symm
  exact ⟨mm, hn.sameBut sb apart, fun h3 sb3 => ⟨_, H', I2.turned (t' := s2.toks) (fun b o hb e => (sb3.2 b hb).trans e) f0 f1 f3 f4 f5, q⟩⟩
theorem DS.setDComp {fx : List Nat} {i : Nat} {y : Str} {py : Pos} (own : List (Str × Nat)) (hc : X.calm = true) (hN : X.N.Nodup) (hi : DI X tg iter mi) (ok : BlkOk X.N X.env.scope scope own)
    (hg : ∀ (s : Shared) (H : Hp) (C : Addr) (cl : List (Str × Addr)) (fp : List Addr), DG (X.blk s H scope (compEnvC scope cl C X.env) fp) ts tg g) (ht : ∀ (s : Shared) (H : Hp) (C : Addr) (cl : List (Str × Addr)) (fp : List Addr), DTs (X.blk s H scope (compEnvC scope cl C X.env) fp) ifs t)
    (hk : ∀ (s : Shared) (H : Hp) (C : Addr) (cl : List (Str × Addr)) (fp : List Addr), DF (X.blk s H scope (compEnvC scope cl C X.env) fp) kx mk)
    (he : ∀ (s : Shared) (H : Hp) (C : Addr) (cl : List (Str × Addr)) (fp : List Addr), DF (X.blk s H scope (compEnvC scope cl C X.env) fp) vx m) (hts : ∀ j ∈ ts, j ∈ own.map (·.2) := by decide) (hfx : i ∉ fx := by decide) (hy : X.N[i]? = some y := by rfl) (hyl : X.env.scope.names.lookup y = some .local := by rfl)
    (hsw : swapsWith (.DictComp kx vx [⟨tg, iter, ifs, 0⟩] scope pos) (some (.Name y py)) spos.line X.env = pure true := by exact sw_true rfl rfl rfl (by decide +kernel)) (hs : ∀ x, foldedSetIterable iter X.env x = pure x := by exact fun _ => rfl) :
    DS X fx (.Assign [.Name y py] (.DictComp kx vx [⟨tg, iter, ifs, 0⟩] scope pos) spos) (mSet i (mDComp (own.map (·.2)) mi g t mk m)) := by
  obtain ⟨wi, ip, ir⟩ := hi.run
  obtain ⟨tgg, gp, gr⟩ := all_G (F := fun (q : Shared × Hp × Addr × List (Str × Addr) × List Addr) => X.blk q.1 q.2.1 scope (compEnvC scope q.2.2.2.1 q.2.2.1 X.env) q.2.2.2.2) (K := X.K) (fun _ => rfl) fun q => hg q.1 q.2.1 q.2.2.1 q.2.2.2.1 q.2.2.2.2
  obtain ⟨tt, tp, tr⟩ := all_T (F := fun (q : Shared × Hp × Addr × List (Str × Addr) × List Addr) => X.blk q.1 q.2.1 scope (compEnvC scope q.2.2.2.1 q.2.2.1 X.env) q.2.2.2.2) (K := X.K) (fun _ => rfl) fun q => ht q.1 q.2.1 q.2.2.1 q.2.2.2.1 q.2.2.2.2
  obtain ⟨tk, kp, kr⟩ := all_F (F := fun (q : Shared × Hp × Addr × List (Str × Addr) × List Addr) => X.blk q.1 q.2.1 scope (compEnvC scope q.2.2.2.1 q.2.2.1 X.env) q.2.2.2.2) (K := X.K) (fun _ => rfl) fun q => hk q.1 q.2.1 q.2.2.1 q.2.2.2.1 q.2.2.2.2
  obtain ⟨te, ep, er⟩ := all_F (F := fun (q : Shared × Hp × Addr × List (Str × Addr) × List Addr) => X.blk q.1 q.2.1 scope (compEnvC scope q.2.2.2.1 q.2.2.1 X.env) q.2.2.2.2) (K := X.K) (fun _ => rfl) fun q => he q.1 q.2.1 q.2.2.1 q.2.2.2.1 q.2.2.2.2
  refine ⟨_, ps_setD hc hN hy hyl hsw ip ok (fun s H C cl fp => gp (s, H, C, cl, fp)) (fun s H C cl fp => tp (s, H, C, cl, fp)) (fun s H C cl fp => kp (s, H, C, cl, fp)) (fun s H C cl fp => ep (s, H, C, cl, fp)) hs, fun σ s env P out a1 a2 a3 D hq => ?_⟩
  unfold mSet at a3
  split at a3
  · cases a3
  rename_i o e9 q9
  split at a3
  · rename_i hl
    cases a3
    unfold mDComp at q9
    split at q9
    · cases q9
    rename_i ds e1 q1
    split at q9
    · cases q9
    rename_i acc e2 q2
    cases q9
    refine ir σ s env P ds e1 a1 a2 q1 _ fun J s1 P1 b1 b2 b3 b4 => ?_
    refine dc_run (X := X) (Q := fun x H1 => gName i x σ H1 D.nx) hts gr tr kr er b1 b2 b4 q2 fun v s' P' R c1 c2 c3 c4 c5 => ?_
    obtain ⟨P9, g1, g2⟩ := c1.put hl c2 c3
    exact hq _ s' P9 g1 (c4.sub g2) ((b3.trans c5).sub g2) (Fx.set hfx)
  · cases a3
end
end G
namespace G
open PySem PySem.Spec PyProof.Rows L2

/-! ### list * int -/
def fRep : OV → OV → Option OV
  | .oL ds, .fz (.int k) => if k.natAbs ≤ lim ∧ ds.length * k.toNat ≤ lim then some (.oL (List.replicate k.toNat ds).flatten) else none
  | _, _ => none
theorem RepL.rep {K : PySem.W.Frag} {s : S} {vs : List V} {ds : List D} (h : RepL K s vs ds) : ∀ n : Nat, RepL K s (List.replicate n vs).flatten (List.replicate n ds).flatten
  | 0 => .nil
  | n + 1 => by
    rw [List.replicate_succ, List.replicate_succ, List.flatten_cons, List.flatten_cons]
    exact h.append (RepL.rep h n)
theorem p_rep {K : PySem.W.Frag} : P2 K rRep fRep := by
  intro s a v P b u R o w ra rb e Q hq
  unfold fRep at e
  split at e
  · rename_i ds k
    split at e
    · rename_i h
      cases e
      have := rb.int
      subst this
      cases ra with
      | oL h1 h2 =>
        have hl : lim = 16000000 := rfl
        have := h.1
        refine ⟨_, _, _, rfl, rfl, h1, by omega, by omega, by rw [h2.length]; exact le_line h.2, fun p hp => ?_⟩
        exact hq.newL w (RepL.rep h2 k.toNat) hp
    · cases e
  · cases e
theorem DE.rep {X : Cx} {a b : Expr} {pos : Pos} {m : MA} (h : DA X [a, b] m) : DE X (.BinOp a .Mult b pos) (mOp (l2 fRep) m) := .bin op_rep p_rep h

/-! ### xs[::-1], xs a list -/
def mRevL (m : MV) : ME := fun env => match m env with
  | none => none
  | some (a, e1) => match resolve1 e1 a with
    | none => none
    | some o => match o.lst? with
      | some ds => some (.oL ds.reverse, e1)
      | none => none
theorem DE.revL {X : Cx} {e : Expr} {k : Nat} {p1 p2 p3 pos : Pos} {mv : MV} (h : DV X e mv) : DE X (.Subscript e (.Slice none none (some (.UnaryOp .USub (.Constant (.int 1) k p1) p2)) p3) pos) (mRevL mv) := by
  obtain ⟨t, hp, hr⟩ := h.run
  refine ⟨_, pe_revL hp, fun σ s env P o env' a1 a2 a3 Q hq => ?_⟩
  unfold mRevL at a3
  split at a3
  · cases a3
  rename_i av e1 q1
  split at a3
  · cases a3
  rename_i ov q4
  split at a3
  · rename_i ds e3
    cases a3
    refine hr σ s env P av env' a1 a2 q1 _ fun v s1 P1 R b1 b2 b3 b4 b5 => ?_
    obtain ⟨u, W, e0, rd⟩ := (b2.read b1 (os := [ov]) (by simp [resolve, q4])).one
    cases e0
    obtain ⟨a, vs, rfl, h1, h2⟩ := rd.lst e3
    have w1 : Own P1 s1 := b4.sub fun _ z => .inl z
    have hq' : PostP X.K s1 (.oL ds.reverse) Q := hq.pure b1 w1 (b5.sub fun x z => .inl z)
    exact ⟨a, vs, rfl, h1, fun p hp => hq'.newL w1.w h2.reverse hp⟩
  · cases a3
end G
namespace G
open PySem PySem.Spec PyProof.Rows L2

/-! ### zip of any rows: the pairs are known by their objects -/
def ItzG (K : PySem.W.Frag) (a b : Addr) : It :=
  ⟨(Itz K a b).go, fun i H v H' => ∃ T x y o, NewT o ∧ v = .ref T ∧ H T = none ∧ H' = upd H T (.frz o (.tup [x, y])) ∧ (∀ xs, SqL K H a xs → xs[i]? = some x) ∧ ∀ ys, SqL K H b ys → ys[i]? = some y, (Itz K a b).stop⟩
def ItzH (K : PySem.W.Frag) (a b : Addr) : It :=
  ⟨(RZ.ItzT K a b).go, fun i H v H' => ∃ T x y o, NewT o ∧ v = .ref T ∧ H T = none ∧ H' = upd H T (.frz o (.tup [x, y])) ∧ (∀ xs, SqT K H a xs → xs[i]? = some x) ∧ ∀ ys, SqT K H b ys → ys[i]? = some y, (RZ.ItzT K a b).stop⟩
section
variable {P : Program} {w : World} {K : PySem.W.Frag} {elts : List Expr} {kk : Nat} {tpos : Pos} {a b z TI TO i1 i2 : Addr}
/-- the five objects of a zip are older than what it makes -/
theorem five_old {h : Heap} {q1 q2 : Addr → Prop} {c : Addr} (e : c ∈ [z, TI, TO, i1, i2]) (h0 : z < h.objs.size) (h1 : TI < h.objs.size) (h2 : TO < h.objs.size) (h3 : i1 < h.objs.size) (h4 : i2 < h.objs.size) : c < h.objs.size := by
  simp only [List.mem_cons, List.not_mem_nil, or_false] at e
  rcases e with rfl | rfl | rfl | rfl | rfl <;> assumption
theorem turn_zipG (D : ZipApart z TI TO i1 i2 a b) :
    Turn P w K (.Tuple elts kk tpos) (ItzG K a b) [z, TI, TO, i1, i2] z (fun i h => IsZip h z TI TO .none ∧ IsPair h TI (.ref i1) (.ref i2) ∧ (∃ x y, IsPair h TO x y) ∧ h.IsListIter i1 a i ∧ h.IsListIter i2 b i) := by
  have t := turn_zip (P := P) (w := w) (K := K) (elts := elts) (kk := kk) (tpos := tpos) D
  refine ⟨t.mem, t.obj, t.keep, ?_, t.done, t.self⟩
  intro X eP ew eK _ i pins s σ H E I hf st hg
  subst eP ew eK
  obtain ⟨qz, qT, ⟨v0, w0, qO⟩, q1, q2⟩ := st
  obtain ⟨xs, ys, x, y, mx, my, gx, gy⟩ := hg
  obtain ⟨us, rx, px, _⟩ := I.list mx
  obtain ⟨vs, ry, py, _⟩ := I.list my
  obtain ⟨u, hu, ru⟩ := rx.get gx
  obtain ⟨v, hv, rv⟩ := ry.get gy
  have l0 := Heap.lt_size qz
  have l3 : i1 < s.heap.objs.size := let ⟨_, e, _⟩ := q1; Heap.lt_size e
  have l4 : i2 < s.heap.objs.size := let ⟨_, e, _⟩ := q2; Heap.lt_size e
  refine wpAny_pyNext_zip_item D qz qT qO q1 q2 px.isList py.isList (x := u) (y := v) (by simpa using hu) (by simpa using hv) fun g n1 n2 n3 n4 n5 _ n7 => ?_
  refine ⟨_, rfl, wpAny_letOwnedTupleGo_zip (s := { s with heap := g }) n1 fun g2 n8 sb => ?_⟩
  have made : g2.get? s.heap.objs.size = some { cls := .type "tuple", data := .seq #[u, v] } := (sb.2 _ (Nat.ne_of_gt l0)).trans n5
  have old : ∀ c o, c ∉ [z, TI, TO, i1, i2] → s.heap.get? c = some o → g2.get? c = some o := fun c o m q => by
    simp only [List.mem_cons, List.not_mem_nil, or_false, not_or] at m
    exact (sb.2 c m.1).trans (n7 c o m.1 m.2.2.1 m.2.2.2.1 m.2.2.2.2 q)
  have ok : ObjOk X.prog X.w (upd H s.heap.objs.size (.frz { cls := .type "tuple", data := .seq #[u, v] } (.tup [x, y]))) g2 s.heap.objs.size (.frz { cls := .type "tuple", data := .seq #[u, v] } (.tup [x, y])) :=
    ⟨made, by show 2 ≤ sizeLine; decide, [u, v], .cons ru (.cons rv .nil), ⟨_, made, rfl, _, rfl⟩⟩
  refine ⟨.ref s.heap.objs.size, _, I.turnedNew (t' := s.toks) (ch := [z, TI, TO, i1, i2]) old hf (Nat.le_refl _) ok, rfl,
    ⟨_, x, y, _, ⟨rfl, rfl⟩, rfl, I.hok.fresh (Nat.le_refl _), rfl, fun l hl => (I.list_inj hl mx) ▸ gx, fun l hl => (I.list_inj hl my) ▸ gy⟩, ⟨n8, ?_, ⟨u, v, (sb.2 _ D.TOz).trans n2⟩, n3.at fun o q => (sb.2 _ D.i1z).trans q, n4.at fun o q => (sb.2 _ D.i2z).trans q⟩, fun c hcm => ?_⟩
  · exact (sb.2 _ D.TIz).trans (n7 _ _ D.TIz D.TITO D.TIi1 D.TIi2 qT)
  · rw [upd_ne (Nat.ne_of_lt (five_old (q1 := fun _ => True) (q2 := fun _ => True) hcm l0 (Heap.lt_size qT) (Heap.lt_size qO) l3 l4))]
    exact (hf c hcm).1
theorem turn_zipH (D : ZipApart z TI TO i1 i2 a b) :
    Turn P w K (.Tuple elts kk tpos) (ItzH K a b) [z, TI, TO, i1, i2] z (fun i h => IsZip h z TI TO .none ∧ IsPair h TI (.ref i1) (.ref i2) ∧ (∃ x y, IsPair h TO x y) ∧ h.IsTupleIter i1 a i ∧ h.IsTupleIter i2 b i) := by
  have t := RZ.turn_zipT (P := P) (w := w) (K := K) (elts := elts) (kk := kk) (tpos := tpos) D
  refine ⟨t.mem, t.obj, t.keep, ?_, t.done, t.self⟩
  intro X eP ew eK _ i pins s σ H E I hf st hg
  subst eP ew eK
  obtain ⟨qz, qT, ⟨v0, w0, qO⟩, q1, q2⟩ := st
  obtain ⟨xs, ys, x, y, mx, my, gx, gy⟩ := hg
  obtain ⟨us, rx, px, _⟩ := I.tuple mx
  obtain ⟨vs, ry, py, _⟩ := I.tuple my
  obtain ⟨u, hu, ru⟩ := rx.get gx
  obtain ⟨v, hv, rv⟩ := ry.get gy
  have l0 := Heap.lt_size qz
  have l3 : i1 < s.heap.objs.size := let ⟨_, e, _⟩ := q1; Heap.lt_size e
  have l4 : i2 < s.heap.objs.size := let ⟨_, e, _⟩ := q2; Heap.lt_size e
  refine RZ.pyNext_zipT_item D qz qT qO q1 q2 px py (x := u) (y := v) (by simpa using hu) (by simpa using hv) fun g n1 n2 n3 n4 n5 _ n7 => ?_
  refine ⟨_, rfl, wpAny_letOwnedTupleGo_zip (s := { s with heap := g }) n1 fun g2 n8 sb => ?_⟩
  have made : g2.get? s.heap.objs.size = some { cls := .type "tuple", data := .seq #[u, v] } := (sb.2 _ (Nat.ne_of_gt l0)).trans n5
  have old : ∀ c o, c ∉ [z, TI, TO, i1, i2] → s.heap.get? c = some o → g2.get? c = some o := fun c o m q => by
    simp only [List.mem_cons, List.not_mem_nil, or_false, not_or] at m
    exact (sb.2 c m.1).trans (n7 c o m.1 m.2.2.1 m.2.2.2.1 m.2.2.2.2 q)
  have ok : ObjOk X.prog X.w (upd H s.heap.objs.size (.frz { cls := .type "tuple", data := .seq #[u, v] } (.tup [x, y]))) g2 s.heap.objs.size (.frz { cls := .type "tuple", data := .seq #[u, v] } (.tup [x, y])) :=
    ⟨made, by show 2 ≤ sizeLine; decide, [u, v], .cons ru (.cons rv .nil), ⟨_, made, rfl, _, rfl⟩⟩
  refine ⟨.ref s.heap.objs.size, _, I.turnedNew (t' := s.toks) (ch := [z, TI, TO, i1, i2]) old hf (Nat.le_refl _) ok, rfl,
    ⟨_, x, y, _, ⟨rfl, rfl⟩, rfl, I.hok.fresh (Nat.le_refl _), rfl, fun l hl => (I.tuple_inj hl mx) ▸ gx, fun l hl => (I.tuple_inj hl my) ▸ gy⟩, ⟨n8, ?_, ⟨u, v, (sb.2 _ D.TOz).trans n2⟩, n3.at fun o q => (sb.2 _ D.i1z).trans q, n4.at fun o q => (sb.2 _ D.i2z).trans q⟩, fun c hcm => ?_⟩
  · exact (sb.2 _ D.TIz).trans (n7 _ _ D.TIz D.TITO D.TIi1 D.TIi2 qT)
  · rw [upd_ne (Nat.ne_of_lt (five_old (q1 := fun _ => True) (q2 := fun _ => True) hcm l0 (Heap.lt_size qT) (Heap.lt_size qO) l3 l4))]
    exact (hf c hcm).1
end
def iZipG (K : PySem.W.Frag) (ta : TA) : TI := fun σ H R => ta σ H fun vs H1 => ∃ a b xs ys, vs = [.ref a, .ref b] ∧ ((SqL K H1 a xs ∧ SqL K H1 b ys ∧ R (ItzG K a b) H1) ∨ (SqT K H1 a xs ∧ SqT K H1 b ys ∧ R (ItzH K a b) H1))
theorem pi_zipG {X : Cx} {e e2 : Expr} {ta : TA} {p pos tpos : Pos} {elts : List Expr} {kk : Nat} (hg : Gl X "zip") (hm : X.mg "zip" = none) (ha : PA X [e, e2] ta)
    (hs : starEach [e, e2] X.env = (false, eval e X.env) :: starEach [e2] X.env) (hpl : (backTo pos (starEach [e2] X.env)).any (·.1) = false) :
    PI X (.Tuple elts kk tpos) (.Call (.Name "zip" p) [e, e2] [] pos) (iZipG X.K ta) := by
  constructor
  intro pins s σ H R I h
  refine Call_ (ld_blt I hg hm PyProof.Rows.boot_zip (PyProof.Rows.callWith_type1 (thn (ha.run pos pins s σ H _ I h) fun us s1 q0 => ?_) hs hpl))
  obtain ⟨vs, H1, J, r1, a, b, xs, ys, rfl, q1⟩ := q0
  rcases r1 with _ | ⟨r, _ | ⟨r', _ | _⟩⟩
  cases r
  cases r'
  have young : ∀ c, c ∈ [s1.heap.objs.size + 4, s1.heap.objs.size + 2, s1.heap.objs.size + 3, s1.heap.objs.size, s1.heap.objs.size + 1] → FpOk X pins H1 c := fun c hcm => by
    have hle : s1.heap.objs.size ≤ c := by
      simp only [List.mem_cons, List.not_mem_nil, or_false] at hcm
      omega
    exact J.fpOk hle (J.hok.fresh hle)
  rcases q1 with ⟨mx, my, q⟩ | ⟨mx, my, q⟩
  · obtain ⟨us, _, px, _⟩ := J.list mx
    obtain ⟨ws, _, py, _⟩ := J.list my
    exact call_zip_2 px.isList py.isList fun g n0 n1 n2 n3 n4 _ n6 => wpAny_pyIter_zip n0
      ⟨_, _, _, _, H1, rfl, J.kept (t' := s1.toks) n6, turn_zipG (PySem.W.ktu_apart s1.heap.objs.size a b px.lt py.lt), ⟨n0, n1, ⟨_, _, n2⟩, n3, n4⟩, young, q⟩
  · obtain ⟨us, _, px, _⟩ := J.tuple mx
    obtain ⟨ws, _, py, _⟩ := J.tuple my
    have lx : a < s1.heap.objs.size := let ⟨_, e, _⟩ := px; Heap.lt_size e
    have ly : b < s1.heap.objs.size := let ⟨_, e, _⟩ := py; Heap.lt_size e
    exact RZ.call_zipT px py fun g n0 n1 n2 n3 n4 _ n6 => wpAny_pyIter_zip n0
      ⟨_, _, _, _, H1, rfl, J.kept (t' := s1.toks) n6, turn_zipH (PySem.W.ktu_apart s1.heap.objs.size a b lx ly), ⟨n0, n1, ⟨_, _, n2⟩, n3, n4⟩, young, q⟩
theorem pair_newG {K : PySem.W.Frag} {s0 s1 : S} {T : Addr} {x y : V} {dx dy : D} {o : Obj} (n : NewT o) (hT : s1.H T = none) (f : Fz s0 s1) (rx : Rep K s0 x dx) (ry : Rep K s0 y dy) :
    ∃ s2 : S, s2.H = upd s1.H T (.frz o (.tup [x, y])) ∧ Ext fE s1 fE s2 ∧ Rep K s2 (.ref T) (.tuple [dx, dy]) := by
  have e : Ext fE s1 fE ⟨upd s1.H T (.frz o (.tup [x, y])), fU s1.Z (f1 T)⟩ := Ext.newz hT
  exact ⟨_, rfl, e, .tup (.inl ⟨.inr rfl, .inr ⟨o, upd_same⟩⟩) (.cons (Rep.mono (f.trans e.fz) _ _ rx) (.cons (Rep.mono (f.trans e.fz) _ _ ry) .nil)) fun _ => .inl ⟨.inr rfl, o, .tup [x, y], n, .inl upd_same⟩⟩
theorem wk_zipG {K : PySem.W.Frag} {s0 : S} {a b : Addr} {vs us : List V} {ds es : List D} (h : LAt K s0 a vs) (r : RepL K s0 vs ds) (h' : LAt K s0 b us) (r' : RepL K s0 us es) : Wk K (ItzG K a b) (zipD ds es) s0 := by
  intro i s1 f w
  have h1 := (h.mono f).sq
  have h2 := (h'.mono f).sq
  refine ⟨fun d e => ?_, fun hl => ⟨vs, us, h1, h2, ?_⟩⟩
  · obtain ⟨x, y, e1, e2, rfl⟩ := zip_get e
    obtain ⟨v, g1, g2⟩ := r.get' e1
    obtain ⟨u, g3, g4⟩ := r'.get' e2
    refine ⟨⟨vs, us, v, u, h1, h2, g1, g3⟩, fun z H' ⟨T, v', u', o, n, e3, e4, e5, e6, e7⟩ => ?_⟩
    subst e3 e5
    have c1 := e6 vs h1
    have c2 := e7 us h2
    rw [g1] at c1; cases c1
    rw [g3] at c2; cases c2
    exact pair_newG n e4 f g2 g4
  · unfold zipD at hl
    rw [List.length_zipWith, ← r.length, ← r'.length] at hl
    omega
theorem wk_zipH {K : PySem.W.Frag} {s0 : S} {a b : Addr} {vs us : List V} {ds es : List D} (h : TAt K s0 a vs) (r : RepL K s0 vs ds) (h' : TAt K s0 b us) (r' : RepL K s0 us es) : Wk K (ItzH K a b) (zipD ds es) s0 := by
  intro i s1 f w
  have h1 := (h.mono f).sq
  have h2 := (h'.mono f).sq
  refine ⟨fun d e => ?_, fun hl => ⟨vs, us, h1, h2, ?_⟩⟩
  · obtain ⟨x, y, e1, e2, rfl⟩ := zip_get e
    obtain ⟨v, g1, g2⟩ := r.get' e1
    obtain ⟨u, g3, g4⟩ := r'.get' e2
    refine ⟨⟨vs, us, v, u, h1, h2, g1, g3⟩, fun z H' ⟨T, v', u', o, n, e3, e4, e5, e6, e7⟩ => ?_⟩
    subst e3 e5
    have c1 := e6 vs h1
    have c2 := e7 us h2
    rw [g1] at c1; cases c1
    rw [g3] at c2; cases c2
    exact pair_newG n e4 f g2 g4
  · unfold zipD at hl
    rw [List.length_zipWith, ← r.length, ← r'.length] at hl
    omega
def zipG : D → D → Option (List D)
  | .list xs, .list ys => some (zipD xs ys)
  | .tuple xs, .tuple ys => some (zipD xs ys)
  | _, _ => none
def mZipG (ma mb : MD) : MI := fun env => match ma env with
  | none => none
  | some (x, e1) => match mb e1 with
    | none => none
    | some (y, e2) => (zipG x y).map (·, e2)
theorem DI.zipG {X : Cx} {a b : Expr} {elts : List Expr} {pos p tpos : Pos} {kk : Nat} {ma mb : MD} (hg : Gl X "zip") (hm : X.mg "zip" = none) (ha : DF X a ma) (hb : DF X b mb) (hs : starEach [a, b] X.env = (false, eval a X.env) :: starEach [b] X.env := by rfl) (hs2 : starEach [b] X.env = (false, eval b X.env) :: starEach [] X.env := by rfl) (hpl : (backTo pos (starEach [b] X.env)).any (·.1) = false := by rfl) :
    DI X (.Tuple elts kk tpos) (.Call (.Name "zip" p) [a, b] [] pos) (mZipG ma mb) := by
  obtain ⟨ta, pa, ra⟩ := ha.run
  obtain ⟨tb, pb, rb⟩ := hb.run
  refine ⟨_, pi_zipG hg hm (pa_cons pa (pa_cons pb pa_nil hs2) hs) hs hpl, fun σ s env P ds env' a1 a2 a3 R hq => ?_⟩
  unfold mZipG at a3
  split at a3
  · cases a3
  rename_i x e1 q1
  split at a3
  · cases a3
  rename_i y e2 q2
  obtain ⟨zs, q3, q4⟩ := Option.map_eq_some_iff.mp a3
  cases q4
  refine ra σ s env P x e1 a1 a2 q1 _ fun v1 s1 P1 b1 b2 b3 b4 => ?_
  refine rb σ s1 e1 P1 y _ b1 b3 q2 _ fun v2 s2 P2 c1 c2 c3 c4 => ?_
  have b2' := Rep.mono c4.fz _ _ b2
  unfold G.zipG at q3
  split at q3
  · cases q3
    cases b2' with
    | lst h1 h2 =>
      cases c2 with
      | lst h3 h4 => exact ⟨_, _, _, _, rfl, .inl ⟨h1.sq, h3.sq, hq _ s2 P2 c1 c3 (b4.trans c4) (wk_zipG h1 h2 h3 h4)⟩⟩
  · cases q3
    cases b2' with
    | tup h1 h2 _ =>
      cases c2 with
      | tup h3 h4 _ => exact ⟨_, _, _, _, rfl, .inr ⟨h1.sq, h3.sq, hq _ s2 P2 c1 c3 (b4.trans c4) (wk_zipH h1 h2 h3 h4)⟩⟩
  · cases q3
end G
namespace G
open PySem PySem.Spec PyProof.Rows L2

/-! ### isinstance(x, (T, U)) -/
def fIsi2 (T U : String) (o : OV) : Option Bool := match fIsi T o with
  | none => none
  | some a => match fIsi U o with
    | none => none
    | some b => some (a || b)
def mIsi2 (T U : String) (m : MV) : MT := fun env => match m env with
  | none => none
  | some (a, e1) => match resolve1 e1 a with
    | none => none
    | some o => (fIsi2 T U o).map (·, e1)
theorem fIsi_two {K : PySem.W.Frag} {s : S} {o : OV} {v : V} {P : FP} (h : RepO K s o v P) {T U : String} {b : Bool} (e : fIsi2 T U o = some b) : ∃ t, TyX K s.H v (.type t) ∧ PySem.W.kitAny K (.type t) [.type T, .type U] = some b := by
  unfold fIsi2 at e
  split at e
  · cases e
  rename_i x q1
  split at e
  · cases e
  rename_i y q2
  cases e
  unfold fIsi at q1 q2
  split at q1
  · cases q1
  rename_i t q
  rw [q] at q2
  refine ⟨t, tyx_of h q, ?_⟩
  have k1 := kit_ty (K := K) q1
  have k2 := kit_ty (K := K) q2
  unfold PySem.W.kitAny
  rw [k1]
  cases x with
  | true => rfl
  | false =>
    show PySem.W.kitAny K (.type t) [.type U] = some y
    unfold PySem.W.kitAny
    rw [k2]
    cases y <;> rfl
section
variable {X : Cx} {a : Expr} {p pt pu pos tpos : Pos} {kk : Nat}
theorem DE.isi2 {T U : String} {m : MV} {t u : Str} (hg : Gl X "isinstance") (hm : X.mg "isinstance" = none) (h : DV X a m) (hgt : Gl X t) (hmt : X.mg t = none) (hb : bootBuiltins t = some (.type T)) (hgu : Gl X u) (hmu : X.mg u = none) (hbu : bootBuiltins u = some (.type U))
    (hn : t ≠ "__name__" := by decide) (hd : (t == ("__debug__" : Str)) = false := by decide) (hnu : u ≠ "__name__" := by decide) (hdu : (u == ("__debug__" : Str)) = false := by decide)
    (ht1 : starEach [.Name t pt, .Name u pu] X.env = (false, eval (.Name t pt) X.env) :: starEach [.Name u pu] X.env := by rfl) (ht2 : starEach [.Name u pu] X.env = (false, eval (.Name u pu) X.env) :: starEach [] X.env := by rfl)
    (he : starEach [a, .Tuple [.Name t pt, .Name u pu] kk tpos] X.env = (false, eval a X.env) :: starEach [.Tuple [.Name t pt, .Name u pu] kk tpos] X.env := by rfl) (he2 : starEach [.Tuple [.Name t pt, .Name u pu] kk tpos] X.env = (false, eval (.Tuple [.Name t pt, .Name u pu] kk tpos) X.env) :: starEach [] X.env := by rfl) (hpl : (backTo pos (starEach [.Tuple [.Name t pt, .Name u pu] kk tpos] X.env)).any (·.1) = false := by rfl) :
    DE X (.Call (.Name "isinstance" p) [a, .Tuple [.Name t pt, .Name u pu] kk tpos] [] pos) (mBo (mIsi2 T U m)) := by
  obtain ⟨ta, pa, ra⟩ := h.run
  have pt2 := pe_tup (pos := tpos) (x1 := kk) (pa_cons (pe_bltn (pos := pt) hgt hmt hb (v := .ty T) rfl hn hd) (pa_cons (pe_bltn (pos := pu) hgu hmu hbu (v := .ty U) rfl hnu hdu) pa_nil ht2) ht1)
  refine ⟨_, pe_callB call_isiT hg hm (by decide +kernel) (pa_cons pa (pa_cons pt2 pa_nil he2) he) (by decide) (by decide) he hpl, fun σ s env P o env' a1 a2 a3 Q hq => ?_⟩
  unfold mBo at a3
  split at a3
  · cases a3
  rename_i r e1 q1
  cases a3
  unfold mIsi2 at q1
  split at q1
  · cases q1
  rename_i av e2 q2
  split at q1
  · cases q1
  rename_i o' q3
  obtain ⟨b', q4, q5⟩ := Option.map_eq_some_iff.mp q1
  cases q5
  refine ra σ s env P av _ a1 a2 q2 _ fun v s1 P1 R b1 b2 b3 b4 b5 => ?_
  refine ⟨by show 2 ≤ sizeLine; decide, fun q hp => ?_⟩
  have x0 : Ext fE s1 fE ⟨upd s1.H q (.tup [.ty T, .ty U]), fU s1.Z (f1 q)⟩ := Ext.newz hp
  have x1 : Ext (fU P1 R) s1 (fU P1 R) ⟨upd s1.H q (.tup [.ty T, .ty U]), fU s1.Z (f1 q)⟩ := Ext.newz hp
  have k := x0.kp (R := fU P1 R) (fun _ z => z.elim) b4
  have ow := x0.ownR (R := fU P1 R) (fun _ z => z.elim) b4
  obtain ⟨w, W, e0, rd⟩ := ((b2.mono k.r).read (b1.mono k.l) (os := [o']) (by simp [resolve, q3])).one
  cases e0
  obtain ⟨t', h1, h2⟩ := fIsi_two rd q4
  exact ⟨_, q, [.ty T, .ty U], _, [.type T, .type U], _, rfl, upd_same, .cons (.ty T) (.cons (.ty U) .nil), h1, h2, postE_plain hq (b1.mono k.l) (ow.sub fun _ z => .inl z) ((b5.trans x1).sub fun _ z => .inl z) (.bl _)⟩
end
end G
namespace G
open PySem PySem.Spec PyProof.Rows L2

/-! ### str(int) -/
def fStrI : OV → Option OV
  | .fz (.int i) => if bits i < 1900 then some (.fz (.str (toString i))) else none
  | _ => none
theorem pure_strI {K : PySem.W.Frag} : Pure K (fun xs H Q => ∃ i, xs = [V.int i] ∧ i.natAbs.log2 < 1920 ∧ Q (V.str (toString i)) H) (l1 fStrI) := by
  intro s os vs o w rd e Q hq
  cases rd with
  | nil => cases e
  | cons h1 t =>
    cases t with
    | cons _ _ => cases e
    | nil =>
      simp only [l1] at e
      unfold fStrI at e
      split at e
      · rename_i i
        split at e
        · rename_i hb
          cases e
          have hb' : i.natAbs.log2 < 1900 := hb
          exact ⟨i, by rw [h1.int], by omega, hq.str w⟩
        · cases e
      · cases e
theorem boot_str' : bootBuiltins "str" = some (.type "str") := by decide +kernel
section
variable {X : Cx} {a : Expr} {p pos : Pos} {m : MA}
theorem DE.strI (hg : Gl X "str") (hm : X.mg "str" = none) (h : DA X [a] m) (he : starEach [a] X.env = (false, eval a X.env) :: starEach [] X.env := by rfl) : DE X (.Call (.Name "str" p) [a] [] pos) (mOp (l1 fStrI) m) :=
  .callTy call_str_int pure_strI hg hm boot_str' h (by decide) (by decide) he rfl
end
/-! ### xs.count(int) -/
theorem upd_back {H : Hp} {a : Addr} {o : HO} (h : H a = some o) : upd H a o = H := by
  funext b
  by_cases e : b = a
  · rw [e, upd_same, h]
  · exact upd_ne e
def gCount (ds : List D) (d : D) : Option (D × List D) := match allI ds, d with
  | some ns, .int k => some (.int (ns.count k : Nat), ds)
  | _, _ => none
theorem lm_count {K0 : PySem.W.Frag} : LM1 (rCntI K0) gCount := by
  intro K s a vs ds v d d' ds' h r rv e
  unfold gCount at e
  split at e
  · rename_i ns k q
    cases e
    have hd := allI_some q
    subst hd
    have hv := r.of_ints
    subst hv
    refine ⟨.int (ns.count k : Nat), ns.map V.int, .int _, r, fun Q z => ⟨a, ns, k, rfl, by rw [rv.int_inv], SqL.of h, ?_⟩⟩
    rw [upd_back h] at z
    exact z
  · cases e
end G
namespace G
open PySem PySem.Spec PyProof.Rows L2

/-! ### comprehensions with two fors -/
theorem all_I {ι : Type} {F : ι → Cx} {K : PySem.W.Frag} {tg iter : Expr} {m : MI} (hK : ∀ i, (F i).K = K) (h : ∀ i, DI (F i) tg iter m) :
    ∃ wi, (∀ i, PI (F i) tg iter wi) ∧ ∀ σ s env P ds env', EnvOk K s σ env P → Own P s → m env = some (ds, env') →
      ∀ R : It → Hp → Prop, (∀ J s' P', EnvOk K s' σ env' P' → Own P' s' → Ext P s P' s' → Wk K J ds s' → R J s'.H) → wi σ s.H R :=
  ⟨fun σ H R => ∀ i, Classical.choose (h i).run σ H R, fun i => ⟨fun pins s σ H R I q => (Classical.choose_spec (h i).run).1.run pins s σ H R I (q i)⟩,
    fun σ s env P ds env' a1 a2 a3 R hq i => (Classical.choose_spec (h i).run).2 σ s env P ds env' (by rw [hK]; exact a1) a2 a3 R (by rw [hK]; exact hq)⟩
theorem wipe_sub {vs ws : List Nat} (h : ∀ j ∈ ws, j ∈ vs) (σ : L2.St) : wipe (wipe σ ws) vs = wipe σ vs := by
  refine List.ext_getElem? fun j => ?_
  rw [wipe_get, wipe_get, wipe_get, wipe_length]
  by_cases hj : j ∈ vs ∧ j < σ.length
  · rw [if_pos hj, if_pos hj]
  · rw [if_neg hj, if_neg hj]
    by_cases hw : j ∈ ws ∧ j < σ.length
    · exact absurd ⟨h j hw.1, hw.2⟩ hj
    · rw [if_neg hw]
theorem wipe_step {vs ts : List Nat} (hts : ∀ j ∈ ts, j ∈ vs) {σ σ3 : L2.St} (f3 : Ch ts (wipe σ vs) σ3) : wipe σ3 vs = wipe σ vs := by
  refine List.ext_getElem? fun j => ?_
  have hl : σ3.length = σ.length := by rw [f3.len, wipe_length]
  rw [wipe_get, wipe_get, hl]
  by_cases hj : j ∈ vs
  · by_cases hj2 : j < σ.length
    · simp [hj, hj2]
    · simp [hj2, List.getElem?_eq_none (show σ3.length ≤ j by omega), List.getElem?_eq_none (show σ.length ≤ j by omega)]
  · rw [if_neg fun z => hj z.1, if_neg fun z => hj z.1, f3.same j fun z => hj (hts j z), wipe_get, if_neg fun z => hj z.1]
/-- how a loop stands that writes into the list at L -/
abbrev StD (K : PySem.W.Frag) (σ : L2.St) (vs : List Nat) (L : Addr) (P : FP) (s s' : S) (P' : FP) (env : Env) (a : List PyData) (va : List V) : Prop :=
  EnvOk K s' σ env P' ∧ (∀ j ∈ vs, lk env j = none) ∧ Own (fU P' (f1 L)) s' ∧ ¬ P' L ∧ Ext P s (fU P' (f1 L)) s' ∧ s'.H L = some (.lst va) ∧ RepL K s' va a
section
variable {K : PySem.W.Frag} {P : FP} {s : S} {L : Addr} {vs ts : List Nat} {g : MG} {t : MT} {m : MD} {tgg : TG} {tt : TT} {te : TE}
/-- the inner loop -/
theorem in_run {σ : L2.St} {s4 : S} {P4 : FP} {ds : List D} {e3 e4 : Env} {J : It} {acc0 acc : List D} {va0 : List V} {Nx : Hp → Prop} (hts : ∀ j ∈ ts, j ∈ vs)
    (gr : ∀ σ s env P d v env', EnvOk K s σ env P → Own P s → Rep K s v d → g d env = some env' → ∀ Q : L2.St → Hp → Prop, (∀ σ' P', EnvOk K s σ' env' P' → (∀ a, P' a → P a) → Ch ts σ σ' → Q σ' s.H) → tgg v σ s.H Q)
    (tr : ∀ σ s env P b env', EnvOk K s σ env P → Own P s → t env = some (b, env') → ∀ Q, PostT K σ s P b env' Q → tt σ s.H Q)
    (er : ∀ σ s env P d env', EnvOk K s σ env P → Own P s → m env = some (d, env') → ∀ Q, PostF K σ s P d env' Q → te σ s.H Q)
    (c1 : EnvOk K s4 σ e3 P4) (c2 : Own (fU P4 (f1 L)) s4) (c3 : ¬ P4 L) (c4 : Ext P s (fU P4 (f1 L)) s4) (c5 : s4.H L = some (.lst va0)) (c6 : RepL K s4 va0 acc0) (b4 : Wk K J ds s4) (hm : mCmpL vs g t m ds acc0 (clr vs e3) = some (acc, e4))
    (hNx : ∀ s' P' va, StD K (wipe σ vs) vs L P s s' P' e4 acc va → Nx s'.H) :
    ∃ W : Nat → Nat → Hp → Prop, (∃ m, W 0 m s4.H) ∧ ∀ i m H, W i m H →
      (J.stop i H ∧ Nx H) ∨ (J.go i H ∧ ∃ Nx1 : Hp → Prop, (∀ H', Nx1 H' → ∃ m', m' < m ∧ W (i + 1) m' H') ∧ ∀ x H', J.yld i H x H' → tgg x (wipe σ vs) H' fun σ2 H2 => wipe σ2 vs = wipe σ vs ∧ tt σ2 H2 fun b H3 =>
        if b = true then te σ2 H3 fun y H4 => ∃ acc, H4 L = some (.lst acc) ∧ acc.length < sizeLine ∧ Nx1 (upd H4 L (.lst (acc ++ [y]))) else Nx1 H3) := by
  obtain ⟨P0, c0, c0'⟩ := c1.clr vs
  refine ⟨fun i n H => n = ds.length - i ∧ ∃ s' P' env' a va, s'.H = H ∧ StD K (wipe σ vs) vs L P s s' P' env' a va ∧ Fz s4 s' ∧ mCmpL vs g t m (ds.drop i) a env' = some (acc, e4),
    ⟨_, rfl, s4, P0, clr vs e3, acc0, va0, rfl, ⟨c0.wipe vs clr_none, clr_none, c2.sub fun a z => z.imp_left (c0' a), fun z => c3 (c0' _ z), c4.sub fun a z => z.imp_left (c0' a), c5, c6⟩, .refl _, hm⟩, ?_⟩
  rintro i n H ⟨rfl, s', P', env', a, va, rfl, ⟨d1, d2, d3, d4, d5, d7, d8⟩, d6, d9⟩
  obtain ⟨w1, w2⟩ := b4 i s' d6 d3.w
  by_cases hi : i < ds.length
  · right
    have ed : ds[i]? = some ds[i] := by simp [hi]
    rw [List.drop_eq_getElem_cons hi] at d9
    obtain ⟨w3, w4⟩ := w1 _ ed
    refine ⟨w3, fun H2 => ∃ m', m' < ds.length - i ∧ (m' = ds.length - (i + 1) ∧ ∃ s' P' env' a va, s'.H = H2 ∧ StD K (wipe σ vs) vs L P s s' P' env' a va ∧ Fz s4 s' ∧ mCmpL vs g t m (ds.drop (i + 1)) a env' = some (acc, e4)), fun _ z => z, fun x H2 y => ?_⟩
    obtain ⟨s2, rfl, x2, r2⟩ := w4 x H2 y
    have d0 : Dis fE (fU P' (f1 L)) := fun _ z => z.elim
    unfold mCmpL at d9
    split at d9
    · cases d9
    rename_i ea q2
    have kk := x2.kp d0 d3
    have ow2 := x2.ownR d0 d3
    have x3 : Ext (fU P' (f1 L)) s' (fU P' (f1 L)) s2 := ((x2.frame (R := fU P' (f1 L))).wide fun a z => z.resolve_left fun w => w).sub fun a z => .inr z
    refine gr _ s2 env' P' _ x ea (d1.mono kk.l) (ow2.sub fun _ z => .inl z) r2 q2 _ fun σ3 P3 f1' f2 f3 => ?_
    have wp : wipe σ3 vs = wipe σ vs := wipe_step hts f3
    refine ⟨wp, ?_⟩
    have ow3 : Own (fU P3 (f1 L)) s2 := ow2.sub fun a z => z.imp_left (f2 a)
    have nD3 : ¬ P3 L := fun z => d4 (f2 _ z)
    have xs2 : Ext P s (fU P3 (f1 L)) s2 := (d5.trans x3).sub fun a z => z.imp_left (f2 a)
    have hD2 : s2.H L = some (.lst va) := (kk.k L (.inr rfl)).trans d7
    have dD : Dis P3 (f1 L) := fun a z y => nD3 (by cases (show a = L from y); exact z)
    have oD : Own (f1 L) s2 := ow3.sub fun _ z => .inr z
    split at d9
    · cases d9
    · rename_i eb q3
      refine tr σ3 s2 ea P3 false eb f1' (ow3.sub fun _ z => .inl z) q3 _ fun s3 P4 g1 g2 g3 => ?_
      rw [if_neg Bool.false_ne_true]
      have oD3 := g3.ownR dD oD
      have dD4 := g3.disR dD oD
      have xs3 := xs2.trans (g3.frame (R := f1 L))
      obtain ⟨P5, h1, h2⟩ := g1.clr vs
      refine ⟨_, by omega, rfl, s3, P5, clr vs eb, a, va, rfl, ⟨?_, clr_none, (g2.or oD3).sub fun a z => z.imp_left (h2 a), fun z => dD4 L (h2 L z) rfl, xs3.sub fun a z => z.imp_left (h2 a), ((g3.kp dD oD).k L rfl).trans hD2, RepL.mono g3.fz _ _ (RepL.mono x2.fz _ _ d8)⟩, (d6.trans x2.fz).trans g3.fz, d9⟩
      rw [← wp]
      exact h1.wipe vs clr_none
    · rename_i eb q3
      refine tr σ3 s2 ea P3 true eb f1' (ow3.sub fun _ z => .inl z) q3 _ fun s3 P4 g1 g2 g3 => ?_
      rw [if_pos rfl]
      have oD3 := g3.ownR dD oD
      have dD4 := g3.disR dD oD
      have xs3 := xs2.trans (g3.frame (R := f1 L))
      split at d9
      · cases d9
      rename_i d' ec q4
      split at d9
      · rename_i hz
        refine er σ3 s3 eb P4 d' ec g1 g2 q4 _ fun y s4' P6 i1 i2 i3 i4 => ?_
        have oD4 := i4.ownR dD4 oD3
        have dD6 := i4.disR dD4 oD3
        have xs4 := xs3.trans (i4.frame (R := f1 L))
        have hD4 : s4'.H L = some (.lst va) := ((i4.kp dD4 oD3).k L rfl).trans (((g3.kp dD oD).k L rfl).trans hD2)
        have ra : RepL K s4' va a := RepL.mono i4.fz _ _ (RepL.mono g3.fz _ _ (RepL.mono x2.fz _ _ d8))
        refine ⟨va, hD4, by rw [ra.length]; exact lt_line hz, ?_⟩
        have x5 : Ext (fU P6 (f1 L)) s4' (fU P6 (f1 L)) ⟨upd s4'.H L (.lst (va ++ [y])), s4'.Z⟩ := Ext.write (i3.or oD4) (.inr rfl)
        have k5 : Kp P6 s4' ⟨upd s4'.H L (.lst (va ++ [y])), s4'.Z⟩ := ⟨x5.fz, fun a z => upd_ne fun e => dD6 a z (show a = L from e)⟩
        have w5 : Own (fU P6 (f1 L)) (⟨upd s4'.H L (.lst (va ++ [y])), s4'.Z⟩ : S) := ⟨fun a z => ⟨((i3.or oD4).o a z).1, fun q => ((i3.or oD4).o a z).2 (x5.dom a q)⟩, fun a z q => i3.w a z (x5.dom a q)⟩
        obtain ⟨P7, h1, h2⟩ := (i1.mono k5).clr vs
        have xs5 := xs4.trans x5
        refine ⟨_, by omega, rfl, ⟨upd s4'.H L (.lst (va ++ [y])), s4'.Z⟩, P7, clr vs ec, a ++ [d'], va ++ [y], rfl, ⟨?_, clr_none, w5.sub fun a z => z.imp_left (h2 a), fun z => dD6 L (h2 L z) rfl, xs5.sub fun a z => z.imp_left (h2 a), upd_same, RepL.mono x5.fz _ _ (ra.append (.cons i2 .nil))⟩, (((d6.trans x2.fz).trans g3.fz).trans i4.fz).trans x5.fz, d9⟩
        rw [← wp]
        exact h1.wipe vs clr_none
      · cases d9
  · left
    have e0 : ds.drop i = [] := List.drop_eq_nil_of_le (by omega)
    rw [e0] at d9
    cases d9
    exact ⟨w2 (by omega), hNx s' P' va ⟨d1, d2, d3, d4, d5, d7, d8⟩⟩
end
def mCmp2L (vs vs1 : List Nat) (g : MG) (t : MT) (mi1 : MI) (g1 : MG) (t1 : MT) (m : MD) : List D → List D → Env → Option (List D × Env)
  | [], acc, e => some (acc, e)
  | d :: ds, acc, e => match g d e with
    | none => none
    | some e1 => match t e1 with
      | none => none
      | some (false, e2) => mCmp2L vs vs1 g t mi1 g1 t1 m ds acc (clr vs e2)
      | some (true, e2) => match mi1 e2 with
        | none => none
        | some (ds1, e3) => match mCmpL vs1 g1 t1 m ds1 acc (clr vs1 e3) with
          | none => none
          | some (acc', e4) => mCmp2L vs vs1 g t mi1 g1 t1 m ds acc' (clr vs e4)
def mComp2 (vs vs1 : List Nat) (mi : MI) (g : MG) (t : MT) (mi1 : MI) (g1 : MG) (t1 : MT) (m : MD) : ME := fun env => match mi env with
  | none => none
  | some (ds, e1) => match mCmp2L vs vs1 g t mi1 g1 t1 m ds [] (clr vs e1) with
    | none => none
    | some (acc, e2) => some (.oL acc, e2)
theorem lc2_run {K : PySem.W.Frag} {σ : L2.St} {s : S} {P : FP} {ds : List D} {e1 e2 : Env} {J : It} {vs vs1 ts ts1 : List Nat} {g g1 : MG} {t t1 : MT} {mi1 : MI} {m : MD} {acc : List D} {tgg tgg1 : TG} {tt tt1 : TT} {wi1 : TI} {te : TE} {Q : VK} (hts : ∀ j ∈ ts, j ∈ vs) (hts1 : ∀ j ∈ ts1, j ∈ vs1) (hv : ∀ j ∈ vs1, j ∈ vs)
    (gr : ∀ σ s env P d v env', EnvOk K s σ env P → Own P s → Rep K s v d → g d env = some env' → ∀ Q : L2.St → Hp → Prop, (∀ σ' P', EnvOk K s σ' env' P' → (∀ a, P' a → P a) → Ch ts σ σ' → Q σ' s.H) → tgg v σ s.H Q)
    (tr : ∀ σ s env P b env', EnvOk K s σ env P → Own P s → t env = some (b, env') → ∀ Q, PostT K σ s P b env' Q → tt σ s.H Q)
    (ir1 : ∀ σ s env P ds env', EnvOk K s σ env P → Own P s → mi1 env = some (ds, env') → ∀ R : It → Hp → Prop, (∀ J s' P', EnvOk K s' σ env' P' → Own P' s' → Ext P s P' s' → Wk K J ds s' → R J s'.H) → wi1 σ s.H R)
    (gr1 : ∀ σ s env P d v env', EnvOk K s σ env P → Own P s → Rep K s v d → g1 d env = some env' → ∀ Q : L2.St → Hp → Prop, (∀ σ' P', EnvOk K s σ' env' P' → (∀ a, P' a → P a) → Ch ts1 σ σ' → Q σ' s.H) → tgg1 v σ s.H Q)
    (tr1 : ∀ σ s env P b env', EnvOk K s σ env P → Own P s → t1 env = some (b, env') → ∀ Q, PostT K σ s P b env' Q → tt1 σ s.H Q)
    (er : ∀ σ s env P d env', EnvOk K s σ env P → Own P s → m env = some (d, env') → ∀ Q, PostF K σ s P d env' Q → te σ s.H Q)
    (b1 : EnvOk K s σ e1 P) (b2 : Own P s) (b4 : Wk K J ds s) (hm : mCmp2L vs vs1 g t mi1 g1 t1 m ds [] (clr vs e1) = some (acc, e2)) (hq : PostE K σ s P (.oL acc) e2 Q) :
    ∀ L, s.H L = none → ∃ W : Nat → Nat → Hp → Prop, (∃ m, W 0 m (upd s.H L (.lst []))) ∧ ∀ i m H, W i m H →
      (J.stop i H ∧ Q (.ref L) H) ∨ (J.go i H ∧ ∃ Nx : Hp → Prop, (∀ H', Nx H' → ∃ m', m' < m ∧ W (i + 1) m' H') ∧ ∀ x H', J.yld i H x H' → tgg x (wipe σ vs) H' fun σ2 H2 => wipe σ2 vs = wipe σ vs ∧ tt σ2 H2 fun b H3 =>
        if b = true then wi1 σ2 H3 fun J1 H4 => ∃ W1 : Nat → Nat → Hp → Prop, (∃ m, W1 0 m H4) ∧ ∀ j k H, W1 j k H →
          (J1.stop j H ∧ Nx H) ∨ (J1.go j H ∧ ∃ Nx1 : Hp → Prop, (∀ H', Nx1 H' → ∃ k', k' < k ∧ W1 (j + 1) k' H') ∧ ∀ x H', J1.yld j H x H' → tgg1 x (wipe σ2 vs1) H' fun σ3 H5 => wipe σ3 vs1 = wipe σ2 vs1 ∧ tt1 σ3 H5 fun b H6 =>
            if b = true then te σ3 H6 fun y H7 => ∃ acc, H7 L = some (.lst acc) ∧ acc.length < sizeLine ∧ Nx1 (upd H7 L (.lst (acc ++ [y]))) else Nx1 H6)
        else Nx H3) := by
  intro L hD
  have x0 : Ext P s (fU P (f1 L)) ⟨upd s.H L (.lst []), s.Z⟩ := Ext.new hD
  have nPD : ¬ P L := fun z => (b2.o L z).2 hD
  have w0 : Own (fU P (f1 L)) (⟨upd s.H L (.lst []), s.Z⟩ : S) := ⟨fun a z => by
    rcases z with z | z
    · exact ⟨(b2.o a z).1, fun q => (b2.o a z).2 (x0.dom a q)⟩
    · cases (show a = L from z)
      exact ⟨fun z => b2.w _ z hD, by show upd s.H L _ L ≠ none; rw [upd_same]; exact fun z => nomatch z⟩, fun a z q => b2.w a z (x0.dom a q)⟩
  have k0 : Kp P s ⟨upd s.H L (.lst []), s.Z⟩ := ⟨x0.fz, fun a z => upd_ne fun e => nPD (by rw [← e]; exact z)⟩
  obtain ⟨P0, c0, c0'⟩ := (b1.mono k0).clr vs
  refine ⟨fun i n H => n = ds.length - i ∧ ∃ s' P' env' a va, s'.H = H ∧ StD K (wipe σ vs) vs L P s s' P' env' a va ∧ mCmp2L vs vs1 g t mi1 g1 t1 m (ds.drop i) a env' = some (acc, e2),
    ⟨_, rfl, _, P0, clr vs e1, [], [], rfl, ⟨c0.wipe vs clr_none, clr_none, w0.sub fun a z => z.imp_left (c0' a), fun z => nPD (c0' _ z), x0.sub fun a z => z.imp_left (c0' a), upd_same, .nil⟩, hm⟩, ?_⟩
  rintro i n H ⟨rfl, s', P', env', a, va, rfl, ⟨d1, d2, d3, d4, d5, d7, d8⟩, d9⟩
  obtain ⟨w1, w2⟩ := b4 i s' d5.fz d3.w
  by_cases hi : i < ds.length
  · right
    have ed : ds[i]? = some ds[i] := by simp [hi]
    rw [List.drop_eq_getElem_cons hi] at d9
    obtain ⟨w3, w4⟩ := w1 _ ed
    refine ⟨w3, fun H2 => ∃ m', m' < ds.length - i ∧ (m' = ds.length - (i + 1) ∧ ∃ s' P' env' a va, s'.H = H2 ∧ StD K (wipe σ vs) vs L P s s' P' env' a va ∧ mCmp2L vs vs1 g t mi1 g1 t1 m (ds.drop (i + 1)) a env' = some (acc, e2)), fun _ z => z, fun x H2 y => ?_⟩
    obtain ⟨s2, rfl, x2, r2⟩ := w4 x H2 y
    have d0 : Dis fE (fU P' (f1 L)) := fun _ z => z.elim
    unfold mCmp2L at d9
    split at d9
    · cases d9
    rename_i ea q2
    have kk := x2.kp d0 d3
    have ow2 := x2.ownR d0 d3
    have x3 : Ext (fU P' (f1 L)) s' (fU P' (f1 L)) s2 := ((x2.frame (R := fU P' (f1 L))).wide fun a z => z.resolve_left fun w => w).sub fun a z => .inr z
    refine gr _ s2 env' P' _ x ea (d1.mono kk.l) (ow2.sub fun _ z => .inl z) r2 q2 _ fun σ3 P3 f1' f2 f3 => ?_
    have wp : wipe σ3 vs = wipe σ vs := wipe_step hts f3
    refine ⟨wp, ?_⟩
    have ow3 : Own (fU P3 (f1 L)) s2 := ow2.sub fun a z => z.imp_left (f2 a)
    have nD3 : ¬ P3 L := fun z => d4 (f2 _ z)
    have xs2 : Ext P s (fU P3 (f1 L)) s2 := (d5.trans x3).sub fun a z => z.imp_left (f2 a)
    have hD2 : s2.H L = some (.lst va) := (kk.k L (.inr rfl)).trans d7
    have dD : Dis P3 (f1 L) := fun a z y => nD3 (by cases (show a = L from y); exact z)
    have oD : Own (f1 L) s2 := ow3.sub fun _ z => .inr z
    split at d9
    · cases d9
    · rename_i eb q3
      refine tr σ3 s2 ea P3 false eb f1' (ow3.sub fun _ z => .inl z) q3 _ fun s3 P4 g1 g2 g3 => ?_
      rw [if_neg Bool.false_ne_true]
      have oD3 := g3.ownR dD oD
      have dD4 := g3.disR dD oD
      have xs3 := xs2.trans (g3.frame (R := f1 L))
      obtain ⟨P5, h1, h2⟩ := g1.clr vs
      refine ⟨_, by omega, rfl, s3, P5, clr vs eb, a, va, rfl, ⟨?_, clr_none, (g2.or oD3).sub fun a z => z.imp_left (h2 a), fun z => dD4 L (h2 L z) rfl, xs3.sub fun a z => z.imp_left (h2 a), ((g3.kp dD oD).k L rfl).trans hD2, RepL.mono g3.fz _ _ (RepL.mono x2.fz _ _ d8)⟩, d9⟩
      rw [← wp]
      exact h1.wipe vs clr_none
    · rename_i eb q3
      refine tr σ3 s2 ea P3 true eb f1' (ow3.sub fun _ z => .inl z) q3 _ fun s3 P4 g1 g2 g3 => ?_
      rw [if_pos rfl]
      have oD3 := g3.ownR dD oD
      have dD4 := g3.disR dD oD
      have xs3 := xs2.trans (g3.frame (R := f1 L))
      split at d9
      · cases d9
      rename_i ds1 e3 q4
      split at d9
      · cases d9
      rename_i acc' e4 q5
      refine ir1 σ3 s3 eb P4 ds1 e3 g1 g2 q4 _ fun J1 s4 P6 i1 i3 i4 b41 => ?_
      have oD4 := i4.ownR dD4 oD3
      have dD6 := i4.disR dD4 oD3
      have xs4 := xs3.trans (i4.frame (R := f1 L))
      have hD4 : s4.H L = some (.lst va) := ((i4.kp dD4 oD3).k L rfl).trans (((g3.kp dD oD).k L rfl).trans hD2)
      have ra : RepL K s4 va a := RepL.mono i4.fz _ _ (RepL.mono g3.fz _ _ (RepL.mono x2.fz _ _ d8))
      refine in_run (P := P) (s := s) (L := L) hts1 gr1 tr1 er i1 (i3.or oD4) (fun z => dD6 L z rfl) xs4 hD4 ra b41 q5 fun s' P' va' hst => ?_
      obtain ⟨t1, t2, t3, t4, t5, t6, t7⟩ := hst
      obtain ⟨P7, h1, h2⟩ := t1.clr vs
      refine ⟨_, by omega, rfl, s', P7, clr vs e4, acc', va', rfl, ⟨?_, clr_none, t3.sub fun a z => z.imp_left (h2 a), fun z => t4 (h2 L z), t5.sub fun a z => z.imp_left (h2 a), t6, t7⟩, d9⟩
      rw [← wp, ← wipe_sub hv σ3]
      exact h1.wipe vs clr_none
  · left
    have e0 : ds.drop i = [] := List.drop_eq_nil_of_le (by omega)
    rw [e0] at d9
    cases d9
    have hl : wipe (wipe σ vs) vs = wipe σ vs := wipe_sub (fun _ z => z) σ
    exact ⟨w2 (by omega), hq (.ref L) s' P' (f1 L) (d1.unwipe vs hl d2) (.oL d7 d8) (fun a z y => d4 (by cases (show a = L from y); exact z)) d3 d5⟩
section
variable {X : Cx} {elt tg iter tg1 iter1 : Expr} {ifs ifs1 : List Expr} {scope : Scope} {pos : Pos} {ts ts1 : List Nat} {mi mi1 : MI} {g g1 : MG} {t t1 : MT} {m : MD}
theorem DE.comp2 (own : List (Str × Nat)) (vs1 : List Nat) (hc : X.calm = true) (hN : X.N.Nodup) (hi : DI X tg iter mi) (ok : BlkOk X.N X.env.scope scope own)
    (hg : ∀ (s : Shared) (H : Hp) (C : Addr) (cl : List (Str × Addr)) (fp : List Addr), DG (X.blk s H scope (compEnvC scope cl C X.env) fp) ts tg g) (ht : ∀ (s : Shared) (H : Hp) (C : Addr) (cl : List (Str × Addr)) (fp : List Addr), DTs (X.blk s H scope (compEnvC scope cl C X.env) fp) ifs t)
    (hi1 : ∀ (s : Shared) (H : Hp) (C : Addr) (cl : List (Str × Addr)) (fp : List Addr), DI (X.blk s H scope (compEnvC scope cl C X.env) fp) tg1 iter1 mi1)
    (hg1 : ∀ (s : Shared) (H : Hp) (C : Addr) (cl : List (Str × Addr)) (fp : List Addr), DG (X.blk s H scope (compEnvC scope cl C X.env) fp) ts1 tg1 g1) (ht1 : ∀ (s : Shared) (H : Hp) (C : Addr) (cl : List (Str × Addr)) (fp : List Addr), DTs (X.blk s H scope (compEnvC scope cl C X.env) fp) ifs1 t1)
    (he : ∀ (s : Shared) (H : Hp) (C : Addr) (cl : List (Str × Addr)) (fp : List Addr), DF (X.blk s H scope (compEnvC scope cl C X.env) fp) elt m) (hts : ∀ j ∈ ts, j ∈ own.map (·.2) := by decide) (hts1 : ∀ j ∈ ts1, j ∈ vs1 := by decide) (hv : ∀ j ∈ vs1, j ∈ own.map (·.2) := by decide)
    (hs : ∀ x, foldedSetIterable iter X.env x = pure x := by exact fun _ => rfl) (hs1 : ∀ env x, foldedSetIterable iter1 env x = pure x := by exact fun _ _ => rfl) : DE X (.ListComp elt [⟨tg, iter, ifs, 0⟩, ⟨tg1, iter1, ifs1, 0⟩] scope pos) (mComp2 (own.map (·.2)) vs1 mi g t mi1 g1 t1 m) := by
  obtain ⟨wi, ip, ir⟩ := hi.run
  obtain ⟨tgg, gp, gr⟩ := all_G (F := fun (q : Shared × Hp × Addr × List (Str × Addr) × List Addr) => X.blk q.1 q.2.1 scope (compEnvC scope q.2.2.2.1 q.2.2.1 X.env) q.2.2.2.2) (K := X.K) (fun _ => rfl) fun q => hg q.1 q.2.1 q.2.2.1 q.2.2.2.1 q.2.2.2.2
  obtain ⟨tt, tp, tr⟩ := all_T (F := fun (q : Shared × Hp × Addr × List (Str × Addr) × List Addr) => X.blk q.1 q.2.1 scope (compEnvC scope q.2.2.2.1 q.2.2.1 X.env) q.2.2.2.2) (K := X.K) (fun _ => rfl) fun q => ht q.1 q.2.1 q.2.2.1 q.2.2.2.1 q.2.2.2.2
  obtain ⟨wi1, ip1, ir1⟩ := all_I (F := fun (q : Shared × Hp × Addr × List (Str × Addr) × List Addr) => X.blk q.1 q.2.1 scope (compEnvC scope q.2.2.2.1 q.2.2.1 X.env) q.2.2.2.2) (K := X.K) (fun _ => rfl) fun q => hi1 q.1 q.2.1 q.2.2.1 q.2.2.2.1 q.2.2.2.2
  obtain ⟨tgg1, gp1, gr1⟩ := all_G (F := fun (q : Shared × Hp × Addr × List (Str × Addr) × List Addr) => X.blk q.1 q.2.1 scope (compEnvC scope q.2.2.2.1 q.2.2.1 X.env) q.2.2.2.2) (K := X.K) (fun _ => rfl) fun q => hg1 q.1 q.2.1 q.2.2.1 q.2.2.2.1 q.2.2.2.2
  obtain ⟨tt1, tp1, tr1⟩ := all_T (F := fun (q : Shared × Hp × Addr × List (Str × Addr) × List Addr) => X.blk q.1 q.2.1 scope (compEnvC scope q.2.2.2.1 q.2.2.1 X.env) q.2.2.2.2) (K := X.K) (fun _ => rfl) fun q => ht1 q.1 q.2.1 q.2.2.1 q.2.2.2.1 q.2.2.2.2
  obtain ⟨te, ep, er⟩ := all_F (F := fun (q : Shared × Hp × Addr × List (Str × Addr) × List Addr) => X.blk q.1 q.2.1 scope (compEnvC scope q.2.2.2.1 q.2.2.1 X.env) q.2.2.2.2) (K := X.K) (fun _ => rfl) fun q => he q.1 q.2.1 q.2.2.1 q.2.2.2.1 q.2.2.2.2
  refine ⟨_, pe_lc2 hc hN ip ok hv (fun s H C cl fp => gp (s, H, C, cl, fp)) (fun s H C cl fp => tp (s, H, C, cl, fp)) (fun s H C cl fp => ip1 (s, H, C, cl, fp)) (fun s H C cl fp => gp1 (s, H, C, cl, fp)) (fun s H C cl fp => tp1 (s, H, C, cl, fp)) (fun s H C cl fp => ep (s, H, C, cl, fp)) hs hs1, fun σ s env P o env' a1 a2 a3 Q hq => ?_⟩
  unfold mComp2 at a3
  split at a3
  · cases a3
  rename_i ds e1 q1
  split at a3
  · cases a3
  rename_i acc e2 q2
  cases a3
  refine ir σ s env P ds e1 a1 a2 q1 _ fun J s1 P1 b1 b2 b3 b4 => ?_
  exact lc2_run hts hts1 hv gr tr ir1 gr1 tr1 er b1 b2 b4 q2 fun v s' P' R c1 c2 c3 c4 c5 => hq v s' P' R c1 c2 c3 c4 (b3.trans c5)
end
end G
namespace G
open PySem PySem.Spec PyProof.Rows L2

/-! ### dicts keyed by tuples of ints, of any depth: keys -/
mutual
theorem kh_eq (w : World) : ∀ (d : D) (k : NestedKey), nkOf d = some k → k.hash w = khash k
  | .none, k, h => by simp [nkOf] at h
  | .bool _, k, h => by simp [nkOf] at h
  | .str _, k, h => by simp [nkOf] at h
  | .list _, k, h => by simp [nkOf] at h
  | .dict _, k, h => by simp [nkOf] at h
  | .int i, k, h => by
    simp [nkOf] at h
    subst h
    rfl
  | .tuple ds, k, h => by
    simp only [nkOf, Option.map_eq_some_iff] at h
    obtain ⟨ks, h1, rfl⟩ := h
    rw [NestedKey.hash, khash, khs_eq w ds ks h1]
theorem khs_eq (w : World) : ∀ (ds : List D) (ks : List NestedKey), nkOfs ds = some ks → NestedKey.hashes w ks = khashs ks
  | [], ks, h => by
    simp [nkOfs] at h
    subst h
    rfl
  | d :: ds, ks, h => by
    simp only [nkOfs] at h
    split at h
    · rename_i k ks' h1 h2
      cases h
      rw [NestedKey.hashes, khashs, kh_eq w d k h1, khs_eq w ds ks' h2]
    · cases h
end
section
variable {X : Cx} {pins : List (Addr × Obj)} {σ : L2.St} {H : Hp} {s : Shared} {Z : FP}
mutual
theorem rep_nk (I : Inv X pins σ H s) : ∀ (d : D) (k : NestedKey) (v : V) (u : Value), Rep X.K ⟨H, Z⟩ v d → nkOf d = some k → RelV v u → NestedIs s.heap k u
  | .none, k, _, _, _, h, _ => by simp [nkOf] at h
  | .bool _, k, _, _, _, h, _ => by simp [nkOf] at h
  | .str _, k, _, _, _, h, _ => by simp [nkOf] at h
  | .list _, k, _, _, _, h, _ => by simp [nkOf] at h
  | .dict _, k, _, _, _, h, _ => by simp [nkOf] at h
  | .int i, k, _, _, r, h, rv => by
    simp [nkOf] at h
    subst h
    cases r
    obtain ⟨t, rfl⟩ := rv
    exact .int i t
  | .tuple ds, k, _, _, r, h, rv => by
    simp only [nkOf, Option.map_eq_some_iff] at h
    obtain ⟨ks, h1, rfl⟩ := h
    cases r with
    | tup h2 h3 _ =>
      cases rv
      obtain ⟨its, rr, ⟨o, ho, hc, n, hd⟩, _⟩ := I.tuple h2.sq
      exact .tup ho hc hd (by rw [List.toList_toArray]; exact rep_nks I ds ks _ _ h3 h1 rr)
theorem rep_nks (I : Inv X pins σ H s) : ∀ (ds : List D) (ks : List NestedKey) (vs : List V) (us : List Value), RepL X.K ⟨H, Z⟩ vs ds → nkOfs ds = some ks → Vals vs us → NestedAll s.heap ks us
  | [], ks, _, _, r, h, rv => by
    simp [nkOfs] at h
    subst h
    cases r
    cases rv
    exact .nil
  | d :: ds, ks, _, _, r, h, rv => by
    simp only [nkOfs] at h
    split at h
    · rename_i k ks' h1 h2
      cases h
      cases r with
      | cons r1 r2 =>
        cases rv with
        | cons v1 v2 => exact .cons (rep_nk I d k _ _ r1 h1 v1) (rep_nks I ds ks' _ _ r2 h2 v2)
    · cases h
end
end
/-! ### entries -/
def lkK (kvs : List (D × OV)) (k : NestedKey) : Option OV := (kvs.find? fun p => decide (nkOf p.1 = some k)).map (·.2)
def seK (kvs : List (D × OV)) (k : NestedKey) (o : OV) : List (D × OV) := kvs.map fun p => if nkOf p.1 = some k then (p.1, o) else p
def puK (kvs : List (D × OV)) (d : D) (k : NestedKey) (o : OV) : List (D × OV) := if (lkK kvs k).isSome then seK kvs k o else kvs ++ [(d, o)]
theorem fUa {P R Q : FP} : fU (fU P R) Q = fU P (fU R Q) := funext fun a => propext ⟨fun z => z.elim (fun z => z.elim .inl fun z => .inr (.inl z)) fun z => .inr (.inr z), fun z => z.elim (fun z => .inl (.inl z)) fun z => z.elim (fun z => .inl (.inr z)) .inr⟩
theorem fUc {P R : FP} : fU P R = fU R P := funext fun a => propext ⟨fun z => z.symm, fun z => z.symm⟩
section
variable {K : PySem.W.Frag} {s : S}
theorem RepOk.keys : ∀ {kvs : List (D × OV)} {xs : List Trip} {P : FP}, RepOk K s kvs xs P → kvs.map (fun p => nkOf p.1) = xs.map fun x => some x.1
  | _, _, _, .nil => rfl
  | _, _, _, .cons h1 _ _ _ _ t _ => by rw [List.map_cons, List.map_cons, t.keys]; simp [h1]
theorem seK_off {kvs : List (D × OV)} {k : NestedKey} {o : OV} (h : some k ∉ kvs.map fun p => nkOf p.1) : seK kvs k o = kvs := by
  unfold seK
  conv => rhs; rw [← List.map_id kvs]
  refine List.map_congr_left fun p hp => ?_
  rw [if_neg fun e => h (List.mem_map.mpr ⟨p, hp, e⟩)]
  rfl
theorem RepOk.split : ∀ {kvs : List (D × OV)} {xs : List Trip} {P : FP} {k : NestedKey} {o : OV}, RepOk K s kvs xs P → lkK kvs k = some o → (xs.map (·.1)).Nodup →
    ∃ (q : Addr) (u : Value) (v : V) (Po R : FP), atKey xs k = some (q, u) ∧ RelV v u ∧ RepO K s o v Po ∧ Dis Po R ∧ P = fU Po R ∧
      ∀ (s' : S) (o' : OV) (Po' : FP), Kp R s s' → RepO K s' o' v Po' → Dis Po' R → RepOk K s' (seK kvs k o') xs (fU Po' R)
  | _, _, _, k, o, .nil, e, _ => by simp [lkK] at e
  | _, _, _, k, o, .cons (d := d) (k := k0) (q := q) (u := u) (v := v) (o := o0) (os := os) (xs := xs) (P := P) (R := R) h1 h2 h3 h4 h5 t dd, e, nd => by
    rw [List.map_cons, List.nodup_cons] at nd
    by_cases hk : k0 = k
    · subst hk
      have eo : o = o0 := by simp [lkK, h1] at e; exact e.symm
      subst eo
      refine ⟨q, u, v, P, R, by simp [atKey], h4, h5, dd, rfl, fun s' o' Po' kp r d' => ?_⟩
      have off : some k0 ∉ os.map fun p => nkOf p.1 := by
        rw [t.keys]
        intro z
        obtain ⟨y, hy, e⟩ := List.mem_map.mp z
        cases e
        exact nd.1 (List.mem_map.mpr ⟨y, hy, rfl⟩)
      have es : seK ((d, o) :: os) k0 o' = (d, o') :: os := by
        have := seK_off (o := o') off
        unfold seK at this ⊢
        rw [List.map_cons, this, if_pos h1]
      rw [es]
      exact .cons h1 h2 (Rep.mono kp.f _ _ h3) h4 r (RepOk.mono os _ _ t kp) d'
    · have hne : ¬ nkOf d = some k := by rw [h1]; intro z; cases z; exact hk rfl
      have e' : lkK os k = some o := by
        have hd : decide (nkOf d = some k) = false := decide_eq_false hne
        simpa [lkK, List.find?_cons, hd] using e
      obtain ⟨q', u', v', Po, R', a1, a2, a3, a4, a5, a6⟩ := t.split e' nd.2
      subst a5
      refine ⟨q', u', v', Po, fU P R', ?_, a2, a3, fun a z w => ?_, ?_, fun s' o' Po' kp r d' => ?_⟩
      · have hd : decide (k0 = k) = false := decide_eq_false hk
        simpa [atKey, List.find?_cons, hd] using a1
      · exact w.elim (fun w => dd a w (.inl z)) fun w => a4 a z w
      · rw [← fUa, ← fUa, fUc (P := P) (R := Po)]
      · have es : seK ((d, o0) :: os) k o' = (d, o0) :: seK os k o' := by
          unfold seK
          rw [List.map_cons, if_neg hne]
        rw [es, ← fUa, fUc (P := Po'), fUa]
        refine .cons h1 h2 (Rep.mono kp.f _ _ h3) h4 (RepO.mono _ _ _ h5 kp.l) (a6 s' o' Po' kp.r r fun a z w => d' a z (.inr w)) fun a z w => ?_
        exact w.elim (fun w => d' a w (.inl z)) fun w => dd a z (.inr w)
theorem RepOk.at_none : ∀ {kvs : List (D × OV)} {xs : List Trip} {P : FP} {k : NestedKey}, RepOk K s kvs xs P → lkK kvs k = none → atKey xs k = none
  | _, _, _, k, .nil, e => rfl
  | _, _, _, k, .cons (d := d) (k := k0) (os := os) h1 h2 h3 h4 h5 t dd, e => by
    by_cases hk : k0 = k
    · subst hk
      simp [lkK, h1] at e
    · have hne : ¬ nkOf d = some k := by rw [h1]; intro z; cases z; exact hk rfl
      have hd : decide (nkOf d = some k) = false := decide_eq_false hne
      have e' : lkK os k = none := by simpa [lkK, List.find?_cons, hd] using e
      have hd2 : decide (k0 = k) = false := decide_eq_false hk
      have := t.at_none e'
      simpa [atKey, List.find?_cons, hd2] using this
theorem RepOk.snoc : ∀ {kvs : List (D × OV)} {xs : List Trip} {P : FP} {d : D} {k : NestedKey} {q : Addr} {u : Value} {v : V} {o : OV} {Po : FP}, RepOk K s kvs xs P → nkOf d = some k → k.depth ≤ 8 → Rep K s (.ref q) d → RelV v u → RepO K s o v Po → Dis P Po →
    RepOk K s (kvs ++ [(d, o)]) (xs ++ [(k, q, u)]) (fU P Po)
  | _, _, _, d, k, q, u, v, o, Po, .nil, h1, h2, h3, h4, h5, _ => by
    have e : fU fE Po = fU Po fE := fUc
    rw [e]
    exact .cons h1 h2 h3 h4 h5 .nil fun _ _ z => z
  | _, _, _, d, k, q, u, v, o, Po, .cons g1 g2 g3 g4 g5 t dd, h1, h2, h3, h4, h5, h6 => by
    rw [fUa]
    exact .cons g1 g2 g3 g4 g5 (t.snoc h1 h2 h3 h4 h5 fun a z w => h6 a (.inr z) w) fun a z w => w.elim (dd a z) fun w => h6 a (.inl z) w
theorem RepOk.key_mem : ∀ {kvs : List (D × OV)} {xs : List Trip} {P : FP}, RepOk K s kvs xs P → ∀ x ∈ xs, ∃ d o, (d, o) ∈ kvs ∧ nkOf d = some x.1 ∧ x.1.depth ≤ 8 ∧ Rep K s (.ref x.2.1) d
  | _, _, _, .nil, x, hx => by simp at hx
  | _, _, _, .cons (d := d) (o := o) h1 h2 h3 h4 h5 t dd, x, hx => by
    rcases List.mem_cons.mp hx with rfl | hx
    · exact ⟨d, o, List.mem_cons_self, h1, h2, h3⟩
    · obtain ⟨d', o', a1, a2⟩ := t.key_mem x hx
      exact ⟨d', o', List.mem_cons_of_mem _ a1, a2⟩
theorem RepOk.get : ∀ {kvs : List (D × OV)} {xs : List Trip} {P : FP}, RepOk K s kvs xs P → ∀ {i : Nat} {d : D} {o : OV}, kvs[i]? = some (d, o) → ∃ x : Trip, xs[i]? = some x ∧ nkOf d = some x.1 ∧ Rep K s (.ref x.2.1) d
  | _, _, _, .nil, i, d, o, e => by simp at e
  | _, _, _, .cons h1 h2 h3 h4 h5 t dd, i, d, o, e => by
    cases i with
    | zero => simp at e; obtain ⟨rfl, rfl⟩ := e; exact ⟨_, rfl, h1, h3⟩
    | succ i => simpa using t.get (i := i) (by simpa using e)
theorem RepOk.len : ∀ {kvs : List (D × OV)} {xs : List Trip} {P : FP}, RepOk K s kvs xs P → xs.length = kvs.length
  | _, _, _, .nil => rfl
  | _, _, _, .cons _ _ _ _ _ t _ => by simp [t.len]
end
theorem kents {P : Program} {w : World} {xs : List Trip} (h : ∀ x ∈ xs, x.1.hash w = khash x.1) : xs.map (entryOfKey (nestedKind P w)) = xs.map kent :=
  List.map_congr_left fun x hx => by
    show DictEntry.mk _ _ _ = DictEntry.mk _ _ _
    rw [show (nestedKind P w).hash x.1 = khash x.1 from h x hx]
/-- the heap's own dict, from the object and what its keys are -/
theorem DObj.dict {P : Program} {w : World} {h : Heap} {a : Addr} {o : Obj} {xs : List Trip} (x : DObj a o xs) (e : h.get? a = some o) (hk : ∀ y ∈ xs, y.1.hash w = khash y.1 ∧ NestedIs h y.1 (.ref y.2.1) ∧ y.1.depth ≤ 8) : h.DictOfH (nestedKind P w) a xs := by
  obtain ⟨es, ep, e1, e2⟩ := x.dt
  exact ⟨o, es, ep, e, x.ed, e1, by rw [kents fun y hy => (hk y hy).1]; exact e2, fun y hy => (hk y hy).2, x.nd⟩
theorem DObj.of {P : Program} {w : World} {h : Heap} {a : Addr} {xs : List Trip} (m : h.DictOfH (nestedKind P w) a xs) (sm : (a == sysModules) = false) (hl : xs.length ≤ 16000000) (hk : ∀ y ∈ xs, y.1.hash w = khash y.1) : ∃ o, h.get? a = some o ∧ DObj a o xs := by
  obtain ⟨o, es, ep, e, ed, e1, e2, _, nd⟩ := m
  exact ⟨o, e, sm, ed, ⟨es, ep, e1, by rw [e2, kents hk]⟩, nd, hl⟩
theorem dNo_at {P : Program} {w : World} {H : Hp} {h : Heap} {a b : Addr} {o : Obj} (hok : HOk P w H h) (e : Rd H a (dNo b o)) : h.get? b = some o := by
  rcases e with e | ⟨o', e⟩
  · exact (hok a _ e).1
  · exact (hok a _ e).2.1
theorem dNo_ok {P : Program} {w : World} {H : Hp} {h : Heap} {a : Addr} {o : Obj} (e : h.get? a = some o) : ObjOk P w H h a (dNo a o) := ⟨e, ⟨o, e⟩, fun _ _ q k => k _ q⟩
theorem dNo_own {a x : Addr} {o : Obj} : dNo a o ≠ .own x := fun z => by cases z
section
variable {X : Cx} {pins : List (Addr × Obj)} {σ : L2.St} {H : Hp} {s : Shared} {Z : FP} {kvs : List (D × OV)} {xs : List Trip} {P : FP} {a : Addr} {o : Obj}
theorem RepOk.is (I : Inv X pins σ H s) (r : RepOk X.K ⟨H, Z⟩ kvs xs P) : ∀ y ∈ xs, y.1.hash X.w = khash y.1 ∧ NestedIs s.heap y.1 (.ref y.2.1) ∧ y.1.depth ≤ 8 := fun y hy => by
  obtain ⟨d, o, _, h1, h2, h3⟩ := r.key_mem y hy
  exact ⟨kh_eq X.w d _ h1, rep_nk I d _ _ _ h3 h1 rfl, h2⟩
theorem RepOk.dict (I : Inv X pins σ H s) (e : Rd H a (dNo a o)) (dob : DObj a o xs) (r : RepOk X.K ⟨H, Z⟩ kvs xs P) : s.heap.DictOfH (nestedKind X.prog X.w) a xs := dob.dict (dNo_at I.hok e) (r.is I)
theorem nk_room {A : Around} {k : Nat} (hr : Room k A) : (nestedKind X.prog X.w).room A.in1 := by
  have := hr.units
  show A.in1.units + 8 < cLine
  show A.units + 1 + 8 < cLine
  omega
end
end G
namespace G
open PySem PySem.Spec PyProof.Rows L2

/-! ### dicts keyed by tuples: methods -/
def IsN (H : Hp) (x : V) : Prop := ∃ a o xs, x = .ref a ∧ Rd H a (dNo a o) ∧ DObj a o xs
def tBN (r : V → List V → Hp → VK → Prop) (to : TE) (t : TA) : TE := fun σ H Q => to σ H fun x H1 => IsN H1 x ∧ t σ H1 fun xs H2 => r x xs H2 Q
section
variable {X : Cx} {o e : Expr} {es : List Expr} {to : TE} {t : TA} {name : Str} {apos cpos : Pos} {id : String} {r : V → List V → Hp → VK → Prop}
theorem pe_bmN (slot : Slot "dict" name id) (hty : typeOf (.builtin id) = pure (.type "method_descriptor")) (hm : MtR X id r) (ho : PE X o to) (ha : PA X (e :: es) t)
    (hbase : attributeBase o name X.env (eval o X.env) = eval o X.env := by rfl)
    (hfw : ((backTo cpos (starEach (e :: es) X.env)).all (fun x => !x.1) && (backToKw cpos (keywordEach [] X.env)).all (fun x => x.1.isSome) && decide ((e :: es).length + ([] : List Keyword).length + (if ([] : List Keyword).isEmpty then 0 else 1) < 30)) = true := by rfl)
    (hline : (apos.endLine == cpos.line) = true := by rfl) (hs : starEach (e :: es) X.env = (false, eval e X.env) :: starEach es X.env := by rfl) (hpn : (backTo cpos (starEach es X.env)).any (·.1) = false := by rfl) :
    PE X (.Call (.Attribute o name apos) (e :: es) [] cpos) (tBN r to t) := by
  refine ⟨fun pins s σ H Q I h => ?_⟩
  refine wpAny_Call_method_late hbase hfw hline rfl (thn (ho.run pins s σ H _ I h) fun v s1 ⟨x, H1, I1, r1, ⟨a, ob, xs, ex, hd, dob⟩, q1⟩ => ?_)
  subst ex
  cases r1
  have hg := dNo_at I1.hok hd
  refine ⟨"dict", id, PySem.F.plainAttrs_dict, slot, hty, ⟨ob, hg, dob.ed.1⟩, fun b e2 => ?_, ?_⟩
  · cases e2
    exact ⟨ob, hg, dob.ed.2.1⟩
  have hA := ha.run cpos pins s1 σ H1 _ I1 q1
  rw [hs] at hA ⊢
  refine Calls.callWith_builtin (by show (false || (backTo cpos (starEach es X.env)).any (·.1)) = false; rw [hpn] <;> rfl) (Calls.evalArgs_plain ?_)
  exact thn hA fun us s2 ⟨vs, H2, I2, r2, q2⟩ => hm pins s2 σ H2 (.ref a) vs (.ref a) us Q I2 rfl r2 q2
end
/-- a key, what it stands for -/
def NKey (K : PySem.W.Frag) (H : Hp) (Z : FP) (q : Addr) (k : NestedKey) : Prop := ∃ d, Rep K ⟨H, Z⟩ (.ref q) d ∧ nkOf d = some k ∧ k.depth ≤ 8
/-- d.setdefault(k, {}) -/
def rSd (K : PySem.W.Frag) : V → List V → Hp → VK → Prop := fun x vs H Q => ∃ (a q e : Addr) (o : Obj) (xs : List Trip) (k : NestedKey) (Z P : FP) (kvs : List (D × OV)), x = .ref a ∧ vs = [.ref q, .ref e] ∧
  H a = some (dNo a o) ∧ DObj a o xs ∧ RepOk K ⟨H, Z⟩ kvs xs P ∧ NKey K H Z q k ∧ xs.length ≤ 15000000 ∧
  (∀ q' u v, atKey xs k = some (q', u) → RelV v u → Q v H) ∧ (atKey xs k = none → ∀ o', DObj a o' (xs ++ [(k, q, .ref e)]) → Q (.ref e) (upd H a (dNo a o')))
theorem ln_line {n : Nat} (h : n ≤ 16000000) : n ≤ sizeLine := le_line h
theorem RepOk.val_mem {K : PySem.W.Frag} {s : S} : ∀ {kvs : List (D × OV)} {xs : List Trip} {P : FP}, RepOk K s kvs xs P → ∀ x ∈ xs, ∃ v, RelV v x.2.2
  | _, _, _, .nil, x, hx => by simp at hx
  | _, _, _, .cons h1 h2 h3 h4 h5 t dd, x, hx => by
    rcases List.mem_cons.mp hx with rfl | hx
    · exact ⟨_, h4⟩
    · exact t.val_mem x hx
theorem atKey_mem {xs : List Trip} {k : NestedKey} {p : Addr × Value} (hp : atKey xs k = some p) : (k, p.1, p.2) ∈ xs := by
  unfold atKey at hp
  obtain ⟨y, hy, e⟩ := Option.map_eq_some_iff.mp hp
  have e1 := List.find?_some hy
  have e2 := List.mem_of_find?_eq_some hy
  have e3 : y.1 = k := of_decide_eq_true e1
  obtain ⟨y1, y2⟩ := y
  cases e
  cases e3
  exact e2
section
variable {X : Cx} {pins : List (Addr × Obj)} {σ : L2.St} {H : Hp} {s : Shared} {Z : FP} {kvs : List (D × OV)} {xs : List Trip} {P : FP} {a q : Addr} {o : Obj} {k : NestedKey}
/-- the heap behind d[k] = u -/
theorem put_new {h' : Heap} {tk : Nat} {u : Value} (I : Inv X pins σ H s) (hd : H a = some (dNo a o)) (dob : DObj a o xs) (rk : RepOk X.K ⟨H, Z⟩ kvs xs P) (nk : NKey X.K H Z q k) (hl : xs.length ≤ 15000000)
    (hm : h'.DictOfH (nestedKind X.prog X.w) a (storedH xs k q u)) (hs : Heap.SameBut a s.heap h') : ∃ o', DObj a o' (storedH xs k q u) ∧ Inv X pins σ (upd H a (dNo a o')) { s with heap := h', toks := tk } := by
  obtain ⟨d, rd, nd, dp⟩ := nk
  have hlen : (storedH xs k q u).length ≤ xs.length + 1 := by
    unfold storedH
    split
    · rw [List.length_map]; omega
    · rw [List.length_append]; simp
  obtain ⟨o', ho, dob'⟩ := DObj.of (P := X.prog) (w := X.w) hm dob.sm (by omega) fun y hy => by
    unfold storedH at hy
    split at hy
    · obtain ⟨z, hz, rfl⟩ := List.mem_map.mp hy
      unfold putAt
      split
      · exact (rk.is I z hz).1
      · exact (rk.is I z hz).1
    · rcases List.mem_append.mp hy with hy | hy
      · exact (rk.is I y hy).1
      · rw [List.mem_singleton] at hy
        subst hy
        exact kh_eq X.w d k nd
  exact ⟨o', dob', d_write I (by rw [hd]; exact True.intro) hs ⟨o', ho⟩ (dNo_ok ho)⟩
end
section
variable {X : Cx} {kk : Nat}
theorem mt_sd (hr : Room kk X.A) : MtR X "dict.setdefault" (rSd X.K) := by
  intro pins s σ H x vs v us Q I rx rs h
  obtain ⟨a, q, e, o, xs, k, Z, P, kvs, rfl, rfl, hd, dob, rk, nk, hl, q1, q2⟩ := h
  cases rx
  cases rs with
  | cons r1 rs =>
    cases rs with
    | cons r2 rs =>
      cases rs
      cases r1
      cases r2
      have hdct := rk.dict I (.inl hd) dob
      obtain ⟨d, rd, nd, dp⟩ := id nk
      have hk : (nestedKind X.prog X.w).is s.heap k q := ⟨rep_nk I d k _ _ rd nd rfl, dp⟩
      refine call_setdefault_heap (hsz := ln_line (by omega)) (nk_room hr) hk dob.sm hdct (fun p hp => ?_) fun hn h' hm hs => ?_
      · obtain ⟨v, hv⟩ := rk.val_mem _ (atKey_mem hp)
        exact ⟨v, H, I.tok _, hv, q1 p.1 p.2 v hp hv⟩
      · obtain ⟨o', dob', J⟩ := put_new (tk := s.toks + (nestedKind X.prog X.w).draws k) I hd dob rk nk hl hm hs
        rw [storedH_new hn] at dob'
        exact ⟨.ref e, _, J, rfl, q2 hn o' dob'⟩
end
/-! ### x = d.setdefault(k, {}); what follows writes to x -/
def sdOld : Option OV → Option (List (Key × D))
  | none => some []
  | some (.oD es) => some es
  | _ => none
def tupD : D → Bool
  | .tuple _ => true
  | _ => false
def mSdf (g j r : Nat) (m2 : MS) : MS := fun env => match lk env j with
  | some (.oK kvs) => match lk env r with
    | some (.fz d) => match nkOf d with
      | some k => if tupD d = true ∧ k.depth ≤ 8 ∧ kvs.length ≤ 15000000 ∧ g < env.length ∧ g ≠ j then
          match sdOld (lkK kvs k) with
          | some es => match m2 ((env.set j none).set g (some (.oD es))) with
            | some (.nx e2) => match lk e2 g with
              | some (.oD es') => if j < e2.length then some (.nx ((e2.set g none).set j (some (.oK (puK kvs d k (.oD es')))))) else none
              | _ => none
            | _ => none
          | none => none
        else none
      | none => none
    | _ => none
  | _ => none
section
variable {K : PySem.W.Frag}
theorem sdf_tail {fx : List Nat} {σ : L2.St} {s s1 : S} {env1 e2 : Env} {P P1 F : FP} {a b : Addr} {g j : Nat} {o1 : Obj} {xs1 : List Trip} {kvs : List (D × OV)} {d : D} {k : NestedKey} {es' : List (Key × D)} {N : L2.St → Hp → Prop} {t2 : L2.St → Hp → Prop}
    (hgj : g ≠ j) (hg : g < σ.length) (hgx : g ∉ fx) (hσj : σ[j]? = some (some (.ref a))) (q6 : lk e2 g = some (.oD es')) (hj : j < e2.length)
    (c1 : EnvOk K s1 (σ.set g (some (.ref b))) env1 P1) (c3 : Dis P1 F) (c4 : Own (fU P1 F) s1) (c5 : Ext P s (fU P1 F) s1) (fa : F a) (hd : s1.H a = some (dNo a o1)) (dob : DObj a o1 xs1)
    (reb : ∀ s2 : S, Kp F s1 s2 → RepO K s2 (.oD es') (.ref b) (f1 b) → ∃ Pn, RepOk K s2 (puK kvs d k (.oD es')) xs1 Pn ∧ (∀ x, Pn x → x = b ∨ F x) ∧ ¬ Pn a)
    (hr : Nx K (g :: j :: fx) (σ.set g (some (.ref b))) s1 P1 e2 N → t2 (σ.set g (some (.ref b))) s1.H) (hq : Nx K fx σ s P ((e2.set g none).set j (some (.oK (puK kvs d k (.oD es'))))) N) : t2 (σ.set g (some (.ref b))) s1.H := by
  refine hr fun σ2 s2 P2 b1 b2 b3 b4 => ?_
  have oF : Own F s1 := c4.sub fun _ z => .inr z
  have kp := b3.kp c3 oF
  have oF2 := b3.ownR c3 oF
  have dF2 := b3.disR c3 oF
  obtain ⟨v3, Pg, R2, h1, h2, h3, h4, h5, _⟩ := b1.get q6
  have hv : v3 = .ref b := by
    have e1 := b4 g List.mem_cons_self
    rw [List.getElem?_set_self hg] at e1
    rw [h1] at e1
    cases e1
    rfl
  subst hv
  cases h2 with
  | oD g1 g2 =>
    obtain ⟨Pn, r1, r2, r3⟩ := reb s2 kp (.oD g1 g2)
    have ro : RepO K s2 (.oK (puK kvs d k (.oD es'))) (.ref a) (fU (f1 a) Pn) := .oK ((kp.k a fa).trans hd) dob r1 r3
    have inF : ∀ x, fU (f1 a) Pn x → x = b ∨ F x := fun x z => z.elim (fun z => .inr (by cases (show x = a from z); exact fa)) (r2 x)
    have dd : Dis R2 (fU (f1 a) Pn) := fun x z w => (inF x w).elim (fun e => h3 x e z) fun w => dF2 x ((h4 x).mpr (.inr z)) w
    have hj' : j < (e2.set g none).length := by simpa using hj
    obtain ⟨P', p1, p2⟩ := h5.put hj' ro dd
    have hσ2 : σ2.set j (some (.ref a)) = σ2 := by
      refine List.ext_getElem? fun i => ?_
      by_cases e' : j = i
      · subst e'
        have e1 := b4 j (List.mem_cons_of_mem _ List.mem_cons_self)
        rw [List.getElem?_set_ne hgj, hσj] at e1
        rw [e1, List.getElem?_set_self]
        exact (List.getElem?_eq_some_iff.mp e1).1
      · rw [List.getElem?_set_ne e']
    rw [hσ2] at p1
    have sub : ∀ x, P' x → fU P2 F x := fun x z => (p2 x z).elim (fun z => .inl ((h4 x).mpr (.inr z))) fun z => (inF x z).elim (fun e => .inl ((h4 x).mpr (.inl e))) .inr
    refine hq σ2 s2 P' p1 ((b2.or oF2).sub sub) ((c5.trans b3.frame).sub sub) fun i hi => ?_
    rw [b4 i (List.mem_cons_of_mem _ (List.mem_cons_of_mem _ hi)), List.getElem?_set_ne fun e => hgx (by rw [e]; exact hi)]
end
theorem wk_ref {v : V} {b : Addr} (h : RelV v (Value.ref b)) : v = .ref b := by
  cases v with
  | ref a => cases h; rfl
  | int i => obtain ⟨t, e⟩ := h; cases e
  | str x => obtain ⟨t, e⟩ := h; cases e
  | byt x => obtain ⟨t, e⟩ := h; cases e
  | flt x => obtain ⟨t, e⟩ := h; cases e
  | _ => cases h
section
variable {X : Cx} {fx : List Nat} {kk : Nat}
theorem DSs.sdf {g j r : Nat} {gn jn rn : Str} {p1 p2 p3 p4 apos cpos pos : Pos} {rest : List Stmt} {m2 : MS} (hr : Room kk X.A) (hN : X.N.Nodup) (h2 : DSs X (g :: j :: fx) rest m2) (hgx : g ∉ fx := by decide)
    (hg : X.N[g]? = some gn := by rfl) (hgl : Loc X.env.scope gn := by first | exact Or.inl rfl | exact Or.inr rfl) (hj : X.N[j]? = some jn := by rfl) (hjv : Vis X.env.scope jn := by first | exact Or.inl rfl | exact Or.inr (Or.inl rfl) | exact Or.inr (Or.inr rfl))
    (hrn : X.N[r]? = some rn := by rfl) (hrv : Vis X.env.scope rn := by first | exact Or.inl rfl | exact Or.inr (Or.inl rfl) | exact Or.inr (Or.inr rfl))
    (hjd : (jn == ("__debug__" : Str)) = false := by decide) (hjc : (jn == ("__classdict__" : Str)) = false := by decide) (hrd : (rn == ("__debug__" : Str)) = false := by decide) (hrc : (rn == ("__classdict__" : Str)) = false := by decide)
    (hbase : attributeBase (.Name jn p2) "setdefault" X.env (eval (.Name jn p2) X.env) = eval (.Name jn p2) X.env := by rfl)
    (hfw : ((backTo cpos (starEach [.Name rn p3, .Dict [] [] p4] X.env)).all (fun x => !x.1) && (backToKw cpos (keywordEach [] X.env)).all (fun x => x.1.isSome) && decide (([.Name rn p3, .Dict [] [] p4] : List Expr).length + ([] : List Keyword).length + (if ([] : List Keyword).isEmpty then 0 else 1) < 30)) = true := by rfl)
    (hline : (apos.endLine == cpos.line) = true := by rfl) (hs : starEach [.Name rn p3, .Dict [] [] p4] X.env = (false, eval (.Name rn p3) X.env) :: starEach [.Dict [] [] p4] X.env := by rfl) (hs2 : starEach [.Dict [] [] p4] X.env = (false, eval (.Dict [] [] p4) X.env) :: starEach [] X.env := by rfl)
    (hpn : (backTo cpos (starEach [.Dict [] [] p4] X.env)).any (·.1) = false := by rfl)
    (hsw : swapsWith (.Call (.Attribute (.Name jn p2) "setdefault" apos) [.Name rn p3, .Dict [] [] p4] [] cpos) (some (.Name gn p1)) pos.line X.env = pure false := by rfl)
    (hf : X.fn gn = true ∨ X.env.scope.names.lookup gn = some .local := by first | exact .inl rfl | exact .inr rfl) :
    DSs X fx (.Assign [.Name gn p1] (.Call (.Attribute (.Name jn p2) "setdefault" apos) [.Name rn p3, .Dict [] [] p4] [] cpos) pos :: rest) (mSdf g j r m2) := by
  obtain ⟨t2, hp2, hr2⟩ := h2.run
  have sd := mt_sd (X := X) hr
  refine ⟨_, pss_cons (ps_set hN hg hgl (pe_bmN PySem.F.slot_dict_setdefault PySem.F.type_dict_setdefault sd (pe_var hj hjv hjd hjc) (pa_cons (pe_var hrn hrv hrd hrc) (pa_cons pe_dnewK pa_nil hs2) hs) hbase hfw hline hs hpn) hsw hf) hp2, fun σ s env P out a1 a2 a3 D hq => ?_⟩
  unfold mSdf at a3
  split at a3
  · rename_i kvs q1
    split at a3
    · rename_i d q2
      split at a3
      · rename_i k q3
        split at a3
        · rename_i hc
          obtain ⟨hc1, hc2, hc3, hc4, hc5⟩ := hc
          split at a3
          · rename_i es q4
            split at a3
            · rename_i e2 q5
              split at a3
              · rename_i es' q6
                split at a3
                · rename_i hjl
                  cases a3
                  obtain ⟨v, Po, R, hσj, ro, dis, hP, eR, _⟩ := a1.get q1
                  obtain ⟨v2, Po2, R2, hσr, ro2, _⟩ := a1.get q2
                  cases ro with
                  | @oK a o xs kvs Pk hH dob rk na =>
                  cases ro2 with
                  | fz rd =>
                  cases d with
                  | tuple ds =>
                    obtain ⟨q, rfl⟩ : ∃ q, v2 = .ref q := by cases rd; exact ⟨_, rfl⟩
                    refine ⟨_, hσj, ⟨a, o, xs, rfl, .inl hH, dob⟩, _, hσr, fun e he => ?_⟩
                    have hae : a ≠ e := ne_of_none hH he
                    have hlen := rk.len
                    have hgσ : g < σ.length := by rw [a1.len]; exact hc4
                    have Pa : P a := (hP a).mpr (.inl (.inl rfl))
                    have nPe : ¬ P e := fun z => (a2.o e z).2 he
                    have xe : Ext P s (fU P (f1 e)) ⟨upd s.H e (.dK []), s.Z⟩ := Ext.new he
                    have kpE : ∀ W : FP, (∀ x, W x → P x) → Kp W s ⟨upd s.H e (.dK []), s.Z⟩ := fun W hW => ⟨xe.fz, fun x z => upd_ne fun e' => nPe (by rw [← e']; exact hW x z)⟩
                    have rkE := RepOk.mono _ _ _ rk (kpE Pk fun x z => (hP x).mpr (.inl (.inr z)))
                    have hHE : upd s.H e (.dK []) a = some (dNo a o) := (upd_ne hae).trans hH
                    have rdE := Rep.mono xe.fz _ _ rd
                    have wE : Own (fU P (f1 e)) (⟨upd s.H e (.dK []), s.Z⟩ : S) := by
                      refine ⟨fun x z => ?_, fun x z => ?_⟩
                      · rcases z with z | z
                        · exact ⟨(a2.o x z).1, fun y => (a2.o x z).2 (xe.dom x y)⟩
                        · cases (show x = e from z)
                          exact ⟨fun y => a2.w e y he, by show upd s.H e (.dK []) e ≠ none; rw [upd_same]; exact fun z => nomatch z⟩
                      · exact fun y => a2.w x z (xe.dom x y)
                    refine ⟨a, q, e, o, xs, k, s.Z, Pk, kvs, rfl, rfl, hHE, dob, rkE, ⟨_, rdE, q3, hc2⟩, by omega, fun q' u' v' hat hv' => ?_, fun hat o' dob' => ?_⟩
                    · cases hlk : lkK kvs k with
                      | none => rw [rk.at_none hlk] at hat; cases hat
                      | some ov =>
                        rw [hlk] at q4
                        cases ov with
                        | oD es0 =>
                          cases q4
                          obtain ⟨qq, u, vv, Po', Rk, b1, b2, b3, b4, b5, b6⟩ := rkE.split hlk dob.nd
                          rw [hat] at b1
                          cases b1
                          subst b5
                          cases b3 with
                          | @oD b vs _ g1 g2 =>
                            cases b2
                            have ev := wk_ref hv'
                            subst ev
                            have Pb : P b := (hP b).mpr (.inl (.inr (.inl rfl)))
                            have dRb : Dis R (f1 b) := fun x z w => dis x (.inr (.inl w)) z
                            have eRE := eR.mono (kpE R fun x z => (hP x).mpr (.inr z))
                            obtain ⟨P1, c1, c2⟩ := eRE.put (i := g) (by simpa using hc4) (.oD g1 g2) dRb
                            have dF : Dis P1 (fU (f1 a) Rk) := fun x z w => by
                              rcases c2 x z with z | z
                              · exact dis x (w.elim .inl fun w => .inr (.inr w)) z
                              · cases (show x = b from z)
                                rcases w with w | w
                                · cases (show b = a from w); exact na (.inl rfl)
                                · exact b4 b rfl w
                            have sub : ∀ x, fU P1 (fU (f1 a) Rk) x → fU P (f1 e) x := fun x z => .inl ((hP x).mpr (by
                              rcases z with z | z | z
                              · exact (c2 x z).elim .inr fun z => .inl (.inr (.inl z))
                              · exact .inl (.inl z)
                              · exact .inl (.inr (.inr z))))
                            refine sdf_tail (t2 := fun σ H => t2 D σ H) (F := fU (f1 a) Rk) (es' := es') (kvs := kvs) (d := .tuple ds) (k := k) hc5 hgσ hgx hσj q6 hjl c1 dF (wE.sub sub) (xe.sub sub) (.inl rfl) hHE dob (fun s2 kp r2 => ?_) (fun hN2 => hr2 _ ⟨upd s.H e (.dK []), s.Z⟩ _ P1 _ c1 (wE.sub fun x z => sub x (.inl z)) q5 D hN2) hq
                            refine ⟨fU (f1 b) Rk, ?_, fun x z => z.elim .inl fun z => .inr (.inr z), fun z => na z⟩
                            have := b6 s2 (.oD es') (f1 b) kp.r r2 b4
                            unfold puK
                            rw [hlk]
                            exact this
                        | _ => cases q4
                    · cases hlk : lkK kvs k with
                      | some ov =>
                        obtain ⟨qq, u, vv, Po', Rk, b1, _⟩ := rk.split hlk dob.nd
                        rw [hat] at b1
                        cases b1
                      | none =>
                        rw [hlk] at q4
                        cases q4
                        have xw : Ext (fU P (f1 e)) ⟨upd s.H e (.dK []), s.Z⟩ (fU P (f1 e)) ⟨upd (upd s.H e (.dK [])) a (dNo a o'), s.Z⟩ := Ext.write wE (.inl Pa)
                        have x1 := xe.trans xw
                        have hHe : upd (upd s.H e (.dK [])) a (dNo a o') e = some (.dK []) := by rw [upd_ne (Ne.symm hae), upd_same]
                        have w1 : Own (fU P (f1 e)) (⟨upd (upd s.H e (.dK [])) a (dNo a o'), s.Z⟩ : S) := ⟨fun x z => ⟨(wE.o x z).1, fun y => (wE.o x z).2 (xw.dom x y)⟩, fun x z y => wE.w x z (xw.dom x y)⟩
                        have kp1 : ∀ W : FP, (∀ x, W x → P x) → ¬ W a → Kp W s ⟨upd (upd s.H e (.dK [])) a (dNo a o'), s.Z⟩ := fun W hW hWa => ⟨x1.fz, fun x z => by
                          show upd (upd s.H e (.dK [])) a (dNo a o') x = s.H x
                          rw [upd_ne fun e' => hWa (by rw [← e']; exact z), upd_ne fun e' => nPe (by rw [← e']; exact hW x z)]⟩
                        have eRE := eR.mono (kp1 R (fun x z => (hP x).mpr (.inr z)) fun z => dis a (.inl rfl) z)
                        have rk1 := RepOk.mono _ _ _ rk (kp1 Pk (fun x z => (hP x).mpr (.inl (.inr z))) na)
                        have rd1 := Rep.mono x1.fz _ _ rd
                        have nRe : ¬ R e := fun z => nPe ((hP e).mpr (.inr z))
                        have nKe : ¬ Pk e := fun z => nPe ((hP e).mpr (.inl (.inr z)))
                        obtain ⟨P1, c1, c2⟩ := eRE.put (i := g) (by simpa using hc4) (.oD hHe .nil) (fun x z w => nRe (by cases (show x = e from w); exact z))
                        have dF : Dis P1 (fU (f1 a) Pk) := fun x z w => by
                          rcases c2 x z with z | z
                          · exact dis x w z
                          · cases (show x = e from z)
                            rcases w with w | w
                            · exact hae (show e = a from w).symm
                            · exact nKe w
                        have sub : ∀ x, fU P1 (fU (f1 a) Pk) x → fU P (f1 e) x := fun x z => by
                          rcases z with z | z
                          · exact (c2 x z).imp_left fun z => (hP x).mpr (.inr z)
                          · exact .inl ((hP x).mpr (.inl z))
                        refine sdf_tail (t2 := fun σ H => t2 D σ H) (F := fU (f1 a) Pk) (es' := es') (kvs := kvs) (d := .tuple ds) (k := k) hc5 hgσ hgx hσj q6 hjl c1 dF (w1.sub sub) (x1.sub sub) (.inl rfl) upd_same dob' (fun s2 kp r2 => ?_) (fun hN2 => hr2 _ ⟨upd (upd s.H e (.dK [])) a (dNo a o'), s.Z⟩ _ P1 _ c1 (w1.sub fun x z => sub x (.inl z)) q5 D hN2) hq
                        refine ⟨fU Pk (f1 e), ?_, fun x z => z.elim (fun z => .inr (.inr z)) .inl, fun z => z.elim na fun z => hae z⟩
                        have := (RepOk.mono _ _ _ rk1 kp.r).snoc q3 hc2 (Rep.mono kp.f _ _ rd1) (u := Value.ref e) (v := V.ref e) rfl r2 fun x z w => nKe (by cases (show x = e from w); exact z)
                        unfold puK
                        rw [hlk]
                        exact this
                  | _ => cases hc1
                · cases a3
              · cases a3
            · cases a3
          · cases a3
        · cases a3
      · cases a3
    · cases a3
  · cases a3
end
end G
namespace G
open PySem PySem.Spec PyProof.Rows L2

/-! ### {} as a dict keyed by tuples -/
section
variable {X : Cx} {e : Expr} {pos p : Pos} {kk : Nat}
def tNewN : TE := fun _ H Q => ∀ a o, H a = none → DObj a o [] → Q (.ref a) (upd H a (dNo a o))
theorem pe_newN : PE X (.Dict [] [] pos) tNewN := ⟨fun pins s σ H Q I h => by
  refine wpAny_Dict_empty ?_
  have hg : (s.heap.push { cls := .type "dict", data := .dict #[] }).get? s.heap.objs.size = some { cls := .type "dict", data := .dict #[] } := Heap.get?_push_size _ rfl
  have sm : (s.heap.objs.size == sysModules) = false := (dk_empty (P := X.prog) (w := X.w) (H := H) s.heap I.big).2.1
  refine ⟨.ref s.heap.objs.size, _, I.laid (a := s.heap.objs.size) (o := dNo s.heap.objs.size { cls := .type "dict", data := .dict #[] }) (t' := s.toks) (fun _ _ q => Heap.get?_push_of_some _ q) (Nat.le_refl _) (dNo_ok hg), rfl, h _ _ (I.hok.fresh (Nat.le_refl _)) ⟨sm, ⟨rfl, rfl, rfl⟩, ⟨#[], _, rfl, rfl⟩, List.nodup_nil, Nat.zero_le _⟩⟩⟩
theorem DE.dicN : DE X (.Dict [] [] pos) (mC (.oK [])) := by
  refine ⟨_, pe_newN, fun σ s env P o env' h1 h2 h3 Q hq a ob ha dob => ?_⟩
  cases h3
  have x : Ext P s (fU P (f1 a)) ⟨upd s.H a (dNo a ob), s.Z⟩ := Ext.new ha
  have nP : ¬ P a := fun z => (h2.o a z).2 ha
  have k : Kp P s ⟨upd s.H a (dNo a ob), s.Z⟩ := ⟨x.fz, fun b z => upd_ne fun e => nP (by rw [← e]; exact z)⟩
  refine hq (.ref a) ⟨upd s.H a (dNo a ob), s.Z⟩ P (fU (f1 a) fE) (h1.mono k) (.oK upd_same dob .nil fun z => z) (fun b z w => w.elim (fun w => nP (by rw [← (show b = a from w)]; exact z)) fun w => w) ⟨fun b z => ?_, fun b z y => h2.w b z (x.dom b y)⟩ (x.sub fun b z => z.imp_right fun z => z.elim id fun z => z.elim)
  rcases z with z | z | z
  · exact ⟨(h2.o b z).1, fun y => (h2.o b z).2 (x.dom b y)⟩
  · cases (show b = a from z)
    exact ⟨fun y => h2.w a y ha, by show upd s.H a (dNo a ob) a ≠ none; rw [upd_same]; exact fun z => nomatch z⟩
  · exact z.elim
/-! ### such a dict shown: it is never written again -/
def frzK : List (D × OV) → Option (List (D × OV))
  | [] => some []
  | (d, o) :: r => match o.frz, frzK r with
    | some x, some r' => some ((d, .fz x) :: r')
    | _, _ => none
theorem RepOk.frzd {K : PySem.W.Frag} {s : S} {Z' : FP} (hz : ∀ a, s.Z a → Z' a) : ∀ {kvs : List (D × OV)} {xs : List Trip} {P : FP} {ks : List (D × OV)}, RepOk K s kvs xs P → frzK kvs = some ks → (∀ a, P a → Z' a) → ∃ R, RepOk K ⟨s.H, Z'⟩ ks xs R ∧ ∀ a, ¬ R a
  | _, _, _, _, .nil, e, _ => by cases e; exact ⟨fE, .nil, fun _ z => z⟩
  | _, _, _, _, .cons h1 h2 h3 h4 h5 t dd, e, hp => by
    simp only [frzK] at e
    split at e
    · rename_i x r' e1 e2
      cases e
      obtain ⟨R, a1, a2⟩ := t.frzd hz e2 fun a z => hp a (.inr z)
      exact ⟨fU fE R, .cons h1 h2 (Rep.mono (s' := ⟨s.H, Z'⟩) (⟨hz, fun _ _ _ r => r⟩ : Fz s ⟨s.H, Z'⟩) _ _ h3) h4 (.fz (h5.freeze e1 hz fun a z => hp a (.inl z))) a1 fun _ z => z.elim, fun a z => z.elim id (a2 a)⟩
    · cases e
def mFrzK (m : ME) : ME := fun env => match m env with
  | some (.oK kvs, e1) => match frzK kvs with
    | some ks => some (.fK ks, e1)
    | none => none
  | _ => none
theorem DE.frzK {m : ME} (h : DE X e m) : DE X e (mFrzK m) := by
  obtain ⟨t, hp, hr⟩ := h.run
  refine ⟨t, hp, fun σ s env P o env' a1 a2 a3 Q hq => ?_⟩
  unfold mFrzK at a3
  split at a3
  · rename_i kvs e1 q1
    split at a3
    · rename_i ks q2
      cases a3
      refine hr σ s env P _ _ a1 a2 q1 _ fun v s1 P1 R b1 b2 b3 b4 b5 => ?_
      obtain ⟨w, x⟩ := b4.frzd b3
      cases b2 with
      | @oK a o xs _ Pk g1 g2 g3 g4 =>
        obtain ⟨R', r1, r2⟩ := g3.frzd (Z' := fU s1.Z (fU (f1 a) Pk)) (fun _ z => .inl z) q2 fun a z => .inr (.inr z)
        exact hq (.ref a) ⟨s1.H, fU s1.Z (fU (f1 a) Pk)⟩ P1 fE (b1.mono ⟨x.fz, fun _ _ => rfl⟩) (.fK (.inr (.inl rfl)) (.inl g1) g2 r1 r2) (fun _ _ z => z) (by rw [fU_eq]; exact w) (by rw [fU_eq]; exact b5.trans x)
    · cases a3
  · cases a3
end
/-! ### the keys, one by one -/
def Itn (d : Addr) (o : Obj) (qs : List Addr) : It :=
  ⟨fun i H => Rd H d (dNo d o) ∧ i < qs.length, fun i H x H' => H' = H ∧ ∃ q, qs[i]? = some q ∧ x = .ref q, fun i H => Rd H d (dNo d o) ∧ qs.length ≤ i⟩
theorem kent_at {es : Array DictEntry} {xs : List Trip} (h : es.toList = xs.map kent) : es.size = xs.length ∧ ∀ {i : Nat} {x : Trip}, xs[i]? = some x → es[i]? = some (kent x) := by
  refine ⟨by have := congrArg List.length h; simpa using this, fun {i x} e => ?_⟩
  rw [← Array.getElem?_toList, h, List.getElem?_map, e]
  rfl
section
variable {P : Program} {w : World} {K : PySem.W.Frag} {tg : Expr} {d : Addr} {o : Obj} {xs : List Trip}
theorem turn_n {es : Array DictEntry} {ep : Nat} (it : Addr) (hod : o.data = .dict es ep) (he : es.toList = xs.map kent) : Turn P w K tg (Itn d o (xs.map fun x => x.2.1)) [it] it (fun i h => h.IsKeyIter it d i xs.length ep) where
  mem := by simp
  obj := fun i h st b hb => by
    cases List.mem_singleton.mp hb
    obtain ⟨oi, e, c, dd⟩ := st
    exact ⟨oi, e, fun v z => by rw [dd] at z; cases z⟩
  keep := fun i h h' st k => st.at fun oi e => k it (by simp) oi e
  item := by
    intro X hP hw hK hc i pins s σ H E I hf st hg
    subst hP hw hK
    obtain ⟨hd, hi⟩ := hg
    rw [List.length_map] at hi
    obtain ⟨f0, f1, f2, f3, f4, f5⟩ := hf it (by simp)
    obtain ⟨x, hx⟩ : ∃ x, xs[i]? = some x := ⟨xs[i], List.getElem?_eq_getElem hi⟩
    obtain ⟨k1, k2⟩ := kent_at he
    refine next_key_item st (dNo_at I.hok hd) hod k1 (k2 hx) fun h' st' sb => ?_
    have J : Inv X pins σ H { s with heap := h' } := I.turned (t' := s.toks) (fun b ob hb e => (sb.2 b hb).trans e) f0 f1 f3 f4 f5
    obtain ⟨oi, e, c, dd⟩ := id st'
    exact ⟨_, rfl, go_of (s := { s with heap := h' }) e c dd (by decide) ⟨.ref x.2.1, H, J, rfl, ⟨rfl, x.2.1, by rw [List.getElem?_map, hx]; rfl, rfl⟩, st', fun b hb => (hf b hb).1⟩⟩
  done := by
    intro X hP hw hK hc i pins s σ H E I hf st hg
    subst hP hw hK
    obtain ⟨hd, hi⟩ := hg
    rw [List.length_map] at hi
    obtain ⟨f0, f1, f2, f3, f4, f5⟩ := hf it (by simp)
    exact next_key_end (I.ok.hd hc) st (dNo_at I.hok hd) hod (kent_at he).1 hi fun h' eb => ⟨rfl, I.turned (t' := s.toks) (fun b ob hb e => eb b ob hb e) f0 f1 f3 f4 f5⟩
  self := fun A i s Q E st h => wpAny_pyIter_keyiter st h
end
theorem wk_n {K : PySem.W.Frag} {s0 : S} {a : Addr} {o : Obj} {kvs : List (D × OV)} {xs : List Trip} {P : FP} (hz : s0.Z a) (hr : Rd s0.H a (dNo a o)) (rk : RepOk K s0 kvs xs P) : Wk K (Itn a o (xs.map fun x => x.2.1)) (kvs.map (·.1)) s0 := by
  intro i s1 f w
  have h1 := f.r _ _ hz hr
  refine ⟨fun d e => ?_, fun hl => ⟨h1, by rw [List.length_map, rk.len]; simpa using hl⟩⟩
  rw [List.getElem?_map] at e
  obtain ⟨kv, e1, e2⟩ := Option.map_eq_some_iff.mp e
  obtain ⟨d', ov⟩ := kv
  cases e2
  obtain ⟨x, x1, x2, x3⟩ := rk.get e1
  have hi : i < (xs.map fun x : Trip => x.2.1).length := by rw [List.length_map]; exact (List.getElem?_eq_some_iff.mp x1).1
  refine ⟨⟨h1, hi⟩, fun y H' ⟨e3, q, e4, e5⟩ => ⟨s1, e3.symm, .refl _ _, ?_⟩⟩
  rw [List.getElem?_map, x1] at e4
  cases e4
  subst e5
  exact Rep.mono f _ _ x3
section
variable {X : Cx} {e tg : Expr} {pos p : Pos} {kk : Nat}
def mItN (i : Nat) : MI := fun env => match lk env i with
  | some (.fK kvs) => some (kvs.map (·.1), env)
  | _ => none
theorem DI.keysN (i : Nat) {x : Str} (hN : X.N[i]? = some x := by rfl) (hv : Vis X.env.scope x := by first | exact Or.inl rfl | exact Or.inr (Or.inl rfl) | exact Or.inr (Or.inr rfl)) (hd : (x == ("__debug__" : Str)) = false := by decide)
    (hcd : (x == ("__classdict__" : Str)) = false := by decide) : DI X tg (.Name x pos) (mItN i) := by
  have he := pe_var (X := X) (pos := pos) hN hv hd hcd
  refine ⟨fun σ H R => tVar i σ H fun v H1 => ∃ a o xs, v = .ref a ∧ Rd H1 a (dNo a o) ∧ DObj a o xs ∧ R (Itn a o (xs.map fun x => x.2.1)) H1, ⟨fun pins s σ H R I h => ?_⟩, fun σ s env P ds env' a1 a2 a3 R hq => ?_⟩
  · refine thn (he.run pins s σ H _ I h) fun u s1 ⟨y, H1, I1, rx, a, o, xs, ex, hd, dob, q⟩ => ?_
    subst ex
    cases rx
    obtain ⟨es, ep, e1, e2⟩ := dob.dt
    refine iter_keys dob.sm (dNo_at I1.hok hd) dob.ed e1 (pi_one (tk := s1.toks) I1 _ (turn_n _ e1 e2) ⟨_, Heap.get?_push_size _ rfl, rfl, ?_⟩ q)
    rw [(kent_at e2).1] <;> rfl
  · unfold mItN at a3
    split at a3
    · rename_i kvs q1
      cases a3
      obtain ⟨v, Po, R', h1, h2, _⟩ := a1.get q1
      cases h2 with
      | @fK a o xs _ Pk g1 g2 g3 g4 g5 => exact ⟨_, h1, a, o, xs, rfl, g2, g3, hq _ s P a1 a2 (.refl _ _) (wk_n g1 g2 g4)⟩
    · cases a3
/-! ### list(d) -/
def rListN (K : PySem.W.Frag) : V → Hp → VK → Prop := fun x H Q => ∃ a o xs, x = .ref a ∧ Rd H a (dNo a o) ∧ DObj a o xs ∧ ∀ p, H p = none → Q (.ref p) (upd H p (.lst (xs.map fun x => .ref x.2.1)))
theorem vals_qs : ∀ xs : List Trip, Vals (xs.map fun x => V.ref x.2.1) (xs.map fun x => Value.ref x.2.1)
  | [] => .nil
  | x :: xs => .cons rfl (vals_qs xs)
theorem call_listN (hc : X.calm = true) : CallR X (.type "list") (lift1 (rListN X.K)) := by
  intro pins s σ H vs us Q I r h
  match vs, h with
  | [x], h =>
    obtain ⟨a, o, xs, rfl, hd, dob, q⟩ := h
    obtain ⟨u, rfl, rx⟩ := vals1 r
    cases rx
    obtain ⟨es, ep, e1, e2⟩ := dob.dt
    obtain ⟨k1, k2⟩ := kent_at e2
    have hl := dob.len
    refine PySem.W.kdl_call (kdl_raw dob.sm dob.ed e1) (I.ok.hd hc) (dNo_at I.hok hd) (ln_line (by omega)) fun h' tk acc c' kp e it => ?_
    have ea : acc.toList = xs.map fun x => Value.ref x.2.1 := by
      refine List.ext_getElem? fun j => ?_
      rw [List.getElem?_map]
      cases hj : acc.toList[j]? with
      | none =>
        have h1 := List.getElem?_eq_none_iff.mp hj
        rw [Array.length_toList, it.1] at h1
        rw [List.getElem?_eq_none (by omega)]
        rfl
      | some v =>
        obtain ⟨en, hen, hv⟩ := it.2 j v (by rw [← Array.getElem?_toList]; exact hj)
        have hj2 : j < xs.length := by
          have := (List.getElem?_eq_some_iff.mp hj).1
          rw [Array.length_toList, it.1] at this
          omega
        have hx : xs[j]? = some xs[j] := List.getElem?_eq_getElem hj2
        rw [k2 hx] at hen
        cases hen
        rw [hx, hv]
        rfl
    refine ⟨.ref s.heap.objs.size, _, I.laid (t' := tk) (o := .lst (xs.map fun x => .ref x.2.1)) kp (Nat.le_refl _) ⟨by rw [List.length_map]; exact ln_line hl, acc.toList, c', by rw [ea]; exact vals_qs xs, by rw [Array.toArray_toList]; exact e⟩, rfl, q _ (I.hok.fresh (Nat.le_refl _))⟩
theorem RepOk.qs {K : PySem.W.Frag} {s : S} : ∀ {kvs : List (D × OV)} {xs : List Trip} {P : FP}, RepOk K s kvs xs P → RepL K s (xs.map fun x => V.ref x.2.1) (kvs.map (·.1))
  | _, _, _, .nil => .nil
  | _, _, _, .cons _ _ h3 _ _ t _ => .cons h3 t.qs
def fListN : OV → Option OV
  | .fK kvs => some (.oL (kvs.map (·.1)))
  | _ => none
theorem p_listN {K : PySem.W.Frag} : P1 K (rListN K) fListN := by
  intro s a v P o w ra e Q hq
  unfold fListN at e
  split at e
  · cases e
    cases ra with
    | @fK a o xs _ Pk g1 g2 g3 g4 g5 => exact ⟨a, o, xs, rfl, g2, g3, fun p hp => hq.newL w g4.qs hp⟩
  · cases e
theorem DE.listN {a : Expr} {m : MA} (hc : X.calm = true) (hg : Gl X "list") (hm : X.mg "list" = none) (h : DA X [a] m) (he : starEach [a] X.env = (false, eval a X.env) :: starEach [] X.env := by rfl) : DE X (.Call (.Name "list" p) [a] [] pos) (mOp (l1 fListN) m) :=
  .callTy (call_listN hc) p_listN.pure hg hm (by decide +kernel) h (by decide) (by decide) he rfl
/-! ### d[k] -/
def rIxN (K : PySem.W.Frag) : R2 := fun x y H Q => ∃ (a q : Addr) (o : Obj) (xs : List Trip) (k : NestedKey) (Z P : FP) (kvs : List (D × OV)), x = .ref a ∧ y = .ref q ∧ Rd H a (dNo a o) ∧ DObj a o xs ∧ RepOk K ⟨H, Z⟩ kvs xs P ∧ NKey K H Z q k ∧
  ∃ p, atKey xs k = some p ∧ ∀ v, RelV v p.2 → Q v H
theorem ix_n (hr : Room kk X.A) : IxR X (rIxN X.K) := by
  intro value slice pins s σ H x y v u Q I rx ry h hs
  obtain ⟨a, q, o, xs, k, Z, P, kvs, rfl, rfl, hd, dob, rk, ⟨d, rd, nd, dp⟩, p, hp, hq⟩ := h
  cases rx
  cases ry
  have hdct := rk.dict I hd dob
  have hk : (nestedKind X.prog X.w).is s.heap k q := ⟨rep_nk I d k _ _ rd nd rfl, dp⟩
  obtain ⟨v, hv⟩ := rk.val_mem _ (atKey_mem hp)
  exact tail_any ⟨o, dNo_at I.hok hd, dob.ed.1⟩ PySem.F.slot_dict_getitem.lookup (wpAny_getItem_heap (nk_room hr) hk hdct hp ⟨v, H, I.tok _, hv, hq v hv⟩) hs
def fIxN : OV → OV → Option OV := fun a b => match a with
  | .fK kvs => match b with
    | .fz d => match nkOf d with
      | some k => if tupD d = true ∧ k.depth ≤ 8 then match lkK kvs k with
        | some (.fz x) => some (.fz x)
        | _ => none
        else none
      | none => none
    | _ => none
  | _ => none
theorem relV_ref {v : V} {a : Addr} {u : Value} (h1 : RelV (.ref a) u) (h2 : RelV v u) : v = .ref a := by
  cases h1
  exact wk_ref h2
theorem rep_rel {K : PySem.W.Frag} {s : S} {v v' : V} {d : D} {u : Value} (r : Rep K s v d) (h1 : RelV v u) (h2 : RelV v' u) : v' = v := by
  cases r with
  | non => cases h1; cases v' <;> first | rfl | (obtain ⟨t, e⟩ := h2; cases e; done) | (cases h2; done)
  | bl b => cases h1; cases v' <;> first | (obtain ⟨t, e⟩ := h2; cases e; done) | (cases h2; rfl) | (cases h2; done)
  | int i => obtain ⟨t, rfl⟩ := h1; cases v' <;> first | (obtain ⟨t, e⟩ := h2; cases e; rfl) | (obtain ⟨t, e⟩ := h2; cases e; done) | (cases h2; done)
  | str i => obtain ⟨t, rfl⟩ := h1; cases v' <;> first | (obtain ⟨t, e⟩ := h2; cases e; rfl) | (obtain ⟨t, e⟩ := h2; cases e; done) | (cases h2; done)
  | lst _ _ => exact relV_ref h1 h2
  | tup _ _ _ => exact relV_ref h1 h2
  | dic _ _ _ => exact relV_ref h1 h2
theorem p_ixN {K : PySem.W.Frag} : P2 K (rIxN K) fIxN := by
  intro s a v P b u R o w ra rb e Q hq
  unfold fIxN at e
  split at e
  · rename_i kvs
    split at e
    · rename_i d
      split at e
      · rename_i k hk
        split at e
        · rename_i hc
          split at e
          · rename_i x hl
            cases e
            cases ra with
            | @fK a o xs _ Pk g1 g2 g3 g4 g5 =>
              cases rb with
              | fz rd =>
                cases d with
                | tuple ds =>
                  obtain ⟨q, rfl⟩ : ∃ q, u = .ref q := by cases rd; exact ⟨_, rfl⟩
                  obtain ⟨q', uu, vv, Po, Rk, b1, b2, b3, _⟩ := g4.split hl g3.nd
                  refine ⟨a, q, o, xs, k, s.Z, Pk, kvs, rfl, rfl, g2, g3, g4, ⟨_, rd, hk, hc.2⟩, _, b1, fun v hv => ?_⟩
                  cases b3 with
                  | fz b3 =>
                    rw [rep_rel b3 b2 hv]
                    exact hq.fz w b3
                | _ => cases hc.1
          · cases e
        · cases e
      · cases e
    · cases e
  · cases e
theorem DE.atN {a b : Expr} {m : MA} (hr : Room kk X.A) (h : DA X [a, b] m) (hs : PlainIx b := by exact fun _ _ => rfl) : DE X (.Subscript a b pos) (mOp (l2 fIxN) m) := .ix (ix_n hr) p_ixN h hs
/-! ### xs.remove(an int) -/
def gRemove (ds : List D) (d : D) : Option (D × List D) := match allI ds, d with
  | some ns, .int k => match ns.findIdx? (fun n => decide (n = k)) with
    | some j => some (.none, (ns.eraseIdx j).map .int)
    | none => none
  | _, _ => none
theorem lm_remove : LM1 rRemI gRemove := by
  intro K s a vs ds v d d' ds' h r rv e
  unfold gRemove at e
  split at e
  · rename_i ns k e1
    split at e
    · rename_i j hj
      cases e
      have ed := allI_some e1
      subst ed
      have ev := r.of_ints
      subst ev
      obtain ⟨h1, h2, h3⟩ := List.findIdx?_eq_some_iff_getElem.mp hj
      refine ⟨.non, (ns.eraseIdx j).map V.int, .non, RepL.ints _, fun Q q => ⟨a, ns, k, j, rfl, by rw [rv.int_inv], h, ?_, fun m hm z => ?_, q⟩⟩
      · rw [List.getElem?_eq_getElem h1]
        exact congrArg some (of_decide_eq_true h2)
      · have := h3 m hm
        have hml : m < ns.length := by omega
        rw [List.getElem?_eq_getElem hml] at z
        exact this (decide_eq_true (Option.some.inj z))
    · cases e
  · cases e
end
end G
namespace G
open PySem PySem.Spec PyProof.Rows L2

/-! ### a slot shown ahead of a statement, an expression -/
def mFrzS (j : Nat) (m : MS) : MS := fun env => match lk env j with
  | some o => match o.frz with
    | some d => m (env.set j (some (.fz d)))
    | none => none
  | none => none
def mFrzE (j : Nat) (m : ME) : ME := fun env => match lk env j with
  | some o => match o.frz with
    | some d => m (env.set j (some (.fz d)))
    | none => none
  | none => none
theorem pe_or {X : Cx} {e : Expr} {t u : TE} (h : PE X e t) (g : PE X e u) : PE X e (fun σ H Q => t σ H Q ∨ u σ H Q) :=
  ⟨fun pins s σ H Q I q => q.elim (h.run pins s σ H Q I) (g.run pins s σ H Q I)⟩
theorem pe_guard {X : Cx} {e : Expr} {t : TE} (h : PE X e t) : PE X e (fun σ H Q => NoTup H → t σ H Q) :=
  ⟨fun pins s σ H Q I q => h.run pins s σ H Q I (q (noTup_of I))⟩
def mCompK (vs : List Nat) (j : Nat) (g : MG) (t : MT) (m : MD) : ME := fun env => match lk env j with
  | some (.fz (.dict es)) => match mCmpL vs g t m (es.map (·.1)) [] (clr vs env) with
    | none => none
    | some (acc, e2) => some (.oL acc, e2)
  | _ => none
section
variable {X : Cx} {fx : List Nat} {e elt tg : Expr} {st : Stmt} {ifs : List Expr} {scope : Scope} {pos px : Pos} {ts : List Nat} {g : MG} {t : MT} {m : MD}
theorem DS.frzS (j : Nat) {m : MS} (h : DS X fx st m) : DS X fx st (mFrzS j m) := by
  obtain ⟨t, hp, hr⟩ := h.run
  refine ⟨t, hp, fun σ s env P out a1 a2 a3 D hq => ?_⟩
  unfold mFrzS at a3
  split at a3
  · rename_i o q1
    split at a3
    · rename_i d q2
      obtain ⟨v, s', P', h1, h2, h3, h4, h5, h6⟩ := a1.freeze a2 q1 q2
      have q := hr σ s' _ P' out h3 h4 a3 D (hq.step h5 (.refl _ _))
      rwa [h2] at q
    · cases a3
  · cases a3
theorem DE.frzE (j : Nat) {m : ME} (h : DE X e m) : DE X e (mFrzE j m) := by
  obtain ⟨t, hp, hr⟩ := h.run
  refine ⟨t, hp, fun σ s env P o env' a1 a2 a3 Q hq => ?_⟩
  unfold mFrzE at a3
  split at a3
  · rename_i o1 q1
    split at a3
    · rename_i d q2
      obtain ⟨v, s', P', h1, h2, h3, h4, h5, h6⟩ := a1.freeze a2 q1 q2
      have q := hr σ s' _ P' o env' h3 h4 a3 Q fun v s2 P2 R c1 c2 c3 c4 c5 => hq v s2 P2 R c1 c2 c3 c4 (h5.trans c5)
      rwa [h2] at q
    · cases a3
  · cases a3
theorem DE.compK {x : Str} (j : Nat) (own : List (Str × Nat)) (hc : X.calm = true) (hN : X.N.Nodup) (ok : BlkOk X.N X.env.scope scope own)
    (hg : ∀ (s : Shared) (H : Hp) (C : Addr) (cl : List (Str × Addr)) (fp : List Addr), DG (X.blk s H scope (compEnvC scope cl C X.env) fp) ts tg g) (ht : ∀ (s : Shared) (H : Hp) (C : Addr) (cl : List (Str × Addr)) (fp : List Addr), DTs (X.blk s H scope (compEnvC scope cl C X.env) fp) ifs t)
    (he : ∀ (s : Shared) (H : Hp) (C : Addr) (cl : List (Str × Addr)) (fp : List Addr), DF (X.blk s H scope (compEnvC scope cl C X.env) fp) elt m) (hts : ∀ j ∈ ts, j ∈ own.map (·.2) := by decide)
    (hj : X.N[j]? = some x := by rfl) (hx : Vis X.env.scope x := by first | exact Or.inl rfl | exact Or.inr (Or.inl rfl) | exact Or.inr (Or.inr rfl))
    (hd : (x == ("__debug__" : Str)) = false := by decide) (hcd : (x == ("__classdict__" : Str)) = false := by decide)
    (hs : ∀ y, foldedSetIterable (.Name x px) X.env y = pure y := by exact fun _ => rfl) : DE X (.ListComp elt [⟨tg, .Name x px, ifs, 0⟩] scope pos) (mCompK (own.map (·.2)) j g t m) := by
  obtain ⟨tgg, gp, gr⟩ := all_G (F := fun (q : Shared × Hp × Addr × List (Str × Addr) × List Addr) => X.blk q.1 q.2.1 scope (compEnvC scope q.2.2.2.1 q.2.2.1 X.env) q.2.2.2.2) (K := X.K) (fun _ => rfl) fun q => hg q.1 q.2.1 q.2.2.1 q.2.2.2.1 q.2.2.2.2
  obtain ⟨tt, tp, tr⟩ := all_T (F := fun (q : Shared × Hp × Addr × List (Str × Addr) × List Addr) => X.blk q.1 q.2.1 scope (compEnvC scope q.2.2.2.1 q.2.2.1 X.env) q.2.2.2.2) (K := X.K) (fun _ => rfl) fun q => ht q.1 q.2.1 q.2.2.1 q.2.2.2.1 q.2.2.2.2
  obtain ⟨te, ep, er⟩ := all_F (F := fun (q : Shared × Hp × Addr × List (Str × Addr) × List Addr) => X.blk q.1 q.2.1 scope (compEnvC scope q.2.2.2.1 q.2.2.1 X.env) q.2.2.2.2) (K := X.K) (fun _ => rfl) fun q => he q.1 q.2.1 q.2.2.1 q.2.2.2.1 q.2.2.2.2
  have base := pe_lc (pos := pos) hc hN (pi_keys (tg := tg) (pe_var (pos := px) hj hx hd hcd)) ok (fun s H C cl fp => gp (s, H, C, cl, fp)) (fun s H C cl fp => tp (s, H, C, cl, fp)) (fun s H C cl fp => ep (s, H, C, cl, fp)) hs
  refine ⟨_, pe_or base (pe_lock (pe_guard base)), fun σ s env P o env' a1 a2 a3 Q hq => ?_⟩
  unfold mCompK at a3
  split at a3
  · rename_i es q1
    split at a3
    · cases a3
    rename_i acc e2 q2
    cases a3
    obtain ⟨v, Po, R, h1, h2, h3, h4, h5, h6⟩ := a1.get q1
    cases h2 with
    | fz h2 =>
      cases h2 with
      | @dic d kvs _ z1 z2 z3 =>
        rcases z2 with z2 | ⟨od, z2⟩
        · refine .inr ⟨d, _, z2, trivial, fun od nt => ?_⟩
          have hcls := nt d od kvs upd_same
          have x0 := lock_ext (P := P) (od := od) z1 z2
          have kp : Kp P s (lockS s d (.frz od (.dK kvs))) := ⟨x0.fz, fun a z => upd_ne fun e => (a2.o a z).1 (by rw [e]; exact z1)⟩
          have ow : Own P (lockS s d (.frz od (.dK kvs))) := ⟨fun a z => ⟨(a2.o a z).1, fun q => (a2.o a z).2 (x0.dom a q)⟩, fun a z q => a2.w a z (x0.dom a q)⟩
          have hl : (lockS s d (.frz od (.dK kvs))).H d = some (.frz od (.dK kvs)) := upd_same
          refine ⟨_, h1, d, od, rfl, .inl ⟨kvs, hl, ?_⟩⟩
          refine lc_run (X := X) (s := lockS s d (.frz od (.dK kvs))) (Q := fun v H' => H' d = some (.frz od (.dK kvs)) ∧ Q v (upd H' d (.dK kvs))) hts gr tr er (a1.mono kp) ow (wk_keys z1 hl (RepK.mono x0.fz _ _ z3)) q2 fun v s' P' R c1 c2 c3 c4 c5 => ?_
          have hl' : s'.H d = some (.frz od (.dK kvs)) := locked (c5.frz _ _ z1 (.inl hl)) (c5.frz _ _ z1 (.inr ⟨od, hl⟩))
          have x1 := unlock_ext z1 z2 c5
          have fw := unlock_fw (K := X.K) hcls hl'
          have nd : ∀ a, fU P' R a → a ≠ d := fun a z e => (c4.o a z).1 (by rw [e]; exact c5.zz d z1)
          refine ⟨hl', hq v (lockS s' d (.dK kvs)) P' R (c1.monoW fw fun a z => upd_ne (nd a (.inl z))) (c2.monoW fw _ _ _ fun a z => upd_ne (nd a (.inr z))) c3 ⟨fun a z => ⟨(c4.o a z).1, fun q => (c4.o a z).2 ((upd_ne (nd a z)).symm.trans q)⟩, fun a z q => ?_⟩ x1⟩
          by_cases hx : a = d
          · subst hx
            have q' : upd s'.H a (.dK kvs) a = none := q
            rw [upd_same] at q'; cases q'
          · exact c4.w a z ((upd_ne hx).symm.trans q)
        · refine .inl ⟨_, h1, d, od, rfl, .inl ⟨kvs, z2, ?_⟩⟩
          exact lc_run (X := X) hts gr tr er a1 a2 (wk_keys z1 z2 z3) q2 hq
  · cases a3
end
end G
namespace G
open PySem PySem.Spec PyProof.Rows L2

/-! ### methods that only read a list, own or shown -/
def LR1 (r : PySem.W.Frag → V → List V → Hp → VK → Prop) (g : List D → D → Option D) : Prop :=
  ∀ (K : PySem.W.Frag) (s : S) (a : Addr) (vs : List V) (ds : List D) (v : V) (d d' : D), SqL K s.H a vs → RepL K s vs ds → Rep K s v d → g ds d = some d' → ∃ v', Rep K s v' d' ∧ ∀ Q : VK, Q v' s.H → r K (.ref a) [v] s.H Q
def mLR1 (g : List D → D → Option D) (j : Nat) (m : MD) : ME := fun env => match lk env j with
  | none => none
  | some o => match o.lst? with
    | none => none
    | some _ => match m env with
      | none => none
      | some (d, e1) => match lk e1 j with
        | none => none
        | some o1 => match o1.lst? with
          | none => none
          | some ds => match g ds d with
            | none => none
            | some d' => some (.fz d', e1)
section
variable {X : Cx} {e : Expr} {pos : Pos}
theorem DE.lr1 {m : MD} {x nm : Str} {id : String} {px apos : Pos} {r : PySem.W.Frag → V → List V → Hp → VK → Prop} {g : List D → D → Option D} (j : Nat) (slot : Slot "list" nm id) (hty : typeOf (.builtin id) = pure (.type "method_descriptor")) (hm : MtR X id (r X.K)) (hg : LR1 r g) (h : DF X e m)
    (hN : X.N[j]? = some x := by rfl) (hx : Vis X.env.scope x := by first | exact Or.inl rfl | exact Or.inr (Or.inl rfl) | exact Or.inr (Or.inr rfl))
    (hd : (x == ("__debug__" : Str)) = false := by decide) (hcd : (x == ("__classdict__" : Str)) = false := by decide) (hs : starEach [e] X.env = (false, eval e X.env) :: starEach [] X.env := by rfl)
    (hbase : attributeBase (.Name x px) nm X.env (eval (.Name x px) X.env) = eval (.Name x px) X.env := by rfl)
    (hfw : ((backTo pos (starEach [e] X.env)).all (fun x => !x.1) && (backToKw pos (keywordEach [] X.env)).all (fun x => x.1.isSome) && decide (([e] : List Expr).length + ([] : List Keyword).length + (if ([] : List Keyword).isEmpty then 0 else 1) < 30)) = true := by rfl)
    (hline : (apos.endLine == pos.line) = true := by rfl) : DE X (.Call (.Attribute (.Name x px) nm apos) [e] [] pos) (mLR1 g j m) := by
  obtain ⟨t, hp, hr⟩ := h.run
  refine ⟨_, pe_bm PySem.F.plainAttrs_list slot hty hm (pe_var hN hx hd hcd) (pa_cons hp pa_nil hs) hbase hfw hline hs rfl, fun σ s env P o env' a1 a2 a3 Q hq => ?_⟩
  unfold mLR1 at a3
  split at a3
  · cases a3
  rename_i o0 q1
  split at a3
  · cases a3
  rename_i ds0 q1'
  split at a3
  · cases a3
  rename_i d e1 q2
  split at a3
  · cases a3
  rename_i o1 q3
  split at a3
  · cases a3
  rename_i ds q3'
  split at a3
  · cases a3
  rename_i d' q4
  cases a3
  obtain ⟨v0, _, _, g1, g2, _⟩ := a1.get q1
  obtain ⟨ad, vs0, rfl, k1, _⟩ := g2.lst q1'
  refine ⟨_, g1, .inl ⟨rfl, _, k1⟩, ?_⟩
  refine hr σ s env P d _ a1 a2 q2 (fun y H2 => r X.K (.ref ad) [y] H2 Q) fun v s1 P1 b1 b2 b3 b4 => ?_
  obtain ⟨v1, _, _, f1, f2, _⟩ := b1.get q3
  rw [g1] at f1; cases f1
  obtain ⟨ad', vs, ea, f3, f4⟩ := f2.lst q3'
  cases ea
  obtain ⟨v', z1, z2⟩ := hg X.K s1 ad vs ds v d d' f3 f4 b2 q4
  exact z2 Q (postE_plain hq b1 b3 b4 z1)
end
def gCountR (ds : List D) (d : D) : Option D := match allI ds, d with
  | some ns, .int k => some (.int (ns.count k : Nat))
  | _, _ => none
theorem lr_count : LR1 rCntI gCountR := by
  intro K s a vs ds v d d' h r rv e
  unfold gCountR at e
  split at e
  · rename_i ns k q
    cases e
    have hd := allI_some q
    subst hd
    have hv := r.of_ints
    subst hv
    exact ⟨.int (ns.count k : Nat), .int _, fun Q z => ⟨a, ns, k, rfl, by rw [rv.int_inv], h, z⟩⟩
  · cases e
end G
namespace G
open PySem PySem.Spec PyProof.Rows L2

/-! ### classes of errors over one built-in class, with an __init__ of their own -/
structure ExBase (B newId initId : String) (bm : List Value) : Prop where
  fb : ExcBaseFacts B newId initId bm
  pass : ∀ self : Value, refuseLoop self "__setattr__" bm = pure ()
  ob : bm.contains (.type "object") = true
  ty : typeOf (.type B) = pure (.type "type")
  stub : Manifest.isStub B = false
  hand : PySem.W.handedIn (.builtin initId) = true
structure ExC (K : PySem.W.Frag) (C : Addr) (bm : List Value) (newId : String) : Prop where
  cls : ∃ nm q N bs sn sub ab col dd k0 k1 k2 k3 k5, K.lookup C = some (excClassObj nm q C N bs bm true sn sub ab col dd k0 k1 k2 k3 k5 newId)
  sa : PySem.W.findIn K (.ref C) "__setattr__" = some (some (.builtin "object.__setattr__"))
  exC : PySem.W.subIn K (.ref C) (.type "BaseException") = some true
  tyC : PySem.W.typeIn K (.ref C) = some (.type "type")
  kC : PySem.W.keepIn K (.ref C) = true
section
open Builtin Builtin.ObjectAttr PySem.HandSPX
variable {prog : Program} {w : World} {A : Around} {E : Value → Shared → Prop} {R : Result → Shared → Prop} {hp : Heap} {g : Array GenState} {dn : Drawn} {tk0 : Nat} {os : OsState}
/-- the first field of an error: its dict is laid -/
theorem osaX {K : PySem.W.Frag} {name : Str} {nt : Tok} {val : Value} {x C : Addr} {cells : Array Value} {cd : ClassData} (X : K.In hp) (here : hp.get? x = some { cls := .ref C, data := .fields cells }) (cdIn : PySem.W.clsIn K C = some cd)
    (pass : refuseLoop (.ref x) "__setattr__" cd.mro = pure ()) (hob : cd.mro.contains (.type "object") = true) (hd : cd.hasDict = true) (free : PySem.W.findIn K (.ref C) name = some none)
    (next : ∀ h2 t2 dx, (∀ b o, b ≠ x → hp.get? b = some o → h2.get? b = some o) → hp.objs.size ≤ dx → dx ≠ x → h2.get? x = some { cls := .ref C, dict := some dx, data := .fields cells } →
      h2.Ns1 dx (fun y => if y = name then some val else none) → R (.ok (.ret .none)) ⟨h2, g, dn, t2, os⟩) :
    codeAny (model prog w) A (.call (.builtin "object.__setattr__") ⟨[.ref x, .str name nt, val], []⟩) R ⟨hp, g, dn, tk0, os⟩ := by
  have nee : cd.mro.isEmpty = false := by cases e : cd.mro with
    | nil => rw [e] at hob; cases hob
    | cons _ _ => rfl
  have I : PySem.W.InstAt hp x { cls := .ref C, data := .fields cells } C none := ⟨here, rfl, rfl, trivial⟩
  have lt : x ≠ hp.objs.size := Nat.ne_of_lt (Heap.lt_size here)
  have isObj : PySem.W.Looks (model prog w) hp (isInstance (.ref x) (.type "object")) true := I.type.andThen (PySem.W.looks_mroIn X (by unfold PySem.W.mroIn; rw [cdIn, Option.bind_some, if_neg (by rw [nee]; decide), hob]))
  refine codeAny_call_builtin F.store_object.slot.plain F.store_object.entry (@PySem.W.check_slot (model prog w) _ _ ⟨hp, g, dn, tk0, os⟩ "object.__setattr__" "object" "__setattr__" (.ref x) [.str name nt, val] [] _ F.store_object.kind F.store_object.split isObj (F.store_object.args (.ref x) (.str name nt) val) ?_)
  have mroL : PySem.W.Looks (model prog w) hp (mroOf (.ref C)) cd.mro := (PySem.W.looks_clsIn X cdIn).andThen .now
  have taker : PySem.W.Looks (model prog w) hp (storeTaker? none) none := .now
  have dataL : PySem.W.Looks (model prog w) hp (classData C) cd := PySem.W.looks_clsIn X cdIn
  rw [PySem.W.osa_eq, refuse_eq]
  refine wpAny_bind (wpAny_bind (I.type.at (wpAny_bind (mroL.at ?_))))
  rw [pass]
  refine wpAny_pure (wpAny_bind (I.type.at (wpAny_bind ((PySem.W.looks_findIn X free).at (wpAny_bind (taker.at ?_))))))
  show wpAny _ _ (storeInOwnDict (.ref x) (.ref C) (.str name nt) name val false) _ _ _
  obtain ⟨c1, c2, c3, c4, c5, c6, c7, c8, c9, c10, c11⟩ := cd
  dsimp only at hd; subst hd
  unfold storeInOwnDict ownDictForStores
  repeat (first | with_reducible refine PySem.HandSPX.store_in_new ?_ ?_ | with_reducible refine wpAny_loadPart_at here ?_ | with_reducible refine dataL.at ?_ | wp_step)
  · exact ⟨_, #[], _, (Heap.get?_update_ne _ _ _ _ lt.symm).trans (Heap.get?_push_at rfl rfl), rfl, fun e he => absurd he (by simp), fun _ => rfl⟩
  · intro h2 t2 ns2 same
    have here2 : (hp.push { cls := .type "dict", data := .dict #[] }).get? x = some { cls := .ref C, data := .fields cells } := Heap.get?_push_of_some _ here
    exact next h2 t2 hp.objs.size (fun b o nb q => (same.2 b (Nat.ne_of_lt (Heap.lt_size q))).trans ((Heap.get?_update_ne _ _ _ _ nb).trans (Heap.get?_push_of_some _ q))) (Nat.le_refl _) lt.symm ((same.2 x lt).trans (Heap.get?_update_self _ here2 rfl)) ns2
end
section
variable {X : Cx} {pins : List (Addr × Obj)} {σ : L2.St} {H : Hp} {s : Shared} {a C : Addr} {f : Str} {y : V} {u : Value} {Q : Unit → Shared → Prop} {E : Value → Shared → Prop} {A : Around} {B newId initId : String} {bm : List Value}
theorem ExC.clsIn (T : ExC X.K C bm newId) : ∃ cd, PySem.W.clsIn X.K C = some cd ∧ cd.mro = .ref C :: bm ∧ cd.hasDict = true := by
  obtain ⟨nm, q, N, bs, sn, sub, ab, col, dd, k0, k1, k2, k3, k5, hC⟩ := T.cls
  exact ⟨_, by unfold PySem.W.clsIn; rw [hC] <;> rfl, rfl, rfl⟩
/-- self.f = y, the first field -/
theorem ost_newX (FB : ExBase B newId initId bm) (T : ExC X.K C bm newId) (I : Inv X pins σ H s) (e : H a = some (exo a C none)) (hno : PySem.W.findIn X.K (.ref C) f = some none) (ry : RelV y u)
    (h : ∀ dx s', H dx = none → dx ≠ a → Inv X pins σ (upd (upd H dx (exd dx [(f, y)])) a (exo a C (some dx))) s' → Q () s') : wpAny (model X.prog X.w) A (setAttr (.ref a) f u) Q E s := by
  obtain ⟨cd, hcl, hmro, hdict⟩ := T.clsIn
  obtain ⟨t1, ho⟩ := exo_at I.hok e
  obtain ⟨h0, g, d, t, os⟩ := s
  refine PySem.W.set_plain I.kIn (ox := { cls := .ref C, dict := none, data := .fields #[.ref t1, .none, .none, .none, .bool false, .none] }) (od := none) ⟨ho, rfl, rfl, trivial⟩ T.sa ?_
  refine osaX I.kIn ho hcl (by rw [hmro, refuseLoop_ref]; exact FB.pass _) (by rw [hmro, List.contains_cons, FB.ob, Bool.or_true]) hdict hno (fun h2 t2 dx keep dn dne hx2 ns2 => ?_)
  have dxn : H dx = none := I.hok.fresh dn
  have old : ∀ {b : Addr} {o : Obj}, h0.get? b = some o → b ≠ dx := fun {b o} q => Nat.ne_of_lt (Nat.lt_of_lt_of_le (Heap.lt_size q) dn)
  have nea : ∀ {b : Addr}, H b = none → b ≠ a := fun {b} n z => by rw [z, e] at n; cases n
  have U : Un X.fs [] H (upd (upd H dx (exd dx [(f, y)])) a (exo a C (some dx))) h0 h2 :=
    ⟨fun b o q n _ _ => keep b o (nea n) q, fun b o q n _ _ => ⟨o.slots, keep b o (nea n) q⟩, fun b o q n _ => (upd_ne (nea n)).trans ((upd_ne (old q)).trans n),
      fun b o q _ => (Classical.em (b = a)).elim (fun hb => by subst hb; exact ⟨_, hx2⟩) fun hb => ⟨o, keep b o hb q⟩,
      fun b xs q => (upd_ne (at_ne e q exo_tup)).trans ((upd_ne (ne_of_none q dxn)).trans q), fun b o v q => (upd_ne (at_ne e q exo_frz)).trans ((upd_ne (ne_of_none q dxn)).trans q),
      fun b ps q => ⟨#[], by rw [upd_ne (at_ne e q exo_tbl), upd_ne (ne_of_none q dxn), q]; simp⟩⟩
  refine h dx _ dxn dne (I.un (t' := t2) U fun b o q => ?_)
  by_cases hb : b = a
  · subst hb; rw [upd_same] at q; cases q; exact exo_ok hx2
  rw [upd_ne hb] at q
  by_cases hd : b = dx
  · subst hd; rw [upd_same] at q; cases q; exact exd_ok ns2 (relO_put (fs := []) ry fun g => True.intro)
  rw [upd_ne hd] at q
  exact (I.hok b o q).stay (fun c v hc z => keep c v (hc.elim (fun hc => by rw [hc]; exact hb) fun hc => at_ne e hc exo_own) z)
    (fun c hc => (upd_ne (at_ne e hc exo_own)).trans ((upd_ne (ne_of_none hc dxn)).trans hc)) fun c xs hc => (upd_ne (at_ne e hc exo_tup)).trans ((upd_ne (ne_of_none hc dxn)).trans hc)
/-- B.__init__(self, ..) -/
theorem oinitX {us : List Value} {Q : Value → Shared → Prop} (FB : ExBase B newId initId bm) (T : ExC X.K C bm newId) (I : Inv X pins σ H s) (e : H a = some (exo a C none)) (hl : us.length ≤ sizeLine) (h : ∀ s', Inv X pins σ H s' → Q .none s') :
    wpAny (model X.prog X.w) A (call (.builtin initId) (.ref a :: us)) Q E s := by
  obtain ⟨nm, q, N, bs, sn, sub, ab, col, dd, k0, k1, k2, k3, k5, hC⟩ := T.cls
  obtain ⟨t1, ho⟩ := exo_at I.hok e
  obtain ⟨h0, g, d, t, os⟩ := s
  refine wpAny_call (PySem.HandSPX.init_base FB.fb (fun _ => rfl) (I.kIn _ _ hC) ho hl fun h2 t2 keep hx2 => ?_)
  have J := I.write (t' := t) (x := a) (e := a) (o := exo a C none) (by rw [e]; exact True.intro) (.inl rfl) keep ⟨_, hx2⟩ (exo_ok hx2)
  have same : upd H a (exo a C none) = H := funext fun b => (Classical.em (b = a)).elim (fun hb => by rw [hb, upd_same, e]) fun hb => upd_ne hb
  rw [same] at J
  exact h _ J
end
section
variable {X : Cx} {C : Addr} {e o : Expr} {es : List Expr} {to te : TE} {ta : TA} {f : Str} {p p' p1 p2 pos : Pos} {B newId initId : String} {bm : List Value}
def tInitX (K : PySem.W.Frag) (C : Addr) (ta : TA) : TE := fun σ H Q => ta σ H fun vs H1 => ∃ (a : Addr) (ws : List V), vs = .ref a :: ws ∧ ws.length ≤ 1000 ∧ H1 a = some (exo a C none) ∧ Q .non H1
theorem pe_initX {pl : Sem Bool} {b : Str} (hbs : bootBuiltins b = some (.type B)) (FB : ExBase B newId initId bm) (T : ExC X.K C bm newId) (hg : Gl X b) (hm : X.mg b = none) (vV : PySem.W.findCls X.K (.type B) (.type "type") "__init__" = some (.val (.builtin initId))) (ha : PA X (e :: es) ta)
    (hc : eval (.Call (.Attribute (.Name b p1) "__init__" p2) (e :: es) [] pos) X.env = (do
      let bv ← eval (.Name b p1) X.env
      standAt p2.atName
      let (fn, one) ← holding [bv] (getMethod bv "__init__" pl)
      callWith pos fn one (backTo pos (starEach (e :: es) X.env)) (backToKw pos (keywordEach [] X.env))) := by rfl)
    (hn : b ≠ "__name__" := by decide) (hdb : (b == ("__debug__" : Str)) = false := by decide)
    (he : starEach (e :: es) X.env = (false, eval e X.env) :: starEach es X.env := by rfl) (hpl : (backTo pos (starEach es X.env)).any (·.1) = false := by rfl) :
    PE X (.Call (.Attribute (.Name b p1) "__init__" p2) (e :: es) [] pos) (tInitX X.K C ta) := by
  refine ⟨fun pins s σ H Q I h => PySem.W.methodCall_KW (ld_blt I hg hm hbs ?_ hn hdb) hc⟩
  obtain ⟨m, fr⟩ := I.fr
  refine PySem.W.method_type fr I.ok.mod.kin FB.ty FB.stub vV FB.hand ?_
  show wpAny _ _ (callWith pos (Value.builtin initId) [] (backTo pos (starEach (e :: es) X.env)) []) _ _ _
  refine PyProof.Rows.callWith_method1 (thn (ha.run pos pins _ σ H _ (I.tok _) h) fun us s1 ⟨vs, H1, I1, r1, a, ws, ev, hl, ea, q⟩ => ?_) he hpl
  subst ev
  cases r1 with
  | @cons _ u0 _ ur ra rs =>
    obtain rfl : u0 = Value.ref a := ra
    exact oinitX FB T I1 ea (by rw [← Paired.length rs, sizeLine_eq]; omega) fun s' J => ⟨.non, H1, J, rfl, q⟩
def tStoreX (C : Addr) (f : Str) (to te : TE) : TS := fun D σ H => te σ H fun y H1 => to σ H1 fun x H2 => ∃ a : Addr, x = .ref a ∧ H2 a = some (exo a C none) ∧ ∀ dx, H2 dx = none → dx ≠ a → D.nx σ (upd (upd H2 dx (exd dx [(f, y)])) a (exo a C (some dx)))
theorem ps_storeX (FB : ExBase B newId initId bm) (T : ExC X.K C bm newId) (hno : PySem.W.findIn X.K (.ref C) f = some none) (ho : PE X o to) (he : PE X e te) (hs : swapsWith e (some (.Attribute o f p')) pos.line X.env = pure false := by rfl) : PS X (.Assign [.Attribute o f p'] e pos) (tStoreX C f to te) := by
  refine ⟨fun pins s σ H D I h => plainObj_wpAny_Assign_Attribute (thn (he.run pins s σ H _ I h) fun v s1 ⟨y, H1, I1, r1, q1⟩ => thn (ho.run pins s1 σ H1 _ I1 q1) fun u s2 ⟨x, H2, I2, r2, a, ex, ea, q⟩ => ?_) hs⟩
  subst ex
  obtain rfl : u = Value.ref a := r2
  exact ost_newX FB T I2 ea hno r1 fun dx s' n ne J => ⟨σ, _, J, q dx n ne⟩
end
end G
namespace G
open PySem PySem.Spec PyProof.Rows L2

theorem exB_Arith : ExBase "ArithmeticError" "ArithmeticError.__new__" "ArithmeticError.__init__" [.type "ArithmeticError", .type "Exception", .type "BaseException", .type "object"] :=
  ⟨F.excBase_ArithmeticError, F.store_ArithmeticError.passes, by decide +kernel, by kernel_rfl, by decide +kernel, by decide +kernel⟩
theorem exB_Value : ExBase "ValueError" "ValueError.__new__" "ValueError.__init__" [.type "ValueError", .type "Exception", .type "BaseException", .type "object"] :=
  ⟨F.excBase_ValueError, F.store_ValueError.passes, by decide +kernel, by kernel_rfl, by decide +kernel, by decide +kernel⟩
theorem exB_Lookup : ExBase "LookupError" "LookupError.__new__" "LookupError.__init__" [.type "LookupError", .type "Exception", .type "BaseException", .type "object"] :=
  ⟨F.excBase_LookupError, F.store_LookupError.passes, by decide +kernel, by kernel_rfl, by decide +kernel, by decide +kernel⟩
theorem exB_Index : ExBase "IndexError" "IndexError.__new__" "IndexError.__init__" [.type "IndexError", .type "LookupError", .type "Exception", .type "BaseException", .type "object"] :=
  ⟨F.excBase_IndexError, F.store_IndexError.passes, by decide +kernel, by kernel_rfl, by decide +kernel, by decide +kernel⟩

/-! ### what an __init__ does -/
def spX0 (C : Addr) : Sp := fun vs H Q _ => ∃ a, vs = [V.ref a] ∧ H a = some (exo a C none) ∧ Q .non H
def spX1 (C : Addr) (f : Str) : Sp := fun vs H Q _ => ∃ a y, vs = [V.ref a, y] ∧ H a = some (exo a C none) ∧ ∀ dx, H dx = none → dx ≠ a → Q .non (upd (upd H dx (exd dx [(f, y)])) a (exo a C (some dx)))
theorem read_I0 {K : PySem.W.Frag} {C : Addr} {m : Str} {vs : List V} {H : Hp} {Q : VK} {E : XK} (h : spX0 C vs H Q E) :
    tDrop (tInitX K C (tCons (tVar 0) (tCons (tC (.str m)) tNil))) { nx := fun _ H' => Q .non H', rt := Q } (L2.start ["self"] vs) H := by
  obtain ⟨a, rfl, ea, q⟩ := h
  exact ⟨_, rfl, a, [.str m], rfl, by simp, ea, q⟩
theorem read_I1 {K : PySem.W.Frag} {C : Addr} {f m : Str} {vs : List V} {H : Hp} {Q : VK} {E : XK} (h : spX1 C f vs H Q E) :
    tSeq (tDrop (tInitX K C (tCons (tVar 0) (tCons (tC (.str m)) tNil)))) (tStoreX C f (tVar 0) (tVar 1)) { nx := fun _ H' => Q .non H', rt := Q } (L2.start ["self", f] vs) H := by
  obtain ⟨a, y, rfl, ea, q⟩ := h
  exact ⟨_, rfl, a, [.str m], rfl, by simp, ea, _, rfl, _, rfl, a, rfl, ea, q⟩

/-! ### C(..) of such a class -/
section
variable {X : Cx} {C fI : Addr} {x : Str} {p pos : Pos} {e : Expr} {es : List Expr} {ta : TA} {k : Nat} {fd : FuncData} {B newId initId : String} {bm : List Value} {f : Str}
/-- the error, made and let go, without a dict -/
theorem mk_endX {pins : List (Addr × Obj)} {σ : L2.St} {H1 : Hp} {hp hp2 h2 : Heap} {g1 g2 : Array GenState} {d1 d2 : Drawn} {t1 t2 : Nat} {o1 o2 : OsState} {a : Addr} {Q : XK} (T : Raises X (.ref C)) (I1 : Inv X pins σ H1 ⟨hp, g1, d1, t1, o1⟩)
    (big : hp.objs.size ≤ a) (k2 : ∀ b o, hp.get? b = some o → hp2.get? b = some o) (un : Un (frs X.stack) [] (upd H1 a (exo a C none)) (upd H1 a (exo a C none)) hp2 h2) (hok : HOk X.prog X.w (upd H1 a (exo a C none)) h2) (ho : o2 = o1) (hb : AllBare g2)
    (q : Q (.ref C) none H1) : MkP X pins σ Q (.ref a) ⟨h2, g2, d2, t2, o2⟩ := by
  obtain ⟨t0, hoe⟩ := exo_at hok (upd_same (H := H1) (a := a))
  have hn : H1 a = none := I1.hok.fresh big
  obtain ⟨G, in1, out1⟩ := restrict h2 fun b => decide (b ≠ a)
  have gk : ∀ b, b ≠ a → G.get? b = h2.get? b := fun b hb => in1 b (decide_eq_true hb)
  have ge : G.get? a = none := out1 a (by simp)
  have nea : ∀ {b : Addr} {o : Obj}, hp.get? b = some o → b ≠ a := fun {b o} z => Nat.ne_of_lt (Nat.lt_of_lt_of_le (Heap.lt_size z) big)
  have up : ∀ {b : Addr}, b ≠ a → H1 b = none → upd H1 a (exo a C none) b = none := fun {b} nb n => (upd_ne nb).trans n
  have U : Un (frs X.stack) [] H1 H1 hp G :=
    ⟨fun b o z n hf hx => (gk b (nea z)).trans (un.keep b o (k2 b o z) (up (nea z) n) hf hx),
      fun b o z n hf hx => let ⟨sl, w⟩ := un.slot b o (k2 b o z) (up (nea z) n) hf hx; ⟨sl, (gk b (nea z)).trans w⟩,
      fun b o z n hx => n, fun b o z hx => let ⟨o', w⟩ := un.there b o (k2 b o z) hx; ⟨o', (gk b (nea z)).trans w⟩, fun b xs z => z, fun b o v z => z, fun b ps z => ⟨#[], by rw [z]; simp⟩⟩
  have hok3 : HOk X.prog X.w H1 G := fun b o z => by
    have nb : b ≠ a := fun e => by rw [e, hn] at z; cases z
    refine (hok b o ((upd_ne nb).trans z)).stay (fun c v hc y => (gk c ?_).trans y) (fun c hc => ?_) fun c xs hc => ?_
    · rcases hc with hc | hc
      · rw [hc]; exact nb
      · intro e; rw [e, upd_same] at hc; exact exo_own (Option.some.inj hc)
    · have nc : c ≠ a := fun e => by rw [e, upd_same] at hc; exact exo_own (Option.some.inj hc)
      exact (upd_ne nc).symm.trans hc
    · have nc : c ≠ a := fun e => by rw [e, upd_same] at hc; exact exo_tup (Option.some.inj hc)
      exact (upd_ne nc).symm.trans hc
  have J : Inv X pins σ H1 ⟨G, g2, d2, t2, o2⟩ := I1.call' (ch := []) ho U hok3 hb (fun b z => absurd z (by simp))
  refine ⟨a, _, _, ⟨G, g2, d2, t2, o2⟩, _, .ref C, none, rfl, J, fun b o z => ?_, ge, hoe, ⟨rfl, rfl⟩, rfl, rfl, hn, rfl, hb, T, q⟩
  exact (gk b fun e => by rw [e, ge] at z; cases z).symm.trans z
def tMk0 (C : Addr) : L2.St → Hp → XK → Prop := fun _ H Q => Q (.ref C) none H
theorem pmk0 (FB : ExBase B newId initId bm) (T : ExC X.K C bm newId) (iC : PySem.W.findIn X.K (.ref C) "__init__" = some (some (.ref fI))) (tI : PySem.W.typeIn X.K (.ref fI) = some (.type "function")) (F1 : FnOk X.prog X.w X.K X.mg X.base CX0 k fI fd ["self"] (spX0 C)) (hr : Room (k + 1) X.A)
    (hb : Binds X.K fd ["self"] []) (hg : Gl X x) (hm : X.mg x = some (.ref C)) (hdb : (x == ("__debug__" : Str)) = false := by decide) : PMk X (.Call (.Name x p) [] [] pos) (tMk0 C) := by
  intro pins s σ H Q I h
  obtain ⟨nm, q, N, bs, sn, sub, ab, col, dd, k0, k1, k2, k3, k5, hC⟩ := T.cls
  refine wpAny_Call_Name_kw (ld_glob I hg hm (PySem.W.callWith_K0 I.kIn T.kC ?_) hdb)
  show wpAny _ _ (call (.ref C) []) _ _ _
  obtain ⟨hp, g, dr, tk, os⟩ := s
  have big : hp.objs.size ≤ hp.objs.size + 1 := Nat.le_succ _
  have hn : H (hp.objs.size + 1) = none := I.hok.fresh big
  have kk : ∀ b o, hp.get? b = some o → ((hp.push (PySem.W.kdv_tup [])).push (PySem.HandSPX.excO C hp.objs.size)).get? b = some o := fun b o q => Heap.get?_push_of_some _ (Heap.get?_push_of_some _ q)
  have at1 : ((hp.push (PySem.W.kdv_tup [])).push (PySem.HandSPX.excO C hp.objs.size)).get? (hp.objs.size + 1) = some (PySem.HandSPX.excO C hp.objs.size) := by heap_get
  have I2 : Inv X pins σ (upd H (hp.objs.size + 1) (exo (hp.objs.size + 1) C none)) ⟨(hp.push (PySem.W.kdv_tup [])).push (PySem.HandSPX.excO C hp.objs.size), g, dr, tk, os⟩ := I.laid (t' := tk) kk big (exo_ok at1)
  have vals : Vals [V.ref (hp.objs.size + 1)] [Value.ref (hp.objs.size + 1)] := .cons rfl .nil
  have bd := hb _ [Value.ref (hp.objs.size + 1)] I2.kIn rfl
  refine wpAny_call (PySem.HandSPX.call_own FB.fb (fun _ => rfl) (I.kIn _ _ hC) (PySem.W.looks_findIn I.kIn iC) (fun self => PySem.W.bind_fn I.kIn self tI) (by rw [sizeLine_eq]; decide)
    (codeAny_mono (F1.run _ X.stack _ _ ⟨[Value.ref (hp.objs.size + 1)], []⟩ [Value.ref (hp.objs.size + 1)] _ (fun v H2 => v = .non ∧ H2 = upd H (hp.objs.size + 1) (exo (hp.objs.size + 1) C none)) (fun _ _ _ => False) (hr.make C [] []) (I2.env0.make C [] []) bd vals ⟨_, rfl, upd_same, rfl, rfl⟩) fun r s' hq => ?_))
  cases r with
  | error er => exact hq.elim
  | ok fl =>
    cases fl with
    | ret u =>
      obtain ⟨v, H2, os2, bare2, un2, hok2, rv, ev, e2⟩ := hq
      subst ev e2
      obtain ⟨h2, g2, d2, t2, os'⟩ := s'
      exact ⟨rv, mk_endX (raises_own T.exC T.tyC) I big kk un2 hok2 os2 bare2 h⟩
    | next => exact hq.elim
    | brk => exact hq.elim
    | cont => exact hq.elim
def tMk1 (C : Addr) (f : Str) (ta : TA) : L2.St → Hp → XK → Prop := fun σ H Q => ta σ H fun vs H1 => ∃ y, vs = [y] ∧ ∀ d, H1 d = none → Q (.ref C) (some d) (upd H1 d (.xd [(f, y)]))
theorem pmk1 (FB : ExBase B newId initId bm) (T : ExC X.K C bm newId) (iC : PySem.W.findIn X.K (.ref C) "__init__" = some (some (.ref fI))) (tI : PySem.W.typeIn X.K (.ref fI) = some (.type "function")) (F1 : FnOk X.prog X.w X.K X.mg X.base CX0 k fI fd ["self", f] (spX1 C f)) (hr : Room (k + 1) X.A)
    (hb : Binds X.K fd ["self", f] []) (hg : Gl X x) (hm : X.mg x = some (.ref C)) (ha : PA X [e] ta) (hdb : (x == ("__debug__" : Str)) = false := by decide)
    (he : starEach [e] X.env = (false, eval e X.env) :: starEach [] X.env := by rfl) (hpl : (backTo pos (starEach [] X.env)).any (·.1) = false := by rfl) : PMk X (.Call (.Name x p) [e] [] pos) (tMk1 C f ta) := by
  intro pins s σ H Q I h
  obtain ⟨nm, q, N, bs, sn, sub, ab, col, dd, k0, k1, k2, k3, k5, hC⟩ := T.cls
  refine wpAny_Call_Name_kw (ld_glob I hg hm ?_ hdb)
  refine PySem.W.callWith_K (h₀ := X.base) I.ok.mod.kin T.kC (thn (ha.run pos pins s σ H _ I h) fun us s1 ⟨vs, H1, I1, r1, y, ev, q1⟩ => ⟨I1.kIn, ?_⟩) he hpl
  subst ev
  obtain ⟨u, rfl, ru⟩ : ∃ u, us = [u] ∧ RelV y u := by
    cases r1 with
    | cons ru rn => cases rn; exact ⟨_, rfl, ru⟩
  show wpAny _ _ (call (.ref C) [u]) _ _ _
  obtain ⟨hp, g, dr, tk, os⟩ := s1
  have big : hp.objs.size ≤ hp.objs.size + 1 := Nat.le_succ _
  have hn : H1 (hp.objs.size + 1) = none := I1.hok.fresh big
  have kk : ∀ b o, hp.get? b = some o → ((hp.push (PySem.W.kdv_tup [u])).push (PySem.HandSPX.excO C hp.objs.size)).get? b = some o := fun b o q => Heap.get?_push_of_some _ (Heap.get?_push_of_some _ q)
  have at1 : ((hp.push (PySem.W.kdv_tup [u])).push (PySem.HandSPX.excO C hp.objs.size)).get? (hp.objs.size + 1) = some (PySem.HandSPX.excO C hp.objs.size) := by heap_get
  have I2 : Inv X pins σ (upd H1 (hp.objs.size + 1) (exo (hp.objs.size + 1) C none)) ⟨(hp.push (PySem.W.kdv_tup [u])).push (PySem.HandSPX.excO C hp.objs.size), g, dr, tk, os⟩ := I1.laid (t' := tk) kk big (exo_ok at1)
  have vals : Vals [V.ref (hp.objs.size + 1), y] [Value.ref (hp.objs.size + 1), u] := .cons rfl (.cons ru .nil)
  have bd := hb _ [Value.ref (hp.objs.size + 1), u] I2.kIn rfl
  refine wpAny_call (PySem.HandSPX.call_own FB.fb (fun _ => rfl) (I1.kIn _ _ hC) (PySem.W.looks_findIn I1.kIn iC) (fun self => PySem.W.bind_fn I1.kIn self tI) (by rw [sizeLine_eq]; exact (by decide : 1 ≤ 16777216))
    (codeAny_mono (F1.run _ X.stack _ _ ⟨[Value.ref (hp.objs.size + 1), u], []⟩ [Value.ref (hp.objs.size + 1), u] _ (fun v H2 => v = .non ∧ ∃ dx, H1 dx = none ∧ dx ≠ hp.objs.size + 1 ∧ H2 = upd (upd (upd H1 (hp.objs.size + 1) (exo (hp.objs.size + 1) C none)) dx (exd dx [(f, y)])) (hp.objs.size + 1) (exo (hp.objs.size + 1) C (some dx))) (fun _ _ _ => False) (hr.make C [u] []) (I2.env0.make C [u] []) bd vals
      ⟨_, y, rfl, upd_same, fun dx n ne => ⟨rfl, dx, by rwa [upd_ne ne] at n, ne, rfl⟩⟩) fun r s' hq => ?_))
  cases r with
  | error er => exact hq.elim
  | ok fl =>
    cases fl with
    | ret u' =>
      obtain ⟨v, H2, os2, bare2, un2, hok2, rv, ev, dx, n, ne, e2⟩ := hq
      subst ev e2
      obtain ⟨h2, g2, d2, t2, os'⟩ := s'
      refine ⟨rv, mk_end (raises_own T.exC T.tyC) I1 big kk un2 hok2 os2 bare2 upd_same ((upd_ne ne).trans upd_same) n ?_⟩
      have eH : upd (del (upd (upd (upd H1 (hp.objs.size + 1) (exo (hp.objs.size + 1) C none)) dx (exd dx [(f, y)])) (hp.objs.size + 1) (exo (hp.objs.size + 1) C (some dx))) (hp.objs.size + 1)) dx (.xd [(f, y)]) = upd H1 dx (.xd [(f, y)]) := funext fun b => by
        by_cases h1 : b = dx
        · rw [h1, upd_same, upd_same]
        · rw [upd_ne h1, upd_ne h1]
          by_cases h3 : b = hp.objs.size + 1
          · rw [h3, del_same, hn]
          · rw [del_ne h3, upd_ne h3, upd_ne h1, upd_ne h3]
      rw [eH]
      exact q1 dx n
    | next => exact hq.elim
    | brk => exact hq.elim
    | cont => exact hq.elim
end
end G
namespace G
open PySem PySem.Spec PyProof.Rows L2

/-! ### contracts of defs that raise -/
structure FnGX (P : Program) (w : World) (K : PySem.W.Frag) (mg : Str → Option Value) (base : Heap) (k : Nat) (f : Addr) (fd : FuncData) (ps : List Str) (sp : Sp) : Prop where
  len : ∀ vs H Q E, sp vs H Q E → vs.length = ps.length
  run : ∀ (A : Around) (fr : List PySem.Env) (s : Shared) (H : Hp) (ar : Args) (us : List Value) (vs : List V) (Q : VK) (E : XK), Room k A → A.guards = some [] → Env0 P w K mg base A fr s H → BindsTo s fd ar (ps.zip us) → Vals vs us → sp vs H Q E →
    codeAny (model P w) A (.call (.ref f) ar) (CR (L2.CX P w) fr P w H s Q E) s
theorem FnGX.mono {P : Program} {w : World} {K : PySem.W.Frag} {mg : Str → Option Value} {base : Heap} {j k : Nat} {f : Addr} {fd : FuncData} {ps : List Str} {sp : Sp} (F : FnGX P w K mg base j f fd ps sp) (h : j ≤ k) : FnGX P w K mg base k f fd ps sp :=
  ⟨F.len, fun A fr s H ar us vs Q E r => F.run A fr s H ar us vs Q E (r.mono h)⟩
section
variable {P : Program} {w : World} {K : PySem.W.Frag} {mg : Str → Option Value} {base : Heap}
theorem okGX {x qual : Str} {st : Stmt} {f : Addr} {fd : FuncData} {N ps : List Str} {k : Nat} {sp : Sp} (F : Fun K x qual st f fd) (S : FnScope N ps (defScope st)) (len : ∀ vs H Q E, sp vs H Q E → vs.length = ps.length)
    (hb : ∀ (cdv : Value) (A : Around) (fr : List PySem.Env) (s : Shared) (H : Hp) (vs : List V) (Q : VK) (E : XK), Room k (A.deeper (envOfC qual (defScope st) s.heap.objs.size f cdv)) → A.guards = some [] → sp vs H Q E →
      ∃ t, PSs (cxOf (L2.CX P w) P w K mg base N qual (defScope st) f cdv A fr s H E) (defBody st) t ∧ t { nx := fun _ H' => Q .non H', rt := Q } (L2.start N vs) H) : FnGX P w K mg base (k + 1) f fd ps sp := by
  obtain ⟨oc, od, kV, doc, pm, an, cdv, ct, osl, rfl, lk, hcd⟩ := F.ex
  refine ⟨len, fun A fr s H ar us vs Q E hr hg e0 hbd r hsp => ?_⟩
  have hl := len _ _ _ _ hsp
  have kin : K.In s.heap := e0.mod.kin.keeps fun b o e => (e0.bs b o e).1
  have nl : s.heap.NoLimit := e0.mod.nolimit.keeps fun b o e => (e0.bs b o e).1
  refine codeAny_call_function hr.depth (kin _ _ lk) rfl S.co S.gen rfl (PySem.W.codeRec_of kin hcd) (hbd _ _ _ _ ?_)
  refine wpAny_newFunctionEnv_cells S.kind (fun y hy => ?_) fun env he s1 ic => ?_
  · rcases S.par y.1 (List.of_mem_zip (show (y.1, y.2) ∈ _ from hy)).1 with q | q
    · exact .inl q
    · exact .inr ⟨q, PySem.W.cellsFrom_some _ _ _ (.inl q)⟩
  subst he
  refine ⟨nl.keeps ic.toInCall.keep, codeAny_func ?_⟩
  obtain ⟨t, ht, hq⟩ := hb cdv A fr s H vs Q E (hr.deeper _) hg hsp
  have I := inv_start (CX := L2.CX P w) (E := E) S hr.hd e0 hl r ic
  refine wpAny_mono (ht.run [] s1 _ H _ I hq) (fun fl s' z => ?_) fun _ _ z => z
  cases fl with
  | ret u => obtain ⟨v, σ', H', J, rv, q⟩ := z; exact ⟨v, H', J.os, J.bare, J.base, J.hok, rv, q⟩
  | next => obtain ⟨σ', H', J, q⟩ := z; exact ⟨V.non, H', J.os, J.bare, J.base, J.hok, rfl, q⟩
  | brk => obtain ⟨_, _, _, q⟩ := z; exact False.elim q
  | cont => obtain ⟨_, _, _, q⟩ := z; exact False.elim q
end
section
variable {X : Cx}
theorem runGX {pins : List (Addr × Obj)} {σ : L2.St} {H : Hp} {s : Shared} {Q : VK} {us : List Value} {vs : List V} {k : Nat} {f : Addr} {fd : FuncData} {ps : List Str} {sp : Sp} {E : L2.St → XK} (F : FnGX X.prog X.w X.K X.mg X.base k f fd ps sp)
    (hr : Room k X.A) (hg : X.A.guards = some []) (hb : Binds X.K fd ps []) (hx : PassesAt (L2.CX X.prog X.w) X σ (E σ)) (I : Inv X pins σ H s) (r : Vals vs us) (h : sp vs H Q (E σ)) : wpAny (model X.prog X.w) X.A (call (.ref f) us) (EP X pins σ Q) X.xe s := by
  have hl : (us ++ []).length = ps.length := by rw [List.append_nil, ← r.length]; exact F.len _ _ _ _ h
  have bd := hb s us I.kIn hl
  rw [List.append_nil] at bd
  refine wpAny_call (codeAny_mono (F.run X.A X.stack s H _ us vs Q (E σ) hr hg I.env0 bd r h) fun rs s' z => ?_)
  cases rs with
  | error e => exact hx pins H s e s' I z
  | ok fl =>
    cases fl with
    | ret u => exact I.after z
    | next => exact False.elim z
    | brk => exact False.elim z
    | cont => exact False.elim z
theorem peGX {x : Str} {p pos : Pos} {e : Expr} {es : List Expr} {t : TA} {k : Nat} {f : Addr} {fd : FuncData} {ps : List Str} {sp : Sp} {E : L2.St → XK} (F : FnGX X.prog X.w X.K X.mg X.base k f fd ps sp) (hr : Room k X.A) (hgd : X.A.guards = some []) (hg : Gl X x)
    (hm : X.mg x = some (.ref f)) (hk : PySem.W.keepIn X.K (.ref f) = true) (hb : Binds X.K fd ps []) (hx : ∀ σ, PassesAt (L2.CX X.prog X.w) X σ (E σ)) (ha : PA X (e :: es) t) (hdb : (x == ("__debug__" : Str)) = false := by decide)
    (he : starEach (e :: es) X.env = (false, eval e X.env) :: starEach es X.env := by rfl) (hpl : (backTo pos (starEach es X.env)).any (·.1) = false := by rfl) : PE X (.Call (.Name x p) (e :: es) [] pos) (tCallS sp E t) := by
  constructor
  intro pins s σ H Q I h
  refine wpAny_Call_Name_kw (ld_glob I hg hm ?_ hdb)
  exact PySem.W.callWith_K (h₀ := X.base) I.ok.mod.kin hk (thn (ha.run pos pins s σ H _ I h) fun us s1 ⟨vs, H1, I1, r, q⟩ => ⟨I1.kIn, runGX F hr hgd hb (hx σ) I1 r q⟩) he hpl
end

/-! ### what raises, as a pure function -/
def ExP (K : PySem.W.Frag) (s : S) (c : Str) (C : Addr) (od : Option Addr) (ds : List (Str × D)) : Prop := PySem.W.nsIn K mainGlobals c = some (some (.ref C)) ∧ DxOk K s od ds
abbrev MX := List OV → Option (Str × List (Str × D) × List (Option OV))
def FnXD (K : PySem.W.Frag) (n : Nat) (m : MX) : Sp := fun vs H _ E => ∃ Z P os c ds outs, vs.length = n ∧ RepOs K ⟨H, Z⟩ os vs P ∧ Own P ⟨H, Z⟩ ∧ m os = some (c, ds, outs) ∧
  ∀ C od s' P', ExP K s' c C od ds → Outs K s' outs vs P' → Own P' s' → Ext P ⟨H, Z⟩ P' s' → E (.ref C) od s'.H
abbrev MSX := Env → Option (Str × List (Str × D) × Env)
def PostX (K : PySem.W.Frag) (fx : List Nat) (σ : L2.St) (s : S) (P : FP) (c : Str) (ds : List (Str × D)) (e' : Env) (W : WX) : Prop :=
  ∀ C od σ' s' P', ExP K s' c C od ds → EnvOk K s' σ' e' P' → Own P' s' → Ext P s P' s' → Fx fx σ σ' → W (.ref C) od σ' s'.H
theorem PostX.step {K : PySem.W.Frag} {fx : List Nat} {σ σ1 : L2.St} {s s1 : S} {P P1 : FP} {c : Str} {ds : List (Str × D)} {e' : Env} {W : WX} (h : PostX K fx σ s P c ds e' W) (x : Ext P s P1 s1) (f : Fx fx σ σ1) : PostX K fx σ1 s1 P1 c ds e' W :=
  fun C od σ' s' P' a b d g i => h C od σ' s' P' a b d (x.trans g) (f.trans i)
structure DSx (X : Cx) (fx : List Nat) (st : Stmt) (m : MSX) : Prop where
  run : ∀ W, Takes X W → ∃ t, PS X st t ∧ ∀ σ s env P c ds env', EnvOk X.K s σ env P → Own P s → m env = some (c, ds, env') → PostX X.K fx σ s P c ds env' W → ∀ D, t D σ s.H
structure DSxs (X : Cx) (fx : List Nat) (sts : List Stmt) (m : MSX) : Prop where
  run : ∀ W, Takes X W → ∃ t, PSs X sts t ∧ ∀ σ s env P c ds env', EnvOk X.K s σ env P → Own P s → m env = some (c, ds, env') → PostX X.K fx σ s P c ds env' W → ∀ D, t D σ s.H
structure DEx (X : Cx) (e : Expr) (m : MSX) : Prop where
  run : ∀ W, Takes X W → ∃ t, PE X e t ∧ ∀ fx σ s env P c ds env', EnvOk X.K s σ env P → Own P s → m env = some (c, ds, env') → PostX X.K fx σ s P c ds env' W → ∀ Q, t σ s.H Q
section
variable {X : Cx} {fx : List Nat} {st : Stmt} {sts body orelse : List Stmt} {c e : Expr} {es : List Expr} {pos p : Pos}
theorem DSxs.one {m : MSX} (h : DSx X fx st m) : DSxs X fx [st] m := ⟨fun W tk => let ⟨t, a, b⟩ := h.run W tk; ⟨t, pss_one a, b⟩⟩
theorem DSxs.head {m : MSX} {r : MS} (h : DSx X fx st m) (g : DSs X.nox fx sts r) : DSxs X fx (st :: sts) m := ⟨fun W tk => by
  obtain ⟨t, a, b⟩ := h.run W tk
  obtain ⟨u, gp, _⟩ := g.run
  exact ⟨_, pss_cons a gp.nox, fun σ s env P c ds e1 h1 h2 h3 h4 D => b σ s env P c ds e1 h1 h2 h3 h4 _⟩⟩
theorem PS_nox {t : TS} (h : PS X.nox st t) : PS X st t := ⟨fun pins s σ H D I q => wpAny_mono (h.run pins s σ H D (I.wish _) q) (fun _ _ z => z.unwish) fun _ _ z => z.elim⟩
def mSeqX (m : MS) (r : MSX) : MSX := fun env => match m env with
  | some (.nx e1) => r e1
  | _ => none
theorem DSxs.tail {m : MS} {r : MSX} (h : DS X.nox fx st m) (g : DSxs X fx sts r) : DSxs X fx (st :: sts) (mSeqX m r) := ⟨fun W tk => by
  obtain ⟨t, a, b⟩ := h.run
  obtain ⟨u, gp, gr⟩ := g.run W tk
  refine ⟨_, pss_cons (PS_nox a) gp, fun σ s env P c ds e1 h1 h2 h3 h4 D => ?_⟩
  unfold mSeqX at h3
  split at h3
  · rename_i e2 q
    exact b σ s env P (.nx e2) h1 h2 q _ fun σ1 s1 P1 b1 b2 b3 b4 => gr σ1 s1 e2 P1 c ds e1 b1 b2 h3 (h4.step b3 b4) D
  · cases h3⟩
def mIfX (mc : MT) (mx : MSX) : MSX := fun env => match mc env with
  | some (true, e1) => mx e1
  | _ => none
theorem DSx.ite {mc : MT} {mx : MSX} {r : MS} (hc : DT X.nox c mc) (h : DSxs X fx body mx) (g : DSs X.nox fx orelse r) : DSx X fx (.If c body orelse pos) (mIfX mc mx) := ⟨fun W tk => by
  obtain ⟨tc, cp, cr⟩ := hc.run
  obtain ⟨t, a, b⟩ := h.run W tk
  obtain ⟨u, gp, _⟩ := g.run
  refine ⟨_, ps_if cp.nox a gp.nox, fun σ s env P x ds e1 h1 h2 h3 h4 D => ?_⟩
  unfold mIfX at h3
  split at h3
  · rename_i e2 q
    refine cr σ s env P true e2 h1 h2 q _ fun s1 P1 b1 b2 b3 => ?_
    rw [if_pos rfl]
    exact b σ s1 e2 P1 x ds e1 b1 b2 h3 (h4.step b3 (.refl _ _)) D
  · cases h3⟩
/-- raise C() -/
def mRaise0 (c : Str) : MSX := fun env => some (c, [], env)
theorem DSx.raise0 {C : Addr} {cn : Str} {e : Expr} (hc : X.calm = true) (he : PMk X e (tMk0 C)) (hn : PySem.W.nsIn X.K mainGlobals cn = some (some (.ref C))) : DSx X fx (.Raise (some e) none pos) (mRaise0 cn) := ⟨fun W tk =>
  ⟨_, ps_raise hc tk he, fun σ s env P c ds e1 h1 h2 h3 h4 D => by
    cases h3
    exact h4 C none σ s P ⟨hn, .inl ⟨rfl, rfl⟩⟩ h1 h2 (.refl _ _) (.refl _ _)⟩⟩
/-- raise C(v) -/
def mRaise1 (c f : Str) (m : MA) : MSX := fun env => match m env with
  | some ([a], e1) => match resolve1 e1 a with
    | some (.fz d) => some (c, [(f, d)], e1)
    | _ => none
  | _ => none
theorem DSx.raise1 {C : Addr} {cn f : Str} {es : List Expr} {m : MA} {E : Expr} (hc : X.calm = true) (ha : DA X es m) (he : ∀ ta, PA X es ta → PMk X E (tMk1 C f ta)) (hn : PySem.W.nsIn X.K mainGlobals cn = some (some (.ref C))) : DSx X fx (.Raise (some E) none pos) (mRaise1 cn f m) := ⟨fun W tk => by
  obtain ⟨ts, h1, h2, h3⟩ := ha.run
  refine ⟨_, ps_raise hc tk (he _ h2), fun σ s env P c ds e1 a1 a2 a3 a4 D => ?_⟩
  unfold mRaise1 at a3
  split at a3
  · rename_i a e2 q1
    split at a3
    · rename_i d q2
      cases a3
      refine h3 σ s env P [a] _ a1 a2 q1 _ fun vs s1 P1 R b1 b2 b3 b4 b5 => ?_
      obtain ⟨v, Pv, e0, rd⟩ := (b2.read b1 (os := [.fz d]) (by simp [resolve, q2])).one
      subst e0
      refine ⟨v, rfl, fun dx dn => ?_⟩
      have hv : Rep X.K s1 v d := by cases rd with | fz h => exact h
      have x1 : Ext P1 s1 P1 ⟨upd s1.H dx (.xd [(f, v)]), fU s1.Z (f1 dx)⟩ := Ext.newz dn
      have ow1 : Own P1 s1 := b4.sub fun _ z => .inl z
      have fz1 := x1.fz
      refine a4 C (some dx) σ ⟨upd s1.H dx (.xd [(f, v)]), fU s1.Z (f1 dx)⟩ P1 ⟨hn, .inr ⟨dx, [(f, v)], rfl, .inr rfl, .inl upd_same, fun g d' q => ?_⟩⟩ (b1.mono ⟨fz1, fun a z => upd_ne fun e => (ow1.o a z).2 (by rw [e]; exact dn)⟩) ⟨fun a z => ⟨fun y => y.elim (ow1.o a z).1 fun y => (ow1.o a z).2 (by rw [show a = dx from y]; exact dn), fun y => ?_⟩, fun a z => ?_⟩ ((b5.sub (R := P1) fun _ z => .inl z).trans x1) (.refl _ _)
      · have : g = f ∧ d' = d := by
          by_cases e : g = f
          · subst e; simp [List.lookup] at q; exact ⟨rfl, q.symm⟩
          · have e' : (g == f) = false := by simpa using e
            simp [List.lookup, e'] at q
        obtain ⟨rfl, rfl⟩ := this
        exact ⟨v, by simp [List.lookup], hv.mono fz1⟩
      · exact (ow1.o a z).2 (x1.dom a y)
      · rcases z with z | z
        · exact fun y => ow1.w a z (x1.dom a y)
        · rw [show a = dx from z]; show upd _ _ _ _ ≠ none; rw [upd_same]; exact fun y => nomatch y
    · cases a3
  · cases a3⟩
end
end G
namespace G
open PySem PySem.Spec PyProof.Rows L2

/-! ### a call that raises -/
def mCallX (m : MX) (ma : MA) : MSX := fun env => match ma env with
  | none => none
  | some (as, e1) => match takeA e1 as with
    | none => none
    | some (os, ts, e2) => match m os with
      | none => none
      | some (c, ds, outs) => some (c, ds, putB e2 ts outs)
theorem callX {K : PySem.W.Frag} {n : Nat} {m : MX} {σ : L2.St} {s : S} {P : FP} {as : List AV} {e1 e2 : Env} {os : List OV} {ts : List (Option Nat)} {c : Str} {ds : List (Str × D)} {outs : List (Option OV)} {Q : VK} {W : WX} {fx : List Nat} (h1 : takeA e1 as = some (os, ts, e2)) (h2 : m os = some (c, ds, outs)) (hn : os.length = n)
    (hq : PostX K fx σ s P c ds (putB e2 ts outs) W) : PostA K σ s P as e1 fun vs H => FnXD K n m vs H Q (WE W σ) := by
  intro vs s1 P1 R1 a1 a2 a3 a4 a5
  obtain ⟨P2, R2, b1, b2, b3, b4, b5, b6⟩ := takeA_ok a2 a1 a3 h1
  have w : Own (fU P2 R2) s1 := a4.sub fun x z => b4 x z
  have wR : Own R2 s1 := w.sub fun _ z => .inr z
  have wP : Own P2 s1 := w.sub fun _ z => .inl z
  have d21 : Dis R2 P2 := fun x z y => b3 x y z
  refine ⟨s1.Z, R2, os, c, ds, outs, by rw [b2.len]; exact hn, b2, wR, h2, fun C od s' P' c0 c1 c4 c5 => ?_⟩
  have k := c5.kp d21 wP
  have dP := c5.disR d21 wP
  obtain ⟨P3, f1, f2⟩ := putB_ok b5 c1 (b1.mono k) fun x z y => dP x y z
  have wP' := c5.ownR d21 wP
  refine hq C od σ s' P3 c0 f1 ((wP'.or c4).sub fun x z => (f2 x z).elim .inl .inr) ?_ (.refl _ _)
  refine ((a5.sub (R := fU R2 P2) fun x z => b4 x z.symm).trans c5.frame).sub fun x z => ?_
  exact (f2 x z).elim .inr .inl
section
variable {X : Cx} {fx : List Nat} {e : Expr} {es : List Expr} {pos p : Pos}
theorem DEx.call {x : Str} {k n : Nat} {f : Addr} {fd : FuncData} {ps : List Str} {m : MX} {ma : MA} (F : FnGX X.prog X.w X.K X.mg X.base k f fd ps (FnXD X.K n m)) (hr : Room k X.A) (hgd : X.A.guards = some [])
    (hg : Gl X x) (hm : X.mg x = some (.ref f)) (hk : PySem.W.keepIn X.K (.ref f) = true) (hb : Binds X.K fd ps []) (hn : ∀ os r, m os = some r → os.length = n) (ha : DA X (e :: es) ma) (hdb : (x == ("__debug__" : Str)) = false := by decide)
    (he : starEach (e :: es) X.env = (false, eval e X.env) :: starEach es X.env := by rfl) (hpl : (backTo pos (starEach es X.env)).any (·.1) = false := by rfl) : DEx X (.Call (.Name x p) (e :: es) [] pos) (mCallX m ma) := ⟨fun W tk => by
  obtain ⟨ts, hp, hpa, hrun⟩ := ha.run
  refine ⟨_, peGX (E := WE W) F hr hgd hg hm hk hb (fun σ => passAt tk σ) hpa hdb he hpl, fun fx σ s env P c ds env' h1 h2 h3 h4 Q => ?_⟩
  unfold mCallX at h3
  split at h3
  · cases h3
  · rename_i as e1 q1
    split at h3
    · cases h3
    · rename_i os tks e2 q2
      split at h3
      · cases h3
      · rename_i c' ds' outs q3
        cases h3
        exact hrun σ s env P as e1 h1 h2 q1 _ (callX q2 q3 (hn _ _ q3) h4)⟩
theorem DEx.lst1 {m : MSX} (h : DEx X e m) (hs : starEach [e] X.env = (false, eval e X.env) :: starEach [] X.env := by rfl) : DEx X (.List [e] pos) m := ⟨fun W tk => by
  obtain ⟨t, hp, hr⟩ := h.run W tk
  exact ⟨_, pe_lst (pa_cons hp pa_nil hs), fun fx σ s env P c ds env' h1 h2 h3 h4 Q => hr fx σ s env P c ds env' h1 h2 h3 h4 _⟩⟩
theorem DEx.lst2 {m : MSX} {x : Str} {j : Nat} {p2 : Pos} (h : DEx X e m) (hs : starEach [e] X.env = (false, eval e X.env) :: starEach [] X.env := by rfl) (hs2 : starEach [.Constant (.str x) j p2, e] X.env = (false, eval (.Constant (.str x) j p2) X.env) :: starEach [e] X.env := by rfl) : DEx X (.List [.Constant (.str x) j p2, e] pos) m := ⟨fun W tk => by
  obtain ⟨t, hp, hr⟩ := h.run W tk
  exact ⟨_, pe_lst (pa_cons pe_str (pa_cons hp pa_nil hs) hs2), fun fx σ s env P c ds env' h1 h2 h3 h4 Q => hr fx σ s env P c ds env' h1 h2 h3 h4 _⟩⟩
theorem DEx.tup2 {m : MSX} {k : Nat} {x : Str} {j : Nat} {p2 : Pos} (h : DEx X e m) (hs : starEach [e] X.env = (false, eval e X.env) :: starEach [] X.env := by rfl) (hs2 : starEach [.Constant (.str x) j p2, e] X.env = (false, eval (.Constant (.str x) j p2) X.env) :: starEach [e] X.env := by rfl) : DEx X (.Tuple [.Constant (.str x) j p2, e] k pos) m := ⟨fun W tk => by
  obtain ⟨t, hp, hr⟩ := h.run W tk
  exact ⟨_, pe_tupG (pa_cons pe_str (pa_cons hp pa_nil hs) hs2), fun fx σ s env P c ds env' h1 h2 h3 h4 Q => hr fx σ s env P c ds env' h1 h2 h3 h4 _⟩⟩
theorem DSx.expr {m : MSX} (h : DEx X e m) (hs : swapsWith e none pos.line X.env = pure false := by rfl) : DSx X fx (.Expr e pos) m := ⟨fun W tk => by
  obtain ⟨t, hp, hr⟩ := h.run W tk
  exact ⟨_, ps_expr hp hs, fun σ s env P c ds env' h1 h2 h3 h4 D => hr fx σ s env P c ds env' h1 h2 h3 h4 _⟩⟩
theorem DSx.ret {m : MSX} (h : DEx X e m) : DSx X fx (.Return (some e) pos) m := ⟨fun W tk => by
  obtain ⟨t, hp, hr⟩ := h.run W tk
  exact ⟨_, ps_ret hp, fun σ s env P c ds env' h1 h2 h3 h4 D => hr fx σ s env P c ds env' h1 h2 h3 h4 _⟩⟩
end
/-! ### a def that raises, by its body -/
def runX (N n : Nat) (fl : List Bool) (m : MSX) : MX := fun os => if os.length = n then
    match m (os.map some ++ List.replicate (N - n) none) with
    | some (c, ds, e) => some (c, ds, outsOf fl e)
    | none => none
  else none
theorem runX_len {N n : Nat} {fl : List Bool} {m : MSX} : ∀ os r, runX N n fl m os = some r → os.length = n := by
  intro os r h
  unfold runX at h
  split at h
  · assumption
  · cases h
section
variable {P : Program} {w : World} {K : PySem.W.Frag} {mg : Str → Option Value} {base : Heap}
theorem okDX {x qual : Str} {st : Stmt} {f : Addr} {fd : FuncData} {N ps : List Str} {k : Nat} {fx : List Nat} {fl : List Bool} {m : MSX} (F : Fun K x qual st f fd) (sc : FnScope N ps (defScope st)) (hfl : fl.length = ps.length) (hfx : ∀ i, i < fl.length → fl[i]? = some true → i ∈ fx)
    (hb : ∀ (cdv : Value) (A : Around) (fr : List PySem.Env) (s : Shared) (H : Hp) (E : XK), Room k (A.deeper (envOfC qual (defScope st) s.heap.objs.size f cdv)) → A.guards = some [] →
      DSxs (cxOf (L2.CX P w) P w K mg base N qual (defScope st) f cdv A fr s H E) fx (defBody st) m) : FnGX P w K mg base (k + 1) f fd ps (FnXD K ps.length (runX N.length ps.length fl m)) := by
  refine okGX F sc (fun vs H Q E h => ?_) fun cdv A fr s H vs Q E hr hg h => ?_
  · obtain ⟨Z, P, os, c, ds, outs, hl, _⟩ := h; exact hl
  · obtain ⟨Z, Pf, os, c, ds, outs, hl, ro, ow, hm, post⟩ := h
    obtain ⟨t, tp, tr⟩ := (hb cdv A fr s H E hr hg).run (fun cls d _ H => E cls d H) (takes_of rfl rfl rfl rfl)
    refine ⟨t, tp, ?_⟩
    have hn : os.length = ps.length := by rw [← ro.len]; exact hl
    unfold runX at hm
    rw [if_pos hn] at hm
    have e0 : EnvOk K ⟨H, Z⟩ (L2.start N vs) (os.map some ++ List.replicate (N.length - ps.length) none) Pf := by
      unfold L2.start
      rw [hl]
      exact EnvOk.of_args _ ro
    split at hm
    · rename_i c' ds' e' q
      cases hm
      refine tr _ ⟨H, Z⟩ _ Pf _ _ e' e0 ow q (fun C od σ' s' P' c0 c1 c2 c3 c4 => ?_) _
      obtain ⟨g, ga, gp⟩ := c1
      have st0 : ∀ (i : Nat) (u : V), vs[i]? = some u → (L2.start N vs)[i]? = some (some u) := fun i u q => by
        unfold L2.start
        rw [List.getElem?_append_left (by rw [List.length_map]; exact (List.getElem?_eq_some_iff.mp q).1), List.getElem?_map, q]; rfl
      obtain ⟨P2, o1, o2⟩ := outs_ok (fl := fl) (vs := vs) ga (by rw [hl, hfl]) fun i u q1 q2 => by
        rw [c4 i (hfx i (List.getElem?_eq_some_iff.mp q1).1 q1)]; exact st0 i u q2
      have sub : ∀ a, P2 a → P' a := fun a z => (gp a).mpr (o2 a z)
      exact post C od s' P2 c0 o1 (c2.sub sub) (c3.sub sub)
    · cases hm
end
/-! ### try: .. except C as n: .. -/
/-- the caught error is tracked -/
theorem Inv.showX {X : Cx} {pins : List (Addr × Obj)} {σ : L2.St} {H : Hp} {s : Shared} (I : Inv X pins σ H s) {a C : Addr} {od : Option Addr} {oe : Obj} {vs : Array Value} (he : s.heap.get? a = some oe) (hc : oe.cls = .ref C) (hod : oe.dict = od) (hd : oe.data = .fields vs) (na : H a = none)
    (n0 : X.s_0.heap.get? a = none) (nL : a ≠ X.env.locals) (np : ∀ p ∈ X.pn ++ pins, p.1 ≠ a) : Inv X pins σ (upd H a (exH C od a)) s := by
  have ext : ∀ (o : HO), (∀ b, o ≠ .own b) → (∀ xs, o ≠ .tup xs) → True := fun _ _ _ => trivial
  have neA : ∀ {b : Addr} {o : HO}, H b = some o → b ≠ a := fun {b o} q e => by rw [e, na] at q; cases q
  refine ⟨I.ok, I.os, I.bare, ⟨I.base.keep, I.base.slot, fun b o q n hx => ?_, I.base.there, fun b xs q => ?_, fun b o u q => ?_, fun b ps q => ?_⟩, I.loc, I.cell, (upd_ne (Ne.symm nL)).trans I.free, fun x c q => ?_, fun p hp => ?_, fun b o q => ?_, I.len⟩
  · have nb : b ≠ a := fun e => by rw [e, n0] at q; cases q
    exact (upd_ne nb).trans (I.base.free b o q n hx)
  · have r := I.base.tups b xs q; exact (upd_ne (neA r)).trans r
  · have r := I.base.frzs b o u q; exact (upd_ne (neA r)).trans r
  · obtain ⟨more, r⟩ := I.base.tbls b ps q; exact ⟨more, (upd_ne (neA r)).trans r⟩
  · obtain ⟨v, z⟩ := I.cell x c q
    have nc : c ≠ a := fun e => by
      obtain ⟨o', h1, h2⟩ := z
      rw [e, he] at h1
      cases h1
      rw [hd] at h2
      cases h2
    exact (upd_ne nc).trans (I.freeC x c q)
  · obtain ⟨h1, h2, h3⟩ := I.pin p hp
    exact ⟨h1, (upd_ne (np p hp)).trans h2, h3⟩
  · by_cases hb : b = a
    · subst hb
      rw [upd_same] at q
      cases q
      exact ⟨⟨oe, vs, he, hc, hod, hd⟩, ⟨oe, he⟩, fun h1 h2 ⟨oe', vs', e1, e2⟩ k => ⟨oe', vs', k _ e1, e2⟩⟩
    · rw [upd_ne hb] at q
      exact (I.hok b o q).stay (fun c v hc z => z) (fun c z => (upd_ne (neA z)).trans z) fun c xs z => (upd_ne (neA z)).trans z
theorem Inv.inSuite {X : Cx} {pins : List (Addr × Obj)} {σ : L2.St} {H : Hp} {s : Shared} (I : Inv X pins σ H s) (a : Addr) : Inv (X.suite a (X.pn ++ pins)) [] σ H s :=
  ⟨I.ok.suite _ _, I.os, I.bare, I.base, I.loc, I.cell, I.free, I.freeC, fun p hp => I.pin p (by rw [List.append_nil] at hp; exact hp), I.hok, I.len⟩
theorem Inv.outSuite {X : Cx} {pins pn' : List (Addr × Obj)} {σ : L2.St} {H : Hp} {s : Shared} {a : Addr} (I : Inv (X.suite a (X.pn ++ pins)) pn' σ H s) (ok : X.Ok) : Inv X pins σ H s :=
  ⟨ok, I.os, I.bare, I.base, I.loc, I.cell, I.free, I.freeC, fun p hp => I.pin p (List.mem_append_left _ hp), I.hok, I.len⟩
/-- what the clause wishes of an error of the body -/
def wV (K : PySem.W.Frag) (CN : Addr) (i : Nat) (ts : TS) (D : Ends) : WX := fun cls od σ H => cls = .ref CN ∧ PySem.W.exmOne K (.ref CN) (.ref CN) = some true ∧ ∀ a, H a = none →
  ts { nx := fun σ' H' => D.nx (σ'.set i none) H', rt := D.rt, bk := fun σ' H' => D.bk (σ'.set i none) H', ct := fun σ' H' => D.ct (σ'.set i none) H' } (σ.set i (some (.ref a))) (upd H a (exH CN od a))
section
variable {X : Cx} {x n : Str} {CN : Addr} {i : Nat} {body suite : List Stmt} {b₀ : Stmt} {np pos pos' : Pos} {tb : WX → TS} {ts : TS}
theorem ps_tryV (hex0 : X.ex = []) (hs : X.stack = X.env :: X.outer) (hf : X.env.frame = some X.env.locals) (hN : X.N.Nodup) (hi : X.N[i]? = some n) (hln : X.env.kindOf n = some .local) (hc : Names X x (.ref CN))
    (hb : ∀ (W : WX) (pn : List (Addr × Obj)) (xe : Value → Shared → Prop), Takes (X.tr pn xe) W → PSs (X.tr pn xe) body (tb W)) (hsu : ∀ (a : Addr) (pn : List (Addr × Obj)), PSs (X.suite a pn) (b₀ :: suite) ts) :
    PS X (.Try body [.ExceptHandler (some (.Name x np)) (some n) (b₀ :: suite) pos'] [] [] pos) (fun D σ H => tb (wV X.K CN i ts D) D σ H) := by
  refine ⟨fun pins s σ H D I h => wpAny_Try_except ?_⟩
  have ok := I.ok
  have frm : X.A.frames = some (X.env :: X.outer) := by rw [ok.frames, hs]
  refine wpAny_mono ((hb (wV X.K CN i ts D) (X.pn ++ pins) (fun e t1 => wpAny (model X.prog X.w) X.A (noteFrame e X.env) (fun _ t2 => wpAny (model X.prog X.w) X.A (setFlight e none) (fun _ t3 =>
    wpAny (model X.prog X.w) X.A (handleBy e X.env [.ExceptHandler (some (.Name x np)) (some n) (b₀ :: suite) pos']) (SP X pins D) X.xe t3) X.xe t2) X.xe t1) (fun u s2 air => ?_)).run [] s σ H D (I.toTry _) h) (fun f s1 got => ?_) (fun e s1 he => he)
  · obtain ⟨a, B, sI, pn2, σ2, H2, cls, od, rfl, J0, nb, up, sky, na, os, ag, rfl, hex, hyes⟩ := air
    have J : Inv X pins σ2 H2 sI := J0.ofTry ok
    rw [show (X.tr (X.pn ++ pins) _).stack = X.env :: X.outer from hs] at sky nb
    show wpAny (model X.prog X.w) X.A (noteFrame (.ref a) X.env) _ _ _
    refine Sky.land Zc.steady frm hf sky fun h3 fl3 up3 => ?_
    have nb' : ∀ b o, sI.heap.get? b = some o → b ∉ frs X.stack → B.get? b = some o := fun b o q nf => nb b o q (by rw [← hs]; exact nf)
    have J3 : Inv X pins σ2 H2 { s2 with heap := h3 } := J.landed nb' fl3.1 (up.trans up3) os ag
    have notFrame : ∀ {h : Heap} {o : Obj} {vs : Array Value}, h.FunFrames B (X.env :: X.outer) → h.get? a = some o → o.data = .fields vs → a ∉ frs (X.env :: X.outer) := fun {h o vs} ff q dd hm => by
      obtain ⟨_, o2, q2, hnf⟩ := ff.mem hm
      rw [q] at q2; cases q2
      exact hnf _ dd
    obtain ⟨oe3, vs3, he3, hz3, hd3⟩ := fl3.there
    have nfr := notFrame fl3.2.2.1 he3 hd3
    have nL : a ≠ X.env.locals := fun z => nfr (List.mem_filterMap.mpr ⟨X.env, List.mem_cons_self, by rw [hf, z]⟩)
    have nFs : a ∉ X.fs := fun hm => by
      obtain ⟨ev, hev, q⟩ := List.mem_filterMap.mp hm
      exact nfr (List.mem_filterMap.mpr ⟨ev, List.mem_cons_of_mem _ hev, q⟩)
    have fresh : ∀ b o, sI.heap.get? b = some o → b ∉ frs X.stack → b ≠ a := fun b o q nf e => by
      have z := nb' b o q nf
      rw [e, fl3.2.1] at z; cases z
    have S3 := J3.suite he3 hd3 na nL nFs
    refine wpAny_handleBy_cons (codeAny_handlers_test ?_) (by intro q; cases q)
    have LT : PySem.W.Looks (model X.prog X.w) h3 (typeOf (.ref a)) (.ref CN) := fun A Q E s k q => wpAny_typeOf_ref (k _ _ he3) (by rw [hz3.1]; exact q)
    have LM := PySem.W.exm_one (M := model X.prog X.w) (J3.kIn) LT hex
    have test : ∀ {Q E : Value → Shared → Prop}, Q (.ref CN) { s2 with heap := h3 } → wpAny (model X.prog X.w) (X.A.mark (some (.ref a))) (eval (.Name x np) X.env) Q E { s2 with heap := h3 } := fun {Q E} q => by
      obtain ⟨hg, hdbg, hm | ⟨hm, hv, hnn⟩⟩ := hc
      · exact ld_glob (X := X.suite a ((a, oe3) :: (X.pn ++ pins))) S3 hg hm q hdbg
      · exact ld_blt (X := X.suite a ((a, oe3) :: (X.pn ++ pins))) S3 hg hm hv q hnn hdbg
    refine test (LM.here (codeAny_handlers_suite_as (HandSPX.lands_againZ fl3 fun h4 fl4 up4 => ?_)))
    have J4 : Inv X pins σ2 H2 { s2 with heap := h4 } := J.landed nb' fl4.1 ((up.trans up3).trans up4) os ag
    obtain ⟨oe4, vs4, he4, hz4, hd4⟩ := fl4.there
    have n0 : X.s_0.heap.get? a = none := by
      cases q : X.s_0.heap.get? a with
      | none => rfl
      | some o =>
        obtain ⟨o', q'⟩ := J.base.there a o q (by rw [hex0]; exact fun z => nomatch z)
        exact absurd rfl (fresh a o' q' (by rw [hs]; exact nfr))
    have np2 : ∀ p ∈ X.pn ++ pins, p.1 ≠ a := fun p hp => by
      obtain ⟨h1, _, h3, h4, _⟩ := J.pin p hp
      exact fresh p.1 p.2 h1 fun hm => (List.mem_cons.mp (J.stkSub p.1 hm)).elim h3 h4
    have T4 := Inv.inSuite (Inv.showX J4 he4 hz4.1 hz4.2 hd4 na n0 nL np2) a
    refine store_ok (X := X.suite a (X.pn ++ pins)) (v := .ref a) T4 hN hi (.inl hln) rfl (fun s5 T5 => ?_) (.inr hln)
    refine wpAny_mono ((hsu a (X.pn ++ pins)).run [] s5 _ _ _ T5 (hyes a na)) (fun f s6 got => ?_) (fun _ _ z => False.elim z)
    have fin : ∀ {σ6 : L2.St} {H6 : Hp} {Q : Shared → Prop}, Inv (X.suite a (X.pn ++ pins)) [] σ6 H6 s6 → (∀ s7, Inv X pins (σ6.set i none) H6 s7 → Q s7) →
        wpAny (model X.prog X.w) X.A (do bindName X.env n .none; unbindBehindTheSuite X.env n pos') (fun _ s7 => Q s7) X.xe s6 := fun {σ6 H6 Q} T6 hq => gone_ok (Inv.outSuite T6 ok) hN hi hln hq
    cases f with
    | next => exact let ⟨_, _, T6, q6⟩ := got; fin T6 fun s7 J7 => ⟨_, _, J7, q6⟩
    | brk => exact let ⟨_, _, T6, q6⟩ := got; fin T6 fun s7 J7 => ⟨_, _, J7, q6⟩
    | cont => exact let ⟨_, _, T6, q6⟩ := got; fin T6 fun s7 J7 => ⟨_, _, J7, q6⟩
    | ret u => exact let ⟨_, _, _, T6, r6, q6⟩ := got; fin T6 fun s7 J7 => ⟨_, _, _, J7, r6, q6⟩
  · cases f with
    | next => exact let ⟨_, _, J, q⟩ := got; wpAny_execs_nil ⟨_, _, J.ofTry ok, q⟩
    | brk => exact let ⟨_, _, J, q⟩ := got; ⟨_, _, J.ofTry ok, q⟩
    | cont => exact let ⟨_, _, J, q⟩ := got; ⟨_, _, J.ofTry ok, q⟩
    | ret u => exact let ⟨_, _, _, J, r, q⟩ := got; ⟨_, _, _, J.ofTry ok, r, q⟩
end
end G
namespace G
open PySem PySem.Spec PyProof.Rows L2

/-! ### try, as a pure function -/
def clrI (i : Nat) : Out → Out
  | .nx e => .nx (e.set i none)
  | .rt o e => .rt o (e.set i none)
  | .bk e => .bk (e.set i none)
  | .ct e => .ct (e.set i none)
def mTry (i : Nat) (cl : Str) (mb : MS) (mx : MSX) (msu : MS) : MS := fun env => match mb env with
  | some out => some out
  | none => match mx env with
    | some (c, ds, e1) => if c = cl ∧ i < e1.length then (msu (e1.set i (some (.eX c ds)))).map (clrI i) else none
    | none => none
theorem show_ext {P : FP} {s : S} {a : Addr} {u : HO} (hn : s.H a = none) : Ext P s P ⟨upd s.H a u, fU s.Z (f1 a)⟩ := Ext.newz hn
section
variable {X : Cx} {fx : List Nat} {i : Nat} {body suite : List Stmt} {b₀ : Stmt} {x n : Str} {np pos pos' : Pos} {mb msu : MS} {mx : MSX} {CN : Addr}
theorem DS.try_ (hex0 : X.ex = []) (hs : X.stack = X.env :: X.outer) (hf : X.env.frame = some X.env.locals) (hN : X.N.Nodup) (hc : Names X x (.ref CN)) (hn : PySem.W.nsIn X.K mainGlobals x = some (some (.ref CN))) (hex : PySem.W.exmOne X.K (.ref CN) (.ref CN) = some true)
    (hb : ∀ pn xe, DSs (X.tr pn xe).nox fx body mb) (hx : ∀ pn xe, DSxs (X.tr pn xe) fx body mx) (hsu : ∀ a pn, DSs (X.suite a pn) fx (b₀ :: suite) msu) (hi : X.N[i]? = some n := by rfl) (hln : X.env.kindOf n = some .local := by rfl) (hfx : i ∉ fx := by decide) :
    DS X fx (.Try body [.ExceptHandler (some (.Name x np)) (some n) (b₀ :: suite) pos'] [] [] pos) (mTry i x mb mx msu) := by
  obtain ⟨ts, sp, sr⟩ : ∃ ts, (∀ a pn, PSs (X.suite a pn) (b₀ :: suite) ts) ∧ ∀ σ s env P out, EnvOk X.K s σ env P → Own P s → msu env = some out → ∀ D, PostS X.K fx σ s P out D → ts D σ s.H := by
    refine ⟨fun D σ H => ∀ a pn, Classical.choose (hsu a pn).run D σ H, fun a pn => ⟨fun pins s σ H D I q => (Classical.choose_spec (hsu a pn).run).1.run pins s σ H D I (q a pn)⟩, fun σ s env P out h1 h2 h3 D h4 a pn => (Classical.choose_spec (hsu a pn).run).2 σ s env P out h1 h2 h3 D h4⟩
  obtain ⟨tb, bp, br, xr⟩ : ∃ tb : WX → TS, (∀ W pn xe, Takes (X.tr pn xe) W → PSs (X.tr pn xe) body (tb W)) ∧ (∀ W σ s env P out, EnvOk X.K s σ env P → Own P s → mb env = some out → ∀ D, PostS X.K fx σ s P out D → tb W D σ s.H) ∧
      (∀ W σ s env P c ds env', EnvOk X.K s σ env P → Own P s → mx env = some (c, ds, env') → PostX X.K fx σ s P c ds env' W → ∀ D, tb W D σ s.H) := by
    refine ⟨fun W D σ H => (∀ pn xe, Classical.choose (hb pn xe).run D σ H) ∨ ∀ pn xe (tk : Takes (X.tr pn xe) W), Classical.choose ((hx pn xe).run W tk) D σ H, fun W pn xe tk => ⟨fun pins s σ H D I q => ?_⟩, fun W σ s env P out h1 h2 h3 D h4 => .inl fun pn xe => (Classical.choose_spec (hb pn xe).run).2 σ s env P out h1 h2 h3 D h4,
      fun W σ s env P c ds env' h1 h2 h3 h4 D => .inr fun pn xe tk => (Classical.choose_spec ((hx pn xe).run W tk)).2 σ s env P c ds env' h1 h2 h3 h4 D⟩
    rcases q with q | q
    · exact (Classical.choose_spec (hb pn xe).run).1.nox.run pins s σ H D I (q pn xe)
    · exact (Classical.choose_spec ((hx pn xe).run W tk)).1.run pins s σ H D I (q pn xe tk)
  refine ⟨_, ps_tryV hex0 hs hf hN hi hln hc bp sp, fun σ s env P out h1 h2 h3 D hq => ?_⟩
  unfold mTry at h3
  split at h3
  · rename_i out' q
    cases h3
    exact br _ σ s env P out h1 h2 q D hq
  · rename_i q0
    split at h3
    · rename_i c ds e1 q1
      split at h3
      · rename_i hcl
        obtain ⟨hcl, hil⟩ := hcl
        subst hcl
        obtain ⟨out', q2, q3⟩ := Option.map_eq_some_iff.mp h3
        refine xr _ σ s env P c ds e1 h1 h2 q1 (fun C od σ' s' P' c0 c1 c2 c3 c4 => ?_) D
        obtain ⟨n0, dx⟩ := c0
        rw [hn] at n0
        cases n0
        refine ⟨rfl, hex, fun a na => ?_⟩
        have x1 : Ext P' s' P' ⟨upd s'.H a (exH CN od a), fU s'.Z (f1 a)⟩ := Ext.newz na
        have k1 : Kp P' s' ⟨upd s'.H a (exH CN od a), fU s'.Z (f1 a)⟩ := ⟨x1.fz, fun b z => upd_ne fun e => (c2.o b z).2 (by rw [e]; exact na)⟩
        have ow : Own P' ⟨upd s'.H a (exH CN od a), fU s'.Z (f1 a)⟩ := ⟨fun b z => ⟨fun y => y.elim (c2.o b z).1 fun y => (c2.o b z).2 (by rw [show b = a from y]; exact na), fun y => (c2.o b z).2 (x1.dom b y)⟩, fun b z => by
          rcases z with z | z
          · exact fun y => c2.w b z (x1.dom b y)
          · rw [show b = a from z]; show upd _ _ _ _ ≠ none; rw [upd_same]; exact fun y => nomatch y⟩
        have rx : RepO X.K ⟨upd s'.H a (exH CN od a), fU s'.Z (f1 a)⟩ (.eX c ds) (.ref a) fE := .eX (.inr rfl) (.inl upd_same) hn (dx.mono x1.fz)
        have b1 := c1.mono k1
        have hlen : σ'.length = e1.length := b1.len
        obtain ⟨P2, p1, p2⟩ := b1.put hil rx (fun _ _ z => z)
        have p2' : ∀ b, P2 b → P' b := fun b z => (p2 b z).elim id fun y => y.elim
        refine sr (σ'.set i (some (.ref a))) ⟨upd s'.H a (exH CN od a), fU s'.Z (f1 a)⟩ _ P2 out' p1 (ow.sub p2') q2 _ ?_
        have xx : Ext P s P2 ⟨upd s'.H a (exH CN od a), fU s'.Z (f1 a)⟩ := (c3.trans x1).sub p2'
        have ff : Fx fx σ (σ'.set i (some (.ref a))) := c4.trans (Fx.set hfx)
        have nxk : ∀ (e' : Env) (N : L2.St → Hp → Prop), Nx X.K fx σ s P (e'.set i none) N → Nx X.K fx (σ'.set i (some (.ref a))) ⟨upd s'.H a (exH CN od a), fU s'.Z (f1 a)⟩ P2 e' fun σ2 H2 => N (σ2.set i none) H2 := fun e' N h σ2 s2 P3 a1 a2 a3 a4 => by
          have gone : ∃ P4, EnvOk X.K s2 (σ2.set i none) (e'.set i none) P4 ∧ ∀ b, P4 b → P3 b := by
            obtain ⟨f, fa, fp⟩ := a1
            have cl := fa.clear i
            refine ⟨fun b => ∃ j, (if j = i then fE else f j) b, ⟨fun j => if j = i then fE else f j, ⟨by simp [cl.len], fun j o q => ?_, cl.no, cl.inj⟩, fun _ => Iff.rfl⟩, fun b ⟨j, z⟩ => (fp b).mpr ?_⟩
            · obtain ⟨w, g1, g2⟩ := cl.val j o q
              have nj : i ≠ j := fun e => by
                subst e
                by_cases hl : i < e'.length
                · rw [lk_set hl, if_pos rfl] at q; cases q
                · rw [List.set_eq_of_length_le (by omega)] at q
                  have := lk_lt q
                  omega
              exact ⟨w, (List.getElem?_set_ne nj).trans g1, g2⟩
            · by_cases e : j = i
              · rw [if_pos e] at z; exact z.elim
              · rw [if_neg e] at z; exact ⟨j, z⟩
          obtain ⟨P4, g1, g2⟩ := gone
          exact h _ s2 P4 g1 (a2.sub g2) ((xx.trans a3).sub g2) ((ff.trans a4).trans (Fx.set hfx))
        cases out' with
        | nx e' => cases q3; exact nxk e' D.nx hq
        | bk e' => cases q3; exact nxk e' D.bk hq
        | ct e' => cases q3; exact nxk e' D.ct hq
        | rt o e' =>
          cases q3
          intro v σ2 s2 P3 R a1 a2 a3 a4 a5 a6
          have hq' : Rt X.K fx σ s P o (e'.set i none) D.rt := hq
          obtain ⟨f, fa, fp⟩ := a1
          have cl := fa.clear i
          have sub : ∀ b, (∃ j, (if j = i then fE else f j) b) → P3 b := fun b ⟨j, z⟩ => (fp b).mpr (by
            by_cases e : j = i
            · rw [if_pos e] at z; exact z.elim
            · rw [if_neg e] at z; exact ⟨j, z⟩)
          have env2 : EnvOk X.K s2 σ2 (e'.set i none) (fun b => ∃ j, (if j = i then fE else f j) b) := ⟨_, cl, fun _ => Iff.rfl⟩
          exact hq' v σ2 s2 _ R env2 a2 (fun b z y => a3 b (sub b z) y) (a4.sub fun b z => z.imp_left (sub b)) ((xx.trans a5).sub fun b z => z.imp_left (sub b)) (ff.trans a6)
      · cases h3
    · cases h3
end
/-! ### the name of a caught error; isinstance; fields -/
def mNx (i : Nat) : ME := fun env => match lk env i with
  | some (.eX c ds) => some (.eX c ds, env)
  | _ => none
/-- what is asked of a class of errors -/
structure XCls (K : PySem.W.Frag) (C : Addr) : Prop where
  ga : PySem.W.findIn K (.ref C) "__getattribute__" = some (some (.builtin "BaseException.__getattribute__"))
  gg : PySem.W.findIn K (.ref C) "__getattr__" = some none
  exC : PySem.W.subIn K (.ref C) (.type "BaseException") = some true
  hdC : PySem.W.hasDictIn K C = true
  ca : PySem.W.findIn K (.ref C) "__class__" = some (some (.builtin "object.__class__"))
  hn : PySem.W.specialIn K (.builtin "object.__class__") "__get__" = some (some (.builtin "getset_descriptor.__get__"))
  ht : PySem.W.takesIn K (.builtin "object.__class__") = some true
  hm : PySem.W.mroIn K C (.type "object") = some true
  cl : (PySem.W.clsIn K C).isSome = true
section
variable {X : Cx} {e : Expr} {pos p : Pos}
theorem DE.nx (i : Nat) {x : Str} {pos : Pos} (hN : X.N[i]? = some x := by rfl) (hv : Vis X.env.scope x := by first | exact Or.inl rfl | exact Or.inr (Or.inl rfl) | exact Or.inr (Or.inr rfl)) (hd : (x == ("__debug__" : Str)) = false := by decide)
    (hcd : (x == ("__classdict__" : Str)) = false := by decide) : DE X (.Name x pos) (mNx i) := by
  refine ⟨tVar i, pe_var hN hv hd hcd, fun σ s env P o env' h1 h2 h3 Q hq => ?_⟩
  unfold mNx at h3
  split at h3
  · rename_i c ds q
    cases h3
    obtain ⟨v, Po, R, a1, a2, _⟩ := h1.get q
    refine ⟨v, a1, hq v s P fE h1 ?_ (fun _ _ z => z) (by rw [fU_eq]; exact h2) (by rw [fU_eq]; exact .refl _ _)⟩
    cases a2 with
    | eX b1 b2 b3 b4 => exact .eX b1 b2 b3 b4
  · cases h3
/-- the error stands as an instance of its class -/
theorem inst_of {pins : List (Addr × Obj)} {σ : L2.St} {H : Hp} {s : Shared} (I : Inv X pins σ H s) {a C : Addr} {od : Option Addr} (h1 : Rd H a (exH C od a)) (h2 : od = none ∨ ∃ dx vs, od = some dx ∧ Rd H dx (.xd vs)) :
    ∃ oe oo, PySem.W.InstAt s.heap a oe C oo ∧ (od = none → oo = none) ∧ ∀ dx vs, od = some dx → Rd H dx (.xd vs) → ∃ ob mA, oo = some ob ∧ s.heap.get? dx = some ob ∧ (s.heap.Ns1 dx mA ∧ ∀ f, RelO (vs.lookup f) (mA f)) := by
  have x : ObjOk X.prog X.w H s.heap a (exH C od a) := h1.ok I.hok
  have x' : ∃ oe vs, s.heap.get? a = some oe ∧ oe.cls = .ref C ∧ oe.dict = od ∧ oe.data = .fields vs := x.1
  obtain ⟨oe, cells, e1, e2, e3, e4⟩ := x'
  rcases h2 with rfl | ⟨dx, vs, rfl, hd⟩
  · refine ⟨oe, none, ⟨e1, e2, by unfold PySem.W.notCls; rw [e4] <;> rfl, by rw [e3]; trivial⟩, fun _ => rfl, fun dx vs z => by cases z⟩
  · have y : ObjOk X.prog X.w H s.heap dx (.xd vs) := hd.ok I.hok
    obtain ⟨mA, ⟨ob, es, ep, g1, g2⟩, rel⟩ := y
    refine ⟨oe, some ob, ⟨e1, e2, by unfold PySem.W.notCls; rw [e4] <;> rfl, by rw [e3]; exact g1⟩, fun z => (by cases z), fun dx' vs' z hd' => ?_⟩
    cases z
    have y' : ObjOk X.prog X.w H s.heap dx (.xd vs') := hd'.ok I.hok
    obtain ⟨mA', ⟨ob', es', ep', g1', g2'⟩, rel'⟩ := y'
    rw [g1] at g1'
    cases g1'
    exact ⟨ob, mA', rfl, g1, ⟨ob, es', ep', g1, g2'⟩, rel'⟩
def rIsX (K : PySem.W.Frag) : List V → Hp → VK → Prop := fun xs H Q => ∃ (a C : Addr) (od : Option Addr) (c : V) (cv : Value) (b : Bool), xs = [.ref a, c] ∧ Rd H a (exH C od a) ∧ (od = none ∨ ∃ dx vs, od = some dx ∧ Rd H dx (.xd vs)) ∧ XCls K C ∧ (∀ u, RelV c u → u = cv) ∧ PySem.W.kitOne K (.ref C) cv = some b ∧ Q (.bl b) H
theorem call_isX : CallR X (.builtin "isinstance") (rIsX X.K) := by
  intro pins s σ H xs us Q I r h
  obtain ⟨a, C, od, c, cv, b, rfl, h1, h2, T, hcv, hk, q⟩ := h
  cases r with
  | cons rx rr =>
    cases rr with
    | cons rt rr =>
      cases rr
      cases rx
      have ec := hcv _ rt
      subst ec
      obtain ⟨oe, oo, J, _, _⟩ := inst_of I h1 h2
      exact PySem.W.kia_one (PySem.W.kitx_exc T.cl T.ga T.gg T.exC T.ca T.hn T.ht T.hm) I.kIn J hk (fun z => nomatch z) fun tk => ⟨.bl b, H, I.kept (t' := tk) fun _ _ z => z, rfl, q⟩
end
end G
namespace G
open PySem PySem.Spec PyProof.Rows L2

/-! ### isinstance(e, T), isinstance(e, (T, U, ..)) of a caught error; e.f -/
structure PC (X : Cx) (t : Expr) (c : V) (u : Value) : Prop where
  pe : PE X t (tC c)
  cv : ClsV c u
section
variable {X : Cx} {a e : Expr} {p pt pos tpos : Pos} {kk : Nat}
theorem PC.ty {t : Str} {T : String} (hg : Gl X t) (hm : X.mg t = none) (hb : bootBuiltins t = some (.type T)) (hn : t ≠ "__name__" := by decide) (hd : (t == ("__debug__" : Str)) = false := by decide) : PC X (.Name t pt) (.ty T) (.type T) := ⟨pe_bltn hg hm hb (v := .ty T) rfl hn hd, .ty T⟩
theorem PC.own {t : Str} {C : Addr} (hg : Gl X t) (hm : X.mg t = some (.ref C)) (hd : (t == ("__debug__" : Str)) = false := by decide) : PC X (.Name t pt) (.ref C) (.ref C) := ⟨⟨fun pins s σ H Q I h => ld_glob I hg hm ⟨V.ref C, H, I, rfl, h⟩ hd⟩, .own C⟩
inductive PCs (X : Cx) : List Expr → List V → List Value → TA → Prop
  | nil : PCs X [] [] [] tNil
  | cons {t : Expr} {ts : List Expr} {c : V} {cs : List V} {u : Value} {us : List Value} {ta : TA} : PC X t c u → PCs X ts cs us ta → starEach (t :: ts) X.env = (false, eval t X.env) :: starEach ts X.env → PCs X (t :: ts) (c :: cs) (u :: us) (tCons (tC c) ta)
theorem PCs.pa : ∀ {ts : List Expr} {cs : List V} {us : List Value} {ta : TA}, PCs X ts cs us ta → PA X ts ta
  | _, _, _, _, .nil => pa_nil
  | _, _, _, _, .cons h t s => pa_cons h.pe t.pa s
theorem PCs.pd : ∀ {ts : List Expr} {cs : List V} {us : List Value} {ta : TA}, PCs X ts cs us ta → Paired ClsV cs us
  | _, _, _, _, .nil => .nil
  | _, _, _, _, .cons h t s => .cons h.cv t.pd
theorem PCs.read : ∀ {ts : List Expr} {cs : List V} {us : List Value} {ta : TA}, PCs X ts cs us ta → ∀ {σ : L2.St} {H : Hp} {Q : List V → Hp → Prop}, Q cs H → ta σ H Q
  | _, _, _, _, .nil, _, _, _, q => q
  | _, _, _, _, .cons h t s, _, _, _, q => t.read q
def mIsX (c : Str) (b : Bool) (m : MV) : MT := fun env => match m env with
  | none => none
  | some (a, e1) => match resolve1 e1 a with
    | some (.eX c' _) => if c' = c then some (b, e1) else none
    | _ => none
/-- an error, read -/
theorem eX_read {K : PySem.W.Frag} {s : S} {c : Str} {ds : List (Str × D)} {v : V} {P : FP} (h : RepO K s (.eX c ds) v P) : ∃ a C od, v = .ref a ∧ s.Z a ∧ Rd s.H a (exH C od a) ∧ PySem.W.nsIn K mainGlobals c = some (some (.ref C)) ∧ DxOk K s od ds ∧ (od = none ∨ ∃ dx vs, od = some dx ∧ Rd s.H dx (.xd vs)) := by
  cases h with
  | eX h1 h2 h3 h4 => exact ⟨_, _, _, rfl, h1, h2, h3, h4, h4.imp (·.1) fun ⟨dx, vs, g1, _, g2, _⟩ => ⟨dx, vs, g1, g2⟩⟩
theorem DE.isx {c : Str} {b : Bool} {m : MV} {t : Expr} {C : Addr} {cv : V} {u : Value} (hg : Gl X "isinstance") (hm : X.mg "isinstance" = none) (h : DV X a m) (pc : PC X t cv u) (N : PySem.W.nsIn X.K mainGlobals c = some (some (.ref C))) (T : XCls X.K C) (hk : PySem.W.kitOne X.K (.ref C) u = some b)
    (he : starEach [a, t] X.env = (false, eval a X.env) :: starEach [t] X.env := by rfl) (he2 : starEach [t] X.env = (false, eval t X.env) :: starEach [] X.env := by rfl) (hpl : (backTo pos (starEach [t] X.env)).any (·.1) = false := by rfl) :
    DE X (.Call (.Name "isinstance" p) [a, t] [] pos) (mBo (mIsX c b m)) := by
  obtain ⟨ta, pa, ra⟩ := h.run
  refine ⟨_, pe_callB call_isX hg hm (by decide +kernel) (pa_cons pa (pa_cons pc.pe pa_nil he2) he) (by decide) (by decide) he hpl, fun σ s env P o env' a1 a2 a3 Q hq => ?_⟩
  unfold mBo at a3
  split at a3
  · cases a3
  rename_i r e1 q1
  cases a3
  unfold mIsX at q1
  split at q1
  · cases q1
  rename_i av e2 q2
  split at q1
  · rename_i c' ds q3
    split at q1
    · rename_i hc
      subst hc
      cases q1
      refine ra σ s env P av _ a1 a2 q2 _ fun v s1 P1 R b1 b2 b3 b4 b5 => ?_
      obtain ⟨w, W, e0, rd⟩ := (b2.read b1 (os := [.eX c' ds]) (by simp [resolve, q3])).one
      cases e0
      obtain ⟨x, C', od, rfl, _, g2, g3, _, g5⟩ := eX_read rd
      rw [N] at g3
      cases g3
      exact ⟨x, C, od, cv, u, b, rfl, g2, g5, T, fun w r => pc.cv.eq r, hk, postE_plain hq b1 (b4.sub fun _ z => .inl z) (b5.sub fun _ z => .inl z) (.bl _)⟩
    · cases q1
  · cases q1
def rIsXT (K : PySem.W.Frag) : List V → Hp → VK → Prop := fun xs H Q => ∃ (a C tp : Addr) (od : Option Addr) (cs : List V) (us : List Value) (b : Bool), xs = [.ref a, .ref tp] ∧ Rd H a (exH C od a) ∧ (od = none ∨ ∃ dx vs, od = some dx ∧ Rd H dx (.xd vs)) ∧ XCls K C ∧ H tp = some (.tup cs) ∧ Paired ClsV cs us ∧ PySem.W.kitAny K (.ref C) us = some b ∧ Q (.bl b) H
theorem call_isXT : CallR X (.builtin "isinstance") (rIsXT X.K) := by
  intro pins s σ H xs us Q I r h
  obtain ⟨a, C, tp, od, cs, ws, b, rfl, h1, h2, T, hT, k, hk, q⟩ := h
  obtain ⟨u1, u2, rfl, r1, r2⟩ := vals2 r
  cases (show u2 = Value.ref tp from r2)
  cases (show u1 = Value.ref a from r1)
  obtain ⟨oe, oo, J, _, _⟩ := inst_of I h1 h2
  obtain ⟨_, its, rv, o, g1, g2, n, g3⟩ := (show ObjOk X.prog X.w H s.heap tp (.tup cs) from I.hok tp _ hT)
  have e3 := ClsV.all k rv
  subst e3
  obtain ⟨oc, od', dt, sl⟩ := o
  simp only at g2 g3
  subst g2 g3
  exact PySem.W.kia_tup (PySem.W.kitx_exc T.cl T.ga T.gg T.exC T.ca T.hn T.ht T.hm) I.kIn J g1 hk (fun z => nomatch z) fun tk => ⟨.bl b, H, I.tok tk, rfl, q⟩
theorem DE.isxT {c : Str} {b : Bool} {m : MV} {ts : List Expr} {C : Addr} {cs : List V} {us : List Value} {tb : TA} (hg : Gl X "isinstance") (hm : X.mg "isinstance" = none) (h : DV X a m) (pc : PCs X ts cs us tb) (N : PySem.W.nsIn X.K mainGlobals c = some (some (.ref C))) (T : XCls X.K C) (hk : PySem.W.kitAny X.K (.ref C) us = some b) (hz : cs.length ≤ 100)
    (he : starEach [a, .Tuple ts kk tpos] X.env = (false, eval a X.env) :: starEach [.Tuple ts kk tpos] X.env := by rfl) (he2 : starEach [.Tuple ts kk tpos] X.env = (false, eval (.Tuple ts kk tpos) X.env) :: starEach [] X.env := by rfl) (hpl : (backTo pos (starEach [.Tuple ts kk tpos] X.env)).any (·.1) = false := by rfl) :
    DE X (.Call (.Name "isinstance" p) [a, .Tuple ts kk tpos] [] pos) (mBo (mIsX c b m)) := by
  obtain ⟨ta, pa, ra⟩ := h.run
  refine ⟨_, pe_callB call_isXT hg hm (by decide +kernel) (pa_cons pa (pa_cons (pe_tup (pos := tpos) (x1 := kk) pc.pa) pa_nil he2) he) (by decide) (by decide) he hpl, fun σ s env P o env' a1 a2 a3 Q hq => ?_⟩
  unfold mBo at a3
  split at a3
  · cases a3
  rename_i r e1 q1
  cases a3
  unfold mIsX at q1
  split at q1
  · cases q1
  rename_i av e2 q2
  split at q1
  · rename_i c' ds q3
    split at q1
    · rename_i hc
      subst hc
      cases q1
      refine ra σ s env P av _ a1 a2 q2 _ fun v s1 P1 R b1 b2 b3 b4 b5 => ?_
      refine pc.read ⟨Nat.le_trans hz (by rw [sizeLine_eq]; decide), fun q hp => ?_⟩
      have x0 : Ext fE s1 fE ⟨upd s1.H q (.tup cs), fU s1.Z (f1 q)⟩ := Ext.newz hp
      have x1 : Ext (fU P1 R) s1 (fU P1 R) ⟨upd s1.H q (.tup cs), fU s1.Z (f1 q)⟩ := Ext.newz hp
      have k := x0.kp (R := fU P1 R) (fun _ z => z.elim) b4
      have ow := x0.ownR (R := fU P1 R) (fun _ z => z.elim) b4
      obtain ⟨w, W, e0, rd⟩ := ((b2.mono k.r).read (b1.mono k.l) (os := [.eX c' ds]) (by simp [resolve, q3])).one
      cases e0
      obtain ⟨x, C', od, rfl, _, g2, g3, _, g5⟩ := eX_read rd
      rw [N] at g3
      cases g3
      exact ⟨x, C, q, od, cs, us, b, rfl, g2, g5, T, upd_same, pc.pd, hk, postE_plain hq (b1.mono k.l) (ow.sub fun _ z => .inl z) ((b5.trans x1).sub fun _ z => .inl z) (.bl _)⟩
    · cases q1
  · cases q1
/-! ### e.f -/
def mFld (c f : Str) (m : MV) : ME := fun env => match m env with
  | none => none
  | some (a, e1) => match resolve1 e1 a with
    | some (.eX c' ds) => if c' = c then (ds.lookup f).map fun d => (.fz d, e1) else none
    | _ => none
theorem DE.fld {c f : Str} {m : MV} {C : Addr} (h : DV X e m) (N : PySem.W.nsIn X.K mainGlobals c = some (some (.ref C))) (T : XCls X.K C) (hno : PySem.W.findIn X.K (.ref C) f = some none) (hb : attributeBase e f X.env (eval e X.env) = eval e X.env := by rfl) : DE X (.Attribute e f pos) (mFld c f m) := by
  obtain ⟨ta, pa, ra⟩ := h.run
  refine ⟨fun σ H Q => ta σ H fun x H1 => ∃ (a dx : Addr) (vs : List (Str × V)) (v : V), x = .ref a ∧ Rd H1 a (exH C (some dx) a) ∧ Rd H1 dx (.xd vs) ∧ vs.lookup f = some v ∧ Q v H1, ⟨fun pins s σ H Q I hq => ?_⟩, fun σ s env P o env' a1 a2 a3 Q hq => ?_⟩
  · refine attr_of hb (thn (pa.run pins s σ H _ I hq) fun u s1 ⟨x, H1, I1, rx, a, dx, vs, v, ex, g1, g2, l, q⟩ => ?_)
    subst ex
    obtain rfl : u = Value.ref a := rx
    obtain ⟨oe, oo, J, _, J3⟩ := inst_of I1 g1 (.inr ⟨dx, vs, rfl, g2⟩)
    obtain ⟨ob, mA, rfl, ho, hns, rel⟩ := J3 dx vs rfl g2
    obtain ⟨od, ho', hl⟩ := lookIn_ns hns
    rw [ho] at ho'
    cases ho'
    obtain ⟨w, hw, rw_⟩ := RelO.some_of (v := v) (o := mA f) (by rw [← l]; exact rel f)
    exact HandSPX.exc_get I1.kIn J T.ga T.gg T.exC (PySem.W.findObj_own T.hdC hno rfl (by rw [hl, hw])) (handed_of rw_) ⟨v, H1, I1.tok _, rw_, q⟩
  · unfold mFld at a3
    split at a3
    · cases a3
    rename_i av e2 q2
    split at a3
    · rename_i c' ds q3
      split at a3
      · rename_i hc
        subst hc
        obtain ⟨d, q4, q5⟩ := Option.map_eq_some_iff.mp a3
        cases q5
        refine ra σ s env P av _ a1 a2 q2 _ fun v s1 P1 R b1 b2 b3 b4 b5 => ?_
        obtain ⟨w, W, e0, rd⟩ := (b2.read b1 (os := [.eX c' ds]) (by simp [resolve, q3])).one
        cases e0
        obtain ⟨x, C', od, rfl, _, g2, g3, g4, _⟩ := eX_read rd
        rw [N] at g3
        cases g3
        rcases g4 with ⟨_, g4⟩ | ⟨dx, vs, rfl, _, g6, g7⟩
        · subst g4; simp [List.lookup] at q4
        · obtain ⟨w, l, rw_⟩ := g7 f d q4
          exact ⟨x, dx, vs, w, rfl, g2, g6, l, hq w s1 P1 fE b1 (.fz rw_) (fun _ _ z => z) (by rw [fU_eq]; exact b4.sub fun _ z => .inl z) (by rw [fU_eq]; exact b5.sub fun _ z => .inl z)⟩
      · cases a3
    · cases a3
end
end G
namespace G
open PySem PySem.Spec PyProof.Rows L2
/-- a def of a class's body -/
def clsDef (s : Stmt) (j : Nat) : Stmt := match s with
  | .ClassDef (body := b) .. => b.getD j (.Pass ⟨0, 0, 0, 0⟩)
  | _ => .Pass ⟨0, 0, 0, 0⟩
theorem kit_own {K : PySem.W.Frag} {C D : Addr} {b : Bool} (hc : PySem.W.isClsIn K D = true) (ht : PySem.W.typeIn K (.ref D) = some (.type "type")) (hs : PySem.W.subIn K (.ref C) (.ref D) = some b) (self : PySem.W.subIn K (.ref C) (.ref C) = some true) : PySem.W.kitOne K (.ref C) (.ref D) = some b := by
  have h2 : (PySem.W.clsIn K D).isSome = true := hc
  have e2 : ((PySem.W.clsIn K D).isSome && PySem.W.typeIn K (.ref D) == some (.type "type")) = true := by rw [h2, ht] <;> rfl
  unfold PySem.W.kitOne
  split
  · rename_i z
    have e : C = D := Value.ref.inj (beq_iff_eq.mp z)
    subst e
    rw [self] at hs
    exact hs
  · show (if ((PySem.W.clsIn K D).isSome && PySem.W.typeIn K (.ref D) == some (.type "type")) = true then PySem.W.subIn K (.ref C) (.ref D) else none) = some b
    rw [if_pos e2]; exact hs
theorem kit_blt {K : PySem.W.Frag} {C : Addr} {T : String} {b : Bool} (hm : PySem.W.kitMeta T = true) (hs : PySem.W.subIn K (.ref C) (.type T) = some b) : PySem.W.kitOne K (.ref C) (.type T) = some b := by
  unfold PySem.W.kitOne
  rw [if_neg (fun z => by have := beq_iff_eq.mp z; cases this)]
  show (if PySem.W.kitMeta T = true then PySem.W.subIn K (.ref C) (.type T) else none) = some b
  rw [if_pos hm]; exact hs
theorem exm_selfX {K : PySem.W.Frag} {S : Addr} (h1 : PySem.W.subIn K (.ref S) (.type "BaseException") = some true) (h2 : PySem.W.isClsIn K S = true) (h3 : PySem.W.typeIn K (.ref S) = some (.type "type")) (h4 : PySem.W.subIn K (.ref S) (.ref S) = some true) : PySem.W.exmOne K (.ref S) (.ref S) = some true := by
  have h2' : (PySem.W.clsIn K S).isSome = true := h2
  have e2 : ((PySem.W.clsIn K S).isSome && PySem.W.typeIn K (.ref S) == some (.type "type")) = true := by rw [h2', h3] <;> rfl
  show (if (PySem.W.subIn K (.ref S) (.type "BaseException") == some true) = true then (if ((PySem.W.clsIn K S).isSome && PySem.W.typeIn K (.ref S) == some (.type "type")) = true then PySem.W.subIn K (.ref S) (.ref S) else none) else none) = some true
  rw [if_pos (show (PySem.W.subIn K (.ref S) (.type "BaseException") == some true) = true by rw [h1] <;> rfl), if_pos e2]; exact h4
end G
namespace G
open PySem PySem.Spec PyProof.Rows L2

/-! ### tuples that own what they hold, and their targets -/
def mTupO (m : MA) : ME := fun env => match m env with
  | none => none
  | some (as, e1) => match parA e1 as with
    | none => none
    | some (os, e2) => if os.length ≤ lim then some (.oT os, e2) else none
theorem RepOs.length {K : PySem.W.Frag} {s : S} : ∀ {os : List OV} {vs : List V} {P : FP}, RepOs K s os vs P → vs.length = os.length
  | _, _, _, .nil => rfl
  | _, _, _, .cons _ t _ => by rw [List.length_cons, List.length_cons, t.length]
theorem RepL.toOs {K : PySem.W.Frag} {s : S} : ∀ {vs : List V} {ds : List D}, RepL K s vs ds → RepOs K s (ds.map .fz) vs fE
  | _, _, .nil => .nil
  | _, _, .cons h t => by
    have r : RepOs K s (.fz _ :: _) (_ :: _) (fU fE fE) := .cons (.fz h) t.toOs fun _ z => z.elim
    have e : fU fE fE = fE := funext fun a => propext ⟨fun z => z.elim id id, .inl⟩
    rwa [e] at r
section
variable {X : Cx} {a b e : Expr} {es : List Expr} {pos p : Pos} {m : MA} {k : Nat}
theorem DE.tupO {kk : Nat} (hA : DA X es m) : DE X (.Tuple es kk pos) (mTupO m) := by
  obtain ⟨ts, h1, h2, h3⟩ := hA.run
  refine ⟨_, pe_tupG h2, fun σ s env P o env' a1 a2 a3 Q hq => ?_⟩
  unfold mTupO at a3
  split at a3
  · cases a3
  · rename_i as e1 q1
    split at a3
    · cases a3
    · rename_i os e2 q2
      split at a3
      · rename_i hz
        cases a3
        refine h3 σ s env P as e1 a1 a2 q1 _ fun vs s1 P1 R b1 b2 b3 b4 b5 => ?_
        obtain ⟨s2, P2, R2, c1, c2, c3, c4, c5, c6⟩ := parA_ok b2 b1 b3 b4 q2
        refine ⟨by rw [c3.length]; exact le_line hz, fun p o n hp => ?_⟩
        rw [← c1] at hp ⊢
        have x : Ext (fU P2 R2) s2 (fU P2 R2) ⟨upd s2.H p (.frz o (.tup vs)), fU s2.Z (f1 p)⟩ := Ext.newz hp
        have kp : Kp (fU P2 R2) s2 ⟨upd s2.H p (.frz o (.tup vs)), fU s2.Z (f1 p)⟩ := ⟨x.fz, fun a z => upd_ne fun q => (c5.o a z).2 (by rw [q]; exact hp)⟩
        have w : Own (fU P2 R2) (⟨upd s2.H p (.frz o (.tup vs)), fU s2.Z (f1 p)⟩ : S) := ⟨fun a z => ⟨fun y => y.elim (c5.o a z).1 fun q => (c5.o a z).2 (by rw [show a = p from q]; exact hp), fun q => (c5.o a z).2 (x.dom a q)⟩, fun a z => (x.wf a z).elim (fun z q => c5.w a z (x.dom a q)) id⟩
        exact hq (.ref p) _ P2 R2 (c2.mono kp.l) (.oT (.inr rfl) (.inr ⟨o, upd_same⟩) (RepOs.mono _ _ _ c3 kp.r)) c4 w ((b5.trans c6).trans x)
      · cases a3
end
/-! ### targets that take what is owned -/
abbrev MGO := OV → Env → Option Env
structure DGO (X : Cx) (ts : List Nat) (tg : Expr) (m : MGO) : Prop where
  run : ∃ g, PG X tg g ∧ ∀ σ s env P R o v env', EnvOk X.K s σ env P → RepO X.K s o v R → Dis P R → Own (fU P R) s → m o env = some env' →
    ∀ Q : L2.St → Hp → Prop, (∀ σ' P', EnvOk X.K s σ' env' P' → (∀ a, P' a → fU P R a) → Ch ts σ σ' → Q σ' s.H) → g v σ s.H Q
def gNmO (i : Nat) : MGO := fun o env => if i < env.length then some (env.set i (some o)) else none
abbrev MGOs := List OV → Env → Option Env
structure DGOs (X : Cx) (ts : List Nat) (tgs : List Expr) (m : MGOs) : Prop where
  run : ∃ g, PGs X tgs g ∧ ∀ σ s env P R os vs env', EnvOk X.K s σ env P → RepOs X.K s os vs R → Dis P R → Own (fU P R) s → m os env = some env' →
    ∀ Q : L2.St → Hp → Prop, (∀ σ' P', EnvOk X.K s σ' env' P' → (∀ a, P' a → fU P R a) → Ch ts σ σ' → Q σ' s.H) → g vs σ s.H Q
def gsNilO : MGOs := fun ds env => match ds with
  | [] => some env
  | _ => none
def gsConsO (g : MGO) (r : MGOs) : MGOs := fun ds env => match ds with
  | d :: ds => match g d env with
    | none => none
    | some e1 => r ds e1
  | [] => none
def gTpO (n : Nat) (r : MGOs) : MGO := fun o env => match o with
  | .oT os => if os.length = n then r os env else none
  | .fz (.tuple ds) => if ds.length = n then r (ds.map .fz) env else none
  | _ => none
def mAsgO (g : MGO) (m : ME) : MS := fun env => match m env with
  | none => none
  | some (o, e1) => match g o e1 with
    | none => none
    | some e2 => some (.nx e2)
section
variable {X : Cx} {fx : List Nat} {e tg : Expr} {pos : Pos}
theorem DGO.nm (i : Nat) {x : Str} {pos : Pos} (hN : X.N.Nodup) (hi : X.N[i]? = some x := by rfl) (hx : Loc X.env.scope x := by first | exact Or.inl rfl | exact Or.inr rfl) (hf : X.fn x = true ∨ X.env.scope.names.lookup x = some .local := by first | exact .inl rfl | exact .inr rfl) : DGO X [i] (.Name x pos) (gNmO i) := by
  refine ⟨_, pg_name hN hi hx hf, fun σ s env P R o v env' a1 a2 a3 w a4 Q hq => ?_⟩
  unfold gNmO at a4
  split at a4
  · rename_i hl
    cases a4
    obtain ⟨P', b1, b2⟩ := a1.put hl a2 a3
    exact hq _ P' b1 b2 ⟨by simp, fun j h => List.getElem?_set_ne fun e => h (by simp [e])⟩
  · cases a4
theorem DGOs.nil : DGOs X [] [] gsNilO := ⟨_, pgs_nil, fun σ s env P R os vs env' a1 a2 a3 w a4 Q hq => by
  cases a2 with
  | nil => cases a4; exact ⟨rfl, hq σ P a1 (fun _ z => .inl z) ⟨rfl, fun _ _ => rfl⟩⟩
  | cons _ _ _ => cases a4⟩
theorem DGOs.cons {ts us : List Nat} {tg : Expr} {tgs : List Expr} {g : MGO} {r : MGOs} (h : DGO X ts tg g) (hr : DGOs X us tgs r) (hs : (assignEach (tg :: tgs) X.env).map (·.2) = assign tg X.env :: (assignEach tgs X.env).map (·.2) := by rfl) : DGOs X (ts ++ us) (tg :: tgs) (gsConsO g r) := by
  obtain ⟨t, hp, h1⟩ := h.run
  obtain ⟨u, gp, h2⟩ := hr.run
  refine ⟨_, pgs_cons hp gp hs, fun σ s env P R os vs env' a1 a2 a3 w a4 Q hq => ?_⟩
  cases a2 with
  | nil => cases a4
  | cons r1 r2 d1 =>
    unfold gsConsO at a4
    simp only at a4
    split at a4
    · cases a4
    rename_i e1 q1
    refine ⟨_, _, rfl, h1 σ s env P _ _ _ e1 a1 r1 (fun a z y => a3 a z (.inl y)) (w.sub fun a z => z.elim .inl fun z => .inr (.inl z)) q1 _ fun σ1 P1 b1 b2 b3 => ?_⟩
    exact h2 σ1 s e1 P1 _ _ _ env' b1 r2 (fun a z y => (b2 a z).elim (fun z => a3 a z (.inr y)) fun z => d1 a z y) (w.sub fun a z => z.elim (fun z => (b2 a z).elim .inl fun z => .inr (.inl z)) fun z => .inr (.inr z)) a4 Q fun σ2 P2 c1 c2 c3 => hq σ2 P2 c1 (fun a z => (c2 a z).elim (fun z => (b2 a z).elim .inl fun z => .inr (.inl z)) fun z => .inr (.inr z)) ⟨c3.len.trans b3.len, fun j n => by
      rw [List.mem_append, not_or] at n
      exact (c3.same j n.2).trans (b3.same j n.1)⟩
theorem DGO.tup {ts : List Nat} {tgs : List Expr} {r : MGOs} {kk : Nat} (n : Nat) (hc : X.calm = true) (h : DGOs X ts tgs r) (hn : (assignEach tgs X.env).length = n := by rfl) (hst : (assignEach tgs X.env).findIdx? (·.1) = none := by rfl) : DGO X ts (.Tuple tgs kk pos) (gTpO n r) := by
  obtain ⟨g, hp, hr⟩ := h.run
  refine ⟨_, pg_tup hc hp hn hst, fun σ s env P R o v env' a1 a2 a3 w a4 Q hq => ?_⟩
  unfold gTpO at a4
  split at a4
  · split at a4
    · rename_i hl
      cases a2 with
      | oT h1 h2 h3 => exact ⟨_, _, rfl, .inl h2, by rw [h3.length]; exact hl, hr σ s env P R _ _ env' a1 h3 a3 w a4 Q hq⟩
    · cases a4
  · split at a4
    · rename_i hl
      cases a2 with
      | fz h0 =>
        cases h0 with
        | tup h1 h2 _ => exact ⟨_, _, rfl, h1.sq, by rw [h2.length]; exact hl, hr σ s env P fE _ _ env' a1 h2.toOs a3 w a4 Q hq⟩
    · cases a4
  · cases a4
theorem DS.asgO {ts : List Nat} {g : MGO} {m : ME} (h : DE X e m) (hg : DGO X ts tg g) (hfx : ∀ i ∈ fx, i ∉ ts := by decide) (hs : swapsWithSole [tg] e pos.line X.env = pure false := by rfl) (hw : swappedStores [tg] e X.env = pure none := by rfl)
    (h1 : (assignEach [tg] X.env).map (·.2) = [assign tg X.env] := by rfl) : DS X fx (.Assign [tg] e pos) (mAsgO g m) := by
  obtain ⟨t, hp, hr⟩ := h.run
  obtain ⟨u, gp, gr⟩ := hg.run
  refine ⟨_, ps_asg hp gp hs hw h1, fun σ s env P out a1 a2 a3 D hq => ?_⟩
  unfold mAsgO at a3
  split at a3
  · cases a3
  rename_i o e1 q1
  split at a3
  · cases a3
  rename_i e2 q3
  cases a3
  refine hr σ s env P o e1 a1 a2 q1 _ fun v s1 P1 R b1 b2 b3 b4 b5 => ?_
  refine gr σ s1 e1 P1 R o v e2 b1 b2 b3 b4 q3 _ fun σ' P' c1 c2 c3 => ?_
  exact hq σ' s1 P' c1 (b4.sub c2) (b5.sub c2) (c3.toFx hfx)
end
/-! ### for x in L of an own list that stays owned -/
open Classical in
noncomputable def mLoopC (j : Nat) (D0 : List D) (g : MG) (mb : MS) : List D → Env → Option Out
  | [], e => some (.nx e)
  | d :: ds, e => match g d e with
    | none => none
    | some e1 => match mb e1 with
      | some (.nx e2) => if lk e2 j = some (.oL D0) then mLoopC j D0 g mb ds e2 else none
      | some (.ct e2) => if lk e2 j = some (.oL D0) then mLoopC j D0 g mb ds e2 else none
      | some (.bk e2) => some (.nx e2)
      | x => x
noncomputable def mForO (j : Nat) (g : MG) (mb : MS) : MS := fun env => match lk env j with
  | some (.oL ds) => mLoopC j ds g mb ds env
  | _ => none
section
variable {X : Cx} {fx : List Nat} {tg : Expr} {pos : Pos}
theorem pi_var {x : Str} {px : Pos} (j : Nat) (hN : X.N[j]? = some x) (hv : Vis X.env.scope x) (hd : (x == ("__debug__" : Str)) = false) (hcd : (x == ("__classdict__" : Str)) = false) :
    PI X tg (.Name x px) fun σ H R => tVar j σ H fun x H1 => (∃ a xs, x = .ref a ∧ SqL X.K H1 a xs ∧ R (Itl X.K a) H1) ∨ (∃ a xs, x = .ref a ∧ SqT X.K H1 a xs ∧ R (Itt X.K a) H1) ∨ ∃ z, x = .str z ∧ R (Its z) H1 :=
  ⟨fun pins s σ H R I hq => thn ((pe_var hN hv hd hcd).run pins s σ H _ I hq) fun u s1 ⟨x, H1, I1, r1, q1⟩ => it_seq I1 r1 q1⟩
theorem DS.forO {ts : List Nat} {g : MG} {mb : MS} {body : List Stmt} {x : Str} {px : Pos} (j : Nat) (hps : PassesOwn (model X.prog X.w) X.A X.env X.xe) (hc : X.calm = true) (hg : DG X ts tg g) (hb : DSs X fx body mb)
    (hN : X.N[j]? = some x := by rfl) (hx : Vis X.env.scope x := by first | exact Or.inl rfl | exact Or.inr (Or.inl rfl) | exact Or.inr (Or.inr rfl))
    (hd : (x == ("__debug__" : Str)) = false := by decide) (hcd : (x == ("__classdict__" : Str)) = false := by decide) (hfx : ∀ i ∈ fx, i ∉ ts := by decide) (hj : j ∈ fx := by decide)
    (hs : ∀ y, foldedSetIterable (.Name x px) X.env y = pure y := by exact fun _ => rfl) : DS X fx (.For tg (.Name x px) body [] pos) (mForO j g mb) := by
  obtain ⟨tgg, gp, gr⟩ := hg.run
  obtain ⟨tb, bp, br⟩ := hb.run
  refine ⟨_, ps_for hps hc (pi_var j hN hx hd hcd) gp bp hs, fun σ s env P out a1 a2 a3 D hq => ?_⟩
  unfold mForO at a3
  split at a3
  · rename_i ds q1
    obtain ⟨v, Po, R, h1, h2, h3, h4, h5, h6⟩ := a1.get q1
    cases h2 with
    | @oL a vs _ g1 g2 =>
    -- the list at every later state
    have at_ : ∀ {σ' : L2.St} {s' : S} {P' : FP} {env' : Env}, EnvOk X.K s' σ' env' P' → Fx fx σ σ' → lk env' j = some (.oL ds) → ∃ xs, s'.H a = some (.lst xs) ∧ RepL X.K s' xs ds := fun c1 c4 q => by
      obtain ⟨v', Po', R', k1, k2, _⟩ := c1.get q
      rw [c4 j hj, h1] at k1
      cases k1
      cases k2 with
      | oL z1 z2 => exact ⟨_, z1, z2⟩
    refine ⟨_, h1, .inl ⟨a, vs, rfl, .inl (.inl g1), ?_⟩⟩
    refine ⟨fun i m σ' H' => m = ds.length - i ∧ ∃ s' P' env', s'.H = H' ∧ EnvOk X.K s' σ' env' P' ∧ Own P' s' ∧ Ext P s P' s' ∧ Fx fx σ σ' ∧ lk env' j = some (.oL ds) ∧ mLoopC j ds g mb (ds.drop i) env' = some out, ⟨_, rfl, s, P, env, rfl, a1, a2, .refl _ _, .refl _ _, q1, a3⟩, ?_⟩
    rintro i m σ' H' ⟨rfl, s', P', env', rfl, c1, c2, c3, c4, c0, c5⟩
    obtain ⟨xs, l1, l2⟩ := at_ c1 c4 c0
    have sq : SqL X.K s'.H a xs := .inl (.inl l1)
    by_cases hi : i < ds.length
    · right
      have ed : ds[i]? = some ds[i] := by simp [hi]
      rw [List.drop_eq_getElem_cons hi] at c5
      obtain ⟨w, f1, f2⟩ := l2.get' ed
      refine ⟨⟨xs, w, sq, f1⟩, fun σ2 H2 => ∃ m', m' < ds.length - i ∧ (m' = ds.length - (i + 1) ∧ ∃ s' P' env', s'.H = H2 ∧ EnvOk X.K s' σ2 env' P' ∧ Own P' s' ∧ Ext P s P' s' ∧ Fx fx σ σ2 ∧ lk env' j = some (.oL ds) ∧ mLoopC j ds g mb (ds.drop (i + 1)) env' = some out), fun _ _ z => z, fun x H2 y => ?_⟩
      obtain ⟨e3, e4⟩ := y
      have e5 := e4 xs sq
      rw [f1] at e5
      cases e5
      subst e3
      unfold mLoopC at c5
      split at c5
      · cases c5
      rename_i e2 q2
      refine gr σ' s' env' P' _ w e2 c1 c2 f2 q2 _ fun σ3 P3 k1 k2 k3 => ?_
      have ow3 := c2.sub k2
      have xx := c3.sub k2
      have ff := c4.trans (k3.toFx hfx)
      have again : ∀ e4, lk e4 j = some (.oL ds) → mLoopC j ds g mb (ds.drop (i + 1)) e4 = some out → Nx X.K fx σ3 s' P3 e4 fun σ2 H2 => ∃ m', m' < ds.length - i ∧ (m' = ds.length - (i + 1) ∧ ∃ s' P' env', s'.H = H2 ∧ EnvOk X.K s' σ2 env' P' ∧ Own P' s' ∧ Ext P s P' s' ∧ Fx fx σ σ2 ∧ lk env' j = some (.oL ds) ∧ mLoopC j ds g mb (ds.drop (i + 1)) env' = some out) :=
        fun e4 q0 q4 σ5 s5 P5 g1 g2 g3 g4 => ⟨_, by omega, rfl, s5, P5, e4, rfl, g1, g2, xx.trans g3, ff.trans g4, q0, q4⟩
      split at c5
      · rename_i e4 q4
        split at c5
        · rename_i q0
          exact br σ3 s' e2 P3 _ k1 ow3 q4 _ (again e4 q0 c5)
        · cases c5
      · rename_i e4 q4
        split at c5
        · rename_i q0
          exact br σ3 s' e2 P3 _ k1 ow3 q4 _ (again e4 q0 c5)
        · cases c5
      · rename_i e4 q4
        cases c5
        refine br σ3 s' e2 P3 _ k1 ow3 q4 _ ?_
        exact Nx.step (show Nx X.K fx σ s P e4 D.nx from hq) xx ff
      · rename_i n1 n2 n3
        refine br σ3 s' e2 P3 out k1 ow3 c5 _ ?_
        cases out with
        | nx e => exact (n1 e c5).elim
        | ct e => exact (n2 e c5).elim
        | bk e => exact (n3 e c5).elim
        | rt o e => exact Rt.step (show Rt X.K fx σ s P o e D.rt from hq) xx ff
    · left
      have e0 : ds.drop i = [] := List.drop_eq_nil_of_le (by omega)
      rw [e0] at c5
      cases c5
      exact ⟨⟨xs, sq, by rw [l2.length]; omega⟩, (show Nx X.K fx σ s P env' D.nx from hq) σ' s' P' c1 c2 c3 c4⟩
  · cases a3
end
end G
namespace G
open PySem PySem.Spec PyProof.Rows L2

/-! ### NAME.get(e, x) of a written dict with text keys -/
inductive WEs (K : PySem.W.Frag) (P : Params) : List DictEntry → List (Str × D) → Prop
  | nil : WEs K P [] []
  | cons {e : DictEntry} {x : Str} {t : Tok} {d : D} {es : List DictEntry} {ds : List (Str × D)} : e.key = .str x t → e.hash = PyData.keyHash P x → KRep K e.val d → WEs K P es ds → WEs K P (e :: es) ((x, d) :: ds)
structure WDict (K : PySem.W.Frag) (w : World) (a : Addr) (tbl : List (Str × D)) : Prop where
  ex : ∃ es n, K.lookup a = some ⟨.type "dict", none, .dict es n, #[]⟩ ∧ WEs K w.params es.toList tbl
  low : (a == sysModules) = false
theorem WEs.lit {K : PySem.W.Frag} {P : Params} : ∀ {es : List DictEntry} {ds : List (Str × D)}, WEs K P es ds → PySem.W.KeysLit P es
  | _, _, .nil => trivial
  | _, _, .cons h1 h2 _ t => ⟨⟨_, _, h1, h2⟩, t.lit⟩
def lkS (ds : List (Str × D)) (z : Str) : Option D := (ds.find? fun p => p.1 == z).map (·.2)
theorem WEs.find {K : PySem.W.Frag} {P : Params} (z : Str) : ∀ {es : List DictEntry} {ds : List (Str × D)}, WEs K P es ds →
    (∃ d v u, (es.find? fun e => Value.isStrOf z e.key).map (·.val) = some u ∧ RelV v u ∧ (∀ s : S, Rep K s v d) ∧ lkS ds z = some d) ∨ ((es.find? fun e => Value.isStrOf z e.key).map (·.val) = none ∧ lkS ds z = none)
  | _, _, .nil => .inr ⟨rfl, rfl⟩
  | _, _, .cons (e := e) (x := x) (t := t) (d := d) (es := es) (ds := ds) h1 h2 h3 hr => by
    have k1 : Value.isStrOf z e.key = (x == z) := by rw [h1]; rfl
    unfold lkS
    rw [List.find?_cons, List.find?_cons, k1]
    cases hx : x == z with
    | true =>
      obtain ⟨v, r, q⟩ := h3
      have hx' : ((x, d).1 == z) = true := hx
      simp only [hx']
      exact .inl ⟨d, v, e.val, rfl, r, q, rfl⟩
    | false =>
      have hx' : ((x, d).1 == z) = false := hx
      simp only [hx']
      exact hr.find z
theorem pe_getW {X : Cx} {a : Addr} {x : Str} {px apos cpos : Pos} {e f : Expr} {te tf : TE} {tbl : List (Str × D)} (hd : WDict X.K X.w a tbl) (hg : Gl X x) (hm : X.mg x = some (.ref a)) (he : PE X e te) (hf : PE X f tf) (m : M2 X (.Name x px) "get" apos e f cpos) (hdb : (x == ("__debug__" : Str)) = false := by decide) :
    PE X (.Call (.Attribute (.Name x px) "get" apos) [e, f] [] cpos) fun σ H Q => te σ H fun y H1 => tf σ H1 fun z H2 => ∃ k, y = .str k ∧ (∀ d v, lkS tbl k = some d → (∀ s : S, Rep X.K s v d) → Q v H2) ∧ (lkS tbl k = none → Q z H2) := by
  refine ⟨fun pins s σ H Q I h => ?_⟩
  obtain ⟨es, n, hl, hw⟩ := hd.ex
  have mo : ∀ {H' : Hp} {s' : Shared}, Inv X pins σ H' s' → s'.heap.MapOf (strKind X.prog X.w) a (fun k => findBy Value.isStrOf es k) := fun I' => PySem.W.mapOf_K (prog := X.prog) (w := X.w) I'.kIn hl hw.lit
  refine wpAny_Call_method m.base m.few m.line PySem.F.plainAttrs_dict PySem.F.slot_dict_get PySem.F.type_dict_get (thn ((pe_glob hg hm (v := .ref a) rfl hdb).run pins s σ H (fun x H1 => x = .ref a ∧ te σ H1 fun y H1 => tf σ H1 fun z H2 => ∃ k, y = .str k ∧ (∀ d v, lkS tbl k = some d → (∀ s : S, Rep X.K s v d) → Q v H2) ∧ (lkS tbl k = none → Q z H2)) I ⟨rfl, h⟩) fun u s1 ⟨x1, H1, I1, rx, ex, q1⟩ => ?_)
  subst ex
  obtain rfl : u = Value.ref a := rx
  refine ⟨(mo I1).typeIs, fun b q => ?_, ?_⟩
  · cases q
    exact ⟨_, I1.kIn _ _ hl, rfl⟩
  rw [m.trees]
  refine Calls.callWith_builtin rfl (Calls.evalArgs_plain (Calls.spliced_cons (thn (he.run pins s1 σ H1 _ I1 q1) fun iv s2 ⟨y, H2, I2, ry, q2⟩ =>
    Calls.spliced_cons (thn (hf.run pins s2 σ H2 _ I2 q2) fun fv s3 ⟨z, H3, I3, rz, k, ey, q3⟩ => Calls.spliced_nil ?_))))
  subst ey
  obtain ⟨t, rfl⟩ := (show ∃ t, iv = Value.str k t from ry)
  refine call_meetsIn PySem.F.slot_dict_get (mo I3).typeIs PySem.F.entry_dict_get (PySem.F.args_dict_get_3 _ _ _) (meets_dict_get_default (strKind X.prog X.w) a (strKind_is X.prog X.w k t) hd.low fv) ⟨_, mo I3, ?_⟩
  have ff : findBy Value.isStrOf es k = (es.toList.find? fun e => Value.isStrOf k e.key).map (·.val) := by
    obtain ⟨l⟩ := es
    unfold findBy
    rw [List.find?_toArray]
  rw [ff]
  rcases hw.find k with ⟨d, v, u, g1, g2, g3, g4⟩ | ⟨g1, g2⟩
  · rw [g1]
    exact ⟨v, H3, I3.tok _, g2, q3.1 d v g4 g3⟩
  · rw [g1]
    exact ⟨z, H3, I3.tok _, rz, q3.2 g2⟩
def mGetW (tbl : List (Str × D)) (m : MA) : ME := fun env => match m env with
  | none => none
  | some (as, e1) => match resolve e1 as with
    | some [ok, ox] => match ok, ox with
      | .fz (.str z), .fz d => some (.fz ((lkS tbl z).getD d), e1)
      | _, _ => none
    | _ => none
theorem DE.getW {X : Cx} {a : Addr} {x : Str} {px apos cpos : Pos} {e f : Expr} {tbl : List (Str × D)} {m : MA} (hg : Gl X x) (hm : X.mg x = some (.ref a)) (hd : WDict X.K X.w a tbl) (hA : DA X [e, f] m) (mm : M2 X (.Name x px) "get" apos e f cpos) (hdb : (x == ("__debug__" : Str)) = false := by decide) :
    DE X (.Call (.Attribute (.Name x px) "get" apos) [e, f] [] cpos) (mGetW tbl m) := by
  obtain ⟨ts, h1, h2, h3⟩ := hA.run
  obtain ⟨ta, tb, rfl, pa, pb⟩ := h1.two (es := [])
  refine ⟨_, pe_getW hd hg hm pa pb mm hdb, fun σ s env P oo env' a1 a2 a3 Q hq => ?_⟩
  unfold mGetW at a3
  split at a3
  · cases a3
  rename_i as e1 q1
  split at a3
  · rename_i ok ox q5
    split at a3
    · rename_i z d
      cases a3
      refine h3 σ s env P as _ a1 a2 q1 (fun ys H3 => lift2 (fun y z H Q => ∃ k, y = .str k ∧ (∀ d v, lkS tbl k = some d → (∀ s : S, Rep X.K s v d) → Q v H) ∧ (lkS tbl k = none → Q z H)) ys H3 Q) fun ys s2 P2 R2 d1 d2 d3 d4 d5 => ?_
      have rd := d2.read d1 q5
      cases rd with
      | cons r1 rr =>
        cases rr with
        | cons r2 rr2 =>
          cases rr2
          cases r1 with
          | fz r1 =>
            cases r1
            cases r2 with
            | fz r2 =>
              have w2 : Own P2 s2 := d4.sub fun _ z => .inl z
              have pp : PostP X.K s2 (.fz ((lkS tbl z).getD d)) Q := hq.pure d1 w2 (d5.sub fun x z => .inl z)
              refine ⟨z, rfl, fun d' v' g1 g2 => ?_, fun g1 => ?_⟩
              · rw [g1] at pp
                exact pp.fz d4.w (g2 s2)
              · rw [g1] at pp
                exact pp.fz d4.w r2
    · cases a3
  · cases a3

/-! ### d.clear() -/
def rClr : V → List V → Hp → VK → Prop := fun x vs H Q => vs = [] ∧ ∃ a kvs, H a = some (.dK kvs) ∧ x = .ref a ∧ Q .non (upd H a (.dK []))
theorem m_clr {X : Cx} : MtR X "dict.clear" rClr := fun pins s σ H x vs v us Q I rx rv h => by
  obtain ⟨e1, a, kvs, e2, e3, q⟩ := h
  subst e1 e3
  cases rv
  cases rx
  exact d_clear I e2 fun t It => ⟨.non, _, It, rfl, q⟩
theorem pe_clr {X : Cx} {o : Expr} {to : TE} {ap cp : Pos} (ho : PE X o to) (hb : attributeBase o "clear" X.env (eval o X.env) = eval o X.env) (hl : (ap.endLine == cp.line) = true) : PE X (.Call (.Attribute o "clear" ap) [] [] cp) (tBM0 X.K "dict" rClr to) :=
  pe_bm0 PySem.F.plainAttrs_dict PySem.F.slot_dict_clear PySem.F.type_dict_clear m_clr ho hb hl
def mClr (j : Nat) : ME := fun env => match lk env j with
  | some (.oD _) => some (.fz .none, env.set j (some (.oD [])))
  | _ => none
theorem DE.clr {X : Cx} {x : Str} {px apos pos : Pos} (j : Nat)
    (hN : X.N[j]? = some x := by rfl) (hx : Vis X.env.scope x := by first | exact Or.inl rfl | exact Or.inr (Or.inl rfl) | exact Or.inr (Or.inr rfl))
    (hd : (x == ("__debug__" : Str)) = false := by decide) (hcd : (x == ("__classdict__" : Str)) = false := by decide)
    (hbase : attributeBase (.Name x px) "clear" X.env (eval (.Name x px) X.env) = eval (.Name x px) X.env := by rfl)
    (hline : (apos.endLine == pos.line) = true := by rfl) : DE X (.Call (.Attribute (.Name x px) "clear" apos) [] [] pos) (mClr j) := by
  refine ⟨_, pe_clr (pe_var hN hx hd hcd) hbase hline, fun σ s env P o env' a1 a2 a3 Q hq => ?_⟩
  unfold mClr at a3
  split at a3
  · rename_i ds q1
    cases a3
    obtain ⟨ad, vs, f1, f2, f3, f4, f5⟩ := a1.slotD a2 q1
    obtain ⟨y1, y2, y3⟩ := f5 [] [] .nil
    exact ⟨_, f1, .inr (.inr (.inl ⟨rfl, .inl ⟨_, f2⟩⟩)), rfl, ad, vs, f2, rfl, postE_plain hq y1 y2 y3 .non⟩
  · cases a3
/-- a dict in a tuple that owns it, emptied -/
theorem RepOs.clr {K : PySem.W.Frag} {s : S} : ∀ {os : List OV} {vs : List V} {P : FP} {i : Nat} {ds : List (Key × D)}, RepOs K s os vs P → os[i]? = some (.oD ds) →
    ∃ a kvs, vs[i]? = some (.ref a) ∧ s.H a = some (.dK kvs) ∧ P a ∧ (Fz s ⟨upd s.H a (.dK []), s.Z⟩ → RepOs K ⟨upd s.H a (.dK []), s.Z⟩ (os.set i (.oD [])) vs P)
  | _, _, _, i, _, .nil, e => by cases i <;> cases e
  | _, _, _, 0, _, .cons (o := o) (os := os) (v := v) (vs := vs) (P := P) (R := R) h1 h2 h3, e => by
    cases e
    cases h1 with
    | @oD a kvs _ g1 g2 =>
      refine ⟨a, kvs, rfl, g1, .inl rfl, fun f => ?_⟩
      refine RepOs.cons (RepO.oD upd_same .nil) (RepOs.mono _ _ _ h2 ⟨f, fun b z => upd_ne fun q => h3 b q z⟩) h3
  | _, _, _, i + 1, _, .cons (o := o) (os := os) (v := v) (vs := vs) (P := P) (R := R) h1 h2 h3, e => by
    obtain ⟨a, kvs, e1, e2, e3, e4⟩ := h2.clr (i := i) e
    exact ⟨a, kvs, e1, e2, .inr e3, fun f => RepOs.cons (RepO.mono _ _ _ h1 ⟨f, fun b z => upd_ne fun q => h3 b z (by rw [q]; exact e3)⟩) (e4 f) h3⟩
def mClrT (j i : Nat) : ME := fun env => match lk env j with
  | some (.oT os) => match os[i]? with
    | some (.oD _) => some (.fz .none, env.set j (some (.oT (os.set i (.oD [])))))
    | _ => none
  | _ => none
theorem atI_natT {α : Type} {xs : List α} {i : Nat} {v : α} (h : xs[i]? = some v) : L2.atI xs (i : Int) = some v := by
  have hl : i < xs.length := (List.getElem?_eq_some_iff.mp h).1
  unfold L2.atI L2.ixN
  rw [if_pos (by omega), if_pos (by omega)]
  simpa using h
theorem DE.clrT {X : Cx} {x : Str} {px pi ps apos pos : Pos} {kk : Nat} (j i : Nat)
    (hN : X.N[j]? = some x := by rfl) (hx : Vis X.env.scope x := by first | exact Or.inl rfl | exact Or.inr (Or.inl rfl) | exact Or.inr (Or.inr rfl))
    (hd : (x == ("__debug__" : Str)) = false := by decide) (hcd : (x == ("__classdict__" : Str)) = false := by decide) (hp : PlainIx (.Constant (.int i) kk pi) := by exact fun _ _ => rfl)
    (hbase : attributeBase (.Subscript (.Name x px) (.Constant (.int i) kk pi) ps) "clear" X.env (eval (.Subscript (.Name x px) (.Constant (.int i) kk pi) ps) X.env) = eval (.Subscript (.Name x px) (.Constant (.int i) kk pi) ps) X.env := by rfl)
    (hline : (apos.endLine == pos.line) = true := by rfl) : DE X (.Call (.Attribute (.Subscript (.Name x px) (.Constant (.int i) kk pi) ps) "clear" apos) [] [] pos) (mClrT j i) := by
  refine ⟨_, pe_clr (pe_ix ix_tup (pe_var hN hx hd hcd) pe_int hp) hbase hline, fun σ s env P o env' a1 a2 a3 Q hq => ?_⟩
  unfold mClrT at a3
  split at a3
  · rename_i os q1
    split at a3
    · rename_i ds q2
      cases a3
      obtain ⟨v, Po, R, h1, h2, h3, h4, h5, h6⟩ := a1.get q1
      cases h2 with
      | @oT a vs _ _ z1 z2 z3 =>
        obtain ⟨b, kvs, e1, e2, e3, e4⟩ := z3.clr q2
        have pb : P b := (h4 b).mpr (.inl e3)
        have x : Ext P s P ⟨upd s.H b (.dK []), s.Z⟩ := Ext.write a2 pb
        have kp : Kp R s ⟨upd s.H b (.dK []), s.Z⟩ := ⟨x.fz, fun c z => upd_ne fun q => h3 b e3 (by rw [← q]; exact z)⟩
        have nw : EnvOk X.K ⟨upd s.H b (.dK []), s.Z⟩ σ (env.set j (some (.oT (os.set i (.oD []))))) P := (h6 _ (.oT (os.set i (.oD []))) Po kp (.oT z1 (x.frz _ _ z1 z2) (e4 x.fz)) h3).cast fun c => (h4 c).symm
        have ow : Own P (⟨upd s.H b (.dK []), s.Z⟩ : S) := ⟨fun c z => ⟨(a2.o c z).1, fun y => (a2.o c z).2 (x.dom c y)⟩, fun c z y => a2.w c z (x.dom c y)⟩
        exact ⟨_, h1, a, vs, (i : Int), .ref b, rfl, rfl, .inl z2, atI_natT e1, .inr (.inr (.inl ⟨rfl, .inl ⟨_, e2⟩⟩)), rfl, b, kvs, e2, rfl, postE_plain hq nw ow x .non⟩
    · cases a3
  · cases a3

/-! ### repr of a tuple that owns what it holds -/
def qs? : List OV → Option (List D)
  | [] => some []
  | o :: os => match o.q?, qs? os with
    | some d, some ds => some (d :: ds)
    | _, _ => none
theorem RepOs.dqs {K : PySem.W.Frag} {s : S} : ∀ {os : List OV} {vs : List V} {P : FP} {ds : List D}, RepOs K s os vs P → qs? os = some ds → DqAll K s.H vs ds
  | _, _, _, _, .nil, e => by cases e; exact .nil
  | _, _, _, _, .cons h1 h2 _, e => by
    simp only [qs?] at e
    split at e
    · rename_i d ds q1 q2
      cases e
      exact .cons (h1.dq q1) (h2.dqs q2)
    · cases e
def fReprT : OV → Option OV := fun a => match a with
  | .oT os => match qs? os with
    | some ds => if (PyData.tuple ds).showable && decide ((PyData.tuple ds).depth ≤ 60) && decide ((PyData.tuple ds).shown.length ≤ lim) then some (.fz (.str (PyData.tuple ds).shown)) else none
    | none => none
  | a => fReprQ a
theorem p_reprT {K : PySem.W.Frag} : P1 K (rReprQ K) fReprT := by
  intro s a v P o w ra e Q hq
  unfold fReprT at e
  split at e
  · rename_i os
    split at e
    · rename_i ds q1
      split at e
      · rename_i c
        cases e
        simp only [Bool.and_eq_true, decide_eq_true_eq] at c
        cases ra with
        | oT z1 z2 z3 => exact .inr ⟨.tuple ds, _, rfl, .tup (.inl z2) (z3.dqs q1), c.1.1, c.1.2, le_line c.2, hq.str w⟩
      · cases e
    · cases e
  · exact p_reprQ s a v P o w ra e Q hq
theorem DE.reprT {X : Cx} {a : Expr} {pos p : Pos} {k : Nat} {m : MA} (hr : Room k X.A) (hgd : X.A.guards = some []) (hg : Gl X "repr") (hm : X.mg "repr" = none) (h : DA X [a] m) (he : starEach [a] X.env = (false, eval a X.env) :: starEach [] X.env := by rfl) : DE X (.Call (.Name "repr" p) [a] [] pos) (mOp (l1 fReprT) m) :=
  .callB (call_reprQ hr hgd) p_reprT.pure hg hm boot_repr2 h (by decide) (by decide) he rfl
end G
namespace G
open PySem PySem.Spec PyProof.Rows L2

/-! ### tuple(d.items()), d any dict -/
section
variable {prog : Program} {w : World} {A : Around} {E : Value → Shared → Prop} {s : Shared}
theorem tupI_code {r d : Addr} {vs : List (Key × Value)} {ep : Nat} {W : Value → Shared → Prop} (hh : A.handled = none) (hv : s.heap.IsItemsView r d) (hm : s.heap.DictAt (mixKind prog w) d vs ep) (hn : vs.length ≤ sizeLine)
    (go : ∀ (g : Heap) (k : Nat) (as : List Addr), (∀ b o, s.heap.get? b = some o → g.get? b = some o) → as.length = vs.length → PySem.W.KdxG (mixKind prog w) vs s.heap.objs.size g as →
      W (.ref g.objs.size) { s with heap := g.push { cls := .type "tuple", data := .seq (as.map Value.ref).toArray }, toks := k }) :
    codeAny (model prog w) A (.call (.builtin "tuple.__new__") ⟨[.type "tuple", .ref r], []⟩) (wants W E) s := by
  refine codeAny_of_tree ?_
  show wpAny _ A.in1 (do checkBuiltinCall "tuple.__new__" ⟨[.type "tuple", .ref r], []⟩
                         again (.builtin "tuple.__new__" ⟨[.type "tuple", .ref r], []⟩)) _ _ s
  refine wpAny_bind (wpAny_of_eq (PySem.F.newCall_tuple_1 _) (wpAny_pure
    ⟨plainId_quiet PySem.F.plain_tuple_new _, codeAny_builtin PySem.F.entry_tuple_new ?_⟩))
  rw [Around.under_plainId PySem.F.plain_tuple_new _]
  have t1 := sub_tuple_self
  have t2 := init_tuple_lookup
  have t3 := madeHere_tuple
  have t4 : s.TypeIs (.ref r) "dict_items" := let ⟨o, ho, hc, _⟩ := hv; ⟨o, ho, hc⟩
  have t5 : A.in1.handled = none := hh
  wp_walk using wpAny_typeOf t4, PySem.W.kdx_collect (A := A.in1) t5 hv hm hn
  intro g k as hk hl hG
  show wpAny _ _ (Builtin.Tuple.tupleExact (as.map Value.ref).toArray >>= fun v => ret v) _ _ _
  unfold Builtin.Tuple.tupleExact
  refine wpAny_bind (wpAny_newObj_type ?_ (by show (as.map Value.ref).toArray.size ≤ _; rw [List.size_toArray, List.length_map, hl]; exact hn))
  exact wpAny_pure (go g k as hk hl hG)
theorem tupI_call {r d : Addr} {vs : List (Key × Value)} {ep : Nat} {Q : Value → Shared → Prop} (hh : A.handled = none) (hv : s.heap.IsItemsView r d) (hm : s.heap.DictAt (mixKind prog w) d vs ep) (hn : vs.length ≤ sizeLine)
    (go : ∀ (g : Heap) (k : Nat) (as : List Addr), (∀ b o, s.heap.get? b = some o → g.get? b = some o) → as.length = vs.length → PySem.W.KdxG (mixKind prog w) vs s.heap.objs.size g as →
      Q (.ref g.objs.size) { s with heap := g.push { cls := .type "tuple", data := .seq (as.map Value.ref).toArray }, toks := k }) :
    wpAny (model prog w) A (call (.type "tuple") [.ref r]) Q E s := by
  refine callType_codes (Q₁ := fun x t => t.TypeIs x "tuple" ∧ Q x t) PySem.F.called_tuple
    (PySem.F.typeCall_tuple_1 _) PySem.F.entry_object_init
    (tupI_code (A := A.in1) hh hv hm hn fun g k as a b c => ⟨⟨_, Heap.get?_push_size _ rfl, rfl⟩, go g k as a b c⟩) fun x t q => ?_
  refine ⟨q.1, PySem.F.args_object_init_2 x _, ?_⟩
  exact object_init_meets PySem.F.called_tuple.init.lookup PySem.F.called_tuple.made
    (by decide) prog w A.in1 _ t ⟨q.1, rfl, q.2⟩
end
section
variable {X : Cx} {pins : List (Addr × Obj)} {σ : L2.St} {H : Hp} {s : Shared}
theorem paired_up {N : Hp} {a : Addr} {u : HO} : ∀ {as : List Addr} {kvs : List (Key × V)}, a ∉ as → Paired (fun (t : Addr) (q : Key × V) => N t = some (.tup [kV q.1, q.2])) as kvs → Paired (fun (t : Addr) (q : Key × V) => upd N a u t = some (.tup [kV q.1, q.2])) as kvs
  | _, _, _, .nil => .nil
  | _, _, h, .cons e t => .cons ((upd_ne fun z => h (by rw [← z]; exact List.mem_cons_self)).trans e) (paired_up (fun z => h (List.mem_cons_of_mem _ z)) t)
/-- the pairs that a walk over the items has made stand in a later heap -/
theorem pairs_laid {g : Heap} {k : Nat} {kvs : List (Key × V)} {vs : List (Key × Value)} {as : List Addr} (I : Inv X pins σ H s) (hz : kvs.length ≤ sizeLine) (kv : KV kvs vs) (hk : ∀ b o, s.heap.get? b = some o → g.get? b = some o)
    (hl : as.length = vs.length) (hG : PySem.W.KdxG (mixKind X.prog X.w) vs s.heap.objs.size g as) :
    ∃ N : Hp, (∀ b o, H b = some o → N b = some o) ∧ (∀ t ∈ as, H t = none) ∧ (∀ t ∈ as, t < g.objs.size) ∧ Paired (fun (t : Addr) (q : Key × V) => N t = some (.tup [kV q.1, q.2])) as kvs ∧ Inv X pins σ N { s with heap := g, toks := k } := by
  have ll := Paired.length kv
  have nd : as.Nodup := hG.rise.imp fun z => Nat.ne_of_lt z
  have fresh : ∀ t ∈ as, H t = none := fun t z => I.hok.fresh (Nat.le_of_lt (hG.above t z))
  have pa := LiI.putT_at as kvs H (by omega) nd
  have same : ∀ b, b ∉ as → LiI.putT H as kvs b = H b := fun b z => LiI.putT_off as kvs H z
  have old : ∀ b o, s.heap.get? b = some o → b ∉ as := fun b o e z => absurd (Heap.lt_size e) (Nat.not_lt.mpr (Nat.le_of_lt (hG.above b z)))
  have kp : ∀ b u, H b = some u → LiI.putT H as kvs b = some u := fun b u e => (same b fun z => by rw [fresh b z] at e; cases e).trans e
  refine ⟨LiI.putT H as kvs, kp, fresh, fun t z => ?_, pa, ?_⟩
  · obtain ⟨j, _, e1, _, _⟩ := LiI.paired_ix pa z
    obtain ⟨_, _, _, _, _, e⟩ := hG.pairs j t e1
    exact Heap.lt_size e
  refine I.call' (ch := []) rfl ⟨fun b o e _ _ _ => hk b o e, fun b o e _ _ _ => ⟨o.slots, hk b o e⟩, fun b o e n _ => (same b (old b o e)).trans n,
    fun b o e _ => ⟨o, hk b o e⟩, fun b xs e => kp b _ e, fun b o u e => kp b _ e, fun b ps e => ⟨#[], by rw [kp b _ e]; simp⟩⟩ (fun b u e => ?_) I.bare fun b z => nomatch z
  by_cases hb : b ∈ as
  · obtain ⟨j, kw, e1, e2, e3⟩ := LiI.paired_ix pa hb
    obtain ⟨key, kx, x, f1, f2, f3⟩ := hG.pairs j b e1
    obtain ⟨qv, g1, g2, g3⟩ := LiI.paired_get kv e2
    have e' : LiI.putT H as kvs b = some u := e
    rw [e3] at e'
    cases e'
    rw [f1] at g1
    cases g1
    have rk : RelV (kV kw.1) key := by
      rw [g2]; exact relV_key f2
    exact ⟨by show 2 ≤ sizeLine; decide, [key, x], .cons rk (.cons g3 .nil), _, f3, rfl, _, rfl⟩
  · have e' : LiI.putT H as kvs b = some u := e
    rw [same b hb] at e'
    exact (I.hok b u e').stay (fun d v _ y => hk d v y) (fun d y => kp d _ y) fun d xs y => kp d _ y
def rTupI : V → Hp → VK → Prop := fun x H Q => ∃ d kvs, x = .ref d ∧ Rd H d (.dK kvs) ∧ ∀ (N : Hp) (p : Addr) (o : Obj) (ts : List Addr), (∀ b u, H b = some u → N b = some u) → H p = none → (∀ t ∈ ts, H t = none) → p ∉ ts → NewT o →
  N p = some (.frz o (.tup (ts.map V.ref))) → Paired (fun (t : Addr) (q : Key × V) => N t = some (.tup [kV q.1, q.2])) ts kvs → Q (.ref p) N
theorem pe_tupI {e : Expr} {te : TE} {p pos apos cpos : Pos} (hc : X.calm = true) (he : PE X e te) (hg : Gl X "tuple") (hm : X.mg "tuple" = none)
    (hbase : attributeBase e "items" X.env (eval e X.env) = eval e X.env := by rfl) (hline : (apos.endLine == cpos.line) = true := by rfl)
    (hs : starEach [.Call (.Attribute e "items" apos) [] [] cpos] X.env = (false, eval (.Call (.Attribute e "items" apos) [] [] cpos) X.env) :: starEach [] X.env := by rfl) :
    PE X (.Call (.Name "tuple" p) [.Call (.Attribute e "items" apos) [] [] cpos] [] pos) (fun σ H Q => te σ H fun x H1 => rTupI x H1 Q) := by
  refine ⟨fun pins s σ H Q I hq => ?_⟩
  refine wpAny_Call_Name_kw (ld_blt I hg hm boot_tuple' (callWith_type1 ?_ hs rfl) (by decide) (by decide))
  rw [hs]
  refine Calls.spliced_cons ?_
  refine wpAny_Call_method hbase rfl hline PySem.F.plainAttrs_dict PySem.F.slot_dict_items PySem.F.type_dict_items ?_
  refine thn (he.run pins s σ H (fun x H1 => rTupI x H1 Q) I hq) fun u s1 hx => ?_
  obtain ⟨x, H1, I1, rx, d, kvs, rfl, hd, q⟩ := hx
  cases rx
  obtain ⟨hz, hs0, vs, kv, hdo⟩ := rd_of I1.hok hd
  obtain ⟨ep, hat⟩ := Heap.DictOf.dictAt hdo
  have lk := Paired.length kv
  have I2 := I1.kept (t' := s1.toks) (h' := s1.heap.push { cls := .type "dict_items", data := .fields #[.ref d] }) fun b ob q => Heap.get?_push_of_some _ q
  refine ⟨Heap.DictOf.typeIs hdo, Heap.MapOf.noDict (Heap.DictOf.mapOf hdo), ?_⟩
  refine method_meetsIn PySem.F.slot_dict_items PySem.F.entry_dict_items rfl (PySem.evalArgs_none ⟨rfl, Heap.DictOf.typeIs hdo, PySem.F.args_dict_items_1 (.ref d), _, meets_dict_items (mixKind X.prog X.w) d hs0, ⟨vs, hdo⟩, ?_⟩)
  refine Calls.spliced_nil ?_
  refine tupI_call (I1.ok.hd hc) ⟨_, Heap.get?_push_size s1.heap rfl, rfl, rfl⟩ (Heap.DictAt.push hat _) (by omega) fun g k as hk hl hG => ?_
  obtain ⟨N, k0, k1, k2, k3, J⟩ := pairs_laid (k := k) I2 hz kv hk hl hG
  have hf : N g.objs.size = none := J.hok.fresh (Nat.le_refl _)
  have hf0 : H1 g.objs.size = none := by
    cases z : H1 g.objs.size with
    | none => rfl
    | some u => rw [k0 _ _ z] at hf; cases hf
  have hn : g.objs.size ∉ as := fun z => Nat.lt_irrefl _ (k2 _ z)
  have L := J.laid (t' := k) (h' := g.push { cls := .type "tuple", data := .seq (as.map Value.ref).toArray }) (o := .frz { cls := .type "tuple", data := .seq (as.map Value.ref).toArray } (.tup (as.map V.ref))) (fun b u e => Heap.get?_push_of_some _ e) (Nat.le_refl _)
    ⟨Heap.get?_push_size _ rfl, by rw [List.length_map]; omega, as.map Value.ref, LiI.vals_refs as, _, Heap.get?_push_size _ rfl, rfl, _, rfl⟩
  refine ⟨.ref _, _, L, rfl, q _ _ _ as (fun b u e => ?_) hf0 k1 hn ⟨rfl, rfl⟩ upd_same ?_⟩
  · rw [upd_ne fun z => by rw [z, hf0] at e; cases e]
    exact k0 b u e
  · exact paired_up hn k3
end
/-- tuple(e.items()) -/
def mTupI (m : ME) : ME := fun env => match m env with
  | none => none
  | some (o, e1) => match o.dic? with
    | some kvs => some (.fz (.tuple (kvs.map fun kv => .tuple [kD kv.1, kv.2])), e1)
    | none => none
theorem DE.tupI {X : Cx} {e : Expr} {m : ME} {p pos apos cpos : Pos} (hc : X.calm = true) (hg : Gl X "tuple") (hm : X.mg "tuple" = none) (h : DE X e m)
    (hbase : attributeBase e "items" X.env (eval e X.env) = eval e X.env := by rfl) (hline : (apos.endLine == cpos.line) = true := by rfl)
    (hs : starEach [.Call (.Attribute e "items" apos) [] [] cpos] X.env = (false, eval (.Call (.Attribute e "items" apos) [] [] cpos) X.env) :: starEach [] X.env := by rfl) :
    DE X (.Call (.Name "tuple" p) [.Call (.Attribute e "items" apos) [] [] cpos] [] pos) (mTupI m) := by
  obtain ⟨t, hp, hr⟩ := h.run
  refine ⟨_, pe_tupI hc hp hg hm hbase hline hs, fun σ s env P o env' a1 a2 a3 Q hq => ?_⟩
  unfold mTupI at a3
  split at a3
  · cases a3
  rename_i od e1 q1
  split at a3
  · rename_i kvs q2
    cases a3
    refine hr σ s env P od _ a1 a2 q1 _ fun v s1 P1 R b1 b2 b3 b4 b5 => ?_
    obtain ⟨ad, vs, rfl, f2, f3⟩ := b2.dic q2
    refine ⟨ad, vs, rfl, f2, fun N l ob ts k0 k1 k2 k3 kn k4 k5 => ?_⟩
    have w1 : Own P1 s1 := b4.sub fun _ z => .inl z
    have fz0 : Fz s1 (⟨N, fun a => s1.Z a ∨ a = l ∨ a ∈ ts⟩ : S) := ⟨fun _ z => .inl z, fun a u _ r => r.elim (fun r => .inl (k0 _ _ r)) fun ⟨o, r⟩ => .inr ⟨o, k0 _ _ r⟩⟩
    have dm : ∀ a, N a = none → s1.H a = none := fun a z => by
      cases q : s1.H a with
      | none => rfl
      | some u => rw [k0 _ _ q] at z; cases z
    have kpP : Kp P1 s1 (⟨N, fun a => s1.Z a ∨ a = l ∨ a ∈ ts⟩ : S) := ⟨fz0, fun a z => by
      have nn := (w1.o a z).2
      cases q : s1.H a with
      | none => exact (nn q).elim
      | some u => exact k0 _ _ q⟩
    have hnew : ∀ a, a = l ∨ a ∈ ts → s1.H a = none ∧ N a ≠ none := fun a z => by
      rcases z with rfl | z
      · exact ⟨k1, by rw [k4]; exact fun z => nomatch z⟩
      · obtain ⟨i, hi⟩ := List.getElem?_of_mem z
        obtain ⟨y, _, g2⟩ := LiI.paired_get k5 hi
        exact ⟨k2 a z, by rw [g2]; exact fun z => nomatch z⟩
    have x : Ext (fU P1 R) s1 (fU P1 fE) ⟨N, fun a => s1.Z a ∨ a = l ∨ a ∈ ts⟩ := ⟨fun a u q _ _ => k0 _ _ q, fz0.r, fun _ z => .inl z, fun a z => z.elim .inl fun z => .inr (.inr (hnew a z).1), fun a z => .inl (z.elim .inl fun z => z.elim), dm, fun a z => z.elim .inl fun z => .inr (hnew a z).2⟩
    refine hq (.ref l) ⟨N, fun a => s1.Z a ∨ a = l ∨ a ∈ ts⟩ P1 fE (b1.mono kpP) (.fz (.tup (.inl ⟨.inr (.inl rfl), .inr ⟨ob, k4⟩⟩) (items_rep k5 (f3.mono fz0) fun t h => .inr (.inr h)) fun _ => .inl ⟨.inr (.inl rfl), ob, .tup _, kn, .inl k4⟩)) (fun _ _ z => z) ⟨fun a z => ?_, fun a z => ?_⟩ (b5.trans x)
    · have z' : P1 a := z.elim id fun z => z.elim
      refine ⟨fun y => y.elim (w1.o a z').1 fun y => (w1.o a z').2 (hnew a y).1, fun y => (w1.o a z').2 (dm a y)⟩
    · rcases z with z | z
      · exact fun y => w1.w a z (dm a y)
      · exact (hnew a z).2
  · cases a3
end G
namespace G
open PySem PySem.Spec PyProof.Rows L2

/-! ### own dicts keyed by tuples: x not in d, d[x] = v -/
section
variable {X : Cx} {kk : Nat}
def rNiK (K : PySem.W.Frag) : R2 := fun x y H Q => ∃ (a q : Addr) (o : Obj) (xs : List Trip) (k : NestedKey) (Z P : FP) (kvs : List (D × OV)), x = .ref q ∧ y = .ref a ∧ Rd H a (dNo a o) ∧ DObj a o xs ∧ RepOk K ⟨H, Z⟩ kvs xs P ∧ NKey K H Z q k ∧ Q (.bl (!(atKey xs k).isSome)) H
theorem op_niK (hr : Room kk X.A) : OpR X (compareOp .NotIn) (rNiK X.K) := by
  intro pins s σ H x y v u Q I rx ry h
  obtain ⟨a, q, o, xs, k, Z, P, kvs, rfl, rfl, hd, dob, rk, ⟨d, rd, nd, dp⟩, hq⟩ := h
  cases rx
  cases ry
  exact wpAny_notIn_heap (nk_room hr) (show (nestedKind X.prog X.w).is s.heap k q from ⟨rep_nk I d k _ _ rd nd rfl, dp⟩) dob.sm (rk.dict I hd dob) ⟨.bl _, H, I.tok _, rfl, hq⟩
def fNiK : OV → OV → Option OV := fun a b => match a, b with
  | .fz d, .oK kvs => match nkOf d with
    | some k => if tupD d = true ∧ k.depth ≤ 8 then some (.fz (.bool (lkK kvs k).isNone)) else none
    | none => none
  | _, _ => none
theorem tup_ref {K : PySem.W.Frag} {s : S} {d : D} {v : V} (h : Rep K s v d) (t : tupD d = true) : ∃ q, v = .ref q := by
  cases h with
  | tup _ _ _ => exact ⟨_, rfl⟩
  | _ => cases t
theorem p_niK {K : PySem.W.Frag} : P2 K (rNiK K) fNiK := by
  intro s a v P b u R o w ra rb e Q hq
  unfold fNiK at e
  split at e
  · rename_i d kvs
    split at e
    · rename_i k nk
      split at e
      · rename_i c
        cases e
        cases ra with
        | fz ra =>
          obtain ⟨q, rfl⟩ := tup_ref ra c.1
          cases rb with
          | @oK ad ob xs _ Pk g1 g2 g3 g4 =>
            have hb : (lkK kvs k).isNone = !(atKey xs k).isSome := by
              cases z : lkK kvs k with
              | none => rw [g3.at_none z]; rfl
              | some o1 =>
                obtain ⟨q1, u1, _, _, _, a1, _⟩ := g3.split z g2.nd
                rw [a1]; rfl
            rw [hb] at hq
            exact ⟨ad, q, ob, xs, k, s.Z, Pk, kvs, rfl, rfl, .inl g1, g2, g3, ⟨d, ra, nk, c.2⟩, hq.fz w (.bl _)⟩
      · cases e
    · cases e
  · cases e
theorem DE.niK {a b : Expr} {pos : Pos} {m : MA} (hr : Room kk X.A) (h : DA X [a, b] m) (hm : behindInMarks .NotIn b = false := by rfl) : DE X (.Compare a [.NotIn] [b] pos) (mOp (l2 fNiK) m) := .cmp (op_niK hr) p_niK hm h
theorem DT.niK {a b : Expr} {pos : Pos} {m : MA} (hr : Room kk X.A) (h : DA X [a, b] m) (hm : behindInMarks .NotIn b = false := by rfl) : DT X (.Compare a [.NotIn] [b] pos) (mBl (mOp (l2 fNiK) m)) := .cmp (op_niK hr) p_niK hm h
def rPutN (K : PySem.W.Frag) : V → V → V → Hp → (Hp → Prop) → Prop := fun o i v H Q => ∃ (a q : Addr) (ob : Obj) (xs : List Trip) (k : NestedKey) (Z P : FP) (kvs : List (D × OV)), o = .ref a ∧ i = .ref q ∧ H a = some (dNo a ob) ∧ DObj a ob xs ∧ RepOk K ⟨H, Z⟩ kvs xs P ∧ NKey K H Z q k ∧ xs.length ≤ 15000000 ∧
  ∀ o' u, RelV v u → DObj a o' (storedH xs k q u) → Q (upd H a (dNo a o'))
theorem set_nk (hr : Room kk X.A) : PSet X (rPutN X.K) := by
  intro pins s σ H o i v ov iv u Q I r1 r2 r3 h
  obtain ⟨a, q, ob, xs, k, Z, P, kvs, rfl, rfl, hd, dob, rk, nk, hl, hq⟩ := h
  cases r1
  cases r2
  obtain ⟨d, rd, nd, dp⟩ := id nk
  refine wpAny_setItem_heap (hsz := ln_line (by omega)) (nk_room hr) (show (nestedKind X.prog X.w).is s.heap k q from ⟨rep_nk I d k _ _ rd nd rfl, dp⟩) (rk.dict I (.inl hd) dob) fun h' hm hs => ?_
  obtain ⟨o', dob', J⟩ := put_new (tk := s.toks + (nestedKind X.prog X.w).draws k) I hd dob rk nk hl hm hs
  exact ⟨_, J, hq o' u r3 dob'⟩
def mPutN (j : Nat) (mv mi : MD) : MS := fun env => match mv env with
  | none => none
  | some (dv, e1) => match lk e1 j with
    | none => none
    | some _ => match mi e1 with
      | none => none
      | some (d, e2) => match lk e2 j with
        | some (.oK kvs) => match nkOf d with
          | some k => if tupD d = true ∧ k.depth ≤ 8 ∧ kvs.length ≤ 15000000 ∧ (lkK kvs k).isNone = true then some (.nx (e2.set j (some (.oK (kvs ++ [(d, .fz dv)]))))) else none
          | none => none
        | _ => none
theorem DS.putN {fx : List Nat} {a e : Expr} {pos : Pos} {mv mi : MD} {x : Str} {px pos' : Pos} (j : Nat) (hr : Room kk X.A) (hv : DF X e mv) (hi : DF X a mi) (hN : X.N[j]? = some x := by rfl) (hx : Vis X.env.scope x := by first | exact Or.inl rfl | exact Or.inr (Or.inl rfl) | exact Or.inr (Or.inr rfl))
    (hs : swapsWithSole [.Subscript (.Name x px) a pos'] e pos.line X.env = pure false := by rfl) (hw : swappedStores [.Subscript (.Name x px) a pos'] e X.env = pure none := by rfl)
    (h1 : (assignEach [.Subscript (.Name x px) a pos'] X.env).map (·.2) = [assign (.Subscript (.Name x px) a pos') X.env] := by rfl)
    (ha : ∀ v, assign (.Subscript (.Name x px) a pos') X.env v = (do
      let ov ← holding [v] (eval (.Name x px) X.env)
      let iv ← holding [v, ov] (eval a X.env)
      standAt pos'
      holding [v, ov, iv] (setItem ov iv v)
      release [v, ov, iv] []) := by exact fun _ => rfl)
    (hd : (x == ("__debug__" : Str)) = false := by decide) (hcd : (x == ("__classdict__" : Str)) = false := by decide) : DS X fx (.Assign [.Subscript (.Name x px) a pos'] e pos) (mPutN j mv mi) := by
  obtain ⟨tv, vp, vr⟩ := hv.run
  obtain ⟨ti, ip, ir⟩ := hi.run
  refine ⟨_, ps_asg vp (pg_sub (pe_var hN hx hd hcd) ip (set_nk hr) ha) hs hw h1, fun σ s env P out a1 a2 a3 D hq => ?_⟩
  unfold mPutN at a3
  split at a3
  · cases a3
  rename_i dv e1 q1
  split at a3
  · cases a3
  rename_i o1 q2
  split at a3
  · cases a3
  rename_i d e2 q3
  split at a3
  · rename_i kvs q4
    split at a3
    · rename_i k nk
      split at a3
      · rename_i c
        cases a3
        refine vr σ s env P dv e1 a1 a2 q1 _ fun v s1 P1 b1 b2 b3 b4 => ?_
        obtain ⟨u, _, _, g1, _⟩ := b1.get q2
        refine ⟨u, g1, ir σ s1 e1 P1 d e2 b1 b3 q3 _ fun iv s2 P2 c1 c2 c3 c4 => ?_⟩
        have rv := Rep.mono c4.fz _ _ b2
        obtain ⟨w, Po, R, f1', f2, f3, f4, f5, f6⟩ := c1.get q4
        rw [g1] at f1'
        cases f1'
        obtain ⟨q, rfl⟩ := tup_ref c2 c.1
        cases f2 with
        | @oK ad ob xs _ Pk z1 z2 z3 z4 =>
          have hlen := z3.len
          have hno : atKey xs k = none := z3.at_none (Option.isNone_iff_eq_none.mp c.2.2.2)
          refine ⟨ad, q, ob, xs, k, s2.Z, Pk, kvs, rfl, rfl, z1, z2, z3, ⟨d, c2, nk, c.2.1⟩, by rw [hlen]; exact c.2.2.1, fun o' u ru dob' => ?_⟩
          rw [storedH_new hno] at dob'
          have pa : P2 ad := (f4 ad).mpr (.inl (.inl rfl))
          have x : Ext P2 s2 P2 ⟨upd s2.H ad (dNo ad o'), s2.Z⟩ := Ext.write c3 pa
          have kR : Kp R s2 ⟨upd s2.H ad (dNo ad o'), s2.Z⟩ := ⟨x.fz, fun b z => upd_ne fun q => f3 ad (.inl rfl) (by rw [← q]; exact z)⟩
          have kP : Kp Pk s2 ⟨upd s2.H ad (dNo ad o'), s2.Z⟩ := ⟨x.fz, fun b z => upd_ne fun q => z4 (by rw [← q]; exact z)⟩
          have rok := (RepOk.mono kvs xs Pk z3 kP).snoc nk c.2.1 (Rep.mono x.fz _ _ c2) ru (.fz (Rep.mono x.fz _ _ rv)) (fun a z y => y.elim)
          have eP : fU Pk fE = Pk := funext fun a => propext ⟨fun z => z.elim id fun z => z.elim, .inl⟩
          rw [eP] at rok
          have nw : EnvOk X.K ⟨upd s2.H ad (dNo ad o'), s2.Z⟩ σ (e2.set j (some (.oK (kvs ++ [(d, .fz dv)])))) P2 := (f6 _ (.oK (kvs ++ [(d, .fz dv)])) (fU (f1 ad) Pk) kR (.oK upd_same dob' rok z4) f3).cast fun b => (f4 b).symm
          have ow : Own P2 (⟨upd s2.H ad (dNo ad o'), s2.Z⟩ : S) := ⟨fun b z => ⟨(c3.o b z).1, fun y => (c3.o b z).2 (x.dom b y)⟩, fun b z y => c3.w b z (x.dom b y)⟩
          exact hq σ _ P2 nw ow (b4.trans (c4.trans x)) (.refl _ _)
      · cases a3
    · cases a3
  · cases a3
end
end G
namespace G
open PySem PySem.Spec PyProof.Rows L2
/-! ### {k: v} with a tuple as key -/
section
variable {X : Cx} {kk : Nat}
theorem nk_room0 {A : Around} {k : Nat} (hr : Room k A) : (nestedKind X.prog X.w).room A := by
  have := hr.units
  show A.units + 8 < cLine
  omega
theorem storeAll_one {P : Program} {w : World} {A : Around} {E : Value → Shared → Prop} {s : Shared} {d : Addr} {x : Value × Value} {Q : PUnit → Shared → Prop} (h : wpAny (model P w) A (dictSet d x.1 x.2) (fun _ s' => Q PUnit.unit s') E s) : wpAny (model P w) A (storeAll d [x]) Q E s := by
  unfold storeAll
  rw [List.forIn_cons]
  exact wpAny_bind (wpAny_bind (wpAny_mono h (fun _ s' q => wpAny_pure (by show wpAny _ _ (forIn [] _ _) _ _ _; rw [List.forIn_nil]; exact wpAny_pure q)) fun _ _ e => e))
def qDisN (K : PySem.W.Frag) (p : Addr) (o : Obj) (Q : V → Hp → Prop) : List (V × V) → Hp → Prop := fun ps H2 => ∃ x y, ps = [(x, y)] ∧ H2 p = some (dNo p o) ∧ ∃ (q : Addr) (k : NestedKey) (Z : FP), x = .ref q ∧ NKey K H2 Z q k ∧
  ∀ o' u, RelV y u → DObj p o' [(k, q, u)] → Q (.ref p) (upd H2 p (dNo p o'))
def tDisN (K : PySem.W.Frag) (tk tv : TE) : TE := fun σ H Q => ∀ p o, H p = none → DObj p o [] → tk σ (upd H p (dNo p o)) fun x H1 => tv σ H1 fun y H2 => qDisN K p o Q [(x, y)] H2
theorem pe_disN {ke ve : Expr} {pos : Pos} {tk tv : TE} (hr : Room kk X.A) (hk : PE X ke tk) (hv : PE X ve tv) : PE X (.Dict [some ke] [ve] pos) (tDisN X.K tk tv) := ⟨fun pins s σ H Q I h => by
  have hg : (s.heap.push { cls := .type "dict", data := .dict #[] }).get? s.heap.objs.size = some { cls := .type "dict", data := .dict #[] } := Heap.get?_push_size _ rfl
  have sm : (s.heap.objs.size == sysModules) = false := (dk_empty (P := X.prog) (w := X.w) (H := H) s.heap I.big).2.1
  have dob : DObj s.heap.objs.size { cls := .type "dict", data := .dict #[] } [] := ⟨sm, ⟨rfl, rfl, rfl⟩, ⟨#[], _, rfl, rfl⟩, List.nodup_nil, Nat.zero_le _⟩
  have I1 := I.laid (a := s.heap.objs.size) (o := dNo s.heap.objs.size { cls := .type "dict", data := .dict #[] }) (t' := s.toks) (fun _ _ q => Heap.get?_push_of_some _ q) (Nat.le_refl _) (dNo_ok hg)
  refine wpAny_Dict_any (by rfl) (by rfl) (by simp) (Nat.le_of_ble_eq_true rfl) (thn ((pps_cons hk hv pps_nil).run pins _ σ _ (qDisN X.K s.heap.objs.size { cls := .type "dict", data := .dict #[] } Q) I1 (h _ _ (I.hok.fresh (Nat.le_refl _)) dob)) fun ws s2 ⟨ps, H2, I2, rel, x, y, e, hd, q, k, Z, ex, nk, hq⟩ => ?_)
  · subst e ex
    cases rel with
    | @cons a b as bs r t =>
      cases t
      obtain ⟨b1, b2⟩ := b
      obtain ⟨r1, r2⟩ := r
      cases r1
      obtain ⟨d, rd, nd, dp⟩ := id nk
      refine storeAll_one (wpAny_dictSet_heap (hsz := by decide) (nk_room0 hr) (show (nestedKind X.prog X.w).is s2.heap k q from ⟨rep_nk I2 d k _ _ rd nd rfl, dp⟩) ((RepOk.nil (K := X.K) (s := ⟨H2, Z⟩)).dict I2 (.inl hd) dob) fun h' hm hs => ?_)
      obtain ⟨o', dob', J⟩ := put_new (tk := s2.toks + (nestedKind X.prog X.w).draws k) I2 hd dob (RepOk.nil (K := X.K) (s := ⟨H2, Z⟩)) nk (by decide) hm hs
      exact ⟨.ref s.heap.objs.size, _, J, rfl, hq o' b2 r2 dob'⟩⟩
def mDisN (mk mv : MD) : ME := fun env => match mk env with
  | none => none
  | some (d, e1) => match mv e1 with
    | none => none
    | some (v, e2) => match nkOf d with
      | some k => if tupD d = true ∧ k.depth ≤ 8 then some (.oK [(d, .fz v)], e2) else none
      | none => none
theorem DE.disN {ke ve : Expr} {pos : Pos} {mk mv : MD} (hr : Room kk X.A) (h1 : DF X ke mk) (h2 : DF X ve mv) : DE X (.Dict [some ke] [ve] pos) (mDisN mk mv) := by
  obtain ⟨tk, kp, kr⟩ := h1.run
  obtain ⟨tv, vp, vr⟩ := h2.run
  refine ⟨_, pe_disN hr kp vp, fun σ s env P o env' a1 a2 a3 Q hq => ?_⟩
  unfold mDisN at a3
  split at a3
  · cases a3
  rename_i d e1 q1
  split at a3
  · cases a3
  rename_i dv e2 q2
  split at a3
  · rename_i k nk
    split at a3
    · rename_i c
      cases a3
      intro p ob hpn dob
      have x0 : Ext P s (fU P (f1 p)) ⟨upd s.H p (dNo p ob), s.Z⟩ := Ext.new hpn
      have nP : ¬ P p := fun z => (a2.o p z).2 hpn
      have w0 : Own (fU P (f1 p)) (⟨upd s.H p (dNo p ob), s.Z⟩ : S) := ⟨fun a z => by
        rcases z with z | z
        · exact ⟨(a2.o a z).1, fun q => (a2.o a z).2 (x0.dom a q)⟩
        · cases (show a = p from z)
          exact ⟨fun z => a2.w _ z hpn, by show upd s.H p _ p ≠ none; rw [upd_same]; exact fun z => nomatch z⟩, fun a z q => a2.w a z (x0.dom a q)⟩
      have k0 : Kp P s ⟨upd s.H p (dNo p ob), s.Z⟩ := ⟨x0.fz, fun a z => upd_ne fun e => nP (by rw [← e]; exact z)⟩
      have d0 : Dis P (f1 p) := fun a z y => nP (by cases (show a = p from y); exact z)
      have oR0 : Own (f1 p) (⟨upd s.H p (dNo p ob), s.Z⟩ : S) := w0.sub fun _ z => .inr z
      refine kr σ ⟨upd s.H p (dNo p ob), s.Z⟩ env P d e1 (a1.mono k0) (w0.sub fun _ z => .inl z) q1 _ fun x s1 P1 b1 b2 b3 b4 => ?_
      have k1 := b4.kp d0 oR0
      have w1 : Own (fU P1 (f1 p)) s1 := b3.or (b4.ownR d0 oR0)
      have d1 : Dis P1 (f1 p) := b4.disR d0 oR0
      have oR1 : Own (f1 p) s1 := w1.sub fun _ z => .inr z
      refine vr σ s1 e1 P1 dv _ b1 b3 q2 _ fun y s2 P2 c1 c2 c3 c4 => ?_
      have k2 := c4.kp d1 oR1
      have w2 : Own (fU P2 (f1 p)) s2 := c3.or (c4.ownR d1 oR1)
      have d2 : Dis P2 (f1 p) := c4.disR d1 oR1
      have hp2 : s2.H p = some (dNo p ob) := ((k2.k p rfl).trans (k1.k p rfl)).trans upd_same
      have rx := Rep.mono c4.fz _ _ b2
      obtain ⟨q, rfl⟩ := tup_ref rx c.1
      refine ⟨_, _, rfl, hp2, q, k, s2.Z, rfl, ⟨d, rx, nk, c.2⟩, fun o' u ru dob' => ?_⟩
      have x1 : Ext (fU P2 (f1 p)) s2 (fU P2 (f1 p)) ⟨upd s2.H p (dNo p o'), s2.Z⟩ := Ext.write w2 (.inr rfl)
      have kk1 : Kp P2 s2 ⟨upd s2.H p (dNo p o'), s2.Z⟩ := ⟨x1.fz, fun a z => upd_ne fun e => d2 a z (show a = p from e)⟩
      have rok : RepOk X.K ⟨upd s2.H p (dNo p o'), s2.Z⟩ [(d, .fz dv)] [(k, q, u)] fE := by
        have z := RepOk.snoc (K := X.K) (s := ⟨upd s2.H p (dNo p o'), s2.Z⟩) (kvs := []) (xs := []) (P := fE) (d := d) (k := k) (q := q) (u := u) (v := y) (o := .fz dv) (Po := fE) .nil nk c.2 (Rep.mono x1.fz _ _ rx) ru (.fz (Rep.mono x1.fz _ _ c2)) (fun _ z => z.elim)
        rwa [fU_eq] at z
      have fin := hq (.ref p) ⟨upd s2.H p (dNo p o'), s2.Z⟩ P2 (fU (f1 p) fE) (c1.mono kk1) (.oK upd_same dob' rok fun z => z) (fun a z y => d2 a z (y.elim id fun z => z.elim))
      rw [fU_eq] at fin
      exact fin ⟨fun a z => ⟨(w2.o a z).1, fun q => (w2.o a z).2 (x1.dom a q)⟩, fun a z q => w2.w a z (x1.dom a q)⟩ ((x0.trans (b4.frame.trans c4.frame)).trans x1)
    · cases a3
  · cases a3
end
end G
namespace C
open PySem PySem.Spec PyProof.Rows L2 G
abbrev RD : Nat := 6
def top (i : Nat) : Stmt := PySem.Challenge.pw_dialroad_k51_lengths_by_search.main.body.getD i (.Pass ⟨0, 0, 0, 0⟩)
abbrev s_p_turn_cost : Stmt := top 4
abbrev s_p_walk_ends : Stmt := top 5
abbrev s_p_length : Stmt := top 6
abbrev s_p_unit_turns : Stmt := top 7
abbrev s_p_unit_steps : Stmt := top 8
abbrev s_p_shortest_program : Stmt := top 9
abbrev s_l_pen : Stmt := top 11
abbrev s_l_draw : Stmt := top 12
abbrev s_l_pick : Stmt := top 13
abbrev s_l_normal : Stmt := top 14
abbrev s_l_sum : Stmt := top 15
abbrev s_l_moved : Stmt := top 16
abbrev s_l_then : Stmt := top 17
abbrev s_l_unit_effect : Stmt := top 18
abbrev s_l_units : Stmt := top 19
abbrev s_l_ball : Stmt := top 20
abbrev s_law : Stmt := top 21
theorem sc_p_turn_cost : FnScope ["prime", "coefficient"] ["prime", "coefficient"] (defScope s_p_turn_cost) := ⟨rfl, rfl, rfl, by decide +kernel, rfl, by decide +kernel, by decide +kernel⟩
noncomputable def b_p_turn_cost : MS :=
    (mRet (mOp (l2 fMin2) (mCons (mAt 1) (mCons (mOwn (mOp (l2 fSub) (mCons (mAt 0) (mCons (mAt 1) mNil)))) mNil))))
noncomputable def f_p_turn_cost : MF := runF 2 2 [true, true] b_p_turn_cost
theorem sc_p_walk_ends : FnScope ["effect", "places", "exponent", "coefficient"] ["effect"] (defScope s_p_walk_ends) := ⟨rfl, rfl, rfl, by decide +kernel, rfl, by decide +kernel, by decide +kernel⟩
noncomputable def cg_p_walk_ends_1 : MG := (gTp 2 (gsCons (gNm 2) (gsCons (gNm 3) gsNil)))
noncomputable def cm_p_walk_ends_1 : MD := (mFz (mNm 2))
noncomputable def b_p_walk_ends : MS :=
    (mSeq (mSet 1 (mOp (l2 fAdd) (mCons (mOwn (mLst (mCons (mOwn (mC (.fz (.int 0)))) (mCons (mOwn (mOp (l2 fIxA) (mCons (mAt 0) (mCons (mOwn (mC (.fz (.int 1)))) mNil)))) mNil)))) (mCons (mOwn (mComp [2, 3] (mIt (mFz (mOp (l2 fIxA) (mCons (mAt 0) (mCons (mOwn (mC (.fz (.int 0)))) mNil))))) cg_p_walk_ends_1 mYes cm_p_walk_ends_1)) mNil))))
    (mRet (mTup (mCons (mOwn (mOp (l1 fMin1) (mCons (mAt 1) mNil))) (mCons (mOwn (mOp (l1 fMax1) (mCons (mAt 1) mNil))) mNil)))))
noncomputable def f_p_walk_ends : MF := runF 4 1 [true] b_p_walk_ends
theorem sc_p_length : FnScope ["prime", "effect", "turns", "low", "high", "exponent", "coefficient"] ["prime", "effect"] (defScope s_p_length) := ⟨rfl, rfl, rfl, by decide +kernel, rfl, by decide +kernel, by decide +kernel⟩
noncomputable def cg_p_length_1 : MG := (gTp 2 (gsCons (gNm 5) (gsCons (gNm 6) gsNil)))
noncomputable def cm_p_length_1 : MD := (mFz (mCall f_p_turn_cost (mCons (mAt 0) (mCons (mAt 6) mNil))))
noncomputable def b_p_length : MS :=
    (mSeq (mAsg (gTp 2 (gsCons (gNm 3) (gsCons (gNm 4) gsNil))) (mCall f_p_walk_ends (mCons (mAt 1) mNil)))
    (mSeq (mSet 2 (mOp (l1 fSum) (mCons (mOwn (mComp [5, 6] (mIt (mFz (mOp (l2 fIxA) (mCons (mAt 1) (mCons (mOwn (mC (.fz (.int 0)))) mNil))))) cg_p_length_1 mYes cm_p_length_1)) mNil)))
    (mRet (mOp (l2 fAdd) (mCons (mOwn (mOp (l2 fSub) (mCons (mOwn (mOp (l2 fMul) (mCons (mOwn (mC (.fz (.int 2)))) (mCons (mOwn (mOp (l2 fSub) (mCons (mAt 4) (mCons (mAt 3) mNil)))) mNil)))) (mCons (mOwn (mOp (l1 fAbs) (mCons (mOwn (mOp (l2 fIxA) (mCons (mAt 1) (mCons (mOwn (mC (.fz (.int 1)))) mNil)))) mNil))) mNil)))) (mCons (mAt 2) mNil))))))
noncomputable def f_p_length : MF := runF 7 2 [true, true] b_p_length
theorem sc_p_unit_turns : FnScope ["prime", "coefficient"] ["prime", "coefficient"] (defScope s_p_unit_turns) := ⟨rfl, rfl, rfl, by decide +kernel, rfl, by decide +kernel, by decide +kernel⟩
noncomputable def b_p_unit_turns : MS :=
    (mSeq (mIf (mBl (mOp (l2 fLe) (mCons (mOwn (mOp (l2 fMul) (mCons (mOwn (mC (.fz (.int 2)))) (mCons (mAt 1) mNil)))) (mCons (mAt 0) mNil))))
    (mRet (mOp (l2 fRep) (mCons (mOwn (mLst (mCons (mOwn (mTup (mCons (mOwn (mC (.fz (.str "turn")))) (mCons (mOwn (mC (.fz (.int 1)))) mNil)))) mNil))) (mCons (mAt 1) mNil))))
    mNext)
    (mRet (mOp (l2 fRep) (mCons (mOwn (mLst (mCons (mOwn (mTup (mCons (mOwn (mC (.fz (.str "turn")))) (mCons (mOwn (mOp (l1 fNeg) (mCons (mOwn (mC (.fz (.int 1)))) mNil))) mNil)))) mNil))) (mCons (mOwn (mOp (l2 fSub) (mCons (mAt 0) (mCons (mAt 1) mNil)))) mNil)))))
noncomputable def f_p_unit_turns : MF := runF 2 2 [true, true] b_p_unit_turns
theorem sc_p_unit_steps : FnScope ["start", "stop"] ["start", "stop"] (defScope s_p_unit_steps) := ⟨rfl, rfl, rfl, by decide +kernel, rfl, by decide +kernel, by decide +kernel⟩
noncomputable def b_p_unit_steps : MS :=
    (mRet (mOp (l2 fRep) (mCons (mOwn (mLst (mCons (mOwn (mTup (mCons (mOwn (mC (.fz (.str "step")))) (mCons (mOwn (mIfE (mBl (mOp (l2 fLt) (mCons (mAt 0) (mCons (mAt 1) mNil)))) (mC (.fz (.int 1))) (mOp (l1 fNeg) (mCons (mOwn (mC (.fz (.int 1)))) mNil)))) mNil)))) mNil))) (mCons (mOwn (mOp (l1 fAbs) (mCons (mOwn (mOp (l2 fSub) (mCons (mAt 1) (mCons (mAt 0) mNil)))) mNil))) mNil))))
noncomputable def f_p_unit_steps : MF := runF 2 2 [true, true] b_p_unit_steps
theorem sc_p_shortest_program : FnScope ["prime", "effect", "visits", "polynomial", "shift", "low", "high", "program", "here", "place", "coefficient"] ["prime", "effect"] (defScope s_p_shortest_program) := ⟨rfl, rfl, rfl, by decide +kernel, rfl, by decide +kernel, by decide +kernel⟩
noncomputable def lg_p_shortest_program_1 : MG := (gTp 2 (gsCons (gNm 9) (gsCons (gNm 10) gsNil)))
noncomputable def lb_p_shortest_program_1 : MS :=
    (mSeq (mDrop (mLExt 7 (mCall f_p_unit_steps (mCons (mAt 8) (mCons (mAt 9) mNil)))))
    (mSeq (mDrop (mLExt 7 (mCall f_p_unit_turns (mCons (mAt 0) (mCons (mAt 10) mNil)))))
    (mSet 8 (mNm 9))))
noncomputable def b_p_shortest_program : MS :=
    (mSeq (mIf (mBl (mOp (l2 fGt) (mCons (mOwn (mCall f_p_length (mCons (mAt 0) (mCons (mAt 1) mNil)))) (mCons (mOwn (mC (.fz (.int 10000)))) mNil))))
    mNever
    mNext)
    (mSeq (mAsg (gTp 2 (gsCons (gNm 3) (gsCons (gNm 4) gsNil))) (mNm 1))
    (mSeq (mAsg (gTp 2 (gsCons (gNm 5) (gsCons (gNm 6) gsNil))) (mCall f_p_walk_ends (mCons (mAt 1) mNil)))
    (mSeq (mSet 2 (mOp (l2 fAdd) (mCons (mOwn (mOp (l2 fAdd) (mCons (mOwn (mLst (mCons (mOwn (mTup (mCons (mAt 5) (mCons (mOwn (mC (.fz (.int 0)))) mNil)))) mNil))) (mCons (mOwn (mOp (l1 fList) (mCons (mAt 3) mNil))) mNil)))) (mCons (mOwn (mLst (mCons (mOwn (mTup (mCons (mAt 6) (mCons (mOwn (mC (.fz (.int 0)))) mNil)))) mNil))) mNil))))
    (mSeq (mPar2 7 8 (mCons (mOwn (mLst mNil)) (mCons (mOwn (mC (.fz (.int 0)))) mNil)))
    (mSeq (mFor (mIt (mFz (mOp (l2 fAdd) (mCons (mOwn (mIfE (mBl (mOp (l2 fGe) (mCons (mAt 4) (mCons (mOwn (mC (.fz (.int 0)))) mNil)))) (mNm 2) (mRevL (mAt 2)))) (mCons (mOwn (mLst (mCons (mOwn (mTup (mCons (mAt 4) (mCons (mOwn (mC (.fz (.int 0)))) mNil)))) mNil))) mNil))))) lg_p_shortest_program_1 lb_p_shortest_program_1)
    (mRet (mMv 7))))))))
noncomputable def f_p_shortest_program : MF := runF 11 2 [true, true] b_p_shortest_program
theorem sc_l_pen : FnScope ["_law_script"] ["_law_script"] (defScope s_l_pen) := ⟨rfl, rfl, rfl, by decide +kernel, rfl, by decide +kernel, by decide +kernel⟩
noncomputable def b_l_pen : MS :=
    (mRet (mDic [(.inr "cells", (mFz (mOp (l1 fList) (mCons (mOwn (mCut (mAt 0) mNoI (mSoI (mC (.fz (.int 63)))))) mNil)))), (.inr "used", (mFz (mC (.fz (.int 0))))), (.inr "left", (mFz (mC (.fz (.int 0)))))]))
noncomputable def f_l_pen : MF := runF 1 1 [true] b_l_pen
theorem sc_l_draw : FnScope ["_law_pen_here", "_law_many", "_law_used", "_law_cell", "_law_blend", "_law_digit"] ["_law_pen_here", "_law_many"] (defScope s_l_draw) := ⟨rfl, rfl, rfl, by decide +kernel, rfl, by decide +kernel, by decide +kernel⟩
noncomputable def b_l_draw : MS :=
    (mSeq (mIf (mBl (mOp (l2 fGt) (mCons (mOwn (mOp (l2 fIxA) (mCons (mAt 0) (mCons (mOwn (mC (.fz (.str "left")))) mNil)))) (mCons (mOwn (mC (.fz (.int 0)))) mNil))))
    (mSeq (mSet 5 (mOp (l2 fMod) (mCons (mOwn (mOp (l2 fIxA) (mCons (mAt 0) (mCons (mOwn (mC (.fz (.str "left")))) mNil)))) (mCons (mAt 1) mNil))))
    (mSeq (mPut 0 (mFz (mOp (l2 fDiv) (mCons (mOwn (mOp (l2 fIxA) (mCons (mAt 0) (mCons (mOwn (mC (.fz (.str "left")))) mNil)))) (mCons (mAt 1) mNil)))) (mFz (mC (.fz (.str "left")))))
    (mRet (mMv 5))))
    mNext)
    (mSeq (mSet 2 (mOp (l2 fIxA) (mCons (mAt 0) (mCons (mOwn (mC (.fz (.str "used")))) mNil))))
    (mSeq (mPut 0 (mFz (mOp (l2 fAdd) (mCons (mAt 2) (mCons (mOwn (mC (.fz (.int 1)))) mNil)))) (mFz (mC (.fz (.str "used")))))
    (mSeq (mSet 3 (mOp (l2 fAdd) (mCons (mOwn (mOp (l2 fMul) (mCons (mOwn (mC (.fz (.int 29)))) (mCons (mAt 2) mNil)))) (mCons (mOwn (mC (.fz (.int 11)))) mNil))))
    (mSeq (mIf (mBl (mOp (l2 fNe) (mCons (mOwn (mOp (l2 fIxA) (mCons (mAt 0) (mCons (mOwn (mC (.fz (.str "cells")))) mNil)))) (mCons (mOwn (mLst mNil)) mNil))))
    (mSet 3 (mOp (l2 fIxA) (mCons (mOwn (mOp (l2 fIxA) (mCons (mAt 0) (mCons (mOwn (mC (.fz (.str "cells")))) mNil)))) (mCons (mOwn (mOp (l2 fMod) (mCons (mAt 2) (mCons (mOwn (mOp (l1 fLen) (mCons (mOwn (mOp (l2 fIxA) (mCons (mAt 0) (mCons (mOwn (mC (.fz (.str "cells")))) mNil)))) mNil))) mNil)))) mNil))))
    mNext)
    (mSeq (mIf (mAndT (mBl (mOp (l2 fLt) (mCons (mAt 2) (mCons (mOwn (mOp (l1 fLen) (mCons (mOwn (mOp (l2 fIxA) (mCons (mAt 0) (mCons (mOwn (mC (.fz (.str "cells")))) mNil)))) mNil))) mNil)))) (mBl (mOp (l2 fGe) (mCons (mOwn (mOp (l1 fAbs) (mCons (mAt 3) mNil))) (mCons (mOwn (mOp (l2 fPow) (mCons (mOwn (mC (.fz (.int 10)))) (mCons (mOwn (mC (.fz (.int 18)))) mNil)))) mNil)))))
    (mSeq (mPut 0 (mFz (mOp (l2 fDiv) (mCons (mOwn (mOp (l2 fSub) (mCons (mOwn (mOp (l1 fAbs) (mCons (mAt 3) mNil))) (mCons (mOwn (mOp (l2 fPow) (mCons (mOwn (mC (.fz (.int 10)))) (mCons (mOwn (mC (.fz (.int 18)))) mNil)))) mNil)))) (mCons (mAt 1) mNil)))) (mFz (mC (.fz (.str "left")))))
    (mRet (mOp (l2 fMod) (mCons (mOwn (mOp (l2 fSub) (mCons (mOwn (mOp (l1 fAbs) (mCons (mAt 3) mNil))) (mCons (mOwn (mOp (l2 fPow) (mCons (mOwn (mC (.fz (.int 10)))) (mCons (mOwn (mC (.fz (.int 18)))) mNil)))) mNil)))) (mCons (mAt 1) mNil)))))
    mNext)
    (mSeq (mSet 4 (mOp (l2 fAdd) (mCons (mOwn (mOp (l2 fMul) (mCons (mOwn (mOp (l2 fMod) (mCons (mAt 3) (mCons (mOwn (mC (.fz (.int 4294967231)))) mNil)))) (mCons (mOwn (mC (.fz (.int 1664525)))) mNil)))) (mCons (mOwn (mOp (l2 fMul) (mCons (mOwn (mOp (l2 fMul) (mCons (mOwn (mC (.fz (.int 24593)))) (mCons (mAt 2) mNil)))) (mCons (mAt 2) mNil)))) mNil))))
    (mSeq (mSet 4 (mOp (l2 fMod) (mCons (mOwn (mOp (l2 fAdd) (mCons (mOwn (mOp (l2 fAdd) (mCons (mAt 4) (mCons (mOwn (mOp (l2 fMul) (mCons (mOwn (mC (.fz (.int 196613)))) (mCons (mAt 2) mNil)))) mNil)))) (mCons (mOwn (mC (.fz (.int 19)))) mNil)))) (mCons (mOwn (mC (.fz (.int 4294967197)))) mNil))))
    (mSeq (mSet 4 (mOp (l2 fMod) (mCons (mOwn (mOp (l2 fAdd) (mCons (mOwn (mOp (l2 fAdd) (mCons (mOwn (mOp (l2 fAdd) (mCons (mOwn (mOp (l2 fMul) (mCons (mAt 4) (mCons (mAt 4) mNil)))) (mCons (mOwn (mOp (l2 fMul) (mCons (mOwn (mC (.fz (.int 12582917)))) (mCons (mAt 4) mNil)))) mNil)))) (mCons (mOwn (mOp (l2 fMul) (mCons (mOwn (mC (.fz (.int 7)))) (mCons (mAt 2) mNil)))) mNil)))) (mCons (mOwn (mC (.fz (.int 3)))) mNil)))) (mCons (mOwn (mC (.fz (.int 4294967189)))) mNil))))
    (mRet (mOp (l2 fMod) (mCons (mOwn (mOp (l2 fDiv) (mCons (mOwn (mOp (l2 fMod) (mCons (mOwn (mOp (l2 fMul) (mCons (mAt 4) (mCons (mOwn (mOp (l2 fAdd) (mCons (mAt 4) (mCons (mOwn (mC (.fz (.int 25165843)))) mNil)))) mNil)))) (mCons (mOwn (mC (.fz (.int 4294967291)))) mNil)))) (mCons (mOwn (mC (.fz (.int 64)))) mNil)))) (mCons (mAt 1) mNil)))))))))))))
noncomputable def f_l_draw : MF := runF 6 2 [true, true] b_l_draw
theorem sc_l_pick : FnScope ["_law_pen_here", "_law_options"] ["_law_pen_here", "_law_options"] (defScope s_l_pick) := ⟨rfl, rfl, rfl, by decide +kernel, rfl, by decide +kernel, by decide +kernel⟩
noncomputable def b_l_pick : MS :=
    (mRet (mOp (l2 fIxA) (mCons (mAt 1) (mCons (mOwn (mCall f_l_draw (mCons (mAt 0) (mCons (mOwn (mOp (l1 fLen) (mCons (mAt 1) mNil))) mNil)))) mNil))))
noncomputable def f_l_pick : MF := runF 2 2 [true, true] b_l_pick
theorem sc_l_normal : FnScope ["_law_prime", "_law_pairs", "_law_terms", "_law_kept", "_law_exponent", "_law_coefficient"] ["_law_prime", "_law_pairs"] (defScope s_l_normal) := ⟨rfl, rfl, rfl, by decide +kernel, rfl, by decide +kernel, by decide +kernel⟩
noncomputable def lg_l_normal_1 : MG := (gTp 2 (gsCons (gNm 4) (gsCons (gNm 5) gsNil)))
noncomputable def lb_l_normal_1 : MS :=
    (mPut 2 (mFz (mOp (l2 fMod) (mCons (mOwn (mOp (l2 fAdd) (mCons (mOwn (mGet (mAt 2) (mCons (mAt 4) (mCons (mOwn (mC (.fz (.int 0)))) mNil)))) (mCons (mAt 5) mNil)))) (mCons (mAt 0) mNil)))) (mFz (mNm 4)))
noncomputable def cg_l_normal_2 : MG := (gNm 4)
noncomputable def ct_l_normal_2 : MT := (mBl (mOp (l2 fNe) (mCons (mOwn (mOp (l2 fIxA) (mCons (mAt 2) (mCons (mAt 4) mNil)))) (mCons (mOwn (mC (.fz (.int 0)))) mNil))))
noncomputable def cm_l_normal_2 : MD := (mFz (mNm 4))
noncomputable def cg_l_normal_3 : MG := (gNm 4)
noncomputable def cm_l_normal_3 : MD := (mFz (mTup (mCons (mAt 4) (mCons (mOwn (mOp (l2 fIxA) (mCons (mAt 2) (mCons (mAt 4) mNil)))) mNil))))
noncomputable def b_l_normal : MS :=
    (mSeq (mSet 2 (mC (.oD [])))
    (mSeq (mFor (mIt (mFz (mNm 1))) lg_l_normal_1 lb_l_normal_1)
    (mSeq (mSet 3 (mComp [4] (mIt (mFz (mOp (l1 fSorted) (mCons (mAt 2) mNil)))) cg_l_normal_2 ct_l_normal_2 cm_l_normal_2))
    (mRet (mOp (l1 fTuple) (mCons (mOwn (mComp [4] (mIt (mFz (mNm 3))) cg_l_normal_3 mYes cm_l_normal_3)) mNil))))))
noncomputable def f_l_normal : MF := runF 6 2 [true, true] b_l_normal
theorem sc_l_sum : FnScope ["_law_prime", "_law_one", "_law_other"] ["_law_prime", "_law_one", "_law_other"] (defScope s_l_sum) := ⟨rfl, rfl, rfl, by decide +kernel, rfl, by decide +kernel, by decide +kernel⟩
noncomputable def b_l_sum : MS :=
    (mRet (mCall f_l_normal (mCons (mAt 0) (mCons (mOwn (mOp (l2 fAdd) (mCons (mAt 1) (mCons (mAt 2) mNil)))) mNil))))
noncomputable def f_l_sum : MF := runF 3 3 [true, true, true] b_l_sum
theorem sc_l_moved : FnScope ["_law_polynomial", "_law_places", "_law_pairs", "_law_place", "_law_value"] ["_law_polynomial", "_law_places"] (defScope s_l_moved) := ⟨rfl, rfl, rfl, by decide +kernel, rfl, by decide +kernel, by decide +kernel⟩
noncomputable def cg_l_moved_1 : MG := (gTp 2 (gsCons (gNm 3) (gsCons (gNm 4) gsNil)))
noncomputable def cm_l_moved_1 : MD := (mFz (mTup (mCons (mOwn (mOp (l2 fAdd) (mCons (mAt 3) (mCons (mAt 1) mNil)))) (mCons (mAt 4) mNil))))
noncomputable def b_l_moved : MS :=
    (mSeq (mSet 2 (mComp [3, 4] (mIt (mFz (mNm 0))) cg_l_moved_1 mYes cm_l_moved_1))
    (mRet (mOp (l1 fTuple) (mCons (mAt 2) mNil))))
noncomputable def f_l_moved : MF := runF 5 2 [true, true] b_l_moved
theorem sc_l_then : FnScope ["_law_prime", "_law_one", "_law_other"] ["_law_prime", "_law_one", "_law_other"] (defScope s_l_then) := ⟨rfl, rfl, rfl, by decide +kernel, rfl, by decide +kernel, by decide +kernel⟩
noncomputable def b_l_then : MS :=
    (mRet (mTup (mCons (mOwn (mCall f_l_sum (mCons (mAt 0) (mCons (mOwn (mOp (l2 fIxA) (mCons (mAt 1) (mCons (mOwn (mC (.fz (.int 0)))) mNil)))) (mCons (mOwn (mCall f_l_moved (mCons (mOwn (mOp (l2 fIxA) (mCons (mAt 2) (mCons (mOwn (mC (.fz (.int 0)))) mNil)))) (mCons (mOwn (mOp (l2 fIxA) (mCons (mAt 1) (mCons (mOwn (mC (.fz (.int 1)))) mNil)))) mNil)))) mNil))))) (mCons (mOwn (mOp (l2 fAdd) (mCons (mOwn (mOp (l2 fIxA) (mCons (mAt 1) (mCons (mOwn (mC (.fz (.int 1)))) mNil)))) (mCons (mOwn (mOp (l2 fIxA) (mCons (mAt 2) (mCons (mOwn (mC (.fz (.int 1)))) mNil)))) mNil)))) mNil))))
noncomputable def f_l_then : MF := runF 3 3 [true, true, true] b_l_then
theorem sc_l_unit_effect : FnScope ["_law_prime", "_law_program", "_law_unit", "_law_dials", "_law_here"] ["_law_prime", "_law_program"] (defScope s_l_unit_effect) := ⟨rfl, rfl, rfl, by decide +kernel, rfl, by decide +kernel, by decide +kernel⟩
noncomputable def lg_l_unit_effect_1 : MG := (gNm 2)
noncomputable def lb_l_unit_effect_1 : MS :=
    (mSeq (mIf (mBl (mOp (l2 fNotIn) (mCons (mOwn (mOp (l1 fRepr) (mCons (mAt 2) mNil))) (mCons (mOwn (mLst (mCons (mOwn (mC (.fz (.str "('step', 1)")))) (mCons (mOwn (mC (.fz (.str "('step', -1)")))) (mCons (mOwn (mC (.fz (.str "('turn', 1)")))) (mCons (mOwn (mC (.fz (.str "('turn', -1)")))) mNil)))))) mNil))))
    (mRet (mC (.fz .none)))
    mNext)
    (mIf (mBl (mOp (l2 fEq) (mCons (mOwn (mOp (l2 fIxA) (mCons (mAt 2) (mCons (mOwn (mC (.fz (.int 0)))) mNil)))) (mCons (mOwn (mC (.fz (.str "step")))) mNil))))
    (mSet 4 (mOp (l2 fAdd) (mCons (mAt 4) (mCons (mOwn (mOp (l2 fIxA) (mCons (mAt 2) (mCons (mOwn (mC (.fz (.int 1)))) mNil)))) mNil))))
    (mPut 3 (mFz (mOp (l2 fAdd) (mCons (mOwn (mGet (mAt 3) (mCons (mAt 4) (mCons (mOwn (mC (.fz (.int 0)))) mNil)))) (mCons (mOwn (mOp (l2 fIxA) (mCons (mAt 2) (mCons (mOwn (mC (.fz (.int 1)))) mNil)))) mNil)))) (mFz (mNm 4)))))
noncomputable def b_l_unit_effect : MS :=
    (mSeq (mIf (mNot (mIsi "list" (mAt 1)))
    (mRet (mC (.fz .none)))
    mNext)
    (mSeq (mPar2 3 4 (mCons (mOwn (mC (.oD []))) (mCons (mOwn (mC (.fz (.int 0)))) mNil)))
    (mSeq (mForO 1 lg_l_unit_effect_1 lb_l_unit_effect_1)
    (mRet (mTup (mCons (mOwn (mCall f_l_normal (mCons (mAt 0) (mCons (mOwn (mItems 3)) mNil)))) (mCons (mAt 4) mNil)))))))
noncomputable def f_l_unit_effect : MF := runF 5 2 [true, true] b_l_unit_effect
theorem sc_l_units : FnScope ["_law_prime"] ["_law_prime"] (defScope s_l_units) := ⟨rfl, rfl, rfl, by decide +kernel, rfl, by decide +kernel, by decide +kernel⟩
noncomputable def b_l_units : MS :=
    (mRet (mLst (mCons (mOwn (mTup (mCons (mOwn (mTup mNil)) (mCons (mOwn (mC (.fz (.int 1)))) mNil)))) (mCons (mOwn (mTup (mCons (mOwn (mTup mNil)) (mCons (mOwn (mOp (l1 fNeg) (mCons (mOwn (mC (.fz (.int 1)))) mNil))) mNil)))) (mCons (mOwn (mTup (mCons (mOwn (mTup (mCons (mOwn (mTup (mCons (mOwn (mC (.fz (.int 0)))) (mCons (mOwn (mC (.fz (.int 1)))) mNil)))) mNil))) (mCons (mOwn (mC (.fz (.int 0)))) mNil)))) (mCons (mOwn (mTup (mCons (mOwn (mTup (mCons (mOwn (mTup (mCons (mOwn (mC (.fz (.int 0)))) (mCons (mOwn (mOp (l2 fSub) (mCons (mAt 0) (mCons (mOwn (mC (.fz (.int 1)))) mNil)))) mNil)))) mNil))) (mCons (mOwn (mC (.fz (.int 0)))) mNil)))) mNil))))))
noncomputable def f_l_units : MF := runF 1 1 [true] b_l_units
theorem sc_l_ball : FnScope ["_law_prime", "_law_radius", "_law_distance", "_law_found", "_law_border", "_law_further", "_law_effect", "_law_unit", "_law_there"] ["_law_prime", "_law_radius"] (defScope s_l_ball) := ⟨rfl, rfl, rfl, by decide +kernel, rfl, by decide +kernel, by decide +kernel⟩
noncomputable def lg_l_ball_1 : MG := (gNm 7)
noncomputable def lb_l_ball_1 : MS :=
    (mSeq (mSet 8 (mCall f_l_then (mCons (mAt 0) (mCons (mAt 6) (mCons (mAt 7) mNil)))))
    (mIf (mBl (mOp (l2 fNiK) (mCons (mAt 8) (mCons (mAt 3) mNil))))
    (mSeq (mPutN 3 (mFz (mNm 2)) (mFz (mNm 8)))
    (mDrop (mLM1 gApp 5 (mFz (mNm 8)))))
    mNext))
noncomputable def lg_l_ball_2 : MG := (gNm 6)
noncomputable def lb_l_ball_2 : MS :=
    (mFor (mIt (mFz (mCall f_l_units (mCons (mAt 0) mNil)))) lg_l_ball_1 lb_l_ball_1)
noncomputable def lg_l_ball_3 : MG := (gNm 2)
noncomputable def lb_l_ball_3 : MS :=
    (mSeq (mSet 5 (mLst mNil))
    (mSeq (mFor (mIt (mFz (mNm 4))) lg_l_ball_2 lb_l_ball_2)
    (mSet 4 (mNm 5))))
noncomputable def b_l_ball : MS :=
    (mSeq (mPar2 3 4 (mCons (mOwn (mDisN (mFz (mTup (mCons (mOwn (mTup mNil)) (mCons (mOwn (mC (.fz (.int 0)))) mNil)))) (mFz (mC (.fz (.int 0)))))) (mCons (mOwn (mLst (mCons (mOwn (mTup (mCons (mOwn (mTup mNil)) (mCons (mOwn (mC (.fz (.int 0)))) mNil)))) mNil))) mNil)))
    (mSeq (mFor (mRg2 (mCons (mOwn (mC (.fz (.int 1)))) (mCons (mOwn (mOp (l2 fAdd) (mCons (mAt 1) (mCons (mOwn (mC (.fz (.int 1)))) mNil)))) mNil))) lg_l_ball_3 lb_l_ball_3)
    (mRet (mMv 3))))
noncomputable def f_l_ball : MF := runF 9 2 [true, true] b_l_ball
theorem sc_law : FnScope ["_law_script", "_law_pen_here", "_law_prime", "_law_found", "_law_effect", "_law_several", "_law_turn", "_law_program"] ["_law_script"] (defScope s_law) := ⟨rfl, rfl, rfl, by decide +kernel, rfl, by decide +kernel, by decide +kernel⟩
noncomputable def lg_law_1 : MG := (gNm 4)
noncomputable def lb_law_1 : MS :=
    (mIf (mBl (mOp (l2 fNe) (mCons (mOwn (mOp (l1 fRepr) (mCons (mOwn (mCall f_p_length (mCons (mAt 2) (mCons (mAt 4) mNil)))) mNil))) (mCons (mOwn (mOp (l1 fRepr) (mCons (mOwn (mOp (l2 fIxN) (mCons (mAt 3) (mCons (mAt 4) mNil)))) mNil))) mNil))))
    (mRet (mC (.fz (.bool false))))
    mNext)
noncomputable def lg_law_2 : MG := (gNm 6)
noncomputable def lb_law_2 : MS :=
    (mSeq (mSet 4 (mCall f_l_pick (mCons (mAt 1) (mCons (mAt 5) mNil))))
    (mSeq (mSet 7 (mCall f_p_shortest_program (mCons (mAt 2) (mCons (mAt 4) mNil))))
    (mIf (mOrT (mBl (mOp (l2 fNe) (mCons (mOwn (mOp (l1 fLen) (mCons (mAt 7) mNil))) (mCons (mOwn (mOp (l2 fIxN) (mCons (mAt 3) (mCons (mAt 4) mNil)))) mNil)))) (mBl (mOp (l2 fNe) (mCons (mOwn (mCall f_l_unit_effect (mCons (mAt 2) (mCons (mAt 7) mNil)))) (mCons (mAt 4) mNil)))))
    (mRet (mC (.fz (.bool false))))
    mNext)))
noncomputable def b_law : MS :=
    (mSeq (mSet 1 (mCall f_l_pen (mCons (mAt 0) mNil)))
    (mSeq (mSet 2 (mCall f_l_pick (mCons (mAt 1) (mCons (mOwn (mLst (mCons (mOwn (mC (.fz (.int 2)))) (mCons (mOwn (mC (.fz (.int 2)))) (mCons (mOwn (mC (.fz (.int 3)))) (mCons (mOwn (mC (.fz (.int 3)))) (mCons (mOwn (mC (.fz (.int 5)))) (mCons (mOwn (mC (.fz (.int 7)))) (mCons (mOwn (mC (.fz (.int 11)))) (mCons (mOwn (mC (.fz (.int 97)))) mNil)))))))))) mNil))))
    (mSeq (mSet 3 (mFrzK (mCall f_l_ball (mCons (mAt 2) (mCons (mOwn (mIfE (mBl (mOp (l2 fEq) (mCons (mAt 2) (mCons (mOwn (mC (.fz (.int 2)))) mNil)))) (mC (.fz (.int 7))) (mIfE (mBl (mOp (l2 fEq) (mCons (mAt 2) (mCons (mOwn (mC (.fz (.int 3)))) mNil)))) (mC (.fz (.int 6))) (mC (.fz (.int 5)))))) mNil)))))
    (mSeq (mFor (mItN 3) lg_law_1 lb_law_1)
    (mSeq (mSet 5 (mOp (l1 fListN) (mCons (mAt 3) mNil)))
    (mSeq (mFor (mRg1 (mCons (mOwn (mC (.fz (.int 20)))) mNil)) lg_law_2 lb_law_2)
    (mRet (mC (.fz (.bool true))))))))))
noncomputable def f_law : MF := runF 8 1 [true] b_law
structure Txt (K : PySem.W.Frag) (mg : Str → Option Value) where
  a_p_turn_cost : Addr
  d_p_turn_cost : FuncData
  F_p_turn_cost : Fun K "turn_cost" "turn_cost" s_p_turn_cost a_p_turn_cost d_p_turn_cost
  B_p_turn_cost : Binds K d_p_turn_cost ["prime", "coefficient"] []
  m_p_turn_cost : mg "turn_cost" = some (.ref a_p_turn_cost)
  a_p_walk_ends : Addr
  d_p_walk_ends : FuncData
  F_p_walk_ends : Fun K "walk_ends" "walk_ends" s_p_walk_ends a_p_walk_ends d_p_walk_ends
  B_p_walk_ends : Binds K d_p_walk_ends ["effect"] []
  m_p_walk_ends : mg "walk_ends" = some (.ref a_p_walk_ends)
  a_p_length : Addr
  d_p_length : FuncData
  F_p_length : Fun K "length" "length" s_p_length a_p_length d_p_length
  B_p_length : Binds K d_p_length ["prime", "effect"] []
  m_p_length : mg "length" = some (.ref a_p_length)
  a_p_unit_turns : Addr
  d_p_unit_turns : FuncData
  F_p_unit_turns : Fun K "unit_turns" "unit_turns" s_p_unit_turns a_p_unit_turns d_p_unit_turns
  B_p_unit_turns : Binds K d_p_unit_turns ["prime", "coefficient"] []
  m_p_unit_turns : mg "unit_turns" = some (.ref a_p_unit_turns)
  a_p_unit_steps : Addr
  d_p_unit_steps : FuncData
  F_p_unit_steps : Fun K "unit_steps" "unit_steps" s_p_unit_steps a_p_unit_steps d_p_unit_steps
  B_p_unit_steps : Binds K d_p_unit_steps ["start", "stop"] []
  m_p_unit_steps : mg "unit_steps" = some (.ref a_p_unit_steps)
  a_p_shortest_program : Addr
  d_p_shortest_program : FuncData
  F_p_shortest_program : Fun K "shortest_program" "shortest_program" s_p_shortest_program a_p_shortest_program d_p_shortest_program
  B_p_shortest_program : Binds K d_p_shortest_program ["prime", "effect"] []
  m_p_shortest_program : mg "shortest_program" = some (.ref a_p_shortest_program)
  a_l_pen : Addr
  d_l_pen : FuncData
  F_l_pen : Fun K "_law_pen" "_law_pen" s_l_pen a_l_pen d_l_pen
  B_l_pen : Binds K d_l_pen ["_law_script"] []
  m_l_pen : mg "_law_pen" = some (.ref a_l_pen)
  a_l_draw : Addr
  d_l_draw : FuncData
  F_l_draw : Fun K "_law_draw" "_law_draw" s_l_draw a_l_draw d_l_draw
  B_l_draw : Binds K d_l_draw ["_law_pen_here", "_law_many"] []
  m_l_draw : mg "_law_draw" = some (.ref a_l_draw)
  a_l_pick : Addr
  d_l_pick : FuncData
  F_l_pick : Fun K "_law_pick" "_law_pick" s_l_pick a_l_pick d_l_pick
  B_l_pick : Binds K d_l_pick ["_law_pen_here", "_law_options"] []
  m_l_pick : mg "_law_pick" = some (.ref a_l_pick)
  a_l_normal : Addr
  d_l_normal : FuncData
  F_l_normal : Fun K "_law_normal" "_law_normal" s_l_normal a_l_normal d_l_normal
  B_l_normal : Binds K d_l_normal ["_law_prime", "_law_pairs"] []
  m_l_normal : mg "_law_normal" = some (.ref a_l_normal)
  a_l_sum : Addr
  d_l_sum : FuncData
  F_l_sum : Fun K "_law_sum" "_law_sum" s_l_sum a_l_sum d_l_sum
  B_l_sum : Binds K d_l_sum ["_law_prime", "_law_one", "_law_other"] []
  m_l_sum : mg "_law_sum" = some (.ref a_l_sum)
  a_l_moved : Addr
  d_l_moved : FuncData
  F_l_moved : Fun K "_law_moved" "_law_moved" s_l_moved a_l_moved d_l_moved
  B_l_moved : Binds K d_l_moved ["_law_polynomial", "_law_places"] []
  m_l_moved : mg "_law_moved" = some (.ref a_l_moved)
  a_l_then : Addr
  d_l_then : FuncData
  F_l_then : Fun K "_law_then" "_law_then" s_l_then a_l_then d_l_then
  B_l_then : Binds K d_l_then ["_law_prime", "_law_one", "_law_other"] []
  m_l_then : mg "_law_then" = some (.ref a_l_then)
  a_l_unit_effect : Addr
  d_l_unit_effect : FuncData
  F_l_unit_effect : Fun K "_law_unit_effect" "_law_unit_effect" s_l_unit_effect a_l_unit_effect d_l_unit_effect
  B_l_unit_effect : Binds K d_l_unit_effect ["_law_prime", "_law_program"] []
  m_l_unit_effect : mg "_law_unit_effect" = some (.ref a_l_unit_effect)
  a_l_units : Addr
  d_l_units : FuncData
  F_l_units : Fun K "_law_units" "_law_units" s_l_units a_l_units d_l_units
  B_l_units : Binds K d_l_units ["_law_prime"] []
  m_l_units : mg "_law_units" = some (.ref a_l_units)
  a_l_ball : Addr
  d_l_ball : FuncData
  F_l_ball : Fun K "_law_ball" "_law_ball" s_l_ball a_l_ball d_l_ball
  B_l_ball : Binds K d_l_ball ["_law_prime", "_law_radius"] []
  m_l_ball : mg "_law_ball" = some (.ref a_l_ball)
  a_law : Addr
  d_law : FuncData
  F_law : Fun K "law" "law" s_law a_law d_law
  B_law : Binds K d_law ["_law_script"] []
  m_law : mg "law" = some (.ref a_law)
  z_min : mg "min" = none
  z_max : mg "max" = none
  z_sum : mg "sum" = none
  z_abs : mg "abs" = none
  z_list : mg "list" = none
  z_len : mg "len" = none
  z_sorted : mg "sorted" = none
  z_tuple : mg "tuple" = none
  z_isinstance : mg "isinstance" = none
  z_repr : mg "repr" = none
  z_range : mg "range" = none
  g_MAX_LENGTH : ∃ v u, mg "MAX_LENGTH" = some u ∧ RelV v u ∧ ∀ s : S, Rep K s v (.int 10000)
section
variable {P : Program} {w : World} {K : PySem.W.Frag} {mg : Str → Option Value} {base : Heap}
theorem ok_p_turn_cost (T : Txt K mg) : FnG P w K mg base 1 T.a_p_turn_cost T.d_p_turn_cost ["prime", "coefficient"] (FnD K 2 f_p_turn_cost) :=
  okD (N := ["prime", "coefficient"]) (fl := [true, true]) (fx := [0, 1]) (m := b_p_turn_cost) T.F_p_turn_cost sc_p_turn_cost rfl (by decide) fun cdv A fr s H E hr hg =>
    (.one (.ret (.min2 rfl rfl T.z_min (.cons (.at 1) (.cons (.own (.sub (.cons (.at 0) (.cons (.at 1) .nil)))) .nil)))))
theorem ok_p_walk_ends (T : Txt K mg) : FnG P w K mg base 1 T.a_p_walk_ends T.d_p_walk_ends ["effect"] (FnD K 1 f_p_walk_ends) :=
  okD (N := ["effect", "places", "exponent", "coefficient"]) (fl := [true]) (fx := [0]) (m := b_p_walk_ends) T.F_p_walk_ends sc_p_walk_ends rfl (by decide) fun cdv A fr s H E hr hg =>
    (.cons (.set sc_p_walk_ends.nd (.add (.cons (.own (.lst (.cons (.own .int) (.cons (.own (.at_ hr (.cons (.at 0) (.cons (.own .int) .nil)))) .nil)))) (.cons (.own (.comp [("exponent", 2), ("coefficient", 3)] rfl sc_p_walk_ends.nd (.seq (.of (.at_ hr (.cons (.at 0) (.cons (.own .int) .nil))))) (blkOk_by (N := ["effect", "places", "exponent", "coefficient"]) (sc := defScope s_p_walk_ends) (by decide +kernel)) (fun _ _ _ _ _ => (.tup 2 rfl (.cons (.nm 2 sc_p_walk_ends.nd) (.cons (.nm 3 sc_p_walk_ends.nd) .nil)))) (fun _ _ _ _ _ => .nil) (fun _ _ _ _ _ => (.of (.nm 2))))) .nil))))
    (.one (.ret (.tup (.cons (.own (.min1 rfl rfl T.z_min (.cons (.at 1) .nil))) (.cons (.own (.max1 rfl rfl T.z_max (.cons (.at 1) .nil))) .nil))))))
theorem ok_p_length (T : Txt K mg) : FnG P w K mg base 2 T.a_p_length T.d_p_length ["prime", "effect"] (FnD K 2 f_p_length) :=
  okD (N := ["prime", "effect", "turns", "low", "high", "exponent", "coefficient"]) (fl := [true, true]) (fx := [0, 1]) (m := b_p_length) T.F_p_length sc_p_length rfl (by decide) fun cdv A fr s H E hr hg =>
    (.cons (.asg (.call (ok_p_walk_ends T) (hr.mono (by decide)) hg rfl T.m_p_walk_ends T.F_p_walk_ends.kp T.B_p_walk_ends runF_len (.cons (.at 1) .nil)) (.tup 2 rfl (.cons (.nm 3 sc_p_length.nd) (.cons (.nm 4 sc_p_length.nd) .nil))))
    (.cons (.set sc_p_length.nd (.sum rfl rfl T.z_sum (.cons (.own (.comp [("exponent", 5), ("coefficient", 6)] rfl sc_p_length.nd (.seq (.of (.at_ hr (.cons (.at 1) (.cons (.own .int) .nil))))) (blkOk_by (N := ["prime", "effect", "turns", "low", "high", "exponent", "coefficient"]) (sc := defScope s_p_length) (by decide +kernel)) (fun _ _ _ _ _ => (.tup 2 rfl (.cons (.nm 5 sc_p_length.nd) (.cons (.nm 6 sc_p_length.nd) .nil)))) (fun _ _ _ _ _ => .nil) (fun _ _ _ _ _ => (.of (.call (ok_p_turn_cost T) (hr.mono (by decide)) hg rfl T.m_p_turn_cost T.F_p_turn_cost.kp T.B_p_turn_cost runF_len (.cons (.at 0) (.cons (.at 6) .nil))))))) .nil)))
    (.one (.ret (.add (.cons (.own (.sub (.cons (.own (.mul (.cons (.own .int) (.cons (.own (.sub (.cons (.at 4) (.cons (.at 3) .nil)))) .nil)))) (.cons (.own (.abs rfl T.z_abs (.cons (.own (.at_ hr (.cons (.at 1) (.cons (.own .int) .nil)))) .nil))) .nil)))) (.cons (.at 2) .nil)))))))
theorem ok_p_unit_turns (T : Txt K mg) : FnG P w K mg base 1 T.a_p_unit_turns T.d_p_unit_turns ["prime", "coefficient"] (FnD K 2 f_p_unit_turns) :=
  okD (N := ["prime", "coefficient"]) (fl := [true, true]) (fx := [0, 1]) (m := b_p_unit_turns) T.F_p_unit_turns sc_p_unit_turns rfl (by decide) fun cdv A fr s H E hr hg =>
    (.cons (.ite (.le (.cons (.own (.mul (.cons (.own .int) (.cons (.at 1) .nil)))) (.cons (.at 0) .nil)))
    (.one (.ret (.rep (.cons (.own (.lst (.cons (.own (.tup (.cons (.own .str) (.cons (.own .int) .nil)))) .nil))) (.cons (.at 1) .nil)))))
    .nil)
    (.one (.ret (.rep (.cons (.own (.lst (.cons (.own (.tup (.cons (.own .str) (.cons (.own (.neg (.cons (.own .int) .nil))) .nil)))) .nil))) (.cons (.own (.sub (.cons (.at 0) (.cons (.at 1) .nil)))) .nil))))))
theorem ok_p_unit_steps (T : Txt K mg) : FnG P w K mg base 1 T.a_p_unit_steps T.d_p_unit_steps ["start", "stop"] (FnD K 2 f_p_unit_steps) :=
  okD (N := ["start", "stop"]) (fl := [true, true]) (fx := [0, 1]) (m := b_p_unit_steps) T.F_p_unit_steps sc_p_unit_steps rfl (by decide) fun cdv A fr s H E hr hg =>
    (.one (.ret (.rep (.cons (.own (.lst (.cons (.own (.tup (.cons (.own .str) (.cons (.own (.ife (.lt (.cons (.at 0) (.cons (.at 1) .nil))) .int (.neg (.cons (.own .int) .nil)))) .nil)))) .nil))) (.cons (.own (.abs rfl T.z_abs (.cons (.own (.sub (.cons (.at 1) (.cons (.at 0) .nil)))) .nil))) .nil)))))
theorem ok_p_shortest_program (T : Txt K mg) : FnG P w K mg base 3 T.a_p_shortest_program T.d_p_shortest_program ["prime", "effect"] (FnD K 2 f_p_shortest_program) :=
  okD (N := ["prime", "effect", "visits", "polynomial", "shift", "low", "high", "program", "here", "place", "coefficient"]) (fl := [true, true]) (fx := [0, 1]) (m := b_p_shortest_program) T.F_p_shortest_program sc_p_shortest_program rfl (by decide) fun cdv A fr s H E hr hg =>
    (.cons (.ite (.gt (.cons (.own (.call (ok_p_length T) (hr.mono (by decide)) hg rfl T.m_p_length T.F_p_length.kp T.B_p_length runF_len (.cons (.at 0) (.cons (.at 1) .nil)))) (.cons (.own (.glob (x := "MAX_LENGTH") rfl T.g_MAX_LENGTH)) .nil)))
    (.one .never)
    .nil)
    (.cons (.asg (.nm 1) (.tup 2 rfl (.cons (.nm 3 sc_p_shortest_program.nd) (.cons (.nm 4 sc_p_shortest_program.nd) .nil))))
    (.cons (.asg (.call (ok_p_walk_ends T) (hr.mono (by decide)) hg rfl T.m_p_walk_ends T.F_p_walk_ends.kp T.B_p_walk_ends runF_len (.cons (.at 1) .nil)) (.tup 2 rfl (.cons (.nm 5 sc_p_shortest_program.nd) (.cons (.nm 6 sc_p_shortest_program.nd) .nil))))
    (.cons (.set sc_p_shortest_program.nd (.add (.cons (.own (.add (.cons (.own (.lst (.cons (.own (.tup (.cons (.at 5) (.cons (.own .int) .nil)))) .nil))) (.cons (.own (.list rfl rfl T.z_list (.cons (.at 3) .nil))) .nil)))) (.cons (.own (.lst (.cons (.own (.tup (.cons (.at 6) (.cons (.own .int) .nil)))) .nil))) .nil))))
    (.cons (.par2 rfl sc_p_shortest_program.nd (.cons (.own (.lst .nil)) (.cons (.own .int) .nil)))
    (.cons (.for_ PassesOwn.never rfl (.seq (.of (.add (.cons (.own (.ife (.ge (.cons (.at 4) (.cons (.own .int) .nil))) (.nm 2) (.revL (.at 2)))) (.cons (.own (.lst (.cons (.own (.tup (.cons (.at 4) (.cons (.own .int) .nil)))) .nil))) .nil))))) (.tup 2 rfl (.cons (.nm 9 sc_p_shortest_program.nd) (.cons (.nm 10 sc_p_shortest_program.nd) .nil)))
    (.cons (.expr (.lext 7 (.call (ok_p_unit_steps T) (hr.mono (by decide)) hg rfl T.m_p_unit_steps T.F_p_unit_steps.kp T.B_p_unit_steps runF_len (.cons (.at 8) (.cons (.at 9) .nil)))))
    (.cons (.expr (.lext 7 (.call (ok_p_unit_turns T) (hr.mono (by decide)) hg rfl T.m_p_unit_turns T.F_p_unit_turns.kp T.B_p_unit_turns runF_len (.cons (.at 0) (.cons (.at 10) .nil)))))
    (.one (.set sc_p_shortest_program.nd (.nm 9))))))
    (.one (.ret (.mv 7)))))))))
theorem ok_l_pen (T : Txt K mg) : FnG P w K mg base 1 T.a_l_pen T.d_l_pen ["_law_script"] (FnD K 1 f_l_pen) :=
  okD (N := ["_law_script"]) (fl := [true]) (fx := [0]) (m := b_l_pen) T.F_l_pen sc_l_pen rfl (by decide) fun cdv A fr s H E hr hg =>
    (.one (.ret (.dic (.cons (key := .inr "cells") pe_str (.of (.list rfl rfl T.z_list (.cons (.own (.cut (.at 0) .no (.so .int))) .nil))) (.cons (key := .inr "used") pe_str (.of .int) (.cons (key := .inr "left") pe_str (.of .int) .nil))))))
theorem ok_l_draw (T : Txt K mg) : FnG P w K mg base 1 T.a_l_draw T.d_l_draw ["_law_pen_here", "_law_many"] (FnD K 2 f_l_draw) :=
  okD (N := ["_law_pen_here", "_law_many", "_law_used", "_law_cell", "_law_blend", "_law_digit"]) (fl := [true, true]) (fx := [0, 1]) (m := b_l_draw) T.F_l_draw sc_l_draw rfl (by decide) fun cdv A fr s H E hr hg =>
    (.cons (.ite (.gt (.cons (.own (.at_ hr (.cons (.at 0) (.cons (.own .str) .nil)))) (.cons (.own .int) .nil)))
    (.cons (.set sc_l_draw.nd (.mod (.cons (.own (.at_ hr (.cons (.at 0) (.cons (.own .str) .nil)))) (.cons (.at 1) .nil))))
    (.cons (.put 0 hr (.of (.div (.cons (.own (.at_ hr (.cons (.at 0) (.cons (.own .str) .nil)))) (.cons (.at 1) .nil)))) (.of .str))
    (.one (.ret (.mv 5)))))
    .nil)
    (.cons (.set sc_l_draw.nd (.at_ hr (.cons (.at 0) (.cons (.own .str) .nil))))
    (.cons (.put 0 hr (.of (.add (.cons (.at 2) (.cons (.own .int) .nil)))) (.of .str))
    (.cons (.set sc_l_draw.nd (.add (.cons (.own (.mul (.cons (.own .int) (.cons (.at 2) .nil)))) (.cons (.own .int) .nil))))
    (.cons (.ite (.ne hr (.cons (.own (.at_ hr (.cons (.at 0) (.cons (.own .str) .nil)))) (.cons (.own (.lst .nil)) .nil)))
    (.one (.set sc_l_draw.nd (.at_ hr (.cons (.own (.at_ hr (.cons (.at 0) (.cons (.own .str) .nil)))) (.cons (.own (.mod (.cons (.at 2) (.cons (.own (.len rfl T.z_len (.cons (.own (.at_ hr (.cons (.at 0) (.cons (.own .str) .nil)))) .nil))) .nil)))) .nil)))))
    .nil)
    (.cons (.ite (DW.t (.and (.lt (.cons (.at 2) (.cons (.own (.len rfl T.z_len (.cons (.own (.at_ hr (.cons (.at 0) (.cons (.own .str) .nil)))) .nil))) .nil))) (.and1 (.ge (.cons (.own (.abs rfl T.z_abs (.cons (.at 3) .nil))) (.cons (.own (.pow (.cons (.own .int) (.cons (.own .int) .nil)))) .nil))))))
    (.cons (.put 0 hr (.of (.div (.cons (.own (.sub (.cons (.own (.abs rfl T.z_abs (.cons (.at 3) .nil))) (.cons (.own (.pow (.cons (.own .int) (.cons (.own .int) .nil)))) .nil)))) (.cons (.at 1) .nil)))) (.of .str))
    (.one (.ret (.mod (.cons (.own (.sub (.cons (.own (.abs rfl T.z_abs (.cons (.at 3) .nil))) (.cons (.own (.pow (.cons (.own .int) (.cons (.own .int) .nil)))) .nil)))) (.cons (.at 1) .nil))))))
    .nil)
    (.cons (.set sc_l_draw.nd (.add (.cons (.own (.mul (.cons (.own (.mod (.cons (.at 3) (.cons (.own .int) .nil)))) (.cons (.own .int) .nil)))) (.cons (.own (.mul (.cons (.own (.mul (.cons (.own .int) (.cons (.at 2) .nil)))) (.cons (.at 2) .nil)))) .nil))))
    (.cons (.set sc_l_draw.nd (.mod (.cons (.own (.add (.cons (.own (.add (.cons (.at 4) (.cons (.own (.mul (.cons (.own .int) (.cons (.at 2) .nil)))) .nil)))) (.cons (.own .int) .nil)))) (.cons (.own .int) .nil))))
    (.cons (.set sc_l_draw.nd (.mod (.cons (.own (.add (.cons (.own (.add (.cons (.own (.add (.cons (.own (.mul (.cons (.at 4) (.cons (.at 4) .nil)))) (.cons (.own (.mul (.cons (.own .int) (.cons (.at 4) .nil)))) .nil)))) (.cons (.own (.mul (.cons (.own .int) (.cons (.at 2) .nil)))) .nil)))) (.cons (.own .int) .nil)))) (.cons (.own .int) .nil))))
    (.one (.ret (.mod (.cons (.own (.div (.cons (.own (.mod (.cons (.own (.mul (.cons (.at 4) (.cons (.own (.add (.cons (.at 4) (.cons (.own .int) .nil)))) .nil)))) (.cons (.own .int) .nil)))) (.cons (.own .int) .nil)))) (.cons (.at 1) .nil))))))))))))))
theorem ok_l_pick (T : Txt K mg) : FnG P w K mg base 2 T.a_l_pick T.d_l_pick ["_law_pen_here", "_law_options"] (FnD K 2 f_l_pick) :=
  okD (N := ["_law_pen_here", "_law_options"]) (fl := [true, true]) (fx := [0, 1]) (m := b_l_pick) T.F_l_pick sc_l_pick rfl (by decide) fun cdv A fr s H E hr hg =>
    (.one (.ret (.at_ hr (.cons (.at 1) (.cons (.own (.call (ok_l_draw T) (hr.mono (by decide)) hg rfl T.m_l_draw T.F_l_draw.kp T.B_l_draw runF_len (.cons (.at 0) (.cons (.own (.len rfl T.z_len (.cons (.at 1) .nil))) .nil)))) .nil)))))
theorem ok_l_normal (T : Txt K mg) : FnG P w K mg base 1 T.a_l_normal T.d_l_normal ["_law_prime", "_law_pairs"] (FnD K 2 f_l_normal) :=
  okD (N := ["_law_prime", "_law_pairs", "_law_terms", "_law_kept", "_law_exponent", "_law_coefficient"]) (fl := [true, true]) (fx := [0, 1]) (m := b_l_normal) T.F_l_normal sc_l_normal rfl (by decide) fun cdv A fr s H E hr hg =>
    (.cons (.set sc_l_normal.nd .dic0)
    (.cons (.for_ PassesOwn.never rfl (.seq (.of (.nm 1))) (.tup 2 rfl (.cons (.nm 4 sc_l_normal.nd) (.cons (.nm 5 sc_l_normal.nd) .nil)))
    (.one (.put 2 hr (.of (.mod (.cons (.own (.add (.cons (.own (.get hr (.at 2) (.cons (.at 4) (.cons (.own .int) .nil)) ⟨rfl, rfl, rfl, rfl⟩)) (.cons (.at 5) .nil)))) (.cons (.at 0) .nil)))) (.of (.nm 4)))))
    (.cons (.setComp [("_law_exponent", 4)] rfl sc_l_normal.nd (.seq (.of (.sorted rfl rfl T.z_sorted (.cons (.at 2) .nil)))) (blkOk_by (N := ["_law_prime", "_law_pairs", "_law_terms", "_law_kept", "_law_exponent", "_law_coefficient"]) (sc := defScope s_l_normal) (by decide +kernel)) (fun _ _ _ _ _ => (.nm 4 sc_l_normal.nd)) (fun _ _ _ _ _ => (.one (.ne hr (.cons (.own (.at_ hr (.cons (.at 2) (.cons (.at 4) .nil)))) (.cons (.own .int) .nil))))) (fun _ _ _ _ _ => (.of (.nm 4))))
    (.one (.ret (.tuple rfl T.z_tuple (.cons (.own (.comp [("_law_exponent", 4)] rfl sc_l_normal.nd (.seq (.of (.nm 3))) (blkOk_by (N := ["_law_prime", "_law_pairs", "_law_terms", "_law_kept", "_law_exponent", "_law_coefficient"]) (sc := defScope s_l_normal) (by decide +kernel)) (fun _ _ _ _ _ => (.nm 4 sc_l_normal.nd)) (fun _ _ _ _ _ => .nil) (fun _ _ _ _ _ => (.of (.tup (.cons (.at 4) (.cons (.own (.at_ hr (.cons (.at 2) (.cons (.at 4) .nil)))) .nil))))))) .nil)))))))
theorem ok_l_sum (T : Txt K mg) : FnG P w K mg base 2 T.a_l_sum T.d_l_sum ["_law_prime", "_law_one", "_law_other"] (FnD K 3 f_l_sum) :=
  okD (N := ["_law_prime", "_law_one", "_law_other"]) (fl := [true, true, true]) (fx := [0, 1, 2]) (m := b_l_sum) T.F_l_sum sc_l_sum rfl (by decide) fun cdv A fr s H E hr hg =>
    (.one (.ret (.call (ok_l_normal T) (hr.mono (by decide)) hg rfl T.m_l_normal T.F_l_normal.kp T.B_l_normal runF_len (.cons (.at 0) (.cons (.own (.add (.cons (.at 1) (.cons (.at 2) .nil)))) .nil)))))
theorem ok_l_moved (T : Txt K mg) : FnG P w K mg base 1 T.a_l_moved T.d_l_moved ["_law_polynomial", "_law_places"] (FnD K 2 f_l_moved) :=
  okD (N := ["_law_polynomial", "_law_places", "_law_pairs", "_law_place", "_law_value"]) (fl := [true, true]) (fx := [0, 1]) (m := b_l_moved) T.F_l_moved sc_l_moved rfl (by decide) fun cdv A fr s H E hr hg =>
    (.cons (.setComp [("_law_place", 3), ("_law_value", 4)] rfl sc_l_moved.nd (.seq (.of (.nm 0))) (blkOk_by (N := ["_law_polynomial", "_law_places", "_law_pairs", "_law_place", "_law_value"]) (sc := defScope s_l_moved) (by decide +kernel)) (fun _ _ _ _ _ => (.tup 2 rfl (.cons (.nm 3 sc_l_moved.nd) (.cons (.nm 4 sc_l_moved.nd) .nil)))) (fun _ _ _ _ _ => .nil) (fun _ _ _ _ _ => (.of (.tup (.cons (.own (.add (.cons (.at 3) (.cons (.at 1) .nil)))) (.cons (.at 4) .nil))))))
    (.one (.ret (.tuple rfl T.z_tuple (.cons (.at 2) .nil)))))
theorem ok_l_then (T : Txt K mg) : FnG P w K mg base 3 T.a_l_then T.d_l_then ["_law_prime", "_law_one", "_law_other"] (FnD K 3 f_l_then) :=
  okD (N := ["_law_prime", "_law_one", "_law_other"]) (fl := [true, true, true]) (fx := [0, 1, 2]) (m := b_l_then) T.F_l_then sc_l_then rfl (by decide) fun cdv A fr s H E hr hg =>
    (.one (.ret (.tup (.cons (.own (.call (ok_l_sum T) (hr.mono (by decide)) hg rfl T.m_l_sum T.F_l_sum.kp T.B_l_sum runF_len (.cons (.at 0) (.cons (.own (.at_ hr (.cons (.at 1) (.cons (.own .int) .nil)))) (.cons (.own (.call (ok_l_moved T) (hr.mono (by decide)) hg rfl T.m_l_moved T.F_l_moved.kp T.B_l_moved runF_len (.cons (.own (.at_ hr (.cons (.at 2) (.cons (.own .int) .nil)))) (.cons (.own (.at_ hr (.cons (.at 1) (.cons (.own .int) .nil)))) .nil)))) .nil))))) (.cons (.own (.add (.cons (.own (.at_ hr (.cons (.at 1) (.cons (.own .int) .nil)))) (.cons (.own (.at_ hr (.cons (.at 2) (.cons (.own .int) .nil)))) .nil)))) .nil)))))
theorem ok_l_unit_effect (T : Txt K mg) : FnG P w K mg base 2 T.a_l_unit_effect T.d_l_unit_effect ["_law_prime", "_law_program"] (FnD K 2 f_l_unit_effect) :=
  okD (N := ["_law_prime", "_law_program", "_law_unit", "_law_dials", "_law_here"]) (fl := [true, true]) (fx := [0, 1]) (m := b_l_unit_effect) T.F_l_unit_effect sc_l_unit_effect rfl (by decide) fun cdv A fr s H E hr hg =>
    (.cons (.ite (.not (DT.of (.isi rfl T.z_isinstance (.at 1) rfl T.z_list (by decide +kernel))))
    (.one (.ret .non))
    .nil)
    (.cons (.par2 rfl sc_l_unit_effect.nd (.cons (.own .dic0) (.cons (.own .int) .nil)))
    (.cons (.forO 1 PassesOwn.never rfl (.nm 2 sc_l_unit_effect.nd)
    (.cons (.ite (.nin hr (.cons (.own (.repr hr hg rfl T.z_repr (.cons (.at 2) .nil))) (.cons (.own (.lst (.cons (.own .str) (.cons (.own .str) (.cons (.own .str) (.cons (.own .str) .nil)))))) .nil)))
    (.one (.ret .non))
    .nil)
    (.one (.ite (.eq hr (.cons (.own (.at_ hr (.cons (.at 2) (.cons (.own .int) .nil)))) (.cons (.own .str) .nil)))
    (.one (.set sc_l_unit_effect.nd (.add (.cons (.at 4) (.cons (.own (.at_ hr (.cons (.at 2) (.cons (.own .int) .nil)))) .nil)))))
    (.one (.put 3 hr (.of (.add (.cons (.own (.get hr (.at 3) (.cons (.at 4) (.cons (.own .int) .nil)) ⟨rfl, rfl, rfl, rfl⟩)) (.cons (.own (.at_ hr (.cons (.at 2) (.cons (.own .int) .nil)))) .nil)))) (.of (.nm 4))))))))
    (.one (.ret (.tup (.cons (.own (.call (ok_l_normal T) (hr.mono (by decide)) hg rfl T.m_l_normal T.F_l_normal.kp T.B_l_normal runF_len (.cons (.at 0) (.cons (.own (.items 3 rfl rfl T.z_list)) .nil)))) (.cons (.at 4) .nil))))))))
theorem ok_l_units (T : Txt K mg) : FnG P w K mg base 1 T.a_l_units T.d_l_units ["_law_prime"] (FnD K 1 f_l_units) :=
  okD (N := ["_law_prime"]) (fl := [true]) (fx := [0]) (m := b_l_units) T.F_l_units sc_l_units rfl (by decide) fun cdv A fr s H E hr hg =>
    (.one (.ret (.lst (.cons (.own (.tup (.cons (.own (.tup .nil)) (.cons (.own .int) .nil)))) (.cons (.own (.tup (.cons (.own (.tup .nil)) (.cons (.own (.neg (.cons (.own .int) .nil))) .nil)))) (.cons (.own (.tup (.cons (.own (.tup (.cons (.own (.tup (.cons (.own .int) (.cons (.own .int) .nil)))) .nil))) (.cons (.own .int) .nil)))) (.cons (.own (.tup (.cons (.own (.tup (.cons (.own (.tup (.cons (.own .int) (.cons (.own (.sub (.cons (.at 0) (.cons (.own .int) .nil)))) .nil)))) .nil))) (.cons (.own .int) .nil)))) .nil)))))))
theorem ok_l_ball (T : Txt K mg) : FnG P w K mg base 4 T.a_l_ball T.d_l_ball ["_law_prime", "_law_radius"] (FnD K 2 f_l_ball) :=
  okD (N := ["_law_prime", "_law_radius", "_law_distance", "_law_found", "_law_border", "_law_further", "_law_effect", "_law_unit", "_law_there"]) (fl := [true, true]) (fx := [0, 1]) (m := b_l_ball) T.F_l_ball sc_l_ball rfl (by decide) fun cdv A fr s H E hr hg =>
    (.cons (.par2 rfl sc_l_ball.nd (.cons (.own (.disN hr (.of (.tup (.cons (.own (.tup .nil)) (.cons (.own .int) .nil)))) (.of .int))) (.cons (.own (.lst (.cons (.own (.tup (.cons (.own (.tup .nil)) (.cons (.own .int) .nil)))) .nil))) .nil)))
    (.cons (.for_ PassesOwn.never rfl (.rg2 rfl T.z_range (.cons (.own .int) (.cons (.own (.add (.cons (.at 1) (.cons (.own .int) .nil)))) .nil))) (.nm 2 sc_l_ball.nd)
    (.cons (.set sc_l_ball.nd (.lst .nil))
    (.cons (.for_ PassesOwn.never rfl (.seq (.of (.nm 4))) (.nm 6 sc_l_ball.nd)
    (.one (.for_ PassesOwn.never rfl (.seq (.of (.call (ok_l_units T) (hr.mono (by decide)) hg rfl T.m_l_units T.F_l_units.kp T.B_l_units runF_len (.cons (.at 0) .nil)))) (.nm 7 sc_l_ball.nd)
    (.cons (.set sc_l_ball.nd (.call (ok_l_then T) (hr.mono (by decide)) hg rfl T.m_l_then T.F_l_then.kp T.B_l_then runF_len (.cons (.at 0) (.cons (.at 6) (.cons (.at 7) .nil)))))
    (.one (.ite (.niK hr (.cons (.at 8) (.cons (.at 3) .nil)))
    (.cons (.putN 3 hr (.of (.nm 2)) (.of (.nm 8)))
    (.one (.expr (.lm1 5 PySem.F.slot_list_append PySem.F.type_list_append mt_append lm_app (.of (.nm 8))))))
    .nil))))))
    (.one (.set sc_l_ball.nd (.nm 5))))))
    (.one (.ret (.mv 3)))))
theorem ok_law (T : Txt K mg) : FnG P w K mg base 5 T.a_law T.d_law ["_law_script"] (FnD K 1 f_law) :=
  okD (N := ["_law_script", "_law_pen_here", "_law_prime", "_law_found", "_law_effect", "_law_several", "_law_turn", "_law_program"]) (fl := [true]) (fx := [0]) (m := b_law) T.F_law sc_law rfl (by decide) fun cdv A fr s H E hr hg =>
    (.cons (.set sc_law.nd (.call (ok_l_pen T) (hr.mono (by decide)) hg rfl T.m_l_pen T.F_l_pen.kp T.B_l_pen runF_len (.cons (.at 0) .nil)))
    (.cons (.set sc_law.nd (.call (ok_l_pick T) (hr.mono (by decide)) hg rfl T.m_l_pick T.F_l_pick.kp T.B_l_pick runF_len (.cons (.at 1) (.cons (.own (.lst (.cons (.own .int) (.cons (.own .int) (.cons (.own .int) (.cons (.own .int) (.cons (.own .int) (.cons (.own .int) (.cons (.own .int) (.cons (.own .int) .nil)))))))))) .nil))))
    (.cons (.set sc_law.nd (.frzK (.call (ok_l_ball T) (hr.mono (by decide)) hg rfl T.m_l_ball T.F_l_ball.kp T.B_l_ball runF_len (.cons (.at 2) (.cons (.own (.ife (.eq hr (.cons (.at 2) (.cons (.own .int) .nil))) .int (.ife (.eq hr (.cons (.at 2) (.cons (.own .int) .nil))) .int .int))) .nil)))))
    (.cons (.for_ PassesOwn.never rfl (.keysN 3) (.nm 4 sc_law.nd)
    (.one (.ite (.ne hr (.cons (.own (.repr hr hg rfl T.z_repr (.cons (.own (.call (ok_p_length T) (hr.mono (by decide)) hg rfl T.m_p_length T.F_p_length.kp T.B_p_length runF_len (.cons (.at 2) (.cons (.at 4) .nil)))) .nil))) (.cons (.own (.repr hr hg rfl T.z_repr (.cons (.own (.atN hr (.cons (.at 3) (.cons (.at 4) .nil)))) .nil))) .nil)))
    (.one (.ret .bl))
    .nil)))
    (.cons (.set sc_law.nd (.listN rfl rfl T.z_list (.cons (.at 3) .nil)))
    (.cons (.for_ PassesOwn.never rfl (.rg1 rfl T.z_range (.cons (.own .int) .nil)) (.nm 6 sc_law.nd)
    (.cons (.set sc_law.nd (.call (ok_l_pick T) (hr.mono (by decide)) hg rfl T.m_l_pick T.F_l_pick.kp T.B_l_pick runF_len (.cons (.at 1) (.cons (.at 5) .nil))))
    (.cons (.set sc_law.nd (.call (ok_p_shortest_program T) (hr.mono (by decide)) hg rfl T.m_p_shortest_program T.F_p_shortest_program.kp T.B_p_shortest_program runF_len (.cons (.at 2) (.cons (.at 4) .nil))))
    (.one (.ite (DW.t (.or (.ne hr (.cons (.own (.len rfl T.z_len (.cons (.at 7) .nil))) (.cons (.own (.atN hr (.cons (.at 3) (.cons (.at 4) .nil)))) .nil))) (.or1 (.ne hr (.cons (.own (.call (ok_l_unit_effect T) (hr.mono (by decide)) hg rfl T.m_l_unit_effect T.F_l_unit_effect.kp T.B_l_unit_effect runF_len (.cons (.at 2) (.cons (.at 7) .nil)))) (.cons (.at 4) .nil))))))
    (.one (.ret .bl))
    .nil)))))
    (.one (.ret .bl))))))))
end
theorem all_mk {l : PySem.W.OpenLaw} {w : World} {K : PySem.W.Frag} {h : Heap} {mg : Str → Option Value} {fa f0 f1 f2 f3 f4 f5 f6 f7 f8 f9 f10 f11 f12 f13 f14 f15 f16 : Addr} (X : K.In h) (G : h.Ns mainGlobals mg) (hfa : mg "law" = some (.ref fa))
    {od0 an0 od1 an1 od2 an2 od3 an3 od4 an4 od5 an5 od6 an6 od7 an7 od8 an8 od9 an9 od10 an10 od11 an11 od12 an12 od13 an13 od14 an14 od15 an15 od16 an16 : Option Addr} {sl0 sl1 sl2 sl3 sl4 sl5 sl6 sl7 sl8 sl9 sl10 sl11 sl12 sl13 sl14 sl15 sl16 : Array (Option Value)} {oc0 kV0 dc0 pm0 cd0 ct0 oc1 kV1 dc1 pm1 cd1 ct1 oc2 kV2 dc2 pm2 cd2 ct2 oc3 kV3 dc3 pm3 cd3 ct3 oc4 kV4 dc4 pm4 cd4 ct4 oc5 kV5 dc5 pm5 cd5 ct5 oc6 kV6 dc6 pm6 cd6 ct6 oc7 kV7 dc7 pm7 cd7 ct7 oc8 kV8 dc8 pm8 cd8 ct8 oc9 kV9 dc9 pm9 cd9 ct9 oc10 kV10 dc10 pm10 cd10 ct10 oc11 kV11 dc11 pm11 cd11 ct11 oc12 kV12 dc12 pm12 cd12 ct12 oc13 kV13 dc13 pm13 cd13 ct13 oc14 kV14 dc14 pm14 cd14 ct14 oc15 kV15 dc15 pm15 cd15 ct15 oc16 kV16 dc16 pm16 cd16 ct16 : Value} {tk0_1 : Tok}
    (a0 : PySem.W.nsIn K mainGlobals "turn_cost" = some (some (.ref f0))) (l0 : K.lookup f0 = some ⟨oc0, od0, .func (PySem.W.fnOf "turn_cost" "turn_cost" (defArgs s_p_turn_cost) (defBody s_p_turn_cost) (defScope s_p_turn_cost) .none kV0 dc0 pm0 an0 cd0 ct0), sl0⟩) (c0 : PySem.W.codeIn K cd0 "turn_cost" = true) (k0 : PySem.W.keepIn K (.ref f0) = true)
    (a1 : PySem.W.nsIn K mainGlobals "walk_ends" = some (some (.ref f1))) (l1 : K.lookup f1 = some ⟨oc1, od1, .func (PySem.W.fnOf "walk_ends" "walk_ends" (defArgs s_p_walk_ends) (defBody s_p_walk_ends) (defScope s_p_walk_ends) .none kV1 dc1 pm1 an1 cd1 ct1), sl1⟩) (c1 : PySem.W.codeIn K cd1 "walk_ends" = true) (k1 : PySem.W.keepIn K (.ref f1) = true)
    (a2 : PySem.W.nsIn K mainGlobals "length" = some (some (.ref f2))) (l2 : K.lookup f2 = some ⟨oc2, od2, .func (PySem.W.fnOf "length" "length" (defArgs s_p_length) (defBody s_p_length) (defScope s_p_length) .none kV2 dc2 pm2 an2 cd2 ct2), sl2⟩) (c2 : PySem.W.codeIn K cd2 "length" = true) (k2 : PySem.W.keepIn K (.ref f2) = true)
    (a3 : PySem.W.nsIn K mainGlobals "unit_turns" = some (some (.ref f3))) (l3 : K.lookup f3 = some ⟨oc3, od3, .func (PySem.W.fnOf "unit_turns" "unit_turns" (defArgs s_p_unit_turns) (defBody s_p_unit_turns) (defScope s_p_unit_turns) .none kV3 dc3 pm3 an3 cd3 ct3), sl3⟩) (c3 : PySem.W.codeIn K cd3 "unit_turns" = true) (k3 : PySem.W.keepIn K (.ref f3) = true)
    (a4 : PySem.W.nsIn K mainGlobals "unit_steps" = some (some (.ref f4))) (l4 : K.lookup f4 = some ⟨oc4, od4, .func (PySem.W.fnOf "unit_steps" "unit_steps" (defArgs s_p_unit_steps) (defBody s_p_unit_steps) (defScope s_p_unit_steps) .none kV4 dc4 pm4 an4 cd4 ct4), sl4⟩) (c4 : PySem.W.codeIn K cd4 "unit_steps" = true) (k4 : PySem.W.keepIn K (.ref f4) = true)
    (a5 : PySem.W.nsIn K mainGlobals "shortest_program" = some (some (.ref f5))) (l5 : K.lookup f5 = some ⟨oc5, od5, .func (PySem.W.fnOf "shortest_program" "shortest_program" (defArgs s_p_shortest_program) (defBody s_p_shortest_program) (defScope s_p_shortest_program) .none kV5 dc5 pm5 an5 cd5 ct5), sl5⟩) (c5 : PySem.W.codeIn K cd5 "shortest_program" = true) (k5 : PySem.W.keepIn K (.ref f5) = true)
    (a6 : PySem.W.nsIn K mainGlobals "_law_pen" = some (some (.ref f6))) (l6 : K.lookup f6 = some ⟨oc6, od6, .func (PySem.W.fnOf "_law_pen" "_law_pen" (defArgs s_l_pen) (defBody s_l_pen) (defScope s_l_pen) .none kV6 dc6 pm6 an6 cd6 ct6), sl6⟩) (c6 : PySem.W.codeIn K cd6 "_law_pen" = true) (k6 : PySem.W.keepIn K (.ref f6) = true)
    (a7 : PySem.W.nsIn K mainGlobals "_law_draw" = some (some (.ref f7))) (l7 : K.lookup f7 = some ⟨oc7, od7, .func (PySem.W.fnOf "_law_draw" "_law_draw" (defArgs s_l_draw) (defBody s_l_draw) (defScope s_l_draw) .none kV7 dc7 pm7 an7 cd7 ct7), sl7⟩) (c7 : PySem.W.codeIn K cd7 "_law_draw" = true) (k7 : PySem.W.keepIn K (.ref f7) = true)
    (a8 : PySem.W.nsIn K mainGlobals "_law_pick" = some (some (.ref f8))) (l8 : K.lookup f8 = some ⟨oc8, od8, .func (PySem.W.fnOf "_law_pick" "_law_pick" (defArgs s_l_pick) (defBody s_l_pick) (defScope s_l_pick) .none kV8 dc8 pm8 an8 cd8 ct8), sl8⟩) (c8 : PySem.W.codeIn K cd8 "_law_pick" = true) (k8 : PySem.W.keepIn K (.ref f8) = true)
    (a9 : PySem.W.nsIn K mainGlobals "_law_normal" = some (some (.ref f9))) (l9 : K.lookup f9 = some ⟨oc9, od9, .func (PySem.W.fnOf "_law_normal" "_law_normal" (defArgs s_l_normal) (defBody s_l_normal) (defScope s_l_normal) .none kV9 dc9 pm9 an9 cd9 ct9), sl9⟩) (c9 : PySem.W.codeIn K cd9 "_law_normal" = true) (k9 : PySem.W.keepIn K (.ref f9) = true)
    (a10 : PySem.W.nsIn K mainGlobals "_law_sum" = some (some (.ref f10))) (l10 : K.lookup f10 = some ⟨oc10, od10, .func (PySem.W.fnOf "_law_sum" "_law_sum" (defArgs s_l_sum) (defBody s_l_sum) (defScope s_l_sum) .none kV10 dc10 pm10 an10 cd10 ct10), sl10⟩) (c10 : PySem.W.codeIn K cd10 "_law_sum" = true) (k10 : PySem.W.keepIn K (.ref f10) = true)
    (a11 : PySem.W.nsIn K mainGlobals "_law_moved" = some (some (.ref f11))) (l11 : K.lookup f11 = some ⟨oc11, od11, .func (PySem.W.fnOf "_law_moved" "_law_moved" (defArgs s_l_moved) (defBody s_l_moved) (defScope s_l_moved) .none kV11 dc11 pm11 an11 cd11 ct11), sl11⟩) (c11 : PySem.W.codeIn K cd11 "_law_moved" = true) (k11 : PySem.W.keepIn K (.ref f11) = true)
    (a12 : PySem.W.nsIn K mainGlobals "_law_then" = some (some (.ref f12))) (l12 : K.lookup f12 = some ⟨oc12, od12, .func (PySem.W.fnOf "_law_then" "_law_then" (defArgs s_l_then) (defBody s_l_then) (defScope s_l_then) .none kV12 dc12 pm12 an12 cd12 ct12), sl12⟩) (c12 : PySem.W.codeIn K cd12 "_law_then" = true) (k12 : PySem.W.keepIn K (.ref f12) = true)
    (a13 : PySem.W.nsIn K mainGlobals "_law_unit_effect" = some (some (.ref f13))) (l13 : K.lookup f13 = some ⟨oc13, od13, .func (PySem.W.fnOf "_law_unit_effect" "_law_unit_effect" (defArgs s_l_unit_effect) (defBody s_l_unit_effect) (defScope s_l_unit_effect) .none kV13 dc13 pm13 an13 cd13 ct13), sl13⟩) (c13 : PySem.W.codeIn K cd13 "_law_unit_effect" = true) (k13 : PySem.W.keepIn K (.ref f13) = true)
    (a14 : PySem.W.nsIn K mainGlobals "_law_units" = some (some (.ref f14))) (l14 : K.lookup f14 = some ⟨oc14, od14, .func (PySem.W.fnOf "_law_units" "_law_units" (defArgs s_l_units) (defBody s_l_units) (defScope s_l_units) .none kV14 dc14 pm14 an14 cd14 ct14), sl14⟩) (c14 : PySem.W.codeIn K cd14 "_law_units" = true) (k14 : PySem.W.keepIn K (.ref f14) = true)
    (a15 : PySem.W.nsIn K mainGlobals "_law_ball" = some (some (.ref f15))) (l15 : K.lookup f15 = some ⟨oc15, od15, .func (PySem.W.fnOf "_law_ball" "_law_ball" (defArgs s_l_ball) (defBody s_l_ball) (defScope s_l_ball) .none kV15 dc15 pm15 an15 cd15 ct15), sl15⟩) (c15 : PySem.W.codeIn K cd15 "_law_ball" = true) (k15 : PySem.W.keepIn K (.ref f15) = true)
    (a16 : PySem.W.nsIn K mainGlobals "law" = some (some (.ref f16))) (l16 : K.lookup f16 = some ⟨oc16, od16, .func (PySem.W.fnOf "law" "law" (defArgs s_law) (defBody s_law) (defScope s_law) .none kV16 dc16 pm16 an16 cd16 ct16), sl16⟩) (c16 : PySem.W.codeIn K cd16 "law" = true) (k16 : PySem.W.keepIn K (.ref f16) = true)
    (q0 : PySem.W.nsIn K mainGlobals "MAX_LENGTH" = some (some (.int 10000 tk0_1)))
    (z_min : PySem.W.nsIn K mainGlobals "min" = some none)
    (z_max : PySem.W.nsIn K mainGlobals "max" = some none)
    (z_sum : PySem.W.nsIn K mainGlobals "sum" = some none)
    (z_abs : PySem.W.nsIn K mainGlobals "abs" = some none)
    (z_list : PySem.W.nsIn K mainGlobals "list" = some none)
    (z_len : PySem.W.nsIn K mainGlobals "len" = some none)
    (z_sorted : PySem.W.nsIn K mainGlobals "sorted" = some none)
    (z_tuple : PySem.W.nsIn K mainGlobals "tuple" = some none)
    (z_isinstance : PySem.W.nsIn K mainGlobals "isinstance" = some none)
    (z_repr : PySem.W.nsIn K mainGlobals "repr" = some none)
    (z_range : PySem.W.nsIn K mainGlobals "range" = some none) :
    ∃ fd : FuncData, (∀ (s : Shared) (u : Value), BindsTo s fd ⟨[u], []⟩ [("_law_script", u)]) ∧ ∀ base : Heap, K.In base → base.Ns mainGlobals mg → FnG l.prog w K mg base 5 fa fd ["_law_script"] (FnD K 1 f_law) := by
  have e := hfa.symm.trans (PySem.W.mg_of X G a16)
  cases e
  have F0 := fun_mk (st := s_p_turn_cost) l0 c0 k0
  have b0 := F0.binds (ps := ["prime", "coefficient"]) fun _ _ _ _ _ _ us hl => match us, hl with | [_, _], _ => rfl
  have F1 := fun_mk (st := s_p_walk_ends) l1 c1 k1
  have b1 := F1.binds (ps := ["effect"]) fun _ _ _ _ _ _ us hl => match us, hl with | [_], _ => rfl
  have F2 := fun_mk (st := s_p_length) l2 c2 k2
  have b2 := F2.binds (ps := ["prime", "effect"]) fun _ _ _ _ _ _ us hl => match us, hl with | [_, _], _ => rfl
  have F3 := fun_mk (st := s_p_unit_turns) l3 c3 k3
  have b3 := F3.binds (ps := ["prime", "coefficient"]) fun _ _ _ _ _ _ us hl => match us, hl with | [_, _], _ => rfl
  have F4 := fun_mk (st := s_p_unit_steps) l4 c4 k4
  have b4 := F4.binds (ps := ["start", "stop"]) fun _ _ _ _ _ _ us hl => match us, hl with | [_, _], _ => rfl
  have F5 := fun_mk (st := s_p_shortest_program) l5 c5 k5
  have b5 := F5.binds (ps := ["prime", "effect"]) fun _ _ _ _ _ _ us hl => match us, hl with | [_, _], _ => rfl
  have F6 := fun_mk (st := s_l_pen) l6 c6 k6
  have b6 := F6.binds (ps := ["_law_script"]) fun _ _ _ _ _ _ us hl => match us, hl with | [_], _ => rfl
  have F7 := fun_mk (st := s_l_draw) l7 c7 k7
  have b7 := F7.binds (ps := ["_law_pen_here", "_law_many"]) fun _ _ _ _ _ _ us hl => match us, hl with | [_, _], _ => rfl
  have F8 := fun_mk (st := s_l_pick) l8 c8 k8
  have b8 := F8.binds (ps := ["_law_pen_here", "_law_options"]) fun _ _ _ _ _ _ us hl => match us, hl with | [_, _], _ => rfl
  have F9 := fun_mk (st := s_l_normal) l9 c9 k9
  have b9 := F9.binds (ps := ["_law_prime", "_law_pairs"]) fun _ _ _ _ _ _ us hl => match us, hl with | [_, _], _ => rfl
  have F10 := fun_mk (st := s_l_sum) l10 c10 k10
  have b10 := F10.binds (ps := ["_law_prime", "_law_one", "_law_other"]) fun _ _ _ _ _ _ us hl => match us, hl with | [_, _, _], _ => rfl
  have F11 := fun_mk (st := s_l_moved) l11 c11 k11
  have b11 := F11.binds (ps := ["_law_polynomial", "_law_places"]) fun _ _ _ _ _ _ us hl => match us, hl with | [_, _], _ => rfl
  have F12 := fun_mk (st := s_l_then) l12 c12 k12
  have b12 := F12.binds (ps := ["_law_prime", "_law_one", "_law_other"]) fun _ _ _ _ _ _ us hl => match us, hl with | [_, _, _], _ => rfl
  have F13 := fun_mk (st := s_l_unit_effect) l13 c13 k13
  have b13 := F13.binds (ps := ["_law_prime", "_law_program"]) fun _ _ _ _ _ _ us hl => match us, hl with | [_, _], _ => rfl
  have F14 := fun_mk (st := s_l_units) l14 c14 k14
  have b14 := F14.binds (ps := ["_law_prime"]) fun _ _ _ _ _ _ us hl => match us, hl with | [_], _ => rfl
  have F15 := fun_mk (st := s_l_ball) l15 c15 k15
  have b15 := F15.binds (ps := ["_law_prime", "_law_radius"]) fun _ _ _ _ _ _ us hl => match us, hl with | [_, _], _ => rfl
  have F16 := fun_mk (st := s_law) l16 c16 k16
  have b16 := F16.binds (ps := ["_law_script"]) fun _ _ _ _ _ _ us hl => match us, hl with | [_], _ => rfl
  let T : Txt K mg := {
    a_p_turn_cost := _, d_p_turn_cost := _, F_p_turn_cost := F0, B_p_turn_cost := b0, m_p_turn_cost := PySem.W.mg_of X G a0,
    a_p_walk_ends := _, d_p_walk_ends := _, F_p_walk_ends := F1, B_p_walk_ends := b1, m_p_walk_ends := PySem.W.mg_of X G a1,
    a_p_length := _, d_p_length := _, F_p_length := F2, B_p_length := b2, m_p_length := PySem.W.mg_of X G a2,
    a_p_unit_turns := _, d_p_unit_turns := _, F_p_unit_turns := F3, B_p_unit_turns := b3, m_p_unit_turns := PySem.W.mg_of X G a3,
    a_p_unit_steps := _, d_p_unit_steps := _, F_p_unit_steps := F4, B_p_unit_steps := b4, m_p_unit_steps := PySem.W.mg_of X G a4,
    a_p_shortest_program := _, d_p_shortest_program := _, F_p_shortest_program := F5, B_p_shortest_program := b5, m_p_shortest_program := PySem.W.mg_of X G a5,
    a_l_pen := _, d_l_pen := _, F_l_pen := F6, B_l_pen := b6, m_l_pen := PySem.W.mg_of X G a6,
    a_l_draw := _, d_l_draw := _, F_l_draw := F7, B_l_draw := b7, m_l_draw := PySem.W.mg_of X G a7,
    a_l_pick := _, d_l_pick := _, F_l_pick := F8, B_l_pick := b8, m_l_pick := PySem.W.mg_of X G a8,
    a_l_normal := _, d_l_normal := _, F_l_normal := F9, B_l_normal := b9, m_l_normal := PySem.W.mg_of X G a9,
    a_l_sum := _, d_l_sum := _, F_l_sum := F10, B_l_sum := b10, m_l_sum := PySem.W.mg_of X G a10,
    a_l_moved := _, d_l_moved := _, F_l_moved := F11, B_l_moved := b11, m_l_moved := PySem.W.mg_of X G a11,
    a_l_then := _, d_l_then := _, F_l_then := F12, B_l_then := b12, m_l_then := PySem.W.mg_of X G a12,
    a_l_unit_effect := _, d_l_unit_effect := _, F_l_unit_effect := F13, B_l_unit_effect := b13, m_l_unit_effect := PySem.W.mg_of X G a13,
    a_l_units := _, d_l_units := _, F_l_units := F14, B_l_units := b14, m_l_units := PySem.W.mg_of X G a14,
    a_l_ball := _, d_l_ball := _, F_l_ball := F15, B_l_ball := b15, m_l_ball := PySem.W.mg_of X G a15,
    a_law := _, d_law := _, F_law := F16, B_law := b16, m_law := PySem.W.mg_of X G a16,
    z_min := PySem.W.mg_none_of X G z_min,
    z_max := PySem.W.mg_none_of X G z_max,
    z_sum := PySem.W.mg_none_of X G z_sum,
    z_abs := PySem.W.mg_none_of X G z_abs,
    z_list := PySem.W.mg_none_of X G z_list,
    z_len := PySem.W.mg_none_of X G z_len,
    z_sorted := PySem.W.mg_none_of X G z_sorted,
    z_tuple := PySem.W.mg_none_of X G z_tuple,
    z_isinstance := PySem.W.mg_none_of X G z_isinstance,
    z_repr := PySem.W.mg_none_of X G z_repr,
    z_range := PySem.W.mg_none_of X G z_range,
    g_MAX_LENGTH := KRep.mg kr_int (PySem.W.mg_of X G q0) }
  exact ⟨_, fun s v => .of_eq rfl, fun base _ _ => ok_law T⟩
end C
namespace G
open PySem PySem.Spec PyProof.Rows L2

/-! ### evaluation of the pure functions by simp: binds whose continuation waits -/
def bnd {α β : Type} (a : Option α) (f : α → Option β) : Option β := a.bind f
@[simp] theorem bnd_some {α β : Type} (x : α) (f : α → Option β) : bnd (some x) f = f x := rfl
@[simp] theorem bnd_none {α β : Type} (f : α → Option β) : bnd none f = none := rfl
@[simp↓] theorem bnd_eq {α β : Type} (a : Option α) (f : α → Option β) : bnd a f = match a with
    | none => none
    | some x => f x := by cases a <;> rfl
theorem bnd_ite {α β : Type} {c : Prop} [Decidable c] (a b : Option α) (f : α → Option β) : bnd (if c then a else b) f = if c then bnd a f else bnd b f := by split <;> rfl
variable {env : Env}
@[simp] theorem e_own (m : ME) : mOwn m env = bnd (m env) fun p => some (.own p.1, p.2) := by unfold mOwn bnd; cases m env <;> rfl
@[simp] theorem e_at (i : Nat) : mAt i env = bnd (lk env i) fun _ => some (.at i, env) := by unfold mAt bnd; cases lk env i <;> rfl
@[simp] theorem e_nil : mNil env = some ([], env) := rfl
@[simp] theorem e_cons (m : MV) (r : MA) : mCons m r env = bnd (m env) fun p => bnd (r p.2) fun q => some (p.1 :: q.1, q.2) := by
  unfold mCons bnd
  (repeat' split) <;> simp_all
@[simp] theorem e_res_nil : resolve env [] = some [] := rfl
@[simp] theorem e_res_own (o : OV) (as : List AV) : resolve env (.own o :: as) = bnd (resolve env as) fun os => some (o :: os) := by unfold bnd; show (resolve env as).map _ = _; cases resolve env as <;> rfl
@[simp] theorem e_res_at (i : Nat) (as : List AV) : resolve env (.at i :: as) = bnd (lk env i) fun o => bnd (resolve env as) fun os => some (o :: os) := by
  unfold bnd
  show (match lk env i with | none => none | some o => (resolve env as).map (o :: ·)) = _
  cases lk env i <;> cases resolve env as <;> rfl
@[simp] theorem e_res1_own (o : OV) : resolve1 env (.own o) = some o := rfl
@[simp] theorem e_res1_at (i : Nat) : resolve1 env (.at i) = lk env i := rfl
@[simp] theorem e_op (f : List OV → Option OV) (m : MA) : mOp f m env = bnd (m env) fun p => bnd (resolve p.2 p.1) fun os => bnd (f os) fun o => some (o, p.2) := by
  unfold mOp bnd
  (repeat' split) <;> simp_all
@[simp] theorem e_call (m : MF) (ma : MA) : mCall m ma env = bnd (ma env) fun p => bnd (takeA p.2 p.1) fun t => bnd (m t.1) fun r => some (r.1, putB t.2.2 t.2.1 r.2) := by
  unfold mCall bnd
  (repeat' split) <;> simp_all
@[simp] theorem e_take_nil : takeA env [] = some ([], [], env) := rfl
@[simp] theorem e_take_own (o : OV) (as : List AV) : takeA env (.own o :: as) = bnd (takeA env as) fun t => some (o :: t.1, none :: t.2.1, t.2.2) := by
  rw [takeA]
  unfold bnd
  (repeat' split) <;> simp_all
@[simp] theorem e_take_at (i : Nat) (as : List AV) : takeA env (.at i :: as) = bnd (lk env i) fun o => match o with
    | .fz d => bnd (takeA env as) fun t => some (.fz d :: t.1, none :: t.2.1, t.2.2)
    | o => bnd (takeA (env.set i none) as) fun t => some (o :: t.1, some i :: t.2.1, t.2.2) := by
  rw [takeA]
  unfold bnd
  (repeat' split) <;> simp_all
@[simp] theorem e_put_nil (outs : List (Option OV)) : putB env [] outs = env := by cases outs <;> rfl
@[simp] theorem e_put_none (ts : List (Option Nat)) (o : Option OV) (outs : List (Option OV)) : putB env (none :: ts) (o :: outs) = putB env ts outs := rfl
@[simp] theorem e_put_some (i : Nat) (ts : List (Option Nat)) (o : Option OV) (outs : List (Option OV)) : putB env (some i :: ts) (o :: outs) = putB (env.set i o) ts outs := rfl
@[simp] theorem e_l1 (f : OV → Option OV) (a : OV) : l1 f [a] = f a := rfl
@[simp] theorem e_l2 (f : OV → OV → Option OV) (a b : OV) : l2 f [a, b] = f a b := rfl
@[simp] theorem e_c (o : OV) : mC o env = some (o, env) := rfl
@[simp] theorem e_nm (i : Nat) : mNm i env = bnd (lk env i) fun o => bnd o.frz fun d => some (.fz d, env.set i (some (.fz d))) := by
  unfold mNm bnd
  (repeat' split) <;> simp_all
@[simp] theorem e_frz (d : D) : (OV.fz d).frz = some d := rfl
@[simp] theorem e_frzL (ds : List D) : (OV.oL ds).frz = some (.list ds) := rfl
@[simp] theorem e_frzD (kvs : List (Key × D)) : (OV.oD kvs).frz = some (.dict (kvs.map fun p => (kD p.1, p.2))) := rfl
@[simp] theorem e_add (i j : Int) : fAdd (.fz (.int i)) (.fz (.int j)) = some (.fz (.int (i + j))) := rfl
@[simp] theorem e_iadd (i j : Int) : fIAdd (.fz (.int i)) (.fz (.int j)) = some (.fz (.int (i + j))) := rfl
@[simp] theorem e_sub (i j : Int) : fSub (.fz (.int i)) (.fz (.int j)) = some (.fz (.int (i - j))) := rfl
@[simp] theorem e_mul (i j : Int) : fMul (.fz (.int i)) (.fz (.int j)) = if bits i + bits j < 1000000 then some (.fz (.int (i * j))) else none := by
  show (if mulC i j = true then _ else _) = _
  simp only [mulC, decide_eq_true_eq]
@[simp] theorem e_div (i j : Int) : fDiv (.fz (.int i)) (.fz (.int j)) = if 0 < j ∧ bits j < 9000 then some (.fz (.int (i / j))) else if j < 0 ∧ -1073741824 < j then some (.fz (.int (i.fdiv j))) else none := by
  show (if divC i j = true then some (OV.fz (.int (gDiv i j))) else none) = _
  unfold divC gDiv
  by_cases h1 : 0 < j
  · by_cases h2 : bits j < 9000
    · simp [h1, h2]
    · have h3 : ¬ j < 0 := by omega
      simp [h1, h2, h3]
  · simp [h1]
@[simp] theorem e_mod (i j : Int) : fMod (.fz (.int i)) (.fz (.int j)) = if 0 < j then some (.fz (.int (i % j))) else if j = 0 then none else some (.fz (.int (i.fmod j))) := by
  show (if modC i j = true then some (OV.fz (.int (gMod i j))) else none) = _
  unfold modC gMod
  by_cases h1 : 0 < j
  · have h3 : ¬ j = 0 := by omega
    simp [h1, h3]
  · by_cases h2 : j = 0
    · simp [h1, h2]
    · simp [h1, h2]
@[simp] theorem e_pow (i j : Int) : fPow (.fz (.int i)) (.fz (.int j)) = if 0 ≤ j ∧ j ≤ 1000000 ∧ i.natAbs < 2 ^ 64 then some (.fz (.int (i ^ j.toNat))) else none := by
  show (if powC i j = true then _ else _) = _
  simp only [powC, decide_eq_true_eq, Bool.and_eq_true, and_assoc]
@[simp] theorem e_neg (i : Int) : fNeg (.fz (.int i)) = some (.fz (.int (-i))) := rfl
@[simp] theorem e_abs (i : Int) : fAbs (.fz (.int i)) = some (.fz (.int (if i < 0 then -i else i))) := rfl
@[simp] theorem e_lt (i j : Int) : fLt (.fz (.int i)) (.fz (.int j)) = some (.fz (.bool (decide (i < j)))) := rfl
@[simp] theorem e_le (i j : Int) : fLe (.fz (.int i)) (.fz (.int j)) = some (.fz (.bool (decide (i ≤ j)))) := rfl
@[simp] theorem e_gt (i j : Int) : fGt (.fz (.int i)) (.fz (.int j)) = some (.fz (.bool (decide (j < i)))) := rfl
@[simp] theorem e_ge (i j : Int) : fGe (.fz (.int i)) (.fz (.int j)) = some (.fz (.bool (decide (j ≤ i)))) := rfl
@[simp] theorem e_max2 (i j : Int) : fMax2 (.fz (.int i)) (.fz (.int j)) = some (.fz (.int (if j > i then j else i))) := rfl
@[simp] theorem e_min2 (i j : Int) : fMin2 (.fz (.int i)) (.fz (.int j)) = some (.fz (.int (if j < i then j else i))) := rfl
@[simp] theorem e_eqI (i j : Int) : fEq (.fz (.int i)) (.fz (.int j)) = some (.fz (.bool (decide (i = j)))) := rfl
@[simp] theorem e_neI (i j : Int) : fNe (.fz (.int i)) (.fz (.int j)) = some (.fz (.bool (!decide (i = j)))) := rfl
@[simp] theorem e_eqS (i j : Str) : fEq (.fz (.str i)) (.fz (.str j)) = some (.fz (.bool (decide (i = j)))) := rfl
@[simp] theorem e_neS (i j : Str) : fNe (.fz (.str i)) (.fz (.str j)) = some (.fz (.bool (!decide (i = j)))) := rfl
@[simp] theorem e_lenL (ds : List D) : fLen (.oL ds) = some (.fz (.int ds.length)) := rfl
@[simp] theorem e_lenF (ds : List D) : fLen (.fz (.list ds)) = some (.fz (.int ds.length)) := rfl
@[simp] theorem e_lenT (ds : List D) : fLen (.fz (.tuple ds)) = some (.fz (.int ds.length)) := rfl
@[simp] theorem e_lenD (kvs : List (Key × D)) : fLen (.oD kvs) = some (.fz (.int kvs.length)) := rfl
@[simp] theorem e_listF (ds : List D) : fList (.fz (.list ds)) = some (.oL ds) := rfl
@[simp] theorem e_listL (ds : List D) : fList (.oL ds) = some (.oL ds) := rfl
@[simp] theorem e_listT (ds : List D) : fList (.fz (.tuple ds)) = some (.oL ds) := rfl
@[simp] theorem e_tupF (ds : List D) : fTuple (.fz (.list ds)) = some (.fz (.tuple ds)) := rfl
@[simp] theorem e_tupL (ds : List D) : fTuple (.oL ds) = some (.fz (.tuple ds)) := rfl
@[simp] theorem e_tupT (ds : List D) : fTuple (.fz (.tuple ds)) = some (.fz (.tuple ds)) := rfl
@[simp] theorem e_ixD (kvs : List (Key × D)) (x : Str) : fIxA (.oD kvs) (.fz (.str x)) = bnd (lkD kvs (.inr x)) fun d => some (.fz d) := by unfold bnd; show (lkD kvs (.inr x)).map _ = _; cases lkD kvs (.inr x) <;> rfl
@[simp] theorem e_ixDI (kvs : List (Key × D)) (x : Int) : fIxA (.oD kvs) (.fz (.int x)) = bnd (lkD kvs (.inl x)) fun d => some (.fz d) := by unfold bnd; show (lkD kvs (.inl x)).map _ = _; cases lkD kvs (.inl x) <;> rfl
@[simp] theorem e_ixL (ds : List D) (i : Int) : fIxA (.oL ds) (.fz (.int i)) = bnd (atI ds i) fun d => some (.fz d) := by unfold bnd; show (atI ds i).map _ = _; cases atI ds i <;> rfl
@[simp] theorem e_ixF (ds : List D) (i : Int) : fIxA (.fz (.list ds)) (.fz (.int i)) = bnd (atI ds i) fun d => some (.fz d) := by unfold bnd; show (atI ds i).map _ = _; cases atI ds i <;> rfl
@[simp] theorem e_ixT (ds : List D) (i : Int) : fIxA (.fz (.tuple ds)) (.fz (.int i)) = bnd (atI ds i) fun d => some (.fz d) := by unfold bnd; show (atI ds i).map _ = _; cases atI ds i <;> rfl
@[simp] theorem e_frzA_nil : frzA env [] = some ([], env) := rfl
@[simp] theorem e_frzA_own (o : OV) (as : List AV) : frzA env (.own o :: as) = bnd o.frz fun d => bnd (frzA env as) fun p => some (d :: p.1, p.2) := by
  rw [frzA]
  unfold bnd
  (repeat' split) <;> simp_all
@[simp] theorem e_frzA_at (i : Nat) (as : List AV) : frzA env (.at i :: as) = bnd (lk env i) fun o => bnd o.frz fun d => bnd (frzA (env.set i (some (.fz d))) as) fun p => some (d :: p.1, p.2) := by
  rw [frzA]
  unfold bnd
  (repeat' split) <;> simp_all
@[simp] theorem e_tup (m : MA) : mTup m env = bnd (m env) fun p => bnd (frzA p.2 p.1) fun q => if q.1.length ≤ lim then some (.fz (.tuple q.1), q.2) else none := by
  unfold mTup bnd
  (repeat' split) <;> simp_all
@[simp] theorem e_lst (m : MA) : mLst m env = bnd (m env) fun p => bnd (frzA p.2 p.1) fun q => if q.1.length ≤ lim then some (.oL q.1, q.2) else none := by
  unfold mLst bnd
  (repeat' split) <;> simp_all
@[simp] theorem e_get (m : MV) (r : MA) : mGet m r env = bnd (m env) fun p => bnd (resolve1 p.2 p.1) fun o1 => bnd o1.dic? fun _ => bnd (r p.2) fun q => bnd (resolve q.2 (p.1 :: q.1)) fun os => match os with
    | [o, ok, ox] => bnd o.dic? fun kvs => bnd ok.key? fun kk => match ox with
      | .fz d => some (.fz ((lkD kvs kk).getD d), q.2)
      | _ => none
    | _ => none := by
  unfold mGet bnd
  cases m env with
  | none => rfl
  | some p =>
    obtain ⟨a, e1⟩ := p
    simp only [Option.bind_some]
    cases resolve1 e1 a with
    | none => rfl
    | some o1 =>
      simp only [Option.bind_some]
      cases o1.dic? with
      | none => rfl
      | some _ =>
        simp only [Option.bind_some]
        cases r e1 with
        | none => rfl
        | some q =>
          simp only [Option.bind_some]
          cases resolve q.2 (a :: q.1) with
          | none => rfl
          | some os =>
            simp only [Option.bind_some]
            match os with
            | [] => rfl
            | [_] => rfl
            | [_, _] => rfl
            | _ :: _ :: _ :: _ :: _ => rfl
            | [o, ok, ox] =>
              show (match o.dic?, ok.key?, ox with | some kvs, some kk, .fz d => some (OV.fz ((lkD kvs kk).getD d), q.2) | _, _, _ => none) = o.dic?.bind _
              cases o.dic? with
              | none => rfl
              | some kvs =>
                cases hk : ok.key? with
                | none => simp [hk]
                | some kk => cases ox <;> simp [hk]
@[simp] theorem e_dicD (kvs : List (Key × D)) : (OV.oD kvs).dic? = some kvs := rfl
@[simp] theorem e_keyI (i : Int) : (OV.fz (.int i)).key? = some (.inl i) := rfl
@[simp] theorem e_keyS (i : Str) : (OV.fz (.str i)).key? = some (.inr i) := rfl
@[simp] theorem e_keyOfI (i : Int) : keyOf (.int i) = some (.inl i) := rfl
@[simp] theorem e_keyOfS (i : Str) : keyOf (.str i) = some (.inr i) := rfl
@[simp] theorem e_tru (m : MV) : mTru m env = bnd (m env) fun p => bnd (resolve1 p.2 p.1) fun o => bnd (truO o) fun b => some (b, p.2) := by
  unfold mTru bnd
  cases m env with
  | none => rfl
  | some p =>
    obtain ⟨a, e⟩ := p
    show (match resolve1 e a with | none => none | some o => (truO o).map (·, e)) = (resolve1 e a).bind _
    cases resolve1 e a with
    | none => rfl
    | some o => show (truO o).map _ = (truO o).bind _; cases truO o <;> rfl
@[simp] theorem e_bl (m : ME) : mBl m env = bnd (m env) fun p => match p.1 with
    | .fz (.bool b) => some (b, p.2)
    | _ => none := by
  unfold mBl bnd
  cases m env with
  | none => rfl
  | some p =>
    obtain ⟨o, e⟩ := p
    cases o with
    | fz d =>
      cases d with
      | bool b => cases b <;> rfl
      | _ => rfl
    | _ => rfl
@[simp] theorem e_not (m : MT) : mNot m env = bnd (m env) fun p => some (!p.1, p.2) := by unfold mNot bnd; cases m env <;> rfl
@[simp] theorem e_andT (m r : MT) : mAndT m r env = bnd (m env) fun p => if p.1 = true then r p.2 else some (false, p.2) := by
  unfold mAndT bnd
  (repeat' split) <;> simp_all
@[simp] theorem e_orT (m r : MT) : mOrT m r env = bnd (m env) fun p => if p.1 = true then some (true, p.2) else r p.2 := by
  unfold mOrT bnd
  (repeat' split) <;> simp_all
@[simp] theorem e_ifE (c : MT) (m r : ME) : mIfE c m r env = bnd (c env) fun p => if p.1 = true then m p.2 else r p.2 := by
  unfold mIfE bnd
  (repeat' split) <;> simp_all
@[simp] theorem e_andE (m r : ME) : mAndE m r env = bnd (m env) fun p => match p.1 with
    | .fz (.bool b) => if b = true then r p.2 else some (.fz (.bool false), p.2)
    | _ => none := by
  unfold mAndE bnd
  cases m env with
  | none => rfl
  | some p =>
    obtain ⟨o, e⟩ := p
    cases o with
    | fz d =>
      cases d with
      | bool b => cases b <;> rfl
      | _ => rfl
    | _ => rfl
@[simp] theorem e_orE (m r : ME) : mOrE m r env = bnd (m env) fun p => match p.1 with
    | .fz (.bool b) => if b = true then some (.fz (.bool true), p.2) else r p.2
    | _ => none := by
  unfold mOrE bnd
  cases m env with
  | none => rfl
  | some p =>
    obtain ⟨o, e⟩ := p
    cases o with
    | fz d =>
      cases d with
      | bool b => cases b <;> rfl
      | _ => rfl
    | _ => rfl
@[simp] theorem e_notE (m : ME) : mNotE m env = bnd (m env) fun p => match p.1 with
    | .fz (.bool b) => some (.fz (.bool (!b)), p.2)
    | _ => none := by
  unfold mNotE bnd
  cases m env with
  | none => rfl
  | some p =>
    obtain ⟨o, e⟩ := p
    cases o with
    | fz d =>
      cases d with
      | bool b => cases b <;> rfl
      | _ => rfl
    | _ => rfl
@[simp] theorem e_noI : mNoI env = some (none, env) := rfl
@[simp] theorem e_soI (m : ME) : mSoI m env = bnd (m env) fun p => match p.1 with
    | .fz (.int i) => some (some i, p.2)
    | _ => none := by
  unfold mSoI bnd
  cases m env with
  | none => rfl
  | some p =>
    obtain ⟨o, e⟩ := p
    cases o with
    | fz d =>
      cases d with
      | bool b => cases b <;> rfl
      | _ => rfl
    | _ => rfl
@[simp] theorem e_cut (m : MV) (lo hi : Env → Option (Option Int × Env)) : mCut m lo hi env = bnd (m env) fun p => bnd (lo p.2) fun q => bnd (hi q.2) fun r => bnd (resolve1 r.2 p.1) fun o => bnd (fCut o q.1 r.1) fun z => some (z, r.2) := by
  unfold mCut bnd
  cases m env with
  | none => rfl
  | some p =>
    obtain ⟨a, e1⟩ := p
    simp only [Option.bind_some]
    cases lo e1 with
    | none => rfl
    | some q =>
      obtain ⟨i, e2⟩ := q
      simp only [Option.bind_some]
      cases hi e2 with
      | none => rfl
      | some r =>
        obtain ⟨j, e3⟩ := r
        simp only [Option.bind_some]
        cases resolve1 e3 a with
        | none => rfl
        | some o => simp only [Option.bind_some]; cases fCut o i j <;> rfl
@[simp] theorem e_cutF (ds : List D) (lo hi : Option Int) : fCut (.fz (.list ds)) lo hi = some (.oL (cutD ds lo hi)) := rfl
@[simp] theorem e_cutL (ds : List D) (lo hi : Option Int) : fCut (.oL ds) lo hi = some (.oL (cutD ds lo hi)) := rfl
@[simp] theorem e_cutT (ds : List D) (lo hi : Option Int) : fCut (.fz (.tuple ds)) lo hi = some (.fz (.tuple (cutD ds lo hi))) := rfl
@[simp] theorem e_next : mNext env = some (.nx env) := rfl
@[simp] theorem e_seq (m r : MS) : mSeq m r env = bnd (m env) fun p => match p with
    | .nx e1 => r e1
    | x => some x := by
  unfold mSeq bnd
  cases m env with
  | none => rfl
  | some p => cases p <;> rfl
@[simp] theorem e_never : mNever env = none := rfl
@[simp] theorem e_brk : mBrk env = some (.bk env) := rfl
@[simp] theorem e_cnt : mCnt env = some (.ct env) := rfl
@[simp] theorem e_if (c : MT) (m r : MS) : mIf c m r env = bnd (c env) fun p => if p.1 = true then m p.2 else r p.2 := by
  unfold mIf bnd
  (repeat' split) <;> simp_all
@[simp] theorem e_drop (m : ME) : mDrop m env = bnd (m env) fun p => some (.nx p.2) := by unfold mDrop bnd; cases m env <;> rfl
@[simp] theorem e_ret (m : ME) : mRet m env = bnd (m env) fun p => some (.rt p.1 p.2) := by unfold mRet bnd; cases m env <;> rfl
@[simp] theorem e_retN : mRetN env = some (.rt (.fz .none) env) := rfl
@[simp] theorem e_mv (i : Nat) : mMv i env = bnd (lk env i) fun o => some (o, env.set i none) := by unfold mMv bnd; cases lk env i <;> rfl
@[simp] theorem e_gNm (i : Nat) (d : D) : gNm i d env = if i < env.length then some (env.set i (some (.fz d))) else none := rfl
@[simp] theorem e_gsNil : gsNil [] env = some env := rfl
@[simp] theorem e_gsCons (g : MG) (r : MGs) (d : D) (ds : List D) : gsCons g r (d :: ds) env = bnd (g d env) fun e1 => r ds e1 := by
  unfold bnd
  unfold gsCons
  (repeat' split) <;> simp_all
@[simp] theorem e_gTp (n : Nat) (r : MGs) (ds : List D) : gTp n r (.tuple ds) env = if ds.length = n then r ds env else none := rfl
@[simp] theorem e_set (i : Nat) (m : ME) : mSet i m env = bnd (m env) fun p => if i < p.2.length then some (.nx (p.2.set i (some p.1))) else none := by unfold mSet bnd; cases m env <;> rfl
@[simp] theorem e_asg (g : MG) (m : ME) : mAsg g m env = bnd (m env) fun p => bnd p.1.frz fun d => bnd (g d p.2) fun e2 => some (.nx e2) := by
  unfold mAsg bnd
  (repeat' split) <;> simp_all
@[simp] theorem e_fz (m : ME) : mFz m env = bnd (m env) fun p => bnd p.1.frz fun d => some (d, p.2) := by
  unfold mFz bnd
  (repeat' split) <;> simp_all
@[simp] theorem e_put (j : Nat) (mv mi : MD) : mPut j mv mi env = bnd (mv env) fun p => bnd (lk p.2 j) fun _ => bnd (mi p.2) fun q => bnd (lk q.2 j) fun o => bnd (putO o q.1 p.1) fun o' => some (.nx (q.2.set j (some o'))) := by
  unfold mPut bnd
  (repeat' split) <;> simp_all
@[simp] theorem e_putD (kvs : List (Key × D)) (k d : D) : putO (.oD kvs) k d = bnd (keyOf k) fun kk => if kvs.length ≤ lim then some (.oD (putD kvs kk d)) else none := by
  unfold bnd
  show (match keyOf k with | some kk => if kvs.length ≤ lim then some (OV.oD (putD kvs kk d)) else none | none => none) = _
  cases keyOf k <;> rfl
@[simp] theorem e_putL (ds : List D) (i : Int) (d : D) : putO (.oL ds) (.int i) d = bnd (ixN ds.length i) fun j => some (.oL (ds.set j d)) := by
  unfold bnd
  show (ixN ds.length i).map _ = _
  cases ixN ds.length i <;> rfl
@[simp] theorem e_aug (i : Nat) (f : OV → OV → Option OV) (m : MD) : mAug i f m env = bnd (lk env i) fun o => match o with
    | .fz d1 => bnd (m env) fun p => bnd (f (.fz d1) (.fz p.1)) fun z => match z with
      | .fz d' => if i < p.2.length then some (.nx (p.2.set i (some (.fz d')))) else none
      | _ => none
    | _ => none := by
  unfold mAug bnd
  cases lk env i with
  | none => rfl
  | some o =>
    cases o with
    | fz d1 =>
      simp only [Option.bind_some]
      cases m env with
      | none => rfl
      | some p =>
        obtain ⟨d, e⟩ := p
        simp only [Option.bind_some]
        cases f (.fz d1) (.fz d) with
        | none => rfl
        | some z => cases z <;> rfl
    | _ => rfl
@[simp] theorem e_lm1 (g : List D → D → Option (D × List D)) (j : Nat) (m : MD) : mLM1 g j m env = bnd (lk env j) fun o => match o with
    | .oL _ => bnd (m env) fun p => bnd (lk p.2 j) fun o => match o with
      | .oL ds => bnd (g ds p.1) fun q => some (.fz q.1, p.2.set j (some (.oL q.2)))
      | _ => none
    | _ => none := by
  unfold mLM1 bnd
  cases lk env j with
  | none => rfl
  | some o =>
    cases o with
    | oL d1 =>
      simp only [Option.bind_some]
      cases m env with
      | none => rfl
      | some p =>
        obtain ⟨d, e⟩ := p
        simp only [Option.bind_some]
        cases lk e j with
        | none => rfl
        | some z =>
          cases z with
          | oL ds => simp only [Option.bind_some]; cases g ds d <;> rfl
          | _ => rfl
    | _ => rfl
@[simp] theorem e_lm0 (g : List D → Option (D × List D)) (j : Nat) : mLM0 g j env = bnd (lk env j) fun o => match o with
    | .oL ds => bnd (g ds) fun q => some (.fz q.1, env.set j (some (.oL q.2)))
    | _ => none := by
  unfold mLM0 bnd
  cases lk env j with
  | none => rfl
  | some o =>
    cases o with
    | oL ds => simp only [Option.bind_some]; cases g ds <;> rfl
    | _ => rfl
@[simp] theorem e_app (ds : List D) (d : D) : gApp ds d = if ds.length ≤ lim then some (.none, ds ++ [d]) else none := rfl
@[simp] theorem e_it (m : MD) : mIt m env = bnd (m env) fun p => bnd (itemsD p.1) fun ds => some (ds, p.2) := by
  unfold mIt bnd
  cases m env with
  | none => rfl
  | some p => obtain ⟨d, e⟩ := p; show (itemsD d).map _ = (itemsD d).bind _; cases itemsD d <;> rfl
@[simp] theorem e_itL (ds : List D) : itemsD (.list ds) = some ds := rfl
@[simp] theorem e_itT (ds : List D) : itemsD (.tuple ds) = some ds := rfl
@[simp] theorem e_rg1 (m : MA) : mRg1 m env = bnd (m env) fun p => bnd (resolve p.2 p.1) fun os => match os with
    | [.fz (.int j)] => if j.natAbs ≤ 2 ^ 60 then some (rgD 0 j.toNat, p.2) else none
    | _ => none := by
  unfold mRg1 bnd
  cases m env with
  | none => rfl
  | some p =>
    obtain ⟨as, e⟩ := p
    simp only [Option.bind_some]
    cases resolve e as with
    | none => rfl
    | some os => simp only [Option.bind_some]; rcases os with _ | ⟨⟨d⟩ | _ | _ | _ | _, _ | ⟨⟨d2⟩ | _ | _ | _ | _, _ | _⟩⟩ <;> (try rfl) <;> (try cases d <;> rfl) <;> (try cases d <;> cases d2 <;> rfl)
@[simp] theorem e_rg2 (m : MA) : mRg2 m env = bnd (m env) fun p => bnd (resolve p.2 p.1) fun os => match os with
    | [.fz (.int i), .fz (.int j)] => if i.natAbs ≤ 2 ^ 60 ∧ j.natAbs ≤ 2 ^ 60 then some (rgD i (j - i).toNat, p.2) else none
    | _ => none := by
  unfold mRg2 bnd
  cases m env with
  | none => rfl
  | some p =>
    obtain ⟨as, e⟩ := p
    simp only [Option.bind_some]
    cases resolve e as with
    | none => rfl
    | some os => simp only [Option.bind_some]; rcases os with _ | ⟨⟨d⟩ | _ | _ | _ | _, _ | ⟨⟨d2⟩ | _ | _ | _ | _, _ | _⟩⟩ <;> (try rfl) <;> (try cases d <;> rfl) <;> (try cases d <;> cases d2 <;> rfl)
@[simp] theorem e_for (mi : MI) (g : MG) (mb : MS) : mFor mi g mb env = bnd (mi env) fun p => mLoop g mb p.1 p.2 := by unfold mFor bnd; cases mi env <;> rfl
theorem e_loop (g : MG) (mb : MS) (d : D) (ds : List D) : mLoop g mb (d :: ds) env = bnd (g d env) fun e1 => bnd (mb e1) fun o => match o with
    | .nx e2 => mLoop g mb ds e2
    | .ct e2 => mLoop g mb ds e2
    | .bk e2 => some (.nx e2)
    | x => some x := by
  unfold bnd
  rw [mLoop]
  cases g d env with
  | none => rfl
  | some e1 =>
    simp only [Option.bind_some]
    cases mb e1 with
    | none => rfl
    | some o => cases o <;> rfl
theorem e_while (c : MT) (mb : MS) (n : Nat) : mWhile c mb (n + 1) env = bnd (c env) fun p => if p.1 = true then bnd (mb p.2) fun o => match o with
    | .nx e2 => mWhile c mb n e2
    | .ct e2 => mWhile c mb n e2
    | .bk e2 => some (.nx e2)
    | x => some x else some (.nx p.2) := by
  unfold bnd
  rw [mWhile]
  cases c env with
  | none => rfl
  | some p =>
    obtain ⟨b, e⟩ := p
    cases b with
    | false => rfl
    | true =>
      simp only [Option.bind_some, if_true]
      cases mb e with
      | none => rfl
      | some o => cases o <;> rfl
@[simp] theorem e_yes : mYes env = some (true, env) := rfl
@[simp] theorem e_comp (vs : List Nat) (mi : MI) (g : MG) (t : MT) (m : MD) : mComp vs mi g t m env = bnd (mi env) fun p => bnd (mCmpL vs g t m p.1 [] (clr vs p.2)) fun q => some (.oL q.1, q.2) := by
  unfold mComp bnd
  (repeat' split) <;> simp_all
@[simp] theorem e_clr_nil : clr [] env = env := rfl
@[simp] theorem e_clr_cons (v : Nat) (vs : List Nat) : clr (v :: vs) env = (clr vs env).set v none := rfl
@[simp] theorem e_prs_nil : mPrs [] env = some ([], env) := rfl
@[simp] theorem e_prs_cons (k : Key) (m : MD) (r : List (Key × MD)) : mPrs ((k, m) :: r) env = bnd (m env) fun p => bnd (mPrs r p.2) fun q => some ((k, p.1) :: q.1, q.2) := by
  rw [mPrs]
  unfold bnd
  (repeat' split) <;> simp_all
@[simp] theorem e_dic (ms : List (Key × MD)) : mDic ms env = bnd (mPrs ms env) fun p => some (.oD (mrgD [] p.1), p.2) := by unfold mDic bnd; cases mPrs ms env <;> rfl
@[simp] theorem e_run {N n : Nat} {fl : List Bool} {m : MS} {os : List OV} : runF N n fl m os = if os.length = n then bnd (m (os.map some ++ List.replicate (N - n) none)) fun r => match r with
    | .rt o e => some (o, outsOf fl e)
    | .nx e => some (.fz .none, outsOf fl e)
    | _ => none else none := by
  unfold runF bnd
  by_cases h : os.length = n
  · rw [if_pos h, if_pos h]
    cases m (os.map some ++ List.replicate (N - n) none) with
    | none => rfl
    | some r => cases r <;> rfl
  · rw [if_neg h, if_neg h]
theorem toNat_map_inj : ∀ {a b : List Char}, a.map Char.toNat = b.map Char.toNat → a = b
  | [], [], _ => rfl
  | [], _ :: _, h => by cases h
  | _ :: _, [], h => by cases h
  | x :: a, y :: b, h => by
    simp only [List.map_cons, List.cons.injEq] at h
    obtain ⟨h1, h2⟩ := h
    have e : x = y := Char.ext (UInt32.toNat_inj.mp h1)
    rw [e, toNat_map_inj h2]
@[simp] theorem str_inj (a b : String) : (Str.ofString a = Str.ofString b) ↔ a = b := by
  constructor
  · intro h
    rw [Str.ofString_eq_toList, Str.ofString_eq_toList] at h
    have h1 := congrArg (fun s : Str => s.cps.toList) h
    simp only [List.toList_toArray] at h1
    exact String.toList_inj.mp (toNat_map_inj h1)
  · rintro rfl; rfl
@[simp] theorem e_gLs (n : Nat) (r : MGs) (ds : List D) : gLs n r (.list ds) env = if ds.length = n then r ds env else none := rfl
@[simp] theorem e_zip (ma mb : MD) : mZip ma mb env = bnd (ma env) fun p => bnd (mb p.2) fun q => bnd (zipO p.1 q.1) fun ds => some (ds, q.2) := by
  unfold mZip bnd
  cases ma env with
  | none => rfl
  | some p =>
    obtain ⟨x, e⟩ := p
    simp only [Option.bind_some]
    cases mb e with
    | none => rfl
    | some q =>
      obtain ⟨y, e2⟩ := q
      simp only [Option.bind_some]
      cases zipO x y <;> rfl
@[simp] theorem e_zipL (xs ys : List D) : zipO (.list xs) (.list ys) = if (zipD xs ys).all notPoly = true then some (zipD xs ys) else none := rfl
@[simp] theorem e_zipT (xs ys : List D) : zipO (.tuple xs) (.tuple ys) = if (zipD xs ys).all notPoly = true then some (zipD xs ys) else none := rfl
@[simp] theorem e_enum (ma : MD) : mEnum ma env = bnd (ma env) fun p => match p.1 with
    | .list xs => some (enD xs, p.2)
    | _ => none := by
  unfold mEnum bnd
  cases ma env with
  | none => rfl
  | some p =>
    obtain ⟨x, e⟩ := p
    cases x <;> rfl
@[simp] theorem e_rev (ma : MD) : mRev ma env = bnd (ma env) fun p => bnd (revO p.1) fun ds => some (ds, p.2) := by
  unfold mRev bnd
  cases ma env with
  | none => rfl
  | some p =>
    obtain ⟨x, e⟩ := p
    simp only [Option.bind_some]
    cases revO x <;> rfl
@[simp] theorem e_revL (xs : List D) : revO (.list xs) = some xs.reverse := rfl
@[simp] theorem e_revT (xs : List D) : revO (.tuple xs) = some xs.reverse := rfl
theorem e_cmpL (vs : List Nat) (g : MG) (t : MT) (m : MD) (d : D) (ds acc : List D) : mCmpL vs g t m (d :: ds) acc env = bnd (g d env) fun e1 => bnd (t e1) fun p => if p.1 = true then bnd (m p.2) fun q => if acc.length ≤ lim then mCmpL vs g t m ds (acc ++ [q.1]) (clr vs q.2) else none else mCmpL vs g t m ds acc (clr vs p.2) := by
  unfold bnd
  rw [mCmpL]
  cases g d env with
  | none => rfl
  | some e1 =>
    simp only [Option.bind_some]
    cases t e1 with
    | none => rfl
    | some p =>
      obtain ⟨b, e2⟩ := p
      simp only [Option.bind_some]
      cases b with
      | false => rfl
      | true =>
        simp only [if_true]
        cases m e2 with
        | none => rfl
        | some q => rfl
@[simp] theorem e_callK (ix : List Nat) (m : MF) (ma : MA) : mCallK ix m ma env = bnd (ma env) fun p => bnd (frzA p.2 p.1) fun q => bnd (m ((pickA ix q.1).map OV.fz)) fun r => some (r.1, q.2) := by
  unfold mCallK bnd
  cases ma env with
  | none => rfl
  | some p =>
    obtain ⟨as, e⟩ := p
    simp only [Option.bind_some]
    cases frzA e as with
    | none => rfl
    | some q =>
      obtain ⟨ds, e2⟩ := q
      simp only [Option.bind_some]
      cases m ((pickA ix ds).map OV.fz) <;> rfl
@[simp] theorem e_parA_nil : parA env [] = some ([], env) := rfl
@[simp] theorem e_parA_own (o : OV) (as : List AV) : parA env (.own o :: as) = bnd (parA env as) fun p => some (o :: p.1, p.2) := by
  unfold bnd
  rw [parA]
  cases parA env as <;> rfl
@[simp] theorem e_parA_at (i : Nat) (as : List AV) : parA env (.at i :: as) = bnd (lk env i) fun o => bnd o.frz fun d => bnd (parA (env.set i (some (.fz d))) as) fun p => some (.fz d :: p.1, p.2) := by
  unfold bnd
  rw [parA]
  cases lk env i with
  | none => rfl
  | some o =>
    simp only [Option.bind_some]
    cases o.frz with
    | none => rfl
    | some d =>
      simp only [Option.bind_some]
      cases parA (env.set i (some (.fz d))) as <;> rfl
@[simp] theorem e_par2 (i j : Nat) (m : MA) : mPar2 i j m env = bnd (m env) fun p => bnd (parA p.2 p.1) fun q => match q.1 with
    | [a, b] => if i < q.2.length ∧ j < q.2.length then some (.nx ((q.2.set i (some a)).set j (some b))) else none
    | _ => none := by
  unfold mPar2 bnd
  cases m env with
  | none => rfl
  | some p =>
    simp only [Option.bind_some]
    cases parA p.2 p.1 with
    | none => rfl
    | some q =>
      obtain ⟨os, e⟩ := q
      simp only [Option.bind_some]
      rcases os with _ | ⟨a, _ | ⟨b, _ | ⟨c, r⟩⟩⟩ <;> rfl
@[simp] theorem e_par3 (i j l : Nat) (m : MA) : mPar3 i j l m env = bnd (m env) fun p => bnd (parA p.2 p.1) fun q => match q.1 with
    | [a, b, c] => if i < q.2.length ∧ j < q.2.length ∧ l < q.2.length then some (.nx (((q.2.set i (some a)).set j (some b)).set l (some c))) else none
    | _ => none := by
  unfold mPar3 bnd
  cases m env with
  | none => rfl
  | some p =>
    simp only [Option.bind_some]
    cases parA p.2 p.1 with
    | none => rfl
    | some q =>
      obtain ⟨os, e⟩ := q
      simp only [Option.bind_some]
      rcases os with _ | ⟨a, _ | ⟨b, _ | ⟨c, _ | ⟨d, r⟩⟩⟩⟩ <;> rfl
@[simp] theorem e_int (i : Int) : fInt (.fz (.int i)) = some (.fz (.int i)) := rfl
@[simp] theorem e_intB (b : Bool) : fInt (.fz (.bool b)) = some (.fz (.int (if b = true then 1 else 0))) := rfl
@[simp] theorem e_bo (m : MT) : mBo m env = bnd (m env) fun p => some (.fz (.bool p.1), p.2) := by unfold mBo bnd; cases m env <;> rfl
@[simp] theorem e_isi (T : String) (m : MV) : mIsi T m env = bnd (m env) fun p => bnd (resolve1 p.2 p.1) fun o => bnd (fIsi T o) fun b => some (b, p.2) := by
  unfold mIsi bnd
  cases m env with
  | none => rfl
  | some p =>
    obtain ⟨a, e⟩ := p
    simp only [Option.bind_some]
    cases resolve1 e a with
    | none => rfl
    | some o => simp only [Option.bind_some]; cases fIsi T o <;> rfl
@[simp] theorem e_chn (f g : Int → Int → Bool) (ma mb mc : MD) : mChn f g ma mb mc env = bnd (ma env) fun p => match p.1 with
    | .int i => bnd (mb p.2) fun q => match q.1 with
      | .int j => if f i j = true then bnd (mc q.2) fun r => match r.1 with
          | .int l => some (g j l, r.2)
          | _ => none
        else some (false, q.2)
      | _ => none
    | _ => none := by
  unfold mChn bnd
  cases ma env with
  | none => rfl
  | some p =>
    obtain ⟨d, e⟩ := p
    simp only [Option.bind_some]
    cases d with
    | int i =>
      simp only
      cases mb e with
      | none => rfl
      | some q =>
        obtain ⟨d2, e2⟩ := q
        simp only [Option.bind_some]
        cases d2 with
        | int j =>
          simp only
          by_cases hf : f i j = true
          · rw [if_pos hf, if_pos hf]
            cases mc e2 with
            | none => rfl
            | some r =>
              obtain ⟨d3, e3⟩ := r
              simp only [Option.bind_some]
              cases d3 <;> rfl
          · rw [if_neg hf, if_neg hf]
        | _ => rfl
    | _ => rfl
@[simp] theorem e_items (j : Nat) : mItems j env = bnd (lk env j) fun o => match o with
    | .oD kvs => some (.oL (kvs.map fun kv => .tuple [kD kv.1, kv.2]), env)
    | _ => none := by
  unfold mItems bnd
  cases lk env j with
  | none => rfl
  | some o => cases o <;> rfl
@[simp] theorem e_isNon (a : D) : fIs (.fz a) (.fz .none) = some (.fz (.bool (isNon (.fz a)))) := rfl
@[simp] theorem e_isB (a b : Bool) : fIs (.fz (.bool a)) (.fz (.bool b)) = some (.fz (.bool (decide (a = b)))) := rfl
@[simp] theorem e_isntNon (a : D) : fIsN (.fz a) (.fz .none) = some (.fz (.bool (!isNon (.fz a)))) := rfl
@[simp] theorem e_isntB (a b : Bool) : fIsN (.fz (.bool a)) (.fz (.bool b)) = some (.fz (.bool (!decide (a = b)))) := rfl
@[simp] theorem e_addL (xs ys : List D) : fAdd (.oL xs) (.oL ys) = if xs.length + ys.length ≤ 16000000 then some (.oL (xs ++ ys)) else none := rfl
@[simp] theorem e_addT (xs ys : List D) : fAdd (.fz (.tuple xs)) (.fz (.tuple ys)) = if xs.length + ys.length ≤ 16000000 then some (.fz (.tuple (xs ++ ys))) else none := rfl
@[simp] theorem e_outs_nil (e : Env) : outsOf [] e = [] := rfl
@[simp] theorem e_outs_t (bs : List Bool) (x : Option OV) (e : Env) : outsOf (true :: bs) (x :: e) = x :: outsOf bs e := rfl
@[simp] theorem e_outs_f (bs : List Bool) (x : Option OV) (e : Env) : outsOf (false :: bs) (x :: e) = none :: outsOf bs e := rfl
@[simp] theorem e_lim : (lim : Nat) = 16000000 := rfl
@[simp] theorem e_mrgD (kvs : List (Key × D)) : mrgD kvs [] = kvs := rfl
@[simp] theorem e_mrgD_cons (kvs r : List (Key × D)) (k : Key) (d : D) : mrgD kvs ((k, d) :: r) = mrgD (putD kvs k d) r := rfl
end G
namespace G
open PySem PySem.Spec PyProof.Rows L2

/-! ### how large numbers are -/
theorem bits_le {i : Int} {k : Nat} (h : i.natAbs < 2 ^ (k + 1)) : bits i ≤ k := by
  unfold bits
  by_cases h0 : i.natAbs = 0
  · rw [h0]; exact Nat.zero_le _
  · have := (Nat.log2_lt h0).mpr h
    omega
theorem lt_bits (i : Int) : i.natAbs < 2 ^ (bits i + 1) := Nat.lt_log2_self
theorem bits_mono {i j : Int} (h : i.natAbs ≤ j.natAbs) : bits i ≤ bits j := bits_le (Nat.lt_of_le_of_lt h (lt_bits j))
theorem bits_mul (i j : Int) : bits (i * j) ≤ bits i + bits j + 1 := by
  refine bits_le ?_
  rw [Int.natAbs_mul]
  have h1 := lt_bits i
  have h2 := lt_bits j
  have h3 : i.natAbs * j.natAbs < 2 ^ (bits i + 1) * 2 ^ (bits j + 1) := Nat.mul_lt_mul_of_lt_of_lt h1 h2
  rw [← Nat.pow_add] at h3
  have e : bits i + 1 + (bits j + 1) = bits i + bits j + 1 + 1 := by omega
  rwa [e] at h3
theorem bits_add (i j : Int) : bits (i + j) ≤ max (bits i) (bits j) + 1 := by
  refine bits_le ?_
  have h1 := lt_bits i
  have h2 := lt_bits j
  have a := Int.natAbs_add_le i j
  have b1 : 2 ^ (bits i + 1) ≤ 2 ^ (max (bits i) (bits j) + 1) := Nat.pow_le_pow_right (by decide) (by omega)
  have b2 : 2 ^ (bits j + 1) ≤ 2 ^ (max (bits i) (bits j) + 1) := Nat.pow_le_pow_right (by decide) (by omega)
  have e : 2 ^ (max (bits i) (bits j) + 1 + 1) = 2 ^ (max (bits i) (bits j) + 1) * 2 := Nat.pow_succ 2 (max (bits i) (bits j) + 1)
  rw [e]
  generalize 2 ^ (max (bits i) (bits j) + 1) = z at *
  omega
theorem bits_neg (i : Int) : bits (-i) = bits i := by unfold bits; rw [Int.natAbs_neg]
theorem bits_mod (i : Int) {m : Int} (h : 0 < m) : bits (i % m) ≤ bits m := by
  refine bits_mono ?_
  have h1 := Int.emod_nonneg i (by omega : m ≠ 0)
  have h2 := Int.emod_lt_of_pos i h
  omega
theorem bits_of {i : Int} {k : Nat} (h1 : -(2 ^ (k + 1)) < i) (h2 : i < 2 ^ (k + 1)) : bits i ≤ k := by
  refine bits_le ?_
  have e : ((2 : Int) ^ (k + 1)) = ((2 ^ (k + 1) : Nat) : Int) := by simp
  rw [e] at h1 h2
  generalize 2 ^ (k + 1) = z at *
  omega
theorem bits_up {i : Int} {k : Nat} (h0 : 0 ≤ i) (h : i < 2 ^ k) : bits i ≤ k := by
  refine bits_le ?_
  have e : ((2 : Int) ^ k) = ((2 ^ k : Nat) : Int) := by simp
  rw [e] at h
  have : 2 ^ k ≤ 2 ^ (k + 1) := Nat.pow_le_pow_right (by decide) (by omega)
  generalize 2 ^ k = z at *
  omega
/-! ### places -/
theorem atI_of {α : Type} {xs : List α} {i : Int} (h0 : 0 ≤ i) (h1 : i < (xs.length : Int)) : ∃ x, atI xs i = some x ∧ x ∈ xs := by
  obtain ⟨j, rfl⟩ := Int.eq_ofNat_of_zero_le h0
  have hj : j < xs.length := by omega
  exact ⟨xs[j], atI_nat (List.getElem?_eq_getElem hj), List.getElem_mem hj⟩
theorem atI_map {α β : Type} (f : α → β) (xs : List α) (i : Int) : atI (xs.map f) i = (atI xs i).map f := by
  unfold atI ixN
  simp only [List.length_map]
  (repeat' split) <;> simp_all
end G
namespace G
open PySem PySem.Spec PyProof.Rows L2

/-! ### typed data -/
class Ty (α : Type) [DecidableEq α] where
  d : α → D
  nod : ∀ a, (d a).hasDict = false
  lay : ∀ a, (d a).canLay0 = true
  eqv : ∀ a b, PyData.eqv (d a) (d b) = decide (a = b)
  dep : Nat
  dle : ∀ a, (d a).depth ≤ dep
instance : Ty Int := ⟨.int, fun _ => rfl, fun _ => rfl, fun a b => by simp only [PyData.eqv]; exact PySem.W.beq_decide a b, 0, fun _ => Nat.le_refl _⟩
instance : Ty Bool := ⟨.bool, fun _ => rfl, fun _ => rfl, fun a b => by simp only [PyData.eqv]; exact PySem.W.beq_decide a b, 0, fun _ => Nat.le_refl _⟩
instance : Ty Unit := ⟨fun _ => .none, fun _ => rfl, fun _ => rfl, fun _ _ => by simp only [PyData.eqv]; rfl, 0, fun _ => Nat.le_refl _⟩
section
variable {α β : Type} [DecidableEq α] [Ty α] [DecidableEq β] [Ty β]
theorem nodAll : ∀ xs : List α, PyData.hasDictAll (xs.map Ty.d) = false
  | [] => rfl
  | x :: xs => by rw [List.map_cons, PyData.hasDictAll, Ty.nod x, nodAll xs]; rfl
theorem layAll : ∀ xs : List α, PyData.canLayAll0 (xs.map Ty.d) = true
  | [] => rfl
  | x :: xs => by rw [List.map_cons, PyData.canLayAll0, Ty.lay x, layAll xs]; rfl
theorem depAll : ∀ xs : List α, PyData.depthAll (xs.map Ty.d) ≤ Ty.dep α
  | [] => Nat.zero_le _
  | x :: xs => by rw [List.map_cons, PyData.depthAll]; exact Nat.max_le.mpr ⟨Ty.dle x, depAll xs⟩
theorem eqvAllT : ∀ xs ys : List α, PyData.eqvAll (xs.map Ty.d) (ys.map Ty.d) = decide (xs = ys)
  | [], [] => by simp only [List.map_nil, PyData.eqvAll, decide_true]
  | [], _ :: _ => by simp [PyData.eqvAll]
  | _ :: _, [] => by simp [PyData.eqvAll]
  | x :: xs, y :: ys => by
    rw [List.map_cons, List.map_cons, PyData.eqvAll, Ty.eqv x y, eqvAllT xs ys, ← Bool.decide_and]
    exact decide_eq_decide.mpr (by rw [List.cons.injEq])
instance : Ty (List α) where
  d xs := .list (xs.map Ty.d)
  nod xs := by simp only [PyData.hasDict]; exact nodAll xs
  lay xs := by simp only [PyData.canLay0]; exact layAll xs
  eqv xs ys := by simp only [PyData.eqv]; exact eqvAllT xs ys
  dep := Ty.dep α + 1
  dle xs := by simp only [PyData.depth]; exact Nat.succ_le_succ (depAll xs)
instance : Ty (PySem.W.Tup α) where
  d t := .tuple (t.items.map Ty.d)
  nod t := by simp only [PyData.hasDict]; exact nodAll t.items
  lay t := by simp only [PyData.canLay0]; exact layAll t.items
  eqv t u := by
    simp only [PyData.eqv]
    rw [eqvAllT]
    exact decide_eq_decide.mpr ⟨fun e => by cases t; cases u; exact congrArg PySem.W.Tup.mk e, fun e => by rw [e]⟩
  dep := Ty.dep α + 1
  dle t := by simp only [PyData.depth]; exact Nat.succ_le_succ (depAll t.items)
instance : Ty (α × β) where
  d p := .tuple [Ty.d p.1, Ty.d p.2]
  nod p := by simp only [PyData.hasDict, PyData.hasDictAll, Ty.nod, Bool.or_self]
  lay p := by simp only [PyData.canLay0, PyData.canLayAll0, Ty.lay, Bool.and_self]
  eqv p q := by
    simp only [PyData.eqv, PyData.eqvAll]
    rw [Ty.eqv, Ty.eqv, Bool.and_true, ← Bool.decide_and]
    exact decide_eq_decide.mpr ⟨fun e => Prod.ext e.1 e.2, fun e => by rw [e]; exact ⟨rfl, rfl⟩⟩
  dep := max (Ty.dep α) (Ty.dep β) + 1
  dle p := by
    simp only [PyData.depth, PyData.depthAll]
    exact Nat.succ_le_succ (Nat.max_le.mpr ⟨Nat.le_trans (Ty.dle p.1) (Nat.le_max_left _ _), Nat.max_le.mpr ⟨Nat.le_trans (Ty.dle p.2) (Nat.le_max_right _ _), Nat.zero_le _⟩⟩)
theorem shapedT (a : α) (h : Ty.dep α ≤ 64) : SeqAt.shaped (Ty.d a) = true := by
  unfold SeqAt.shaped
  rw [Ty.lay a, Bool.true_and, decide_eq_true_eq]
  exact Nat.le_trans (Ty.dle a) h
theorem flatT (a : α) : (OV.fz (Ty.d a)).flat? = some (Ty.d a) := by
  show (if (Ty.d a).hasDict = true then none else some (Ty.d a)) = _
  rw [Ty.nod a]; rfl
theorem flatL (xs : List α) : (OV.oL (xs.map Ty.d)).flat? = some (Ty.d xs) := by
  show (if PyData.hasDictAll (xs.map Ty.d) = true then none else some (PyData.list (xs.map Ty.d))) = _
  rw [nodAll xs]; rfl
theorem eqT {x y : OV} {a b : α} (hx : x.flat? = some (Ty.d a)) (hy : y.flat? = some (Ty.d b)) (hs : strS x y = none) (h : Ty.dep α ≤ 64) : fEq x y = some (.fz (.bool (decide (a = b)))) := by
  unfold fEq
  simp only [hs, hx, hy, shapedT a h, shapedT b h, Ty.eqv, Bool.and_self, if_true]
theorem neT {x y : OV} {a b : α} (hx : x.flat? = some (Ty.d a)) (hy : y.flat? = some (Ty.d b)) (hs : strS x y = none) (h : Ty.dep α ≤ 64) : fNe x y = some (.fz (.bool (!decide (a = b)))) := by
  unfold fNe
  simp only [hs, hx, hy, shapedT a h, shapedT b h, Ty.eqv, Bool.and_self, if_true]
end
/-- a list of ints against [] -/
@[simp] theorem e_neNil (ns : List Int) : fNe (.fz (.list (ns.map PyData.int))) (.oL []) = some (.fz (.bool (!decide (ns = [])))) := neT (α := List Int) (flatT ns) (flatL []) rfl (by decide)
@[simp] theorem e_eqNil (ns : List Int) : fEq (.fz (.list (ns.map PyData.int))) (.oL []) = some (.fz (.bool (decide (ns = [])))) := eqT (α := List Int) (flatT ns) (flatL []) rfl (by decide)
@[simp] theorem e_neNil0 : fNe (.fz (.list [])) (.oL []) = some (.fz (.bool false)) := e_neNil []
@[simp] theorem e_eqNil0 : fEq (.fz (.list [])) (.oL []) = some (.fz (.bool true)) := e_eqNil []
/-! ### how long a repr is -/
theorem len_str (s : String) : (Str.ofString s).length = s.toList.length := by
  rw [Str.ofString_eq_toList]
  show (List.map Char.toNat s.toList).toArray.size = _
  simp
theorem len_nat (n : Nat) : (Nat.repr n).toList.length ≤ n.log2 + 1 := by
  rw [Nat.toList_repr]
  rw [Nat.length_toDigits_le_iff (by decide) (by omega)]
  refine Nat.lt_of_lt_of_le Nat.lt_log2_self ?_
  exact Nat.pow_le_pow_left (by decide) _
theorem len_int (i : Int) : (Str.ofString (toString i)).length ≤ bits i + 2 := by
  rw [len_str]
  cases i with
  | ofNat n => exact Nat.le_trans (len_nat n) (by show n.log2 + 1 ≤ n.log2 + 2; omega)
  | negSucc n =>
    show (("-" : String) ++ Nat.repr (n + 1)).toList.length ≤ _
    rw [String.toList_append, List.length_append]
    have := len_nat (n + 1)
    have e : bits (Int.negSucc n) = (n + 1).log2 := rfl
    rw [e]
    have : ("-" : String).toList.length = 1 := rfl
    omega
mutual
def szD : D → Nat
  | .none => 4
  | .bool _ => 5
  | .int i => bits i + 2
  | .str x => (PyData.shown (.str x)).length
  | .list xs => szAll xs + 3
  | .tuple xs => szAll xs + 3
  | .dict kvs => (PyData.shown (.dict kvs)).length
def szAll : List D → Nat
  | [] => 0
  | x :: xs => szD x + 2 + szAll xs
end
theorem textFrom_le : ∀ (ts : List Str) (k : Nat) (acc : Str), (textFrom k acc ts).length ≤ acc.length + piled ts
  | [], k, acc => by unfold textFrom; omega
  | t :: ts, k, acc => by
    unfold textFrom
    have := textFrom_le ts (k + 1) (acc ++ ((if k > 0 then ", " else "" : String) : Str) ++ t)
    rw [Str.length_append, Str.length_append] at this
    rw [piled_cons]
    have e : (Str.ofString (if k > 0 then ", " else "" : String)).length ≤ 2 := by
      rw [len_str]
      split <;> decide
    omega
theorem piled_le (ts : List Str) : (Str.join ", " ts).length ≤ piled ts := by
  cases ts with
  | nil => decide
  | cons t r => have := join_length_add (t :: r) (by simp); omega
mutual
theorem shown_le : ∀ d : D, d.shown.length ≤ szD d
  | .none => by decide
  | .bool b => by cases b <;> decide
  | .int i => by rw [PyData.shown, szD]; exact len_int i
  | .str x => by rw [szD]; exact Nat.le_refl _
  | .list xs => by
    rw [PyData.shown, szD]
    unfold listText
    have h1 := textFrom_le (PyData.shownAll xs) 0 "["
    have h2 := shownAll_le xs
    have e1 : (("[" : String) : Str).length = 1 := by decide
    have e2 : (("]" : String) : Str).length = 1 := by decide
    rw [Str.length_append]
    omega
  | .tuple xs => by
    rw [PyData.shown, szD]
    unfold tupleText
    have h1 := piled_le (PyData.shownAll xs)
    have h2 := shownAll_le xs
    rw [Str.length_append, Str.length_append]
    have e1 : (("(" : String) : Str).length = 1 := by decide
    have e2 : (Str.ofString (if (PyData.shownAll xs).length == 1 then ",)" else ")" : String)).length ≤ 2 := by
      rw [len_str]
      split <;> decide
    omega
  | .dict kvs => by rw [szD]; exact Nat.le_refl _
theorem shownAll_le : ∀ xs : List D, piled (PyData.shownAll xs) ≤ szAll xs
  | [] => by rw [PyData.shownAll, szAll]; exact Nat.le_refl _
  | x :: xs => by
    rw [PyData.shownAll, szAll, piled_cons]
    have h1 := shown_le x
    have h2 := shownAll_le xs
    omega
end
theorem szAll_le {n : Nat} : ∀ {xs : List D}, (∀ x ∈ xs, szD x ≤ n) → szAll xs ≤ xs.length * (n + 2)
  | [], _ => by rw [szAll]; omega
  | x :: xs, h => by
    rw [szAll, List.length_cons, Nat.add_mul]
    have h1 := h x (by simp)
    have h2 := szAll_le (n := n) (xs := xs) fun y hy => h y (by simp [hy])
    omega
/-- repr of plain data -/
theorem reprT {x : OV} {d : D} (hx : x.flat? = some d) (h1 : d.showable = true) (h2 : d.depth ≤ 60) (h3 : szD d ≤ 16000000) : fRepr x = some (.fz (.str d.shown)) := by
  unfold fRepr
  rw [hx]
  have h4 : d.shown.length ≤ lim := Nat.le_trans (shown_le d) h3
  simp only [h1, h2, h4, decide_true, Bool.and_self, if_true]
end G
namespace G
open PySem PySem.Spec PyProof.Rows L2

/-! ### loops -/
theorem loop_inv {g : MG} {mb : MS} (I : Nat → Env → Prop) : ∀ (ds : List D) (i : Nat) (env : Env), I i env →
    (∀ (j : Nat) (d : D) (e : Env), ds[j]? = some d → I (i + j) e → ∃ e1 e2, g d e = some e1 ∧ mb e1 = some (.nx e2) ∧ I (i + j + 1) e2) →
    ∃ env', mLoop g mb ds env = some (.nx env') ∧ I (i + ds.length) env'
  | [], i, env, h, _ => ⟨env, rfl, h⟩
  | d :: ds, i, env, h, hs => by
    obtain ⟨e1, e2, h1, h2, h3⟩ := hs 0 d env rfl h
    obtain ⟨e3, h4, h5⟩ := loop_inv I ds (i + 1) e2 h3 fun j d' e hj he => by
      have := hs (j + 1) d' e (by simpa using hj) (by rwa [show i + (j + 1) = i + 1 + j by omega])
      rwa [show i + (j + 1) + 1 = i + 1 + j + 1 by omega] at this
    refine ⟨e3, ?_, by rwa [List.length_cons, show i + (ds.length + 1) = i + 1 + ds.length by omega]⟩
    rw [e_loop, h1, bnd_some, h2, bnd_some]
    exact h4
/-- a loop whose state is folded -/
theorem loop_fold {α β : Type} {g : MG} {mb : MS} (enc : α → D) (E : Nat → β → Env → Prop) (step : β → α → β) : ∀ (xs : List α) (i : Nat) (b : β) (env : Env), E i b env →
    (∀ (j : Nat) (x : α) (b : β) (e : Env), xs[j]? = some x → E (i + j) b e → ∃ e1 e2, g (enc x) e = some e1 ∧ mb e1 = some (.nx e2) ∧ E (i + j + 1) (step b x) e2) →
    ∃ env', mLoop g mb (xs.map enc) env = some (.nx env') ∧ E (i + xs.length) (xs.foldl step b) env'
  | [], i, b, env, h, _ => ⟨env, rfl, h⟩
  | x :: xs, i, b, env, h, hs => by
    obtain ⟨e1, e2, h1, h2, h3⟩ := hs 0 x b env rfl h
    obtain ⟨e3, h4, h5⟩ := loop_fold enc E step xs (i + 1) (step b x) e2 h3 fun j y c e hj he => by
      have := hs (j + 1) y c e (by simpa using hj) (by rwa [show i + (j + 1) = i + 1 + j by omega])
      rwa [show i + (j + 1) + 1 = i + 1 + j + 1 by omega] at this
    refine ⟨e3, ?_, by rw [List.length_cons, show i + (xs.length + 1) = i + 1 + xs.length by omega]; exact h5⟩
    rw [List.map_cons, e_loop, h1, bnd_some, h2, bnd_some]
    exact h4
/-! ### comprehensions -/
theorem cmp_if {α : Type} {vs : List Nat} {g : MG} {t : MT} {m : MD} {e : Env} (enc : α → D) (P : α → Bool) (F : α → D) : ∀ (xs : List α) (acc : List D),
    (∀ x ∈ xs, ∃ e1 e2, g (enc x) e = some e1 ∧ t e1 = some (P x, e2) ∧ (P x = false → clr vs e2 = e) ∧ (P x = true → ∃ e3, m e2 = some (F x, e3) ∧ clr vs e3 = e)) →
    acc.length + xs.length ≤ lim → mCmpL vs g t m (xs.map enc) acc e = some (acc ++ (xs.filter P).map F, e)
  | [], acc, _, _ => by simp [mCmpL]
  | x :: xs, acc, h, hl => by
    obtain ⟨e1, e2, h1, h2, h3, h4⟩ := h x (by simp)
    have hl' : acc.length + (xs.length + 1) ≤ lim := by rw [List.length_cons] at hl; exact hl
    clear hl
    rw [List.map_cons, mCmpL, h1]
    simp only [h2]
    cases hp : P x with
    | false =>
      simp only
      rw [h3 hp, cmp_if enc P F xs acc (fun y hy => h y (by simp [hy])) (by omega), List.filter_cons_of_neg (by simp [hp])]
    | true =>
      obtain ⟨e3, h5, h6⟩ := h4 hp
      simp only [h5]
      rw [if_pos (by omega), h6, cmp_if enc P F xs (acc ++ [F x]) (fun y hy => h y (by simp [hy])) (by rw [List.length_append, List.length_singleton]; omega), List.filter_cons_of_pos (by simp [hp])]
      simp
theorem cmp_map {α : Type} {vs : List Nat} {g : MG} {m : MD} {e : Env} (enc : α → D) (F : α → D) (xs : List α) (acc : List D)
    (h : ∀ x ∈ xs, ∃ e1 e3, g (enc x) e = some e1 ∧ m e1 = some (F x, e3) ∧ clr vs e3 = e) (hl : acc.length + xs.length ≤ lim) : mCmpL vs g mYes m (xs.map enc) acc e = some (acc ++ xs.map F, e) := by
  have := cmp_if (vs := vs) (g := g) (t := mYes) (m := m) (e := e) enc (fun _ => true) F xs acc (fun x hx => by
    obtain ⟨e1, e3, h1, h2, h3⟩ := h x hx
    exact ⟨e1, e1, h1, rfl, fun z => absurd z (by decide), fun _ => ⟨e3, h2, h3⟩⟩) hl
  rw [List.filter_eq_self.mpr (by simp)] at this
  exact this
/-! ### dicts from ints -/
def ek (m : List (Int × Int)) : List (Key × D) := m.map fun p => (.inl p.1, .int p.2)
def lkI (m : List (Int × Int)) (x : Int) : Option Int := (m.find? fun p => decide (p.1 = x)).map (·.2)
def putI (m : List (Int × Int)) (x v : Int) : List (Int × Int) := if (m.any fun p => decide (p.1 = x)) then m.map fun p => if p.1 = x then (p.1, v) else p else m ++ [(x, v)]
theorem lk_ek (m : List (Int × Int)) (x : Int) : lkD (ek m) (.inl x) = (lkI m x).map PyData.int := by
  unfold lkD lkI ek
  induction m with
  | nil => rfl
  | cons p m ih =>
    by_cases h : p.1 = x
    · simp [h]
    · simpa [h] using ih
theorem put_ek (m : List (Int × Int)) (x v : Int) : putD (ek m) (.inl x) (.int v) = ek (putI m x v) := by
  unfold putD putI ek
  have e : ((m.map fun p => ((.inl p.1, .int p.2) : Key × D)).any fun kv => decide (kv.1 = .inl x)) = m.any fun p => decide (p.1 = x) := by
    induction m with
    | nil => rfl
    | cons p m ih => simp only [List.map_cons, List.any_cons, ih, Sum.inl.injEq]
  rw [e]
  split
  · rw [List.map_map, List.map_map]
    refine List.map_congr_left fun p _ => ?_
    by_cases h : p.1 = x
    · simp [h]
    · simp [h]
  · simp
theorem len_ek (m : List (Int × Int)) : (ek m).length = m.length := by unfold ek; simp
theorem putI_len (m : List (Int × Int)) (x v : Int) : (putI m x v).length ≤ m.length + 1 := by unfold putI; split <;> simp
theorem intKeys_ek (m : List (Int × Int)) : intKeys (ek m) = some (m.map (·.1)) := by
  unfold ek
  induction m with
  | nil => rfl
  | cons p m ih => simp only [List.map_cons, intKeys, ih, Option.map_some]
theorem sorted_ek (m : List (Int × Int)) : fSorted (.oD (ek m)) = some (.oL ((sortI (m.map (·.1))).map PyData.int)) := by
  show (intKeys (ek m)).map _ = _
  rw [intKeys_ek]; rfl
theorem lkI_some {m : List (Int × Int)} {x : Int} (h : x ∈ m.map (·.1)) : ∃ v, lkI m x = some v := by
  induction m with
  | nil => cases h
  | cons p m ih =>
    unfold lkI
    by_cases q : p.1 = x
    · exact ⟨p.2, by simp [q]⟩
    · have : x ∈ m.map (·.1) := by
        rcases List.mem_cons.mp h with z | z
        · exact absurd z.symm q
        · exact z
      obtain ⟨v, hv⟩ := ih this
      exact ⟨v, by simpa [q, lkI] using hv⟩
theorem mem_sortI {ns : List Int} {x : Int} : x ∈ sortI ns ↔ x ∈ ns := (sortI_perm ns).mem_iff
theorem len_sortI (ns : List Int) : (sortI ns).length = ns.length := (sortI_perm ns).length_eq
/-! ### pairs of ints -/
def pr (p : Int × Int) : D := .tuple [.int p.1, .int p.2]
def prs (ps : List (Int × Int)) : List D := ps.map pr
theorem pr_ty (p : Int × Int) : pr p = Ty.d p := rfl
theorem len_prs (ps : List (Int × Int)) : (prs ps).length = ps.length := by unfold prs; simp
/-! ### terms with like exponents put together -/
def stepN (p : Int) (m : List (Int × Int)) (q : Int × Int) : List (Int × Int) := putI m q.1 (((lkI m q.1).getD 0 + q.2) % p)
def normM (p : Int) (ps : List (Int × Int)) : List (Int × Int) := ps.foldl (stepN p) []
def valM (m : List (Int × Int)) (x : Int) : Int := (lkI m x).getD 0
def kept (m : List (Int × Int)) : List Int := (sortI (m.map (·.1))).filter fun x => !decide (valM m x = 0)
def normT (p : Int) (ps : List (Int × Int)) : List (Int × Int) := (kept (normM p ps)).map fun x => (x, valM (normM p ps) x)
theorem foldN_len (p : Int) : ∀ (ps m : List (Int × Int)), (ps.foldl (stepN p) m).length ≤ m.length + ps.length
  | [], m => by simp
  | q :: ps, m => by
    have h1 := foldN_len p ps (stepN p m q)
    have h2 := putI_len m q.1 (((lkI m q.1).getD 0 + q.2) % p)
    simp only [List.foldl_cons, List.length_cons]
    unfold stepN at h1 ⊢
    omega
theorem normM_len (p : Int) (ps : List (Int × Int)) : (normM p ps).length ≤ ps.length := by simpa [normM] using foldN_len p ps []
theorem kept_len (m : List (Int × Int)) : (kept m).length ≤ m.length := by
  unfold kept
  refine Nat.le_trans (List.length_filter_le _ _) ?_
  rw [len_sortI, List.length_map]
  exact Nat.le_refl _
theorem normT_len (p : Int) (ps : List (Int × Int)) : (normT p ps).length ≤ ps.length := by
  unfold normT
  rw [List.length_map]
  exact Nat.le_trans (kept_len _) (normM_len p ps)
theorem keys_put (m : List (Int × Int)) (x v : Int) {y : Int} (h : y ∈ (putI m x v).map (·.1)) : y ∈ m.map (·.1) ∨ y = x := by
  unfold putI at h
  split at h
  · left
    rw [List.map_map] at h
    obtain ⟨p, hp, rfl⟩ := List.mem_map.mp h
    refine List.mem_map.mpr ⟨p, hp, ?_⟩
    simp only [Function.comp]
    split <;> rfl
  · rw [List.map_append, List.mem_append] at h
    exact h.imp id fun z => by simpa using z
theorem vals_put (m : List (Int × Int)) (x v : Int) {y : Int} (h : y ∈ (putI m x v).map (·.2)) : y ∈ m.map (·.2) ∨ y = v := by
  unfold putI at h
  split at h
  · rw [List.map_map] at h
    obtain ⟨p, hp, rfl⟩ := List.mem_map.mp h
    simp only [Function.comp]
    split
    · right; rfl
    · left; exact List.mem_map.mpr ⟨p, hp, rfl⟩
  · rw [List.map_append, List.mem_append] at h
    exact h.imp id fun z => by simpa using z
theorem foldN_keys (p : Int) : ∀ (ps m : List (Int × Int)) (y : Int), y ∈ (ps.foldl (stepN p) m).map (·.1) → y ∈ m.map (·.1) ∨ y ∈ ps.map (·.1)
  | [], m, y, h => .inl h
  | q :: ps, m, y, h => by
    rcases foldN_keys p ps (stepN p m q) y h with h | h
    · rcases keys_put _ _ _ h with h | h
      · exact .inl h
      · exact .inr (by simp [h])
    · exact .inr (by simp only [List.map_cons, List.mem_cons]; exact .inr h)
theorem foldN_vals {p : Int} (hp : 0 < p) : ∀ (ps m : List (Int × Int)), (∀ y ∈ m.map (·.2), 0 ≤ y ∧ y < p) → ∀ y ∈ (ps.foldl (stepN p) m).map (·.2), 0 ≤ y ∧ y < p
  | [], m, h => h
  | q :: ps, m, h => foldN_vals hp ps (stepN p m q) fun y hy => by
    rcases vals_put _ _ _ hy with h1 | h1
    · exact h y h1
    · subst h1; exact ⟨Int.emod_nonneg _ (by omega), Int.emod_lt_of_pos _ hp⟩
theorem lkI_mem {m : List (Int × Int)} {x v : Int} (h : lkI m x = some v) : v ∈ m.map (·.2) := by
  unfold lkI at h
  obtain ⟨p, h1, rfl⟩ := Option.map_eq_some_iff.mp h
  exact List.mem_map.mpr ⟨p, List.mem_of_find?_eq_some h1, rfl⟩
/-- the terms of a normal form: exponents from the terms put in, coefficients from 1 to p - 1 -/
theorem normT_mem {p : Int} (hp : 0 < p) {ps : List (Int × Int)} {t : Int × Int} (h : t ∈ normT p ps) : t.1 ∈ ps.map (·.1) ∧ 0 ≤ t.2 ∧ t.2 < p := by
  unfold normT at h
  obtain ⟨x, hx, rfl⟩ := List.mem_map.mp h
  have h1 : x ∈ (normM p ps).map (·.1) := by
    have := (List.mem_filter.mp hx).1
    exact mem_sortI.mp this
  have h2 : x ∈ ps.map (·.1) := by
    rcases foldN_keys p ps [] x h1 with z | z
    · cases z
    · exact z
  obtain ⟨v, hv⟩ := lkI_some h1
  have h3 := foldN_vals hp ps [] (by simp) v (lkI_mem hv)
  refine ⟨h2, ?_⟩
  show 0 ≤ valM _ x ∧ valM _ x < p
  unfold valM
  rw [hv]
  exact h3
theorem show_prs {ps : List (Int × Int)} {k : Nat} (hb : ∀ p ∈ ps, bits p.1 ≤ k ∧ bits p.2 ≤ k) (hk : k < 1900) : PyData.showable (.tuple (prs ps)) = true := by
  have : ∀ qs : List (Int × Int), (∀ p ∈ qs, bits p.1 ≤ k ∧ bits p.2 ≤ k) → PyData.showableAll (qs.map pr) = true := by
    intro qs
    induction qs with
    | nil => intro _; rfl
    | cons p qs ih =>
      intro h
      have h1 := h p (by simp)
      rw [List.map_cons, PyData.showableAll, ih fun q hq => h q (by simp [hq])]
      have a : p.1.natAbs.log2 < 1920 := Nat.lt_of_le_of_lt h1.1 (by omega)
      have b : p.2.natAbs.log2 < 1920 := Nat.lt_of_le_of_lt h1.2 (by omega)
      simp [pr, PyData.showable, PyData.showableAll, a, b]
  rw [PyData.showable]
  exact this ps hb
theorem sz_prs {ps : List (Int × Int)} {n k : Nat} (hb : ∀ p ∈ ps, bits p.1 ≤ k ∧ bits p.2 ≤ k) (hl : ps.length ≤ n) (hn : n * (2 * k + 13) ≤ 15000000) : szD (.tuple (prs ps)) ≤ 15000003 := by
  rw [szD]
  have : szAll (prs ps) ≤ (prs ps).length * ((2 * k + 11) + 2) := szAll_le fun x hx => by
    unfold prs at hx
    obtain ⟨p, hp, rfl⟩ := List.mem_map.mp hx
    have := hb p hp
    simp only [pr, szD, szAll]
    omega
  rw [len_prs] at this
  have h2 : ps.length * (2 * k + 11 + 2) ≤ n * (2 * k + 13) := Nat.mul_le_mul hl (Nat.le_refl _)
  omega
/-- repr of a tuple of pairs -/
theorem repr_prs {ps : List (Int × Int)} {n k : Nat} (hb : ∀ p ∈ ps, bits p.1 ≤ k ∧ bits p.2 ≤ k) (hk : k ≤ 1000) (hl : ps.length ≤ n) (hn : n * (2 * k + 13) ≤ 15000000) : fRepr (.fz (.tuple (prs ps))) = some (.fz (.str (PyData.shown (.tuple (prs ps))))) :=
  reprT (flatT (PySem.W.Tup.mk ps)) (show_prs hb (by omega)) (Nat.le_trans (Ty.dle (PySem.W.Tup.mk ps)) (by decide)) (Nat.le_trans (sz_prs hb hl hn) (by decide))
@[simp] theorem atI_0 {α : Type} (x : α) (xs : List α) : atI (x :: xs) 0 = some x := atI_nat (j := 0) rfl
@[simp] theorem atI_1 {α : Type} (x y : α) (xs : List α) : atI (x :: y :: xs) 1 = some y := atI_nat (j := 1) rfl
@[simp] theorem atI_2 {α : Type} (x y z : α) (xs : List α) : atI (x :: y :: z :: xs) 2 = some z := atI_nat (j := 2) rfl
end G
namespace G
open PySem PySem.Spec PyProof.Rows L2

/-! ### coefficients: the normal form is told by them -/
abbrev PL := List (Int × Int)
def cf : PL → Int → Int
  | [], _ => 0
  | q :: ps, x => (if q.1 = x then q.2 else 0) + cf ps x
theorem cf_nil (x : Int) : cf [] x = 0 := rfl
theorem cf_cons (q : Int × Int) (ps : PL) (x : Int) : cf (q :: ps) x = (if q.1 = x then q.2 else 0) + cf ps x := rfl
theorem cf_app : ∀ (ps qs : PL) (x : Int), cf (ps ++ qs) x = cf ps x + cf qs x
  | [], qs, x => by simp [cf]
  | q :: ps, qs, x => by rw [List.cons_append, cf_cons, cf_cons, cf_app ps qs x]; omega
theorem cf_not {ps : PL} {x : Int} (h : x ∉ ps.map (·.1)) : cf ps x = 0 := by
  induction ps with
  | nil => rfl
  | cons q ps ih =>
    rw [List.map_cons, List.mem_cons, not_or] at h
    rw [cf_cons, ih h.2, if_neg fun e => h.1 e.symm]
    rfl
theorem valM_put (m : PL) (e v x : Int) : valM (putI m e v) x = if e = x then v else valM m x := by
  unfold valM
  by_cases h : e = x
  · subst h
    rw [if_pos rfl]
    have : lkI (putI m e v) e = some v := by
      unfold putI lkI
      split
      · rename_i hm
        induction m with
        | nil => simp at hm
        | cons p m ih =>
          by_cases hp : p.1 = e
          · simp [hp]
          · have hm' : (m.any fun p => decide (p.1 = e)) = true := by simpa [hp] using hm
            have := ih hm'
            simpa [hp] using this
      · rename_i hm
        have hf : m.find? (fun p => decide (p.1 = e)) = none := by
          rw [List.find?_eq_none]
          intro p hp hq
          exact hm (List.any_eq_true.mpr ⟨p, hp, hq⟩)
        rw [List.find?_append, hf]
        simp
    rw [this]; rfl
  · rw [if_neg h]
    have : lkI (putI m e v) x = lkI m x := by
      unfold putI lkI
      split
      · rename_i hm
        clear hm
        induction m with
        | nil => rfl
        | cons p m ih =>
          by_cases hp : p.1 = e
          · have hx : ¬ p.1 = x := fun z => h (hp ▸ z)
            have hx' : ¬ e = x := h
            simpa [hp, hx'] using ih
          · by_cases hx : p.1 = x
            · subst hx
              simp [hp]
            · simpa [hp, hx] using ih
      · rw [List.find?_append]
        have : ([(e, v)] : PL).find? (fun p => decide (p.1 = x)) = none := by simp [h]
        rw [this, Option.or_none]
    rw [this]
theorem emod_add_l (a b p : Int) : (a % p + b) % p = (a + b) % p := Int.emod_add_emod a p b
theorem valM_fold {p : Int} : ∀ (ps m : PL) (x : Int), (∀ y, valM m y % p = valM m y) → valM (ps.foldl (stepN p) m) x = (valM m x + cf ps x) % p
  | [], m, x, h => by rw [List.foldl_nil, cf_nil, Int.add_zero, h]
  | q :: ps, m, x, h => by
    have h2 : ∀ y, valM (stepN p m q) y % p = valM (stepN p m q) y := fun y => by
      unfold stepN
      rw [valM_put]
      split
      · exact Int.emod_emod_of_dvd _ (Int.dvd_refl p)
      · exact h y
    rw [List.foldl_cons, valM_fold ps _ x h2, cf_cons]
    unfold stepN
    rw [valM_put]
    by_cases e : q.1 = x
    · rw [if_pos e, if_pos e, emod_add_l]
      subst e
      show (valM m q.1 + q.2 + cf ps q.1) % p = _
      congr 1
      omega
    · rw [if_neg e, if_neg e]
      congr 1
      omega
theorem valM_nil (x : Int) : valM [] x = 0 := rfl
theorem valM_norm (p : Int) (ps : PL) (x : Int) : valM (normM p ps) x = cf ps x % p := by
  unfold normM
  rw [valM_fold ps [] x fun y => by rw [valM_nil]; exact Int.zero_emod p, valM_nil, Int.zero_add]
theorem keys_put_eq (m : PL) (x v : Int) : (putI m x v).map (·.1) = if x ∈ m.map (·.1) then m.map (·.1) else m.map (·.1) ++ [x] := by
  have hm : (m.any fun p => decide (p.1 = x)) = true ↔ x ∈ m.map (·.1) := by
    rw [List.any_eq_true, List.mem_map]
    constructor
    · rintro ⟨p, h1, h2⟩
      exact ⟨p, h1, of_decide_eq_true h2⟩
    · rintro ⟨p, h1, h2⟩
      exact ⟨p, h1, decide_eq_true h2⟩
  unfold putI
  by_cases h : x ∈ m.map (·.1)
  · rw [if_pos (hm.mpr h), if_pos h, List.map_map]
    refine List.map_congr_left fun p _ => ?_
    simp only [Function.comp]
    split <;> rfl
  · rw [if_neg (fun z => h (hm.mp z)), if_neg h, List.map_append]
    rfl
theorem nodup_put {m : PL} (h : (m.map (·.1)).Nodup) (x v : Int) : ((putI m x v).map (·.1)).Nodup := by
  rw [keys_put_eq]
  split
  · exact h
  · rename_i hx
    rw [List.nodup_append]
    exact ⟨h, by simp, fun a ha b hb => by simp only [List.mem_singleton] at hb; subst hb; exact fun e => hx (e ▸ ha)⟩
theorem nodup_fold {p : Int} : ∀ (ps m : PL), (m.map (·.1)).Nodup → ((ps.foldl (stepN p) m).map (·.1)).Nodup
  | [], m, h => h
  | q :: ps, m, h => nodup_fold ps _ (nodup_put h _ _)
theorem sorted_lt {ns : List Int} (h : ns.Nodup) : (sortI ns).Pairwise (· < ·) := by
  have h1 := sortI_le ns
  have h2 : (sortI ns).Nodup := (sortI_perm ns).nodup_iff.mpr h
  exact (List.Pairwise.and h1 h2).imp fun ⟨a, b⟩ => by omega
theorem kept_lt {m : PL} (h : (m.map (·.1)).Nodup) : (kept m).Pairwise (· < ·) := (sorted_lt h).filter _
theorem mem_kept {m : PL} {x : Int} : x ∈ kept m ↔ valM m x ≠ 0 := by
  unfold kept
  rw [List.mem_filter, mem_sortI]
  constructor
  · rintro ⟨_, h⟩
    simpa using h
  · intro h
    refine ⟨?_, by simpa using h⟩
    by_cases hx : x ∈ m.map (·.1)
    · exact hx
    · exfalso
      apply h
      unfold valM lkI
      have : m.find? (fun p => decide (p.1 = x)) = none := by
        rw [List.find?_eq_none]
        intro p hp hq
        exact hx (List.mem_map.mpr ⟨p, hp, of_decide_eq_true hq⟩)
      rw [this]; rfl
theorem lt_eq : ∀ {a b : List Int}, a.Pairwise (· < ·) → b.Pairwise (· < ·) → (∀ x, x ∈ a ↔ x ∈ b) → a = b := fun {a b} h1 h2 h => by
  have n1 : a.Nodup := h1.imp fun q => by omega
  have n2 : b.Nodup := h2.imp fun q => by omega
  exact perm_le_eq ((List.perm_ext_iff_of_nodup n1 n2).mpr h) (h1.imp fun q => by omega) (h2.imp fun q => by omega)
theorem normM_nodup (p : Int) (ps : PL) : ((normM p ps).map (·.1)).Nodup := nodup_fold ps [] List.nodup_nil
theorem normT_eq {p : Int} {ps qs : PL} (h : ∀ x, cf ps x % p = cf qs x % p) : normT p ps = normT p qs := by
  have hv : ∀ x, valM (normM p ps) x = valM (normM p qs) x := fun x => by rw [valM_norm, valM_norm, h]
  have hk : kept (normM p ps) = kept (normM p qs) := lt_eq (kept_lt (normM_nodup p ps)) (kept_lt (normM_nodup p qs)) fun x => by rw [mem_kept, mem_kept, hv]
  unfold normT
  rw [hk]
  exact List.map_congr_left fun x _ => by rw [hv]
/-- strictly ascending exponents -/
def Asc (ps : PL) : Prop := (ps.map (·.1)).Pairwise (· < ·)
theorem normT_asc (p : Int) (ps : PL) : Asc (normT p ps) := by
  unfold Asc normT
  rw [List.map_map]
  have : ((fun q : Int × Int => q.1) ∘ fun x => (x, valM (normM p ps) x)) = id := rfl
  rw [this, List.map_id]
  exact kept_lt (normM_nodup p ps)
theorem cf_map : ∀ (ks : List Int) (f : Int → Int) (x : Int), ks.Nodup → cf (ks.map fun k => (k, f k)) x = if x ∈ ks then f x else 0
  | [], f, x, _ => by simp [cf]
  | k :: ks, f, x, h => by
    rw [List.nodup_cons] at h
    rw [List.map_cons, cf_cons, cf_map ks f x h.2]
    by_cases e : k = x
    · subst e
      simp [h.1]
    · have e' : ¬ x = k := fun z => e z.symm
      simp [e, e']
theorem cf_normT (p : Int) (ps : PL) (x : Int) : cf (normT p ps) x = cf ps x % p := by
  unfold normT
  have hn : (kept (normM p ps)).Nodup := (kept_lt (normM_nodup p ps)).imp fun q => by omega
  rw [cf_map _ _ _ hn, ← valM_norm]
  split
  · rfl
  · rename_i h
    rw [mem_kept] at h
    exact (Decidable.not_not.mp h).symm
theorem normT_norm (p : Int) (ps : PL) : normT p (normT p ps) = normT p ps := normT_eq fun x => by rw [cf_normT]; exact Int.emod_emod_of_dvd _ (Int.dvd_refl p)
theorem cf_of_mem : ∀ {ps : PL}, Asc ps → ∀ {q : Int × Int}, q ∈ ps → cf ps q.1 = q.2
  | [], _, _, h => by cases h
  | r :: ps, ha, q, h => by
    unfold Asc at ha
    rw [List.map_cons, List.pairwise_cons] at ha
    rcases List.mem_cons.mp h with rfl | h
    · rw [cf_cons, if_pos rfl, cf_not]
      · omega
      · intro z
        have := ha.1 _ z
        omega
    · have h1 := ha.1 q.1 (List.mem_map.mpr ⟨q, h, rfl⟩)
      rw [cf_cons, if_neg (by omega), cf_of_mem (ps := ps) ha.2 h]
      omega
/-- in normal form: ascending, coefficients from 1 to p - 1 -/
def Nrm (p : Int) (ps : PL) : Prop := Asc ps ∧ ∀ q ∈ ps, 0 < q.2 ∧ q.2 < p
theorem nrm_normT {p : Int} (hp : 0 < p) (ps : PL) : Nrm p (normT p ps) := by
  refine ⟨normT_asc p ps, fun q hq => ?_⟩
  have h1 := normT_mem hp hq
  refine ⟨?_, h1.2.2⟩
  unfold normT at hq
  obtain ⟨x, hx, rfl⟩ := List.mem_map.mp hq
  have := mem_kept.mp hx
  have h2 : 0 ≤ valM (normM p ps) x := h1.2.1
  show 0 < valM (normM p ps) x
  omega
theorem cf_rng {p : Int} {ps : PL} (h : Nrm p ps) (hp : 0 < p) (x : Int) : 0 ≤ cf ps x ∧ cf ps x < p := by
  by_cases hx : x ∈ ps.map (·.1)
  · obtain ⟨q, hq, rfl⟩ := List.mem_map.mp hx
    rw [cf_of_mem h.1 hq]
    have := h.2 q hq
    omega
  · rw [cf_not hx]; omega
theorem nrm_eq {p : Int} (hp : 0 < p) {ps qs : PL} (h1 : Nrm p ps) (h2 : Nrm p qs) (h : ∀ x, cf ps x = cf qs x) : ps = qs := by
  have mk : ∀ {rs : PL}, Nrm p rs → ∀ x, x ∈ rs.map (·.1) ↔ cf rs x ≠ 0 := fun {rs} hr x => by
    constructor
    · intro hx
      obtain ⟨q, hq, rfl⟩ := List.mem_map.mp hx
      rw [cf_of_mem hr.1 hq]
      have := hr.2 q hq
      omega
    · intro hx
      exact Decidable.byContradiction fun z => hx (cf_not z)
  have hk : ps.map (·.1) = qs.map (·.1) := lt_eq h1.1 h2.1 fun x => by rw [mk h1, mk h2, h]
  have rb : ∀ {rs : PL}, Nrm p rs → rs = (rs.map (·.1)).map fun k => (k, cf rs k) := fun {rs} hr => by
    rw [List.map_map]
    conv => lhs; rw [← List.map_id rs]
    refine List.map_congr_left fun q hq => ?_
    show q = (q.1, cf rs q.1)
    rw [cf_of_mem hr.1 hq]
  rw [rb h1, rb h2, hk]
  exact List.map_congr_left fun k _ => by rw [h]
theorem normT_of_nrm {p : Int} (hp : 0 < p) {ps : PL} (h : Nrm p ps) : normT p ps = ps := nrm_eq hp (nrm_normT hp ps) h fun x => by
  rw [cf_normT]
  have := cf_rng h hp x
  exact Int.emod_eq_of_lt this.1 this.2
/-! ### scaled, moved -/
def scl (f : Int) (ps : PL) : PL := ps.map fun q => (q.1, q.2 * f)
def mov (n : Int) (ps : PL) : PL := ps.map fun q => (q.1 + n, q.2)
theorem cf_scl (f : Int) : ∀ (ps : PL) (x : Int), cf (scl f ps) x = cf ps x * f
  | [], x => by simp [scl, cf]
  | q :: ps, x => by
    have := cf_scl f ps x
    unfold scl at this ⊢
    rw [List.map_cons, cf_cons, cf_cons, this, Int.add_mul]
    show (if q.1 = x then q.2 * f else 0) + _ = _
    split
    · rfl
    · omega
theorem cf_mov (n : Int) : ∀ (ps : PL) (x : Int), cf (mov n ps) x = cf ps (x - n)
  | [], x => by simp [mov, cf]
  | q :: ps, x => by
    have := cf_mov n ps x
    unfold mov at this ⊢
    rw [List.map_cons, cf_cons, cf_cons, this]
    show (if q.1 + n = x then q.2 else 0) + _ = _
    by_cases h : q.1 = x - n
    · rw [if_pos h, if_pos (by omega)]
    · rw [if_neg h, if_neg (by omega)]
theorem len_mov (n : Int) (ps : PL) : (mov n ps).length = ps.length := by unfold mov; rw [List.length_map]
theorem len_scl (n : Int) (ps : PL) : (scl n ps).length = ps.length := by unfold scl; rw [List.length_map]
theorem mem_mov {n : Int} {ps : PL} {q : Int × Int} (h : q ∈ mov n ps) : ∃ r ∈ ps, q = (r.1 + n, r.2) := by
  unfold mov at h
  obtain ⟨r, hr, rfl⟩ := List.mem_map.mp h
  exact ⟨r, hr, rfl⟩
theorem keys_scl {n : Int} {ps : PL} {x : Int} (h : x ∈ (scl n ps).map (·.1)) : x ∈ ps.map (·.1) := by
  unfold scl at h
  rw [List.map_map] at h
  exact h
theorem nrm_mov {p n : Int} {ps : PL} (h : Nrm p ps) : Nrm p (mov n ps) := by
  refine ⟨?_, fun q hq => ?_⟩
  · have := h.1
    unfold Asc mov at *
    rw [List.map_map]
    have e : ((fun q : Int × Int => q.1) ∘ fun q : Int × Int => (q.1 + n, q.2)) = (fun x => x + n) ∘ fun q : Int × Int => q.1 := rfl
    rw [e, ← List.map_map, List.pairwise_map]
    exact this.imp fun z => by omega
  · obtain ⟨r, hr, rfl⟩ := mem_mov hq
    exact h.2 r hr
/-! ### products -/
def prd : PL → PL → PL
  | [], _ => []
  | q :: ps, qs => (qs.map fun r => (q.1 + r.1, q.2 * r.2)) ++ prd ps qs
theorem len_prd : ∀ (ps qs : PL), (prd ps qs).length = ps.length * qs.length
  | [], qs => by simp [prd]
  | q :: ps, qs => by rw [prd, List.length_append, List.length_map, len_prd ps qs, List.length_cons, Nat.add_mul]; omega
theorem cf_row (q : Int × Int) : ∀ (qs : PL) (x : Int), cf (qs.map fun r => (q.1 + r.1, q.2 * r.2)) x = q.2 * cf qs (x - q.1)
  | [], x => by simp [cf]
  | r :: qs, x => by
    rw [List.map_cons, cf_cons, cf_cons, cf_row q qs x, Int.mul_add]
    show (if q.1 + r.1 = x then q.2 * r.2 else 0) + _ = _
    by_cases h : r.1 = x - q.1
    · rw [if_pos h, if_pos (by omega)]
    · rw [if_neg h, if_neg (by omega), Int.mul_zero]
theorem cf_prd : ∀ (q : Int × Int) (ps qs : PL) (x : Int), cf (prd (q :: ps) qs) x = q.2 * cf qs (x - q.1) + cf (prd ps qs) x := fun q ps qs x => by rw [prd, cf_app, cf_row]
theorem prd_nil (x : Int) : ∀ ps : PL, cf (prd ps []) x = 0
  | [] => rfl
  | q :: ps => by rw [cf_prd, prd_nil x ps, cf_nil]; omega
theorem cf_prd_cons : ∀ (r : Int × Int) (ps qs : PL) (x : Int), cf (prd ps (r :: qs)) x = r.2 * cf ps (x - r.1) + cf (prd ps qs) x
  | r, [], qs, x => by simp [prd, cf]
  | r, q :: ps, qs, x => by
    rw [cf_prd, cf_prd, cf_prd_cons r ps qs x, cf_cons, cf_cons, Int.mul_add, Int.mul_add]
    have : q.2 * (if r.1 = x - q.1 then r.2 else 0) = r.2 * (if q.1 = x - r.1 then q.2 else 0) := by
      by_cases h : r.1 = x - q.1
      · rw [if_pos h, if_pos (by omega), Int.mul_comm]
      · rw [if_neg h, if_neg (by omega)]; omega
    omega
theorem cf_prd_comm : ∀ (ps qs : PL) (x : Int), cf (prd ps qs) x = cf (prd qs ps) x
  | [], qs, x => by rw [prd_nil]; rfl
  | q :: ps, qs, x => by rw [cf_prd, cf_prd_cons, cf_prd_comm ps qs x]
/-- the product's coefficients depend on the factors' coefficients -/
theorem prd_congr_r {p : Int} {qs qs' : PL} (h : ∀ x, cf qs x % p = cf qs' x % p) : ∀ (ps : PL) (x : Int), cf (prd ps qs) x % p = cf (prd ps qs') x % p
  | [], x => rfl
  | q :: ps, x => by
    rw [cf_prd, cf_prd, Int.add_emod, prd_congr_r h ps x, Int.mul_emod, h, ← Int.mul_emod, ← Int.add_emod]
theorem prd_congr_l {p : Int} {ps ps' : PL} (h : ∀ x, cf ps x % p = cf ps' x % p) (qs : PL) (x : Int) : cf (prd ps qs) x % p = cf (prd ps' qs) x % p := by
  rw [cf_prd_comm, prd_congr_r h, cf_prd_comm]
theorem foldl_prd {β : Type} (f : β → Int × Int → β) : ∀ (ps qs : PL) (b : β), (prd ps qs).foldl f b = ps.foldl (fun b q => qs.foldl (fun b r => f b (q.1 + r.1, q.2 * r.2)) b) b
  | [], qs, b => rfl
  | q :: ps, qs, b => by rw [prd, List.foldl_append, List.foldl_map, List.foldl_cons, foldl_prd f ps qs]
theorem mem_prd {x : Int × Int} : ∀ {ps qs : PL}, x ∈ prd ps qs → ∃ q ∈ ps, ∃ r ∈ qs, x = (q.1 + r.1, q.2 * r.2)
  | [], _, h => by cases h
  | q :: ps, qs, h => by
    rw [prd, List.mem_append] at h
    rcases h with h | h
    · obtain ⟨r, hr, rfl⟩ := List.mem_map.mp h
      exact ⟨q, by simp, r, hr, rfl⟩
    · obtain ⟨q', h1, r, h2, e⟩ := mem_prd h
      exact ⟨q', by simp [h1], r, h2, e⟩
/-! ### sums kept in a dict -/
def stepA (m : PL) (q : Int × Int) : PL := putI m q.1 (valM m q.1 + q.2)
theorem valM_foldA : ∀ (ps m : PL) (x : Int), valM (ps.foldl stepA m) x = valM m x + cf ps x
  | [], m, x => by rw [List.foldl_nil, cf_nil, Int.add_zero]
  | q :: ps, m, x => by
    rw [List.foldl_cons, valM_foldA ps _ x, cf_cons]
    unfold stepA
    rw [valM_put]
    by_cases e : q.1 = x
    · subst e
      rw [if_pos rfl, if_pos rfl]; omega
    · rw [if_neg e, if_neg e]; omega
theorem nodup_foldA : ∀ (ps m : PL), (m.map (·.1)).Nodup → ((ps.foldl stepA m).map (·.1)).Nodup
  | [], m, h => h
  | q :: ps, m, h => nodup_foldA ps _ (nodup_put h _ _)
theorem len_foldA : ∀ (ps m : PL), (ps.foldl stepA m).length ≤ m.length + ps.length
  | [], m => by simp
  | q :: ps, m => by
    have h1 := len_foldA ps (stepA m q)
    have h2 := putI_len m q.1 (valM m q.1 + q.2)
    simp only [List.foldl_cons, List.length_cons]
    unfold stepA at h1 ⊢
    omega
theorem cf_dict : ∀ {m : PL}, (m.map (·.1)).Nodup → ∀ x, cf m x = valM m x
  | [], _, x => rfl
  | q :: m, h, x => by
    rw [List.map_cons, List.nodup_cons] at h
    rw [cf_cons]
    unfold valM lkI
    by_cases e : q.1 = x
    · rw [if_pos e, cf_not (by rw [← e]; exact h.1)]
      simp [e]
    · rw [if_neg e, cf_dict h.2 x]
      simp [e, valM, lkI]
theorem normT_foldA (p : Int) (ps : PL) : normT p (ps.foldl stepA []) = normT p ps := normT_eq fun x => by
  rw [cf_dict (nodup_foldA ps [] List.nodup_nil), valM_foldA, valM_nil, Int.zero_add]
theorem len_foldR (q : Int × Int) : ∀ (qs : PL) (m : PL), (qs.foldl (fun b r => stepA b (q.1 + r.1, q.2 * r.2)) m).length ≤ m.length + qs.length
  | [], m => by simp
  | r :: qs, m => by
    have h1 := len_foldR q qs (stepA m (q.1 + r.1, q.2 * r.2))
    have h2 : (stepA m (q.1 + r.1, q.2 * r.2)).length ≤ m.length + 1 := putI_len m _ _
    simp only [List.foldl_cons, List.length_cons]
    omega
theorem items_ek (m : PL) : ((ek m).map fun kv => PyData.tuple [kD kv.1, kv.2]) = prs m := by
  unfold ek prs
  rw [List.map_map]
  rfl
end G
namespace G
open PySem PySem.Spec PyProof.Rows L2

/-! ### while -/
theorem while_mono {c : MT} {mb : MS} : ∀ {n m : Nat} {e : Env} {o : Out}, mWhile c mb n e = some o → n ≤ m → mWhile c mb m e = some o
  | 0, _, _, _, h, _ => by cases h
  | n + 1, 0, _, _, _, h => by omega
  | n + 1, m + 1, e, o, h, hm => by
    rw [e_while] at h ⊢
    unfold bnd at h ⊢
    cases hc : c e with
    | none => rw [hc] at h; cases h
    | some p =>
      rw [hc] at h
      simp only [Option.bind_some] at h ⊢
      split at h
      · rename_i hp
        rw [if_pos hp]
        cases hb : mb p.2 with
        | none => rw [hb] at h; cases h
        | some r =>
          rw [hb] at h
          simp only [Option.bind_some] at h ⊢
          cases r with
          | nx e2 => exact while_mono h (by omega)
          | ct e2 => exact while_mono h (by omega)
          | bk e2 => exact h
          | rt v e2 => exact h
      · rename_i hp
        rw [if_neg hp]
        exact h
theorem while_inv {c : MT} {mb : MS} (I : Nat → Env → Prop) (Post : Env → Prop) (hs : ∀ n e, I n e → (∃ e1, c e = some (false, e1) ∧ Post e1) ∨ ∃ e1 e2 n', c e = some (true, e1) ∧ mb e1 = some (.nx e2) ∧ n' < n ∧ I n' e2) :
    ∀ (n : Nat) (e : Env), I n e → ∃ env', mWhile c mb (n + 1) e = some (.nx env') ∧ Post env' := by
  intro n
  induction n using Nat.strongRecOn with
  | ind n ih =>
    intro e h
    rcases hs n e h with ⟨e1, h1, h2⟩ | ⟨e1, e2, n', h1, h2, h3, h4⟩
    · refine ⟨e1, ?_, h2⟩
      rw [e_while, h1]
      rfl
    · obtain ⟨env', g1, g2⟩ := ih n' h3 e2 h4
      refine ⟨env', ?_, g2⟩
      rw [e_while, h1, bnd_some, if_pos rfl, h2, bnd_some]
      exact while_mono g1 (by omega)
theorem while_big {c : MT} {mb : MS} {n : Nat} {e : Env} {o : Out} (h : mWhile c mb (n + 1) e = some o) (hn : n < 1000000000) : mWhile c mb wn e = some o := while_mono h (by unfold wn; omega)
/-! ### effects: a polynomial and a shift -/
abbrev Ef := PL × Int
def EN (p : Int) (a : Ef) : Prop := Nrm p a.1
def cmpE (p : Int) (a b : Ef) : Ef := (normT p (a.1 ++ mov a.2 b.1), a.2 + b.2)
def idE : Ef := ([], 0)
def invE (p : Int) (a : Ef) : Ef := (mov (-a.2) (normT p (scl (-1) a.1)), -a.2)
theorem en_id (p : Int) : EN p idE := ⟨List.Pairwise.nil, fun q h => by cases h⟩
theorem en_cmp {p : Int} (hp : 0 < p) (a b : Ef) : EN p (cmpE p a b) := nrm_normT hp _
theorem en_inv {p : Int} (hp : 0 < p) (a : Ef) : EN p (invE p a) := nrm_mov (nrm_normT hp _)
theorem ef_eq {p : Int} (hp : 0 < p) {a b : Ef} (ha : EN p a) (hb : EN p b) (h : ∀ x, cf a.1 x % p = cf b.1 x % p) (hs : a.2 = b.2) : a = b := by
  refine Prod.ext ?_ hs
  refine nrm_eq hp ha hb fun x => ?_
  have h1 := cf_rng ha hp x
  have h2 := cf_rng hb hp x
  have := h x
  rwa [Int.emod_eq_of_lt h1.1 h1.2, Int.emod_eq_of_lt h2.1 h2.2] at this
theorem cf_cmp (p : Int) (a b : Ef) (x : Int) : cf (cmpE p a b).1 x = (cf a.1 x + cf b.1 (x - a.2)) % p := by
  show cf (normT p (a.1 ++ mov a.2 b.1)) x = _
  rw [cf_normT, cf_app, cf_mov]
theorem cf_inv (p : Int) (a : Ef) (x : Int) : cf (invE p a).1 x = (-(cf a.1 (x + a.2))) % p := by
  show cf (mov (-a.2) (normT p (scl (-1) a.1))) x = _
  rw [cf_mov, cf_normT, cf_scl]
  congr 1
  have : x - -a.2 = x + a.2 := by omega
  rw [this]
  omega
theorem emm (x p : Int) : x % p % p = x % p := Int.emod_emod_of_dvd _ (Int.dvd_refl p)
theorem em_add (a b p : Int) : (a % p + b % p) % p = (a + b) % p := (Int.add_emod a b p).symm
theorem em_addl (a b p : Int) : (a % p + b) % p = (a + b) % p := Int.emod_add_emod a p b
theorem em_addr (a b p : Int) : (a + b % p) % p = (a + b) % p := Int.add_emod_emod a b p
theorem cmp_assoc {p : Int} (hp : 0 < p) (a b c : Ef) : cmpE p (cmpE p a b) c = cmpE p a (cmpE p b c) := by
  refine ef_eq hp (en_cmp hp _ _) (en_cmp hp _ _) (fun x => ?_) (by show a.2 + b.2 + c.2 = a.2 + (b.2 + c.2); omega)
  rw [cf_cmp, cf_cmp, cf_cmp, cf_cmp, emm, emm, em_addl, em_addr]
  have : x - (cmpE p a b).2 = x - a.2 - b.2 := by show x - (a.2 + b.2) = _; omega
  rw [this]
  congr 1
  omega
theorem cmp_id_r {p : Int} (hp : 0 < p) {a : Ef} (ha : EN p a) : cmpE p a idE = a := by
  refine ef_eq hp (en_cmp hp _ _) ha (fun x => ?_) (by show a.2 + 0 = a.2; omega)
  rw [cf_cmp, emm]
  show (cf a.1 x + cf [] _) % p = _
  rw [cf_nil, Int.add_zero]
theorem cmp_id_l {p : Int} (hp : 0 < p) {a : Ef} (ha : EN p a) : cmpE p idE a = a := by
  refine ef_eq hp (en_cmp hp _ _) ha (fun x => ?_) (by show 0 + a.2 = a.2; omega)
  rw [cf_cmp, emm]
  show (cf [] x + cf a.1 (x - 0)) % p = _
  rw [cf_nil, Int.zero_add, Int.sub_zero]
theorem cmp_inv_r {p : Int} (hp : 0 < p) (a : Ef) : cmpE p a (invE p a) = idE := by
  refine ef_eq hp (en_cmp hp _ _) (en_id p) (fun x => ?_) (by show a.2 + -a.2 = 0; omega)
  rw [cf_cmp, emm, cf_inv, em_addr]
  have : x - a.2 + a.2 = x := by omega
  rw [this]
  show (cf a.1 x + -cf a.1 x) % p = cf [] x % p
  rw [cf_nil]
  congr 1
  omega
theorem cmp_inv_l {p : Int} (hp : 0 < p) (a : Ef) : cmpE p (invE p a) a = idE := by
  refine ef_eq hp (en_cmp hp _ _) (en_id p) (fun x => ?_) (by show -a.2 + a.2 = 0; omega)
  rw [cf_cmp, emm, cf_inv, em_addl]
  have : x - (invE p a).2 = x + a.2 := by show x - -a.2 = _; omega
  rw [this]
  show (-cf a.1 (x + a.2) + cf a.1 (x + a.2)) % p = cf [] x % p
  rw [cf_nil]
  congr 1
  omega
/-- composed with itself n times -/
def pwE (p : Int) (a : Ef) : Nat → Ef
  | 0 => idE
  | n + 1 => cmpE p (pwE p a n) a
theorem en_pw {p : Int} (hp : 0 < p) (a : Ef) : ∀ n, EN p (pwE p a n)
  | 0 => en_id p
  | n + 1 => en_cmp hp _ _
theorem pw_add {p : Int} (hp : 0 < p) (a : Ef) (m : Nat) : ∀ n, pwE p a (m + n) = cmpE p (pwE p a m) (pwE p a n)
  | 0 => by show pwE p a m = cmpE p (pwE p a m) idE; rw [cmp_id_r hp (en_pw hp a m)]
  | n + 1 => by
    show cmpE p (pwE p a (m + n)) a = cmpE p (pwE p a m) (cmpE p (pwE p a n) a)
    rw [pw_add hp a m n, cmp_assoc hp]
theorem pw_one {p : Int} (hp : 0 < p) {a : Ef} (ha : EN p a) : pwE p a 1 = a := cmp_id_l hp ha
theorem pw_shift (p : Int) (a : Ef) : ∀ n, (pwE p a n).2 = n * a.2
  | 0 => by show (0 : Int) = ((0 : Nat) : Int) * a.2; rw [Int.natCast_zero, Int.zero_mul]
  | n + 1 => by
    show (pwE p a n).2 + a.2 = ((n + 1 : Nat) : Int) * a.2
    rw [pw_shift p a n, Int.natCast_succ, Int.add_mul, Int.one_mul]
theorem cf_pw0 {p : Int} (hp : 0 < p) (ps : PL) (x : Int) : ∀ n : Nat, cf (pwE p (ps, 0) n).1 x = ((n : Int) * cf ps x) % p
  | 0 => by show cf [] x = _; rw [cf_nil, Int.natCast_zero, Int.zero_mul, Int.zero_emod]
  | n + 1 => by
    show cf (cmpE p (pwE p (ps, 0) n) (ps, 0)).1 x = _
    rw [cf_cmp, pw_shift, cf_pw0 hp ps x n, em_addl]
    show ((n : Int) * cf ps x + cf ps (x - (n : Int) * 0)) % p = _
    rw [Int.mul_zero, Int.sub_zero, Int.natCast_succ, Int.add_mul, Int.one_mul]
/-- how large an effect is -/
structure EB (a : Ef) (n : Nat) (w : Int) (v : Int) : Prop where
  len : a.1.length ≤ n
  mem : ∀ q ∈ a.1, -w ≤ q.1 ∧ q.1 ≤ w
  lo : -v ≤ a.2
  hi : a.2 ≤ v
theorem EB.cmp {p : Int} (hp : 0 < p) {a b : Ef} {n m : Nat} {w v w' v' : Int} (h : EB a n w v) (g : EB b m w' v') (hw : w' + v ≤ w) : EB (cmpE p a b) (n + m) w (v + v') where
  len := by
    have := normT_len p (a.1 ++ mov a.2 b.1)
    rw [List.length_append, len_mov] at this
    have h1 := h.len
    have h2 := g.len
    show (normT p (a.1 ++ mov a.2 b.1)).length ≤ _
    omega
  mem := fun q hq => by
    obtain ⟨w1, _, _⟩ := normT_mem hp (show q ∈ normT p (a.1 ++ mov a.2 b.1) from hq)
    obtain ⟨z, hz, e⟩ := List.mem_map.mp w1
    have e' : z.1 = q.1 := e
    have hlo := h.lo
    have hhi := h.hi
    rcases List.mem_append.mp hz with hz | hz
    · have := h.mem z hz
      omega
    · obtain ⟨y, hy, rfl⟩ := mem_mov hz
      have := g.mem y hy
      have e'' : y.1 + a.2 = q.1 := e
      omega
  lo := by have := h.lo; have := g.lo; show _ ≤ a.2 + b.2; omega
  hi := by have := h.hi; have := g.hi; show a.2 + b.2 ≤ _; omega
theorem EB.inv {p : Int} (hp : 0 < p) {a : Ef} {n : Nat} {w v : Int} (h : EB a n w v) : EB (invE p a) n (w + v) v where
  len := by
    have := normT_len p (scl (-1) a.1)
    rw [len_scl] at this
    have h1 := h.len
    show (mov (-a.2) (normT p (scl (-1) a.1))).length ≤ _
    rw [len_mov]
    omega
  mem := fun q hq => by
    obtain ⟨y, hy, rfl⟩ := mem_mov (show q ∈ mov (-a.2) (normT p (scl (-1) a.1)) from hq)
    obtain ⟨w1, _, _⟩ := normT_mem hp hy
    obtain ⟨z, hz, e⟩ := List.mem_map.mp (keys_scl w1)
    have e' : z.1 = y.1 := e
    have := h.mem z hz
    have hlo := h.lo
    have hhi := h.hi
    show _ ≤ y.1 + -a.2 ∧ y.1 + -a.2 ≤ _
    omega
  lo := by have := h.hi; show _ ≤ -a.2; omega
  hi := by have := h.lo; show -a.2 ≤ _; omega
theorem EB.mono {a : Ef} {n m : Nat} {w v w' v' : Int} (h : EB a n w v) (hn : n ≤ m) (hw : w ≤ w') (hv : v ≤ v') : EB a m w' v' where
  len := Nat.le_trans h.len hn
  mem := fun q hq => by have := h.mem q hq; omega
  lo := by have := h.lo; omega
  hi := by have := h.hi; omega
theorem EB.nn {a : Ef} {n : Nat} {w v : Int} (h : EB a n w v) : 0 ≤ v := by
  have := h.lo
  have := h.hi
  omega
theorem EB.pw {p : Int} (hp : 0 < p) {b : Ef} {l : Nat} {w v : Int} (hw : 0 ≤ w) (h : EB b l w v) : ∀ n : Nat, EB (pwE p b n) (n * l) (w + n * v) (n * v)
  | 0 => ⟨Nat.zero_le _, (fun q hq => nomatch hq), (by show _ ≤ (0 : Int); simp), (by show (0 : Int) ≤ _; simp)⟩
  | n + 1 => by
    have := EB.cmp hp (EB.mono (EB.pw hp hw h n) (Nat.le_refl _) (w' := w + ((n + 1 : Nat) : Int) * v) (by rw [Int.natCast_succ, Int.add_mul]; have := h.nn; omega) (Int.le_refl _)) h (by rw [Int.natCast_succ, Int.add_mul]; have := h.nn; omega)
    refine this.mono (by rw [Nat.add_mul]; omega) (Int.le_refl _) (by rw [Int.natCast_succ, Int.add_mul]; omega)
theorem len_pw {p : Int} (b : Ef) : ∀ n : Nat, (pwE p b n).1.length ≤ n * b.1.length
  | 0 => Nat.zero_le _
  | n + 1 => by
    have h1 := normT_len p ((pwE p b n).1 ++ mov (pwE p b n).2 b.1)
    rw [List.length_append, len_mov] at h1
    have h2 := len_pw (p := p) b n
    show (normT p ((pwE p b n).1 ++ mov (pwE p b n).2 b.1)).length ≤ _
    rw [Nat.add_mul]
    omega
@[simp] theorem e_neNN : fNe (.oL []) (.oL []) = some (.fz (.bool false)) := neT (α := List Int) (flatL []) (flatL []) rfl (by decide)
@[simp] theorem e_eqNN : fEq (.oL []) (.oL []) = some (.fz (.bool true)) := eqT (α := List Int) (flatL []) (flatL []) rfl (by decide)
end G
namespace G
open PySem PySem.Spec PyProof.Rows L2

/-! ### powers with whole counts, in the group of effects -/
theorem len_cmp {p : Int} (a b : Ef) : (cmpE p a b).1.length ≤ a.1.length + b.1.length := by
  have := normT_len p (a.1 ++ mov a.2 b.1)
  rw [List.length_append, len_mov] at this
  exact this
theorem len_inv {p : Int} (a : Ef) : (invE p a).1.length ≤ a.1.length := by
  have := normT_len p (scl (-1) a.1)
  rw [len_scl] at this
  show (mov (-a.2) (normT p (scl (-1) a.1))).length ≤ _
  rw [len_mov]
  exact this
theorem cancel_r {p : Int} (hp : 0 < p) {a b c : Ef} (ha : EN p a) (hb : EN p b) (h : cmpE p a c = cmpE p b c) : a = b := by
  have := congrArg (fun z => cmpE p z (invE p c)) h
  simp only [cmp_assoc hp, cmp_inv_r hp] at this
  rwa [cmp_id_r hp ha, cmp_id_r hp hb] at this
theorem inv_uniq {p : Int} (hp : 0 < p) {a b : Ef} (ha : EN p a) (hb : EN p b) (h : cmpE p a b = idE) : a = invE p b := by
  refine cancel_r hp ha (en_inv hp b) (c := b) ?_
  rw [h, cmp_inv_l hp]
theorem inv_inv {p : Int} (hp : 0 < p) {a : Ef} (ha : EN p a) : invE p (invE p a) = a := (inv_uniq hp ha (en_inv hp a) (cmp_inv_r hp a)).symm
theorem inv_cmp {p : Int} (hp : 0 < p) {a b : Ef} (ha : EN p a) (hb : EN p b) : invE p (cmpE p a b) = cmpE p (invE p b) (invE p a) := by
  refine (inv_uniq hp (en_cmp hp _ _) (en_cmp hp _ _) ?_).symm
  rw [cmp_assoc hp, ← cmp_assoc hp (invE p a) a b, cmp_inv_l hp, cmp_id_l hp hb, cmp_inv_l hp]
def zpE (p : Int) (a : Ef) (c : Int) : Ef := pwE p (if 0 ≤ c then a else invE p a) c.natAbs
theorem en_zp {p : Int} (hp : 0 < p) (a : Ef) (c : Int) : EN p (zpE p a c) := en_pw hp _ _
theorem zp_succ {p : Int} (hp : 0 < p) {a : Ef} (ha : EN p a) (c : Int) : zpE p a (c + 1) = cmpE p (zpE p a c) a := by
  unfold zpE
  by_cases h : 0 ≤ c
  · rw [if_pos h, if_pos (by omega)]
    have : (c + 1).natAbs = c.natAbs + 1 := by omega
    rw [this]
    rfl
  · rw [if_neg h]
    have e : c.natAbs = (c + 1).natAbs + 1 := by omega
    rw [e]
    show _ = cmpE p (cmpE p (pwE p (invE p a) (c + 1).natAbs) (invE p a)) a
    rw [cmp_assoc hp, cmp_inv_l hp, cmp_id_r hp (en_pw hp _ _)]
    by_cases h1 : 0 ≤ c + 1
    · have : (c + 1).natAbs = 0 := by omega
      rw [this]
      rfl
    · rw [if_neg h1]
theorem zp_0 (p : Int) (a : Ef) : zpE p a 0 = idE := rfl
theorem z_uniq {p : Int} (hp : 0 < p) {a : Ef} {f g : Int → Ef} (nf : ∀ c, EN p (f c)) (ng : ∀ c, EN p (g c)) (h0 : f 0 = g 0) (hf : ∀ c, f (c + 1) = cmpE p (f c) a) (hg : ∀ c, g (c + 1) = cmpE p (g c) a) (c : Int) : f c = g c := by
  have up : ∀ n : Nat, f n = g n := by
    intro n
    induction n with
    | zero => exact h0
    | succ n ih =>
      have e : ((n + 1 : Nat) : Int) = (n : Int) + 1 := by omega
      rw [e, hf, hg, ih]
  have down : ∀ n : Nat, f (-(n : Int)) = g (-(n : Int)) := by
    intro n
    induction n with
    | zero => exact h0
    | succ n ih =>
      have e : -((n + 1 : Nat) : Int) + 1 = -(n : Int) := by omega
      refine cancel_r hp (nf _) (ng _) (c := a) ?_
      rw [← hf, ← hg, e, ih]
  by_cases h : 0 ≤ c
  · obtain ⟨n, rfl⟩ := Int.eq_ofNat_of_zero_le h
    exact up n
  · have : c = -((c.natAbs : Nat) : Int) := by omega
    rw [this]
    exact down _
theorem zp_add {p : Int} (hp : 0 < p) {a : Ef} (ha : EN p a) (m n : Int) : zpE p a (m + n) = cmpE p (zpE p a m) (zpE p a n) :=
  z_uniq hp (a := a) (f := fun n => zpE p a (m + n)) (g := fun n => cmpE p (zpE p a m) (zpE p a n)) (fun _ => en_zp hp _ _) (fun _ => en_cmp hp _ _)
    (by show zpE p a (m + 0) = cmpE p (zpE p a m) idE; rw [Int.add_zero, cmp_id_r hp (en_zp hp _ _)])
    (fun c => by show zpE p a (m + (c + 1)) = _; rw [← Int.add_assoc, zp_succ hp ha]) (fun c => by show cmpE p (zpE p a m) (zpE p a (c + 1)) = _; rw [zp_succ hp ha, cmp_assoc hp]) n
theorem zp_mul {p : Int} (hp : 0 < p) {a : Ef} (ha : EN p a) (m n : Int) : zpE p (zpE p a m) n = zpE p a (m * n) :=
  z_uniq hp (a := zpE p a m) (f := fun n => zpE p (zpE p a m) n) (g := fun n => zpE p a (m * n)) (fun _ => en_zp hp _ _) (fun _ => en_zp hp _ _)
    (by show idE = zpE p a (m * 0); rw [Int.mul_zero]; rfl) (fun c => zp_succ hp (en_zp hp _ _) c) (fun c => by show zpE p a (m * (c + 1)) = _; rw [Int.mul_add, Int.mul_one, zp_add hp ha]) n
theorem zp_neg {p : Int} (hp : 0 < p) {a : Ef} (ha : EN p a) (m : Int) : zpE p a (-m) = invE p (zpE p a m) := by
  refine inv_uniq hp (en_zp hp _ _) (en_zp hp _ _) ?_
  rw [← zp_add hp ha]
  have : -m + m = 0 := by omega
  rw [this]
  rfl
theorem zp_one {p : Int} (hp : 0 < p) {a : Ef} (ha : EN p a) : zpE p a 1 = a := cmp_id_l hp ha
theorem zp_inv {p : Int} (hp : 0 < p) {a : Ef} (ha : EN p a) (m : Int) : zpE p (invE p a) m = invE p (zpE p a m) := by
  have h1 : invE p a = zpE p a (-1) := by rw [zp_neg hp ha, zp_one hp ha]
  rw [h1, zp_mul hp ha, ← zp_neg hp ha]
  congr 1
  omega
theorem zp_conj {p : Int} (hp : 0 < p) {a b : Ef} (ha : EN p a) (hb : EN p b) (n : Int) : zpE p (cmpE p (cmpE p (invE p b) a) b) n = cmpE p (cmpE p (invE p b) (zpE p a n)) b :=
  z_uniq hp (a := cmpE p (cmpE p (invE p b) a) b) (f := fun n => zpE p (cmpE p (cmpE p (invE p b) a) b) n) (g := fun n => cmpE p (cmpE p (invE p b) (zpE p a n)) b) (fun _ => en_zp hp _ _) (fun _ => en_cmp hp _ _)
    (by show idE = cmpE p (cmpE p (invE p b) idE) b; rw [cmp_id_r hp (en_inv hp b), cmp_inv_l hp]) (fun c => zp_succ hp (en_cmp hp _ _) c)
    (fun c => by
      show cmpE p (cmpE p (invE p b) (zpE p a (c + 1))) b = cmpE p (cmpE p (cmpE p (invE p b) (zpE p a c)) b) (cmpE p (cmpE p (invE p b) a) b)
      rw [zp_succ hp ha]
      simp only [cmp_assoc hp]
      rw [← cmp_assoc hp b (invE p b), cmp_inv_r hp, cmp_id_l hp (en_cmp hp _ _)]) n
theorem len_zp {p : Int} (a : Ef) (c : Int) : (zpE p a c).1.length ≤ c.natAbs * a.1.length := by
  unfold zpE
  refine Nat.le_trans (len_pw _ _) (Nat.mul_le_mul (Nat.le_refl _) ?_)
  split
  · exact Nat.le_refl _
  · exact len_inv a
/-! ### geometric sums -/
def rnd (c : Nat) (s : Int) : PL := (List.range c).map fun (k : Nat) => ((k : Int) * s, 1)
theorem len_rnd (c : Nat) (s : Int) : (rnd c s).length = c := by unfold rnd; rw [List.length_map, List.length_range]
theorem rnd_succ (c : Nat) (s : Int) : rnd (c + 1) s = rnd c s ++ [((c : Int) * s, 1)] := by unfold rnd; rw [List.range_succ, List.map_append]; rfl
theorem cf_prd_app : ∀ (ps ps' qs : PL) (x : Int), cf (prd (ps ++ ps') qs) x = cf (prd ps qs) x + cf (prd ps' qs) x
  | [], ps', qs, x => by rw [List.nil_append]; show _ = cf [] x + _; rw [cf_nil, Int.zero_add]
  | q :: ps, ps', qs, x => by rw [List.cons_append, cf_prd, cf_prd, cf_prd_app ps ps' qs x]; omega
theorem cf_pw_geo {p : Int} (hp : 0 < p) (a : Ef) (x : Int) : ∀ n : Nat, cf (pwE p a n).1 x = cf (prd (rnd n a.2) a.1) x % p
  | 0 => by show cf [] x = cf [] x % p; rw [cf_nil, Int.zero_emod]
  | n + 1 => by
    show cf (cmpE p (pwE p a n) a).1 x = _
    rw [cf_cmp, pw_shift, cf_pw_geo hp a x n, em_addl, rnd_succ, cf_prd_app, cf_prd]
    show (_ + _) % p = (_ + (1 * cf a.1 (x - (n : Int) * a.2) + cf [] x)) % p
    rw [cf_nil, Int.one_mul, Int.add_zero]
theorem pw_geo {p : Int} (hp : 0 < p) (a : Ef) (n : Nat) : pwE p a n = (normT p (prd a.1 (normT p (rnd n a.2))), (n : Int) * a.2) := by
  refine ef_eq hp (en_pw hp a n) (nrm_normT hp _) (fun x => ?_) (pw_shift p a n)
  rw [cf_pw_geo hp]
  show _ = cf (normT p _) x % p
  rw [cf_normT, emm, emm]
  have h := prd_congr_r (p := p) (qs := normT p (rnd n a.2)) (qs' := rnd n a.2) (fun y => by rw [cf_normT, emm]) a.1 x
  rw [h, cf_prd_comm]
end G
namespace G
open PySem PySem.Spec PyProof.Rows L2

/-! ### the ring of polynomials -/
def CE (p : Int) (a b : PL) : Prop := ∀ x, cf a x % p = cf b x % p
theorem CE.eq {p : Int} {a b : PL} (h : CE p a b) : normT p a = normT p b := normT_eq h
theorem CE.refl (p : Int) (a : PL) : CE p a a := fun _ => rfl
theorem CE.symm {p : Int} {a b : PL} (h : CE p a b) : CE p b a := fun x => (h x).symm
theorem CE.trans {p : Int} {a b c : PL} (h : CE p a b) (g : CE p b c) : CE p a c := fun x => (h x).trans (g x)
theorem CE.nrm (p : Int) (a : PL) : CE p (normT p a) a := fun x => by rw [cf_normT, emm]
theorem CE.app {p : Int} {a b c d : PL} (h : CE p a b) (g : CE p c d) : CE p (a ++ c) (b ++ d) := fun x => by rw [cf_app, cf_app, Int.add_emod, h x, g x, ← Int.add_emod]
theorem CE.prd {p : Int} {a b c d : PL} (h : CE p a b) (g : CE p c d) : CE p (G.prd a c) (G.prd b d) := fun x => by rw [prd_congr_r g a x, prd_congr_l h d x]
theorem CE.scl {p : Int} {a b : PL} (h : CE p a b) (f : Int) : CE p (G.scl f a) (G.scl f b) := fun x => by rw [cf_scl, cf_scl, Int.mul_emod, h x, ← Int.mul_emod]
theorem CE.mov {p : Int} {a b : PL} (h : CE p a b) (n : Int) : CE p (G.mov n a) (G.mov n b) := fun x => by rw [cf_mov, cf_mov]; exact h _
theorem CE.of {p : Int} {a b : PL} (h : ∀ x, cf a x = cf b x) : CE p a b := fun x => by rw [h]
theorem CE.id {p : Int} (hp : 0 < p) {a b : PL} (ha : Nrm p a) (h : CE p b a) : normT p b = a := by rw [h.eq, normT_of_nrm hp ha]
theorem cf_comm (a b : PL) (x : Int) : cf (a ++ b) x = cf (b ++ a) x := by rw [cf_app, cf_app]; omega
theorem cf_assoc (a b c : PL) (x : Int) : cf (a ++ b ++ c) x = cf (a ++ (b ++ c)) x := by rw [List.append_assoc]
theorem cf_prd_row (q : Int × Int) : ∀ (b c : PL) (x : Int), cf (prd (b.map fun r => (q.1 + r.1, q.2 * r.2)) c) x = q.2 * cf (prd b c) (x - q.1)
  | [], c, x => by show cf [] x = q.2 * cf [] _; rw [cf_nil, cf_nil, Int.mul_zero]
  | r :: b, c, x => by
    rw [List.map_cons, cf_prd, cf_prd, cf_prd_row q b c x, Int.mul_add]
    show q.2 * r.2 * cf c (x - (q.1 + r.1)) + _ = _
    have : x - (q.1 + r.1) = x - q.1 - r.1 := by omega
    rw [this, Int.mul_assoc]
theorem cf_prd_assoc : ∀ (a b c : PL) (x : Int), cf (prd (prd a b) c) x = cf (prd a (prd b c)) x
  | [], b, c, x => rfl
  | q :: a, b, c, x => by
    rw [cf_prd]
    show cf (prd ((b.map fun r => (q.1 + r.1, q.2 * r.2)) ++ prd a b) c) x = _
    rw [cf_prd_app, cf_prd_row, cf_prd_assoc a b c x]
theorem cf_prd_app_r (a b c : PL) (x : Int) : cf (prd a (b ++ c)) x = cf (prd a b) x + cf (prd a c) x := by
  rw [cf_prd_comm, cf_prd_app, cf_prd_comm b, cf_prd_comm c]
theorem cf_prd_one : ∀ (a : PL) (x : Int), cf (prd a [(0, 1)]) x = cf a x
  | [], x => rfl
  | q :: a, x => by
    rw [cf_prd, cf_prd_one a x]
    show q.2 * ((if (0 : Int) = x - q.1 then 1 else 0) + 0) + cf a x = (if q.1 = x then q.2 else 0) + cf a x
    by_cases h : q.1 = x
    · rw [if_pos h, if_pos (by omega)]; omega
    · rw [if_neg h, if_neg (by omega)]; omega
theorem cf_prd_mov (n : Int) (a b : PL) (x : Int) : cf (prd (mov n a) b) x = cf (prd a b) (x - n) := by
  induction a with
  | nil => rfl
  | cons q a ih =>
    have ih' : cf (prd (mov n a) b) x = cf (prd a b) (x - n) := ih
    show cf (prd ((q.1 + n, q.2) :: mov n a) b) x = _
    rw [cf_prd, cf_prd, ih']
    show q.2 * cf b (x - (q.1 + n)) + _ = _
    have : x - (q.1 + n) = x - n - q.1 := by omega
    rw [this]
theorem cf_prd_scl (f : Int) (a b : PL) (x : Int) : cf (prd (scl f a) b) x = cf (prd a b) x * f := by
  induction a with
  | nil => show (0 : Int) = 0 * f; rw [Int.zero_mul]
  | cons q a ih =>
    have ih' : cf (prd (scl f a) b) x = cf (prd a b) x * f := ih
    show cf (prd ((q.1, q.2 * f) :: scl f a) b) x = _
    rw [cf_prd, cf_prd, ih', Int.add_mul]
    show q.2 * f * cf b (x - q.1) + _ = _
    rw [Int.mul_assoc, Int.mul_comm f, ← Int.mul_assoc]
/-- x - y as the program makes it -/
def subT (p : Int) (a b : PL) : PL := normT p (a ++ normT p (scl (-1) b))
theorem cf_sub (p : Int) (a b : PL) (x : Int) : cf (subT p a b) x = (cf a x - cf b x) % p := by
  unfold subT
  rw [cf_normT, cf_app, cf_normT, em_addr, cf_scl]
  congr 1
  omega
theorem sub_CE (p : Int) (a b : PL) : CE p (subT p a b) (a ++ scl (-1) b) := fun x => by
  rw [cf_sub, emm, cf_app, cf_scl]
  congr 1
  omega
theorem sub_add {p : Int} (hp : 0 < p) {a : PL} (ha : Nrm p a) (b : PL) : subT p (normT p (a ++ b)) b = a := by
  refine CE.id hp ha fun x => ?_
  rw [cf_app, cf_normT, cf_normT, em_add, cf_app, cf_scl]
  congr 1
  omega
theorem sub_self {p : Int} (hp : 0 < p) (a : PL) : subT p a a = [] := by
  refine CE.id hp (en_id p) fun x => ?_
  rw [cf_app, cf_normT, em_addr, cf_scl]
  show _ = (0 : Int) % p
  congr 1
  omega
theorem nrm_one {p : Int} (hp : 2 ≤ p) : Nrm p [(0, 1)] := ⟨by simp [Asc], fun q hq => by simp only [List.mem_singleton] at hq; subst hq; show (0 : Int) < 1 ∧ 1 < p; omega⟩
/-- a product is zero only if a factor is -/
theorem cf_low {b : PL} {y : Int} (h : ∀ r ∈ b, y < r.1) : cf b y = 0 := cf_not fun z => by
  obtain ⟨r, hr, e⟩ := List.mem_map.mp z
  have := h r hr
  have e' : r.1 = y := e
  omega
theorem cf_prd_low : ∀ {a : PL} {b : PL} {m l : Int}, (∀ q ∈ a, m < q.1) → (∀ r ∈ b, l ≤ r.1) → cf (prd a b) (m + l) = 0
  | [], b, m, l, _, _ => rfl
  | q :: a, b, m, l, h1, h2 => by
    rw [cf_prd, cf_prd_low (fun r hr => h1 r (by simp [hr])) h2, cf_low (fun r hr => by have := h1 q (by simp); have := h2 r hr; omega)]
    omega
theorem prd_ne {p : Int} (hp : 0 < p) (hpr : ∀ k c : Int, 0 < k → k < p → 0 < c → c < p → (k * c) % p ≠ 0) {a b : PL} (ha : Nrm p a) (hb : Nrm p b) (h1 : a ≠ []) (h2 : b ≠ []) : normT p (prd a b) ≠ [] := by
  obtain ⟨q, a', rfl⟩ : ∃ q r, a = q :: r := by
    cases a with
    | nil => exact absurd rfl h1
    | cons q r => exact ⟨q, r, rfl⟩
  obtain ⟨r, b', rfl⟩ : ∃ q r, b = q :: r := by
    cases b with
    | nil => exact absurd rfl h2
    | cons q r => exact ⟨q, r, rfl⟩
  intro h
  have hc := cf_normT p (prd (q :: a') (r :: b')) (q.1 + r.1)
  rw [h, cf_nil] at hc
  have sa := ha.1
  have sb := hb.1
  unfold Asc at sa sb
  rw [List.map_cons, List.pairwise_cons] at sa sb
  rw [cf_prd, cf_prd_low (fun z hz => sa.1 z.1 (List.mem_map.mpr ⟨z, hz, rfl⟩)) (fun z hz => by
    rcases List.mem_cons.mp hz with rfl | hz
    · exact Int.le_refl _
    · have := sb.1 z.1 (List.mem_map.mpr ⟨z, hz, rfl⟩); omega)] at hc
  have e : q.1 + r.1 - q.1 = r.1 := by omega
  rw [e, cf_of_mem hb.1 (by simp), Int.add_zero] at hc
  have x1 := ha.2 q (by simp)
  have x2 := hb.2 r (by simp)
  exact hpr q.2 r.2 x1.1 x1.2 x2.1 x2.2 hc.symm
theorem prd_zero {p : Int} (hp : 0 < p) (hpr : ∀ k c : Int, 0 < k → k < p → 0 < c → c < p → (k * c) % p ≠ 0) {a b : PL} (ha : Nrm p a) (hb : Nrm p b) : normT p (prd a b) = [] ↔ a = [] ∨ b = [] := by
  constructor
  · intro h
    by_cases h1 : a = []
    · exact .inl h1
    · by_cases h2 : b = []
      · exact .inr h2
      · exact absurd h (prd_ne hp hpr ha hb h1 h2)
  · rintro (rfl | rfl)
    · exact CE.id hp (en_id p) fun x => rfl
    · exact CE.id hp (en_id p) fun x => by rw [prd_nil]; rfl
/-- (1 - t ** s) times the geometric sum -/
theorem geo_end (s : Int) : ∀ (c : Nat) (x : Int), cf (prd (rnd c s) [(0, 1), (s, -1)]) x = cf [(0, 1), ((c : Int) * s, -1)] x
  | 0, x => by
    show (0 : Int) = (if (0 : Int) = x then 1 else 0) + ((if ((0 : Nat) : Int) * s = x then -1 else 0) + 0)
    rw [Int.natCast_zero, Int.zero_mul]
    split <;> omega
  | c + 1, x => by
    rw [rnd_succ, cf_prd_app, geo_end s c x, cf_prd]
    show (if (0 : Int) = x then 1 else 0) + ((if (c : Int) * s = x then -1 else 0) + 0) + (1 * ((if (0 : Int) = x - (c : Int) * s then 1 else 0) + ((if s = x - (c : Int) * s then -1 else 0) + 0)) + 0) = (if (0 : Int) = x then 1 else 0) + ((if ((c + 1 : Nat) : Int) * s = x then -1 else 0) + 0)
    have e : ((c + 1 : Nat) : Int) * s = (c : Int) * s + s := by rw [Int.natCast_succ, Int.add_mul, Int.one_mul]
    rw [e]
    generalize (c : Int) * s = z
    by_cases h1 : z = x
    · rw [if_pos h1, if_pos (show (0 : Int) = x - z by omega)]
      by_cases h2 : s = x - z
      · rw [if_pos h2, if_pos (show z + s = x by omega)]; omega
      · rw [if_neg h2, if_neg (show ¬ z + s = x by omega)]; omega
    · rw [if_neg h1, if_neg (show ¬ (0 : Int) = x - z by omega)]
      by_cases h2 : s = x - z
      · rw [if_pos h2, if_pos (show z + s = x by omega)]; omega
      · rw [if_neg h2, if_neg (show ¬ z + s = x by omega)]; omega
theorem geo_gap (p : Int) (s : Int) (c : Nat) : normT p (prd (subT p [(0, 1)] [(s, 1)]) (normT p (rnd c s))) = subT p [(0, 1)] [((c : Int) * s, 1)] := by
  have h1 : CE p (subT p [(0, 1)] [(s, 1)]) [(0, 1), (s, -1)] := sub_CE p _ _
  have h2 : CE p (subT p [(0, 1)] [((c : Int) * s, 1)]) [(0, 1), ((c : Int) * s, -1)] := sub_CE p _ _
  have h3 : subT p [(0, 1)] [((c : Int) * s, 1)] = normT p (subT p [(0, 1)] [((c : Int) * s, 1)]) := by unfold subT; rw [normT_norm]
  rw [h3]
  refine CE.eq ((h1.prd (CE.nrm p (rnd c s))).trans (CE.trans (CE.of fun x => ?_) h2.symm))
  rw [cf_prd_comm, geo_end]
/-! ### two polynomials compared -/
theorem ne_prs (a b : PL) : fNe (.fz (.tuple (prs a))) (.fz (.tuple (prs b))) = some (.fz (.bool (!decide (a = b)))) := by
  refine Eq.trans (neT (a := PySem.W.Tup.mk a) (b := PySem.W.Tup.mk b) (flatT (PySem.W.Tup.mk a)) (flatT (PySem.W.Tup.mk b)) rfl (by decide)) ?_
  congr 4
  exact decide_eq_decide.mpr ⟨fun e => congrArg PySem.W.Tup.items e, fun e => by rw [e]⟩
theorem eq_prs (a b : PL) : fEq (.fz (.tuple (prs a))) (.fz (.tuple (prs b))) = some (.fz (.bool (decide (a = b)))) := by
  refine Eq.trans (eqT (a := PySem.W.Tup.mk a) (b := PySem.W.Tup.mk b) (flatT (PySem.W.Tup.mk a)) (flatT (PySem.W.Tup.mk b)) rfl (by decide)) ?_
  congr 3
  exact decide_eq_decide.mpr ⟨fun e => congrArg PySem.W.Tup.items e, fun e => by rw [e]⟩
@[simp] theorem e_neB (a b : Bool) : fNe (.fz (.bool a)) (.fz (.bool b)) = some (.fz (.bool (!decide (a = b)))) := neT (a := a) (b := b) (flatT a) (flatT b) rfl (by decide)
@[simp] theorem e_eqB (a b : Bool) : fEq (.fz (.bool a)) (.fz (.bool b)) = some (.fz (.bool (decide (a = b)))) := eqT (a := a) (b := b) (flatT a) (flatT b) rfl (by decide)
end G
namespace G
open PySem PySem.Spec PyProof.Rows L2

/-! ### isinstance -/
theorem kit_NoneType_int : kitB "NoneType" "int" = some false := by decide +kernel
theorem kit_NoneType_bool : kitB "NoneType" "bool" = some false := by decide +kernel
theorem kit_NoneType_str : kitB "NoneType" "str" = some false := by decide +kernel
theorem kit_NoneType_list : kitB "NoneType" "list" = some false := by decide +kernel
theorem kit_NoneType_tuple : kitB "NoneType" "tuple" = some false := by decide +kernel
theorem kit_NoneType_dict : kitB "NoneType" "dict" = some false := by decide +kernel
theorem kit_bool_int : kitB "bool" "int" = some true := by decide +kernel
theorem kit_bool_bool : kitB "bool" "bool" = some true := by decide +kernel
theorem kit_bool_str : kitB "bool" "str" = some false := by decide +kernel
theorem kit_bool_list : kitB "bool" "list" = some false := by decide +kernel
theorem kit_bool_tuple : kitB "bool" "tuple" = some false := by decide +kernel
theorem kit_bool_dict : kitB "bool" "dict" = some false := by decide +kernel
theorem kit_int_int : kitB "int" "int" = some true := by decide +kernel
theorem kit_int_bool : kitB "int" "bool" = some false := by decide +kernel
theorem kit_int_str : kitB "int" "str" = some false := by decide +kernel
theorem kit_int_list : kitB "int" "list" = some false := by decide +kernel
theorem kit_int_tuple : kitB "int" "tuple" = some false := by decide +kernel
theorem kit_int_dict : kitB "int" "dict" = some false := by decide +kernel
theorem kit_str_int : kitB "str" "int" = some false := by decide +kernel
theorem kit_str_bool : kitB "str" "bool" = some false := by decide +kernel
theorem kit_str_str : kitB "str" "str" = some true := by decide +kernel
theorem kit_str_list : kitB "str" "list" = some false := by decide +kernel
theorem kit_str_tuple : kitB "str" "tuple" = some false := by decide +kernel
theorem kit_str_dict : kitB "str" "dict" = some false := by decide +kernel
theorem kit_list_int : kitB "list" "int" = some false := by decide +kernel
theorem kit_list_bool : kitB "list" "bool" = some false := by decide +kernel
theorem kit_list_str : kitB "list" "str" = some false := by decide +kernel
theorem kit_list_list : kitB "list" "list" = some true := by decide +kernel
theorem kit_list_tuple : kitB "list" "tuple" = some false := by decide +kernel
theorem kit_list_dict : kitB "list" "dict" = some false := by decide +kernel
theorem kit_tuple_int : kitB "tuple" "int" = some false := by decide +kernel
theorem kit_tuple_bool : kitB "tuple" "bool" = some false := by decide +kernel
theorem kit_tuple_str : kitB "tuple" "str" = some false := by decide +kernel
theorem kit_tuple_list : kitB "tuple" "list" = some false := by decide +kernel
theorem kit_tuple_tuple : kitB "tuple" "tuple" = some true := by decide +kernel
theorem kit_tuple_dict : kitB "tuple" "dict" = some false := by decide +kernel
theorem kit_dict_int : kitB "dict" "int" = some false := by decide +kernel
theorem kit_dict_bool : kitB "dict" "bool" = some false := by decide +kernel
theorem kit_dict_str : kitB "dict" "str" = some false := by decide +kernel
theorem kit_dict_list : kitB "dict" "list" = some false := by decide +kernel
theorem kit_dict_tuple : kitB "dict" "tuple" = some false := by decide +kernel
theorem kit_dict_dict : kitB "dict" "dict" = some true := by decide +kernel
@[simp] theorem isi_none_int  : fIsi "int" (.fz .none) = some false := kit_NoneType_int
@[simp] theorem isi_none_bool  : fIsi "bool" (.fz .none) = some false := kit_NoneType_bool
@[simp] theorem isi_none_str  : fIsi "str" (.fz .none) = some false := kit_NoneType_str
@[simp] theorem isi_none_list  : fIsi "list" (.fz .none) = some false := kit_NoneType_list
@[simp] theorem isi_none_tuple  : fIsi "tuple" (.fz .none) = some false := kit_NoneType_tuple
@[simp] theorem isi_none_dict  : fIsi "dict" (.fz .none) = some false := kit_NoneType_dict
@[simp] theorem isi_bool_int (v : Bool) : fIsi "int" (.fz (.bool v)) = some true := kit_bool_int
@[simp] theorem isi_bool_bool (v : Bool) : fIsi "bool" (.fz (.bool v)) = some true := kit_bool_bool
@[simp] theorem isi_bool_str (v : Bool) : fIsi "str" (.fz (.bool v)) = some false := kit_bool_str
@[simp] theorem isi_bool_list (v : Bool) : fIsi "list" (.fz (.bool v)) = some false := kit_bool_list
@[simp] theorem isi_bool_tuple (v : Bool) : fIsi "tuple" (.fz (.bool v)) = some false := kit_bool_tuple
@[simp] theorem isi_bool_dict (v : Bool) : fIsi "dict" (.fz (.bool v)) = some false := kit_bool_dict
@[simp] theorem isi_int_int (v : Int) : fIsi "int" (.fz (.int v)) = some true := kit_int_int
@[simp] theorem isi_int_bool (v : Int) : fIsi "bool" (.fz (.int v)) = some false := kit_int_bool
@[simp] theorem isi_int_str (v : Int) : fIsi "str" (.fz (.int v)) = some false := kit_int_str
@[simp] theorem isi_int_list (v : Int) : fIsi "list" (.fz (.int v)) = some false := kit_int_list
@[simp] theorem isi_int_tuple (v : Int) : fIsi "tuple" (.fz (.int v)) = some false := kit_int_tuple
@[simp] theorem isi_int_dict (v : Int) : fIsi "dict" (.fz (.int v)) = some false := kit_int_dict
@[simp] theorem isi_str_int (v : Str) : fIsi "int" (.fz (.str v)) = some false := kit_str_int
@[simp] theorem isi_str_bool (v : Str) : fIsi "bool" (.fz (.str v)) = some false := kit_str_bool
@[simp] theorem isi_str_str (v : Str) : fIsi "str" (.fz (.str v)) = some true := kit_str_str
@[simp] theorem isi_str_list (v : Str) : fIsi "list" (.fz (.str v)) = some false := kit_str_list
@[simp] theorem isi_str_tuple (v : Str) : fIsi "tuple" (.fz (.str v)) = some false := kit_str_tuple
@[simp] theorem isi_str_dict (v : Str) : fIsi "dict" (.fz (.str v)) = some false := kit_str_dict
@[simp] theorem isi_list_int (v : List D) : fIsi "int" (.fz (.list v)) = some false := kit_list_int
@[simp] theorem isi_list_bool (v : List D) : fIsi "bool" (.fz (.list v)) = some false := kit_list_bool
@[simp] theorem isi_list_str (v : List D) : fIsi "str" (.fz (.list v)) = some false := kit_list_str
@[simp] theorem isi_list_list (v : List D) : fIsi "list" (.fz (.list v)) = some true := kit_list_list
@[simp] theorem isi_list_tuple (v : List D) : fIsi "tuple" (.fz (.list v)) = some false := kit_list_tuple
@[simp] theorem isi_list_dict (v : List D) : fIsi "dict" (.fz (.list v)) = some false := kit_list_dict
@[simp] theorem isi_tuple_int (v : List D) : fIsi "int" (.fz (.tuple v)) = some false := kit_tuple_int
@[simp] theorem isi_tuple_bool (v : List D) : fIsi "bool" (.fz (.tuple v)) = some false := kit_tuple_bool
@[simp] theorem isi_tuple_str (v : List D) : fIsi "str" (.fz (.tuple v)) = some false := kit_tuple_str
@[simp] theorem isi_tuple_list (v : List D) : fIsi "list" (.fz (.tuple v)) = some false := kit_tuple_list
@[simp] theorem isi_tuple_tuple (v : List D) : fIsi "tuple" (.fz (.tuple v)) = some true := kit_tuple_tuple
@[simp] theorem isi_tuple_dict (v : List D) : fIsi "dict" (.fz (.tuple v)) = some false := kit_tuple_dict
@[simp] theorem isi_dict_int (v : List (D × D)) : fIsi "int" (.fz (.dict v)) = some false := kit_dict_int
@[simp] theorem isi_dict_bool (v : List (D × D)) : fIsi "bool" (.fz (.dict v)) = some false := kit_dict_bool
@[simp] theorem isi_dict_str (v : List (D × D)) : fIsi "str" (.fz (.dict v)) = some false := kit_dict_str
@[simp] theorem isi_dict_list (v : List (D × D)) : fIsi "list" (.fz (.dict v)) = some false := kit_dict_list
@[simp] theorem isi_dict_tuple (v : List (D × D)) : fIsi "tuple" (.fz (.dict v)) = some false := kit_dict_tuple
@[simp] theorem isi_dict_dict (v : List (D × D)) : fIsi "dict" (.fz (.dict v)) = some true := kit_dict_dict
@[simp] theorem isi_oL_int (v : List D) : fIsi "int" (.oL v) = some false := kit_list_int
@[simp] theorem isi_oL_bool (v : List D) : fIsi "bool" (.oL v) = some false := kit_list_bool
@[simp] theorem isi_oL_str (v : List D) : fIsi "str" (.oL v) = some false := kit_list_str
@[simp] theorem isi_oL_list (v : List D) : fIsi "list" (.oL v) = some true := kit_list_list
@[simp] theorem isi_oL_tuple (v : List D) : fIsi "tuple" (.oL v) = some false := kit_list_tuple
@[simp] theorem isi_oL_dict (v : List D) : fIsi "dict" (.oL v) = some false := kit_list_dict
@[simp] theorem isi_oD_int (v : List (Key × D)) : fIsi "int" (.oD v) = some false := kit_dict_int
@[simp] theorem isi_oD_bool (v : List (Key × D)) : fIsi "bool" (.oD v) = some false := kit_dict_bool
@[simp] theorem isi_oD_str (v : List (Key × D)) : fIsi "str" (.oD v) = some false := kit_dict_str
@[simp] theorem isi_oD_list (v : List (Key × D)) : fIsi "list" (.oD v) = some false := kit_dict_list
@[simp] theorem isi_oD_tuple (v : List (Key × D)) : fIsi "tuple" (.oD v) = some false := kit_dict_tuple
@[simp] theorem isi_oD_dict (v : List (Key × D)) : fIsi "dict" (.oD v) = some true := kit_dict_dict
/-! ### all, any of a list of truth values -/
theorem allB_map {α : Type} (f : α → Bool) : ∀ xs : List α, allB (xs.map fun x => PyData.bool (f x)) = some (xs.map f)
  | [] => rfl
  | x :: xs => by rw [List.map_cons, allB, allB_map f xs]; rfl
theorem all_map {α : Type} (f : α → Bool) (xs : List α) : fAll (.oL (xs.map fun x => PyData.bool (f x))) = some (.fz (.bool (xs.all f))) := by
  show (allB _).map _ = _
  rw [allB_map]
  show some (OV.fz (.bool ((xs.map f).all id))) = _
  rw [List.all_map]; rfl
theorem any_map {α : Type} (f : α → Bool) (xs : List α) : fAny (.oL (xs.map fun x => PyData.bool (f x))) = some (.fz (.bool (xs.any f))) := by
  show (allB _).map _ = _
  rw [allB_map]
  show some (OV.fz (.bool ((xs.map f).any id))) = _
  rw [List.any_map]; rfl
theorem cut_from (ds : List D) (k : Nat) : G.cutD ds (some (k : Int)) none = ds.drop k := by
  unfold G.cutD
  rw [HT.sIx_nat, HT.sIx_none]
  by_cases h : k ≤ ds.length
  · rw [Nat.min_eq_left h, List.take_of_length_le (by rw [List.length_drop]; exact Nat.le_refl _)]
  · rw [Nat.min_eq_right (by omega), Nat.sub_self, List.take_zero]
    exact (List.drop_eq_nil_of_le (by omega)).symm
theorem cut_1 (ds : List D) : G.cutD ds (some 1) none = ds.drop 1 := cut_from ds 1
theorem cut_to (ds : List D) (k : Nat) : G.cutD ds none (some (k : Int)) = ds.take k := by
  unfold G.cutD
  rw [HT.sIx_nat, HT.sIx_none, List.drop_zero, Nat.sub_zero]
  by_cases h : k ≤ ds.length
  · rw [Nat.min_eq_left h]
  · rw [Nat.min_eq_right (by omega), List.take_of_length_le (Nat.le_refl _), List.take_of_length_le (by omega)]
theorem zip_map (xs ys : List D) : zipD xs ys = (xs.zip ys).map fun q => PyData.tuple [q.1, q.2] := by
  unfold zipD
  rw [List.zip_eq_zipWith, List.map_zipWith]
@[simp] theorem e_truB (b : Bool) : truO (.fz (.bool b)) = some b := rfl
@[simp] theorem e_truI (i : Int) : truO (.fz (.int i)) = some (i != 0) := rfl
@[simp] theorem e_truL (ds : List D) : truO (.oL ds) = some (!ds.isEmpty) := rfl
@[simp] theorem e_truF (ds : List D) : truO (.fz (.list ds)) = some (!ds.isEmpty) := rfl
@[simp] theorem e_truT (ds : List D) : truO (.fz (.tuple ds)) = some (!ds.isEmpty) := rfl
@[simp] theorem e_truN : truO (.fz .none) = some false := rfl
end G
namespace G
open PySem PySem.Spec PyProof.Rows L2

/-- a comprehension whose element changes what stands around it -/
theorem cmp_inv {vs : List Nat} {g : MG} {m : MD} (J : Nat → List D → Env → Prop) : ∀ (ds : List D) (i : Nat) (acc : List D) (e : Env), J i acc e → acc.length + ds.length ≤ lim →
    (∀ (j : Nat) (d : D) (acc : List D) (e : Env), ds[j]? = some d → J (i + j) acc e → ∃ e1 y e3, g d e = some e1 ∧ m e1 = some (y, e3) ∧ J (i + j + 1) (acc ++ [y]) (clr vs e3)) →
    ∃ acc' e', mCmpL vs g mYes m ds acc e = some (acc', e') ∧ J (i + ds.length) acc' e'
  | [], i, acc, e, h, _, _ => ⟨acc, e, rfl, h⟩
  | d :: ds, i, acc, e, h, hl, hs => by
    obtain ⟨e1, y, e3, h1, h2, h3⟩ := hs 0 d acc e rfl h
    rw [List.length_cons] at hl
    obtain ⟨acc', e', h4, h5⟩ := cmp_inv J ds (i + 1) (acc ++ [y]) (clr vs e3) h3 (by rw [List.length_append, List.length_singleton]; omega) fun j d' a e hj he => by
      have := hs (j + 1) d' a e (by simpa using hj) (by rwa [show i + (j + 1) = i + 1 + j by omega])
      rwa [show i + (j + 1) + 1 = i + 1 + j + 1 by omega] at this
    refine ⟨acc', e', ?_, by rwa [List.length_cons, show i + (ds.length + 1) = i + 1 + ds.length by omega]⟩
    rw [e_cmpL, h1, bnd_some]
    show bnd (some (true, e1)) _ = _
    rw [bnd_some, if_pos rfl, h2, bnd_some, if_pos (by omega)]
    exact h4
end G
namespace G
open PySem PySem.Spec PyProof.Rows L2
@[simp] theorem e_addFL (xs ys : List D) : fAdd (.fz (.list xs)) (.oL ys) = if xs.length + ys.length ≤ 16000000 then some (.oL (xs ++ ys)) else none := rfl
@[simp] theorem e_addLF (xs ys : List D) : fAdd (.oL xs) (.fz (.list ys)) = if xs.length + ys.length ≤ 16000000 then some (.oL (xs ++ ys)) else none := rfl
@[simp] theorem e_addFF (xs ys : List D) : fAdd (.fz (.list xs)) (.fz (.list ys)) = if xs.length + ys.length ≤ 16000000 then some (.oL (xs ++ ys)) else none := rfl
theorem atI_k {α : Type} {xs : List α} {j : Nat} {x : α} (h : xs[j]? = some x) : atI xs (j : Int) = some x := atI_nat h
@[simp] theorem atI_3 {α : Type} (a b c x : α) (xs : List α) : atI (a :: b :: c :: x :: xs) 3 = some x := atI_nat (j := 3) rfl
@[simp] theorem atI_4 {α : Type} (a b c d x : α) (xs : List α) : atI (a :: b :: c :: d :: x :: xs) 4 = some x := atI_nat (j := 4) rfl
@[simp] theorem atI_5 {α : Type} (a b c d e x : α) (xs : List α) : atI (a :: b :: c :: d :: e :: x :: xs) 5 = some x := atI_nat (j := 5) rfl
@[simp] theorem atI_6 {α : Type} (a b c d e f x : α) (xs : List α) : atI (a :: b :: c :: d :: e :: f :: x :: xs) 6 = some x := atI_nat (j := 6) rfl
@[simp] theorem atI_7 {α : Type} (a b c d e f g x : α) (xs : List α) : atI (a :: b :: c :: d :: e :: f :: g :: x :: xs) 7 = some x := atI_nat (j := 7) rfl
@[simp] theorem atI_8 {α : Type} (a b c d e f g h x : α) (xs : List α) : atI (a :: b :: c :: d :: e :: f :: g :: h :: x :: xs) 8 = some x := atI_nat (j := 8) rfl
theorem loop_cons {g : MG} {mb : MS} {d : D} {ds : List D} {env e1 e2 : G.Env} (h1 : g d env = some e1) (h2 : mb e1 = some (.nx e2)) : mLoop g mb (d :: ds) env = mLoop g mb ds e2 := by
  rw [e_loop, h1, bnd_some, h2, bnd_some]
theorem cmp_cons {vs : List Nat} {g : MG} {m : MD} {d y : D} {ds acc : List D} {env e1 e3 : G.Env} (h1 : g d env = some e1) (h2 : m e1 = some (y, e3)) (hl : acc.length ≤ lim) : mCmpL vs g mYes m (d :: ds) acc env = mCmpL vs g mYes m ds (acc ++ [y]) (clr vs e3) := by
  rw [e_cmpL, h1, bnd_some]
  show bnd (some (true, e1)) _ = _
  rw [bnd_some, if_pos rfl, h2, bnd_some, if_pos hl]
end G
namespace G
open PySem PySem.Spec PyProof.Rows L2
@[simp] theorem e_stp {env : G.Env} (m : MV) (mk : G.Env → Option (Option Int × G.Env)) : mStp m mk env = bnd (m env) fun p => bnd (mk p.2) fun q => bnd (resolve1 q.2 p.1) fun o => bnd (fStp o q.1) fun z => some (z, q.2) := by
  unfold mStp bnd
  cases m env with
  | none => rfl
  | some p =>
    obtain ⟨a, e1⟩ := p
    simp only [Option.bind_some]
    cases mk e1 with
    | none => rfl
    | some q =>
      obtain ⟨i, e2⟩ := q
      simp only [Option.bind_some]
      cases resolve1 e2 a with
      | none => rfl
      | some o => simp only [Option.bind_some]; cases fStp o i <;> rfl
@[simp] theorem e_fstp (ds : List D) (k : Int) : fStp (.fz (.tuple ds)) (some k) = if k ≠ 0 ∧ k ≠ 1 ∧ (stp ds k).length ≤ 16000000 then some (.fz (.tuple (stp ds k))) else none := rfl
theorem range_get {α : Type} : ∀ ys : List α, ((List.range ys.length).filterMap fun m => ys[m]?) = ys
  | [] => rfl
  | y :: ys => by
    rw [List.length_cons, List.range_succ_eq_map, List.filterMap_cons]
    simp only [List.getElem?_cons_zero, List.filterMap_map]
    have h := range_get ys
    have e : ((fun m => (y :: ys)[m]?) ∘ Nat.succ) = fun m => ys[m]? := funext fun m => by simp
    rw [e, h]
theorem fmap_congr {α β : Type} {f g : α → Option β} : ∀ {l : List α}, (∀ x ∈ l, f x = g x) → l.filterMap f = l.filterMap g
  | [], _ => rfl
  | x :: l, h => by rw [List.filterMap_cons, List.filterMap_cons, h x (by simp), fmap_congr fun y hy => h y (by simp [hy])]
theorem stp_neg {α : Type} (xs : List α) : stp xs (-1) = xs.reverse := by
  unfold stp pickS
  have h1 : Builtin.Slice.sliceAdjust none none (-1) (xs.length : Int) = ((xs.length : Int) - 1, -1) := rfl
  have h2 : Builtin.Slice.slicePlaces ((xs.length : Int) - 1) (-1) (-1) = xs.length := by
    unfold Builtin.Slice.slicePlaces
    rw [if_neg (by decide)]
    simp only [Int.neg_neg, Int.ediv_one]
    split <;> omega
  rw [h1]
  show ((List.range (Builtin.Slice.slicePlaces ((xs.length : Int) - 1) (-1) (-1))).filterMap fun (m : Nat) => xs[(((xs.length : Int) - 1) + (m : Int) * -1).toNat]?) = _
  rw [h2, ← range_get xs.reverse, List.length_reverse]
  refine fmap_congr fun m hm => ?_
  have hm' := List.mem_range.mp hm
  rw [List.getElem?_reverse hm']
  congr 1
  omega
theorem reprQ_of {o : OV} {d : D} {r : OV} (h : o.flat? = some d) (e : fRepr o = some r) : fReprQ o = some r := by
  unfold fReprQ
  rw [h]; exact e
/-! plain data without dicts, not large: what repr shows -/
def NA (n w : Nat) (ds : List D) : Prop := PyData.hasDictAll ds = false ∧ PyData.showableAll ds = true ∧ PyData.depthAll ds ≤ n ∧ szAll ds ≤ w
def N1 (n w : Nat) (d : D) : Prop := d.hasDict = false ∧ d.showable = true ∧ d.depth ≤ n ∧ szD d + 2 ≤ w
theorem NA.nil {n w : Nat} : NA n w [] := ⟨rfl, rfl, Nat.zero_le _, Nat.zero_le _⟩
theorem NA.cons {n w w' : Nat} {d : D} {ds : List D} (h : N1 n w d) (t : NA n w' ds) : NA n (w + w') (d :: ds) := by
  obtain ⟨h1, h2, h3, h4⟩ := h
  obtain ⟨g1, g2, g3, g4⟩ := t
  refine ⟨by rw [PyData.hasDictAll, h1, g1]; rfl, by rw [PyData.showableAll, h2, g2]; rfl, by rw [PyData.depthAll]; exact Nat.max_le.mpr ⟨h3, g3⟩, ?_⟩
  rw [szAll]; omega
theorem NA.inv {n w : Nat} {d : D} {ds : List D} (h : NA n w (d :: ds)) : ∃ u v, N1 n u d ∧ NA n v ds ∧ u + v ≤ w := by
  obtain ⟨h1, h2, h3, h4⟩ := h
  simp only [PyData.hasDictAll, PyData.showableAll, PyData.depthAll, szAll, Bool.or_eq_false_iff, Bool.and_eq_true] at h1 h2 h3 h4
  exact ⟨szD d + 2, szAll ds, ⟨h1.1, h2.1, (Nat.max_le.mp h3).1, Nat.le_refl _⟩, ⟨h1.2, h2.2, (Nat.max_le.mp h3).2, Nat.le_refl _⟩, h4⟩
theorem NA.le {n m w v : Nat} {ds : List D} (h : NA n w ds) (a : n ≤ m) (b : w ≤ v) : NA m v ds := ⟨h.1, h.2.1, Nat.le_trans h.2.2.1 a, Nat.le_trans h.2.2.2 b⟩
theorem N1.le {n m w v : Nat} {d : D} (h : N1 n w d) (a : n ≤ m) (b : w ≤ v) : N1 m v d := ⟨h.1, h.2.1, Nat.le_trans h.2.2.1 a, Nat.le_trans h.2.2.2 b⟩
theorem NA.app {n : Nat} {bs : List D} {v : Nat} (g : NA n v bs) : ∀ {ds : List D} {w : Nat}, NA n w ds → NA n (w + v) (ds ++ bs)
  | [], _, _ => g.le (Nat.le_refl _) (by omega)
  | d :: ds, w, h => by
    obtain ⟨u, v', h1, h2, h3⟩ := h.inv
    exact (NA.cons h1 (g.app h2)).le (Nat.le_refl _) (by omega)
theorem NA.sub {n : Nat} : ∀ {ds ds' : List D}, ds'.Sublist ds → ∀ {w : Nat}, NA n w ds → NA n w ds'
  | _, _, .slnil, _, h => h
  | _, _, .cons a t, _, h => by
    obtain ⟨u, v', h1, h2, h3⟩ := h.inv
    exact (NA.sub t h2).le (Nat.le_refl _) (by omega)
  | _, _, .cons₂ a t, _, h => by
    obtain ⟨u, v', h1, h2, h3⟩ := h.inv
    exact (NA.cons h1 (NA.sub t h2)).le (Nat.le_refl _) (by omega)
theorem NA.rev {n : Nat} : ∀ {ds : List D} {w : Nat}, NA n w ds → NA n w ds.reverse
  | [], _, h => h
  | d :: ds, w, h => by
    obtain ⟨u, v', h1, h2, h3⟩ := h.inv
    rw [List.reverse_cons]
    exact (NA.app (NA.cons h1 (NA.nil (w := 0))) h2.rev).le (Nat.le_refl _) (by omega)
theorem N1.tup {n w : Nat} {ds : List D} (h : NA n w ds) : N1 (n + 1) (w + 5) (.tuple ds) := ⟨by rw [PyData.hasDict]; exact h.1, by rw [PyData.showable]; exact h.2.1, by rw [PyData.depth]; have := h.2.2.1; omega, by rw [szD]; have := h.2.2.2; omega⟩
theorem N1.lst {n w : Nat} {ds : List D} (h : NA n w ds) : N1 (n + 1) (w + 5) (.list ds) := ⟨by rw [PyData.hasDict]; exact h.1, by rw [PyData.showable]; exact h.2.1, by rw [PyData.depth]; have := h.2.2.1; omega, by rw [szD]; have := h.2.2.2; omega⟩
theorem N1.int {i : Int} (h : bits i ≤ 1000) : N1 0 1004 (.int i) := ⟨rfl, decide_eq_true (Nat.lt_of_le_of_lt h (by decide)), Nat.le_refl _, by rw [szD]; omega⟩
theorem N1.flat {n w : Nat} {d : D} (h : N1 n w d) : (OV.fz d).flat? = some d := by simp [OV.flat?, h.1]
theorem N1.repr {n w : Nat} {d : D} (h : N1 n w d) (hn : n ≤ 60) (hw : w ≤ 16000000) : fRepr (.fz d) = some (.fz (.str d.shown)) := reprT h.flat h.2.1 (Nat.le_trans h.2.2.1 hn) (by have := h.2.2.2; omega)
theorem N1.reprQ {n w : Nat} {d : D} (h : N1 n w d) (hn : n ≤ 60) (hw : w ≤ 16000000) : fReprQ (.fz d) = some (.fz (.str d.shown)) := reprQ_of h.flat (h.repr hn hw)
theorem na_prs {k : Nat} (hk : k ≤ 1000) : ∀ {ps : List (Int × Int)}, (∀ p ∈ ps, bits p.1 ≤ k ∧ bits p.2 ≤ k) → NA 1 (ps.length * 2013) (prs ps)
  | [], _ => NA.nil
  | q :: ps, h => by
    have h1 := h q (by simp)
    have h2 : N1 1 2013 (pr q) := N1.tup (NA.cons (N1.int (by omega)) (NA.cons (N1.int (by omega)) (NA.nil (w := 0))))
    refine (NA.cons h2 (na_prs hk fun p hp => h p (by simp [hp]))).le (Nat.le_refl _) ?_
    rw [List.length_cons, Nat.add_mul]; omega
end G
namespace G
open PySem PySem.Spec PyProof.Rows L2
@[simp] theorem e_srr {env : G.Env} (m : MA) : mSRR m env = bnd (m env) fun p => bnd (resolve p.2 p.1) fun os => match os with
    | [.fz (.int i), .fz (.int j)] => if rgOkB i j = true then some (.oL ((rgI i j).reverse.map PyData.int), p.2) else none
    | _ => none := by
  unfold mSRR bnd
  cases m env with
  | none => rfl
  | some p =>
    obtain ⟨as, e⟩ := p
    simp only [Option.bind_some]
    cases resolve e as with
    | none => rfl
    | some os => rcases os with _ | ⟨⟨d⟩ | _ | _ | _ | _, _ | ⟨⟨d2⟩ | _ | _ | _ | _, _ | _⟩⟩ <;> (try rfl) <;> (try cases d <;> rfl) <;> (try cases d <;> cases d2 <;> rfl)
@[simp] theorem e_dictD (kvs : List (Key × D)) : fDict (.oD kvs) = some (.oD kvs) := rfl
theorem e_dictL (ds : List D) : fDict (.oL ds) = bnd (pairsD ds) fun kvs => some (.oD (mrgD [] kvs)) := by unfold bnd; show (pairsD ds).map _ = _; cases pairsD ds <;> rfl
theorem e_dictFL (ds : List D) : fDict (.fz (.list ds)) = bnd (pairsD ds) fun kvs => some (.oD (mrgD [] kvs)) := by unfold bnd; show (pairsD ds).map _ = _; cases pairsD ds <;> rfl
theorem e_dictT (ds : List D) (h : polyish ds = true) : fDict (.fz (.tuple ds)) = bnd (pairsD ds) fun kvs => some (.oD (mrgD [] kvs)) := by unfold bnd; show (if polyish ds = true then (pairsD ds).map _ else none) = _; rw [if_pos h]; cases pairsD ds <;> rfl
theorem polyish_prs (ps : List (Int × Int)) : polyish (prs ps) = true := by
  unfold polyish prs
  rw [List.all_map]
  exact List.all_eq_true.mpr fun q _ => rfl
theorem pairs_prs : ∀ ps : List (Int × Int), pairsD (prs ps) = some (ek ps)
  | [] => rfl
  | q :: ps => by
    have h := pairs_prs ps
    unfold prs at h ⊢
    rw [List.map_cons, pairsD]
    show (match some ((Sum.inl q.1 : Key), PyData.int q.2) with | none => none | some x => (pairsD (ps.map pr)).map (x :: ·)) = _
    simp only [h]
    rfl
/-- merged int pairs -/
def mrgI (ps : List (Int × Int)) : List (Int × Int) := ps.foldl (fun m q => putI m q.1 q.2) []
theorem mrg_ek : ∀ (ps m : List (Int × Int)), mrgD (ek m) (ek ps) = ek (ps.foldl (fun m q => putI m q.1 q.2) m)
  | [], m => rfl
  | q :: ps, m => by
    show mrgD (putD (ek m) (.inl q.1) (.int q.2)) (ek ps) = _
    rw [put_ek, mrg_ek ps]
    rfl
theorem dict_prsT (ps : List (Int × Int)) : fDict (.fz (.tuple (prs ps))) = some (.oD (ek (mrgI ps))) := by
  rw [e_dictT _ (polyish_prs ps), pairs_prs, bnd_some]
  exact congrArg (fun m => some (OV.oD m)) (mrg_ek ps [])
theorem dict_prsL (ps : List (Int × Int)) : fDict (.oL (prs ps)) = some (.oD (ek (mrgI ps))) := by
  rw [e_dictL, pairs_prs, bnd_some]
  exact congrArg (fun m => some (OV.oD m)) (mrg_ek ps [])
end G
namespace G
open PySem PySem.Spec PyProof.Rows L2

theorem neE_of {a b o : OV} (h : fNe a b = some o) : fNeE a b = some o := by unfold fNeE; rw [h]
theorem eqE_of {a b o : OV} (h : fEq a b = some o) : fEqE a b = some o := by unfold fEqE; rw [h]
@[simp] theorem e_neEI (i j : Int) : fNeE (.fz (.int i)) (.fz (.int j)) = some (.fz (.bool (!decide (i = j)))) := neE_of (by simp)
@[simp] theorem e_eqEI (i j : Int) : fEqE (.fz (.int i)) (.fz (.int j)) = some (.fz (.bool (decide (i = j)))) := eqE_of (by simp)
/-- in, of plain data -/
theorem in_of {neg : Bool} {a b : OV} {d : D} {ds : List D} (h1 : text? b = none) (h2 : b.dic? = none) (h3 : a.flat? = some d) (h4 : b.seqD? = some ds) (h5 : d.depth ≤ 60) : inO neg a b = some (.fz (.bool (xor neg (anyD ds d)))) := by
  unfold inO
  simp only [h1, h2, h3, h4]
  rw [if_pos h5]
theorem in_dic {neg : Bool} {a b : OV} {kvs : List (Key × D)} {k : Key} (h1 : text? b = none) (h2 : b.dic? = some kvs) (h3 : a.key? = some k) : inO neg a b = some (.fz (.bool (xor neg (lkD kvs k).isSome))) := by
  unfold inO
  simp only [h1, h2, h3]; rfl
end G
namespace G
open PySem PySem.Spec PyProof.Rows L2

theorem rep_one (d : D) : ∀ n : Nat, (List.replicate n [d]).flatten = List.replicate n d
  | 0 => rfl
  | n + 1 => by rw [List.replicate_succ, List.replicate_succ, List.flatten_cons, rep_one d n]; rfl
theorem rep_ok (d : D) {k : Int} (h1 : k ≤ 16000000) (h2 : -16000000 ≤ k) : fRep (.oL [d]) (.fz (.int k)) = some (.oL (List.replicate k.toNat d)) := by
  have hl : lim = 16000000 := rfl
  show (if k.natAbs ≤ lim ∧ [d].length * k.toNat ≤ lim then some (OV.oL (List.replicate k.toNat [d]).flatten) else none) = _
  rw [if_pos (by rw [List.length_singleton]; omega), rep_one]
@[simp] theorem e_dcomp (vs : List Nat) (mi : MI) (g : MG) (t : MT) (mk m : MD) : mDComp vs mi g t mk m env = bnd (mi env) fun p => bnd (mDcL vs g t mk m p.1 [] (clr vs p.2)) fun q => some (.oD q.1, q.2) := by
  unfold mDComp bnd
  cases mi env with
  | none => rfl
  | some p =>
    obtain ⟨ds, e1⟩ := p
    show (match mDcL vs g t mk m ds [] (clr vs e1) with
      | none => none
      | some (acc, e2) => some (OV.oD acc, e2)) = (mDcL vs g t mk m ds [] (clr vs e1)).bind fun q => some (OV.oD q.1, q.2)
    cases mDcL vs g t mk m ds [] (clr vs e1) with
    | none => rfl
    | some q => rfl
@[simp] theorem e_revLs (m : MV) : mRevL m env = bnd (m env) fun p => bnd (resolve1 p.2 p.1) fun o => bnd o.lst? fun ds => some (.oL ds.reverse, p.2) := by
  unfold mRevL bnd
  cases m env with
  | none => rfl
  | some p =>
    obtain ⟨a, e1⟩ := p
    show (match resolve1 e1 a with
      | none => none
      | some o => match o.lst? with
        | some ds => some (OV.oL ds.reverse, e1)
        | none => none) = (resolve1 e1 a).bind fun o => o.lst?.bind fun ds => some (OV.oL ds.reverse, e1)
    cases resolve1 e1 a with
    | none => rfl
    | some o =>
      show (match o.lst? with
        | some ds => some (OV.oL ds.reverse, e1)
        | none => none) = o.lst?.bind fun ds => some (OV.oL ds.reverse, e1)
      cases o.lst? <;> rfl
@[simp] theorem e_zipGm (ma mb : MD) : mZipG ma mb env = bnd (ma env) fun p => bnd (mb p.2) fun q => bnd (zipG p.1 q.1) fun ds => some (ds, q.2) := by
  unfold mZipG bnd
  cases ma env with
  | none => rfl
  | some p =>
    obtain ⟨x, e1⟩ := p
    simp only [Option.bind_some]
    cases mb e1 with
    | none => rfl
    | some q =>
      obtain ⟨y, e2⟩ := q
      simp only [Option.bind_some]
      cases zipG x y <;> rfl
@[simp] theorem e_zipGL (xs ys : List D) : zipG (.list xs) (.list ys) = some (zipD xs ys) := rfl
@[simp] theorem e_zipGT (xs ys : List D) : zipG (.tuple xs) (.tuple ys) = some (zipD xs ys) := rfl
@[simp] theorem e_isi2 (T U : String) (m : MV) : mIsi2 T U m env = bnd (m env) fun p => bnd (resolve1 p.2 p.1) fun o => bnd (fIsi2 T U o) fun b => some (b, p.2) := by
  unfold mIsi2 bnd
  cases m env with
  | none => rfl
  | some p =>
    obtain ⟨a, e⟩ := p
    simp only [Option.bind_some]
    cases resolve1 e a with
    | none => rfl
    | some o => simp only [Option.bind_some]; cases fIsi2 T U o <;> rfl
@[simp] theorem e_fisi2 (T U : String) (o : OV) : fIsi2 T U o = bnd (fIsi T o) fun a => bnd (fIsi U o) fun b => some (a || b) := by
  unfold fIsi2 bnd
  cases fIsi T o with
  | none => rfl
  | some a => simp only [Option.bind_some]; cases fIsi U o <;> rfl
@[simp] theorem e_strI (i : Int) : fStrI (.fz (.int i)) = if bits i < 1900 then some (.fz (.str (toString i))) else none := rfl
theorem count_ints (ns : List Int) (k : Int) : gCount (ns.map PyData.int) (.int k) = some (.int (ns.count k : Nat), ns.map PyData.int) := by
  have h : allI (ns.map PyData.int) = some ns := by
    induction ns with
    | nil => rfl
    | cons n ns ih => rw [List.map_cons, allI, ih]; rfl
  unfold gCount
  rw [h]
@[simp] theorem e_comp2 (vs vs1 : List Nat) (mi : MI) (g : MG) (t : MT) (mi1 : MI) (g1 : MG) (t1 : MT) (m : MD) : mComp2 vs vs1 mi g t mi1 g1 t1 m env = bnd (mi env) fun p => bnd (mCmp2L vs vs1 g t mi1 g1 t1 m p.1 [] (clr vs p.2)) fun q => some (.oL q.1, q.2) := by
  unfold mComp2 bnd
  cases mi env with
  | none => rfl
  | some p =>
    obtain ⟨ds, e1⟩ := p
    show (match mCmp2L vs vs1 g t mi1 g1 t1 m ds [] (clr vs e1) with
      | none => none
      | some (acc, e2) => some (OV.oL acc, e2)) = (mCmp2L vs vs1 g t mi1 g1 t1 m ds [] (clr vs e1)).bind fun q => some (OV.oL q.1, q.2)
    cases mCmp2L vs vs1 g t mi1 g1 t1 m ds [] (clr vs e1) with
    | none => rfl
    | some q => rfl
/-- a dict comprehension over plain rows -/
theorem dc_map {α : Type} {vs : List Nat} {g : MG} {mk m : MD} {e : Env} (f : α → D) (k v : α → Int) : ∀ (xs : List α) (acc : PL), (∀ a ∈ xs, ∃ e1, g (f a) e = some e1 ∧ mk e1 = some (.int (k a), e1) ∧ m e1 = some (.int (v a), e1) ∧ clr vs e1 = e) → acc.length + xs.length ≤ 16000000 →
    mDcL vs g mYes mk m (xs.map f) (ek acc) e = some (ek (xs.foldl (fun m a => putI m (k a) (v a)) acc), e)
  | [], acc, _, _ => rfl
  | a :: xs, acc, h, hl => by
    obtain ⟨e1, h1, h2, h3, h4⟩ := h a List.mem_cons_self
    rw [List.length_cons] at hl
    have hk := putI_len acc (k a) (v a)
    have ih := dc_map f k v xs (putI acc (k a) (v a)) (fun b hb => h b (List.mem_cons_of_mem _ hb)) (by omega)
    rw [List.map_cons, List.foldl_cons, mDcL, h1]
    have hy : mYes e1 = some (true, e1) := rfl
    simp only [hy, h2]
    have hk2 : keyOf (.int (k a)) = some (.inl (k a)) := rfl
    simp only [hk2, h3]
    rw [if_pos (by rw [len_ek]; show _ ≤ 16000000; omega), h4, ← ih]
    congr 1
    exact put_ek acc (k a) (v a)
end G
namespace G
open PySem PySem.Spec PyProof.Rows L2

theorem sdf_ok {g j r : Nat} {m2 : MS} {env e2 : Env} {kvs : List (D × OV)} {d : D} {k : NestedKey} {es es' : List (Key × D)} (h1 : lk env j = some (.oK kvs)) (h2 : lk env r = some (.fz d)) (h3 : nkOf d = some k) (h4 : tupD d = true) (h5 : k.depth ≤ 8)
    (h6 : kvs.length ≤ 15000000) (h7 : g < env.length) (h8 : g ≠ j) (h9 : sdOld (lkK kvs k) = some es) (h10 : m2 ((env.set j none).set g (some (.oD es))) = some (.nx e2)) (h11 : lk e2 g = some (.oD es')) (h12 : j < e2.length) :
    mSdf g j r m2 env = some (.nx ((e2.set g none).set j (some (.oK (puK kvs d k (.oD es')))))) := by
  unfold mSdf
  simp only [h1, h2, h3]
  rw [if_pos ⟨h4, h5, h6, h7, h8⟩]
  simp only [h9, h10, h11]
  rw [if_pos h12]
@[simp] theorem e_frzK (m : ME) : mFrzK m env = bnd (m env) fun p => match p.1 with
    | .oK kvs => bnd (frzK kvs) fun ks => some (.fK ks, p.2)
    | _ => none := by
  unfold mFrzK bnd
  cases m env with
  | none => rfl
  | some p =>
    obtain ⟨o, e1⟩ := p
    cases o with
    | oK kvs => cases h : frzK kvs <;> simp [h]
    | _ => rfl
@[simp] theorem e_itN (i : Nat) : mItN i env = bnd (lk env i) fun o => match o with
    | .fK kvs => some (kvs.map (·.1), env)
    | _ => none := by
  unfold mItN bnd
  cases lk env i with
  | none => rfl
  | some o => cases o <;> rfl
@[simp] theorem e_frzS (j : Nat) (m : MS) : mFrzS j m env = bnd (lk env j) fun o => bnd o.frz fun d => m (env.set j (some (.fz d))) := by
  unfold mFrzS bnd
  cases lk env j with
  | none => rfl
  | some o => cases h : o.frz <;> simp [h]
@[simp] theorem e_frzE (j : Nat) (m : ME) : mFrzE j m env = bnd (lk env j) fun o => bnd o.frz fun d => m (env.set j (some (.fz d))) := by
  unfold mFrzE bnd
  cases lk env j with
  | none => rfl
  | some o => cases h : o.frz <;> simp [h]
@[simp] theorem e_compK (vs : List Nat) (j : Nat) (g : MG) (t : MT) (m : MD) : mCompK vs j g t m env = bnd (lk env j) fun o => match o with
    | .fz (.dict es) => bnd (mCmpL vs g t m (es.map (·.1)) [] (clr vs env)) fun q => some (.oL q.1, q.2)
    | _ => none := by
  unfold mCompK bnd
  cases lk env j with
  | none => rfl
  | some o =>
    cases o with
    | fz d =>
      cases d with
      | dict es => cases h : mCmpL vs g t m (es.map (·.1)) [] (clr vs env) <;> simp [h]
      | _ => rfl
    | _ => rfl
@[simp] theorem e_listN (kvs : List (D × OV)) : fListN (.fK kvs) = some (.oL (kvs.map (·.1))) := rfl
@[simp] theorem e_lr1 (g : List D → D → Option D) (j : Nat) (m : MD) : mLR1 g j m env = bnd (lk env j) fun o => bnd o.lst? fun _ => bnd (m env) fun p => bnd (lk p.2 j) fun o1 => bnd o1.lst? fun ds => bnd (g ds p.1) fun d' => some (.fz d', p.2) := by
  unfold mLR1 bnd
  cases lk env j with
  | none => rfl
  | some o =>
    simp only [Option.bind_some]
    cases o.lst? with
    | none => rfl
    | some ds0 =>
      simp only [Option.bind_some]
      cases m env with
      | none => rfl
      | some p =>
        simp only [Option.bind_some]
        cases lk p.2 j with
        | none => rfl
        | some o1 =>
          simp only [Option.bind_some]
          cases o1.lst? with
          | none => rfl
          | some ds => simp only [Option.bind_some]; cases g ds p.1 <;> rfl
theorem count_intsR (ns : List Int) (k : Int) : gCountR (ns.map PyData.int) (.int k) = some (.int (ns.count k : Nat)) := by
  unfold gCountR
  rw [allI_map]
end G
namespace G
open PySem PySem.Spec PyProof.Rows L2
/-! errors: the equations -/
@[simp] theorem e_try {env : G.Env} (i : Nat) (cl : Str) (mb : MS) (mx : MSX) (msu : MS) : mTry i cl mb mx msu env = match mb env with
    | some out => some out
    | none => bnd (mx env) fun p => if p.1 = cl ∧ i < p.2.2.length then bnd (msu (p.2.2.set i (some (.eX p.1 p.2.1)))) fun o => some (clrI i o) else none := by
  unfold mTry bnd
  cases mb env with
  | some out => rfl
  | none =>
    cases mx env with
    | none => rfl
    | some p =>
      obtain ⟨c, ds, e1⟩ := p
      show (if _ then _ else _) = (if _ then _ else _)
      split
      · cases msu (e1.set i (some (.eX c ds))) <;> rfl
      · rfl
@[simp] theorem e_clrn (i : Nat) (e : G.Env) : clrI i (.nx e) = .nx (e.set i none) := rfl
@[simp] theorem e_clrr (i : Nat) (o : OV) (e : G.Env) : clrI i (.rt o e) = .rt o (e.set i none) := rfl
@[simp] theorem e_seqX {env : G.Env} (m : MS) (r : MSX) : mSeqX m r env = bnd (m env) fun o => match o with
    | .nx e1 => r e1
    | _ => none := by
  unfold mSeqX bnd
  cases m env with
  | none => rfl
  | some o => cases o <;> rfl
@[simp] theorem e_ifX {env : G.Env} (mc : MT) (mx : MSX) : mIfX mc mx env = bnd (mc env) fun p => if p.1 = true then mx p.2 else none := by
  unfold mIfX bnd
  cases mc env with
  | none => rfl
  | some p => obtain ⟨b, e⟩ := p; cases b <;> rfl
@[simp] theorem e_raise0 {env : G.Env} (c : Str) : mRaise0 c env = some (c, [], env) := rfl
@[simp] theorem e_raise1 {env : G.Env} (c f : Str) (m : MA) : mRaise1 c f m env = bnd (m env) fun p => match p.1 with
    | [a] => bnd (resolve1 p.2 a) fun o => match o with
      | .fz d => some (c, [(f, d)], p.2)
      | _ => none
    | _ => none := by
  unfold mRaise1 bnd
  cases m env with
  | none => rfl
  | some p =>
    obtain ⟨as, e⟩ := p
    match as with
    | [] => rfl
    | [a] =>
      simp only [Option.bind_some]
      cases resolve1 e a with
      | none => rfl
      | some o => cases o <;> rfl
    | _ :: _ :: _ => rfl
@[simp] theorem e_callX {env : G.Env} (m : MX) (ma : MA) : mCallX m ma env = bnd (ma env) fun p => bnd (takeA p.2 p.1) fun q => bnd (m q.1) fun r => some (r.1, r.2.1, putB q.2.2 q.2.1 r.2.2) := by
  unfold mCallX bnd
  cases ma env with
  | none => rfl
  | some p =>
    obtain ⟨as, e1⟩ := p
    simp only [Option.bind_some]
    cases takeA e1 as with
    | none => rfl
    | some q =>
      obtain ⟨os, ts, e2⟩ := q
      simp only [Option.bind_some]
      cases m os with
      | none => rfl
      | some r => obtain ⟨c, ds, outs⟩ := r; rfl
@[simp] theorem e_runX (N n : Nat) (fl : List Bool) (m : MSX) (os : List OV) : runX N n fl m os = if os.length = n then bnd (m (os.map some ++ List.replicate (N - n) none)) fun p => some (p.1, p.2.1, outsOf fl p.2.2) else none := by
  unfold runX bnd
  split
  · cases m (os.map some ++ List.replicate (N - n) none) with
    | none => rfl
    | some p => obtain ⟨c, ds, e⟩ := p; rfl
  · rfl
@[simp] theorem e_nx {env : G.Env} (i : Nat) : mNx i env = bnd (lk env i) fun o => match o with
    | .eX c ds => some (.eX c ds, env)
    | _ => none := by
  unfold mNx bnd
  cases lk env i with
  | none => rfl
  | some o => cases o <;> rfl
@[simp] theorem e_isX {env : G.Env} (c : Str) (b : Bool) (m : MV) : mIsX c b m env = bnd (m env) fun p => bnd (resolve1 p.2 p.1) fun o => match o with
    | .eX c' _ => if c' = c then some (b, p.2) else none
    | _ => none := by
  unfold mIsX bnd
  cases m env with
  | none => rfl
  | some p =>
    obtain ⟨a, e⟩ := p
    simp only [Option.bind_some]
    cases resolve1 e a with
    | none => rfl
    | some o => cases o <;> rfl
@[simp] theorem e_fld {env : G.Env} (c f : Str) (m : MV) : mFld c f m env = bnd (m env) fun p => bnd (resolve1 p.2 p.1) fun o => match o with
    | .eX c' ds => if c' = c then bnd (ds.lookup f) fun d => some (.fz d, p.2) else none
    | _ => none := by
  unfold mFld bnd
  cases m env with
  | none => rfl
  | some p =>
    obtain ⟨a, e⟩ := p
    simp only [Option.bind_some]
    cases resolve1 e a with
    | none => rfl
    | some o =>
      cases o with
      | eX c' ds =>
        show (if _ then _ else _) = (if _ then _ else _)
        split
        · cases ds.lookup f <;> rfl
        · rfl
      | _ => rfl
end G
namespace G
open PySem PySem.Spec PyProof.Rows L2
variable {env : Env}
@[simp] theorem e_tupO (m : MA) : mTupO m env = bnd (m env) fun p => bnd (parA p.2 p.1) fun q => if q.1.length ≤ lim then some (.oT q.1, q.2) else none := by
  unfold mTupO bnd
  cases m env with
  | none => rfl
  | some p => simp only [Option.bind_some]; cases parA p.2 p.1 <;> rfl
@[simp] theorem e_gNmO (i : Nat) (o : OV) : gNmO i o env = if i < env.length then some (env.set i (some o)) else none := rfl
@[simp] theorem e_gsNilO : gsNilO [] env = some env := rfl
@[simp] theorem e_gsConsO (g : MGO) (r : MGOs) (o : OV) (os : List OV) : gsConsO g r (o :: os) env = bnd (g o env) fun e1 => r os e1 := by
  unfold bnd gsConsO
  cases h : g o env <;> simp only [h, Option.bind_some, Option.bind_none]
@[simp] theorem e_gTpO (n : Nat) (r : MGOs) (os : List OV) : gTpO n r (.oT os) env = if os.length = n then r os env else none := rfl
@[simp] theorem e_gTpOf (n : Nat) (r : MGOs) (ds : List D) : gTpO n r (.fz (.tuple ds)) env = if ds.length = n then r (ds.map .fz) env else none := rfl
@[simp] theorem e_asgO (g : MGO) (m : ME) : mAsgO g m env = bnd (m env) fun p => bnd (g p.1 p.2) fun e2 => some (.nx e2) := by
  unfold mAsgO bnd
  cases m env with
  | none => rfl
  | some p => simp only [Option.bind_some]; cases g p.1 p.2 <;> rfl
@[simp] theorem e_forO (j : Nat) (g : MG) (mb : MS) {ds : List D} (h : lk env j = some (.oL ds)) : mForO j g mb env = mLoopC j ds g mb ds env := by
  unfold mForO
  rw [h]
theorem loopC_nil {j : Nat} {D0 : List D} {g : MG} {mb : MS} {e : G.Env} : mLoopC j D0 g mb [] e = some (.nx e) := rfl
theorem loopC_cons {j : Nat} {D0 : List D} {g : MG} {mb : MS} {d : D} {ds : List D} {e e1 e2 : G.Env} (h1 : g d e = some e1) (h2 : mb e1 = some (.nx e2)) (h3 : lk e2 j = some (.oL D0)) : mLoopC j D0 g mb (d :: ds) e = mLoopC j D0 g mb ds e2 := by
  rw [mLoopC, h1]
  simp only [h2, h3, if_true]
end G
namespace G
open PySem PySem.Spec PyProof.Rows L2
variable {env : Env}
@[simp] theorem e_getW (tbl : List (Str × D)) (m : MA) : mGetW tbl m env = bnd (m env) fun p => bnd (resolve p.2 p.1) fun os => match os with
    | [.fz (.str z), .fz d] => some (.fz ((lkS tbl z).getD d), p.2)
    | _ => none := by
  unfold mGetW bnd
  cases m env with
  | none => rfl
  | some p =>
    simp only [Option.bind_some]
    cases resolve p.2 p.1 with
    | none => rfl
    | some os =>
      simp only [Option.bind_some]
      split <;> rename_i h
      · split
        · cases h; rfl
        · rename_i h2
          cases h
          split <;> rename_i h3
          · cases h3; exact (h2 _ _ rfl rfl).elim
          · rfl
      · split
        · rename_i h3
          exact (h _ _ rfl).elim
        · rfl
theorem e_clr1 (j : Nat) {kvs : List (Key × D)} (h : lk env j = some (.oD kvs)) : mClr j env = some (.fz .none, env.set j (some (.oD []))) := by
  unfold mClr
  rw [h]
theorem e_clrT {j i : Nat} {os : List OV} {kvs : List (Key × D)} (h : lk env j = some (.oT os)) (h2 : os[i]? = some (.oD kvs)) : mClrT j i env = some (.fz .none, env.set j (some (.oT (os.set i (.oD []))))) := by
  unfold mClrT
  rw [h]
  simp only [h2]
end G
namespace G
open PySem PySem.Spec PyProof.Rows L2
variable {env : Env}
@[simp] theorem e_tupI (m : ME) : mTupI m env = bnd (m env) fun p => bnd p.1.dic? fun kvs => some (.fz (.tuple (kvs.map fun kv => .tuple [kD kv.1, kv.2])), p.2) := by
  unfold mTupI bnd
  cases m env with
  | none => rfl
  | some p => simp only [Option.bind_some]; cases p.1.dic? <;> rfl
end G
namespace G
open PySem PySem.Spec PyProof.Rows L2
theorem nik_ok {d : D} {k : NestedKey} {kvs : List (D × OV)} (h1 : nkOf d = some k) (h2 : tupD d = true) (h3 : k.depth ≤ 8) : fNiK (.fz d) (.oK kvs) = some (.fz (.bool (lkK kvs k).isNone)) := by
  unfold fNiK
  simp only [h1]
  rw [if_pos ⟨h2, h3⟩]
theorem putN_ok {j : Nat} {mv mi : MD} {env e1 e2 : Env} {dv d : D} {k : NestedKey} {o : OV} {kvs : List (D × OV)} (h1 : mv env = some (dv, e1)) (h2 : lk e1 j = some o) (h3 : mi e1 = some (d, e2)) (h4 : lk e2 j = some (.oK kvs)) (h5 : nkOf d = some k) (h6 : tupD d = true)
    (h7 : k.depth ≤ 8) (h8 : kvs.length ≤ 15000000) (h9 : lkK kvs k = none) : mPutN j mv mi env = some (.nx (e2.set j (some (.oK (kvs ++ [(d, .fz dv)]))))) := by
  unfold mPutN
  simp only [h1, h2, h3, h4, h5]
  rw [if_pos ⟨h6, h7, h8, by rw [h9]; rfl⟩]
theorem disN_ok {mk mv : MD} {env e1 e2 : Env} {d v : D} {k : NestedKey} (h1 : mk env = some (d, e1)) (h2 : mv e1 = some (v, e2)) (h5 : nkOf d = some k) (h6 : tupD d = true) (h7 : k.depth ≤ 8) : mDisN mk mv env = some (.oK [(d, .fz v)], e2) := by
  unfold mDisN
  simp only [h1, h2, h5]
  rw [if_pos ⟨h6, h7⟩]
end G
namespace C
open PySem PySem.Spec PyProof.Rows L2 G
/-- the pen that draws numbers from the script -/
def pen (cells : List Int) (used left : Int) : OV := .oD [(.inr "cells", .list (cells.map PyData.int)), (.inr "used", .int used), (.inr "left", .int left)]
def blend (cell used : Int) : Int :=
  ((((cell % 4294967231 * 1664525 + 24593 * used * used + 196613 * used + 19) % 4294967197) * ((cell % 4294967231 * 1664525 + 24593 * used * used + 196613 * used + 19) % 4294967197) + 12582917 * ((cell % 4294967231 * 1664525 + 24593 * used * used + 196613 * used + 19) % 4294967197) + 7 * used + 3) % 4294967189) *
    ((((cell % 4294967231 * 1664525 + 24593 * used * used + 196613 * used + 19) % 4294967197) * ((cell % 4294967231 * 1664525 + 24593 * used * used + 196613 * used + 19) % 4294967197) + 12582917 * ((cell % 4294967231 * 1664525 + 24593 * used * used + 196613 * used + 19) % 4294967197) + 7 * used + 3) % 4294967189 + 25165843) % 4294967291 / 64
theorem bits_used {u k : Int} (h0 : 0 ≤ u) (h : u < 2 ^ 60) : bits u ≤ 60 := bits_of (by omega) (by omega)
theorem draw_ok (cells : List Int) (used left many : Int) (hm : 0 < many) (hb : bits many < 9000) (h0 : 0 ≤ used) (h1 : used < 2 ^ 60) :
    ∃ d u l, f_l_draw [pen cells used left, .fz (.int many)] = some (.fz (.int d), [some (pen cells u l), some (.fz (.int many))]) ∧ 0 ≤ d ∧ d < many ∧ used ≤ u ∧ u ≤ used + 1 := by
  have bu : bits used ≤ 60 := bits_of (by omega) (by omega)
  have m1 : bits 29 + bits used < 1000000 := by have : bits 29 ≤ 10 := by decide +kernel
                                                omega
  have mb : ∀ i : Int, bits (i % 4294967231) ≤ 40 := fun i => Nat.le_trans (bits_mod i (by decide)) (by decide +kernel)
  have mc : ∀ i : Int, bits (i % 4294967197) ≤ 40 := fun i => Nat.le_trans (bits_mod i (by decide)) (by decide +kernel)
  have md : ∀ i : Int, bits (i % 4294967189) ≤ 40 := fun i => Nat.le_trans (bits_mod i (by decide)) (by decide +kernel)
  have m2 : ∀ i : Int, bits (i % 4294967231) + bits 1664525 < 1000000 := fun i => by have := mb i; have : bits 1664525 ≤ 60 := by decide +kernel
                                                                                     omega
  have m3 : bits 24593 + bits used < 1000000 := by have : bits 24593 ≤ 60 := by decide +kernel
                                                   omega
  have m4 : bits (24593 * used) + bits used < 1000000 := by have : bits 24593 ≤ 60 := by decide +kernel
                                                            have := bits_mul 24593 used
                                                            omega
  have m5 : bits 196613 + bits used < 1000000 := by have : bits 196613 ≤ 60 := by decide +kernel
                                                    omega
  have m6 : ∀ i : Int, bits (i % 4294967197) + bits (i % 4294967197) < 1000000 := fun i => by have := mc i; omega
  have m7 : ∀ i : Int, bits 12582917 + bits (i % 4294967197) < 1000000 := fun i => by have := mc i; have : bits 12582917 ≤ 60 := by decide +kernel
                                                                                      omega
  have m8 : bits 7 + bits used < 1000000 := by have : bits 7 ≤ 60 := by decide +kernel
                                               omega
  have m9 : ∀ i : Int, bits (i % 4294967189) + bits (i % 4294967189 + 25165843) < 1000000 := fun i => by
    have := md i; have : bits 25165843 ≤ 60 := by decide +kernel
    have := bits_add (i % 4294967189) 25165843
    omega
  have m10 : bits 64 < 9000 := by decide +kernel
  by_cases hl : 0 < left
  · refine ⟨left % many, used, left / many, ?_, Int.emod_nonneg _ (by omega), Int.emod_lt_of_pos _ hm, Int.le_refl _, by omega⟩
    unfold f_l_draw b_l_draw
    simp [pen, hl, hm, hb, lkD, putD]
  · by_cases hc : cells = []
    · subst hc
      have hn : ¬ used < 0 := by omega
      refine ⟨blend (29 * used + 11) used % many, used + 1, left, ?_, Int.emod_nonneg _ (by omega), Int.emod_lt_of_pos _ hm, by omega, by omega⟩
      unfold f_l_draw b_l_draw
      simp [pen, hl, hm, hb, lkD, putD, m1, h0, hn, m2, m3, m4, m5, m6, m7, m8, m9, m10, blend]
    · have hp : (0 : Int) < cells.length := by
        have := List.length_pos_iff.mpr hc
        omega
      have hp' : 0 < cells.length := List.length_pos_iff.mpr hc
      have he : (0 : Int) ≤ used % cells.length := Int.emod_nonneg _ (by omega)
      have hf : used % (cells.length : Int) < cells.length := Int.emod_lt_of_pos _ hp
      obtain ⟨cell, hcell, _⟩ := atI_of he hf
      have hat : atI (cells.map PyData.int) (used % (cells.length : Int)) = some (.int cell) := by rw [atI_map, hcell]; rfl
      by_cases hg : used < (cells.length : Int) ∧ 1000000000000000000 ≤ (if cell < 0 then -cell else cell)
      · refine ⟨((if cell < 0 then -cell else cell) - 1000000000000000000) % many, used + 1, ((if cell < 0 then -cell else cell) - 1000000000000000000) / many, ?_, Int.emod_nonneg _ (by omega), Int.emod_lt_of_pos _ hm, by omega, by omega⟩
        unfold f_l_draw b_l_draw
        simp [pen, hl, hm, hb, lkD, putD, m1, h0, m2, m3, m4, m5, m6, m7, m8, m9, m10, hc, hp, hp', hat, hg.1, hg.2]
      · refine ⟨blend cell used % many, used + 1, left, ?_, Int.emod_nonneg _ (by omega), Int.emod_lt_of_pos _ hm, by omega, by omega⟩
        unfold f_l_draw b_l_draw
        by_cases hg1 : used < (cells.length : Int)
        · have hg2 : ¬ (1000000000000000000 ≤ (if cell < 0 then -cell else cell)) := fun z => hg ⟨hg1, z⟩
          simp [pen, hl, hm, hb, lkD, putD, m1, h0, m2, m3, m4, m5, m6, m7, m8, m9, m10, hc, hp, hp', hat, hg1, hg2, blend]
        · simp [pen, hl, hm, hb, lkD, putD, m1, h0, m2, m3, m4, m5, m6, m7, m8, m9, m10, hc, hp, hp', hat, hg1, blend]
/-- k is a pen that has read at most n places -/
def Pn (n : Int) (k : List (Key × D)) : Prop := ∃ (cells : List Int) (u l : Int), k = [(.inr "cells", .list (cells.map PyData.int)), (.inr "used", .int u), (.inr "left", .int l)] ∧ 0 ≤ u ∧ u ≤ n
theorem Pn.mono {n m : Int} {k : List (Key × D)} (h : Pn n k) (hm : n ≤ m) : Pn m k := by
  obtain ⟨c, u, l, e, h0, h1⟩ := h
  exact ⟨c, u, l, e, h0, by omega⟩
theorem draw {n many : Int} {k : List (Key × D)} (h : Pn n k) (hn : n < 2 ^ 60) (hm : 0 < many) (hb : many < 2 ^ 8000) :
    ∃ d k', f_l_draw [.oD k, .fz (.int many)] = some (.fz (.int d), [some (.oD k'), some (.fz (.int many))]) ∧ 0 ≤ d ∧ d < many ∧ Pn (n + 1) k' := by
  obtain ⟨c, u, l, rfl, h0, h1⟩ := h
  have hB : bits many < 9000 := Nat.lt_of_le_of_lt (bits_up (by omega) hb) (by decide)
  obtain ⟨d, u', l', e, a, b, p, q⟩ := draw_ok c u l many hm hB h0 (by omega)
  exact ⟨d, _, e, a, b, c, u', l', rfl, by omega, by omega⟩
theorem pick {n : Int} {k : List (Key × D)} {ds : List D} (h : Pn n k) (hn : n < 2 ^ 60) (h0 : ds ≠ []) (hl : ds.length ≤ 16000000) :
    ∃ d k', f_l_pick [.oD k, .oL ds] = some (.fz d, [some (.oD k'), some (.oL ds)]) ∧ d ∈ ds ∧ Pn (n + 1) k' := by
  have hp := List.length_pos_iff.mpr h0
  have hB : (ds.length : Int) < 2 ^ 8000 := by
    have : (1000000 : Int) < 2 ^ 8000 := by decide +kernel
    omega
  obtain ⟨i, k', e, a, b, p⟩ := draw (many := (ds.length : Int)) h hn (by omega) hB
  obtain ⟨d, hd, hm⟩ := atI_of a b
  refine ⟨d, k', ?_, hm, p⟩
  unfold f_l_pick b_l_pick
  simp [e, hd]
theorem pickF {n : Int} {k : List (Key × D)} {ds : List D} (h : Pn n k) (hn : n < 2 ^ 60) (h0 : ds ≠ []) (hl : ds.length ≤ 16000000) :
    ∃ d k', f_l_pick [.oD k, .fz (.list ds)] = some (.fz d, [some (.oD k'), some (.fz (.list ds))]) ∧ d ∈ ds ∧ Pn (n + 1) k' := by
  have hp := List.length_pos_iff.mpr h0
  have hB : (ds.length : Int) < 2 ^ 8000 := by
    have : (1000000 : Int) < 2 ^ 8000 := by decide +kernel
    omega
  obtain ⟨i, k', e, a, b, p⟩ := draw (many := (ds.length : Int)) h hn (by omega) hB
  obtain ⟨d, hd, hm⟩ := atI_of a b
  refine ⟨d, k', ?_, hm, p⟩
  unfold f_l_pick b_l_pick
  simp [e, hd]
theorem pen_new (ns : List Int) : ∃ k, f_l_pen [.fz (.list (ns.map PyData.int))] = some (.oD k, [some (.fz (.list (ns.map PyData.int)))]) ∧ Pn 0 k := by
  refine ⟨_, ?_, (ns.drop (HT.sIx ns.length 0 none)).take (HT.sIx ns.length ns.length (some 63) - HT.sIx ns.length 0 none), 0, 0, rfl, by omega, by omega⟩
  unfold f_l_pen b_l_pen
  simp [putD, G.cutD]
/-- programs by what they do: the shift, the executed count, the number of instructions -/
abbrev RR : Type := D → Int → Int → Nat → Prop
def BB : Nat := 1000000000000000000000000000000
inductive LS (R : RR) : List D → Int → Int → Nat → Prop
  | nil : LS R [] 0 0 0
  | cons {d : D} {ds : List D} {s e s' e' : Int} {w w' : Nat} : R d s e w → LS R ds s' e' w' → LS R (d :: ds) (s + s') (e + e') (w + w')
def PS (R : RR) (d : D) (s e : Int) (w : Nat) : Prop := ∃ ds, (d = .list ds ∨ d = .tuple ds) ∧ LS R ds s e w
def Simple : RR := fun d s e w => ∃ c : Int, c.natAbs ≤ BB ∧ e = 1 ∧ w = 1 ∧ ((d = .tuple [.str "step", .int c] ∧ s = c) ∨ (d = .tuple [.str "turn", .int c] ∧ s = 0))
def Rp (R : RR) : RR := fun d s e w => ∃ (c : Int) (b : D) (s' e' : Int) (w' : Nat), c.natAbs ≤ BB ∧ PS R b s' e' w' ∧ d = .tuple [.str "repeat", .int c, b] ∧ s = c * s' ∧ e = c * e' ∧ w = 1 + w'
def IS : Nat → RR
  | 0 => Simple
  | n + 1 => fun d s e w => Simple d s e w ∨ Rp (IS n) d s e w
theorem LS.mono {R R' : RR} (h : ∀ d s e w, R d s e w → R' d s e w) : ∀ {ds s e w}, LS R ds s e w → LS R' ds s e w
  | _, _, _, _, .nil => .nil
  | _, _, _, _, .cons a t => .cons (h _ _ _ _ a) (t.mono h)
theorem LS.app {R : RR} {bs : List D} {s' e' : Int} {w' : Nat} (g : LS R bs s' e' w') : ∀ {ds s e w}, LS R ds s e w → LS R (ds ++ bs) (s + s') (e + e') (w + w')
  | _, _, _, _, .nil => by simpa using g
  | _, _, _, _, .cons (d := d) (ds := ds) (s := s1) (e := e1) (s' := s2) (e' := e2) (w := w1) (w' := w2) a t => by
    have h := LS.cons a (g.app t)
    rw [← Int.add_assoc, ← Int.add_assoc, ← Nat.add_assoc] at h
    exact h
theorem LS.one {R : RR} {d : D} {s e : Int} {w : Nat} (h : R d s e w) : LS R [d] s e w := by simpa using LS.cons h .nil
theorem IS.simple {d : D} {s e : Int} {w : Nat} (h : Simple d s e w) : ∀ n, IS n d s e w
  | 0 => h
  | n + 1 => .inl h
theorem IS.up : ∀ (n : Nat) {d : D} {s e : Int} {w : Nat}, IS n d s e w → IS (n + 1) d s e w
  | 0, _, _, _, _, h => .inl h
  | n + 1, _, _, _, _, .inl h => .inl h
  | n + 1, _, _, _, _, .inr ⟨c, b, s', e', w', h1, ⟨ds, h2, h3⟩, h4⟩ => .inr ⟨c, b, s', e', w', h1, ⟨ds, h2, h3.mono fun _ _ _ _ q => IS.up n q⟩, h4⟩
theorem IS.pos : ∀ (n : Nat) {d : D} {s e : Int} {w : Nat}, IS n d s e w → 1 ≤ w
  | 0, _, _, _, _, ⟨_, _, _, h, _⟩ => by omega
  | n + 1, _, _, _, _, .inl ⟨_, _, _, h, _⟩ => by omega
  | n + 1, _, _, _, _, .inr ⟨_, _, _, _, _, _, _, _, _, _, h⟩ => by omega
theorem LS.len {n : Nat} : ∀ {ds s e w}, LS (IS n) ds s e w → ds.length ≤ w
  | _, _, _, _, .nil => Nat.le_refl _
  | _, _, _, _, .cons a t => by
    have h1 := IS.pos n a
    have h2 := t.len
    rw [List.length_cons]; omega
theorem LS.bd {n : Nat} {M : Nat} (h : ∀ d s e w, IS n d s e w → s.natAbs ≤ w * M ∧ e.natAbs ≤ w * M) : ∀ {ds s e w}, LS (IS n) ds s e w → s.natAbs ≤ w * M ∧ e.natAbs ≤ w * M
  | _, _, _, _, .nil => by simp
  | _, _, _, _, .cons a t => by
    have h1 := h _ _ _ _ a
    have h2 := t.bd h
    rw [Nat.add_mul]
    omega
theorem IS.bd : ∀ (n : Nat) (d : D) (s e : Int) (w : Nat), IS n d s e w → s.natAbs ≤ w * BB ^ (n + 1) ∧ e.natAbs ≤ w * BB ^ (n + 1)
  | 0, _, _, _, _, ⟨c, h1, rfl, rfl, h⟩ => by
    rw [Nat.pow_one]
    have : 1 ≤ BB := by decide
    rcases h with ⟨_, rfl⟩ | ⟨_, rfl⟩ <;> simp <;> omega
  | n + 1, _, _, _, _, .inl ⟨c, h1, rfl, rfl, h⟩ => by
    have h2 : BB ≤ BB ^ (n + 1 + 1) := by
      have : BB ^ 1 ≤ BB ^ (n + 1 + 1) := Nat.pow_le_pow_right (by decide) (by omega)
      rwa [Nat.pow_one] at this
    have : 1 ≤ BB := by decide
    generalize BB ^ (n + 1 + 1) = M at *
    rcases h with ⟨_, rfl⟩ | ⟨_, rfl⟩ <;> simp <;> omega
  | n + 1, _, _, _, _, .inr ⟨c, b, s', e', w', h1, ⟨ds, _, h2⟩, rfl, rfl, rfl, rfl⟩ => by
    have h3 := h2.bd (IS.bd n)
    have h4 : BB ^ (n + 1 + 1) = BB * BB ^ (n + 1) := by rw [Nat.pow_succ BB (n + 1), Nat.mul_comm]
    have key : ∀ x : Int, x.natAbs ≤ w' * BB ^ (n + 1) → (c * x).natAbs ≤ (1 + w') * BB ^ (n + 1 + 1) := fun x hx => by
      rw [Int.natAbs_mul, h4]
      have a1 : c.natAbs * x.natAbs ≤ BB * (w' * BB ^ (n + 1)) := Nat.mul_le_mul h1 hx
      have a2 : BB * (w' * BB ^ (n + 1)) ≤ (1 + w') * (BB * BB ^ (n + 1)) := by
        rw [Nat.add_mul, ← Nat.mul_assoc BB w', Nat.mul_comm BB w', Nat.mul_assoc]
        exact Nat.le_add_left _ _
      omega
    exact ⟨key _ h3.1, key _ h3.2⟩
theorem small_bits {n w : Nat} {s : Int} (hn : n ≤ 2) (hw : w ≤ 5000) (h : s.natAbs ≤ w * BB ^ (n + 1)) : bits s ≤ 400 := by
  refine bits_le ?_
  have h1 : BB ^ (n + 1) ≤ BB ^ 3 := Nat.pow_le_pow_right (by decide) (by omega)
  have h2 : w * BB ^ (n + 1) ≤ 5000 * BB ^ 3 := Nat.mul_le_mul hw h1
  have h3 : 5000 * BB ^ 3 < 2 ^ (400 + 1) := by decide +kernel
  omega
theorem bits_BB {c : Int} (h : c.natAbs ≤ BB) : bits c ≤ 110 := by
  refine bits_le ?_
  have : BB < 2 ^ (110 + 1) := by decide +kernel
  omega
theorem LS.sm {n : Nat} (hn : n ≤ 2) {ds s e w} (h : LS (IS n) ds s e w) (hw : w ≤ 5000) : bits s ≤ 400 ∧ bits e ≤ 400 := by
  have := h.bd (IS.bd n)
  exact ⟨small_bits hn hw this.1, small_bits hn hw this.2⟩
theorem sum_ints (ns : List Int) : fSum (.oL (ns.map PyData.int)) = some (.fz (.int ns.sum)) := by
  show (allI (ns.map PyData.int)).map _ = _
  rw [allI_map]; rfl
/-- repr: no dicts, few levels, not long -/
def Nice (d : D) (n w : Nat) : Prop := d.hasDict = false ∧ d.showable = true ∧ d.depth ≤ n ∧ szD d ≤ w
theorem LS.nice {R : RR} {n : Nat} (h : ∀ d s e w, R d s e w → Nice d n (500 * w - 2)) (hp : ∀ d s e w, R d s e w → 1 ≤ w) : ∀ {ds s e w}, LS R ds s e w → PyData.hasDictAll ds = false ∧ PyData.showableAll ds = true ∧ PyData.depthAll ds ≤ n ∧ szAll ds ≤ 500 * w
  | _, _, _, _, .nil => ⟨rfl, rfl, Nat.zero_le _, Nat.le_refl _⟩
  | _, _, _, _, .cons (d := d) (ds := ds) a t => by
    obtain ⟨h1, h2, h3, h4⟩ := h _ _ _ _ a
    obtain ⟨g1, g2, g3, g4⟩ := t.nice h hp
    have := hp _ _ _ _ a
    refine ⟨by rw [PyData.hasDictAll, h1, g1]; rfl, by rw [PyData.showableAll, h2, g2]; rfl, by rw [PyData.depthAll]; exact Nat.max_le.mpr ⟨h3, g3⟩, ?_⟩
    rw [szAll]
    omega
theorem nice_bounds {c : Int} (h : bits c ≤ 400) : PyData.showable (.int c) = true := decide_eq_true (Nat.lt_of_le_of_lt h (by decide))
theorem nice_simple {d : D} {s e : Int} {w n : Nat} (h : Simple d s e w) : Nice d (n + 1) (500 * w - 2) := by
  obtain ⟨c, h1, _, rfl, h⟩ := h
  have hb := bits_BB h1
  have hs : PyData.showable (.int c) = true := nice_bounds (by omega)
  have e1 : (PyData.shown (.str "step")).length = 6 := by decide +kernel
  have e2 : (PyData.shown (.str "turn")).length = 6 := by decide +kernel
  rcases h with ⟨rfl, _⟩ | ⟨rfl, _⟩
  · refine ⟨rfl, by simp [PyData.showable, PyData.showableAll] at hs ⊢; exact hs, by simp [PyData.depth, PyData.depthAll], ?_⟩
    simp only [szD, szAll]
    omega
  · refine ⟨rfl, by simp [PyData.showable, PyData.showableAll] at hs ⊢; exact hs, by simp [PyData.depth, PyData.depthAll], ?_⟩
    simp only [szD, szAll]
    omega
theorem IS.nice : ∀ (n : Nat) (d : D) (s e : Int) (w : Nat), IS n d s e w → Nice d (2 * n + 1) (500 * w - 2)
  | 0, _, _, _, _, h => nice_simple h
  | n + 1, _, _, _, _, .inl h => nice_simple h
  | n + 1, _, _, _, _, .inr ⟨c, b, s', e', w', h1, ⟨ds, h2, h3⟩, rfl, _, _, rfl⟩ => by
    have hb := bits_BB h1
    have hs : PyData.showable (.int c) = true := nice_bounds (by omega)
    obtain ⟨g1, g2, g3, g4⟩ := h3.nice (IS.nice n) (fun _ _ _ _ q => IS.pos n q)
    have e1 : (PyData.shown (.str "repeat")).length = 8 := by decide +kernel
    simp [PyData.showable] at hs
    rcases h2 with rfl | rfl
    · refine ⟨by simp [PyData.hasDict, PyData.hasDictAll, g1], by simp [PyData.showable, PyData.showableAll, g2, hs], by simp [PyData.depth, PyData.depthAll]; omega, ?_⟩
      simp only [szD, szAll]
      omega
    · refine ⟨by simp [PyData.hasDict, PyData.hasDictAll, g1], by simp [PyData.showable, PyData.showableAll, g2, hs], by simp [PyData.depth, PyData.depthAll]; omega, ?_⟩
      simp only [szD, szAll]
      omega
theorem PS.repr {n : Nat} {o : OV} {d : D} {s e : Int} {w : Nat} (ho : o.frz = some d) (h : PS (IS n) d s e w) (hn : n ≤ 2) (hw : w ≤ 5000) : ∃ x, fRepr o = some (.fz (.str x)) ∧ fRepr (.fz d) = some (.fz (.str x)) := by
  obtain ⟨ds, h2, h3⟩ := h
  obtain ⟨g1, g2, g3, g4⟩ := h3.nice (IS.nice n) (fun _ _ _ _ q => IS.pos n q)
  have key : ∀ o' : OV, o'.flat? = some d → fRepr o' = some (.fz (.str d.shown)) := fun o' hx => by
    refine reprT hx ?_ ?_ ?_
    · rcases h2 with rfl | rfl <;> rw [PyData.showable] <;> exact g2
    · rcases h2 with rfl | rfl <;> simp [PyData.depth] <;> omega
    · rcases h2 with rfl | rfl <;> rw [szD] <;> omega
  have nod : d.hasDict = false := by rcases h2 with rfl | rfl <;> rw [PyData.hasDict] <;> exact g1
  have f1 : (OV.fz d).flat? = some d := by simp [OV.flat?, nod]
  refine ⟨d.shown, key o ?_, key _ f1⟩
  cases o with
  | fz d' => cases ho; exact f1
  | oL ds' =>
    cases ho
    rw [PyData.hasDict] at nod
    simp [OV.flat?, nod]
  | oD kvs => cases ho; rw [PyData.hasDict] at nod; cases nod
  | oN _ => cases ho
  | oI _ _ => cases ho
  | oT _ => cases ho
  | oK _ => cases ho
  | fK _ => cases ho
  | fI _ _ => cases ho
  | eX _ _ => cases ho
theorem repr_two {s e : Int} (hs : bits s ≤ 400) (he : bits e ≤ 400) : fRepr (.oL [.int s, .int e]) = some (.fz (.str (PyData.shown (.list [.int s, .int e])))) := by
  refine reprT (d := .list [.int s, .int e]) rfl ?_ (by simp [PyData.depth, PyData.depthAll]) ?_
  · have h1 := nice_bounds hs
    have h2 := nice_bounds he
    simp [PyData.showable, PyData.showableAll] at h1 h2 ⊢
    exact ⟨h1, h2⟩
  · simp only [szD, szAll]; omega
/-- a function that answers the shift (or the count) of programs -/
def OkV (F : MF) (n : Nat) (f : Int → Int → Int) : Prop := ∀ (o : OV) (d : D) (s e : Int) (w : Nat), o.frz = some d → PS (IS n) d s e w → w ≤ 5000 → F [o] = some (.fz (.int (f s e)), [some (.fz d)])
theorem PS.items {R : RR} {d : D} {s e : Int} {w : Nat} (h : PS R d s e w) : ∃ ds, itemsD d = some ds ∧ LS R ds s e w := by
  obtain ⟨ds, h1, h2⟩ := h
  rcases h1 with rfl | rfl <;> exact ⟨ds, rfl, h2⟩
/-- one instruction, looked at -/
theorem IS.cases' {n : Nat} {d : D} {s e : Int} {w : Nat} (h : IS n d s e w) : (∃ c, bits c ≤ 110 ∧ d = .tuple [.str "step", .int c] ∧ s = c ∧ e = 1) ∨ (∃ c, bits c ≤ 110 ∧ d = .tuple [.str "turn", .int c] ∧ s = 0 ∧ e = 1) ∨
    ∃ m c b s' e' w', n = m + 1 ∧ bits c ≤ 110 ∧ PS (IS m) b s' e' w' ∧ d = .tuple [.str "repeat", .int c, b] ∧ s = c * s' ∧ e = c * e' ∧ w = 1 + w' := by
  have simp' : Simple d s e w → (∃ c, bits c ≤ 110 ∧ d = .tuple [.str "step", .int c] ∧ s = c ∧ e = 1) ∨ (∃ c, bits c ≤ 110 ∧ d = .tuple [.str "turn", .int c] ∧ s = 0 ∧ e = 1) ∨
    ∃ m c b s' e' w', n = m + 1 ∧ bits c ≤ 110 ∧ PS (IS m) b s' e' w' ∧ d = .tuple [.str "repeat", .int c, b] ∧ s = c * s' ∧ e = c * e' ∧ w = 1 + w' := by
    rintro ⟨c, h1, h2, _, h3 | h3⟩
    · exact .inl ⟨c, bits_BB h1, h3.1, h3.2, h2⟩
    · exact .inr (.inl ⟨c, bits_BB h1, h3.1, h3.2, h2⟩)
  cases n with
  | zero => exact simp' h
  | succ m =>
    rcases h with h | ⟨c, b, s', e', w', h1, h2, h3⟩
    · exact simp' h
    · exact .inr (.inr ⟨m, c, b, s', e', w', rfl, bits_BB h1, h2, h3⟩)
theorem mov_mov (m n : Int) (a : PL) : mov m (mov n a) = mov (n + m) a := by
  unfold mov
  rw [List.map_map]
  refine List.map_congr_left fun q _ => ?_
  show (q.1 + n + m, q.2) = _
  rw [Int.add_assoc]
theorem mov_zero (a : PL) : mov 0 a = a := by
  unfold mov
  refine (List.map_congr_left fun q _ => ?_).trans (List.map_id a)
  show (q.1 + 0, q.2) = q
  rw [Int.add_zero]
/-- programs: steps, turns, repeats -/
inductive Pg where
  | st (c : Int)
  | tu (c : Int)
  | re (c : Nat) (b : List Pg)
/-- turns of so many rounds, each one stride further -/
def rp : Nat → Int → PL → PL
  | 0, _, _ => []
  | n + 1, s, T => rp n s T ++ mov (n * s) T
mutual
def Pg.sh : Pg → Int
  | .st c => c
  | .tu _ => 0
  | .re c b => c * shL b
def shL : List Pg → Int
  | [] => 0
  | p :: ps => p.sh + shL ps
end
mutual
def Pg.ex : Pg → Nat
  | .st _ => 1
  | .tu _ => 1
  | .re c b => c * exL b
def exL : List Pg → Nat
  | [] => 0
  | p :: ps => p.ex + exL ps
end
mutual
def Pg.sz : Pg → Nat
  | .st _ => 1
  | .tu _ => 1
  | .re _ b => 1 + szL b
def szL : List Pg → Nat
  | [] => 0
  | p :: ps => p.sz + szL ps
end
mutual
def Pg.tn : Pg → PL
  | .st _ => []
  | .tu c => [(0, c)]
  | .re c b => rp c (shL b) (tnL b)
def tnL : List Pg → PL
  | [] => []
  | p :: ps => p.tn ++ mov p.sh (tnL ps)
end
theorem mov_app (n : Int) (a b : PL) : mov n (a ++ b) = mov n a ++ mov n b := by unfold mov; exact List.map_append ..
theorem shL_app : ∀ a b : List Pg, shL (a ++ b) = shL a + shL b
  | [], b => by simp [shL]
  | p :: a, b => by rw [List.cons_append, shL, shL_app a b, shL, Int.add_assoc]
theorem exL_app : ∀ a b : List Pg, exL (a ++ b) = exL a + exL b
  | [], b => by simp [exL]
  | p :: a, b => by rw [List.cons_append, exL, exL_app a b, exL, Nat.add_assoc]
theorem szL_app : ∀ a b : List Pg, szL (a ++ b) = szL a + szL b
  | [], b => by simp [szL]
  | p :: a, b => by rw [List.cons_append, szL, szL_app a b, szL, Nat.add_assoc]
theorem tnL_app : ∀ a b : List Pg, tnL (a ++ b) = tnL a ++ mov (shL a) (tnL b)
  | [], b => by simp [tnL, shL, mov_zero]
  | p :: a, b => by rw [List.cons_append, tnL, tnL_app a b, tnL, mov_app, mov_mov, shL, List.append_assoc, Int.add_comm (shL a)]
theorem len_rp (n : Nat) (s : Int) (T : PL) : (rp n s T).length = n * T.length := by
  induction n with
  | zero => simp [rp]
  | succ n ih => rw [rp, List.length_append, ih, len_mov, Nat.succ_mul]
mutual
theorem Pg.len : ∀ p : Pg, p.tn.length ≤ p.ex
  | .st _ => by simp [Pg.tn]
  | .tu _ => by simp [Pg.tn, Pg.ex]
  | .re c b => by
    rw [Pg.tn, Pg.ex, len_rp]
    exact Nat.mul_le_mul_left _ (lenL b)
theorem lenL : ∀ ps : List Pg, (tnL ps).length ≤ exL ps
  | [] => by simp [tnL]
  | p :: ps => by
    rw [tnL, exL, List.length_append, len_mov]
    have := p.len
    have := lenL ps
    omega
end
/-- nothing executed: no shift, no turns -/
theorem sh_zero : ∀ ps : List Pg, exL ps = 0 → shL ps = 0 ∧ tnL ps = []
  | [], _ => ⟨rfl, rfl⟩
  | .st c :: ps, h => by rw [exL, Pg.ex] at h; omega
  | .tu c :: ps, h => by rw [exL, Pg.ex] at h; omega
  | .re c b :: ps, h => by
    rw [exL, Pg.ex] at h
    have h1 : exL ps = 0 := by omega
    have h2 : c * exL b = 0 := by omega
    obtain ⟨a1, a2⟩ := sh_zero ps h1
    rcases Nat.mul_eq_zero.mp h2 with rfl | h3
    · rw [shL, tnL, Pg.sh, Pg.tn, a1, a2]
      simp [rp, mov]
    · obtain ⟨b1, b2⟩ := sh_zero b h3
      rw [shL, tnL, Pg.sh, Pg.tn, a1, a2, b1, b2]
      refine ⟨by simp, List.length_eq_zero_iff.mp ?_⟩
      simp [len_rp, mov]
mutual
/-- the largest count of a repeat -/
def Pg.rd : Pg → Nat
  | .st _ => 0
  | .tu _ => 0
  | .re c b => max c (rdL b)
def rdL : List Pg → Nat
  | [] => 0
  | p :: ps => max p.rd (rdL ps)
end
theorem rdL_app : ∀ a b : List Pg, rdL (a ++ b) = max (rdL a) (rdL b)
  | [], b => by simp [rdL]
  | p :: a, b => by rw [List.cons_append, rdL, rdL_app a b, rdL]; omega
/-- data that stand for programs -/
inductive EL (R : D → Pg → Prop) : List D → List Pg → Prop
  | nil : EL R [] []
  | cons {d : D} {p : Pg} {ds : List D} {ps : List Pg} : R d p → EL R ds ps → EL R (d :: ds) (p :: ps)
def EP (R : D → Pg → Prop) (d : D) (ps : List Pg) : Prop := ∃ ds, (d = .list ds ∨ d = .tuple ds) ∧ EL R ds ps
def EI : Nat → D → Pg → Prop
  | _, d, .st c => c.natAbs ≤ BB ∧ d = .tuple [.str "step", .int c]
  | _, d, .tu c => c.natAbs ≤ BB ∧ d = .tuple [.str "turn", .int c]
  | 0, _, .re _ _ => False
  | n + 1, d, .re c b => c ≤ BB ∧ ∃ x, EP (EI n) x b ∧ d = .tuple [.str "repeat", .int c, x]
theorem EL.app {R : D → Pg → Prop} {bs : List D} {qs : List Pg} (g : EL R bs qs) : ∀ {ds ps}, EL R ds ps → EL R (ds ++ bs) (ps ++ qs)
  | _, _, .nil => g
  | _, _, .cons a t => .cons a (g.app t)
theorem EL.one {R : D → Pg → Prop} {d : D} {p : Pg} (h : R d p) : EL R [d] [p] := .cons h .nil
theorem EL.mono {R R' : D → Pg → Prop} (h : ∀ d p, R d p → R' d p) : ∀ {ds ps}, EL R ds ps → EL R' ds ps
  | _, _, .nil => .nil
  | _, _, .cons a t => .cons (h _ _ a) (t.mono h)
theorem EI.up : ∀ (n : Nat) {d : D} {p : Pg}, EI n d p → EI (n + 1) d p
  | 0, _, .st _, h => h
  | 0, _, .tu _, h => h
  | 0, _, .re _ _, h => h.elim
  | n + 1, _, .st _, h => h
  | n + 1, _, .tu _, h => h
  | n + 1, _, .re _ _, ⟨h1, x, ⟨ds, h2, h3⟩, h4⟩ => ⟨h1, x, ⟨ds, h2, h3.mono fun _ _ q => EI.up n q⟩, h4⟩
theorem EL.up {n : Nat} {ds : List D} {ps : List Pg} (h : EL (EI n) ds ps) : EL (EI (n + 1)) ds ps := h.mono fun _ _ q => EI.up n q
theorem EL.len {R : D → Pg → Prop} : ∀ {ds ps}, EL R ds ps → ds.length = ps.length
  | _, _, .nil => rfl
  | _, _, .cons _ t => by rw [List.length_cons, List.length_cons, t.len]
theorem sz_pos : ∀ p : Pg, 1 ≤ p.sz
  | .st _ => Nat.le_refl _
  | .tu _ => Nat.le_refl _
  | .re _ b => by rw [Pg.sz]; omega
theorem len_szL : ∀ ps : List Pg, ps.length ≤ szL ps
  | [] => Nat.le_refl _
  | p :: ps => by
    have := sz_pos p
    have := len_szL ps
    rw [List.length_cons, szL]; omega
theorem EL.ls {n : Nat} (h : ∀ d p, EI n d p → IS n d p.sh p.ex p.sz) : ∀ {ds ps}, EL (EI n) ds ps → LS (IS n) ds (shL ps) (exL ps) (szL ps)
  | _, _, .nil => .nil
  | _, _, .cons a t => by
    have q := LS.cons (h _ _ a) (t.ls h)
    rw [shL, exL, szL, Int.natCast_add]
    exact q
theorem EI.is : ∀ (n : Nat) (d : D) (p : Pg), EI n d p → IS n d p.sh p.ex p.sz
  | 0, _, .st c, ⟨h1, h2⟩ => ⟨c, h1, rfl, rfl, .inl ⟨h2, rfl⟩⟩
  | 0, _, .tu c, ⟨h1, h2⟩ => ⟨c, h1, rfl, rfl, .inr ⟨h2, rfl⟩⟩
  | 0, _, .re _ _, h => h.elim
  | n + 1, _, .st c, ⟨h1, h2⟩ => .inl ⟨c, h1, rfl, rfl, .inl ⟨h2, rfl⟩⟩
  | n + 1, _, .tu c, ⟨h1, h2⟩ => .inl ⟨c, h1, rfl, rfl, .inr ⟨h2, rfl⟩⟩
  | n + 1, _, .re c b, ⟨h1, x, ⟨ds, h2, h3⟩, h4⟩ => .inr ⟨c, x, shL b, exL b, szL b, by simpa using h1, ⟨ds, h2, h3.ls (EI.is n)⟩, h4, rfl, by rw [Pg.ex, Int.natCast_mul], by rw [Pg.sz]⟩
theorem EP.ps {n : Nat} {d : D} {ps : List Pg} (h : EP (EI n) d ps) : PS (IS n) d (shL ps) (exL ps) (szL ps) :=
  let ⟨ds, h1, h2⟩ := h
  ⟨ds, h1, h2.ls (EI.is n)⟩
theorem EP.items {R : D → Pg → Prop} {d : D} {ps : List Pg} (h : EP R d ps) : ∃ ds, itemsD d = some ds ∧ EL R ds ps := by
  obtain ⟨ds, h1, h2⟩ := h
  rcases h1 with rfl | rfl <;> exact ⟨ds, rfl, h2⟩
theorem EP.list {R : D → Pg → Prop} {ds : List D} {ps : List Pg} (h : EL R ds ps) : EP R (.list ds) ps := ⟨ds, .inl rfl, h⟩
theorem EP.tuple {R : D → Pg → Prop} {ds : List D} {ps : List Pg} (h : EL R ds ps) : EP R (.tuple ds) ps := ⟨ds, .inr rfl, h⟩
theorem EI.cases' {n : Nat} {d : D} {p : Pg} (h : EI n d p) : (∃ c, c.natAbs ≤ BB ∧ d = .tuple [.str "step", .int c] ∧ p = .st c) ∨ (∃ c, c.natAbs ≤ BB ∧ d = .tuple [.str "turn", .int c] ∧ p = .tu c) ∨
    ∃ m c x b, n = m + 1 ∧ c ≤ BB ∧ EP (EI m) x b ∧ d = .tuple [.str "repeat", .int (c : Nat), x] ∧ p = .re c b := by
  cases p with
  | st c => cases n <;> exact .inl ⟨c, h.1, h.2, rfl⟩
  | tu c => cases n <;> exact .inr (.inl ⟨c, h.1, h.2, rfl⟩)
  | re c b =>
    cases n with
    | zero => exact h.elim
    | succ m =>
      obtain ⟨h1, x, h2, h3⟩ := h
      exact .inr (.inr ⟨m, c, x, b, rfl, h1, h2, h3, rfl⟩)
theorem EI.st {n : Nat} {c : Int} (h : c.natAbs ≤ BB) : EI n (.tuple [.str "step", .int c]) (.st c) := by cases n <;> exact ⟨h, rfl⟩
theorem EI.tu {n : Nat} {c : Int} (h : c.natAbs ≤ BB) : EI n (.tuple [.str "turn", .int c]) (.tu c) := by cases n <;> exact ⟨h, rfl⟩
theorem EI.re {n c : Nat} {x : D} {b : List Pg} (h : c ≤ BB) (g : EP (EI n) x b) : EI (n + 1) (.tuple [.str "repeat", .int (c : Nat), x]) (.re c b) := ⟨h, x, g, rfl⟩
/-- bounds on shifts -/
theorem sh_bits {n : Nat} (hn : n ≤ 2) {ps : List Pg} {ds : List D} (h : EL (EI n) ds ps) (hw : szL ps ≤ 5000) : bits (shL ps) ≤ 400 ∧ bits (exL ps) ≤ 400 := (h.ls (EI.is n)).sm hn hw
theorem rgD_len (n : Nat) : (rgD 0 n).length = n := by simp [rgD]
theorem prs_app (a b : PL) : prs (a ++ b) = prs a ++ prs b := by unfold prs; exact List.map_append ..
@[simp] theorem e_lext (j : Nat) (m : ME) : mLExt j m env = bnd (lk env j) fun o => match o with
    | .oL _ => bnd (m env) fun p => match p.1 with
      | .oL zs => bnd (lk p.2 j) fun o => match o with
        | .oL ds => if ds.length + zs.length ≤ 16000000 then some (.fz .none, p.2.set j (some (.oL (ds ++ zs)))) else none
        | _ => none
      | _ => none
    | _ => none := by
  unfold mLExt bnd
  have hl : lim = 16000000 := rfl
  rw [← hl]
  cases lk env j with
  | none => rfl
  | some o =>
    cases o with
    | oL d1 =>
      simp only [Option.bind_some]
      cases m env with
      | none => rfl
      | some p =>
        obtain ⟨o2, e2⟩ := p
        simp only [Option.bind_some]
        cases o2 with
        | oL zs =>
          simp only
          cases lk e2 j with
          | none => rfl
          | some o3 => simp only [Option.bind_some]; cases o3 <;> rfl
        | _ => rfl
    | _ => rfl
@[simp] theorem e_forK (j : Nat) (g : MG) (mb : MS) : mForK j g mb env = bnd (lk env j) fun o => match o with
    | .fz (.dict es) => bnd (mLoop g mb (es.map (·.1)) env) fun r => match r with
      | .nx e => some (.nx e)
      | _ => none
    | _ => none := by
  unfold mForK bnd
  cases lk env j with
  | none => rfl
  | some o =>
    cases o with
    | fz d =>
      cases d with
      | dict es => simp only [Option.bind_some]; cases mLoop g mb (es.map (·.1)) env with
        | none => rfl
        | some r => cases r <;> rfl
      | _ => rfl
    | _ => rfl
@[simp] theorem e_itemsA (j : Nat) : mItemsA j env = bnd (lk env j) fun o => bnd o.dic? fun kvs => some (.oL (kvs.map fun kv => .tuple [kD kv.1, kv.2]), env) := by
  unfold mItemsA bnd
  cases lk env j with
  | none => rfl
  | some o => simp only [Option.bind_some]; cases o.dic? <;> rfl
/-- dicts of ints, frozen -/
def dk (m : PL) : List (D × D) := m.map fun q => (.int q.1, .int q.2)
theorem esK_dk : ∀ m : PL, esK (dk m) = some (ek m)
  | [] => rfl
  | q :: m => by
    show (match keyOf (.int q.1) with | none => none | some k' => (esK (dk m)).map ((k', PyData.int q.2) :: ·)) = _
    rw [esK_dk m]; rfl
@[simp] theorem dic_dk (m : PL) : (OV.fz (.dict (dk m))).dic? = some (ek m) := esK_dk m
theorem keys_dk (m : PL) : (dk m).map (·.1) = (m.map (·.1)).map PyData.int := by unfold dk; rw [List.map_map, List.map_map]; rfl
theorem map_ek (m : PL) : (ek m).map (fun p => (kD p.1, p.2)) = dk m := by
  unfold ek dk
  rw [List.map_map]; rfl
theorem frz_ek (m : PL) : (OV.oD (ek m)).frz = some (.dict (dk m)) := by
  show some (PyData.dict ((ek m).map fun p => (kD p.1, p.2))) = _
  unfold ek dk
  rw [List.map_map]; rfl
theorem sorted_dk (m : PL) : fSorted (.fz (.dict (dk m))) = some (.oL ((sortI (m.map (·.1))).map PyData.int)) := by
  have h := sorted_ek m
  unfold fSorted at h ⊢
  rw [dic_dk]
  exact h
/-- sums over the first naturals -/
def S : Nat → (Nat → Int) → Int
  | 0, _ => 0
  | n + 1, f => S n f + f n
theorem S_congr {f g : Nat → Int} : ∀ {n : Nat}, (∀ i < n, f i = g i) → S n f = S n g
  | 0, _ => rfl
  | n + 1, h => by rw [S, S, S_congr fun i hi => h i (by omega), h n (by omega)]
theorem S_add (f g : Nat → Int) : ∀ n, S n (fun i => f i + g i) = S n f + S n g
  | 0 => rfl
  | n + 1 => by rw [S, S, S, S_add f g n]; omega
theorem S_mul (a : Int) (f : Nat → Int) : ∀ n, S n (fun i => a * f i) = a * S n f
  | 0 => by rw [S, S, Int.mul_zero]
  | n + 1 => by rw [S, S, S_mul a f n, Int.mul_add]
theorem S_zero : ∀ n, S n (fun _ => 0) = 0
  | 0 => rfl
  | n + 1 => by rw [S, S_zero n]; rfl
theorem S_const (c : Int) : ∀ n : Nat, S n (fun _ => c) = n * c
  | 0 => by simp [S]
  | n + 1 => by rw [S, S_const c n, Int.natCast_add, Int.add_mul]; simp
theorem S_swap (f : Nat → Nat → Int) (m : Nat) : ∀ n, S m (fun i => S n (fun j => f i j)) = S n (fun j => S m (fun i => f i j))
  | 0 => S_zero m
  | n + 1 => by
    rw [S, ← S_swap f m n, ← S_add]
    rfl
theorem S_head (f : Nat → Int) : ∀ n, S (n + 1) f = f 0 + S n (fun i => f (i + 1))
  | 0 => by simp [S]
  | n + 1 => by rw [S, S_head f n, S, Int.add_assoc]
theorem S_rev (f : Nat → Int) : ∀ n, S n (fun i => f (n - 1 - i)) = S n f
  | 0 => rfl
  | n + 1 => by
    rw [S_head]
    have e : S n (fun i => f (n + 1 - 1 - (i + 1))) = S n (fun i => f (n - 1 - i)) := S_congr fun i _ => by congr 1; omega
    rw [e, S_rev f n, S]
    show f n + S n f = _
    omega
theorem S_at (k : Int) : ∀ n : Nat, S n (fun i => if (i : Int) = k then 1 else 0) = if 0 ≤ k ∧ k < n then 1 else 0
  | 0 => by rw [S, if_neg (by omega)]
  | n + 1 => by
    rw [S, S_at k n]
    by_cases h : (n : Int) = k
    · rw [if_pos h, if_neg (by omega), if_pos (by omega)]; rfl
    · rw [if_neg h]
      by_cases h2 : 0 ≤ k ∧ k < n
      · rw [if_pos h2, if_pos (by omega)]; rfl
      · rw [if_neg h2, if_neg (by omega)]; rfl
theorem S_le {f g : Nat → Int} : ∀ {n : Nat}, (∀ i < n, f i ≤ g i) → S n f ≤ S n g
  | 0, _ => Int.le_refl _
  | n + 1, h => by
    have h1 := S_le (f := f) (g := g) (n := n) fun i hi => h i (by omega)
    have h2 := h n (by omega)
    rw [S, S]; omega
theorem S_one (g : Int) (k : Int) (n : Nat) : S n (fun i => if (i : Int) = k then g else 0) = if 0 ≤ k ∧ k < n then g else 0 := by
  have h := S_at k n
  have e : S n (fun i => if (i : Int) = k then g else 0) = g * S n (fun i => if (i : Int) = k then 1 else 0) := by
    rw [← S_mul]
    refine S_congr fun i _ => ?_
    split <;> simp
  rw [e, h]
  split <;> simp
theorem normalG (p : Int) (hp : 0 < p) (ps : List (Int × Int)) (hl : ps.length ≤ 900000) (o : OV) (d : D) (ho : o.frz = some d) (hd : itemsD d = some (prs ps)) : f_l_normal [.fz (.int p), o] = some (.fz (.tuple (prs (normT p ps))), [some (.fz (.int p)), some (.fz d)]) := by
  obtain ⟨env', h1, ⟨a3, a4, a5, rfl⟩, _⟩ := loop_fold (g := lg_l_normal_1) (mb := lb_l_normal_1)
    pr (fun i m e => (∃ a3 a4 a5, e = [some (.fz (.int p)), some (.fz d), some (.oD (ek m)), a3, a4, a5]) ∧ m.length ≤ i) (stepN p) ps 0 [] _ ⟨⟨none, none, none, rfl⟩, Nat.le_refl _⟩ (fun j q m e hj he => by
      obtain ⟨⟨a3, a4, a5, rfl⟩, hm⟩ := he
      have hj' : j < ps.length := (List.getElem?_eq_some_iff.mp hj).1
      have hm' : m.length ≤ 16000000 := by omega
      refine ⟨_, [some (.fz (.int p)), some (.fz d), some (.oD (ek (stepN p m q))), a3, some (.fz (.int q.1)), some (.fz (.int q.2))], by simp [lg_l_normal_1, pr]; rfl, ?_, ⟨_, _, _, rfl⟩, by have := putI_len m q.1 (((lkI m q.1).getD 0 + q.2) % p); unfold stepN; omega⟩
      have e1 : (lkD (ek m) (.inl q.1)).getD (.int 0) = .int ((lkI m q.1).getD 0) := by rw [lk_ek]; cases lkI m q.1 <;> rfl
      simp [lb_l_normal_1, hp, e1, len_ek, hm', put_ek, stepN])
  have hm : (normM p ps).length ≤ ps.length := normM_len p ps
  have hkl := kept_len (normM p ps)
  have hc := cmp_if (vs := [4]) (g := cg_l_normal_2) (t := ct_l_normal_2) (m := cm_l_normal_2) (e := [some (.fz (.int p)), some (.fz d), some (.oD (ek (normM p ps))), a3, none, a5])
    PyData.int (fun x => !decide (valM (normM p ps) x = 0)) PyData.int (sortI ((normM p ps).map (·.1))) [] (fun x hx => by
      obtain ⟨v, hv⟩ := lkI_some (mem_sortI.mp hx)
      have hv2 : valM (normM p ps) x = v := by unfold valM; rw [hv]; rfl
      rw [hv2]
      refine ⟨_, [some (.fz (.int p)), some (.fz d), some (.oD (ek (normM p ps))), a3, some (.fz (.int x)), a5], rfl, ?_, fun _ => rfl, fun _ => ⟨[some (.fz (.int p)), some (.fz d), some (.oD (ek (normM p ps))), a3, some (.fz (.int x)), a5], ?_, rfl⟩⟩
      · simp [ct_l_normal_2, lk_ek, hv]
      · simp [cm_l_normal_2]) (by rw [len_sortI, List.length_map]; show 0 + _ ≤ 16000000; omega)
  have hc3 := cmp_map (vs := [4]) (g := cg_l_normal_3) (m := cm_l_normal_3) (e := [some (.fz (.int p)), some (.fz d), some (.oD (ek (normM p ps))), some (.fz (.list ((kept (normM p ps)).map PyData.int))), none, a5])
    PyData.int (fun x => pr (x, valM (normM p ps) x)) (kept (normM p ps)) [] (fun x hx => by
      obtain ⟨v, hv⟩ := lkI_some (mem_sortI.mp (List.mem_filter.mp hx).1)
      have hv2 : valM (normM p ps) x = v := by unfold valM; rw [hv]; rfl
      refine ⟨_, [some (.fz (.int p)), some (.fz d), some (.oD (ek (normM p ps))), some (.fz (.list ((kept (normM p ps)).map PyData.int))), some (.fz (.int x)), a5], rfl, ?_, rfl⟩
      rw [hv2]
      simp [cm_l_normal_3, lk_ek, hv, pr]) (by show 0 + _ ≤ 16000000; omega)
  have hk : ((sortI ((normM p ps).map (·.1))).filter fun x => !decide (valM (normM p ps) x = 0)) = kept (normM p ps) := rfl
  have hk3 : (kept (normM p ps)).map (fun x => pr (x, valM (normM p ps) x)) = prs (normT p ps) := by simp [normT, prs]
  rw [hk] at hc
  rw [hk3] at hc3
  unfold f_l_normal b_l_normal
  have e0 : ek [] = [] := rfl
  have hN : ps.foldl (stepN p) [] = normM p ps := rfl
  have hP : ps.map pr = prs ps := rfl
  rw [e0, hN, hP] at h1
  simp [ho, hd, h1, sorted_ek, hc, hc3]
theorem normal (p : Int) (hp : 0 < p) (ps : List (Int × Int)) (hl : ps.length ≤ 900000) : f_l_normal [.fz (.int p), .oL (prs ps)] = some (.fz (.tuple (prs (normT p ps))), [some (.fz (.int p)), some (.fz (.list (prs ps)))]) := normalG p hp ps hl _ _ rfl rfl
theorem normalT (p : Int) (hp : 0 < p) (ps : List (Int × Int)) (hl : ps.length ≤ 900000) : f_l_normal [.fz (.int p), .fz (.tuple (prs ps))] = some (.fz (.tuple (prs (normT p ps))), [some (.fz (.int p)), some (.fz (.tuple (prs ps)))]) := normalG p hp ps hl _ _ rfl rfl
theorem rgD_eq (c : Nat) : rgD 0 c = (List.range c).map fun (k : Nat) => PyData.int (k : Int) := by unfold rgD; simp
theorem bits_nat_le {k c : Nat} (h : k ≤ c) : bits (k : Int) ≤ bits (c : Int) := bits_mono (by simpa using h)
theorem mem_ints {d : D} {ns : List Int} (h : d ∈ ns.map PyData.int) : ∃ i, d = .int i ∧ i ∈ ns := by
  obtain ⟨i, hi, rfl⟩ := List.mem_map.mp h
  exact ⟨i, rfl, hi⟩
theorem bits_100 {i : Int} (h1 : -(2 ^ 120) < i) (h2 : i < 2 ^ 120) : bits i ≤ 120 := by
  have e : (2 : Int) ^ 120 < 2 ^ (120 + 1) := by decide +kernel
  exact bits_of (by omega) (by omega)
theorem rgD_get {n j : Nat} {x : D} (h : (rgD 0 n)[j]? = some x) : j < n ∧ x = .int (j : Int) := by
  have hj : j < n := by
    have := (List.getElem?_eq_some_iff.mp h).1
    rwa [rgD, List.length_map, List.length_range] at this
  refine ⟨hj, ?_⟩
  rw [rgD, List.getElem?_map, List.getElem?_range hj] at h
  simp at h
  exact h.symm
/-- an effect -/
def ef (ps : List (Int × Int)) (s : Int) : D := .tuple [.tuple (prs ps), .int s]
def negE (p : Int) (ps : List (Int × Int)) (s : Int) : List (Int × Int) := mov (-s) (normT p (scl (-1) ps))
def thenE (p : Int) (ps : List (Int × Int)) (s : Int) (qs : List (Int × Int)) : List (Int × Int) := normT p (ps ++ mov s qs)
theorem repr_ef {ps : List (Int × Int)} {s : Int} {n k : Nat} (hb : ∀ p ∈ ps, bits p.1 ≤ k ∧ bits p.2 ≤ k) (hs : bits s ≤ k) (hk : k ≤ 1000) (hl : ps.length ≤ n) (hn : n * (2 * k + 13) ≤ 15000000) : fRepr (.fz (ef ps s)) = some (.fz (.str (PyData.shown (ef ps s)))) := by
  have f : (OV.fz (ef ps s)).flat? = some (ef ps s) := flatT (PySem.W.Tup.mk ps, s)
  refine reprT f ?_ ?_ ?_
  · have h1 := show_prs hb (by omega : k < 1900)
    have h2 : s.natAbs.log2 < 1920 := Nat.lt_of_le_of_lt hs (by omega)
    simp [ef, PyData.showable, PyData.showableAll] at h1 ⊢
    exact ⟨h1, h2⟩
  · exact Nat.le_trans (Ty.dle (PySem.W.Tup.mk ps, s)) (by decide)
  · have h1 := sz_prs hb hl hn
    simp only [ef, szD, szAll] at h1 ⊢
    omega
def efE (a : Ef) : D := ef a.1 a.2
theorem eq_ef (a b : Ef) : fEq (.fz (efE a)) (.fz (efE b)) = some (.fz (.bool (decide (a = b)))) := by
  have h := eqT (a := (PySem.W.Tup.mk a.1, a.2)) (b := (PySem.W.Tup.mk b.1, b.2)) (flatT (PySem.W.Tup.mk a.1, a.2)) (flatT (PySem.W.Tup.mk b.1, b.2)) rfl (by decide)
  refine Eq.trans h ?_
  congr 3
  refine decide_eq_decide.mpr ⟨fun e => ?_, fun e => by rw [e]⟩
  have e1 := congrArg (fun q => q.1.items) e
  have e2 := congrArg (fun q => q.2) e
  exact Prod.ext e1 e2
theorem ne_ef (a b : Ef) : fNe (.fz (efE a)) (.fz (efE b)) = some (.fz (.bool (!decide (a = b)))) := by
  have h := neT (a := (PySem.W.Tup.mk a.1, a.2)) (b := (PySem.W.Tup.mk b.1, b.2)) (flatT (PySem.W.Tup.mk a.1, a.2)) (flatT (PySem.W.Tup.mk b.1, b.2)) rfl (by decide)
  refine Eq.trans h ?_
  congr 4
  refine decide_eq_decide.mpr ⟨fun e => ?_, fun e => by rw [e]⟩
  have e1 := congrArg (fun q => q.1.items) e
  have e2 := congrArg (fun q => q.2) e
  exact Prod.ext e1 e2
theorem repr_E {p : Int} {a : Ef} {n : Nat} {w v : Int} (h : EB a n w v) (hn : EN p a) (hp : p ≤ 97) (hw : w < 2 ^ 1000) (hv : v < 2 ^ 1000) (hl : n ≤ 7000) : fRepr (.fz (efE a)) = some (.fz (.str (PyData.shown (efE a)))) := by
  have up : ∀ i : Int, -(2 ^ 1000) < i → i < 2 ^ 1000 → bits i ≤ 1000 := fun i h1 h2 => by
    have e : (2 : Int) ^ 1000 < 2 ^ (1000 + 1) := by decide +kernel
    exact bits_of (by omega) (by omega)
  refine repr_ef (n := 7000) (k := 1000) (fun q hq => ?_) (up _ (by have := h.lo; omega) (by have := h.hi; omega)) (Nat.le_refl _) (Nat.le_trans h.len hl) (by decide)
  have h1 := h.mem q hq
  have h2 := hn.2 q hq
  have c : (97 : Int) < 2 ^ 1000 := by decide +kernel
  exact ⟨up _ (by omega) (by omega), up _ (by omega) (by omega)⟩
theorem ix0E (a : Ef) : fIxA (.fz (efE a)) (.fz (.int 0)) = some (.fz (.tuple (prs a.1))) := by simp [efE, ef]
theorem ix1E (a : Ef) : fIxA (.fz (efE a)) (.fz (.int 1)) = some (.fz (.int a.2)) := by simp [efE, ef]
theorem ne_sameE {a b : Ef} (h : a = b) : fNe (.fz (efE a)) (.fz (efE b)) = some (.fz (.bool false)) := by rw [ne_ef, decide_eq_true h]; rfl
theorem eq_sameE {a b : Ef} (h : a = b) : fEq (.fz (efE a)) (.fz (efE b)) = some (.fz (.bool true)) := by rw [eq_ef, decide_eq_true h]
theorem foldE0 (x : Int) : PyData.tuple [.tuple [], .int x] = efE ([], x) := rfl
theorem foldE (ps : PL) (x : Int) : PyData.tuple [.tuple (prs ps), .int x] = efE (ps, x) := rfl
theorem sum_ (p : Int) (hp : 0 < p) (ps qs : List (Int × Int)) (hl : ps.length + qs.length ≤ 900000) : f_l_sum [.fz (.int p), .fz (.tuple (prs ps)), .fz (.tuple (prs qs))] = some (.fz (.tuple (prs (normT p (ps ++ qs)))), [some (.fz (.int p)), some (.fz (.tuple (prs ps))), some (.fz (.tuple (prs qs)))]) := by
  have hn := normalT p hp (ps ++ qs) (by rw [List.length_append]; exact hl)
  have ha : prs ps ++ prs qs = prs (ps ++ qs) := by simp [prs]
  have hl2 : ps.length + qs.length ≤ 16000000 := by omega
  unfold f_l_sum b_l_sum
  simp [len_prs, hl2, ha, hn]
theorem moved (n : Int) (ps : List (Int × Int)) (hl : ps.length ≤ 900000) : f_l_moved [.fz (.tuple (prs ps)), .fz (.int n)] = some (.fz (.tuple (prs (mov n ps))), [some (.fz (.tuple (prs ps))), some (.fz (.int n))]) := by
  have hc := cmp_map (vs := [3, 4]) (g := cg_l_moved_1) (m := cm_l_moved_1) (e := [some (.fz (.tuple (prs ps))), some (.fz (.int n)), none, none, none]) pr (fun q => pr (q.1 + n, q.2)) ps [] (fun q hq => by
    refine ⟨_, [some (.fz (.tuple (prs ps))), some (.fz (.int n)), none, some (.fz (.int q.1)), some (.fz (.int q.2))], by simp [cg_l_moved_1, pr]; rfl, ?_, rfl⟩
    simp [cm_l_moved_1, pr]) (by show 0 + _ ≤ 16000000; omega)
  have hk : ps.map (fun q => pr (q.1 + n, q.2)) = prs (mov n ps) := by simp [prs, mov]
  have hP : ps.map pr = prs ps := rfl
  rw [hk, hP] at hc
  unfold f_l_moved b_l_moved
  simp [hc]
theorem then_ (p : Int) (hp : 0 < p) (ps qs : List (Int × Int)) (s t : Int) (hl : ps.length + qs.length ≤ 900000) : f_l_then [.fz (.int p), .fz (ef ps s), .fz (ef qs t)] = some (.fz (ef (thenE p ps s qs) (s + t)), [some (.fz (.int p)), some (.fz (ef ps s)), some (.fz (ef qs t))]) := by
  have e1 := moved s qs (by omega)
  have e2 := sum_ p hp ps (mov s qs) (by rw [len_mov]; exact hl)
  unfold f_l_then b_l_then
  simp [ef, e1, e2, thenE]
theorem then_E2 {p : Int} (hp : 0 < p) (a b : Ef) (hl : a.1.length + b.1.length ≤ 900000) : f_l_then [.fz (.int p), .fz (efE a), .fz (efE b)] = some (.fz (efE (cmpE p a b)), [some (.fz (.int p)), some (.fz (efE a)), some (.fz (efE b))]) := then_ p hp a.1 b.1 a.2 b.2 hl
theorem allI_mapL : ∀ ns : List Int, allI (ns.map PyData.int) = some ns
  | [] => rfl
  | n :: ns => by rw [List.map_cons, allI, allI_mapL ns]; rfl
theorem min1_intsL {ns : List Int} {m : Int} (h : minL ns = some m) : fMin1 (.oL (ns.map PyData.int)) = some (.fz (.int m)) := by
  show (match allI (ns.map PyData.int) with | some ns => (minL ns).map fun m => OV.fz (.int m) | none => none) = _
  rw [allI_mapL]
  show (minL ns).map _ = _
  rw [h]; rfl
theorem max1_intsL {ns : List Int} {m : Int} (h : maxL ns = some m) : fMax1 (.oL (ns.map PyData.int)) = some (.fz (.int m)) := by
  show (match allI (ns.map PyData.int) with | some ns => (maxL ns).map fun m => OV.fz (.int m) | none => none) = _
  rw [allI_mapL]
  show (maxL ns).map _ = _
  rw [h]; rfl
theorem sum_intsL (ns : List Int) : fSum (.oL (ns.map PyData.int)) = some (.fz (.int ns.sum)) := by
  show (allI (ns.map PyData.int)).map _ = _
  rw [allI_mapL]; rfl
def walkL (a : Ef) : List Int := 0 :: a.2 :: a.1.map (·.1)
theorem minL_ex (x : Int) (xs : List Int) : ∃ m, minL (x :: xs) = some m := by
  cases h : minL (x :: xs) with
  | none => exact nomatch minL_nil h
  | some m => exact ⟨m, rfl⟩
theorem maxL_ex (x : Int) (xs : List Int) : ∃ m, maxL (x :: xs) = some m := by
  cases h : maxL (x :: xs) with
  | none => exact nomatch maxL_nil h
  | some m => exact ⟨m, rfl⟩
def loE (a : Ef) : Int := (minL (walkL a)).getD 0
def hiE (a : Ef) : Int := (maxL (walkL a)).getD 0
theorem lo_some (a : Ef) : minL (walkL a) = some (loE a) := by
  obtain ⟨m, h⟩ := minL_ex 0 (a.2 :: a.1.map (·.1))
  unfold loE walkL
  rw [h]; rfl
theorem hi_some (a : Ef) : maxL (walkL a) = some (hiE a) := by
  obtain ⟨m, h⟩ := maxL_ex 0 (a.2 :: a.1.map (·.1))
  unfold hiE walkL
  rw [h]; rfl
def costC (p c : Int) : Int := if p - c < c then p - c else c
def sizeE (p : Int) (a : Ef) : Int := 2 * (hiE a - loE a) - (if a.2 < 0 then -a.2 else a.2) + (a.1.map fun q => costC p q.2).sum
theorem turn_cost (p c : Int) : f_p_turn_cost [.fz (.int p), .fz (.int c)] = some (.fz (.int (costC p c)), [some (.fz (.int p)), some (.fz (.int c))]) := by
  unfold f_p_turn_cost b_p_turn_cost costC
  simp
theorem walk_ends (a : Ef) (hl : a.1.length ≤ 900000) : f_p_walk_ends [.fz (efE a)] = some (.fz (.tuple [.int (loE a), .int (hiE a)]), [some (.fz (efE a))]) := by
  have hc := cmp_map (vs := [2, 3]) (g := cg_p_walk_ends_1) (m := cm_p_walk_ends_1) (e := [some (.fz (efE a)), none, none, none]) pr (fun q => PyData.int q.1) a.1 [] (fun q hq => by
    refine ⟨_, [some (.fz (efE a)), none, some (.fz (.int q.1)), some (.fz (.int q.2))], by simp [cg_p_walk_ends_1, pr]; rfl, ?_, rfl⟩
    simp [cm_p_walk_ends_1]) (by show 0 + _ ≤ 16000000; omega)
  have hP : a.1.map pr = prs a.1 := rfl
  rw [hP, List.nil_append] at hc
  have hw : PyData.int 0 :: PyData.int a.2 :: (a.1.map fun q => PyData.int q.1) = (walkL a).map PyData.int := by simp [walkL]
  have hl2 : 2 + a.1.length ≤ 16000000 := by omega
  have m1 := min1_intsL (lo_some a)
  have m2 := max1_intsL (hi_some a)
  unfold f_p_walk_ends b_p_walk_ends
  simp [ix0E, ix1E, hc, hl2, hw, m1, m2]
theorem length_ {p : Int} (a : Ef) (hN : ∀ q ∈ a.1, 0 < q.2 ∧ q.2 < p) (hl : a.1.length ≤ 900000) (hb : bits (hiE a - loE a) < 900000) : f_p_length [.fz (.int p), .fz (efE a)] = some (.fz (.int (sizeE p a)), [some (.fz (.int p)), some (.fz (efE a))]) := by
  have hw := walk_ends a hl
  have hc := cmp_map (vs := [5, 6]) (g := cg_p_length_1) (m := cm_p_length_1) (e := [some (.fz (.int p)), some (.fz (efE a)), none, some (.fz (.int (loE a))), some (.fz (.int (hiE a))), none, none]) pr (fun q => PyData.int (costC p q.2)) a.1 [] (fun q hq => by
    have h := hN q hq
    have hcq := turn_cost p q.2
    refine ⟨_, [some (.fz (.int p)), some (.fz (efE a)), none, some (.fz (.int (loE a))), some (.fz (.int (hiE a))), some (.fz (.int q.1)), some (.fz (.int q.2))], by simp [cg_p_length_1, pr]; rfl, ?_, rfl⟩
    simp [cm_p_length_1, hcq]) (by show 0 + _ ≤ 16000000; omega)
  have hP : a.1.map pr = prs a.1 := rfl
  rw [hP, List.nil_append] at hc
  have hs : (a.1.map fun q => PyData.int (costC p q.2)) = (a.1.map fun q => costC p q.2).map PyData.int := by simp
  rw [hs] at hc
  have hsum := sum_intsL (a.1.map fun q => costC p q.2)
  have h2 : bits 2 + bits (hiE a - loE a) < 1000000 := by
    have : bits 2 ≤ 5 := by decide +kernel
    omega
  unfold f_p_length b_p_length
  simp [hw, ix0E, ix1E, hc, hsum, h2, sizeE, -List.map_map]
/-- costs of the dials in a range -/
theorem cost0 {p : Int} (hp : 0 < p) : costC p 0 = 0 := by unfold costC; split <;> omega
theorem cost_le_half {p c : Int} (hp : 0 < p) : costC p c ≤ p / 2 := by
  unfold costC
  split <;> omega
theorem cost_nn {p c : Int} (h0 : 0 ≤ c) (h1 : c < p) : 0 ≤ costC p c := by unfold costC; split <;> omega
theorem cost_pos {p c : Int} (h0 : 0 < c) (h1 : c < p) : 1 ≤ costC p c := by unfold costC; split <;> omega
theorem cost_tri {p c v : Int} (h0 : 0 ≤ c) (h1 : c < p) (v0 : 0 ≤ v) (v1 : v < p) : costC p ((c + v) % p) ≤ costC p c + costC p v := by
  have hp : 0 < p := by omega
  by_cases h : c + v < p
  · rw [Int.emod_eq_of_lt (by omega) h]
    unfold costC
    split <;> split <;> split <;> omega
  · have e : (c + v) % p = c + v - p := by
      rw [← Int.sub_emod_right, Int.emod_eq_of_lt (by omega) (by omega)]
    rw [e]
    unfold costC
    split <;> split <;> split <;> omega
theorem cost_sum {p : Int} (hp : 0 < p) (L : Int) (n : Nat) : ∀ {f : PL}, Asc f → (∀ q ∈ f, L ≤ q.1 ∧ q.1 < L + n) → (f.map fun q => costC p q.2).sum = S n (fun i => costC p (cf f (L + i)))
  | [], _, _ => by
    rw [List.map_nil, List.sum_nil]
    refine ((S_congr fun i _ => ?_).trans (S_zero n)).symm
    rw [cf_nil, cost0 hp]
  | q :: r, ha, hb => by
    obtain ⟨h1, h2⟩ := List.pairwise_cons.mp ha
    have hq := hb q List.mem_cons_self
    have ih := cost_sum hp L n (f := r) h2 fun x hx => hb x (List.mem_cons_of_mem _ hx)
    have hn : cf r q.1 = 0 := cf_not fun hm => absurd (show q.1 < q.1 from h1 q.1 hm) (Int.lt_irrefl _)
    rw [List.map_cons, List.sum_cons, ih]
    have e : S n (fun i => costC p (cf (q :: r) (L + i))) = S n (fun i => (if (i : Int) = q.1 - L then costC p q.2 else 0) + costC p (cf r (L + i))) := S_congr fun i _ => by
      rw [cf_cons]
      by_cases h : (i : Int) = q.1 - L
      · have h' : L + (i : Int) = q.1 := by omega
        rw [h', if_pos rfl, if_pos h, hn, cost0 hp]; simp
      · rw [if_neg h, if_neg (fun z => h (by omega))]; simp
    rw [e, S_add, S_one, if_pos (by omega)]
/-- the cost of all dials -/
def tcE (p : Int) (f : PL) : Int := (f.map fun q => costC p q.2).sum
theorem rangeOf (f : PL) : ∃ (B : Nat), ∀ q ∈ f, -(B : Int) ≤ q.1 ∧ q.1 ≤ B := by
  induction f with
  | nil => exact ⟨0, fun q hq => nomatch hq⟩
  | cons q r ih =>
    obtain ⟨B, h⟩ := ih
    refine ⟨B + q.1.natAbs, fun x hx => ?_⟩
    rcases List.mem_cons.mp hx with rfl | hx
    · omega
    · have := h x hx; omega
/-- one dial turned -/
theorem tc_turn {p : Int} (hp : 0 < p) {f g : PL} (hf : Nrm p f) (hg : Nrm p g) (pl v : Int) (h : ∀ x, cf g x = (cf f x + if pl = x then v else 0) % p) :
    tcE p g = tcE p f + costC p ((cf f pl + v) % p) - costC p (cf f pl) := by
  obtain ⟨B, hB⟩ := rangeOf f
  obtain ⟨C, hC⟩ := rangeOf g
  have r1 := cost_sum hp (-((B + C + pl.natAbs : Nat) : Int)) (2 * (B + C + pl.natAbs) + 1) hf.1 fun q hq => by have := hB q hq; omega
  have r2 := cost_sum hp (-((B + C + pl.natAbs : Nat) : Int)) (2 * (B + C + pl.natAbs) + 1) hg.1 fun q hq => by have := hC q hq; omega
  unfold tcE
  rw [r1, r2]
  generalize hN : 2 * (B + C + pl.natAbs) + 1 = N
  generalize hL : -((B + C + pl.natAbs : Nat) : Int) = L
  have e : S N (fun i => costC p (cf g (L + i))) = S N (fun i => costC p (cf f (L + i)) + (if (i : Int) = pl - L then costC p ((cf f pl + v) % p) - costC p (cf f pl) else 0)) := S_congr fun i _ => by
    rw [h]
    by_cases hi : (i : Int) = pl - L
    · have h' : L + (i : Int) = pl := by omega
      rw [h', if_pos rfl, if_pos hi]; omega
    · rw [if_neg hi, if_neg (fun z => hi (by omega)), Int.add_zero, Int.add_zero]
      have := cf_rng hf hp (L + i)
      rw [Int.emod_eq_of_lt this.1 this.2]
  rw [e, S_add, S_one, if_pos (by omega)]
  omega
theorem cf_supp {f : PL} {x : Int} (h : cf f x ≠ 0) : x ∈ f.map (·.1) := by
  refine Classical.byContradiction fun z => h (cf_not z)
theorem supp_cf {p : Int} {f : PL} (hf : Nrm p f) {x : Int} (h : x ∈ f.map (·.1)) : cf f x ≠ 0 := by
  obtain ⟨q, hq, rfl⟩ := List.mem_map.mp h
  rw [cf_of_mem hf.1 hq]
  have := hf.2 q hq
  omega
/-- ends of the walk, by what is turned -/
theorem hi_up (a : Ef) : 0 ≤ hiE a ∧ a.2 ≤ hiE a ∧ ∀ x, cf a.1 x ≠ 0 → x ≤ hiE a := by
  have h := (maxL_ok (hi_some a)).2
  unfold walkL at h
  exact ⟨h 0 (by simp), h a.2 (by simp), fun x hx => h x (by have := cf_supp hx; simp only [List.mem_cons]; exact .inr (.inr this))⟩
theorem lo_dn (a : Ef) : loE a ≤ 0 ∧ loE a ≤ a.2 ∧ ∀ x, cf a.1 x ≠ 0 → loE a ≤ x := by
  have h := (minL_ok (lo_some a)).2
  unfold walkL at h
  exact ⟨h 0 (by simp), h a.2 (by simp), fun x hx => h x (by have := cf_supp hx; simp only [List.mem_cons]; exact .inr (.inr this))⟩
theorem hi_is {p : Int} {a : Ef} (ha : EN p a) : hiE a = 0 ∨ hiE a = a.2 ∨ cf a.1 (hiE a) ≠ 0 := by
  have h := (maxL_ok (hi_some a)).1
  unfold walkL at h
  simp only [List.mem_cons] at h
  rcases h with h | h | h
  · exact .inl h
  · exact .inr (.inl h)
  · exact .inr (.inr (supp_cf ha h))
theorem lo_is {p : Int} {a : Ef} (ha : EN p a) : loE a = 0 ∨ loE a = a.2 ∨ cf a.1 (loE a) ≠ 0 := by
  have h := (minL_ok (lo_some a)).1
  unfold walkL at h
  simp only [List.mem_cons] at h
  rcases h with h | h | h
  · exact .inl h
  · exact .inr (.inl h)
  · exact .inr (.inr (supp_cf ha h))
theorem size_eq (p : Int) (a : Ef) : sizeE p a = 2 * (hiE a - loE a) - (a.2.natAbs : Int) + tcE p a.1 := by
  unfold sizeE tcE
  split <;> omega
/-- a walk to a place, a turn there, a walk to a last place -/
def wordE (p pl v la : Int) : Ef := (normT p [(pl, v)], la)
theorem en_word {p : Int} (hp : 0 < p) (pl v la : Int) : EN p (wordE p pl v la) := nrm_normT hp _
theorem cf_word {p : Int} (a : Ef) (pl v la x : Int) : cf (cmpE p a (wordE p pl v la)).1 x = (cf a.1 x + if a.2 + pl = x then v else 0) % p := by
  rw [cf_cmp]
  show (cf a.1 x + cf (normT p [(pl, v)]) (x - a.2)) % p = _
  rw [cf_normT, em_addr, cf_cons, cf_nil, Int.add_zero]
  by_cases h : a.2 + pl = x
  · rw [if_pos h, if_pos (by show pl = _; omega)]
  · rw [if_neg h, if_neg (by show ¬ pl = _; omega)]
theorem sh_word {p : Int} (a : Ef) (pl v la : Int) : (cmpE p a (wordE p pl v la)).2 = a.2 + la := rfl
def unitsE (p pl v la : Int) : Int := (pl.natAbs : Int) + ((la - pl).natAbs : Int) + costC p (v % p)
theorem tc_word {p : Int} (hp : 0 < p) {a : Ef} (ha : EN p a) (pl v la : Int) :
    tcE p (cmpE p a (wordE p pl v la)).1 = tcE p a.1 + costC p ((cf a.1 (a.2 + pl) + v % p) % p) - costC p (cf a.1 (a.2 + pl)) := by
  have h := tc_turn hp ha (en_cmp hp a (wordE p pl v la)) (a.2 + pl) (v % p) fun x => by
    rw [cf_word]
    by_cases q : a.2 + pl = x
    · rw [if_pos q, if_pos q, em_addr]
    · rw [if_neg q, if_neg q]
  exact h
theorem hi_max {p : Int} {f : PL} (hf : Nrm p f) (s : Int) : hiE (f, s) = max (hiE (f, 0)) s := by
  have u := hi_up (f, s)
  have v := hi_up (f, 0)
  have a := hi_is (p := p) (a := (f, s)) hf
  have b := hi_is (p := p) (a := (f, 0)) hf
  simp only at u v a b
  have h1 : hiE (f, s) ≤ max (hiE (f, 0)) s := by
    rcases a with q | q | q
    · omega
    · omega
    · have := v.2.2 _ q; omega
  have h2 : hiE (f, 0) ≤ hiE (f, s) := by
    rcases b with q | q | q
    · omega
    · omega
    · exact u.2.2 _ q
  omega
theorem lo_min {p : Int} {f : PL} (hf : Nrm p f) (s : Int) : loE (f, s) = min (loE (f, 0)) s := by
  have u := lo_dn (f, s)
  have v := lo_dn (f, 0)
  have a := lo_is (p := p) (a := (f, s)) hf
  have b := lo_is (p := p) (a := (f, 0)) hf
  simp only at u v a b
  have h1 : min (loE (f, 0)) s ≤ loE (f, s) := by
    rcases a with q | q | q
    · omega
    · omega
    · have := v.2.2 _ q; omega
  have h2 : loE (f, s) ≤ loE (f, 0) := by
    rcases b with q | q | q
    · omega
    · omega
    · exact u.2.2 _ q
  omega
/-- steps alone -/
theorem size_f {p : Int} {f : PL} (hf : Nrm p f) (s : Int) : sizeE p (f, s) = 2 * (max (hiE (f, 0)) s - min (loE (f, 0)) s) - (s.natAbs : Int) + tcE p f := by
  rw [size_eq, hi_max hf, lo_min hf]
/-- the effect of a program -/
def effP (p : Int) (ps : List Pg) : Ef := (normT p (tnL ps), shL ps)
theorem en_effP {p : Int} (hp : 0 < p) (ps : List Pg) : EN p (effP p ps) := nrm_normT hp _
theorem effP_len (p : Int) (ps : List Pg) : (effP p ps).1.length ≤ exL ps := Nat.le_trans (normT_len p _) (lenL ps)
theorem effP_app {p : Int} (hp : 0 < p) (ps qs : List Pg) : effP p (ps ++ qs) = cmpE p (effP p ps) (effP p qs) := by
  refine ef_eq hp (en_effP hp _) (en_cmp hp _ _) (fun x => ?_) (shL_app ps qs)
  rw [cf_cmp, emm]
  show cf (normT p (tnL (ps ++ qs))) x % p = (cf (normT p (tnL ps)) x + cf (normT p (tnL qs)) (x - shL ps)) % p
  rw [cf_normT, cf_normT, cf_normT, emm, em_add, tnL_app, cf_app, cf_mov]
/-- lengths of two effects together, of inverses, of units -/
theorem tc_mov (p s : Int) (f : PL) : tcE p (mov s f) = tcE p f := by
  unfold tcE mov
  rw [List.map_map]; rfl
theorem cost_mod {p : Int} (hp : 0 < p) (a b : Int) : costC p ((a + b) % p) ≤ costC p (a % p) + costC p (b % p) := by
  have := cost_tri (Int.emod_nonneg a (by omega)) (Int.emod_lt_of_pos a hp) (Int.emod_nonneg b (by omega)) (Int.emod_lt_of_pos b hp)
  rwa [← Int.add_emod] at this
theorem tc_cf {p : Int} (hp : 0 < p) {f g h : PL} (hf : Nrm p f) (hg : Nrm p g) (hh : Nrm p h) (k : ∀ x, cf h x = (cf f x + cf g x) % p) : tcE p h ≤ tcE p f + tcE p g := by
  obtain ⟨A, hA⟩ := rangeOf f
  obtain ⟨B, hB⟩ := rangeOf g
  obtain ⟨C, hC⟩ := rangeOf h
  have r1 := cost_sum hp (-((A + B + C : Nat) : Int)) (2 * (A + B + C) + 1) hf.1 fun q hq => by have := hA q hq; omega
  have r2 := cost_sum hp (-((A + B + C : Nat) : Int)) (2 * (A + B + C) + 1) hg.1 fun q hq => by have := hB q hq; omega
  have r3 := cost_sum hp (-((A + B + C : Nat) : Int)) (2 * (A + B + C) + 1) hh.1 fun q hq => by have := hC q hq; omega
  unfold tcE
  rw [r1, r2, r3, ← S_add]
  refine S_le fun i _ => ?_
  rw [k]
  have h1 := cf_rng hf hp (-((A + B + C : Nat) : Int) + i)
  have h2 := cf_rng hg hp (-((A + B + C : Nat) : Int) + i)
  exact cost_tri h1.1 h1.2 h2.1 h2.2
theorem nrm_mov {p : Int} (s : Int) {f : PL} (hf : Nrm p f) : Nrm p (mov s f) := by
  refine ⟨?_, fun q hq => ?_⟩
  · unfold mov Asc
    rw [List.map_map, List.pairwise_map]
    have := hf.1
    unfold Asc at this
    rw [List.pairwise_map] at this
    exact this.imp fun z => by show _ + s < _ + s; omega
  · obtain ⟨r, hr, rfl⟩ := List.mem_map.mp hq
    exact hf.2 r hr
theorem tc_cmp {p : Int} (hp : 0 < p) {a b : Ef} (ha : EN p a) (hb : EN p b) : tcE p (cmpE p a b).1 ≤ tcE p a.1 + tcE p b.1 := by
  rw [← tc_mov p a.2 b.1]
  refine tc_cf hp ha (nrm_mov a.2 hb) (en_cmp hp a b) fun x => ?_
  rw [cf_cmp, cf_mov]
theorem tc_nn {p : Int} {f : PL} (hf : Nrm p f) : 0 ≤ tcE p f := by
  unfold tcE
  have h := hf.2
  clear hf
  induction f with
  | nil => exact Int.le_refl _
  | cons q r ih =>
    rw [List.map_cons, List.sum_cons]
    have h1 := h q List.mem_cons_self
    have := cost_pos h1.1 h1.2
    have := ih fun x hx => h x (List.mem_cons_of_mem _ hx)
    omega
theorem tc_zero {p : Int} {f : PL} (hf : Nrm p f) (h0 : tcE p f = 0) : f = [] := by
  cases f with
  | nil => rfl
  | cons q r =>
    have h1 := hf.2 q List.mem_cons_self
    have h2 := cost_pos h1.1 h1.2
    have h3 : 0 ≤ tcE p r := tc_nn ⟨(List.pairwise_cons.mp hf.1).2, fun x hx => hf.2 x (List.mem_cons_of_mem _ hx)⟩
    unfold tcE at h0 h3
    rw [List.map_cons, List.sum_cons] at h0
    omega
theorem size_cmp {p : Int} (hp : 0 < p) {a b : Ef} (ha : EN p a) (hb : EN p b) : sizeE p (cmpE p a b) ≤ sizeE p a + sizeE p b := by
  have t := tc_cmp hp ha hb
  have hs : (cmpE p a b).2 = a.2 + b.2 := rfl
  have sup : ∀ x, cf (cmpE p a b).1 x ≠ 0 → cf a.1 x ≠ 0 ∨ cf b.1 (x - a.2) ≠ 0 := fun x hx => by
    rw [cf_cmp] at hx
    by_cases z : cf a.1 x = 0
    · right; intro w; exact hx (by rw [z, w]; simp)
    · exact .inl z
  obtain ⟨a1, a2, a3⟩ := hi_up a
  obtain ⟨a4, a5, a6⟩ := lo_dn a
  obtain ⟨b1, b2, b3⟩ := hi_up b
  obtain ⟨b4, b5, b6⟩ := lo_dn b
  have ec := en_cmp hp a b
  have hh : hiE (cmpE p a b) ≤ hiE a ∨ hiE (cmpE p a b) ≤ a.2 + hiE b := by
    rcases hi_is ec with q | q | q
    · left; omega
    · right; rw [hs] at q; omega
    · rcases sup _ q with z | z
      · left; exact a3 _ z
      · right; have := b3 _ z; omega
  have hl : loE a ≤ loE (cmpE p a b) ∨ a.2 + loE b ≤ loE (cmpE p a b) := by
    rcases lo_is ec with q | q | q
    · left; omega
    · right; rw [hs] at q; omega
    · rcases sup _ q with z | z
      · left; exact a6 _ z
      · right; have := b6 _ z; omega
  rw [size_eq, size_eq, size_eq, hs]
  omega
theorem size_nn {p : Int} {a : Ef} (ha : EN p a) : 0 ≤ sizeE p a ∧ (a.2.natAbs : Int) ≤ sizeE p a ∧ tcE p a.1 ≤ sizeE p a := by
  obtain ⟨a1, a2, _⟩ := hi_up a
  obtain ⟨a4, a5, _⟩ := lo_dn a
  have := tc_nn ha
  rw [size_eq]; omega
theorem size_id (p : Int) : sizeE p ([], 0) = 0 := by
  have h1 : hiE ([], 0) = 0 := rfl
  have h2 : loE ([], 0) = 0 := rfl
  rw [size_eq, h1, h2]; rfl
theorem size_zero {p : Int} {a : Ef} (ha : EN p a) : sizeE p a = 0 ↔ a = ([], 0) := by
  refine ⟨fun h => ?_, fun h => by rw [h, size_id]⟩
  obtain ⟨h1, h2, h3⟩ := size_nn ha
  have t := tc_nn ha
  have e1 := tc_zero ha (show tcE p a.1 = 0 by omega)
  have e2 : a.2 = 0 := by omega
  exact Prod.ext e1 e2
theorem size_st (p c : Int) : sizeE p ([], c) = c.natAbs := by
  have h0 : Nrm p [] := ⟨List.Pairwise.nil, fun q hq => nomatch hq⟩
  have h1 : hiE (([], 0) : Ef) = 0 := rfl
  have h2 : loE (([], 0) : Ef) = 0 := rfl
  rw [size_f h0, h1, h2]
  show _ + 0 = _
  omega
theorem cost_abs {p : Int} (hp : 0 < p) (c : Int) : costC p (c % p) ≤ c.natAbs := by
  have h0 := Int.emod_nonneg c (show p ≠ 0 by omega)
  have h1 := Int.emod_lt_of_pos c hp
  have e := Int.emod_add_mul_ediv c p
  unfold costC
  by_cases hc : 0 ≤ c
  · have : 0 ≤ p * (c / p) := Int.mul_nonneg (by omega) (Int.ediv_nonneg hc (by omega))
    split <;> omega
  · have d : c / p ≤ -1 := by
      have : c / p < 0 := Int.ediv_neg_of_neg_of_pos (by omega) hp
      omega
    have : p * (c / p) ≤ p * (-1) := Int.mul_le_mul_of_nonneg_left d (by omega)
    split <;> omega
theorem size_tu {p : Int} (hp : 0 < p) (c : Int) : sizeE p (normT p [(0, c)], 0) = costC p (c % p) := by
  have hn : Nrm p (normT p [(0, c)]) := nrm_normT hp _
  have e : EN p (normT p [(0, c)], 0) := hn
  have z : ∀ x, cf (normT p [(0, c)]) x ≠ 0 → x = 0 := fun x hx => by
    rw [cf_normT, cf_cons, cf_nil] at hx
    refine Classical.byContradiction fun w => hx ?_
    rw [if_neg (fun q => w q.symm)]
    simp
  have h1 : hiE (normT p [(0, c)], 0) = 0 := by
    rcases hi_is e with q | q | q
    · exact q
    · exact q
    · exact z _ q
  have h2 : loE (normT p [(0, c)], 0) = 0 := by
    rcases lo_is e with q | q | q
    · exact q
    · exact q
    · exact z _ q
  rw [size_eq, h1, h2]
  have n0 : Nrm p [] := ⟨List.Pairwise.nil, fun q hq => nomatch hq⟩
  have t := tc_turn hp n0 hn 0 (c % p) fun x => by
    rw [cf_normT, cf_cons, cf_nil]
    show ((if 0 = x then c else 0) + 0) % p = (0 + _) % p
    by_cases q : 0 = x
    · rw [if_pos q, if_pos q, Int.add_zero, Int.zero_add, Int.emod_emod_of_dvd _ (Int.dvd_refl p)]
    · rw [if_neg q, if_neg q]
  show _ + tcE p (normT p [(0, c)]) = _
  rw [t, cf_nil, cost0 hp, Int.zero_add, Int.emod_emod_of_dvd _ (Int.dvd_refl p)]
  show 2 * (0 - 0) - 0 + (0 + _ - 0) = _
  omega
theorem cost_neg {p : Int} {c : Int} (h0 : 0 ≤ c) (h1 : c < p) : costC p ((-c) % p) = costC p c := by
  by_cases z : c = 0
  · subst z; simp
  · have : (-c) % p = p - c := by
      rw [← Int.add_emod_right, Int.emod_eq_of_lt (by omega) (by omega)]; omega
    rw [this]
    unfold costC
    split <;> split <;> omega
theorem tc_inv {p : Int} (hp : 0 < p) {a : Ef} (ha : EN p a) : tcE p (invE p a).1 = tcE p a.1 := by
  rw [← tc_mov p a.2 (invE p a).1]
  have hn := nrm_mov a.2 (en_inv hp a)
  obtain ⟨A, hA⟩ := rangeOf a.1
  obtain ⟨B, hB⟩ := rangeOf (mov a.2 (invE p a).1)
  have r1 := cost_sum hp (-((A + B : Nat) : Int)) (2 * (A + B) + 1) ha.1 fun q hq => by have := hA q hq; omega
  have r2 := cost_sum hp (-((A + B : Nat) : Int)) (2 * (A + B) + 1) hn.1 fun q hq => by have := hB q hq; omega
  unfold tcE
  rw [r1, r2]
  refine S_congr fun i _ => ?_
  rw [cf_mov, cf_inv]
  have h1 := cf_rng ha hp (-((A + B : Nat) : Int) + i)
  rw [show -((A + B : Nat) : Int) + (i : Int) - a.2 + a.2 = -((A + B : Nat) : Int) + i by omega]
  exact cost_neg h1.1 h1.2
theorem size_inv_le {p : Int} (hp : 0 < p) {a : Ef} (ha : EN p a) : sizeE p (invE p a) ≤ sizeE p a := by
  have hs : (invE p a).2 = -a.2 := rfl
  have sup : ∀ x, cf (invE p a).1 x ≠ 0 → cf a.1 (x + a.2) ≠ 0 := fun x hx w => hx (by rw [cf_inv, w]; simp)
  obtain ⟨a1, a2, a3⟩ := hi_up a
  obtain ⟨a4, a5, a6⟩ := lo_dn a
  have ei := en_inv hp a
  have hh : hiE (invE p a) ≤ hiE a - a.2 := by
    rcases hi_is ei with q | q | q
    · omega
    · omega
    · have := a3 _ (sup _ q); omega
  have hl : loE a - a.2 ≤ loE (invE p a) := by
    rcases lo_is ei with q | q | q
    · omega
    · omega
    · have := a6 _ (sup _ q); omega
  have := tc_inv hp ha
  rw [size_eq, size_eq, hs]
  omega
theorem size_inv {p : Int} (hp : 0 < p) {a : Ef} (ha : EN p a) : sizeE p (invE p a) = sizeE p a := by
  have h1 := size_inv_le hp ha
  have h2 := size_inv_le hp (en_inv hp a)
  have e : invE p (invE p a) = a := inv_inv hp ha
  rw [e] at h2
  omega
/-- a step changes the length by one, a unit turn by at most one -/
theorem size_step {p : Int} (hp : 0 < p) {a : Ef} (ha : EN p a) {s : Int} (hs : s = 1 ∨ s = -1) : sizeE p (cmpE p a ([], s)) - sizeE p a = 1 ∨ sizeE p (cmpE p a ([], s)) - sizeE p a = -1 := by
  have e : cmpE p a ([], s) = (a.1, a.2 + s) := by
    refine ef_eq hp (en_cmp hp _ _) ha (fun x => ?_) rfl
    rw [cf_cmp]
    show (cf a.1 x + 0) % p % p = _
    rw [Int.add_zero, Int.emod_emod_of_dvd _ (Int.dvd_refl p)]
  have f : sizeE p a = sizeE p (a.1, a.2) := rfl
  rw [e, f, size_f ha, size_f ha]
  have h1 : 0 ≤ hiE (a.1, 0) := (hi_up (a.1, 0)).1
  have h2 : loE (a.1, 0) ≤ 0 := (lo_dn (a.1, 0)).1
  omega
theorem size_turn {p : Int} (hp : 0 < p) {a b : Ef} (ha : EN p a) (hb : EN p b) (h1 : sizeE p b ≤ 1) : -1 ≤ sizeE p (cmpE p a b) - sizeE p a ∧ sizeE p (cmpE p a b) - sizeE p a ≤ 1 := by
  have u1 := size_cmp hp ha hb
  have u2 := size_cmp hp (en_cmp hp a b) (en_inv hp b)
  have e : cmpE p (cmpE p a b) (invE p b) = a := by rw [cmp_assoc hp, cmp_inv_r hp, cmp_id_r hp ha]
  rw [e, size_inv hp hb] at u2
  omega
/-- the units of a program without repeats -/
def Pg.un : Pg → Nat
  | .st c => c.natAbs
  | .tu c => c.natAbs
  | .re _ _ => 0
def unL : List Pg → Nat
  | [] => 0
  | p :: ps => p.un + unL ps
def flatL (ps : List Pg) : Prop := ∀ q ∈ ps, ∀ c b, q ≠ .re c b
theorem normT_nil (p : Int) : normT p [] = [] := List.length_eq_zero_iff.mp (Nat.le_zero.mp (normT_len p []))
theorem size_units {p : Int} (hp : 0 < p) : ∀ {ps : List Pg}, flatL ps → sizeE p (effP p ps) ≤ unL ps
  | [], _ => by
    have : effP p [] = ([], 0) := by show (normT p [], (0 : Int)) = _; rw [normT_nil]
    rw [this, size_id]; exact Int.le_refl _
  | q :: ps, h => by
    have ih := size_units hp (ps := ps) fun r hr => h r (List.mem_cons_of_mem _ hr)
    have e : effP p (q :: ps) = cmpE p (effP p [q]) (effP p ps) := effP_app hp [q] ps
    have u := size_cmp hp (en_effP hp [q]) (en_effP hp ps)
    rw [e, unL]
    have k : sizeE p (effP p [q]) ≤ q.un := by
      cases q with
      | st c =>
        have : effP p [.st c] = ([], c) := by show (normT p [], c + 0) = _; rw [Int.add_zero, normT_nil]
        rw [this, size_st]; exact Int.le_refl _
      | tu c =>
        have : effP p [.tu c] = (normT p [(0, c)], 0) := rfl
        rw [this, size_tu hp]
        exact cost_abs hp c
      | re c b => exact absurd rfl (h _ List.mem_cons_self c b)
    omega
/-- one statement at a time -/
theorem seq_nx {a b : MS} {e e' : G.Env} {r : Option Out} (h : a e = some (.nx e')) (h2 : b e' = r) : mSeq a b e = r := by rw [e_seq, h]; exact h2
theorem valM_lk (m : PL) (x : Int) : (lkI m x).getD 0 = valM m x := rfl
theorem getD_ek (m : PL) (x : Int) : (lkD (ek m) (.inl x)).getD (.int 0) = .int (valM m x) := by rw [lk_ek]; unfold valM; cases lkI m x <;> rfl
/-- unit instructions -/
def unitD (q : Int × Int) : D := .tuple [.str (if q.1 = 0 then "step" else "turn"), .int q.2]
def unitP (q : Int × Int) : Pg := if q.1 = 0 then .st q.2 else .tu q.2
/-- (0, s) is a step, (1, s) a turn -/
def isU (q : Int × Int) : Prop := (q.1 = 0 ∨ q.1 = 1) ∧ (q.2 = 1 ∨ q.2 = -1)
def UW (us : PL) : Prop := ∀ q ∈ us, isU q
def wrdP (us : PL) : List Pg := us.map unitP
theorem UW.app {a b : PL} (ha : UW a) (hb : UW b) : UW (a ++ b) := fun q hq => by
  rcases List.mem_append.mp hq with h | h
  · exact ha q h
  · exact hb q h
theorem repr_u {d : D} {s : Str} (hf : (OV.fz d).flat? = some d) (h : d.showable = true ∧ d.depth ≤ 60 ∧ szD d ≤ 16000000 ∧ d.shown = s) : fRepr (.fz d) = some (.fz (.str s)) := by
  rw [reprT hf h.1 h.2.1 h.2.2.1, h.2.2.2]
theorem unit_repr {q : Int × Int} (h : isU q) : ∃ s, fRepr (.fz (unitD q)) = some (.fz (.str s)) ∧ (s = "('step', 1)" ∨ s = "('step', -1)" ∨ s = "('turn', 1)" ∨ s = "('turn', -1)") := by
  obtain ⟨h1, h2⟩ := h
  obtain ⟨a, b⟩ := q
  simp only at h1 h2
  rcases h1 with rfl | rfl <;> rcases h2 with rfl | rfl
  · exact ⟨_, repr_u rfl (by decide +kernel), .inl rfl⟩
  · exact ⟨_, repr_u rfl (by decide +kernel), .inr (.inl rfl)⟩
  · exact ⟨_, repr_u rfl (by decide +kernel), .inr (.inr (.inl rfl))⟩
  · exact ⟨_, repr_u rfl (by decide +kernel), .inr (.inr (.inr rfl))⟩
theorem unit_in {s : Str} (h : s = "('step', 1)" ∨ s = "('step', -1)" ∨ s = "('turn', 1)" ∨ s = "('turn', -1)") : fNotIn (.fz (.str s)) (.oL [.str "('step', 1)", .str "('step', -1)", .str "('turn', 1)", .str "('turn', -1)"]) = some (.fz (.bool false)) := by
  rcases h with rfl | rfl | rfl | rfl <;> rfl
/-- a dict that holds sums of terms, not reduced -/
def DI (m T : PL) : Prop := (m.map (·.1)).Nodup ∧ ∀ y, valM m y = cf T y
theorem DI.put {m T : PL} (h : DI m T) (x v : Int) : DI (putI m x (valM m x + v)) (T ++ [(x, v)]) := by
  refine ⟨nodup_put h.1 x _, fun y => ?_⟩
  rw [valM_put, cf_app, cf_cons, cf_nil, Int.add_zero, ← h.2 y]
  by_cases e : x = y
  · subst e; simp
  · rw [if_neg e, if_neg e, Int.add_zero]
theorem unit_loop {p : D} {P : List D} : ∀ (us : PL), UW us → ∀ (m T : PL) (h : Int) (x2 : Option OV), DI m T → m.length + us.length ≤ 1000000 →
    ∃ m' y2, mLoopC 1 P lg_l_unit_effect_1 lb_l_unit_effect_1 (us.map unitD) [some (.fz p), some (.oL P), x2, some (.oD (ek m)), some (.fz (.int h))] =
      some (.nx [some (.fz p), some (.oL P), y2, some (.oD (ek m')), some (.fz (.int (h + shL (wrdP us))))]) ∧ DI m' (T ++ mov h (tnL (wrdP us))) ∧ m'.length ≤ m.length + us.length
  | [], _, m, T, h, x2, hd, _ => ⟨m, x2, by simp [wrdP, shL, loopC_nil], by simpa [wrdP, tnL, mov] using hd, by simp⟩
  | q :: us, hu, m, T, h, x2, hd, hl => by
    rw [List.length_cons] at hl
    have hq := hu q List.mem_cons_self
    have hus : UW us := fun r hr => hu r (List.mem_cons_of_mem _ hr)
    obtain ⟨s, e1, e2⟩ := unit_repr hq
    have e9 := unit_in e2
    have ew : wrdP (q :: us) = unitP q :: wrdP us := rfl
    rcases hq.1 with h0 | h0
    · obtain ⟨m', y2, g1, g2, g3⟩ := unit_loop (p := p) (P := P) us hus m T (h + q.2) (some (.fz (unitD q))) hd (by omega)
      have ep : unitP q = .st q.2 := by unfold unitP; rw [if_pos h0]
      have eD : unitD q = .tuple [.str "step", .int q.2] := by unfold unitD; rw [if_pos h0]
      refine ⟨m', y2, ?_, ?_, by rw [List.length_cons]; omega⟩
      · have e3 : h + shL (wrdP (q :: us)) = h + q.2 + shL (wrdP us) := by rw [ew, shL, ep, Pg.sh, Int.add_assoc]
        rw [e3]
        refine (loopC_cons (g := lg_l_unit_effect_1) (by simp [lg_l_unit_effect_1]; rfl) ?_ rfl).trans g1
        rw [eD] at e1 ⊢
        simp [lb_l_unit_effect_1, e1, e9]; first | done | rfl
      · rw [ew, tnL, ep, Pg.tn, Pg.sh, List.nil_append, mov_mov, Int.add_comm]; exact g2
    · have hk := putI_len m h (valM m h + q.2)
      have eg := getD_ek m h
      have hq1 : m.length ≤ 16000000 := by omega
      obtain ⟨m', y2, g1, g2, g3⟩ := unit_loop (p := p) (P := P) us hus (putI m h (valM m h + q.2)) (T ++ [(h, q.2)]) h (some (.fz (unitD q))) (hd.put h q.2) (by omega)
      have h01 : ¬ q.1 = 0 := by omega
      have ep : unitP q = .tu q.2 := by unfold unitP; rw [if_neg h01]
      have eD : unitD q = .tuple [.str "turn", .int q.2] := by unfold unitD; rw [if_neg h01]
      refine ⟨m', y2, ?_, ?_, by rw [List.length_cons]; omega⟩
      · have e3 : h + shL (wrdP (q :: us)) = h + shL (wrdP us) := by rw [ew, shL, ep, Pg.sh, Int.zero_add]
        rw [e3]
        refine (loopC_cons (g := lg_l_unit_effect_1) (by simp [lg_l_unit_effect_1]; rfl) ?_ rfl).trans g1
        rw [eD] at e1 ⊢
        simp [lb_l_unit_effect_1, e1, e9, eg, hq1, len_ek, put_ek]; first | done | rfl
      · rw [ew, tnL, ep, Pg.tn, Pg.sh, mov_app, mov_zero]
        rw [List.append_assoc] at g2
        simpa [mov] using g2
theorem unit_effect {p : Int} (hp : 0 < p) {us : PL} (hu : UW us) (hl : us.length ≤ 500000) :
    f_l_unit_effect [.fz (.int p), .oL (us.map unitD)] = some (.fz (efE (effP p (wrdP us))), [some (.fz (.int p)), some (.oL (us.map unitD))]) := by
  obtain ⟨m, y2, h1, h2, h3⟩ := unit_loop (p := .int p) (P := us.map unitD) us hu [] [] 0 none ⟨List.nodup_nil, fun y => rfl⟩ (by simpa using (show us.length ≤ 1000000 by omega))
  rw [mov_zero, List.nil_append] at h2
  rw [Int.zero_add] at h1
  have e2 := normal p hp m (by have : ([] : PL).length = 0 := rfl; omega)
  have e3 : normT p m = normT p (tnL (wrdP us)) := normT_eq fun x => by rw [cf_dict h2.1, h2.2]
  rw [e3] at e2
  have e4 : ((ek m).map fun kv => PyData.tuple [kD kv.1, kv.2]) = prs m := items_ek m
  have e0 : ek [] = [] := rfl
  rw [e0] at h1
  have hq : us.length ≤ 16000000 := by omega
  unfold f_l_unit_effect b_l_unit_effect
  simp [h1, e4, e2, effP, efE, ef]
/-- shortest words, as unit instructions -/
def stpU (h x : Int) : PL := List.replicate (x - h).natAbs (0, if h < x then 1 else -1)
def trnU (p c : Int) : PL := if 2 * c ≤ p then List.replicate c.toNat (1, 1) else List.replicate (p - c).toNat (1, -1)
def wayU (p : Int) : Int → PL → PL
  | _, [] => []
  | h, q :: V => stpU h q.1 ++ (trnU p q.2 ++ wayU p q.1 V)
def endU : Int → PL → Int
  | h, [] => h
  | _, q :: V => endU q.1 V
def travU : Int → PL → Nat
  | _, [] => 0
  | h, q :: V => (q.1 - h).natAbs + travU q.1 V
def visV (a : Ef) : PL := ((loE a, 0) :: a.1) ++ [(hiE a, 0)]
def visE (a : Ef) : PL := (if 0 ≤ a.2 then visV a else (visV a).reverse) ++ [(a.2, 0)]
def shortU (p : Int) (a : Ef) : PL := wayU p 0 (visE a)
theorem uw_stp (h x : Int) : UW (stpU h x) := fun q hq => by
  rw [List.eq_of_mem_replicate hq]
  refine ⟨.inl rfl, ?_⟩
  show (if h < x then (1 : Int) else -1) = 1 ∨ _
  by_cases z : h < x
  · rw [if_pos z]; exact .inl rfl
  · rw [if_neg z]; exact .inr rfl
theorem uw_trn (p c : Int) : UW (trnU p c) := fun q hq => by
  unfold trnU at hq
  split at hq
  · rw [List.eq_of_mem_replicate hq]; exact ⟨.inr rfl, .inl rfl⟩
  · rw [List.eq_of_mem_replicate hq]; exact ⟨.inr rfl, .inr rfl⟩
theorem uw_way (p : Int) : ∀ (V : PL) (h : Int), UW (wayU p h V)
  | [], _ => fun q hq => nomatch hq
  | q :: V, h => (uw_stp h q.1).app ((uw_trn p q.2).app (uw_way p V q.1))
theorem wrd_app (a b : PL) : wrdP (a ++ b) = wrdP a ++ wrdP b := List.map_append ..
theorem sh_st (n : Nat) (s : Int) : shL (wrdP (List.replicate n (0, s))) = n * s ∧ tnL (wrdP (List.replicate n (0, s))) = [] := by
  induction n with
  | zero => exact ⟨by rw [Int.natCast_zero, Int.zero_mul]; rfl, rfl⟩
  | succ n ih =>
    have e : wrdP (List.replicate (n + 1) (0, s)) = .st s :: wrdP (List.replicate n (0, s)) := rfl
    rw [e, shL, tnL, ih.1, ih.2, Pg.sh, Pg.tn, Int.natCast_succ, Int.add_mul]
    exact ⟨by omega, rfl⟩
theorem sh_stp (h x : Int) : shL (wrdP (stpU h x)) = x - h ∧ tnL (wrdP (stpU h x)) = [] := by
  unfold stpU
  refine ⟨(sh_st _ _).1.trans ?_, (sh_st _ _).2⟩
  by_cases z : h < x
  · rw [if_pos z]; omega
  · rw [if_neg z]; omega
theorem sh_tu (n : Nat) (s : Int) : shL (wrdP (List.replicate n (1, s))) = 0 ∧ ∀ x, cf (tnL (wrdP (List.replicate n (1, s)))) x = if 0 = x then n * s else 0 := by
  induction n with
  | zero => exact ⟨rfl, fun x => by rw [Int.natCast_zero, Int.zero_mul, ite_self]; rfl⟩
  | succ n ih =>
    have e : wrdP (List.replicate (n + 1) (1, s)) = .tu s :: wrdP (List.replicate n (1, s)) := rfl
    rw [e, shL, tnL, ih.1, Pg.sh, Pg.tn, mov_zero]
    refine ⟨rfl, fun x => ?_⟩
    rw [cf_app, ih.2, cf_cons, cf_nil, Int.natCast_succ, Int.add_mul]
    by_cases z : 0 = x
    · rw [if_pos z, if_pos z, if_pos z]; omega
    · rw [if_neg z, if_neg z, if_neg z]; rfl
theorem sh_trn {p c : Int} (h0 : 0 ≤ c) (h1 : c < p) : shL (wrdP (trnU p c)) = 0 ∧ (∀ x, cf (tnL (wrdP (trnU p c))) x % p = (if 0 = x then c else 0) % p) ∧ ((trnU p c).length : Int) = costC p c := by
  unfold trnU costC
  by_cases z : 2 * c ≤ p
  · rw [if_pos z, if_neg (by omega)]
    refine ⟨(sh_tu _ _).1, fun x => ?_, by rw [List.length_replicate]; omega⟩
    rw [(sh_tu _ _).2]
    congr 2
    omega
  · rw [if_neg z, if_pos (by omega)]
    refine ⟨(sh_tu _ _).1, fun x => ?_, by rw [List.length_replicate]; omega⟩
    rw [(sh_tu _ _).2]
    by_cases w : 0 = x
    · rw [if_pos w, if_pos w]
      have : ((p - c).toNat : Int) * (-1) = c - p := by omega
      rw [this, Int.sub_emod_right]
    · rw [if_neg w, if_neg w]
theorem way_sh {p : Int} : ∀ (V : PL) (h : Int), (∀ q ∈ V, 0 ≤ q.2 ∧ q.2 < p) → shL (wrdP (wayU p h V)) = endU h V - h ∧ (∀ x, cf (tnL (wrdP (wayU p h V))) x % p = cf V (x + h) % p) ∧ ((wayU p h V).length : Int) = travU h V + tcE p V
  | [], h, _ => ⟨by show (0 : Int) = h - h; omega, fun x => rfl, rfl⟩
  | q :: V, h, hV => by
    have hq := hV q List.mem_cons_self
    obtain ⟨i1, i2, i3⟩ := way_sh V q.1 fun r hr => hV r (List.mem_cons_of_mem _ hr)
    obtain ⟨s1, s2⟩ := sh_stp h q.1
    obtain ⟨t1, t2, t3⟩ := sh_trn hq.1 hq.2
    refine ⟨?_, fun x => ?_, ?_⟩
    · rw [wayU, wrd_app, wrd_app, shL_app, shL_app, i1, s1, t1, endU]; omega
    · rw [wayU, wrd_app, wrd_app, tnL_app, tnL_app, s1, s2, t1, mov_zero, List.nil_append, cf_mov, cf_app, Int.add_emod, t2, i2, ← Int.add_emod, cf_cons]
      have e1 : x - (q.1 - h) + q.1 = x + h := by omega
      rw [e1]
      by_cases z : q.1 = x + h
      · rw [if_pos z, if_pos (by omega)]
      · rw [if_neg z, if_neg (by omega)]
    · rw [wayU, List.length_append, List.length_append, travU]
      have e2 : (stpU h q.1).length = (q.1 - h).natAbs := List.length_replicate
      have e3 : tcE p (q :: V) = costC p q.2 + tcE p V := by unfold tcE; rw [List.map_cons, List.sum_cons]
      rw [e2, e3]
      omega
theorem end_app (W : PL) : ∀ (V : PL) (h : Int), endU h (V ++ W) = endU (endU h V) W
  | [], _ => rfl
  | q :: V, h => end_app W V q.1
theorem trav_app (W : PL) : ∀ (V : PL) (h : Int), travU h (V ++ W) = travU h V + travU (endU h V) W
  | [], h => by show travU h W = 0 + travU h W; omega
  | q :: V, h => by rw [List.cons_append, travU, trav_app W V q.1, travU, endU]; omega
theorem trav_up : ∀ (V : PL) (h : Int), (V.map (·.1)).Pairwise (· ≤ ·) → (∀ q ∈ V, h ≤ q.1) → (travU h V : Int) = endU h V - h ∧ h ≤ endU h V
  | [], h, _, _ => by show ((0 : Nat) : Int) = h - h ∧ h ≤ h; omega
  | q :: V, h, hp, hh => by
    rw [List.map_cons, List.pairwise_cons] at hp
    have := hh q List.mem_cons_self
    have ih := trav_up V q.1 hp.2 fun r hr => hp.1 r.1 (List.mem_map_of_mem hr)
    rw [travU, endU]; omega
theorem trav_dn : ∀ (V : PL) (h : Int), (V.map (·.1)).Pairwise (fun a b => b ≤ a) → (∀ q ∈ V, q.1 ≤ h) → (travU h V : Int) = h - endU h V ∧ endU h V ≤ h
  | [], h, _, _ => by show ((0 : Nat) : Int) = h - h ∧ h ≤ h; omega
  | q :: V, h, hp, hh => by
    rw [List.map_cons, List.pairwise_cons] at hp
    have := hh q List.mem_cons_self
    have ih := trav_dn V q.1 hp.2 fun r hr => hp.1 r.1 (List.mem_map_of_mem hr)
    rw [travU, endU]; omega
theorem tc_app (p : Int) (V W : PL) : tcE p (V ++ W) = tcE p V + tcE p W := by
  unfold tcE
  rw [List.map_append, List.sum_append]
theorem tc_rev (p : Int) : ∀ V : PL, tcE p V.reverse = tcE p V
  | [] => rfl
  | q :: V => by
    have e : tcE p (q :: V) = tcE p [q] + tcE p V := tc_app p [q] V
    rw [List.reverse_cons, tc_app, tc_rev p V, e]; omega
theorem cf_rev : ∀ (V : PL) (x : Int), cf V.reverse x = cf V x
  | [], _ => rfl
  | q :: V, x => by
    have e : cf (q :: V) x = cf [q] x + cf V x := cf_app [q] V x
    rw [List.reverse_cons, cf_app, cf_rev V, e]; omega
theorem vis_rng {p : Int} (hp : 0 < p) {a : Ef} (ha : EN p a) : ∀ q ∈ visE a, 0 ≤ q.2 ∧ q.2 < p := fun q hq => by
  have k : ∀ q ∈ visV a, 0 ≤ q.2 ∧ q.2 < p := fun q hq => by
    unfold visV at hq
    simp only [List.mem_append, List.mem_cons, List.not_mem_nil, or_false] at hq
    rcases hq with (rfl | hq) | rfl
    · exact ⟨Int.le_refl _, hp⟩
    · have := ha.2 q hq; omega
    · exact ⟨Int.le_refl _, hp⟩
  unfold visE at hq
  rcases List.mem_append.mp hq with hq | hq
  · split at hq
    · exact k q hq
    · exact k q (List.mem_reverse.mp hq)
  · rw [List.mem_singleton.mp hq]; exact ⟨Int.le_refl _, hp⟩
theorem vis_cf {p : Int} (hp : 0 < p) (a : Ef) (x : Int) : cf (visE a) x = cf a.1 x ∧ tcE p (visE a) = tcE p a.1 ∧ endU 0 (visE a) = a.2 := by
  have z : ∀ y x : Int, cf [(y, 0)] x = 0 := fun y x => by rw [cf_cons, cf_nil]; split <;> rfl
  have zt : ∀ y : Int, tcE p [(y, 0)] = 0 := fun y => by unfold tcE; simp [cost0 hp]
  have k1 : cf (visV a) x = cf a.1 x := by
    have : visV a = [(loE a, 0)] ++ a.1 ++ [(hiE a, 0)] := rfl
    rw [this, cf_app, cf_app, z, z]; omega
  have k2 : tcE p (visV a) = tcE p a.1 := by
    have : visV a = [(loE a, 0)] ++ a.1 ++ [(hiE a, 0)] := rfl
    rw [this, tc_app, tc_app, zt, zt]; omega
  unfold visE
  rw [cf_app, tc_app, end_app, z, zt]
  refine ⟨?_, ?_, rfl⟩
  · split
    · rw [k1]; omega
    · rw [cf_rev, k1]; omega
  · split
    · rw [k2]; omega
    · rw [tc_rev, k2]; omega
theorem vis_asc {p : Int} {a : Ef} (ha : EN p a) : ((visV a).map (·.1)).Pairwise (· ≤ ·) := by
  obtain ⟨u1, u2, u3⟩ := hi_up a
  obtain ⟨l1, l2, l3⟩ := lo_dn a
  have k : ∀ q ∈ a.1, loE a ≤ q.1 ∧ q.1 ≤ hiE a := fun q hq => by
    have z := supp_cf ha (List.mem_map_of_mem (f := (·.1)) hq)
    exact ⟨l3 _ z, u3 _ z⟩
  unfold visV
  rw [List.cons_append, List.map_cons, List.map_append, List.pairwise_cons, List.pairwise_append]
  have lh : loE a ≤ hiE a := by omega
  refine ⟨fun y hy => ?_, ?_, List.pairwise_singleton _ _, fun y hy w hw => ?_⟩
  · rcases List.mem_append.mp hy with hy | hy
    · obtain ⟨q, hq, rfl⟩ := List.mem_map.mp hy
      exact (k q hq).1
    · rw [List.map_cons, List.map_nil, List.mem_singleton] at hy
      rw [hy]; exact lh
  · have := ha.1
    unfold Asc at this
    exact this.imp fun z => by omega
  · obtain ⟨q, hq, rfl⟩ := List.mem_map.mp hy
    rw [List.map_cons, List.map_nil, List.mem_singleton] at hw
    rw [hw]; exact (k q hq).2
theorem vis_trav {p : Int} {a : Ef} (ha : EN p a) : (travU 0 (visE a) : Int) = 2 * (hiE a - loE a) - (a.2.natAbs : Int) := by
  obtain ⟨u1, u2, u3⟩ := hi_up a
  obtain ⟨l1, l2, l3⟩ := lo_dn a
  have asc := vis_asc ha
  unfold visE
  rw [trav_app]
  have e0 : ∀ h : Int, travU h [(a.2, 0)] = (a.2 - h).natAbs := fun h => rfl
  rw [e0]
  by_cases z : 0 ≤ a.2
  · rw [if_pos z]
    have e1 : travU 0 (visV a) = (loE a - 0).natAbs + travU (loE a) (a.1 ++ [(hiE a, 0)]) := rfl
    have e2 : endU 0 (visV a) = hiE a := by unfold visV; rw [end_app]; rfl
    have asc' := asc
    unfold visV at asc'
    rw [List.cons_append, List.map_cons, List.pairwise_cons] at asc'
    have t : (travU (loE a) (a.1 ++ [(hiE a, 0)]) : Int) = endU (loE a) (a.1 ++ [(hiE a, 0)]) - loE a ∧ loE a ≤ endU (loE a) (a.1 ++ [(hiE a, 0)]) := trav_up _ _ asc'.2 fun q hq => asc'.1 q.1 (List.mem_map_of_mem hq)
    have e3 : endU (loE a) (a.1 ++ [(hiE a, 0)]) = hiE a := by rw [end_app]; rfl
    rw [e3] at t
    rw [e1, e2]
    omega
  · rw [if_neg z]
    have er : (visV a).reverse = (hiE a, 0) :: (a.1.reverse ++ [(loE a, 0)]) := by unfold visV; simp
    have e1 : travU 0 (visV a).reverse = (hiE a - 0).natAbs + travU (hiE a) (a.1.reverse ++ [(loE a, 0)]) := by rw [er]; rfl
    have e2 : endU 0 (visV a).reverse = loE a := by rw [er, endU, end_app]; rfl
    have dn : ((visV a).reverse.map (·.1)).Pairwise (fun a b => b ≤ a) := by rw [List.map_reverse, List.pairwise_reverse]; exact asc
    rw [er, List.map_cons, List.pairwise_cons] at dn
    have t : (travU (hiE a) (a.1.reverse ++ [(loE a, 0)]) : Int) = hiE a - endU (hiE a) (a.1.reverse ++ [(loE a, 0)]) ∧ endU (hiE a) (a.1.reverse ++ [(loE a, 0)]) ≤ hiE a := trav_dn _ _ dn.2 fun q hq => dn.1 q.1 (List.mem_map_of_mem hq)
    have e3 : endU (hiE a) (a.1.reverse ++ [(loE a, 0)]) = loE a := by rw [end_app]; rfl
    rw [e3] at t
    rw [e1, e2]
    omega
/-- a shortest word has the effect, and is as long as the length -/
theorem short_ok {p : Int} (hp : 0 < p) {a : Ef} (ha : EN p a) : UW (shortU p a) ∧ effP p (wrdP (shortU p a)) = a ∧ ((shortU p a).length : Int) = sizeE p a := by
  obtain ⟨h1, h2, h3⟩ := way_sh (visE a) 0 (vis_rng hp ha)
  refine ⟨uw_way p _ _, ?_, ?_⟩
  · refine ef_eq hp (en_effP hp _) ha (fun x => ?_) ?_
    · show cf (normT p (tnL (wrdP (wayU p 0 (visE a))))) x % p = _
      rw [cf_normT, emm, h2, Int.add_zero, (vis_cf hp a x).1]
    · show shL (wrdP (wayU p 0 (visE a))) = _
      rw [h1, (vis_cf hp a 0).2.2]; omega
  · show ((wayU p 0 (visE a)).length : Int) = _
    rw [h3, vis_trav ha, (vis_cf hp a 0).2.1, size_eq]
theorem abs_natS (c : Int) : (if c < 0 then -c else c) = (c.natAbs : Int) := by split <;> omega
theorem map_rep (n : Nat) (q : Int × Int) : (List.replicate n q).map unitD = List.replicate n (unitD q) := List.map_replicate ..
theorem unit_steps {h x : Int} (hb : (x - h).natAbs ≤ 16000000) : f_p_unit_steps [.fz (.int h), .fz (.int x)] = some (.oL ((stpU h x).map unitD), [some (.fz (.int h)), some (.fz (.int x))]) := by
  have er := rep_ok (unitD (0, if h < x then 1 else -1)) (k := ((x - h).natAbs : Int)) (by omega) (by omega)
  rw [Int.toNat_natCast] at er
  have eu : unitD (0, if h < x then 1 else -1) = .tuple [.str "step", .int (if h < x then 1 else -1)] := rfl
  rw [eu] at er
  unfold stpU
  rw [map_rep, eu]
  unfold f_p_unit_steps b_p_unit_steps
  by_cases z : h < x
  · rw [if_pos z] at er ⊢
    simp [z, abs_natS, er]
  · rw [if_neg z] at er ⊢
    simp [z, abs_natS, er]
theorem unit_turns {p c : Int} (h0 : 0 ≤ c) (h1 : c < p) (hp : p ≤ 97) : f_p_unit_turns [.fz (.int p), .fz (.int c)] = some (.oL ((trnU p c).map unitD), [some (.fz (.int p)), some (.fz (.int c))]) := by
  have b1 : bits c ≤ 120 := bits_100 (by omega) (by omega)
  have b2 : bits 2 + bits c < 1000000 := by
    have : bits 2 ≤ 5 := by decide +kernel
    omega
  have e1 := rep_ok (.tuple [.str "turn", .int 1]) (k := c) (by omega) (by omega)
  have e2 := rep_ok (.tuple [.str "turn", .int (-1)]) (k := p - c) (by omega) (by omega)
  unfold trnU
  unfold f_p_unit_turns b_p_unit_turns
  by_cases z : 2 * c ≤ p
  · rw [if_pos z, map_rep]
    simp [b2, z, e1]
    exact .inr rfl
  · rw [if_neg z, map_rep]
    simp [b2, z, e2]
    exact .inr rfl
theorem way_loop {p : Int} (hp : p ≤ 97) {x1 x2 x3 x4 x5 x6 : Option OV} : ∀ (V : PL) (h : Int) (us : PL) (x9 x10 : Option OV), (∀ q ∈ V, 0 ≤ q.2 ∧ q.2 < p) → us.length + (wayU p h V).length ≤ 1000000 →
    ∃ y9 y10, mLoop lg_p_shortest_program_1 lb_p_shortest_program_1 (prs V) [some (.fz (.int p)), x1, x2, x3, x4, x5, x6, some (.oL (us.map unitD)), some (.fz (.int h)), x9, x10] =
      some (.nx [some (.fz (.int p)), x1, x2, x3, x4, x5, x6, some (.oL ((us ++ wayU p h V).map unitD)), some (.fz (.int (endU h V))), y9, y10])
  | [], h, us, x9, x10, _, _ => ⟨x9, x10, by rw [wayU, List.append_nil, endU]; rfl⟩
  | q :: V, h, us, x9, x10, hV, hl => by
    have hq := hV q List.mem_cons_self
    rw [wayU, List.length_append, List.length_append] at hl
    have l1 : (stpU h q.1).length = (q.1 - h).natAbs := List.length_replicate
    have e1 := unit_steps (h := h) (x := q.1) (by omega)
    have e2 := unit_turns hq.1 hq.2 hp
    obtain ⟨y9, y10, g⟩ := way_loop hp (x1 := x1) (x2 := x2) (x3 := x3) (x4 := x4) (x5 := x5) (x6 := x6) V q.1 (us ++ stpU h q.1 ++ trnU p q.2) (some (.fz (.int q.1))) (some (.fz (.int q.2))) (fun r hr => hV r (List.mem_cons_of_mem _ hr)) (by rw [List.length_append, List.length_append]; omega)
    have ea : us ++ wayU p h (q :: V) = us ++ stpU h q.1 ++ trnU p q.2 ++ wayU p q.1 V := by rw [wayU]; simp only [List.append_assoc]
    refine ⟨y9, y10, ?_⟩
    rw [ea, endU]
    have hd : prs (q :: V) = pr q :: prs V := rfl
    have k1 : us.length + (stpU h q.1).length ≤ 16000000 := by omega
    have k2 : us.length + (stpU h q.1).length + (trnU p q.2).length ≤ 16000000 := by omega
    have k3 : us.length + ((stpU h q.1).length + (trnU p q.2).length) ≤ 16000000 := by omega
    rw [hd]
    refine (loop_cons (g := lg_p_shortest_program_1) (e1 := [some (.fz (.int p)), x1, x2, x3, x4, x5, x6, some (.oL (us.map unitD)), some (.fz (.int h)), some (.fz (.int q.1)), some (.fz (.int q.2))]) (e2 := [some (.fz (.int p)), x1, x2, x3, x4, x5, x6, some (.oL ((us ++ stpU h q.1 ++ trnU p q.2).map unitD)), some (.fz (.int q.1)), some (.fz (.int q.1)), some (.fz (.int q.2))]) (by simp [lg_p_shortest_program_1, pr]) ?_).trans g
    unfold lb_p_shortest_program_1
    simp [e1, e2, k1, k2, k3]
theorem shortest {p : Int} (hp : 0 < p) (hp2 : p ≤ 97) {a : Ef} (ha : EN p a) (hs : sizeE p a ≤ 10000) (hl : a.1.length ≤ 900000) (hb : bits (hiE a - loE a) < 900000) :
    f_p_shortest_program [.fz (.int p), .fz (efE a)] = some (.oL ((shortU p a).map unitD), [some (.fz (.int p)), some (.fz (efE a))]) := by
  have e1 := length_ (p := p) a ha.2 hl hb
  have e2 := walk_ends a hl
  have hn : ¬ (10000 : Int) < sizeE p a := by omega
  have hlen := (short_ok hp ha).2.2
  have e0 := ix0E a
  have e9 := ix1E a
  have k1 : 1 + a.1.length ≤ 16000000 := by omega
  have k2 : 1 + a.1.length + 1 ≤ 16000000 := by omega
  have k3 : a.1.length + 1 + 1 ≤ 16000000 := by omega
  have k4 : 1 + a.1.length + 1 + 1 ≤ 16000000 := by omega
  have k5 : a.1.length + 1 + 1 + 1 ≤ 16000000 := by omega
  have hV : PyData.tuple [.int (loE a), .int 0] :: (prs a.1 ++ [.tuple [.int (hiE a), .int 0]]) = prs (visV a) := by unfold visV prs pr; simp
  have hL : (OV.oL (prs (visV a))).lst? = some (prs (visV a)) := rfl
  have lV : (prs (visV a)).length = a.1.length + 2 := by unfold visV prs; simp
  have hE : prs (visE a) = (if 0 ≤ a.2 then prs (visV a) else (prs (visV a)).reverse) ++ [.tuple [.int a.2, .int 0]] := by
    unfold visE
    split
    · unfold prs; rw [List.map_append]; rfl
    · unfold prs; rw [List.map_append, List.map_reverse]; rfl
  by_cases z : 0 ≤ a.2
  · rw [if_pos z] at hE
    obtain ⟨y9, y10, g⟩ := way_loop hp2 (x1 := some (.fz (efE a))) (x2 := some (.fz (.list (prs (visV a))))) (x3 := some (.fz (.tuple (prs a.1)))) (x4 := some (.fz (.int a.2))) (x5 := some (.fz (.int (loE a)))) (x6 := some (.fz (.int (hiE a)))) (visE a) 0 [] none none (vis_rng hp ha) (by show ([] : PL).length + (shortU p a).length ≤ _; simp; omega)
    rw [List.map_nil, List.nil_append, hE] at g
    have hw : wayU p 0 (visE a) = shortU p a := rfl
    rw [hw] at g
    show runF 11 2 [true, true] b_p_shortest_program _ = _
    have hb : b_p_shortest_program [some (.fz (.int p)), some (.fz (efE a)), none, none, none, none, none, none, none, none, none] = some (.rt (.oL ((shortU p a).map unitD)) [some (.fz (.int p)), some (.fz (efE a)), some (.fz (.list (prs (visV a)))), some (.fz (.tuple (prs a.1))), some (.fz (.int a.2)), some (.fz (.int (loE a))), some (.fz (.int (hiE a))), none, some (.fz (.int (endU 0 (visE a)))), y9, y10]) := by
      unfold b_p_shortest_program
      refine seq_nx (e' := [some (.fz (.int p)), some (.fz (efE a)), none, none, none, none, none, none, none, none, none]) (by simp [e1, hn]) ?_
      refine seq_nx (e' := [some (.fz (.int p)), some (.fz (efE a)), none, some (.fz (.tuple (prs a.1))), some (.fz (.int a.2)), none, none, none, none, none, none]) (by simp [efE, ef]) ?_
      refine seq_nx (e' := [some (.fz (.int p)), some (.fz (efE a)), none, some (.fz (.tuple (prs a.1))), some (.fz (.int a.2)), some (.fz (.int (loE a))), some (.fz (.int (hiE a))), none, none, none, none]) (by simp [e2]) ?_
      refine seq_nx (e' := [some (.fz (.int p)), some (.fz (efE a)), some (.oL (prs (visV a))), some (.fz (.tuple (prs a.1))), some (.fz (.int a.2)), some (.fz (.int (loE a))), some (.fz (.int (hiE a))), none, none, none, none]) (by simp [len_prs, k1, k2, k3, k4, hV]) ?_
      refine seq_nx (e' := [some (.fz (.int p)), some (.fz (efE a)), some (.oL (prs (visV a))), some (.fz (.tuple (prs a.1))), some (.fz (.int a.2)), some (.fz (.int (loE a))), some (.fz (.int (hiE a))), some (.oL []), some (.fz (.int 0)), none, none]) (by simp) ?_
      simp [len_prs, k1, k2, k3, k4, k5, hV, lV, hL, z, g]
    simp [hb]
  · rw [if_neg z] at hE
    obtain ⟨y9, y10, g⟩ := way_loop hp2 (x1 := some (.fz (efE a))) (x2 := some (.oL (prs (visV a)))) (x3 := some (.fz (.tuple (prs a.1)))) (x4 := some (.fz (.int a.2))) (x5 := some (.fz (.int (loE a)))) (x6 := some (.fz (.int (hiE a)))) (visE a) 0 [] none none (vis_rng hp ha) (by show ([] : PL).length + (shortU p a).length ≤ _; simp; omega)
    rw [List.map_nil, List.nil_append, hE] at g
    have hw : wayU p 0 (visE a) = shortU p a := rfl
    rw [hw] at g
    show runF 11 2 [true, true] b_p_shortest_program _ = _
    have hb : b_p_shortest_program [some (.fz (.int p)), some (.fz (efE a)), none, none, none, none, none, none, none, none, none] = some (.rt (.oL ((shortU p a).map unitD)) [some (.fz (.int p)), some (.fz (efE a)), some (.oL (prs (visV a))), some (.fz (.tuple (prs a.1))), some (.fz (.int a.2)), some (.fz (.int (loE a))), some (.fz (.int (hiE a))), none, some (.fz (.int (endU 0 (visE a)))), y9, y10]) := by
      unfold b_p_shortest_program
      refine seq_nx (e' := [some (.fz (.int p)), some (.fz (efE a)), none, none, none, none, none, none, none, none, none]) (by simp [e1, hn]) ?_
      refine seq_nx (e' := [some (.fz (.int p)), some (.fz (efE a)), none, some (.fz (.tuple (prs a.1))), some (.fz (.int a.2)), none, none, none, none, none, none]) (by simp [efE, ef]) ?_
      refine seq_nx (e' := [some (.fz (.int p)), some (.fz (efE a)), none, some (.fz (.tuple (prs a.1))), some (.fz (.int a.2)), some (.fz (.int (loE a))), some (.fz (.int (hiE a))), none, none, none, none]) (by simp [e2]) ?_
      refine seq_nx (e' := [some (.fz (.int p)), some (.fz (efE a)), some (.oL (prs (visV a))), some (.fz (.tuple (prs a.1))), some (.fz (.int a.2)), some (.fz (.int (loE a))), some (.fz (.int (hiE a))), none, none, none, none]) (by simp [len_prs, k1, k2, k3, k4, hV]) ?_
      refine seq_nx (e' := [some (.fz (.int p)), some (.fz (efE a)), some (.oL (prs (visV a))), some (.fz (.tuple (prs a.1))), some (.fz (.int a.2)), some (.fz (.int (loE a))), some (.fz (.int (hiE a))), some (.oL []), some (.fz (.int 0)), none, none]) (by simp) ?_
      simp [len_prs, k1, k2, k3, k4, k5, hV, lV, hL, z, g]
    simp [hb]
theorem eb_walk {a : Ef} {n : Nat} {w v : Int} (h : EB a n w v) (hw : 0 ≤ w) (hv : v ≤ w) : (-w ≤ loE a ∧ loE a ≤ w) ∧ -w ≤ hiE a ∧ hiE a ≤ w := by
  have key : ∀ x ∈ walkL a, -w ≤ x ∧ x ≤ w := fun x hx => by
    unfold walkL at hx
    simp only [List.mem_cons] at hx
    rcases hx with rfl | rfl | hx
    · omega
    · have := h.lo; have := h.hi; omega
    · obtain ⟨q, hq, rfl⟩ := List.mem_map.mp hx
      exact h.mem q hq
  exact ⟨key _ (minL_ok (lo_some a)).1, key _ (maxL_ok (hi_some a)).1⟩
theorem lengthG {p : Int} {a : Ef} (ha : EN p a) {n : Nat} {w v : Int} (h : EB a n w v) (hn : n ≤ 900000) (hw : 0 ≤ w) (hv : v ≤ w) (hw2 : w < 2 ^ 110) : f_p_length [.fz (.int p), .fz (efE a)] = some (.fz (.int (sizeE p a)), [some (.fz (.int p)), some (.fz (efE a))]) := by
  have q := eb_walk h hw hv
  have c : (2 : Int) ^ 110 * 2 < 2 ^ 120 := by decide +kernel
  have b := bits_100 (i := hiE a - loE a) (by omega) (by omega)
  exact length_ a ha.2 (Nat.le_trans h.len hn) (by omega)
theorem shortG {p : Int} (hp : 0 < p) (hp2 : p ≤ 97) {a : Ef} (ha : EN p a) (hs : sizeE p a ≤ 10000) {n : Nat} {w v : Int} (h : EB a n w v) (hn : n ≤ 900000) (hw : 0 ≤ w) (hv : v ≤ w) (hw2 : w < 2 ^ 110) : f_p_shortest_program [.fz (.int p), .fz (efE a)] = some (.oL ((shortU p a).map unitD), [some (.fz (.int p)), some (.fz (efE a))]) := by
  have q := eb_walk h hw hv
  have c : (2 : Int) ^ 110 * 2 < 2 ^ 120 := by decide +kernel
  have b := bits_100 (i := hiE a - loE a) (by omega) (by omega)
  exact shortest hp hp2 ha hs (Nat.le_trans h.len hn) (by omega)
theorem wrd_flat (us : PL) : flatL (wrdP us) := fun q hq c b e => by
  obtain ⟨u, _, rfl⟩ := List.mem_map.mp hq
  unfold unitP at e
  split at e <;> cases e
theorem wrd_un : ∀ {us : PL}, UW us → unL (wrdP us) = us.length ∧ ∀ q ∈ wrdP us, (q.un : Int) ≤ 1
  | [], _ => ⟨rfl, fun q hq => nomatch hq⟩
  | u :: us, h => by
    have ih := wrd_un (us := us) fun r hr => h r (List.mem_cons_of_mem _ hr)
    have h1 := h u List.mem_cons_self
    have k : (unitP u).un = 1 := by
      unfold unitP
      rcases h1.2 with e | e <;> split <;> rw [Pg.un, e] <;> rfl
    have e : wrdP (u :: us) = unitP u :: wrdP us := rfl
    refine ⟨by rw [e, unL, k, ih.1, List.length_cons]; omega, fun q hq => ?_⟩
    rw [e] at hq
    rcases List.mem_cons.mp hq with rfl | hq
    · omega
    · exact ih.2 q hq
/-! breadth-first search through the effects, one unit instruction at a time -/
def nbrE (p : Int) : List Ef := [([], 1), ([], -1), ([(0, 1)], 0), ([(0, p - 1)], 0)]
def addB (n : Int) (st : List (Ef × Int) × List Ef) (e : Ef) : List (Ef × Int) × List Ef := if e ∈ st.1.map (·.1) then st else (st.1 ++ [(e, n)], st.2 ++ [e])
def candB (p : Int) (B : List Ef) : List Ef := B.flatMap fun a => (nbrE p).map fun u => cmpE p a u
def lvlB (p n : Int) (st : List (Ef × Int) × List Ef) : List (Ef × Int) × List Ef := (candB p st.2).foldl (addB n) (st.1, [])
def ballB (p : Int) : Nat → List (Ef × Int) × List Ef
  | 0 => ([(([], 0), 0)], [([], 0)])
  | d + 1 => lvlB p (d + 1 : Nat) (ballB p d)
theorem fold_keys (n : Int) : ∀ (L : List Ef) (st : List (Ef × Int) × List Ef) (e : Ef), e ∈ (L.foldl (addB n) st).1.map (·.1) ↔ e ∈ st.1.map (·.1) ∨ e ∈ L
  | [], st, e => by simp
  | a :: L, st, e => by
    rw [List.foldl_cons, fold_keys n L (addB n st a) e]
    unfold addB
    split
    · rename_i h
      rw [List.mem_cons]
      exact ⟨fun z => z.elim .inl fun z => .inr (.inr z), fun z => z.elim .inl fun z => z.elim (fun z => .inl (by rw [z]; exact h)) .inr⟩
    · simp only [List.map_append, List.map_cons, List.map_nil, List.mem_append, List.mem_cons, List.not_mem_nil, or_false]
      exact ⟨fun z => z.elim (fun z => z.elim .inl fun z => .inr (.inl z)) fun z => .inr (.inr z), fun z => z.elim (fun z => .inl (.inl z)) fun z => z.elim (fun z => .inl (.inr z)) .inr⟩
theorem fold_ent (n : Int) : ∀ (L : List Ef) (st : List (Ef × Int) × List Ef) (q : Ef × Int), q ∈ (L.foldl (addB n) st).1 → q ∈ st.1 ∨ (q.2 = n ∧ q.1 ∈ L ∧ q.1 ∉ st.1.map (·.1))
  | [], st, q, h => .inl h
  | a :: L, st, q, h => by
    rw [List.foldl_cons] at h
    rcases fold_ent n L (addB n st a) q h with h | ⟨h1, h2, h3⟩
    · unfold addB at h
      split at h
      · exact .inl h
      · rename_i hn
        rcases List.mem_append.mp h with h | h
        · exact .inl h
        · cases List.mem_singleton.mp h
          exact .inr ⟨rfl, List.mem_cons_self, hn⟩
    · refine .inr ⟨h1, List.mem_cons_of_mem _ h2, fun z => h3 ?_⟩
      unfold addB
      split
      · exact z
      · rw [List.map_append]; exact List.mem_append_left _ z
theorem fold_bord (n : Int) : ∀ (L : List Ef) (st : List (Ef × Int) × List Ef) (e : Ef), e ∈ (L.foldl (addB n) st).2 ↔ e ∈ st.2 ∨ (e ∈ L ∧ e ∉ st.1.map (·.1))
  | [], st, e => by simp
  | a :: L, st, e => by
    rw [List.foldl_cons, fold_bord n L (addB n st a) e]
    unfold addB
    split
    · rename_i h
      rw [List.mem_cons]
      refine ⟨fun z => z.elim .inl fun z => .inr ⟨.inr z.1, z.2⟩, fun z => z.elim .inl fun z => .inr ⟨z.1.elim (fun w => absurd (by rw [w]; exact h) z.2) id, z.2⟩⟩
    · rename_i h
      simp only [List.map_append, List.map_cons, List.map_nil, List.mem_append, List.mem_cons, List.not_mem_nil, or_false]
      refine ⟨fun z => ?_, fun z => ?_⟩
      · rcases z with (z | z) | z
        · exact .inl z
        · exact .inr ⟨.inl z, by rw [z]; exact h⟩
        · exact .inr ⟨.inr z.1, fun w => z.2 (.inl w)⟩
      · rcases z with z | ⟨z | z, w⟩
        · exact .inl (.inl z)
        · exact .inl (.inr z)
        · by_cases ea : e = a
          · exact .inl (.inr ea)
          · exact .inr ⟨z, fun q => q.elim w ea⟩
theorem fold_len (n : Int) : ∀ (L : List Ef) (st : List (Ef × Int) × List Ef), (L.foldl (addB n) st).1.length ≤ st.1.length + L.length ∧ (L.foldl (addB n) st).2.length ≤ st.2.length + L.length
  | [], st => ⟨Nat.le_refl _, Nat.le_refl _⟩
  | a :: L, st => by
    rw [List.foldl_cons]
    have h := fold_len n L (addB n st a)
    have k : (addB n st a).1.length ≤ st.1.length + 1 ∧ (addB n st a).2.length ≤ st.2.length + 1 := by
      unfold addB
      split
      · omega
      · simp
    rw [List.length_cons]; omega
theorem cand_len (p : Int) : ∀ B : List Ef, (candB p B).length = 4 * B.length
  | [] => rfl
  | a :: B => by
    have := cand_len p B
    unfold candB at this ⊢
    rw [List.flatMap_cons, List.length_append, this, List.length_cons]
    show 4 + _ = _
    omega
theorem mem_cand {p : Int} {B : List Ef} {e : Ef} : e ∈ candB p B ↔ ∃ a ∈ B, ∃ u ∈ nbrE p, e = cmpE p a u := by
  unfold candB
  rw [List.mem_flatMap]
  refine exists_congr fun a => and_congr_right fun _ => ?_
  rw [List.mem_map]
  exact ⟨fun ⟨u, h1, h2⟩ => ⟨u, h1, h2.symm⟩, fun ⟨u, h1, h2⟩ => ⟨u, h1, h2.symm⟩⟩
/-- the effects of the four unit instructions -/
theorem tu_nrm {p : Int} (hp : 2 ≤ p) {c v : Int} (h0 : 0 < v) (h1 : v < p) (he : c % p = v) : normT p [(0, c)] = [(0, v)] := by
  have hn : Nrm p [(0, v)] := ⟨List.pairwise_singleton _ _, fun q hq => by cases List.mem_singleton.mp hq; exact ⟨h0, h1⟩⟩
  have := ef_eq (p := p) (by omega) (a := (normT p [(0, c)], 0)) (b := ([(0, v)], 0)) (nrm_normT (by omega) _) hn (fun x => by
    show cf (normT p [(0, c)]) x % p = cf [(0, v)] x % p
    rw [cf_normT, Int.emod_emod_of_dvd _ (Int.dvd_refl p), cf_cons, cf_nil, cf_cons, cf_nil]
    by_cases q : 0 = x
    · rw [if_pos q, if_pos q, Int.add_zero, Int.add_zero, he, Int.emod_eq_of_lt (by omega) h1]
    · rw [if_neg q, if_neg q]) rfl
  exact congrArg Prod.fst this
theorem unit_nbr {p : Int} (hp : 2 ≤ p) {q : Int × Int} (h : isU q) : effP p [unitP q] ∈ nbrE p := by
  obtain ⟨h1, h2⟩ := h
  obtain ⟨a, b⟩ := q
  simp only at h1 h2
  have st : ∀ c : Int, effP p [.st c] = ([], c) := fun c => by show (normT p [], c + 0) = _; rw [Int.add_zero, normT_nil]
  have tu : ∀ c : Int, effP p [.tu c] = (normT p [(0, c)], 0) := fun c => rfl
  rcases h1 with rfl | rfl <;> rcases h2 with rfl | rfl
  · show effP p [.st 1] ∈ _
    rw [st]; simp [nbrE]
  · show effP p [.st (-1)] ∈ _
    rw [st]; simp [nbrE]
  · show effP p [.tu 1] ∈ _
    rw [tu, tu_nrm hp (v := 1) (by omega) (by omega) (Int.emod_eq_of_lt (by omega) (by omega))]; simp [nbrE]
  · show effP p [.tu (-1)] ∈ _
    rw [tu, tu_nrm hp (v := p - 1) (by omega) (by omega) (by rw [← Int.add_emod_right, Int.emod_eq_of_lt (by omega) (by omega)]; omega)]; simp [nbrE]
theorem nbr_unit {p : Int} (hp : 2 ≤ p) {u : Ef} (h : u ∈ nbrE p) : ∃ q, isU q ∧ u = effP p [unitP q] := by
  have st : ∀ c : Int, effP p [.st c] = ([], c) := fun c => by show (normT p [], c + 0) = _; rw [Int.add_zero, normT_nil]
  have tu : ∀ c : Int, effP p [.tu c] = (normT p [(0, c)], 0) := fun c => rfl
  unfold nbrE at h
  simp only [List.mem_cons, List.not_mem_nil, or_false] at h
  rcases h with rfl | rfl | rfl | rfl
  · exact ⟨(0, 1), ⟨.inl rfl, .inl rfl⟩, (st 1).symm⟩
  · exact ⟨(0, -1), ⟨.inl rfl, .inr rfl⟩, (st (-1)).symm⟩
  · refine ⟨(1, 1), ⟨.inr rfl, .inl rfl⟩, ?_⟩
    show _ = effP p [.tu 1]
    rw [tu, tu_nrm hp (v := 1) (by omega) (by omega) (Int.emod_eq_of_lt (by omega) (by omega))]
  · refine ⟨(1, -1), ⟨.inr rfl, .inr rfl⟩, ?_⟩
    show _ = effP p [.tu (-1)]
    rw [tu, tu_nrm hp (v := p - 1) (by omega) (by omega) (by rw [← Int.add_emod_right, Int.emod_eq_of_lt (by omega) (by omega)]; omega)]
theorem nbr_ok {p : Int} (hp : 2 ≤ p) {u : Ef} (h : u ∈ nbrE p) : EN p u ∧ sizeE p u ≤ 1 ∧ u.1.length ≤ 1 := by
  obtain ⟨q, h1, rfl⟩ := nbr_unit hp h
  have hu : UW [q] := fun r hr => by cases List.mem_singleton.mp hr; exact h1
  have := size_units (p := p) (by omega) (ps := wrdP [q]) (wrd_flat [q])
  rw [(wrd_un hu).1] at this
  refine ⟨en_effP (by omega) _, this, ?_⟩
  unfold nbrE at h
  simp only [List.mem_cons, List.not_mem_nil, or_false] at h
  rcases h with e | e | e | e <;> rw [e] <;> simp
/-- a longer effect is a shorter one and one more unit instruction -/
theorem pred_ok {p : Int} (hp : 2 ≤ p) {e : Ef} (he : EN p e) {d : Nat} (hs : sizeE p e = (d + 1 : Nat)) : ∃ a, EN p a ∧ sizeE p a = d ∧ ∃ u ∈ nbrE p, e = cmpE p a u := by
  obtain ⟨w1, w2, w3⟩ := short_ok (p := p) (by omega) he
  have hl : (shortU p e).length = d + 1 := by omega
  obtain ⟨us, q, eu⟩ : ∃ us q, shortU p e = us ++ [q] := by
    have hne : shortU p e ≠ [] := fun z => by rw [z] at hl; simp at hl
    exact ⟨(shortU p e).dropLast, (shortU p e).getLast hne, (List.dropLast_concat_getLast hne).symm⟩
  rw [eu] at w1 w2 hl
  have hq : isU q := w1 q (List.mem_append_right _ List.mem_cons_self)
  have hus : UW us := fun r hr => w1 r (List.mem_append_left _ hr)
  have e1 : wrdP (us ++ [q]) = wrdP us ++ [unitP q] := List.map_append ..
  rw [e1, effP_app (by omega)] at w2
  have hu := unit_nbr hp hq
  have n := nbr_ok hp hu
  have ha := en_effP (p := p) (by omega) (wrdP us)
  have s1 := size_units (p := p) (by omega) (ps := wrdP us) (wrd_flat us)
  rw [(wrd_un hus).1] at s1
  have s2 := size_cmp (p := p) (by omega) ha n.1
  rw [w2] at s2
  rw [List.length_append, List.length_singleton] at hl
  exact ⟨_, ha, by omega, _, hu, w2.symm⟩
structure IB (p : Int) (d : Nat) (st : List (Ef × Int) × List Ef) : Prop where
  ent : ∀ q ∈ st.1, EN p q.1 ∧ sizeE p q.1 = q.2 ∧ q.2 ≤ d
  all : ∀ e, EN p e → sizeE p e ≤ d → e ∈ st.1.map (·.1)
  bord : ∀ e, e ∈ st.2 ↔ EN p e ∧ sizeE p e = d
theorem ib_zero (p : Int) : IB p 0 (ballB p 0) where
  ent := fun q hq => by
    cases List.mem_singleton.mp hq
    exact ⟨⟨List.Pairwise.nil, fun q hq => nomatch hq⟩, size_id p, Int.le_refl _⟩
  all := fun e he hs => by
    have h0 := size_nn he
    have := (size_zero he).mp (by omega)
    rw [this]; exact List.mem_cons_self
  bord := fun e => by
    constructor
    · intro h
      cases List.mem_singleton.mp h
      exact ⟨⟨List.Pairwise.nil, fun q hq => nomatch hq⟩, size_id p⟩
    · rintro ⟨he, hs⟩
      rw [(size_zero he).mp hs]; exact List.mem_cons_self
theorem ib_step {p : Int} (hp : 2 ≤ p) {d : Nat} {st : List (Ef × Int) × List Ef} (h : IB p d st) : IB p (d + 1) (lvlB p (d + 1 : Nat) st) := by
  have cand : ∀ e ∈ candB p st.2, EN p e ∧ sizeE p e ≤ d + 1 := fun e he => by
    obtain ⟨a, ha, u, hu, rfl⟩ := mem_cand.mp he
    have ⟨h1, h2⟩ := (h.bord a).mp ha
    have n := nbr_ok hp hu
    have := size_cmp (p := p) (by omega) h1 n.1
    exact ⟨en_cmp (by omega) _ _, by omega⟩
  have newc : ∀ e ∈ candB p st.2, e ∉ st.1.map (·.1) → sizeE p e = (d + 1 : Nat) := fun e he hn => by
    have c := cand e he
    have : ¬ sizeE p e ≤ d := fun z => hn (h.all e c.1 z)
    omega
  have back : ∀ e, EN p e → sizeE p e = (d + 1 : Nat) → e ∈ candB p st.2 ∧ e ∉ st.1.map (·.1) := fun e he hs => by
    obtain ⟨a, ha, sa, u, hu, eq⟩ := pred_ok hp he hs
    refine ⟨mem_cand.mpr ⟨a, (h.bord a).mpr ⟨ha, sa⟩, u, hu, eq⟩, fun z => ?_⟩
    obtain ⟨q, hq, rfl⟩ := List.mem_map.mp z
    have := h.ent q hq
    omega
  refine ⟨fun q hq => ?_, fun e he hs => ?_, fun e => ?_⟩
  · rcases fold_ent _ _ _ q hq with hq | ⟨h1, h2, h3⟩
    · have := h.ent q hq
      exact ⟨this.1, this.2.1, by omega⟩
    · have := newc _ h2 h3
      exact ⟨(cand _ h2).1, by rw [h1]; exact this, by rw [h1]; exact Int.le_refl _⟩
  · refine (fold_keys _ _ _ e).mpr ?_
    by_cases z : sizeE p e ≤ d
    · exact .inl (h.all e he z)
    · exact .inr (back e he (by omega)).1
  · refine (fold_bord _ _ _ e).trans ⟨fun z => ?_, fun z => .inr (back e z.1 z.2)⟩
    rcases z with z | ⟨z, w⟩
    · cases z
    · exact ⟨(cand e z).1, newc e z w⟩
theorem ib_ball {p : Int} (hp : 2 ≤ p) : ∀ d : Nat, IB p d (ballB p d)
  | 0 => ib_zero p
  | d + 1 => ib_step hp (ib_ball hp d)
theorem ball_len (p : Int) : ∀ d : Nat, (ballB p d).2.length ≤ 4 ^ d ∧ (ballB p d).1.length ≤ 4 ^ (d + 1)
  | 0 => ⟨Nat.le_refl _, show 1 ≤ 4 by omega⟩
  | d + 1 => by
    have ih := ball_len p d
    have h := fold_len ((d + 1 : Nat) : Int) (candB p (ballB p d).2) ((ballB p d).1, [])
    rw [cand_len] at h
    have e1 : 4 ^ (d + 1) = 4 * 4 ^ d := Nat.pow_succ'
    have e2 : 4 ^ (d + 1 + 1) = 4 * 4 ^ (d + 1) := Nat.pow_succ'
    show (lvlB p _ _).2.length ≤ _ ∧ (lvlB p _ _).1.length ≤ _
    unfold lvlB
    have z : ([] : List Ef).length = 0 := rfl
    refine ⟨by have := h.2; simp only [z] at this; omega, by have := h.1; simp only at this; omega⟩
/-- a short effect is small -/
theorem eb_size {p : Int} {a : Ef} (ha : EN p a) {d : Nat} (hs : sizeE p a ≤ d) : EB a d d d := by
  obtain ⟨a1, a2, a3⟩ := hi_up a
  obtain ⟨a4, a5, a6⟩ := lo_dn a
  have t := tc_nn ha
  have hz := size_eq p a
  have tl : ∀ {f : PL}, Nrm p f → (f.length : Int) ≤ tcE p f := by
    intro f hf
    induction f with
    | nil => exact Int.le_refl _
    | cons q r ih =>
      have h1 := hf.2 q List.mem_cons_self
      have h2 := cost_pos h1.1 h1.2
      have h3 := ih ⟨(List.pairwise_cons.mp hf.1).2, fun x hx => hf.2 x (List.mem_cons_of_mem _ hx)⟩
      unfold tcE at h3 ⊢
      rw [List.map_cons, List.sum_cons, List.length_cons]
      omega
  have := tl ha
  refine ⟨by omega, fun q hq => ?_, by omega, by omega⟩
  have hc : cf a.1 q.1 ≠ 0 := supp_cf ha (List.mem_map.mpr ⟨q, hq, rfl⟩)
  have := a3 _ hc
  have := a6 _ hc
  omega
theorem units_ {p : Int} : f_l_units [.fz (.int p)] = some (.oL [efE ([], 1), efE ([], -1), efE ([(0, 1)], 0), efE ([(0, p - 1)], 0)], [some (.fz (.int p))]) := by
  unfold f_l_units b_l_units
  simp [efE, ef, prs, pr]
/-! the keys of effects (p_grouped has the head of this: never take both) -/
def rdD (r : PL) : D := .tuple (prs r)
def rnk (r : PL) : NestedKey := .tup (r.map fun q => .tup [.num q.1, .num q.2])
theorem nk_prs : ∀ r : PL, nkOfs (prs r) = some (r.map fun q => .tup [.num q.1, .num q.2])
  | [] => rfl
  | q :: r => by
    have e : prs (q :: r) = pr q :: prs r := rfl
    rw [e, nkOfs, nk_prs r]
    rfl
theorem nk_rd (r : PL) : nkOf (rdD r) = some (rnk r) := by
  show (nkOfs (prs r)).map NestedKey.tup = _
  rw [nk_prs]; rfl
theorem rnk_inj : ∀ {r r' : PL}, rnk r = rnk r' → r = r' := by
  have h : ∀ r r' : PL, (r.map fun q => NestedKey.tup [.num q.1, .num q.2]) = (r'.map fun q => NestedKey.tup [.num q.1, .num q.2]) → r = r' := by
    intro r
    induction r with
    | nil =>
      intro r' e
      cases r' with
      | nil => rfl
      | cons _ _ => cases e
    | cons q r ih =>
      intro r' e
      cases r' with
      | nil => cases e
      | cons q' r' =>
        rw [List.map_cons, List.map_cons] at e
        injection e with e1 e2
        injection e1 with e1
        injection e1 with e1 e3
        injection e3 with e3 _
        injection e1 with e1
        injection e3 with e3
        rw [ih r' e2, show q = q' from Prod.ext e1 e3]
  intro r r' e
  exact h r r' (NestedKey.tup.inj e)
theorem rnk_depth (r : PL) : (rnk r).depth ≤ 8 := by
  have h : ∀ r : PL, NestedKey.depthAll (r.map fun q => NestedKey.tup [.num q.1, .num q.2]) ≤ 1 := by
    intro r
    induction r with
    | nil => exact Nat.zero_le _
    | cons q r ih =>
      rw [List.map_cons, NestedKey.depthAll]
      have e : (NestedKey.tup [.num q.1, .num q.2]).depth = 1 := rfl
      rw [e]
      omega
  show NestedKey.depthAll _ + 1 ≤ 8
  have := h r
  omega
def efK (a : Ef) : NestedKey := .tup [rnk a.1, .num a.2]
theorem nk_ef (a : Ef) : nkOf (efE a) = some (efK a) := by
  have h : nkOf (rdD a.1) = some (rnk a.1) := nk_rd a.1
  show (nkOfs [rdD a.1, PyData.int a.2]).map NestedKey.tup = _
  rw [nkOfs, h]
  rfl
theorem efK_inj {a b : Ef} (e : efK a = efK b) : a = b := by
  have e1 := NestedKey.tup.inj e
  injection e1 with e2 e3
  injection e3 with e4 _
  injection e4 with e4
  exact Prod.ext (rnk_inj e2) e4
theorem efK_depth (a : Ef) : (efK a).depth ≤ 8 := by
  have h : ∀ r : PL, NestedKey.depthAll (r.map fun q => NestedKey.tup [.num q.1, .num q.2]) ≤ 1 := by
    intro r
    induction r with
    | nil => exact Nat.zero_le _
    | cons q r ih =>
      rw [List.map_cons, NestedKey.depthAll]
      have e : (NestedKey.tup [.num q.1, .num q.2]).depth = 1 := rfl
      rw [e]
      omega
  have h2 : (rnk a.1).depth ≤ 2 := by
    show NestedKey.depthAll _ + 1 ≤ 2
    have := h a.1
    omega
  have h3 : (efK a).depth = max (rnk a.1).depth (max (NestedKey.num a.2).depth 0) + 1 := rfl
  have h4 : (NestedKey.num a.2).depth = 0 := rfl
  rw [h3, h4]
  omega
/-- what was found, as a dict -/
def bK (F : List (Ef × Int)) : List (D × OV) := F.map fun q => (efE q.1, .fz (.int q.2))
theorem len_bK (F : List (Ef × Int)) : (bK F).length = F.length := by unfold bK; rw [List.length_map]
theorem keys_bK (F : List (Ef × Int)) : (bK F).map (·.1) = (F.map (·.1)).map efE := by unfold bK; rw [List.map_map, List.map_map]; rfl
theorem bK_snoc (F : List (Ef × Int)) (e : Ef) (n : Int) : bK F ++ [(efE e, .fz (.int n))] = bK (F ++ [(e, n)]) := by unfold bK; rw [List.map_append]; rfl
theorem lk_bK (e : Ef) : ∀ F : List (Ef × Int), lkK (bK F) (efK e) = (F.find? fun q => decide (q.1 = e)).map fun q => OV.fz (.int q.2)
  | [] => rfl
  | q :: F => by
    have ih := lk_bK e F
    unfold lkK bK at ih ⊢
    rw [List.map_cons]
    by_cases h : q.1 = e
    · have h1 : decide (nkOf (efE q.1) = some (efK e)) = true := decide_eq_true (by rw [nk_ef, h])
      have h2 : decide (q.1 = e) = true := decide_eq_true h
      simp only [List.find?_cons, h1, h2]
      rfl
    · have h1 : decide (nkOf (efE q.1) = some (efK e)) = false := decide_eq_false fun z => h (efK_inj (by rw [nk_ef] at z; exact Option.some.inj z))
      have h2 : decide (q.1 = e) = false := decide_eq_false h
      simp only [List.find?_cons, h1, h2]
      exact ih
theorem lk_none {e : Ef} {F : List (Ef × Int)} (h : e ∉ F.map (·.1)) : lkK (bK F) (efK e) = none := by
  rw [lk_bK, Option.map_eq_none_iff, List.find?_eq_none]
  intro q hq z
  exact h (List.mem_map.mpr ⟨q, hq, of_decide_eq_true z⟩)
theorem lk_mem {e : Ef} {F : List (Ef × Int)} (h : e ∈ F.map (·.1)) : ∃ n, (e, n) ∈ F ∧ lkK (bK F) (efK e) = some (.fz (.int n)) := by
  rw [lk_bK]
  cases hf : F.find? fun q => decide (q.1 = e) with
  | none =>
    obtain ⟨q, hq, e1⟩ := List.mem_map.mp h
    exact absurd (decide_eq_true e1) (List.find?_eq_none.mp hf q hq)
  | some q =>
    have h1 := List.find?_some hf
    have h2 := List.mem_of_find?_eq_some hf
    have h3 : q.1 = e := of_decide_eq_true h1
    exact ⟨q.2, by rw [← h3]; exact h2, rfl⟩
theorem frz_bK : ∀ F : List (Ef × Int), frzK (bK F) = some (bK F)
  | [] => rfl
  | q :: F => by
    have ih := frz_bK F
    show (match (OV.fz (.int q.2)).frz, frzK (bK F) with
      | some x, some r' => some ((efE q.1, OV.fz x) :: r')
      | _, _ => none) = _
    rw [ih]
    rfl
theorem ixN_bK {e : Ef} {n : Int} {F : List (Ef × Int)} (h : lkK (bK F) (efK e) = some (.fz (.int n))) : fIxN (.fK (bK F)) (.fz (efE e)) = some (.fz (.int n)) := by
  unfold fIxN
  simp only [nk_ef]
  rw [if_pos ⟨rfl, efK_depth e⟩, h]
theorem niK_bK (e : Ef) (F : List (Ef × Int)) : fNiK (.fz (efE e)) (.oK (bK F)) = some (.fz (.bool (decide (e ∉ F.map (·.1))))) := by
  rw [nik_ok (nk_ef e) rfl (efK_depth e)]
  by_cases h : e ∈ F.map (·.1)
  · obtain ⟨n, _, h2⟩ := lk_mem h
    rw [h2, decide_eq_false (fun z => z h)]; rfl
  · rw [lk_none h, decide_eq_true h]; rfl
theorem foldl_fm {α β γ : Type} (f : α → List β) (g : γ → β → γ) : ∀ (B : List α) (st : γ), (B.flatMap f).foldl g st = B.foldl (fun st a => (f a).foldl g st) st
  | [], _ => rfl
  | a :: B, st => by rw [List.flatMap_cons, List.foldl_append, List.foldl_cons, foldl_fm f g B]
def rowB (p n : Int) (a : Ef) (st : List (Ef × Int) × List Ef) (u : Ef) : List (Ef × Int) × List Ef := addB n st (cmpE p a u)
theorem lvl_rows (p n : Int) (st : List (Ef × Int) × List Ef) : lvlB p n st = st.2.foldl (fun s a => (nbrE p).foldl (rowB p n a) s) (st.1, []) := by
  unfold lvlB candB
  rw [foldl_fm]
  simp only [List.foldl_map]
  rfl
theorem add_len (n : Int) (st : List (Ef × Int) × List Ef) (e : Ef) : (addB n st e).1.length ≤ st.1.length + 1 ∧ (addB n st e).2.length ≤ st.2.length + 1 := by
  unfold addB
  split
  · omega
  · simp
def bE (p n : Int) (x1 x4 x6 x7 x8 : Option OV) (st : List (Ef × Int) × List Ef) : G.Env := [some (.fz (.int p)), x1, some (.fz (.int n)), some (.oK (bK st.1)), x4, some (.oL (st.2.map efE)), x6, x7, x8]
theorem row_ok {p : Int} (hp : 0 < p) (n : Int) (a u : Ef) (ha : a.1.length + u.1.length ≤ 900000) (st : List (Ef × Int) × List Ef) (h1 : st.1.length ≤ 1000000) (h2 : st.2.length ≤ 1000000) (x1 x4 x8 : Option OV) :
    lb_l_ball_1 (bE p n x1 x4 (some (.fz (efE a))) (some (.fz (efE u))) x8 st) = some (.nx (bE p n x1 x4 (some (.fz (efE a))) (some (.fz (efE u))) (some (.fz (efE (cmpE p a u)))) (rowB p n a st u))) := by
  have e1 := then_E2 hp a u ha
  have e2 := niK_bK (cmpE p a u) st.1
  by_cases h : cmpE p a u ∈ st.1.map (·.1)
  · have e3 : rowB p n a st u = st := by unfold rowB addB; rw [if_pos h]
    rw [decide_eq_false (fun z => z h)] at e2
    rw [e3]
    unfold lb_l_ball_1 bE
    simp [e1, e2]
  · have e3 : rowB p n a st u = (st.1 ++ [(cmpE p a u, n)], st.2 ++ [cmpE p a u]) := by unfold rowB addB; rw [if_neg h]
    rw [decide_eq_true h] at e2
    have e4 := putN_ok (j := 3) (mv := mFz (mNm 2)) (mi := mFz (mNm 8)) (env := bE p n x1 x4 (some (.fz (efE a))) (some (.fz (efE u))) (some (.fz (efE (cmpE p a u)))) st) (e1 := bE p n x1 x4 (some (.fz (efE a))) (some (.fz (efE u))) (some (.fz (efE (cmpE p a u)))) st) (e2 := bE p n x1 x4 (some (.fz (efE a))) (some (.fz (efE u))) (some (.fz (efE (cmpE p a u)))) st)
      (dv := .int n) (d := efE (cmpE p a u)) (k := efK (cmpE p a u)) (o := .oK (bK st.1)) (kvs := bK st.1) (by simp [bE]) rfl (by simp [bE]) rfl (nk_ef _) rfl (efK_depth _) (by rw [len_bK]; omega) (lk_none h)
    rw [bK_snoc] at e4
    have h3 : st.2.length ≤ 16000000 := by omega
    rw [e3]
    unfold lb_l_ball_1
    unfold bE at e4 ⊢
    simp [e1, e2, e4, h3]
theorem unit_row {p : Int} (hp : 0 < p) (n : Int) (a : Ef) (ha : a.1.length ≤ 100) (st : List (Ef × Int) × List Ef) (h1 : st.1.length ≤ 900000) (h2 : st.2.length ≤ 900000) (x1 x4 x7 x8 : Option OV) :
    ∃ y7 y8, lb_l_ball_2 (bE p n x1 x4 (some (.fz (efE a))) x7 x8 st) = some (.nx (bE p n x1 x4 (some (.fz (efE a))) y7 y8 ((nbrE p).foldl (rowB p n a) st))) ∧
      ((nbrE p).foldl (rowB p n a) st).1.length ≤ st.1.length + 4 ∧ ((nbrE p).foldl (rowB p n a) st).2.length ≤ st.2.length + 4 := by
  obtain ⟨env', e1, y7, y8, rfl, l1, l2⟩ := loop_fold (g := lg_l_ball_1) (mb := lb_l_ball_1) efE (fun (i : Nat) s e => ∃ y7 y8, e = bE p n x1 x4 (some (.fz (efE a))) y7 y8 s ∧ s.1.length ≤ st.1.length + i ∧ s.2.length ≤ st.2.length + i) (rowB p n a) (nbrE p) 0 st
    (bE p n x1 x4 (some (.fz (efE a))) x7 x8 st) ⟨x7, x8, rfl, by omega, by omega⟩ (fun j u s e hj he => by
      obtain ⟨y7, y8, rfl, l1, l2⟩ := he
      have hu : u ∈ nbrE p := List.mem_of_getElem? hj
      have hj4 : j < 4 := (List.getElem?_eq_some_iff.mp hj).1
      have lu : u.1.length ≤ 1 := by
        unfold nbrE at hu
        simp only [List.mem_cons, List.not_mem_nil, or_false] at hu
        rcases hu with e | e | e | e <;> rw [e] <;> simp
      have k := add_len n s (cmpE p a u)
      exact ⟨bE p n x1 x4 (some (.fz (efE a))) (some (.fz (efE u))) y8 s, _, by simp [lg_l_ball_1, bE], row_ok hp n a u (by omega) s (by omega) (by omega) x1 x4 y8, _, _, rfl, by have := k.1; show (addB n s _).1.length ≤ _; omega, by have := k.2; show (addB n s _).2.length ≤ _; omega⟩)
  have e0 := units_ (p := p)
  have e3 : [efE ([], 1), efE ([], -1), efE ([(0, 1)], 0), efE ([(0, p - 1)], 0)] = (nbrE p).map efE := rfl
  rw [e3] at e0
  refine ⟨y7, y8, ?_, by have : (nbrE p).length = 4 := rfl; omega, by have : (nbrE p).length = 4 := rfl; omega⟩
  unfold lb_l_ball_2
  unfold bE at e1 ⊢
  simp [e0, e1]
theorem level_row {p : Int} (hp : 0 < p) (n : Int) (B : List Ef) (F : List (Ef × Int)) (hB : ∀ a ∈ B, a.1.length ≤ 100) (h1 : F.length + 4 * B.length ≤ 800000) {o4 : OV} (ho : o4.frz = some (.list (B.map efE))) (x1 x5 x6 x7 x8 : Option OV) :
    ∃ y6 y7 y8, lb_l_ball_3 [some (.fz (.int p)), x1, some (.fz (.int n)), some (.oK (bK F)), some o4, x5, x6, x7, x8] =
      some (.nx [some (.fz (.int p)), x1, some (.fz (.int n)), some (.oK (bK (lvlB p n (F, B)).1)), some (.fz (.list ((lvlB p n (F, B)).2.map efE))), some (.fz (.list ((lvlB p n (F, B)).2.map efE))), y6, y7, y8]) := by
  obtain ⟨env', e1, y6, y7, y8, rfl, l1, l2⟩ := loop_fold (g := lg_l_ball_2) (mb := lb_l_ball_2) efE (fun (i : Nat) s e => ∃ y6 y7 y8, e = bE p n x1 (some (.fz (.list (B.map efE)))) y6 y7 y8 s ∧ s.1.length ≤ F.length + 4 * i ∧ s.2.length ≤ 4 * i) (fun s a => (nbrE p).foldl (rowB p n a) s) B 0 (F, [])
    (bE p n x1 (some (.fz (.list (B.map efE)))) x6 x7 x8 (F, [])) ⟨x6, x7, x8, rfl, by show F.length ≤ _; omega, Nat.zero_le _⟩ (fun j a s e hj he => by
      obtain ⟨y6, y7, y8, rfl, l1, l2⟩ := he
      have ha : a ∈ B := List.mem_of_getElem? hj
      have hjB : j < B.length := (List.getElem?_eq_some_iff.mp hj).1
      obtain ⟨z7, z8, r1, r2, r3⟩ := unit_row hp n a (hB a ha) s (by omega) (by omega) x1 (some (.fz (.list (B.map efE)))) y7 y8
      exact ⟨bE p n x1 (some (.fz (.list (B.map efE)))) (some (.fz (efE a))) y7 y8 s, _, by simp [lg_l_ball_2, bE], r1, _, _, _, rfl, by omega, by omega⟩)
  rw [lvl_rows]
  refine ⟨y6, y7, y8, ?_⟩
  unfold lb_l_ball_3
  unfold bE at e1
  simp only [List.map_nil] at e1
  simp [e1, ho]
def pL (p : Int) : List Int := [2, 3, 5, 7, 11, 97]
theorem rgD1_get {n j : Nat} {x : D} (h : (rgD 1 n)[j]? = some x) : j < n ∧ x = .int (1 + (j : Int)) := by
  unfold rgD at h
  rw [List.getElem?_map] at h
  obtain ⟨y, hy, rfl⟩ := Option.map_eq_some_iff.mp h
  obtain ⟨h1, h2⟩ := List.getElem?_eq_some_iff.mp hy
  rw [List.getElem_range] at h2
  rw [List.length_range] at h1
  subst h2
  exact ⟨h1, rfl⟩
theorem ball_ok {p : Int} (hp : 2 ≤ p) (r : Nat) (hr : r ≤ 7) : ∃ outs, f_l_ball [.fz (.int p), .fz (.int r)] = some (.oK (bK (ballB p r).1), outs) ∧ outs = [some (.fz (.int p)), some (.fz (.int r))] := by
  have hpw : ∀ d : Nat, d ≤ 7 → 4 ^ d ≤ 16384 ∧ 4 ^ (d + 1) ≤ 65536 := fun d hd => by
    have h1 := Nat.pow_le_pow_right (show 0 < 4 by omega) hd
    have h2 := Nat.pow_le_pow_right (show 0 < 4 by omega) (show d + 1 ≤ 8 by omega)
    exact ⟨h1, h2⟩
  obtain ⟨env', e1, x2, o4, x5, x6, x7, x8, rfl, ho⟩ := loop_inv (g := lg_l_ball_3) (mb := lb_l_ball_3)
    (fun i e => ∃ x2 o4 x5 x6 x7 x8, e = [some (.fz (.int p)), some (.fz (.int r)), x2, some (.oK (bK (ballB p i).1)), some o4, x5, x6, x7, x8] ∧ o4.frz = some (.list ((ballB p i).2.map efE)))
    (rgD 1 r) 0 [some (.fz (.int p)), some (.fz (.int r)), none, some (.oK (bK (ballB p 0).1)), some (.oL ((ballB p 0).2.map efE)), none, none, none, none] ⟨none, _, none, none, none, none, rfl, rfl⟩ (fun j x e hj he => by
      obtain ⟨x2, o4, x5, x6, x7, x8, rfl, ho⟩ := he
      obtain ⟨hj1, rfl⟩ := rgD1_get hj
      rw [Nat.zero_add] at *
      have ib := ib_ball hp j
      have bl := ball_len p j
      have pw := hpw j (by omega)
      obtain ⟨y6, y7, y8, r1⟩ := level_row (p := p) (by omega) ((j + 1 : Nat) : Int) (ballB p j).2 (ballB p j).1 (fun a ha => by
        have h := (ib.bord a).mp ha
        have := (eb_size h.1 (Int.le_of_eq h.2)).len
        omega) (by omega) ho (some (.fz (.int r))) x5 x6 x7 x8
      have e2 : (1 : Int) + (j : Int) = ((j + 1 : Nat) : Int) := by omega
      rw [e2]
      exact ⟨_, _, by simp [lg_l_ball_3], r1, _, _, _, _, _, _, rfl, rfl⟩)
  have ed := disN_ok (mk := mFz (mTup (mCons (mOwn (mTup mNil)) (mCons (mOwn (mC (.fz (.int 0)))) mNil)))) (mv := mFz (mC (.fz (.int 0)))) (env := [some (.fz (.int p)), some (.fz (.int r)), none, none, none, none, none, none, none]) (e1 := [some (.fz (.int p)), some (.fz (.int r)), none, none, none, none, none, none, none]) (e2 := [some (.fz (.int p)), some (.fz (.int r)), none, none, none, none, none, none, none])
    (d := efE ([], 0)) (v := .int 0) (k := efK ([], 0)) (by simp [efE, ef, prs]) (by simp) (nk_ef _) rfl (efK_depth _)
  have hb0 : bK (ballB p 0).1 = [(efE ([], 0), .fz (.int 0))] := rfl
  have hb1 : (ballB p 0).2.map efE = [PyData.tuple [.tuple [], .int 0]] := rfl
  have hl : (rgD 1 r).length = r := by unfold rgD; rw [List.length_map, List.length_range]
  rw [hb0, hb1, hl, Nat.zero_add] at e1
  have hN : (1 : Int) + (r : Int) - 1 = (r : Nat) := by omega
  refine ⟨_, ?_, rfl⟩
  unfold f_l_ball b_l_ball
  have hq : ((r : Int) + 1).natAbs ≤ 1152921504606846976 := by omega
  simp [ed, e1, hN, hq]
theorem repr_i {x : Int} (h : -(2 ^ 119) < x ∧ x < 2 ^ 119) : fRepr (.fz (.int x)) = some (.fz (.str (PyData.shown (.int x)))) := by
  have hb : bits x ≤ 120 := bits_100 (by omega) (by omega)
  refine reprT (flatT x) ?_ (by show 0 ≤ 60; omega) ?_
  · show decide (x.natAbs.log2 < 1920) = true
    exact decide_eq_true (Nat.lt_of_le_of_lt hb (by decide))
  · show bits x + 2 ≤ _
    omega
/-- what the ball of a radius holds -/
theorem ball_mem {p : Int} (hp : 2 ≤ p) {r : Nat} {e : Ef} (h : e ∈ (ballB p r).1.map (·.1)) : EN p e ∧ sizeE p e ≤ r ∧ lkK (bK (ballB p r).1) (efK e) = some (.fz (.int (sizeE p e))) := by
  obtain ⟨n, h1, h2⟩ := lk_mem h
  have := (ib_ball hp r).ent _ h1
  refine ⟨this.1, ?_, ?_⟩
  · have h3 := this.2.1; have h4 := this.2.2; simp only at h3 h4; omega
  · have h3 : sizeE p e = n := this.2.1
    rw [h2, h3]
theorem len_b {p : Int} {a : Ef} (ha : EN p a) {r : Nat} (hr : r ≤ 7) (hs : sizeE p a ≤ r) : f_p_length [.fz (.int p), .fz (efE a)] = some (.fz (.int (sizeE p a)), [some (.fz (.int p)), some (.fz (efE a))]) := by
  have c : (7 : Int) < 2 ^ 110 := by decide +kernel
  exact lengthG ha (eb_size ha hs) (by omega) (by omega) (Int.le_refl _) (by omega)
theorem short_b {p : Int} (hp : 0 < p) (hp2 : p ≤ 97) {a : Ef} (ha : EN p a) {r : Nat} (hr : r ≤ 7) (hs : sizeE p a ≤ r) : f_p_shortest_program [.fz (.int p), .fz (efE a)] = some (.oL ((shortU p a).map unitD), [some (.fz (.int p)), some (.fz (efE a))]) := by
  have c : (7 : Int) < 2 ^ 110 := by decide +kernel
  exact shortG hp hp2 ha (by omega) (eb_size ha hs) (by omega) (by omega) (Int.le_refl _) (by omega)
theorem one_ok {p : Int} (hp : 2 ≤ p) {r : Nat} (hr : r ≤ 7) {e : Ef} (h : e ∈ (ballB p r).1.map (·.1)) (x0 x1 x5 x6 x7 : Option OV) :
    lb_law_1 [x0, x1, some (.fz (.int p)), some (.fK (bK (ballB p r).1)), some (.fz (efE e)), x5, x6, x7] = some (.nx [x0, x1, some (.fz (.int p)), some (.fK (bK (ballB p r).1)), some (.fz (efE e)), x5, x6, x7]) := by
  obtain ⟨h1, h2, h3⟩ := ball_mem hp h
  have e1 := len_b h1 hr h2
  have e2 := ixN_bK h3
  have s0 := (size_nn h1).1
  have c : (7 : Int) < 2 ^ 119 := by decide +kernel
  have e3 := repr_i (x := sizeE p e) ⟨by omega, by omega⟩
  unfold lb_law_1
  simp [e1, e2, e3]
theorem two_ok {p : Int} (hp : 2 ≤ p) (hp2 : p ≤ 97) {r : Nat} (hr : r ≤ 7) {n : Int} {k : List (Key × D)} (hk : Pn n k) (hn : n + 10 < 2 ^ 60) (x0 x4 x6 x7 : Option OV) :
    ∃ k' y4 y7, lb_law_2 [x0, some (.oD k), some (.fz (.int p)), some (.fK (bK (ballB p r).1)), x4, some (.oL (((ballB p r).1.map (·.1)).map efE)), x6, x7] = some (.nx [x0, some (.oD k'), some (.fz (.int p)), some (.fK (bK (ballB p r).1)), y4, some (.oL (((ballB p r).1.map (·.1)).map efE)), x6, y7]) ∧ Pn (n + 1) k' := by
  have hl := (ball_len p r).2
  have hpw := Nat.pow_le_pow_right (show 0 < 4 by omega) (show r + 1 ≤ 8 by omega)
  have h65 : 4 ^ 8 = 65536 := rfl
  have h0 := (ib_ball hp r).all ([], 0) ⟨List.Pairwise.nil, fun q hq => nomatch hq⟩ (by rw [size_id]; omega)
  obtain ⟨d, k', e0, hd, p1⟩ := pick (ds := ((ballB p r).1.map (·.1)).map efE) hk (by omega) (fun z => by
    rw [List.map_eq_nil_iff] at z
    rw [z] at h0
    cases h0) (by rw [List.length_map, List.length_map]; omega)
  obtain ⟨e, he, rfl⟩ := List.mem_map.mp hd
  obtain ⟨h1, h2, h3⟩ := ball_mem hp he
  have e1 := short_b (by omega) hp2 h1 hr h2
  have e2 := ixN_bK h3
  obtain ⟨w1, w2, w3⟩ := short_ok (p := p) (by omega) h1
  have e4 := unit_effect (p := p) (by omega) w1 (by omega)
  rw [w2] at e4
  have n1 := ne_sameE (a := e) (b := e) rfl
  refine ⟨k', some (.fz (efE e)), some (.oL ((shortU p e).map unitD)), ?_, p1⟩
  unfold lb_law_2
  simp [e0, e1, e2, e4, n1, w3, -List.map_map]
theorem law_true : ∀ ns : List Int, ns.length ≤ 63 → ∃ outs, C.f_law [.fz (.list (ns.map PySem.PyData.int))] = some (.fz (.bool true), outs) := by
  intro ns _
  obtain ⟨k, e, p0⟩ := pen_new ns
  obtain ⟨d, k1, e1, hd, p1⟩ := pick (ds := [PyData.int 2, PyData.int 2, PyData.int 3, PyData.int 3, PyData.int 5, PyData.int 7, PyData.int 11, PyData.int 97]) p0 (by omega) (by simp) (by decide)
  obtain ⟨p, rfl, hp, hp2⟩ : ∃ p : Int, d = .int p ∧ 2 ≤ p ∧ p ≤ 97 := by
    simp only [List.mem_cons, List.not_mem_nil, or_false] at hd
    rcases hd with rfl | rfl | rfl | rfl | rfl | rfl | rfl | rfl <;> exact ⟨_, rfl, by omega, by omega⟩
  obtain ⟨r, hr, er⟩ : ∃ r : Nat, r ≤ 7 ∧ (if p = 2 then (7 : Int) else if p = 3 then 6 else 5) = (r : Int) := by
    split
    · exact ⟨7, by omega, rfl⟩
    · split
      · exact ⟨6, by omega, rfl⟩
      · exact ⟨5, by omega, rfl⟩
  obtain ⟨_, eb, rfl⟩ := ball_ok hp r hr
  have ef := frz_bK (ballB p r).1
  obtain ⟨env1, hL1, y4, rfl⟩ := loop_inv (g := lg_law_1) (mb := lb_law_1) (fun i e => ∃ y4, e = [some (.fz (.list (ns.map PyData.int))), some (.oD k1), some (.fz (.int p)), some (.fK (bK (ballB p r).1)), y4, none, none, none])
    (((ballB p r).1.map (·.1)).map efE) 0 [some (.fz (.list (ns.map PyData.int))), some (.oD k1), some (.fz (.int p)), some (.fK (bK (ballB p r).1)), none, none, none, none] ⟨none, rfl⟩ (fun j x e hj he => by
      obtain ⟨y4, rfl⟩ := he
      obtain ⟨a, ha, rfl⟩ := List.mem_map.mp (List.mem_of_getElem? hj)
      exact ⟨_, _, by simp [lg_law_1], one_ok hp hr ha _ _ _ _ _, _, rfl⟩)
  obtain ⟨env2, hL2, k2, z4, z6, z7, rfl, p2⟩ := loop_inv (g := lg_law_2) (mb := lb_law_2)
    (fun i e => ∃ (k2 : List (Key × D)) (z4 z6 z7 : Option OV), e = [some (.fz (.list (ns.map PyData.int))), some (.oD k2), some (.fz (.int p)), some (.fK (bK (ballB p r).1)), z4, some (.oL (((ballB p r).1.map (·.1)).map efE)), z6, z7] ∧ Pn (1 + i) k2)
    (rgD 0 20) 0 [some (.fz (.list (ns.map PyData.int))), some (.oD k1), some (.fz (.int p)), some (.fK (bK (ballB p r).1)), y4, some (.oL (((ballB p r).1.map (·.1)).map efE)), none, none] ⟨k1, y4, none, none, rfl, p1.mono (by omega)⟩ (fun j x e hj he => by
      obtain ⟨k2, z4, z6, z7, rfl, p2⟩ := he
      obtain ⟨hj1, rfl⟩ := rgD_get hj
      obtain ⟨k', y4', y7, e1, p3⟩ := two_ok hp hp2 hr p2 (by omega) (some (.fz (.list (ns.map PyData.int)))) z4 (some (.fz (.int (j : Int)))) z7
      exact ⟨_, _, by simp [lg_law_2], e1, k', _, _, _, rfl, p3.mono (by omega)⟩)
  have hk := keys_bK (ballB p r).1
  refine ⟨[some (.fz (.list (ns.map PyData.int)))], ?_⟩
  rw [← er] at eb
  unfold f_law b_law
  by_cases a : p = 2
  · subst a
    rw [if_pos rfl] at eb
    simp [e, e1, eb, ef, hk, hL1, hL2, -List.map_map]
  · rw [if_neg a] at eb
    by_cases b : p = 3
    · subst b
      rw [if_pos rfl] at eb
      simp [e, e1, eb, ef, hk, hL1, hL2, -List.map_map]
    · rw [if_neg b] at eb
      simp [e, e1, eb, ef, hk, hL1, hL2, a, b, -List.map_map]
end C
open PySem PySem.W PyProof.Rows in
set_option maxRecDepth 100000 in
set_option maxHeartbeats 0 in
theorem PySem.Challenge.cw_dialroad_k51_lengths_by_search_holds : PySem.Challenge.rw_dialroad_k51_lengths_by_search.Holds := by
  w_on; o_law; k_head; (case hw => w_witness2)
  k_fill
  refine G.walkG (l := PySem.Challenge.rw_dialroad_k51_lengths_by_search) (n := 63) (k := 5) (x := "_law_script") (m := C.f_law) rfl (by decide) rfl ⟨rfl, by decide, by decide⟩ (fun w h Y => PySem.W.kIn_of Y) ?F C.law_true
  case F =>
    intro w mg fa h KX G hmg
    refine' C.all_mk KX G hmg ?a0 ?l0 ?c0 ?k0 ?a1 ?l1 ?c1 ?k1 ?a2 ?l2 ?c2 ?k2 ?a3 ?l3 ?c3 ?k3 ?a4 ?l4 ?c4 ?k4 ?a5 ?l5 ?c5 ?k5 ?a6 ?l6 ?c6 ?k6 ?a7 ?l7 ?c7 ?k7 ?a8 ?l8 ?c8 ?k8 ?a9 ?l9 ?c9 ?k9 ?a10 ?l10 ?c10 ?k10 ?a11 ?l11 ?c11 ?k11 ?a12 ?l12 ?c12 ?k12 ?a13 ?l13 ?c13 ?k13 ?a14 ?l14 ?c14 ?k14 ?a15 ?l15 ?c15 ?k15 ?a16 ?l16 ?c16 ?k16 ?q0 ?z_min ?z_max ?z_sum ?z_abs ?z_list ?z_len ?z_sorted ?z_tuple ?z_isinstance ?z_repr ?z_range
    (case a0 => k_is)
    (case l0 => k_is)
    (case c0 => k_is)
    (case k0 => k_is)
    (case a1 => k_is)
    (case l1 => k_is)
    (case c1 => k_is)
    (case k1 => k_is)
    (case a2 => k_is)
    (case l2 => k_is)
    (case c2 => k_is)
    (case k2 => k_is)
    (case a3 => k_is)
    (case l3 => k_is)
    (case c3 => k_is)
    (case k3 => k_is)
    (case a4 => k_is)
    (case l4 => k_is)
    (case c4 => k_is)
    (case k4 => k_is)
    (case a5 => k_is)
    (case l5 => k_is)
    (case c5 => k_is)
    (case k5 => k_is)
    (case a6 => k_is)
    (case l6 => k_is)
    (case c6 => k_is)
    (case k6 => k_is)
    (case a7 => k_is)
    (case l7 => k_is)
    (case c7 => k_is)
    (case k7 => k_is)
    (case a8 => k_is)
    (case l8 => k_is)
    (case c8 => k_is)
    (case k8 => k_is)
    (case a9 => k_is)
    (case l9 => k_is)
    (case c9 => k_is)
    (case k9 => k_is)
    (case a10 => k_is)
    (case l10 => k_is)
    (case c10 => k_is)
    (case k10 => k_is)
    (case a11 => k_is)
    (case l11 => k_is)
    (case c11 => k_is)
    (case k11 => k_is)
    (case a12 => k_is)
    (case l12 => k_is)
    (case c12 => k_is)
    (case k12 => k_is)
    (case a13 => k_is)
    (case l13 => k_is)
    (case c13 => k_is)
    (case k13 => k_is)
    (case a14 => k_is)
    (case l14 => k_is)
    (case c14 => k_is)
    (case k14 => k_is)
    (case a15 => k_is)
    (case l15 => k_is)
    (case c15 => k_is)
    (case k15 => k_is)
    (case a16 => k_is)
    (case l16 => k_is)
    (case c16 => k_is)
    (case k16 => k_is)
    (case q0 => k_is)
    (case z_min => k_is)
    (case z_max => k_is)
    (case z_sum => k_is)
    (case z_abs => k_is)
    (case z_list => k_is)
    (case z_len => k_is)
    (case z_sorted => k_is)
    (case z_tuple => k_is)
    (case z_isinstance => k_is)
    (case z_repr => k_is)
    (case z_range => k_is)
