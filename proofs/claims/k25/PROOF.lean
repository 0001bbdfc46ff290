import PyProof.Rows.All
import Wide.All
import OpenK.AllK
import Wide.FinOn
import HandS.ForMost
import HandS.IsInst
import HandS.Flow
import HandS.Style
import HandS.TupAny
import HandS.Codes
import HandS.Wide
import HandS.Deep
import HandS.Zip
import HandS.Exc
import HandS.ExcOwn
import HandS.TryMany
import HandS.WordsExc
import KE.KDictKeyed
import HandS.Dict
import HandS.Words
import HandS.Text
import HandS.More
import PyProof.ListStr
import KE.DatumOrd
import HandS.List
import HandS.Replace
import PyProof.Rows.StrRev
import PyProof.Rows.StrTemp
import PyProof.SliceStr2
import HandS.Ends
import HandS.RaiseMore
import PyProof.ReprRoads
import PyProof.ReprLen
import PyProof.StrLawsRepr
import PyProof.CallFns
import PyProof.StrOps2
import KE.GoesEnum
import KE.GoesNew
import HandS.Iter
import PyProof.SumAny
import PyProof.Rows.SumGenD
import PyProof.TwoTypesSub
import HandS.Strs
import PyProof.StrWalks
import HandS.Proxy
import PyProof.NeKinds
import KE.KDictDisplayH
import PyProof.TupleOfStr
import PyProof.Rows.SortShellAny
import HandS.Conv
import HandS.TupMul
import HandS.DictComp
import HandS.DeepEq
import PyProof.ListMulRight
import PyProof.AutoIntG3
import KE.DataFind
import PyProof.Rows.TupTab
import HandS.ExcIs
import PyProof.Rows.CountFlat
import HandS.TupLen
import PySem.Challenge.RW_wordrules_k25_spans_told
set_option Elab.async false
set_option linter.all false
set_option maxRecDepth 100000
set_option maxHeartbeats 4000000
/-! The A-layer: data as trees, what is mutated as cells; each reading of the hand layer has an abstract program that it follows. -/
namespace AL
open PySem PySem.Spec L2

inductive D where
  | non | bl (b : Bool) | int (i : Int) | str (x : Str) | lst (xs : List D) | tup (xs : List D) | dk (kvs : List (Key × D)) | scr (ns : List Int) | ce (a : Addr)
  deriving Inhabited
inductive Cell where
  | lst (xs : List D) | dk (kvs : List (Key × D)) | dt (kvs : List (List Key × D)) | dn (kvs : List (NestedKey × D)) | exc (nm : Str)
abbrev AH := Addr → Option Cell
def put (C : AH) (a : Addr) (c : Cell) : AH := fun b => if b = a then some c else C b
def del (C : AH) (a : Addr) : AH := fun b => if b = a then none else C b
@[simp] theorem put_same {C : AH} {a : Addr} {c : Cell} : put C a c a = some c := by unfold put; rw [if_pos rfl]
theorem put_ne {C : AH} {a b : Addr} {c : Cell} (h : b ≠ a) : put C a c b = C b := by unfold put; rw [if_neg h]
@[simp] theorem put_put {C : AH} {a : Addr} {c d : Cell} : put (put C a c) a d = put C a d := by
  funext b; unfold put; split <;> rfl

/-! ### heaps that grow -/
def Ex (H H' : Hp) : Prop := ∀ a o, H a = some o → H' a = some o
theorem Ex.refl (H : Hp) : Ex H H := fun _ _ h => h
theorem Ex.trans {H H1 H2 : Hp} (a : Ex H H1) (b : Ex H1 H2) : Ex H H2 := fun x o h => b x o (a x o h)
theorem Ex.new {H : Hp} {p : Addr} {o : HO} (h : H p = none) : Ex H (upd H p o) := fun a u e => by
  rw [upd_ne (ne_of_none e h)]
  exact e
theorem Ex.l {K : PySem.W.Frag} {H H' : Hp} {a : Addr} {xs : List V} (e : Ex H H') (h : SqL K H a xs) : SqL K H' a xs := by
  rcases h with (h | ⟨o, h⟩) | h
  · exact Or.inl (Or.inl (e a _ h))
  · exact Or.inl (Or.inr ⟨o, e a _ h⟩)
  · exact Or.inr h
theorem Ex.back {H H' : Hp} {p : Addr} (e : Ex H H') (h : H' p = none) : H p = none := by
  cases h1 : H p with
  | none => rfl
  | some o => rw [e p o h1] at h; cases h

/-! ### trees in a heap -/
mutual
inductive Rep (K : PySem.W.Frag) (F : Hp) : V → D → Prop
  | non : Rep K F .non .non
  | bl (b : Bool) : Rep K F (.bl b) (.bl b)
  | int (i : Int) : Rep K F (.int i) (.int i)
  | str (x : Str) : Rep K F (.str x) (.str x)
  | lst {a : Addr} {xs : List V} {ds : List D} : F a = some (.lst xs) → RepL K F xs ds → Rep K F (.ref a) (.lst ds)
  | tup {a : Addr} {xs : List V} {ds : List D} : F a = some (.tup xs) → RepL K F xs ds → Rep K F (.ref a) (.tup ds)
  | dk {a : Addr} {kvs : List (Key × V)} {es : List (Key × D)} : F a = some (.dK kvs) → RepK K F kvs es → Rep K F (.ref a) (.dk es)
  | scr {a : Addr} {ns : List Int} : SqL K F a (ns.map V.int) → Rep K F (.ref a) (.scr ns)
  | ce (a : Addr) : Rep K F (.ref a) (.ce a)
inductive RepL (K : PySem.W.Frag) (F : Hp) : List V → List D → Prop
  | nil : RepL K F [] []
  | cons {v : V} {vs : List V} {d : D} {ds : List D} : Rep K F v d → RepL K F vs ds → RepL K F (v :: vs) (d :: ds)
inductive RepK (K : PySem.W.Frag) (F : Hp) : List (Key × V) → List (Key × D) → Prop
  | nil : RepK K F [] []
  | cons {k : Key} {v : V} {vs : List (Key × V)} {d : D} {ds : List (Key × D)} : Rep K F v d → RepK K F vs ds → RepK K F ((k, v) :: vs) ((k, d) :: ds)
end
mutual
theorem Rep.mono {K : PySem.W.Frag} {F F' : Hp} (e : Ex F F') : ∀ {v : V} {d : D}, Rep K F v d → Rep K F' v d
  | _, _, .non => .non
  | _, _, .bl b => .bl b
  | _, _, .int i => .int i
  | _, _, .str x => .str x
  | _, _, .lst h r => .lst (e _ _ h) (RepL.mono e r)
  | _, _, .tup h r => .tup (e _ _ h) (RepL.mono e r)
  | _, _, .dk h r => .dk (e _ _ h) (RepK.mono e r)
  | _, _, .scr h => .scr (e.l h)
  | _, _, .ce a => .ce a
theorem RepL.mono {K : PySem.W.Frag} {F F' : Hp} (e : Ex F F') : ∀ {vs : List V} {ds : List D}, RepL K F vs ds → RepL K F' vs ds
  | _, _, .nil => .nil
  | _, _, .cons r t => .cons (Rep.mono e r) (RepL.mono e t)
theorem RepK.mono {K : PySem.W.Frag} {F F' : Hp} (e : Ex F F') : ∀ {vs : List (Key × V)} {ds : List (Key × D)}, RepK K F vs ds → RepK K F' vs ds
  | _, _, .nil => .nil
  | _, _, .cons r t => .cons (Rep.mono e r) (RepK.mono e t)
end
section
variable {K : PySem.W.Frag} {F F' : Hp}
theorem RepL.length : ∀ {vs : List V} {ds : List D}, RepL K F vs ds → vs.length = ds.length
  | _, _, .nil => rfl
  | _, _, .cons _ t => by rw [List.length_cons, List.length_cons, RepL.length t]
theorem RepL.get : ∀ {vs : List V} {ds : List D} {i : Nat} {v : V}, RepL K F vs ds → vs[i]? = some v → ∃ d, ds[i]? = some d ∧ Rep K F v d
  | _, _, _, _, .nil, e => by simp at e
  | _, _, 0, _, .cons r _, e => by simp at e; subst e; exact ⟨_, rfl, r⟩
  | _, _, i + 1, v, .cons _ t, e => by
    obtain ⟨u, h1, h2⟩ := RepL.get (i := i) (v := v) t (by simpa using e)
    exact ⟨u, by simpa using h1, h2⟩
theorem RepL.getD : ∀ {vs : List V} {ds : List D} {i : Nat} {d : D}, RepL K F vs ds → ds[i]? = some d → ∃ v, vs[i]? = some v ∧ Rep K F v d
  | _, _, _, _, .nil, e => by simp at e
  | _, _, 0, _, .cons r _, e => by simp at e; subst e; exact ⟨_, rfl, r⟩
  | _, _, i + 1, v, .cons _ t, e => by
    obtain ⟨u, h1, h2⟩ := RepL.getD (i := i) (d := v) t (by simpa using e)
    exact ⟨u, by simpa using h1, h2⟩
theorem RepL.set {x : V} {u : D} (r : Rep K F x u) : ∀ {xs : List V} {us : List D} (i : Nat), RepL K F xs us → RepL K F (xs.set i x) (us.set i u)
  | _, _, _, .nil => .nil
  | _, _, 0, .cons _ t => .cons r t
  | _, _, i + 1, .cons q t => .cons q (RepL.set r i t)
theorem RepL.append : ∀ {xs ys : List V} {us ws : List D}, RepL K F xs us → RepL K F ys ws → RepL K F (xs ++ ys) (us ++ ws)
  | _, _, _, _, .nil, s => s
  | _, _, _, _, .cons r t, s => .cons r (RepL.append t s)
theorem RepL.take : ∀ {xs : List V} {us : List D} (n : Nat), RepL K F xs us → RepL K F (xs.take n) (us.take n)
  | _, _, 0, _ => .nil
  | _, _, _ + 1, .nil => .nil
  | _, _, n + 1, .cons r t => .cons r (RepL.take n t)
theorem RepL.drop : ∀ {xs : List V} {us : List D} (n : Nat), RepL K F xs us → RepL K F (xs.drop n) (us.drop n)
  | _, _, 0, r => r
  | _, _, _ + 1, .nil => .nil
  | _, _, n + 1, .cons _ t => RepL.drop n t
theorem RepL.reverse : ∀ {xs : List V} {us : List D}, RepL K F xs us → RepL K F xs.reverse us.reverse
  | _, _, .nil => .nil
  | _, _, .cons r t => by
    rw [List.reverse_cons, List.reverse_cons]
    exact RepL.append (RepL.reverse t) (.cons r .nil)
theorem RepL.dropLast {xs : List V} {us : List D} (h : RepL K F xs us) : RepL K F xs.dropLast us.dropLast := by
  rw [List.dropLast_eq_take, List.dropLast_eq_take, h.length]
  exact h.take _
theorem RepL.erase : ∀ {xs : List V} {us : List D} (i : Nat), RepL K F xs us → RepL K F (xs.eraseIdx i) (us.eraseIdx i)
  | _, _, _, .nil => .nil
  | _, _, 0, .cons _ t => t
  | _, _, i + 1, .cons q t => .cons q (RepL.erase i t)
theorem RepL.ints : ∀ ns : List Int, RepL K F (ns.map V.int) (ns.map D.int)
  | [] => .nil
  | n :: ns => .cons (.int n) (RepL.ints ns)
theorem RepL.strs : ∀ ns : List Str, RepL K F (ns.map V.str) (ns.map D.str)
  | [] => .nil
  | n :: ns => .cons (.str n) (RepL.strs ns)
theorem RepL.ofInts : ∀ {xs : List V} {ns : List Int}, RepL K F xs (ns.map D.int) → xs = ns.map V.int
  | _, [], .nil => rfl
  | _, n :: ns, .cons (.int _) t => by rw [List.map_cons, RepL.ofInts t]
theorem RepL.ofStrs : ∀ {xs : List V} {ns : List Str}, RepL K F xs (ns.map D.str) → xs = ns.map V.str
  | _, [], .nil => rfl
  | _, n :: ns, .cons (.str _) t => by rw [List.map_cons, RepL.ofStrs t]
theorem RepL.ofBls : ∀ {xs : List V} {ns : List Bool}, RepL K F xs (ns.map D.bl) → xs = ns.map V.bl
  | _, [], .nil => rfl
  | _, n :: ns, .cons (.bl _) t => by rw [List.map_cons, RepL.ofBls t]
end

/-- entries whose keys are tuples -/
inductive RepT (K : PySem.W.Frag) (F : Hp) : List (List Key × V) → List (List Key × D) → Prop
  | nil : RepT K F [] []
  | cons {k : List Key} {v : V} {vs : List (List Key × V)} {d : D} {ds : List (List Key × D)} : Rep K F v d → RepT K F vs ds → RepT K F ((k, v) :: vs) ((k, d) :: ds)
theorem RepT.mono {K : PySem.W.Frag} {F F' : Hp} (e : Ex F F') : ∀ {vs : List (List Key × V)} {ds : List (List Key × D)}, RepT K F vs ds → RepT K F' vs ds
  | _, _, .nil => .nil
  | _, _, .cons r t => .cons (r.mono e) (t.mono e)
/-! entries whose keys are tuples of any kind -/
mutual
/-- a value that is a key -/
inductive VKey (F : Hp) : V → NestedKey → Prop
  | non : VKey F .non .none
  | bl (b : Bool) : VKey F (.bl b) (.num (if b = true then 1 else 0))
  | int (i : Int) : VKey F (.int i) (.num i)
  | str (x : Str) : VKey F (.str x) (.text x)
  | tup {a : Addr} {vs : List V} {ks : List NestedKey} : F a = some (.tup vs) → VKeys F vs ks → VKey F (.ref a) (.tup ks)
inductive VKeys (F : Hp) : List V → List NestedKey → Prop
  | nil : VKeys F [] []
  | cons {v : V} {vs : List V} {k : NestedKey} {ks : List NestedKey} : VKey F v k → VKeys F vs ks → VKeys F (v :: vs) (k :: ks)
end
mutual
theorem VKey.mono {F F' : Hp} (e : Ex F F') : ∀ {v : V} {k : NestedKey}, VKey F v k → VKey F' v k
  | _, _, .non => .non
  | _, _, .bl b => .bl b
  | _, _, .int i => .int i
  | _, _, .str x => .str x
  | _, _, .tup h r => .tup (e _ _ h) (VKeys.mono e r)
theorem VKeys.mono {F F' : Hp} (e : Ex F F') : ∀ {v : List V} {k : List NestedKey}, VKeys F v k → VKeys F' v k
  | _, _, .nil => .nil
  | _, _, .cons r t => .cons (VKey.mono e r) (VKeys.mono e t)
end
inductive RepN (K : PySem.W.Frag) (F : Hp) : List (NestedKey × Addr × V) → List (NestedKey × D) → Prop
  | nil : RepN K F [] []
  | cons {k : NestedKey} {a : Addr} {v : V} {vs : List (NestedKey × Addr × V)} {d : D} {ds : List (NestedKey × D)} : VKey F (.ref a) k → k.depth ≤ 8 → Rep K F v d → RepN K F vs ds → RepN K F ((k, a, v) :: vs) ((k, d) :: ds)
theorem RepN.mono {K : PySem.W.Frag} {F F' : Hp} (e : Ex F F') : ∀ {vs : List (NestedKey × Addr × V)} {ds : List (NestedKey × D)}, RepN K F vs ds → RepN K F' vs ds
  | _, _, .nil => .nil
  | _, _, .cons a b r t => .cons (a.mono e) b (r.mono e) (t.mono e)
/-- at p stands a dict with these entries -/
def DictN (w : World) (p : Addr) (xs : List (NestedKey × Addr × V)) : Heap → Prop := fun h => xs.length ≤ sizeLine ∧ (p == sysModules) = false ∧
  ∃ ys : List (NestedKey × Addr × Value), Paired (fun (x : NestedKey × Addr × V) (y : NestedKey × Addr × Value) => x.1 = y.1 ∧ x.2.1 = y.2.1 ∧ RelV x.2.2 y.2.2) xs ys ∧
  ∃ (o : Obj) (es : Array DictEntry) (ep : Nat), h.get? p = some o ∧ o.ExactDict ∧ o.data = .dict es ep ∧ es.toList = ys.map (fun x => (⟨x.1.hash w, .ref x.2.1, x.2.2⟩ : DictEntry)) ∧ (ys.map (·.1)).Nodup
/-- the grounds: the world, the module's names -/
structure Gd where
  w : World
  mg : Str → Option Value
/-- at p stands an exception of a class, without attributes -/
def ExcAt (cls : Value) (p : Addr) : Heap → Prop := fun h => ∃ (oe : Obj) (vs : Array Value), h.get? p = some oe ∧ oe.cls = cls ∧ oe.dict = none ∧ oe.data = .fields vs
/-- what a cell holds -/
inductive CellC (w : Gd) (K : PySem.W.Frag) (F : Hp) (p : Addr) : HO → Cell → Prop
  | lst {xs : List V} {ds : List D} : RepL K F xs ds → CellC w K F p (.lst xs) (.lst ds)
  | dk {kvs : List (Key × V)} {es : List (Key × D)} : RepK K F kvs es → CellC w K F p (.dK kvs) (.dk es)
  | dt {kvs : List (List Key × V)} {es : List (List Key × D)} : RepT K F kvs es → CellC w K F p (.dT kvs) (.dt es)
  | dn {xs : List (NestedKey × Addr × V)} {es : List (NestedKey × D)} : RepN K F xs es → CellC w K F p (.ext (DictN w.w p xs)) (.dn es)
  | exc {nm : Str} {cls : Value} : w.mg nm = some cls → CellC w K F p (.ext (ExcAt cls p)) (.exc nm)
theorem CellC.mono {w : Gd} {K : PySem.W.Frag} {F F' : Hp} {p : Addr} (e : Ex F F') {o : HO} {c : Cell} : CellC w K F p o c → CellC w K F' p o c
  | .lst r => .lst (r.mono e)
  | .dk r => .dk (r.mono e)
  | .dt r => .dt (r.mono e)
  | .dn r => .dn (r.mono e)
  | .exc h => .exc h
/-- what was known, and kept aside, where the def, or the try, was entered -/
structure Bs where
  F0 : Hp
  R0 : Hp
  g : Gd
/-- the empty ground -/
def Bs.nil (w : Gd) : Bs := ⟨fun _ => none, fun _ => none, w⟩
/-- F: what is known for good; C: the cells; R: what is kept aside -/
structure Sat (B : Bs) (K : PySem.W.Frag) (F : Hp) (C : AH) (R H : Hp) : Prop where
  bF : Ex B.F0 F
  bR : Ex B.R0 R
  ex : Ex F H
  cell : ∀ p c, C p = some c → F p = none ∧ ∃ o, H p = some o ∧ CellC B.g K F p o c
  priv : ∀ p o, R p = some o → F p = none ∧ C p = none ∧ H p = some o
section
variable {B : Bs} {K : PySem.W.Frag} {F F' : Hp} {C : AH} {R H : Hp} {p : Addr}
theorem Sat.rebase {B' : Bs} (S : Sat B K F C R H) (hw : B'.g = B.g) (h1 : Ex B'.F0 F) (h2 : Ex B'.R0 R) : Sat B' K F C R H := ⟨h1, h2, S.ex, fun p c e => by rw [hw]; exact S.cell p c e, S.priv⟩
theorem Sat.nil (S : Sat B K F C R H) : Sat (Bs.nil B.g) K F C R H := S.rebase rfl (fun _ _ e => by cases e) (fun _ _ e => by cases e)
/-- back behind a call -/
theorem Sat.back {C0 : AH} {H0 : Hp} {F1 : Hp} {C1 : AH} {H1 : Hp} (S : Sat B K F C0 R H0) (e : Ex F F1) (S1 : Sat (Bs.nil B.g) K F1 C1 R H1) : Sat B K F1 C1 R H1 := S1.rebase rfl (S.bF.trans e) S.bR
theorem Sat.freeB (S : Sat B K F C R H) (h : R p = none) : B.R0 p = none := S.bR.back h
theorem Sat.freeF (S : Sat B K F C R H) (h : H p = none) : F p = none := S.ex.back h
theorem Sat.freeC (S : Sat B K F C R H) (h : H p = none) : C p = none := by
  cases q : C p with
  | none => rfl
  | some c => obtain ⟨_, o, e, _⟩ := S.cell p c q; rw [h] at e; cases e
theorem Sat.freeR (S : Sat B K F C R H) (h : H p = none) : R p = none := by
  cases q : R p with
  | none => rfl
  | some c => have e := (S.priv p c q).2.2; rw [h] at e; cases e
/-- a new object, known for good -/
theorem Sat.newF (S : Sat B K F C R H) (h : H p = none) (o : HO) : Sat B K (upd F p o) C R (upd H p o) := by
  have hF := S.freeF h
  refine ⟨S.bF.trans (Ex.new hF), S.bR, fun a u e => ?_, fun q c e => ?_, fun q u e => ?_⟩
  · by_cases ha : a = p
    · subst ha; rw [upd_same] at e ⊢; exact e
    · rw [upd_ne ha] at e ⊢; exact S.ex _ _ e
  · obtain ⟨h1, u, h2, h3⟩ := S.cell q c e
    have hq : q ≠ p := ne_of_none h2 h
    exact ⟨by rw [upd_ne hq]; exact h1, u, by rw [upd_ne hq]; exact h2, h3.mono (Ex.new hF)⟩
  · obtain ⟨h1, h2, h3⟩ := S.priv q u e
    have hq : q ≠ p := ne_of_none h3 h
    exact ⟨by rw [upd_ne hq]; exact h1, h2, by rw [upd_ne hq]; exact h3⟩
/-- a cell is made, or changed -/
theorem Sat.setC (S : Sat B K F C R H) (hF : F p = none) (hR : R p = none) {o : HO} {c : Cell} (h : CellC B.g K F p o c) : Sat B K F (put C p c) R (upd H p o) := by
  refine ⟨S.bF, S.bR, fun a u e => ?_, fun q d e => ?_, fun q u e => ?_⟩
  · rw [upd_ne (ne_of_none e hF)]; exact S.ex _ _ e
  · by_cases hq : q = p
    · subst hq; rw [put_same] at e; cases e; exact ⟨hF, o, upd_same, h⟩
    · rw [put_ne hq] at e
      obtain ⟨h1, u, h2, h3⟩ := S.cell q d e
      exact ⟨h1, u, by rw [upd_ne hq]; exact h2, h3⟩
  · have hq : q ≠ p := ne_of_none e hR
    obtain ⟨h1, h2, h3⟩ := S.priv q u e
    exact ⟨h1, by rw [put_ne hq]; exact h2, by rw [upd_ne hq]; exact h3⟩
theorem Sat.newC (S : Sat B K F C R H) (h : H p = none) {o : HO} {c : Cell} (hc : CellC B.g K F p o c) : Sat B K F (put C p c) R (upd H p o) := S.setC (S.freeF h) (S.freeR h) hc
theorem Sat.mutC (S : Sat B K F C R H) {c0 : Cell} (h : C p = some c0) {o : HO} {c : Cell} (hc : CellC B.g K F p o c) : Sat B K F (put C p c) R (upd H p o) := by
  refine S.setC (S.cell p c0 h).1 ?_ hc
  cases q : R p with
  | none => rfl
  | some u => have e := (S.priv p u q).2.1; rw [h] at e; cases e
/-- kept aside -/
theorem Sat.setR (S : Sat B K F C R H) (hF : F p = none) (hC : C p = none) (hB : B.R0 p = none) (o : HO) : Sat B K F C (upd R p o) (upd H p o) := by
  refine ⟨S.bF, fun q u e => by rw [upd_ne (ne_of_none e hB)]; exact S.bR q u e, fun a u e => ?_, fun q d e => ?_, fun q u e => ?_⟩
  · rw [upd_ne (ne_of_none e hF)]; exact S.ex _ _ e
  · have hq : q ≠ p := fun z => by rw [z, hC] at e; cases e
    obtain ⟨h1, u, h2, h3⟩ := S.cell q d e
    exact ⟨h1, u, by rw [upd_ne hq]; exact h2, h3⟩
  · by_cases hq : q = p
    · subst hq; rw [upd_same] at e; cases e; exact ⟨hF, hC, upd_same⟩
    · rw [upd_ne hq] at e
      obtain ⟨h1, h2, h3⟩ := S.priv q u e
      exact ⟨h1, h2, by rw [upd_ne hq]; exact h3⟩
/-- what was kept aside is known for good, is a cell -/
theorem Sat.outF (S : Sat B K F C (upd R p o) H) (hR : R p = none) (hB : B.R0 p = none) : Sat B K (upd F p o) C R H := by
  obtain ⟨f, c, h⟩ := S.priv p o upd_same
  refine ⟨S.bF.trans (Ex.new f), fun q u e => by have := S.bR q u e; rwa [upd_ne (ne_of_none e hB)] at this, fun a u e => ?_, fun q d e => ?_, fun q u e => ?_⟩
  · by_cases ha : a = p
    · subst ha; rw [upd_same] at e; cases e; exact h
    · rw [upd_ne ha] at e; exact S.ex _ _ e
  · have hq : q ≠ p := fun z => by rw [z, c] at e; cases e
    obtain ⟨h1, u, h2, h3⟩ := S.cell q d e
    exact ⟨by rw [upd_ne hq]; exact h1, u, h2, h3.mono (Ex.new f)⟩
  · have hq : q ≠ p := ne_of_none e hR
    obtain ⟨h1, h2, h3⟩ := S.priv q u (by rw [upd_ne hq]; exact e)
    exact ⟨by rw [upd_ne hq]; exact h1, h2, h3⟩
theorem Sat.outC {o : HO} {c : Cell} (S : Sat B K F C (upd R p o) H) (hR : R p = none) (hB : B.R0 p = none) (hc : CellC B.g K F p o c) : Sat B K F (put C p c) R H := by
  obtain ⟨f, c0, h⟩ := S.priv p o upd_same
  refine ⟨S.bF, fun q u e => by have := S.bR q u e; rwa [upd_ne (ne_of_none e hB)] at this, S.ex, fun q d e => ?_, fun q u e => ?_⟩
  · by_cases hq : q = p
    · subst hq; rw [put_same] at e; cases e; exact ⟨f, o, h, hc⟩
    · rw [put_ne hq] at e; exact S.cell q d e
  · have hq : q ≠ p := ne_of_none e hR
    obtain ⟨h1, h2, h3⟩ := S.priv q u (by rw [upd_ne hq]; exact e)
    exact ⟨h1, by rw [put_ne hq]; exact h2, h3⟩
/-- a cell is changed no more -/
theorem Sat.freeze {o : HO} {c : Cell} (S : Sat B K F C R H) (h : C p = some c) (hH : H p = some o) : Sat B K (upd F p o) (del C p) R H := by
  obtain ⟨f, _, _⟩ := S.cell p c h
  refine ⟨S.bF.trans (Ex.new f), S.bR, fun a u e => ?_, fun q d e => ?_, fun q u e => ?_⟩
  · by_cases ha : a = p
    · subst ha; rw [upd_same] at e; cases e; exact hH
    · rw [upd_ne ha] at e; exact S.ex _ _ e
  · by_cases hq : q = p
    · subst hq; unfold del at e; rw [if_pos rfl] at e; cases e
    · unfold del at e; rw [if_neg hq] at e
      obtain ⟨h1, u, h2, h3⟩ := S.cell q d e
      exact ⟨by rw [upd_ne hq]; exact h1, u, h2, h3.mono (Ex.new f)⟩
  · obtain ⟨h1, h2, h3⟩ := S.priv q u e
    have hq : q ≠ p := fun z => by rw [z, h] at h2; cases h2
    refine ⟨by rw [upd_ne hq]; exact h1, ?_, h3⟩
    unfold del; rw [if_neg hq]; exact h2
end

/-! ### slots -/
abbrev ASt := List (Option D)
structure Slo (K : PySem.W.Frag) (F : Hp) (s : ASt) (σ : St) : Prop where
  len : s.length = σ.length
  at' : ∀ (i : Nat) (d : D), s[i]? = some (some d) → ∃ v, σ[i]? = some (some v) ∧ Rep K F v d
section
variable {K : PySem.W.Frag} {F F' : Hp} {s : ASt} {σ : St}
theorem Slo.mono (r : Slo K F s σ) (e : Ex F F') : Slo K F' s σ := ⟨r.len, fun i d h => let ⟨v, a, b⟩ := r.at' i d h; ⟨v, a, b.mono e⟩⟩
theorem Slo.set (r : Slo K F s σ) {v : V} {d : D} (h : Rep K F v d) (i : Nat) : Slo K F (s.set i (some d)) (σ.set i (some v)) := by
  refine ⟨by rw [List.length_set, List.length_set, r.len], fun j e q => ?_⟩
  by_cases hj : i = j
  · subst hj
    by_cases hi : i < s.length
    · rw [List.getElem?_set_self hi] at q
      cases q
      exact ⟨v, List.getElem?_set_self (by rw [← r.len]; exact hi), h⟩
    · rw [List.getElem?_eq_none (by simpa using hi)] at q; cases q
  · rw [List.getElem?_set_ne hj] at q ⊢
    exact r.at' j e q
theorem Slo.forget (r : Slo K F s σ) (i : Nat) : Slo K F (s.set i none) (σ.set i none) := by
  refine ⟨by rw [List.length_set, List.length_set, r.len], fun j e q => ?_⟩
  by_cases hj : i = j
  · subst hj
    by_cases hi : i < s.length
    · rw [List.getElem?_set_self hi] at q; cases q
    · rw [List.getElem?_eq_none (by simpa using hi)] at q; cases q
  · rw [List.getElem?_set_ne hj] at q ⊢
    exact r.at' j e q
/-- only the abstract slot changes -/
theorem Slo.reset (r : Slo K F s σ) {i : Nat} {d0 d : D} (h0 : s[i]? = some (some d0)) (h : ∀ v, Rep K F v d0 → Rep K F v d) : Slo K F (s.set i (some d)) σ := by
  refine ⟨by rw [List.length_set, r.len], fun j e q => ?_⟩
  by_cases hj : i = j
  · subst hj
    have hi : i < s.length := (List.getElem?_eq_some_iff.mp h0).1
    rw [List.getElem?_set_self hi] at q
    cases q
    obtain ⟨v, h1, h2⟩ := r.at' i d0 h0
    exact ⟨v, h1, h v h2⟩
  · rw [List.getElem?_set_ne hj] at q
    exact r.at' j e q
def wipeA (s : ASt) : List Nat → ASt
  | [] => s
  | v :: vs => (wipeA s vs).set v none
theorem Slo.wipe (r : Slo K F s σ) : ∀ vs : List Nat, Slo K F (wipeA s vs) (L2.wipe σ vs)
  | [] => r
  | v :: vs => (Slo.wipe r vs).forget v
theorem Slo.start {vs : List V} {ds : List D} (h : RepL K F vs ds) (n : Nat) : Slo K F (ds.map some ++ List.replicate (n - ds.length) none) (vs.map some ++ List.replicate (n - vs.length) none) := by
  have e := h.length
  refine ⟨by simp [e], fun i d q => ?_⟩
  by_cases hi : i < ds.length
  · rw [List.getElem?_append_left (by simpa using hi), List.getElem?_map] at q
    rw [List.getElem?_append_left (by simpa [e] using hi), List.getElem?_map]
    cases z : ds[i]? with
    | none => rw [z] at q; cases q
    | some d' =>
      rw [z] at q
      cases q
      obtain ⟨v, h1, h2⟩ := h.getD z
      exact ⟨v, by rw [h1]; rfl, h2⟩
  · rw [List.getElem?_append_right (by simpa using hi), List.getElem?_replicate] at q
    split at q <;> cases q
end
end AL

namespace AL
open PySem PySem.Spec L2
variable {B : Bs}

/-! ### abstract programs -/
abbrev AE' := ASt → AH → (D → AH → Prop) → Prop
abbrev AT' := ASt → AH → (Bool → AH → Prop) → Prop
abbrev AA' := ASt → AH → (List D → AH → Prop) → Prop
structure AEnds where
  nx : ASt → AH → Prop
  rt : D → AH → Prop
  bk : ASt → AH → Prop := fun _ _ => False
  ct : ASt → AH → Prop := fun _ _ => False
abbrev AS' := AEnds → ASt → AH → Prop
abbrev AG' := D → ASt → AH → (ASt → AH → Prop) → Prop
/-- what is walked: the items, what must stay so, the cells -/
abbrev AI' := ASt → AH → (List D → (AH → Prop) → AH → Prop) → Prop
abbrev ASp := List D → AH → (D → AH → Prop) → Prop

section
variable (B : Bs) (K : PySem.W.Frag)
def SimE (te : TE) (a : AE') : Prop := ∀ (σ : L2.St) (s : ASt) (F : Hp) (C : AH) (R H : Hp) (Q : VK) (P : D → AH → Prop), Slo K F s σ → Sat B K F C R H → a s C P →
  (∀ d v F' C' H', Ex F F' → Sat B K F' C' R H' → Rep K F' v d → P d C' → Q v H') → te σ H Q
def SimT (tt : TT) (a : AT') : Prop := ∀ (σ : L2.St) (s : ASt) (F : Hp) (C : AH) (R H : Hp) (Q : Bool → Hp → Prop) (P : Bool → AH → Prop), Slo K F s σ → Sat B K F C R H → a s C P →
  (∀ b F' C' H', Ex F F' → Sat B K F' C' R H' → P b C' → Q b H') → tt σ H Q
def SimA (n : Nat) (ta : TA) (a : AA') : Prop := ∀ (σ : L2.St) (s : ASt) (F : Hp) (C : AH) (R H : Hp) (Q : List V → Hp → Prop) (P : List D → AH → Prop), Slo K F s σ → Sat B K F C R H → a s C P →
  (∀ ds vs F' C' H', Ex F F' → Sat B K F' C' R H' → RepL K F' vs ds → ds.length = n → P ds C' → Q vs H') → ta σ H Q
structure EndsR (F R : Hp) (E : AEnds) (D' : Ends) : Prop where
  nx : ∀ s σ F' C' H', Ex F F' → Slo K F' s σ → Sat B K F' C' R H' → E.nx s C' → D'.nx σ H'
  rt : ∀ d v F' C' H', Ex F F' → Rep K F' v d → Sat B K F' C' R H' → E.rt d C' → D'.rt v H'
  bk : ∀ s σ F' C' H', Ex F F' → Slo K F' s σ → Sat B K F' C' R H' → E.bk s C' → D'.bk σ H'
  ct : ∀ s σ F' C' H', Ex F F' → Slo K F' s σ → Sat B K F' C' R H' → E.ct s C' → D'.ct σ H'
def SimS (ts : TS) (a : AS') : Prop := ∀ (D' : Ends) (E : AEnds) (σ : L2.St) (s : ASt) (F : Hp) (C : AH) (R H : Hp), EndsR B K F R E D' → Slo K F s σ → Sat B K F C R H → a E s C → ts D' σ H
def SimG (g : TG) (a : AG') : Prop := ∀ (v : V) (d : D) (σ : L2.St) (s : ASt) (F : Hp) (C : AH) (R H : Hp) (Q : L2.St → Hp → Prop) (P : ASt → AH → Prop), Slo K F s σ → Sat B K F C R H → Rep K F v d → a d s C P →
  (∀ s' σ' F' C' H', Ex F F' → Slo K F' s' σ' → Sat B K F' C' R H' → P s' C' → Q σ' H') → g v σ H Q
/-- an iterator walks the items -/
structure Walks (F : Hp) (items : List D) (hold : AH → Prop) (J : It) : Prop where
  stop : ∀ F' C' R' H', Ex F F' → Sat B K F' C' R' H' → hold C' → J.stop items.length H'
  go : ∀ F' C' R' H' i, Ex F F' → Sat B K F' C' R' H' → hold C' → i < items.length → J.go i H'
  yld : ∀ F' C' R' H' i x H'', Ex F F' → Sat B K F' C' R' H' → hold C' → i < items.length → J.yld i H' x H'' → ∃ d F'', items[i]? = some d ∧ Ex F' F'' ∧ Sat B K F'' C' R' H'' ∧ Rep K F'' x d
def SimI (wi : TI) (a : AI') : Prop := ∀ (σ : L2.St) (s : ASt) (F : Hp) (C : AH) (R H : Hp) (Q : It → Hp → Prop) (P : List D → (AH → Prop) → AH → Prop), Slo K F s σ → Sat B K F C R H → a s C P →
  (∀ items hold J F' C' H', Ex F F' → Sat B K F' C' R H' → Walks B K F' items hold J → P items hold C' → Q J H') → wi σ H Q
def SimR2 (r : R2) (a : D → D → AH → (D → AH → Prop) → Prop) : Prop := ∀ (v w : V) (d e : D) (F : Hp) (C : AH) (R H : Hp) (Q : VK) (P : D → AH → Prop), Sat B K F C R H → Rep K F v d → Rep K F w e → a d e C P →
  (∀ d v F' C' H', Ex F F' → Sat B K F' C' R H' → Rep K F' v d → P d C' → Q v H') → r v w H Q
def SimR1 (r : V → Hp → VK → Prop) (a : D → AH → (D → AH → Prop) → Prop) : Prop := ∀ (v : V) (d : D) (F : Hp) (C : AH) (R H : Hp) (Q : VK) (P : D → AH → Prop), Sat B K F C R H → Rep K F v d → a d C P →
  (∀ d v F' C' H', Ex F F' → Sat B K F' C' R H' → Rep K F' v d → P d C' → Q v H') → r v H Q
def SimRL (r : List V → Hp → VK → Prop) (a : ASp) : Prop := ∀ (vs : List V) (ds : List D) (F : Hp) (C : AH) (R H : Hp) (Q : VK) (P : D → AH → Prop), Sat B K F C R H → RepL K F vs ds → a ds C P →
  (∀ d v F' C' H', Ex F F' → Sat B K F' C' R H' → Rep K F' v d → P d C' → Q v H') → r vs H Q
def SimRM (r : V → List V → Hp → VK → Prop) (a : D → ASp) : Prop := ∀ (v : V) (d : D) (vs : List V) (ds : List D) (F : Hp) (C : AH) (R H : Hp) (Q : VK) (P : D → AH → Prop), Sat B K F C R H → Rep K F v d → RepL K F vs ds → a d ds C P →
  (∀ d v F' C' H', Ex F F' → Sat B K F' C' R H' → Rep K F' v d → P d C' → Q v H') → r v vs H Q
end
structure AE (B : Bs) (X : Cx) (e : Expr) (te : TE) (a : AE') : Prop where
  pe : PE X e te
  sim : SimE B X.K te a
structure AT (B : Bs) (X : Cx) (e : Expr) (tt : TT) (a : AT') : Prop where
  pt : PT X e tt
  sim : SimT B X.K tt a
structure AW (B : Bs) (X : Cx) (e : Expr) (tt : TT) (a : AT') : Prop where
  pw : PW X e tt
  sim : SimT B X.K tt a
structure ATs (B : Bs) (X : Cx) (es : List Expr) (tt : TT) (a : AT') : Prop where
  pts : PTs X es tt
  sim : SimT B X.K tt a
structure AA (B : Bs) (X : Cx) (es : List Expr) (n : Nat) (ta : TA) (a : AA') : Prop where
  pa : PA X es ta
  sim : SimA B X.K n ta a
structure AS (B : Bs) (X : Cx) (st : Stmt) (ts : TS) (a : AS') : Prop where
  ps : PS X st ts
  sim : SimS B X.K ts a
structure ASs (B : Bs) (X : Cx) (st : List Stmt) (ts : TS) (a : AS') : Prop where
  ps : PSs X st ts
  sim : SimS B X.K ts a
/-- a target stores to the slots vs alone -/
def GIn (vs : List Nat) (g : TG) : Prop := ∀ x σ H (Q Q' : L2.St → Hp → Prop), g x σ H Q → (∀ σ2 H2, L2.wipe σ2 vs = L2.wipe σ vs → Q σ2 H2 → Q' σ2 H2) → g x σ H Q'
structure AG (B : Bs) (X : Cx) (e : Expr) (vs : List Nat) (g : TG) (a : AG') : Prop where
  pg : PG X e g
  sim : SimG B X.K g a
  inn : GIn vs g
structure AI (B : Bs) (X : Cx) (tg e : Expr) (wi : TI) (a : AI') : Prop where
  pi : PI X tg e wi
  sim : SimI B X.K wi a

/-! ### names, constants -/
def aVar (i : Nat) : AE' := fun s C P => match s[i]? with | some (some d) => P d C | _ => False
def aC (d : D) : AE' := fun _ C P => P d C
section
variable {X : Cx} {pos : Pos} {K : PySem.W.Frag}
theorem sim_var (i : Nat) : SimE B K (tVar i) (aVar i) := by
  intro σ s F C R H Q P hs hS h k
  unfold aVar at h
  split at h
  · rename_i d e
    obtain ⟨v, h1, h2⟩ := hs.at' i d e
    exact ⟨v, h1, k d v F C H (Ex.refl F) hS h2 h⟩
  · exact h.elim
theorem ae_v (i : Nat) {x : Str} (hN : X.N[i]? = some x := by rfl) (hv : Vis X.env.scope x := by first | exact Or.inl rfl | exact Or.inr (Or.inl rfl) | exact Or.inr (Or.inr rfl)) (hd : (x == ("__debug__" : Str)) = false := by decide)
    (hcd : (x == ("__classdict__" : Str)) = false := by decide) : AE B X (.Name x pos) (tVar i) (aVar i) := ⟨pe_var hN hv hd hcd, sim_var i⟩
theorem sim_c {v : V} {d : D} (h : ∀ F, Rep K F v d) : SimE B K (tC v) (aC d) := fun σ s F C R H Q P hs hS a k => k d v F C H (Ex.refl F) hS (h F) a
theorem ae_int {i j} : AE B X (.Constant (.int i) j pos) (tC (.int i)) (aC (.int i)) := ⟨pe_int, sim_c fun _ => .int i⟩
theorem ae_bl {b j} : AE B X (.Constant (.bool b) j pos) (tC (.bl b)) (aC (.bl b)) := ⟨pe_bl, sim_c fun _ => .bl b⟩
theorem ae_non {j} : AE B X (.Constant .none j pos) (tC .non) (aC .non) := ⟨pe_non, sim_c fun _ => .non⟩
theorem ae_str {x j} : AE B X (.Constant (.str x) j pos) (tC (.str x)) (aC (.str x)) := ⟨pe_str, sim_c fun _ => .str x⟩
theorem ae_gint {x : Str} {i : Int} (h : ∃ u, X.mg x = some u ∧ RelV (.int i) u) (hg : Gl X x := by rfl) (hd : (x == ("__debug__" : Str)) = false := by decide) : AE B X (.Name x pos) (tC (.int i)) (aC (.int i)) :=
  let ⟨_, h1, h2⟩ := h
  ⟨pe_glob hg h1 h2 hd, sim_c fun _ => .int i⟩

/-! ### operators -/
def aOp (r : D → D → AH → (D → AH → Prop) → Prop) (a b : AE') : AE' := fun s C P => a s C fun x C1 => b s C1 fun y C2 => r x y C2 P
def aUn (r : D → AH → (D → AH → Prop) → Prop) (a : AE') : AE' := fun s C P => a s C fun x C1 => r x C1 P
theorem sim_op {r : R2} {ar} {ta tb : TE} {a b : AE'} (hr : SimR2 B K r ar) (ha : SimE B K ta a) (hb : SimE B K tb b) : SimE B K (tOp r ta tb) (aOp ar a b) := by
  intro σ s F C R H Q P hs hS h k
  refine ha σ s F C R H _ _ hs hS h fun x v F1 C1 H1 e1 S1 r1 h1 => ?_
  refine hb σ s F1 C1 R H1 _ _ (hs.mono e1) S1 h1 fun y w F2 C2 H2 e2 S2 r2 h2 => ?_
  exact hr v w x y F2 C2 R H2 Q P S2 (r1.mono e2) r2 h2 fun d u F3 C3 H3 e3 S3 r3 h3 => k d u F3 C3 H3 ((e1.trans e2).trans e3) S3 r3 h3
theorem sim_un {r : V → Hp → VK → Prop} {ar} {ta : TE} {a : AE'} (hr : SimR1 B K r ar) (ha : SimE B K ta a) : SimE B K (tUn r ta) (aUn ar a) := by
  intro σ s F C R H Q P hs hS h k
  refine ha σ s F C R H _ _ hs hS h fun x v F1 C1 H1 e1 S1 r1 h1 => ?_
  exact hr v x F1 C1 R H1 Q P S1 r1 h1 fun d u F3 C3 H3 e3 S3 r3 h3 => k d u F3 C3 H3 (e1.trans e3) S3 r3 h3
/-- an operation f by values -/
structure AOp (B : Bs) (X : Cx) (f : Value → Value → Sem Value) (r : R2) (a : D → D → AH → (D → AH → Prop) → Prop) : Prop where
  op : OpR X f r
  sim : SimR2 B X.K r a
theorem ae_op {o : Operator} {r ar} {a b : Expr} {ta tb : TE} {aa ab : AE'} (ho : AOp B X (binaryOp o) r ar) (ha : AE B X a ta aa) (hb : AE B X b tb ab) : AE B X (.BinOp a o b pos) (tOp r ta tb) (aOp ar aa ab) := ⟨pe_op ho.op ha.pe hb.pe, sim_op ho.sim ha.sim hb.sim⟩
theorem ae_cmp {o : CmpOp} {r ar} {a b : Expr} {ta tb : TE} {aa ab : AE'} (ho : AOp B X (compareOp o) r ar) (ha : AE B X a ta aa) (hb : AE B X b tb ab) (hm : behindInMarks o b = false := by first | exact nomark _ | with_unfolding_all rfl) : AE B X (.Compare a [o] [b] pos) (tOp r ta tb) (aOp ar aa ab) :=
  ⟨pe_cmpR ho.op ha.pe hb.pe hm, sim_op ho.sim ha.sim hb.sim⟩
theorem SimR2.or {r r' : R2} {ar ar'} (h : SimR2 B K r ar) (h' : SimR2 B K r' ar') : SimR2 B K (fun x y H Q => r x y H Q ∨ r' x y H Q) (fun x y C P => ar x y C P ∨ ar' x y C P) := by
  intro v w d e F C R H Q P hS r1 r2 h0 k
  rcases h0 with q | q
  · exact .inl (h v w d e F C R H Q P hS r1 r2 q k)
  · exact .inr (h' v w d e F C R H Q P hS r1 r2 q k)
theorem SimR2.imp {r : R2} {ar ar' : D → D → AH → (D → AH → Prop) → Prop} (h : SimR2 B K r ar) (i : ∀ d e C P, ar' d e C P → ar d e C P) : SimR2 B K r ar' := fun v w d e F C R H Q P hS r1 r2 h0 k => h v w d e F C R H Q P hS r1 r2 (i d e C P h0) k
/-- ints in, a flat value out -/
def aI (c : Int → Int → Prop) (g : Int → Int → D) : D → D → AH → (D → AH → Prop) → Prop := fun x y C P => match x, y with
  | .int i, .int j => c i j ∧ P (g i j) C
  | _, _ => False
theorem simI {c : Int → Int → Prop} {g : Int → Int → V} {g' : Int → Int → D} (hg : ∀ F i j, Rep K F (g i j) (g' i j)) : SimR2 B K (rI c g) (aI c g') := by
  intro v w d e F C R H Q P hS r1 r2 h k
  unfold aI at h
  split at h
  · cases r1; cases r2
    exact ⟨_, _, rfl, rfl, h.1, k _ _ F C H (Ex.refl F) hS (hg F _ _) h.2⟩
  · exact h.elim
def aI0 (g : Int → Int → D) : D → D → AH → (D → AH → Prop) → Prop := fun x y C P => match x, y with
  | .int i, .int j => P (g i j) C
  | _, _ => False
theorem simI0 {g : Int → Int → V} {g' : Int → Int → D} (hg : ∀ F i j, Rep K F (g i j) (g' i j)) : SimR2 B K (rI0 g) (aI0 g') := by
  intro v w d e F C R H Q P hS r1 r2 h k
  unfold aI0 at h
  split at h
  · cases r1; cases r2
    exact ⟨_, _, rfl, rfl, k _ _ F C H (Ex.refl F) hS (hg F _ _) h⟩
  · exact h.elim
def aSub := aI0 fun i j => .int (i - j)
def CMulA (i j : Int) : Prop := CMul i j ∨ CMulW i j
def aMul := aI CMul fun i j => .int (i * j)
def aMulW := aI CMulW fun i j => .int (i * j)
def aDiv := aI CDiv fun i j => .int (i / j)
def aDivW := aI CDivW fun i j => .int (i / j)
def aMod := aI (fun _ j => 0 < j) fun i j => .int (i % j)
def aLt := aI0 fun i j => .bl (decide (i < j))
def aLe := aI0 fun i j => .bl (decide (i ≤ j))
def aGt := aI0 fun i j => .bl (decide (j < i))
def aGe := aI0 fun i j => .bl (decide (j ≤ i))
def aPow := aI CPow fun i j => .int (i ^ j.toNat)
theorem ao_sub : AOp B X (binaryOp .Sub) (rI0 fun i j => .int (i - j)) aSub := ⟨op_sub, simI0 fun _ _ _ => .int _⟩
theorem ao_mul : AOp B X (binaryOp .Mult) (rI CMul fun i j => .int (i * j)) aMul := ⟨op_mul, simI fun _ _ _ => .int _⟩
theorem ao_mulW : AOp B X (binaryOp .Mult) (rI CMulW fun i j => .int (i * j)) aMulW := ⟨op_mulW, simI fun _ _ _ => .int _⟩
theorem ao_div : AOp B X (binaryOp .FloorDiv) (rI CDiv fun i j => .int (i / j)) aDiv := ⟨op_fdiv, simI fun _ _ _ => .int _⟩
theorem ao_divW : AOp B X (binaryOp .FloorDiv) (rI CDivW fun i j => .int (i / j)) aDivW := ⟨op_fdivW, simI fun _ _ _ => .int _⟩
theorem ao_mod : AOp B X (binaryOp .Mod) (rI (fun _ j => 0 < j) fun i j => .int (i % j)) aMod := ⟨op_mod, simI fun _ _ _ => .int _⟩
theorem ao_pow : AOp B X (binaryOp .Pow) (rI CPow fun i j => .int (i ^ j.toNat)) aPow := ⟨op_pow, simI fun _ _ _ => .int _⟩
theorem ao_lt : AOp B X (compareOp .Lt) (rI0 fun i j => .bl (decide (i < j))) aLt := ⟨op_lt, simI0 fun _ _ _ => .bl _⟩
theorem ao_le : AOp B X (compareOp .LtE) (rI0 fun i j => .bl (decide (i ≤ j))) aLe := ⟨op_le, simI0 fun _ _ _ => .bl _⟩
theorem ao_gt : AOp B X (compareOp .Gt) (rI0 fun i j => .bl (decide (j < i))) aGt := ⟨op_gt, simI0 fun _ _ _ => .bl _⟩
theorem ao_ge : AOp B X (compareOp .GtE) (rI0 fun i j => .bl (decide (j ≤ i))) aGe := ⟨op_ge, simI0 fun _ _ _ => .bl _⟩

/-! ### what a tree reads as a list, a tuple -/
def asL (C : AH) : D → Option (List D)
  | .lst ds => some ds
  | .ce p => match C p with | some (.lst ds) => some ds | _ => none
  | _ => none
def asLr (C : AH) : D → Option (List D)
  | .scr ns => some (ns.map D.int)
  | d => asL C d
def asT : D → Option (List D)
  | .tup ds => some ds
  | _ => none
section
variable {F : Hp} {C : AH} {R H : Hp} {v : V} {d : D} {ds : List D}
theorem asL_ok (hS : Sat B K F C R H) (r : Rep K F v d) (h : asL C d = some ds) : ∃ a xs, v = .ref a ∧ H a = some (.lst xs) ∧ RepL K F xs ds := by
  cases r with
  | lst e q => cases h; exact ⟨_, _, rfl, hS.ex _ _ e, q⟩
  | ce p =>
    simp only [asL] at h
    split at h
    · rename_i e
      cases h
      obtain ⟨_, o, h1, h2⟩ := hS.cell p _ e
      cases h2 with
      | lst q => exact ⟨p, _, rfl, h1, q⟩
    · cases h
  | _ => cases h
theorem asLr_ok (hS : Sat B K F C R H) (r : Rep K F v d) (h : asLr C d = some ds) : ∃ a xs, v = .ref a ∧ SqL K H a xs ∧ RepL K F xs ds := by
  cases d with
  | scr ns =>
    cases r with
    | scr e => cases h; exact ⟨_, _, rfl, hS.ex.l e, .ints ns⟩
  | _ =>
    obtain ⟨a, xs, h1, h2, h3⟩ := asL_ok hS r (show asL C _ = some ds from h)
    exact ⟨a, xs, h1, SqL.of h2, h3⟩
theorem asT_ok (hS : Sat B K F C R H) (r : Rep K F v d) (h : asT d = some ds) : ∃ a xs, v = .ref a ∧ H a = some (.tup xs) ∧ RepL K F xs ds := by
  cases r with
  | tup e q => cases h; exact ⟨_, _, rfl, hS.ex _ _ e, q⟩
  | _ => cases h
end
/-- the order matters: what stands ahead is tried first -/
def aAdd : D → D → AH → (D → AH → Prop) → Prop := fun x y C P => match x, y with
  | .int i, .int j => P (.int (i + j)) C
  | .str i, .str j => i.length + j.length ≤ sizeLine ∧ P (.str (i ++ j)) C
  | .tup xs, .tup ys => xs.length + ys.length ≤ sizeLine ∧ P (.tup (xs ++ ys)) C
  | x, y => ∃ xs ys, asL C x = some xs ∧ asL C y = some ys ∧ xs.length + ys.length ≤ sizeLine ∧ P (.lst (xs ++ ys)) C
def rAddA (K : PySem.W.Frag) : R2 := fun x y H Q => (rI0 (fun i j => .int (i + j)) x y H Q ∨ (∃ i j, x = .str i ∧ y = .str j ∧ i.length + j.length ≤ sizeLine ∧ Q (.str (i ++ j)) H)) ∨ rCatA K x y H Q ∨ rCat x y H Q
theorem sim_add : SimR2 B K (rAddA K) aAdd := by
  intro v w d e F C R H Q P hS r1 r2 h k
  unfold aAdd at h
  split at h
  · cases r1; cases r2
    exact .inl (.inl ⟨_, _, rfl, rfl, k _ _ F C H (Ex.refl F) hS (.int _) h⟩)
  · cases r1; cases r2
    exact .inl (.inr ⟨_, _, rfl, rfl, h.1, k _ _ F C H (Ex.refl F) hS (.str _) h.2⟩)
  · cases r1 with
    | @tup a xs us h1 q1 =>
      cases r2 with
      | @tup b ys ws h2 q2 =>
        refine .inr (.inl ⟨a, b, xs, ys, rfl, rfl, SqT.of (hS.ex _ _ h1), SqT.of (hS.ex _ _ h2), by rw [q1.length, q2.length]; exact h.1, fun z => ?_, fun _ z => ?_, fun _ _ p hp => ?_⟩)
        · subst z
          cases q1
          exact k _ _ F C H (Ex.refl F) hS (.tup h2 q2) h.2
        · subst z
          cases q2
          have := h.2
          rw [List.append_nil] at this
          exact k _ _ F C H (Ex.refl F) hS (.tup h1 q1) this
        · have e := Ex.new (o := .tup (xs ++ ys)) (hS.freeF hp)
          exact k _ _ _ C _ e (hS.newF hp _) (.tup upd_same ((q1.append q2).mono e)) h.2
  · obtain ⟨xs', ys', h1, h2, hl, h3⟩ := h
    obtain ⟨a, xs, e1, ha, q1⟩ := asL_ok hS r1 h1
    obtain ⟨b, ys, e2, hb, q2⟩ := asL_ok hS r2 h2
    refine .inr (.inr ⟨a, b, xs, ys, e1, e2, ha, hb, by rw [q1.length, q2.length]; exact hl, fun p hp => ?_⟩)
    have e := Ex.new (o := .lst (xs ++ ys)) (hS.freeF hp)
    exact k _ _ _ C _ e (hS.newF hp _) (.lst upd_same ((q1.append q2).mono e)) h3
theorem ao_add (hK : X.K = K := by rfl) : AOp B X (binaryOp .Add) (rAddA K) aAdd := by
  subst hK
  exact ⟨(op_add.or op_add_str).or (op_catA.or op_cat), sim_add⟩
/-- xs + ys, a list that will be changed -/
def aAddM : D → D → AH → (D → AH → Prop) → Prop := fun x y C P => ∃ xs ys, asL C x = some xs ∧ asL C y = some ys ∧ xs.length + ys.length ≤ sizeLine ∧ ∀ p, C p = none → P (.ce p) (put C p (.lst (xs ++ ys)))
theorem sim_addM : SimR2 B K rCat aAddM := by
  intro v w d e F C R H Q P hS r1 r2 h k
  obtain ⟨xs', ys', h1, h2, hl, h3⟩ := h
  obtain ⟨a, xs, e1, ha, q1⟩ := asL_ok hS r1 h1
  obtain ⟨b, ys, e2, hb, q2⟩ := asL_ok hS r2 h2
  refine ⟨a, b, xs, ys, e1, e2, ha, hb, by rw [q1.length, q2.length]; exact hl, fun p hp => ?_⟩
  exact k _ _ F _ _ (Ex.refl F) (hS.newC hp (.lst (q1.append q2))) (.ce p) (h3 p (hS.freeC hp))
theorem ao_addM : AOp B X (binaryOp .Add) rCat aAddM := ⟨op_cat, sim_addM⟩
end
end AL

namespace AL
open PySem PySem.Spec L2
variable {B : Bs}
section
variable {X : Cx} {pos : Pos} {K : PySem.W.Frag}
/-! ### ==, !=, in -/
mutual
/-- the tree as the library's data (none: a cell within it) -/
def D.pd : D → Option PyData
  | .non => some .none
  | .bl b => some (.bool b)
  | .int i => some (.int i)
  | .str x => some (.str x)
  | .lst ds => (pdL ds).map .list
  | .tup ds => (pdL ds).map .tuple
  | .scr ns => some (.list (ns.map .int))
  | _ => none
def pdL : List D → Option (List PyData)
  | [] => some []
  | d :: ds => match D.pd d, pdL ds with | some x, some xs => some (x :: xs) | _, _ => none
end
def pdC (C : AH) : D → Option PyData
  | .ce p => match C p with | some (.lst ds) => (pdL ds).map .list | _ => none
  | d => d.pd
mutual
theorem Rep.dp {F H : Hp} (e : Ex F H) : ∀ {d : D} {v : V} {x : PyData}, Rep K F v d → d.pd = some x → Dp K H v x
  | .non, _, _, r, h => by cases r; cases h; exact .non
  | .bl b, _, _, r, h => by cases r; cases h; exact .bl b
  | .int i, _, _, r, h => by cases r; cases h; exact .int i
  | .str x, _, _, r, h => by cases r; cases h; exact .str x
  | .lst ds, _, _, r, h => by
    cases r with
    | lst h1 h2 =>
      unfold D.pd at h
      cases q : pdL ds with
      | none => rw [q] at h; cases h
      | some xs => rw [q] at h; cases h; exact .lst (SqL.of (e _ _ h1)) (RepL.dp e h2 q)
  | .tup ds, _, _, r, h => by
    cases r with
    | tup h1 h2 =>
      unfold D.pd at h
      cases q : pdL ds with
      | none => rw [q] at h; cases h
      | some xs => rw [q] at h; cases h; exact .tup (SqT.of (e _ _ h1)) (RepL.dp e h2 q)
  | .scr ns, _, _, r, h => by
    cases r with
    | scr h1 => 
      cases h
      refine .lst (e.l h1) ?_
      clear h1
      induction ns with
      | nil => exact .nil
      | cons n ns ih => exact .cons (.int n) ih
  | .dk _, _, _, _, h => by unfold D.pd at h; cases h
  | .ce _, _, _, _, h => by unfold D.pd at h; cases h
theorem RepL.dp {F H : Hp} (e : Ex F H) : ∀ {ds : List D} {vs : List V} {xs : List PyData}, RepL K F vs ds → pdL ds = some xs → DpAll K H vs xs
  | [], _, _, r, h => by cases r; cases h; exact .nil
  | d :: ds, _, _, r, h => by
    cases r with
    | cons r1 r2 =>
      unfold pdL at h
      split at h
      · rename_i q1 q2
        cases h
        exact .cons (Rep.dp e r1 q1) (RepL.dp e r2 q2)
      · cases h
end
theorem pdC_ok {F : Hp} {C : AH} {R H : Hp} {v : V} {d : D} {x : PyData} (hS : Sat B K F C R H) (r : Rep K F v d) (h : pdC C d = some x) : Dp K H v x := by
  cases d with
  | ce p =>
    cases r
    simp only [pdC] at h
    split at h
    · rename_i ds e
      cases q : pdL ds with
      | none => rw [q] at h; cases h
      | some xs =>
        rw [q] at h; cases h
        obtain ⟨_, o, h1, h2⟩ := hS.cell p _ e
        cases h2 with
        | lst h3 => exact .lst (SqL.of h1) (RepL.dp hS.ex h3 q)
    · cases h
  | _ => exact Rep.dp hS.ex r h
/-- flat values, == by itself -/
def eqS : D → D → Option Bool
  | .non, .non => some true
  | .non, .int _ => some false
  | .int _, .non => some false
  | .non, .bl _ => some false
  | .bl _, .non => some false
  | .non, .str _ => some false
  | .str _, .non => some false
  | .int i, .int j => some (decide (i = j))
  | .bl i, .bl j => some (decide (i = j))
  | .str i, .str j => some (decide (i = j))
  | .int _, .str _ => some false
  | .str _, .int _ => some false
  | .bl _, .str _ => some false
  | .str _, .bl _ => some false
  | _, _ => none
theorem eqS_ok {F : Hp} {v w : V} {d e : D} {b : Bool} (r1 : Rep K F v d) (r2 : Rep K F w e) (h : eqS d e = some b) : scal v w = true ∧ decide (v = w) = b := by
  unfold eqS at h
  split at h <;> first | (cases h; done) | (cases r1; cases r2; cases h; refine ⟨rfl, ?_⟩; first | rfl | (apply Bool.eq_iff_iff.mpr; simp; done))
def aEqN (neg : Bool) : D → D → AH → (D → AH → Prop) → Prop := fun x y C P => match eqS x y with
  | some b => P (.bl (if neg then !b else b)) C
  | none => ∃ d e, pdC C x = some d ∧ pdC C y = some e ∧ SeqAt.shaped d = true ∧ SeqAt.shaped e = true ∧ P (.bl (if neg then !PyData.eqv d e else PyData.eqv d e)) C
def aEq := aEqN false
def aNe := aEqN true
theorem sim_eq : SimR2 B K (fun x y H Q => rEq x y H Q ∨ rEqD K x y H Q) aEq := by
  intro v w d e F C R H Q P hS r1 r2 h k
  unfold aEq aEqN at h
  split at h
  · rename_i b q
    obtain ⟨h1, h2⟩ := eqS_ok r1 r2 q
    exact .inl ⟨h1, k _ _ F C H (Ex.refl F) hS (by rw [h2]; exact .bl b) h⟩
  · obtain ⟨d', e', h1, h2, s1, s2, h3⟩ := h
    exact .inr ⟨d', e', pdC_ok hS r1 h1, pdC_ok hS r2 h2, s1, s2, k _ _ F C H (Ex.refl F) hS (.bl _) h3⟩
theorem sim_ne : SimR2 B K (fun x y H Q => rNe x y H Q ∨ rNeD K x y H Q) aNe := by
  intro v w d e F C R H Q P hS r1 r2 h k
  unfold aNe aEqN at h
  split at h
  · rename_i b q
    obtain ⟨h1, h2⟩ := eqS_ok r1 r2 q
    exact .inl ⟨h1, k _ _ F C H (Ex.refl F) hS (by rw [h2]; exact .bl _) h⟩
  · obtain ⟨d', e', h1, h2, s1, s2, h3⟩ := h
    exact .inr ⟨d', e', pdC_ok hS r1 h1, pdC_ok hS r2 h2, s1, s2, k _ _ F C H (Ex.refl F) hS (.bl _) h3⟩
theorem ao_eq (hu : X.A.units + 64 < cLine) (hK : X.K = K := by rfl) : AOp B X (compareOp .Eq) (fun x y H Q => rEq x y H Q ∨ rEqD K x y H Q) aEq := by
  subst hK
  exact ⟨op_eq.or (op_eqD hu), sim_eq⟩
theorem ao_ne (hu : X.A.units + 64 < cLine) (hK : X.K = K := by rfl) : AOp B X (compareOp .NotEq) (fun x y H Q => rNe x y H Q ∨ rNeD K x y H Q) aNe := by
  subst hK
  exact ⟨op_ne.or (op_neD hu), sim_ne⟩
/-- is None -/
def isNon : D → Bool
  | .non => true
  | _ => false
def aIsN : D → D → AH → (D → AH → Prop) → Prop := fun x y C P => isNon y = true ∧ P (.bl (isNon x)) C
def aNotN : D → D → AH → (D → AH → Prop) → Prop := fun x y C P => isNon y = true ∧ P (.bl (!isNon x)) C
theorem isNon_ok {F : Hp} {v : V} {d : D} (r : Rep K F v d) : decide (v = .non) = isNon d := by
  cases r <;> rfl
theorem ao_is : AOp B X (compareOp .Is) (fun x y H Q => y = .non ∧ Q (.bl (decide (x = .non))) H) aIsN := ⟨op_isN, by
  intro v w d e F C R H Q P hS r1 r2 h k
  refine ⟨of_decide_eq_true ((isNon_ok r2).trans h.1), k _ _ F C H (Ex.refl F) hS (by rw [isNon_ok r1]; exact .bl _) h.2⟩⟩
theorem ao_isnot : AOp B X (compareOp .IsNot) (fun x y H Q => y = .non ∧ Q (.bl (!decide (x = .non))) H) aNotN := ⟨op_notN, by
  intro v w d e F C R H Q P hS r1 r2 h k
  refine ⟨of_decide_eq_true ((isNon_ok r2).trans h.1), k _ _ F C H (Ex.refl F) hS (by rw [isNon_ok r1]; exact .bl _) h.2⟩⟩

/-! ### truth, and, or, not, if -/
def truth (C : AH) : D → Option Bool
  | .non => some false
  | .bl b => some b
  | .int i => some (i != 0)
  | .str x => if x.length ≤ sizeLine then some ((x.length : Int) != 0) else none
  | .lst ds => some (!ds.isEmpty)
  | .tup ds => some (!ds.isEmpty)
  | .scr ns => some (!ns.isEmpty)
  | .dk kvs => some (!kvs.isEmpty)
  | .ce p => match C p with | some (.lst ds) => some (!ds.isEmpty) | some (.dk kvs) => some (!kvs.isEmpty) | _ => none
theorem RepL.empty {F : Hp} {vs : List V} {ds : List D} (r : RepL K F vs ds) : (!vs.isEmpty) = !ds.isEmpty := by cases r <;> rfl
theorem RepK.empty {F : Hp} {vs : List (Key × V)} {ds : List (Key × D)} (r : RepK K F vs ds) : (!vs.isEmpty) = !ds.isEmpty := by cases r <;> rfl
theorem truth_ok {F : Hp} {C : AH} {R H : Hp} {v : V} {d : D} {b : Bool} (hS : Sat B K F C R H) (r : Rep K F v d) (h : truth C d = some b) : TruV K v H b := by
  cases r with
  | non => cases h; rfl
  | bl b => cases h; rfl
  | int i => cases h; rfl
  | str x =>
    simp only [truth] at h
    split at h
    · rename_i hz
      cases h
      exact ⟨hz, rfl⟩
    · cases h
  | lst e q => cases h; exact .inl ⟨_, SqL.of (hS.ex _ _ e), q.empty.symm⟩
  | tup e q => cases h; exact .inr (.inl ⟨_, SqT.of (hS.ex _ _ e), q.empty.symm⟩)
  | dk e q => cases h; exact .inr (.inr ⟨_, hS.ex _ _ e, q.empty.symm⟩)
  | scr e =>
    cases h
    refine .inl ⟨_, hS.ex.l e, ?_⟩
    rename_i ns
    cases ns <;> rfl
  | ce p =>
    simp only [truth] at h
    split at h
    · rename_i e
      cases h
      obtain ⟨_, o, h1, h2⟩ := hS.cell p _ e
      cases h2 with
      | lst q => exact .inl ⟨_, SqL.of h1, q.empty.symm⟩
    · rename_i e
      cases h
      obtain ⟨_, o, h1, h2⟩ := hS.cell p _ e
      cases h2 with
      | dk q => exact .inr (.inr ⟨_, h1, q.empty.symm⟩)
    · cases h
def aTru (a : AE') : AT' := fun s C P => a s C fun x C1 => match truth C1 x with | some b => P b C1 | none => False
theorem sim_tru {ta : TE} {a : AE'} (ha : SimE B K ta a) : SimT B K (fun σ H Q => ta σ H fun x H' => ∃ k, TruV K x H' k ∧ Q k H') (aTru a) := by
  intro σ s F C R H Q P hs hS h k
  refine ha σ s F C R H _ _ hs hS h fun x v F1 C1 H1 e1 S1 r1 h1 => ?_
  split at h1
  · rename_i b q
    exact ⟨b, truth_ok S1 r1 q, k b F1 C1 H1 e1 S1 h1⟩
  · exact h1.elim
theorem at_tru {e : Expr} {te : TE} {a : AE'} (h : AE B X e te a) (he : ∀ whole, isTrue e X.env whole = (do let v ← whole; standAt e.pos; holding [v] (truthy v)) := by intro _; rfl) (hK : X.K = K := by rfl) :
    AT B X e (fun σ H Q => te σ H fun x H' => ∃ k, TruV K x H' k ∧ Q k H') (aTru a) := by
  subst hK
  exact ⟨pt_truth h.pe he, sim_tru h.sim⟩
/-- a comparison's value as a test -/
def aB (a : AE') : AT' := fun s C P => a s C fun x C1 => match x with | .bl b => P b C1 | _ => False
theorem sim_B {ta : TE} {a : AE'} (ha : SimE B K ta a) : SimT B K (tTest ta) (aB a) := by
  intro σ s F C R H Q P hs hS h k
  refine ha σ s F C R H _ _ hs hS h fun x v F1 C1 H1 e1 S1 r1 h1 => ?_
  split at h1
  · cases r1
    exact ⟨_, rfl, k _ F1 C1 H1 e1 S1 h1⟩
  · exact h1.elim
theorem at_cmp {o : CmpOp} {r ar} {a b : Expr} {ta tb : TE} {aa ab : AE'} (ho : AOp B X (compareOp o) r ar) (ha : AE B X a ta aa) (hb : AE B X b tb ab) (hm : behindInMarks o b = false := by first | exact nomark _ | with_unfolding_all rfl) : AT B X (.Compare a [o] [b] pos) (tTest (tOp r ta tb)) (aB (aOp ar aa ab)) :=
  ⟨pt_cmpR ho.op ha.pe hb.pe hm, sim_B (sim_op ho.sim ha.sim hb.sim)⟩
/-- a < b < c -/
def aChain (r r' : D → D → AH → (D → AH → Prop) → Prop) (a b c : AE') : AE' := fun s C P => a s C fun x C1 => b s C1 fun y C2 => r x y C2 fun z C3 => match z with
  | .bl true => c s C3 fun w C4 => r' y w C4 P
  | .bl false => P (.bl false) C3
  | _ => False
theorem sim_chain {r r' : R2} {ar ar'} {ta tb tc : TE} {a b c : AE'} (hr : SimR2 B K r ar) (hr' : SimR2 B K r' ar') (ha : SimE B K ta a) (hb : SimE B K tb b) (hc : SimE B K tc c) : SimE B K (tChain r r' ta tb tc) (aChain ar ar' a b c) := by
  intro σ s F C R H Q P hs hS h k
  refine ha σ s F C R H _ _ hs hS h fun x v F1 C1 H1 e1 S1 r1 h1 => ?_
  refine hb σ s F1 C1 R H1 _ _ (hs.mono e1) S1 h1 fun y w F2 C2 H2 e2 S2 r2 h2 => ?_
  refine hr v w x y F2 C2 R H2 _ _ S2 (r1.mono e2) r2 h2 fun z u F3 C3 H3 e3 S3 r3 h3 => ?_
  split at h3
  · cases r3
    refine ⟨true, rfl, ?_⟩
    rw [if_pos rfl]
    refine hc σ s F3 C3 R H3 _ _ (hs.mono ((e1.trans e2).trans e3)) S3 h3 fun w' u' F4 C4 H4 e4 S4 r4 h4 => ?_
    exact hr' w u' y w' F4 C4 R H4 Q P S4 (r2.mono (e3.trans e4)) r4 h4 fun d u F5 C5 H5 e5 S5 r5 h5 => k d u F5 C5 H5 ((((e1.trans e2).trans e3).trans e4).trans e5) S5 r5 h5
  · cases r3
    refine ⟨false, rfl, ?_⟩
    rw [if_neg Bool.false_ne_true]
    exact k _ _ F3 C3 H3 ((e1.trans e2).trans e3) S3 (.bl false) h3
  · exact h3.elim
theorem ae_chain {o o' : CmpOp} {r r' ar ar'} {a b c : Expr} {ta tb tc : TE} {aa ab ac : AE'} (ho : AOp B X (compareOp o) r ar) (ho' : AOp B X (compareOp o') r' ar') (ha : AE B X a ta aa) (hb : AE B X b tb ab) (hc : AE B X c tc ac)
    (hm : lastMarks [o, o'] [b, c] = false := by first | rfl | with_unfolding_all rfl) : AE B X (.Compare a [o, o'] [b, c] pos) (tChain r r' ta tb tc) (aChain ar ar' aa ab ac) :=
  ⟨pe_chain ho.op ho'.op ha.pe hb.pe hc.pe hm, sim_chain ho.sim ho'.sim ha.sim hb.sim hc.sim⟩
theorem at_chain {o o' : CmpOp} {r r' ar ar'} {a b c : Expr} {ta tb tc : TE} {aa ab ac : AE'} (ho : AOp B X (compareOp o) r ar) (ho' : AOp B X (compareOp o') r' ar') (ha : AE B X a ta aa) (hb : AE B X b tb ab) (hc : AE B X c tc ac)
    (hm : lastMarks [o, o'] [b, c] = false := by first | rfl | with_unfolding_all rfl) : AT B X (.Compare a [o, o'] [b, c] pos) (tTest (tChain r r' ta tb tc)) (aB (aChain ar ar' aa ab ac)) :=
  ⟨pt_chain ho.op ho'.op ha.pe hb.pe hc.pe hm, sim_B (sim_chain ho.sim ho'.sim ha.sim hb.sim hc.sim)⟩
def aAnd (a b : AT') : AT' := fun s C P => a s C fun c C1 => if c = true then b s C1 P else P false C1
def aOr (a b : AT') : AT' := fun s C P => a s C fun c C1 => if c = true then P true C1 else b s C1 P
def aNot (a : AT') : AT' := fun s C P => a s C fun c C1 => P (!c) C1
theorem sim_and {t u : TT} {a b : AT'} (ha : SimT B K t a) (hb : SimT B K u b) : SimT B K (tAnd t u) (aAnd a b) := by
  intro σ s F C R H Q P hs hS h k
  refine ha σ s F C R H _ _ hs hS h fun c F1 C1 H1 e1 S1 h1 => ?_
  cases c with
  | true => exact hb σ s F1 C1 R H1 Q P (hs.mono e1) S1 h1 fun c F2 C2 H2 e2 S2 h2 => k c F2 C2 H2 (e1.trans e2) S2 h2
  | false => exact k false F1 C1 H1 e1 S1 h1
theorem sim_or {t u : TT} {a b : AT'} (ha : SimT B K t a) (hb : SimT B K u b) : SimT B K (tOr t u) (aOr a b) := by
  intro σ s F C R H Q P hs hS h k
  refine ha σ s F C R H _ _ hs hS h fun c F1 C1 H1 e1 S1 h1 => ?_
  cases c with
  | false => exact hb σ s F1 C1 R H1 Q P (hs.mono e1) S1 h1 fun c F2 C2 H2 e2 S2 h2 => k c F2 C2 H2 (e1.trans e2) S2 h2
  | true => exact k true F1 C1 H1 e1 S1 h1
theorem sim_not {t : TT} {a : AT'} (ha : SimT B K t a) : SimT B K (tNot t) (aNot a) := by
  intro σ s F C R H Q P hs hS h k
  exact ha σ s F C R H _ _ hs hS h fun c F1 C1 H1 e1 S1 h1 => k (!c) F1 C1 H1 e1 S1 h1
section
variable {a b : Expr} {t u : TT} {ta tb : TE} {xa xb : AT'} {aa ab : AE'} {rest : List Expr}
theorem aw_and1 (h : AT B X a t xa) : AW B X (.BoolOp .And [a] pos) t xa := ⟨pw_and1 h.pt, h.sim⟩
theorem aw_or1 (h : AT B X a t xa) : AW B X (.BoolOp .Or [a] pos) t xa := ⟨pw_or1 h.pt, h.sim⟩
theorem aw_and (h : AT B X a t xa) (g : AW B X (.BoolOp .And (b :: rest) pos) u xb) : AW B X (.BoolOp .And (a :: b :: rest) pos) (tAnd t u) (aAnd xa xb) := ⟨pw_and h.pt g.pw, sim_and h.sim g.sim⟩
theorem aw_or (h : AT B X a t xa) (g : AW B X (.BoolOp .Or (b :: rest) pos) u xb) : AW B X (.BoolOp .Or (a :: b :: rest) pos) (tOr t u) (aOr xa xb) := ⟨pw_or h.pt g.pw, sim_or h.sim g.sim⟩
theorem aw_t (h : AW B X a t xa) : AT B X a t xa := ⟨h.pw.pt, h.sim⟩
theorem at_not (h : AT B X a t xa) : AT B X (.UnaryOp .Not a pos) (tNot t) (aNot xa) := ⟨pt_not h.pt, sim_not h.sim⟩
/-- as values -/
def aAndV (a b : AE') : AE' := fun s C P => a s C fun x C1 => match truth C1 x with | some true => b s C1 P | some false => P x C1 | none => False
def aOrV (a b : AE') : AE' := fun s C P => a s C fun x C1 => match truth C1 x with | some true => P x C1 | some false => b s C1 P | none => False
def aNotV (a : AE') : AE' := fun s C P => a s C fun x C1 => match truth C1 x with | some b => P (.bl (!b)) C1 | none => False
theorem sim_andV (ha : SimE B K ta aa) (hb : SimE B K tb ab) : SimE B K (tAndT K ta tb) (aAndV aa ab) := by
  intro σ s F C R H Q P hs hS h k
  refine ha σ s F C R H _ _ hs hS h fun x v F1 C1 H1 e1 S1 r1 h1 => ?_
  split at h1
  · rename_i q
    refine ⟨true, truth_ok S1 r1 q, ?_⟩
    rw [if_pos rfl]
    exact hb σ s F1 C1 R H1 Q P (hs.mono e1) S1 h1 fun d u F2 C2 H2 e2 S2 r2 h2 => k d u F2 C2 H2 (e1.trans e2) S2 r2 h2
  · rename_i q
    refine ⟨false, truth_ok S1 r1 q, ?_⟩
    rw [if_neg Bool.false_ne_true]
    exact k x v F1 C1 H1 e1 S1 r1 h1
  · exact h1.elim
theorem sim_orV (ha : SimE B K ta aa) (hb : SimE B K tb ab) : SimE B K (tOrT K ta tb) (aOrV aa ab) := by
  intro σ s F C R H Q P hs hS h k
  refine ha σ s F C R H _ _ hs hS h fun x v F1 C1 H1 e1 S1 r1 h1 => ?_
  split at h1
  · rename_i q
    refine ⟨true, truth_ok S1 r1 q, ?_⟩
    rw [if_pos rfl]
    exact k x v F1 C1 H1 e1 S1 r1 h1
  · rename_i q
    refine ⟨false, truth_ok S1 r1 q, ?_⟩
    rw [if_neg Bool.false_ne_true]
    exact hb σ s F1 C1 R H1 Q P (hs.mono e1) S1 h1 fun d u F2 C2 H2 e2 S2 r2 h2 => k d u F2 C2 H2 (e1.trans e2) S2 r2 h2
  · exact h1.elim
theorem sim_notV (ha : SimE B K ta aa) : SimE B K (tNotT K ta) (aNotV aa) := by
  intro σ s F C R H Q P hs hS h k
  refine ha σ s F C R H _ _ hs hS h fun x v F1 C1 H1 e1 S1 r1 h1 => ?_
  split at h1
  · rename_i b q
    exact ⟨b, truth_ok S1 r1 q, k _ _ F1 C1 H1 e1 S1 (.bl _) h1⟩
  · exact h1.elim
theorem ae_one {op} (h : AE B X a ta aa) : AE B X (.BoolOp op [a] pos) ta aa := ⟨pe_one h.pe, h.sim⟩
theorem ae_and (h : AE B X a ta aa) (g : AE B X (.BoolOp .And (b :: rest) pos) tb ab) (hK : X.K = K := by rfl) : AE B X (.BoolOp .And (a :: b :: rest) pos) (tAndT K ta tb) (aAndV aa ab) := by
  subst hK
  exact ⟨pe_andT h.pe g.pe, sim_andV h.sim g.sim⟩
theorem ae_or (h : AE B X a ta aa) (g : AE B X (.BoolOp .Or (b :: rest) pos) tb ab) (hK : X.K = K := by rfl) : AE B X (.BoolOp .Or (a :: b :: rest) pos) (tOrT K ta tb) (aOrV aa ab) := by
  subst hK
  exact ⟨pe_orT h.pe g.pe, sim_orV h.sim g.sim⟩
theorem ae_not (h : AE B X a ta aa) (hK : X.K = K := by rfl) : AE B X (.UnaryOp .Not a pos) (tNotT K ta) (aNotV aa) := by
  subst hK
  exact ⟨pe_notT h.pe, sim_notV h.sim⟩
def aIf (t : AT') (a b : AE') : AE' := fun s C P => t s C fun c C1 => if c = true then a s C1 P else b s C1 P
theorem ae_if {c : Expr} {tc : TT} {xc : AT'} (hc : AT B X c tc xc) (h : AE B X a ta aa) (g : AE B X b tb ab) : AE B X (.IfExp c a b pos) (tIf tc ta tb) (aIf xc aa ab) := ⟨pe_ifExp hc.pt h.pe g.pe, by
  intro σ s F C R H Q P hs hS h0 k
  refine hc.sim σ s F C R H _ _ hs hS h0 fun c F1 C1 H1 e1 S1 h1 => ?_
  cases c with
  | true => exact h.sim σ s F1 C1 R H1 Q P (hs.mono e1) S1 h1 fun d u F2 C2 H2 e2 S2 r2 h2 => k d u F2 C2 H2 (e1.trans e2) S2 r2 h2
  | false => exact g.sim σ s F1 C1 R H1 Q P (hs.mono e1) S1 h1 fun d u F2 C2 H2 e2 S2 r2 h2 => k d u F2 C2 H2 (e1.trans e2) S2 r2 h2⟩
def aNeg : D → AH → (D → AH → Prop) → Prop := fun x C P => match x with | .int i => P (.int (-i)) C | _ => False
theorem ae_neg (h : AE B X a ta aa) : AE B X (.UnaryOp .USub a pos) (tUn (rU fun i => .int (-i)) ta) (aUn aNeg aa) := ⟨pe_un un_neg h.pe, sim_un (by
  intro v d F C R H Q P hS r h0 k
  unfold aNeg at h0
  split at h0
  · cases r; exact ⟨_, rfl, k _ _ F C H (Ex.refl F) hS (.int _) h0⟩
  · exact h0.elim) h.sim⟩
end

/-! ### arguments, displays -/
def aNil : AA' := fun _ C P => P [] C
def aCons (a : AE') (r : AA') : AA' := fun s C P => a s C fun x C1 => r s C1 fun xs C2 => P (x :: xs) C2
theorem sim_nil : SimA B K 0 tNil aNil := fun σ s F C R H Q P hs hS h k => k [] [] F C H (Ex.refl F) hS .nil rfl h
theorem sim_cons {n : Nat} {ta : TE} {tr : TA} {a : AE'} {r : AA'} (ha : SimE B K ta a) (hr : SimA B K n tr r) : SimA B K (n + 1) (tCons ta tr) (aCons a r) := by
  intro σ s F C R H Q P hs hS h k
  refine ha σ s F C R H _ _ hs hS h fun x v F1 C1 H1 e1 S1 r1 h1 => ?_
  refine hr σ s F1 C1 R H1 _ _ (hs.mono e1) S1 h1 fun xs vs F2 C2 H2 e2 S2 r2 hl h2 => ?_
  exact k (x :: xs) (v :: vs) F2 C2 H2 (e1.trans e2) S2 (.cons (r1.mono e2) r2) (by rw [List.length_cons, hl]) h2
theorem aa_nil : AA B X [] 0 tNil aNil := ⟨pa_nil, sim_nil⟩
theorem aa_cons {e : Expr} {es : List Expr} {n : Nat} {te : TE} {t : TA} {a : AE'} {r : AA'} (h : AE B X e te a) (g : AA B X es n t r) (hs : starEach (e :: es) X.env = (false, eval e X.env) :: starEach es X.env := by rfl) : AA B X (e :: es) (n + 1) (tCons te t) (aCons a r) := ⟨pa_cons h.pe g.pa hs, sim_cons h.sim g.sim⟩
def aTup (a : AA') : AE' := fun s C P => a s C fun ds C1 => ds.length ≤ sizeLine ∧ P (.tup ds) C1
def aLst (a : AA') : AE' := fun s C P => a s C fun ds C1 => ds.length ≤ sizeLine ∧ P (.lst ds) C1
def aLstM (a : AA') : AE' := fun s C P => a s C fun ds C1 => ds.length ≤ sizeLine ∧ ∀ p, C1 p = none → P (.ce p) (put C1 p (.lst ds))
theorem ae_tup {es : List Expr} {n : Nat} {t : TA} {a : AA'} {x1} (h : AA B X es n t a) : AE B X (.Tuple es x1 pos) (tTup t) (aTup a) := ⟨pe_tup h.pa, by
  intro σ s F C R H Q P hs hS h0 k
  refine h.sim σ s F C R H _ _ hs hS h0 fun ds vs F1 C1 H1 e1 S1 r1 hl h1 => ⟨by rw [r1.length]; exact h1.1, fun p hp => ?_⟩
  have e := Ex.new (o := .tup vs) (S1.freeF hp)
  exact k _ _ _ C1 _ (e1.trans e) (S1.newF hp _) (.tup upd_same (r1.mono e)) h1.2⟩
theorem ae_lst {es : List Expr} {n : Nat} {t : TA} {a : AA'} (h : AA B X es n t a) : AE B X (.List es pos) (tLst t) (aLst a) := ⟨pe_lst h.pa, by
  intro σ s F C R H Q P hs hS h0 k
  refine h.sim σ s F C R H _ _ hs hS h0 fun ds vs F1 C1 H1 e1 S1 r1 hl h1 => ⟨by rw [r1.length]; exact h1.1, fun p hp => ?_⟩
  have e := Ex.new (o := .lst vs) (S1.freeF hp)
  exact k _ _ _ C1 _ (e1.trans e) (S1.newF hp _) (.lst upd_same (r1.mono e)) h1.2⟩
theorem ae_lstM {es : List Expr} {n : Nat} {t : TA} {a : AA'} (h : AA B X es n t a) : AE B X (.List es pos) (tLst t) (aLstM a) := ⟨pe_lst h.pa, by
  intro σ s F C R H Q P hs hS h0 k
  refine h.sim σ s F C R H _ _ hs hS h0 fun ds vs F1 C1 H1 e1 S1 r1 hl h1 => ⟨by rw [r1.length]; exact h1.1, fun p hp => ?_⟩
  exact k _ _ F1 _ _ e1 (S1.newC hp (.lst r1)) (.ce p) (h1.2 p (S1.freeC hp))⟩
end
end AL

namespace AL
open PySem PySem.Spec L2
variable {B : Bs}
section
variable {X : Cx} {pos : Pos} {K : PySem.W.Frag}
/-! ### subscripts, slices -/
def asS (C : AH) : D → Option (List D)
  | .tup ds => some ds
  | d => asLr C d
def aIx : D → D → AH → (D → AH → Prop) → Prop := fun x y C P => match x, y with
  | .str z, .int i => z.length ≤ sizeLine ∧ (match atI z.cps.toList i with | some c => P (.str ⟨#[c]⟩) C | none => False)
  | x, .int i => (match asS C x with | some ds => (match atI ds i with | some d => P d C | none => False) | none => False)
  | _, _ => False
theorem RepL.atI {F : Hp} {vs : List V} {ds : List D} {i : Int} {d : D} (r : RepL K F vs ds) (h : atI ds i = some d) : ∃ v, L2.atI vs i = some v ∧ Rep K F v d := by
  unfold L2.atI at h ⊢
  rw [r.length]
  cases q : ixN ds.length i with
  | none => rw [q] at h; cases h
  | some j =>
    rw [q] at h
    obtain ⟨v, h1, h2⟩ := r.getD (show ds[j]? = some d from h)
    exact ⟨v, h1, h2⟩
theorem sim_ix : SimR2 B K (rIx K) aIx := by
  intro v w d e F C R H Q P hS r1 r2 h k
  unfold aIx at h
  split at h
  · cases r1; cases r2
    obtain ⟨hz, h⟩ := h
    split at h
    · rename_i c q
      exact .inr (.inr ⟨_, _, c, rfl, rfl, hz, q, k _ _ F C H (Ex.refl F) hS (.str _) h⟩)
    · exact h.elim
  · cases r2
    split at h
    · rename_i ds q
      split at h
      · rename_i d' q2
        cases d with
        | tup us =>
          cases q
          obtain ⟨a, xs, e1, h1, h2⟩ := asT_ok hS r1 rfl
          obtain ⟨v', h3, h4⟩ := h2.atI q2
          exact .inr (.inl ⟨a, xs, _, v', e1, rfl, SqT.of h1, h3, k _ _ F C H (Ex.refl F) hS h4 h⟩)
        | _ =>
          obtain ⟨a, xs, e1, h1, h2⟩ := asLr_ok hS r1 (show asLr C _ = some ds from q)
          obtain ⟨v', h3, h4⟩ := h2.atI q2
          exact .inl ⟨a, xs, _, v', e1, rfl, h1, h3, k _ _ F C H (Ex.refl F) hS h4 h⟩
      · exact h.elim
    · exact h.elim
  · exact h.elim
theorem ae_ix {a b : Expr} {ta tb : TE} {aa ab : AE'} (ha : AE B X a ta aa) (hb : AE B X b tb ab) (hs : PlainIx b := by exact fun _ _ => rfl) (hK : X.K = K := by rfl) : AE B X (.Subscript a b pos) (tOp (rIx K) ta tb) (aOp aIx aa ab) := by
  subst hK
  exact ⟨pe_ix ix_seq ha.pe hb.pe hs, sim_op sim_ix ha.sim hb.sim⟩

abbrev AO' := ASt → AH → (Option Int → AH → Prop) → Prop
def SimO (B : Bs) (K : PySem.W.Frag) (to : TO) (a : AO') : Prop := ∀ (σ : L2.St) (s : ASt) (F : Hp) (C : AH) (R H : Hp) (Q : Option Int → Hp → Prop) (P : Option Int → AH → Prop), Slo K F s σ → Sat B K F C R H → a s C P →
  (∀ o F' C' H', Ex F F' → Sat B K F' C' R H' → P o C' → Q o H') → to σ H Q
structure AO (B : Bs) (X : Cx) (e : Option Expr) (to : TO) (a : AO') : Prop where
  po : PO X e to
  sim : SimO B X.K to a
def aNoPart : AO' := fun _ C P => P none C
def aPart (a : AE') : AO' := fun s C P => a s C fun x C1 => match x with | .int i => P (some i) C1 | _ => False
theorem ao_none : AO B X none tNoPart aNoPart := ⟨po_none, fun σ s F C R H Q P hs hS h k => k none F C H (Ex.refl F) hS h⟩
theorem ao_some {e : Expr} {te : TE} {a : AE'} (h : AE B X e te a) : AO B X (some e) (tPart te) (aPart a) := ⟨po_some h.pe, by
  intro σ s F C R H Q P hs hS h0 k
  refine h.sim σ s F C R H _ _ hs hS h0 fun x v F1 C1 H1 e1 S1 r1 h1 => ?_
  split at h1
  · cases r1
    exact ⟨_, rfl, k _ F1 C1 H1 e1 S1 h1⟩
  · exact h1.elim⟩
def cutD (xs : List D) (lo hi : Option Int) : List D := (xs.drop (HT.sIx xs.length 0 lo)).take (HT.sIx xs.length xs.length hi - HT.sIx xs.length 0 lo)
theorem RepL.cut {F : Hp} {vs : List V} {ds : List D} (r : RepL K F vs ds) (lo hi : Option Int) : RepL K F (cutV vs lo hi) (cutD ds lo hi) := by
  unfold cutV cutD
  rw [r.length]
  exact (r.drop _).take _
def aSl (r : D → Option Int → Option Int → AH → (D → AH → Prop) → Prop) (a : AE') (l h : AO') : AE' := fun s C P => a s C fun x C1 => l s C1 fun i C2 => h s C2 fun j C3 => r x i j C3 P
def SimRS (B : Bs) (K : PySem.W.Frag) (r : V → Option Int → Option Int → Hp → VK → Prop) (a : D → Option Int → Option Int → AH → (D → AH → Prop) → Prop) : Prop := ∀ (v : V) (d : D) (lo hi : Option Int) (F : Hp) (C : AH) (R H : Hp) (Q : VK) (P : D → AH → Prop), Sat B K F C R H → Rep K F v d → a d lo hi C P →
  (∀ d v F' C' H', Ex F F' → Sat B K F' C' R H' → Rep K F' v d → P d C' → Q v H') → r v lo hi H Q
theorem sim_sl {r ar} {ta : TE} {tl th : TO} {a : AE'} {l h : AO'} (hr : SimRS B K r ar) (ha : SimE B K ta a) (hl : SimO B K tl l) (hh : SimO B K th h) : SimE B K (tSl r ta tl th) (aSl ar a l h) := by
  intro σ s F C R H Q P hs hS h0 k
  refine ha σ s F C R H _ _ hs hS h0 fun x v F1 C1 H1 e1 S1 r1 h1 => ?_
  refine hl σ s F1 C1 R H1 _ _ (hs.mono e1) S1 h1 fun i F2 C2 H2 e2 S2 h2 => ?_
  refine hh σ s F2 C2 R H2 _ _ (hs.mono (e1.trans e2)) S2 h2 fun j F3 C3 H3 e3 S3 h3 => ?_
  exact hr v x i j F3 C3 R H3 Q P S3 (r1.mono (e2.trans e3)) h3 fun d u F4 C4 H4 e4 S4 r4 h4 => k d u F4 C4 H4 (((e1.trans e2).trans e3).trans e4) S4 r4 h4
def aCut : D → Option Int → Option Int → AH → (D → AH → Prop) → Prop := fun x lo hi C P => match x with
  | .str z => z.length ≤ sizeLine ∧ P (.str (cutS z lo hi)) C
  | .tup ds => P (.tup (cutD ds lo hi)) C
  | x => (match asLr C x with | some ds => P (.lst (cutD ds lo hi)) C | none => False)
def rCutA (K : PySem.W.Frag) : V → Option Int → Option Int → Hp → VK → Prop := fun x lo hi H Q => (rSlS x lo hi H Q ∨ rSlA K x lo hi H Q) ∨ rSlL K x lo hi H Q
theorem cutD_all {ds : List D} {lo hi : Option Int} (h : HT.sIx ds.length 0 lo = 0 ∧ HT.sIx ds.length ds.length hi = ds.length) : cutD ds lo hi = ds := by
  unfold cutD
  rw [h.1, h.2, List.drop_zero, Nat.sub_zero, List.take_length]
theorem sim_cut : SimRS B K (rCutA K) aCut := by
  intro v d lo hi F C R H Q P hS r1 h k
  unfold aCut at h
  split at h
  · cases r1
    exact .inl (.inl ⟨_, rfl, h.1, k _ _ F C H (Ex.refl F) hS (.str _) h.2⟩)
  · cases r1 with
    | @tup a xs us h1 q1 =>
      refine .inl (.inr ⟨a, xs, rfl, SqT.of (hS.ex _ _ h1), fun z => ?_, fun _ p hp => ?_⟩)
      · rw [q1.length] at z
        rw [cutD_all z] at h
        exact k _ _ F C H (Ex.refl F) hS (.tup h1 q1) h
      · have e := Ex.new (o := .tup (cutV xs lo hi)) (hS.freeF hp)
        exact k _ _ _ C _ e (hS.newF hp _) (.tup upd_same ((q1.cut lo hi).mono e)) h
  · split at h
    · rename_i ds q
      obtain ⟨a, xs, e1, h1, h2⟩ := asLr_ok hS r1 q
      refine .inr ⟨a, xs, e1, h1, fun p hp => ?_⟩
      have e := Ex.new (o := .lst (cutV xs lo hi)) (hS.freeF hp)
      exact k _ _ _ C _ e (hS.newF hp _) (.lst upd_same ((h2.cut lo hi).mono e)) h
    · exact h.elim
theorem ae_cut {e : Expr} {lo hi : Option Expr} {te : TE} {tl th : TO} {a : AE'} {l h : AO'} {p2 : Pos} (he : AE B X e te a) (hl : AO B X lo tl l) (hh : AO B X hi th h) (hK : X.K = K := by rfl) : AE B X (.Subscript e (.Slice lo hi none p2) pos) (tSl (rCutA K) te tl th) (aSl aCut a l h) := by
  subst hK
  exact ⟨pe_slice ((sl_str.or sl_tupA).or sl_list) he.pe hl.po hh.po, sim_sl sim_cut he.sim hl.sim hh.sim⟩
/-- xs[::-1], a list -/
def aRev : D → AH → (D → AH → Prop) → Prop := fun x C P => match asLr C x with | some ds => P (.lst ds.reverse) C | none => False
theorem ae_revL {e : Expr} {te : TE} {a : AE'} {k : Nat} {p1 p2 p3 : Pos} (he : AE B X e te a) (hK : X.K = K := by rfl) : AE B X (.Subscript e (.Slice none none (some (.UnaryOp .USub (.Constant (.int 1) k p1) p2)) p3) pos) (tRevL K te) (aUn aRev a) := by
  subst hK
  exact ⟨pe_revL he.pe, by
  intro σ s F C R H Q P hs hS h0 k
  refine he.sim σ s F C R H _ _ hs hS h0 fun x v F1 C1 H1 e1 S1 r1 h1 => ?_
  unfold aRev at h1
  split at h1
  · rename_i ds q
    obtain ⟨a, xs, e2, h2, h3⟩ := asLr_ok S1 r1 q
    refine ⟨a, xs, e2, h2, fun p hp => ?_⟩
    have e := Ex.new (o := .lst xs.reverse) (S1.freeF hp)
    exact k _ _ _ C1 _ (e1.trans e) (S1.newF hp _) (.lst upd_same (h3.reverse.mono e)) h1
  · exact h1.elim⟩

/-! ### calls of built-ins -/
structure ACa (B : Bs) (X : Cx) (f : Value) (r : List V → Hp → VK → Prop) (a : ASp) : Prop where
  op : CallR X f r
  sim : SimRL B X.K r a
def aCall (asp : ASp) (a : AA') : AE' := fun s C P => a s C fun ds C1 => asp ds C1 P
theorem sim_callB {n : Nat} {r : List V → Hp → VK → Prop} {ar : ASp} {ta : TA} {a : AA'} (hr : SimRL B K r ar) (ha : SimA B K n ta a) : SimE B K (tCB r ta) (aCall ar a) := by
  intro σ s F C R H Q P hs hS h k
  refine ha σ s F C R H _ _ hs hS h fun ds vs F1 C1 H1 e1 S1 r1 hl h1 => ?_
  exact hr vs ds F1 C1 R H1 Q P S1 r1 h1 fun d u F3 C3 H3 e3 S3 r3 h3 => k d u F3 C3 H3 (e1.trans e3) S3 r3 h3
section
variable {e : Expr} {es : List Expr} {n : Nat} {t : TA} {a : AA'} {r : List V → Hp → VK → Prop} {ar : ASp} {x : Str} {p : Pos} {id T : String}
theorem ae_callB (hc : ACa B X (.builtin id) r ar) (hm : X.mg x = none) (hv : bootBuiltins x = some (.builtin id)) (ha : AA B X (e :: es) n t a) (hg : Gl X x := by rfl) (hn : x ≠ "__name__" := by decide) (hdb : (x == ("__debug__" : Str)) = false := by decide)
    (he : starEach (e :: es) X.env = (false, eval e X.env) :: starEach es X.env := by rfl) (hpl : (backTo pos (starEach es X.env)).any (·.1) = false := by rfl) : AE B X (.Call (.Name x p) (e :: es) [] pos) (tCB r t) (aCall ar a) :=
  ⟨pe_callB hc.op hg hm hv ha.pa hn hdb he hpl, sim_callB hc.sim ha.sim⟩
theorem ae_callT (hc : ACa B X (.type T) r ar) (hm : X.mg x = none) (hv : bootBuiltins x = some (.type T)) (ha : AA B X (e :: es) n t a) (hg : Gl X x := by rfl) (hn : x ≠ "__name__" := by decide) (hdb : (x == ("__debug__" : Str)) = false := by decide)
    (he : starEach (e :: es) X.env = (false, eval e X.env) :: starEach es X.env := by rfl) (hpl : (backTo pos (starEach es X.env)).any (·.1) = false := by rfl) : AE B X (.Call (.Name x p) (e :: es) [] pos) (tCB r t) (aCall ar a) :=
  ⟨pe_callTy hc.op hg hm hv ha.pa hn hdb he hpl, sim_callB hc.sim ha.sim⟩
end
theorem asS_ok {F : Hp} {C : AH} {R H : Hp} {v : V} {d : D} {ds : List D} (hS : Sat B K F C R H) (r : Rep K F v d) (h : asS C d = some ds) : ∃ a xs, v = .ref a ∧ (SqL K H a xs ∨ SqT K H a xs) ∧ RepL K F xs ds := by
  cases d with
  | tup ws =>
    cases h
    obtain ⟨a, xs, e1, h1, h2⟩ := asT_ok hS r rfl
    exact ⟨a, xs, e1, .inr (SqT.of h1), h2⟩
  | _ =>
    obtain ⟨a, xs, e1, h1, h2⟩ := asLr_ok hS r (show asLr C _ = some ds from h)
    exact ⟨a, xs, e1, .inl h1, h2⟩
def aLen : ASp := fun ds C P => match ds with
  | [.str z] => z.length ≤ sizeLine ∧ P (.int z.length) C
  | [.ce q] => (match C q with | some (.lst us) => P (.int us.length) C | some (.dk us) => P (.int us.length) C | _ => False)
  | [.dk kvs] => P (.int kvs.length) C
  | [d] => (match asS C d with | some us => P (.int us.length) C | none => False)
  | _ => False
def rLenA (K : PySem.W.Frag) : List V → Hp → VK → Prop := fun xs H Q => (∃ x n, xs = [x] ∧ LenV K x H n ∧ Q (.int n) H) ∨ (∃ a kvs, xs = [V.ref a] ∧ H a = some (.dK kvs) ∧ Q (.int kvs.length) H)
theorem RepK.length {F : Hp} : ∀ {vs : List (Key × V)} {ds : List (Key × D)}, RepK K F vs ds → vs.length = ds.length
  | _, _, .nil => rfl
  | _, _, .cons _ t => by rw [List.length_cons, List.length_cons, RepK.length t]
theorem simLen : SimRL B K (rLenA K) aLen := by
  intro vs ds F C R H Q P hS r h k
  unfold aLen at h
  split at h
  · cases r with | cons r1 r2 => cases r2; cases r1; exact .inl ⟨_, _, rfl, ⟨h.1, rfl⟩, k _ _ F C H (Ex.refl F) hS (.int _) h.2⟩
  · cases r with
    | cons r1 r2 =>
      cases r2; cases r1
      split at h
      · rename_i e
        obtain ⟨_, o, h1, h2⟩ := hS.cell _ _ e
        cases h2 with
        | lst q => exact .inl ⟨_, _, rfl, .inl ⟨_, SqL.of h1, q.length.symm⟩, k _ _ F C H (Ex.refl F) hS (.int _) h⟩
      · rename_i e
        obtain ⟨_, o, h1, h2⟩ := hS.cell _ _ e
        cases h2 with
        | dk q => exact .inr ⟨_, _, rfl, h1, by rw [q.length]; exact k _ _ F C H (Ex.refl F) hS (.int _) h⟩
      · exact h.elim
  · cases r with | cons r1 r2 => cases r2; cases r1 with | dk e q => exact .inr ⟨_, _, rfl, hS.ex _ _ e, by rw [q.length]; exact k _ _ F C H (Ex.refl F) hS (.int _) h⟩
  · cases r with
    | cons r1 r2 =>
      cases r2
      split at h
      · rename_i us q
        obtain ⟨a, xs, e1, h1, h2⟩ := asS_ok hS r1 q
        subst e1
        rcases h1 with h1 | h1
        · exact .inl ⟨.ref a, _, rfl, .inl ⟨xs, h1, h2.length.symm⟩, k _ _ F C H (Ex.refl F) hS (.int _) h⟩
        · exact .inl ⟨.ref a, _, rfl, .inr ⟨xs, h1, h2.length.symm⟩, k _ _ F C H (Ex.refl F) hS (.int _) h⟩
      · exact h.elim
  · exact h.elim
theorem ac_len (hK : X.K = K := by rfl) : ACa B X (.builtin "len") (rLenA K) aLen := by
  subst hK
  exact ⟨call_len.or call_lenD, simLen⟩
def aAbs : ASp := fun ds C P => match ds with | [.int i] => P (.int (if i < 0 then -i else i)) C | _ => False
theorem ac_abs : ACa B X (.builtin "abs") (fun xs H Q => ∃ i, xs = [.int i] ∧ Q (.int (if i < 0 then -i else i)) H) aAbs := ⟨call_abs, by
  intro vs ds F C R H Q P hS r h k
  unfold aAbs at h
  split at h
  · cases r with | cons r1 r2 => cases r2; cases r1; exact ⟨_, rfl, k _ _ F C H (Ex.refl F) hS (.int _) h⟩
  · exact h.elim⟩
def aMax2 : ASp := fun ds C P => match ds with | [.int i, .int j] => P (.int (if j > i then j else i)) C | _ => False
def aMin2 : ASp := fun ds C P => match ds with | [.int i, .int j] => P (.int (if j < i then j else i)) C | _ => False
theorem ac_max2 (hc : X.calm = true := by rfl) : ACa B X (.builtin "max") (fun xs H Q => ∃ i j, xs = [.int i, .int j] ∧ Q (.int (if j > i then j else i)) H) aMax2 := ⟨call_max2 hc, by
  intro vs ds F C R H Q P hS r h k
  unfold aMax2 at h
  split at h
  · cases r with | cons r1 r2 => cases r2 with | cons r2 r3 => cases r3; cases r1; cases r2; exact ⟨_, _, rfl, k _ _ F C H (Ex.refl F) hS (.int _) h⟩
  · exact h.elim⟩
theorem ac_min2 (hc : X.calm = true := by rfl) : ACa B X (.builtin "min") (fun xs H Q => ∃ i j, xs = [.int i, .int j] ∧ Q (.int (if j < i then j else i)) H) aMin2 := ⟨call_min2 hc, by
  intro vs ds F C R H Q P hS r h k
  unfold aMin2 at h
  split at h
  · cases r with | cons r1 r2 => cases r2 with | cons r2 r3 => cases r3; cases r1; cases r2; exact ⟨_, _, rfl, k _ _ F C H (Ex.refl F) hS (.int _) h⟩
  · exact h.elim⟩
def aInt : ASp := fun ds C P => match ds with | [.int i] => P (.int i) C | [.bl b] => P (.int (if b then 1 else 0)) C | _ => False
theorem ac_int : ACa B X (.type "int") (fun xs H Q => (∃ i, xs = [.int i] ∧ Q (.int i) H) ∨ ∃ k, xs = [.bl k] ∧ Q (.int (if k then 1 else 0)) H) aInt := ⟨call_int1, by
  intro vs ds F C R H Q P hS r h k
  unfold aInt at h
  split at h
  · cases r with | cons r1 r2 => cases r2; cases r1; exact .inl ⟨_, rfl, k _ _ F C H (Ex.refl F) hS (.int _) h⟩
  · cases r with | cons r1 r2 => cases r2; cases r1; exact .inr ⟨_, rfl, k _ _ F C H (Ex.refl F) hS (.int _) h⟩
  · exact h.elim⟩
/-- list(xs), tuple(xs) of a list, a tuple -/
def aListOf : ASp := fun ds C P => match ds with | [d] => (match asS C d with | some us => P (.lst us) C | none => False) | _ => False
def aListM : ASp := fun ds C P => match ds with | [d] => (match asS C d with | some us => ∀ p, C p = none → P (.ce p) (put C p (.lst us)) | none => False) | _ => False
def aTupleOf : ASp := fun ds C P => match ds with | [.tup us] => P (.tup us) C | [d] => (match asS C d with | some us => P (.tup us) C | none => False) | _ => False
theorem ac_list (hK : X.K = K := by rfl) : ACa B X (.type "list") (fun xs H Q => ∃ p ys, xs = [.ref p] ∧ (SqL K H p ys ∨ SqT K H p ys) ∧ ∀ l, H l = none → Q (.ref l) (upd H l (.lst ys))) aListOf := by
  subst hK
  exact ⟨call_list_of, by
  intro vs ds F C R H Q P hS r h k
  unfold aListOf at h
  split at h
  · cases r with
    | cons r1 r2 =>
      cases r2
      split at h
      · rename_i us q
        obtain ⟨a, xs, e1, h1, h2⟩ := asS_ok hS r1 q
        refine ⟨a, xs, by rw [e1], h1, fun p hp => ?_⟩
        have e := Ex.new (o := .lst xs) (hS.freeF hp)
        exact k _ _ _ C _ e (hS.newF hp _) (.lst upd_same (h2.mono e)) h
      · exact h.elim
  · exact h.elim⟩
theorem ac_listM (hK : X.K = K := by rfl) : ACa B X (.type "list") (fun xs H Q => ∃ p ys, xs = [.ref p] ∧ (SqL K H p ys ∨ SqT K H p ys) ∧ ∀ l, H l = none → Q (.ref l) (upd H l (.lst ys))) aListM := by
  subst hK
  exact ⟨call_list_of, by
  intro vs ds F C R H Q P hS r h k
  unfold aListM at h
  split at h
  · cases r with
    | cons r1 r2 =>
      cases r2
      split at h
      · rename_i us q
        obtain ⟨a, xs, e1, h1, h2⟩ := asS_ok hS r1 q
        refine ⟨a, xs, by rw [e1], h1, fun p hp => ?_⟩
        exact k _ _ _ _ _ (Ex.refl F) (hS.newC hp (.lst h2)) (.ce p) (h p (hS.freeC hp))
      · exact h.elim
  · exact h.elim⟩
theorem ac_tuple (hK : X.K = K := by rfl) : ACa B X (.type "tuple") (fun xs H Q => ∃ p ys, xs = [.ref p] ∧ ((SqL K H p ys ∧ ∀ l, H l = none → Q (.ref l) (upd H l (.tup ys))) ∨ (SqT K H p ys ∧ Q (.ref p) H))) aTupleOf := by
  subst hK
  exact ⟨call_tuple_of, by
  intro vs ds F C R H Q P hS r h k
  unfold aTupleOf at h
  split at h
  · cases r with
    | cons r1 r2 =>
      cases r2
      cases r1 with
      | tup h1 h2 => exact ⟨_, _, rfl, .inr ⟨SqT.of (hS.ex _ _ h1), k _ _ F C H (Ex.refl F) hS (.tup h1 h2) h⟩⟩
  · rename_i d hd
    cases r with
    | cons r1 r2 =>
      cases r2
      split at h
      · rename_i us q
        have q' : asLr C d = some us := by
          cases d <;> first | exact q | exact absurd rfl (hd _)
        obtain ⟨a, xs, e1, h1, h2⟩ := asLr_ok hS r1 q'
        refine ⟨a, xs, by rw [e1], .inl ⟨h1, fun p hp => ?_⟩⟩
        have e := Ex.new (o := .tup xs) (hS.freeF hp)
        exact k _ _ _ C _ e (hS.newF hp _) (.tup upd_same (h2.mono e)) h
      · exact h.elim
  · exact h.elim⟩
/-- all, any, sum of a list -/
def blsD : List D → Option (List Bool)
  | [] => some []
  | .bl b :: ds => (blsD ds).map (b :: ·)
  | _ => none
def intsD : List D → Option (List Int)
  | [] => some []
  | .int b :: ds => (intsD ds).map (b :: ·)
  | _ => none
def strsD : List D → Option (List Str)
  | [] => some []
  | .str b :: ds => (strsD ds).map (b :: ·)
  | _ => none
theorem bls_ok : ∀ {ds : List D} {bs : List Bool}, blsD ds = some bs → ds = bs.map .bl
  | [], _, h => by cases h; rfl
  | .bl b :: ds, bs, h => by
    simp only [blsD] at h
    cases q : blsD ds with
    | none => rw [q] at h; cases h
    | some cs => rw [q] at h; cases h; rw [bls_ok q]; rfl
  | .non :: _, _, h => by cases h
  | .int _ :: _, _, h => by cases h
  | .str _ :: _, _, h => by cases h
  | .lst _ :: _, _, h => by cases h
  | .tup _ :: _, _, h => by cases h
  | .dk _ :: _, _, h => by cases h
  | .scr _ :: _, _, h => by cases h
  | .ce _ :: _, _, h => by cases h
theorem ints_ok : ∀ {ds : List D} {bs : List Int}, intsD ds = some bs → ds = bs.map .int
  | [], _, h => by cases h; rfl
  | .int b :: ds, bs, h => by
    simp only [intsD] at h
    cases q : intsD ds with
    | none => rw [q] at h; cases h
    | some cs => rw [q] at h; cases h; rw [ints_ok q]; rfl
  | .non :: _, _, h => by cases h
  | .bl _ :: _, _, h => by cases h
  | .str _ :: _, _, h => by cases h
  | .lst _ :: _, _, h => by cases h
  | .tup _ :: _, _, h => by cases h
  | .dk _ :: _, _, h => by cases h
  | .scr _ :: _, _, h => by cases h
  | .ce _ :: _, _, h => by cases h
theorem strs_ok : ∀ {ds : List D} {bs : List Str}, strsD ds = some bs → ds = bs.map .str
  | [], _, h => by cases h; rfl
  | .str b :: ds, bs, h => by
    simp only [strsD] at h
    cases q : strsD ds with
    | none => rw [q] at h; cases h
    | some cs => rw [q] at h; cases h; rw [strs_ok q]; rfl
  | .non :: _, _, h => by cases h
  | .bl _ :: _, _, h => by cases h
  | .int _ :: _, _, h => by cases h
  | .lst _ :: _, _, h => by cases h
  | .tup _ :: _, _, h => by cases h
  | .dk _ :: _, _, h => by cases h
  | .scr _ :: _, _, h => by cases h
  | .ce _ :: _, _, h => by cases h
@[simp] theorem bls_map (bs : List Bool) : blsD (bs.map D.bl) = some bs := by
  induction bs with
  | nil => rfl
  | cons b bs ih => simp [blsD, ih]
@[simp] theorem ints_map (bs : List Int) : intsD (bs.map D.int) = some bs := by
  induction bs with
  | nil => rfl
  | cons b bs ih => simp [intsD, ih]
@[simp] theorem strs_map (bs : List Str) : strsD (bs.map D.str) = some bs := by
  induction bs with
  | nil => rfl
  | cons b bs ih => simp [strsD, ih]
def aAll : ASp := fun ds C P => match ds with | [d] => (match (asLr C d).bind blsD with | some bs => P (.bl (bs.all id)) C | none => False) | _ => False
def aAny : ASp := fun ds C P => match ds with | [d] => (match (asLr C d).bind blsD with | some bs => P (.bl (bs.any id)) C | none => False) | _ => False
def aSum : ASp := fun ds C P => match ds with | [d] => (match (asLr C d).bind intsD with | some bs => P (.int bs.sum) C | none => False) | _ => False
theorem ac_all (hc : X.calm = true := by rfl) (hK : X.K = K := by rfl) : ACa B X (.builtin "all") (rAll K) aAll := by
  subst hK
  exact ⟨cr_all hc, by
  intro vs ds F C R H Q P hS r h k
  unfold aAll at h
  split at h
  · cases r with
    | cons r1 r2 =>
      cases r2
      split at h
      · rename_i bs q
        obtain ⟨us, q1, q2⟩ := Option.bind_eq_some_iff.mp q
        obtain ⟨a, xs, e1, h1, h2⟩ := asLr_ok hS r1 q1
        rw [bls_ok q2] at h2
        have e3 := h2.ofBls
        subst e3
        exact ⟨a, bs, by rw [e1], h1, k _ _ F C H (Ex.refl F) hS (.bl _) h⟩
      · exact h.elim
  · exact h.elim⟩
theorem ac_any (hc : X.calm = true := by rfl) (hK : X.K = K := by rfl) : ACa B X (.builtin "any") (rAny K) aAny := by
  subst hK
  exact ⟨cr_any hc, by
  intro vs ds F C R H Q P hS r h k
  unfold aAny at h
  split at h
  · cases r with
    | cons r1 r2 =>
      cases r2
      split at h
      · rename_i bs q
        obtain ⟨us, q1, q2⟩ := Option.bind_eq_some_iff.mp q
        obtain ⟨a, xs, e1, h1, h2⟩ := asLr_ok hS r1 q1
        rw [bls_ok q2] at h2
        have e3 := h2.ofBls
        subst e3
        exact ⟨a, bs, by rw [e1], h1, k _ _ F C H (Ex.refl F) hS (.bl _) h⟩
      · exact h.elim
  · exact h.elim⟩
theorem ac_sum (hc : X.calm = true := by rfl) (hK : X.K = K := by rfl) : ACa B X (.builtin "sum") (rSum K) aSum := by
  subst hK
  exact ⟨cr_sum hc, by
  intro vs ds F C R H Q P hS r h k
  unfold aSum at h
  split at h
  · cases r with
    | cons r1 r2 =>
      cases r2
      split at h
      · rename_i bs q
        obtain ⟨us, q1, q2⟩ := Option.bind_eq_some_iff.mp q
        obtain ⟨a, xs, e1, h1, h2⟩ := asLr_ok hS r1 q1
        rw [ints_ok q2] at h2
        have e3 := h2.ofInts
        subst e3
        exact ⟨a, bs, by rw [e1], h1, k _ _ F C H (Ex.refl F) hS (.int _) h⟩
      · exact h.elim
  · exact h.elim⟩
/-! ### isinstance(e, T) -/
def kindOf (C : AH) : D → Option String
  | .non => some "NoneType" | .bl _ => some "bool" | .int _ => some "int" | .str _ => some "str" | .lst _ => some "list" | .tup _ => some "tuple" | .dk _ => some "dict" | .scr _ => some "list"
  | .ce p => match C p with | some (.lst _) => some "list" | some (.dk _) => some "dict" | some (.dt _) => some "dict" | _ => none
theorem kindOf_ok {F : Hp} {C : AH} {R H : Hp} {v : V} {d : D} {t : String} (hS : Sat B K F C R H) (r : Rep K F v d) (h : kindOf C d = some t) : TyX K H v (.type t) := by
  cases r with
  | non => cases h; exact .base .non
  | bl b => cases h; exact .base (.bl b)
  | int i => cases h; exact .base (.int i)
  | str x => cases h; exact .base (.str x)
  | lst e q => cases h; exact .base (.lst (hS.ex _ _ e))
  | tup e q => cases h; exact .base (.tup (hS.ex _ _ e))
  | dk e q => cases h; exact .base (.dK (hS.ex _ _ e))
  | scr e =>
    cases h
    rcases hS.ex.l e with (e | ⟨o, e⟩) | ⟨o, its, n, e, c, _⟩
    · exact .base (.lst e)
    · exact .base (.frz e)
    · exact .kList e c
  | ce p =>
    simp only [kindOf] at h
    split at h
    · rename_i e; cases h
      obtain ⟨_, o, h1, h2⟩ := hS.cell p _ e
      cases h2; exact .base (.lst h1)
    · rename_i e; cases h
      obtain ⟨_, o, h1, h2⟩ := hS.cell p _ e
      cases h2; exact .base (.dK h1)
    · rename_i e; cases h
      obtain ⟨_, o, h1, h2⟩ := hS.cell p _ e
      cases h2; exact .base (.dT h1)
    · cases h
def isT (T t : String) : Bool := t == T || (t == "bool" && T == "int")
theorem isT_ok : ∀ t ∈ ["NoneType", "bool", "int", "str", "list", "tuple", "dict"], ∀ T ∈ ["bool", "int", "str", "list", "tuple", "dict"], kitB t T = some (isT T t) := by decide +kernel
theorem kindOf_mem {C : AH} {d : D} {t : String} (h : kindOf C d = some t) : t ∈ ["NoneType", "bool", "int", "str", "list", "tuple", "dict"] := by
  unfold kindOf at h
  split at h <;> first | (cases h; decide) | (split at h <;> first | (cases h; decide) | cases h)
def aIsi (T : String) (a : AE') : AE' := fun s C P => a s C fun x C1 => match kindOf C1 x with | some t => P (.bl (isT T t)) C1 | none => False
theorem ae_isi {e : Expr} {te : TE} {a : AE'} {T : Str} {Tn : String} {p p2 : Pos} (h : AE B X e te a) (hm : X.mg "isinstance" = none) (hmT : X.mg T = none) (hv : bootBuiltins T = some (.type Tn)) (hT : Tn ∈ ["bool", "int", "str", "list", "tuple", "dict"] := by decide)
    (hg : Gl X "isinstance" := by rfl) (hgT : Gl X T := by rfl) (hb : bootBuiltins "isinstance" = some (.builtin "isinstance") := by decide +kernel) (hnT : T ≠ "__name__" := by decide) (hdT : (T == ("__debug__" : Str)) = false := by decide)
    (he : starEach [e, .Name T p2] X.env = (false, eval e X.env) :: starEach [.Name T p2] X.env := by rfl) (hpl : (backTo pos (starEach [.Name T p2] X.env)).any (·.1) = false := by rfl) (h2 : starEach [.Name T p2] X.env = (false, eval (.Name T p2) X.env) :: starEach [] X.env := by rfl) (hK : X.K = K := by rfl) :
    AE B X (.Call (.Name "isinstance" p) [e, .Name T p2] [] pos) (tCB (rIsi K) (tCons te (tCons (tC (.ty Tn)) tNil))) (aIsi Tn a) := by
  subst hK
  exact ⟨pe_callB call_isi hg hm hb (pa_cons h.pe (pa_cons (pe_bltn hgT hmT hv rfl hnT hdT) pa_nil h2) he) (by decide) (by decide) he hpl, by
    intro σ s F C R H Q P hs hS h0 k
    refine h.sim σ s F C R H _ _ hs hS h0 fun x v F1 C1 H1 e1 S1 r1 h1 => ?_
    split at h1
    · rename_i t q
      exact ⟨v, .ty Tn, .type t, .type Tn, isT Tn t, rfl, .ty Tn, kindOf_ok S1 r1 q, kit_ty (isT_ok t (kindOf_mem q) Tn hT), k _ _ F1 C1 H1 e1 S1 (.bl _) h1⟩
    · exact h1.elim⟩
end
end AL

namespace AL
open PySem PySem.Spec L2
variable {B : Bs}
open PyProof.Rows (envOfC)
section
variable {X : Cx} {pos : Pos} {K : PySem.W.Frag}
/-! ### defs and their calls -/
def spOf (w : Gd) (K : PySem.W.Frag) (n : Nat) (asp : ASp) : Sp := fun vs H Q _ => vs.length = n ∧ ∃ F C R ds P, Sat (Bs.nil w) K F C R H ∧ RepL K F vs ds ∧ asp ds C P ∧ ∀ d v F' C' H', Ex F F' → Sat (Bs.nil w) K F' C' R H' → Rep K F' v d → P d C' → Q v H'
/-- a def's promise, where no guard stands (so that repr may be asked) -/
structure FnG (P : Program) (w : World) (K : PySem.W.Frag) (mg : Str → Option Value) (base : Heap) (k : Nat) (f : Addr) (fd : FuncData) (ps : List Str) (sp : Sp) : Prop where
  len : ∀ vs H Q E, sp vs H Q E → vs.length = ps.length
  run : ∀ (A : Around) (out : List Env) (s : Shared) (H : Hp) (args : Args) (us : List Value) (vs : List V) (Q : VK) (E : XK), Room k A → A.guards = some [] → Env0 P w K mg base A out s H →
    BindsTo s fd args (ps.zip us) → Vals vs us → sp vs H Q E → codeAny (model P w) A (.call (.ref f) args) (CR (L2.CX P w) out P w H s Q E) s
theorem FnG.imp {P : Program} {w : World} {K : PySem.W.Frag} {mg : Str → Option Value} {base : Heap} {k : Nat} {f : Addr} {fd : FuncData} {ps : List Str} {sp sp' : Sp} (G : FnG P w K mg base k f fd ps sp) (h : ∀ vs H Q E, sp' vs H Q E → sp vs H Q E) : FnG P w K mg base k f fd ps sp' :=
  ⟨fun vs H Q E q => G.len vs H Q E (h _ _ _ _ q), fun A out s H args us vs Q E hr hg he hb hv hs => G.run A out s H args us vs Q E hr hg he hb hv (h _ _ _ _ hs)⟩
theorem FnG.up {P : Program} {w : World} {K : PySem.W.Frag} {mg : Str → Option Value} {base : Heap} {j k : Nat} {f : Addr} {fd : FuncData} {ps : List Str} {sp : Sp} (G : FnG P w K mg base j f fd ps sp) (h : j ≤ k) : FnG P w K mg base k f fd ps sp :=
  ⟨G.len, fun A out s H args us vs Q E hr hg he hb hv hs => G.run A out s H args us vs Q E (hr.mono h) hg he hb hv hs⟩
/-- by its body -/
theorem fnG_of {P : Program} {w : World} {K : PySem.W.Frag} {mg : Str → Option Value} {base : Heap} {x qual : Str} {st : Stmt} {f : Addr} {fd : FuncData} {N ps : List Str} {k : Nat} {sp : Sp} (F : L2.Fun K x qual st f fd) (S : FnScope N ps (defScope st)) (len : ∀ vs H Q E, sp vs H Q E → vs.length = ps.length)
    (hbody : ∀ (cdv : Value) (A : Around) (out : List Env) (s : Shared) (H : Hp) (vs : List V) (Q : VK) (E : XK), Room k (A.deeper (envOfC qual (defScope st) s.heap.objs.size f cdv)) → A.guards = some [] → sp vs H Q E →
      ∃ t, PSs (cxOf (L2.CX P w) P w K mg base N qual (defScope st) f cdv A out s H E) (defBody st) t ∧ t { nx := fun _ H1 => Q .non H1, rt := Q } (start N vs) H) : FnG P w K mg base (k + 1) f fd ps sp := by
  obtain ⟨oc, od, kV, doc, pm, an, cdv, ct, osl, rfl, lk, hcd⟩ := F.ex
  refine ⟨len, fun A out s H args us vs Q E hr hg e0 hb rv hsp => ?_⟩
  have kin := e0.mod.kin.keeps fun b o e => (e0.bs b o e).1
  have nol := e0.mod.nolimit.keeps fun b o e => (e0.bs b o e).1
  have knd : ∀ z ∈ ps.zip us, (defScope st).names.lookup z.1 = some .local ∨ ((defScope st).names.lookup z.1 = some .cell ∧ ((cellsFrom (s.heap.objs.size + 1) (defScope st).names []).lookup z.1).isSome = true) := by
    intro z hz
    obtain ⟨n, v⟩ := z
    exact (S.par n (List.of_mem_zip hz).1).elim .inl fun q => .inr ⟨q, PySem.W.cellsFrom_some _ _ _ (.inl q)⟩
  refine codeAny_call_function hr.depth (kin _ _ lk) rfl S.co S.gen rfl (PySem.W.codeRec_of kin hcd) (hb _ _ _ _ (wpAny_newFunctionEnv_cells S.kind knd fun env he s1 made => ?_))
  subst he
  refine ⟨nol.keeps made.toInCall.keep, codeAny_func ?_⟩
  obtain ⟨t, ht, q0⟩ := hbody cdv A out s H vs Q E (hr.deeper _) hg hsp
  refine wpAny_mono (ht.run [] s1 (start N vs) H _ (inv_start S hr.hd e0 (len _ _ _ _ hsp) rv made) q0) (fun fl s2 z => ?_) fun _ _ z => z
  have done : ∀ {σ2 : L2.St} {H2 : Hp} {v : V} {u : Value}, Inv (cxOf (L2.CX P w) P w K mg base N qual (defScope st) f cdv A out s H E) [] σ2 H2 s2 → RelV v u → Q v H2 → CE out P w H s Q u s2 := fun J r q => ⟨_, _, J.os, J.bare, J.base, J.hok, r, q⟩
  cases fl with
  | next => obtain ⟨σ2, H2, J, q⟩ := z; exact done (v := .non) (u := .none) J rfl q
  | ret u => obtain ⟨v, σ2, H2, J, r, q⟩ := z; exact done J r q
  | brk => obtain ⟨_, _, _, q⟩ := z; exact q.elim
  | cont => obtain ⟨_, _, _, q⟩ := z; exact q.elim
section
variable {k : Nat} {f : Addr} {fd : FuncData} {ps : List Str} {sp : Sp} {E : L2.St → XK} {x : Str} {p : Pos} {e : Expr} {es : List Expr} {t : TA}
theorem run_G {pins : List (Addr × Obj)} {σ : L2.St} {H : Hp} {s : Shared} {Q : VK} {us : List Value} {vs : List V} (G : FnG X.prog X.w X.K X.mg X.base k f fd ps sp) (hr : Room k X.A) (hgd : X.A.guards = some []) (hb : Binds X.K fd ps []) (hx : PassesAt (L2.CX X.prog X.w) X σ (E σ))
    (I : Inv X pins σ H s) (r : Vals vs us) (h : sp vs H Q (E σ)) : wpAny (model X.prog X.w) X.A (call (.ref f) us) (EP X pins σ Q) X.xe s := by
  have hl : us.length = ps.length := r.length.symm.trans (G.len _ _ _ _ h)
  have b := hb s us I.kIn ((congrArg List.length (List.append_nil us)).trans hl)
  rw [List.append_nil] at b
  refine wpAny_call (codeAny_mono (G.run X.A X.stack s H ⟨us, []⟩ us vs Q (E σ) hr hgd I.env0 b r h) fun res s2 z => ?_)
  match res, z with
  | .error e, z => exact hx pins H s e s2 I z
  | .ok (.ret u), z => exact I.after z
  | .ok .next, z => exact False.elim z
  | .ok .brk, z => exact False.elim z
  | .ok .cont, z => exact False.elim z
theorem pe_callG (G : FnG X.prog X.w X.K X.mg X.base k f fd ps sp) (hr : Room k X.A) (hgd : X.A.guards = some []) (hg : Gl X x) (hm : X.mg x = some (.ref f)) (hk : PySem.W.keepIn X.K (.ref f) = true) (hb : Binds X.K fd ps []) (hx : ∀ σ, PassesAt (L2.CX X.prog X.w) X σ (E σ))
    (ha : PA X (e :: es) t) (hdb : (x == ("__debug__" : Str)) = false := by decide) (he : starEach (e :: es) X.env = (false, eval e X.env) :: starEach es X.env := by rfl) (hpl : (backTo pos (starEach es X.env)).any (·.1) = false := by rfl) : PE X (.Call (.Name x p) (e :: es) [] pos) (tCallS sp E t) :=
  ⟨fun pins s σ H Q I h => wpAny_Call_Name_kw (ld_glob I hg hm (PySem.W.callWith_K (h₀ := X.base) I.ok.mod.kin hk (thn (ha.run pos pins s σ H _ I h) fun us s1 ⟨vs, H1, I1, r, q⟩ => ⟨I1.kIn, run_G G hr hgd hb (hx σ) I1 r q⟩) he hpl) hdb)⟩
theorem pe_callG0 (G : FnG X.prog X.w X.K X.mg X.base k f fd ps sp) (hr : Room k X.A) (hgd : X.A.guards = some []) (hg : Gl X x) (hm : X.mg x = some (.ref f)) (hk : PySem.W.keepIn X.K (.ref f) = true) (hb : Binds X.K fd ps []) (hx : ∀ σ, PassesAt (L2.CX X.prog X.w) X σ (E σ))
    (hdb : (x == ("__debug__" : Str)) = false := by decide) : PE X (.Call (.Name x p) [] [] pos) (tCallS sp E tNil) :=
  ⟨fun pins s σ H Q I h => wpAny_Call_Name_kw (ld_glob I hg hm (PySem.W.callWith_K0 I.kIn hk (run_G (us := []) G hr hgd hb (hx σ) I .nil h)) hdb)⟩
end
abbrev E0S : L2.St → XK := fun _ _ _ _ => False
theorem passG {X : Cx} : ∀ σ, PassesAt (L2.CX X.prog X.w) X σ (E0S σ) := fun _ _ _ _ _ _ _ h => by
  obtain ⟨_, _, _, _, _, _, _, _, _, _, _, _, z⟩ := h
  exact z.elim
structure Cal (P : Program) (w : World) (K : PySem.W.Frag) (mg : Str → Option Value) (base : Heap) (k : Nat) (x : Str) (n : Nat) (asp : ASp) : Prop where
  ex : ∃ (f : Addr) (fd : FuncData) (ps : List Str), FnG P w K mg base k f fd ps (spOf ⟨w, mg⟩ K n asp) ∧ mg x = some (.ref f) ∧ PySem.W.keepIn K (.ref f) = true ∧ Binds K fd ps []
theorem sim_call {w : Gd} (hw : B.g = w) {n : Nat} {asp : ASp} {E : L2.St → XK} {ta : TA} {a : AA'} (ha : SimA B K n ta a) : SimE B K (tCallS (spOf w K n asp) E ta) (aCall asp a) := by
  subst hw
  intro σ s F C R H Q P hs hS h k
  refine ha σ s F C R H _ _ hs hS h fun ds vs F1 C1 H1 e1 S1 r1 hl h1 => ?_
  exact ⟨by rw [r1.length, hl], F1, C1, R, ds, P, S1.nil, r1, h1, fun d v F2 C2 H2 e2 S2 r2 h2 => k d v F2 C2 H2 (e1.trans e2) (S1.back e2 S2) r2 h2⟩
section
variable {e : Expr} {es : List Expr} {n : Nat} {t : TA} {a : AA'} {x : Str} {p : Pos} {asp : ASp} {k j : Nat}
theorem ae_call {g : Gd} (c : Cal X.prog X.w X.K X.mg X.base k x n asp) (hr : Room j X.A) (hgd : X.A.guards = some []) (ha : AA B X (e :: es) n t a) (hw : B.g = g := by first | rfl | assumption) (hX : (⟨X.w, X.mg⟩ : Gd) = g := by rfl) (hk : k ≤ j := by decide) (hg : Gl X x := by rfl)
    (hdb : (x == ("__debug__" : Str)) = false := by decide) (he : starEach (e :: es) X.env = (false, eval e X.env) :: starEach es X.env := by rfl) (hpl : (backTo pos (starEach es X.env)).any (·.1) = false := by rfl) (hK : X.K = K := by rfl) :
    AE B X (.Call (.Name x p) (e :: es) [] pos) (tCallS (spOf g K n asp) E0S t) (aCall asp a) := by
  subst hK
  exact ⟨by
  obtain ⟨f, fd, ps, F, hm, kp, b⟩ := c.ex
  rw [← hX]
  exact pe_callG F (hr.mono hk) hgd hg hm kp b passG ha.pa hdb he hpl, sim_call hw ha.sim⟩
theorem ae_call0 {g : Gd} (c : Cal X.prog X.w X.K X.mg X.base k x 0 asp) (hr : Room j X.A) (hgd : X.A.guards = some []) (hw : B.g = g := by first | rfl | assumption) (hX : (⟨X.w, X.mg⟩ : Gd) = g := by rfl) (hk : k ≤ j := by decide) (hg : Gl X x := by rfl)
    (hdb : (x == ("__debug__" : Str)) = false := by decide) (hK : X.K = K := by rfl) : AE B X (.Call (.Name x p) [] [] pos) (tCallS (spOf g K 0 asp) E0S tNil) (aCall asp aNil) := by
  subst hK
  exact ⟨by
  obtain ⟨f, fd, ps, F, hm, kp, b⟩ := c.ex
  rw [← hX]
  exact pe_callG0 F (hr.mono hk) hgd hg hm kp b passG hdb, sim_call hw sim_nil⟩
end
/-- a def's body as what the def does -/
def aBody (n : Nat) (b : AS') : ASp := fun ds C P => b ⟨fun _ C' => P .non C', P, fun _ _ => False, fun _ _ => False⟩ (ds.map some ++ List.replicate (n - ds.length) none) C
theorem fnA {P : Program} {w : World} {K : PySem.W.Frag} {mg : Str → Option Value} {base : Heap} {x qual : Str} {st : Stmt} {f : Addr} {fd : FuncData} {N ps : List Str} {k : Nat} {b : AS'} {asp : ASp} (F : L2.Fun K x qual st f fd) (S : FnScope N ps (defScope st))
    (hbody : ∀ (cdv : Value) (A : Around) (outer : List Env) (s : Shared) (H : Hp) (E : XK), Room k (A.deeper (envOfC qual (defScope st) s.heap.objs.size f cdv)) → A.guards = some [] → ∃ ts, ASs (Bs.nil ⟨w, mg⟩) (cxOf (L2.CX P w) P w K mg base N qual (defScope st) f cdv A outer s H E).nox (defBody st) ts b)
    (h : ∀ ds C P, ds.length = ps.length → asp ds C P → aBody N.length b ds C P) : FnG P w K mg base (k + 1) f fd ps (spOf ⟨w, mg⟩ K ps.length asp) := by
  refine fnG_of F S (fun vs H Q E z => z.1) (fun cdv A outer s H vs Q E hr hg z => ?_)
  obtain ⟨ts, hps⟩ := hbody cdv A outer s H E hr hg
  obtain ⟨hl, F1, C, R, ds, P1, hS, hR, ha, hk⟩ := z
  refine ⟨ts, hps.ps.nox, ?_⟩
  have hb := h ds C P1 (by rw [← hR.length, hl]) ha
  refine hps.sim { nx := fun _ H' => Q .non H', rt := Q } ⟨fun _ C' => P1 .non C', P1, fun _ _ => False, fun _ _ => False⟩ _ _ F1 C R H ⟨fun s σ F' C' H' e _ S h => ?_, fun d v F' C' H' e r S h => ?_, fun _ _ _ _ _ _ _ _ h => h.elim, fun _ _ _ _ _ _ _ _ h => h.elim⟩ (Slo.start hR N.length) hS hb
  · exact hk .non .non F' C' H' e S .non h
  · exact hk d v F' C' H' e S r h
theorem calA {P : Program} {w : World} {K : PySem.W.Frag} {mg : Str → Option Value} {base : Heap} {x y qual : Str} {st : Stmt} {f : Addr} {fd : FuncData} {N ps : List Str} {k n : Nat} {b : AS'} {asp : ASp} (F : L2.Fun K x qual st f fd) (S : FnScope N ps (defScope st)) (hn : ps.length = n) (hm : mg y = some (.ref f)) (hb : Binds K fd ps [])
    (hbody : ∀ (cdv : Value) (A : Around) (outer : List Env) (s : Shared) (H : Hp) (E : XK), Room k (A.deeper (envOfC qual (defScope st) s.heap.objs.size f cdv)) → A.guards = some [] → ∃ ts, ASs (Bs.nil ⟨w, mg⟩) (cxOf (L2.CX P w) P w K mg base N qual (defScope st) f cdv A outer s H E).nox (defBody st) ts b)
    (h : ∀ ds C P, ds.length = n → asp ds C P → aBody N.length b ds C P) : Cal P w K mg base (k + 1) y n asp := by
  subst hn
  exact ⟨f, fd, ps, fnA F S hbody h, hm, F.kp, hb⟩

/-! ### methods of built-in types -/
structure AMt (B : Bs) (X : Cx) (id : String) (r : V → List V → Hp → VK → Prop) (a : D → ASp) : Prop where
  op : MtR X id r
  sim : SimRM B X.K r a
def isTy (T : String) (C : AH) (d : D) : Bool := match d with
  | .str _ => T == "str"
  | .lst _ => T == "list"
  | .scr _ => T == "list"
  | .dk _ => T == "dict"
  | .ce p => (match C p with | some (.lst _) => T == "list" | some (.dk _) => T == "dict" | _ => false)
  | _ => false
theorem isTy_ok {F : Hp} {C : AH} {R H : Hp} {v : V} {d : D} {T : String} (hS : Sat B K F C R H) (r : Rep K F v d) (h : isTy T C d = true) : tyV K T v H := by
  cases r with
  | str x => simpa [isTy, tyV] using h
  | lst e q => exact .inl ⟨by simpa [isTy] using h, _, SqL.of (hS.ex _ _ e)⟩
  | scr e => exact .inl ⟨by simpa [isTy] using h, _, hS.ex.l e⟩
  | dk e q => exact .inr (.inr (.inl ⟨by simpa [isTy] using h, .inl ⟨_, hS.ex _ _ e⟩⟩))
  | ce p =>
    simp only [isTy] at h
    split at h
    · rename_i e
      obtain ⟨_, o, h1, h2⟩ := hS.cell p _ e
      cases h2; exact .inl ⟨by simpa using h, _, SqL.of h1⟩
    · rename_i e
      obtain ⟨_, o, h1, h2⟩ := hS.cell p _ e
      cases h2; exact .inr (.inr (.inl ⟨by simpa using h, .inl ⟨_, h1⟩⟩))
    · cases h
  | _ => cases h
def aMeth (T : String) (m : D → ASp) (o : AE') (a : AA') : AE' := fun s C P => o s C fun x C1 => isTy T C1 x = true ∧ a s C1 fun ds C2 => m x ds C2 P
def aMeth0 (T : String) (m : D → ASp) (o : AE') : AE' := fun s C P => o s C fun x C1 => isTy T C1 x = true ∧ m x [] C1 P
section
variable {o e : Expr} {es : List Expr} {n : Nat} {to : TE} {t : TA} {ao : AE'} {a : AA'} {T id : String} {name : Str} {r : V → List V → Hp → VK → Prop} {ar : D → ASp} {apos cpos : Pos}
theorem ae_meth (pa : PlainAttrs T) (slot : Slot T name id) (hty : typeOf (.builtin id) = pure (.type "method_descriptor")) (hm : AMt B X id r ar) (ho : AE B X o to ao) (ha : AA B X (e :: es) n t a)
    (hbase : attributeBase o name X.env (eval o X.env) = eval o X.env := by rfl)
    (hfew : ((backTo cpos (starEach (e :: es) X.env)).all (fun x => !x.1) && (backToKw cpos (keywordEach [] X.env)).all (fun x => x.1.isSome)
      && decide ((e :: es).length + ([] : List Keyword).length + (if ([] : List Keyword).isEmpty then 0 else 1) < 30)) = true := by rfl)
    (hline : (apos.endLine == cpos.line) = true := by rfl) (hs : starEach (e :: es) X.env = (false, eval e X.env) :: starEach es X.env := by rfl) (hplain : (backTo cpos (starEach es X.env)).any (·.1) = false := by rfl) (hK : X.K = K := by rfl) :
    AE B X (.Call (.Attribute o name apos) (e :: es) [] cpos) (tBM K T r to t) (aMeth T ar ao a) := by
  subst hK
  exact ⟨pe_bm pa slot hty hm.op ho.pe ha.pa hbase hfew hline hs hplain, by
  intro σ s F C R H Q P hs hS h0 k
  refine ho.sim σ s F C R H _ _ hs hS h0 fun x v F1 C1 H1 e1 S1 r1 h1 => ⟨isTy_ok S1 r1 h1.1, ?_⟩
  refine ha.sim σ s F1 C1 R H1 _ _ (hs.mono e1) S1 h1.2 fun ds vs F2 C2 H2 e2 S2 r2 hl h2 => ?_
  exact hm.sim v x vs ds F2 C2 R H2 Q P S2 (r1.mono e2) r2 h2 fun d u F3 C3 H3 e3 S3 r3 h3 => k d u F3 C3 H3 ((e1.trans e2).trans e3) S3 r3 h3⟩
theorem ae_meth0 (pa : PlainAttrs T) (slot : Slot T name id) (hty : typeOf (.builtin id) = pure (.type "method_descriptor")) (hm : AMt B X id r ar) (ho : AE B X o to ao)
    (hbase : attributeBase o name X.env (eval o X.env) = eval o X.env := by rfl) (hline : (apos.endLine == cpos.line) = true := by rfl) (hK : X.K = K := by rfl) :
    AE B X (.Call (.Attribute o name apos) [] [] cpos) (tBM0 K T r to) (aMeth0 T ar ao) := by
  subst hK
  exact ⟨pe_bm0 pa slot hty hm.op ho.pe hbase hline, by
  intro σ s F C R H Q P hs hS h0 k
  refine ho.sim σ s F C R H _ _ hs hS h0 fun x v F1 C1 H1 e1 S1 r1 h1 => ⟨isTy_ok S1 r1 h1.1, ?_⟩
  exact hm.sim v x [] [] F1 C1 R H1 Q P S1 r1 .nil h1.2 fun d u F3 C3 H3 e3 S3 r3 h3 => k d u F3 C3 H3 (e1.trans e3) S3 r3 h3⟩
end
theorem cellL {F : Hp} {C : AH} {R H : Hp} {p : Addr} {ds : List D} (hS : Sat B K F C R H) (e : C p = some (.lst ds)) : ∃ xs, H p = some (.lst xs) ∧ RepL K F xs ds := by
  obtain ⟨_, o, h1, h2⟩ := hS.cell p _ e
  cases h2
  exact ⟨_, h1, by assumption⟩
def aAppend : D → ASp := fun x ds C P => match x, ds with
  | .ce p, [d] => (match C p with | some (.lst us) => us.length < sizeLine ∧ P .non (put C p (.lst (us ++ [d]))) | _ => False)
  | _, _ => False
theorem am_append : AMt B X "list.append" rAppend aAppend := ⟨fun pins s σ H x xs v us Q I r1 r2 h => mt_append pins s σ H x xs v us Q I r1 r2 h, by
  intro v d vs ds F C R H Q P hS r1 r2 h k
  unfold aAppend at h
  split at h
  · cases r1
    cases r2 with
    | cons r2 r3 =>
      cases r3
      split at h
      · rename_i e
        obtain ⟨xs, h1, h2⟩ := cellL hS e
        exact ⟨_, xs, _, rfl, rfl, h1, by rw [h2.length]; exact h.1, k _ _ F _ _ (Ex.refl F) (hS.mutC e (.lst (h2.append (.cons r2 .nil)))) .non h.2⟩
      · exact h.elim
  · exact h.elim⟩
/-- xs.extend(ys), ys a list -/
def aExtend : D → ASp := fun x ds C P => match x, ds with
  | .ce p, [d] => (match C p, asL C d with | some (.lst us), some ws => us.length + ws.length ≤ sizeLine ∧ P .non (put C p (.lst (us ++ ws))) | _, _ => False)
  | _, _ => False
theorem am_extend : AMt B X "list.extend" rExtend aExtend := ⟨fun pins s σ H x xs v us Q I r1 r2 h => mt_extend pins s σ H x xs v us Q I r1 r2 h, by
  intro v d vs ds F C R H Q P hS r1 r2 h k
  unfold aExtend at h
  split at h
  · cases r1
    cases r2 with
    | cons r2 r3 =>
      cases r3
      split at h
      · rename_i e e2
        obtain ⟨xs, h1, h2⟩ := cellL hS e
        obtain ⟨a, ys, e3, h3, h4⟩ := asL_ok hS r2 e2
        exact ⟨_, a, xs, ys, rfl, by rw [e3], h1, h3, by rw [h2.length, h4.length]; exact h.1, k _ _ F _ _ (Ex.refl F) (hS.mutC e (.lst (h2.append h4))) .non h.2⟩
      · exact h.elim
  · exact h.elim⟩
def aPop : D → ASp := fun x ds C P => match x, ds with
  | .ce p, [] => (match C p with | some (.lst us) => (match us[us.length - 1]? with | some d => P d (put C p (.lst us.dropLast)) | none => False) | _ => False)
  | _, _ => False
theorem am_pop : AMt B X "list.pop" rPop aPop := ⟨fun pins s σ H x xs v us Q I r1 r2 h => mt_pop pins s σ H x xs v us Q I r1 r2 h, by
  intro v d vs ds F C R H Q P hS r1 r2 h k
  unfold aPop at h
  split at h
  · cases r1
    cases r2
    split at h
    · rename_i us e
      split at h
      · rename_i d e2
        obtain ⟨xs, h1, h2⟩ := cellL hS e
        obtain ⟨u, h3, h4⟩ := h2.getD e2
        exact ⟨_, xs, u, rfl, rfl, h1, by rw [h2.length]; exact h3, k _ _ F _ _ (Ex.refl F) (hS.mutC e (.lst h2.dropLast)) h4 h⟩
      · exact h.elim
    · exact h.elim
  · exact h.elim⟩
def aPopAt : D → ASp := fun x ds C P => match x, ds with
  | .ce p, [.int i] => (match C p with | some (.lst us) => -(2 ^ 63) ≤ i ∧ i < 2 ^ 63 ∧ (match seqIndex? i us.length with | some k => (match us[k]? with | some d => P d (put C p (.lst (us.eraseIdx k))) | none => False) | none => False) | _ => False)
  | _, _ => False
theorem am_popAt : AMt B X "list.pop" rPopAt aPopAt := ⟨fun pins s σ H x xs v us Q I r1 r2 h => mt_popAt pins s σ H x xs v us Q I r1 r2 h, by
  intro v d vs ds F C R H Q P hS r1 r2 h k
  unfold aPopAt at h
  split at h
  · cases r1
    cases r2 with
    | cons r2 r3 =>
      cases r3; cases r2
      split at h
      · rename_i us e
        obtain ⟨b1, b2, h⟩ := h
        split at h
        · rename_i j ej
          split at h
          · rename_i d e2
            obtain ⟨xs, h1, h2⟩ := cellL hS e
            obtain ⟨u, h3, h4⟩ := h2.getD e2
            exact ⟨_, xs, _, j, u, rfl, rfl, h1, b1, b2, by rw [h2.length]; exact ej, h3, k _ _ F _ _ (Ex.refl F) (hS.mutC e (.lst (h2.erase j))) h4 h⟩
          · exact h.elim
        · exact h.elim
      · exact h.elim
  · exact h.elim⟩

/-! ### what is walked -/
theorem walk_l {F : Hp} {a : Addr} {ds : List D} {hold : AH → Prop} (h : ∀ F' C' R' H', Ex F F' → Sat B K F' C' R' H' → hold C' → ∃ xs, SqL K H' a xs ∧ RepL K F' xs ds) : Walks B K F ds hold (Itl K a) := by
  refine ⟨fun F' C' R' H' e S hc => ?_, fun F' C' R' H' i e S hc hi => ?_, fun F' C' R' H' i x H'' e S hc hi y => ?_⟩
  · obtain ⟨xs, h1, h2⟩ := h F' C' R' H' e S hc
    exact ⟨xs, h1, by rw [h2.length]; exact Nat.le_refl _⟩
  · obtain ⟨xs, h1, h2⟩ := h F' C' R' H' e S hc
    exact ⟨xs, xs[i]'(by rw [h2.length]; exact hi), h1, by simp⟩
  · obtain ⟨xs, h1, h2⟩ := h F' C' R' H' e S hc
    obtain ⟨e1, y⟩ := y
    subst e1
    obtain ⟨d, h3, h4⟩ := h2.get (y xs h1)
    exact ⟨d, F', h3, Ex.refl F', S, h4⟩
theorem asL_later {F F' : Hp} {C C' : AH} {R R' H H' : Hp} {v : V} {d : D} {ds : List D} (hS : Sat B K F C R H) (r : Rep K F v d) (h : asLr C d = some ds) (e : Ex F F') (S' : Sat B K F' C' R' H') (hc : asLr C' d = some ds) : ∀ a, v = .ref a → ∃ xs, SqL K H' a xs ∧ RepL K F' xs ds := by
  intro a ea
  obtain ⟨b, xs, e1, h1, h2⟩ := asLr_ok S' (r.mono e) hc
  rw [ea] at e1
  cases e1
  exact ⟨xs, h1, h2⟩
/-- for x in a list -/
def aIL (a : AE') : AI' := fun s C P => a s C fun x C1 => match asLr C1 x with | some ds => P ds (fun C' => asLr C' x = some ds) C1 | none => False
theorem ai_list {tg e : Expr} {te : TE} {a : AE'} (h : AE B X e te a) (hK : X.K = K := by rfl) : AI B X tg e (iList K te) (aIL a) := by
  subst hK
  exact ⟨pi_list h.pe, by
  intro σ s F C R H Q P hs hS h0 k
  refine h.sim σ s F C R H _ _ hs hS h0 fun x v F1 C1 H1 e1 S1 r1 h1 => ?_
  split at h1
  · rename_i ds q
    obtain ⟨b, xs, e2, h2, h3⟩ := asLr_ok S1 r1 q
    exact ⟨b, e2, ⟨xs, h2⟩, k ds _ _ F1 C1 H1 e1 S1 (walk_l fun F' C' R' H' e' S' hc => asL_later S1 r1 q e' S' hc b e2) h1⟩
  · exact h1.elim⟩
/-- for x in a tuple -/
def aIT (a : AE') : AI' := fun s C P => a s C fun x C1 => match asT x with | some ds => P ds (fun _ => True) C1 | none => False
theorem ai_tup {tg e : Expr} {te : TE} {a : AE'} (h : AE B X e te a) (hK : X.K = K := by rfl) : AI B X tg e (iTup K te) (aIT a) := by
  subst hK
  exact ⟨pi_tup h.pe, by
  intro σ s F C R H Q P hs hS h0 k
  refine h.sim σ s F C R H _ _ hs hS h0 fun x v F1 C1 H1 e1 S1 r1 h1 => ?_
  split at h1
  · rename_i ds q
    obtain ⟨b, xs, e2, h2, h3⟩ := asT_ok S1 r1 q
    refine ⟨b, e2, ⟨xs, SqT.of h2⟩, k ds _ _ F1 C1 H1 e1 S1 ⟨fun F' C' R' H' e S _ => ?_, fun F' C' R' H' i e S _ hi => ?_, fun F' C' R' H' i x H'' e S _ hi y => ?_⟩ h1⟩
    · obtain ⟨b', xs', e2', h2', h3'⟩ := asT_ok S (r1.mono e) q
      rw [e2] at e2'; cases e2'
      exact ⟨xs', SqT.of h2', by rw [h3'.length]; exact Nat.le_refl _⟩
    · obtain ⟨b', xs', e2', h2', h3'⟩ := asT_ok S (r1.mono e) q
      rw [e2] at e2'; cases e2'
      exact ⟨xs', xs'[i]'(by rw [h3'.length]; exact hi), SqT.of h2', by simp⟩
    · obtain ⟨b', xs', e2', h2', h3'⟩ := asT_ok S (r1.mono e) q
      rw [e2] at e2'; cases e2'
      obtain ⟨e3, y⟩ := y
      subst e3
      obtain ⟨d, h4, h5⟩ := h3'.get (y xs' (SqT.of h2'))
      exact ⟨d, F', h4, Ex.refl F', S, h5⟩
  · exact h1.elim⟩
def rangeD (lo : Int) (n : Nat) : List D := (List.range n).map fun (i : Nat) => D.int (lo + i)
theorem rangeD_get {lo : Int} {n i : Nat} (h : i < n) : (rangeD lo n)[i]? = some (.int (lo + i)) := by
  unfold rangeD
  rw [List.getElem?_map, List.getElem?_range h]
  rfl
theorem rangeD_len (lo : Int) (n : Nat) : (rangeD lo n).length = n := by
  unfold rangeD
  rw [List.length_map, List.length_range]
theorem walk_r {F : Hp} (lo : Int) (n : Nat) : Walks B K F (rangeD lo n) (fun _ => True) (Itr lo n) := by
  refine ⟨fun F' C' R' H' e S _ => ?_, fun F' C' R' H' i e S _ hi => ?_, fun F' C' R' H' i x H'' e S _ hi y => ?_⟩
  · rw [rangeD_len]; exact Nat.le_refl _
  · rw [rangeD_len] at hi; exact hi
  · rw [rangeD_len] at hi
    obtain ⟨e1, y⟩ := y
    subst e1; subst y
    exact ⟨_, F', rangeD_get hi, Ex.refl F', S, .int _⟩
def aIR1 (a : AA') : AI' := fun s C P => a s C fun ds C1 => match ds with | [.int j] => -(2 ^ 62) ≤ j ∧ j < 2 ^ 62 ∧ P (rangeD 0 j.toNat) (fun _ => True) C1 | _ => False
def aIR2 (a : AA') : AI' := fun s C P => a s C fun ds C1 => match ds with | [.int i, .int j] => (-(2 ^ 62) ≤ i ∧ i < 2 ^ 62 ∧ -(2 ^ 62) ≤ j ∧ j < 2 ^ 62) ∧ P (rangeD i (j - i).toNat) (fun _ => True) C1 | _ => False
theorem ai_range1 {tg e : Expr} {n : Nat} {ta : TA} {a : AA'} {p : Pos} (hm : X.mg "range" = none) (h : AA B X [e] n ta a) (hg : Gl X "range" := by rfl) (hs : starEach [e] X.env = [(false, eval e X.env)] := by rfl) : AI B X tg (.Call (.Name "range" p) [e] [] pos) (iRng1 ta) (aIR1 a) := ⟨pi_range1 hg hm h.pa hs, by
  intro σ s F C R H Q P hs hS h0 k
  refine h.sim σ s F C R H _ _ hs hS h0 fun ds vs F1 C1 H1 e1 S1 r1 hl h1 => ?_
  split at h1
  · cases r1 with | cons r1 r2 => cases r2; cases r1; exact ⟨_, rfl, h1.1, h1.2.1, k _ _ _ F1 C1 H1 e1 S1 (walk_r 0 _) h1.2.2⟩
  · exact h1.elim⟩
theorem ai_range2 {tg e e2 : Expr} {n : Nat} {ta : TA} {a : AA'} {p : Pos} (hm : X.mg "range" = none) (h : AA B X [e, e2] n ta a) (hg : Gl X "range" := by rfl) (hs : starEach [e, e2] X.env = [(false, eval e X.env), (false, eval e2 X.env)] := by rfl) (hs2 : starEach [e2] X.env = [(false, eval e2 X.env)] := by rfl) : AI B X tg (.Call (.Name "range" p) [e, e2] [] pos) (iRng2 ta) (aIR2 a) := ⟨pi_range2 hg hm h.pa hs hs2, by
  intro σ s F C R H Q P hs hS h0 k
  refine h.sim σ s F C R H _ _ hs hS h0 fun ds vs F1 C1 H1 e1 S1 r1 hl h1 => ?_
  split at h1
  · cases r1 with | cons r1 r2 => cases r2 with | cons r2 r3 => cases r3; cases r1; cases r2; exact ⟨_, _, rfl, h1.1, k _ _ _ F1 C1 H1 e1 S1 (walk_r _ _) h1.2⟩
  · exact h1.elim⟩
/-- a text, sign by sign -/
def signs (z : Str) : List D := z.cps.toList.map fun c => D.str ⟨#[c]⟩
def aIS (a : AE') : AI' := fun s C P => a s C fun x C1 => match x with | .str z => P (signs z) (fun _ => True) C1 | _ => False
theorem ai_str {tg e : Expr} {te : TE} {a : AE'} (h : AE B X e te a) : AI B X tg e (iStr te) (aIS a) := ⟨pi_str h.pe, by
  intro σ s F C R H Q P hs hS h0 k
  refine h.sim σ s F C R H _ _ hs hS h0 fun x v F1 C1 H1 e1 S1 r1 h1 => ?_
  split at h1
  · rename_i z
    cases r1
    refine ⟨z, rfl, k _ _ _ F1 C1 H1 e1 S1 ⟨fun F' C' R' H' e S _ => ?_, fun F' C' R' H' i e S _ hi => ?_, fun F' C' R' H' i x H'' e S _ hi y => ?_⟩ h1⟩
    · unfold signs; rw [List.length_map, Array.length_toList]; exact Nat.le_refl _
    · unfold signs at hi; rw [List.length_map, Array.length_toList] at hi; exact hi
    · obtain ⟨e3, c, y1, y2⟩ := y
      subst e3; subst y2
      refine ⟨_, F', ?_, Ex.refl F', S, .str _⟩
      unfold signs
      rw [List.getElem?_map, Array.getElem?_toList, y1]
      rfl
  · exact h1.elim⟩
/-- enumerate of a list -/
def enumD (ds : List D) : List D := (List.range ds.length).map fun (i : Nat) => D.tup [.int i, ds.getD i .non]
theorem enumD_len (ds : List D) : (enumD ds).length = ds.length := by unfold enumD; rw [List.length_map, List.length_range]
theorem enumD_get {ds : List D} {i : Nat} {d : D} (h : ds[i]? = some d) : (enumD ds)[i]? = some (.tup [.int i, d]) := by
  unfold enumD
  have hi := (List.getElem?_eq_some_iff.mp h).1
  rw [List.getElem?_map, List.getElem?_range hi]
  simp [List.getD, h]
def aIE (a : AA') : AI' := fun s C P => a s C fun us C1 => match us with | [x] => (match asLr C1 x with | some ds => P (enumD ds) (fun C' => asLr C' x = some ds) C1 | none => False) | _ => False
theorem ai_enum {e : Expr} {elts : List Expr} {kk n : Nat} {tpos p : Pos} {ta : TA} {a : AA'} (hm : X.mg "enumerate" = none) (h : AA B X [e] n ta a) (hg : Gl X "enumerate" := by rfl) (hs : starEach [e] X.env = [(false, eval e X.env)] := by rfl) (hK : X.K = K := by rfl) : AI B X (.Tuple elts kk tpos) (.Call (.Name "enumerate" p) [e] [] pos) (iEnum K ta) (aIE a) := by
  subst hK
  exact ⟨pi_enum hg hm h.pa hs, by
  intro σ s F C R H Q P hs hS h0 k
  refine h.sim σ s F C R H _ _ hs hS h0 fun us vs F1 C1 H1 e1 S1 r0 hl h1 => ?_
  split at h1
  · rename_i x
    cases r0 with
    | cons r1 r2 =>
      cases r2
      split at h1
      · rename_i ds q
        obtain ⟨b, xs, e2, h2, h3⟩ := asLr_ok S1 r1 q
        refine ⟨b, xs, by rw [e2], h2, k _ _ _ F1 C1 H1 e1 S1 ⟨fun F' C' R' H' e S hc => ?_, fun F' C' R' H' i e S hc hi => ?_, fun F' C' R' H' i x H'' e S hc hi y => ?_⟩ h1⟩
        · obtain ⟨xs', h4, h5⟩ := asL_later S1 r1 q e S hc b e2
          exact ⟨xs', h4, by rw [h5.length, enumD_len]; exact Nat.le_refl _⟩
        · obtain ⟨xs', h4, h5⟩ := asL_later S1 r1 q e S hc b e2
          rw [enumD_len] at hi
          exact ⟨xs', xs'[i]'(by rw [h5.length]; exact hi), h4, by simp⟩
        · obtain ⟨xs', h4, h5⟩ := asL_later S1 r1 q e S hc b e2
          obtain ⟨T, v, y1, y2, y3, y4⟩ := y
          subst y1; subst y3
          obtain ⟨d, h6, h7⟩ := h5.get (y4 xs' h4)
          have eN := Ex.new (o := .tup [.int (i : Nat), v]) (S.freeF y2)
          exact ⟨_, _, enumD_get h6, eN, S.newF y2 _, .tup upd_same (.cons (.int _) (.cons (h7.mono eN) .nil))⟩
      · exact h1.elim
  · exact h1.elim⟩
/-- zip of two lists -/
def zipD (xs ys : List D) : List D := (xs.zip ys).map fun p => D.tup [p.1, p.2]
theorem zipD_len (xs ys : List D) : (zipD xs ys).length = min xs.length ys.length := by unfold zipD; rw [List.length_map, List.length_zip]
theorem zipD_get {xs ys : List D} {i : Nat} {x y : D} (h : xs[i]? = some x) (g : ys[i]? = some y) : (zipD xs ys)[i]? = some (.tup [x, y]) := by
  unfold zipD
  rw [List.getElem?_map, show (xs.zip ys)[i]? = some (x, y) from List.getElem?_zip_eq_some.mpr ⟨h, g⟩]
  rfl
def aIZ (a : AA') : AI' := fun s C P => a s C fun us C1 => match us with | [x, y] => (match asLr C1 x, asLr C1 y with | some ds, some es => P (zipD ds es) (fun C' => asLr C' x = some ds ∧ asLr C' y = some es) C1 | _, _ => False) | _ => False
theorem ai_zip {e e2 : Expr} {elts : List Expr} {kk n : Nat} {tpos p : Pos} {ta : TA} {a : AA'} (hm : X.mg "zip" = none) (h : AA B X [e, e2] n ta a) (hg : Gl X "zip" := by rfl) (hs : starEach [e, e2] X.env = (false, eval e X.env) :: starEach [e2] X.env := by rfl) (hpl : (backTo pos (starEach [e2] X.env)).any (·.1) = false := by rfl) (hK : X.K = K := by rfl) :
    AI B X (.Tuple elts kk tpos) (.Call (.Name "zip" p) [e, e2] [] pos) (iZip K ta) (aIZ a) := by
  subst hK
  exact ⟨pi_zip hg hm h.pa hs hpl, by
  intro σ s F C R H Q P hs hS h0 k
  refine h.sim σ s F C R H _ _ hs hS h0 fun us vs F1 C1 H1 e1 S1 r0 hl h1 => ?_
  split at h1
  · rename_i x y
    cases r0 with
    | cons r1 r2 =>
      cases r2 with
      | cons r2 r3 =>
      cases r3
      split at h1
      · rename_i ds es q q2
        obtain ⟨b, xs, e2, h2, h3⟩ := asLr_ok S1 r1 q
        obtain ⟨b2, xs2, e3, h22, h33⟩ := asLr_ok S1 r2 q2
        refine ⟨b, b2, xs, xs2, by rw [e2, e3], h2, h22, k _ _ _ F1 C1 H1 e1 S1 ⟨fun F' C' R' H' e S hc => ?_, fun F' C' R' H' i e S hc hi => ?_, fun F' C' R' H' i x H'' e S hc hi y => ?_⟩ h1⟩
        · obtain ⟨xs', h4, h5⟩ := asL_later S1 r1 q e S hc.1 b e2
          obtain ⟨ys', g4, g5⟩ := asL_later S1 r2 q2 e S hc.2 b2 e3
          refine ⟨xs', ys', h4, g4, ?_⟩
          rw [h5.length, g5.length, zipD_len]; omega
        · obtain ⟨xs', h4, h5⟩ := asL_later S1 r1 q e S hc.1 b e2
          obtain ⟨ys', g4, g5⟩ := asL_later S1 r2 q2 e S hc.2 b2 e3
          rw [zipD_len] at hi
          exact ⟨xs', ys', xs'[i]'(by rw [h5.length]; omega), ys'[i]'(by rw [g5.length]; omega), h4, g4, by simp, by simp⟩
        · obtain ⟨xs', h4, h5⟩ := asL_later S1 r1 q e S hc.1 b e2
          obtain ⟨ys', g4, g5⟩ := asL_later S1 r2 q2 e S hc.2 b2 e3
          obtain ⟨T, v, w', y1, y2, y3, y4, y5⟩ := y
          subst y1; subst y3
          obtain ⟨d, h6, h7⟩ := h5.get (y4 xs' h4)
          obtain ⟨d2, g6, g7⟩ := g5.get (y5 ys' g4)
          have eN := Ex.new (o := .tup [v, w']) (S.freeF y2)
          exact ⟨_, _, zipD_get h6 g6, eN, S.newF y2 _, .tup upd_same (.cons (h7.mono eN) (.cons (g7.mono eN) .nil))⟩
      · exact h1.elim
  · exact h1.elim⟩
end
end AL

namespace AL
open PySem PySem.Spec L2
variable {B : Bs}
section
variable {X : Cx} {pos : Pos} {K : PySem.W.Frag}
theorem EndsR.mono {F F' R : Hp} {E : AEnds} {D' : Ends} (h : EndsR B K F R E D') (e : Ex F F') : EndsR B K F' R E D' :=
  ⟨fun s σ G C H e1 hs S z => h.nx s σ G C H (e.trans e1) hs S z, fun d v G C H e1 r S z => h.rt d v G C H (e.trans e1) r S z, fun s σ G C H e1 hs S z => h.bk s σ G C H (e.trans e1) hs S z, fun s σ G C H e1 hs S z => h.ct s σ G C H (e.trans e1) hs S z⟩
/-! ### targets -/
def aGName (i : Nat) : AG' := fun d s C P => P (s.set i (some d)) C
theorem wipe_get (σ : L2.St) (i : Nat) : ∀ vs : List Nat, (L2.wipe σ vs)[i]? = if i ∈ vs then (if i < σ.length then some none else none) else σ[i]?
  | [] => by simp [L2.wipe]
  | v :: vs => by
    unfold L2.wipe
    by_cases h : i = v
    · subst h
      rw [if_pos List.mem_cons_self]
      by_cases hl : i < σ.length
      · rw [if_pos hl, List.getElem?_set_self (by rw [L2.wipe_length]; exact hl)]
      · rw [if_neg hl, List.getElem?_eq_none (by rw [List.length_set, L2.wipe_length]; omega)]
    · rw [List.getElem?_set_ne (Ne.symm h), wipe_get σ i vs]
      by_cases h2 : i ∈ vs
      · rw [if_pos h2, if_pos (List.mem_cons_of_mem _ h2)]
      · rw [if_neg h2, if_neg (by simp [h, h2])]
theorem wipe_set {σ : L2.St} {j : Nat} {x : Option V} {vs : List Nat} (h : j ∈ vs) : L2.wipe (σ.set j x) vs = L2.wipe σ vs := by
  apply List.ext_getElem?
  intro i
  rw [wipe_get, wipe_get, List.length_set]
  by_cases h2 : i ∈ vs
  · rw [if_pos h2, if_pos h2]
  · rw [if_neg h2, if_neg h2, List.getElem?_set_ne (fun z => h2 (by rw [← z]; exact h))]
theorem wipe_wipe (σ : L2.St) (vs : List Nat) : L2.wipe (L2.wipe σ vs) vs = L2.wipe σ vs := by
  apply List.ext_getElem?
  intro i
  rw [wipe_get, L2.wipe_length]
  by_cases h2 : i ∈ vs
  · rw [if_pos h2, wipe_get, if_pos h2]
  · rw [if_neg h2]
theorem ag_name (i : Nat) {vs : List Nat} {x : Str} (hN : X.N.Nodup) (hi : X.N[i]? = some x := by rfl) (hx : Loc X.env.scope x := by exact Or.inl rfl) (hv : i ∈ vs := by decide) (hf : X.fn x = true ∨ X.env.scope.names.lookup x = some .local := by first | exact .inl rfl | exact .inr rfl) : AG B X (.Name x pos) vs (gName i) (aGName i) :=
  ⟨pg_name hN hi hx hf, fun v d σ s F C R H Q P hs hS r h k => k _ _ F C H (Ex.refl F) (hs.set r i) hS h, fun x σ H Q Q' h k => k _ _ (wipe_set hv) h⟩
abbrev AGs' := List D → ASt → AH → (ASt → AH → Prop) → Prop
def SimGs (B : Bs) (K : PySem.W.Frag) (g : TGs) (a : AGs') : Prop := ∀ (vs : List V) (ds : List D) (σ : L2.St) (s : ASt) (F : Hp) (C : AH) (R H : Hp) (Q : L2.St → Hp → Prop) (P : ASt → AH → Prop), Slo K F s σ → Sat B K F C R H → RepL K F vs ds → a ds s C P →
  (∀ s' σ' F' C' H', Ex F F' → Slo K F' s' σ' → Sat B K F' C' R H' → P s' C' → Q σ' H') → g vs σ H Q
structure AGs (B : Bs) (X : Cx) (es : List Expr) (vs : List Nat) (g : TGs) (a : AGs') : Prop where
  pg : PGs X es g
  sim : SimGs B X.K g a
  inn : ∀ xs σ H (Q Q' : L2.St → Hp → Prop), g xs σ H Q → (∀ σ2 H2, L2.wipe σ2 vs = L2.wipe σ vs → Q σ2 H2 → Q' σ2 H2) → g xs σ H Q'
def aGNil : AGs' := fun ds s C P => match ds with | [] => P s C | _ => False
def aGCons (g : AG') (r : AGs') : AGs' := fun ds s C P => match ds with | d :: ds => g d s C fun s' C' => r ds s' C' P | [] => False
theorem ags_nil {vs : List Nat} : AGs B X [] vs gNil aGNil := ⟨pgs_nil, fun vs ds σ s F C R H Q P hs hS r h k => by
  unfold aGNil at h
  split at h
  · cases r
    exact ⟨rfl, k s σ F C H (Ex.refl F) hs hS h⟩
  · exact h.elim, fun xs σ H Q Q' h k => ⟨h.1, k _ _ rfl h.2⟩⟩
theorem ags_cons {e : Expr} {es : List Expr} {vs : List Nat} {g : TG} {r : TGs} {a : AG'} {b : AGs'} (h1 : AG B X e vs g a) (h2 : AGs B X es vs r b) (hs : (assignEach (e :: es) X.env).map (·.2) = assign e X.env :: (assignEach es X.env).map (·.2) := by rfl) : AGs B X (e :: es) vs (gCons g r) (aGCons a b) :=
  ⟨pgs_cons h1.pg h2.pg hs, fun vs ds σ s F C R H Q P hs hS rr h k => by
    unfold aGCons at h
    split at h
    · cases rr with
      | cons r1 r2 =>
        refine ⟨_, _, rfl, ?_⟩
        refine h1.sim _ _ σ s F C R H _ _ hs hS r1 h fun s1 σ1 F1 C1 H1 e1 hs1 S1 q1 => ?_
        exact h2.sim _ _ σ1 s1 F1 C1 R H1 Q P hs1 S1 (r2.mono e1) q1 fun s2 σ2 F2 C2 H2 e2 => k s2 σ2 F2 C2 H2 (e1.trans e2)
    · exact h.elim, fun xs σ H Q Q' h k => by
    obtain ⟨v, r, e, h⟩ := h
    refine ⟨v, r, e, ?_⟩
    exact h1.inn v σ H _ _ h fun σ1 H1 w1 q => h2.inn r σ1 H1 _ _ q fun σ2 H2 w2 q2 => k σ2 H2 (w2.trans w1) q2⟩
def aGTup (n : Nat) (g : AGs') : AG' := fun d s C P => match d with | .tup ds => ds.length = n ∧ g ds s C P | _ => False
theorem ag_tup {es : List Expr} {k n : Nat} {vs : List Nat} {t : TGs} {a : AGs'} (h : AGs B X es vs t a) (hc : X.calm = true := by rfl) (hn : (assignEach es X.env).length = n := by rfl) (hst : (assignEach es X.env).findIdx? (·.1) = none := by rfl) (hK : X.K = K := by rfl) : AG B X (.Tuple es k pos) vs (gTup K n t) (aGTup n a) := by
  subst hK
  exact ⟨pg_tup hc h.pg hn hst, fun v d σ s F C R H Q P hs hS r h0 kk => by
    unfold aGTup at h0
    split at h0
    · cases r with
      | tup e q =>
        exact ⟨_, _, rfl, SqT.of (hS.ex _ _ e), by rw [q.length]; exact h0.1, h.sim _ _ σ s F C R H Q P hs hS q h0.2 kk⟩
    · exact h0.elim, fun x σ H Q Q' h0 kk => by
    obtain ⟨a, xs, e, hq, hl, h0⟩ := h0
    exact ⟨a, xs, e, hq, hl, h.inn xs σ H _ _ h0 kk⟩⟩
/-- xs[i] = .., a list -/
def aGSet (o i : AE') : AG' := fun d s C P => o s C fun x C1 => i s C1 fun y C2 => match x, y with
  | .ce p, .int j => (match C2 p with | some (.lst us) => (match ixN us.length j with | some k => P s (put C2 p (.lst (us.set k d))) | none => False) | _ => False)
  | _, _ => False
theorem sim_set {to ti : TE} {ao ai : AE'} (ho : SimE B K to ao) (hi : SimE B K ti ai) : SimG B K (gSub to ti rSetL) (aGSet ao ai) := by
  intro v d σ s F C R H Q P hs hS r h k
  refine ho σ s F C R H _ _ hs hS h fun x w F1 C1 H1 e1 S1 r1 h1 => ?_
  refine hi σ s F1 C1 R H1 _ _ (hs.mono e1) S1 h1 fun y w2 F2 C2 H2 e2 S2 r2 h2 => ?_
  split at h2
  · cases r1
    cases r2
    split at h2
    · rename_i us e
      split at h2
      · rename_i j q
        obtain ⟨xs, h3, h4⟩ := cellL S2 e
        exact ⟨_, xs, _, j, rfl, rfl, h3, by rw [h4.length]; exact q, k s σ F2 _ _ (e1.trans e2) (hs.mono (e1.trans e2)) (S2.mutC e (.lst (h4.set (r.mono (e1.trans e2)) j))) h2⟩
      · exact h2.elim
    · exact h2.elim
  · exact h2.elim

/-! ### statements -/
def aNext : AS' := fun E s C => E.nx s C
def aSeq (a b : AS') : AS' := fun E s C => a { E with nx := b E } s C
theorem sim_next : SimS B K tNext aNext := fun D' E σ s F C R H hE hs hS h => hE.nx s σ F C H (Ex.refl F) hs hS h
theorem sim_seq {t u : TS} {a b : AS'} (ha : SimS B K t a) (hb : SimS B K u b) : SimS B K (tSeq t u) (aSeq a b) := fun D' E σ s F C R H hE hs hS h =>
  ha { D' with nx := u D' } { E with nx := b E } σ s F C R H ⟨fun s σ F' C' H' e hs S z => hb D' E σ s F' C' R H' (hE.mono e) hs S z, hE.rt, hE.bk, hE.ct⟩ hs hS h
theorem ass_nil : ASs B X [] tNext aNext := ⟨pss_nil, sim_next⟩
theorem ass_one {st : Stmt} {t : TS} {a : AS'} (h : AS B X st t a) : ASs B X [st] t a := ⟨pss_one h.ps, h.sim⟩
theorem ass_cons {st : Stmt} {rest : List Stmt} {t u : TS} {a b : AS'} (h : AS B X st t a) (g : ASs B X rest u b) : ASs B X (st :: rest) (tSeq t u) (aSeq a b) := ⟨pss_cons h.ps g.ps, sim_seq h.sim g.sim⟩
/-- a cell that is changed no more, in a slot -/
def aFrz (i : Nat) (a : AS') : AS' := fun E s C => match s[i]? with
  | some (some (.ce p)) => (match C p with | some (.lst ds) => a E (s.set i (some (.lst ds))) (del C p) | some (.dk es) => a E (s.set i (some (.dk es))) (del C p) | _ => False)
  | _ => False
theorem sim_frz {t : TS} {a : AS'} (i : Nat) (h : SimS B K t a) : SimS B K t (aFrz i a) := fun D' E σ s F C R H hE hs hS h0 => by
  unfold aFrz at h0
  split at h0
  · rename_i p e
    split at h0
    · rename_i ds e2
      obtain ⟨hF, o, h1, h2⟩ := hS.cell p _ e2
      have eN := Ex.new (o := o) hF
      refine h D' E σ _ (upd F p o) _ R H (hE.mono eN) ((hs.mono eN).reset e fun v r => ?_) (hS.freeze e2 h1) h0
      cases r
      cases h2 with
      | lst q => exact .lst upd_same (q.mono eN)
    · rename_i ds e2
      obtain ⟨hF, o, h1, h2⟩ := hS.cell p _ e2
      have eN := Ex.new (o := o) hF
      refine h D' E σ _ (upd F p o) _ R H (hE.mono eN) ((hs.mono eN).reset e fun v r => ?_) (hS.freeze e2 h1) h0
      cases r
      cases h2 with
      | dk q => exact .dk upd_same (q.mono eN)
    · exact h0.elim
  · exact h0.elim
theorem ass_frz {sts : List Stmt} {t : TS} {a : AS'} (i : Nat) (h : ASs B X sts t a) : ASs B X sts t (aFrz i a) := ⟨h.ps, sim_frz i h.sim⟩
def aAsg (e : AE') (g : AG') : AS' := fun E s C => e s C fun x C1 => g x s C1 E.nx
theorem sim_asg {te : TE} {g : TG} {a : AE'} {b : AG'} (ha : SimE B K te a) (hb : SimG B K g b) : SimS B K (tAsg te g) (aAsg a b) := fun D' E σ s F C R H hE hs hS h => by
  refine ha σ s F C R H _ _ hs hS h fun x v F1 C1 H1 e1 S1 r1 h1 => ?_
  exact hb v x σ s F1 C1 R H1 _ _ (hs.mono e1) S1 r1 h1 fun s2 σ2 F2 C2 H2 e2 hs2 S2 h2 => hE.nx s2 σ2 F2 C2 H2 (e1.trans e2) hs2 S2 h2
section
variable {e : Expr} {te : TE} {a : AE'}
theorem sim_name (i : Nat) : SimG B K (gName i) (aGName i) := fun v d σ s F C R H Q P hs hS r h k => k _ _ F C H (Ex.refl F) (hs.set r i) hS h
theorem as_set (i : Nat) {x : Str} {pos' : Pos} (hN : X.N.Nodup) (h : AE B X e te a) (hi : X.N[i]? = some x := by rfl) (hx : Loc X.env.scope x := by exact Or.inl rfl) (hs : swapsWith e (some (.Name x pos')) pos.line X.env = pure false := by rfl) (hf : X.fn x = true ∨ X.env.scope.names.lookup x = some .local := by first | exact .inl rfl | exact .inr rfl) :
    AS B X (.Assign [.Name x pos'] e pos) (tAsg te (gName i)) (aAsg a (aGName i)) := ⟨ps_set hN hi hx h.pe hs hf, sim_asg h.sim (sim_name i)⟩
theorem as_asg {tg : Expr} {vs : List Nat} {g : TG} {b : AG'} (h : AE B X e te a) (hg : AG B X tg vs g b) (hs : swapsWithSole [tg] e pos.line X.env = pure false := by rfl) (hw : swappedStores [tg] e X.env = pure none := by rfl)
    (h1 : (assignEach [tg] X.env).map (·.2) = [assign tg X.env] := by rfl) : AS B X (.Assign [tg] e pos) (tAsg te g) (aAsg a b) := ⟨ps_asg h.pe hg.pg hs hw h1, sim_asg h.sim hg.sim⟩
/-- xs[i] = e -/
theorem as_setL {o i : Expr} {to ti : TE} {ao ai : AE'} {p2 : Pos} (h : AE B X e te a) (ho : AE B X o to ao) (hi : AE B X i ti ai) (hs : swapsWithSole [.Subscript o i p2] e pos.line X.env = pure false := by rfl) (hw : swappedStores [.Subscript o i p2] e X.env = pure none := by rfl)
    (h1 : (assignEach [.Subscript o i p2] X.env).map (·.2) = [assign (.Subscript o i p2) X.env] := by rfl)
    (ha : ∀ v, assign (.Subscript o i p2) X.env v = (do
      let ov ← holding [v] (eval o X.env)
      let iv ← holding [v, ov] (eval i X.env)
      standAt p2
      holding [v, ov, iv] (setItem ov iv v)
      release [v, ov, iv] []) := by intro _; rfl) : AS B X (.Assign [.Subscript o i p2] e pos) (tAsg te (gSub to ti rSetL)) (aAsg a (aGSet ao ai)) :=
  ⟨ps_asg h.pe (pg_sub ho.pe hi.pe set_list ha) hs hw h1, sim_asg h.sim (sim_set ho.sim hi.sim)⟩
def aDrop (a : AE') : AS' := fun E s C => a s C fun _ C1 => E.nx s C1
theorem as_expr (h : AE B X e te a) (hs : swapsWith e none pos.line X.env = pure false := by rfl) : AS B X (.Expr e pos) (tDrop te) (aDrop a) := ⟨ps_expr h.pe hs, fun D' E σ s F C R H hE hs hS h0 => by
  exact h.sim σ s F C R H _ _ hs hS h0 fun x v F1 C1 H1 e1 S1 r1 h1 => hE.nx s σ F1 C1 H1 e1 (hs.mono e1) S1 h1⟩
def aRet (a : AE') : AS' := fun E s C => a s C E.rt
theorem as_ret (h : AE B X e te a) : AS B X (.Return (some e) pos) (tRet te) (aRet a) := ⟨ps_ret h.pe, fun D' E σ s F C R H hE hs hS h0 => by
  exact h.sim σ s F C R H _ _ hs hS h0 fun x v F1 C1 H1 e1 S1 r1 h1 => hE.rt x v F1 C1 H1 e1 r1 S1 h1⟩
end
def aRetN : AS' := fun E _ C => E.rt .non C
theorem as_retN : AS B X (.Return none pos) tRetN aRetN := ⟨ps_retN, fun D' E σ s F C R H hE hs hS h0 => hE.rt .non .non F C H (Ex.refl F) .non hS h0⟩
def aBrk : AS' := fun E s C => E.bk s C
def aCon : AS' := fun E s C => E.ct s C
theorem as_brk : AS B X (.Break pos) tBreak aBrk := ⟨ps_break, fun D' E σ s F C R H hE hs hS h => hE.bk s σ F C H (Ex.refl F) hs hS h⟩
theorem as_con : AS B X (.Continue pos) tCont aCon := ⟨ps_continue, fun D' E σ s F C R H hE hs hS h => hE.ct s σ F C H (Ex.refl F) hs hS h⟩
theorem as_pass : AS B X (.Pass pos) tNext aNext := ⟨ps_pass, sim_next⟩
def aIfS (c : AT') (a b : AS') : AS' := fun E s C => c s C fun t C1 => if t = true then a E s C1 else b E s C1
theorem as_if {c : Expr} {p q : List Stmt} {tc : TT} {t u : TS} {ac : AT'} {a b : AS'} (hc : AT B X c tc ac) (ha : ASs B X p t a) (hb : ASs B X q u b) : AS B X (.If c p q pos) (tIfS tc t u) (aIfS ac a b) := ⟨ps_if hc.pt ha.ps hb.ps, fun D' E σ s F C R H hE hs hS h0 => by
  refine hc.sim σ s F C R H _ _ hs hS h0 fun t F1 C1 H1 e1 S1 h1 => ?_
  cases t with
  | true => exact ha.sim D' E σ s F1 C1 R H1 (hE.mono e1) (hs.mono e1) S1 h1
  | false => exact hb.sim D' E σ s F1 C1 R H1 (hE.mono e1) (hs.mono e1) S1 h1⟩
/-- name op= e, ints -/
def aAug (i : Nat) (f : Int → Int → Int) (a : AE') : AS' := fun E s C => match s[i]? with
  | some (some (.int x)) => a s C fun y C1 => (match y with | .int j => E.nx (s.set i (some (.int (f x j)))) C1 | _ => False)
  | _ => False
theorem sim_aug {f : Int → Int → Int} {te : TE} {a : AE'} (i : Nat) (h : SimE B K te a) : SimS B K (tAug i te (ipI f)) (aAug i f a) := fun D' E σ s F C R H hE hs hS h0 => by
  unfold aAug at h0
  split at h0
  · rename_i x e
    obtain ⟨v, h1, h2⟩ := hs.at' i _ e
    cases h2
    refine ⟨_, h1, h σ s F C R H _ _ hs hS h0 fun y w F1 C1 H1 e1 S1 r1 h3 => ?_⟩
    split at h3
    · cases r1
      exact ⟨_, _, rfl, rfl, hE.nx _ _ F1 C1 H1 e1 ((hs.mono e1).set (.int _) i) S1 h3⟩
    · exact h3.elim
  · exact h0.elim

/-! ### loops -/
def aFor (w : AI') (g : AG') (b : AS') : AS' := fun E s C => w s C fun items hold C1 => ∃ W : Nat → ASt → AH → Prop, W 0 s C1 ∧ (∀ i s' C', i ≤ items.length → W i s' C' → hold C') ∧
  (∀ i d s' C', items[i]? = some d → W i s' C' → g d s' C' fun s2 C2 => b { E with nx := W (i + 1), ct := W (i + 1), bk := E.nx } s2 C2) ∧ ∀ s' C', W items.length s' C' → E.nx s' C'
theorem sim_for {wi : TI} {g : TG} {tb : TS} {aw : AI'} {ag : AG'} {ab : AS'} (hi : SimI B K wi aw) (hg : SimG B K g ag) (hb : SimS B K tb ab) : SimS B K (tFor wi g tb) (aFor aw ag ab) := fun D' E σ s F C R H hE hs hS h => by
  refine hi σ s F C R H _ _ hs hS h fun items hold J F1 C1 H1 e1 S1 Wk h1 => ?_
  obtain ⟨W, h0, hh, hstep, hend⟩ := h1
  refine ⟨fun i m σ' H' => m = items.length - i ∧ i ≤ items.length ∧ ∃ s' F' C', Ex F1 F' ∧ Slo K F' s' σ' ∧ Sat B K F' C' R H' ∧ W i s' C', ⟨items.length, by simp, Nat.zero_le _, s, F1, C1, Ex.refl F1, hs.mono e1, S1, h0⟩, ?_⟩
  rintro i m σ' H' ⟨rfl, hi, s', F', C', e', hs', S', w⟩
  by_cases hlt : i < items.length
  · refine .inr ⟨Wk.go F' C' R H' i e' S' (hh i s' C' hi w) hlt, fun σ2 H2 => ∃ s2 F2 C2, Ex F1 F2 ∧ Slo K F2 s2 σ2 ∧ Sat B K F2 C2 R H2 ∧ W (i + 1) s2 C2, fun σ2 H2 z => ⟨items.length - (i + 1), by omega, rfl, hlt, z⟩, fun x H'' y => ?_⟩
    obtain ⟨d, F'', hd, e'', S'', r⟩ := Wk.yld F' C' R H' i x H'' e' S' (hh i s' C' hi w) hlt y
    refine hg x d σ' s' F'' C' R H'' _ _ (hs'.mono e'') S'' r (hstep i d s' C' hd w) fun s2 σ2 F2 C2 H2 e2 hs2 S2 h2 => ?_
    have eA : Ex F1 F2 := (e'.trans e'').trans e2
    refine hb _ { E with nx := W (i + 1), ct := W (i + 1), bk := E.nx } σ2 s2 F2 C2 R H2 ⟨fun s3 σ3 F3 C3 H3 e3 hs3 S3 z => ⟨s3, F3, C3, eA.trans e3, hs3, S3, z⟩, fun d v F3 C3 H3 e3 r3 S3 z => hE.rt d v F3 C3 H3 ((e1.trans eA).trans e3) r3 S3 z,
      fun s3 σ3 F3 C3 H3 e3 hs3 S3 z => hE.nx s3 σ3 F3 C3 H3 ((e1.trans eA).trans e3) hs3 S3 z, fun s3 σ3 F3 C3 H3 e3 hs3 S3 z => ⟨s3, F3, C3, eA.trans e3, hs3, S3, z⟩⟩ hs2 S2 h2
  · have e : i = items.length := by omega
    subst e
    exact .inl ⟨Wk.stop F' C' R H' e' S' (hh _ s' C' (Nat.le_refl _) w), hE.nx s' σ' F' C' H' (e1.trans e') hs' S' (hend s' C' w)⟩
theorem as_for {tg iter : Expr} {body : List Stmt} {wi : TI} {vs : List Nat} {g : TG} {tb : TS} {aw : AI'} {ag : AG'} {ab : AS'} (hi : AI B X tg iter wi aw) (hg : AG B X tg vs g ag) (hb : ASs B X body tb ab) (hp : PassesOwn (model X.prog X.w) X.A X.env X.xe := by exact PassesOwn.never) (hc : X.calm = true := by rfl)
    (hs : ∀ x, foldedSetIterable iter X.env x = pure x := by intro _; rfl) : AS B X (.For tg iter body [] pos) (tFor wi g tb) (aFor aw ag ab) := ⟨ps_for hp hc hi.pi hg.pg hb.ps hs, sim_for hi.sim hg.sim hb.sim⟩
def aWhile (c : AT') (b : AS') : AS' := fun E s C => ∃ W : Nat → ASt → AH → Prop, (∃ m, W m s C) ∧ ∀ m s' C', W m s' C' → c s' C' fun t C1 => if t = true then b { E with nx := fun s2 C2 => ∃ m', m' < m ∧ W m' s2 C2, ct := fun s2 C2 => ∃ m', m' < m ∧ W m' s2 C2, bk := E.nx } s' C1 else E.nx s' C1
theorem sim_while {tc : TT} {tb : TS} {ac : AT'} {ab : AS'} (hc : SimT B K tc ac) (hb : SimS B K tb ab) : SimS B K (tWhile tc tb) (aWhile ac ab) := fun D' E σ s F C R H hE hs hS h => by
  obtain ⟨W, ⟨m0, h0⟩, hstep⟩ := h
  refine ⟨fun m σ' H' => ∃ s' F' C', Ex F F' ∧ Slo K F' s' σ' ∧ Sat B K F' C' R H' ∧ W m s' C', ⟨m0, s, F, C, Ex.refl F, hs, hS, h0⟩, ?_⟩
  rintro m σ' H' ⟨s', F', C', e', hs', S', w⟩
  refine hc σ' s' F' C' R H' _ _ hs' S' (hstep m s' C' w) fun t F1 C1 H1 e1 S1 h1 => ?_
  have eA : Ex F F1 := e'.trans e1
  cases t with
  | true =>
    refine ⟨fun σ2 H2 => ∃ m', m' < m ∧ ∃ s2 F2 C2, Ex F F2 ∧ Slo K F2 s2 σ2 ∧ Sat B K F2 C2 R H2 ∧ W m' s2 C2, fun σ2 H2 z => z, ?_⟩
    refine hb _ { E with nx := fun s2 C2 => ∃ m', m' < m ∧ W m' s2 C2, ct := fun s2 C2 => ∃ m', m' < m ∧ W m' s2 C2, bk := E.nx } σ' s' F1 C1 R H1 ⟨fun s3 σ3 F3 C3 H3 e3 hs3 S3 z => ?_, fun d v F3 C3 H3 e3 r3 S3 z => hE.rt d v F3 C3 H3 (eA.trans e3) r3 S3 z,
      fun s3 σ3 F3 C3 H3 e3 hs3 S3 z => hE.nx s3 σ3 F3 C3 H3 (eA.trans e3) hs3 S3 z, fun s3 σ3 F3 C3 H3 e3 hs3 S3 z => ?_⟩ (hs'.mono e1) S1 h1
    · obtain ⟨m', hm, z⟩ := z
      exact ⟨m', hm, s3, F3, C3, eA.trans e3, hs3, S3, z⟩
    · obtain ⟨m', hm, z⟩ := z
      exact ⟨m', hm, s3, F3, C3, eA.trans e3, hs3, S3, z⟩
  | false => exact hE.nx s' σ' F1 C1 H1 eA (hs'.mono e1) S1 h1
theorem as_while {c : Expr} {body : List Stmt} {tc : TT} {tb : TS} {ac : AT'} {ab : AS'} (hc : AT B X c tc ac) (hb : ASs B X body tb ab) (hp : PassesOwn (model X.prog X.w) X.A X.env X.xe := by exact PassesOwn.never) : AS B X (.While c body [] pos) (tWhile tc tb) (aWhile ac ab) := ⟨ps_while hp hc.pt hb.ps, sim_while hc.sim hb.sim⟩

/-! ### comprehensions -/
def aYes : AT' := fun _ C P => P true C
theorem ats_nil : ATs B X [] tYes aYes := ⟨pts_nil, fun σ s F C R H Q P hs hS h k => k true F C H (Ex.refl F) hS h⟩
theorem ats_one {c : Expr} {t : TT} {a : AT'} (h : AT B X c t a) : ATs B X [c] t a := ⟨pts_one h.pt, h.sim⟩
/-- the list as it is made; fin: what becomes of it -/
def aLcW (w : AI') (g : AG') (t : AT') (e : AE') (vs : List Nat) (fin : List D → AH → Prop) : ASt → AH → Prop := fun s C => w s C fun items hold C1 => items.length ≤ sizeLine ∧ ∃ W : Nat → List D → AH → Prop, W 0 [] C1 ∧ (∀ i acc C', i ≤ items.length → W i acc C' → hold C') ∧
  (∀ i d acc C', items[i]? = some d → W i acc C' → g d (wipeA s vs) C' fun s2 C2 => t s2 C2 fun b C3 => if b = true then e s2 C3 fun y C4 => W (i + 1) (acc ++ [y]) C4 else W (i + 1) acc C3) ∧ ∀ acc C', W items.length acc C' → fin acc C'
def aLc (w : AI') (g : AG') (t : AT') (e : AE') (vs : List Nat) : AE' := fun s C P => aLcW w g t e vs (fun acc C' => P (.lst acc) C') s C
def aLcM (w : AI') (g : AG') (t : AT') (e : AE') (vs : List Nat) : AE' := fun s C P => aLcW w g t e vs (fun acc C' => ∀ p, C' p = none → P (.ce p) (put C' p (.lst acc))) s C
theorem lc_sim {wi : TI} {g : TG} {tt : TT} {te : TE} {vs : List Nat} {aw : AI'} {ag : AG'} {at' : AT'} {ae : AE'} {fin : List D → AH → Prop} (hi : SimI B K wi aw) (hg : SimG B K g ag) (hin : GIn vs g) (ht : SimT B K tt at') (he : SimE B K te ae)
    {σ : L2.St} {s : ASt} {F : Hp} {C : AH} {R H : Hp} {Q : VK} (hs : Slo K F s σ) (hS : Sat B K F C R H) (h : aLcW aw ag at' ae vs fin s C)
    (k : ∀ Dl acc accD F' C' H', Ex F F' → R Dl = none → Sat B K F' C' (upd R Dl (.lst acc)) H' → RepL K F' acc accD → fin accD C' → Q (.ref Dl) H') : tLc wi g tt te vs σ H Q := by
  refine hi σ s F C R H _ _ hs hS h fun items hold J F1 C1 H1 e1 S1 Wk h1 => ?_
  obtain ⟨hz, W, h0, hh, hstep, hend⟩ := h1
  intro Dl hD
  have hR := S1.freeR hD
  refine ⟨fun i m H' => m = items.length - i ∧ i ≤ items.length ∧ ∃ F' C' acc accD, Ex F1 F' ∧ Sat B K F' C' (upd R Dl (.lst acc)) H' ∧ RepL K F' acc accD ∧ accD.length ≤ i ∧ W i accD C',
    ⟨items.length, by simp, Nat.zero_le _, F1, C1, [], [], Ex.refl F1, S1.setR (S1.freeF hD) (S1.freeC hD) (S1.freeB hR) _, .nil, Nat.le_refl _, h0⟩, ?_⟩
  rintro i m H' ⟨rfl, hi, F', C', acc, accD, e', S', ra, hl, w⟩
  by_cases hlt : i < items.length
  · refine .inr ⟨Wk.go F' C' _ H' i e' S' (hh i accD C' hi w) hlt, fun H2 => ∃ F2 C2 acc accD, Ex F1 F2 ∧ Sat B K F2 C2 (upd R Dl (.lst acc)) H2 ∧ RepL K F2 acc accD ∧ accD.length ≤ i + 1 ∧ W (i + 1) accD C2, fun H2 z => ⟨items.length - (i + 1), by omega, rfl, hlt, z⟩, fun x H'' y => ?_⟩
    obtain ⟨d, F'', hd, e'', S'', r⟩ := Wk.yld F' C' _ H' i x H'' e' S' (hh i accD C' hi w) hlt y
    refine hin x _ H'' (fun σ2 H2 => tt σ2 H2 fun b H3 => if b = true then te σ2 H3 fun y H4 => ∃ acc, H4 Dl = some (.lst acc) ∧ acc.length < sizeLine ∧ ∃ F2 C2 acc2 accD, Ex F1 F2 ∧ Sat B K F2 C2 (upd R Dl (.lst acc2)) (upd H4 Dl (.lst (acc ++ [y]))) ∧ RepL K F2 acc2 accD ∧ accD.length ≤ i + 1 ∧ W (i + 1) accD C2
      else ∃ F2 C2 acc accD, Ex F1 F2 ∧ Sat B K F2 C2 (upd R Dl (.lst acc)) H3 ∧ RepL K F2 acc accD ∧ accD.length ≤ i + 1 ∧ W (i + 1) accD C2) _ ?_ fun σ2 H2 w2 q => ⟨w2.trans (wipe_wipe σ vs), q⟩
    refine hg x d _ (wipeA s vs) F'' C' _ H'' _ _ ((hs.mono ((e1.trans e').trans e'')).wipe vs) S'' r (hstep i d accD C' hd w) fun s2 σ2 F2 C2 H2 e2 hs2 S2 h2 => ?_
    refine ht σ2 s2 F2 C2 _ H2 _ _ hs2 S2 h2 fun b F3 C3 H3 e3 S3 h3 => ?_
    have eA : Ex F' F3 := (e''.trans e2).trans e3
    cases b with
    | true =>
      refine he σ2 s2 F3 C3 _ H3 _ _ (hs2.mono e3) S3 h3 fun y v F4 C4 H4 e4 S4 r4 h4 => ?_
      obtain ⟨f4, c4, d4⟩ := S4.priv Dl _ upd_same
      refine ⟨acc, d4, ?_, F4, C4, acc ++ [v], accD ++ [y], (e'.trans eA).trans e4, ?_, (ra.mono (eA.trans e4)).append (.cons r4 .nil), by rw [List.length_append]; exact Nat.succ_le_succ hl, h4⟩
      · rw [ra.length]; omega
      · have := S4.setR f4 c4 (S1.freeB hR) (.lst (acc ++ [v]))
        rw [upd_upd] at this
        exact this
    | false => exact ⟨F3, C3, acc, accD, e'.trans eA, S3, ra.mono eA, Nat.le_succ_of_le hl, h3⟩
  · have e : i = items.length := by omega
    subst e
    exact .inl ⟨Wk.stop F' C' _ H' e' S' (hh _ accD C' (Nat.le_refl _) w), k Dl acc accD F' C' H' (e1.trans e') hR S' ra (hend accD C' w)⟩
theorem sim_lc {wi : TI} {g : TG} {tt : TT} {te : TE} {vs : List Nat} {aw : AI'} {ag : AG'} {at' : AT'} {ae : AE'} (hi : SimI B K wi aw) (hg : SimG B K g ag) (hin : GIn vs g) (ht : SimT B K tt at') (he : SimE B K te ae) : SimE B K (tLc wi g tt te vs) (aLc aw ag at' ae vs) := fun σ s F C R H Q P hs hS h k => by
  refine lc_sim hi hg hin ht he hs hS h fun Dl acc accD F' C' H' e1 hR S r h1 => ?_
  have eN := Ex.new (o := .lst acc) (S.priv Dl _ upd_same).1
  exact k _ _ _ C' H' (e1.trans eN) (S.outF hR (hS.freeB hR)) (.lst upd_same (r.mono eN)) h1
theorem sim_lcM {wi : TI} {g : TG} {tt : TT} {te : TE} {vs : List Nat} {aw : AI'} {ag : AG'} {at' : AT'} {ae : AE'} (hi : SimI B K wi aw) (hg : SimG B K g ag) (hin : GIn vs g) (ht : SimT B K tt at') (he : SimE B K te ae) : SimE B K (tLc wi g tt te vs) (aLcM aw ag at' ae vs) := fun σ s F C R H Q P hs hS h k => by
  refine lc_sim hi hg hin ht he hs hS h fun Dl acc accD F' C' H' e1 hR S r h1 => ?_
  exact k _ _ F' _ H' e1 (S.outC hR (hS.freeB hR) (.lst r)) (.ce Dl) (h1 Dl (S.priv Dl _ upd_same).2.1)
section
variable {elt tg iter : Expr} {ifs : List Expr} {scope : Scope} {own : List (Str × Nat)} {wi : TI} {g : TG} {tt : TT} {te : TE} {aw : AI'} {ag : AG'} {at' : AT'} {ae : AE'}
theorem ae_lc (own : List (Str × Nat)) (hN : X.N.Nodup) (hi : AI B X tg iter wi aw) (ok : BlkOk X.N X.env.scope scope own)
    (hg : ∀ (s : Shared) (H : Hp) (C : Addr) (cl : List (Str × Addr)) (fp : List Addr), AG B (X.blk s H scope (compEnvC scope cl C X.env) fp) tg (own.map (·.2)) g ag) (ht : ∀ (s : Shared) (H : Hp) (C : Addr) (cl : List (Str × Addr)) (fp : List Addr), ATs B (X.blk s H scope (compEnvC scope cl C X.env) fp) ifs tt at')
    (he : ∀ (s : Shared) (H : Hp) (C : Addr) (cl : List (Str × Addr)) (fp : List Addr), AE B (X.blk s H scope (compEnvC scope cl C X.env) fp) elt te ae) (hc : X.calm = true := by rfl) (hs : ∀ x, foldedSetIterable iter X.env x = pure x := by intro _; rfl) :
    AE B X (.ListComp elt [⟨tg, iter, ifs, 0⟩] scope pos) (tLc wi g tt te (own.map (·.2))) (aLc aw ag at' ae (own.map (·.2))) :=
  ⟨pe_lc hc hN hi.pi ok (fun s H C cl fp => (hg s H C cl fp).pg) (fun s H C cl fp => (ht s H C cl fp).pts) (fun s H C cl fp => (he s H C cl fp).pe) hs,
    let G := hg X.s_0 (fun _ => none) 0 [] []
    sim_lc hi.sim G.sim G.inn (ht X.s_0 (fun _ => none) 0 [] []).sim (he X.s_0 (fun _ => none) 0 [] []).sim⟩
theorem ae_lcM (own : List (Str × Nat)) (hN : X.N.Nodup) (hi : AI B X tg iter wi aw) (ok : BlkOk X.N X.env.scope scope own)
    (hg : ∀ (s : Shared) (H : Hp) (C : Addr) (cl : List (Str × Addr)) (fp : List Addr), AG B (X.blk s H scope (compEnvC scope cl C X.env) fp) tg (own.map (·.2)) g ag) (ht : ∀ (s : Shared) (H : Hp) (C : Addr) (cl : List (Str × Addr)) (fp : List Addr), ATs B (X.blk s H scope (compEnvC scope cl C X.env) fp) ifs tt at')
    (he : ∀ (s : Shared) (H : Hp) (C : Addr) (cl : List (Str × Addr)) (fp : List Addr), AE B (X.blk s H scope (compEnvC scope cl C X.env) fp) elt te ae) (hc : X.calm = true := by rfl) (hs : ∀ x, foldedSetIterable iter X.env x = pure x := by intro _; rfl) :
    AE B X (.ListComp elt [⟨tg, iter, ifs, 0⟩] scope pos) (tLc wi g tt te (own.map (·.2))) (aLcM aw ag at' ae (own.map (·.2))) :=
  ⟨pe_lc hc hN hi.pi ok (fun s H C cl fp => (hg s H C cl fp).pg) (fun s H C cl fp => (ht s H C cl fp).pts) (fun s H C cl fp => (he s H C cl fp).pe) hs,
    let G := hg X.s_0 (fun _ => none) 0 [] []
    sim_lcM hi.sim G.sim G.inn (ht X.s_0 (fun _ => none) 0 [] []).sim (he X.s_0 (fun _ => none) 0 [] []).sim⟩
/-- name = [..] -/
theorem as_setLc (i : Nat) (own : List (Str × Nat)) {y : Str} {py spos : Pos} (hN : X.N.Nodup) (hi : AI B X tg iter wi aw) (hsw : swapsWith (.ListComp elt [⟨tg, iter, ifs, 0⟩] scope pos) (some (.Name y py)) spos.line X.env = pure true) (ok : BlkOk X.N X.env.scope scope own)
    (hg : ∀ (s : Shared) (H : Hp) (C : Addr) (cl : List (Str × Addr)) (fp : List Addr), AG B (X.blk s H scope (compEnvC scope cl C X.env) fp) tg (own.map (·.2)) g ag) (ht : ∀ (s : Shared) (H : Hp) (C : Addr) (cl : List (Str × Addr)) (fp : List Addr), ATs B (X.blk s H scope (compEnvC scope cl C X.env) fp) ifs tt at')
    (he : ∀ (s : Shared) (H : Hp) (C : Addr) (cl : List (Str × Addr)) (fp : List Addr), AE B (X.blk s H scope (compEnvC scope cl C X.env) fp) elt te ae) (hy : X.N[i]? = some y := by rfl) (hyl : X.env.scope.names.lookup y = some .local := by rfl) (hc : X.calm = true := by rfl) (hs : ∀ x, foldedSetIterable iter X.env x = pure x := by intro _; rfl) :
    AS B X (.Assign [.Name y py] (.ListComp elt [⟨tg, iter, ifs, 0⟩] scope pos) spos) (tAsg (tLc wi g tt te (own.map (·.2))) (gName i)) (aAsg (aLc aw ag at' ae (own.map (·.2))) (aGName i)) :=
  ⟨ps_setLc hc hN hy hyl hsw hi.pi ok (fun s H C cl fp => (hg s H C cl fp).pg) (fun s H C cl fp => (ht s H C cl fp).pts) (fun s H C cl fp => (he s H C cl fp).pe) hs,
    let G := hg X.s_0 (fun _ => none) 0 [] []
    sim_asg (sim_lc hi.sim G.sim G.inn (ht X.s_0 (fun _ => none) 0 [] []).sim (he X.s_0 (fun _ => none) 0 [] []).sim) (sim_name i)⟩
theorem as_setLcM (i : Nat) (own : List (Str × Nat)) {y : Str} {py spos : Pos} (hN : X.N.Nodup) (hi : AI B X tg iter wi aw) (hsw : swapsWith (.ListComp elt [⟨tg, iter, ifs, 0⟩] scope pos) (some (.Name y py)) spos.line X.env = pure true) (ok : BlkOk X.N X.env.scope scope own)
    (hg : ∀ (s : Shared) (H : Hp) (C : Addr) (cl : List (Str × Addr)) (fp : List Addr), AG B (X.blk s H scope (compEnvC scope cl C X.env) fp) tg (own.map (·.2)) g ag) (ht : ∀ (s : Shared) (H : Hp) (C : Addr) (cl : List (Str × Addr)) (fp : List Addr), ATs B (X.blk s H scope (compEnvC scope cl C X.env) fp) ifs tt at')
    (he : ∀ (s : Shared) (H : Hp) (C : Addr) (cl : List (Str × Addr)) (fp : List Addr), AE B (X.blk s H scope (compEnvC scope cl C X.env) fp) elt te ae) (hy : X.N[i]? = some y := by rfl) (hyl : X.env.scope.names.lookup y = some .local := by rfl) (hc : X.calm = true := by rfl) (hs : ∀ x, foldedSetIterable iter X.env x = pure x := by intro _; rfl) :
    AS B X (.Assign [.Name y py] (.ListComp elt [⟨tg, iter, ifs, 0⟩] scope pos) spos) (tAsg (tLc wi g tt te (own.map (·.2))) (gName i)) (aAsg (aLcM aw ag at' ae (own.map (·.2))) (aGName i)) :=
  ⟨ps_setLc hc hN hy hyl hsw hi.pi ok (fun s H C cl fp => (hg s H C cl fp).pg) (fun s H C cl fp => (ht s H C cl fp).pts) (fun s H C cl fp => (he s H C cl fp).pe) hs,
    let G := hg X.s_0 (fun _ => none) 0 [] []
    sim_asg (sim_lcM hi.sim G.sim G.inn (ht X.s_0 (fun _ => none) 0 [] []).sim (he X.s_0 (fun _ => none) 0 [] []).sim) (sim_name i)⟩
end
end
end AL
namespace AL
open PySem PySem.Spec L2
variable {B : Bs}
theorem law_sp {asp : ASp} {n : Nat} (h : ∀ ns : List Int, ns.length ≤ n → asp [.scr ns] (fun _ => none) (fun d _ => d = .bl true)) (w : Gd) (K : PySem.W.Frag) (H : Hp) (a : Addr) (ns : List Int) (hn : ns.length ≤ n) (hS : SqL K H a (ns.map V.int)) :
    spOf w K 1 asp [.ref a] H (fun v _ => v = .bl true) fun _ _ _ => False := by
  refine ⟨rfl, H, fun _ => none, fun _ => none, [.scr ns], fun d _ => d = .bl true, ⟨fun _ _ z => (by cases z), fun _ _ z => (by cases z), Ex.refl H, fun _ _ z => (by cases z), fun _ _ z => (by cases z)⟩, .cons (.scr hS) .nil, h ns hn, fun d v F' C' H' _ _ r e => ?_⟩
  subst e
  cases r
  rfl
end AL

namespace AL
open PySem L2
theorem atI_nat' {α : Type} {xs : List α} {i : Nat} {x : α} (h : xs[i]? = some x) : atI xs (i : Int) = some x := by
  have hi := (List.getElem?_eq_some_iff.mp h).1
  unfold atI ixN
  rw [if_pos (by omega), if_pos (by omega)]
  simpa using h
section
variable {a b : AS'} {nx : ASt → AH → Prop} {rt : D → AH → Prop} {bk ct : ASt → AH → Prop} {s : ASt} {C : AH} {e e1 e2 e3 : AE'} {t t1 t2 : AT'} {g : AG'} {P : D → AH → Prop} {PB : Bool → AH → Prop} {PA : List D → AH → Prop} {w : AI'} {aa : AA'}
/-! ### one step each -/
theorem g_body' {n : Nat} {ds : List D} {s : ASt} (h0 : ds.map some ++ List.replicate (n - ds.length) none = s) (h : a ⟨fun _ C' => P .non C', P, fun _ _ => False, fun _ _ => False⟩ s C) : aBody n a ds C P := by
  subst h0
  exact h
theorem g_gname' {i : Nat} {d : D} {Q : ASt → AH → Prop} {s' : ASt} (h0 : s.set i (some d) = s') (h : Q s' C) : aGName i d s C Q := by
  subst h0
  exact h
theorem g_body {n : Nat} {ds : List D} (h : a ⟨fun _ C' => P .non C', P, fun _ _ => False, fun _ _ => False⟩ (ds.map some ++ List.replicate (n - ds.length) none) C) : aBody n a ds C P := h
theorem g_seq (h : a ⟨b ⟨nx, rt, bk, ct⟩, rt, bk, ct⟩ s C) : aSeq a b ⟨nx, rt, bk, ct⟩ s C := h
theorem g_next (h : nx s C) : aNext ⟨nx, rt, bk, ct⟩ s C := h
theorem g_brk (h : bk s C) : aBrk ⟨nx, rt, bk, ct⟩ s C := h
theorem g_con (h : ct s C) : aCon ⟨nx, rt, bk, ct⟩ s C := h
theorem g_asg (h : e s C fun x C1 => g x s C1 nx) : aAsg e g ⟨nx, rt, bk, ct⟩ s C := h
theorem g_drop (h : e s C fun _ C1 => nx s C1) : aDrop e ⟨nx, rt, bk, ct⟩ s C := h
theorem g_ret (h : e s C rt) : aRet e ⟨nx, rt, bk, ct⟩ s C := h
theorem g_retN (h : rt .non C) : aRetN ⟨nx, rt, bk, ct⟩ s C := h
theorem g_ifS (h : t s C fun k C1 => if k = true then a ⟨nx, rt, bk, ct⟩ s C1 else b ⟨nx, rt, bk, ct⟩ s C1) : aIfS t a b ⟨nx, rt, bk, ct⟩ s C := h
theorem g_ifF (ht : ∀ K : Bool → AH → Prop, K false C → t s C K) (h : b ⟨nx, rt, bk, ct⟩ s C) : aIfS t a b ⟨nx, rt, bk, ct⟩ s C := ht _ h
theorem g_ifT (ht : ∀ K : Bool → AH → Prop, K true C → t s C K) (h : a ⟨nx, rt, bk, ct⟩ s C) : aIfS t a b ⟨nx, rt, bk, ct⟩ s C := ht _ h
/-- the cells may have turned -/
theorem g_ifFC {Z : AH → Prop} (ht : ∀ K : Bool → AH → Prop, (∀ C', Z C' → K false C') → t s C K) (h : ∀ C', Z C' → b ⟨nx, rt, bk, ct⟩ s C') : aIfS t a b ⟨nx, rt, bk, ct⟩ s C := ht _ h
/-- what a statement leaves, told by one word M -/
theorem g_cut (M : ASt → AH → Prop) (h : ∀ N : ASt → AH → Prop, (∀ s' C', M s' C' → N s' C') → a ⟨N, rt, bk, ct⟩ s C) (k : ∀ s' C', M s' C' → b ⟨nx, rt, bk, ct⟩ s' C') : aSeq a b ⟨nx, rt, bk, ct⟩ s C := h _ k
theorem g_ifJ (M : ASt → AH → Prop) (h : ∀ N : ASt → AH → Prop, (∀ s' C', M s' C' → N s' C') → aIfS t a b ⟨N, rt, bk, ct⟩ s C) (k : ∀ s' C', M s' C' → nx s' C') : aIfS t a b ⟨nx, rt, bk, ct⟩ s C := h nx k
theorem g_gname {i : Nat} {d : D} {Q : ASt → AH → Prop} (h : Q (s.set i (some d)) C) : aGName i d s C Q := h
theorem g_gtup {n : Nat} {ds : List D} {gs : AGs'} {Q : ASt → AH → Prop} (hn : ds.length = n) (h : gs ds s C Q) : aGTup n gs (.tup ds) s C Q := ⟨hn, h⟩
theorem g_gcons {d : D} {ds : List D} {gs : AGs'} {Q : ASt → AH → Prop} (h : g d s C fun s' C' => gs ds s' C' Q) : aGCons g gs (d :: ds) s C Q := h
theorem g_gnil {Q : ASt → AH → Prop} (h : Q s C) : aGNil [] s C Q := h
def kSet (p : Addr) (d : D) (s : ASt) (Q : ASt → AH → Prop) : D → AH → Prop := fun y C2 => match y with | .int j => (match C2 p with | some (.lst us) => (match ixN us.length j with | some k => Q s (put C2 p (.lst (us.set k d))) | none => False) | _ => False) | _ => False
/-- xs[i] = d, xs a name's cell -/
theorem g_gsetV {i : Nat} {d : D} {p : Addr} {Q : ASt → AH → Prop} (hi : s[i]? = some (some (.ce p))) (h : e2 s C (kSet p d s Q)) : aGSet (aVar i) e2 d s C Q := by
  unfold aGSet aVar
  rw [hi]
  refine (congrArg (e2 s C) ?_).mpr h
  funext y C2
  cases y <;> rfl
theorem g_kSet {j : Int} {p : Addr} {us : List D} {k : Nat} {d : D} {Q : ASt → AH → Prop} (h1 : C p = some (.lst us)) (h2 : ixN us.length j = some k) (h : Q s (put C p (.lst (us.set k d)))) : kSet p d s Q (.int j) C := by
  unfold kSet
  simp only [h1, h2]
  exact h
theorem g_frzL {i : Nat} {p : Addr} {ds : List D} {E : AEnds} (h0 : s[i]? = some (some (.ce p))) (h1 : C p = some (.lst ds)) (h : a E (s.set i (some (.lst ds))) (del C p)) : aFrz i a E s C := by
  unfold aFrz
  rw [h0]
  show (match C p with | some (.lst ds) => a E (s.set i (some (.lst ds))) (del C p) | some (.dk es) => a E (s.set i (some (.dk es))) (del C p) | _ => False)
  rw [h1]
  exact h
theorem g_frzK {i : Nat} {p : Addr} {ds : List (Key × D)} {E : AEnds} (h0 : s[i]? = some (some (.ce p))) (h1 : C p = some (.dk ds)) (h : a E (s.set i (some (.dk ds))) (del C p)) : aFrz i a E s C := by
  unfold aFrz
  rw [h0]
  show (match C p with | some (.lst ds) => a E (s.set i (some (.lst ds))) (del C p) | some (.dk es) => a E (s.set i (some (.dk es))) (del C p) | _ => False)
  rw [h1]
  exact h
theorem g_var {i : Nat} {d : D} (hi : s[i]? = some (some d)) (h : P d C) : aVar i s C P := by
  unfold aVar
  rw [hi]
  exact h
theorem g_yes (h : PB true C) : aYes s C PB := h
theorem g_c {d : D} (h : P d C) : aC d s C P := h
theorem g_op {r : D → D → AH → (D → AH → Prop) → Prop} (h : e1 s C fun x C1 => e2 s C1 fun y C2 => r x y C2 P) : aOp r e1 e2 s C P := h
theorem g_un {r : D → AH → (D → AH → Prop) → Prop} (h : e1 s C fun x C1 => r x C1 P) : aUn r e1 s C P := h
theorem g_I0 {f : Int → Int → D} {i j : Int} (h : P (f i j) C) : aI0 f (.int i) (.int j) C P := h
theorem g_I {c : Int → Int → Prop} {f : Int → Int → D} {i j : Int} (h1 : c i j) (h : P (f i j) C) : aI c f (.int i) (.int j) C P := ⟨h1, h⟩
theorem g_sub {i j : Int} (h : P (.int (i - j)) C) : aSub (.int i) (.int j) C P := h
theorem g_lt {i j : Int} (h : P (.bl (decide (i < j))) C) : aLt (.int i) (.int j) C P := h
theorem g_le {i j : Int} (h : P (.bl (decide (i ≤ j))) C) : aLe (.int i) (.int j) C P := h
theorem g_gt {i j : Int} (h : P (.bl (decide (j < i))) C) : aGt (.int i) (.int j) C P := h
theorem g_ge {i j : Int} (h : P (.bl (decide (j ≤ i))) C) : aGe (.int i) (.int j) C P := h
theorem g_mul {i j : Int} (h1 : CMul i j) (h : P (.int (i * j)) C) : aMul (.int i) (.int j) C P := ⟨h1, h⟩
theorem g_mulW {i j : Int} (h1 : CMulW i j) (h : P (.int (i * j)) C) : aMulW (.int i) (.int j) C P := ⟨h1, h⟩
theorem g_div {i j : Int} (h1 : CDiv i j) (h : P (.int (i / j)) C) : aDiv (.int i) (.int j) C P := ⟨h1, h⟩
theorem g_divW {i j : Int} (h1 : CDivW i j) (h : P (.int (i / j)) C) : aDivW (.int i) (.int j) C P := ⟨h1, h⟩
theorem g_mod {i j : Int} (h1 : 0 < j) (h : P (.int (i % j)) C) : aMod (.int i) (.int j) C P := ⟨h1, h⟩
theorem g_pow {i j : Int} (h1 : CPow i j) (h : P (.int (i ^ j.toNat)) C) : aPow (.int i) (.int j) C P := ⟨h1, h⟩
theorem g_addI {i j : Int} (h : P (.int (i + j)) C) : aAdd (.int i) (.int j) C P := h
theorem g_addS {i j : Str} (h1 : i.length + j.length ≤ sizeLine) (h : P (.str (i ++ j)) C) : aAdd (.str i) (.str j) C P := ⟨h1, h⟩
theorem g_addT {i j : List D} (h1 : i.length + j.length ≤ sizeLine) (h : P (.tup (i ++ j)) C) : aAdd (.tup i) (.tup j) C P := ⟨h1, h⟩
theorem g_addL {i j : List D} (h1 : i.length + j.length ≤ sizeLine) (h : P (.lst (i ++ j)) C) : aAdd (.lst i) (.lst j) C P := ⟨i, j, rfl, rfl, h1, h⟩
theorem g_addCL {p : Addr} {i j : List D} (h0 : C p = some (.lst i)) (h1 : i.length + j.length ≤ sizeLine) (h : P (.lst (i ++ j)) C) : aAdd (.ce p) (.lst j) C P := ⟨i, j, by simp [asL, h0], rfl, h1, h⟩
theorem g_eqII {i j : Int} (h : P (.bl (decide (i = j))) C) : aEq (.int i) (.int j) C P := h
theorem g_neII {i j : Int} (h : P (.bl (!decide (i = j))) C) : aNe (.int i) (.int j) C P := h
theorem g_eqBB {i j : Bool} (h : P (.bl (decide (i = j))) C) : aEq (.bl i) (.bl j) C P := h
theorem g_neBB {i j : Bool} (h : P (.bl (!decide (i = j))) C) : aNe (.bl i) (.bl j) C P := h
theorem g_eqTT {i j : Str} (h : P (.bl (decide (i = j))) C) : aEq (.str i) (.str j) C P := h
theorem g_neTT {i j : Str} (h : P (.bl (!decide (i = j))) C) : aNe (.str i) (.str j) C P := h
theorem g_eqS {x y : D} {k : Bool} (h1 : eqS x y = some k) (h : P (.bl k) C) : aEq x y C P := by
  unfold aEq aEqN
  rw [h1]
  exact h
theorem g_neS {x y : D} {k : Bool} (h1 : eqS x y = some k) (h : P (.bl (!k)) C) : aNe x y C P := by
  unfold aNe aEqN
  rw [h1]
  exact h
theorem g_eqP {x y : D} {u v : PyData} (h0 : eqS x y = none) (h1 : pdC C x = some u) (h2 : pdC C y = some v) (h3 : SeqAt.shaped u = true) (h4 : SeqAt.shaped v = true) (h : P (.bl (PyData.eqv u v)) C) : aEq x y C P := by
  unfold aEq aEqN
  rw [h0]
  exact ⟨u, v, h1, h2, h3, h4, h⟩
theorem g_neP {x y : D} {u v : PyData} (h0 : eqS x y = none) (h1 : pdC C x = some u) (h2 : pdC C y = some v) (h3 : SeqAt.shaped u = true) (h4 : SeqAt.shaped v = true) (h : P (.bl (!PyData.eqv u v)) C) : aNe x y C P := by
  unfold aNe aEqN
  rw [h0]
  exact ⟨u, v, h1, h2, h3, h4, h⟩
theorem isN1 {i : Int} : isNon (.int i) = false := rfl
theorem g_is {x : D} (h : P (.bl (isNon x)) C) : aIsN x .non C P := ⟨rfl, h⟩
theorem g_isnot {x : D} (h : P (.bl (!isNon x)) C) : aNotN x .non C P := ⟨rfl, h⟩
def kTru (PB : Bool → AH → Prop) : D → AH → Prop := fun x C1 => match truth C1 x with | some b => PB b C1 | none => False
theorem g_tru (h : e s C (kTru PB)) : aTru e s C PB := h
theorem g_kTru {x : D} {k : Bool} (h1 : truth C x = some k) (h : PB k C) : kTru PB x C := by
  unfold kTru
  rw [h1]
  exact h
theorem g_kTruB {k : Bool} (h : PB k C) : kTru PB (.bl k) C := h
def kB (PB : Bool → AH → Prop) : D → AH → Prop := fun x C1 => match x with | .bl b => PB b C1 | _ => False
theorem g_B (h : e s C (kB PB)) : aB e s C PB := h
theorem g_kB {k : Bool} (h : PB k C) : kB PB (.bl k) C := h
theorem g_and (h : t1 s C fun c C1 => if c = true then t2 s C1 PB else PB false C1) : aAnd t1 t2 s C PB := h
theorem g_or (h : t1 s C fun c C1 => if c = true then PB true C1 else t2 s C1 PB) : aOr t1 t2 s C PB := h
theorem g_not (h : t1 s C fun c C1 => PB (!c) C1) : aNot t1 s C PB := h
def kAndV (e2 : AE') (s : ASt) (P : D → AH → Prop) : D → AH → Prop := fun x C1 => match truth C1 x with | some true => e2 s C1 P | some false => P x C1 | none => False
def kOrV (e2 : AE') (s : ASt) (P : D → AH → Prop) : D → AH → Prop := fun x C1 => match truth C1 x with | some true => P x C1 | some false => e2 s C1 P | none => False
def kNotV (P : D → AH → Prop) : D → AH → Prop := fun x C1 => match truth C1 x with | some b => P (.bl (!b)) C1 | none => False
theorem g_andV (h : e1 s C (kAndV e2 s P)) : aAndV e1 e2 s C P := h
theorem g_orV (h : e1 s C (kOrV e2 s P)) : aOrV e1 e2 s C P := h
theorem g_notV (h : e1 s C (kNotV P)) : aNotV e1 s C P := h
theorem g_kAnd {k : Bool} (h1 : k = true → e2 s C P) (h2 : k = false → P (.bl false) C) : kAndV e2 s P (.bl k) C := by
  cases k
  · exact h2 rfl
  · exact h1 rfl
theorem g_kOr {k : Bool} (h1 : k = true → P (.bl true) C) (h2 : k = false → e2 s C P) : kOrV e2 s P (.bl k) C := by
  cases k
  · exact h2 rfl
  · exact h1 rfl
theorem g_kNot {k : Bool} (h : P (.bl (!k)) C) : kNotV P (.bl k) C := h
theorem g_kNot' {x : D} {k : Bool} (h1 : truth C x = some k) (h : P (.bl (!k)) C) : kNotV P x C := by
  unfold kNotV
  rw [h1]
  exact h
theorem g_if (h : t s C fun c C1 => if c = true then e1 s C1 P else e2 s C1 P) : aIf t e1 e2 s C P := h
theorem g_ite {A B : Prop} {k : Bool} (h1 : k = true → A) (h2 : k = false → B) : if k = true then A else B := by
  cases k
  · exact h2 rfl
  · exact h1 rfl
theorem g_iteD {A B : Prop} {p : Prop} [Decidable p] (h1 : p → A) (h2 : ¬ p → B) : if decide p = true then A else B := by
  by_cases h : p
  · rw [decide_eq_true h]; exact h1 h
  · rw [decide_eq_false h]; exact h2 h
theorem g_iteT {A B : Prop} (h : A) : if true = true then A else B := h
theorem g_iteF {A B : Prop} (h : B) : if false = true then A else B := h
theorem g_iteNT {A B : Prop} (h : B) : if (!true) = true then A else B := h
theorem g_iteNF {A B : Prop} (h : A) : if (!false) = true then A else B := h
theorem g_nil (h : PA [] C) : aNil s C PA := h
theorem g_cons (h : e s C fun x C1 => aa s C1 fun xs C2 => PA (x :: xs) C2) : aCons e aa s C PA := h
theorem g_tup (h : aa s C fun ds C1 => ds.length ≤ sizeLine ∧ P (.tup ds) C1) : aTup aa s C P := h
theorem g_lst (h : aa s C fun ds C1 => ds.length ≤ sizeLine ∧ P (.lst ds) C1) : aLst aa s C P := h
theorem g_lstM (h : aa s C fun ds C1 => ds.length ≤ sizeLine ∧ ∀ p, C1 p = none → P (.ce p) (put C1 p (.lst ds))) : aLstM aa s C P := h
theorem g_call {asp : ASp} (h : aa s C fun ds C1 => asp ds C1 P) : aCall asp aa s C P := h
def kIsi (T : String) (P : D → AH → Prop) : D → AH → Prop := fun x C1 => match kindOf C1 x with | some t => P (.bl (isT T t)) C1 | none => False
theorem g_isi {T : String} (h : e s C (kIsi T P)) : aIsi T e s C P := h
theorem g_kIsiI {T : String} {i : Int} (h : P (.bl (isT T "int")) C) : kIsi T P (.int i) C := h
theorem g_kIsiB {T : String} {i : Bool} (h : P (.bl (isT T "bool")) C) : kIsi T P (.bl i) C := h
theorem g_kIsiN {T : String} (h : P (.bl (isT T "NoneType")) C) : kIsi T P .non C := h
theorem g_kIsiS {T : String} {i : Str} (h : P (.bl (isT T "str")) C) : kIsi T P (.str i) C := h
theorem g_kIsiL {T : String} {i : List D} (h : P (.bl (isT T "list")) C) : kIsi T P (.lst i) C := h
theorem g_kIsiT {T : String} {i : List D} (h : P (.bl (isT T "tuple")) C) : kIsi T P (.tup i) C := h
theorem g_kIsiK {T : String} {i : List (Key × D)} (h : P (.bl (isT T "dict")) C) : kIsi T P (.dk i) C := h
theorem g_kIsi {T t : String} {x : D} (h1 : kindOf C x = some t) (h : P (.bl (isT T t)) C) : kIsi T P x C := by
  unfold kIsi
  rw [h1]
  exact h
theorem g_meth {T : String} {m : D → ASp} (h : e s C fun x C1 => isTy T C1 x = true ∧ aa s C1 fun ds C2 => m x ds C2 P) : aMeth T m e aa s C P := h
theorem g_meth0 {T : String} {m : D → ASp} (h : e s C fun x C1 => isTy T C1 x = true ∧ m x [] C1 P) : aMeth0 T m e s C P := h
theorem g_append {p : Addr} {us : List D} {d : D} (h1 : C p = some (.lst us)) (h2 : us.length < sizeLine) (h : P .non (put C p (.lst (us ++ [d])))) : aAppend (.ce p) [d] C P := by
  unfold aAppend
  show (match C p with | some (.lst us) => us.length < sizeLine ∧ P .non (put C p (.lst (us ++ [d]))) | _ => False)
  rw [h1]
  exact ⟨h2, h⟩
theorem isTy_ce {T : String} {p : Addr} {us : List D} (h1 : C p = some (.lst us)) (h2 : T = "list") : isTy T C (.ce p) = true := by
  subst h2
  simp [isTy, h1]
/-! subscripts by what stands there -/
theorem g_ixL {us : List D} {i : Int} {d : D} (h1 : atI us i = some d) (h : P d C) : aIx (.lst us) (.int i) C P := by
  show (match atI us i with | some d => P d C | none => False)
  rw [h1]; exact h
theorem g_ixT {us : List D} {i : Int} {d : D} (h1 : atI us i = some d) (h : P d C) : aIx (.tup us) (.int i) C P := by
  show (match atI us i with | some d => P d C | none => False)
  rw [h1]; exact h
theorem g_ixL0 {d : D} {us : List D} (h : P d C) : aIx (.lst (d :: us)) (.int 0) C P := g_ixL (atI_nat' (i := 0) rfl) h
theorem g_ixL1 {a d : D} {us : List D} (h : P d C) : aIx (.lst (a :: d :: us)) (.int 1) C P := g_ixL (atI_nat' (i := 1) rfl) h
theorem g_ixL2 {a b d : D} {us : List D} (h : P d C) : aIx (.lst (a :: b :: d :: us)) (.int 2) C P := g_ixL (atI_nat' (i := 2) rfl) h
theorem g_ixT0 {d : D} {us : List D} (h : P d C) : aIx (.tup (d :: us)) (.int 0) C P := g_ixT (atI_nat' (i := 0) rfl) h
theorem g_ixT1 {a d : D} {us : List D} (h : P d C) : aIx (.tup (a :: d :: us)) (.int 1) C P := g_ixT (atI_nat' (i := 1) rfl) h
theorem g_ixT2 {a b d : D} {us : List D} (h : P d C) : aIx (.tup (a :: b :: d :: us)) (.int 2) C P := g_ixT (atI_nat' (i := 2) rfl) h
theorem g_ixT3 {a b c d : D} {us : List D} (h : P d C) : aIx (.tup (a :: b :: c :: d :: us)) (.int 3) C P := g_ixT (atI_nat' (i := 3) rfl) h
theorem g_ixR {ns : List Int} {i : Int} {d : D} (h1 : atI (ns.map D.int) i = some d) (h : P d C) : aIx (.scr ns) (.int i) C P := by
  show (match atI (ns.map D.int) i with | some d => P d C | none => False)
  rw [h1]; exact h
theorem g_ixC {p : Addr} {us : List D} {i : Int} (h0 : C p = some (.lst us)) (h : aIx (.lst us) (.int i) C P) : aIx (.ce p) (.int i) C P := by
  show (match (match C p with | some (.lst us) => some us | _ => none) with | some ds => (match atI ds i with | some d => P d C | none => False) | none => False)
  rw [h0]
  exact h
theorem g_lenL {us : List D} (h : P (.int us.length) C) : aLen [.lst us] C P := h
theorem g_lenT {us : List D} (h : P (.int us.length) C) : aLen [.tup us] C P := h
theorem g_lenS {z : Str} (h1 : z.length ≤ sizeLine) (h : P (.int z.length) C) : aLen [.str z] C P := ⟨h1, h⟩
theorem g_lenR {ns : List Int} (h : P (.int ns.length) C) : aLen [.scr ns] C P := by
  show P (.int (ns.map D.int).length) C
  rw [List.length_map]; exact h
theorem g_lenC {p : Addr} {us : List D} (h0 : C p = some (.lst us)) (h : P (.int us.length) C) : aLen [.ce p] C P := by
  show (match C p with | some (.lst us) => P (.int us.length) C | some (.dk us) => P (.int us.length) C | _ => False)
  rw [h0]; exact h
theorem g_abs {i : Int} (h : P (.int (if i < 0 then -i else i)) C) : aAbs [.int i] C P := h
theorem g_max2 {i j : Int} (h : P (.int (if j > i then j else i)) C) : aMax2 [.int i, .int j] C P := h
theorem g_min2 {i j : Int} (h : P (.int (if j < i then j else i)) C) : aMin2 [.int i, .int j] C P := h
theorem g_intI {i : Int} (h : P (.int i) C) : aInt [.int i] C P := h
theorem g_intB {k : Bool} (h : P (.int (if k then 1 else 0)) C) : aInt [.bl k] C P := h
theorem g_listL {us : List D} (h : P (.lst us) C) : aListOf [.lst us] C P := h
theorem g_listT {us : List D} (h : P (.lst us) C) : aListOf [.tup us] C P := h
theorem g_listC {p : Addr} {us : List D} (h0 : C p = some (.lst us)) (h : P (.lst us) C) : aListOf [.ce p] C P := by
  show (match (match C p with | some (.lst us) => some us | _ => none) with | some us => P (.lst us) C | none => False)
  rw [h0]; exact h
theorem g_listMT {us : List D} (h : ∀ p, C p = none → P (.ce p) (put C p (.lst us))) : aListM [.tup us] C P := h
theorem g_listML {us : List D} (h : ∀ p, C p = none → P (.ce p) (put C p (.lst us))) : aListM [.lst us] C P := h
theorem g_tupleL {us : List D} (h : P (.tup us) C) : aTupleOf [.lst us] C P := h
theorem g_tupleT {us : List D} (h : P (.tup us) C) : aTupleOf [.tup us] C P := h
theorem g_all {us : List D} {bs : List Bool} (h1 : blsD us = some bs) (h : P (.bl (bs.all id)) C) : aAll [.lst us] C P := by
  show (match (some us).bind blsD with | some bs => P (.bl (bs.all id)) C | none => False)
  rw [Option.bind_some, h1]; exact h
theorem g_any {us : List D} {bs : List Bool} (h1 : blsD us = some bs) (h : P (.bl (bs.any id)) C) : aAny [.lst us] C P := by
  show (match (some us).bind blsD with | some bs => P (.bl (bs.any id)) C | none => False)
  rw [Option.bind_some, h1]; exact h
theorem g_sum {us : List D} {bs : List Int} (h1 : intsD us = some bs) (h : P (.int bs.sum) C) : aSum [.lst us] C P := by
  show (match (some us).bind intsD with | some bs => P (.int bs.sum) C | none => False)
  rw [Option.bind_some, h1]; exact h
theorem g_rev {us : List D} (h : P (.lst us.reverse) C) : aRev (.lst us) C P := h
/-! ### what is walked -/
variable {PI : List D → (AH → Prop) → AH → Prop}
def kIL (PI : List D → (AH → Prop) → AH → Prop) : D → AH → Prop := fun x C1 => match asLr C1 x with | some ds => PI ds (fun C' => asLr C' x = some ds) C1 | none => False
theorem g_il (h : e s C (kIL PI)) : aIL e s C PI := h
theorem g_kIL {us : List D} (h : PI us (fun _ => True) C) (e : ∀ C' : AH, asLr C' (.lst us) = some us) (m : (fun _ : AH => True) = fun C' : AH => asLr C' (.lst us) = some us) : kIL PI (.lst us) C := by
  show PI us (fun C' => asLr C' (.lst us) = some us) C
  rw [← m]
  exact h
theorem g_kILl {us : List D} (h : PI us (fun _ => True) C) : kIL PI (.lst us) C := g_kIL h (fun _ => rfl) (by funext C'; simp [asLr, asL])
theorem g_kILr {ns : List Int} (h : PI (ns.map D.int) (fun _ => True) C) : kIL PI (.scr ns) C := by
  show PI (ns.map D.int) (fun C' => asLr C' (.scr ns) = some (ns.map D.int)) C
  have m : (fun _ : AH => True) = fun C' : AH => asLr C' (.scr ns) = some (ns.map D.int) := by funext C'; simp [asLr]
  rw [← m]
  exact h
theorem g_kILc {p : Addr} {us : List D} (h0 : C p = some (.lst us)) (h : PI us (fun C' => C' p = some (.lst us)) C) (m : ∀ h1 h2 : AH → Prop, (∀ C, h1 C → h2 C) → PI us h1 C → PI us h2 C) : kIL PI (.ce p) C := by
  have e : ∀ C' : AH, C' p = some (.lst us) → asLr C' (.ce p) = some us := fun C' h => by simp [asLr, asL, h]
  show (match asLr C (.ce p) with | some ds => PI ds (fun C' => asLr C' (.ce p) = some ds) C | none => False)
  rw [e C h0]
  exact m _ _ e h
def kIT (PI : List D → (AH → Prop) → AH → Prop) : D → AH → Prop := fun x C1 => match asT x with | some ds => PI ds (fun _ => True) C1 | none => False
theorem g_it (h : e s C (kIT PI)) : aIT e s C PI := h
theorem g_kIT {us : List D} (h : PI us (fun _ => True) C) : kIT PI (.tup us) C := h
def kIS (PI : List D → (AH → Prop) → AH → Prop) : D → AH → Prop := fun x C1 => match x with | .str z => PI (signs z) (fun _ => True) C1 | _ => False
theorem g_is' (h : e s C (kIS PI)) : aIS e s C PI := h
theorem g_kIS {z : Str} (h : PI (signs z) (fun _ => True) C) : kIS PI (.str z) C := h
def kIR1 (PI : List D → (AH → Prop) → AH → Prop) : List D → AH → Prop := fun ds C1 => match ds with | [.int j] => -(2 ^ 62) ≤ j ∧ j < 2 ^ 62 ∧ PI (rangeD 0 j.toNat) (fun _ => True) C1 | _ => False
theorem g_ir1 (h : aa s C (kIR1 PI)) : aIR1 aa s C PI := h
theorem g_kIR1 {j : Int} (h1 : -(2 ^ 62) ≤ j) (h2 : j < 2 ^ 62) (h : PI (rangeD 0 j.toNat) (fun _ => True) C) : kIR1 PI [.int j] C := ⟨h1, h2, h⟩
def kIR2 (PI : List D → (AH → Prop) → AH → Prop) : List D → AH → Prop := fun ds C1 => match ds with | [.int i, .int j] => (-(2 ^ 62) ≤ i ∧ i < 2 ^ 62 ∧ -(2 ^ 62) ≤ j ∧ j < 2 ^ 62) ∧ PI (rangeD i (j - i).toNat) (fun _ => True) C1 | _ => False
theorem g_ir2 (h : aa s C (kIR2 PI)) : aIR2 aa s C PI := h
theorem g_kIR2 {i j : Int} (h1 : -(2 ^ 62) ≤ i ∧ i < 2 ^ 62 ∧ -(2 ^ 62) ≤ j ∧ j < 2 ^ 62) (h : PI (rangeD i (j - i).toNat) (fun _ => True) C) : kIR2 PI [.int i, .int j] C := ⟨h1, h⟩
def kIE (PI : List D → (AH → Prop) → AH → Prop) : List D → AH → Prop := fun us C1 => match us with | [x] => (match asLr C1 x with | some ds => PI (enumD ds) (fun C' => asLr C' x = some ds) C1 | none => False) | _ => False
theorem g_ie (h : aa s C (kIE PI)) : aIE aa s C PI := h
theorem g_kIE {us : List D} (h : PI (enumD us) (fun _ => True) C) : kIE PI [.lst us] C := by
  show PI (enumD us) (fun C' => asLr C' (.lst us) = some us) C
  have m : (fun _ : AH => True) = fun C' : AH => asLr C' (.lst us) = some us := by funext C'; simp [asLr, asL]
  rw [← m]
  exact h
def kIZ (PI : List D → (AH → Prop) → AH → Prop) : List D → AH → Prop := fun us C1 => match us with | [x, y] => (match asLr C1 x, asLr C1 y with | some ds, some es => PI (zipD ds es) (fun C' => asLr C' x = some ds ∧ asLr C' y = some es) C1 | _, _ => False) | _ => False
theorem g_iz (h : aa s C (kIZ PI)) : aIZ aa s C PI := h
theorem g_kIZ {us ws : List D} (h : PI (zipD us ws) (fun _ => True) C) : kIZ PI [.lst us, .lst ws] C := by
  show PI (zipD us ws) (fun C' => asLr C' (.lst us) = some us ∧ asLr C' (.lst ws) = some ws) C
  have m : (fun _ : AH => True) = fun C' : AH => asLr C' (.lst us) = some us ∧ asLr C' (.lst ws) = some ws := by funext C'; simp [asLr, asL]
  rw [← m]
  exact h
/-- a loop whose items are known -/
def kFor (g : AG') (ab : AS') (nx : ASt → AH → Prop) (rt : D → AH → Prop) (s : ASt) : List D → (AH → Prop) → AH → Prop := fun items hold C => ∃ W : Nat → ASt → AH → Prop, W 0 s C ∧ (∀ i s' C', i ≤ items.length → W i s' C' → hold C') ∧
  (∀ i d s' C', items[i]? = some d → W i s' C' → g d s' C' fun s2 C2 => ab ⟨W (i + 1), rt, nx, W (i + 1)⟩ s2 C2) ∧ ∀ s' C', W items.length s' C' → nx s' C'
theorem g_for {ab : AS'} (h : w s C (kFor g ab nx rt s)) : aFor w g ab ⟨nx, rt, bk, ct⟩ s C := h
theorem g_kFor {ab : AS'} {items : List D} (W : Nat → ASt → AH → Prop) (h0 : W 0 s C)
    (hs : ∀ i d s' C', items[i]? = some d → W i s' C' → g d s' C' fun s2 C2 => ab ⟨W (i + 1), rt, nx, W (i + 1)⟩ s2 C2) (hd : ∀ s' C', W items.length s' C' → nx s' C') : kFor g ab nx rt s items (fun _ => True) C :=
  ⟨W, h0, fun _ _ _ _ _ => trivial, hs, hd⟩
theorem g_kForH {ab : AS'} {items : List D} {hold : AH → Prop} (W : Nat → ASt → AH → Prop) (h0 : W 0 s C) (hh : ∀ i s' C', i ≤ items.length → W i s' C' → hold C')
    (hs : ∀ i d s' C', items[i]? = some d → W i s' C' → g d s' C' fun s2 C2 => ab ⟨W (i + 1), rt, nx, W (i + 1)⟩ s2 C2) (hd : ∀ s' C', W items.length s' C' → nx s' C') : kFor g ab nx rt s items hold C :=
  ⟨W, h0, hh, hs, hd⟩
theorem kFor_mono {ab : AS'} {items : List D} {h1 h2 : AH → Prop} (m : ∀ C, h1 C → h2 C) (h : kFor g ab nx rt s items h1 C) : kFor g ab nx rt s items h2 C := by
  obtain ⟨W, a, b, c, d⟩ := h
  exact ⟨W, a, fun i s' C' hi hw => m _ (b i s' C' hi hw), c, d⟩
/-- over a range -/
theorem g_kForR {ab : AS'} {lo : Int} {n j : Nat} (W : Nat → ASt → AH → Prop) (h0 : W 0 s C)
    (hs : ∀ (i : Nat) s' C', i < n → W i s' C' → ab ⟨W (i + 1), rt, nx, W (i + 1)⟩ (s'.set j (some (.int (lo + i)))) C') (hd : ∀ s' C', W n s' C' → nx s' C') : kFor (aGName j) ab nx rt s (rangeD lo n) (fun _ => True) C := by
  refine g_kFor W h0 (fun i d s' C' hi hw => ?_) (fun s' C' hw => hd s' C' (by rw [rangeD_len] at hw; exact hw))
  have hl : i < n := by
    have := (List.getElem?_eq_some_iff.mp hi).1
    rw [rangeD_len] at this
    exact this
  rw [rangeD_get hl] at hi
  cases hi
  exact hs i s' C' hl hw
theorem g_kForR0 {ab : AS'} {n j : Nat} (W : Nat → ASt → AH → Prop) (h0 : W 0 s C)
    (hs : ∀ (i : Nat) s' C', i < n → W i s' C' → ab ⟨W (i + 1), rt, nx, W (i + 1)⟩ (s'.set j (some (.int (i : Int)))) C') (hd : ∀ s' C', W n s' C' → nx s' C') : kFor (aGName j) ab nx rt s (rangeD 0 n) (fun _ => True) C :=
  g_kForR W h0 (fun i s' C' hi w => by rw [Int.zero_add]; exact hs i s' C' hi w) hd
/-- over a list of which something is known of each item -/
theorem g_kForL {ab : AS'} {items : List D} {j : Nat} (W : Nat → ASt → AH → Prop) (h0 : W 0 s C)
    (hs : ∀ (i : Nat) d s' C', items[i]? = some d → W i s' C' → ab ⟨W (i + 1), rt, nx, W (i + 1)⟩ (s'.set j (some d)) C') (hd : ∀ s' C', W items.length s' C' → nx s' C') : kFor (aGName j) ab nx rt s items (fun _ => True) C := g_kFor W h0 hs hd
theorem g_while {t : AT'} {ab : AS'} (W : Nat → ASt → AH → Prop) (m : Nat) (h0 : W m s C) (hs : ∀ m s' C', W m s' C' → t s' C' fun k C1 => if k = true then ab ⟨fun s2 C2 => ∃ m', m' < m ∧ W m' s2 C2, rt, nx, fun s2 C2 => ∃ m', m' < m ∧ W m' s2 C2⟩ s' C1 else nx s' C1) : aWhile t ab ⟨nx, rt, bk, ct⟩ s C := ⟨W, ⟨m, h0⟩, hs⟩
/-! ### comprehensions -/
def kLc (g : AG') (t : AT') (e : AE') (vs : List Nat) (fin : List D → AH → Prop) (s : ASt) : List D → (AH → Prop) → AH → Prop := fun items hold C1 => items.length ≤ sizeLine ∧ ∃ W : Nat → List D → AH → Prop, W 0 [] C1 ∧ (∀ i acc C', i ≤ items.length → W i acc C' → hold C') ∧
  (∀ i d acc C', items[i]? = some d → W i acc C' → g d (wipeA s vs) C' fun s2 C2 => t s2 C2 fun b C3 => if b = true then e s2 C3 fun y C4 => W (i + 1) (acc ++ [y]) C4 else W (i + 1) acc C3) ∧ ∀ acc C', W items.length acc C' → fin acc C'
theorem g_lc {t : AT'} {vs : List Nat} (h : w s C (kLc g t e vs (fun acc C' => P (.lst acc) C') s)) : aLc w g t e vs s C P := h
theorem g_lcM {t : AT'} {vs : List Nat} (h : w s C (kLc g t e vs (fun acc C' => ∀ p, C' p = none → P (.ce p) (put C' p (.lst acc))) s)) : aLcM w g t e vs s C P := h
theorem g_kLc {t : AT'} {vs : List Nat} {fin : List D → AH → Prop} {items : List D} (W : Nat → List D → AH → Prop) (hl : items.length ≤ sizeLine) (h0 : W 0 [] C)
    (hs : ∀ i d acc C', items[i]? = some d → W i acc C' → g d (wipeA s vs) C' fun s2 C2 => t s2 C2 fun b C3 => if b = true then e s2 C3 fun y C4 => W (i + 1) (acc ++ [y]) C4 else W (i + 1) acc C3) (hd : ∀ acc C', W items.length acc C' → fin acc C') : kLc g t e vs fin s items (fun _ => True) C :=
  ⟨hl, W, h0, fun _ _ _ _ _ => trivial, hs, hd⟩
theorem kLc_mono {t : AT'} {vs : List Nat} {fin : List D → AH → Prop} {items : List D} {h1 h2 : AH → Prop} (m : ∀ C, h1 C → h2 C) (h : kLc g t e vs fin s items h1 C) : kLc g t e vs fin s items h2 C := by
  obtain ⟨l, W, a, b, c, d⟩ := h
  exact ⟨l, W, a, fun i s' C' hi hw => m _ (b i s' C' hi hw), c, d⟩
/-- [f x for x in items], each as it stands, the cells stay -/
theorem g_kLcMap {vs : List Nat} {fin : List D → AH → Prop} {items : List D} {j : Nat} (f : D → D) (hl : items.length ≤ sizeLine) (hs : ∀ d, d ∈ items → ∀ R : D → AH → Prop, R (f d) C → e ((wipeA s vs).set j (some d)) C R) (hd : fin (items.map f) C) : kLc (aGName j) aYes e vs fin s items (fun _ => True) C := by
  refine g_kLc (fun i acc C' => acc = (items.take i).map f ∧ C' = C) hl ⟨rfl, rfl⟩ (fun i d acc C' hi hw => ?_) (fun acc C' hw => ?_)
  · obtain ⟨rfl, rfl⟩ := hw
    refine hs d (List.mem_of_getElem? hi) _ ⟨?_, rfl⟩
    rw [List.take_add_one, hi, List.map_append]
    rfl
  · obtain ⟨rfl, rfl⟩ := hw
    rw [List.take_length]
    exact hd
theorem g_kLcFilter {t : AT'} {vs : List Nat} {fin : List D → AH → Prop} {items : List D} {j : Nat} (p : D → Bool) (f : D → D) (hl : items.length ≤ sizeLine) (ht : ∀ d, d ∈ items → ∀ R : Bool → AH → Prop, R (p d) C → t ((wipeA s vs).set j (some d)) C R) (hs : ∀ d, d ∈ items → p d = true → ∀ R : D → AH → Prop, R (f d) C → e ((wipeA s vs).set j (some d)) C R) (hd : fin ((items.filter p).map f) C) : kLc (aGName j) t e vs fin s items (fun _ => True) C := by
  refine g_kLc (fun i acc C' => acc = ((items.take i).filter p).map f ∧ C' = C) hl ⟨rfl, rfl⟩ (fun i d acc C' hi hw => ?_) (fun acc C' hw => ?_)
  · obtain ⟨rfl, rfl⟩ := hw
    refine ht d (List.mem_of_getElem? hi) _ ?_
    rw [List.take_add_one, hi, List.filter_append, List.map_append]
    by_cases hp : p d = true
    · rw [if_pos hp]
      refine hs d (List.mem_of_getElem? hi) hp _ ⟨?_, rfl⟩
      simp [hp]
    · rw [if_neg hp]
      refine ⟨?_, rfl⟩
      simp [hp]
  · obtain ⟨rfl, rfl⟩ := hw
    rw [List.take_length]
    exact hd
end
theorem g_sz {n : Nat} {A : Prop} (h1 : n ≤ sizeLine) (h : A) : n ≤ sizeLine ∧ A := ⟨h1, h⟩
theorem g_ty {T : String} {C : AH} {d : D} {A : Prop} (h1 : isTy T C d = true) (h : A) : isTy T C d = true ∧ A := ⟨h1, h⟩
/-! ### cells that stand apart -/
theorem ne_cell {C : AH} {p q : Addr} {c : Cell} (h : C p = some c) (g : C q = none) : p ≠ q := fun z => by rw [z, g] at h; cases h
theorem put_old {C : AH} {p q : Addr} {c d : Cell} (h : C p = some c) (g : C q = none) : put C q d p = some c := by rw [put_ne (ne_cell h g)]; exact h
theorem put_other {C : AH} {p q : Addr} {o : Option Cell} {d : Cell} (hn : p ≠ q) (h : C p = o) : put C q d p = o := by rw [put_ne hn]; exact h
theorem del_other {C : AH} {p q : Addr} {o : Option Cell} (hn : p ≠ q) (h : C p = o) : del C q p = o := by unfold del; rw [if_neg hn]; exact h
theorem del_same {C : AH} {p : Addr} : del C p p = none := by unfold del; rw [if_pos rfl]
theorem atI_int {α : Type} {xs : List α} {i : Int} {x : α} (h0 : 0 ≤ i) (h : xs[i.toNat]? = some x) : atI xs i = some x := by
  have := atI_nat' h
  rwa [Int.toNat_of_nonneg h0] at this
end AL

namespace AL
open PySem L2
/-! ### plain trees: what == asks of them -/
mutual
def okD : D → Nat → Bool
  | .non, _ => true
  | .bl _, _ => true
  | .int _, _ => true
  | .str x, _ => x.cps.all (· < 0x110000)
  | .lst ds, n + 1 => okL ds n
  | .tup ds, n + 1 => okL ds n
  | _, _ => false
def okL : List D → Nat → Bool
  | [], _ => true
  | d :: ds, n => okD d n && okL ds n
end
theorem okL_all {ds : List D} {n : Nat} : okL ds n = true ↔ ∀ d ∈ ds, okD d n = true := by
  induction ds with
  | nil => simp [okL]
  | cons d ds ih => simp [okL, ih]
mutual
theorem okD_pd : ∀ (d : D) (n : Nat), okD d n = true → ∃ x, d.pd = some x ∧ x.canLay0 = true ∧ x.depth ≤ n
  | .non, n, _ => ⟨.none, by simp [D.pd], by simp [PyData.canLay0], by simp [PyData.depth]⟩
  | .bl b, n, _ => ⟨.bool b, by simp [D.pd], by simp [PyData.canLay0], by simp [PyData.depth]⟩
  | .int i, n, _ => ⟨.int i, by simp [D.pd], by simp [PyData.canLay0], by simp [PyData.depth]⟩
  | .str x, n, h => ⟨.str x, by simp [D.pd], by simpa [PyData.canLay0, PyData.strOk, okD] using h, by simp [PyData.depth]⟩
  | .lst ds, 0, h => by simp [okD] at h
  | .lst ds, n + 1, h => by
    obtain ⟨xs, h1, h2, h3⟩ := okL_pd ds n (by simpa [okD] using h)
    exact ⟨.list xs, by simp [D.pd, h1], by simpa [PyData.canLay0] using h2, by simp [PyData.depth]; omega⟩
  | .tup ds, 0, h => by simp [okD] at h
  | .tup ds, n + 1, h => by
    obtain ⟨xs, h1, h2, h3⟩ := okL_pd ds n (by simpa [okD] using h)
    exact ⟨.tuple xs, by simp [D.pd, h1], by simpa [PyData.canLay0] using h2, by simp [PyData.depth]; omega⟩
  | .dk _, _, h => by simp [okD] at h
  | .scr _, _, h => by simp [okD] at h
  | .ce _, _, h => by simp [okD] at h
theorem okL_pd : ∀ (ds : List D) (n : Nat), okL ds n = true → ∃ xs, pdL ds = some xs ∧ PyData.canLayAll0 xs = true ∧ PyData.depthAll xs ≤ n
  | [], n, _ => ⟨[], by simp [pdL], by simp [PyData.canLayAll0], by simp [PyData.depthAll]⟩
  | d :: ds, n, h => by
    simp only [okL, Bool.and_eq_true] at h
    obtain ⟨x, a1, a2, a3⟩ := okD_pd d n h.1
    obtain ⟨xs, b1, b2, b3⟩ := okL_pd ds n h.2
    exact ⟨x :: xs, by simp [pdL, a1, b1], by simp [PyData.canLayAll0, a2, b2], by simp [PyData.depthAll]; omega⟩
end
theorem okD_shaped {d : D} {n : Nat} (h : okD d n = true) (hn : n ≤ 64) : ∃ x, d.pd = some x ∧ SeqAt.shaped x = true ∧ PyData.eqv x x = true := by
  obtain ⟨x, h1, h2, h3⟩ := okD_pd d n h
  refine ⟨x, h1, ?_, SeqAt.eqv_refl x h2⟩
  unfold SeqAt.shaped
  rw [h2, decide_eq_true (show x.depth ≤ 64 by omega)]
  rfl
theorem eqS_self {d : D} {b : Bool} (h : eqS d d = some b) : b = true := by
  cases d <;> simp [eqS] at h <;> exact h
theorem pdC_ok' {C : AH} {d : D} {n : Nat} (h : okD d n = true) : pdC C d = d.pd := by
  cases d <;> first | rfl | (simp [okD] at h)
/-- a thing and itself -/
theorem g_eqR {C : AH} {d : D} {P : D → AH → Prop} (n : Nat) (h : okD d n = true) (hn : n ≤ 64) (k : P (.bl true) C) : aEq d d C P := by
  unfold aEq aEqN
  split
  · rename_i b e
    rw [eqS_self e]
    exact k
  · obtain ⟨x, h1, h2, h3⟩ := okD_shaped h hn
    exact ⟨x, x, (pdC_ok' h).trans h1, (pdC_ok' h).trans h1, h2, h2, by rw [h3]; exact k⟩
theorem g_neR {C : AH} {d : D} {P : D → AH → Prop} (n : Nat) (h : okD d n = true) (hn : n ≤ 64) (k : P (.bl false) C) : aNe d d C P := by
  unfold aNe aEqN
  split
  · rename_i b e
    rw [eqS_self e]
    exact k
  · obtain ⟨x, h1, h2, h3⟩ := okD_shaped h hn
    exact ⟨x, x, (pdC_ok' h).trans h1, (pdC_ok' h).trans h1, h2, h2, by rw [h3]; exact k⟩
theorem okD_lst {ds : List D} {n : Nat} (h : ∀ d ∈ ds, okD d n = true) : okD (.lst ds) (n + 1) = true := by
  simp only [okD]; exact okL_all.mpr h
theorem okD_tup {ds : List D} {n : Nat} (h : ∀ d ∈ ds, okD d n = true) : okD (.tup ds) (n + 1) = true := by
  simp only [okD]; exact okL_all.mpr h
/-! ### stands, or None -/
def oD : Option Nat → D
  | none => .non
  | some n => .int (n : Int)
@[simp] theorem okD_oD (o : Option Nat) (n : Nat) : okD (oD o) n = true := by cases o <;> simp [oD, okD]
theorem isNon_oD (o : Option Nat) : isNon (oD o) = o.isNone := by cases o <;> rfl
/-- a machine as a tree -/
abbrev goesD (goes : List (List (Option Nat))) : D := .lst (goes.map fun r => .lst (r.map oD))
abbrev endsD (ends : List Bool) : D := .lst (ends.map .bl)
abbrev machD (ends : List Bool) (goes : List (List (Option Nat))) : D := .tup [endsD ends, goesD goes]
theorem okD_goes (goes : List (List (Option Nat))) (n : Nat) : okD (goesD goes) (n + 2) = true := by
  refine okD_lst fun d hd => ?_
  obtain ⟨r, _, rfl⟩ := List.mem_map.mp hd
  refine okD_lst fun d hd => ?_
  obtain ⟨o, _, rfl⟩ := List.mem_map.mp hd
  exact okD_oD o n
theorem okD_ends (ends : List Bool) (n : Nat) : okD (endsD ends) (n + 1) = true := by
  refine okD_lst fun d hd => ?_
  obtain ⟨r, _, rfl⟩ := List.mem_map.mp hd
  simp [okD]
theorem okD_mach (ends : List Bool) (goes : List (List (Option Nat))) (n : Nat) : okD (machD ends goes) (n + 3) = true := by
  refine okD_tup fun d hd => ?_
  simp only [List.mem_cons, List.not_mem_nil, or_false] at hd
  rcases hd with rfl | rfl
  · exact okD_ends ends (n + 1)
  · exact okD_goes goes n
/-- sg signs; every stand that is led to is there -/
structure Mach (sg : Nat) (ends : List Bool) (goes : List (List (Option Nat))) : Prop where
  len : ends.length = goes.length
  pos : 0 < ends.length
  most : ends.length ≤ 1000
  row : ∀ r ∈ goes, r.length = sg
  go : ∀ r ∈ goes, ∀ t, some t ∈ r → t < ends.length
def stepO (goes : List (List (Option Nat))) (s : Option Nat) (n : Nat) : Option Nat := match s with
  | none => none
  | some t => match goes[t]? with
    | some r => (match r[n]? with | some o => o | none => none)
    | none => none
def runO (goes : List (List (Option Nat))) (s : Option Nat) (row : List Nat) : Option Nat := row.foldl (stepO goes) s
def inn (n : Nat) (s : Option Nat) : Prop := ∀ t, s = some t → t < n
theorem Mach.step {sg : Nat} {ends : List Bool} {goes : List (List (Option Nat))} (M : Mach sg ends goes) {s : Option Nat} {n : Nat} (hs : inn ends.length s) (hn : n < sg) : inn ends.length (stepO goes s n) := by
  intro t ht
  cases s with
  | none => cases ht
  | some u =>
    have hu := hs u rfl
    have hu' : u < goes.length := by rw [← M.len]; exact hu
    have hr := M.row goes[u] (List.getElem_mem hu')
    simp only [stepO, List.getElem?_eq_getElem hu', List.getElem?_eq_getElem (show n < goes[u].length by rw [hr]; exact hn)] at ht
    exact M.go goes[u] (List.getElem_mem hu') t (by rw [← ht]; exact List.getElem_mem _)
theorem Mach.run {sg : Nat} {ends : List Bool} {goes : List (List (Option Nat))} (M : Mach sg ends goes) : ∀ (row : List Nat) {s : Option Nat}, inn ends.length s → (∀ n ∈ row, n < sg) → inn ends.length (runO goes s row)
  | [], _, hs, _ => hs
  | n :: row, _, hs, hr => M.run row (M.step hs (hr n (List.mem_cons_self))) fun k hk => hr k (List.mem_cons_of_mem _ hk)
section
variable {sg : Nat} {ends : List Bool} {goes : List (List (Option Nat))} {C : AH} {P : D → AH → Prop}
theorem get_go (M : Mach sg ends goes) {u n : Nat} (hu : u < ends.length) (hn : n < sg) (h : ∀ r, goes[u]? = some r → r.length = sg → P (.lst (r.map oD)) C) : aIx (goesD goes) (.int (u : Int)) C P := by
  have hu' : u < goes.length := by rw [← M.len]; exact hu
  refine g_ixL (d := .lst (goes[u].map oD)) (atI_nat' ?_) (h goes[u] (List.getElem?_eq_getElem hu') (M.row _ (List.getElem_mem hu')))
  rw [List.getElem?_map, List.getElem?_eq_getElem hu']
  rfl
theorem get_in {r : List (Option Nat)} {n : Nat} (hn : n < r.length) (h : P (oD r[n]) C) : aIx (.lst (r.map oD)) (.int (n : Int)) C P := by
  refine g_ixL (atI_nat' ?_) h
  rw [List.getElem?_map, List.getElem?_eq_getElem hn]
  rfl
theorem get_end {u : Nat} (hu : u < ends.length) (h : P (.bl ends[u]) C) : aIx (endsD ends) (.int (u : Int)) C P := by
  refine g_ixL (atI_nat' ?_) h
  rw [List.getElem?_map, List.getElem?_eq_getElem hu]
  rfl
end
theorem stepO_some {goes : List (List (Option Nat))} {u n : Nat} {r : List (Option Nat)} (h : goes[u]? = some r) (hn : n < r.length) : stepO goes (some u) n = r[n] := by
  simp only [stepO, h, List.getElem?_eq_getElem hn]
end AL
namespace AL
open PySem L2
abbrev natsD (row : List Nat) : List D := row.map fun (n : Nat) => D.int (n : Int)
theorem natsD_get {row : List Nat} {i : Nat} {d : D} (h : (natsD row)[i]? = some d) : ∃ hi : i < row.length, d = .int (row[i] : Nat) := by
  unfold natsD at h
  rw [List.getElem?_map] at h
  cases q : row[i]? with
  | none => rw [q] at h; cases h
  | some n =>
    rw [q] at h
    obtain ⟨hi, e⟩ := List.getElem?_eq_some_iff.mp q
    cases h
    exact ⟨hi, by rw [e]⟩
@[simp] theorem natsD_len (row : List Nat) : (natsD row).length = row.length := by unfold natsD; rw [List.length_map]
theorem runO_take {goes : List (List (Option Nat))} {s : Option Nat} {row : List Nat} {i : Nat} (hi : i < row.length) : runO goes s (row.take (i + 1)) = stepO goes (runO goes s (row.take i)) row[i] := by
  unfold runO
  rw [List.take_add_one, List.getElem?_eq_getElem hi, List.foldl_append]
  rfl
theorem okD_nats (row : List Nat) (n : Nat) : okD (.lst (natsD row)) (n + 1) = true := by
  refine okD_lst fun d hd => ?_
  obtain ⟨r, _, rfl⟩ := List.mem_map.mp hd
  simp [okD]
theorem enumD_inv {ds : List D} {i : Nat} {d : D} (h : (enumD ds)[i]? = some d) : ∃ x, ds[i]? = some x ∧ d = .tup [.int i, x] := by
  have hi := (List.getElem?_eq_some_iff.mp h).1
  rw [enumD_len] at hi
  refine ⟨ds[i], List.getElem?_eq_getElem hi, ?_⟩
  rw [enumD_get (List.getElem?_eq_getElem hi)] at h
  cases h
  rfl
end AL

namespace AL
open PySem PySem.Spec L2
variable {B : Bs}
/-! ### dicts with keys ints and texts -/
def keyOf : D → Option Key
  | .int i => some (.inl i)
  | .str x => some (.inr x)
  | _ => none
def valD (es : List (Key × D)) (k : Key) : Option D := (es.find? fun kv => decide (kv.1 = k)).map (·.2)
def putD (es : List (Key × D)) (k : Key) (d : D) : List (Key × D) :=
  if (es.any fun kv => decide (kv.1 = k)) = true then es.map (fun kv => if kv.1 = k then (kv.1, d) else kv) else es ++ [(k, d)]
def asK (C : AH) : D → Option (List (Key × D))
  | .dk es => some es
  | .ce p => (match C p with | some (.dk es) => some es | _ => none)
  | _ => none
section
variable {K : PySem.W.Frag} {F F' : Hp} {C : AH} {R H : Hp}
theorem keyOf_ok {v : V} {d : D} {k : Key} (r : Rep K F v d) (h : keyOf d = some k) : v = kV k := by
  cases r <;> simp [keyOf] at h <;> subst h <;> rfl
theorem RepK.val (k : Key) : ∀ {vs : List (Key × V)} {ds : List (Key × D)}, RepK K F vs ds → (match valD ds k with | some d => ∃ v, valV vs k = some v ∧ Rep K F v d | none => valV vs k = none)
  | _, _, .nil => rfl
  | (j, v) :: vs, (_, d) :: ds, .cons r t => by
    have ih := RepK.val k t
    unfold valD valV at ih ⊢
    by_cases e : j = k
    · subst e
      simp only [List.find?_cons, decide_true, Option.map_some]
      exact ⟨v, rfl, r⟩
    · simp only [List.find?_cons, decide_eq_false e]
      exact ih
theorem RepK.any (k : Key) : ∀ {vs : List (Key × V)} {ds : List (Key × D)}, RepK K F vs ds → (vs.any fun kv => decide (kv.1 = k)) = ds.any fun kv => decide (kv.1 = k)
  | _, _, .nil => rfl
  | _, _, .cons r t => by rw [List.any_cons, List.any_cons, RepK.any k t]
theorem RepK.repl (k : Key) {v : V} {d : D} (r : Rep K F v d) : ∀ {vs : List (Key × V)} {ds : List (Key × D)}, RepK K F vs ds → RepK K F (vs.map fun kv => if kv.1 = k then (kv.1, v) else kv) (ds.map fun kv => if kv.1 = k then (kv.1, d) else kv)
  | _, _, .nil => .nil
  | (j, _) :: _, _, .cons q t => by
    rw [List.map_cons, List.map_cons]
    by_cases e : j = k
    · rw [if_pos e, if_pos e]; exact .cons r (RepK.repl k r t)
    · rw [if_neg e, if_neg e]; exact .cons q (RepK.repl k r t)
theorem RepK.snoc (k : Key) {v : V} {d : D} (r : Rep K F v d) : ∀ {vs : List (Key × V)} {ds : List (Key × D)}, RepK K F vs ds → RepK K F (vs ++ [(k, v)]) (ds ++ [(k, d)])
  | _, _, .nil => .cons r .nil
  | _, _, .cons q t => .cons q (RepK.snoc k r t)
theorem RepK.put (k : Key) {v : V} {d : D} (r : Rep K F v d) {vs : List (Key × V)} {ds : List (Key × D)} (h : RepK K F vs ds) : RepK K F (putK vs k v) (putD ds k d) := by
  unfold putK putD
  rw [RepK.any k h]
  split
  · exact RepK.repl k r h
  · exact RepK.snoc k r h
theorem asK_ok {v : V} {d : D} {es : List (Key × D)} (hS : Sat B K F C R H) (r : Rep K F v d) (h : asK C d = some es) : ∃ a kvs, v = .ref a ∧ H a = some (.dK kvs) ∧ RepK K F kvs es := by
  cases d with
  | dk e =>
    cases h
    cases r with
    | dk h1 h2 => exact ⟨_, _, rfl, hS.ex _ _ h1, h2⟩
  | ce p =>
    cases r
    have h : (match C p with | some (.dk es) => some es | _ => none) = some es := h
    cases q : C p with
    | none => rw [q] at h; cases h
    | some c =>
      rw [q] at h
      obtain ⟨_, o, h1, h2⟩ := hS.cell p c q
      cases c with
      | dk e =>
        cases h
        cases h2 with
        | dk h3 => exact ⟨p, _, rfl, h1, h3⟩
      | _ => cases h
  | _ => cases h
end
/-- d[k] -/
def aGetK (o i : AE') : AE' := fun s C P => o s C fun x C1 => i s C1 fun y C2 => match asK C2 x, keyOf y with
  | some es, some k => (match valD es k with | some d => P d C2 | none => False)
  | _, _ => False
theorem sim_getK {K : PySem.W.Frag} {to ti : TE} {ao ai : AE'} (ho : SimE B K to ao) (hi : SimE B K ti ai) : SimE B K (tDGet to ti) (aGetK ao ai) := by
  intro σ s F C R H Q P hs hS h k
  refine ho σ s F C R H _ _ hs hS h fun x v F1 C1 H1 e1 S1 r1 h1 => ?_
  refine hi σ s F1 C1 R H1 _ _ (hs.mono e1) S1 h1 fun y w F2 C2 H2 e2 S2 r2 h2 => ?_
  split at h2
  · rename_i es ky q1 q2
    split at h2
    · rename_i d q3
      obtain ⟨a, kvs, rfl, h3, h4⟩ := asK_ok S2 (r1.mono e2) q1
      have h5 := RepK.val ky h4
      rw [q3] at h5
      obtain ⟨u, h6, h7⟩ := h5
      refine ⟨a, u, rfl, ?_, k _ _ F2 C2 H2 (e1.trans e2) S2 h7 h2⟩
      rw [keyOf_ok r2 q2, ← h6]
      exact .k h3
    · exact h2.elim
  · exact h2.elim
theorem ae_getK {X : Cx} {pos : Pos} {o i : Expr} {to ti : TE} {ao ai : AE'} (hu : X.A.units + 1 < cLine) (ho : AE B X o to ao) (hi : AE B X i ti ai) (hs : NoSl i := by exact fun _ _ => rfl) : AE B X (.Subscript o i pos) (tDGet to ti) (aGetK ao ai) :=
  ⟨pe_dget hu ho.pe hi.pe hs, sim_getK ho.sim hi.sim⟩
/-- k in d -/
def aInK (neg : Bool) (i o : AE') : AE' := fun s C P => i s C fun y C1 => o s C1 fun x C2 => match asK C2 x, keyOf y with
  | some es, some k => P (.bl (if neg then !(valD es k).isSome else (valD es k).isSome)) C2
  | _, _ => False
theorem valK_some {K : PySem.W.Frag} {F : Hp} {k : Key} {vs : List (Key × V)} {ds : List (Key × D)} (h : RepK K F vs ds) : (valV vs k).isSome = (valD ds k).isSome := by
  have := RepK.val k h
  cases q : valD ds k with
  | none => rw [q] at this; rw [show valV vs k = none from this]; rfl
  | some d => rw [q] at this; obtain ⟨v, e, _⟩ := this; rw [e]; rfl
theorem sim_inK {K : PySem.W.Frag} {to ti : TE} {ao ai : AE'} (ho : SimE B K to ao) (hi : SimE B K ti ai) : SimE B K (tDIn ti to) (aInK false ai ao) := by
  intro σ s F C R H Q P hs hS h k
  refine hi σ s F C R H _ _ hs hS h fun y v F1 C1 H1 e1 S1 r1 h1 => ?_
  refine ho σ s F1 C1 R H1 _ _ (hs.mono e1) S1 h1 fun x w F2 C2 H2 e2 S2 r2 h2 => ?_
  split at h2
  · rename_i es ky q1 q2
    obtain ⟨a, kvs, rfl, h3, h4⟩ := asK_ok S2 r2 q1
    refine ⟨a, valV kvs ky, rfl, ?_, ?_⟩
    · rw [keyOf_ok r1 q2]; exact .k h3
    · rw [valK_some h4]
      exact k _ _ F2 C2 H2 (e1.trans e2) S2 (.bl _) h2
  · exact h2.elim
theorem sim_notInK {K : PySem.W.Frag} {to ti : TE} {ao ai : AE'} (ho : SimE B K to ao) (hi : SimE B K ti ai) : SimE B K (tDNotIn ti to) (aInK true ai ao) := by
  intro σ s F C R H Q P hs hS h k
  refine hi σ s F C R H _ _ hs hS h fun y v F1 C1 H1 e1 S1 r1 h1 => ?_
  refine ho σ s F1 C1 R H1 _ _ (hs.mono e1) S1 h1 fun x w F2 C2 H2 e2 S2 r2 h2 => ?_
  split at h2
  · rename_i es ky q1 q2
    obtain ⟨a, kvs, rfl, h3, h4⟩ := asK_ok S2 r2 q1
    refine ⟨a, valV kvs ky, rfl, ?_, ?_⟩
    · rw [keyOf_ok r1 q2]; exact .k h3
    · rw [valK_some h4]
      exact k _ _ F2 C2 H2 (e1.trans e2) S2 (.bl _) h2
  · exact h2.elim
section
variable {X : Cx} {pos : Pos} {o i e : Expr} {to ti te : TE} {ao ai a : AE'}
theorem ae_inK (hu : X.A.units + 1 < cLine) (hi : AE B X i ti ai) (ho : AE B X o to ao) (h1 : behindInMarks .In o = false := by rfl) : AE B X (.Compare i [.In] [o] pos) (tDIn ti to) (aInK false ai ao) :=
  ⟨pe_cmp (pc_din hu hi.pe ho.pe) h1, sim_inK ho.sim hi.sim⟩
theorem ae_notInK (hu : X.A.units + 1 < cLine) (hi : AE B X i ti ai) (ho : AE B X o to ao) (h1 : behindInMarks .NotIn o = false := by rfl) : AE B X (.Compare i [.NotIn] [o] pos) (tDNotIn ti to) (aInK true ai ao) :=
  ⟨pe_cmp (pc_dnotin hu hi.pe ho.pe) h1, sim_notInK ho.sim hi.sim⟩
theorem at_inK (hu : X.A.units + 1 < cLine) (hi : AE B X i ti ai) (ho : AE B X o to ao) (h1 : behindInMarks .In o = false := by rfl) : AT B X (.Compare i [.In] [o] pos) (tTest (tDIn ti to)) (aB (aInK false ai ao)) :=
  ⟨pt_cmp (pc_din hu hi.pe ho.pe) h1, sim_B (sim_inK ho.sim hi.sim)⟩
theorem at_notInK (hu : X.A.units + 1 < cLine) (hi : AE B X i ti ai) (ho : AE B X o to ao) (h1 : behindInMarks .NotIn o = false := by rfl) : AT B X (.Compare i [.NotIn] [o] pos) (tTest (tDNotIn ti to)) (aB (aInK true ai ao)) :=
  ⟨pt_cmp (pc_dnotin hu hi.pe ho.pe) h1, sim_B (sim_notInK ho.sim hi.sim)⟩
/-- d[k] = e -/
def aPutK (o i e : AE') : AS' := fun E s C => e s C fun d C1 => o s C1 fun x C2 => i s C2 fun y C3 => match x, keyOf y with
  | .ce p, some k => (match C3 p with | some (.dk es) => es.length < sizeLine ∧ E.nx s (put C3 p (.dk (putD es k d))) | _ => False)
  | _, _ => False
theorem sim_putK {K : PySem.W.Frag} (ho : SimE B K to ao) (hi : SimE B K ti ai) (he : SimE B K te a) : SimS B K (sDPut to ti te) (aPutK ao ai a) := fun D' E σ s F C R H hE hs hS h => by
  refine he σ s F C R H _ _ hs hS h fun d v F1 C1 H1 e1 S1 r1 h1 => ?_
  refine ho σ s F1 C1 R H1 _ _ (hs.mono e1) S1 h1 fun x w F2 C2 H2 e2 S2 r2 h2 => ?_
  refine hi σ s F2 C2 R H2 _ _ (hs.mono (e1.trans e2)) S2 h2 fun y u F3 C3 H3 e3 S3 r3 h3 => ?_
  split at h3
  · rename_i p ky q1
    cases r2
    split at h3
    · rename_i es q2
      obtain ⟨hl, h3⟩ := h3
      obtain ⟨hF, ob, h4, h5⟩ := S3.cell p _ q2
      cases h5 with
      | dk h6 =>
        refine ⟨p, _, rfl, ?_, hE.nx s σ F3 _ _ ((e1.trans e2).trans e3) (hs.mono ((e1.trans e2).trans e3)) (S3.mutC q2 (.dk (RepK.put ky (r1.mono (e2.trans e3)) h6))) h3⟩
        rw [keyOf_ok r3 q1]
        exact .k h4 (by rw [h6.length]; exact hl)
    · exact h3.elim
  · exact h3.elim
theorem as_putK {p2 : Pos} (hu : X.A.units + 1 < cLine) (ho : AE B X o to ao) (hi : AE B X i ti ai) (he : AE B X e te a) (hs : swapsWith e (some (.Subscript o i p2)) pos.line X.env = pure false := by rfl) : AS B X (.Assign [.Subscript o i p2] e pos) (sDPut to ti te) (aPutK ao ai a) :=
  ⟨ps_dput hu ho.pe hi.pe he.pe hs, sim_putK ho.sim hi.sim he.sim⟩
/-- {} -/
def aDict0 : AE' := fun _ C P => ∀ p, C p = none → P (.ce p) (put C p (.dk []))
theorem ae_dict0 : AE B X (.Dict [] [] pos) tDNewK aDict0 := ⟨pe_dnewK, fun σ s F C R H Q P hs hS h k p hp => k _ _ F _ _ (Ex.refl F) (hS.newC hp (.dk .nil)) (.ce p) (h p (hS.freeC hp))⟩
end
/-- {k: e, ..}, the keys written -/
def aPairs : List (Key × AE') → ASt → AH → (List (Key × D) → AH → Prop) → Prop
  | [], _, C, P => P [] C
  | (k, a) :: r, s, C, P => a s C fun d C1 => aPairs r s C1 fun es C2 => P ((k, d) :: es) C2
def mergeD (es more : List (Key × D)) : List (Key × D) := more.foldl (fun acc kv => putD acc kv.1 kv.2) es
def aDisp (l : List (Key × AE')) : AE' := fun s C P => aPairs l s C fun es C1 => es.length ≤ 15 ∧ ∀ p, C1 p = none → P (.ce p) (put C1 p (.dk (mergeD [] es)))
def SimPs (B : Bs) (K : PySem.W.Frag) (trs : List (TE × TE)) (l : List (Key × AE')) : Prop := ∀ (σ : L2.St) (s : ASt) (F : Hp) (C : AH) (R H : Hp) (Q : List (V × V) → Hp → Prop) (P : List (Key × D) → AH → Prop), Slo K F s σ → Sat B K F C R H → aPairs l s C P →
  (∀ es kvs F' C' H', Ex F F' → Sat B K F' C' R H' → RepK K F' kvs es → P es C' → Q (kvs.map fun kv => (kV kv.1, kv.2)) H') → tPairs trs σ H Q
structure APs (B : Bs) (X : Cx) (pos : Pos) (keys : List (Option Expr)) (vals : List Expr) (trs : List (TE × TE)) (l : List (Key × AE')) : Prop where
  pps : PPs X pos keys vals trs
  sim : SimPs B X.K trs l
theorem sim_pcons {K : PySem.W.Frag} {k : Key} {te : TE} {a : AE'} {trs : List (TE × TE)} {l : List (Key × AE')} (h : SimE B K te a) (g : SimPs B K trs l) : SimPs B K ((tC (kV k), te) :: trs) ((k, a) :: l) := by
  intro σ s F C R H Q P hs hS h0 kk
  refine h σ s F C R H _ _ hs hS h0 fun d v F1 C1 H1 e1 S1 r1 h1 => ?_
  refine g σ s F1 C1 R H1 _ _ (hs.mono e1) S1 h1 fun es kvs F2 C2 H2 e2 S2 r2 h2 => ?_
  exact kk ((k, d) :: es) ((k, v) :: kvs) F2 C2 H2 (e1.trans e2) S2 (.cons (r1.mono e2) r2) h2
theorem aps_nil {X : Cx} {pos : Pos} : APs B X pos [] [] [] [] := ⟨pps_nil, fun σ s F C R H Q P hs hS h k => k [] [] F C H (Ex.refl F) hS .nil h⟩
theorem aps_str {X : Cx} {pos p : Pos} {x : Str} {j} {e : Expr} {ks : List (Option Expr)} {vs : List Expr} {te : TE} {a : AE'} {trs : List (TE × TE)} {l : List (Key × AE')} (h : AE B X e te a) (g : APs B X pos ks vs trs l) : APs B X pos (some (.Constant (.str x) j p) :: ks) (e :: vs) ((tC (.str x), te) :: trs) ((.inr x, a) :: l) :=
  ⟨pps_cons pe_str h.pe g.pps, sim_pcons (k := .inr x) h.sim g.sim⟩
theorem aps_int {X : Cx} {pos p : Pos} {x : Int} {j} {e : Expr} {ks : List (Option Expr)} {vs : List Expr} {te : TE} {a : AE'} {trs : List (TE × TE)} {l : List (Key × AE')} (h : AE B X e te a) (g : APs B X pos ks vs trs l) : APs B X pos (some (.Constant (.int x) j p) :: ks) (e :: vs) ((tC (.int x), te) :: trs) ((.inl x, a) :: l) :=
  ⟨pps_cons pe_int h.pe g.pps, sim_pcons (k := .inl x) h.sim g.sim⟩
theorem RepK.merge {K : PySem.W.Frag} {F : Hp} : ∀ {more : List (Key × V)} {ms : List (Key × D)} {vs : List (Key × V)} {ds : List (Key × D)}, RepK K F more ms → RepK K F vs ds → RepK K F (mergeK vs more) (mergeD ds ms)
  | _, _, _, _, .nil, h => h
  | (k, v) :: more, (_, d) :: ms, vs, ds, .cons r t, h => by
    show RepK K F (mergeK (putK vs k v) more) (mergeD (putD ds k d) ms)
    exact RepK.merge t (RepK.put k r h)
theorem sim_disp {K : PySem.W.Frag} {trs : List (TE × TE)} {l : List (Key × AE')} (h : SimPs B K trs l) : SimE B K (tDisp trs) (aDisp l) := by
  intro σ s F C R H Q P hs hS h0 k p hp
  have hF := hS.freeF hp
  have hC := hS.freeC hp
  have hR := hS.freeR hp
  refine h σ s F C (upd R p (.dK [])) (upd H p (.dK [])) _ _ hs (hS.setR hF hC (hS.freeB hR) _) h0 fun es kvs F1 C1 H1 e1 S1 r1 h1 => ?_
  obtain ⟨h15, h1⟩ := h1
  obtain ⟨f1, c1, g1⟩ := S1.priv p _ upd_same
  refine ⟨g1, kvs, rfl, by rw [r1.length]; exact h15, ?_⟩
  have S2 := (S1.outC hR (hS.freeB hR) (.dk .nil)).mutC put_same (.dk (RepK.merge r1 .nil))
  rw [put_put] at S2
  exact k _ _ F1 _ _ e1 S2 (.ce p) (h1 p c1)
theorem ae_disp {X : Cx} {pos : Pos} {keys : List (Option Expr)} {vals : List Expr} {trs : List (TE × TE)} {l : List (Key × AE')} (h : APs B X pos keys vals trs l) (hall : keys.all (·.isSome) = true := by rfl) (hl : keys.length = vals.length := by rfl) (h0 : keys ≠ [] := by simp) (h15 : keys.length ≤ 15 := by decide) : AE B X (.Dict keys vals pos) (tDisp trs) (aDisp l) :=
  ⟨pe_disp h.pps hall hl h0 h15, sim_disp h.sim⟩
/-- a, b = x, y -/
def aPar (i j : Nat) (aa : AA') : AS' := fun E s C => aa s C fun ds C1 => match ds with
  | [d, e] => E.nx ((s.set i (some d)).set j (some e)) C1
  | _ => False
theorem sim_par {K : PySem.W.Frag} {n : Nat} {ta : TA} {aa : AA'} (i j : Nat) (h : SimA B K n ta aa) : SimS B K (tPar i j ta) (aPar i j aa) := fun D' E σ s F C R H hE hs hS h0 => by
  refine h σ s F C R H _ _ hs hS h0 fun ds vs F1 C1 H1 e1 S1 r1 hn h1 => ?_
  split at h1
  · cases r1 with
    | cons ra t =>
      cases t with
      | cons rb t =>
        cases t
        exact ⟨_, _, rfl, hE.nx _ _ F1 C1 H1 e1 (((hs.mono e1).set ra i).set rb j) S1 h1⟩
  · exact h1.elim
theorem as_par {X : Cx} {pos : Pos} (i j : Nat) {n : Nat} {x y : Str} {a b : Expr} {ta : TA} {aa : AA'} {px py pt : Pos} {kt k2 pt2} (hN : X.N.Nodup) (ha : AA B X [a, b] n ta aa) (hc : X.calm = true := by rfl) (hi : X.N[i]? = some x := by rfl) (hj : X.N[j]? = some y := by rfl) (hij : i ≠ j := by decide)
    (hx : X.env.scope.names.lookup x = some .local := by rfl) (hy : X.env.scope.names.lookup y = some .local := by rfl)
    (hw : swappedStores [.Tuple [.Name x px, .Name y py] kt pt] (.Tuple [a, b] k2 pt2) X.env = pure (some [x, y]) := by rfl)
    (hs : swapsWithSole [.Tuple [.Name x px, .Name y py] kt pt] (.Tuple [a, b] k2 pt2) pos.line X.env = pure false := by rfl) :
    AS B X (.Assign [.Tuple [.Name x px, .Name y py] kt pt] (.Tuple [a, b] k2 pt2) pos) (tPar i j ta) (aPar i j aa) :=
  ⟨ps_par hc hN hi hj hij hx hy ha.pa hw hs, sim_par i j ha.sim⟩
section
variable {nx : ASt → AH → Prop} {rt : D → AH → Prop} {bk ct : ASt → AH → Prop} {s : ASt} {C : AH} {P : D → AH → Prop} {aa : AA'} {e : AE'} {i j : Nat} {p : Addr}
def kPar (i j : Nat) (nx : ASt → AH → Prop) (s : ASt) : List D → AH → Prop := fun ds C1 => match ds with
  | [d, e] => nx ((s.set i (some d)).set j (some e)) C1
  | _ => False
theorem g_par (h : aa s C (kPar i j nx s)) : aPar i j aa ⟨nx, rt, bk, ct⟩ s C := (congrArg (aa s C) (by funext ds C1; rfl)).mpr h
theorem g_kPar {d e : D} {s' : ASt} (h0 : (s.set i (some d)).set j (some e) = s') (h : nx s' C) : kPar i j nx s [d, e] C := by
  subst h0
  exact h
theorem g_neg {z : Int} (h : P (.int (-z)) C) : aNeg (.int z) C P := h
/-! a pen: script, at, left -/
def penD (x y z : D) : Cell := .dk [(.inr "script", x), (.inr "at", y), (.inr "left", z)]
theorem g_pen0 {x y z : D} (hi : s[i]? = some (some (.ce p))) (h1 : C p = some (penD x y z)) (h : P x C) : aGetK (aVar i) (aC (.str "script")) s C P := by
  refine g_var hi ?_
  show (match (match C p with | some (.dk es) => some es | _ => none), keyOf (.str "script") with | some es, some k => (match valD es k with | some d => P d C | none => False) | _, _ => False)
  rw [h1]
  exact h
theorem g_pen1 {x y z : D} (hi : s[i]? = some (some (.ce p))) (h1 : C p = some (penD x y z)) (h : P y C) : aGetK (aVar i) (aC (.str "at")) s C P := by
  refine g_var hi ?_
  show (match (match C p with | some (.dk es) => some es | _ => none), keyOf (.str "at") with | some es, some k => (match valD es k with | some d => P d C | none => False) | _, _ => False)
  rw [h1]
  exact h
theorem g_pen2 {x y z : D} (hi : s[i]? = some (some (.ce p))) (h1 : C p = some (penD x y z)) (h : P z C) : aGetK (aVar i) (aC (.str "left")) s C P := by
  refine g_var hi ?_
  show (match (match C p with | some (.dk es) => some es | _ => none), keyOf (.str "left") with | some es, some k => (match valD es k with | some d => P d C | none => False) | _, _ => False)
  rw [h1]
  exact h
def kPut (i : Nat) (x : Str) (nx : ASt → AH → Prop) (s : ASt) : D → AH → Prop := fun d C1 => aVar i s C1 fun x' C2 => match x' with
  | .ce p => (match C2 p with | some (.dk es) => es.length < sizeLine ∧ nx s (put C2 p (.dk (putD es (.inr x) d))) | _ => False)
  | _ => False
theorem g_putK {x : Str} (h : e s C (kPut i x nx s)) : aPutK (aVar i) (aC (.str x)) e ⟨nx, rt, bk, ct⟩ s C := by
  refine (congrArg (e s C) ?_).mpr h
  funext d C1
  refine congrArg (aVar i s C1) ?_
  funext y C2
  cases y <;> rfl
theorem g_kPut1 {x y z d : D} (hi : s[i]? = some (some (.ce p))) (h1 : C p = some (penD x y z)) (h : nx s (put C p (penD x d z))) : kPut i "at" nx s d C := by
  refine g_var hi ?_
  show (match C p with | some (.dk es) => es.length < sizeLine ∧ nx s (put C p (.dk (putD es (.inr "at") d))) | _ => False)
  rw [h1]
  exact ⟨by show 3 < sizeLine; decide, h⟩
theorem g_kPut2 {x y z d : D} (hi : s[i]? = some (some (.ce p))) (h1 : C p = some (penD x y z)) (h : nx s (put C p (penD x y d))) : kPut i "left" nx s d C := by
  refine g_var hi ?_
  show (match C p with | some (.dk es) => es.length < sizeLine ∧ nx s (put C p (.dk (putD es (.inr "left") d))) | _ => False)
  rw [h1]
  exact ⟨by show 3 < sizeLine; decide, h⟩
theorem g_newPen {x y : D} (hi : s[i]? = some (some x)) (hj : s[j]? = some (some y)) (h : ∀ p, C p = none → P (.ce p) (put C p (penD x y (.int 0)))) : aDisp [(.inr "script", aVar i), (.inr "at", aVar j), (.inr "left", aC (.int 0))] s C P := by
  simp only [aDisp, aPairs]
  exact g_var hi (g_var hj (g_c ⟨by simp, h⟩))
end
end AL

namespace AL
open PySem PySem.Spec L2
variable {B : Bs}
section
variable {s : ASt} {C : AH} {P : D → AH → Prop} {a e : AE'} {l h : AO'} {PO : Option Int → AH → Prop}
/-! slices -/
theorem g_sl {r : D → Option Int → Option Int → AH → (D → AH → Prop) → Prop} (h0 : a s C fun x C1 => l s C1 fun i C2 => h s C2 fun j C3 => r x i j C3 P) : aSl r a l h s C P := h0
theorem g_noPart (h0 : PO none C) : aNoPart s C PO := h0
def kPart (PO : Option Int → AH → Prop) : D → AH → Prop := fun x C1 => match x with | .int i => PO (some i) C1 | _ => False
theorem g_part (h0 : e s C (kPart PO)) : aPart e s C PO := (congrArg (e s C) (by funext x C1; cases x <;> rfl)).mpr h0
theorem g_kPart {i : Int} (h0 : PO (some i) C) : kPart PO (.int i) C := h0
theorem cutD_take (ds : List D) (j : Nat) : cutD ds none (some (j : Int)) = ds.take j := by
  unfold cutD
  rw [HT.sIx_none, HT.sIx_nat, List.drop_zero, Nat.sub_zero]
  by_cases hj : j ≤ ds.length
  · rw [Nat.min_eq_left hj]
  · rw [Nat.min_eq_right (by omega), List.take_of_length_le (by omega), List.take_of_length_le (by omega)]
theorem cutD_drop (ds : List D) (j : Nat) : cutD ds (some (j : Int)) none = ds.drop j := by
  unfold cutD
  rw [HT.sIx_none, HT.sIx_nat]
  by_cases hj : j ≤ ds.length
  · rw [Nat.min_eq_left hj, List.take_of_length_le (by rw [List.length_drop]; omega)]
  · rw [Nat.min_eq_right (by omega), List.drop_eq_nil_of_le (Nat.le_refl _), List.drop_eq_nil_of_le (by omega)]
    simp
theorem g_cutTake {us : List D} {j : Nat} (h0 : P (.lst (us.take j)) C) : aCut (.lst us) none (some (j : Int)) C P := by
  show P (.lst (cutD us none (some (j : Int)))) C
  rw [cutD_take]; exact h0
theorem g_cutDrop {us : List D} {j : Nat} (h0 : P (.lst (us.drop j)) C) : aCut (.lst us) (some (j : Int)) none C P := by
  show P (.lst (cutD us (some (j : Int)) none)) C
  rw [cutD_drop]; exact h0
/-! extend -/
theorem g_extend {p : Addr} {us ws : List D} (h1 : C p = some (.lst us)) (h2 : us.length + ws.length ≤ sizeLine) (h0 : P .non (put C p (.lst (us ++ ws)))) : aExtend (.ce p) [.lst ws] C P := by
  show (match C p, asL C (.lst ws) with | some (.lst us), some ws => us.length + ws.length ≤ sizeLine ∧ P .non (put C p (.lst (us ++ ws))) | _, _ => False)
  rw [h1]
  exact ⟨h2, h0⟩
end
end AL

namespace AL
open PySem PySem.Spec PyProof.Rows L2
variable {B : Bs}
section
variable {X : Cx} {K : PySem.W.Frag}
/-! ### list(a text) -/
def signsV (z : Str) : List V := z.cps.toList.map fun c => V.str ⟨#[c]⟩
def kLstS (x : V) (H : Hp) (Q : VK) : Prop := ∃ z, x = .str z ∧ z.cps.size ≤ sizeLine ∧ ∀ q, H q = none → Q (.ref q) (upd H q (.lst (signsV z)))
theorem rl_listS (hc : X.calm = true) (pins : List (Addr × Obj)) (s : Shared) (σ : L2.St) (H : Hp) (x : V) (v : Value) (Q : VK) (I : Inv X pins σ H s) (r : RelV x v) (h : kLstS x H Q) :
    wpAny (model X.prog X.w) X.A (call (.type "list") [v]) (EP X pins σ Q) X.xe s := by
  obtain ⟨z, rfl, hz, q⟩ := h
  obtain ⟨t, rfl⟩ := r
  refine PySem.call_list_str (I.ok.hd hc) z t (hn := hz) fun h' tk acc c' hk e hi => ?_
  refine ⟨.ref s.heap.objs.size, upd H s.heap.objs.size (.lst (signsV z)), I.laid hk (Nat.le_refl _) ⟨by unfold signsV; rw [List.length_map, Array.length_toList]; exact hz, acc.toList, c', ?_, by rw [Array.toArray_toList]; exact e⟩, rfl, q _ (I.hok.fresh (Nat.le_refl _))⟩
  refine vals_of_idx _ _ (by unfold signsV; rw [List.length_map, Array.length_toList, Array.length_toList]; exact hi.1) fun j u hj => ?_
  obtain ⟨c, t', hc, rfl⟩ := hi.2 j u (by rw [← Array.getElem?_toList]; exact hj)
  refine ⟨.str ⟨#[c]⟩, ?_, ⟨_, rfl⟩⟩
  unfold signsV
  rw [List.getElem?_map, Array.getElem?_toList, hc]
  rfl
theorem signs_rep {F : Hp} (z : Str) : RepL K F (signsV z) (signs z) := by
  unfold signsV signs
  induction z.cps.toList with
  | nil => exact .nil
  | cons c l ih => exact .cons (.str _) ih
def aListS : ASp := fun ds C P => match ds with | [.str z] => z.cps.size ≤ sizeLine ∧ P (.lst (signs z)) C | _ => False
def aListSM : ASp := fun ds C P => match ds with | [.str z] => z.cps.size ≤ sizeLine ∧ ∀ p, C p = none → P (.ce p) (put C p (.lst (signs z))) | _ => False
theorem ac_listS (hc : X.calm = true := by rfl) : ACa B X (.type "list") (r1 kLstS) aListS := ⟨call_r1 (rl_listS hc), by
  intro vs ds F C R H Q P hS r h k
  unfold aListS at h
  split at h
  · cases r with
    | cons r1 r2 =>
      cases r2
      cases r1
      refine ⟨_, rfl, h.1, fun p hp => ?_⟩
      rename_i z
      have e := Ex.new (o := .lst (signsV z)) (hS.freeF hp)
      exact k _ _ _ C _ e (hS.newF hp _) (.lst upd_same ((signs_rep _).mono e)) h.2
  · exact h.elim⟩
theorem ac_listSM (hc : X.calm = true := by rfl) : ACa B X (.type "list") (r1 kLstS) aListSM := ⟨call_r1 (rl_listS hc), by
  intro vs ds F C R H Q P hS r h k
  unfold aListSM at h
  split at h
  · cases r with
    | cons r1 r2 =>
      cases r2
      cases r1
      refine ⟨_, rfl, h.1, fun p hp => ?_⟩
      exact k _ _ _ _ _ (Ex.refl F) (hS.newC hp (.lst (signs_rep _))) (.ce p) (h.2 p (hS.freeC hp))
  · exact h.elim⟩
/-! ### sep.join -/
def aJoin : D → ASp := fun x ds C P => match x, ds with
  | .str a, [d] => (match (asS C d).bind strsD with | some ys => (ys.map (·.length)).sum + ys.length * a.length ≤ 16777216 ∧ P (.str (Txt.join a ys)) C | none => False)
  | _, _ => False
theorem am_join (hK : X.K = K := by rfl) : AMt B X "str.join" (fun x xs H Q => ∃ a p, ∃ ys : List Str, x = .str a ∧ xs = [.ref p] ∧ (SqL K H p (ys.map V.str) ∨ SqT K H p (ys.map V.str)) ∧
    (ys.map (·.length)).sum + ys.length * a.length ≤ 16777216 ∧ Q (.str (Txt.join a ys)) H) aJoin := by
  subst hK
  exact ⟨fun pins s σ H x xs v us Q I r1 r2 h => mt_join pins s σ H x xs v us Q I r1 r2 h, by
  intro v d vs ds F C R H Q P hS r1 r2 h k
  unfold aJoin at h
  split at h
  · cases r1
    cases r2 with
    | cons r2 r3 =>
      cases r3
      split at h
      · rename_i ys e
        obtain ⟨us, e1, e2⟩ := Option.bind_eq_some_iff.mp e
        obtain ⟨a, xs, e3, h1, h2⟩ := asS_ok hS r2 e1
        have e4 := strs_ok e2
        subst e4
        have e5 := h2.ofStrs
        subst e5
        exact ⟨_, a, ys, rfl, by rw [e3], h1, h.1, k _ _ F C H (Ex.refl F) hS (.str _) h.2⟩
      · exact h.elim
  · exact h.elim⟩
/-! ### x in (a, b, ..), flat things -/
def toV : D → Option V
  | .non => some .non
  | .bl b => some (.bl b)
  | .int i => some (.int i)
  | .str x => some (.str x)
  | _ => none
def toVs : List D → Option (List V)
  | [] => some []
  | d :: ds => match toV d, toVs ds with | some v, some vs => some (v :: vs) | _, _ => none
theorem toV_ok {F : Hp} {v u : V} {d : D} (r : Rep K F v d) (h : toV d = some u) : v = u ∧ flatV u = true := by
  cases r <;> simp [toV] at h <;> subst h <;> exact ⟨rfl, rfl⟩
theorem toVs_ok {F : Hp} : ∀ {vs us : List V} {ds : List D}, RepL K F vs ds → toVs ds = some us → vs = us ∧ us.all flatV = true
  | _, _, _, .nil, h => by cases h; exact ⟨rfl, rfl⟩
  | _, us, d :: ds, .cons r t, h => by
    unfold toVs at h
    split at h
    · rename_i v vs e1 e2
      cases h
      obtain ⟨a1, a2⟩ := toV_ok r e1
      obtain ⟨b1, b2⟩ := toVs_ok t e2
      subst a1 b1
      exact ⟨rfl, by simp [a2, b2]⟩
    · cases h
def aIn (neg : Bool) : D → D → AH → (D → AH → Prop) → Prop := fun x y C P => match toV x, (asS C y).bind toVs with
  | some u, some us => P (.bl (if neg then !inV u us else inV u us)) C
  | _, _ => False
abbrev aInL := aIn false
abbrev aNinL := aIn true
theorem sim_in (neg : Bool) : SimR2 B K (rIn K neg) (aIn neg) := by
  intro v w d e F C R H Q P hS r1 r2 h k
  unfold aIn at h
  split at h
  · rename_i u us e1 e2
    obtain ⟨ds, e3, e4⟩ := Option.bind_eq_some_iff.mp e2
    obtain ⟨a, xs, rfl, h1, h2⟩ := asS_ok hS r2 e3
    obtain ⟨a1, a2⟩ := toV_ok r1 e1
    obtain ⟨b1, b2⟩ := toVs_ok h2 e4
    subst a1 b1
    exact ⟨a, xs, rfl, h1, a2, b2, k _ _ F C H (Ex.refl F) hS (.bl _) h⟩
  · exact h.elim
theorem ao_inL (hK : X.K = K := by rfl) : AOp B X (compareOp .In) (rIn K false) aInL := by subst hK; exact ⟨op_in_seq, sim_in false⟩
theorem ao_ninL (hK : X.K = K := by rfl) : AOp B X (compareOp .NotIn) (rIn K true) aNinL := by subst hK; exact ⟨op_notIn_seq, sim_in true⟩
/-! ### what is never reached -/
def aNo : AE' := fun _ _ _ => False
def aNoS : AS' := fun _ _ _ => False
theorem ae_no {e : Expr} : AE B X e (fun _ _ _ => False) aNo := ⟨⟨fun _ _ _ _ _ _ h => h.elim⟩, fun _ _ _ _ _ _ _ _ _ _ h _ => h.elim⟩
theorem as_no {st : Stmt} : AS B X st (fun _ _ _ => False) aNoS := ⟨⟨fun _ _ _ _ _ _ h => h.elim⟩, fun _ _ _ _ _ _ _ _ _ _ _ h => h.elim⟩
end
/-! ### one step each -/
section
variable {s : ASt} {C : AH} {P : D → AH → Prop}
theorem g_listSM {z : Str} (h1 : z.cps.size ≤ sizeLine) (h : ∀ p, C p = none → P (.ce p) (put C p (.lst (signs z)))) : aListSM [.str z] C P := ⟨h1, h⟩
theorem g_listS {z : Str} (h1 : z.cps.size ≤ sizeLine) (h : P (.lst (signs z)) C) : aListS [.str z] C P := ⟨h1, h⟩
theorem g_joinL {a : Str} {ys : List Str} (h1 : (ys.map (·.length)).sum + ys.length * a.length ≤ 16777216) (h : P (.str (Txt.join a ys)) C) : aJoin (.str a) [.lst (ys.map D.str)] C P := by
  show (match strsD (ys.map D.str) with | some ys => _ | none => False)
  rw [strs_map]
  exact ⟨h1, h⟩
theorem g_joinT {a : Str} {ys : List Str} (h1 : (ys.map (·.length)).sum + ys.length * a.length ≤ 16777216) (h : P (.str (Txt.join a ys)) C) : aJoin (.str a) [.tup (ys.map D.str)] C P := by
  show (match strsD (ys.map D.str) with | some ys => _ | none => False)
  rw [strs_map]
  exact ⟨h1, h⟩
theorem g_in {neg : Bool} {x : D} {u : V} {ds : List D} {us : List V} (h1 : toV x = some u) (h2 : toVs ds = some us) (h : P (.bl (if neg then !inV u us else inV u us)) C) : aIn neg x (.tup ds) C P := by
  show (match toV x, toVs ds with | some u, some us => P (.bl (if neg then !inV u us else inV u us)) C | _, _ => False)
  rw [h1, h2]
  exact h
theorem g_popAt {p : Addr} {us : List D} {i : Nat} {d : D} (h1 : C p = some (.lst us)) (hi : i < 2 ^ 63) (h2 : us[i]? = some d) (h : P d (put C p (.lst (us.eraseIdx i)))) : aPopAt (.ce p) [.int (i : Int)] C P := by
  show (match C p with | some (.lst us) => -(2 ^ 63) ≤ (i : Int) ∧ (i : Int) < 2 ^ 63 ∧ (match seqIndex? (i : Int) us.length with | some k => (match us[k]? with | some d => P d (put C p (.lst (us.eraseIdx k))) | none => False) | none => False) | _ => False)
  rw [h1]
  refine ⟨by omega, by omega, ?_⟩
  have hl := (List.getElem?_eq_some_iff.mp h2).1
  have e : seqIndex? (i : Int) us.length = some i := by
    unfold seqIndex?
    simp
    omega
  rw [e]
  show (match us[i]? with | some d => P d (put C p (.lst (us.eraseIdx i))) | none => False)
  rw [h2]
  exact h
end
end AL
namespace AL
open PySem PySem.Spec L2
variable {B : Bs}
theorem ass_no {X : Cx} {st : List Stmt} : ASs B X st (fun _ _ _ => False) aNoS := ⟨⟨fun _ _ _ _ _ _ h => h.elim⟩, fun _ _ _ _ _ _ _ _ _ _ _ h => h.elim⟩
end AL

namespace AL
open PySem PySem.Spec PyProof.Rows L2
variable {B : Bs}
/-! ### texts of valid signs -/
def okS (z : Str) : Prop := ∀ c ∈ z.cps.toList, c < 0x110000
def One (z : Str) : Prop := ∃ c : Nat, z = ⟨#[c]⟩ ∧ c < 0x110000
abbrev strsL (ys : List Str) : List D := ys.map D.str
def chars (z : Str) : List Str := z.cps.toList.map fun c => ⟨#[c]⟩
theorem len_toList (z : Str) : z.cps.toList.length = z.length := Array.length_toList
theorem One.len {z : Str} (h : One z) : z.length = 1 := by obtain ⟨c, rfl, _⟩ := h; rfl
theorem One.ok {z : Str} (h : One z) : okS z := by
  obtain ⟨c, rfl, hc⟩ := h
  intro d hd
  have : d = c := by simpa using hd
  rw [this]; exact hc
theorem signs_chars (z : Str) : signs z = strsL (chars z) := by
  unfold signs strsL chars
  rw [List.map_map]
  rfl
theorem chars_len (z : Str) : (chars z).length = z.length := by unfold chars; rw [List.length_map, len_toList]
theorem chars_one {z : Str} (h : okS z) : ∀ y ∈ chars z, One y := by
  intro y hy
  obtain ⟨c, hc, rfl⟩ := List.mem_map.mp hy
  exact ⟨c, rfl, h c hc⟩
theorem joinL_nil : ∀ ps : List (List Nat), TL.joinL [] ps = ps.flatten
  | [] => rfl
  | [p] => by simp [TL.joinL]
  | p :: q :: r => by
    show p ++ ([] ++ TL.joinL [] (q :: r)) = _
    rw [joinL_nil (q :: r), List.nil_append]
    simp
theorem join_toList (ys : List Str) : (Txt.join "" ys).cps.toList = (ys.map fun y => y.cps.toList).flatten := by
  rw [TL.join_eq]
  have h := TL.tl_join "" ys
  have e : TL.tl "" = [] := by decide +kernel
  rw [e, joinL_nil] at h
  exact h
theorem join_len (ys : List Str) : (Txt.join "" ys).length = (ys.map (·.length)).sum := by
  rw [← len_toList, join_toList, List.length_flatten, List.map_map]
  congr 1
theorem join_ok {ys : List Str} (h : ∀ y ∈ ys, okS y) : okS (Txt.join "" ys) := by
  intro c hc
  rw [join_toList] at hc
  obtain ⟨l, hl, hc⟩ := List.mem_flatten.mp hc
  obtain ⟨y, hy, rfl⟩ := List.mem_map.mp hl
  exact h y hy c hc
theorem ones_len {ys : List Str} (h : ∀ y ∈ ys, One y) : (ys.map (·.length)).sum = ys.length := by
  induction ys with
  | nil => rfl
  | cons y ys ih =>
    rw [List.map_cons, List.sum_cons, ih fun z hz => h z (List.mem_cons_of_mem _ hz), (h y (List.mem_cons_self ..)).len, List.length_cons]
    omega
theorem erase_map (ys : List Str) : ∀ i, (strsL ys).eraseIdx i = strsL (ys.eraseIdx i) := by
  induction ys with
  | nil => intro i; rfl
  | cons y ys ih =>
    intro i
    cases i with
    | zero => rfl
    | succ i =>
      show D.str y :: (strsL ys).eraseIdx i = D.str y :: strsL (ys.eraseIdx i)
      rw [ih]
section
variable {C : AH} {P : D → AH → Prop}
theorem len_empty : ("" : Str).length = 0 := by decide +kernel
theorem g_joinE {ys : List Str} (h1 : (ys.map (·.length)).sum ≤ 16777216) (h : P (.str (Txt.join "" ys)) C) : aJoin (.str "") [.lst (strsL ys)] C P := g_joinL (by rw [len_empty]; omega) h
theorem g_joinET {ys : List Str} (h1 : (ys.map (·.length)).sum ≤ 16777216) (h : P (.str (Txt.join "" ys)) C) : aJoin (.str "") [.tup (strsL ys)] C P := g_joinT (by rw [len_empty]; omega) h
theorem g_ixS {z : Str} {i : Nat} (hz : okS z) (hl : z.length ≤ sizeLine) (hi : i < z.length) (k : ∀ y, One y → P (.str y) C) : aIx (.str z) (.int (i : Int)) C P := by
  have hi' : i < z.cps.toList.length := by rw [len_toList]; exact hi
  show z.length ≤ sizeLine ∧ (match atI z.cps.toList (i : Int) with | some c => P (.str ⟨#[c]⟩) C | none => False)
  refine ⟨hl, ?_⟩
  rw [atI_nat' (List.getElem?_eq_getElem hi')]
  exact k _ ⟨_, rfl, hz _ (List.getElem_mem hi')⟩
theorem g_popS {p : Addr} {ys : List Str} {i : Nat} (h1 : C p = some (.lst (strsL ys))) (hi : i < ys.length) (h64 : ys.length < 2 ^ 62) (h : P (.str ys[i]) (put C p (.lst (strsL (ys.eraseIdx i))))) : aPopAt (.ce p) [.int (i : Int)] C P := by
  refine g_popAt (d := .str ys[i]) h1 (by omega) ?_ ?_
  · unfold strsL
    rw [List.getElem?_map, List.getElem?_eq_getElem hi]
    rfl
  · rw [erase_map]; exact h
end
end AL

namespace AL
open PySem PySem.Spec PyProof.Rows L2
variable {B : Bs}
section
variable {X : Cx} {K : PySem.W.Frag}
/-! ### lists of ints in order -/
theorem holdAll_ints {h : Heap} : ∀ {vs : List Value} {ns : List Int}, Vals (ns.map V.int) vs → PySem.W.HoldAll h vs ns
  | _, [], .nil => ⟨_, .nil⟩
  | _, n :: ns, r => by
    rw [List.map_cons] at r
    cases r with
    | cons r1 r2 =>
      obtain ⟨t, rfl⟩ := r1
      obtain ⟨as, ra⟩ := holdAll_ints r2
      exact ⟨_, .cons (.int n t) ra⟩
def rLtLi (K : PySem.W.Frag) : R2 := fun x y H Q => ∃ a b ns ms, x = .ref a ∧ y = .ref b ∧ SqL K H a (ns.map V.int) ∧ SqL K H b (ms.map V.int) ∧ Q (.bl (PySem.W.listLt ns ms)) H
theorem op_ltLi (hu : X.A.units + 64 < cLine) : OpR X (compareOp .Lt) (rLtLi X.K) := by
  intro pins s σ H x y v u Q I rx ry h
  obtain ⟨a, b, ns, ms, rfl, rfl, ha, hb, q⟩ := h
  cases rx
  cases ry
  obtain ⟨its, r1, p1, _⟩ := I.list ha
  obtain ⟨its2, r2, p2, _⟩ := I.list hb
  refine PySem.W.lt_datum (α := List Int) (PySem.W.holds_list p1.isList (by rw [List.toList_toArray]; exact holdAll_ints r1)) (PySem.W.holds_list p2.isList (by rw [List.toList_toArray]; exact holdAll_ints r2)) ?_ ⟨.bl (PySem.W.listLt ns ms), H, I, rfl, q⟩
  show X.A.units + 1 < cLine
  omega
def aLtL : D → D → AH → (D → AH → Prop) → Prop := fun x y C P => match (asLr C x).bind intsD, (asLr C y).bind intsD with
  | some ns, some ms => P (.bl (PySem.W.listLt ns ms)) C
  | _, _ => False
theorem sim_ltL : SimR2 B K (rLtLi K) aLtL := by
  intro v w d e F C R H Q P hS r1 r2 h k
  unfold aLtL at h
  split at h
  · rename_i ns ms e1 e2
    obtain ⟨us, f1, f2⟩ := Option.bind_eq_some_iff.mp e1
    obtain ⟨ws, g1, g2⟩ := Option.bind_eq_some_iff.mp e2
    obtain ⟨a, xs, rfl, h1, h2⟩ := asLr_ok hS r1 f1
    obtain ⟨b, ys, rfl, h3, h4⟩ := asLr_ok hS r2 g1
    have i1 := ints_ok f2
    have i2 := ints_ok g2
    subst i1 i2
    have j1 := h2.ofInts
    have j2 := h4.ofInts
    subst j1 j2
    exact ⟨a, b, ns, ms, rfl, rfl, h1, h3, k _ _ F C H (Ex.refl F) hS (.bl _) h⟩
  · exact h.elim
theorem ao_ltL (hu : X.A.units + 64 < cLine) (hK : X.K = K := by rfl) : AOp B X (compareOp .Lt) (rLtLi K) aLtL := by subst hK; exact ⟨op_ltLi hu, sim_ltL⟩
/-! ### s[::-1] of a text -/
def revS (z : Str) : Str := ⟨((PySem.Builtin.Str.strSliceIndices none none (-1) z.length).filterMap (z.cps[·]?)).toArray⟩
theorem revS_toList (z : Str) : (revS z).cps.toList = z.cps.toList.reverse := by
  unfold revS
  rw [List.toList_toArray, PyProof.Rows.picked_rev, PyProof.Rows.filterMap_get]
  · rw [List.map_map]
    refine List.ext_getElem (by simp [Str.length]) fun i h1 h2 => ?_
    have hi : i < z.cps.size := by simpa [Str.length] using h1
    simp only [List.getElem_map, List.getElem_range, Function.comp, List.getElem_reverse, Array.getElem_toList, Array.length_toList]
    have hj : z.length - 1 - i < z.cps.size := by show z.cps.size - 1 - i < _; omega
    rw [Array.getD, dif_pos hj]
    rfl
  · intro i hi
    obtain ⟨k, hk, rfl⟩ := List.mem_map.mp hi
    have hk' : k < z.length := List.mem_range.mp hk
    show z.length - 1 - k < z.length
    omega
theorem revS_len (z : Str) : (revS z).length = z.length := by rw [← len_toList, revS_toList, List.length_reverse, len_toList]
def tRevS (te : TE) : TE := fun σ H Q => te σ H fun x H1 => ∃ z, x = .str z ∧ z.length ≤ sizeLine ∧ Q (.str (revS z)) H1
theorem pe_revS {e : Expr} {te : TE} {k : Nat} {p1 p2 p3 pos : Pos} (he : PE X e te) : PE X (.Subscript e (.Slice none none (some (.UnaryOp .USub (.Constant (.int 1) k p1) p2)) p3) pos) (tRevS te) := by
  refine ⟨fun pins s σ H Q I h => ?_⟩
  refine Subscript_ (thn (he.run pins s σ H _ I h) fun v s1 ⟨x, H1, I1, r1, q1⟩ => ?_)
  obtain ⟨z, ex, hz, q⟩ := q1
  subst ex
  obtain ⟨t, rfl⟩ := r1
  have hst : PO X (some (.UnaryOp .USub (.Constant (.int 1) k p1) p2)) (tPart (tUn (rU fun i => .int (-i)) (tC (.int 1)))) := po_some (pe_un un_neg pe_int)
  refine wpAny_Slice (thn (po_none.run pins s1 σ H1 (fun o H2 => o = none ∧ H2 = H1) I1 ⟨rfl, rfl⟩) fun vl s2 ⟨l, H2, I2, pl, el, e2⟩ => ?_)
  subst el e2
  refine thn (po_none.run pins s2 σ H2 (fun o H3 => o = none ∧ H3 = H2) I2 ⟨rfl, rfl⟩) fun vu s3 ⟨u, H3, I3, pu, eu, e3⟩ => ?_
  subst eu e3
  refine thn (hst.run pins s3 σ H3 (fun o H4 => o = some (-1) ∧ H4 = H3) I3 ⟨1, rfl, -1, rfl, rfl, rfl⟩) fun vs s4 ⟨o, H4, I4, ps, eo, e4⟩ => ?_
  subst eo e4
  have I5 : Inv X pins σ H4 { s4 with heap := s4.heap.push { cls := .type "slice", data := .fields #[vl, vu, vs] } } := I4.kept (t' := s4.toks) fun b ob q => Heap.get?_push_of_some _ q
  obtain ⟨l, rfl, e1⟩ := IsPart.raw pl
  obtain ⟨u, rfl, e2⟩ := IsPart.raw pu
  obtain ⟨w, rfl, e3⟩ := IsPart.raw ps
  show wpAny (model X.prog X.w) X.A (subscriptTail e (.Slice none none (some (.UnaryOp .USub (.Constant (.int 1) k p1) p2)) p3) (.str z t) (.ref s4.heap.objs.size)) (EP X pins σ Q) X.xe { s4 with heap := s4.heap.push { cls := .type "slice", data := .fields #[partValue l, partValue u, partValue w] } }
  refine tail_any (ops := [.str z t, .ref s4.heap.objs.size]) (typeIs_str _ _ _) (PySem.F.slot_str_getitem.lookup) ?_ (by with_unfolding_all rfl)
  refine wpAny_getItem_str_slice (l := l) (u := u) (st := w) ⟨_, Heap.get?_push_size _ rfl, rfl, rfl⟩ ?_ ?_
  · rw [e3]; rfl
  · have hl : (revS z).length ≤ sizeLine := by rw [revS_len]; exact hz
    unfold sliceMade slicePicked
    rw [e1, e2, e3]
    rw [if_neg (by simp)]
    exact ⟨hl, .str _, H4, I5.tok _, ⟨_, rfl⟩, q⟩
def aRevS : D → AH → (D → AH → Prop) → Prop := fun x C P => match x with | .str z => z.length ≤ sizeLine ∧ P (.str (revS z)) C | _ => False
theorem ae_revS {pos : Pos} {e : Expr} {te : TE} {a : AE'} {k : Nat} {p1 p2 p3 : Pos} (he : AE B X e te a) : AE B X (.Subscript e (.Slice none none (some (.UnaryOp .USub (.Constant (.int 1) k p1) p2)) p3) pos) (tRevS te) (aUn aRevS a) :=
  ⟨pe_revS he.pe, by
  intro σ s F C R H Q P hs hS h0 k
  refine he.sim σ s F C R H _ _ hs hS h0 fun x v F1 C1 H1 e1 S1 r1 h1 => ?_
  unfold aRevS at h1
  split at h1
  · cases r1
    exact ⟨_, rfl, h1.1, k _ _ F1 C1 H1 e1 S1 (.str _) h1.2⟩
  · exact h1.elim⟩
end
end AL
namespace HT
open PySem PySem.Spec PyProof.Rows L2
section
variable {prog : Program} {w : World} {A : Around} {E : Value → Shared → Prop} {s : Shared}
theorem sliceApplied_rev {sl : Addr} {vl vu vs : Value} {n : Nat} {Q : Int × Int × Nat → Shared → Prop} (hs : s.heap.IsSliceOf sl vl vu vs) (pl : IsPart vl none) (pu : IsPart vu none) (ps : IsPart vs (some (-1)))
    (h : Q ((n : Int) - 1, -1, n) s) : wpAny (model prog w) A (Builtin.Slice.sliceApplied (.ref sl) (pure (n : Int))) Q E s := by
  obtain ⟨os, hos, hcs, hds⟩ := id hs
  unfold Builtin.Slice.sliceApplied Builtin.Slice.sliceFields
  refine wpAny_bind (wpAny_bind (wpAny_field hos hds (x := vl) rfl (wpAny_bind (wpAny_field hos hds (x := vu) rfl (wpAny_bind (wpAny_field hos hds (x := vs) rfl (wpAny_pure ?_)))))))
  refine wpAny_bind (slicePart_ ps ?_)
  show wpAny _ _ (if ((-1 : Int) == 0) = true then _ else _) _ _ s
  rw [if_neg (by decide)]
  refine wpAny_bind (slicePart_ pl (wpAny_bind (slicePart_ pu (wpAny_bind (wpAny_pure ?_)))))
  show wpAny _ _ (match Builtin.Slice.sliceAdjust none none (-1) (n : Int) with | (lo, hi) => pure (lo, (-1 : Int), Builtin.Slice.slicePlaces lo hi (-1))) _ _ s
  have e : Builtin.Slice.sliceAdjust none none (-1) (n : Int) = ((n : Int) - 1, -1) := by
    unfold Builtin.Slice.sliceAdjust
    simp
  have e2 : Builtin.Slice.slicePlaces ((n : Int) - 1) (-1) (-1) = n := by
    unfold Builtin.Slice.slicePlaces
    simp
    omega
  rw [e]
  show wpAny _ _ (pure ((n : Int) - 1, (-1 : Int), Builtin.Slice.slicePlaces ((n : Int) - 1) (-1) (-1))) _ _ s
  rw [e2]
  exact wpAny_pure h
theorem fmap_some {α β : Type} {f : α → Option β} {g : α → β} : ∀ {l : List α}, (∀ m ∈ l, f m = some (g m)) → l.filterMap f = l.map g
  | [], _ => rfl
  | m :: l, h => by
    rw [List.filterMap_cons, h m (List.mem_cons_self ..), List.map_cons, fmap_some fun k hk => h k (List.mem_cons_of_mem _ hk)]
theorem pick_rev (xs : Array Value) : ((List.range xs.size).filterMap fun (m : Nat) => xs[(((xs.size : Nat) : Int) - 1 + (m : Int) * (-1)).toNat]?).toArray = xs.toList.reverse.toArray := by
  congr 1
  have e : ∀ m ∈ List.range xs.size, xs[(((xs.size : Nat) : Int) - 1 + (m : Int) * (-1)).toNat]? = some (xs.toList.reverse.getD m .none) := by
    intro m hm
    have hm' : m < xs.size := List.mem_range.mp hm
    have e1 : (((xs.size : Nat) : Int) - 1 + (m : Int) * (-1)).toNat = xs.size - 1 - m := by omega
    have h2 : xs.size - 1 - m < xs.size := by omega
    have h3 : m < xs.toList.reverse.length := by rw [List.length_reverse, Array.length_toList]; exact hm'
    rw [e1, Array.getElem?_eq_getElem h2, List.getD, List.getElem?_eq_getElem h3]
    simp
  rw [fmap_some e]
  refine List.ext_getElem (by simp) fun i h1 h2 => ?_
  simp [List.getD, List.getElem?_eq_getElem h2]
theorem getItem_tuple_rev {t sl : Addr} {items : Array Value} {vl vu vs : Value} {Q : Value → Shared → Prop} (ht : IsTup s.heap t items) (hs : s.heap.IsSliceOf sl vl vu vs) (pl : IsPart vl none) (pu : IsPart vu none) (ps : IsPart vs (some (-1)))
    (h : Q (.ref s.heap.objs.size) { s with heap := s.heap.push { cls := .type "tuple", data := .seq items.toList.reverse.toArray } }) (hsz : items.size ≤ sizeLine) : wpAny (model prog w) A (getItem (.ref t) (.ref sl)) Q E s := by
  have htake : sizeOk (.seq items.toList.reverse.toArray) := by
    show items.toList.reverse.toArray.size ≤ sizeLine
    rw [List.size_toArray, List.length_reverse, Array.length_toList]
    exact hsz
  obtain ⟨os, hos, hcs, hds⟩ := id hs
  have hTs : s.TypeIs (.ref sl) "slice" := ⟨os, hos, hcs⟩
  unfold getItem
  try with_reducible refine wpAny_holding ?_
  first | refine wpAny_bind (wpAny_pure ?_) | skip
  refine wpAny_bind (wpAny_sequenceKey ht.typeIs (by decide) ?_)
  refine wpAny_bind (wpAny_callSpecial?_slot (name := Str.ofString "__getitem__") ht.typeIs PyProof.Rows.slot_tuple_getitem
    (wpAny_call_entry PyProof.Rows.slot_tuple_getitem ht.typeIs entry_tuple_getitem ?_ (args_tuple_getitem _ _)))
  show wpAny _ _ (Builtin.Tuple.tupleItemsOf (.ref t) >>= _) _ _ s
  refine wpAny_bind (tupleItemsOf_ ht ?_)
  refine wpAny_bind (wpAny_typeOf hTs ?_)
  rw [if_pos (by decide)]
  refine wpAny_bind (sliceApplied_rev hs pl pu ps ?_)
  have hno : ¬ ((((items.size : Nat) : Int) - 1 == 0 && (-1 : Int) == 1 && items.size == items.size) = true) := by
    intro q
    rw [Bool.and_eq_true, Bool.and_eq_true] at q
    exact absurd q.1.2 (by decide)
  show wpAny _ _ (if (((items.size : Nat) : Int) - 1 == 0 && (-1 : Int) == 1 && items.size == items.size) = true then _ else _) _ _ s
  rw [if_neg hno, pick_rev]
  first
    | exact wpAny_bind (m := Builtin.Tuple.tupleExact _) (wpAny_newObj_type (wpAny_pure ⟨_, rfl, wpAny_pure h⟩) htake)
    | exact wpAny_bind (m := Builtin.Tuple.tupleExact _) (wpAny_newObj_type (wpAny_bind (wpAny_pure (wpAny_pure ⟨_, rfl, wpAny_pure h⟩))) htake)
    | exact wpAny_bind (wpAny_bind (m := Builtin.Tuple.tupleExact _) (wpAny_newObj_type (wpAny_pure (wpAny_pure ⟨_, rfl, wpAny_pure h⟩)) htake))
    | exact wpAny_bind (wpAny_bind (m := Builtin.Tuple.tupleExact _) (wpAny_newObj_type (wpAny_pure ⟨_, rfl, wpAny_pure h⟩) htake))
end
end HT
namespace AL
open PySem PySem.Spec PyProof.Rows L2
variable {B : Bs}
section
variable {X : Cx} {K : PySem.W.Frag}
/-- t[::-1] of a tuple -/
def tRevT (K : PySem.W.Frag) (te : TE) : TE := fun σ H Q => te σ H fun x H1 => ∃ a xs, x = .ref a ∧ SqT K H1 a xs ∧ ∀ p, H1 p = none → Q (.ref p) (upd H1 p (.tup xs.reverse))
theorem pe_revT {e : Expr} {te : TE} {k : Nat} {p1 p2 p3 pos : Pos} (he : PE X e te) : PE X (.Subscript e (.Slice none none (some (.UnaryOp .USub (.Constant (.int 1) k p1) p2)) p3) pos) (tRevT X.K te) := by
  refine ⟨fun pins s σ H Q I h => ?_⟩
  refine Subscript_ (thn (he.run pins s σ H _ I h) fun v s1 ⟨x, H1, I1, r1, q1⟩ => ?_)
  obtain ⟨a, xs, ex, hx, q⟩ := q1
  subst ex
  cases r1
  have hst : PO X (some (.UnaryOp .USub (.Constant (.int 1) k p1) p2)) (tPart (tUn (rU fun i => .int (-i)) (tC (.int 1)))) := po_some (pe_un un_neg pe_int)
  refine wpAny_Slice (thn (po_none.run pins s1 σ H1 (fun o H2 => o = none ∧ H2 = H1) I1 ⟨rfl, rfl⟩) fun vl s2 ⟨l, H2, I2, pl, el, e2⟩ => ?_)
  subst el e2
  refine thn (po_none.run pins s2 σ H2 (fun o H3 => o = none ∧ H3 = H2) I2 ⟨rfl, rfl⟩) fun vu s3 ⟨u, H3, I3, pu, eu, e3⟩ => ?_
  subst eu e3
  refine thn (hst.run pins s3 σ H3 (fun o H4 => o = some (-1) ∧ H4 = H3) I3 ⟨1, rfl, -1, rfl, rfl, rfl⟩) fun vs s4 ⟨o, H4, I4, ps, eo, e4⟩ => ?_
  subst eo e4
  have I5 : Inv X pins σ H4 { s4 with heap := s4.heap.push { cls := .type "slice", data := .fields #[vl, vu, vs] } } := I4.kept (t' := s4.toks) fun b ob q => Heap.get?_push_of_some _ q
  obtain ⟨its, r, ht, hz⟩ := I5.tuple hx
  have hlen := r.length
  show wpAny (model X.prog X.w) X.A (subscriptTail e (.Slice none none (some (.UnaryOp .USub (.Constant (.int 1) k p1) p2)) p3) (.ref a) (.ref s4.heap.objs.size)) (EP X pins σ Q) X.xe { s4 with heap := s4.heap.push { cls := .type "slice", data := .fields #[vl, vu, vs] } }
  refine tail_any (ops := [.ref a, .ref s4.heap.objs.size]) ht.typeIs (PyProof.Rows.slot_tuple_getitem.lookup) ?_ (by with_unfolding_all rfl)
  refine HT.getItem_tuple_rev ht (Heap.IsSliceOf.new _ vl vu vs) pl pu ps ?_ (by rw [List.size_toArray]; omega)
  refine ⟨.ref _, _, I5.laid (t' := s4.toks) (o := .tup xs.reverse) (fun b ob q => Heap.get?_push_of_some _ q) (Nat.le_refl _) ?_, rfl, q _ (I5.hok.fresh (Nat.le_refl _))⟩
  exact ⟨by rw [List.length_reverse]; exact hz, its.reverse, r.reverse, IsTup.new _ _⟩
def aRevT : D → AH → (D → AH → Prop) → Prop := fun x C P => match asT x with | some ds => P (.tup ds.reverse) C | none => False
theorem ae_revT {pos : Pos} {e : Expr} {te : TE} {a : AE'} {k : Nat} {p1 p2 p3 : Pos} (he : AE B X e te a) (hK : X.K = K := by rfl) : AE B X (.Subscript e (.Slice none none (some (.UnaryOp .USub (.Constant (.int 1) k p1) p2)) p3) pos) (tRevT K te) (aUn aRevT a) := by
  subst hK
  exact ⟨pe_revT he.pe, by
  intro σ s F C R H Q P hs hS h0 k
  refine he.sim σ s F C R H _ _ hs hS h0 fun x v F1 C1 H1 e1 S1 r1 h1 => ?_
  unfold aRevT at h1
  split at h1
  · rename_i ds q
    obtain ⟨a, xs, e2, h2, h3⟩ := asT_ok S1 r1 q
    refine ⟨a, xs, e2, SqT.of h2, fun p hp => ?_⟩
    have e := Ex.new (o := .tup xs.reverse) (S1.freeF hp)
    exact k _ _ _ C1 _ (e1.trans e) (S1.newF hp _) (.tup upd_same (h3.reverse.mono e)) h1
  · exact h1.elim⟩
/-! one step each -/
variable {C : AH} {P : D → AH → Prop}
theorem g_revS {z : Str} (h1 : z.length ≤ sizeLine) (h : P (.str (revS z)) C) : aRevS (.str z) C P := ⟨h1, h⟩
theorem g_revT {ds : List D} (h : P (.tup ds.reverse) C) : aRevT (.tup ds) C P := h
theorem g_ltL {xs ys : List D} {ns ms : List Int} (h1 : intsD xs = some ns) (h2 : intsD ys = some ms) (h : P (.bl (PySem.W.listLt ns ms)) C) : aLtL (.lst xs) (.lst ys) C P := by
  show (match (some xs).bind intsD, (some ys).bind intsD with | some ns, some ms => P (.bl (PySem.W.listLt ns ms)) C | _, _ => False)
  rw [Option.bind_some, Option.bind_some, h1, h2]
  exact h
/-! a.index(b) of texts -/
def aSindex : D → ASp := fun x ds C P => match x, ds with
  | .str a, [.str b] => (match Builtin.Str.occurrences a b 0 a.length 1 with | i :: _ => P (.int (i : Nat)) C | [] => False)
  | _, _ => False
theorem am_sindex : AMt B X "str.index" (fun x xs H Q => ∃ a b i rest, x = .str a ∧ xs = [.str b] ∧ Builtin.Str.occurrences a b 0 a.length 1 = i :: rest ∧ Q (.int (i : Nat)) H) aSindex := ⟨fun pins s σ H x xs v us Q I r1 r2 h => mt_sindex pins s σ H x xs v us Q I r1 r2 h, by
  intro v d vs ds F C R H Q P hS r1 r2 h k
  unfold aSindex at h
  split at h
  · cases r1
    cases r2 with
    | cons r2 r3 =>
      cases r3
      cases r2
      split at h
      · rename_i i rest e
        exact ⟨_, _, i, rest, rfl, rfl, e, k _ _ F C H (Ex.refl F) hS (.int _) h⟩
      · exact h.elim
  · exact h.elim⟩
end
end AL

namespace AL
open PySem PySem.Spec PyProof.Rows L2
variable {B : Bs}
section
variable {X : Cx} {K : PySem.W.Frag}
/-! ### xs.reverse(), xs.clear() -/
def aReverse : D → ASp := fun x ds C P => match x, ds with
  | .ce p, [] => (match C p with | some (.lst us) => P .non (put C p (.lst us.reverse)) | _ => False)
  | _, _ => False
def aClear : D → ASp := fun x ds C P => match x, ds with
  | .ce p, [] => (match C p with | some (.lst _) => P .non (put C p (.lst [])) | _ => False)
  | _, _ => False
theorem am_reverse : AMt B X "list.reverse" rReverse aReverse := ⟨fun pins s σ H x xs v us Q I r1 r2 h => mt_reverse pins s σ H x xs v us Q I r1 r2 h, by
  intro v d vs ds F C R H Q P hS r1 r2 h k
  unfold aReverse at h
  split at h
  · cases r1
    cases r2
    split at h
    · rename_i us e
      obtain ⟨xs, h1, h2⟩ := cellL hS e
      exact ⟨_, xs, rfl, rfl, h1, k _ _ F _ _ (Ex.refl F) (hS.mutC e (.lst h2.reverse)) .non h⟩
    · exact h.elim
  · exact h.elim⟩
theorem am_clear : AMt B X "list.clear" rClear aClear := ⟨fun pins s σ H x xs v us Q I r1 r2 h => mt_clear pins s σ H x xs v us Q I r1 r2 h, by
  intro v d vs ds F C R H Q P hS r1 r2 h k
  unfold aClear at h
  split at h
  · cases r1
    cases r2
    split at h
    · rename_i us e
      obtain ⟨xs, h1, h2⟩ := cellL hS e
      exact ⟨_, xs, rfl, rfl, h1, k _ _ F _ _ (Ex.refl F) (hS.mutC e (.lst .nil)) .non h⟩
    · exact h.elim
  · exact h.elim⟩
theorem g_reverse {C : AH} {P : D → AH → Prop} {p : Addr} {us : List D} (h1 : C p = some (.lst us)) (h : P .non (put C p (.lst us.reverse))) : aReverse (.ce p) [] C P := by
  show (match C p with | some (.lst us) => P .non (put C p (.lst us.reverse)) | _ => False)
  rw [h1]; exact h
theorem g_clear {C : AH} {P : D → AH → Prop} {p : Addr} {us : List D} (h1 : C p = some (.lst us)) (h : P .non (put C p (.lst []))) : aClear (.ce p) [] C P := by
  show (match C p with | some (.lst us) => P .non (put C p (.lst [])) | _ => False)
  rw [h1]; exact h
end
end AL

namespace AL
open PySem PySem.Spec PyProof.Rows L2
variable {B : Bs}
section
variable {X : Cx} {pos : Pos} {K : PySem.W.Frag}
/-! ### isinstance(e, (T1, T2)) -/
def aIsi2 (T U : String) (a : AE') : AE' := fun s C P => a s C fun x C1 => match kindOf C1 x with | some t => P (.bl (isT T t || isT U t)) C1 | none => False
theorem ae_isi2 {e : Expr} {te : TE} {a : AE'} {T U : Str} {Tn Un : String} {p p2 p3 p4 : Pos} {k4 : Nat} (h : AE B X e te a) (hm : X.mg "isinstance" = none) (hmT : X.mg T = none) (hmU : X.mg U = none) (hv : bootBuiltins T = some (.type Tn)) (hvU : bootBuiltins U = some (.type Un)) (hT : Tn ∈ ["bool", "int", "str", "list", "tuple", "dict"] := by decide) (hU : Un ∈ ["bool", "int", "str", "list", "tuple", "dict"] := by decide)
    (hg : Gl X "isinstance" := by rfl) (hgT : Gl X T := by rfl) (hgU : Gl X U := by rfl) (hb : bootBuiltins "isinstance" = some (.builtin "isinstance") := by decide +kernel) (hnT : T ≠ "__name__" := by decide) (hdT : (T == ("__debug__" : Str)) = false := by decide) (hnU : U ≠ "__name__" := by decide) (hdU : (U == ("__debug__" : Str)) = false := by decide)
    (he : starEach [e, .Tuple [.Name T p2, .Name U p3] k4 p4] X.env = (false, eval e X.env) :: starEach [.Tuple [.Name T p2, .Name U p3] k4 p4] X.env := by rfl) (hpl : (backTo pos (starEach [.Tuple [.Name T p2, .Name U p3] k4 p4] X.env)).any (·.1) = false := by rfl) (h2 : starEach [.Tuple [.Name T p2, .Name U p3] k4 p4] X.env = (false, eval (.Tuple [.Name T p2, .Name U p3] k4 p4) X.env) :: starEach [] X.env := by rfl)
    (h3 : starEach [.Name T p2, .Name U p3] X.env = (false, eval (.Name T p2) X.env) :: starEach [.Name U p3] X.env := by rfl) (h4 : starEach [.Name U p3] X.env = (false, eval (.Name U p3) X.env) :: starEach [] X.env := by rfl) (hK : X.K = K := by rfl) :
    AE B X (.Call (.Name "isinstance" p) [e, .Tuple [.Name T p2, .Name U p3] k4 p4] [] pos) (tCB (rIsiT K) (tCons te (tCons (tTup (tCons (tC (.ty Tn)) (tCons (tC (.ty Un)) tNil))) tNil))) (aIsi2 Tn Un a) := by
  subst hK
  exact ⟨pe_callB call_isiT hg hm hb (pa_cons h.pe (pa_cons (pe_tup (pa_cons (pe_bltn hgT hmT hv rfl hnT hdT) (pa_cons (pe_bltn hgU hmU hvU rfl hnU hdU) pa_nil h4) h3)) pa_nil h2) he) (by decide) (by decide) he hpl, by
    intro σ s F C R H Q P hs hS h0 k
    refine h.sim σ s F C R H _ _ hs hS h0 fun x v F1 C1 H1 e1 S1 r1 h1 => ?_
    split at h1
    · rename_i t q
      refine ⟨by show 2 ≤ sizeLine; rw [sizeLine_eq]; omega, fun tp hp => ?_⟩
      have eN := Ex.new (o := .tup [.ty Tn, .ty Un]) (S1.freeF hp)
      have S2 := S1.newF hp (.tup [.ty Tn, .ty Un])
      refine ⟨v, tp, [.ty Tn, .ty Un], .type t, [.type Tn, .type Un], isT Tn t || isT Un t, rfl, upd_same, .cons (.ty Tn) (.cons (.ty Un) .nil), kindOf_ok S2 (r1.mono eN) q, ?_, k _ _ _ _ _ (e1.trans eN) S2 (.bl _) h1⟩
      have k1 := kit_ty (K := X.K) (isT_ok t (kindOf_mem q) Tn hT)
      have k2 := kit_ty (K := X.K) (isT_ok t (kindOf_mem q) Un hU)
      refine kitAny_cons k1 (fun e3 => ?_) (fun e3 => ?_)
      · rw [e3]
        refine kitAny_cons k2 (fun e4 => ?_) (fun e4 => ?_)
        · rw [e4]; rfl
        · rw [e4]; rfl
      · rw [e3]; rfl
    · exact h1.elim⟩
end
section
variable {s : ASt} {C : AH} {P : D → AH → Prop} {e : AE'}
def kIsi2 (T U : String) (P : D → AH → Prop) : D → AH → Prop := fun x C1 => match kindOf C1 x with | some t => P (.bl (isT T t || isT U t)) C1 | none => False
theorem g_isi2 {T U : String} (h : e s C (kIsi2 T U P)) : aIsi2 T U e s C P := h
theorem g_kIsi2 {T U t : String} {x : D} (h1 : kindOf C x = some t) (h : P (.bl (isT T t || isT U t)) C) : kIsi2 T U P x C := by
  unfold kIsi2
  rw [h1]
  exact h
/-- zip of anything that reads as lists, nothing changing -/
theorem g_kIZg {PI : List D → (AH → Prop) → AH → Prop} {x y : D} {us ws : List D} (h1 : asLr C x = some us) (h2 : asLr C y = some ws) (h : PI (zipD us ws) (fun C' => asLr C' x = some us ∧ asLr C' y = some ws) C) : kIZ PI [x, y] C := by
  unfold kIZ
  simp only [h1, h2]
  exact h
end
end AL
/-! ### what stays -/
namespace AL
open PySem
def Keep (C C' : AH) : Prop := ∀ r c, C r = some c → C' r = some c
theorem Keep.refl (C : AH) : Keep C C := fun _ _ h => h
theorem Keep.trans {C C1 C2 : AH} (a : Keep C C1) (b : Keep C1 C2) : Keep C C2 := fun r c h => b r c (a r c h)
theorem Keep.put {C C' : AH} {q : Addr} {c : Cell} (h : Keep C C') (hq : C q = none) : Keep C (AL.put C' q c) := fun r d e => by rw [put_ne (ne_cell e hq)]; exact h r d e
theorem Keep.del {C C' : AH} {q : Addr} (h : Keep C C') (hq : C q = none) : Keep C (AL.del C' q) := fun r d e => by
  unfold AL.del
  rw [if_neg (ne_cell e hq)]
  exact h r d e
theorem Keep.none {C C' : AH} {q : Addr} (h : Keep C C') (hq : C' q = Option.none) : C q = Option.none := by
  cases e : C q with
  | none => rfl
  | some c => rw [h q c e] at hq; cases hq
/-- all but p -/
def Oth (p : Addr) (C C' : AH) : Prop := ∀ r c, r ≠ p → C r = some c → C' r = some c
theorem Oth.refl (p : Addr) (C : AH) : Oth p C C := fun _ _ _ h => h
theorem Oth.trans {p : Addr} {C C1 C2 : AH} (a : Oth p C C1) (b : Oth p C1 C2) : Oth p C C2 := fun r c n h => b r c n (a r c n h)
theorem Oth.of {p : Addr} {C C' : AH} (a : Keep C C') : Oth p C C' := fun r c _ h => a r c h
theorem Oth.pen {p : Addr} {C C' : AH} {c : Cell} (h : Oth p C C') : Oth p C (AL.put C' p c) := fun r d n e => by rw [put_ne n]; exact h r d n e
theorem Oth.put {p q : Addr} {C C' : AH} {c : Cell} (h : Oth p C C') (hq : C q = none) : Oth p C (AL.put C' q c) := fun r d n e => by rw [put_ne (ne_cell e hq)]; exact h r d n e
theorem Oth.del {p q : Addr} {C C' : AH} (h : Oth p C C') (hq : C q = none) : Oth p C (AL.del C' q) := fun r d n e => by
  unfold AL.del
  rw [if_neg (ne_cell e hq)]
  exact h r d n e
theorem Oth.none {p q : Addr} {C C' : AH} (h : Oth p C C') (hn : q ≠ p) (hq : C' q = Option.none) : C q = Option.none := by
  cases e : C q with
  | none => rfl
  | some c => rw [h q c hn e] at hq; cases hq
theorem atI_last {xs : List D} {i : Nat} {x : D} (hl : xs.length = i + 1) (h : xs[i]? = some x) : L2.atI xs (-1) = some x := by
  unfold L2.atI L2.ixN
  rw [hl, if_neg (by omega), if_pos (by omega)]
  show xs[(-1 + ((i + 1 : Nat) : Int)).toNat]? = _
  rw [show (-1 + ((i + 1 : Nat) : Int)).toNat = i by omega]
  exact h
theorem zipD_inv {xs ys : List D} {i : Nat} {d : D} (h : (zipD xs ys)[i]? = some d) : ∃ x y, xs[i]? = some x ∧ ys[i]? = some y ∧ d = .tup [x, y] := by
  unfold zipD at h
  rw [List.getElem?_map] at h
  cases e : (xs.zip ys)[i]? with
  | none => rw [e] at h; cases h
  | some p =>
    rw [e] at h
    cases h
    obtain ⟨h1, h2⟩ := List.getElem?_zip_eq_some.mp (show (xs.zip ys)[i]? = some (p.1, p.2) from e)
    exact ⟨p.1, p.2, h1, h2, rfl⟩
theorem lenG {C : AH} {P : D → AH → Prop} {g : D} {gs : List D} (h : asLr C g = some gs) (k : P (.int gs.length) C) : aLen [g] C P := by
  cases g with
  | scr ns =>
    cases h
    rw [List.length_map] at k
    exact g_lenR k
  | lst xs => cases h; exact g_lenL k
  | ce p =>
    have h : (match C p with | some (.lst us) => some us | _ => Option.none) = some gs := h
    cases e : C p with
    | none => rw [e] at h; cases h
    | some c =>
      rw [e] at h
      cases c with
      | lst us => cases h; exact g_lenC e k
      | _ => cases h
  | _ => cases h
end AL

namespace AL
open PySem PySem.Spec PyProof.Rows L2
/-! ### the end of a walk whose defs are known where no guard stands -/
section
variable {P : Program} {w : World} {K : PySem.W.Frag} {mg mb : Str → Option Value} {k : Nat} {fa a : Addr} {fd : FuncData} {x : Str} {sp : Sp} {s₁ : Shared} {vs : List Value} {ns : List Int}
theorem core_G (hns : s₁.heap.Ns mainGlobals mg) (hb : s₁.heap.Ns builtinsNs mb) (hbb : ∀ x : Str, x ≠ "__name__" → mb x = bootBuiltins x) (hlim : s₁.heap.NoLimit) (hg : s₁.gens = #[]) (KX : K.In s₁.heap)
    (ha : s₁.heap.get? a = some { cls := .type "list", data := .seq vs.toArray }) (hr : Room k callerA)
    (F : ∀ base : Heap, K.In base → base.Ns mainGlobals mg → FnG P w K mg base k fa fd [x] sp) (hbind : ∀ (s : Shared) (u : Value), BindsTo s fd ⟨[u], []⟩ [(x, u)])
    {H : Hp} (hO : Only H) (hsp : sp [.ref a] H (fun v _ => v = .bl true) fun _ _ _ => False) (hok : HOk P w H s₁.heap) (hA : ∀ b, H b ≠ none → b = a) (hK : H a ≠ none → K.lookup a = none) :
    codeAny (model P w) callerA (.call (.ref fa) ⟨[.ref a], []⟩) (fun r s' => r = .ok (.ret (.bool true)) ∧ OldK s₁.heap s'.heap ∧ s'.os = s₁.os ∧ AllBare s'.gens) s₁ := by
  have free : ∀ {b : Addr} {o : Obj}, s₁.heap.get? b = some o → (b = a → False) → H b = none := fun {b o} e n => by
    cases q : H b with
    | none => rfl
    | some u => exact (n (hA b (by rw [q]; simp))).elim
  have dictFree : ∀ {b : Addr} {m : Str → Option Value}, s₁.heap.Ns b m → (hidT s₁.heap H).Ns b m := by
    rintro b m ⟨o, es, ep, e, d, r⟩
    refine ⟨o, es, ep, hidT_get e (free e fun z => ?_), d, r⟩
    subst z
    rw [ha] at e
    cases e
    cases (show Data.seq vs.toArray _ = Data.dict es ep from d)
  have kin : K.In (hidT s₁.heap H) := fun b o e => hidT_get (KX b o e) (by
    cases q : H b with
    | none => rfl
    | some u =>
      have z : b = a := hA b (by rw [q]; simp)
      subst z
      rw [hK (by rw [q]; simp)] at e
      cases e)
  obtain ⟨mc, l1, l2⟩ := hlim
  have md : Mod K mg (hidT s₁.heap H) := ⟨kin, dictFree hns, ⟨mb, dictFree hb, hbb⟩, ⟨mc, dictFree l1, l2⟩⟩
  have e0 : Env0 P w K mg (hidT s₁.heap H) callerA [] s₁ H :=
    { frames := rfl, mod := md, bs := fun b o e => of_hidT e, bsz := Nat.le_of_eq (hidT_size _ _), funs := trivial, frf := fun b z => (by cases z), hok := hok, bare := .of_eq hg }
  refine codeAny_mono ((F _ kin (dictFree hns)).run callerA [] s₁ H ⟨[.ref a], []⟩ [.ref a] [.ref a] _ _ hr rfl e0 (hbind s₁ (.ref a)) (.cons rfl .nil) hsp) fun res s2 z => ?_
  match res, z with
  | .error e, z =>
    obtain ⟨_, _, _, _, _, _, _, _, _, _, _, _, z⟩ := z
    exact z.elim
  | .ok .next, z => exact False.elim z
  | .ok .brk, z => exact False.elim z
  | .ok .cont, z => exact False.elim z
  | .ok (.ret u), z =>
    obtain ⟨v, H2, os, bare, un, hok2, r, q⟩ := z
    cases (show v = .bl true from q)
    obtain rfl : u = Value.bool true := r
    refine ⟨rfl, OldK.of_keep fun b o e => ?_, os, bare⟩
    rcases hO b with z | ⟨ob, xs, z⟩
    · exact un.keep b o e z (by intro y; cases y) (by simp)
    · have e1 := (hok b _ z).1
      have e2 := (hok2 b _ (un.frzs b ob _ z)).1
      rw [e] at e1
      cases e1
      exact e2
theorem law_G (KX : K.In s₁.heap) (hns : s₁.heap.Ns mainGlobals mg) (hb : s₁.heap.Ns builtinsNs mb) (hbb : ∀ x : Str, x ≠ "__name__" → mb x = bootBuiltins x) (hlim : s₁.heap.NoLimit) (hg : s₁.gens = #[])
    (ha : s₁.heap.get? a = some { cls := .type "list", data := .seq vs.toArray }) (hi : IntsAre vs ns) (hl : ns.length ≤ sizeLine) (hr : Room k callerA)
    (F : ∀ base : Heap, K.In base → base.Ns mainGlobals mg → FnG P w K mg base k fa fd [x] sp) (hbind : ∀ (s : Shared) (u : Value), BindsTo s fd ⟨[u], []⟩ [(x, u)])
    (hsp : ∀ H : Hp, Only H → SqL K H a (ns.map V.int) → sp [.ref a] H (fun v _ => v = .bl true) fun _ _ _ => False) :
    codeAny (model P w) callerA (.call (.ref fa) ⟨[.ref a], []⟩) (fun r s' => r = .ok (.ret (.bool true)) ∧ OldK s₁.heap s'.heap ∧ s'.os = s₁.os ∧ AllBare s'.gens) s₁ := by
  have go := fun {H : Hp} (hO : Only H) (hS : SqL K H a (ns.map V.int)) => core_G hns hb hbb hlim hg KX ha hr F hbind hO (hsp H hO hS)
  cases hk : K.lookup a with
  | some o =>
    have e := KX a o hk
    rw [ha] at e
    cases e
    refine go (H := fun _ => none) (fun _ => .inl rfl) (.inr ⟨_, vs.toArray, _, hk, rfl, rfl, rfl, ?_, ?_⟩) (fun b u z => ?_) (fun b z => (z rfl).elim) fun z => (z rfl).elim
    · rw [List.size_toArray, hi.length]; exact hl
    · simpa using vals_ints hi
    · cases (show (none : Option HO) = some u from z)
  | none =>
    let oL : Obj := { cls := .type "list", data := .seq vs.toArray }
    let H0 : Hp := fun b => if b = a then some (.frz oL (.lst (ns.map V.int))) else none
    have at_a : H0 a = some (.frz oL (.lst (ns.map V.int))) := if_pos rfl
    have off : ∀ b, b ≠ a → H0 b = none := fun b n => if_neg n
    refine go (H := H0) (fun b => ?_) (.inl (.inr ⟨oL, at_a⟩)) (fun b u z => ?_) (fun b z => ?_) fun _ => hk
    · by_cases n : b = a
      · rw [n]; exact .inr ⟨_, _, at_a⟩
      · exact .inl (off b n)
    · by_cases n : b = a
      · subst n
        rw [at_a] at z
        cases z
        exact ⟨ha, by rw [List.length_map]; exact hl, vs, _, vals_ints hi, ha⟩
      · rw [off b n] at z; cases z
    · by_cases n : b = a
      · exact n
      · exact (z (off b n)).elim
end
theorem walk_G {l : PySem.W.OpenLaw} {n k : Nat} {q : Program} {loose : List Str} {XP : (Str → Option Value) → Heap → Prop} {YP : World → Heap → Prop} {d : DefRec} {K : Params → PySem.W.Frag} {sp : World → (Str → Option Value) → Sp} {x : Str}
    (hn : l.most = some n) (hn2 : n ≤ sizeLine) (hdf : d.params.defaults = []) (hr : Room k callerA) (hY : ∀ (w : World) (h : Heap), YP w h → (K w.params).In h)
    (F : ∀ (w : World) (mg : Str → Option Value) (fa : Addr) (h : Heap), (K w.params).In h → h.Ns mainGlobals mg → mg d.name = some (.ref fa) →
      ∃ fd : FuncData, (∀ (s : Shared) (u : Value), BindsTo s fd ⟨[u], []⟩ [(x, u)]) ∧ ∀ base : Heap, (K w.params).In base → base.Ns mainGlobals mg → FnG l.prog w (K w.params) mg base k fa fd [x] (sp w mg))
    (hsp : ∀ (w : World) (mg : Str → Option Value) (H : Hp) (a : Addr) (ns : List Int), ns.length ≤ n → Only H → SqL (K w.params) H a (ns.map V.int) → sp w mg [.ref a] H (fun v _ => v = .bl true) fun _ _ _ => False) :
    PySem.W.WalkO q loose XP YP l.row.toRowW d [] (fun f vs => PySem.call f vs) :=
  Att.attach_call hn hdf fun w s₀ s₁ mg mb fa o pm cd doc a vs ns G Y ho hd hcd hmg hobj hints hlen hg => by
    obtain ⟨fd, hb, hF⟩ := F w mg fa _ (hY w _ Y) G.T.g hmg
    exact law_G (hY w _ Y) G.T.g G.T.b G.T.builtins G.T.nolimit hg hobj hints (Nat.le_trans hlen hn2) hr hF hb fun H hO hS => hsp w mg H a ns hlen hO hS
end AL

namespace AL
open PySem PySem.Spec PyProof.Rows L2
variable {B : Bs}
section
variable {X : Cx} {K : PySem.W.Frag}
theorem u200 {k : Nat} {A : Around} (r : Room k A) : A.units + 200 < cLine := by
  have := r.un
  omega
/-! ### repr -/
def rRep (K : PySem.W.Frag) : List V → Hp → VK → Prop := fun xs H Q => ∃ x d, xs = [x] ∧ Dp K H x d ∧ d.showable = true ∧ d.hasDict = false ∧ d.depth ≤ 64 ∧ d.shown.length ≤ sizeLine ∧ Q (.str d.shown) H
theorem call_rep (hg : X.A.guards = some []) (hu : X.A.units + 200 < cLine) : CallR X (.builtin "repr") (rRep X.K) := by
  intro pins s σ H xs us Q I r h
  obtain ⟨x, d, rfl, hd, h1, h2, h3, h4, q⟩ := h
  obtain ⟨u, rfl, r1⟩ := vals1 r
  obtain ⟨as, rd⟩ := Dp.reads I d x u hd r1
  have fin : ∀ (tk : Nat) (t : Tok), EP X pins σ Q (.str d.shown t) { s with toks := tk } := fun tk t => ⟨.str _, H, I.tok _, ⟨t, rfl⟩, q⟩
  cases rd with
  | none => exact PySem.call_repr_gives (PySem.typeIs_none s) F.slot_NoneType_repr F.entry_NoneType_repr (F.args_NoneType_repr_1 _) gives_none_repr (by simpa [PyData.shown] using fin _ _) rfl (by decide)
  | bool b => exact PySem.call_repr_gives (PySem.typeIs_bool s b) F.slot_bool_repr F.entry_bool_repr (F.args_bool_repr_1 _) (gives_bool_repr b) (by simpa [PyData.shown] using fin _ _) rfl (by cases b <;> decide)
  | int i t => exact PySem.P.repr_of_int (by simpa [PyData.showable] using h1) (by simpa [PyData.shown] using fin _ _)
  | str z t => exact PySem.call_repr_gives (PySem.typeIs_str s z t) F.slot_str_repr F.entry_str_repr (F.args_str_repr_1 _) (gives_str_repr z t) (by simpa [PyData.shown] using fin _ _) rfl (by simpa [PyData.shown] using h4)
  | list a b c e => exact repr_of_reads' (.list a b c e) h1 (PyData.noDict_hsm h2) hg (by omega) (fun _ _ e => e) (fun h' u tk k => ⟨.str _, H, (I.kept (t' := tk) k), ⟨u, rfl⟩, q⟩) h4
  | tuple a b c e => exact repr_of_reads' (.tuple a b c e) h1 (PyData.noDict_hsm h2) hg (by omega) (fun _ _ e => e) (fun h' u tk k => ⟨.str _, H, (I.kept (t' := tk) k), ⟨u, rfl⟩, q⟩) h4
  | dict a b c e f => simp [PyData.hasDict] at h2
def aReprC : ASp := fun ds C P => match ds with
  | [d] => (match pdC C d with | some x => x.showable = true ∧ x.hasDict = false ∧ x.depth ≤ 64 ∧ x.shown.length ≤ sizeLine ∧ P (.str x.shown) C | none => False)
  | _ => False
theorem ac_reprC (hg : X.A.guards = some []) (hu : X.A.units + 200 < cLine) (hK : X.K = K := by rfl) : ACa B X (.builtin "repr") (rRep K) aReprC := by
  subst hK
  exact ⟨call_rep hg hu, by
  intro vs ds F C R H Q P hS r h k
  unfold aReprC at h
  split at h
  · cases r with
    | cons r1 r2 =>
      cases r2
      split at h
      · rename_i x e
        exact ⟨_, x, rfl, pdC_ok hS r1 e, h.1, h.2.1, h.2.2.1, h.2.2.2.1, k _ _ F C H (Ex.refl F) hS (.str _) h.2.2.2.2⟩
      · exact h.elim
  · exact h.elim⟩
end
end AL

namespace AL
open PySem PySem.Spec PyProof.Rows L2
variable {B : Bs}
/-! ### repr of trees with dicts within -/
mutual
def D.pe : D → Option PyData
  | .non => some .none
  | .bl b => some (.bool b)
  | .int i => some (.int i)
  | .str x => some (.str x)
  | .lst ds => (peL ds).map .list
  | .tup ds => (peL ds).map .tuple
  | .dk es => (peK es).map .dict
  | _ => none
def peL : List D → Option (List PyData)
  | [] => some []
  | d :: ds => match D.pe d, peL ds with | some x, some xs => some (x :: xs) | _, _ => none
def peK : List (Key × D) → Option (List (PyData × PyData))
  | [] => some []
  | (k, d) :: es => match D.pe d, peK es with | some x, some xs => some ((match k with | .inl i => PyData.int i | .inr z => PyData.str z, x) :: xs) | _, _ => none
end
section
variable {X : Cx} {K : PySem.W.Frag} {pins : List (Addr × Obj)} {σ : L2.St} {H F : Hp} {s : Shared}
/-- shown, one way or another -/
def Shw (X : Cx) (h : Heap) (u : Value) (x : PyData) : Prop := (∃ as, Reads h u x as) ∧ ∃ bs, ReadAtMost h x.depth bs ∧ ReprK X.prog X.w bs h x.depth u x.shown
def ShwL (X : Cx) (h : Heap) (us : List Value) (xs : List PyData) : Prop := (∃ as, ReadsAll h us xs as) ∧ ∃ bs, ReadAtMost h (PyData.depthAll xs) bs ∧ ReprAllK X.prog X.w bs h (PyData.depthAll xs) us (PyData.shownAll xs)
theorem ShwL.nil {h : Heap} : ShwL X h [] [] := ⟨⟨_, .nil⟩, [], fun _ z => (by cases z), by simp only [PyData.shownAll]; exact .nil⟩
theorem ShwL.cons {h : Heap} {u : Value} {us : List Value} {x : PyData} {xs : List PyData} (a : Shw X h u x) (b : ShwL X h us xs) : ShwL X h (u :: us) (x :: xs) := by
  obtain ⟨⟨_, r1⟩, b1, m1, k1⟩ := a
  obtain ⟨⟨_, r2⟩, b2, m2, k2⟩ := b
  have ed : PyData.depthAll (x :: xs) = max x.depth (PyData.depthAll xs) := by simp only [PyData.depthAll]
  refine ⟨⟨_, .cons r1 r2⟩, b1 ++ b2, ?_, ?_⟩
  · rw [ed]
    exact (m1.mono (Nat.le_max_left _ _)).append (m2.mono (Nat.le_max_right _ _))
  · rw [ed]
    simp only [PyData.shownAll]
    exact .cons ((k1.more fun z hz => List.mem_append_left _ hz).level_le (Nat.le_max_left _ _)) (k2.more_le (fun z hz => List.mem_append_right _ hz) (Nat.le_max_right _ _))
theorem shown_memL {xs : List PyData} {t : Str} (h : t ∈ PyData.shownAll xs) : t.length ≤ (PyData.list xs).shown.length := by
  simp only [PyData.shown]; exact listText_mem_le h
theorem shown_memT {xs : List PyData} {t : Str} (h : t ∈ PyData.shownAll xs) : t.length ≤ (PyData.tuple xs).shown.length := by
  simp only [PyData.shown]; exact tupleText_mem_le h
theorem shw_list {h : Heap} {a : Addr} {its : List Value} {xs : List PyData} (p : PlainL h a its.toArray) (q : ShwL X h its xs) : Shw X h (.ref a) (.list xs) := by
  obtain ⟨o, n, h1, h2, _, h3⟩ := p
  obtain ⟨⟨as, r⟩, bs, m, k⟩ := q
  have rr : Reads h (.ref a) (.list xs) _ := .list h1 h2 h3 (by simpa using r)
  have na : a ∉ bs := not_mem_of_deeper rr (by simp only [PyData.depth]; omega) m
  refine ⟨⟨_, rr⟩, a :: bs, ReadAtMost.cons rr (by simp only [PyData.depth]; omega) m, ?_⟩
  simp only [PyData.depth, PyData.shown]
  cases its with
  | nil =>
    have r' : ReadsAll h [] xs as := r
    cases r'
    simp only [PyData.shownAll]
    rw [listText_nil]
    exact (ReprK.listEmpty h1 h2 h3).more fun _ z => z
  | cons y l => exact ReprK.list h1 h2 h3 na (by simpa using k.length_eq) fun i z e => k.item i z (by simpa using e)
theorem shw_tup {h : Heap} {a : Addr} {its : List Value} {xs : List PyData} (p : IsTup h a its.toArray) (q : ShwL X h its xs) : Shw X h (.ref a) (.tuple xs) := by
  obtain ⟨o, h1, h2, n, h3⟩ := p
  obtain ⟨⟨as, r⟩, bs, m, k⟩ := q
  have rr : Reads h (.ref a) (.tuple xs) _ := .tuple h1 h2 h3 (by simpa using r)
  have na : a ∉ bs := not_mem_of_deeper rr (by simp only [PyData.depth]; omega) m
  refine ⟨⟨_, rr⟩, a :: bs, ReadAtMost.cons rr (by simp only [PyData.depth]; omega) m, ?_⟩
  simp only [PyData.depth, PyData.shown]
  exact ReprK.tuple h1 h2 h3 na (by simpa using k)
/-- a dict's entries -/
theorem shw_dict {h : Heap} {a : Addr} {o : Obj} {es : Array DictEntry} {n : Nat} {kvs : List (PyData × PyData)} (h1 : h.get? a = some o) (h2 : o.cls = .type "dict") (h3 : o.data = .dict es n) (lo : (a == sysModules) = false)
    (q1 : ShwL X h (es.toList.map (·.key)) (kvs.map (·.1))) (q2 : ShwL X h (es.toList.map (·.val)) (kvs.map (·.2))) : Shw X h (.ref a) (.dict kvs) := by
  obtain ⟨⟨as, r⟩, bs, m, k⟩ := q1
  obtain ⟨⟨as2, r2⟩, bs2, m2, k2⟩ := q2
  have rr : Reads h (.ref a) (.dict kvs) _ := .dict h1 h2 h3 r r2
  have mm : ReadAtMost h (PyData.depthKv kvs) (bs ++ bs2) := (m.mono (PyData.depthAll_keys_le kvs)).append (m2.mono (PyData.depthAll_vals_le kvs))
  have na : a ∉ bs ++ bs2 := not_mem_of_deeper rr (by simp only [PyData.depth]; omega) mm
  refine ⟨⟨_, rr⟩, a :: (bs ++ bs2), ReadAtMost.cons rr (by simp only [PyData.depth]; omega) mm, ?_⟩
  simp only [PyData.depth, PyData.shown, PyData.shownKv_eq]
  have kk := k.more_le (as' := bs ++ bs2) (fun z hz => List.mem_append_left _ hz) (PyData.depthAll_keys_le kvs)
  have vv := k2.more_le (as' := bs ++ bs2) (fun z hz => List.mem_append_right _ hz) (PyData.depthAll_vals_le kvs)
  exact ReprK.dict h1 h2 h3 lo na (ReprEntriesK.of_two es.toList _ _ kk vv)
theorem keyDat {k : Key} {v : Value} (h : keyIs k v = true) {hp : Heap} (hs : (match k with | .inl i => PyData.int i | .inr z => PyData.str z).showable = true) (hz : (match k with | .inl i => PyData.int i | .inr z => PyData.str z).shown.length ≤ sizeLine) :
    Shw X hp v (match k with | .inl i => PyData.int i | .inr z => PyData.str z) := by
  rcases keyIs_shape h with ⟨i, t, rfl, rfl⟩ | ⟨z, t, rfl, rfl⟩
  · exact ⟨⟨_, .int i t⟩, [], fun _ q => (by cases q), by simp only [PyData.shown]; exact .of_is (ReprIs.int t (by simpa [PyData.showable] using hs)) _ _ _⟩
  · exact ⟨⟨_, .str z t⟩, [], fun _ q => (by cases q), by simp only [PyData.shown]; exact .of_is (ReprIs.str z t (by simpa only [PyData.shown] using hz)) _ _ _⟩
mutual
theorem shw_of (I : Inv X pins σ H s) (e : Ex F H) : ∀ (d : D) (v : V) (u : Value) (x : PyData), Rep X.K F v d → RelV v u → d.pe = some x → x.showable = true → x.shown.length ≤ sizeLine → Shw X s.heap u x
  | .non, _, _, _, r, q, h, _, _ => by
    cases r; cases q; cases h
    exact ⟨⟨_, .none⟩, [], fun _ z => (by cases z), by simp only [PyData.shown]; exact .of_is ReprIs.none _ _ _⟩
  | .bl b, _, _, _, r, q, h, _, _ => by
    cases r; cases q; cases h
    exact ⟨⟨_, .bool b⟩, [], fun _ z => (by cases z), by simp only [PyData.shown]; exact .of_is (ReprIs.bool b) _ _ _⟩
  | .int i, _, _, _, r, q, h, hs, _ => by
    cases r; obtain ⟨t, rfl⟩ := q; cases h
    exact ⟨⟨_, .int i t⟩, [], fun _ z => (by cases z), by simp only [PyData.shown]; exact .of_is (ReprIs.int t (by simpa [PyData.showable] using hs)) _ _ _⟩
  | .str z, _, _, _, r, q, h, _, hz => by
    cases r; obtain ⟨t, rfl⟩ := q; cases h
    exact ⟨⟨_, .str z t⟩, [], fun _ q => (by cases q), by simp only [PyData.shown]; exact .of_is (ReprIs.str z t (by simpa only [PyData.shown] using hz)) _ _ _⟩
  | .lst ds, _, _, _, r, q, h, hs, hz => by
    cases r with
    | lst h1 h2 =>
      cases q
      simp only [D.pe] at h
      cases g : peL ds with
      | none => rw [g] at h; cases h
      | some xs =>
        rw [g] at h; cases h
        obtain ⟨its, rv, pl, _⟩ := I.list (SqL.of (e _ _ h1))
        exact shw_list pl (shwL_of I e ds _ its xs h2 rv g (by simpa [PyData.showable] using hs) fun t ht => Nat.le_trans (shown_memL ht) hz)
  | .tup ds, _, _, _, r, q, h, hs, hz => by
    cases r with
    | tup h1 h2 =>
      cases q
      simp only [D.pe] at h
      cases g : peL ds with
      | none => rw [g] at h; cases h
      | some xs =>
        rw [g] at h; cases h
        obtain ⟨its, rv, pl, _⟩ := I.tuple (SqT.of (e _ _ h1))
        exact shw_tup pl (shwL_of I e ds _ its xs h2 rv g (by simpa [PyData.showable] using hs) fun t ht => Nat.le_trans (shown_memT ht) hz)
  | .dk es, _, _, _, r, q, h, hs, hz => by
    cases r with
    | dk h1 h2 =>
      cases q
      simp only [D.pe] at h
      cases g : peK es with
      | none => rw [g] at h; cases h
      | some xs =>
        rw [g] at h; cases h
        obtain ⟨_, lo, vs, kv, o, ens, ep, a1, a2, a3, a4, a5, a6⟩ := dk_of I.hok (e _ _ h1)
        obtain ⟨s1, s2⟩ := PyData.showableKv_split xs (by simpa [PyData.showable] using hs)
        have hz' : (dictText (PyData.shownKv xs)).length ≤ sizeLine := by simpa only [PyData.shown] using hz
        obtain ⟨k1, k2⟩ := shwK_of I e es _ vs ens.toList xs h2 kv a5 g s1 s2 (fun t ht => let ⟨p, hp, hl⟩ := PyData.shownKv_key_le xs t ht; Nat.le_trans hl (Nat.le_trans (dictText_mem_le hp) hz'))
          (fun t ht => let ⟨p, hp, hl⟩ := PyData.shownKv_val_le xs t ht; Nat.le_trans hl (Nat.le_trans (dictText_mem_le hp) hz'))
        exact shw_dict a1 a2.1 a3 lo k1 k2
  | .scr _, _, _, _, _, _, h, _, _ => by simp [D.pe] at h
  | .ce _, _, _, _, _, _, h, _, _ => by simp [D.pe] at h
theorem shwL_of (I : Inv X pins σ H s) (e : Ex F H) : ∀ (ds : List D) (vs : List V) (us : List Value) (xs : List PyData), RepL X.K F vs ds → Vals vs us → peL ds = some xs → PyData.showableAll xs = true → (∀ t ∈ PyData.shownAll xs, t.length ≤ sizeLine) → ShwL X s.heap us xs
  | [], _, _, _, r, q, h, _, _ => by
    cases r; cases q
    simp only [peL] at h
    cases h
    exact .nil
  | d :: ds, _, _, _, r, q, h, hs, hz => by
    cases r with
    | cons r1 r2 =>
      cases q with
      | cons q1 q2 =>
        unfold peL at h
        split at h
        · rename_i g1 g2
          cases h
          simp only [PyData.showableAll, Bool.and_eq_true] at hs
          simp only [PyData.shownAll] at hz
          exact ShwL.cons (shw_of I e d _ _ _ r1 q1 g1 hs.1 (hz _ (List.mem_cons_self ..))) (shwL_of I e ds _ _ _ r2 q2 g2 hs.2 fun t ht => hz t (List.mem_cons_of_mem _ ht))
        · cases h
theorem shwK_of (I : Inv X pins σ H s) (e : Ex F H) : ∀ (es : List (Key × D)) (kvs : List (Key × V)) (vs : List (Key × Value)) (ens : List DictEntry) (xs : List (PyData × PyData)), RepK X.K F kvs es → KV kvs vs → Pairs (mixKind X.prog X.w) ens vs → peK es = some xs →
    PyData.showableAll (xs.map (·.1)) = true → PyData.showableAll (xs.map (·.2)) = true → (∀ t ∈ PyData.shownAll (xs.map (·.1)), t.length ≤ sizeLine) → (∀ t ∈ PyData.shownAll (xs.map (·.2)), t.length ≤ sizeLine) →
    ShwL X s.heap (ens.map (·.key)) (xs.map (·.1)) ∧ ShwL X s.heap (ens.map (·.val)) (xs.map (·.2))
  | [], _, _, _, _, r, q, p, h, _, _, _, _ => by
    cases r; cases q; cases p
    simp only [peK] at h
    cases h
    exact ⟨.nil, .nil⟩
  | (k, d) :: es, _, _, _, _, r, q, p, h, s1, s2, z1, z2 => by
    cases r with
    | cons r1 r2 =>
      cases q with
      | cons q1 q2 =>
        cases p with
        | cons p1 p2 p3 =>
          unfold peK at h
          split at h
          · rename_i g1 g2
            cases h
            simp only [List.map_cons, PyData.showableAll, Bool.and_eq_true] at s1 s2
            simp only [List.map_cons, PyData.shownAll] at z1 z2
            obtain ⟨i1, i2⟩ := shwK_of I e es _ _ _ _ r2 q2 p3 g2 s1.2 s2.2 (fun t ht => z1 t (List.mem_cons_of_mem _ ht)) (fun t ht => z2 t (List.mem_cons_of_mem _ ht))
            obtain ⟨q11, q12⟩ := q1
            have e1 : k = _ := q11
            subst e1
            refine ⟨ShwL.cons (keyDat p1 s1.1 (z1 _ (List.mem_cons_self ..))) i1, ShwL.cons ?_ i2⟩
            show Shw X s.heap (DictEntry.val _) _
            rw [p2]
            exact shw_of I e d _ _ _ r1 q12 g1 s2.1 (z2 _ (List.mem_cons_self ..))
          · cases h
end
/-- repr(x), what x is told by its tree -/
def rRepE (K : PySem.W.Frag) : List V → Hp → VK → Prop := fun xs H Q => ∃ v d F x, xs = [v] ∧ Ex F H ∧ Rep K F v d ∧ D.pe d = some x ∧ x.showable = true ∧ x.depth ≤ 64 ∧ x.shown.length ≤ sizeLine ∧ Q (.str x.shown) H
theorem call_repE (hg : X.A.guards = some []) (hu : X.A.units + 200 < cLine) : CallR X (.builtin "repr") (rRepE X.K) := by
  intro pins s σ H xs us Q I r h
  obtain ⟨v, d, F, x, rfl, ex, rd, hp, h1, h3, h4, q⟩ := h
  obtain ⟨u, rfl, r1⟩ := vals1 r
  have fin : ∀ (h' : Heap) (t tk : Tok), (∀ b o, s.heap.get? b = some o → h'.get? b = some o) → EP X pins σ Q (.str x.shown t) { s with heap := h', toks := tk } := fun h' t tk k => ⟨.str _, H, (I.kept (t' := tk) k), ⟨t, rfl⟩, q⟩
  have hu2 : ∀ n, n ≤ 64 → X.A.in1.units + n < cLine := fun n hn => by show X.A.units + 1 + n < cLine; omega
  cases d with
  | non =>
    cases rd; cases r1; cases hp
    exact PySem.call_repr_gives (PySem.typeIs_none s) PySem.F.slot_NoneType_repr PySem.F.entry_NoneType_repr (PySem.F.args_NoneType_repr_1 _) gives_none_repr (by simpa [PyData.shown] using fin s.heap _ _ fun _ _ e => e) rfl (by decide)
  | bl b =>
    cases rd; cases r1; cases hp
    exact PySem.call_repr_gives (PySem.typeIs_bool s b) PySem.F.slot_bool_repr PySem.F.entry_bool_repr (PySem.F.args_bool_repr_1 _) (gives_bool_repr b) (by simpa [PyData.shown] using fin s.heap _ _ fun _ _ e => e) rfl (by cases b <;> decide)
  | int i =>
    cases rd; obtain ⟨t, rfl⟩ := r1; cases hp
    exact PySem.P.repr_of_int (by simpa [PyData.showable] using h1) (by simpa [PyData.shown] using fin s.heap _ _ fun _ _ e => e)
  | str z =>
    cases rd; obtain ⟨t, rfl⟩ := r1; cases hp
    exact PySem.call_repr_gives (PySem.typeIs_str s z t) PySem.F.slot_str_repr PySem.F.entry_str_repr (PySem.F.args_str_repr_1 _) (gives_str_repr z t) (by simpa [PyData.shown] using fin s.heap _ _ fun _ _ e => e) rfl (by simpa [PyData.shown] using h4)
  | lst ds =>
    cases rd with
    | lst g1 g2 =>
      cases r1
      simp only [D.pe] at hp
      cases g : peL ds with
      | none => rw [g] at hp; cases hp
      | some xs =>
        rw [g] at hp; cases hp
        obtain ⟨its, rv, ⟨o, n, a1, a2, a3, a4⟩, _⟩ := I.list (SqL.of (ex _ _ g1))
        have sl := shwL_of I ex ds _ its xs g2 rv g (by simpa [PyData.showable] using h1) fun t ht => Nat.le_trans (shown_memL ht) h4
        obtain ⟨⟨as, rr⟩, bs, m, k⟩ := sl
        have rr2 : Reads s.heap (.ref _) (.list xs) _ := .list a1 a2 a4 (by simpa using rr)
        have na := not_mem_of_deeper rr2 (by simp only [PyData.depth]; omega) m
        simp only [PyData.depth] at h3
        simp only [PyData.shown] at fin h4
        refine call_repr_slot (by omega) ⟨o, a1, a2⟩ PySem.F.slot_list_repr.toG ?_
        cases its with
        | nil =>
          have rr' : ReadsAll s.heap [] xs as := rr
          cases rr'
          simp only [PyData.shownAll, listText_nil] at fin
          exact call_list_repr_empty ⟨o, a1, a2⟩ a1 a4 ⟨_, _, rfl, fin s.heap _ _ fun _ _ e => e⟩
        | cons y l => exact call_list_reprK a1 a2 a4 na (by simpa using k.length_eq) (fun i z e => k.item i z (by simpa using e)) (show X.A.in1.guards = some [] from hg) (fun b _ => Clear.nil b) (hu2 _ h3) (fun _ _ e => e) (fun h' t tk kp => ⟨_, _, rfl, fin h' t tk kp⟩) h4
  | tup ds =>
    cases rd with
    | tup g1 g2 =>
      cases r1
      simp only [D.pe] at hp
      cases g : peL ds with
      | none => rw [g] at hp; cases hp
      | some xs =>
        rw [g] at hp; cases hp
        obtain ⟨its, rv, ⟨o, a1, a2, n, a4⟩, _⟩ := I.tuple (SqT.of (ex _ _ g1))
        have sl := shwL_of I ex ds _ its xs g2 rv g (by simpa [PyData.showable] using h1) fun t ht => Nat.le_trans (shown_memT ht) h4
        obtain ⟨⟨as, rr⟩, bs, m, k⟩ := sl
        have rr2 : Reads s.heap (.ref _) (.tuple xs) _ := .tuple a1 a2 a4 (by simpa using rr)
        have na := not_mem_of_deeper rr2 (by simp only [PyData.depth]; omega) m
        simp only [PyData.depth] at h3
        simp only [PyData.shown] at fin h4
        refine call_repr_slot (by omega) ⟨o, a1, a2⟩ PySem.F.slot_tuple_repr ?_
        exact call_tuple_reprK a1 a2 a4 na (by simpa using k) (show X.A.in1.guards = some [] from hg) (fun b _ => Clear.nil b) (hu2 _ h3) (fun _ _ e => e) (fun h' t tk kp => ⟨_, _, rfl, fin h' t tk kp⟩) h4
  | dk es =>
    cases rd with
    | dk g1 g2 =>
      cases r1
      simp only [D.pe] at hp
      cases g : peK es with
      | none => rw [g] at hp; cases hp
      | some xs =>
        rw [g] at hp; cases hp
        obtain ⟨_, lo, vs, kv, o, ens, ep, a1, a2, a3, a4, a5, a6⟩ := dk_of I.hok (ex _ _ g1)
        obtain ⟨s1, s2⟩ := PyData.showableKv_split xs (by simpa [PyData.showable] using h1)
        have hz' : (dictText (PyData.shownKv xs)).length ≤ sizeLine := by simpa only [PyData.shown] using h4
        obtain ⟨⟨⟨as, r1⟩, b1, m1, k1⟩, ⟨as2, r2⟩, b2, m2, k2⟩ := shwK_of I ex es _ vs ens.toList xs g2 kv a5 g s1 s2 (fun t ht => let ⟨p, hp, hl⟩ := PyData.shownKv_key_le xs t ht; Nat.le_trans hl (Nat.le_trans (dictText_mem_le hp) hz'))
          (fun t ht => let ⟨p, hp, hl⟩ := PyData.shownKv_val_le xs t ht; Nat.le_trans hl (Nat.le_trans (dictText_mem_le hp) hz'))
        have rr : Reads s.heap (.ref _) (.dict xs) _ := .dict a1 a2.1 a3 r1 r2
        have mm : ReadAtMost s.heap (PyData.depthKv xs) (b1 ++ b2) := (m1.mono (PyData.depthAll_keys_le xs)).append (m2.mono (PyData.depthAll_vals_le xs))
        have na := not_mem_of_deeper rr (by simp only [PyData.depth]; omega) mm
        have kk := k1.more_le (as' := b1 ++ b2) (fun z hz => List.mem_append_left _ hz) (PyData.depthAll_keys_le xs)
        have vv := k2.more_le (as' := b1 ++ b2) (fun z hz => List.mem_append_right _ hz) (PyData.depthAll_vals_le xs)
        simp only [PyData.depth] at h3
        simp only [PyData.shown, PyData.shownKv_eq] at fin
        refine call_repr_slot (by omega) ⟨o, a1, a2.1⟩ PySem.F.slot_dict_repr ?_
        exact call_dict_reprK a1 a2.1 a3 lo na (ReprEntriesK.of_two ens.toList _ _ kk vv) (show X.A.in1.guards = some [] from hg) (fun b _ => Clear.nil b) (hu2 _ h3) (fun _ _ e => e) (fun h' t tk kp => ⟨_, _, rfl, fin h' t tk kp⟩) (by rw [← PyData.shownKv_eq]; exact hz')
  | scr ns => simp [D.pe] at hp
  | ce p => simp [D.pe] at hp
def aRepr : ASp := fun ds C P => (∃ d x, ds = [d] ∧ D.pe d = some x ∧ x.showable = true ∧ x.depth ≤ 64 ∧ x.shown.length ≤ sizeLine ∧ P (.str x.shown) C) ∨ aReprC ds C P
theorem ac_repr (hg : X.A.guards = some []) (hu : X.A.units + 200 < cLine) (hK : X.K = K := by rfl) : ACa B X (.builtin "repr") (fun vs H Q => rRepE K vs H Q ∨ rRep K vs H Q) aRepr := by
  subst hK
  refine ⟨(call_repE hg hu).or (call_rep hg hu), ?_⟩
  intro vs ds F C R H Q P hS r h k
  rcases h with ⟨d, x, rfl, h1, h2, h3, h4, h5⟩ | h
  · cases r with
    | cons r1 r2 =>
      cases r2
      exact .inl ⟨_, d, F, x, rfl, hS.ex, r1, h1, h2, h3, h4, k _ _ F C H (Ex.refl F) hS (.str _) h5⟩
  · exact .inr ((ac_reprC (B := B) hg hu).sim vs ds F C R H Q P hS r h k)
end
/-! ### trees that repr tells -/
def okKey : Key → Bool
  | .inl i => decide (i.natAbs.log2 < 1900)
  | .inr x => x.cps.all (· < 0x110000)
def datKey : Key → PyData
  | .inl i => .int i
  | .inr x => .str x
def blkKey : Key → Nat
  | .inl _ => 0
  | .inr x => x.length
mutual
/-- no cells within; texts of signs; numbers of few figures -/
def okR : D → Nat → Bool
  | .non, _ => true
  | .bl _, _ => true
  | .int i, _ => decide (i.natAbs.log2 < 1900)
  | .str x, _ => x.cps.all (· < 0x110000)
  | .lst ds, n + 1 => okRs ds n
  | .tup ds, n + 1 => okRs ds n
  | .dk es, n + 1 => okRk es n
  | _, _ => false
def okRs : List D → Nat → Bool
  | [], _ => true
  | d :: ds, n => okR d n && okRs ds n
def okRk : List (Key × D) → Nat → Bool
  | [], _ => true
  | (k, d) :: es, n => okKey k && okR d n && okRk es n
end
mutual
def blk : D → Nat
  | .str x => x.length
  | .lst ds => blks ds
  | .tup ds => blks ds
  | .dk es => blkk es
  | _ => 0
def blks : List D → Nat
  | [] => 0
  | d :: ds => blk d + 1 + blks ds
def blkk : List (Key × D) → Nat
  | [] => 0
  | (k, d) :: es => blkKey k + blk d + 2 + blkk es
end
theorem okRs_all {ds : List D} {n : Nat} : okRs ds n = true ↔ ∀ d ∈ ds, okR d n = true := by
  induction ds with
  | nil => simp [okRs]
  | cons d ds ih => simp [okRs, ih]
theorem int_len (i : Int) : (Str.ofString (toString i)).length ≤ i.natAbs.log2 + 3 := by
  rw [PySem.ofString_length]
  exact Nat.le_succ_of_le (PySem.int_text_length_le (a := i) (k := i.natAbs.log2 + 1) (by omega) (by omega))
theorem short_int {i : Int} (h : i.natAbs.log2 < 1900) : (PyData.shown (.int i)).length ≤ 1922 := by
  have := int_len i
  simp only [PyData.shown]
  omega
theorem short_str {x : Str} (h : x.cps.all (· < 0x110000) = true) : (PyData.str x).leavesShort 1922 = true := by
  simp only [PyData.leavesShort, List.all_eq_true, decide_eq_true_eq]
  intro c hc
  simp only [Array.all_eq_true, decide_eq_true_eq] at h
  obtain ⟨i, hi, rfl⟩ := List.getElem_of_mem hc
  have := h i (by simpa using hi)
  simp only [Array.getElem_toList]
  omega
theorem okKey_dat {k : Key} (h : okKey k = true) : (datKey k).showable = true ∧ (datKey k).depth = 0 ∧ (datKey k).leavesShort 1922 = true ∧ (datKey k).bulk = blkKey k := by
  cases k with
  | inl i =>
    simp only [okKey, decide_eq_true_eq] at h
    exact ⟨by simp only [datKey, PyData.showable, decide_eq_true_eq]; omega, by simp [datKey, PyData.depth], by simp only [datKey, PyData.leavesShort, decide_eq_true_eq]; exact short_int h, by simp [datKey, PyData.bulk, blkKey]⟩
  | inr x => exact ⟨by simp [datKey, PyData.showable], by simp [datKey, PyData.depth], short_str h, by simp [datKey, PyData.bulk, blkKey]; rfl⟩
mutual
theorem okR_pe : ∀ (d : D) (n : Nat), okR d n = true → ∃ x, d.pe = some x ∧ x.showable = true ∧ x.depth ≤ n ∧ x.leavesShort 1922 = true ∧ x.bulk = blk d
  | .non, n, _ => ⟨.none, by simp [D.pe], by simp [PyData.showable], by simp [PyData.depth], by simp [PyData.leavesShort], by simp [PyData.bulk, blk]⟩
  | .bl b, n, _ => ⟨.bool b, by simp [D.pe], by simp [PyData.showable], by simp [PyData.depth], by simp [PyData.leavesShort], by simp [PyData.bulk, blk]⟩
  | .int i, n, h => by
    simp only [okR, decide_eq_true_eq] at h
    exact ⟨.int i, by simp [D.pe], by simp only [PyData.showable, decide_eq_true_eq]; omega, by simp [PyData.depth], by simp only [PyData.leavesShort, decide_eq_true_eq]; exact short_int h, by simp [PyData.bulk, blk]⟩
  | .str x, n, h => ⟨.str x, by simp [D.pe], by simp [PyData.showable], by simp [PyData.depth], short_str (by simpa [okR] using h), by simp [PyData.bulk, blk]; rfl⟩
  | .lst ds, 0, h => by simp [okR] at h
  | .lst ds, n + 1, h => by
    obtain ⟨xs, h1, h2, h3, h4, h5⟩ := okRs_pe ds n (by simpa [okR] using h)
    exact ⟨.list xs, by simp [D.pe, h1], by simpa [PyData.showable] using h2, by simp [PyData.depth]; omega, by simpa [PyData.leavesShort] using h4, by simp [PyData.bulk, blk, h5]⟩
  | .tup ds, 0, h => by simp [okR] at h
  | .tup ds, n + 1, h => by
    obtain ⟨xs, h1, h2, h3, h4, h5⟩ := okRs_pe ds n (by simpa [okR] using h)
    exact ⟨.tuple xs, by simp [D.pe, h1], by simpa [PyData.showable] using h2, by simp [PyData.depth]; omega, by simpa [PyData.leavesShort] using h4, by simp [PyData.bulk, blk, h5]⟩
  | .dk es, 0, h => by simp [okR] at h
  | .dk es, n + 1, h => by
    obtain ⟨xs, h1, h2, h3, h4, h5⟩ := okRk_pe es n (by simpa [okR] using h)
    exact ⟨.dict xs, by simp [D.pe, h1], by simpa [PyData.showable] using h2, by simp [PyData.depth]; omega, by simpa [PyData.leavesShort] using h4, by simp [PyData.bulk, blk, h5]⟩
  | .scr _, _, h => by simp [okR] at h
  | .ce _, _, h => by simp [okR] at h
theorem okRs_pe : ∀ (ds : List D) (n : Nat), okRs ds n = true → ∃ xs, peL ds = some xs ∧ PyData.showableAll xs = true ∧ PyData.depthAll xs ≤ n ∧ PyData.leavesShortAll 1922 xs = true ∧ PyData.bulkAll xs = blks ds
  | [], n, _ => ⟨[], by simp [peL], by simp [PyData.showableAll], by simp [PyData.depthAll], by simp [PyData.leavesShortAll], by simp [PyData.bulkAll, blks]⟩
  | d :: ds, n, h => by
    simp only [okRs, Bool.and_eq_true] at h
    obtain ⟨x, a1, a2, a3, a4, a5⟩ := okR_pe d n h.1
    obtain ⟨xs, b1, b2, b3, b4, b5⟩ := okRs_pe ds n h.2
    exact ⟨x :: xs, by simp [peL, a1, b1], by simp [PyData.showableAll, a2, b2], by simp [PyData.depthAll]; omega, by simp [PyData.leavesShortAll, a4, b4], by simp [PyData.bulkAll, blks, a5, b5]⟩
theorem okRk_pe : ∀ (es : List (Key × D)) (n : Nat), okRk es n = true → ∃ xs, peK es = some xs ∧ PyData.showableKv xs = true ∧ PyData.depthKv xs ≤ n ∧ PyData.leavesShortKv 1922 xs = true ∧ PyData.bulkKv xs = blkk es
  | [], n, _ => ⟨[], by simp [peK], by simp [PyData.showableKv], by simp [PyData.depthKv], by simp [PyData.leavesShortKv], by simp [PyData.bulkKv, blkk]⟩
  | (k, d) :: es, n, h => by
    simp only [okRk, Bool.and_eq_true] at h
    obtain ⟨c1, c2, c3, c4⟩ := okKey_dat h.1.1
    obtain ⟨x, a1, a2, a3, a4, a5⟩ := okR_pe d n h.1.2
    obtain ⟨xs, b1, b2, b3, b4, b5⟩ := okRk_pe es n h.2
    refine ⟨(datKey k, x) :: xs, ?_, by simp [PyData.showableKv, c1, a2, b2], by simp [PyData.depthKv, c2]; omega, by simp [PyData.leavesShortKv, c3, a4, b4], by simp [PyData.bulkKv, blkk, c4, a5, b5]⟩
    simp only [peK, a1, b1]
    cases k <;> rfl
end
/-- the text that repr tells of a tree -/
def shownE (d : D) : Str := match d.pe with | some x => x.shown | none => ""
theorem g_repr {C : AH} {P : D → AH → Prop} {d : D} (n : Nat) (h : okR d n = true) (hn : n ≤ 64) (hz : blk d ≤ 8000) (k : P (.str (shownE d)) C) : aRepr [d] C P := by
  obtain ⟨x, e, h1, h3, h4, h5⟩ := okR_pe d n h
  unfold shownE at k
  rw [e] at k
  refine .inl ⟨d, x, rfl, e, h1, by omega, ?_, k⟩
  have := PyData.shown_le_bulk 1922 (by decide) x h4
  rw [sizeLine_eq]
  rw [h5] at this
  omega
mutual
theorem okR_succ : ∀ (d : D) (n : Nat), okR d n = true → okR d (n + 1) = true
  | .non, _, _ => by simp [okR]
  | .bl _, _, _ => by simp [okR]
  | .int _, _, h => by simpa [okR] using h
  | .str _, _, h => by simpa [okR] using h
  | .lst ds, 0, h => by simp [okR] at h
  | .lst ds, n + 1, h => by
    simp only [okR] at h ⊢
    exact okRs_succ ds n h
  | .tup ds, 0, h => by simp [okR] at h
  | .tup ds, n + 1, h => by
    simp only [okR] at h ⊢
    exact okRs_succ ds n h
  | .dk es, 0, h => by simp [okR] at h
  | .dk es, n + 1, h => by
    simp only [okR] at h ⊢
    exact okRk_succ es n h
  | .scr _, _, h => by simp [okR] at h
  | .ce _, _, h => by simp [okR] at h
theorem okRs_succ : ∀ (ds : List D) (n : Nat), okRs ds n = true → okRs ds (n + 1) = true
  | [], _, _ => by simp [okRs]
  | d :: ds, n, h => by
    simp only [okRs, Bool.and_eq_true] at h ⊢
    exact ⟨okR_succ d n h.1, okRs_succ ds n h.2⟩
theorem okRk_succ : ∀ (ds : List (Key × D)) (n : Nat), okRk ds n = true → okRk ds (n + 1) = true
  | [], _, _ => by simp [okRk]
  | (k, d) :: ds, n, h => by
    simp only [okRk, Bool.and_eq_true] at h ⊢
    exact ⟨⟨h.1.1, okR_succ d n h.1.2⟩, okRk_succ ds n h.2⟩
end
theorem okR_mono {d : D} {n m : Nat} (h : okR d n = true) (hm : n ≤ m) : okR d m = true := by
  obtain ⟨k, rfl⟩ := Nat.le.dest hm
  clear hm
  induction k with
  | zero => exact h
  | succ k ih => exact okR_succ d _ ih
theorem blks_append : ∀ xs ys : List D, blks (xs ++ ys) = blks xs + blks ys
  | [], ys => by simp [blks]
  | x :: xs, ys => by simp [blks, blks_append xs ys]; omega
/-! flat rules -/
section
variable {X : Cx} {K : PySem.W.Frag}
/-- str(i) -/
def aStrI : ASp := fun ds C P => match ds with | [.int i] => i.natAbs.log2 < 1920 ∧ P (.str (toString i)) C | _ => False
theorem ac_strI : ACa B X (.type "str") (fun xs H Q => ∃ i, xs = [.int i] ∧ i.natAbs.log2 < 1920 ∧ Q (.str (toString i)) H) aStrI := ⟨call_str_int, by
  intro vs ds F C R H Q P hS r h k
  unfold aStrI at h
  split at h
  · cases r with | cons r1 r2 => cases r2; cases r1; exact ⟨_, rfl, h.1, k _ _ F C H (Ex.refl F) hS (.str _) h.2⟩
  · exact h.elim⟩
/-- x is True -/
def aIsB (neg : Bool) : D → D → AH → (D → AH → Prop) → Prop := fun x y C P => match x, y with | .bl a, .bl b => P (.bl (if neg then !decide (a = b) else decide (a = b))) C | _, _ => False
abbrev aIsBl := aIsB false
abbrev aNotBl := aIsB true
theorem ao_isB : AOp B X (compareOp .Is) rIsB aIsBl := ⟨op_isBl, by
  intro v w d e F C R H Q P hS r1 r2 h k
  unfold aIsBl aIsB at h
  split at h
  · cases r1; cases r2
    exact ⟨_, _, rfl, rfl, k _ _ F C H (Ex.refl F) hS (.bl _) h⟩
  · exact h.elim⟩
theorem ao_isnotB : AOp B X (compareOp .IsNot) rNotB aNotBl := ⟨op_notBl, by
  intro v w d e F C R H Q P hS r1 r2 h k
  unfold aNotBl aIsB at h
  split at h
  · cases r1; cases r2
    exact ⟨_, _, rfl, rfl, k _ _ F C H (Ex.refl F) hS (.bl _) h⟩
  · exact h.elim⟩
/-- a dict that is written, and never changed -/
def aDispF (l : List (Key × AE')) : AE' := fun s C P => aPairs l s C fun es C1 => es.length ≤ 15 ∧ P (.dk (mergeD [] es)) C1
theorem sim_dispF {trs : List (TE × TE)} {l : List (Key × AE')} (h : SimPs B K trs l) : SimE B K (tDisp trs) (aDispF l) := by
  intro σ s F C R H Q P hs hS h0 k p hp
  have hF := hS.freeF hp
  have hC := hS.freeC hp
  have hR := hS.freeR hp
  refine h σ s F C (upd R p (.dK [])) (upd H p (.dK [])) _ _ hs (hS.setR hF hC (hS.freeB hR) _) h0 fun es kvs F1 C1 H1 e1 S1 r1 h1 => ?_
  obtain ⟨h15, h1⟩ := h1
  obtain ⟨f1, c1, g1⟩ := S1.priv p _ upd_same
  refine ⟨g1, kvs, rfl, by rw [r1.length]; exact h15, ?_⟩
  have S2 := S1.setR f1 c1 (hS.freeB hR) (.dK (mergeK [] kvs))
  rw [upd_upd] at S2
  have eN := Ex.new (o := .dK (mergeK [] kvs)) f1
  exact k _ _ _ C1 _ (e1.trans eN) (S2.outF hR (hS.freeB hR)) (.dk upd_same ((RepK.merge r1 .nil).mono eN)) h1
theorem ae_dispF {pos : Pos} {keys : List (Option Expr)} {vals : List Expr} {trs : List (TE × TE)} {l : List (Key × AE')} (h : APs B X pos keys vals trs l) (hall : keys.all (·.isSome) = true := by rfl) (hl : keys.length = vals.length := by rfl) (h0 : keys ≠ [] := by simp) (h15 : keys.length ≤ 15 := by decide) : AE B X (.Dict keys vals pos) (tDisp trs) (aDispF l) :=
  ⟨pe_disp h.pps hall hl h0 h15, sim_dispF h.sim⟩
def aDict0F : AE' := fun _ C P => P (.dk []) C
theorem ae_dict0F {pos : Pos} : AE B X (.Dict [] [] pos) tDNewK aDict0F := ⟨pe_dnewK, fun σ s F C R H Q P hs hS h k p hp => by
  have eN := Ex.new (o := .dK []) (hS.freeF hp)
  exact k _ _ _ C _ eN (hS.newF hp _) (.dk upd_same .nil) h⟩
/-! several targets, also places of lists -/
theorem sim_gnil : SimGs B K gNil aGNil := fun vs ds σ s F C R H Q P hs hS r h k => by
  unfold aGNil at h
  split at h
  · cases r
    exact ⟨rfl, k s σ F C H (Ex.refl F) hs hS h⟩
  · exact h.elim
theorem sim_gcons {g : TG} {r : TGs} {a : AG'} {b : AGs'} (h1 : SimG B K g a) (h2 : SimGs B K r b) : SimGs B K (gCons g r) (aGCons a b) := fun vs ds σ s F C R H Q P hs hS rr h k => by
  unfold aGCons at h
  split at h
  · cases rr with
    | cons r1 r2 =>
      refine ⟨_, _, rfl, ?_⟩
      refine h1 _ _ σ s F C R H _ _ hs hS r1 h fun s1 σ1 F1 C1 H1 e1 hs1 S1 q1 => ?_
      exact h2 _ _ σ1 s1 F1 C1 R H1 Q P hs1 S1 (r2.mono e1) q1 fun s2 σ2 F2 C2 H2 e2 => k s2 σ2 F2 C2 H2 (e1.trans e2)
  · exact h.elim
theorem sim_gtup {n : Nat} {t : TGs} {a : AGs'} (h : SimGs B K t a) : SimG B K (gTup K n t) (aGTup n a) := fun v d σ s F C R H Q P hs hS r h0 kk => by
  unfold aGTup at h0
  split at h0
  · cases r with
    | tup e q => exact ⟨_, _, rfl, SqT.of (hS.ex _ _ e), by rw [q.length]; exact h0.1, h _ _ σ s F C R H Q P hs hS q h0.2 kk⟩
  · exact h0.elim
/-- xs[i], ys[j] = e -/
theorem as_set2 {o i o2 i2 e : Expr} {to ti to2 ti2 te : TE} {ao ai ao2 ai2 a : AE'} {p1 p2 p3 pos : Pos} {kk : Nat} (h : AE B X e te a) (ho : AE B X o to ao) (hi : AE B X i ti ai) (ho2 : AE B X o2 to2 ao2) (hi2 : AE B X i2 ti2 ai2) (hc : X.calm = true := by rfl)
    (hs : swapsWithSole [.Tuple [.Subscript o i p1, .Subscript o2 i2 p2] kk p3] e pos.line X.env = pure false := by rfl) (hw : swappedStores [.Tuple [.Subscript o i p1, .Subscript o2 i2 p2] kk p3] e X.env = pure none := by rfl)
    (h1 : (assignEach [.Tuple [.Subscript o i p1, .Subscript o2 i2 p2] kk p3] X.env).map (·.2) = [assign (.Tuple [.Subscript o i p1, .Subscript o2 i2 p2] kk p3) X.env] := by rfl)
    (hn : (assignEach [.Subscript o i p1, .Subscript o2 i2 p2] X.env).length = 2 := by rfl) (hst : (assignEach [.Subscript o i p1, .Subscript o2 i2 p2] X.env).findIdx? (·.1) = none := by rfl)
    (hs1 : (assignEach [.Subscript o i p1, .Subscript o2 i2 p2] X.env).map (·.2) = assign (.Subscript o i p1) X.env :: (assignEach [.Subscript o2 i2 p2] X.env).map (·.2) := by rfl) (hs2 : (assignEach [.Subscript o2 i2 p2] X.env).map (·.2) = assign (.Subscript o2 i2 p2) X.env :: (assignEach [] X.env).map (·.2) := by rfl)
    (ha : ∀ v, assign (.Subscript o i p1) X.env v = (do
      let ov ← holding [v] (eval o X.env)
      let iv ← holding [v, ov] (eval i X.env)
      standAt p1
      holding [v, ov, iv] (setItem ov iv v)
      release [v, ov, iv] []) := by intro _; rfl)
    (ha2 : ∀ v, assign (.Subscript o2 i2 p2) X.env v = (do
      let ov ← holding [v] (eval o2 X.env)
      let iv ← holding [v, ov] (eval i2 X.env)
      standAt p2
      holding [v, ov, iv] (setItem ov iv v)
      release [v, ov, iv] []) := by intro _; rfl) (hK : X.K = K := by rfl) :
    AS B X (.Assign [.Tuple [.Subscript o i p1, .Subscript o2 i2 p2] kk p3] e pos) (tAsg te (gTup K 2 (gCons (gSub to ti rSetL) (gCons (gSub to2 ti2 rSetL) gNil)))) (aAsg a (aGTup 2 (aGCons (aGSet ao ai) (aGCons (aGSet ao2 ai2) aGNil)))) := by
  subst hK
  exact ⟨ps_asg h.pe (pg_tup hc (pgs_cons (pg_sub ho.pe hi.pe set_list ha) (pgs_cons (pg_sub ho2.pe hi2.pe set_list ha2) pgs_nil hs2) hs1) hn hst) hs hw h1,
    sim_asg h.sim (sim_gtup (sim_gcons (sim_set ho.sim hi.sim) (sim_gcons (sim_set ho2.sim hi2.sim) sim_gnil)))⟩
end
end AL

namespace AL
open PySem PySem.Spec PyProof.Rows L2
variable {B : Bs}
/-! ### a list of cells that are changed no more -/
def frzC (C : AH) (p : Addr) : Option Cell → D × AH
  | some (.lst us) => (.lst us, del C p)
  | some (.dk es) => (.dk es, del C p)
  | _ => (.ce p, C)
def frz1 (C : AH) : D → D × AH
  | .ce p => frzC C p (C p)
  | d => (d, C)
def frzL (C : AH) : List D → List D × AH
  | [] => ([], C)
  | d :: ds => ((frz1 C d).1 :: (frzL (frz1 C d).2 ds).1, (frzL (frz1 C d).2 ds).2)
section
variable {K : PySem.W.Frag}
theorem frz1_ce {C : AH} {p : Addr} {c : Option Cell} (e : C p = c) : frz1 C (.ce p) = frzC C p c := by
  show frzC C p (C p) = _
  rw [e]
theorem frz1_ok {F : Hp} {C : AH} {R H : Hp} (hS : Sat B K F C R H) (d : D) : ∃ F', Ex F F' ∧ Sat B K F' (frz1 C d).2 R H ∧ ∀ F'', Ex F' F'' → ∀ v, Rep K F'' v d → Rep K F'' v (frz1 C d).1 := by
  have same : ∃ F', Ex F F' ∧ Sat B K F' C R H ∧ ∀ F'', Ex F' F'' → ∀ v, Rep K F'' v d → Rep K F'' v d := ⟨F, Ex.refl F, hS, fun _ _ _ h => h⟩
  cases d with
  | ce p =>
    cases e : C p with
    | none =>
      rw [frz1_ce e]; exact same
    | some c =>
      rw [frz1_ce e]
      obtain ⟨hF, o, h1, h2⟩ := hS.cell p _ e
      cases c with
      | lst us =>
        refine ⟨upd F p o, Ex.new hF, hS.freeze e h1, fun F2 e2 v r => ?_⟩
        cases r
        cases h2 with
        | lst q => exact .lst (e2 _ _ upd_same) (q.mono ((Ex.new hF).trans e2))
      | dk us =>
        refine ⟨upd F p o, Ex.new hF, hS.freeze e h1, fun F2 e2 v r => ?_⟩
        cases r
        cases h2 with
        | dk q => exact .dk (e2 _ _ upd_same) (q.mono ((Ex.new hF).trans e2))
      | dt us => exact same
      | dn us => exact same
      | exc nm => exact same
  | _ => exact same
theorem frzL_ok : ∀ (ds : List D) {F : Hp} {C : AH} {R H : Hp}, Sat B K F C R H → ∃ F', Ex F F' ∧ Sat B K F' (frzL C ds).2 R H ∧ ∀ F'', Ex F' F'' → ∀ vs, RepL K F'' vs ds → RepL K F'' vs (frzL C ds).1
  | [], F, _, _, _, hS => ⟨F, Ex.refl F, hS, fun _ _ _ h => h⟩
  | d :: ds, F, C, R, H, hS => by
    obtain ⟨F1, e1, S1, r1⟩ := frz1_ok hS d
    obtain ⟨F2, e2, S2, r2⟩ := frzL_ok ds S1
    refine ⟨F2, e1.trans e2, S2, fun F3 e3 vs h => ?_⟩
    cases h with
    | cons a b => exact .cons (r1 F3 (e2.trans e3) _ a) (r2 F3 e3 _ b)
/-- the cells in the list of a slot -/
def aFrzIn (i : Nat) (a : AS') : AS' := fun E s C => match s[i]? with
  | some (some (.lst ds)) => a E (s.set i (some (.lst (frzL C ds).1))) (frzL C ds).2
  | _ => False
theorem sim_frzIn {t : TS} {a : AS'} (i : Nat) (h : SimS B K t a) : SimS B K t (aFrzIn i a) := fun D' E σ s F C R H hE hs hS h0 => by
  unfold aFrzIn at h0
  split at h0
  · rename_i ds e
    obtain ⟨F1, e1, S1, r1⟩ := frzL_ok ds hS
    refine h D' E σ _ F1 _ R H (hE.mono e1) ((hs.mono e1).reset e fun v r => ?_) S1 h0
    cases r with
    | lst q1 q2 => exact .lst q1 (r1 F1 (Ex.refl F1) _ q2)
  · exact h0.elim
theorem ass_frzIn {X : Cx} {sts : List Stmt} {t : TS} {a : AS'} (i : Nat) (h : ASs B X sts t a) : ASs B X sts t (aFrzIn i a) := ⟨h.ps, sim_frzIn i h.sim⟩
end
/-! cells that are unlike -/
theorem frzL_lists {C : AH} : ∀ (qs : List Addr) (us : List (List D)), us.length = qs.length → qs.Nodup → (∀ (i : Nat) q u, qs[i]? = some q → us[i]? = some u → C q = some (.lst u)) →
    (frzL C (qs.map D.ce)).1 = us.map D.lst ∧ (∀ p, p ∉ qs → (frzL C (qs.map D.ce)).2 p = C p) ∧ ∀ p, p ∈ qs → (frzL C (qs.map D.ce)).2 p = none := by
  intro qs
  induction qs generalizing C with
  | nil =>
    intro us hl _ _
    cases us with
    | nil => exact ⟨rfl, fun _ _ => rfl, fun _ h => by cases h⟩
    | cons _ _ => cases hl
  | cons q qs ih =>
    intro us hl hn h
    cases us with
    | nil => cases hl
    | cons u us =>
      have h0 := h 0 q u rfl rfl
      have hn1 := (List.nodup_cons.mp hn)
      have e1 : frz1 C (.ce q) = (.lst u, del C q) := frz1_ce h0
      have st := ih (C := del C q) us (by simpa using hl) hn1.2 fun i r w hr hw => by
        refine (del_other ?_ (h (i + 1) r w (by simpa using hr) (by simpa using hw)))
        intro z
        exact hn1.1 (z ▸ List.mem_of_getElem? hr)
      obtain ⟨s1, s2, s3⟩ := st
      have u1 : (frzL C (D.ce q :: qs.map D.ce)).1 = .lst u :: (frzL (del C q) (qs.map D.ce)).1 := by show (frz1 C (.ce q)).1 :: (frzL (frz1 C (.ce q)).2 _).1 = _; rw [e1]
      have u2 : (frzL C (D.ce q :: qs.map D.ce)).2 = (frzL (del C q) (qs.map D.ce)).2 := by show (frzL (frz1 C (.ce q)).2 _).2 = _; rw [e1]
      refine ⟨by rw [List.map_cons, u1, s1]; rfl, fun p hp => ?_, fun p hp => ?_⟩
      · rw [List.map_cons, u2, s2 p (fun z => hp (List.mem_cons_of_mem _ z))]
        unfold del
        rw [if_neg (fun z => hp (by rw [z]; exact List.mem_cons_self ..))]
      · rw [List.map_cons, u2]
        by_cases hq : p ∈ qs
        · exact s3 p hq
        · rw [s2 p hq]
          rcases List.mem_cons.mp hp with z | z
          · subst z; exact del_same
          · exact absurd z hq
theorem g_frzIn {a : AS'} {E : AEnds} {s : ASt} {C : AH} {i : Nat} {ds : List D} (h0 : s[i]? = some (some (.lst ds))) (h : a E (s.set i (some (.lst (frzL C ds).1))) (frzL C ds).2) : aFrzIn i a E s C := by
  unfold aFrzIn
  rw [h0]
  exact h
end AL

namespace AL
open PySem PySem.Spec PyProof.Rows L2
variable {B : Bs}
section
variable {X : Cx} {K : PySem.W.Frag}
/-! ### a text, so many times -/
def timesL (x : Str) (n : Nat) : Str := ⟨(List.replicate n x.cps).foldl (· ++ ·) #[]⟩
theorem timesF_toList (l : List (Array Nat)) : ∀ acc : Array Nat, (l.foldl (· ++ ·) acc).toList = acc.toList ++ (l.map Array.toList).flatten := by
  induction l with
  | nil => intro acc; simp
  | cons a l ih => intro acc; simp [ih]
theorem timesL_toList (x : Str) (n : Nat) : (timesL x n).cps.toList = (List.replicate n x.cps.toList).flatten := by
  unfold timesL
  rw [timesF_toList]
  simp
theorem timesL_len (x : Str) (n : Nat) : (timesL x n).length = n * x.length := by
  show (timesL x n).cps.size = _
  rw [← Array.length_toList, timesL_toList, List.length_flatten, List.map_replicate]
  simp
  rfl
theorem timesL_one (x : Str) : timesL x 1 = x := by
  have : (timesL x 1).cps.toList = x.cps.toList := by rw [timesL_toList]; simp
  cases x with
  | mk c =>
    have := Array.toList_inj.mp this
    show Str.mk _ = _
    exact congrArg Str.mk this
def rMulS : R2 := fun x y H Q => ∃ z n, x = .str z ∧ y = .int n ∧ -1000000 ≤ n ∧ n ≤ 1000000 ∧ z.length * n.toNat ≤ 16000000 ∧ Q (.str (timesL z n.toNat)) H
theorem op_mulS : OpR X (binaryOp .Mult) rMulS := by
  intro pins s σ H x y v u Q I rx ry h
  obtain ⟨z, n, rfl, rfl, h1, h2, h3, q⟩ := h
  obtain ⟨t, rfl⟩ := rx
  obtain ⟨t2, rfl⟩ := ry
  have fin : ∀ (tk t3 : Tok) (y : Str), y = timesL z n.toNat → EP X pins σ Q (.str y t3) { s with toks := tk } := fun tk t3 y e => ⟨.str _, H, I.tok _, ⟨_, rfl⟩, by rw [e]; exact q⟩
  refine P.mul_str ?_ (fun a _ => ?_) (fun a _ => ?_) ?_
  · rw [decide_eq_false (by omega), decide_eq_false (by omega)]; rfl
  · have hl : z.length ≤ z.length * n.toNat := Nat.le_mul_of_pos_right _ (by omega)
    have e : (2 ^ 63 - 1) / (1000000 : Int) ≤ (2 ^ 63 - 1) / n := by
      refine (Int.le_ediv_iff_mul_le (by omega)).mpr ?_
      have : (2 ^ 63 - 1) / (1000000 : Int) * n ≤ (2 ^ 63 - 1) / (1000000 : Int) * 1000000 := Int.mul_le_mul_of_nonneg_left h2 (by decide)
      have : (2 ^ 63 - 1) / (1000000 : Int) * 1000000 ≤ 2 ^ 63 - 1 := by decide
      omega
    have e2 : (16000000 : Int) ≤ (2 ^ 63 - 1) / (1000000 : Int) := by decide
    omega
  · unfold Builtin.Str.tooLong
    rw [decide_eq_false_iff_not, sizeLine_eq]
    omega
  · split
    · rename_i a
      refine ⟨by decide, fin _ _ _ ?_⟩
      rw [show n.toNat = 0 by omega]
      rfl
    · rename_i a
      split
      · rename_i b
        refine fin _ _ _ ?_
        simp only [Bool.or_eq_true, beq_iff_eq] at b
        rcases b with b | b
        · subst b; exact (timesL_one z).symm
        · have e : (timesL z n.toNat).length = 0 := by rw [timesL_len, b, Nat.mul_zero]
          cases z with
          | mk c =>
            have c0 : c = #[] := Array.eq_empty_of_size_eq_zero b
            have d0 : (timesL ⟨c⟩ n.toNat).cps = #[] := Array.eq_empty_of_size_eq_zero e
            show Str.mk c = timesL ⟨c⟩ n.toNat
            rw [c0] at d0 ⊢
            exact congrArg Str.mk d0.symm
      · refine ⟨?_, fin _ _ _ rfl⟩
        show (timesL z n.toNat).length ≤ sizeLine
        rw [timesL_len, sizeLine_eq, Nat.mul_comm]
        omega
def aMulS : D → D → AH → (D → AH → Prop) → Prop := fun x y C P => match x, y with
  | .str z, .int n => -1000000 ≤ n ∧ n ≤ 1000000 ∧ z.length * n.toNat ≤ 16000000 ∧ P (.str (timesL z n.toNat)) C
  | _, _ => False
theorem ao_mulS : AOp B X (binaryOp .Mult) rMulS aMulS := ⟨op_mulS, by
  intro v w d e F C R H Q P hS r1 r2 h k
  unfold aMulS at h
  split at h
  · cases r1; cases r2
    exact ⟨_, _, rfl, rfl, h.1, h.2.1, h.2.2.1, k _ _ F C H (Ex.refl F) hS (.str _) h.2.2.2⟩
  · exact h.elim⟩
theorem g_mulS {C : AH} {P : D → AH → Prop} {z : Str} {n : Nat} (h1 : n ≤ 1000000) (h2 : z.length * n ≤ 16000000) (h : P (.str (timesL z n)) C) : aMulS (.str z) (.int n) C P := ⟨by omega, by omega, h2, h⟩
end
end AL

namespace AL
open PySem PySem.Spec PyProof.Rows L2
variable {B : Bs}
/-! ### what is walked by enumerate, by zip: a list, a tuple, a text -/
inductive Src where
  | ls (a : Addr) | tp (a : Addr) | tx (z : Str)
def Src.holds (K : PySem.W.Frag) (H : Hp) : Src → List V → Prop
  | .ls a, xs => SqL K H a xs
  | .tp a, xs => SqT K H a xs
  | .tx z, xs => xs = signsV z
def Src.v : Src → V
  | .ls a => .ref a
  | .tp a => .ref a
  | .tx z => .str z
/-- the iterator at it, i items taken -/
def Src.iter (h : Heap) (it : Addr) (i : Nat) : Src → Prop
  | .ls a => h.IsListIter it a i
  | .tp a => h.IsTupleIter it a i
  | .tx z => ∃ t, h.IsStrIter it (strIterType z) z t i
def Src.ref : Src → Option Addr
  | .ls a => some a
  | .tp a => some a
  | .tx _ => none
theorem Src.iter_at {h h' : Heap} {it : Addr} {i : Nat} : ∀ {x : Src}, x.iter h it i → (∀ o, h.get? it = some o → h'.get? it = some o) → x.iter h' it i
  | .ls a, st, k => st.at k
  | .tp a, st, k => st.at k
  | .tx z, ⟨t, o, e, c, d⟩, k => ⟨t, o, k _ e, c, d⟩
theorem Src.iter_obj {h : Heap} {it : Addr} {i : Nat} : ∀ {x : Src}, x.iter h it i → ∃ o, h.get? it = some o ∧ ∀ v, o.data ≠ .cell v
  | .ls a, ⟨o, e, _, d⟩ => ⟨o, e, fun v q => by rw [d] at q; cases q⟩
  | .tp a, ⟨o, e, _, d⟩ => ⟨o, e, fun v q => by rw [d] at q; cases q⟩
  | .tx z, ⟨t, o, e, _, d⟩ => ⟨o, e, fun v q => by rw [d] at q; cases q⟩
section
variable {X : Cx} {pins : List (Addr × Obj)} {σ : L2.St} {H : Hp} {s : Shared}
theorem vals_back : ∀ {xs : List V} {us : List Value} {i : Nat} {u : Value}, Vals xs us → us[i]? = some u → ∃ x, xs[i]? = some x ∧ RelV x u
  | _, _, _, _, .nil, e => by simp at e
  | _, _, 0, _, .cons r _, e => by simp at e; subst e; exact ⟨_, rfl, r⟩
  | _, _, i + 1, u, .cons _ t, e => by
    obtain ⟨x, h1, h2⟩ := vals_back (i := i) (u := u) t (by simpa using e)
    exact ⟨x, by simpa using h1, h2⟩
theorem Src.inj (I : Inv X pins σ H s) : ∀ {x : Src} {xs ys : List V}, x.holds X.K H xs → x.holds X.K H ys → xs = ys
  | .ls a, _, _, h, g => I.list_inj h g
  | .tp a, _, _, h, g => I.tuple_inj h g
  | .tx z, _, _, h, g => h.trans g.symm
/-- one step's draws -/
structure Drw (X : Cx) (A : Around) (x : Src) (xs : List V) (it : Addr) (fp : List Addr) (P : Nat → Value → Prop) (St : Nat → Heap → Prop) : Prop where
  D : Draws X.prog X.w A it fp xs.length P St
  val : ∀ i u, P i u → ∃ v, xs[i]? = some v ∧ RelV v u
  back : ∀ i h, St i h → x.iter h it i
  mem : it ∈ fp
  low : ∀ h i, St i h → ∀ b ∈ fp, b < h.objs.size
  sub : ∀ b ∈ fp, b = it ∨ x.ref = some b
theorem Src.drw (I : Inv X pins σ H s) {A : Around} (hh : A.handled = none) {it : Addr} {i : Nat} : ∀ {x : Src} {xs : List V}, x.holds X.K H xs → x.iter s.heap it i → x.ref ≠ some it → ∃ fp P St, Drw X A x xs it fp P St ∧ St i s.heap
  | .ls a, xs, h, st, hn => by
    obtain ⟨its, rv, p, _⟩ := I.list h
    have l := rv.length
    have hne : a ≠ it := fun z => hn (by rw [z]; rfl)
    have D := Draws.list (prog := X.prog) (w := X.w) hh it a hne its.toArray
    rw [show its.toArray.size = xs.length by simpa using l.symm] at D
    refine ⟨_, _, _, ⟨D, fun j u hu => ?_, fun j h st => st.1, by simp, fun h j st b hb => ?_, fun b hb => ?_⟩, st, p.isList⟩
    · obtain ⟨v, h1, h2⟩ := vals_back rv (by simpa using hu)
      exact ⟨v, h1, h2⟩
    · have e : b = it ∨ b = a := by simpa using hb
      obtain ⟨⟨o, e1, _⟩, ⟨o2, e2, _⟩⟩ := st
      rcases e with z | z
      · rw [z]; exact Heap.lt_size e1
      · rw [z]; exact Heap.lt_size e2
    · have e : b = it ∨ b = a := by simpa using hb
      exact e.imp id fun z => by rw [z]; rfl
  | .tp a, xs, h, st, hn => by
    obtain ⟨its, rv, p, _⟩ := I.tuple h
    have l := rv.length
    have hne : a ≠ it := fun z => hn (by rw [z]; rfl)
    have D := Draws.tuple (prog := X.prog) (w := X.w) hh it a hne its.toArray
    rw [show its.toArray.size = xs.length by simpa using l.symm] at D
    refine ⟨_, _, _, ⟨D, fun j u hu => ?_, fun j h st => st.1, by simp, fun h j st b hb => ?_, fun b hb => ?_⟩, st, p⟩
    · obtain ⟨v, h1, h2⟩ := vals_back rv (by simpa using hu)
      exact ⟨v, h1, h2⟩
    · have e : b = it ∨ b = a := by simpa using hb
      obtain ⟨⟨o, e1, _⟩, ⟨o2, e2, _⟩⟩ := st
      rcases e with z | z
      · rw [z]; exact Heap.lt_size e1
      · rw [z]; exact Heap.lt_size e2
    · have e : b = it ∨ b = a := by simpa using hb
      exact e.imp id fun z => by rw [z]; rfl
  | .tx z, xs, h, ⟨t, st⟩, hn => by
    have h : xs = signsV z := h
    have D := Draws.text (prog := X.prog) (w := X.w) hh it z t
    have l : xs.length = z.cps.size := by rw [h]; unfold signsV; rw [List.length_map, Array.length_toList]
    rw [← l] at D
    refine ⟨_, _, _, ⟨D, fun j u hu => ?_, fun j h st => ⟨t, st⟩, by simp, fun h j st b hb => ?_, fun b hb => .inl (by simpa using hb)⟩, st⟩
    · obtain ⟨c, t2, hc, rfl⟩ := hu
      refine ⟨.str ⟨#[c]⟩, ?_, t2, rfl⟩
      rw [h]
      unfold signsV
      rw [List.getElem?_map, Array.getElem?_toList, hc]
      rfl
    · have e : b = it := by simpa using hb
      obtain ⟨o, e1, _⟩ := st
      rw [e]; exact Heap.lt_size e1
/-! zip -/
def ItzG (K : PySem.W.Frag) (a b : Src) : It :=
  ⟨fun i H => ∃ (xs ys : List V) (x y : V), a.holds K H xs ∧ b.holds K H ys ∧ xs[i]? = some x ∧ ys[i]? = some y,
    fun i H v H' => ∃ T x y, v = .ref T ∧ H T = none ∧ H' = upd H T (.tup [x, y]) ∧ (∀ xs, a.holds K H xs → xs[i]? = some x) ∧ ∀ ys, b.holds K H ys → ys[i]? = some y,
    fun i H => ∃ xs ys : List V, a.holds K H xs ∧ b.holds K H ys ∧ i = min xs.length ys.length⟩
structure ZApart (a b : Src) (z TI TO i1 i2 : Addr) : Prop where
  TIz : TI ≠ z
  TOz : TO ≠ z
  TITO : TI ≠ TO
  TIi1 : TI ≠ i1
  TIi2 : TI ≠ i2
  TOi1 : TO ≠ i1
  TOi2 : TO ≠ i2
  zi1 : z ≠ i1
  zi2 : z ≠ i2
  i12 : i1 ≠ i2
  ra : ∀ c ∈ [z, TI, TO, i1, i2], a.ref ≠ some c
  rb : ∀ c ∈ [z, TI, TO, i1, i2], b.ref ≠ some c
theorem sep_of {a b : Src} {z TI TO i1 i2 : Addr} {fp1 fp2 : List Addr} (Z : ZApart a b z TI TO i1 i2) (m1 : i1 ∈ fp1) (m2 : i2 ∈ fp2) (s1 : ∀ c ∈ fp1, c = i1 ∨ a.ref = some c) (s2 : ∀ c ∈ fp2, c = i2 ∨ b.ref = some c) : ZipSep2 z TI TO i1 i2 fp1 fp2 :=
  { TIz := Z.TIz, TOz := Z.TOz, TITO := Z.TITO, TIi1 := Z.TIi1, mem1 := m1, TIi2 := Z.TIi2, mem2 := m2,
    zf1 := fun h => (s1 _ h).elim Z.zi1 (Z.ra z (by simp)), Tf1 := fun h => (s1 _ h).elim Z.TOi1 (Z.ra TO (by simp)),
    zf2 := fun h => (s2 _ h).elim Z.zi2 (Z.rb z (by simp)), Tf2 := fun h => (s2 _ h).elim Z.TOi2 (Z.rb TO (by simp)),
    sep1_2 := fun h => (s2 _ h).elim Z.i12 (Z.rb i1 (by simp)), sep2_1 := fun h => (s1 _ h).elim (fun e => Z.i12 e.symm) (Z.ra i2 (by simp)) }
theorem turn_zipG {P : Program} {w : World} {K : PySem.W.Frag} {elts : List Expr} {kk : Nat} {tpos : Pos} {a b : Src} {z TI TO i1 i2 : Addr} (Z : ZApart a b z TI TO i1 i2) :
    Turn P w K (.Tuple elts kk tpos) (ItzG K a b) [z, TI, TO, i1, i2] z (fun i h => IsZip h z TI TO .none ∧ IsTupOf2 h TI (.ref i1) (.ref i2) ∧ (∃ x y, IsTupOf2 h TO x y) ∧ a.iter h i1 i ∧ b.iter h i2 i) where
  mem := by simp
  obj := fun i h st c hc => by
    obtain ⟨hz, hTI, ⟨x, y, hTO⟩, h1, h2⟩ := st
    simp only [List.mem_cons, List.not_mem_nil, or_false] at hc
    rcases hc with q | q | q | q | q <;> rw [q]
    · exact ⟨_, hz, fun v q => nomatch q⟩
    · exact ⟨_, hTI, fun v q => nomatch q⟩
    · exact ⟨_, hTO, fun v q => nomatch q⟩
    · exact Src.iter_obj h1
    · exact Src.iter_obj h2
  keep := fun i h h' st k => by
    obtain ⟨hz, hTI, ⟨x, y, hTO⟩, h1, h2⟩ := st
    exact ⟨k z (by simp) _ hz, k TI (by simp) _ hTI, ⟨x, y, k TO (by simp) _ hTO⟩, Src.iter_at h1 fun o q => k i1 (by simp) o q, Src.iter_at h2 fun o q => k i2 (by simp) o q⟩
  item := by
    intro X hP hw hK hc i pins s σ H E I hf st hg
    subst hP hw hK
    obtain ⟨hz, hTI, hTO, h1, h2⟩ := st
    obtain ⟨xs, ys, x, y, hqx, hqy, hx, hy⟩ := hg
    have hh : X.A.in1.handled = none := I.ok.hd hc
    obtain ⟨fp1, P1, St1, D1, st1⟩ := Src.drw I hh hqx h1 (Z.ra i1 (by simp))
    obtain ⟨fp2, P2, St2, D2, st2⟩ := Src.drw I hh hqy h2 (Z.rb i2 (by simp))
    have G := GoesN.zip2 (elts := elts) (x1 := kk) (pos := tpos) (sep_of Z D1.mem D2.mem D1.sub D2.sub) D1.D D2.D
    have lx := (List.getElem?_eq_some_iff.mp hx).1
    have ly := (List.getElem?_eq_some_iff.mp hy).1
    refine wpAny_mono (G.goes i s (fun v s2 => ∃ x H', Inv X pins σ H' s2 ∧ RelV x v ∧ (ItzG X.K a b).yld i H x H' ∧ (IsZip s2.heap z TI TO .none ∧ IsTupOf2 s2.heap TI (.ref i1) (.ref i2) ∧ (∃ x y, IsTupOf2 s2.heap TO x y) ∧ a.iter s2.heap i1 (i + 1) ∧ b.iter s2.heap i2 (i + 1)) ∧ ∀ b ∈ [z, TI, TO, i1, i2], H' b = none) E (by omega) ⟨hz, hTI, hTO, st1, st2⟩ fun v h' tk Y St' keep _ => ?_) (fun r s1 h => ?_) (fun _ _ h => h)
    · obtain ⟨T, u1, u2, rfl, hT, p1, p2, tT⟩ := Y
      obtain ⟨v1, e1, r1⟩ := D1.val i u1 p1
      obtain ⟨v2, e2, r2⟩ := D2.val i u2 p2
      obtain ⟨o, ho, hcl, n, hd⟩ := id tT
      have new : ObjOk X.prog X.w (upd H T (.tup [v1, v2])) h' T (.tup [v1, v2]) := ⟨by show 2 ≤ sizeLine; decide, [u1, u2], .cons r1 (.cons r2 .nil), ⟨o, ho, hcl, n, hd⟩⟩
      have I1 : Inv X pins σ (upd H T (.tup [v1, v2])) { s with heap := h', toks := tk } :=
        I.turnedNew (ch := [z, TI, TO, i1, i2]) (fun c o hb q => keep c o (fun hm => hb (by simp only [List.mem_cons, List.not_mem_nil, or_false] at hm ⊢; rcases hm with q | q | q | q <;> simp [q])) q) hf hT new
      obtain ⟨a1, a2, a3, a4, a5⟩ := St'
      refine ⟨.ref T, _, I1, rfl, ⟨T, v1, v2, rfl, I.hok.fresh hT, rfl, fun l hl => by rw [Src.inj I hl hqx]; exact e1, fun l hl => by rw [Src.inj I hl hqy]; exact e2⟩, ⟨a1, a2, a3, D1.back _ _ a4, D2.back _ _ a5⟩, fun c hcm => ?_⟩
      have hlt : c < s.heap.objs.size := by
        obtain ⟨x0, y0, hTO⟩ := hTO
        simp only [List.mem_cons, List.not_mem_nil, or_false] at hcm
        rcases hcm with q | q | q | q | q <;> rw [q]
        · exact Heap.lt_size hz
        · exact Heap.lt_size hTI
        · exact Heap.lt_size hTO
        · exact D1.low _ _ st1 _ D1.mem
        · exact D2.low _ _ st2 _ D2.mem
      rw [upd_ne (Nat.ne_of_lt (Nat.lt_of_lt_of_le hlt hT))]
      exact (hf c hcm).1
    · obtain ⟨v, e, q⟩ := h
      exact ⟨v, e, q⟩
  done := by
    intro X hP hw hK hc i pins s σ H E I hf st hg
    subst hP hw hK
    obtain ⟨hz, hTI, hTO, h1, h2⟩ := st
    obtain ⟨xs, ys, hqx, hqy, hend⟩ := hg
    have hh : X.A.in1.handled = none := I.ok.hd hc
    obtain ⟨fp1, P1, St1, D1, st1⟩ := Src.drw I hh hqx h1 (Z.ra i1 (by simp))
    obtain ⟨fp2, P2, St2, D2, st2⟩ := Src.drw I hh hqy h2 (Z.rb i2 (by simp))
    have G := GoesN.zip2 (elts := elts) (x1 := kk) (pos := tpos) (sep_of Z D1.mem D2.mem D1.sub D2.sub) D1.D D2.D
    subst hend
    exact G.stops s _ E ⟨hz, hTI, hTO, st1, st2⟩ fun h' tk keep _ => I.turnedL (ch := [z, TI, TO, i1, i2]) (fun c o hb q => keep c o (fun hm => hb (by simp only [List.mem_cons, List.not_mem_nil, or_false] at hm ⊢; rcases hm with q | q | q | q <;> simp [q])) q) hf
  self := fun A i s Q E st h => wpAny_pyIter_zip st.1 h
/-- how a source's iterator begins -/
theorem Src.begins (I : Inv X pins σ H s) : ∀ {x : Src} {xs : List V} {u : Value}, x.holds X.K H xs → RelV x.v u → ∃ o Hh, Begins u o Hh ∧ Hh s.heap ∧ ∀ (h : Heap) (it : Addr), h.get? it = some o → x.iter h it 0
  | .ls a, xs, u, h, r => by
    cases r
    obtain ⟨its, rv, p, _⟩ := I.list h
    exact ⟨_, _, begins_list a its.toArray, p.isList, fun h it e => ⟨_, e, rfl, rfl⟩⟩
  | .tp a, xs, u, h, r => by
    cases r
    obtain ⟨its, rv, p, _⟩ := I.tuple h
    exact ⟨_, _, begins_tuple a its.toArray, p, fun h it e => ⟨_, e, rfl, rfl⟩⟩
  | .tx z, xs, u, h, r => by
    obtain ⟨t, rfl⟩ := r
    exact ⟨_, _, begins_text z t, trivial, fun h it e => ⟨t, _, e, rfl, rfl⟩⟩
theorem Src.low (I : Inv X pins σ H s) : ∀ {x : Src} {xs : List V} {a : Addr}, x.holds X.K H xs → x.ref = some a → a < s.heap.objs.size
  | .ls a, xs, b, h, e => by
    cases e
    obtain ⟨its, rv, p, _⟩ := I.list h
    obtain ⟨o, e, _⟩ := p.isList
    exact Heap.lt_size e
  | .tp a, xs, b, h, e => by
    cases e
    obtain ⟨its, rv, ⟨o, e, _⟩, _⟩ := I.tuple h
    exact Heap.lt_size e
  | .tx z, xs, b, h, e => by cases e
def iZipG (K : PySem.W.Frag) (ta : TA) : TI := fun σ H R => ta σ H fun vs H1 => ∃ (a b : Src) (xs ys : List V), vs = [a.v, b.v] ∧ a.holds K H1 xs ∧ b.holds K H1 ys ∧ R (ItzG K a b) H1
theorem pi_zipG {e e2 : Expr} {ta : TA} {p pos tpos : Pos} {elts : List Expr} {kk : Nat} (hg : Gl X "zip") (hm : X.mg "zip" = none) (ha : PA X [e, e2] ta)
    (hs : starEach [e, e2] X.env = (false, eval e X.env) :: starEach [e2] X.env := by rfl) (hpl : (backTo pos (starEach [e2] X.env)).any (·.1) = false := by rfl) :
    PI X (.Tuple elts kk tpos) (.Call (.Name "zip" p) [e, e2] [] pos) (iZipG X.K ta) := by
  refine ⟨fun pins s σ H R I h => Call_ (ld_blt I hg hm PyProof.Rows.boot_zip (PyProof.Rows.callWith_type1 (thn (ha.run pos pins s σ H _ I h) fun us s1 ⟨vs, H1, I1, r1, q1⟩ => ?_) hs hpl))⟩
  obtain ⟨a, b, xs, ys, ex, h1, h2, q⟩ := q1
  subst ex
  cases r1 with
  | cons ra rr =>
    cases rr with
    | cons rb rr =>
      cases rr
      obtain ⟨o1, B1, b1, k1, i1⟩ := Src.begins I1 h1 ra
      obtain ⟨o2, B2, b2, k2, i2⟩ := Src.begins I1 h2 rb
      refine zip_begins2 b1 b2 k1 k2 fun h' hz hTI hTO g1 g2 hsz hk => wpAny_pyIter_zip hz ?_
      have I2 : Inv X pins σ H1 { s1 with heap := h' } := I1.kept (t' := s1.toks) hk
      have fr : ∀ c ∈ [s1.heap.objs.size + 4, s1.heap.objs.size + 2, s1.heap.objs.size + 3, s1.heap.objs.size, s1.heap.objs.size + 1], s1.heap.objs.size ≤ c := fun c hc => by
        simp only [List.mem_cons, List.not_mem_nil, or_false] at hc
        rcases hc with z | z | z | z | z <;> rw [z]
        · exact Nat.le_add_right _ _
        · exact Nat.le_add_right _ _
        · exact Nat.le_add_right _ _
        · exact Nat.le_refl _
        · exact Nat.le_add_right _ _
      have ap : ∀ {x : Src} {l : List V}, x.holds X.K H1 l → ∀ c ∈ [s1.heap.objs.size + 4, s1.heap.objs.size + 2, s1.heap.objs.size + 3, s1.heap.objs.size, s1.heap.objs.size + 1], x.ref ≠ some c := fun hx c hc z => absurd (Src.low I1 hx z) (Nat.not_lt.mpr (fr c hc))
      have ne : ∀ i j : Nat, i ≠ j → (s1.heap.objs.size + i : Nat) ≠ s1.heap.objs.size + j := fun i j h e => h (Nat.add_left_cancel e)
      refine ⟨s1.heap.objs.size + 4, [s1.heap.objs.size + 4, s1.heap.objs.size + 2, s1.heap.objs.size + 3, s1.heap.objs.size, s1.heap.objs.size + 1], _, _, H1, rfl, I2, turn_zipG (a := a) (b := b)
        { TIz := ne 2 4 (by decide), TOz := ne 3 4 (by decide), TITO := ne 2 3 (by decide), TIi1 := ne 2 0 (by decide), TIi2 := ne 2 1 (by decide), TOi1 := ne 3 0 (by decide), TOi2 := ne 3 1 (by decide), zi1 := ne 4 0 (by decide), zi2 := ne 4 1 (by decide), i12 := ne 0 1 (by decide), ra := ap h1, rb := ap h2 },
        ⟨hz, hTI, ⟨_, _, hTO⟩, i1 _ _ g1, i2 _ _ g2⟩, fun c hc => I1.fpOk (fr c hc) (I1.hok.fresh (fr c hc)), q⟩
/-! enumerate -/
def IteG (K : PySem.W.Frag) (a : Src) : It :=
  ⟨fun i H => ∃ (xs : List V) (x : V), a.holds K H xs ∧ xs[i]? = some x,
    fun i H v H' => ∃ T x, v = .ref T ∧ H T = none ∧ H' = upd H T (.tup [.int (i : Nat), x]) ∧ ∀ xs, a.holds K H xs → xs[i]? = some x,
    fun i H => ∃ xs : List V, a.holds K H xs ∧ i = xs.length⟩
theorem turn_enumG {P : Program} {w : World} {K : PySem.W.Frag} {elts : List Expr} {kk : Nat} {tpos : Pos} {a : Src} {e it : Addr} (hne : e ≠ it) (ra : ∀ c ∈ [e, it], a.ref ≠ some c) :
    Turn P w K (.Tuple elts kk tpos) (IteG K a) [e, it] e (fun i h => (∃ old, IsEnum h e it ((i : Nat) : Int) old) ∧ a.iter h it i) where
  mem := by simp
  obj := fun i h st c hc => by
    obtain ⟨⟨old, he⟩, h1⟩ := st
    simp only [List.mem_cons, List.not_mem_nil, or_false] at hc
    rcases hc with q | q <;> rw [q]
    · exact ⟨_, he, fun v q => nomatch q⟩
    · exact Src.iter_obj h1
  keep := fun i h h' st k => ⟨let ⟨old, he⟩ := st.1; ⟨old, k e (by simp) _ he⟩, Src.iter_at st.2 fun o q => k it (by simp) o q⟩
  item := by
    intro X hP hw hK hc i pins s σ H E I hf st hg
    subst hP hw hK
    obtain ⟨⟨old, he⟩, h1⟩ := st
    obtain ⟨xs, x, hqx, hx⟩ := hg
    have hh : X.A.in1.handled = none := I.ok.hd hc
    obtain ⟨fp1, P1, St1, D1, st1⟩ := Src.drw I hh hqx h1 (ra it (by simp))
    have G := GoesN.enumFrom (elts := elts) (x1 := kk) (pos := tpos) 0 D1.D e hne (fun hm => (D1.sub _ hm).elim hne (ra e (by simp))) D1.mem
    have lx := (List.getElem?_eq_some_iff.mp hx).1
    refine wpAny_mono (G.goes i s (fun v s2 => ∃ x H', Inv X pins σ H' s2 ∧ RelV x v ∧ (IteG X.K a).yld i H x H' ∧ ((∃ old, IsEnum s2.heap e it ((i + 1 : Nat) : Int) old) ∧ a.iter s2.heap it (i + 1)) ∧ ∀ b ∈ [e, it], H' b = none) E lx ⟨⟨old, by rw [Int.zero_add]; exact he⟩, st1⟩ fun v h' tk Y St' keep _ => ?_) (fun r s1 h => ?_) (fun _ _ h => h)
    · obtain ⟨T, t, u1, rfl, hT, p1, tT⟩ := Y
      obtain ⟨v1, e1, r1⟩ := D1.val i u1 p1
      obtain ⟨o, ho, hcl, n, hd⟩ := id tT
      have new : ObjOk X.prog X.w (upd H T (.tup [.int (i : Nat), v1])) h' T (.tup [.int (i : Nat), v1]) := ⟨by show 2 ≤ sizeLine; decide, [.int (0 + (i : Int)) t, u1], .cons ⟨t, by rw [Int.zero_add]⟩ (.cons r1 .nil), ⟨o, ho, hcl, n, hd⟩⟩
      have I1 : Inv X pins σ (upd H T (.tup [.int (i : Nat), v1])) { s with heap := h', toks := tk } := I.turnedNew (ch := [e, it]) (fun c o hb q => keep c o hb q) hf hT new
      obtain ⟨⟨old2, a1⟩, a4⟩ := St'
      rw [Int.zero_add] at a1
      refine ⟨.ref T, _, I1, rfl, ⟨T, v1, rfl, I.hok.fresh hT, rfl, fun l hl => by rw [Src.inj I hl hqx]; exact e1⟩, ⟨⟨old2, a1⟩, D1.back _ _ a4⟩, fun c hcm => ?_⟩
      have hlt : c < s.heap.objs.size := by
        simp only [List.mem_cons, List.not_mem_nil, or_false] at hcm
        rcases hcm with q | q <;> rw [q]
        · exact Heap.lt_size he
        · exact D1.low _ _ st1 _ D1.mem
      rw [upd_ne (Nat.ne_of_lt (Nat.lt_of_lt_of_le hlt hT))]
      exact (hf c hcm).1
    · obtain ⟨v, e, q⟩ := h
      exact ⟨v, e, q⟩
  done := by
    intro X hP hw hK hc i pins s σ H E I hf st hg
    subst hP hw hK
    obtain ⟨⟨old, he⟩, h1⟩ := st
    obtain ⟨xs, hqx, hend⟩ := hg
    have hh : X.A.in1.handled = none := I.ok.hd hc
    obtain ⟨fp1, P1, St1, D1, st1⟩ := Src.drw I hh hqx h1 (ra it (by simp))
    have G := GoesN.enumFrom (elts := elts) (x1 := kk) (pos := tpos) 0 D1.D e hne (fun hm => (D1.sub _ hm).elim hne (ra e (by simp))) D1.mem
    subst hend
    exact G.stops s _ E ⟨⟨old, by rw [Int.zero_add]; exact he⟩, st1⟩ fun h' tk keep _ => I.turnedL (ch := [e, it]) (fun c o hb q => keep c o hb q) hf
  self := fun A i s Q E st h => let ⟨⟨_, he⟩, _⟩ := st; wpAny_pyIter_enum he h
theorem meets_enum1 {v : Value} {o : Obj} {Hh : Heap → Prop} (B : Begins v o Hh) : Meets (Builtin.«enumerate.__new__» ⟨[.type "enumerate", v], []⟩) (fun _ R s => Hh s.heap ∧
      R (.ok (.ret (.ref (s.heap.push o).objs.size))) { s with heap := (s.heap.push o).push { cls := .type "enumerate", data := .fields #[.none, .bool false, .ref s.heap.objs.size, rawInt 0, .none, .none] } }) :=
  .of_wp fun prog w A R s h => by
    obtain ⟨hp, g, d, tk, os⟩ := s
    obtain ⟨h1, h⟩ := h
    have sub := sub_enumerate
    have begun : ∀ {A1 : Around} {E Q : Value → Shared → Prop}, Q (.ref hp.objs.size) ⟨hp.push o, g, d, tk, os⟩ → wpAny (model prog w) A1 (pyIter v) Q E ⟨hp, g, d, tk, os⟩ := fun q => B.iter prog w _ _ ⟨hp, g, d, tk, os⟩ _ h1 q
    wp_walk using begun
    refine wpAny_stack_any fun st => wpAny_pure ?_
    split
    · rename_i c _ _ _ _ _
      cases (c == Value.type "enumerate") <;> (wp_walk using begun; exact ⟨_, rfl, h⟩)
    · wp_walk using begun
      exact ⟨_, rfl, h⟩
theorem enum_begins1 {prog : Program} {w : World} {A : Around} {E : Value → Shared → Prop} {s : Shared} {v : Value} {o : Obj} {Hh : Heap → Prop} {Q : Value → Shared → Prop} (B : Begins v o Hh) (h1 : Hh s.heap)
    (h : ∀ h', IsEnum h' (s.heap.objs.size + 1) s.heap.objs.size 0 .none → h'.get? s.heap.objs.size = some o → (∀ b o, s.heap.get? b = some o → h'.get? b = some o) → Q (.ref (s.heap.objs.size + 1)) { s with heap := h' }) :
    wpAny (model prog w) A (call (.type "enumerate") [v]) Q E s := by
  refine callType_new F.called_enumerate (by decide) (F.typeCall_enumerate_1 _) (F.newCall_enumerate_1 _) (fun obj => F.args_object_init_2 obj _) F.entry_enumerate_new (meets_enum1 B) ⟨h1, ?_⟩
  have z1 : (s.heap.push o).objs.size = s.heap.objs.size + 1 := Heap.size_push ..
  show _ ∧ _
  rw [z1]
  have en := Heap.get?_push_size (s.heap.push o) (o := { cls := .type "enumerate", data := .fields #[.none, .bool false, .ref s.heap.objs.size, rawInt 0, .none, .none] }) rfl
  rw [z1] at en
  exact ⟨⟨_, en, rfl⟩, h _ en (Heap.get?_push_of_some _ (Heap.get?_push_size _ B.free)) fun b o x => Heap.get?_push_of_some _ (Heap.get?_push_of_some _ x)⟩
def iEnumG (K : PySem.W.Frag) (ta : TA) : TI := fun σ H R => ta σ H fun vs H1 => ∃ (a : Src) (xs : List V), vs = [a.v] ∧ a.holds K H1 xs ∧ R (IteG K a) H1
theorem pi_enumG {e : Expr} {ta : TA} {p pos tpos : Pos} {elts : List Expr} {kk : Nat} (hg : Gl X "enumerate") (hm : X.mg "enumerate" = none) (ha : PA X [e] ta) (hs : starEach [e] X.env = [(false, eval e X.env)] := by rfl) :
    PI X (.Tuple elts kk tpos) (.Call (.Name "enumerate" p) [e] [] pos) (iEnumG X.K ta) := by
  refine ⟨fun pins s σ H R I h => Call_ (ld_blt I hg hm boot_enumerate (PyProof.Rows.callWith_type1 (thn (ha.run pos pins s σ H _ I h) fun us s1 ⟨vs, H1, I1, r1, q1⟩ => ?_) hs rfl))⟩
  obtain ⟨a, xs, ex, h1, q⟩ := q1
  subst ex
  cases r1 with
  | cons ra rr =>
    cases rr
    obtain ⟨o1, B1, b1, k1, i1⟩ := Src.begins I1 h1 ra
    refine enum_begins1 b1 k1 fun h' he g1 hk => wpAny_pyIter_enum he ?_
    have I2 : Inv X pins σ H1 { s1 with heap := h' } := I1.kept (t' := s1.toks) hk
    have fr : ∀ c ∈ [s1.heap.objs.size + 1, s1.heap.objs.size], s1.heap.objs.size ≤ c := fun c hc => by
      simp only [List.mem_cons, List.not_mem_nil, or_false] at hc
      rcases hc with z | z <;> rw [z]
      · exact Nat.le_add_right _ _
      · exact Nat.le_refl _
    exact ⟨s1.heap.objs.size + 1, [s1.heap.objs.size + 1, s1.heap.objs.size], _, _, H1, rfl, I2, turn_enumG (a := a) (Nat.succ_ne_self _) (fun c hc z => absurd (Src.low I1 h1 z) (Nat.not_lt.mpr (fr c hc))), ⟨⟨.none, he⟩, i1 _ _ g1⟩, fun c hc => I1.fpOk (fr c hc) (I1.hok.fresh (fr c hc)), q⟩
end
end AL

namespace AL
open PySem PySem.Spec PyProof.Rows L2
variable {B : Bs}
section
variable {X : Cx} {pos : Pos} {K : PySem.W.Frag}
/-! ### enumerate, zip of lists, tuples, texts -/
def srcD (C : AH) : D → Option (List D)
  | .str z => some (signs z)
  | .tup ds => some ds
  | d => asLr C d
theorem src_ok {F : Hp} {C : AH} {R H : Hp} {v : V} {d : D} {ds : List D} (hS : Sat B K F C R H) (r : Rep K F v d) (h : srcD C d = some ds) :
    ∃ a : Src, v = a.v ∧ ∀ F' C' R' H', Ex F F' → Sat B K F' C' R' H' → srcD C' d = some ds → ∃ xs, a.holds K H' xs ∧ RepL K F' xs ds := by
  cases d with
  | str z =>
    cases r
    exact ⟨.tx z, rfl, fun F' C' R' H' _ _ h' => ⟨_, rfl, by cases h'; exact signs_rep z⟩⟩
  | tup us =>
    obtain ⟨p, xs, e1, h1, h2⟩ := asT_ok hS r rfl
    refine ⟨.tp p, e1, fun F' C' R' H' e S' h' => ?_⟩
    cases h'
    obtain ⟨p', xs', e2, h3, h4⟩ := asT_ok S' (r.mono e) rfl
    rw [e1] at e2; cases e2
    exact ⟨xs', SqT.of h3, h4⟩
  | _ =>
    obtain ⟨p, xs, e1, h1, h2⟩ := asLr_ok hS r (show asLr C _ = some ds from h)
    refine ⟨.ls p, e1, fun F' C' R' H' e S' h' => ?_⟩
    obtain ⟨p', xs', e2, h3, h4⟩ := asLr_ok S' (r.mono e) (show asLr C' _ = some ds from h')
    rw [e1] at e2; cases e2
    exact ⟨xs', h3, h4⟩
def aIZG (a : AA') : AI' := fun s C P => a s C fun us C1 => match us with | [x, y] => (match srcD C1 x, srcD C1 y with | some ds, some es => P (zipD ds es) (fun C' => srcD C' x = some ds ∧ srcD C' y = some es) C1 | _, _ => False) | _ => False
theorem ai_zipG {e e2 : Expr} {elts : List Expr} {kk n : Nat} {tpos p : Pos} {ta : TA} {a : AA'} (hm : X.mg "zip" = none) (h : AA B X [e, e2] n ta a) (hg : Gl X "zip" := by rfl) (hs : starEach [e, e2] X.env = (false, eval e X.env) :: starEach [e2] X.env := by rfl) (hpl : (backTo pos (starEach [e2] X.env)).any (·.1) = false := by rfl) (hK : X.K = K := by rfl) :
    AI B X (.Tuple elts kk tpos) (.Call (.Name "zip" p) [e, e2] [] pos) (iZipG K ta) (aIZG a) := by
  subst hK
  exact ⟨pi_zipG hg hm h.pa hs hpl, by
  intro σ s F C R H Q P hs hS h0 k
  refine h.sim σ s F C R H _ _ hs hS h0 fun us vs F1 C1 H1 e1 S1 r0 hl h1 => ?_
  split at h1
  · rename_i x y
    cases r0 with
    | cons r1 r2 =>
      cases r2 with
      | cons r2 r3 =>
      cases r3
      split at h1
      · rename_i ds es q q2
        obtain ⟨a, e2, l1⟩ := src_ok S1 r1 q
        obtain ⟨b, e3, l2⟩ := src_ok S1 r2 q2
        obtain ⟨xs, g1, g2⟩ := l1 F1 C1 R H1 (Ex.refl F1) S1 q
        obtain ⟨ys, g3, g4⟩ := l2 F1 C1 R H1 (Ex.refl F1) S1 q2
        refine ⟨a, b, xs, ys, by rw [e2, e3], g1, g3, k _ _ _ F1 C1 H1 e1 S1 ⟨fun F' C' R' H' e S hc => ?_, fun F' C' R' H' i e S hc hi => ?_, fun F' C' R' H' i x H'' e S hc hi y => ?_⟩ h1⟩
        · obtain ⟨xs', h4, h5⟩ := l1 F' C' R' H' e S hc.1
          obtain ⟨ys', g4, g5⟩ := l2 F' C' R' H' e S hc.2
          refine ⟨xs', ys', h4, g4, ?_⟩
          rw [h5.length, g5.length, zipD_len]
        · obtain ⟨xs', h4, h5⟩ := l1 F' C' R' H' e S hc.1
          obtain ⟨ys', g4, g5⟩ := l2 F' C' R' H' e S hc.2
          rw [zipD_len] at hi
          exact ⟨xs', ys', xs'[i]'(by rw [h5.length]; omega), ys'[i]'(by rw [g5.length]; omega), h4, g4, by simp, by simp⟩
        · obtain ⟨xs', h4, h5⟩ := l1 F' C' R' H' e S hc.1
          obtain ⟨ys', g4, g5⟩ := l2 F' C' R' H' e S hc.2
          obtain ⟨T, v, w', y1, y2, y3, y4, y5⟩ := y
          subst y1; subst y3
          obtain ⟨d, h6, h7⟩ := h5.get (y4 xs' h4)
          obtain ⟨d2, g6, g7⟩ := g5.get (y5 ys' g4)
          have eN := Ex.new (o := .tup [v, w']) (S.freeF y2)
          exact ⟨_, _, zipD_get h6 g6, eN, S.newF y2 _, .tup upd_same (.cons (h7.mono eN) (.cons (g7.mono eN) .nil))⟩
      · exact h1.elim
  · exact h1.elim⟩
def aIEG (a : AA') : AI' := fun s C P => a s C fun us C1 => match us with | [x] => (match srcD C1 x with | some ds => P (enumD ds) (fun C' => srcD C' x = some ds) C1 | none => False) | _ => False
theorem ai_enumG {e : Expr} {elts : List Expr} {kk n : Nat} {tpos p : Pos} {ta : TA} {a : AA'} (hm : X.mg "enumerate" = none) (h : AA B X [e] n ta a) (hg : Gl X "enumerate" := by rfl) (hs : starEach [e] X.env = [(false, eval e X.env)] := by rfl) (hK : X.K = K := by rfl) : AI B X (.Tuple elts kk tpos) (.Call (.Name "enumerate" p) [e] [] pos) (iEnumG K ta) (aIEG a) := by
  subst hK
  exact ⟨pi_enumG hg hm h.pa hs, by
  intro σ s F C R H Q P hs hS h0 k
  refine h.sim σ s F C R H _ _ hs hS h0 fun us vs F1 C1 H1 e1 S1 r0 hl h1 => ?_
  split at h1
  · rename_i x
    cases r0 with
    | cons r1 r2 =>
      cases r2
      split at h1
      · rename_i ds q
        obtain ⟨a, e2, l1⟩ := src_ok S1 r1 q
        obtain ⟨xs, g1, g2⟩ := l1 F1 C1 R H1 (Ex.refl F1) S1 q
        refine ⟨a, xs, by rw [e2], g1, k _ _ _ F1 C1 H1 e1 S1 ⟨fun F' C' R' H' e S hc => ?_, fun F' C' R' H' i e S hc hi => ?_, fun F' C' R' H' i x H'' e S hc hi y => ?_⟩ h1⟩
        · obtain ⟨xs', h4, h5⟩ := l1 F' C' R' H' e S hc
          exact ⟨xs', h4, by rw [h5.length, enumD_len]⟩
        · obtain ⟨xs', h4, h5⟩ := l1 F' C' R' H' e S hc
          rw [enumD_len] at hi
          exact ⟨xs', xs'[i]'(by rw [h5.length]; exact hi), h4, by simp⟩
        · obtain ⟨xs', h4, h5⟩ := l1 F' C' R' H' e S hc
          obtain ⟨T, v, y1, y2, y3, y4⟩ := y
          subst y1; subst y3
          obtain ⟨d, h6, h7⟩ := h5.get (y4 xs' h4)
          have eN := Ex.new (o := .tup [.int (i : Nat), v]) (S.freeF y2)
          exact ⟨_, _, enumD_get h6, eN, S.newF y2 _, .tup upd_same (.cons (.int _) (.cons (h7.mono eN) .nil))⟩
      · exact h1.elim
  · exact h1.elim⟩
/-! ### a text in a text -/
def aInT (neg : Bool) : D → D → AH → (D → AH → Prop) → Prop := fun x y C P => match x, y with
  | .str i, .str j => P (.bl (if neg then !(!(Builtin.Str.occurrences j i 0 j.length 1).isEmpty) else !(Builtin.Str.occurrences j i 0 j.length 1).isEmpty)) C
  | _, _ => False
abbrev aInS := aInT false
abbrev aNinS := aInT true
theorem ao_inS : AOp B X (compareOp .In) (fun x y H Q => ∃ i j, x = .str i ∧ y = .str j ∧ Q (.bl (!(Builtin.Str.occurrences j i 0 j.length 1).isEmpty)) H) aInS := ⟨op_in_str, by
  intro v w d e F C R H Q P hS r1 r2 h k
  unfold aInS aInT at h
  split at h
  · cases r1; cases r2
    exact ⟨_, _, rfl, rfl, k _ _ F C H (Ex.refl F) hS (.bl _) h⟩
  · exact h.elim⟩
theorem ao_ninS : AOp B X (compareOp .NotIn) (fun x y H Q => ∃ i j, x = .str i ∧ y = .str j ∧ Q (.bl (!(!(Builtin.Str.occurrences j i 0 j.length 1).isEmpty))) H) aNinS := ⟨op_notin_str, by
  intro v w d e F C R H Q P hS r1 r2 h k
  unfold aNinS aInT at h
  split at h
  · cases r1; cases r2
    exact ⟨_, _, rfl, rfl, k _ _ F C H (Ex.refl F) hS (.bl _) h⟩
  · exact h.elim⟩
end
/-! one step each -/
section
variable {s : ASt} {C : AH} {P : D → AH → Prop} {aa : AA'} {PI : List D → (AH → Prop) → AH → Prop}
def kIZG (PI : List D → (AH → Prop) → AH → Prop) : List D → AH → Prop := fun us C1 => match us with | [x, y] => (match srcD C1 x, srcD C1 y with | some ds, some es => PI (zipD ds es) (fun C' => srcD C' x = some ds ∧ srcD C' y = some es) C1 | _, _ => False) | _ => False
theorem g_izG (h : aa s C (kIZG PI)) : aIZG aa s C PI := h
theorem g_kIZG {x y : D} {ds es : List D} (h1 : ∀ C' : AH, srcD C' x = some ds) (h2 : ∀ C' : AH, srcD C' y = some es) (h : PI (zipD ds es) (fun _ => True) C) : kIZG PI [x, y] C := by
  unfold kIZG
  simp only [h1, h2]
  have m : (fun _ : AH => True) = fun _ : AH => (True ∧ True) := by funext C'; simp
  rw [← m]
  exact h
def kIEG (PI : List D → (AH → Prop) → AH → Prop) : List D → AH → Prop := fun us C1 => match us with | [x] => (match srcD C1 x with | some ds => PI (enumD ds) (fun C' => srcD C' x = some ds) C1 | none => False) | _ => False
theorem g_ieG (h : aa s C (kIEG PI)) : aIEG aa s C PI := h
theorem g_kIEG {x : D} {ds : List D} (h1 : ∀ C' : AH, srcD C' x = some ds) (h : PI (enumD ds) (fun _ => True) C) : kIEG PI [x] C := by
  unfold kIEG
  simp only [h1]
  exact h
theorem g_inS {i j : Str} (h : P (.bl (!(Builtin.Str.occurrences j i 0 j.length 1).isEmpty)) C) : aInS (.str i) (.str j) C P := h
theorem g_ninS {i j : Str} (h : P (.bl (!(!(Builtin.Str.occurrences j i 0 j.length 1).isEmpty))) C) : aNinS (.str i) (.str j) C P := h
end
end AL

namespace AL
open PySem PySem.Spec PyProof.Rows L2
variable {B : Bs}
section
variable {X : Cx} {pos : Pos} {K : PySem.W.Frag}
/-! a.startswith(b), a.endswith(b), a.count(b) -/
def aStartswith : D → ASp := fun x ds C P => match x, ds with
  | .str a, [.str b] => P (.bl (Txt.startswith a b)) C
  | _, _ => False
def aEndswith : D → ASp := fun x ds C P => match x, ds with
  | .str a, [.str b] => P (.bl (Txt.endswith a b)) C
  | _, _ => False
def aScount : D → ASp := fun x ds C P => match x, ds with
  | .str a, [.str b] => P (.int (Txt.count a b)) C
  | _, _ => False
theorem am_startswith : AMt B X "str.startswith" (fun x xs H Q => ∃ a b, x = .str a ∧ xs = [.str b] ∧ Q (.bl (Txt.startswith a b)) H) aStartswith := ⟨fun pins s σ H x xs v us Q I r1 r2 h => mt_startswith pins s σ H x xs v us Q I r1 r2 h, by
  intro v d vs ds F C R H Q P hS r1 r2 h k
  unfold aStartswith at h
  split at h
  · cases r1
    cases r2 with
    | cons r2 r3 =>
      cases r3
      cases r2
      exact ⟨_, _, rfl, rfl, k _ _ F C H (Ex.refl F) hS (.bl _) h⟩
  · exact h.elim⟩
theorem am_endswith : AMt B X "str.endswith" (fun x xs H Q => ∃ a b, x = .str a ∧ xs = [.str b] ∧ Q (.bl (Txt.endswith a b)) H) aEndswith := ⟨fun pins s σ H x xs v us Q I r1 r2 h => mt_endswith pins s σ H x xs v us Q I r1 r2 h, by
  intro v d vs ds F C R H Q P hS r1 r2 h k
  unfold aEndswith at h
  split at h
  · cases r1
    cases r2 with
    | cons r2 r3 =>
      cases r3
      cases r2
      exact ⟨_, _, rfl, rfl, k _ _ F C H (Ex.refl F) hS (.bl _) h⟩
  · exact h.elim⟩
theorem am_scount : AMt B X "str.count" (fun x xs H Q => ∃ a b, x = .str a ∧ xs = [.str b] ∧ Q (.int (Txt.count a b)) H) aScount := ⟨fun pins s σ H x xs v us Q I r1 r2 h => mt_count pins s σ H x xs v us Q I r1 r2 h, by
  intro v d vs ds F C R H Q P hS r1 r2 h k
  unfold aScount at h
  split at h
  · cases r1
    cases r2 with
    | cons r2 r3 =>
      cases r3
      cases r2
      exact ⟨_, _, rfl, rfl, k _ _ F C H (Ex.refl F) hS (.int _) h⟩
  · exact h.elim⟩
end
section
variable {C : AH} {P : D → AH → Prop}
theorem g_starts {a b : Str} (h : P (.bl (decide (a.cps.toList.take b.length = b.cps.toList))) C) : aStartswith (.str a) [.str b] C P := by
  show P (.bl (Txt.startswith a b)) C
  have e : Txt.startswith a b = decide (a.cps.toList.take b.length = b.cps.toList) := by
    unfold Txt.startswith
    rw [PySem.StrLaws.subAt_eq]
    rw [Bool.eq_iff_iff, Bool.and_eq_true, decide_eq_true_eq, decide_eq_true_eq, beq_iff_eq, List.drop_zero]
    refine ⟨fun z => z.2, fun z => ⟨?_, z⟩⟩
    have := congrArg List.length z
    rw [List.length_take] at this
    have h1 : b.length = b.cps.toList.length := by show b.cps.size = _; simp
    have h2 : a.length = a.cps.toList.length := by show a.cps.size = _; simp
    omega
  rw [e]; exact h
theorem g_ends {a b : Str} (h : P (.bl (decide (b.length ≤ a.length ∧ a.cps.toList.drop (a.length - b.length) = b.cps.toList))) C) : aEndswith (.str a) [.str b] C P := by
  show P (.bl (Txt.endswith a b)) C
  have e : Txt.endswith a b = decide (b.length ≤ a.length ∧ a.cps.toList.drop (a.length - b.length) = b.cps.toList) := by
    unfold Txt.endswith
    rw [Bool.eq_iff_iff, Bool.and_eq_true, decide_eq_true_eq, decide_eq_true_eq, PySem.StrLaws.subAt_eq, beq_iff_eq]
    rw [Nat.zero_add]
    refine and_congr_right fun z => ?_
    rw [List.take_of_length_le]
    have h2 : a.length = a.cps.toList.length := by show a.cps.size = _; simp
    rw [List.length_drop]
    omega
  rw [e]; exact h
/-- the places of one sign -/
theorem occ_one_list (s : Str) (c hi limit : Nat) : ∀ (l : List Nat) (st : Array Nat × Nat), (∀ i ∈ l, st.snd ≤ i) → l.Pairwise (· < ·) → st.fst.size + l.length ≤ limit →
    (forIn l st (PySem.StrLaws.occBody s ⟨#[c]⟩ hi limit)).run.fst.toList = st.fst.toList ++ l.filter fun i => decide (i + 1 ≤ hi) && Builtin.Str.subAt s ⟨#[c]⟩ i
  | [], st, _, _, _ => by simp
  | a :: l, st, h, hp, hl => by
    obtain ⟨hp1, hp2⟩ := List.pairwise_cons.mp hp
    rw [List.length_cons] at hl
    rw [List.forIn_cons]
    unfold PySem.StrLaws.occBody
    have e1 : (⟨#[c]⟩ : Str).length = 1 := rfl
    rw [e1]
    have ha := h a (List.mem_cons_self ..)
    split
    · rename_i hc
      have ih := occ_one_list s c hi limit l (st.fst.push a, a + 1) (fun i hi' => by have := hp1 i hi'; exact this) hp2 (by simp; omega)
      unfold PySem.StrLaws.occBody at ih
      rw [e1] at ih
      rw [List.filter_cons, if_pos (by simp [hc.2, hc.1.2])]
      refine Eq.trans ih ?_
      simp
    · rename_i hc
      have ih := occ_one_list s c hi limit l st (fun i hi' => h i (List.mem_cons_of_mem _ hi')) hp2 (by omega)
      unfold PySem.StrLaws.occBody at ih
      rw [e1] at ih
      rw [List.filter_cons, if_neg (by
        intro z
        simp only [Bool.and_eq_true, decide_eq_true_eq] at z
        exact hc ⟨⟨⟨by omega, ha⟩, z.1⟩, z.2⟩)]
      exact ih
theorem range_filter (c : Nat) : ∀ (xs : List Nat) (k : Nat) (f : Nat → Bool), (∀ i, f (k + i) = decide (xs[i]? = some c)) → ((List.range' k (xs.length + 1)).filter f).length = (xs.filter fun b => decide (b = c)).length
  | [], k, f, hf => by
    have := hf 0
    simp at this
    simp [this]
  | x :: xs, k, f, hf => by
    have h0 := hf 0
    have ih := range_filter c xs (k + 1) f fun i => by
      have := hf (i + 1)
      rw [show k + (i + 1) = k + 1 + i by omega] at this
      simpa using this
    simp only [Nat.add_zero, List.getElem?_cons_zero, Option.some.injEq] at h0
    rw [List.length_cons, List.range'_succ, List.filter_cons, List.filter_cons, h0]
    split
    · rw [List.length_cons, List.length_cons, ih]
    · exact ih
theorem count_one (s : Str) (c : Nat) : Txt.count s ⟨#[c]⟩ = (s.cps.toList.filter fun b => decide (b = c)).length := by
  unfold Txt.count
  rw [PySem.StrLaws.occ_eq, occ_one_list s c _ _ _ _ (fun _ _ => Nat.zero_le _) List.pairwise_lt_range' (by simp)]
  have hl : s.length = s.cps.toList.length := by show s.cps.size = _; simp
  rw [show s.length + 1 - 0 = s.cps.toList.length + 1 by omega]
  refine congrArg (fun n : Nat => (n : Int)) (range_filter c s.cps.toList 0 (fun i => decide (i + 1 ≤ s.length) && Builtin.Str.subAt s ⟨#[c]⟩ i) fun i => ?_)
  have := PySem.StrLaws.subAt_one s c i
  rw [Nat.zero_add, Bool.eq_iff_iff, Bool.and_eq_true, decide_eq_true_eq, decide_eq_true_eq]
  exact this
end
end AL

namespace AL
open PySem PySem.Spec PyProof.Rows L2
variable {B : Bs}
/-! ### for x in a list, a tuple, a text, whichever it is -/
def iAny (K : PySem.W.Frag) (tl : TE) : TI := fun σ H R => tl σ H fun x H1 =>
  (∃ a, x = .ref a ∧ (∃ xs, SqL K H1 a xs) ∧ R (Itl K a) H1) ∨ (∃ a, x = .ref a ∧ (∃ xs, SqT K H1 a xs) ∧ R (Itt K a) H1) ∨ ∃ z, x = .str z ∧ R (Its z) H1
section
variable {X : Cx} {pos : Pos} {K : PySem.W.Frag}
theorem pi_any {tg l : Expr} {tl : TE} (hl : PE X l tl) : PI X tg l (iAny X.K tl) := by
  refine ⟨fun pins s σ H R I h => ?_⟩
  refine thn (hl.run pins s σ H _ I h) fun v s1 ⟨x, H1, I1, r1, q1⟩ => ?_
  rcases q1 with ⟨a, e, ⟨xs, hq⟩, q⟩ | ⟨a, e, ⟨xs, hq⟩, q⟩ | ⟨z, ez, q⟩
  · subst e
    cases r1
    obtain ⟨its, rv, p, hz⟩ := I1.list hq
    refine wpAny_pyIter_list p.isList ?_
    refine ⟨s1.heap.objs.size, [s1.heap.objs.size], _, _, H1, rfl, I1.kept (t' := s1.toks) fun b o e => Heap.get?_push_of_some _ e, turn_list a _, ⟨_, Heap.get?_push_size _ rfl, rfl, rfl⟩, fun b hb => ?_, q⟩
    have e : b = s1.heap.objs.size := by simpa using hb
    subst e
    exact I1.fpOk (Nat.le_refl _) (I1.hok.fresh (Nat.le_refl _))
  · subst e
    cases r1
    obtain ⟨its, rv, p, hz⟩ := I1.tuple hq
    refine wpAny_pyIter_tuple (show s1.heap.IsTuple a its.toArray from p) ?_
    refine ⟨s1.heap.objs.size, [s1.heap.objs.size], _, _, H1, rfl, I1.kept (t' := s1.toks) fun b o e => Heap.get?_push_of_some _ e, turn_tuple a _, ⟨_, Heap.get?_push_size _ rfl, rfl, rfl⟩, fun b hb => ?_, q⟩
    have e : b = s1.heap.objs.size := by simpa using hb
    subst e
    exact I1.fpOk (Nat.le_refl _) (I1.hok.fresh (Nat.le_refl _))
  · subst ez
    obtain ⟨t, rfl⟩ := r1
    cases ha : z.cps.all (· < 128)
    · exact wpAny_pyIter_wide ha (pi_one (tk := s1.toks) I1 _ (turn_str _ z t "str_iterator" (.inr rfl)) ⟨_, Heap.get?_push_size _ rfl, rfl, rfl⟩ q)
    · exact wpAny_pyIter_ascii ha (pi_one (tk := s1.toks) I1 _ (turn_str _ z t "str_ascii_iterator" (.inl rfl)) ⟨_, Heap.get?_push_size _ rfl, rfl, rfl⟩ q)
def aIA (a : AE') : AI' := fun s C P => a s C fun x C1 => match srcD C1 x with | some ds => P ds (fun C' => srcD C' x = some ds) C1 | none => False
theorem ai_any {tg e : Expr} {te : TE} {a : AE'} (h : AE B X e te a) (hK : X.K = K := by rfl) : AI B X tg e (iAny K te) (aIA a) := by
  subst hK
  exact ⟨pi_any h.pe, by
  intro σ s F C R H Q P hs hS h0 k
  refine h.sim σ s F C R H _ _ hs hS h0 fun x v F1 C1 H1 e1 S1 r1 h1 => ?_
  split at h1
  · rename_i ds q
    cases x with
    | str z =>
      cases r1
      cases q
      refine .inr (.inr ⟨z, rfl, k _ _ _ F1 C1 H1 e1 S1 ⟨fun F' C' R' H' e S _ => ?_, fun F' C' R' H' i e S _ hi => ?_, fun F' C' R' H' i x H'' e S _ hi y => ?_⟩ h1⟩)
      · unfold signs; rw [List.length_map, Array.length_toList]; exact Nat.le_refl _
      · unfold signs at hi; rw [List.length_map, Array.length_toList] at hi; exact hi
      · obtain ⟨e3, c, y1, y2⟩ := y
        subst e3; subst y2
        refine ⟨_, F', ?_, Ex.refl F', S, .str _⟩
        unfold signs
        rw [List.getElem?_map, Array.getElem?_toList, y1]
        rfl
    | tup us =>
      cases q
      have q : asT (.tup ds) = some ds := rfl
      obtain ⟨b, xs, e2, h2, h3⟩ := asT_ok S1 r1 q
      refine .inr (.inl ⟨b, e2, ⟨xs, SqT.of h2⟩, k ds _ _ F1 C1 H1 e1 S1 ⟨fun F' C' R' H' e S _ => ?_, fun F' C' R' H' i e S _ hi => ?_, fun F' C' R' H' i x H'' e S _ hi y => ?_⟩ h1⟩)
      · obtain ⟨b', xs', e2', h2', h3'⟩ := asT_ok S (r1.mono e) q
        rw [e2] at e2'; cases e2'
        exact ⟨xs', SqT.of h2', by rw [h3'.length]; exact Nat.le_refl _⟩
      · obtain ⟨b', xs', e2', h2', h3'⟩ := asT_ok S (r1.mono e) q
        rw [e2] at e2'; cases e2'
        exact ⟨xs', xs'[i]'(by rw [h3'.length]; exact hi), SqT.of h2', by simp⟩
      · obtain ⟨b', xs', e2', h2', h3'⟩ := asT_ok S (r1.mono e) q
        rw [e2] at e2'; cases e2'
        obtain ⟨e3, y⟩ := y
        subst e3
        obtain ⟨d, h4, h5⟩ := h3'.get (y xs' (SqT.of h2'))
        exact ⟨d, F', h4, Ex.refl F', S, h5⟩
    | lst us =>
      obtain ⟨b, xs, e2, h2, h3⟩ := asLr_ok S1 r1 q
      exact .inl ⟨b, e2, ⟨xs, h2⟩, k ds _ _ F1 C1 H1 e1 S1 (walk_l fun F' C' R' H' e' S' hc => asL_later S1 r1 q e' S' hc b e2) h1⟩
    | ce p =>
      obtain ⟨b, xs, e2, h2, h3⟩ := asLr_ok S1 r1 q
      exact .inl ⟨b, e2, ⟨xs, h2⟩, k ds _ _ F1 C1 H1 e1 S1 (walk_l fun F' C' R' H' e' S' hc => asL_later S1 r1 q e' S' hc b e2) h1⟩
    | scr ns =>
      obtain ⟨b, xs, e2, h2, h3⟩ := asLr_ok S1 r1 q
      exact .inl ⟨b, e2, ⟨xs, h2⟩, k ds _ _ F1 C1 H1 e1 S1 (walk_l fun F' C' R' H' e' S' hc => asL_later S1 r1 q e' S' hc b e2) h1⟩
    | _ => cases q
  · exact h1.elim⟩
end
section
variable {C : AH} {e : AE'} {s : ASt} {PI : List D → (AH → Prop) → AH → Prop}
def kIA (PI : List D → (AH → Prop) → AH → Prop) : D → AH → Prop := fun x C1 => match srcD C1 x with | some ds => PI ds (fun C' => srcD C' x = some ds) C1 | none => False
theorem g_ia (h : e s C (kIA PI)) : aIA e s C PI := h
theorem g_kIA {x : D} {us : List D} (h : srcD C x = some us) (k : PI us (fun C' => srcD C' x = some us) C) : kIA PI x C := by
  unfold kIA
  rw [h]
  exact k
end
end AL

namespace AL
open PySem PySem.Spec PyProof.Rows L2
variable {B : Bs}
/-! ### sum of a list of numbers and truths -/
def IV (v : Value) (x : Int) : Prop := (∃ t, v = .int x t) ∨ ∃ b : Bool, v = .bool b ∧ x = if b = true then 1 else 0
section
variable {prog : Program} {w : World} {A : Around} {E : Value → Shared → Prop} {s : Shared}
theorem addIV {v : Value} {x a : Int} {t : Tok} {Q : Value → Shared → Prop} (hv : IV v x) (h : Q (.int (a + x) s.toks) { s with toks := s.toks + 1 }) : wpAny (model prog w) A (binaryOp .Add (.int a t) v) Q E s := by
  rcases hv with ⟨u, e⟩ | ⟨b, e, e2⟩
  · subst e; exact wpAny_add_int h
  · subst e; subst e2; exact PySem.add_int_bool h
end
section
variable {prog : Program} {w : World} {A : Around} {R : Result → Shared → Prop} {I : Addr} {fp wr : List Addr} {G : Array GenState → Array GenState → Prop} {n : Nat} {P : Nat → Value → Prop} {St : Nat → Shared → Prop}
theorem sumB (W : WalksS prog w A.in1 I fp wr G n P St) (val : Nat → Int) (hval : ∀ i v, P i v → IV v (val i)) (S : Addr) (hSf : S ∉ fp) : ∀ (k i : Nat), n - i = k → i ≤ n → ∀ (s : Shared) (tA : Tok) (c : Nat) (st : Int), (st = 0 ∨ st = 2) → St i s →
    s.heap.get? S = some { cls := .type "list", dict := none, data := .seq #[.int (preSum val i) tA] c, slots := #[] } →
    (∀ z t', Moved (S :: wr) G s z → R (.ok (.ret (.int (preSum val n) t'))) z) → codeAny (model prog w) A (.builtin "sum.loop" ⟨[.ref I, .ref S, rawInt st, rawInt 0], []⟩) R s := by
  have hSw : S ∉ wr := fun y => hSf (W.sub _ y)
  have hin : ∀ b ∈ wr, b ∈ S :: wr := fun b y => List.mem_cons_of_mem _ y
  have hSb : ∀ b ∈ fp, S ≠ b := fun b y e => hSf (e ▸ y)
  have hSc : ∀ b, b ∉ S :: wr → S ≠ b := fun b y e => y (e ▸ List.mem_cons_self)
  intro k
  induction k with
  | zero =>
    intro i hk hi s tA c st h02 hst hS hR
    obtain rfl : i = n := by omega
    refine codeAny_builtin (b := Builtin.«sum.loop») F.entry_sum_loop ?_; rw [Around.under_plainId F.plain_sum_loop]
    refine wpAny_bind (m := seqItems? (.ref S)) (wpAny_seqItems hS rfl (wpAny_bind (m := tryCatch (pyNext (.ref I)) _) ?_))
    exact wpAny_tryCatch (W.done s _ _ hst fun z hm => wpAny_pure (hR z tA (hm.mono hin)))
  | succ k ih =>
    intro i hk hi s tA c st h02 hst hS hR
    have hlt : i < n := by omega
    refine codeAny_builtin (b := Builtin.«sum.loop») F.entry_sum_loop ?_; rw [Around.under_plainId F.plain_sum_loop]
    refine wpAny_bind (m := seqItems? (.ref S)) (wpAny_seqItems hS rfl (wpAny_bind (m := tryCatch (pyNext (.ref I)) _) ?_))
    refine wpAny_tryCatch (W.item i s _ _ hlt hst fun v z hP hst' hm => ?_)
    have hv := hval i v hP
    have hS' := hm.heap S _ hSw hS
    have go : ∀ (X : Shared) (f : Int) (c2 : Nat) (r : Int) (tr : Tok), (f = 0 ∨ f = 2) → r = preSum val i + val i → (Moved (S :: wr) G s X) → St (i + 1) X → X.heap.get? S = some { cls := .type "list", dict := none, data := .seq #[.int r tr] c2, slots := #[] } →
        codeAny (model prog w) A (.builtin "sum.loop" ⟨[.ref I, .ref S, rawInt f, rawInt 0], []⟩) R X := fun X f c2 r tr hf hr hm1 hs1 hS1 => by
      subst hr
      exact ih (i + 1) (by omega) hlt X tr c2 f hf hs1 hS1 fun y t2 hm2 => hR y t2 (Moved.trans W.gtrans hm1 hm2)
    have up1 : ∀ (h' : Heap) (tk : Tok), (∀ b, S ≠ b → ∀ o, z.heap.get? b = some o → h'.get? b = some o) → z.toks ≤ tk → Moved (S :: wr) G s { z with heap := h', toks := tk } ∧ St (i + 1) { z with heap := h', toks := tk } := fun h' tk hh ht =>
      ⟨(hm.mono hin).then_heap ht fun b o hb e => hh b (hSc b hb) o e, W.frame _ z _ _ hst' ht fun b hb o e => hh b (hSb b hb) o e⟩
    have o1 : ∀ (f : Obj → Obj) (b : Addr), S ≠ b → ∀ o, z.heap.get? b = some o → (z.heap.update S f).get? b = some o := fun f b hb o e => (Heap.get?_update_other _ _ hb).trans e
    have x1 : ∀ (r : Int), r = preSum val i + val i → wpAny (model prog w) A.in1 (mkInt r) (fun a s' => ∃ t, a = .int r t ∧ s' = { z with toks := z.toks + 1 }) (fun _ _ => False) z := fun r hr => wpAny_mkInt ⟨_, rfl, rfl⟩
    have slow : ∀ v : Value, IV v (val i) → ∀ (Q : Fin → Shared → Prop) (E : Value → Shared → Prop), (∀ X, codeAny (model prog w) A (.builtin "sum.loop" ⟨[.ref I, .ref S, rawInt 2, rawInt 0], []⟩) R X → Q (.again (.builtin "sum.loop" ⟨[.ref I, .ref S, rawInt 2, rawInt 0], []⟩)) X) → wpAny (model prog w) A.in1 ((holding [v] (binaryOp .Add (.int (preSum val i) tA) v)).attempt >>= fun q => match q with
        | .ok r => do updateSeq S fun _ => #[r]; letGo [Value.int (preSum val i) tA, v]; updateSeq S fun _ => #[r]; again (.builtin "sum.loop" ⟨[.ref I, .ref S, rawInt 2, rawInt 0], []⟩)
        | .error e => do updateSeq S fun _ => #[]; letGo [Value.int (preSum val i) tA, v] [e]; throw e) Q E z := fun v hv Q E hQ => by
      refine wpAny_bind (wpAny_attempt (wpAny_holding (addIV hv ?_)))
      show wpAny _ A.in1 (updateSeq S (fun _ => #[Value.int (preSum val i + val i) z.toks]) >>= _) _ _ _
      have h2 := Heap.get?_update_self (Obj.mapSeq fun _ => #[Value.int (preSum val i + val i) z.toks]) hS' rfl
      refine wpAny_bind (wpAny_updateSeq hS' rfl (wpAny_bind (wpAny_letGo (wpAny_bind (wpAny_updateSeq h2 rfl (wpAny_pure (hQ _ ?_)))))))
      obtain ⟨u1, u2⟩ := up1 ((z.heap.update S (Obj.mapSeq fun _ => #[Value.int (preSum val i + val i) z.toks])).update S (Obj.mapSeq fun _ => #[Value.int (preSum val i + val i) z.toks])) (z.toks + 1) (fun b hb o e => (Heap.get?_update_other _ _ hb).trans (o1 _ b hb o e)) (by omega)
      exact go _ 2 _ _ _ (.inr rfl) rfl u1 u2 (Heap.get?_update_self _ h2 rfl)
    rcases h02 with e0 | e0
    · subst e0
      have hr : ∀ b : Bool, val i = (if b = true then 1 else 0) → (preSum val i + if b = true then 1 else 0) = preSum val i + val i := fun b e => by rw [e]
      rcases hv with ⟨t, rfl⟩ | ⟨b, rfl, e⟩
      · show wpAny _ A.in1 (if (_ : Bool) = true then (mkInt (preSum val i + val i) >>= _) else _) _ _ _
        refine wpAny_ite_split (fun _ => ?_) (fun _ => ?_)
        · refine wpAny_bind (wpAny_mkInt (wpAny_bind (m := updateSeq S _) ?_))
          obtain ⟨u1, u2⟩ := up1 (z.heap.update S (Obj.mapSeq fun _ => #[Value.int (preSum val i + val i) z.toks])) (z.toks + 1) (o1 _) (by omega)
          exact wpAny_updateSeq hS' rfl (wpAny_pure ⟨plainId_quiet F.plain_sum_loop _, go _ 0 _ _ _ (.inl rfl) rfl u1 u2 (Heap.get?_update_self _ hS' rfl)⟩)
        · exact wpAny_bind (wpAny_rule (slow (Value.int (val i) t) (.inl ⟨t, rfl⟩) _ _ fun X h => ⟨plainId_quiet F.plain_sum_loop _, h⟩))
      · show wpAny _ A.in1 (if (_ : Bool) = true then (mkInt (preSum val i + if b = true then 1 else 0) >>= _) else _) _ _ _
        refine wpAny_ite_split (fun _ => ?_) (fun _ => ?_)
        · refine wpAny_bind (wpAny_mkInt (wpAny_bind (m := updateSeq S _) ?_))
          obtain ⟨u1, u2⟩ := up1 (z.heap.update S (Obj.mapSeq fun _ => #[Value.int (preSum val i + if b = true then 1 else 0) z.toks])) (z.toks + 1) (o1 _) (by omega)
          exact wpAny_updateSeq hS' rfl (wpAny_pure ⟨plainId_quiet F.plain_sum_loop _, go _ 0 _ _ _ (.inl rfl) (hr b e) u1 u2 (Heap.get?_update_self _ hS' rfl)⟩)
        · exact wpAny_bind (wpAny_rule (slow (Value.bool b) (.inr ⟨b, rfl, e⟩) _ _ fun X h => ⟨plainId_quiet F.plain_sum_loop _, h⟩))
    · subst e0
      rcases hv with ⟨t, rfl⟩ | ⟨b, rfl, e⟩
      · exact slow (Value.int (val i) t) (.inl ⟨t, rfl⟩) _ _ fun X h => ⟨plainId_quiet F.plain_sum_loop _, h⟩
      · exact slow (Value.bool b) (.inr ⟨b, rfl, e⟩) _ _ fun X h => ⟨plainId_quiet F.plain_sum_loop _, h⟩
end
section
variable {prog : Program} {w : World} {A : Around} {E : Value → Shared → Prop} {s : Shared}
theorem callSumB {x : Value} {Q : Value → Shared → Prop}
    (h : wpAny (model prog w) A.in1 (pyIter x) (fun it z => ∃ I fp wr G n P St val, it = .ref I ∧ WalksS prog w A.in1 I fp wr G n P St ∧ St 0 z ∧ (∀ b ∈ fp, b < z.heap.objs.size) ∧
      (∀ i v, P i v → IV v (val i)) ∧ ∀ z' t', Moved wr G z z' → Q (.int (preSum val n) t') z') E s) : wpAny (model prog w) A (call (.builtin "sum") [x]) Q E s := by
  refine call_function_tree (b := Builtin.«sum») F.kind_sum F.plain_sum F.entry_sum (F.args_sum1 _) ?_; unfold Builtin.«sum»
  simp only [List.length_cons, List.length_nil]; rw [if_neg (by decide)]
  refine wpAny_bind (wpAny_of_eq (t := Builtin.Builtins.bindParams "sum" ["start"] 0 { }) (a := [none]) rfl ?_); refine wpAny_bind (wpAny_mono h (fun it z h2 => ?_) fun _ _ y => y)
  obtain ⟨I, fp, wr, G, n, P, St, val, rfl, W, hst, hfp, hval, hQ⟩ := h2
  refine wpAny_bind (wpAny_mkInt (wpAny_bind (wpAny_pure ?_))); simp only [List.forIn_cons, List.forIn_nil]
  refine wpAny_bind (wpAny_bind (wpAny_bind (wpAny_isInstance (T := "int") (b := false) (typeIs_int _ _ _) PySem.sub_int_str ?_))); simp only [Bool.false_eq_true, if_false]
  refine wpAny_pure (wpAny_bind (wpAny_bind (wpAny_isInstance (T := "int") (b := false) (typeIs_int _ _ _) PySem.sub_int_bytes ?_))); simp only [Bool.false_eq_true, if_false]
  refine wpAny_pure (wpAny_bind (wpAny_bind (wpAny_isInstance (T := "int") (b := false) (typeIs_int _ _ _) PySem.sub_int_bytearray ?_))); simp only [Bool.false_eq_true, if_false]
  refine wpAny_pure (wpAny_pure (wpAny_bind (wpAny_newObj_type ?_)))
  have hSf : z.heap.objs.size ∉ fp := fun y => Nat.lt_irrefl _ (hfp _ y)
  refine wpAny_pure ⟨plainId_quiet F.plain_sum_loop _, sumB W val hval z.heap.objs.size hSf n 0 rfl (Nat.zero_le _) _ z.toks 0 0 (.inl rfl) (W.frame 0 z _ _ hst (Nat.le_succ _) fun b _ o e => Heap.get?_push_of_some _ e) (Heap.get?_push_size _ rfl) fun z' t' hm => ?_⟩
  exact hQ z' t' (hm.drop_new (Nat.le_succ _))
end
/-- the number that a number, or a truth, is in a sum -/
def numV : V → Option Int
  | .int i => some i
  | .bl b => some (if b = true then 1 else 0)
  | _ => none
def numD : D → Option Int
  | .int i => some i
  | .bl b => some (if b = true then 1 else 0)
  | _ => none
theorem iv_of {v : V} {u : Value} {x : Int} (r : RelV v u) (h : numV v = some x) : IV u x := by
  cases v with
  | int i => cases h; obtain ⟨t, e⟩ := r; exact .inl ⟨t, e⟩
  | bl b => cases h; exact .inr ⟨b, r, rfl⟩
  | _ => cases h
def sumV : List V → Option (List Int) := fun vs => vs.mapM numV
def numsD : List D → Option (List Int)
  | [] => some []
  | d :: ds => match numD d, numsD ds with | some x, some xs => some (x :: xs) | _, _ => none
def numsV : List V → Option (List Int)
  | [] => some []
  | d :: ds => match numV d, numsV ds with | some x, some xs => some (x :: xs) | _, _ => none
theorem numsV_at : ∀ {vs : List V} {us : List Value} {ns : List Int} {i : Nat} {u : Value}, Vals vs us → numsV vs = some ns → us[i]? = some u → IV u (ns.getD i 0)
  | [], _, _, _, _, r, h, e => by cases r; simp at e
  | v :: vs, u :: us, ns, i, x, r, h, e => by
    unfold numsV at h
    split at h
    · rename_i a b q1 q2
      cases h
      cases r with
      | cons r1 r2 =>
        cases i with
        | zero => simp at e; subst e; simpa using iv_of r1 q1
        | succ i => simpa using numsV_at (i := i) r2 q2 (by simpa using e)
    · cases h
theorem numsV_len : ∀ {vs : List V} {ns : List Int}, numsV vs = some ns → vs.length = ns.length
  | [], _, h => by cases h; rfl
  | v :: vs, ns, h => by
    unfold numsV at h
    split at h
    · rename_i a b q1 q2
      cases h
      rw [List.length_cons, List.length_cons, numsV_len q2]
    · cases h
theorem nums_rep {K : PySem.W.Frag} {F : Hp} : ∀ {vs : List V} {ds : List D} {ns : List Int}, RepL K F vs ds → numsD ds = some ns → numsV vs = some ns
  | [], _, _, r, h => by cases r; exact h
  | v :: vs, _, ns, r, h => by
    cases r with
    | cons r1 r2 =>
      unfold numsD at h
      split at h
      · rename_i a b q1 q2
        cases h
        unfold numsV
        rw [nums_rep r2 q2]
        have e : numV v = some a := by
          cases r1 <;> first | exact q1 | cases q1
        rw [e]
      · cases h
def rSumG (K : PySem.W.Frag) : List V → Hp → VK → Prop := fun vs H Q => ∃ (a : Addr) (xs : List V) (ns : List Int), vs = [V.ref a] ∧ SqL K H a xs ∧ numsV xs = some ns ∧ Q (.int ns.sum) H
section
variable {X : Cx} {K : PySem.W.Frag}
theorem cr_sumG (hc : X.calm = true) : CallR X (.builtin "sum") (rSumG X.K) := by
  intro pins s σ H vs us Q I r h
  obtain ⟨a, xs, ns, rfl, hs, hn, q⟩ := h
  obtain ⟨its, rv, hl, _⟩ := I.list hs
  rw [Vals.ref1 r]
  have hL : s.heap.IsList a its.toArray := hl.isList
  obtain ⟨o, ho, hcl, n, hd⟩ := id hL
  have hne : a ≠ s.heap.objs.size := Nat.ne_of_lt (Heap.lt_size ho)
  have hlen : its.length = ns.length := by rw [← rv.length, numsV_len hn]
  have W := (PySem.Walks.list (prog := X.prog) (w := X.w) (A := X.A.in1) (I.ok.hd hc) s.heap.objs.size a hne its.toArray).toS
  refine callSumB (wpAny_pyIter_list hL ?_)
  refine ⟨s.heap.objs.size, _, _, _, _, _, _, fun i => ns.getD i 0, rfl, W, ⟨⟨_, Heap.get?_push_size _ rfl, rfl, rfl⟩, hL.at fun o e => Heap.get?_push_of_some _ e⟩, fun b hb => ?_, fun i v hP => ?_, fun z' t' hm => ?_⟩
  · rcases List.mem_cons.mp hb with rfl | hb
    · exact Heap.lt_size (Heap.get?_push_size _ rfl)
    · cases (List.mem_singleton.mp hb); exact Heap.lt_size (Heap.get?_push_of_some _ ho)
  · exact numsV_at rv hn (by simpa using hP)
  · obtain ⟨h', g', d', tk', os'⟩ := z'
    cases (show g' = s.gens from hm.gens); cases (show d' = s.drawn from hm.drawn); cases (show os' = s.os from hm.os)
    refine ⟨.int _, H, I.kept fun b o e => hm.heap b o (fun hb => ?_) (Heap.get?_push_of_some _ e), ⟨_, rfl⟩, ?_⟩
    · cases (List.mem_singleton.mp hb); exact absurd (Heap.lt_size e) (Nat.lt_irrefl _)
    · rw [PyProof.Rows.preSum_getD, List.size_toArray, hlen, List.take_length]; exact q
def aSumG : ASp := fun ds C P => match ds with | [d] => (match (asLr C d).bind numsD with | some bs => P (.int bs.sum) C | none => False) | _ => False
theorem ac_sumG (hc : X.calm = true := by rfl) (hK : X.K = K := by rfl) : ACa B X (.builtin "sum") (rSumG K) aSumG := by
  subst hK
  exact ⟨cr_sumG hc, by
  intro vs ds F C R H Q P hS r h k
  unfold aSumG at h
  split at h
  · cases r with
    | cons r1 r2 =>
      cases r2
      split at h
      · rename_i bs q
        obtain ⟨us, q1, q2⟩ := Option.bind_eq_some_iff.mp q
        obtain ⟨a, xs, e1, h1, h2⟩ := asLr_ok hS r1 q1
        exact ⟨a, xs, bs, by rw [e1], h1, nums_rep h2 q2, k _ _ F C H (Ex.refl F) hS (.int _) h⟩
      · exact h.elim
  · exact h.elim⟩
end
theorem g_sumG {C : AH} {P : D → AH → Prop} {us : List D} {bs : List Int} (h1 : numsD us = some bs) (h : P (.int bs.sum) C) : aSumG [.lst us] C P := by
  show (match (some us).bind numsD with | some bs => P (.int bs.sum) C | none => False)
  rw [Option.bind_some, h1]; exact h
theorem numsD_all {ds : List D} (h : ∀ d ∈ ds, ∃ x, numD d = some x) : ∃ bs, numsD ds = some bs := by
  induction ds with
  | nil => exact ⟨[], rfl⟩
  | cons d ds ih =>
    obtain ⟨x, hx⟩ := h d (by simp)
    obtain ⟨bs, hb⟩ := ih fun d hd => h d (by simp [hd])
    exact ⟨x :: bs, by simp [numsD, hx, hb]⟩
end AL

namespace AL
open PySem PySem.Spec PyProof.Rows L2
variable {B : Bs}
/-! ### len(set(text)) -/
def ddS (σ : List Str) (v : Str) : List Str := if σ.any (· == v) then σ else σ ++ [v]
def dd (xs : List Str) : List Str := xs.foldl ddS []
theorem dd_snoc (xs : List Str) (v : Str) : dd (xs ++ [v]) = ddS (dd xs) v := by unfold dd; rw [List.foldl_append]; rfl
theorem ddS_any (σ : List Str) (v k : Str) : (ddS σ v).any (· == k) = (σ.any (· == k) || decide (k = v)) := by
  unfold ddS
  by_cases h : σ.any (· == v) = true
  · rw [if_pos h]
    by_cases e : k = v
    · rw [e, h]; simp
    · simp [e]
  · rw [if_neg h, List.any_append]
    by_cases e : k = v
    · rw [e]; simp
    · have hb : (v == k) = false := by simpa [beq_iff_eq] using (fun q : v = k => e q.symm)
      simp [hb, e]
theorem ddS_len (σ : List Str) (v : Str) : (ddS σ v).length = if σ.any (· == v) then σ.length else σ.length + 1 := by unfold ddS; split <;> simp
theorem foldl_le : ∀ (xs σ : List Str), (xs.foldl ddS σ).length ≤ σ.length + xs.length
  | [], σ => Nat.le_refl _
  | x :: xs, σ => by
    rw [List.foldl_cons, List.length_cons]
    have := foldl_le xs (ddS σ x)
    rw [ddS_len] at this
    split at this <;> omega
theorem dd_le (xs : List Str) : (dd xs).length ≤ xs.length := by
  have := foldl_le xs []
  rw [List.length_nil, Nat.zero_add] at this
  exact this
/-- the signs of a text, as texts -/
def sgS (z : Str) : List Str := z.cps.toList.map fun c => ⟨#[c]⟩
theorem sgS_len (z : Str) : (sgS z).length = z.length := by unfold sgS; rw [List.length_map, Array.length_toList]; rfl
section
variable {prog : Program} {w : World} {A : Around} {R : Result → Shared → Prop} {I : Addr} {fp wr : List Addr} {G : Array GenState → Array GenState → Prop} {n : Nat} {P : Nat → Value → Prop} {St : Nat → Shared → Prop}
abbrev SetS (prog : Program) (w : World) (h : Heap) (S : Addr) (xs : List Str) : Prop := h.SetOf (PySem.strKind prog w) S (fun k => (dd xs).any (· == k)) (dd xs).length
theorem SetS.keep {h h' : Heap} {S : Addr} {xs : List Str} (q : SetS prog w h S xs) (hk : ∀ o, h.get? S = some o → h'.get? S = some o) : SetS prog w h' S xs := by
  obtain ⟨o, es, ep, t, ho, r⟩ := q
  exact ⟨o, es, ep, t, hk _ ho, r⟩
theorem setLoop (W : WalksS prog w A.in1 I fp wr G n P St) (S : Addr) (hSf : S ∉ fp) (xs : List Str) (hxs : xs.length = n) (hval : ∀ i v, P i v → ∃ t z, xs[i]? = some z ∧ v = .str z t) (hb : n + 1 < scanBound) : ∀ (k i : Nat), n - i = k → i ≤ n → ∀ (s : Shared), St i s → SetS prog w s.heap S (xs.take i) →
    (∀ z, Moved (S :: wr) G s z → SetS prog w z.heap S xs → R (.ok (.ret .none)) z) → codeAny (model prog w) A (.builtin "set.update.loop" ⟨[.ref S, .ref I], []⟩) R s := by
  have hSw : S ∉ wr := fun y => hSf (W.sub _ y)
  have hin : ∀ b ∈ wr, b ∈ S :: wr := fun b y => List.mem_cons_of_mem _ y
  intro k
  induction k with
  | zero =>
    intro i hk hi s hst hS hR
    obtain rfl : i = n := by omega
    refine codeAny_builtin (b := Builtin.«set.update.loop») PyProof.Rows.F.entry_set_update_loop ?_; rw [Around.under_plainId PyProof.Rows.F.plain_set_update_loop]
    refine wpAny_bind (m := pyNext (.ref I)) (W.done s _ _ hst fun z hm => wpAny_pure (hR z (hm.mono hin) ?_))
    rw [← hxs, List.take_length] at hS
    exact hS.keep fun o e => hm.heap S _ hSw e
  | succ k ih =>
    intro i hk hi s hst hS hR
    have hlt : i < n := by omega
    refine codeAny_builtin (b := Builtin.«set.update.loop») PyProof.Rows.F.entry_set_update_loop ?_; rw [Around.under_plainId PyProof.Rows.F.plain_set_update_loop]
    refine wpAny_bind (m := pyNext (.ref I)) (W.item i s _ _ hlt hst fun v y hP hst' hm => ?_)
    obtain ⟨t, z, hz, rfl⟩ := hval i v hP
    have hS' : SetS prog w y.heap S (xs.take i) := hS.keep fun o e => hm.heap S _ hSw e
    show wpAny _ A.in1 (holding [Value.str z t] (setAdd S (.str z t)) >>= _) _ _ y
    refine wpAny_bind (wpAny_holding ?_); unfold setAdd
    refine wpAny_holding (wpAny_bind ((PySem.strKind prog w).pyHash (k := z) (strKind_is _ _ _ _) ?_))
    have hroom : (dd (xs.take i)).length + 1 < scanBound := by have := dd_le (xs.take i); rw [List.length_take] at this; omega
    refine wpAny_setAddHashed_of (knd := PySem.strKind prog w) (s := { y with toks := y.toks + 1 }) (strKind_is _ _ _ _) rfl hS' hroom fun h' hsb hS2 => ?_
    have e1 : xs.take (i + 1) = xs.take i ++ [z] := by rw [List.take_add_one, hz]; rfl
    have hSi : SetS prog w h' S (xs.take (i + 1)) := SetOf_congr hS2 (fun k' => by rw [e1, dd_snoc, ddS_any]) (by rw [e1, dd_snoc, ddS_len])
    refine wpAny_pure ⟨plainId_quiet PyProof.Rows.F.plain_set_update_loop _, ih (i + 1) (by omega) hlt _ (W.frame _ y _ _ hst' (Nat.le_succ _) fun b hb o e => ?_) hSi fun z2 hm2 hS3 => ?_⟩
    · rw [hsb.2 b (fun q : b = S => hSf (by rw [← q]; exact hb))]; exact e
    · refine hR z2 (Moved.trans W.gtrans ((hm.mono hin).then_heap (Nat.le_succ _) fun b o hb e => ?_) hm2) hS3
      rw [hsb.2 b (fun q : b = S => hb (by rw [q]; exact List.mem_cons_self))]; exact e
end
section
variable {prog : Program} {w : World} {A : Around} {E : Value → Shared → Prop} {s : Shared}
set_option maxHeartbeats 3200000 in
theorem callSetStr {x : Str} {t : Tok} {Q : Value → Shared → Prop} (hh : A.handled = none) (hb : x.length + 1 < scanBound)
    (h : ∀ (h' : Heap) (tk : Nat), SetS prog w h' s.heap.objs.size (sgS x) → (∀ b o, b < s.heap.objs.size → s.heap.get? b = some o → h'.get? b = some o) → Q (.ref s.heap.objs.size) { s with heap := h', toks := tk }) :
    wpAny (model prog w) A (call (.type "set") [.str x t]) Q E s := by
  obtain ⟨c, tl, hmro⟩ := PySem.F.called_set.mro
  have hmade := PySem.F.called_set.made; have hsub := PySem.F.called_set.sub
  refine wpAny_call (codeAny_of_tree (show wpAny _ _ (callAny (.type "set") _) _ _ _ from ?_))
  refine wpAny_pure ⟨Code.quiet_builtin _ (by decide +kernel), codeAny_builtin PySem.F.entry_type_call ?_⟩; rw [Around.under_plain (weight_type_call_type "set" [.str x t] []) rfl]
  have h1 := PySem.F.called_set.notType; have h2 := PySem.F.called_set.canCreate; have hct := PySem.F.typeCall_set_1 (.str x t)
  repeat (any_goals first | assumption | wp_step)
  let fo : Bool → Obj := fun led => { cls := .type "set", dict := none, data := .set #[] 0 (.fresh 0 0 led) }
  refine codeAny_mono (code_set_new_1 (.str x t) (E := E) (Q₁ := fun obj z => ∃ led : Bool, obj = .ref s.heap.objs.size ∧ z = { s with heap := s.heap.push (fo led) }) fun led => ⟨led, rfl, rfl⟩) fun r s₁ hr => ?_
  cases r with
  | error e => exact hr
  | ok fl =>
    cases fl with
    | ret obj =>
      obtain ⟨led, rfl, rfl⟩ := hr
      have hS : (s.heap.push (fo led)).get? s.heap.objs.size = some (fo led) := Heap.get?_push_size _ rfl
      have hT : Shared.TypeIs { s with heap := s.heap.push (fo led) } (.ref s.heap.objs.size) "set" := ⟨_, hS, rfl⟩
      have hli := PySem.F.called_set.init.lookup; have hbi := PySem.F.called_set.init.bind (.ref s.heap.objs.size)
      repeat (any_goals first | assumption | wp_step)
      refine codeAny_mono (codeAny_call_builtin (R := wants (fun r z => r = .none ∧ ∃ h' tk, z = { s with heap := h', toks := tk } ∧ SetS prog w h' s.heap.objs.size (sgS x) ∧ (∀ b o, b < s.heap.objs.size → s.heap.get? b = some o → h'.get? b = some o)) E) PySem.F.called_set.init.plain PySem.F.entry_set_init (check_set_init_1 hT ?_)) fun r₂ s₂ hr₂ => ?_
      · have hsls := PySem.F.sub_str_set; have hslf := PySem.F.sub_str_frozenset
        have hne : (Value.type "str" == Value.type "dict") = false := by decide
        unfold Builtin.«set.__init__» noKeywords Builtin.Frozenset.updateFrom
        generalize hPI : pyIter = PI
        wp_walk
        subst hPI
        refine PySem.wpAny_pyIter_str fun o St hW hst => ?_
        refine wpAny_bind (wpAny_runValue ?_)
        have hh3 : A.in1.in1.in1.handled = none := by simp [hh]
        have hne2 : s.heap.objs.size ∉ [(s.heap.push (fo led)).objs.size] := by
          rw [Heap.size_push, List.mem_singleton]; exact Nat.ne_of_lt (Nat.lt_succ_self _)
        refine setLoop (hW _ hh3).toS s.heap.objs.size hne2 (sgS x) (by rw [sgS_len]; rfl) (fun i v hv => ?_) hb (x.cps.size - 0) 0 (by omega) (Nat.zero_le _) _ hst ?_ fun z hm hS3 => ?_
        · obtain ⟨c, u, e1, e2⟩ := hv
          exact ⟨u, _, by unfold sgS; rw [List.getElem?_map, Array.getElem?_toList, e1]; rfl, e2⟩
        · have hget : ((s.heap.push (fo led)).push o).get? s.heap.objs.size = some (fo led) := Heap.get?_push_of_some _ hS
          exact PyProof.Rows.SetOf_congr ((PyProof.Rows.setObjOf_fresh (knd := PySem.strKind prog w) led).setOf hget (by unfold scanBound; omega)) (fun _ => rfl) rfl
        · obtain ⟨h', g', d', tk', os'⟩ := z
          cases (show g' = s.gens from hm.gens); cases (show d' = s.drawn from hm.drawn); cases (show os' = s.os from hm.os)
          refine wpAny_pure (wpAny_pure ⟨rfl, h', tk', rfl, hS3, fun b o2 hb e => ?_⟩)
          have hb1 : b ≠ s.heap.objs.size := Nat.ne_of_lt hb
          have hb2 : b ≠ (s.heap.push (fo led)).objs.size := by rw [Heap.size_push]; exact Nat.ne_of_lt (Nat.lt_succ_of_lt hb)
          exact hm.heap b o2 (by simp only [List.mem_cons, List.mem_singleton, List.not_mem_nil, or_false, not_or]; exact ⟨hb1, hb2⟩) (Heap.get?_push_of_some _ (Heap.get?_push_of_some _ e))
      · cases r₂ with
        | error e => exact hr₂
        | ok fl₂ =>
          cases fl₂ with
          | ret r =>
            obtain ⟨rfl, h', tk, rfl, hS', hk'⟩ := hr₂
            repeat (any_goals first | assumption | wp_step)
            exact h _ _ hS' hk'
          | _ => exact hr₂.elim
    | _ => exact hr.elim
end
end AL

namespace AL
open PySem PySem.Spec PyProof.Rows L2
variable {B : Bs}
def tLenSetT (ta : TE) : TE := fun σ H Q => ta σ H fun x H1 => ∃ z, x = .str z ∧ z.length ≤ 4000 ∧ Q (.int (dd (sgS z)).length) H1
section
variable {X : Cx} {K : PySem.W.Frag}
theorem pe_lenSetT {a : Expr} {ta : TE} {p p2 q pos : Pos} (hm : X.mg "len" = none) (hm2 : X.mg "set" = none) (ha : PE X a ta) (hc : X.calm = true := by rfl) (hg : Gl X "len" := by rfl) (hg2 : Gl X "set" := by rfl)
    (na : starEach [a] X.env = (false, eval a X.env) :: starEach [] X.env := by rfl) : PE X (.Call (.Name "len" p) [.Call (.Name "set" p2) [a] [] q] [] pos) (tLenSetT ta) := by
  refine ⟨fun pins s σ H Q I h => PyProof.Rows.Call_ (ld_blt I hg hm boot_len (PyProof.Rows.callWith_builtin1 (PyProof.Rows.args_cons (PyProof.Rows.Call_ (ld_blt I hg2 hm2 boot_set ?_)) rfl) rfl rfl))⟩
  refine PyProof.Rows.callWith_type1 (PyProof.Rows.args_cons (thn (ha.run pins s σ H _ I h) fun v s1 ⟨x, H1, I1, r1, q1⟩ => PyProof.Rows.args_nil ?_) na) na rfl
  obtain ⟨z, rfl, hz, q1⟩ := q1
  obtain ⟨t, rfl⟩ := r1
  refine callSetStr (I1.ok.hd hc) (by unfold scanBound; omega) fun h' tk hS hk => PyProof.Rows.args_nil ?_
  have hle := dd_le (sgS z)
  rw [sgS_len] at hle
  obtain ⟨o, es, ep, tb, ho, hex, hd, _, _, _, hf, hn⟩ := hS
  have I2 : Inv X pins σ H1 { s1 with heap := h', toks := tk } := I1.kept fun b o e => hk b o (Heap.lt_size e) e
  exact call_len_set ho hex hd hf (by rw [hn] <;> omega) ⟨.int (dd (sgS z)).length, H1, I2.tok _, ⟨_, by rw [hn]⟩, q1⟩
def aLenSet (a : AE') : AE' := fun s C P => a s C fun x C1 => match x with | .str z => z.length ≤ 4000 ∧ P (.int (dd (sgS z)).length) C1 | _ => False
theorem ae_lenSetT {a : Expr} {ta : TE} {aa : AE'} {p p2 q pos : Pos} (hm : X.mg "len" = none) (hm2 : X.mg "set" = none) (ha : AE B X a ta aa) (hc : X.calm = true := by rfl) (hg : Gl X "len" := by rfl) (hg2 : Gl X "set" := by rfl)
    (na : starEach [a] X.env = (false, eval a X.env) :: starEach [] X.env := by rfl) : AE B X (.Call (.Name "len" p) [.Call (.Name "set" p2) [a] [] q] [] pos) (tLenSetT ta) (aLenSet aa) := ⟨pe_lenSetT hm hm2 ha.pe hc hg hg2 na, by
  intro σ s F C R H Q P hs hS h0 k
  refine ha.sim σ s F C R H _ _ hs hS h0 fun x v F1 C1 H1 e1 S1 r1 h1 => ?_
  split at h1
  · cases r1
    exact ⟨_, rfl, h1.1, k _ _ F1 C1 H1 e1 S1 (.int _) h1.2⟩
  · exact h1.elim⟩
/-- ord of one sign -/
def aOrd : ASp := fun ds C P => match ds with | [.str z] => z.length = 1 ∧ P (.int (z.cps.getD 0 0 : Nat)) C | _ => False
theorem ac_ord : ACa B X (.builtin "ord") (fun xs H Q => ∃ x, xs = [.str x] ∧ x.length = 1 ∧ Q (.int (x.cps.getD 0 0 : Nat)) H) aOrd := ⟨call_ord, by
  intro vs ds F C R H Q P hS r h k
  unfold aOrd at h
  split at h
  · cases r with
    | cons r1 r2 =>
      cases r2; cases r1
      exact ⟨_, rfl, h.1, k _ _ F C H (Ex.refl F) hS (.int _) h.2⟩
  · exact h.elim⟩
end
section
variable {C : AH} {P : D → AH → Prop} {s : ASt} {e : AE'}
def kLenSet (P : D → AH → Prop) : D → AH → Prop := fun x C1 => match x with | .str z => z.length ≤ 4000 ∧ P (.int (dd (sgS z)).length) C1 | _ => False
theorem g_lenSet (h : e s C (kLenSet P)) : aLenSet e s C P := h
theorem g_kLenSet {z : Str} (h1 : z.length ≤ 4000) (h : P (.int (dd (sgS z)).length) C) : kLenSet P (.str z) C := ⟨h1, h⟩
theorem g_ord {z : Str} (h1 : z.length = 1) (h : P (.int (z.cps.getD 0 0 : Nat)) C) : aOrd [.str z] C P := ⟨h1, h⟩
end
end AL

namespace AL
open PySem PySem.Spec PyProof.Rows L2
variable {B : Bs}
/-! ### a dict of the module: texts, and a whole number each -/
def TabI (P : Params) : List DictEntry → List (Str × Int) → Prop
  | [], [] => True
  | e :: r, (x, i) :: q => (∃ t u, e.key = .str x t ∧ e.val = .int i u ∧ e.hash = PyData.keyHash P x) ∧ TabI P r q
  | _, _ => False
def tabAt : List (Str × Int) → Str → Option Int
  | [], _ => none
  | (x, i) :: q, z => if x = z then some i else tabAt q z
theorem TabI.lit {P : Params} : ∀ {es : List DictEntry} {tab : List (Str × Int)}, TabI P es tab → PySem.W.KeysLit P es
  | [], _, _ => trivial
  | e :: r, (x, i) :: q, ⟨⟨t, u, h1, h2, h3⟩, h⟩ => ⟨⟨x, t, h1, h3⟩, TabI.lit h⟩
  | e :: r, [], h => h.elim
theorem TabI.noRef {P : Params} : ∀ {es : List DictEntry} {tab : List (Str × Int)}, TabI P es tab → es.any (·.refKey) = false
  | [], _, _ => rfl
  | e :: r, (x, i) :: q, ⟨⟨t, u, h1, h2, h3⟩, h⟩ => by
    rw [List.any_cons, TabI.noRef h, Bool.or_false]
    unfold DictEntry.refKey
    rw [h1]
  | e :: r, [], h => h.elim
theorem TabI.find {P : Params} : ∀ {es : List DictEntry} {tab : List (Str × Int)} (z : Str), TabI P es tab → match tabAt tab z with | some i => ∃ e u, es.find? (·.key.isStr z) = some e ∧ e.val = .int i u | none => es.find? (·.key.isStr z) = none
  | [], [], _, _ => rfl
  | [], _ :: _, _, h => h.elim
  | e :: r, (x, i) :: q, z, ⟨⟨t, u, h1, h2, h3⟩, h⟩ => by
    unfold tabAt
    by_cases hx : x = z
    · rw [if_pos hx]
      refine ⟨e, u, ?_, h2⟩
      rw [List.find?_cons_of_pos]
      rw [h1, hx]
      simp [Value.isStr]
    · rw [if_neg hx, List.find?_cons_of_neg]
      · exact TabI.find z h
      · rw [h1]
        simp [Value.isStr, hx]
  | e :: r, [], _, h => h.elim
structure KTab (K : PySem.W.Frag) (P : Params) (d : Addr) (tab : List (Str × Int)) : Prop where
  ex : ∃ es n, K.lookup d = some ⟨.type "dict", none, .dict es n, #[]⟩ ∧ TabI P es.toList tab
  low : (d == sysModules) = false
theorem KTab.ns {K : PySem.W.Frag} {P : Params} {d : Addr} {tab : List (Str × Int)} (T : KTab K P d tab) (z : Str) : match tabAt tab z with | some i => ∃ u, PySem.W.nsIn K d z = some (some (.int i u)) | none => PySem.W.nsIn K d z = some none := by
  obtain ⟨es, n, h1, h2⟩ := T.ex
  have h := h2.find z
  unfold PySem.W.nsIn
  rw [h1]
  dsimp only
  cases q : tabAt tab z with
  | some i =>
    rw [q] at h
    obtain ⟨e, u, e1, e2⟩ := h
    exact ⟨u, by rw [e1]; dsimp only; rw [e2]⟩
  | none =>
    rw [q] at h
    rw [h]
    dsimp only
    rw [h2.noRef]
    rfl
section
variable {X : Cx} {K : PySem.W.Frag} {x : Str} {d : Addr} {tab : List (Str × Int)} {e : Expr} {te : TE} {a : AE'} {p pos : Pos}
def rInTab (d : Addr) (tab : List (Str × Int)) (neg : Bool) : R2 := fun v y H Q => ∃ z, v = .str z ∧ y = .ref d ∧ Q (.bl (if neg then !(tabAt tab z).isSome else (tabAt tab z).isSome)) H
theorem op_inTab (T : KTab X.K X.w.params d tab) : OpR X (compareOp .In) (rInTab d tab false) := by
  obtain ⟨es, n, h1, h2⟩ := T.ex
  have D : KDict X.K X.w d es n := ⟨h1, h2.lit, T.low⟩
  intro pins s σ H x y v u Q I rx ry h
  obtain ⟨z, e1, e2, q⟩ := h
  have hn := T.ns z
  cases hz : tabAt tab z with
  | some i =>
    rw [hz] at hn q
    obtain ⟨w, hn⟩ := hn
    exact op_in_kd D pins s σ H x y v u Q I rx ry ⟨z, _, e1, e2, hn, q⟩
  | none =>
    rw [hz] at hn q
    exact op_in_kd D pins s σ H x y v u Q I rx ry ⟨z, _, e1, e2, hn, q⟩
theorem op_notInTab (T : KTab X.K X.w.params d tab) : OpR X (compareOp .NotIn) (rInTab d tab true) := by
  obtain ⟨es, n, h1, h2⟩ := T.ex
  have D : KDict X.K X.w d es n := ⟨h1, h2.lit, T.low⟩
  intro pins s σ H x y v u Q I rx ry h
  obtain ⟨z, e1, e2, q⟩ := h
  have hn := T.ns z
  cases hz : tabAt tab z with
  | some i =>
    rw [hz] at hn q
    obtain ⟨w, hn⟩ := hn
    exact op_notIn_kd D pins s σ H x y v u Q I rx ry ⟨z, _, e1, e2, hn, q⟩
  | none =>
    rw [hz] at hn q
    exact op_notIn_kd D pins s σ H x y v u Q I rx ry ⟨z, _, e1, e2, hn, q⟩
def aInTab (tab : List (Str × Int)) (neg : Bool) (a : AE') : AE' := fun s C P => a s C fun x C1 => match x with | .str z => P (.bl (if neg then !(tabAt tab z).isSome else (tabAt tab z).isSome)) C1 | _ => False
theorem sim_inTab {neg : Bool} (h : SimE B K te a) : SimE B K (tOp (rInTab d tab neg) te (tC (.ref d))) (aInTab tab neg a) := by
  intro σ s F C R H Q P hs hS h0 k
  refine h σ s F C R H _ _ hs hS h0 fun y v F1 C1 H1 e1 S1 r1 h1 => ?_
  split at h1
  · cases r1
    exact ⟨_, rfl, rfl, k _ _ F1 C1 H1 e1 S1 (.bl _) h1⟩
  · exact h1.elim
theorem ae_inTab (h : AE B X e te a) (T : KTab X.K X.w.params d tab) (hm : X.mg x = some (.ref d)) (hg : Gl X x := by rfl) (hd : (x == ("__debug__" : Str)) = false := by decide) (hb : behindInMarks .In (.Name x p) = false := by first | exact nomark _ | with_unfolding_all rfl) :
    AE B X (.Compare e [.In] [.Name x p] pos) (tOp (rInTab d tab false) te (tC (.ref d))) (aInTab tab false a) := ⟨pe_cmpR (op_inTab T) h.pe (pe_glob (v := .ref d) hg hm rfl hd) hb, sim_inTab h.sim⟩
theorem at_inTab (h : AE B X e te a) (T : KTab X.K X.w.params d tab) (hm : X.mg x = some (.ref d)) (hg : Gl X x := by rfl) (hd : (x == ("__debug__" : Str)) = false := by decide) (hb : behindInMarks .In (.Name x p) = false := by first | exact nomark _ | with_unfolding_all rfl) :
    AT B X (.Compare e [.In] [.Name x p] pos) (tTest (tOp (rInTab d tab false) te (tC (.ref d)))) (aB (aInTab tab false a)) := ⟨pt_cmpR (op_inTab T) h.pe (pe_glob (v := .ref d) hg hm rfl hd) hb, sim_B (sim_inTab h.sim)⟩
theorem ae_notInTab (h : AE B X e te a) (T : KTab X.K X.w.params d tab) (hm : X.mg x = some (.ref d)) (hg : Gl X x := by rfl) (hd : (x == ("__debug__" : Str)) = false := by decide) (hb : behindInMarks .NotIn (.Name x p) = false := by first | exact nomark _ | with_unfolding_all rfl) :
    AE B X (.Compare e [.NotIn] [.Name x p] pos) (tOp (rInTab d tab true) te (tC (.ref d))) (aInTab tab true a) := ⟨pe_cmpR (op_notInTab T) h.pe (pe_glob (v := .ref d) hg hm rfl hd) hb, sim_inTab h.sim⟩
theorem at_notInTab (h : AE B X e te a) (T : KTab X.K X.w.params d tab) (hm : X.mg x = some (.ref d)) (hg : Gl X x := by rfl) (hd : (x == ("__debug__" : Str)) = false := by decide) (hb : behindInMarks .NotIn (.Name x p) = false := by first | exact nomark _ | with_unfolding_all rfl) :
    AT B X (.Compare e [.NotIn] [.Name x p] pos) (tTest (tOp (rInTab d tab true) te (tC (.ref d)))) (aB (aInTab tab true a)) := ⟨pt_cmpR (op_notInTab T) h.pe (pe_glob (v := .ref d) hg hm rfl hd) hb, sim_B (sim_inTab h.sim)⟩
/-- TABLE[e] -/
def rIxTab (d : Addr) (tab : List (Str × Int)) : R2 := fun v y H Q => ∃ z i, v = .ref d ∧ y = .str z ∧ tabAt tab z = some i ∧ Q (.int i) H
theorem ix_tab (T : KTab X.K X.w.params d tab) : IxR X (rIxTab d tab) := by
  obtain ⟨es, n, h1, h2⟩ := T.ex
  have D : KDict X.K X.w d es n := ⟨h1, h2.lit, T.low⟩
  intro value slice pins s σ H x y v u Q I rx ry h hs
  obtain ⟨z, i, e1, e2, hz, q⟩ := h
  have hn := T.ns z
  rw [hz] at hn
  obtain ⟨w, hn⟩ := hn
  subst e1
  cases rx
  refine tail_any (kd_type D I) PySem.F.slot_dict_getitem.lookup ?_ hs
  exact op_item_kd D pins s σ H (.ref d) y (.ref d) u Q I rfl ry ⟨z, _, .int i, rfl, e2, hn, ⟨_, rfl⟩, q⟩
def aIxTab (tab : List (Str × Int)) (a : AE') : AE' := fun s C P => a s C fun x C1 => match x with | .str z => (match tabAt tab z with | some i => P (.int i) C1 | none => False) | _ => False
theorem ae_ixTab (h : AE B X e te a) (T : KTab X.K X.w.params d tab) (hm : X.mg x = some (.ref d)) (hg : Gl X x := by rfl) (hd : (x == ("__debug__" : Str)) = false := by decide) (hs : PlainIx e := by exact fun _ _ => rfl) :
    AE B X (.Subscript (.Name x p) e pos) (tOp (rIxTab d tab) (tC (.ref d)) te) (aIxTab tab a) := ⟨pe_ix (ix_tab T) (pe_glob (v := .ref d) hg hm rfl hd) h.pe hs, by
  intro σ s F C R H Q P hs hS h0 k
  refine h.sim σ s F C R H _ _ hs hS h0 fun y v F1 C1 H1 e1 S1 r1 h1 => ?_
  split at h1
  · cases r1
    split at h1
    · rename_i i hi
      exact ⟨_, i, rfl, rfl, hi, k _ _ F1 C1 H1 e1 S1 (.int _) h1⟩
    · exact h1.elim
  · exact h1.elim⟩
end
section
variable {C : AH} {P : D → AH → Prop} {s : ASt} {e : AE'} {tab : List (Str × Int)}
def kInTab (tab : List (Str × Int)) (neg : Bool) (P : D → AH → Prop) : D → AH → Prop := fun x C1 => match x with | .str z => P (.bl (if neg then !(tabAt tab z).isSome else (tabAt tab z).isSome)) C1 | _ => False
def kIxTab (tab : List (Str × Int)) (P : D → AH → Prop) : D → AH → Prop := fun x C1 => match x with | .str z => (match tabAt tab z with | some i => P (.int i) C1 | none => False) | _ => False
theorem g_inTab {neg : Bool} (h : e s C (kInTab tab neg P)) : aInTab tab neg e s C P := h
theorem g_kInTab {z : Str} (h : P (.bl (tabAt tab z).isSome) C) : kInTab tab false P (.str z) C := h
theorem g_kNotInTab {z : Str} (h : P (.bl (!(tabAt tab z).isSome)) C) : kInTab tab true P (.str z) C := h
theorem g_ixTab (h : e s C (kIxTab tab P)) : aIxTab tab e s C P := h
theorem g_kIxTab {z : Str} {i : Int} (h1 : tabAt tab z = some i) (h : P (.int i) C) : kIxTab tab P (.str z) C := by
  unfold kIxTab
  simp only [h1]
  exact h
end
end AL

namespace AL
open PySem PySem.Spec PyProof.Rows L2
variable {B : Bs}
/-! ### a list, whatever is in it, == [] -/
def rEqE (K : PySem.W.Frag) (neg : Bool) : R2 := fun x y H Q => ∃ a b xs, x = .ref a ∧ y = .ref b ∧ SqL K H a xs ∧ SqL K H b [] ∧ Q (.bl (if neg then !xs.isEmpty else xs.isEmpty)) H
section
variable {X : Cx} {K : PySem.W.Frag}
theorem op_eqE (hu : X.A.units + 64 < cLine) : OpR X (compareOp .Eq) (rEqE X.K false) := by
  intro pins s σ H x y v u Q I rx ry h
  obtain ⟨a, b, xs, rfl, rfl, h1, h2, q⟩ := h
  cases xs with
  | nil => exact op_eqD hu pins s σ H _ _ v u Q I rx ry ⟨.list [], .list [], .lst h1 .nil, .lst h2 .nil, rfl, rfl, q⟩
  | cons e es =>
    cases rx; cases ry
    obtain ⟨its, r, pl, _⟩ := I.list h1
    obtain ⟨its2, r2, pl2, _⟩ := I.list h2
    have l1 := r.length
    have l2 := r2.length
    refine SeqAt.RcAt.lists_lengths pl.isList pl2.isList ?_ (by omega) X.prog X.w _ _ ⟨.bl false, H, I, rfl, q⟩
    rw [List.size_toArray, List.size_toArray, ← l1, ← l2]
    simp
theorem op_neE (hu : X.A.units + 64 < cLine) : OpR X (compareOp .NotEq) (rEqE X.K true) := by
  intro pins s σ H x y v u Q I rx ry h
  obtain ⟨a, b, xs, rfl, rfl, h1, h2, q⟩ := h
  cases xs with
  | nil => exact op_neD hu pins s σ H _ _ v u Q I rx ry ⟨.list [], .list [], .lst h1 .nil, .lst h2 .nil, rfl, rfl, q⟩
  | cons e es =>
    cases rx; cases ry
    obtain ⟨its, r, pl, _⟩ := I.list h1
    obtain ⟨its2, r2, pl2, _⟩ := I.list h2
    have l1 := r.length
    have l2 := r2.length
    refine SeqAt.RcNeAt.lists_lengths pl.isList pl2.isList ?_ (by omega) X.prog X.w _ _ ⟨.bl true, H, I, rfl, q⟩
    rw [List.size_toArray, List.size_toArray, ← l1, ← l2]
    simp
/-- the right side is [] -/
def aEqNil (neg : Bool) : D → D → AH → (D → AH → Prop) → Prop := fun x y C P => match asLr C x, y with
  | some us, .lst [] => P (.bl (if neg then !us.isEmpty else us.isEmpty)) C
  | _, _ => False
theorem sim_eqNil (neg : Bool) : SimR2 B K (rEqE K neg) (aEqNil neg) := by
  intro v w d e F C R H Q P hS r1 r2 h k
  unfold aEqNil at h
  split at h
  · rename_i us q
    obtain ⟨a, xs, e1, h1, h2⟩ := asLr_ok hS r1 q
    obtain ⟨b, ys, e2, h3, h4⟩ := asLr_ok (C := C) (d := .lst []) (ds := []) hS r2 rfl
    cases h4
    have he : xs.isEmpty = us.isEmpty := by cases h2 <;> rfl
    exact ⟨a, b, xs, e1, e2, h1, h3, k _ _ F C H (Ex.refl F) hS (by rw [he]; exact .bl _) h⟩
  · exact h.elim
theorem ao_eqNil (hu : X.A.units + 64 < cLine) (hK : X.K = K := by rfl) : AOp B X (compareOp .Eq) (rEqE K false) (aEqNil false) := by
  subst hK
  exact ⟨op_eqE hu, sim_eqNil false⟩
theorem ao_neNil (hu : X.A.units + 64 < cLine) (hK : X.K = K := by rfl) : AOp B X (compareOp .NotEq) (rEqE K true) (aEqNil true) := by
  subst hK
  exact ⟨op_neE hu, sim_eqNil true⟩
end
section
variable {C : AH} {P : D → AH → Prop}
theorem g_eqNil {us : List D} (h : P (.bl us.isEmpty) C) : aEqNil false (.lst us) (.lst []) C P := h
theorem g_neNil {us : List D} (h : P (.bl (!us.isEmpty)) C) : aEqNil true (.lst us) (.lst []) C P := h
end
/-! ### a < b < c, one step -/
section
variable {C : AH} {P : D → AH → Prop} {s : ASt} {a b c : AE'} {r r' : D → D → AH → (D → AH → Prop) → Prop}
def kChain (r' : D → D → AH → (D → AH → Prop) → Prop) (c : AE') (y : D) (s : ASt) (P : D → AH → Prop) : D → AH → Prop := fun z C3 => match z with
  | .bl true => c s C3 fun w C4 => r' y w C4 P
  | .bl false => P (.bl false) C3
  | _ => False
theorem g_chain (h : a s C fun x C1 => b s C1 fun y C2 => r x y C2 (kChain r' c y s P)) : aChain r r' a b c s C P := h
theorem g_kChain {y : D} {k : Bool} (h1 : k = true → c s C fun w C4 => r' y w C4 P) (h2 : k = false → P (.bl false) C) : kChain r' c y s P (.bl k) C := by
  cases k
  · exact h2 rfl
  · exact h1 rfl
end
end AL

namespace AL
open PySem PySem.Spec PyProof.Rows L2
variable {B : Bs}
section
variable {X : Cx} {K : PySem.W.Frag}
/-! ### {k: v}, k a tuple -/
def keyD : Key → D
  | .inl i => .int i
  | .inr x => .str x
def keysD : List D → Option (List Key)
  | [] => some []
  | .int i :: ds => (keysD ds).map (.inl i :: ·)
  | .str x :: ds => (keysD ds).map (.inr x :: ·)
  | _ => none
theorem keysD_ok : ∀ {ds : List D} {ks : List Key}, keysD ds = some ks → ds = ks.map keyD
  | [], _, h => by cases h; rfl
  | d :: ds, _, h => by
    cases d <;> simp only [keysD, reduceCtorEq, Option.map_eq_some_iff] at h
    all_goals
      obtain ⟨ks, h1, rfl⟩ := h
      rw [List.map_cons, ← keysD_ok h1]
      rfl
theorem keysD_map : ∀ ks : List Key, keysD (ks.map keyD) = some ks
  | [] => rfl
  | .inl i :: ks => by simp [keysD, keyD, keysD_map ks]
  | .inr x :: ks => by simp [keysD, keyD, keysD_map ks]
theorem keysD_rep {F : Hp} : ∀ {ks : List Key} {vs : List V}, RepL K F vs (ks.map keyD) → vs = ks.map kV
  | [], _, .nil => rfl
  | .inl i :: ks, _, .cons r t => by cases r; rw [keysD_rep t]; rfl
  | .inr i :: ks, _, .cons r t => by cases r; rw [keysD_rep t]; rfl
theorem rep_keyD {F : Hp} : ∀ ks : List Key, RepL K F (ks.map kV) (ks.map keyD)
  | [] => .nil
  | .inl i :: ks => .cons (.int i) (rep_keyD ks)
  | .inr i :: ks => .cons (.str i) (rep_keyD ks)
def tDispT (tk tv : TE) : TE := fun σ H Q => ∀ p, H p = none → tk σ (upd H p (.dT [])) fun x H1 => tv σ H1 fun y H2 => H2 p = some (.dT []) ∧ ∃ a ks, x = .ref a ∧ H2 a = some (.tup (ks.map kV)) ∧ Q (.ref p) (upd H2 p (.dT [(ks, y)]))
theorem pe_dispT {pos : Pos} {k v : Expr} {tk tv : TE} (hu : X.A.units + 1 < cLine) (hk : PE X k tk) (hv : PE X v tv) : PE X (.Dict [some k] [v] pos) (tDispT tk tv) := by
  refine ⟨fun pins s σ H Q I q => ?_⟩
  have hn := I.hok.fresh (Nat.le_refl s.heap.objs.size)
  have I1 := I.laid (a := s.heap.objs.size) (o := .dT []) (h' := s.heap.push { cls := .type "dict", data := .dict #[] }) (t' := s.toks) (fun _ _ q => Heap.get?_push_of_some _ q) (Nat.le_refl _) (dt_empty s.heap I.big)
  rw [arm_eval_Dict, zip_pairTrees [some k] [v] X.env pos rfl rfl, dictDisplay_pairs _ (by simp [pairTrees]) (by simp [pairTrees])]
  refine wpAny_bind (wpAny_standAt (wpAny_bind (wpAny_subDictH (knd := tupleKind (mixKind X.prog X.w)) (Q := fun d s' => wpAny (model X.prog X.w) X.A (pure (Value.ref d)) (EP X pins σ Q) X.xe s') (show X.A.units < cLine by omega) (by simp [pairTrees]) ?_)))
  refine pairTrees_cons_walk (thn (hk.run pins _ σ _ _ I1 (q _ hn)) fun u s1 ⟨x, H1, I1, rx, q1⟩ => thn (hv.run pins s1 σ H1 _ I1 q1) fun w2 s2 ⟨y, H2, I2, ry, q2⟩ => pairTrees_nil_walk ?_)
  obtain ⟨e, a, ks, rfl, ea, q2⟩ := q2
  cases rx
  obtain ⟨z, hd, xs, r0, dd⟩ := dt_of I2.hok e
  cases r0
  refine ⟨[(ks, a, w2)], ⟨rfl, rfl, key_of I2.hok ea, trivial⟩, dd, fun h' tk' dd' hs => wpAny_pure ⟨.ref s.heap.objs.size, _, ?_, rfl, q2⟩⟩
  obtain ⟨q, es, ep, hq, h2, h3, h4, _, h5⟩ := dd'
  refine d_write I2 (by rw [e]; exact True.intro) hs ⟨q, hq⟩ ⟨by simp [sizeLine_eq], hd, [(ks, a, w2)], .cons ⟨rfl, ?_, ry⟩ .nil, q, es, ep, hq, h2, h3, h4, h5⟩
  show upd H2 _ _ a = _
  rw [upd_ne (ne_of ea e (fun z => nomatch z))]
  exact ea
def aDispT (ak av : AE') : AE' := fun s C P => ak s C fun dk C1 => av s C1 fun dv C2 => match dk with
  | .tup ds => (match keysD ds with | some ks => ∀ p, C2 p = none → P (.ce p) (put C2 p (.dt [(ks, dv)])) | none => False)
  | _ => False
theorem sim_dispT {tk tv : TE} {ak av : AE'} (h1 : SimE B K tk ak) (h2 : SimE B K tv av) : SimE B K (tDispT tk tv) (aDispT ak av) := by
  intro σ s F C R H Q P hs hS h0 k p hp
  have hF := hS.freeF hp
  have hC := hS.freeC hp
  have hR := hS.freeR hp
  refine h1 σ s F C (upd R p (.dT [])) (upd H p (.dT [])) _ _ hs (hS.setR hF hC (hS.freeB hR) _) h0 fun d v F1 C1 H1 e1 S1 r1 g1 => ?_
  refine h2 σ s F1 C1 _ H1 _ _ (hs.mono e1) S1 g1 fun d2 v2 F2 C2 H2 e2 S2 r2 g2 => ?_
  split at g2
  · split at g2
    · rename_i ds ks ek
      have := keysD_ok ek
      subst this
      cases r1 with
      | tup a1 a2 =>
        have := keysD_rep a2
        subst this
        obtain ⟨f1, c1, q1⟩ := S2.priv p _ upd_same
        refine ⟨q1, _, ks, rfl, S2.ex _ _ (e2 _ _ a1), ?_⟩
        have S3 := (S2.outC hR (hS.freeB hR) (.dt .nil)).mutC put_same (.dt (.cons (k := ks) r2 .nil))
        rw [put_put] at S3
        exact k _ _ F2 _ _ (e1.trans e2) S3 (.ce p) (g2 p c1)
    · exact g2.elim
  · exact g2.elim
theorem ae_dispT {pos : Pos} {k v : Expr} {tk tv : TE} {ak av : AE'} (hu : X.A.units + 1 < cLine) (h1 : AE B X k tk ak) (h2 : AE B X v tv av) : AE B X (.Dict [some k] [v] pos) (tDispT tk tv) (aDispT ak av) :=
  ⟨pe_dispT hu h1.pe h2.pe, sim_dispT h1.sim h2.sim⟩
/-! ### repr of such a dict -/
def peT : List (List Key × D) → Option (List (PyData × PyData))
  | [] => some []
  | (k, d) :: es => match D.pe d, peT es with | some x, some xs => some ((.tuple (k.map datKey), x) :: xs) | _, _ => none
theorem pe_keys : ∀ ks : List Key, peL (ks.map keyD) = some (ks.map datKey)
  | [] => rfl
  | .inl i :: ks => by simp [peL, pe_keys ks, keyD, datKey, D.pe]
  | .inr i :: ks => by simp [peL, pe_keys ks, keyD, datKey, D.pe]
section
variable {pins : List (Addr × Obj)} {σ : L2.St} {H F : Hp} {s : Shared}
theorem shwT_of (I : Inv X pins σ H s) (e : Ex F H) : ∀ (es : List (List Key × D)) (kvs : List (List Key × V)) (vs : List (List Key × Addr × Value)) (xs : List (PyData × PyData)), RepT X.K F kvs es → KT H kvs vs → peT es = some xs →
    PyData.showableAll (xs.map (·.1)) = true → PyData.showableAll (xs.map (·.2)) = true → (∀ t ∈ PyData.shownAll (xs.map (·.1)), t.length ≤ sizeLine) → (∀ t ∈ PyData.shownAll (xs.map (·.2)), t.length ≤ sizeLine) →
    ShwL X s.heap (vs.map fun v => Value.ref v.2.1) (xs.map (·.1)) ∧ ShwL X s.heap (vs.map fun v => v.2.2) (xs.map (·.2))
  | [], _, _, _, r, q, h, _, _, _, _ => by
    cases r; cases q
    simp only [peT] at h
    cases h
    exact ⟨.nil, .nil⟩
  | (k, d) :: es, _, _, _, r, q, h, s1, s2, z1, z2 => by
    cases r with
    | cons r1 r2 =>
      cases q with
      | cons q1 q2 =>
        unfold peT at h
        split at h
        · rename_i g1 g2
          cases h
          simp only [List.map_cons, PyData.showableAll, Bool.and_eq_true] at s1 s2
          simp only [List.map_cons, PyData.shownAll] at z1 z2
          obtain ⟨i1, i2⟩ := shwT_of I e es _ _ _ r2 q2 g2 s1.2 s2.2 (fun t ht => z1 t (List.mem_cons_of_mem _ ht)) (fun t ht => z2 t (List.mem_cons_of_mem _ ht))
          obtain ⟨q11, q12, q13⟩ := q1
          have e1 : k = _ := q11
          refine ⟨ShwL.cons ?_ i1, ShwL.cons (shw_of I e d _ _ _ r1 q13 g1 s2.1 (z2 _ (List.mem_cons_self ..))) i2⟩
          obtain ⟨its, rv, pl, _⟩ := I.tuple (SqT.of q12)
          exact shw_tup pl (shwL_of I (Ex.refl H) (k.map keyD) _ its _ (rep_keyD k) rv (pe_keys k) (by simpa [PyData.showable] using s1.1) fun t ht => Nat.le_trans (shown_memT ht) (z1 _ (List.mem_cons_self ..)))
        · cases h
end
def rRepT2 (K : PySem.W.Frag) : List V → Hp → VK → Prop := fun xs H Q => ∃ a es kvs F x, xs = [.ref a] ∧ Ex F H ∧ H a = some (.dT kvs) ∧ RepT K F kvs es ∧ peT es = some x ∧ (PyData.dict x).showable = true ∧ (PyData.dict x).depth ≤ 64 ∧ (PyData.dict x).shown.length ≤ sizeLine ∧ Q (.str (PyData.dict x).shown) H
theorem call_repT2 (hg : X.A.guards = some []) (hu : X.A.units + 200 < cLine) : CallR X (.builtin "repr") (rRepT2 X.K) := by
  intro pins s σ H xs us Q I r h
  obtain ⟨a, es, kvs, F, x, rfl, ex, ha, g2, g, h1, h3, h4, q⟩ := h
  obtain ⟨u, rfl, r1⟩ := vals1 r
  cases r1
  have fin : ∀ (h' : Heap) (t tk : Tok), (∀ b o, s.heap.get? b = some o → h'.get? b = some o) → EP X pins σ Q (.str (PyData.dict x).shown t) { s with heap := h', toks := tk } := fun h' t tk k => ⟨.str _, H, (I.kept (t' := tk) k), ⟨t, rfl⟩, q⟩
  have hu2 : ∀ n, n ≤ 64 → X.A.in1.units + n < cLine := fun n hn => by show X.A.units + 1 + n < cLine; omega
  obtain ⟨_, lo, vs, kt, o, ens, ep, a1, a2, a3, a4, a5, a6⟩ := dt_of I.hok ha
  obtain ⟨s1, s2⟩ := PyData.showableKv_split x (by simpa [PyData.showable] using h1)
  have hz' : (dictText (PyData.shownKv x)).length ≤ sizeLine := by simpa only [PyData.shown] using h4
  have sh := shwT_of I ex es _ vs x g2 kt g s1 s2 (fun t ht => let ⟨p, hp, hl⟩ := PyData.shownKv_key_le x t ht; Nat.le_trans hl (Nat.le_trans (dictText_mem_le hp) hz'))
    (fun t ht => let ⟨p, hp, hl⟩ := PyData.shownKv_val_le x t ht; Nat.le_trans hl (Nat.le_trans (dictText_mem_le hp) hz'))
  have ek : ens.toList.map (·.key) = vs.map fun v => Value.ref v.2.1 := by rw [a4, List.map_map]; rfl
  have ev : ens.toList.map (·.val) = vs.map fun v => v.2.2 := by rw [a4, List.map_map]; rfl
  rw [← ek, ← ev] at sh
  obtain ⟨⟨⟨as, r1⟩, b1, m1, k1⟩, ⟨as2, r2⟩, b2, m2, k2⟩ := sh
  have rr : Reads s.heap (.ref _) (.dict x) _ := .dict a1 a2.1 a3 r1 r2
  have mm : ReadAtMost s.heap (PyData.depthKv x) (b1 ++ b2) := (m1.mono (PyData.depthAll_keys_le x)).append (m2.mono (PyData.depthAll_vals_le x))
  have na := not_mem_of_deeper rr (by simp only [PyData.depth]; omega) mm
  have kk := k1.more_le (as' := b1 ++ b2) (fun z hz => List.mem_append_left _ hz) (PyData.depthAll_keys_le x)
  have vv := k2.more_le (as' := b1 ++ b2) (fun z hz => List.mem_append_right _ hz) (PyData.depthAll_vals_le x)
  simp only [PyData.depth] at h3
  simp only [PyData.shown, PyData.shownKv_eq] at fin
  refine call_repr_slot (by omega) ⟨o, a1, a2.1⟩ PySem.F.slot_dict_repr ?_
  exact call_dict_reprK a1 a2.1 a3 lo na (ReprEntriesK.of_two ens.toList _ _ kk vv) (show X.A.in1.guards = some [] from hg) (fun b _ => Clear.nil b) (hu2 _ h3) (fun _ _ e => e) (fun h' t tk kp => ⟨_, _, rfl, fin h' t tk kp⟩) (by rw [← PyData.shownKv_eq]; exact hz')
/-- repr(x), x anything, or such a dict -/
def aReprT : ASp := fun ds C P => aRepr ds C P ∨ ∃ p es x, ds = [.ce p] ∧ C p = some (.dt es) ∧ peT es = some x ∧ (PyData.dict x).showable = true ∧ (PyData.dict x).depth ≤ 64 ∧ (PyData.dict x).shown.length ≤ sizeLine ∧ P (.str (PyData.dict x).shown) C
theorem ac_reprT (hg : X.A.guards = some []) (hu : X.A.units + 200 < cLine) (hK : X.K = K := by rfl) : ACa B X (.builtin "repr") (fun vs H Q => (rRepE K vs H Q ∨ rRep K vs H Q) ∨ rRepT2 K vs H Q) aReprT := by
  subst hK
  refine ⟨((call_repE hg hu).or (call_rep hg hu)).or (call_repT2 hg hu), ?_⟩
  intro vs ds F C R H Q P hS r h k
  rcases h with h | ⟨p, es, x, rfl, h1, h2, h3, h4, h5, h6⟩
  · exact .inl ((ac_repr (B := B) hg hu).sim vs ds F C R H Q P hS r h k)
  · cases r with
    | cons r1 r2 =>
      cases r2; cases r1
      obtain ⟨_, o, g1, g2⟩ := hS.cell p _ h1
      cases g2 with
      | dt g3 => exact .inr ⟨p, es, _, F, x, rfl, hS.ex, g1, g3, h2, h3, h4, h5, k _ _ F C H (Ex.refl F) hS (.str _) h6⟩
/-! ### tuple(a text) -/
def kTupS (x : V) (H : Hp) (Q : VK) : Prop := ∃ z, x = .str z ∧ z.cps.size ≤ sizeLine ∧ ∀ q, H q = none → Q (.ref q) (upd H q (.tup (signsV z)))
theorem rl_tupS (hc : X.calm = true) (pins : List (Addr × Obj)) (s : Shared) (σ : L2.St) (H : Hp) (x : V) (v : Value) (Q : VK) (I : Inv X pins σ H s) (r : RelV x v) (h : kTupS x H Q) :
    wpAny (model X.prog X.w) X.A (call (.type "tuple") [v]) (EP X pins σ Q) X.xe s := by
  obtain ⟨z, rfl, hz, q⟩ := h
  obtain ⟨t, rfl⟩ := r
  refine PySem.call_tuple_str (I.ok.hd hc) z t (hsz := hz) fun h' tk acc hk hi => ?_
  have I1 : Inv X pins σ H { s with heap := h', toks := tk } := I.kept hk
  refine ⟨.ref h'.objs.size, upd H h'.objs.size (.tup (signsV z)), I1.laid (t' := tk) (fun b o e => Heap.get?_push_of_some _ e) (Nat.le_refl _) ⟨by unfold signsV; rw [List.length_map, Array.length_toList]; exact hz, acc.toList, ?_, ?_⟩, rfl, q _ (I1.hok.fresh (Nat.le_refl _))⟩
  · refine vals_of_idx _ _ (by unfold signsV; rw [List.length_map, Array.length_toList, Array.length_toList]; exact hi.1) fun j u hj => ?_
    obtain ⟨c, t', hc, rfl⟩ := hi.2 j u (by rw [← Array.getElem?_toList]; exact hj)
    refine ⟨.str ⟨#[c]⟩, ?_, ⟨_, rfl⟩⟩
    unfold signsV
    rw [List.getElem?_map, Array.getElem?_toList, hc]
    rfl
  · rw [Array.toArray_toList]
    exact ⟨_, Heap.get?_push_size _ rfl, rfl, _, rfl⟩
def aTupS : ASp := fun ds C P => match ds with | [.str z] => z.cps.size ≤ sizeLine ∧ P (.tup (signs z)) C | _ => False
theorem ac_tupS (hc : X.calm = true := by rfl) : ACa B X (.type "tuple") (r1 kTupS) aTupS := ⟨call_r1 (rl_tupS hc), by
  intro vs ds F C R H Q P hS r h k
  unfold aTupS at h
  split at h
  · cases r with
    | cons r1 r2 =>
      cases r2
      cases r1
      refine ⟨_, rfl, h.1, fun p hp => ?_⟩
      rename_i z
      have e := Ex.new (o := .tup (signsV z)) (hS.freeF hp)
      exact k _ _ _ C _ e (hS.newF hp _) (.tup upd_same ((signs_rep _).mono e)) h.2
  · exact h.elim⟩
end
end AL
namespace AL
open PySem PySem.Spec PyProof.Rows L2
def shownK (ks : List Key) (d : D) : Str := match peT [(ks, d)] with | some x => (PyData.dict x).shown | none => ""
theorem g_reprK {C : AH} {P : D → AH → Prop} {p : Addr} {ks : List Key} {d : D} (n : Nat) (hC : C p = some (.dt [(ks, d)])) (h : okR (.tup [.tup (ks.map keyD), d]) n = true) (hn : n ≤ 60) (hz : blk (.tup [.tup (ks.map keyD), d]) ≤ 8000) (k : P (.str (shownK ks d)) C) : aReprT [.ce p] C P := by
  obtain ⟨x, e, h1, h3, h4, h5⟩ := okR_pe _ n h
  have e2 : D.pe (.tup (ks.map keyD)) = some (.tuple (ks.map datKey)) := by simp only [D.pe, pe_keys]; rfl
  cases e3 : D.pe d with
  | none => simp [D.pe, peL, e3, e2] at e
  | some y =>
    have e4 : peT [(ks, d)] = some [(.tuple (ks.map datKey), y)] := by simp [peT, e3]
    unfold shownK at k
    rw [e4] at k
    have ex : x = .tuple [.tuple (ks.map datKey), y] := by simpa [D.pe, peL, e3, pe_keys, eq_comm] using e
    subst ex
    refine .inr ⟨p, _, _, rfl, hC, e4, ?_, ?_, ?_, k⟩
    · simpa [PyData.showable, PyData.showableAll, PyData.showableKv] using h1
    · simp [PyData.depth, PyData.depthAll, PyData.depthKv] at h3 ⊢; omega
    · have h6 : PyData.leavesShort 1922 (.dict [(.tuple (ks.map datKey), y)]) = true := by simpa [PyData.leavesShort, PyData.leavesShortAll, PyData.leavesShortKv] using h4
      have := PyData.shown_le_bulk 1922 (by decide) _ h6
      rw [sizeLine_eq]
      have h7 : PyData.bulk (.dict [(.tuple (ks.map datKey), y)]) ≤ 8010 := by
        simp [PyData.bulk, PyData.bulkAll, PyData.bulkKv] at h5 ⊢
        omega
      omega
theorem g_reprTT {C : AH} {P : D → AH → Prop} {d : D} (n : Nat) (h : okR d n = true) (hn : n ≤ 64) (hz : blk d ≤ 8000) (k : P (.str (shownE d)) C) : aReprT [d] C P := .inl (g_repr n h hn hz k)
theorem g_tupS {C : AH} {P : D → AH → Prop} {z : Str} (h1 : z.cps.size ≤ sizeLine) (h : P (.tup (signs z)) C) : aTupS [.str z] C P := ⟨h1, h⟩
end AL

namespace AL
open PySem PySem.Spec PyProof.Rows L2
variable {B : Bs}
section
variable {X : Cx} {K : PySem.W.Frag}
/-! ### sorted(d), sorted(xs): numbers, any length -/
def rSortDI : List V → Hp → VK → Prop := fun xs H Q => ∃ (a : Addr) (kvs : List (Key × V)) (ks : List Int), xs = [.ref a] ∧ Rd H a (.dK kvs) ∧ kvs.map (·.1) = ks.map Sum.inl ∧
    ∀ (ys : List Int) (p : Addr), ys.Perm ks → ys.Pairwise (· ≤ ·) → H p = none → Q (.ref p) (upd H p (.lst (ys.map V.int)))
theorem call_sortDI (hcalm : X.calm = true) : CallR X (.builtin "sorted") rSortDI := by
  intro pins s σ H xs us Q I r q
  obtain ⟨a, kvs, ks, ex, hd, hks, q⟩ := q
  subst ex
  obtain ⟨u, eu, rx⟩ := vals1 r
  subst eu
  cases rx
  obtain ⟨z, lo, vs, rel, dd⟩ := dk_rd I.hok hd
  obtain ⟨ep, hat⟩ := dd.dictAt
  have hkeys : vs.map (·.1) = ks.map Sum.inl := rel.keys.symm.trans hks
  have hl : vs.length = ks.length := by
    have e := congrArg List.length hkeys
    rw [List.length_map, List.length_map] at e
    exact e
  have h16 : vs.length ≤ sizeLine := by rw [← rel.length]; exact z
  refine Calls.call_function_entry PyProof.Rows.kind_sorted PyProof.Rows.plain_sorted PyProof.Rows.entry_sorted (PyProof.Rows.args_sorted1 _) ?_
  unfold Builtin.«sorted»
  refine wpAny_bind (m := checkCount "sorted" 1 1 _) (wpAny_pure ?_)
  refine wpAny_bind (PySem.W.kdu_collect (A := X.A.in1) (PySem.W.kdl_dict (knd := mixKind X.prog X.w) (kvs := vs) (ep := ep) lo) (I.ok.hd hcalm) hat h16 fun h' tk acc hk hacc => ?_)
  have hal : acc.toList.length = ks.length := by rw [Array.length_toList, hacc.1, hl]
  have hS : IntsAre acc.toList ks := ints_each hal fun j v e => by
    obtain ⟨k, x, e1, e2⟩ := hacc.2 j v (by rw [← Array.getElem?_toList]; exact e)
    have e3 : (vs.map (·.1))[j]? = some k := by rw [List.getElem?_map, e1]; rfl
    rw [hkeys, List.getElem?_map] at e3
    cases e4 : ks[j]? with
    | none => rw [e4] at e3; cases e3
    | some y =>
      rw [e4] at e3
      have e5 : Sum.inl y = k := Option.some.inj e3
      subst e5
      rcases keyIs_shape (show keyIs (Sum.inl y) v = true from e2) with ⟨i, t, ek, ev⟩ | ⟨z, t, ek, ev⟩
      · cases ek
        exact ⟨y, t, rfl, ev⟩
      · cases ek
  have I1 : Inv X pins σ H { s with heap := h', toks := tk } := I.kept hk
  have hsz : acc.toList.length ≤ sizeLine := by rw [hal, ← hl]; exact h16
  refine wpAny_bind (wpAny_newList ?_ hsz)
  have hoL : (h'.push (seqObj "list" acc.toList.toArray 0)).get? h'.objs.size = some (seqObj "list" acc.toList.toArray 0) := Heap.get?_push_size _ rfl
  show wpAny _ _ _ _ _ { s with heap := h'.push (seqObj "list" acc.toList.toArray 0), toks := tk }
  refine wpAny_bind (wpAny_holding (wpAny_call_entry PyProof.Rows.slot_list_sort ⟨_, hoL, rfl⟩ PyProof.Rows.entry_list_sort
    (PyProof.Rows.list_sort_treeAny (s := { s with heap := h'.push (seqObj "list" acc.toList.toArray 0), toks := tk }) hoL hS hsz fun out ys g1 g2 g3 => ⟨_, rfl, ?_⟩) (PyProof.Rows.args_list_sort _)))
  obtain ⟨e', he'⟩ := PyProof.Rows.sortedHeap_at (vs := acc.toList) (out := out) hoL
  have hlen : (ys.map V.int).length ≤ sizeLine := by
    rw [List.length_map, g2.length_eq, ← hal]
    exact hsz
  refine wpAny_pure ⟨_, rfl, .ref h'.objs.size, upd H h'.objs.size (.lst (ys.map V.int)), I1.laid (t' := tk) (fun b u e => ?_) (Nat.le_refl _)
    (show ObjOk X.prog X.w _ _ _ (.lst (ys.map V.int)) from ⟨hlen, out.toList, e', vals_of_ints g1, by rw [Array.toArray_toList]; exact he'⟩), rfl, q ys _ g2 g3 (I1.hok.fresh (Nat.le_refl _))⟩
  have hb : b < h'.objs.size := Heap.lt_size e
  rw [PyProof.Rows.sortedHeap_old (Nat.ne_of_lt hb) (by rw [size_push']; exact Nat.lt_succ_of_lt hb)]
  exact Heap.get?_push_of_some _ e
def rSortLI (K : PySem.W.Frag) : List V → Hp → VK → Prop := fun vs H Q => ∃ (a : Addr) (ns : List Int), vs = [V.ref a] ∧ SqL K H a (ns.map V.int) ∧
  ∀ (ns' : List Int) (p : Addr), ns'.Perm ns → ns'.Pairwise (· ≤ ·) → H p = none → Q (.ref p) (upd H p (.lst (ns'.map V.int)))
theorem call_sortLI : CallR X (.builtin "sorted") (rSortLI X.K) := by
  intro pins s σ H vs us Q I r h
  obtain ⟨a, ns, rfl, hs, q⟩ := h
  obtain ⟨its, rv, hl, hz⟩ := I.list hs
  rw [Vals.ref1 r]
  have hi := rv.ints
  have hz' : its.length ≤ sizeLine := by rw [← rv.length]; exact hz
  refine PyProof.Rows.sorted_intsAny hl.isList hi hz' fun out ns' h1 h2 h3 => ?_
  obtain ⟨ep, he'⟩ := PyProof.Rows.sortedAll_at s.heap its out
  have hlen : (ns'.map V.int).length ≤ sizeLine := by rw [List.length_map, h2.length_eq, ← List.length_map (f := V.int)]; exact hz
  exact ⟨.ref _, upd H (s.heap.objs.size + 1) (.lst (ns'.map V.int)), I.laid (t' := s.toks) (fun _ _ => PyProof.Rows.sortedAll_old) (Nat.le_succ _) ⟨hlen, out.toList, ep, vals_of_ints h1, he'⟩, rfl, q ns' _ h2 h3 (I.hok.fresh (Nat.le_succ _))⟩
def rSortLS (K : PySem.W.Frag) : List V → Hp → VK → Prop := fun vs H Q => ∃ (a : Addr) (xs : List Str), vs = [V.ref a] ∧ SqL K H a (xs.map V.str) ∧
  ∀ (ys : List Str) (p : Addr), ys.Perm xs → sortedS ys = true → H p = none → Q (.ref p) (upd H p (.lst (ys.map V.str)))
theorem call_sortLS : CallR X (.builtin "sorted") (rSortLS X.K) := by
  intro pins s σ H vs us Q I r h
  obtain ⟨a, ns, rfl, hs, q⟩ := h
  obtain ⟨its, rv, hl, hz⟩ := I.list hs
  rw [Vals.ref1 r]
  have hz' : its.length ≤ sizeLine := by rw [← rv.length]; exact hz
  refine PyProof.Rows.sorted_strsAny hl.isList rv.strs hz' fun out ns' h1 h2 h3 => ?_
  obtain ⟨ep, he'⟩ := PyProof.Rows.sortedAll_at s.heap its out
  have hlen : (ns'.map V.str).length ≤ sizeLine := by rw [List.length_map, h2.length_eq, ← List.length_map (f := V.str)]; exact hz
  exact ⟨.ref _, upd H (s.heap.objs.size + 1) (.lst (ns'.map V.str)), I.laid (t' := s.toks) (fun _ _ => PyProof.Rows.sortedAll_old) (Nat.le_succ _) ⟨hlen, out.toList, ep, vals_of_strs h1, he'⟩, rfl, q ns' _ h2 h3 (I.hok.fresh (Nat.le_succ _))⟩
theorem RepK.keys {F : Hp} : ∀ {kvs : List (Key × V)} {es : List (Key × D)}, RepK K F kvs es → kvs.map (·.1) = es.map (·.1)
  | _, _, .nil => rfl
  | _, _, .cons _ t => by rw [List.map_cons, List.map_cons, RepK.keys t]
def aSortD (m : Bool) : ASp := fun ds C P => match ds with
  | [d] => ∃ es ks, asK C d = some es ∧ es.map (·.1) = ks.map Sum.inl ∧ ∀ ys : List Int, ys.Perm ks → ys.Pairwise (· ≤ ·) → if m then ∀ p, C p = none → P (.ce p) (put C p (.lst (ys.map D.int))) else P (.lst (ys.map D.int)) C
  | _ => False
theorem ac_sortD {m : Bool} (hc : X.calm = true := by rfl) : ACa B X (.builtin "sorted") rSortDI (aSortD m) := ⟨call_sortDI hc, by
  intro vs ds F C R H Q P hS r h k
  unfold aSortD at h
  split at h
  · cases r with
    | cons r1 r2 =>
      cases r2
      obtain ⟨es, ks, h1, h2, h3⟩ := h
      obtain ⟨a, kvs, rfl, g1, g2⟩ := asK_ok hS r1 h1
      refine ⟨a, kvs, ks, rfl, .inl g1, by rw [RepK.keys g2, h2], fun ys p e1 e2 hp => ?_⟩
      have h4 := h3 ys e1 e2
      cases m with
      | true => exact k _ _ _ _ _ (Ex.refl F) (hS.newC hp (.lst (.ints ys))) (.ce p) (h4 p (hS.freeC hp))
      | false =>
        have e := Ex.new (o := .lst (ys.map V.int)) (hS.freeF hp)
        exact k _ _ _ C _ e (hS.newF hp _) (.lst upd_same (.ints ys)) h4
  · exact h.elim⟩
def aSortL (m : Bool) : ASp := fun ds C P => match ds with
  | [d] => ∃ (es : List D) (ks : List Int), asLr C d = some es ∧ es = ks.map D.int ∧ ∀ ys : List Int, ys.Perm ks → ys.Pairwise (· ≤ ·) → if m then ∀ p, C p = none → P (.ce p) (put C p (.lst (ys.map D.int))) else P (.lst (ys.map D.int)) C
  | _ => False
theorem ac_sortL {m : Bool} (hK : X.K = K := by rfl) : ACa B X (.builtin "sorted") (rSortLI K) (aSortL m) := by
  subst hK
  exact ⟨call_sortLI, by
  intro vs ds F C R H Q P hS r h k
  unfold aSortL at h
  split at h
  · cases r with
    | cons r1 r2 =>
      cases r2
      obtain ⟨es, ks, h1, h2, h3⟩ := h
      subst h2
      obtain ⟨a, kvs, rfl, g1, g2⟩ := asLr_ok hS r1 h1
      rw [g2.ofInts] at g1
      refine ⟨a, ks, rfl, g1, fun ys p e1 e2 hp => ?_⟩
      have h4 := h3 ys e1 e2
      cases m with
      | true => exact k _ _ _ _ _ (Ex.refl F) (hS.newC hp (.lst (.ints ys))) (.ce p) (h4 p (hS.freeC hp))
      | false =>
        have e := Ex.new (o := .lst (ys.map V.int)) (hS.freeF hp)
        exact k _ _ _ C _ e (hS.newF hp _) (.lst upd_same (.ints ys)) h4
  · exact h.elim⟩
def aSortS (m : Bool) : ASp := fun ds C P => match ds with
  | [d] => ∃ (es : List D) (ks : List Str), asLr C d = some es ∧ es = ks.map D.str ∧ ∀ ys : List Str, ys.Perm ks → sortedS ys = true → if m then ∀ p, C p = none → P (.ce p) (put C p (.lst (ys.map D.str))) else P (.lst (ys.map D.str)) C
  | _ => False
theorem ac_sortS {m : Bool} (hK : X.K = K := by rfl) : ACa B X (.builtin "sorted") (rSortLS K) (aSortS m) := by
  subst hK
  exact ⟨call_sortLS, by
  intro vs ds F C R H Q P hS r h k
  unfold aSortS at h
  split at h
  · cases r with
    | cons r1 r2 =>
      cases r2
      obtain ⟨es, ks, h1, h2, h3⟩ := h
      subst h2
      obtain ⟨a, kvs, rfl, g1, g2⟩ := asLr_ok hS r1 h1
      rw [g2.ofStrs] at g1
      refine ⟨a, ks, rfl, g1, fun ys p e1 e2 hp => ?_⟩
      have h4 := h3 ys e1 e2
      cases m with
      | true => exact k _ _ _ _ _ (Ex.refl F) (hS.newC hp (.lst (.strs ys))) (.ce p) (h4 p (hS.freeC hp))
      | false =>
        have e := Ex.new (o := .lst (ys.map V.str)) (hS.freeF hp)
        exact k _ _ _ C _ e (hS.newF hp _) (.lst upd_same (.strs ys)) h4
  · exact h.elim⟩
/-! ### dict(pairs) -/
def pairsD : List D → Option (List (Key × D))
  | [] => some []
  | .tup [.int i, d] :: ds => (pairsD ds).map ((.inl i, d) :: ·)
  | .tup [.str i, d] :: ds => (pairsD ds).map ((.inr i, d) :: ·)
  | _ => none
theorem pairsD_map : ∀ es : List (Key × D), pairsD (es.map fun e => .tup [keyD e.1, e.2]) = some es
  | [] => rfl
  | (.inl i, d) :: es => by
    have ih := pairsD_map es
    rw [List.map_cons]
    show Option.map _ (pairsD _) = _
    rw [ih]; rfl
  | (.inr i, d) :: es => by
    have ih := pairsD_map es
    rw [List.map_cons]
    show Option.map _ (pairsD _) = _
    rw [ih]; rfl
theorem pairsD_ok : ∀ {ds : List D} {es : List (Key × D)}, pairsD ds = some es → ds = es.map fun e => .tup [keyD e.1, e.2]
  | [], _, h => by cases h; rfl
  | d :: ds, _, h => by
    unfold pairsD at h
    split at h
    · rename_i e; cases e
    · rename_i e; cases e
      obtain ⟨ks, h1, rfl⟩ := Option.map_eq_some_iff.mp h
      rw [List.map_cons, ← pairsD_ok h1]
      rfl
    · rename_i e; cases e
      obtain ⟨ks, h1, rfl⟩ := Option.map_eq_some_iff.mp h
      rw [List.map_cons, ← pairsD_ok h1]
      rfl
    · cases h
theorem rep_key {F : Hp} {v : V} : ∀ {k : Key}, Rep K F v (keyD k) → v = kV k
  | .inl _, .int _ => rfl
  | .inr _, .str _ => rfl
theorem rep_pairs {F : Hp} : ∀ {es : List (Key × D)} {vs : List V}, RepL K F vs (es.map fun e => .tup [keyD e.1, e.2]) → ∃ (ps : List Addr) (kvs : List (Key × V)), vs = ps.map V.ref ∧ Paired (fun p kv => F p = some (.tup [kV kv.1, kv.2])) ps kvs ∧ RepK K F kvs es
  | [], _, .nil => ⟨[], [], rfl, .nil, .nil⟩
  | (k, d) :: es, _, .cons r t => by
    obtain ⟨ps, kvs, rfl, h1, h2⟩ := rep_pairs t
    cases r with
    | tup e q =>
      cases q with
      | cons q1 q2 =>
        cases q2 with
        | cons q3 q4 =>
          cases q4
          have := rep_key q1
          subst this
          exact ⟨_ :: ps, (k, _) :: kvs, rfl, .cons e h1, .cons q3 h2⟩
def rDictP (K : PySem.W.Frag) : List V → Hp → VK → Prop := fun xs H Q => ∃ (a : Addr) (ps : List Addr) (kvs : List (Key × V)), xs = [.ref a] ∧ SqL K H a (ps.map V.ref) ∧ Paired (fun p kv => SqT K H p [kV kv.1, kv.2]) ps kvs ∧
    ∀ p, H p = none → Q (.ref p) (upd H p (.dK (mergeK [] kvs)))
def aDictP (m : Bool) : ASp := fun ds C P => match ds with
  | [d] => ∃ ws es, asLr C d = some ws ∧ pairsD ws = some es ∧ if m then ∀ p, C p = none → P (.ce p) (put C p (.dk (mergeD [] es))) else P (.dk (mergeD [] es)) C
  | _ => False
theorem ac_dictP {m : Bool} (hc : X.calm = true := by rfl) (hK : X.K = K := by rfl) : ACa B X (.type "dict") (rDictP K) (aDictP m) := by
  subst hK
  exact ⟨call_dictP hc, by
  intro vs ds F C R H Q P hS r h k
  unfold aDictP at h
  split at h
  · cases r with
    | cons r1 r2 =>
      cases r2
      obtain ⟨ws, es, h1, h2, h3⟩ := h
      have := pairsD_ok h2
      subst this
      obtain ⟨a, xs, rfl, g1, g2⟩ := asLr_ok hS r1 h1
      obtain ⟨ps, kvs, rfl, g3, g4⟩ := rep_pairs g2
      refine ⟨a, ps, kvs, rfl, g1, Paired.mapP g3 fun _ _ z => SqT.of (hS.ex _ _ z), fun p hp => ?_⟩
      have g5 := RepK.merge g4 .nil
      cases m with
      | true => exact k _ _ _ _ _ (Ex.refl F) (hS.newC hp (.dk g5)) (.ce p) (h3 p (hS.freeC hp))
      | false =>
        have e := Ex.new (o := .dK (mergeK [] kvs)) (hS.freeF hp)
        exact k _ _ _ C _ e (hS.newF hp _) (.dk upd_same (g5.mono e)) h3
  · exact h.elim⟩
/-! ### list * int -/
theorem RepL.times {F : Hp} {xs : List V} {ds : List D} (r : RepL K F xs ds) : ∀ n, RepL K F (List.replicate n xs).flatten (List.replicate n ds).flatten
  | 0 => .nil
  | n + 1 => by
    rw [List.replicate_succ, List.replicate_succ, List.flatten_cons, List.flatten_cons]
    exact r.append (RepL.times r n)
def aRepL (m : Bool) : D → D → AH → (D → AH → Prop) → Prop := fun x y C P => match y with
  | .int k => ∃ ds, asL C x = some ds ∧ -(2 ^ 63) ≤ k ∧ k < 2 ^ 63 ∧ ds.length * k.toNat ≤ sizeLine ∧ if m then ∀ p, C p = none → P (.ce p) (put C p (.lst (List.replicate k.toNat ds).flatten)) else P (.lst (List.replicate k.toNat ds).flatten) C
  | _ => False
theorem ao_repL {m : Bool} : AOp B X (binaryOp .Mult) L2.rRep (aRepL m) := ⟨op_rep, by
  intro v w d e F C R H Q P hS r1 r2 h k
  unfold aRepL at h
  split at h
  · rename_i y0 kk
    cases r2
    obtain ⟨ds, h1, h2, h3, h4, h5⟩ := h
    obtain ⟨a, xs, rfl, g1, g2⟩ := asL_ok hS r1 h1
    refine ⟨a, _, xs, rfl, rfl, g1, h2, h3, by rw [g2.length]; exact h4, fun p hp => ?_⟩
    have g3 := g2.times
    cases m with
    | true => exact k _ _ _ _ _ (Ex.refl F) (hS.newC hp (.lst (g3 _))) (.ce p) (h5 p (hS.freeC hp))
    | false =>
      have e : Ex F (upd F p (.lst (List.replicate kk.toNat xs).flatten)) := Ex.new (hS.freeF hp)
      exact k _ _ _ C _ e (hS.newF hp _) (.lst upd_same ((g3 _).mono e)) h5
  · exact h.elim⟩
/-! ### max(xs), min(xs) of numbers -/
def aMaxL : ASp := fun ds C P => match ds with
  | [d] => ∃ (es : List D) (ks : List Int), asLr C d = some es ∧ es = ks.map D.int ∧ 0 < ks.length ∧ ∀ m : Int, m ∈ ks → (∀ y, y ∈ ks → y ≤ m) → P (.int m) C
  | _ => False
theorem ac_maxL (hc : X.calm = true := by rfl) (hK : X.K = K := by rfl) : ACa B X (.builtin "max") (rMax K) aMaxL := by
  subst hK
  exact ⟨cr_max hc, by
  intro vs ds F C R H Q P hS r h k
  unfold aMaxL at h
  split at h
  · cases r with
    | cons r1 r2 =>
      cases r2
      obtain ⟨es, ks, h1, h2, h3, h4⟩ := h
      subst h2
      obtain ⟨a, kvs, rfl, g1, g2⟩ := asLr_ok hS r1 h1
      rw [g2.ofInts] at g1
      exact ⟨a, ks, rfl, g1, h3, fun m e1 e2 => k _ _ F C H (Ex.refl F) hS (.int _) (h4 m e1 e2)⟩
  · exact h.elim⟩
def aMinL : ASp := fun ds C P => match ds with
  | [d] => ∃ (es : List D) (ks : List Int), asLr C d = some es ∧ es = ks.map D.int ∧ 0 < ks.length ∧ ∀ m : Int, m ∈ ks → (∀ y, y ∈ ks → m ≤ y) → P (.int m) C
  | _ => False
theorem ac_minL (hc : X.calm = true := by rfl) (hK : X.K = K := by rfl) : ACa B X (.builtin "min") (rMin K) aMinL := by
  subst hK
  exact ⟨cr_min hc, by
  intro vs ds F C R H Q P hS r h k
  unfold aMinL at h
  split at h
  · cases r with
    | cons r1 r2 =>
      cases r2
      obtain ⟨es, ks, h1, h2, h3, h4⟩ := h
      subst h2
      obtain ⟨a, kvs, rfl, g1, g2⟩ := asLr_ok hS r1 h1
      rw [g2.ofInts] at g1
      exact ⟨a, ks, rfl, g1, h3, fun m e1 e2 => k _ _ F C H (Ex.refl F) hS (.int _) (h4 m e1 e2)⟩
  · exact h.elim⟩
end
end AL

namespace AL
open PySem PySem.Spec PyProof.Rows L2
variable {B : Bs}
section
variable {X : Cx} {K : PySem.W.Frag}
/-! ### ==, lists of cells too -/
def pdLC (C : AH) : List D → Option (List PyData)
  | [] => some []
  | d :: ds => match pdC C d, pdLC C ds with | some x, some xs => some (x :: xs) | _, _ => none
def pd2 (C : AH) : D → Option PyData
  | .lst ds => (pdLC C ds).map .list
  | d => pdC C d
theorem pdLC_ok {F : Hp} {C : AH} {R H : Hp} (hS : Sat B K F C R H) : ∀ {vs : List V} {ds : List D} {xs : List PyData}, RepL K F vs ds → pdLC C ds = some xs → DpAll K H vs xs
  | _, [], _, .nil, h => by cases h; exact .nil
  | _, d :: ds, _, .cons r1 r2, h => by
    unfold pdLC at h
    split at h
    · rename_i q1 q2
      cases h
      exact .cons (pdC_ok hS r1 q1) (pdLC_ok hS r2 q2)
    · cases h
theorem pd2_ok {F : Hp} {C : AH} {R H : Hp} {v : V} {d : D} {x : PyData} (hS : Sat B K F C R H) (r : Rep K F v d) (h : pd2 C d = some x) : Dp K H v x := by
  cases d with
  | lst ds =>
    cases r with
    | lst h1 h2 =>
      simp only [pd2] at h
      cases q : pdLC C ds with
      | none => rw [q] at h; cases h
      | some xs => rw [q] at h; cases h; exact .lst (SqL.of (hS.ex _ _ h1)) (pdLC_ok hS h2 q)
  | _ => exact pdC_ok hS r h
def aEq2 (neg : Bool) : D → D → AH → (D → AH → Prop) → Prop := fun x y C P => aEqN neg x y C P ∨ ∃ d e, pd2 C x = some d ∧ pd2 C y = some e ∧ SeqAt.shaped d = true ∧ SeqAt.shaped e = true ∧ P (.bl (if neg then !PyData.eqv d e else PyData.eqv d e)) C
theorem ao_eq2 (hu : X.A.units + 64 < cLine) (hK : X.K = K := by rfl) : AOp B X (compareOp .Eq) (fun x y H Q => rEq x y H Q ∨ rEqD K x y H Q) (aEq2 false) := by
  subst hK
  refine ⟨op_eq.or (op_eqD hu), ?_⟩
  intro v w d e F C R H Q P hS r1 r2 h k
  rcases h with h | ⟨d', e', h1, h2, s1, s2, h3⟩
  · exact (sim_eq (B := B)) v w d e F C R H Q P hS r1 r2 h k
  · exact .inr ⟨d', e', pd2_ok hS r1 h1, pd2_ok hS r2 h2, s1, s2, k _ _ F C H (Ex.refl F) hS (.bl _) h3⟩
theorem ao_ne2 (hu : X.A.units + 64 < cLine) (hK : X.K = K := by rfl) : AOp B X (compareOp .NotEq) (fun x y H Q => rNe x y H Q ∨ rNeD K x y H Q) (aEq2 true) := by
  subst hK
  refine ⟨op_ne.or (op_neD hu), ?_⟩
  intro v w d e F C R H Q P hS r1 r2 h k
  rcases h with h | ⟨d', e', h1, h2, s1, s2, h3⟩
  · exact (sim_ne (B := B)) v w d e F C R H Q P hS r1 r2 h k
  · exact .inr ⟨d', e', pd2_ok hS r1 h1, pd2_ok hS r2 h2, s1, s2, k _ _ F C H (Ex.refl F) hS (.bl _) h3⟩
/-! ### list(d) -/
theorem keys_rep {F : Hp} : ∀ {kvs : List (Key × V)} {es : List (Key × D)}, RepK K F kvs es → RepL K F (kvs.map fun kv => kV kv.1) (es.map fun e => keyD e.1)
  | _, _, .nil => .nil
  | _, _, .cons (k := k) _ t => .cons (by cases k <;> first | exact .int _ | exact .str _) (keys_rep t)
def aListK : ASp := fun ds C P => match ds with | [d] => (match asK C d with | some es => P (.lst (es.map fun e => keyD e.1)) C | none => False) | _ => False
theorem ac_listK (hc : X.calm = true := by rfl) : ACa B X (.type "list") (fun xs H Q => ∃ (a : Addr) (kvs : List (Key × V)), xs = [.ref a] ∧ Rd H a (.dK kvs) ∧ ∀ p, H p = none → Q (.ref p) (upd H p (.lst (kvs.map fun kv => kV kv.1)))) aListK := ⟨call_listD hc, by
  intro vs ds F C R H Q P hS r h k
  unfold aListK at h
  split at h
  · cases r with
    | cons r1 r2 =>
      cases r2
      split at h
      · rename_i es q
        obtain ⟨a, kvs, rfl, g1, g2⟩ := asK_ok hS r1 q
        refine ⟨a, kvs, rfl, .inl g1, fun p hp => ?_⟩
        have e := Ex.new (o := .lst (kvs.map fun kv => kV kv.1)) (hS.freeF hp)
        exact k _ _ _ C _ e (hS.newF hp _) (.lst upd_same ((keys_rep g2).mono e)) h
      · exact h.elim
  · exact h.elim⟩
/-! ### list(range(..)) -/
theorem rg_rep {F : Hp} (a b : Int) : RepL K F (rgV a b) (rangeD a (b - a).toNat) := by
  have e1 : rgV a b = ((List.range (b - a).toNat).map fun i => a + (i : Nat)).map V.int := by unfold rgV; rw [List.map_map]; rfl
  have e2 : rangeD a (b - a).toNat = ((List.range (b - a).toNat).map fun i => a + (i : Nat)).map D.int := by unfold rangeD; rw [List.map_map]; rfl
  rw [e1, e2]
  exact .ints _
def aLRg1 (m : Bool) (a : AE') : AE' := fun s C P => a s C fun x C1 => match x with
  | .int n => RgOk 0 n ∧ if m then ∀ p, C1 p = none → P (.ce p) (put C1 p (.lst (rangeD 0 n.toNat))) else P (.lst (rangeD 0 n.toNat)) C1
  | _ => False
theorem ae_lrg1 {m : Bool} {a : Expr} {ta : TE} {aa : AE'} {p p2 q pos : Pos} (hm : X.mg "list" = none) (hm2 : X.mg "range" = none) (ha : AE B X a ta aa) (hc : X.calm = true := by rfl) (hg : Gl X "list" := by rfl) (hg2 : Gl X "range" := by rfl)
    (na : starEach [a] X.env = (false, eval a X.env) :: starEach [] X.env := by rfl) (nb : starEach [.Call (.Name "range" p2) [a] [] q] X.env = (false, eval (.Call (.Name "range" p2) [a] [] q) X.env) :: starEach [] X.env := by rfl) :
    AE B X (.Call (.Name "list" p) [.Call (.Name "range" p2) [a] [] q] [] pos) (tLstRg (tRg1 ta)) (aLRg1 m aa) := ⟨pe_listRg hc hg hm (prg_1 hg2 hm2 ha.pe na) nb, by
  intro σ s F C R H Q P hs hS h0 k
  refine ha.sim σ s F C R H _ _ hs hS h0 fun x v F1 C1 H1 e1 S1 r1 h1 => ?_
  split at h1
  · cases r1
    rename_i n
    refine ⟨n, rfl, h1.1, fun p hp => ?_⟩
    have hr : ∀ F, RepL X.K F (rgV 0 n) (rangeD 0 n.toNat) := fun F => by have := rg_rep (K := X.K) (F := F) 0 n; rwa [Int.sub_zero] at this
    cases m with
    | true => exact k _ _ _ _ _ e1 (S1.newC hp (.lst (hr _))) (.ce p) (h1.2 p (S1.freeC hp))
    | false =>
      have e := Ex.new (o := .lst (rgV 0 n)) (S1.freeF hp)
      exact k _ _ _ C1 _ (e1.trans e) (S1.newF hp _) (.lst upd_same (hr _)) h1.2
  · exact h1.elim⟩
end
section
variable {C : AH} {P : D → AH → Prop} {s : ASt} {e : AE'}
def kLRg1 (m : Bool) (P : D → AH → Prop) : D → AH → Prop := fun x C1 => match x with
  | .int n => RgOk 0 n ∧ if m then ∀ p, C1 p = none → P (.ce p) (put C1 p (.lst (rangeD 0 n.toNat))) else P (.lst (rangeD 0 n.toNat)) C1
  | _ => False
theorem g_lrg1 {m : Bool} (h : e s C (kLRg1 m P)) : aLRg1 m e s C P := h
theorem g_kLRg1 {n : Nat} (h1 : n ≤ 1000000) (h : P (.lst (rangeD 0 n)) C) : kLRg1 false P (.int (n : Int)) C := ⟨⟨by omega, by omega, by omega, by omega, by omega⟩, h⟩
theorem g_listK {q : Addr} {es : List (Key × D)} (hq : C q = some (.dk es)) (h : P (.lst (es.map fun e => keyD e.1)) C) : aListK [.ce q] C P := by
  show (match asK C (.ce q) with | some es => P (.lst (es.map fun e => keyD e.1)) C | none => False)
  rw [show asK C (.ce q) = some es by simp only [asK, hq]]
  exact h
theorem g_listKF {es : List (Key × D)} (h : P (.lst (es.map fun e => keyD e.1)) C) : aListK [.dk es] C P := h
theorem g_sortD {es : List (Key × D)} {ks : List Int} (h1 : es.map (·.1) = ks.map Sum.inl) (h : ∀ ys : List Int, ys.Perm ks → ys.Pairwise (· ≤ ·) → P (.lst (ys.map D.int)) C) : aSortD false [.dk es] C P := ⟨es, ks, rfl, h1, fun ys a b => h ys a b⟩
theorem g_sortDM {es : List (Key × D)} {ks : List Int} (h1 : es.map (·.1) = ks.map Sum.inl) (h : ∀ ys : List Int, ys.Perm ks → ys.Pairwise (· ≤ ·) → ∀ p, C p = none → P (.ce p) (put C p (.lst (ys.map D.int)))) : aSortD true [.dk es] C P := ⟨es, ks, rfl, h1, fun ys a b => h ys a b⟩
theorem g_dictPM {es : List (Key × D)} (h : ∀ p, C p = none → P (.ce p) (put C p (.dk (mergeD [] es)))) : aDictP true [.lst (es.map fun e => .tup [keyD e.1, e.2])] C P := ⟨_, es, rfl, pairsD_map es, h⟩
theorem g_dictPF {es : List (Key × D)} (h : P (.dk (mergeD [] es)) C) : aDictP false [.lst (es.map fun e => .tup [keyD e.1, e.2])] C P := ⟨_, es, rfl, pairsD_map es, h⟩
end
end AL

namespace AL
open PySem L2
/-! ### dicts whose keys are numbers from 0 -/
def nk (n : Nat) : Key := .inl (n : Int)
theorem nk_inj {a b : Nat} (h : nk a = nk b) : a = b := by have := Sum.inl.inj h; omega
def Ky (es : List (Key × D)) (L : List Nat) : Prop := es.map (·.1) = L.map nk
def addN (L : List Nat) (n : Nat) : List Nat := if n ∈ L then L else L ++ [n]
theorem Ky.nil : Ky [] [] := rfl
theorem Ky.len {es : List (Key × D)} {L : List Nat} (h : Ky es L) : es.length = L.length := by
  have := congrArg List.length h
  simpa using this
theorem Ky.any {es : List (Key × D)} {L : List Nat} (h : Ky es L) (n : Nat) : (es.any fun kv => decide (kv.1 = nk n)) = decide (n ∈ L) := by
  have e : (es.any fun kv => decide (kv.1 = nk n)) = (es.map (·.1)).any fun k => decide (k = nk n) := by rw [List.any_map]; rfl
  rw [e, show es.map (·.1) = L.map nk from h, List.any_map, Bool.eq_iff_iff, List.any_eq_true, decide_eq_true_iff]
  constructor
  · rintro ⟨m, hm, e⟩
    have := nk_inj (of_decide_eq_true e)
    rw [← this]; exact hm
  · intro hm
    exact ⟨n, hm, decide_eq_true rfl⟩
theorem Ky.val {es : List (Key × D)} {L : List Nat} (h : Ky es L) (n : Nat) : (valD es (nk n)).isSome = decide (n ∈ L) := by
  rw [← h.any n]
  unfold valD
  rw [Option.isSome_map, Bool.eq_iff_iff, List.find?_isSome, List.any_eq_true]
theorem Ky.put {es : List (Key × D)} {L : List Nat} {d : D} (h : Ky es L) (n : Nat) : Ky (putD es (nk n) d) (addN L n) := by
  unfold putD addN
  rw [h.any]
  by_cases hn : n ∈ L
  · rw [decide_eq_true hn, if_pos rfl, if_pos hn]
    show (es.map _).map _ = _
    rw [List.map_map]
    have e : ((fun kv : Key × D => kv.1) ∘ fun kv : Key × D => if kv.1 = nk n then (kv.1, d) else kv) = fun kv => kv.1 := by
      funext kv
      simp only [Function.comp]
      split <;> rfl
    rw [e]
    exact h
  · rw [decide_eq_false hn, if_neg (by decide), if_neg hn]
    show (es ++ [_]).map _ = _
    rw [List.map_append, List.map_append, show es.map (·.1) = L.map nk from h]
    rfl
theorem mem_addN {L : List Nat} {n a : Nat} : a ∈ addN L n ↔ a ∈ L ∨ a = n := by
  unfold addN
  split
  · rename_i h
    constructor
    · intro h; exact .inl h
    · rintro (h' | rfl)
      · exact h'
      · exact h
  · simp
theorem nodup_addN {L : List Nat} {n : Nat} (h : L.Nodup) : (addN L n).Nodup := by
  unfold addN
  split
  · exact h
  · rename_i hn
    refine List.nodup_append.mpr ⟨h, by simp, ?_⟩
    intro a ha b hb e
    have : b = n := by simpa using hb
    exact hn (by rw [← this, ← e]; exact ha)
theorem Ky.merge : ∀ (xs : List Nat) (d : D) {es : List (Key × D)} {L : List Nat}, Ky es L → Ky (mergeD es (xs.map fun n => (nk n, d))) (xs.foldl addN L)
  | [], _, _, _, h => h
  | n :: xs, d, _, _, h => Ky.merge xs d (h.put n)
theorem mem_foldN : ∀ (xs : List Nat) {L : List Nat} {a : Nat}, a ∈ xs.foldl addN L ↔ a ∈ L ∨ a ∈ xs
  | [], L, a => by simp
  | n :: xs, L, a => by
    rw [List.foldl_cons, mem_foldN xs, mem_addN, List.mem_cons]
    constructor
    · rintro ((h | h) | h)
      · exact .inl h
      · exact .inr (.inl h)
      · exact .inr (.inr h)
    · rintro (h | h | h)
      · exact .inl (.inl h)
      · exact .inl (.inr h)
      · exact .inr h
theorem nodup_foldN : ∀ (xs : List Nat) {L : List Nat}, L.Nodup → (xs.foldl addN L).Nodup
  | [], _, h => h
  | n :: xs, _, h => nodup_foldN xs (nodup_addN h)
section
variable {C : AH} {P : D → AH → Prop} {s : ASt} {q : Addr} {es : List (Key × D)} {L : List Nat} {n : Nat} {nx : ASt → AH → Prop} {rt : D → AH → Prop} {bk ct : ASt → AH → Prop}
theorem asK_ce (h : C q = some (.dk es)) : asK C (.ce q) = some es := by simp only [asK, h]
theorem g_inKv {neg : Bool} {i j : Nat} (hi : s[i]? = some (some (.int (n : Int)))) (hj : s[j]? = some (some (.ce q))) (hC : C q = some (.dk es)) (hK : Ky es L) (h : P (.bl (if neg then !decide (n ∈ L) else decide (n ∈ L))) C) : aInK neg (aVar i) (aVar j) s C P := by
  refine g_var hi ?_
  refine g_var hj ?_
  rw [asK_ce hC, show AL.keyOf (.int (n : Int)) = some (nk n) from rfl]
  show P _ C
  rw [hK.val]
  exact h
theorem g_inKn {i j : Nat} (hi : s[i]? = some (some (.int (n : Int)))) (hj : s[j]? = some (some (.ce q))) (hC : C q = some (.dk es)) (hK : Ky es L) (h1 : n ∈ L → P (.bl true) C) (h2 : n ∉ L → P (.bl false) C) : aInK false (aVar i) (aVar j) s C P := by
  refine g_inKv hi hj hC hK ?_
  by_cases h : n ∈ L
  · rw [decide_eq_true h]; exact h1 h
  · rw [decide_eq_false h]; exact h2 h
theorem g_ninKn {i j : Nat} (hi : s[i]? = some (some (.int (n : Int)))) (hj : s[j]? = some (some (.ce q))) (hC : C q = some (.dk es)) (hK : Ky es L) (h1 : n ∈ L → P (.bl false) C) (h2 : n ∉ L → P (.bl true) C) : aInK true (aVar i) (aVar j) s C P := by
  refine g_inKv hi hj hC hK ?_
  by_cases h : n ∈ L
  · rw [decide_eq_true h]; exact h1 h
  · rw [decide_eq_false h]; exact h2 h
theorem g_putKv {i j : Nat} {d : D} (hi : s[i]? = some (some (.ce q))) (hj : s[j]? = some (some (.int (n : Int)))) (hC : C q = some (.dk es)) (hK : Ky es L) (hl : L.length ≤ 10000000) (h : ∀ es', Ky es' (addN L n) → nx s (put C q (.dk es'))) : aPutK (aVar i) (aVar j) (aC d) ⟨nx, rt, bk, ct⟩ s C := by
  unfold aPutK aC
  refine g_var hi ?_
  refine g_var hj ?_
  rw [show AL.keyOf (.int (n : Int)) = some (nk n) from rfl]
  show (match C q with | some (.dk es) => es.length < sizeLine ∧ _ | _ => False)
  rw [hC]
  exact ⟨by rw [hK.len]; simp only [sizeLine]; omega, h _ (hK.put n)⟩
theorem g_neNats {ns : List Nat} (hC : C q = some (.lst (natsD ns))) (h : P (.bl (!ns.isEmpty)) C) : aNe (.ce q) (.lst []) C P := by
  obtain ⟨x, h1, h2, h3⟩ := okD_shaped (okD_nats ns 1) (by omega)
  have e1 : pdC C (.ce q) = some x := by
    simp only [pdC, hC]
    rw [← h1]
    simp only [D.pd]
  refine g_neP rfl e1 (v := .list []) rfl h2 (by decide +kernel) ?_
  cases ns with
  | nil =>
    have : x = .list [] := by simpa [D.pd, pdL, eq_comm] using h1
    subst this
    rw [show PyData.eqv (.list []) (.list []) = true by decide +kernel]
    exact h
  | cons a ns =>
    have : ∃ ys, x = .list (.int a :: ys) := by
      simp only [D.pd, natsD, List.map_cons, pdL] at h1
      cases e : pdL (ns.map fun (n : Nat) => D.int (n : Int)) with
      | none => rw [e] at h1; cases h1
      | some ys => rw [e] at h1; cases h1; exact ⟨ys, rfl⟩
    obtain ⟨ys, rfl⟩ := this
    rw [show PyData.eqv (.list (.int a :: ys)) (.list []) = false by rw [PyData.eqv, PyData.eqvAll]]
    exact h
theorem g_neNatsF {ns : List Nat} (h : P (.bl (!ns.isEmpty)) C) : aNe (.lst (natsD ns)) (.lst []) C P := by
  obtain ⟨x, h1, h2, h3⟩ := okD_shaped (okD_nats ns 1) (by omega)
  refine g_neP rfl (show pdC C (.lst (natsD ns)) = some x from h1) (v := .list []) rfl h2 (by decide +kernel) ?_
  cases ns with
  | nil =>
    have : x = .list [] := by simpa [D.pd, pdL, eq_comm] using h1
    subst this
    rw [show PyData.eqv (.list []) (.list []) = true by decide +kernel]
    exact h
  | cons a ns =>
    have : ∃ ys, x = .list (.int a :: ys) := by
      simp only [D.pd, natsD, List.map_cons, pdL] at h1
      cases e : pdL (ns.map fun (n : Nat) => D.int (n : Int)) with
      | none => rw [e] at h1; cases h1
      | some ys => rw [e] at h1; cases h1; exact ⟨ys, rfl⟩
    obtain ⟨ys, rfl⟩ := this
    rw [show PyData.eqv (.list (.int a :: ys)) (.list []) = false by rw [PyData.eqv, PyData.eqvAll]]
    exact h
theorem toVs_nats : ∀ ns : List Nat, toVs (natsD ns) = some (ns.map fun (n : Nat) => V.int n)
  | [] => rfl
  | n :: ns => by
    show (match toV (.int (n : Int)), toVs (natsD ns) with | some v, some vs => some (v :: vs) | _, _ => none) = _
    rw [toVs_nats ns]
    rfl
theorem inV_nats (n : Nat) (ns : List Nat) : inV (.int (n : Int)) (ns.map fun (n : Nat) => V.int n) = decide (n ∈ ns) := by
  induction ns with
  | nil => rfl
  | cons a ns ih =>
    have : inV (.int (n : Int)) ((a :: ns).map fun (n : Nat) => V.int n) = (eqV (.int (a : Int)) (.int (n : Int)) || inV (.int (n : Int)) (ns.map fun (n : Nat) => V.int n)) := rfl
    rw [this, ih]
    have e : eqV (.int (a : Int)) (.int (n : Int)) = decide (n = a) := by
      show (((a : Int)) == (n : Int)) = _
      rw [Bool.eq_iff_iff, beq_iff_eq, decide_eq_true_iff]
      omega
    rw [e]
    simp [Bool.decide_or]
theorem g_inNats {ns : List Nat} (h : P (.bl (decide (n ∈ ns))) C) : aInL (.int (n : Int)) (.lst (natsD ns)) C P := by
  show (match toV (.int (n : Int)), (some (natsD ns)).bind toVs with | some u, some us => P (.bl (if false then !inV u us else inV u us)) C | _, _ => False)
  rw [show (some (natsD ns)).bind toVs = toVs (natsD ns) from rfl, toVs_nats]
  show P (.bl (inV (.int (n : Int)) _)) C
  rw [inV_nats]
  exact h
theorem g_popN {ns : List Nat} {a : Nat} (hC : C q = some (.lst (natsD (ns ++ [a])))) (h : P (.int (a : Int)) (put C q (.lst (natsD ns)))) : aPop (.ce q) [] C P := by
  show (match C q with | some (.lst us) => (match us[us.length - 1]? with | some d => P d (put C q (.lst us.dropLast)) | none => False) | _ => False)
  rw [hC]
  have e : natsD (ns ++ [a]) = natsD ns ++ [.int (a : Int)] := by unfold natsD; rw [List.map_append]; rfl
  rw [e]
  show (match (natsD ns ++ [D.int (a : Int)])[(natsD ns ++ [D.int (a : Int)]).length - 1]? with | some d => P d (put C q (.lst (natsD ns ++ [D.int (a : Int)]).dropLast)) | none => False)
  rw [List.length_append, show (natsD ns).length + [D.int (a : Int)].length - 1 = (natsD ns).length by simp, List.getElem?_append_right (Nat.le_refl _), Nat.sub_self, List.dropLast_concat]
  exact h
end
/-! ### rising lists -/
theorem incr_ext : ∀ {xs ys : List Nat}, xs.Pairwise (· < ·) → ys.Pairwise (· < ·) → (∀ a, a ∈ xs ↔ a ∈ ys) → xs = ys
  | [], [], _, _, _ => rfl
  | [], y :: ys, _, _, h => absurd ((h y).mpr List.mem_cons_self) (by simp)
  | x :: xs, [], _, _, h => absurd ((h x).mp List.mem_cons_self) (by simp)
  | x :: xs, y :: ys, h1, h2, h => by
    obtain ⟨a1, a2⟩ := List.pairwise_cons.mp h1
    obtain ⟨b1, b2⟩ := List.pairwise_cons.mp h2
    have e : x = y := by
      rcases List.mem_cons.mp ((h x).mp List.mem_cons_self) with e | e
      · exact e
      · rcases List.mem_cons.mp ((h y).mpr List.mem_cons_self) with e' | e'
        · exact e'.symm
        · have := a1 y e'; have := b1 x e; omega
    subst e
    rw [incr_ext a2 b2 fun a => ?_]
    constructor
    · intro ha
      rcases List.mem_cons.mp ((h a).mp (List.mem_cons_of_mem _ ha)) with e | e
      · have := a1 a ha; omega
      · exact e
    · intro ha
      rcases List.mem_cons.mp ((h a).mpr (List.mem_cons_of_mem _ ha)) with e | e
      · have := b1 a ha; omega
      · exact e
open Classical in
/-- those below n of which p is so, rising -/
noncomputable def rl (n : Nat) (p : Nat → Prop) : List Nat := (List.range n).filter fun i => decide (p i)
open Classical in
theorem rl_incr (n : Nat) (p : Nat → Prop) : (rl n p).Pairwise (· < ·) := List.Pairwise.filter _ List.pairwise_lt_range
open Classical in
theorem mem_rl {n : Nat} {p : Nat → Prop} {a : Nat} : a ∈ rl n p ↔ a < n ∧ p a := by
  unfold rl
  rw [List.mem_filter, List.mem_range, decide_eq_true_iff]
open Classical in
theorem rl_len (n : Nat) (p : Nat → Prop) : (rl n p).length ≤ n := by
  have := List.length_filter_le (fun i => decide (p i)) (List.range n)
  rw [List.length_range] at this
  exact this
theorem incr_of_sorted {ys : List Int} {L : List Nat} (h1 : ys.Perm (L.map fun (n : Nat) => (n : Int))) (h2 : ys.Pairwise (· ≤ ·)) (h3 : L.Nodup) : ∃ R : List Nat, ys = R.map (fun (n : Nat) => (n : Int)) ∧ R.Pairwise (· < ·) ∧ ∀ a, a ∈ R ↔ a ∈ L := by
  have hnn : ∀ y ∈ ys, ∃ n : Nat, y = n := fun y hy => by
    obtain ⟨n, _, rfl⟩ := List.mem_map.mp (h1.mem_iff.mp hy)
    exact ⟨n, rfl⟩
  have e : ys = (ys.map Int.toNat).map (fun (n : Nat) => (n : Int)) := by
    rw [List.map_map]
    refine (List.map_id _).symm.trans (List.map_congr_left fun y hy => ?_)
    obtain ⟨n, rfl⟩ := hnn y hy
    rfl
  have hR : (ys.map Int.toNat).Perm L := by
    have := h1.map Int.toNat
    rw [List.map_map] at this
    have e2 : L.map (Int.toNat ∘ fun (n : Nat) => (n : Int)) = L := (List.map_congr_left fun y hy => rfl).trans (List.map_id _)
    rw [e2] at this
    exact this
  have hnd : (ys.map Int.toNat).Nodup := hR.nodup_iff.mpr h3
  have hp : (ys.map Int.toNat).Pairwise (· ≤ ·) := List.pairwise_map.mpr (h2.imp fun h => by omega)
  refine ⟨_, e, ?_, fun a => hR.mem_iff⟩
  have := List.pairwise_and_iff.mpr ⟨hp, hnd⟩
  exact this.imp fun ⟨a, b⟩ => Nat.lt_of_le_of_ne a b
theorem sorted_rl {n : Nat} {p : Nat → Prop} {ys : List Int} {L : List Nat} (h1 : ys.Perm (L.map fun (n : Nat) => (n : Int))) (h2 : ys.Pairwise (· ≤ ·)) (h3 : L.Nodup) (h4 : ∀ a, a ∈ L ↔ a < n ∧ p a) : ys.map D.int = natsD (rl n p) := by
  obtain ⟨R, rfl, g1, g2⟩ := incr_of_sorted h1 h2 h3
  rw [incr_ext g1 (rl_incr n p) fun a => (g2 a).trans ((h4 a).trans mem_rl.symm)]
  unfold natsD
  rw [List.map_map]
  rfl
/-! ### what is led to -/
inductive Reach (R : Nat → Nat → Prop) (S : List Nat) : Nat → Prop
  | base {a : Nat} : a ∈ S → Reach R S a
  | step {a b : Nat} : Reach R S a → R a b → Reach R S b
/-- a list that is closed holds all -/
theorem Reach.closed {R : Nat → Nat → Prop} {S L : List Nat} (h0 : ∀ a ∈ S, a ∈ L) (h1 : ∀ a ∈ L, ∀ b, R a b → b ∈ L) {a : Nat} (h : Reach R S a) : a ∈ L := by
  induction h with
  | base h => exact h0 _ h
  | step _ r ih => exact h1 _ ih _ r
theorem nodup_bound {L : List Nat} {n : Nat} (h : L.Nodup) (hb : ∀ a ∈ L, a < n) : L.length ≤ n := by
  have : ∀ {l m : List Nat}, l.Nodup → (∀ x ∈ l, x ∈ m) → l.length ≤ m.length := by
    intro l
    induction l with
    | nil => intro m _ _; exact Nat.zero_le _
    | cons x l ih =>
      intro m hn hs
      obtain ⟨hx, hn⟩ := List.nodup_cons.mp hn
      have h1 := hs x (List.mem_cons_self ..)
      have := ih (m := m.erase x) hn fun y hy => (List.mem_erase_of_ne (fun e => hx (by rw [← e]; exact hy))).mpr (hs y (List.mem_cons_of_mem _ hy))
      rw [List.length_erase_of_mem h1] at this
      have := List.length_pos_of_mem h1
      rw [List.length_cons]
      omega
  have h2 := this h (m := List.range n) fun x hx => List.mem_range.mpr (hb x hx)
  rw [List.length_range] at h2
  exact h2
end AL

namespace AL
open PySem PySem.Spec PyProof.Rows L2
open AutoSeq1 (wpAny_loadPart')
variable {B : Bs}
/-! ### xs.extend(a tuple) -/
theorem extTup (p q : Addr) (us ws : Array Value) (n m : Nat) (dd : Option Addr) (sl : Array (Option Value)) (c0 : ¬(!us.isEmpty && Builtin.List.listTooLong (us.size + ws.size)) = true) (c1 : us.size ≤ sizeLine) (c2 : us.size + ws.size ≤ sizeLine + 1) :
    Meets (Builtin.«list.extend» ⟨[.ref p, .ref q], []⟩) (fun _ R s => s.heap.get? p = some { cls := .type "list", dict := none, data := .seq us n, slots := #[] } ∧ s.heap.get? q = some { cls := .type "tuple", dict := dd, data := .seq ws m, slots := sl } ∧
      R (.ok (.ret Value.none)) { s with heap := s.heap.update p (Obj.mapSeq fun x => x ++ ws), toks := s.toks }) :=
  .of_wp fun prog w A R s h => by
    obtain ⟨hp, g, d, tk, os⟩ := s
    obtain ⟨e1, e2, e3⟩ := h
    have i1 := AutoSeq1.idx_int
    have i2 := AutoSeq1.sub_tuple_tuple
    have i3 := AutoSeq1.sub_list_list
    have i4 := AutoSeq1.sub_tuple_list
    have i5 := AutoSeq1.sub_list_tuple
    have c3 : (us ++ ws).size ≤ sizeLine + 1 := by rw [Array.size_append]; exact c2
    wp_walk using (AutoSeq1.wpAny_updateSeq e1 rfl (hz := c1) (_hz' := c3)), wpAny_loadPart' e1, wpAny_loadPart' e2
    rw [show (Obj.mapSeq (fun x => x ++ ws) { cls := Value.type "list", data := Data.seq us n : Obj }).data.pastItsLine = none from pastItsLine_seq (by rw [Array.size_append]; exact c2)]
    exact wpAny_pure (wpAny_pure ⟨_, rfl, e3⟩)
section
variable {X : Cx} {K : PySem.W.Frag}
def rExtT (K : PySem.W.Frag) : V → List V → Hp → VK → Prop := fun x vs H Q => ∃ l b xs zs, x = .ref l ∧ vs = [.ref b] ∧ H l = some (.lst xs) ∧ SqT K H b zs ∧ xs.length + zs.length ≤ 16000000 ∧ Q .non (upd H l (.lst (xs ++ zs)))
theorem mt_extT : MtM X "list.extend" (rExtT X.K) := by
  intro pins s σ H x vs v us Q I rx rv h
  obtain ⟨l, b, xs, zs, rfl, rfl, hH, hB, hz, q⟩ := h
  cases rx
  obtain ⟨u, rfl, ru⟩ := rv.one
  cases ru
  obtain ⟨z, its, n, r, hl, e⟩ := I.lstM hH
  obtain ⟨its2, r2, ⟨⟨cls, dd, data, sl⟩, ho, hc, n2, hd⟩, hs⟩ := I.tuple hB
  simp only at hc hd
  subst hc hd
  have hl2 : its2.length = zs.length := r2.length.symm
  have hsl := sizeLine_eq
  have hsz : its.toArray.size + its2.toArray.size ≤ sizeLine := by rw [List.size_toArray, List.size_toArray]; omega
  have hlong : ¬ (!its.toArray.isEmpty && Builtin.List.listTooLong (its.toArray.size + its2.toArray.size)) = true := by
    rw [notLongL hsz, Bool.and_false]
    decide
  refine call_meets F.slot_list_extend ⟨_, e, rfl⟩ F.entry_list_extend (F.args_list_extend_2 _ _)
    (extTup l b its.toArray its2.toArray n n2 dd sl hlong (by rw [List.size_toArray]; omega) (by omega)) ⟨e, ho, ?_⟩
  refine ⟨.non, _, I.lset (its' := its ++ its2) hH e (by simp) (r.append r2) (by rw [List.length_append]; omega), rfl, q⟩
def aExtT : D → ASp := fun x ds C P => match x, ds with
  | .ce p, [.tup ws] => (match C p with | some (.lst us) => us.length + ws.length ≤ 16000000 ∧ P .non (put C p (.lst (us ++ ws))) | _ => False)
  | _, _ => False
theorem am_extT (hK : X.K = K := by rfl) : AMt B X "list.extend" (rExtT K) aExtT := by
  subst hK
  exact ⟨fun pins s σ H x xs v us Q I r1 r2 h => mt_extT pins s σ H x xs v us Q I r1 r2 h, by
  intro v d vs ds F C R H Q P hS r1 r2 h k
  unfold aExtT at h
  split at h
  · cases r1
    cases r2 with
    | cons r2 r3 =>
      cases r3
      split at h
      · rename_i e
        obtain ⟨xs, h1, h2⟩ := cellL hS e
        cases r2 with
        | tup g1 g2 => exact ⟨_, _, xs, _, rfl, rfl, h1, SqT.of (hS.ex _ _ g1), by rw [h2.length, g2.length]; exact h.1, k _ _ F _ _ (Ex.refl F) (hS.mutC e (.lst (h2.append g2))) .non h.2⟩
      · exact h.elim
  · exact h.elim⟩
/-! ### x.split(sep) -/
def aSplit : D → ASp := fun x ds C P => match x, ds with
  | .str a, [.str b] => (b.length == 0) = false ∧ a.length + 2 ≤ sizeLine ∧ P (.lst ((Txt.split a b).map D.str)) C
  | _, _ => False
theorem am_split : AMt B X "str.split" (fun x xs H Q => ∃ a b, x = .str a ∧ xs = [.str b] ∧ (b.length == 0) = false ∧ a.length + 2 ≤ sizeLine ∧ rNewStrs (Txt.split a b) H Q) aSplit := ⟨fun pins s σ H x xs v us Q I r1 r2 h => mt_split pins s σ H x xs v us Q I r1 r2 h, by
  intro v d vs ds F C R H Q P hS r1 r2 h k
  unfold aSplit at h
  split at h
  · cases r1
    cases r2 with
    | cons r2 r3 =>
      cases r3
      cases r2
      rename_i a b
      refine ⟨a, b, rfl, rfl, h.1, h.2.1, fun p hp => ?_⟩
      have e := Ex.new (o := .lst ((Txt.split a b).map V.str)) (hS.freeF hp)
      exact k _ _ _ C _ e (hS.newF hp _) (.lst upd_same (.strs _)) h.2.2
  · exact h.elim⟩
/-! ### int(a text) -/
def aIntS : ASp := fun ds C P => match ds with | [.str a] => ∃ n, PySem.intText? a = some n ∧ a.length ≤ 640 ∧ P (.int n) C | _ => False
theorem ac_intS : ACa B X (.type "int") (fun xs H Q => ∃ a n, xs = [.str a] ∧ PySem.intText? a = some n ∧ a.length ≤ 640 ∧ Q (.int n) H) aIntS := ⟨call_int_str, by
  intro vs ds F C R H Q P hS r h k
  unfold aIntS at h
  split at h
  · cases r with
    | cons r1 r2 =>
      cases r2; cases r1
      obtain ⟨n, h1, h2, h3⟩ := h
      exact ⟨_, n, rfl, h1, h2, k _ _ F C H (Ex.refl F) hS (.int _) h3⟩
  · exact h.elim⟩
end
section
variable {C : AH} {P : D → AH → Prop}
theorem g_split {a b : Str} (h1 : (b.length == 0) = false) (h2 : a.length ≤ 1000000) (h : P (.lst ((Txt.split a b).map D.str)) C) : aSplit (.str a) [.str b] C P := ⟨h1, by simp only [sizeLine]; omega, h⟩
theorem g_intS {a : Str} {n : Int} (h1 : PySem.intText? a = some n) (h2 : a.length ≤ 640) (h : P (.int n) C) : aIntS [.str a] C P := ⟨n, h1, h2, h⟩
theorem g_extT {p : Addr} {us ws : List D} (h1 : C p = some (.lst us)) (h2 : us.length + ws.length ≤ 16000000) (h : P .non (put C p (.lst (us ++ ws)))) : aExtT (.ce p) [.tup ws] C P := by
  show (match C p with | some (.lst us) => us.length + ws.length ≤ 16000000 ∧ P .non (put C p (.lst (us ++ ws))) | _ => False)
  rw [h1]
  exact ⟨h2, h⟩
/-! ### join and split by one sign -/
def freeOf (c : Nat) (x : Str) : Prop := c ∉ x.cps.toList
theorem joinOne : ∀ (c : Nat) (ys : List Str), (Str.join ⟨#[c]⟩ ys).cps.toList = (match ys with | [] => [] | y :: r => y.cps.toList ++ (r.map fun z => c :: z.cps.toList).flatten)
  | _, [] => rfl
  | _, [y] => by
    show y.cps.toList = y.cps.toList ++ []
    rw [List.append_nil]
  | c, y :: z :: r => by
    have ih := joinOne c (z :: r)
    show (y ++ ⟨#[c]⟩ ++ Str.join ⟨#[c]⟩ (z :: r)).cps.toList = _
    have z1 : ∀ a b : Str, (a ++ b).cps.toList = a.cps.toList ++ b.cps.toList := fun a b => TL.tl_append a b
    rw [z1, z1, ih]
    simp
theorem join_inj (c : Nat) : ∀ (xs ys : List Str), xs ≠ [] → ys ≠ [] → (∀ x ∈ xs, freeOf c x) → (∀ y ∈ ys, freeOf c y) → Str.join ⟨#[c]⟩ xs = Str.join ⟨#[c]⟩ ys → xs = ys := by
  have cut : ∀ (a b : List Nat) (u v : List (List Nat)), c ∉ a → c ∉ b → a ++ (u.map fun z => c :: z).flatten = b ++ (v.map fun z => c :: z).flatten → a = b ∧ (u.map fun z => c :: z).flatten = (v.map fun z => c :: z).flatten := by
    intro a
    induction a with
    | nil =>
      intro b u v ha hb e
      cases b with
      | nil => exact ⟨rfl, e⟩
      | cons y b =>
        cases u with
        | nil => simp at e
        | cons z u =>
          simp at e
          exact absurd (by rw [e.1]; exact List.mem_cons_self) hb
    | cons x a ih =>
      intro b u v ha hb e
      cases b with
      | nil =>
        cases v with
        | nil => simp at e
        | cons z v =>
          simp at e
          exact absurd (by rw [e.1]; exact List.mem_cons_self) ha
      | cons y b =>
        rw [List.cons_append, List.cons_append] at e
        obtain ⟨e1, e2⟩ := List.cons.inj e
        obtain ⟨h1, h2⟩ := ih b u v (fun h => ha (List.mem_cons_of_mem _ h)) (fun h => hb (List.mem_cons_of_mem _ h)) e2
        exact ⟨by rw [e1, h1], h2⟩
  have eqS : ∀ {a b : Str}, a.cps.toList = b.cps.toList → a = b := fun {a b} h => by
    cases a; cases b
    exact congrArg Str.mk (Array.toList_inj.mp h)
  have tails : ∀ (u v : List Str), (∀ x ∈ u, freeOf c x) → (∀ x ∈ v, freeOf c x) → (u.map fun z => c :: z.cps.toList).flatten = (v.map fun z => c :: z.cps.toList).flatten → u = v := by
    intro u
    induction u with
    | nil =>
      intro v _ _ e
      cases v with
      | nil => rfl
      | cons y v => simp at e
    | cons x u ih =>
      intro v hu hv e
      cases v with
      | nil => simp at e
      | cons y v =>
        rw [List.map_cons, List.flatten_cons, List.map_cons, List.flatten_cons, List.cons_append, List.cons_append] at e
        have e := (List.cons.inj e).2
        have := cut x.cps.toList y.cps.toList (u.map fun z => z.cps.toList) (v.map fun z => z.cps.toList) (hu x List.mem_cons_self) (hv y List.mem_cons_self) (by rw [List.map_map, List.map_map]; exact e)
        rw [List.map_map, List.map_map] at this
        rw [eqS this.1, ih v (fun z h => hu z (List.mem_cons_of_mem _ h)) (fun z h => hv z (List.mem_cons_of_mem _ h)) this.2]
  intro xs ys hx hy fx fy e
  cases xs with
  | nil => exact absurd rfl hx
  | cons x xs =>
    cases ys with
    | nil => exact absurd rfl hy
    | cons y ys =>
      have e : (Str.join ⟨#[c]⟩ (x :: xs)).cps.toList = (Str.join ⟨#[c]⟩ (y :: ys)).cps.toList := congrArg (fun z : Str => z.cps.toList) e
      rw [joinOne, joinOne] at e
      have := cut x.cps.toList y.cps.toList (xs.map fun z => z.cps.toList) (ys.map fun z => z.cps.toList) (fx x List.mem_cons_self) (fy y List.mem_cons_self) (by rw [List.map_map, List.map_map]; exact e)
      rw [List.map_map, List.map_map] at this
      rw [eqS this.1, tails xs ys (fun z h => fx z (List.mem_cons_of_mem _ h)) (fun z h => fy z (List.mem_cons_of_mem _ h)) this.2]
theorem split_ne_nil (x : Str) (c : Nat) : Txt.split x ⟨#[c]⟩ ≠ [] := by
  intro h
  have := StrLaws.join_split x ⟨#[c]⟩
  rw [h] at this
  unfold Txt.split at h
  split at h
  · cases h
  · split at h
    · cases h
    · rw [StrLaws.partsBetween_eq] at h
      revert h
      cases Builtin.Str.occurrences x ⟨#[c]⟩ 0 x.length (x.length + 1) <;> intro h <;> cases h
theorem split_join {c : Nat} {ys : List Str} (hy : ys ≠ []) (h : ∀ y ∈ ys, freeOf c y) : Txt.split (Str.join ⟨#[c]⟩ ys) ⟨#[c]⟩ = ys :=
  join_inj c _ _ (split_ne_nil _ _) hy (fun x hx => StrLaws.split_free _ c x hx) h (StrLaws.join_split _ _)
end
end AL

namespace AL
open PySem PySem.Spec PyProof.Rows L2
variable {B : Bs}
/-! ### == of trees in which an empty dict stands -/
/-- flat things, truths and numbers in any mix -/
def eqF : D → D → Option Bool
  | .bl i, .int j => some ((if i then 1 else 0) == j)
  | .int i, .bl j => some (i == (if j then 1 else 0))
  | d, e => eqS d e
def isF : D → Bool
  | .non | .bl _ | .int _ | .str _ => true
  | _ => false
inductive EqD : Nat → D → D → Bool → Prop
  | flat {n : Nat} {d e : D} {b : Bool} : eqF d e = some b → EqD n d e b
  | lsts {n : Nat} {us ws : List D} {e : Nat → Bool} : us.length = ws.length → (∀ j (h1 : j < us.length) (h2 : j < ws.length), EqD n us[j] ws[j] (e j)) → EqD (n + 1) (.lst us) (.lst ws) ((List.range us.length).all e)
  | lstsN {n : Nat} {us ws : List D} : us.length ≠ ws.length → EqD (n + 1) (.lst us) (.lst ws) false
  | tups {n : Nat} {us ws : List D} {e : Nat → Bool} : (∀ j (h1 : j < us.length) (h2 : j < ws.length), EqD n us[j] ws[j] (e j)) → EqD (n + 1) (.tup us) (.tup ws) ((List.range (min us.length ws.length)).all e && us.length == ws.length)
  | lstF {n : Nat} {us : List D} {d : D} : isF d = true → EqD (n + 1) (.lst us) d false
  | tupF {n : Nat} {us : List D} {d : D} : isF d = true → EqD (n + 1) (.tup us) d false
  | fLst {n : Nat} {us : List D} {d : D} : isF d = true → EqD (n + 1) d (.lst us) false
  | fTup {n : Nat} {us : List D} {d : D} : isF d = true → EqD (n + 1) d (.tup us) false
  | lstTup {n : Nat} {us ws : List D} : EqD (n + 1) (.lst us) (.tup ws) false
  | tupLst {n : Nat} {us ws : List D} : EqD (n + 1) (.tup us) (.lst ws) false
  | dk0 {n : Nat} : EqD (n + 1) (.dk []) (.dk []) true
  | dkBl {n : Nat} {b : Bool} : EqD (n + 1) (.dk []) (.bl b) false
section
variable {A : Around} {s : Shared}
/-- an empty dict, by any program's look -/
def Dic0 (h : Heap) (a : Addr) : Prop := (a == sysModules) = false ∧ ∀ (prog : Program) (w : World), h.DictOf (mixKind prog w) a []
theorem dic0_of {P : Program} {w : World} {H : Hp} {h : Heap} {a : Addr} (ok : ObjOk P w H h a (.dK [])) : Dic0 h a := by
  obtain ⟨_, ys, va, ra, o, es, ep, ho, hx, hd, hk, hp, hn⟩ := ok
  unfold KV at ra
  cases ra
  have e0 : es.toList.length = 0 := hp.length
  have e1 : es = #[] := by
    apply Array.toList_inj.mp
    exact List.length_eq_zero_iff.mp e0
  subst e1
  refine ⟨ys, fun prog w' => ⟨o, #[], ep, ho, hx, hd, fun e he => absurd he (by simp), .nil, List.nodup_nil⟩⟩
theorem rc_dic {a b : Addr} (ha : Dic0 s.heap a) (hb : Dic0 s.heap b) (hu : A.units < cLine) : SeqAt.RcAt A s (.ref a) (.ref b) true := fun prog w E Q q =>
  PySem.W.rcP_dicts (knd := mixKind prog w) (r := true) ha.1 hb.1 (ha.2 prog w) (hb.2 prog w) hu (fun _ => .nil) E Q q
theorem eq_dic {a b : Addr} (ha : Dic0 s.heap a) (hb : Dic0 s.heap b) (hu : A.units < cLine) : SeqAt.EqAt A s (.ref a) (.ref b) true := by
  by_cases e : a = b
  · subst e; exact SeqAt.EqAt.same _
  · exact SeqAt.EqAt.of_refs e (rc_dic ha hb hu)
open AutoSeq1 (wpAny_loadPart') in
theorem int_declines_dic (c : Bool) (a : Addr) (cl : Value) (dd : Option Addr) (es : Array DictEntry) (ep : Nat) (sl : Array (Option Value)) : Meets (Builtin.«int.__eq__» ⟨[.bool c, .ref a], []⟩) (fun _ R s => s.heap.get? a = some { cls := cl, dict := dd, data := .dict es ep, slots := sl } ∧ R (.ok (.ret .notImplemented)) s) :=
  .of_wp fun prog w A R s h => by
    obtain ⟨hp, g, d, tk, os⟩ := s
    obtain ⟨hl, h⟩ := h
    wp_walk using wpAny_loadPart' hl, wpAny_load hl
    exact ⟨_, rfl, h⟩
open AutoSeq1 (wpAny_loadPart') in
theorem dict_declines_bool (c : Bool) (a : Addr) : Meets (Builtin.«dict.__eq__» ⟨[.ref a, .bool c], []⟩) (fun _ R s => s.TypeIs (.ref a) "dict" ∧ R (.ok (.ret .notImplemented)) s) :=
  .of_wp fun prog w A R s h => by
    obtain ⟨ht, h⟩ := h
    have f1 := F.sub_bool_dict
    show wpAny _ _ (Builtin.Dict.dictSlotArgs "__eq__" ⟨[.ref a, .bool c], []⟩ >>= _) _ _ s
    refine wpAny_bind ?_
    unfold Builtin.Dict.dictSlotArgs
    refine wpAny_bind (wpAny_notOrdered_dict ht ?_)
    show wpAny _ _ (pure (Value.ref a, Value.bool c)) _ _ s
    refine wpAny_pure ?_
    refine wpAny_bind (wpAny_isInstance (v := .bool c) (T := "bool") rfl F.sub_bool_dict ?_)
    simp only [Bool.not_false, if_true]
    refine wpAny_bind (wpAny_rule ?_)
    exact wpAny_bind (wpAny_pure (wpAny_pure ⟨_, rfl, h⟩))
theorem dic_bool {a : Addr} (b : Bool) (ha : Dic0 s.heap a) (hu : A.units < cLine) : SeqAt.EqAt A s (.ref a) (.bool b) false := fun prog w E Q h => by
  obtain ⟨o, es, ep, ho, hx, hd, _⟩ := ha.2 prog w
  have ht : s.TypeIs (.ref a) "dict" := (ha.2 prog w).typeIs
  obtain ⟨cl, dd, data, sl⟩ := o
  simp only at hd
  subst hd
  unfold eqBool
  refine wpAny_holding ?_
  refine wpAny_ite_split (fun hab => absurd (eq_of_beq hab) nofun) (fun _ => ?_)
  refine wpAny_bind ?_
  exact SeqAt.rc_eq_decline_or (k := false) ht rfl (by decide) F.sub_bool_dict F.slot_dict_eq F.slot_bool_eq_refl
    (fun _ hq => call_meets F.slot_dict_eq ht F.entry_dict_eq (F.args_dict_eq_2 _ _) (dict_declines_bool b a) ⟨ht, hq⟩)
    (fun _ hq => call_meets F.slot_bool_eq_refl rfl F.entry_int_eq (F.args_int_eq_2 _ _) (int_declines_dic b a cl dd es ep sl) ⟨ho, hq⟩)
    (fun _ hq => wpAny_of_eq (rfl : isSame (.ref a) (.bool b) = pure false) hq) (.inr hu) (wpAny_truthy_bool h)
end
section
variable {X : Cx} {K : PySem.W.Frag}
theorem dec_beq {α : Type} [DecidableEq α] [BEq α] [LawfulBEq α] (a b : α) : decide (a = b) = (a == b) := by
  rw [Bool.eq_iff_iff]; simp
theorem rv_non {u : Value} (h : L2.RelV .non u) : u = .none := h
theorem rv_bl {b : Bool} {u : Value} (h : L2.RelV (.bl b) u) : u = .bool b := h
theorem rv_int {i : Int} {u : Value} (h : L2.RelV (.int i) u) : ∃ t, u = .int i t := h
theorem rv_str {i : Str} {u : Value} (h : L2.RelV (.str i) u) : ∃ t, u = .str i t := h
theorem eqF_at {A : Around} {s : Shared} {F : Hp} {v w : V} {x y : Value} {d e : D} {b : Bool} (r1 : Rep K F v d) (r2 : Rep K F w e) (rx : RelV v x) (ry : RelV w y) (h : eqF d e = some b) : SeqAt.EqAt A s x y b := by
  unfold eqF at h
  split at h
  · cases r1; cases r2; cases h; cases rx
    obtain ⟨t, rfl⟩ := ry
    exact SeqAt.EqAt.bool_int _ _ _
  · cases r1; cases r2; cases h; cases ry
    obtain ⟨t, rfl⟩ := rx
    exact SeqAt.EqAt.int_bool _ _ _
  · unfold eqS at h
    split at h
    · cases r1; cases r2; cases h; obtain rfl := rv_non rx; obtain rfl := rv_non ry; exact SeqAt.EqAt.same _
    · cases r1; cases r2; cases h; obtain rfl := rv_non rx; obtain ⟨t2, rfl⟩ := rv_int ry; exact SeqAt.EqAt.none_int _ _
    · cases r1; cases r2; cases h; obtain ⟨t, rfl⟩ := rv_int rx; obtain rfl := rv_non ry; exact SeqAt.EqAt.int_none _ _
    · cases r1; cases r2; cases h; obtain rfl := rv_non rx; obtain rfl := rv_bl ry; exact SeqAt.EqAt.none_bool _
    · cases r1; cases r2; cases h; obtain rfl := rv_bl rx; obtain rfl := rv_non ry; exact SeqAt.EqAt.bool_none _
    · cases r1; cases r2; cases h; obtain rfl := rv_non rx; obtain ⟨t2, rfl⟩ := rv_str ry; exact SeqAt.EqAt.none_str _ _
    · cases r1; cases r2; cases h; obtain ⟨t, rfl⟩ := rv_str rx; obtain rfl := rv_non ry; exact SeqAt.EqAt.str_none _ _
    · cases r1; cases r2; cases h; obtain ⟨t, rfl⟩ := rv_int rx; obtain ⟨t2, rfl⟩ := rv_int ry; rw [dec_beq]; exact SeqAt.EqAt.int_int _ _ _ _
    · cases r1; cases r2; cases h; obtain rfl := rv_bl rx; obtain rfl := rv_bl ry; rw [dec_beq]; exact SeqAt.EqAt.bool_bool _ _
    · cases r1; cases r2; cases h; obtain ⟨t, rfl⟩ := rv_str rx; obtain ⟨t2, rfl⟩ := rv_str ry; rw [dec_beq]; exact SeqAt.EqAt.str_str _ _ _ _
    · cases r1; cases r2; cases h; obtain ⟨t, rfl⟩ := rv_int rx; obtain ⟨t2, rfl⟩ := rv_str ry; exact SeqAt.EqAt.int_str _ _ _ _
    · cases r1; cases r2; cases h; obtain ⟨t, rfl⟩ := rv_str rx; obtain ⟨t2, rfl⟩ := rv_int ry; exact SeqAt.EqAt.str_int _ _ _ _
    · cases r1; cases r2; cases h; obtain rfl := rv_bl rx; obtain ⟨t2, rfl⟩ := rv_str ry; exact SeqAt.EqAt.bool_str _ _ _
    · cases r1; cases r2; cases h; obtain ⟨t, rfl⟩ := rv_str rx; obtain rfl := rv_bl ry; exact SeqAt.EqAt.str_bool _ _ _
    · cases h
theorem vals_at {vs : List V} {us : List Value} (r : L2.Vals vs us) : ∀ {j : Nat} {v : V}, vs[j]? = some v → ∃ u, us[j]? = some u ∧ L2.RelV v u := by
  induction r with
  | nil => intro j v e; simp at e
  | cons h t ih =>
    intro j v e
    cases j with
    | zero => simp at e; subst e; exact ⟨_, rfl, h⟩
    | succ j => simpa using ih (by simpa using e)
theorem items_at {A : Around} {s : Shared} {F : Hp} {us ws : List D} {vs ys : List V} {xs zs : List Value} {e : Nat → Bool} (r1 : RepL K F vs us) (r2 : RepL K F ys ws) (q1 : L2.Vals vs xs) (q2 : L2.Vals ys zs)
    (h : ∀ j (h1 : j < us.length) (h2 : j < ws.length) (v w : V) (x y : Value), Rep K F v us[j] → Rep K F w ws[j] → L2.RelV v x → L2.RelV w y → SeqAt.EqAt A s x y (e j)) :
    ∀ j (h1 : j < xs.toArray.size) (h2 : j < zs.toArray.size), SeqAt.EqAt A s xs.toArray[j] zs.toArray[j] (e j) := by
  intro j h1 h2
  have l1 : j < us.length := by rw [← r1.length, q1.length]; simpa using h1
  have l2 : j < ws.length := by rw [← r2.length, q2.length]; simpa using h2
  obtain ⟨v, e1, g1⟩ := r1.getD (List.getElem?_eq_getElem l1)
  obtain ⟨w, e2, g2⟩ := r2.getD (List.getElem?_eq_getElem l2)
  obtain ⟨x, f1, k1⟩ := vals_at q1 e1
  obtain ⟨y, f2, k2⟩ := vals_at q2 e2
  have := h j l1 l2 v w x y g1 g2 k1 k2
  rw [List.getElem?_eq_some_iff] at f1 f2
  obtain ⟨_, f1⟩ := f1
  obtain ⟨_, f2⟩ := f2
  simpa [f1, f2] using this
theorem flat_at {F : Hp} {v : V} {d : D} {x : Value} (r : Rep K F v d) (rx : L2.RelV v x) (h : isF d = true) : x = .none ∨ (∃ b, x = .bool b) ∨ (∃ i t, x = .int i t) ∨ ∃ z t, x = .str z t := by
  cases r <;> first | (cases h; done) | skip
  · exact .inl rx
  · exact .inr (.inl ⟨_, rx⟩)
  · obtain ⟨t, e⟩ := rv_int rx; exact .inr (.inr (.inl ⟨_, t, e⟩))
  · obtain ⟨t, e⟩ := rv_str rx; exact .inr (.inr (.inr ⟨_, t, e⟩))
variable {pins : List (Addr × Obj)} {σ : L2.St} {H : Hp} {s : Shared}
theorem tup_is (I : Inv X pins σ H s) {F : Hp} (e : Ex F H) {a : Addr} {xs : List V} (h : F a = some (.tup xs)) : ∃ us, L2.Vals xs us ∧ s.heap.IsTuple a us.toArray := by
  obtain ⟨its, r, g, _⟩ := I.tuple (SqT.of (K := X.K) (e _ _ h))
  exact ⟨its, r, g⟩
theorem lst_is (I : Inv X pins σ H s) {F : Hp} (e : Ex F H) {a : Addr} {xs : List V} (h : F a = some (.lst xs)) : ∃ us, L2.Vals xs us ∧ s.heap.IsList a us.toArray := by
  obtain ⟨its, r, g, _⟩ := I.list (SqL.of (e _ _ h))
  exact ⟨its, r, g.isList⟩
theorem eqD_same {K : PySem.W.Frag} {F : Hp} {n : Nat} {d e : D} {b : Bool} (t : EqD n d e b) : ∀ (v : V), Rep K F v d → Rep K F v e → b = true := by
  induction t with
  | flat h =>
    intro v r1 r2
    unfold eqF at h
    split at h
    · cases r1; cases r2
    · cases r1; cases r2
    · unfold eqS at h
      split at h <;> cases r1 <;> cases r2 <;> cases h <;> first | rfl | exact decide_eq_true rfl
  | lsts hl _ ih =>
    intro v r1 r2
    cases r1 with
    | lst h1 g1 => cases r2 with
      | lst h2 g2 =>
        cases h1.symm.trans h2
        refine List.all_eq_true.mpr fun j hj => ?_
        have hj := List.mem_range.mp hj
        obtain ⟨v, e1, q1⟩ := g1.getD (List.getElem?_eq_getElem hj)
        obtain ⟨w, e2, q2⟩ := g2.getD (List.getElem?_eq_getElem (hl ▸ hj))
        cases e1.symm.trans e2
        exact ih j hj (hl ▸ hj) v q1 q2
  | lstsN hl =>
    intro v r1 r2
    cases r1 with
    | lst h1 g1 => cases r2 with
      | lst h2 g2 =>
        cases h1.symm.trans h2
        exact absurd (g1.length.symm.trans g2.length) hl
  | tups _ ih =>
    intro v r1 r2
    cases r1 with
    | tup h1 g1 => cases r2 with
      | tup h2 g2 =>
        cases h1.symm.trans h2
        have hl := g1.length.symm.trans g2.length
        rw [Bool.and_eq_true]
        refine ⟨List.all_eq_true.mpr fun j hj => ?_, by simp [hl]⟩
        have hj := List.mem_range.mp hj
        have k1 : j < _ := Nat.lt_of_lt_of_le hj (Nat.min_le_left _ _)
        have k2 : j < _ := Nat.lt_of_lt_of_le hj (Nat.min_le_right _ _)
        obtain ⟨v, e1, q1⟩ := g1.getD (List.getElem?_eq_getElem k1)
        obtain ⟨w, e2, q2⟩ := g2.getD (List.getElem?_eq_getElem k2)
        cases e1.symm.trans e2
        exact ih j k1 k2 v q1 q2
  | lstF h => intro v r1 r2; cases r1 <;> cases r2 <;> cases h
  | tupF h => intro v r1 r2; cases r1 <;> cases r2 <;> cases h
  | fLst h => intro v r1 r2; cases r1 <;> cases r2 <;> cases h
  | fTup h => intro v r1 r2; cases r1 <;> cases r2 <;> cases h
  | lstTup =>
    intro v r1 r2
    cases r1 with
    | lst h1 g1 => cases r2 with
      | tup h2 g2 => cases h1.symm.trans h2
  | tupLst =>
    intro v r1 r2
    cases r1 with
    | tup h1 g1 => cases r2 with
      | lst h2 g2 => cases h1.symm.trans h2
  | dk0 => intro v r1 r2; rfl
  | dkBl => intro v r1 r2; cases r1 <;> cases r2
/-- the items of two lists or tuples, told apart -/
def Items (A : Around) (s : Shared) (l1 l2 : Nat) (e : Nat → Bool) (xs zs : Array Value) : Prop := xs.size = l1 ∧ zs.size = l2 ∧ ∀ j (h1 : j < xs.size) (h2 : j < zs.size), SeqAt.EqAt A s xs[j] zs[j] (e j)
theorem both_lst (I : Inv X pins σ H s) {F : Hp} (eF : Ex F H) {us ws : List D} {A : Around} {e : Nat → Bool} {a b : Addr} {vs ys : List V} (h1 : F a = some (.lst vs)) (h2 : F b = some (.lst ys)) (g1 : RepL X.K F vs us) (g2 : RepL X.K F ys ws)
    (ih : ∀ j (h1 : j < us.length) (h2 : j < ws.length) (v w : V) (x y : Value), Rep X.K F v us[j] → Rep X.K F w ws[j] → L2.RelV v x → L2.RelV w y → SeqAt.EqAt A s x y (e j)) :
    ∃ xs zs, s.heap.IsList a xs ∧ s.heap.IsList b zs ∧ Items A s us.length ws.length e xs zs := by
  obtain ⟨xs, q1, p1⟩ := lst_is I eF h1
  obtain ⟨ys, q2, p2⟩ := lst_is I eF h2
  exact ⟨_, _, p1, p2, by rw [List.size_toArray, ← q1.length, g1.length], by rw [List.size_toArray, ← q2.length, g2.length], items_at g1 g2 q1 q2 ih⟩
theorem both_tup (I : Inv X pins σ H s) {F : Hp} (eF : Ex F H) {us ws : List D} {A : Around} {e : Nat → Bool} {a b : Addr} {vs ys : List V} (h1 : F a = some (.tup vs)) (h2 : F b = some (.tup ys)) (g1 : RepL X.K F vs us) (g2 : RepL X.K F ys ws)
    (ih : ∀ j (h1 : j < us.length) (h2 : j < ws.length) (v w : V) (x y : Value), Rep X.K F v us[j] → Rep X.K F w ws[j] → L2.RelV v x → L2.RelV w y → SeqAt.EqAt A s x y (e j)) :
    ∃ xs zs, s.heap.IsTuple a xs ∧ s.heap.IsTuple b zs ∧ Items A s us.length ws.length e xs zs := by
  obtain ⟨xs, q1, p1⟩ := tup_is I eF h1
  obtain ⟨ys, q2, p2⟩ := tup_is I eF h2
  exact ⟨_, _, p1, p2, by rw [List.size_toArray, ← q1.length, g1.length], by rw [List.size_toArray, ← q2.length, g2.length], items_at g1 g2 q1 q2 ih⟩
theorem one_lst (I : Inv X pins σ H s) {F : Hp} (eF : Ex F H) {a : Addr} {vs : List V} (h1 : F a = some (.lst vs)) : ∃ xs, s.heap.IsList a xs := by
  obtain ⟨xs, q1, p1⟩ := lst_is I eF h1
  exact ⟨_, p1⟩
theorem one_tup (I : Inv X pins σ H s) {F : Hp} (eF : Ex F H) {a : Addr} {vs : List V} (h1 : F a = some (.tup vs)) : ∃ xs, s.heap.IsTuple a xs := by
  obtain ⟨xs, q1, p1⟩ := tup_is I eF h1
  exact ⟨_, p1⟩
/-- what a comparision of trees tells, an item's -/
theorem eqD_at (I : Inv X pins σ H s) {F : Hp} (eF : Ex F H) {n : Nat} {d e : D} {b : Bool} (t : EqD n d e b) : ∀ (A : Around), A.units + n < cLine → ∀ (v w : V) (x y : Value), Rep X.K F v d → Rep X.K F w e → L2.RelV v x → L2.RelV w y → SeqAt.EqAt A s x y b := by
  induction t with
  | flat h => intro A hu v w x y r1 r2 rx ry; exact eqF_at r1 r2 rx ry h
  | lsts hl hh ih =>
    intro A hu v w x y r1 r2 rx ry
    by_cases ne : v = w
    · subst ne
      rw [eqD_same (.lsts hl hh) v r1 r2]
      cases r1
      cases rx; cases ry
      exact SeqAt.EqAt.same _
    · cases r1 with
      | lst h1 g1 => cases r2 with
        | lst h2 g2 =>
          cases rx; cases ry
          obtain ⟨xs, zs, p1, p2, l1, l2, q⟩ := both_lst (A := A.in1) I eF h1 h2 g1 g2 fun j h1 h2 v w x y a1 a2 a3 a4 => ih j h1 h2 A.in1 (by show A.units + 1 + _ < cLine; omega) v w x y a1 a2 a3 a4
          refine SeqAt.EqAt.of_refs (fun z => ne (by rw [z])) ?_
          have := SeqAt.RcAt.lists (A := A) p1 p2 (by rw [l1, l2, hl]) (by omega) q
          rw [l1] at this
          exact this
  | lstsN hl =>
    intro A hu v w x y r1 r2 rx ry
    cases r1 with
    | lst h1 g1 => cases r2 with
      | lst h2 g2 =>
        cases rx; cases ry
        obtain ⟨xs, q1, p1⟩ := lst_is I eF h1
        obtain ⟨ys, q2, p2⟩ := lst_is I eF h2
        refine SeqAt.EqAt.of_refs (fun z => ?_) ?_
        · subst z
          cases h1.symm.trans h2
          exact hl (g1.length.symm.trans g2.length)
        · refine SeqAt.RcAt.lists_lengths p1 p2 ?_ (by omega)
          rw [List.size_toArray, List.size_toArray, ← q1.length, ← q2.length, g1.length, g2.length]
          simpa using hl
  | tups hh ih =>
    intro A hu v w x y r1 r2 rx ry
    by_cases ne : v = w
    · subst ne
      rw [eqD_same (.tups hh) v r1 r2]
      cases r1
      cases rx; cases ry
      exact SeqAt.EqAt.same _
    · cases r1 with
      | tup h1 g1 => cases r2 with
        | tup h2 g2 =>
          cases rx; cases ry
          obtain ⟨xs, zs, p1, p2, l1, l2, q⟩ := both_tup (A := A.in1) I eF h1 h2 g1 g2 fun j h1 h2 v w x y a1 a2 a3 a4 => ih j h1 h2 A.in1 (by show A.units + 1 + _ < cLine; omega) v w x y a1 a2 a3 a4
          refine SeqAt.EqAt.of_refs (fun z => ne (by rw [z])) ?_
          have := SeqAt.RcAt.tuples (A := A) p1 p2 (by omega) q
          rw [l1, l2] at this
          exact this
  | lstF h =>
    intro A hu v w x y r1 r2 rx ry
    cases r1 with
    | lst h1 g1 =>
      cases rx
      obtain ⟨xs, p1⟩ := one_lst I eF h1
      rcases flat_at r2 ry h with rfl | ⟨b, rfl⟩ | ⟨i, t, rfl⟩ | ⟨z, t, rfl⟩
      · exact SeqAt.EqAt.list_none p1 (by omega)
      · exact SeqAt.EqAt.list_bool b p1 (by omega)
      · exact SeqAt.EqAt.list_int i t p1 (by omega)
      · exact SeqAt.EqAt.list_str z t p1 (by omega)
  | tupF h =>
    intro A hu v w x y r1 r2 rx ry
    cases r1 with
    | tup h1 g1 =>
      cases rx
      obtain ⟨xs, p1⟩ := one_tup I eF h1
      rcases flat_at r2 ry h with rfl | ⟨b, rfl⟩ | ⟨i, t, rfl⟩ | ⟨z, t, rfl⟩
      · exact SeqAt.EqAt.tuple_none p1 (by omega)
      · exact SeqAt.EqAt.tuple_bool b p1 (by omega)
      · exact SeqAt.EqAt.tuple_int i t p1 (by omega)
      · exact SeqAt.EqAt.tuple_str z t p1 (by omega)
  | fLst h =>
    intro A hu v w x y r1 r2 rx ry
    cases r2 with
    | lst h1 g1 =>
      cases ry
      obtain ⟨xs, p1⟩ := one_lst I eF h1
      rcases flat_at r1 rx h with rfl | ⟨b, rfl⟩ | ⟨i, t, rfl⟩ | ⟨z, t, rfl⟩
      · exact SeqAt.EqAt.none_list p1 (by omega)
      · exact SeqAt.EqAt.bool_list b p1 (by omega)
      · exact SeqAt.EqAt.int_list i t p1 (by omega)
      · exact SeqAt.EqAt.str_list z t p1 (by omega)
  | fTup h =>
    intro A hu v w x y r1 r2 rx ry
    cases r2 with
    | tup h1 g1 =>
      cases ry
      obtain ⟨xs, p1⟩ := one_tup I eF h1
      rcases flat_at r1 rx h with rfl | ⟨b, rfl⟩ | ⟨i, t, rfl⟩ | ⟨z, t, rfl⟩
      · exact SeqAt.EqAt.none_tuple p1 (by omega)
      · exact SeqAt.EqAt.bool_tuple b p1 (by omega)
      · exact SeqAt.EqAt.int_tuple i t p1 (by omega)
      · exact SeqAt.EqAt.str_tuple z t p1 (by omega)
  | lstTup =>
    intro A hu v w x y r1 r2 rx ry
    cases r1 with
    | lst h1 g1 => cases r2 with
      | tup h2 g2 =>
        cases rx; cases ry
        obtain ⟨xs, p1⟩ := one_lst I eF h1
        obtain ⟨ys, p2⟩ := one_tup I eF h2
        exact SeqAt.EqAt.list_tuple p1 p2 (by omega)
  | tupLst =>
    intro A hu v w x y r1 r2 rx ry
    cases r1 with
    | tup h1 g1 => cases r2 with
      | lst h2 g2 =>
        cases rx; cases ry
        obtain ⟨xs, p1⟩ := one_tup I eF h1
        obtain ⟨ys, p2⟩ := one_lst I eF h2
        exact SeqAt.EqAt.tuple_list p1 p2 (by omega)
  | dk0 =>
    intro A hu v w x y r1 r2 rx ry
    cases r1 with
    | dk h1 g1 => cases r2 with
      | dk h2 g2 =>
        cases g1; cases g2
        cases rx; cases ry
        exact eq_dic (dic0_of (I.hok _ _ (eF _ _ h1))) (dic0_of (I.hok _ _ (eF _ _ h2))) (by omega)
  | dkBl =>
    intro A hu v w x y r1 r2 rx ry
    cases r1 with
    | dk h1 g1 =>
      cases r2
      cases g1
      cases rx; cases ry
      exact dic_bool _ (dic0_of (I.hok _ _ (eF _ _ h1))) (by omega)
/-- as a whole comparision: of lists, tuples, dicts -/
inductive Whole : D → D → Bool → Prop
  | lsts {us ws : List D} {e : Nat → Bool} : us.length = ws.length → (∀ j (h1 : j < us.length) (h2 : j < ws.length), EqD 60 us[j] ws[j] (e j)) → Whole (.lst us) (.lst ws) ((List.range us.length).all e)
  | lstsN {us ws : List D} : us.length ≠ ws.length → Whole (.lst us) (.lst ws) false
  | tups {us ws : List D} {e : Nat → Bool} : (∀ j (h1 : j < us.length) (h2 : j < ws.length), EqD 60 us[j] ws[j] (e j)) → Whole (.tup us) (.tup ws) ((List.range (min us.length ws.length)).all e && us.length == ws.length)
  | dk0 : Whole (.dk []) (.dk []) true
def rEqW (K : PySem.W.Frag) (neg : Bool) : R2 := fun x y H Q => ∃ F d e b, Ex F H ∧ Rep K F x d ∧ Rep K F y e ∧ Whole d e b ∧ Q (.bl (if neg then !b else b)) H
theorem op_eqW (hu : X.A.units + 64 < cLine) : OpR X (compareOp .Eq) (rEqW X.K false) := by
  intro pins s σ H x y v u Q I rx ry h
  obtain ⟨F, d, e, b, eF, r1, r2, t, q⟩ := h
  have fin : ∀ {k : Bool}, SeqAt.RcAt X.A s v u k → k = b → wpAny (model X.prog X.w) X.A (compareOp .Eq v u) (EP X pins σ Q) X.xe s := fun hk z => by
    subst z
    exact hk _ _ _ _ ⟨.bl _, H, I, rfl, q⟩
  cases t with
  | lsts hl hh =>
    cases r1 with
    | lst h1 g1 => cases r2 with
      | lst h2 g2 =>
        cases rx; cases ry
        obtain ⟨xs, zs, p1, p2, l1, l2, q⟩ := both_lst (A := X.A.in1) I eF h1 h2 g1 g2 fun j h1 h2 v w x y a1 a2 a3 a4 => eqD_at I eF (hh j h1 h2) X.A.in1 (by show X.A.units + 1 + _ < cLine; omega) v w x y a1 a2 a3 a4
        exact fin (SeqAt.RcAt.lists p1 p2 (by rw [l1, l2, hl]) (by omega) q) (by rw [l1])
  | lstsN hl =>
    cases r1 with
    | lst h1 g1 => cases r2 with
      | lst h2 g2 =>
        cases rx; cases ry
        obtain ⟨xs, q1, p1⟩ := lst_is I eF h1
        obtain ⟨ys, q2, p2⟩ := lst_is I eF h2
        refine fin (SeqAt.RcAt.lists_lengths p1 p2 ?_ (by omega)) rfl
        rw [List.size_toArray, List.size_toArray, ← q1.length, ← q2.length, g1.length, g2.length]
        simpa using hl
  | tups hh =>
    cases r1 with
    | tup h1 g1 => cases r2 with
      | tup h2 g2 =>
        cases rx; cases ry
        obtain ⟨xs, zs, p1, p2, l1, l2, q⟩ := both_tup (A := X.A.in1) I eF h1 h2 g1 g2 fun j h1 h2 v w x y a1 a2 a3 a4 => eqD_at I eF (hh j h1 h2) X.A.in1 (by show X.A.units + 1 + _ < cLine; omega) v w x y a1 a2 a3 a4
        exact fin (SeqAt.RcAt.tuples p1 p2 (by omega) q) (by rw [l1, l2])
  | dk0 =>
    cases r1 with
    | dk h1 g1 => cases r2 with
      | dk h2 g2 =>
        cases g1; cases g2
        cases rx; cases ry
        exact fin (rc_dic (dic0_of (I.hok _ _ (eF _ _ h1))) (dic0_of (I.hok _ _ (eF _ _ h2))) (by omega)) rfl
theorem op_neW (hu : X.A.units + 64 < cLine) : OpR X (compareOp .NotEq) (rEqW X.K true) := by
  intro pins s σ H x y v u Q I rx ry h
  obtain ⟨F, d, e, b, eF, r1, r2, t, q⟩ := h
  have fin : ∀ {k : Bool}, SeqAt.RcNeAt X.A s v u k → k = !b → wpAny (model X.prog X.w) X.A (compareOp .NotEq v u) (EP X pins σ Q) X.xe s := fun hk z => by
    subst z
    exact hk _ _ _ _ ⟨.bl _, H, I, rfl, q⟩
  cases t with
  | lsts hl hh =>
    cases r1 with
    | lst h1 g1 => cases r2 with
      | lst h2 g2 =>
        cases rx; cases ry
        obtain ⟨xs, zs, p1, p2, l1, l2, q⟩ := both_lst (A := X.A.in1) I eF h1 h2 g1 g2 fun j h1 h2 v w x y a1 a2 a3 a4 => eqD_at I eF (hh j h1 h2) X.A.in1 (by show X.A.units + 1 + _ < cLine; omega) v w x y a1 a2 a3 a4
        exact fin (SeqAt.RcNeAt.lists p1 p2 (by rw [l1, l2, hl]) (by omega) q) (by rw [l1])
  | lstsN hl =>
    cases r1 with
    | lst h1 g1 => cases r2 with
      | lst h2 g2 =>
        cases rx; cases ry
        obtain ⟨xs, q1, p1⟩ := lst_is I eF h1
        obtain ⟨ys, q2, p2⟩ := lst_is I eF h2
        refine fin (SeqAt.RcNeAt.lists_lengths p1 p2 ?_ (by omega)) rfl
        rw [List.size_toArray, List.size_toArray, ← q1.length, ← q2.length, g1.length, g2.length]
        simpa using hl
  | tups hh =>
    cases r1 with
    | tup h1 g1 => cases r2 with
      | tup h2 g2 =>
        cases rx; cases ry
        obtain ⟨xs, zs, p1, p2, l1, l2, q⟩ := both_tup (A := X.A.in1) I eF h1 h2 g1 g2 fun j h1 h2 v w x y a1 a2 a3 a4 => eqD_at I eF (hh j h1 h2) X.A.in1 (by show X.A.units + 1 + _ < cLine; omega) v w x y a1 a2 a3 a4
        exact fin (SeqAt.RcNeAt.tuples p1 p2 (by omega) q) (by rw [l1, l2])
  | dk0 =>
    cases r1 with
    | dk h1 g1 => cases r2 with
      | dk h2 g2 =>
        cases g1; cases g2
        exact op_ne_dictA (X := X) (by omega) pins s σ H _ _ v u Q I rx ry ⟨_, _, [], [], rfl, rfl, eF _ _ h1, eF _ _ h2, rfl, (fun p hp => by cases hp), q⟩
/-- == and !=, trees with empty dicts too -/
def aEqW (neg : Bool) : D → D → AH → (D → AH → Prop) → Prop := fun x y C P => aEqN neg x y C P ∨ ∃ b, Whole x y b ∧ P (.bl (if neg then !b else b)) C
theorem ao_eqW (hu : X.A.units + 64 < cLine) (hK : X.K = K := by rfl) : AOp B X (compareOp .Eq) (fun x y H Q => (rEq x y H Q ∨ rEqD K x y H Q) ∨ rEqW K false x y H Q) (aEqW false) := by
  subst hK
  refine ⟨(op_eq.or (op_eqD hu)).or (op_eqW hu), ?_⟩
  intro v w d e F C R H Q P hS r1 r2 h k
  rcases h with h | ⟨b, t, h3⟩
  · exact .inl ((sim_eq (B := B)) v w d e F C R H Q P hS r1 r2 h k)
  · exact .inr ⟨F, d, e, b, hS.ex, r1, r2, t, k _ _ F C H (Ex.refl F) hS (.bl _) h3⟩
theorem ao_neW (hu : X.A.units + 64 < cLine) (hK : X.K = K := by rfl) : AOp B X (compareOp .NotEq) (fun x y H Q => (rNe x y H Q ∨ rNeD K x y H Q) ∨ rEqW K true x y H Q) (aEqW true) := by
  subst hK
  refine ⟨(op_ne.or (op_neD hu)).or (op_neW hu), ?_⟩
  intro v w d e F C R H Q P hS r1 r2 h k
  rcases h with h | ⟨b, t, h3⟩
  · exact .inl ((sim_ne (B := B)) v w d e F C R H Q P hS r1 r2 h k)
  · exact .inr ⟨F, d, e, b, hS.ex, r1, r2, t, k _ _ F C H (Ex.refl F) hS (.bl _) h3⟩
end
end AL

namespace AL
open PySem PySem.Spec PyProof.Rows L2
variable {B : Bs}
/-! ### a name's cell, where it is one, is changed no more -/
def aFrzO (i : Nat) (a : AS') : AS' := fun E s C => match s[i]? with
  | some (some (.ce p)) => aFrz i a E s C
  | _ => a E s C
theorem sim_frzO {K : PySem.W.Frag} {t : TS} {a : AS'} (i : Nat) (h : SimS B K t a) : SimS B K t (aFrzO i a) := fun D' E σ s F C R H hE hs hS h0 => by
  unfold aFrzO at h0
  split at h0
  · exact sim_frz i h D' E σ s F C R H hE hs hS h0
  · exact h D' E σ s F C R H hE hs hS h0
theorem ass_frzO {X : Cx} {sts : List Stmt} {t : TS} {a : AS'} (i : Nat) (h : ASs B X sts t a) : ASs B X sts t (aFrzO i a) := ⟨h.ps, sim_frzO i h.sim⟩
section
variable {a : AS'} {s : ASt} {C : AH} {E : AEnds}
theorem g_frzOL {i : Nat} {p : Addr} {ds : List D} (h0 : s[i]? = some (some (.ce p))) (h1 : C p = some (.lst ds)) (h : a E (s.set i (some (.lst ds))) (del C p)) : aFrzO i a E s C := by
  unfold aFrzO
  rw [h0]
  exact g_frzL h0 h1 h
theorem g_frzON {i : Nat} {d : D} (h0 : s[i]? = some (some d)) (hd : ∀ p, d ≠ .ce p) (h : a E s C) : aFrzO i a E s C := by
  unfold aFrzO
  rw [h0]
  split
  · rename_i e
    injection e with e
    injection e with e
    exact absurd e (hd _)
  · exact h
end
end AL
namespace AL
open PySem PySem.Spec PyProof.Rows L2
variable {B : Bs}
/-! ### str of a text or a number -/
def aStrA : ASp := fun ds C P => match ds with
  | [.str a] => P (.str a) C
  | [.int i] => i.natAbs.log2 < 1920 ∧ P (.str (toString i)) C
  | _ => False
theorem ac_strA {X : Cx} : ACa B X (.type "str") (fun xs H Q => (∃ a, xs = [.str a] ∧ Q (.str a) H) ∨ ∃ i, xs = [.int i] ∧ i.natAbs.log2 < 1920 ∧ Q (.str (toString i)) H) aStrA := ⟨SkE.call_str_str.or call_str_int, by
  intro vs ds F C R H Q P hS r h k
  unfold aStrA at h
  split at h
  · cases r with
    | cons r1 r2 =>
      cases r2; cases r1
      exact .inl ⟨_, rfl, k _ _ F C H (Ex.refl F) hS (.str _) h⟩
  · cases r with
    | cons r1 r2 =>
      cases r2; cases r1
      exact .inr ⟨_, rfl, h.1, k _ _ F C H (Ex.refl F) hS (.str _) h.2⟩
  · exact h.elim⟩
end AL

namespace AL
open PySem PySem.Spec PyProof.Rows L2
open AutoSeq1 (wpAny_loadPart')
variable {B : Bs}
section
variable {X : Cx} {K : PySem.W.Frag}
/-! ### number * text -/
def rMulSI : R2 := fun x y H Q => ∃ z n, y = .str z ∧ x = .int n ∧ 2 ≤ n ∧ n ≤ 1000 ∧ 1 ≤ z.length ∧ z.length ≤ 1000 ∧ Q (.str (timesL z n.toNat)) H
theorem op_mulSI : OpR X (binaryOp .Mult) rMulSI := by
  intro pins s σ H x y v u Q I rx ry h
  obtain ⟨z, n, rfl, rfl, h1, h2, h3, h4, q⟩ := h
  obtain ⟨t, rfl⟩ := rx
  obtain ⟨t2, rfl⟩ := ry
  have hm : z.length * n.toNat ≤ 1000 * 1000 := Nat.mul_le_mul h4 (by omega)
  refine lm_binaryOp_repeat_right (T := "str") (U := "int") (by decide) (fun s' => typeIs_int s' n t) (typeIs_str s z t2) F.fills_int_mul noFill_str_mul F.slot_int_mul lm_noRepeat_int repeat_str F.slot_int_index.lookup
    (call_gives F.slot_int_mul (typeIs_int s n t) F.entry_int_mul (F.args_int_mul_2 _ _) (AutoIntG3.int___mul___int_str_0 n t z t2)
      ⟨rfl, typeIs_str _ _ _, call_gives F.slot_str_mul (typeIs_str s z t2) F.entry_str_mul (F.args_str_mul_2 _ _) (gives_str_mul z n t2 t ?_ (fun a _ => ?_) (fun a _ => ?_)) ?_⟩)
  · rw [decide_eq_false (by omega), decide_eq_false (by omega)]; rfl
  · have e : (2 ^ 63 - 1) / (1000 : Int) ≤ (2 ^ 63 - 1) / n := by
      refine (Int.le_ediv_iff_mul_le (by omega)).mpr ?_
      have : (2 ^ 63 - 1) / (1000 : Int) * n ≤ (2 ^ 63 - 1) / (1000 : Int) * 1000 := Int.mul_le_mul_of_nonneg_left h2 (by decide)
      have : (2 ^ 63 - 1) / (1000 : Int) * 1000 ≤ 2 ^ 63 - 1 := by decide
      omega
    have e2 : (16000000 : Int) ≤ (2 ^ 63 - 1) / (1000 : Int) := by decide
    omega
  · unfold Builtin.Str.tooLong
    rw [decide_eq_false_iff_not, sizeLine_eq]
    omega
  · rw [if_neg (by omega), if_neg (by simp; omega)]
    refine ⟨?_, ⟨.str _, H, I.tok _, ⟨_, rfl⟩, q⟩⟩
    show (timesL z n.toNat).length ≤ sizeLine
    rw [timesL_len, sizeLine_eq, Nat.mul_comm]
    omega
def aMulSI : D → D → AH → (D → AH → Prop) → Prop := fun x y C P => match x, y with
  | .int n, .str z => 2 ≤ n ∧ n ≤ 1000 ∧ 1 ≤ z.length ∧ z.length ≤ 1000 ∧ P (.str (timesL z n.toNat)) C
  | _, _ => False
theorem ao_mulSI : AOp B X (binaryOp .Mult) rMulSI aMulSI := ⟨op_mulSI, by
  intro v w d e F C R H Q P hS r1 r2 h k
  unfold aMulSI at h
  split at h
  · cases r1; cases r2
    exact ⟨_, _, rfl, rfl, h.1, h.2.1, h.2.2.1, h.2.2.2.1, k _ _ F C H (Ex.refl F) hS (.str _) h.2.2.2.2⟩
  · exact h.elim⟩
/-! ### tuple * number -/
theorem tuple_mulS (l : Addr) (items : Array Value) (n : Nat) (dd : Option Addr) (sl : Array (Option Value)) (x : Int) (u : Tok) (c0 : (decide (x < -(2 ^ 63)) || decide (x ≥ 2 ^ 63)) = false) (c1 : (items.isEmpty || x == 1) = true) :
    Meets (Builtin.«tuple.__mul__» ⟨[.ref l, .int x u], []⟩) (fun _ R s => s.heap.get? l = some { cls := .type "tuple", dict := dd, data := .seq items n, slots := sl } ∧
      R (.ok (.ret (Value.ref l))) s) :=
  .of_wp fun prog w A R s h => by
    obtain ⟨hp, g, d, tk, os⟩ := s
    obtain ⟨hl, h⟩ := h
    have f1 := AutoSeq1.idx_int
    wp_walk using wpAny_loadPart' hl
    repeat (first
      | (refine wpAny_ite_false (decide_eq_false (by rw [c0]; exact Bool.false_ne_true)) ?_; wp_walk using wpAny_loadPart' hl)
      | (refine wpAny_ite_true (decide_eq_true c1) ?_; wp_walk using wpAny_loadPart' hl))
    exact ⟨_, rfl, h⟩
def rRepS (K : PySem.W.Frag) : R2 := fun x y H Q => ∃ l k xs, x = .ref l ∧ y = .int k ∧ SqT K H l xs ∧ (xs = [] ∨ k = 1) ∧ 1 ≤ k ∧ k ≤ 1000 ∧ Q (.ref l) H
theorem op_repS : OpR X (binaryOp .Mult) (rRepS X.K) := by
  intro pins s σ H x y v u Q I rx ry h
  obtain ⟨l, k, xs, rfl, rfl, hT, hne, h1, h2, q⟩ := h
  cases rx
  obtain ⟨t, rfl⟩ := ry
  obtain ⟨its, r, ⟨⟨cls, dd, data, sl⟩, ho, hc, n, hd⟩, hs⟩ := I.tuple hT
  simp only at hc hd
  subst hc hd
  have hle : its.length = xs.length := r.length.symm
  have c0 : (decide (k < -(2 ^ 63)) || decide (k ≥ 2 ^ 63)) = false := by
    rw [decide_eq_false (by omega), decide_eq_false (by omega)] <;> rfl
  have c1 : (its.toArray.isEmpty || k == 1) = true := by
    rcases hne with e | e
    · rw [e] at hle
      rw [List.eq_nil_of_length_eq_zero hle]
      rfl
    · rw [e]
      simp
  refine wpAny_binaryOp_repeat_ref (T := "tuple") (U := "int") (by decide) ⟨_, ho, rfl⟩ (fun s' => typeIs_int s' k t) noFill_tuple_mul F.fills_int_mul F.slot_int_rmul repeat_tuple F.slot_int_index.lookup
    (call_meets F.slot_int_rmul (typeIs_int s k t) F.entry_int_rmul (F.args_int_rmul_2 _ _) (int_rmul_tuple k t l its.toArray n dd sl)
      ⟨ho, rfl, ⟨_, ho, rfl⟩, call_meets F.slot_tuple_mul ⟨_, ho, rfl⟩ F.entry_tuple_mul (F.args_tuple_mul_2 _ _) (tuple_mulS l its.toArray n dd sl k t c0 c1) ⟨ho, ?_⟩⟩)
  exact ⟨.ref l, H, I, rfl, q⟩
def aRepT : D → D → AH → (D → AH → Prop) → Prop := fun x y C P => match x, y with
  | .tup ds, .int k => 1 ≤ k ∧ k ≤ 1000 ∧ ds.length ≤ 1000 ∧ P (.tup (List.replicate k.toNat ds).flatten) C
  | _, _ => False
theorem ao_repT (hK : X.K = K := by rfl) : AOp B X (binaryOp .Mult) (fun x y H Q => rRepS K x y H Q ∨ L2.rRepT K x y H Q) aRepT := by
  subst hK
  refine ⟨op_repS.or op_repT, ?_⟩
  intro v w d e F C R H Q P hS r1 r2 h k
  unfold aRepT at h
  split at h
  · rename_i ds i
    cases r2
    obtain ⟨h1, h2, h3, h4⟩ := h
    cases r1 with
    | @tup a xs us g1 g2 =>
      by_cases hk : ds = [] ∨ i = 1
      · refine .inl ⟨a, i, xs, rfl, rfl, SqT.of (hS.ex _ _ g1), ?_, h1, h2, k _ _ F C H (Ex.refl F) hS ?_ h4⟩
        · rcases hk with e | e
          · subst e
            cases g2
            exact .inl rfl
          · exact .inr e
        · have : (List.replicate i.toNat ds).flatten = ds := by
            rcases hk with e | e
            · subst e
              simp
            · subst e
              simp
          rw [this]
          exact .tup g1 g2
      · refine .inr ⟨a, i, xs, rfl, rfl, SqT.of (hS.ex _ _ g1), fun e => ?_, by omega, h2, by rw [g2.length]; exact h3, fun p hp => ?_⟩
        · subst e
          cases g2
          exact hk (.inl rfl)
        · have e : Ex F (upd F p (.tup (List.replicate i.toNat xs).flatten)) := Ex.new (hS.freeF hp)
          exact k _ _ _ C _ e (hS.newF hp _) (.tup upd_same ((g2.times _).mono e)) h4
  · exact h.elim
/-! ### tuple.count(text) -/
def eStr (z : Str) : D → Bool | .str s => decide (s = z) | _ => false
def vStr (z : Str) : Value → Bool | .str s _ => decide (s = z) | _ => false
def rCntT (K : PySem.W.Frag) : V → List V → Hp → VK → Prop := fun x vs H Q => ∃ F ds z, Ex F H ∧ Rep K F x (.tup ds) ∧ vs = [.str z] ∧ (∀ d ∈ ds, EqD 20 d (.str z) (eStr z d)) ∧ Q (.int (ds.countP (eStr z) : Nat)) H
theorem cnt_vals {F : Hp} {z : Str} : ∀ {ds : List D} {vs : List V} {us : List Value}, RepL X.K F vs ds → L2.Vals vs us → us.countP (vStr z) = ds.countP (eStr z) ∧ ∀ u ∈ us, ∃ v d, v ∈ vs ∧ d ∈ ds ∧ Rep X.K F v d ∧ L2.RelV v u ∧ vStr z u = eStr z d
  | _, _, _, .nil, .nil => ⟨rfl, fun u hu => by cases hu⟩
  | d :: ds, v :: vs, u :: us, .cons r rs, .cons q qs => by
    obtain ⟨h1, h2⟩ := cnt_vals (z := z) rs qs
    have h3 : vStr z u = eStr z d := by
      cases r with
      | str x => obtain ⟨t, rfl⟩ := q; rfl
      | int x => obtain ⟨t, rfl⟩ := q; rfl
      | non => cases q; rfl
      | bl => cases q; rfl
      | _ => cases q; rfl
    refine ⟨by rw [List.countP_cons, List.countP_cons, h1, h3], fun w hw => ?_⟩
    rcases List.mem_cons.mp hw with e | e
    · subst e
      exact ⟨v, d, List.mem_cons_self, List.mem_cons_self, r, q, h3⟩
    · obtain ⟨v', d', a, b, c⟩ := h2 w e
      exact ⟨v', d', List.mem_cons_of_mem _ a, List.mem_cons_of_mem _ b, c⟩
theorem mt_cntT (hu : X.A.units + 64 < cLine) : MtR X "tuple.count" (rCntT X.K) := by
  intro pins s σ H x vs v us Q I rx rv h
  obtain ⟨F, ds, z, eF, r, rfl, he, q⟩ := h
  obtain ⟨u, rfl, ru⟩ := rv.one
  cases r with
  | @tup a xs _ g1 g2 =>
    cases rx
    obtain ⟨its, r2, ht⟩ := tup_is I eF g1
    obtain ⟨⟨cls, dd, data, sl⟩, ho, hc, n, hd⟩ := ht
    simp only at hc hd
    subst hc hd
    obtain ⟨c1, c2⟩ := cnt_vals (z := z) g2 r2
    refine call_meets PySem.F.slot_tuple_count ⟨_, ho, rfl⟩ PySem.F.entry_tuple_count (PySem.F.args_tuple_count_2 _ _) (SeqAt.tuple_countAt a its.toArray n dd sl u (vStr z)) ⟨ho, fun y hy => ?_, ?_⟩
    · obtain ⟨v', d', _, hd', rr, rl, e⟩ := c2 y (by simpa using hy)
      rw [e]
      exact eqD_at I eF (he d' hd') X.A.in1 (by show X.A.units + 1 + _ < cLine; omega) v' (.str z) y u rr (.str z) rl ru
    · rw [List.toList_toArray, c1]
      exact ⟨.int _, H, I.tok _, ⟨_, rfl⟩, q⟩
def aCountT : D → ASp := fun x ds C P => match x, ds with
  | .tup us, [.str z] => (∀ d ∈ us, EqD 20 d (.str z) (eStr z d)) ∧ P (.int (us.countP (eStr z) : Nat)) C
  | _, _ => False
theorem am_countT (hu : X.A.units + 64 < cLine) (hK : X.K = K := by rfl) : AMt B X "tuple.count" (rCntT K) aCountT := by
  subst hK
  exact ⟨mt_cntT hu, by
  intro v d vs ds F C R H Q P hS r1 r2 h k
  unfold aCountT at h
  split at h
  · cases r2 with
    | cons r2 r3 =>
      cases r3
      cases r2
      exact ⟨F, _, _, hS.ex, r1, rfl, h.1, k _ _ F C H (Ex.refl F) hS (.int _) h.2⟩
  · exact h.elim⟩
end
end AL
namespace AL
open PySem PySem.Spec PyProof.Rows L2
variable {B : Bs}
/-! ### xs.index(x), numbers -/
def aLindex : D → ASp := fun x ds C P => match ds with
  | [.int i] => ∃ (es : List D) (ks : List Int), asLr C x = some es ∧ es = ks.map D.int ∧ i ∈ ks ∧ ∀ j : Nat, ks[j]? = some i → P (.int j) C
  | _ => False
theorem first_at {i : Int} : ∀ {ks : List Int}, i ∈ ks → ∃ j : Nat, ks[j]? = some i ∧ ∀ m, m < j → ∀ k, ks[m]? = some k → k ≠ i
  | k :: ks, h => by
    by_cases e : k = i
    · exact ⟨0, by rw [e]; rfl, fun m hm => absurd hm (Nat.not_lt_zero _)⟩
    · rcases List.mem_cons.mp h with h | h
      · exact absurd h.symm e
      · obtain ⟨j, h1, h2⟩ := first_at h
        refine ⟨j + 1, by simpa using h1, fun m hm k' hk => ?_⟩
        cases m with
        | zero => simp at hk; rw [← hk]; exact e
        | succ m => exact h2 m (by omega) k' (by simpa using hk)
theorem am_lindex {X : Cx} {K : PySem.W.Frag} (hK : X.K = K := by rfl) : AMt B X "list.index" (rIndex K) aLindex := by
  subst hK
  exact ⟨mt_index, by
  intro v d vs ds F C R H Q P hS r1 r2 h k
  unfold aLindex at h
  split at h
  · cases r2 with
    | cons r2 r3 =>
      cases r3
      cases r2
      rename_i i
      obtain ⟨es, ks, h1, h2, h3, h4⟩ := h
      subst h2
      obtain ⟨a, xs, rfl, g1, g2⟩ := asLr_ok hS r1 h1
      rw [g2.ofInts] at g1
      obtain ⟨j, j1, j2⟩ := first_at h3
      refine ⟨a, _, .int i, j, .int i, rfl, rfl, g1, rfl, List.all_eq_true.mpr fun x hx => by obtain ⟨n, _, rfl⟩ := List.mem_map.mp hx; rfl, by rw [List.getElem?_map, j1]; rfl, by show ((i : Int) == i) = true; simp, fun m z' hm hz => ?_, k _ _ F C H (Ex.refl F) hS (.int _) (h4 j j1)⟩
      rw [List.getElem?_map] at hz
      cases e : ks[m]? with
      | none => rw [e] at hz; cases hz
      | some n =>
        rw [e] at hz
        cases hz
        have := j2 m hm n e
        show ((n : Int) == i) = false
        simpa using this
  · exact h.elim⟩
end AL

namespace AL
open PySem PySem.Spec PyProof.Rows L2
open PyProof.Rows (envOfC)
variable {B : Bs}
/-! ### exceptions: own classes by their names, no field of theirs is looked at -/
/-- what is asked where a class's exception flies out, the slots and the cells as they are then -/
abbrev AX' := ASt → Str → AH → Prop
abbrev ASpX := List D → AH → (D → AH → Prop) → (Str → AH → Prop) → Prop
theorem Sat.at0 {K : PySem.W.Frag} {F : Hp} {C : AH} {R H : Hp} (S : Sat B K F C R H) : Sat B K F C B.R0 H := ⟨S.bF, Ex.refl _, S.ex, S.cell, fun p o e => S.priv p o (S.bR p o e)⟩
def WR (B : Bs) (K : PySem.W.Frag) (mg : Str → Option Value) (W : AX') (Wk : WX) : Prop :=
  ∀ nm cls s σ F C H, mg nm = some cls → Slo K F s σ → Sat B K F C B.R0 H → W s nm C → Wk cls none σ H
/-- facts of an own exception class without own __init__ over ValueError -/
def ExcF (K : PySem.W.Frag) (mg : Str → Option Value) (x : Str) : Prop :=
  ∃ C, mg x = some (.ref C) ∧ PySem.W.excIn K C [.type "ValueError", .type "Exception", .type "BaseException", .type "object"] "ValueError.__new__" = true ∧ PySem.W.keepIn K (.ref C) = true ∧ PySem.W.subIn K (.ref C) (.type "BaseException") = some true ∧ PySem.W.typeIn K (.ref C) = some (.type "type")
/-! #### raise X('..') -/
def aRaise (W : AX') (nm : Str) : AS' := fun _ s C => W s nm C
def tRaise (mg : Str → Option Value) (nm : Str) (Wk : WX) : TS := fun _ σ H => ∃ C, mg nm = some (.ref C) ∧ Wk (.ref C) none σ H
section
variable {X : Cx} {K : PySem.W.Frag} {W : AX'} {Wk : WX} {x m : Str} {j : Nat} {p p2 p3 pos : Pos}
theorem as_raise {mg : Str → Option Value} (f : ExcF K mg x) (tk : Takes X Wk) (rel : WR B K mg W Wk) (hc : X.calm = true := by rfl) (hg : Gl X x := by rfl) (hdb : (x == ("__debug__" : Str)) = false := by decide) (hK : X.K = K := by rfl) (hmg : X.mg = mg := by rfl) :
    AS B X (.Raise (some (.Call (.Name x p) [.Constant (.str m) j p2] [] p3)) none pos) (tRaise mg x Wk) (aRaise W x) := by
  subst hK hmg
  obtain ⟨C, gC, xC, kC, bC, tC⟩ := f
  have h := ps_raise (pos := pos) hc tk (pmk_own (m := m) (j := j) (p := p) (p2 := p2) (pos := p3) PySem.F.excBase_ValueError xC gC kC (raises_own bC tC) hg hdb)
  refine ⟨⟨fun pins s σ H D I hh => h.run pins s σ H D I ?_⟩, fun D' E σ s F C' R H hE hs hS h0 => ?_⟩
  · obtain ⟨C2, g2, w⟩ := hh
    rw [gC] at g2
    cases g2
    exact w
  · exact ⟨C, gC, rel x _ s σ F C' H gC hs hS.at0 h0⟩
/-! #### a call that may let an exception out -/
def spOfX (g : Gd) (K : PySem.W.Frag) (n : Nat) (asp : ASpX) : Sp := fun vs H Q E => vs.length = n ∧ ∃ F C R ds P PX, Sat (Bs.nil g) K F C R H ∧ RepL K F vs ds ∧ asp ds C P PX ∧ (∀ d v F' C' H', Ex F F' → Sat (Bs.nil g) K F' C' R H' → Rep K F' v d → P d C' → Q v H') ∧
  ∀ nm cls F' C' H', g.mg nm = some cls → Ex F F' → Sat (Bs.nil g) K F' C' R H' → PX nm C' → E cls none H'
structure CalX (P : Program) (w : World) (K : PySem.W.Frag) (mg : Str → Option Value) (base : Heap) (k : Nat) (x : Str) (n : Nat) (asp : ASpX) : Prop where
  ex : ∃ (f : Addr) (fd : FuncData) (ps : List Str), FnG P w K mg base k f fd ps (spOfX ⟨w, mg⟩ K n asp) ∧ mg x = some (.ref f) ∧ PySem.W.keepIn K (.ref f) = true ∧ Binds K fd ps []
def aCallX (W : AX') (asp : ASpX) (a : AA') : AE' := fun s C P => a s C fun ds C1 => asp ds C1 P (W s)
theorem sim_callX {g : Gd} (hw : B.g = g) {n : Nat} {asp : ASpX} {ta : TA} {a : AA'} (rel : WR B K g.mg W Wk) (ha : SimA B K n ta a) : SimE B K (tCallS (spOfX g K n asp) (WE Wk) ta) (aCallX W asp a) := by
  subst hw
  intro σ s F C R H Q P hs hS h k
  refine ha σ s F C R H _ _ hs hS h fun ds vs F1 C1 H1 e1 S1 r1 hl h1 => ?_
  exact ⟨by rw [r1.length, hl], F1, C1, R, ds, P, W s, S1.nil, r1, h1, fun d v F2 C2 H2 e2 S2 r2 h2 => k d v F2 C2 H2 (e1.trans e2) (S1.back e2 S2) r2 h2,
    fun nm cls F2 C2 H2 hm e2 S2 h2 => rel nm cls s σ F2 C2 H2 hm (hs.mono (e1.trans e2)) (S1.back e2 S2).at0 h2⟩
variable {e : Expr} {es : List Expr} {n : Nat} {t : TA} {a : AA'} {asp : ASpX} {k i : Nat}
theorem ae_callX {g : Gd} (c : CalX X.prog X.w K X.mg X.base k x n asp) (hr : Room i X.A) (hgd : X.A.guards = some []) (tk : Takes X Wk) (rel : WR B K g.mg W Wk) (ha : AA B X (e :: es) n t a) (hw : B.g = g := by first | rfl | assumption) (hX : (⟨X.w, X.mg⟩ : Gd) = g := by rfl) (hk : k ≤ i := by decide) (hg : Gl X x := by rfl)
    (hdb : (x == ("__debug__" : Str)) = false := by decide) (he : starEach (e :: es) X.env = (false, eval e X.env) :: starEach es X.env := by rfl) (hpl : (backTo pos (starEach es X.env)).any (·.1) = false := by rfl) (hK : X.K = K := by rfl) :
    AE B X (.Call (.Name x p) (e :: es) [] pos) (tCallS (spOfX g K n asp) (WE Wk) t) (aCallX W asp a) := by
  subst hK
  exact ⟨by
  obtain ⟨f, fd, ps, F, hm, kp, b⟩ := c.ex
  rw [← hX]
  exact pe_callG F (hr.mono hk) hgd hg hm kp b (fun σ => passAt tk σ) ha.pa hdb he hpl, sim_callX hw rel ha.sim⟩
end
/-! #### a def that may let an exception out -/
def aBodyX (n : Nat) (b : AX' → AS') : ASpX := fun ds C P PX => b (fun _ nm C' => PX nm C') ⟨fun _ C' => P .non C', P, fun _ _ => False, fun _ _ => False⟩ (ds.map some ++ List.replicate (n - ds.length) none) C
theorem calX {P : Program} {w : World} {K : PySem.W.Frag} {mg : Str → Option Value} {base : Heap} {x y qual : Str} {st : Stmt} {f : Addr} {fd : FuncData} {N ps : List Str} {k n : Nat} {b : AX' → AS'} {asp : ASpX} (F : L2.Fun K x qual st f fd) (S : FnScope N ps (defScope st)) (hn : ps.length = n) (hm : mg y = some (.ref f)) (hb : Binds K fd ps [])
    (hbody : ∀ (B : Bs) (hw : B.g = ⟨w, mg⟩) (W : AX') (Wk : WX) (cdv : Value) (A : Around) (outer : List Env) (s : Shared) (H : Hp) (E : XK), Room k (A.deeper (envOfC qual (defScope st) s.heap.objs.size f cdv)) → A.guards = some [] →
      Takes (cxOf (L2.CX P w) P w K mg base N qual (defScope st) f cdv A outer s H E) Wk → WR B K mg W Wk →
      PassesOwn (model P w) (cxOf (L2.CX P w) P w K mg base N qual (defScope st) f cdv A outer s H E).A (cxOf (L2.CX P w) P w K mg base N qual (defScope st) f cdv A outer s H E).env (cxOf (L2.CX P w) P w K mg base N qual (defScope st) f cdv A outer s H E).xe →
      ∃ ts, ASs B (cxOf (L2.CX P w) P w K mg base N qual (defScope st) f cdv A outer s H E) (defBody st) ts (b W))
    (h : ∀ ds C P PX, ds.length = n → asp ds C P PX → aBodyX N.length b ds C P PX) : CalX P w K mg base (k + 1) y n asp := by
  subst hn
  refine ⟨f, fd, ps, fnG_of F S (fun vs H Q E z => z.1) (fun cdv A outer s H vs Q E hr hg z => ?_), hm, F.kp, hb⟩
  obtain ⟨hl, F1, C, R, ds, P1, PX, hS, hR, ha, hk, hx⟩ := z
  obtain ⟨ts, hps⟩ := hbody ⟨F1, R, ⟨w, mg⟩⟩ rfl (fun _ nm C' => PX nm C') (fun cls d _ H' => E cls d H') cdv A outer s H E hr hg (takes_of rfl rfl rfl rfl)
    (fun nm cls s2 σ2 F2 C2 H2 hm2 hs2 S2 h2 => hx nm cls F2 C2 H2 hm2 S2.bF S2.nil h2) (passes_of rfl)
  refine ⟨ts, hps.ps, ?_⟩
  have hb2 := h ds C P1 PX (by rw [← hR.length, hl]) ha
  refine hps.sim { nx := fun _ H' => Q .non H', rt := Q } ⟨fun _ C' => P1 .non C', P1, fun _ _ => False, fun _ _ => False⟩ _ _ F1 C R H ⟨fun s σ F' C' H' e _ S h => ?_, fun d v F' C' H' e r S h => ?_, fun _ _ _ _ _ _ _ _ h => h.elim, fun _ _ _ _ _ _ _ _ h => h.elim⟩ (Slo.start hR N.length) (hS.rebase rfl (Ex.refl _) (Ex.refl _)) hb2
  · exact hk .non .non F' C' H' e S.nil .non h
  · exact hk d v F' C' H' e S.nil r h
/-! #### try: .. except X: .. -/
def aHand (sub : Str → Str → Option Bool) (Wout : AX') (E : AEnds) : List (Str × AS') → AX'
  | [] => Wout
  | (c, h) :: r => fun s nm C => match sub nm c with | some true => h E s C | some false => aHand sub Wout E r s nm C | none => False
def aTry (sub : Str → Str → Option Bool) (body : AX' → AS') (hds : List (Str × AS')) (Wout : AX') : AS' := fun E s C => body (aHand sub Wout E hds) E s C
/-- what is known of which class is below which -/
def SubF (K : PySem.W.Frag) (mg : Str → Option Value) (sub : Str → Str → Option Bool) : Prop := ∀ nm c b cls cc, sub nm c = some b → mg nm = some cls → mg c = some cc → PySem.W.exmOne K cls cc = some b
inductive AHds (X : Cx) : List ExceptHandler → List (Value × (Addr → Value → Option Addr → TS)) → List (Str × AS') → Prop
  | nil : AHds X [] [] []
  | cons {x : Str} {c : Value} {ts : TS} {ha : AS'} {b₀ : Stmt} {suite : List Stmt} {np pos' : Pos} {hds : List ExceptHandler} {l : List (Value × (Addr → Value → Option Addr → TS))} {la : List (Str × AS')} (hm : X.mg x = some c) (hg : Gl X x) (hdb : (x == ("__debug__" : Str)) = false)
      (hsu : ∀ (B : Bs) (hw : B.g = ⟨X.w, X.mg⟩) (a : Addr) (oe : Obj) (pn : List (Addr × Obj)), ASs B (X.suite a ((a, oe) :: pn)) (b₀ :: suite) ts ha) (r : AHds X hds l la) :
      AHds X (.ExceptHandler (some (.Name x np)) none (b₀ :: suite) pos' :: hds) ((c, fun _ _ _ => ts) :: l) ((x, ha) :: la)
section
variable {X : Cx} {body : List Stmt} {h₀ : ExceptHandler} {hds : List ExceptHandler} {l : List (Value × (Addr → Value → Option Addr → TS))} {la : List (Str × AS')} {pos : Pos} {tb : WX → TS} {W : AX'} {Wk : WX} {ab : AX' → AS'} {sub : Str → Str → Option Bool}
theorem AHds.ok {hds : List ExceptHandler} (h : AHds X hds l la) : HdsOk X hds l := by
  induction h with
  | nil => exact .nil
  | cons hm hg hdb hsu r ih => exact .cons ⟨hg, hdb, .inl hm⟩ (fun a oe cls d pn _ _ => (hsu (Bs.nil ⟨X.w, X.mg⟩) rfl a oe pn).ps) ih
theorem takes_any (hs : X.stack = X.env :: X.outer) (hf : X.env.frame = some X.env.locals) (pn : List (Addr × Obj)) : Takes (X.tr pn fun e s₁ => wpAny (model X.prog X.w) X.A (noteFrame e X.env) (fun _ _ => True) (fun _ _ => True) s₁) Wk := by
  intro u s' xx
  obtain ⟨a, B, sI, pins', σ', H', cls, d, rfl, J', nb, up, sky, na, os, ag, w⟩ := xx
  have hfr : X.A.frames = some (X.env :: X.outer) := by
    have := J'.ok.frames
    rw [show (X.tr pn fun e s₁ => wpAny (model X.prog X.w) X.A (noteFrame e X.env) (fun _ _ => True) (fun _ _ => True) s₁).stack = X.stack from rfl, hs] at this
    exact this
  have sky' : Sky B (X.env :: X.outer) a (Zc cls d) X.env.locals s'.heap := by rw [← hs]; exact sky
  exact wpAny_mono (Sky.land (Q := fun _ _ => True) (E₁ := fun _ _ => True) Zc.steady hfr hf sky' fun _ _ _ => trivial) (fun _ _ _ => trivial) (fun _ _ _ => trivial)
theorem hand_ok (hw : B.g = ⟨X.w, X.mg⟩) {F R : Hp} {E : AEnds} {D' : Ends} {hds : List ExceptHandler} (h : AHds X hds l la) (rel : WR B X.K X.mg W Wk) (sf : SubF X.K X.mg sub) (hbF : Ex B.F0 F) (hbR : Ex B.R0 R) (hE : EndsR B X.K F R E D') :
    WR ⟨F, R, B.g⟩ X.K X.mg (aHand sub W E la) (wMany X.K Wk D' l) := by
  induction h with
  | nil => exact fun nm cls s σ F' C' H' hm hs S h => rel nm cls s σ F' C' H' hm hs (S.rebase (B' := B) rfl (hbF.trans S.bF) hbR).at0 h
  | @cons x c ts ha b₀ suite np pos' hds l la hmx hg hdb hsu r ih =>
    intro nm cls s σ F' C' H' hm hs S h
    unfold aHand at h
    split at h
    · rename_i e
      refine ⟨true, sf nm x true cls c e hm hmx, fun _ a _ => ?_, fun q => nomatch q⟩
      exact (hsu B hw a { cls := cls, dict := none, data := .fields #[] } []).sim D' E σ s F' C' R H' (hE.mono S.bF) hs (S.rebase rfl (hbF.trans S.bF) hbR) h
    · rename_i e
      exact ⟨false, sf nm x false cls c e hm hmx, (fun q => by cases q), fun _ => ih nm cls s σ F' C' H' hm hs S h⟩
    · exact h.elim
theorem EndsR.ground {K : PySem.W.Frag} {F R : Hp} {E : AEnds} {D' : Ends} (hE : EndsR B K F R E D') (hbF : Ex B.F0 F) (hbR : Ex B.R0 R) : EndsR ⟨F, R, B.g⟩ K F R E D' :=
  ⟨fun s σ F' C' H' e hs S h => hE.nx s σ F' C' H' e hs (S.rebase rfl (hbF.trans e) hbR) h, fun d v F' C' H' e r S h => hE.rt d v F' C' H' e r (S.rebase rfl (hbF.trans e) hbR) h,
    fun s σ F' C' H' e hs S h => hE.bk s σ F' C' H' e hs (S.rebase rfl (hbF.trans e) hbR) h, fun s σ F' C' H' e hs S h => hE.ct s σ F' C' H' e hs (S.rebase rfl (hbF.trans e) hbR) h⟩
theorem as_try (hs : X.stack = X.env :: X.outer) (hf : X.env.frame = some X.env.locals) (tk : Takes X Wk) (rel : WR B X.K X.mg W Wk) (sf : SubF X.K X.mg sub) (hw : B.g = ⟨X.w, X.mg⟩)
    (hb : ∀ (B' : Bs) (hw : B'.g = ⟨X.w, X.mg⟩) (W' : AX') (Wk' : WX) (pn : List (Addr × Obj)) (xe : Value → Shared → Prop), Takes (X.tr pn xe) Wk' → WR B' X.K X.mg W' Wk' → PassesOwn (model X.prog X.w) X.A X.env xe → ASs B' (X.tr pn xe) body (tb Wk') (ab W'))
    (hh : AHds X (h₀ :: hds) l la) : AS B X (.Try body (h₀ :: hds) [] [] pos) (fun D σ H => tb (wMany X.K Wk D l) D σ H) (aTry sub ab la W) := by
  refine ⟨ps_try_many hs hf tk (fun Wk' pn xe tk' hp => (hb (Bs.nil ⟨X.w, X.mg⟩) rfl (fun _ _ _ => False) Wk' pn xe tk' (fun _ _ _ _ _ _ _ _ _ _ h => h.elim) hp).ps) hh.ok, fun D' E σ s F C R H hE hs' hS h => ?_⟩
  exact (hb ⟨F, R, B.g⟩ hw (aHand sub W E la) (wMany X.K Wk D' l) [] _ (takes_any hs hf []) (hand_ok hw hh rel sf hS.bF hS.bR hE) PassesOwn.looking).sim D' E σ s F C R H (hE.ground hS.bF hS.bR) hs' (hS.rebase rfl (Ex.refl _) (Ex.refl _)) h
/-- a def that lets nothing out, from one whose walk tells so -/
theorem AE.nox {e : Expr} {t : TE} {a : AE'} (h : AE B X.nox e t a) : AE B X e t a := ⟨h.pe.nox, h.sim⟩
theorem ASs.nox {st : List Stmt} {t : TS} {a : AS'} (h : ASs B X.nox st t a) : ASs B X st t a := ⟨h.ps.nox, h.sim⟩
theorem PS.nox {st : Stmt} {t : TS} (h : PS X.nox st t) : PS X st t := ⟨fun pins s σ H D I hw =>
  wpAny_mono (h.run pins s σ H D (I.wish _) hw) (fun _ _ q => q.unwish) fun _ _ z => False.elim z⟩
theorem AS.nox {st : Stmt} {t : TS} {a : AS'} (h : AS B X.nox st t a) : AS B X st t a := ⟨PS.nox h.ps, h.sim⟩
theorem AT.nox {e : Expr} {t : TT} {a : AT'} (h : AT B X.nox e t a) : AT B X e t a := ⟨h.pt.nox, h.sim⟩
theorem takes_no : Takes X fun _ _ _ _ => False := fun u s' x => by
  obtain ⟨_, _, _, _, _, _, _, _, _, _, _, _, _, _, _, _, w⟩ := x
  exact w.elim
theorem wr_no {K : PySem.W.Frag} {mg : Str → Option Value} : WR B K mg (fun _ _ _ => False) fun _ _ _ _ => False := fun _ _ _ _ _ _ _ _ _ _ h => h
end
/-- which class is below which, by a list -/
def subL (l : List (Str × Str × Bool)) : Str → Str → Option Bool := fun nm c => match l with
  | [] => none
  | (a, b, r) :: l => if nm = a ∧ c = b then some r else subL l nm c
theorem subF_nil {K : PySem.W.Frag} {mg : Str → Option Value} : SubF K mg (subL []) := fun _ _ _ _ _ h => by cases h
theorem subF_cons {K : PySem.W.Frag} {mg : Str → Option Value} {a b : Str} {r : Bool} {l : List (Str × Str × Bool)} {C1 C2 : Value} (h1 : mg a = some C1) (h2 : mg b = some C2) (h : PySem.W.exmOne K C1 C2 = some r) (t : SubF K mg (subL l)) : SubF K mg (subL ((a, b, r) :: l)) := by
  intro nm c q cls cc e m1 m2
  unfold subL at e
  split at e
  · rename_i z
    obtain ⟨rfl, rfl⟩ := z
    rw [h1] at m1; rw [h2] at m2
    cases m1; cases m2; cases e
    exact h
  · exact t nm c q cls cc e m1 m2
theorem exm_of {K : PySem.W.Frag} {S T : Addr} {r : Bool} (h1 : PySem.W.subIn K (.ref T) (.type "BaseException") = some true) (h2 : PySem.W.isClsIn K T = true) (h3 : PySem.W.typeIn K (.ref T) = some (.type "type")) (h4 : PySem.W.subIn K (.ref S) (.ref T) = some r) :
    PySem.W.exmOne K (.ref S) (.ref T) = some r := by
  have e1 : (PySem.W.subIn K (.ref T) (.type "BaseException") == some true) = true := by rw [h1] <;> rfl
  have e2 : ((PySem.W.clsIn K T).isSome && PySem.W.typeIn K (.ref T) == some (.type "type")) = true := by
    have h2' : (PySem.W.clsIn K T).isSome = true := h2
    rw [h2', h3] <;> rfl
  show (if (PySem.W.subIn K (.ref T) (.type "BaseException") == some true) = true then (if ((PySem.W.clsIn K T).isSome && PySem.W.typeIn K (.ref T) == some (.type "type")) = true then PySem.W.subIn K (.ref S) (.ref T) else none) else none) = some r
  rw [if_pos e1, if_pos e2]
  exact h4
section
variable {C : AH} {P : D → AH → Prop} {PX : Str → AH → Prop} {W : AX'} {E : AEnds} {s : ASt}
theorem g_bodyX {n : Nat} {b : AX' → AS'} {ds : List D} {s : ASt} (h0 : ds.map some ++ List.replicate (n - ds.length) none = s) (h : b (fun _ nm C' => PX nm C') ⟨fun _ C' => P .non C', P, fun _ _ => False, fun _ _ => False⟩ s C) : aBodyX n b ds C P PX := by
  subst h0
  exact h
theorem g_callX {asp : ASpX} {a : AA'} (h : a s C fun ds C1 => asp ds C1 P (W s)) : aCallX W asp a s C P := h
theorem g_raise {nm : Str} (h : W s nm C) : aRaise W nm E s C := h
theorem g_try {sub : Str → Str → Option Bool} {body : AX' → AS'} {hds : List (Str × AS')} (h : body (aHand sub W E hds) E s C) : aTry sub body hds W E s C := h
theorem g_handT {sub : Str → Str → Option Bool} {c nm : Str} {ha : AS'} {r : List (Str × AS')} (e : sub nm c = some true) (h : ha E s C) : aHand sub W E ((c, ha) :: r) s nm C := by
  unfold aHand
  rw [e]
  exact h
theorem g_handF {sub : Str → Str → Option Bool} {c nm : Str} {ha : AS'} {r : List (Str × AS')} (e : sub nm c = some false) (h : aHand sub W E r s nm C) : aHand sub W E ((c, ha) :: r) s nm C := by
  unfold aHand
  rw [e]
  exact h
end
end AL

namespace AL
open PySem PySem.Spec PyProof.Rows L2
variable {B : Bs}
/-! ### (number, list of numbers) < (number, list of numbers) -/
section
variable {X : Cx} {K : PySem.W.Frag}
def rLtP (K : PySem.W.Frag) : R2 := fun x y H Q => ∃ (F : Hp) (i : Int) (ns : List Int) (j : Int) (ms : List Int), Ex F H ∧ Rep K F x (.tup [.int i, .lst (ns.map D.int)]) ∧ Rep K F y (.tup [.int j, .lst (ms.map D.int)]) ∧ Q (.bl (PySem.W.DatumOrd.lt (i, ns) (j, ms))) H
theorem holds_rep {pins : List (Addr × Obj)} {σ : L2.St} {H F : Hp} {s : Shared} (I : Inv X pins σ H s) (eF : Ex F H) {x : V} {v : Value} {i : Int} {ns : List Int} (r : Rep X.K F x (.tup [.int i, .lst (ns.map D.int)])) (rx : RelV x v) :
    PySem.W.Holds s.heap v (i, ns) := by
  cases r with
  | @tup a xs _ g1 g2 =>
    cases rx
    obtain ⟨us, q, ht⟩ := tup_is I eF g1
    cases g2 with
    | cons r1 r2 =>
      cases r2 with
      | cons r2 r3 =>
        cases r3
        cases q with
        | cons q1 q2 =>
          cases q2 with
          | cons q2 q3 =>
            cases q3
            cases r1
            obtain ⟨t, rfl⟩ := q1
            cases r2 with
            | lst e1 e2 =>
              cases q2
              obtain ⟨ws, w1, w2⟩ := lst_is I eF e1
              have e3 := e2.ofInts
              subst e3
              exact PySem.W.holds_pair ht (PySem.W.holds_int i t) (PySem.W.holds_list w2 (by rw [List.toList_toArray]; exact holdAll_ints w1))
theorem op_ltP (hu : X.A.units + 64 < cLine) : OpR X (compareOp .Lt) (rLtP X.K) := by
  intro pins s σ H x y v u Q I rx ry h
  obtain ⟨F, i, ns, j, ms, eF, r1, r2, q⟩ := h
  refine PySem.W.lt_datum (α := Int × List Int) (holds_rep I eF r1 rx) (holds_rep I eF r2 ry) ?_ ⟨.bl _, H, I, rfl, q⟩
  show X.A.units + 2 < cLine
  omega
def aLtP : D → D → AH → (D → AH → Prop) → Prop := fun x y C P => ∃ (i : Int) (ns : List Int) (j : Int) (ms : List Int), x = .tup [.int i, .lst (ns.map D.int)] ∧ y = .tup [.int j, .lst (ms.map D.int)] ∧ P (.bl (if i = j then PySem.W.listLt ns ms else decide (i < j))) C
theorem ao_ltP (hu : X.A.units + 64 < cLine) (hK : X.K = K := by rfl) : AOp B X (compareOp .Lt) (rLtP K) aLtP := by
  subst hK
  refine ⟨op_ltP hu, ?_⟩
  intro v w d e F C R H Q P hS r1 r2 h k
  obtain ⟨i, ns, j, ms, rfl, rfl, h⟩ := h
  exact ⟨F, i, ns, j, ms, hS.ex, r1, r2, k _ _ F C H (Ex.refl F) hS (.bl _) h⟩
end
end AL

namespace AL
open PySem PySem.Spec PyProof.Rows L2
variable {B : Bs}
/-! ### d.get(k), d.get(k, x), {k: v}, keys ints and texts -/
section
variable {X : Cx} {pos cpos apos : Pos} {o i e : Expr} {to ti te : TE} {ao ai ae : AE'} {K : PySem.W.Frag}
def aGet1 (o i : AE') : AE' := fun s C P => o s C fun x C1 => (asK C1 x).isSome = true ∧ i s C1 fun y C2 => match asK C2 x, keyOf y with
  | some es, some k => P ((valD es k).getD .non) C2
  | _, _ => False
def aGet2 (o i e : AE') : AE' := fun s C P => o s C fun x C1 => (asK C1 x).isSome = true ∧ i s C1 fun y C2 => e s C2 fun z C3 => match asK C3 x, keyOf y with
  | some es, some k => P ((valD es k).getD z) C3
  | _, _ => False
theorem isD_ok {F : Hp} {C : AH} {R H : Hp} {v : V} {d : D} (hS : Sat B K F C R H) (r : Rep K F v d) (h : (asK C d).isSome = true) : ∃ a, v = .ref a ∧ IsD H a := by
  obtain ⟨es, h1⟩ := Option.isSome_iff_exists.mp h
  obtain ⟨a, kvs, rfl, g, _⟩ := asK_ok hS r h1
  exact ⟨a, rfl, .inl ⟨kvs, .inl g⟩⟩
theorem RepK.valO {F : Hp} {k : Key} {kvs : List (Key × V)} {es : List (Key × D)} (h : RepK K F kvs es) {z : V} {d : D} (r : Rep K F z d) : Rep K F ((valV kvs k).getD z) ((valD es k).getD d) := by
  have := RepK.val k h
  cases q : valD es k with
  | none => rw [q] at this; rw [show valV kvs k = none from this]; exact r
  | some d => rw [q] at this; obtain ⟨v, e, r2⟩ := this; rw [e]; exact r2
theorem sim_get1 (ho : SimE B K to ao) (hi : SimE B K ti ai) : SimE B K (tDGet1 to ti) (aGet1 ao ai) := by
  intro σ s F C R H Q P hs hS h k
  refine ho σ s F C R H _ _ hs hS h fun x v F1 C1 H1 e1 S1 r1 h1 => ?_
  obtain ⟨a, rfl, hd⟩ := isD_ok S1 r1 h1.1
  refine ⟨a, rfl, hd, ?_⟩
  refine hi σ s F1 C1 R H1 _ _ (hs.mono e1) S1 h1.2 fun y w F2 C2 H2 e2 S2 r2 h2 => ?_
  split at h2
  · rename_i es ky q1 q2
    obtain ⟨b, kvs, e3, h3, h4⟩ := asK_ok S2 (r1.mono e2) q1
    cases e3
    refine ⟨valV kvs ky, ?_, k _ _ F2 C2 H2 (e1.trans e2) S2 (h4.valO .non) h2⟩
    rw [keyOf_ok r2 q2]
    exact .k h3
  · exact h2.elim
theorem sim_get2 (ho : SimE B K to ao) (hi : SimE B K ti ai) (he : SimE B K te ae) : SimE B K (tDGet2 to ti te) (aGet2 ao ai ae) := by
  intro σ s F C R H Q P hs hS h k
  refine ho σ s F C R H _ _ hs hS h fun x v F1 C1 H1 e1 S1 r1 h1 => ?_
  obtain ⟨a, rfl, hd⟩ := isD_ok S1 r1 h1.1
  refine ⟨a, rfl, hd, ?_⟩
  refine hi σ s F1 C1 R H1 _ _ (hs.mono e1) S1 h1.2 fun y w F2 C2 H2 e2 S2 r2 h2 => ?_
  refine he σ s F2 C2 R H2 _ _ (hs.mono (e1.trans e2)) S2 h2 fun z u F3 C3 H3 e3 S3 r3 h3 => ?_
  split at h3
  · rename_i es ky q1 q2
    obtain ⟨b, kvs, e4, g3, g4⟩ := asK_ok S3 (r1.mono (e2.trans e3)) q1
    cases e4
    refine ⟨valV kvs ky, ?_, k _ _ F3 C3 H3 ((e1.trans e2).trans e3) S3 (g4.valO r3) h3⟩
    rw [keyOf_ok r2 q2]
    exact .k g3
  · exact h3.elim
theorem ae_get1 (hu : X.A.units + 1 < cLine) (ho : AE B X o to ao) (hi : AE B X i ti ai)
    (hbase : attributeBase o "get" X.env (eval o X.env) = eval o X.env := by rfl)
    (hfew : ((backTo cpos (starEach [i] X.env)).all (fun x => !x.1) && (backToKw cpos (keywordEach [] X.env)).all (fun x => x.1.isSome)
      && decide (([i] : List Expr).length + ([] : List Keyword).length + (if ([] : List Keyword).isEmpty then 0 else 1) < 30)) = true := by rfl)
    (hline : (apos.endLine == cpos.line) = true := by rfl) (ht : backTo cpos (starEach [i] X.env) = [(false, eval i X.env)] := by rfl) :
    AE B X (.Call (.Attribute o "get" apos) [i] [] cpos) (tDGet1 to ti) (aGet1 ao ai) := ⟨pe_dget1 hu ho.pe hi.pe ⟨hbase, hfew, hline, ht⟩, sim_get1 ho.sim hi.sim⟩
theorem ae_get2 (hu : X.A.units + 1 < cLine) (ho : AE B X o to ao) (hi : AE B X i ti ai) (he : AE B X e te ae)
    (hbase : attributeBase o "get" X.env (eval o X.env) = eval o X.env := by rfl)
    (hfew : ((backTo cpos (starEach [i, e] X.env)).all (fun x => !x.1) && (backToKw cpos (keywordEach [] X.env)).all (fun x => x.1.isSome)
      && decide (([i, e] : List Expr).length + ([] : List Keyword).length + (if ([] : List Keyword).isEmpty then 0 else 1) < 30)) = true := by rfl)
    (hline : (apos.endLine == cpos.line) = true := by rfl) (ht : backTo cpos (starEach [i, e] X.env) = [(false, eval i X.env), (false, eval e X.env)] := by rfl) :
    AE B X (.Call (.Attribute o "get" apos) [i, e] [] cpos) (tDGet2 to ti te) (aGet2 ao ai ae) := ⟨pe_dget2 hu ho.pe hi.pe he.pe ⟨hbase, hfew, hline, ht⟩, sim_get2 ho.sim hi.sim he.sim⟩
/-- {k: v}, k of any kind that may be -/
def aDispV (ak av : AE') : AE' := fun s C P => ak s C fun dk C1 => av s C1 fun dv C2 => match keyOf dk with
  | some k => ∀ p, C2 p = none → P (.ce p) (put C2 p (.dk [(k, dv)]))
  | none => False
theorem sim_dispV {tk tv : TE} {ak av : AE'} (h1 : SimE B K tk ak) (h2 : SimE B K tv av) : SimE B K (tDisp [(tk, tv)]) (aDispV ak av) := by
  intro σ s F C R H Q P hs hS h0 k p hp
  have hF := hS.freeF hp
  have hC := hS.freeC hp
  have hR := hS.freeR hp
  refine h1 σ s F C (upd R p (.dK [])) (upd H p (.dK [])) _ _ hs (hS.setR hF hC (hS.freeB hR) _) h0 fun d v F1 C1 H1 e1 S1 r1 g1 => ?_
  refine h2 σ s F1 C1 _ H1 _ _ (hs.mono e1) S1 g1 fun d2 v2 F2 C2 H2 e2 S2 r2 g2 => ?_
  split at g2
  · rename_i ky ek
    have hk := keyOf_ok r1 ek
    obtain ⟨f1, c1, q1⟩ := S2.priv p _ upd_same
    refine ⟨q1, [(ky, v2)], by rw [hk]; rfl, by simp, ?_⟩
    have S3 := (S2.outC hR (hS.freeB hR) (.dk .nil)).mutC put_same (.dk (kvs := [(ky, v2)]) (.cons r2 .nil))
    rw [put_put] at S3
    exact k _ _ F2 _ _ (e1.trans e2) S3 (.ce p) (g2 p c1)
  · exact g2.elim
theorem ae_dispV {k v : Expr} {tk tv : TE} {ak av : AE'} (h1 : AE B X k tk ak) (h2 : AE B X v tv av) : AE B X (.Dict [some k] [v] pos) (tDisp [(tk, tv)]) (aDispV ak av) :=
  ⟨pe_disp (pps_cons h1.pe h2.pe pps_nil) rfl rfl (by simp) (by simp), sim_dispV h1.sim h2.sim⟩
end
section
variable {C : AH} {P : D → AH → Prop} {s : ASt} {o i e : AE'}
def kGet1 (i : AE') (s : ASt) (P : D → AH → Prop) : D → AH → Prop := fun x C1 => (asK C1 x).isSome = true ∧ i s C1 fun y C2 => match asK C2 x, keyOf y with
  | some es, some k => P ((valD es k).getD .non) C2
  | _, _ => False
theorem g_get1 (h : o s C (kGet1 i s P)) : aGet1 o i s C P := h
def kGet1' (x : D) (P : D → AH → Prop) : D → AH → Prop := fun y C2 => match asK C2 x, keyOf y with
  | some es, some k => P ((valD es k).getD .non) C2
  | _, _ => False
theorem g_kGet1 {x : D} {es : List (Key × D)} (h1 : asK C x = some es) (h : i s C (kGet1' x P)) : kGet1 i s P x C := ⟨by rw [h1]; rfl, h⟩
theorem g_kGet1' {x y : D} {es : List (Key × D)} {k : Key} (h1 : asK C x = some es) (h2 : keyOf y = some k) (h : P ((valD es k).getD .non) C) : kGet1' x P y C := by
  unfold kGet1'
  rw [h1, h2]
  exact h
def kGet2 (i e : AE') (s : ASt) (P : D → AH → Prop) : D → AH → Prop := fun x C1 => (asK C1 x).isSome = true ∧ i s C1 fun y C2 => e s C2 fun z C3 => match asK C3 x, keyOf y with
  | some es, some k => P ((valD es k).getD z) C3
  | _, _ => False
theorem g_get2 (h : o s C (kGet2 i e s P)) : aGet2 o i e s C P := h
def kGet2' (x y : D) (P : D → AH → Prop) : D → AH → Prop := fun z C3 => match asK C3 x, keyOf y with
  | some es, some k => P ((valD es k).getD z) C3
  | _, _ => False
theorem g_kGet2 {x : D} {es : List (Key × D)} (h1 : asK C x = some es) (h : i s C fun y C2 => e s C2 (kGet2' x y P)) : kGet2 i e s P x C := ⟨by rw [h1]; rfl, h⟩
theorem g_kGet2' {x y z : D} {es : List (Key × D)} {k : Key} (h1 : asK C x = some es) (h2 : keyOf y = some k) (h : P ((valD es k).getD z) C) : kGet2' x y P z C := by
  unfold kGet2'
  rw [h1, h2]
  exact h
def kDispV (P : D → AH → Prop) (dk : D) : D → AH → Prop := fun dv C2 => match keyOf dk with
  | some k => ∀ p, C2 p = none → P (.ce p) (put C2 p (.dk [(k, dv)]))
  | none => False
theorem g_dispV {ak av : AE'} (h : ak s C fun dk C1 => av s C1 (kDispV P dk)) : aDispV ak av s C P := h
theorem g_kDispV {dk dv : D} {k : Key} (h1 : keyOf dk = some k) (h : ∀ p, C p = none → P (.ce p) (put C p (.dk [(k, dv)]))) : kDispV P dk dv C := by
  unfold kDispV
  rw [h1]
  exact h
theorem g_kDispVI {i : Int} {dv : D} (h : ∀ p, C p = none → P (.ce p) (put C p (.dk [(.inl i, dv)]))) : kDispV P (.int i) dv C := h
end
end AL

namespace AL
open PySem PySem.Spec PyProof.Rows L2
variable {B : Bs}
/-! ### dicts whose keys are tuples of anything that is a key; a look-up of None -/
section
variable {P : Program} {w : World} {H : Hp} {h : Heap}
mutual
theorem vkey_is (ok : HOk P w H h) : ∀ {v : V} {k : NestedKey} {u : Value}, VKey H v k → RelV v u → NestedIs h k u
  | _, _, _, .non, r => by cases r; exact .none
  | _, _, _, .bl b, r => by cases r; exact .bool rfl
  | _, _, _, .int i, r => by obtain ⟨t, rfl⟩ := r; exact .int i t
  | _, _, _, .str x, r => by obtain ⟨t, rfl⟩ := r; exact .text x t
  | .ref a, .tup ks, _, .tup (vs := vs) e q, r => by
    cases r
    obtain ⟨_, its, rv, o, h1, h2, n, h3⟩ := (show ObjOk P w H h a (.tup vs) from ok a _ e)
    exact .tup h1 h2 h3 (by rw [List.toList_toArray]; exact vkeys_are ok q rv)
theorem vkeys_are (ok : HOk P w H h) : ∀ {vs : List V} {ks : List NestedKey} {us : List Value}, VKeys H vs ks → Vals vs us → NestedAll h ks us
  | _, _, _, .nil, r => by cases r; exact .nil
  | _, _, _, .cons a b, r => by
    cases r with
    | cons r1 r2 => exact .cons (vkey_is ok a r1) (vkeys_are ok b r2)
end
end
abbrev KN : List (NestedKey × Addr × V) → List (NestedKey × Addr × Value) → Prop := Paired fun x y => x.1 = y.1 ∧ x.2.1 = y.2.1 ∧ RelV x.2.2 y.2.2
def valN {α : Type} (xs : List (NestedKey × Addr × α)) (k : NestedKey) : Option α := (xs.find? fun x => decide (x.1 = k)).map (·.2.2)
theorem valN_pos {α : Type} {x : NestedKey × Addr × α} {xs : List (NestedKey × Addr × α)} {k : NestedKey} (e : x.1 = k) : valN (x :: xs) k = some x.2.2 := by simp [valN, e]
theorem valN_neg {α : Type} {x : NestedKey × Addr × α} {xs : List (NestedKey × Addr × α)} {k : NestedKey} (e : ¬ x.1 = k) : valN (x :: xs) k = valN xs k := by simp [valN, e]
def putN (xs : List (NestedKey × Addr × V)) (k : NestedKey) (a : Addr) (v : V) : List (NestedKey × Addr × V) :=
  if (valN xs k).isSome = true then xs.map (fun x => if x.1 = k then (x.1, x.2.1, v) else x) else xs ++ [(k, a, v)]
theorem KN.val {xs : List (NestedKey × Addr × V)} {ys : List (NestedKey × Addr × Value)} (r : KN xs ys) (k : NestedKey) : RelO (valN xs k) ((atKey ys k).map (·.2)) := by
  induction r with
  | nil => exact True.intro
  | @cons p q ps qs h t ih =>
    obtain ⟨h1, _, h2⟩ := h
    by_cases e : p.1 = k
    · have e' : q.1 = k := h1.symm.trans e
      have b : atKey (q :: qs) k = some q.2 := by simp [atKey, List.find?_cons, e']
      rw [valN_pos e, b]; exact h2
    · have e' : ¬ q.1 = k := fun z => e (h1.trans z)
      have b : atKey (q :: qs) k = atKey qs k := by simp [atKey, List.find?_cons, e']
      rw [valN_neg e, b]; exact ih
theorem KN.put {xs : List (NestedKey × Addr × V)} {ys : List (NestedKey × Addr × Value)} (r : KN xs ys) (k : NestedKey) (b : Addr) {y : V} {u : Value} (ry : RelV y u) : KN (putN xs k b y) (storedH ys k b u) := by
  have e : (valN xs k).isSome = (atKey ys k).isSome := by rw [(r.val k).isSome_eq, Option.isSome_map]
  unfold putN storedH
  rw [e]
  by_cases q : (atKey ys k).isSome = true
  · rw [if_pos q, if_pos q]
    clear e q
    induction r with
    | nil => exact .nil
    | @cons p q ps qs h t ih =>
      rw [List.map_cons, List.map_cons]
      refine .cons ?_ ih
      obtain ⟨h1, h2, h3⟩ := h
      unfold putAt
      by_cases e : p.1 = k
      · rw [if_pos e, if_pos (h1.symm.trans e)]; exact ⟨h1, h2, ry⟩
      · rw [if_neg e, if_neg (fun z => e (h1.trans z))]; exact ⟨h1, h2, h3⟩
  · rw [if_neg q, if_neg q]; exact Paired.snoc r ⟨rfl, rfl, ry⟩
theorem putN_le (xs : List (NestedKey × Addr × V)) (k : NestedKey) (a : Addr) (v : V) : (putN xs k a v).length ≤ xs.length + 1 := by
  unfold putN
  split
  · rw [List.length_map]; omega
  · rw [List.length_append]; simp
/-- the keys of the entries stand -/
def KeysN (H : Hp) (xs : List (NestedKey × Addr × V)) : Prop := ∀ x ∈ xs, VKey H (.ref x.2.1) x.1 ∧ x.1.depth ≤ 8
theorem KeysN.put {H : Hp} {xs : List (NestedKey × Addr × V)} (r : KeysN H xs) {k : NestedKey} {a : Addr} {v : V} (hk : VKey H (.ref a) k) (hd : k.depth ≤ 8) : KeysN H (putN xs k a v) := by
  unfold putN
  intro x hx
  split at hx
  · obtain ⟨y, hy, rfl⟩ := List.mem_map.mp hx
    split
    · exact r y hy
    · exact r y hy
  · rcases List.mem_append.mp hx with q | q
    · exact r x q
    · rw [List.mem_singleton.mp q]; exact ⟨hk, hd⟩
theorem dn_of {P : Program} {w : World} {H : Hp} {h : Heap} {p : Addr} {xs : List (NestedKey × Addr × V)} (ok : HOk P w H h) (e : H p = some (.ext (DictN w p xs))) (hk : KeysN H xs) :
    xs.length ≤ sizeLine ∧ (p == sysModules) = false ∧ ∃ ys, KN xs ys ∧ h.DictOfH (nestedKind P w) p ys := by
  obtain ⟨⟨z, hd, ys, r, o, es, ep, h1, h2, h3, h4, h5⟩, _, _⟩ := (show ObjOk P w H h p (.ext (DictN w p xs)) from ok p _ e)
  refine ⟨z, hd, ys, r, o, es, ep, h1, h2, h3, h4, fun y hy => ?_, h5⟩
  have all : ∀ {l : List (NestedKey × Addr × V)} {m : List (NestedKey × Addr × Value)}, KN l m → KeysN H l → ∀ y ∈ m, (nestedKind P w).is h y.1 y.2.1 := by
    intro l m q
    induction q with
    | nil => intro _ y hy; exact nomatch hy
    | @cons p q ps qs hq t ih =>
      intro hl y hy
      rcases List.mem_cons.mp hy with e | hy
      · subst e
        obtain ⟨g1, g2⟩ := hl p List.mem_cons_self
        rw [hq.1, hq.2.1] at g1
        rw [hq.1] at g2
        exact ⟨vkey_is ok g1 rfl, g2⟩
      · exact ih (fun z hz => hl z (List.mem_cons_of_mem _ hz)) y hy
  exact all r hk y hy
theorem dn_obj {P : Program} {w : World} {H : Hp} {h : Heap} {p : Addr} {xs : List (NestedKey × Addr × V)} {ys : List (NestedKey × Addr × Value)} (z : xs.length ≤ sizeLine) (hd : (p == sysModules) = false) (r : KN xs ys) (dd : h.DictOfH (nestedKind P w) p ys) :
    ObjOk P w H h p (.ext (DictN w p xs)) := by
  obtain ⟨o, es, ep, h1, h2, h3, h4, _, h5⟩ := dd
  refine ⟨⟨z, hd, ys, r, o, es, ep, h1, h2, h3, h4, h5⟩, ⟨o, h1⟩, fun g1 g2 φ k => ?_⟩
  obtain ⟨z, hd, ys, r, o, es, ep, h1, h2, h3, h4, h5⟩ := φ
  exact ⟨z, hd, ys, r, o, es, ep, k o h1, h2, h3, h4, h5⟩
/-! #### None among ints and texts -/
def leafOf : Key → Leaf
  | .inl i => .num i
  | .inr x => .text x
theorem leaf_inj {a b : Key} (h : leafOf a = leafOf b) : a = b := by
  cases a <;> cases b <;> first | (cases h; rfl) | cases h
theorem leaf_is {k : Key} {v : Value} (h : keyIs k v = true) : Leaf.isOf (leafOf k) v = true := by
  rcases keyIs_shape h with ⟨i, t, rfl, rfl⟩ | ⟨x, t, rfl, rfl⟩
  · simp [leafOf, Leaf.isOf]
  · exact h
theorem leaf_dict {P : Program} {w : World} {h : Heap} {a : Addr} {vs : List (Key × Value)} (dd : h.DictOf (mixKind P w) a vs) : h.DictOf (leafKind P w) a (vs.map fun kv => (leafOf kv.1, kv.2)) := by
  obtain ⟨o, es, ep, h1, h2, h3, h4, h5, h6⟩ := dd
  have hh : ∀ k : Key, (leafKind P w).hash (leafOf k) = (mixKind P w).hash k := fun k => by cases k <;> rfl
  refine ⟨o, es, ep, h1, h2, h3, fun e he => ?_, ?_, ?_⟩
  · obtain ⟨k, e1, e2⟩ := h4 e he
    exact ⟨leafOf k, leaf_is e1, by rw [hh]; exact e2⟩
  · clear h6
    generalize es.toList = l at h5
    induction h5 with
    | nil => exact .nil
    | cons e1 e2 e3 ih => exact .cons (leaf_is e1) e2 ih
  · rw [List.map_map]
    have : (vs.map ((fun x => x.1) ∘ fun kv => (leafOf kv.1, kv.2))) = (vs.map (·.1)).map leafOf := by rw [List.map_map]; rfl
    rw [this]
    exact List.pairwise_map.mpr (h6.imp fun hne e => hne (leaf_inj e))
theorem leaf_none : ∀ vs : List (Key × Value), valueAt (vs.map fun kv => (leafOf kv.1, kv.2)) Leaf.none = none
  | [] => rfl
  | (k, v) :: vs => by
    have ih := leaf_none vs
    have : ¬ leafOf k = Leaf.none := by cases k <;> exact fun z => nomatch z
    simp only [valueAt, List.map_cons, List.find?_cons, decide_eq_false this] at ih ⊢
    exact ih
end AL

namespace AL
open PySem PySem.Spec PyProof.Rows L2
variable {B : Bs}
/-- what the dict at a holds at the key y -/
def DGetN (w : World) (H : Hp) (a : Addr) (y : V) (r : Option V) : Prop :=
  DGet H a y r ∨ (∃ kvs, Rd H a (.dK kvs) ∧ y = .non ∧ r = none) ∨ ∃ xs k b, H a = some (.ext (DictN w a xs)) ∧ KeysN H xs ∧ y = .ref b ∧ VKey H y k ∧ k.depth ≤ 8 ∧ r = valN xs k
def IsDN (w : World) (H : Hp) (a : Addr) : Prop := IsD H a ∨ ∃ xs, H a = some (.ext (DictN w a xs)) ∧ KeysN H xs
def DPutN (w : World) (H : Hp) (a : Addr) (y v : V) (H' : Hp) : Prop :=
  DPut H a y v H' ∨ ∃ xs k b, H a = some (.ext (DictN w a xs)) ∧ KeysN H xs ∧ y = .ref b ∧ VKey H y k ∧ k.depth ≤ 8 ∧ xs.length < sizeLine ∧ H' = upd H a (.ext (DictN w a (putN xs k b v)))
section
variable {X : Cx} {pins : List (Addr × Obj)} {σ : L2.St} {H : Hp} {s : Shared} {a : Addr} {y v d : V} {u r : Value} {o : Option V} {A : Around} {E : Value → Shared → Prop}
theorem nk_room (hu : A.units + 16 < cLine) : (nestedKind X.prog X.w).room A.in1 := by
  show A.in1.units + 8 < cLine
  rw [Around.in1_units]
  omega
theorem nk_is {k : NestedKey} {b : Addr} (I : Inv X pins σ H s) (h : VKey H (.ref b) k) (hd : k.depth ≤ 8) : (nestedKind X.prog X.w).is s.heap k b := ⟨vkey_is I.hok h rfl, hd⟩
theorem dN_getItem {Q : Value → Shared → Prop} (hu : A.units + 16 < cLine) (I : Inv X pins σ H s) (g : DGetN X.w H a y (some v)) (ry : RelV y u) (h : ∀ w' s', Inv X pins σ H s' → RelV v w' → Q w' s') :
    wpAny (model X.prog X.w) A (getItem (.ref a) u) Q E s := by
  rcases g with g | ⟨_, _, _, e⟩ | ⟨xs, k, b, e, hx, ey, hk, hd, er⟩
  · exact d_getItem (by omega) I g ry h
  · cases e
  · subst ey
    cases ry
    obtain ⟨_, _, ys, rel, dd⟩ := dn_of I.hok e hx
    obtain ⟨w', hw, rw'⟩ := RelO.some_of (v := v) (o := (atKey ys k).map (·.2)) (by rw [er]; exact rel.val k)
    obtain ⟨p, hp, hp2⟩ := Option.map_eq_some_iff.mp hw
    refine wpAny_getItem_heap (nk_room hu) (nk_is I hk hd) dd hp ?_
    rw [hp2]
    exact h w' _ (I.tok _) rw'
theorem dN_in {Q : Value → Shared → Prop} (hu : A.units + 16 < cLine) (I : Inv X pins σ H s) (g : DGetN X.w H a y o) (ry : RelV y u) (h : ∀ s', Inv X pins σ H s' → Q (.bool o.isSome) s') :
    wpAny (model X.prog X.w) A (compareOp .In u (.ref a)) Q E s := by
  rcases g with g | ⟨kvs, e, ey, eo⟩ | ⟨xs, k, b, e, hx, ey, hk, hd, er⟩
  · exact d_in (by omega) I g ry h
  · subst ey eo
    cases ry
    obtain ⟨z, hd, vs, rel, dd⟩ := dk_rd I.hok e
    refine wpAny_in_of (knd := leafKind X.prog X.w) (k := Leaf.none) rfl hd (leaf_dict dd).mapOf ?_
    rw [leaf_none]
    exact h _ (I.tok _)
  · subst ey
    cases ry
    obtain ⟨_, hs, ys, rel, dd⟩ := dn_of I.hok e hx
    refine wpAny_in_heap (nk_room hu) (nk_is I hk hd) hs dd ?_
    have q := (rel.val k).isSome_eq
    rw [Option.isSome_map] at q
    rw [← q, ← er]
    exact h _ (I.tok _)
theorem dN_notIn {Q : Value → Shared → Prop} (hu : A.units + 16 < cLine) (I : Inv X pins σ H s) (g : DGetN X.w H a y o) (ry : RelV y u) (h : ∀ s', Inv X pins σ H s' → Q (.bool (!o.isSome)) s') :
    wpAny (model X.prog X.w) A (compareOp .NotIn u (.ref a)) Q E s := by
  rcases g with g | ⟨kvs, e, ey, eo⟩ | ⟨xs, k, b, e, hx, ey, hk, hd, er⟩
  · exact d_notIn (by omega) I g ry h
  · subst ey eo
    cases ry
    obtain ⟨z, hd, vs, rel, dd⟩ := dk_rd I.hok e
    refine wpAny_notIn_of (knd := leafKind X.prog X.w) (k := Leaf.none) rfl hd (leaf_dict dd).mapOf ?_
    rw [leaf_none]
    exact h _ (I.tok _)
  · subst ey
    cases ry
    obtain ⟨_, hs, ys, rel, dd⟩ := dn_of I.hok e hx
    refine wpAny_notIn_heap (nk_room hu) (nk_is I hk hd) hs dd ?_
    have q := (rel.val k).isSome_eq
    rw [Option.isSome_map] at q
    rw [← q, ← er]
    exact h _ (I.tok _)
theorem dN_get1 {Q : Value → Shared → Prop} (hu : A.units + 16 < cLine) (I : Inv X pins σ H s) (g : DGetN X.w H a y o) (ry : RelV y u) (h : ∀ w' s', Inv X pins σ H s' → RelV (o.getD .non) w' → Q w' s') :
    wpAny (model X.prog X.w) A (call (.builtin "dict.get") [.ref a, u]) Q E s := by
  rcases g with g | ⟨kvs, e, ey, eo⟩ | ⟨xs, k, b, e, hx, ey, hk, hd, er⟩
  · exact d_get1 (by omega) I g ry h
  · subst ey eo
    cases ry
    obtain ⟨z, hd, vs, rel, dd⟩ := dk_rd I.hok e
    refine call_meetsIn PySem.F.slot_dict_get dd.typeIs PySem.F.entry_dict_get (PySem.F.args_dict_get_2 _ _) (meets_dict_get (leafKind X.prog X.w) (k := Leaf.none) a rfl hd) ⟨_, (leaf_dict dd).mapOf, h _ _ (I.tok _) ?_⟩
    rw [leaf_none]
    rfl
  · subst ey
    cases ry
    obtain ⟨_, hs, ys, rel, dd⟩ := dn_of I.hok e hx
    refine call_meetsIn PySem.F.slot_dict_get dd.typeIs PySem.F.entry_dict_get (PySem.F.args_dict_get_2 _ _) (meetsH_dict_get (nestedKind X.prog X.w) a b hs) ⟨nk_room hu, k, ys, nk_is I hk hd, dd, h _ _ (I.tok _) ?_⟩
    rw [er]
    exact (rel.val k).getD rfl
theorem dN_get2 {Q : Value → Shared → Prop} (hu : A.units + 16 < cLine) (I : Inv X pins σ H s) (g : DGetN X.w H a y o) (ry : RelV y u) (rd : RelV d r) (h : ∀ w' s', Inv X pins σ H s' → RelV (o.getD d) w' → Q w' s') :
    wpAny (model X.prog X.w) A (call (.builtin "dict.get") [.ref a, u, r]) Q E s := by
  rcases g with g | ⟨kvs, e, ey, eo⟩ | ⟨xs, k, b, e, hx, ey, hk, hd, er⟩
  · exact d_get2 (by omega) I g ry rd h
  · subst ey eo
    cases ry
    obtain ⟨z, hd, vs, rel, dd⟩ := dk_rd I.hok e
    refine call_meetsIn PySem.F.slot_dict_get dd.typeIs PySem.F.entry_dict_get (PySem.F.args_dict_get_3 _ _ _) (meets_dict_get_default (leafKind X.prog X.w) (k := Leaf.none) a rfl hd r) ⟨_, (leaf_dict dd).mapOf, h _ _ (I.tok _) ?_⟩
    rw [leaf_none]
    exact rd
  · subst ey
    cases ry
    obtain ⟨_, hs, ys, rel, dd⟩ := dn_of I.hok e hx
    refine call_meetsIn PySem.F.slot_dict_get dd.typeIs PySem.F.entry_dict_get (PySem.F.args_dict_get_3 _ _ _) (meetsH_dict_get_default (nestedKind X.prog X.w) a b hs r) ⟨nk_room hu, k, ys, nk_is I hk hd, dd, h _ _ (I.tok _) ?_⟩
    rw [er]
    exact (rel.val k).getD rd
theorem dN_setItem {H' : Hp} {Q : Unit → Shared → Prop} (hu : A.units + 16 < cLine) (I : Inv X pins σ H s) (g : DPutN X.w H a y v H') (ry : RelV y u) (rv : RelV v r) (h : ∀ s', Inv X pins σ H' s' → Q () s') :
    wpAny (model X.prog X.w) A (setItem (.ref a) u r) Q E s := by
  rcases g with g | ⟨xs, k, b, e, hx, ey, hk, hd, hl, eH⟩
  · exact d_setItem (by omega) I g ry rv h
  · subst ey eH
    cases ry
    obtain ⟨z, hs, ys, rel, dd⟩ := dn_of I.hok e hx
    have hz : ys.length ≤ sizeLine := by rw [← Paired.length rel]; exact z
    refine wpAny_setItem_heap (hsz := hz) (nk_room hu) (nk_is I hk hd) dd fun h' dd' hsb => h _ ?_
    have hz2 : (putN xs k b v).length ≤ sizeLine := by have := putN_le xs k b v; omega
    have := dn_obj (P := X.prog) (H := upd H a (.ext (DictN X.w a (putN xs k b v)))) hz2 hs (rel.put k b rv) dd'
    obtain ⟨q, es, ep, hq, _⟩ := dd'
    exact d_write I (by rw [e]; exact True.intro) hsb ⟨q, hq⟩ this
theorem isDN_at (I : Inv X pins σ H s) (d : IsDN X.w H a) : s.TypeIs (.ref a) "dict" ∧ (∀ b, Value.ref a = .ref b → ∃ ob, s.heap.get? b = some ob ∧ ob.dict = none) ∧ (a == sysModules) = false := by
  rcases d with d | ⟨xs, e, hx⟩
  · exact isD_at I d
  · obtain ⟨z, hs, ys, rel, dd⟩ := dn_of I.hok e hx
    refine ⟨dd.typeIs, fun b q => ?_, hs⟩
    cases q
    obtain ⟨ob, _, _, h1, h2, _⟩ := dd
    exact ⟨ob, h1, h2.2.1⟩
theorem dictN_typeIs (I : Inv X pins σ H s) (g : DGetN X.w H a y o) : s.TypeIs (.ref a) "dict" := by
  rcases g with g | ⟨kvs, e, ey, eo⟩ | ⟨xs, k, b, e, hx, ey, hk, hd, er⟩
  · exact dict_typeIs I g
  · exact (isD_at I (.inl ⟨kvs, e⟩)).1
  · exact (isDN_at I (.inr ⟨xs, e, hx⟩)).1
end
def tDGetN (w : World) (td ty : TE) : TE := fun σ H Q => td σ H fun x H1 => ty σ H1 fun y H2 => ∃ a v, x = .ref a ∧ DGetN w H2 a y (some v) ∧ Q v H2
def tDInN (w : World) (neg : Bool) (ty td : TE) : TE := fun σ H Q => ty σ H fun y H1 => td σ H1 fun x H2 => ∃ a o, x = .ref a ∧ DGetN w H2 a y o ∧ Q (.bl (if neg then !o.isSome else o.isSome)) H2
def sDPutN (w : World) (td ty tv : TE) : TS := fun D σ H => tv σ H fun v H1 => td σ H1 fun x H2 => ty σ H2 fun y H3 => ∃ a H4, x = .ref a ∧ DPutN w H3 a y v H4 ∧ D.nx σ H4
def tDGet1N (w : World) (td ty : TE) : TE := fun σ H Q => td σ H fun x H1 => ∃ a, x = .ref a ∧ IsDN w H1 a ∧ ty σ H1 fun y H2 => ∃ o, DGetN w H2 a y o ∧ Q (o.getD .non) H2
def tDGet2N (w : World) (td ty tx : TE) : TE := fun σ H Q => td σ H fun x H1 => ∃ a, x = .ref a ∧ IsDN w H1 a ∧ ty σ H1 fun y H2 => tx σ H2 fun z H3 => ∃ o, DGetN w H3 a y o ∧ Q (o.getD z) H3
section
variable {X : Cx} {o i e f value : Expr} {pos pos' tpos apos cpos : Pos} {td ty tv tx : TE}
theorem pe_dgetN (hu : X.A.units + 16 < cLine) (ho : PE X o td) (hi : PE X i ty) (hs : NoSl i) : PE X (.Subscript o i pos) (tDGetN X.w td ty) := by
  refine ⟨fun pins s σ H Q I h => ?_⟩
  refine subD_of PySem.F.slot_dict_getitem.lookup hs (thn (ho.run pins s σ H _ I h) fun u s1 ⟨x, H1, I1, rx, q1⟩ => thn (hi.run pins s1 σ H1 _ I1 q1) fun iv s2 ⟨y, H2, I2, ry, a, v, ex, g, q2⟩ => ?_)
  subst ex
  obtain rfl : u = Value.ref a := rx
  exact ⟨dictN_typeIs I2 g, dN_getItem hu I2 g ry fun w' s3 I3 rw' => ⟨v, H2, I3, rw', q2⟩⟩
theorem pc_dinN (hu : X.A.units + 16 < cLine) (hi : PE X i ty) (ho : PE X o td) : PC X .In i o (tDInN X.w false ty td) := by
  refine ⟨fun pins s σ H Q I h => ?_⟩
  refine thn (hi.run pins s σ H _ I h) fun iv s1 ⟨y, H1, I1, ry, q1⟩ => thn (ho.run pins s1 σ H1 _ I1 q1) fun u s2 ⟨x, H2, I2, rx, a, ov, ex, g, q2⟩ => ?_
  subst ex
  obtain rfl : u = Value.ref a := rx
  exact dN_in hu I2 g ry fun s3 I3 => ⟨.bl ov.isSome, H2, I3, rfl, q2⟩
theorem pc_dnotinN (hu : X.A.units + 16 < cLine) (hi : PE X i ty) (ho : PE X o td) : PC X .NotIn i o (tDInN X.w true ty td) := by
  refine ⟨fun pins s σ H Q I h => ?_⟩
  refine thn (hi.run pins s σ H _ I h) fun iv s1 ⟨y, H1, I1, ry, q1⟩ => thn (ho.run pins s1 σ H1 _ I1 q1) fun u s2 ⟨x, H2, I2, rx, a, ov, ex, g, q2⟩ => ?_
  subst ex
  obtain rfl : u = Value.ref a := rx
  exact dN_notIn hu I2 g ry fun s3 I3 => ⟨.bl (!ov.isSome), H2, I3, rfl, q2⟩
theorem ps_dputN (hu : X.A.units + 16 < cLine) (ho : PE X o td) (hi : PE X i ty) (hv : PE X value tv) (hs : swapsWith value (some (.Subscript o i pos')) pos.line X.env = pure false) :
    PS X (.Assign [.Subscript o i pos'] value pos) (sDPutN X.w td ty tv) := by
  refine ⟨fun pins s σ H D I h => ?_⟩
  refine wpAny_Assign_Subscript (thn (hv.run pins s σ H _ I h) fun r s1 ⟨v, H1, I1, rv, q1⟩ => thn (ho.run pins s1 σ H1 _ I1 q1) fun u s2 ⟨x, H2, I2, rx, q2⟩ => thn (hi.run pins s2 σ H2 _ I2 q2) fun iv s3 ⟨y, H3, I3, ry, a, H4, ex, g, q3⟩ => ?_) hs
  subst ex
  obtain rfl : u = Value.ref a := rx
  exact dN_setItem hu I3 g ry rv fun s4 I4 => ⟨σ, H4, I4, q3⟩
theorem pe_dget1N (hu : X.A.units + 16 < cLine) (ho : PE X o td) (he : PE X e ty) (m : M1 X o "get" apos e cpos) : PE X (.Call (.Attribute o "get" apos) [e] [] cpos) (tDGet1N X.w td ty) := by
  refine ⟨fun pins s σ H Q I h => ?_⟩
  refine wpAny_Call_method m.base m.few m.line PySem.F.plainAttrs_dict PySem.F.slot_dict_get PySem.F.type_dict_get (thn (ho.run pins s σ H _ I h) fun u s1 ⟨x, H1, I1, rx, a, ex, d, q1⟩ => ?_)
  subst ex
  obtain rfl : u = Value.ref a := rx
  obtain ⟨t1, t2, _⟩ := isDN_at I1 d
  refine ⟨t1, t2, ?_⟩
  rw [m.trees]
  refine Calls.callWith_builtin rfl (Calls.evalArgs_plain (Calls.spliced_cons (thn (he.run pins s1 σ H1 _ I1 q1) fun iv s2 ⟨y, H2, I2, ry, ov, g, q2⟩ => Calls.spliced_nil ?_)))
  exact dN_get1 hu I2 g ry fun w' s3 I3 rw' => ⟨_, H2, I3, rw', q2⟩
theorem pe_dget2N (hu : X.A.units + 16 < cLine) (ho : PE X o td) (he : PE X e ty) (hf : PE X f tx) (m : M2 X o "get" apos e f cpos) : PE X (.Call (.Attribute o "get" apos) [e, f] [] cpos) (tDGet2N X.w td ty tx) := by
  refine ⟨fun pins s σ H Q I h => ?_⟩
  refine wpAny_Call_method m.base m.few m.line PySem.F.plainAttrs_dict PySem.F.slot_dict_get PySem.F.type_dict_get (thn (ho.run pins s σ H _ I h) fun u s1 ⟨x, H1, I1, rx, a, ex, d, q1⟩ => ?_)
  subst ex
  obtain rfl : u = Value.ref a := rx
  obtain ⟨t1, t2, _⟩ := isDN_at I1 d
  refine ⟨t1, t2, ?_⟩
  rw [m.trees]
  refine Calls.callWith_builtin rfl (Calls.evalArgs_plain (Calls.spliced_cons (thn (he.run pins s1 σ H1 _ I1 q1) fun iv s2 ⟨y, H2, I2, ry, q2⟩ =>
    Calls.spliced_cons (thn (hf.run pins s2 σ H2 _ I2 q2) fun fv s3 ⟨z, H3, I3, rz, ov, g, q3⟩ => Calls.spliced_nil ?_))))
  exact dN_get2 hu I3 g ry rz fun w' s4 I4 rw' => ⟨_, H3, I4, rw', q3⟩
/-- {}, to be a dict with tuples for keys -/
def tDNewN (w : World) : TE := fun _ H Q => ∀ p, H p = none → Q (.ref p) (upd H p (.ext (DictN w p [])))
theorem dn_empty {P : Program} {w : World} {H : Hp} (h : Heap) (hb : sysModules < h.objs.size) : ObjOk P w H (h.push { cls := .type "dict", data := .dict #[] }) h.objs.size (.ext (DictN w h.objs.size [])) :=
  dn_obj (ys := []) (Nat.zero_le _) (beq_eq_false_iff_ne.mpr (Ne.symm (Nat.ne_of_lt hb))) .nil (Heap.DictOfH.new h)
theorem pe_dnewN : PE X (.Dict [] [] pos) (tDNewN X.w) := ⟨fun pins s σ H Q I h =>
  wpAny_Dict_empty ⟨.ref s.heap.objs.size, _, I.laid (a := s.heap.objs.size) (o := .ext (DictN X.w s.heap.objs.size [])) (t' := s.toks) (fun _ _ q => Heap.get?_push_of_some _ q) (Nat.le_refl _) (dn_empty s.heap I.big), rfl, h _ (I.hok.fresh (Nat.le_refl _))⟩⟩
/-- {k: v}, k a tuple -/
def tDispN (w : World) (tk tv : TE) : TE := fun σ H Q => ∀ p, H p = none → tk σ (upd H p (.ext (DictN w p []))) fun x H1 => tv σ H1 fun y H2 => H2 p = some (.ext (DictN w p [])) ∧ ∃ a k, x = .ref a ∧ VKey H2 x k ∧ k.depth ≤ 8 ∧ Q (.ref p) (upd H2 p (.ext (DictN w p [(k, a, y)])))
theorem pe_dispN {k v : Expr} {tk tv : TE} (hu : X.A.units + 16 < cLine) (hk : PE X k tk) (hv : PE X v tv) : PE X (.Dict [some k] [v] pos) (tDispN X.w tk tv) := by
  refine ⟨fun pins s σ H Q I q => ?_⟩
  have hn := I.hok.fresh (Nat.le_refl s.heap.objs.size)
  have I1 := I.laid (a := s.heap.objs.size) (o := .ext (DictN X.w s.heap.objs.size [])) (h' := s.heap.push { cls := .type "dict", data := .dict #[] }) (t' := s.toks) (fun _ _ q => Heap.get?_push_of_some _ q) (Nat.le_refl _) (dn_empty s.heap I.big)
  rw [arm_eval_Dict, zip_pairTrees [some k] [v] X.env pos rfl rfl, dictDisplay_pairs _ (by simp [pairTrees]) (by simp [pairTrees])]
  refine wpAny_bind (wpAny_standAt (wpAny_bind (wpAny_subDictH (knd := nestedKind X.prog X.w) (Q := fun d s' => wpAny (model X.prog X.w) X.A (pure (Value.ref d)) (EP X pins σ Q) X.xe s') (show X.A.units + 8 < cLine by omega) (by simp [pairTrees]) ?_)))
  refine pairTrees_cons_walk (thn (hk.run pins _ σ _ _ I1 (q _ hn)) fun u s1 ⟨x, H1, I1, rx, q1⟩ => thn (hv.run pins s1 σ H1 _ I1 q1) fun w2 s2 ⟨y, H2, I2, ry, q2⟩ => pairTrees_nil_walk ?_)
  obtain ⟨e, a, ks, rfl, ea, hd8, q2⟩ := q2
  cases rx
  obtain ⟨z, hd, xs, r0, dd⟩ := dn_of I2.hok e (fun _ hx => by cases hx)
  cases r0
  refine ⟨[(ks, a, w2)], ⟨rfl, rfl, nk_is I2 ea hd8, trivial⟩, dd, fun h' tk' dd' hs => wpAny_pure ⟨.ref s.heap.objs.size, _, ?_, rfl, q2⟩⟩
  have new := dn_obj (P := X.prog) (H := upd H2 s.heap.objs.size (.ext (DictN X.w s.heap.objs.size [(ks, a, y)]))) (xs := [(ks, a, y)]) (by simp [sizeLine_eq]) hd (.cons ⟨rfl, rfl, ry⟩ .nil) dd'
  obtain ⟨q, es, ep, hq, _⟩ := dd'
  exact d_write I2 (by rw [e]; exact True.intro) hs ⟨q, hq⟩ new
end
end AL

namespace AL
open PySem PySem.Spec PyProof.Rows L2
variable {B : Bs}
/-! ### keys as trees -/
mutual
def keyN : D → Option NestedKey
  | .non => some .none
  | .bl b => some (.num (if b = true then 1 else 0))
  | .int i => some (.num i)
  | .str x => some (.text x)
  | .tup ds => (keyNs ds).map .tup
  | _ => none
def keyNs : List D → Option (List NestedKey)
  | [] => some []
  | d :: ds => match keyN d, keyNs ds with | some k, some ks => some (k :: ks) | _, _ => none
end
def isTup : D → Bool
  | .tup _ => true
  | _ => false
/-- a tuple that is a key -/
def keyT (d : D) : Option NestedKey := if isTup d = true then (match keyN d with | some k => if k.depth ≤ 8 then some k else none | none => none) else none
def asN (C : AH) : D → Option (List (NestedKey × D))
  | .ce p => (match C p with | some (.dn es) => some es | _ => none)
  | _ => none
def valND (es : List (NestedKey × D)) (k : NestedKey) : Option D := (es.find? fun kv => decide (kv.1 = k)).map (·.2)
def putND (es : List (NestedKey × D)) (k : NestedKey) (d : D) : List (NestedKey × D) :=
  if (valND es k).isSome = true then es.map (fun kv => if kv.1 = k then (kv.1, d) else kv) else es ++ [(k, d)]
/-- what a dict holds at a key; none: not to be told -/
def lookD (C : AH) (x y : D) : Option (Option D) := match asK C x with
  | some es => (match keyOf y with | some k => some (valD es k) | none => if isNon y = true then some none else none)
  | none => (match asN C x, keyT y with | some es, some k => some (valND es k) | _, _ => none)
section
variable {K : PySem.W.Frag} {F F' : Hp} {C : AH} {R H : Hp}
mutual
theorem keyN_ok : ∀ {d : D} {v : V} {k : NestedKey}, Rep K F v d → keyN d = some k → VKey F v k
  | .non, _, _, r, h => by cases r; cases h; exact .non
  | .bl b, _, _, r, h => by cases r; cases h; exact .bl b
  | .int i, _, _, r, h => by cases r; cases h; exact .int i
  | .str x, _, _, r, h => by cases r; cases h; exact .str x
  | .tup ds, _, _, r, h => by
    cases r with
    | tup h1 h2 =>
      unfold keyN at h
      obtain ⟨ks, q, rfl⟩ := Option.map_eq_some_iff.mp h
      exact .tup h1 (keyNs_ok h2 q)
  | .lst _, _, _, _, h => by unfold keyN at h; cases h
  | .dk _, _, _, _, h => by unfold keyN at h; cases h
  | .scr _, _, _, _, h => by unfold keyN at h; cases h
  | .ce _, _, _, _, h => by unfold keyN at h; cases h
theorem keyNs_ok : ∀ {ds : List D} {vs : List V} {ks : List NestedKey}, RepL K F vs ds → keyNs ds = some ks → VKeys F vs ks
  | [], _, _, r, h => by cases r; cases h; exact .nil
  | d :: ds, _, _, r, h => by
    cases r with
    | cons r1 r2 =>
      unfold keyNs at h
      split at h
      · rename_i q1 q2
        cases h
        exact .cons (keyN_ok r1 q1) (keyNs_ok r2 q2)
      · cases h
end
theorem keyT_ok {d : D} {v : V} {k : NestedKey} (r : Rep K F v d) (h : keyT d = some k) : ∃ b, v = .ref b ∧ VKey F v k ∧ k.depth ≤ 8 := by
  unfold keyT at h
  split at h
  · rename_i ht
    split at h
    · rename_i k' q
      split at h
      · rename_i hd
        cases h
        have := keyN_ok r q
        cases d <;> first | (cases ht; done) | skip
        cases r with
        | tup h1 h2 => exact ⟨_, rfl, this, hd⟩
      · cases h
    · cases h
  · cases h
theorem RepN.keys : ∀ {xs : List (NestedKey × Addr × V)} {es : List (NestedKey × D)}, RepN K F xs es → KeysN F xs
  | _, _, .nil => fun _ h => by cases h
  | _, _, .cons a b r t => fun x hx => by
    rcases List.mem_cons.mp hx with e | hx
    · subst e; exact ⟨a, b⟩
    · exact RepN.keys t x hx
theorem RepN.val (k : NestedKey) : ∀ {xs : List (NestedKey × Addr × V)} {es : List (NestedKey × D)}, RepN K F xs es → (match valND es k with | some d => ∃ v, valN xs k = some v ∧ Rep K F v d | none => valN xs k = none)
  | _, _, .nil => rfl
  | (j, a, v) :: xs, (_, d) :: es, .cons q b r t => by
    have ih := RepN.val k t
    by_cases e : j = k
    · subst e
      rw [valN_pos rfl]
      simp only [valND, List.find?_cons, decide_true, Option.map_some]
      exact ⟨v, rfl, r⟩
    · rw [valN_neg e]
      simp only [valND, List.find?_cons, decide_eq_false e]
      exact ih
theorem RepN.len : ∀ {xs : List (NestedKey × Addr × V)} {es : List (NestedKey × D)}, RepN K F xs es → xs.length = es.length
  | _, _, .nil => rfl
  | _, _, .cons _ _ _ t => by rw [List.length_cons, List.length_cons, RepN.len t]
theorem RepN.some_eq (k : NestedKey) {xs : List (NestedKey × Addr × V)} {es : List (NestedKey × D)} (h : RepN K F xs es) : (valN xs k).isSome = (valND es k).isSome := by
  have := h.val k
  cases q : valND es k with
  | none => rw [q] at this; rw [show valN xs k = none from this]; rfl
  | some d => rw [q] at this; obtain ⟨v, e, _⟩ := this; rw [e]; rfl
theorem RepN.repl (k : NestedKey) {v : V} {d : D} (r : Rep K F v d) : ∀ {xs : List (NestedKey × Addr × V)} {es : List (NestedKey × D)}, RepN K F xs es → RepN K F (xs.map fun x => if x.1 = k then (x.1, x.2.1, v) else x) (es.map fun kv => if kv.1 = k then (kv.1, d) else kv)
  | _, _, .nil => .nil
  | (j, a, _) :: _, _, .cons q1 q2 q t => by
    rw [List.map_cons, List.map_cons]
    by_cases e : j = k
    · rw [if_pos e, if_pos e]; exact .cons q1 q2 r (RepN.repl k r t)
    · rw [if_neg e, if_neg e]; exact .cons q1 q2 q (RepN.repl k r t)
theorem RepN.snoc {k : NestedKey} {a : Addr} {v : V} {d : D} (h1 : VKey F (.ref a) k) (h2 : k.depth ≤ 8) (r : Rep K F v d) : ∀ {xs : List (NestedKey × Addr × V)} {es : List (NestedKey × D)}, RepN K F xs es → RepN K F (xs ++ [(k, a, v)]) (es ++ [(k, d)])
  | _, _, .nil => .cons h1 h2 r .nil
  | _, _, .cons q1 q2 q t => .cons q1 q2 q (RepN.snoc h1 h2 r t)
theorem RepN.put {k : NestedKey} {a : Addr} {v : V} {d : D} (h1 : VKey F (.ref a) k) (h2 : k.depth ≤ 8) (r : Rep K F v d) {xs : List (NestedKey × Addr × V)} {es : List (NestedKey × D)} (h : RepN K F xs es) : RepN K F (putN xs k a v) (putND es k d) := by
  unfold putN putND
  rw [h.some_eq k]
  split
  · exact RepN.repl k r h
  · exact RepN.snoc h1 h2 r h
theorem asN_ok {v : V} {d : D} {es : List (NestedKey × D)} (hS : Sat B K F C R H) (r : Rep K F v d) (h : asN C d = some es) : ∃ a xs, v = .ref a ∧ H a = some (.ext (DictN B.g.w a xs)) ∧ RepN K F xs es := by
  cases d with
  | ce p =>
    cases r
    simp only [asN] at h
    split at h
    · rename_i e
      cases h
      obtain ⟨_, o, h1, h2⟩ := hS.cell p _ e
      cases h2 with
      | dn q => exact ⟨p, _, rfl, h1, q⟩
    · cases h
  | _ => cases h
def OkO (K : PySem.W.Frag) (F : Hp) (o : Option V) (r : Option D) : Prop := match r with | some d => ∃ z, o = some z ∧ Rep K F z d | none => o = none
theorem OkO.k {kvs : List (Key × V)} {es : List (Key × D)} {k : Key} (h : RepK K F kvs es) : OkO K F (valV kvs k) (valD es k) := by
  have := RepK.val k h
  unfold OkO
  cases q : valD es k with
  | none => rw [q] at this; exact this
  | some d => rw [q] at this; exact this
theorem OkO.n {xs : List (NestedKey × Addr × V)} {es : List (NestedKey × D)} {k : NestedKey} (h : RepN K F xs es) : OkO K F (valN xs k) (valND es k) := by
  have := RepN.val k h
  unfold OkO
  cases q : valND es k with
  | none => rw [q] at this; exact this
  | some d => rw [q] at this; exact this
theorem look_ok {v u : V} {x y : D} {r : Option D} (hS : Sat B K F C R H) (r1 : Rep K F v x) (r2 : Rep K F u y) (h : lookD C x y = some r) :
    ∃ a o, v = .ref a ∧ DGetN B.g.w H a u o ∧ OkO K F o r := by
  unfold lookD at h
  split at h
  · rename_i es q1
    obtain ⟨a, kvs, rfl, h3, h4⟩ := asK_ok hS r1 q1
    split at h
    · rename_i k q2
      cases h
      refine ⟨a, valV kvs k, rfl, .inl (by rw [keyOf_ok r2 q2]; exact .k h3), ?_⟩
      exact OkO.k h4
    · split at h
      · rename_i q2
        cases h
        refine ⟨a, none, rfl, .inr (.inl ⟨kvs, .inl h3, ?_, rfl⟩), rfl⟩
        have := isNon_ok r2
        rw [q2] at this
        exact of_decide_eq_true this
      · cases h
  · split at h
    · rename_i es k q1 q2
      cases h
      obtain ⟨a, xs, rfl, h3, h4⟩ := asN_ok hS r1 q1
      obtain ⟨b, rfl, h5, h6⟩ := keyT_ok r2 q2
      exact ⟨a, valN xs k, rfl, .inr (.inr ⟨xs, k, b, h3, fun z hz => ⟨(h4.keys z hz).1.mono hS.ex, (h4.keys z hz).2⟩, rfl, h5.mono hS.ex, h6, rfl⟩), OkO.n h4⟩
    · cases h
end
/-! ### the rules -/
theorem hwW {X : Cx} (hw : B.g = ⟨X.w, X.mg⟩) : B.g.w = X.w := by rw [hw]
section
variable {X : Cx} {pos cpos apos p2 : Pos} {o i e : Expr} {to ti te : TE} {ao ai a : AE'} {K : PySem.W.Frag}
def aGetN (o i : AE') : AE' := fun s C P => o s C fun x C1 => i s C1 fun y C2 => match lookD C2 x y with
  | some (some d) => P d C2
  | _ => False
theorem sim_getN (ho : SimE B K to ao) (hi : SimE B K ti ai) : SimE B K (tDGetN B.g.w to ti) (aGetN ao ai) := by
  intro σ s F C R H Q P hs hS h k
  refine ho σ s F C R H _ _ hs hS h fun x v F1 C1 H1 e1 S1 r1 h1 => ?_
  refine hi σ s F1 C1 R H1 _ _ (hs.mono e1) S1 h1 fun y w F2 C2 H2 e2 S2 r2 h2 => ?_
  split at h2
  · rename_i d q
    obtain ⟨a, o, rfl, g, z, rfl, g2⟩ := look_ok S2 (r1.mono e2) r2 q
    exact ⟨a, z, rfl, g, k _ _ F2 C2 H2 (e1.trans e2) S2 g2 h2⟩
  · exact h2.elim
theorem ae_getN {g : Gd} (hu : X.A.units + 16 < cLine) (ho : AE B X o to ao) (hi : AE B X i ti ai) (hw : B.g = g := by first | rfl | assumption) (hX : (⟨X.w, X.mg⟩ : Gd) = g := by rfl) (hs : NoSl i := by exact fun _ _ => rfl) : AE B X (.Subscript o i pos) (tDGetN g.w to ti) (aGetN ao ai) :=
  ⟨by rw [← hX]; exact pe_dgetN hu ho.pe hi.pe hs, by subst hw; exact sim_getN ho.sim hi.sim⟩
def aInN (neg : Bool) (i o : AE') : AE' := fun s C P => i s C fun y C1 => o s C1 fun x C2 => match lookD C2 x y with
  | some r => P (.bl (if neg then !r.isSome else r.isSome)) C2
  | none => False
theorem sim_inN (neg : Bool) (ho : SimE B K to ao) (hi : SimE B K ti ai) : SimE B K (tDInN B.g.w neg ti to) (aInN neg ai ao) := by
  intro σ s F C R H Q P hs hS h k
  refine hi σ s F C R H _ _ hs hS h fun y v F1 C1 H1 e1 S1 r1 h1 => ?_
  refine ho σ s F1 C1 R H1 _ _ (hs.mono e1) S1 h1 fun x w F2 C2 H2 e2 S2 r2 h2 => ?_
  split at h2
  · rename_i r q
    obtain ⟨a, o, rfl, g, g2⟩ := look_ok S2 r2 (r1.mono e2) q
    refine ⟨a, o, rfl, g, ?_⟩
    have : o.isSome = r.isSome := by
      cases r with
      | none => rw [show o = none from g2]; rfl
      | some d => obtain ⟨z, rfl, _⟩ := g2; rfl
    rw [this]
    exact k _ _ F2 C2 H2 (e1.trans e2) S2 (.bl _) h2
  · exact h2.elim
theorem ae_inN {g : Gd} (hu : X.A.units + 16 < cLine) (hi : AE B X i ti ai) (ho : AE B X o to ao) (hw : B.g = g := by first | rfl | assumption) (hX : (⟨X.w, X.mg⟩ : Gd) = g := by rfl) (h1 : behindInMarks .In o = false := by rfl) : AE B X (.Compare i [.In] [o] pos) (tDInN g.w false ti to) (aInN false ai ao) :=
  ⟨by rw [← hX]; exact pe_cmp (pc_dinN hu hi.pe ho.pe) h1, by subst hw; exact sim_inN false ho.sim hi.sim⟩
theorem ae_notInN {g : Gd} (hu : X.A.units + 16 < cLine) (hi : AE B X i ti ai) (ho : AE B X o to ao) (hw : B.g = g := by first | rfl | assumption) (hX : (⟨X.w, X.mg⟩ : Gd) = g := by rfl) (h1 : behindInMarks .NotIn o = false := by rfl) : AE B X (.Compare i [.NotIn] [o] pos) (tDInN g.w true ti to) (aInN true ai ao) :=
  ⟨by rw [← hX]; exact pe_cmp (pc_dnotinN hu hi.pe ho.pe) h1, by subst hw; exact sim_inN true ho.sim hi.sim⟩
theorem at_inN {g : Gd} (hu : X.A.units + 16 < cLine) (hi : AE B X i ti ai) (ho : AE B X o to ao) (hw : B.g = g := by first | rfl | assumption) (hX : (⟨X.w, X.mg⟩ : Gd) = g := by rfl) (h1 : behindInMarks .In o = false := by rfl) : AT B X (.Compare i [.In] [o] pos) (tTest (tDInN g.w false ti to)) (aB (aInN false ai ao)) :=
  ⟨by rw [← hX]; exact pt_cmp (pc_dinN hu hi.pe ho.pe) h1, by subst hw; exact sim_B (sim_inN false ho.sim hi.sim)⟩
theorem at_notInN {g : Gd} (hu : X.A.units + 16 < cLine) (hi : AE B X i ti ai) (ho : AE B X o to ao) (hw : B.g = g := by first | rfl | assumption) (hX : (⟨X.w, X.mg⟩ : Gd) = g := by rfl) (h1 : behindInMarks .NotIn o = false := by rfl) : AT B X (.Compare i [.NotIn] [o] pos) (tTest (tDInN g.w true ti to)) (aB (aInN true ai ao)) :=
  ⟨by rw [← hX]; exact pt_cmp (pc_dnotinN hu hi.pe ho.pe) h1, by subst hw; exact sim_B (sim_inN true ho.sim hi.sim)⟩
def isDic (C : AH) (x : D) : Bool := (asK C x).isSome || (asN C x).isSome
theorem isDN_ok {F : Hp} {C : AH} {R H : Hp} {v : V} {d : D} (hS : Sat B K F C R H) (r : Rep K F v d) (h : isDic C d = true) : ∃ a, v = .ref a ∧ IsDN B.g.w H a := by
  unfold isDic at h
  cases q : asK C d with
  | some es =>
    obtain ⟨a, kvs, rfl, g, _⟩ := asK_ok hS r q
    exact ⟨a, rfl, .inl (.inl ⟨kvs, .inl g⟩)⟩
  | none =>
    rw [q] at h
    obtain ⟨es, h1⟩ := Option.isSome_iff_exists.mp (show (asN C d).isSome = true by simpa using h)
    obtain ⟨a, xs, rfl, g, g2⟩ := asN_ok hS r h1
    exact ⟨a, rfl, .inr ⟨xs, g, fun z hz => ⟨(g2.keys z hz).1.mono hS.ex, (g2.keys z hz).2⟩⟩⟩
def aGet1N (o i : AE') : AE' := fun s C P => o s C fun x C1 => isDic C1 x = true ∧ i s C1 fun y C2 => match lookD C2 x y with
  | some r => P (r.getD .non) C2
  | none => False
def aGet2N (o i e : AE') : AE' := fun s C P => o s C fun x C1 => isDic C1 x = true ∧ i s C1 fun y C2 => e s C2 fun z C3 => match lookD C3 x y with
  | some r => P (r.getD z) C3
  | none => False
theorem sim_get1N (ho : SimE B K to ao) (hi : SimE B K ti ai) : SimE B K (tDGet1N B.g.w to ti) (aGet1N ao ai) := by
  intro σ s F C R H Q P hs hS h k
  refine ho σ s F C R H _ _ hs hS h fun x v F1 C1 H1 e1 S1 r1 h1 => ?_
  obtain ⟨a, rfl, hd⟩ := isDN_ok S1 r1 h1.1
  refine ⟨a, rfl, hd, ?_⟩
  refine hi σ s F1 C1 R H1 _ _ (hs.mono e1) S1 h1.2 fun y w F2 C2 H2 e2 S2 r2 h2 => ?_
  split at h2
  · rename_i r q
    obtain ⟨b, o, e3, g, g2⟩ := look_ok S2 (r1.mono e2) r2 q
    cases e3
    refine ⟨o, g, k (r.getD .non) _ F2 C2 H2 (e1.trans e2) S2 ?_ h2⟩
    cases r with
    | none => rw [show o = none from g2]; exact .non
    | some d => obtain ⟨z, rfl, g3⟩ := g2; exact g3
  · exact h2.elim
theorem sim_get2N (ho : SimE B K to ao) (hi : SimE B K ti ai) (he : SimE B K te a) : SimE B K (tDGet2N B.g.w to ti te) (aGet2N ao ai a) := by
  intro σ s F C R H Q P hs hS h k
  refine ho σ s F C R H _ _ hs hS h fun x v F1 C1 H1 e1 S1 r1 h1 => ?_
  obtain ⟨a, rfl, hd⟩ := isDN_ok S1 r1 h1.1
  refine ⟨a, rfl, hd, ?_⟩
  refine hi σ s F1 C1 R H1 _ _ (hs.mono e1) S1 h1.2 fun y w F2 C2 H2 e2 S2 r2 h2 => ?_
  refine he σ s F2 C2 R H2 _ _ (hs.mono (e1.trans e2)) S2 h2 fun z u F3 C3 H3 e3 S3 r3 h3 => ?_
  split at h3
  · rename_i r q
    obtain ⟨b, o, e4, g, g2⟩ := look_ok S3 (r1.mono (e2.trans e3)) (r2.mono e3) q
    cases e4
    refine ⟨o, g, k (r.getD z) _ F3 C3 H3 ((e1.trans e2).trans e3) S3 ?_ h3⟩
    cases r with
    | none => rw [show o = none from g2]; exact r3
    | some d => obtain ⟨z, rfl, g3⟩ := g2; exact g3
  · exact h3.elim
theorem ae_get1N {g : Gd} (hu : X.A.units + 16 < cLine) (ho : AE B X o to ao) (hi : AE B X i ti ai) (hw : B.g = g := by first | rfl | assumption) (hX : (⟨X.w, X.mg⟩ : Gd) = g := by rfl)
    (hbase : attributeBase o "get" X.env (eval o X.env) = eval o X.env := by rfl)
    (hfew : ((backTo cpos (starEach [i] X.env)).all (fun x => !x.1) && (backToKw cpos (keywordEach [] X.env)).all (fun x => x.1.isSome)
      && decide (([i] : List Expr).length + ([] : List Keyword).length + (if ([] : List Keyword).isEmpty then 0 else 1) < 30)) = true := by rfl)
    (hline : (apos.endLine == cpos.line) = true := by rfl) (ht : backTo cpos (starEach [i] X.env) = [(false, eval i X.env)] := by rfl) :
    AE B X (.Call (.Attribute o "get" apos) [i] [] cpos) (tDGet1N g.w to ti) (aGet1N ao ai) := ⟨by rw [← hX]; exact pe_dget1N hu ho.pe hi.pe ⟨hbase, hfew, hline, ht⟩, by subst hw; exact sim_get1N ho.sim hi.sim⟩
theorem ae_get2N {g : Gd} (hu : X.A.units + 16 < cLine) (ho : AE B X o to ao) (hi : AE B X i ti ai) (he : AE B X e te a) (hw : B.g = g := by first | rfl | assumption) (hX : (⟨X.w, X.mg⟩ : Gd) = g := by rfl)
    (hbase : attributeBase o "get" X.env (eval o X.env) = eval o X.env := by rfl)
    (hfew : ((backTo cpos (starEach [i, e] X.env)).all (fun x => !x.1) && (backToKw cpos (keywordEach [] X.env)).all (fun x => x.1.isSome)
      && decide (([i, e] : List Expr).length + ([] : List Keyword).length + (if ([] : List Keyword).isEmpty then 0 else 1) < 30)) = true := by rfl)
    (hline : (apos.endLine == cpos.line) = true := by rfl) (ht : backTo cpos (starEach [i, e] X.env) = [(false, eval i X.env), (false, eval e X.env)] := by rfl) :
    AE B X (.Call (.Attribute o "get" apos) [i, e] [] cpos) (tDGet2N g.w to ti te) (aGet2N ao ai a) := ⟨by rw [← hX]; exact pe_dget2N hu ho.pe hi.pe he.pe ⟨hbase, hfew, hline, ht⟩, by subst hw; exact sim_get2N ho.sim hi.sim he.sim⟩
/-- d[k] = e -/
def aPutN (o i e : AE') : AS' := fun E s C => e s C fun d C1 => o s C1 fun x C2 => i s C2 fun y C3 => match x with
  | .ce p => (match C3 p with
    | some (.dk es) => (match keyOf y with | some k => es.length < sizeLine ∧ E.nx s (put C3 p (.dk (putD es k d))) | none => False)
    | some (.dn es) => (match keyT y with | some k => es.length < sizeLine ∧ E.nx s (put C3 p (.dn (putND es k d))) | none => False)
    | _ => False)
  | _ => False
theorem sim_putN (ho : SimE B K to ao) (hi : SimE B K ti ai) (he : SimE B K te a) : SimS B K (sDPutN B.g.w to ti te) (aPutN ao ai a) := fun D' E σ s F C R H hE hs hS h => by
  refine he σ s F C R H _ _ hs hS h fun d v F1 C1 H1 e1 S1 r1 h1 => ?_
  refine ho σ s F1 C1 R H1 _ _ (hs.mono e1) S1 h1 fun x w F2 C2 H2 e2 S2 r2 h2 => ?_
  refine hi σ s F2 C2 R H2 _ _ (hs.mono (e1.trans e2)) S2 h2 fun y u F3 C3 H3 e3 S3 r3 h3 => ?_
  split at h3
  · rename_i p
    cases r2
    split at h3
    · rename_i es q2
      split at h3
      · rename_i ky q1
        obtain ⟨hl, h3⟩ := h3
        obtain ⟨hF, ob, h4, h5⟩ := S3.cell p _ q2
        cases h5 with
        | dk h6 =>
          refine ⟨p, _, rfl, .inl ?_, hE.nx s σ F3 _ _ ((e1.trans e2).trans e3) (hs.mono ((e1.trans e2).trans e3)) (S3.mutC q2 (.dk (RepK.put ky (r1.mono (e2.trans e3)) h6))) h3⟩
          rw [keyOf_ok r3 q1]
          exact .k h4 (by rw [h6.length]; exact hl)
      · exact h3.elim
    · rename_i es q2
      split at h3
      · rename_i ky q1
        obtain ⟨hl, h3⟩ := h3
        obtain ⟨hF, ob, h4, h5⟩ := S3.cell p _ q2
        obtain ⟨b, rfl, g5, g6⟩ := keyT_ok r3 q1
        cases h5 with
        | dn h6 =>
          exact ⟨p, _, rfl, .inr ⟨_, ky, b, h4, fun z hz => ⟨(h6.keys z hz).1.mono S3.ex, (h6.keys z hz).2⟩, rfl, g5.mono S3.ex, g6, by rw [h6.len]; exact hl, rfl⟩,
            hE.nx s σ F3 _ _ ((e1.trans e2).trans e3) (hs.mono ((e1.trans e2).trans e3)) (S3.mutC q2 (.dn (RepN.put g5 g6 (r1.mono (e2.trans e3)) h6))) h3⟩
      · exact h3.elim
    · exact h3.elim
  · exact h3.elim
theorem as_putN {g : Gd} (hu : X.A.units + 16 < cLine) (ho : AE B X o to ao) (hi : AE B X i ti ai) (he : AE B X e te a) (hw : B.g = g := by first | rfl | assumption) (hX : (⟨X.w, X.mg⟩ : Gd) = g := by rfl) (hs : swapsWith e (some (.Subscript o i p2)) pos.line X.env = pure false := by rfl) : AS B X (.Assign [.Subscript o i p2] e pos) (sDPutN g.w to ti te) (aPutN ao ai a) :=
  ⟨by rw [← hX]; exact ps_dputN hu ho.pe hi.pe he.pe hs, by subst hw; exact sim_putN ho.sim hi.sim he.sim⟩
/-- {}, for tuples -/
def aDict0N : AE' := fun _ C P => ∀ p, C p = none → P (.ce p) (put C p (.dn []))
theorem sim_dict0N : SimE B K (tDNewN B.g.w) aDict0N := fun σ s F C R H Q P hs hS h k p hp => k _ _ F _ _ (Ex.refl F) (hS.newC hp (.dn .nil)) (.ce p) (h p (hS.freeC hp))
theorem ae_dict0N {g : Gd} (hw : B.g = g := by first | rfl | assumption) (hX : (⟨X.w, X.mg⟩ : Gd) = g := by rfl) : AE B X (.Dict [] [] pos) (tDNewN g.w) aDict0N := ⟨by rw [← hX]; exact pe_dnewN, by subst hw; exact sim_dict0N⟩
/-- {k: v} -/
def aDispN0 (ak av : AE') : AE' := fun s C P => ak s C fun dk C1 => av s C1 fun dv C2 => match keyT dk with
  | some k => ∀ p, C2 p = none → P (.ce p) (put C2 p (.dn [(k, dv)]))
  | none => False
theorem sim_dispN0 {tk tv : TE} {ak av : AE'} (h1 : SimE B K tk ak) (h2 : SimE B K tv av) : SimE B K (tDispN B.g.w tk tv) (aDispN0 ak av) := by
  intro σ s F C R H Q P hs hS h0 k p hp
  have hF := hS.freeF hp
  have hC := hS.freeC hp
  have hR := hS.freeR hp
  refine h1 σ s F C (upd R p (.ext (DictN B.g.w p []))) (upd H p (.ext (DictN B.g.w p []))) _ _ hs (hS.setR hF hC (hS.freeB hR) _) h0 fun d v F1 C1 H1 e1 S1 r1 g1 => ?_
  refine h2 σ s F1 C1 _ H1 _ _ (hs.mono e1) S1 g1 fun d2 v2 F2 C2 H2 e2 S2 r2 g2 => ?_
  split at g2
  · rename_i ky ek
    obtain ⟨b, rfl, g5, g6⟩ := keyT_ok (r1.mono e2) ek
    obtain ⟨f1, c1, q1⟩ := S2.priv p _ upd_same
    refine ⟨q1, b, ky, rfl, g5.mono S2.ex, g6, ?_⟩
    have S3 := (S2.outC hR (hS.freeB hR) (.dn .nil)).mutC put_same (.dn (.cons g5 g6 r2 .nil))
    rw [put_put] at S3
    exact k _ _ F2 _ _ (e1.trans e2) S3 (.ce p) (g2 p c1)
  · exact g2.elim
def aDispN (ak av : AE') : AE' := fun s C P => aDispV ak av s C P ∨ aDispN0 ak av s C P
theorem pe_or {e : Expr} {t u : TE} (h : PE X e t) (g : PE X e u) : PE X e (fun σ H Q => t σ H Q ∨ u σ H Q) := ⟨fun pins s σ H Q I z => z.elim (h.run pins s σ H Q I) (g.run pins s σ H Q I)⟩
theorem sim_or2 {t u : TE} {a b : AE'} (h : SimE B K t a) (g : SimE B K u b) : SimE B K (fun σ H Q => t σ H Q ∨ u σ H Q) (fun s C P => a s C P ∨ b s C P) := by
  intro σ s F C R H Q P hs hS h0 k
  rcases h0 with q | q
  · exact .inl (h σ s F C R H Q P hs hS q k)
  · exact .inr (g σ s F C R H Q P hs hS q k)
theorem ae_dispN {g : Gd} {k v : Expr} {tk tv : TE} {ak av : AE'} (hu : X.A.units + 16 < cLine) (h1 : AE B X k tk ak) (h2 : AE B X v tv av) (hw : B.g = g := by first | rfl | assumption) (hX : (⟨X.w, X.mg⟩ : Gd) = g := by rfl) : AE B X (.Dict [some k] [v] pos) (fun σ H Q => tDisp [(tk, tv)] σ H Q ∨ tDispN g.w tk tv σ H Q) (aDispN ak av) :=
  ⟨by rw [← hX]; exact pe_or (pe_disp (pps_cons h1.pe h2.pe pps_nil) rfl rfl (by simp) (by simp)) (pe_dispN hu h1.pe h2.pe), by subst hw; exact sim_or2 (sim_dispV h1.sim h2.sim) (sim_dispN0 h1.sim h2.sim)⟩
end
end AL

namespace AL
open PySem PySem.Spec PyProof.Rows L2
variable {B : Bs}
/-! ### except X as e: the exception is known behind the suite, too -/
theorem inv_known {X : Cx} {pins : List (Addr × Obj)} {σ : L2.St} {H : Hp} {s sI : Shared} {a : Addr} {o : HO} (I : Inv X pins σ H s) (J : Inv X pins σ H sI) (hI : sI.heap.get? a = none) (na : H a = none) (nL : a ≠ X.env.locals) (nF : a ∉ X.fs)
    (hc : ∀ v, ¬ s.heap.IsCell a v) (new : ObjOk X.prog X.w (upd H a o) s.heap a o) : Inv X pins σ (upd H a o) s := by
  have nit : ∀ b u, H b = some u → b ≠ a := fun b u e z => by rw [z, na] at e; cases e
  have up : ∀ b u, H b = some u → upd H a o b = some u := fun b u e => by rw [upd_ne (nit b u e)]; exact e
  have old : ∀ ob, X.s_0.heap.get? a = some ob → a ∈ X.ex := fun ob e => by
    by_cases hx : a ∈ X.ex
    · exact hx
    · obtain ⟨o', e'⟩ := J.base.there a ob e hx
      rw [hI] at e'; cases e'
  refine ⟨I.ok, I.os, I.bare, ⟨I.base.keep, I.base.slot, fun b ob e n hx => ?_, I.base.there, fun b xs e => up b _ (I.base.tups b xs e), fun b ob u e => up b _ (I.base.frzs b ob u e), fun b ps e => ?_⟩, I.loc, I.cell, ?_, fun x c e => ?_, fun p hp => ?_, fun b u e => ?_, I.len⟩
  · have hb : b ≠ a := fun z => by subst z; exact hx (old ob e)
    rw [upd_ne hb]
    exact I.base.free b ob e n hx
  · obtain ⟨more, e'⟩ := I.base.tbls b ps e
    exact ⟨more, up b _ e'⟩
  · rw [upd_ne (Ne.symm nL)]
    exact I.free
  · have hb : c ≠ a := fun z => by
      obtain ⟨v, q⟩ := I.cell x c e
      rw [z] at q
      exact hc v q
    rw [upd_ne hb]
    exact I.freeC x c e
  · obtain ⟨h1, h2, h3⟩ := I.pin p hp
    have hb : p.1 ≠ a := fun z => by
      have := (J.pin p hp).1
      rw [z, hI] at this; cases this
    exact ⟨h1, by rw [upd_ne hb]; exact h2, h3⟩
  · by_cases hb : b = a
    · rw [hb, upd_same] at e
      cases e
      rw [hb]
      exact new
    · rw [upd_ne hb] at e
      exact (I.hok b u e).stay (fun c v _ q => q) (fun c q => up c _ q) fun c _ q => up c _ q
theorem inv_suite {X : Cx} {pins : List (Addr × Obj)} {σ : L2.St} {H : Hp} {s : Shared} (I : Inv X pins σ H s) (a : Addr) : Inv (X.suite a (X.pn ++ pins)) [] σ H s :=
  ⟨I.ok.suite _ _, I.os, I.bare, I.base, I.loc, I.cell, I.free, I.freeC, fun p hp => by
    have hp' : p ∈ X.pn ++ pins := by rw [List.append_nil] at hp; exact hp
    exact I.pin p hp', I.hok, I.len⟩
theorem inv_unsuite {X : Cx} {pins : List (Addr × Obj)} {σ : L2.St} {H : Hp} {s : Shared} {a : Addr} (I : Inv (X.suite a (X.pn ++ pins)) [] σ H s) (ok : X.Ok) : Inv X pins σ H s :=
  ⟨ok, I.os, I.bare, I.base, I.loc, I.cell, I.free, I.freeC, fun p hp => I.pin p (by show p ∈ (X.pn ++ pins) ++ []; rw [List.append_nil]; exact hp), I.hok, I.len⟩
/-- the ends behind a suite whose clause names slot i -/
def goneE (i : Nat) (D : Ends) : Ends := { nx := fun σ' H' => D.nx (σ'.set i none) H', rt := D.rt, bk := fun σ' H' => D.bk (σ'.set i none) H', ct := fun σ' H' => D.ct (σ'.set i none) H' }
/-- what the clauses wish, one after the other: (classes, slot, suite) -/
def wManyA (K : PySem.W.Frag) (Wout : WX) (D : Ends) : List (List Value × Nat × TS) → WX
  | [] => Wout
  | (c, i, ts) :: r => fun cls d σ H => ∃ b, PySem.W.exmAny K cls c = some b ∧ (b = true → d = none ∧ ∀ a, H a = none → ts (goneE i D) (σ.set i (some (.ref a))) (upd H a (.ext (ExcAt cls a)))) ∧ (b = false → wManyA K Wout D r cls d σ H)
inductive HdsA (X : Cx) : List ExceptHandler → List (List Value × Nat × TS) → Prop
  | nil : HdsA X [] []
  | cons {x n : Str} {c : Value} {i : Nat} {ts : TS} {b₀ : Stmt} {suite : List Stmt} {np pos' : Pos} {hds : List ExceptHandler} {l : List (List Value × Nat × TS)} (hc : Names X x c) (hi : X.N[i]? = some n) (hln : X.env.kindOf n = some .local)
      (hsu : ∀ (a : Addr) (pn : List (Addr × Obj)), PSs (X.suite a pn) (b₀ :: suite) ts) (r : HdsA X hds l) :
      HdsA X (.ExceptHandler (some (.Name x np)) (some n) (b₀ :: suite) pos' :: hds) (([c], i, ts) :: l)
  | cons2 {x x2 n : Str} {c c2 : Value} {i kk : Nat} {ts : TS} {b₀ : Stmt} {suite : List Stmt} {np np2 tp pos' : Pos} {hds : List ExceptHandler} {l : List (List Value × Nat × TS)} (hc : Names X x c) (hc2 : Names X x2 c2) (hi : X.N[i]? = some n) (hln : X.env.kindOf n = some .local)
      (hsu : ∀ (a : Addr) (pn : List (Addr × Obj)), PSs (X.suite a pn) (b₀ :: suite) ts) (r : HdsA X hds l) :
      HdsA X (.ExceptHandler (some (.Tuple [.Name x np, .Name x2 np2] kk tp)) (some n) (b₀ :: suite) pos' :: hds) (([c, c2], i, ts) :: l)
theorem flyZ_keeps {base h h' : Heap} {l : List Env} {e : Addr} {Z : Obj → Prop} (x : HandSPX.FlyingZ base l e Z h) (k : ∀ b o, h.get? b = some o → h'.get? b = some o) : HandSPX.FlyingZ base l e Z h' := by
  obtain ⟨f1, f2, f3, oe, vs, T, oT, ts, he, hz, hd, h1, hnT, hTe, hT, hdT, h3⟩ := x
  exact ⟨fun b o hb => k b o (f1 b o hb), f2, f3.of_keeps fun b o ho _ => ⟨o, k b o ho, rfl⟩, oe, vs, T, oT, ts, k _ _ he, hz, hd, h1, hnT, hTe, k _ _ hT, hdT, h3⟩
theorem excAt_ok {P : Program} {w : World} {H : Hp} {h : Heap} {a : Addr} {cls : Value} {oe : Obj} (he : h.get? a = some oe) (hz : Zc cls none oe) (hd : ∃ vs, oe.data = .fields vs) : ObjOk P w H h a (.ext (ExcAt cls a)) := by
  obtain ⟨vs, hd⟩ := hd
  exact ⟨⟨oe, vs, he, hz.1, hz.2, hd⟩, ⟨oe, he⟩, fun h1 h2 ⟨o, vs, e, r⟩ k => ⟨o, vs, k o e, r⟩⟩
section
variable {X : Cx} {body : List Stmt} {h₀ : ExceptHandler} {hds : List ExceptHandler} {l : List (List Value × Nat × TS)} {pos : Pos} {tb : WX → TS} {Wout : WX}
theorem ps_try_manyA (hN : X.N.Nodup) (hs : X.stack = X.env :: X.outer) (hf : X.env.frame = some X.env.locals) (tk : Takes X Wout)
    (hb : ∀ (W : WX) (pn : List (Addr × Obj)) (xe : Value → Shared → Prop), Takes (X.tr pn xe) W → PassesOwn (model X.prog X.w) X.A X.env xe → PSs (X.tr pn xe) body (tb W))
    (hh : HdsA X (h₀ :: hds) l) : PS X (.Try body (h₀ :: hds) [] [] pos) (fun D σ H => tb (wManyA X.K Wout D l) D σ H) := by
  refine ⟨fun pins s σ H D I h => ?_⟩
  have ok := I.ok
  have hfr : X.A.frames = some (X.env :: X.outer) := by rw [ok.frames, hs]
  refine wpAny_Try_except ?_
  refine wpAny_mono ((hb (wManyA X.K Wout D l) (X.pn ++ pins) (fun e s₁ => wpAny (model X.prog X.w) X.A (noteFrame e X.env) (fun _ s₂ => wpAny (model X.prog X.w) X.A (setFlight e none) (fun _ s₃ =>
    wpAny (model X.prog X.w) X.A (handleBy e X.env (h₀ :: hds)) (SP X pins D) X.xe s₃) X.xe s₂) X.xe s₁) (fun u s' xx => ?_) PassesOwn.looking).run [] s σ H D (I.toTry _) h) (fun f s1 hsp => ?_) (fun e s1 he => he)
  · -- the catch
    obtain ⟨a, B, sI, pins', σ', H', cls, d, rfl, J', nb, up, sky, na, os, ag, w⟩ := xx
    have J : Inv X pins σ' H' sI := J'.ofTry ok
    have sky' : Sky B (X.env :: X.outer) a (Zc cls d) X.env.locals s'.heap := by rw [← hs]; exact sky
    show wpAny (model X.prog X.w) X.A (noteFrame (.ref a) X.env) _ _ _
    refine Sky.land Zc.steady hfr hf sky' fun h3 fl0 up3 => ?_
    have go : ∀ {hds' : List ExceptHandler} {l' : List (List Value × Nat × TS)}, HdsA X hds' l' → ∀ h3, HandSPX.FlyingZ B (X.env :: X.outer) a (Zc cls d) h3 → s'.heap.UpToSlots h3 → wManyA X.K Wout D l' cls d σ' H' →
        wpAny (model X.prog X.w) X.A (handleBy (.ref a) X.env hds') (SP X pins D) X.xe { s' with heap := h3 } := by
      intro hds' l' hk
      have notFr : ∀ {h : Heap} {o : Obj} {vs : Array Value}, h.FunFrames B (X.env :: X.outer) → h.get? a = some o → o.data = .fields vs → a ∉ frs (X.env :: X.outer) := fun {h o vs} ff e dd hm => by
        obtain ⟨_, o', e', hnf⟩ := ff.mem hm
        rw [e] at e'; cases e'
        exact hnf _ dd
      obtain ⟨oe0, vs0, he0, hz0, hd0⟩ := fl0.there
      have nfr := notFr fl0.2.2.1 he0 hd0
      have hI : sI.heap.get? a = none := by
        cases q : sI.heap.get? a with
        | none => rfl
        | some o =>
          have := nb a o q (by rw [hs]; exact nfr)
          rw [fl0.2.1] at this; cases this
      have nL : a ≠ X.env.locals := fun z => nfr (List.mem_filterMap.mpr ⟨X.env, List.mem_cons_self, by rw [hf, z]⟩)
      have nF : a ∉ X.fs := fun hm => by
        obtain ⟨e, he, q⟩ := List.mem_filterMap.mp hm
        exact nfr (List.mem_filterMap.mpr ⟨e, List.mem_cons_of_mem _ he, q⟩)
      -- the suite of a clause that catches
      have suite_ : ∀ {n : Str} {i : Nat} {ts : TS} {b₀ : Stmt} {suite : List Stmt} {pos' : Pos}, X.N[i]? = some n → X.env.kindOf n = some .local → (∀ (a : Addr) (pn : List (Addr × Obj)), PSs (X.suite a pn) (b₀ :: suite) ts) →
          d = none → (∀ a, H' a = none → ts (goneE i D) (σ'.set i (some (.ref a))) (upd H' a (.ext (ExcAt cls a)))) → ∀ h3, HandSPX.FlyingZ B (X.env :: X.outer) a (Zc cls d) h3 → s'.heap.UpToSlots h3 → ∀ {E : Value → Shared → Prop},
          wpAny (model X.prog X.w) (X.A.mark (some (.ref a))) (setFlight (.ref a) none) (fun _ s5 => wpAny (model X.prog X.w) (X.A.mark (some (.ref a))) (storeName X.env n (.ref a)) (fun _ s6 => wpAny (model X.prog X.w) (X.A.mark (some (.ref a))) (execs (b₀ :: suite) X.env)
            (fun f s7 => wpAny (model X.prog X.w) X.A (do bindName X.env n .none; unbindBehindTheSuite X.env n pos') (fun _ s8 => SP X pins D f s8) X.xe s7) (fun _ _ => False) s6) (fun _ _ => False) s5) (fun _ _ => False) { s' with heap := h3 } := by
        intro n i ts b₀ suite pos' hi hln hsu hdn hy2 h3 fl3 up3 E
        subst hdn
        have hloc : Loc X.env.scope n := .inl hln
        refine HandSPX.lands_againZ fl3 fun h4 fl4 up4 => ?_
        have J4 : Inv X pins σ' H' { s' with heap := h4 } := J.landed nb fl4.1 ((up.trans up3).trans up4) os ag
        obtain ⟨oe4, vs4, he4, hz4, hd4⟩ := fl4.there
        have J5 := inv_known (o := .ext (ExcAt cls a)) J4 J hI na nL nF (fun v ⟨o, ho, hd⟩ => by
          have ho' : h4.get? a = some o := ho
          rw [he4] at ho'; cases ho'; rw [hd4] at hd; cases hd) (excAt_ok he4 hz4 ⟨_, hd4⟩)
        have S5 := inv_suite J5 a
        refine store_ok (X := X.suite a (X.pn ++ pins)) (v := .ref a) S5 hN hi hloc rfl (fun s6 S6 => ?_) (.inr hln)
        refine wpAny_mono ((hsu a (X.pn ++ pins)).run [] s6 _ _ _ S6 (hy2 a na)) (fun f s7 hsp => ?_) (fun _ _ z => False.elim z)
        have end_ : ∀ {σ6 : L2.St} {H6 : Hp} {Q : Shared → Prop} {s7 : Shared}, Inv (X.suite a (X.pn ++ pins)) [] σ6 H6 s7 → (∀ s8, Inv X pins (σ6.set i none) H6 s8 → Q s8) →
            wpAny (model X.prog X.w) X.A (do bindName X.env n .none; unbindBehindTheSuite X.env n pos') (fun _ s8 => Q s8) X.xe s7 := fun {σ6 H6 Q s7} S7 hq => L2.gone_ok (inv_unsuite S7 ok) hN hi hln hq
        cases f with
        | next =>
          obtain ⟨σ6, H6, S7, q6⟩ := hsp
          exact end_ S7 fun s8 J8 => ⟨_, _, J8, q6⟩
        | brk =>
          obtain ⟨σ6, H6, S7, q6⟩ := hsp
          exact end_ S7 fun s8 J8 => ⟨_, _, J8, q6⟩
        | cont =>
          obtain ⟨σ6, H6, S7, q6⟩ := hsp
          exact end_ S7 fun s8 J8 => ⟨_, _, J8, q6⟩
        | ret u =>
          obtain ⟨v6, σ6, H6, S7, r6, q6⟩ := hsp
          exact end_ S7 fun s8 J8 => ⟨_, _, _, J8, r6, q6⟩
      induction hk with
      | nil =>
        intro h3 fl3 up3 w
        refine wpAny_handleBy_nil ?_
        obtain ⟨k1, k2, k3, oe, vs, T, oT, ts', he, hz, hd, h1, hr⟩ := id fl3
        unfold PySem.passOn
        refine wpAny_bind (wpAny_field he hd h1 ?_)
        rw [if_neg (show ¬ ((Value.ref T == Value.none) = true) from by simp)]
        have fin : wpAny (model X.prog X.w) X.A (setFlight (.ref a) X.env.frame) (fun _ s4 => wpAny (model X.prog X.w) X.A (throw (.ref a) : Sem Flow) (SP X pins D) X.xe s4) X.xe { s' with heap := h3 } := by
          rw [hf]
          refine HandSPX.setFlight_upZ fl3 fun h4 hh4 up4 => wpAny_throw (tk _ _ ?_)
          exact ⟨a, B, sI, pins, σ', H', cls, d, rfl, J, nb, (up.trans up3).trans up4, .inr (.inr (by rw [hs]; exact hh4)), na, os, ag, w⟩
        first
          | exact wpAny_bind (wpAny_pure (wpAny_bind fin))
          | exact wpAny_bind fin
      | @cons x n c i ts b₀ suite np pos' hds2 l2 hc hi hln hsu r ih =>
        intro h3 fl3 up3 w
        obtain ⟨b, hb1, hyes, hno⟩ := w
        have J3 : Inv X pins σ' H' { s' with heap := h3 } := J.landed nb fl3.1 (up.trans up3) os ag
        obtain ⟨oe3, vs3, he3, hz3, hd3⟩ := fl3.there
        have S3 := J3.suite he3 hd3 na nL nF
        refine wpAny_handleBy_cons (codeAny_handlers_test ?_) (by intro q; cases q)
        have LT : PySem.W.Looks (model X.prog X.w) h3 (typeOf (.ref a)) cls := fun A Q E s k q => wpAny_typeOf_ref (k _ _ he3) (by rw [hz3.1]; exact q)
        have hb0 : PySem.W.exmOne X.K cls c = some b := by
          obtain ⟨b1, d1, e1, e2, e3⟩ := PySem.W.exmAny_cons hb1
          cases e2
          rw [e1, e3, Bool.or_false]
        have LM := PySem.W.exm_one (M := model X.prog X.w) (J3.kIn) LT hb0
        have test : ∀ {Q : Value → Shared → Prop} {E : Value → Shared → Prop}, Q c { s' with heap := h3 } → wpAny (model X.prog X.w) (X.A.mark (some (.ref a))) (eval (.Name x np) X.env) Q E { s' with heap := h3 } := fun {Q E} q => by
          obtain ⟨hg, hdbg, hm | ⟨hm, hv, hnn⟩⟩ := hc
          · exact ld_glob (X := X.suite a ((a, oe3) :: (X.pn ++ pins))) S3 hg hm q hdbg
          · exact ld_blt (X := X.suite a ((a, oe3) :: (X.pn ++ pins))) S3 hg hm hv q hnn hdbg
        refine test (LM.here ?_)
        cases b with
        | true =>
          obtain ⟨hdn, hy2⟩ := hyes rfl
          refine codeAny_handlers_suite_as ?_
          exact wpAny_mono (suite_ hi hln hsu hdn hy2 h3 fl3 up3 (E := fun _ _ => True)) (fun _ _ z => wpAny_mono z (fun _ _ z => wpAny_mono z (fun _ _ z => z) (fun _ _ z => z.elim)) (fun _ _ z => z.elim)) (fun _ _ z => z.elim)
        | false =>
          show wpAny _ X.A (handleBy (.ref a) X.env hds2) _ _ _
          exact ih h3 fl3 up3 (hno rfl)
      | @cons2 x x2 n c c2 i kk ts b₀ suite np np2 tp pos' hds2 l2 hc hc2 hi hln hsu r ih =>
        intro h3 fl3 up3 w
        obtain ⟨b, hb1, hyes, hno⟩ := w
        have J3 : Inv X pins σ' H' { s' with heap := h3 } := J.landed nb fl3.1 (up.trans up3) os ag
        obtain ⟨oe3, vs3, he3, hz3, hd3⟩ := fl3.there
        have S3 := J3.suite he3 hd3 na nL nF
        refine wpAny_handleBy_cons (codeAny_handlers_test ?_) (by intro q; cases q)
        have LT : PySem.W.Looks (model X.prog X.w) h3 (typeOf (.ref a)) cls := fun A Q E s k q => wpAny_typeOf_ref (k _ _ he3) (by rw [hz3.1]; exact q)
        have test : ∀ {x : Str} {c : Value} {np : Pos} {Q : Value → Shared → Prop} {E : Value → Shared → Prop}, Names X x c → Q c { s' with heap := h3 } → wpAny (model X.prog X.w) (X.A.mark (some (.ref a))) (eval (.Name x np) X.env) Q E { s' with heap := h3 } := fun {x c np Q E} hc q => by
          obtain ⟨hg, hdbg, hm | ⟨hm, hv, hnn⟩⟩ := hc
          · exact ld_glob (X := X.suite a ((a, oe3) :: (X.pn ++ pins))) S3 hg hm q hdbg
          · exact ld_blt (X := X.suite a ((a, oe3) :: (X.pn ++ pins))) S3 hg hm hv q hnn hdbg
        refine wpAny_Tuple ?_
        refine wpAny_items_cons (test hc ?_)
        refine wpAny_items_cons (test hc2 ?_)
        refine wpAny_items_nil ⟨by size_fits, ?_⟩
        have kp : ∀ q o, h3.get? q = some o → (h3.push { cls := .type "tuple", data := .seq [c, c2].toArray }).get? q = some o := fun _ _ z => Heap.get?_push_of_some _ z
        have LM := PySem.W.exm_tup2 (M := model X.prog X.w) ((J3.kIn).keeps kp) (LT.keeps kp) (Heap.get?_push_size h3 rfl) hb1
        have fl5 := flyZ_keeps fl3 kp
        have up5 := up3.trans (Heap.UpToSlots.of_keeps kp)
        refine LM.here ?_
        cases b with
        | true =>
          obtain ⟨hdn, hy2⟩ := hyes rfl
          refine codeAny_handlers_suite_as ?_
          exact wpAny_mono (suite_ hi hln hsu hdn hy2 _ fl5 up5 (E := fun _ _ => True)) (fun _ _ z => wpAny_mono z (fun _ _ z => wpAny_mono z (fun _ _ z => z) (fun _ _ z => z.elim)) (fun _ _ z => z.elim)) (fun _ _ z => z.elim)
        | false =>
          show wpAny _ X.A (handleBy (.ref a) X.env hds2) _ _ _
          exact ih _ fl5 up5 (hno rfl)
    exact go hh h3 fl0 up3 w
  · cases f with
    | next =>
      obtain ⟨σ', H', J', q⟩ := hsp
      exact wpAny_execs_nil ⟨σ', H', J'.ofTry ok, q⟩
    | brk =>
      obtain ⟨σ', H', J', q⟩ := hsp
      exact ⟨σ', H', J'.ofTry ok, q⟩
    | cont =>
      obtain ⟨σ', H', J', q⟩ := hsp
      exact ⟨σ', H', J'.ofTry ok, q⟩
    | ret u =>
      obtain ⟨v, σ', H', J', r, q⟩ := hsp
      exact ⟨v, σ', H', J'.ofTry ok, r, q⟩
end
end AL

namespace AL
open PySem PySem.Spec PyProof.Rows L2
variable {B : Bs}
def goneA (i : Nat) (E : AEnds) : AEnds := ⟨fun s C => E.nx (s.set i none) C, E.rt, fun s C => E.bk (s.set i none) C, fun s C => E.ct (s.set i none) C⟩
/-- whether a class is below one of some, where each is known -/
def anyS (sub : Str → Str → Option Bool) (nm : Str) : List Str → Option Bool
  | [] => some false
  | c :: r => match sub nm c, anyS sub nm r with
    | some b, some d => some (b || d)
    | _, _ => none
def aHandA (sub : Str → Str → Option Bool) (Wout : AX') (E : AEnds) : List (List Str × Nat × AS') → AX'
  | [] => Wout
  | (c, i, h) :: r => fun s nm C => match anyS sub nm c with | some true => ∀ a, C a = none → h (goneA i E) (s.set i (some (.ce a))) (put C a (.exc nm)) | some false => aHandA sub Wout E r s nm C | none => False
def aTryA (sub : Str → Str → Option Bool) (body : AX' → AS') (hds : List (List Str × Nat × AS')) (Wout : AX') : AS' := fun E s C => body (aHandA sub Wout E hds) E s C
theorem Slo.unset {K : PySem.W.Frag} {F : Hp} {s : ASt} {σ : L2.St} (r : Slo K F s σ) (i : Nat) : Slo K F (s.set i none) (σ.set i none) := by
  refine ⟨by rw [List.length_set, List.length_set, r.len], fun j e q => ?_⟩
  by_cases hj : i = j
  · subst hj
    by_cases hi : i < s.length
    · rw [List.getElem?_set_self hi] at q; cases q
    · rw [List.getElem?_eq_none (by rw [List.length_set]; omega)] at q; cases q
  · rw [List.getElem?_set_ne hj] at q
    obtain ⟨v, h1, h2⟩ := r.at' j e q
    exact ⟨v, by rw [List.getElem?_set_ne hj]; exact h1, h2⟩
theorem EndsR.gone {K : PySem.W.Frag} {F R : Hp} {E : AEnds} {D' : Ends} (hE : EndsR B K F R E D') (i : Nat) : EndsR B K F R (goneA i E) (goneE i D') :=
  ⟨fun s σ F' C' H' e hs S h => hE.nx _ _ F' C' H' e (hs.unset i) S h, hE.rt, fun s σ F' C' H' e hs S h => hE.bk _ _ F' C' H' e (hs.unset i) S h, fun s σ F' C' H' e hs S h => hE.ct _ _ F' C' H' e (hs.unset i) S h⟩
theorem anyS_cons {sub : Str → Str → Option Bool} {nm c : Str} {r : List Str} {b : Bool} (h : anyS sub nm (c :: r) = some b) : ∃ b1 d1, sub nm c = some b1 ∧ anyS sub nm r = some d1 ∧ b = (b1 || d1) := by
  unfold anyS at h
  split at h
  · rename_i b1 d1 h1 h2
    exact ⟨b1, d1, h1, h2, (Option.some.inj h).symm⟩
  · cases h
theorem exmAny_mk {K : PySem.W.Frag} {cls c : Value} {r : List Value} {b d e : Bool} (h1 : PySem.W.exmOne K cls c = some b) (h2 : PySem.W.exmAny K cls r = some d) (h3 : e = (b || d)) : PySem.W.exmAny K cls (c :: r) = some e := by
  unfold PySem.W.exmAny
  rw [h1, h2, h3]
inductive AHdsA (X : Cx) : List ExceptHandler → List (List Value × Nat × TS) → List (List Str × Nat × AS') → Prop
  | nil : AHdsA X [] [] []
  | cons {x n : Str} {c : Value} {i : Nat} {ts : TS} {ha : AS'} {b₀ : Stmt} {suite : List Stmt} {np pos' : Pos} {hds : List ExceptHandler} {l : List (List Value × Nat × TS)} {la : List (List Str × Nat × AS')} (hm : X.mg x = some c) (hg : Gl X x) (hdb : (x == ("__debug__" : Str)) = false)
      (hi : X.N[i]? = some n) (hln : X.env.kindOf n = some .local)
      (hsu : ∀ (B : Bs) (hw : B.g = ⟨X.w, X.mg⟩) (a : Addr) (pn : List (Addr × Obj)), ASs B (X.suite a pn) (b₀ :: suite) ts ha) (r : AHdsA X hds l la) :
      AHdsA X (.ExceptHandler (some (.Name x np)) (some n) (b₀ :: suite) pos' :: hds) (([c], i, ts) :: l) (([x], i, ha) :: la)
  | cons2 {x x2 n : Str} {c c2 : Value} {i kk : Nat} {ts : TS} {ha : AS'} {b₀ : Stmt} {suite : List Stmt} {np np2 tp pos' : Pos} {hds : List ExceptHandler} {l : List (List Value × Nat × TS)} {la : List (List Str × Nat × AS')} (hm : X.mg x = some c) (hg : Gl X x) (hdb : (x == ("__debug__" : Str)) = false)
      (hm2 : X.mg x2 = some c2) (hg2 : Gl X x2) (hdb2 : (x2 == ("__debug__" : Str)) = false) (hi : X.N[i]? = some n) (hln : X.env.kindOf n = some .local)
      (hsu : ∀ (B : Bs) (hw : B.g = ⟨X.w, X.mg⟩) (a : Addr) (pn : List (Addr × Obj)), ASs B (X.suite a pn) (b₀ :: suite) ts ha) (r : AHdsA X hds l la) :
      AHdsA X (.ExceptHandler (some (.Tuple [.Name x np, .Name x2 np2] kk tp)) (some n) (b₀ :: suite) pos' :: hds) (([c, c2], i, ts) :: l) (([x, x2], i, ha) :: la)
section
variable {X : Cx} {body : List Stmt} {h₀ : ExceptHandler} {hds : List ExceptHandler} {l : List (List Value × Nat × TS)} {la : List (List Str × Nat × AS')} {pos : Pos} {tb : WX → TS} {W : AX'} {Wk : WX} {ab : AX' → AS'} {sub : Str → Str → Option Bool}
theorem AHdsA.ok {hds : List ExceptHandler} (h : AHdsA X hds l la) : HdsA X hds l := by
  induction h with
  | nil => exact .nil
  | cons hm hg hdb hi hln hsu r ih => exact .cons ⟨hg, hdb, .inl hm⟩ hi hln (fun a pn => (hsu (Bs.nil ⟨X.w, X.mg⟩) rfl a pn).ps) ih
  | cons2 hm hg hdb hm2 hg2 hdb2 hi hln hsu r ih => exact .cons2 ⟨hg, hdb, .inl hm⟩ ⟨hg2, hdb2, .inl hm2⟩ hi hln (fun a pn => (hsu (Bs.nil ⟨X.w, X.mg⟩) rfl a pn).ps) ih
theorem hand_okA (hw : B.g = ⟨X.w, X.mg⟩) {F R : Hp} {E : AEnds} {D' : Ends} {hds : List ExceptHandler} (h : AHdsA X hds l la) (rel : WR B X.K X.mg W Wk) (sf : SubF X.K X.mg sub) (hbF : Ex B.F0 F) (hbR : Ex B.R0 R) (hE : EndsR B X.K F R E D') :
    WR ⟨F, R, B.g⟩ X.K X.mg (aHandA sub W E la) (wManyA X.K Wk D' l) := by
  induction h with
  | nil => exact fun nm cls s σ F' C' H' hm hs S h => rel nm cls s σ F' C' H' hm hs (S.rebase (B' := B) rfl (hbF.trans S.bF) hbR).at0 h
  | @cons x n c i ts ha b₀ suite np pos' hds l la hmx hg hdb hi hln hsu r ih =>
    intro nm cls s σ F' C' H' hm hs S h
    have ex : ∀ b, anyS sub nm [x] = some b → PySem.W.exmAny X.K cls [c] = some b := fun b e => by
      obtain ⟨b1, d1, e1, e2, e3⟩ := anyS_cons e
      cases e2
      exact exmAny_mk (d := false) (sf nm x b1 cls c e1 hm hmx) rfl e3
    unfold aHandA at h
    split at h
    · rename_i e
      refine ⟨true, ex _ e, fun _ => ⟨rfl, fun a na => ?_⟩, fun q => nomatch q⟩
      have S1 : Sat B X.K F' C' R H' := S.rebase rfl (hbF.trans S.bF) hbR
      have hc : CellC B.g X.K F' a (.ext (ExcAt cls a)) (.exc nm) := .exc (by rw [hw]; exact hm)
      have S2 := S1.newC na hc
      exact (hsu B hw a []).sim (goneE i D') (goneA i E) _ _ F' _ R _ ((hE.gone i).mono S.bF) (hs.set (.ce a) i) S2 (h a (S1.freeC na))
    · rename_i e
      exact ⟨false, ex _ e, (fun q => by cases q), fun _ => ih nm cls s σ F' C' H' hm hs S h⟩
    · exact h.elim
  | @cons2 x x2 n c c2 i kk ts ha b₀ suite np np2 tp pos' hds l la hmx hg hdb hmx2 hg2 hdb2 hi hln hsu r ih =>
    intro nm cls s σ F' C' H' hm hs S h
    have ex : ∀ b, anyS sub nm [x, x2] = some b → PySem.W.exmAny X.K cls [c, c2] = some b := fun b e => by
      obtain ⟨b1, d1, e1, e2, e3⟩ := anyS_cons e
      obtain ⟨b2, d2, f1, f2, f3⟩ := anyS_cons e2
      cases f2
      exact exmAny_mk (sf nm x b1 cls c e1 hm hmx) (exmAny_mk (d := false) (sf nm x2 b2 cls c2 f1 hm hmx2) rfl f3) e3
    unfold aHandA at h
    split at h
    · rename_i e
      refine ⟨true, ex _ e, fun _ => ⟨rfl, fun a na => ?_⟩, fun q => nomatch q⟩
      have S1 : Sat B X.K F' C' R H' := S.rebase rfl (hbF.trans S.bF) hbR
      have hc : CellC B.g X.K F' a (.ext (ExcAt cls a)) (.exc nm) := .exc (by rw [hw]; exact hm)
      have S2 := S1.newC na hc
      exact (hsu B hw a []).sim (goneE i D') (goneA i E) _ _ F' _ R _ ((hE.gone i).mono S.bF) (hs.set (.ce a) i) S2 (h a (S1.freeC na))
    · rename_i e
      exact ⟨false, ex _ e, (fun q => by cases q), fun _ => ih nm cls s σ F' C' H' hm hs S h⟩
    · exact h.elim
theorem as_tryA (hN : X.N.Nodup) (hs : X.stack = X.env :: X.outer) (hf : X.env.frame = some X.env.locals) (tk : Takes X Wk) (rel : WR B X.K X.mg W Wk) (sf : SubF X.K X.mg sub) (hw : B.g = ⟨X.w, X.mg⟩)
    (hb : ∀ (B' : Bs) (hw : B'.g = ⟨X.w, X.mg⟩) (W' : AX') (Wk' : WX) (pn : List (Addr × Obj)) (xe : Value → Shared → Prop), Takes (X.tr pn xe) Wk' → WR B' X.K X.mg W' Wk' → PassesOwn (model X.prog X.w) X.A X.env xe → ASs B' (X.tr pn xe) body (tb Wk') (ab W'))
    (hh : AHdsA X (h₀ :: hds) l la) : AS B X (.Try body (h₀ :: hds) [] [] pos) (fun D σ H => tb (wManyA X.K Wk D l) D σ H) (aTryA sub ab la W) := by
  refine ⟨ps_try_manyA hN hs hf tk (fun Wk' pn xe tk' hp => (hb (Bs.nil ⟨X.w, X.mg⟩) rfl (fun _ _ _ => False) Wk' pn xe tk' (fun _ _ _ _ _ _ _ _ _ _ h => h.elim) hp).ps) hh.ok, fun D' E σ s F C R H hE hs' hS h => ?_⟩
  exact (hb ⟨F, R, B.g⟩ hw (aHandA sub W E la) (wManyA X.K Wk D' l) [] _ (takes_any hs hf []) (hand_okA hw hh rel sf hS.bF hS.bR hE) PassesOwn.looking).sim D' E σ s F C R H (hE.ground hS.bF hS.bR) hs' (hS.rebase rfl (Ex.refl _) (Ex.refl _)) h
end
section
variable {C : AH} {W : AX'} {E : AEnds} {s : ASt}
theorem g_tryA {sub : Str → Str → Option Bool} {body : AX' → AS'} {hds : List (List Str × Nat × AS')} (h : body (aHandA sub W E hds) E s C) : aTryA sub body hds W E s C := h
theorem g_handAT {sub : Str → Str → Option Bool} {c : List Str} {nm : Str} {i : Nat} {ha : AS'} {r : List (List Str × Nat × AS')} (e : anyS sub nm c = some true) (h : ∀ a, C a = none → ha (goneA i E) (s.set i (some (.ce a))) (put C a (.exc nm))) : aHandA sub W E ((c, i, ha) :: r) s nm C := by
  unfold aHandA
  rw [e]
  exact h
theorem g_handAF {sub : Str → Str → Option Bool} {c : List Str} {nm : Str} {i : Nat} {ha : AS'} {r : List (List Str × Nat × AS')} (e : anyS sub nm c = some false) (h : aHandA sub W E r s nm C) : aHandA sub W E ((c, i, ha) :: r) s nm C := by
  unfold aHandA
  rw [e]
  exact h
end
end AL

namespace AL
open PySem PySem.Spec PyProof.Rows L2
variable {B : Bs}
/-! ### isinstance(caught, C), isinstance(caught, (C1, C2, ..)) -/
/-- a class by its name: an own one, or the built-in ValueError -/
def clsN (mg : Str → Option Value) (c : Str) (u : Value) : Prop := (mg c = some u ∧ ∃ C, u = .ref C) ∨ (c = "ValueError" ∧ u = .type "ValueError")
/-- what is known of which class an exception is -/
def IsF (K : PySem.W.Frag) (mg : Str → Option Value) (isub : Str → Str → Option Bool) : Prop := ∀ nm c b cls u, isub nm c = some b → mg nm = some cls → clsN mg c u → ∃ D, cls = .ref D ∧ ExcC K D ∧ PySem.W.kitOne K cls u = some b
def isAny (isub : Str → Str → Option Bool) (nm : Str) : List Str → Option Bool
  | [] => some false
  | c :: r => match isub nm c with
    | some true => some true
    | some false => isAny isub nm r
    | none => none
def aIsX (isub : Str → Str → Option Bool) (cs : List Str) (a : AE') : AE' := fun s C P => a s C fun d C1 => match d with
  | .ce p => (match C1 p with | some (.exc nm) => (match isAny isub nm cs with | some b => P (.bl b) C1 | none => False) | _ => False)
  | _ => False
/-- a class's expression -/
structure AC (X : Cx) (e : Expr) (v : V) (u : Value) (x : Str) : Prop where
  pe : PE X e (tC v)
  cv : ClsV v u
  cn : clsN X.mg x u
theorem ac_own {X : Cx} {x : Str} {C : Addr} {p : Pos} (h : X.mg x = some (.ref C)) (hg : Gl X x := by rfl) (hdb : (x == ("__debug__" : Str)) = false := by decide) : AC X (.Name x p) (.ref C) (.ref C) x :=
  ⟨pe_glob hg h rfl hdb, .own C, .inl ⟨h, C, rfl⟩⟩
theorem ac_val {X : Cx} {p : Pos} (hm : X.mg "ValueError" = none) (hg : Gl X "ValueError" := by rfl) : AC X (.Name "ValueError" p) (.ty "ValueError") (.type "ValueError") "ValueError" :=
  ⟨pe_bltn hg hm (by decide +kernel) rfl (by decide) (by decide), .ty _, .inr ⟨rfl, rfl⟩⟩
inductive ACs (X : Cx) : List Expr → TA → List V → List Value → List Str → Prop
  | nil : ACs X [] tNil [] [] []
  | cons {e : Expr} {es : List Expr} {v : V} {u : Value} {x : Str} {t : TA} {vs : List V} {us : List Value} {xs : List Str} (h : AC X e v u x) (r : ACs X es t vs us xs) (he : starEach (e :: es) X.env = (false, eval e X.env) :: starEach es X.env) :
      ACs X (e :: es) (tCons (tC v) t) (v :: vs) (u :: us) (x :: xs)
section
variable {X : Cx} {es : List Expr} {t : TA} {vs : List V} {us : List Value} {xs : List Str}
theorem ACs.pa (h : ACs X es t vs us xs) : PA X es t := by
  induction h with
  | nil => exact pa_nil
  | cons h r he ih => exact pa_cons h.pe ih he
theorem ACs.run (h : ACs X es t vs us xs) : ∀ {σ : L2.St} {H : Hp} {Q : List V → Hp → Prop}, Q vs H → t σ H Q := by
  induction h with
  | nil => exact fun q => q
  | cons h r he ih => exact fun {σ H Q} q => ih (Q := fun ws H2 => Q (_ :: ws) H2) q
theorem ACs.cv (h : ACs X es t vs us xs) : Paired ClsV vs us := by
  induction h with
  | nil => exact .nil
  | cons h r he ih => exact .cons h.cv ih
theorem ACs.len (h : ACs X es t vs us xs) : vs.length = es.length := by
  induction h with
  | nil => rfl
  | cons h r he ih => rw [List.length_cons, List.length_cons, ih]
theorem ACs.any (h : ACs X es t vs us xs) {isub : Str → Str → Option Bool} (f : IsF X.K X.mg isub) {nm : Str} {cls : Value} {b : Bool} (hm : X.mg nm = some cls) : isAny isub nm xs = some b → PySem.W.kitAny X.K cls us = some b := by
  induction h with
  | nil => exact fun e => e
  | @cons e es v u x t vs us xs h r he ih =>
    intro e
    unfold isAny at e
    unfold PySem.W.kitAny
    split at e
    · rename_i q
      obtain ⟨D, _, _, k⟩ := f nm x true cls u q hm h.cn
      rw [k]
      exact e
    · rename_i q
      obtain ⟨D, _, _, k⟩ := f nm x false cls u q hm h.cn
      rw [k]
      exact ih e
    · cases e
end
/-- a tracked exception of the class D -/
def ExcT (K : PySem.W.Frag) (H : Hp) (x : V) (t : Value) : Prop := ∃ a D, x = .ref a ∧ H a = some (.ext (ExcAt (.ref D) a)) ∧ t = .ref D ∧ ExcC K D
def rIsX (K : PySem.W.Frag) : List V → Hp → VK → Prop := fun xs H Q => ∃ (x c : V) (t u : Value) (b : Bool), xs = [x, c] ∧ ClsV c u ∧ ExcT K H x t ∧ PySem.W.kitOne K t u = some b ∧ Q (.bl b) H
def rIsXT (K : PySem.W.Frag) : List V → Hp → VK → Prop := fun xs H Q => ∃ (x : V) (tp : Addr) (cs : List V) (t : Value) (us : List Value) (b : Bool), xs = [x, .ref tp] ∧ H tp = some (.tup cs) ∧ Paired ClsV cs us ∧ ExcT K H x t ∧ PySem.W.kitAny K t us = some b ∧ Q (.bl b) H
section
variable {X : Cx}
theorem kit_exc {pins : List (Addr × Obj)} {σ : L2.St} {H : Hp} {s : Shared} {x : V} {u t : Value} (I : Inv X pins σ H s) (rx : RelV x u) (ty : ExcT X.K H x t) : ∃ P : Heap → Prop, PySem.W.KitX X.K u t P ∧ P s.heap ∧ u ≠ .builtin "__main__.__loader__#opaque" := by
  obtain ⟨a, D, rfl, e, rfl, C⟩ := ty
  cases rx
  obtain ⟨⟨oe, vs, h1, h2, h3, h4⟩, _, _⟩ := (show ObjOk X.prog X.w H s.heap a (.ext (ExcAt (.ref D) a)) from I.hok a _ e)
  have J : PySem.W.InstAt s.heap a oe D none := by
    obtain ⟨oc, od, oda, osl⟩ := oe
    dsimp only at h2 h3 h4
    subst h2 h3 h4
    exact ⟨h1, rfl, rfl, trivial⟩
  exact ⟨_, PySem.W.handS_kitx_exc C.hg C.hk C.hs C.hd C.ha C.hn C.ht C.hm, J, fun z => nomatch z⟩
theorem call_isX : CallR X (.builtin "isinstance") (rIsX X.K) := by
  intro pins s σ H xs us Q I r h
  obtain ⟨x, c, t, u, b, rfl, k, ty, e, q⟩ := h
  obtain ⟨u1, u2, rfl, r1, r2⟩ := vals2 r
  have e2 := k.eq r2
  subst e2
  obtain ⟨P, Z, p, hx⟩ := kit_exc I r1 ty
  exact PySem.W.kia_one Z I.kIn p e hx fun tk => ⟨.bl b, H, I.tok tk, rfl, q⟩
theorem call_isXT : CallR X (.builtin "isinstance") (rIsXT X.K) := by
  intro pins s σ H xs us Q I r h
  obtain ⟨x, tp, cs, t, ws, b, rfl, hT, k, ty, e, q⟩ := h
  obtain ⟨u1, u2, rfl, r1, r2⟩ := vals2 r
  cases (show u2 = Value.ref tp from r2)
  obtain ⟨P, Z, p, hx⟩ := kit_exc I r1 ty
  obtain ⟨_, its, rv, o, h1, h2, n, h3⟩ := (show ObjOk X.prog X.w H s.heap tp (.tup cs) from I.hok tp _ hT)
  have e3 := ClsV.all k rv
  subst e3
  obtain ⟨oc, od, dt, sl⟩ := o
  simp only at h2 h3
  subst h2 h3
  exact PySem.W.kia_tup Z I.kIn p h1 e hx fun tk => ⟨.bl b, H, I.tok tk, rfl, q⟩
variable {pos p p4 : Pos} {k4 : Nat} {K : PySem.W.Frag} {e c : Expr} {cs : List Expr} {te : TE} {a : AE'} {v : V} {u : Value} {x : Str} {t : TA} {vs : List V} {us : List Value} {xs : List Str} {isub : Str → Str → Option Bool}
theorem exc_at {F : Hp} {C : AH} {R H : Hp} {p : Addr} {nm : Str} {mg : Str → Option Value} (hS : Sat B K F C R H) (hmg : B.g.mg = mg) (q : C p = some (.exc nm)) : ∃ cls, mg nm = some cls ∧ H p = some (.ext (ExcAt cls p)) := by
  obtain ⟨_, o, h1, h2⟩ := hS.cell p _ q
  cases h2 with
  | exc h => exact ⟨_, by rw [← hmg]; exact h, h1⟩
theorem ae_isX (h : AE B X e te a) (hc : AC X c v u x) (hm : X.mg "isinstance" = none) (isf : IsF X.K X.mg isub) (hw : B.g = ⟨X.w, X.mg⟩ := by first | rfl | assumption) (hg : Gl X "isinstance" := by rfl)
    (he : starEach [e, c] X.env = (false, eval e X.env) :: starEach [c] X.env := by rfl) (hpl : (backTo pos (starEach [c] X.env)).any (·.1) = false := by rfl) (h2 : starEach [c] X.env = (false, eval c X.env) :: starEach [] X.env := by rfl) :
    AE B X (.Call (.Name "isinstance" p) [e, c] [] pos) (tCB (rIsX X.K) (tCons te (tCons (tC v) tNil))) (aIsX isub [x] a) := by
  refine ⟨pe_callB call_isX hg hm (by decide +kernel) (pa_cons h.pe (pa_cons hc.pe pa_nil h2) he) (by decide) (by decide) he hpl, ?_⟩
  intro σ s F C R H Q P hs hS h0 k
  refine h.sim σ s F C R H _ _ hs hS h0 fun d w F1 C1 H1 e1 S1 r1 h1 => ?_
  split at h1
  · rename_i q0
    cases r1
    split at h1
    · rename_i nm q
      split at h1
      · rename_i b q2
        obtain ⟨cls, g1, g2⟩ := exc_at S1 (by rw [hw]) q
        have g3 : ∃ b', isub nm x = some b' ∧ b' = b := by
          unfold isAny at q2
          split at q2
          · rename_i z; cases q2; exact ⟨_, z, rfl⟩
          · rename_i z; cases q2; exact ⟨_, z, rfl⟩
          · cases q2
        obtain ⟨b', g3, rfl⟩ := g3
        obtain ⟨D, rfl, g4, g5⟩ := isf nm x b' cls u g3 g1 hc.cn
        exact ⟨.ref q0, v, .ref D, u, b', rfl, hc.cv, ⟨q0, D, rfl, g2, rfl, g4⟩, g5, k _ _ F1 C1 H1 e1 S1 (.bl _) h1⟩
      · exact h1.elim
    · exact h1.elim
  · exact h1.elim
theorem ae_isXT (h : AE B X e te a) (hc : ACs X cs t vs us xs) (hl : cs.length ≤ 100) (hm : X.mg "isinstance" = none) (isf : IsF X.K X.mg isub) (h1 : xs ≠ []) (hw : B.g = ⟨X.w, X.mg⟩ := by first | rfl | assumption) (hg : Gl X "isinstance" := by rfl)
    (he : starEach [e, .Tuple cs k4 p4] X.env = (false, eval e X.env) :: starEach [.Tuple cs k4 p4] X.env := by rfl) (hpl : (backTo pos (starEach [.Tuple cs k4 p4] X.env)).any (·.1) = false := by rfl) (h2 : starEach [.Tuple cs k4 p4] X.env = (false, eval (.Tuple cs k4 p4) X.env) :: starEach [] X.env := by rfl) :
    AE B X (.Call (.Name "isinstance" p) [e, .Tuple cs k4 p4] [] pos) (tCB (rIsXT X.K) (tCons te (tCons (tTup t) tNil))) (aIsX isub xs a) := by
  refine ⟨pe_callB call_isXT hg hm (by decide +kernel) (pa_cons h.pe (pa_cons (pe_tup hc.pa) pa_nil h2) he) (by decide) (by decide) he hpl, ?_⟩
  intro σ s F C R H Q P hs hS h0 k
  refine h.sim σ s F C R H _ _ hs hS h0 fun d w F1 C1 H1 e1 S1 r1 h1' => ?_
  split at h1'
  · rename_i q0
    cases r1
    split at h1'
    · rename_i nm q
      split at h1'
      · rename_i b q2
        obtain ⟨cls, g1, g2⟩ := exc_at S1 (by rw [hw]) q
        refine hc.run ⟨by rw [hc.len, sizeLine_eq]; omega, fun tp hp => ?_⟩
        have eN := Ex.new (o := .tup vs) (S1.freeF hp)
        have S2 := S1.newF hp (.tup vs)
        have hne : q0 ≠ tp := ne_of_none g2 hp
        have g5 := hc.any isf g1 q2
        obtain ⟨x0, xs0, rfl⟩ : ∃ x0 xs0, xs = x0 :: xs0 := by
          cases xs with
          | nil => exact absurd rfl h1
          | cons x0 xs0 => exact ⟨x0, xs0, rfl⟩
        cases hc with
        | cons hcx _ _ =>
          obtain ⟨b0, g3⟩ : ∃ b0, isub nm x0 = some b0 := by
            unfold isAny at q2
            split at q2
            · rename_i z; exact ⟨_, z⟩
            · rename_i z; exact ⟨_, z⟩
            · cases q2
          obtain ⟨D, rfl, g4, _⟩ := isf nm x0 b0 cls _ g3 g1 hcx.cn
          exact ⟨.ref q0, tp, _, .ref D, _, b, rfl, upd_same, .cons hcx.cv (by rename_i r _; exact r.cv), ⟨q0, D, rfl, by rw [upd_ne hne]; exact g2, rfl, g4⟩, g5, k _ _ _ _ _ (e1.trans eN) S2 (.bl _) h1'⟩
      · exact h1'.elim
    · exact h1'.elim
  · exact h1'.elim
end
/-! #### the facts of the classes -/
theorem isF_nil {K : PySem.W.Frag} {mg : Str → Option Value} : IsF K mg (subL []) := fun _ _ _ _ _ h => by cases h
theorem isF_cons {K : PySem.W.Frag} {mg : Str → Option Value} {a b : Str} {r : Bool} {l : List (Str × Str × Bool)} {D : Addr} {u : Value} (h1 : mg a = some (.ref D)) (h2 : mg b = some u) (hb : b ≠ "ValueError") (c : ExcC K D) (h : PySem.W.kitOne K (.ref D) u = some r) (t : IsF K mg (subL l)) : IsF K mg (subL ((a, b, r) :: l)) := by
  intro nm c' q cls cc e m1 m2
  unfold subL at e
  split at e
  · rename_i z
    obtain ⟨rfl, rfl⟩ := z
    rw [h1] at m1
    cases m1; cases e
    rcases m2 with ⟨m2, _⟩ | ⟨m2, _⟩
    · rw [h2] at m2; cases m2
      exact ⟨D, rfl, c, h⟩
    · exact absurd m2 hb
  · exact t nm c' q cls cc e m1 m2
theorem isF_val {K : PySem.W.Frag} {mg : Str → Option Value} {a : Str} {r : Bool} {l : List (Str × Str × Bool)} {D : Addr} (h1 : mg a = some (.ref D)) (h2 : mg "ValueError" = none) (c : ExcC K D) (h : PySem.W.kitOne K (.ref D) (.type "ValueError") = some r) (t : IsF K mg (subL l)) : IsF K mg (subL ((a, "ValueError", r) :: l)) := by
  intro nm c' q cls cc e m1 m2
  unfold subL at e
  split at e
  · rename_i z
    obtain ⟨rfl, rfl⟩ := z
    rw [h1] at m1
    cases m1; cases e
    rcases m2 with ⟨m2, _⟩ | ⟨_, rfl⟩
    · rw [h2] at m2; cases m2
    · exact ⟨D, rfl, c, h⟩
  · exact t nm c' q cls cc e m1 m2
theorem kit_ne {K : PySem.W.Frag} {S T : Addr} {r : Bool} (hn : decide (S = T) = false) (h2 : PySem.W.isClsIn K T = true) (h3 : PySem.W.typeIn K (.ref T) = some (.type "type")) (h4 : PySem.W.subIn K (.ref S) (.ref T) = some r) : PySem.W.kitOne K (.ref S) (.ref T) = some r := by
  have hne : S ≠ T := of_decide_eq_false hn
  have e2 : ((PySem.W.clsIn K T).isSome && PySem.W.typeIn K (.ref T) == some (.type "type")) = true := by
    have h2' : (PySem.W.clsIn K T).isSome = true := h2
    rw [h2', h3] <;> rfl
  unfold PySem.W.kitOne
  rw [if_neg (by intro z; exact hne (Value.ref.inj (beq_iff_eq.mp z)))]
  show (if ((PySem.W.clsIn K T).isSome && PySem.W.typeIn K (.ref T) == some (.type "type")) = true then PySem.W.subIn K (.ref S) (.ref T) else none) = some r
  rw [if_pos e2]
  exact h4
theorem kit_self {K : PySem.W.Frag} {S : Addr} : PySem.W.kitOne K (.ref S) (.ref S) = some true := by
  unfold PySem.W.kitOne
  rw [if_pos (beq_self_eq_true _)]
theorem kit_val {K : PySem.W.Frag} {S : Addr} {r : Bool} (h4 : PySem.W.subIn K (.ref S) (.type "ValueError") = some r) : PySem.W.kitOne K (.ref S) (.type "ValueError") = some r := by
  unfold PySem.W.kitOne
  rw [if_neg (by intro z; exact nomatch (beq_iff_eq.mp z))]
  show (if PySem.W.kitMeta "ValueError" = true then PySem.W.subIn K (.ref S) (.type "ValueError") else none) = some r
  rw [if_pos (by decide +kernel)]
  exact h4
section
variable {C : AH} {P : D → AH → Prop} {s : ASt} {e : AE'}
def kIsX (isub : Str → Str → Option Bool) (cs : List Str) (P : D → AH → Prop) : D → AH → Prop := fun d C1 => match d with
  | .ce p => (match C1 p with | some (.exc nm) => (match isAny isub nm cs with | some b => P (.bl b) C1 | none => False) | _ => False)
  | _ => False
theorem g_isX {isub : Str → Str → Option Bool} {cs : List Str} (h : e s C (kIsX isub cs P)) : aIsX isub cs e s C P := h
theorem g_kIsX {isub : Str → Str → Option Bool} {cs : List Str} {p : Addr} {nm : Str} {b : Bool} (h1 : C p = some (.exc nm)) (h2 : isAny isub nm cs = some b) (h : P (.bl b) C) : kIsX isub cs P (.ce p) C := by
  unfold kIsX
  simp only [h1, h2]
  exact h
end
end AL

namespace AL
open PySem PySem.Spec PyProof.Rows L2
variable {B : Bs}
/-! ### xs.count(truth), xs.index(truth), truths -/
def rCntB (K : PySem.W.Frag) : V → List V → Hp → VK → Prop := fun x xs H Q => ∃ (p : Addr) (ns : List Bool) (k : Bool), x = .ref p ∧ xs = [.bl k] ∧ SqL K H p (ns.map V.bl) ∧ Q (.int (ns.count k : Nat)) H
theorem isBoolOf_vals (k : Bool) : ∀ {ns : List Bool} {its : List Value}, Vals (ns.map V.bl) its → its.countP (isBoolOf k) = ns.count k ∧ ∀ y ∈ its, ∃ b, y = .bool b
  | [], _, .nil => ⟨rfl, fun _ h => by cases h⟩
  | b :: ns, _, .cons r t => by
    obtain ⟨h1, h2⟩ := isBoolOf_vals k t
    cases r
    refine ⟨?_, fun y hy => ?_⟩
    · rw [List.countP_cons, List.count_cons, h1]
      rfl
    · rcases List.mem_cons.mp hy with e | e
      · exact ⟨b, e⟩
      · exact h2 y e
theorem mt_lcountB {X : Cx} : MtR X "list.count" (rCntB X.K) := by
  intro pins s σ H x xs v us Q I rx rxs h
  obtain ⟨p, ns, k, rfl, rfl, hs, q⟩ := h
  cases rx
  obtain ⟨u, rfl, ru⟩ := rxs.one
  cases ru
  obtain ⟨its, rv, ⟨⟨cls, dd, data, sl⟩, n, ho, hc, hdn, hd⟩, hlen⟩ := I.list hs
  simp only at hc hd
  subst hc hd
  obtain ⟨ec, hb⟩ := isBoolOf_vals k rv
  refine call_meets PySem.F.slot_list_count ⟨_, ho, rfl⟩ PySem.F.entry_list_count (PySem.F.args_list_count_2 _ _)
    (SeqAt.list_countAt p its.toArray n dd sl (.bool k) (isBoolOf k)) ⟨ho, fun y hy => ?_, ?_⟩
  · obtain ⟨b, rfl⟩ := hb y (by simpa using hy)
    exact SeqAt.EqAt.bool_bool b k
  · refine ⟨.int (ns.count k : Nat), H, I.tok _, ⟨s.toks, ?_⟩, q⟩
    show Value.int ((its.toArray.toList.countP (isBoolOf k) : Nat) : Int) s.toks = Value.int ((ns.count k : Nat) : Int) s.toks
    rw [show its.toArray.toList = its from rfl, ec]
section
variable {X : Cx} {K : PySem.W.Frag}
def aCountB : D → ASp := fun x ds C P => match ds with
  | [.bl k] => ∃ (es : List D) (ns : List Bool), asLr C x = some es ∧ es = ns.map D.bl ∧ P (.int (ns.count k : Nat)) C
  | _ => False
theorem am_countB (hK : X.K = K := by rfl) : AMt B X "list.count" (rCntB K) aCountB := by
  subst hK
  exact ⟨mt_lcountB, by
  intro v d vs ds F C R H Q P hS r1 r2 h k
  unfold aCountB at h
  split at h
  · cases r2 with
    | cons r2 r3 =>
      cases r3
      cases r2
      obtain ⟨es, ns, h1, h2, h3⟩ := h
      subst h2
      obtain ⟨a, xs, rfl, g1, g2⟩ := asLr_ok hS r1 h1
      rw [g2.ofBls] at g1
      exact ⟨a, ns, _, rfl, rfl, g1, k _ _ F C H (Ex.refl F) hS (.int _) h3⟩
  · exact h.elim⟩
def aIndexB : D → ASp := fun x ds C P => match ds with
  | [.bl i] => ∃ (es : List D) (ks : List Bool), asLr C x = some es ∧ es = ks.map D.bl ∧ i ∈ ks ∧ P (.int (ks.idxOf i : Nat)) C
  | _ => False
theorem first_atB {i : Bool} : ∀ {ks : List Bool}, i ∈ ks → ks[ks.idxOf i]? = some i ∧ ∀ m, m < ks.idxOf i → ∀ k, ks[m]? = some k → k ≠ i
  | k :: ks, h => by
    by_cases e : k = i
    · subst e
      rw [List.idxOf_cons_self]
      exact ⟨rfl, fun m hm => absurd hm (Nat.not_lt_zero _)⟩
    · rcases List.mem_cons.mp h with h | h
      · exact absurd h.symm e
      · obtain ⟨h1, h2⟩ := first_atB h
        have e2 : (k :: ks).idxOf i = ks.idxOf i + 1 := by rw [List.idxOf_cons]; simp [beq_eq_false_iff_ne.mpr e]
        rw [e2]
        refine ⟨by simpa using h1, fun m hm k' hk => ?_⟩
        cases m with
        | zero => simp at hk; rw [← hk]; exact e
        | succ m => exact h2 m (by omega) k' (by simpa using hk)
theorem am_indexB (hK : X.K = K := by rfl) : AMt B X "list.index" (rIndex K) aIndexB := by
  subst hK
  exact ⟨mt_index, by
  intro v d vs ds F C R H Q P hS r1 r2 h k
  unfold aIndexB at h
  split at h
  · cases r2 with
    | cons r2 r3 =>
      cases r3
      cases r2
      rename_i i
      obtain ⟨es, ks, h1, h2, h3, h4⟩ := h
      subst h2
      obtain ⟨a, xs, rfl, g1, g2⟩ := asLr_ok hS r1 h1
      rw [g2.ofBls] at g1
      obtain ⟨j1, j2⟩ := first_atB h3
      refine ⟨a, _, .bl i, ks.idxOf i, .bl i, rfl, rfl, g1, rfl, List.all_eq_true.mpr fun x hx => by obtain ⟨n, _, rfl⟩ := List.mem_map.mp hx; rfl, by rw [List.getElem?_map, j1]; rfl, by show ((i : Bool) == i) = true; simp, fun m z' hm hz => ?_, k _ _ F C H (Ex.refl F) hS (.int _) h4⟩
      rw [List.getElem?_map] at hz
      cases e : ks[m]? with
      | none => rw [e] at hz; cases hz
      | some n =>
        rw [e] at hz
        cases hz
        have := j2 m hm n e
        show ((n : Bool) == i) = false
        simpa using this
  · exact h.elim⟩
end
section
variable {C : AH} {P : D → AH → Prop}
theorem g_countB {ns : List Bool} {k : Bool} (h : P (.int (ns.count k : Nat)) C) : aCountB (.lst (ns.map D.bl)) [.bl k] C P := ⟨_, ns, rfl, rfl, h⟩
theorem g_countBC {p : Addr} {ns : List Bool} {k : Bool} (hC : C p = some (.lst (ns.map D.bl))) (h : P (.int (ns.count k : Nat)) C) : aCountB (.ce p) [.bl k] C P := ⟨_, ns, by simp [asLr, asL, hC], rfl, h⟩
theorem g_indexB {ns : List Bool} {k : Bool} (hk : k ∈ ns) (h : P (.int (ns.idxOf k : Nat)) C) : aIndexB (.lst (ns.map D.bl)) [.bl k] C P := ⟨_, ns, rfl, rfl, hk, h⟩
theorem g_indexBC {p : Addr} {ns : List Bool} {k : Bool} (hC : C p = some (.lst (ns.map D.bl))) (hk : k ∈ ns) (h : P (.int (ns.idxOf k : Nat)) C) : aIndexB (.ce p) [.bl k] C P := ⟨_, ns, by simp [asLr, asL, hC], rfl, hk, h⟩
end
end AL
namespace AL
open PySem L2
theorem hu16 {k : Nat} {A : Around} (r : Room k A) : A.units + 16 < cLine := by
  have := u200 r
  omega
end AL

namespace AL
open PySem L2
/-! ### what a dict holds behind a store -/
theorem valD_put (es : List (Key × D)) (k k' : Key) (d : D) : valD (putD es k d) k' = if k' = k then some d else valD es k' := by
  induction es with
  | nil =>
    unfold putD
    rw [if_neg (by simp)]
    by_cases e : k' = k
    · subst e; simp [valD]
    · rw [if_neg e]
      have : ¬ k = k' := fun z => e z.symm
      simp [valD, this]
  | cons x es ih =>
    unfold putD at ih ⊢
    by_cases hx : x.1 = k
    · rw [if_pos (by simp [hx])]
      rw [List.map_cons, if_pos hx]
      by_cases e : k' = k
      · subst e
        rw [if_pos rfl]
        simp [valD, hx]
      · rw [if_neg e]
        have hne : ¬ x.1 = k' := fun z => e (by rw [← z, hx])
        have ih2 : valD (es.map fun kv => if kv.1 = k then (kv.1, d) else kv) k' = valD es k' := by
          by_cases ha : (es.any fun kv => decide (kv.1 = k)) = true
          · rw [if_pos ha, if_neg e] at ih; exact ih
          · have : es.map (fun kv => if kv.1 = k then (kv.1, d) else kv) = es := by
              refine (List.map_congr_left fun kv hkv => ?_).trans (List.map_id es)
              have : ¬ kv.1 = k := fun z => ha (List.any_eq_true.mpr ⟨kv, hkv, decide_eq_true z⟩)
              rw [if_neg this]; rfl
            rw [this]
        simp only [valD, List.find?_cons, decide_eq_false hne] at ih2 ⊢
        exact ih2
    · by_cases ha : (es.any fun kv => decide (kv.1 = k)) = true
      · rw [if_pos ha] at ih
        rw [if_pos (by simp only [List.any_cons, ha, Bool.or_true])]
        rw [List.map_cons, if_neg hx]
        by_cases h2 : x.1 = k'
        · have e : ¬ k' = k := fun z => hx (h2.trans z)
          rw [if_neg e]
          simp [valD, h2]
        · simp only [valD, List.find?_cons, decide_eq_false h2] at ih ⊢
          exact ih
      · rw [if_neg ha] at ih
        rw [if_neg (by simp only [List.any_cons, decide_eq_false hx, Bool.false_or]; exact ha)]
        rw [List.cons_append]
        by_cases h2 : x.1 = k'
        · have e : ¬ k' = k := fun z => hx (h2.trans z)
          rw [if_neg e]
          simp [valD, h2]
        · simp only [valD, List.find?_cons, decide_eq_false h2] at ih ⊢
          exact ih
/-- a dict with numbers from 0 for keys, as what it holds -/
structure Mp (es : List (Key × D)) (L : List Nat) (f : Nat → Option D) : Prop where
  ky : Ky es L
  nd : L.Nodup
  at' : ∀ m, valD es (nk m) = f m
theorem Mp.nil : Mp [] [] fun _ => none := ⟨rfl, List.nodup_nil, fun _ => rfl⟩
theorem Mp.put {es : List (Key × D)} {L : List Nat} {f : Nat → Option D} (h : Mp es L f) (n : Nat) (d : D) : Mp (putD es (nk n) d) (addN L n) fun m => if m = n then some d else f m := by
  refine ⟨h.ky.put n, nodup_addN h.nd, fun m => ?_⟩
  rw [valD_put, h.at']
  by_cases e : m = n
  · subst e; rw [if_pos rfl, if_pos rfl]
  · rw [if_neg e, if_neg (fun z => e (nk_inj z))]
theorem Mp.mem {es : List (Key × D)} {L : List Nat} {f : Nat → Option D} (h : Mp es L f) (n : Nat) : n ∈ L ↔ (f n).isSome = true := by
  rw [← h.at', h.ky.val, decide_eq_true_iff]
theorem Mp.merge : ∀ (xs : List (Nat × D)) {es : List (Key × D)} {L : List Nat} {f : Nat → Option D}, Mp es L f → Mp (mergeD es (xs.map fun x => (nk x.1, x.2))) ((xs.map (·.1)).foldl addN L) (xs.foldl (fun g x => fun m => if m = x.1 then some x.2 else g m) f)
  | [], _, _, _, h => h
  | x :: xs, _, _, _, h => Mp.merge xs (h.put x.1 x.2)
section
variable {C : AH} {P : D → AH → Prop} {s : ASt} {q : Addr} {es : List (Key × D)} {o i e : AE'} {nx : ASt → AH → Prop} {rt : D → AH → Prop} {bk ct : ASt → AH → Prop}
def kGetK (x : D) (P : D → AH → Prop) : D → AH → Prop := fun y C2 => match asK C2 x, AL.keyOf y with
  | some es, some k => (match valD es k with | some d => P d C2 | none => False)
  | _, _ => False
theorem g_getK (h : o s C fun x C1 => i s C1 (kGetK x P)) : aGetK o i s C P := h
theorem g_kGetK {x y : D} {k : Key} {d : D} (h1 : asK C x = some es) (h2 : AL.keyOf y = some k) (h3 : valD es k = some d) (h : P d C) : kGetK x P y C := by
  unfold kGetK
  rw [h1, h2]
  show (match valD es k with | some d => P d C | none => False)
  rw [h3]
  exact h
def kInK (neg : Bool) (y : D) (P : D → AH → Prop) : D → AH → Prop := fun x C2 => match asK C2 x, AL.keyOf y with
  | some es, some k => P (.bl (if neg then !(valD es k).isSome else (valD es k).isSome)) C2
  | _, _ => False
theorem g_inK {neg : Bool} (h : i s C fun y C1 => o s C1 (kInK neg y P)) : aInK neg i o s C P := h
theorem g_kInK {neg : Bool} {x y : D} {k : Key} (h1 : asK C x = some es) (h2 : AL.keyOf y = some k) (h : P (.bl (if neg then !(valD es k).isSome else (valD es k).isSome)) C) : kInK neg y P x C := by
  unfold kInK
  rw [h1, h2]
  exact h
def kPutK (d x : D) (nx : ASt → AH → Prop) (s : ASt) : D → AH → Prop := fun y C3 => match x, AL.keyOf y with
  | .ce p, some k => (match C3 p with | some (.dk es) => es.length < sizeLine ∧ nx s (put C3 p (.dk (putD es k d))) | _ => False)
  | _, _ => False
theorem g_putKG (h : e s C fun d C1 => o s C1 fun x C2 => i s C2 (kPutK d x nx s)) : aPutK o i e ⟨nx, rt, bk, ct⟩ s C := h
theorem g_kPutKG {d y : D} {k : Key} (hC : C q = some (.dk es)) (h2 : AL.keyOf y = some k) (hl : es.length < sizeLine) (h : nx s (put C q (.dk (putD es k d)))) : kPutK d (.ce q) nx s y C := by
  unfold kPutK
  rw [h2]
  show (match C q with | some (.dk es) => es.length < sizeLine ∧ nx s (put C q (.dk (putD es k d))) | _ => False)
  rw [hC]
  exact ⟨hl, h⟩
/-! #### any keys -/
def kGetN (x : D) (P : D → AH → Prop) : D → AH → Prop := fun y C2 => match lookD C2 x y with
  | some (some d) => P d C2
  | _ => False
theorem g_getN (h : o s C fun x C1 => i s C1 (kGetN x P)) : aGetN o i s C P := h
theorem g_kGetN {x y d : D} (h1 : lookD C x y = some (some d)) (h : P d C) : kGetN x P y C := by
  unfold kGetN
  rw [h1]
  exact h
def kInN (neg : Bool) (y : D) (P : D → AH → Prop) : D → AH → Prop := fun x C2 => match lookD C2 x y with
  | some r => P (.bl (if neg then !r.isSome else r.isSome)) C2
  | none => False
theorem g_inN {neg : Bool} (h : i s C fun y C1 => o s C1 (kInN neg y P)) : aInN neg i o s C P := h
theorem g_kInN {neg : Bool} {x y : D} {r : Option D} (h1 : lookD C x y = some r) (h : P (.bl (if neg then !r.isSome else r.isSome)) C) : kInN neg y P x C := by
  unfold kInN
  rw [h1]
  exact h
def kGet1N (i : AE') (s : ASt) (P : D → AH → Prop) : D → AH → Prop := fun x C1 => isDic C1 x = true ∧ i s C1 fun y C2 => match lookD C2 x y with
  | some r => P (r.getD .non) C2
  | none => False
def kGet1N' (x : D) (P : D → AH → Prop) : D → AH → Prop := fun y C2 => match lookD C2 x y with
  | some r => P (r.getD .non) C2
  | none => False
theorem g_get1N (h : o s C (kGet1N i s P)) : aGet1N o i s C P := h
theorem g_kGet1N {x : D} (h1 : isDic C x = true) (h : i s C (kGet1N' x P)) : kGet1N i s P x C := ⟨h1, h⟩
theorem g_kGet1N' {x y : D} {r : Option D} (h1 : lookD C x y = some r) (h : P (r.getD .non) C) : kGet1N' x P y C := by
  unfold kGet1N'
  rw [h1]
  exact h
def kPutN (d x : D) (nx : ASt → AH → Prop) (s : ASt) : D → AH → Prop := fun y C3 => match x with
  | .ce p => (match C3 p with
    | some (.dk es) => (match AL.keyOf y with | some k => es.length < sizeLine ∧ nx s (put C3 p (.dk (putD es k d))) | none => False)
    | some (.dn es) => (match keyT y with | some k => es.length < sizeLine ∧ nx s (put C3 p (.dn (putND es k d))) | none => False)
    | _ => False)
  | _ => False
theorem g_putN (h : e s C fun d C1 => o s C1 fun x C2 => i s C2 (kPutN d x nx s)) : aPutN o i e ⟨nx, rt, bk, ct⟩ s C := h
theorem g_kPutN {d y : D} {k : NestedKey} {es : List (NestedKey × D)} (hC : C q = some (.dn es)) (h2 : keyT y = some k) (hl : es.length < sizeLine) (h : nx s (put C q (.dn (putND es k d)))) : kPutN d (.ce q) nx s y C := by
  unfold kPutN
  simp only [hC, h2]
  exact ⟨hl, h⟩
theorem lookD_int {n : Nat} (hC : C q = some (.dk es)) : lookD C (.ce q) (.int (n : Int)) = some (valD es (nk n)) := by
  unfold lookD
  rw [asK_ce hC]
  rfl
theorem lookD_non (hC : C q = some (.dk es)) : lookD C (.ce q) .non = some none := by
  unfold lookD
  rw [asK_ce hC]
  rfl
theorem lookD_oD {o : Option Nat} {L : List Nat} {f : Nat → Option D} (hC : C q = some (.dk es)) (h : Mp es L f) : lookD C (.ce q) (oD o) = some (o.bind f) := by
  cases o with
  | none => exact lookD_non hC
  | some n => rw [show oD (some n) = .int (n : Int) from rfl, lookD_int hC, h.at']; rfl
theorem lookD_dn {es : List (NestedKey × D)} {y : D} {k : NestedKey} (hC : C q = some (.dn es)) (h : keyT y = some k) : lookD C (.ce q) y = some (valND es k) := by
  unfold lookD
  simp only [asK, asN, hC, h]
theorem isDic_dk (hC : C q = some (.dk es)) : isDic C (.ce q) = true := by unfold isDic; rw [asK_ce hC]; rfl
theorem isDic_dn {es : List (NestedKey × D)} (hC : C q = some (.dn es)) : isDic C (.ce q) = true := by unfold isDic; simp only [asK, asN, hC]; rfl
end
end AL

namespace AL
open PySem L2
/-- a stand leads to a stand -/
def Fw (goes : List (List (Option Nat))) (a b : Nat) : Prop := ∃ r, goes[a]? = some r ∧ some b ∈ r
theorem Fw.lt {sg : Nat} {ends : List Bool} {goes : List (List (Option Nat))} (M : Mach sg ends goes) {a b : Nat} (h : Fw goes a b) : a < ends.length ∧ b < ends.length := by
  obtain ⟨r, h1, h2⟩ := h
  exact ⟨by rw [M.len]; exact (List.getElem?_eq_some_iff.mp h1).1, M.go r (List.mem_of_getElem? h1) b h2⟩
section
variable {C : AH} {P : D → AH → Prop} {q : Addr}
theorem g_ninNatsC {n : Nat} {ns : List Nat} (hC : C q = some (.lst (natsD ns))) (h : P (.bl (!decide (n ∈ ns))) C) : aNinL (.int (n : Int)) (.ce q) C P := by
  show (match toV (.int (n : Int)), (asS C (.ce q)).bind toVs with | some u, some us => P (.bl (if true then !inV u us else inV u us)) C | _, _ => False)
  have : asS C (.ce q) = some (natsD ns) := by simp [asS, asLr, asL, hC]
  rw [this, show (some (natsD ns)).bind toVs = toVs (natsD ns) from rfl, toVs_nats]
  show P (.bl (!inV (.int (n : Int)) _)) C
  rw [inV_nats]
  exact h
theorem g_ninNats {n : Nat} {ns : List Nat} (h : P (.bl (!decide (n ∈ ns))) C) : aNinL (.int (n : Int)) (.lst (natsD ns)) C P := by
  show (match toV (.int (n : Int)), (some (natsD ns)).bind toVs with | some u, some us => P (.bl (if true then !inV u us else inV u us)) C | _, _ => False)
  rw [show (some (natsD ns)).bind toVs = toVs (natsD ns) from rfl, toVs_nats]
  show P (.bl (!inV (.int (n : Int)) _)) C
  rw [inV_nats]
  exact h
end
theorem get_goC {goes : List (List (Option Nat))} {C : AH} {P : D → AH → Prop} {u : Nat} (hu : u < goes.length) (h : P (.lst (goes[u].map oD)) C) : aIx (goesD goes) (.int (u : Int)) C P := by
  refine g_ixL (d := .lst (goes[u].map oD)) (atI_nat' ?_) h
  rw [List.getElem?_map, List.getElem?_eq_getElem hu]
  rfl
/-- a dict from numbers to numbers -/
abbrev Mn (es : List (Key × D)) (L : List Nat) (f : Nat → Option Nat) : Prop := Mp es L fun m => (f m).map fun (v : Nat) => D.int (v : Int)
theorem Mn.put {es : List (Key × D)} {L : List Nat} {f : Nat → Option Nat} (h : Mn es L f) (n v : Nat) : Mn (putD es (nk n) (.int (v : Int))) (addN L n) fun m => if m = n then some v else f m := by
  have := Mp.put h n (.int (v : Int))
  refine ⟨this.ky, this.nd, fun m => ?_⟩
  rw [this.at' m]
  by_cases e : m = n
  · simp [e]
  · simp [e]
theorem fold_const (d : D) : ∀ (xs : List Nat) (f : Nat → Option D) (m : Nat), ((xs.map fun n => (n, d)).foldl (fun (g : Nat → Option D) (x : Nat × D) => fun m => if m = x.1 then some x.2 else g m) f) m = if m ∈ xs then some d else f m
  | [], f, m => by rw [if_neg (by simp)]; rfl
  | x :: xs, f, m => by
    rw [List.map_cons, List.foldl_cons, fold_const d xs]
    by_cases h : m ∈ xs
    · rw [if_pos h, if_pos (List.mem_cons_of_mem _ h)]
    · rw [if_neg h]
      by_cases e : m = x
      · rw [if_pos e, if_pos (by rw [e]; exact List.mem_cons_self)]
      · rw [if_neg e, if_neg (fun z => by rcases List.mem_cons.mp z with z | z; exact e z; exact h z)]
section
variable {C : AH} {W : AX'} {nx : ASt → AH → Prop} {rt : D → AH → Prop} {bk ct : ASt → AH → Prop} {s : ASt}
theorem g_handA {sub : Str → Str → Option Bool} {c : List Str} {nm : Str} {i : Nat} {ha : AS'} {r : List (List Str × Nat × AS')} (e : anyS sub nm c = some true) (h : ∀ a, C a = none → ha ⟨fun s C => nx (s.set i none) C, rt, fun s C => bk (s.set i none) C, fun s C => ct (s.set i none) C⟩ (s.set i (some (.ce a))) (put C a (.exc nm))) : aHandA sub W ⟨nx, rt, bk, ct⟩ ((c, i, ha) :: r) s nm C := g_handAT e h
end
end AL

namespace AL
open PySem PySem.Spec PyProof.Rows L2
variable {B : Bs}
/-! ### list(d.values()) -/
theorem dvals_at : ∀ {us : List Value} {kvs : List (Key × V)}, us.length = kvs.length → (∀ (j : Nat) (v : Value), us[j]? = some v → ∃ (k : Key) (x : V), kvs[j]? = some (k, x) ∧ RelV x v) → Vals (kvs.map (·.2)) us
  | [], [], _, _ => .nil
  | u :: us, q :: kvs, hl, h => by
    obtain ⟨k, x, e1, e2⟩ := h 0 u rfl
    have e1' : q = (k, x) := Option.some.inj e1
    subst e1'
    exact .cons e2 (dvals_at (by simpa using hl) fun j v e => by
      obtain ⟨k', x', h1, h2⟩ := h (j + 1) v (by simpa using e)
      exact ⟨k', x', by simpa using h1, h2⟩)
  | [], _ :: _, hl, _ => by cases hl
  | _ :: _, [], hl, _ => by cases hl
theorem kv_at {kvs : List (Key × V)} {vs : List (Key × Value)} (r : KV kvs vs) : ∀ {i : Nat} {k : Key} {v : Value}, vs[i]? = some (k, v) → ∃ x, kvs[i]? = some (k, x) ∧ RelV x v := by
  unfold KV at r
  induction r with
  | nil =>
    intro i k v e
    simp at e
  | cons r t ih =>
    intro i k v e
    cases i with
    | zero =>
      have e' := Option.some.inj (show some _ = some (k, v) from e)
      rw [e'] at r
      exact ⟨_, (show some _ = some (k, _) from congrArg some (Prod.ext r.1 rfl)), r.2⟩
    | succ i =>
      obtain ⟨x, h1, h2⟩ := ih (i := i) (k := k) (v := v) (by simpa using e)
      exact ⟨x, by simpa using h1, h2⟩
def tListVals (td : TE) : TE := fun σ H Q => td σ H fun x H1 => ∃ (a : Addr) (kvs : List (Key × V)), x = V.ref a ∧ Rd H1 a (.dK kvs) ∧ ∀ p, H1 p = none → Q (.ref p) (upd H1 p (.lst (kvs.map (·.2))))
section
variable {X : Cx} {K : PySem.W.Frag} {o : Expr} {p pos apos mpos : Pos} {td : TE} {ao : AE'}
theorem pe_listVals (hd : PE X o td) (hm : X.mg "list" = none) (hc : X.calm = true := by rfl) (hg : Gl X "list" := by rfl) (hbase : attributeBase o "values" X.env (eval o X.env) = eval o X.env := by rfl) (hline : (apos.endLine == mpos.line) = true := by rfl)
    (na : starEach [Expr.Call (.Attribute o "values" apos) [] [] mpos] X.env = (false, eval (Expr.Call (.Attribute o "values" apos) [] [] mpos) X.env) :: starEach [] X.env := by rfl) :
    PE X (.Call (.Name "list" p) [.Call (.Attribute o "values" apos) [] [] mpos] [] pos) (tListVals td) := by
  refine ⟨fun pins s σ H Q I h => ?_⟩
  refine Call_ (ld_blt I hg hm boot_list (PyProof.Rows.callWith_type1 (args_cons (wpAny_Call_method0_late hbase hline (thn (hd.run pins s σ H _ I h) fun v s1 ⟨x, H1, I1, r1, a, kvs, ex, ha, q⟩ => ?_)) na) na))
  subst ex
  obtain rfl : v = Value.ref a := r1
  obtain ⟨z, hsys, vs, rel, dof⟩ := dk_rd I1.hok ha
  obtain ⟨ep, dat⟩ := dof.dictAt
  have dat' := dat
  obtain ⟨ob, es, ho, ex, hdat, hko, hpr, hnd⟩ := dat'
  refine ⟨"dict", "dict.values", F.plainAttrs_dict, F.slot_dict_values, F.type_dict_values, ⟨ob, ho, ex.1⟩, fun b e => ?_, Calls.callWith_builtin rfl (PySem.evalArgs_none ?_)⟩
  · cases e
    exact ⟨ob, ho, ex.2.1⟩
  refine call_meetsIn F.slot_dict_values ⟨ob, ho, ex.1⟩ F.entry_dict_values (F.args_dict_values_1 _) (meets_dict_values (mixKind X.prog X.w) a hsys) ⟨⟨vs, dof⟩, ?_⟩
  have k1 : ∀ b u, s1.heap.get? b = some u → (s1.heap.push { cls := .type "dict_values", data := .fields #[.ref a] }).get? b = some u := fun b u e => Heap.get?_push_of_some _ e
  have dat1 : (s1.heap.push { cls := .type "dict_values", data := .fields #[.ref a] }).DictAt (mixKind X.prog X.w) a vs ep := dat.keep k1
  have I2 : Inv X pins σ H1 { s1 with heap := s1.heap.push { cls := .type "dict_values", data := .fields #[.ref a] } } := I1.kept fun b o e => k1 b o e
  have hkl : kvs.length = vs.length := KV.length rel
  refine args_nil ?_
  refine PySem.W.kdl_call (PySem.W.kdl_values (knd := mixKind X.prog X.w) (kvs := vs) (ep := ep) (r := s1.heap.objs.size) (d := a)) (I2.ok.hd hc) ⟨⟨_, Heap.get?_push_size _ rfl, rfl, rfl⟩, dat1⟩ (by rw [← hkl]; exact z) fun h' tk acc c' hk hD hacc => ?_
  have hv : Vals (kvs.map (·.2)) acc.toList := dvals_at (by rw [Array.length_toList, hkl]; exact hacc.1) fun j v e => by
    obtain ⟨k, e1⟩ := hacc.2 j v (by rw [← Array.getElem?_toList]; exact e)
    obtain ⟨x, e2, e3⟩ := kv_at rel e1
    exact ⟨k, x, e2, e3⟩
  exact ⟨.ref _, upd H1 _ (.lst (kvs.map (·.2))), I2.laid (t' := tk) hk (Nat.le_refl _)
    (show ObjOk X.prog X.w _ _ _ (.lst (kvs.map (·.2))) from ⟨by rw [List.length_map]; exact z, acc.toList, c', hv, by rw [Array.toArray_toList]; exact hD⟩), rfl, q _ (I2.hok.fresh (Nat.le_refl _))⟩
theorem dvals_rep {F : Hp} : ∀ {kvs : List (Key × V)} {es : List (Key × D)}, RepK K F kvs es → RepL K F (kvs.map (·.2)) (es.map (·.2))
  | _, _, .nil => .nil
  | _, _, .cons r t => .cons r (dvals_rep t)
def aListVals (o : AE') : AE' := fun s C P => o s C fun x C1 => match asK C1 x with | some es => P (.lst (es.map (·.2))) C1 | none => False
theorem ae_listVals (ho : AE B X o td ao) (hm : X.mg "list" = none) (hc : X.calm = true := by rfl) (hg : Gl X "list" := by rfl) (hbase : attributeBase o "values" X.env (eval o X.env) = eval o X.env := by rfl) (hline : (apos.endLine == mpos.line) = true := by rfl)
    (na : starEach [Expr.Call (.Attribute o "values" apos) [] [] mpos] X.env = (false, eval (Expr.Call (.Attribute o "values" apos) [] [] mpos) X.env) :: starEach [] X.env := by rfl) :
    AE B X (.Call (.Name "list" p) [.Call (.Attribute o "values" apos) [] [] mpos] [] pos) (tListVals td) (aListVals ao) := ⟨pe_listVals ho.pe hm hc hg hbase hline na, by
  intro σ s F C R H Q P hs hS h0 k
  refine ho.sim σ s F C R H _ _ hs hS h0 fun x v F1 C1 H1 e1 S1 r1 h1 => ?_
  split at h1
  · rename_i es q
    obtain ⟨a, kvs, rfl, g1, g2⟩ := asK_ok S1 r1 q
    refine ⟨a, kvs, rfl, .inl g1, fun p hp => ?_⟩
    have e := Ex.new (o := .lst (kvs.map (·.2))) (S1.freeF hp)
    exact k _ _ _ C1 _ (e1.trans e) (S1.newF hp _) (.lst upd_same ((dvals_rep g2).mono e)) h1
  · exact h1.elim⟩
/-! ### len(set(xs)) of numbers -/
theorem met_is (f : Nat → Int) : ∀ n, (firstMet f n).Nodup ∧ ∀ x, x ∈ firstMet f n ↔ ∃ i, i < n ∧ f i = x
  | 0 => ⟨by rw [firstMet_zero]; exact List.nodup_nil, fun x => ⟨(fun h => by rw [firstMet_zero] at h; cases h), fun ⟨i, h, _⟩ => absurd h (Nat.not_lt_zero _)⟩⟩
  | n + 1 => by
    obtain ⟨h1, h2⟩ := met_is f n
    rw [firstMet_succ]
    unfold step_dedup
    have key : (firstMet f n).any (· == f n) = true ↔ f n ∈ firstMet f n := by
      rw [List.any_eq_true]
      exact ⟨fun ⟨y, hy, e⟩ => by rw [← eq_of_beq e]; exact hy, fun h => ⟨_, h, beq_self_eq_true _⟩⟩
    split
    · rename_i h
      have hm := key.mp h
      refine ⟨h1, fun x => (h2 x).trans ⟨fun ⟨i, a, b⟩ => ⟨i, by omega, b⟩, fun ⟨i, a, b⟩ => ?_⟩⟩
      by_cases e : i = n
      · subst e; rw [← b]; exact (h2 _).mp hm
      · exact ⟨i, by omega, b⟩
    · rename_i h
      refine ⟨List.nodup_append.mpr ⟨h1, by simp, fun a ha b hb e => h (key.mpr ?_)⟩, fun x => ?_⟩
      · rw [← List.mem_singleton.mp hb, ← e]; exact ha
      · rw [List.mem_append, List.mem_singleton, h2]
        constructor
        · rintro (⟨i, a, b⟩ | e)
          · exact ⟨i, by omega, b⟩
          · exact ⟨n, by omega, e.symm⟩
        · rintro ⟨i, a, b⟩
          by_cases e : i = n
          · subst e; exact .inr b.symm
          · exact .inl ⟨i, by omega, b⟩
def tLenSetN (K : PySem.W.Frag) (ta : TE) : TE := fun σ H Q => ta σ H fun x H1 => ∃ (l : Addr) (ns : List Int), x = .ref l ∧ SqL K H1 l (ns.map V.int) ∧ ns.length ≤ 4000 ∧ ∀ ms : List Int, ms.Nodup → (∀ y, y ∈ ms ↔ y ∈ ns) → Q (.int (ms.length : Nat)) H1
theorem pe_lenSetN {a : Expr} {ta : TE} {p p2 q pos : Pos} (hm : X.mg "len" = none) (hm2 : X.mg "set" = none) (ha : PE X a ta) (hc : X.calm = true := by rfl) (hg : Gl X "len" := by rfl) (hg2 : Gl X "set" := by rfl)
    (na : starEach [a] X.env = (false, eval a X.env) :: starEach [] X.env := by rfl) : PE X (.Call (.Name "len" p) [.Call (.Name "set" p2) [a] [] q] [] pos) (tLenSetN X.K ta) := by
  refine ⟨fun pins s σ H Q I h => ?_⟩
  refine Call_ (ld_blt I hg hm boot_len ?_)
  refine PyProof.Rows.callWith_builtin1 (PyProof.Rows.args_cons ?_ rfl) rfl rfl
  refine Call_ (ld_blt I hg2 hm2 boot_set ?_)
  refine PyProof.Rows.callWith_type1 (PyProof.Rows.args_cons (thn (ha.run pins s σ H _ I h) fun v s1 ⟨x, H1, I1, r1, q1⟩ => PyProof.Rows.args_nil ?_) na) na rfl
  obtain ⟨l, ns, rfl, hq, hl, q1⟩ := q1
  cases r1
  obtain ⟨its, r, pl, hz⟩ := I1.list hq
  have hlen : its.toArray.size = ns.length := by rw [List.size_toArray, ← r.length, List.length_map]
  refine call_set_list (I1.ok.hd hc) pl.isList (by simpa using RZ.intsAre_vals r) (by rw [hlen]; unfold scanBound; omega) fun h' tk hS hk => ?_
  refine PyProof.Rows.args_nil ?_
  rw [hlen] at hS
  obtain ⟨g1, g2⟩ := met_is (fun i => ns.getD i 0) ns.length
  have hle := firstMet_length_le (fun i => ns.getD i 0) ns.length
  obtain ⟨o, es, ep, t, ho, hex, hd, _, _, _, hf, hn⟩ := hS
  have I2 : Inv X pins σ H1 { s1 with heap := h', toks := tk } := I1.kept fun b o e => hk b o (Heap.lt_size e) e
  refine call_len_set ho hex hd hf (by rw [hn] <;> omega) ⟨.int (firstMet (fun i => ns.getD i 0) ns.length).length, H1, I2.tok _, ⟨_, by rw [hn]⟩, q1 _ g1 fun y => (g2 y).trans ?_⟩
  constructor
  · rintro ⟨i, hi, e⟩
    have e' : ns.getD i 0 = y := e
    rw [List.getD_eq_getElem?_getD, List.getElem?_eq_getElem hi, Option.getD_some] at e'
    rw [← e']
    exact List.getElem_mem hi
  · intro hy
    obtain ⟨i, hi, e⟩ := List.getElem_of_mem hy
    exact ⟨i, hi, by show ns.getD i 0 = y; rw [List.getD_eq_getElem?_getD, List.getElem?_eq_getElem hi, Option.getD_some]; exact e⟩
def aLenSetN (a : AE') : AE' := fun s C P => a s C fun x C1 => match (asLr C1 x).bind intsD with | some ns => ns.length ≤ 4000 ∧ ∀ ms : List Int, ms.Nodup → (∀ y, y ∈ ms ↔ y ∈ ns) → P (.int (ms.length : Nat)) C1 | none => False
theorem ae_lenSetN {a : Expr} {ta : TE} {aa : AE'} {p p2 q pos : Pos} (hm : X.mg "len" = none) (hm2 : X.mg "set" = none) (ha : AE B X a ta aa) (hc : X.calm = true := by rfl) (hg : Gl X "len" := by rfl) (hg2 : Gl X "set" := by rfl)
    (na : starEach [a] X.env = (false, eval a X.env) :: starEach [] X.env := by rfl) (hK : X.K = K := by rfl) : AE B X (.Call (.Name "len" p) [.Call (.Name "set" p2) [a] [] q] [] pos) (tLenSetN K ta) (aLenSetN aa) := by
  subst hK
  exact ⟨pe_lenSetN hm hm2 ha.pe hc hg hg2 na, by
  intro σ s F C R H Q P hs hS h0 k
  refine ha.sim σ s F C R H _ _ hs hS h0 fun x v F1 C1 H1 e1 S1 r1 h1 => ?_
  split at h1
  · rename_i ns q
    obtain ⟨us, q1, q2⟩ := Option.bind_eq_some_iff.mp q
    obtain ⟨l, xs, rfl, g1, g2⟩ := asLr_ok S1 r1 q1
    rw [ints_ok q2] at g2
    have e3 := g2.ofInts
    subst e3
    exact ⟨l, ns, rfl, g1, h1.1, fun ms m1 m2 => k _ _ F1 C1 H1 e1 S1 (.int _) (h1.2 ms m1 m2)⟩
  · exact h1.elim⟩
end
section
variable {C : AH} {P : D → AH → Prop} {s : ASt} {e : AE'}
def kListVals (P : D → AH → Prop) : D → AH → Prop := fun x C1 => match asK C1 x with | some es => P (.lst (es.map (·.2))) C1 | none => False
theorem g_listVals (h : e s C (kListVals P)) : aListVals e s C P := h
theorem g_kListVals {x : D} {es : List (Key × D)} (h1 : asK C x = some es) (h : P (.lst (es.map (·.2))) C) : kListVals P x C := by
  unfold kListVals
  rw [h1]
  exact h
def kLenSetN (P : D → AH → Prop) : D → AH → Prop := fun x C1 => match (asLr C1 x).bind intsD with | some ns => ns.length ≤ 4000 ∧ ∀ ms : List Int, ms.Nodup → (∀ y, y ∈ ms ↔ y ∈ ns) → P (.int (ms.length : Nat)) C1 | none => False
theorem g_lenSetN (h : e s C (kLenSetN P)) : aLenSetN e s C P := h
theorem g_kLenSetN {x : D} {us : List D} {ns : List Int} (h1 : asLr C x = some us) (h2 : intsD us = some ns) (h3 : ns.length ≤ 4000) (h : ∀ ms : List Int, ms.Nodup → (∀ y, y ∈ ms ↔ y ∈ ns) → P (.int (ms.length : Nat)) C) : kLenSetN P x C := by
  unfold kLenSetN
  rw [h1, Option.bind_some, h2]
  exact ⟨h3, h⟩
end
end AL

namespace AL
open PySem PySem.Spec PyProof.Rows L2
variable {B : Bs}
/-! ### xs.insert(i, y) -/
section
variable {X : Cx} {K : PySem.W.Frag}
def rInsert : V → List V → Hp → VK → Prop := fun x vs H Q => ∃ (l : Addr) (xs : List V) (i : Int) (y : V), x = .ref l ∧ vs = [.int i, y] ∧ H l = some (.lst xs) ∧ xs.length < sizeLine ∧ 0 ≤ i ∧ i < 2 ^ 63 ∧
    Q .non (upd H l (.lst (xs.take i.toNat ++ [y] ++ xs.drop i.toNat)))
def aInsert : D → ASp := fun x ds C P => match x, ds with
  | .ce p, [.int i, d] => (match C p with | some (.lst us) => us.length < sizeLine ∧ 0 ≤ i ∧ i < 2 ^ 63 ∧ P .non (put C p (.lst (us.take i.toNat ++ [d] ++ us.drop i.toNat))) | _ => False)
  | _, _ => False
theorem am_insert : AMt B X "list.insert" rInsert aInsert := ⟨fun pins s σ H x xs v us Q I r1 r2 h => mt_insert pins s σ H x xs v us Q I r1 r2 h, by
  intro v d vs ds F C R H Q P hS r1 r2 h k
  unfold aInsert at h
  split at h
  · cases r1
    cases r2 with
    | cons ri r2 =>
      cases r2 with
      | cons r2 r3 =>
        cases r3
        cases ri
        split at h
        · rename_i e
          obtain ⟨xs, h1, h2⟩ := cellL hS e
          exact ⟨_, xs, _, _, rfl, rfl, h1, by rw [h2.length]; exact h.1, h.2.1, h.2.2.1, k _ _ F _ _ (Ex.refl F) (hS.mutC e (.lst (((h2.take _).append (.cons r2 .nil)).append (h2.drop _)))) .non h.2.2.2⟩
        · exact h.elim
  · exact h.elim⟩
/-! ### len(d), keys tuples -/
def rLenN (w : World) : List V → Hp → VK → Prop := fun xs H Q => ∃ (a : Addr) (ys : List (NestedKey × Addr × V)), xs = [V.ref a] ∧ H a = some (.ext (DictN w a ys)) ∧ KeysN H ys ∧ Q (.int ys.length) H
theorem call_lenN : CallR X (.builtin "len") (rLenN X.w) := by
  intro pins s σ H xs us Q I r h
  obtain ⟨a, ys, rfl, e, hx, q⟩ := h
  rw [Vals.ref1 r]
  obtain ⟨z, hs, zs, rel, dd⟩ := dn_of I.hok e hx
  have hl : ys.length = zs.length := by have := rel.length; simpa using this
  refine call_len_dictH hs dd (by rw [← hl]; rw [sizeLine_eq] at z; omega) ?_
  rw [← hl]
  exact ⟨.int ((ys.length : Nat) : Int), H, I.tok _, ⟨_, rfl⟩, q⟩
theorem asN_keys {F : Hp} {C : AH} {R H : Hp} {v : V} {d : D} {es : List (NestedKey × D)} (hS : Sat B K F C R H) (r : Rep K F v d) (h : asN C d = some es) : ∃ a xs, v = .ref a ∧ H a = some (.ext (DictN B.g.w a xs)) ∧ RepN K F xs es ∧ KeysN H xs := by
  obtain ⟨a, xs, h1, h2, h3⟩ := asN_ok hS r h
  exact ⟨a, xs, h1, h2, h3, fun z hz => ⟨(h3.keys z hz).1.mono hS.ex, (h3.keys z hz).2⟩⟩
def aLenN : ASp := fun ds C P => match ds with | [d] => (match asN C d with | some es => P (.int es.length) C | none => False) | _ => False
theorem ac_lenN {g : Gd} (hw : B.g = g := by first | rfl | assumption) (hX : (⟨X.w, X.mg⟩ : Gd) = g := by rfl) : ACa B X (.builtin "len") (rLenN g.w) aLenN := by
  subst hX
  exact ⟨call_lenN, by
  intro vs ds F C R H Q P hS r h k
  unfold aLenN at h
  split at h
  · cases r with
    | cons r1 r2 =>
      cases r2
      split at h
      · rename_i es q
        obtain ⟨a, xs, rfl, h1, h2, h3⟩ := asN_keys hS r1 q
        rw [hw] at h1
        exact ⟨a, xs, rfl, h1, h3, by rw [h2.len]; exact k _ _ F C H (Ex.refl F) hS (.int _) h⟩
      · exact h.elim
  · exact h.elim⟩
end
section
variable {C : AH} {P : D → AH → Prop}
theorem g_insert {p : Addr} {us : List D} {i : Nat} {d : D} (h0 : C p = some (.lst us)) (h1 : us.length < sizeLine) (h2 : i < 2 ^ 62) (h : P .non (put C p (.lst (us.take i ++ [d] ++ us.drop i)))) : aInsert (.ce p) [.int (i : Int), d] C P := by
  unfold aInsert
  simp only [h0]
  exact ⟨h1, by omega, by omega, by rw [Int.toNat_natCast]; exact h⟩
theorem g_lenN {p : Addr} {es : List (NestedKey × D)} (h0 : C p = some (.dn es)) (h : P (.int es.length) C) : aLenN [.ce p] C P := by
  show (match asN C (.ce p) with | some es => P (.int es.length) C | none => False)
  unfold asN
  simp only [h0]
  exact h
end
end AL

namespace AL
open PySem PySem.Spec PyProof.Rows L2
variable {B : Bs}
theorem hu65 {k : Nat} {A : Around} (r : Room k A) : A.units + 65 < cLine := by
  have := r.un
  omega
/-! ### xs.index(x), data of any depth -/
def aIndexD : D → ASp := fun x ys C P => match x, ys with
  | .lst us, [y] => ∃ (ds : List PyData) (d z : PyData) (j : Nat), pdC C (.lst us) = some (.list ds) ∧ pdC C y = some d ∧ SeqAt.shaped (.list ds) = true ∧ SeqAt.shaped d = true ∧ ds[j]? = some z ∧ PyData.eqv z d = true ∧ (∀ (m : Nat) (z' : PyData), m < j → ds[m]? = some z' → PyData.eqv z' d = false) ∧ P (.int (j : Nat)) C
  | _, _ => False
theorem am_indexD {X : Cx} {K : PySem.W.Frag} (hu : X.A.units + 65 < cLine) (hK : X.K = K := by rfl) : AMt B X "list.index" (rIndexD K) aIndexD := by
  subst hK
  exact ⟨mt_indexD hu, by
  intro v d vs ds F C R H Q P hS r1 r2 h k
  unfold aIndexD at h
  split at h
  · cases r2 with
    | cons r2 r3 =>
      cases r3
      obtain ⟨es, d, z, j, h1, h2, h3, h4, h5, h6, h7, h8⟩ := h
      have g1 := pdC_ok hS r1 h1
      have g2 := pdC_ok hS r2 h2
      cases r1
      exact ⟨_, _, d, es, j, z, rfl, rfl, g1, g2, h3, h4, h5, h6, h7, k _ _ F C H (Ex.refl F) hS (.int _) h8⟩
  · exact h.elim⟩
end AL

namespace AL
open PySem PySem.Spec PyProof.Rows L2
variable {B : Bs}
/-! ### ==, cells at any depth -/
def mapPd (f : D → Option PyData) : List D → Option (List PyData)
  | [] => some []
  | d :: ds => match f d, mapPd f ds with | some x, some xs => some (x :: xs) | _, _ => none
def pdD (C : AH) : Nat → D → Option PyData
  | 0, d => pdC C d
  | n + 1, .ce p => match C p with | some (.lst ds) => (mapPd (pdD C n) ds).map .list | _ => none
  | n + 1, .lst ds => (mapPd (pdD C n) ds).map .list
  | n + 1, .tup ds => (mapPd (pdD C n) ds).map .tuple
  | _ + 1, d => pdC C d
section
variable {X : Cx} {K : PySem.W.Frag}
theorem mapPd_ok {F : Hp} {H : Hp} {f : D → Option PyData} (hf : ∀ v d x, Rep K F v d → f d = some x → Dp K H v x) : ∀ {vs : List V} {ds : List D} {xs : List PyData}, RepL K F vs ds → mapPd f ds = some xs → DpAll K H vs xs
  | _, [], _, .nil, h => by cases h; exact .nil
  | _, d :: ds, _, .cons r1 r2, h => by
    unfold mapPd at h
    split at h
    · rename_i q1 q2
      cases h
      exact .cons (hf _ _ _ r1 q1) (mapPd_ok hf r2 q2)
    · cases h
theorem pdD_ok {F : Hp} {C : AH} {R H : Hp} (hS : Sat B K F C R H) : ∀ (n : Nat) (v : V) (d : D) (x : PyData), Rep K F v d → pdD C n d = some x → Dp K H v x
  | 0, v, d, x, r, h => pdC_ok hS r h
  | n + 1, v, d, x, r, h => by
    cases d with
    | ce p =>
      cases r
      unfold pdD at h
      split at h
      · rename_i ds e
        cases q : mapPd (pdD C n) ds with
        | none => rw [q] at h; cases h
        | some xs =>
          rw [q] at h; cases h
          obtain ⟨_, o, h1, h2⟩ := hS.cell p _ e
          cases h2 with
          | lst h3 => exact .lst (SqL.of h1) (mapPd_ok (pdD_ok hS n) h3 q)
      · cases h
    | lst ds =>
      cases r with
      | lst h1 h2 =>
        unfold pdD at h
        cases q : mapPd (pdD C n) ds with
        | none => rw [q] at h; cases h
        | some xs => rw [q] at h; cases h; exact .lst (SqL.of (hS.ex _ _ h1)) (mapPd_ok (pdD_ok hS n) h2 q)
    | tup ds =>
      cases r with
      | tup h1 h2 =>
        unfold pdD at h
        cases q : mapPd (pdD C n) ds with
        | none => rw [q] at h; cases h
        | some xs => rw [q] at h; cases h; exact .tup (SqT.of (hS.ex _ _ h1)) (mapPd_ok (pdD_ok hS n) h2 q)
    | _ => exact pdC_ok hS r h
def aEqD (neg : Bool) : D → D → AH → (D → AH → Prop) → Prop := fun x y C P => aEqN neg x y C P ∨ ∃ n d e, pdD C n x = some d ∧ pdD C n y = some e ∧ SeqAt.shaped d = true ∧ SeqAt.shaped e = true ∧ P (.bl (if neg then !PyData.eqv d e else PyData.eqv d e)) C
theorem ao_eqDc (hu : X.A.units + 64 < cLine) (hK : X.K = K := by rfl) : AOp B X (compareOp .Eq) (fun x y H Q => rEq x y H Q ∨ rEqD K x y H Q) (aEqD false) := by
  subst hK
  refine ⟨op_eq.or (op_eqD hu), ?_⟩
  intro v w d e F C R H Q P hS r1 r2 h k
  rcases h with h | ⟨n, d', e', h1, h2, s1, s2, h3⟩
  · exact (sim_eq (B := B)) v w d e F C R H Q P hS r1 r2 h k
  · exact .inr ⟨d', e', pdD_ok hS n _ _ _ r1 h1, pdD_ok hS n _ _ _ r2 h2, s1, s2, k _ _ F C H (Ex.refl F) hS (.bl _) h3⟩
theorem ao_neDc (hu : X.A.units + 64 < cLine) (hK : X.K = K := by rfl) : AOp B X (compareOp .NotEq) (fun x y H Q => rNe x y H Q ∨ rNeD K x y H Q) (aEqD true) := by
  subst hK
  refine ⟨op_ne.or (op_neD hu), ?_⟩
  intro v w d e F C R H Q P hS r1 r2 h k
  rcases h with h | ⟨n, d', e', h1, h2, s1, s2, h3⟩
  · exact (sim_ne (B := B)) v w d e F C R H Q P hS r1 r2 h k
  · exact .inr ⟨d', e', pdD_ok hS n _ _ _ r1 h1, pdD_ok hS n _ _ _ r2 h2, s1, s2, k _ _ F C H (Ex.refl F) hS (.bl _) h3⟩
end
section
variable {C : AH} {P : D → AH → Prop}
theorem g_eqDp {x y : D} (n : Nat) {u v : PyData} (h1 : pdD C n x = some u) (h2 : pdD C n y = some v) (h3 : SeqAt.shaped u = true) (h4 : SeqAt.shaped v = true) (h : P (.bl (PyData.eqv u v)) C) : aEqD false x y C P := .inr ⟨n, u, v, h1, h2, h3, h4, h⟩
theorem g_neDp {x y : D} (n : Nat) {u v : PyData} (h1 : pdD C n x = some u) (h2 : pdD C n y = some v) (h3 : SeqAt.shaped u = true) (h4 : SeqAt.shaped v = true) (h : P (.bl (!PyData.eqv u v)) C) : aEqD true x y C P := .inr ⟨n, u, v, h1, h2, h3, h4, h⟩
end
end AL

local macro_rules | `(tactic| walk_at "ne") => `(tactic| first | with_reducible assumption | ((with_reducible refine Ne.symm ?_); (with_reducible assumption)))
local macro_rules | `(tactic| walk_at "look") => `(tactic| first
  | with_reducible assumption
  | with_reducible exact AL.put_same
  | ((with_reducible apply AL.put_other); (walk_at "ne"); (walk_at "look"))
  | ((with_reducible apply AL.del_other); (walk_at "ne"); (walk_at "look")))
local macro_rules | `(tactic| walk_at "mul") => `(tactic| first | exact Or.inr ⟨by omega, by omega⟩ | exact Or.inl ⟨by omega, by omega⟩)
local macro_rules | `(tactic| walk_at "go1") => `(tactic| first
  | with_reducible apply AL.g_seq
  | with_reducible apply AL.g_asg
  | with_reducible apply AL.g_op
  | with_reducible apply AL.g_un
  | ((with_reducible apply AL.g_var); exact rfl)
  | with_reducible apply AL.g_c
  | ((with_reducible apply AL.g_gname'); (simp only [AL.wipeA, List.foldl_cons, List.foldl_nil, List.set_cons_zero, List.set_cons_succ]; exact rfl))
  | with_reducible apply AL.g_call
  | with_reducible apply AL.g_cons
  | with_reducible apply AL.g_nil
  | with_reducible apply AL.g_addI
  | with_reducible apply AL.g_sub
  | ((with_reducible apply AL.g_mul); (walk_at "mul"))
  | ((with_reducible apply AL.g_mod); (omega))
  | ((with_reducible apply AL.g_div); (exact ⟨by omega, by omega⟩))
  | ((with_reducible apply AL.g_pow); (exact ⟨by decide, by decide, by decide⟩))
  | with_reducible apply AL.g_lt
  | with_reducible apply AL.g_le
  | with_reducible apply AL.g_gt
  | with_reducible apply AL.g_ge
  | with_reducible apply AL.g_eqII
  | with_reducible apply AL.g_neII
  | with_reducible apply AL.g_eqBB
  | with_reducible apply AL.g_neBB
  | with_reducible apply AL.g_eqTT
  | with_reducible apply AL.g_neTT
  | with_reducible apply AL.g_is
  | with_reducible apply AL.g_isnot
  | with_reducible apply AL.g_B
  | with_reducible apply AL.g_kB
  | with_reducible apply AL.g_tru
  | with_reducible apply AL.g_kTruB
  | with_reducible apply AL.g_and
  | with_reducible apply AL.g_or
  | with_reducible apply AL.g_not
  | with_reducible apply AL.g_andV
  | with_reducible apply AL.g_orV
  | with_reducible apply AL.g_notV
  | with_reducible apply AL.g_kNot
  | with_reducible apply AL.g_if
  | with_reducible apply AL.g_ixL0
  | with_reducible apply AL.g_ixL1
  | with_reducible apply AL.g_ixL2
  | with_reducible apply AL.g_ixT0
  | with_reducible apply AL.g_ixT1
  | with_reducible apply AL.g_ixT2
  | with_reducible apply AL.g_ixT3
  | ((with_reducible apply AL.g_ixC); (walk_at "look"))
  | with_reducible apply AL.g_lenL
  | with_reducible apply AL.g_lenT
  | with_reducible apply AL.g_lenR
  | ((with_reducible apply AL.g_lenC); (walk_at "look"))
  | with_reducible apply AL.g_abs
  | with_reducible apply AL.g_max2
  | with_reducible apply AL.g_min2
  | with_reducible apply AL.g_intI
  | with_reducible apply AL.g_intB
  | with_reducible apply AL.g_listL
  | with_reducible apply AL.g_listT
  | with_reducible apply AL.g_tupleL
  | with_reducible apply AL.g_tupleT
  | with_reducible apply AL.g_rev
  | with_reducible apply AL.g_ret
  | with_reducible apply AL.g_drop
  | with_reducible apply AL.g_next
  | with_reducible apply AL.g_retN
  | with_reducible apply AL.g_tup
  | with_reducible apply AL.g_lst
  | with_reducible apply AL.g_lstM
  | with_reducible apply AL.g_isi
  | with_reducible apply AL.g_kIsiI
  | with_reducible apply AL.g_kIsiB
  | with_reducible apply AL.g_kIsiN
  | with_reducible apply AL.g_kIsiS
  | with_reducible apply AL.g_kIsiL
  | with_reducible apply AL.g_kIsiT
  | with_reducible apply AL.g_kIsiK
  | with_reducible apply AL.g_meth
  | with_reducible apply AL.g_meth0
  | ((with_reducible apply AL.g_gsetV); exact rfl)
  | ((with_reducible apply AL.g_kSet); (walk_at "look"); exact rfl)
  | ((with_reducible apply AL.g_frzL); exact rfl; (walk_at "look"))
  | ((with_reducible apply AL.g_gtup); exact rfl)
  | with_reducible apply AL.g_gcons
  | with_reducible apply AL.g_gnil
  | with_reducible apply AL.g_yes
  | with_reducible apply AL.g_sl
  | with_reducible apply AL.g_noPart
  | with_reducible apply AL.g_part
  | with_reducible apply AL.g_kPart
  | ((with_reducible apply AL.g_pen0); exact rfl; (walk_at "look"))
  | ((with_reducible apply AL.g_pen1); exact rfl; (walk_at "look"))
  | ((with_reducible apply AL.g_pen2); exact rfl; (walk_at "look"))
  | with_reducible apply AL.g_putK
  | ((with_reducible apply AL.g_kPut1); exact rfl; (walk_at "look"))
  | ((with_reducible apply AL.g_kPut2); exact rfl; (walk_at "look"))
  | with_reducible apply AL.g_par
  | ((with_reducible apply AL.g_kPar); (simp only [List.set_cons_zero, List.set_cons_succ]; exact rfl))
  | with_reducible apply AL.g_neg
  | with_reducible apply AL.g_chain
  | with_reducible apply AL.g_lenSet
  | with_reducible apply AL.g_inTab
  | with_reducible apply AL.g_kInTab
  | with_reducible apply AL.g_kNotInTab
  | with_reducible apply AL.g_ixTab
  | with_reducible apply AL.g_eqNil
  | with_reducible apply AL.g_neNil
  | with_reducible apply AL.g_iteT
  | with_reducible apply AL.g_iteF
  | with_reducible apply AL.g_iteNT
  | with_reducible apply AL.g_iteNF
  | with_reducible apply AL.g_for
  | with_reducible apply AL.g_il
  | with_reducible apply AL.g_it
  | with_reducible apply AL.g_is'
  | with_reducible apply AL.g_ir1
  | with_reducible apply AL.g_ir2
  | with_reducible apply AL.g_ie
  | with_reducible apply AL.g_iz
  | with_reducible apply AL.g_kILl
  | with_reducible apply AL.g_kILr
  | with_reducible apply AL.g_kIT
  | with_reducible apply AL.g_kIS
  | with_reducible apply AL.g_kIE
  | with_reducible apply AL.g_kIZ
  | ((with_reducible apply AL.g_kIR1); (omega); (omega))
  | ((with_reducible apply AL.g_kIR2); (omega))
  | with_reducible apply AL.g_lc
  | with_reducible apply AL.g_lcM
  | ((with_reducible apply AL.g_bodyX); (simp only [List.map_cons, List.map_nil, List.length_cons, List.length_nil, List.cons_append, List.nil_append, List.reduceReplicate, Nat.reduceAdd, Nat.reduceSub]; exact rfl))
  | with_reducible apply AL.g_callX
  | with_reducible apply AL.g_raise
  | with_reducible apply AL.g_try
  | with_reducible apply AL.g_tryA
  | with_reducible apply AL.g_isX
  | with_reducible apply AL.g_get1
  | with_reducible apply AL.g_get2
  | with_reducible apply AL.g_getN
  | with_reducible apply AL.g_inN
  | with_reducible apply AL.g_get1N
  | with_reducible apply AL.g_putN
  | with_reducible apply AL.g_dispV
  | with_reducible apply AL.g_kDispVI
  | ((with_reducible apply AL.g_body'); (simp only [List.map_cons, List.map_nil, List.length_cons, List.length_nil, List.cons_append, List.nil_append, List.reduceReplicate, Nat.reduceAdd, Nat.reduceSub]; exact rfl))
  | ((with_reducible apply AL.g_sz); (simp only [List.length_cons, List.length_nil, PySem.sizeLine]; try omega))
  | ((with_reducible apply AL.g_ty); first | exact rfl | exact AL.isTy_ce (by walk_at "look") rfl))
local macro_rules | `(tactic| walk_at "go") => `(tactic| repeat walk_at "go1")

namespace A_k25
open PySem AL
/- met: slots 0:machine 1:seen 2:waiting 3:there -/
def a_met : AS' :=
  aSeq (aAsg (aDisp [(.inl 0, aC (.bl true))]) (aGName 1))
  (aSeq (aAsg (aLstM (aCons (aC (.int 0)) (aNil))) (aGName 2))
  (aSeq (aWhile (aB (aOp aNe (aVar 2) (aLst (aNil))))
  (aFor (aIL (aOp aIx (aOp aIx (aVar 0) (aC (.int 1))) (aMeth0 "list" aPop (aVar 2)))) (aGName 3)
  (aIfS (aAnd (aB (aOp aNotN (aVar 3) (aC .non))) (aB (aInK true (aVar 3) (aVar 1))))
  (aSeq (aPutK (aVar 1) (aVar 3) (aC (.bl true)))
  (aDrop (aMeth "list" aAppend (aVar 2) (aCons (aVar 3) (aNil)))))
  (aNext))))
  (aFrz 1 (aRet (aCall (aSortD true) (aCons (aVar 1) (aNil)))))))
def s_met : ASp := aBody 4 a_met

/- alive: slots 0:machine 1:ends 2:goes 3:back 4:stand 5:row 6:there 7:waiting 8:seen 9:before 10:truth -/
def a_alive : AS' :=
  aSeq (aAsg (aVar 0) (aGTup 2 (aGCons (aGName 1) (aGCons (aGName 2) (aGNil)))))
  (aSeq (aAsg (aLc (aIL (aVar 1)) (aGName 10) (aYes) (aLstM (aNil)) [10]) (aGName 3))
  (aSeq (aFor (aIE (aCons (aVar 2) (aNil))) (aGTup 2 (aGCons (aGName 4) (aGCons (aGName 5) (aGNil))))
  (aFor (aIL (aVar 5)) (aGName 6)
  (aIfS (aB (aOp aNotN (aVar 6) (aC .non)))
  (aDrop (aMeth "list" aAppend (aOp aIx (aVar 3) (aVar 6)) (aCons (aVar 4) (aNil))))
  (aNext))))
  (aSeq (aAsg (aLcM (aIE (aCons (aVar 1) (aNil))) (aGTup 2 (aGCons (aGName 4) (aGCons (aGName 10) (aGNil)))) (aTru (aVar 10)) (aVar 4) [4, 10]) (aGName 7))
  (aSeq (aAsg (aDict0) (aGName 8))
  (aSeq (aFor (aIL (aVar 7)) (aGName 4)
  (aPutK (aVar 8) (aVar 4) (aC (.bl true))))
  (aSeq (aWhile (aB (aOp aNe (aVar 7) (aLst (aNil))))
  (aFor (aIL (aOp aIx (aVar 3) (aMeth0 "list" aPop (aVar 7)))) (aGName 9)
  (aIfS (aB (aInK true (aVar 9) (aVar 8)))
  (aSeq (aPutK (aVar 8) (aVar 9) (aC (.bl true)))
  (aDrop (aMeth "list" aAppend (aVar 7) (aCons (aVar 9) (aNil)))))
  (aNext))))
  (aFrz 8 (aRet (aCall (aSortD false) (aCons (aVar 8) (aNil)))))))))))
def s_alive : ASp := aBody 11 a_alive

/- ranks_of: slots 0:machine 1:some 2:stand 3:among 4:ranks 5:grown 6:onward 7:goal -/
def a_ranks_of : AS' :=
  aSeq (aAsg (aCall (aDictP false) (aCons (aLc (aIL (aVar 1)) (aGName 2) (aYes) (aTup (aCons (aVar 2) (aCons (aC (.bl true)) (aNil)))) [2]) (aNil))) (aGName 3))
  (aSeq (aAsg (aDict0) (aGName 4))
  (aSeq (aAsg (aC (.bl true)) (aGName 5))
  (aSeq (aWhile (aTru (aVar 5))
  (aSeq (aAsg (aC (.bl false)) (aGName 5))
  (aFor (aIL (aUn aRev (aVar 1))) (aGName 2)
  (aSeq (aAsg (aLc (aIL (aOp aIx (aOp aIx (aVar 0) (aC (.int 1))) (aVar 2))) (aGName 7) (aB (aInN false (aVar 7) (aVar 3))) (aVar 7) [7]) (aGName 6))
  (aIfS (aAnd (aB (aInK true (aVar 2) (aVar 4))) (aTru (aCall aAll (aCons (aLc (aIL (aVar 6)) (aGName 7) (aYes) (aInK false (aVar 7) (aVar 4)) [7]) (aNil)))))
  (aSeq (aPutK (aVar 4) (aVar 2) (aCall aMaxL (aCons (aOp aAdd (aLst (aCons (aC (.int 0)) (aNil))) (aLc (aIL (aVar 6)) (aGName 7) (aYes) (aOp aAdd (aC (.int 1)) (aGetK (aVar 4) (aVar 7))) [7])) (aNil))))
  (aAsg (aC (.bl true)) (aGName 5)))
  (aNext))))))
  (aFrz 4 (aRet (aVar 4))))))
def s_ranks_of : ASp := aBody 8 a_ranks_of

/- row_to: slots 0:machine 1:start 2:goals 3:rows 4:layer 5:beyond 6:stand 7:number 8:goal -/
def a_row_to : AS' :=
  aSeq (aAsg (aDispV (aVar 1) (aLstM (aNil))) (aGName 3))
  (aSeq (aAsg (aLst (aCons (aVar 1) (aNil))) (aGName 4))
  (aSeq (aWhile (aB (aOp aNe (aVar 4) (aLst (aNil))))
  (aSeq (aAsg (aLstM (aNil)) (aGName 5))
  (aSeq (aFor (aIL (aVar 4)) (aGName 6)
  (aSeq (aIfS (aB (aOp aInL (aVar 6) (aVar 2)))
  (aRet (aGetK (aVar 3) (aVar 6)))
  (aNext))
  (aFor (aIE (aCons (aOp aIx (aOp aIx (aVar 0) (aC (.int 1))) (aVar 6)) (aNil))) (aGTup 2 (aGCons (aGName 7) (aGCons (aGName 8) (aGNil))))
  (aIfS (aAnd (aB (aOp aNotN (aVar 8) (aC .non))) (aB (aInK true (aVar 8) (aVar 3))))
  (aSeq (aPutK (aVar 3) (aVar 8) (aOp aAddM (aGetK (aVar 3) (aVar 6)) (aLst (aCons (aVar 7) (aNil)))))
  (aDrop (aMeth "list" aAppend (aVar 5) (aCons (aVar 8) (aNil)))))
  (aNext)))))
  (aFrz 5 (aAsg (aVar 5) (aGName 4))))))
  (aRet (aC .non))))
def s_row_to : ASp := aBody 9 a_row_to

/- ring_of: slots 0:machine 1:some 2:stand 3:among 4:places 5:rows 6:number 7:k 8:goal -/
def a_ring_of : AS' :=
  aSeq (aAsg (aCall (aDictP false) (aCons (aLc (aIL (aVar 1)) (aGName 2) (aYes) (aTup (aCons (aVar 2) (aCons (aC (.bl true)) (aNil)))) [2]) (aNil))) (aGName 3))
  (aSeq (aAsg (aDict0) (aGName 4))
  (aSeq (aAsg (aLstM (aNil)) (aGName 5))
  (aSeq (aAsg (aOp aIx (aVar 1) (aC (.int 0))) (aGName 2))
  (aSeq (aWhile (aB (aInK true (aVar 2) (aVar 4)))
  (aSeq (aPutK (aVar 4) (aVar 2) (aCall aLen (aCons (aVar 5) (aNil))))
  (aSeq (aAsg (aOp aIx (aLc (aIE (aCons (aOp aIx (aOp aIx (aVar 0) (aC (.int 1))) (aVar 2)) (aNil))) (aGTup 2 (aGCons (aGName 7) (aGCons (aGName 8) (aGNil)))) (aB (aInN false (aVar 8) (aVar 3))) (aVar 7) [7, 8]) (aC (.int 0))) (aGName 6))
  (aSeq (aDrop (aMeth "list" aAppend (aVar 5) (aCons (aVar 6) (aNil))))
  (aAsg (aOp aIx (aOp aIx (aOp aIx (aVar 0) (aC (.int 1))) (aVar 2)) (aVar 6)) (aGName 2))))))
  (aFrz 4 (aFrz 5 (aRet (aTup (aCons (aVar 2) (aCons (aSl aCut (aVar 5) (aPart (aGetK (aVar 4) (aVar 2))) aNoPart) (aNil)))))))))))
def s_ring_of : ASp := aBody 9 a_ring_of

/- law_pen: slots 0:law_script 1:law_first -/
def a_law_pen : AS' :=
  aRet (aDisp [(.inr "script", aVar 0), (.inr "at", aVar 1), (.inr "left", aC (.int 0))])
def s_law_pen : ASp := aBody 2 a_law_pen

/- law_mixed: slots 0:law_cell 1:law_k 2:law_one 3:law_two -/
def a_law_mixed : AS' :=
  aSeq (aAsg (aOp aMod (aOp aMul (aOp aAdd (aOp aAdd (aOp aMod (aVar 0) (aC (.int 2147483629))) (aOp aMul (aC (.int 40503)) (aVar 1))) (aC (.int 24691))) (aC (.int 48271))) (aC (.int 2147483647))) (aGName 2))
  (aSeq (aAsg (aOp aMod (aOp aAdd (aOp aAdd (aOp aMul (aVar 2) (aVar 2)) (aOp aMul (aC (.int 69621)) (aVar 2))) (aVar 1)) (aC (.int 2147483629))) (aGName 3))
  (aRet (aOp aDiv (aOp aMod (aOp aAdd (aOp aAdd (aOp aMul (aVar 3) (aVar 3)) (aOp aMul (aC (.int 16807)) (aVar 3))) (aOp aMul (aC (.int 31)) (aVar 1))) (aC (.int 1073741789))) (aC (.int 64)))))
def s_law_mixed : ASp := aBody 4 a_law_mixed

/- law_same: slots 0:law_got 1:law_due 2:law_one 3:law_other; calls itself -/
def a_law_same (s_law_same : ASp) : AS' :=
  aSeq (aIfS (aTru (aIsi2 "list" "tuple" (aVar 1)))
  (aSeq (aIfS (aOr (aNot (aTru (aIsi2 "list" "tuple" (aVar 0)))) (aB (aOp aNe (aIsi "list" (aVar 0)) (aIsi "list" (aVar 1)))))
  (aRet (aC (.bl false)))
  (aNext))
  (aRet (aAndV (aOp aEq (aCall aLen (aCons (aVar 0) (aNil))) (aCall aLen (aCons (aVar 1) (aNil)))) (aCall aAll (aCons (aLc (aIZG (aCons (aVar 0) (aCons (aVar 1) (aNil)))) (aGTup 2 (aGCons (aGName 2) (aGCons (aGName 3) (aGNil)))) (aYes) (aCall s_law_same (aCons (aVar 2) (aCons (aVar 3) (aNil)))) [2, 3]) (aNil))))))
  (aNext))
  (aSeq (aIfS (aOr (aB (aOp aIsN (aVar 1) (aC .non))) (aTru (aIsi2 "bool" "str" (aVar 1))))
  (aRet (aOp aEq (aCall aRepr (aCons (aVar 0) (aNil))) (aCall aRepr (aCons (aVar 1) (aNil)))))
  (aNext))
  (aRet (aAndV (aIsi "int" (aVar 0)) (aAndV (aNotV (aIsi "bool" (aVar 0))) (aOp aEq (aVar 0) (aVar 1))))))
def s_law_same : Nat → ASp
  | 0 => fun _ _ _ => False
  | n + 1 => aBody 4 (a_law_same (s_law_same n))

/- law_gone: slots 0:law_machine_here 1:law_stand 2:law_row 3:law_number -/
def a_law_gone : AS' :=
  aSeq (aFor (aIL (aVar 2)) (aGName 3)
  (aIfS (aB (aOp aNotN (aVar 1) (aC .non)))
  (aAsg (aOp aIx (aOp aIx (aOp aIx (aVar 0) (aC (.int 1))) (aVar 1)) (aVar 3)) (aGName 1))
  (aNext)))
  (aRet (aVar 1))
def s_law_gone : ASp := aBody 4 a_law_gone

/- law_met: slots 0:law_machine_here 1:law_known 2:law_wait 3:law_at 4:law_goal_here -/
def a_law_met : AS' :=
  aSeq (aAsg (aDisp [(.inl 0, aC (.bl true))]) (aGName 1))
  (aSeq (aAsg (aLstM (aCons (aC (.int 0)) (aNil))) (aGName 2))
  (aSeq (aAsg (aC (.int 0)) (aGName 3))
  (aSeq (aWhile (aB (aOp aLt (aVar 3) (aCall aLen (aCons (aVar 2) (aNil)))))
  (aSeq (aFor (aIL (aOp aIx (aOp aIx (aVar 0) (aC (.int 1))) (aOp aIx (aVar 2) (aVar 3)))) (aGName 4)
  (aIfS (aAnd (aB (aOp aNotN (aVar 4) (aC .non))) (aB (aInK true (aVar 4) (aVar 1))))
  (aSeq (aPutK (aVar 1) (aVar 4) (aC (.bl true)))
  (aDrop (aMeth "list" aAppend (aVar 2) (aCons (aVar 4) (aNil)))))
  (aNext)))
  (aAsg (aOp aAdd (aVar 3) (aC (.int 1))) (aGName 3))))
  (aFrz 2 (aRet (aCall (aSortL false) (aCons (aVar 2) (aNil))))))))
def s_law_met : ASp := aBody 5 a_law_met

/- law_longest: slots 0:law_machine_here 1:law_some 2:law_stand 3:law_best 4:law_grown 5:law_goal_here -/
def a_law_longest : AS' :=
  aSeq (aAsg (aCall (aDictP true) (aCons (aLc (aIL (aVar 1)) (aGName 2) (aTru (aOp aIx (aOp aIx (aVar 0) (aC (.int 0))) (aVar 2))) (aTup (aCons (aVar 2) (aCons (aC (.int 0)) (aNil)))) [2]) (aNil))) (aGName 3))
  (aSeq (aAsg (aC (.bl true)) (aGName 4))
  (aSeq (aWhile (aTru (aVar 4))
  (aSeq (aAsg (aC (.bl false)) (aGName 4))
  (aFor (aIL (aUn aRev (aVar 1))) (aGName 2)
  (aFor (aIL (aOp aIx (aOp aIx (aVar 0) (aC (.int 1))) (aVar 2))) (aGName 5)
  (aIfS (aAnd (aB (aInN false (aVar 5) (aVar 3))) (aB (aOp aLe (aGet2 (aVar 3) (aVar 2) (aUn aNeg (aC (.int 1)))) (aGetK (aVar 3) (aVar 5)))))
  (aSeq (aPutK (aVar 3) (aVar 2) (aOp aAdd (aGetK (aVar 3) (aVar 5)) (aC (.int 1))))
  (aSeq (aAsg (aC (.bl true)) (aGName 4))
  (aIfS (aB (aOp aEq (aGetK (aVar 3) (aVar 2)) (aCall aLen (aCons (aVar 1) (aNil)))))
  (aRet (aC .non))
  (aNext))))
  (aNext))))))
  (aFrz 3 (aRet (aVar 3)))))
def s_law_longest : ASp := aBody 6 a_law_longest

/- law_is_row: slots 0:law_machine_here 1:law_thing 2:law_one -/
def a_law_is_row : AS' :=
  aSeq (aIfS (aOr (aNot (aTru (aIsi "list" (aVar 1)))) (aB (aOp aGt (aCall aLen (aCons (aVar 1) (aNil))) (aCall aLen (aCons (aOp aIx (aVar 0) (aC (.int 0))) (aNil))))))
  (aRet (aC (.bl false)))
  (aNext))
  (aSeq (aFor (aIL (aVar 1)) (aGName 2)
  (aIfS (aOr (aNot (aTru (aIsi "int" (aVar 2)))) (aOr (aTru (aIsi "bool" (aVar 2))) (aNot (aB (aChain aLe aLt (aC (.int 0)) (aVar 2) (aCall aLen (aCons (aOp aIx (aOp aIx (aVar 0) (aC (.int 1))) (aC (.int 0))) (aNil))))))))
  (aRet (aC (.bl false)))
  (aNext)))
  (aRet (aC (.bl true))))
def s_law_is_row : ASp := aBody 3 a_law_is_row

/- useful_stands: slots 0:machine 1:living 2:stand -/
def a_useful_stands : AS' :=
  aSeq (aAsg (aCall (aDictP false) (aCons (aLc (aIL (aCall s_alive (aCons (aVar 0) (aNil)))) (aGName 2) (aYes) (aTup (aCons (aVar 2) (aCons (aC (.bl true)) (aNil)))) [2]) (aNil))) (aGName 1))
  (aRet (aLc (aIL (aCall s_met (aCons (aVar 0) (aNil)))) (aGName 2) (aB (aInK false (aVar 2) (aVar 1))) (aVar 2) [2]))
def s_useful_stands : ASp := aBody 3 a_useful_stands

/- law_take: slots 0:law_pen_here 1:law_most 2:law_k 3:law_script 4:law_cell 5:law_got -/
def a_law_take : AS' :=
  aSeq (aAsg (aGetK (aVar 0) (aC (.str "at"))) (aGName 2))
  (aSeq (aAsg (aGetK (aVar 0) (aC (.str "script"))) (aGName 3))
  (aSeq (aIfS (aB (aOp aEq (aGetK (aVar 0) (aC (.str "left"))) (aC (.int 0))))
  (aSeq (aPutK (aVar 0) (aC (.str "at")) (aOp aAdd (aVar 2) (aC (.int 1))))
  (aSeq (aAsg (aC (.int 0)) (aGName 4))
  (aSeq (aIfS (aB (aOp aGt (aCall aLen (aCons (aVar 3) (aNil))) (aC (.int 0))))
  (aAsg (aOp aIx (aVar 3) (aOp aMod (aVar 2) (aCall aLen (aCons (aVar 3) (aNil))))) (aGName 4))
  (aNext))
  (aSeq (aIfS (aOr (aB (aOp aGe (aVar 2) (aCall aLen (aCons (aVar 3) (aNil))))) (aB (aOp aLt (aCall aAbs (aCons (aVar 4) (aNil))) (aOp aPow (aC (.int 10)) (aC (.int 18))))))
  (aRet (aOp aMod (aCall s_law_mixed (aCons (aVar 4) (aCons (aVar 2) (aNil)))) (aVar 1)))
  (aNext))
  (aPutK (aVar 0) (aC (.str "left")) (aCall aAbs (aCons (aVar 4) (aNil))))))))
  (aNext))
  (aSeq (aAsg (aOp aMod (aGetK (aVar 0) (aC (.str "left"))) (aVar 1)) (aGName 5))
  (aSeq (aPutK (aVar 0) (aC (.str "left")) (aOp aDiv (aGetK (aVar 0) (aC (.str "left"))) (aVar 1)))
  (aRet (aVar 5))))))
def s_law_take : ASp := aBody 6 a_law_take

/- law_goes_round: slots 0:law_machine_here 1:law_told 2:law_stand 3:law_goal_here 4:law_row -/
def a_law_goes_round : AS' :=
  aSeq (aIfS (aOr (aB (aOp aNe (aCall aLen (aCons (aVar 1) (aNil))) (aC (.int 4)))) (aOr (aB (aOp aNe (aOp aIx (aVar 1) (aC (.int 0))) (aC (.str "endless")))) (aB (aOp aEq (aOp aIx (aVar 1) (aC (.int 2))) (aLst (aNil))))))
  (aRet (aC (.bl false)))
  (aNext))
  (aSeq (aIfS (aNot (aTru (aCall aAll (aCons (aLc (aIT (aSl aCut (aVar 1) (aPart (aC (.int 1))) aNoPart)) (aGName 4) (aYes) (aCall s_law_is_row (aCons (aVar 0) (aCons (aVar 4) (aNil)))) [4]) (aNil)))))
  (aRet (aC (.bl false)))
  (aNext))
  (aSeq (aAsg (aCall s_law_gone (aCons (aVar 0) (aCons (aC (.int 0)) (aCons (aOp aIx (aVar 1) (aC (.int 1))) (aNil))))) (aGName 2))
  (aSeq (aIfS (aOr (aB (aOp aIsN (aVar 2) (aC .non))) (aB (aOp aNe (aCall s_law_gone (aCons (aVar 0) (aCons (aVar 2) (aCons (aOp aIx (aVar 1) (aC (.int 2))) (aNil))))) (aVar 2))))
  (aRet (aC (.bl false)))
  (aNext))
  (aSeq (aAsg (aCall s_law_gone (aCons (aVar 0) (aCons (aVar 2) (aCons (aOp aIx (aVar 1) (aC (.int 3))) (aNil))))) (aGName 3))
  (aRet (aAndV (aOp aNotN (aVar 3) (aC .non)) (aOp aIx (aOp aIx (aVar 0) (aC (.int 0))) (aVar 3))))))))
def s_law_goes_round : ASp := aBody 5 a_law_goes_round

/- span: slots 0:machine 1:some 2:ranks 3:stand 4:left 5:again 6:ends 7:goal -/
def a_span : AS' :=
  aSeq (aAsg (aCall s_useful_stands (aCons (aVar 0) (aNil))) (aGName 1))
  (aSeq (aIfS (aB (aOp aNinL (aC (.int 0)) (aVar 1)))
  (aRet (aTup (aCons (aC (.str "none")) (aCons (aCall s_met (aCons (aVar 0) (aNil))) (aNil)))))
  (aNext))
  (aSeq (aAsg (aCall s_ranks_of (aCons (aVar 0) (aCons (aVar 1) (aNil)))) (aGName 2))
  (aSeq (aAsg (aLc (aIL (aVar 1)) (aGName 3) (aB (aInK true (aVar 3) (aVar 2))) (aVar 3) [3]) (aGName 4))
  (aSeq (aIfS (aB (aOp aEq (aVar 4) (aLst (aNil))))
  (aRet (aTup (aCons (aC (.str "last")) (aCons (aLcM (aIR1 (aCons (aCall aLen (aCons (aOp aIx (aVar 0) (aC (.int 0))) (aNil))) (aNil))) (aGName 3) (aYes) (aGet2 (aVar 2) (aVar 3) (aC .non)) [3]) (aNil)))))
  (aNext))
  (aSeq (aAsg (aCall s_ring_of (aCons (aVar 0) (aCons (aVar 4) (aNil)))) (aGTup 2 (aGCons (aGName 3) (aGCons (aGName 5) (aGNil)))))
  (aSeq (aAsg (aLc (aIL (aVar 1)) (aGName 7) (aTru (aOp aIx (aOp aIx (aVar 0) (aC (.int 0))) (aVar 7))) (aVar 7) [7]) (aGName 6))
  (aRet (aTup (aCons (aC (.str "endless")) (aCons (aCall s_row_to (aCons (aVar 0) (aCons (aC (.int 0)) (aCons (aLst (aCons (aVar 3) (aNil))) (aNil))))) (aCons (aVar 5) (aCons (aCall s_row_to (aCons (aVar 0) (aCons (aVar 3) (aCons (aVar 6) (aNil))))) (aNil)))))))))))))
def s_span : ASp := aBody 8 a_span

/- law_signs: slots 0:law_pen_here -/
def a_law_signs : AS' :=
  aRet (aOp aIx (aLst (aCons (aC (.int 2)) (aCons (aC (.int 1)) (aCons (aC (.int 3)) (aCons (aC (.int 2)) (aCons (aC (.int 4)) (aCons (aC (.int 3)) (aCons (aC (.int 2)) (aCons (aOp aAdd (aC (.int 5)) (aCall s_law_take (aCons (aVar 0) (aCons (aC (.int 8)) (aNil))))) (aNil)))))))))) (aCall s_law_take (aCons (aVar 0) (aCons (aC (.int 8)) (aNil)))))
def s_law_signs : ASp := aBody 1 a_law_signs

/- law_goal: slots 0:law_pen_here 1:law_stand 2:law_stands 3:law_way 4:law_goal_here -/
def a_law_goal : AS' :=
  aSeq (aAsg (aCall s_law_take (aCons (aVar 0) (aCons (aOp aAdd (aVar 2) (aC (.int 1))) (aNil)))) (aGName 4))
  (aSeq (aIfS (aOr (aB (aOp aEq (aVar 4) (aVar 2))) (aAnd (aB (aOp aEq (aVar 3) (aC (.int 1)))) (aB (aOp aLe (aVar 4) (aVar 1)))))
  (aRet (aC .non))
  (aNext))
  (aRet (aVar 4)))
def s_law_goal : ASp := aBody 5 a_law_goal

/- law_ring: slots 0:law_pen_here 1:law_signs_here 2:law_many 3:law_goes 4:law_stand 5:law_row -/
def a_law_ring : AS' :=
  aSeq (aAsg (aOp aAdd (aC (.int 2)) (aCall s_law_take (aCons (aVar 0) (aCons (aC (.int 7)) (aNil))))) (aGName 2))
  (aSeq (aAsg (aLstM (aNil)) (aGName 3))
  (aSeq (aFor (aIR1 (aCons (aVar 2) (aNil))) (aGName 4)
  (aSeq (aAsg (aOp (aRepL true) (aLst (aCons (aC .non) (aNil))) (aVar 1)) (aGName 5))
  (aSeq (aAsg (aOp aMod (aOp aAdd (aVar 4) (aC (.int 1))) (aOp aSub (aVar 2) (aC (.int 1)))) (aGSet (aVar 5) (aCall s_law_take (aCons (aVar 0) (aCons (aVar 1) (aNil))))))
  (aDrop (aMeth "list" aAppend (aVar 3) (aCons (aVar 5) (aNil)))))))
  (aSeq (aAsg (aOp aSub (aVar 2) (aC (.int 1))) (aGSet (aOp aIx (aVar 3) (aCall s_law_take (aCons (aVar 0) (aCons (aOp aSub (aVar 2) (aC (.int 1))) (aNil))))) (aCall s_law_take (aCons (aVar 0) (aCons (aVar 1) (aNil))))))
  (aSeq (aAsg (aOp (aRepL false) (aLst (aCons (aC .non) (aNil))) (aVar 1)) (aGSet (aVar 3) (aOp aSub (aVar 2) (aC (.int 1)))))
  (aFrz 3 (aFrzIn 3 (aRet (aTup (aCons (aLc (aIR1 (aCons (aVar 2) (aNil))) (aGName 4) (aYes) (aOp aEq (aVar 4) (aOp aSub (aVar 2) (aC (.int 1)))) [4]) (aCons (aVar 3) (aNil)))))))))))
def s_law_ring : ASp := aBody 6 a_law_ring

/- law_chain: slots 0:law_pen_here 1:law_many 2:law_goes 3:law_stand -/
def a_law_chain : AS' :=
  aSeq (aAsg (aOp aAdd (aC (.int 100)) (aCall s_law_take (aCons (aVar 0) (aCons (aC (.int 900)) (aNil))))) (aGName 1))
  (aSeq (aAsg (aLcM (aIR1 (aCons (aVar 1) (aNil))) (aGName 3) (aYes) (aLst (aCons (aOp aAdd (aVar 3) (aC (.int 1))) (aNil))) [3]) (aGName 2))
  (aSeq (aAsg (aLst (aCons (aOp aIx (aLst (aCons (aC .non) (aCons (aCall s_law_take (aCons (aVar 0) (aCons (aOp aDiv (aVar 1) (aC (.int 2))) (aNil)))) (aNil)))) (aCall s_law_take (aCons (aVar 0) (aCons (aC (.int 2)) (aNil))))) (aNil))) (aGSet (aVar 2) (aOp aSub (aVar 1) (aC (.int 1)))))
  (aFrz 2 (aRet (aTup (aCons (aLc (aIR1 (aCons (aVar 1) (aNil))) (aGName 3) (aYes) (aOp aEq (aVar 3) (aOp aSub (aVar 1) (aC (.int 1)))) [3]) (aCons (aVar 2) (aNil))))))))
def s_law_chain : ASp := aBody 4 a_law_chain

/- law_machine: slots 0:law_pen_here 1:law_signs_here 2:law_most 3:law_stands 4:law_way 5:law_fence 6:law_ends 7:law_goes 8:law_stand 9:law_row 10:law_number 11:law_goal_here -/
def a_law_machine : AS' :=
  aSeq (aAsg (aOp aAdd (aC (.int 1)) (aCall s_law_take (aCons (aVar 0) (aCons (aVar 2) (aNil))))) (aGName 3))
  (aSeq (aAsg (aCall s_law_take (aCons (aVar 0) (aCons (aC (.int 4)) (aNil)))) (aGName 4))
  (aSeq (aAsg (aOp aAdd (aC (.int 1)) (aCall s_law_take (aCons (aVar 0) (aCons (aVar 3) (aNil))))) (aGName 5))
  (aSeq (aAsg (aLstM (aNil)) (aGName 6))
  (aSeq (aAsg (aLstM (aNil)) (aGName 7))
  (aSeq (aFor (aIR1 (aCons (aVar 3) (aNil))) (aGName 8)
  (aSeq (aDrop (aMeth "list" aAppend (aVar 6) (aCons (aOp aEq (aCall s_law_take (aCons (aVar 0) (aCons (aC (.int 3)) (aNil)))) (aC (.int 0))) (aNil))))
  (aSeq (aAsg (aLc (aIR1 (aCons (aVar 1) (aNil))) (aGName 10) (aYes) (aCall s_law_goal (aCons (aVar 0) (aCons (aVar 8) (aCons (aVar 3) (aCons (aVar 4) (aNil)))))) [10]) (aGName 9))
  (aSeq (aIfS (aAnd (aB (aOp aEq (aVar 4) (aC (.int 2)))) (aB (aOp aLt (aVar 8) (aVar 5))))
  (aSeq (aAsg (aC (.bl false)) (aGSet (aVar 6) (aVar 8)))
  (aAsg (aLc (aIL (aVar 9)) (aGName 11) (aYes) (aOp aIx (aLst (aCons (aVar 11) (aCons (aC .non) (aNil)))) (aCall aInt (aCons (aOrV (aOp aIsN (aVar 11) (aC .non)) (aOp aGe (aVar 11) (aVar 5))) (aNil)))) [11]) (aGName 9)))
  (aNext))
  (aDrop (aMeth "list" aAppend (aVar 7) (aCons (aVar 9) (aNil))))))))
  (aFrz 6 (aFrz 7 (aRet (aTup (aCons (aVar 6) (aCons (aVar 7) (aNil))))))))))))
def s_law_machine : ASp := aBody 12 a_law_machine

/- law_right: slots 0:law_machine_here 1:law_told 2:law_some 3:law_best 4:law_stand -/
def a_law_right : AS' :=
  aSeq (aIfS (aOr (aNot (aTru (aIsi "tuple" (aVar 1)))) (aB (aOp aLt (aCall aLen (aCons (aVar 1) (aNil))) (aC (.int 2)))))
  (aRet (aC (.bl false)))
  (aNext))
  (aSeq (aAsg (aCall s_law_met (aCons (aVar 0) (aNil))) (aGName 2))
  (aSeq (aAsg (aCall s_law_longest (aCons (aVar 0) (aCons (aVar 2) (aNil)))) (aGName 3))
  (aSeq (aIfS (aB (aOp aIsN (aVar 3) (aC .non)))
  (aRet (aCall s_law_goes_round (aCons (aVar 0) (aCons (aVar 1) (aNil)))))
  (aNext))
  (aSeq (aIfS (aB (aInK true (aC (.int 0)) (aVar 3)))
  (aRet (aCall (s_law_same 8) (aCons (aVar 1) (aCons (aTup (aCons (aC (.str "none")) (aCons (aVar 2) (aNil)))) (aNil)))))
  (aNext))
  (aRet (aCall (s_law_same 8) (aCons (aVar 1) (aCons (aTup (aCons (aC (.str "last")) (aCons (aLc (aIR1 (aCons (aCall aLen (aCons (aOp aIx (aVar 0) (aC (.int 0))) (aNil))) (aNil))) (aGName 4) (aYes) (aGet2 (aVar 3) (aVar 4) (aC .non)) [4]) (aNil)))) (aNil)))))))))
def s_law_right : ASp := aBody 5 a_law_right

/- law: slots 0:law_script 1:law_pen_here 2:law_size 3:law_machines 4:law_machine_here 5:law_handed 6:law_told 7:law_row -/
def a_law : AS' :=
  aSeq (aAsg (aCall s_law_pen (aCons (aVar 0) (aCons (aC (.int 0)) (aNil)))) (aGName 1))
  (aSeq (aAsg (aCall s_law_take (aCons (aVar 1) (aCons (aC (.int 16)) (aNil)))) (aGName 2))
  (aSeq (aAsg (aLstM (aCons (aCall s_law_machine (aCons (aVar 1) (aCons (aCall s_law_signs (aCons (aVar 1) (aNil))) (aCons (aOp aIx (aLst (aCons (aC (.int 9)) (aCons (aC (.int 30)) (aNil)))) (aCall aInt (aCons (aOp aEq (aVar 2) (aC (.int 9))) (aNil)))) (aNil))))) (aNil))) (aGName 3))
  (aSeq (aIfS (aB (aOp aEq (aVar 2) (aC (.int 10))))
  (aAsg (aLstM (aCons (aCall s_law_chain (aCons (aVar 1) (aNil))) (aNil))) (aGName 3))
  (aNext))
  (aSeq (aAsg (aCall s_law_pen (aCons (aVar 0) (aCons (aC (.int 31)) (aNil)))) (aGName 1))
  (aSeq (aDrop (aMeth "list" aAppend (aVar 3) (aCons (aCall s_law_machine (aCons (aVar 1) (aCons (aCall s_law_signs (aCons (aVar 1) (aNil))) (aCons (aC (.int 6)) (aNil))))) (aNil))))
  (aSeq (aIfS (aB (aOp aEq (aCall s_law_take (aCons (aVar 1) (aCons (aC (.int 3)) (aNil)))) (aC (.int 0))))
  (aAsg (aCall s_law_ring (aCons (aVar 1) (aCons (aOp aAdd (aC (.int 1)) (aCall s_law_take (aCons (aVar 1) (aCons (aC (.int 3)) (aNil))))) (aNil)))) (aGSet (aVar 3) (aC (.int 1))))
  (aNext))
  (aFrz 3 (aSeq (aFor (aIL (aOp aAdd (aVar 3) (aVar 3))) (aGName 4)
  (aSeq (aAsg (aTup (aCons (aCall aListOf (aCons (aOp aIx (aVar 4) (aC (.int 0))) (aNil))) (aCons (aLc (aIL (aOp aIx (aVar 4) (aC (.int 1)))) (aGName 7) (aYes) (aCall aListOf (aCons (aVar 7) (aNil))) [7]) (aNil)))) (aGName 5))
  (aSeq (aAsg (aCall s_span (aCons (aVar 5) (aNil))) (aGName 6))
  (aSeq (aIfS (aOr (aNot (aTru (aCall s_law_right (aCons (aVar 4) (aCons (aVar 6) (aNil)))))) (aB (aOp aNe (aVar 5) (aVar 4))))
  (aRet (aC (.bl false)))
  (aNext))
  (aSeq (aDrop (aMeth "list" aAppend (aOp aIx (aVar 6) (aC (.int 1))) (aCons (aC (.int 0)) (aNil))))
  (aSeq (aDrop (aMeth0 "list" aClear (aOp aIx (aVar 6) (aUn aNeg (aC (.int 1))))))
  (aIfS (aB (aOp aNe (aVar 5) (aVar 4)))
  (aRet (aC (.bl false)))
  (aNext))))))))
  (aRet (aC (.bl true)))))))))))
def s_law : ASp := aBody 8 a_law

end A_k25
namespace A_k25
open PySem L2 AL
def PenC (c : Cell) : Prop := ∃ (ns : List Int) (k l : Int), c = penD (.scr ns) (.int k) (.int l) ∧ 0 ≤ k ∧ 0 ≤ l
def Pen (C : AH) (p : Addr) : Prop := ∃ c, C p = some c ∧ PenC c
theorem pen_put {C : AH} {p : Addr} {c : Cell} (h : PenC c) : Pen (put C p c) p := ⟨c, put_same, h⟩
theorem Pen.other {C : AH} {p q : Addr} {c : Cell} (h : Pen C p) (hn : p ≠ q) : Pen (put C q c) p := by
  obtain ⟨d, h1, h2⟩ := h
  exact ⟨d, put_other hn h1, h2⟩
theorem Pen.otherD {C : AH} {p q : Addr} (h : Pen C p) (hn : p ≠ q) : Pen (del C q) p := by
  obtain ⟨d, h1, h2⟩ := h
  exact ⟨d, del_other hn h1, h2⟩
theorem mixed_ok {x k : Int} {C : AH} {P : D → AH → Prop} (h : ∀ i, P (.int i) C) : s_law_mixed [.int x, .int k] C P := by
  unfold s_law_mixed a_law_mixed
  walk_at "go"
  exact h _
theorem take_ok {p : Addr} {m : Int} {C : AH} {P : D → AH → Prop} (hp : Pen C p) (hm : 0 < m) (hm2 : m < 1073741824)
    (h : ∀ c d, PenC c → 0 ≤ d → d < m → P (.int d) (put C p c)) : s_law_take [.ce p, .int m] C P := by
  obtain ⟨_, hC, ns, k, l, rfl, hk, hl⟩ := hp
  unfold s_law_take a_law_take
  walk_at "go"
  refine g_ifJ (fun st C' => ∃ (k2 l2 : Int) (x4 x5 : Option D), 0 ≤ k2 ∧ 0 ≤ l2 ∧ (∀ z, put C' p z = put C p z) ∧ C' p = some (penD (.scr ns) (.int k2) (.int l2)) ∧ st = [some (.ce p), some (.int m), some (.int k), some (.scr ns), x4, x5]) (fun N hN => ?_) (fun st C' hw => ?_)
  · refine g_ifS ?_
    walk_at "go"
    refine g_ite (fun h0 => ?_) (fun h0 => ?_)
    · walk_at "go"
      refine g_ifJ (fun st C' => ∃ x : Int, st = [some (.ce p), some (.int m), some (.int k), some (.scr ns), some (.int x), none] ∧ C' = put C p (penD (.scr ns) (.int (k + 1)) (.int l))) (fun N hN => ?_) (fun st C' hw => ?_)
      · refine g_ifS ?_
        walk_at "go"
        refine g_ite (fun h1 => ?_) (fun h1 => ?_)
        · have hl : 0 < ns.length := by have := of_decide_eq_true h1; omega
          walk_at "go"
          refine g_ixR (d := .int (ns.getD (k.toNat % ns.length) 0)) ?_ ?_
          · have e : k % (ns.length : Int) = ((k.toNat % ns.length : Nat) : Int) := by
              rw [Int.natCast_emod, Int.toNat_of_nonneg hk]
            rw [e]
            refine atI_nat' ?_
            have hl : k.toNat % ns.length < ns.length := Nat.mod_lt _ hl
            rw [List.getElem?_map, List.getElem?_eq_getElem hl]
            simp [List.getD, List.getElem?_eq_getElem hl]
          walk_at "go"
          exact hN _ _ ⟨_, rfl, rfl⟩
        · walk_at "go"
          exact hN _ _ ⟨_, rfl, rfl⟩
      · obtain ⟨x, rfl, rfl⟩ := hw
        walk_at "go"
        refine g_ifJ (fun st C' => st = [some (.ce p), some (.int m), some (.int k), some (.scr ns), some (.int x), none] ∧ C' = put C p (penD (.scr ns) (.int (k + 1)) (.int l))) (fun N hN => ?_) (fun st C' hw => ?_)
        · refine g_ifS ?_
          have ret : ∀ N2 : ASt → AH → Prop, (aRet (aOp aMod (aCall s_law_mixed (aCons (aVar 4) (aCons (aVar 2) (aNil)))) (aVar 1))) ⟨N2, P, fun _ _ => False, fun _ _ => False⟩ [some (.ce p), some (.int m), some (.int k), some (.scr ns), some (.int x), none] (put C p (penD (.scr ns) (.int (k + 1)) (.int l))) := by
            intro N2
            walk_at "go"
            refine mixed_ok fun i => ?_
            walk_at "go"
            exact h _ _ ⟨ns, k + 1, l, rfl, by omega, hl⟩ (Int.emod_nonneg _ (by omega)) (Int.emod_lt_of_pos _ hm)
          walk_at "go"
          refine g_ite (fun h2 => ?_) (fun h2 => ?_)
          · refine g_iteT ?_
            exact ret _
          · walk_at "go"
            refine g_ite (fun h3 => ?_) (fun h3 => ?_)
            · exact ret _
            · walk_at "go"
              exact hN _ _ ⟨rfl, rfl⟩
        · obtain ⟨rfl, rfl⟩ := hw
          walk_at "go"
          refine hN _ _ ⟨k + 1, (if x < 0 then -x else x), _, _, by omega, by split <;> omega, fun z => by rw [put_put, put_put], ?_, rfl⟩
          rw [put_put, put_same]
    · walk_at "go"
      exact hN _ _ ⟨k, l, _, _, hk, hl, fun z => rfl, hC, rfl⟩
  · obtain ⟨k2, l2, x4, x5, hk2, hl2, hp2, hC2, rfl⟩ := hw
    walk_at "go"
    rw [hp2]
    exact h _ _ ⟨ns, k2, _, rfl, hk2, Int.ediv_nonneg hl2 (by omega)⟩ (Int.emod_nonneg _ (by omega)) (Int.emod_lt_of_pos _ hm)
end A_k25

namespace A_k25
open PySem L2 AL
theorem take_nat {p : Addr} {m : Nat} {C : AH} {P : D → AH → Prop} (hp : Pen C p) (hm : 0 < m) (hm2 : m < 1073741824)
    (k : ∀ c (d : Nat), PenC c → d < m → P (.int d) (put C p c)) : s_law_take [.ce p, .int m] C P := by
  refine take_ok hp (by omega) (by omega) fun c d hc h0 h1 => ?_
  have e : d = ((d.toNat : Nat) : Int) := by omega
  rw [e]
  exact k c d.toNat hc (by omega)
theorem pen_ok {ns : List Int} {j : Nat} {C : AH} {P : D → AH → Prop} (k : ∀ p c, C p = none → PenC c → P (.ce p) (put C p c)) : s_law_pen [.scr ns, .int j] C P := by
  unfold s_law_pen a_law_pen
  walk_at "go"
  refine g_newPen rfl rfl fun p hp => ?_
  exact k p _ hp ⟨ns, _, _, rfl, by omega, by omega⟩
theorem signs_ok {p : Addr} {C : AH} {P : D → AH → Prop} (hp : Pen C p) (k : ∀ c (sg : Nat), PenC c → 0 < sg → sg ≤ 12 → P (.int sg) (put C p c)) : s_law_signs [.ce p] C P := by
  unfold s_law_signs a_law_signs
  walk_at "go"
  refine take_nat (m := 8) hp (by omega) (by omega) fun c d hc hd => ?_
  walk_at "go"
  refine take_nat (m := 8) (pen_put hc) (by omega) (by omega) fun c e hc he => ?_
  rw [put_put]
  have e5 : (5 : Int) + (d : Int) = ((5 + d : Nat) : Int) := by omega
  rw [e5]
  have : e = 0 ∨ e = 1 ∨ e = 2 ∨ e = 3 ∨ e = 4 ∨ e = 5 ∨ e = 6 ∨ e = 7 := by omega
  rcases this with rfl | rfl | rfl | rfl | rfl | rfl | rfl | rfl
  · exact g_ixL (d := .int (2 : Nat)) rfl (k c 2 hc (by omega) (by omega))
  · exact g_ixL (d := .int (1 : Nat)) rfl (k c 1 hc (by omega) (by omega))
  · exact g_ixL (d := .int (3 : Nat)) rfl (k c 3 hc (by omega) (by omega))
  · exact g_ixL (d := .int (2 : Nat)) rfl (k c 2 hc (by omega) (by omega))
  · exact g_ixL (d := .int (4 : Nat)) rfl (k c 4 hc (by omega) (by omega))
  · exact g_ixL (d := .int (3 : Nat)) rfl (k c 3 hc (by omega) (by omega))
  · exact g_ixL (d := .int (2 : Nat)) rfl (k c 2 hc (by omega) (by omega))
  · exact g_ixL (d := .int (5 + d : Nat)) rfl (k c (5 + d) hc (by omega) (by omega))
theorem goal_ok {p : Addr} {stand stands way : Nat} {C : AH} {P : D → AH → Prop} (hp : Pen C p) (hm : stands < 1000)
    (k : ∀ c (o : Option Nat), PenC c → inn stands o → P (oD o) (put C p c)) : s_law_goal [.ce p, .int stand, .int stands, .int way] C P := by
  unfold s_law_goal a_law_goal
  walk_at "go"
  have e1 : (stands : Int) + 1 = ((stands + 1 : Nat) : Int) := by omega
  rw [e1]
  refine take_nat hp (by omega) (by omega) fun c d hc hd => ?_
  have hno : P .non (put C p c) := k c none hc (fun t ht => by cases ht)
  walk_at "go"
  refine g_ifJ (fun st C' => d < stands ∧ st = [some (.ce p), some (.int stand), some (.int stands), some (.int way), some (.int d)] ∧ C' = put C p c) (fun N hN => ?_) (fun st C' hw => ?_)
  · refine g_ifS ?_
    walk_at "go"
    refine g_iteD (fun h => ?_) (fun h => ?_)
    · walk_at "go"
      exact hno
    · walk_at "go"
      refine g_ite (fun h2 => ?_) (fun h2 => ?_)
      · walk_at "go"
        refine g_ite (fun h3 => ?_) (fun h3 => ?_)
        · walk_at "go"
          exact hno
        · walk_at "go"
          exact hN _ _ ⟨by omega, rfl, rfl⟩
      · walk_at "go"
        exact hN _ _ ⟨by omega, rfl, rfl⟩
  · obtain ⟨hd2, rfl, rfl⟩ := hw
    walk_at "go"
    exact k c (some d) hc (fun t ht => by cases ht; exact hd2)
def rowD (r : List (Option Nat)) : D := .lst (r.map oD)
theorem row_in {fence stands : Nat} {C : AH} {r : List (Option Nat)} (hr : ∀ o ∈ r, inn stands o) : ∀ o ∈ r.map (fun o => match o with | some t => if fence ≤ t then none else some t | none => none), inn stands o := by
  intro o ho
  obtain ⟨o', h1, rfl⟩ := List.mem_map.mp ho
  intro t ht
  cases o' with
  | none => cases ht
  | some u =>
    simp only at ht
    split at ht
    · cases ht
    · exact hr _ h1 t ht
theorem machine_ok {p : Addr} {most sg : Nat} {C : AH} {P : D → AH → Prop} (hp : Pen C p) (hm : 0 < most) (hm2 : most ≤ 100) (hs : sg ≤ 12)
    (k : ∀ ends goes C', Mach sg ends goes → ends.length ≤ most → Pen C' p → Oth p C C' → P (machD ends goes) C') : s_law_machine [.ce p, .int sg, .int most] C P := by
  unfold s_law_machine a_law_machine
  walk_at "go"
  refine take_nat hp hm (by omega) fun c d hc hd => ?_
  walk_at "go"
  have e1 : (1 : Int) + (d : Int) = ((d + 1 : Nat) : Int) := by omega
  rw [e1]
  generalize hmany : d + 1 = many
  have hmany2 : 0 < many ∧ many ≤ most := by omega
  refine take_nat (m := 4) (pen_put hc) (by omega) (by omega) fun c way hc hway => ?_
  rw [put_put]
  walk_at "go"
  refine take_nat (pen_put hc) hmany2.1 (by omega) fun c f hc hf => ?_
  rw [put_put]
  walk_at "go"
  have e2 : (1 : Int) + (f : Int) = ((f + 1 : Nat) : Int) := by omega
  rw [e2]
  generalize hfence : f + 1 = fence
  have hP := pen_put (C := C) (p := p) hc
  have hO := (Oth.refl p C).pen (c := c)
  generalize put C p c = C1 at hP hO ⊢
  intro e he
  have hpe : p ≠ e := by obtain ⟨_, h, _⟩ := hP; exact ne_cell h he
  have hP2 := hP.other (c := .lst []) hpe
  have hCe : (put C1 e (.lst [])) e = some (.lst (([] : List Bool).map D.bl)) := put_same
  have he0 : C e = none := hO.none hpe.symm he
  have hO2 := hO.put (c := .lst []) he0
  generalize put C1 e (.lst []) = C2 at hP2 hCe hO2 ⊢
  walk_at "go"
  intro g hg
  have hpg : p ≠ g := by obtain ⟨_, h, _⟩ := hP2; exact ne_cell h hg
  have heg : e ≠ g := ne_cell hCe hg
  have hg0 : C g = none := hO2.none hpg.symm hg
  walk_at "go"
  refine g_kForR0 (fun i st C' => ∃ (ends : List Bool) (rows : List (List (Option Nat))) (x8 x9 : Option D), ends.length = i ∧ rows.length = i ∧ (∀ r ∈ rows, r.length = sg ∧ ∀ o ∈ r, inn many o) ∧ C' e = some (.lst (ends.map D.bl)) ∧ C' g = some (.lst (rows.map rowD)) ∧ Pen C' p ∧ Oth p C C' ∧
      st = [some (.ce p), some (.int sg), some (.int most), some (.int many), some (.int way), some (.int fence), some (.ce e), some (.ce g), x8, x9, none, none]) ?_ (fun i st C' hi hw => ?_) (fun st C' hw => ?_)
  · exact ⟨[], [], none, none, rfl, rfl, by simp, put_other heg hCe, put_same, hP2.other hpg, hO2.put hg0, rfl⟩
  · obtain ⟨ends, rows, x8, x9, hl1, hl2, hr, hCe, hCg, hP, hO, rfl⟩ := hw
    have hi2 : i < many := hi
    walk_at "go"
    refine take_nat (m := 3) hP (by omega) (by omega) fun c d hc hd => ?_
    have hP2 := pen_put (C := C') (p := p) hc
    have hCe2 := put_other (d := c) hpe.symm hCe
    have hCg2 := put_other (d := c) hpg.symm hCg
    have hO2 := hO.pen (c := c)
    generalize put C' p c = C2 at hP2 hCe2 hCg2 hO2 ⊢
    walk_at "go"
    refine g_append hCe2 ?_ ?_
    · simp only [List.length_map, sizeLine]; omega
    have e3 : ends.map D.bl ++ [D.bl (decide ((d : Int) = 0))] = (ends ++ [decide ((d : Int) = 0)]).map D.bl := by simp
    rw [e3]
    have hl3 : (ends ++ [decide ((d : Int) = 0)]).length = i + 1 := by simp [hl1]
    have hCe3 : (put C2 e (.lst ((ends ++ [decide ((d : Int) = 0)]).map D.bl))) e = some (.lst ((ends ++ [decide ((d : Int) = 0)]).map D.bl)) := put_same
    have hCg3 := put_other (d := .lst ((ends ++ [decide ((d : Int) = 0)]).map D.bl)) heg.symm hCg2
    have hP3 := hP2.other (c := .lst ((ends ++ [decide ((d : Int) = 0)]).map D.bl)) hpe
    have hO3 := hO2.put (c := .lst ((ends ++ [decide ((d : Int) = 0)]).map D.bl)) he0
    generalize put C2 e (.lst ((ends ++ [decide ((d : Int) = 0)]).map D.bl)) = C3 at hCe3 hCg3 hP3 hO3 ⊢
    generalize ends ++ [decide ((d : Int) = 0)] = ends2 at hl3 hCe3
    walk_at "go"
    have hrl : (rangeD 0 (sg : Int).toNat).length = sg := by rw [rangeD_len]; rfl
    refine g_kLc (fun j acc C9 => ∃ r : List (Option Nat), r.length = j ∧ acc = r.map oD ∧ (∀ o ∈ r, inn many o) ∧ C9 e = some (.lst (ends2.map D.bl)) ∧ C9 g = some (.lst (rows.map rowD)) ∧ Pen C9 p ∧ Oth p C C9) (by rw [hrl]; simp only [sizeLine]; omega) ⟨[], rfl, rfl, by simp, hCe3, hCg3, hP3, hO3⟩ (fun j d acc C9 hj hw => ?_) (fun acc C9 hw => ?_)
    · obtain ⟨r, hrl2, rfl, hro, hCe9, hCg9, hP9, hO9⟩ := hw
      walk_at "go"
      refine goal_ok hP9 (by omega) fun c o hc ho => ?_
      refine ⟨r ++ [o], by simp [hrl2], by simp, ?_, put_other hpe.symm hCe9, put_other hpg.symm hCg9, pen_put hc, hO9.pen⟩
      intro o2 ho2
      rcases List.mem_append.mp ho2 with h5 | h5
      · exact hro o2 h5
      · rw [List.mem_singleton.mp h5]; exact ho
    · obtain ⟨r, hrl2, rfl, hro, hCe9, hCg9, hP9, hO9⟩ := hw
      rw [hrl] at hrl2
      walk_at "go"
      refine g_ifJ (fun st C10 => ∃ (ends3 : List Bool) (r : List (Option Nat)), r.length = sg ∧ (∀ o ∈ r, inn many o) ∧ ends3.length = i + 1 ∧ C10 e = some (.lst (ends3.map D.bl)) ∧ C10 g = some (.lst (rows.map rowD)) ∧ Pen C10 p ∧ Oth p C C10 ∧ st = [some (.ce p), some (.int sg), some (.int most), some (.int many), some (.int way), some (.int fence), some (.ce e), some (.ce g), some (.int i), some (.lst (r.map oD)), none, none]) (fun N hN => ?_) (fun st C10 hw => ?_)
      · have skip := hN _ C9 ⟨ends2, r, hrl2, hro, hl3, hCe9, hCg9, hP9, hO9, rfl⟩
        refine g_ifS ?_
        walk_at "go"
        refine g_ite (fun h => ?_) (fun h => ?_)
        · walk_at "go"
          refine g_ite (fun h => ?_) (fun h => ?_)
          · walk_at "go"
            refine g_kSet (k := i) (us := ends2.map D.bl) hCe9 ?_ ?_
            · rw [List.length_map, hl3]
              unfold ixN
              rw [if_pos (by omega), if_pos (by omega)]
              rfl
            walk_at "go"
            refine g_kLcMap (fun d => match d with | .int t => if (fence : Int) ≤ t then .non else .int t | d => d) ?_ (fun d hd R hR => ?_) ?_
            · simp only [List.length_map, hrl2, sizeLine]; omega
            · obtain ⟨o, ho, rfl⟩ := List.mem_map.mp hd
              cases o with
              | none =>
                walk_at "go"
                refine g_kOr (fun _ => ?_) (fun h => by cases h)
                walk_at "go"
                exact hR
              | some t =>
                walk_at "go"
                refine g_kOr (fun h => by cases h) (fun _ => ?_)
                rw [show oD (some t) = .int (t : Int) from rfl]
                walk_at "go"
                have hR' : R (if (fence : Int) ≤ (t : Int) then D.non else .int t) _ := hR
                by_cases h6 : (fence : Int) ≤ (t : Int)
                · rw [if_pos h6] at hR'
                  rw [if_pos (decide_eq_true h6)]
                  exact g_ixL (d := .non) rfl hR'
                · rw [if_neg h6] at hR'
                  rw [if_neg (by simpa using h6)]
                  exact g_ixL (d := oD (some t)) rfl hR'
            · walk_at "go"
              have e6 : (r.map oD).map (fun d => match d with | .int t => if (fence : Int) ≤ t then .non else .int t | d => d) = (r.map (fun o => match o with | some t => if fence ≤ t then none else some t | none => none)).map oD := by
                rw [List.map_map, List.map_map]
                refine List.map_congr_left fun o ho => ?_
                cases o with
                | none => rfl
                | some t =>
                  simp only [Function.comp, oD]
                  by_cases h6 : fence ≤ t
                  · rw [if_pos (by omega), if_pos h6]
                  · rw [if_neg (by omega), if_neg h6]
              rw [e6]
              refine hN _ _ ⟨ends2.set i false, _, by simp [hrl2], row_in (C := C) hro, by simp [hl3], ?_, put_other heg.symm hCg9, hP9.other hpe, hO9.put he0, rfl⟩
              rw [put_same, List.map_set]
          · walk_at "go"
            exact skip
        · walk_at "go"
          exact skip
      · obtain ⟨ends3, r, hrl3, hro3, hl4, hCe10, hCg10, hP10, hO10, rfl⟩ := hw
        walk_at "go"
        refine g_append hCg10 ?_ ?_
        · simp only [List.length_map, sizeLine]; omega
        walk_at "go"
        refine ⟨ends3, rows ++ [r], _, _, hl4, by simp [hl2], ?_, put_other heg hCe10, ?_, hP10.other hpg, hO10.put hg0, rfl⟩
        · intro r' hr'
          rcases List.mem_append.mp hr' with h | h
          · exact hr r' h
          · rw [List.mem_singleton.mp h]
            exact ⟨hrl3, hro3⟩
        · rw [put_same, List.map_append]
          rfl
  · obtain ⟨ends, rows, x8, x9, hl1, hl2, hr, hCe, hCg, hP, hO, rfl⟩ := hw
    walk_at "go"
    have hl1' : ends.length = many := hl1
    have hl2' : rows.length = many := hl2
    refine k ends rows _ ⟨by omega, by omega, by omega, fun r hr2 => (hr r hr2).1, fun r hr2 t ht => by rw [hl1']; exact (hr r hr2).2 _ ht t rfl⟩ (by omega) ((hP.otherD hpe).otherD hpg) ((hO.del he0).del hg0)
end A_k25

namespace A_k25
open PySem L2 AL
def kGSet (x d : D) (s : ASt) (Q : ASt → AH → Prop) : D → AH → Prop := fun y C2 => match x, y with
  | .ce p, .int j => (match C2 p with | some (.lst us) => (match ixN us.length j with | some k => Q s (AL.put C2 p (.lst (us.set k d))) | none => False) | _ => False)
  | _, _ => False
theorem g_gset {o i : AE'} {d : D} {s : ASt} {C : AH} {Q : ASt → AH → Prop} (h : o s C fun x C1 => i s C1 (kGSet x d s Q)) : aGSet o i d s C Q := h
theorem ixN_nat {n i : Nat} (h : i < n) : ixN n (i : Int) = some i := by
  unfold ixN
  rw [if_pos (by omega), if_pos (by omega)]
  simp
theorem g_kGSet {C : AH} {d : D} {s : ASt} {Q : ASt → AH → Prop} {p : Addr} {us : List D} {k : Nat} (hC : C p = some (.lst us)) (hk : k < us.length) (h : Q s (AL.put C p (.lst (us.set k d)))) : kGSet (.ce p) d s Q (.int (k : Nat)) C := by
  unfold kGSet
  simp only [hC, ixN_nat hk]
  exact h
theorem frzL_app : ∀ (a b : List D) (C : AH), frzL C (a ++ b) = ((frzL C a).1 ++ (frzL (frzL C a).2 b).1, (frzL (frzL C a).2 b).2)
  | [], b, C => rfl
  | d :: a, b, C => by
    show ((frz1 C d).1 :: (frzL (frz1 C d).2 (a ++ b)).1, (frzL (frz1 C d).2 (a ++ b)).2) = _
    rw [frzL_app a b]
    rfl
theorem flat_rep {d : D} : ∀ n : Nat, (List.replicate n [d]).flatten = List.replicate n d
  | 0 => rfl
  | n + 1 => by rw [List.replicate_succ, List.flatten_cons, flat_rep n]; rfl
theorem g_repM {C : AH} {P : D → AH → Prop} {d : D} {n : Nat} (hn : n ≤ 1000) (h : ∀ p, C p = none → P (.ce p) (AL.put C p (.lst (List.replicate n d)))) : aRepL true (.lst [d]) (.int (n : Int)) C P :=
  ⟨[d], rfl, by omega, by omega, by simp only [sizeLine, List.length_singleton]; omega, by rw [if_pos rfl, Int.toNat_natCast, flat_rep]; exact h⟩
theorem g_repF {C : AH} {P : D → AH → Prop} {d : D} {n : Nat} (hn : n ≤ 1000) (h : P (.lst (List.replicate n d)) C) : aRepL false (.lst [d]) (.int (n : Int)) C P :=
  ⟨[d], rfl, by omega, by omega, by simp only [sizeLine, List.length_singleton]; omega, by rw [if_neg Bool.false_ne_true, Int.toNat_natCast, flat_rep]; exact h⟩
theorem rep_oD (n : Nat) : List.replicate n D.non = (List.replicate n (none : Option Nat)).map oD := by rw [List.map_replicate]; rfl
theorem ring_ok {p : Addr} {sg : Nat} {C : AH} {P : D → AH → Prop} (hp : Pen C p) (h1 : 0 < sg) (h12 : sg ≤ 12)
    (k : ∀ ends goes C', Mach sg ends goes → ends.length ≤ 8 → Pen C' p → Oth p C C' → P (machD ends goes) C') : s_law_ring [.ce p, .int (sg : Int)] C P := by
  unfold s_law_ring a_law_ring
  walk_at "go"
  refine take_nat (m := 7) hp (by omega) (by omega) fun c d hc hd => ?_
  have hP := pen_put (C := C) (p := p) hc
  have hO := (Oth.refl p C).pen (c := c)
  generalize AL.put C p c = C1 at hP hO
  walk_at "go"
  obtain ⟨m, hm⟩ : ∃ m, m = d + 1 := ⟨_, rfl⟩
  rw [show (2 : Int) + (d : Int) = ((m + 1 : Nat) : Int) by omega]
  intro g hg
  have hpg : p ≠ g := by obtain ⟨_, h, _⟩ := hP; exact ne_cell h hg
  have hP1 := hP.other (c := .lst []) hpg
  have hgC := hO.none hpg.symm hg
  have hO := hO.put (c := .lst []) hgC
  have hg1 : (AL.put C1 g (.lst [])) g = some (.lst (([] : List Addr).map D.ce)) := put_same
  generalize AL.put C1 g (.lst []) = C2 at hP1 hg1 hO
  walk_at "go"
  refine g_kForR0 (fun i st C' => ∃ (qs : List Addr) (rows : List (List (Option Nat))) (x4 x5 : Option D), qs.length = i ∧ rows.length = i ∧ qs.Nodup ∧ p ∉ qs ∧ g ∉ qs ∧ (∀ (j : Nat) (q : Addr) (r : List (Option Nat)), qs[j]? = some q → rows[j]? = some r → C' q = some (.lst (r.map oD))) ∧
    (∀ r ∈ rows, r.length = sg ∧ ∀ t, some t ∈ r → t < m + 1) ∧ C' g = some (.lst (qs.map D.ce)) ∧ (∀ q ∈ qs, C q = none) ∧ Oth p C C' ∧ Pen C' p ∧ st = [some (.ce p), some (.int (sg : Int)), some (.int ((m + 1 : Nat) : Int)), some (.ce g), x4, x5]) ⟨[], [], _, _, rfl, rfl, List.nodup_nil, by simp, by simp, (fun j q r hj => by simp at hj), by simp, hg1, by simp, hO, hP1, rfl⟩ (fun i st C' hi hw => ?_) (fun st C' hw => ?_)
  · obtain ⟨qs, rows, x4, x5, hql, hrl, hqn, hqp, hqg, hqs, hrows, hCg, hqC, hO, hP, rfl⟩ := hw
    have him : i < m + 1 := by have := hi; simp at this; omega
    walk_at "go"
    refine g_repM (by omega) fun q hq => ?_
    have hqg' : g ≠ q := ne_cell hCg hq
    have hqp' : p ≠ q := by obtain ⟨_, h, _⟩ := hP; exact ne_cell h hq
    have hqq : q ∉ qs := fun z => by
      obtain ⟨j, hj, e⟩ := List.getElem_of_mem z
      have := hqs j q rows[j] (by rw [List.getElem?_eq_getElem hj, e]) (List.getElem?_eq_getElem (by omega))
      rw [hq] at this
      cases this
    have hCq3 : (AL.put C' q (.lst (List.replicate sg D.non))) q = some (.lst (List.replicate sg D.non)) := put_same
    have hCg3 := put_other (d := .lst (List.replicate sg D.non)) hqg' hCg
    have hP3 := hP.other (c := .lst (List.replicate sg D.non)) hqp'
    have hqs3 : ∀ (j : Nat) (q' : Addr) (r : List (Option Nat)), qs[j]? = some q' → rows[j]? = some r → (AL.put C' q (.lst (List.replicate sg D.non))) q' = some (.lst (r.map oD)) := fun j q' r hj hr => put_other (fun z => hqq (z ▸ List.mem_of_getElem? hj)) (hqs j q' r hj hr)
    have hq0 := hO.none hqp'.symm hq
    have hO := hO.put (c := .lst (List.replicate sg D.non)) hq0
    generalize AL.put C' q (.lst (List.replicate sg D.non)) = C3 at hCq3 hCg3 hP3 hqs3 hO
    walk_at "go"
    rw [show ((m + 1 : Nat) : Int) - 1 = (m : Int) by omega]
    walk_at "go"
    rw [show ((i : Int) + 1) % (m : Int) = (((i + 1) % m : Nat) : Int) by simp]
    refine take_nat hP3 h1 (by omega) fun c n hc hn => ?_
    have hP4 := pen_put (C := C3) (p := p) hc
    have hCq4 := put_other (d := c) hqp'.symm hCq3
    have hCg4 := put_other (d := c) hpg.symm hCg3
    have hqs4 : ∀ (j : Nat) (q' : Addr) (r : List (Option Nat)), qs[j]? = some q' → rows[j]? = some r → (AL.put C3 p c) q' = some (.lst (r.map oD)) := fun j q' r hj hr => put_other (fun z => hqp (z ▸ List.mem_of_getElem? hj)) (hqs3 j q' r hj hr)
    have hO := hO.pen (c := c)
    generalize AL.put C3 p c = C4 at hP4 hCq4 hCg4 hqs4 hO
    refine g_kSet (k := n) hCq4 (by rw [List.length_replicate]; exact ixN_nat hn) ?_
    have e5 : (List.replicate sg D.non).set n (.int (((i + 1) % m : Nat) : Int)) = ((List.replicate sg (none : Option Nat)).set n (some ((i + 1) % m))).map oD := by
      rw [rep_oD, List.map_set]
      rfl
    rw [e5]
    generalize hrw : (List.replicate sg (none : Option Nat)).set n (some ((i + 1) % m)) = row
    have hrow : row.length = sg ∧ ∀ t, some t ∈ row → t < m + 1 := by
      rw [← hrw]
      refine ⟨by rw [List.length_set, List.length_replicate], fun t ht => ?_⟩
      rcases List.mem_or_eq_of_mem_set ht with z | z
      · have := (List.mem_replicate.mp z).2
        cases this
      · have e : t = (i + 1) % m := Option.some.inj z
        have := Nat.mod_lt (i + 1) (show 0 < m by omega)
        omega
    have hCq5 : (AL.put C4 q (.lst (row.map oD))) q = some (.lst (row.map oD)) := put_same
    have hCg5 := put_other (d := .lst (row.map oD)) hqg' hCg4
    have hP5 := hP4.other (c := .lst (row.map oD)) hqp'
    have hqs5 : ∀ (j : Nat) (q' : Addr) (r : List (Option Nat)), qs[j]? = some q' → rows[j]? = some r → (AL.put C4 q (.lst (row.map oD))) q' = some (.lst (r.map oD)) := fun j q' r hj hr => put_other (fun z => hqq (z ▸ List.mem_of_getElem? hj)) (hqs4 j q' r hj hr)
    have hO := hO.put (c := .lst (row.map oD)) hq0
    generalize AL.put C4 q (.lst (row.map oD)) = C5 at hCq5 hCg5 hP5 hqs5 hO
    walk_at "go"
    refine g_append hCg5 (by rw [List.length_map]; simp only [sizeLine]; omega) ?_
    walk_at "go"
    refine ⟨qs ++ [q], rows ++ [row], _, _, by simp [hql], by simp [hrl], ?_, ?_, ?_, fun j q' r hj hr => ?_, fun r hr => ?_, ?_, fun a ha => (List.mem_append.mp ha).elim (hqC a) fun z => by rw [List.mem_singleton.mp z]; exact hq0, hO.put hgC, hP5.other hpg, rfl⟩
    · refine List.nodup_append.mpr ⟨hqn, by simp, fun a ha b hb e => hqq ?_⟩
      rw [← List.mem_singleton.mp hb, ← e]; exact ha
    · simp [hqp, hqp']
    · simp [hqg, hqg']
    · by_cases hj2 : j < i
      · rw [List.getElem?_append_left (by omega)] at hj
        rw [List.getElem?_append_left (by omega)] at hr
        exact put_other (fun z => hqg (z ▸ List.mem_of_getElem? hj)) (hqs5 j q' r hj hr)
      · have hjl : j < (qs ++ [q]).length := (List.getElem?_eq_some_iff.mp hj).1
        rw [List.length_append, List.length_singleton] at hjl
        have : j = i := by omega
        subst this
        rw [← hql, List.getElem?_append_right (Nat.le_refl _), Nat.sub_self] at hj
        cases hj
        rw [← hrl, List.getElem?_append_right (Nat.le_refl _), Nat.sub_self] at hr
        cases hr
        exact put_other hqg'.symm hCq5
    · rcases List.mem_append.mp hr with z | z
      · exact hrows r z
      · rw [List.mem_singleton.mp z]; exact hrow
    · rw [put_same, List.map_append]
      rfl
  obtain ⟨qs, rows, x4, x5, hql, hrl, hqn, hqp, hqg, hqs, hrows, hCg, hqC, hO, hP, rfl⟩ := hw
  have hql : qs.length = m + 1 := hql
  have hrl : rows.length = m + 1 := hrl
  walk_at "go"
  rw [show ((m + 1 : Nat) : Int) - 1 = (m : Int) by omega]
  refine g_gset ?_
  walk_at "go"
  rw [show ((m + 1 : Nat) : Int) - 1 = (m : Int) by omega]
  refine take_nat hP (by omega) (by omega) fun c s1 hc hs1 => ?_
  have hP2 := pen_put (C := C') (p := p) hc
  have hCg2 := put_other (d := c) hpg.symm hCg
  have hqs2 : ∀ (j : Nat) (q : Addr) (r : List (Option Nat)), qs[j]? = some q → rows[j]? = some r → (AL.put C' p c) q = some (.lst (r.map oD)) := fun j q r hj hr => put_other (fun z => hqp (z ▸ List.mem_of_getElem? hj)) (hqs j q r hj hr)
  have hO := hO.pen (c := c)
  generalize AL.put C' p c = C3 at hP2 hCg2 hqs2 hO
  have hs1q : s1 < qs.length := by omega
  have hs1r : s1 < rows.length := by omega
  refine g_ixC hCg2 ?_
  refine g_ixL (d := .ce qs[s1]) (atI_nat' (by rw [List.getElem?_map, List.getElem?_eq_getElem hs1q]; rfl)) ?_
  walk_at "go"
  refine take_nat hP2 h1 (by omega) fun c n hc hn => ?_
  have hP3 := pen_put (C := C3) (p := p) hc
  have hCg3 := put_other (d := c) hpg.symm hCg2
  have hqs3 : ∀ (j : Nat) (q : Addr) (r : List (Option Nat)), qs[j]? = some q → rows[j]? = some r → (AL.put C3 p c) q = some (.lst (r.map oD)) := fun j q r hj hr => put_other (fun z => hqp (z ▸ List.mem_of_getElem? hj)) (hqs2 j q r hj hr)
  have hO := hO.pen (c := c)
  generalize AL.put C3 p c = C4 at hP3 hCg3 hqs3 hO
  have hrs1 := hrows rows[s1] (List.getElem_mem hs1r)
  refine g_kGSet (hqs3 s1 qs[s1] rows[s1] (List.getElem?_eq_getElem hs1q) (List.getElem?_eq_getElem hs1r)) (by rw [List.length_map]; omega) ?_
  rw [show (rows[s1].map oD).set n (.int (m : Int)) = (rows[s1].set n (some m)).map oD by rw [List.map_set]; rfl]
  have hgs : g ≠ qs[s1] := fun z => hqg (z ▸ List.getElem_mem hs1q)
  have hps : p ≠ qs[s1] := fun z => hqp (z ▸ List.getElem_mem hs1q)
  have hCg4 := put_other (d := .lst ((rows[s1].set n (some m)).map oD)) hgs hCg3
  have hP4 := hP3.other (c := .lst ((rows[s1].set n (some m)).map oD)) hps
  have hqs4 : ∀ (j : Nat) q r, qs[j]? = some q → (rows.set s1 (rows[s1].set n (some m)))[j]? = some r → (AL.put C4 qs[s1] (.lst ((rows[s1].set n (some m)).map oD))) q = some (.lst (r.map oD)) := fun j q r hj hr => by
    by_cases hjs : j = s1
    · subst hjs
      rw [List.getElem?_set_self hs1r] at hr
      cases hr
      rw [List.getElem?_eq_getElem hs1q] at hj
      cases hj
      exact put_same
    · rw [List.getElem?_set_ne (Ne.symm hjs)] at hr
      refine put_other (fun z => hjs ?_) (hqs3 j q r hj hr)
      subst z
      obtain ⟨hjl, hje⟩ := List.getElem?_eq_some_iff.mp hj
      have a1 := hqn.idxOf_getElem j hjl
      have a2 := hqn.idxOf_getElem s1 hs1q
      rw [hje] at a1
      exact a1.symm.trans a2
  have hO := hO.put (c := .lst ((rows[s1].set n (some m)).map oD)) (hqC _ (List.getElem_mem hs1q))
  generalize AL.put C4 qs[s1] (.lst ((rows[s1].set n (some m)).map oD)) = C5 at hCg4 hP4 hqs4 hO
  generalize hrows2 : rows.set s1 (rows[s1].set n (some m)) = rows2 at hqs4
  have hr2 : rows2.length = m + 1 ∧ ∀ r ∈ rows2, r.length = sg ∧ ∀ t, some t ∈ r → t < m + 1 := by
    rw [← hrows2]
    refine ⟨by rw [List.length_set]; exact hrl, fun r hr => ?_⟩
    rcases List.mem_or_eq_of_mem_set hr with z | z
    · exact hrows r z
    · rw [z]
      refine ⟨by rw [List.length_set]; exact hrs1.1, fun t ht => ?_⟩
      rcases List.mem_or_eq_of_mem_set ht with y | y
      · exact hrs1.2 t y
      · have : t = m := Option.some.inj y
        omega
  obtain ⟨hr2l, hr2⟩ := hr2
  walk_at "go"
  refine g_repF (by omega) ?_
  walk_at "go"
  rw [show ((m + 1 : Nat) : Int) - 1 = (m : Int) by omega]
  refine g_kSet (k := m) hCg4 (by rw [List.length_map]; exact ixN_nat (by omega)) ?_
  have hsplit : ∀ {α : Type} (l : List α), l.length = m + 1 → ∃ (l0 : List α) (x : α), l = l0 ++ [x] ∧ l0.length = m := fun l hl => by
    have hne : l ≠ [] := fun z => by rw [z] at hl; cases hl
    exact ⟨l.dropLast, l.getLast hne, (List.dropLast_concat_getLast hne).symm, by rw [List.length_dropLast, hl]; rfl⟩
  obtain ⟨q0, ql, rfl, hq0⟩ := hsplit qs hql
  obtain ⟨r0, rl', rfl, hr0⟩ := hsplit rows2 hr2l
  have e6 : ((q0 ++ [ql]).map D.ce).set m (.lst (List.replicate sg D.non)) = q0.map D.ce ++ [.lst (List.replicate sg D.non)] := by
    rw [List.map_append, List.set_append_right _ _ (by rw [List.length_map]; omega), List.length_map, hq0, Nat.sub_self]
    rfl
  rw [e6]
  have hP5 := hP4.other (c := .lst (q0.map D.ce ++ [.lst (List.replicate sg D.non)])) hpg
  have hCg5 : (AL.put C5 g (.lst (q0.map D.ce ++ [.lst (List.replicate sg D.non)]))) g = some (.lst (q0.map D.ce ++ [.lst (List.replicate sg D.non)])) := put_same
  have hq0g : ∀ q ∈ q0, q ≠ g := fun q hq z => hqg (by rw [← z]; exact List.mem_append_left _ hq)
  have hq0p : p ∉ q0 := fun z => hqp (List.mem_append_left _ z)
  have hqs5 : ∀ (j : Nat) q r, q0[j]? = some q → r0[j]? = some r → (AL.put C5 g (.lst (q0.map D.ce ++ [.lst (List.replicate sg D.non)]))) q = some (.lst (r.map oD)) := fun j q r hj hr => put_other (hq0g q (List.mem_of_getElem? hj)) (hqs4 j q r (by rw [List.getElem?_append_left (List.getElem?_eq_some_iff.mp hj).1]; exact hj) (by rw [List.getElem?_append_left (List.getElem?_eq_some_iff.mp hr).1]; exact hr))
  have hO := hO.put (c := .lst (q0.map D.ce ++ [.lst (List.replicate sg D.non)])) hgC
  generalize AL.put C5 g (.lst (q0.map D.ce ++ [.lst (List.replicate sg D.non)])) = C6 at hP5 hCg5 hqs5 hO
  walk_at "go"
  refine g_frzIn rfl ?_
  have hn0 : q0.Nodup := (List.nodup_append.mp hqn).1
  obtain ⟨f1, f2, f3⟩ := frzL_lists (C := AL.del C6 g) q0 (r0.map fun r => r.map oD) (by rw [List.length_map]; omega) hn0 (fun j q u hj hu => by
    rw [List.getElem?_map] at hu
    cases e : r0[j]? with
    | none => rw [e] at hu; cases hu
    | some r =>
      rw [e] at hu
      cases hu
      exact del_other (hq0g q (List.mem_of_getElem? hj)) (hqs5 j q r hj e))
  rw [frzL_app, f1]
  have hP6 : Pen (frzL (AL.del C6 g) (q0.map D.ce)).2 p := by
    obtain ⟨c, hc1, hc2⟩ := hP5
    exact ⟨c, by rw [f2 p hq0p]; exact del_other hpg hc1, hc2⟩
  rw [show frzL (frzL (AL.del C6 g) (q0.map D.ce)).2 [.lst (List.replicate sg D.non)] = ([.lst (List.replicate sg D.non)], (frzL (AL.del C6 g) (q0.map D.ce)).2) from rfl]
  have hO : Oth p C (frzL (AL.del C6 g) (q0.map D.ce)).2 := fun r d n e => by
    rw [f2 r (fun z => by rw [hqC r (List.mem_append_left _ z)] at e; cases e)]
    exact (hO.del hgC) r d n e
  generalize (frzL (AL.del C6 g) (q0.map D.ce)).2 = C7 at hP6 hO
  walk_at "go"
  refine g_kLcMap (fun d => match d with | .int i => .bl (decide (i = (m : Int))) | d => d) (by rw [rangeD_len]; simp only [sizeLine]; omega) (fun d hd R hR => ?_) ?_
  · obtain ⟨i, hi, e⟩ := List.getElem_of_mem hd
    have hi' : i < ((m + 1 : Nat) : Int).toNat := by rw [rangeD_len] at hi; exact hi
    have e2 := rangeD_get (lo := 0) hi'
    rw [List.getElem?_eq_getElem hi, e] at e2
    cases e2
    walk_at "go"
    rw [show ((m + 1 : Nat) : Int) - 1 = (m : Int) by omega]
    exact hR
  walk_at "go"
  have e8 : (rangeD 0 ((m + 1 : Nat) : Int).toNat).map (fun d => match d with | .int i => D.bl (decide (i = (m : Int))) | d => d) = ((List.range (m + 1)).map fun i => decide (i = m)).map D.bl := by
    rw [Int.toNat_natCast]
    unfold rangeD
    rw [List.map_map, List.map_map]
    refine List.map_congr_left fun i _ => ?_
    show D.bl (decide ((0 : Int) + (i : Int) = (m : Int))) = D.bl (decide (i = m))
    congr 1
    rw [Bool.eq_iff_iff, decide_eq_true_iff, decide_eq_true_iff]
    omega
  rw [e8]
  have e9 : (r0.map fun r => r.map oD).map D.lst ++ [D.lst (List.replicate sg D.non)] = (r0 ++ [List.replicate sg (none : Option Nat)]).map fun r => D.lst (r.map oD) := by
    rw [List.map_append, List.map_map, rep_oD]
    rfl
  rw [e9]
  refine k ((List.range (m + 1)).map fun i => decide (i = m)) (r0 ++ [List.replicate sg none]) C7 ⟨by simp [hr0], by simp, by simp; omega, fun r hr => ?_, fun r hr t ht => ?_⟩ (by simp; omega) hP6 hO
  · rcases List.mem_append.mp hr with z | z
    · exact (hr2 r (List.mem_append_left _ z)).1
    · rw [List.mem_singleton.mp z, List.length_replicate]
  · rw [List.length_map, List.length_range]
    rcases List.mem_append.mp hr with z | z
    · exact (hr2 r (List.mem_append_left _ z)).2 t ht
    · rw [List.mem_singleton.mp z] at ht
      have := (List.mem_replicate.mp ht).2
      cases this
end A_k25

namespace A_k25
open PySem L2 AL
/-- alike, kind by kind -/
inductive Lk (C : AH) : Nat → D → D → Prop
  | int (n : Nat) (i : Int) : Lk C n (.int i) (.int i)
  | non (n : Nat) : Lk C n .non .non
  | str (n : Nat) {z : Str} : okS z → z.length ≤ 100 → Lk C n (.str z) (.str z)
  | lst {n : Nat} {g d : D} {gs ds : List D} : kindOf C g = some "list" → kindOf C d = some "list" → asLr C g = some gs → asLr C d = some ds → gs.length = ds.length → ds.length ≤ 10000 → (∀ (i : Nat) x y, gs[i]? = some x → ds[i]? = some y → Lk C n x y) → Lk C (n + 1) g d
  | tup {n : Nat} {gs ds : List D} : gs.length = ds.length → ds.length ≤ 100 → (∀ (i : Nat) x y, gs[i]? = some x → ds[i]? = some y → Lk C n x y) → Lk C (n + 1) (.tup gs) (.tup ds)
theorem srcD_lst {C : AH} {x : D} {ds : List D} (h : kindOf C x = some "list") (h2 : asLr C x = some ds) : srcD C x = some ds := by
  cases x with
  | lst us => exact h2
  | scr ns => exact h2
  | ce p => exact h2
  | _ => simp [kindOf] at h
theorem g_kIZGc {PI : List D → (AH → Prop) → AH → Prop} {C : AH} {x y : D} {ds es : List D} (h1 : srcD C x = some ds) (h2 : srcD C y = some es) (h : PI (zipD ds es) (fun C' => srcD C' x = some ds ∧ srcD C' y = some es) C) : kIZG PI [x, y] C := by
  unfold kIZG
  simp only [h1, h2]
  exact h
theorem lenT' {C : AH} {P : D → AH → Prop} {x : D} {ds : List D} (h : kindOf C x = some "list") (h2 : asLr C x = some ds) (k : P (.int (ds.length : Nat)) C) : aLen [x] C P := by
  cases x with
  | lst us =>
    cases h2
    exact g_lenL k
  | scr ns =>
    have : ns.map D.int = ds := Option.some.inj h2
    subst this
    rw [List.length_map] at k
    exact g_lenR k
  | ce p =>
    simp only [asLr, asL] at h2
    cases q : C p with
    | none => rw [q] at h2; cases h2
    | some c =>
      rw [q] at h2
      cases c with
      | lst us => cases h2; exact g_lenC q k
      | _ => cases h2
  | _ => simp [kindOf] at h
theorem bls_rep (n : Nat) : blsD (List.replicate n (.bl true)) = some (List.replicate n true) := by
  induction n with
  | zero => rfl
  | succ n ih => rw [List.replicate_succ, List.replicate_succ]; unfold blsD; rw [ih]; rfl
theorem same_ok : ∀ (m n : Nat) (g d : D) (C : AH) (P : D → AH → Prop), Lk C n g d → n < m → P (.bl true) C → s_law_same m [g, d] C P := by
  intro m
  induction m with
  | zero => exact fun _ _ _ _ _ _ h _ => absurd h (Nat.not_lt_zero _)
  | succ m ih =>
    intro n g d C P hL hm k
    show aBody _ (a_law_same (s_law_same m)) _ _ _
    unfold a_law_same
    cases hL with
    | int n i =>
      walk_at "go"
      refine g_ifF (fun K hK => ?_) ?_
      · refine g_tru (g_isi2 (g_var rfl (g_kIsi2 (t := "int") rfl ?_)))
        exact g_kTruB hK
      walk_at "go"
      refine g_ifF (fun K hK => ?_) ?_
      · walk_at "go"
        refine g_iteF ?_
        refine g_tru (g_isi2 (g_var rfl (g_kIsi2 (t := "int") rfl ?_)))
        exact g_kTruB hK
      walk_at "go"
      refine g_kAnd (fun _ => ?_) (fun h => by cases h)
      walk_at "go"
      refine g_kAnd (fun _ => ?_) (fun h => by cases h)
      walk_at "go"
      rw [decide_eq_true rfl]
      exact k
    | non n =>
      walk_at "go"
      refine g_ifF (fun K hK => ?_) ?_
      · refine g_tru (g_isi2 (g_var rfl (g_kIsi2 (t := "NoneType") rfl ?_)))
        exact g_kTruB hK
      walk_at "go"
      refine g_ifT (fun K hK => ?_) ?_
      · walk_at "go"
        exact hK
      walk_at "go"
      refine g_repr 0 (by rfl) (by omega) (by decide) ?_
      walk_at "go"
      refine g_repr 0 (by rfl) (by omega) (by decide) ?_
      walk_at "go"
      rw [decide_eq_true rfl]
      exact k
    | @str n z hz hl =>
      have hR : okR (.str z) 0 = true := by
        show z.cps.all (fun c => decide (c < 0x110000)) = true
        rw [← Array.all_toList]
        exact List.all_eq_true.mpr fun c hc => decide_eq_true (hz c hc)
      have hB : blk (.str z) ≤ 8000 := by show z.length ≤ 8000; omega
      walk_at "go"
      refine g_ifF (fun K hK => ?_) ?_
      · refine g_tru (g_isi2 (g_var rfl (g_kIsi2 (t := "str") rfl ?_)))
        exact g_kTruB hK
      walk_at "go"
      refine g_ifT (fun K hK => ?_) ?_
      · walk_at "go"
        refine g_iteF ?_
        refine g_tru (g_isi2 (g_var rfl (g_kIsi2 (t := "str") rfl ?_)))
        exact g_kTruB hK
      walk_at "go"
      refine g_repr 0 hR (by omega) hB ?_
      walk_at "go"
      refine g_repr 0 hR (by omega) hB ?_
      walk_at "go"
      rw [decide_eq_true rfl]
      exact k
    | @lst n _ _ gs ds hkg hkd hg hd hl hz hi =>
      walk_at "go"
      refine g_ifT (fun K hK => ?_) ?_
      · refine g_tru (g_isi2 (g_var rfl (g_kIsi2 (t := "list") hkd ?_)))
        exact g_kTruB hK
      walk_at "go"
      refine g_ifF (fun K hK => ?_) ?_
      · refine g_or (g_not (g_tru (g_isi2 (g_var rfl (g_kIsi2 hkg ?_)))))
        refine g_kTruB ?_
        refine g_iteNT ?_
        refine g_B (g_op (g_isi (g_var rfl (g_kIsi hkg ?_))))
        refine g_isi (g_var rfl (g_kIsi hkd ?_))
        walk_at "go"
        exact hK
      walk_at "go"
      refine lenT' hkg hg ?_
      walk_at "go"
      refine lenT' hkd hd ?_
      walk_at "go"
      refine g_kAnd (fun _ => ?_) (fun h => by rw [decide_eq_false_iff_not] at h; exact absurd (by rw [hl]) h)
      walk_at "go"
      refine g_izG ?_
      walk_at "go"
      refine g_kIZGc (srcD_lst hkg hg) (srcD_lst hkd hd) ⟨?_, fun i acc C' => acc = List.replicate i (.bl true) ∧ C' = C, ⟨rfl, rfl⟩, fun i acc C' _ hw => ?_, fun i x acc C' hx hw => ?_, fun acc C' hw => ?_⟩
      · rw [zipD_len, hl, Nat.min_self]; simp only [sizeLine]; omega
      · obtain ⟨_, rfl⟩ := hw; exact ⟨srcD_lst hkg hg, srcD_lst hkd hd⟩
      · obtain ⟨rfl, rfl⟩ := hw
        obtain ⟨a, b, ha, hb, rfl⟩ := zipD_inv hx
        walk_at "go"
        refine ih n a b _ _ (hi i a b ha hb) (by omega) ?_
        exact ⟨by rw [List.replicate_succ'], rfl⟩
      · obtain ⟨rfl, rfl⟩ := hw
        walk_at "go"
        refine g_all (bls_rep _) ?_
        rw [show (List.replicate (zipD gs ds).length true).all id = true by simp]
        exact k
    | @tup n gs ds hl hz hi =>
      walk_at "go"
      refine g_ifT (fun K hK => ?_) ?_
      · refine g_tru (g_isi2 (g_var rfl (g_kIsi2 (t := "tuple") rfl ?_)))
        exact g_kTruB hK
      walk_at "go"
      refine g_ifF (fun K hK => ?_) ?_
      · refine g_or (g_not (g_tru (g_isi2 (g_var rfl (g_kIsi2 (t := "tuple") rfl ?_)))))
        refine g_kTruB ?_
        refine g_iteNT ?_
        walk_at "go"
        exact hK
      walk_at "go"
      refine g_kAnd (fun _ => ?_) (fun h => by rw [decide_eq_false_iff_not] at h; exact absurd (by rw [hl]) h)
      walk_at "go"
      refine g_izG ?_
      walk_at "go"
      refine g_kIZG (ds := gs) (es := ds) (fun _ => rfl) (fun _ => rfl) ?_
      refine g_kLc (fun i acc C' => acc = List.replicate i (.bl true) ∧ C' = C) (by rw [zipD_len, hl, Nat.min_self]; simp only [sizeLine]; omega) ⟨rfl, rfl⟩ (fun i x acc C' hx hw => ?_) (fun acc C' hw => ?_)
      · obtain ⟨rfl, rfl⟩ := hw
        obtain ⟨a, b, ha, hb, rfl⟩ := zipD_inv hx
        walk_at "go"
        refine ih n a b _ _ (hi i a b ha hb) (by omega) ?_
        exact ⟨by rw [List.replicate_succ'], rfl⟩
      · obtain ⟨rfl, rfl⟩ := hw
        walk_at "go"
        refine g_all (bls_rep _) ?_
        rw [show (List.replicate (zipD gs ds).length true).all id = true by simp]
        exact k
/-- a list of numbers, in a cell or not -/
def Nl (C : AH) (d : D) (L : List Nat) : Prop := d = .lst (natsD L) ∨ ∃ q, d = .ce q ∧ C q = some (.lst (natsD L))
theorem Nl.kind {C : AH} {d : D} {L : List Nat} (h : Nl C d L) : kindOf C d = some "list" ∧ asLr C d = some (natsD L) := by
  rcases h with rfl | ⟨q, rfl, h⟩
  · exact ⟨rfl, rfl⟩
  · exact ⟨by simp [kindOf, h], by simp [asLr, asL, h]⟩
theorem lk_nats {C : AH} {g d : D} {L : List Nat} (hg : Nl C g L) (hd : Nl C d L) (hl : L.length ≤ 10000) (n : Nat) : Lk C (n + 1) g d := by
  refine .lst hg.kind.1 hd.kind.1 hg.kind.2 hd.kind.2 rfl (by rw [natsD_len]; exact hl) fun i x y hx hy => ?_
  rw [hx] at hy
  cases hy
  obtain ⟨_, rfl⟩ := natsD_get hx
  exact .int _ _
end A_k25

namespace A_k25
open PySem L2 AL
/-- a row of so many numbers leads from a stand to an end -/
inductive Long (ends : List Bool) (goes : List (List (Option Nat))) : Nat → Nat → Prop
  | fin {s : Nat} : ends.getD s false = true → Long ends goes s 0
  | step {s b v : Nat} : AL.Fw goes s b → Long ends goes b v → Long ends goes s (v + 1)
/-- a ring from which an end can be come to -/
def Rng (ends : List Bool) (goes : List (List (Option Nat))) (L : List Nat) (x : Nat) : Prop := x ∈ L ∧ (∃ b, AL.Fw goes x b ∧ Reach (AL.Fw goes) [b] x) ∧ ∃ e, e ∈ L ∧ Reach (AL.Fw goes) [x] e ∧ ends.getD e false = true
theorem Reach.head {R : Nat → Nat → Prop} {a b c : Nat} (h : R a b) (g : Reach R [b] c) : Reach R [a] c := by
  induction g with
  | base h2 => rw [List.mem_singleton.mp h2]; exact .step (.base (List.mem_singleton.mpr rfl)) h
  | step _ h2 ih => exact .step ih h2
theorem Long.reach {ends : List Bool} {goes : List (List (Option Nat))} {L : List Nat} (hcl : ∀ a ∈ L, ∀ b, AL.Fw goes a b → b ∈ L) {s v : Nat} (h : Long ends goes s v) : s ∈ L → ∃ e, e ∈ L ∧ Reach (AL.Fw goes) [s] e ∧ ends.getD e false = true := by
  induction h with
  | fin h => exact fun hs => ⟨_, hs, .base (List.mem_singleton.mpr rfl), h⟩
  | step h _ ih =>
    intro hs
    obtain ⟨e, h1, h2, h3⟩ := ih (hcl _ hs _ h)
    exact ⟨e, h1, Reach.head h h2, h3⟩
theorem sub_len : ∀ {l m : List Nat}, l.Nodup → (∀ x ∈ l, x ∈ m) → l.length ≤ m.length
  | [], _, _, _ => Nat.zero_le _
  | a :: l, m, hn, hs => by
    obtain ⟨h1, h2⟩ := List.nodup_cons.mp hn
    have ha := hs a (List.mem_cons_self ..)
    have := sub_len (l := l) (m := m.erase a) h2 fun x hx => (List.mem_erase_of_ne (fun z => h1 (by rw [← z]; exact hx))).mpr (hs x (List.mem_cons_of_mem _ hx))
    rw [List.length_erase_of_mem ha] at this
    have := List.length_pos_of_mem ha
    rw [List.length_cons]
    omega
theorem ring_long {ends : List Bool} {goes : List (List (Option Nat))} {L : List Nat} (hcl : ∀ a ∈ L, ∀ b, AL.Fw goes a b → b ∈ L) {s v : Nat} (h : Long ends goes s v) : ∀ V : List Nat, V.Nodup → (∀ a ∈ V, a ∈ L) → (∀ a ∈ V, ∃ b, AL.Fw goes a b ∧ Reach (AL.Fw goes) [b] s) → s ∈ L → L.length ≤ V.length + v → ∃ x, Rng ends goes L x := by
  induction h with
  | @fin s he =>
    intro V hV hL hr hs hl
    by_cases hsV : s ∈ V
    · exact ⟨s, hs, hr s hsV, s, hs, .base (List.mem_singleton.mpr rfl), he⟩
    · have := sub_len (l := s :: V) (m := L) (List.nodup_cons.mpr ⟨hsV, hV⟩) (fun x hx => by rcases List.mem_cons.mp hx with z | z; exact z ▸ hs; exact hL x z)
      rw [List.length_cons] at this
      omega
  | @step s b v hf hb ih =>
    intro V hV hL hr hs hl
    by_cases hsV : s ∈ V
    · exact ⟨s, hs, hr s hsV, (Long.step hf hb).reach hcl hs⟩
    · refine ih (s :: V) (List.nodup_cons.mpr ⟨hsV, hV⟩) (fun x hx => by rcases List.mem_cons.mp hx with z | z; exact z ▸ hs; exact hL x z) (fun a ha => ?_) (hcl s hs b hf) (by rw [List.length_cons]; omega)
      rcases List.mem_cons.mp ha with z | z
      · subst z; exact ⟨b, hf, .base (List.mem_singleton.mpr rfl)⟩
      · obtain ⟨c, h1, h2⟩ := hr a z
        exact ⟨c, h1, .step h2 hf⟩
section
variable {sg : Nat} {ends : List Bool} {goes : List (List (Option Nat))} {C : AH} {P : D → AH → Prop}
/-- no number is too small -/
def Fix (ends : List Bool) (goes : List (List (Option Nat))) (L : List Nat) (f : Nat → Option Nat) : Prop :=
  (∀ s ∈ L, ends.getD s false = true → (f s).isSome = true) ∧ ∀ s ∈ L, ∀ b v, AL.Fw goes s b → f b = some v → ∃ u, f s = some u ∧ v < u
theorem nodup_rev {l : List Nat} (h : l.Nodup) : l.reverse.Nodup := by
  unfold List.Nodup at *
  rw [List.pairwise_reverse]
  exact h.imp Ne.symm
theorem rangeD_nats (n : Nat) : rangeD 0 n = natsD (List.range n) := by
  unfold rangeD natsD
  refine List.map_congr_left fun i _ => ?_
  rw [Int.zero_add]
theorem fix_back {L : List Nat} {f : Nat → Option Nat} (hF : Fix ends goes L f) (hcl : ∀ a ∈ L, ∀ b, AL.Fw goes a b → b ∈ L) {b x : Nat} (h : Reach (AL.Fw goes) [b] x) (hb : b ∈ L) : ∀ {w}, f x = some w → ∃ v, f b = some v ∧ w ≤ v := by
  induction h with
  | base hx => intro w hw; rw [List.mem_singleton.mp hx] at hw; exact ⟨w, hw, Nat.le_refl _⟩
  | @step a c h1 h2 ih =>
    intro w hw
    have ha : a ∈ L := Reach.closed (fun y hy => by rw [List.mem_singleton.mp hy]; exact hb) (fun y hy z hz => hcl y hy z hz) h1
    obtain ⟨u, hu, hwu⟩ := hF.2 a ha c w h2 hw
    obtain ⟨v, hv, huv⟩ := ih hu
    exact ⟨v, hv, by omega⟩
theorem fix_no_ring {L : List Nat} {f : Nat → Option Nat} (hF : Fix ends goes L f) (hcl : ∀ a ∈ L, ∀ b, AL.Fw goes a b → b ∈ L) {x : Nat} (h : Rng ends goes L x) : False := by
  obtain ⟨hx, ⟨b, h1, h2⟩, e, he, hxe, hend⟩ := h
  obtain ⟨w, hw⟩ := Option.isSome_iff_exists.mp (hF.1 e he hend)
  obtain ⟨v, hv, _⟩ := fix_back hF hcl hxe hx hw
  obtain ⟨u, hu, huv⟩ := fix_back hF hcl h2 (hcl x hx b h1) hv
  obtain ⟨t, ht, hlt⟩ := hF.2 x hx b u h1 hu
  rw [hv] at ht
  cases ht
  omega
theorem fix_bound {L : List Nat} {f : Nat → Option Nat} (hF : Fix ends goes L f) (hcl : ∀ a ∈ L, ∀ b, AL.Fw goes a b → b ∈ L) (hA : ∀ s v, f s = some v → s ∈ L ∧ Long ends goes s v) {s v : Nat} (h : f s = some v) : v < L.length := by
  obtain ⟨hs, hl⟩ := hA s v h
  by_cases e : v < L.length
  · exact e
  · obtain ⟨x, hx⟩ := ring_long hcl hl [] List.nodup_nil (by simp) (by simp) hs (by rw [List.length_nil]; omega)
    exact (fix_no_ring hF hcl hx).elim
end
theorem blsD_map {α : Type} (p : α → Bool) : ∀ us : List α, blsD (us.map fun d => D.bl (p d)) = some (us.map p)
  | [] => rfl
  | d :: us => by
    rw [List.map_cons, List.map_cons]
    have := blsD_map p us
    simp only [blsD, this, Option.map_some]
theorem all_id {α : Type} (p : α → Bool) (us : List α) : (us.map p).all id = us.all p := by rw [List.all_map]; rfl
theorem g_lcG {C : AH} {α : Type} {e : AE'} {vs : List Nat} {fin : List D → AH → Prop} {s : ASt} {j : Nat} {xs : List α} {g f : α → D} (hl : xs.length ≤ sizeLine) (hs : ∀ x ∈ xs, ∀ R : D → AH → Prop, R (f x) C → e ((wipeA s vs).set j (some (g x))) C R) (hd : fin (xs.map f) C) : kLc (aGName j) aYes e vs fin s (xs.map g) (fun _ => True) C := by
  refine g_kLc (fun n acc C' => acc = (xs.take n).map f ∧ C = C') (by rw [List.length_map]; exact hl) ⟨rfl, rfl⟩ (fun n d acc C' hn hw => ?_) (fun acc C' hw => ?_)
  · obtain ⟨rfl, rfl⟩ := hw
    rw [List.getElem?_map] at hn
    cases q : xs[n]? with
    | none => rw [q] at hn; cases hn
    | some x =>
      rw [q] at hn
      cases hn
      refine hs x (List.mem_of_getElem? q) _ ⟨?_, rfl⟩
      rw [List.take_add_one, q, List.map_append]
      rfl
  · obtain ⟨rfl, rfl⟩ := hw
    rw [List.length_map, List.take_length]
    exact hd
theorem g_lcF {C : AH} {α : Type} {t : AT'} {e : AE'} {vs : List Nat} {fin : List D → AH → Prop} {s : ASt} {j : Nat} {xs : List α} {g f : α → D} (p : α → Bool) (hl : xs.length ≤ sizeLine) (ht : ∀ x ∈ xs, ∀ R : Bool → AH → Prop, R (p x) C → t ((wipeA s vs).set j (some (g x))) C R) (hs : ∀ x ∈ xs, p x = true → ∀ R : D → AH → Prop, R (f x) C → e ((wipeA s vs).set j (some (g x))) C R) (hd : fin ((xs.filter p).map f) C) : kLc (aGName j) t e vs fin s (xs.map g) (fun _ => True) C := by
  refine g_kLc (fun n acc C' => acc = ((xs.take n).filter p).map f ∧ C = C') (by rw [List.length_map]; exact hl) ⟨rfl, rfl⟩ (fun n d acc C' hn hw => ?_) (fun acc C' hw => ?_)
  · obtain ⟨rfl, rfl⟩ := hw
    rw [List.getElem?_map] at hn
    cases q : xs[n]? with
    | none => rw [q] at hn; cases hn
    | some x =>
      rw [q] at hn
      cases hn
      refine ht x (List.mem_of_getElem? q) _ ?_
      rw [List.take_add_one, q, List.filter_append, List.map_append]
      by_cases hp : p x = true
      · rw [if_pos hp]
        refine hs x (List.mem_of_getElem? q) hp _ ⟨?_, rfl⟩
        simp [hp]
      · rw [if_neg hp]
        exact ⟨by simp [hp], rfl⟩
  · obtain ⟨rfl, rfl⟩ := hw
    rw [List.length_map, List.take_length]
    exact hd
theorem g_eqNatsF {C : AH} {P : D → AH → Prop} {ns : List Nat} (h : P (.bl ns.isEmpty) C) : aEq (.lst (natsD ns)) (.lst []) C P := by
  obtain ⟨x, h1, h2, h3⟩ := okD_shaped (okD_nats ns 1) (by omega)
  refine g_eqP rfl (show pdC C (.lst (natsD ns)) = some x from h1) (v := .list []) rfl h2 (by decide +kernel) ?_
  cases ns with
  | nil =>
    have : x = .list [] := by simpa [D.pd, pdL, eq_comm] using h1
    subst this
    rw [show PyData.eqv (.list []) (.list []) = true by decide +kernel]
    exact h
  | cons a ns =>
    have : ∃ ys, x = .list (.int a :: ys) := by
      simp only [D.pd] at h1
      show ∃ ys, x = .list (.int a :: ys)
      change (pdL (D.int (a : Int) :: natsD ns)).map _ = some x at h1
      unfold pdL at h1
      cases e : pdL (natsD ns) with
      | none => rw [e] at h1; cases h1
      | some ys => rw [e] at h1; cases h1; exact ⟨ys, rfl⟩
    obtain ⟨ys, rfl⟩ := this
    rw [show PyData.eqv (.list (.int a :: ys)) (.list []) = false by rw [PyData.eqv, PyData.eqvAll]]
    exact h
theorem g_ifB {t : AT'} {a b : AS'} {nx : ASt → AH → Prop} {rt : D → AH → Prop} {bk ct : ASt → AH → Prop} {s : ASt} {C : AH} (p : Bool) (ht : ∀ K : Bool → AH → Prop, K p C → t s C K) (h1 : p = true → a ⟨nx, rt, bk, ct⟩ s C) (h2 : p = false → b ⟨nx, rt, bk, ct⟩ s C) : aIfS t a b ⟨nx, rt, bk, ct⟩ s C := by
  cases p with
  | true => exact g_ifT ht (h1 rfl)
  | false => exact g_ifF ht (h2 rfl)
/-- the dict of some stands -/
theorem keys_of {L : List Nat} {d : D} (k : ∀ es, Ky es (L.foldl addN []) → P (.dk es) C) : aDictP false [.lst (L.map fun (a : Nat) => D.tup [.int (a : Int), d])] C P := by
  have e1 : (L.map fun (a : Nat) => D.tup [.int (a : Int), d]) = ((L.map fun s => (nk s, d)).map fun e => .tup [keyD e.1, e.2]) := by
    rw [List.map_map]
    rfl
  rw [e1]
  exact g_dictPF (k _ (Ky.merge L d Ky.nil))
theorem natsD_app (L N : List Nat) : natsD (L ++ N) = natsD L ++ natsD N := by unfold natsD; rw [List.map_append]
theorem natsD_rev (L : List Nat) : natsD L.reverse = (natsD L).reverse := by unfold natsD; rw [List.map_reverse]
theorem run_snoc {goes : List (List (Option Nat))} {s : Option Nat} {r : List Nat} {x : Nat} : runO goes s (r ++ [x]) = stepO goes (runO goes s r) x := by
  unfold runO
  rw [List.foldl_append]
  rfl
abbrev Ml (es : List (Key × D)) (L : List Nat) (f : Nat → Option (List Nat)) : Prop := Mp es L fun m => (f m).map fun r => D.lst (natsD r)
theorem Ml.put {es : List (Key × D)} {L : List Nat} {f : Nat → Option (List Nat)} (h : Ml es L f) (n : Nat) (r : List Nat) : Ml (putD es (nk n) (.lst (natsD r))) (addN L n) fun m => if m = n then some r else f m := by
  have := Mp.put h n (.lst (natsD r))
  refine ⟨this.ky, this.nd, fun m => ?_⟩
  rw [this.at' m]
  by_cases e : m = n
  · simp [e]
  · simp [e]
theorem Ml.mem' {es : List (Key × D)} {L : List Nat} {f : Nat → Option (List Nat)} (h : Ml es L f) {n : Nat} (hn : n ∈ L) : ∃ r, f n = some r := by
  have := (h.mem n).mp hn
  rw [Option.isSome_map] at this
  exact Option.isSome_iff_exists.mp this
theorem Ml.in' {es : List (Key × D)} {L : List Nat} {f : Nat → Option (List Nat)} (h : Ml es L f) {n : Nat} {r : List Nat} (hn : f n = some r) : n ∈ L := (h.mem n).mpr (by rw [hn]; rfl)
theorem g_maxX {d : D} {L : List Nat} (h : asLr C d = some (natsD L)) (hl : 0 < L.length) (k : ∀ m, m ∈ L → (∀ y ∈ L, y ≤ m) → P (.int (m : Nat)) C) : aMaxL [d] C P := by
  refine ⟨natsD L, L.map fun (n : Nat) => (n : Int), h, by unfold natsD; rw [List.map_map]; rfl, by rw [List.length_map]; exact hl, fun m hm hmax => ?_⟩
  obtain ⟨n, hn, rfl⟩ := List.mem_map.mp hm
  refine k n hn fun y hy => ?_
  have := hmax y (List.mem_map.mpr ⟨y, hy, rfl⟩)
  omega
theorem g_lcFc {C : AH} {α : Type} {t : AT'} {e : AE'} {vs : List Nat} {fin : List D → AH → Prop} {s : ASt} {j : Nat} {q : Addr} {xs : List α} {g f : α → D} (p : α → Bool) (hC : C q = some (.lst (xs.map g))) (hl : xs.length ≤ sizeLine) (ht : ∀ x ∈ xs, ∀ R : Bool → AH → Prop, R (p x) C → t ((wipeA s vs).set j (some (g x))) C R) (hs : ∀ x ∈ xs, p x = true → ∀ R : D → AH → Prop, R (f x) C → e ((wipeA s vs).set j (some (g x))) C R) (hd : fin ((xs.filter p).map f) C) : kIL (kLc (aGName j) t e vs fin s) (.ce q) C := by
  refine g_kILc hC ?_ (fun _ _ m h => kLc_mono m h)
  refine ⟨by rw [List.length_map]; exact hl, fun n acc C' => acc = ((xs.take n).filter p).map f ∧ C = C', ⟨rfl, rfl⟩, fun i acc C' _ hw => by rw [← hw.2]; exact hC, fun n d acc C' hn hw => ?_, fun acc C' hw => ?_⟩
  · obtain ⟨rfl, rfl⟩ := hw
    rw [List.getElem?_map] at hn
    cases q : xs[n]? with
    | none => rw [q] at hn; cases hn
    | some x =>
      rw [q] at hn
      cases hn
      refine ht x (List.mem_of_getElem? q) _ ?_
      by_cases hp : p x = true
      · rw [if_pos hp]
        refine hs x (List.mem_of_getElem? q) hp _ ⟨?_, rfl⟩
        rw [List.take_add_one, q, List.filter_append, List.map_append]
        simp [hp]
      · rw [if_neg hp]
        refine ⟨?_, rfl⟩
        rw [List.take_add_one, q, List.filter_append, List.map_append]
        simp [hp]
  · obtain ⟨rfl, rfl⟩ := hw
    rw [List.length_map, List.take_length]
    exact hd
end A_k25

namespace A_k25
open PySem L2 AL
/-- only the cells of L may have turned -/
def KeepL (L : List Addr) (C C' : AH) : Prop := ∀ q, q ∉ L → C' q = C q
theorem KeepL.refl (L : List Addr) (C : AH) : KeepL L C C := fun _ _ => rfl
theorem KeepL.put {L : List Addr} {C C' : AH} {p : Addr} {c : Cell} (h : KeepL L C C') (hp : p ∈ L) : KeepL L C (put C' p c) := fun q hq => by
  rw [put_ne (fun z => hq (by rw [z]; exact hp))]
  exact h q hq
theorem KeepL.del {L : List Addr} {C C' : AH} {p : Addr} (h : KeepL L C C') (hp : p ∈ L) : KeepL L C (del C' p) := fun q hq => by
  unfold AL.del
  rw [if_neg (fun z => hq (by rw [z]; exact hp))]
  exact h q hq
/-- a cell that was not there, and is there no more -/
theorem KeepL.drop {L : List Addr} {C C' : AH} {p : Addr} (h : KeepL (p :: L) C C') (hp : C p = none) (h' : C' p = none) : KeepL L C C' := fun q hq => by
  by_cases e : q = p
  · rw [e, hp, h']
  · exact h q (by simp [e, hq])
theorem KeepL.trans {L : List Addr} {C C' C2 : AH} (h : KeepL L C C') (g : KeepL L C' C2) : KeepL L C C2 := fun q hq => (g q hq).trans (h q hq)
theorem addN_len {L : List Nat} {n : Nat} : (addN L n).length = if n ∈ L then L.length else L.length + 1 := by
  unfold addN
  split <;> simp
theorem last_split {W : List Nat} (h : W ≠ []) : ∃ V a, W = V ++ [a] := ⟨W.dropLast, W.getLast h, (List.dropLast_concat_getLast h).symm⟩
/-- a search from S by R: what is seen, what waits -/
structure Srch (R : Nat → Nat → Prop) (S : List Nat) (n : Nat) (L W : List Nat) : Prop where
  nd : L.Nodup
  lt : ∀ a ∈ L, a < n
  rch : ∀ a ∈ L, Reach R S a
  st : ∀ a ∈ S, a ∈ L
  sub : ∀ a ∈ W, a ∈ L
  cl : ∀ a ∈ L, a ∉ W → ∀ b, R a b → b ∈ L
theorem Srch.all {R : Nat → Nat → Prop} {S : List Nat} {n : Nat} {L : List Nat} (h : Srch R S n L []) (a : Nat) : a ∈ L ↔ a < n ∧ Reach R S a :=
  ⟨fun ha => ⟨h.lt a ha, h.rch a ha⟩, fun ⟨_, hr⟩ => Reach.closed h.st (fun a ha b hb => h.cl a ha (by simp) b hb) hr⟩
/-- while the ways out of a are gone through -/
structure Part (R : Nat → Nat → Prop) (S : List Nat) (n : Nat) (a : Nat) (done : Nat → Prop) (L W : List Nat) : Prop where
  nd : L.Nodup
  lt : ∀ a ∈ L, a < n
  rch : ∀ a ∈ L, Reach R S a
  st : ∀ a ∈ S, a ∈ L
  sub : ∀ a ∈ W, a ∈ L
  at' : a ∈ L
  cl : ∀ c ∈ L, c ∉ W → c ≠ a → ∀ b, R c b → b ∈ L
  dn : ∀ b, done b → b ∈ L
theorem Srch.pop {R : Nat → Nat → Prop} {S : List Nat} {n : Nat} {L V : List Nat} {a : Nat} (h : Srch R S n L (V ++ [a])) : Part R S n a (fun _ => False) L V :=
  ⟨h.nd, h.lt, h.rch, h.st, fun b hb => h.sub b (List.mem_append_left _ hb), h.sub a (by simp), fun c hc hv hn b hb => h.cl c hc (fun z => by rcases List.mem_append.mp z with z | z; exact hv z; exact hn (by simpa using z)) b hb, fun _ h => h.elim⟩
theorem Part.see {R : Nat → Nat → Prop} {S : List Nat} {n a b : Nat} {done : Nat → Prop} {L W : List Nat} (h : Part R S n a done L W) (hr : R a b) (hb : b < n) (hn : b ∉ L) : Part R S n a (fun c => done c ∨ c = b) (addN L b) (W ++ [b]) := by
  refine ⟨nodup_addN h.nd, fun c hc => ?_, fun c hc => ?_, fun c hc => mem_addN.mpr (.inl (h.st c hc)), fun c hc => ?_, mem_addN.mpr (.inl h.at'), fun c hc hw hca d hd => ?_, fun c hc => ?_⟩
  · rcases mem_addN.mp hc with z | rfl
    · exact h.lt c z
    · exact hb
  · rcases mem_addN.mp hc with z | rfl
    · exact h.rch c z
    · exact .step (h.rch a h.at') hr
  · rcases List.mem_append.mp hc with z | z
    · exact mem_addN.mpr (.inl (h.sub c z))
    · exact mem_addN.mpr (.inr (by simpa using z))
  · rcases mem_addN.mp hc with z | rfl
    · exact mem_addN.mpr (.inl (h.cl c z (fun y => hw (List.mem_append_left _ y)) hca d hd))
    · exact absurd (List.mem_append_right W (by simp)) hw
  · rcases hc with z | rfl
    · exact mem_addN.mpr (.inl (h.dn c z))
    · exact mem_addN.mpr (.inr rfl)
theorem Part.skip {R : Nat → Nat → Prop} {S : List Nat} {n a : Nat} {done done' : Nat → Prop} {L W : List Nat} (h : Part R S n a done L W) (hd : ∀ b, done' b → done b ∨ b ∈ L) : Part R S n a done' L W :=
  ⟨h.nd, h.lt, h.rch, h.st, h.sub, h.at', h.cl, fun b hb => by rcases hd b hb with z | z; exact h.dn b z; exact z⟩
theorem Part.fin {R : Nat → Nat → Prop} {S : List Nat} {n a : Nat} {done : Nat → Prop} {L W : List Nat} (h : Part R S n a done L W) (hd : ∀ b, R a b → done b) : Srch R S n L W :=
  ⟨h.nd, h.lt, h.rch, h.st, h.sub, fun c hc hw b hb => by
    by_cases e : c = a
    · subst e; exact h.dn b (hd b hb)
    · exact h.cl c hc hw e b hb⟩
theorem Srch.ms {R : Nat → Nat → Prop} {S : List Nat} {n : Nat} {L W : List Nat} (h : Srch R S n L W) : L.length ≤ n := nodup_bound h.nd h.lt
theorem Part.ms {R : Nat → Nat → Prop} {S : List Nat} {n a : Nat} {done : Nat → Prop} {L W : List Nat} (h : Part R S n a done L W) : L.length ≤ n := nodup_bound h.nd h.lt
section
variable {sg : Nat} {ends : List Bool} {goes : List (List (Option Nat))} {C : AH} {P : D → AH → Prop}
theorem met_ok (M : Mach sg ends goes) (k : ∀ C' q, AL.Keep C C' → C q = none → C' q = some (.lst (natsD (rl ends.length (Reach (AL.Fw goes) [0])))) → P (.ce q) C') : s_met [machD ends goes] C P := by
  have hn := M.most
  have hpos := M.pos
  unfold s_met a_met
  walk_at "go"
  unfold aDisp
  walk_at "go"
  refine ⟨by simp, fun q hq => ?_⟩
  walk_at "go"
  intro w hw
  have hqw : q ≠ w := ne_cell put_same hw
  have hw0 : C w = none := by rw [put_ne hqw.symm] at hw; exact hw
  walk_at "go"
  refine g_while (fun m st C' => ∃ es L W x3, Ky es L ∧ C' q = some (.dk es) ∧ C' w = some (.lst (natsD W)) ∧ Srch (AL.Fw goes) [0] ends.length L W ∧ m = 2 * (ends.length - L.length) + W.length ∧ W.length ≤ L.length ∧ KeepL [q, w] C C' ∧ st = [some (machD ends goes), some (.ce q), some (.ce w), x3]) (2 * (ends.length - 1) + 1) ?_ (fun m st C' hW => ?_)
  · refine ⟨[(nk 0, .bl true)], [0], [0], none, rfl, put_other hqw.symm.symm put_same, put_same, ⟨by simp, fun a ha => ?_, fun a ha => .base ha, fun a ha => ha, fun a ha => ha, fun a ha hw => absurd ha hw⟩, rfl, by simp, ((KeepL.refl _ _).put (by simp)).put (by simp), rfl⟩
    rw [List.mem_singleton.mp ha]; exact hpos
  · obtain ⟨es, L, W, x3, hKy, hCq, hCw, hS, hm, hWL, hK, rfl⟩ := hW
    walk_at "go"
    refine g_neNats hCw ?_
    walk_at "go"
    cases e : W.isEmpty with
    | false =>
      rw [show (!false) = true from rfl]
      have hne : W ≠ [] := fun z => by rw [z] at e; cases e
      obtain ⟨V, a, rfl⟩ := last_split hne
      walk_at "go"
      refine g_popN hCw ?_
      have hp := hS.pop
      have ha := hp.lt a hp.at'
      have hC1q : (put C' w (.lst (natsD V))) q = some (.dk es) := put_other hqw hCq
      have hC1w : (put C' w (.lst (natsD V))) w = some (.lst (natsD V)) := put_same
      have hK1 : KeepL [q, w] C (put C' w (.lst (natsD V))) := hK.put (by simp)
      have hlen : (V ++ [a]).length = V.length + 1 := by simp
      rw [hlen] at hm hWL
      generalize put C' w (.lst (natsD V)) = C1 at hC1q hC1w hK1 ⊢
      have ha' : a < goes.length := by rw [← M.len]; exact ha
      refine g_ixL (d := .lst (goes[a].map oD)) (atI_nat' ?_) ?_
      · rw [List.getElem?_map, List.getElem?_eq_getElem ha']
        rfl
      have hr : goes[a]? = some goes[a] := List.getElem?_eq_getElem ha'
      generalize hrow : goes[a] = row at hr
      walk_at "go"
      refine g_kForL (fun i st C2 => ∃ es L V2 x3, Ky es L ∧ C2 q = some (.dk es) ∧ C2 w = some (.lst (natsD V2)) ∧ Part (AL.Fw goes) [0] ends.length a (fun b => some b ∈ row.take i) L V2 ∧ 2 * (ends.length - L.length) + V2.length < m ∧ V2.length ≤ L.length ∧ KeepL [q, w] C C2 ∧ st = [some (machD ends goes), some (.ce q), some (.ce w), x3]) ⟨es, L, V, x3, hKy, hC1q, hC1w, hp.skip (fun b hb => by simp at hb), by omega, by omega, hK1, rfl⟩ (fun i d st C2 hi hw => ?_) (fun st C2 hw => ?_)
      · obtain ⟨es, L, V2, x3, hKy, hCq, hCw, hp, hm2, hVL, hK, rfl⟩ := hw
        rw [List.getElem?_map] at hi
        cases ei : row[i]? with
        | none => rw [ei] at hi; cases hi
        | some o =>
          rw [ei] at hi
          cases hi
          have ht : row.take (i + 1) = row.take i ++ [o] := by rw [List.take_add_one, ei]; rfl
          walk_at "go"
          refine g_ifS ?_
          walk_at "go"
          cases o with
          | none =>
            rw [show isNon (oD none) = true from rfl, show (!true) = false from rfl]
            walk_at "go"
            refine ⟨es, L, V2, _, hKy, hCq, hCw, hp.skip (fun b hb => ?_), hm2, hVL, hK, rfl⟩
            rw [ht] at hb
            rcases List.mem_append.mp hb with z | z
            · exact .inl z
            · simp at z
          | some b =>
            rw [show isNon (oD (some b)) = false from rfl, show (!false) = true from rfl]
            walk_at "go"
            have hFw : AL.Fw goes a b := ⟨row, hr, List.mem_of_getElem? ei⟩
            have hbn := (hFw.lt M).2
            refine g_ninKn (n := b) rfl rfl hCq hKy (fun hb => ?_) (fun hb => ?_)
            · walk_at "go"
              refine ⟨es, L, V2, _, hKy, hCq, hCw, hp.skip (fun c hc => ?_), hm2, hVL, hK, rfl⟩
              rw [ht] at hc
              rcases List.mem_append.mp hc with z | z
              · exact .inl z
              · have : c = b := by simpa using z
                rw [this]; exact .inr hb
            · walk_at "go"
              have hms := hp.ms
              refine g_putKv (n := b) rfl rfl hCq hKy (by omega) fun es' hKy' => ?_
              walk_at "go"
              have hp' := hp.see hFw hbn hb
              have hms' := hp'.ms
              have hal : (addN L b).length = L.length + 1 := by rw [addN_len, if_neg hb]
              have hVl : V2.length ≤ 3000 := by omega
              refine g_append (put_other hqw.symm hCw) (by simp only [natsD_len, sizeLine]; omega) ?_
              walk_at "go"
              refine ⟨es', addN L b, V2 ++ [b], _, hKy', put_other hqw put_same, ?_, hp'.skip (fun c hc => ?_), by rw [hal, List.length_append, List.length_singleton]; omega, by rw [hal, List.length_append, List.length_singleton]; omega, (hK.put (by simp)).put (by simp), rfl⟩
              · rw [put_same]
                unfold natsD
                rw [List.map_append]
                rfl
              · rw [ht] at hc
                rcases List.mem_append.mp hc with z | z
                · exact .inl (.inl z)
                · exact .inl (.inr (by simpa using z))
      · obtain ⟨es, L, V2, x3, hKy, hCq, hCw, hp, hm2, hVL, hK, rfl⟩ := hw
        rw [List.length_map, List.take_length] at hp
        refine ⟨_, hm2, es, L, V2, x3, hKy, hCq, hCw, hp.fin (fun b hb => ?_), rfl, hVL, hK, rfl⟩
        obtain ⟨r', hr', hb'⟩ := hb
        rw [hr] at hr'
        cases hr'
        exact hb'
    | true =>
      rw [show (!true) = false from rfl]
      have : W = [] := by simpa using e
      subst this
      walk_at "go"
      refine g_frzK rfl hCq ?_
      have hdw : (del C' q) w = some (.lst (natsD [])) := del_other hqw.symm hCw
      walk_at "go"
      have hKD : AL.Keep C (AL.del C' q) := fun a c ha => by
        have h1 : a ≠ q := fun z => by rw [z, hq] at ha; cases ha
        have h2 : a ≠ w := fun z => by rw [z, hw0] at ha; cases ha
        unfold AL.del
        rw [if_neg h1, hK a (by simp [h1, h2])]
        exact ha
      refine ⟨es, L.map fun (n : Nat) => (n : Int), rfl, by rw [List.map_map]; exact hKy, fun ys hy1 hy2 => ?_⟩
      rw [if_pos rfl]
      intro p hp
      rw [sorted_rl hy1 hy2 hS.nd hS.all]
      exact k _ p (hKD.put (hKD.none hp)) (hKD.none hp) put_same
end
end A_k25

namespace A_k25
open PySem L2 AL
theorem keep_none {C C' : AH} {p : Addr} (h : AL.Keep C C') (hp : C' p = none) : C p = none := by
  cases e : C p with
  | none => rfl
  | some c => rw [h p c e] at hp; cases hp
def enB (ends : List Bool) (i : Nat) : Bool := ends.getD i false
def endsN (ends : List Bool) : List Nat := (List.range ends.length).filter (enB ends)
theorem endsN_mem {ends : List Bool} {a : Nat} : a ∈ endsN ends ↔ a < ends.length ∧ enB ends a = true := by unfold endsN; rw [List.mem_filter, List.mem_range]
theorem endsN_len (ends : List Bool) : (endsN ends).length ≤ ends.length := by
  have := List.length_filter_le (enB ends) (List.range ends.length)
  rw [List.length_range] at this
  exact this
theorem endsN_nodup (ends : List Bool) : (endsN ends).Nodup := List.Pairwise.filter _ List.nodup_range
/-- cells with the stands ahead -/
structure Bks (C : AH) (bs : List Addr) (dn : Nat → Nat → Prop) (m : Nat) : Prop where
  at' : ∀ t (h : t < bs.length), ∃ l : List Nat, C bs[t] = some (.lst (natsD l)) ∧ l.length ≤ m ∧ ∀ s, s ∈ l ↔ dn s t
theorem Bks.keep {C C' : AH} {bs : List Addr} {dn : Nat → Nat → Prop} {m : Nat} (h : Bks C bs dn m) (hk : ∀ b ∈ bs, C' b = C b) : Bks C' bs dn m := ⟨fun t ht => by
  obtain ⟨l, h1, h2⟩ := h.at' t ht
  exact ⟨l, by rw [hk _ (List.getElem_mem ht)]; exact h1, h2⟩⟩
theorem Bks.iff {C : AH} {bs : List Addr} {dn dn' : Nat → Nat → Prop} {m m' : Nat} (h : Bks C bs dn m) (hi : ∀ s t, t < bs.length → (dn s t ↔ dn' s t)) (hm : m ≤ m') : Bks C bs dn' m' := ⟨fun t ht => by
  obtain ⟨l, h1, h2, h3⟩ := h.at' t ht
  exact ⟨l, h1, by omega, fun s => (h3 s).trans (hi s t ht)⟩⟩
theorem Bks.add {C : AH} {bs : List Addr} {dn : Nat → Nat → Prop} {m : Nat} (h : Bks C bs dn m) (hnd : bs.Nodup) {t s : Nat} (ht : t < bs.length) {l : List Nat} (hl : C bs[t] = some (.lst (natsD l))) : Bks (put C bs[t] (.lst (natsD (l ++ [s])))) bs (fun a b => dn a b ∨ (a = s ∧ b = t)) (m + 1) := ⟨fun u hu => by
  by_cases e : u = t
  · subst e
    obtain ⟨l', h1, h2, h3⟩ := h.at' u hu
    rw [hl] at h1
    have : l' = l := by
      have e1 := Cell.lst.inj (Option.some.inj h1)
      unfold natsD at e1
      exact ((List.map_inj_right (fun a b hab => by have := D.int.inj hab; omega)).mp e1).symm
    subst this
    refine ⟨_, put_same, by rw [List.length_append, List.length_singleton]; omega, fun a => ?_⟩
    rw [List.mem_append, List.mem_singleton, h3 a]
    simp
  · have hne : bs[u] ≠ bs[t] := fun z => e ((List.getElem_inj hnd).mp z)
    obtain ⟨l', h1, h2, h3⟩ := h.at' u hu
    refine ⟨l', by rw [put_ne hne]; exact h1, by omega, fun a => ?_⟩
    rw [h3 a]
    simp [e]⟩
def Bw (goes : List (List (Option Nat))) (a b : Nat) : Prop := AL.Fw goes b a
section
variable {sg : Nat} {ends : List Bool} {goes : List (List (Option Nat))} {C : AH} {P : D → AH → Prop}
theorem alive_ok (M : Mach sg ends goes) (hsg : sg ≤ 12) (k : ∀ C', AL.Keep C C' → P (.lst (natsD (rl ends.length (Reach (Bw goes) (endsN ends))))) C') : s_alive [machD ends goes] C P := by
  have hn := M.most
  have hpos := M.pos
  have hlg : goes.length = ends.length := M.len.symm
  unfold s_alive a_alive
  walk_at "go"
  refine g_kLc (fun i acc C9 => ∃ bs : List Addr, acc = bs.map D.ce ∧ bs.length = i ∧ bs.Nodup ∧ (∀ b ∈ bs, C b = none ∧ C9 b = some (.lst [])) ∧ AL.Keep C C9) (by rw [List.length_map]; simp only [sizeLine]; omega) ⟨[], rfl, rfl, List.nodup_nil, by simp, AL.Keep.refl C⟩ (fun i d acc C9 hi hw => ?_) (fun acc C9 hw => ?_)
  · obtain ⟨bs, rfl, hbl, hbn, hb, hK⟩ := hw
    walk_at "go"
    intro p hp
    have hp0 := keep_none hK hp
    refine ⟨bs ++ [p], by simp, by simp [hbl], ?_, fun b hb' => ?_, hK.put hp0⟩
    · refine List.nodup_append.mpr ⟨hbn, by simp, ?_⟩
      intro a ha b hb' e
      have : b = p := by simpa using hb'
      have h2 := (hb a ha).2
      rw [e, this, hp] at h2
      cases h2
    · rcases List.mem_append.mp hb' with z | z
      · have h2 := (hb b z).2
        exact ⟨(hb b z).1, by rw [put_ne (fun e => by rw [e, hp] at h2; cases h2)]; exact h2⟩
      · have : b = p := by simpa using z
        subst this
        exact ⟨hp0, put_same⟩
  obtain ⟨bs, rfl, hbl, hbn, hb, hK⟩ := hw
  rw [List.length_map] at hbl
  have hbs0 : ∀ b ∈ bs, C b = none := fun b h => (hb b h).1
  have hB : Bks C9 bs (fun _ _ => False) 0 := ⟨fun t ht => ⟨[], (hb _ (List.getElem_mem ht)).2, Nat.le_refl _, by simp⟩⟩
  walk_at "go"
  refine g_kFor (fun i st C2 => ∃ x4 x5 x6, Bks C2 bs (fun s t => s < i ∧ AL.Fw goes s t) (i * 12) ∧ AL.Keep C C2 ∧ st = [some (machD ends goes), some (endsD ends), some (goesD goes), some (.lst (bs.map D.ce)), x4, x5, x6, none, none, none, none]) ⟨none, none, none, hB.iff (fun s t _ => by simp) (Nat.le_refl _), hK, rfl⟩ (fun i d st C2 hi hw => ?_) (fun st C2 hw => ?_)
  · obtain ⟨x4, x5, x6, hB, hK, rfl⟩ := hw
    obtain ⟨x, hx, rfl⟩ := enumD_inv hi
    rw [List.getElem?_map] at hx
    cases er : goes[i]? with
    | none => rw [er] at hx; cases hx
    | some row =>
      rw [er] at hx
      cases hx
      have hil := (List.getElem?_eq_some_iff.mp er).1
      have hrl := M.row row (List.mem_of_getElem? er)
      walk_at "go"
      refine g_kForL (fun j st C3 => ∃ x6, Bks C3 bs (fun s t => (s < i ∧ AL.Fw goes s t) ∨ (s = i ∧ some t ∈ row.take j)) (i * 12 + j) ∧ AL.Keep C C3 ∧ st = [some (machD ends goes), some (endsD ends), some (goesD goes), some (.lst (bs.map D.ce)), some (.int (i : Nat)), some (.lst (row.map oD)), x6, none, none, none, none]) ⟨x6, hB.iff (fun s t _ => by simp) (by omega), hK, rfl⟩ (fun j d st C3 hj hw => ?_) (fun st C3 hw => ?_)
      · obtain ⟨x6, hB, hK, rfl⟩ := hw
        rw [List.getElem?_map] at hj
        cases ej : row[j]? with
        | none => rw [ej] at hj; cases hj
        | some o =>
          rw [ej] at hj
          cases hj
          have hjl := (List.getElem?_eq_some_iff.mp ej).1
          have ht : row.take (j + 1) = row.take j ++ [o] := by rw [List.take_add_one, ej]; rfl
          walk_at "go"
          refine g_ifS ?_
          walk_at "go"
          cases o with
          | none =>
            rw [show isNon (oD none) = true from rfl, show (!true) = false from rfl]
            walk_at "go"
            refine ⟨_, hB.iff (fun s t _ => ?_) (by omega), hK, rfl⟩
            rw [ht]
            simp
          | some t =>
            rw [show isNon (oD (some t)) = false from rfl, show (!false) = true from rfl]
            walk_at "go"
            have htn : t < bs.length := by rw [hbl]; exact M.go row (List.mem_of_getElem? er) t (List.mem_of_getElem? ej)
            obtain ⟨l, hl, hlm, hlt⟩ := hB.at' t htn
            refine g_ixL (d := .ce bs[t]) (i := (t : Int)) (atI_nat' (by rw [List.getElem?_map, List.getElem?_eq_getElem htn]; rfl)) ?_
            refine g_ty (by simp [isTy, hl]) ?_
            walk_at "go"
            refine g_append hl (by simp only [natsD_len, sizeLine]; omega) ?_
            walk_at "go"
            have en : natsD l ++ [D.int (i : Nat)] = natsD (l ++ [i]) := by unfold natsD; rw [List.map_append]; rfl
            rw [en]
            refine ⟨_, (hB.add hbn (s := i) htn hl).iff (fun s u _ => ?_) (by omega), hK.put (hbs0 _ (List.getElem_mem htn)), rfl⟩
            rw [ht, List.mem_append, List.mem_singleton]
            constructor
            · rintro ((h | h) | h)
              · exact .inl h
              · exact .inr ⟨h.1, .inl h.2⟩
              · exact .inr ⟨h.1, .inr (by rw [h.2])⟩
            · rintro (h | ⟨h1, h2 | h2⟩)
              · exact .inl (.inl h)
              · exact .inl (.inr ⟨h1, h2⟩)
              · exact .inr ⟨h1, Option.some.inj h2⟩
      · obtain ⟨x6, hB, hK, rfl⟩ := hw
        rw [List.length_map, List.take_length] at hB
        refine ⟨_, _, _, hB.iff (fun s t _ => ?_) (by omega), hK, rfl⟩
        constructor
        · rintro (h | ⟨rfl, h⟩)
          · exact ⟨by omega, h.2⟩
          · exact ⟨by omega, row, er, h⟩
        · rintro ⟨h1, h2⟩
          by_cases e : s = i
          · subst e
            obtain ⟨r', hr', h2⟩ := h2
            rw [er] at hr'
            cases hr'
            exact .inr ⟨rfl, h2⟩
          · exact .inl ⟨by omega, h2⟩
  · obtain ⟨x4, x5, x6, hB, hK, rfl⟩ := hw
    rw [enumD_len, List.length_map, hlg] at hB
    have hB : Bks C2 bs (AL.Fw goes) 12000 := hB.iff (fun s t _ => ⟨fun h => h.2, fun h => ⟨(h.lt M).1, h⟩⟩) (by omega)
    walk_at "go"
    refine g_kLc (fun i acc C4 => acc = natsD ((List.range i).filter (enB ends)) ∧ C4 = C2) (by rw [enumD_len, List.length_map]; simp only [sizeLine]; omega) ⟨rfl, rfl⟩ (fun i d acc C4 hi hw => ?_) (fun acc C4 hw => ?_)
    · obtain ⟨rfl, rfl⟩ := hw
      obtain ⟨x, hx, rfl⟩ := enumD_inv hi
      rw [List.getElem?_map] at hx
      cases ee : ends[i]? with
      | none => rw [ee] at hx; cases hx
      | some b =>
        rw [ee] at hx
        cases hx
        have hb : enB ends i = b := by unfold enB; rw [List.getD_eq_getElem?_getD, ee]; rfl
        walk_at "go"
        cases b with
        | true =>
          walk_at "go"
          refine ⟨?_, rfl⟩
          rw [List.range_succ, List.filter_append, List.filter_cons, hb]
          unfold natsD
          rw [List.map_append]
          rfl
        | false =>
          walk_at "go"
          refine ⟨?_, rfl⟩
          rw [List.range_succ, List.filter_append, List.filter_cons, hb]
          simp
    obtain ⟨rfl, rfl⟩ := hw
    rw [enumD_len, List.length_map]
    rw [show (List.range ends.length).filter (enB ends) = endsN ends from rfl]
    have hE := endsN_len ends
    have hEn := endsN_nodup ends
    have hEm : ∀ a ∈ endsN ends, a < ends.length := fun a ha => (endsN_mem.mp ha).1
    intro w hw
    have hw0 := keep_none hK hw
    have hwb : ∀ b ∈ bs, b ≠ w := fun b hb' e => by
      obtain ⟨t, ht, e2⟩ := List.mem_iff_getElem.mp hb'
      obtain ⟨l, hl, _⟩ := hB.at' t ht
      rw [e2, e, hw] at hl; cases hl
    have hB := hB.keep (C' := put C4 w (.lst (natsD (endsN ends)))) (fun b hb' => put_ne (hwb b hb'))
    have hCw : (put C4 w (.lst (natsD (endsN ends)))) w = some (.lst (natsD (endsN ends))) := put_same
    have hK := hK.put (c := .lst (natsD (endsN ends))) hw0
    generalize put C4 w (.lst (natsD (endsN ends))) = C5 at hB hCw hK ⊢
    walk_at "go"
    intro q hq
    have hq0 := keep_none hK hq
    have hqb : ∀ b ∈ bs, b ≠ q := fun b hb' e => by
      obtain ⟨t, ht, e2⟩ := List.mem_iff_getElem.mp hb'
      obtain ⟨l, hl, _⟩ := hB.at' t ht
      rw [e2, e, hq] at hl; cases hl
    have hqw : w ≠ q := ne_cell hCw hq
    have hB := hB.keep (C' := put C5 q (.dk [])) (fun b hb' => put_ne (hqb b hb'))
    have hCq : (put C5 q (.dk [])) q = some (.dk []) := put_same
    have hCw := put_other (d := .dk []) hqw hCw
    have hK := hK.put (c := .dk []) hq0
    generalize put C5 q (.dk []) = C6 at hB hCw hCq hK ⊢
    walk_at "go"
    refine g_kILc hCw ?_ (fun h1 h2 m h => kFor_mono m h)
    refine g_kForH (fun i st C' => ∃ es x4, Ky es ((endsN ends).take i) ∧ C' q = some (.dk es) ∧ C' w = some (.lst (natsD (endsN ends))) ∧ Bks C' bs (AL.Fw goes) 12000 ∧ AL.Keep C C' ∧ st = [some (machD ends goes), some (endsD ends), some (goesD goes), some (.lst (bs.map D.ce)), x4, x5, x6, some (.ce w), some (.ce q), none, none]) ⟨[], x4, rfl, hCq, hCw, hB, hK, rfl⟩ (fun i st C' _ hw => ?_) (fun i d st C' hi hw => ?_) (fun st C' hw => ?_)
    · obtain ⟨es, x4, _, _, h, _⟩ := hw
      exact h
    · obtain ⟨es, x4, hKy, hCq, hCw, hB, hK, rfl⟩ := hw
      obtain ⟨hil, rfl⟩ := natsD_get hi
      have e1 : (endsN ends).take (i + 1) = (endsN ends).take i ++ [(endsN ends)[i]] := by rw [List.take_add_one, List.getElem?_eq_getElem hil]; rfl
      have hni : (endsN ends)[i] ∉ (endsN ends).take i := fun h => by
        have h2 : ((endsN ends).take (i + 1)).Nodup := hEn.sublist (List.take_sublist _ _)
        rw [e1] at h2
        exact (List.nodup_append.mp h2).2.2 _ h _ (by simp) rfl
      walk_at "go"
      refine g_putKv (n := (endsN ends)[i]) rfl rfl hCq hKy (by rw [List.length_take]; omega) fun es' hKy' => ?_
      refine ⟨es', _, ?_, put_same, put_other hqw hCw, hB.keep (fun b hb' => put_ne (hqb b hb')), hK.put hq0, rfl⟩
      rw [e1]
      unfold addN at hKy'
      rwa [if_neg hni] at hKy'
    obtain ⟨es, x4, hKy, hCq, hCw, hB, hK, rfl⟩ := hw
    rw [natsD_len, List.take_length] at hKy
    walk_at "go"
    refine g_while (fun m st C' => ∃ es L W x9, Ky es L ∧ C' q = some (.dk es) ∧ C' w = some (.lst (natsD W)) ∧ Bks C' bs (AL.Fw goes) 12000 ∧ Srch (Bw goes) (endsN ends) ends.length L W ∧ m = 2 * (ends.length - L.length) + W.length ∧ W.length ≤ L.length ∧ AL.Keep C C' ∧ st = [some (machD ends goes), some (endsD ends), some (goesD goes), some (.lst (bs.map D.ce)), x4, x5, x6, some (.ce w), some (.ce q), x9, none]) (2 * (ends.length - (endsN ends).length) + (endsN ends).length) ⟨es, _, _, none, hKy, hCq, hCw, hB, ⟨hEn, hEm, fun a ha => .base ha, fun a ha => ha, fun a ha => ha, fun a ha hw => absurd ha hw⟩, rfl, Nat.le_refl _, hK, rfl⟩ (fun m st C' hW => ?_)
    obtain ⟨es, L, W, x9, hKy, hCq, hCw, hB, hS, hm, hWL, hK, rfl⟩ := hW
    walk_at "go"
    refine g_neNats hCw ?_
    walk_at "go"
    cases e : W.isEmpty with
    | false =>
      rw [show (!false) = true from rfl]
      have hne : W ≠ [] := fun z => by rw [z] at e; cases e
      obtain ⟨V, a, rfl⟩ := last_split hne
      walk_at "go"
      refine g_popN hCw ?_
      have hp := hS.pop
      have ha := hp.lt a hp.at'
      have hC1q : (put C' w (.lst (natsD V))) q = some (.dk es) := put_other hqw.symm hCq
      have hC1w : (put C' w (.lst (natsD V))) w = some (.lst (natsD V)) := put_same
      have hK1 := hK.put (c := .lst (natsD V)) hw0
      have hB1 := hB.keep (C' := put C' w (.lst (natsD V))) (fun b hb' => put_ne (hwb b hb'))
      have hlen : (V ++ [a]).length = V.length + 1 := by simp
      rw [hlen] at hm hWL
      generalize put C' w (.lst (natsD V)) = C1 at hC1q hC1w hK1 hB1 ⊢
      have hab : a < bs.length := by rw [hbl]; exact ha
      obtain ⟨l, hl, hlm, hlt⟩ := hB1.at' a hab
      refine g_ixL (d := .ce bs[a]) (i := (a : Int)) (atI_nat' (by rw [List.getElem?_map, List.getElem?_eq_getElem hab]; rfl)) ?_
      walk_at "go"
      refine g_kILc hl ?_ (fun h1 h2 m h => kFor_mono m h)
      refine g_kForH (fun i st C2 => ∃ es L V2 x9, Ky es L ∧ C2 q = some (.dk es) ∧ C2 w = some (.lst (natsD V2)) ∧ Bks C2 bs (AL.Fw goes) 12000 ∧ C2 bs[a] = some (.lst (natsD l)) ∧ Part (Bw goes) (endsN ends) ends.length a (fun b => b ∈ l.take i) L V2 ∧ 2 * (ends.length - L.length) + V2.length < m ∧ V2.length ≤ L.length ∧ AL.Keep C C2 ∧ st = [some (machD ends goes), some (endsD ends), some (goesD goes), some (.lst (bs.map D.ce)), x4, x5, x6, some (.ce w), some (.ce q), x9, none]) ⟨es, L, V, x9, hKy, hC1q, hC1w, hB1, hl, hp.skip (fun b hb => by simp at hb), by omega, by omega, hK1, rfl⟩ (fun i st C' _ hw => ?_) (fun i d st C2 hi hw => ?_) (fun st C2 hw => ?_)
      · obtain ⟨es, L, V2, x9, _, _, _, _, h, _⟩ := hw
        exact h
      · obtain ⟨es, L, V2, x9, hKy, hCq, hCw, hB, hl, hp, hm2, hVL, hK, rfl⟩ := hw
        obtain ⟨hil, rfl⟩ := natsD_get hi
        have ht : l.take (i + 1) = l.take i ++ [l[i]] := by rw [List.take_add_one, List.getElem?_eq_getElem hil]; rfl
        have hFw : Bw goes a l[i] := (hlt l[i]).mp (List.getElem_mem hil)
        have hbn' := (AL.Fw.lt M hFw).1
        generalize l[i] = b at ht hFw hbn'
        walk_at "go"
        refine g_ifS ?_
        walk_at "go"
        refine g_ninKn (n := b) rfl rfl hCq hKy (fun hb => ?_) (fun hb => ?_)
        · walk_at "go"
          refine ⟨es, L, V2, _, hKy, hCq, hCw, hB, hl, hp.skip (fun c hc => ?_), hm2, hVL, hK, rfl⟩
          rw [ht] at hc
          rcases List.mem_append.mp hc with z | z
          · exact .inl z
          · have : c = b := by simpa using z
            rw [this]; exact .inr hb
        · walk_at "go"
          have hms := hp.ms
          refine g_putKv (n := b) rfl rfl hCq hKy (by omega) fun es' hKy' => ?_
          walk_at "go"
          have hp' := hp.see hFw hbn' hb
          have hms' := hp'.ms
          have hal : (addN L b).length = L.length + 1 := by rw [addN_len, if_neg hb]
          refine g_append (put_other hqw hCw) (by simp only [natsD_len, sizeLine]; omega) ?_
          walk_at "go"
          have hba := List.getElem_mem hab
          refine ⟨es', addN L b, V2 ++ [b], _, hKy', put_other hqw.symm put_same, ?_, (hB.keep (fun b hb' => put_ne (hqb b hb'))).keep (fun b hb' => put_ne (hwb b hb')), put_other (hwb _ hba) (put_other (hqb _ hba) hl), hp'.skip (fun c hc => ?_), by rw [hal, List.length_append, List.length_singleton]; omega, by rw [hal, List.length_append, List.length_singleton]; omega, (hK.put hq0).put hw0, rfl⟩
          · rw [put_same]
            unfold natsD
            rw [List.map_append]
            rfl
          · rw [ht] at hc
            rcases List.mem_append.mp hc with z | z
            · exact .inl (.inl z)
            · exact .inl (.inr (by simpa using z))
      · obtain ⟨es, L, V2, x9, hKy, hCq, hCw, hB, hl, hp, hm2, hVL, hK, rfl⟩ := hw
        rw [natsD_len, List.take_length] at hp
        exact ⟨_, hm2, es, L, V2, x9, hKy, hCq, hCw, hB, hp.fin (fun b hb => (hlt b).mpr hb), rfl, hVL, hK, rfl⟩
    | true =>
      rw [show (!true) = false from rfl]
      have : W = [] := by simpa using e
      subst this
      walk_at "go"
      refine g_frzK rfl hCq ?_
      have hK2 := hK.del hq0
      generalize del C' q = C8 at hK2
      walk_at "go"
      refine g_sortD (ks := L.map fun (n : Nat) => (n : Int)) (by rw [List.map_map]; exact hKy) fun ys hy1 hy2 => ?_
      rw [sorted_rl hy1 hy2 hS.nd hS.all]
      exact k _ hK2
end
end A_k25

namespace A_k25
open PySem L2 AL
def Alive (ends : List Bool) (goes : List (List (Option Nat))) (a : Nat) : Prop := ∃ e, e < ends.length ∧ ends.getD e false = true ∧ Reach (AL.Fw goes) [a] e
theorem bw_alive {ends : List Bool} {goes : List (List (Option Nat))} {a : Nat} : Reach (Bw goes) (endsN ends) a ↔ Alive ends goes a := by
  constructor
  · intro h
    induction h with
    | @base x h =>
      obtain ⟨h1, h2⟩ := endsN_mem.mp h
      exact ⟨x, h1, h2, .base (by simp)⟩
    | step _ h ih =>
      obtain ⟨e, h1, h2, h3⟩ := ih
      exact ⟨e, h1, h2, Reach.head h h3⟩
  · rintro ⟨e, h1, h2, h3⟩
    have key : ∀ c, Reach (AL.Fw goes) [a] c → Reach (Bw goes) (endsN ends) c → Reach (Bw goes) (endsN ends) a := by
      intro c hc
      induction hc with
      | base h => intro g; rw [← List.mem_singleton.mp h]; exact g
      | step _ h ih => intro g; exact ih (.step g h)
    exact key e h3 (.base (endsN_mem.mpr ⟨h1, h2⟩))
theorem g_kNinM {C : AH} {P : D → AH → Prop} {es : List (Key × D)} {x y : D} {k : Key} (h1 : asK C x = some es) (h2 : AL.keyOf y = some k) (h : P (.bl (!(valD es k).isSome)) C) : kInK true y P x C := g_kInK h1 h2 (by rw [if_pos rfl]; exact h)
theorem lookD_fz {C : AH} {es : List (Key × D)} {o : Option Nat} : lookD C (.dk es) (oD o) = some (match o with | none => none | some b => valD es (nk b)) := by
  cases o <;> rfl
def IsU (ends : List Bool) (goes : List (List (Option Nat))) (U : List Nat) : Prop := U.Nodup ∧ ∀ a, a ∈ U ↔ a < ends.length ∧ Reach (AL.Fw goes) [0] a ∧ Alive ends goes a
section
variable {sg : Nat} {ends : List Bool} {goes : List (List (Option Nat))} {C : AH} {P : D → AH → Prop}
theorem useful_ok (M : Mach sg ends goes) (hs12 : sg ≤ 12) (k : ∀ C' U, AL.Keep C C' → IsU ends goes U → P (.lst (natsD U)) C') : s_useful_stands [machD ends goes] C P := by
  have hmo := M.most
  unfold s_useful_stands a_useful_stands
  walk_at "go"
  refine alive_ok M hs12 fun C1 hK1 => ?_
  walk_at "go"
  have hrl := rl_len ends.length (Reach (Bw goes) (endsN ends))
  have hmr : ∀ s, s ∈ rl ends.length (Reach (Bw goes) (endsN ends)) ↔ s < ends.length ∧ Reach (Bw goes) (endsN ends) s := fun s => mem_rl
  generalize rl ends.length (Reach (Bw goes) (endsN ends)) = A at hrl hmr
  refine g_lcG (xs := A) (g := fun (a : Nat) => D.int (a : Int)) (f := fun (a : Nat) => D.tup [.int (a : Int), .bl true]) (by simp only [sizeLine]; omega) (fun a _ R hR => ?_) ?_
  · walk_at "go"
    exact hR
  walk_at "go"
  refine keys_of fun es hKy => ?_
  have hmem : ∀ a, a ∈ A.foldl addN [] ↔ a ∈ A := fun a => by rw [mem_foldN]; simp
  generalize A.foldl addN [] = KL at hKy hmem
  walk_at "go"
  refine met_ok M fun C2 mq hK2 _ hmq => ?_
  walk_at "go"
  have hrl2 := rl_len ends.length (Reach (AL.Fw goes) [0])
  have hmr2 : ∀ s, s ∈ rl ends.length (Reach (AL.Fw goes) [0]) ↔ s < ends.length ∧ Reach (AL.Fw goes) [0] s := fun s => mem_rl
  have hnd : (rl ends.length (Reach (AL.Fw goes) [0])).Nodup := (rl_incr ends.length (Reach (AL.Fw goes) [0])).imp fun h => Nat.ne_of_lt h
  generalize rl ends.length (Reach (AL.Fw goes) [0]) = L at hrl2 hmr2 hnd hmq
  refine g_lcFc (xs := L) (g := fun (a : Nat) => D.int (a : Int)) (f := fun (a : Nat) => D.int (a : Int)) (fun a => decide (a ∈ A)) hmq (by simp only [sizeLine]; omega) (fun a ha R hR => ?_) (fun a _ _ R hR => ?_) ?_
  · walk_at "go"
    refine g_inK ?_
    walk_at "go"
    refine g_kInK (es := es) (k := nk a) rfl rfl ?_
    rw [if_neg Bool.false_ne_true, hKy.val a]
    have e : decide (a ∈ KL) = decide (a ∈ A) := by rw [Bool.eq_iff_iff, decide_eq_true_iff, decide_eq_true_iff]; exact hmem a
    rw [e]
    walk_at "go"
    exact hR
  · walk_at "go"
    exact hR
  · walk_at "go"
    refine k _ (L.filter fun a => decide (a ∈ A)) (hK1.trans hK2) ⟨hnd.filter _, fun a => ?_⟩
    rw [List.mem_filter, hmr2, decide_eq_true_iff, hmr, bw_alive]
    constructor
    · rintro ⟨⟨h1, h2⟩, _, h3⟩
      exact ⟨h1, h2, h3⟩
    · rintro ⟨h1, h2, h3⟩
      exact ⟨⟨h1, h2⟩, h1, h3⟩
def val (f : Nat → Option Nat) (o : Option Nat) : Nat := match o with | none => 0 | some b => (f b).getD 0
theorem ranks_ok (M : Mach sg ends goes) (hs12 : sg ≤ 12) {U : List Nat} (hnd : U.Nodup) (hU : ∀ a ∈ U, a < ends.length)
    (k : ∀ es f KL C', AL.Keep C C' → Mn es KL f → (∀ s u, f s = some u → s ∈ U ∧ u < 1000 ∧ (u = 0 ∨ ∃ b v, b ∈ U ∧ AL.Fw goes s b ∧ f b = some v ∧ u = v + 1) ∧ ∀ b ∈ U, AL.Fw goes s b → ∃ v, f b = some v ∧ v < u) → (∀ s ∈ U, f s = none → ∃ b ∈ U, AL.Fw goes s b ∧ f b = none) → P (.dk es) C') : s_ranks_of [machD ends goes, .lst (natsD U)] C P := by
  have hmo := M.most
  have hle := M.len
  have hUl : U.length ≤ ends.length := nodup_bound hnd hU
  unfold s_ranks_of a_ranks_of
  walk_at "go"
  refine g_lcG (xs := U) (g := fun (a : Nat) => D.int (a : Int)) (f := fun (a : Nat) => D.tup [.int (a : Int), .bl true]) (by simp only [sizeLine]; omega) (fun a _ R hR => ?_) ?_
  · walk_at "go"
    exact hR
  walk_at "go"
  refine keys_of fun ua hKy => ?_
  have hmem : ∀ a, a ∈ U.foldl addN [] ↔ a ∈ U := fun a => by rw [mem_foldN]; simp
  generalize U.foldl addN [] = KU at hKy hmem
  walk_at "go"
  intro q hq
  have hK0 : AL.Keep C (put C q (.dk [])) := (Keep.refl C).put hq
  have hq0 : (put C q (.dk [])) q = some (.dk []) := put_same
  generalize put C q (.dk []) = C0 at hK0 hq0
  walk_at "go"
  refine g_while (fun m st C' => ∃ (es : List (Key × D)) (KL : List Nat) (f : Nat → Option Nat) (g : Bool) (x2 x6 x7 : Option D), C' q = some (.dk es) ∧ Mn es KL f ∧ AL.Keep C C' ∧
    (∀ s u, f s = some u → s ∈ U ∧ u < KL.length ∧ (u = 0 ∨ ∃ b v, b ∈ U ∧ AL.Fw goes s b ∧ f b = some v ∧ u = v + 1) ∧ ∀ b ∈ U, AL.Fw goes s b → ∃ v, f b = some v ∧ v < u) ∧ (g = false → ∀ s ∈ U, f s = none → ∃ b ∈ U, AL.Fw goes s b ∧ f b = none) ∧ m = ends.length - KL.length + (if g then 1 else 0) ∧
    st = [some (machD ends goes), some (.lst (natsD U)), x2, some (.dk ua), some (.ce q), some (.bl g), x6, x7]) (ends.length + 1) ⟨[], [], fun _ => none, true, _, _, _, hq0, Mp.nil, hK0, (fun s u h => nomatch h), (fun h => nomatch h), rfl, rfl⟩ (fun m st C' hW => ?_)
  obtain ⟨es, KL, f, g, x2, x6, x7, hCq, hM, hK, hf, hg, rfl, rfl⟩ := hW
  walk_at "go"
  cases g with
  | false =>
    walk_at "go"
    refine g_frzK rfl hCq ?_
    walk_at "go"
    refine k es f KL _ (hK.del hq) hM (fun s u hu => ?_) (hg rfl)
    obtain ⟨h1, h2, h3⟩ := hf s u hu
    have : KL.length ≤ U.length := sub_len hM.nd fun a ha => by
      have := (hM.mem a).mp ha
      rw [Option.isSome_map] at this
      obtain ⟨v, hv⟩ := Option.isSome_iff_exists.mp this
      exact (hf a v hv).1
    exact ⟨h1, by omega, h3⟩
  | true =>
  walk_at "go"
  rw [show (natsD U).reverse = natsD U.reverse from (natsD_rev U).symm]
  refine g_kForL (fun i st C' => ∃ (es : List (Key × D)) (KL' : List Nat) (f : Nat → Option Nat) (g : Bool) (x2 x6 x7 : Option D), C' q = some (.dk es) ∧ Mn es KL' f ∧ AL.Keep C C' ∧
    (∀ s u, f s = some u → s ∈ U ∧ u < KL'.length ∧ (u = 0 ∨ ∃ b v, b ∈ U ∧ AL.Fw goes s b ∧ f b = some v ∧ u = v + 1) ∧ ∀ b ∈ U, AL.Fw goes s b → ∃ v, f b = some v ∧ v < u) ∧ KL.length ≤ KL'.length ∧ (g = true → KL.length < KL'.length) ∧
    (g = false → ∀ j s, j < i → U.reverse[j]? = some s → f s = none → ∃ b ∈ U, AL.Fw goes s b ∧ f b = none) ∧
    st = [some (machD ends goes), some (.lst (natsD U)), x2, some (.dk ua), some (.ce q), some (.bl g), x6, x7]) ⟨es, KL, f, false, _, _, _, hCq, hM, hK, hf, Nat.le_refl _, (fun h => nomatch h), (fun _ j s hj => absurd hj (Nat.not_lt_zero _)), rfl⟩ (fun i d st C' hi hw => ?_) (fun st C' hw => ?_)
  · obtain ⟨es, KL', f, g, x2, x6, x7, hCq, hM, hK, hf, hkl, hg1, hg2, rfl⟩ := hw
    obtain ⟨hil, rfl⟩ := natsD_get hi
    have hLi : U.reverse[i]? = some U.reverse[i] := List.getElem?_eq_getElem hil
    have hsL : U.reverse[i] ∈ U := List.mem_reverse.mp (List.getElem_mem hil)
    generalize U.reverse[i] = s at hLi hsL
    have hs := hU s hsL
    have hsg : s < goes.length := by omega
    have hr : goes[s]? = some goes[s] := List.getElem?_eq_getElem hsg
    have hrw : goes[s].length = sg := M.row _ (List.getElem_mem hsg)
    have hKl : KL'.length ≤ U.length := sub_len hM.nd fun a ha => by
      have := (hM.mem a).mp ha
      rw [Option.isSome_map] at this
      obtain ⟨v, hv⟩ := Option.isSome_iff_exists.mp this
      exact (hf a v hv).1
    walk_at "go"
    refine get_goC hsg ?_
    generalize goes[s] = row at hr hrw
    walk_at "go"
    refine g_lcF (xs := row) (g := oD) (f := oD) (fun o => match o with | none => false | some b => decide (b ∈ U)) (by simp only [sizeLine]; omega) (fun o ho R hR => ?_) (fun a _ _ R hR => ?_) ?_
    · walk_at "go"
      refine g_kInN lookD_fz ?_
      rw [if_neg Bool.false_ne_true]
      walk_at "go"
      cases o with
      | none => exact hR
      | some b =>
        simp only at hR ⊢
        rw [hKy.val b]
        have e : decide (b ∈ KU) = decide (b ∈ U) := by rw [Bool.eq_iff_iff, decide_eq_true_iff, decide_eq_true_iff]; exact hmem b
        rw [e]
        exact hR
    · walk_at "go"
      exact hR
    generalize hon : (row.filter fun o => match o with | none => false | some b => decide (b ∈ U)) = on
    have honm : ∀ o, o ∈ on ↔ ∃ b, o = some b ∧ b ∈ U ∧ AL.Fw goes s b := fun o => by
      rw [← hon, List.mem_filter]
      constructor
      · rintro ⟨h1, h2⟩
        cases o with
        | none => cases h2
        | some b => exact ⟨b, rfl, of_decide_eq_true h2, row, hr, h1⟩
      · rintro ⟨b, rfl, h1, r2, g1, g2⟩
        rw [hr] at g1
        cases g1
        exact ⟨g2, decide_eq_true h1⟩
    have honl : on.length ≤ 12 := by
      rw [← hon]
      exact Nat.le_trans (List.length_filter_le _ _) (by omega)
    have skip : ∀ x2 x6 x7, (f s = none → ∃ b ∈ U, AL.Fw goes s b ∧ f b = none) → ∃ (es : List (Key × D)) (KL' : List Nat) (f : Nat → Option Nat) (g' : Bool) (y2 y6 y7 : Option D), C' q = some (.dk es) ∧ Mn es KL' f ∧ AL.Keep C C' ∧
      (∀ s u, f s = some u → s ∈ U ∧ u < KL'.length ∧ (u = 0 ∨ ∃ b v, b ∈ U ∧ AL.Fw goes s b ∧ f b = some v ∧ u = v + 1) ∧ ∀ b ∈ U, AL.Fw goes s b → ∃ v, f b = some v ∧ v < u) ∧ KL.length ≤ KL'.length ∧ (g' = true → KL.length < KL'.length) ∧
      (g' = false → ∀ j s, j < i + 1 → U.reverse[j]? = some s → f s = none → ∃ b ∈ U, AL.Fw goes s b ∧ f b = none) ∧
      [some (machD ends goes), some (.lst (natsD U)), x2, some (.dk ua), some (.ce q), some (.bl g), x6, x7] = [some (machD ends goes), some (.lst (natsD U)), y2, some (.dk ua), some (.ce q), some (.bl g'), y6, y7] := fun x2 x6 x7 h =>
        ⟨es, KL', f, g, _, _, _, hCq, hM, hK, hf, hkl, hg1, fun hgf j t hj ht => by
          by_cases e : j = i
          · subst e; rw [hLi] at ht; cases ht; exact h
          · exact hg2 hgf j t (by omega) ht, rfl⟩
    walk_at "go"
    refine g_ifS ?_
    walk_at "go"
    refine g_inK ?_
    walk_at "go"
    refine g_kNinM (es := es) (k := nk s) (asK_ce hCq) rfl ?_
    rw [hM.at' s, Option.isSome_map]
    cases hfs : f s with
    | some u =>
      rw [show (some u).isSome = true from rfl]
      walk_at "go"
      exact skip _ _ _ (fun h => by rw [hfs] at h; cases h)
    | none =>
    rw [show (none : Option Nat).isSome = false from rfl]
    walk_at "go"
    refine g_lcG (xs := on) (g := oD) (f := fun o => D.bl (match o with | none => false | some b => (f b).isSome)) (by simp only [sizeLine]; omega) (fun o ho R hR => ?_) ?_
    · obtain ⟨b, rfl, hb1, hb2⟩ := (honm o).mp ho
      walk_at "go"
      refine g_inK ?_
      walk_at "go"
      refine g_kInK (es := es) (k := nk b) (asK_ce hCq) rfl ?_
      rw [if_neg Bool.false_ne_true, hM.at' b, Option.isSome_map]
      exact hR
    walk_at "go"
    refine g_all (blsD_map _ _) ?_
    rw [all_id]
    walk_at "go"
    cases hA : on.all fun o => match o with | none => false | some b => (f b).isSome with
    | false =>
      walk_at "go"
      refine skip _ _ _ (fun _ => ?_)
      obtain ⟨o, ho1, ho2⟩ := List.all_eq_false.mp hA
      obtain ⟨b, rfl, hb1, hb2⟩ := (honm o).mp ho1
      refine ⟨b, hb1, hb2, ?_⟩
      cases hfb : f b with
      | none => rfl
      | some v => exact absurd (show (f b).isSome = true by rw [hfb]; rfl) ho2
    | true =>
    have hon2 : ∀ b ∈ U, AL.Fw goes s b → ∃ v, f b = some v := fun b hb hF => by
      have := List.all_eq_true.mp hA (some b) ((honm _).mpr ⟨b, rfl, hb, hF⟩)
      exact Option.isSome_iff_exists.mp this
    walk_at "go"
    refine g_putKG ?_
    walk_at "go"
    refine g_lcG (xs := on) (g := oD) (f := fun o => D.int ((1 + val f o : Nat) : Int)) (by simp only [sizeLine]; omega) (fun o ho R hR => ?_) ?_
    · obtain ⟨b, rfl, hb1, hb2⟩ := (honm o).mp ho
      obtain ⟨v, hv⟩ := hon2 b hb1 hb2
      have hvv : val f (some b) = v := by unfold val; simp only [hv, Option.getD_some]
      rw [hvv] at hR
      walk_at "go"
      refine g_getK ?_
      walk_at "go"
      refine g_kGetK (asK_ce hCq) (show AL.keyOf (oD (some b)) = some (nk b) from rfl) (by rw [hM.at', hv]; rfl) ?_
      walk_at "go"
      rw [show (1 : Int) + (v : Int) = ((1 + v : Nat) : Int) by omega]
      exact hR
    walk_at "go"
    refine g_addL (by rw [List.length_map]; simp only [sizeLine, List.length_cons, List.length_nil]; omega) ?_
    walk_at "go"
    rw [show [D.int 0] ++ (on.map fun o => D.int ((1 + val f o : Nat) : Int)) = natsD (0 :: on.map fun o => 1 + val f o) by unfold natsD; rw [List.map_cons, List.map_map]; rfl]
    refine g_maxX rfl (by simp) fun u hu1 hu2 => ?_
    walk_at "go"
    have hub : u < KL'.length + 1 := by
      rcases List.mem_cons.mp hu1 with z | z
      · omega
      · obtain ⟨o, ho, rfl⟩ := List.mem_map.mp z
        obtain ⟨b, rfl, hb1, hb2⟩ := (honm o).mp ho
        obtain ⟨v, hv⟩ := hon2 b hb1 hb2
        have hvv : val f (some b) = v := by unfold val; simp only [hv, Option.getD_some]
        have := (hf b v hv).2.1
        omega
    have hsK : s ∉ KL' := fun z => by
      have := (hM.mem s).mp z
      rw [hfs] at this
      cases this
    have hal : (addN KL' s).length = KL'.length + 1 := by rw [addN_len, if_neg hsK]
    refine g_kPutKG hCq (show AL.keyOf (.int (s : Int)) = some (nk s) from rfl) (by rw [hM.ky.len]; simp only [sizeLine]; omega) ?_
    walk_at "go"
    refine ⟨_, addN KL' s, fun m => if m = s then some u else f m, true, _, _, _, put_same, hM.put s u, hK.put hq, fun t w ht => ?_, by omega, fun _ => by omega, (fun z => nomatch z), rfl⟩
    by_cases e : t = s
    · simp only [if_pos e] at ht
      cases ht
      subst e
      refine ⟨hsL, by omega, ?_, fun b hb hF => ?_⟩
      · rcases List.mem_cons.mp hu1 with z | z
        · exact .inl z
        · obtain ⟨o, ho, rfl⟩ := List.mem_map.mp z
          obtain ⟨b, rfl, hb1, hb2⟩ := (honm o).mp ho
          obtain ⟨v, hv⟩ := hon2 b hb1 hb2
          have hvv : val f (some b) = v := by unfold val; simp only [hv, Option.getD_some]
          have hbt : b ≠ t := fun z => by rw [z, hfs] at hv; cases hv
          exact .inr ⟨b, v, hb1, hb2, by simp only [if_neg hbt]; exact hv, by omega⟩
      obtain ⟨v, hv⟩ := hon2 b hb hF
      have hvv : val f (some b) = v := by unfold val; simp only [hv, Option.getD_some]
      have h1 := hu2 (1 + val f (some b)) (List.mem_cons_of_mem _ (List.mem_map.mpr ⟨some b, (honm _).mpr ⟨b, rfl, hb, hF⟩, rfl⟩))
      have hbt : b ≠ t := fun z => by rw [z, hfs] at hv; cases hv
      exact ⟨v, by simp only [if_neg hbt]; exact hv, by omega⟩
    · simp only [if_neg e] at ht
      obtain ⟨h1, h2, h0, h3⟩ := hf t w ht
      refine ⟨h1, by omega, ?_, fun b hb hF => ?_⟩
      · rcases h0 with z | ⟨b, v, g1, g2, g3, g4⟩
        · exact .inl z
        · have hbs : b ≠ s := fun z => by rw [z, hfs] at g3; cases g3
          exact .inr ⟨b, v, g1, g2, by simp only [if_neg hbs]; exact g3, g4⟩
      obtain ⟨v, hv, hlt⟩ := h3 b hb hF
      have hbs : b ≠ s := fun z => by rw [z, hfs] at hv; cases hv
      exact ⟨v, by simp only [if_neg hbs]; exact hv, hlt⟩
  · obtain ⟨es, KL', f, g, x2, x6, x7, hCq, hM, hK, hf, hkl, hg1, hg2, rfl⟩ := hw
    have hKl : KL'.length ≤ U.length := sub_len hM.nd fun a ha => by
      have := (hM.mem a).mp ha
      rw [Option.isSome_map] at this
      obtain ⟨v, hv⟩ := Option.isSome_iff_exists.mp this
      exact (hf a v hv).1
    refine ⟨ends.length - KL'.length + (if g then 1 else 0), ?_, es, KL', f, g, _, _, _, hCq, hM, hK, hf, fun hgf s hs hn => ?_, rfl, rfl⟩
    · cases g with
      | true => have := hg1 rfl; simp only [if_pos]; omega
      | false => simp only [if_pos]; rw [if_neg Bool.false_ne_true]; omega
    · obtain ⟨j, hj, e⟩ := List.getElem_of_mem (List.mem_reverse.mpr hs)
      exact hg2 hgf j s (by rw [natsD_len]; exact hj) (by rw [List.getElem?_eq_getElem hj, e]) hn
end
end A_k25

namespace A_k25
open PySem L2 AL
def Rr (sg : Nat) (ends : List Bool) (goes : List (List (Option Nat))) (start K : Nat) (f : Nat → Option (List Nat)) : Prop := ∀ s r, f s = some r → s < ends.length ∧ runO goes (some start) r = some s ∧ (∀ x ∈ r, x < sg) ∧ r.length + 1 ≤ K
/-- a dict of rows in cells -/
def Mr (H : AH) (es : List (Key × D)) (L : List Nat) (f : Nat → Option (List Nat)) : Prop := ∃ g : Nat → Option Addr, Mp es L (fun m => (g m).map D.ce) ∧ (∀ m, (f m).isSome = (g m).isSome) ∧ ∀ m r, f m = some r → ∃ a, g m = some a ∧ H a = some (.lst (natsD r))
theorem Mr.ky {H : AH} {es : List (Key × D)} {L : List Nat} {f : Nat → Option (List Nat)} (h : Mr H es L f) : Ky es L := by obtain ⟨g, h1, _⟩ := h; exact h1.ky
theorem Mr.nd {H : AH} {es : List (Key × D)} {L : List Nat} {f : Nat → Option (List Nat)} (h : Mr H es L f) : L.Nodup := by obtain ⟨g, h1, _⟩ := h; exact h1.nd
theorem Mr.mem {H : AH} {es : List (Key × D)} {L : List Nat} {f : Nat → Option (List Nat)} (h : Mr H es L f) (n : Nat) : n ∈ L ↔ (f n).isSome = true := by
  obtain ⟨g, h1, h2, _⟩ := h
  rw [h1.mem n, Option.isSome_map, h2]
theorem Mr.mem' {H : AH} {es : List (Key × D)} {L : List Nat} {f : Nat → Option (List Nat)} (h : Mr H es L f) {n : Nat} (hn : n ∈ L) : ∃ r, f n = some r := Option.isSome_iff_exists.mp ((h.mem n).mp hn)
theorem Mr.in' {H : AH} {es : List (Key × D)} {L : List Nat} {f : Nat → Option (List Nat)} (h : Mr H es L f) {n : Nat} {r : List Nat} (hn : f n = some r) : n ∈ L := (h.mem n).mpr (by rw [hn]; rfl)
theorem Mr.at' {H : AH} {es : List (Key × D)} {L : List Nat} {f : Nat → Option (List Nat)} (h : Mr H es L f) {n : Nat} {r : List Nat} (hn : f n = some r) : ∃ a, valD es (nk n) = some (.ce a) ∧ H a = some (.lst (natsD r)) := by
  obtain ⟨g, h1, h2, h3⟩ := h
  obtain ⟨a, g1, g2⟩ := h3 n r hn
  exact ⟨a, by rw [h1.at', g1]; rfl, g2⟩
theorem Mr.keep {H H' : AH} {es : List (Key × D)} {L : List Nat} {f : Nat → Option (List Nat)} (h : Mr H es L f) (hK : AL.Keep H H') : Mr H' es L f := by
  obtain ⟨g, h1, h2, h3⟩ := h
  exact ⟨g, h1, h2, fun m r hr => by obtain ⟨a, g1, g2⟩ := h3 m r hr; exact ⟨a, g1, hK _ _ g2⟩⟩
theorem Mr.put {H : AH} {es : List (Key × D)} {L : List Nat} {f : Nat → Option (List Nat)} (h : Mr H es L f) (n : Nat) (r : List Nat) {p : Addr} (hp : H p = none) : Mr (AL.put H p (.lst (natsD r))) (putD es (nk n) (.ce p)) (addN L n) fun m => if m = n then some r else f m := by
  obtain ⟨g, h1, h2, h3⟩ := h
  refine ⟨fun m => if m = n then some p else g m, ?_, fun m => ?_, fun m r' hr => ?_⟩
  · have := h1.put n (.ce p)
    refine ⟨this.ky, this.nd, fun m => (this.at' m).trans ?_⟩
    by_cases e : m = n
    · simp [e]
    · simp [e]
  · by_cases e : m = n
    · simp [e]
    · simp [e, h2]
  · show ∃ a, (if m = n then some p else g m) = some a ∧ _
    by_cases e : m = n
    · rw [if_pos e]
      have hr : (if m = n then some r else f m) = some r' := hr
      rw [if_pos e] at hr
      cases hr
      exact ⟨p, rfl, put_same⟩
    · rw [if_neg e]
      have hr : (if m = n then some r else f m) = some r' := hr
      rw [if_neg e] at hr
      obtain ⟨a, g1, g2⟩ := h3 m r' hr
      exact ⟨a, g1, put_old g2 hp⟩
theorem Mr.nil {H : AH} : Mr H [] [] fun _ => none := ⟨fun _ => none, Mp.nil, fun _ => rfl, fun m r h => by cases h⟩
section
variable {sg : Nat} {ends : List Bool} {goes : List (List (Option Nat))} {C : AH} {P : D → AH → Prop}
theorem prow_to_ok (M : Mach sg ends goes) {start : Nat} {goals : List Nat} (hst : start < ends.length)
    (k1 : ∀ (r : List Nat) (e : Nat) (a : Addr) C', AL.Keep C C' → C' a = some (.lst (natsD r)) → e ∈ goals → e < ends.length → runO goes (some start) r = some e → (∀ x ∈ r, x < sg) → r.length < ends.length → P (.ce a) C')
    (k2 : ∀ C', AL.Keep C C' → (∀ e ∈ goals, ¬ Reach (AL.Fw goes) [start] e) → P .non C') : s_row_to [machD ends goes, .int (start : Int), .lst (natsD goals)] C P := by
  have hmo := M.most
  have hle := M.len
  unfold s_row_to a_row_to
  walk_at "go"
  intro p0 hp0
  have hCH := (AL.Keep.refl C).put (c := .lst []) hp0
  have hp1 : (put C p0 (.lst [])) p0 = some (.lst (natsD [])) := put_same
  have hM0 : Mr (put C p0 (.lst [])) [(nk start, .ce p0)] [start] (fun m => if m = start then some [] else none) := by
    have := Mr.put (H := C) (f := fun _ => none) Mr.nil start [] hp0
    exact this
  generalize put C p0 (.lst []) = H0 at hCH hp1 hM0
  walk_at "go"
  intro q hq
  have hHC := (AL.Keep.refl H0).put (c := .dk [(.inl (start : Int), .ce p0)]) hq
  have hq0 : (put H0 q (.dk [(.inl (start : Int), .ce p0)])) q = some (.dk [(nk start, .ce p0)]) := put_same
  generalize put H0 q (.dk [(.inl (start : Int), .ce p0)]) = C0 at hHC hq0
  walk_at "go"
  refine g_while (fun m st C' => ∃ (es : List (Key × D)) (KL : List Nat) (f : Nat → Option (List Nat)) (Ly : List Nat) (H : AH) (x5 x6 x7 x8 : Option D), C' q = some (.dk es) ∧ Mr H es KL f ∧ AL.Keep C H ∧ H q = none ∧ AL.Keep H C' ∧ Rr sg ends goes start KL.length f ∧ start ∈ KL ∧ (∀ a ∈ Ly, a ∈ KL) ∧
    (∀ a ∈ KL, a ∉ Ly → a ∉ goals ∧ ∀ b, AL.Fw goes a b → b ∈ KL) ∧ m = 2 * (ends.length - KL.length) + (if Ly.isEmpty then 0 else 1) ∧
    st = [some (machD ends goes), some (.int (start : Int)), some (.lst (natsD goals)), some (.ce q), some (.lst (natsD Ly)), x5, x6, x7, x8]) (2 * (ends.length - 1) + 1)
    ⟨_, [start], _, [start], H0, _, _, _, _, hq0, hM0, hCH, hq, hHC, (fun s r h => ?_), by simp, (fun a ha => ha), (fun a ha hn => absurd ha hn), rfl, rfl⟩ (fun m st C' hW => ?_)
  · by_cases e : s = start
    · simp only [if_pos e] at h
      cases h
      rw [e]
      exact ⟨hst, rfl, (fun x hx => nomatch hx), by simp⟩
    · simp only [if_neg e] at h
      cases h
  obtain ⟨es, KL, f, Ly, H, x5, x6, x7, x8, hCq, hM, hCH, hHq, hHC, hR, hsK, hLy, hdn, rfl, rfl⟩ := hW
  have hKL : KL.length ≤ ends.length := nodup_bound hM.nd fun a ha => by
    obtain ⟨r, hr⟩ := hM.mem' ha
    exact (hR a r hr).1
  walk_at "go"
  refine g_neNatsF ?_
  walk_at "go"
  cases hLe : Ly.isEmpty with
  | true =>
    have : Ly = [] := by simpa using hLe
    subst this
    walk_at "go"
    refine k2 C' (hCH.trans hHC) fun e he hr => ?_
    have := Reach.closed (L := KL) (fun a ha => by rw [List.mem_singleton.mp ha]; exact hsK) (fun a ha b hb => (hdn a ha (by simp)).2 b hb) hr
    exact (hdn e this (by simp)).1 he
  | false =>
  walk_at "go"
  intro b hb
  have hqb : q ≠ b := ne_cell hCq hb
  have hHb := hHC.none hb
  have hCq1 := put_other (d := .lst []) hqb hCq
  have hCb1 : (put C' b (.lst [])) b = some (.lst (natsD [])) := put_same
  have hHC := hHC.put (c := .lst []) hHb
  generalize put C' b (.lst []) = C1 at hCq1 hCb1 hHC
  walk_at "go"
  refine g_kForL (fun i st C2 => ∃ (es : List (Key × D)) (K2 : List Nat) (f : Nat → Option (List Nat)) (By : List Nat) (H : AH) (x6 x7 x8 : Option D), C2 q = some (.dk es) ∧ C2 b = some (.lst (natsD By)) ∧ Mr H es K2 f ∧ AL.Keep C H ∧ H q = none ∧ H b = none ∧ AL.Keep H C2 ∧ Rr sg ends goes start K2.length f ∧
    (∀ a ∈ KL, a ∈ K2) ∧ (∀ a ∈ By, a ∈ K2) ∧ (∀ a ∈ K2, a ∈ KL ∨ a ∈ By) ∧ K2.length = KL.length + By.length ∧ (∀ j a, j < i → Ly[j]? = some a → a ∉ goals ∧ ∀ c, AL.Fw goes a c → c ∈ K2) ∧
    st = [some (machD ends goes), some (.int (start : Int)), some (.lst (natsD goals)), some (.ce q), some (.lst (natsD Ly)), some (.ce b), x6, x7, x8]) ⟨es, KL, f, [], H, _, _, _, hCq1, hCb1, hM, hCH, hHq, hHb, hHC, hR, fun a ha => ha, (fun a ha => nomatch ha), fun a ha => .inl ha, rfl, (fun j a hj => absurd hj (Nat.not_lt_zero _)), rfl⟩ (fun i d st C2 hi hw => ?_) (fun st C2 hw => ?_)
  · obtain ⟨es, K2, f, By, H, x6, x7, x8, hCq, hCb, hM, hCH, hHq, hHb, hHC, hR, hKs, hBy, hKB, hlen, hdone, rfl⟩ := hw
    obtain ⟨hil, rfl⟩ := natsD_get hi
    have hLi : Ly[i]? = some Ly[i] := List.getElem?_eq_getElem hil
    have hsL : Ly[i] ∈ Ly := List.getElem_mem hil
    generalize Ly[i] = s at hLi hsL
    obtain ⟨r, hfr⟩ := hM.mem' (hKs s (hLy s hsL))
    obtain ⟨hs, hrun, hrow, hrl⟩ := hR s r hfr
    have hK2l : K2.length ≤ ends.length := nodup_bound hM.nd fun a ha => by
      obtain ⟨r, hr⟩ := hM.mem' ha
      exact (hR a r hr).1
    walk_at "go"
    refine g_ifS ?_
    walk_at "go"
    refine g_inNats ?_
    walk_at "go"
    refine g_iteD (fun hg => ?_) (fun hg => ?_)
    · walk_at "go"
      refine g_getK ?_
      walk_at "go"
      obtain ⟨a, ha1, ha2⟩ := hM.at' hfr
      refine g_kGetK (asK_ce hCq) (show AL.keyOf (.int (s : Int)) = some (nk s) from rfl) ha1 ?_
      exact k1 r s a C2 (hCH.trans hHC) (hHC _ _ ha2) hg hs hrun hrow (by omega)
    have hsg : s < goes.length := by omega
    walk_at "go"
    refine get_goC hsg ?_
    have hr : goes[s]? = some goes[s] := List.getElem?_eq_getElem hsg
    have hrw : goes[s].length = sg := M.row _ (List.getElem_mem hsg)
    generalize goes[s] = row at hr hrw
    walk_at "go"
    refine g_kFor (fun c st C3 => ∃ (es : List (Key × D)) (K3 : List Nat) (f : Nat → Option (List Nat)) (By : List Nat) (H : AH) (x7 x8 : Option D), C3 q = some (.dk es) ∧ C3 b = some (.lst (natsD By)) ∧ Mr H es K3 f ∧ AL.Keep C H ∧ H q = none ∧ H b = none ∧ AL.Keep H C3 ∧ Rr sg ends goes start K3.length f ∧
      (∀ a ∈ K2, a ∈ K3) ∧ (∀ a ∈ By, a ∈ K3) ∧ (∀ a ∈ K3, a ∈ KL ∨ a ∈ By) ∧ K3.length = KL.length + By.length ∧ (∀ t, some t ∈ row.take c → t ∈ K3) ∧ f s = some r ∧
      st = [some (machD ends goes), some (.int (start : Int)), some (.lst (natsD goals)), some (.ce q), some (.lst (natsD Ly)), some (.ce b), some (.int (s : Int)), x7, x8]) ⟨es, K2, f, By, H, _, _, hCq, hCb, hM, hCH, hHq, hHb, hHC, hR, fun a ha => ha, hBy, hKB, hlen, by simp, hfr, rfl⟩ (fun c d st C3 hc hw => ?_) (fun st C3 hw => ?_)
    · obtain ⟨es, K3, f, By, H, x7, x8, hCq, hCb, hM, hCH, hHq, hHb, hHC, hR, hKs3, hBy, hKB, hlen, htk, hfr, rfl⟩ := hw
      obtain ⟨x, hx, rfl⟩ := enumD_inv hc
      rw [List.getElem?_map] at hx
      cases ei : row[c]? with
      | none => rw [ei] at hx; cases hx
      | some o =>
        rw [ei] at hx
        cases hx
        have hcl : c < row.length := (List.getElem?_eq_some_iff.mp ei).1
        have ht : row.take (c + 1) = row.take c ++ [o] := by rw [List.take_add_one, ei]; rfl
        have hK3l : K3.length ≤ ends.length := nodup_bound hM.nd fun a ha => by
          obtain ⟨r, hr⟩ := hM.mem' ha
          exact (hR a r hr).1
        walk_at "go"
        refine g_ifS ?_
        walk_at "go"
        cases o with
        | none =>
          rw [show isNon (oD none) = true from rfl]
          walk_at "go"
          refine ⟨es, K3, f, By, H, _, _, hCq, hCb, hM, hCH, hHq, hHb, hHC, hR, hKs3, hBy, hKB, hlen, fun t hb' => ?_, hfr, rfl⟩
          rw [ht] at hb'
          rcases List.mem_append.mp hb' with z | z
          · exact htk t z
          · simp at z
        | some t =>
          have hFw : AL.Fw goes s t := ⟨row, hr, List.mem_of_getElem? ei⟩
          have htn := (hFw.lt M).2
          rw [show isNon (oD (some t)) = false from rfl]
          walk_at "go"
          refine g_ninKn (n := t) rfl rfl hCq hM.ky (fun hb' => ?_) (fun hb' => ?_)
          · walk_at "go"
            refine ⟨es, K3, f, By, H, _, _, hCq, hCb, hM, hCH, hHq, hHb, hHC, hR, hKs3, hBy, hKB, hlen, fun t' hb'' => ?_, hfr, rfl⟩
            rw [ht] at hb''
            rcases List.mem_append.mp hb'' with z | z
            · exact htk t' z
            · have : t' = t := by simpa using z
              rw [this]; exact hb'
          · walk_at "go"
            obtain ⟨_, hrun, hrow, hrl⟩ := hR s r hfr
            refine g_putKG ?_
            walk_at "go"
            refine g_getK ?_
            walk_at "go"
            obtain ⟨a, ha1, ha2⟩ := hM.at' hfr
            refine g_kGetK (asK_ce hCq) (show AL.keyOf (.int (s : Int)) = some (nk s) from rfl) ha1 ?_
            walk_at "go"
            have hCa := hHC _ _ ha2
            refine ⟨natsD r, [.int (c : Int)], by simp only [asL, hCa], rfl, by rw [natsD_len]; simp only [sizeLine, List.length_cons, List.length_nil]; omega, fun p hp => ?_⟩
            rw [show natsD r ++ [D.int (c : Int)] = natsD (r ++ [c]) by rw [natsD_app]; rfl]
            have hpH := hHC.none hp
            have hqp : q ≠ p := ne_cell hCq hp
            have hbp : b ≠ p := ne_cell hCb hp
            have hM' := hM.put t (r ++ [c]) hpH
            have hCH' := hCH.put (c := .lst (natsD (r ++ [c]))) (hCH.none hpH)
            have hHC' : AL.Keep (AL.put H p (.lst (natsD (r ++ [c])))) (AL.put C3 p (.lst (natsD (r ++ [c])))) := fun a c e => by
              by_cases z : a = p
              · subst z; rw [put_same] at e ⊢; exact e
              · rw [put_ne z] at e ⊢; exact hHC a c e
            have hHq' : (AL.put H p (.lst (natsD (r ++ [c])))) q = none := by rw [put_ne hqp]; exact hHq
            have hHb' : (AL.put H p (.lst (natsD (r ++ [c])))) b = none := by rw [put_ne hbp]; exact hHb
            have hCq' := put_other (d := .lst (natsD (r ++ [c]))) hqp hCq
            have hCb' := put_other (d := .lst (natsD (r ++ [c]))) hbp hCb
            generalize AL.put C3 p (.lst (natsD (r ++ [c]))) = C4 at hHC' hCq' hCb'
            generalize AL.put H p (.lst (natsD (r ++ [c]))) = H4 at hM' hCH' hHC' hHq' hHb'
            walk_at "go"
            refine g_kPutKG hCq' (show AL.keyOf (oD (some t)) = some (nk t) from rfl) (by rw [hM.ky.len]; simp only [sizeLine]; omega) ?_
            walk_at "go"
            have hBl : By.length ≤ ends.length := by omega
            refine g_append (put_other hqb.symm hCb') (by rw [natsD_len]; simp only [sizeLine]; omega) ?_
            walk_at "go"
            have hal : (addN K3 t).length = K3.length + 1 := by rw [addN_len, if_neg hb']
            have hmem : ∀ a, a ∈ addN K3 t ↔ a ∈ K3 ∨ a = t := fun a => by
              unfold addN
              rw [if_neg hb', List.mem_append, List.mem_singleton]
            have hst' : s ≠ t := fun z => hb' (by rw [← z]; exact hM.in' hfr)
            refine ⟨_, addN K3 t, fun m => if m = t then some (r ++ [c]) else f m, By ++ [t], H4, _, _, put_other hqb put_same, ?_, hM', hCH', hHq', hHb', (hHC'.put hHq').put hHb', fun u w hu => ?_, fun a ha => (hmem a).mpr (.inl (hKs3 a ha)), fun a ha => ?_, fun a ha => ?_, ?_, fun t' hb'' => ?_, by simp only [if_neg hst']; exact hfr, rfl⟩
            · rw [put_same]
              simp [natsD, oD]
            · by_cases e : u = t
              · simp only [if_pos e] at hu
                cases hu
                rw [e]
                refine ⟨htn, ?_, fun x hx => ?_, ?_⟩
                · rw [run_snoc, hrun]
                  simp only [stepO, hr, ei]
                · rcases List.mem_append.mp hx with z | z
                  · exact hrow x z
                  · rw [List.mem_singleton.mp z]; omega
                · rw [hal, List.length_append, List.length_singleton]; omega
              · simp only [if_neg e] at hu
                obtain ⟨g1, g2, g3, g4⟩ := hR u w hu
                exact ⟨g1, g2, g3, by omega⟩
            · rcases List.mem_append.mp ha with z | z
              · exact (hmem a).mpr (.inl (hBy a z))
              · exact (hmem a).mpr (.inr (List.mem_singleton.mp z))
            · rcases (hmem a).mp ha with z | z
              · rcases hKB a z with y | y
                · exact .inl y
                · exact .inr (List.mem_append_left _ y)
              · exact .inr (by rw [z]; simp)
            · rw [hal, List.length_append, List.length_singleton]; omega
            · rw [ht] at hb''
              rcases List.mem_append.mp hb'' with z | z
              · exact (hmem t').mpr (.inl (htk t' z))
              · have : t' = t := by simpa using z
                exact (hmem t').mpr (.inr this)
    · obtain ⟨es, K3, f, By, H, x7, x8, hCq, hCb, hM, hCH, hHq, hHb, hHC, hR, hKs3, hBy, hKB, hlen, htk, hfr, rfl⟩ := hw
      rw [enumD_len, List.length_map, List.take_length] at htk
      refine ⟨es, K3, f, By, H, _, _, _, hCq, hCb, hM, hCH, hHq, hHb, hHC, hR, fun a ha => hKs3 a (hKs a ha), hBy, hKB, hlen, fun j a hj ha => ?_, rfl⟩
      by_cases e : j = i
      · subst e
        rw [hLi] at ha
        cases ha
        refine ⟨hg, fun t hF => ?_⟩
        obtain ⟨r2, g1, g2⟩ := hF
        rw [hr] at g1
        cases g1
        exact htk t g2
      · obtain ⟨g1, g2⟩ := hdone j a (by omega) ha
        exact ⟨g1, fun t hF => hKs3 t (g2 t hF)⟩
  · obtain ⟨es, K2, f, By, H, x6, x7, x8, hCq, hCb, hM, hCH, hHq, hHb, hHC, hR, hKs, hBy, hKB, hlen, hdone, rfl⟩ := hw
    rw [natsD_len] at hdone
    have hK2l : K2.length ≤ ends.length := nodup_bound hM.nd fun a ha => by
      obtain ⟨r, hr⟩ := hM.mem' ha
      exact (hR a r hr).1
    walk_at "go"
    refine ⟨2 * (ends.length - K2.length) + (if By.isEmpty then 0 else 1), ?_, es, K2, f, By, H, _, _, _, _, del_other hqb hCq, hM, hCH, hHq, hHC.del hHb, hR, hKs start hsK, hBy, fun a ha hn => ?_, rfl, rfl⟩
    · cases By with
      | nil => rw [List.length_nil] at hlen; simp only [List.isEmpty_nil, if_pos]; rw [if_neg Bool.false_ne_true]; omega
      | cons t By => rw [List.length_cons] at hlen; simp only [List.isEmpty_cons]; omega
    · rcases hKB a ha with y | y
      · by_cases hL : a ∈ Ly
        · obtain ⟨j, hj, e⟩ := List.getElem_of_mem hL
          exact hdone j a hj (by rw [List.getElem?_eq_getElem hj, e])
        · obtain ⟨g1, g2⟩ := hdn a y hL
          exact ⟨g1, fun t hF => hKs t (g2 t hF)⟩
      · exact absurd y hn
end
end A_k25

namespace A_k25
open PySem L2 AL
def inb (L : List Nat) (o : Option (Option Nat)) : Bool := match o with | some (some b) => decide (b ∈ L) | _ => false
section
variable {sg : Nat} {ends : List Bool} {goes : List (List (Option Nat))} {C : AH} {P : D → AH → Prop}
theorem ring_of_ok (M : Mach sg ends goes) (hs12 : sg ≤ 12) {L : List Nat} (hne : L ≠ []) (hL : ∀ a ∈ L, a < ends.length) (hl : L.length ≤ 1000) (hgo : ∀ a ∈ L, ∃ b ∈ L, AL.Fw goes a b)
    (k : ∀ s B C', AL.Keep C C' → s ∈ L → B ≠ [] → (∀ x ∈ B, x < sg) → runO goes (some s) B = some s → B.length ≤ ends.length → P (.tup [.int (s : Nat), .lst (natsD B)]) C') : s_ring_of [machD ends goes, .lst (natsD L)] C P := by
  have hmo := M.most
  have hle := M.len
  unfold s_ring_of a_ring_of
  walk_at "go"
  refine g_lcG (xs := L) (g := fun (a : Nat) => D.int (a : Int)) (f := fun (a : Nat) => D.tup [.int (a : Int), .bl true]) (by simp only [sizeLine]; omega) (fun a _ R hR => ?_) ?_
  · walk_at "go"
    exact hR
  walk_at "go"
  refine keys_of fun ua hKy => ?_
  have hmem : ∀ a, a ∈ L.foldl addN [] ↔ a ∈ L := fun a => by rw [mem_foldN]; simp
  generalize L.foldl addN [] = KU at hKy hmem
  walk_at "go"
  intro q hq
  have hK0 : AL.Keep C (put C q (.dk [])) := (Keep.refl C).put hq
  have hq0 : (put C q (.dk [])) q = some (.dk []) := put_same
  generalize put C q (.dk []) = C0 at hK0 hq0
  walk_at "go"
  intro w hw
  have hw0 := keep_none hK0 hw
  have hqw : q ≠ w := ne_cell hq0 hw
  have hq1 := put_other (d := .lst []) hqw hq0
  have hw1 : (put C0 w (.lst [])) w = some (.lst (natsD [])) := put_same
  have hK1 := hK0.put (c := .lst []) hw0
  generalize put C0 w (.lst []) = C1 at hq1 hw1 hK1
  walk_at "go"
  obtain ⟨l0, L', rfl⟩ : ∃ l0 L', L = l0 :: L' := by
    cases L with
    | nil => exact absurd rfl hne
    | cons a L' => exact ⟨a, L', rfl⟩
  refine g_ixL (d := .int (l0 : Int)) (atI_nat' (i := 0) rfl) ?_
  walk_at "go"
  generalize hLL : l0 :: L' = L at hL hl hgo hmem hne k
  have hl0 : l0 ∈ L := by rw [← hLL]; simp
  refine g_while (fun m st C' => ∃ (es : List (Key × D)) (KL : List Nat) (f : Nat → Option Nat) (R : List Nat) (cur : Nat) (x6 x7 x8 : Option D), C' q = some (.dk es) ∧ C' w = some (.lst (natsD R)) ∧ Mn es KL f ∧ AL.Keep C C' ∧ KL.length = R.length ∧ cur ∈ L ∧ (∀ x ∈ R, x < sg) ∧
    (∀ s i, f s = some i → s ∈ L ∧ i < R.length ∧ runO goes (some s) (R.drop i) = some cur) ∧ m = ends.length - KL.length ∧
    st = [some (machD ends goes), some (.lst (natsD L)), some (.int (cur : Int)), some (.dk ua), some (.ce q), some (.ce w), x6, x7, x8]) ends.length ⟨[], [], fun _ => none, [], l0, _, _, _, hq1, hw1, Mp.nil, hK1, rfl, hl0, (fun x hx => nomatch hx), (fun s i h => nomatch h), by simp, rfl⟩ (fun m st C' hW => ?_)
  obtain ⟨es, KL, f, R, cur, x6, x7, x8, hCq, hCw, hM, hK, hlen, hcur, hR, hf, rfl, rfl⟩ := hW
  have hKL : KL.length ≤ ends.length := nodup_bound hM.nd fun a ha => by
    have := (hM.mem a).mp ha
    rw [Option.isSome_map] at this
    obtain ⟨v, hv⟩ := Option.isSome_iff_exists.mp this
    exact hL a (hf a v hv).1
  walk_at "go"
  refine g_inK ?_
  walk_at "go"
  refine g_kNinM (es := es) (k := nk cur) (asK_ce hCq) rfl ?_
  rw [hM.at' cur, Option.isSome_map]
  cases hfc : f cur with
  | some i =>
    rw [show (some i).isSome = true from rfl]
    obtain ⟨_, hi, hrun⟩ := hf cur i hfc
    walk_at "go"
    refine g_frzK rfl hCq ?_
    have hCw2 := del_other hqw.symm hCw
    have hK2 := hK.del hq
    generalize del C' q = C2 at hCw2 hK2
    refine g_frzL rfl hCw2 ?_
    have hK3 := hK2.del hw0
    generalize del C2 w = C3 at hK3
    walk_at "go"
    refine g_getK ?_
    walk_at "go"
    refine g_kGetK (es := es) (k := nk cur) (d := .int (i : Int)) rfl rfl (by rw [hM.at', hfc]; rfl) ?_
    walk_at "go"
    refine g_cutDrop (j := i) ?_
    walk_at "go"
    rw [show (natsD R).drop i = natsD (R.drop i) by unfold natsD; rw [List.map_drop]]
    refine k cur (R.drop i) C3 hK3 hcur (fun z => ?_) (fun x hx => hR x (List.mem_of_mem_drop hx)) hrun (by rw [List.length_drop]; omega)
    have := congrArg List.length z
    rw [List.length_drop, List.length_nil] at this
    omega
  | none =>
  rw [show (none : Option Nat).isSome = false from rfl]
  walk_at "go"
  refine g_putKG ?_
  walk_at "go"
  rw [natsD_len]
  refine g_kPutKG hCq (show AL.keyOf (.int (cur : Int)) = some (nk cur) from rfl) (by rw [hM.ky.len]; simp only [sizeLine]; omega) ?_
  have hcK : cur ∉ KL := fun z => by
    have := (hM.mem cur).mp z
    rw [hfc] at this
    cases this
  have hal : (addN KL cur).length = KL.length + 1 := by rw [addN_len, if_neg hcK]
  have hM2 := hM.put cur R.length
  have hCw2 := put_other (d := .dk (putD es (nk cur) (.int (R.length : Nat)))) hqw.symm hCw
  have hCq2 : (put C' q (.dk (putD es (nk cur) (.int (R.length : Nat))))) q = _ := put_same
  have hK2 := hK.put (c := .dk (putD es (nk cur) (.int (R.length : Nat)))) hq
  generalize put C' q (.dk (putD es (nk cur) (.int (R.length : Nat)))) = C2 at hCw2 hCq2 hK2
  have hKL2 : (addN KL cur).length ≤ ends.length := nodup_bound hM2.nd fun a ha => by
    have := (hM2.mem a).mp ha
    rw [Option.isSome_map] at this
    obtain ⟨v, hv⟩ := Option.isSome_iff_exists.mp this
    by_cases e : a = cur
    · rw [e]; exact hL cur hcur
    · simp only [if_neg e] at hv
      exact hL a (hf a v hv).1
  walk_at "go"
  have hcn := hL cur hcur
  have hsg : cur < goes.length := by omega
  refine get_goC hsg ?_
  have hr : goes[cur]? = some goes[cur] := List.getElem?_eq_getElem hsg
  have hrw : goes[cur].length = sg := M.row _ (List.getElem_mem hsg)
  generalize goes[cur] = row at hr hrw
  walk_at "go"
  refine g_kLc (fun i acc C' => acc = natsD ((List.range i).filter fun j => inb L row[j]?) ∧ C2 = C') (by rw [enumD_len, List.length_map]; simp only [sizeLine]; omega) ⟨rfl, rfl⟩ (fun i d acc C' hi hw => ?_) (fun acc C' hw => ?_)
  · obtain ⟨rfl, rfl⟩ := hw
    obtain ⟨x, hx, rfl⟩ := enumD_inv hi
    rw [List.getElem?_map] at hx
    cases ei : row[i]? with
    | none => rw [ei] at hx; cases hx
    | some o =>
      rw [ei] at hx
      cases hx
      walk_at "go"
      refine g_kInN lookD_fz ?_
      rw [if_neg Bool.false_ne_true]
      walk_at "go"
      rw [List.range_succ, List.filter_append]
      cases o with
      | none =>
        have hin : inb L row[i]? = false := by rw [ei]; rfl
        refine g_iteF ⟨?_, rfl⟩
        rw [List.filter_cons, if_neg (by rw [hin]; simp)]
        simp
      | some b =>
        have hin : inb L row[i]? = decide (b ∈ L) := by rw [ei]; rfl
        simp only
        rw [hKy.val b]
        have e : decide (b ∈ KU) = decide (b ∈ L) := by rw [Bool.eq_iff_iff, decide_eq_true_iff, decide_eq_true_iff]; exact hmem b
        rw [e]
        by_cases hb : b ∈ L
        · rw [decide_eq_true hb]
          walk_at "go"
          refine ⟨?_, by first | exact rfl | trivial⟩
          rw [List.filter_cons, if_pos (by rw [hin]; exact decide_eq_true hb)]
          simp [natsD]
        · rw [decide_eq_false hb]
          walk_at "go"
          refine ⟨?_, by first | exact rfl | trivial⟩
          rw [List.filter_cons, if_neg (by rw [hin, decide_eq_false hb]; simp)]
          simp
  obtain ⟨rfl, rfl⟩ := hw
  rw [enumD_len, List.length_map]
  obtain ⟨t0, ht0, r2, g1, g2⟩ := hgo cur hcur
  rw [hr] at g1
  cases g1
  obtain ⟨j0, hj0, ej0⟩ := List.getElem_of_mem g2
  have hx : ∃ x xs, ((List.range row.length).filter fun j => inb L row[j]?) = x :: xs := by
    cases e : ((List.range row.length).filter fun j => inb L row[j]?) with
    | nil =>
      have : j0 ∈ ((List.range row.length).filter fun j => inb L row[j]?) := List.mem_filter.mpr ⟨List.mem_range.mpr hj0, by rw [List.getElem?_eq_getElem hj0, ej0]; simp [inb, ht0]⟩
      rw [e] at this
      cases this
    | cons x xs => exact ⟨x, xs, rfl⟩
  obtain ⟨x, xs, ex⟩ := hx
  have hxm : x ∈ ((List.range row.length).filter fun j => inb L row[j]?) := by rw [ex]; simp
  rw [ex]
  obtain ⟨hx1, hx2⟩ := List.mem_filter.mp hxm
  have hxl := List.mem_range.mp hx1
  obtain ⟨t, ht, htL⟩ : ∃ t, row[x]? = some (some t) ∧ t ∈ L := by
    cases e : row[x]? with
    | none => rw [e] at hx2; cases hx2
    | some o =>
      rw [e] at hx2
      cases o with
      | none => cases hx2
      | some t => exact ⟨t, rfl, by simpa [inb] using hx2⟩
  walk_at "go"
  refine g_ixL (d := .int (x : Int)) (atI_nat' (i := 0) rfl) ?_
  walk_at "go"
  refine g_append hCw2 (by rw [natsD_len]; simp only [sizeLine]; omega) ?_
  walk_at "go"
  refine get_goC hsg ?_
  have hrr : goes[cur] = row := by
    have := List.getElem?_eq_getElem hsg
    rw [hr] at this
    exact (Option.some.inj this).symm
  rw [hrr]
  walk_at "go"
  refine g_ixL (d := .int (t : Int)) (atI_nat' (by rw [List.getElem?_map, ht]; rfl)) ?_
  walk_at "go"
  have hstep : stepO goes (some cur) x = some t := by simp only [stepO, hr, ht]
  refine ⟨ends.length - (addN KL cur).length, by omega, _, addN KL cur, fun m => if m = cur then some R.length else f m, R ++ [x], t, _, _, _, put_other hqw hCq2, ?_, hM2, hK2.put hw0, by rw [hal, List.length_append, List.length_singleton]; omega, htL, fun y hy => ?_, fun s i hsi => ?_, rfl, rfl⟩
  · rw [put_same]
    simp [natsD]
  · rcases List.mem_append.mp hy with z | z
    · exact hR y z
    · rw [List.mem_singleton.mp z]; omega
  · by_cases e : s = cur
    · simp only [if_pos e] at hsi
      cases hsi
      rw [e]
      refine ⟨hcur, by simp, ?_⟩
      rw [List.drop_append_of_le_length (Nat.le_refl _), List.drop_length, List.nil_append]
      exact hstep
    · simp only [if_neg e] at hsi
      obtain ⟨g1, g2, g3⟩ := hf s i hsi
      refine ⟨g1, by rw [List.length_append]; omega, ?_⟩
      rw [List.drop_append_of_le_length (by omega), run_snoc, g3]
      exact hstep
end
end A_k25

namespace A_k25
open PySem L2 AL
section
variable {sg : Nat} {ends : List Bool} {goes : List (List (Option Nat))} {C : AH} {P : D → AH → Prop}
/-- the ranks of the useful stands -/
def Rk (ends : List Bool) (goes : List (List (Option Nat))) (U : List Nat) (f : Nat → Option Nat) : Prop := (∀ s u, f s = some u → s ∈ U ∧ u < 1000 ∧ (u = 0 ∨ ∃ b v, b ∈ U ∧ AL.Fw goes s b ∧ f b = some v ∧ u = v + 1) ∧ ∀ b ∈ U, AL.Fw goes s b → ∃ v, f b = some v ∧ v < u) ∧ ∀ a ∈ U, ∃ u, f a = some u
/-- a way round, and to an end -/
def Rnd (sg : Nat) (ends : List Bool) (goes : List (List (Option Nat))) (A B E : List Nat) : Prop := ∃ s e, runO goes (some 0) A = some s ∧ B ≠ [] ∧ runO goes (some s) B = some s ∧ runO goes (some s) E = some e ∧ ends.getD e false = true ∧ (∀ x ∈ A, x < sg) ∧ (∀ x ∈ B, x < sg) ∧ (∀ x ∈ E, x < sg) ∧ A.length ≤ ends.length ∧ B.length ≤ ends.length ∧ E.length ≤ ends.length
theorem span_ok (M : Mach sg ends goes) (hs12 : sg ≤ 12)
    (k1 : ∀ q C', AL.Keep C C' → ¬ Alive ends goes 0 → C' q = some (.lst (natsD (rl ends.length (Reach (AL.Fw goes) [0])))) → P (.tup [.str "none", .ce q]) C')
    (k2 : ∀ q U f C', AL.Keep C C' → IsU ends goes U → 0 ∈ U → Rk ends goes U f → C' q = some (.lst ((List.range ends.length).map fun a => oD (f a))) → P (.tup [.str "last", .ce q]) C')
    (k3 : ∀ a c A B E C', AL.Keep C C' → C' a = some (.lst (natsD A)) → C' c = some (.lst (natsD E)) → Rnd sg ends goes A B E → P (.tup [.str "endless", .ce a, .lst (natsD B), .ce c]) C') : s_span [machD ends goes] C P := by
  have hmo := M.most
  have hpos := M.pos
  have hle := M.len
  have hbd : ∀ s, Reach (AL.Fw goes) [0] s → s < ends.length := fun s hre => by
    have := Reach.closed (R := AL.Fw goes) (S := [0]) (L := List.range ends.length) (fun a ha => by rw [List.mem_singleton.mp ha]; exact List.mem_range.mpr hpos) (fun a _ b hb => List.mem_range.mpr (hb.lt M).2) hre
    exact List.mem_range.mp this
  have htr : ∀ {a b c}, Reach (AL.Fw goes) [a] b → Reach (AL.Fw goes) [b] c → Reach (AL.Fw goes) [a] c := fun h1 h2 => by
    induction h2 with
    | base h => rw [List.mem_singleton.mp h]; exact h1
    | step _ h ih => exact .step ih h
  unfold s_span a_span
  walk_at "go"
  refine useful_ok M hs12 fun C1 U hK1 hIU => ?_
  obtain ⟨hUn, hU⟩ := id hIU
  have hUlt : ∀ a ∈ U, a < ends.length := fun a ha => ((hU a).mp ha).1
  have hUl : U.length ≤ ends.length := nodup_bound hUn hUlt
  walk_at "go"
  refine g_ifB (!decide (0 ∈ U)) (fun K hK => ?_) (fun hp => ?_) (fun hp => ?_)
  · walk_at "go"
    refine g_ninNats (n := 0) ?_
    walk_at "go"
    exact hK
  · have h0 : 0 ∉ U := by simpa using hp
    walk_at "go"
    refine met_ok M fun C2 q hK2 _ hq => ?_
    walk_at "go"
    exact k1 q C2 (hK1.trans hK2) (fun ha => h0 ((hU 0).mpr ⟨hpos, .base (by simp), ha⟩)) hq
  have h0 : 0 ∈ U := by simpa using hp
  walk_at "go"
  refine ranks_ok M hs12 hUn hUlt fun es f KL C2 hK2 hM hf hg => ?_
  have hK := hK1.trans hK2
  walk_at "go"
  refine g_lcF (xs := U) (g := fun (a : Nat) => D.int (a : Int)) (f := fun (a : Nat) => D.int (a : Int)) (fun a => (f a).isNone) (by simp only [sizeLine]; omega) (fun a ha R hR => ?_) (fun a _ _ R hR => ?_) ?_
  · walk_at "go"
    refine g_inK ?_
    walk_at "go"
    refine g_kNinM (es := es) (k := nk a) rfl rfl ?_
    rw [hM.at' a, Option.isSome_map]
    walk_at "go"
    have e : (!(f a).isSome) = (f a).isNone := by cases f a <;> rfl
    rw [e]
    exact hR
  · walk_at "go"
    exact hR
  rw [show ((U.filter fun a => (f a).isNone).map fun (a : Nat) => D.int (a : Int)) = natsD (U.filter fun a => (f a).isNone) from rfl]
  generalize hlf : (U.filter fun a => (f a).isNone) = lf
  have hlfm : ∀ a, a ∈ lf ↔ a ∈ U ∧ f a = none := fun a => by rw [← hlf, List.mem_filter, Option.isNone_iff_eq_none]
  have hlfl : lf.length ≤ 1000 := by
    rw [← hlf]
    exact Nat.le_trans (List.length_filter_le _ _) (by omega)
  walk_at "go"
  refine g_ifB lf.isEmpty (fun K hK => ?_) (fun hp => ?_) (fun hp => ?_)
  · walk_at "go"
    refine g_eqNatsF ?_
    walk_at "go"
    exact hK
  · have hlf0 : lf = [] := by simpa using hp
    have hall : ∀ a ∈ U, ∃ u, f a = some u := fun a ha => by
      cases hfa : f a with
      | some u => exact ⟨u, rfl⟩
      | none =>
        have := (hlfm a).mpr ⟨ha, hfa⟩
        rw [hlf0] at this
        cases this
    walk_at "go"
    rw [List.length_map]
    walk_at "go"
    rw [Int.toNat_natCast, rangeD_nats]
    refine g_lcG (xs := List.range ends.length) (g := fun (a : Nat) => D.int (a : Int)) (f := fun a => oD (f a)) (by rw [List.length_range]; simp only [sizeLine]; omega) (fun a _ R hR => ?_) ?_
    · walk_at "go"
      refine g_kGet2 (es := es) rfl ?_
      walk_at "go"
      refine g_kGet2' (es := es) rfl (show AL.keyOf (.int (a : Int)) = some (nk a) from rfl) ?_
      rw [hM.at']
      have e : ((f a).map fun (v : Nat) => D.int (v : Int)).getD .non = oD (f a) := by cases f a <;> rfl
      rw [e]
      exact hR
    intro q hq
    walk_at "go"
    exact k2 q U f _ (hK.put (hK.none hq)) hIU h0 ⟨hf, hall⟩ put_same
  have hlne : lf ≠ [] := fun z => by rw [z] at hp; cases hp
  walk_at "go"
  refine ring_of_ok M hs12 hlne (fun a ha => hUlt a ((hlfm a).mp ha).1) hlfl (fun a ha => ?_) fun s B C3 hK3 hsl hB1 hB2 hB3 hB4 => ?_
  · obtain ⟨g1, g2⟩ := (hlfm a).mp ha
    obtain ⟨b, h1, h2, h3⟩ := hg a g1 g2
    exact ⟨b, (hlfm b).mpr ⟨h1, h3⟩, h2⟩
  have hsU := ((hlfm s).mp hsl).1
  obtain ⟨hsn, hsr, e0, he1, he2, he3⟩ := (hU s).mp hsU
  walk_at "go"
  refine g_lcF (xs := U) (g := fun (a : Nat) => D.int (a : Int)) (f := fun (a : Nat) => D.int (a : Int)) (fun s => ends.getD s false) (by simp only [sizeLine]; omega) (fun a ha R hR => ?_) (fun a _ _ R hR => ?_) ?_
  · have := hUlt a ha
    walk_at "go"
    refine get_end this ?_
    rw [List.getD_eq_getElem?_getD, List.getElem?_eq_getElem this, Option.getD_some] at hR
    exact g_kTruB hR
  · walk_at "go"
    exact hR
  rw [show ((U.filter fun s => ends.getD s false).map fun (a : Nat) => D.int (a : Int)) = natsD (U.filter fun s => ends.getD s false) from rfl]
  generalize hzs : (U.filter fun s => ends.getD s false) = zs
  have hzsE : ∀ e, e ∈ zs ↔ e ∈ U ∧ ends.getD e false = true := fun e => by rw [← hzs]; exact List.mem_filter
  walk_at "go"
  refine prow_to_ok (start := 0) (goals := [s]) M hpos (fun A e a C4 hK4 hCa he hen hrun hrow hlen => ?_) (fun C4 hK4 hno => absurd hsr (hno s (by simp)))
  have hes : e = s := by simpa using he
  subst hes
  walk_at "go"
  refine prow_to_ok M hsn (fun E x c C5 hK5 hCc hx hxn hrun2 hrow2 hlen2 => ?_) (fun C5 hK5 hno => absurd he3 (hno e0 ((hzsE e0).mpr ⟨(hU e0).mpr ⟨he1, htr hsr he3, e0, he1, he2, .base (by simp)⟩, he2⟩)))
  walk_at "go"
  exact k3 a c A B E C5 (((hK.trans hK3).trans hK4).trans hK5) (hK5 _ _ hCa) hCc ⟨e, x, hrun, hB1, hB3, hrun2, ((hzsE x).mp hx).2, hrow, hB2, hrow2, by omega, by omega, by omega⟩
/-! ### the law's own look -/
theorem lmet_ok (M : Mach sg ends goes) (k : ∀ C', AL.Keep C C' → P (.lst (natsD (rl ends.length (Reach (AL.Fw goes) [0])))) C') : s_law_met [machD ends goes] C P := by
  have hn := M.most
  have hpos := M.pos
  have hle := M.len
  unfold s_law_met a_law_met
  walk_at "go"
  simp only [aDisp, aPairs]
  walk_at "go"
  refine ⟨by simp, fun q hq => ?_⟩
  have hK0 := (AL.Keep.refl C).put (c := .dk (mergeD [] [(.inl 0, .bl true)])) hq
  have hq0 : (put C q (.dk (mergeD [] [(.inl 0, .bl true)]))) q = some (.dk [(nk 0, .bl true)]) := put_same
  generalize put C q (.dk (mergeD [] [(.inl 0, .bl true)])) = C0 at hK0 hq0
  walk_at "go"
  intro w hw
  have hqw : q ≠ w := ne_cell hq0 hw
  have hw0 := hK0.none hw
  have hK1 := hK0.put (c := .lst [.int 0]) hw0
  have hq1 := put_other (d := .lst [.int 0]) hqw hq0
  have hw1 : (put C0 w (.lst [.int 0])) w = some (.lst (natsD [0])) := put_same
  generalize put C0 w (.lst [.int 0]) = C1 at hK1 hq1 hw1
  walk_at "go"
  refine g_while (fun m st C' => ∃ (es : List (Key × D)) (L : List Nat) (j : Nat) (x4 : Option D), AL.Keep C C' ∧ C' q = some (.dk es) ∧ Ky es L ∧ C' w = some (.lst (natsD L)) ∧ L.Nodup ∧ (∀ a ∈ L, a < ends.length) ∧ (∀ a ∈ L, Reach (AL.Fw goes) [0] a) ∧ 0 ∈ L ∧ (∀ i, i < j → ∀ a, L[i]? = some a → ∀ b, AL.Fw goes a b → b ∈ L) ∧ j ≤ L.length ∧ m = ends.length - j ∧
    st = [some (machD ends goes), some (.ce q), some (.ce w), some (.int (j : Nat)), x4]) ends.length ⟨_, [0], 0, none, hK1, hq1, rfl, hw1, by simp, fun a ha => by rw [List.mem_singleton.mp ha]; exact hpos, fun a ha => .base ha, by simp, fun i hi => absurd hi (Nat.not_lt_zero _), by simp, by simp, rfl⟩ (fun m st C' hw => ?_)
  obtain ⟨es, L, j, x4, hK, hCq, hKy, hCw, hnd, hlt, hre, h0, hcl, hjl, rfl, rfl⟩ := hw
  have hLn := nodup_bound hnd hlt
  walk_at "go"
  rw [natsD_len]
  refine g_iteD (fun h => ?_) (fun h => ?_)
  · have hj : j < L.length := by omega
    walk_at "go"
    refine g_ixL (d := .int (L[j] : Nat)) (atI_nat' (by unfold natsD; rw [List.getElem?_map, List.getElem?_eq_getElem hj]; rfl)) ?_
    have hLj : L[j]? = some L[j] := List.getElem?_eq_getElem hj
    have haL : L[j] ∈ L := List.getElem_mem hj
    generalize L[j] = a at hLj haL
    have ha := hlt a haL
    have hag : a < goes.length := by omega
    refine get_goC hag ?_
    have hr : goes[a]? = some goes[a] := List.getElem?_eq_getElem hag
    generalize goes[a] = row at hr
    walk_at "go"
    refine g_kForL (fun i st C2 => ∃ (es : List (Key × D)) (N : List Nat) (x4 : Option D), AL.Keep C C2 ∧ C2 q = some (.dk es) ∧ Ky es (L ++ N) ∧ C2 w = some (.lst (natsD (L ++ N))) ∧ (L ++ N).Nodup ∧ (∀ a ∈ L ++ N, a < ends.length) ∧ (∀ a ∈ L ++ N, Reach (AL.Fw goes) [0] a) ∧ (∀ b, some b ∈ row.take i → b ∈ L ++ N) ∧
      st = [some (machD ends goes), some (.ce q), some (.ce w), some (.int (j : Nat)), x4]) ⟨es, [], x4, hK, hCq, by rw [List.append_nil]; exact hKy, by rw [List.append_nil]; exact hCw, by rw [List.append_nil]; exact hnd, by rw [List.append_nil]; exact hlt, by rw [List.append_nil]; exact hre, by simp, rfl⟩ (fun i d st C2 hi hw => ?_) (fun st C2 hw => ?_)
    · obtain ⟨es, N, x4, hK, hCq, hKy, hCw, hnd2, hlt2, hre2, hd2, rfl⟩ := hw
      rw [List.getElem?_map] at hi
      cases ei : row[i]? with
      | none => rw [ei] at hi; cases hi
      | some o =>
        rw [ei] at hi
        cases hi
        have ht : row.take (i + 1) = row.take i ++ [o] := by rw [List.take_add_one, ei]; rfl
        have hNn := nodup_bound hnd2 hlt2
        walk_at "go"
        refine g_ifS ?_
        walk_at "go"
        cases o with
        | none =>
          rw [show isNon (oD none) = true from rfl]
          walk_at "go"
          refine ⟨es, N, _, hK, hCq, hKy, hCw, hnd2, hlt2, hre2, fun b hb => ?_, rfl⟩
          rw [ht] at hb
          rcases List.mem_append.mp hb with z | z
          · exact hd2 b z
          · simp at z
        | some b =>
          have hFw : AL.Fw goes a b := ⟨row, hr, List.mem_of_getElem? ei⟩
          have hbn := (hFw.lt M).2
          rw [show isNon (oD (some b)) = false from rfl]
          walk_at "go"
          refine g_ninKn (n := b) rfl rfl hCq hKy (fun hb => ?_) (fun hb => ?_)
          · walk_at "go"
            refine ⟨es, N, _, hK, hCq, hKy, hCw, hnd2, hlt2, hre2, fun c hc => ?_, rfl⟩
            rw [ht] at hc
            rcases List.mem_append.mp hc with z | z
            · exact hd2 c z
            · have : c = b := by simpa using z
              rw [this]; exact hb
          · walk_at "go"
            refine g_putKv (n := b) rfl rfl hCq hKy (by omega) fun es' hKy' => ?_
            walk_at "go"
            refine g_append (put_other hqw.symm hCw) (by rw [natsD_len]; simp only [sizeLine]; omega) ?_
            walk_at "go"
            have ea : addN (L ++ N) b = L ++ (N ++ [b]) := by unfold addN; rw [if_neg hb, List.append_assoc]
            refine ⟨es', N ++ [b], _, (hK.put hq).put hw0, put_other hqw put_same, by rw [← ea]; exact hKy', by rw [put_same]; simp [natsD, oD], ?_, ?_, ?_, ?_, rfl⟩
            · rw [← List.append_assoc]
              refine List.nodup_append.mpr ⟨hnd2, by simp, fun x hx y hy z => hb ?_⟩
              rw [← List.mem_singleton.mp hy, ← z]; exact hx
            · intro c hc
              rw [← List.append_assoc] at hc
              rcases List.mem_append.mp hc with z | z
              · exact hlt2 c z
              · rw [List.mem_singleton.mp z]; exact hbn
            · intro c hc
              rw [← List.append_assoc] at hc
              rcases List.mem_append.mp hc with z | z
              · exact hre2 c z
              · rw [List.mem_singleton.mp z]; exact .step (hre a haL) hFw
            · intro c hc
              rw [← List.append_assoc]
              rw [ht] at hc
              rcases List.mem_append.mp hc with z | z
              · exact List.mem_append_left _ (hd2 c z)
              · have : c = b := by simpa using z
                rw [this]; simp
    · obtain ⟨es, N, x4, hK, hCq, hKy, hCw, hnd2, hlt2, hre2, hd2, rfl⟩ := hw
      rw [List.length_map, List.take_length] at hd2
      walk_at "go"
      refine ⟨ends.length - (j + 1), by omega, es, L ++ N, j + 1, _, hK, hCq, hKy, hCw, hnd2, hlt2, hre2, List.mem_append_left _ h0, fun i hi c hc b hb => ?_, by rw [List.length_append]; omega, rfl, rfl⟩
      by_cases e : i = j
      · subst e
        rw [List.getElem?_append_left hj, hLj] at hc
        cases hc
        obtain ⟨r', hr', hb'⟩ := hb
        rw [hr] at hr'
        cases hr'
        exact hd2 b hb'
      · rw [List.getElem?_append_left (by omega)] at hc
        exact List.mem_append_left _ (hcl i (by omega) c hc b hb)
  · have hjl2 : j = L.length := by omega
    refine g_frzL rfl hCw ?_
    walk_at "go"
    have hall : ∀ a, a ∈ L ↔ a < ends.length ∧ Reach (AL.Fw goes) [0] a := fun a => ⟨fun h => ⟨hlt a h, hre a h⟩, fun h => Reach.closed (fun x hx => by rw [List.mem_singleton.mp hx]; exact h0) (fun x hx y hy => by
      obtain ⟨i, hi, e⟩ := List.getElem_of_mem hx
      exact hcl i (by omega) x (by rw [List.getElem?_eq_getElem hi, e]) y hy) h.2⟩
    refine ⟨natsD L, L.map fun (n : Nat) => (n : Int), rfl, by unfold natsD; rw [List.map_map]; rfl, fun ys hp hs => ?_⟩
    rw [if_neg Bool.false_ne_true, sorted_rl hp hs hnd hall]
    exact k _ (hK.del hw0)
end
end A_k25

namespace A_k25
open PySem L2 AL
/-- how much is told in all -/
def vl (f : Nat → Option Nat) (s : Nat) : Nat := match f s with | none => 0 | some v => v + 1
def tot (f : Nat → Option Nat) (L : List Nat) : Nat := (L.map (vl f)).sum
theorem sum_le {h h' : Nat → Nat} : ∀ {L : List Nat}, (∀ x ∈ L, h x ≤ h' x) → (L.map h).sum ≤ (L.map h').sum
  | [], _ => Nat.le_refl _
  | a :: L, hl => by
    have h1 := hl a List.mem_cons_self
    have h2 := sum_le (L := L) fun x hx => hl x (List.mem_cons_of_mem _ hx)
    simp only [List.map_cons, List.sum_cons]
    omega
theorem sum_lt {h h' : Nat → Nat} {s : Nat} : ∀ {L : List Nat}, (∀ x ∈ L, h x ≤ h' x) → s ∈ L → h s < h' s → (L.map h).sum < (L.map h').sum
  | [], _, hs, _ => by cases hs
  | a :: L, hl, hs, hlt => by
    have h1 := hl a List.mem_cons_self
    have h2 := sum_le (L := L) fun x hx => hl x (List.mem_cons_of_mem _ hx)
    simp only [List.map_cons, List.sum_cons]
    rcases List.mem_cons.mp hs with z | z
    · subst z; omega
    · have := sum_lt (L := L) (fun x hx => hl x (List.mem_cons_of_mem _ hx)) z hlt
      omega
theorem sum_bd {h : Nat → Nat} {n : Nat} : ∀ {L : List Nat}, (∀ x ∈ L, h x ≤ n) → (L.map h).sum ≤ L.length * n
  | [], _ => by simp
  | a :: L, hl => by
    have h1 := hl a List.mem_cons_self
    have h2 := sum_bd (L := L) fun x hx => hl x (List.mem_cons_of_mem _ hx)
    simp only [List.map_cons, List.sum_cons, List.length_cons]
    rw [Nat.succ_mul]
    omega
section
variable {sg : Nat} {ends : List Bool} {goes : List (List (Option Nat))} {C : AH} {P : D → AH → Prop}
theorem longest_ok (M : Mach sg ends goes) {L : List Nat} (hLn : L.Nodup) (hcl : ∀ a ∈ L, ∀ b, AL.Fw goes a b → b ∈ L) (hL : ∀ a ∈ L, a < ends.length)
    (k1 : ∀ es KL f C', AL.Keep C C' → Mn es KL f → Fix ends goes L f → (∀ s v, f s = some v → s ∈ L ∧ Long ends goes s v) → P (.dk es) C') (k2 : ∀ C' x, AL.Keep C C' → Rng ends goes L x → P .non C') : s_law_longest [machD ends goes, .lst (natsD L)] C P := by
  have hn := M.most
  have hle := M.len
  have hl : L.length ≤ ends.length := nodup_bound hLn hL
  unfold s_law_longest a_law_longest
  walk_at "go"
  refine g_lcF (xs := L) (g := fun (a : Nat) => D.int (a : Int)) (f := fun (a : Nat) => D.tup [.int (a : Int), .int 0]) (fun s => ends.getD s false) (by simp only [sizeLine]; omega) (fun a ha R hR => ?_) (fun a _ _ R hR => ?_) ?_
  · have := hL a ha
    walk_at "go"
    refine get_end this ?_
    rw [List.getD_eq_getElem?_getD, List.getElem?_eq_getElem this, Option.getD_some] at hR
    exact g_kTruB hR
  · walk_at "go"
    exact hR
  generalize hzs : (L.filter fun s => ends.getD s false) = zs
  have hzsL : ∀ s ∈ zs, s ∈ L := fun s hs => by rw [← hzs] at hs; exact (List.mem_filter.mp hs).1
  have hzsE : ∀ s ∈ L, ends.getD s false = true → s ∈ zs := fun s hs he => by rw [← hzs]; exact List.mem_filter.mpr ⟨hs, he⟩
  walk_at "go"
  have e1 : (zs.map fun (s : Nat) => D.tup [.int (s : Int), .int 0]) = ((zs.map fun s => (nk s, D.int 0)).map fun e => D.tup [keyD e.1, e.2]) := by
    rw [List.map_map]
    rfl
  rw [e1]
  refine g_dictPM fun q hq => ?_
  have hMn : Mn (mergeD [] (zs.map fun s => (nk s, D.int 0))) (zs.foldl addN []) (fun m => if m ∈ zs then some 0 else none) := by
    have := Mp.merge (zs.map fun s => (s, D.int 0)) Mp.nil
    rw [List.map_map, List.map_map] at this
    refine ⟨?_, ?_, fun m => ?_⟩
    · have h := this.ky
      rw [show (zs.map ((fun x : Nat × D => x.1) ∘ fun s => (s, D.int 0))) = zs from (List.map_congr_left fun _ _ => rfl).trans (List.map_id _)] at h
      exact h
    · exact nodup_foldN _ List.nodup_nil
    · have h := this.at' m
      rw [fold_const] at h
      rw [show (zs.map ((fun x : Nat × D => (nk x.1, x.2)) ∘ fun s => (s, D.int 0))) = zs.map fun s => (nk s, D.int 0) from rfl] at h
      rw [h]
      by_cases hm : m ∈ zs
      · simp [hm]
      · simp [hm]
  have hE0 : ∀ s ∈ L, ends.getD s false = true → ((fun m => if m ∈ zs then some 0 else none : Nat → Option Nat) s).isSome = true := fun s hs he => by simp [hzsE s hs he]
  have hA0 : ∀ s v, (fun m => if m ∈ zs then some 0 else none : Nat → Option Nat) s = some v → s ∈ L ∧ Long ends goes s v ∧ v < L.length := fun s v hv => by
    by_cases hz : s ∈ zs
    · simp only [if_pos hz] at hv
      cases hv
      exact ⟨hzsL s hz, .fin (by rw [← hzs] at hz; exact (List.mem_filter.mp hz).2), List.length_pos_of_mem (hzsL s hz)⟩
    · simp only [if_neg hz] at hv
      cases hv
  generalize mergeD [] (zs.map fun s => (nk s, D.int 0)) = es0 at hMn
  generalize zs.foldl addN [] = KL0 at hMn
  generalize (fun m => if m ∈ zs then some 0 else none : Nat → Option Nat) = f0 at hMn hE0 hA0
  have hK0 := (AL.Keep.refl C).put (c := .dk es0) hq
  have hC0 : (put C q (.dk es0)) q = some (.dk es0) := put_same
  generalize put C q (.dk es0) = C0 at hK0 hC0
  have htot : ∀ f : Nat → Option Nat, (∀ s v, f s = some v → s ∈ L ∧ Long ends goes s v ∧ v < L.length) → tot f L ≤ L.length * L.length := fun f hf => sum_bd fun x _ => by
    unfold vl
    cases e : f x with
    | none => exact Nat.zero_le _
    | some v => have := (hf x v e).2.2; show v + 1 ≤ _; omega
  have hKlen : ∀ {es KL f}, Mn es KL f → (∀ s v, f s = some v → s ∈ L ∧ Long ends goes s v ∧ v < L.length) → KL.length ≤ ends.length := fun hM hA => nodup_bound hM.nd fun m hm => by
    have := (hM.mem m).mp hm
    rw [Option.isSome_map] at this
    obtain ⟨v, hv⟩ := Option.isSome_iff_exists.mp this
    exact hL m (hA m v hv).1
  walk_at "go"
  refine g_while (fun m st C' => ∃ (es : List (Key × D)) (KL : List Nat) (f : Nat → Option Nat) (g : Bool) (x2 x5 : Option D), AL.Keep C C' ∧ C' q = some (.dk es) ∧ Mn es KL f ∧ (∀ s v, f s = some v → s ∈ L ∧ Long ends goes s v ∧ v < L.length) ∧ (∀ s ∈ L, ends.getD s false = true → (f s).isSome = true) ∧
    (g = false → ∀ s ∈ L, ∀ b v, AL.Fw goes s b → f b = some v → ∃ u, f s = some u ∧ v < u) ∧ m = 2 * (L.length * L.length - tot f L) + (if g then 1 else 0) ∧
    st = [some (machD ends goes), some (.lst (natsD L)), x2, some (.ce q), some (.bl g), x5]) (2 * (L.length * L.length - tot f0 L) + 1) ⟨es0, KL0, f0, true, _, _, hK0, hC0, hMn, hA0, hE0, (fun z => nomatch z), rfl, rfl⟩ (fun m st C' hw => ?_)
  obtain ⟨es, KL, f, g, x2, x5, hK, hCq, hM, hA, hE, hF, rfl, rfl⟩ := hw
  walk_at "go"
  cases g with
  | false =>
    walk_at "go"
    refine g_frzK rfl hCq ?_
    walk_at "go"
    exact k1 es KL f _ (hK.del hq) hM ⟨hE, hF rfl⟩ fun s v h => ⟨(hA s v h).1, (hA s v h).2.1⟩
  | true =>
  walk_at "go"
  rw [show (natsD L).reverse = natsD L.reverse from (natsD_rev L).symm]
  refine g_kForL (fun i st C' => ∃ (es : List (Key × D)) (KL : List Nat) (f2 : Nat → Option Nat) (g : Bool) (x2 x5 : Option D), AL.Keep C C' ∧ C' q = some (.dk es) ∧ Mn es KL f2 ∧ (∀ s v, f2 s = some v → s ∈ L ∧ Long ends goes s v ∧ v < L.length) ∧ (∀ s ∈ L, ends.getD s false = true → (f2 s).isSome = true) ∧ tot f L ≤ tot f2 L ∧ (g = true → tot f L < tot f2 L) ∧
    (g = false → ∀ (j : Nat) s, j < i → L.reverse[j]? = some s → ∀ b v, AL.Fw goes s b → f2 b = some v → ∃ u, f2 s = some u ∧ v < u) ∧
    st = [some (machD ends goes), some (.lst (natsD L)), x2, some (.ce q), some (.bl g), x5]) ⟨es, KL, f, false, _, _, hK, hCq, hM, hA, hE, Nat.le_refl _, (fun z => nomatch z), (fun _ j s hj => absurd hj (Nat.not_lt_zero _)), rfl⟩ (fun i d st C' hi hw => ?_) (fun st C' hw => ?_)
  · obtain ⟨es, KL, f2, g, x2, x5, hK, hCq, hM, hA, hE, ht1, ht2, hF, rfl⟩ := hw
    obtain ⟨hil, rfl⟩ := natsD_get hi
    have hLi : L.reverse[i]? = some L.reverse[i] := List.getElem?_eq_getElem hil
    have hsL : L.reverse[i] ∈ L := List.mem_reverse.mp (List.getElem_mem hil)
    generalize L.reverse[i] = s at hLi hsL
    have hs := hL s hsL
    have hsg : s < goes.length := by omega
    walk_at "go"
    refine get_goC hsg ?_
    have hr : goes[s]? = some goes[s] := List.getElem?_eq_getElem hsg
    generalize goes[s] = row at hr
    walk_at "go"
    refine g_kForL (fun c st C' => ∃ (es : List (Key × D)) (KL : List Nat) (f2 : Nat → Option Nat) (g : Bool) (x5 : Option D), AL.Keep C C' ∧ C' q = some (.dk es) ∧ Mn es KL f2 ∧ (∀ s v, f2 s = some v → s ∈ L ∧ Long ends goes s v ∧ v < L.length) ∧ (∀ s ∈ L, ends.getD s false = true → (f2 s).isSome = true) ∧ tot f L ≤ tot f2 L ∧ (g = true → tot f L < tot f2 L) ∧
      (g = false → (∀ (j : Nat) s, j < i → L.reverse[j]? = some s → ∀ b v, AL.Fw goes s b → f2 b = some v → ∃ u, f2 s = some u ∧ v < u) ∧ ∀ b v, some b ∈ row.take c → f2 b = some v → ∃ u, f2 s = some u ∧ v < u) ∧
      st = [some (machD ends goes), some (.lst (natsD L)), some (.int (s : Nat)), some (.ce q), some (.bl g), x5]) ⟨es, KL, f2, g, _, hK, hCq, hM, hA, hE, ht1, ht2, fun hg => ⟨hF hg, fun b v hb => by simp at hb⟩, rfl⟩ (fun c d st C' hc hw => ?_) (fun st C' hw => ?_)
    · obtain ⟨es, KL, f2, g, x5, hK, hCq, hM, hA, hE, ht1, ht2, hF, rfl⟩ := hw
      rw [List.getElem?_map] at hc
      cases ei : row[c]? with
      | none => rw [ei] at hc; cases hc
      | some o =>
        rw [ei] at hc
        cases hc
        have htk : row.take (c + 1) = row.take c ++ [o] := by rw [List.take_add_one, ei]; rfl
        have hKl := hKlen hM hA
        have skip : (∀ v, o.bind f2 = some v → ∃ u, f2 s = some u ∧ v < u) → ∃ (es' : List (Key × D)) (KL : List Nat) (f2' : Nat → Option Nat) (g' : Bool) (x5 : Option D), AL.Keep C C' ∧ C' q = some (.dk es') ∧ Mn es' KL f2' ∧ (∀ s v, f2' s = some v → s ∈ L ∧ Long ends goes s v ∧ v < L.length) ∧ (∀ s ∈ L, ends.getD s false = true → (f2' s).isSome = true) ∧ tot f L ≤ tot f2' L ∧ (g' = true → tot f L < tot f2' L) ∧
            (g' = false → (∀ (j : Nat) s, j < i → L.reverse[j]? = some s → ∀ b v, AL.Fw goes s b → f2' b = some v → ∃ u, f2' s = some u ∧ v < u) ∧ ∀ b v, some b ∈ row.take (c + 1) → f2' b = some v → ∃ u, f2' s = some u ∧ v < u) ∧
            [some (machD ends goes), some (.lst (natsD L)), some (.int (s : Nat)), some (.ce q), some (.bl g), some (oD o)] = [some (machD ends goes), some (.lst (natsD L)), some (.int (s : Nat)), some (.ce q), some (.bl g'), x5] := fun h =>
          ⟨es, KL, f2, g, _, hK, hCq, hM, hA, hE, ht1, ht2, fun hg => ⟨(hF hg).1, fun b v hb hv => by
            rw [htk] at hb
            rcases List.mem_append.mp hb with z | z
            · exact (hF hg).2 b v z hv
            · have : o = some b := (List.mem_singleton.mp z).symm
              exact h v (by rw [this]; exact hv)⟩, rfl⟩
        refine g_ifS ?_
        walk_at "go"
        refine g_kInN (lookD_oD hCq hM) ?_
        rw [if_neg Bool.false_ne_true]
        have hbs : (o.bind fun m => (f2 m).map fun (v : Nat) => D.int (v : Int)).isSome = (o.bind f2).isSome := by cases o with | none => rfl | some b => simp
        rw [hbs]
        walk_at "go"
        cases hob : o.bind f2 with
        | none =>
          walk_at "go"
          exact skip (fun v hv => by rw [hob] at hv; cases hv)
        | some v =>
          obtain ⟨b, rfl⟩ : ∃ b, o = some b := by cases o with | none => cases hob | some b => exact ⟨b, rfl⟩
          have hfb : f2 b = some v := hob
          rw [if_pos (show (some v).isSome = true from rfl)]
          walk_at "go"
          refine g_kGet2 (asK_ce hCq) ?_
          walk_at "go"
          refine g_kGet2' (asK_ce hCq) (show AL.keyOf (.int (s : Int)) = some (nk s) from rfl) ?_
          rw [hM.at']
          walk_at "go"
          have hgetb : ∀ R : D → AH → Prop, R (.int (v : Int)) C' → aGetK (aVar 3) (aVar 5) [some (machD ends goes), some (.lst (natsD L)), some (.int (s : Nat)), some (.ce q), some (.bl g), some (oD (some b))] C' R := fun R hR => by
            refine g_getK (g_var rfl (g_var rfl ?_))
            exact g_kGetK (asK_ce hCq) (show AL.keyOf (oD (some b)) = some (nk b) from rfl) (by rw [hM.at', hfb]; rfl) hR
          have hLs : Long ends goes s (v + 1) := .step ⟨row, hr, List.mem_of_getElem? ei⟩ (hA b v hfb).2.1
          have hv := (hA b v hfb).2.2
          obtain ⟨x, hx1, hx2⟩ : ∃ x : Int, (((f2 s).map fun (v : Nat) => D.int (v : Int)).getD (.int (-1))) = .int x ∧ (x ≤ (v : Int) ↔ ∀ w, f2 s = some w → w ≤ v) := by
            cases hfs : f2 s with
            | none => exact ⟨-1, rfl, ⟨fun _ w h => (nomatch h), fun _ => by omega⟩⟩
            | some u => exact ⟨u, rfl, ⟨fun h w hw => (by cases hw; omega), fun h => (by have := h u rfl; omega)⟩⟩
          rw [hx1]
          refine hgetb _ ?_
          walk_at "go"
          by_cases hw : ∀ w, f2 s = some w → w ≤ v
          · rw [decide_eq_true (hx2.mpr hw)]
            walk_at "go"
            refine g_putKG ?_
            walk_at "go"
            refine hgetb _ ?_
            walk_at "go"
            refine g_kPutKG hCq (show AL.keyOf (.int (s : Int)) = some (nk s) from rfl) (by rw [hM.ky.len]; simp only [sizeLine]; omega) ?_
            rw [show (v : Int) + 1 = ((v + 1 : Nat) : Int) by omega]
            have hK' := hK.put (c := .dk (putD es (nk s) (.int ((v + 1 : Nat) : Int)))) hq
            have hCq' : (put C' q (.dk (putD es (nk s) (.int ((v + 1 : Nat) : Int))))) q = some (.dk (putD es (nk s) (.int ((v + 1 : Nat) : Int)))) := put_same
            have hM' := hM.put s (v + 1)
            generalize put C' q (.dk (putD es (nk s) (.int ((v + 1 : Nat) : Int)))) = C4 at hK' hCq'
            generalize putD es (nk s) (.int ((v + 1 : Nat) : Int)) = es4 at hCq' hM'
            have hvs : ((fun m => if m = s then some (v + 1) else f2 m : Nat → Option Nat) s) = some (v + 1) := by simp
            walk_at "go"
            refine g_ifS ?_
            walk_at "go"
            refine g_getK ?_
            walk_at "go"
            refine g_kGetK (d := .int ((v + 1 : Nat) : Int)) (asK_ce hCq') (show AL.keyOf (.int (s : Int)) = some (nk s) from rfl) (by rw [hM'.at', hvs]; rfl) ?_
            walk_at "go"
            rw [natsD_len]
            refine g_iteD (fun hfull => ?_) (fun hfull => ?_)
            · walk_at "go"
              obtain ⟨x, hx⟩ := ring_long hcl hLs [] List.nodup_nil (by simp) (by simp) hsL (by rw [List.length_nil]; omega)
              exact k2 C4 x hK' hx
            · walk_at "go"
              have hle' : ∀ x ∈ L, vl f2 x ≤ vl (fun m => if m = s then some (v + 1) else f2 m) x := fun x _ => by
                unfold vl
                by_cases e : x = s
                · subst e
                  simp only [if_pos]
                  cases hfs : f2 x with
                  | none => exact Nat.zero_le _
                  | some w => have := hw w hfs; show w + 1 ≤ v + 1 + 1; omega
                · simp only [if_neg e]; exact Nat.le_refl _
              have hlt' : vl f2 s < vl (fun m => if m = s then some (v + 1) else f2 m) s := by
                unfold vl
                simp only [if_pos]
                cases hfs : f2 s with
                | none => show 0 < v + 1 + 1; omega
                | some w => have := hw w hfs; show w + 1 < v + 1 + 1; omega
              have htt : tot f2 L < tot (fun m => if m = s then some (v + 1) else f2 m) L := sum_lt hle' hsL hlt'
              refine ⟨es4, _, fun m => if m = s then some (v + 1) else f2 m, true, _, hK', hCq', hM', fun x w hx => ?_, fun x hx he => ?_, by omega, fun _ => by omega, fun z => (nomatch z), rfl⟩
              · by_cases e : x = s
                · simp only [if_pos e] at hx
                  cases hx
                  subst e
                  exact ⟨hsL, hLs, by omega⟩
                · simp only [if_neg e] at hx
                  exact hA x w hx
              · by_cases e : x = s
                · simp [e]
                · simp only [if_neg e]; exact hE x hx he
          · rw [decide_eq_false (fun z => hw (hx2.mp z))]
            walk_at "go"
            refine skip (fun v' hv' => ?_)
            have : f2 b = some v' := hv'
            rw [hfb] at this
            cases this
            cases hfs : f2 s with
            | none => exact absurd (fun w h => by rw [hfs] at h; cases h) hw
            | some u =>
              refine ⟨u, rfl, ?_⟩
              by_cases z : u ≤ v
              · exact absurd (fun w h => by rw [hfs] at h; cases h; exact z) hw
              · omega
    · obtain ⟨es, KL, f2, g, x5, hK, hCq, hM, hA, hE, ht1, ht2, hF, rfl⟩ := hw
      rw [List.length_map, List.take_length] at hF
      refine ⟨es, KL, f2, g, _, _, hK, hCq, hM, hA, hE, ht1, ht2, fun hg j t hj ht b v hFw hfb => ?_, rfl⟩
      by_cases e : j = i
      · subst e
        rw [hLi] at ht
        cases ht
        obtain ⟨r2, g1, g2⟩ := hFw
        rw [hr] at g1
        cases g1
        exact (hF hg).2 b v g2 hfb
      · exact (hF hg).1 j t (by omega) ht b v hFw hfb
  · obtain ⟨es, KL, f2, g, x2, x5, hK, hCq, hM, hA, hE, ht1, ht2, hF, rfl⟩ := hw
    rw [natsD_len] at hF
    have hb2 := htot f2 hA
    refine ⟨2 * (L.length * L.length - tot f2 L) + (if g then 1 else 0), ?_, es, KL, f2, g, _, _, hK, hCq, hM, hA, hE, fun hg s hs => ?_, rfl, rfl⟩
    · generalize L.length * L.length = Q at hb2 ⊢
      cases g with
      | true => have := ht2 rfl; simp only [if_pos]; omega
      | false => simp only [if_pos]; rw [if_neg Bool.false_ne_true]; omega
    · obtain ⟨j, hj, e⟩ := List.getElem_of_mem (List.mem_reverse.mpr hs)
      exact hF hg j s hj (by rw [List.getElem?_eq_getElem hj, e])
end
end A_k25

namespace A_k25
open PySem L2 AL
theorem g_cutDropT {C : AH} {P : D → AH → Prop} {us : List D} {j : Nat} (h0 : P (.tup (us.drop j)) C) : aCut (.tup us) (some (j : Int)) none C P := by
  show P (.tup (cutD us (some (j : Int)) none)) C
  rw [cutD_drop]; exact h0
theorem g_forNl {ab : AS'} {nx : ASt → AH → Prop} {rt : D → AH → Prop} {s : ASt} {j : Nat} {C : AH} {d : D} {L : List Nat} (W : Nat → ASt → Prop) (h : Nl C d L) (h0 : W 0 s)
    (hs : ∀ (i : Nat) s', (hi : i < L.length) → W i s' → ab ⟨fun s2 C2 => C2 = C ∧ W (i + 1) s2, rt, nx, fun s2 C2 => C2 = C ∧ W (i + 1) s2⟩ (s'.set j (some (.int (L[i] : Nat)))) C) (hd : ∀ s', W L.length s' → nx s' C) : kIL (kFor (aGName j) ab nx rt s) d C := by
  have key : ∀ hold : AH → Prop, hold C → kFor (aGName j) ab nx rt s (natsD L) hold C := fun hold hh => by
    refine g_kForH (fun i st C' => C' = C ∧ W i st) ⟨rfl, h0⟩ (fun i s' C' _ hw => by rw [hw.1]; exact hh) (fun i d s' C' hi hw => ?_) (fun s' C' hw => ?_)
    · obtain ⟨rfl, hw⟩ := hw
      obtain ⟨hil, rfl⟩ := natsD_get hi
      exact hs i s' hil hw
    · obtain ⟨rfl, hw⟩ := hw
      rw [natsD_len] at hw
      exact hd s' hw
  rcases h with rfl | ⟨q, rfl, hq⟩
  · exact g_kILl (key _ trivial)
  · exact g_kILc hq (key _ hq) (fun _ _ m h => kFor_mono m h)
section
variable {sg : Nat} {ends : List Bool} {goes : List (List (Option Nat))} {C : AH} {P : D → AH → Prop}
theorem lgone_ok (M : Mach sg ends goes) {s : Option Nat} {row : List Nat} {d : D} (hd : Nl C d row) (hs : inn ends.length s) (hr : ∀ n ∈ row, n < sg) (k : P (oD (runO goes s row)) C) : s_law_gone [machD ends goes, oD s, d] C P := by
  unfold s_law_gone a_law_gone
  walk_at "go"
  refine g_forNl (fun i st => ∃ l, st = [some (machD ends goes), some (oD (runO goes s (row.take i))), some d, l]) hd ⟨_, rfl⟩ (fun i st hi hw => ?_) (fun st hw => ?_)
  · obtain ⟨l, rfl⟩ := hw
    rw [runO_take hi]
    have hin := M.run (row.take i) hs fun n hn => hr n (List.mem_of_mem_take hn)
    have hn : row[i] < sg := hr _ (List.getElem_mem hi)
    generalize runO goes s (row.take i) = u at hin
    cases u with
    | none =>
      refine g_ifF (fun K hK => ?_) ?_
      · walk_at "go"; exact hK
      walk_at "go"
      exact ⟨rfl, _, rfl⟩
    | some u =>
      refine g_ifT (fun K hK => ?_) ?_
      · walk_at "go"; exact hK
      walk_at "go"
      refine get_go M (hin u rfl) hn fun r hg hl2 => ?_
      walk_at "go"
      rw [stepO_some hg (by rw [hl2]; exact hn)]
      refine get_in (by rw [hl2]; exact hn) ?_
      walk_at "go"
      exact ⟨rfl, _, rfl⟩
  · obtain ⟨l, rfl⟩ := hw
    walk_at "go"
    rw [List.take_length]
    exact k
theorem is_row_ok (M : Mach sg ends goes) {row : List Nat} {d : D} (hd : Nl C d row) (hr : ∀ n ∈ row, n < sg) (hl : row.length ≤ ends.length) (k : P (.bl true) C) : s_law_is_row [machD ends goes, d] C P := by
  have hpos := M.pos
  have hle := M.len
  have h0R : 0 < goes.length := by omega
  unfold s_law_is_row a_law_is_row
  walk_at "go"
  refine g_ifS ?_
  walk_at "go"
  refine g_kIsi hd.kind.1 ?_
  rw [show isT "list" "list" = true from rfl]
  walk_at "go"
  refine lenT' hd.kind.1 hd.kind.2 ?_
  walk_at "go"
  rw [natsD_len, List.length_map, decide_eq_false (by omega)]
  walk_at "go"
  refine g_forNl (fun i st => ∃ l, st = [some (machD ends goes), some d, l]) hd ⟨_, rfl⟩ (fun i st hi hw => ?_) (fun st hw => ?_)
  · obtain ⟨l, rfl⟩ := hw
    have hn : row[i] < sg := hr _ (List.getElem_mem hi)
    refine g_ifS ?_
    walk_at "go"
    refine get_goC (u := 0) h0R ?_
    walk_at "go"
    rw [List.length_map, M.row _ (List.getElem_mem h0R), decide_eq_true (by omega)]
    show aNext _ _ _
    walk_at "go"
    exact ⟨rfl, _, rfl⟩
  · obtain ⟨l, rfl⟩ := hw
    walk_at "go"
    exact k
theorem round_ok (M : Mach sg ends goes) {A B E : List Nat} {a c : Addr} (ha : C a = some (.lst (natsD A))) (hc : C c = some (.lst (natsD E))) (hR : Rnd sg ends goes A B E) (k : P (.bl true) C) : s_law_goes_round [machD ends goes, .tup [.str "endless", .ce a, .lst (natsD B), .ce c]] C P := by
  obtain ⟨s, e, r1, hB, r2, r3, he, sA, sB, sE, lA, lB, lE⟩ := hR
  have hpos := M.pos
  have hin0 : inn ends.length (some 0) := fun t ht => by cases ht; exact hpos
  have hs : inn ends.length (some s) := by rw [← r1]; exact M.run A hin0 sA
  have hen : e < ends.length := by
    have := M.run E hs sE
    rw [r3] at this
    exact this e rfl
  unfold s_law_goes_round a_law_goes_round
  walk_at "go"
  refine g_ifS ?_
  walk_at "go"
  rw [show decide (((([D.str "endless", D.ce a, D.lst (natsD B), D.ce c] : List D).length : Nat) : Int) = 4) = true from rfl]
  walk_at "go"
  rw [decide_eq_true rfl]
  walk_at "go"
  refine g_eqNatsF ?_
  walk_at "go"
  rw [show B.isEmpty = false by cases B with | nil => exact absurd rfl hB | cons _ _ => rfl]
  walk_at "go"
  refine g_ifS ?_
  walk_at "go"
  refine g_cutDropT (j := 1) ?_
  walk_at "go"
  refine g_kLc (fun i acc C' => acc = List.replicate i (.bl true) ∧ C' = C) (by simp [sizeLine]) ⟨rfl, rfl⟩ (fun i x acc C' hx hw => ?_) (fun acc C' hw => ?_)
  · obtain ⟨rfl, rfl⟩ := hw
    obtain ⟨row, h1, h2, h3⟩ : ∃ row, Nl C' x row ∧ (∀ n ∈ row, n < sg) ∧ row.length ≤ ends.length := by
      match i, hx with
      | 0, hx => cases hx; exact ⟨A, .inr ⟨a, rfl, ha⟩, sA, lA⟩
      | 1, hx => cases hx; exact ⟨B, .inl rfl, sB, lB⟩
      | 2, hx => cases hx; exact ⟨E, .inr ⟨c, rfl, hc⟩, sE, lE⟩
      | i + 3, hx => simp at hx
    walk_at "go"
    refine is_row_ok M h1 h2 h3 ?_
    exact ⟨by rw [List.replicate_succ'], rfl⟩
  obtain ⟨rfl, rfl⟩ := hw
  walk_at "go"
  refine g_all (bls_rep _) ?_
  rw [show (List.replicate ([D.str "endless", D.ce a, D.lst (natsD B), D.ce c].drop 1).length true).all id = true from rfl]
  walk_at "go"
  refine lgone_ok (s := some 0) M (.inr ⟨a, rfl, ha⟩) hin0 sA ?_
  rw [r1]
  walk_at "go"
  refine g_ifS ?_
  walk_at "go"
  rw [show AL.isNon (oD (some s)) = false from rfl]
  walk_at "go"
  refine lgone_ok (s := some s) M (.inl rfl) hs sB ?_
  rw [r2]
  walk_at "go"
  refine g_neII ?_
  rw [decide_eq_true rfl]
  walk_at "go"
  refine lgone_ok (s := some s) M (.inr ⟨c, rfl, hc⟩) hs sE ?_
  rw [r3]
  walk_at "go"
  rw [show AL.isNon (oD (some e)) = false from rfl]
  refine g_kAnd (fun _ => ?_) (fun h => by cases h)
  walk_at "go"
  refine get_end hen ?_
  rw [List.getD_eq_getElem?_getD, List.getElem?_eq_getElem hen, Option.getD_some] at he
  rw [he]
  exact k
/-! ### ranks, told twice -/
theorem fix_long {L : List Nat} {f : Nat → Option Nat} (hF : Fix ends goes L f) (hcl : ∀ a ∈ L, ∀ b, AL.Fw goes a b → b ∈ L) {s v : Nat} (h : Long ends goes s v) : s ∈ L → ∃ u, f s = some u ∧ v ≤ u := by
  induction h with
  | fin he => intro hs; obtain ⟨u, hu⟩ := Option.isSome_iff_exists.mp (hF.1 _ hs he); exact ⟨u, hu, Nat.zero_le _⟩
  | step h _ ih =>
    intro hs
    obtain ⟨u, hu, hle⟩ := ih (hcl _ hs _ h)
    obtain ⟨w, hw, hlt⟩ := hF.2 _ hs _ u h hu
    exact ⟨w, hw, by omega⟩
theorem Long.alive (M : Mach sg ends goes) {s v : Nat} (h : Long ends goes s v) : Alive ends goes s := by
  induction h with
  | @fin s he =>
    have : s < ends.length := by
      by_cases z : s < ends.length
      · exact z
      · rw [List.getD_eq_getElem?_getD, List.getElem?_eq_none (by omega)] at he; cases he
    exact ⟨s, this, he, .base (by simp)⟩
  | step h _ ih =>
    obtain ⟨e, h1, h2, h3⟩ := ih
    exact ⟨e, h1, h2, Reach.head h h3⟩
theorem rk_upper (M : Mach sg ends goes) {U : List Nat} (hU : IsU ends goes U) {f : Nat → Option Nat} (hR : Rk ends goes U f) {s m : Nat} (h : Long ends goes s m) : s ∈ U → ∃ u, f s = some u ∧ m ≤ u := by
  induction h with
  | fin he => intro hs; obtain ⟨u, hu⟩ := hR.2 _ hs; exact ⟨u, hu, Nat.zero_le _⟩
  | @step s b v h hl ih =>
    intro hs
    obtain ⟨h1, h2, _⟩ := (hU.2 s).mp hs
    have hb : b ∈ U := (hU.2 b).mpr ⟨(h.lt M).2, .step h2 h, hl.alive M⟩
    obtain ⟨w, hw, hle⟩ := ih hb
    obtain ⟨u, hu⟩ := hR.2 s hs
    obtain ⟨v', hv', hlt⟩ := (hR.1 s u hu).2.2.2 b hb h
    rw [hw] at hv'
    cases hv'
    exact ⟨u, hu, by omega⟩
theorem rk_long (M : Mach sg ends goes) {U : List Nat} (hU : IsU ends goes U) {f : Nat → Option Nat} (hR : Rk ends goes U f) : ∀ (n s u : Nat), u ≤ n → f s = some u → Long ends goes s u := by
  intro n
  induction n with
  | zero =>
    intro s u hn hu
    have : u = 0 := by omega
    subst this
    obtain ⟨hs, _, _, h3⟩ := hR.1 s 0 hu
    obtain ⟨h1, h2, e, g1, g2, g3⟩ := (hU.2 s).mp hs
    refine .fin ?_
    cases q : ends.getD s false with
    | true => rfl
    | false =>
      exfalso
      have key : ∀ x, Reach (AL.Fw goes) [s] x → x = s ∨ ∃ b, AL.Fw goes s b ∧ Reach (AL.Fw goes) [b] x := fun x hx => by
        induction hx with
        | base h => exact .inl (List.mem_singleton.mp h)
        | step _ h ih =>
          rcases ih with z | ⟨b, z1, z2⟩
          · subst z; exact .inr ⟨_, h, .base (by simp)⟩
          · exact .inr ⟨b, z1, .step z2 h⟩
      rcases key e g3 with z | ⟨b, z1, z2⟩
      · rw [z, q] at g2; cases g2
      · have hb : b ∈ U := (hU.2 b).mpr ⟨(z1.lt M).2, .step h2 z1, e, g1, g2, z2⟩
        obtain ⟨v, _, hlt⟩ := h3 b hb z1
        omega
  | succ n ih =>
    intro s u hn hu
    by_cases z : u ≤ n
    · exact ih s u z hu
    · obtain ⟨hs, _, hw, _⟩ := hR.1 s u hu
      rcases hw with z | ⟨b, v, hb, hF, hv, e⟩
      · omega
      · rw [e]; exact .step hF (ih b v (by omega) hv)
theorem back_long {b y m : Nat} (h : Reach (AL.Fw goes) [b] y) : ∀ {m}, Long ends goes y m → ∃ m', m ≤ m' ∧ Long ends goes b m' := by
  induction h with
  | base h => intro m hm; rw [List.mem_singleton.mp h] at hm; exact ⟨m, Nat.le_refl _, hm⟩
  | step _ h ih =>
    intro m hm
    obtain ⟨m', h1, h2⟩ := ih (.step h hm)
    exact ⟨m', by omega, h2⟩
theorem rng_long {L : List Nat} {x : Nat} (h : Rng ends goes L x) : ∀ n, ∃ m, n ≤ m ∧ Long ends goes x m := by
  obtain ⟨hx, ⟨b, h1, h2⟩, e, he, hxe, hend⟩ := h
  intro n
  induction n with
  | zero =>
    obtain ⟨m, _, h⟩ := back_long (m := 0) hxe (.fin hend)
    exact ⟨m, Nat.zero_le _, h⟩
  | succ n ih =>
    obtain ⟨m, g1, g2⟩ := ih
    obtain ⟨m', g3, g4⟩ := back_long (m := 0) h2 g2
    exact ⟨m' + 1, by omega, .step h1 g4⟩
theorem rk_no_ring (M : Mach sg ends goes) {U L : List Nat} (hL : ∀ a, a ∈ L ↔ a < ends.length ∧ Reach (AL.Fw goes) [0] a) (hU : IsU ends goes U) {f : Nat → Option Nat} (hR : Rk ends goes U f) {x : Nat} (h : Rng ends goes L x) : False := by
  have hl := rng_long h
  obtain ⟨m0, _, hm0⟩ := hl 0
  have hx := (hL x).mp h.1
  have hxU : x ∈ U := (hU.2 x).mpr ⟨hx.1, hx.2, hm0.alive M⟩
  obtain ⟨u, hu⟩ := hR.2 x hxU
  obtain ⟨m, h1, h2⟩ := hl (u + 1)
  obtain ⟨u', hu', h3⟩ := rk_upper M hU hR h2 hxU
  rw [hu] at hu'
  cases hu'
  omega
/-- the law's numbers are the ranks -/
theorem rk_eq (M : Mach sg ends goes) {U L : List Nat} (hL : ∀ a, a ∈ L ↔ a < ends.length ∧ Reach (AL.Fw goes) [0] a) (hU : IsU ends goes U) {f g : Nat → Option Nat} (hR : Rk ends goes U f) (hF : Fix ends goes L g) (hA : ∀ s v, g s = some v → s ∈ L ∧ Long ends goes s v) (s : Nat) : f s = g s := by
  have hcl : ∀ a ∈ L, ∀ b, AL.Fw goes a b → b ∈ L := fun a ha b hb => (hL b).mpr ⟨(hb.lt M).2, .step ((hL a).mp ha).2 hb⟩
  cases hf : f s with
  | some u =>
    have hs := (hR.1 s u hf).1
    have hsL : s ∈ L := (hL s).mpr ⟨((hU.2 s).mp hs).1, ((hU.2 s).mp hs).2.1⟩
    obtain ⟨w, hw, h1⟩ := fix_long hF hcl (rk_long M hU hR u s u (Nat.le_refl _) hf) hsL
    obtain ⟨u', hu', h2⟩ := rk_upper M hU hR (hA s w hw).2 hs
    rw [hf] at hu'
    cases hu'
    rw [hw]
    congr 1
    omega
  | none =>
    cases hg : g s with
    | none => rfl
    | some v =>
      obtain ⟨h1, h2⟩ := hA s v hg
      have hs : s ∈ U := (hU.2 s).mpr ⟨((hL s).mp h1).1, ((hL s).mp h1).2, h2.alive M⟩
      obtain ⟨u, hu⟩ := hR.2 s hs
      rw [hf] at hu
      cases hu
/-- a way round is a ring -/
theorem run_reach (M : Mach sg ends goes) : ∀ (B : List Nat) (s t : Nat), runO goes (some s) B = some t → Reach (AL.Fw goes) [s] t ∧ (B ≠ [] → ∃ b, AL.Fw goes s b ∧ Reach (AL.Fw goes) [b] t)
  | [], s, t, h => by cases h; exact ⟨.base (by simp), fun z => absurd rfl z⟩
  | x :: B, s, t, h => by
    have h : runO goes (stepO goes (some s) x) B = some t := h
    cases e : stepO goes (some s) x with
    | none =>
      rw [e] at h
      have : ∀ w, runO goes none w = none := fun w => by induction w with | nil => rfl | cons _ _ ih => exact ih
      rw [this] at h
      cases h
    | some b =>
      rw [e] at h
      have hF : AL.Fw goes s b := by
        have e : (match goes[s]? with | some r => (match r[x]? with | some o => o | none => none) | none => none) = some b := e
        cases q : goes[s]? with
        | none => rw [q] at e; cases e
        | some r =>
          rw [q] at e
          have e : (match r[x]? with | some o => o | none => none) = some b := e
          cases q2 : r[x]? with
          | none => rw [q2] at e; cases e
          | some o =>
            rw [q2] at e
            have e : o = some b := e
            subst e
            exact ⟨r, q, List.mem_of_getElem? q2⟩
      have := (run_reach M B b t h).1
      exact ⟨Reach.head hF this, fun _ => ⟨b, hF, this⟩⟩
theorem rnd_ring (M : Mach sg ends goes) {L : List Nat} (hL : ∀ a, a ∈ L ↔ a < ends.length ∧ Reach (AL.Fw goes) [0] a) {A B E : List Nat} (h : Rnd sg ends goes A B E) : ∃ x, Rng ends goes L x := by
  obtain ⟨s, e, r1, hB, r2, r3, he, sA, sB, sE, _⟩ := h
  have h0 := (run_reach M A 0 s r1).1
  obtain ⟨b, h1, h2⟩ := (run_reach M B s s r2).2 hB
  have h3 := (run_reach M E s e r3).1
  have hlt : ∀ {a c}, Reach (AL.Fw goes) [a] c → a < ends.length → c < ends.length := fun h ha => by
    induction h with
    | base h => rw [List.mem_singleton.mp h]; exact ha
    | step _ h _ => exact (h.lt M).2
  have hs : s < ends.length := hlt h0 M.pos
  have htr : ∀ {a b c}, Reach (AL.Fw goes) [a] b → Reach (AL.Fw goes) [b] c → Reach (AL.Fw goes) [a] c := fun h1 h2 => by
    induction h2 with
    | base h => rw [List.mem_singleton.mp h]; exact h1
    | step _ h ih => exact .step ih h
  exact ⟨s, (hL s).mpr ⟨hs, h0⟩, ⟨b, h1, h2⟩, e, (hL e).mpr ⟨hlt h3 hs, htr h0 h3⟩, h3, he⟩
end
end A_k25

namespace A_k25
open PySem L2 AL
theorem rangeD_nats' (n : Nat) : rangeD 0 n = (List.range n).map fun (j : Nat) => D.int (j : Int) := by
  exact rangeD_nats n
theorem chain_ok {p : Addr} {C : AH} {P : D → AH → Prop} (hp : Pen C p)
    (k : ∀ ends goes C', Mach 1 ends goes → P (machD ends goes) C') : s_law_chain [.ce p] C P := by
  unfold s_law_chain a_law_chain
  walk_at "go"
  refine take_nat (m := 900) hp (by omega) (by omega) fun c d hc hd => ?_
  have hP := pen_put (C := C) (p := p) hc
  generalize AL.put C p c = C1 at hP
  walk_at "go"
  rw [show (100 : Int) + (d : Int) = ((100 + d : Nat) : Int) by omega]
  obtain ⟨m, hm, hm1, hm2⟩ : ∃ m, m = 100 + d ∧ 100 ≤ m ∧ m ≤ 999 := ⟨_, rfl, by omega, by omega⟩
  rw [← hm]
  walk_at "go"
  rw [show ((m : Nat) : Int).toNat = m by omega, rangeD_nats']
  refine g_lcG (xs := List.range m) (g := fun (j : Nat) => D.int (j : Int)) (f := fun (j : Nat) => D.lst ([some (j + 1)].map oD)) (by rw [List.length_range]; simp only [sizeLine]; omega) (fun j hj Q hQ => ?_) ?_
  · walk_at "go"
    exact hQ
  intro g hg
  have hpg : p ≠ g := by obtain ⟨_, h, _⟩ := hP; exact ne_cell h hg
  have hP1 := hP.other (c := .lst ((List.range m).map fun (j : Nat) => D.lst ([some (j + 1)].map oD))) hpg
  have hg1 : (AL.put C1 g (.lst ((List.range m).map fun (j : Nat) => D.lst ([some (j + 1)].map oD)))) g = some (.lst ((List.range m).map fun (j : Nat) => D.lst ([some (j + 1)].map oD))) := put_same
  generalize AL.put C1 g (.lst ((List.range m).map fun (j : Nat) => D.lst ([some (j + 1)].map oD))) = C2 at hP1 hg1
  walk_at "go"
  rw [show ((m : Nat) : Int) / 2 = ((m / 2 : Nat) : Int) by omega]
  refine take_nat (m := m / 2) hP1 (by omega) (by omega) fun c t hc ht => ?_
  have hP2 := pen_put (C := C2) (p := p) hc
  have hg2 := put_other (d := c) hpg.symm hg1
  generalize AL.put C2 p c = C3 at hP2 hg2
  walk_at "go"
  refine take_nat (m := 2) hP2 (by omega) (by omega) fun c u hc hu => ?_
  have hg3 := put_other (d := c) hpg.symm hg2
  generalize AL.put C3 p c = C4 at hg3
  have ho : ∃ o : Option Nat, atI [D.non, D.int (t : Nat)] (u : Int) = some (oD o) ∧ ∀ b, o = some b → b < m := by
    have : u = 0 ∨ u = 1 := by omega
    rcases this with rfl | rfl
    · exact ⟨none, rfl, fun b h => by cases h⟩
    · exact ⟨some t, rfl, fun b h => by cases h; omega⟩
  obtain ⟨o, ho, hob⟩ := ho
  refine g_ixL ho ?_
  walk_at "go"
  rw [show ((m : Nat) : Int) - 1 = ((m - 1 : Nat) : Int) by omega]
  refine g_kSet (k := m - 1) hg3 (by rw [List.length_map, List.length_range]; exact ixN_nat (by omega)) ?_
  rw [show (((List.range m).map fun (j : Nat) => D.lst ([some (j + 1)].map oD)).set (m - 1) (D.lst [oD o])) = (((List.range m).map fun (j : Nat) => [some (j + 1)]).set (m - 1) [o]).map fun r => D.lst (r.map oD) by rw [List.map_set, List.map_map]; rfl]
  refine g_frzL rfl put_same ?_
  walk_at "go"
  rw [show ((m : Nat) : Int).toNat = m by omega, rangeD_nats']
  refine g_lcG (xs := List.range m) (g := fun (j : Nat) => D.int (j : Int)) (f := fun (j : Nat) => D.bl (decide ((j : Int) = (m : Int) - 1))) (by rw [List.length_range]; simp only [sizeLine]; omega) (fun j hj Q hQ => ?_) ?_
  · walk_at "go"
    exact hQ
  walk_at "go"
  have := k ((List.range m).map fun (j : Nat) => decide ((j : Int) = (m : Int) - 1)) (((List.range m).map fun (j : Nat) => [some (j + 1)]).set (m - 1) [o]) (del (AL.put C4 g (.lst ((((List.range m).map fun (j : Nat) => [some (j + 1)]).set (m - 1) [o]).map fun r => D.lst (r.map oD)))) g) ⟨?_, ?_, ?_, fun r hr => ?_, fun r hr b hb => ?_⟩
  · unfold machD endsD goesD at this
    rw [List.map_map] at this
    exact this
  · rw [List.length_map, List.length_set, List.length_map]
  · rw [List.length_map, List.length_range]; omega
  · rw [List.length_map, List.length_range]; omega
  · rcases List.mem_or_eq_of_mem_set hr with z | z
    · obtain ⟨j, _, rfl⟩ := List.mem_map.mp z; rfl
    · rw [z]; rfl
  · rw [List.length_map, List.length_range]
    obtain ⟨j, hj, e⟩ := List.getElem_of_mem hr
    rw [List.length_set, List.length_map, List.length_range] at hj
    rw [List.getElem_set] at e
    split at e
    · subst e
      have : some b = o := by simpa using hb
      exact hob b this.symm
    · rename_i hne
      rw [List.getElem_map, List.getElem_range] at e
      subst e
      have : b = j + 1 := by simpa using hb
      omega
/-- a machine, for up to twelve signs -/
def IsMd (d : D) : Prop := ∃ sg ends goes, Mach sg ends goes ∧ sg ≤ 12 ∧ d = machD ends goes
section
variable {sg : Nat} {ends : List Bool} {goes : List (List (Option Nat))} {C : AH} {P : D → AH → Prop}
theorem okW : okS "none" ∧ okS "last" := by
  constructor
  · show ∀ c ∈ ("none" : Str).cps.toList, c < 0x110000
    decide +kernel
  · show ∀ c ∈ ("last" : Str).cps.toList, c < 0x110000
    decide +kernel
theorem met_facts (M : Mach sg ends goes) : (∀ a, a ∈ rl ends.length (Reach (AL.Fw goes) [0]) ↔ a < ends.length ∧ Reach (AL.Fw goes) [0] a) ∧ (rl ends.length (Reach (AL.Fw goes) [0])).Nodup ∧ 0 ∈ rl ends.length (Reach (AL.Fw goes) [0]) ∧ (rl ends.length (Reach (AL.Fw goes) [0])).length ≤ ends.length :=
  ⟨fun a => mem_rl, (rl_incr ends.length (Reach (AL.Fw goes) [0])).imp fun h => Nat.ne_of_lt h, mem_rl.mpr ⟨M.pos, .base (by simp)⟩, rl_len _ _⟩
theorem none_right (M : Mach sg ends goes) {q : Addr} (h0 : ¬ Alive ends goes 0) (hq : C q = some (.lst (natsD (rl ends.length (Reach (AL.Fw goes) [0]))))) (k : ∀ C', AL.Keep C C' → P (.bl true) C') : s_law_right [machD ends goes, .tup [.str "none", .ce q]] C P := by
  have hmo := M.most
  obtain ⟨hL, hLn, hL0, hLl⟩ := met_facts M
  have hcl : ∀ a ∈ rl ends.length (Reach (AL.Fw goes) [0]), ∀ b, AL.Fw goes a b → b ∈ rl ends.length (Reach (AL.Fw goes) [0]) := fun a ha b hb => (hL b).mpr ⟨(hb.lt M).2, .step ((hL a).mp ha).2 hb⟩
  have hlt : ∀ a ∈ rl ends.length (Reach (AL.Fw goes) [0]), a < ends.length := fun a ha => ((hL a).mp ha).1
  unfold s_law_right a_law_right
  walk_at "go"
  refine g_ifS ?_
  walk_at "go"
  rw [show isT "tuple" "tuple" = true from rfl]
  walk_at "go"
  rw [show decide (((([D.str "none", D.ce q] : List D).length : Nat) : Int) < 2) = false from rfl]
  walk_at "go"
  refine lmet_ok M fun C1 hK1 => ?_
  generalize rl ends.length (Reach (AL.Fw goes) [0]) = L at *
  walk_at "go"
  refine longest_ok M hLn hcl hlt (fun es KL f C2 hK2 hM hF hA => ?_) (fun C2 x hK2 hx => ?_)
  · walk_at "go"
    refine g_ifS ?_
    walk_at "go"
    rw [show AL.isNon (D.dk es) = false from rfl]
    walk_at "go"
    refine g_ifS ?_
    walk_at "go"
    refine g_inK ?_
    walk_at "go"
    refine g_kInK (es := es) (k := nk 0) rfl rfl ?_
    have hf0 : f 0 = none := by
      cases e : f 0 with
      | none => rfl
      | some v => exact absurd ((hA 0 v e).2.alive M) h0
    rw [if_pos rfl, hM.at' 0, hf0]
    rw [show (!(Option.map (fun (v : Nat) => D.int (v : Int)) none).isSome) = true from rfl]
    walk_at "go"
    refine same_ok 8 2 _ _ _ _ (.tup rfl (Nat.le_of_ble_eq_true rfl) fun i x y hx hy => ?_) (by omega) ?_
    · match i, hx, hy with
      | 0, hx, hy => cases hx; cases hy; exact .str _ okW.1 (by decide)
      | 1, hx, hy => cases hx; cases hy; exact lk_nats (.inr ⟨q, rfl, hK2 _ _ (hK1 _ _ hq)⟩) (.inl rfl) (by omega) 0
      | i + 2, hx, hy => simp at hx
    exact k _ (hK1.trans hK2)
  · exfalso
    obtain ⟨m, _, hm⟩ := rng_long hx 0
    have hx0 := ((hL x).mp hx.1).2
    obtain ⟨e, g1, g2, g3⟩ := hm.alive M
    have htr : ∀ {a b c}, Reach (AL.Fw goes) [a] b → Reach (AL.Fw goes) [b] c → Reach (AL.Fw goes) [a] c := fun h1 h2 => by
      induction h2 with
      | base h => rw [List.mem_singleton.mp h]; exact h1
      | step _ h ih => exact .step ih h
    exact h0 ⟨e, g1, g2, htr hx0 g3⟩
theorem last_right (M : Mach sg ends goes) {q : Addr} {U : List Nat} {f : Nat → Option Nat} (hU : IsU ends goes U) (h0 : 0 ∈ U) (hR : Rk ends goes U f) (hq : C q = some (.lst ((List.range ends.length).map fun a => oD (f a)))) (k : ∀ C', AL.Keep C C' → P (.bl true) C') : s_law_right [machD ends goes, .tup [.str "last", .ce q]] C P := by
  have hmo := M.most
  obtain ⟨hL, hLn, hL0, hLl⟩ := met_facts M
  have hcl : ∀ a ∈ rl ends.length (Reach (AL.Fw goes) [0]), ∀ b, AL.Fw goes a b → b ∈ rl ends.length (Reach (AL.Fw goes) [0]) := fun a ha b hb => (hL b).mpr ⟨(hb.lt M).2, .step ((hL a).mp ha).2 hb⟩
  have hlt : ∀ a ∈ rl ends.length (Reach (AL.Fw goes) [0]), a < ends.length := fun a ha => ((hL a).mp ha).1
  unfold s_law_right a_law_right
  walk_at "go"
  refine g_ifS ?_
  walk_at "go"
  rw [show isT "tuple" "tuple" = true from rfl]
  walk_at "go"
  rw [show decide (((([D.str "last", D.ce q] : List D).length : Nat) : Int) < 2) = false from rfl]
  walk_at "go"
  refine lmet_ok M fun C1 hK1 => ?_
  generalize rl ends.length (Reach (AL.Fw goes) [0]) = L at *
  walk_at "go"
  refine longest_ok M hLn hcl hlt (fun es KL g C2 hK2 hM hF hA => ?_) (fun C2 x hK2 hx => (rk_no_ring M hL hU hR hx).elim)
  have hfg := rk_eq M hL hU hR hF hA
  walk_at "go"
  refine g_ifS ?_
  walk_at "go"
  rw [show AL.isNon (D.dk es) = false from rfl]
  walk_at "go"
  refine g_ifS ?_
  walk_at "go"
  refine g_inK ?_
  walk_at "go"
  refine g_kInK (es := es) (k := nk 0) rfl rfl ?_
  obtain ⟨u, hu⟩ := hR.2 0 h0
  rw [if_pos rfl, hM.at' 0, ← hfg 0, hu]
  rw [show (!(Option.map (fun (v : Nat) => D.int (v : Int)) (some u)).isSome) = false from rfl]
  walk_at "go"
  rw [List.length_map]
  walk_at "go"
  rw [Int.toNat_natCast, rangeD_nats]
  refine g_lcG (xs := List.range ends.length) (g := fun (a : Nat) => D.int (a : Int)) (f := fun a => oD (f a)) (by rw [List.length_range]; simp only [sizeLine]; omega) (fun a _ R hR => ?_) ?_
  · walk_at "go"
    refine g_kGet2 (es := es) rfl ?_
    walk_at "go"
    refine g_kGet2' (es := es) rfl (show AL.keyOf (.int (a : Int)) = some (nk a) from rfl) ?_
    rw [hM.at', ← hfg a]
    have e : ((f a).map fun (v : Nat) => D.int (v : Int)).getD .non = oD (f a) := by cases f a <;> rfl
    rw [e]
    exact hR
  walk_at "go"
  have hq2 := hK2 _ _ (hK1 _ _ hq)
  refine same_ok 8 2 _ _ _ _ (.tup rfl (Nat.le_of_ble_eq_true rfl) fun i x y hx hy => ?_) (by omega) ?_
  · match i, hx, hy with
    | 0, hx, hy => cases hx; cases hy; exact .str _ okW.2 (by decide)
    | 1, hx, hy =>
      cases hx; cases hy
      refine .lst (by simp [kindOf, hq2]) rfl (by simp [asLr, asL, hq2]) rfl rfl (by rw [List.length_map, List.length_range]; omega) fun i x y hx hy => ?_
      rw [hx] at hy
      cases hy
      rw [List.getElem?_map] at hx
      cases e : (List.range ends.length)[i]? with
      | none => rw [e] at hx; cases hx
      | some a =>
        rw [e] at hx
        cases hx
        show Lk C2 0 (oD (f a)) (oD (f a))
        cases f a with
        | none => exact .non _
        | some v => exact .int _ _
    | i + 2, hx, hy => simp at hx
  exact k _ (hK1.trans hK2)
theorem end_right (M : Mach sg ends goes) {a c : Addr} {A B E : List Nat} (ha : C a = some (.lst (natsD A))) (hc : C c = some (.lst (natsD E))) (hR : Rnd sg ends goes A B E) (k : ∀ C', AL.Keep C C' → P (.bl true) C') : s_law_right [machD ends goes, .tup [.str "endless", .ce a, .lst (natsD B), .ce c]] C P := by
  have hmo := M.most
  obtain ⟨hL, hLn, hL0, hLl⟩ := met_facts M
  have hcl : ∀ a ∈ rl ends.length (Reach (AL.Fw goes) [0]), ∀ b, AL.Fw goes a b → b ∈ rl ends.length (Reach (AL.Fw goes) [0]) := fun a ha b hb => (hL b).mpr ⟨(hb.lt M).2, .step ((hL a).mp ha).2 hb⟩
  have hlt : ∀ a ∈ rl ends.length (Reach (AL.Fw goes) [0]), a < ends.length := fun a ha => ((hL a).mp ha).1
  unfold s_law_right a_law_right
  walk_at "go"
  refine g_ifS ?_
  walk_at "go"
  rw [show isT "tuple" "tuple" = true from rfl]
  walk_at "go"
  rw [show decide (((([D.str "endless", D.ce a, D.lst (natsD B), D.ce c] : List D).length : Nat) : Int) < 2) = false from rfl]
  walk_at "go"
  refine lmet_ok M fun C1 hK1 => ?_
  generalize rl ends.length (Reach (AL.Fw goes) [0]) = L at *
  walk_at "go"
  refine longest_ok M hLn hcl hlt (fun es KL g C2 hK2 hM hF hA => ?_) (fun C2 x hK2 hx => ?_)
  · obtain ⟨x, hx⟩ := rnd_ring M hL hR
    exact (fix_no_ring hF hcl hx).elim
  · walk_at "go"
    refine g_ifS ?_
    walk_at "go"
    rw [show AL.isNon D.non = true from rfl]
    walk_at "go"
    exact round_ok M (hK2 _ _ (hK1 _ _ ha)) (hK2 _ _ (hK1 _ _ hc)) hR (k _ (hK1.trans hK2))
end
theorem law_true : ∀ ns : List Int, ns.length ≤ 63 → s_law [.scr ns] (fun _ => none) (fun d _ => d = .bl true) := by
  intro ns hns
  unfold s_law a_law
  walk_at "go"
  refine pen_ok (j := 0) fun p c hp hc => ?_
  have hP := pen_put (C := fun _ => none) (p := p) hc
  generalize AL.put (fun _ => none) p c = C1 at hP ⊢
  walk_at "go"
  refine take_nat (m := 16) hP (by omega) (by omega) fun c d hc hd => ?_
  have hP := pen_put (C := C1) (p := p) hc
  generalize AL.put C1 p c = C2 at hP ⊢
  walk_at "go"
  refine signs_ok hP fun c sg hc hs0 hs1 => ?_
  have hP := pen_put (C := C2) (p := p) hc
  generalize AL.put C2 p c = C3 at hP ⊢
  walk_at "go"
  have hmost : ∃ most : Nat, atI [D.int 9, D.int 30] (if decide ((d : Int) = 9) = true then 1 else 0) = some (.int (most : Nat)) ∧ 0 < most ∧ most ≤ 30 := by
    cases decide ((d : Int) = 9)
    · exact ⟨9, rfl, by omega, by omega⟩
    · exact ⟨30, rfl, by omega, by omega⟩
  obtain ⟨most, hm1, hm2, hm3⟩ := hmost
  refine g_ixL hm1 ?_
  walk_at "go"
  refine machine_ok hP hm2 (by omega) hs1 fun e1 g1 C4 M1 hn1 hP hK => ?_
  walk_at "go"
  intro mc hmc
  have hpm : p ≠ mc := by obtain ⟨_, h, _⟩ := hP; exact ne_cell h hmc
  have hP := hP.other (c := .lst [machD e1 g1]) hpm
  have hM4 : (AL.put C4 mc (.lst [machD e1 g1])) mc = some (.lst [machD e1 g1]) := put_same
  generalize AL.put C4 mc (.lst [machD e1 g1]) = C5 at hP hM4
  walk_at "go"
  refine g_ifJ (fun st C' => ∃ (mc : Addr) (d1 x2 : D), IsMd d1 ∧ C' mc = some (.lst [d1]) ∧ st = [some (.scr ns), some (.ce p), some x2, some (.ce mc), none, none, none, none]) (fun N hN => ?_) (fun st C' hw => ?_)
  · refine g_ifS ?_
    walk_at "go"
    refine g_iteD (fun h => ?_) (fun h => ?_)
    · walk_at "go"
      refine chain_ok hP fun e g C6 M => ?_
      walk_at "go"
      intro mc hmc
      exact hN _ _ ⟨mc, _, _, ⟨1, e, g, M, by omega, rfl⟩, put_same, rfl⟩
    · walk_at "go"
      exact hN _ _ ⟨mc, _, _, ⟨sg, e1, g1, M1, hs1, rfl⟩, hM4, rfl⟩
  clear hP hM4 hpm hmc mc
  obtain ⟨mc, d1, x2, hd1, hMc, rfl⟩ := hw
  walk_at "go"
  refine pen_ok (j := 31) fun p2 c hp2 hc => ?_
  have hP := pen_put (C := C') (p := p2) hc
  have hmp : mc ≠ p2 := ne_cell hMc hp2
  have hMc := put_other (d := c) hmp hMc
  generalize AL.put C' p2 c = C6 at hP hMc
  walk_at "go"
  refine signs_ok hP fun c sg2 hc hs0 hs2 => ?_
  have hP := pen_put (C := C6) (p := p2) hc
  have hMc := put_other (d := c) hmp hMc
  generalize AL.put C6 p2 c = C7 at hP hMc
  walk_at "go"
  refine machine_ok (most := 6) hP (by omega) (by omega) hs2 fun e2 g2 C8 M2 hn2 hP hK => ?_
  have hMc := hK mc _ hmp hMc
  walk_at "go"
  refine g_append hMc (by simp only [List.length_singleton, sizeLine]; omega) ?_
  have hMc : (AL.put C8 mc (.lst ([d1] ++ [machD e2 g2]))) mc = some (.lst [d1, machD e2 g2]) := put_same
  have hP := hP.other (c := .lst ([d1] ++ [machD e2 g2])) hmp.symm
  generalize AL.put C8 mc (.lst ([d1] ++ [machD e2 g2])) = C9 at hP hMc
  walk_at "go"
  refine g_ifJ (fun st C' => ∃ (d2 : D), IsMd d2 ∧ C' mc = some (.lst [d1, d2]) ∧ st = [some (.scr ns), some (.ce p2), some x2, some (.ce mc), none, none, none, none]) (fun N hN => ?_) (fun st C' hw => ?_)
  · refine g_ifS ?_
    walk_at "go"
    refine take_nat (m := 3) hP (by omega) (by omega) fun c u hc hu => ?_
    have hP := pen_put (C := C9) (p := p2) hc
    have hMc := put_other (d := c) hmp hMc
    generalize AL.put C9 p2 c = C10 at hP hMc
    walk_at "go"
    refine g_iteD (fun h => ?_) (fun h => ?_)
    · walk_at "go"
      refine take_nat (m := 3) hP (by omega) (by omega) fun c u hc hu => ?_
      have hP := pen_put (C := C10) (p := p2) hc
      have hMc := put_other (d := c) hmp hMc
      generalize AL.put C10 p2 c = C11 at hP hMc
      walk_at "go"
      rw [show (1 : Int) + (u : Int) = ((1 + u : Nat) : Int) by omega]
      refine ring_ok hP (by omega) (by omega) fun e g C12 M hn hP hO => ?_
      have hMc := hO mc _ hmp hMc
      walk_at "go"
      exact hN _ _ ⟨_, ⟨1 + u, e, g, M, by omega, rfl⟩, put_same, rfl⟩
    · walk_at "go"
      exact hN _ _ ⟨_, ⟨sg2, e2, g2, M2, hs2, rfl⟩, hMc, rfl⟩
  clear hP hMc M2 hn2
  obtain ⟨d2, hd2, hMc, rfl⟩ := hw
  refine g_frzL rfl hMc ?_
  walk_at "go"
  refine g_addL (by simp only [List.length_cons, List.length_nil, sizeLine]; omega) ?_
  walk_at "go"
  refine g_kForL (fun i st C' => ∃ (x4 x5 x6 : Option D), st = [some (.scr ns), some (.ce p2), some x2, some (.lst [d1, d2]), x4, x5, x6, none]) ⟨_, _, _, rfl⟩ (fun i d st C' hi hw => ?_) (fun st C' hw => ?_)
  rotate_left
  · obtain ⟨x4, x5, x6, rfl⟩ := hw
    walk_at "go"
    rfl
  obtain ⟨x4, x5, x6, rfl⟩ := hw
  have hd : IsMd d := by
    have := List.mem_of_getElem? hi
    simp only [List.cons_append, List.nil_append, List.mem_cons, List.not_mem_nil, or_false] at this
    rcases this with rfl | rfl | rfl | rfl
    · exact hd1
    · exact hd2
    · exact hd1
    · exact hd2
  obtain ⟨sg, ends, goes, M, h12, rfl⟩ := hd
  have hmo := M.most
  have hle := M.len
  walk_at "go"
  refine g_lcG (xs := goes) (g := fun r => D.lst (r.map oD)) (f := fun r => D.lst (r.map oD)) (by simp only [sizeLine]; omega) (fun r hr Q hQ => ?_) ?_
  · walk_at "go"
    exact hQ
  walk_at "go"
  refine span_ok M h12 (fun q C1 hK h0 hq => ?_) (fun q U f C1 hK hU h0 hR hq => ?_) (fun a c A B E C1 hK ha hc hR => ?_)
  · walk_at "go"
    refine g_ifS ?_
    walk_at "go"
    refine none_right M h0 hq fun C2 hK2 => ?_
    walk_at "go"
    refine g_neR 3 (okD_mach ends goes 0) (by decide) ?_
    have hq2 := hK2 _ _ hq
    have hl := rl_len ends.length (Reach (AL.Fw goes) [0])
    generalize rl ends.length (Reach (AL.Fw goes) [0]) = L at hq2 hl
    walk_at "go"
    refine g_append hq2 (by rw [natsD_len]; simp only [sizeLine]; omega) ?_
    walk_at "go"
    refine g_ixT (d := .ce q) (atI_last (i := 1) rfl rfl) ?_
    refine g_ty (isTy_ce put_same rfl) ?_
    refine g_clear put_same ?_
    walk_at "go"
    refine g_ifS ?_
    walk_at "go"
    refine g_neR 3 (okD_mach ends goes 0) (by decide) ?_
    walk_at "go"
    exact ⟨_, _, _, rfl⟩
  · walk_at "go"
    refine g_ifS ?_
    walk_at "go"
    refine last_right M hU h0 hR hq fun C2 hK2 => ?_
    walk_at "go"
    refine g_neR 3 (okD_mach ends goes 0) (by decide) ?_
    have hq2 := hK2 _ _ hq
    walk_at "go"
    refine g_append hq2 (by rw [List.length_map, List.length_range]; simp only [sizeLine]; omega) ?_
    walk_at "go"
    refine g_ixT (d := .ce q) (atI_last (i := 1) rfl rfl) ?_
    refine g_ty (isTy_ce put_same rfl) ?_
    refine g_clear put_same ?_
    walk_at "go"
    refine g_ifS ?_
    walk_at "go"
    refine g_neR 3 (okD_mach ends goes 0) (by decide) ?_
    walk_at "go"
    exact ⟨_, _, _, rfl⟩
  · walk_at "go"
    refine g_ifS ?_
    walk_at "go"
    refine end_right M ha hc hR fun C2 hK2 => ?_
    walk_at "go"
    refine g_neR 3 (okD_mach ends goes 0) (by decide) ?_
    have ha2 := hK2 _ _ ha
    have hc2 := hK2 _ _ hc
    obtain ⟨_, _, _, _, _, _, _, _, _, _, hlA, _, _⟩ := hR
    walk_at "go"
    refine g_append ha2 (by rw [natsD_len]; simp only [sizeLine]; omega) ?_
    have hc3 : ∃ us, (put C2 a (.lst (natsD A ++ [.int 0]))) c = some (.lst us) := by
      by_cases e : c = a
      · exact ⟨_, by rw [e]; exact put_same⟩
      · exact ⟨_, put_other e hc2⟩
    obtain ⟨us, hc3⟩ := hc3
    generalize put C2 a (.lst (natsD A ++ [.int 0])) = C3 at hc3
    walk_at "go"
    refine g_ixT (d := .ce c) (atI_last (i := 3) rfl rfl) ?_
    refine g_ty (isTy_ce hc3 rfl) ?_
    refine g_clear hc3 ?_
    walk_at "go"
    refine g_ifS ?_
    walk_at "go"
    refine g_neR 3 (okD_mach ends goes 0) (by decide) ?_
    walk_at "go"
    exact ⟨_, _, _, rfl⟩
end A_k25

namespace A_k25
open PySem PySem.Spec L2 AL
open PyProof.Rows (envOfC)
def topS (i : Nat) : Stmt := PySem.Challenge.pw_wordrules_k25_spans_told.main.body.getD i (.Pass ⟨0, 0, 0, 0⟩)
abbrev st_met : Stmt := topS 1
theorem sc_met : FnScope ["machine", "seen", "waiting", "there"] ["machine"] (defScope st_met) := ⟨rfl, rfl, rfl, by decide +kernel, rfl, by decide +kernel, by decide +kernel⟩
theorem ok_met {P : Program} {w : World} {K : PySem.W.Frag} {mg : Str → Option Value} {base : Heap} {f : Addr} {fd : FuncData} (F : L2.Fun K "met" "met" st_met f fd) (hm : mg "met" = some (.ref f)) (hb : Binds K fd ["machine"] []) (m_sorted : mg "sorted" = none) : Cal P w K mg base 1 "met" 1 s_met := by
  refine calA (b := a_met) F sc_met rfl hm hb ?_ (fun _ _ _ _ h => h)
  intro cdv A outer s H E hr hgd
  have hw : (Bs.nil ⟨w, mg⟩).g = ⟨w, mg⟩ := rfl
  exact ⟨_, ass_cons (as_set 1 sc_met.nd (ae_disp (aps_int (ae_bl) (aps_nil))) rfl (.inl rfl))
      (ass_cons (as_set 2 sc_met.nd (ae_lstM (aa_cons (ae_int) (aa_nil))) rfl (.inl rfl))
      (ass_cons (as_while (at_cmp (ao_ne (K := K) hr.units) (ae_v 2) (ae_lst (aa_nil)))
      (ass_one (as_for (ai_list (K := K) (ae_ix (K := K) (ae_ix (K := K) (ae_v 0) (ae_int)) (ae_meth0 (K := K) PySem.F.plainAttrs_list PySem.F.slot_list_pop PySem.F.type_list_pop am_pop (ae_v 2)))) (ag_name 3 (vs := [3]) sc_met.nd rfl (.inl rfl))
      (ass_one (as_if (aw_t (aw_and (at_cmp ao_isnot (ae_v 3) (ae_non)) (aw_and1 (at_notInK (hu_of hr) (ae_v 3) (ae_v 1)))))
      (ass_cons (as_putK (hu_of hr) (ae_v 1) (ae_v 3) (ae_bl))
      (ass_one (as_expr (ae_meth (K := K) PySem.F.plainAttrs_list PySem.F.slot_list_append PySem.F.type_list_append am_append (ae_v 2) (aa_cons (ae_v 3) (aa_nil))))))
      (ass_nil))))))
      (ass_frz 1 (ass_one (as_ret (ae_callB ac_sortD m_sorted (by decide +kernel) (aa_cons (ae_v 1) (aa_nil))))))))⟩

abbrev st_alive : Stmt := topS 2
theorem sc_alive : FnScope ["machine", "ends", "goes", "back", "stand", "row", "there", "waiting", "seen", "before", "truth"] ["machine"] (defScope st_alive) := ⟨rfl, rfl, rfl, by decide +kernel, rfl, by decide +kernel, by decide +kernel⟩
theorem ok_alive {P : Program} {w : World} {K : PySem.W.Frag} {mg : Str → Option Value} {base : Heap} {f : Addr} {fd : FuncData} (F : L2.Fun K "alive" "alive" st_alive f fd) (hm : mg "alive" = some (.ref f)) (hb : Binds K fd ["machine"] []) (m_enumerate : mg "enumerate" = none) (m_sorted : mg "sorted" = none) : Cal P w K mg base 1 "alive" 1 s_alive := by
  refine calA (b := a_alive) F sc_alive rfl hm hb ?_ (fun _ _ _ _ h => h)
  intro cdv A outer s H E hr hgd
  have hw : (Bs.nil ⟨w, mg⟩).g = ⟨w, mg⟩ := rfl
  exact ⟨_, ass_cons (as_asg (ae_v 0) (ag_tup (K := K) (ags_cons (ag_name 1 (vs := [1, 2]) sc_alive.nd rfl (.inl rfl)) (ags_cons (ag_name 2 (vs := [1, 2]) sc_alive.nd rfl (.inl rfl)) (ags_nil)))))
      (ass_cons (as_setLc 3 [("truth", 10)] sc_alive.nd (ai_list (K := K) (ae_v 1)) (sw_true rfl rfl rfl (by decide +kernel)) (blkOk_by (own := [("truth", 10)]) (N := ["machine", "ends", "goes", "back", "stand", "row", "there", "waiting", "seen", "before", "truth"]) (sc := defScope st_alive) (by decide +kernel)) (fun _ _ _ _ _ => ag_name 10 (vs := [10]) sc_alive.nd rfl (.inl rfl)) (fun _ _ _ _ _ => ats_nil) (fun _ _ _ _ _ => ae_lstM (aa_nil)))
      (ass_cons (as_for (ai_enum (K := K) m_enumerate (aa_cons (ae_v 2) (aa_nil))) (ag_tup (K := K) (ags_cons (ag_name 4 (vs := [4, 5]) sc_alive.nd rfl (.inl rfl)) (ags_cons (ag_name 5 (vs := [4, 5]) sc_alive.nd rfl (.inl rfl)) (ags_nil))))
      (ass_one (as_for (ai_list (K := K) (ae_v 5)) (ag_name 6 (vs := [6]) sc_alive.nd rfl (.inl rfl))
      (ass_one (as_if (at_cmp ao_isnot (ae_v 6) (ae_non))
      (ass_one (as_expr (ae_meth (K := K) PySem.F.plainAttrs_list PySem.F.slot_list_append PySem.F.type_list_append am_append (ae_ix (K := K) (ae_v 3) (ae_v 6)) (aa_cons (ae_v 4) (aa_nil)))))
      (ass_nil))))))
      (ass_cons (as_setLcM 7 [("stand", 4), ("truth", 10)] sc_alive.nd (ai_enum (K := K) m_enumerate (aa_cons (ae_v 1) (aa_nil))) (sw_true rfl rfl rfl (by decide +kernel)) (blkOk_by (own := [("stand", 4), ("truth", 10)]) (N := ["machine", "ends", "goes", "back", "stand", "row", "there", "waiting", "seen", "before", "truth"]) (sc := defScope st_alive) (by decide +kernel)) (fun _ _ _ _ _ => ag_tup (K := K) (ags_cons (ag_name 4 (vs := [4, 10]) sc_alive.nd rfl (.inl rfl)) (ags_cons (ag_name 10 (vs := [4, 10]) sc_alive.nd rfl (.inl rfl)) (ags_nil)))) (fun _ _ _ _ _ => ats_one (at_tru (K := K) (ae_v 10))) (fun _ _ _ _ _ => ae_v 4))
      (ass_cons (as_set 8 sc_alive.nd (ae_dict0) rfl (.inl rfl))
      (ass_cons (as_for (ai_list (K := K) (ae_v 7)) (ag_name 4 (vs := [4]) sc_alive.nd rfl (.inl rfl))
      (ass_one (as_putK (hu_of hr) (ae_v 8) (ae_v 4) (ae_bl))))
      (ass_cons (as_while (at_cmp (ao_ne (K := K) hr.units) (ae_v 7) (ae_lst (aa_nil)))
      (ass_one (as_for (ai_list (K := K) (ae_ix (K := K) (ae_v 3) (ae_meth0 (K := K) PySem.F.plainAttrs_list PySem.F.slot_list_pop PySem.F.type_list_pop am_pop (ae_v 7)))) (ag_name 9 (vs := [9]) sc_alive.nd rfl (.inl rfl))
      (ass_one (as_if (at_notInK (hu_of hr) (ae_v 9) (ae_v 8))
      (ass_cons (as_putK (hu_of hr) (ae_v 8) (ae_v 9) (ae_bl))
      (ass_one (as_expr (ae_meth (K := K) PySem.F.plainAttrs_list PySem.F.slot_list_append PySem.F.type_list_append am_append (ae_v 7) (aa_cons (ae_v 9) (aa_nil))))))
      (ass_nil))))))
      (ass_frz 8 (ass_one (as_ret (ae_callB ac_sortD m_sorted (by decide +kernel) (aa_cons (ae_v 8) (aa_nil))))))))))))⟩

abbrev st_ranks_of : Stmt := topS 5
theorem sc_ranks_of : FnScope ["machine", "some", "stand", "among", "ranks", "grown", "onward", "goal"] ["machine", "some"] (defScope st_ranks_of) := ⟨rfl, rfl, rfl, by decide +kernel, rfl, by decide +kernel, by decide +kernel⟩
theorem ok_ranks_of {P : Program} {w : World} {K : PySem.W.Frag} {mg : Str → Option Value} {base : Heap} {f : Addr} {fd : FuncData} (F : L2.Fun K "ranks_of" "ranks_of" st_ranks_of f fd) (hm : mg "ranks_of" = some (.ref f)) (hb : Binds K fd ["machine", "some"] []) (m_all : mg "all" = none) (m_dict : mg "dict" = none) (m_max : mg "max" = none) : Cal P w K mg base 1 "ranks_of" 2 s_ranks_of := by
  refine calA (b := a_ranks_of) F sc_ranks_of rfl hm hb ?_ (fun _ _ _ _ h => h)
  intro cdv A outer s H E hr hgd
  have hw : (Bs.nil ⟨w, mg⟩).g = ⟨w, mg⟩ := rfl
  exact ⟨_, ass_cons (as_set 3 sc_ranks_of.nd (ae_callT (ac_dictP (K := K)) m_dict (by decide +kernel) (aa_cons (ae_lc [("stand", 2)] sc_ranks_of.nd (ai_list (K := K) (ae_v 1)) (blkOk_by (own := [("stand", 2)]) (N := ["machine", "some", "stand", "among", "ranks", "grown", "onward", "goal"]) (sc := defScope st_ranks_of) (by decide +kernel)) (fun _ _ _ _ _ => ag_name 2 (vs := [2]) sc_ranks_of.nd rfl (.inl rfl)) (fun _ _ _ _ _ => ats_nil) (fun _ _ _ _ _ => ae_tup (aa_cons (ae_v 2) (aa_cons (ae_bl) (aa_nil))))) (aa_nil))) rfl (.inr rfl))
      (ass_cons (as_set 4 sc_ranks_of.nd (ae_dict0) rfl (.inr rfl))
      (ass_cons (as_set 5 sc_ranks_of.nd (ae_bl) rfl (.inl rfl))
      (ass_cons (as_while (at_tru (K := K) (ae_v 5))
      (ass_cons (as_set 5 sc_ranks_of.nd (ae_bl) rfl (.inl rfl))
      (ass_one (as_for (ai_list (K := K) (ae_revL (K := K) (ae_v 1))) (ag_name 2 (vs := [2]) sc_ranks_of.nd rfl (.inl rfl))
      (ass_cons (as_setLc 6 [("goal", 7)] sc_ranks_of.nd (ai_list (K := K) (ae_ix (K := K) (ae_ix (K := K) (ae_v 0) (ae_int)) (ae_v 2))) (sw_true rfl rfl rfl (by decide +kernel)) (blkOk_by (own := [("goal", 7)]) (N := ["machine", "some", "stand", "among", "ranks", "grown", "onward", "goal"]) (sc := defScope st_ranks_of) (by decide +kernel)) (fun _ _ _ _ _ => ag_name 7 (vs := [7]) sc_ranks_of.nd rfl (.inl rfl)) (fun _ _ _ _ _ => ats_one (at_inN (g := ⟨w, mg⟩) (hu16 hr) (ae_v 7) (ae_v 3))) (fun _ _ _ _ _ => ae_v 7))
      (ass_one (as_if (aw_t (aw_and (at_notInK (hu_of hr) (ae_v 2) (ae_v 4)) (aw_and1 (at_tru (K := K) (ae_callB (ac_all (K := K)) m_all (by decide +kernel) (aa_cons (ae_lc [("goal", 7)] sc_ranks_of.nd (ai_list (K := K) (ae_v 6)) (blkOk_by (own := [("goal", 7)]) (N := ["machine", "some", "stand", "among", "ranks", "grown", "onward", "goal"]) (sc := defScope st_ranks_of) (by decide +kernel)) (fun _ _ _ _ _ => ag_name 7 (vs := [7]) sc_ranks_of.nd rfl (.inl rfl)) (fun _ _ _ _ _ => ats_nil) (fun _ _ _ _ _ => ae_inK (hu_of hr) (ae_v 7) (ae_v 4))) (aa_nil)))))))
      (ass_cons (as_putK (hu_of hr) (ae_v 4) (ae_v 2) (ae_callB (ac_maxL (K := K)) m_max (by decide +kernel) (aa_cons (ae_op (ao_add (K := K)) (ae_lst (aa_cons (ae_int) (aa_nil))) (ae_lc [("goal", 7)] sc_ranks_of.nd (ai_list (K := K) (ae_v 6)) (blkOk_by (own := [("goal", 7)]) (N := ["machine", "some", "stand", "among", "ranks", "grown", "onward", "goal"]) (sc := defScope st_ranks_of) (by decide +kernel)) (fun _ _ _ _ _ => ag_name 7 (vs := [7]) sc_ranks_of.nd rfl (.inl rfl)) (fun _ _ _ _ _ => ats_nil) (fun _ _ _ _ _ => ae_op (ao_add (K := K)) (ae_int) (ae_getK (hu_of hr) (ae_v 4) (ae_v 7))))) (aa_nil))))
      (ass_one (as_set 5 sc_ranks_of.nd (ae_bl) rfl (.inl rfl))))
      (ass_nil))))))))
      (ass_frz 4 (ass_one (as_ret (ae_v 4)))))))⟩

abbrev st_row_to : Stmt := topS 6
theorem sc_row_to : FnScope ["machine", "start", "goals", "rows", "layer", "beyond", "stand", "number", "goal"] ["machine", "start", "goals"] (defScope st_row_to) := ⟨rfl, rfl, rfl, by decide +kernel, rfl, by decide +kernel, by decide +kernel⟩
theorem ok_row_to {P : Program} {w : World} {K : PySem.W.Frag} {mg : Str → Option Value} {base : Heap} {f : Addr} {fd : FuncData} (F : L2.Fun K "row_to" "row_to" st_row_to f fd) (hm : mg "row_to" = some (.ref f)) (hb : Binds K fd ["machine", "start", "goals"] []) (m_enumerate : mg "enumerate" = none) : Cal P w K mg base 1 "row_to" 3 s_row_to := by
  refine calA (b := a_row_to) F sc_row_to rfl hm hb ?_ (fun _ _ _ _ h => h)
  intro cdv A outer s H E hr hgd
  have hw : (Bs.nil ⟨w, mg⟩).g = ⟨w, mg⟩ := rfl
  exact ⟨_, ass_cons (as_set 3 sc_row_to.nd (ae_dispV (ae_v 1) (ae_lstM (aa_nil))) rfl (.inl rfl))
      (ass_cons (as_set 4 sc_row_to.nd (ae_lst (aa_cons (ae_v 1) (aa_nil))) rfl (.inl rfl))
      (ass_cons (as_while (at_cmp (ao_ne (K := K) hr.units) (ae_v 4) (ae_lst (aa_nil)))
      (ass_cons (as_set 5 sc_row_to.nd (ae_lstM (aa_nil)) rfl (.inl rfl))
      (ass_cons (as_for (ai_list (K := K) (ae_v 4)) (ag_name 6 (vs := [6]) sc_row_to.nd rfl (.inl rfl))
      (ass_cons (as_if (at_cmp ao_inL (ae_v 6) (ae_v 2))
      (ass_one (as_ret (ae_getK (hu_of hr) (ae_v 3) (ae_v 6))))
      (ass_nil))
      (ass_one (as_for (ai_enum (K := K) m_enumerate (aa_cons (ae_ix (K := K) (ae_ix (K := K) (ae_v 0) (ae_int)) (ae_v 6)) (aa_nil))) (ag_tup (K := K) (ags_cons (ag_name 7 (vs := [7, 8]) sc_row_to.nd rfl (.inl rfl)) (ags_cons (ag_name 8 (vs := [7, 8]) sc_row_to.nd rfl (.inl rfl)) (ags_nil))))
      (ass_one (as_if (aw_t (aw_and (at_cmp ao_isnot (ae_v 8) (ae_non)) (aw_and1 (at_notInK (hu_of hr) (ae_v 8) (ae_v 3)))))
      (ass_cons (as_putK (hu_of hr) (ae_v 3) (ae_v 8) (ae_op ao_addM (ae_getK (hu_of hr) (ae_v 3) (ae_v 6)) (ae_lst (aa_cons (ae_v 7) (aa_nil)))))
      (ass_one (as_expr (ae_meth (K := K) PySem.F.plainAttrs_list PySem.F.slot_list_append PySem.F.type_list_append am_append (ae_v 5) (aa_cons (ae_v 8) (aa_nil))))))
      (ass_nil)))))))
      (ass_frz 5 (ass_one (as_set 4 sc_row_to.nd (ae_v 5) rfl (.inl rfl)))))))
      (ass_one (as_ret (ae_non)))))⟩

abbrev st_ring_of : Stmt := topS 7
theorem sc_ring_of : FnScope ["machine", "some", "stand", "among", "places", "rows", "number", "k", "goal"] ["machine", "some"] (defScope st_ring_of) := ⟨rfl, rfl, rfl, by decide +kernel, rfl, by decide +kernel, by decide +kernel⟩
theorem ok_ring_of {P : Program} {w : World} {K : PySem.W.Frag} {mg : Str → Option Value} {base : Heap} {f : Addr} {fd : FuncData} (F : L2.Fun K "ring_of" "ring_of" st_ring_of f fd) (hm : mg "ring_of" = some (.ref f)) (hb : Binds K fd ["machine", "some"] []) (m_dict : mg "dict" = none) (m_enumerate : mg "enumerate" = none) (m_len : mg "len" = none) : Cal P w K mg base 1 "ring_of" 2 s_ring_of := by
  refine calA (b := a_ring_of) F sc_ring_of rfl hm hb ?_ (fun _ _ _ _ h => h)
  intro cdv A outer s H E hr hgd
  have hw : (Bs.nil ⟨w, mg⟩).g = ⟨w, mg⟩ := rfl
  exact ⟨_, ass_cons (as_set 3 sc_ring_of.nd (ae_callT (ac_dictP (K := K)) m_dict (by decide +kernel) (aa_cons (ae_lc [("stand", 2)] sc_ring_of.nd (ai_list (K := K) (ae_v 1)) (blkOk_by (own := [("stand", 2)]) (N := ["machine", "some", "stand", "among", "places", "rows", "number", "k", "goal"]) (sc := defScope st_ring_of) (by decide +kernel)) (fun _ _ _ _ _ => ag_name 2 (vs := [2]) sc_ring_of.nd rfl (.inl rfl)) (fun _ _ _ _ _ => ats_nil) (fun _ _ _ _ _ => ae_tup (aa_cons (ae_v 2) (aa_cons (ae_bl) (aa_nil))))) (aa_nil))) rfl (.inr rfl))
      (ass_cons (as_set 4 sc_ring_of.nd (ae_dict0) rfl (.inl rfl))
      (ass_cons (as_set 5 sc_ring_of.nd (ae_lstM (aa_nil)) rfl (.inl rfl))
      (ass_cons (as_set 2 sc_ring_of.nd (ae_ix (K := K) (ae_v 1) (ae_int)) rfl (.inl rfl))
      (ass_cons (as_while (at_notInK (hu_of hr) (ae_v 2) (ae_v 4))
      (ass_cons (as_putK (hu_of hr) (ae_v 4) (ae_v 2) (ae_callB (ac_len (K := K)) m_len (by decide +kernel) (aa_cons (ae_v 5) (aa_nil))))
      (ass_cons (as_set 6 sc_ring_of.nd (ae_ix (K := K) (ae_lc [("k", 7), ("goal", 8)] sc_ring_of.nd (ai_enum (K := K) m_enumerate (aa_cons (ae_ix (K := K) (ae_ix (K := K) (ae_v 0) (ae_int)) (ae_v 2)) (aa_nil))) (blkOk_by (own := [("k", 7), ("goal", 8)]) (N := ["machine", "some", "stand", "among", "places", "rows", "number", "k", "goal"]) (sc := defScope st_ring_of) (by decide +kernel)) (fun _ _ _ _ _ => ag_tup (K := K) (ags_cons (ag_name 7 (vs := [7, 8]) sc_ring_of.nd rfl (.inl rfl)) (ags_cons (ag_name 8 (vs := [7, 8]) sc_ring_of.nd rfl (.inl rfl)) (ags_nil)))) (fun _ _ _ _ _ => ats_one (at_inN (g := ⟨w, mg⟩) (hu16 hr) (ae_v 8) (ae_v 3))) (fun _ _ _ _ _ => ae_v 7)) (ae_int)) rfl (.inl rfl))
      (ass_cons (as_expr (ae_meth (K := K) PySem.F.plainAttrs_list PySem.F.slot_list_append PySem.F.type_list_append am_append (ae_v 5) (aa_cons (ae_v 6) (aa_nil))))
      (ass_one (as_set 2 sc_ring_of.nd (ae_ix (K := K) (ae_ix (K := K) (ae_ix (K := K) (ae_v 0) (ae_int)) (ae_v 2)) (ae_v 6)) rfl (.inl rfl)))))))
      (ass_frz 4 (ass_frz 5 (ass_one (as_ret (ae_tup (aa_cons (ae_v 2) (aa_cons (ae_cut (K := K) (ae_v 5) (ao_some (ae_getK (hu_of hr) (ae_v 4) (ae_v 2))) ao_none) (aa_nil))))))))))))⟩

abbrev st_law_pen : Stmt := topS 10
theorem sc_law_pen : FnScope ["_law_script", "_law_first"] ["_law_script", "_law_first"] (defScope st_law_pen) := ⟨rfl, rfl, rfl, by decide +kernel, rfl, by decide +kernel, by decide +kernel⟩
theorem ok_law_pen {P : Program} {w : World} {K : PySem.W.Frag} {mg : Str → Option Value} {base : Heap} {f : Addr} {fd : FuncData} (F : L2.Fun K "_law_pen" "_law_pen" st_law_pen f fd) (hm : mg "_law_pen" = some (.ref f)) (hb : Binds K fd ["_law_script", "_law_first"] []) : Cal P w K mg base 1 "_law_pen" 2 s_law_pen := by
  refine calA (b := a_law_pen) F sc_law_pen rfl hm hb ?_ (fun _ _ _ _ h => h)
  intro cdv A outer s H E hr hgd
  have hw : (Bs.nil ⟨w, mg⟩).g = ⟨w, mg⟩ := rfl
  exact ⟨_, ass_one (as_ret (ae_disp (aps_str (ae_v 0) (aps_str (ae_v 1) (aps_str (ae_int) (aps_nil))))))⟩

abbrev st_law_mixed : Stmt := topS 11
theorem sc_law_mixed : FnScope ["_law_cell", "_law_k", "_law_one", "_law_two"] ["_law_cell", "_law_k"] (defScope st_law_mixed) := ⟨rfl, rfl, rfl, by decide +kernel, rfl, by decide +kernel, by decide +kernel⟩
theorem ok_law_mixed {P : Program} {w : World} {K : PySem.W.Frag} {mg : Str → Option Value} {base : Heap} {f : Addr} {fd : FuncData} (F : L2.Fun K "_law_mixed" "_law_mixed" st_law_mixed f fd) (hm : mg "_law_mixed" = some (.ref f)) (hb : Binds K fd ["_law_cell", "_law_k"] []) : Cal P w K mg base 1 "_law_mixed" 2 s_law_mixed := by
  refine calA (b := a_law_mixed) F sc_law_mixed rfl hm hb ?_ (fun _ _ _ _ h => h)
  intro cdv A outer s H E hr hgd
  have hw : (Bs.nil ⟨w, mg⟩).g = ⟨w, mg⟩ := rfl
  exact ⟨_, ass_cons (as_set 2 sc_law_mixed.nd (ae_op ao_mod (ae_op ao_mul (ae_op (ao_add (K := K)) (ae_op (ao_add (K := K)) (ae_op ao_mod (ae_v 0) (ae_int)) (ae_op ao_mul (ae_int) (ae_v 1))) (ae_int)) (ae_int)) (ae_int)) rfl (.inl rfl))
      (ass_cons (as_set 3 sc_law_mixed.nd (ae_op ao_mod (ae_op (ao_add (K := K)) (ae_op (ao_add (K := K)) (ae_op ao_mul (ae_v 2) (ae_v 2)) (ae_op ao_mul (ae_int) (ae_v 2))) (ae_v 1)) (ae_int)) rfl (.inl rfl))
      (ass_one (as_ret (ae_op ao_div (ae_op ao_mod (ae_op (ao_add (K := K)) (ae_op (ao_add (K := K)) (ae_op ao_mul (ae_v 3) (ae_v 3)) (ae_op ao_mul (ae_int) (ae_v 3))) (ae_op ao_mul (ae_int) (ae_v 1))) (ae_int)) (ae_int)))))⟩

abbrev st_law_same : Stmt := topS 16
theorem sc_law_same : FnScope ["_law_got", "_law_due", "_law_one", "_law_other"] ["_law_got", "_law_due"] (defScope st_law_same) := ⟨rfl, rfl, rfl, by decide +kernel, rfl, by decide +kernel, by decide +kernel⟩
theorem ok_law_same {P : Program} {w : World} {K : PySem.W.Frag} {mg : Str → Option Value} {base : Heap} {f : Addr} {fd : FuncData} (F : L2.Fun K "_law_same" "_law_same" st_law_same f fd) (hm : mg "_law_same" = some (.ref f)) (hb : Binds K fd ["_law_got", "_law_due"] []) (m_all : mg "all" = none) (m_bool : mg "bool" = none) (m_int : mg "int" = none) (m_isinstance : mg "isinstance" = none) (m_len : mg "len" = none) (m_list : mg "list" = none) (m_repr : mg "repr" = none) (m_str : mg "str" = none) (m_tuple : mg "tuple" = none) (m_zip : mg "zip" = none) : ∀ d, Cal P w K mg base (1 + d) "_law_same" 2 (s_law_same d)
  | 0 => by
    refine calA (b := aNoS) F sc_law_same rfl hm hb ?_ (fun _ _ _ _ h => h.elim)
    intro cdv A outer s H E hr hgd
    exact ⟨_, ass_no⟩
  | d + 1 => by
    have c_law_same := ok_law_same (P := P) (w := w) (base := base) F hm hb m_all m_bool m_int m_isinstance m_len m_list m_repr m_str m_tuple m_zip d
    refine calA (b := a_law_same (s_law_same d)) F sc_law_same rfl hm hb ?_ (fun _ _ _ _ h => h)
    intro cdv A outer s H E hr hgd
    have hw : (Bs.nil ⟨w, mg⟩).g = ⟨w, mg⟩ := rfl
    exact ⟨_, ass_cons (as_if (at_tru (K := K) (ae_isi2 (K := K) (ae_v 1) m_isinstance m_list m_tuple (by decide +kernel) (by decide +kernel)))
      (ass_cons (as_if (aw_t (aw_or (at_not (at_tru (K := K) (ae_isi2 (K := K) (ae_v 0) m_isinstance m_list m_tuple (by decide +kernel) (by decide +kernel)))) (aw_or1 (at_cmp (ao_ne (K := K) hr.units) (ae_isi (K := K) (ae_v 0) m_isinstance m_list (by decide +kernel)) (ae_isi (K := K) (ae_v 1) m_isinstance m_list (by decide +kernel))))))
      (ass_one (as_ret (ae_bl)))
      (ass_nil))
      (ass_one (as_ret (ae_and (K := K) (ae_cmp (ao_eq (K := K) hr.units) (ae_callB (ac_len (K := K)) m_len (by decide +kernel) (aa_cons (ae_v 0) (aa_nil))) (ae_callB (ac_len (K := K)) m_len (by decide +kernel) (aa_cons (ae_v 1) (aa_nil)))) (ae_one (ae_callB (ac_all (K := K)) m_all (by decide +kernel) (aa_cons (ae_lc [("_law_one", 2), ("_law_other", 3)] sc_law_same.nd (ai_zipG (K := K) m_zip (aa_cons (ae_v 0) (aa_cons (ae_v 1) (aa_nil)))) (blkOk_by (own := [("_law_one", 2), ("_law_other", 3)]) (N := ["_law_got", "_law_due", "_law_one", "_law_other"]) (sc := defScope st_law_same) (by decide +kernel)) (fun _ _ _ _ _ => ag_tup (K := K) (ags_cons (ag_name 2 (vs := [2, 3]) sc_law_same.nd rfl (.inl rfl)) (ags_cons (ag_name 3 (vs := [2, 3]) sc_law_same.nd rfl (.inl rfl)) (ags_nil)))) (fun _ _ _ _ _ => ats_nil) (fun _ _ _ _ _ => ae_call (K := K) (g := ⟨w, mg⟩) (hk := by first | exact Nat.le_refl _ | exact Nat.le_trans (by decide) (Nat.le_add_right 1 d)) c_law_same hr hgd (aa_cons (ae_v 2) (aa_cons (ae_v 3) (aa_nil))))) (aa_nil))))))))
      (ass_nil))
      (ass_cons (as_if (aw_t (aw_or (at_cmp ao_is (ae_v 1) (ae_non)) (aw_or1 (at_tru (K := K) (ae_isi2 (K := K) (ae_v 1) m_isinstance m_bool m_str (by decide +kernel) (by decide +kernel))))))
      (ass_one (as_ret (ae_cmp (ao_eq (K := K) hr.units) (ae_callB (ac_repr (K := K) hgd (u200 hr)) m_repr (by decide +kernel) (aa_cons (ae_v 0) (aa_nil))) (ae_callB (ac_repr (K := K) hgd (u200 hr)) m_repr (by decide +kernel) (aa_cons (ae_v 1) (aa_nil))))))
      (ass_nil))
      (ass_one (as_ret (ae_and (K := K) (ae_isi (K := K) (ae_v 0) m_isinstance m_int (by decide +kernel)) (ae_and (K := K) (ae_not (K := K) (ae_isi (K := K) (ae_v 0) m_isinstance m_bool (by decide +kernel))) (ae_one (ae_cmp (ao_eq (K := K) hr.units) (ae_v 0) (ae_v 1))))))))⟩

abbrev st_law_gone : Stmt := topS 17
theorem sc_law_gone : FnScope ["_law_machine_here", "_law_stand", "_law_row", "_law_number"] ["_law_machine_here", "_law_stand", "_law_row"] (defScope st_law_gone) := ⟨rfl, rfl, rfl, by decide +kernel, rfl, by decide +kernel, by decide +kernel⟩
theorem ok_law_gone {P : Program} {w : World} {K : PySem.W.Frag} {mg : Str → Option Value} {base : Heap} {f : Addr} {fd : FuncData} (F : L2.Fun K "_law_gone" "_law_gone" st_law_gone f fd) (hm : mg "_law_gone" = some (.ref f)) (hb : Binds K fd ["_law_machine_here", "_law_stand", "_law_row"] []) : Cal P w K mg base 1 "_law_gone" 3 s_law_gone := by
  refine calA (b := a_law_gone) F sc_law_gone rfl hm hb ?_ (fun _ _ _ _ h => h)
  intro cdv A outer s H E hr hgd
  have hw : (Bs.nil ⟨w, mg⟩).g = ⟨w, mg⟩ := rfl
  exact ⟨_, ass_cons (as_for (ai_list (K := K) (ae_v 2)) (ag_name 3 (vs := [3]) sc_law_gone.nd rfl (.inl rfl))
      (ass_one (as_if (at_cmp ao_isnot (ae_v 1) (ae_non))
      (ass_one (as_set 1 sc_law_gone.nd (ae_ix (K := K) (ae_ix (K := K) (ae_ix (K := K) (ae_v 0) (ae_int)) (ae_v 1)) (ae_v 3)) rfl (.inl rfl)))
      (ass_nil))))
      (ass_one (as_ret (ae_v 1)))⟩

abbrev st_law_met : Stmt := topS 19
theorem sc_law_met : FnScope ["_law_machine_here", "_law_known", "_law_wait", "_law_at", "_law_goal_here"] ["_law_machine_here"] (defScope st_law_met) := ⟨rfl, rfl, rfl, by decide +kernel, rfl, by decide +kernel, by decide +kernel⟩
theorem ok_law_met {P : Program} {w : World} {K : PySem.W.Frag} {mg : Str → Option Value} {base : Heap} {f : Addr} {fd : FuncData} (F : L2.Fun K "_law_met" "_law_met" st_law_met f fd) (hm : mg "_law_met" = some (.ref f)) (hb : Binds K fd ["_law_machine_here"] []) (m_len : mg "len" = none) (m_sorted : mg "sorted" = none) : Cal P w K mg base 1 "_law_met" 1 s_law_met := by
  refine calA (b := a_law_met) F sc_law_met rfl hm hb ?_ (fun _ _ _ _ h => h)
  intro cdv A outer s H E hr hgd
  have hw : (Bs.nil ⟨w, mg⟩).g = ⟨w, mg⟩ := rfl
  exact ⟨_, ass_cons (as_set 1 sc_law_met.nd (ae_disp (aps_int (ae_bl) (aps_nil))) rfl (.inl rfl))
      (ass_cons (as_set 2 sc_law_met.nd (ae_lstM (aa_cons (ae_int) (aa_nil))) rfl (.inl rfl))
      (ass_cons (as_set 3 sc_law_met.nd (ae_int) rfl (.inl rfl))
      (ass_cons (as_while (at_cmp ao_lt (ae_v 3) (ae_callB (ac_len (K := K)) m_len (by decide +kernel) (aa_cons (ae_v 2) (aa_nil))))
      (ass_cons (as_for (ai_list (K := K) (ae_ix (K := K) (ae_ix (K := K) (ae_v 0) (ae_int)) (ae_ix (K := K) (ae_v 2) (ae_v 3)))) (ag_name 4 (vs := [4]) sc_law_met.nd rfl (.inl rfl))
      (ass_one (as_if (aw_t (aw_and (at_cmp ao_isnot (ae_v 4) (ae_non)) (aw_and1 (at_notInK (hu_of hr) (ae_v 4) (ae_v 1)))))
      (ass_cons (as_putK (hu_of hr) (ae_v 1) (ae_v 4) (ae_bl))
      (ass_one (as_expr (ae_meth (K := K) PySem.F.plainAttrs_list PySem.F.slot_list_append PySem.F.type_list_append am_append (ae_v 2) (aa_cons (ae_v 4) (aa_nil))))))
      (ass_nil))))
      (ass_one (as_set 3 sc_law_met.nd (ae_op (ao_add (K := K)) (ae_v 3) (ae_int)) rfl (.inl rfl)))))
      (ass_frz 2 (ass_one (as_ret (ae_callB (ac_sortL (K := K)) m_sorted (by decide +kernel) (aa_cons (ae_v 2) (aa_nil)))))))))⟩

abbrev st_law_longest : Stmt := topS 20
theorem sc_law_longest : FnScope ["_law_machine_here", "_law_some", "_law_stand", "_law_best", "_law_grown", "_law_goal_here"] ["_law_machine_here", "_law_some"] (defScope st_law_longest) := ⟨rfl, rfl, rfl, by decide +kernel, rfl, by decide +kernel, by decide +kernel⟩
theorem ok_law_longest {P : Program} {w : World} {K : PySem.W.Frag} {mg : Str → Option Value} {base : Heap} {f : Addr} {fd : FuncData} (F : L2.Fun K "_law_longest" "_law_longest" st_law_longest f fd) (hm : mg "_law_longest" = some (.ref f)) (hb : Binds K fd ["_law_machine_here", "_law_some"] []) (m_dict : mg "dict" = none) (m_len : mg "len" = none) : Cal P w K mg base 1 "_law_longest" 2 s_law_longest := by
  refine calA (b := a_law_longest) F sc_law_longest rfl hm hb ?_ (fun _ _ _ _ h => h)
  intro cdv A outer s H E hr hgd
  have hw : (Bs.nil ⟨w, mg⟩).g = ⟨w, mg⟩ := rfl
  exact ⟨_, ass_cons (as_set 3 sc_law_longest.nd (ae_callT (ac_dictP (K := K)) m_dict (by decide +kernel) (aa_cons (ae_lc [("_law_stand", 2)] sc_law_longest.nd (ai_list (K := K) (ae_v 1)) (blkOk_by (own := [("_law_stand", 2)]) (N := ["_law_machine_here", "_law_some", "_law_stand", "_law_best", "_law_grown", "_law_goal_here"]) (sc := defScope st_law_longest) (by decide +kernel)) (fun _ _ _ _ _ => ag_name 2 (vs := [2]) sc_law_longest.nd rfl (.inl rfl)) (fun _ _ _ _ _ => ats_one (at_tru (K := K) (ae_ix (K := K) (ae_ix (K := K) (ae_v 0) (ae_int)) (ae_v 2)))) (fun _ _ _ _ _ => ae_tup (aa_cons (ae_v 2) (aa_cons (ae_int) (aa_nil))))) (aa_nil))) rfl (.inl rfl))
      (ass_cons (as_set 4 sc_law_longest.nd (ae_bl) rfl (.inl rfl))
      (ass_cons (as_while (at_tru (K := K) (ae_v 4))
      (ass_cons (as_set 4 sc_law_longest.nd (ae_bl) rfl (.inl rfl))
      (ass_one (as_for (ai_list (K := K) (ae_revL (K := K) (ae_v 1))) (ag_name 2 (vs := [2]) sc_law_longest.nd rfl (.inl rfl))
      (ass_one (as_for (ai_list (K := K) (ae_ix (K := K) (ae_ix (K := K) (ae_v 0) (ae_int)) (ae_v 2))) (ag_name 5 (vs := [5]) sc_law_longest.nd rfl (.inl rfl))
      (ass_one (as_if (aw_t (aw_and (at_inN (g := ⟨w, mg⟩) (hu16 hr) (ae_v 5) (ae_v 3)) (aw_and1 (at_cmp ao_le (ae_get2 (hu_of hr) (ae_v 3) (ae_v 2) (ae_neg (ae_int))) (ae_getK (hu_of hr) (ae_v 3) (ae_v 5))))))
      (ass_cons (as_putK (hu_of hr) (ae_v 3) (ae_v 2) (ae_op (ao_add (K := K)) (ae_getK (hu_of hr) (ae_v 3) (ae_v 5)) (ae_int)))
      (ass_cons (as_set 4 sc_law_longest.nd (ae_bl) rfl (.inl rfl))
      (ass_one (as_if (at_cmp (ao_eq (K := K) hr.units) (ae_getK (hu_of hr) (ae_v 3) (ae_v 2)) (ae_callB (ac_len (K := K)) m_len (by decide +kernel) (aa_cons (ae_v 1) (aa_nil))))
      (ass_one (as_ret (ae_non)))
      (ass_nil)))))
      (ass_nil)))))))))
      (ass_frz 3 (ass_one (as_ret (ae_v 3))))))⟩

abbrev st_law_is_row : Stmt := topS 23
theorem sc_law_is_row : FnScope ["_law_machine_here", "_law_thing", "_law_one"] ["_law_machine_here", "_law_thing"] (defScope st_law_is_row) := ⟨rfl, rfl, rfl, by decide +kernel, rfl, by decide +kernel, by decide +kernel⟩
theorem ok_law_is_row {P : Program} {w : World} {K : PySem.W.Frag} {mg : Str → Option Value} {base : Heap} {f : Addr} {fd : FuncData} (F : L2.Fun K "_law_is_row" "_law_is_row" st_law_is_row f fd) (hm : mg "_law_is_row" = some (.ref f)) (hb : Binds K fd ["_law_machine_here", "_law_thing"] []) (m_bool : mg "bool" = none) (m_int : mg "int" = none) (m_isinstance : mg "isinstance" = none) (m_len : mg "len" = none) (m_list : mg "list" = none) : Cal P w K mg base 1 "_law_is_row" 2 s_law_is_row := by
  refine calA (b := a_law_is_row) F sc_law_is_row rfl hm hb ?_ (fun _ _ _ _ h => h)
  intro cdv A outer s H E hr hgd
  have hw : (Bs.nil ⟨w, mg⟩).g = ⟨w, mg⟩ := rfl
  exact ⟨_, ass_cons (as_if (aw_t (aw_or (at_not (at_tru (K := K) (ae_isi (K := K) (ae_v 1) m_isinstance m_list (by decide +kernel)))) (aw_or1 (at_cmp ao_gt (ae_callB (ac_len (K := K)) m_len (by decide +kernel) (aa_cons (ae_v 1) (aa_nil))) (ae_callB (ac_len (K := K)) m_len (by decide +kernel) (aa_cons (ae_ix (K := K) (ae_v 0) (ae_int)) (aa_nil)))))))
      (ass_one (as_ret (ae_bl)))
      (ass_nil))
      (ass_cons (as_for (ai_list (K := K) (ae_v 1)) (ag_name 2 (vs := [2]) sc_law_is_row.nd rfl (.inl rfl))
      (ass_one (as_if (aw_t (aw_or (at_not (at_tru (K := K) (ae_isi (K := K) (ae_v 2) m_isinstance m_int (by decide +kernel)))) (aw_or (at_tru (K := K) (ae_isi (K := K) (ae_v 2) m_isinstance m_bool (by decide +kernel))) (aw_or1 (at_not (at_chain ao_le ao_lt (ae_int) (ae_v 2) (ae_callB (ac_len (K := K)) m_len (by decide +kernel) (aa_cons (ae_ix (K := K) (ae_ix (K := K) (ae_v 0) (ae_int)) (ae_int)) (aa_nil)))))))))
      (ass_one (as_ret (ae_bl)))
      (ass_nil))))
      (ass_one (as_ret (ae_bl))))⟩

abbrev st_useful_stands : Stmt := topS 4
theorem sc_useful_stands : FnScope ["machine", "living", "stand"] ["machine"] (defScope st_useful_stands) := ⟨rfl, rfl, rfl, by decide +kernel, rfl, by decide +kernel, by decide +kernel⟩
theorem ok_useful_stands {P : Program} {w : World} {K : PySem.W.Frag} {mg : Str → Option Value} {base : Heap} {f : Addr} {fd : FuncData} (F : L2.Fun K "useful_stands" "useful_stands" st_useful_stands f fd) (hm : mg "useful_stands" = some (.ref f)) (hb : Binds K fd ["machine"] []) (m_dict : mg "dict" = none) (c_met : Cal P w K mg base 1 "met" 1 s_met) (c_alive : Cal P w K mg base 1 "alive" 1 s_alive) : Cal P w K mg base 2 "useful_stands" 1 s_useful_stands := by
  refine calA (b := a_useful_stands) F sc_useful_stands rfl hm hb ?_ (fun _ _ _ _ h => h)
  intro cdv A outer s H E hr hgd
  have hw : (Bs.nil ⟨w, mg⟩).g = ⟨w, mg⟩ := rfl
  exact ⟨_, ass_cons (as_set 1 sc_useful_stands.nd (ae_callT (ac_dictP (K := K)) m_dict (by decide +kernel) (aa_cons (ae_lc [("stand", 2)] sc_useful_stands.nd (ai_list (K := K) (ae_call (K := K) (g := ⟨w, mg⟩) c_alive hr hgd (aa_cons (ae_v 0) (aa_nil)))) (blkOk_by (own := [("stand", 2)]) (N := ["machine", "living", "stand"]) (sc := defScope st_useful_stands) (by decide +kernel)) (fun _ _ _ _ _ => ag_name 2 (vs := [2]) sc_useful_stands.nd rfl (.inl rfl)) (fun _ _ _ _ _ => ats_nil) (fun _ _ _ _ _ => ae_tup (aa_cons (ae_v 2) (aa_cons (ae_bl) (aa_nil))))) (aa_nil))) rfl (.inr rfl))
      (ass_one (as_ret (ae_lc [("stand", 2)] sc_useful_stands.nd (ai_list (K := K) (ae_call (K := K) (g := ⟨w, mg⟩) c_met hr hgd (aa_cons (ae_v 0) (aa_nil)))) (blkOk_by (own := [("stand", 2)]) (N := ["machine", "living", "stand"]) (sc := defScope st_useful_stands) (by decide +kernel)) (fun _ _ _ _ _ => ag_name 2 (vs := [2]) sc_useful_stands.nd rfl (.inl rfl)) (fun _ _ _ _ _ => ats_one (at_inK (hu_of hr) (ae_v 2) (ae_v 1))) (fun _ _ _ _ _ => ae_v 2))))⟩

abbrev st_law_take : Stmt := topS 12
theorem sc_law_take : FnScope ["_law_pen_here", "_law_most", "_law_k", "_law_script", "_law_cell", "_law_got"] ["_law_pen_here", "_law_most"] (defScope st_law_take) := ⟨rfl, rfl, rfl, by decide +kernel, rfl, by decide +kernel, by decide +kernel⟩
theorem ok_law_take {P : Program} {w : World} {K : PySem.W.Frag} {mg : Str → Option Value} {base : Heap} {f : Addr} {fd : FuncData} (F : L2.Fun K "_law_take" "_law_take" st_law_take f fd) (hm : mg "_law_take" = some (.ref f)) (hb : Binds K fd ["_law_pen_here", "_law_most"] []) (m_abs : mg "abs" = none) (m_len : mg "len" = none) (c_law_mixed : Cal P w K mg base 1 "_law_mixed" 2 s_law_mixed) : Cal P w K mg base 2 "_law_take" 2 s_law_take := by
  refine calA (b := a_law_take) F sc_law_take rfl hm hb ?_ (fun _ _ _ _ h => h)
  intro cdv A outer s H E hr hgd
  have hw : (Bs.nil ⟨w, mg⟩).g = ⟨w, mg⟩ := rfl
  exact ⟨_, ass_cons (as_set 2 sc_law_take.nd (ae_getK (hu_of hr) (ae_v 0) (ae_str)) rfl (.inl rfl))
      (ass_cons (as_set 3 sc_law_take.nd (ae_getK (hu_of hr) (ae_v 0) (ae_str)) rfl (.inl rfl))
      (ass_cons (as_if (at_cmp (ao_eq (K := K) hr.units) (ae_getK (hu_of hr) (ae_v 0) (ae_str)) (ae_int))
      (ass_cons (as_putK (hu_of hr) (ae_v 0) (ae_str) (ae_op (ao_add (K := K)) (ae_v 2) (ae_int)))
      (ass_cons (as_set 4 sc_law_take.nd (ae_int) rfl (.inl rfl))
      (ass_cons (as_if (at_cmp ao_gt (ae_callB (ac_len (K := K)) m_len (by decide +kernel) (aa_cons (ae_v 3) (aa_nil))) (ae_int))
      (ass_one (as_set 4 sc_law_take.nd (ae_ix (K := K) (ae_v 3) (ae_op ao_mod (ae_v 2) (ae_callB (ac_len (K := K)) m_len (by decide +kernel) (aa_cons (ae_v 3) (aa_nil))))) rfl (.inl rfl)))
      (ass_nil))
      (ass_cons (as_if (aw_t (aw_or (at_cmp ao_ge (ae_v 2) (ae_callB (ac_len (K := K)) m_len (by decide +kernel) (aa_cons (ae_v 3) (aa_nil)))) (aw_or1 (at_cmp ao_lt (ae_callB ac_abs m_abs (by decide +kernel) (aa_cons (ae_v 4) (aa_nil))) (ae_op ao_pow (ae_int) (ae_int))))))
      (ass_one (as_ret (ae_op ao_mod (ae_call (K := K) (g := ⟨w, mg⟩) c_law_mixed hr hgd (aa_cons (ae_v 4) (aa_cons (ae_v 2) (aa_nil)))) (ae_v 1))))
      (ass_nil))
      (ass_one (as_putK (hu_of hr) (ae_v 0) (ae_str) (ae_callB ac_abs m_abs (by decide +kernel) (aa_cons (ae_v 4) (aa_nil)))))))))
      (ass_nil))
      (ass_cons (as_set 5 sc_law_take.nd (ae_op ao_mod (ae_getK (hu_of hr) (ae_v 0) (ae_str)) (ae_v 1)) rfl (.inl rfl))
      (ass_cons (as_putK (hu_of hr) (ae_v 0) (ae_str) (ae_op ao_div (ae_getK (hu_of hr) (ae_v 0) (ae_str)) (ae_v 1)))
      (ass_one (as_ret (ae_v 5)))))))⟩

abbrev st_law_goes_round : Stmt := topS 24
theorem sc_law_goes_round : FnScope ["_law_machine_here", "_law_told", "_law_stand", "_law_goal_here", "_law_row"] ["_law_machine_here", "_law_told"] (defScope st_law_goes_round) := ⟨rfl, rfl, rfl, by decide +kernel, rfl, by decide +kernel, by decide +kernel⟩
theorem ok_law_goes_round {P : Program} {w : World} {K : PySem.W.Frag} {mg : Str → Option Value} {base : Heap} {f : Addr} {fd : FuncData} (F : L2.Fun K "_law_goes_round" "_law_goes_round" st_law_goes_round f fd) (hm : mg "_law_goes_round" = some (.ref f)) (hb : Binds K fd ["_law_machine_here", "_law_told"] []) (m_all : mg "all" = none) (m_len : mg "len" = none) (c_law_gone : Cal P w K mg base 1 "_law_gone" 3 s_law_gone) (c_law_is_row : Cal P w K mg base 1 "_law_is_row" 2 s_law_is_row) : Cal P w K mg base 2 "_law_goes_round" 2 s_law_goes_round := by
  refine calA (b := a_law_goes_round) F sc_law_goes_round rfl hm hb ?_ (fun _ _ _ _ h => h)
  intro cdv A outer s H E hr hgd
  have hw : (Bs.nil ⟨w, mg⟩).g = ⟨w, mg⟩ := rfl
  exact ⟨_, ass_cons (as_if (aw_t (aw_or (at_cmp (ao_ne (K := K) hr.units) (ae_callB (ac_len (K := K)) m_len (by decide +kernel) (aa_cons (ae_v 1) (aa_nil))) (ae_int)) (aw_or (at_cmp (ao_ne (K := K) hr.units) (ae_ix (K := K) (ae_v 1) (ae_int)) (ae_str)) (aw_or1 (at_cmp (ao_eq (K := K) hr.units) (ae_ix (K := K) (ae_v 1) (ae_int)) (ae_lst (aa_nil)))))))
      (ass_one (as_ret (ae_bl)))
      (ass_nil))
      (ass_cons (as_if (at_not (at_tru (K := K) (ae_callB (ac_all (K := K)) m_all (by decide +kernel) (aa_cons (ae_lc [("_law_row", 4)] sc_law_goes_round.nd (ai_tup (K := K) (ae_cut (K := K) (ae_v 1) (ao_some (ae_int)) ao_none)) (blkOk_by (own := [("_law_row", 4)]) (N := ["_law_machine_here", "_law_told", "_law_stand", "_law_goal_here", "_law_row"]) (sc := defScope st_law_goes_round) (by decide +kernel)) (fun _ _ _ _ _ => ag_name 4 (vs := [4]) sc_law_goes_round.nd rfl (.inl rfl)) (fun _ _ _ _ _ => ats_nil) (fun _ _ _ _ _ => ae_call (K := K) (g := ⟨w, mg⟩) c_law_is_row hr hgd (aa_cons (ae_v 0) (aa_cons (ae_v 4) (aa_nil))))) (aa_nil)))))
      (ass_one (as_ret (ae_bl)))
      (ass_nil))
      (ass_cons (as_set 2 sc_law_goes_round.nd (ae_call (K := K) (g := ⟨w, mg⟩) c_law_gone hr hgd (aa_cons (ae_v 0) (aa_cons (ae_int) (aa_cons (ae_ix (K := K) (ae_v 1) (ae_int)) (aa_nil))))) rfl (.inl rfl))
      (ass_cons (as_if (aw_t (aw_or (at_cmp ao_is (ae_v 2) (ae_non)) (aw_or1 (at_cmp (ao_ne (K := K) hr.units) (ae_call (K := K) (g := ⟨w, mg⟩) c_law_gone hr hgd (aa_cons (ae_v 0) (aa_cons (ae_v 2) (aa_cons (ae_ix (K := K) (ae_v 1) (ae_int)) (aa_nil))))) (ae_v 2)))))
      (ass_one (as_ret (ae_bl)))
      (ass_nil))
      (ass_cons (as_set 3 sc_law_goes_round.nd (ae_call (K := K) (g := ⟨w, mg⟩) c_law_gone hr hgd (aa_cons (ae_v 0) (aa_cons (ae_v 2) (aa_cons (ae_ix (K := K) (ae_v 1) (ae_int)) (aa_nil))))) rfl (.inl rfl))
      (ass_one (as_ret (ae_and (K := K) (ae_cmp ao_isnot (ae_v 3) (ae_non)) (ae_one (ae_ix (K := K) (ae_ix (K := K) (ae_v 0) (ae_int)) (ae_v 3))))))))))⟩

abbrev st_span : Stmt := topS 8
theorem sc_span : FnScope ["machine", "some", "ranks", "stand", "left", "again", "ends", "goal"] ["machine"] (defScope st_span) := ⟨rfl, rfl, rfl, by decide +kernel, rfl, by decide +kernel, by decide +kernel⟩
theorem ok_span {P : Program} {w : World} {K : PySem.W.Frag} {mg : Str → Option Value} {base : Heap} {f : Addr} {fd : FuncData} (F : L2.Fun K "span" "span" st_span f fd) (hm : mg "span" = some (.ref f)) (hb : Binds K fd ["machine"] []) (m_len : mg "len" = none) (m_range : mg "range" = none) (c_met : Cal P w K mg base 1 "met" 1 s_met) (c_ranks_of : Cal P w K mg base 1 "ranks_of" 2 s_ranks_of) (c_row_to : Cal P w K mg base 1 "row_to" 3 s_row_to) (c_ring_of : Cal P w K mg base 1 "ring_of" 2 s_ring_of) (c_useful_stands : Cal P w K mg base 2 "useful_stands" 1 s_useful_stands) : Cal P w K mg base 3 "span" 1 s_span := by
  refine calA (b := a_span) F sc_span rfl hm hb ?_ (fun _ _ _ _ h => h)
  intro cdv A outer s H E hr hgd
  have hw : (Bs.nil ⟨w, mg⟩).g = ⟨w, mg⟩ := rfl
  exact ⟨_, ass_cons (as_set 1 sc_span.nd (ae_call (K := K) (g := ⟨w, mg⟩) c_useful_stands hr hgd (aa_cons (ae_v 0) (aa_nil))) rfl (.inl rfl))
      (ass_cons (as_if (at_cmp ao_ninL (ae_int) (ae_v 1))
      (ass_one (as_ret (ae_tup (aa_cons (ae_str) (aa_cons (ae_call (K := K) (g := ⟨w, mg⟩) c_met hr hgd (aa_cons (ae_v 0) (aa_nil))) (aa_nil))))))
      (ass_nil))
      (ass_cons (as_set 2 sc_span.nd (ae_call (K := K) (g := ⟨w, mg⟩) c_ranks_of hr hgd (aa_cons (ae_v 0) (aa_cons (ae_v 1) (aa_nil)))) rfl (.inr rfl))
      (ass_cons (as_setLc 4 [("stand", 3)] sc_span.nd (ai_list (K := K) (ae_v 1)) (sw_true rfl rfl rfl (by decide +kernel)) (blkOk_by (own := [("stand", 3)]) (N := ["machine", "some", "ranks", "stand", "left", "again", "ends", "goal"]) (sc := defScope st_span) (by decide +kernel)) (fun _ _ _ _ _ => ag_name 3 (vs := [3]) sc_span.nd rfl (.inl rfl)) (fun _ _ _ _ _ => ats_one (at_notInK (hu_of hr) (ae_v 3) (ae_v 2))) (fun _ _ _ _ _ => ae_v 3))
      (ass_cons (as_if (at_cmp (ao_eq (K := K) hr.units) (ae_v 4) (ae_lst (aa_nil)))
      (ass_one (as_ret (ae_tup (aa_cons (ae_str) (aa_cons (ae_lcM [("stand", 3)] sc_span.nd (ai_range1 m_range (aa_cons (ae_callB (ac_len (K := K)) m_len (by decide +kernel) (aa_cons (ae_ix (K := K) (ae_v 0) (ae_int)) (aa_nil))) (aa_nil))) (blkOk_by (own := [("stand", 3)]) (N := ["machine", "some", "ranks", "stand", "left", "again", "ends", "goal"]) (sc := defScope st_span) (by decide +kernel)) (fun _ _ _ _ _ => ag_name 3 (vs := [3]) sc_span.nd rfl (.inl rfl)) (fun _ _ _ _ _ => ats_nil) (fun _ _ _ _ _ => ae_get2 (hu_of hr) (ae_v 2) (ae_v 3) (ae_non))) (aa_nil))))))
      (ass_nil))
      (ass_cons (as_asg (ae_call (K := K) (g := ⟨w, mg⟩) c_ring_of hr hgd (aa_cons (ae_v 0) (aa_cons (ae_v 4) (aa_nil)))) (ag_tup (K := K) (ags_cons (ag_name 3 (vs := [3, 5]) sc_span.nd rfl (.inl rfl)) (ags_cons (ag_name 5 (vs := [3, 5]) sc_span.nd rfl (.inl rfl)) (ags_nil)))))
      (ass_cons (as_setLc 6 [("goal", 7)] sc_span.nd (ai_list (K := K) (ae_v 1)) (sw_true rfl rfl rfl (by decide +kernel)) (blkOk_by (own := [("goal", 7)]) (N := ["machine", "some", "ranks", "stand", "left", "again", "ends", "goal"]) (sc := defScope st_span) (by decide +kernel)) (fun _ _ _ _ _ => ag_name 7 (vs := [7]) sc_span.nd rfl (.inl rfl)) (fun _ _ _ _ _ => ats_one (at_tru (K := K) (ae_ix (K := K) (ae_ix (K := K) (ae_v 0) (ae_int)) (ae_v 7)))) (fun _ _ _ _ _ => ae_v 7))
      (ass_one (as_ret (ae_tup (aa_cons (ae_str) (aa_cons (ae_call (K := K) (g := ⟨w, mg⟩) c_row_to hr hgd (aa_cons (ae_v 0) (aa_cons (ae_int) (aa_cons (ae_lst (aa_cons (ae_v 3) (aa_nil))) (aa_nil))))) (aa_cons (ae_v 5) (aa_cons (ae_call (K := K) (g := ⟨w, mg⟩) c_row_to hr hgd (aa_cons (ae_v 0) (aa_cons (ae_v 3) (aa_cons (ae_v 6) (aa_nil))))) (aa_nil))))))))))))))⟩

abbrev st_law_signs : Stmt := topS 13
theorem sc_law_signs : FnScope ["_law_pen_here"] ["_law_pen_here"] (defScope st_law_signs) := ⟨rfl, rfl, rfl, by decide +kernel, rfl, by decide +kernel, by decide +kernel⟩
theorem ok_law_signs {P : Program} {w : World} {K : PySem.W.Frag} {mg : Str → Option Value} {base : Heap} {f : Addr} {fd : FuncData} (F : L2.Fun K "_law_signs" "_law_signs" st_law_signs f fd) (hm : mg "_law_signs" = some (.ref f)) (hb : Binds K fd ["_law_pen_here"] []) (c_law_take : Cal P w K mg base 2 "_law_take" 2 s_law_take) : Cal P w K mg base 3 "_law_signs" 1 s_law_signs := by
  refine calA (b := a_law_signs) F sc_law_signs rfl hm hb ?_ (fun _ _ _ _ h => h)
  intro cdv A outer s H E hr hgd
  have hw : (Bs.nil ⟨w, mg⟩).g = ⟨w, mg⟩ := rfl
  exact ⟨_, ass_one (as_ret (ae_ix (K := K) (ae_lst (aa_cons (ae_int) (aa_cons (ae_int) (aa_cons (ae_int) (aa_cons (ae_int) (aa_cons (ae_int) (aa_cons (ae_int) (aa_cons (ae_int) (aa_cons (ae_op (ao_add (K := K)) (ae_int) (ae_call (K := K) (g := ⟨w, mg⟩) c_law_take hr hgd (aa_cons (ae_v 0) (aa_cons (ae_int) (aa_nil))))) (aa_nil)))))))))) (ae_call (K := K) (g := ⟨w, mg⟩) c_law_take hr hgd (aa_cons (ae_v 0) (aa_cons (ae_int) (aa_nil))))))⟩

abbrev st_law_goal : Stmt := topS 14
theorem sc_law_goal : FnScope ["_law_pen_here", "_law_stand", "_law_stands", "_law_way", "_law_goal_here"] ["_law_pen_here", "_law_stand", "_law_stands", "_law_way"] (defScope st_law_goal) := ⟨rfl, rfl, rfl, by decide +kernel, rfl, by decide +kernel, by decide +kernel⟩
theorem ok_law_goal {P : Program} {w : World} {K : PySem.W.Frag} {mg : Str → Option Value} {base : Heap} {f : Addr} {fd : FuncData} (F : L2.Fun K "_law_goal" "_law_goal" st_law_goal f fd) (hm : mg "_law_goal" = some (.ref f)) (hb : Binds K fd ["_law_pen_here", "_law_stand", "_law_stands", "_law_way"] []) (c_law_take : Cal P w K mg base 2 "_law_take" 2 s_law_take) : Cal P w K mg base 3 "_law_goal" 4 s_law_goal := by
  refine calA (b := a_law_goal) F sc_law_goal rfl hm hb ?_ (fun _ _ _ _ h => h)
  intro cdv A outer s H E hr hgd
  have hw : (Bs.nil ⟨w, mg⟩).g = ⟨w, mg⟩ := rfl
  exact ⟨_, ass_cons (as_set 4 sc_law_goal.nd (ae_call (K := K) (g := ⟨w, mg⟩) c_law_take hr hgd (aa_cons (ae_v 0) (aa_cons (ae_op (ao_add (K := K)) (ae_v 2) (ae_int)) (aa_nil)))) rfl (.inl rfl))
      (ass_cons (as_if (aw_t (aw_or (at_cmp (ao_eq (K := K) hr.units) (ae_v 4) (ae_v 2)) (aw_or1 (aw_t (aw_and (at_cmp (ao_eq (K := K) hr.units) (ae_v 3) (ae_int)) (aw_and1 (at_cmp ao_le (ae_v 4) (ae_v 1))))))))
      (ass_one (as_ret (ae_non)))
      (ass_nil))
      (ass_one (as_ret (ae_v 4))))⟩

abbrev st_law_ring : Stmt := topS 21
theorem sc_law_ring : FnScope ["_law_pen_here", "_law_signs_here", "_law_many", "_law_goes", "_law_stand", "_law_row"] ["_law_pen_here", "_law_signs_here"] (defScope st_law_ring) := ⟨rfl, rfl, rfl, by decide +kernel, rfl, by decide +kernel, by decide +kernel⟩
theorem ok_law_ring {P : Program} {w : World} {K : PySem.W.Frag} {mg : Str → Option Value} {base : Heap} {f : Addr} {fd : FuncData} (F : L2.Fun K "_law_ring" "_law_ring" st_law_ring f fd) (hm : mg "_law_ring" = some (.ref f)) (hb : Binds K fd ["_law_pen_here", "_law_signs_here"] []) (m_range : mg "range" = none) (c_law_take : Cal P w K mg base 2 "_law_take" 2 s_law_take) : Cal P w K mg base 3 "_law_ring" 2 s_law_ring := by
  refine calA (b := a_law_ring) F sc_law_ring rfl hm hb ?_ (fun _ _ _ _ h => h)
  intro cdv A outer s H E hr hgd
  have hw : (Bs.nil ⟨w, mg⟩).g = ⟨w, mg⟩ := rfl
  exact ⟨_, ass_cons (as_set 2 sc_law_ring.nd (ae_op (ao_add (K := K)) (ae_int) (ae_call (K := K) (g := ⟨w, mg⟩) c_law_take hr hgd (aa_cons (ae_v 0) (aa_cons (ae_int) (aa_nil))))) rfl (.inr rfl))
      (ass_cons (as_set 3 sc_law_ring.nd (ae_lstM (aa_nil)) rfl (.inl rfl))
      (ass_cons (as_for (ai_range1 m_range (aa_cons (ae_v 2) (aa_nil))) (ag_name 4 (vs := [4]) sc_law_ring.nd rfl (.inl rfl))
      (ass_cons (as_set 5 sc_law_ring.nd (ae_op ao_repL (ae_lst (aa_cons (ae_non) (aa_nil))) (ae_v 1)) rfl (.inl rfl))
      (ass_cons (as_setL (ae_op ao_mod (ae_op (ao_add (K := K)) (ae_v 4) (ae_int)) (ae_op ao_sub (ae_v 2) (ae_int))) (ae_v 5) (ae_call (K := K) (g := ⟨w, mg⟩) c_law_take hr hgd (aa_cons (ae_v 0) (aa_cons (ae_v 1) (aa_nil)))))
      (ass_one (as_expr (ae_meth (K := K) PySem.F.plainAttrs_list PySem.F.slot_list_append PySem.F.type_list_append am_append (ae_v 3) (aa_cons (ae_v 5) (aa_nil))))))))
      (ass_cons (as_setL (ae_op ao_sub (ae_v 2) (ae_int)) (ae_ix (K := K) (ae_v 3) (ae_call (K := K) (g := ⟨w, mg⟩) c_law_take hr hgd (aa_cons (ae_v 0) (aa_cons (ae_op ao_sub (ae_v 2) (ae_int)) (aa_nil))))) (ae_call (K := K) (g := ⟨w, mg⟩) c_law_take hr hgd (aa_cons (ae_v 0) (aa_cons (ae_v 1) (aa_nil)))))
      (ass_cons (as_setL (ae_op ao_repL (ae_lst (aa_cons (ae_non) (aa_nil))) (ae_v 1)) (ae_v 3) (ae_op ao_sub (ae_v 2) (ae_int)))
      (ass_frz 3 (ass_frzIn 3 (ass_one (as_ret (ae_tup (aa_cons (ae_lc [("_law_stand", 4)] sc_law_ring.nd (ai_range1 m_range (aa_cons (ae_v 2) (aa_nil))) (blkOk_by (own := [("_law_stand", 4)]) (N := ["_law_pen_here", "_law_signs_here", "_law_many", "_law_goes", "_law_stand", "_law_row"]) (sc := defScope st_law_ring) (by decide +kernel)) (fun _ _ _ _ _ => ag_name 4 (vs := [4]) sc_law_ring.nd rfl (.inl rfl)) (fun _ _ _ _ _ => ats_nil) (fun _ _ _ _ _ => ae_cmp (ao_eq (K := K) hr.units) (ae_v 4) (ae_op ao_sub (ae_v 2) (ae_int)))) (aa_cons (ae_v 3) (aa_nil))))))))))))⟩

abbrev st_law_chain : Stmt := topS 22
theorem sc_law_chain : FnScope ["_law_pen_here", "_law_many", "_law_goes", "_law_stand"] ["_law_pen_here"] (defScope st_law_chain) := ⟨rfl, rfl, rfl, by decide +kernel, rfl, by decide +kernel, by decide +kernel⟩
theorem ok_law_chain {P : Program} {w : World} {K : PySem.W.Frag} {mg : Str → Option Value} {base : Heap} {f : Addr} {fd : FuncData} (F : L2.Fun K "_law_chain" "_law_chain" st_law_chain f fd) (hm : mg "_law_chain" = some (.ref f)) (hb : Binds K fd ["_law_pen_here"] []) (m_range : mg "range" = none) (c_law_take : Cal P w K mg base 2 "_law_take" 2 s_law_take) : Cal P w K mg base 3 "_law_chain" 1 s_law_chain := by
  refine calA (b := a_law_chain) F sc_law_chain rfl hm hb ?_ (fun _ _ _ _ h => h)
  intro cdv A outer s H E hr hgd
  have hw : (Bs.nil ⟨w, mg⟩).g = ⟨w, mg⟩ := rfl
  exact ⟨_, ass_cons (as_set 1 sc_law_chain.nd (ae_op (ao_add (K := K)) (ae_int) (ae_call (K := K) (g := ⟨w, mg⟩) c_law_take hr hgd (aa_cons (ae_v 0) (aa_cons (ae_int) (aa_nil))))) rfl (.inr rfl))
      (ass_cons (as_setLcM 2 [("_law_stand", 3)] sc_law_chain.nd (ai_range1 m_range (aa_cons (ae_v 1) (aa_nil))) (sw_true rfl rfl rfl (by decide +kernel)) (blkOk_by (own := [("_law_stand", 3)]) (N := ["_law_pen_here", "_law_many", "_law_goes", "_law_stand"]) (sc := defScope st_law_chain) (by decide +kernel)) (fun _ _ _ _ _ => ag_name 3 (vs := [3]) sc_law_chain.nd rfl (.inl rfl)) (fun _ _ _ _ _ => ats_nil) (fun _ _ _ _ _ => ae_lst (aa_cons (ae_op (ao_add (K := K)) (ae_v 3) (ae_int)) (aa_nil))))
      (ass_cons (as_setL (ae_lst (aa_cons (ae_ix (K := K) (ae_lst (aa_cons (ae_non) (aa_cons (ae_call (K := K) (g := ⟨w, mg⟩) c_law_take hr hgd (aa_cons (ae_v 0) (aa_cons (ae_op ao_div (ae_v 1) (ae_int)) (aa_nil)))) (aa_nil)))) (ae_call (K := K) (g := ⟨w, mg⟩) c_law_take hr hgd (aa_cons (ae_v 0) (aa_cons (ae_int) (aa_nil))))) (aa_nil))) (ae_v 2) (ae_op ao_sub (ae_v 1) (ae_int)))
      (ass_frz 2 (ass_one (as_ret (ae_tup (aa_cons (ae_lc [("_law_stand", 3)] sc_law_chain.nd (ai_range1 m_range (aa_cons (ae_v 1) (aa_nil))) (blkOk_by (own := [("_law_stand", 3)]) (N := ["_law_pen_here", "_law_many", "_law_goes", "_law_stand"]) (sc := defScope st_law_chain) (by decide +kernel)) (fun _ _ _ _ _ => ag_name 3 (vs := [3]) sc_law_chain.nd rfl (.inl rfl)) (fun _ _ _ _ _ => ats_nil) (fun _ _ _ _ _ => ae_cmp (ao_eq (K := K) hr.units) (ae_v 3) (ae_op ao_sub (ae_v 1) (ae_int)))) (aa_cons (ae_v 2) (aa_nil)))))))))⟩

abbrev st_law_machine : Stmt := topS 15
theorem sc_law_machine : FnScope ["_law_pen_here", "_law_signs_here", "_law_most", "_law_stands", "_law_way", "_law_fence", "_law_ends", "_law_goes", "_law_stand", "_law_row", "_law_number", "_law_goal_here"] ["_law_pen_here", "_law_signs_here", "_law_most"] (defScope st_law_machine) := ⟨rfl, rfl, rfl, by decide +kernel, rfl, by decide +kernel, by decide +kernel⟩
theorem ok_law_machine {P : Program} {w : World} {K : PySem.W.Frag} {mg : Str → Option Value} {base : Heap} {f : Addr} {fd : FuncData} (F : L2.Fun K "_law_machine" "_law_machine" st_law_machine f fd) (hm : mg "_law_machine" = some (.ref f)) (hb : Binds K fd ["_law_pen_here", "_law_signs_here", "_law_most"] []) (m_int : mg "int" = none) (m_range : mg "range" = none) (c_law_take : Cal P w K mg base 2 "_law_take" 2 s_law_take) (c_law_goal : Cal P w K mg base 3 "_law_goal" 4 s_law_goal) : Cal P w K mg base 4 "_law_machine" 3 s_law_machine := by
  refine calA (b := a_law_machine) F sc_law_machine rfl hm hb ?_ (fun _ _ _ _ h => h)
  intro cdv A outer s H E hr hgd
  have hw : (Bs.nil ⟨w, mg⟩).g = ⟨w, mg⟩ := rfl
  exact ⟨_, ass_cons (as_set 3 sc_law_machine.nd (ae_op (ao_add (K := K)) (ae_int) (ae_call (K := K) (g := ⟨w, mg⟩) c_law_take hr hgd (aa_cons (ae_v 0) (aa_cons (ae_v 2) (aa_nil))))) rfl (.inr rfl))
      (ass_cons (as_set 4 sc_law_machine.nd (ae_call (K := K) (g := ⟨w, mg⟩) c_law_take hr hgd (aa_cons (ae_v 0) (aa_cons (ae_int) (aa_nil)))) rfl (.inr rfl))
      (ass_cons (as_set 5 sc_law_machine.nd (ae_op (ao_add (K := K)) (ae_int) (ae_call (K := K) (g := ⟨w, mg⟩) c_law_take hr hgd (aa_cons (ae_v 0) (aa_cons (ae_v 3) (aa_nil))))) rfl (.inr rfl))
      (ass_cons (as_set 6 sc_law_machine.nd (ae_lstM (aa_nil)) rfl (.inl rfl))
      (ass_cons (as_set 7 sc_law_machine.nd (ae_lstM (aa_nil)) rfl (.inl rfl))
      (ass_cons (as_for (ai_range1 m_range (aa_cons (ae_v 3) (aa_nil))) (ag_name 8 (vs := [8]) sc_law_machine.nd rfl (.inr rfl))
      (ass_cons (as_expr (ae_meth (K := K) PySem.F.plainAttrs_list PySem.F.slot_list_append PySem.F.type_list_append am_append (ae_v 6) (aa_cons (ae_cmp (ao_eq (K := K) hr.units) (ae_call (K := K) (g := ⟨w, mg⟩) c_law_take hr hgd (aa_cons (ae_v 0) (aa_cons (ae_int) (aa_nil)))) (ae_int)) (aa_nil))))
      (ass_cons (as_setLc 9 [("_law_number", 10)] sc_law_machine.nd (ai_range1 m_range (aa_cons (ae_v 1) (aa_nil))) (sw_true rfl rfl rfl (by decide +kernel)) (blkOk_by (own := [("_law_number", 10)]) (N := ["_law_pen_here", "_law_signs_here", "_law_most", "_law_stands", "_law_way", "_law_fence", "_law_ends", "_law_goes", "_law_stand", "_law_row", "_law_number", "_law_goal_here"]) (sc := defScope st_law_machine) (by decide +kernel)) (fun _ _ _ _ _ => ag_name 10 (vs := [10]) sc_law_machine.nd rfl (.inl rfl)) (fun _ _ _ _ _ => ats_nil) (fun _ _ _ _ _ => ae_call (K := K) (g := ⟨w, mg⟩) c_law_goal hr hgd (aa_cons (ae_v 0) (aa_cons (ae_v 8) (aa_cons (ae_v 3) (aa_cons (ae_v 4) (aa_nil)))))))
      (ass_cons (as_if (aw_t (aw_and (at_cmp (ao_eq (K := K) hr.units) (ae_v 4) (ae_int)) (aw_and1 (at_cmp ao_lt (ae_v 8) (ae_v 5)))))
      (ass_cons (as_setL (ae_bl) (ae_v 6) (ae_v 8))
      (ass_one (as_setLc 9 [("_law_goal_here", 11)] sc_law_machine.nd (ai_list (K := K) (ae_v 9)) (sw_true rfl rfl rfl (by decide +kernel)) (blkOk_by (own := [("_law_goal_here", 11)]) (N := ["_law_pen_here", "_law_signs_here", "_law_most", "_law_stands", "_law_way", "_law_fence", "_law_ends", "_law_goes", "_law_stand", "_law_row", "_law_number", "_law_goal_here"]) (sc := defScope st_law_machine) (by decide +kernel)) (fun _ _ _ _ _ => ag_name 11 (vs := [11]) sc_law_machine.nd rfl (.inl rfl)) (fun _ _ _ _ _ => ats_nil) (fun _ _ _ _ _ => ae_ix (K := K) (ae_lst (aa_cons (ae_v 11) (aa_cons (ae_non) (aa_nil)))) (ae_callT ac_int m_int (by decide +kernel) (aa_cons (ae_or (K := K) (ae_cmp ao_is (ae_v 11) (ae_non)) (ae_one (ae_cmp ao_ge (ae_v 11) (ae_v 5)))) (aa_nil)))))))
      (ass_nil))
      (ass_one (as_expr (ae_meth (K := K) PySem.F.plainAttrs_list PySem.F.slot_list_append PySem.F.type_list_append am_append (ae_v 7) (aa_cons (ae_v 9) (aa_nil)))))))))
      (ass_frz 6 (ass_frz 7 (ass_one (as_ret (ae_tup (aa_cons (ae_v 6) (aa_cons (ae_v 7) (aa_nil)))))))))))))⟩

abbrev st_law_right : Stmt := topS 25
theorem sc_law_right : FnScope ["_law_machine_here", "_law_told", "_law_some", "_law_best", "_law_stand"] ["_law_machine_here", "_law_told"] (defScope st_law_right) := ⟨rfl, rfl, rfl, by decide +kernel, rfl, by decide +kernel, by decide +kernel⟩
theorem ok_law_right {P : Program} {w : World} {K : PySem.W.Frag} {mg : Str → Option Value} {base : Heap} {f : Addr} {fd : FuncData} (F : L2.Fun K "_law_right" "_law_right" st_law_right f fd) (hm : mg "_law_right" = some (.ref f)) (hb : Binds K fd ["_law_machine_here", "_law_told"] []) (m_isinstance : mg "isinstance" = none) (m_len : mg "len" = none) (m_range : mg "range" = none) (m_tuple : mg "tuple" = none) (c_law_same : Cal P w K mg base 9 "_law_same" 2 (s_law_same 8)) (c_law_met : Cal P w K mg base 1 "_law_met" 1 s_law_met) (c_law_longest : Cal P w K mg base 1 "_law_longest" 2 s_law_longest) (c_law_goes_round : Cal P w K mg base 2 "_law_goes_round" 2 s_law_goes_round) : Cal P w K mg base 10 "_law_right" 2 s_law_right := by
  refine calA (b := a_law_right) F sc_law_right rfl hm hb ?_ (fun _ _ _ _ h => h)
  intro cdv A outer s H E hr hgd
  have hw : (Bs.nil ⟨w, mg⟩).g = ⟨w, mg⟩ := rfl
  exact ⟨_, ass_cons (as_if (aw_t (aw_or (at_not (at_tru (K := K) (ae_isi (K := K) (ae_v 1) m_isinstance m_tuple (by decide +kernel)))) (aw_or1 (at_cmp ao_lt (ae_callB (ac_len (K := K)) m_len (by decide +kernel) (aa_cons (ae_v 1) (aa_nil))) (ae_int)))))
      (ass_one (as_ret (ae_bl)))
      (ass_nil))
      (ass_cons (as_set 2 sc_law_right.nd (ae_call (K := K) (g := ⟨w, mg⟩) c_law_met hr hgd (aa_cons (ae_v 0) (aa_nil))) rfl (.inl rfl))
      (ass_cons (as_set 3 sc_law_right.nd (ae_call (K := K) (g := ⟨w, mg⟩) c_law_longest hr hgd (aa_cons (ae_v 0) (aa_cons (ae_v 2) (aa_nil)))) rfl (.inr rfl))
      (ass_cons (as_if (at_cmp ao_is (ae_v 3) (ae_non))
      (ass_one (as_ret (ae_call (K := K) (g := ⟨w, mg⟩) c_law_goes_round hr hgd (aa_cons (ae_v 0) (aa_cons (ae_v 1) (aa_nil))))))
      (ass_nil))
      (ass_cons (as_if (at_notInK (hu_of hr) (ae_int) (ae_v 3))
      (ass_one (as_ret (ae_call (K := K) (g := ⟨w, mg⟩) c_law_same hr hgd (aa_cons (ae_v 1) (aa_cons (ae_tup (aa_cons (ae_str) (aa_cons (ae_v 2) (aa_nil)))) (aa_nil))))))
      (ass_nil))
      (ass_one (as_ret (ae_call (K := K) (g := ⟨w, mg⟩) c_law_same hr hgd (aa_cons (ae_v 1) (aa_cons (ae_tup (aa_cons (ae_str) (aa_cons (ae_lc [("_law_stand", 4)] sc_law_right.nd (ai_range1 m_range (aa_cons (ae_callB (ac_len (K := K)) m_len (by decide +kernel) (aa_cons (ae_ix (K := K) (ae_v 0) (ae_int)) (aa_nil))) (aa_nil))) (blkOk_by (own := [("_law_stand", 4)]) (N := ["_law_machine_here", "_law_told", "_law_some", "_law_best", "_law_stand"]) (sc := defScope st_law_right) (by decide +kernel)) (fun _ _ _ _ _ => ag_name 4 (vs := [4]) sc_law_right.nd rfl (.inl rfl)) (fun _ _ _ _ _ => ats_nil) (fun _ _ _ _ _ => ae_get2 (hu_of hr) (ae_v 3) (ae_v 4) (ae_non))) (aa_nil)))) (aa_nil))))))))))⟩

abbrev st_law : Stmt := topS 26
theorem sc_law : FnScope ["_law_script", "_law_pen_here", "_law_size", "_law_machines", "_law_machine_here", "_law_handed", "_law_told", "_law_row"] ["_law_script"] (defScope st_law) := ⟨rfl, rfl, rfl, by decide +kernel, rfl, by decide +kernel, by decide +kernel⟩
theorem okF_law {P : Program} {w : World} {K : PySem.W.Frag} {mg : Str → Option Value} {base : Heap} {f : Addr} {fd : FuncData} (F : L2.Fun K "law" "law" st_law f fd) (m_int : mg "int" = none) (m_list : mg "list" = none) (c_law_pen : Cal P w K mg base 1 "_law_pen" 2 s_law_pen) (c_law_take : Cal P w K mg base 2 "_law_take" 2 s_law_take) (c_span : Cal P w K mg base 3 "span" 1 s_span) (c_law_signs : Cal P w K mg base 3 "_law_signs" 1 s_law_signs) (c_law_ring : Cal P w K mg base 3 "_law_ring" 2 s_law_ring) (c_law_chain : Cal P w K mg base 3 "_law_chain" 1 s_law_chain) (c_law_machine : Cal P w K mg base 4 "_law_machine" 3 s_law_machine) (c_law_right : Cal P w K mg base 10 "_law_right" 2 s_law_right) : FnG P w K mg base 11 f fd ["_law_script"] (spOf ⟨w, mg⟩ K 1 s_law) := by
  refine fnA (b := a_law) F sc_law ?_ (fun _ _ _ _ h => h)
  intro cdv A outer s H E hr hgd
  have hw : (Bs.nil ⟨w, mg⟩).g = ⟨w, mg⟩ := rfl
  exact ⟨_, ass_cons (as_set 1 sc_law.nd (ae_call (K := K) (g := ⟨w, mg⟩) c_law_pen hr hgd (aa_cons (ae_v 0) (aa_cons (ae_int) (aa_nil)))) rfl (.inl rfl))
      (ass_cons (as_set 2 sc_law.nd (ae_call (K := K) (g := ⟨w, mg⟩) c_law_take hr hgd (aa_cons (ae_v 1) (aa_cons (ae_int) (aa_nil)))) rfl (.inl rfl))
      (ass_cons (as_set 3 sc_law.nd (ae_lstM (aa_cons (ae_call (K := K) (g := ⟨w, mg⟩) c_law_machine hr hgd (aa_cons (ae_v 1) (aa_cons (ae_call (K := K) (g := ⟨w, mg⟩) c_law_signs hr hgd (aa_cons (ae_v 1) (aa_nil))) (aa_cons (ae_ix (K := K) (ae_lst (aa_cons (ae_int) (aa_cons (ae_int) (aa_nil)))) (ae_callT ac_int m_int (by decide +kernel) (aa_cons (ae_cmp (ao_eq (K := K) hr.units) (ae_v 2) (ae_int)) (aa_nil)))) (aa_nil))))) (aa_nil))) rfl (.inl rfl))
      (ass_cons (as_if (at_cmp (ao_eq (K := K) hr.units) (ae_v 2) (ae_int))
      (ass_one (as_set 3 sc_law.nd (ae_lstM (aa_cons (ae_call (K := K) (g := ⟨w, mg⟩) c_law_chain hr hgd (aa_cons (ae_v 1) (aa_nil))) (aa_nil))) rfl (.inl rfl)))
      (ass_nil))
      (ass_cons (as_set 1 sc_law.nd (ae_call (K := K) (g := ⟨w, mg⟩) c_law_pen hr hgd (aa_cons (ae_v 0) (aa_cons (ae_int) (aa_nil)))) rfl (.inl rfl))
      (ass_cons (as_expr (ae_meth (K := K) PySem.F.plainAttrs_list PySem.F.slot_list_append PySem.F.type_list_append am_append (ae_v 3) (aa_cons (ae_call (K := K) (g := ⟨w, mg⟩) c_law_machine hr hgd (aa_cons (ae_v 1) (aa_cons (ae_call (K := K) (g := ⟨w, mg⟩) c_law_signs hr hgd (aa_cons (ae_v 1) (aa_nil))) (aa_cons (ae_int) (aa_nil))))) (aa_nil))))
      (ass_cons (as_if (at_cmp (ao_eq (K := K) hr.units) (ae_call (K := K) (g := ⟨w, mg⟩) c_law_take hr hgd (aa_cons (ae_v 1) (aa_cons (ae_int) (aa_nil)))) (ae_int))
      (ass_one (as_setL (ae_call (K := K) (g := ⟨w, mg⟩) c_law_ring hr hgd (aa_cons (ae_v 1) (aa_cons (ae_op (ao_add (K := K)) (ae_int) (ae_call (K := K) (g := ⟨w, mg⟩) c_law_take hr hgd (aa_cons (ae_v 1) (aa_cons (ae_int) (aa_nil))))) (aa_nil)))) (ae_v 3) (ae_int)))
      (ass_nil))
      (ass_frz 3 (ass_cons (as_for (ai_list (K := K) (ae_op (ao_add (K := K)) (ae_v 3) (ae_v 3))) (ag_name 4 (vs := [4]) sc_law.nd rfl (.inl rfl))
      (ass_cons (as_set 5 sc_law.nd (ae_tup (aa_cons (ae_callT (ac_list (K := K)) m_list (by decide +kernel) (aa_cons (ae_ix (K := K) (ae_v 4) (ae_int)) (aa_nil))) (aa_cons (ae_lc [("_law_row", 7)] sc_law.nd (ai_list (K := K) (ae_ix (K := K) (ae_v 4) (ae_int))) (blkOk_by (own := [("_law_row", 7)]) (N := ["_law_script", "_law_pen_here", "_law_size", "_law_machines", "_law_machine_here", "_law_handed", "_law_told", "_law_row"]) (sc := defScope st_law) (by decide +kernel)) (fun _ _ _ _ _ => ag_name 7 (vs := [7]) sc_law.nd rfl (.inl rfl)) (fun _ _ _ _ _ => ats_nil) (fun _ _ _ _ _ => ae_callT (ac_list (K := K)) m_list (by decide +kernel) (aa_cons (ae_v 7) (aa_nil)))) (aa_nil)))) rfl (.inl rfl))
      (ass_cons (as_set 6 sc_law.nd (ae_call (K := K) (g := ⟨w, mg⟩) c_span hr hgd (aa_cons (ae_v 5) (aa_nil))) rfl (.inl rfl))
      (ass_cons (as_if (aw_t (aw_or (at_not (at_tru (K := K) (ae_call (K := K) (g := ⟨w, mg⟩) c_law_right hr hgd (aa_cons (ae_v 4) (aa_cons (ae_v 6) (aa_nil)))))) (aw_or1 (at_cmp (ao_ne (K := K) hr.units) (ae_v 5) (ae_v 4)))))
      (ass_one (as_ret (ae_bl)))
      (ass_nil))
      (ass_cons (as_expr (ae_meth (K := K) PySem.F.plainAttrs_list PySem.F.slot_list_append PySem.F.type_list_append am_append (ae_ix (K := K) (ae_v 6) (ae_int)) (aa_cons (ae_int) (aa_nil))))
      (ass_cons (as_expr (ae_meth0 (K := K) PySem.F.plainAttrs_list PySem.F.slot_list_clear PySem.F.type_list_clear am_clear (ae_ix (K := K) (ae_v 6) (ae_neg (ae_int)))))
      (ass_one (as_if (at_cmp (ao_ne (K := K) hr.units) (ae_v 5) (ae_v 4))
      (ass_one (as_ret (ae_bl)))
      (ass_nil)))))))))
      (ass_one (as_ret (ae_bl)))))))))))⟩

theorem all_mk {l : PySem.W.OpenLaw} {w : World} {K : PySem.W.Frag} {h : Heap} {mg : Str → Option Value} {fa f1 f2 f3 f4 f5 f6 f7 f8 f9 f10 f11 f12 f13 f14 f15 f16 f17 f18 f19 f20 f21 f22 f23 : Addr} (X : K.In h) (G : h.Ns mainGlobals mg) (hfa : mg "law" = some (.ref fa))
    {od1 an1 od2 an2 od3 an3 od4 an4 od5 an5 od6 an6 od7 an7 od8 an8 od9 an9 od10 an10 od11 an11 od12 an12 od13 an13 od14 an14 od15 an15 od16 an16 od17 an17 od18 an18 od19 an19 od20 an20 od21 an21 od22 an22 od23 an23 : Option Addr} {sl1 sl2 sl3 sl4 sl5 sl6 sl7 sl8 sl9 sl10 sl11 sl12 sl13 sl14 sl15 sl16 sl17 sl18 sl19 sl20 sl21 sl22 sl23 : Array (Option Value)} {oc1 kV1 dc1 pm1 cd1 ct1 oc2 kV2 dc2 pm2 cd2 ct2 oc3 kV3 dc3 pm3 cd3 ct3 oc4 kV4 dc4 pm4 cd4 ct4 oc5 kV5 dc5 pm5 cd5 ct5 oc6 kV6 dc6 pm6 cd6 ct6 oc7 kV7 dc7 pm7 cd7 ct7 oc8 kV8 dc8 pm8 cd8 ct8 oc9 kV9 dc9 pm9 cd9 ct9 oc10 kV10 dc10 pm10 cd10 ct10 oc11 kV11 dc11 pm11 cd11 ct11 oc12 kV12 dc12 pm12 cd12 ct12 oc13 kV13 dc13 pm13 cd13 ct13 oc14 kV14 dc14 pm14 cd14 ct14 oc15 kV15 dc15 pm15 cd15 ct15 oc16 kV16 dc16 pm16 cd16 ct16 oc17 kV17 dc17 pm17 cd17 ct17 oc18 kV18 dc18 pm18 cd18 ct18 oc19 kV19 dc19 pm19 cd19 ct19 oc20 kV20 dc20 pm20 cd20 ct20 oc21 kV21 dc21 pm21 cd21 ct21 oc22 kV22 dc22 pm22 cd22 ct22 oc23 kV23 dc23 pm23 cd23 ct23 : Value}
    (a1 : PySem.W.nsIn K mainGlobals "met" = some (some (.ref f1))) (l1 : K.lookup f1 = some ⟨oc1, od1, .func (PySem.W.fnOf "met" "met" (defArgs st_met) (defBody st_met) (defScope st_met) .none kV1 dc1 pm1 an1 cd1 ct1), sl1⟩) (c1 : PySem.W.codeIn K cd1 "met" = true) (k1 : PySem.W.keepIn K (.ref f1) = true)
    (a2 : PySem.W.nsIn K mainGlobals "alive" = some (some (.ref f2))) (l2 : K.lookup f2 = some ⟨oc2, od2, .func (PySem.W.fnOf "alive" "alive" (defArgs st_alive) (defBody st_alive) (defScope st_alive) .none kV2 dc2 pm2 an2 cd2 ct2), sl2⟩) (c2 : PySem.W.codeIn K cd2 "alive" = true) (k2 : PySem.W.keepIn K (.ref f2) = true)
    (a3 : PySem.W.nsIn K mainGlobals "ranks_of" = some (some (.ref f3))) (l3 : K.lookup f3 = some ⟨oc3, od3, .func (PySem.W.fnOf "ranks_of" "ranks_of" (defArgs st_ranks_of) (defBody st_ranks_of) (defScope st_ranks_of) .none kV3 dc3 pm3 an3 cd3 ct3), sl3⟩) (c3 : PySem.W.codeIn K cd3 "ranks_of" = true) (k3 : PySem.W.keepIn K (.ref f3) = true)
    (a4 : PySem.W.nsIn K mainGlobals "row_to" = some (some (.ref f4))) (l4 : K.lookup f4 = some ⟨oc4, od4, .func (PySem.W.fnOf "row_to" "row_to" (defArgs st_row_to) (defBody st_row_to) (defScope st_row_to) .none kV4 dc4 pm4 an4 cd4 ct4), sl4⟩) (c4 : PySem.W.codeIn K cd4 "row_to" = true) (k4 : PySem.W.keepIn K (.ref f4) = true)
    (a5 : PySem.W.nsIn K mainGlobals "ring_of" = some (some (.ref f5))) (l5 : K.lookup f5 = some ⟨oc5, od5, .func (PySem.W.fnOf "ring_of" "ring_of" (defArgs st_ring_of) (defBody st_ring_of) (defScope st_ring_of) .none kV5 dc5 pm5 an5 cd5 ct5), sl5⟩) (c5 : PySem.W.codeIn K cd5 "ring_of" = true) (k5 : PySem.W.keepIn K (.ref f5) = true)
    (a6 : PySem.W.nsIn K mainGlobals "_law_pen" = some (some (.ref f6))) (l6 : K.lookup f6 = some ⟨oc6, od6, .func (PySem.W.fnOf "_law_pen" "_law_pen" (defArgs st_law_pen) (defBody st_law_pen) (defScope st_law_pen) .none kV6 dc6 pm6 an6 cd6 ct6), sl6⟩) (c6 : PySem.W.codeIn K cd6 "_law_pen" = true) (k6 : PySem.W.keepIn K (.ref f6) = true)
    (a7 : PySem.W.nsIn K mainGlobals "_law_mixed" = some (some (.ref f7))) (l7 : K.lookup f7 = some ⟨oc7, od7, .func (PySem.W.fnOf "_law_mixed" "_law_mixed" (defArgs st_law_mixed) (defBody st_law_mixed) (defScope st_law_mixed) .none kV7 dc7 pm7 an7 cd7 ct7), sl7⟩) (c7 : PySem.W.codeIn K cd7 "_law_mixed" = true) (k7 : PySem.W.keepIn K (.ref f7) = true)
    (a8 : PySem.W.nsIn K mainGlobals "_law_same" = some (some (.ref f8))) (l8 : K.lookup f8 = some ⟨oc8, od8, .func (PySem.W.fnOf "_law_same" "_law_same" (defArgs st_law_same) (defBody st_law_same) (defScope st_law_same) .none kV8 dc8 pm8 an8 cd8 ct8), sl8⟩) (c8 : PySem.W.codeIn K cd8 "_law_same" = true) (k8 : PySem.W.keepIn K (.ref f8) = true)
    (a9 : PySem.W.nsIn K mainGlobals "_law_gone" = some (some (.ref f9))) (l9 : K.lookup f9 = some ⟨oc9, od9, .func (PySem.W.fnOf "_law_gone" "_law_gone" (defArgs st_law_gone) (defBody st_law_gone) (defScope st_law_gone) .none kV9 dc9 pm9 an9 cd9 ct9), sl9⟩) (c9 : PySem.W.codeIn K cd9 "_law_gone" = true) (k9 : PySem.W.keepIn K (.ref f9) = true)
    (a10 : PySem.W.nsIn K mainGlobals "_law_met" = some (some (.ref f10))) (l10 : K.lookup f10 = some ⟨oc10, od10, .func (PySem.W.fnOf "_law_met" "_law_met" (defArgs st_law_met) (defBody st_law_met) (defScope st_law_met) .none kV10 dc10 pm10 an10 cd10 ct10), sl10⟩) (c10 : PySem.W.codeIn K cd10 "_law_met" = true) (k10 : PySem.W.keepIn K (.ref f10) = true)
    (a11 : PySem.W.nsIn K mainGlobals "_law_longest" = some (some (.ref f11))) (l11 : K.lookup f11 = some ⟨oc11, od11, .func (PySem.W.fnOf "_law_longest" "_law_longest" (defArgs st_law_longest) (defBody st_law_longest) (defScope st_law_longest) .none kV11 dc11 pm11 an11 cd11 ct11), sl11⟩) (c11 : PySem.W.codeIn K cd11 "_law_longest" = true) (k11 : PySem.W.keepIn K (.ref f11) = true)
    (a12 : PySem.W.nsIn K mainGlobals "_law_is_row" = some (some (.ref f12))) (l12 : K.lookup f12 = some ⟨oc12, od12, .func (PySem.W.fnOf "_law_is_row" "_law_is_row" (defArgs st_law_is_row) (defBody st_law_is_row) (defScope st_law_is_row) .none kV12 dc12 pm12 an12 cd12 ct12), sl12⟩) (c12 : PySem.W.codeIn K cd12 "_law_is_row" = true) (k12 : PySem.W.keepIn K (.ref f12) = true)
    (a13 : PySem.W.nsIn K mainGlobals "useful_stands" = some (some (.ref f13))) (l13 : K.lookup f13 = some ⟨oc13, od13, .func (PySem.W.fnOf "useful_stands" "useful_stands" (defArgs st_useful_stands) (defBody st_useful_stands) (defScope st_useful_stands) .none kV13 dc13 pm13 an13 cd13 ct13), sl13⟩) (c13 : PySem.W.codeIn K cd13 "useful_stands" = true) (k13 : PySem.W.keepIn K (.ref f13) = true)
    (a14 : PySem.W.nsIn K mainGlobals "_law_take" = some (some (.ref f14))) (l14 : K.lookup f14 = some ⟨oc14, od14, .func (PySem.W.fnOf "_law_take" "_law_take" (defArgs st_law_take) (defBody st_law_take) (defScope st_law_take) .none kV14 dc14 pm14 an14 cd14 ct14), sl14⟩) (c14 : PySem.W.codeIn K cd14 "_law_take" = true) (k14 : PySem.W.keepIn K (.ref f14) = true)
    (a15 : PySem.W.nsIn K mainGlobals "_law_goes_round" = some (some (.ref f15))) (l15 : K.lookup f15 = some ⟨oc15, od15, .func (PySem.W.fnOf "_law_goes_round" "_law_goes_round" (defArgs st_law_goes_round) (defBody st_law_goes_round) (defScope st_law_goes_round) .none kV15 dc15 pm15 an15 cd15 ct15), sl15⟩) (c15 : PySem.W.codeIn K cd15 "_law_goes_round" = true) (k15 : PySem.W.keepIn K (.ref f15) = true)
    (a16 : PySem.W.nsIn K mainGlobals "span" = some (some (.ref f16))) (l16 : K.lookup f16 = some ⟨oc16, od16, .func (PySem.W.fnOf "span" "span" (defArgs st_span) (defBody st_span) (defScope st_span) .none kV16 dc16 pm16 an16 cd16 ct16), sl16⟩) (c16 : PySem.W.codeIn K cd16 "span" = true) (k16 : PySem.W.keepIn K (.ref f16) = true)
    (a17 : PySem.W.nsIn K mainGlobals "_law_signs" = some (some (.ref f17))) (l17 : K.lookup f17 = some ⟨oc17, od17, .func (PySem.W.fnOf "_law_signs" "_law_signs" (defArgs st_law_signs) (defBody st_law_signs) (defScope st_law_signs) .none kV17 dc17 pm17 an17 cd17 ct17), sl17⟩) (c17 : PySem.W.codeIn K cd17 "_law_signs" = true) (k17 : PySem.W.keepIn K (.ref f17) = true)
    (a18 : PySem.W.nsIn K mainGlobals "_law_goal" = some (some (.ref f18))) (l18 : K.lookup f18 = some ⟨oc18, od18, .func (PySem.W.fnOf "_law_goal" "_law_goal" (defArgs st_law_goal) (defBody st_law_goal) (defScope st_law_goal) .none kV18 dc18 pm18 an18 cd18 ct18), sl18⟩) (c18 : PySem.W.codeIn K cd18 "_law_goal" = true) (k18 : PySem.W.keepIn K (.ref f18) = true)
    (a19 : PySem.W.nsIn K mainGlobals "_law_ring" = some (some (.ref f19))) (l19 : K.lookup f19 = some ⟨oc19, od19, .func (PySem.W.fnOf "_law_ring" "_law_ring" (defArgs st_law_ring) (defBody st_law_ring) (defScope st_law_ring) .none kV19 dc19 pm19 an19 cd19 ct19), sl19⟩) (c19 : PySem.W.codeIn K cd19 "_law_ring" = true) (k19 : PySem.W.keepIn K (.ref f19) = true)
    (a20 : PySem.W.nsIn K mainGlobals "_law_chain" = some (some (.ref f20))) (l20 : K.lookup f20 = some ⟨oc20, od20, .func (PySem.W.fnOf "_law_chain" "_law_chain" (defArgs st_law_chain) (defBody st_law_chain) (defScope st_law_chain) .none kV20 dc20 pm20 an20 cd20 ct20), sl20⟩) (c20 : PySem.W.codeIn K cd20 "_law_chain" = true) (k20 : PySem.W.keepIn K (.ref f20) = true)
    (a21 : PySem.W.nsIn K mainGlobals "_law_machine" = some (some (.ref f21))) (l21 : K.lookup f21 = some ⟨oc21, od21, .func (PySem.W.fnOf "_law_machine" "_law_machine" (defArgs st_law_machine) (defBody st_law_machine) (defScope st_law_machine) .none kV21 dc21 pm21 an21 cd21 ct21), sl21⟩) (c21 : PySem.W.codeIn K cd21 "_law_machine" = true) (k21 : PySem.W.keepIn K (.ref f21) = true)
    (a22 : PySem.W.nsIn K mainGlobals "_law_right" = some (some (.ref f22))) (l22 : K.lookup f22 = some ⟨oc22, od22, .func (PySem.W.fnOf "_law_right" "_law_right" (defArgs st_law_right) (defBody st_law_right) (defScope st_law_right) .none kV22 dc22 pm22 an22 cd22 ct22), sl22⟩) (c22 : PySem.W.codeIn K cd22 "_law_right" = true) (k22 : PySem.W.keepIn K (.ref f22) = true)
    (a23 : PySem.W.nsIn K mainGlobals "law" = some (some (.ref f23))) (l23 : K.lookup f23 = some ⟨oc23, od23, .func (PySem.W.fnOf "law" "law" (defArgs st_law) (defBody st_law) (defScope st_law) .none kV23 dc23 pm23 an23 cd23 ct23), sl23⟩) (c23 : PySem.W.codeIn K cd23 "law" = true) (k23 : PySem.W.keepIn K (.ref f23) = true)
    (z0 : PySem.W.nsIn K mainGlobals "abs" = some none)    (z1 : PySem.W.nsIn K mainGlobals "all" = some none)    (z2 : PySem.W.nsIn K mainGlobals "bool" = some none)    (z3 : PySem.W.nsIn K mainGlobals "dict" = some none)    (z4 : PySem.W.nsIn K mainGlobals "enumerate" = some none)    (z5 : PySem.W.nsIn K mainGlobals "int" = some none)    (z6 : PySem.W.nsIn K mainGlobals "isinstance" = some none)    (z7 : PySem.W.nsIn K mainGlobals "len" = some none)    (z8 : PySem.W.nsIn K mainGlobals "list" = some none)    (z9 : PySem.W.nsIn K mainGlobals "max" = some none)    (z10 : PySem.W.nsIn K mainGlobals "range" = some none)    (z11 : PySem.W.nsIn K mainGlobals "repr" = some none)    (z12 : PySem.W.nsIn K mainGlobals "sorted" = some none)    (z13 : PySem.W.nsIn K mainGlobals "str" = some none)    (z14 : PySem.W.nsIn K mainGlobals "tuple" = some none)    (z15 : PySem.W.nsIn K mainGlobals "zip" = some none) :
    ∃ fd : FuncData, (∀ (s : Shared) (v : Value), BindsTo s fd ⟨[v], []⟩ [("_law_script", v)]) ∧ ∀ base : Heap, K.In base → base.Ns mainGlobals mg → FnG l.prog w K mg base 11 fa fd ["_law_script"] (spOf ⟨w, mg⟩ K 1 s_law) := by
  have e := hfa.symm.trans (PySem.W.mg_of X G a23)
  cases e
  have F1 := fun_mk (st := st_met) l1 c1 k1
  have b1 := F1.binds (ps := ["machine"]) fun _ _ _ _ _ _ us hl => match us, hl with | [_], _ => rfl
  have F2 := fun_mk (st := st_alive) l2 c2 k2
  have b2 := F2.binds (ps := ["machine"]) fun _ _ _ _ _ _ us hl => match us, hl with | [_], _ => rfl
  have F3 := fun_mk (st := st_ranks_of) l3 c3 k3
  have b3 := F3.binds (ps := ["machine", "some"]) fun _ _ _ _ _ _ us hl => match us, hl with | [_, _], _ => rfl
  have F4 := fun_mk (st := st_row_to) l4 c4 k4
  have b4 := F4.binds (ps := ["machine", "start", "goals"]) fun _ _ _ _ _ _ us hl => match us, hl with | [_, _, _], _ => rfl
  have F5 := fun_mk (st := st_ring_of) l5 c5 k5
  have b5 := F5.binds (ps := ["machine", "some"]) fun _ _ _ _ _ _ us hl => match us, hl with | [_, _], _ => rfl
  have F6 := fun_mk (st := st_law_pen) l6 c6 k6
  have b6 := F6.binds (ps := ["_law_script", "_law_first"]) fun _ _ _ _ _ _ us hl => match us, hl with | [_, _], _ => rfl
  have F7 := fun_mk (st := st_law_mixed) l7 c7 k7
  have b7 := F7.binds (ps := ["_law_cell", "_law_k"]) fun _ _ _ _ _ _ us hl => match us, hl with | [_, _], _ => rfl
  have F8 := fun_mk (st := st_law_same) l8 c8 k8
  have b8 := F8.binds (ps := ["_law_got", "_law_due"]) fun _ _ _ _ _ _ us hl => match us, hl with | [_, _], _ => rfl
  have F9 := fun_mk (st := st_law_gone) l9 c9 k9
  have b9 := F9.binds (ps := ["_law_machine_here", "_law_stand", "_law_row"]) fun _ _ _ _ _ _ us hl => match us, hl with | [_, _, _], _ => rfl
  have F10 := fun_mk (st := st_law_met) l10 c10 k10
  have b10 := F10.binds (ps := ["_law_machine_here"]) fun _ _ _ _ _ _ us hl => match us, hl with | [_], _ => rfl
  have F11 := fun_mk (st := st_law_longest) l11 c11 k11
  have b11 := F11.binds (ps := ["_law_machine_here", "_law_some"]) fun _ _ _ _ _ _ us hl => match us, hl with | [_, _], _ => rfl
  have F12 := fun_mk (st := st_law_is_row) l12 c12 k12
  have b12 := F12.binds (ps := ["_law_machine_here", "_law_thing"]) fun _ _ _ _ _ _ us hl => match us, hl with | [_, _], _ => rfl
  have F13 := fun_mk (st := st_useful_stands) l13 c13 k13
  have b13 := F13.binds (ps := ["machine"]) fun _ _ _ _ _ _ us hl => match us, hl with | [_], _ => rfl
  have F14 := fun_mk (st := st_law_take) l14 c14 k14
  have b14 := F14.binds (ps := ["_law_pen_here", "_law_most"]) fun _ _ _ _ _ _ us hl => match us, hl with | [_, _], _ => rfl
  have F15 := fun_mk (st := st_law_goes_round) l15 c15 k15
  have b15 := F15.binds (ps := ["_law_machine_here", "_law_told"]) fun _ _ _ _ _ _ us hl => match us, hl with | [_, _], _ => rfl
  have F16 := fun_mk (st := st_span) l16 c16 k16
  have b16 := F16.binds (ps := ["machine"]) fun _ _ _ _ _ _ us hl => match us, hl with | [_], _ => rfl
  have F17 := fun_mk (st := st_law_signs) l17 c17 k17
  have b17 := F17.binds (ps := ["_law_pen_here"]) fun _ _ _ _ _ _ us hl => match us, hl with | [_], _ => rfl
  have F18 := fun_mk (st := st_law_goal) l18 c18 k18
  have b18 := F18.binds (ps := ["_law_pen_here", "_law_stand", "_law_stands", "_law_way"]) fun _ _ _ _ _ _ us hl => match us, hl with | [_, _, _, _], _ => rfl
  have F19 := fun_mk (st := st_law_ring) l19 c19 k19
  have b19 := F19.binds (ps := ["_law_pen_here", "_law_signs_here"]) fun _ _ _ _ _ _ us hl => match us, hl with | [_, _], _ => rfl
  have F20 := fun_mk (st := st_law_chain) l20 c20 k20
  have b20 := F20.binds (ps := ["_law_pen_here"]) fun _ _ _ _ _ _ us hl => match us, hl with | [_], _ => rfl
  have F21 := fun_mk (st := st_law_machine) l21 c21 k21
  have b21 := F21.binds (ps := ["_law_pen_here", "_law_signs_here", "_law_most"]) fun _ _ _ _ _ _ us hl => match us, hl with | [_, _, _], _ => rfl
  have F22 := fun_mk (st := st_law_right) l22 c22 k22
  have b22 := F22.binds (ps := ["_law_machine_here", "_law_told"]) fun _ _ _ _ _ _ us hl => match us, hl with | [_, _], _ => rfl
  have F23 := fun_mk (st := st_law) l23 c23 k23
  have b23 := F23.binds (ps := ["_law_script"]) fun _ _ _ _ _ _ us hl => match us, hl with | [_], _ => rfl
  have m_abs := PySem.W.mg_none_of X G z0
  have m_all := PySem.W.mg_none_of X G z1
  have m_bool := PySem.W.mg_none_of X G z2
  have m_dict := PySem.W.mg_none_of X G z3
  have m_enumerate := PySem.W.mg_none_of X G z4
  have m_int := PySem.W.mg_none_of X G z5
  have m_isinstance := PySem.W.mg_none_of X G z6
  have m_len := PySem.W.mg_none_of X G z7
  have m_list := PySem.W.mg_none_of X G z8
  have m_max := PySem.W.mg_none_of X G z9
  have m_range := PySem.W.mg_none_of X G z10
  have m_repr := PySem.W.mg_none_of X G z11
  have m_sorted := PySem.W.mg_none_of X G z12
  have m_str := PySem.W.mg_none_of X G z13
  have m_tuple := PySem.W.mg_none_of X G z14
  have m_zip := PySem.W.mg_none_of X G z15
  refine ⟨PySem.W.fnOf "law" "law" (defArgs st_law) (defBody st_law) (defScope st_law) .none kV23 dc23 pm23 an23 cd23 ct23, fun s v => .of_eq rfl, fun base _ _ => ?_⟩
  have c_met : Cal l.prog w K mg base 1 "met" 1 s_met := ok_met F1 (PySem.W.mg_of X G a1) b1 m_sorted
  have c_alive : Cal l.prog w K mg base 1 "alive" 1 s_alive := ok_alive F2 (PySem.W.mg_of X G a2) b2 m_enumerate m_sorted
  have c_ranks_of : Cal l.prog w K mg base 1 "ranks_of" 2 s_ranks_of := ok_ranks_of F3 (PySem.W.mg_of X G a3) b3 m_all m_dict m_max
  have c_row_to : Cal l.prog w K mg base 1 "row_to" 3 s_row_to := ok_row_to F4 (PySem.W.mg_of X G a4) b4 m_enumerate
  have c_ring_of : Cal l.prog w K mg base 1 "ring_of" 2 s_ring_of := ok_ring_of F5 (PySem.W.mg_of X G a5) b5 m_dict m_enumerate m_len
  have c_law_pen : Cal l.prog w K mg base 1 "_law_pen" 2 s_law_pen := ok_law_pen F6 (PySem.W.mg_of X G a6) b6 
  have c_law_mixed : Cal l.prog w K mg base 1 "_law_mixed" 2 s_law_mixed := ok_law_mixed F7 (PySem.W.mg_of X G a7) b7 
  have c_law_same : Cal l.prog w K mg base 9 "_law_same" 2 (s_law_same 8) := ok_law_same F8 (PySem.W.mg_of X G a8) b8 m_all m_bool m_int m_isinstance m_len m_list m_repr m_str m_tuple m_zip 8
  have c_law_gone : Cal l.prog w K mg base 1 "_law_gone" 3 s_law_gone := ok_law_gone F9 (PySem.W.mg_of X G a9) b9 
  have c_law_met : Cal l.prog w K mg base 1 "_law_met" 1 s_law_met := ok_law_met F10 (PySem.W.mg_of X G a10) b10 m_len m_sorted
  have c_law_longest : Cal l.prog w K mg base 1 "_law_longest" 2 s_law_longest := ok_law_longest F11 (PySem.W.mg_of X G a11) b11 m_dict m_len
  have c_law_is_row : Cal l.prog w K mg base 1 "_law_is_row" 2 s_law_is_row := ok_law_is_row F12 (PySem.W.mg_of X G a12) b12 m_bool m_int m_isinstance m_len m_list
  have c_useful_stands : Cal l.prog w K mg base 2 "useful_stands" 1 s_useful_stands := ok_useful_stands F13 (PySem.W.mg_of X G a13) b13 m_dict c_met c_alive
  have c_law_take : Cal l.prog w K mg base 2 "_law_take" 2 s_law_take := ok_law_take F14 (PySem.W.mg_of X G a14) b14 m_abs m_len c_law_mixed
  have c_law_goes_round : Cal l.prog w K mg base 2 "_law_goes_round" 2 s_law_goes_round := ok_law_goes_round F15 (PySem.W.mg_of X G a15) b15 m_all m_len c_law_gone c_law_is_row
  have c_span : Cal l.prog w K mg base 3 "span" 1 s_span := ok_span F16 (PySem.W.mg_of X G a16) b16 m_len m_range c_met c_ranks_of c_row_to c_ring_of c_useful_stands
  have c_law_signs : Cal l.prog w K mg base 3 "_law_signs" 1 s_law_signs := ok_law_signs F17 (PySem.W.mg_of X G a17) b17 c_law_take
  have c_law_goal : Cal l.prog w K mg base 3 "_law_goal" 4 s_law_goal := ok_law_goal F18 (PySem.W.mg_of X G a18) b18 c_law_take
  have c_law_ring : Cal l.prog w K mg base 3 "_law_ring" 2 s_law_ring := ok_law_ring F19 (PySem.W.mg_of X G a19) b19 m_range c_law_take
  have c_law_chain : Cal l.prog w K mg base 3 "_law_chain" 1 s_law_chain := ok_law_chain F20 (PySem.W.mg_of X G a20) b20 m_range c_law_take
  have c_law_machine : Cal l.prog w K mg base 4 "_law_machine" 3 s_law_machine := ok_law_machine F21 (PySem.W.mg_of X G a21) b21 m_int m_range c_law_take c_law_goal
  have c_law_right : Cal l.prog w K mg base 10 "_law_right" 2 s_law_right := ok_law_right F22 (PySem.W.mg_of X G a22) b22 m_isinstance m_len m_range m_tuple c_law_same c_law_met c_law_longest c_law_goes_round
  exact okF_law F23 m_int m_list c_law_pen c_law_take c_span c_law_signs c_law_ring c_law_chain c_law_machine c_law_right

end A_k25
open PySem PySem.W PyProof.Rows
set_option maxHeartbeats 0 in
theorem PySem.Challenge.cw_wordrules_k25_spans_told_holds : PySem.Challenge.rw_wordrules_k25_spans_told.Holds := by
  w_on; o_law; k_head; (case hw => w_witness2)
  k_fill
  refine AL.walk_G (l := PySem.Challenge.rw_wordrules_k25_spans_told) (n := 63) (k := 11) (x := "_law_script") (sp := fun w mg => AL.spOf ⟨w, mg⟩ _ 1 A_k25.s_law) rfl (by decide) rfl ⟨rfl, by decide, by decide⟩ (fun w h Y => PySem.W.kIn_of Y) ?F (fun _ _ H a ns hl _ hS => AL.law_sp A_k25.law_true _ _ H a ns hl hS)
  case F =>
    intro w mg fa h KX G hmg
    refine' A_k25.all_mk KX G hmg ?a1 ?l1 ?c1 ?k1 ?a2 ?l2 ?c2 ?k2 ?a3 ?l3 ?c3 ?k3 ?a4 ?l4 ?c4 ?k4 ?a5 ?l5 ?c5 ?k5 ?a6 ?l6 ?c6 ?k6 ?a7 ?l7 ?c7 ?k7 ?a8 ?l8 ?c8 ?k8 ?a9 ?l9 ?c9 ?k9 ?a10 ?l10 ?c10 ?k10 ?a11 ?l11 ?c11 ?k11 ?a12 ?l12 ?c12 ?k12 ?a13 ?l13 ?c13 ?k13 ?a14 ?l14 ?c14 ?k14 ?a15 ?l15 ?c15 ?k15 ?a16 ?l16 ?c16 ?k16 ?a17 ?l17 ?c17 ?k17 ?a18 ?l18 ?c18 ?k18 ?a19 ?l19 ?c19 ?k19 ?a20 ?l20 ?c20 ?k20 ?a21 ?l21 ?c21 ?k21 ?a22 ?l22 ?c22 ?k22 ?a23 ?l23 ?c23 ?k23 ?z0 ?z1 ?z2 ?z3 ?z4 ?z5 ?z6 ?z7 ?z8 ?z9 ?z10 ?z11 ?z12 ?z13 ?z14 ?z15
    (case a1 => k_is); (case l1 => k_is); (case c1 => k_is); (case k1 => k_is); (case a2 => k_is); (case l2 => k_is); (case c2 => k_is); (case k2 => k_is)
    (case a3 => k_is); (case l3 => k_is); (case c3 => k_is); (case k3 => k_is); (case a4 => k_is); (case l4 => k_is); (case c4 => k_is); (case k4 => k_is)
    (case a5 => k_is); (case l5 => k_is); (case c5 => k_is); (case k5 => k_is); (case a6 => k_is); (case l6 => k_is); (case c6 => k_is); (case k6 => k_is)
    (case a7 => k_is); (case l7 => k_is); (case c7 => k_is); (case k7 => k_is); (case a8 => k_is); (case l8 => k_is); (case c8 => k_is); (case k8 => k_is)
    (case a9 => k_is); (case l9 => k_is); (case c9 => k_is); (case k9 => k_is); (case a10 => k_is); (case l10 => k_is); (case c10 => k_is); (case k10 => k_is)
    (case a11 => k_is); (case l11 => k_is); (case c11 => k_is); (case k11 => k_is); (case a12 => k_is); (case l12 => k_is); (case c12 => k_is); (case k12 => k_is)
    (case a13 => k_is); (case l13 => k_is); (case c13 => k_is); (case k13 => k_is); (case a14 => k_is); (case l14 => k_is); (case c14 => k_is); (case k14 => k_is)
    (case a15 => k_is); (case l15 => k_is); (case c15 => k_is); (case k15 => k_is); (case a16 => k_is); (case l16 => k_is); (case c16 => k_is); (case k16 => k_is)
    (case a17 => k_is); (case l17 => k_is); (case c17 => k_is); (case k17 => k_is); (case a18 => k_is); (case l18 => k_is); (case c18 => k_is); (case k18 => k_is)
    (case a19 => k_is); (case l19 => k_is); (case c19 => k_is); (case k19 => k_is); (case a20 => k_is); (case l20 => k_is); (case c20 => k_is); (case k20 => k_is)
    (case a21 => k_is); (case l21 => k_is); (case c21 => k_is); (case k21 => k_is); (case a22 => k_is); (case l22 => k_is); (case c22 => k_is); (case k22 => k_is)
    (case a23 => k_is); (case l23 => k_is); (case c23 => k_is); (case k23 => k_is); (case z0 => k_is); (case z1 => k_is); (case z2 => k_is); (case z3 => k_is)
    (case z4 => k_is); (case z5 => k_is); (case z6 => k_is); (case z7 => k_is); (case z8 => k_is); (case z9 => k_is); (case z10 => k_is); (case z11 => k_is)
    (case z12 => k_is); (case z13 => k_is); (case z14 => k_is); (case z15 => k_is)
