import PyProof.Rows.All
import Wide.All
import OpenK.AllK
import Wide.FinOn
import HandS.ForMost
import HandS.IsInst
import HandS.Flow
import HandS.Style
import HandS.TupAny
import HandS.Codes
import HandS.Wide
import HandS.Deep
import HandS.Zip
import HandS.Exc
import HandS.ExcOwn
import HandS.TryMany
import HandS.WordsExc
import KE.KDictKeyed
import HandS.TupMul
import HandS.Dict
import HandS.Words
import HandS.Text
import HandS.More
import PyProof.ListStr
import KE.DatumOrd
import HandS.List
import HandS.Replace
import PyProof.Rows.StrRev
import PyProof.Rows.StrTemp
import PyProof.SliceStr2
import HandS.Ends
import HandS.RaiseMore
import PyProof.ReprRoads
import PyProof.ReprLen
import PyProof.StrLawsRepr
import PyProof.CallFns
import PyProof.StrOps2
import KE.GoesEnum
import KE.GoesNew
import HandS.Iter
import PyProof.SumAny
import PyProof.Rows.SumGenD
import PyProof.TwoTypesSub
import HandS.Strs
import PyProof.StrWalks
import HandS.Proxy
import PyProof.NeKinds
import KE.KDictDisplayH
import PyProof.TupleOfStr
import PyProof.Rows.SortShellAny
import HandS.Conv
import HandS.DictComp
import HandS.DeepEq
import PyProof.ListMulRight
import PyProof.AutoIntG3
import KE.DataFind
import PyProof.Rows.TupTab
import HandS.ExcIs
import PyProof.Rows.CountFlat
import HandS.TupLen
import HandS.SetKeys
import PyProof.CollectStr
import PySem.Challenge.RW_wordrules_k47_whole_places_without_the_r
set_option Elab.async false
set_option linter.all false
set_option maxRecDepth 100000
set_option maxHeartbeats 4000000
namespace AL
open PySem PySem.Spec L2
inductive D where
  | non | bl (b : Bool) | int (i : Int) | str (x : Str) | lst (xs : List D) | tup (xs : List D) | dk (kvs : List (Key × D)) | scr (ns : List Int) | ce (a : Addr)
  deriving Inhabited
inductive Cell where
  | lst (xs : List D) | dk (kvs : List (Key × D)) | dn (kvs : List (NestedKey × D)) | exc (nm : Str) | ob (nm : Str) (fs : List (Str × D))
abbrev AH := Addr → Option Cell
def put (C : AH) (a : Addr) (c : Cell) : AH := fun b => if b = a then some c else C b
def del (C : AH) (a : Addr) : AH := fun b => if b = a then none else C b
@[simp] theorem put_same {C : AH} {a : Addr} {c : Cell} : put C a c a = some c := by unfold put; rw [if_pos rfl]
theorem put_ne {C : AH} {a b : Addr} {c : Cell} (h : b ≠ a) : put C a c b = C b := by unfold put; rw [if_neg h]
@[simp] theorem put_put {C : AH} {a : Addr} {c d : Cell} : put (put C a c) a d = put C a d := by
  funext b; unfold put; split <;> rfl
def Ex (H H' : Hp) : Prop := ∀ a o, H a = some o → H' a = some o
theorem Ex.refl (H : Hp) : Ex H H := fun _ _ h => h
theorem Ex.trans {H H1 H2 : Hp} (a : Ex H H1) (b : Ex H1 H2) : Ex H H2 := fun x o h => b x o (a x o h)
theorem Ex.new {H : Hp} {p : Addr} {o : HO} (h : H p = none) : Ex H (upd H p o) := fun a u e => by
  rw [upd_ne (ne_of_none e h)]
  exact e
theorem Ex.l {K : PySem.W.Frag} {H H' : Hp} {a : Addr} {xs : List V} (e : Ex H H') (h : SqL K H a xs) : SqL K H' a xs := by
  rcases h with (h | ⟨o, h⟩) | h
  · exact Or.inl (Or.inl (e a _ h))
  · exact Or.inl (Or.inr ⟨o, e a _ h⟩)
  · exact Or.inr h
theorem Ex.back {H H' : Hp} {p : Addr} (e : Ex H H') (h : H' p = none) : H p = none := by
  cases h1 : H p with
  | none => rfl
  | some o => rw [e p o h1] at h; cases h
def wkP : List D → Bool
  | [.int _, _] => true
  | _ => false
/-- at a stands a tuple -/
def TupS (F : Hp) (a : Addr) (xs : List V) (ds : List D) : Prop := Rd F a (.tup xs) ∧ (wkP ds = false → ∃ o : Obj, o.dict = none ∧ F a = some (.frz o (.tup xs)))
theorem rdUp {F F' : Hp} {a : Addr} {u : HO} (h : Rd F a u) (e : Ex F F') : Rd F' a u := by
  rcases h with h | ⟨o, h⟩
  · exact .inl (e a _ h)
  · exact .inr ⟨o, e a _ h⟩
theorem TupS.mono {F F' : Hp} {a : Addr} {xs : List V} {ds : List D} (h : TupS F a xs ds) (e : Ex F F') : TupS F' a xs ds :=
  ⟨rdUp h.1 e, fun q => let ⟨o, h1, h2⟩ := h.2 q; ⟨o, h1, e a _ h2⟩⟩
theorem TupS.sq {K : PySem.W.Frag} {F H : Hp} {a : Addr} {xs : List V} {ds : List D} (h : TupS F a xs ds) (e : Ex F H) : SqT K H a xs := .inl (rdUp h.1 e)
theorem SqT.of {K : PySem.W.Frag} {H : Hp} {a : Addr} {xs : List V} (h : Rd H a (.tup xs)) : SqT K H a xs := .inl h
theorem TupS.frz {F : Hp} {a : Addr} {xs : List V} {ds : List D} {o : Obj} (h1 : o.dict = none) (h2 : F a = some (.frz o (.tup xs))) : TupS F a xs ds := ⟨.inr ⟨o, h2⟩, fun _ => ⟨o, h1, h2⟩⟩
mutual
inductive Rep (K : PySem.W.Frag) (F : Hp) : V → D → Prop
  | non : Rep K F .non .non
  | bl (b : Bool) : Rep K F (.bl b) (.bl b)
  | int (i : Int) : Rep K F (.int i) (.int i)
  | str (x : Str) : Rep K F (.str x) (.str x)
  | lst {a : Addr} {xs : List V} {ds : List D} : F a = some (.lst xs) → RepL K F xs ds → Rep K F (.ref a) (.lst ds)
  | tup {a : Addr} {xs : List V} {ds : List D} : TupS F a xs ds → RepL K F xs ds → Rep K F (.ref a) (.tup ds)
  | dk {a : Addr} {kvs : List (Key × V)} {es : List (Key × D)} : F a = some (.dK kvs) → RepK K F kvs es → Rep K F (.ref a) (.dk es)
  | scr {a : Addr} {ns : List Int} : SqL K F a (ns.map V.int) → Rep K F (.ref a) (.scr ns)
  | ce (a : Addr) : Rep K F (.ref a) (.ce a)
inductive RepL (K : PySem.W.Frag) (F : Hp) : List V → List D → Prop
  | nil : RepL K F [] []
  | cons {v : V} {vs : List V} {d : D} {ds : List D} : Rep K F v d → RepL K F vs ds → RepL K F (v :: vs) (d :: ds)
inductive RepK (K : PySem.W.Frag) (F : Hp) : List (Key × V) → List (Key × D) → Prop
  | nil : RepK K F [] []
  | cons {k : Key} {v : V} {vs : List (Key × V)} {d : D} {ds : List (Key × D)} : Rep K F v d → RepK K F vs ds → RepK K F ((k, v) :: vs) ((k, d) :: ds)
end
mutual
theorem Rep.mono {K : PySem.W.Frag} {F F' : Hp} (e : Ex F F') : ∀ {v : V} {d : D}, Rep K F v d → Rep K F' v d
  | _, _, .non => .non
  | _, _, .bl b => .bl b
  | _, _, .int i => .int i
  | _, _, .str x => .str x
  | _, _, .lst h r => .lst (e _ _ h) (RepL.mono e r)
  | _, _, .tup h r => .tup (h.mono e) (RepL.mono e r)
  | _, _, .dk h r => .dk (e _ _ h) (RepK.mono e r)
  | _, _, .scr h => .scr (e.l h)
  | _, _, .ce a => .ce a
theorem RepL.mono {K : PySem.W.Frag} {F F' : Hp} (e : Ex F F') : ∀ {vs : List V} {ds : List D}, RepL K F vs ds → RepL K F' vs ds
  | _, _, .nil => .nil
  | _, _, .cons r t => .cons (Rep.mono e r) (RepL.mono e t)
theorem RepK.mono {K : PySem.W.Frag} {F F' : Hp} (e : Ex F F') : ∀ {vs : List (Key × V)} {ds : List (Key × D)}, RepK K F vs ds → RepK K F' vs ds
  | _, _, .nil => .nil
  | _, _, .cons r t => .cons (Rep.mono e r) (RepK.mono e t)
end
section
variable {K : PySem.W.Frag} {F F' : Hp}
theorem RepL.length : ∀ {vs : List V} {ds : List D}, RepL K F vs ds → vs.length = ds.length
  | _, _, .nil => rfl
  | _, _, .cons _ t => by rw [List.length_cons, List.length_cons, RepL.length t]
theorem RepL.get : ∀ {vs : List V} {ds : List D} {i : Nat} {v : V}, RepL K F vs ds → vs[i]? = some v → ∃ d, ds[i]? = some d ∧ Rep K F v d
  | _, _, _, _, .nil, e => by simp at e
  | _, _, 0, _, .cons r _, e => by simp at e; subst e; exact ⟨_, rfl, r⟩
  | _, _, i + 1, v, .cons _ t, e => by
    obtain ⟨u, h1, h2⟩ := RepL.get (i := i) (v := v) t (by simpa using e)
    exact ⟨u, by simpa using h1, h2⟩
theorem RepL.getD : ∀ {vs : List V} {ds : List D} {i : Nat} {d : D}, RepL K F vs ds → ds[i]? = some d → ∃ v, vs[i]? = some v ∧ Rep K F v d
  | _, _, _, _, .nil, e => by simp at e
  | _, _, 0, _, .cons r _, e => by simp at e; subst e; exact ⟨_, rfl, r⟩
  | _, _, i + 1, v, .cons _ t, e => by
    obtain ⟨u, h1, h2⟩ := RepL.getD (i := i) (d := v) t (by simpa using e)
    exact ⟨u, by simpa using h1, h2⟩
theorem RepL.set {x : V} {u : D} (r : Rep K F x u) : ∀ {xs : List V} {us : List D} (i : Nat), RepL K F xs us → RepL K F (xs.set i x) (us.set i u)
  | _, _, _, .nil => .nil
  | _, _, 0, .cons _ t => .cons r t
  | _, _, i + 1, .cons q t => .cons q (RepL.set r i t)
theorem RepL.append : ∀ {xs ys : List V} {us ws : List D}, RepL K F xs us → RepL K F ys ws → RepL K F (xs ++ ys) (us ++ ws)
  | _, _, _, _, .nil, s => s
  | _, _, _, _, .cons r t, s => .cons r (RepL.append t s)
theorem RepL.take : ∀ {xs : List V} {us : List D} (n : Nat), RepL K F xs us → RepL K F (xs.take n) (us.take n)
  | _, _, 0, _ => .nil
  | _, _, _ + 1, .nil => .nil
  | _, _, n + 1, .cons r t => .cons r (RepL.take n t)
theorem RepL.drop : ∀ {xs : List V} {us : List D} (n : Nat), RepL K F xs us → RepL K F (xs.drop n) (us.drop n)
  | _, _, 0, r => r
  | _, _, _ + 1, .nil => .nil
  | _, _, n + 1, .cons _ t => RepL.drop n t
theorem RepL.reverse : ∀ {xs : List V} {us : List D}, RepL K F xs us → RepL K F xs.reverse us.reverse
  | _, _, .nil => .nil
  | _, _, .cons r t => by
    rw [List.reverse_cons, List.reverse_cons]
    exact RepL.append (RepL.reverse t) (.cons r .nil)
theorem RepL.dropLast {xs : List V} {us : List D} (h : RepL K F xs us) : RepL K F xs.dropLast us.dropLast := by
  rw [List.dropLast_eq_take, List.dropLast_eq_take, h.length]
  exact h.take _
theorem RepL.erase : ∀ {xs : List V} {us : List D} (i : Nat), RepL K F xs us → RepL K F (xs.eraseIdx i) (us.eraseIdx i)
  | _, _, _, .nil => .nil
  | _, _, 0, .cons _ t => t
  | _, _, i + 1, .cons q t => .cons q (RepL.erase i t)
theorem RepL.ints : ∀ ns : List Int, RepL K F (ns.map V.int) (ns.map D.int)
  | [] => .nil
  | n :: ns => .cons (.int n) (RepL.ints ns)
theorem RepL.ofInts : ∀ {xs : List V} {ns : List Int}, RepL K F xs (ns.map D.int) → xs = ns.map V.int
  | _, [], .nil => rfl
  | _, n :: ns, .cons (.int _) t => by rw [List.map_cons, RepL.ofInts t]
theorem RepL.ofStrs : ∀ {xs : List V} {ns : List Str}, RepL K F xs (ns.map D.str) → xs = ns.map V.str
  | _, [], .nil => rfl
  | _, n :: ns, .cons (.str _) t => by rw [List.map_cons, RepL.ofStrs t]
theorem RepL.ofBls : ∀ {xs : List V} {ns : List Bool}, RepL K F xs (ns.map D.bl) → xs = ns.map V.bl
  | _, [], .nil => rfl
  | _, n :: ns, .cons (.bl _) t => by rw [List.map_cons, RepL.ofBls t]
end
/-- entries whose keys are tuples -/
inductive RepT (K : PySem.W.Frag) (F : Hp) : List (List Key × V) → List (List Key × D) → Prop
  | nil : RepT K F [] []
  | cons {k : List Key} {v : V} {vs : List (List Key × V)} {d : D} {ds : List (List Key × D)} : Rep K F v d → RepT K F vs ds → RepT K F ((k, v) :: vs) ((k, d) :: ds)
theorem RepT.mono {K : PySem.W.Frag} {F F' : Hp} (e : Ex F F') : ∀ {vs : List (List Key × V)} {ds : List (List Key × D)}, RepT K F vs ds → RepT K F' vs ds
  | _, _, .nil => .nil
  | _, _, .cons r t => .cons (r.mono e) (t.mono e)
mutual
/-- a value that is a key -/
inductive VKey (F : Hp) : V → NestedKey → Prop
  | non : VKey F .non .none
  | bl (b : Bool) : VKey F (.bl b) (.num (if b = true then 1 else 0))
  | int (i : Int) : VKey F (.int i) (.num i)
  | str (x : Str) : VKey F (.str x) (.text x)
  | tup {a : Addr} {vs : List V} {ks : List NestedKey} : Rd F a (.tup vs) → VKeys F vs ks → VKey F (.ref a) (.tup ks)
inductive VKeys (F : Hp) : List V → List NestedKey → Prop
  | nil : VKeys F [] []
  | cons {v : V} {vs : List V} {k : NestedKey} {ks : List NestedKey} : VKey F v k → VKeys F vs ks → VKeys F (v :: vs) (k :: ks)
end
mutual
theorem VKey.mono {F F' : Hp} (e : Ex F F') : ∀ {v : V} {k : NestedKey}, VKey F v k → VKey F' v k
  | _, _, .non => .non
  | _, _, .bl b => .bl b
  | _, _, .int i => .int i
  | _, _, .str x => .str x
  | _, _, .tup h r => .tup (rdUp h e) (VKeys.mono e r)
theorem VKeys.mono {F F' : Hp} (e : Ex F F') : ∀ {v : List V} {k : List NestedKey}, VKeys F v k → VKeys F' v k
  | _, _, .nil => .nil
  | _, _, .cons r t => .cons (VKey.mono e r) (VKeys.mono e t)
end
inductive RepN (K : PySem.W.Frag) (F : Hp) : List (NestedKey × Addr × V) → List (NestedKey × D) → Prop
  | nil : RepN K F [] []
  | cons {k : NestedKey} {a : Addr} {v : V} {vs : List (NestedKey × Addr × V)} {d : D} {ds : List (NestedKey × D)} : VKey F (.ref a) k → k.depth ≤ 8 → Rep K F v d → RepN K F vs ds → RepN K F ((k, a, v) :: vs) ((k, d) :: ds)
theorem RepN.mono {K : PySem.W.Frag} {F F' : Hp} (e : Ex F F') : ∀ {vs : List (NestedKey × Addr × V)} {ds : List (NestedKey × D)}, RepN K F vs ds → RepN K F' vs ds
  | _, _, .nil => .nil
  | _, _, .cons a b r t => .cons (a.mono e) b (r.mono e) (t.mono e)
/-- at p stands a dict with these entries -/
def DictN (w : World) (p : Addr) (xs : List (NestedKey × Addr × V)) : Heap → Prop := fun h => xs.length ≤ sizeLine ∧ (p == sysModules) = false ∧
  ∃ ys : List (NestedKey × Addr × Value), Paired (fun (x : NestedKey × Addr × V) (y : NestedKey × Addr × Value) => x.1 = y.1 ∧ x.2.1 = y.2.1 ∧ RelV x.2.2 y.2.2) xs ys ∧
  ∃ (o : Obj) (es : Array DictEntry) (ep : Nat), h.get? p = some o ∧ o.ExactDict ∧ o.data = .dict es ep ∧ es.toList = ys.map (fun x => (⟨x.1.hash w, .ref x.2.1, x.2.2⟩ : DictEntry)) ∧ (ys.map (·.1)).Nodup
/-- fields of an object -/
inductive RepF (K : PySem.W.Frag) (F : Hp) : List (Str × V) → List (Str × D) → Prop
  | nil : RepF K F [] []
  | cons {k : Str} {v : V} {vs : List (Str × V)} {d : D} {ds : List (Str × D)} : Rep K F v d → RepF K F vs ds → RepF K F ((k, v) :: vs) ((k, d) :: ds)
theorem RepF.mono {K : PySem.W.Frag} {F F' : Hp} (e : Ex F F') : ∀ {vs : List (Str × V)} {ds : List (Str × D)}, RepF K F vs ds → RepF K F' vs ds
  | _, _, .nil => .nil
  | _, _, .cons r t => .cons (r.mono e) (t.mono e)
/-- the grounds: the world, the module's names -/
structure Gd where
  w : World
  mg : Str → Option Value
/-- at p stands an exception of a class, without attributes -/
def ExcAt (cls : Value) (p : Addr) : Heap → Prop := fun h => ∃ (oe : Obj) (vs : Array Value), h.get? p = some oe ∧ oe.cls = cls ∧ oe.dict = none ∧ oe.data = .fields vs
/-- what a cell holds -/
inductive CellC (w : Gd) (K : PySem.W.Frag) (F : Hp) (p : Addr) : HO → Cell → Prop
  | lst {xs : List V} {ds : List D} : RepL K F xs ds → CellC w K F p (.lst xs) (.lst ds)
  | dk {kvs : List (Key × V)} {es : List (Key × D)} : RepK K F kvs es → CellC w K F p (.dK kvs) (.dk es)
  | dn {xs : List (NestedKey × Addr × V)} {es : List (NestedKey × D)} : RepN K F xs es → CellC w K F p (.ext (DictN w.w p xs)) (.dn es)
  | exc {nm : Str} {cls : Value} : w.mg nm = some cls → CellC w K F p (.ext (ExcAt cls p)) (.exc nm)
  | ob {nm : Str} {C dx : Addr} {fs : List (Str × V)} {es : List (Str × D)} : w.mg nm = some (.ref C) → RepF K F fs es → CellC w K F p (.ins C dx fs) (.ob nm es)
theorem CellC.mono {w : Gd} {K : PySem.W.Frag} {F F' : Hp} {p : Addr} (e : Ex F F') {o : HO} {c : Cell} : CellC w K F p o c → CellC w K F' p o c
  | .lst r => .lst (r.mono e)
  | .dk r => .dk (r.mono e)
  | .dn r => .dn (r.mono e)
  | .exc h => .exc h
  | .ob h r => .ob h (r.mono e)
/-- what was known, and kept aside, where the def, or the try, was entered -/
structure Bs where
  F0 : Hp
  R0 : Hp
  g : Gd
/-- the empty ground -/
def Bs.nil (w : Gd) : Bs := ⟨fun _ => none, fun _ => none, w⟩
/-- F: what is known for good; C: the cells; R: what is kept aside -/
structure Sat (B : Bs) (K : PySem.W.Frag) (F : Hp) (C : AH) (R H : Hp) : Prop where
  bF : Ex B.F0 F
  bR : Ex B.R0 R
  ex : Ex F H
  cell : ∀ p c, C p = some c → F p = none ∧ ∃ o, H p = some o ∧ CellC B.g K F p o c
  priv : ∀ p o, R p = some o → F p = none ∧ C p = none ∧ H p = some o
section
variable {B : Bs} {K : PySem.W.Frag} {F F' : Hp} {C : AH} {R H : Hp} {p : Addr}
theorem Sat.rebase {B' : Bs} (S : Sat B K F C R H) (hw : B'.g = B.g) (h1 : Ex B'.F0 F) (h2 : Ex B'.R0 R) : Sat B' K F C R H := ⟨h1, h2, S.ex, fun p c e => by rw [hw]; exact S.cell p c e, S.priv⟩
theorem Sat.nil (S : Sat B K F C R H) : Sat (Bs.nil B.g) K F C R H := S.rebase rfl (fun _ _ e => by cases e) (fun _ _ e => by cases e)
/-- back behind a call -/
theorem Sat.back {C0 : AH} {H0 : Hp} {F1 : Hp} {C1 : AH} {H1 : Hp} (S : Sat B K F C0 R H0) (e : Ex F F1) (S1 : Sat (Bs.nil B.g) K F1 C1 R H1) : Sat B K F1 C1 R H1 := S1.rebase rfl (S.bF.trans e) S.bR
theorem Sat.freeB (S : Sat B K F C R H) (h : R p = none) : B.R0 p = none := S.bR.back h
theorem Sat.freeF (S : Sat B K F C R H) (h : H p = none) : F p = none := S.ex.back h
theorem Sat.freeC (S : Sat B K F C R H) (h : H p = none) : C p = none := by
  cases q : C p with
  | none => rfl
  | some c => obtain ⟨_, o, e, _⟩ := S.cell p c q; rw [h] at e; cases e
theorem Sat.freeR (S : Sat B K F C R H) (h : H p = none) : R p = none := by
  cases q : R p with
  | none => rfl
  | some c => have e := (S.priv p c q).2.2; rw [h] at e; cases e
/-- a new object, known for good -/
theorem Sat.newF (S : Sat B K F C R H) (h : H p = none) (o : HO) : Sat B K (upd F p o) C R (upd H p o) := by
  have hF := S.freeF h
  refine ⟨S.bF.trans (Ex.new hF), S.bR, fun a u e => ?_, fun q c e => ?_, fun q u e => ?_⟩
  · by_cases ha : a = p
    · subst ha; rw [upd_same] at e ⊢; exact e
    · rw [upd_ne ha] at e ⊢; exact S.ex _ _ e
  · obtain ⟨h1, u, h2, h3⟩ := S.cell q c e
    have hq : q ≠ p := ne_of_none h2 h
    exact ⟨by rw [upd_ne hq]; exact h1, u, by rw [upd_ne hq]; exact h2, h3.mono (Ex.new hF)⟩
  · obtain ⟨h1, h2, h3⟩ := S.priv q u e
    have hq : q ≠ p := ne_of_none h3 h
    exact ⟨by rw [upd_ne hq]; exact h1, h2, by rw [upd_ne hq]; exact h3⟩
/-- a cell is made, or changed -/
theorem Sat.setC (S : Sat B K F C R H) (hF : F p = none) (hR : R p = none) {o : HO} {c : Cell} (h : CellC B.g K F p o c) : Sat B K F (put C p c) R (upd H p o) := by
  refine ⟨S.bF, S.bR, fun a u e => ?_, fun q d e => ?_, fun q u e => ?_⟩
  · rw [upd_ne (ne_of_none e hF)]; exact S.ex _ _ e
  · by_cases hq : q = p
    · subst hq; rw [put_same] at e; cases e; exact ⟨hF, o, upd_same, h⟩
    · rw [put_ne hq] at e
      obtain ⟨h1, u, h2, h3⟩ := S.cell q d e
      exact ⟨h1, u, by rw [upd_ne hq]; exact h2, h3⟩
  · have hq : q ≠ p := ne_of_none e hR
    obtain ⟨h1, h2, h3⟩ := S.priv q u e
    exact ⟨h1, by rw [put_ne hq]; exact h2, by rw [upd_ne hq]; exact h3⟩
theorem Sat.newC (S : Sat B K F C R H) (h : H p = none) {o : HO} {c : Cell} (hc : CellC B.g K F p o c) : Sat B K F (put C p c) R (upd H p o) := S.setC (S.freeF h) (S.freeR h) hc
theorem Sat.mutC (S : Sat B K F C R H) {c0 : Cell} (h : C p = some c0) {o : HO} {c : Cell} (hc : CellC B.g K F p o c) : Sat B K F (put C p c) R (upd H p o) := by
  refine S.setC (S.cell p c0 h).1 ?_ hc
  cases q : R p with
  | none => rfl
  | some u => have e := (S.priv p u q).2.1; rw [h] at e; cases e
/-- kept aside -/
theorem Sat.setR (S : Sat B K F C R H) (hF : F p = none) (hC : C p = none) (hB : B.R0 p = none) (o : HO) : Sat B K F C (upd R p o) (upd H p o) := by
  refine ⟨S.bF, fun q u e => by rw [upd_ne (ne_of_none e hB)]; exact S.bR q u e, fun a u e => ?_, fun q d e => ?_, fun q u e => ?_⟩
  · rw [upd_ne (ne_of_none e hF)]; exact S.ex _ _ e
  · have hq : q ≠ p := fun z => by rw [z, hC] at e; cases e
    obtain ⟨h1, u, h2, h3⟩ := S.cell q d e
    exact ⟨h1, u, by rw [upd_ne hq]; exact h2, h3⟩
  · by_cases hq : q = p
    · subst hq; rw [upd_same] at e; cases e; exact ⟨hF, hC, upd_same⟩
    · rw [upd_ne hq] at e
      obtain ⟨h1, h2, h3⟩ := S.priv q u e
      exact ⟨h1, h2, by rw [upd_ne hq]; exact h3⟩
/-- what was kept aside is known for good, is a cell -/
theorem Sat.outF (S : Sat B K F C (upd R p o) H) (hR : R p = none) (hB : B.R0 p = none) : Sat B K (upd F p o) C R H := by
  obtain ⟨f, c, h⟩ := S.priv p o upd_same
  refine ⟨S.bF.trans (Ex.new f), fun q u e => by have := S.bR q u e; rwa [upd_ne (ne_of_none e hB)] at this, fun a u e => ?_, fun q d e => ?_, fun q u e => ?_⟩
  · by_cases ha : a = p
    · subst ha; rw [upd_same] at e; cases e; exact h
    · rw [upd_ne ha] at e; exact S.ex _ _ e
  · have hq : q ≠ p := fun z => by rw [z, c] at e; cases e
    obtain ⟨h1, u, h2, h3⟩ := S.cell q d e
    exact ⟨by rw [upd_ne hq]; exact h1, u, h2, h3.mono (Ex.new f)⟩
  · have hq : q ≠ p := ne_of_none e hR
    obtain ⟨h1, h2, h3⟩ := S.priv q u (by rw [upd_ne hq]; exact e)
    exact ⟨by rw [upd_ne hq]; exact h1, h2, h3⟩
theorem Sat.outC {o : HO} {c : Cell} (S : Sat B K F C (upd R p o) H) (hR : R p = none) (hB : B.R0 p = none) (hc : CellC B.g K F p o c) : Sat B K F (put C p c) R H := by
  obtain ⟨f, c0, h⟩ := S.priv p o upd_same
  refine ⟨S.bF, fun q u e => by have := S.bR q u e; rwa [upd_ne (ne_of_none e hB)] at this, S.ex, fun q d e => ?_, fun q u e => ?_⟩
  · by_cases hq : q = p
    · subst hq; rw [put_same] at e; cases e; exact ⟨f, o, h, hc⟩
    · rw [put_ne hq] at e; exact S.cell q d e
  · have hq : q ≠ p := ne_of_none e hR
    obtain ⟨h1, h2, h3⟩ := S.priv q u (by rw [upd_ne hq]; exact e)
    exact ⟨h1, by rw [put_ne hq]; exact h2, h3⟩
/-- a cell is changed no more -/
theorem Sat.freeze {o : HO} {c : Cell} (S : Sat B K F C R H) (h : C p = some c) (hH : H p = some o) : Sat B K (upd F p o) (del C p) R H := by
  obtain ⟨f, _, _⟩ := S.cell p c h
  refine ⟨S.bF.trans (Ex.new f), S.bR, fun a u e => ?_, fun q d e => ?_, fun q u e => ?_⟩
  · by_cases ha : a = p
    · subst ha; rw [upd_same] at e; cases e; exact hH
    · rw [upd_ne ha] at e; exact S.ex _ _ e
  · by_cases hq : q = p
    · subst hq; unfold del at e; rw [if_pos rfl] at e; cases e
    · unfold del at e; rw [if_neg hq] at e
      obtain ⟨h1, u, h2, h3⟩ := S.cell q d e
      exact ⟨by rw [upd_ne hq]; exact h1, u, h2, h3.mono (Ex.new f)⟩
  · obtain ⟨h1, h2, h3⟩ := S.priv q u e
    have hq : q ≠ p := fun z => by rw [z, h] at h2; cases h2
    refine ⟨by rw [upd_ne hq]; exact h1, ?_, h3⟩
    unfold del; rw [if_neg hq]; exact h2
end
abbrev ASt := List (Option D)
structure Slo (K : PySem.W.Frag) (F : Hp) (s : ASt) (σ : St) : Prop where
  len : s.length = σ.length
  at' : ∀ (i : Nat) (d : D), s[i]? = some (some d) → ∃ v, σ[i]? = some (some v) ∧ Rep K F v d
section
variable {K : PySem.W.Frag} {F F' : Hp} {s : ASt} {σ : St}
theorem Slo.mono (r : Slo K F s σ) (e : Ex F F') : Slo K F' s σ := ⟨r.len, fun i d h => let ⟨v, a, b⟩ := r.at' i d h; ⟨v, a, b.mono e⟩⟩
theorem Slo.set (r : Slo K F s σ) {v : V} {d : D} (h : Rep K F v d) (i : Nat) : Slo K F (s.set i (some d)) (σ.set i (some v)) := by
  refine ⟨by rw [List.length_set, List.length_set, r.len], fun j e q => ?_⟩
  by_cases hj : i = j
  · subst hj
    by_cases hi : i < s.length
    · rw [List.getElem?_set_self hi] at q
      cases q
      exact ⟨v, List.getElem?_set_self (by rw [← r.len]; exact hi), h⟩
    · rw [List.getElem?_eq_none (by simpa using hi)] at q; cases q
  · rw [List.getElem?_set_ne hj] at q ⊢
    exact r.at' j e q
theorem Slo.forget (r : Slo K F s σ) (i : Nat) : Slo K F (s.set i none) (σ.set i none) := by
  refine ⟨by rw [List.length_set, List.length_set, r.len], fun j e q => ?_⟩
  by_cases hj : i = j
  · subst hj
    by_cases hi : i < s.length
    · rw [List.getElem?_set_self hi] at q; cases q
    · rw [List.getElem?_eq_none (by simpa using hi)] at q; cases q
  · rw [List.getElem?_set_ne hj] at q ⊢
    exact r.at' j e q
/-- only the abstract slot changes -/
theorem Slo.reset (r : Slo K F s σ) {i : Nat} {d0 d : D} (h0 : s[i]? = some (some d0)) (h : ∀ v, Rep K F v d0 → Rep K F v d) : Slo K F (s.set i (some d)) σ := by
  refine ⟨by rw [List.length_set, r.len], fun j e q => ?_⟩
  by_cases hj : i = j
  · subst hj
    have hi : i < s.length := (List.getElem?_eq_some_iff.mp h0).1
    rw [List.getElem?_set_self hi] at q
    cases q
    obtain ⟨v, h1, h2⟩ := r.at' i d0 h0
    exact ⟨v, h1, h v h2⟩
  · rw [List.getElem?_set_ne hj] at q
    exact r.at' j e q
def wipeA (s : ASt) : List Nat → ASt
  | [] => s
  | v :: vs => (wipeA s vs).set v none
theorem Slo.wipe (r : Slo K F s σ) : ∀ vs : List Nat, Slo K F (wipeA s vs) (L2.wipe σ vs)
  | [] => r
  | v :: vs => (Slo.wipe r vs).forget v
theorem Slo.start {vs : List V} {ds : List D} (h : RepL K F vs ds) (n : Nat) : Slo K F (ds.map some ++ List.replicate (n - ds.length) none) (vs.map some ++ List.replicate (n - vs.length) none) := by
  have e := h.length
  refine ⟨by simp [e], fun i d q => ?_⟩
  by_cases hi : i < ds.length
  · rw [List.getElem?_append_left (by simpa using hi), List.getElem?_map] at q
    rw [List.getElem?_append_left (by simpa [e] using hi), List.getElem?_map]
    cases z : ds[i]? with
    | none => rw [z] at q; cases q
    | some d' =>
      rw [z] at q
      cases q
      obtain ⟨v, h1, h2⟩ := h.getD z
      exact ⟨v, by rw [h1]; rfl, h2⟩
  · rw [List.getElem?_append_right (by simpa using hi), List.getElem?_replicate] at q
    split at q <;> cases q
end
end AL
namespace AL
open PySem PySem.Spec PyProof.Rows L2
def NewT (xs : List V) (Q : VK) (H : Hp) : Prop := ∀ (p : Addr) (ob : Obj), ob.dict = none → H p = none → Q (.ref p) (upd H p (.frz ob (.tup xs)))
section
variable {X : Cx} {pins : List (Addr × Obj)} {σ : L2.St} {H : Hp} {s : Shared}
theorem laidT {xs : List V} {its : List Value} {Q : VK} {h' : Heap} {tk : Nat} (I : Inv X pins σ H { s with heap := h' }) (hz : xs.length ≤ sizeLine) (r : L2.Vals xs its) (q : NewT xs Q H) :
    EP X pins σ Q (.ref h'.objs.size) { s with heap := h'.push { cls := .type "tuple", data := .seq its.toArray } } := by
  refine ⟨.ref h'.objs.size, upd H h'.objs.size (.frz { cls := .type "tuple", data := .seq its.toArray } (.tup xs)), I.laid (t' := s.toks) (fun b u e => Heap.get?_push_of_some _ e) (Nat.le_refl _) ?_, rfl, q _ _ rfl (I.hok.fresh (Nat.le_refl _))⟩
  exact ⟨Heap.get?_push_size _ rfl, hz, its, r, ⟨_, Heap.get?_push_size _ rfl, rfl, _, rfl⟩⟩
end
def tTupN (t : TA) : TE := fun σ H Q => t σ H fun xs H1 => xs.length ≤ sizeLine ∧ NewT xs Q H1
section
variable {X : Cx} {es : List Expr} {t : TA} {pos : Pos}
theorem pe_tupN {x1} (h : PA X es t) : PE X (.Tuple es x1 pos) (tTupN t) := by
  refine ⟨fun pins s σ H Q I hq => ?_⟩
  refine wpAny_Tuple_spliced (thn (h.run pos pins s σ H _ I hq) fun us s1 ⟨xs, H1, I1, r, z, q⟩ => ⟨by rw [← r.length]; exact z, ?_⟩)
  exact laidT (tk := s1.toks) I1 z r q
def rCatTN (K : PySem.W.Frag) : R2 := fun x y H Q => ∃ a b xs ys, x = .ref a ∧ y = .ref b ∧ SqT K H a xs ∧ SqT K H b ys ∧ xs.length + ys.length ≤ sizeLine ∧
  (xs = [] → Q (.ref b) H) ∧ (xs ≠ [] → ys = [] → Q (.ref a) H) ∧ (xs ≠ [] → ys ≠ [] → NewT (xs ++ ys) Q H)
theorem op_catTN : OpR X (binaryOp .Add) (rCatTN X.K) := by
  intro pins s σ H x y v u Q I rx ry h
  obtain ⟨a, b, xs, ys, rfl, rfl, ha, hb, hz, q0, q1, q2⟩ := h
  by_cases hx : xs = []
  · exact op_catA pins s σ H _ _ v u Q I rx ry ⟨a, b, xs, ys, rfl, rfl, ha, hb, hz, q0, q1, fun h => absurd hx h⟩
  by_cases hy : ys = []
  · exact op_catA pins s σ H _ _ v u Q I rx ry ⟨a, b, xs, ys, rfl, rfl, ha, hb, hz, q0, q1, fun _ h => absurd hy h⟩
  cases rx
  cases ry
  obtain ⟨its, r1, p1, _⟩ := I.tuple ha
  obtain ⟨its2, r2, p2, _⟩ := I.tuple hb
  refine HT.cat_tup p1 p2 (fun z => hx (r1.nil_iff.mp z)) (fun z => absurd (r2.nil_iff.mp z) hy) (fun z => ?_) (by rw [← r1.length, ← r2.length]; exact hz)
  exact laidT (tk := s.toks) I (by rw [List.length_append]; exact hz) (r1.append r2) (q2 hx hy)
def rSlTN (K : PySem.W.Frag) : V → Option Int → Option Int → Hp → VK → Prop := fun x lo hi H Q => ∃ a xs, x = .ref a ∧ SqT K H a xs ∧
  (HT.sIx xs.length 0 lo = 0 ∧ HT.sIx xs.length xs.length hi = xs.length → Q (.ref a) H) ∧ (¬ (HT.sIx xs.length 0 lo = 0 ∧ HT.sIx xs.length xs.length hi = xs.length) → NewT (cutV xs lo hi) Q H)
theorem sl_tupN : SlR X (rSlTN X.K) := by
  intro pins s σ H x v vl vu lo hi sl Q I rx hs pl pu h
  obtain ⟨a, xs, rfl, hx, q1, q2⟩ := h
  by_cases hw : HT.sIx xs.length 0 lo = 0 ∧ HT.sIx xs.length xs.length hi = xs.length
  · exact sl_tupA pins s σ H _ v vl vu lo hi sl Q I rx hs pl pu ⟨a, xs, rfl, hx, q1, fun h => absurd hw h⟩
  · cases rx
    obtain ⟨its, r, ht, hz⟩ := I.tuple hx
    have hlen : its.toArray.size = xs.length := by rw [List.size_toArray]; exact r.length.symm
    refine ⟨"tuple", _, PyProof.Rows.slot_tuple_getitem.lookup, ht.typeIs, ?_⟩
    refine HT.getItem_tuple_cut ht hs pl pu (by rw [hlen]; exact hw) ?_ (by rw [hlen]; exact hz)
    rw [hlen]
    exact laidT (tk := s.toks) I (Nat.le_trans (cutV_length xs lo hi) hz) ((r.drop (HT.sIx xs.length 0 lo)).take (HT.sIx xs.length xs.length hi - HT.sIx xs.length 0 lo)) (q2 hw)
def rTupOfN (K : PySem.W.Frag) : List V → Hp → VK → Prop := fun xs H Q => ∃ p ys, xs = [.ref p] ∧ ((SqL K H p ys ∧ NewT ys Q H) ∨ (SqT K H p ys ∧ Q (.ref p) H))
theorem call_tuple_ofN : CallR X (.type "tuple") (rTupOfN X.K) := by
  intro pins s σ H xs us Q I r h
  obtain ⟨p, ys, rfl, h⟩ := h
  rcases h with ⟨hq, q⟩ | h
  · obtain ⟨u, rfl, rx⟩ := vals1 r
    cases rx
    obtain ⟨its, r', pl, hz⟩ := I.list hq
    have hlen := r'.length
    refine call_tuple_list pl.isList (fun h' kp => ?_) (by simp only [List.size_toArray] <;> omega)
    have I1 : Inv X pins σ H { s with heap := h' } := I.kept (t' := s.toks) kp
    exact laidT (tk := s.toks) I1 hz r' q
  · exact call_tuple_of pins s σ H _ us Q I r ⟨p, ys, rfl, .inr h⟩
end
end AL
namespace AL
open PySem PySem.Spec L2
variable {B : Bs}
abbrev AE' := ASt → AH → (D → AH → Prop) → Prop
abbrev AT' := ASt → AH → (Bool → AH → Prop) → Prop
abbrev AA' := ASt → AH → (List D → AH → Prop) → Prop
structure AEnds where
  nx : ASt → AH → Prop
  rt : D → AH → Prop
  bk : ASt → AH → Prop := fun _ _ => False
  ct : ASt → AH → Prop := fun _ _ => False
abbrev AS' := AEnds → ASt → AH → Prop
abbrev AG' := D → ASt → AH → (ASt → AH → Prop) → Prop
/-- what is walked: the items, what must stay so, the cells -/
abbrev AI' := ASt → AH → (List D → (AH → Prop) → AH → Prop) → Prop
abbrev ASp := List D → AH → (D → AH → Prop) → Prop
section
variable (B : Bs) (K : PySem.W.Frag)
def SimE (te : TE) (a : AE') : Prop := ∀ (σ : L2.St) (s : ASt) (F : Hp) (C : AH) (R H : Hp) (Q : VK) (P : D → AH → Prop), Slo K F s σ → Sat B K F C R H → a s C P →
  (∀ d v F' C' H', Ex F F' → Sat B K F' C' R H' → Rep K F' v d → P d C' → Q v H') → te σ H Q
def SimT (tt : TT) (a : AT') : Prop := ∀ (σ : L2.St) (s : ASt) (F : Hp) (C : AH) (R H : Hp) (Q : Bool → Hp → Prop) (P : Bool → AH → Prop), Slo K F s σ → Sat B K F C R H → a s C P →
  (∀ b F' C' H', Ex F F' → Sat B K F' C' R H' → P b C' → Q b H') → tt σ H Q
def SimA (n : Nat) (ta : TA) (a : AA') : Prop := ∀ (σ : L2.St) (s : ASt) (F : Hp) (C : AH) (R H : Hp) (Q : List V → Hp → Prop) (P : List D → AH → Prop), Slo K F s σ → Sat B K F C R H → a s C P →
  (∀ ds vs F' C' H', Ex F F' → Sat B K F' C' R H' → RepL K F' vs ds → ds.length = n → P ds C' → Q vs H') → ta σ H Q
structure EndsR (F R : Hp) (E : AEnds) (D' : Ends) : Prop where
  nx : ∀ s σ F' C' H', Ex F F' → Slo K F' s σ → Sat B K F' C' R H' → E.nx s C' → D'.nx σ H'
  rt : ∀ d v F' C' H', Ex F F' → Rep K F' v d → Sat B K F' C' R H' → E.rt d C' → D'.rt v H'
  bk : ∀ s σ F' C' H', Ex F F' → Slo K F' s σ → Sat B K F' C' R H' → E.bk s C' → D'.bk σ H'
  ct : ∀ s σ F' C' H', Ex F F' → Slo K F' s σ → Sat B K F' C' R H' → E.ct s C' → D'.ct σ H'
def SimS (ts : TS) (a : AS') : Prop := ∀ (D' : Ends) (E : AEnds) (σ : L2.St) (s : ASt) (F : Hp) (C : AH) (R H : Hp), EndsR B K F R E D' → Slo K F s σ → Sat B K F C R H → a E s C → ts D' σ H
def SimG (g : TG) (a : AG') : Prop := ∀ (v : V) (d : D) (σ : L2.St) (s : ASt) (F : Hp) (C : AH) (R H : Hp) (Q : L2.St → Hp → Prop) (P : ASt → AH → Prop), Slo K F s σ → Sat B K F C R H → Rep K F v d → a d s C P →
  (∀ s' σ' F' C' H', Ex F F' → Slo K F' s' σ' → Sat B K F' C' R H' → P s' C' → Q σ' H') → g v σ H Q
/-- an iterator walks the items -/
structure Walks (F : Hp) (items : List D) (hold : AH → Prop) (J : It) : Prop where
  stop : ∀ F' C' R' H', Ex F F' → Sat B K F' C' R' H' → hold C' → J.stop items.length H'
  go : ∀ F' C' R' H' i, Ex F F' → Sat B K F' C' R' H' → hold C' → i < items.length → J.go i H'
  yld : ∀ F' C' R' H' i x H'', Ex F F' → Sat B K F' C' R' H' → hold C' → i < items.length → J.yld i H' x H'' → ∃ d F'', items[i]? = some d ∧ Ex F' F'' ∧ Sat B K F'' C' R' H'' ∧ Rep K F'' x d
def SimI (wi : TI) (a : AI') : Prop := ∀ (σ : L2.St) (s : ASt) (F : Hp) (C : AH) (R H : Hp) (Q : It → Hp → Prop) (P : List D → (AH → Prop) → AH → Prop), Slo K F s σ → Sat B K F C R H → a s C P →
  (∀ items hold J F' C' H', Ex F F' → Sat B K F' C' R H' → Walks B K F' items hold J → P items hold C' → Q J H') → wi σ H Q
def SimR2 (r : R2) (a : D → D → AH → (D → AH → Prop) → Prop) : Prop := ∀ (v w : V) (d e : D) (F : Hp) (C : AH) (R H : Hp) (Q : VK) (P : D → AH → Prop), Sat B K F C R H → Rep K F v d → Rep K F w e → a d e C P →
  (∀ d v F' C' H', Ex F F' → Sat B K F' C' R H' → Rep K F' v d → P d C' → Q v H') → r v w H Q
def SimR1 (r : V → Hp → VK → Prop) (a : D → AH → (D → AH → Prop) → Prop) : Prop := ∀ (v : V) (d : D) (F : Hp) (C : AH) (R H : Hp) (Q : VK) (P : D → AH → Prop), Sat B K F C R H → Rep K F v d → a d C P →
  (∀ d v F' C' H', Ex F F' → Sat B K F' C' R H' → Rep K F' v d → P d C' → Q v H') → r v H Q
def SimRL (r : List V → Hp → VK → Prop) (a : ASp) : Prop := ∀ (vs : List V) (ds : List D) (F : Hp) (C : AH) (R H : Hp) (Q : VK) (P : D → AH → Prop), Sat B K F C R H → RepL K F vs ds → a ds C P →
  (∀ d v F' C' H', Ex F F' → Sat B K F' C' R H' → Rep K F' v d → P d C' → Q v H') → r vs H Q
def SimRM (r : V → List V → Hp → VK → Prop) (a : D → ASp) : Prop := ∀ (v : V) (d : D) (vs : List V) (ds : List D) (F : Hp) (C : AH) (R H : Hp) (Q : VK) (P : D → AH → Prop), Sat B K F C R H → Rep K F v d → RepL K F vs ds → a d ds C P →
  (∀ d v F' C' H', Ex F F' → Sat B K F' C' R H' → Rep K F' v d → P d C' → Q v H') → r v vs H Q
end
structure AE (B : Bs) (X : Cx) (e : Expr) (te : TE) (a : AE') : Prop where
  pe : PE X e te
  sim : SimE B X.K te a
structure AT (B : Bs) (X : Cx) (e : Expr) (tt : TT) (a : AT') : Prop where
  pt : PT X e tt
  sim : SimT B X.K tt a
structure AW (B : Bs) (X : Cx) (e : Expr) (tt : TT) (a : AT') : Prop where
  pw : PW X e tt
  sim : SimT B X.K tt a
structure ATs (B : Bs) (X : Cx) (es : List Expr) (tt : TT) (a : AT') : Prop where
  pts : PTs X es tt
  sim : SimT B X.K tt a
structure AA (B : Bs) (X : Cx) (es : List Expr) (n : Nat) (ta : TA) (a : AA') : Prop where
  pa : PA X es ta
  sim : SimA B X.K n ta a
structure AS (B : Bs) (X : Cx) (st : Stmt) (ts : TS) (a : AS') : Prop where
  ps : PS X st ts
  sim : SimS B X.K ts a
structure ASs (B : Bs) (X : Cx) (st : List Stmt) (ts : TS) (a : AS') : Prop where
  ps : PSs X st ts
  sim : SimS B X.K ts a
/-- a target stores to the slots vs alone -/
def GIn (vs : List Nat) (g : TG) : Prop := ∀ x σ H (Q Q' : L2.St → Hp → Prop), g x σ H Q → (∀ σ2 H2, L2.wipe σ2 vs = L2.wipe σ vs → Q σ2 H2 → Q' σ2 H2) → g x σ H Q'
structure AG (B : Bs) (X : Cx) (e : Expr) (vs : List Nat) (g : TG) (a : AG') : Prop where
  pg : PG X e g
  sim : SimG B X.K g a
  inn : GIn vs g
structure AI (B : Bs) (X : Cx) (tg e : Expr) (wi : TI) (a : AI') : Prop where
  pi : PI X tg e wi
  sim : SimI B X.K wi a
def aVar (i : Nat) : AE' := fun s C P => match s[i]? with | some (some d) => P d C | _ => False
def aC (d : D) : AE' := fun _ C P => P d C
section
variable {X : Cx} {pos : Pos} {K : PySem.W.Frag}
theorem sim_var (i : Nat) : SimE B K (tVar i) (aVar i) := by
  intro σ s F C R H Q P hs hS h k
  unfold aVar at h
  split at h
  · rename_i d e
    obtain ⟨v, h1, h2⟩ := hs.at' i d e
    exact ⟨v, h1, k d v F C H (Ex.refl F) hS h2 h⟩
  · exact h.elim
theorem ae_v (i : Nat) {x : Str} (hN : X.N[i]? = some x := by rfl) (hv : Vis X.env.scope x := by first | exact Or.inl rfl | exact Or.inr (Or.inl rfl) | exact Or.inr (Or.inr rfl)) (hd : (x == ("__debug__" : Str)) = false := by decide)
    (hcd : (x == ("__classdict__" : Str)) = false := by decide) : AE B X (.Name x pos) (tVar i) (aVar i) := ⟨pe_var hN hv hd hcd, sim_var i⟩
theorem sim_c {v : V} {d : D} (h : ∀ F, Rep K F v d) : SimE B K (tC v) (aC d) := fun σ s F C R H Q P hs hS a k => k d v F C H (Ex.refl F) hS (h F) a
theorem ae_int {i j} : AE B X (.Constant (.int i) j pos) (tC (.int i)) (aC (.int i)) := ⟨pe_int, sim_c fun _ => .int i⟩
theorem ae_bl {b j} : AE B X (.Constant (.bool b) j pos) (tC (.bl b)) (aC (.bl b)) := ⟨pe_bl, sim_c fun _ => .bl b⟩
theorem ae_non {j} : AE B X (.Constant .none j pos) (tC .non) (aC .non) := ⟨pe_non, sim_c fun _ => .non⟩
theorem ae_str {x j} : AE B X (.Constant (.str x) j pos) (tC (.str x)) (aC (.str x)) := ⟨pe_str, sim_c fun _ => .str x⟩
def aOp (r : D → D → AH → (D → AH → Prop) → Prop) (a b : AE') : AE' := fun s C P => a s C fun x C1 => b s C1 fun y C2 => r x y C2 P
def aUn (r : D → AH → (D → AH → Prop) → Prop) (a : AE') : AE' := fun s C P => a s C fun x C1 => r x C1 P
theorem sim_op {r : R2} {ar} {ta tb : TE} {a b : AE'} (hr : SimR2 B K r ar) (ha : SimE B K ta a) (hb : SimE B K tb b) : SimE B K (tOp r ta tb) (aOp ar a b) := by
  intro σ s F C R H Q P hs hS h k
  refine ha σ s F C R H _ _ hs hS h fun x v F1 C1 H1 e1 S1 r1 h1 => ?_
  refine hb σ s F1 C1 R H1 _ _ (hs.mono e1) S1 h1 fun y w F2 C2 H2 e2 S2 r2 h2 => ?_
  exact hr v w x y F2 C2 R H2 Q P S2 (r1.mono e2) r2 h2 fun d u F3 C3 H3 e3 S3 r3 h3 => k d u F3 C3 H3 ((e1.trans e2).trans e3) S3 r3 h3
theorem sim_un {r : V → Hp → VK → Prop} {ar} {ta : TE} {a : AE'} (hr : SimR1 B K r ar) (ha : SimE B K ta a) : SimE B K (tUn r ta) (aUn ar a) := by
  intro σ s F C R H Q P hs hS h k
  refine ha σ s F C R H _ _ hs hS h fun x v F1 C1 H1 e1 S1 r1 h1 => ?_
  exact hr v x F1 C1 R H1 Q P S1 r1 h1 fun d u F3 C3 H3 e3 S3 r3 h3 => k d u F3 C3 H3 (e1.trans e3) S3 r3 h3
/-- an operation f by values -/
structure AOp (B : Bs) (X : Cx) (f : Value → Value → Sem Value) (r : R2) (a : D → D → AH → (D → AH → Prop) → Prop) : Prop where
  op : OpR X f r
  sim : SimR2 B X.K r a
theorem ae_op {o : Operator} {r ar} {a b : Expr} {ta tb : TE} {aa ab : AE'} (ho : AOp B X (binaryOp o) r ar) (ha : AE B X a ta aa) (hb : AE B X b tb ab) : AE B X (.BinOp a o b pos) (tOp r ta tb) (aOp ar aa ab) := ⟨pe_op ho.op ha.pe hb.pe, sim_op ho.sim ha.sim hb.sim⟩
theorem ae_cmp {o : CmpOp} {r ar} {a b : Expr} {ta tb : TE} {aa ab : AE'} (ho : AOp B X (compareOp o) r ar) (ha : AE B X a ta aa) (hb : AE B X b tb ab) (hm : behindInMarks o b = false := by first | exact nomark _ | with_unfolding_all rfl) : AE B X (.Compare a [o] [b] pos) (tOp r ta tb) (aOp ar aa ab) :=
  ⟨pe_cmpR ho.op ha.pe hb.pe hm, sim_op ho.sim ha.sim hb.sim⟩
theorem SimR2.or {r r' : R2} {ar ar'} (h : SimR2 B K r ar) (h' : SimR2 B K r' ar') : SimR2 B K (fun x y H Q => r x y H Q ∨ r' x y H Q) (fun x y C P => ar x y C P ∨ ar' x y C P) := by
  intro v w d e F C R H Q P hS r1 r2 h0 k
  rcases h0 with q | q
  · exact .inl (h v w d e F C R H Q P hS r1 r2 q k)
  · exact .inr (h' v w d e F C R H Q P hS r1 r2 q k)
theorem SimR2.imp {r : R2} {ar ar' : D → D → AH → (D → AH → Prop) → Prop} (h : SimR2 B K r ar) (i : ∀ d e C P, ar' d e C P → ar d e C P) : SimR2 B K r ar' := fun v w d e F C R H Q P hS r1 r2 h0 k => h v w d e F C R H Q P hS r1 r2 (i d e C P h0) k
/-- ints in, a flat value out -/
def aI (c : Int → Int → Prop) (g : Int → Int → D) : D → D → AH → (D → AH → Prop) → Prop := fun x y C P => match x, y with
  | .int i, .int j => c i j ∧ P (g i j) C
  | _, _ => False
theorem simI {c : Int → Int → Prop} {g : Int → Int → V} {g' : Int → Int → D} (hg : ∀ F i j, Rep K F (g i j) (g' i j)) : SimR2 B K (rI c g) (aI c g') := by
  intro v w d e F C R H Q P hS r1 r2 h k
  unfold aI at h
  split at h
  · cases r1; cases r2
    exact ⟨_, _, rfl, rfl, h.1, k _ _ F C H (Ex.refl F) hS (hg F _ _) h.2⟩
  · exact h.elim
def aI0 (g : Int → Int → D) : D → D → AH → (D → AH → Prop) → Prop := fun x y C P => match x, y with
  | .int i, .int j => P (g i j) C
  | _, _ => False
theorem simI0 {g : Int → Int → V} {g' : Int → Int → D} (hg : ∀ F i j, Rep K F (g i j) (g' i j)) : SimR2 B K (rI0 g) (aI0 g') := by
  intro v w d e F C R H Q P hS r1 r2 h k
  unfold aI0 at h
  split at h
  · cases r1; cases r2
    exact ⟨_, _, rfl, rfl, k _ _ F C H (Ex.refl F) hS (hg F _ _) h⟩
  · exact h.elim
def aSub := aI0 fun i j => .int (i - j)
def aMul := aI CMul fun i j => .int (i * j)
def aDiv := aI CDiv fun i j => .int (i / j)
def aDivW := aI CDivW fun i j => .int (i / j)
def aMod := aI (fun _ j => 0 < j) fun i j => .int (i % j)
def aLt := aI0 fun i j => .bl (decide (i < j))
def aLe := aI0 fun i j => .bl (decide (i ≤ j))
def aGt := aI0 fun i j => .bl (decide (j < i))
def aGe := aI0 fun i j => .bl (decide (j ≤ i))
def aPow := aI CPow fun i j => .int (i ^ j.toNat)
theorem ao_sub : AOp B X (binaryOp .Sub) (rI0 fun i j => .int (i - j)) aSub := ⟨op_sub, simI0 fun _ _ _ => .int _⟩
theorem ao_mul : AOp B X (binaryOp .Mult) (rI CMul fun i j => .int (i * j)) aMul := ⟨op_mul, simI fun _ _ _ => .int _⟩
theorem ao_div : AOp B X (binaryOp .FloorDiv) (rI CDiv fun i j => .int (i / j)) aDiv := ⟨op_fdiv, simI fun _ _ _ => .int _⟩
theorem ao_divW : AOp B X (binaryOp .FloorDiv) (rI CDivW fun i j => .int (i / j)) aDivW := ⟨op_fdivW, simI fun _ _ _ => .int _⟩
theorem ao_mod : AOp B X (binaryOp .Mod) (rI (fun _ j => 0 < j) fun i j => .int (i % j)) aMod := ⟨op_mod, simI fun _ _ _ => .int _⟩
theorem ao_pow : AOp B X (binaryOp .Pow) (rI CPow fun i j => .int (i ^ j.toNat)) aPow := ⟨op_pow, simI fun _ _ _ => .int _⟩
theorem ao_lt : AOp B X (compareOp .Lt) (rI0 fun i j => .bl (decide (i < j))) aLt := ⟨op_lt, simI0 fun _ _ _ => .bl _⟩
theorem ao_le : AOp B X (compareOp .LtE) (rI0 fun i j => .bl (decide (i ≤ j))) aLe := ⟨op_le, simI0 fun _ _ _ => .bl _⟩
theorem ao_gt : AOp B X (compareOp .Gt) (rI0 fun i j => .bl (decide (j < i))) aGt := ⟨op_gt, simI0 fun _ _ _ => .bl _⟩
theorem ao_ge : AOp B X (compareOp .GtE) (rI0 fun i j => .bl (decide (j ≤ i))) aGe := ⟨op_ge, simI0 fun _ _ _ => .bl _⟩
def asL (C : AH) : D → Option (List D)
  | .lst ds => some ds
  | .ce p => match C p with | some (.lst ds) => some ds | _ => none
  | _ => none
def asLr (C : AH) : D → Option (List D)
  | .scr ns => some (ns.map D.int)
  | d => asL C d
def asT : D → Option (List D)
  | .tup ds => some ds
  | _ => none
section
variable {F : Hp} {C : AH} {R H : Hp} {v : V} {d : D} {ds : List D}
theorem asL_ok (hS : Sat B K F C R H) (r : Rep K F v d) (h : asL C d = some ds) : ∃ a xs, v = .ref a ∧ H a = some (.lst xs) ∧ RepL K F xs ds := by
  cases r with
  | lst e q => cases h; exact ⟨_, _, rfl, hS.ex _ _ e, q⟩
  | ce p =>
    simp only [asL] at h
    split at h
    · rename_i e
      cases h
      obtain ⟨_, o, h1, h2⟩ := hS.cell p _ e
      cases h2 with
      | lst q => exact ⟨p, _, rfl, h1, q⟩
    · cases h
  | _ => cases h
theorem asLr_ok (hS : Sat B K F C R H) (r : Rep K F v d) (h : asLr C d = some ds) : ∃ a xs, v = .ref a ∧ SqL K H a xs ∧ RepL K F xs ds := by
  cases d with
  | scr ns =>
    cases r with
    | scr e => cases h; exact ⟨_, _, rfl, hS.ex.l e, .ints ns⟩
  | _ =>
    obtain ⟨a, xs, h1, h2, h3⟩ := asL_ok hS r (show asL C _ = some ds from h)
    exact ⟨a, xs, h1, SqL.of h2, h3⟩
theorem asT_ok (hS : Sat B K F C R H) (r : Rep K F v d) (h : asT d = some ds) : ∃ a xs, v = .ref a ∧ Rd H a (.tup xs) ∧ RepL K F xs ds := by
  cases r with
  | tup e q => cases h; exact ⟨_, _, rfl, rdUp e.1 hS.ex, q⟩
  | _ => cases h
end
/-- the order matters: what stands ahead is tried first -/
def aAdd : D → D → AH → (D → AH → Prop) → Prop := fun x y C P => match x, y with
  | .int i, .int j => P (.int (i + j)) C
  | .str i, .str j => i.length + j.length ≤ sizeLine ∧ P (.str (i ++ j)) C
  | .tup xs, .tup ys => xs.length + ys.length ≤ sizeLine ∧ P (.tup (xs ++ ys)) C
  | x, y => ∃ xs ys, asL C x = some xs ∧ asL C y = some ys ∧ xs.length + ys.length ≤ sizeLine ∧ P (.lst (xs ++ ys)) C
def rAddA (K : PySem.W.Frag) : R2 := fun x y H Q => (rI0 (fun i j => .int (i + j)) x y H Q ∨ (∃ i j, x = .str i ∧ y = .str j ∧ i.length + j.length ≤ sizeLine ∧ Q (.str (i ++ j)) H)) ∨ rCatTN K x y H Q ∨ rCat x y H Q
theorem sim_add : SimR2 B K (rAddA K) aAdd := by
  intro v w d e F C R H Q P hS r1 r2 h k
  unfold aAdd at h
  split at h
  · cases r1; cases r2
    exact .inl (.inl ⟨_, _, rfl, rfl, k _ _ F C H (Ex.refl F) hS (.int _) h⟩)
  · cases r1; cases r2
    exact .inl (.inr ⟨_, _, rfl, rfl, h.1, k _ _ F C H (Ex.refl F) hS (.str _) h.2⟩)
  · cases r1 with
    | @tup a xs us h1 q1 =>
      cases r2 with
      | @tup b ys ws h2 q2 =>
        refine .inr (.inl ⟨a, b, xs, ys, rfl, rfl, h1.sq hS.ex, h2.sq hS.ex, by rw [q1.length, q2.length]; exact h.1, fun z => ?_, fun _ z => ?_, fun _ _ p ob hob hp => ?_⟩)
        · subst z
          cases q1
          exact k _ _ F C H (Ex.refl F) hS (.tup h2 q2) h.2
        · subst z
          cases q2
          have := h.2
          rw [List.append_nil] at this
          exact k _ _ F C H (Ex.refl F) hS (.tup h1 q1) this
        · have e := Ex.new (o := .frz ob (.tup (xs ++ ys))) (hS.freeF hp)
          exact k _ _ _ C _ e (hS.newF hp _) (.tup (.frz hob upd_same) ((q1.append q2).mono e)) h.2
  · obtain ⟨xs', ys', h1, h2, hl, h3⟩ := h
    obtain ⟨a, xs, e1, ha, q1⟩ := asL_ok hS r1 h1
    obtain ⟨b, ys, e2, hb, q2⟩ := asL_ok hS r2 h2
    refine .inr (.inr ⟨a, b, xs, ys, e1, e2, ha, hb, by rw [q1.length, q2.length]; exact hl, fun p hp => ?_⟩)
    have e := Ex.new (o := .lst (xs ++ ys)) (hS.freeF hp)
    exact k _ _ _ C _ e (hS.newF hp _) (.lst upd_same ((q1.append q2).mono e)) h3
theorem ao_add (hK : X.K = K := by rfl) : AOp B X (binaryOp .Add) (rAddA K) aAdd := by
  subst hK
  exact ⟨(op_add.or op_add_str).or (op_catTN.or op_cat), sim_add⟩
end
end AL
namespace AL
open PySem PySem.Spec L2
variable {B : Bs}
section
variable {X : Cx} {pos : Pos} {K : PySem.W.Frag}
mutual
/-- the tree as the library's data (none: a cell within it) -/
def D.pd : D → Option PyData
  | .non => some .none
  | .bl b => some (.bool b)
  | .int i => some (.int i)
  | .str x => some (.str x)
  | .lst ds => (pdL ds).map .list
  | .tup ds => (pdL ds).map .tuple
  | .scr ns => some (.list (ns.map .int))
  | _ => none
def pdL : List D → Option (List PyData)
  | [] => some []
  | d :: ds => match D.pd d, pdL ds with | some x, some xs => some (x :: xs) | _, _ => none
end
def pdC (C : AH) : D → Option PyData
  | .ce p => match C p with | some (.lst ds) => (pdL ds).map .list | _ => none
  | d => d.pd
mutual
theorem Rep.dp {F H : Hp} (e : Ex F H) : ∀ {d : D} {v : V} {x : PyData}, Rep K F v d → d.pd = some x → Dp K H v x
  | .non, _, _, r, h => by cases r; cases h; exact .non
  | .bl b, _, _, r, h => by cases r; cases h; exact .bl b
  | .int i, _, _, r, h => by cases r; cases h; exact .int i
  | .str x, _, _, r, h => by cases r; cases h; exact .str x
  | .lst ds, _, _, r, h => by
    cases r with
    | lst h1 h2 =>
      unfold D.pd at h
      cases q : pdL ds with
      | none => rw [q] at h; cases h
      | some xs => rw [q] at h; cases h; exact .lst (SqL.of (e _ _ h1)) (RepL.dp e h2 q)
  | .tup ds, _, _, r, h => by
    cases r with
    | tup h1 h2 =>
      unfold D.pd at h
      cases q : pdL ds with
      | none => rw [q] at h; cases h
      | some xs => rw [q] at h; cases h; exact .tup (h1.sq e) (RepL.dp e h2 q)
  | .scr ns, _, _, r, h => by
    cases r with
    | scr h1 => 
      cases h
      refine .lst (e.l h1) ?_
      clear h1
      induction ns with
      | nil => exact .nil
      | cons n ns ih => exact .cons (.int n) ih
  | .dk _, _, _, _, h => by unfold D.pd at h; cases h
  | .ce _, _, _, _, h => by unfold D.pd at h; cases h
theorem RepL.dp {F H : Hp} (e : Ex F H) : ∀ {ds : List D} {vs : List V} {xs : List PyData}, RepL K F vs ds → pdL ds = some xs → DpAll K H vs xs
  | [], _, _, r, h => by cases r; cases h; exact .nil
  | d :: ds, _, _, r, h => by
    cases r with
    | cons r1 r2 =>
      unfold pdL at h
      split at h
      · rename_i q1 q2
        cases h
        exact .cons (Rep.dp e r1 q1) (RepL.dp e r2 q2)
      · cases h
end
theorem pdC_ok {F : Hp} {C : AH} {R H : Hp} {v : V} {d : D} {x : PyData} (hS : Sat B K F C R H) (r : Rep K F v d) (h : pdC C d = some x) : Dp K H v x := by
  cases d with
  | ce p =>
    cases r
    simp only [pdC] at h
    split at h
    · rename_i ds e
      cases q : pdL ds with
      | none => rw [q] at h; cases h
      | some xs =>
        rw [q] at h; cases h
        obtain ⟨_, o, h1, h2⟩ := hS.cell p _ e
        cases h2 with
        | lst h3 => exact .lst (SqL.of h1) (RepL.dp hS.ex h3 q)
    · cases h
  | _ => exact Rep.dp hS.ex r h
/-- flat values, == by itself -/
def eqS : D → D → Option Bool
  | .non, .non => some true
  | .non, .int _ => some false
  | .int _, .non => some false
  | .non, .bl _ => some false
  | .bl _, .non => some false
  | .non, .str _ => some false
  | .str _, .non => some false
  | .int i, .int j => some (decide (i = j))
  | .bl i, .bl j => some (decide (i = j))
  | .str i, .str j => some (decide (i = j))
  | .int _, .str _ => some false
  | .str _, .int _ => some false
  | .bl _, .str _ => some false
  | .str _, .bl _ => some false
  | _, _ => none
theorem eqS_ok {F : Hp} {v w : V} {d e : D} {b : Bool} (r1 : Rep K F v d) (r2 : Rep K F w e) (h : eqS d e = some b) : scal v w = true ∧ decide (v = w) = b := by
  unfold eqS at h
  split at h <;> first | (cases h; done) | (cases r1; cases r2; cases h; refine ⟨rfl, ?_⟩; first | rfl | (apply Bool.eq_iff_iff.mpr; simp; done))
def aEqN (neg : Bool) : D → D → AH → (D → AH → Prop) → Prop := fun x y C P => match eqS x y with
  | some b => P (.bl (if neg then !b else b)) C
  | none => ∃ d e, pdC C x = some d ∧ pdC C y = some e ∧ SeqAt.shaped d = true ∧ SeqAt.shaped e = true ∧ P (.bl (if neg then !PyData.eqv d e else PyData.eqv d e)) C
def aEq := aEqN false
def aNe := aEqN true
theorem sim_eq : SimR2 B K (fun x y H Q => rEq x y H Q ∨ rEqD K x y H Q) aEq := by
  intro v w d e F C R H Q P hS r1 r2 h k
  unfold aEq aEqN at h
  split at h
  · rename_i b q
    obtain ⟨h1, h2⟩ := eqS_ok r1 r2 q
    exact .inl ⟨h1, k _ _ F C H (Ex.refl F) hS (by rw [h2]; exact .bl b) h⟩
  · obtain ⟨d', e', h1, h2, s1, s2, h3⟩ := h
    exact .inr ⟨d', e', pdC_ok hS r1 h1, pdC_ok hS r2 h2, s1, s2, k _ _ F C H (Ex.refl F) hS (.bl _) h3⟩
theorem sim_ne : SimR2 B K (fun x y H Q => rNe x y H Q ∨ rNeD K x y H Q) aNe := by
  intro v w d e F C R H Q P hS r1 r2 h k
  unfold aNe aEqN at h
  split at h
  · rename_i b q
    obtain ⟨h1, h2⟩ := eqS_ok r1 r2 q
    exact .inl ⟨h1, k _ _ F C H (Ex.refl F) hS (by rw [h2]; exact .bl _) h⟩
  · obtain ⟨d', e', h1, h2, s1, s2, h3⟩ := h
    exact .inr ⟨d', e', pdC_ok hS r1 h1, pdC_ok hS r2 h2, s1, s2, k _ _ F C H (Ex.refl F) hS (.bl _) h3⟩
theorem ao_eq (hu : X.A.units + 64 < cLine) (hK : X.K = K := by rfl) : AOp B X (compareOp .Eq) (fun x y H Q => rEq x y H Q ∨ rEqD K x y H Q) aEq := by
  subst hK
  exact ⟨op_eq.or (op_eqD hu), sim_eq⟩
theorem ao_ne (hu : X.A.units + 64 < cLine) (hK : X.K = K := by rfl) : AOp B X (compareOp .NotEq) (fun x y H Q => rNe x y H Q ∨ rNeD K x y H Q) aNe := by
  subst hK
  exact ⟨op_ne.or (op_neD hu), sim_ne⟩
/-- is None -/
def isNon : D → Bool
  | .non => true
  | _ => false
def aIsN : D → D → AH → (D → AH → Prop) → Prop := fun x y C P => isNon y = true ∧ P (.bl (isNon x)) C
def aNotN : D → D → AH → (D → AH → Prop) → Prop := fun x y C P => isNon y = true ∧ P (.bl (!isNon x)) C
theorem isNon_ok {F : Hp} {v : V} {d : D} (r : Rep K F v d) : decide (v = .non) = isNon d := by
  cases r <;> rfl
theorem ao_is : AOp B X (compareOp .Is) (fun x y H Q => y = .non ∧ Q (.bl (decide (x = .non))) H) aIsN := ⟨op_isN, by
  intro v w d e F C R H Q P hS r1 r2 h k
  refine ⟨of_decide_eq_true ((isNon_ok r2).trans h.1), k _ _ F C H (Ex.refl F) hS (by rw [isNon_ok r1]; exact .bl _) h.2⟩⟩
theorem ao_isnot : AOp B X (compareOp .IsNot) (fun x y H Q => y = .non ∧ Q (.bl (!decide (x = .non))) H) aNotN := ⟨op_notN, by
  intro v w d e F C R H Q P hS r1 r2 h k
  refine ⟨of_decide_eq_true ((isNon_ok r2).trans h.1), k _ _ F C H (Ex.refl F) hS (by rw [isNon_ok r1]; exact .bl _) h.2⟩⟩
def truth (C : AH) : D → Option Bool
  | .non => some false
  | .bl b => some b
  | .int i => some (i != 0)
  | .str x => if x.length ≤ sizeLine then some ((x.length : Int) != 0) else none
  | .lst ds => some (!ds.isEmpty)
  | .tup ds => some (!ds.isEmpty)
  | .scr ns => some (!ns.isEmpty)
  | .dk kvs => some (!kvs.isEmpty)
  | .ce p => match C p with | some (.lst ds) => some (!ds.isEmpty) | some (.dk kvs) => some (!kvs.isEmpty) | _ => none
theorem RepL.empty {F : Hp} {vs : List V} {ds : List D} (r : RepL K F vs ds) : (!vs.isEmpty) = !ds.isEmpty := by cases r <;> rfl
theorem RepK.empty {F : Hp} {vs : List (Key × V)} {ds : List (Key × D)} (r : RepK K F vs ds) : (!vs.isEmpty) = !ds.isEmpty := by cases r <;> rfl
theorem truth_ok {F : Hp} {C : AH} {R H : Hp} {v : V} {d : D} {b : Bool} (hS : Sat B K F C R H) (r : Rep K F v d) (h : truth C d = some b) : TruV K v H b := by
  cases r with
  | non => cases h; rfl
  | bl b => cases h; rfl
  | int i => cases h; rfl
  | str x =>
    simp only [truth] at h
    split at h
    · rename_i hz
      cases h
      exact ⟨hz, rfl⟩
    · cases h
  | lst e q => cases h; exact .inl ⟨_, SqL.of (hS.ex _ _ e), q.empty.symm⟩
  | tup e q => cases h; exact .inr (.inl ⟨_, e.sq hS.ex, q.empty.symm⟩)
  | dk e q => cases h; exact .inr (.inr ⟨_, hS.ex _ _ e, q.empty.symm⟩)
  | scr e =>
    cases h
    refine .inl ⟨_, hS.ex.l e, ?_⟩
    rename_i ns
    cases ns <;> rfl
  | ce p =>
    simp only [truth] at h
    split at h
    · rename_i e
      cases h
      obtain ⟨_, o, h1, h2⟩ := hS.cell p _ e
      cases h2 with
      | lst q => exact .inl ⟨_, SqL.of h1, q.empty.symm⟩
    · rename_i e
      cases h
      obtain ⟨_, o, h1, h2⟩ := hS.cell p _ e
      cases h2 with
      | dk q => exact .inr (.inr ⟨_, h1, q.empty.symm⟩)
    · cases h
def aTru (a : AE') : AT' := fun s C P => a s C fun x C1 => match truth C1 x with | some b => P b C1 | none => False
theorem sim_tru {ta : TE} {a : AE'} (ha : SimE B K ta a) : SimT B K (fun σ H Q => ta σ H fun x H' => ∃ k, TruV K x H' k ∧ Q k H') (aTru a) := by
  intro σ s F C R H Q P hs hS h k
  refine ha σ s F C R H _ _ hs hS h fun x v F1 C1 H1 e1 S1 r1 h1 => ?_
  split at h1
  · rename_i b q
    exact ⟨b, truth_ok S1 r1 q, k b F1 C1 H1 e1 S1 h1⟩
  · exact h1.elim
theorem at_tru {e : Expr} {te : TE} {a : AE'} (h : AE B X e te a) (he : ∀ whole, isTrue e X.env whole = (do let v ← whole; standAt e.pos; holding [v] (truthy v)) := by intro _; rfl) (hK : X.K = K := by rfl) :
    AT B X e (fun σ H Q => te σ H fun x H' => ∃ k, TruV K x H' k ∧ Q k H') (aTru a) := by
  subst hK
  exact ⟨pt_truth h.pe he, sim_tru h.sim⟩
/-- a comparison's value as a test -/
def aB (a : AE') : AT' := fun s C P => a s C fun x C1 => match x with | .bl b => P b C1 | _ => False
theorem sim_B {ta : TE} {a : AE'} (ha : SimE B K ta a) : SimT B K (tTest ta) (aB a) := by
  intro σ s F C R H Q P hs hS h k
  refine ha σ s F C R H _ _ hs hS h fun x v F1 C1 H1 e1 S1 r1 h1 => ?_
  split at h1
  · cases r1
    exact ⟨_, rfl, k _ F1 C1 H1 e1 S1 h1⟩
  · exact h1.elim
theorem at_cmp {o : CmpOp} {r ar} {a b : Expr} {ta tb : TE} {aa ab : AE'} (ho : AOp B X (compareOp o) r ar) (ha : AE B X a ta aa) (hb : AE B X b tb ab) (hm : behindInMarks o b = false := by first | exact nomark _ | with_unfolding_all rfl) : AT B X (.Compare a [o] [b] pos) (tTest (tOp r ta tb)) (aB (aOp ar aa ab)) :=
  ⟨pt_cmpR ho.op ha.pe hb.pe hm, sim_B (sim_op ho.sim ha.sim hb.sim)⟩
/-- a < b < c -/
def aChain (r r' : D → D → AH → (D → AH → Prop) → Prop) (a b c : AE') : AE' := fun s C P => a s C fun x C1 => b s C1 fun y C2 => r x y C2 fun z C3 => match z with
  | .bl true => c s C3 fun w C4 => r' y w C4 P
  | .bl false => P (.bl false) C3
  | _ => False
theorem sim_chain {r r' : R2} {ar ar'} {ta tb tc : TE} {a b c : AE'} (hr : SimR2 B K r ar) (hr' : SimR2 B K r' ar') (ha : SimE B K ta a) (hb : SimE B K tb b) (hc : SimE B K tc c) : SimE B K (tChain r r' ta tb tc) (aChain ar ar' a b c) := by
  intro σ s F C R H Q P hs hS h k
  refine ha σ s F C R H _ _ hs hS h fun x v F1 C1 H1 e1 S1 r1 h1 => ?_
  refine hb σ s F1 C1 R H1 _ _ (hs.mono e1) S1 h1 fun y w F2 C2 H2 e2 S2 r2 h2 => ?_
  refine hr v w x y F2 C2 R H2 _ _ S2 (r1.mono e2) r2 h2 fun z u F3 C3 H3 e3 S3 r3 h3 => ?_
  split at h3
  · cases r3
    refine ⟨true, rfl, ?_⟩
    rw [if_pos rfl]
    refine hc σ s F3 C3 R H3 _ _ (hs.mono ((e1.trans e2).trans e3)) S3 h3 fun w' u' F4 C4 H4 e4 S4 r4 h4 => ?_
    exact hr' w u' y w' F4 C4 R H4 Q P S4 (r2.mono (e3.trans e4)) r4 h4 fun d u F5 C5 H5 e5 S5 r5 h5 => k d u F5 C5 H5 ((((e1.trans e2).trans e3).trans e4).trans e5) S5 r5 h5
  · cases r3
    refine ⟨false, rfl, ?_⟩
    rw [if_neg Bool.false_ne_true]
    exact k _ _ F3 C3 H3 ((e1.trans e2).trans e3) S3 (.bl false) h3
  · exact h3.elim
theorem at_chain {o o' : CmpOp} {r r' ar ar'} {a b c : Expr} {ta tb tc : TE} {aa ab ac : AE'} (ho : AOp B X (compareOp o) r ar) (ho' : AOp B X (compareOp o') r' ar') (ha : AE B X a ta aa) (hb : AE B X b tb ab) (hc : AE B X c tc ac)
    (hm : lastMarks [o, o'] [b, c] = false := by first | rfl | with_unfolding_all rfl) : AT B X (.Compare a [o, o'] [b, c] pos) (tTest (tChain r r' ta tb tc)) (aB (aChain ar ar' aa ab ac)) :=
  ⟨pt_chain ho.op ho'.op ha.pe hb.pe hc.pe hm, sim_B (sim_chain ho.sim ho'.sim ha.sim hb.sim hc.sim)⟩
def aAnd (a b : AT') : AT' := fun s C P => a s C fun c C1 => if c = true then b s C1 P else P false C1
def aOr (a b : AT') : AT' := fun s C P => a s C fun c C1 => if c = true then P true C1 else b s C1 P
def aNot (a : AT') : AT' := fun s C P => a s C fun c C1 => P (!c) C1
theorem sim_and {t u : TT} {a b : AT'} (ha : SimT B K t a) (hb : SimT B K u b) : SimT B K (tAnd t u) (aAnd a b) := by
  intro σ s F C R H Q P hs hS h k
  refine ha σ s F C R H _ _ hs hS h fun c F1 C1 H1 e1 S1 h1 => ?_
  cases c with
  | true => exact hb σ s F1 C1 R H1 Q P (hs.mono e1) S1 h1 fun c F2 C2 H2 e2 S2 h2 => k c F2 C2 H2 (e1.trans e2) S2 h2
  | false => exact k false F1 C1 H1 e1 S1 h1
theorem sim_or {t u : TT} {a b : AT'} (ha : SimT B K t a) (hb : SimT B K u b) : SimT B K (tOr t u) (aOr a b) := by
  intro σ s F C R H Q P hs hS h k
  refine ha σ s F C R H _ _ hs hS h fun c F1 C1 H1 e1 S1 h1 => ?_
  cases c with
  | false => exact hb σ s F1 C1 R H1 Q P (hs.mono e1) S1 h1 fun c F2 C2 H2 e2 S2 h2 => k c F2 C2 H2 (e1.trans e2) S2 h2
  | true => exact k true F1 C1 H1 e1 S1 h1
theorem sim_not {t : TT} {a : AT'} (ha : SimT B K t a) : SimT B K (tNot t) (aNot a) := by
  intro σ s F C R H Q P hs hS h k
  exact ha σ s F C R H _ _ hs hS h fun c F1 C1 H1 e1 S1 h1 => k (!c) F1 C1 H1 e1 S1 h1
section
variable {a b : Expr} {t u : TT} {ta tb : TE} {xa xb : AT'} {aa ab : AE'} {rest : List Expr}
theorem aw_and1 (h : AT B X a t xa) : AW B X (.BoolOp .And [a] pos) t xa := ⟨pw_and1 h.pt, h.sim⟩
theorem aw_or1 (h : AT B X a t xa) : AW B X (.BoolOp .Or [a] pos) t xa := ⟨pw_or1 h.pt, h.sim⟩
theorem aw_and (h : AT B X a t xa) (g : AW B X (.BoolOp .And (b :: rest) pos) u xb) : AW B X (.BoolOp .And (a :: b :: rest) pos) (tAnd t u) (aAnd xa xb) := ⟨pw_and h.pt g.pw, sim_and h.sim g.sim⟩
theorem aw_or (h : AT B X a t xa) (g : AW B X (.BoolOp .Or (b :: rest) pos) u xb) : AW B X (.BoolOp .Or (a :: b :: rest) pos) (tOr t u) (aOr xa xb) := ⟨pw_or h.pt g.pw, sim_or h.sim g.sim⟩
theorem aw_t (h : AW B X a t xa) : AT B X a t xa := ⟨h.pw.pt, h.sim⟩
theorem at_not (h : AT B X a t xa) : AT B X (.UnaryOp .Not a pos) (tNot t) (aNot xa) := ⟨pt_not h.pt, sim_not h.sim⟩
/-- as values -/
def aAndV (a b : AE') : AE' := fun s C P => a s C fun x C1 => match truth C1 x with | some true => b s C1 P | some false => P x C1 | none => False
def aOrV (a b : AE') : AE' := fun s C P => a s C fun x C1 => match truth C1 x with | some true => P x C1 | some false => b s C1 P | none => False
def aNotV (a : AE') : AE' := fun s C P => a s C fun x C1 => match truth C1 x with | some b => P (.bl (!b)) C1 | none => False
theorem sim_andV (ha : SimE B K ta aa) (hb : SimE B K tb ab) : SimE B K (tAndT K ta tb) (aAndV aa ab) := by
  intro σ s F C R H Q P hs hS h k
  refine ha σ s F C R H _ _ hs hS h fun x v F1 C1 H1 e1 S1 r1 h1 => ?_
  split at h1
  · rename_i q
    refine ⟨true, truth_ok S1 r1 q, ?_⟩
    rw [if_pos rfl]
    exact hb σ s F1 C1 R H1 Q P (hs.mono e1) S1 h1 fun d u F2 C2 H2 e2 S2 r2 h2 => k d u F2 C2 H2 (e1.trans e2) S2 r2 h2
  · rename_i q
    refine ⟨false, truth_ok S1 r1 q, ?_⟩
    rw [if_neg Bool.false_ne_true]
    exact k x v F1 C1 H1 e1 S1 r1 h1
  · exact h1.elim
theorem sim_notV (ha : SimE B K ta aa) : SimE B K (tNotT K ta) (aNotV aa) := by
  intro σ s F C R H Q P hs hS h k
  refine ha σ s F C R H _ _ hs hS h fun x v F1 C1 H1 e1 S1 r1 h1 => ?_
  split at h1
  · rename_i b q
    exact ⟨b, truth_ok S1 r1 q, k _ _ F1 C1 H1 e1 S1 (.bl _) h1⟩
  · exact h1.elim
theorem ae_one {op} (h : AE B X a ta aa) : AE B X (.BoolOp op [a] pos) ta aa := ⟨pe_one h.pe, h.sim⟩
theorem ae_and (h : AE B X a ta aa) (g : AE B X (.BoolOp .And (b :: rest) pos) tb ab) (hK : X.K = K := by rfl) : AE B X (.BoolOp .And (a :: b :: rest) pos) (tAndT K ta tb) (aAndV aa ab) := by
  subst hK
  exact ⟨pe_andT h.pe g.pe, sim_andV h.sim g.sim⟩
theorem ae_not (h : AE B X a ta aa) (hK : X.K = K := by rfl) : AE B X (.UnaryOp .Not a pos) (tNotT K ta) (aNotV aa) := by
  subst hK
  exact ⟨pe_notT h.pe, sim_notV h.sim⟩
def aIf (t : AT') (a b : AE') : AE' := fun s C P => t s C fun c C1 => if c = true then a s C1 P else b s C1 P
def aNeg : D → AH → (D → AH → Prop) → Prop := fun x C P => match x with | .int i => P (.int (-i)) C | _ => False
theorem ae_neg (h : AE B X a ta aa) : AE B X (.UnaryOp .USub a pos) (tUn (rU fun i => .int (-i)) ta) (aUn aNeg aa) := ⟨pe_un un_neg h.pe, sim_un (by
  intro v d F C R H Q P hS r h0 k
  unfold aNeg at h0
  split at h0
  · cases r; exact ⟨_, rfl, k _ _ F C H (Ex.refl F) hS (.int _) h0⟩
  · exact h0.elim) h.sim⟩
end
def aNil : AA' := fun _ C P => P [] C
def aCons (a : AE') (r : AA') : AA' := fun s C P => a s C fun x C1 => r s C1 fun xs C2 => P (x :: xs) C2
theorem sim_nil : SimA B K 0 tNil aNil := fun σ s F C R H Q P hs hS h k => k [] [] F C H (Ex.refl F) hS .nil rfl h
theorem sim_cons {n : Nat} {ta : TE} {tr : TA} {a : AE'} {r : AA'} (ha : SimE B K ta a) (hr : SimA B K n tr r) : SimA B K (n + 1) (tCons ta tr) (aCons a r) := by
  intro σ s F C R H Q P hs hS h k
  refine ha σ s F C R H _ _ hs hS h fun x v F1 C1 H1 e1 S1 r1 h1 => ?_
  refine hr σ s F1 C1 R H1 _ _ (hs.mono e1) S1 h1 fun xs vs F2 C2 H2 e2 S2 r2 hl h2 => ?_
  exact k (x :: xs) (v :: vs) F2 C2 H2 (e1.trans e2) S2 (.cons (r1.mono e2) r2) (by rw [List.length_cons, hl]) h2
theorem aa_nil : AA B X [] 0 tNil aNil := ⟨pa_nil, sim_nil⟩
theorem aa_cons {e : Expr} {es : List Expr} {n : Nat} {te : TE} {t : TA} {a : AE'} {r : AA'} (h : AE B X e te a) (g : AA B X es n t r) (hs : starEach (e :: es) X.env = (false, eval e X.env) :: starEach es X.env := by rfl) : AA B X (e :: es) (n + 1) (tCons te t) (aCons a r) := ⟨pa_cons h.pe g.pa hs, sim_cons h.sim g.sim⟩
def aTup (a : AA') : AE' := fun s C P => a s C fun ds C1 => ds.length ≤ sizeLine ∧ P (.tup ds) C1
def aLst (a : AA') : AE' := fun s C P => a s C fun ds C1 => ds.length ≤ sizeLine ∧ P (.lst ds) C1
def aLstM (a : AA') : AE' := fun s C P => a s C fun ds C1 => ds.length ≤ sizeLine ∧ ∀ p, C1 p = none → P (.ce p) (put C1 p (.lst ds))
theorem ae_tup {es : List Expr} {n : Nat} {t : TA} {a : AA'} {x1} (h : AA B X es n t a) : AE B X (.Tuple es x1 pos) (tTupN t) (aTup a) := ⟨pe_tupN h.pa, by
  intro σ s F C R H Q P hs hS h0 k
  refine h.sim σ s F C R H _ _ hs hS h0 fun ds vs F1 C1 H1 e1 S1 r1 hl h1 => ⟨by rw [r1.length]; exact h1.1, fun p ob hob hp => ?_⟩
  have e := Ex.new (o := .frz ob (.tup vs)) (S1.freeF hp)
  exact k _ _ _ C1 _ (e1.trans e) (S1.newF hp _) (.tup (.frz hob upd_same) (r1.mono e)) h1.2⟩
theorem ae_lst {es : List Expr} {n : Nat} {t : TA} {a : AA'} (h : AA B X es n t a) : AE B X (.List es pos) (tLst t) (aLst a) := ⟨pe_lst h.pa, by
  intro σ s F C R H Q P hs hS h0 k
  refine h.sim σ s F C R H _ _ hs hS h0 fun ds vs F1 C1 H1 e1 S1 r1 hl h1 => ⟨by rw [r1.length]; exact h1.1, fun p hp => ?_⟩
  have e := Ex.new (o := .lst vs) (S1.freeF hp)
  exact k _ _ _ C1 _ (e1.trans e) (S1.newF hp _) (.lst upd_same (r1.mono e)) h1.2⟩
theorem ae_lstM {es : List Expr} {n : Nat} {t : TA} {a : AA'} (h : AA B X es n t a) : AE B X (.List es pos) (tLst t) (aLstM a) := ⟨pe_lst h.pa, by
  intro σ s F C R H Q P hs hS h0 k
  refine h.sim σ s F C R H _ _ hs hS h0 fun ds vs F1 C1 H1 e1 S1 r1 hl h1 => ⟨by rw [r1.length]; exact h1.1, fun p hp => ?_⟩
  exact k _ _ F1 _ _ e1 (S1.newC hp (.lst r1)) (.ce p) (h1.2 p (S1.freeC hp))⟩
end
end AL
namespace AL
open PySem PySem.Spec L2
variable {B : Bs}
section
variable {X : Cx} {pos : Pos} {K : PySem.W.Frag}
def asS (C : AH) : D → Option (List D)
  | .tup ds => some ds
  | d => asLr C d
def aIx : D → D → AH → (D → AH → Prop) → Prop := fun x y C P => match x, y with
  | .str z, .int i => z.length ≤ sizeLine ∧ (match atI z.cps.toList i with | some c => P (.str ⟨#[c]⟩) C | none => False)
  | x, .int i => (match asS C x with | some ds => (match atI ds i with | some d => P d C | none => False) | none => False)
  | _, _ => False
theorem RepL.atI {F : Hp} {vs : List V} {ds : List D} {i : Int} {d : D} (r : RepL K F vs ds) (h : atI ds i = some d) : ∃ v, L2.atI vs i = some v ∧ Rep K F v d := by
  unfold L2.atI at h ⊢
  rw [r.length]
  cases q : ixN ds.length i with
  | none => rw [q] at h; cases h
  | some j =>
    rw [q] at h
    obtain ⟨v, h1, h2⟩ := r.getD (show ds[j]? = some d from h)
    exact ⟨v, h1, h2⟩
theorem sim_ix : SimR2 B K (rIx K) aIx := by
  intro v w d e F C R H Q P hS r1 r2 h k
  unfold aIx at h
  split at h
  · cases r1; cases r2
    obtain ⟨hz, h⟩ := h
    split at h
    · rename_i c q
      exact .inr (.inr ⟨_, _, c, rfl, rfl, hz, q, k _ _ F C H (Ex.refl F) hS (.str _) h⟩)
    · exact h.elim
  · cases r2
    split at h
    · rename_i ds q
      split at h
      · rename_i d' q2
        cases d with
        | tup us =>
          cases q
          obtain ⟨a, xs, e1, h1, h2⟩ := asT_ok hS r1 rfl
          obtain ⟨v', h3, h4⟩ := h2.atI q2
          exact .inr (.inl ⟨a, xs, _, v', e1, rfl, SqT.of h1, h3, k _ _ F C H (Ex.refl F) hS h4 h⟩)
        | _ =>
          obtain ⟨a, xs, e1, h1, h2⟩ := asLr_ok hS r1 (show asLr C _ = some ds from q)
          obtain ⟨v', h3, h4⟩ := h2.atI q2
          exact .inl ⟨a, xs, _, v', e1, rfl, h1, h3, k _ _ F C H (Ex.refl F) hS h4 h⟩
      · exact h.elim
    · exact h.elim
  · exact h.elim
theorem ae_ix {a b : Expr} {ta tb : TE} {aa ab : AE'} (ha : AE B X a ta aa) (hb : AE B X b tb ab) (hs : PlainIx b := by exact fun _ _ => rfl) (hK : X.K = K := by rfl) : AE B X (.Subscript a b pos) (tOp (rIx K) ta tb) (aOp aIx aa ab) := by
  subst hK
  exact ⟨pe_ix ix_seq ha.pe hb.pe hs, sim_op sim_ix ha.sim hb.sim⟩
abbrev AO' := ASt → AH → (Option Int → AH → Prop) → Prop
def SimO (B : Bs) (K : PySem.W.Frag) (to : TO) (a : AO') : Prop := ∀ (σ : L2.St) (s : ASt) (F : Hp) (C : AH) (R H : Hp) (Q : Option Int → Hp → Prop) (P : Option Int → AH → Prop), Slo K F s σ → Sat B K F C R H → a s C P →
  (∀ o F' C' H', Ex F F' → Sat B K F' C' R H' → P o C' → Q o H') → to σ H Q
structure AO (B : Bs) (X : Cx) (e : Option Expr) (to : TO) (a : AO') : Prop where
  po : PO X e to
  sim : SimO B X.K to a
def aNoPart : AO' := fun _ C P => P none C
def aPart (a : AE') : AO' := fun s C P => a s C fun x C1 => match x with | .int i => P (some i) C1 | _ => False
theorem ao_none : AO B X none tNoPart aNoPart := ⟨po_none, fun σ s F C R H Q P hs hS h k => k none F C H (Ex.refl F) hS h⟩
theorem ao_some {e : Expr} {te : TE} {a : AE'} (h : AE B X e te a) : AO B X (some e) (tPart te) (aPart a) := ⟨po_some h.pe, by
  intro σ s F C R H Q P hs hS h0 k
  refine h.sim σ s F C R H _ _ hs hS h0 fun x v F1 C1 H1 e1 S1 r1 h1 => ?_
  split at h1
  · cases r1
    exact ⟨_, rfl, k _ F1 C1 H1 e1 S1 h1⟩
  · exact h1.elim⟩
def cutD (xs : List D) (lo hi : Option Int) : List D := (xs.drop (HT.sIx xs.length 0 lo)).take (HT.sIx xs.length xs.length hi - HT.sIx xs.length 0 lo)
theorem RepL.cut {F : Hp} {vs : List V} {ds : List D} (r : RepL K F vs ds) (lo hi : Option Int) : RepL K F (cutV vs lo hi) (cutD ds lo hi) := by
  unfold cutV cutD
  rw [r.length]
  exact (r.drop _).take _
def aSl (r : D → Option Int → Option Int → AH → (D → AH → Prop) → Prop) (a : AE') (l h : AO') : AE' := fun s C P => a s C fun x C1 => l s C1 fun i C2 => h s C2 fun j C3 => r x i j C3 P
def SimRS (B : Bs) (K : PySem.W.Frag) (r : V → Option Int → Option Int → Hp → VK → Prop) (a : D → Option Int → Option Int → AH → (D → AH → Prop) → Prop) : Prop := ∀ (v : V) (d : D) (lo hi : Option Int) (F : Hp) (C : AH) (R H : Hp) (Q : VK) (P : D → AH → Prop), Sat B K F C R H → Rep K F v d → a d lo hi C P →
  (∀ d v F' C' H', Ex F F' → Sat B K F' C' R H' → Rep K F' v d → P d C' → Q v H') → r v lo hi H Q
theorem sim_sl {r ar} {ta : TE} {tl th : TO} {a : AE'} {l h : AO'} (hr : SimRS B K r ar) (ha : SimE B K ta a) (hl : SimO B K tl l) (hh : SimO B K th h) : SimE B K (tSl r ta tl th) (aSl ar a l h) := by
  intro σ s F C R H Q P hs hS h0 k
  refine ha σ s F C R H _ _ hs hS h0 fun x v F1 C1 H1 e1 S1 r1 h1 => ?_
  refine hl σ s F1 C1 R H1 _ _ (hs.mono e1) S1 h1 fun i F2 C2 H2 e2 S2 h2 => ?_
  refine hh σ s F2 C2 R H2 _ _ (hs.mono (e1.trans e2)) S2 h2 fun j F3 C3 H3 e3 S3 h3 => ?_
  exact hr v x i j F3 C3 R H3 Q P S3 (r1.mono (e2.trans e3)) h3 fun d u F4 C4 H4 e4 S4 r4 h4 => k d u F4 C4 H4 (((e1.trans e2).trans e3).trans e4) S4 r4 h4
def aCut : D → Option Int → Option Int → AH → (D → AH → Prop) → Prop := fun x lo hi C P => match x with
  | .str z => z.length ≤ sizeLine ∧ P (.str (cutS z lo hi)) C
  | .tup ds => P (.tup (cutD ds lo hi)) C
  | x => (match asLr C x with | some ds => P (.lst (cutD ds lo hi)) C | none => False)
def rCutA (K : PySem.W.Frag) : V → Option Int → Option Int → Hp → VK → Prop := fun x lo hi H Q => (rSlS x lo hi H Q ∨ rSlTN K x lo hi H Q) ∨ rSlL K x lo hi H Q
theorem cutD_all {ds : List D} {lo hi : Option Int} (h : HT.sIx ds.length 0 lo = 0 ∧ HT.sIx ds.length ds.length hi = ds.length) : cutD ds lo hi = ds := by
  unfold cutD
  rw [h.1, h.2, List.drop_zero, Nat.sub_zero, List.take_length]
theorem sim_cut : SimRS B K (rCutA K) aCut := by
  intro v d lo hi F C R H Q P hS r1 h k
  unfold aCut at h
  split at h
  · cases r1
    exact .inl (.inl ⟨_, rfl, h.1, k _ _ F C H (Ex.refl F) hS (.str _) h.2⟩)
  · cases r1 with
    | @tup a xs us h1 q1 =>
      refine .inl (.inr ⟨a, xs, rfl, h1.sq hS.ex, fun z => ?_, fun _ p ob hob hp => ?_⟩)
      · rw [q1.length] at z
        rw [cutD_all z] at h
        exact k _ _ F C H (Ex.refl F) hS (.tup h1 q1) h
      · have e := Ex.new (o := .frz ob (.tup (cutV xs lo hi))) (hS.freeF hp)
        exact k _ _ _ C _ e (hS.newF hp _) (.tup (.frz hob upd_same) ((q1.cut lo hi).mono e)) h
  · split at h
    · rename_i ds q
      obtain ⟨a, xs, e1, h1, h2⟩ := asLr_ok hS r1 q
      refine .inr ⟨a, xs, e1, h1, fun p hp => ?_⟩
      have e := Ex.new (o := .lst (cutV xs lo hi)) (hS.freeF hp)
      exact k _ _ _ C _ e (hS.newF hp _) (.lst upd_same ((h2.cut lo hi).mono e)) h
    · exact h.elim
theorem ae_cut {e : Expr} {lo hi : Option Expr} {te : TE} {tl th : TO} {a : AE'} {l h : AO'} {p2 : Pos} (he : AE B X e te a) (hl : AO B X lo tl l) (hh : AO B X hi th h) (hK : X.K = K := by rfl) : AE B X (.Subscript e (.Slice lo hi none p2) pos) (tSl (rCutA K) te tl th) (aSl aCut a l h) := by
  subst hK
  exact ⟨pe_slice ((sl_str.or sl_tupN).or sl_list) he.pe hl.po hh.po, sim_sl sim_cut he.sim hl.sim hh.sim⟩
/-- xs[::-1], a list -/
def aRev : D → AH → (D → AH → Prop) → Prop := fun x C P => match asLr C x with | some ds => P (.lst ds.reverse) C | none => False
structure ACa (B : Bs) (X : Cx) (f : Value) (r : List V → Hp → VK → Prop) (a : ASp) : Prop where
  op : CallR X f r
  sim : SimRL B X.K r a
def aCall (asp : ASp) (a : AA') : AE' := fun s C P => a s C fun ds C1 => asp ds C1 P
theorem sim_callB {n : Nat} {r : List V → Hp → VK → Prop} {ar : ASp} {ta : TA} {a : AA'} (hr : SimRL B K r ar) (ha : SimA B K n ta a) : SimE B K (tCB r ta) (aCall ar a) := by
  intro σ s F C R H Q P hs hS h k
  refine ha σ s F C R H _ _ hs hS h fun ds vs F1 C1 H1 e1 S1 r1 hl h1 => ?_
  exact hr vs ds F1 C1 R H1 Q P S1 r1 h1 fun d u F3 C3 H3 e3 S3 r3 h3 => k d u F3 C3 H3 (e1.trans e3) S3 r3 h3
section
variable {e : Expr} {es : List Expr} {n : Nat} {t : TA} {a : AA'} {r : List V → Hp → VK → Prop} {ar : ASp} {x : Str} {p : Pos} {id T : String}
theorem ae_callB (hc : ACa B X (.builtin id) r ar) (hm : X.mg x = none) (hv : bootBuiltins x = some (.builtin id)) (ha : AA B X (e :: es) n t a) (hg : Gl X x := by rfl) (hn : x ≠ "__name__" := by decide) (hdb : (x == ("__debug__" : Str)) = false := by decide)
    (he : starEach (e :: es) X.env = (false, eval e X.env) :: starEach es X.env := by rfl) (hpl : (backTo pos (starEach es X.env)).any (·.1) = false := by rfl) : AE B X (.Call (.Name x p) (e :: es) [] pos) (tCB r t) (aCall ar a) :=
  ⟨pe_callB hc.op hg hm hv ha.pa hn hdb he hpl, sim_callB hc.sim ha.sim⟩
theorem ae_callT (hc : ACa B X (.type T) r ar) (hm : X.mg x = none) (hv : bootBuiltins x = some (.type T)) (ha : AA B X (e :: es) n t a) (hg : Gl X x := by rfl) (hn : x ≠ "__name__" := by decide) (hdb : (x == ("__debug__" : Str)) = false := by decide)
    (he : starEach (e :: es) X.env = (false, eval e X.env) :: starEach es X.env := by rfl) (hpl : (backTo pos (starEach es X.env)).any (·.1) = false := by rfl) : AE B X (.Call (.Name x p) (e :: es) [] pos) (tCB r t) (aCall ar a) :=
  ⟨pe_callTy hc.op hg hm hv ha.pa hn hdb he hpl, sim_callB hc.sim ha.sim⟩
end
theorem asS_ok {F : Hp} {C : AH} {R H : Hp} {v : V} {d : D} {ds : List D} (hS : Sat B K F C R H) (r : Rep K F v d) (h : asS C d = some ds) : ∃ a xs, v = .ref a ∧ (SqL K H a xs ∨ SqT K H a xs) ∧ RepL K F xs ds := by
  cases d with
  | tup ws =>
    cases h
    obtain ⟨a, xs, e1, h1, h2⟩ := asT_ok hS r rfl
    exact ⟨a, xs, e1, .inr (SqT.of h1), h2⟩
  | _ =>
    obtain ⟨a, xs, e1, h1, h2⟩ := asLr_ok hS r (show asLr C _ = some ds from h)
    exact ⟨a, xs, e1, .inl h1, h2⟩
def aLen : ASp := fun ds C P => match ds with
  | [.str z] => z.length ≤ sizeLine ∧ P (.int z.length) C
  | [.ce q] => (match C q with | some (.lst us) => P (.int us.length) C | some (.dk us) => P (.int us.length) C | _ => False)
  | [.dk kvs] => P (.int kvs.length) C
  | [d] => (match asS C d with | some us => P (.int us.length) C | none => False)
  | _ => False
def rLenA (K : PySem.W.Frag) : List V → Hp → VK → Prop := fun xs H Q => (∃ x n, xs = [x] ∧ LenV K x H n ∧ Q (.int n) H) ∨ (∃ a kvs, xs = [V.ref a] ∧ H a = some (.dK kvs) ∧ Q (.int kvs.length) H)
theorem RepK.length {F : Hp} : ∀ {vs : List (Key × V)} {ds : List (Key × D)}, RepK K F vs ds → vs.length = ds.length
  | _, _, .nil => rfl
  | _, _, .cons _ t => by rw [List.length_cons, List.length_cons, RepK.length t]
theorem simLen : SimRL B K (rLenA K) aLen := by
  intro vs ds F C R H Q P hS r h k
  unfold aLen at h
  split at h
  · cases r with | cons r1 r2 => cases r2; cases r1; exact .inl ⟨_, _, rfl, ⟨h.1, rfl⟩, k _ _ F C H (Ex.refl F) hS (.int _) h.2⟩
  · cases r with
    | cons r1 r2 =>
      cases r2; cases r1
      split at h
      · rename_i e
        obtain ⟨_, o, h1, h2⟩ := hS.cell _ _ e
        cases h2 with
        | lst q => exact .inl ⟨_, _, rfl, .inl ⟨_, SqL.of h1, q.length.symm⟩, k _ _ F C H (Ex.refl F) hS (.int _) h⟩
      · rename_i e
        obtain ⟨_, o, h1, h2⟩ := hS.cell _ _ e
        cases h2 with
        | dk q => exact .inr ⟨_, _, rfl, h1, by rw [q.length]; exact k _ _ F C H (Ex.refl F) hS (.int _) h⟩
      · exact h.elim
  · cases r with | cons r1 r2 => cases r2; cases r1 with | dk e q => exact .inr ⟨_, _, rfl, hS.ex _ _ e, by rw [q.length]; exact k _ _ F C H (Ex.refl F) hS (.int _) h⟩
  · cases r with
    | cons r1 r2 =>
      cases r2
      split at h
      · rename_i us q
        obtain ⟨a, xs, e1, h1, h2⟩ := asS_ok hS r1 q
        subst e1
        rcases h1 with h1 | h1
        · exact .inl ⟨.ref a, _, rfl, .inl ⟨xs, h1, h2.length.symm⟩, k _ _ F C H (Ex.refl F) hS (.int _) h⟩
        · exact .inl ⟨.ref a, _, rfl, .inr ⟨xs, h1, h2.length.symm⟩, k _ _ F C H (Ex.refl F) hS (.int _) h⟩
      · exact h.elim
  · exact h.elim
theorem ac_len (hK : X.K = K := by rfl) : ACa B X (.builtin "len") (rLenA K) aLen := by
  subst hK
  exact ⟨call_len.or call_lenD, simLen⟩
def aAbs : ASp := fun ds C P => match ds with | [.int i] => P (.int (if i < 0 then -i else i)) C | _ => False
def aMax2 : ASp := fun ds C P => match ds with | [.int i, .int j] => P (.int (if j > i then j else i)) C | _ => False
def aMin2 : ASp := fun ds C P => match ds with | [.int i, .int j] => P (.int (if j < i then j else i)) C | _ => False
theorem ac_max2 (hc : X.calm = true := by rfl) : ACa B X (.builtin "max") (fun xs H Q => ∃ i j, xs = [.int i, .int j] ∧ Q (.int (if j > i then j else i)) H) aMax2 := ⟨call_max2 hc, by
  intro vs ds F C R H Q P hS r h k
  unfold aMax2 at h
  split at h
  · cases r with | cons r1 r2 => cases r2 with | cons r2 r3 => cases r3; cases r1; cases r2; exact ⟨_, _, rfl, k _ _ F C H (Ex.refl F) hS (.int _) h⟩
  · exact h.elim⟩
def aInt : ASp := fun ds C P => match ds with | [.int i] => P (.int i) C | [.bl b] => P (.int (if b then 1 else 0)) C | _ => False
theorem ac_int : ACa B X (.type "int") (fun xs H Q => (∃ i, xs = [.int i] ∧ Q (.int i) H) ∨ ∃ k, xs = [.bl k] ∧ Q (.int (if k then 1 else 0)) H) aInt := ⟨call_int1, by
  intro vs ds F C R H Q P hS r h k
  unfold aInt at h
  split at h
  · cases r with | cons r1 r2 => cases r2; cases r1; exact .inl ⟨_, rfl, k _ _ F C H (Ex.refl F) hS (.int _) h⟩
  · cases r with | cons r1 r2 => cases r2; cases r1; exact .inr ⟨_, rfl, k _ _ F C H (Ex.refl F) hS (.int _) h⟩
  · exact h.elim⟩
/-- list(xs), tuple(xs) of a list, a tuple -/
def aListOf : ASp := fun ds C P => match ds with | [d] => (match asS C d with | some us => P (.lst us) C | none => False) | _ => False
def aTupleOf : ASp := fun ds C P => match ds with | [.tup us] => P (.tup us) C | [d] => (match asS C d with | some us => P (.tup us) C | none => False) | _ => False
theorem ac_tuple (hK : X.K = K := by rfl) : ACa B X (.type "tuple") (rTupOfN K) aTupleOf := by
  subst hK
  exact ⟨call_tuple_ofN, by
  intro vs ds F C R H Q P hS r h k
  unfold aTupleOf at h
  split at h
  · cases r with
    | cons r1 r2 =>
      cases r2
      cases r1 with
      | tup h1 h2 => exact ⟨_, _, rfl, .inr ⟨h1.sq hS.ex, k _ _ F C H (Ex.refl F) hS (.tup h1 h2) h⟩⟩
  · rename_i d hd
    cases r with
    | cons r1 r2 =>
      cases r2
      split at h
      · rename_i us q
        have q' : asLr C d = some us := by
          cases d <;> first | exact q | exact absurd rfl (hd _)
        obtain ⟨a, xs, e1, h1, h2⟩ := asLr_ok hS r1 q'
        refine ⟨a, xs, by rw [e1], .inl ⟨h1, fun p ob hob hp => ?_⟩⟩
        have e := Ex.new (o := .frz ob (.tup xs)) (hS.freeF hp)
        exact k _ _ _ C _ e (hS.newF hp _) (.tup (.frz hob upd_same) (h2.mono e)) h
      · exact h.elim
  · exact h.elim⟩
/-- all, any, sum of a list -/
def blsD : List D → Option (List Bool)
  | [] => some []
  | .bl b :: ds => (blsD ds).map (b :: ·)
  | _ => none
def intsD : List D → Option (List Int)
  | [] => some []
  | .int b :: ds => (intsD ds).map (b :: ·)
  | _ => none
def strsD : List D → Option (List Str)
  | [] => some []
  | .str b :: ds => (strsD ds).map (b :: ·)
  | _ => none
theorem bls_ok : ∀ {ds : List D} {bs : List Bool}, blsD ds = some bs → ds = bs.map .bl
  | [], _, h => by cases h; rfl
  | .bl b :: ds, bs, h => by
    simp only [blsD] at h
    cases q : blsD ds with
    | none => rw [q] at h; cases h
    | some cs => rw [q] at h; cases h; rw [bls_ok q]; rfl
  | .non :: _, _, h => by cases h
  | .int _ :: _, _, h => by cases h
  | .str _ :: _, _, h => by cases h
  | .lst _ :: _, _, h => by cases h
  | .tup _ :: _, _, h => by cases h
  | .dk _ :: _, _, h => by cases h
  | .scr _ :: _, _, h => by cases h
  | .ce _ :: _, _, h => by cases h
theorem ints_ok : ∀ {ds : List D} {bs : List Int}, intsD ds = some bs → ds = bs.map .int
  | [], _, h => by cases h; rfl
  | .int b :: ds, bs, h => by
    simp only [intsD] at h
    cases q : intsD ds with
    | none => rw [q] at h; cases h
    | some cs => rw [q] at h; cases h; rw [ints_ok q]; rfl
  | .non :: _, _, h => by cases h
  | .bl _ :: _, _, h => by cases h
  | .str _ :: _, _, h => by cases h
  | .lst _ :: _, _, h => by cases h
  | .tup _ :: _, _, h => by cases h
  | .dk _ :: _, _, h => by cases h
  | .scr _ :: _, _, h => by cases h
  | .ce _ :: _, _, h => by cases h
theorem strs_ok : ∀ {ds : List D} {bs : List Str}, strsD ds = some bs → ds = bs.map .str
  | [], _, h => by cases h; rfl
  | .str b :: ds, bs, h => by
    simp only [strsD] at h
    cases q : strsD ds with
    | none => rw [q] at h; cases h
    | some cs => rw [q] at h; cases h; rw [strs_ok q]; rfl
  | .non :: _, _, h => by cases h
  | .bl _ :: _, _, h => by cases h
  | .int _ :: _, _, h => by cases h
  | .lst _ :: _, _, h => by cases h
  | .tup _ :: _, _, h => by cases h
  | .dk _ :: _, _, h => by cases h
  | .scr _ :: _, _, h => by cases h
  | .ce _ :: _, _, h => by cases h
@[simp] theorem bls_map (bs : List Bool) : blsD (bs.map D.bl) = some bs := by
  induction bs with
  | nil => rfl
  | cons b bs ih => simp [blsD, ih]
@[simp] theorem ints_map (bs : List Int) : intsD (bs.map D.int) = some bs := by
  induction bs with
  | nil => rfl
  | cons b bs ih => simp [intsD, ih]
@[simp] theorem strs_map (bs : List Str) : strsD (bs.map D.str) = some bs := by
  induction bs with
  | nil => rfl
  | cons b bs ih => simp [strsD, ih]
def aAny : ASp := fun ds C P => match ds with | [d] => (match (asLr C d).bind blsD with | some bs => P (.bl (bs.any id)) C | none => False) | _ => False
def aSum : ASp := fun ds C P => match ds with | [d] => (match (asLr C d).bind intsD with | some bs => P (.int bs.sum) C | none => False) | _ => False
theorem ac_any (hc : X.calm = true := by rfl) (hK : X.K = K := by rfl) : ACa B X (.builtin "any") (rAny K) aAny := by
  subst hK
  exact ⟨cr_any hc, by
  intro vs ds F C R H Q P hS r h k
  unfold aAny at h
  split at h
  · cases r with
    | cons r1 r2 =>
      cases r2
      split at h
      · rename_i bs q
        obtain ⟨us, q1, q2⟩ := Option.bind_eq_some_iff.mp q
        obtain ⟨a, xs, e1, h1, h2⟩ := asLr_ok hS r1 q1
        rw [bls_ok q2] at h2
        have e3 := h2.ofBls
        subst e3
        exact ⟨a, bs, by rw [e1], h1, k _ _ F C H (Ex.refl F) hS (.bl _) h⟩
      · exact h.elim
  · exact h.elim⟩
theorem ac_sum (hc : X.calm = true := by rfl) (hK : X.K = K := by rfl) : ACa B X (.builtin "sum") (rSum K) aSum := by
  subst hK
  exact ⟨cr_sum hc, by
  intro vs ds F C R H Q P hS r h k
  unfold aSum at h
  split at h
  · cases r with
    | cons r1 r2 =>
      cases r2
      split at h
      · rename_i bs q
        obtain ⟨us, q1, q2⟩ := Option.bind_eq_some_iff.mp q
        obtain ⟨a, xs, e1, h1, h2⟩ := asLr_ok hS r1 q1
        rw [ints_ok q2] at h2
        have e3 := h2.ofInts
        subst e3
        exact ⟨a, bs, by rw [e1], h1, k _ _ F C H (Ex.refl F) hS (.int _) h⟩
      · exact h.elim
  · exact h.elim⟩
def kindOf (C : AH) : D → Option String
  | .non => some "NoneType" | .bl _ => some "bool" | .int _ => some "int" | .str _ => some "str" | .lst _ => some "list" | .tup _ => some "tuple" | .dk _ => some "dict" | .scr _ => some "list"
  | .ce p => match C p with | some (.lst _) => some "list" | some (.dk _) => some "dict" | _ => none
theorem kindOf_ok {F : Hp} {C : AH} {R H : Hp} {v : V} {d : D} {t : String} (hS : Sat B K F C R H) (r : Rep K F v d) (h : kindOf C d = some t) : TyX K H v (.type t) := by
  cases r with
  | non => cases h; exact .base .non
  | bl b => cases h; exact .base (.bl b)
  | int i => cases h; exact .base (.int i)
  | str x => cases h; exact .base (.str x)
  | lst e q => cases h; exact .base (.lst (hS.ex _ _ e))
  | tup e q =>
    cases h
    rcases e.1 with e | ⟨o, e⟩
    · exact .base (.tup (hS.ex _ _ e))
    · exact .fTuple (hS.ex _ _ e)
  | dk e q => cases h; exact .base (.dK (hS.ex _ _ e))
  | scr e =>
    cases h
    rcases hS.ex.l e with (e | ⟨o, e⟩) | ⟨o, its, n, e, c, _⟩
    · exact .base (.lst e)
    · exact .base (.frz e)
    · exact .kList e c
  | ce p =>
    simp only [kindOf] at h
    split at h
    · rename_i e; cases h
      obtain ⟨_, o, h1, h2⟩ := hS.cell p _ e
      cases h2; exact .base (.lst h1)
    · rename_i e; cases h
      obtain ⟨_, o, h1, h2⟩ := hS.cell p _ e
      cases h2; exact .base (.dK h1)
    · cases h
def isT (T t : String) : Bool := t == T || (t == "bool" && T == "int")
theorem isT_ok : ∀ t ∈ ["NoneType", "bool", "int", "str", "list", "tuple", "dict"], ∀ T ∈ ["bool", "int", "str", "list", "tuple", "dict"], kitB t T = some (isT T t) := by decide +kernel
theorem kindOf_mem {C : AH} {d : D} {t : String} (h : kindOf C d = some t) : t ∈ ["NoneType", "bool", "int", "str", "list", "tuple", "dict"] := by
  unfold kindOf at h
  split at h <;> first | (cases h; decide) | (split at h <;> first | (cases h; decide) | cases h)
def aIsi (T : String) (a : AE') : AE' := fun s C P => a s C fun x C1 => match kindOf C1 x with | some t => P (.bl (isT T t)) C1 | none => False
theorem ae_isi {e : Expr} {te : TE} {a : AE'} {T : Str} {Tn : String} {p p2 : Pos} (h : AE B X e te a) (hm : X.mg "isinstance" = none) (hmT : X.mg T = none) (hv : bootBuiltins T = some (.type Tn)) (hT : Tn ∈ ["bool", "int", "str", "list", "tuple", "dict"] := by decide)
    (hg : Gl X "isinstance" := by rfl) (hgT : Gl X T := by rfl) (hb : bootBuiltins "isinstance" = some (.builtin "isinstance") := by decide +kernel) (hnT : T ≠ "__name__" := by decide) (hdT : (T == ("__debug__" : Str)) = false := by decide)
    (he : starEach [e, .Name T p2] X.env = (false, eval e X.env) :: starEach [.Name T p2] X.env := by rfl) (hpl : (backTo pos (starEach [.Name T p2] X.env)).any (·.1) = false := by rfl) (h2 : starEach [.Name T p2] X.env = (false, eval (.Name T p2) X.env) :: starEach [] X.env := by rfl) (hK : X.K = K := by rfl) :
    AE B X (.Call (.Name "isinstance" p) [e, .Name T p2] [] pos) (tCB (rIsi K) (tCons te (tCons (tC (.ty Tn)) tNil))) (aIsi Tn a) := by
  subst hK
  exact ⟨pe_callB call_isi hg hm hb (pa_cons h.pe (pa_cons (pe_bltn hgT hmT hv rfl hnT hdT) pa_nil h2) he) (by decide) (by decide) he hpl, by
    intro σ s F C R H Q P hs hS h0 k
    refine h.sim σ s F C R H _ _ hs hS h0 fun x v F1 C1 H1 e1 S1 r1 h1 => ?_
    split at h1
    · rename_i t q
      exact ⟨v, .ty Tn, .type t, .type Tn, isT Tn t, rfl, .ty Tn, kindOf_ok S1 r1 q, kit_ty (isT_ok t (kindOf_mem q) Tn hT), k _ _ F1 C1 H1 e1 S1 (.bl _) h1⟩
    · exact h1.elim⟩
end
end AL
namespace AL
open PySem PySem.Spec L2
variable {B : Bs}
open PyProof.Rows (envOfC)
section
variable {X : Cx} {pos : Pos} {K : PySem.W.Frag}
def spOf (w : Gd) (K : PySem.W.Frag) (n : Nat) (asp : ASp) : Sp := fun vs H Q _ => vs.length = n ∧ ∃ F C R ds P, Sat (Bs.nil w) K F C R H ∧ RepL K F vs ds ∧ asp ds C P ∧ ∀ d v F' C' H', Ex F F' → Sat (Bs.nil w) K F' C' R H' → Rep K F' v d → P d C' → Q v H'
/-- a def's promise, where no guard stands (so that repr may be asked) -/
structure FnG (P : Program) (w : World) (K : PySem.W.Frag) (mg : Str → Option Value) (base : Heap) (k : Nat) (f : Addr) (fd : FuncData) (ps : List Str) (sp : Sp) : Prop where
  len : ∀ vs H Q E, sp vs H Q E → vs.length = ps.length
  run : ∀ (A : Around) (out : List Env) (s : Shared) (H : Hp) (args : Args) (us : List Value) (vs : List V) (Q : VK) (E : XK), Room k A → A.guards = some [] → Env0 P w K mg base A out s H →
    BindsTo s fd args (ps.zip us) → Vals vs us → sp vs H Q E → codeAny (model P w) A (.call (.ref f) args) (CR (L2.CX P w) out P w H s Q E) s
theorem FnG.imp {P : Program} {w : World} {K : PySem.W.Frag} {mg : Str → Option Value} {base : Heap} {k : Nat} {f : Addr} {fd : FuncData} {ps : List Str} {sp sp' : Sp} (G : FnG P w K mg base k f fd ps sp) (h : ∀ vs H Q E, sp' vs H Q E → sp vs H Q E) : FnG P w K mg base k f fd ps sp' :=
  ⟨fun vs H Q E q => G.len vs H Q E (h _ _ _ _ q), fun A out s H args us vs Q E hr hg he hb hv hs => G.run A out s H args us vs Q E hr hg he hb hv (h _ _ _ _ hs)⟩
/-- by its body -/
theorem fnG_of {P : Program} {w : World} {K : PySem.W.Frag} {mg : Str → Option Value} {base : Heap} {x qual : Str} {st : Stmt} {f : Addr} {fd : FuncData} {N ps : List Str} {k : Nat} {sp : Sp} (F : L2.Fun K x qual st f fd) (S : FnScope N ps (defScope st)) (len : ∀ vs H Q E, sp vs H Q E → vs.length = ps.length)
    (hbody : ∀ (cdv : Value) (A : Around) (out : List Env) (s : Shared) (H : Hp) (vs : List V) (Q : VK) (E : XK), Room k (A.deeper (envOfC qual (defScope st) s.heap.objs.size f cdv)) → A.guards = some [] → sp vs H Q E →
      ∃ t, PSs (cxOf (L2.CX P w) P w K mg base N qual (defScope st) f cdv A out s H E) (defBody st) t ∧ t { nx := fun _ H1 => Q .non H1, rt := Q } (start N vs) H) : FnG P w K mg base (k + 1) f fd ps sp := by
  obtain ⟨oc, od, kV, doc, pm, an, cdv, ct, osl, rfl, lk, hcd⟩ := F.ex
  refine ⟨len, fun A out s H args us vs Q E hr hg e0 hb rv hsp => ?_⟩
  have kin := e0.mod.kin.keeps fun b o e => (e0.bs b o e).1
  have nol := e0.mod.nolimit.keeps fun b o e => (e0.bs b o e).1
  have knd : ∀ z ∈ ps.zip us, (defScope st).names.lookup z.1 = some .local ∨ ((defScope st).names.lookup z.1 = some .cell ∧ ((cellsFrom (s.heap.objs.size + 1) (defScope st).names []).lookup z.1).isSome = true) := by
    intro z hz
    obtain ⟨n, v⟩ := z
    exact (S.par n (List.of_mem_zip hz).1).elim .inl fun q => .inr ⟨q, PySem.W.cellsFrom_some _ _ _ (.inl q)⟩
  refine codeAny_call_function hr.depth (kin _ _ lk) rfl S.co S.gen rfl (PySem.W.codeRec_of kin hcd) (hb _ _ _ _ (wpAny_newFunctionEnv_cells S.kind knd fun env he s1 made => ?_))
  subst he
  refine ⟨nol.keeps made.toInCall.keep, codeAny_func ?_⟩
  obtain ⟨t, ht, q0⟩ := hbody cdv A out s H vs Q E (hr.deeper _) hg hsp
  refine wpAny_mono (ht.run [] s1 (start N vs) H _ (inv_start S hr.hd e0 (len _ _ _ _ hsp) rv made) q0) (fun fl s2 z => ?_) fun _ _ z => z
  have done : ∀ {σ2 : L2.St} {H2 : Hp} {v : V} {u : Value}, Inv (cxOf (L2.CX P w) P w K mg base N qual (defScope st) f cdv A out s H E) [] σ2 H2 s2 → RelV v u → Q v H2 → CE out P w H s Q u s2 := fun J r q => ⟨_, _, J.os, J.bare, J.base, J.hok, r, q⟩
  cases fl with
  | next => obtain ⟨σ2, H2, J, q⟩ := z; exact done (v := .non) (u := .none) J rfl q
  | ret u => obtain ⟨v, σ2, H2, J, r, q⟩ := z; exact done J r q
  | brk => obtain ⟨_, _, _, q⟩ := z; exact q.elim
  | cont => obtain ⟨_, _, _, q⟩ := z; exact q.elim
section
variable {k : Nat} {f : Addr} {fd : FuncData} {ps : List Str} {sp : Sp} {E : L2.St → XK} {x : Str} {p : Pos} {e : Expr} {es : List Expr} {t : TA}
theorem run_G {pins : List (Addr × Obj)} {σ : L2.St} {H : Hp} {s : Shared} {Q : VK} {us : List Value} {vs : List V} (G : FnG X.prog X.w X.K X.mg X.base k f fd ps sp) (hr : Room k X.A) (hgd : X.A.guards = some []) (hb : Binds X.K fd ps []) (hx : PassesAt (L2.CX X.prog X.w) X σ (E σ))
    (I : Inv X pins σ H s) (r : Vals vs us) (h : sp vs H Q (E σ)) : wpAny (model X.prog X.w) X.A (call (.ref f) us) (EP X pins σ Q) X.xe s := by
  have hl : us.length = ps.length := r.length.symm.trans (G.len _ _ _ _ h)
  have b := hb s us I.kIn ((congrArg List.length (List.append_nil us)).trans hl)
  rw [List.append_nil] at b
  refine wpAny_call (codeAny_mono (G.run X.A X.stack s H ⟨us, []⟩ us vs Q (E σ) hr hgd I.env0 b r h) fun res s2 z => ?_)
  match res, z with
  | .error e, z => exact hx pins H s e s2 I z
  | .ok (.ret u), z => exact I.after z
  | .ok .next, z => exact False.elim z
  | .ok .brk, z => exact False.elim z
  | .ok .cont, z => exact False.elim z
theorem pe_callG (G : FnG X.prog X.w X.K X.mg X.base k f fd ps sp) (hr : Room k X.A) (hgd : X.A.guards = some []) (hg : Gl X x) (hm : X.mg x = some (.ref f)) (hk : PySem.W.keepIn X.K (.ref f) = true) (hb : Binds X.K fd ps []) (hx : ∀ σ, PassesAt (L2.CX X.prog X.w) X σ (E σ))
    (ha : PA X (e :: es) t) (hdb : (x == ("__debug__" : Str)) = false := by decide) (he : starEach (e :: es) X.env = (false, eval e X.env) :: starEach es X.env := by rfl) (hpl : (backTo pos (starEach es X.env)).any (·.1) = false := by rfl) : PE X (.Call (.Name x p) (e :: es) [] pos) (tCallS sp E t) :=
  ⟨fun pins s σ H Q I h => wpAny_Call_Name_kw (ld_glob I hg hm (PySem.W.callWith_K (h₀ := X.base) I.ok.mod.kin hk (thn (ha.run pos pins s σ H _ I h) fun us s1 ⟨vs, H1, I1, r, q⟩ => ⟨I1.kIn, run_G G hr hgd hb (hx σ) I1 r q⟩) he hpl) hdb)⟩
end
abbrev E0S : L2.St → XK := fun _ _ _ _ => False
theorem passG {X : Cx} : ∀ σ, PassesAt (L2.CX X.prog X.w) X σ (E0S σ) := fun _ _ _ _ _ _ _ h => by
  obtain ⟨_, _, _, _, _, _, _, _, _, _, _, _, z⟩ := h
  exact z.elim
structure Cal (P : Program) (w : World) (K : PySem.W.Frag) (mg : Str → Option Value) (base : Heap) (k : Nat) (x : Str) (n : Nat) (asp : ASp) : Prop where
  ex : ∃ (f : Addr) (fd : FuncData) (ps : List Str), FnG P w K mg base k f fd ps (spOf ⟨w, mg⟩ K n asp) ∧ mg x = some (.ref f) ∧ PySem.W.keepIn K (.ref f) = true ∧ Binds K fd ps []
theorem sim_call {w : Gd} (hw : B.g = w) {n : Nat} {asp : ASp} {E : L2.St → XK} {ta : TA} {a : AA'} (ha : SimA B K n ta a) : SimE B K (tCallS (spOf w K n asp) E ta) (aCall asp a) := by
  subst hw
  intro σ s F C R H Q P hs hS h k
  refine ha σ s F C R H _ _ hs hS h fun ds vs F1 C1 H1 e1 S1 r1 hl h1 => ?_
  exact ⟨by rw [r1.length, hl], F1, C1, R, ds, P, S1.nil, r1, h1, fun d v F2 C2 H2 e2 S2 r2 h2 => k d v F2 C2 H2 (e1.trans e2) (S1.back e2 S2) r2 h2⟩
section
variable {e : Expr} {es : List Expr} {n : Nat} {t : TA} {a : AA'} {x : Str} {p : Pos} {asp : ASp} {k j : Nat}
theorem ae_call {g : Gd} (c : Cal X.prog X.w X.K X.mg X.base k x n asp) (hr : Room j X.A) (hgd : X.A.guards = some []) (ha : AA B X (e :: es) n t a) (hw : B.g = g := by first | rfl | assumption) (hX : (⟨X.w, X.mg⟩ : Gd) = g := by rfl) (hk : k ≤ j := by decide) (hg : Gl X x := by rfl)
    (hdb : (x == ("__debug__" : Str)) = false := by decide) (he : starEach (e :: es) X.env = (false, eval e X.env) :: starEach es X.env := by rfl) (hpl : (backTo pos (starEach es X.env)).any (·.1) = false := by rfl) (hK : X.K = K := by rfl) :
    AE B X (.Call (.Name x p) (e :: es) [] pos) (tCallS (spOf g K n asp) E0S t) (aCall asp a) := by
  subst hK
  exact ⟨by
  obtain ⟨f, fd, ps, F, hm, kp, b⟩ := c.ex
  rw [← hX]
  exact pe_callG F (hr.mono hk) hgd hg hm kp b passG ha.pa hdb he hpl, sim_call hw ha.sim⟩
end
/-- a def's body as what the def does -/
def aBody (n : Nat) (b : AS') : ASp := fun ds C P => b ⟨fun _ C' => P .non C', P, fun _ _ => False, fun _ _ => False⟩ (ds.map some ++ List.replicate (n - ds.length) none) C
theorem fnA {P : Program} {w : World} {K : PySem.W.Frag} {mg : Str → Option Value} {base : Heap} {x qual : Str} {st : Stmt} {f : Addr} {fd : FuncData} {N ps : List Str} {k : Nat} {b : AS'} {asp : ASp} (F : L2.Fun K x qual st f fd) (S : FnScope N ps (defScope st))
    (hbody : ∀ (cdv : Value) (A : Around) (outer : List Env) (s : Shared) (H : Hp) (E : XK), Room k (A.deeper (envOfC qual (defScope st) s.heap.objs.size f cdv)) → A.guards = some [] → ∃ ts, ASs (Bs.nil ⟨w, mg⟩) (cxOf (L2.CX P w) P w K mg base N qual (defScope st) f cdv A outer s H E).nox (defBody st) ts b)
    (h : ∀ ds C P, ds.length = ps.length → asp ds C P → aBody N.length b ds C P) : FnG P w K mg base (k + 1) f fd ps (spOf ⟨w, mg⟩ K ps.length asp) := by
  refine fnG_of F S (fun vs H Q E z => z.1) (fun cdv A outer s H vs Q E hr hg z => ?_)
  obtain ⟨ts, hps⟩ := hbody cdv A outer s H E hr hg
  obtain ⟨hl, F1, C, R, ds, P1, hS, hR, ha, hk⟩ := z
  refine ⟨ts, hps.ps.nox, ?_⟩
  have hb := h ds C P1 (by rw [← hR.length, hl]) ha
  refine hps.sim { nx := fun _ H' => Q .non H', rt := Q } ⟨fun _ C' => P1 .non C', P1, fun _ _ => False, fun _ _ => False⟩ _ _ F1 C R H ⟨fun s σ F' C' H' e _ S h => ?_, fun d v F' C' H' e r S h => ?_, fun _ _ _ _ _ _ _ _ h => h.elim, fun _ _ _ _ _ _ _ _ h => h.elim⟩ (Slo.start hR N.length) hS hb
  · exact hk .non .non F' C' H' e S .non h
  · exact hk d v F' C' H' e S r h
theorem calA {P : Program} {w : World} {K : PySem.W.Frag} {mg : Str → Option Value} {base : Heap} {x y qual : Str} {st : Stmt} {f : Addr} {fd : FuncData} {N ps : List Str} {k n : Nat} {b : AS'} {asp : ASp} (F : L2.Fun K x qual st f fd) (S : FnScope N ps (defScope st)) (hn : ps.length = n) (hm : mg y = some (.ref f)) (hb : Binds K fd ps [])
    (hbody : ∀ (cdv : Value) (A : Around) (outer : List Env) (s : Shared) (H : Hp) (E : XK), Room k (A.deeper (envOfC qual (defScope st) s.heap.objs.size f cdv)) → A.guards = some [] → ∃ ts, ASs (Bs.nil ⟨w, mg⟩) (cxOf (L2.CX P w) P w K mg base N qual (defScope st) f cdv A outer s H E).nox (defBody st) ts b)
    (h : ∀ ds C P, ds.length = n → asp ds C P → aBody N.length b ds C P) : Cal P w K mg base (k + 1) y n asp := by
  subst hn
  exact ⟨f, fd, ps, fnA F S hbody h, hm, F.kp, hb⟩
structure AMt (B : Bs) (X : Cx) (id : String) (r : V → List V → Hp → VK → Prop) (a : D → ASp) : Prop where
  op : MtR X id r
  sim : SimRM B X.K r a
def isTy (T : String) (C : AH) (d : D) : Bool := match d with
  | .str _ => T == "str"
  | .lst _ => T == "list"
  | .scr _ => T == "list"
  | .dk _ => T == "dict"
  | .ce p => (match C p with | some (.lst _) => T == "list" | some (.dk _) => T == "dict" | _ => false)
  | _ => false
theorem isTy_ok {F : Hp} {C : AH} {R H : Hp} {v : V} {d : D} {T : String} (hS : Sat B K F C R H) (r : Rep K F v d) (h : isTy T C d = true) : tyV K T v H := by
  cases r with
  | str x => simpa [isTy, tyV] using h
  | lst e q => exact .inl ⟨by simpa [isTy] using h, _, SqL.of (hS.ex _ _ e)⟩
  | scr e => exact .inl ⟨by simpa [isTy] using h, _, hS.ex.l e⟩
  | dk e q => exact .inr (.inr (.inl ⟨by simpa [isTy] using h, .inl ⟨_, hS.ex _ _ e⟩⟩))
  | ce p =>
    simp only [isTy] at h
    split at h
    · rename_i e
      obtain ⟨_, o, h1, h2⟩ := hS.cell p _ e
      cases h2; exact .inl ⟨by simpa using h, _, SqL.of h1⟩
    · rename_i e
      obtain ⟨_, o, h1, h2⟩ := hS.cell p _ e
      cases h2; exact .inr (.inr (.inl ⟨by simpa using h, .inl ⟨_, h1⟩⟩))
    · cases h
  | _ => cases h
def aMeth (T : String) (m : D → ASp) (o : AE') (a : AA') : AE' := fun s C P => o s C fun x C1 => isTy T C1 x = true ∧ a s C1 fun ds C2 => m x ds C2 P
def aMeth0 (T : String) (m : D → ASp) (o : AE') : AE' := fun s C P => o s C fun x C1 => isTy T C1 x = true ∧ m x [] C1 P
section
variable {o e : Expr} {es : List Expr} {n : Nat} {to : TE} {t : TA} {ao : AE'} {a : AA'} {T id : String} {name : Str} {r : V → List V → Hp → VK → Prop} {ar : D → ASp} {apos cpos : Pos}
theorem ae_meth (pa : PlainAttrs T) (slot : Slot T name id) (hty : typeOf (.builtin id) = pure (.type "method_descriptor")) (hm : AMt B X id r ar) (ho : AE B X o to ao) (ha : AA B X (e :: es) n t a)
    (hbase : attributeBase o name X.env (eval o X.env) = eval o X.env := by rfl)
    (hfew : ((backTo cpos (starEach (e :: es) X.env)).all (fun x => !x.1) && (backToKw cpos (keywordEach [] X.env)).all (fun x => x.1.isSome)
      && decide ((e :: es).length + ([] : List Keyword).length + (if ([] : List Keyword).isEmpty then 0 else 1) < 30)) = true := by rfl)
    (hline : (apos.endLine == cpos.line) = true := by rfl) (hs : starEach (e :: es) X.env = (false, eval e X.env) :: starEach es X.env := by rfl) (hplain : (backTo cpos (starEach es X.env)).any (·.1) = false := by rfl) (hK : X.K = K := by rfl) :
    AE B X (.Call (.Attribute o name apos) (e :: es) [] cpos) (tBM K T r to t) (aMeth T ar ao a) := by
  subst hK
  exact ⟨pe_bm pa slot hty hm.op ho.pe ha.pa hbase hfew hline hs hplain, by
  intro σ s F C R H Q P hs hS h0 k
  refine ho.sim σ s F C R H _ _ hs hS h0 fun x v F1 C1 H1 e1 S1 r1 h1 => ⟨isTy_ok S1 r1 h1.1, ?_⟩
  refine ha.sim σ s F1 C1 R H1 _ _ (hs.mono e1) S1 h1.2 fun ds vs F2 C2 H2 e2 S2 r2 hl h2 => ?_
  exact hm.sim v x vs ds F2 C2 R H2 Q P S2 (r1.mono e2) r2 h2 fun d u F3 C3 H3 e3 S3 r3 h3 => k d u F3 C3 H3 ((e1.trans e2).trans e3) S3 r3 h3⟩
end
theorem cellL {F : Hp} {C : AH} {R H : Hp} {p : Addr} {ds : List D} (hS : Sat B K F C R H) (e : C p = some (.lst ds)) : ∃ xs, H p = some (.lst xs) ∧ RepL K F xs ds := by
  obtain ⟨_, o, h1, h2⟩ := hS.cell p _ e
  cases h2
  exact ⟨_, h1, by assumption⟩
def aAppend : D → ASp := fun x ds C P => match x, ds with
  | .ce p, [d] => (match C p with | some (.lst us) => us.length < sizeLine ∧ P .non (put C p (.lst (us ++ [d]))) | _ => False)
  | _, _ => False
theorem am_append : AMt B X "list.append" rAppend aAppend := ⟨fun pins s σ H x xs v us Q I r1 r2 h => mt_append pins s σ H x xs v us Q I r1 r2 h, by
  intro v d vs ds F C R H Q P hS r1 r2 h k
  unfold aAppend at h
  split at h
  · cases r1
    cases r2 with
    | cons r2 r3 =>
      cases r3
      split at h
      · rename_i e
        obtain ⟨xs, h1, h2⟩ := cellL hS e
        exact ⟨_, xs, _, rfl, rfl, h1, by rw [h2.length]; exact h.1, k _ _ F _ _ (Ex.refl F) (hS.mutC e (.lst (h2.append (.cons r2 .nil)))) .non h.2⟩
      · exact h.elim
  · exact h.elim⟩
/-- xs.extend(ys), ys a list -/
def aExtend : D → ASp := fun x ds C P => match x, ds with
  | .ce p, [d] => (match C p, asL C d with | some (.lst us), some ws => us.length + ws.length ≤ sizeLine ∧ P .non (put C p (.lst (us ++ ws))) | _, _ => False)
  | _, _ => False
theorem am_extend : AMt B X "list.extend" rExtend aExtend := ⟨fun pins s σ H x xs v us Q I r1 r2 h => mt_extend pins s σ H x xs v us Q I r1 r2 h, by
  intro v d vs ds F C R H Q P hS r1 r2 h k
  unfold aExtend at h
  split at h
  · cases r1
    cases r2 with
    | cons r2 r3 =>
      cases r3
      split at h
      · rename_i e e2
        obtain ⟨xs, h1, h2⟩ := cellL hS e
        obtain ⟨a, ys, e3, h3, h4⟩ := asL_ok hS r2 e2
        exact ⟨_, a, xs, ys, rfl, by rw [e3], h1, h3, by rw [h2.length, h4.length]; exact h.1, k _ _ F _ _ (Ex.refl F) (hS.mutC e (.lst (h2.append h4))) .non h.2⟩
      · exact h.elim
  · exact h.elim⟩
theorem walk_l {F : Hp} {a : Addr} {ds : List D} {hold : AH → Prop} (h : ∀ F' C' R' H', Ex F F' → Sat B K F' C' R' H' → hold C' → ∃ xs, SqL K H' a xs ∧ RepL K F' xs ds) : Walks B K F ds hold (Itl K a) := by
  refine ⟨fun F' C' R' H' e S hc => ?_, fun F' C' R' H' i e S hc hi => ?_, fun F' C' R' H' i x H'' e S hc hi y => ?_⟩
  · obtain ⟨xs, h1, h2⟩ := h F' C' R' H' e S hc
    exact ⟨xs, h1, by rw [h2.length]; exact Nat.le_refl _⟩
  · obtain ⟨xs, h1, h2⟩ := h F' C' R' H' e S hc
    exact ⟨xs, xs[i]'(by rw [h2.length]; exact hi), h1, by simp⟩
  · obtain ⟨xs, h1, h2⟩ := h F' C' R' H' e S hc
    obtain ⟨e1, y⟩ := y
    subst e1
    obtain ⟨d, h3, h4⟩ := h2.get (y xs h1)
    exact ⟨d, F', h3, Ex.refl F', S, h4⟩
theorem asL_later {F F' : Hp} {C C' : AH} {R R' H H' : Hp} {v : V} {d : D} {ds : List D} (hS : Sat B K F C R H) (r : Rep K F v d) (h : asLr C d = some ds) (e : Ex F F') (S' : Sat B K F' C' R' H') (hc : asLr C' d = some ds) : ∀ a, v = .ref a → ∃ xs, SqL K H' a xs ∧ RepL K F' xs ds := by
  intro a ea
  obtain ⟨b, xs, e1, h1, h2⟩ := asLr_ok S' (r.mono e) hc
  rw [ea] at e1
  cases e1
  exact ⟨xs, h1, h2⟩
/-- for x in a list -/
def aIL (a : AE') : AI' := fun s C P => a s C fun x C1 => match asLr C1 x with | some ds => P ds (fun C' => asLr C' x = some ds) C1 | none => False
theorem ai_list {tg e : Expr} {te : TE} {a : AE'} (h : AE B X e te a) (hK : X.K = K := by rfl) : AI B X tg e (iList K te) (aIL a) := by
  subst hK
  exact ⟨pi_list h.pe, by
  intro σ s F C R H Q P hs hS h0 k
  refine h.sim σ s F C R H _ _ hs hS h0 fun x v F1 C1 H1 e1 S1 r1 h1 => ?_
  split at h1
  · rename_i ds q
    obtain ⟨b, xs, e2, h2, h3⟩ := asLr_ok S1 r1 q
    exact ⟨b, e2, ⟨xs, h2⟩, k ds _ _ F1 C1 H1 e1 S1 (walk_l fun F' C' R' H' e' S' hc => asL_later S1 r1 q e' S' hc b e2) h1⟩
  · exact h1.elim⟩
/-- for x in a tuple -/
def aIT (a : AE') : AI' := fun s C P => a s C fun x C1 => match asT x with | some ds => P ds (fun _ => True) C1 | none => False
theorem ai_tup {tg e : Expr} {te : TE} {a : AE'} (h : AE B X e te a) (hK : X.K = K := by rfl) : AI B X tg e (iTup K te) (aIT a) := by
  subst hK
  exact ⟨pi_tup h.pe, by
  intro σ s F C R H Q P hs hS h0 k
  refine h.sim σ s F C R H _ _ hs hS h0 fun x v F1 C1 H1 e1 S1 r1 h1 => ?_
  split at h1
  · rename_i ds q
    obtain ⟨b, xs, e2, h2, h3⟩ := asT_ok S1 r1 q
    refine ⟨b, e2, ⟨xs, SqT.of h2⟩, k ds _ _ F1 C1 H1 e1 S1 ⟨fun F' C' R' H' e S _ => ?_, fun F' C' R' H' i e S _ hi => ?_, fun F' C' R' H' i x H'' e S _ hi y => ?_⟩ h1⟩
    · obtain ⟨b', xs', e2', h2', h3'⟩ := asT_ok S (r1.mono e) q
      rw [e2] at e2'; cases e2'
      exact ⟨xs', SqT.of h2', by rw [h3'.length]; exact Nat.le_refl _⟩
    · obtain ⟨b', xs', e2', h2', h3'⟩ := asT_ok S (r1.mono e) q
      rw [e2] at e2'; cases e2'
      exact ⟨xs', xs'[i]'(by rw [h3'.length]; exact hi), SqT.of h2', by simp⟩
    · obtain ⟨b', xs', e2', h2', h3'⟩ := asT_ok S (r1.mono e) q
      rw [e2] at e2'; cases e2'
      obtain ⟨e3, y⟩ := y
      subst e3
      obtain ⟨d, h4, h5⟩ := h3'.get (y xs' (SqT.of h2'))
      exact ⟨d, F', h4, Ex.refl F', S, h5⟩
  · exact h1.elim⟩
def rangeD (lo : Int) (n : Nat) : List D := (List.range n).map fun (i : Nat) => D.int (lo + i)
theorem rangeD_get {lo : Int} {n i : Nat} (h : i < n) : (rangeD lo n)[i]? = some (.int (lo + i)) := by
  unfold rangeD
  rw [List.getElem?_map, List.getElem?_range h]
  rfl
theorem rangeD_len (lo : Int) (n : Nat) : (rangeD lo n).length = n := by
  unfold rangeD
  rw [List.length_map, List.length_range]
theorem walk_r {F : Hp} (lo : Int) (n : Nat) : Walks B K F (rangeD lo n) (fun _ => True) (Itr lo n) := by
  refine ⟨fun F' C' R' H' e S _ => ?_, fun F' C' R' H' i e S _ hi => ?_, fun F' C' R' H' i x H'' e S _ hi y => ?_⟩
  · rw [rangeD_len]; exact Nat.le_refl _
  · rw [rangeD_len] at hi; exact hi
  · rw [rangeD_len] at hi
    obtain ⟨e1, y⟩ := y
    subst e1; subst y
    exact ⟨_, F', rangeD_get hi, Ex.refl F', S, .int _⟩
def aIR1 (a : AA') : AI' := fun s C P => a s C fun ds C1 => match ds with | [.int j] => -(2 ^ 62) ≤ j ∧ j < 2 ^ 62 ∧ P (rangeD 0 j.toNat) (fun _ => True) C1 | _ => False
def aIR2 (a : AA') : AI' := fun s C P => a s C fun ds C1 => match ds with | [.int i, .int j] => (-(2 ^ 62) ≤ i ∧ i < 2 ^ 62 ∧ -(2 ^ 62) ≤ j ∧ j < 2 ^ 62) ∧ P (rangeD i (j - i).toNat) (fun _ => True) C1 | _ => False
theorem ai_range1 {tg e : Expr} {n : Nat} {ta : TA} {a : AA'} {p : Pos} (hm : X.mg "range" = none) (h : AA B X [e] n ta a) (hg : Gl X "range" := by rfl) (hs : starEach [e] X.env = [(false, eval e X.env)] := by rfl) : AI B X tg (.Call (.Name "range" p) [e] [] pos) (iRng1 ta) (aIR1 a) := ⟨pi_range1 hg hm h.pa hs, by
  intro σ s F C R H Q P hs hS h0 k
  refine h.sim σ s F C R H _ _ hs hS h0 fun ds vs F1 C1 H1 e1 S1 r1 hl h1 => ?_
  split at h1
  · cases r1 with | cons r1 r2 => cases r2; cases r1; exact ⟨_, rfl, h1.1, h1.2.1, k _ _ _ F1 C1 H1 e1 S1 (walk_r 0 _) h1.2.2⟩
  · exact h1.elim⟩
theorem ai_range2 {tg e e2 : Expr} {n : Nat} {ta : TA} {a : AA'} {p : Pos} (hm : X.mg "range" = none) (h : AA B X [e, e2] n ta a) (hg : Gl X "range" := by rfl) (hs : starEach [e, e2] X.env = [(false, eval e X.env), (false, eval e2 X.env)] := by rfl) (hs2 : starEach [e2] X.env = [(false, eval e2 X.env)] := by rfl) : AI B X tg (.Call (.Name "range" p) [e, e2] [] pos) (iRng2 ta) (aIR2 a) := ⟨pi_range2 hg hm h.pa hs hs2, by
  intro σ s F C R H Q P hs hS h0 k
  refine h.sim σ s F C R H _ _ hs hS h0 fun ds vs F1 C1 H1 e1 S1 r1 hl h1 => ?_
  split at h1
  · cases r1 with | cons r1 r2 => cases r2 with | cons r2 r3 => cases r3; cases r1; cases r2; exact ⟨_, _, rfl, h1.1, k _ _ _ F1 C1 H1 e1 S1 (walk_r _ _) h1.2⟩
  · exact h1.elim⟩
/-- a text, sign by sign -/
def signs (z : Str) : List D := z.cps.toList.map fun c => D.str ⟨#[c]⟩
def aIS (a : AE') : AI' := fun s C P => a s C fun x C1 => match x with | .str z => P (signs z) (fun _ => True) C1 | _ => False
theorem ai_str {tg e : Expr} {te : TE} {a : AE'} (h : AE B X e te a) : AI B X tg e (iStr te) (aIS a) := ⟨pi_str h.pe, by
  intro σ s F C R H Q P hs hS h0 k
  refine h.sim σ s F C R H _ _ hs hS h0 fun x v F1 C1 H1 e1 S1 r1 h1 => ?_
  split at h1
  · rename_i z
    cases r1
    refine ⟨z, rfl, k _ _ _ F1 C1 H1 e1 S1 ⟨fun F' C' R' H' e S _ => ?_, fun F' C' R' H' i e S _ hi => ?_, fun F' C' R' H' i x H'' e S _ hi y => ?_⟩ h1⟩
    · unfold signs; rw [List.length_map, Array.length_toList]; exact Nat.le_refl _
    · unfold signs at hi; rw [List.length_map, Array.length_toList] at hi; exact hi
    · obtain ⟨e3, c, y1, y2⟩ := y
      subst e3; subst y2
      refine ⟨_, F', ?_, Ex.refl F', S, .str _⟩
      unfold signs
      rw [List.getElem?_map, Array.getElem?_toList, y1]
      rfl
  · exact h1.elim⟩
/-- enumerate of a list -/
def enumD (ds : List D) : List D := (List.range ds.length).map fun (i : Nat) => D.tup [.int i, ds.getD i .non]
theorem enumD_len (ds : List D) : (enumD ds).length = ds.length := by unfold enumD; rw [List.length_map, List.length_range]
theorem enumD_get {ds : List D} {i : Nat} {d : D} (h : ds[i]? = some d) : (enumD ds)[i]? = some (.tup [.int i, d]) := by
  unfold enumD
  have hi := (List.getElem?_eq_some_iff.mp h).1
  rw [List.getElem?_map, List.getElem?_range hi]
  simp [List.getD, h]
def aIE (a : AA') : AI' := fun s C P => a s C fun us C1 => match us with | [x] => (match asLr C1 x with | some ds => P (enumD ds) (fun C' => asLr C' x = some ds) C1 | none => False) | _ => False
theorem ai_enum {e : Expr} {elts : List Expr} {kk n : Nat} {tpos p : Pos} {ta : TA} {a : AA'} (hm : X.mg "enumerate" = none) (h : AA B X [e] n ta a) (hg : Gl X "enumerate" := by rfl) (hs : starEach [e] X.env = [(false, eval e X.env)] := by rfl) (hK : X.K = K := by rfl) : AI B X (.Tuple elts kk tpos) (.Call (.Name "enumerate" p) [e] [] pos) (iEnum K ta) (aIE a) := by
  subst hK
  exact ⟨pi_enum hg hm h.pa hs, by
  intro σ s F C R H Q P hs hS h0 k
  refine h.sim σ s F C R H _ _ hs hS h0 fun us vs F1 C1 H1 e1 S1 r0 hl h1 => ?_
  split at h1
  · rename_i x
    cases r0 with
    | cons r1 r2 =>
      cases r2
      split at h1
      · rename_i ds q
        obtain ⟨b, xs, e2, h2, h3⟩ := asLr_ok S1 r1 q
        refine ⟨b, xs, by rw [e2], h2, k _ _ _ F1 C1 H1 e1 S1 ⟨fun F' C' R' H' e S hc => ?_, fun F' C' R' H' i e S hc hi => ?_, fun F' C' R' H' i x H'' e S hc hi y => ?_⟩ h1⟩
        · obtain ⟨xs', h4, h5⟩ := asL_later S1 r1 q e S hc b e2
          exact ⟨xs', h4, by rw [h5.length, enumD_len]; exact Nat.le_refl _⟩
        · obtain ⟨xs', h4, h5⟩ := asL_later S1 r1 q e S hc b e2
          rw [enumD_len] at hi
          exact ⟨xs', xs'[i]'(by rw [h5.length]; exact hi), h4, by simp⟩
        · obtain ⟨xs', h4, h5⟩ := asL_later S1 r1 q e S hc b e2
          obtain ⟨T, v, y1, y2, y3, y4⟩ := y
          subst y1; subst y3
          obtain ⟨d, h6, h7⟩ := h5.get (y4 xs' h4)
          have eN := Ex.new (o := .tup [.int (i : Nat), v]) (S.freeF y2)
          exact ⟨_, _, enumD_get h6, eN, S.newF y2 _, .tup ⟨.inl upd_same, fun z => by cases z⟩ (.cons (.int _) (.cons (h7.mono eN) .nil))⟩
      · exact h1.elim
  · exact h1.elim⟩
/-- zip of two lists -/
def zipD (xs ys : List D) : List D := (xs.zip ys).map fun p => D.tup [p.1, p.2]
theorem zipD_len (xs ys : List D) : (zipD xs ys).length = min xs.length ys.length := by unfold zipD; rw [List.length_map, List.length_zip]
theorem zipD_get {xs ys : List D} {i : Nat} {x y : D} (h : xs[i]? = some x) (g : ys[i]? = some y) : (zipD xs ys)[i]? = some (.tup [x, y]) := by
  unfold zipD
  rw [List.getElem?_map, show (xs.zip ys)[i]? = some (x, y) from List.getElem?_zip_eq_some.mpr ⟨h, g⟩]
  rfl
def aIZ (a : AA') : AI' := fun s C P => a s C fun us C1 => match us with | [x, y] => (match asLr C1 x, asLr C1 y with | some ds, some es => P (zipD ds es) (fun C' => asLr C' x = some ds ∧ asLr C' y = some es) C1 | _, _ => False) | _ => False
end
end AL
namespace AL
open PySem PySem.Spec L2
variable {B : Bs}
section
variable {X : Cx} {pos : Pos} {K : PySem.W.Frag}
theorem EndsR.mono {F F' R : Hp} {E : AEnds} {D' : Ends} (h : EndsR B K F R E D') (e : Ex F F') : EndsR B K F' R E D' :=
  ⟨fun s σ G C H e1 hs S z => h.nx s σ G C H (e.trans e1) hs S z, fun d v G C H e1 r S z => h.rt d v G C H (e.trans e1) r S z, fun s σ G C H e1 hs S z => h.bk s σ G C H (e.trans e1) hs S z, fun s σ G C H e1 hs S z => h.ct s σ G C H (e.trans e1) hs S z⟩
def aGName (i : Nat) : AG' := fun d s C P => P (s.set i (some d)) C
theorem wipe_get (σ : L2.St) (i : Nat) : ∀ vs : List Nat, (L2.wipe σ vs)[i]? = if i ∈ vs then (if i < σ.length then some none else none) else σ[i]?
  | [] => by simp [L2.wipe]
  | v :: vs => by
    unfold L2.wipe
    by_cases h : i = v
    · subst h
      rw [if_pos List.mem_cons_self]
      by_cases hl : i < σ.length
      · rw [if_pos hl, List.getElem?_set_self (by rw [L2.wipe_length]; exact hl)]
      · rw [if_neg hl, List.getElem?_eq_none (by rw [List.length_set, L2.wipe_length]; omega)]
    · rw [List.getElem?_set_ne (Ne.symm h), wipe_get σ i vs]
      by_cases h2 : i ∈ vs
      · rw [if_pos h2, if_pos (List.mem_cons_of_mem _ h2)]
      · rw [if_neg h2, if_neg (by simp [h, h2])]
theorem wipe_set {σ : L2.St} {j : Nat} {x : Option V} {vs : List Nat} (h : j ∈ vs) : L2.wipe (σ.set j x) vs = L2.wipe σ vs := by
  apply List.ext_getElem?
  intro i
  rw [wipe_get, wipe_get, List.length_set]
  by_cases h2 : i ∈ vs
  · rw [if_pos h2, if_pos h2]
  · rw [if_neg h2, if_neg h2, List.getElem?_set_ne (fun z => h2 (by rw [← z]; exact h))]
theorem wipe_wipe (σ : L2.St) (vs : List Nat) : L2.wipe (L2.wipe σ vs) vs = L2.wipe σ vs := by
  apply List.ext_getElem?
  intro i
  rw [wipe_get, L2.wipe_length]
  by_cases h2 : i ∈ vs
  · rw [if_pos h2, wipe_get, if_pos h2]
  · rw [if_neg h2]
theorem ag_name (i : Nat) {vs : List Nat} {x : Str} (hN : X.N.Nodup) (hi : X.N[i]? = some x := by rfl) (hx : Loc X.env.scope x := by exact Or.inl rfl) (hv : i ∈ vs := by decide) (hf : X.fn x = true ∨ X.env.scope.names.lookup x = some .local := by first | exact .inl rfl | exact .inr rfl) : AG B X (.Name x pos) vs (gName i) (aGName i) :=
  ⟨pg_name hN hi hx hf, fun v d σ s F C R H Q P hs hS r h k => k _ _ F C H (Ex.refl F) (hs.set r i) hS h, fun x σ H Q Q' h k => k _ _ (wipe_set hv) h⟩
abbrev AGs' := List D → ASt → AH → (ASt → AH → Prop) → Prop
def SimGs (B : Bs) (K : PySem.W.Frag) (g : TGs) (a : AGs') : Prop := ∀ (vs : List V) (ds : List D) (σ : L2.St) (s : ASt) (F : Hp) (C : AH) (R H : Hp) (Q : L2.St → Hp → Prop) (P : ASt → AH → Prop), Slo K F s σ → Sat B K F C R H → RepL K F vs ds → a ds s C P →
  (∀ s' σ' F' C' H', Ex F F' → Slo K F' s' σ' → Sat B K F' C' R H' → P s' C' → Q σ' H') → g vs σ H Q
structure AGs (B : Bs) (X : Cx) (es : List Expr) (vs : List Nat) (g : TGs) (a : AGs') : Prop where
  pg : PGs X es g
  sim : SimGs B X.K g a
  inn : ∀ xs σ H (Q Q' : L2.St → Hp → Prop), g xs σ H Q → (∀ σ2 H2, L2.wipe σ2 vs = L2.wipe σ vs → Q σ2 H2 → Q' σ2 H2) → g xs σ H Q'
def aGNil : AGs' := fun ds s C P => match ds with | [] => P s C | _ => False
def aGCons (g : AG') (r : AGs') : AGs' := fun ds s C P => match ds with | d :: ds => g d s C fun s' C' => r ds s' C' P | [] => False
theorem ags_nil {vs : List Nat} : AGs B X [] vs gNil aGNil := ⟨pgs_nil, fun vs ds σ s F C R H Q P hs hS r h k => by
  unfold aGNil at h
  split at h
  · cases r
    exact ⟨rfl, k s σ F C H (Ex.refl F) hs hS h⟩
  · exact h.elim, fun xs σ H Q Q' h k => ⟨h.1, k _ _ rfl h.2⟩⟩
theorem ags_cons {e : Expr} {es : List Expr} {vs : List Nat} {g : TG} {r : TGs} {a : AG'} {b : AGs'} (h1 : AG B X e vs g a) (h2 : AGs B X es vs r b) (hs : (assignEach (e :: es) X.env).map (·.2) = assign e X.env :: (assignEach es X.env).map (·.2) := by rfl) : AGs B X (e :: es) vs (gCons g r) (aGCons a b) :=
  ⟨pgs_cons h1.pg h2.pg hs, fun vs ds σ s F C R H Q P hs hS rr h k => by
    unfold aGCons at h
    split at h
    · cases rr with
      | cons r1 r2 =>
        refine ⟨_, _, rfl, ?_⟩
        refine h1.sim _ _ σ s F C R H _ _ hs hS r1 h fun s1 σ1 F1 C1 H1 e1 hs1 S1 q1 => ?_
        exact h2.sim _ _ σ1 s1 F1 C1 R H1 Q P hs1 S1 (r2.mono e1) q1 fun s2 σ2 F2 C2 H2 e2 => k s2 σ2 F2 C2 H2 (e1.trans e2)
    · exact h.elim, fun xs σ H Q Q' h k => by
    obtain ⟨v, r, e, h⟩ := h
    refine ⟨v, r, e, ?_⟩
    exact h1.inn v σ H _ _ h fun σ1 H1 w1 q => h2.inn r σ1 H1 _ _ q fun σ2 H2 w2 q2 => k σ2 H2 (w2.trans w1) q2⟩
def aGTup (n : Nat) (g : AGs') : AG' := fun d s C P => match d with | .tup ds => ds.length = n ∧ g ds s C P | _ => False
theorem ag_tup {es : List Expr} {k n : Nat} {vs : List Nat} {t : TGs} {a : AGs'} (h : AGs B X es vs t a) (hc : X.calm = true := by rfl) (hn : (assignEach es X.env).length = n := by rfl) (hst : (assignEach es X.env).findIdx? (·.1) = none := by rfl) (hK : X.K = K := by rfl) : AG B X (.Tuple es k pos) vs (gTup K n t) (aGTup n a) := by
  subst hK
  exact ⟨pg_tup hc h.pg hn hst, fun v d σ s F C R H Q P hs hS r h0 kk => by
    unfold aGTup at h0
    split at h0
    · cases r with
      | tup e q =>
        exact ⟨_, _, rfl, e.sq hS.ex, by rw [q.length]; exact h0.1, h.sim _ _ σ s F C R H Q P hs hS q h0.2 kk⟩
    · exact h0.elim, fun x σ H Q Q' h0 kk => by
    obtain ⟨a, xs, e, hq, hl, h0⟩ := h0
    exact ⟨a, xs, e, hq, hl, h.inn xs σ H _ _ h0 kk⟩⟩
/-- xs[i] = .., a list -/
def aGSet (o i : AE') : AG' := fun d s C P => o s C fun x C1 => i s C1 fun y C2 => match x, y with
  | .ce p, .int j => (match C2 p with | some (.lst us) => (match ixN us.length j with | some k => P s (put C2 p (.lst (us.set k d))) | none => False) | _ => False)
  | _, _ => False
theorem sim_set {to ti : TE} {ao ai : AE'} (ho : SimE B K to ao) (hi : SimE B K ti ai) : SimG B K (gSub to ti rSetL) (aGSet ao ai) := by
  intro v d σ s F C R H Q P hs hS r h k
  refine ho σ s F C R H _ _ hs hS h fun x w F1 C1 H1 e1 S1 r1 h1 => ?_
  refine hi σ s F1 C1 R H1 _ _ (hs.mono e1) S1 h1 fun y w2 F2 C2 H2 e2 S2 r2 h2 => ?_
  split at h2
  · cases r1
    cases r2
    split at h2
    · rename_i us e
      split at h2
      · rename_i j q
        obtain ⟨xs, h3, h4⟩ := cellL S2 e
        exact ⟨_, xs, _, j, rfl, rfl, h3, by rw [h4.length]; exact q, k s σ F2 _ _ (e1.trans e2) (hs.mono (e1.trans e2)) (S2.mutC e (.lst (h4.set (r.mono (e1.trans e2)) j))) h2⟩
      · exact h2.elim
    · exact h2.elim
  · exact h2.elim
def aNext : AS' := fun E s C => E.nx s C
def aSeq (a b : AS') : AS' := fun E s C => a { E with nx := b E } s C
theorem sim_next : SimS B K tNext aNext := fun D' E σ s F C R H hE hs hS h => hE.nx s σ F C H (Ex.refl F) hs hS h
theorem sim_seq {t u : TS} {a b : AS'} (ha : SimS B K t a) (hb : SimS B K u b) : SimS B K (tSeq t u) (aSeq a b) := fun D' E σ s F C R H hE hs hS h =>
  ha { D' with nx := u D' } { E with nx := b E } σ s F C R H ⟨fun s σ F' C' H' e hs S z => hb D' E σ s F' C' R H' (hE.mono e) hs S z, hE.rt, hE.bk, hE.ct⟩ hs hS h
theorem ass_nil : ASs B X [] tNext aNext := ⟨pss_nil, sim_next⟩
theorem ass_one {st : Stmt} {t : TS} {a : AS'} (h : AS B X st t a) : ASs B X [st] t a := ⟨pss_one h.ps, h.sim⟩
theorem ass_cons {st : Stmt} {rest : List Stmt} {t u : TS} {a b : AS'} (h : AS B X st t a) (g : ASs B X rest u b) : ASs B X (st :: rest) (tSeq t u) (aSeq a b) := ⟨pss_cons h.ps g.ps, sim_seq h.sim g.sim⟩
/-- a cell that is changed no more, in a slot -/
def aFrz (i : Nat) (a : AS') : AS' := fun E s C => match s[i]? with
  | some (some (.ce p)) => (match C p with | some (.lst ds) => a E (s.set i (some (.lst ds))) (del C p) | some (.dk es) => a E (s.set i (some (.dk es))) (del C p) | _ => False)
  | _ => False
theorem sim_frz {t : TS} {a : AS'} (i : Nat) (h : SimS B K t a) : SimS B K t (aFrz i a) := fun D' E σ s F C R H hE hs hS h0 => by
  unfold aFrz at h0
  split at h0
  · rename_i p e
    split at h0
    · rename_i ds e2
      obtain ⟨hF, o, h1, h2⟩ := hS.cell p _ e2
      have eN := Ex.new (o := o) hF
      refine h D' E σ _ (upd F p o) _ R H (hE.mono eN) ((hs.mono eN).reset e fun v r => ?_) (hS.freeze e2 h1) h0
      cases r
      cases h2 with
      | lst q => exact .lst upd_same (q.mono eN)
    · rename_i ds e2
      obtain ⟨hF, o, h1, h2⟩ := hS.cell p _ e2
      have eN := Ex.new (o := o) hF
      refine h D' E σ _ (upd F p o) _ R H (hE.mono eN) ((hs.mono eN).reset e fun v r => ?_) (hS.freeze e2 h1) h0
      cases r
      cases h2 with
      | dk q => exact .dk upd_same (q.mono eN)
    · exact h0.elim
  · exact h0.elim
theorem ass_frz {sts : List Stmt} {t : TS} {a : AS'} (i : Nat) (h : ASs B X sts t a) : ASs B X sts t (aFrz i a) := ⟨h.ps, sim_frz i h.sim⟩
def aAsg (e : AE') (g : AG') : AS' := fun E s C => e s C fun x C1 => g x s C1 E.nx
theorem sim_asg {te : TE} {g : TG} {a : AE'} {b : AG'} (ha : SimE B K te a) (hb : SimG B K g b) : SimS B K (tAsg te g) (aAsg a b) := fun D' E σ s F C R H hE hs hS h => by
  refine ha σ s F C R H _ _ hs hS h fun x v F1 C1 H1 e1 S1 r1 h1 => ?_
  exact hb v x σ s F1 C1 R H1 _ _ (hs.mono e1) S1 r1 h1 fun s2 σ2 F2 C2 H2 e2 hs2 S2 h2 => hE.nx s2 σ2 F2 C2 H2 (e1.trans e2) hs2 S2 h2
section
variable {e : Expr} {te : TE} {a : AE'}
theorem sim_name (i : Nat) : SimG B K (gName i) (aGName i) := fun v d σ s F C R H Q P hs hS r h k => k _ _ F C H (Ex.refl F) (hs.set r i) hS h
theorem as_set (i : Nat) {x : Str} {pos' : Pos} (hN : X.N.Nodup) (h : AE B X e te a) (hi : X.N[i]? = some x := by rfl) (hx : Loc X.env.scope x := by exact Or.inl rfl) (hs : swapsWith e (some (.Name x pos')) pos.line X.env = pure false := by rfl) (hf : X.fn x = true ∨ X.env.scope.names.lookup x = some .local := by first | exact .inl rfl | exact .inr rfl) :
    AS B X (.Assign [.Name x pos'] e pos) (tAsg te (gName i)) (aAsg a (aGName i)) := ⟨ps_set hN hi hx h.pe hs hf, sim_asg h.sim (sim_name i)⟩
theorem as_asg {tg : Expr} {vs : List Nat} {g : TG} {b : AG'} (h : AE B X e te a) (hg : AG B X tg vs g b) (hs : swapsWithSole [tg] e pos.line X.env = pure false := by rfl) (hw : swappedStores [tg] e X.env = pure none := by rfl)
    (h1 : (assignEach [tg] X.env).map (·.2) = [assign tg X.env] := by rfl) : AS B X (.Assign [tg] e pos) (tAsg te g) (aAsg a b) := ⟨ps_asg h.pe hg.pg hs hw h1, sim_asg h.sim hg.sim⟩
/-- xs[i] = e -/
theorem as_setL {o i : Expr} {to ti : TE} {ao ai : AE'} {p2 : Pos} (h : AE B X e te a) (ho : AE B X o to ao) (hi : AE B X i ti ai) (hs : swapsWithSole [.Subscript o i p2] e pos.line X.env = pure false := by rfl) (hw : swappedStores [.Subscript o i p2] e X.env = pure none := by rfl)
    (h1 : (assignEach [.Subscript o i p2] X.env).map (·.2) = [assign (.Subscript o i p2) X.env] := by rfl)
    (ha : ∀ v, assign (.Subscript o i p2) X.env v = (do
      let ov ← holding [v] (eval o X.env)
      let iv ← holding [v, ov] (eval i X.env)
      standAt p2
      holding [v, ov, iv] (setItem ov iv v)
      release [v, ov, iv] []) := by intro _; rfl) : AS B X (.Assign [.Subscript o i p2] e pos) (tAsg te (gSub to ti rSetL)) (aAsg a (aGSet ao ai)) :=
  ⟨ps_asg h.pe (pg_sub ho.pe hi.pe set_list ha) hs hw h1, sim_asg h.sim (sim_set ho.sim hi.sim)⟩
def aDrop (a : AE') : AS' := fun E s C => a s C fun _ C1 => E.nx s C1
theorem as_expr (h : AE B X e te a) (hs : swapsWith e none pos.line X.env = pure false := by rfl) : AS B X (.Expr e pos) (tDrop te) (aDrop a) := ⟨ps_expr h.pe hs, fun D' E σ s F C R H hE hs hS h0 => by
  exact h.sim σ s F C R H _ _ hs hS h0 fun x v F1 C1 H1 e1 S1 r1 h1 => hE.nx s σ F1 C1 H1 e1 (hs.mono e1) S1 h1⟩
def aRet (a : AE') : AS' := fun E s C => a s C E.rt
theorem as_ret (h : AE B X e te a) : AS B X (.Return (some e) pos) (tRet te) (aRet a) := ⟨ps_ret h.pe, fun D' E σ s F C R H hE hs hS h0 => by
  exact h.sim σ s F C R H _ _ hs hS h0 fun x v F1 C1 H1 e1 S1 r1 h1 => hE.rt x v F1 C1 H1 e1 r1 S1 h1⟩
end
def aRetN : AS' := fun E _ C => E.rt .non C
def aBrk : AS' := fun E s C => E.bk s C
theorem as_brk : AS B X (.Break pos) tBreak aBrk := ⟨ps_break, fun D' E σ s F C R H hE hs hS h => hE.bk s σ F C H (Ex.refl F) hs hS h⟩
def aIfS (c : AT') (a b : AS') : AS' := fun E s C => c s C fun t C1 => if t = true then a E s C1 else b E s C1
theorem as_if {c : Expr} {p q : List Stmt} {tc : TT} {t u : TS} {ac : AT'} {a b : AS'} (hc : AT B X c tc ac) (ha : ASs B X p t a) (hb : ASs B X q u b) : AS B X (.If c p q pos) (tIfS tc t u) (aIfS ac a b) := ⟨ps_if hc.pt ha.ps hb.ps, fun D' E σ s F C R H hE hs hS h0 => by
  refine hc.sim σ s F C R H _ _ hs hS h0 fun t F1 C1 H1 e1 S1 h1 => ?_
  cases t with
  | true => exact ha.sim D' E σ s F1 C1 R H1 (hE.mono e1) (hs.mono e1) S1 h1
  | false => exact hb.sim D' E σ s F1 C1 R H1 (hE.mono e1) (hs.mono e1) S1 h1⟩
def aFor (w : AI') (g : AG') (b : AS') : AS' := fun E s C => w s C fun items hold C1 => ∃ W : Nat → ASt → AH → Prop, W 0 s C1 ∧ (∀ i s' C', i ≤ items.length → W i s' C' → hold C') ∧
  (∀ i d s' C', items[i]? = some d → W i s' C' → g d s' C' fun s2 C2 => b { E with nx := W (i + 1), ct := W (i + 1), bk := E.nx } s2 C2) ∧ ∀ s' C', W items.length s' C' → E.nx s' C'
theorem sim_for {wi : TI} {g : TG} {tb : TS} {aw : AI'} {ag : AG'} {ab : AS'} (hi : SimI B K wi aw) (hg : SimG B K g ag) (hb : SimS B K tb ab) : SimS B K (tFor wi g tb) (aFor aw ag ab) := fun D' E σ s F C R H hE hs hS h => by
  refine hi σ s F C R H _ _ hs hS h fun items hold J F1 C1 H1 e1 S1 Wk h1 => ?_
  obtain ⟨W, h0, hh, hstep, hend⟩ := h1
  refine ⟨fun i m σ' H' => m = items.length - i ∧ i ≤ items.length ∧ ∃ s' F' C', Ex F1 F' ∧ Slo K F' s' σ' ∧ Sat B K F' C' R H' ∧ W i s' C', ⟨items.length, by simp, Nat.zero_le _, s, F1, C1, Ex.refl F1, hs.mono e1, S1, h0⟩, ?_⟩
  rintro i m σ' H' ⟨rfl, hi, s', F', C', e', hs', S', w⟩
  by_cases hlt : i < items.length
  · refine .inr ⟨Wk.go F' C' R H' i e' S' (hh i s' C' hi w) hlt, fun σ2 H2 => ∃ s2 F2 C2, Ex F1 F2 ∧ Slo K F2 s2 σ2 ∧ Sat B K F2 C2 R H2 ∧ W (i + 1) s2 C2, fun σ2 H2 z => ⟨items.length - (i + 1), by omega, rfl, hlt, z⟩, fun x H'' y => ?_⟩
    obtain ⟨d, F'', hd, e'', S'', r⟩ := Wk.yld F' C' R H' i x H'' e' S' (hh i s' C' hi w) hlt y
    refine hg x d σ' s' F'' C' R H'' _ _ (hs'.mono e'') S'' r (hstep i d s' C' hd w) fun s2 σ2 F2 C2 H2 e2 hs2 S2 h2 => ?_
    have eA : Ex F1 F2 := (e'.trans e'').trans e2
    refine hb _ { E with nx := W (i + 1), ct := W (i + 1), bk := E.nx } σ2 s2 F2 C2 R H2 ⟨fun s3 σ3 F3 C3 H3 e3 hs3 S3 z => ⟨s3, F3, C3, eA.trans e3, hs3, S3, z⟩, fun d v F3 C3 H3 e3 r3 S3 z => hE.rt d v F3 C3 H3 ((e1.trans eA).trans e3) r3 S3 z,
      fun s3 σ3 F3 C3 H3 e3 hs3 S3 z => hE.nx s3 σ3 F3 C3 H3 ((e1.trans eA).trans e3) hs3 S3 z, fun s3 σ3 F3 C3 H3 e3 hs3 S3 z => ⟨s3, F3, C3, eA.trans e3, hs3, S3, z⟩⟩ hs2 S2 h2
  · have e : i = items.length := by omega
    subst e
    exact .inl ⟨Wk.stop F' C' R H' e' S' (hh _ s' C' (Nat.le_refl _) w), hE.nx s' σ' F' C' H' (e1.trans e') hs' S' (hend s' C' w)⟩
theorem as_for {tg iter : Expr} {body : List Stmt} {wi : TI} {vs : List Nat} {g : TG} {tb : TS} {aw : AI'} {ag : AG'} {ab : AS'} (hi : AI B X tg iter wi aw) (hg : AG B X tg vs g ag) (hb : ASs B X body tb ab) (hp : PassesOwn (model X.prog X.w) X.A X.env X.xe := by exact PassesOwn.never) (hc : X.calm = true := by rfl)
    (hs : ∀ x, foldedSetIterable iter X.env x = pure x := by intro _; rfl) : AS B X (.For tg iter body [] pos) (tFor wi g tb) (aFor aw ag ab) := ⟨ps_for hp hc hi.pi hg.pg hb.ps hs, sim_for hi.sim hg.sim hb.sim⟩
def aWhile (c : AT') (b : AS') : AS' := fun E s C => ∃ W : Nat → ASt → AH → Prop, (∃ m, W m s C) ∧ ∀ m s' C', W m s' C' → c s' C' fun t C1 => if t = true then b { E with nx := fun s2 C2 => ∃ m', m' < m ∧ W m' s2 C2, ct := fun s2 C2 => ∃ m', m' < m ∧ W m' s2 C2, bk := E.nx } s' C1 else E.nx s' C1
theorem sim_while {tc : TT} {tb : TS} {ac : AT'} {ab : AS'} (hc : SimT B K tc ac) (hb : SimS B K tb ab) : SimS B K (tWhile tc tb) (aWhile ac ab) := fun D' E σ s F C R H hE hs hS h => by
  obtain ⟨W, ⟨m0, h0⟩, hstep⟩ := h
  refine ⟨fun m σ' H' => ∃ s' F' C', Ex F F' ∧ Slo K F' s' σ' ∧ Sat B K F' C' R H' ∧ W m s' C', ⟨m0, s, F, C, Ex.refl F, hs, hS, h0⟩, ?_⟩
  rintro m σ' H' ⟨s', F', C', e', hs', S', w⟩
  refine hc σ' s' F' C' R H' _ _ hs' S' (hstep m s' C' w) fun t F1 C1 H1 e1 S1 h1 => ?_
  have eA : Ex F F1 := e'.trans e1
  cases t with
  | true =>
    refine ⟨fun σ2 H2 => ∃ m', m' < m ∧ ∃ s2 F2 C2, Ex F F2 ∧ Slo K F2 s2 σ2 ∧ Sat B K F2 C2 R H2 ∧ W m' s2 C2, fun σ2 H2 z => z, ?_⟩
    refine hb _ { E with nx := fun s2 C2 => ∃ m', m' < m ∧ W m' s2 C2, ct := fun s2 C2 => ∃ m', m' < m ∧ W m' s2 C2, bk := E.nx } σ' s' F1 C1 R H1 ⟨fun s3 σ3 F3 C3 H3 e3 hs3 S3 z => ?_, fun d v F3 C3 H3 e3 r3 S3 z => hE.rt d v F3 C3 H3 (eA.trans e3) r3 S3 z,
      fun s3 σ3 F3 C3 H3 e3 hs3 S3 z => hE.nx s3 σ3 F3 C3 H3 (eA.trans e3) hs3 S3 z, fun s3 σ3 F3 C3 H3 e3 hs3 S3 z => ?_⟩ (hs'.mono e1) S1 h1
    · obtain ⟨m', hm, z⟩ := z
      exact ⟨m', hm, s3, F3, C3, eA.trans e3, hs3, S3, z⟩
    · obtain ⟨m', hm, z⟩ := z
      exact ⟨m', hm, s3, F3, C3, eA.trans e3, hs3, S3, z⟩
  | false => exact hE.nx s' σ' F1 C1 H1 eA (hs'.mono e1) S1 h1
theorem as_while {c : Expr} {body : List Stmt} {tc : TT} {tb : TS} {ac : AT'} {ab : AS'} (hc : AT B X c tc ac) (hb : ASs B X body tb ab) (hp : PassesOwn (model X.prog X.w) X.A X.env X.xe := by exact PassesOwn.never) : AS B X (.While c body [] pos) (tWhile tc tb) (aWhile ac ab) := ⟨ps_while hp hc.pt hb.ps, sim_while hc.sim hb.sim⟩
def aYes : AT' := fun _ C P => P true C
theorem ats_nil : ATs B X [] tYes aYes := ⟨pts_nil, fun σ s F C R H Q P hs hS h k => k true F C H (Ex.refl F) hS h⟩
theorem ats_one {c : Expr} {t : TT} {a : AT'} (h : AT B X c t a) : ATs B X [c] t a := ⟨pts_one h.pt, h.sim⟩
/-- the list as it is made; fin: what becomes of it -/
def aLcW (w : AI') (g : AG') (t : AT') (e : AE') (vs : List Nat) (fin : List D → AH → Prop) : ASt → AH → Prop := fun s C => w s C fun items hold C1 => items.length ≤ sizeLine ∧ ∃ W : Nat → List D → AH → Prop, W 0 [] C1 ∧ (∀ i acc C', i ≤ items.length → W i acc C' → hold C') ∧
  (∀ i d acc C', items[i]? = some d → W i acc C' → g d (wipeA s vs) C' fun s2 C2 => t s2 C2 fun b C3 => if b = true then e s2 C3 fun y C4 => W (i + 1) (acc ++ [y]) C4 else W (i + 1) acc C3) ∧ ∀ acc C', W items.length acc C' → fin acc C'
def aLc (w : AI') (g : AG') (t : AT') (e : AE') (vs : List Nat) : AE' := fun s C P => aLcW w g t e vs (fun acc C' => P (.lst acc) C') s C
def aLcM (w : AI') (g : AG') (t : AT') (e : AE') (vs : List Nat) : AE' := fun s C P => aLcW w g t e vs (fun acc C' => ∀ p, C' p = none → P (.ce p) (put C' p (.lst acc))) s C
theorem lc_sim {wi : TI} {g : TG} {tt : TT} {te : TE} {vs : List Nat} {aw : AI'} {ag : AG'} {at' : AT'} {ae : AE'} {fin : List D → AH → Prop} (hi : SimI B K wi aw) (hg : SimG B K g ag) (hin : GIn vs g) (ht : SimT B K tt at') (he : SimE B K te ae)
    {σ : L2.St} {s : ASt} {F : Hp} {C : AH} {R H : Hp} {Q : VK} (hs : Slo K F s σ) (hS : Sat B K F C R H) (h : aLcW aw ag at' ae vs fin s C)
    (k : ∀ Dl acc accD F' C' H', Ex F F' → R Dl = none → Sat B K F' C' (upd R Dl (.lst acc)) H' → RepL K F' acc accD → fin accD C' → Q (.ref Dl) H') : tLc wi g tt te vs σ H Q := by
  refine hi σ s F C R H _ _ hs hS h fun items hold J F1 C1 H1 e1 S1 Wk h1 => ?_
  obtain ⟨hz, W, h0, hh, hstep, hend⟩ := h1
  intro Dl hD
  have hR := S1.freeR hD
  refine ⟨fun i m H' => m = items.length - i ∧ i ≤ items.length ∧ ∃ F' C' acc accD, Ex F1 F' ∧ Sat B K F' C' (upd R Dl (.lst acc)) H' ∧ RepL K F' acc accD ∧ accD.length ≤ i ∧ W i accD C',
    ⟨items.length, by simp, Nat.zero_le _, F1, C1, [], [], Ex.refl F1, S1.setR (S1.freeF hD) (S1.freeC hD) (S1.freeB hR) _, .nil, Nat.le_refl _, h0⟩, ?_⟩
  rintro i m H' ⟨rfl, hi, F', C', acc, accD, e', S', ra, hl, w⟩
  by_cases hlt : i < items.length
  · refine .inr ⟨Wk.go F' C' _ H' i e' S' (hh i accD C' hi w) hlt, fun H2 => ∃ F2 C2 acc accD, Ex F1 F2 ∧ Sat B K F2 C2 (upd R Dl (.lst acc)) H2 ∧ RepL K F2 acc accD ∧ accD.length ≤ i + 1 ∧ W (i + 1) accD C2, fun H2 z => ⟨items.length - (i + 1), by omega, rfl, hlt, z⟩, fun x H'' y => ?_⟩
    obtain ⟨d, F'', hd, e'', S'', r⟩ := Wk.yld F' C' _ H' i x H'' e' S' (hh i accD C' hi w) hlt y
    refine hin x _ H'' (fun σ2 H2 => tt σ2 H2 fun b H3 => if b = true then te σ2 H3 fun y H4 => ∃ acc, H4 Dl = some (.lst acc) ∧ acc.length < sizeLine ∧ ∃ F2 C2 acc2 accD, Ex F1 F2 ∧ Sat B K F2 C2 (upd R Dl (.lst acc2)) (upd H4 Dl (.lst (acc ++ [y]))) ∧ RepL K F2 acc2 accD ∧ accD.length ≤ i + 1 ∧ W (i + 1) accD C2
      else ∃ F2 C2 acc accD, Ex F1 F2 ∧ Sat B K F2 C2 (upd R Dl (.lst acc)) H3 ∧ RepL K F2 acc accD ∧ accD.length ≤ i + 1 ∧ W (i + 1) accD C2) _ ?_ fun σ2 H2 w2 q => ⟨w2.trans (wipe_wipe σ vs), q⟩
    refine hg x d _ (wipeA s vs) F'' C' _ H'' _ _ ((hs.mono ((e1.trans e').trans e'')).wipe vs) S'' r (hstep i d accD C' hd w) fun s2 σ2 F2 C2 H2 e2 hs2 S2 h2 => ?_
    refine ht σ2 s2 F2 C2 _ H2 _ _ hs2 S2 h2 fun b F3 C3 H3 e3 S3 h3 => ?_
    have eA : Ex F' F3 := (e''.trans e2).trans e3
    cases b with
    | true =>
      refine he σ2 s2 F3 C3 _ H3 _ _ (hs2.mono e3) S3 h3 fun y v F4 C4 H4 e4 S4 r4 h4 => ?_
      obtain ⟨f4, c4, d4⟩ := S4.priv Dl _ upd_same
      refine ⟨acc, d4, ?_, F4, C4, acc ++ [v], accD ++ [y], (e'.trans eA).trans e4, ?_, (ra.mono (eA.trans e4)).append (.cons r4 .nil), by rw [List.length_append]; exact Nat.succ_le_succ hl, h4⟩
      · rw [ra.length]; omega
      · have := S4.setR f4 c4 (S1.freeB hR) (.lst (acc ++ [v]))
        rw [upd_upd] at this
        exact this
    | false => exact ⟨F3, C3, acc, accD, e'.trans eA, S3, ra.mono eA, Nat.le_succ_of_le hl, h3⟩
  · have e : i = items.length := by omega
    subst e
    exact .inl ⟨Wk.stop F' C' _ H' e' S' (hh _ accD C' (Nat.le_refl _) w), k Dl acc accD F' C' H' (e1.trans e') hR S' ra (hend accD C' w)⟩
theorem sim_lc {wi : TI} {g : TG} {tt : TT} {te : TE} {vs : List Nat} {aw : AI'} {ag : AG'} {at' : AT'} {ae : AE'} (hi : SimI B K wi aw) (hg : SimG B K g ag) (hin : GIn vs g) (ht : SimT B K tt at') (he : SimE B K te ae) : SimE B K (tLc wi g tt te vs) (aLc aw ag at' ae vs) := fun σ s F C R H Q P hs hS h k => by
  refine lc_sim hi hg hin ht he hs hS h fun Dl acc accD F' C' H' e1 hR S r h1 => ?_
  have eN := Ex.new (o := .lst acc) (S.priv Dl _ upd_same).1
  exact k _ _ _ C' H' (e1.trans eN) (S.outF hR (hS.freeB hR)) (.lst upd_same (r.mono eN)) h1
theorem sim_lcM {wi : TI} {g : TG} {tt : TT} {te : TE} {vs : List Nat} {aw : AI'} {ag : AG'} {at' : AT'} {ae : AE'} (hi : SimI B K wi aw) (hg : SimG B K g ag) (hin : GIn vs g) (ht : SimT B K tt at') (he : SimE B K te ae) : SimE B K (tLc wi g tt te vs) (aLcM aw ag at' ae vs) := fun σ s F C R H Q P hs hS h k => by
  refine lc_sim hi hg hin ht he hs hS h fun Dl acc accD F' C' H' e1 hR S r h1 => ?_
  exact k _ _ F' _ H' e1 (S.outC hR (hS.freeB hR) (.lst r)) (.ce Dl) (h1 Dl (S.priv Dl _ upd_same).2.1)
section
variable {elt tg iter : Expr} {ifs : List Expr} {scope : Scope} {own : List (Str × Nat)} {wi : TI} {g : TG} {tt : TT} {te : TE} {aw : AI'} {ag : AG'} {at' : AT'} {ae : AE'}
theorem ae_lc (own : List (Str × Nat)) (hN : X.N.Nodup) (hi : AI B X tg iter wi aw) (ok : BlkOk X.N X.env.scope scope own)
    (hg : ∀ (s : Shared) (H : Hp) (C : Addr) (cl : List (Str × Addr)) (fp : List Addr), AG B (X.blk s H scope (compEnvC scope cl C X.env) fp) tg (own.map (·.2)) g ag) (ht : ∀ (s : Shared) (H : Hp) (C : Addr) (cl : List (Str × Addr)) (fp : List Addr), ATs B (X.blk s H scope (compEnvC scope cl C X.env) fp) ifs tt at')
    (he : ∀ (s : Shared) (H : Hp) (C : Addr) (cl : List (Str × Addr)) (fp : List Addr), AE B (X.blk s H scope (compEnvC scope cl C X.env) fp) elt te ae) (hc : X.calm = true := by rfl) (hs : ∀ x, foldedSetIterable iter X.env x = pure x := by intro _; rfl) :
    AE B X (.ListComp elt [⟨tg, iter, ifs, 0⟩] scope pos) (tLc wi g tt te (own.map (·.2))) (aLc aw ag at' ae (own.map (·.2))) :=
  ⟨pe_lc hc hN hi.pi ok (fun s H C cl fp => (hg s H C cl fp).pg) (fun s H C cl fp => (ht s H C cl fp).pts) (fun s H C cl fp => (he s H C cl fp).pe) hs,
    let G := hg X.s_0 (fun _ => none) 0 [] []
    sim_lc hi.sim G.sim G.inn (ht X.s_0 (fun _ => none) 0 [] []).sim (he X.s_0 (fun _ => none) 0 [] []).sim⟩
/-- name = [..] -/
theorem as_setLc (i : Nat) (own : List (Str × Nat)) {y : Str} {py spos : Pos} (hN : X.N.Nodup) (hi : AI B X tg iter wi aw) (hsw : swapsWith (.ListComp elt [⟨tg, iter, ifs, 0⟩] scope pos) (some (.Name y py)) spos.line X.env = pure true) (ok : BlkOk X.N X.env.scope scope own)
    (hg : ∀ (s : Shared) (H : Hp) (C : Addr) (cl : List (Str × Addr)) (fp : List Addr), AG B (X.blk s H scope (compEnvC scope cl C X.env) fp) tg (own.map (·.2)) g ag) (ht : ∀ (s : Shared) (H : Hp) (C : Addr) (cl : List (Str × Addr)) (fp : List Addr), ATs B (X.blk s H scope (compEnvC scope cl C X.env) fp) ifs tt at')
    (he : ∀ (s : Shared) (H : Hp) (C : Addr) (cl : List (Str × Addr)) (fp : List Addr), AE B (X.blk s H scope (compEnvC scope cl C X.env) fp) elt te ae) (hy : X.N[i]? = some y := by rfl) (hyl : X.env.scope.names.lookup y = some .local := by rfl) (hc : X.calm = true := by rfl) (hs : ∀ x, foldedSetIterable iter X.env x = pure x := by intro _; rfl) :
    AS B X (.Assign [.Name y py] (.ListComp elt [⟨tg, iter, ifs, 0⟩] scope pos) spos) (tAsg (tLc wi g tt te (own.map (·.2))) (gName i)) (aAsg (aLc aw ag at' ae (own.map (·.2))) (aGName i)) :=
  ⟨ps_setLc hc hN hy hyl hsw hi.pi ok (fun s H C cl fp => (hg s H C cl fp).pg) (fun s H C cl fp => (ht s H C cl fp).pts) (fun s H C cl fp => (he s H C cl fp).pe) hs,
    let G := hg X.s_0 (fun _ => none) 0 [] []
    sim_asg (sim_lc hi.sim G.sim G.inn (ht X.s_0 (fun _ => none) 0 [] []).sim (he X.s_0 (fun _ => none) 0 [] []).sim) (sim_name i)⟩
theorem as_setLcM (i : Nat) (own : List (Str × Nat)) {y : Str} {py spos : Pos} (hN : X.N.Nodup) (hi : AI B X tg iter wi aw) (hsw : swapsWith (.ListComp elt [⟨tg, iter, ifs, 0⟩] scope pos) (some (.Name y py)) spos.line X.env = pure true) (ok : BlkOk X.N X.env.scope scope own)
    (hg : ∀ (s : Shared) (H : Hp) (C : Addr) (cl : List (Str × Addr)) (fp : List Addr), AG B (X.blk s H scope (compEnvC scope cl C X.env) fp) tg (own.map (·.2)) g ag) (ht : ∀ (s : Shared) (H : Hp) (C : Addr) (cl : List (Str × Addr)) (fp : List Addr), ATs B (X.blk s H scope (compEnvC scope cl C X.env) fp) ifs tt at')
    (he : ∀ (s : Shared) (H : Hp) (C : Addr) (cl : List (Str × Addr)) (fp : List Addr), AE B (X.blk s H scope (compEnvC scope cl C X.env) fp) elt te ae) (hy : X.N[i]? = some y := by rfl) (hyl : X.env.scope.names.lookup y = some .local := by rfl) (hc : X.calm = true := by rfl) (hs : ∀ x, foldedSetIterable iter X.env x = pure x := by intro _; rfl) :
    AS B X (.Assign [.Name y py] (.ListComp elt [⟨tg, iter, ifs, 0⟩] scope pos) spos) (tAsg (tLc wi g tt te (own.map (·.2))) (gName i)) (aAsg (aLcM aw ag at' ae (own.map (·.2))) (aGName i)) :=
  ⟨ps_setLc hc hN hy hyl hsw hi.pi ok (fun s H C cl fp => (hg s H C cl fp).pg) (fun s H C cl fp => (ht s H C cl fp).pts) (fun s H C cl fp => (he s H C cl fp).pe) hs,
    let G := hg X.s_0 (fun _ => none) 0 [] []
    sim_asg (sim_lcM hi.sim G.sim G.inn (ht X.s_0 (fun _ => none) 0 [] []).sim (he X.s_0 (fun _ => none) 0 [] []).sim) (sim_name i)⟩
end
end
end AL
namespace AL
open PySem PySem.Spec L2
variable {B : Bs}
theorem law_sp {asp : ASp} {n : Nat} (h : ∀ ns : List Int, ns.length ≤ n → asp [.scr ns] (fun _ => none) (fun d _ => d = .bl true)) (w : Gd) (K : PySem.W.Frag) (H : Hp) (a : Addr) (ns : List Int) (hn : ns.length ≤ n) (hS : SqL K H a (ns.map V.int)) :
    spOf w K 1 asp [.ref a] H (fun v _ => v = .bl true) fun _ _ _ => False := by
  refine ⟨rfl, H, fun _ => none, fun _ => none, [.scr ns], fun d _ => d = .bl true, ⟨fun _ _ z => (by cases z), fun _ _ z => (by cases z), Ex.refl H, fun _ _ z => (by cases z), fun _ _ z => (by cases z)⟩, .cons (.scr hS) .nil, h ns hn, fun d v F' C' H' _ _ r e => ?_⟩
  subst e
  cases r
  rfl
end AL
namespace AL
open PySem L2
theorem atI_nat' {α : Type} {xs : List α} {i : Nat} {x : α} (h : xs[i]? = some x) : atI xs (i : Int) = some x := by
  have hi := (List.getElem?_eq_some_iff.mp h).1
  unfold atI ixN
  rw [if_pos (by omega), if_pos (by omega)]
  simpa using h
section
variable {a b : AS'} {nx : ASt → AH → Prop} {rt : D → AH → Prop} {bk ct : ASt → AH → Prop} {s : ASt} {C : AH} {e e1 e2 e3 : AE'} {t t1 t2 : AT'} {g : AG'} {P : D → AH → Prop} {PB : Bool → AH → Prop} {PA : List D → AH → Prop} {w : AI'} {aa : AA'}
theorem g_body' {n : Nat} {ds : List D} {s : ASt} (h0 : ds.map some ++ List.replicate (n - ds.length) none = s) (h : a ⟨fun _ C' => P .non C', P, fun _ _ => False, fun _ _ => False⟩ s C) : aBody n a ds C P := by
  subst h0
  exact h
theorem g_gname' {i : Nat} {d : D} {Q : ASt → AH → Prop} {s' : ASt} (h0 : s.set i (some d) = s') (h : Q s' C) : aGName i d s C Q := by
  subst h0
  exact h
theorem g_seq (h : a ⟨b ⟨nx, rt, bk, ct⟩, rt, bk, ct⟩ s C) : aSeq a b ⟨nx, rt, bk, ct⟩ s C := h
theorem g_next (h : nx s C) : aNext ⟨nx, rt, bk, ct⟩ s C := h
theorem g_asg (h : e s C fun x C1 => g x s C1 nx) : aAsg e g ⟨nx, rt, bk, ct⟩ s C := h
theorem g_drop (h : e s C fun _ C1 => nx s C1) : aDrop e ⟨nx, rt, bk, ct⟩ s C := h
theorem g_ret (h : e s C rt) : aRet e ⟨nx, rt, bk, ct⟩ s C := h
theorem g_retN (h : rt .non C) : aRetN ⟨nx, rt, bk, ct⟩ s C := h
theorem g_ifS (h : t s C fun k C1 => if k = true then a ⟨nx, rt, bk, ct⟩ s C1 else b ⟨nx, rt, bk, ct⟩ s C1) : aIfS t a b ⟨nx, rt, bk, ct⟩ s C := h
theorem g_ifF (ht : ∀ K : Bool → AH → Prop, K false C → t s C K) (h : b ⟨nx, rt, bk, ct⟩ s C) : aIfS t a b ⟨nx, rt, bk, ct⟩ s C := ht _ h
theorem g_ifT (ht : ∀ K : Bool → AH → Prop, K true C → t s C K) (h : a ⟨nx, rt, bk, ct⟩ s C) : aIfS t a b ⟨nx, rt, bk, ct⟩ s C := ht _ h
/-- the cells may have turned -/
theorem g_ifFC {Z : AH → Prop} (ht : ∀ K : Bool → AH → Prop, (∀ C', Z C' → K false C') → t s C K) (h : ∀ C', Z C' → b ⟨nx, rt, bk, ct⟩ s C') : aIfS t a b ⟨nx, rt, bk, ct⟩ s C := ht _ h
theorem g_ifJ (M : ASt → AH → Prop) (h : ∀ N : ASt → AH → Prop, (∀ s' C', M s' C' → N s' C') → aIfS t a b ⟨N, rt, bk, ct⟩ s C) (k : ∀ s' C', M s' C' → nx s' C') : aIfS t a b ⟨nx, rt, bk, ct⟩ s C := h nx k
theorem g_gtup {n : Nat} {ds : List D} {gs : AGs'} {Q : ASt → AH → Prop} (hn : ds.length = n) (h : gs ds s C Q) : aGTup n gs (.tup ds) s C Q := ⟨hn, h⟩
theorem g_gcons {d : D} {ds : List D} {gs : AGs'} {Q : ASt → AH → Prop} (h : g d s C fun s' C' => gs ds s' C' Q) : aGCons g gs (d :: ds) s C Q := h
theorem g_gnil {Q : ASt → AH → Prop} (h : Q s C) : aGNil [] s C Q := h
def kSet (p : Addr) (d : D) (s : ASt) (Q : ASt → AH → Prop) : D → AH → Prop := fun y C2 => match y with | .int j => (match C2 p with | some (.lst us) => (match ixN us.length j with | some k => Q s (put C2 p (.lst (us.set k d))) | none => False) | _ => False) | _ => False
/-- xs[i] = d, xs a name's cell -/
theorem g_gsetV {i : Nat} {d : D} {p : Addr} {Q : ASt → AH → Prop} (hi : s[i]? = some (some (.ce p))) (h : e2 s C (kSet p d s Q)) : aGSet (aVar i) e2 d s C Q := by
  unfold aGSet aVar
  rw [hi]
  refine (congrArg (e2 s C) ?_).mpr h
  funext y C2
  cases y <;> rfl
theorem g_kSet {j : Int} {p : Addr} {us : List D} {k : Nat} {d : D} {Q : ASt → AH → Prop} (h1 : C p = some (.lst us)) (h2 : ixN us.length j = some k) (h : Q s (put C p (.lst (us.set k d)))) : kSet p d s Q (.int j) C := by
  unfold kSet
  simp only [h1, h2]
  exact h
theorem g_frzL {i : Nat} {p : Addr} {ds : List D} {E : AEnds} (h0 : s[i]? = some (some (.ce p))) (h1 : C p = some (.lst ds)) (h : a E (s.set i (some (.lst ds))) (del C p)) : aFrz i a E s C := by
  unfold aFrz
  rw [h0]
  show (match C p with | some (.lst ds) => a E (s.set i (some (.lst ds))) (del C p) | some (.dk es) => a E (s.set i (some (.dk es))) (del C p) | _ => False)
  rw [h1]
  exact h
theorem g_frzK {i : Nat} {p : Addr} {ds : List (Key × D)} {E : AEnds} (h0 : s[i]? = some (some (.ce p))) (h1 : C p = some (.dk ds)) (h : a E (s.set i (some (.dk ds))) (del C p)) : aFrz i a E s C := by
  unfold aFrz
  rw [h0]
  show (match C p with | some (.lst ds) => a E (s.set i (some (.lst ds))) (del C p) | some (.dk es) => a E (s.set i (some (.dk es))) (del C p) | _ => False)
  rw [h1]
  exact h
theorem g_var {i : Nat} {d : D} (hi : s[i]? = some (some d)) (h : P d C) : aVar i s C P := by
  unfold aVar
  rw [hi]
  exact h
theorem g_yes (h : PB true C) : aYes s C PB := h
theorem g_c {d : D} (h : P d C) : aC d s C P := h
theorem g_op {r : D → D → AH → (D → AH → Prop) → Prop} (h : e1 s C fun x C1 => e2 s C1 fun y C2 => r x y C2 P) : aOp r e1 e2 s C P := h
theorem g_un {r : D → AH → (D → AH → Prop) → Prop} (h : e1 s C fun x C1 => r x C1 P) : aUn r e1 s C P := h
theorem g_sub {i j : Int} (h : P (.int (i - j)) C) : aSub (.int i) (.int j) C P := h
theorem g_lt {i j : Int} (h : P (.bl (decide (i < j))) C) : aLt (.int i) (.int j) C P := h
theorem g_le {i j : Int} (h : P (.bl (decide (i ≤ j))) C) : aLe (.int i) (.int j) C P := h
theorem g_gt {i j : Int} (h : P (.bl (decide (j < i))) C) : aGt (.int i) (.int j) C P := h
theorem g_ge {i j : Int} (h : P (.bl (decide (j ≤ i))) C) : aGe (.int i) (.int j) C P := h
theorem g_mul {i j : Int} (h1 : CMul i j) (h : P (.int (i * j)) C) : aMul (.int i) (.int j) C P := ⟨h1, h⟩
theorem g_div {i j : Int} (h1 : CDiv i j) (h : P (.int (i / j)) C) : aDiv (.int i) (.int j) C P := ⟨h1, h⟩
theorem g_mod {i j : Int} (h1 : 0 < j) (h : P (.int (i % j)) C) : aMod (.int i) (.int j) C P := ⟨h1, h⟩
theorem g_pow {i j : Int} (h1 : CPow i j) (h : P (.int (i ^ j.toNat)) C) : aPow (.int i) (.int j) C P := ⟨h1, h⟩
theorem g_addI {i j : Int} (h : P (.int (i + j)) C) : aAdd (.int i) (.int j) C P := h
theorem g_addS {i j : Str} (h1 : i.length + j.length ≤ sizeLine) (h : P (.str (i ++ j)) C) : aAdd (.str i) (.str j) C P := ⟨h1, h⟩
theorem g_addT {i j : List D} (h1 : i.length + j.length ≤ sizeLine) (h : P (.tup (i ++ j)) C) : aAdd (.tup i) (.tup j) C P := ⟨h1, h⟩
theorem g_addL {i j : List D} (h1 : i.length + j.length ≤ sizeLine) (h : P (.lst (i ++ j)) C) : aAdd (.lst i) (.lst j) C P := ⟨i, j, rfl, rfl, h1, h⟩
theorem g_eqII {i j : Int} (h : P (.bl (decide (i = j))) C) : aEq (.int i) (.int j) C P := h
theorem g_neII {i j : Int} (h : P (.bl (!decide (i = j))) C) : aNe (.int i) (.int j) C P := h
theorem g_eqBB {i j : Bool} (h : P (.bl (decide (i = j))) C) : aEq (.bl i) (.bl j) C P := h
theorem g_neBB {i j : Bool} (h : P (.bl (!decide (i = j))) C) : aNe (.bl i) (.bl j) C P := h
theorem g_eqTT {i j : Str} (h : P (.bl (decide (i = j))) C) : aEq (.str i) (.str j) C P := h
theorem g_neTT {i j : Str} (h : P (.bl (!decide (i = j))) C) : aNe (.str i) (.str j) C P := h
theorem g_eqP {x y : D} {u v : PyData} (h0 : eqS x y = none) (h1 : pdC C x = some u) (h2 : pdC C y = some v) (h3 : SeqAt.shaped u = true) (h4 : SeqAt.shaped v = true) (h : P (.bl (PyData.eqv u v)) C) : aEq x y C P := by
  unfold aEq aEqN
  rw [h0]
  exact ⟨u, v, h1, h2, h3, h4, h⟩
theorem g_is {x : D} (h : P (.bl (isNon x)) C) : aIsN x .non C P := ⟨rfl, h⟩
theorem g_isnot {x : D} (h : P (.bl (!isNon x)) C) : aNotN x .non C P := ⟨rfl, h⟩
def kTru (PB : Bool → AH → Prop) : D → AH → Prop := fun x C1 => match truth C1 x with | some b => PB b C1 | none => False
theorem g_tru (h : e s C (kTru PB)) : aTru e s C PB := h
theorem g_kTruB {k : Bool} (h : PB k C) : kTru PB (.bl k) C := h
def kB (PB : Bool → AH → Prop) : D → AH → Prop := fun x C1 => match x with | .bl b => PB b C1 | _ => False
theorem g_B (h : e s C (kB PB)) : aB e s C PB := h
theorem g_kB {k : Bool} (h : PB k C) : kB PB (.bl k) C := h
theorem g_and (h : t1 s C fun c C1 => if c = true then t2 s C1 PB else PB false C1) : aAnd t1 t2 s C PB := h
theorem g_or (h : t1 s C fun c C1 => if c = true then PB true C1 else t2 s C1 PB) : aOr t1 t2 s C PB := h
theorem g_not (h : t1 s C fun c C1 => PB (!c) C1) : aNot t1 s C PB := h
def kAndV (e2 : AE') (s : ASt) (P : D → AH → Prop) : D → AH → Prop := fun x C1 => match truth C1 x with | some true => e2 s C1 P | some false => P x C1 | none => False
def kOrV (e2 : AE') (s : ASt) (P : D → AH → Prop) : D → AH → Prop := fun x C1 => match truth C1 x with | some true => P x C1 | some false => e2 s C1 P | none => False
def kNotV (P : D → AH → Prop) : D → AH → Prop := fun x C1 => match truth C1 x with | some b => P (.bl (!b)) C1 | none => False
theorem g_andV (h : e1 s C (kAndV e2 s P)) : aAndV e1 e2 s C P := h
theorem g_orV (h : e1 s C (kOrV e2 s P)) : aOrV e1 e2 s C P := h
theorem g_notV (h : e1 s C (kNotV P)) : aNotV e1 s C P := h
theorem g_kAnd {k : Bool} (h1 : k = true → e2 s C P) (h2 : k = false → P (.bl false) C) : kAndV e2 s P (.bl k) C := by
  cases k
  · exact h2 rfl
  · exact h1 rfl
theorem g_kNot {k : Bool} (h : P (.bl (!k)) C) : kNotV P (.bl k) C := h
theorem g_if (h : t s C fun c C1 => if c = true then e1 s C1 P else e2 s C1 P) : aIf t e1 e2 s C P := h
theorem g_ite {A B : Prop} {k : Bool} (h1 : k = true → A) (h2 : k = false → B) : if k = true then A else B := by
  cases k
  · exact h2 rfl
  · exact h1 rfl
theorem g_iteD {A B : Prop} {p : Prop} [Decidable p] (h1 : p → A) (h2 : ¬ p → B) : if decide p = true then A else B := by
  by_cases h : p
  · rw [decide_eq_true h]; exact h1 h
  · rw [decide_eq_false h]; exact h2 h
theorem g_iteT {A B : Prop} (h : A) : if true = true then A else B := h
theorem g_iteF {A B : Prop} (h : B) : if false = true then A else B := h
theorem g_iteNT {A B : Prop} (h : B) : if (!true) = true then A else B := h
theorem g_iteNF {A B : Prop} (h : A) : if (!false) = true then A else B := h
theorem g_nil (h : PA [] C) : aNil s C PA := h
theorem g_cons (h : e s C fun x C1 => aa s C1 fun xs C2 => PA (x :: xs) C2) : aCons e aa s C PA := h
theorem g_tup (h : aa s C fun ds C1 => ds.length ≤ sizeLine ∧ P (.tup ds) C1) : aTup aa s C P := h
theorem g_lst (h : aa s C fun ds C1 => ds.length ≤ sizeLine ∧ P (.lst ds) C1) : aLst aa s C P := h
theorem g_lstM (h : aa s C fun ds C1 => ds.length ≤ sizeLine ∧ ∀ p, C1 p = none → P (.ce p) (put C1 p (.lst ds))) : aLstM aa s C P := h
theorem g_call {asp : ASp} (h : aa s C fun ds C1 => asp ds C1 P) : aCall asp aa s C P := h
def kIsi (T : String) (P : D → AH → Prop) : D → AH → Prop := fun x C1 => match kindOf C1 x with | some t => P (.bl (isT T t)) C1 | none => False
theorem g_isi {T : String} (h : e s C (kIsi T P)) : aIsi T e s C P := h
theorem g_kIsiI {T : String} {i : Int} (h : P (.bl (isT T "int")) C) : kIsi T P (.int i) C := h
theorem g_kIsiB {T : String} {i : Bool} (h : P (.bl (isT T "bool")) C) : kIsi T P (.bl i) C := h
theorem g_kIsiN {T : String} (h : P (.bl (isT T "NoneType")) C) : kIsi T P .non C := h
theorem g_kIsiS {T : String} {i : Str} (h : P (.bl (isT T "str")) C) : kIsi T P (.str i) C := h
theorem g_kIsiL {T : String} {i : List D} (h : P (.bl (isT T "list")) C) : kIsi T P (.lst i) C := h
theorem g_kIsiT {T : String} {i : List D} (h : P (.bl (isT T "tuple")) C) : kIsi T P (.tup i) C := h
theorem g_kIsiK {T : String} {i : List (Key × D)} (h : P (.bl (isT T "dict")) C) : kIsi T P (.dk i) C := h
theorem g_meth {T : String} {m : D → ASp} (h : e s C fun x C1 => isTy T C1 x = true ∧ aa s C1 fun ds C2 => m x ds C2 P) : aMeth T m e aa s C P := h
theorem g_meth0 {T : String} {m : D → ASp} (h : e s C fun x C1 => isTy T C1 x = true ∧ m x [] C1 P) : aMeth0 T m e s C P := h
theorem g_append {p : Addr} {us : List D} {d : D} (h1 : C p = some (.lst us)) (h2 : us.length < sizeLine) (h : P .non (put C p (.lst (us ++ [d])))) : aAppend (.ce p) [d] C P := by
  unfold aAppend
  show (match C p with | some (.lst us) => us.length < sizeLine ∧ P .non (put C p (.lst (us ++ [d]))) | _ => False)
  rw [h1]
  exact ⟨h2, h⟩
theorem isTy_ce {T : String} {p : Addr} {us : List D} (h1 : C p = some (.lst us)) (h2 : T = "list") : isTy T C (.ce p) = true := by
  subst h2
  simp [isTy, h1]
theorem g_ixL {us : List D} {i : Int} {d : D} (h1 : atI us i = some d) (h : P d C) : aIx (.lst us) (.int i) C P := by
  show (match atI us i with | some d => P d C | none => False)
  rw [h1]; exact h
theorem g_ixT {us : List D} {i : Int} {d : D} (h1 : atI us i = some d) (h : P d C) : aIx (.tup us) (.int i) C P := by
  show (match atI us i with | some d => P d C | none => False)
  rw [h1]; exact h
theorem g_ixL0 {d : D} {us : List D} (h : P d C) : aIx (.lst (d :: us)) (.int 0) C P := g_ixL (atI_nat' (i := 0) rfl) h
theorem g_ixL1 {a d : D} {us : List D} (h : P d C) : aIx (.lst (a :: d :: us)) (.int 1) C P := g_ixL (atI_nat' (i := 1) rfl) h
theorem g_ixL2 {a b d : D} {us : List D} (h : P d C) : aIx (.lst (a :: b :: d :: us)) (.int 2) C P := g_ixL (atI_nat' (i := 2) rfl) h
theorem g_ixT0 {d : D} {us : List D} (h : P d C) : aIx (.tup (d :: us)) (.int 0) C P := g_ixT (atI_nat' (i := 0) rfl) h
theorem g_ixT1 {a d : D} {us : List D} (h : P d C) : aIx (.tup (a :: d :: us)) (.int 1) C P := g_ixT (atI_nat' (i := 1) rfl) h
theorem g_ixT2 {a b d : D} {us : List D} (h : P d C) : aIx (.tup (a :: b :: d :: us)) (.int 2) C P := g_ixT (atI_nat' (i := 2) rfl) h
theorem g_ixT3 {a b c d : D} {us : List D} (h : P d C) : aIx (.tup (a :: b :: c :: d :: us)) (.int 3) C P := g_ixT (atI_nat' (i := 3) rfl) h
theorem g_ixR {ns : List Int} {i : Int} {d : D} (h1 : atI (ns.map D.int) i = some d) (h : P d C) : aIx (.scr ns) (.int i) C P := by
  show (match atI (ns.map D.int) i with | some d => P d C | none => False)
  rw [h1]; exact h
theorem g_ixC {p : Addr} {us : List D} {i : Int} (h0 : C p = some (.lst us)) (h : aIx (.lst us) (.int i) C P) : aIx (.ce p) (.int i) C P := by
  show (match (match C p with | some (.lst us) => some us | _ => none) with | some ds => (match atI ds i with | some d => P d C | none => False) | none => False)
  rw [h0]
  exact h
theorem g_lenL {us : List D} (h : P (.int us.length) C) : aLen [.lst us] C P := h
theorem g_lenT {us : List D} (h : P (.int us.length) C) : aLen [.tup us] C P := h
theorem g_lenS {z : Str} (h1 : z.length ≤ sizeLine) (h : P (.int z.length) C) : aLen [.str z] C P := ⟨h1, h⟩
theorem g_lenR {ns : List Int} (h : P (.int ns.length) C) : aLen [.scr ns] C P := by
  show P (.int (ns.map D.int).length) C
  rw [List.length_map]; exact h
theorem g_lenC {p : Addr} {us : List D} (h0 : C p = some (.lst us)) (h : P (.int us.length) C) : aLen [.ce p] C P := by
  show (match C p with | some (.lst us) => P (.int us.length) C | some (.dk us) => P (.int us.length) C | _ => False)
  rw [h0]; exact h
theorem g_abs {i : Int} (h : P (.int (if i < 0 then -i else i)) C) : aAbs [.int i] C P := h
theorem g_max2 {i j : Int} (h : P (.int (if j > i then j else i)) C) : aMax2 [.int i, .int j] C P := h
theorem g_min2 {i j : Int} (h : P (.int (if j < i then j else i)) C) : aMin2 [.int i, .int j] C P := h
theorem g_intI {i : Int} (h : P (.int i) C) : aInt [.int i] C P := h
theorem g_intB {k : Bool} (h : P (.int (if k then 1 else 0)) C) : aInt [.bl k] C P := h
theorem g_listL {us : List D} (h : P (.lst us) C) : aListOf [.lst us] C P := h
theorem g_listT {us : List D} (h : P (.lst us) C) : aListOf [.tup us] C P := h
theorem g_tupleL {us : List D} (h : P (.tup us) C) : aTupleOf [.lst us] C P := h
theorem g_tupleT {us : List D} (h : P (.tup us) C) : aTupleOf [.tup us] C P := h
theorem g_any {us : List D} {bs : List Bool} (h1 : blsD us = some bs) (h : P (.bl (bs.any id)) C) : aAny [.lst us] C P := by
  show (match (some us).bind blsD with | some bs => P (.bl (bs.any id)) C | none => False)
  rw [Option.bind_some, h1]; exact h
theorem g_rev {us : List D} (h : P (.lst us.reverse) C) : aRev (.lst us) C P := h
variable {PI : List D → (AH → Prop) → AH → Prop}
def kIL (PI : List D → (AH → Prop) → AH → Prop) : D → AH → Prop := fun x C1 => match asLr C1 x with | some ds => PI ds (fun C' => asLr C' x = some ds) C1 | none => False
theorem g_il (h : e s C (kIL PI)) : aIL e s C PI := h
theorem g_kIL {us : List D} (h : PI us (fun _ => True) C) (e : ∀ C' : AH, asLr C' (.lst us) = some us) (m : (fun _ : AH => True) = fun C' : AH => asLr C' (.lst us) = some us) : kIL PI (.lst us) C := by
  show PI us (fun C' => asLr C' (.lst us) = some us) C
  rw [← m]
  exact h
theorem g_kILl {us : List D} (h : PI us (fun _ => True) C) : kIL PI (.lst us) C := g_kIL h (fun _ => rfl) (by funext C'; simp [asLr, asL])
theorem g_kILr {ns : List Int} (h : PI (ns.map D.int) (fun _ => True) C) : kIL PI (.scr ns) C := by
  show PI (ns.map D.int) (fun C' => asLr C' (.scr ns) = some (ns.map D.int)) C
  have m : (fun _ : AH => True) = fun C' : AH => asLr C' (.scr ns) = some (ns.map D.int) := by funext C'; simp [asLr]
  rw [← m]
  exact h
theorem g_kILc {p : Addr} {us : List D} (h0 : C p = some (.lst us)) (h : PI us (fun C' => C' p = some (.lst us)) C) (m : ∀ h1 h2 : AH → Prop, (∀ C, h1 C → h2 C) → PI us h1 C → PI us h2 C) : kIL PI (.ce p) C := by
  have e : ∀ C' : AH, C' p = some (.lst us) → asLr C' (.ce p) = some us := fun C' h => by simp [asLr, asL, h]
  show (match asLr C (.ce p) with | some ds => PI ds (fun C' => asLr C' (.ce p) = some ds) C | none => False)
  rw [e C h0]
  exact m _ _ e h
def kIT (PI : List D → (AH → Prop) → AH → Prop) : D → AH → Prop := fun x C1 => match asT x with | some ds => PI ds (fun _ => True) C1 | none => False
theorem g_it (h : e s C (kIT PI)) : aIT e s C PI := h
theorem g_kIT {us : List D} (h : PI us (fun _ => True) C) : kIT PI (.tup us) C := h
def kIS (PI : List D → (AH → Prop) → AH → Prop) : D → AH → Prop := fun x C1 => match x with | .str z => PI (signs z) (fun _ => True) C1 | _ => False
theorem g_is' (h : e s C (kIS PI)) : aIS e s C PI := h
theorem g_kIS {z : Str} (h : PI (signs z) (fun _ => True) C) : kIS PI (.str z) C := h
def kIR1 (PI : List D → (AH → Prop) → AH → Prop) : List D → AH → Prop := fun ds C1 => match ds with | [.int j] => -(2 ^ 62) ≤ j ∧ j < 2 ^ 62 ∧ PI (rangeD 0 j.toNat) (fun _ => True) C1 | _ => False
theorem g_ir1 (h : aa s C (kIR1 PI)) : aIR1 aa s C PI := h
theorem g_kIR1 {j : Int} (h1 : -(2 ^ 62) ≤ j) (h2 : j < 2 ^ 62) (h : PI (rangeD 0 j.toNat) (fun _ => True) C) : kIR1 PI [.int j] C := ⟨h1, h2, h⟩
def kIR2 (PI : List D → (AH → Prop) → AH → Prop) : List D → AH → Prop := fun ds C1 => match ds with | [.int i, .int j] => (-(2 ^ 62) ≤ i ∧ i < 2 ^ 62 ∧ -(2 ^ 62) ≤ j ∧ j < 2 ^ 62) ∧ PI (rangeD i (j - i).toNat) (fun _ => True) C1 | _ => False
theorem g_ir2 (h : aa s C (kIR2 PI)) : aIR2 aa s C PI := h
theorem g_kIR2 {i j : Int} (h1 : -(2 ^ 62) ≤ i ∧ i < 2 ^ 62 ∧ -(2 ^ 62) ≤ j ∧ j < 2 ^ 62) (h : PI (rangeD i (j - i).toNat) (fun _ => True) C) : kIR2 PI [.int i, .int j] C := ⟨h1, h⟩
def kIE (PI : List D → (AH → Prop) → AH → Prop) : List D → AH → Prop := fun us C1 => match us with | [x] => (match asLr C1 x with | some ds => PI (enumD ds) (fun C' => asLr C' x = some ds) C1 | none => False) | _ => False
theorem g_ie (h : aa s C (kIE PI)) : aIE aa s C PI := h
theorem g_kIE {us : List D} (h : PI (enumD us) (fun _ => True) C) : kIE PI [.lst us] C := by
  show PI (enumD us) (fun C' => asLr C' (.lst us) = some us) C
  have m : (fun _ : AH => True) = fun C' : AH => asLr C' (.lst us) = some us := by funext C'; simp [asLr, asL]
  rw [← m]
  exact h
def kIZ (PI : List D → (AH → Prop) → AH → Prop) : List D → AH → Prop := fun us C1 => match us with | [x, y] => (match asLr C1 x, asLr C1 y with | some ds, some es => PI (zipD ds es) (fun C' => asLr C' x = some ds ∧ asLr C' y = some es) C1 | _, _ => False) | _ => False
theorem g_iz (h : aa s C (kIZ PI)) : aIZ aa s C PI := h
theorem g_kIZ {us ws : List D} (h : PI (zipD us ws) (fun _ => True) C) : kIZ PI [.lst us, .lst ws] C := by
  show PI (zipD us ws) (fun C' => asLr C' (.lst us) = some us ∧ asLr C' (.lst ws) = some ws) C
  have m : (fun _ : AH => True) = fun C' : AH => asLr C' (.lst us) = some us ∧ asLr C' (.lst ws) = some ws := by funext C'; simp [asLr, asL]
  rw [← m]
  exact h
/-- a loop whose items are known -/
def kFor (g : AG') (ab : AS') (nx : ASt → AH → Prop) (rt : D → AH → Prop) (s : ASt) : List D → (AH → Prop) → AH → Prop := fun items hold C => ∃ W : Nat → ASt → AH → Prop, W 0 s C ∧ (∀ i s' C', i ≤ items.length → W i s' C' → hold C') ∧
  (∀ i d s' C', items[i]? = some d → W i s' C' → g d s' C' fun s2 C2 => ab ⟨W (i + 1), rt, nx, W (i + 1)⟩ s2 C2) ∧ ∀ s' C', W items.length s' C' → nx s' C'
theorem g_for {ab : AS'} (h : w s C (kFor g ab nx rt s)) : aFor w g ab ⟨nx, rt, bk, ct⟩ s C := h
theorem g_kFor {ab : AS'} {items : List D} (W : Nat → ASt → AH → Prop) (h0 : W 0 s C)
    (hs : ∀ i d s' C', items[i]? = some d → W i s' C' → g d s' C' fun s2 C2 => ab ⟨W (i + 1), rt, nx, W (i + 1)⟩ s2 C2) (hd : ∀ s' C', W items.length s' C' → nx s' C') : kFor g ab nx rt s items (fun _ => True) C :=
  ⟨W, h0, fun _ _ _ _ _ => trivial, hs, hd⟩
/-- over a range -/
theorem g_kForR {ab : AS'} {lo : Int} {n j : Nat} (W : Nat → ASt → AH → Prop) (h0 : W 0 s C)
    (hs : ∀ (i : Nat) s' C', i < n → W i s' C' → ab ⟨W (i + 1), rt, nx, W (i + 1)⟩ (s'.set j (some (.int (lo + i)))) C') (hd : ∀ s' C', W n s' C' → nx s' C') : kFor (aGName j) ab nx rt s (rangeD lo n) (fun _ => True) C := by
  refine g_kFor W h0 (fun i d s' C' hi hw => ?_) (fun s' C' hw => hd s' C' (by rw [rangeD_len] at hw; exact hw))
  have hl : i < n := by
    have := (List.getElem?_eq_some_iff.mp hi).1
    rw [rangeD_len] at this
    exact this
  rw [rangeD_get hl] at hi
  cases hi
  exact hs i s' C' hl hw
theorem g_kForR0 {ab : AS'} {n j : Nat} (W : Nat → ASt → AH → Prop) (h0 : W 0 s C)
    (hs : ∀ (i : Nat) s' C', i < n → W i s' C' → ab ⟨W (i + 1), rt, nx, W (i + 1)⟩ (s'.set j (some (.int (i : Int)))) C') (hd : ∀ s' C', W n s' C' → nx s' C') : kFor (aGName j) ab nx rt s (rangeD 0 n) (fun _ => True) C :=
  g_kForR W h0 (fun i s' C' hi w => by rw [Int.zero_add]; exact hs i s' C' hi w) hd
/-- over a list of which something is known of each item -/
theorem g_kForL {ab : AS'} {items : List D} {j : Nat} (W : Nat → ASt → AH → Prop) (h0 : W 0 s C)
    (hs : ∀ (i : Nat) d s' C', items[i]? = some d → W i s' C' → ab ⟨W (i + 1), rt, nx, W (i + 1)⟩ (s'.set j (some d)) C') (hd : ∀ s' C', W items.length s' C' → nx s' C') : kFor (aGName j) ab nx rt s items (fun _ => True) C := g_kFor W h0 hs hd
theorem g_while {t : AT'} {ab : AS'} (W : Nat → ASt → AH → Prop) (m : Nat) (h0 : W m s C) (hs : ∀ m s' C', W m s' C' → t s' C' fun k C1 => if k = true then ab ⟨fun s2 C2 => ∃ m', m' < m ∧ W m' s2 C2, rt, nx, fun s2 C2 => ∃ m', m' < m ∧ W m' s2 C2⟩ s' C1 else nx s' C1) : aWhile t ab ⟨nx, rt, bk, ct⟩ s C := ⟨W, ⟨m, h0⟩, hs⟩
def kLc (g : AG') (t : AT') (e : AE') (vs : List Nat) (fin : List D → AH → Prop) (s : ASt) : List D → (AH → Prop) → AH → Prop := fun items hold C1 => items.length ≤ sizeLine ∧ ∃ W : Nat → List D → AH → Prop, W 0 [] C1 ∧ (∀ i acc C', i ≤ items.length → W i acc C' → hold C') ∧
  (∀ i d acc C', items[i]? = some d → W i acc C' → g d (wipeA s vs) C' fun s2 C2 => t s2 C2 fun b C3 => if b = true then e s2 C3 fun y C4 => W (i + 1) (acc ++ [y]) C4 else W (i + 1) acc C3) ∧ ∀ acc C', W items.length acc C' → fin acc C'
theorem g_lc {t : AT'} {vs : List Nat} (h : w s C (kLc g t e vs (fun acc C' => P (.lst acc) C') s)) : aLc w g t e vs s C P := h
theorem g_lcM {t : AT'} {vs : List Nat} (h : w s C (kLc g t e vs (fun acc C' => ∀ p, C' p = none → P (.ce p) (put C' p (.lst acc))) s)) : aLcM w g t e vs s C P := h
theorem g_kLc {t : AT'} {vs : List Nat} {fin : List D → AH → Prop} {items : List D} (W : Nat → List D → AH → Prop) (hl : items.length ≤ sizeLine) (h0 : W 0 [] C)
    (hs : ∀ i d acc C', items[i]? = some d → W i acc C' → g d (wipeA s vs) C' fun s2 C2 => t s2 C2 fun b C3 => if b = true then e s2 C3 fun y C4 => W (i + 1) (acc ++ [y]) C4 else W (i + 1) acc C3) (hd : ∀ acc C', W items.length acc C' → fin acc C') : kLc g t e vs fin s items (fun _ => True) C :=
  ⟨hl, W, h0, fun _ _ _ _ _ => trivial, hs, hd⟩
theorem kLc_mono {t : AT'} {vs : List Nat} {fin : List D → AH → Prop} {items : List D} {h1 h2 : AH → Prop} (m : ∀ C, h1 C → h2 C) (h : kLc g t e vs fin s items h1 C) : kLc g t e vs fin s items h2 C := by
  obtain ⟨l, W, a, b, c, d⟩ := h
  exact ⟨l, W, a, fun i s' C' hi hw => m _ (b i s' C' hi hw), c, d⟩
/-- [f x for x in items], each as it stands, the cells stay -/
theorem g_kLcMap {vs : List Nat} {fin : List D → AH → Prop} {items : List D} {j : Nat} (f : D → D) (hl : items.length ≤ sizeLine) (hs : ∀ d, d ∈ items → ∀ R : D → AH → Prop, R (f d) C → e ((wipeA s vs).set j (some d)) C R) (hd : fin (items.map f) C) : kLc (aGName j) aYes e vs fin s items (fun _ => True) C := by
  refine g_kLc (fun i acc C' => acc = (items.take i).map f ∧ C' = C) hl ⟨rfl, rfl⟩ (fun i d acc C' hi hw => ?_) (fun acc C' hw => ?_)
  · obtain ⟨rfl, rfl⟩ := hw
    refine hs d (List.mem_of_getElem? hi) _ ⟨?_, rfl⟩
    rw [List.take_add_one, hi, List.map_append]
    rfl
  · obtain ⟨rfl, rfl⟩ := hw
    rw [List.take_length]
    exact hd
theorem g_kLcFilter {t : AT'} {vs : List Nat} {fin : List D → AH → Prop} {items : List D} {j : Nat} (p : D → Bool) (f : D → D) (hl : items.length ≤ sizeLine) (ht : ∀ d, d ∈ items → ∀ R : Bool → AH → Prop, R (p d) C → t ((wipeA s vs).set j (some d)) C R) (hs : ∀ d, d ∈ items → p d = true → ∀ R : D → AH → Prop, R (f d) C → e ((wipeA s vs).set j (some d)) C R) (hd : fin ((items.filter p).map f) C) : kLc (aGName j) t e vs fin s items (fun _ => True) C := by
  refine g_kLc (fun i acc C' => acc = ((items.take i).filter p).map f ∧ C' = C) hl ⟨rfl, rfl⟩ (fun i d acc C' hi hw => ?_) (fun acc C' hw => ?_)
  · obtain ⟨rfl, rfl⟩ := hw
    refine ht d (List.mem_of_getElem? hi) _ ?_
    rw [List.take_add_one, hi, List.filter_append, List.map_append]
    by_cases hp : p d = true
    · rw [if_pos hp]
      refine hs d (List.mem_of_getElem? hi) hp _ ⟨?_, rfl⟩
      simp [hp]
    · rw [if_neg hp]
      refine ⟨?_, rfl⟩
      simp [hp]
  · obtain ⟨rfl, rfl⟩ := hw
    rw [List.take_length]
    exact hd
end
theorem g_sz {n : Nat} {A : Prop} (h1 : n ≤ sizeLine) (h : A) : n ≤ sizeLine ∧ A := ⟨h1, h⟩
theorem g_ty {T : String} {C : AH} {d : D} {A : Prop} (h1 : isTy T C d = true) (h : A) : isTy T C d = true ∧ A := ⟨h1, h⟩
theorem ne_cell {C : AH} {p q : Addr} {c : Cell} (h : C p = some c) (g : C q = none) : p ≠ q := fun z => by rw [z, g] at h; cases h
theorem put_other {C : AH} {p q : Addr} {o : Option Cell} {d : Cell} (hn : p ≠ q) (h : C p = o) : put C q d p = o := by rw [put_ne hn]; exact h
theorem del_other {C : AH} {p q : Addr} {o : Option Cell} (hn : p ≠ q) (h : C p = o) : del C q p = o := by unfold del; rw [if_neg hn]; exact h
end AL
namespace AL
open PySem L2
mutual
def okD : D → Nat → Bool
  | .non, _ => true
  | .bl _, _ => true
  | .int _, _ => true
  | .str x, _ => x.cps.all (· < 0x110000)
  | .lst ds, n + 1 => okL ds n
  | .tup ds, n + 1 => okL ds n
  | _, _ => false
def okL : List D → Nat → Bool
  | [], _ => true
  | d :: ds, n => okD d n && okL ds n
end
theorem okL_all {ds : List D} {n : Nat} : okL ds n = true ↔ ∀ d ∈ ds, okD d n = true := by
  induction ds with
  | nil => simp [okL]
  | cons d ds ih => simp [okL, ih]
mutual
theorem okD_pd : ∀ (d : D) (n : Nat), okD d n = true → ∃ x, d.pd = some x ∧ x.canLay0 = true ∧ x.depth ≤ n
  | .non, n, _ => ⟨.none, by simp [D.pd], by simp [PyData.canLay0], by simp [PyData.depth]⟩
  | .bl b, n, _ => ⟨.bool b, by simp [D.pd], by simp [PyData.canLay0], by simp [PyData.depth]⟩
  | .int i, n, _ => ⟨.int i, by simp [D.pd], by simp [PyData.canLay0], by simp [PyData.depth]⟩
  | .str x, n, h => ⟨.str x, by simp [D.pd], by simpa [PyData.canLay0, PyData.strOk, okD] using h, by simp [PyData.depth]⟩
  | .lst ds, 0, h => by simp [okD] at h
  | .lst ds, n + 1, h => by
    obtain ⟨xs, h1, h2, h3⟩ := okL_pd ds n (by simpa [okD] using h)
    exact ⟨.list xs, by simp [D.pd, h1], by simpa [PyData.canLay0] using h2, by simp [PyData.depth]; omega⟩
  | .tup ds, 0, h => by simp [okD] at h
  | .tup ds, n + 1, h => by
    obtain ⟨xs, h1, h2, h3⟩ := okL_pd ds n (by simpa [okD] using h)
    exact ⟨.tuple xs, by simp [D.pd, h1], by simpa [PyData.canLay0] using h2, by simp [PyData.depth]; omega⟩
  | .dk _, _, h => by simp [okD] at h
  | .scr _, _, h => by simp [okD] at h
  | .ce _, _, h => by simp [okD] at h
theorem okL_pd : ∀ (ds : List D) (n : Nat), okL ds n = true → ∃ xs, pdL ds = some xs ∧ PyData.canLayAll0 xs = true ∧ PyData.depthAll xs ≤ n
  | [], n, _ => ⟨[], by simp [pdL], by simp [PyData.canLayAll0], by simp [PyData.depthAll]⟩
  | d :: ds, n, h => by
    simp only [okL, Bool.and_eq_true] at h
    obtain ⟨x, a1, a2, a3⟩ := okD_pd d n h.1
    obtain ⟨xs, b1, b2, b3⟩ := okL_pd ds n h.2
    exact ⟨x :: xs, by simp [pdL, a1, b1], by simp [PyData.canLayAll0, a2, b2], by simp [PyData.depthAll]; omega⟩
end
theorem okD_shaped {d : D} {n : Nat} (h : okD d n = true) (hn : n ≤ 64) : ∃ x, d.pd = some x ∧ SeqAt.shaped x = true ∧ PyData.eqv x x = true := by
  obtain ⟨x, h1, h2, h3⟩ := okD_pd d n h
  refine ⟨x, h1, ?_, SeqAt.eqv_refl x h2⟩
  unfold SeqAt.shaped
  rw [h2, decide_eq_true (show x.depth ≤ 64 by omega)]
  rfl
theorem pdC_ok' {C : AH} {d : D} {n : Nat} (h : okD d n = true) : pdC C d = d.pd := by
  cases d <;> first | rfl | (simp [okD] at h)
theorem okD_lst {ds : List D} {n : Nat} (h : ∀ d ∈ ds, okD d n = true) : okD (.lst ds) (n + 1) = true := by
  simp only [okD]; exact okL_all.mpr h
def oD : Option Nat → D
  | none => .non
  | some n => .int (n : Int)
@[simp] theorem okD_oD (o : Option Nat) (n : Nat) : okD (oD o) n = true := by cases o <;> simp [oD, okD]
/-- sg signs; every stand that is led to is there -/
structure Mach (sg : Nat) (ends : List Bool) (goes : List (List (Option Nat))) : Prop where
  len : ends.length = goes.length
  pos : 0 < ends.length
  most : ends.length ≤ 1000
  row : ∀ r ∈ goes, r.length = sg
  go : ∀ r ∈ goes, ∀ t, some t ∈ r → t < ends.length
def stepO (goes : List (List (Option Nat))) (s : Option Nat) (n : Nat) : Option Nat := match s with
  | none => none
  | some t => match goes[t]? with
    | some r => (match r[n]? with | some o => o | none => none)
    | none => none
def runO (goes : List (List (Option Nat))) (s : Option Nat) (row : List Nat) : Option Nat := row.foldl (stepO goes) s
def inn (n : Nat) (s : Option Nat) : Prop := ∀ t, s = some t → t < n
theorem Mach.step {sg : Nat} {ends : List Bool} {goes : List (List (Option Nat))} (M : Mach sg ends goes) {s : Option Nat} {n : Nat} (hs : inn ends.length s) (hn : n < sg) : inn ends.length (stepO goes s n) := by
  intro t ht
  cases s with
  | none => cases ht
  | some u =>
    have hu := hs u rfl
    have hu' : u < goes.length := by rw [← M.len]; exact hu
    have hr := M.row goes[u] (List.getElem_mem hu')
    simp only [stepO, List.getElem?_eq_getElem hu', List.getElem?_eq_getElem (show n < goes[u].length by rw [hr]; exact hn)] at ht
    exact M.go goes[u] (List.getElem_mem hu') t (by rw [← ht]; exact List.getElem_mem _)
theorem Mach.run {sg : Nat} {ends : List Bool} {goes : List (List (Option Nat))} (M : Mach sg ends goes) : ∀ (row : List Nat) {s : Option Nat}, inn ends.length s → (∀ n ∈ row, n < sg) → inn ends.length (runO goes s row)
  | [], _, hs, _ => hs
  | n :: row, _, hs, hr => M.run row (M.step hs (hr n (List.mem_cons_self))) fun k hk => hr k (List.mem_cons_of_mem _ hk)
end AL
namespace AL
open PySem L2
abbrev natsD (row : List Nat) : List D := row.map fun (n : Nat) => D.int (n : Int)
theorem natsD_get {row : List Nat} {i : Nat} {d : D} (h : (natsD row)[i]? = some d) : ∃ hi : i < row.length, d = .int (row[i] : Nat) := by
  unfold natsD at h
  rw [List.getElem?_map] at h
  cases q : row[i]? with
  | none => rw [q] at h; cases h
  | some n =>
    rw [q] at h
    obtain ⟨hi, e⟩ := List.getElem?_eq_some_iff.mp q
    cases h
    exact ⟨hi, by rw [e]⟩
@[simp] theorem natsD_len (row : List Nat) : (natsD row).length = row.length := by unfold natsD; rw [List.length_map]
end AL
namespace AL
open PySem PySem.Spec L2
variable {B : Bs}
def keyOf : D → Option Key
  | .int i => some (.inl i)
  | .str x => some (.inr x)
  | _ => none
def valD (es : List (Key × D)) (k : Key) : Option D := (es.find? fun kv => decide (kv.1 = k)).map (·.2)
def putD (es : List (Key × D)) (k : Key) (d : D) : List (Key × D) :=
  if (es.any fun kv => decide (kv.1 = k)) = true then es.map (fun kv => if kv.1 = k then (kv.1, d) else kv) else es ++ [(k, d)]
def asK (C : AH) : D → Option (List (Key × D))
  | .dk es => some es
  | .ce p => (match C p with | some (.dk es) => some es | _ => none)
  | _ => none
section
variable {K : PySem.W.Frag} {F F' : Hp} {C : AH} {R H : Hp}
theorem keyOf_ok {v : V} {d : D} {k : Key} (r : Rep K F v d) (h : keyOf d = some k) : v = kV k := by
  cases r <;> simp [keyOf] at h <;> subst h <;> rfl
theorem RepK.val (k : Key) : ∀ {vs : List (Key × V)} {ds : List (Key × D)}, RepK K F vs ds → (match valD ds k with | some d => ∃ v, valV vs k = some v ∧ Rep K F v d | none => valV vs k = none)
  | _, _, .nil => rfl
  | (j, v) :: vs, (_, d) :: ds, .cons r t => by
    have ih := RepK.val k t
    unfold valD valV at ih ⊢
    by_cases e : j = k
    · subst e
      simp only [List.find?_cons, decide_true, Option.map_some]
      exact ⟨v, rfl, r⟩
    · simp only [List.find?_cons, decide_eq_false e]
      exact ih
theorem RepK.any (k : Key) : ∀ {vs : List (Key × V)} {ds : List (Key × D)}, RepK K F vs ds → (vs.any fun kv => decide (kv.1 = k)) = ds.any fun kv => decide (kv.1 = k)
  | _, _, .nil => rfl
  | _, _, .cons r t => by rw [List.any_cons, List.any_cons, RepK.any k t]
theorem RepK.repl (k : Key) {v : V} {d : D} (r : Rep K F v d) : ∀ {vs : List (Key × V)} {ds : List (Key × D)}, RepK K F vs ds → RepK K F (vs.map fun kv => if kv.1 = k then (kv.1, v) else kv) (ds.map fun kv => if kv.1 = k then (kv.1, d) else kv)
  | _, _, .nil => .nil
  | (j, _) :: _, _, .cons q t => by
    rw [List.map_cons, List.map_cons]
    by_cases e : j = k
    · rw [if_pos e, if_pos e]; exact .cons r (RepK.repl k r t)
    · rw [if_neg e, if_neg e]; exact .cons q (RepK.repl k r t)
theorem RepK.snoc (k : Key) {v : V} {d : D} (r : Rep K F v d) : ∀ {vs : List (Key × V)} {ds : List (Key × D)}, RepK K F vs ds → RepK K F (vs ++ [(k, v)]) (ds ++ [(k, d)])
  | _, _, .nil => .cons r .nil
  | _, _, .cons q t => .cons q (RepK.snoc k r t)
theorem RepK.put (k : Key) {v : V} {d : D} (r : Rep K F v d) {vs : List (Key × V)} {ds : List (Key × D)} (h : RepK K F vs ds) : RepK K F (putK vs k v) (putD ds k d) := by
  unfold putK putD
  rw [RepK.any k h]
  split
  · exact RepK.repl k r h
  · exact RepK.snoc k r h
theorem asK_ok {v : V} {d : D} {es : List (Key × D)} (hS : Sat B K F C R H) (r : Rep K F v d) (h : asK C d = some es) : ∃ a kvs, v = .ref a ∧ H a = some (.dK kvs) ∧ RepK K F kvs es := by
  cases d with
  | dk e =>
    cases h
    cases r with
    | dk h1 h2 => exact ⟨_, _, rfl, hS.ex _ _ h1, h2⟩
  | ce p =>
    cases r
    have h : (match C p with | some (.dk es) => some es | _ => none) = some es := h
    cases q : C p with
    | none => rw [q] at h; cases h
    | some c =>
      rw [q] at h
      obtain ⟨_, o, h1, h2⟩ := hS.cell p c q
      cases c with
      | dk e =>
        cases h
        cases h2 with
        | dk h3 => exact ⟨p, _, rfl, h1, h3⟩
      | _ => cases h
  | _ => cases h
end
/-- d[k] -/
def aGetK (o i : AE') : AE' := fun s C P => o s C fun x C1 => i s C1 fun y C2 => match asK C2 x, keyOf y with
  | some es, some k => (match valD es k with | some d => P d C2 | none => False)
  | _, _ => False
theorem sim_getK {K : PySem.W.Frag} {to ti : TE} {ao ai : AE'} (ho : SimE B K to ao) (hi : SimE B K ti ai) : SimE B K (tDGet to ti) (aGetK ao ai) := by
  intro σ s F C R H Q P hs hS h k
  refine ho σ s F C R H _ _ hs hS h fun x v F1 C1 H1 e1 S1 r1 h1 => ?_
  refine hi σ s F1 C1 R H1 _ _ (hs.mono e1) S1 h1 fun y w F2 C2 H2 e2 S2 r2 h2 => ?_
  split at h2
  · rename_i es ky q1 q2
    split at h2
    · rename_i d q3
      obtain ⟨a, kvs, rfl, h3, h4⟩ := asK_ok S2 (r1.mono e2) q1
      have h5 := RepK.val ky h4
      rw [q3] at h5
      obtain ⟨u, h6, h7⟩ := h5
      refine ⟨a, u, rfl, ?_, k _ _ F2 C2 H2 (e1.trans e2) S2 h7 h2⟩
      rw [keyOf_ok r2 q2, ← h6]
      exact .k h3
    · exact h2.elim
  · exact h2.elim
theorem ae_getK {X : Cx} {pos : Pos} {o i : Expr} {to ti : TE} {ao ai : AE'} (hu : X.A.units + 1 < cLine) (ho : AE B X o to ao) (hi : AE B X i ti ai) (hs : NoSl i := by exact fun _ _ => rfl) : AE B X (.Subscript o i pos) (tDGet to ti) (aGetK ao ai) :=
  ⟨pe_dget hu ho.pe hi.pe hs, sim_getK ho.sim hi.sim⟩
/-- k in d -/
def aInK (neg : Bool) (i o : AE') : AE' := fun s C P => i s C fun y C1 => o s C1 fun x C2 => match asK C2 x, keyOf y with
  | some es, some k => P (.bl (if neg then !(valD es k).isSome else (valD es k).isSome)) C2
  | _, _ => False
theorem valK_some {K : PySem.W.Frag} {F : Hp} {k : Key} {vs : List (Key × V)} {ds : List (Key × D)} (h : RepK K F vs ds) : (valV vs k).isSome = (valD ds k).isSome := by
  have := RepK.val k h
  cases q : valD ds k with
  | none => rw [q] at this; rw [show valV vs k = none from this]; rfl
  | some d => rw [q] at this; obtain ⟨v, e, _⟩ := this; rw [e]; rfl
theorem sim_notInK {K : PySem.W.Frag} {to ti : TE} {ao ai : AE'} (ho : SimE B K to ao) (hi : SimE B K ti ai) : SimE B K (tDNotIn ti to) (aInK true ai ao) := by
  intro σ s F C R H Q P hs hS h k
  refine hi σ s F C R H _ _ hs hS h fun y v F1 C1 H1 e1 S1 r1 h1 => ?_
  refine ho σ s F1 C1 R H1 _ _ (hs.mono e1) S1 h1 fun x w F2 C2 H2 e2 S2 r2 h2 => ?_
  split at h2
  · rename_i es ky q1 q2
    obtain ⟨a, kvs, rfl, h3, h4⟩ := asK_ok S2 r2 q1
    refine ⟨a, valV kvs ky, rfl, ?_, ?_⟩
    · rw [keyOf_ok r1 q2]; exact .k h3
    · rw [valK_some h4]
      exact k _ _ F2 C2 H2 (e1.trans e2) S2 (.bl _) h2
  · exact h2.elim
section
variable {X : Cx} {pos : Pos} {o i e : Expr} {to ti te : TE} {ao ai a : AE'}
theorem at_notInK (hu : X.A.units + 1 < cLine) (hi : AE B X i ti ai) (ho : AE B X o to ao) (h1 : behindInMarks .NotIn o = false := by rfl) : AT B X (.Compare i [.NotIn] [o] pos) (tTest (tDNotIn ti to)) (aB (aInK true ai ao)) :=
  ⟨pt_cmp (pc_dnotin hu hi.pe ho.pe) h1, sim_B (sim_notInK ho.sim hi.sim)⟩
/-- d[k] = e -/
def aPutK (o i e : AE') : AS' := fun E s C => e s C fun d C1 => o s C1 fun x C2 => i s C2 fun y C3 => match x, keyOf y with
  | .ce p, some k => (match C3 p with | some (.dk es) => es.length < sizeLine ∧ E.nx s (put C3 p (.dk (putD es k d))) | _ => False)
  | _, _ => False
theorem sim_putK {K : PySem.W.Frag} (ho : SimE B K to ao) (hi : SimE B K ti ai) (he : SimE B K te a) : SimS B K (sDPut to ti te) (aPutK ao ai a) := fun D' E σ s F C R H hE hs hS h => by
  refine he σ s F C R H _ _ hs hS h fun d v F1 C1 H1 e1 S1 r1 h1 => ?_
  refine ho σ s F1 C1 R H1 _ _ (hs.mono e1) S1 h1 fun x w F2 C2 H2 e2 S2 r2 h2 => ?_
  refine hi σ s F2 C2 R H2 _ _ (hs.mono (e1.trans e2)) S2 h2 fun y u F3 C3 H3 e3 S3 r3 h3 => ?_
  split at h3
  · rename_i p ky q1
    cases r2
    split at h3
    · rename_i es q2
      obtain ⟨hl, h3⟩ := h3
      obtain ⟨hF, ob, h4, h5⟩ := S3.cell p _ q2
      cases h5 with
      | dk h6 =>
        refine ⟨p, _, rfl, ?_, hE.nx s σ F3 _ _ ((e1.trans e2).trans e3) (hs.mono ((e1.trans e2).trans e3)) (S3.mutC q2 (.dk (RepK.put ky (r1.mono (e2.trans e3)) h6))) h3⟩
        rw [keyOf_ok r3 q1]
        exact .k h4 (by rw [h6.length]; exact hl)
    · exact h3.elim
  · exact h3.elim
theorem as_putK {p2 : Pos} (hu : X.A.units + 1 < cLine) (ho : AE B X o to ao) (hi : AE B X i ti ai) (he : AE B X e te a) (hs : swapsWith e (some (.Subscript o i p2)) pos.line X.env = pure false := by rfl) : AS B X (.Assign [.Subscript o i p2] e pos) (sDPut to ti te) (aPutK ao ai a) :=
  ⟨ps_dput hu ho.pe hi.pe he.pe hs, sim_putK ho.sim hi.sim he.sim⟩
/-- {} -/
def aDict0 : AE' := fun _ C P => ∀ p, C p = none → P (.ce p) (put C p (.dk []))
theorem ae_dict0 : AE B X (.Dict [] [] pos) tDNewK aDict0 := ⟨pe_dnewK, fun σ s F C R H Q P hs hS h k p hp => k _ _ F _ _ (Ex.refl F) (hS.newC hp (.dk .nil)) (.ce p) (h p (hS.freeC hp))⟩
end
/-- a, b = x, y -/
def aPar (i j : Nat) (aa : AA') : AS' := fun E s C => aa s C fun ds C1 => match ds with
  | [d, e] => E.nx ((s.set i (some d)).set j (some e)) C1
  | _ => False
section
variable {nx : ASt → AH → Prop} {rt : D → AH → Prop} {bk ct : ASt → AH → Prop} {s : ASt} {C : AH} {P : D → AH → Prop} {aa : AA'} {e : AE'} {i j : Nat} {p : Addr}
def kPar (i j : Nat) (nx : ASt → AH → Prop) (s : ASt) : List D → AH → Prop := fun ds C1 => match ds with
  | [d, e] => nx ((s.set i (some d)).set j (some e)) C1
  | _ => False
theorem g_par (h : aa s C (kPar i j nx s)) : aPar i j aa ⟨nx, rt, bk, ct⟩ s C := (congrArg (aa s C) (by funext ds C1; rfl)).mpr h
theorem g_kPar {d e : D} {s' : ASt} (h0 : (s.set i (some d)).set j (some e) = s') (h : nx s' C) : kPar i j nx s [d, e] C := by
  subst h0
  exact h
theorem g_neg {z : Int} (h : P (.int (-z)) C) : aNeg (.int z) C P := h
def penD (x y z : D) : Cell := .dk [(.inr "script", x), (.inr "at", y), (.inr "left", z)]
theorem g_pen0 {x y z : D} (hi : s[i]? = some (some (.ce p))) (h1 : C p = some (penD x y z)) (h : P x C) : aGetK (aVar i) (aC (.str "script")) s C P := by
  refine g_var hi ?_
  show (match (match C p with | some (.dk es) => some es | _ => none), keyOf (.str "script") with | some es, some k => (match valD es k with | some d => P d C | none => False) | _, _ => False)
  rw [h1]
  exact h
theorem g_pen1 {x y z : D} (hi : s[i]? = some (some (.ce p))) (h1 : C p = some (penD x y z)) (h : P y C) : aGetK (aVar i) (aC (.str "at")) s C P := by
  refine g_var hi ?_
  show (match (match C p with | some (.dk es) => some es | _ => none), keyOf (.str "at") with | some es, some k => (match valD es k with | some d => P d C | none => False) | _, _ => False)
  rw [h1]
  exact h
theorem g_pen2 {x y z : D} (hi : s[i]? = some (some (.ce p))) (h1 : C p = some (penD x y z)) (h : P z C) : aGetK (aVar i) (aC (.str "left")) s C P := by
  refine g_var hi ?_
  show (match (match C p with | some (.dk es) => some es | _ => none), keyOf (.str "left") with | some es, some k => (match valD es k with | some d => P d C | none => False) | _, _ => False)
  rw [h1]
  exact h
def kPut (i : Nat) (x : Str) (nx : ASt → AH → Prop) (s : ASt) : D → AH → Prop := fun d C1 => aVar i s C1 fun x' C2 => match x' with
  | .ce p => (match C2 p with | some (.dk es) => es.length < sizeLine ∧ nx s (put C2 p (.dk (putD es (.inr x) d))) | _ => False)
  | _ => False
theorem g_putK {x : Str} (h : e s C (kPut i x nx s)) : aPutK (aVar i) (aC (.str x)) e ⟨nx, rt, bk, ct⟩ s C := by
  refine (congrArg (e s C) ?_).mpr h
  funext d C1
  refine congrArg (aVar i s C1) ?_
  funext y C2
  cases y <;> rfl
theorem g_kPut1 {x y z d : D} (hi : s[i]? = some (some (.ce p))) (h1 : C p = some (penD x y z)) (h : nx s (put C p (penD x d z))) : kPut i "at" nx s d C := by
  refine g_var hi ?_
  show (match C p with | some (.dk es) => es.length < sizeLine ∧ nx s (put C p (.dk (putD es (.inr "at") d))) | _ => False)
  rw [h1]
  exact ⟨by show 3 < sizeLine; decide, h⟩
theorem g_kPut2 {x y z d : D} (hi : s[i]? = some (some (.ce p))) (h1 : C p = some (penD x y z)) (h : nx s (put C p (penD x y d))) : kPut i "left" nx s d C := by
  refine g_var hi ?_
  show (match C p with | some (.dk es) => es.length < sizeLine ∧ nx s (put C p (.dk (putD es (.inr "left") d))) | _ => False)
  rw [h1]
  exact ⟨by show 3 < sizeLine; decide, h⟩
end
end AL
namespace AL
open PySem PySem.Spec L2
variable {B : Bs}
section
variable {s : ASt} {C : AH} {P : D → AH → Prop} {a e : AE'} {l h : AO'} {PO : Option Int → AH → Prop}
theorem g_sl {r : D → Option Int → Option Int → AH → (D → AH → Prop) → Prop} (h0 : a s C fun x C1 => l s C1 fun i C2 => h s C2 fun j C3 => r x i j C3 P) : aSl r a l h s C P := h0
theorem g_noPart (h0 : PO none C) : aNoPart s C PO := h0
def kPart (PO : Option Int → AH → Prop) : D → AH → Prop := fun x C1 => match x with | .int i => PO (some i) C1 | _ => False
theorem g_part (h0 : e s C (kPart PO)) : aPart e s C PO := (congrArg (e s C) (by funext x C1; cases x <;> rfl)).mpr h0
theorem g_kPart {i : Int} (h0 : PO (some i) C) : kPart PO (.int i) C := h0
theorem cutD_take (ds : List D) (j : Nat) : cutD ds none (some (j : Int)) = ds.take j := by
  unfold cutD
  rw [HT.sIx_none, HT.sIx_nat, List.drop_zero, Nat.sub_zero]
  by_cases hj : j ≤ ds.length
  · rw [Nat.min_eq_left hj]
  · rw [Nat.min_eq_right (by omega), List.take_of_length_le (by omega), List.take_of_length_le (by omega)]
theorem cutD_drop (ds : List D) (j : Nat) : cutD ds (some (j : Int)) none = ds.drop j := by
  unfold cutD
  rw [HT.sIx_none, HT.sIx_nat]
  by_cases hj : j ≤ ds.length
  · rw [Nat.min_eq_left hj, List.take_of_length_le (by rw [List.length_drop]; omega)]
  · rw [Nat.min_eq_right (by omega), List.drop_eq_nil_of_le (Nat.le_refl _), List.drop_eq_nil_of_le (by omega)]
    simp
theorem g_cutTake {us : List D} {j : Nat} (h0 : P (.lst (us.take j)) C) : aCut (.lst us) none (some (j : Int)) C P := by
  show P (.lst (cutD us none (some (j : Int)))) C
  rw [cutD_take]; exact h0
theorem g_extend {p : Addr} {us ws : List D} (h1 : C p = some (.lst us)) (h2 : us.length + ws.length ≤ sizeLine) (h0 : P .non (put C p (.lst (us ++ ws)))) : aExtend (.ce p) [.lst ws] C P := by
  show (match C p, asL C (.lst ws) with | some (.lst us), some ws => us.length + ws.length ≤ sizeLine ∧ P .non (put C p (.lst (us ++ ws))) | _, _ => False)
  rw [h1]
  exact ⟨h2, h0⟩
end
end AL
namespace AL
open PySem PySem.Spec PyProof.Rows L2
variable {B : Bs}
section
variable {X : Cx} {K : PySem.W.Frag}
def signsV (z : Str) : List V := z.cps.toList.map fun c => V.str ⟨#[c]⟩
theorem signs_rep {F : Hp} (z : Str) : RepL K F (signsV z) (signs z) := by
  unfold signsV signs
  induction z.cps.toList with
  | nil => exact .nil
  | cons c l ih => exact .cons (.str _) ih
def aJoin : D → ASp := fun x ds C P => match x, ds with
  | .str a, [d] => (match (asS C d).bind strsD with | some ys => (ys.map (·.length)).sum + ys.length * a.length ≤ 16777216 ∧ P (.str (Txt.join a ys)) C | none => False)
  | _, _ => False
theorem am_join (hK : X.K = K := by rfl) : AMt B X "str.join" (fun x xs H Q => ∃ a p, ∃ ys : List Str, x = .str a ∧ xs = [.ref p] ∧ (SqL K H p (ys.map V.str) ∨ SqT K H p (ys.map V.str)) ∧
    (ys.map (·.length)).sum + ys.length * a.length ≤ 16777216 ∧ Q (.str (Txt.join a ys)) H) aJoin := by
  subst hK
  exact ⟨fun pins s σ H x xs v us Q I r1 r2 h => mt_join pins s σ H x xs v us Q I r1 r2 h, by
  intro v d vs ds F C R H Q P hS r1 r2 h k
  unfold aJoin at h
  split at h
  · cases r1
    cases r2 with
    | cons r2 r3 =>
      cases r3
      split at h
      · rename_i ys e
        obtain ⟨us, e1, e2⟩ := Option.bind_eq_some_iff.mp e
        obtain ⟨a, xs, e3, h1, h2⟩ := asS_ok hS r2 e1
        have e4 := strs_ok e2
        subst e4
        have e5 := h2.ofStrs
        subst e5
        exact ⟨_, a, ys, rfl, by rw [e3], h1, h.1, k _ _ F C H (Ex.refl F) hS (.str _) h.2⟩
      · exact h.elim
  · exact h.elim⟩
def toV : D → Option V
  | .non => some .non
  | .bl b => some (.bl b)
  | .int i => some (.int i)
  | .str x => some (.str x)
  | _ => none
def toVs : List D → Option (List V)
  | [] => some []
  | d :: ds => match toV d, toVs ds with | some v, some vs => some (v :: vs) | _, _ => none
theorem toV_ok {F : Hp} {v u : V} {d : D} (r : Rep K F v d) (h : toV d = some u) : v = u ∧ flatV u = true := by
  cases r <;> simp [toV] at h <;> subst h <;> exact ⟨rfl, rfl⟩
theorem toVs_ok {F : Hp} : ∀ {vs us : List V} {ds : List D}, RepL K F vs ds → toVs ds = some us → vs = us ∧ us.all flatV = true
  | _, _, _, .nil, h => by cases h; exact ⟨rfl, rfl⟩
  | _, us, d :: ds, .cons r t, h => by
    unfold toVs at h
    split at h
    · rename_i v vs e1 e2
      cases h
      obtain ⟨a1, a2⟩ := toV_ok r e1
      obtain ⟨b1, b2⟩ := toVs_ok t e2
      subst a1 b1
      exact ⟨rfl, by simp [a2, b2]⟩
    · cases h
def aIn (neg : Bool) : D → D → AH → (D → AH → Prop) → Prop := fun x y C P => match toV x, (asS C y).bind toVs with
  | some u, some us => P (.bl (if neg then !inV u us else inV u us)) C
  | _, _ => False
abbrev aInL := aIn false
abbrev aNinL := aIn true
theorem sim_in (neg : Bool) : SimR2 B K (rIn K neg) (aIn neg) := by
  intro v w d e F C R H Q P hS r1 r2 h k
  unfold aIn at h
  split at h
  · rename_i u us e1 e2
    obtain ⟨ds, e3, e4⟩ := Option.bind_eq_some_iff.mp e2
    obtain ⟨a, xs, rfl, h1, h2⟩ := asS_ok hS r2 e3
    obtain ⟨a1, a2⟩ := toV_ok r1 e1
    obtain ⟨b1, b2⟩ := toVs_ok h2 e4
    subst a1 b1
    exact ⟨a, xs, rfl, h1, a2, b2, k _ _ F C H (Ex.refl F) hS (.bl _) h⟩
  · exact h.elim
theorem ao_inL (hK : X.K = K := by rfl) : AOp B X (compareOp .In) (rIn K false) aInL := by subst hK; exact ⟨op_in_seq, sim_in false⟩
theorem ao_ninL (hK : X.K = K := by rfl) : AOp B X (compareOp .NotIn) (rIn K true) aNinL := by subst hK; exact ⟨op_notIn_seq, sim_in true⟩
def aNoS : AS' := fun _ _ _ => False
theorem as_no {st : Stmt} : AS B X st (fun _ _ _ => False) aNoS := ⟨⟨fun _ _ _ _ _ _ h => h.elim⟩, fun _ _ _ _ _ _ _ _ _ _ _ h => h.elim⟩
end
section
variable {s : ASt} {C : AH} {P : D → AH → Prop}
theorem g_joinL {a : Str} {ys : List Str} (h1 : (ys.map (·.length)).sum + ys.length * a.length ≤ 16777216) (h : P (.str (Txt.join a ys)) C) : aJoin (.str a) [.lst (ys.map D.str)] C P := by
  show (match strsD (ys.map D.str) with | some ys => _ | none => False)
  rw [strs_map]
  exact ⟨h1, h⟩
theorem g_joinT {a : Str} {ys : List Str} (h1 : (ys.map (·.length)).sum + ys.length * a.length ≤ 16777216) (h : P (.str (Txt.join a ys)) C) : aJoin (.str a) [.tup (ys.map D.str)] C P := by
  show (match strsD (ys.map D.str) with | some ys => _ | none => False)
  rw [strs_map]
  exact ⟨h1, h⟩
end
end AL
namespace AL
open PySem PySem.Spec L2
variable {B : Bs}
theorem ass_no {X : Cx} {st : List Stmt} : ASs B X st (fun _ _ _ => False) aNoS := ⟨⟨fun _ _ _ _ _ _ h => h.elim⟩, fun _ _ _ _ _ _ _ _ _ _ _ h => h.elim⟩
end AL
namespace AL
open PySem PySem.Spec PyProof.Rows L2
variable {B : Bs}
def okS (z : Str) : Prop := ∀ c ∈ z.cps.toList, c < 0x110000
def One (z : Str) : Prop := ∃ c : Nat, z = ⟨#[c]⟩ ∧ c < 0x110000
abbrev strsL (ys : List Str) : List D := ys.map D.str
theorem len_toList (z : Str) : z.cps.toList.length = z.length := Array.length_toList
theorem One.len {z : Str} (h : One z) : z.length = 1 := by obtain ⟨c, rfl, _⟩ := h; rfl
theorem One.ok {z : Str} (h : One z) : okS z := by
  obtain ⟨c, rfl, hc⟩ := h
  intro d hd
  have : d = c := by simpa using hd
  rw [this]; exact hc
theorem joinL_nil : ∀ ps : List (List Nat), TL.joinL [] ps = ps.flatten
  | [] => rfl
  | [p] => by simp [TL.joinL]
  | p :: q :: r => by
    show p ++ ([] ++ TL.joinL [] (q :: r)) = _
    rw [joinL_nil (q :: r), List.nil_append]
    simp
theorem join_toList (ys : List Str) : (Txt.join "" ys).cps.toList = (ys.map fun y => y.cps.toList).flatten := by
  rw [TL.join_eq]
  have h := TL.tl_join "" ys
  have e : TL.tl "" = [] := by decide +kernel
  rw [e, joinL_nil] at h
  exact h
theorem join_len (ys : List Str) : (Txt.join "" ys).length = (ys.map (·.length)).sum := by
  rw [← len_toList, join_toList, List.length_flatten, List.map_map]
  congr 1
section
variable {C : AH} {P : D → AH → Prop}
theorem len_empty : ("" : Str).length = 0 := by decide +kernel
theorem g_joinE {ys : List Str} (h1 : (ys.map (·.length)).sum ≤ 16777216) (h : P (.str (Txt.join "" ys)) C) : aJoin (.str "") [.lst (strsL ys)] C P := g_joinL (by rw [len_empty]; omega) h
theorem g_joinET {ys : List Str} (h1 : (ys.map (·.length)).sum ≤ 16777216) (h : P (.str (Txt.join "" ys)) C) : aJoin (.str "") [.tup (strsL ys)] C P := g_joinT (by rw [len_empty]; omega) h
end
end AL
namespace AL
open PySem PySem.Spec PyProof.Rows L2
end AL
namespace HT
open PySem PySem.Spec PyProof.Rows L2
section
variable {prog : Program} {w : World} {A : Around} {E : Value → Shared → Prop} {s : Shared}
theorem sliceApplied_rev {sl : Addr} {vl vu vs : Value} {n : Nat} {Q : Int × Int × Nat → Shared → Prop} (hs : s.heap.IsSliceOf sl vl vu vs) (pl : IsPart vl none) (pu : IsPart vu none) (ps : IsPart vs (some (-1)))
    (h : Q ((n : Int) - 1, -1, n) s) : wpAny (model prog w) A (Builtin.Slice.sliceApplied (.ref sl) (pure (n : Int))) Q E s := by
  obtain ⟨os, hos, hcs, hds⟩ := id hs
  unfold Builtin.Slice.sliceApplied Builtin.Slice.sliceFields
  refine wpAny_bind (wpAny_bind (wpAny_field hos hds (x := vl) rfl (wpAny_bind (wpAny_field hos hds (x := vu) rfl (wpAny_bind (wpAny_field hos hds (x := vs) rfl (wpAny_pure ?_)))))))
  refine wpAny_bind (slicePart_ ps ?_)
  show wpAny _ _ (if ((-1 : Int) == 0) = true then _ else _) _ _ s
  rw [if_neg (by decide)]
  refine wpAny_bind (slicePart_ pl (wpAny_bind (slicePart_ pu (wpAny_bind (wpAny_pure ?_)))))
  show wpAny _ _ (match Builtin.Slice.sliceAdjust none none (-1) (n : Int) with | (lo, hi) => pure (lo, (-1 : Int), Builtin.Slice.slicePlaces lo hi (-1))) _ _ s
  have e : Builtin.Slice.sliceAdjust none none (-1) (n : Int) = ((n : Int) - 1, -1) := by
    unfold Builtin.Slice.sliceAdjust
    simp
  have e2 : Builtin.Slice.slicePlaces ((n : Int) - 1) (-1) (-1) = n := by
    unfold Builtin.Slice.slicePlaces
    simp
    omega
  rw [e]
  show wpAny _ _ (pure ((n : Int) - 1, (-1 : Int), Builtin.Slice.slicePlaces ((n : Int) - 1) (-1) (-1))) _ _ s
  rw [e2]
  exact wpAny_pure h
theorem fmap_some {α β : Type} {f : α → Option β} {g : α → β} : ∀ {l : List α}, (∀ m ∈ l, f m = some (g m)) → l.filterMap f = l.map g
  | [], _ => rfl
  | m :: l, h => by
    rw [List.filterMap_cons, h m (List.mem_cons_self ..), List.map_cons, fmap_some fun k hk => h k (List.mem_cons_of_mem _ hk)]
theorem pick_rev (xs : Array Value) : ((List.range xs.size).filterMap fun (m : Nat) => xs[(((xs.size : Nat) : Int) - 1 + (m : Int) * (-1)).toNat]?).toArray = xs.toList.reverse.toArray := by
  congr 1
  have e : ∀ m ∈ List.range xs.size, xs[(((xs.size : Nat) : Int) - 1 + (m : Int) * (-1)).toNat]? = some (xs.toList.reverse.getD m .none) := by
    intro m hm
    have hm' : m < xs.size := List.mem_range.mp hm
    have e1 : (((xs.size : Nat) : Int) - 1 + (m : Int) * (-1)).toNat = xs.size - 1 - m := by omega
    have h2 : xs.size - 1 - m < xs.size := by omega
    have h3 : m < xs.toList.reverse.length := by rw [List.length_reverse, Array.length_toList]; exact hm'
    rw [e1, Array.getElem?_eq_getElem h2, List.getD, List.getElem?_eq_getElem h3]
    simp
  rw [fmap_some e]
  refine List.ext_getElem (by simp) fun i h1 h2 => ?_
  simp [List.getD, List.getElem?_eq_getElem h2]
theorem getItem_tuple_rev {t sl : Addr} {items : Array Value} {vl vu vs : Value} {Q : Value → Shared → Prop} (ht : IsTup s.heap t items) (hs : s.heap.IsSliceOf sl vl vu vs) (pl : IsPart vl none) (pu : IsPart vu none) (ps : IsPart vs (some (-1)))
    (h : Q (.ref s.heap.objs.size) { s with heap := s.heap.push { cls := .type "tuple", data := .seq items.toList.reverse.toArray } }) (hsz : items.size ≤ sizeLine) : wpAny (model prog w) A (getItem (.ref t) (.ref sl)) Q E s := by
  have htake : sizeOk (.seq items.toList.reverse.toArray) := by
    show items.toList.reverse.toArray.size ≤ sizeLine
    rw [List.size_toArray, List.length_reverse, Array.length_toList]
    exact hsz
  obtain ⟨os, hos, hcs, hds⟩ := id hs
  have hTs : s.TypeIs (.ref sl) "slice" := ⟨os, hos, hcs⟩
  unfold getItem
  try with_reducible refine wpAny_holding ?_
  first | refine wpAny_bind (wpAny_pure ?_) | skip
  refine wpAny_bind (wpAny_sequenceKey ht.typeIs (by decide) ?_)
  refine wpAny_bind (wpAny_callSpecial?_slot (name := Str.ofString "__getitem__") ht.typeIs PyProof.Rows.slot_tuple_getitem
    (wpAny_call_entry PyProof.Rows.slot_tuple_getitem ht.typeIs entry_tuple_getitem ?_ (args_tuple_getitem _ _)))
  show wpAny _ _ (Builtin.Tuple.tupleItemsOf (.ref t) >>= _) _ _ s
  refine wpAny_bind (tupleItemsOf_ ht ?_)
  refine wpAny_bind (wpAny_typeOf hTs ?_)
  rw [if_pos (by decide)]
  refine wpAny_bind (sliceApplied_rev hs pl pu ps ?_)
  have hno : ¬ ((((items.size : Nat) : Int) - 1 == 0 && (-1 : Int) == 1 && items.size == items.size) = true) := by
    intro q
    rw [Bool.and_eq_true, Bool.and_eq_true] at q
    exact absurd q.1.2 (by decide)
  show wpAny _ _ (if (((items.size : Nat) : Int) - 1 == 0 && (-1 : Int) == 1 && items.size == items.size) = true then _ else _) _ _ s
  rw [if_neg hno, pick_rev]
  first
    | exact wpAny_bind (m := Builtin.Tuple.tupleExact _) (wpAny_newObj_type (wpAny_pure ⟨_, rfl, wpAny_pure h⟩) htake)
    | exact wpAny_bind (m := Builtin.Tuple.tupleExact _) (wpAny_newObj_type (wpAny_bind (wpAny_pure (wpAny_pure ⟨_, rfl, wpAny_pure h⟩))) htake)
    | exact wpAny_bind (wpAny_bind (m := Builtin.Tuple.tupleExact _) (wpAny_newObj_type (wpAny_pure (wpAny_pure ⟨_, rfl, wpAny_pure h⟩)) htake))
    | exact wpAny_bind (wpAny_bind (m := Builtin.Tuple.tupleExact _) (wpAny_newObj_type (wpAny_pure ⟨_, rfl, wpAny_pure h⟩) htake))
end
end HT
namespace AL
open PySem PySem.Spec PyProof.Rows L2
variable {B : Bs}
section
variable {X : Cx} {K : PySem.W.Frag}
/-- t[::-1] of a tuple -/
def tRevT (K : PySem.W.Frag) (te : TE) : TE := fun σ H Q => te σ H fun x H1 => ∃ a xs, x = .ref a ∧ SqT K H1 a xs ∧ NewT xs.reverse Q H1
theorem pe_revT {e : Expr} {te : TE} {k : Nat} {p1 p2 p3 pos : Pos} (he : PE X e te) : PE X (.Subscript e (.Slice none none (some (.UnaryOp .USub (.Constant (.int 1) k p1) p2)) p3) pos) (tRevT X.K te) := by
  refine ⟨fun pins s σ H Q I h => ?_⟩
  refine Subscript_ (thn (he.run pins s σ H _ I h) fun v s1 ⟨x, H1, I1, r1, q1⟩ => ?_)
  obtain ⟨a, xs, ex, hx, q⟩ := q1
  subst ex
  cases r1
  have hst : PO X (some (.UnaryOp .USub (.Constant (.int 1) k p1) p2)) (tPart (tUn (rU fun i => .int (-i)) (tC (.int 1)))) := po_some (pe_un un_neg pe_int)
  refine wpAny_Slice (thn (po_none.run pins s1 σ H1 (fun o H2 => o = none ∧ H2 = H1) I1 ⟨rfl, rfl⟩) fun vl s2 ⟨l, H2, I2, pl, el, e2⟩ => ?_)
  subst el e2
  refine thn (po_none.run pins s2 σ H2 (fun o H3 => o = none ∧ H3 = H2) I2 ⟨rfl, rfl⟩) fun vu s3 ⟨u, H3, I3, pu, eu, e3⟩ => ?_
  subst eu e3
  refine thn (hst.run pins s3 σ H3 (fun o H4 => o = some (-1) ∧ H4 = H3) I3 ⟨1, rfl, -1, rfl, rfl, rfl⟩) fun vs s4 ⟨o, H4, I4, ps, eo, e4⟩ => ?_
  subst eo e4
  have I5 : Inv X pins σ H4 { s4 with heap := s4.heap.push { cls := .type "slice", data := .fields #[vl, vu, vs] } } := I4.kept (t' := s4.toks) fun b ob q => Heap.get?_push_of_some _ q
  obtain ⟨its, r, ht, hz⟩ := I5.tuple hx
  have hlen := r.length
  show wpAny (model X.prog X.w) X.A (subscriptTail e (.Slice none none (some (.UnaryOp .USub (.Constant (.int 1) k p1) p2)) p3) (.ref a) (.ref s4.heap.objs.size)) (EP X pins σ Q) X.xe { s4 with heap := s4.heap.push { cls := .type "slice", data := .fields #[vl, vu, vs] } }
  refine tail_any (ops := [.ref a, .ref s4.heap.objs.size]) ht.typeIs (PyProof.Rows.slot_tuple_getitem.lookup) ?_ (by with_unfolding_all rfl)
  refine HT.getItem_tuple_rev ht (Heap.IsSliceOf.new _ vl vu vs) pl pu ps ?_ (by rw [List.size_toArray]; omega)
  exact laidT (tk := s4.toks) I5 (by rw [List.length_reverse]; exact hz) r.reverse q
def aRevT : D → AH → (D → AH → Prop) → Prop := fun x C P => match asT x with | some ds => P (.tup ds.reverse) C | none => False
theorem ae_revT {pos : Pos} {e : Expr} {te : TE} {a : AE'} {k : Nat} {p1 p2 p3 : Pos} (he : AE B X e te a) (hK : X.K = K := by rfl) : AE B X (.Subscript e (.Slice none none (some (.UnaryOp .USub (.Constant (.int 1) k p1) p2)) p3) pos) (tRevT K te) (aUn aRevT a) := by
  subst hK
  exact ⟨pe_revT he.pe, by
  intro σ s F C R H Q P hs hS h0 k
  refine he.sim σ s F C R H _ _ hs hS h0 fun x v F1 C1 H1 e1 S1 r1 h1 => ?_
  unfold aRevT at h1
  split at h1
  · rename_i ds q
    obtain ⟨a, xs, e2, h2, h3⟩ := asT_ok S1 r1 q
    refine ⟨a, xs, e2, SqT.of h2, fun p ob hob hp => ?_⟩
    have e := Ex.new (o := .frz ob (.tup xs.reverse)) (S1.freeF hp)
    exact k _ _ _ C1 _ (e1.trans e) (S1.newF hp _) (.tup (.frz hob upd_same) (h3.reverse.mono e)) h1
  · exact h1.elim⟩
variable {C : AH} {P : D → AH → Prop}
theorem g_revT {ds : List D} (h : P (.tup ds.reverse) C) : aRevT (.tup ds) C P := h
end
end AL
namespace AL
open PySem PySem.Spec PyProof.Rows L2
end AL
namespace AL
open PySem PySem.Spec PyProof.Rows L2
end AL
namespace AL
open PySem
def Keep (C C' : AH) : Prop := ∀ r c, C r = some c → C' r = some c
theorem Keep.refl (C : AH) : Keep C C := fun _ _ h => h
theorem Keep.trans {C C1 C2 : AH} (a : Keep C C1) (b : Keep C1 C2) : Keep C C2 := fun r c h => b r c (a r c h)
theorem Keep.put {C C' : AH} {q : Addr} {c : Cell} (h : Keep C C') (hq : C q = none) : Keep C (AL.put C' q c) := fun r d e => by rw [put_ne (ne_cell e hq)]; exact h r d e
theorem Keep.del {C C' : AH} {q : Addr} (h : Keep C C') (hq : C q = none) : Keep C (AL.del C' q) := fun r d e => by
  unfold AL.del
  rw [if_neg (ne_cell e hq)]
  exact h r d e
theorem Keep.none {C C' : AH} {q : Addr} (h : Keep C C') (hq : C' q = Option.none) : C q = Option.none := by
  cases e : C q with
  | none => rfl
  | some c => rw [h q c e] at hq; cases hq
/-- all but p -/
def Oth (p : Addr) (C C' : AH) : Prop := ∀ r c, r ≠ p → C r = some c → C' r = some c
theorem Oth.refl (p : Addr) (C : AH) : Oth p C C := fun _ _ _ h => h
theorem Oth.trans {p : Addr} {C C1 C2 : AH} (a : Oth p C C1) (b : Oth p C1 C2) : Oth p C C2 := fun r c n h => b r c n (a r c n h)
theorem Oth.of {p : Addr} {C C' : AH} (a : Keep C C') : Oth p C C' := fun r c _ h => a r c h
theorem Oth.pen {p : Addr} {C C' : AH} {c : Cell} (h : Oth p C C') : Oth p C (AL.put C' p c) := fun r d n e => by rw [put_ne n]; exact h r d n e
theorem Oth.put {p q : Addr} {C C' : AH} {c : Cell} (h : Oth p C C') (hq : C q = none) : Oth p C (AL.put C' q c) := fun r d n e => by rw [put_ne (ne_cell e hq)]; exact h r d n e
theorem Oth.del {p q : Addr} {C C' : AH} (h : Oth p C C') (hq : C q = none) : Oth p C (AL.del C' q) := fun r d n e => by
  unfold AL.del
  rw [if_neg (ne_cell e hq)]
  exact h r d n e
theorem Oth.none {p q : Addr} {C C' : AH} (h : Oth p C C') (hn : q ≠ p) (hq : C' q = Option.none) : C q = Option.none := by
  cases e : C q with
  | none => rfl
  | some c => rw [h q c hn e] at hq; cases hq
theorem atI_last {xs : List D} {i : Nat} {x : D} (hl : xs.length = i + 1) (h : xs[i]? = some x) : L2.atI xs (-1) = some x := by
  unfold L2.atI L2.ixN
  rw [hl, if_neg (by omega), if_pos (by omega)]
  show xs[(-1 + ((i + 1 : Nat) : Int)).toNat]? = _
  rw [show (-1 + ((i + 1 : Nat) : Int)).toNat = i by omega]
  exact h
end AL
namespace AL
open PySem PySem.Spec PyProof.Rows L2
section
variable {P : Program} {w : World} {K : PySem.W.Frag} {mg mb : Str → Option Value} {k : Nat} {fa a : Addr} {fd : FuncData} {x : Str} {sp : Sp} {s₁ : Shared} {vs : List Value} {ns : List Int}
theorem core_G (hns : s₁.heap.Ns mainGlobals mg) (hb : s₁.heap.Ns builtinsNs mb) (hbb : ∀ x : Str, x ≠ "__name__" → mb x = bootBuiltins x) (hlim : s₁.heap.NoLimit) (hg : s₁.gens = #[]) (KX : K.In s₁.heap)
    (ha : s₁.heap.get? a = some { cls := .type "list", data := .seq vs.toArray }) (hr : Room k callerA)
    (F : ∀ base : Heap, K.In base → base.Ns mainGlobals mg → FnG P w K mg base k fa fd [x] sp) (hbind : ∀ (s : Shared) (u : Value), BindsTo s fd ⟨[u], []⟩ [(x, u)])
    {H : Hp} (hO : Only H) (hsp : sp [.ref a] H (fun v _ => v = .bl true) fun _ _ _ => False) (hok : HOk P w H s₁.heap) (hA : ∀ b, H b ≠ none → b = a) (hK : H a ≠ none → K.lookup a = none) :
    codeAny (model P w) callerA (.call (.ref fa) ⟨[.ref a], []⟩) (fun r s' => r = .ok (.ret (.bool true)) ∧ OldK s₁.heap s'.heap ∧ s'.os = s₁.os ∧ AllBare s'.gens) s₁ := by
  have free : ∀ {b : Addr} {o : Obj}, s₁.heap.get? b = some o → (b = a → False) → H b = none := fun {b o} e n => by
    cases q : H b with
    | none => rfl
    | some u => exact (n (hA b (by rw [q]; simp))).elim
  have dictFree : ∀ {b : Addr} {m : Str → Option Value}, s₁.heap.Ns b m → (hidT s₁.heap H).Ns b m := by
    rintro b m ⟨o, es, ep, e, d, r⟩
    refine ⟨o, es, ep, hidT_get e (free e fun z => ?_), d, r⟩
    subst z
    rw [ha] at e
    cases e
    cases (show Data.seq vs.toArray _ = Data.dict es ep from d)
  have kin : K.In (hidT s₁.heap H) := fun b o e => hidT_get (KX b o e) (by
    cases q : H b with
    | none => rfl
    | some u =>
      have z : b = a := hA b (by rw [q]; simp)
      subst z
      rw [hK (by rw [q]; simp)] at e
      cases e)
  obtain ⟨mc, l1, l2⟩ := hlim
  have md : Mod K mg (hidT s₁.heap H) := ⟨kin, dictFree hns, ⟨mb, dictFree hb, hbb⟩, ⟨mc, dictFree l1, l2⟩⟩
  have e0 : Env0 P w K mg (hidT s₁.heap H) callerA [] s₁ H :=
    { frames := rfl, mod := md, bs := fun b o e => of_hidT e, bsz := Nat.le_of_eq (hidT_size _ _), funs := trivial, frf := fun b z => (by cases z), hok := hok, bare := .of_eq hg }
  refine codeAny_mono ((F _ kin (dictFree hns)).run callerA [] s₁ H ⟨[.ref a], []⟩ [.ref a] [.ref a] _ _ hr rfl e0 (hbind s₁ (.ref a)) (.cons rfl .nil) hsp) fun res s2 z => ?_
  match res, z with
  | .error e, z =>
    obtain ⟨_, _, _, _, _, _, _, _, _, _, _, _, z⟩ := z
    exact z.elim
  | .ok .next, z => exact False.elim z
  | .ok .brk, z => exact False.elim z
  | .ok .cont, z => exact False.elim z
  | .ok (.ret u), z =>
    obtain ⟨v, H2, os, bare, un, hok2, r, q⟩ := z
    cases (show v = .bl true from q)
    obtain rfl : u = Value.bool true := r
    refine ⟨rfl, OldK.of_keep fun b o e => ?_, os, bare⟩
    rcases hO b with z | ⟨ob, xs, z⟩
    · exact un.keep b o e z (by intro y; cases y) (by simp)
    · have e1 := (hok b _ z).1
      have e2 := (hok2 b _ (un.frzs b ob _ z)).1
      rw [e] at e1
      cases e1
      exact e2
theorem law_G (KX : K.In s₁.heap) (hns : s₁.heap.Ns mainGlobals mg) (hb : s₁.heap.Ns builtinsNs mb) (hbb : ∀ x : Str, x ≠ "__name__" → mb x = bootBuiltins x) (hlim : s₁.heap.NoLimit) (hg : s₁.gens = #[])
    (ha : s₁.heap.get? a = some { cls := .type "list", data := .seq vs.toArray }) (hi : IntsAre vs ns) (hl : ns.length ≤ sizeLine) (hr : Room k callerA)
    (F : ∀ base : Heap, K.In base → base.Ns mainGlobals mg → FnG P w K mg base k fa fd [x] sp) (hbind : ∀ (s : Shared) (u : Value), BindsTo s fd ⟨[u], []⟩ [(x, u)])
    (hsp : ∀ H : Hp, Only H → SqL K H a (ns.map V.int) → sp [.ref a] H (fun v _ => v = .bl true) fun _ _ _ => False) :
    codeAny (model P w) callerA (.call (.ref fa) ⟨[.ref a], []⟩) (fun r s' => r = .ok (.ret (.bool true)) ∧ OldK s₁.heap s'.heap ∧ s'.os = s₁.os ∧ AllBare s'.gens) s₁ := by
  have go := fun {H : Hp} (hO : Only H) (hS : SqL K H a (ns.map V.int)) => core_G hns hb hbb hlim hg KX ha hr F hbind hO (hsp H hO hS)
  cases hk : K.lookup a with
  | some o =>
    have e := KX a o hk
    rw [ha] at e
    cases e
    refine go (H := fun _ => none) (fun _ => .inl rfl) (.inr ⟨_, vs.toArray, _, hk, rfl, rfl, rfl, ?_, ?_⟩) (fun b u z => ?_) (fun b z => (z rfl).elim) fun z => (z rfl).elim
    · rw [List.size_toArray, hi.length]; exact hl
    · simpa using vals_ints hi
    · cases (show (none : Option HO) = some u from z)
  | none =>
    let oL : Obj := { cls := .type "list", data := .seq vs.toArray }
    let H0 : Hp := fun b => if b = a then some (.frz oL (.lst (ns.map V.int))) else none
    have at_a : H0 a = some (.frz oL (.lst (ns.map V.int))) := if_pos rfl
    have off : ∀ b, b ≠ a → H0 b = none := fun b n => if_neg n
    refine go (H := H0) (fun b => ?_) (.inl (.inr ⟨oL, at_a⟩)) (fun b u z => ?_) (fun b z => ?_) fun _ => hk
    · by_cases n : b = a
      · rw [n]; exact .inr ⟨_, _, at_a⟩
      · exact .inl (off b n)
    · by_cases n : b = a
      · subst n
        rw [at_a] at z
        cases z
        exact ⟨ha, by rw [List.length_map]; exact hl, vs, _, vals_ints hi, ha⟩
      · rw [off b n] at z; cases z
    · by_cases n : b = a
      · exact n
      · exact (z (off b n)).elim
end
theorem walk_G {l : PySem.W.OpenLaw} {n k : Nat} {q : Program} {loose : List Str} {XP : (Str → Option Value) → Heap → Prop} {YP : World → Heap → Prop} {d : DefRec} {K : Params → PySem.W.Frag} {sp : World → (Str → Option Value) → Sp} {x : Str}
    (hn : l.most = some n) (hn2 : n ≤ sizeLine) (hdf : d.params.defaults = []) (hr : Room k callerA) (hY : ∀ (w : World) (h : Heap), YP w h → (K w.params).In h)
    (F : ∀ (w : World) (mg : Str → Option Value) (fa : Addr) (h : Heap), (K w.params).In h → h.Ns mainGlobals mg → mg d.name = some (.ref fa) →
      ∃ fd : FuncData, (∀ (s : Shared) (u : Value), BindsTo s fd ⟨[u], []⟩ [(x, u)]) ∧ ∀ base : Heap, (K w.params).In base → base.Ns mainGlobals mg → FnG l.prog w (K w.params) mg base k fa fd [x] (sp w mg))
    (hsp : ∀ (w : World) (mg : Str → Option Value) (H : Hp) (a : Addr) (ns : List Int), ns.length ≤ n → Only H → SqL (K w.params) H a (ns.map V.int) → sp w mg [.ref a] H (fun v _ => v = .bl true) fun _ _ _ => False) :
    PySem.W.WalkO q loose XP YP l.row.toRowW d [] (fun f vs => PySem.call f vs) :=
  Att.attach_call hn hdf fun w s₀ s₁ mg mb fa o pm cd doc a vs ns G Y ho hd hcd hmg hobj hints hlen hg => by
    obtain ⟨fd, hb, hF⟩ := F w mg fa _ (hY w _ Y) G.T.g hmg
    exact law_G (hY w _ Y) G.T.g G.T.b G.T.builtins G.T.nolimit hg hobj hints (Nat.le_trans hlen hn2) hr hF hb fun H hO hS => hsp w mg H a ns hlen hO hS
end AL
namespace AL
open PySem PySem.Spec PyProof.Rows L2
variable {B : Bs}
section
variable {X : Cx} {K : PySem.W.Frag}
theorem u200 {k : Nat} {A : Around} (r : Room k A) : A.units + 200 < cLine := by
  have := r.un
  omega
def rRep (K : PySem.W.Frag) : List V → Hp → VK → Prop := fun xs H Q => ∃ x d, xs = [x] ∧ Dp K H x d ∧ d.showable = true ∧ d.hasDict = false ∧ d.depth ≤ 64 ∧ d.shown.length ≤ sizeLine ∧ Q (.str d.shown) H
end
end AL
namespace AL
open PySem PySem.Spec PyProof.Rows L2
variable {B : Bs}
mutual
def D.pe : D → Option PyData
  | .non => some .none
  | .bl b => some (.bool b)
  | .int i => some (.int i)
  | .str x => some (.str x)
  | .lst ds => (peL ds).map .list
  | .tup ds => (peL ds).map .tuple
  | .dk es => (peK es).map .dict
  | _ => none
def peL : List D → Option (List PyData)
  | [] => some []
  | d :: ds => match D.pe d, peL ds with | some x, some xs => some (x :: xs) | _, _ => none
def peK : List (Key × D) → Option (List (PyData × PyData))
  | [] => some []
  | (k, d) :: es => match D.pe d, peK es with | some x, some xs => some ((match k with | .inl i => PyData.int i | .inr z => PyData.str z, x) :: xs) | _, _ => none
end
section
variable {X : Cx} {K : PySem.W.Frag} {pins : List (Addr × Obj)} {σ : L2.St} {H F : Hp} {s : Shared}
/-- shown, one way or another -/
def Shw (X : Cx) (h : Heap) (u : Value) (x : PyData) : Prop := (∃ as, Reads h u x as) ∧ ∃ bs, ReadAtMost h x.depth bs ∧ ReprK X.prog X.w bs h x.depth u x.shown
def ShwL (X : Cx) (h : Heap) (us : List Value) (xs : List PyData) : Prop := (∃ as, ReadsAll h us xs as) ∧ ∃ bs, ReadAtMost h (PyData.depthAll xs) bs ∧ ReprAllK X.prog X.w bs h (PyData.depthAll xs) us (PyData.shownAll xs)
theorem ShwL.nil {h : Heap} : ShwL X h [] [] := ⟨⟨_, .nil⟩, [], fun _ z => (by cases z), by simp only [PyData.shownAll]; exact .nil⟩
theorem ShwL.cons {h : Heap} {u : Value} {us : List Value} {x : PyData} {xs : List PyData} (a : Shw X h u x) (b : ShwL X h us xs) : ShwL X h (u :: us) (x :: xs) := by
  obtain ⟨⟨_, r1⟩, b1, m1, k1⟩ := a
  obtain ⟨⟨_, r2⟩, b2, m2, k2⟩ := b
  have ed : PyData.depthAll (x :: xs) = max x.depth (PyData.depthAll xs) := by simp only [PyData.depthAll]
  refine ⟨⟨_, .cons r1 r2⟩, b1 ++ b2, ?_, ?_⟩
  · rw [ed]
    exact (m1.mono (Nat.le_max_left _ _)).append (m2.mono (Nat.le_max_right _ _))
  · rw [ed]
    simp only [PyData.shownAll]
    exact .cons ((k1.more fun z hz => List.mem_append_left _ hz).level_le (Nat.le_max_left _ _)) (k2.more_le (fun z hz => List.mem_append_right _ hz) (Nat.le_max_right _ _))
end
def blkKey : Key → Nat
  | .inl _ => 0
  | .inr x => x.length
mutual
def blk : D → Nat
  | .str x => x.length
  | .lst ds => blks ds
  | .tup ds => blks ds
  | .dk es => blkk es
  | _ => 0
def blks : List D → Nat
  | [] => 0
  | d :: ds => blk d + 1 + blks ds
def blkk : List (Key × D) → Nat
  | [] => 0
  | (k, d) :: es => blkKey k + blk d + 2 + blkk es
end
end AL
namespace AL
open PySem PySem.Spec PyProof.Rows L2
end AL
namespace AL
open PySem PySem.Spec PyProof.Rows L2
end AL
namespace AL
open PySem PySem.Spec PyProof.Rows L2
variable {B : Bs}
inductive Src where
  | ls (a : Addr) | tp (a : Addr) | tx (z : Str)
def Src.holds (K : PySem.W.Frag) (H : Hp) : Src → List V → Prop
  | .ls a, xs => SqL K H a xs
  | .tp a, xs => SqT K H a xs
  | .tx z, xs => xs = signsV z
def Src.v : Src → V
  | .ls a => .ref a
  | .tp a => .ref a
  | .tx z => .str z
/-- the iterator at it, i items taken -/
def Src.iter (h : Heap) (it : Addr) (i : Nat) : Src → Prop
  | .ls a => h.IsListIter it a i
  | .tp a => h.IsTupleIter it a i
  | .tx z => ∃ t, h.IsStrIter it (strIterType z) z t i
def Src.ref : Src → Option Addr
  | .ls a => some a
  | .tp a => some a
  | .tx _ => none
theorem Src.iter_at {h h' : Heap} {it : Addr} {i : Nat} : ∀ {x : Src}, x.iter h it i → (∀ o, h.get? it = some o → h'.get? it = some o) → x.iter h' it i
  | .ls a, st, k => st.at k
  | .tp a, st, k => st.at k
  | .tx z, ⟨t, o, e, c, d⟩, k => ⟨t, o, k _ e, c, d⟩
theorem Src.iter_obj {h : Heap} {it : Addr} {i : Nat} : ∀ {x : Src}, x.iter h it i → ∃ o, h.get? it = some o ∧ ∀ v, o.data ≠ .cell v
  | .ls a, ⟨o, e, _, d⟩ => ⟨o, e, fun v q => by rw [d] at q; cases q⟩
  | .tp a, ⟨o, e, _, d⟩ => ⟨o, e, fun v q => by rw [d] at q; cases q⟩
  | .tx z, ⟨t, o, e, _, d⟩ => ⟨o, e, fun v q => by rw [d] at q; cases q⟩
section
variable {X : Cx} {pins : List (Addr × Obj)} {σ : L2.St} {H : Hp} {s : Shared}
theorem vals_back : ∀ {xs : List V} {us : List Value} {i : Nat} {u : Value}, Vals xs us → us[i]? = some u → ∃ x, xs[i]? = some x ∧ RelV x u
  | _, _, _, _, .nil, e => by simp at e
  | _, _, 0, _, .cons r _, e => by simp at e; subst e; exact ⟨_, rfl, r⟩
  | _, _, i + 1, u, .cons _ t, e => by
    obtain ⟨x, h1, h2⟩ := vals_back (i := i) (u := u) t (by simpa using e)
    exact ⟨x, by simpa using h1, h2⟩
theorem Src.inj (I : Inv X pins σ H s) : ∀ {x : Src} {xs ys : List V}, x.holds X.K H xs → x.holds X.K H ys → xs = ys
  | .ls a, _, _, h, g => I.list_inj h g
  | .tp a, _, _, h, g => I.tuple_inj h g
  | .tx z, _, _, h, g => h.trans g.symm
/-- one step's draws -/
structure Drw (X : Cx) (A : Around) (x : Src) (xs : List V) (it : Addr) (fp : List Addr) (P : Nat → Value → Prop) (St : Nat → Heap → Prop) : Prop where
  D : Draws X.prog X.w A it fp xs.length P St
  val : ∀ i u, P i u → ∃ v, xs[i]? = some v ∧ RelV v u
  back : ∀ i h, St i h → x.iter h it i
  mem : it ∈ fp
  low : ∀ h i, St i h → ∀ b ∈ fp, b < h.objs.size
  sub : ∀ b ∈ fp, b = it ∨ x.ref = some b
theorem Src.drw (I : Inv X pins σ H s) {A : Around} (hh : A.handled = none) {it : Addr} {i : Nat} : ∀ {x : Src} {xs : List V}, x.holds X.K H xs → x.iter s.heap it i → x.ref ≠ some it → ∃ fp P St, Drw X A x xs it fp P St ∧ St i s.heap
  | .ls a, xs, h, st, hn => by
    obtain ⟨its, rv, p, _⟩ := I.list h
    have l := rv.length
    have hne : a ≠ it := fun z => hn (by rw [z]; rfl)
    have D := Draws.list (prog := X.prog) (w := X.w) hh it a hne its.toArray
    rw [show its.toArray.size = xs.length by simpa using l.symm] at D
    refine ⟨_, _, _, ⟨D, fun j u hu => ?_, fun j h st => st.1, by simp, fun h j st b hb => ?_, fun b hb => ?_⟩, st, p.isList⟩
    · obtain ⟨v, h1, h2⟩ := vals_back rv (by simpa using hu)
      exact ⟨v, h1, h2⟩
    · have e : b = it ∨ b = a := by simpa using hb
      obtain ⟨⟨o, e1, _⟩, ⟨o2, e2, _⟩⟩ := st
      rcases e with z | z
      · rw [z]; exact Heap.lt_size e1
      · rw [z]; exact Heap.lt_size e2
    · have e : b = it ∨ b = a := by simpa using hb
      exact e.imp id fun z => by rw [z]; rfl
  | .tp a, xs, h, st, hn => by
    obtain ⟨its, rv, p, _⟩ := I.tuple h
    have l := rv.length
    have hne : a ≠ it := fun z => hn (by rw [z]; rfl)
    have D := Draws.tuple (prog := X.prog) (w := X.w) hh it a hne its.toArray
    rw [show its.toArray.size = xs.length by simpa using l.symm] at D
    refine ⟨_, _, _, ⟨D, fun j u hu => ?_, fun j h st => st.1, by simp, fun h j st b hb => ?_, fun b hb => ?_⟩, st, p⟩
    · obtain ⟨v, h1, h2⟩ := vals_back rv (by simpa using hu)
      exact ⟨v, h1, h2⟩
    · have e : b = it ∨ b = a := by simpa using hb
      obtain ⟨⟨o, e1, _⟩, ⟨o2, e2, _⟩⟩ := st
      rcases e with z | z
      · rw [z]; exact Heap.lt_size e1
      · rw [z]; exact Heap.lt_size e2
    · have e : b = it ∨ b = a := by simpa using hb
      exact e.imp id fun z => by rw [z]; rfl
  | .tx z, xs, h, ⟨t, st⟩, hn => by
    have h : xs = signsV z := h
    have D := Draws.text (prog := X.prog) (w := X.w) hh it z t
    have l : xs.length = z.cps.size := by rw [h]; unfold signsV; rw [List.length_map, Array.length_toList]
    rw [← l] at D
    refine ⟨_, _, _, ⟨D, fun j u hu => ?_, fun j h st => ⟨t, st⟩, by simp, fun h j st b hb => ?_, fun b hb => .inl (by simpa using hb)⟩, st⟩
    · obtain ⟨c, t2, hc, rfl⟩ := hu
      refine ⟨.str ⟨#[c]⟩, ?_, t2, rfl⟩
      rw [h]
      unfold signsV
      rw [List.getElem?_map, Array.getElem?_toList, hc]
      rfl
    · have e : b = it := by simpa using hb
      obtain ⟨o, e1, _⟩ := st
      rw [e]; exact Heap.lt_size e1
def ItzG (K : PySem.W.Frag) (a b : Src) : It :=
  ⟨fun i H => ∃ (xs ys : List V) (x y : V), a.holds K H xs ∧ b.holds K H ys ∧ xs[i]? = some x ∧ ys[i]? = some y,
    fun i H v H' => ∃ T ob x y, v = .ref T ∧ ob.dict = none ∧ H T = none ∧ H' = upd H T (.frz ob (.tup [x, y])) ∧ (∀ xs, a.holds K H xs → xs[i]? = some x) ∧ ∀ ys, b.holds K H ys → ys[i]? = some y,
    fun i H => ∃ xs ys : List V, a.holds K H xs ∧ b.holds K H ys ∧ i = min xs.length ys.length⟩
structure ZApart (a b : Src) (z TI TO i1 i2 : Addr) : Prop where
  TIz : TI ≠ z
  TOz : TO ≠ z
  TITO : TI ≠ TO
  TIi1 : TI ≠ i1
  TIi2 : TI ≠ i2
  TOi1 : TO ≠ i1
  TOi2 : TO ≠ i2
  zi1 : z ≠ i1
  zi2 : z ≠ i2
  i12 : i1 ≠ i2
  ra : ∀ c ∈ [z, TI, TO, i1, i2], a.ref ≠ some c
  rb : ∀ c ∈ [z, TI, TO, i1, i2], b.ref ≠ some c
theorem sep_of {a b : Src} {z TI TO i1 i2 : Addr} {fp1 fp2 : List Addr} (Z : ZApart a b z TI TO i1 i2) (m1 : i1 ∈ fp1) (m2 : i2 ∈ fp2) (s1 : ∀ c ∈ fp1, c = i1 ∨ a.ref = some c) (s2 : ∀ c ∈ fp2, c = i2 ∨ b.ref = some c) : ZipSep2 z TI TO i1 i2 fp1 fp2 :=
  { TIz := Z.TIz, TOz := Z.TOz, TITO := Z.TITO, TIi1 := Z.TIi1, mem1 := m1, TIi2 := Z.TIi2, mem2 := m2,
    zf1 := fun h => (s1 _ h).elim Z.zi1 (Z.ra z (by simp)), Tf1 := fun h => (s1 _ h).elim Z.TOi1 (Z.ra TO (by simp)),
    zf2 := fun h => (s2 _ h).elim Z.zi2 (Z.rb z (by simp)), Tf2 := fun h => (s2 _ h).elim Z.TOi2 (Z.rb TO (by simp)),
    sep1_2 := fun h => (s2 _ h).elim Z.i12 (Z.rb i1 (by simp)), sep2_1 := fun h => (s1 _ h).elim (fun e => Z.i12 e.symm) (Z.ra i2 (by simp)) }
theorem turn_zipG {P : Program} {w : World} {K : PySem.W.Frag} {elts : List Expr} {kk : Nat} {tpos : Pos} {a b : Src} {z TI TO i1 i2 : Addr} (Z : ZApart a b z TI TO i1 i2) :
    Turn P w K (.Tuple elts kk tpos) (ItzG K a b) [z, TI, TO, i1, i2] z (fun i h => IsZip h z TI TO .none ∧ IsTupOf2 h TI (.ref i1) (.ref i2) ∧ (∃ x y, IsTupOf2 h TO x y) ∧ a.iter h i1 i ∧ b.iter h i2 i) where
  mem := by simp
  obj := fun i h st c hc => by
    obtain ⟨hz, hTI, ⟨x, y, hTO⟩, h1, h2⟩ := st
    simp only [List.mem_cons, List.not_mem_nil, or_false] at hc
    rcases hc with q | q | q | q | q <;> rw [q]
    · exact ⟨_, hz, fun v q => nomatch q⟩
    · exact ⟨_, hTI, fun v q => nomatch q⟩
    · exact ⟨_, hTO, fun v q => nomatch q⟩
    · exact Src.iter_obj h1
    · exact Src.iter_obj h2
  keep := fun i h h' st k => by
    obtain ⟨hz, hTI, ⟨x, y, hTO⟩, h1, h2⟩ := st
    exact ⟨k z (by simp) _ hz, k TI (by simp) _ hTI, ⟨x, y, k TO (by simp) _ hTO⟩, Src.iter_at h1 fun o q => k i1 (by simp) o q, Src.iter_at h2 fun o q => k i2 (by simp) o q⟩
  item := by
    intro X hP hw hK hc i pins s σ H E I hf st hg
    subst hP hw hK
    obtain ⟨hz, hTI, hTO, h1, h2⟩ := st
    obtain ⟨xs, ys, x, y, hqx, hqy, hx, hy⟩ := hg
    have hh : X.A.in1.handled = none := I.ok.hd hc
    obtain ⟨fp1, P1, St1, D1, st1⟩ := Src.drw I hh hqx h1 (Z.ra i1 (by simp))
    obtain ⟨fp2, P2, St2, D2, st2⟩ := Src.drw I hh hqy h2 (Z.rb i2 (by simp))
    have S := sep_of Z D1.mem D2.mem D1.sub D2.sub
    have lx := (List.getElem?_eq_some_iff.mp hx).1
    have ly := (List.getElem?_eq_some_iff.mp hy).1
    obtain ⟨x0, y0, hTO0⟩ := id hTO
    have lt : ∀ {c : Addr} {o : Obj}, s.heap.get? c = some o → s.heap.objs.size ≠ c := fun e => Nat.ne_of_gt (Heap.lt_size e)
    refine wpAny_pyNext_zipD2_item S D1.D D2.D hz hTI hTO0 st1 st2 (by omega) (by omega) fun u1 u2 h₁ tk p1 p2 b1 b2 d1 d2 b5 b6 hk => ?_
    refine ⟨.ref s.heap.objs.size, rfl, ?_⟩
    refine wpAny_letOwnedTupleGo_zip b1 fun h' hz' hs' => ?_
    · have hT : s.heap.objs.size ≤ s.heap.objs.size := Nat.le_refl _
      obtain ⟨v1, e1, r1⟩ := D1.val i u1 p1
      obtain ⟨v2, e2, r2⟩ := D2.val i u2 p2
      have ho := hs'.extBut _ _ (lt hz) b5
      have new : ObjOk X.prog X.w (upd H s.heap.objs.size (.frz { cls := .type "tuple", data := .seq #[u1, u2] } (.tup [v1, v2]))) h' s.heap.objs.size (.frz { cls := .type "tuple", data := .seq #[u1, u2] } (.tup [v1, v2])) := ⟨ho, by show 2 ≤ sizeLine; decide, [u1, u2], .cons r1 (.cons r2 .nil), ⟨_, ho, rfl, _, rfl⟩⟩
      have I1 : Inv X pins σ (upd H s.heap.objs.size (.frz { cls := .type "tuple", data := .seq #[u1, u2] } (.tup [v1, v2]))) { s with heap := h', toks := tk } :=
        I.turnedNew (ch := [z, TI, TO, i1, i2]) (fun c o hb q => by
          simp only [List.mem_cons, List.not_mem_nil, or_false, not_or] at hb
          exact hs'.extBut _ _ hb.1 (hk c o hb.1 hb.2.2.1 hb.2.2.2.1 hb.2.2.2.2 q)) hf hT new
      have a1 := hz'
      have a2 := hs'.extBut _ _ S.TIz (hk _ _ S.TIz S.TITO S.TIi1 S.TIi2 hTI)
      have a3 := hs'.extBut _ _ S.TOz b2
      have a4 := D1.D.over d1 hs' S.zf1
      have a5 := D2.D.over d2 hs' S.zf2
      refine ⟨.ref s.heap.objs.size, _, I1, rfl, ⟨s.heap.objs.size, _, v1, v2, rfl, rfl, I.hok.fresh hT, rfl, fun l hl => by rw [Src.inj I hl hqx]; exact e1, fun l hl => by rw [Src.inj I hl hqy]; exact e2⟩, ⟨a1, a2, ⟨_, _, a3⟩, D1.back _ _ a4, D2.back _ _ a5⟩, fun c hcm => ?_⟩
      have hlt : c < s.heap.objs.size := by
        obtain ⟨x0, y0, hTO⟩ := hTO
        simp only [List.mem_cons, List.not_mem_nil, or_false] at hcm
        rcases hcm with q | q | q | q | q <;> rw [q]
        · exact Heap.lt_size hz
        · exact Heap.lt_size hTI
        · exact Heap.lt_size hTO
        · exact D1.low _ _ st1 _ D1.mem
        · exact D2.low _ _ st2 _ D2.mem
      rw [upd_ne (Nat.ne_of_lt (Nat.lt_of_lt_of_le hlt hT))]
      exact (hf c hcm).1
  done := by
    intro X hP hw hK hc i pins s σ H E I hf st hg
    subst hP hw hK
    obtain ⟨hz, hTI, hTO, h1, h2⟩ := st
    obtain ⟨xs, ys, hqx, hqy, hend⟩ := hg
    have hh : X.A.in1.handled = none := I.ok.hd hc
    obtain ⟨fp1, P1, St1, D1, st1⟩ := Src.drw I hh hqx h1 (Z.ra i1 (by simp))
    obtain ⟨fp2, P2, St2, D2, st2⟩ := Src.drw I hh hqy h2 (Z.rb i2 (by simp))
    have G := GoesN.zip2 (elts := elts) (x1 := kk) (pos := tpos) (sep_of Z D1.mem D2.mem D1.sub D2.sub) D1.D D2.D
    subst hend
    exact G.stops s _ E ⟨hz, hTI, hTO, st1, st2⟩ fun h' tk keep _ => I.turnedL (ch := [z, TI, TO, i1, i2]) (fun c o hb q => keep c o (fun hm => hb (by simp only [List.mem_cons, List.not_mem_nil, or_false] at hm ⊢; rcases hm with q | q | q | q <;> simp [q])) q) hf
  self := fun A i s Q E st h => wpAny_pyIter_zip st.1 h
/-- how a source's iterator begins -/
theorem Src.begins (I : Inv X pins σ H s) : ∀ {x : Src} {xs : List V} {u : Value}, x.holds X.K H xs → RelV x.v u → ∃ o Hh, Begins u o Hh ∧ Hh s.heap ∧ ∀ (h : Heap) (it : Addr), h.get? it = some o → x.iter h it 0
  | .ls a, xs, u, h, r => by
    cases r
    obtain ⟨its, rv, p, _⟩ := I.list h
    exact ⟨_, _, begins_list a its.toArray, p.isList, fun h it e => ⟨_, e, rfl, rfl⟩⟩
  | .tp a, xs, u, h, r => by
    cases r
    obtain ⟨its, rv, p, _⟩ := I.tuple h
    exact ⟨_, _, begins_tuple a its.toArray, p, fun h it e => ⟨_, e, rfl, rfl⟩⟩
  | .tx z, xs, u, h, r => by
    obtain ⟨t, rfl⟩ := r
    exact ⟨_, _, begins_text z t, trivial, fun h it e => ⟨t, _, e, rfl, rfl⟩⟩
theorem Src.low (I : Inv X pins σ H s) : ∀ {x : Src} {xs : List V} {a : Addr}, x.holds X.K H xs → x.ref = some a → a < s.heap.objs.size
  | .ls a, xs, b, h, e => by
    cases e
    obtain ⟨its, rv, p, _⟩ := I.list h
    obtain ⟨o, e, _⟩ := p.isList
    exact Heap.lt_size e
  | .tp a, xs, b, h, e => by
    cases e
    obtain ⟨its, rv, ⟨o, e, _⟩, _⟩ := I.tuple h
    exact Heap.lt_size e
  | .tx z, xs, b, h, e => by cases e
def iZipG (K : PySem.W.Frag) (ta : TA) : TI := fun σ H R => ta σ H fun vs H1 => ∃ (a b : Src) (xs ys : List V), vs = [a.v, b.v] ∧ a.holds K H1 xs ∧ b.holds K H1 ys ∧ R (ItzG K a b) H1
theorem pi_zipG {e e2 : Expr} {ta : TA} {p pos tpos : Pos} {elts : List Expr} {kk : Nat} (hg : Gl X "zip") (hm : X.mg "zip" = none) (ha : PA X [e, e2] ta)
    (hs : starEach [e, e2] X.env = (false, eval e X.env) :: starEach [e2] X.env := by rfl) (hpl : (backTo pos (starEach [e2] X.env)).any (·.1) = false := by rfl) :
    PI X (.Tuple elts kk tpos) (.Call (.Name "zip" p) [e, e2] [] pos) (iZipG X.K ta) := by
  refine ⟨fun pins s σ H R I h => Call_ (ld_blt I hg hm PyProof.Rows.boot_zip (PyProof.Rows.callWith_type1 (thn (ha.run pos pins s σ H _ I h) fun us s1 ⟨vs, H1, I1, r1, q1⟩ => ?_) hs hpl))⟩
  obtain ⟨a, b, xs, ys, ex, h1, h2, q⟩ := q1
  subst ex
  cases r1 with
  | cons ra rr =>
    cases rr with
    | cons rb rr =>
      cases rr
      obtain ⟨o1, B1, b1, k1, i1⟩ := Src.begins I1 h1 ra
      obtain ⟨o2, B2, b2, k2, i2⟩ := Src.begins I1 h2 rb
      refine zip_begins2 b1 b2 k1 k2 fun h' hz hTI hTO g1 g2 hsz hk => wpAny_pyIter_zip hz ?_
      have I2 : Inv X pins σ H1 { s1 with heap := h' } := I1.kept (t' := s1.toks) hk
      have fr : ∀ c ∈ [s1.heap.objs.size + 4, s1.heap.objs.size + 2, s1.heap.objs.size + 3, s1.heap.objs.size, s1.heap.objs.size + 1], s1.heap.objs.size ≤ c := fun c hc => by
        simp only [List.mem_cons, List.not_mem_nil, or_false] at hc
        rcases hc with z | z | z | z | z <;> rw [z]
        · exact Nat.le_add_right _ _
        · exact Nat.le_add_right _ _
        · exact Nat.le_add_right _ _
        · exact Nat.le_refl _
        · exact Nat.le_add_right _ _
      have ap : ∀ {x : Src} {l : List V}, x.holds X.K H1 l → ∀ c ∈ [s1.heap.objs.size + 4, s1.heap.objs.size + 2, s1.heap.objs.size + 3, s1.heap.objs.size, s1.heap.objs.size + 1], x.ref ≠ some c := fun hx c hc z => absurd (Src.low I1 hx z) (Nat.not_lt.mpr (fr c hc))
      have ne : ∀ i j : Nat, i ≠ j → (s1.heap.objs.size + i : Nat) ≠ s1.heap.objs.size + j := fun i j h e => h (Nat.add_left_cancel e)
      refine ⟨s1.heap.objs.size + 4, [s1.heap.objs.size + 4, s1.heap.objs.size + 2, s1.heap.objs.size + 3, s1.heap.objs.size, s1.heap.objs.size + 1], _, _, H1, rfl, I2, turn_zipG (a := a) (b := b)
        { TIz := ne 2 4 (by decide), TOz := ne 3 4 (by decide), TITO := ne 2 3 (by decide), TIi1 := ne 2 0 (by decide), TIi2 := ne 2 1 (by decide), TOi1 := ne 3 0 (by decide), TOi2 := ne 3 1 (by decide), zi1 := ne 4 0 (by decide), zi2 := ne 4 1 (by decide), i12 := ne 0 1 (by decide), ra := ap h1, rb := ap h2 },
        ⟨hz, hTI, ⟨_, _, hTO⟩, i1 _ _ g1, i2 _ _ g2⟩, fun c hc => I1.fpOk (fr c hc) (I1.hok.fresh (fr c hc)), q⟩
def IteG (K : PySem.W.Frag) (a : Src) : It :=
  ⟨fun i H => ∃ (xs : List V) (x : V), a.holds K H xs ∧ xs[i]? = some x,
    fun i H v H' => ∃ T x, v = .ref T ∧ H T = none ∧ H' = upd H T (.tup [.int (i : Nat), x]) ∧ ∀ xs, a.holds K H xs → xs[i]? = some x,
    fun i H => ∃ xs : List V, a.holds K H xs ∧ i = xs.length⟩
theorem turn_enumG {P : Program} {w : World} {K : PySem.W.Frag} {elts : List Expr} {kk : Nat} {tpos : Pos} {a : Src} {e it : Addr} (hne : e ≠ it) (ra : ∀ c ∈ [e, it], a.ref ≠ some c) :
    Turn P w K (.Tuple elts kk tpos) (IteG K a) [e, it] e (fun i h => (∃ old, IsEnum h e it ((i : Nat) : Int) old) ∧ a.iter h it i) where
  mem := by simp
  obj := fun i h st c hc => by
    obtain ⟨⟨old, he⟩, h1⟩ := st
    simp only [List.mem_cons, List.not_mem_nil, or_false] at hc
    rcases hc with q | q <;> rw [q]
    · exact ⟨_, he, fun v q => nomatch q⟩
    · exact Src.iter_obj h1
  keep := fun i h h' st k => ⟨let ⟨old, he⟩ := st.1; ⟨old, k e (by simp) _ he⟩, Src.iter_at st.2 fun o q => k it (by simp) o q⟩
  item := by
    intro X hP hw hK hc i pins s σ H E I hf st hg
    subst hP hw hK
    obtain ⟨⟨old, he⟩, h1⟩ := st
    obtain ⟨xs, x, hqx, hx⟩ := hg
    have hh : X.A.in1.handled = none := I.ok.hd hc
    obtain ⟨fp1, P1, St1, D1, st1⟩ := Src.drw I hh hqx h1 (ra it (by simp))
    have G := GoesN.enumFrom (elts := elts) (x1 := kk) (pos := tpos) 0 D1.D e hne (fun hm => (D1.sub _ hm).elim hne (ra e (by simp))) D1.mem
    have lx := (List.getElem?_eq_some_iff.mp hx).1
    refine wpAny_mono (G.goes i s (fun v s2 => ∃ x H', Inv X pins σ H' s2 ∧ RelV x v ∧ (IteG X.K a).yld i H x H' ∧ ((∃ old, IsEnum s2.heap e it ((i + 1 : Nat) : Int) old) ∧ a.iter s2.heap it (i + 1)) ∧ ∀ b ∈ [e, it], H' b = none) E lx ⟨⟨old, by rw [Int.zero_add]; exact he⟩, st1⟩ fun v h' tk Y St' keep _ => ?_) (fun r s1 h => ?_) (fun _ _ h => h)
    · obtain ⟨T, t, u1, rfl, hT, p1, tT⟩ := Y
      obtain ⟨v1, e1, r1⟩ := D1.val i u1 p1
      obtain ⟨o, ho, hcl, n, hd⟩ := id tT
      have new : ObjOk X.prog X.w (upd H T (.tup [.int (i : Nat), v1])) h' T (.tup [.int (i : Nat), v1]) := ⟨by show 2 ≤ sizeLine; decide, [.int (0 + (i : Int)) t, u1], .cons ⟨t, by rw [Int.zero_add]⟩ (.cons r1 .nil), ⟨o, ho, hcl, n, hd⟩⟩
      have I1 : Inv X pins σ (upd H T (.tup [.int (i : Nat), v1])) { s with heap := h', toks := tk } := I.turnedNew (ch := [e, it]) (fun c o hb q => keep c o hb q) hf hT new
      obtain ⟨⟨old2, a1⟩, a4⟩ := St'
      rw [Int.zero_add] at a1
      refine ⟨.ref T, _, I1, rfl, ⟨T, v1, rfl, I.hok.fresh hT, rfl, fun l hl => by rw [Src.inj I hl hqx]; exact e1⟩, ⟨⟨old2, a1⟩, D1.back _ _ a4⟩, fun c hcm => ?_⟩
      have hlt : c < s.heap.objs.size := by
        simp only [List.mem_cons, List.not_mem_nil, or_false] at hcm
        rcases hcm with q | q <;> rw [q]
        · exact Heap.lt_size he
        · exact D1.low _ _ st1 _ D1.mem
      rw [upd_ne (Nat.ne_of_lt (Nat.lt_of_lt_of_le hlt hT))]
      exact (hf c hcm).1
    · obtain ⟨v, e, q⟩ := h
      exact ⟨v, e, q⟩
  done := by
    intro X hP hw hK hc i pins s σ H E I hf st hg
    subst hP hw hK
    obtain ⟨⟨old, he⟩, h1⟩ := st
    obtain ⟨xs, hqx, hend⟩ := hg
    have hh : X.A.in1.handled = none := I.ok.hd hc
    obtain ⟨fp1, P1, St1, D1, st1⟩ := Src.drw I hh hqx h1 (ra it (by simp))
    have G := GoesN.enumFrom (elts := elts) (x1 := kk) (pos := tpos) 0 D1.D e hne (fun hm => (D1.sub _ hm).elim hne (ra e (by simp))) D1.mem
    subst hend
    exact G.stops s _ E ⟨⟨old, by rw [Int.zero_add]; exact he⟩, st1⟩ fun h' tk keep _ => I.turnedL (ch := [e, it]) (fun c o hb q => keep c o hb q) hf
  self := fun A i s Q E st h => let ⟨⟨_, he⟩, _⟩ := st; wpAny_pyIter_enum he h
theorem meets_enum1 {v : Value} {o : Obj} {Hh : Heap → Prop} (B : Begins v o Hh) : Meets (Builtin.«enumerate.__new__» ⟨[.type "enumerate", v], []⟩) (fun _ R s => Hh s.heap ∧
      R (.ok (.ret (.ref (s.heap.push o).objs.size))) { s with heap := (s.heap.push o).push { cls := .type "enumerate", data := .fields #[.none, .bool false, .ref s.heap.objs.size, rawInt 0, .none, .none] } }) :=
  .of_wp fun prog w A R s h => by
    obtain ⟨hp, g, d, tk, os⟩ := s
    obtain ⟨h1, h⟩ := h
    have sub := sub_enumerate
    have begun : ∀ {A1 : Around} {E Q : Value → Shared → Prop}, Q (.ref hp.objs.size) ⟨hp.push o, g, d, tk, os⟩ → wpAny (model prog w) A1 (pyIter v) Q E ⟨hp, g, d, tk, os⟩ := fun q => B.iter prog w _ _ ⟨hp, g, d, tk, os⟩ _ h1 q
    wp_walk using begun
    refine wpAny_stack_any fun st => wpAny_pure ?_
    split
    · rename_i c _ _ _ _ _
      cases (c == Value.type "enumerate") <;> (wp_walk using begun; exact ⟨_, rfl, h⟩)
    · wp_walk using begun
      exact ⟨_, rfl, h⟩
theorem enum_begins1 {prog : Program} {w : World} {A : Around} {E : Value → Shared → Prop} {s : Shared} {v : Value} {o : Obj} {Hh : Heap → Prop} {Q : Value → Shared → Prop} (B : Begins v o Hh) (h1 : Hh s.heap)
    (h : ∀ h', IsEnum h' (s.heap.objs.size + 1) s.heap.objs.size 0 .none → h'.get? s.heap.objs.size = some o → (∀ b o, s.heap.get? b = some o → h'.get? b = some o) → Q (.ref (s.heap.objs.size + 1)) { s with heap := h' }) :
    wpAny (model prog w) A (call (.type "enumerate") [v]) Q E s := by
  refine callType_new F.called_enumerate (by decide) (F.typeCall_enumerate_1 _) (F.newCall_enumerate_1 _) (fun obj => F.args_object_init_2 obj _) F.entry_enumerate_new (meets_enum1 B) ⟨h1, ?_⟩
  have z1 : (s.heap.push o).objs.size = s.heap.objs.size + 1 := Heap.size_push ..
  show _ ∧ _
  rw [z1]
  have en := Heap.get?_push_size (s.heap.push o) (o := { cls := .type "enumerate", data := .fields #[.none, .bool false, .ref s.heap.objs.size, rawInt 0, .none, .none] }) rfl
  rw [z1] at en
  exact ⟨⟨_, en, rfl⟩, h _ en (Heap.get?_push_of_some _ (Heap.get?_push_size _ B.free)) fun b o x => Heap.get?_push_of_some _ (Heap.get?_push_of_some _ x)⟩
def iEnumG (K : PySem.W.Frag) (ta : TA) : TI := fun σ H R => ta σ H fun vs H1 => ∃ (a : Src) (xs : List V), vs = [a.v] ∧ a.holds K H1 xs ∧ R (IteG K a) H1
theorem pi_enumG {e : Expr} {ta : TA} {p pos tpos : Pos} {elts : List Expr} {kk : Nat} (hg : Gl X "enumerate") (hm : X.mg "enumerate" = none) (ha : PA X [e] ta) (hs : starEach [e] X.env = [(false, eval e X.env)] := by rfl) :
    PI X (.Tuple elts kk tpos) (.Call (.Name "enumerate" p) [e] [] pos) (iEnumG X.K ta) := by
  refine ⟨fun pins s σ H R I h => Call_ (ld_blt I hg hm boot_enumerate (PyProof.Rows.callWith_type1 (thn (ha.run pos pins s σ H _ I h) fun us s1 ⟨vs, H1, I1, r1, q1⟩ => ?_) hs rfl))⟩
  obtain ⟨a, xs, ex, h1, q⟩ := q1
  subst ex
  cases r1 with
  | cons ra rr =>
    cases rr
    obtain ⟨o1, B1, b1, k1, i1⟩ := Src.begins I1 h1 ra
    refine enum_begins1 b1 k1 fun h' he g1 hk => wpAny_pyIter_enum he ?_
    have I2 : Inv X pins σ H1 { s1 with heap := h' } := I1.kept (t' := s1.toks) hk
    have fr : ∀ c ∈ [s1.heap.objs.size + 1, s1.heap.objs.size], s1.heap.objs.size ≤ c := fun c hc => by
      simp only [List.mem_cons, List.not_mem_nil, or_false] at hc
      rcases hc with z | z <;> rw [z]
      · exact Nat.le_add_right _ _
      · exact Nat.le_refl _
    exact ⟨s1.heap.objs.size + 1, [s1.heap.objs.size + 1, s1.heap.objs.size], _, _, H1, rfl, I2, turn_enumG (a := a) (Nat.succ_ne_self _) (fun c hc z => absurd (Src.low I1 h1 z) (Nat.not_lt.mpr (fr c hc))), ⟨⟨.none, he⟩, i1 _ _ g1⟩, fun c hc => I1.fpOk (fr c hc) (I1.hok.fresh (fr c hc)), q⟩
end
end AL
namespace AL
open PySem PySem.Spec PyProof.Rows L2
variable {B : Bs}
section
variable {X : Cx} {pos : Pos} {K : PySem.W.Frag}
def srcD (C : AH) : D → Option (List D)
  | .str z => some (signs z)
  | .tup ds => some ds
  | d => asLr C d
theorem src_ok {F : Hp} {C : AH} {R H : Hp} {v : V} {d : D} {ds : List D} (hS : Sat B K F C R H) (r : Rep K F v d) (h : srcD C d = some ds) :
    ∃ a : Src, v = a.v ∧ ∀ F' C' R' H', Ex F F' → Sat B K F' C' R' H' → srcD C' d = some ds → ∃ xs, a.holds K H' xs ∧ RepL K F' xs ds := by
  cases d with
  | str z =>
    cases r
    exact ⟨.tx z, rfl, fun F' C' R' H' _ _ h' => ⟨_, rfl, by cases h'; exact signs_rep z⟩⟩
  | tup us =>
    obtain ⟨p, xs, e1, h1, h2⟩ := asT_ok hS r rfl
    refine ⟨.tp p, e1, fun F' C' R' H' e S' h' => ?_⟩
    cases h'
    obtain ⟨p', xs', e2, h3, h4⟩ := asT_ok S' (r.mono e) rfl
    rw [e1] at e2; cases e2
    exact ⟨xs', SqT.of h3, h4⟩
  | _ =>
    obtain ⟨p, xs, e1, h1, h2⟩ := asLr_ok hS r (show asLr C _ = some ds from h)
    refine ⟨.ls p, e1, fun F' C' R' H' e S' h' => ?_⟩
    obtain ⟨p', xs', e2, h3, h4⟩ := asLr_ok S' (r.mono e) (show asLr C' _ = some ds from h')
    rw [e1] at e2; cases e2
    exact ⟨xs', h3, h4⟩
def aIZG (a : AA') : AI' := fun s C P => a s C fun us C1 => match us with | [x, y] => (match srcD C1 x, srcD C1 y with | some ds, some es => P (zipD ds es) (fun C' => srcD C' x = some ds ∧ srcD C' y = some es) C1 | _, _ => False) | _ => False
theorem ai_zipG {e e2 : Expr} {elts : List Expr} {kk n : Nat} {tpos p : Pos} {ta : TA} {a : AA'} (hm : X.mg "zip" = none) (h : AA B X [e, e2] n ta a) (hg : Gl X "zip" := by rfl) (hs : starEach [e, e2] X.env = (false, eval e X.env) :: starEach [e2] X.env := by rfl) (hpl : (backTo pos (starEach [e2] X.env)).any (·.1) = false := by rfl) (hK : X.K = K := by rfl) :
    AI B X (.Tuple elts kk tpos) (.Call (.Name "zip" p) [e, e2] [] pos) (iZipG K ta) (aIZG a) := by
  subst hK
  exact ⟨pi_zipG hg hm h.pa hs hpl, by
  intro σ s F C R H Q P hs hS h0 k
  refine h.sim σ s F C R H _ _ hs hS h0 fun us vs F1 C1 H1 e1 S1 r0 hl h1 => ?_
  split at h1
  · rename_i x y
    cases r0 with
    | cons r1 r2 =>
      cases r2 with
      | cons r2 r3 =>
      cases r3
      split at h1
      · rename_i ds es q q2
        obtain ⟨a, e2, l1⟩ := src_ok S1 r1 q
        obtain ⟨b, e3, l2⟩ := src_ok S1 r2 q2
        obtain ⟨xs, g1, g2⟩ := l1 F1 C1 R H1 (Ex.refl F1) S1 q
        obtain ⟨ys, g3, g4⟩ := l2 F1 C1 R H1 (Ex.refl F1) S1 q2
        refine ⟨a, b, xs, ys, by rw [e2, e3], g1, g3, k _ _ _ F1 C1 H1 e1 S1 ⟨fun F' C' R' H' e S hc => ?_, fun F' C' R' H' i e S hc hi => ?_, fun F' C' R' H' i x H'' e S hc hi y => ?_⟩ h1⟩
        · obtain ⟨xs', h4, h5⟩ := l1 F' C' R' H' e S hc.1
          obtain ⟨ys', g4, g5⟩ := l2 F' C' R' H' e S hc.2
          refine ⟨xs', ys', h4, g4, ?_⟩
          rw [h5.length, g5.length, zipD_len]
        · obtain ⟨xs', h4, h5⟩ := l1 F' C' R' H' e S hc.1
          obtain ⟨ys', g4, g5⟩ := l2 F' C' R' H' e S hc.2
          rw [zipD_len] at hi
          exact ⟨xs', ys', xs'[i]'(by rw [h5.length]; omega), ys'[i]'(by rw [g5.length]; omega), h4, g4, by simp, by simp⟩
        · obtain ⟨xs', h4, h5⟩ := l1 F' C' R' H' e S hc.1
          obtain ⟨ys', g4, g5⟩ := l2 F' C' R' H' e S hc.2
          obtain ⟨T, ob, v, w', y1, hob, y2, y3, y4, y5⟩ := y
          subst y1; subst y3
          obtain ⟨d, h6, h7⟩ := h5.get (y4 xs' h4)
          obtain ⟨d2, g6, g7⟩ := g5.get (y5 ys' g4)
          have eN := Ex.new (o := .frz ob (.tup [v, w'])) (S.freeF y2)
          exact ⟨_, _, zipD_get h6 g6, eN, S.newF y2 _, .tup (.frz hob upd_same) (.cons (h7.mono eN) (.cons (g7.mono eN) .nil))⟩
      · exact h1.elim
  · exact h1.elim⟩
def aIEG (a : AA') : AI' := fun s C P => a s C fun us C1 => match us with | [x] => (match srcD C1 x with | some ds => P (enumD ds) (fun C' => srcD C' x = some ds) C1 | none => False) | _ => False
theorem ai_enumG {e : Expr} {elts : List Expr} {kk n : Nat} {tpos p : Pos} {ta : TA} {a : AA'} (hm : X.mg "enumerate" = none) (h : AA B X [e] n ta a) (hg : Gl X "enumerate" := by rfl) (hs : starEach [e] X.env = [(false, eval e X.env)] := by rfl) (hK : X.K = K := by rfl) : AI B X (.Tuple elts kk tpos) (.Call (.Name "enumerate" p) [e] [] pos) (iEnumG K ta) (aIEG a) := by
  subst hK
  exact ⟨pi_enumG hg hm h.pa hs, by
  intro σ s F C R H Q P hs hS h0 k
  refine h.sim σ s F C R H _ _ hs hS h0 fun us vs F1 C1 H1 e1 S1 r0 hl h1 => ?_
  split at h1
  · rename_i x
    cases r0 with
    | cons r1 r2 =>
      cases r2
      split at h1
      · rename_i ds q
        obtain ⟨a, e2, l1⟩ := src_ok S1 r1 q
        obtain ⟨xs, g1, g2⟩ := l1 F1 C1 R H1 (Ex.refl F1) S1 q
        refine ⟨a, xs, by rw [e2], g1, k _ _ _ F1 C1 H1 e1 S1 ⟨fun F' C' R' H' e S hc => ?_, fun F' C' R' H' i e S hc hi => ?_, fun F' C' R' H' i x H'' e S hc hi y => ?_⟩ h1⟩
        · obtain ⟨xs', h4, h5⟩ := l1 F' C' R' H' e S hc
          exact ⟨xs', h4, by rw [h5.length, enumD_len]⟩
        · obtain ⟨xs', h4, h5⟩ := l1 F' C' R' H' e S hc
          rw [enumD_len] at hi
          exact ⟨xs', xs'[i]'(by rw [h5.length]; exact hi), h4, by simp⟩
        · obtain ⟨xs', h4, h5⟩ := l1 F' C' R' H' e S hc
          obtain ⟨T, v, y1, y2, y3, y4⟩ := y
          subst y1; subst y3
          obtain ⟨d, h6, h7⟩ := h5.get (y4 xs' h4)
          have eN := Ex.new (o := .tup [.int (i : Nat), v]) (S.freeF y2)
          exact ⟨_, _, enumD_get h6, eN, S.newF y2 _, .tup ⟨.inl upd_same, fun z => by cases z⟩ (.cons (.int _) (.cons (h7.mono eN) .nil))⟩
      · exact h1.elim
  · exact h1.elim⟩
end
section
variable {s : ASt} {C : AH} {P : D → AH → Prop} {aa : AA'} {PI : List D → (AH → Prop) → AH → Prop}
def kIZG (PI : List D → (AH → Prop) → AH → Prop) : List D → AH → Prop := fun us C1 => match us with | [x, y] => (match srcD C1 x, srcD C1 y with | some ds, some es => PI (zipD ds es) (fun C' => srcD C' x = some ds ∧ srcD C' y = some es) C1 | _, _ => False) | _ => False
theorem g_izG (h : aa s C (kIZG PI)) : aIZG aa s C PI := h
theorem g_kIZG {x y : D} {ds es : List D} (h1 : ∀ C' : AH, srcD C' x = some ds) (h2 : ∀ C' : AH, srcD C' y = some es) (h : PI (zipD ds es) (fun _ => True) C) : kIZG PI [x, y] C := by
  unfold kIZG
  simp only [h1, h2]
  have m : (fun _ : AH => True) = fun _ : AH => (True ∧ True) := by funext C'; simp
  rw [← m]
  exact h
def kIEG (PI : List D → (AH → Prop) → AH → Prop) : List D → AH → Prop := fun us C1 => match us with | [x] => (match srcD C1 x with | some ds => PI (enumD ds) (fun C' => srcD C' x = some ds) C1 | none => False) | _ => False
theorem g_ieG (h : aa s C (kIEG PI)) : aIEG aa s C PI := h
theorem g_kIEG {x : D} {ds : List D} (h1 : ∀ C' : AH, srcD C' x = some ds) (h : PI (enumD ds) (fun _ => True) C) : kIEG PI [x] C := by
  unfold kIEG
  simp only [h1]
  exact h
end
end AL
namespace AL
open PySem PySem.Spec PyProof.Rows L2
variable {B : Bs}
section
variable {X : Cx} {pos : Pos} {K : PySem.W.Frag}
def aStartswith : D → ASp := fun x ds C P => match x, ds with
  | .str a, [.str b] => P (.bl (Txt.startswith a b)) C
  | _, _ => False
theorem am_startswith : AMt B X "str.startswith" (fun x xs H Q => ∃ a b, x = .str a ∧ xs = [.str b] ∧ Q (.bl (Txt.startswith a b)) H) aStartswith := ⟨fun pins s σ H x xs v us Q I r1 r2 h => mt_startswith pins s σ H x xs v us Q I r1 r2 h, by
  intro v d vs ds F C R H Q P hS r1 r2 h k
  unfold aStartswith at h
  split at h
  · cases r1
    cases r2 with
    | cons r2 r3 =>
      cases r3
      cases r2
      exact ⟨_, _, rfl, rfl, k _ _ F C H (Ex.refl F) hS (.bl _) h⟩
  · exact h.elim⟩
end
section
variable {C : AH} {P : D → AH → Prop}
theorem g_starts {a b : Str} (h : P (.bl (decide (a.cps.toList.take b.length = b.cps.toList))) C) : aStartswith (.str a) [.str b] C P := by
  show P (.bl (Txt.startswith a b)) C
  have e : Txt.startswith a b = decide (a.cps.toList.take b.length = b.cps.toList) := by
    unfold Txt.startswith
    rw [PySem.StrLaws.subAt_eq]
    rw [Bool.eq_iff_iff, Bool.and_eq_true, decide_eq_true_eq, decide_eq_true_eq, beq_iff_eq, List.drop_zero]
    refine ⟨fun z => z.2, fun z => ⟨?_, z⟩⟩
    have := congrArg List.length z
    rw [List.length_take] at this
    have h1 : b.length = b.cps.toList.length := by show b.cps.size = _; simp
    have h2 : a.length = a.cps.toList.length := by show a.cps.size = _; simp
    omega
  rw [e]; exact h
end
end AL
namespace AL
open PySem PySem.Spec PyProof.Rows L2
end AL
namespace AL
open PySem PySem.Spec PyProof.Rows L2
end AL
namespace AL
open PySem PySem.Spec PyProof.Rows L2
variable {B : Bs}
def ddS (σ : List Str) (v : Str) : List Str := if σ.any (· == v) then σ else σ ++ [v]
def dd (xs : List Str) : List Str := xs.foldl ddS []
/-- the signs of a text, as texts -/
def sgS (z : Str) : List Str := z.cps.toList.map fun c => ⟨#[c]⟩
section
variable {prog : Program} {w : World} {A : Around} {R : Result → Shared → Prop} {I : Addr} {fp wr : List Addr} {G : Array GenState → Array GenState → Prop} {n : Nat} {P : Nat → Value → Prop} {St : Nat → Shared → Prop}
abbrev SetS (prog : Program) (w : World) (h : Heap) (S : Addr) (xs : List Str) : Prop := h.SetOf (PySem.strKind prog w) S (fun k => (dd xs).any (· == k)) (dd xs).length
theorem SetS.keep {h h' : Heap} {S : Addr} {xs : List Str} (q : SetS prog w h S xs) (hk : ∀ o, h.get? S = some o → h'.get? S = some o) : SetS prog w h' S xs := by
  obtain ⟨o, es, ep, t, ho, r⟩ := q
  exact ⟨o, es, ep, t, hk _ ho, r⟩
end
end AL
namespace AL
open PySem PySem.Spec PyProof.Rows L2
variable {B : Bs}
section
variable {X : Cx} {K : PySem.W.Frag}
def aLenSet (a : AE') : AE' := fun s C P => a s C fun x C1 => match x with | .str z => z.length ≤ 4000 ∧ P (.int (dd (sgS z)).length) C1 | _ => False
end
section
variable {C : AH} {P : D → AH → Prop} {s : ASt} {e : AE'}
def kLenSet (P : D → AH → Prop) : D → AH → Prop := fun x C1 => match x with | .str z => z.length ≤ 4000 ∧ P (.int (dd (sgS z)).length) C1 | _ => False
theorem g_lenSet (h : e s C (kLenSet P)) : aLenSet e s C P := h
end
end AL
namespace AL
open PySem PySem.Spec PyProof.Rows L2
variable {B : Bs}
def tabAt : List (Str × Int) → Str → Option Int
  | [], _ => none
  | (x, i) :: q, z => if x = z then some i else tabAt q z
section
variable {X : Cx} {K : PySem.W.Frag} {x : Str} {d : Addr} {tab : List (Str × Int)} {e : Expr} {te : TE} {a : AE'} {p pos : Pos}
def aInTab (tab : List (Str × Int)) (neg : Bool) (a : AE') : AE' := fun s C P => a s C fun x C1 => match x with | .str z => P (.bl (if neg then !(tabAt tab z).isSome else (tabAt tab z).isSome)) C1 | _ => False
def aIxTab (tab : List (Str × Int)) (a : AE') : AE' := fun s C P => a s C fun x C1 => match x with | .str z => (match tabAt tab z with | some i => P (.int i) C1 | none => False) | _ => False
end
section
variable {C : AH} {P : D → AH → Prop} {s : ASt} {e : AE'} {tab : List (Str × Int)}
def kInTab (tab : List (Str × Int)) (neg : Bool) (P : D → AH → Prop) : D → AH → Prop := fun x C1 => match x with | .str z => P (.bl (if neg then !(tabAt tab z).isSome else (tabAt tab z).isSome)) C1 | _ => False
def kIxTab (tab : List (Str × Int)) (P : D → AH → Prop) : D → AH → Prop := fun x C1 => match x with | .str z => (match tabAt tab z with | some i => P (.int i) C1 | none => False) | _ => False
theorem g_inTab {neg : Bool} (h : e s C (kInTab tab neg P)) : aInTab tab neg e s C P := h
theorem g_kInTab {z : Str} (h : P (.bl (tabAt tab z).isSome) C) : kInTab tab false P (.str z) C := h
theorem g_kNotInTab {z : Str} (h : P (.bl (!(tabAt tab z).isSome)) C) : kInTab tab true P (.str z) C := h
theorem g_ixTab (h : e s C (kIxTab tab P)) : aIxTab tab e s C P := h
end
end AL
namespace AL
open PySem PySem.Spec PyProof.Rows L2
variable {B : Bs}
def rEqE (K : PySem.W.Frag) (neg : Bool) : R2 := fun x y H Q => ∃ a b xs, x = .ref a ∧ y = .ref b ∧ SqL K H a xs ∧ SqL K H b [] ∧ Q (.bl (if neg then !xs.isEmpty else xs.isEmpty)) H
section
variable {X : Cx} {K : PySem.W.Frag}
theorem op_eqE (hu : X.A.units + 64 < cLine) : OpR X (compareOp .Eq) (rEqE X.K false) := by
  intro pins s σ H x y v u Q I rx ry h
  obtain ⟨a, b, xs, rfl, rfl, h1, h2, q⟩ := h
  cases xs with
  | nil => exact op_eqD hu pins s σ H _ _ v u Q I rx ry ⟨.list [], .list [], .lst h1 .nil, .lst h2 .nil, rfl, rfl, q⟩
  | cons e es =>
    cases rx; cases ry
    obtain ⟨its, r, pl, _⟩ := I.list h1
    obtain ⟨its2, r2, pl2, _⟩ := I.list h2
    have l1 := r.length
    have l2 := r2.length
    refine SeqAt.RcAt.lists_lengths pl.isList pl2.isList ?_ (by omega) X.prog X.w _ _ ⟨.bl false, H, I, rfl, q⟩
    rw [List.size_toArray, List.size_toArray, ← l1, ← l2]
    simp
/-- the right side is [] -/
def aEqNil (neg : Bool) : D → D → AH → (D → AH → Prop) → Prop := fun x y C P => match asLr C x, y with
  | some us, .lst [] => P (.bl (if neg then !us.isEmpty else us.isEmpty)) C
  | _, _ => False
theorem sim_eqNil (neg : Bool) : SimR2 B K (rEqE K neg) (aEqNil neg) := by
  intro v w d e F C R H Q P hS r1 r2 h k
  unfold aEqNil at h
  split at h
  · rename_i us q
    obtain ⟨a, xs, e1, h1, h2⟩ := asLr_ok hS r1 q
    obtain ⟨b, ys, e2, h3, h4⟩ := asLr_ok (C := C) (d := .lst []) (ds := []) hS r2 rfl
    cases h4
    have he : xs.isEmpty = us.isEmpty := by cases h2 <;> rfl
    exact ⟨a, b, xs, e1, e2, h1, h3, k _ _ F C H (Ex.refl F) hS (by rw [he]; exact .bl _) h⟩
  · exact h.elim
theorem ao_eqNil (hu : X.A.units + 64 < cLine) (hK : X.K = K := by rfl) : AOp B X (compareOp .Eq) (rEqE K false) (aEqNil false) := by
  subst hK
  exact ⟨op_eqE hu, sim_eqNil false⟩
end
section
variable {C : AH} {P : D → AH → Prop}
theorem g_eqNil {us : List D} (h : P (.bl us.isEmpty) C) : aEqNil false (.lst us) (.lst []) C P := h
theorem g_neNil {us : List D} (h : P (.bl (!us.isEmpty)) C) : aEqNil true (.lst us) (.lst []) C P := h
end
section
variable {C : AH} {P : D → AH → Prop} {s : ASt} {a b c : AE'} {r r' : D → D → AH → (D → AH → Prop) → Prop}
def kChain (r' : D → D → AH → (D → AH → Prop) → Prop) (c : AE') (y : D) (s : ASt) (P : D → AH → Prop) : D → AH → Prop := fun z C3 => match z with
  | .bl true => c s C3 fun w C4 => r' y w C4 P
  | .bl false => P (.bl false) C3
  | _ => False
theorem g_chain (h : a s C fun x C1 => b s C1 fun y C2 => r x y C2 (kChain r' c y s P)) : aChain r r' a b c s C P := h
theorem g_kChain {y : D} {k : Bool} (h1 : k = true → c s C fun w C4 => r' y w C4 P) (h2 : k = false → P (.bl false) C) : kChain r' c y s P (.bl k) C := by
  cases k
  · exact h2 rfl
  · exact h1 rfl
end
end AL
namespace AL
open PySem PySem.Spec PyProof.Rows L2
end AL
namespace AL
open PySem PySem.Spec PyProof.Rows L2
end AL
namespace AL
open PySem PySem.Spec PyProof.Rows L2
variable {B : Bs}
section
variable {X : Cx} {K : PySem.W.Frag}
theorem RepK.keys {F : Hp} : ∀ {kvs : List (Key × V)} {es : List (Key × D)}, RepK K F kvs es → kvs.map (·.1) = es.map (·.1)
  | _, _, .nil => rfl
  | _, _, .cons _ t => by rw [List.map_cons, List.map_cons, RepK.keys t]
theorem RepL.times {F : Hp} {xs : List V} {ds : List D} (r : RepL K F xs ds) : ∀ n, RepL K F (List.replicate n xs).flatten (List.replicate n ds).flatten
  | 0 => .nil
  | n + 1 => by
    rw [List.replicate_succ, List.replicate_succ, List.flatten_cons, List.flatten_cons]
    exact r.append (RepL.times r n)
def aRepL (m : Bool) : D → D → AH → (D → AH → Prop) → Prop := fun x y C P => match y with
  | .int k => ∃ ds, asL C x = some ds ∧ -(2 ^ 63) ≤ k ∧ k < 2 ^ 63 ∧ ds.length * k.toNat ≤ sizeLine ∧ if m then ∀ p, C p = none → P (.ce p) (put C p (.lst (List.replicate k.toNat ds).flatten)) else P (.lst (List.replicate k.toNat ds).flatten) C
  | _ => False
theorem ao_repL {m : Bool} : AOp B X (binaryOp .Mult) L2.rRep (aRepL m) := ⟨op_rep, by
  intro v w d e F C R H Q P hS r1 r2 h k
  unfold aRepL at h
  split at h
  · rename_i y0 kk
    cases r2
    obtain ⟨ds, h1, h2, h3, h4, h5⟩ := h
    obtain ⟨a, xs, rfl, g1, g2⟩ := asL_ok hS r1 h1
    refine ⟨a, _, xs, rfl, rfl, g1, h2, h3, by rw [g2.length]; exact h4, fun p hp => ?_⟩
    have g3 := g2.times
    cases m with
    | true => exact k _ _ _ _ _ (Ex.refl F) (hS.newC hp (.lst (g3 _))) (.ce p) (h5 p (hS.freeC hp))
    | false =>
      have e : Ex F (upd F p (.lst (List.replicate kk.toNat xs).flatten)) := Ex.new (hS.freeF hp)
      exact k _ _ _ C _ e (hS.newF hp _) (.lst upd_same ((g3 _).mono e)) h5
  · exact h.elim⟩
def aMaxL : ASp := fun ds C P => match ds with
  | [d] => ∃ (es : List D) (ks : List Int), asLr C d = some es ∧ es = ks.map D.int ∧ 0 < ks.length ∧ ∀ m : Int, m ∈ ks → (∀ y, y ∈ ks → y ≤ m) → P (.int m) C
  | _ => False
theorem ac_maxL (hc : X.calm = true := by rfl) (hK : X.K = K := by rfl) : ACa B X (.builtin "max") (rMax K) aMaxL := by
  subst hK
  exact ⟨cr_max hc, by
  intro vs ds F C R H Q P hS r h k
  unfold aMaxL at h
  split at h
  · cases r with
    | cons r1 r2 =>
      cases r2
      obtain ⟨es, ks, h1, h2, h3, h4⟩ := h
      subst h2
      obtain ⟨a, kvs, rfl, g1, g2⟩ := asLr_ok hS r1 h1
      rw [g2.ofInts] at g1
      exact ⟨a, ks, rfl, g1, h3, fun m e1 e2 => k _ _ F C H (Ex.refl F) hS (.int _) (h4 m e1 e2)⟩
  · exact h.elim⟩
end
end AL
namespace AL
open PySem PySem.Spec PyProof.Rows L2
end AL
namespace AL
open PySem L2
def nk (n : Nat) : Key := .inl (n : Int)
theorem nk_inj {a b : Nat} (h : nk a = nk b) : a = b := by have := Sum.inl.inj h; omega
def Ky (es : List (Key × D)) (L : List Nat) : Prop := es.map (·.1) = L.map nk
def addN (L : List Nat) (n : Nat) : List Nat := if n ∈ L then L else L ++ [n]
theorem Ky.nil : Ky [] [] := rfl
theorem Ky.len {es : List (Key × D)} {L : List Nat} (h : Ky es L) : es.length = L.length := by
  have := congrArg List.length h
  simpa using this
theorem Ky.any {es : List (Key × D)} {L : List Nat} (h : Ky es L) (n : Nat) : (es.any fun kv => decide (kv.1 = nk n)) = decide (n ∈ L) := by
  have e : (es.any fun kv => decide (kv.1 = nk n)) = (es.map (·.1)).any fun k => decide (k = nk n) := by rw [List.any_map]; rfl
  rw [e, show es.map (·.1) = L.map nk from h, List.any_map, Bool.eq_iff_iff, List.any_eq_true, decide_eq_true_iff]
  constructor
  · rintro ⟨m, hm, e⟩
    have := nk_inj (of_decide_eq_true e)
    rw [← this]; exact hm
  · intro hm
    exact ⟨n, hm, decide_eq_true rfl⟩
theorem Ky.val {es : List (Key × D)} {L : List Nat} (h : Ky es L) (n : Nat) : (valD es (nk n)).isSome = decide (n ∈ L) := by
  rw [← h.any n]
  unfold valD
  rw [Option.isSome_map, Bool.eq_iff_iff, List.find?_isSome, List.any_eq_true]
theorem Ky.put {es : List (Key × D)} {L : List Nat} {d : D} (h : Ky es L) (n : Nat) : Ky (putD es (nk n) d) (addN L n) := by
  unfold putD addN
  rw [h.any]
  by_cases hn : n ∈ L
  · rw [decide_eq_true hn, if_pos rfl, if_pos hn]
    show (es.map _).map _ = _
    rw [List.map_map]
    have e : ((fun kv : Key × D => kv.1) ∘ fun kv : Key × D => if kv.1 = nk n then (kv.1, d) else kv) = fun kv => kv.1 := by
      funext kv
      simp only [Function.comp]
      split <;> rfl
    rw [e]
    exact h
  · rw [decide_eq_false hn, if_neg (by decide), if_neg hn]
    show (es ++ [_]).map _ = _
    rw [List.map_append, List.map_append, show es.map (·.1) = L.map nk from h]
    rfl
theorem nodup_addN {L : List Nat} {n : Nat} (h : L.Nodup) : (addN L n).Nodup := by
  unfold addN
  split
  · exact h
  · rename_i hn
    refine List.nodup_append.mpr ⟨h, by simp, ?_⟩
    intro a ha b hb e
    have : b = n := by simpa using hb
    exact hn (by rw [← this, ← e]; exact ha)
section
variable {C : AH} {P : D → AH → Prop} {s : ASt} {q : Addr} {es : List (Key × D)} {L : List Nat} {n : Nat} {nx : ASt → AH → Prop} {rt : D → AH → Prop} {bk ct : ASt → AH → Prop}
theorem asK_ce (h : C q = some (.dk es)) : asK C (.ce q) = some es := by simp only [asK, h]
end
end AL
namespace AL
open PySem PySem.Spec PyProof.Rows L2
open AutoSeq1 (wpAny_loadPart')
end AL
namespace AL
open PySem PySem.Spec PyProof.Rows L2
variable {B : Bs}
def isF : D → Bool
  | .non | .bl _ | .int _ | .str _ => true
  | _ => false
section
variable {X : Cx} {K : PySem.W.Frag}
theorem rv_int {i : Int} {u : Value} (h : L2.RelV (.int i) u) : ∃ t, u = .int i t := h
theorem rv_str {i : Str} {u : Value} (h : L2.RelV (.str i) u) : ∃ t, u = .str i t := h
theorem flat_at {F : Hp} {v : V} {d : D} {x : Value} (r : Rep K F v d) (rx : L2.RelV v x) (h : isF d = true) : x = .none ∨ (∃ b, x = .bool b) ∨ (∃ i t, x = .int i t) ∨ ∃ z t, x = .str z t := by
  cases r <;> first | (cases h; done) | skip
  · exact .inl rx
  · exact .inr (.inl ⟨_, rx⟩)
  · obtain ⟨t, e⟩ := rv_int rx; exact .inr (.inr (.inl ⟨_, t, e⟩))
  · obtain ⟨t, e⟩ := rv_str rx; exact .inr (.inr (.inr ⟨_, t, e⟩))
variable {pins : List (Addr × Obj)} {σ : L2.St} {H : Hp} {s : Shared}
end
end AL
namespace AL
open PySem PySem.Spec PyProof.Rows L2
end AL
namespace AL
open PySem PySem.Spec PyProof.Rows L2
end AL
namespace AL
open PySem PySem.Spec PyProof.Rows L2
open AutoSeq1 (wpAny_loadPart')
end AL
namespace AL
open PySem PySem.Spec PyProof.Rows L2
variable {B : Bs}
def aLindex : D → ASp := fun x ds C P => match ds with
  | [.int i] => ∃ (es : List D) (ks : List Int), asLr C x = some es ∧ es = ks.map D.int ∧ i ∈ ks ∧ ∀ j : Nat, ks[j]? = some i → P (.int j) C
  | _ => False
theorem first_at {i : Int} : ∀ {ks : List Int}, i ∈ ks → ∃ j : Nat, ks[j]? = some i ∧ ∀ m, m < j → ∀ k, ks[m]? = some k → k ≠ i
  | k :: ks, h => by
    by_cases e : k = i
    · exact ⟨0, by rw [e]; rfl, fun m hm => absurd hm (Nat.not_lt_zero _)⟩
    · rcases List.mem_cons.mp h with h | h
      · exact absurd h.symm e
      · obtain ⟨j, h1, h2⟩ := first_at h
        refine ⟨j + 1, by simpa using h1, fun m hm k' hk => ?_⟩
        cases m with
        | zero => simp at hk; rw [← hk]; exact e
        | succ m => exact h2 m (by omega) k' (by simpa using hk)
theorem am_lindex {X : Cx} {K : PySem.W.Frag} (hK : X.K = K := by rfl) : AMt B X "list.index" (rIndex K) aLindex := by
  subst hK
  exact ⟨mt_index, by
  intro v d vs ds F C R H Q P hS r1 r2 h k
  unfold aLindex at h
  split at h
  · cases r2 with
    | cons r2 r3 =>
      cases r3
      cases r2
      rename_i i
      obtain ⟨es, ks, h1, h2, h3, h4⟩ := h
      subst h2
      obtain ⟨a, xs, rfl, g1, g2⟩ := asLr_ok hS r1 h1
      rw [g2.ofInts] at g1
      obtain ⟨j, j1, j2⟩ := first_at h3
      refine ⟨a, _, .int i, j, .int i, rfl, rfl, g1, rfl, List.all_eq_true.mpr fun x hx => by obtain ⟨n, _, rfl⟩ := List.mem_map.mp hx; rfl, by rw [List.getElem?_map, j1]; rfl, by show ((i : Int) == i) = true; simp, fun m z' hm hz => ?_, k _ _ F C H (Ex.refl F) hS (.int _) (h4 j j1)⟩
      rw [List.getElem?_map] at hz
      cases e : ks[m]? with
      | none => rw [e] at hz; cases hz
      | some n =>
        rw [e] at hz
        cases hz
        have := j2 m hm n e
        show ((n : Int) == i) = false
        simpa using this
  · exact h.elim⟩
end AL
namespace AL
open PySem PySem.Spec PyProof.Rows L2
open PyProof.Rows (envOfC)
variable {B : Bs}
/-- what is asked where a class's exception flies out, the slots and the cells as they are then -/
abbrev AX' := ASt → Str → AH → Prop
abbrev ASpX := List D → AH → (D → AH → Prop) → (Str → AH → Prop) → Prop
theorem Sat.at0 {K : PySem.W.Frag} {F : Hp} {C : AH} {R H : Hp} (S : Sat B K F C R H) : Sat B K F C B.R0 H := ⟨S.bF, Ex.refl _, S.ex, S.cell, fun p o e => S.priv p o (S.bR p o e)⟩
def WR (B : Bs) (K : PySem.W.Frag) (mg : Str → Option Value) (W : AX') (Wk : WX) : Prop :=
  ∀ nm cls s σ F C H, mg nm = some cls → Slo K F s σ → Sat B K F C B.R0 H → W s nm C → Wk cls none σ H
/-- facts of an own exception class without own __init__ over ValueError -/
def ExcF (K : PySem.W.Frag) (mg : Str → Option Value) (x : Str) : Prop :=
  ∃ C, mg x = some (.ref C) ∧ PySem.W.excIn K C [.type "ValueError", .type "Exception", .type "BaseException", .type "object"] "ValueError.__new__" = true ∧ PySem.W.keepIn K (.ref C) = true ∧ PySem.W.subIn K (.ref C) (.type "BaseException") = some true ∧ PySem.W.typeIn K (.ref C) = some (.type "type")
def aRaise (W : AX') (nm : Str) : AS' := fun _ s C => W s nm C
def tRaise (mg : Str → Option Value) (nm : Str) (Wk : WX) : TS := fun _ σ H => ∃ C, mg nm = some (.ref C) ∧ Wk (.ref C) none σ H
section
variable {X : Cx} {K : PySem.W.Frag} {W : AX'} {Wk : WX} {x m : Str} {j : Nat} {p p2 p3 pos : Pos}
theorem as_raise {mg : Str → Option Value} (f : ExcF K mg x) (tk : Takes X Wk) (rel : WR B K mg W Wk) (hc : X.calm = true := by rfl) (hg : Gl X x := by rfl) (hdb : (x == ("__debug__" : Str)) = false := by decide) (hK : X.K = K := by rfl) (hmg : X.mg = mg := by rfl) :
    AS B X (.Raise (some (.Call (.Name x p) [.Constant (.str m) j p2] [] p3)) none pos) (tRaise mg x Wk) (aRaise W x) := by
  subst hK hmg
  obtain ⟨C, gC, xC, kC, bC, tC⟩ := f
  have h := ps_raise (pos := pos) hc tk (pmk_own (m := m) (j := j) (p := p) (p2 := p2) (pos := p3) PySem.F.excBase_ValueError xC gC kC (raises_own bC tC) hg hdb)
  refine ⟨⟨fun pins s σ H D I hh => h.run pins s σ H D I ?_⟩, fun D' E σ s F C' R H hE hs hS h0 => ?_⟩
  · obtain ⟨C2, g2, w⟩ := hh
    rw [gC] at g2
    cases g2
    exact w
  · exact ⟨C, gC, rel x _ s σ F C' H gC hs hS.at0 h0⟩
def spOfX (g : Gd) (K : PySem.W.Frag) (n : Nat) (asp : ASpX) : Sp := fun vs H Q E => vs.length = n ∧ ∃ F C R ds P PX, Sat (Bs.nil g) K F C R H ∧ RepL K F vs ds ∧ asp ds C P PX ∧ (∀ d v F' C' H', Ex F F' → Sat (Bs.nil g) K F' C' R H' → Rep K F' v d → P d C' → Q v H') ∧
  ∀ nm cls F' C' H', g.mg nm = some cls → Ex F F' → Sat (Bs.nil g) K F' C' R H' → PX nm C' → E cls none H'
structure CalX (P : Program) (w : World) (K : PySem.W.Frag) (mg : Str → Option Value) (base : Heap) (k : Nat) (x : Str) (n : Nat) (asp : ASpX) : Prop where
  ex : ∃ (f : Addr) (fd : FuncData) (ps : List Str), FnG P w K mg base k f fd ps (spOfX ⟨w, mg⟩ K n asp) ∧ mg x = some (.ref f) ∧ PySem.W.keepIn K (.ref f) = true ∧ Binds K fd ps []
def aCallX (W : AX') (asp : ASpX) (a : AA') : AE' := fun s C P => a s C fun ds C1 => asp ds C1 P (W s)
theorem sim_callX {g : Gd} (hw : B.g = g) {n : Nat} {asp : ASpX} {ta : TA} {a : AA'} (rel : WR B K g.mg W Wk) (ha : SimA B K n ta a) : SimE B K (tCallS (spOfX g K n asp) (WE Wk) ta) (aCallX W asp a) := by
  subst hw
  intro σ s F C R H Q P hs hS h k
  refine ha σ s F C R H _ _ hs hS h fun ds vs F1 C1 H1 e1 S1 r1 hl h1 => ?_
  exact ⟨by rw [r1.length, hl], F1, C1, R, ds, P, W s, S1.nil, r1, h1, fun d v F2 C2 H2 e2 S2 r2 h2 => k d v F2 C2 H2 (e1.trans e2) (S1.back e2 S2) r2 h2,
    fun nm cls F2 C2 H2 hm e2 S2 h2 => rel nm cls s σ F2 C2 H2 hm (hs.mono (e1.trans e2)) (S1.back e2 S2).at0 h2⟩
variable {e : Expr} {es : List Expr} {n : Nat} {t : TA} {a : AA'} {asp : ASpX} {k i : Nat}
theorem ae_callX {g : Gd} (c : CalX X.prog X.w K X.mg X.base k x n asp) (hr : Room i X.A) (hgd : X.A.guards = some []) (tk : Takes X Wk) (rel : WR B K g.mg W Wk) (ha : AA B X (e :: es) n t a) (hw : B.g = g := by first | rfl | assumption) (hX : (⟨X.w, X.mg⟩ : Gd) = g := by rfl) (hk : k ≤ i := by decide) (hg : Gl X x := by rfl)
    (hdb : (x == ("__debug__" : Str)) = false := by decide) (he : starEach (e :: es) X.env = (false, eval e X.env) :: starEach es X.env := by rfl) (hpl : (backTo pos (starEach es X.env)).any (·.1) = false := by rfl) (hK : X.K = K := by rfl) :
    AE B X (.Call (.Name x p) (e :: es) [] pos) (tCallS (spOfX g K n asp) (WE Wk) t) (aCallX W asp a) := by
  subst hK
  exact ⟨by
  obtain ⟨f, fd, ps, F, hm, kp, b⟩ := c.ex
  rw [← hX]
  exact pe_callG F (hr.mono hk) hgd hg hm kp b (fun σ => passAt tk σ) ha.pa hdb he hpl, sim_callX hw rel ha.sim⟩
end
def aBodyX (n : Nat) (b : AX' → AS') : ASpX := fun ds C P PX => b (fun _ nm C' => PX nm C') ⟨fun _ C' => P .non C', P, fun _ _ => False, fun _ _ => False⟩ (ds.map some ++ List.replicate (n - ds.length) none) C
theorem calX {P : Program} {w : World} {K : PySem.W.Frag} {mg : Str → Option Value} {base : Heap} {x y qual : Str} {st : Stmt} {f : Addr} {fd : FuncData} {N ps : List Str} {k n : Nat} {b : AX' → AS'} {asp : ASpX} (F : L2.Fun K x qual st f fd) (S : FnScope N ps (defScope st)) (hn : ps.length = n) (hm : mg y = some (.ref f)) (hb : Binds K fd ps [])
    (hbody : ∀ (B : Bs) (hw : B.g = ⟨w, mg⟩) (W : AX') (Wk : WX) (cdv : Value) (A : Around) (outer : List Env) (s : Shared) (H : Hp) (E : XK), Room k (A.deeper (envOfC qual (defScope st) s.heap.objs.size f cdv)) → A.guards = some [] →
      Takes (cxOf (L2.CX P w) P w K mg base N qual (defScope st) f cdv A outer s H E) Wk → WR B K mg W Wk →
      PassesOwn (model P w) (cxOf (L2.CX P w) P w K mg base N qual (defScope st) f cdv A outer s H E).A (cxOf (L2.CX P w) P w K mg base N qual (defScope st) f cdv A outer s H E).env (cxOf (L2.CX P w) P w K mg base N qual (defScope st) f cdv A outer s H E).xe →
      ∃ ts, ASs B (cxOf (L2.CX P w) P w K mg base N qual (defScope st) f cdv A outer s H E) (defBody st) ts (b W))
    (h : ∀ ds C P PX, ds.length = n → asp ds C P PX → aBodyX N.length b ds C P PX) : CalX P w K mg base (k + 1) y n asp := by
  subst hn
  refine ⟨f, fd, ps, fnG_of F S (fun vs H Q E z => z.1) (fun cdv A outer s H vs Q E hr hg z => ?_), hm, F.kp, hb⟩
  obtain ⟨hl, F1, C, R, ds, P1, PX, hS, hR, ha, hk, hx⟩ := z
  obtain ⟨ts, hps⟩ := hbody ⟨F1, R, ⟨w, mg⟩⟩ rfl (fun _ nm C' => PX nm C') (fun cls d _ H' => E cls d H') cdv A outer s H E hr hg (takes_of rfl rfl rfl rfl)
    (fun nm cls s2 σ2 F2 C2 H2 hm2 hs2 S2 h2 => hx nm cls F2 C2 H2 hm2 S2.bF S2.nil h2) (passes_of rfl)
  refine ⟨ts, hps.ps, ?_⟩
  have hb2 := h ds C P1 PX (by rw [← hR.length, hl]) ha
  refine hps.sim { nx := fun _ H' => Q .non H', rt := Q } ⟨fun _ C' => P1 .non C', P1, fun _ _ => False, fun _ _ => False⟩ _ _ F1 C R H ⟨fun s σ F' C' H' e _ S h => ?_, fun d v F' C' H' e r S h => ?_, fun _ _ _ _ _ _ _ _ h => h.elim, fun _ _ _ _ _ _ _ _ h => h.elim⟩ (Slo.start hR N.length) (hS.rebase rfl (Ex.refl _) (Ex.refl _)) hb2
  · exact hk .non .non F' C' H' e S.nil .non h
  · exact hk d v F' C' H' e S.nil r h
def aHand (sub : Str → Str → Option Bool) (Wout : AX') (E : AEnds) : List (Str × AS') → AX'
  | [] => Wout
  | (c, h) :: r => fun s nm C => match sub nm c with | some true => h E s C | some false => aHand sub Wout E r s nm C | none => False
def aTry (sub : Str → Str → Option Bool) (body : AX' → AS') (hds : List (Str × AS')) (Wout : AX') : AS' := fun E s C => body (aHand sub Wout E hds) E s C
/-- what is known of which class is below which -/
def SubF (K : PySem.W.Frag) (mg : Str → Option Value) (sub : Str → Str → Option Bool) : Prop := ∀ nm c b cls cc, sub nm c = some b → mg nm = some cls → mg c = some cc → PySem.W.exmOne K cls cc = some b
inductive AHds (X : Cx) : List ExceptHandler → List (Value × (Addr → Value → Option Addr → TS)) → List (Str × AS') → Prop
  | nil : AHds X [] [] []
  | cons {x : Str} {c : Value} {ts : TS} {ha : AS'} {b₀ : Stmt} {suite : List Stmt} {np pos' : Pos} {hds : List ExceptHandler} {l : List (Value × (Addr → Value → Option Addr → TS))} {la : List (Str × AS')} (hm : X.mg x = some c) (hg : Gl X x) (hdb : (x == ("__debug__" : Str)) = false)
      (hsu : ∀ (B : Bs) (hw : B.g = ⟨X.w, X.mg⟩) (a : Addr) (oe : Obj) (pn : List (Addr × Obj)), ASs B (X.suite a ((a, oe) :: pn)) (b₀ :: suite) ts ha) (r : AHds X hds l la) :
      AHds X (.ExceptHandler (some (.Name x np)) none (b₀ :: suite) pos' :: hds) ((c, fun _ _ _ => ts) :: l) ((x, ha) :: la)
section
variable {X : Cx} {body : List Stmt} {h₀ : ExceptHandler} {hds : List ExceptHandler} {l : List (Value × (Addr → Value → Option Addr → TS))} {la : List (Str × AS')} {pos : Pos} {tb : WX → TS} {W : AX'} {Wk : WX} {ab : AX' → AS'} {sub : Str → Str → Option Bool}
theorem AHds.ok {hds : List ExceptHandler} (h : AHds X hds l la) : HdsOk X hds l := by
  induction h with
  | nil => exact .nil
  | cons hm hg hdb hsu r ih => exact .cons ⟨hg, hdb, .inl hm⟩ (fun a oe cls d pn _ _ => (hsu (Bs.nil ⟨X.w, X.mg⟩) rfl a oe pn).ps) ih
theorem takes_any (hs : X.stack = X.env :: X.outer) (hf : X.env.frame = some X.env.locals) (pn : List (Addr × Obj)) : Takes (X.tr pn fun e s₁ => wpAny (model X.prog X.w) X.A (noteFrame e X.env) (fun _ _ => True) (fun _ _ => True) s₁) Wk := by
  intro u s' xx
  obtain ⟨a, B, sI, pins', σ', H', cls, d, rfl, J', nb, up, sky, na, os, ag, w⟩ := xx
  have hfr : X.A.frames = some (X.env :: X.outer) := by
    have := J'.ok.frames
    rw [show (X.tr pn fun e s₁ => wpAny (model X.prog X.w) X.A (noteFrame e X.env) (fun _ _ => True) (fun _ _ => True) s₁).stack = X.stack from rfl, hs] at this
    exact this
  have sky' : Sky B (X.env :: X.outer) a (Zc cls d) X.env.locals s'.heap := by rw [← hs]; exact sky
  exact wpAny_mono (Sky.land (Q := fun _ _ => True) (E₁ := fun _ _ => True) Zc.steady hfr hf sky' fun _ _ _ => trivial) (fun _ _ _ => trivial) (fun _ _ _ => trivial)
theorem EndsR.ground {K : PySem.W.Frag} {F R : Hp} {E : AEnds} {D' : Ends} (hE : EndsR B K F R E D') (hbF : Ex B.F0 F) (hbR : Ex B.R0 R) : EndsR ⟨F, R, B.g⟩ K F R E D' :=
  ⟨fun s σ F' C' H' e hs S h => hE.nx s σ F' C' H' e hs (S.rebase rfl (hbF.trans e) hbR) h, fun d v F' C' H' e r S h => hE.rt d v F' C' H' e r (S.rebase rfl (hbF.trans e) hbR) h,
    fun s σ F' C' H' e hs S h => hE.bk s σ F' C' H' e hs (S.rebase rfl (hbF.trans e) hbR) h, fun s σ F' C' H' e hs S h => hE.ct s σ F' C' H' e hs (S.rebase rfl (hbF.trans e) hbR) h⟩
/-- a def that lets nothing out, from one whose walk tells so -/
theorem AE.nox {e : Expr} {t : TE} {a : AE'} (h : AE B X.nox e t a) : AE B X e t a := ⟨h.pe.nox, h.sim⟩
theorem ASs.nox {st : List Stmt} {t : TS} {a : AS'} (h : ASs B X.nox st t a) : ASs B X st t a := ⟨h.ps.nox, h.sim⟩
theorem PS.nox {st : Stmt} {t : TS} (h : PS X.nox st t) : PS X st t := ⟨fun pins s σ H D I hw =>
  wpAny_mono (h.run pins s σ H D (I.wish _) hw) (fun _ _ q => q.unwish) fun _ _ z => False.elim z⟩
theorem AS.nox {st : Stmt} {t : TS} {a : AS'} (h : AS B X.nox st t a) : AS B X st t a := ⟨PS.nox h.ps, h.sim⟩
theorem AT.nox {e : Expr} {t : TT} {a : AT'} (h : AT B X.nox e t a) : AT B X e t a := ⟨h.pt.nox, h.sim⟩
theorem takes_no : Takes X fun _ _ _ _ => False := fun u s' x => by
  obtain ⟨_, _, _, _, _, _, _, _, _, _, _, _, _, _, _, _, w⟩ := x
  exact w.elim
theorem wr_no {K : PySem.W.Frag} {mg : Str → Option Value} : WR B K mg (fun _ _ _ => False) fun _ _ _ _ => False := fun _ _ _ _ _ _ _ _ _ _ h => h
end
/-- which class is below which, by a list -/
def subL (l : List (Str × Str × Bool)) : Str → Str → Option Bool := fun nm c => match l with
  | [] => none
  | (a, b, r) :: l => if nm = a ∧ c = b then some r else subL l nm c
theorem subF_nil {K : PySem.W.Frag} {mg : Str → Option Value} : SubF K mg (subL []) := fun _ _ _ _ _ h => by cases h
theorem subF_cons {K : PySem.W.Frag} {mg : Str → Option Value} {a b : Str} {r : Bool} {l : List (Str × Str × Bool)} {C1 C2 : Value} (h1 : mg a = some C1) (h2 : mg b = some C2) (h : PySem.W.exmOne K C1 C2 = some r) (t : SubF K mg (subL l)) : SubF K mg (subL ((a, b, r) :: l)) := by
  intro nm c q cls cc e m1 m2
  unfold subL at e
  split at e
  · rename_i z
    obtain ⟨rfl, rfl⟩ := z
    rw [h1] at m1; rw [h2] at m2
    cases m1; cases m2; cases e
    exact h
  · exact t nm c q cls cc e m1 m2
theorem exm_of {K : PySem.W.Frag} {S T : Addr} {r : Bool} (h1 : PySem.W.subIn K (.ref T) (.type "BaseException") = some true) (h2 : PySem.W.isClsIn K T = true) (h3 : PySem.W.typeIn K (.ref T) = some (.type "type")) (h4 : PySem.W.subIn K (.ref S) (.ref T) = some r) :
    PySem.W.exmOne K (.ref S) (.ref T) = some r := by
  have e1 : (PySem.W.subIn K (.ref T) (.type "BaseException") == some true) = true := by rw [h1] <;> rfl
  have e2 : ((PySem.W.clsIn K T).isSome && PySem.W.typeIn K (.ref T) == some (.type "type")) = true := by
    have h2' : (PySem.W.clsIn K T).isSome = true := h2
    rw [h2', h3] <;> rfl
  show (if (PySem.W.subIn K (.ref T) (.type "BaseException") == some true) = true then (if ((PySem.W.clsIn K T).isSome && PySem.W.typeIn K (.ref T) == some (.type "type")) = true then PySem.W.subIn K (.ref S) (.ref T) else none) else none) = some r
  rw [if_pos e1, if_pos e2]
  exact h4
section
variable {C : AH} {P : D → AH → Prop} {PX : Str → AH → Prop} {W : AX'} {E : AEnds} {s : ASt}
theorem g_bodyX {n : Nat} {b : AX' → AS'} {ds : List D} {s : ASt} (h0 : ds.map some ++ List.replicate (n - ds.length) none = s) (h : b (fun _ nm C' => PX nm C') ⟨fun _ C' => P .non C', P, fun _ _ => False, fun _ _ => False⟩ s C) : aBodyX n b ds C P PX := by
  subst h0
  exact h
theorem g_callX {asp : ASpX} {a : AA'} (h : a s C fun ds C1 => asp ds C1 P (W s)) : aCallX W asp a s C P := h
theorem g_raise {nm : Str} (h : W s nm C) : aRaise W nm E s C := h
theorem g_try {sub : Str → Str → Option Bool} {body : AX' → AS'} {hds : List (Str × AS')} (h : body (aHand sub W E hds) E s C) : aTry sub body hds W E s C := h
end
end AL
namespace AL
open PySem PySem.Spec PyProof.Rows L2
end AL
namespace AL
open PySem PySem.Spec PyProof.Rows L2
variable {B : Bs}
section
variable {X : Cx} {pos cpos apos : Pos} {o i e : Expr} {to ti te : TE} {ao ai ae : AE'} {K : PySem.W.Frag}
def aGet1 (o i : AE') : AE' := fun s C P => o s C fun x C1 => (asK C1 x).isSome = true ∧ i s C1 fun y C2 => match asK C2 x, keyOf y with
  | some es, some k => P ((valD es k).getD .non) C2
  | _, _ => False
def aGet2 (o i e : AE') : AE' := fun s C P => o s C fun x C1 => (asK C1 x).isSome = true ∧ i s C1 fun y C2 => e s C2 fun z C3 => match asK C3 x, keyOf y with
  | some es, some k => P ((valD es k).getD z) C3
  | _, _ => False
theorem isD_ok {F : Hp} {C : AH} {R H : Hp} {v : V} {d : D} (hS : Sat B K F C R H) (r : Rep K F v d) (h : (asK C d).isSome = true) : ∃ a, v = .ref a ∧ IsD H a := by
  obtain ⟨es, h1⟩ := Option.isSome_iff_exists.mp h
  obtain ⟨a, kvs, rfl, g, _⟩ := asK_ok hS r h1
  exact ⟨a, rfl, .inl ⟨kvs, .inl g⟩⟩
theorem RepK.valO {F : Hp} {k : Key} {kvs : List (Key × V)} {es : List (Key × D)} (h : RepK K F kvs es) {z : V} {d : D} (r : Rep K F z d) : Rep K F ((valV kvs k).getD z) ((valD es k).getD d) := by
  have := RepK.val k h
  cases q : valD es k with
  | none => rw [q] at this; rw [show valV kvs k = none from this]; exact r
  | some d => rw [q] at this; obtain ⟨v, e, r2⟩ := this; rw [e]; exact r2
theorem sim_get2 (ho : SimE B K to ao) (hi : SimE B K ti ai) (he : SimE B K te ae) : SimE B K (tDGet2 to ti te) (aGet2 ao ai ae) := by
  intro σ s F C R H Q P hs hS h k
  refine ho σ s F C R H _ _ hs hS h fun x v F1 C1 H1 e1 S1 r1 h1 => ?_
  obtain ⟨a, rfl, hd⟩ := isD_ok S1 r1 h1.1
  refine ⟨a, rfl, hd, ?_⟩
  refine hi σ s F1 C1 R H1 _ _ (hs.mono e1) S1 h1.2 fun y w F2 C2 H2 e2 S2 r2 h2 => ?_
  refine he σ s F2 C2 R H2 _ _ (hs.mono (e1.trans e2)) S2 h2 fun z u F3 C3 H3 e3 S3 r3 h3 => ?_
  split at h3
  · rename_i es ky q1 q2
    obtain ⟨b, kvs, e4, g3, g4⟩ := asK_ok S3 (r1.mono (e2.trans e3)) q1
    cases e4
    refine ⟨valV kvs ky, ?_, k _ _ F3 C3 H3 ((e1.trans e2).trans e3) S3 (g4.valO r3) h3⟩
    rw [keyOf_ok r2 q2]
    exact .k g3
  · exact h3.elim
theorem ae_get2 (hu : X.A.units + 1 < cLine) (ho : AE B X o to ao) (hi : AE B X i ti ai) (he : AE B X e te ae)
    (hbase : attributeBase o "get" X.env (eval o X.env) = eval o X.env := by rfl)
    (hfew : ((backTo cpos (starEach [i, e] X.env)).all (fun x => !x.1) && (backToKw cpos (keywordEach [] X.env)).all (fun x => x.1.isSome)
      && decide (([i, e] : List Expr).length + ([] : List Keyword).length + (if ([] : List Keyword).isEmpty then 0 else 1) < 30)) = true := by rfl)
    (hline : (apos.endLine == cpos.line) = true := by rfl) (ht : backTo cpos (starEach [i, e] X.env) = [(false, eval i X.env), (false, eval e X.env)] := by rfl) :
    AE B X (.Call (.Attribute o "get" apos) [i, e] [] cpos) (tDGet2 to ti te) (aGet2 ao ai ae) := ⟨pe_dget2 hu ho.pe hi.pe he.pe ⟨hbase, hfew, hline, ht⟩, sim_get2 ho.sim hi.sim he.sim⟩
/-- {k: v}, k of any kind that may be -/
def aDispV (ak av : AE') : AE' := fun s C P => ak s C fun dk C1 => av s C1 fun dv C2 => match keyOf dk with
  | some k => ∀ p, C2 p = none → P (.ce p) (put C2 p (.dk [(k, dv)]))
  | none => False
end
section
variable {C : AH} {P : D → AH → Prop} {s : ASt} {o i e : AE'}
def kGet1 (i : AE') (s : ASt) (P : D → AH → Prop) : D → AH → Prop := fun x C1 => (asK C1 x).isSome = true ∧ i s C1 fun y C2 => match asK C2 x, keyOf y with
  | some es, some k => P ((valD es k).getD .non) C2
  | _, _ => False
theorem g_get1 (h : o s C (kGet1 i s P)) : aGet1 o i s C P := h
def kGet2 (i e : AE') (s : ASt) (P : D → AH → Prop) : D → AH → Prop := fun x C1 => (asK C1 x).isSome = true ∧ i s C1 fun y C2 => e s C2 fun z C3 => match asK C3 x, keyOf y with
  | some es, some k => P ((valD es k).getD z) C3
  | _, _ => False
theorem g_get2 (h : o s C (kGet2 i e s P)) : aGet2 o i e s C P := h
def kGet2' (x y : D) (P : D → AH → Prop) : D → AH → Prop := fun z C3 => match asK C3 x, keyOf y with
  | some es, some k => P ((valD es k).getD z) C3
  | _, _ => False
theorem g_kGet2 {x : D} {es : List (Key × D)} (h1 : asK C x = some es) (h : i s C fun y C2 => e s C2 (kGet2' x y P)) : kGet2 i e s P x C := ⟨by rw [h1]; rfl, h⟩
theorem g_kGet2' {x y z : D} {es : List (Key × D)} {k : Key} (h1 : asK C x = some es) (h2 : keyOf y = some k) (h : P ((valD es k).getD z) C) : kGet2' x y P z C := by
  unfold kGet2'
  rw [h1, h2]
  exact h
def kDispV (P : D → AH → Prop) (dk : D) : D → AH → Prop := fun dv C2 => match keyOf dk with
  | some k => ∀ p, C2 p = none → P (.ce p) (put C2 p (.dk [(k, dv)]))
  | none => False
theorem g_dispV {ak av : AE'} (h : ak s C fun dk C1 => av s C1 (kDispV P dk)) : aDispV ak av s C P := h
theorem g_kDispVI {i : Int} {dv : D} (h : ∀ p, C p = none → P (.ce p) (put C p (.dk [(.inl i, dv)]))) : kDispV P (.int i) dv C := h
end
end AL
namespace AL
open PySem PySem.Spec PyProof.Rows L2
variable {B : Bs}
section
variable {P : Program} {w : World} {H : Hp} {h : Heap}
mutual
theorem vkey_is (ok : HOk P w H h) : ∀ {v : V} {k : NestedKey} {u : Value}, VKey H v k → RelV v u → NestedIs h k u
  | _, _, _, .non, r => by cases r; exact .none
  | _, _, _, .bl b, r => by cases r; exact .bool rfl
  | _, _, _, .int i, r => by obtain ⟨t, rfl⟩ := r; exact .int i t
  | _, _, _, .str x, r => by obtain ⟨t, rfl⟩ := r; exact .text x t
  | .ref a, .tup ks, _, .tup (vs := vs) e q, r => by
    cases r
    obtain ⟨_, its, rv, o, h1, h2, n, h3⟩ := (show ObjOk P w H h a (.tup vs) from Rd.ok e ok)
    exact .tup h1 h2 h3 (by rw [List.toList_toArray]; exact vkeys_are ok q rv)
theorem vkeys_are (ok : HOk P w H h) : ∀ {vs : List V} {ks : List NestedKey} {us : List Value}, VKeys H vs ks → Vals vs us → NestedAll h ks us
  | _, _, _, .nil, r => by cases r; exact .nil
  | _, _, _, .cons a b, r => by
    cases r with
    | cons r1 r2 => exact .cons (vkey_is ok a r1) (vkeys_are ok b r2)
end
end
abbrev KN : List (NestedKey × Addr × V) → List (NestedKey × Addr × Value) → Prop := Paired fun x y => x.1 = y.1 ∧ x.2.1 = y.2.1 ∧ RelV x.2.2 y.2.2
def valN {α : Type} (xs : List (NestedKey × Addr × α)) (k : NestedKey) : Option α := (xs.find? fun x => decide (x.1 = k)).map (·.2.2)
theorem valN_pos {α : Type} {x : NestedKey × Addr × α} {xs : List (NestedKey × Addr × α)} {k : NestedKey} (e : x.1 = k) : valN (x :: xs) k = some x.2.2 := by simp [valN, e]
theorem valN_neg {α : Type} {x : NestedKey × Addr × α} {xs : List (NestedKey × Addr × α)} {k : NestedKey} (e : ¬ x.1 = k) : valN (x :: xs) k = valN xs k := by simp [valN, e]
def putN (xs : List (NestedKey × Addr × V)) (k : NestedKey) (a : Addr) (v : V) : List (NestedKey × Addr × V) :=
  if (valN xs k).isSome = true then xs.map (fun x => if x.1 = k then (x.1, x.2.1, v) else x) else xs ++ [(k, a, v)]
theorem KN.val {xs : List (NestedKey × Addr × V)} {ys : List (NestedKey × Addr × Value)} (r : KN xs ys) (k : NestedKey) : RelO (valN xs k) ((atKey ys k).map (·.2)) := by
  induction r with
  | nil => exact True.intro
  | @cons p q ps qs h t ih =>
    obtain ⟨h1, _, h2⟩ := h
    by_cases e : p.1 = k
    · have e' : q.1 = k := h1.symm.trans e
      have b : atKey (q :: qs) k = some q.2 := by simp [atKey, List.find?_cons, e']
      rw [valN_pos e, b]; exact h2
    · have e' : ¬ q.1 = k := fun z => e (h1.trans z)
      have b : atKey (q :: qs) k = atKey qs k := by simp [atKey, List.find?_cons, e']
      rw [valN_neg e, b]; exact ih
theorem KN.put {xs : List (NestedKey × Addr × V)} {ys : List (NestedKey × Addr × Value)} (r : KN xs ys) (k : NestedKey) (b : Addr) {y : V} {u : Value} (ry : RelV y u) : KN (putN xs k b y) (storedH ys k b u) := by
  have e : (valN xs k).isSome = (atKey ys k).isSome := by rw [(r.val k).isSome_eq, Option.isSome_map]
  unfold putN storedH
  rw [e]
  by_cases q : (atKey ys k).isSome = true
  · rw [if_pos q, if_pos q]
    clear e q
    induction r with
    | nil => exact .nil
    | @cons p q ps qs h t ih =>
      rw [List.map_cons, List.map_cons]
      refine .cons ?_ ih
      obtain ⟨h1, h2, h3⟩ := h
      unfold putAt
      by_cases e : p.1 = k
      · rw [if_pos e, if_pos (h1.symm.trans e)]; exact ⟨h1, h2, ry⟩
      · rw [if_neg e, if_neg (fun z => e (h1.trans z))]; exact ⟨h1, h2, h3⟩
  · rw [if_neg q, if_neg q]; exact Paired.snoc r ⟨rfl, rfl, ry⟩
theorem putN_le (xs : List (NestedKey × Addr × V)) (k : NestedKey) (a : Addr) (v : V) : (putN xs k a v).length ≤ xs.length + 1 := by
  unfold putN
  split
  · rw [List.length_map]; omega
  · rw [List.length_append]; simp
/-- the keys of the entries stand -/
def KeysN (H : Hp) (xs : List (NestedKey × Addr × V)) : Prop := ∀ x ∈ xs, VKey H (.ref x.2.1) x.1 ∧ x.1.depth ≤ 8
theorem KeysN.put {H : Hp} {xs : List (NestedKey × Addr × V)} (r : KeysN H xs) {k : NestedKey} {a : Addr} {v : V} (hk : VKey H (.ref a) k) (hd : k.depth ≤ 8) : KeysN H (putN xs k a v) := by
  unfold putN
  intro x hx
  split at hx
  · obtain ⟨y, hy, rfl⟩ := List.mem_map.mp hx
    split
    · exact r y hy
    · exact r y hy
  · rcases List.mem_append.mp hx with q | q
    · exact r x q
    · rw [List.mem_singleton.mp q]; exact ⟨hk, hd⟩
theorem dn_of {P : Program} {w : World} {H : Hp} {h : Heap} {p : Addr} {xs : List (NestedKey × Addr × V)} (ok : HOk P w H h) (e : H p = some (.ext (DictN w p xs))) (hk : KeysN H xs) :
    xs.length ≤ sizeLine ∧ (p == sysModules) = false ∧ ∃ ys, KN xs ys ∧ h.DictOfH (nestedKind P w) p ys := by
  obtain ⟨⟨z, hd, ys, r, o, es, ep, h1, h2, h3, h4, h5⟩, _, _⟩ := (show ObjOk P w H h p (.ext (DictN w p xs)) from ok p _ e)
  refine ⟨z, hd, ys, r, o, es, ep, h1, h2, h3, h4, fun y hy => ?_, h5⟩
  have all : ∀ {l : List (NestedKey × Addr × V)} {m : List (NestedKey × Addr × Value)}, KN l m → KeysN H l → ∀ y ∈ m, (nestedKind P w).is h y.1 y.2.1 := by
    intro l m q
    induction q with
    | nil => intro _ y hy; exact nomatch hy
    | @cons p q ps qs hq t ih =>
      intro hl y hy
      rcases List.mem_cons.mp hy with e | hy
      · subst e
        obtain ⟨g1, g2⟩ := hl p List.mem_cons_self
        rw [hq.1, hq.2.1] at g1
        rw [hq.1] at g2
        exact ⟨vkey_is ok g1 rfl, g2⟩
      · exact ih (fun z hz => hl z (List.mem_cons_of_mem _ hz)) y hy
  exact all r hk y hy
theorem dn_obj {P : Program} {w : World} {H : Hp} {h : Heap} {p : Addr} {xs : List (NestedKey × Addr × V)} {ys : List (NestedKey × Addr × Value)} (z : xs.length ≤ sizeLine) (hd : (p == sysModules) = false) (r : KN xs ys) (dd : h.DictOfH (nestedKind P w) p ys) :
    ObjOk P w H h p (.ext (DictN w p xs)) := by
  obtain ⟨o, es, ep, h1, h2, h3, h4, _, h5⟩ := dd
  refine ⟨⟨z, hd, ys, r, o, es, ep, h1, h2, h3, h4, h5⟩, ⟨o, h1⟩, fun g1 g2 φ k => ?_⟩
  obtain ⟨z, hd, ys, r, o, es, ep, h1, h2, h3, h4, h5⟩ := φ
  exact ⟨z, hd, ys, r, o, es, ep, k o h1, h2, h3, h4, h5⟩
def leafOf : Key → Leaf
  | .inl i => .num i
  | .inr x => .text x
theorem leaf_inj {a b : Key} (h : leafOf a = leafOf b) : a = b := by
  cases a <;> cases b <;> first | (cases h; rfl) | cases h
theorem leaf_is {k : Key} {v : Value} (h : keyIs k v = true) : Leaf.isOf (leafOf k) v = true := by
  rcases keyIs_shape h with ⟨i, t, rfl, rfl⟩ | ⟨x, t, rfl, rfl⟩
  · simp [leafOf, Leaf.isOf]
  · exact h
theorem leaf_dict {P : Program} {w : World} {h : Heap} {a : Addr} {vs : List (Key × Value)} (dd : h.DictOf (mixKind P w) a vs) : h.DictOf (leafKind P w) a (vs.map fun kv => (leafOf kv.1, kv.2)) := by
  obtain ⟨o, es, ep, h1, h2, h3, h4, h5, h6⟩ := dd
  have hh : ∀ k : Key, (leafKind P w).hash (leafOf k) = (mixKind P w).hash k := fun k => by cases k <;> rfl
  refine ⟨o, es, ep, h1, h2, h3, fun e he => ?_, ?_, ?_⟩
  · obtain ⟨k, e1, e2⟩ := h4 e he
    exact ⟨leafOf k, leaf_is e1, by rw [hh]; exact e2⟩
  · clear h6
    generalize es.toList = l at h5
    induction h5 with
    | nil => exact .nil
    | cons e1 e2 e3 ih => exact .cons (leaf_is e1) e2 ih
  · rw [List.map_map]
    have : (vs.map ((fun x => x.1) ∘ fun kv => (leafOf kv.1, kv.2))) = (vs.map (·.1)).map leafOf := by rw [List.map_map]; rfl
    rw [this]
    exact List.pairwise_map.mpr (h6.imp fun hne e => hne (leaf_inj e))
theorem leaf_none : ∀ vs : List (Key × Value), valueAt (vs.map fun kv => (leafOf kv.1, kv.2)) Leaf.none = none
  | [] => rfl
  | (k, v) :: vs => by
    have ih := leaf_none vs
    have : ¬ leafOf k = Leaf.none := by cases k <;> exact fun z => nomatch z
    simp only [valueAt, List.map_cons, List.find?_cons, decide_eq_false this] at ih ⊢
    exact ih
end AL
namespace AL
open PySem PySem.Spec PyProof.Rows L2
variable {B : Bs}
/-- what the dict at a holds at the key y -/
def DGetN (w : World) (H : Hp) (a : Addr) (y : V) (r : Option V) : Prop :=
  DGet H a y r ∨ (∃ kvs, Rd H a (.dK kvs) ∧ y = .non ∧ r = none) ∨ ∃ xs k b, H a = some (.ext (DictN w a xs)) ∧ KeysN H xs ∧ y = .ref b ∧ VKey H y k ∧ k.depth ≤ 8 ∧ r = valN xs k
def IsDN (w : World) (H : Hp) (a : Addr) : Prop := IsD H a ∨ ∃ xs, H a = some (.ext (DictN w a xs)) ∧ KeysN H xs
def DPutN (w : World) (H : Hp) (a : Addr) (y v : V) (H' : Hp) : Prop :=
  DPut H a y v H' ∨ ∃ xs k b, H a = some (.ext (DictN w a xs)) ∧ KeysN H xs ∧ y = .ref b ∧ VKey H y k ∧ k.depth ≤ 8 ∧ xs.length < sizeLine ∧ H' = upd H a (.ext (DictN w a (putN xs k b v)))
section
variable {X : Cx} {pins : List (Addr × Obj)} {σ : L2.St} {H : Hp} {s : Shared} {a : Addr} {y v d : V} {u r : Value} {o : Option V} {A : Around} {E : Value → Shared → Prop}
theorem nk_room (hu : A.units + 16 < cLine) : (nestedKind X.prog X.w).room A.in1 := by
  show A.in1.units + 8 < cLine
  rw [Around.in1_units]
  omega
theorem nk_is {k : NestedKey} {b : Addr} (I : Inv X pins σ H s) (h : VKey H (.ref b) k) (hd : k.depth ≤ 8) : (nestedKind X.prog X.w).is s.heap k b := ⟨vkey_is I.hok h rfl, hd⟩
theorem dN_getItem {Q : Value → Shared → Prop} (hu : A.units + 16 < cLine) (I : Inv X pins σ H s) (g : DGetN X.w H a y (some v)) (ry : RelV y u) (h : ∀ w' s', Inv X pins σ H s' → RelV v w' → Q w' s') :
    wpAny (model X.prog X.w) A (getItem (.ref a) u) Q E s := by
  rcases g with g | ⟨_, _, _, e⟩ | ⟨xs, k, b, e, hx, ey, hk, hd, er⟩
  · exact d_getItem (by omega) I g ry h
  · cases e
  · subst ey
    cases ry
    obtain ⟨_, _, ys, rel, dd⟩ := dn_of I.hok e hx
    obtain ⟨w', hw, rw'⟩ := RelO.some_of (v := v) (o := (atKey ys k).map (·.2)) (by rw [er]; exact rel.val k)
    obtain ⟨p, hp, hp2⟩ := Option.map_eq_some_iff.mp hw
    refine wpAny_getItem_heap (nk_room hu) (nk_is I hk hd) dd hp ?_
    rw [hp2]
    exact h w' _ (I.tok _) rw'
theorem dN_notIn {Q : Value → Shared → Prop} (hu : A.units + 16 < cLine) (I : Inv X pins σ H s) (g : DGetN X.w H a y o) (ry : RelV y u) (h : ∀ s', Inv X pins σ H s' → Q (.bool (!o.isSome)) s') :
    wpAny (model X.prog X.w) A (compareOp .NotIn u (.ref a)) Q E s := by
  rcases g with g | ⟨kvs, e, ey, eo⟩ | ⟨xs, k, b, e, hx, ey, hk, hd, er⟩
  · exact d_notIn (by omega) I g ry h
  · subst ey eo
    cases ry
    obtain ⟨z, hd, vs, rel, dd⟩ := dk_rd I.hok e
    refine wpAny_notIn_of (knd := leafKind X.prog X.w) (k := Leaf.none) rfl hd (leaf_dict dd).mapOf ?_
    rw [leaf_none]
    exact h _ (I.tok _)
  · subst ey
    cases ry
    obtain ⟨_, hs, ys, rel, dd⟩ := dn_of I.hok e hx
    refine wpAny_notIn_heap (nk_room hu) (nk_is I hk hd) hs dd ?_
    have q := (rel.val k).isSome_eq
    rw [Option.isSome_map] at q
    rw [← q, ← er]
    exact h _ (I.tok _)
theorem dN_setItem {H' : Hp} {Q : Unit → Shared → Prop} (hu : A.units + 16 < cLine) (I : Inv X pins σ H s) (g : DPutN X.w H a y v H') (ry : RelV y u) (rv : RelV v r) (h : ∀ s', Inv X pins σ H' s' → Q () s') :
    wpAny (model X.prog X.w) A (setItem (.ref a) u r) Q E s := by
  rcases g with g | ⟨xs, k, b, e, hx, ey, hk, hd, hl, eH⟩
  · exact d_setItem (by omega) I g ry rv h
  · subst ey eH
    cases ry
    obtain ⟨z, hs, ys, rel, dd⟩ := dn_of I.hok e hx
    have hz : ys.length ≤ sizeLine := by rw [← Paired.length rel]; exact z
    refine wpAny_setItem_heap (hsz := hz) (nk_room hu) (nk_is I hk hd) dd fun h' dd' hsb => h _ ?_
    have hz2 : (putN xs k b v).length ≤ sizeLine := by have := putN_le xs k b v; omega
    have := dn_obj (P := X.prog) (H := upd H a (.ext (DictN X.w a (putN xs k b v)))) hz2 hs (rel.put k b rv) dd'
    obtain ⟨q, es, ep, hq, _⟩ := dd'
    exact d_write I (by rw [e]; exact True.intro) hsb ⟨q, hq⟩ this
theorem isDN_at (I : Inv X pins σ H s) (d : IsDN X.w H a) : s.TypeIs (.ref a) "dict" ∧ (∀ b, Value.ref a = .ref b → ∃ ob, s.heap.get? b = some ob ∧ ob.dict = none) ∧ (a == sysModules) = false := by
  rcases d with d | ⟨xs, e, hx⟩
  · exact isD_at I d
  · obtain ⟨z, hs, ys, rel, dd⟩ := dn_of I.hok e hx
    refine ⟨dd.typeIs, fun b q => ?_, hs⟩
    cases q
    obtain ⟨ob, _, _, h1, h2, _⟩ := dd
    exact ⟨ob, h1, h2.2.1⟩
theorem dictN_typeIs (I : Inv X pins σ H s) (g : DGetN X.w H a y o) : s.TypeIs (.ref a) "dict" := by
  rcases g with g | ⟨kvs, e, ey, eo⟩ | ⟨xs, k, b, e, hx, ey, hk, hd, er⟩
  · exact dict_typeIs I g
  · exact (isD_at I (.inl ⟨kvs, e⟩)).1
  · exact (isDN_at I (.inr ⟨xs, e, hx⟩)).1
end
def tDGetN (w : World) (td ty : TE) : TE := fun σ H Q => td σ H fun x H1 => ty σ H1 fun y H2 => ∃ a v, x = .ref a ∧ DGetN w H2 a y (some v) ∧ Q v H2
def tDInN (w : World) (neg : Bool) (ty td : TE) : TE := fun σ H Q => ty σ H fun y H1 => td σ H1 fun x H2 => ∃ a o, x = .ref a ∧ DGetN w H2 a y o ∧ Q (.bl (if neg then !o.isSome else o.isSome)) H2
def sDPutN (w : World) (td ty tv : TE) : TS := fun D σ H => tv σ H fun v H1 => td σ H1 fun x H2 => ty σ H2 fun y H3 => ∃ a H4, x = .ref a ∧ DPutN w H3 a y v H4 ∧ D.nx σ H4
section
variable {X : Cx} {o i e f value : Expr} {pos pos' tpos apos cpos : Pos} {td ty tv tx : TE}
theorem pe_dgetN (hu : X.A.units + 16 < cLine) (ho : PE X o td) (hi : PE X i ty) (hs : NoSl i) : PE X (.Subscript o i pos) (tDGetN X.w td ty) := by
  refine ⟨fun pins s σ H Q I h => ?_⟩
  refine subD_of PySem.F.slot_dict_getitem.lookup hs (thn (ho.run pins s σ H _ I h) fun u s1 ⟨x, H1, I1, rx, q1⟩ => thn (hi.run pins s1 σ H1 _ I1 q1) fun iv s2 ⟨y, H2, I2, ry, a, v, ex, g, q2⟩ => ?_)
  subst ex
  obtain rfl : u = Value.ref a := rx
  exact ⟨dictN_typeIs I2 g, dN_getItem hu I2 g ry fun w' s3 I3 rw' => ⟨v, H2, I3, rw', q2⟩⟩
theorem pc_dnotinN (hu : X.A.units + 16 < cLine) (hi : PE X i ty) (ho : PE X o td) : PC X .NotIn i o (tDInN X.w true ty td) := by
  refine ⟨fun pins s σ H Q I h => ?_⟩
  refine thn (hi.run pins s σ H _ I h) fun iv s1 ⟨y, H1, I1, ry, q1⟩ => thn (ho.run pins s1 σ H1 _ I1 q1) fun u s2 ⟨x, H2, I2, rx, a, ov, ex, g, q2⟩ => ?_
  subst ex
  obtain rfl : u = Value.ref a := rx
  exact dN_notIn hu I2 g ry fun s3 I3 => ⟨.bl (!ov.isSome), H2, I3, rfl, q2⟩
theorem ps_dputN (hu : X.A.units + 16 < cLine) (ho : PE X o td) (hi : PE X i ty) (hv : PE X value tv) (hs : swapsWith value (some (.Subscript o i pos')) pos.line X.env = pure false) :
    PS X (.Assign [.Subscript o i pos'] value pos) (sDPutN X.w td ty tv) := by
  refine ⟨fun pins s σ H D I h => ?_⟩
  refine wpAny_Assign_Subscript (thn (hv.run pins s σ H _ I h) fun r s1 ⟨v, H1, I1, rv, q1⟩ => thn (ho.run pins s1 σ H1 _ I1 q1) fun u s2 ⟨x, H2, I2, rx, q2⟩ => thn (hi.run pins s2 σ H2 _ I2 q2) fun iv s3 ⟨y, H3, I3, ry, a, H4, ex, g, q3⟩ => ?_) hs
  subst ex
  obtain rfl : u = Value.ref a := rx
  exact dN_setItem hu I3 g ry rv fun s4 I4 => ⟨σ, H4, I4, q3⟩
/-- {}, to be a dict with tuples for keys -/
def tDNewN (w : World) : TE := fun _ H Q => ∀ p, H p = none → Q (.ref p) (upd H p (.ext (DictN w p [])))
theorem dn_empty {P : Program} {w : World} {H : Hp} (h : Heap) (hb : sysModules < h.objs.size) : ObjOk P w H (h.push { cls := .type "dict", data := .dict #[] }) h.objs.size (.ext (DictN w h.objs.size [])) :=
  dn_obj (ys := []) (Nat.zero_le _) (beq_eq_false_iff_ne.mpr (Ne.symm (Nat.ne_of_lt hb))) .nil (Heap.DictOfH.new h)
theorem pe_dnewN : PE X (.Dict [] [] pos) (tDNewN X.w) := ⟨fun pins s σ H Q I h =>
  wpAny_Dict_empty ⟨.ref s.heap.objs.size, _, I.laid (a := s.heap.objs.size) (o := .ext (DictN X.w s.heap.objs.size [])) (t' := s.toks) (fun _ _ q => Heap.get?_push_of_some _ q) (Nat.le_refl _) (dn_empty s.heap I.big), rfl, h _ (I.hok.fresh (Nat.le_refl _))⟩⟩
end
end AL
namespace AL
open PySem PySem.Spec PyProof.Rows L2
variable {B : Bs}
mutual
def keyN : D → Option NestedKey
  | .non => some .none
  | .bl b => some (.num (if b = true then 1 else 0))
  | .int i => some (.num i)
  | .str x => some (.text x)
  | .tup ds => (keyNs ds).map .tup
  | _ => none
def keyNs : List D → Option (List NestedKey)
  | [] => some []
  | d :: ds => match keyN d, keyNs ds with | some k, some ks => some (k :: ks) | _, _ => none
end
def isTup : D → Bool
  | .tup _ => true
  | _ => false
/-- a tuple that is a key -/
def keyT (d : D) : Option NestedKey := if isTup d = true then (match keyN d with | some k => if k.depth ≤ 8 then some k else none | none => none) else none
def asN (C : AH) : D → Option (List (NestedKey × D))
  | .ce p => (match C p with | some (.dn es) => some es | _ => none)
  | _ => none
def valND (es : List (NestedKey × D)) (k : NestedKey) : Option D := (es.find? fun kv => decide (kv.1 = k)).map (·.2)
def putND (es : List (NestedKey × D)) (k : NestedKey) (d : D) : List (NestedKey × D) :=
  if (valND es k).isSome = true then es.map (fun kv => if kv.1 = k then (kv.1, d) else kv) else es ++ [(k, d)]
/-- what a dict holds at a key; none: not to be told -/
def lookD (C : AH) (x y : D) : Option (Option D) := match asK C x with
  | some es => (match keyOf y with | some k => some (valD es k) | none => if isNon y = true then some none else none)
  | none => (match asN C x, keyT y with | some es, some k => some (valND es k) | _, _ => none)
section
variable {K : PySem.W.Frag} {F F' : Hp} {C : AH} {R H : Hp}
mutual
theorem keyN_ok : ∀ {d : D} {v : V} {k : NestedKey}, Rep K F v d → keyN d = some k → VKey F v k
  | .non, _, _, r, h => by cases r; cases h; exact .non
  | .bl b, _, _, r, h => by cases r; cases h; exact .bl b
  | .int i, _, _, r, h => by cases r; cases h; exact .int i
  | .str x, _, _, r, h => by cases r; cases h; exact .str x
  | .tup ds, _, _, r, h => by
    cases r with
    | tup h1 h2 =>
      unfold keyN at h
      obtain ⟨ks, q, rfl⟩ := Option.map_eq_some_iff.mp h
      exact .tup h1.1 (keyNs_ok h2 q)
  | .lst _, _, _, _, h => by unfold keyN at h; cases h
  | .dk _, _, _, _, h => by unfold keyN at h; cases h
  | .scr _, _, _, _, h => by unfold keyN at h; cases h
  | .ce _, _, _, _, h => by unfold keyN at h; cases h
theorem keyNs_ok : ∀ {ds : List D} {vs : List V} {ks : List NestedKey}, RepL K F vs ds → keyNs ds = some ks → VKeys F vs ks
  | [], _, _, r, h => by cases r; cases h; exact .nil
  | d :: ds, _, _, r, h => by
    cases r with
    | cons r1 r2 =>
      unfold keyNs at h
      split at h
      · rename_i q1 q2
        cases h
        exact .cons (keyN_ok r1 q1) (keyNs_ok r2 q2)
      · cases h
end
theorem keyT_ok {d : D} {v : V} {k : NestedKey} (r : Rep K F v d) (h : keyT d = some k) : ∃ b, v = .ref b ∧ VKey F v k ∧ k.depth ≤ 8 := by
  unfold keyT at h
  split at h
  · rename_i ht
    split at h
    · rename_i k' q
      split at h
      · rename_i hd
        cases h
        have := keyN_ok r q
        cases d <;> first | (cases ht; done) | skip
        cases r with
        | tup h1 h2 => exact ⟨_, rfl, this, hd⟩
      · cases h
    · cases h
  · cases h
theorem RepN.keys : ∀ {xs : List (NestedKey × Addr × V)} {es : List (NestedKey × D)}, RepN K F xs es → KeysN F xs
  | _, _, .nil => fun _ h => by cases h
  | _, _, .cons a b r t => fun x hx => by
    rcases List.mem_cons.mp hx with e | hx
    · subst e; exact ⟨a, b⟩
    · exact RepN.keys t x hx
theorem RepN.val (k : NestedKey) : ∀ {xs : List (NestedKey × Addr × V)} {es : List (NestedKey × D)}, RepN K F xs es → (match valND es k with | some d => ∃ v, valN xs k = some v ∧ Rep K F v d | none => valN xs k = none)
  | _, _, .nil => rfl
  | (j, a, v) :: xs, (_, d) :: es, .cons q b r t => by
    have ih := RepN.val k t
    by_cases e : j = k
    · subst e
      rw [valN_pos rfl]
      simp only [valND, List.find?_cons, decide_true, Option.map_some]
      exact ⟨v, rfl, r⟩
    · rw [valN_neg e]
      simp only [valND, List.find?_cons, decide_eq_false e]
      exact ih
theorem RepN.len : ∀ {xs : List (NestedKey × Addr × V)} {es : List (NestedKey × D)}, RepN K F xs es → xs.length = es.length
  | _, _, .nil => rfl
  | _, _, .cons _ _ _ t => by rw [List.length_cons, List.length_cons, RepN.len t]
theorem RepN.some_eq (k : NestedKey) {xs : List (NestedKey × Addr × V)} {es : List (NestedKey × D)} (h : RepN K F xs es) : (valN xs k).isSome = (valND es k).isSome := by
  have := h.val k
  cases q : valND es k with
  | none => rw [q] at this; rw [show valN xs k = none from this]; rfl
  | some d => rw [q] at this; obtain ⟨v, e, _⟩ := this; rw [e]; rfl
theorem RepN.repl (k : NestedKey) {v : V} {d : D} (r : Rep K F v d) : ∀ {xs : List (NestedKey × Addr × V)} {es : List (NestedKey × D)}, RepN K F xs es → RepN K F (xs.map fun x => if x.1 = k then (x.1, x.2.1, v) else x) (es.map fun kv => if kv.1 = k then (kv.1, d) else kv)
  | _, _, .nil => .nil
  | (j, a, _) :: _, _, .cons q1 q2 q t => by
    rw [List.map_cons, List.map_cons]
    by_cases e : j = k
    · rw [if_pos e, if_pos e]; exact .cons q1 q2 r (RepN.repl k r t)
    · rw [if_neg e, if_neg e]; exact .cons q1 q2 q (RepN.repl k r t)
theorem RepN.snoc {k : NestedKey} {a : Addr} {v : V} {d : D} (h1 : VKey F (.ref a) k) (h2 : k.depth ≤ 8) (r : Rep K F v d) : ∀ {xs : List (NestedKey × Addr × V)} {es : List (NestedKey × D)}, RepN K F xs es → RepN K F (xs ++ [(k, a, v)]) (es ++ [(k, d)])
  | _, _, .nil => .cons h1 h2 r .nil
  | _, _, .cons q1 q2 q t => .cons q1 q2 q (RepN.snoc h1 h2 r t)
theorem RepN.put {k : NestedKey} {a : Addr} {v : V} {d : D} (h1 : VKey F (.ref a) k) (h2 : k.depth ≤ 8) (r : Rep K F v d) {xs : List (NestedKey × Addr × V)} {es : List (NestedKey × D)} (h : RepN K F xs es) : RepN K F (putN xs k a v) (putND es k d) := by
  unfold putN putND
  rw [h.some_eq k]
  split
  · exact RepN.repl k r h
  · exact RepN.snoc h1 h2 r h
theorem asN_ok {v : V} {d : D} {es : List (NestedKey × D)} (hS : Sat B K F C R H) (r : Rep K F v d) (h : asN C d = some es) : ∃ a xs, v = .ref a ∧ H a = some (.ext (DictN B.g.w a xs)) ∧ RepN K F xs es := by
  cases d with
  | ce p =>
    cases r
    simp only [asN] at h
    split at h
    · rename_i e
      cases h
      obtain ⟨_, o, h1, h2⟩ := hS.cell p _ e
      cases h2 with
      | dn q => exact ⟨p, _, rfl, h1, q⟩
    · cases h
  | _ => cases h
def OkO (K : PySem.W.Frag) (F : Hp) (o : Option V) (r : Option D) : Prop := match r with | some d => ∃ z, o = some z ∧ Rep K F z d | none => o = none
theorem OkO.k {kvs : List (Key × V)} {es : List (Key × D)} {k : Key} (h : RepK K F kvs es) : OkO K F (valV kvs k) (valD es k) := by
  have := RepK.val k h
  unfold OkO
  cases q : valD es k with
  | none => rw [q] at this; exact this
  | some d => rw [q] at this; exact this
theorem OkO.n {xs : List (NestedKey × Addr × V)} {es : List (NestedKey × D)} {k : NestedKey} (h : RepN K F xs es) : OkO K F (valN xs k) (valND es k) := by
  have := RepN.val k h
  unfold OkO
  cases q : valND es k with
  | none => rw [q] at this; exact this
  | some d => rw [q] at this; exact this
theorem look_ok {v u : V} {x y : D} {r : Option D} (hS : Sat B K F C R H) (r1 : Rep K F v x) (r2 : Rep K F u y) (h : lookD C x y = some r) :
    ∃ a o, v = .ref a ∧ DGetN B.g.w H a u o ∧ OkO K F o r := by
  unfold lookD at h
  split at h
  · rename_i es q1
    obtain ⟨a, kvs, rfl, h3, h4⟩ := asK_ok hS r1 q1
    split at h
    · rename_i k q2
      cases h
      refine ⟨a, valV kvs k, rfl, .inl (by rw [keyOf_ok r2 q2]; exact .k h3), ?_⟩
      exact OkO.k h4
    · split at h
      · rename_i q2
        cases h
        refine ⟨a, none, rfl, .inr (.inl ⟨kvs, .inl h3, ?_, rfl⟩), rfl⟩
        have := isNon_ok r2
        rw [q2] at this
        exact of_decide_eq_true this
      · cases h
  · split at h
    · rename_i es k q1 q2
      cases h
      obtain ⟨a, xs, rfl, h3, h4⟩ := asN_ok hS r1 q1
      obtain ⟨b, rfl, h5, h6⟩ := keyT_ok r2 q2
      exact ⟨a, valN xs k, rfl, .inr (.inr ⟨xs, k, b, h3, fun z hz => ⟨(h4.keys z hz).1.mono hS.ex, (h4.keys z hz).2⟩, rfl, h5.mono hS.ex, h6, rfl⟩), OkO.n h4⟩
    · cases h
end
section
variable {X : Cx} {pos cpos apos p2 : Pos} {o i e : Expr} {to ti te : TE} {ao ai a : AE'} {K : PySem.W.Frag}
def aGetN (o i : AE') : AE' := fun s C P => o s C fun x C1 => i s C1 fun y C2 => match lookD C2 x y with
  | some (some d) => P d C2
  | _ => False
theorem sim_getN (ho : SimE B K to ao) (hi : SimE B K ti ai) : SimE B K (tDGetN B.g.w to ti) (aGetN ao ai) := by
  intro σ s F C R H Q P hs hS h k
  refine ho σ s F C R H _ _ hs hS h fun x v F1 C1 H1 e1 S1 r1 h1 => ?_
  refine hi σ s F1 C1 R H1 _ _ (hs.mono e1) S1 h1 fun y w F2 C2 H2 e2 S2 r2 h2 => ?_
  split at h2
  · rename_i d q
    obtain ⟨a, o, rfl, g, z, rfl, g2⟩ := look_ok S2 (r1.mono e2) r2 q
    exact ⟨a, z, rfl, g, k _ _ F2 C2 H2 (e1.trans e2) S2 g2 h2⟩
  · exact h2.elim
theorem ae_getN {g : Gd} (hu : X.A.units + 16 < cLine) (ho : AE B X o to ao) (hi : AE B X i ti ai) (hw : B.g = g := by first | rfl | assumption) (hX : (⟨X.w, X.mg⟩ : Gd) = g := by rfl) (hs : NoSl i := by exact fun _ _ => rfl) : AE B X (.Subscript o i pos) (tDGetN g.w to ti) (aGetN ao ai) :=
  ⟨by rw [← hX]; exact pe_dgetN hu ho.pe hi.pe hs, by subst hw; exact sim_getN ho.sim hi.sim⟩
def aInN (neg : Bool) (i o : AE') : AE' := fun s C P => i s C fun y C1 => o s C1 fun x C2 => match lookD C2 x y with
  | some r => P (.bl (if neg then !r.isSome else r.isSome)) C2
  | none => False
theorem sim_inN (neg : Bool) (ho : SimE B K to ao) (hi : SimE B K ti ai) : SimE B K (tDInN B.g.w neg ti to) (aInN neg ai ao) := by
  intro σ s F C R H Q P hs hS h k
  refine hi σ s F C R H _ _ hs hS h fun y v F1 C1 H1 e1 S1 r1 h1 => ?_
  refine ho σ s F1 C1 R H1 _ _ (hs.mono e1) S1 h1 fun x w F2 C2 H2 e2 S2 r2 h2 => ?_
  split at h2
  · rename_i r q
    obtain ⟨a, o, rfl, g, g2⟩ := look_ok S2 r2 (r1.mono e2) q
    refine ⟨a, o, rfl, g, ?_⟩
    have : o.isSome = r.isSome := by
      cases r with
      | none => rw [show o = none from g2]; rfl
      | some d => obtain ⟨z, rfl, _⟩ := g2; rfl
    rw [this]
    exact k _ _ F2 C2 H2 (e1.trans e2) S2 (.bl _) h2
  · exact h2.elim
theorem at_notInN {g : Gd} (hu : X.A.units + 16 < cLine) (hi : AE B X i ti ai) (ho : AE B X o to ao) (hw : B.g = g := by first | rfl | assumption) (hX : (⟨X.w, X.mg⟩ : Gd) = g := by rfl) (h1 : behindInMarks .NotIn o = false := by rfl) : AT B X (.Compare i [.NotIn] [o] pos) (tTest (tDInN g.w true ti to)) (aB (aInN true ai ao)) :=
  ⟨by rw [← hX]; exact pt_cmp (pc_dnotinN hu hi.pe ho.pe) h1, by subst hw; exact sim_B (sim_inN true ho.sim hi.sim)⟩
def isDic (C : AH) (x : D) : Bool := (asK C x).isSome || (asN C x).isSome
def aGet1N (o i : AE') : AE' := fun s C P => o s C fun x C1 => isDic C1 x = true ∧ i s C1 fun y C2 => match lookD C2 x y with
  | some r => P (r.getD .non) C2
  | none => False
/-- d[k] = e -/
def aPutN (o i e : AE') : AS' := fun E s C => e s C fun d C1 => o s C1 fun x C2 => i s C2 fun y C3 => match x with
  | .ce p => (match C3 p with
    | some (.dk es) => (match keyOf y with | some k => es.length < sizeLine ∧ E.nx s (put C3 p (.dk (putD es k d))) | none => False)
    | some (.dn es) => (match keyT y with | some k => es.length < sizeLine ∧ E.nx s (put C3 p (.dn (putND es k d))) | none => False)
    | _ => False)
  | _ => False
theorem sim_putN (ho : SimE B K to ao) (hi : SimE B K ti ai) (he : SimE B K te a) : SimS B K (sDPutN B.g.w to ti te) (aPutN ao ai a) := fun D' E σ s F C R H hE hs hS h => by
  refine he σ s F C R H _ _ hs hS h fun d v F1 C1 H1 e1 S1 r1 h1 => ?_
  refine ho σ s F1 C1 R H1 _ _ (hs.mono e1) S1 h1 fun x w F2 C2 H2 e2 S2 r2 h2 => ?_
  refine hi σ s F2 C2 R H2 _ _ (hs.mono (e1.trans e2)) S2 h2 fun y u F3 C3 H3 e3 S3 r3 h3 => ?_
  split at h3
  · rename_i p
    cases r2
    split at h3
    · rename_i es q2
      split at h3
      · rename_i ky q1
        obtain ⟨hl, h3⟩ := h3
        obtain ⟨hF, ob, h4, h5⟩ := S3.cell p _ q2
        cases h5 with
        | dk h6 =>
          refine ⟨p, _, rfl, .inl ?_, hE.nx s σ F3 _ _ ((e1.trans e2).trans e3) (hs.mono ((e1.trans e2).trans e3)) (S3.mutC q2 (.dk (RepK.put ky (r1.mono (e2.trans e3)) h6))) h3⟩
          rw [keyOf_ok r3 q1]
          exact .k h4 (by rw [h6.length]; exact hl)
      · exact h3.elim
    · rename_i es q2
      split at h3
      · rename_i ky q1
        obtain ⟨hl, h3⟩ := h3
        obtain ⟨hF, ob, h4, h5⟩ := S3.cell p _ q2
        obtain ⟨b, rfl, g5, g6⟩ := keyT_ok r3 q1
        cases h5 with
        | dn h6 =>
          exact ⟨p, _, rfl, .inr ⟨_, ky, b, h4, fun z hz => ⟨(h6.keys z hz).1.mono S3.ex, (h6.keys z hz).2⟩, rfl, g5.mono S3.ex, g6, by rw [h6.len]; exact hl, rfl⟩,
            hE.nx s σ F3 _ _ ((e1.trans e2).trans e3) (hs.mono ((e1.trans e2).trans e3)) (S3.mutC q2 (.dn (RepN.put g5 g6 (r1.mono (e2.trans e3)) h6))) h3⟩
      · exact h3.elim
    · exact h3.elim
  · exact h3.elim
theorem as_putN {g : Gd} (hu : X.A.units + 16 < cLine) (ho : AE B X o to ao) (hi : AE B X i ti ai) (he : AE B X e te a) (hw : B.g = g := by first | rfl | assumption) (hX : (⟨X.w, X.mg⟩ : Gd) = g := by rfl) (hs : swapsWith e (some (.Subscript o i p2)) pos.line X.env = pure false := by rfl) : AS B X (.Assign [.Subscript o i p2] e pos) (sDPutN g.w to ti te) (aPutN ao ai a) :=
  ⟨by rw [← hX]; exact ps_dputN hu ho.pe hi.pe he.pe hs, by subst hw; exact sim_putN ho.sim hi.sim he.sim⟩
/-- {}, for tuples -/
def aDict0N : AE' := fun _ C P => ∀ p, C p = none → P (.ce p) (put C p (.dn []))
theorem sim_dict0N : SimE B K (tDNewN B.g.w) aDict0N := fun σ s F C R H Q P hs hS h k p hp => k _ _ F _ _ (Ex.refl F) (hS.newC hp (.dn .nil)) (.ce p) (h p (hS.freeC hp))
theorem ae_dict0N {g : Gd} (hw : B.g = g := by first | rfl | assumption) (hX : (⟨X.w, X.mg⟩ : Gd) = g := by rfl) : AE B X (.Dict [] [] pos) (tDNewN g.w) aDict0N := ⟨by rw [← hX]; exact pe_dnewN, by subst hw; exact sim_dict0N⟩
end
end AL
namespace AL
open PySem PySem.Spec PyProof.Rows L2
variable {B : Bs}
theorem inv_known {X : Cx} {pins : List (Addr × Obj)} {σ : L2.St} {H : Hp} {s sI : Shared} {a : Addr} {o : HO} (I : Inv X pins σ H s) (J : Inv X pins σ H sI) (hI : sI.heap.get? a = none) (na : H a = none) (nL : a ≠ X.env.locals) (nF : a ∉ X.fs)
    (hc : ∀ v, ¬ s.heap.IsCell a v) (new : ObjOk X.prog X.w (upd H a o) s.heap a o) : Inv X pins σ (upd H a o) s := by
  have nit : ∀ b u, H b = some u → b ≠ a := fun b u e z => by rw [z, na] at e; cases e
  have up : ∀ b u, H b = some u → upd H a o b = some u := fun b u e => by rw [upd_ne (nit b u e)]; exact e
  have old : ∀ ob, X.s_0.heap.get? a = some ob → a ∈ X.ex := fun ob e => by
    by_cases hx : a ∈ X.ex
    · exact hx
    · obtain ⟨o', e'⟩ := J.base.there a ob e hx
      rw [hI] at e'; cases e'
  refine ⟨I.ok, I.os, I.bare, ⟨I.base.keep, I.base.slot, fun b ob e n hx => ?_, I.base.there, fun b xs e => up b _ (I.base.tups b xs e), fun b ob u e => up b _ (I.base.frzs b ob u e), fun b ps e => ?_⟩, I.loc, I.cell, ?_, fun x c e => ?_, fun p hp => ?_, fun b u e => ?_, I.len⟩
  · have hb : b ≠ a := fun z => by subst z; exact hx (old ob e)
    rw [upd_ne hb]
    exact I.base.free b ob e n hx
  · obtain ⟨more, e'⟩ := I.base.tbls b ps e
    exact ⟨more, up b _ e'⟩
  · rw [upd_ne (Ne.symm nL)]
    exact I.free
  · have hb : c ≠ a := fun z => by
      obtain ⟨v, q⟩ := I.cell x c e
      rw [z] at q
      exact hc v q
    rw [upd_ne hb]
    exact I.freeC x c e
  · obtain ⟨h1, h2, h3⟩ := I.pin p hp
    have hb : p.1 ≠ a := fun z => by
      have := (J.pin p hp).1
      rw [z, hI] at this; cases this
    exact ⟨h1, by rw [upd_ne hb]; exact h2, h3⟩
  · by_cases hb : b = a
    · rw [hb, upd_same] at e
      cases e
      rw [hb]
      exact new
    · rw [upd_ne hb] at e
      exact (I.hok b u e).stay (fun c v _ q => q) (fun c q => up c _ q) fun c _ q => up c _ q
theorem inv_suite {X : Cx} {pins : List (Addr × Obj)} {σ : L2.St} {H : Hp} {s : Shared} (I : Inv X pins σ H s) (a : Addr) : Inv (X.suite a (X.pn ++ pins)) [] σ H s :=
  ⟨I.ok.suite _ _, I.os, I.bare, I.base, I.loc, I.cell, I.free, I.freeC, fun p hp => by
    have hp' : p ∈ X.pn ++ pins := by rw [List.append_nil] at hp; exact hp
    exact I.pin p hp', I.hok, I.len⟩
theorem inv_unsuite {X : Cx} {pins : List (Addr × Obj)} {σ : L2.St} {H : Hp} {s : Shared} {a : Addr} (I : Inv (X.suite a (X.pn ++ pins)) [] σ H s) (ok : X.Ok) : Inv X pins σ H s :=
  ⟨ok, I.os, I.bare, I.base, I.loc, I.cell, I.free, I.freeC, fun p hp => I.pin p (by show p ∈ (X.pn ++ pins) ++ []; rw [List.append_nil]; exact hp), I.hok, I.len⟩
/-- the ends behind a suite whose clause names slot i -/
def goneE (i : Nat) (D : Ends) : Ends := { nx := fun σ' H' => D.nx (σ'.set i none) H', rt := D.rt, bk := fun σ' H' => D.bk (σ'.set i none) H', ct := fun σ' H' => D.ct (σ'.set i none) H' }
/-- what the clauses wish, one after the other: (classes, slot, suite) -/
def wManyA (K : PySem.W.Frag) (Wout : WX) (D : Ends) : List (List Value × Nat × TS) → WX
  | [] => Wout
  | (c, i, ts) :: r => fun cls d σ H => ∃ b, PySem.W.exmAny K cls c = some b ∧ (b = true → d = none ∧ ∀ a, H a = none → ts (goneE i D) (σ.set i (some (.ref a))) (upd H a (.ext (ExcAt cls a)))) ∧ (b = false → wManyA K Wout D r cls d σ H)
inductive HdsA (X : Cx) : List ExceptHandler → List (List Value × Nat × TS) → Prop
  | nil : HdsA X [] []
  | cons {x n : Str} {c : Value} {i : Nat} {ts : TS} {b₀ : Stmt} {suite : List Stmt} {np pos' : Pos} {hds : List ExceptHandler} {l : List (List Value × Nat × TS)} (hc : Names X x c) (hi : X.N[i]? = some n) (hln : X.env.kindOf n = some .local)
      (hsu : ∀ (a : Addr) (pn : List (Addr × Obj)), PSs (X.suite a pn) (b₀ :: suite) ts) (r : HdsA X hds l) :
      HdsA X (.ExceptHandler (some (.Name x np)) (some n) (b₀ :: suite) pos' :: hds) (([c], i, ts) :: l)
  | cons2 {x x2 n : Str} {c c2 : Value} {i kk : Nat} {ts : TS} {b₀ : Stmt} {suite : List Stmt} {np np2 tp pos' : Pos} {hds : List ExceptHandler} {l : List (List Value × Nat × TS)} (hc : Names X x c) (hc2 : Names X x2 c2) (hi : X.N[i]? = some n) (hln : X.env.kindOf n = some .local)
      (hsu : ∀ (a : Addr) (pn : List (Addr × Obj)), PSs (X.suite a pn) (b₀ :: suite) ts) (r : HdsA X hds l) :
      HdsA X (.ExceptHandler (some (.Tuple [.Name x np, .Name x2 np2] kk tp)) (some n) (b₀ :: suite) pos' :: hds) (([c, c2], i, ts) :: l)
theorem flyZ_keeps {base h h' : Heap} {l : List Env} {e : Addr} {Z : Obj → Prop} (x : HandSPX.FlyingZ base l e Z h) (k : ∀ b o, h.get? b = some o → h'.get? b = some o) : HandSPX.FlyingZ base l e Z h' := by
  obtain ⟨f1, f2, f3, oe, vs, T, oT, ts, he, hz, hd, h1, hnT, hTe, hT, hdT, h3⟩ := x
  exact ⟨fun b o hb => k b o (f1 b o hb), f2, f3.of_keeps fun b o ho _ => ⟨o, k b o ho, rfl⟩, oe, vs, T, oT, ts, k _ _ he, hz, hd, h1, hnT, hTe, k _ _ hT, hdT, h3⟩
theorem excAt_ok {P : Program} {w : World} {H : Hp} {h : Heap} {a : Addr} {cls : Value} {oe : Obj} (he : h.get? a = some oe) (hz : Zc cls none oe) (hd : ∃ vs, oe.data = .fields vs) : ObjOk P w H h a (.ext (ExcAt cls a)) := by
  obtain ⟨vs, hd⟩ := hd
  exact ⟨⟨oe, vs, he, hz.1, hz.2, hd⟩, ⟨oe, he⟩, fun h1 h2 ⟨o, vs, e, r⟩ k => ⟨o, vs, k o e, r⟩⟩
section
variable {X : Cx} {body : List Stmt} {h₀ : ExceptHandler} {hds : List ExceptHandler} {l : List (List Value × Nat × TS)} {pos : Pos} {tb : WX → TS} {Wout : WX}
theorem ps_try_manyA (hN : X.N.Nodup) (hs : X.stack = X.env :: X.outer) (hf : X.env.frame = some X.env.locals) (tk : Takes X Wout)
    (hb : ∀ (W : WX) (pn : List (Addr × Obj)) (xe : Value → Shared → Prop), Takes (X.tr pn xe) W → PassesOwn (model X.prog X.w) X.A X.env xe → PSs (X.tr pn xe) body (tb W))
    (hh : HdsA X (h₀ :: hds) l) : PS X (.Try body (h₀ :: hds) [] [] pos) (fun D σ H => tb (wManyA X.K Wout D l) D σ H) := by
  refine ⟨fun pins s σ H D I h => ?_⟩
  have ok := I.ok
  have hfr : X.A.frames = some (X.env :: X.outer) := by rw [ok.frames, hs]
  refine wpAny_Try_except ?_
  refine wpAny_mono ((hb (wManyA X.K Wout D l) (X.pn ++ pins) (fun e s₁ => wpAny (model X.prog X.w) X.A (noteFrame e X.env) (fun _ s₂ => wpAny (model X.prog X.w) X.A (setFlight e none) (fun _ s₃ =>
    wpAny (model X.prog X.w) X.A (handleBy e X.env (h₀ :: hds)) (SP X pins D) X.xe s₃) X.xe s₂) X.xe s₁) (fun u s' xx => ?_) PassesOwn.looking).run [] s σ H D (I.toTry _) h) (fun f s1 hsp => ?_) (fun e s1 he => he)
  · -- the catch
    obtain ⟨a, B, sI, pins', σ', H', cls, d, rfl, J', nb, up, sky, na, os, ag, w⟩ := xx
    have J : Inv X pins σ' H' sI := J'.ofTry ok
    have sky' : Sky B (X.env :: X.outer) a (Zc cls d) X.env.locals s'.heap := by rw [← hs]; exact sky
    show wpAny (model X.prog X.w) X.A (noteFrame (.ref a) X.env) _ _ _
    refine Sky.land Zc.steady hfr hf sky' fun h3 fl0 up3 => ?_
    have go : ∀ {hds' : List ExceptHandler} {l' : List (List Value × Nat × TS)}, HdsA X hds' l' → ∀ h3, HandSPX.FlyingZ B (X.env :: X.outer) a (Zc cls d) h3 → s'.heap.UpToSlots h3 → wManyA X.K Wout D l' cls d σ' H' →
        wpAny (model X.prog X.w) X.A (handleBy (.ref a) X.env hds') (SP X pins D) X.xe { s' with heap := h3 } := by
      intro hds' l' hk
      have notFr : ∀ {h : Heap} {o : Obj} {vs : Array Value}, h.FunFrames B (X.env :: X.outer) → h.get? a = some o → o.data = .fields vs → a ∉ frs (X.env :: X.outer) := fun {h o vs} ff e dd hm => by
        obtain ⟨_, o', e', hnf⟩ := ff.mem hm
        rw [e] at e'; cases e'
        exact hnf _ dd
      obtain ⟨oe0, vs0, he0, hz0, hd0⟩ := fl0.there
      have nfr := notFr fl0.2.2.1 he0 hd0
      have hI : sI.heap.get? a = none := by
        cases q : sI.heap.get? a with
        | none => rfl
        | some o =>
          have := nb a o q (by rw [hs]; exact nfr)
          rw [fl0.2.1] at this; cases this
      have nL : a ≠ X.env.locals := fun z => nfr (List.mem_filterMap.mpr ⟨X.env, List.mem_cons_self, by rw [hf, z]⟩)
      have nF : a ∉ X.fs := fun hm => by
        obtain ⟨e, he, q⟩ := List.mem_filterMap.mp hm
        exact nfr (List.mem_filterMap.mpr ⟨e, List.mem_cons_of_mem _ he, q⟩)
      -- the suite of a clause that catches
      have suite_ : ∀ {n : Str} {i : Nat} {ts : TS} {b₀ : Stmt} {suite : List Stmt} {pos' : Pos}, X.N[i]? = some n → X.env.kindOf n = some .local → (∀ (a : Addr) (pn : List (Addr × Obj)), PSs (X.suite a pn) (b₀ :: suite) ts) →
          d = none → (∀ a, H' a = none → ts (goneE i D) (σ'.set i (some (.ref a))) (upd H' a (.ext (ExcAt cls a)))) → ∀ h3, HandSPX.FlyingZ B (X.env :: X.outer) a (Zc cls d) h3 → s'.heap.UpToSlots h3 → ∀ {E : Value → Shared → Prop},
          wpAny (model X.prog X.w) (X.A.mark (some (.ref a))) (setFlight (.ref a) none) (fun _ s5 => wpAny (model X.prog X.w) (X.A.mark (some (.ref a))) (storeName X.env n (.ref a)) (fun _ s6 => wpAny (model X.prog X.w) (X.A.mark (some (.ref a))) (execs (b₀ :: suite) X.env)
            (fun f s7 => wpAny (model X.prog X.w) X.A (do bindName X.env n .none; unbindBehindTheSuite X.env n pos') (fun _ s8 => SP X pins D f s8) X.xe s7) (fun _ _ => False) s6) (fun _ _ => False) s5) (fun _ _ => False) { s' with heap := h3 } := by
        intro n i ts b₀ suite pos' hi hln hsu hdn hy2 h3 fl3 up3 E
        subst hdn
        have hloc : Loc X.env.scope n := .inl hln
        refine HandSPX.lands_againZ fl3 fun h4 fl4 up4 => ?_
        have J4 : Inv X pins σ' H' { s' with heap := h4 } := J.landed nb fl4.1 ((up.trans up3).trans up4) os ag
        obtain ⟨oe4, vs4, he4, hz4, hd4⟩ := fl4.there
        have J5 := inv_known (o := .ext (ExcAt cls a)) J4 J hI na nL nF (fun v ⟨o, ho, hd⟩ => by
          have ho' : h4.get? a = some o := ho
          rw [he4] at ho'; cases ho'; rw [hd4] at hd; cases hd) (excAt_ok he4 hz4 ⟨_, hd4⟩)
        have S5 := inv_suite J5 a
        refine store_ok (X := X.suite a (X.pn ++ pins)) (v := .ref a) S5 hN hi hloc rfl (fun s6 S6 => ?_) (.inr hln)
        refine wpAny_mono ((hsu a (X.pn ++ pins)).run [] s6 _ _ _ S6 (hy2 a na)) (fun f s7 hsp => ?_) (fun _ _ z => False.elim z)
        have end_ : ∀ {σ6 : L2.St} {H6 : Hp} {Q : Shared → Prop} {s7 : Shared}, Inv (X.suite a (X.pn ++ pins)) [] σ6 H6 s7 → (∀ s8, Inv X pins (σ6.set i none) H6 s8 → Q s8) →
            wpAny (model X.prog X.w) X.A (do bindName X.env n .none; unbindBehindTheSuite X.env n pos') (fun _ s8 => Q s8) X.xe s7 := fun {σ6 H6 Q s7} S7 hq => L2.gone_ok (inv_unsuite S7 ok) hN hi hln hq
        cases f with
        | next =>
          obtain ⟨σ6, H6, S7, q6⟩ := hsp
          exact end_ S7 fun s8 J8 => ⟨_, _, J8, q6⟩
        | brk =>
          obtain ⟨σ6, H6, S7, q6⟩ := hsp
          exact end_ S7 fun s8 J8 => ⟨_, _, J8, q6⟩
        | cont =>
          obtain ⟨σ6, H6, S7, q6⟩ := hsp
          exact end_ S7 fun s8 J8 => ⟨_, _, J8, q6⟩
        | ret u =>
          obtain ⟨v6, σ6, H6, S7, r6, q6⟩ := hsp
          exact end_ S7 fun s8 J8 => ⟨_, _, _, J8, r6, q6⟩
      induction hk with
      | nil =>
        intro h3 fl3 up3 w
        refine wpAny_handleBy_nil ?_
        obtain ⟨k1, k2, k3, oe, vs, T, oT, ts', he, hz, hd, h1, hr⟩ := id fl3
        unfold PySem.passOn
        refine wpAny_bind (wpAny_field he hd h1 ?_)
        rw [if_neg (show ¬ ((Value.ref T == Value.none) = true) from by simp)]
        have fin : wpAny (model X.prog X.w) X.A (setFlight (.ref a) X.env.frame) (fun _ s4 => wpAny (model X.prog X.w) X.A (throw (.ref a) : Sem Flow) (SP X pins D) X.xe s4) X.xe { s' with heap := h3 } := by
          rw [hf]
          refine HandSPX.setFlight_upZ fl3 fun h4 hh4 up4 => wpAny_throw (tk _ _ ?_)
          exact ⟨a, B, sI, pins, σ', H', cls, d, rfl, J, nb, (up.trans up3).trans up4, .inr (.inr (by rw [hs]; exact hh4)), na, os, ag, w⟩
        first
          | exact wpAny_bind (wpAny_pure (wpAny_bind fin))
          | exact wpAny_bind fin
      | @cons x n c i ts b₀ suite np pos' hds2 l2 hc hi hln hsu r ih =>
        intro h3 fl3 up3 w
        obtain ⟨b, hb1, hyes, hno⟩ := w
        have J3 : Inv X pins σ' H' { s' with heap := h3 } := J.landed nb fl3.1 (up.trans up3) os ag
        obtain ⟨oe3, vs3, he3, hz3, hd3⟩ := fl3.there
        have S3 := J3.suite he3 hd3 na nL nF
        refine wpAny_handleBy_cons (codeAny_handlers_test ?_) (by intro q; cases q)
        have LT : PySem.W.Looks (model X.prog X.w) h3 (typeOf (.ref a)) cls := fun A Q E s k q => wpAny_typeOf_ref (k _ _ he3) (by rw [hz3.1]; exact q)
        have hb0 : PySem.W.exmOne X.K cls c = some b := by
          obtain ⟨b1, d1, e1, e2, e3⟩ := PySem.W.exmAny_cons hb1
          cases e2
          rw [e1, e3, Bool.or_false]
        have LM := PySem.W.exm_one (M := model X.prog X.w) (J3.kIn) LT hb0
        have test : ∀ {Q : Value → Shared → Prop} {E : Value → Shared → Prop}, Q c { s' with heap := h3 } → wpAny (model X.prog X.w) (X.A.mark (some (.ref a))) (eval (.Name x np) X.env) Q E { s' with heap := h3 } := fun {Q E} q => by
          obtain ⟨hg, hdbg, hm | ⟨hm, hv, hnn⟩⟩ := hc
          · exact ld_glob (X := X.suite a ((a, oe3) :: (X.pn ++ pins))) S3 hg hm q hdbg
          · exact ld_blt (X := X.suite a ((a, oe3) :: (X.pn ++ pins))) S3 hg hm hv q hnn hdbg
        refine test (LM.here ?_)
        cases b with
        | true =>
          obtain ⟨hdn, hy2⟩ := hyes rfl
          refine codeAny_handlers_suite_as ?_
          exact wpAny_mono (suite_ hi hln hsu hdn hy2 h3 fl3 up3 (E := fun _ _ => True)) (fun _ _ z => wpAny_mono z (fun _ _ z => wpAny_mono z (fun _ _ z => z) (fun _ _ z => z.elim)) (fun _ _ z => z.elim)) (fun _ _ z => z.elim)
        | false =>
          show wpAny _ X.A (handleBy (.ref a) X.env hds2) _ _ _
          exact ih h3 fl3 up3 (hno rfl)
      | @cons2 x x2 n c c2 i kk ts b₀ suite np np2 tp pos' hds2 l2 hc hc2 hi hln hsu r ih =>
        intro h3 fl3 up3 w
        obtain ⟨b, hb1, hyes, hno⟩ := w
        have J3 : Inv X pins σ' H' { s' with heap := h3 } := J.landed nb fl3.1 (up.trans up3) os ag
        obtain ⟨oe3, vs3, he3, hz3, hd3⟩ := fl3.there
        have S3 := J3.suite he3 hd3 na nL nF
        refine wpAny_handleBy_cons (codeAny_handlers_test ?_) (by intro q; cases q)
        have LT : PySem.W.Looks (model X.prog X.w) h3 (typeOf (.ref a)) cls := fun A Q E s k q => wpAny_typeOf_ref (k _ _ he3) (by rw [hz3.1]; exact q)
        have test : ∀ {x : Str} {c : Value} {np : Pos} {Q : Value → Shared → Prop} {E : Value → Shared → Prop}, Names X x c → Q c { s' with heap := h3 } → wpAny (model X.prog X.w) (X.A.mark (some (.ref a))) (eval (.Name x np) X.env) Q E { s' with heap := h3 } := fun {x c np Q E} hc q => by
          obtain ⟨hg, hdbg, hm | ⟨hm, hv, hnn⟩⟩ := hc
          · exact ld_glob (X := X.suite a ((a, oe3) :: (X.pn ++ pins))) S3 hg hm q hdbg
          · exact ld_blt (X := X.suite a ((a, oe3) :: (X.pn ++ pins))) S3 hg hm hv q hnn hdbg
        refine wpAny_Tuple ?_
        refine wpAny_items_cons (test hc ?_)
        refine wpAny_items_cons (test hc2 ?_)
        refine wpAny_items_nil ⟨by size_fits, ?_⟩
        have kp : ∀ q o, h3.get? q = some o → (h3.push { cls := .type "tuple", data := .seq [c, c2].toArray }).get? q = some o := fun _ _ z => Heap.get?_push_of_some _ z
        have LM := PySem.W.exm_tup2 (M := model X.prog X.w) ((J3.kIn).keeps kp) (LT.keeps kp) (Heap.get?_push_size h3 rfl) hb1
        have fl5 := flyZ_keeps fl3 kp
        have up5 := up3.trans (Heap.UpToSlots.of_keeps kp)
        refine LM.here ?_
        cases b with
        | true =>
          obtain ⟨hdn, hy2⟩ := hyes rfl
          refine codeAny_handlers_suite_as ?_
          exact wpAny_mono (suite_ hi hln hsu hdn hy2 _ fl5 up5 (E := fun _ _ => True)) (fun _ _ z => wpAny_mono z (fun _ _ z => wpAny_mono z (fun _ _ z => z) (fun _ _ z => z.elim)) (fun _ _ z => z.elim)) (fun _ _ z => z.elim)
        | false =>
          show wpAny _ X.A (handleBy (.ref a) X.env hds2) _ _ _
          exact ih _ fl5 up5 (hno rfl)
    exact go hh h3 fl0 up3 w
  · cases f with
    | next =>
      obtain ⟨σ', H', J', q⟩ := hsp
      exact wpAny_execs_nil ⟨σ', H', J'.ofTry ok, q⟩
    | brk =>
      obtain ⟨σ', H', J', q⟩ := hsp
      exact ⟨σ', H', J'.ofTry ok, q⟩
    | cont =>
      obtain ⟨σ', H', J', q⟩ := hsp
      exact ⟨σ', H', J'.ofTry ok, q⟩
    | ret u =>
      obtain ⟨v, σ', H', J', r, q⟩ := hsp
      exact ⟨v, σ', H', J'.ofTry ok, r, q⟩
end
end AL
namespace AL
open PySem PySem.Spec PyProof.Rows L2
variable {B : Bs}
def goneA (i : Nat) (E : AEnds) : AEnds := ⟨fun s C => E.nx (s.set i none) C, E.rt, fun s C => E.bk (s.set i none) C, fun s C => E.ct (s.set i none) C⟩
/-- whether a class is below one of some, where each is known -/
def anyS (sub : Str → Str → Option Bool) (nm : Str) : List Str → Option Bool
  | [] => some false
  | c :: r => match sub nm c, anyS sub nm r with
    | some b, some d => some (b || d)
    | _, _ => none
def aHandA (sub : Str → Str → Option Bool) (Wout : AX') (E : AEnds) : List (List Str × Nat × AS') → AX'
  | [] => Wout
  | (c, i, h) :: r => fun s nm C => match anyS sub nm c with | some true => ∀ a, C a = none → h (goneA i E) (s.set i (some (.ce a))) (put C a (.exc nm)) | some false => aHandA sub Wout E r s nm C | none => False
def aTryA (sub : Str → Str → Option Bool) (body : AX' → AS') (hds : List (List Str × Nat × AS')) (Wout : AX') : AS' := fun E s C => body (aHandA sub Wout E hds) E s C
theorem Slo.unset {K : PySem.W.Frag} {F : Hp} {s : ASt} {σ : L2.St} (r : Slo K F s σ) (i : Nat) : Slo K F (s.set i none) (σ.set i none) := by
  refine ⟨by rw [List.length_set, List.length_set, r.len], fun j e q => ?_⟩
  by_cases hj : i = j
  · subst hj
    by_cases hi : i < s.length
    · rw [List.getElem?_set_self hi] at q; cases q
    · rw [List.getElem?_eq_none (by rw [List.length_set]; omega)] at q; cases q
  · rw [List.getElem?_set_ne hj] at q
    obtain ⟨v, h1, h2⟩ := r.at' j e q
    exact ⟨v, by rw [List.getElem?_set_ne hj]; exact h1, h2⟩
theorem EndsR.gone {K : PySem.W.Frag} {F R : Hp} {E : AEnds} {D' : Ends} (hE : EndsR B K F R E D') (i : Nat) : EndsR B K F R (goneA i E) (goneE i D') :=
  ⟨fun s σ F' C' H' e hs S h => hE.nx _ _ F' C' H' e (hs.unset i) S h, hE.rt, fun s σ F' C' H' e hs S h => hE.bk _ _ F' C' H' e (hs.unset i) S h, fun s σ F' C' H' e hs S h => hE.ct _ _ F' C' H' e (hs.unset i) S h⟩
theorem anyS_cons {sub : Str → Str → Option Bool} {nm c : Str} {r : List Str} {b : Bool} (h : anyS sub nm (c :: r) = some b) : ∃ b1 d1, sub nm c = some b1 ∧ anyS sub nm r = some d1 ∧ b = (b1 || d1) := by
  unfold anyS at h
  split at h
  · rename_i b1 d1 h1 h2
    exact ⟨b1, d1, h1, h2, (Option.some.inj h).symm⟩
  · cases h
theorem exmAny_mk {K : PySem.W.Frag} {cls c : Value} {r : List Value} {b d e : Bool} (h1 : PySem.W.exmOne K cls c = some b) (h2 : PySem.W.exmAny K cls r = some d) (h3 : e = (b || d)) : PySem.W.exmAny K cls (c :: r) = some e := by
  unfold PySem.W.exmAny
  rw [h1, h2, h3]
inductive AHdsA (X : Cx) : List ExceptHandler → List (List Value × Nat × TS) → List (List Str × Nat × AS') → Prop
  | nil : AHdsA X [] [] []
  | cons {x n : Str} {c : Value} {i : Nat} {ts : TS} {ha : AS'} {b₀ : Stmt} {suite : List Stmt} {np pos' : Pos} {hds : List ExceptHandler} {l : List (List Value × Nat × TS)} {la : List (List Str × Nat × AS')} (hm : X.mg x = some c) (hg : Gl X x) (hdb : (x == ("__debug__" : Str)) = false)
      (hi : X.N[i]? = some n) (hln : X.env.kindOf n = some .local)
      (hsu : ∀ (B : Bs) (hw : B.g = ⟨X.w, X.mg⟩) (a : Addr) (pn : List (Addr × Obj)), ASs B (X.suite a pn) (b₀ :: suite) ts ha) (r : AHdsA X hds l la) :
      AHdsA X (.ExceptHandler (some (.Name x np)) (some n) (b₀ :: suite) pos' :: hds) (([c], i, ts) :: l) (([x], i, ha) :: la)
  | cons2 {x x2 n : Str} {c c2 : Value} {i kk : Nat} {ts : TS} {ha : AS'} {b₀ : Stmt} {suite : List Stmt} {np np2 tp pos' : Pos} {hds : List ExceptHandler} {l : List (List Value × Nat × TS)} {la : List (List Str × Nat × AS')} (hm : X.mg x = some c) (hg : Gl X x) (hdb : (x == ("__debug__" : Str)) = false)
      (hm2 : X.mg x2 = some c2) (hg2 : Gl X x2) (hdb2 : (x2 == ("__debug__" : Str)) = false) (hi : X.N[i]? = some n) (hln : X.env.kindOf n = some .local)
      (hsu : ∀ (B : Bs) (hw : B.g = ⟨X.w, X.mg⟩) (a : Addr) (pn : List (Addr × Obj)), ASs B (X.suite a pn) (b₀ :: suite) ts ha) (r : AHdsA X hds l la) :
      AHdsA X (.ExceptHandler (some (.Tuple [.Name x np, .Name x2 np2] kk tp)) (some n) (b₀ :: suite) pos' :: hds) (([c, c2], i, ts) :: l) (([x, x2], i, ha) :: la)
section
variable {X : Cx} {body : List Stmt} {h₀ : ExceptHandler} {hds : List ExceptHandler} {l : List (List Value × Nat × TS)} {la : List (List Str × Nat × AS')} {pos : Pos} {tb : WX → TS} {W : AX'} {Wk : WX} {ab : AX' → AS'} {sub : Str → Str → Option Bool}
theorem AHdsA.ok {hds : List ExceptHandler} (h : AHdsA X hds l la) : HdsA X hds l := by
  induction h with
  | nil => exact .nil
  | cons hm hg hdb hi hln hsu r ih => exact .cons ⟨hg, hdb, .inl hm⟩ hi hln (fun a pn => (hsu (Bs.nil ⟨X.w, X.mg⟩) rfl a pn).ps) ih
  | cons2 hm hg hdb hm2 hg2 hdb2 hi hln hsu r ih => exact .cons2 ⟨hg, hdb, .inl hm⟩ ⟨hg2, hdb2, .inl hm2⟩ hi hln (fun a pn => (hsu (Bs.nil ⟨X.w, X.mg⟩) rfl a pn).ps) ih
theorem hand_okA (hw : B.g = ⟨X.w, X.mg⟩) {F R : Hp} {E : AEnds} {D' : Ends} {hds : List ExceptHandler} (h : AHdsA X hds l la) (rel : WR B X.K X.mg W Wk) (sf : SubF X.K X.mg sub) (hbF : Ex B.F0 F) (hbR : Ex B.R0 R) (hE : EndsR B X.K F R E D') :
    WR ⟨F, R, B.g⟩ X.K X.mg (aHandA sub W E la) (wManyA X.K Wk D' l) := by
  induction h with
  | nil => exact fun nm cls s σ F' C' H' hm hs S h => rel nm cls s σ F' C' H' hm hs (S.rebase (B' := B) rfl (hbF.trans S.bF) hbR).at0 h
  | @cons x n c i ts ha b₀ suite np pos' hds l la hmx hg hdb hi hln hsu r ih =>
    intro nm cls s σ F' C' H' hm hs S h
    have ex : ∀ b, anyS sub nm [x] = some b → PySem.W.exmAny X.K cls [c] = some b := fun b e => by
      obtain ⟨b1, d1, e1, e2, e3⟩ := anyS_cons e
      cases e2
      exact exmAny_mk (d := false) (sf nm x b1 cls c e1 hm hmx) rfl e3
    unfold aHandA at h
    split at h
    · rename_i e
      refine ⟨true, ex _ e, fun _ => ⟨rfl, fun a na => ?_⟩, fun q => nomatch q⟩
      have S1 : Sat B X.K F' C' R H' := S.rebase rfl (hbF.trans S.bF) hbR
      have hc : CellC B.g X.K F' a (.ext (ExcAt cls a)) (.exc nm) := .exc (by rw [hw]; exact hm)
      have S2 := S1.newC na hc
      exact (hsu B hw a []).sim (goneE i D') (goneA i E) _ _ F' _ R _ ((hE.gone i).mono S.bF) (hs.set (.ce a) i) S2 (h a (S1.freeC na))
    · rename_i e
      exact ⟨false, ex _ e, (fun q => by cases q), fun _ => ih nm cls s σ F' C' H' hm hs S h⟩
    · exact h.elim
  | @cons2 x x2 n c c2 i kk ts ha b₀ suite np np2 tp pos' hds l la hmx hg hdb hmx2 hg2 hdb2 hi hln hsu r ih =>
    intro nm cls s σ F' C' H' hm hs S h
    have ex : ∀ b, anyS sub nm [x, x2] = some b → PySem.W.exmAny X.K cls [c, c2] = some b := fun b e => by
      obtain ⟨b1, d1, e1, e2, e3⟩ := anyS_cons e
      obtain ⟨b2, d2, f1, f2, f3⟩ := anyS_cons e2
      cases f2
      exact exmAny_mk (sf nm x b1 cls c e1 hm hmx) (exmAny_mk (d := false) (sf nm x2 b2 cls c2 f1 hm hmx2) rfl f3) e3
    unfold aHandA at h
    split at h
    · rename_i e
      refine ⟨true, ex _ e, fun _ => ⟨rfl, fun a na => ?_⟩, fun q => nomatch q⟩
      have S1 : Sat B X.K F' C' R H' := S.rebase rfl (hbF.trans S.bF) hbR
      have hc : CellC B.g X.K F' a (.ext (ExcAt cls a)) (.exc nm) := .exc (by rw [hw]; exact hm)
      have S2 := S1.newC na hc
      exact (hsu B hw a []).sim (goneE i D') (goneA i E) _ _ F' _ R _ ((hE.gone i).mono S.bF) (hs.set (.ce a) i) S2 (h a (S1.freeC na))
    · rename_i e
      exact ⟨false, ex _ e, (fun q => by cases q), fun _ => ih nm cls s σ F' C' H' hm hs S h⟩
    · exact h.elim
theorem as_tryA (hN : X.N.Nodup) (hs : X.stack = X.env :: X.outer) (hf : X.env.frame = some X.env.locals) (tk : Takes X Wk) (rel : WR B X.K X.mg W Wk) (sf : SubF X.K X.mg sub) (hw : B.g = ⟨X.w, X.mg⟩)
    (hb : ∀ (B' : Bs) (hw : B'.g = ⟨X.w, X.mg⟩) (W' : AX') (Wk' : WX) (pn : List (Addr × Obj)) (xe : Value → Shared → Prop), Takes (X.tr pn xe) Wk' → WR B' X.K X.mg W' Wk' → PassesOwn (model X.prog X.w) X.A X.env xe → ASs B' (X.tr pn xe) body (tb Wk') (ab W'))
    (hh : AHdsA X (h₀ :: hds) l la) : AS B X (.Try body (h₀ :: hds) [] [] pos) (fun D σ H => tb (wManyA X.K Wk D l) D σ H) (aTryA sub ab la W) := by
  refine ⟨ps_try_manyA hN hs hf tk (fun Wk' pn xe tk' hp => (hb (Bs.nil ⟨X.w, X.mg⟩) rfl (fun _ _ _ => False) Wk' pn xe tk' (fun _ _ _ _ _ _ _ _ _ _ h => h.elim) hp).ps) hh.ok, fun D' E σ s F C R H hE hs' hS h => ?_⟩
  exact (hb ⟨F, R, B.g⟩ hw (aHandA sub W E la) (wManyA X.K Wk D' l) [] _ (takes_any hs hf []) (hand_okA hw hh rel sf hS.bF hS.bR hE) PassesOwn.looking).sim D' E σ s F C R H (hE.ground hS.bF hS.bR) hs' (hS.rebase rfl (Ex.refl _) (Ex.refl _)) h
end
section
variable {C : AH} {W : AX'} {E : AEnds} {s : ASt}
theorem g_tryA {sub : Str → Str → Option Bool} {body : AX' → AS'} {hds : List (List Str × Nat × AS')} (h : body (aHandA sub W E hds) E s C) : aTryA sub body hds W E s C := h
theorem g_handAT {sub : Str → Str → Option Bool} {c : List Str} {nm : Str} {i : Nat} {ha : AS'} {r : List (List Str × Nat × AS')} (e : anyS sub nm c = some true) (h : ∀ a, C a = none → ha (goneA i E) (s.set i (some (.ce a))) (put C a (.exc nm))) : aHandA sub W E ((c, i, ha) :: r) s nm C := by
  unfold aHandA
  rw [e]
  exact h
end
end AL
namespace AL
open PySem PySem.Spec PyProof.Rows L2
variable {B : Bs}
/-- a class by its name: an own one, or the built-in ValueError -/
def clsN (mg : Str → Option Value) (c : Str) (u : Value) : Prop := (mg c = some u ∧ ∃ C, u = .ref C) ∨ (c = "ValueError" ∧ u = .type "ValueError")
/-- what is known of which class an exception is -/
def IsF (K : PySem.W.Frag) (mg : Str → Option Value) (isub : Str → Str → Option Bool) : Prop := ∀ nm c b cls u, isub nm c = some b → mg nm = some cls → clsN mg c u → ∃ D, cls = .ref D ∧ ExcC K D ∧ PySem.W.kitOne K cls u = some b
def isAny (isub : Str → Str → Option Bool) (nm : Str) : List Str → Option Bool
  | [] => some false
  | c :: r => match isub nm c with
    | some true => some true
    | some false => isAny isub nm r
    | none => none
def aIsX (isub : Str → Str → Option Bool) (cs : List Str) (a : AE') : AE' := fun s C P => a s C fun d C1 => match d with
  | .ce p => (match C1 p with | some (.exc nm) => (match isAny isub nm cs with | some b => P (.bl b) C1 | none => False) | _ => False)
  | _ => False
/-- a class's expression -/
structure AC (X : Cx) (e : Expr) (v : V) (u : Value) (x : Str) : Prop where
  pe : PE X e (tC v)
  cv : ClsV v u
  cn : clsN X.mg x u
theorem ac_own {X : Cx} {x : Str} {C : Addr} {p : Pos} (h : X.mg x = some (.ref C)) (hg : Gl X x := by rfl) (hdb : (x == ("__debug__" : Str)) = false := by decide) : AC X (.Name x p) (.ref C) (.ref C) x :=
  ⟨pe_glob hg h rfl hdb, .own C, .inl ⟨h, C, rfl⟩⟩
inductive ACs (X : Cx) : List Expr → TA → List V → List Value → List Str → Prop
  | nil : ACs X [] tNil [] [] []
  | cons {e : Expr} {es : List Expr} {v : V} {u : Value} {x : Str} {t : TA} {vs : List V} {us : List Value} {xs : List Str} (h : AC X e v u x) (r : ACs X es t vs us xs) (he : starEach (e :: es) X.env = (false, eval e X.env) :: starEach es X.env) :
      ACs X (e :: es) (tCons (tC v) t) (v :: vs) (u :: us) (x :: xs)
section
variable {X : Cx} {es : List Expr} {t : TA} {vs : List V} {us : List Value} {xs : List Str}
theorem ACs.pa (h : ACs X es t vs us xs) : PA X es t := by
  induction h with
  | nil => exact pa_nil
  | cons h r he ih => exact pa_cons h.pe ih he
theorem ACs.run (h : ACs X es t vs us xs) : ∀ {σ : L2.St} {H : Hp} {Q : List V → Hp → Prop}, Q vs H → t σ H Q := by
  induction h with
  | nil => exact fun q => q
  | cons h r he ih => exact fun {σ H Q} q => ih (Q := fun ws H2 => Q (_ :: ws) H2) q
theorem ACs.cv (h : ACs X es t vs us xs) : Paired ClsV vs us := by
  induction h with
  | nil => exact .nil
  | cons h r he ih => exact .cons h.cv ih
theorem ACs.len (h : ACs X es t vs us xs) : vs.length = es.length := by
  induction h with
  | nil => rfl
  | cons h r he ih => rw [List.length_cons, List.length_cons, ih]
theorem ACs.any (h : ACs X es t vs us xs) {isub : Str → Str → Option Bool} (f : IsF X.K X.mg isub) {nm : Str} {cls : Value} {b : Bool} (hm : X.mg nm = some cls) : isAny isub nm xs = some b → PySem.W.kitAny X.K cls us = some b := by
  induction h with
  | nil => exact fun e => e
  | @cons e es v u x t vs us xs h r he ih =>
    intro e
    unfold isAny at e
    unfold PySem.W.kitAny
    split at e
    · rename_i q
      obtain ⟨D, _, _, k⟩ := f nm x true cls u q hm h.cn
      rw [k]
      exact e
    · rename_i q
      obtain ⟨D, _, _, k⟩ := f nm x false cls u q hm h.cn
      rw [k]
      exact ih e
    · cases e
end
/-- a tracked exception of the class D -/
def ExcT (K : PySem.W.Frag) (H : Hp) (x : V) (t : Value) : Prop := ∃ a D, x = .ref a ∧ H a = some (.ext (ExcAt (.ref D) a)) ∧ t = .ref D ∧ ExcC K D
def rIsX (K : PySem.W.Frag) : List V → Hp → VK → Prop := fun xs H Q => ∃ (x c : V) (t u : Value) (b : Bool), xs = [x, c] ∧ ClsV c u ∧ ExcT K H x t ∧ PySem.W.kitOne K t u = some b ∧ Q (.bl b) H
section
variable {X : Cx}
theorem kit_exc {pins : List (Addr × Obj)} {σ : L2.St} {H : Hp} {s : Shared} {x : V} {u t : Value} (I : Inv X pins σ H s) (rx : RelV x u) (ty : ExcT X.K H x t) : ∃ P : Heap → Prop, PySem.W.KitX X.K u t P ∧ P s.heap ∧ u ≠ .builtin "__main__.__loader__#opaque" := by
  obtain ⟨a, D, rfl, e, rfl, C⟩ := ty
  cases rx
  obtain ⟨⟨oe, vs, h1, h2, h3, h4⟩, _, _⟩ := (show ObjOk X.prog X.w H s.heap a (.ext (ExcAt (.ref D) a)) from I.hok a _ e)
  have J : PySem.W.InstAt s.heap a oe D none := by
    obtain ⟨oc, od, oda, osl⟩ := oe
    dsimp only at h2 h3 h4
    subst h2 h3 h4
    exact ⟨h1, rfl, rfl, trivial⟩
  exact ⟨_, PySem.W.handS_kitx_exc C.hg C.hk C.hs C.hd C.ha C.hn C.ht C.hm, J, fun z => nomatch z⟩
theorem call_isX : CallR X (.builtin "isinstance") (rIsX X.K) := by
  intro pins s σ H xs us Q I r h
  obtain ⟨x, c, t, u, b, rfl, k, ty, e, q⟩ := h
  obtain ⟨u1, u2, rfl, r1, r2⟩ := vals2 r
  have e2 := k.eq r2
  subst e2
  obtain ⟨P, Z, p, hx⟩ := kit_exc I r1 ty
  exact PySem.W.kia_one Z I.kIn p e hx fun tk => ⟨.bl b, H, I.tok tk, rfl, q⟩
variable {pos p p4 : Pos} {k4 : Nat} {K : PySem.W.Frag} {e c : Expr} {cs : List Expr} {te : TE} {a : AE'} {v : V} {u : Value} {x : Str} {t : TA} {vs : List V} {us : List Value} {xs : List Str} {isub : Str → Str → Option Bool}
theorem exc_at {F : Hp} {C : AH} {R H : Hp} {p : Addr} {nm : Str} {mg : Str → Option Value} (hS : Sat B K F C R H) (hmg : B.g.mg = mg) (q : C p = some (.exc nm)) : ∃ cls, mg nm = some cls ∧ H p = some (.ext (ExcAt cls p)) := by
  obtain ⟨_, o, h1, h2⟩ := hS.cell p _ q
  cases h2 with
  | exc h => exact ⟨_, by rw [← hmg]; exact h, h1⟩
theorem ae_isX (h : AE B X e te a) (hc : AC X c v u x) (hm : X.mg "isinstance" = none) (isf : IsF X.K X.mg isub) (hw : B.g = ⟨X.w, X.mg⟩ := by first | rfl | assumption) (hg : Gl X "isinstance" := by rfl)
    (he : starEach [e, c] X.env = (false, eval e X.env) :: starEach [c] X.env := by rfl) (hpl : (backTo pos (starEach [c] X.env)).any (·.1) = false := by rfl) (h2 : starEach [c] X.env = (false, eval c X.env) :: starEach [] X.env := by rfl) :
    AE B X (.Call (.Name "isinstance" p) [e, c] [] pos) (tCB (rIsX X.K) (tCons te (tCons (tC v) tNil))) (aIsX isub [x] a) := by
  refine ⟨pe_callB call_isX hg hm (by decide +kernel) (pa_cons h.pe (pa_cons hc.pe pa_nil h2) he) (by decide) (by decide) he hpl, ?_⟩
  intro σ s F C R H Q P hs hS h0 k
  refine h.sim σ s F C R H _ _ hs hS h0 fun d w F1 C1 H1 e1 S1 r1 h1 => ?_
  split at h1
  · rename_i q0
    cases r1
    split at h1
    · rename_i nm q
      split at h1
      · rename_i b q2
        obtain ⟨cls, g1, g2⟩ := exc_at S1 (by rw [hw]) q
        have g3 : ∃ b', isub nm x = some b' ∧ b' = b := by
          unfold isAny at q2
          split at q2
          · rename_i z; cases q2; exact ⟨_, z, rfl⟩
          · rename_i z; cases q2; exact ⟨_, z, rfl⟩
          · cases q2
        obtain ⟨b', g3, rfl⟩ := g3
        obtain ⟨D, rfl, g4, g5⟩ := isf nm x b' cls u g3 g1 hc.cn
        exact ⟨.ref q0, v, .ref D, u, b', rfl, hc.cv, ⟨q0, D, rfl, g2, rfl, g4⟩, g5, k _ _ F1 C1 H1 e1 S1 (.bl _) h1⟩
      · exact h1.elim
    · exact h1.elim
  · exact h1.elim
end
theorem isF_nil {K : PySem.W.Frag} {mg : Str → Option Value} : IsF K mg (subL []) := fun _ _ _ _ _ h => by cases h
theorem isF_cons {K : PySem.W.Frag} {mg : Str → Option Value} {a b : Str} {r : Bool} {l : List (Str × Str × Bool)} {D : Addr} {u : Value} (h1 : mg a = some (.ref D)) (h2 : mg b = some u) (hb : b ≠ "ValueError") (c : ExcC K D) (h : PySem.W.kitOne K (.ref D) u = some r) (t : IsF K mg (subL l)) : IsF K mg (subL ((a, b, r) :: l)) := by
  intro nm c' q cls cc e m1 m2
  unfold subL at e
  split at e
  · rename_i z
    obtain ⟨rfl, rfl⟩ := z
    rw [h1] at m1
    cases m1; cases e
    rcases m2 with ⟨m2, _⟩ | ⟨m2, _⟩
    · rw [h2] at m2; cases m2
      exact ⟨D, rfl, c, h⟩
    · exact absurd m2 hb
  · exact t nm c' q cls cc e m1 m2
theorem kit_self {K : PySem.W.Frag} {S : Addr} : PySem.W.kitOne K (.ref S) (.ref S) = some true := by
  unfold PySem.W.kitOne
  rw [if_pos (beq_self_eq_true _)]
section
variable {C : AH} {P : D → AH → Prop} {s : ASt} {e : AE'}
def kIsX (isub : Str → Str → Option Bool) (cs : List Str) (P : D → AH → Prop) : D → AH → Prop := fun d C1 => match d with
  | .ce p => (match C1 p with | some (.exc nm) => (match isAny isub nm cs with | some b => P (.bl b) C1 | none => False) | _ => False)
  | _ => False
theorem g_isX {isub : Str → Str → Option Bool} {cs : List Str} (h : e s C (kIsX isub cs P)) : aIsX isub cs e s C P := h
theorem g_kIsX {isub : Str → Str → Option Bool} {cs : List Str} {p : Addr} {nm : Str} {b : Bool} (h1 : C p = some (.exc nm)) (h2 : isAny isub nm cs = some b) (h : P (.bl b) C) : kIsX isub cs P (.ce p) C := by
  unfold kIsX
  simp only [h1, h2]
  exact h
end
end AL
namespace AL
open PySem PySem.Spec PyProof.Rows L2
end AL
namespace AL
open PySem L2
theorem hu16 {k : Nat} {A : Around} (r : Room k A) : A.units + 16 < cLine := by
  have := u200 r
  omega
end AL
namespace AL
open PySem L2
theorem valD_put (es : List (Key × D)) (k k' : Key) (d : D) : valD (putD es k d) k' = if k' = k then some d else valD es k' := by
  induction es with
  | nil =>
    unfold putD
    rw [if_neg (by simp)]
    by_cases e : k' = k
    · subst e; simp [valD]
    · rw [if_neg e]
      have : ¬ k = k' := fun z => e z.symm
      simp [valD, this]
  | cons x es ih =>
    unfold putD at ih ⊢
    by_cases hx : x.1 = k
    · rw [if_pos (by simp [hx])]
      rw [List.map_cons, if_pos hx]
      by_cases e : k' = k
      · subst e
        rw [if_pos rfl]
        simp [valD, hx]
      · rw [if_neg e]
        have hne : ¬ x.1 = k' := fun z => e (by rw [← z, hx])
        have ih2 : valD (es.map fun kv => if kv.1 = k then (kv.1, d) else kv) k' = valD es k' := by
          by_cases ha : (es.any fun kv => decide (kv.1 = k)) = true
          · rw [if_pos ha, if_neg e] at ih; exact ih
          · have : es.map (fun kv => if kv.1 = k then (kv.1, d) else kv) = es := by
              refine (List.map_congr_left fun kv hkv => ?_).trans (List.map_id es)
              have : ¬ kv.1 = k := fun z => ha (List.any_eq_true.mpr ⟨kv, hkv, decide_eq_true z⟩)
              rw [if_neg this]; rfl
            rw [this]
        simp only [valD, List.find?_cons, decide_eq_false hne] at ih2 ⊢
        exact ih2
    · by_cases ha : (es.any fun kv => decide (kv.1 = k)) = true
      · rw [if_pos ha] at ih
        rw [if_pos (by simp only [List.any_cons, ha, Bool.or_true])]
        rw [List.map_cons, if_neg hx]
        by_cases h2 : x.1 = k'
        · have e : ¬ k' = k := fun z => hx (h2.trans z)
          rw [if_neg e]
          simp [valD, h2]
        · simp only [valD, List.find?_cons, decide_eq_false h2] at ih ⊢
          exact ih
      · rw [if_neg ha] at ih
        rw [if_neg (by simp only [List.any_cons, decide_eq_false hx, Bool.false_or]; exact ha)]
        rw [List.cons_append]
        by_cases h2 : x.1 = k'
        · have e : ¬ k' = k := fun z => hx (h2.trans z)
          rw [if_neg e]
          simp [valD, h2]
        · simp only [valD, List.find?_cons, decide_eq_false h2] at ih ⊢
          exact ih
/-- a dict with numbers from 0 for keys, as what it holds -/
structure Mp (es : List (Key × D)) (L : List Nat) (f : Nat → Option D) : Prop where
  ky : Ky es L
  nd : L.Nodup
  at' : ∀ m, valD es (nk m) = f m
theorem Mp.nil : Mp [] [] fun _ => none := ⟨rfl, List.nodup_nil, fun _ => rfl⟩
theorem Mp.put {es : List (Key × D)} {L : List Nat} {f : Nat → Option D} (h : Mp es L f) (n : Nat) (d : D) : Mp (putD es (nk n) d) (addN L n) fun m => if m = n then some d else f m := by
  refine ⟨h.ky.put n, nodup_addN h.nd, fun m => ?_⟩
  rw [valD_put, h.at']
  by_cases e : m = n
  · subst e; rw [if_pos rfl, if_pos rfl]
  · rw [if_neg e, if_neg (fun z => e (nk_inj z))]
theorem Mp.mem {es : List (Key × D)} {L : List Nat} {f : Nat → Option D} (h : Mp es L f) (n : Nat) : n ∈ L ↔ (f n).isSome = true := by
  rw [← h.at', h.ky.val, decide_eq_true_iff]
section
variable {C : AH} {P : D → AH → Prop} {s : ASt} {q : Addr} {es : List (Key × D)} {o i e : AE'} {nx : ASt → AH → Prop} {rt : D → AH → Prop} {bk ct : ASt → AH → Prop}
def kGetK (x : D) (P : D → AH → Prop) : D → AH → Prop := fun y C2 => match asK C2 x, AL.keyOf y with
  | some es, some k => (match valD es k with | some d => P d C2 | none => False)
  | _, _ => False
theorem g_getK (h : o s C fun x C1 => i s C1 (kGetK x P)) : aGetK o i s C P := h
theorem g_kGetK {x y : D} {k : Key} {d : D} (h1 : asK C x = some es) (h2 : AL.keyOf y = some k) (h3 : valD es k = some d) (h : P d C) : kGetK x P y C := by
  unfold kGetK
  rw [h1, h2]
  show (match valD es k with | some d => P d C | none => False)
  rw [h3]
  exact h
def kInK (neg : Bool) (y : D) (P : D → AH → Prop) : D → AH → Prop := fun x C2 => match asK C2 x, AL.keyOf y with
  | some es, some k => P (.bl (if neg then !(valD es k).isSome else (valD es k).isSome)) C2
  | _, _ => False
theorem g_inK {neg : Bool} (h : i s C fun y C1 => o s C1 (kInK neg y P)) : aInK neg i o s C P := h
theorem g_kInK {neg : Bool} {x y : D} {k : Key} (h1 : asK C x = some es) (h2 : AL.keyOf y = some k) (h : P (.bl (if neg then !(valD es k).isSome else (valD es k).isSome)) C) : kInK neg y P x C := by
  unfold kInK
  rw [h1, h2]
  exact h
def kPutK (d x : D) (nx : ASt → AH → Prop) (s : ASt) : D → AH → Prop := fun y C3 => match x, AL.keyOf y with
  | .ce p, some k => (match C3 p with | some (.dk es) => es.length < sizeLine ∧ nx s (put C3 p (.dk (putD es k d))) | _ => False)
  | _, _ => False
theorem g_putKG (h : e s C fun d C1 => o s C1 fun x C2 => i s C2 (kPutK d x nx s)) : aPutK o i e ⟨nx, rt, bk, ct⟩ s C := h
theorem g_kPutKG {d y : D} {k : Key} (hC : C q = some (.dk es)) (h2 : AL.keyOf y = some k) (hl : es.length < sizeLine) (h : nx s (put C q (.dk (putD es k d)))) : kPutK d (.ce q) nx s y C := by
  unfold kPutK
  rw [h2]
  show (match C q with | some (.dk es) => es.length < sizeLine ∧ nx s (put C q (.dk (putD es k d))) | _ => False)
  rw [hC]
  exact ⟨hl, h⟩
def kGetN (x : D) (P : D → AH → Prop) : D → AH → Prop := fun y C2 => match lookD C2 x y with
  | some (some d) => P d C2
  | _ => False
theorem g_getN (h : o s C fun x C1 => i s C1 (kGetN x P)) : aGetN o i s C P := h
theorem g_kGetN {x y d : D} (h1 : lookD C x y = some (some d)) (h : P d C) : kGetN x P y C := by
  unfold kGetN
  rw [h1]
  exact h
def kInN (neg : Bool) (y : D) (P : D → AH → Prop) : D → AH → Prop := fun x C2 => match lookD C2 x y with
  | some r => P (.bl (if neg then !r.isSome else r.isSome)) C2
  | none => False
theorem g_inN {neg : Bool} (h : i s C fun y C1 => o s C1 (kInN neg y P)) : aInN neg i o s C P := h
theorem g_kInN {neg : Bool} {x y : D} {r : Option D} (h1 : lookD C x y = some r) (h : P (.bl (if neg then !r.isSome else r.isSome)) C) : kInN neg y P x C := by
  unfold kInN
  rw [h1]
  exact h
def kGet1N (i : AE') (s : ASt) (P : D → AH → Prop) : D → AH → Prop := fun x C1 => isDic C1 x = true ∧ i s C1 fun y C2 => match lookD C2 x y with
  | some r => P (r.getD .non) C2
  | none => False
theorem g_get1N (h : o s C (kGet1N i s P)) : aGet1N o i s C P := h
def kPutN (d x : D) (nx : ASt → AH → Prop) (s : ASt) : D → AH → Prop := fun y C3 => match x with
  | .ce p => (match C3 p with
    | some (.dk es) => (match AL.keyOf y with | some k => es.length < sizeLine ∧ nx s (put C3 p (.dk (putD es k d))) | none => False)
    | some (.dn es) => (match keyT y with | some k => es.length < sizeLine ∧ nx s (put C3 p (.dn (putND es k d))) | none => False)
    | _ => False)
  | _ => False
theorem g_putN (h : e s C fun d C1 => o s C1 fun x C2 => i s C2 (kPutN d x nx s)) : aPutN o i e ⟨nx, rt, bk, ct⟩ s C := h
theorem g_kPutN {d y : D} {k : NestedKey} {es : List (NestedKey × D)} (hC : C q = some (.dn es)) (h2 : keyT y = some k) (hl : es.length < sizeLine) (h : nx s (put C q (.dn (putND es k d)))) : kPutN d (.ce q) nx s y C := by
  unfold kPutN
  simp only [hC, h2]
  exact ⟨hl, h⟩
theorem lookD_dn {es : List (NestedKey × D)} {y : D} {k : NestedKey} (hC : C q = some (.dn es)) (h : keyT y = some k) : lookD C (.ce q) y = some (valND es k) := by
  unfold lookD
  simp only [asK, asN, hC, h]
end
end AL
namespace AL
open PySem L2
/-- a stand leads to a stand -/
def Fw (goes : List (List (Option Nat))) (a b : Nat) : Prop := ∃ r, goes[a]? = some r ∧ some b ∈ r
theorem Fw.lt {sg : Nat} {ends : List Bool} {goes : List (List (Option Nat))} (M : Mach sg ends goes) {a b : Nat} (h : Fw goes a b) : a < ends.length ∧ b < ends.length := by
  obtain ⟨r, h1, h2⟩ := h
  exact ⟨by rw [M.len]; exact (List.getElem?_eq_some_iff.mp h1).1, M.go r (List.mem_of_getElem? h1) b h2⟩
/-- a dict from numbers to numbers -/
abbrev Mn (es : List (Key × D)) (L : List Nat) (f : Nat → Option Nat) : Prop := Mp es L fun m => (f m).map fun (v : Nat) => D.int (v : Int)
theorem Mn.put {es : List (Key × D)} {L : List Nat} {f : Nat → Option Nat} (h : Mn es L f) (n v : Nat) : Mn (putD es (nk n) (.int (v : Int))) (addN L n) fun m => if m = n then some v else f m := by
  have := Mp.put h n (.int (v : Int))
  refine ⟨this.ky, this.nd, fun m => ?_⟩
  rw [this.at' m]
  by_cases e : m = n
  · simp [e]
  · simp [e]
section
variable {C : AH} {W : AX'} {nx : ASt → AH → Prop} {rt : D → AH → Prop} {bk ct : ASt → AH → Prop} {s : ASt}
theorem g_handA {sub : Str → Str → Option Bool} {c : List Str} {nm : Str} {i : Nat} {ha : AS'} {r : List (List Str × Nat × AS')} (e : anyS sub nm c = some true) (h : ∀ a, C a = none → ha ⟨fun s C => nx (s.set i none) C, rt, fun s C => bk (s.set i none) C, fun s C => ct (s.set i none) C⟩ (s.set i (some (.ce a))) (put C a (.exc nm))) : aHandA sub W ⟨nx, rt, bk, ct⟩ ((c, i, ha) :: r) s nm C := g_handAT e h
end
end AL
namespace AL
open PySem PySem.Spec PyProof.Rows L2
end AL
namespace AL
open PySem PySem.Spec PyProof.Rows L2
end AL
namespace AL
open PySem PySem.Spec PyProof.Rows L2
end AL
namespace AL
open PySem PySem.Spec PyProof.Rows L2
end AL
namespace AL
open PySem PySem.Spec PyProof.Rows L2
end AL
namespace AL
open PySem PySem.Spec PyProof.Rows L2
end AL
namespace AL
open PySem PySem.Spec PyProof.Rows L2
end AL
namespace AL
open PySem PySem.Spec PyProof.Rows L2
open PyProof.Rows (envOfC)
variable {B : Bs}
theorem Sat.room {K : PySem.W.Frag} {F : Hp} {C : AH} {R H : Hp} {p : Addr} (S : Sat B K F C R H) (h : H p = none) (o : HO) : Sat B K F C R (upd H p o) :=
  ⟨S.bF, S.bR, fun a u e => by rw [upd_ne (ne_of_none (S.ex a u e) h)]; exact S.ex _ _ e,
    fun q c e => let ⟨h1, u, h2, h3⟩ := S.cell q c e; ⟨h1, u, by rw [upd_ne (ne_of_none h2 h)]; exact h2, h3⟩,
    fun q u e => let ⟨h1, h2, h3⟩ := S.priv q u e; ⟨h1, h2, by rw [upd_ne (ne_of_none h3 h)]; exact h3⟩⟩
def putFD (f : Str) (v : D) : List (Str × D) → List (Str × D)
  | [] => [(f, v)]
  | (g, x) :: r => if g = f then (g, v) :: r else (g, x) :: putFD f v r
theorem RepF.put {K : PySem.W.Frag} {F : Hp} {f : Str} {v : V} {d : D} (q : Rep K F v d) : ∀ {fs : List (Str × V)} {es : List (Str × D)}, RepF K F fs es → RepF K F (putF f v fs) (putFD f d es)
  | _, _, .nil => .cons q .nil
  | _, _, .cons (k := k) r t => by
    unfold putF putFD
    by_cases h : k = f
    · rw [if_pos h, if_pos h]; exact .cons q t
    · rw [if_neg h, if_neg h]; exact .cons r (RepF.put q t)
theorem RepF.look {K : PySem.W.Frag} {F : Hp} {f : Str} {d : D} : ∀ {fs : List (Str × V)} {es : List (Str × D)}, RepF K F fs es → es.lookup f = some d → ∃ v, fs.lookup f = some v ∧ Rep K F v d
  | _, _, .nil, h => by cases h
  | _, _, .cons (k := k) r t, h => by
    unfold List.lookup at h ⊢
    split at h
    · cases h; exact ⟨_, rfl, r⟩
    · exact RepF.look t h
theorem RepF.lookN {K : PySem.W.Frag} {F : Hp} {f : Str} : ∀ {fs : List (Str × V)} {es : List (Str × D)}, RepF K F fs es → es.lookup f = none → fs.lookup f = none
  | _, _, .nil, _ => rfl
  | _, _, .cons (k := k) r t, h => by
    unfold List.lookup at h ⊢
    split at h
    · cases h
    · exact RepF.lookN t h
theorem RepF.length {K : PySem.W.Frag} {F : Hp} : ∀ {fs : List (Str × V)} {es : List (Str × D)}, RepF K F fs es → fs.length = es.length
  | _, _, .nil => rfl
  | _, _, .cons _ t => by rw [List.length_cons, List.length_cons, RepF.length t]
theorem cellO {K : PySem.W.Frag} {F : Hp} {C : AH} {R H : Hp} {p : Addr} {nm : Str} {es : List (Str × D)} (hS : Sat B K F C R H) (h : C p = some (.ob nm es)) : ∃ (A dx : Addr) (fs : List (Str × V)), H p = some (.ins A dx fs) ∧ B.g.mg nm = some (.ref A) ∧ RepF K F fs es := by
  obtain ⟨_, o, h1, h2⟩ := hS.cell p _ h
  cases h2 with
  | ob e r => exact ⟨_, _, _, h1, e, r⟩
/-- what is known of a class: by its name; the fields' names -/
structure ClsF (K : PySem.W.Frag) (mg : Str → Option Value) (nm : Str) (fl : List Str) : Prop where
  ex : ∃ C, mg nm = some (.ref C) ∧ Cls K C ∧ ∀ f ∈ fl, NoAttr K C f
/-- o.f -/
def aFld (nm f : Str) (a : AE') : AE' := fun s C P => a s C fun x C1 => match x with
  | .ce p => (match C1 p with | some (.ob n es) => n = nm ∧ (match es.lookup f with | some d => P d C1 | none => False) | _ => False)
  | _ => False
/-- o.f = e -/
def aFldPut (nm f : Str) (o v : AE') : AS' := fun E s C => v s C fun y C1 => o s C1 fun x C2 => match x with
  | .ce p => (match C2 p with | some (.ob n es) => n = nm ∧ es.length < 1000 ∧ E.nx s (put C2 p (.ob nm (putFD f y es))) | _ => False)
  | _ => False
section
variable {X : Cx} {K : PySem.W.Frag} {nm f : Str} {fl : List Str} {e o : Expr} {te to : TE} {a ao : AE'} {pos p2 : Pos} {g : Gd}
theorem ae_fld (c : ClsF K g.mg nm fl) (hf : f ∈ fl) (h : AE B X e te a) (hw : B.g = g := by first | rfl | assumption) (hb : attributeBase e f X.env (eval e X.env) = eval e X.env := by rfl) (hK : X.K = K := by rfl) : AE B X (.Attribute e f pos) (tFld K te f) (aFld nm f a) := by
  subst hK
  refine ⟨pe_fld h.pe hb, fun σ s F C R H Q P hs hS h0 k => h.sim σ s F C R H _ _ hs hS h0 fun x v F1 C1 H1 e1 S1 r1 h1 => ?_⟩
  split at h1
  · rename_i p
    split at h1
    · rename_i n es q
      obtain ⟨rfl, h1⟩ := h1
      split at h1
      · rename_i d q2
        cases r1
        obtain ⟨A, dx, fs, g1, g2, g3⟩ := cellO S1 q
        obtain ⟨u, g4, g5⟩ := g3.look q2
        obtain ⟨C', g6, g7, g8⟩ := c.ex
        rw [hw, g6] at g2
        cases g2
        exact ⟨p, _, dx, fs, u, rfl, g1, g7, g8 f hf, g4, k d u F1 C1 H1 e1 S1 g5 h1⟩
      · exact h1.elim
    · exact h1.elim
  · exact h1.elim
theorem as_fld (c : ClsF K g.mg nm fl) (hf : f ∈ fl) (ho : AE B X o to ao) (h : AE B X e te a) (hw : B.g = g := by first | rfl | assumption) (hs : swapsWith e (some (.Attribute o f p2)) pos.line X.env = pure false := by rfl) (hK : X.K = K := by rfl) : AS B X (.Assign [.Attribute o f p2] e pos) (sFld K to te f) (aFldPut nm f ao a) := by
  subst hK
  refine ⟨ps_fld ho.pe h.pe hs, fun D' E σ s F C R H hE hs hS h0 => h.sim σ s F C R H _ _ hs hS h0 fun y v F1 C1 H1 e1 S1 r1 h1 => ?_⟩
  refine ho.sim σ s F1 C1 R H1 _ _ (hs.mono e1) S1 h1 fun x u F2 C2 H2 e2 S2 r2 h2 => ?_
  split at h2
  · rename_i p
    split at h2
    · rename_i n es q
      obtain ⟨rfl, hl, h2⟩ := h2
      cases r2
      obtain ⟨A, dx, fs, g1, g2, g3⟩ := cellO S2 q
      obtain ⟨C', g6, g7, g8⟩ := c.ex
      have g2' := g2
      rw [hw, g6] at g2
      cases g2
      exact ⟨p, _, dx, fs, rfl, g1, g7, g8 f hf, by rw [g3.length]; exact hl, hE.nx s σ F2 _ _ (e1.trans e2) (hs.mono (e1.trans e2)) (S2.mutC q (.ob g2' (g3.put (r1.mono e2)))) h2⟩
    · exact h2.elim
  · exact h2.elim
end
structure MetG (P : Program) (w : World) (K : PySem.W.Frag) (mg : Str → Option Value) (base : Heap) (k : Nat) (nm m : Str) (n : Nat) (sp : Sp) : Prop where
  ex : ∃ (C f : Addr) (fd : FuncData) (ps : List Str), mg nm = some (.ref C) ∧ Cls K C ∧ Meth K C m f ∧ FnG P w K mg base k f fd ps sp ∧ Binds K fd ps []
abbrev Met' (P : Program) (w : World) (K : PySem.W.Frag) (mg : Str → Option Value) (base : Heap) (k : Nat) (nm m : Str) (n : Nat) (asp : ASp) : Prop := MetG P w K mg base k nm m n (spOf ⟨w, mg⟩ K n asp)
def tMethG (g : Gd) (nm m : Str) (sp : Sp) (E : L2.St → XK) (ta : TE) (t : TA) : TE := fun σ H Q => ta σ H fun x H1 => ∃ a C dx fs, g.mg nm = some (.ref C) ∧ x = .ref a ∧ H1 a = some (.ins C dx fs) ∧ fs.lookup m = none ∧ t σ H1 fun vs H2 => sp (x :: vs) H2 Q (E σ)
section
variable {X : Cx} {k : Nat} {nm m : Str} {n : Nat} {sp : Sp} {E : L2.St → XK} {o e : Expr} {es : List Expr} {ta : TE} {t : TA} {pos apos : Pos}
theorem pe_methG {g : Gd} {pl : Sem Bool} (G : MetG X.prog X.w X.K X.mg X.base k nm m n sp) (hg : g.mg = X.mg) (hr : Room k X.A) (hgd : X.A.guards = some []) (hx : ∀ σ, PassesAt (L2.CX X.prog X.w) X σ (E σ)) (he : PE X o ta) (ha : PA X (e :: es) t)
    (hst : starEach (e :: es) X.env = (false, eval e X.env) :: starEach es X.env) (hpl : (backTo pos (starEach es X.env)).any (·.1) = false)
    (ht : eval (.Call (.Attribute o m apos) (e :: es) [] pos) X.env = (do
      let ov ← eval o X.env
      standAt apos.atName
      let (f, first) ← holding [ov] (getMethod ov m pl)
      callWith pos f first (backTo pos (starEach (e :: es) X.env)) (backToKw pos (keywordEach [] X.env)))) :
    PE X (.Call (.Attribute o m apos) (e :: es) [] pos) (tMethG g nm m sp E ta t) := by
  obtain ⟨C, f, fd, ps, hC, c, hm, F, b⟩ := G.ex
  refine ⟨fun pins s σ H Q I h => ?_⟩
  refine PySem.W.methodCall_KW (pl := pl) (thn (he.run pins s σ H _ I h) fun u s1 ⟨x, H1, I1, rx, a, C2, dx, fs, gC, ex, ea, l, q⟩ => ?_) ht
  rw [hg, hC] at gC
  cases gC
  subst ex
  obtain rfl : u = Value.ref a := rx
  refine getmeth_ok I1 ea c hm l ?_
  refine PySem.W.callWith_K (first := [.ref a]) (h₀ := X.base) I.ok.mod.kin hm.kp (thn (ha.run pos pins s1 σ H1 _ I1 q) fun us s2 ⟨vs, H2, I2, r, q2⟩ => ⟨I2.kIn, ?_⟩) hst hpl
  exact run_G (us := .ref a :: us) (vs := .ref a :: vs) F hr hgd b (hx σ) I2 (.cons rfl r) q2
theorem pe_methG0 {g : Gd} {pl : Sem Bool} (G : MetG X.prog X.w X.K X.mg X.base k nm m n sp) (hg : g.mg = X.mg) (hr : Room k X.A) (hgd : X.A.guards = some []) (hx : ∀ σ, PassesAt (L2.CX X.prog X.w) X σ (E σ)) (he : PE X o ta)
    (ht : eval (.Call (.Attribute o m apos) [] [] pos) X.env = (do
      let ov ← eval o X.env
      standAt apos.atName
      let (f, first) ← holding [ov] (getMethod ov m pl)
      callWith pos f first (backTo pos (starEach [] X.env)) (backToKw pos (keywordEach [] X.env)))) :
    PE X (.Call (.Attribute o m apos) [] [] pos) (tMethG g nm m sp E ta tNil) := by
  obtain ⟨C, f, fd, ps, hC, c, hm, F, b⟩ := G.ex
  refine ⟨fun pins s σ H Q I h => ?_⟩
  refine PySem.W.methodCall_KW (pl := pl) (thn (he.run pins s σ H _ I h) fun u s1 ⟨x, H1, I1, rx, a, C2, dx, fs, gC, ex, ea, l, q⟩ => ?_) ht
  rw [hg, hC] at gC
  cases gC
  subst ex
  obtain rfl : u = Value.ref a := rx
  refine getmeth_ok I1 ea c hm l ?_
  exact PySem.W.callWith_K0 (first := [.ref a]) I1.kIn hm.kp (run_G (us := [.ref a]) (vs := [.ref a]) F hr hgd b (hx σ) I1 (.cons rfl .nil) q)
end
/-- o.m(..) -/
def aMth (nm m : Str) (asp : ASp) (o : AE') (a : AA') : AE' := fun s C P => o s C fun x C1 => match x with
  | .ce p => (match C1 p with | some (.ob n es) => n = nm ∧ es.lookup m = none ∧ a s C1 fun ds C2 => asp (.ce p :: ds) C2 P | _ => False)
  | _ => False
def aMthX (W : AX') (nm m : Str) (asp : ASpX) (o : AE') (a : AA') : AE' := fun s C P => o s C fun x C1 => match x with
  | .ce p => (match C1 p with | some (.ob n es) => n = nm ∧ es.lookup m = none ∧ a s C1 fun ds C2 => asp (.ce p :: ds) C2 P (W s) | _ => False)
  | _ => False
theorem sim_meth {K : PySem.W.Frag} {g : Gd} (hw : B.g = g) {nm m : Str} {n : Nat} {asp : ASp} {E : L2.St → XK} {to : TE} {ao : AE'} {ta : TA} {a : AA'} (ho : SimE B K to ao) (ha : SimA B K n ta a) : SimE B K (tMethG g nm m (spOf g K (n + 1) asp) E to ta) (aMth nm m asp ao a) := by
  subst hw
  intro σ s F C R H Q P hs hS h k
  refine ho σ s F C R H _ _ hs hS h fun x v F1 C1 H1 e1 S1 r1 h1 => ?_
  split at h1
  · rename_i p
    split at h1
    · rename_i nm' es q
      obtain ⟨rfl, hl, h1⟩ := h1
      cases r1
      obtain ⟨A, dx, fs, g1, g2, g3⟩ := cellO S1 q
      refine ⟨p, A, dx, fs, g2, rfl, g1, g3.lookN hl, ha σ s F1 C1 R H1 _ _ (hs.mono e1) S1 h1 fun ds vs F2 C2 H2 e2 S2 r2 hl2 h2 => ?_⟩
      exact ⟨by rw [List.length_cons, r2.length, hl2], F2, C2, R, _, P, S2.nil, .cons (.ce p) r2, h2, fun d v F3 C3 H3 e3 S3 r3 h3 => k d v F3 C3 H3 ((e1.trans e2).trans e3) (S2.back e3 S3) r3 h3⟩
    · exact h1.elim
  · exact h1.elim
section
variable {X : Cx} {K : PySem.W.Frag} {k j : Nat} {nm m : Str} {n : Nat} {o e : Expr} {es : List Expr} {to : TE} {ao : AE'} {t : TA} {a : AA'} {pos apos : Pos} {g : Gd} {W : AX'} {Wk : WX}
theorem ae_mth {asp : ASp} {pl : Sem Bool} (c : Met' X.prog X.w X.K X.mg X.base k nm m (n + 1) asp) (hr : Room j X.A) (hgd : X.A.guards = some []) (ho : AE B X o to ao) (ha : AA B X (e :: es) n t a) (hw : B.g = g := by first | rfl | assumption) (hX : (⟨X.w, X.mg⟩ : Gd) = g := by rfl) (hk : k ≤ j := by decide)
    (hst : starEach (e :: es) X.env = (false, eval e X.env) :: starEach es X.env := by rfl) (hpl : (backTo pos (starEach es X.env)).any (·.1) = false := by rfl)
    (ht : eval (.Call (.Attribute o m apos) (e :: es) [] pos) X.env = (do
      let ov ← eval o X.env
      standAt apos.atName
      let (f, first) ← holding [ov] (getMethod ov m pl)
      callWith pos f first (backTo pos (starEach (e :: es) X.env)) (backToKw pos (keywordEach [] X.env))) := by rfl) (hK : X.K = K := by rfl) :
    AE B X (.Call (.Attribute o m apos) (e :: es) [] pos) (tMethG g nm m (spOf g K (n + 1) asp) E0S to t) (aMth nm m asp ao a) := by
  subst hK hX
  exact ⟨pe_methG c rfl (hr.mono hk) hgd passG ho.pe ha.pa hst hpl ht, sim_meth hw ho.sim ha.sim⟩
theorem ae_mth0 {asp : ASp} {pl : Sem Bool} (c : Met' X.prog X.w X.K X.mg X.base k nm m 1 asp) (hr : Room j X.A) (hgd : X.A.guards = some []) (ho : AE B X o to ao) (hw : B.g = g := by first | rfl | assumption) (hX : (⟨X.w, X.mg⟩ : Gd) = g := by rfl) (hk : k ≤ j := by decide)
    (ht : eval (.Call (.Attribute o m apos) [] [] pos) X.env = (do
      let ov ← eval o X.env
      standAt apos.atName
      let (f, first) ← holding [ov] (getMethod ov m pl)
      callWith pos f first (backTo pos (starEach [] X.env)) (backToKw pos (keywordEach [] X.env))) := by rfl) (hK : X.K = K := by rfl) :
    AE B X (.Call (.Attribute o m apos) [] [] pos) (tMethG g nm m (spOf g K 1 asp) E0S to tNil) (aMth nm m asp ao aNil) := by
  subst hK hX
  exact ⟨pe_methG0 c rfl (hr.mono hk) hgd passG ho.pe ht, sim_meth (n := 0) hw ho.sim sim_nil⟩
end
theorem make_guards {A : Around} {C : Addr} {us : List Value} {kw : List (Str × Value)} (h : A.guards = some []) : (A.under (.builtin "type.__call__" ⟨.ref C :: us, kw⟩)).guards = some [] := by
  first | exact h | simpa [Around.under, Code.weight, Code.isCreation, Code.isGuard, Code.isCaller, Code.frames, Code.isFrame, guardIds] using h
structure MakG (P : Program) (w : World) (K : PySem.W.Frag) (mg : Str → Option Value) (base : Heap) (k : Nat) (nm : Str) (n : Nat) (asp : ASp) : Prop where
  ex : ∃ (C f : Addr) (fd : FuncData) (ps : List Str), mg nm = some (.ref C) ∧ Mk K C f ∧ FnG P w K mg base k f fd ps (spOf ⟨w, mg⟩ K n asp) ∧ Binds K fd ps []
def tMakeG (g : Gd) (nm : Str) (sp : Sp) (E : L2.St → XK) (t : TA) : TE := fun σ H Q => t σ H fun vs H1 => ∃ C, g.mg nm = some (.ref C) ∧ ∀ x dx, H1 x = none → H1 dx = none → dx ≠ x → sp (.ref x :: vs) (upd (upd H1 dx (.own x)) x (.ins C dx [])) (fun v H2 => v = .non ∧ Q (.ref x) H2) (E σ)
section
variable {X : Cx} {k : Nat} {nm : Str} {sp : Sp} {E : L2.St → XK} {e : Expr} {es : List Expr} {t : TA} {pos p : Pos} {C f : Addr} {fd : FuncData} {ps : List Str}
theorem run_makeG {pins : List (Addr × Obj)} {σ : L2.St} {H : Hp} {s : Shared} {Q : VK} {us : List Value} {vs : List V} (M : Mk X.K C f) (F : FnG X.prog X.w X.K X.mg X.base k f fd ps sp) (hr : Room (k + 1) X.A) (hgd : X.A.guards = some []) (hb : Binds X.K fd ps []) (hx : PassesAt (L2.CX X.prog X.w) X σ (E σ)) (I : Inv X pins σ H s) (r : Vals vs us)
    (h : ∀ x dx, H x = Option.none → H dx = Option.none → dx ≠ x → sp (V.ref x :: vs) (upd (upd H dx (.own x)) x (.ins C dx [])) (fun v H2 => v = .non ∧ Q (.ref x) H2) (E σ)) :
    wpAny (model X.prog X.w) X.A (call (.ref C) us) (EP X pins σ Q) X.xe s := by
  have hq := h (s.heap.objs.size + 1) s.heap.objs.size (I.hok.fresh (Nat.le_succ _)) (I.hok.fresh (Nat.le_refl _)) (Nat.ne_of_lt (Nat.lt_succ_self _))
  have I2 := Inv.made (C := C) I
  have r2 : Vals (V.ref (s.heap.objs.size + 1) :: vs) (Value.ref (s.heap.objs.size + 1) :: us) := .cons rfl r
  have hl : (Value.ref (s.heap.objs.size + 1) :: us).length = ps.length := r2.length.symm.trans (F.len _ _ _ _ hq)
  have b := hb _ (Value.ref (s.heap.objs.size + 1) :: us) I2.kIn ((congrArg List.length (List.append_nil _)).trans hl)
  rw [List.append_nil] at b
  refine wpAny_call (make_map (f := f) I.kIn M.makes M.init (beq_iff_eq.mp M.fn) (codeAny_mono (F.run _ X.stack _ _ ⟨Value.ref (s.heap.objs.size + 1) :: us, []⟩ (Value.ref (s.heap.objs.size + 1) :: us) _ _ (E σ) (hr.make C us []) (make_guards hgd) (I2.env0.make C us []) b r2 hq) fun r s' hq' => ?_))
  cases r with
  | error e => exact hx pins _ _ e s' I2 hq'
  | ok fl =>
    cases fl with
    | ret u =>
      obtain ⟨v, H', I3, rv, ev, q3⟩ := I2.after hq'
      subst ev
      exact ⟨rv, ⟨V.ref (s.heap.objs.size + 1), H', I3, rfl, q3⟩⟩
    | next => exact False.elim hq'
    | brk => exact False.elim hq'
    | cont => exact False.elim hq'
end
/-- C(..) -/
def aMake (nm : Str) (asp : ASp) (a : AA') : AE' := fun s C P => a s C fun ds C1 => ∀ p, C1 p = none → asp (.ce p :: ds) (put C1 p (.ob nm [])) fun v C2 => v = .non ∧ P (.ce p) C2
section
variable {X : Cx} {K : PySem.W.Frag} {k j n : Nat} {nm : Str} {asp : ASp} {e : Expr} {es : List Expr} {t : TA} {a : AA'} {pos p : Pos} {g : Gd}
theorem sim_make (hw : B.g = g) {C : Addr} (hC : g.mg nm = some (.ref C)) (ha : SimA B K n t a) : SimE B K (tMakeG g nm (spOf g K (n + 1) asp) E0S t) (aMake nm asp a) := by
  subst hw
  intro σ s F C0 R H Q P hs hS h k
  refine ha σ s F C0 R H _ _ hs hS h fun ds vs F1 C1 H1 e1 S1 r1 hl h1 => ⟨C, hC, fun x dx hx hdx ne => ?_⟩
  have S2 := (S1.room hdx (.own x)).newC (p := x) (c := .ob nm []) (o := .ins C dx []) (by rw [upd_ne (fun z => ne z.symm)]; exact hx) (.ob hC .nil)
  exact ⟨by rw [List.length_cons, r1.length, hl], F1, _, R, _, _, S2.nil, .cons (.ce x) r1, h1 x (S1.freeC hx), fun d v F2 C2 H2 e2 S3 r3 h3 => by
    obtain ⟨h3, h4⟩ := h3
    subst h3
    cases r3
    exact ⟨rfl, k _ _ F2 C2 H2 (e1.trans e2) (S2.back e2 S3) (.ce x) h4⟩⟩
theorem ae_make (c : MakG X.prog X.w X.K X.mg X.base k nm (n + 1) asp) (hr : Room j X.A) (hgd : X.A.guards = some []) (ha : AA B X (e :: es) n t a) (hw : B.g = g := by first | rfl | assumption) (hX : (⟨X.w, X.mg⟩ : Gd) = g := by rfl) (hk : k + 1 ≤ j := by decide) (hg : Gl X nm := by rfl)
    (hdb : (nm == ("__debug__" : Str)) = false := by decide) (he : starEach (e :: es) X.env = (false, eval e X.env) :: starEach es X.env := by rfl) (hpl : (backTo pos (starEach es X.env)).any (·.1) = false := by rfl) (hK : X.K = K := by rfl) :
    AE B X (.Call (.Name nm p) (e :: es) [] pos) (tMakeG g nm (spOf g K (n + 1) asp) E0S t) (aMake nm asp a) := by
  subst hK hX
  obtain ⟨C, f, fd, ps, hC, M, F, b⟩ := c.ex
  refine ⟨⟨fun pins s σ H Q I h => ?_⟩, sim_make hw hC ha.sim⟩
  refine wpAny_Call_Name_kw (ld_glob I hg hC ?_ hdb)
  refine PySem.W.callWith_K (h₀ := X.base) I.ok.mod.kin M.kp (thn (ha.pa.run pos pins s σ H _ I h) fun us s1 ⟨vs, H1, I1, r, C2, g2, q⟩ => ⟨I1.kIn, ?_⟩) he hpl
  have g3 := hC.symm.trans g2
  cases g3
  exact run_makeG M F (hr.mono hk) hgd b (passG σ) I1 r q
end
section
variable {P : Program} {w : World} {K : PySem.W.Frag} {mg : Str → Option Value} {base : Heap} {x m qual : Str} {st : Stmt} {f C : Addr} {fd : FuncData} {N ps : List Str} {k n : Nat}
theorem metA {b : AS'} {asp : ASp} (F : L2.Fun K m qual st f fd) (S : FnScope N ps (defScope st)) (hn : ps.length = n) (hm : mg x = some (.ref C)) (hc : Cls K C) (hme : Meth K C m f) (hb : Binds K fd ps [])
    (hbody : ∀ (cdv : Value) (A : Around) (outer : List Env) (s : Shared) (H : Hp) (E : XK), Room k (A.deeper (envOfC qual (defScope st) s.heap.objs.size f cdv)) → A.guards = some [] → ∃ ts, ASs (Bs.nil ⟨w, mg⟩) (cxOf (L2.CX P w) P w K mg base N qual (defScope st) f cdv A outer s H E).nox (defBody st) ts b)
    (h : ∀ ds C P, ds.length = n → asp ds C P → aBody N.length b ds C P) : Met' P w K mg base (k + 1) x m n asp := by
  subst hn
  exact ⟨C, f, fd, ps, hm, hc, hme, fnA F S hbody h, hb⟩
theorem makA {b : AS'} {asp : ASp} (F : L2.Fun K "__init__" qual st f fd) (S : FnScope N ps (defScope st)) (hn : ps.length = n) (hm : mg x = some (.ref C)) (M : Mk K C f) (hb : Binds K fd ps [])
    (hbody : ∀ (cdv : Value) (A : Around) (outer : List Env) (s : Shared) (H : Hp) (E : XK), Room k (A.deeper (envOfC qual (defScope st) s.heap.objs.size f cdv)) → A.guards = some [] → ∃ ts, ASs (Bs.nil ⟨w, mg⟩) (cxOf (L2.CX P w) P w K mg base N qual (defScope st) f cdv A outer s H E).nox (defBody st) ts b)
    (h : ∀ ds C P, ds.length = n → asp ds C P → aBody N.length b ds C P) : MakG P w K mg base (k + 1) x n asp := by
  subst hn
  exact ⟨C, f, fd, ps, hm, M, fnA F S hbody h, hb⟩
end
def aSetd (o i e : AE') : AE' := fun s C P => o s C fun x C1 => (asK C1 x).isSome = true ∧ i s C1 fun y C2 => e s C2 fun z C3 => match x, keyOf y with
  | .ce p, some k => (match C3 p with | some (.dk es) => es.length < sizeLine ∧ (match valD es k with | some d => P d C3 | none => P z (put C3 p (.dk (putD es k z)))) | _ => False)
  | _, _ => False
theorem ae_setd {X : Cx} {o i e : Expr} {to ti te : TE} {ao ai ae : AE'} {apos cpos : Pos} (ho : AE B X o to ao) (hi : AE B X i ti ai) (he : AE B X e te ae)
    (hbase : attributeBase o "setdefault" X.env (eval o X.env) = eval o X.env := by rfl)
    (hfew : ((backTo cpos (starEach [i, e] X.env)).all (fun x => !x.1) && (backToKw cpos (keywordEach [] X.env)).all (fun x => x.1.isSome)
      && decide (([i, e] : List Expr).length + ([] : List Keyword).length + (if ([] : List Keyword).isEmpty then 0 else 1) < 30)) = true := by rfl)
    (hline : (apos.endLine == cpos.line) = true := by rfl) (ht : backTo cpos (starEach [i, e] X.env) = [(false, eval i X.env), (false, eval e X.env)] := by rfl) :
    AE B X (.Call (.Attribute o "setdefault" apos) [i, e] [] cpos) (tDSetd to ti te) (aSetd ao ai ae) := ⟨pe_dsetd ho.pe hi.pe he.pe ⟨hbase, hfew, hline, ht⟩, by
  intro σ s F C R H Q P hs hS h k
  refine ho.sim σ s F C R H _ _ hs hS h fun x v F1 C1 H1 e1 S1 r1 h1 => ?_
  obtain ⟨a, rfl, hd⟩ := isD_ok S1 r1 h1.1
  refine ⟨a, rfl, hd, ?_⟩
  refine hi.sim σ s F1 C1 R H1 _ _ (hs.mono e1) S1 h1.2 fun y w F2 C2 H2 e2 S2 r2 h2 => ?_
  refine he.sim σ s F2 C2 R H2 _ _ (hs.mono (e1.trans e2)) S2 h2 fun z u F3 C3 H3 e3 S3 r3 h3 => ?_
  split at h3
  · rename_i p ky q1
    cases r1
    split at h3
    · rename_i es q2
      obtain ⟨hl, h3⟩ := h3
      obtain ⟨hF, ob, h4, h5⟩ := S3.cell _ _ q2
      cases h5 with
      | @dk kvs _ h6 =>
        have hv := RepK.val ky h6
        refine ⟨kvs, ky, h4, keyOf_ok r2 q1, by rw [h6.length]; exact hl, fun v hv2 => ?_, fun hn => ?_⟩
        · cases q : valD es ky with
          | none => rw [q] at hv; rw [show valV kvs ky = none from hv] at hv2; cases hv2
          | some d =>
            rw [q] at hv h3
            obtain ⟨v', g1, g2⟩ := hv
            rw [hv2] at g1
            cases g1
            exact k d _ F3 C3 H3 ((e1.trans e2).trans e3) S3 g2 h3
        · cases q : valD es ky with
          | none => rw [q] at h3; exact k _ _ F3 _ _ ((e1.trans e2).trans e3) (S3.mutC q2 (.dk (RepK.put ky r3 h6))) r3 h3
          | some d =>
            rw [q] at hv
            obtain ⟨v', g1, g2⟩ := hv
            rw [hn] at g1
            cases g1
    · exact h3.elim
  · exact h3.elim⟩
end AL
namespace AL
open PySem L2
section
variable {C : AH} {P : D → AH → Prop} {s : ASt} {q : Addr} {es : List (Str × D)} {o v a i e : AE'} {as : AA'} {asp : ASp} {nm f m : Str} {nx : ASt → AH → Prop} {rt : D → AH → Prop} {bk ct : ASt → AH → Prop}
def kFld (nm f : Str) (P : D → AH → Prop) : D → AH → Prop := fun x C1 => match x with
  | .ce p => (match C1 p with | some (.ob n es) => n = nm ∧ (match es.lookup f with | some d => P d C1 | none => False) | _ => False)
  | _ => False
theorem g_fld (h : a s C (kFld nm f P)) : aFld nm f a s C P := h
theorem g_kFld {d : D} (hC : C q = some (.ob nm es)) (h2 : es.lookup f = some d) (h : P d C) : kFld nm f P (.ce q) C := by
  show (match C q with | some (.ob n es) => n = nm ∧ (match es.lookup f with | some d => P d C | none => False) | _ => False)
  rw [hC]
  show nm = nm ∧ (match es.lookup f with | some d => P d C | none => False)
  rw [h2]
  exact ⟨rfl, h⟩
def kFldPut (nm f : Str) (y : D) (nx : ASt → AH → Prop) (s : ASt) : D → AH → Prop := fun x C2 => match x with
  | .ce p => (match C2 p with | some (.ob n es) => n = nm ∧ es.length < 1000 ∧ nx s (put C2 p (.ob nm (putFD f y es))) | _ => False)
  | _ => False
theorem g_fldPut (h : v s C fun y C1 => o s C1 (kFldPut nm f y nx s)) : aFldPut nm f o v ⟨nx, rt, bk, ct⟩ s C := h
theorem g_kFldPut {y : D} (hC : C q = some (.ob nm es)) (hl : es.length < 1000) (h : nx s (put C q (.ob nm (putFD f y es)))) : kFldPut nm f y nx s (.ce q) C := by
  show (match C q with | some (.ob n es) => n = nm ∧ es.length < 1000 ∧ nx s (put C q (.ob nm (putFD f y es))) | _ => False)
  rw [hC]
  exact ⟨rfl, hl, h⟩
def kMth (nm m : Str) (asp : ASp) (as : AA') (s : ASt) (P : D → AH → Prop) : D → AH → Prop := fun x C1 => match x with
  | .ce p => (match C1 p with | some (.ob n es) => n = nm ∧ es.lookup m = none ∧ as s C1 fun ds C2 => asp (.ce p :: ds) C2 P | _ => False)
  | _ => False
theorem g_mth (h : o s C (kMth nm m asp as s P)) : aMth nm m asp o as s C P := h
theorem g_kMth (hC : C q = some (.ob nm es)) (hl : es.lookup m = none) (h : as s C fun ds C2 => asp (.ce q :: ds) C2 P) : kMth nm m asp as s P (.ce q) C := by
  show (match C q with | some (.ob n es) => n = nm ∧ es.lookup m = none ∧ as s C fun ds C2 => asp (.ce q :: ds) C2 P | _ => False)
  rw [hC]
  exact ⟨rfl, hl, h⟩
def kMthX (W : AX') (nm m : Str) (asp : ASpX) (as : AA') (s : ASt) (P : D → AH → Prop) : D → AH → Prop := fun x C1 => match x with
  | .ce p => (match C1 p with | some (.ob n es) => n = nm ∧ es.lookup m = none ∧ as s C1 fun ds C2 => asp (.ce p :: ds) C2 P (W s) | _ => False)
  | _ => False
theorem g_mthX {W : AX'} {asp : ASpX} (h : o s C (kMthX W nm m asp as s P)) : aMthX W nm m asp o as s C P := h
theorem g_make (h : as s C fun ds C1 => ∀ p, C1 p = none → asp (.ce p :: ds) (put C1 p (.ob nm [])) fun v C2 => v = .non ∧ P (.ce p) C2) : aMake nm asp as s C P := h
def kSetd2 (x y : D) (P : D → AH → Prop) : D → AH → Prop := fun z C3 => match x, AL.keyOf y with
  | .ce p, some k => (match C3 p with | some (.dk es) => es.length < sizeLine ∧ (match valD es k with | some d => P d C3 | none => P z (put C3 p (.dk (putD es k z)))) | _ => False)
  | _, _ => False
def kSetd (i e : AE') (s : ASt) (P : D → AH → Prop) : D → AH → Prop := fun x C1 => (asK C1 x).isSome = true ∧ i s C1 fun y C2 => e s C2 (kSetd2 x y P)
theorem g_setd (h : o s C (kSetd i e s P)) : aSetd o i e s C P := h
theorem g_kSetd {es : List (Key × D)} (hC : C q = some (.dk es)) (h : i s C fun y C2 => e s C2 (kSetd2 (.ce q) y P)) : kSetd i e s P (.ce q) C := ⟨by rw [asK_ce hC]; rfl, h⟩
theorem g_kSetd2 {es : List (Key × D)} {y z : D} {k : Key} (hC : C q = some (.dk es)) (h2 : AL.keyOf y = some k) (hl : es.length < sizeLine) (h1 : ∀ d, valD es k = some d → P d C) (h0 : valD es k = none → P z (put C q (.dk (putD es k z)))) : kSetd2 (.ce q) y P z C := by
  unfold kSetd2
  rw [h2]
  show (match C q with | some (.dk es) => es.length < sizeLine ∧ (match valD es k with | some d => P d C | none => P z (put C q (.dk (putD es k z)))) | _ => False)
  rw [hC]
  refine ⟨hl, ?_⟩
  cases e : valD es k with
  | some d => exact h1 d e
  | none => exact h0 e
end
end AL
namespace AL
open PySem PySem.Spec PyProof.Rows L2
end AL
namespace AL
open PySem PySem.Spec PyProof.Rows L2
variable {B : Bs}
def aChain3 (r r' r'' : D → D → AH → (D → AH → Prop) → Prop) (a b c d : AE') : AE' := fun s C P => a s C fun x C1 => b s C1 fun y C2 => r x y C2 fun z C3 => match z with
  | .bl true => c s C3 fun w C4 => r' y w C4 fun z2 C5 => (match z2 with
    | .bl true => d s C5 fun v C6 => r'' w v C6 P
    | .bl false => P (.bl false) C5
    | _ => False)
  | .bl false => P (.bl false) C3
  | _ => False
section
variable {C : AH} {P : D → AH → Prop} {s : ASt} {a b c d : AE'} {r r' r'' : D → D → AH → (D → AH → Prop) → Prop}
def kChain3 (r' r'' : D → D → AH → (D → AH → Prop) → Prop) (c d : AE') (y : D) (s : ASt) (P : D → AH → Prop) : D → AH → Prop := fun z C3 => match z with
  | .bl true => c s C3 fun w C4 => r' y w C4 (kChain r'' d w s P)
  | .bl false => P (.bl false) C3
  | _ => False
theorem g_chain3 (h : a s C fun x C1 => b s C1 fun y C2 => r x y C2 (kChain3 r' r'' c d y s P)) : aChain3 r r' r'' a b c d s C P := h
end
end AL
namespace AL
open PySem PySem.Spec PyProof.Rows L2
open PyProof.Rows (envOfC)
end AL
namespace AL
open PySem PySem.Spec PyProof.Rows L2
end AL
namespace AL
open PySem PySem.Spec PyProof.Rows L2
variable {B : Bs}
def tyT (x : V) (H : Hp) : Prop := ∃ (p : Addr) (o : Obj) (xs : List V), x = .ref p ∧ o.dict = none ∧ H p = some (.frz o (.tup xs))
theorem tyT_is {X : Cx} {pins : List (Addr × Obj)} {σ : L2.St} {H : Hp} {s : Shared} {x : V} {v : Value} (I : Inv X pins σ H s) (r : RelV x v) (ty : tyT x H) :
    s.TypeIs v "tuple" ∧ ∀ a, v = .ref a → ∃ ob, s.heap.get? a = some ob ∧ ob.dict = none := by
  obtain ⟨p, o, xs, rfl, hd, e⟩ := ty
  cases r
  obtain ⟨h1, _, its, _, o2, g1, g2, _⟩ := (show ObjOk X.prog X.w H s.heap p (.frz o (.tup xs)) from I.hok p _ e)
  refine ⟨⟨o2, g1, g2⟩, fun a e2 => ?_⟩
  cases e2
  exact ⟨o, h1, hd⟩
def tBMT (r : V → List V → Hp → VK → Prop) (to : TE) (t : TA) : TE := fun σ H Q => to σ H fun x H1 => tyT x H1 ∧ t σ H1 fun xs H2 => r x xs H2 Q
section
variable {X : Cx} {o e : Expr} {es : List Expr} {to : TE} {t : TA} {name : Str} {apos cpos : Pos} {id : String} {r : V → List V → Hp → VK → Prop}
theorem pe_bmT (pa : PlainAttrs "tuple") (slot : Slot "tuple" name id) (hty : typeOf (.builtin id) = pure (.type "method_descriptor")) (hm : MtR X id r) (ho : PE X o to) (ha : PA X (e :: es) t)
    (hbase : attributeBase o name X.env (eval o X.env) = eval o X.env := by rfl)
    (hfew : ((backTo cpos (starEach (e :: es) X.env)).all (fun x => !x.1) && (backToKw cpos (keywordEach [] X.env)).all (fun x => x.1.isSome)
      && decide ((e :: es).length + ([] : List Keyword).length + (if ([] : List Keyword).isEmpty then 0 else 1) < 30)) = true := by rfl)
    (hline : (apos.endLine == cpos.line) = true := by rfl) (hs : starEach (e :: es) X.env = (false, eval e X.env) :: starEach es X.env := by rfl) (hplain : (backTo cpos (starEach es X.env)).any (·.1) = false := by rfl) :
    PE X (.Call (.Attribute o name apos) (e :: es) [] cpos) (tBMT r to t) := by
  refine ⟨fun pins s σ H Q I h => ?_⟩
  refine wpAny_Call_method_late hbase hfew hline rfl (thn (ho.run pins s σ H _ I h) fun v s1 h1 => ?_)
  obtain ⟨x, H1, I1, r1, ty, q1⟩ := h1
  obtain ⟨a1, a2⟩ := tyT_is I1 r1 ty
  have hA := ha.run cpos pins s1 σ H1 _ I1 q1
  refine ⟨"tuple", id, pa, slot, hty, a1, a2, ?_⟩
  rw [hs] at hA ⊢
  have hp2 : (false || (backTo cpos (starEach es X.env)).any (·.1)) = false := by rw [hplain] <;> rfl
  refine Calls.callWith_builtin hp2 (Calls.evalArgs_plain (thn hA fun us s2 h2 => ?_))
  obtain ⟨vs, H2, I2, r2, q2⟩ := h2
  exact hm pins s2 σ H2 x vs v us Q I2 r1 r2 q2
end
def isTupM : D → Bool
  | .tup ds => !wkP ds
  | _ => false
theorem isTupM_ok {K : PySem.W.Frag} {F : Hp} {C : AH} {R H : Hp} {v : V} {d : D} (hS : Sat B K F C R H) (r : Rep K F v d) (h : isTupM d = true) : tyT v H := by
  cases r with
  | tup g1 g2 =>
    obtain ⟨o, h1, h2⟩ := g1.2 (by simpa [isTupM] using h)
    exact ⟨_, o, _, rfl, h1, hS.ex _ _ h2⟩
  | _ => cases h
def aMethT (m : D → ASp) (o : AE') (a : AA') : AE' := fun s C P => o s C fun x C1 => isTupM x = true ∧ a s C1 fun ds C2 => m x ds C2 P
section
variable {X : Cx} {K : PySem.W.Frag} {o e : Expr} {es : List Expr} {n : Nat} {to : TE} {t : TA} {ao : AE'} {a : AA'} {id : String} {name : Str} {r : V → List V → Hp → VK → Prop} {ar : D → ASp} {apos cpos : Pos}
theorem ae_methT (pa : PlainAttrs "tuple") (slot : Slot "tuple" name id) (hty : typeOf (.builtin id) = pure (.type "method_descriptor")) (hm : AMt B X id r ar) (ho : AE B X o to ao) (ha : AA B X (e :: es) n t a)
    (hbase : attributeBase o name X.env (eval o X.env) = eval o X.env := by rfl)
    (hfew : ((backTo cpos (starEach (e :: es) X.env)).all (fun x => !x.1) && (backToKw cpos (keywordEach [] X.env)).all (fun x => x.1.isSome)
      && decide ((e :: es).length + ([] : List Keyword).length + (if ([] : List Keyword).isEmpty then 0 else 1) < 30)) = true := by rfl)
    (hline : (apos.endLine == cpos.line) = true := by rfl) (hs : starEach (e :: es) X.env = (false, eval e X.env) :: starEach es X.env := by rfl) (hplain : (backTo cpos (starEach es X.env)).any (·.1) = false := by rfl) (hK : X.K = K := by rfl) :
    AE B X (.Call (.Attribute o name apos) (e :: es) [] cpos) (tBMT r to t) (aMethT ar ao a) := by
  subst hK
  exact ⟨pe_bmT pa slot hty hm.op ho.pe ha.pa hbase hfew hline hs hplain, by
  intro σ s F C R H Q P hs hS h0 k
  refine ho.sim σ s F C R H _ _ hs hS h0 fun x v F1 C1 H1 e1 S1 r1 h1 => ⟨isTupM_ok S1 r1 h1.1, ?_⟩
  refine ha.sim σ s F1 C1 R H1 _ _ (hs.mono e1) S1 h1.2 fun ds vs F2 C2 H2 e2 S2 r2 hl h2 => ?_
  exact hm.sim v x vs ds F2 C2 R H2 Q P S2 (r1.mono e2) r2 h2 fun d u F3 C3 H3 e3 S3 r3 h3 => k d u F3 C3 H3 ((e1.trans e2).trans e3) S3 r3 h3⟩
/-- t.index(x) of a tuple of texts: x stands in it -/
def aIndexT : D → ASp := fun x ds C P => match x, ds with
  | .tup us, [.str z] => ∃ ys : List Str, us = ys.map D.str ∧ z ∈ ys ∧ P (.int (ys.idxOf z : Nat)) C
  | _, _ => False
def rTupIx (K : PySem.W.Frag) : V → List V → Hp → VK → Prop := fun x xs H Q => ∃ p, ∃ ys : List Str, ∃ z j, x = .ref p ∧ xs = [.str z] ∧ SqT K H p (ys.map V.str) ∧ ys[j]? = some z ∧ (∀ m, m < j → ys[m]? ≠ some z) ∧ Q (.int (j : Nat)) H
theorem idx_first {z : Str} : ∀ {ys : List Str}, z ∈ ys → ys[ys.idxOf z]? = some z ∧ ∀ m, m < ys.idxOf z → ys[m]? ≠ some z
  | y :: ys, h => by
    by_cases e : y = z
    · subst e
      rw [List.idxOf_cons_self]
      exact ⟨rfl, fun m hm => absurd hm (Nat.not_lt_zero _)⟩
    · have h2 : z ∈ ys := by
        rcases List.mem_cons.mp h with h | h
        · exact absurd h.symm e
        · exact h
      obtain ⟨a, b⟩ := idx_first h2
      rw [show (y :: ys).idxOf z = ys.idxOf z + 1 by rw [List.idxOf_cons, show (y == z) = false from beq_eq_false_iff_ne.mpr e]; rfl]
      refine ⟨by simpa using a, fun m hm => ?_⟩
      cases m with
      | zero => simpa using e
      | succ m => simpa using b m (by omega)
theorem am_indexT (hK : X.K = K := by rfl) : AMt B X "tuple.index" (rTupIx K) aIndexT := by
  subst hK
  exact ⟨mt_tup_index, by
  intro v d vs ds F C R H Q P hS r1 r2 h k
  unfold aIndexT at h
  split at h
  · cases r2 with
    | cons r2 r3 =>
      cases r3
      cases r2
      obtain ⟨ys, rfl, h1, h2⟩ := h
      cases r1 with
      | tup g1 g2 =>
        have e := g2.ofStrs
        subst e
        obtain ⟨a, b⟩ := idx_first h1
        exact ⟨_, ys, _, _, rfl, rfl, g1.sq hS.ex, a, b, k _ _ F C H (Ex.refl F) hS (.int _) h2⟩
  · exact h.elim⟩
end
section
variable {C : AH} {P : D → AH → Prop} {s : ASt} {e : AE'} {aa : AA'}
theorem g_methT {m : D → ASp} (h : e s C fun x C1 => isTupM x = true ∧ aa s C1 fun ds C2 => m x ds C2 P) : aMethT m e aa s C P := h
theorem isTupM_map (ys : List Str) : isTupM (.tup (ys.map D.str)) = true := by
  cases ys with
  | nil => rfl
  | cons y l => rfl
theorem g_tyT {ys : List Str} {A : Prop} (h : A) : isTupM (.tup (ys.map D.str)) = true ∧ A := ⟨isTupM_map ys, h⟩
theorem g_indexT {ys : List Str} {z : Str} (h1 : z ∈ ys) (h : P (.int (ys.idxOf z : Nat)) C) : aIndexT (.tup (ys.map D.str)) [.str z] C P := ⟨ys, rfl, h1, h⟩
end
end AL
namespace AL
open PySem PySem.Spec PyProof.Rows L2
end AL
namespace AL
open PySem PySem.Spec PyProof.Rows L2
variable {B : Bs}
def downD (hi : Int) (n : Nat) : List D := (List.range n).map fun (i : Nat) => D.int (hi - i)
theorem downD_len (hi : Int) (n : Nat) : (downD hi n).length = n := by unfold downD; rw [List.length_map, List.length_range]
theorem downD_get {hi : Int} {n i : Nat} (h : i < n) : (downD hi n)[i]? = some (.int (hi - i)) := by
  unfold downD
  rw [List.getElem?_map, List.getElem?_range h]
  rfl
section
variable {K : PySem.W.Frag} {F : Hp}
theorem walk_down (top : Int) (n : Nat) : Walks B K F (downD top n) (fun _ => True) (Itc top (-1) n) := by
  refine ⟨fun F' C' R' H' e S _ => ?_, fun F' C' R' H' i e S _ hi => ?_, fun F' C' R' H' i x H'' e S _ hi y => ?_⟩
  · rw [downD_len]; exact Nat.le_refl _
  · rw [downD_len] at hi; exact hi
  · skip
    rw [downD_len] at hi
    obtain ⟨e1, y⟩ := y
    subst e1; subst y
    exact ⟨_, F', downD_get hi, Ex.refl F', S, by rw [show top + (i : Int) * (-1) = top - i by omega]; exact .int _⟩
end
def aIR3 (a : AA') : AI' := fun s C P => a s C fun ds C1 => match ds with | [.int i, .int j, .int c] => (c = -1 ∧ -(2 ^ 62) ≤ i ∧ i < 2 ^ 62 ∧ -(2 ^ 62) ≤ j ∧ j < 2 ^ 62) ∧ P (downD i (i - j).toNat) (fun _ => True) C1 | _ => False
section
variable {X : Cx}
theorem ai_range3 {tg e e2 e3 : Expr} {n : Nat} {ta : TA} {a : AA'} {p pos : Pos} (hm : X.mg "range" = none) (h : AA B X [e, e2, e3] n ta a) (hg : Gl X "range" := by rfl) (hs : starEach [e, e2, e3] X.env = (false, eval e X.env) :: starEach [e2, e3] X.env := by rfl) (hpl : (backTo pos (starEach [e2, e3] X.env)).any (·.1) = false := by rfl) : AI B X tg (.Call (.Name "range" p) [e, e2, e3] [] pos) (iRng3 ta) (aIR3 a) := ⟨pi_range3 hg hm h.pa hs hpl, by
  intro σ s F C R H Q P hs hS h0 k
  refine h.sim σ s F C R H _ _ hs hS h0 fun ds vs F1 C1 H1 e1 S1 r1 hl h1 => ?_
  split at h1
  · cases r1 with | cons r1 r2 => cases r2 with | cons r2 r3 => cases r3 with | cons r3 r4 =>
      cases r4; cases r1; cases r2; cases r3
      obtain ⟨⟨rfl, h2, h3, h4, h5⟩, h6⟩ := h1
      exact ⟨_, _, _, _, rfl, RgC.neg h2 h3 h4 h5, k _ _ _ F1 C1 H1 e1 S1 (walk_down _ _) h6⟩
  · exact h1.elim⟩
end
section
variable {s : ASt} {C : AH} {PI : List D → (AH → Prop) → AH → Prop} {aa : AA'}
def kIR3 (PI : List D → (AH → Prop) → AH → Prop) : List D → AH → Prop := fun ds C1 => match ds with | [.int i, .int j, .int c] => (c = -1 ∧ -(2 ^ 62) ≤ i ∧ i < 2 ^ 62 ∧ -(2 ^ 62) ≤ j ∧ j < 2 ^ 62) ∧ PI (downD i (i - j).toNat) (fun _ => True) C1 | _ => False
theorem g_ir3 (h : aa s C (kIR3 PI)) : aIR3 aa s C PI := h
theorem g_kIR3 {i j : Int} (h1 : -(2 ^ 62) ≤ i ∧ i < 2 ^ 62 ∧ -(2 ^ 62) ≤ j ∧ j < 2 ^ 62) (h : PI (downD i (i - j).toNat) (fun _ => True) C) : kIR3 PI [.int i, .int j, .int (-1)] C := ⟨⟨rfl, h1⟩, h⟩
end
end AL
local macro_rules | `(tactic| walk_at "ne") => `(tactic| first | with_reducible assumption | ((with_reducible refine Ne.symm ?_); (with_reducible assumption)))
local macro_rules | `(tactic| walk_at "look") => `(tactic| first
  | with_reducible assumption
  | with_reducible exact AL.put_same
  | ((with_reducible apply AL.put_other); (walk_at "ne"); (walk_at "look"))
  | ((with_reducible apply AL.del_other); (walk_at "ne"); (walk_at "look")))
local macro_rules | `(tactic| walk_at "mul") => `(tactic| first | exact Or.inr ⟨by omega, by omega⟩ | exact Or.inl ⟨by omega, by omega⟩)
local macro_rules | `(tactic| walk_at "go1") => `(tactic| first
  | with_reducible apply AL.g_seq
  | with_reducible apply AL.g_asg
  | with_reducible apply AL.g_op
  | with_reducible apply AL.g_un
  | ((with_reducible apply AL.g_var); exact rfl)
  | with_reducible apply AL.g_c
  | ((with_reducible apply AL.g_gname'); (simp only [AL.wipeA, List.foldl_cons, List.foldl_nil, List.set_cons_zero, List.set_cons_succ]; exact rfl))
  | with_reducible apply AL.g_call
  | with_reducible apply AL.g_cons
  | with_reducible apply AL.g_nil
  | with_reducible apply AL.g_addI
  | with_reducible apply AL.g_sub
  | ((with_reducible apply AL.g_mul); (walk_at "mul"))
  | ((with_reducible apply AL.g_mod); (omega))
  | ((with_reducible apply AL.g_div); (exact ⟨by omega, by omega⟩))
  | ((with_reducible apply AL.g_pow); (exact ⟨by decide, by decide, by decide⟩))
  | with_reducible apply AL.g_lt
  | with_reducible apply AL.g_le
  | with_reducible apply AL.g_gt
  | with_reducible apply AL.g_ge
  | with_reducible apply AL.g_eqII
  | with_reducible apply AL.g_neII
  | with_reducible apply AL.g_eqBB
  | with_reducible apply AL.g_neBB
  | with_reducible apply AL.g_eqTT
  | with_reducible apply AL.g_neTT
  | with_reducible apply AL.g_is
  | with_reducible apply AL.g_isnot
  | with_reducible apply AL.g_B
  | with_reducible apply AL.g_kB
  | with_reducible apply AL.g_tru
  | with_reducible apply AL.g_kTruB
  | with_reducible apply AL.g_and
  | with_reducible apply AL.g_or
  | with_reducible apply AL.g_not
  | with_reducible apply AL.g_andV
  | with_reducible apply AL.g_orV
  | with_reducible apply AL.g_notV
  | with_reducible apply AL.g_kNot
  | with_reducible apply AL.g_if
  | with_reducible apply AL.g_ixL0
  | with_reducible apply AL.g_ixL1
  | with_reducible apply AL.g_ixL2
  | with_reducible apply AL.g_ixT0
  | with_reducible apply AL.g_ixT1
  | with_reducible apply AL.g_ixT2
  | with_reducible apply AL.g_ixT3
  | ((with_reducible apply AL.g_ixC); (walk_at "look"))
  | with_reducible apply AL.g_lenL
  | with_reducible apply AL.g_lenT
  | with_reducible apply AL.g_lenR
  | ((with_reducible apply AL.g_lenC); (walk_at "look"))
  | with_reducible apply AL.g_abs
  | with_reducible apply AL.g_max2
  | with_reducible apply AL.g_min2
  | with_reducible apply AL.g_intI
  | with_reducible apply AL.g_intB
  | with_reducible apply AL.g_listL
  | with_reducible apply AL.g_listT
  | with_reducible apply AL.g_tupleL
  | with_reducible apply AL.g_tupleT
  | with_reducible apply AL.g_rev
  | with_reducible apply AL.g_ret
  | with_reducible apply AL.g_drop
  | with_reducible apply AL.g_next
  | with_reducible apply AL.g_retN
  | with_reducible apply AL.g_tup
  | with_reducible apply AL.g_lst
  | with_reducible apply AL.g_lstM
  | with_reducible apply AL.g_isi
  | with_reducible apply AL.g_kIsiI
  | with_reducible apply AL.g_kIsiB
  | with_reducible apply AL.g_kIsiN
  | with_reducible apply AL.g_kIsiS
  | with_reducible apply AL.g_kIsiL
  | with_reducible apply AL.g_kIsiT
  | with_reducible apply AL.g_kIsiK
  | with_reducible apply AL.g_meth
  | with_reducible apply AL.g_methT
  | with_reducible apply AL.g_tyT
  | with_reducible apply AL.g_meth0
  | ((with_reducible apply AL.g_gsetV); exact rfl)
  | ((with_reducible apply AL.g_kSet); (walk_at "look"); exact rfl)
  | ((with_reducible apply AL.g_frzL); exact rfl; (walk_at "look"))
  | ((with_reducible apply AL.g_gtup); exact rfl)
  | with_reducible apply AL.g_gcons
  | with_reducible apply AL.g_gnil
  | with_reducible apply AL.g_yes
  | with_reducible apply AL.g_sl
  | with_reducible apply AL.g_noPart
  | with_reducible apply AL.g_part
  | with_reducible apply AL.g_kPart
  | ((with_reducible apply AL.g_pen0); exact rfl; (walk_at "look"))
  | ((with_reducible apply AL.g_pen1); exact rfl; (walk_at "look"))
  | ((with_reducible apply AL.g_pen2); exact rfl; (walk_at "look"))
  | with_reducible apply AL.g_putK
  | ((with_reducible apply AL.g_kPut1); exact rfl; (walk_at "look"))
  | ((with_reducible apply AL.g_kPut2); exact rfl; (walk_at "look"))
  | with_reducible apply AL.g_par
  | ((with_reducible apply AL.g_kPar); (simp only [List.set_cons_zero, List.set_cons_succ]; exact rfl))
  | with_reducible apply AL.g_neg
  | with_reducible apply AL.g_chain
  | with_reducible apply AL.g_chain3
  | with_reducible apply AL.g_lenSet
  | with_reducible apply AL.g_inTab
  | with_reducible apply AL.g_kInTab
  | with_reducible apply AL.g_kNotInTab
  | with_reducible apply AL.g_ixTab
  | with_reducible apply AL.g_eqNil
  | with_reducible apply AL.g_neNil
  | with_reducible apply AL.g_iteT
  | with_reducible apply AL.g_iteF
  | with_reducible apply AL.g_iteNT
  | with_reducible apply AL.g_iteNF
  | with_reducible apply AL.g_for
  | with_reducible apply AL.g_il
  | with_reducible apply AL.g_it
  | with_reducible apply AL.g_is'
  | with_reducible apply AL.g_ir1
  | with_reducible apply AL.g_ir3
  | ((with_reducible apply AL.g_kIR3); (omega))
  | with_reducible apply AL.g_ir2
  | with_reducible apply AL.g_ie
  | with_reducible apply AL.g_iz
  | with_reducible apply AL.g_kILl
  | with_reducible apply AL.g_kILr
  | with_reducible apply AL.g_kIT
  | with_reducible apply AL.g_kIS
  | with_reducible apply AL.g_kIE
  | with_reducible apply AL.g_kIZ
  | ((with_reducible apply AL.g_kIR1); (omega); (omega))
  | ((with_reducible apply AL.g_kIR2); (omega))
  | with_reducible apply AL.g_lc
  | with_reducible apply AL.g_lcM
  | ((with_reducible apply AL.g_bodyX); (simp only [List.map_cons, List.map_nil, List.length_cons, List.length_nil, List.cons_append, List.nil_append, List.reduceReplicate, Nat.reduceAdd, Nat.reduceSub]; exact rfl))
  | with_reducible apply AL.g_callX
  | with_reducible apply AL.g_raise
  | with_reducible apply AL.g_try
  | with_reducible apply AL.g_tryA
  | with_reducible apply AL.g_isX
  | with_reducible apply AL.g_get1
  | with_reducible apply AL.g_get2
  | with_reducible apply AL.g_getN
  | with_reducible apply AL.g_inN
  | with_reducible apply AL.g_get1N
  | with_reducible apply AL.g_putN
  | with_reducible apply AL.g_fld
  | with_reducible apply AL.g_fldPut
  | with_reducible apply AL.g_mth
  | with_reducible apply AL.g_mthX
  | with_reducible apply AL.g_make
  | with_reducible apply AL.g_setd
  | with_reducible apply AL.g_dispV
  | with_reducible apply AL.g_kDispVI
  | ((with_reducible apply AL.g_body'); (simp only [List.map_cons, List.map_nil, List.length_cons, List.length_nil, List.cons_append, List.nil_append, List.reduceReplicate, Nat.reduceAdd, Nat.reduceSub]; exact rfl))
  | ((with_reducible apply AL.g_sz); (simp only [List.length_cons, List.length_nil, PySem.sizeLine]; try omega))
  | ((with_reducible apply AL.g_ty); first | exact rfl | exact AL.isTy_ce (by walk_at "look") rfl))
local macro_rules | `(tactic| walk_at "go") => `(tactic| repeat walk_at "go1")
namespace A_k47
open PySem AL
def isubE : Str → Str → Option Bool := subL (("NoNumber", "NoNumber", true) :: [])
def subE : Str → Str → Option Bool := subL [("NoNumber", "WordError", true)]
def a_is_whole : AS' :=
  aRet (aAndV (aIsi "int" (aVar 0)) (aNotV (aIsi "bool" (aVar 0))))
def s_is_whole : ASp := aBody 1 a_is_whole
def a_size_of : AS' :=
  aSeq (aAsg (aC (.int 1)) (aGName 1))
  (aSeq (aFor (aIT (aVar 0)) (aGName 2)
  (aAsg (aOp aMul (aVar 1) (aCall aLen (aCons (aVar 2) (aNil)))) (aGName 1)))
  (aRet (aVar 1)))
def s_size_of : ASp := aBody 3 a_size_of
def a_marks_of : AS' :=
  aSeq (aAsg (aLstM (aNil)) (aGName 1))
  (aSeq (aFor (aIT (aVar 0)) (aGName 2)
  (aSeq (aAsg (aDict0) (aGName 3))
  (aSeq (aFor (aIT (aVar 2)) (aGName 4)
  (aSeq (aFor (aIR2 (aCons (aC (.int 1)) (aCons (aCall aLen (aCons (aVar 4) (aNil))) (aNil)))) (aGName 5)
  (aDrop (aSetd (aVar 3) (aSl aCut (aVar 4) aNoPart (aPart (aVar 5))) (aC (.bl false)))))
  (aPutK (aVar 3) (aVar 4) (aC (.bl true)))))
  (aFrz 3 (aDrop (aMeth "list" aAppend (aVar 1) (aCons (aVar 3) (aNil))))))))
  (aFrz 1 (aRet (aVar 1))))
def s_marks_of : ASp := aBody 6 a_marks_of
def a_went : AS' :=
  aSeq (aFor (aIS (aVar 2)) (aGName 3)
  (aSeq (aIfS (aB (aOp aIsN (aVar 1) (aC .non)))
  (aRet (aC .non))
  (aNext))
  (aSeq (aAsg (aVar 1) (aGTup 2 (aGCons (aGName 4) (aGCons (aGName 5) (aGNil)))))
  (aSeq (aAsg (aOp aAdd (aVar 5) (aVar 3)) (aGName 5))
  (aIfS (aB (aInK true (aVar 5) (aOp aIx (aVar 0) (aVar 4))))
  (aAsg (aC .non) (aGName 1))
  (aIfS (aAnd (aTru (aGetK (aOp aIx (aVar 0) (aVar 4)) (aVar 5))) (aB (aOp aLt (aVar 4) (aOp aSub (aCall aLen (aCons (aVar 0) (aNil))) (aC (.int 1))))))
  (aAsg (aTup (aCons (aOp aAdd (aVar 4) (aC (.int 1))) (aCons (aC (.str "")) (aNil)))) (aGName 1))
  (aAsg (aTup (aCons (aVar 4) (aCons (aVar 5) (aNil)))) (aGName 1))))))))
  (aRet (aVar 1))
def s_went : ASp := aBody 6 a_went
def a_is_made : AS' :=
  aRet (aAndV (aOp aNotN (aVar 1) (aC .non)) (aAndV (aOp aEq (aOp aIx (aVar 1) (aC (.int 0))) (aOp aSub (aCall aLen (aCons (aVar 0) (aNil))) (aC (.int 1)))) (aGet2 (aOp aIx (aVar 0) (aUn aNeg (aC (.int 1)))) (aOp aIx (aVar 1) (aC (.int 1))) (aC (.bl false)))))
def s_is_made : ASp := aBody 2 a_is_made
def a_parted : AS' :=
  aSeq (aAsg (aLstM (aNil)) (aGName 2))
  (aSeq (aFor (aIT (aSl aCut (aVar 0) aNoPart (aPart (aUn aNeg (aC (.int 1)))))) (aGName 3)
  (aSeq (aAsg (aLc (aIEG (aCons (aVar 3) (aNil))) (aGTup 2 (aGCons (aGName 5) (aGCons (aGName 6) (aGNil)))) (aTru (aMeth "str" aStartswith (aVar 1) (aCons (aVar 6) (aNil)))) (aVar 5) [5, 6]) (aGName 4))
  (aSeq (aIfS (aB (aOp (aEqNil false) (aVar 4) (aLst (aNil))))
  (aRet (aC .non))
  (aNext))
  (aSeq (aDrop (aMeth "list" aAppend (aVar 2) (aCons (aOp aIx (aVar 4) (aC (.int 0))) (aNil))))
  (aAsg (aSl aCut (aVar 1) (aPart (aCall aLen (aCons (aOp aIx (aVar 3) (aOp aIx (aVar 4) (aC (.int 0)))) (aNil)))) aNoPart) (aGName 1))))))
  (aFrz 2 (aSeq (aIfS (aB (aOp aNinL (aVar 1) (aOp aIx (aVar 0) (aUn aNeg (aC (.int 1))))))
  (aRet (aC .non))
  (aNext))
  (aRet (aOp aAdd (aVar 2) (aLst (aCons (aMethT aIndexT (aOp aIx (aVar 0) (aUn aNeg (aC (.int 1)))) (aCons (aVar 1) (aNil))) (aNil))))))))
def s_parted : ASp := aBody 7 a_parted
def a_Going_begun : AS' :=
  aRet (aCall aTupleOf (aCons (aLc (aIL (aFld "Going" "earlier" (aVar 0))) (aGName 1) (aYes) (aTup (aCons (aC (.int 0)) (aCons (aC (.str "")) (aNil)))) [1]) (aNil)))
def s_Going_begun : ASp := aBody 2 a_Going_begun
def a_law_pen : AS' :=
  aSeq (aAsg (aOp aAdd (aOp aMul (aC (.int 6151)) (aVar 1)) (aC (.int 3))) (aGName 2))
  (aSeq (aIfS (aB (aOp aLt (aVar 1) (aCall aLen (aCons (aVar 0) (aNil)))))
  (aAsg (aOp aIx (aVar 0) (aVar 1)) (aGName 2))
  (aIfS (aB (aOp aGt (aCall aLen (aCons (aVar 0) (aNil))) (aC (.int 0))))
  (aAsg (aOp aAdd (aOp aMod (aOp aIx (aVar 0) (aOp aMod (aVar 1) (aCall aLen (aCons (aVar 0) (aNil))))) (aC (.int 2147483629))) (aOp aMul (aC (.int 40503)) (aVar 1))) (aGName 2))
  (aNext)))
  (aSeq (aIfS (aB (aOp aGe (aVar 2) (aOp aPow (aC (.int 10)) (aC (.int 18)))))
  (aRet (aLstM (aCons (aOp aSub (aVar 2) (aOp aPow (aC (.int 10)) (aC (.int 18)))) (aCons (aOp aMod (aVar 2) (aC (.int 2147483587))) (aCons (aC (.int 0)) (aNil))))))
  (aNext))
  (aRet (aLstM (aCons (aC (.int 0)) (aCons (aOp aMod (aVar 2) (aC (.int 2147483587))) (aCons (aC (.int 0)) (aNil))))))))
def s_law_pen : ASp := aBody 3 a_law_pen
def a_law_draw : AS' :=
  aSeq (aAsg (aOp aAdd (aOp aIx (aVar 0) (aC (.int 2))) (aC (.int 1))) (aGSet (aVar 0) (aC (.int 2))))
  (aSeq (aIfS (aB (aOp aGt (aOp aIx (aVar 0) (aC (.int 0))) (aC (.int 0))))
  (aSeq (aAsg (aOp aMod (aOp aIx (aVar 0) (aC (.int 0))) (aVar 1)) (aGName 2))
  (aSeq (aAsg (aOp aDivW (aOp aIx (aVar 0) (aC (.int 0))) (aVar 1)) (aGSet (aVar 0) (aC (.int 0))))
  (aRet (aVar 2))))
  (aNext))
  (aSeq (aAsg (aOp aMod (aOp aAdd (aOp aAdd (aOp aIx (aVar 0) (aC (.int 1))) (aOp aMul (aC (.int 69621)) (aOp aIx (aVar 0) (aC (.int 2))))) (aC (.int 13))) (aC (.int 2147483629))) (aGName 3))
  (aSeq (aAsg (aOp aAdd (aOp aMod (aOp aMul (aVar 3) (aVar 3)) (aC (.int 2147483587))) (aOp aMul (aC (.int 6151)) (aOp aIx (aVar 0) (aC (.int 2))))) (aGName 3))
  (aSeq (aAsg (aOp aMod (aOp aMul (aVar 3) (aVar 3)) (aC (.int 2147483629))) (aGName 3))
  (aRet (aOp aMod (aOp aDiv (aVar 3) (aC (.int 64))) (aVar 1)))))))
def s_law_draw : ASp := aBody 4 a_law_draw
def a_law_merged : AS' :=
  aSeq (aIfS (aOr (aB (aOp aLt (aCall aLen (aCons (aVar 0) (aNil))) (aC (.int 2)))) (aB (aOp aGt (aOp aMul (aCall aLen (aCons (aOp aIx (aVar 0) (aC (.int 0))) (aNil))) (aCall aLen (aCons (aOp aIx (aVar 0) (aC (.int 1))) (aNil)))) (aC (.int 12)))))
  (aRet (aVar 0))
  (aNext))
  (aSeq (aAsg (aLstM (aNil)) (aGName 1))
  (aSeq (aFor (aIT (aOp aIx (aVar 0) (aC (.int 0)))) (aGName 2)
  (aDrop (aMeth "list" aExtend (aVar 1) (aCons (aLc (aIT (aOp aIx (aVar 0) (aC (.int 1)))) (aGName 3) (aB (aOp aLe (aCall aLen (aCons (aOp aAdd (aVar 2) (aVar 3)) (aNil))) (aC (.int 6)))) (aOp aAdd (aVar 2) (aVar 3)) [3]) (aNil)))))
  (aFrz 1 (aRet (aOp aAdd (aTup (aCons (aCall aTupleOf (aCons (aVar 1) (aNil))) (aNil))) (aSl aCut (aVar 0) (aPart (aC (.int 2))) aNoPart))))))
def s_law_merged : ASp := aBody 4 a_law_merged
def a_law_numbers : AS' :=
  aSeq (aAsg (aLstM (aNil)) (aGName 2))
  (aSeq (aFor (aIT (aSl aCut (aVar 0) aNoPart (aPart (aUn aNeg (aC (.int 1)))))) (aGName 3)
  (aSeq (aAsg (aLc (aIEG (aCons (aVar 3) (aNil))) (aGTup 2 (aGCons (aGName 5) (aGCons (aGName 6) (aGNil)))) (aB (aOp aEq (aSl aCut (aVar 1) aNoPart (aPart (aCall aLen (aCons (aVar 6) (aNil))))) (aVar 6))) (aVar 5) [5, 6]) (aGName 4))
  (aSeq (aIfS (aB (aOp (aEqNil false) (aVar 4) (aLst (aNil))))
  (aRet (aC .non))
  (aNext))
  (aSeq (aDrop (aMeth "list" aAppend (aVar 2) (aCons (aOp aIx (aVar 4) (aC (.int 0))) (aNil))))
  (aAsg (aSl aCut (aVar 1) (aPart (aCall aLen (aCons (aOp aIx (aVar 3) (aOp aIx (aVar 4) (aC (.int 0)))) (aNil)))) aNoPart) (aGName 1))))))
  (aFrz 2 (aSeq (aIfS (aB (aOp aNinL (aVar 1) (aOp aIx (aVar 0) (aUn aNeg (aC (.int 1))))))
  (aRet (aC .non))
  (aNext))
  (aRet (aOp aAdd (aVar 2) (aLst (aCons (aOp aIx (aLc (aIEG (aCons (aOp aIx (aVar 0) (aUn aNeg (aC (.int 1)))) (aNil))) (aGTup 2 (aGCons (aGName 5) (aGCons (aGName 6) (aGNil)))) (aB (aOp aEq (aVar 6) (aVar 1))) (aVar 5) [5, 6]) (aC (.int 0))) (aNil))))))))
def s_law_numbers : ASp := aBody 7 a_law_numbers
def a_law_size : AS' :=
  aSeq (aAsg (aC (.int 1)) (aGName 1))
  (aSeq (aFor (aIT (aVar 0)) (aGName 2)
  (aAsg (aOp aMul (aVar 1) (aCall aLen (aCons (aVar 2) (aNil)))) (aGName 1)))
  (aRet (aVar 1)))
def s_law_size : ASp := aBody 3 a_law_size
def a_law_word : AS' :=
  aSeq (aAsg (aVar 1) (aGTup 2 (aGCons (aGName 2) (aGCons (aGName 3) (aGNil)))))
  (aRet (aMeth "str" aJoin (aC (.str "")) (aCons (aLc (aIZG (aCons (aOp aIx (aVar 0) (aVar 2)) (aCons (aVar 3) (aNil)))) (aGTup 2 (aGCons (aGName 4) (aGCons (aGName 5) (aGNil)))) (aYes) (aOp aIx (aVar 4) (aVar 5)) [4, 5]) (aNil))))
def s_law_word : ASp := aBody 6 a_law_word
def a_Going___init__ : AS' :=
  aSeq (aFldPut "Going" "step" (aVar 0) (aVar 1))
  (aSeq (aFldPut "Going" "earlier" (aVar 0) (aLc (aIT (aVar 2)) (aGName 3) (aYes) (aCall s_marks_of (aCons (aVar 3) (aNil))) [3]))
  (aFldPut "Going" "known" (aVar 0) (aDict0N)))
def s_Going___init__ : ASp := aBody 4 a_Going___init__
def a_Going_behind : AS' :=
  aRet (aCall aTupleOf (aCons (aLc (aIZG (aCons (aFld "Going" "earlier" (aVar 0)) (aCons (aVar 1) (aNil)))) (aGTup 2 (aGCons (aGName 3) (aGCons (aGName 4) (aGNil)))) (aYes) (aCall s_went (aCons (aVar 3) (aCons (aVar 4) (aCons (aVar 2) (aNil))))) [3, 4]) (aNil)))
def s_Going_behind : ASp := aBody 5 a_Going_behind
def a_Going_is_new : AS' :=
  aRet (aNotV (aCall aAny (aCons (aLc (aIZG (aCons (aFld "Going" "earlier" (aVar 0)) (aCons (aVar 1) (aNil)))) (aGTup 2 (aGCons (aGName 2) (aGCons (aGName 3) (aGNil)))) (aYes) (aCall s_is_made (aCons (aVar 2) (aCons (aVar 3) (aNil)))) [2, 3]) (aNil))))
def s_Going_is_new : ASp := aBody 4 a_Going_is_new
def a_law_tongue : AS' :=
  aSeq (aAsg (aC (.str "!\"#$&'()*+,-./0123456789:;<=>?@ABCDEFGHIJKLMNOPQRSTUVWXYZ[\\]^_`abcdefghijklmnopqrstuvwxyz{|}~")) (aGName 2))
  (aSeq (aAsg (aOp aAdd (aC (.int 1)) (aCall s_law_draw (aCons (aVar 0) (aCons (aC (.int 4)) (aNil))))) (aGName 3))
  (aSeq (aAsg (aLcM (aIR1 (aCons (aVar 3) (aNil))) (aGName 4) (aYes) (aOp aAdd (aC (.int 1)) (aCall s_law_draw (aCons (aVar 0) (aCons (aVar 1) (aNil))))) [4]) (aGName 5))
  (aSeq (aIfS (aAnd (aB (aOp aEq (aVar 1) (aC (.int 6)))) (aB (aOp aEq (aCall s_law_draw (aCons (aVar 0) (aCons (aC (.int 6)) (aNil)))) (aC (.int 0)))))
  (aAsg (aOp aIx (aLst (aCons (aLst (aCons (aC (.int 6)) (aCons (aC (.int 6)) (aNil)))) (aCons (aLst (aCons (aC (.int 4)) (aCons (aC (.int 4)) (aCons (aC (.int 4)) (aNil))))) (aCons (aLst (aCons (aC (.int 3)) (aCons (aC (.int 3)) (aCons (aC (.int 3)) (aCons (aC (.int 3)) (aNil)))))) (aCons (aLst (aCons (aC (.int 6)) (aCons (aC (.int 1)) (aCons (aC (.int 5)) (aNil))))) (aNil)))))) (aCall s_law_draw (aCons (aVar 0) (aCons (aC (.int 4)) (aNil))))) (aGName 5))
  (aNext))
  (aSeq (aWhile (aB (aOp aGt (aCall aSum (aCons (aVar 5) (aNil))) (aC (.int 12))))
  (aAsg (aOp aSub (aCall aMaxL (aCons (aVar 5) (aNil))) (aC (.int 1))) (aGSet (aVar 5) (aMeth "list" aLindex (aVar 5) (aCons (aCall aMaxL (aCons (aVar 5) (aNil))) (aNil))))))
  (aFrz 5 (aSeq (aAsg (aLstM (aNil)) (aGName 6))
  (aSeq (aFor (aIL (aVar 5)) (aGName 7)
  (aSeq (aAsg (aC (.str "")) (aGName 8))
  (aSeq (aFor (aIR1 (aCons (aVar 7) (aNil))) (aGName 4)
  (aSeq (aAsg (aCall s_law_draw (aCons (aVar 0) (aCons (aCall aLen (aCons (aVar 2) (aNil))) (aNil)))) (aGName 9))
  (aSeq (aAsg (aOp aAdd (aVar 8) (aOp aIx (aVar 2) (aVar 9))) (aGName 8))
  (aAsg (aOp aAdd (aSl aCut (aVar 2) aNoPart (aPart (aVar 9))) (aSl aCut (aVar 2) (aPart (aOp aAdd (aVar 9) (aC (.int 1)))) aNoPart)) (aGName 2)))))
  (aDrop (aMeth "list" aAppend (aVar 6) (aCons (aVar 8) (aNil)))))))
  (aFrz 6 (aRet (aCall aTupleOf (aCons (aVar 6) (aNil))))))))))))
def s_law_tongue : ASp := aBody 10 a_law_tongue
def a_law_text : AS' :=
  aSeq (aAsg (aMeth "str" aJoin (aC (.str "")) (aCons (aVar 1) (aNil))) (aGName 3))
  (aSeq (aAsg (aOp aIx (aVar 3) (aCall s_law_draw (aCons (aVar 0) (aCons (aCall aLen (aCons (aVar 3) (aNil))) (aNil))))) (aGName 4))
  (aSeq (aAsg (aOp aEq (aCall s_law_draw (aCons (aVar 0) (aCons (aC (.int 3)) (aNil)))) (aC (.int 0))) (aGName 5))
  (aSeq (aFor (aIR1 (aCons (aCall s_law_draw (aCons (aVar 0) (aCons (aVar 2) (aNil)))) (aNil))) (aGName 6)
  (aSeq (aAsg (aOp aIx (aVar 3) (aCall s_law_draw (aCons (aVar 0) (aCons (aCall aLen (aCons (aVar 3) (aNil))) (aNil))))) (aGName 7))
  (aSeq (aIfS (aTru (aVar 5))
  (aAsg (aOp aIx (aVar 4) (aC (.int 0))) (aGName 7))
  (aNext))
  (aAsg (aOp aAdd (aVar 4) (aVar 7)) (aGName 4)))))
  (aRet (aVar 4)))))
def s_law_text : ASp := aBody 8 a_law_text
def a_law_spot : AS' :=
  aSeq (aFor (aIEG (aCons (aVar 0) (aNil))) (aGTup 2 (aGCons (aGName 2) (aGCons (aGName 3) (aGNil))))
  (aSeq (aAsg (aCall s_law_numbers (aCons (aVar 3) (aCons (aVar 1) (aNil)))) (aGName 4))
  (aIfS (aB (aOp aNotN (aVar 4) (aC .non)))
  (aRet (aTup (aCons (aVar 2) (aCons (aVar 4) (aNil)))))
  (aNext))))
  (aRet (aC .non))
def s_law_spot : ASp := aBody 5 a_law_spot
def a_law_behind : AS' :=
  aSeq (aAsg (aVar 1) (aGTup 2 (aGCons (aGName 2) (aGCons (aGName 3) (aGNil)))))
  (aSeq (aAsg (aOp aIx (aVar 0) (aVar 2)) (aGName 4))
  (aSeq (aFor (aIR3 (aCons (aOp aSub (aCall aLen (aCons (aVar 4) (aNil))) (aC (.int 1))) (aCons (aUn aNeg (aC (.int 1))) (aCons (aUn aNeg (aC (.int 1))) (aNil))))) (aGName 5)
  (aIfS (aB (aOp aLt (aOp aAdd (aOp aIx (aVar 3) (aVar 5)) (aC (.int 1))) (aCall aLen (aCons (aOp aIx (aVar 4) (aVar 5)) (aNil)))))
  (aSeq (aAsg (aOp (aRepL false) (aLst (aCons (aC (.int 0)) (aNil))) (aOp aSub (aOp aSub (aCall aLen (aCons (aVar 4) (aNil))) (aVar 5)) (aC (.int 1)))) (aGName 6))
  (aRet (aTup (aCons (aVar 2) (aCons (aOp aAdd (aOp aAdd (aSl aCut (aVar 3) aNoPart (aPart (aVar 5))) (aLst (aCons (aOp aAdd (aOp aIx (aVar 3) (aVar 5)) (aC (.int 1))) (aNil)))) (aVar 6)) (aNil))))))
  (aNext)))
  (aSeq (aFor (aIR2 (aCons (aOp aAdd (aVar 2) (aC (.int 1))) (aCons (aCall aLen (aCons (aVar 0) (aNil))) (aNil)))) (aGName 7)
  (aIfS (aB (aOp aGt (aCall s_law_size (aCons (aOp aIx (aVar 0) (aVar 7)) (aNil))) (aC (.int 0))))
  (aRet (aTup (aCons (aVar 7) (aCons (aOp (aRepL false) (aLst (aCons (aC (.int 0)) (aNil))) (aCall aLen (aCons (aOp aIx (aVar 0) (aVar 7)) (aNil)))) (aNil)))))
  (aNext)))
  (aRet (aC .non)))))
def s_law_behind : ASp := aBody 8 a_law_behind
def a_Going_left (s_Going_left : ASp) : AS' :=
  aSeq (aIfS (aB (aOp aEq (aVar 1) (aCall aLen (aCons (aFld "Going" "step" (aVar 0)) (aNil)))))
  (aRet (aCall aInt (aCons (aMth "Going" "is_new" s_Going_is_new (aVar 0) (aCons (aVar 2) (aNil))) (aNil))))
  (aNext))
  (aSeq (aIfS (aB (aOp (aEqNil false) (aLc (aIT (aVar 2)) (aGName 5) (aB (aOp aNotN (aVar 5) (aC .non))) (aVar 5) [5]) (aLst (aNil))))
  (aRet (aCall s_size_of (aCons (aSl aCut (aFld "Going" "step" (aVar 0)) (aPart (aVar 1)) aNoPart) (aNil))))
  (aNext))
  (aSeq (aIfS (aB (aInN true (aTup (aCons (aVar 1) (aCons (aVar 2) (aNil)))) (aFld "Going" "known" (aVar 0))))
  (aSeq (aAsg (aC (.int 0)) (aGName 3))
  (aSeq (aFor (aIT (aOp aIx (aFld "Going" "step" (aVar 0)) (aVar 1))) (aGName 4)
  (aAsg (aOp aAdd (aVar 3) (aMth "Going" "left" s_Going_left (aVar 0) (aCons (aOp aAdd (aVar 1) (aC (.int 1))) (aCons (aMth "Going" "behind" s_Going_behind (aVar 0) (aCons (aVar 2) (aCons (aVar 4) (aNil)))) (aNil))))) (aGName 3)))
  (aPutN (aFld "Going" "known" (aVar 0)) (aTup (aCons (aVar 1) (aCons (aVar 2) (aNil)))) (aVar 3))))
  (aNext))
  (aRet (aGetN (aFld "Going" "known" (aVar 0)) (aTup (aCons (aVar 1) (aCons (aVar 2) (aNil))))))))
def s_Going_left : Nat → ASp
  | 0 => fun _ _ _ => False
  | n + 1 => aBody 6 (a_Going_left (s_Going_left n))
def a_law_part : AS' :=
  aSeq (aAsg (aLstM (aNil)) (aGName 5))
  (aSeq (aFor (aIR1 (aCons (aVar 2) (aNil))) (aGName 6)
  (aSeq (aAsg (aCall s_law_text (aCons (aVar 0) (aCons (aVar 1) (aCons (aVar 3) (aNil))))) (aGName 7))
  (aSeq (aAsg (aOp aNinL (aVar 7) (aVar 5)) (aGName 8))
  (aSeq (aIfS (aNot (aTru (aVar 4)))
  (aAsg (aOp (aEqNil false) (aLc (aIL (aVar 5)) (aGName 9) (aOr (aTru (aMeth "str" aStartswith (aVar 9) (aCons (aVar 7) (aNil)))) (aTru (aMeth "str" aStartswith (aVar 7) (aCons (aVar 9) (aNil))))) (aVar 9) [9]) (aLst (aNil))) (aGName 8))
  (aNext))
  (aIfS (aTru (aVar 8))
  (aDrop (aMeth "list" aAppend (aVar 5) (aCons (aVar 7) (aNil))))
  (aNext))))))
  (aFrz 5 (aRet (aCall aTupleOf (aCons (aVar 5) (aNil))))))
def s_law_part : ASp := aBody 10 a_law_part
def a_law_more : AS' :=
  aSeq (aAsg (aCall s_law_text (aCons (aVar 0) (aCons (aVar 1) (aCons (aC (.int 3)) (aNil))))) (aGName 3))
  (aSeq (aIfS (aOr (aB (aOp aInL (aVar 3) (aVar 2))) (aB (aOp aGt (aCall aLen (aCons (aVar 2) (aNil))) (aC (.int 11)))))
  (aRet (aTup (aNil)))
  (aNext))
  (aRet (aTup (aCons (aVar 3) (aNil)))))
def s_law_more : ASp := aBody 4 a_law_more
def a_law_fresh : AS' :=
  aSeq (aFor (aIR1 (aCons (aVar 2) (aNil))) (aGName 3)
  (aSeq (aIfS (aB (aOp aIsN (aVar 1) (aC .non)))
  (aRet (aC .non))
  (aNext))
  (aSeq (aAsg (aCall s_law_word (aCons (aVar 0) (aCons (aVar 1) (aNil)))) (aGName 4))
  (aSeq (aIfS (aB (aOp aEq (aCall s_law_spot (aCons (aVar 0) (aCons (aVar 4) (aNil)))) (aVar 1)))
  (aRet (aVar 1))
  (aNext))
  (aAsg (aCall s_law_behind (aCons (aVar 0) (aCons (aVar 1) (aNil)))) (aGName 1))))))
  (aRet (aC (.int 0)))
def s_law_fresh : ASp := aBody 5 a_law_fresh
def a_goings : AS' :=
  aRet (aLc (aIEG (aCons (aVar 0) (aNil))) (aGTup 2 (aGCons (aGName 1) (aGCons (aGName 2) (aGNil)))) (aYes) (aMake "Going" s_Going___init__ (aCons (aVar 2) (aCons (aSl aCut (aVar 0) aNoPart (aPart (aVar 1))) (aNil)))) [1, 2])
def s_goings : ASp := aBody 3 a_goings
def a_law_step : AS' :=
  aSeq (aAsg (aOp aAdd (aC (.int 1)) (aCall s_law_draw (aCons (aVar 0) (aCons (aVar 2) (aNil))))) (aGName 5))
  (aSeq (aAsg (aLstM (aNil)) (aGName 6))
  (aSeq (aFor (aIR1 (aCons (aVar 5) (aNil))) (aGName 7)
  (aSeq (aAsg (aOp aAdd (aC (.int 1)) (aCall s_law_draw (aCons (aVar 0) (aCons (aVar 4) (aNil))))) (aGName 8))
  (aDrop (aMeth "list" aAppend (aVar 6) (aCons (aCall s_law_part (aCons (aVar 0) (aCons (aVar 1) (aCons (aCall s_law_draw (aCons (aVar 0) (aCons (aOp aAdd (aVar 3) (aC (.int 1))) (aNil)))) (aCons (aVar 8) (aCons (aOp aEq (aVar 7) (aOp aSub (aVar 5) (aC (.int 1)))) (aNil))))))) (aNil))))))
  (aFrz 6 (aRet (aCall aTupleOf (aCons (aVar 6) (aNil)))))))
def s_law_step : ASp := aBody 9 a_law_step
def a_law_plan : AS' :=
  aSeq (aAsg (aTup (aNil)) (aGName 5))
  (aSeq (aFor (aIR1 (aCons (aCall s_law_draw (aCons (aVar 0) (aCons (aC (.int 4)) (aNil)))) (aNil))) (aGName 6)
  (aSeq (aAsg (aCall s_law_step (aCons (aVar 0) (aCons (aVar 1) (aCons (aVar 2) (aCons (aVar 3) (aCons (aVar 4) (aNil))))))) (aGName 7))
  (aSeq (aAsg (aCall s_law_draw (aCons (aVar 0) (aCons (aC (.int 6)) (aNil)))) (aGName 8))
  (aSeq (aIfS (aAnd (aB (aOp aGt (aVar 6) (aC (.int 0)))) (aB (aOp aEq (aVar 8) (aC (.int 0)))))
  (aAsg (aCall s_law_merged (aCons (aOp aIx (aVar 5) (aC (.int 0))) (aNil))) (aGName 7))
  (aNext))
  (aSeq (aIfS (aAnd (aB (aOp aGt (aVar 6) (aC (.int 0)))) (aB (aOp aEq (aVar 8) (aC (.int 1)))))
  (aSeq (aAsg (aOp aIx (aOp aIx (aVar 5) (aC (.int 0))) (aUn aNeg (aC (.int 1)))) (aGName 9))
  (aAsg (aOp aAdd (aSl aCut (aOp aIx (aVar 5) (aC (.int 0))) aNoPart (aPart (aUn aNeg (aC (.int 1))))) (aTup (aCons (aOp aAdd (aUn aRevT (aVar 9)) (aCall s_law_more (aCons (aVar 0) (aCons (aVar 1) (aCons (aVar 9) (aNil)))))) (aNil)))) (aGName 7)))
  (aNext))
  (aSeq (aIfS (aAnd (aB (aOp aGt (aVar 6) (aC (.int 0)))) (aB (aOp aEq (aVar 8) (aC (.int 2)))))
  (aAsg (aCall aTupleOf (aCons (aLc (aIT (aOp aIx (aVar 5) (aOp aSub (aVar 6) (aC (.int 1))))) (aGName 10) (aYes) (aUn aRevT (aVar 10)) [10]) (aNil))) (aGName 7))
  (aNext))
  (aSeq (aIfS (aAnd (aB (aOp aGt (aVar 6) (aC (.int 0)))) (aB (aOp aEq (aVar 8) (aC (.int 3)))))
  (aAsg (aOp aAdd (aTup (aCons (aCall s_law_part (aCons (aVar 0) (aCons (aVar 1) (aCons (aC (.int 1)) (aCons (aC (.int 3)) (aCons (aC (.bl false)) (aNil))))))) (aNil))) (aSl aCut (aOp aIx (aVar 5) (aC (.int 0))) (aPart (aC (.int 1))) aNoPart)) (aGName 7))
  (aNext))
  (aAsg (aOp aAdd (aVar 5) (aTup (aCons (aVar 7) (aNil)))) (aGName 5)))))))))
  (aRet (aVar 5)))
def s_law_plan : ASp := aBody 11 a_law_plan
def a_Going_ahead : AS' :=
  aSeq (aAsg (aMth "Going" "begun" s_Going_begun (aVar 0) aNil) (aGName 2))
  (aSeq (aAsg (aC (.int 0)) (aGName 3))
  (aSeq (aFor (aIE (aCons (aVar 1) (aNil))) (aGTup 2 (aGCons (aGName 4) (aGCons (aGName 5) (aGNil))))
  (aSeq (aFor (aIT (aSl aCut (aOp aIx (aFld "Going" "step" (aVar 0)) (aVar 4)) aNoPart (aPart (aVar 5)))) (aGName 6)
  (aAsg (aOp aAdd (aVar 3) (aMth "Going" "left" (s_Going_left 8) (aVar 0) (aCons (aOp aAdd (aVar 4) (aC (.int 1))) (aCons (aMth "Going" "behind" s_Going_behind (aVar 0) (aCons (aVar 2) (aCons (aVar 6) (aNil)))) (aNil))))) (aGName 3)))
  (aAsg (aMth "Going" "behind" s_Going_behind (aVar 0) (aCons (aVar 2) (aCons (aOp aIx (aOp aIx (aFld "Going" "step" (aVar 0)) (aVar 4)) (aVar 5)) (aNil)))) (aGName 2))))
  (aRet (aVar 3))))
def s_Going_ahead : ASp := aBody 7 a_Going_ahead
def a_Going_at : AS' :=
  aSeq (aAsg (aMth "Going" "begun" s_Going_begun (aVar 0) aNil) (aGName 2))
  (aSeq (aAsg (aC (.str "")) (aGName 3))
  (aSeq (aFor (aIEG (aCons (aFld "Going" "step" (aVar 0)) (aNil))) (aGTup 2 (aGCons (aGName 4) (aGCons (aGName 5) (aGNil))))
  (aSeq (aFor (aIT (aVar 5)) (aGName 6)
  (aSeq (aAsg (aMth "Going" "behind" s_Going_behind (aVar 0) (aCons (aVar 2) (aCons (aVar 6) (aNil)))) (aGName 7))
  (aSeq (aAsg (aMth "Going" "left" (s_Going_left 8) (aVar 0) (aCons (aOp aAdd (aVar 4) (aC (.int 1))) (aCons (aVar 7) (aNil)))) (aGName 8))
  (aSeq (aIfS (aB (aOp aLt (aVar 1) (aVar 8)))
  (aBrk)
  (aNext))
  (aAsg (aOp aSub (aVar 1) (aVar 8)) (aGName 1))))))
  (aSeq (aAsg (aOp aAdd (aVar 3) (aVar 6)) (aGName 3))
  (aAsg (aVar 7) (aGName 2)))))
  (aRet (aVar 3))))
def s_Going_at : ASp := aBody 9 a_Going_at
def a_how_many : AS' :=
  aRet (aCall aSum (aCons (aLc (aIL (aCall s_goings (aCons (aVar 0) (aNil)))) (aGName 1) (aYes) (aMth "Going" "left" (s_Going_left 8) (aVar 1) (aCons (aC (.int 0)) (aCons (aMth "Going" "begun" s_Going_begun (aVar 1) aNil) (aNil)))) [1]) (aNil)))
def s_how_many : ASp := aBody 2 a_how_many
def a_place : AS' :=
  aSeq (aAsg (aC (.int 0)) (aGName 2))
  (aSeq (aFor (aIL (aCall s_goings (aCons (aVar 0) (aNil)))) (aGName 3)
  (aSeq (aAsg (aCall s_parted (aCons (aFld "Going" "step" (aVar 3)) (aCons (aVar 1) (aNil)))) (aGName 4))
  (aSeq (aIfS (aB (aOp aNotN (aVar 4) (aC .non)))
  (aRet (aOp aAdd (aVar 2) (aMth "Going" "ahead" s_Going_ahead (aVar 3) (aCons (aVar 4) (aNil)))))
  (aNext))
  (aAsg (aOp aAdd (aVar 2) (aMth "Going" "left" (s_Going_left 8) (aVar 3) (aCons (aC (.int 0)) (aCons (aMth "Going" "begun" s_Going_begun (aVar 3) aNil) (aNil))))) (aGName 2)))))
  (aRet (aC .non)))
def s_place : ASp := aBody 5 a_place
def a_try_at (W : AX') : AS' :=
  aSeq (aIfS (aOr (aNot (aTru (aCall s_is_whole (aCons (aVar 1) (aNil))))) (aB (aOp aLt (aVar 1) (aC (.int 0)))))
  (aNoS)
  (aNext))
  (aSeq (aFor (aIL (aCall s_goings (aCons (aVar 0) (aNil)))) (aGName 2)
  (aSeq (aAsg (aMth "Going" "left" (s_Going_left 8) (aVar 2) (aCons (aC (.int 0)) (aCons (aMth "Going" "begun" s_Going_begun (aVar 2) aNil) (aNil)))) (aGName 3))
  (aSeq (aIfS (aB (aOp aLt (aVar 1) (aVar 3)))
  (aRet (aMth "Going" "at" s_Going_at (aVar 2) (aCons (aVar 1) (aNil))))
  (aNext))
  (aAsg (aOp aSub (aVar 1) (aVar 3)) (aGName 1)))))
  (aRaise W "NoNumber"))
def s_try_at : ASpX := aBodyX 4 a_try_at
def a_law_beyond : AS' :=
  aSeq (aAsg (aC .non) (aGName 2))
  (aSeq (aTryA subE (fun W => aDrop (aCallX W s_try_at (aCons (aVar 0) (aCons (aVar 1) (aNil))))) [(["WordError"], 3, aAsg (aVar 3) (aGName 2))] (fun _ _ _ => False))
  (aRet (aIsX isubE ["NoNumber"] (aVar 2))))
def s_law_beyond : ASp := aBody 4 a_law_beyond
def a_law_next_right (W : AX') : AS' :=
  aSeq (aAsg (aCall s_law_fresh (aCons (aVar 0) (aCons (aCall s_law_behind (aCons (aVar 0) (aCons (aVar 3) (aNil)))) (aCons (aC (.int 200)) (aNil))))) (aGName 4))
  (aSeq (aIfS (aB (aOp aEq (aVar 4) (aC (.int 0))))
  (aRet (aC (.bl true)))
  (aNext))
  (aSeq (aIfS (aB (aOp aIsN (aVar 4) (aC .non)))
  (aRet (aOp aEq (aVar 1) (aOp aSub (aVar 2) (aC (.int 1)))))
  (aNext))
  (aRet (aAndV (aOp aLt (aVar 1) (aOp aSub (aVar 2) (aC (.int 1)))) (aOp aEq (aCallX W s_try_at (aCons (aVar 0) (aCons (aOp aAdd (aVar 1) (aC (.int 1))) (aNil)))) (aCall s_law_word (aCons (aVar 0) (aCons (aVar 4) (aNil)))))))))
def s_law_next_right : ASpX := aBodyX 5 a_law_next_right
def a_law_first_right (W : AX') : AS' :=
  aSeq (aAsg (aLc (aIT (aVar 0)) (aGName 4) (aYes) (aCall s_law_size (aCons (aVar 4) (aNil))) [4]) (aGName 2))
  (aSeq (aAsg (aLc (aIE (aCons (aVar 2) (aNil))) (aGTup 2 (aGCons (aGName 5) (aGCons (aGName 6) (aGNil)))) (aB (aOp aGt (aVar 6) (aC (.int 0)))) (aVar 5) [5, 6]) (aGName 3))
  (aSeq (aIfS (aB (aOp (aEqNil false) (aVar 3) (aLst (aNil))))
  (aRet (aOp aEq (aVar 1) (aC (.int 0))))
  (aNext))
  (aSeq (aIfS (aNot (aB (aChain aLe aLe (aCall aMaxL (aCons (aVar 2) (aNil))) (aVar 1) (aCall aSum (aCons (aVar 2) (aNil))))))
  (aRet (aC (.bl false)))
  (aNext))
  (aRet (aOp aEq (aCallX W s_try_at (aCons (aVar 0) (aCons (aC (.int 0)) (aNil)))) (aCall s_law_word (aCons (aVar 0) (aCons (aTup (aCons (aOp aIx (aVar 3) (aC (.int 0))) (aCons (aOp (aRepL false) (aLst (aCons (aC (.int 0)) (aNil))) (aCall aLen (aCons (aOp aIx (aVar 0) (aOp aIx (aVar 3) (aC (.int 0)))) (aNil)))) (aNil)))) (aNil)))))))))
def s_law_first_right : ASpX := aBodyX 7 a_law_first_right
def a_lawW (W : AX') : AS' :=
  aSeq (aFor (aIR1 (aCons (aC (.int 2)) (aNil))) (aGName 1)
  (aSeq (aAsg (aCall s_law_pen (aCons (aVar 0) (aCons (aVar 1) (aNil)))) (aGName 2))
  (aSeq (aAsg (aCall s_law_tongue (aCons (aVar 2) (aCons (aC (.int 4)) (aNil)))) (aGName 3))
  (aSeq (aAsg (aOp aIx (aLst (aCons (aC (.int 5)) (aCons (aC (.int 5)) (aCons (aC (.int 5)) (aCons (aC (.int 12)) (aNil)))))) (aOp aMul (aCall s_law_draw (aCons (aVar 2) (aCons (aC (.int 4)) (aNil)))) (aCall aInt (aCons (aOp aGt (aCall aLen (aCons (aMeth "str" aJoin (aC (.str "")) (aCons (aVar 3) (aNil))) (aNil))) (aC (.int 5))) (aNil))))) (aGName 4))
  (aSeq (aAsg (aCall s_law_plan (aCons (aVar 2) (aCons (aVar 3) (aCons (aC (.int 5)) (aCons (aVar 4) (aCons (aC (.int 3)) (aNil))))))) (aGName 5))
  (aSeq (aAsg (aCall s_how_many (aCons (aVar 5) (aNil))) (aGName 6))
  (aSeq (aIfS (aOr (aNot (aTru (aIsi "int" (aVar 6)))) (aOr (aTru (aIsi "bool" (aVar 6))) (aNot (aTru (aCallX W s_law_first_right (aCons (aVar 5) (aCons (aVar 6) (aNil))))))))
  (aRet (aC (.bl false)))
  (aNext))
  (aSeq (aIfS (aNot (aTru (aCall s_law_beyond (aCons (aVar 5) (aCons (aVar 6) (aNil))))))
  (aRet (aC (.bl false)))
  (aNext))
  (aFor (aIL (aLst (aCons (aCall s_law_draw (aCons (aVar 2) (aCons (aCall aMax2 (aCons (aC (.int 1)) (aCons (aVar 6) (aNil)))) (aNil)))) (aCons (aCall s_law_draw (aCons (aVar 2) (aCons (aCall aMax2 (aCons (aC (.int 1)) (aCons (aVar 6) (aNil)))) (aNil)))) (aCons (aOp aSub (aVar 6) (aC (.int 1))) (aNil)))))) (aGName 7)
  (aIfS (aB (aOp aGt (aVar 6) (aC (.int 0))))
  (aSeq (aAsg (aCallX W s_try_at (aCons (aVar 5) (aCons (aVar 7) (aNil)))) (aGName 8))
  (aSeq (aAsg (aCall s_law_spot (aCons (aVar 5) (aCons (aVar 8) (aNil)))) (aGName 9))
  (aSeq (aIfS (aOr (aB (aOp aIsN (aVar 9) (aC .non))) (aOr (aB (aOp aNe (aCall s_law_word (aCons (aVar 5) (aCons (aVar 9) (aNil)))) (aVar 8))) (aB (aOp aNe (aCall s_place (aCons (aVar 5) (aCons (aVar 8) (aNil)))) (aVar 7)))))
  (aRet (aC (.bl false)))
  (aNext))
  (aIfS (aNot (aTru (aCallX W s_law_next_right (aCons (aVar 5) (aCons (aVar 7) (aCons (aVar 6) (aCons (aVar 9) (aNil))))))))
  (aRet (aC (.bl false)))
  (aNext)))))
  (aNext)))))))))))
  (aRet (aC (.bl true)))
def a_law : AS' := a_lawW (fun _ _ _ => False)
def s_law : ASp := aBody 10 a_law
end A_k47
namespace A_k47
open PySem L2 AL
/-- so many may still be drawn -/
def PenC (k : Nat) (c : Cell) : Prop := ∃ f g h : Int, c = .lst [.int f, .int g, .int h] ∧ 0 ≤ f ∧ 0 ≤ h ∧ h + (k : Int) ≤ 1099511627776
def Pen (k : Nat) (C : AH) (p : Addr) : Prop := ∃ c, C p = some c ∧ PenC k c
theorem pen_put {k : Nat} {C : AH} {p : Addr} {c : Cell} (h : PenC k c) : Pen k (put C p c) p := ⟨c, put_same, h⟩
theorem Pen.less {k n : Nat} {C : AH} {p : Addr} (h : Pen n C p) (hk : k ≤ n := by omega) : Pen k C p := by
  obtain ⟨c, h1, f, g, u, h2, h3, h4, h5⟩ := h
  exact ⟨c, h1, f, g, u, h2, h3, h4, by omega⟩
theorem Pen.other {k : Nat} {C : AH} {p q : Addr} {c : Cell} (h : Pen k C p) (hn : p ≠ q) : Pen k (put C q c) p := by
  obtain ⟨d, h1, h2⟩ := h
  exact ⟨d, put_other hn h1, h2⟩
theorem Pen.otherD {k : Nat} {C : AH} {p q : Addr} (h : Pen k C p) (hn : p ≠ q) : Pen k (del C q) p := by
  obtain ⟨d, h1, h2⟩ := h
  exact ⟨d, del_other hn h1, h2⟩
theorem wide_nat {m : Nat} (h : m < 2 ^ 400) : (m : Int).natAbs.log2 < 9000 := by
  rw [Int.natAbs_natCast]
  by_cases e : m = 0
  · subst e; decide
  · exact Nat.lt_of_lt_of_le ((Nat.log2_lt e).mpr h) (by decide)
theorem draw_ok {n : Nat} {p : Addr} {m : Nat} {C : AH} {P : D → AH → Prop} (hp : Pen (n + 1) C p) (hm : 0 < m) (hm2 : m < 2 ^ 400)
    (k : ∀ c (d : Nat), PenC n c → d < m → P (.int d) (put C p c)) : s_law_draw [.ce p, .int m] C P := by
  have k2 : ∀ c (d : Int), PenC n c → 0 ≤ d → d < m → P (.int d) (put C p c) := by
    intro c d hc h0 h1
    have e : d = ((d.toNat : Nat) : Int) := by omega
    rw [e]
    exact k c d.toNat hc (by omega)
  obtain ⟨_, hC, f, g, u, rfl, hf, hu0, hu⟩ := hp
  unfold s_law_draw a_law_draw
  walk_at "go"
  rw [show [D.int f, D.int g, D.int u].set (Int.toNat 2) (D.int (u + 1)) = [D.int f, D.int g, D.int (u + 1)] from rfl]
  walk_at "go"
  refine g_ifS ?_
  walk_at "go"
  refine g_iteD (fun h => ?_) (fun h => ?_)
  · walk_at "go"
    refine ⟨⟨by omega, wide_nat hm2⟩, ?_⟩
    walk_at "go"
    rw [show [D.int f, D.int g, D.int (u + 1)].set (Int.toNat 0) (D.int (f / (m : Int))) = [D.int (f / (m : Int)), D.int g, D.int (u + 1)] from rfl, put_put]
    exact k2 _ _ ⟨_, _, _, rfl, Int.ediv_nonneg hf (by omega), by omega, by omega⟩ (Int.emod_nonneg _ (by omega)) (Int.emod_lt_of_pos _ (by omega))
  · walk_at "go"
    exact k2 _ _ ⟨_, _, _, rfl, hf, by omega, by omega⟩ (Int.emod_nonneg _ (by omega)) (Int.emod_lt_of_pos _ (by omega))
theorem g_ixR' {ns : List Int} {i : Int} {j : Nat} {C : AH} {P : D → AH → Prop} (e : i = (j : Int)) (hj : j < ns.length) (h : ∀ x, P (.int x) C) : aIx (.scr ns) (.int i) C P := by
  refine g_ixR (d := .int (ns.getD j 0)) ?_ (h _)
  rw [e]
  refine atI_nat' ?_
  rw [List.getElem?_map, List.getElem?_eq_getElem hj]
  simp [List.getD, List.getElem?_eq_getElem hj]
theorem pen_ok {ns : List Int} {j : Nat} {C : AH} {P : D → AH → Prop} (hj : j < 1000) (k : ∀ p c, C p = none → PenC 1000000 c → P (.ce p) (put C p c)) : s_law_pen [.scr ns, .int j] C P := by
  unfold s_law_pen a_law_pen
  walk_at "go"
  refine g_ifJ (fun st C' => ∃ x : Int, st = [some (.scr ns), some (.int j), some (.int x)] ∧ C' = C) (fun N hN => ?_) (fun st C' hw => ?_)
  · refine g_ifS ?_
    walk_at "go"
    refine g_iteD (fun h => ?_) (fun h => ?_)
    · walk_at "go"
      refine g_ixR' (j := j) rfl (by omega) fun x => ?_
      walk_at "go"
      exact hN _ _ ⟨_, rfl, rfl⟩
    · refine g_ifS ?_
      walk_at "go"
      refine g_iteD (fun h => ?_) (fun h => ?_)
      · have hl : 0 < ns.length := by omega
        walk_at "go"
        refine g_ixR' (j := j % ns.length) (by simp) (Nat.mod_lt _ hl) fun x => ?_
        walk_at "go"
        exact hN _ _ ⟨_, rfl, rfl⟩
      · walk_at "go"
        exact hN _ _ ⟨_, rfl, rfl⟩
  · obtain ⟨x, rfl, rfl⟩ := hw
    walk_at "go"
    refine g_ifS ?_
    walk_at "go"
    refine g_iteD (fun h => ?_) (fun h => ?_)
    · walk_at "go"
      intro p hp
      exact k p _ hp ⟨_, _, _, rfl, by omega, by omega, by omega⟩
    · walk_at "go"
      intro p hp
      exact k p _ hp ⟨_, _, _, rfl, by omega, by omega, by omega⟩
end A_k47
namespace A_k47
open PySem L2 AL
structure Tng (tg : List Str) : Prop where
  one : 1 ≤ (Txt.join "" tg).length
  size : (Txt.join "" tg).length ≤ 12
  good : ∀ c ∈ (Txt.join "" tg).cps.toList, 33 ≤ c ∧ c < 128
  nd : (Txt.join "" tg).cps.toList.Nodup
def zs (tg : List Str) : List Nat := (Txt.join "" tg).cps.toList
def intsN (L : List Nat) : List Int := L.map fun (n : Nat) => (n : Int)
theorem nats_ints (L : List Nat) : natsD L = (intsN L).map D.int := by unfold natsD intsN; rw [List.map_map]; rfl
theorem ints_sum (L : List Nat) : (intsN L).sum = (L.sum : Nat) := by
  induction L with
  | nil => rfl
  | cons a L ih => show (a : Int) + (intsN L).sum = _; rw [ih, List.sum_cons]; omega
theorem intsD_ints : ∀ L : List Int, intsD (L.map D.int) = some L
  | [] => rfl
  | a :: L => by
    show (intsD (L.map D.int)).map (a :: ·) = _
    rw [intsD_ints L]
    rfl
section
variable {C : AH} {P : D → AH → Prop}
theorem g_sumX {d : D} {L : List Nat} (h : asLr C d = some (natsD L)) (k : P (.int (L.sum : Nat)) C) : aSum [d] C P := by
  show (match (asLr C d).bind intsD with | some bs => P (.int bs.sum) C | none => False)
  rw [h]
  show (match intsD (natsD L) with | some bs => P (.int bs.sum) C | none => False)
  rw [nats_ints, intsD_ints]
  show P (.int (intsN L).sum) C
  rw [ints_sum]
  exact k
theorem g_maxX {d : D} {L : List Nat} (h : asLr C d = some (natsD L)) (hl : 0 < L.length) (k : ∀ m, m ∈ L → (∀ y ∈ L, y ≤ m) → P (.int (m : Nat)) C) : aMaxL [d] C P := by
  refine ⟨natsD L, intsN L, h, nats_ints L, by unfold intsN; rw [List.length_map]; exact hl, fun m hm hmax => ?_⟩
  obtain ⟨n, hn, rfl⟩ := List.mem_map.mp hm
  refine k n hn fun y hy => ?_
  have := hmax y (List.mem_map.mpr ⟨y, hy, rfl⟩)
  omega
theorem g_idxX {d : D} {L : List Nat} {m : Nat} (h : asLr C d = some (natsD L)) (hm : m ∈ L) (k : ∀ j, L[j]? = some m → P (.int (j : Nat)) C) : aLindex d [.int (m : Nat)] C P := by
  refine ⟨natsD L, intsN L, h, nats_ints L, List.mem_map.mpr ⟨m, hm, rfl⟩, fun j hj => ?_⟩
  unfold intsN at hj
  rw [List.getElem?_map] at hj
  cases e : L[j]? with
  | none => rw [e] at hj; cases hj
  | some n =>
    rw [e] at hj
    have : ((n : Nat) : Int) = (m : Int) := by simpa using hj
    exact k j (by rw [e]; congr 1; omega)
theorem sum_set : ∀ {L : List Nat} {j m x : Nat}, L[j]? = some m → (L.set j x).sum + m = L.sum + x
  | a :: L, 0, m, x, h => by
    simp at h
    subst h
    simp
    omega
  | a :: L, j + 1, m, x, h => by
    have := sum_set (L := L) (j := j) (m := m) (x := x) (by simpa using h)
    simp
    omega
theorem sum_few {b : Nat} : ∀ {L : List Nat}, (∀ x ∈ L, x ≤ b) → L.sum ≤ b * L.length
  | [], _ => by simp
  | a :: L, h => by
    have := sum_few (L := L) fun x hx => h x (List.mem_cons_of_mem _ hx)
    have := h a List.mem_cons_self
    rw [List.sum_cons, List.length_cons, Nat.mul_succ]
    omega
theorem sum_pos : ∀ {L : List Nat}, (∀ x ∈ L, 1 ≤ x) → L.length ≤ L.sum
  | [], _ => by simp
  | a :: L, h => by
    have := sum_pos (L := L) fun x hx => h x (List.mem_cons_of_mem _ hx)
    have := h a List.mem_cons_self
    rw [List.sum_cons, List.length_cons]
    omega
def lets : Str := "!\"#$&'()*+,-./0123456789:;<=>?\x40ABCDEFGHIJKLMNOPQRSTUVWXYZ[\\]^_`abcdefghijklmnopqrstuvwxyz{|}~"
theorem lets_ok : (decide (lets.length = 93) && lets.cps.toList.all fun c => decide (33 ≤ c) && decide (c < 128)) = true := by decide +kernel
theorem lets_nd : lets.cps.toList.Nodup := by decide +kernel
def Good (z : Str) : Prop := ∀ c ∈ z.cps.toList, 33 ≤ c ∧ c < 128
theorem app_toList (a b : Str) : (a ++ b).cps.toList = a.cps.toList ++ b.cps.toList := TL.tl_append a b
theorem app_len (a b : Str) : (a ++ b).length = a.length + b.length := by rw [← AL.len_toList, app_toList, List.length_append, AL.len_toList, AL.len_toList]
theorem Good.app {a b : Str} (h : Good a) (g : Good b) : Good (a ++ b) := fun c hc => by
  rw [app_toList] at hc
  rcases List.mem_append.mp hc with q | q
  · exact h c q
  · exact g c q
theorem cutS_l (x : Str) (lo hi : Option Int) : (cutS x lo hi).cps.toList = (x.cps.toList.drop (HT.sIx x.length 0 lo)).take (HT.sIx x.length x.length hi - HT.sIx x.length 0 lo) := rfl
theorem Good.cut {a : Str} {lo hi : Option Int} (h : Good a) : Good (cutS a lo hi) := fun c hc => by
  rw [cutS_l] at hc
  exact h c (List.mem_of_mem_drop (List.mem_of_mem_take hc))
theorem cutS_take (x : Str) (j : Nat) : (cutS x none (some (j : Int))).cps.toList = x.cps.toList.take j := by
  rw [cutS_l, HT.sIx_nat]
  rw [show HT.sIx x.length 0 none = 0 from rfl, List.drop_zero, Nat.sub_zero, ← AL.len_toList]
  by_cases h : j ≤ x.cps.toList.length
  · rw [Nat.min_eq_left h]
  · rw [Nat.min_eq_right (by omega), List.take_of_length_le (Nat.le_refl _), List.take_of_length_le (by omega)]
theorem cutS_drop (x : Str) (j : Nat) : (cutS x (some (j : Int)) none).cps.toList = x.cps.toList.drop j := by
  rw [cutS_l, HT.sIx_nat]
  rw [show HT.sIx x.length x.length none = x.length from rfl, ← AL.len_toList]
  by_cases h : j ≤ x.cps.toList.length
  · rw [Nat.min_eq_left h, List.take_of_length_le (by rw [List.length_drop]; omega)]
  · rw [Nat.min_eq_right (by omega), List.drop_eq_nil_of_le (Nat.le_refl _), List.drop_eq_nil_of_le (show x.cps.toList.length ≤ j by omega)]
    simp
def cs (z : Str) : List Nat := z.cps.toList
def oneS (c : Nat) : Str := ⟨#[c]⟩
theorem g_ixO {z : Str} {i : Nat} (hl : z.length ≤ 10000) (hi : i < z.length) (k : ∀ c, c ∈ z.cps.toList → P (.str (oneS c)) C) : aIx (.str z) (.int (i : Int)) C P := by
  have hi' : i < z.cps.toList.length := by rw [AL.len_toList]; exact hi
  show z.length ≤ sizeLine ∧ (match atI z.cps.toList (i : Int) with | some c => P (.str ⟨#[c]⟩) C | none => False)
  refine ⟨by simp only [sizeLine]; omega, ?_⟩
  rw [atI_nat' (List.getElem?_eq_getElem hi')]
  exact k _ (List.getElem_mem hi')
theorem g_ixO2 {z : Str} {i : Nat} (hl : z.length ≤ 10000) (hi : i < z.length) (k : ∀ c, c ∈ z.cps.toList → z.cps.toList[i]? = some c → P (.str (oneS c)) C) : aIx (.str z) (.int (i : Int)) C P := by
  have hi' : i < z.cps.toList.length := by rw [AL.len_toList]; exact hi
  show z.length ≤ sizeLine ∧ (match atI z.cps.toList (i : Int) with | some c => P (.str ⟨#[c]⟩) C | none => False)
  refine ⟨by simp only [sizeLine]; omega, ?_⟩
  rw [atI_nat' (List.getElem?_eq_getElem hi')]
  exact k _ (List.getElem_mem hi') (List.getElem?_eq_getElem hi')
theorem g_cutSt {x : Str} {lo hi : Option Int} (hl : x.length ≤ 10000) (k : P (.str (cutS x lo hi)) C) : aCut (.str x) lo hi C P := ⟨by simp only [sizeLine]; omega, k⟩
structure Szs (L : List Nat) : Prop where
  one : 1 ≤ L.length
  few : L.length ≤ 4
  pos : ∀ x ∈ L, 1 ≤ x
  six : ∀ x ∈ L, x ≤ 6
theorem lets_eq : ("!\"#$&'()*+,-./0123456789:;<=>?\x40ABCDEFGHIJKLMNOPQRSTUVWXYZ[\\]^_`abcdefghijklmnopqrstuvwxyz{|}~" : Str) = lets := rfl
theorem sized_ok {n m : Nat} {p : Addr} (hp : Pen (n + 30) C p) (hm1 : 1 ≤ m) (hm3 : m ≤ 5) (k : ∀ tg C', Tng tg → Pen n C' p → Oth p C C' → P (.tup (strsL tg)) C') : s_law_tongue [.ce p, .int m] C P := by
  unfold s_law_tongue a_law_tongue
  rw [lets_eq]
  have hlk := lets_ok
  have hln := lets_nd
  obtain ⟨lets0, hl0⟩ : ∃ l, l = lets := ⟨_, rfl⟩
  rw [← hl0] at hlk hln ⊢
  clear hl0
  walk_at "go"
  refine draw_ok (n := n + 29) (m := 4) hp (by omega) (by omega) fun c d hc hd => ?_
  have hP := pen_put (C := C) (p := p) hc
  have hO := (Oth.refl p C).pen (c := c)
  generalize put C p c = C1 at hP hO ⊢
  have e1 : (1 : Int) + (d : Int) = ((d + 1 : Nat) : Int) := by omega
  walk_at "go"
  rw [e1]
  generalize ham : d + 1 = am
  have ham4 : 1 ≤ am ∧ am ≤ 4 := by omega
  have hrl : (rangeD 0 (am : Int).toNat).length = am := by rw [rangeD_len]; rfl
  refine g_kLc (fun i acc C9 => ∃ L : List Nat, L.length = i ∧ acc = natsD L ∧ (∀ x ∈ L, 1 ≤ x ∧ x ≤ m) ∧ Pen (n + 25 + (4 - i)) C9 p ∧ Oth p C C9) (by rw [hrl]; simp only [sizeLine]; omega) ⟨[], rfl, rfl, by simp, hP, hO⟩ (fun i d acc C9 hi hw => ?_) (fun acc C9 hw => ?_)
  · have hi2 : i < am := by have := (List.getElem?_eq_some_iff.mp hi).1; rw [hrl] at this; exact this
    obtain ⟨L, hL, rfl, hx, hP9, hO9⟩ := hw
    walk_at "go"
    refine draw_ok (n := n + 25 + (4 - (i + 1))) (m := m) (hP9.less (k := n + 25 + (4 - (i + 1)) + 1)) (by omega) (by omega) fun c u hc hu => ?_
    walk_at "go"
    refine ⟨L ++ [u + 1], by simp [hL], ?_, fun x hx' => ?_, pen_put hc, hO9.pen⟩
    · unfold natsD
      rw [List.map_append, show (1 : Int) + (u : Int) = ((u + 1 : Nat) : Int) by omega]
      rfl
    · rcases List.mem_append.mp hx' with h | h
      · exact hx x h
      · rw [List.mem_singleton.mp h]; omega
  obtain ⟨L, hL, rfl, hx, hP9, hO9⟩ := hw
  rw [hrl] at hL
  intro g hg
  have hpg : p ≠ g := by obtain ⟨_, h, _⟩ := hP9; exact ne_cell h hg
  have hg0 : C g = none := hO9.none hpg.symm hg
  have hP2 := (hP9.less (k := n + 25)).other (c := .lst (natsD L)) hpg
  have hO2 := hO9.put (c := .lst (natsD L)) hg0
  have hCg : (put C9 g (.lst (natsD L))) g = some (.lst (natsD L)) := put_same
  generalize put C9 g (.lst (natsD L)) = C2 at hP2 hO2 hCg ⊢
  have hS : Szs L := ⟨by omega, by omega, fun x h => (hx x h).1, fun x h => Nat.le_trans (hx x h).2 (by omega)⟩
  walk_at "go"
  refine g_ifF (fun K hK => ?_) ?_
  · walk_at "go"
    rw [decide_eq_false (show ¬ (m : Int) = 6 by omega)]
    walk_at "go"
    exact hK
  walk_at "go"
  refine g_while (fun y st C' => ∃ L : List Nat, L.sum = y ∧ Szs L ∧ C' g = some (.lst (natsD L)) ∧ Pen (n + 25) C' p ∧ Oth p C C' ∧ st = [some (.ce p), some (.int (m : Nat)), some (.str lets0), some (.int am), none, some (.ce g), none, none, none, none]) L.sum ⟨L, rfl, hS, hCg, hP2, hO2, rfl⟩ (fun y st C' hw => ?_)
  clear hS hCg hP2 hO2 hx hL hP9 hO9
  obtain ⟨L, rfl, hS, hCg, hP2, hO2, rfl⟩ := hw
  have hN : asLr C' (.ce g) = some (natsD L) := by simp only [asLr, asL, hCg]
  walk_at "go"
  refine g_sumX hN ?_
  walk_at "go"
  refine g_iteD (fun h => ?_) (fun h => ?_)
  · have hgt : 12 < L.sum := by omega
    have h1 := hS.one
    walk_at "go"
    refine g_maxX hN (by omega) fun m1 hm hmax => ?_
    walk_at "go"
    refine g_maxX hN (by omega) fun m2 hm2 hmax2 => ?_
    walk_at "go"
    have e : m2 = m1 := Nat.le_antisymm (hmax _ hm2) (hmax2 _ hm)
    subst e
    refine g_idxX hN hm fun j hj => ?_
    have hjl := (List.getElem?_eq_some_iff.mp hj).1
    refine g_kSet (k := j) (us := natsD L) hCg ?_ ?_
    · rw [natsD_len]
      unfold ixN
      have := hS.few
      rw [if_pos (by omega), if_pos (by omega)]
      rfl
    have hm4 : 4 ≤ m2 := by
      rcases Nat.lt_or_ge m2 4 with q | q
      · have := sum_few (b := 3) (L := L) fun x hx => by have := hmax x hx; omega
        have := hS.few
        have : 3 * L.length ≤ 3 * 4 := Nat.mul_le_mul_left _ hS.few
        omega
      · exact q
    have hsum := sum_set (x := m2 - 1) hj
    have hset : (natsD L).set j (.int ((m2 : Int) - 1)) = natsD (L.set j (m2 - 1)) := by
      unfold natsD
      rw [List.map_set, show (m2 : Int) - 1 = ((m2 - 1 : Nat) : Int) by omega]
    rw [hset]
    have hm6 := hS.six _ hm
    refine ⟨(L.set j (m2 - 1)).sum, by omega, L.set j (m2 - 1), rfl, ⟨by rw [List.length_set]; exact h1, by rw [List.length_set]; exact hS.few, fun y hy => ?_, fun y hy => ?_⟩, put_same, hP2.other hpg, hO2.put hg0, rfl⟩
    · rcases List.mem_or_eq_of_mem_set hy with q | q
      · exact hS.pos y q
      · omega
    · rcases List.mem_or_eq_of_mem_set hy with q | q
      · exact hS.six y q
      · omega
  have hle : L.sum ≤ 12 := by omega
  walk_at "go"
  have hpos := hS.pos
  have h1 := hS.one
  have hfew := hS.few
  have hsp := sum_pos hpos
  have hP5 := hP2.otherD hpg |>.less (k := n + 20)
  have hO5 := hO2.del (q := g) hg0
  generalize del C' g = C5 at hP5 hO5
  walk_at "go"
  intro g2 hg2
  have hpg2 : p ≠ g2 := by obtain ⟨_, h, _⟩ := hP5; exact ne_cell h hg2
  have hg20 : C g2 = none := hO5.none hpg2.symm hg2
  walk_at "go"
  refine g_kForL (fun i st C' => ∃ (ys : List Str) (z : Str) (x4 x7 x8 x9 : Option D), ys.length = i ∧ (ys.map (·.length)).sum = (L.take i).sum ∧ (∀ y ∈ ys, Good y) ∧ Good z ∧ ((ys.map cs).flatten ++ cs z).Nodup ∧ z.length + (L.take i).sum = 93 ∧ C' g2 = some (.lst (strsL ys)) ∧ Pen (n + 20 - (L.take i).sum) C' p ∧ Oth p C C' ∧ st = [some (.ce p), some (.int (m : Nat)), some (.str z), some (.int am), x4, some (.lst (natsD L)), some (.ce g2), x7, x8, x9]) ?_ (fun i d st C' hi hw => ?_) (fun st C' hw => ?_)
  · simp only [Bool.and_eq_true, decide_eq_true_eq, List.all_eq_true] at hlk
    exact ⟨[], lets0, none, none, none, none, rfl, rfl, by simp, fun c hc => hlk.2 c hc, hln, by simp [hlk.1], put_same, hP5.other hpg2, hO5.put hg20, rfl⟩
  · obtain ⟨ys, z, x4, x7, x8, x9, hyl, hys, hyg, hzg, hnd, hzl, hCg2, hP6, hO6, rfl⟩ := hw
    obtain ⟨hil, rfl⟩ := natsD_get hi
    have e : L[i]? = some L[i] := List.getElem?_eq_getElem hil
    have hs6 := hS.six _ (List.getElem_mem hil)
    generalize L[i] = sz at e hs6
    have htk : (L.take (i + 1)).sum = (L.take i).sum + sz := by rw [List.take_add_one, e, List.sum_append]; simp
    have htl : (L.take (i + 1)).sum ≤ L.sum := by
      have := congrArg List.sum (List.take_append_drop (i + 1) L)
      rw [List.sum_append] at this
      omega
    walk_at "go"
    refine g_kForR0 (fun j st C7 => ∃ (w z : Str) (x4 x9 : Option D), w.length = j ∧ Good w ∧ Good z ∧ ((ys.map cs).flatten ++ (cs w ++ cs z)).Nodup ∧ z.length + ((L.take i).sum + j) = 93 ∧ C7 g2 = some (.lst (strsL ys)) ∧ Pen (n + 20 - ((L.take i).sum + j)) C7 p ∧ Oth p C C7 ∧ st = [some (.ce p), some (.int (m : Nat)), some (.str z), some (.int am), x4, some (.lst (natsD L)), some (.ce g2), some (.int sz), some (.str w), x9]) ?_ (fun j st C7 hj hw => ?_) (fun st C7 hw => ?_)
    · exact ⟨"", z, x4, x9, by decide +kernel, fun c hc => by revert hc; rw [show ("" : Str).cps.toList = [] by decide +kernel]; simp, hzg, by rw [show cs ("" : Str) = [] from by decide +kernel]; exact hnd, by omega, hCg2, hP6, hO6, rfl⟩
    · obtain ⟨w, z, x4, x9, hwl, hwg, hzg, hnd, hzl, hCg2, hP7, hO7, rfl⟩ := hw
      have hj2 : j < sz := hj
      walk_at "go"
      refine g_lenS (by simp only [sizeLine]; omega) ?_
      walk_at "go"
      refine draw_ok (n := n + 20 - ((L.take i).sum + (j + 1))) (hP7.less) (by omega) (by omega) fun c u hc hu => ?_
      have hP8 := pen_put (C := C7) (p := p) hc
      have hO8 := hO7.pen (c := c)
      have hCg8 := put_other (d := c) hpg2.symm hCg2
      generalize put C7 p c = C8 at hP8 hO8 hCg8 ⊢
      walk_at "go"
      refine g_ixO2 (by omega) hu fun a ha hau => ?_
      refine g_addS (by rw [show (oneS a).length = 1 from rfl]; simp only [sizeLine]; omega) ?_
      walk_at "go"
      refine g_cutSt (by omega) ?_
      walk_at "go"
      rw [show (u : Int) + 1 = ((u + 1 : Nat) : Int) by omega]
      refine g_cutSt (by omega) ?_
      have l1 : (cutS z none (some (u : Int))).length = u := by rw [← AL.len_toList, cutS_take, List.length_take, AL.len_toList]; omega
      have l2 : (cutS z (some ((u + 1 : Nat) : Int)) none).length = z.length - (u + 1) := by rw [← AL.len_toList, cutS_drop, List.length_drop, AL.len_toList]
      refine g_addS (by rw [l1, l2]; simp only [sizeLine]; omega) ?_
      walk_at "go"
      refine ⟨w ++ oneS a, _, _, _, by rw [app_len, hwl]; rfl, hwg.app (fun c hc => by rw [show c = a by simpa [oneS] using hc]; exact hzg a ha), (hzg.cut).app (hzg.cut), ?_, by rw [app_len, l1, l2]; omega, hCg8, hP8, hO8, rfl⟩
      refine (List.Perm.nodup_iff (List.Perm.append_left _ ?_)).mp hnd
      have hz : cs z = (cs z).take u ++ (a :: (cs z).drop (u + 1)) := by
        obtain ⟨h1, h2⟩ := List.getElem?_eq_some_iff.mp (show (cs z)[u]? = some a from hau)
        have := (List.take_append_drop u (cs z)).symm
        rw [List.drop_eq_getElem_cons h1, h2] at this
        exact this
      have e1 : cs (w ++ oneS a) = cs w ++ [a] := app_toList _ _
      have e2 : cs (cutS z none (some (u : Int)) ++ cutS z (some ((u + 1 : Nat) : Int)) none) = (cs z).take u ++ (cs z).drop (u + 1) := by
        show (_ : Str).cps.toList = _
        rw [app_toList, cutS_take, cutS_drop]
        rfl
      rw [e1, e2, List.append_assoc]
      refine List.Perm.append_left _ ?_
      refine (List.Perm.of_eq hz).trans ?_
      exact List.perm_middle
    · obtain ⟨w, z, x4, x9, hwl, hwg, hzg, hnd, hzl, hCg2, hP7, hO7, rfl⟩ := hw
      have hwl2 : w.length = sz := hwl
      have hsz : ((sz : Nat) : Int).toNat = sz := by omega
      rw [hsz] at hzl hP7
      walk_at "go"
      refine g_append hCg2 (by rw [List.length_map]; simp only [sizeLine]; have := List.length_take_le i L; omega) ?_
      walk_at "go"
      refine ⟨ys ++ [w], z, _, _, _, _, by simp [hyl], by rw [List.map_append, List.sum_append, hys, htk]; simp only [List.map_cons, List.map_nil, List.sum_cons, List.sum_nil]; omega, fun y hy => ?_, hzg, by rw [List.map_append, List.flatten_append]; simpa [List.append_assoc] using hnd, by omega, by rw [put_same]; simp [strsL], (by rw [htk]; exact hP7.other hpg2), hO7.put hg20, rfl⟩
      rcases List.mem_append.mp hy with q | q
      · exact hyg y q
      · rw [List.mem_singleton.mp q]; exact hwg
  · obtain ⟨ys, z, x4, x7, x8, x9, hyl, hys, hyg, hzg, hnd, hzl, hCg2, hP6, hO6, rfl⟩ := hw
    rw [natsD_len, List.take_length] at hys hP6
    walk_at "go"
    refine k ys _ ⟨by rw [join_len, hys]; omega, by rw [join_len, hys]; exact hle, fun c hc => by
      rw [join_toList] at hc
      obtain ⟨l, hl, hc⟩ := List.mem_flatten.mp hc
      obtain ⟨y, hy, rfl⟩ := List.mem_map.mp hl
      exact hyg y hy c hc, by
      rw [join_toList]
      exact (List.nodup_append.mp hnd).1⟩ ((hP6.otherD hpg2).less) (hO6.del hg20)
end
end A_k47
namespace A_k47
open PySem L2 AL
/-- a begins with b -/
def bg (a b : Str) : Bool := decide (a.cps.toList.take b.length = b.cps.toList)
structure Wrd (zs : List Nat) (w : Str) : Prop where
  one : 1 ≤ w.length
  six : w.length ≤ 6
  inn : ∀ c ∈ w.cps.toList, c ∈ zs
structure Prt (zs : List Nat) (free : Bool) (ws : List Str) : Prop where
  few : ws.length ≤ 12
  ok : ∀ w ∈ ws, Wrd zs w
  unl : ws.Nodup
  apart : free = false → ws.Pairwise fun a b => bg a b = false ∧ bg b a = false
def partD (ws : List Str) : D := .tup (strsL ws)
structure Stp (zs : List Nat) (s : List (List Str)) : Prop where
  one : 1 ≤ s.length
  few : s.length ≤ 5
  ok : ∀ (i : Nat) ws, s[i]? = some ws → Prt zs (decide (i + 1 = s.length)) ws
def stepD (s : List (List Str)) : D := .tup (s.map partD)
def planD (ps : List (List (List Str))) : D := .tup (ps.map stepD)
section
variable {C : AH} {P : D → AH → Prop} {tg : List Str}
theorem joinT_ok (ht : Tng tg) (k : P (.str (Txt.join "" tg)) C) : aJoin (.str "") [.tup (strsL tg)] C P :=
  g_joinET (by have := ht.size; rw [join_len] at this; omega) k
theorem text_ok {n : Nat} {p : Addr} {m : Nat} (ht : Tng tg) (hm1 : 1 ≤ m) (hm : m ≤ 6) (hp : Pen (n + 10) C p) (k : ∀ w C', 1 ≤ w.length → w.length ≤ m → (∀ c ∈ w.cps.toList, c ∈ zs tg) → Pen n C' p → Oth p C C' → P (.str w) C') : s_law_text [.ce p, .tup (strsL tg), .int m] C P := by
  have h12 := ht.size
  have h1 := ht.one
  unfold s_law_text a_law_text
  walk_at "go"
  refine joinT_ok ht ?_
  walk_at "go"
  refine g_lenS (by simp only [sizeLine]; omega) ?_
  walk_at "go"
  refine draw_ok (n := n + 9) hp h1 (by omega) fun c u hc hu => ?_
  walk_at "go"
  refine g_ixO (by omega) hu fun a ha => ?_
  walk_at "go"
  refine draw_ok (n := n + 8) (m := 3) (pen_put hc) (by omega) (by omega) fun c al hc hal => ?_
  rw [put_put]
  walk_at "go"
  refine draw_ok (n := n + 7) (pen_put hc) (by omega) (by omega) fun c t hc ht2 => ?_
  rw [put_put]
  have hP := pen_put (C := C) (p := p) hc
  have hO := (Oth.refl p C).pen (c := c)
  generalize put C p c = C1 at hP hO ⊢
  walk_at "go"
  generalize hbl : decide ((al : Int) = 0) = like
  refine g_kForR0 (fun i st C' => ∃ (w : Str) (x6 x7 : Option D), w.length = i + 1 ∧ (∀ c ∈ w.cps.toList, c ∈ zs tg) ∧ Pen (n + (7 - i)) C' p ∧ Oth p C C' ∧ st = [some (.ce p), some (.tup (strsL tg)), some (.int m), some (.str (Txt.join "" tg)), some (.str w), some (.bl like), x6, x7]) ?_ (fun i st C' hi hw => ?_) (fun st C' hw => ?_)
  · exact ⟨oneS a, none, none, rfl, fun c hc => by rw [show c = a by simpa [oneS] using hc]; exact ha, hP, hO, rfl⟩
  · obtain ⟨w, x6, x7, hwl, hwz, hP2, hO2, rfl⟩ := hw
    have hi2 : i < t := hi
    walk_at "go"
    refine g_lenS (by simp only [sizeLine]; omega) ?_
    walk_at "go"
    refine draw_ok (n := n + (7 - (i + 1))) hP2.less h1 (by omega) fun c u hc hu => ?_
    walk_at "go"
    refine g_ixO (by omega) hu fun b hb => ?_
    walk_at "go"
    refine g_ifJ (fun st C3 => ∃ e, e ∈ zs tg ∧ C3 = put C' p c ∧ st = [some (.ce p), some (.tup (strsL tg)), some (.int m), some (.str (Txt.join "" tg)), some (.str w), some (.bl like), some (.int i), some (.str (oneS e))]) (fun N hN => ?_) (fun st C3 hw => ?_)
    · refine g_ifS ?_
      walk_at "go"
      refine g_ite (fun h => ?_) (fun h => ?_)
      · walk_at "go"
        refine g_ixO (i := 0) (by omega) (by omega) fun e he => ?_
        walk_at "go"
        exact hN _ _ ⟨e, hwz e he, rfl, rfl⟩
      · walk_at "go"
        exact hN _ _ ⟨b, hb, rfl, rfl⟩
    obtain ⟨e, he, rfl, rfl⟩ := hw
    walk_at "go"
    refine g_addS (by rw [show (oneS e).length = 1 from rfl]; simp only [sizeLine]; omega) ?_
    walk_at "go"
    refine ⟨w ++ oneS e, _, _, by rw [app_len, hwl]; rfl, fun c hc => ?_, pen_put hc, hO2.pen, rfl⟩
    rw [app_toList] at hc
    rcases List.mem_append.mp hc with q | q
    · exact hwz c q
    · rw [show c = e by simpa [oneS] using q]; exact he
  · obtain ⟨w, x6, x7, hwl, hwz, hP2, hO2, rfl⟩ := hw
    have hwl2 : w.length = t + 1 := hwl
    walk_at "go"
    exact k w _ (by omega) (by omega) hwz hP2.less hO2
theorem g_kLcFilterH {t : AT'} {e : AE'} {s : ASt} {vs : List Nat} {fin : List D → AH → Prop} {hold : AH → Prop} {items : List D} {j : Nat} (p : D → Bool) (f : D → D) (hh : hold C) (hl : items.length ≤ sizeLine) (ht : ∀ d, d ∈ items → ∀ R : Bool → AH → Prop, R (p d) C → t ((wipeA s vs).set j (some d)) C R) (hs : ∀ d, d ∈ items → p d = true → ∀ R : D → AH → Prop, R (f d) C → e ((wipeA s vs).set j (some d)) C R) (hd : fin ((items.filter p).map f) C) : kLc (aGName j) t e vs fin s items hold C := by
  refine ⟨hl, fun i acc C' => acc = ((items.take i).filter p).map f ∧ C' = C, ⟨rfl, rfl⟩, fun i acc C' _ hw => by rw [hw.2]; exact hh, fun i d acc C' hi hw => ?_, fun acc C' hw => ?_⟩
  · obtain ⟨rfl, rfl⟩ := hw
    refine ht d (List.mem_of_getElem? hi) _ ?_
    dsimp only
    rw [List.take_add_one, hi, List.filter_append, List.map_append]
    by_cases hp : p d = true
    · rw [if_pos hp]
      refine hs d (List.mem_of_getElem? hi) hp _ ⟨?_, rfl⟩
      simp [hp]
    · rw [if_neg hp]
      refine ⟨?_, rfl⟩
      simp [hp]
  · obtain ⟨rfl, rfl⟩ := hw
    rw [List.take_length]
    exact hd
theorem toVs_strs : ∀ ys : List Str, toVs (strsL ys) = some (ys.map V.str)
  | [] => rfl
  | y :: ys => by
    show (match toV (.str y), toVs (strsL ys) with | some v, some vs => some (v :: vs) | _, _ => none) = _
    rw [toVs_strs ys]
    rfl
theorem beq_swap (a w : Str) : (a == w) = decide (w = a) := by
  by_cases h : w = a
  · subst h; simp
  · rw [decide_eq_false h]
    exact beq_eq_false_iff_ne.mpr (Ne.symm h)
theorem inV_strs (w : Str) : ∀ ys : List Str, inV (.str w) (ys.map V.str) = decide (w ∈ ys)
  | [] => rfl
  | y :: ys => by
    have : inV (.str w) ((y :: ys).map V.str) = (eqV (.str y) (.str w) || inV (.str w) (ys.map V.str)) := rfl
    rw [this, inV_strs w ys, show eqV (.str y) (.str w) = (y == w) from rfl, beq_swap]
    simp [Bool.decide_or]
theorem g_ninC {q : Addr} {w : Str} {ws : List Str} (hq : C q = some (.lst (strsL ws))) (h : P (.bl (!decide (w ∈ ws))) C) : aNinL (.str w) (.ce q) C P := by
  show (match toV (.str w), (match C q with | some (.lst us) => some us | _ => none).bind toVs with | some u, some us => P (.bl (if true then !inV u us else inV u us)) C | _, _ => False)
  rw [hq]
  show (match toV (.str w), toVs (strsL ws) with | some u, some us => P (.bl (if true then !inV u us else inV u us)) C | _, _ => False)
  rw [toVs_strs]
  show P (.bl (!inV (.str w) (ws.map V.str))) C
  rw [inV_strs]
  exact h
theorem g_inT {w : Str} {ws : List Str} (h : P (.bl (decide (w ∈ ws))) C) : aInL (.str w) (.tup (strsL ws)) C P := by
  show (match toV (.str w), toVs (strsL ws) with | some u, some us => P (.bl (if false then !inV u us else inV u us)) C | _, _ => False)
  rw [toVs_strs]
  show P (.bl (inV (.str w) (ws.map V.str))) C
  rw [inV_strs]
  exact h
theorem fil_strs (w : Str) (ws : List Str) : (((strsL ws).filter fun d => match d with | .str x => bg x w || bg w x | _ => false).map id) = strsL (ws.filter fun x => bg x w || bg w x) := by
  rw [List.map_id]
  unfold strsL
  rw [List.filter_map]
  rfl
theorem bg_self (w : Str) : bg w w = true := by
  unfold bg
  rw [← AL.len_toList, List.take_length]
  simp
theorem part_ok {n : Nat} {p : Addr} {most size : Nat} {free : Bool} (ht : Tng tg) (hs1 : 1 ≤ size) (hs : size ≤ 6) (hm : most ≤ 12) (hp : Pen (n + 120) C p) (k : ∀ ws C', Prt (zs tg) free ws → ws.length ≤ most → Pen n C' p → Oth p C C' → P (partD ws) C') : s_law_part [.ce p, .tup (strsL tg), .int most, .int size, .bl free] C P := by
  unfold s_law_part a_law_part
  walk_at "go"
  intro q hq
  have hpq : p ≠ q := by obtain ⟨_, h, _⟩ := hp; exact ne_cell h hq
  have hP := hp.other (c := .lst []) hpq
  have hCq : (put C q (.lst [])) q = some (.lst (strsL [])) := put_same
  have hO1 := (Oth.refl p C).put (c := .lst []) hq
  generalize put C q (.lst []) = C1 at hP hCq hO1 ⊢
  walk_at "go"
  refine g_kForR0 (fun i st C' => ∃ (ws : List Str) (x6 x7 x8 : Option D), ws.length ≤ i ∧ Prt (zs tg) free ws ∧ C' q = some (.lst (strsL ws)) ∧ Pen (n + 10 * (12 - i)) C' p ∧ Oth p C C' ∧ st = [some (.ce p), some (.tup (strsL tg)), some (.int most), some (.int size), some (.bl free), some (.ce q), x6, x7, x8, none]) ?_ (fun i st C' hi hw => ?_) (fun st C' hw => ?_)
  · exact ⟨[], none, none, none, by simp, ⟨by simp, by simp, by simp, by simp⟩, hCq, hP, hO1, rfl⟩
  · obtain ⟨ws, x6, x7, x8, hwl, hws, hCq, hP2, hO2, rfl⟩ := hw
    have hi2 : i < most := hi
    walk_at "go"
    refine text_ok (n := n + 10 * (12 - (i + 1))) ht hs1 hs (hP2.less) fun w C3 hw1 hw2 hwz hP3 hO3 => ?_
    have hW : Wrd (zs tg) w := ⟨hw1, by omega, hwz⟩
    have hCq3 := hO3 _ _ hpq.symm hCq
    have hO4 := hO2.trans hO3
    walk_at "go"
    refine g_ninC hCq3 ?_
    walk_at "go"
    have fin : ∀ (good : Bool), (good = true → w ∉ ws) → (good = true → free = false → ∀ a ∈ ws, bg a w = false ∧ bg w a = false) → 
        aIfS (aTru (aVar 8)) (aDrop (aMeth "list" aAppend (aVar 5) (aCons (aVar 7) (aNil)))) (aNext) ⟨fun st C' => ∃ (ws : List Str) (x6 x7 x8 : Option D), ws.length ≤ i + 1 ∧ Prt (zs tg) free ws ∧ C' q = some (.lst (strsL ws)) ∧ Pen (n + 10 * (12 - (i + 1))) C' p ∧ Oth p C C' ∧ st = [some (.ce p), some (.tup (strsL tg)), some (.int most), some (.int size), some (.bl free), some (.ce q), x6, x7, x8, none], P, fun _ _ => False, fun _ _ => False⟩ [some (.ce p), some (.tup (strsL tg)), some (.int most), some (.int size), some (.bl free), some (.ce q), some (.int i), some (.str w), some (.bl good), none] C3 := by
      intro good h1 h2
      refine g_ifS ?_
      walk_at "go"
      refine g_ite (fun hg => ?_) (fun hg => ?_)
      · walk_at "go"
        refine g_append hCq3 (by rw [List.length_map]; simp only [sizeLine]; omega) ?_
        walk_at "go"
        refine ⟨ws ++ [w], _, _, _, by rw [List.length_append, List.length_singleton]; omega, ⟨by rw [List.length_append, List.length_singleton]; omega, fun a ha => ?_, ?_, fun e => ?_⟩, by rw [put_same]; simp [strsL], hP3.other hpq, hO4.put hq, rfl⟩
        · rcases List.mem_append.mp ha with h | h
          · exact hws.ok a h
          · rw [List.mem_singleton.mp h]; exact hW
        · refine List.nodup_append.mpr ⟨hws.unl, by simp, fun a ha b hb e => ?_⟩
          rw [List.mem_singleton.mp hb] at e
          subst e
          exact h1 hg ha
        · refine List.pairwise_append.mpr ⟨hws.apart e, by simp, fun a ha b hb => ?_⟩
          rw [List.mem_singleton.mp hb]
          exact h2 hg e a ha
      · walk_at "go"
        exact ⟨ws, _, _, _, by omega, hws, hCq3, hP3, hO4, rfl⟩
    refine g_ifJ (fun st C5 => ∃ good : Bool, (good = true → w ∉ ws) ∧ (good = true → free = false → ∀ a ∈ ws, bg a w = false ∧ bg w a = false) ∧ C5 = C3 ∧ st = [some (.ce p), some (.tup (strsL tg)), some (.int most), some (.int size), some (.bl free), some (.ce q), some (.int i), some (.str w), some (.bl good), none]) (fun N hN => ?_) (fun st C5 hw => ?_)
    · refine g_ifS ?_
      walk_at "go"
      refine g_ite (fun hf => ?_) (fun hf => ?_)
      · walk_at "go"
        refine g_kILc hCq3 ?_ (fun h1 h2 m h => kLc_mono m h)
        refine g_kLcFilterH (fun d => match d with | .str x => bg x w || bg w x | _ => false) id hCq3 (by rw [List.length_map]; have := hws.few; simp only [sizeLine]; omega) (fun d hd R hR => ?_) (fun d hd hp R hR => ?_) ?_
        · obtain ⟨x, hx, rfl⟩ := List.mem_map.mp hd
          have hR : R (bg x w || bg w x) C3 := hR
          walk_at "go"
          refine g_starts ?_
          walk_at "go"
          refine g_ite (fun h => ?_) (fun h => ?_)
          · rw [show bg x w = true from h, Bool.true_or] at hR
            exact hR
          · rw [show bg x w = false from h, Bool.false_or] at hR
            walk_at "go"
            refine g_starts ?_
            walk_at "go"
            exact hR
        · obtain ⟨x, hx, rfl⟩ := List.mem_map.mp hd
          walk_at "go"
          exact hR
        rw [fil_strs]
        walk_at "go"
        have hall : (strsL (ws.filter fun x => bg x w || bg w x)).isEmpty = true → ∀ a ∈ ws, bg a w = false ∧ bg w a = false := by
          intro he a ha
          have he2 : (ws.filter fun x => bg x w || bg w x) = [] := by
            cases e : ws.filter fun x => bg x w || bg w x with
            | nil => rfl
            | cons b l => rw [e] at he; simp at he
          have := List.filter_eq_nil_iff.mp he2 a ha
          simpa using this
        refine hN _ _ ⟨_, fun he hm => ?_, fun he _ => hall he, rfl, rfl⟩
        have := (hall he w hm).1
        rw [bg_self] at this
        cases this
      · have hf2 : free = true := by simpa using hf
        walk_at "go"
        exact hN _ _ ⟨!decide (w ∈ ws), (fun h => by simpa using h), (fun _ e => by rw [hf2] at e; cases e), rfl, rfl⟩
    obtain ⟨good, h1, h2, rfl, rfl⟩ := hw
    exact fin good h1 h2
  · obtain ⟨ws, x6, x7, x8, hwl, hws, hCq, hP2, hO2, rfl⟩ := hw
    walk_at "go"
    exact k ws _ hws (show ws.length ≤ most from hwl) ((hP2.otherD hpq).less) (hO2.del hq)
theorem step_ok {n : Nat} {p : Addr} {pt most size : Nat} (hpt1 : 1 ≤ pt) (hpt : pt ≤ 5) (ht : Tng tg) (hs1 : 1 ≤ size) (hs : size ≤ 6) (hm : most ≤ 12) (hp : Pen (n + 700) C p) (k : ∀ s C', Stp (zs tg) s → s.length ≤ pt → (∀ ws ∈ s, ws.length ≤ most) → Pen n C' p → Oth p C C' → P (stepD s) C') : s_law_step [.ce p, .tup (strsL tg), .int (pt : Nat), .int most, .int size] C P := by
  unfold s_law_step a_law_step
  walk_at "go"
  refine draw_ok (n := n + 699) (m := pt) hp (by omega) (by omega) fun c u hc hu => ?_
  have hP := pen_put (C := C) (p := p) hc
  have hO := (Oth.refl p C).pen (c := c)
  generalize put C p c = C1 at hP hO ⊢
  have e1 : (1 : Int) + (u : Int) = ((u + 1 : Nat) : Int) := by omega
  walk_at "go"
  rw [e1]
  generalize hmy : u + 1 = many
  have hm5 : 1 ≤ many ∧ many ≤ 5 := by omega
  intro q hq
  have hpq : p ≠ q := by obtain ⟨_, h, _⟩ := hP; exact ne_cell h hq
  have hq0 : C q = none := hO.none hpq.symm hq
  have hP2 := hP.other (c := .lst []) hpq
  have hO2 := hO.put (c := .lst []) hq0
  have hCq : (put C1 q (.lst [])) q = some (.lst (([] : List (List Str)).map partD)) := put_same
  generalize put C1 q (.lst []) = C2 at hP2 hO2 hCq ⊢
  walk_at "go"
  refine g_kForR0 (fun i st C' => ∃ (s : List (List Str)) (x7 x8 : Option D), s.length = i ∧ (∀ ws ∈ s, ws.length ≤ most) ∧ (∀ (a : Nat) ws, s[a]? = some ws → Prt (zs tg) (decide (a + 1 = many)) ws) ∧ C' q = some (.lst (s.map partD)) ∧ Pen (n + 130 * (5 - i)) C' p ∧ Oth p C C' ∧ st = [some (.ce p), some (.tup (strsL tg)), some (.int (pt : Nat)), some (.int most), some (.int size), some (.int many), some (.ce q), x7, x8]) ?_ (fun i st C' hi hw => ?_) (fun st C' hw => ?_)
  · exact ⟨[], none, none, rfl, by simp, by simp, hCq, hP2.less, hO2, rfl⟩
  · obtain ⟨s, x7, x8, hsl, hsm, hs', hCq, hP3, hO3, rfl⟩ := hw
    have hi2 : i < many := hi
    walk_at "go"
    refine draw_ok (n := n + 130 * (5 - (i + 1)) + 129) (hP3.less) (by omega) (by omega) fun c ta hc hta => ?_
    have hP4 := pen_put (C := C') (p := p) hc
    have hO4 := hO3.pen (c := c)
    have hCq4 := put_other (d := c) hpq.symm hCq
    generalize put C' p c = C4 at hP4 hO4 hCq4 ⊢
    walk_at "go"
    rw [show (most : Int) + 1 = ((most + 1 : Nat) : Int) by omega]
    refine draw_ok (n := n + 130 * (5 - (i + 1)) + 128) hP4 (by omega) (by omega) fun c mo hc hmo => ?_
    have hP5 := pen_put (C := C4) (p := p) hc
    have hO5 := hO4.pen (c := c)
    have hCq5 := put_other (d := c) hpq.symm hCq4
    generalize put C4 p c = C5 at hP5 hO5 hCq5 ⊢
    walk_at "go"
    rw [show decide ((i : Int) = (many : Int) - 1) = decide (i + 1 = many) from decide_eq_decide.mpr (by omega), show (1 : Int) + (ta : Int) = ((ta + 1 : Nat) : Int) by omega]
    refine part_ok (n := n + 130 * (5 - (i + 1))) ht (by omega) (by omega) (by omega) (hP5.less) fun ws C6 hws hwm hP6 hO6 => ?_
    have hCq6 := hO6 _ _ hpq.symm hCq5
    walk_at "go"
    refine g_append hCq6 (by rw [List.length_map]; simp only [sizeLine]; omega) ?_
    walk_at "go"
    refine ⟨s ++ [ws], _, _, by simp [hsl], fun us hus => by
      rcases List.mem_append.mp hus with h | h
      · exact hsm us h
      · rw [List.mem_singleton.mp h]; omega, fun a us ha => ?_, by rw [put_same]; simp, hP6.other hpq, (hO5.trans hO6).put hq0, rfl⟩
    by_cases h : a < s.length
    · rw [List.getElem?_append_left h] at ha
      exact hs' a us ha
    · have hal : a < (s ++ [ws]).length := (List.getElem?_eq_some_iff.mp ha).1
      rw [List.length_append, List.length_singleton] at hal
      have e : a = s.length := by omega
      subst e
      simp at ha
      subst ha
      rw [hsl]
      exact hws
  · obtain ⟨s, x7, x8, hsl, hsm, hs', hCq, hP3, hO3, rfl⟩ := hw
    have hsl2 : s.length = many := hsl
    walk_at "go"
    exact k s _ ⟨by omega, by omega, by rw [hsl2]; exact hs'⟩ (by omega) hsm ((hP3.otherD hpq).less) (hO3.del hq0)
end
end A_k47
namespace A_k47
open PySem L2 AL
theorem bg_iff {a b : Str} : bg a b = true ↔ ∃ t, cs a = cs b ++ t := by
  unfold bg
  rw [decide_eq_true_iff, ← AL.len_toList]
  constructor
  · intro h
    exact ⟨(cs a).drop b.cps.toList.length, by
      have := (List.take_append_drop b.cps.toList.length (cs a)).symm
      rw [show (cs a).take b.cps.toList.length = cs b from h] at this
      exact this⟩
  · rintro ⟨t, ht⟩
    show (cs a).take (cs b).length = cs b
    rw [ht, List.take_left]
theorem bg_no {a b : Str} : bg a b = false ↔ ¬ ∃ t, cs a = cs b ++ t := by
  rw [← bg_iff, Bool.not_eq_true]
theorem strExt {a b : Str} (h : cs a = cs b) : a = b := by
  cases a; cases b
  simp only [Str.mk.injEq]
  exact Array.toList_inj.mp h
theorem cs_app (a b : Str) : cs (a ++ b) = cs a ++ cs b := app_toList a b
/-- no word begins with another one -/
def PF (ws : List Str) : Prop := ws.Pairwise fun a b => bg a b = false ∧ bg b a = false
theorem PF.nodup {ws : List Str} (h : PF ws) : ws.Nodup := h.imp fun {a b} hab e => by
  subst e
  rw [bg_self] at hab
  exact Bool.noConfusion hab.1
theorem PF.rev {ws : List Str} (h : PF ws) : PF ws.reverse := List.pairwise_reverse.mpr (h.imp fun hab => ⟨hab.2, hab.1⟩)
theorem pre_two {a b x y : List Nat} (h : a ++ x = b ++ y) : (∃ t, a = b ++ t) ∨ ∃ t, b = a ++ t := by
  rcases List.append_eq_append_iff.mp h with ⟨t, h1, _⟩ | ⟨t, h1, _⟩
  · exact .inr ⟨t, h1⟩
  · exact .inl ⟨t, h1⟩
theorem bg_apart {a b x y : Str} (h1 : bg a b = false) (h2 : bg b a = false) : bg (a ++ x) (b ++ y) = false := by
  rw [bg_no]
  rintro ⟨t, ht⟩
  rw [cs_app, cs_app, List.append_assoc] at ht
  rcases pre_two ht with h | h
  · exact bg_no.mp h1 h
  · exact bg_no.mp h2 h
theorem bg_same {a x y : Str} : bg (a ++ x) (a ++ y) = bg x y := by
  rw [Bool.eq_iff_iff, bg_iff, bg_iff]
  constructor
  · rintro ⟨t, ht⟩
    rw [cs_app, cs_app, List.append_assoc] at ht
    exact ⟨t, List.append_cancel_left ht⟩
  · rintro ⟨t, ht⟩
    exact ⟨t, by rw [cs_app, cs_app, ht, List.append_assoc]⟩
/-- two parts put together -/
def mrg (us vs : List Str) : List Str := us.flatMap fun a => (vs.filter fun b => decide ((a ++ b).length ≤ 6)).map fun b => a ++ b
theorem mrg_pf {us vs : List Str} (h : PF us) (g : PF vs) : PF (mrg us vs) := by
  refine List.pairwise_flatMap.mpr ⟨fun a _ => List.pairwise_map.mpr ((g.filter _).imp fun hab => ⟨by rw [bg_same]; exact hab.1, by rw [bg_same]; exact hab.2⟩), h.imp fun {a b} hab x hx y hy => ?_⟩
  obtain ⟨u, _, rfl⟩ := List.mem_map.mp hx
  obtain ⟨v, _, rfl⟩ := List.mem_map.mp hy
  exact ⟨bg_apart hab.1 hab.2, bg_apart hab.2 hab.1⟩
theorem mrg_nd {us vs : List Str} (h : PF us) (g : vs.Nodup) : (mrg us vs).Nodup := by
  refine List.pairwise_flatMap.mpr ⟨fun a _ => List.pairwise_map.mpr ((List.Pairwise.filter _ g).imp fun {x y} hxy e => hxy ?_), h.imp fun {a b} hab x hx y hy e => ?_⟩
  · obtain ⟨u, _, rfl⟩ := List.mem_map.mp hx
    obtain ⟨v, _, rfl⟩ := List.mem_map.mp hy
    have h1 := bg_apart (x := u) (y := v) hab.1 hab.2
    rw [e, bg_self] at h1
    cases h1
  · have := congrArg cs e
    rw [cs_app, cs_app] at this
    exact strExt (List.append_cancel_left this)
theorem mrg_len (us vs : List Str) : (mrg us vs).length ≤ us.length * vs.length := by
  induction us with
  | nil => simp [mrg]
  | cons a us ih =>
    show (List.flatMap _ (a :: us)).length ≤ _
    rw [List.flatMap_cons, List.length_append, List.length_map, List.length_cons, Nat.succ_mul]
    have := List.length_filter_le (fun b => decide ((a ++ b).length ≤ 6)) vs
    have ih : (List.flatMap (fun a => (vs.filter fun b => decide ((a ++ b).length ≤ 6)).map fun b => a ++ b) us).length ≤ us.length * vs.length := ih
    omega
theorem mrg_wrd {zs : List Nat} {us vs : List Str} (h : ∀ a ∈ us, Wrd zs a) (g : ∀ b ∈ vs, Wrd zs b) : ∀ w ∈ mrg us vs, Wrd zs w := fun w hw => by
  obtain ⟨a, ha, hw⟩ := List.mem_flatMap.mp hw
  obtain ⟨b, hb, rfl⟩ := List.mem_map.mp hw
  obtain ⟨hb, hl⟩ := List.mem_filter.mp hb
  refine ⟨by rw [app_len]; have := (h a ha).one; omega, of_decide_eq_true hl, fun c hc => ?_⟩
  rw [show (a ++ b).cps.toList = cs a ++ cs b from cs_app a b] at hc
  rcases List.mem_append.mp hc with q | q
  · exact (h a ha).inn c q
  · exact (g b hb).inn c q
theorem Prt.free {zs : List Nat} {b : Bool} {ws : List Str} (h : Prt zs b ws) : Prt zs true ws := ⟨h.few, h.ok, h.unl, fun e => by cases e⟩
theorem Prt.pf {zs : List Nat} {ws : List Str} (h : Prt zs false ws) : PF ws := h.apart rfl
theorem Prt.of {zs : List Nat} {b : Bool} {ws : List Str} (h : Prt zs false ws) : Prt zs b ws := ⟨h.few, h.ok, h.unl, fun _ => h.apart rfl⟩
theorem Stp.mrg {zs : List Nat} {a b : List Str} {r : List (List Str)} (h : Stp zs (a :: b :: r)) (hl : a.length * b.length ≤ 12) : Stp zs (mrg a b :: r) := by
  have ha : Prt zs false a := by
    have := h.ok 0 a rfl
    rwa [decide_eq_false (by simp)] at this
  have hb := h.ok 1 b rfl
  refine ⟨by simp, by have := h.few; simp at this ⊢; omega, fun i ws hi => ?_⟩
  cases i with
  | zero =>
    cases hi
    have hm := mrg_len a b
    cases r with
    | nil =>
      rw [decide_eq_true (by simp)]
      exact ⟨by omega, mrg_wrd ha.ok hb.ok, mrg_nd ha.pf hb.unl, fun e => by cases e⟩
    | cons c r =>
      rw [decide_eq_false (by simp)] at hb
      exact ⟨by omega, mrg_wrd ha.ok hb.ok, mrg_nd ha.pf hb.unl, fun _ => mrg_pf ha.pf hb.pf⟩
  | succ i =>
    have := h.ok (i + 2) ws hi
    rw [show (decide (i + 1 + 1 = (A_k47.mrg a b :: r).length)) = decide (i + 2 + 1 = (a :: b :: r).length) from decide_eq_decide.mpr (by simp)]
    exact this
theorem Stp.last {zs : List Nat} {l more : List Str} {r : List (List Str)} (h : Stp zs (r ++ [l])) (hm : ∀ w ∈ more, Wrd zs w ∧ w ∉ l) (hm1 : more.length ≤ 1) (hl : l.length + more.length ≤ 12) : Stp zs (r ++ [l.reverse ++ more]) := by
  have hL : Prt zs true l := (h.ok r.length l (by simp)).free
  refine ⟨by simp, by have := h.few; simp at this ⊢; omega, fun i ws hi => ?_⟩
  by_cases e : i < r.length
  · rw [List.getElem?_append_left e] at hi
    have := h.ok i ws (by rw [List.getElem?_append_left e]; exact hi)
    rw [show (r ++ [l.reverse ++ more]).length = (r ++ [l]).length by simp]
    exact this
  · have hlt := (List.getElem?_eq_some_iff.mp hi).1
    rw [List.length_append, List.length_singleton] at hlt
    have e2 : i = r.length := by omega
    subst e2
    rw [List.getElem?_append_right (Nat.le_refl _), Nat.sub_self] at hi
    cases hi
    rw [decide_eq_true (by simp)]
    refine ⟨by rw [List.length_append, List.length_reverse]; exact hl, fun w hw => ?_, ?_, fun e => by cases e⟩
    · rcases List.mem_append.mp hw with q | q
      · exact hL.ok w (List.mem_reverse.mp q)
      · exact (hm w q).1
    · refine List.nodup_append.mpr ⟨(List.reverse_perm l).nodup_iff.mpr hL.unl, ?_, fun a ha b hb e => ?_⟩
      · match more, hm1 with
        | [], _ => exact List.nodup_nil
        | [w], _ => simp
      · subst e
        exact (hm a hb).2 (List.mem_reverse.mp ha)
theorem Stp.revs {zs : List Nat} {s : List (List Str)} (h : Stp zs s) : Stp zs (s.map List.reverse) := by
  refine ⟨by rw [List.length_map]; exact h.one, by rw [List.length_map]; exact h.few, fun i ws hi => ?_⟩
  rw [List.getElem?_map] at hi
  cases e : s[i]? with
  | none => rw [e] at hi; cases hi
  | some us =>
    rw [e] at hi
    cases hi
    have := h.ok i us e
    rw [List.length_map]
    exact ⟨by rw [List.length_reverse]; exact this.few, fun w hw => this.ok w (List.mem_reverse.mp hw), (List.reverse_perm us).nodup_iff.mpr this.unl, fun q => PF.rev (this.apart q)⟩
theorem Stp.first {zs : List Nat} {a b : List Str} {r : List (List Str)} (h : Stp zs (a :: r)) (hb : Prt zs false b) : Stp zs (b :: r) := by
  refine ⟨by simp, by have := h.few; simp at this ⊢; omega, fun i ws hi => ?_⟩
  cases i with
  | zero => cases hi; exact hb.of
  | succ i => exact h.ok (i + 1) ws hi
end A_k47
namespace A_k47
open PySem L2 AL
section
variable {C : AH} {P : D → AH → Prop} {tg : List Str} {p : Addr}
theorem more_ok {n : Nat} (ht : Tng tg) (hp : Pen (n + 10) C p) {l : List Str} (hl : l.length ≤ 12) (k : ∀ more C', (∀ w ∈ more, Wrd (zs tg) w ∧ w ∉ l) → more.length ≤ 1 → l.length + more.length ≤ 12 → Pen n C' p → Oth p C C' → P (partD more) C') : s_law_more [.ce p, .tup (strsL tg), partD l] C P := by
  unfold s_law_more a_law_more partD
  walk_at "go"
  refine text_ok (m := 3) ht (by omega) (by omega) hp fun w C1 hw1 hw2 hwz hP hO => ?_
  walk_at "go"
  by_cases q : w ∉ l ∧ l.length ≤ 11
  · refine g_ifF (fun K hK => ?_) ?_
    · walk_at "go"
      refine g_inT ?_
      rw [decide_eq_false q.1]
      walk_at "go"
      rw [List.length_map, decide_eq_false (show ¬ (11 : Int) < (l.length : Int) by omega)]
      exact hK
    walk_at "go"
    exact k [w] _ (fun x hx => by rw [List.mem_singleton.mp hx]; exact ⟨⟨hw1, by omega, hwz⟩, q.1⟩) (by simp) (by simp; omega) hP hO
  · refine g_ifT (fun K hK => ?_) ?_
    · walk_at "go"
      refine g_inT ?_
      by_cases e : w ∈ l
      · rw [decide_eq_true e]
        walk_at "go"
        exact hK
      · rw [decide_eq_false e]
        walk_at "go"
        rw [List.length_map, decide_eq_true (show (11 : Int) < (l.length : Int) by have : ¬ l.length ≤ 11 := fun z => q ⟨e, z⟩; omega)]
        exact hK
    walk_at "go"
    exact k [] _ (fun x hx => (List.not_mem_nil hx).elim) (by simp) (by simpa using hl) hP hO
theorem g_cutDropT {us : List D} {j : Nat} (h0 : P (.tup (us.drop j)) C) : aCut (.tup us) (some (j : Int)) none C P := by
  show P (.tup (cutD us (some (j : Int)) none)) C
  rw [cutD_drop]
  exact h0
theorem len_part (ws : List Str) (k : P (.int (ws.length : Nat)) C) : aLen [partD ws] C P := by
  refine g_lenT ?_
  rw [List.length_map]
  exact k
/-- what a drawn step is -/
structure Drn (zs : List Nat) (pt most : Nat) (s : List (List Str)) : Prop where
  stp : Stp zs s
  few : s.length ≤ pt
  mst : ∀ ws ∈ s, ws.length ≤ most
/-- what a step of a plan is -/
structure Sok (zs : List Nat) (pt most : Nat) (s : List (List Str)) : Prop where
  stp : Stp zs s
  few : s.length ≤ pt
  mst : ∀ ws ∈ s.tail, ws.length ≤ most + 1
theorem Drn.sok {zs : List Nat} {pt most : Nat} {s : List (List Str)} (h : Drn zs pt most s) : Sok zs pt most s := ⟨h.stp, h.few, fun ws hw => Nat.le_succ_of_le (h.mst ws (List.mem_of_mem_tail hw))⟩
theorem merged_ok {z : List Nat} {pt most : Nat} {s : List (List Str)} (hs : Drn z pt most s) (k : ∀ s' C', Sok z pt most s' → AL.Keep C C' → P (stepD s') C') : s_law_merged [stepD s] C P := by
  unfold s_law_merged a_law_merged stepD
  have h5 := hs.stp.few
  have h1 := hs.stp.one
  walk_at "go"
  match s, hs with
  | [], hs => exact absurd h1 (by simp)
  | [a], hs =>
    refine g_ifT (fun K hK => ?_) ?_
    · walk_at "go"
      exact hK
    walk_at "go"
    exact k [a] _ hs.sok (AL.Keep.refl C)
  | a :: b :: r, hs =>
    have ha := (hs.stp.ok 0 a rfl).few
    have hb := (hs.stp.ok 1 b rfl).few
    rw [show (a :: b :: r).map partD = partD a :: partD b :: r.map partD from rfl]
    have el : (partD a :: partD b :: r.map partD).length = r.length + 2 := by simp
    by_cases q : a.length * b.length ≤ 12
    · refine g_ifF (fun K hK => ?_) ?_
      · walk_at "go"
        rw [el, decide_eq_false (show ¬ ((r.length + 2 : Nat) : Int) < 2 by omega)]
        walk_at "go"
        refine len_part a ?_
        walk_at "go"
        refine len_part b ?_
        walk_at "go"
        rw [← Int.natCast_mul, decide_eq_false (show ¬ (12 : Int) < ((a.length * b.length : Nat) : Int) by omega)]
        exact hK
      walk_at "go"
      intro w hw
      have hCw : put C w (.lst []) w = some (.lst (strsL (mrg (a.take 0) b))) := put_same
      have hK := (AL.Keep.refl C).put (c := .lst []) hw
      generalize put C w (.lst []) = C1 at hCw hK ⊢
      walk_at "go"
      unfold partD
      walk_at "go"
      refine g_kForL (fun i st C' => ∃ (x2 : Option D), AL.Keep C C' ∧ C' w = some (.lst (strsL (mrg (a.take i) b))) ∧ st = [some (.tup (.tup (strsL a) :: .tup (strsL b) :: r.map fun ws => .tup (strsL ws))), some (.ce w), x2, none]) ⟨none, hK, hCw, rfl⟩ (fun i y st C' hi hh => ?_) (fun st C' hh => ?_)
      · obtain ⟨x2, hK, hCw, rfl⟩ := hh
        unfold strsL at hi
        rw [List.getElem?_map] at hi
        cases e : a[i]? with
        | none => rw [e] at hi; cases hi
        | some x =>
          rw [e] at hi
          cases hi
          have hx6 := (hs.stp.ok 0 a rfl).ok x (List.mem_of_getElem? e)
          have hx6 := hx6.six
          have hem : mrg (a.take (i + 1)) b = mrg (a.take i) b ++ (b.filter fun y => decide ((x ++ y).length ≤ 6)).map fun y => x ++ y := by
            unfold mrg
            rw [List.take_add_one, e, List.flatMap_append]
            simp
          walk_at "go"
          refine g_kLcFilter (fun d => match d with | .str y => decide ((x ++ y).length ≤ 6) | _ => false) (fun d => match d with | .str y => .str (x ++ y) | d => d) (by rw [List.length_map]; simp only [sizeLine]; omega) (fun d hd R hR => ?_) (fun d hd hp R hR => ?_) ?_
          · obtain ⟨y, hy, rfl⟩ := List.mem_map.mp hd
            have hR : R (decide ((x ++ y).length ≤ 6)) C' := hR
            have hy6 := ((hs.stp.ok 1 b rfl).ok y hy).six
            walk_at "go"
            refine g_addS (by simp only [sizeLine]; omega) ?_
            walk_at "go"
            refine g_lenS (by rw [app_len]; simp only [sizeLine]; omega) ?_
            walk_at "go"
            rw [show decide ((((x ++ y).length : Nat) : Int) ≤ 6) = decide ((x ++ y).length ≤ 6) from decide_eq_decide.mpr (by omega)]
            exact hR
          · obtain ⟨y, hy, rfl⟩ := List.mem_map.mp hd
            have hy6 := ((hs.stp.ok 1 b rfl).ok y hy).six
            walk_at "go"
            refine g_addS (by simp only [sizeLine]; omega) ?_
            exact hR
          have ef : (((strsL b).filter fun d => match d with | .str y => decide ((x ++ y).length ≤ 6) | _ => false).map fun d => match d with | .str y => .str (x ++ y) | d => d) = strsL ((b.filter fun y => decide ((x ++ y).length ≤ 6)).map fun y => x ++ y) := by
            unfold strsL
            rw [List.filter_map, List.map_map, List.map_map]
            rfl
          rw [ef]
          walk_at "go"
          have hml := mrg_len (a.take i) b
          have hfl := List.length_filter_le (fun y => decide ((x ++ y).length ≤ 6)) b
          have hmm : (a.take i).length * b.length ≤ 12 * 12 := Nat.mul_le_mul (by rw [List.length_take]; omega) hb
          refine g_extend hCw (by rw [List.length_map, List.length_map, List.length_map]; simp only [sizeLine]; omega) ?_
          walk_at "go"
          refine ⟨_, hK.put hw, ?_, rfl⟩
          rw [put_same, hem]
          unfold strsL
          rw [List.map_append]
      · obtain ⟨x2, hK, hCw, rfl⟩ := hh
        rw [show (strsL a).length = a.length from List.length_map .., List.take_length] at hCw
        refine g_frzL rfl hCw ?_
        have hK := hK.del hw
        generalize del C' w = C3 at hK
        walk_at "go"
        rw [show (some (2 : Int)) = some ((2 : Nat) : Int) from rfl]
        refine g_cutDropT ?_
        walk_at "go"
        refine g_addT (by have := hs.stp.few; simp at this; simp [sizeLine]; omega) ?_
        walk_at "go"
        exact k (mrg a b :: r) _ ⟨hs.stp.mrg q, by have := hs.few; simp at this ⊢; omega, fun ws hw => Nat.le_succ_of_le (hs.mst ws (by simp at hw ⊢; exact .inr (.inr hw)))⟩ hK
    · refine g_ifT (fun K hK => ?_) ?_
      · walk_at "go"
        rw [el, decide_eq_false (show ¬ ((r.length + 2 : Nat) : Int) < 2 by omega)]
        walk_at "go"
        refine len_part a ?_
        walk_at "go"
        refine len_part b ?_
        walk_at "go"
        rw [← Int.natCast_mul, decide_eq_true (show (12 : Int) < ((a.length * b.length : Nat) : Int) by omega)]
        exact hK
      walk_at "go"
      exact k (a :: b :: r) _ hs.sok (AL.Keep.refl C)
end
end A_k47
namespace A_k47
open PySem L2 AL
theorem Pen.keep {k : Nat} {C C' : AH} {p : Addr} (h : Pen k C p) (hK : AL.Keep C C') : Pen k C' p := by
  obtain ⟨c, h1, h2⟩ := h
  exact ⟨c, hK _ _ h1, h2⟩
section
variable {P : D → AH → Prop} {tg : List Str} {p : Addr}
theorem g_cutLast {C : AH} {ds us : List D} {d : D} (h : ds = us ++ [d]) (k : P (.tup us) C) : aCut (.tup ds) none (some (-1)) C P := by
  show P (.tup (cutD ds none (some (-1)))) C
  have e : cutD ds none (some (-1)) = us := by
    subst h
    unfold cutD
    simp [HT.sIx]
    rw [show (-1 + ((us.length : Int) + 1)).toNat = us.length by omega, List.take_left]
  rw [e]
  exact k
theorem g_addPT {C : AH} (l more : List Str) (hl : l.length + more.length ≤ 100) (k : P (partD (l.reverse ++ more)) C) : aAdd (.tup (strsL l).reverse) (partD more) C P := by
  unfold partD
  refine g_addT (by rw [List.length_reverse, List.length_map, List.length_map]; simp only [sizeLine]; omega) ?_
  have e : (strsL l).reverse ++ strsL more = strsL (l.reverse ++ more) := by
    unfold strsL
    rw [List.map_append, List.map_reverse]
  rw [e]
  exact k
theorem plan_ok {C0 : AH} {n pt most size : Nat} (hpt1 : 1 ≤ pt) (hpt : pt ≤ 5) (hm12 : most ≤ 12) (hz1 : 1 ≤ size) (hz6 : size ≤ 6) (ht : Tng tg) (hp : Pen (n + 4000) C0 p) (k : ∀ ps C', ps.length ≤ 3 → (∀ s ∈ ps, Sok (zs tg) pt most s) → Pen n C' p → Oth p C0 C' → P (planD ps) C') : s_law_plan [.ce p, .tup (strsL tg), .int (pt : Nat), .int (most : Nat), .int (size : Nat)] C0 P := by
  unfold s_law_plan a_law_plan
  walk_at "go"
  refine draw_ok (n := n + 3999) (m := 4) hp (by omega) (by omega) fun c g4 hc hg4 => ?_
  have hP := pen_put (C := C0) (p := p) hc
  have hO := (Oth.refl p C0).pen (c := c)
  generalize put C0 p c = C1 at hP hO ⊢
  walk_at "go"
  refine g_kForR0 (fun i st C' => ∃ (ps : List (List (List Str))) (x6 x7 x8 x9 x10 : Option D), ps.length = i ∧ (∀ s ∈ ps, Sok (zs tg) pt most s) ∧ (∀ s, ps[0]? = some s → Drn (zs tg) pt most s) ∧ Pen (n + 1300 * (3 - i)) C' p ∧ Oth p C0 C' ∧ st = [some (.ce p), some (.tup (strsL tg)), some (.int (pt : Nat)), some (.int (most : Nat)), some (.int (size : Nat)), some (planD ps), x6, x7, x8, x9, x10]) ⟨[], _, _, _, _, _, rfl, fun s h => (List.not_mem_nil h).elim, fun s h => (by cases h), hP.less, hO, rfl⟩ (fun i st C' hi hw => ?_) (fun st C' hw => ?_)
  rotate_left
  · obtain ⟨ps, x6, x7, x8, x9, x10, hl, hps, h0, hP, hO, rfl⟩ := hw
    walk_at "go"
    have hl : ps.length = g4 := hl
    exact k ps _ (by omega) hps hP.less hO
  clear hP hO
  obtain ⟨ps, x6, x7, x8, x9, x10, hl, hps, h0, hP, hO, rfl⟩ := hw
  have hi3 : i < 3 := by
    have : i < g4 := hi
    omega
  have e13 : 1300 * (3 - i) = 1300 * (3 - (i + 1)) + 1300 := by omega
  rw [e13] at hP
  generalize hn2 : n + 1300 * (3 - (i + 1)) = n2
  have hP : Pen (n2 + 1300) C' p := by rw [← hn2, Nat.add_assoc]; exact hP
  walk_at "go"
  refine step_ok (n := n2 + 600) hpt1 hpt ht hz1 hz6 hm12 hP fun s C2 hs1 hs2 hs3 hP hO2 => ?_
  have hO := hO.trans hO2
  walk_at "go"
  refine draw_ok (n := n2 + 599) (m := 6) hP (by omega) (by omega) fun c way hc hway => ?_
  have hP := pen_put (C := C2) (p := p) hc
  have hO := hO.pen (c := c)
  generalize put C2 p c = C3 at hP hO ⊢
  have hD : i = 0 → Drn (zs tg) pt most s := fun _ => ⟨hs1, hs2, hs3⟩
  have hS : Sok (zs tg) pt most s := (⟨hs1, hs2, hs3⟩ : Drn (zs tg) pt most s).sok
  clear hs1 hs2 hs3 hO2
  have hz : 0 < i → ∃ s0, ps[0]? = some s0 ∧ 1 ≤ s0.length := fun h => by
    have e : ps[0]? = some (ps[0]'(by omega)) := List.getElem?_eq_getElem (by omega)
    exact ⟨_, e, (h0 _ e).stp.one⟩
  walk_at "go"
  refine g_ifJ (fun st C' => ∃ (s : List (List Str)) (x9 x10 : Option D), Sok (zs tg) pt most s ∧ (i = 0 → Drn (zs tg) pt most s) ∧ Pen (n2 + 590) C' p ∧ Oth p C0 C' ∧ st = [some (.ce p), some (.tup (strsL tg)), some (.int (pt : Nat)), some (.int (most : Nat)), some (.int (size : Nat)), some (planD ps), some (.int (i : Nat)), some (stepD s), some (.int (way : Nat)), x9, x10]) (fun N hN => ?_) (fun st C' hw => ?_)
  · by_cases q : 0 < i ∧ way = 0
    · refine g_ifT (fun K hK => ?_) ?_
      · walk_at "go"
        rw [decide_eq_true (show (0 : Int) < (i : Int) by omega)]
        walk_at "go"
        rw [decide_eq_true (show (way : Int) = 0 by omega)]
        exact hK
      obtain ⟨s0, hs0, h01⟩ := hz q.1
      walk_at "go"
      refine g_ixT (d := stepD s0) (show atI (ps.map stepD) ((0 : Nat) : Int) = _ from atI_nat' (by rw [List.getElem?_map, hs0]; rfl)) ?_
      walk_at "go"
      refine merged_ok (h0 s0 hs0) fun s1 C2 hs1 hK2 => ?_
      walk_at "go"
      exact hN _ _ ⟨s1, _, _, hs1, fun e => absurd q.1 (by omega), (hP.keep hK2).less, hO.trans (.of hK2), rfl⟩
    · refine g_ifF (fun K hK => ?_) ?_
      · walk_at "go"
        by_cases a : 0 < i
        · rw [decide_eq_true (show (0 : Int) < (i : Int) by omega)]
          walk_at "go"
          rw [decide_eq_false (show ¬ (way : Int) = 0 by omega)]
          exact hK
        · rw [decide_eq_false (show ¬ (0 : Int) < (i : Int) by omega)]
          walk_at "go"
          exact hK
      walk_at "go"
      exact hN _ _ ⟨s, _, _, hS, hD, hP.less, hO, rfl⟩
  clear hP hO hS hD
  obtain ⟨s, x9, x10, hS, hD, hP, hO, rfl⟩ := hw
  refine g_ifJ (fun st C' => ∃ (s : List (List Str)) (x9 x10 : Option D), Sok (zs tg) pt most s ∧ (i = 0 → Drn (zs tg) pt most s) ∧ Pen (n2 + 500) C' p ∧ Oth p C0 C' ∧ st = [some (.ce p), some (.tup (strsL tg)), some (.int (pt : Nat)), some (.int (most : Nat)), some (.int (size : Nat)), some (planD ps), some (.int (i : Nat)), some (stepD s), some (.int (way : Nat)), x9, x10]) (fun N hN => ?_) (fun st C' hw => ?_)
  · by_cases q : 0 < i ∧ way = 1
    · refine g_ifT (fun K hK => ?_) ?_
      · walk_at "go"
        rw [decide_eq_true (show (0 : Int) < (i : Int) by omega)]
        walk_at "go"
        rw [decide_eq_true (show (way : Int) = 1 by omega)]
        exact hK
      obtain ⟨s0, hs0, h01⟩ := hz q.1
      walk_at "go"
      refine g_ixT (d := stepD s0) (show atI (ps.map stepD) ((0 : Nat) : Int) = _ from atI_nat' (by rw [List.getElem?_map, hs0]; rfl)) ?_
      walk_at "go"
      obtain ⟨r, l, el⟩ : ∃ r l, s0 = r ++ [l] := ⟨s0.dropLast, s0.getLast (by intro e; rw [e] at h01; simp at h01), (List.dropLast_concat_getLast _).symm⟩
      have hD0 := h0 s0 hs0
      have hlat : atI (s0.map partD) (-1) = some (partD l) := AL.atI_last (i := r.length) (by rw [el]; simp) (by rw [el]; simp)
      refine g_ixT (d := partD l) hlat ?_
      walk_at "go"
      refine g_ixT (d := stepD s0) (show atI (ps.map stepD) ((0 : Nat) : Int) = _ from atI_nat' (by rw [List.getElem?_map, hs0]; rfl)) ?_
      walk_at "go"
      refine g_cutLast (us := r.map partD) (d := partD l) (by rw [el]; simp [stepD]) ?_
      walk_at "go"
      have hll : l.length ≤ 12 := (hD0.stp.ok r.length l (by rw [el]; simp)).few
      refine g_revT (ds := strsL l) ?_
      walk_at "go"
      refine more_ok (n := n2 + 500) ht (hP.less) hll fun more C2 hm1 hm2 hm3 hP2 hO2 => ?_
      walk_at "go"
      refine g_addPT l more (by omega) ?_
      walk_at "go"
      refine g_addT (by rw [List.length_map, List.length_singleton]; have := hD0.stp.few; rw [el] at this; simp at this; simp only [sizeLine]; omega) ?_
      walk_at "go"
      refine hN _ _ ⟨r ++ [l.reverse ++ more], some (partD l), x10, ⟨(el ▸ hD0.stp).last hm1 hm2 hm3, by have := hD0.few; rw [el] at this; simpa using this, fun ws hw => ?_⟩, fun e => absurd q.1 (by omega), hP2.less, hO.trans hO2, by simp [stepD]⟩
      have hmst := hD0.mst
      rw [el] at hmst
      rcases List.mem_append.mp (List.mem_of_mem_tail hw) with h | h
      · exact Nat.le_succ_of_le (hmst ws (List.mem_append_left _ h))
      · rw [List.mem_singleton.mp h, List.length_append, List.length_reverse]
        have := hmst l (by simp)
        omega
    · refine g_ifF (fun K hK => ?_) ?_
      · walk_at "go"
        by_cases a : 0 < i
        · rw [decide_eq_true (show (0 : Int) < (i : Int) by omega)]
          walk_at "go"
          rw [decide_eq_false (show ¬ (way : Int) = 1 by omega)]
          exact hK
        · rw [decide_eq_false (show ¬ (0 : Int) < (i : Int) by omega)]
          walk_at "go"
          exact hK
      walk_at "go"
      exact hN _ _ ⟨s, _, _, hS, hD, hP.less, hO, rfl⟩
  clear hP hO hS hD
  obtain ⟨s, x9, x10, hS, hD, hP, hO, rfl⟩ := hw
  refine g_ifJ (fun st C' => ∃ (s : List (List Str)) (x9 x10 : Option D), Sok (zs tg) pt most s ∧ (i = 0 → Drn (zs tg) pt most s) ∧ Pen (n2 + 490) C' p ∧ Oth p C0 C' ∧ st = [some (.ce p), some (.tup (strsL tg)), some (.int (pt : Nat)), some (.int (most : Nat)), some (.int (size : Nat)), some (planD ps), some (.int (i : Nat)), some (stepD s), some (.int (way : Nat)), x9, x10]) (fun N hN => ?_) (fun st C' hw => ?_)
  · by_cases q : 0 < i ∧ way = 2
    · refine g_ifT (fun K hK => ?_) ?_
      · walk_at "go"
        rw [decide_eq_true (show (0 : Int) < (i : Int) by omega)]
        walk_at "go"
        rw [decide_eq_true (show (way : Int) = 2 by omega)]
        exact hK
      walk_at "go"
      obtain ⟨sp, hsp⟩ : ∃ sp, ps[i - 1]? = some sp := ⟨_, List.getElem?_eq_getElem (by omega)⟩
      rw [show (i : Int) - 1 = ((i - 1 : Nat) : Int) by omega]
      refine g_ixT (d := stepD sp) (show atI (ps.map stepD) ((i - 1 : Nat) : Int) = _ from atI_nat' (by rw [List.getElem?_map, hsp]; rfl)) ?_
      have hSp := hps sp (List.mem_of_getElem? hsp)
      unfold stepD
      walk_at "go"
      refine g_kLcMap (fun d => match d with | .tup us => .tup us.reverse | d => d) (by rw [List.length_map]; have := hSp.stp.few; simp only [sizeLine]; omega) (fun d hd R hR => ?_) ?_
      · obtain ⟨ws, _, rfl⟩ := List.mem_map.mp hd
        unfold partD
        walk_at "go"
        refine g_revT ?_
        exact hR
      walk_at "go"
      refine hN _ _ ⟨sp.map List.reverse, x9, x10, ⟨hSp.stp.revs, by rw [List.length_map]; exact hSp.few, fun ws hw => ?_⟩, fun e => absurd q.1 (by omega), hP.less, hO, ?_⟩
      · rw [← List.map_tail] at hw
        obtain ⟨us, hu, rfl⟩ := List.mem_map.mp hw
        rw [List.length_reverse]
        exact hSp.mst us hu
      · unfold stepD
        rw [List.map_map, List.map_map]
        simp only [partD, Function.comp_def, strsL, List.map_reverse]
    · refine g_ifF (fun K hK => ?_) ?_
      · walk_at "go"
        by_cases a : 0 < i
        · rw [decide_eq_true (show (0 : Int) < (i : Int) by omega)]
          walk_at "go"
          rw [decide_eq_false (show ¬ (way : Int) = 2 by omega)]
          exact hK
        · rw [decide_eq_false (show ¬ (0 : Int) < (i : Int) by omega)]
          walk_at "go"
          exact hK
      walk_at "go"
      exact hN _ _ ⟨s, _, _, hS, hD, hP.less, hO, rfl⟩
  clear hP hO hS hD
  obtain ⟨s, x9, x10, hS, hD, hP, hO, rfl⟩ := hw
  refine g_ifJ (fun st C' => ∃ (s : List (List Str)) (x9 x10 : Option D), Sok (zs tg) pt most s ∧ (i = 0 → Drn (zs tg) pt most s) ∧ Pen n2 C' p ∧ Oth p C0 C' ∧ st = [some (.ce p), some (.tup (strsL tg)), some (.int (pt : Nat)), some (.int (most : Nat)), some (.int (size : Nat)), some (planD ps), some (.int (i : Nat)), some (stepD s), some (.int (way : Nat)), x9, x10]) (fun N hN => ?_) (fun st C' hw => ?_)
  · by_cases q : 0 < i ∧ way = 3
    · refine g_ifT (fun K hK => ?_) ?_
      · walk_at "go"
        rw [decide_eq_true (show (0 : Int) < (i : Int) by omega)]
        walk_at "go"
        rw [decide_eq_true (show (way : Int) = 3 by omega)]
        exact hK
      obtain ⟨s0, hs0, h01⟩ := hz q.1
      walk_at "go"
      refine part_ok (n := n2 + 10) (most := 1) (size := 3) (free := false) ht (by omega) (by omega) (by omega) (hP.less) fun ws C2 hws hwl hP2 hO2 => ?_
      walk_at "go"
      refine g_ixT (d := stepD s0) (show atI (ps.map stepD) ((0 : Nat) : Int) = _ from atI_nat' (by rw [List.getElem?_map, hs0]; rfl)) ?_
      have hD0 := h0 s0 hs0
      unfold stepD
      walk_at "go"
      rw [show (some (1 : Int)) = some ((1 : Nat) : Int) from rfl]
      refine g_cutDropT ?_
      walk_at "go"
      have h05 := hD0.stp.few
      refine g_addT (by simp [sizeLine]; omega) ?_
      walk_at "go"
      match s0, hD0, h01 with
      | [], _, h => exact absurd h (by simp)
      | a :: r, hD0, _ =>
        exact hN _ _ ⟨ws :: r, _, _, ⟨hD0.stp.first hws, by have := hD0.few; simpa using this, fun us hu => Nat.le_succ_of_le (hD0.mst us (List.mem_cons_of_mem _ hu))⟩, fun e => absurd q.1 (by omega), hP2.less, hO.trans hO2, rfl⟩
    · refine g_ifF (fun K hK => ?_) ?_
      · walk_at "go"
        by_cases a : 0 < i
        · rw [decide_eq_true (show (0 : Int) < (i : Int) by omega)]
          walk_at "go"
          rw [decide_eq_false (show ¬ (way : Int) = 3 by omega)]
          exact hK
        · rw [decide_eq_false (show ¬ (0 : Int) < (i : Int) by omega)]
          walk_at "go"
          exact hK
      walk_at "go"
      exact hN _ _ ⟨s, _, _, hS, hD, hP.less, hO, rfl⟩
  clear hP hO hS hD
  obtain ⟨s, x9, x10, hS, hD, hP, hO, rfl⟩ := hw
  walk_at "go"
  refine g_addT (by rw [List.length_map, List.length_singleton]; simp only [sizeLine]; omega) ?_
  walk_at "go"
  refine ⟨ps ++ [s], some (.int (i : Nat)), some (stepD s), some (.int (way : Nat)), x9, x10, by simp [hl], fun t h => ?_, fun t h => ?_, (by subst hn2; exact hP), hO, by simp [planD]⟩
  · rcases List.mem_append.mp h with h | h
    · exact hps t h
    · rw [List.mem_singleton.mp h]; exact hS
  · cases ps with
    | nil =>
      cases h
      exact hD hl.symm
    | cons a r => exact h0 t h
end
end A_k47
namespace A_k47
open PySem L2 AL
/-- each word with each word of a part behind it -/
def pws (us part : List Str) : List Str := us.flatMap fun a => part.map fun b => a ++ b
def cmb (s : List (List Str)) : List Str := s.foldl pws [""]
theorem cmb_snoc (s : List (List Str)) (ws : List Str) : cmb (s ++ [ws]) = pws (cmb s) ws := by
  unfold cmb
  rw [List.foldl_append]
  rfl
theorem pws_len (us ws : List Str) : (pws us ws).length = us.length * ws.length := by
  induction us with
  | nil => simp [pws]
  | cons a us ih =>
    have ih : (List.flatMap (fun a => ws.map fun b => a ++ b) us).length = us.length * ws.length := ih
    show (List.flatMap _ (a :: us)).length = _
    rw [List.flatMap_cons, List.length_append, List.length_map, ih, List.length_cons, Nat.succ_mul]
    omega
def pls (s : List (List Str)) : Nat := (s.map List.length).foldl (· * ·) 1
theorem pls_snoc (s : List (List Str)) (ws : List Str) : pls (s ++ [ws]) = pls s * ws.length := by
  unfold pls
  rw [List.map_append, List.foldl_append]
  rfl
theorem rev_ind {α : Type} {M : List α → Prop} (h0 : M []) (hs : ∀ l a, M l → M (l ++ [a])) (l : List α) : M l := by
  have : ∀ l : List α, M l.reverse := fun l => by
    induction l with
    | nil => exact h0
    | cons a l ih => rw [List.reverse_cons]; exact hs _ _ ih
  have h := this l.reverse
  rwa [List.reverse_reverse] at h
theorem cmb_len (s : List (List Str)) : (cmb s).length = pls s := by
  refine rev_ind (M := fun s => (cmb s).length = pls s) rfl (fun s ws ih => ?_) s
  show (cmb (s ++ [ws])).length = pls (s ++ [ws])
  rw [cmb_snoc, pls_snoc, pws_len, ih]
/-- parts of few short words -/
def Few (s : List (List Str)) : Prop := ∀ ws ∈ s, ws.length ≤ 12 ∧ ∀ w ∈ ws, w.length ≤ 6
theorem Few.bound {s : List (List Str)} (h : Few s) : (cmb s).length ≤ 12 ^ s.length ∧ ∀ w ∈ cmb s, w.length ≤ 6 * s.length := by
  revert h
  refine rev_ind (M := fun s => Few s → (cmb s).length ≤ 12 ^ s.length ∧ ∀ w ∈ cmb s, w.length ≤ 6 * s.length) (fun _ => ⟨Nat.le_refl _, fun w hw => by rw [List.mem_singleton.mp hw]; exact Nat.le_refl _⟩) (fun s ws ih h => ?_) s
  obtain ⟨h1, h2⟩ := ih fun a ha => h a (List.mem_append_left _ ha)
  obtain ⟨g1, g2⟩ := h ws (List.mem_append_right _ (List.mem_singleton.mpr rfl))
  rw [cmb_snoc, List.length_append, List.length_singleton]
  refine ⟨by rw [pws_len, Nat.pow_succ]; exact Nat.mul_le_mul h1 g1, fun w hw => ?_⟩
  obtain ⟨a, ha, hw⟩ := List.mem_flatMap.mp hw
  obtain ⟨b, hb, rfl⟩ := List.mem_map.mp hw
  have := h2 a ha
  have := g2 b hb
  rw [app_len]
  omega
theorem Few.take {s : List (List Str)} (h : Few s) (i : Nat) : Few (s.take i) := fun ws hw => h ws (List.mem_of_mem_take hw)
theorem pow12 {i : Nat} (h : i ≤ 5) : 12 ^ i ≤ 248832 := Nat.le_trans (Nat.pow_le_pow_right (by decide) h) (by decide)
section
variable {C : AH} {P : D → AH → Prop}
theorem size_ok {s : List (List Str)} (hs : Few s) (k : P (.int (pls s : Nat)) C) : s_size_of [stepD s] C P := by
  unfold s_size_of a_size_of stepD
  walk_at "go"
  refine g_kForL (fun i st C' => ∃ (x2 : Option D), C = C' ∧ st = [some (.tup (s.map partD)), some (.int (pls (s.take i) : Nat)), x2]) ⟨none, rfl, rfl⟩ (fun i y st C' hi hh => ?_) (fun st C' hh => ?_)
  · obtain ⟨x2, rfl, rfl⟩ := hh
    rw [List.getElem?_map] at hi
    cases e : s[i]? with
    | none => rw [e] at hi; cases hi
    | some ws =>
      rw [e] at hi
      cases hi
      have h12 := (hs ws (List.mem_of_getElem? e)).1
      walk_at "go"
      refine len_part ws ?_
      walk_at "go"
      have ep : pls (s.take (i + 1)) = pls (s.take i) * ws.length := by
        rw [List.take_add_one, e]
        exact pls_snoc _ _
      exact ⟨_, rfl, by rw [ep, Int.natCast_mul]⟩
  · obtain ⟨x2, rfl, rfl⟩ := hh
    rw [List.length_map, List.take_length]
    walk_at "go"
    exact k
variable {PX : Str → AH → Prop}
def addW (acc : List Str) (w : Str) : List Str := if w ∈ acc then acc else acc ++ [w]
def dd (l : List Str) : List Str := l.foldl addW []
theorem addW_nd {acc : List Str} {w : Str} (h : acc.Nodup) : (addW acc w).Nodup := by
  unfold addW
  split
  · exact h
  · rename_i hn
    refine List.nodup_append.mpr ⟨h, by simp, fun a ha b hb e => hn ?_⟩
    rw [← List.mem_singleton.mp hb, ← e]
    exact ha
theorem fold_len (l : List Str) : ∀ acc : List Str, (l.foldl addW acc).length ≤ acc.length + l.length := by
  induction l with
  | nil => intro acc; simp
  | cons a l ih =>
    intro acc
    have := ih (addW acc a)
    have h2 : (addW acc a).length ≤ acc.length + 1 := by
      unfold addW
      split
      · omega
      · rw [List.length_append, List.length_singleton]
        exact Nat.le_refl _
    rw [List.foldl_cons, List.length_cons]
    omega
/-- a dict with these texts for keys, in this order -/
def Ks (es : List (Key × D)) (L : List Str) : Prop := es.map (·.1) = L.map Sum.inr
theorem Ks.any {es : List (Key × D)} {L : List Str} (h : Ks es L) (w : Str) : (es.any fun kv => decide (kv.1 = (.inr w : Key))) = decide (w ∈ L) := by
  rw [Bool.eq_iff_iff, List.any_eq_true, decide_eq_true_iff]
  constructor
  · rintro ⟨kv, hm, hk⟩
    have : kv.1 ∈ L.map (Sum.inr : Str → Key) := by rw [← h]; exact List.mem_map.mpr ⟨kv, hm, rfl⟩
    obtain ⟨x, hx, e⟩ := List.mem_map.mp this
    rw [of_decide_eq_true hk] at e
    cases e
    exact hx
  · intro hw
    have : (Sum.inr w : Key) ∈ es.map (·.1) := by rw [h]; exact List.mem_map.mpr ⟨w, hw, rfl⟩
    obtain ⟨kv, hm, e⟩ := List.mem_map.mp this
    exact ⟨kv, hm, decide_eq_true e⟩
theorem Ks.put {es : List (Key × D)} {L : List Str} (h : Ks es L) (w : Str) (d : D) : Ks (putD es (.inr w) d) (addW L w) := by
  unfold putD addW
  rw [h.any]
  by_cases q : w ∈ L
  · rw [if_pos (decide_eq_true q), if_pos q]
    show (es.map _).map _ = _
    rw [List.map_map, ← h]
    refine List.map_congr_left fun kv _ => ?_
    show (if kv.1 = _ then (kv.1, d) else kv).1 = kv.1
    split <;> rfl
  · rw [if_neg (fun z => q (of_decide_eq_true z)), if_neg q]
    show (es ++ _).map _ = _
    rw [List.map_append, List.map_append, h]
    rfl
theorem Ks.val {es : List (Key × D)} {L : List Str} (h : Ks es L) (w : Str) : (valD es (.inr w)).isSome = decide (w ∈ L) := by
  rw [← h.any w]
  unfold valD
  rw [Option.isSome_map, Bool.eq_iff_iff, List.find?_isSome, List.any_eq_true]
theorem Ks.len {es : List (Key × D)} {L : List Str} (h : Ks es L) : es.length = L.length := by
  have := congrArg List.length h
  rwa [List.length_map, List.length_map] at this
end
end A_k47
namespace A_k47
open PySem L2 AL
def wrds (ps : List (List (List Str))) : List Str := ps.flatMap cmb
def tot (ps : List (List (List Str))) : Nat := (ps.map pls).sum
theorem wrds_snoc (ps : List (List (List Str))) (s : List (List Str)) : wrds (ps ++ [s]) = wrds ps ++ cmb s := by simp [wrds]
theorem wrds_len (ps : List (List (List Str))) : (wrds ps).length = tot ps := by
  refine rev_ind (M := fun ps => (wrds ps).length = tot ps) rfl (fun ps s ih => ?_) ps
  show (wrds (ps ++ [s])).length = tot (ps ++ [s])
  rw [wrds_snoc, List.length_append, ih, cmb_len]
  simp [tot]
theorem wrds_few {ps : List (List (List Str))} (h : ∀ s ∈ ps, Few s ∧ s.length ≤ 5) : (wrds ps).length ≤ 248832 * ps.length := by
  induction ps with
  | nil => simp [wrds]
  | cons s ps ih =>
    obtain ⟨hF, h5⟩ := h s (List.mem_cons_self ..)
    have := ih fun t ht => h t (List.mem_cons_of_mem _ ht)
    have hb := hF.bound.1
    have hb2 := pow12 h5
    have e : wrds (s :: ps) = cmb s ++ wrds ps := by simp [wrds]
    rw [e, List.length_append, List.length_cons, Nat.mul_succ]
    omega
end A_k47
namespace A_k47
open PySem L2 AL
theorem app_e (a : Str) : a ++ ("" : Str) = a := strExt (by rw [cs_app]; exact List.append_nil _)
theorem e_app (a : Str) : ("" : Str) ++ a = a := strExt (by rw [cs_app]; exact List.nil_append _)
theorem app_as (a b c : Str) : (a ++ b) ++ c = a ++ (b ++ c) := strExt (by rw [cs_app, cs_app, cs_app, cs_app, List.append_assoc])
theorem app_inj {a x y : Str} (h : a ++ x = a ++ y) : x = y := by
  have := congrArg cs h
  rw [cs_app, cs_app] at this
  exact strExt (List.append_cancel_left this)
theorem fold_pws : ∀ (s : List (List Str)) (us : List Str), s.foldl pws us = us.flatMap fun a => (cmb s).map fun b => a ++ b
  | [], us => by
    show us = us.flatMap fun a => [a ++ ("" : Str)]
    induction us with
    | nil => rfl
    | cons a us ih => rw [List.flatMap_cons, ← ih, app_e]; rfl
  | ws :: r, us => by
    have h1 : cmb (ws :: r) = (pws [""] ws).flatMap fun a => (cmb r).map fun b => a ++ b := fold_pws r _
    have e0 : pws [""] ws = ws := by
      show ([""] : List Str).flatMap (fun a => ws.map fun b => a ++ b) = ws
      rw [List.flatMap_cons, List.flatMap_nil, List.append_nil]
      rw [show (fun b : Str => ("" : Str) ++ b) = id from funext e_app, List.map_id]
    rw [e0] at h1
    rw [h1]
    show r.foldl pws (pws us ws) = _
    rw [fold_pws r]
    unfold pws
    rw [List.flatMap_assoc]
    congr 1
    funext a
    rw [List.map_flatMap, List.flatMap_map]
    congr 1
    funext b
    rw [List.map_map]
    congr 1
    funext c
    exact app_as a b c
theorem cmb_cons (ws : List Str) (r : List (List Str)) : cmb (ws :: r) = ws.flatMap fun a => (cmb r).map fun b => a ++ b := by
  have e0 : pws [""] ws = ws := by
    show ([""] : List Str).flatMap (fun a => ws.map fun b => a ++ b) = ws
    rw [List.flatMap_cons, List.flatMap_nil, List.append_nil]
    rw [show (fun b : Str => ("" : Str) ++ b) = id from funext e_app, List.map_id]
  have h1 : cmb (ws :: r) = (pws [""] ws).flatMap fun a => (cmb r).map fun b => a ++ b := fold_pws r _
  rw [e0] at h1
  exact h1
theorem mem_cons {ws : List Str} {r : List (List Str)} {t : Str} : t ∈ cmb (ws :: r) ↔ ∃ a ∈ ws, ∃ v ∈ cmb r, t = a ++ v := by
  rw [cmb_cons, List.mem_flatMap]
  constructor
  · rintro ⟨a, ha, h⟩
    obtain ⟨v, hv, rfl⟩ := List.mem_map.mp h
    exact ⟨a, ha, v, hv, rfl⟩
  · rintro ⟨a, ha, v, hv, rfl⟩
    exact ⟨a, ha, List.mem_map.mpr ⟨v, hv, rfl⟩⟩
theorem cmb_nil : cmb [] = [("" : Str)] := rfl
theorem cmb_one (ws : List Str) : cmb [ws] = ws := by
  rw [cmb_cons]
  induction ws with
  | nil => rfl
  | cons a ws ih => rw [List.flatMap_cons, ih, cmb_nil, List.map_cons, app_e]; rfl
/-- a step whose parts are such that words part in one way -/
structure Vs (s : List (List Str)) : Prop where
  one : 1 ≤ s.length
  ne : ∀ ws ∈ s, ∀ w ∈ ws, 1 ≤ w.length
  pf : ∀ (i : Nat) ws, s[i]? = some ws → i + 1 < s.length → PF ws
  nd : ∀ ws ∈ s, ws.Nodup
theorem Stp.vs {zs : List Nat} {s : List (List Str)} (h : Stp zs s) : Vs s := by
  refine ⟨h.one, fun ws hw w hm => ?_, fun i ws hi hl => ?_, fun ws hw => ?_⟩
  · obtain ⟨i, hi⟩ := List.getElem?_of_mem hw
    exact ((h.ok i ws hi).ok w hm).one
  · have := h.ok i ws hi
    rw [decide_eq_false (by omega)] at this
    exact this.pf
  · obtain ⟨i, hi⟩ := List.getElem?_of_mem hw
    exact (h.ok i ws hi).unl
theorem pair_all {α : Type} {R : α → α → Prop} (sy : ∀ {a b}, R a b → R b a) : ∀ {l : List α}, l.Pairwise R → ∀ {a b : α}, a ∈ l → b ∈ l → a ≠ b → R a b
  | x :: l, h, a, b, ha, hb, hn => by
    cases h with
    | cons h1 h2 =>
      rcases List.mem_cons.mp ha with e | e
      · subst e
        rcases List.mem_cons.mp hb with q | q
        · exact absurd q.symm hn
        · exact h1 b q
      · rcases List.mem_cons.mp hb with q | q
        · subst q
          exact sy (h1 a e)
        · exact pair_all sy h2 e q hn
theorem PF.uniq {ws : List Str} (h : PF ws) {a b x y : Str} (ha : a ∈ ws) (hb : b ∈ ws) (e : a ++ x = b ++ y) : a = b := by
  by_cases hab : a = b
  · exact hab
  · have h1 : bg a b = false ∧ bg b a = false := pair_all (fun {u v} q => ⟨q.2, q.1⟩) h ha hb hab
    have := bg_apart (x := x) (y := y) h1.1 h1.2
    rw [e, bg_self] at this
    cases this
/-- each word once -/
theorem cmb_nd : ∀ {s : List (List Str)}, (∀ (i : Nat) ws, s[i]? = some ws → i + 1 < s.length → PF ws) → (∀ ws ∈ s, ws.Nodup) → (cmb s).Nodup
  | [], _, _ => by rw [cmb_nil]; simp
  | [ws], _, h => by rw [cmb_one]; exact h ws List.mem_cons_self
  | ws :: x :: r, hp, h => by
    have ih := cmb_nd (s := x :: r) (fun i us hi hl => hp (i + 1) us hi (by simp only [List.length_cons] at hl ⊢; omega)) (fun us hu => h us (List.mem_cons_of_mem _ hu))
    have hpf := hp 0 ws rfl (by simp only [List.length_cons]; omega)
    rw [cmb_cons]
    refine List.pairwise_flatMap.mpr ⟨fun a ha => List.pairwise_map.mpr (ih.imp fun {u v} huv e => huv (app_inj e)), ?_⟩
    refine List.Pairwise.imp_of_mem (fun {a b} ha hb hab u hu v hv e => ?_) hpf.nodup
    obtain ⟨u, _, rfl⟩ := List.mem_map.mp hu
    obtain ⟨v, _, rfl⟩ := List.mem_map.mp hv
    exact hab (hpf.uniq ha hb e)
/-- what the marks of a part say of a text -/
def mk (ws : List Str) (x : Str) : Option Bool := if x ∈ ws then some true else if (ws.any fun w => decide (1 ≤ x.length) && decide (x.length < w.length) && bg w x) = true then some false else none
theorem mk_true {ws : List Str} {x : Str} : mk ws x = some true ↔ x ∈ ws := by
  unfold mk
  by_cases h : x ∈ ws
  · simp [h]
  · rw [if_neg h]
    split <;> simp [h]
theorem mk_none {ws : List Str} {x : Str} (hx : 1 ≤ x.length) : mk ws x = none ↔ ∀ w ∈ ws, bg w x = false := by
  unfold mk
  constructor
  · intro h w hw
    split at h
    · cases h
    · rename_i h1
      split at h
      · cases h
      · rename_i h2
        by_cases q : bg w x = true
        · exfalso
          obtain ⟨t, ht⟩ := bg_iff.mp q
          have hl : w.length = x.length + t.length := by
            have := congrArg List.length ht
            rw [List.length_append] at this
            rw [← AL.len_toList, ← AL.len_toList]
            exact this
          by_cases e : x.length < w.length
          · exact h2 (List.any_eq_true.mpr ⟨w, hw, by simp [hx, e, q]⟩)
          · have : t = [] := List.eq_nil_of_length_eq_zero (by omega)
            subst this
            rw [List.append_nil] at ht
            exact h1 (strExt ht ▸ hw)
        · exact Bool.eq_false_iff.mpr q
  · intro h
    have h1 : x ∉ ws := fun hm => by have := h x hm; rw [bg_self] at this; cases this
    rw [if_neg h1, if_neg]
    intro h2
    obtain ⟨w, hw, h3⟩ := List.any_eq_true.mp h2
    simp only [Bool.and_eq_true] at h3
    rw [h w hw] at h3
    exact Bool.noConfusion h3.2
abbrev Sta := Option (Nat × Str)
def stp (s : List (List Str)) : Sta → Nat → Sta
  | none, _ => none
  | some (k, b), c => match mk (s.getD k []) (b ++ oneS c) with
    | none => none
    | some true => if k + 1 < s.length then some (k + 1, "") else some (k, b ++ oneS c)
    | some false => some (k, b ++ oneS c)
def wnt (s : List (List Str)) (st : Sta) (t : Str) : Sta := (cs t).foldl (stp s) st
def mde (s : List (List Str)) : Sta → Bool
  | none => false
  | some (k, b) => decide (k + 1 = s.length) && (mk (s.getD k []) b).getD false
theorem wnt_app (s : List (List Str)) (st : Sta) (a b : Str) : wnt s st (a ++ b) = wnt s (wnt s st a) b := by
  unfold wnt
  rw [cs_app, List.foldl_append]
theorem wnt_none (s : List (List Str)) (t : Str) : wnt s none t = none := by
  unfold wnt
  induction cs t with
  | nil => rfl
  | cons c l ih => exact ih
/-- behind the text t the step stands so -/
def Sit (s : List (List Str)) (t : Str) : Sta → Prop
  | none => ∀ u, t ++ u ∉ cmb s
  | some (k, b) => k < s.length ∧ (∀ u, t ++ u ∈ cmb s ↔ b ++ u ∈ cmb (s.drop k)) ∧ (k + 1 < s.length → ∀ a ∈ s.getD k [], bg b a = false)
theorem drop_getD {s : List (List Str)} {k : Nat} (h : k < s.length) : s.drop k = s.getD k [] :: s.drop (k + 1) := by
  rw [List.drop_eq_getElem_cons h]
  simp [List.getD, List.getElem?_eq_getElem h]
theorem getD_some {α : Type} {s : List (List α)} {k : Nat} (h : k < s.length) : s[k]? = some (s.getD k []) := by
  simp [List.getD, List.getElem?_eq_getElem h]
theorem bg_app_of {b x : Str} {c : Nat} (h : bg (b ++ oneS c) x = true) : bg b x = true ∨ b ++ oneS c = x := by
  obtain ⟨t, ht⟩ := bg_iff.mp h
  rw [cs_app] at ht
  rcases List.eq_nil_or_concat t with e | ⟨t', z, e⟩
  · subst e
    rw [List.append_nil, ← cs_app] at ht
    exact .inr (strExt ht)
  · refine .inl (bg_iff.mpr ⟨t', ?_⟩)
    rw [e, List.concat_eq_append, ← List.append_assoc] at ht
    exact (List.append_inj' ht rfl).1
theorem one_len (c : Nat) : (oneS c).length = 1 := rfl
theorem Sit.next {s : List (List Str)} (hs : Vs s) {t : Str} {st : Sta} (h : Sit s t st) (c : Nat) : Sit s (t ++ oneS c) (stp s st c) := by
  match st, h with
  | none, h => exact fun u => by rw [app_as]; exact h _
  | some (k, b), ⟨hk, h1, h2⟩ =>
    have hlen : 1 ≤ (b ++ oneS c).length := by rw [app_len, one_len]; omega
    have hws : s.getD k [] ∈ s := List.mem_of_getElem? (getD_some hk)
    have hd := drop_getD hk
    have stay : mk (s.getD k []) (b ++ oneS c) ≠ some true ∨ ¬ k + 1 < s.length → Sit s (t ++ oneS c) (some (k, b ++ oneS c)) := fun hq => by
      refine ⟨hk, fun u => by rw [app_as, app_as]; exact h1 _, fun hl a ha => ?_⟩
      by_cases q : bg (b ++ oneS c) a = true
      · exfalso
        rcases bg_app_of q with e | e
        · rw [h2 hl a ha] at e; cases e
        · rcases hq with hq | hq
          · exact hq (mk_true.mpr (e ▸ ha))
          · exact hq hl
      · exact Bool.eq_false_iff.mpr q
    show Sit s (t ++ oneS c) (match mk (s.getD k []) (b ++ oneS c) with
      | none => none
      | some true => if k + 1 < s.length then some (k + 1, "") else some (k, b ++ oneS c)
      | some false => some (k, b ++ oneS c))
    cases e : mk (s.getD k []) (b ++ oneS c) with
    | none =>
      have hn := (mk_none hlen).mp e
      intro u hu
      rw [app_as, h1, ← app_as, hd] at hu
      obtain ⟨a, ha, v, hv, e2⟩ := mem_cons.mp hu
      have h3 : bg a (b ++ oneS c) = false := hn a ha
      by_cases h4 : bg (b ++ oneS c) a = true
      · rcases bg_app_of h4 with q | q
        · by_cases hl : k + 1 < s.length
          · rw [h2 hl a ha] at q; cases q
          · rw [List.drop_eq_nil_of_le (by omega), cmb_nil] at hv
            rw [List.mem_singleton.mp hv, app_e] at e2
            have : bg a (b ++ oneS c) = true := bg_iff.mpr ⟨cs u, by rw [← e2, cs_app]⟩
            rw [h3] at this; cases this
        · rw [q, bg_self] at h3; cases h3
      · have := bg_apart (x := u) (y := v) (Bool.eq_false_iff.mpr h4) h3
        rw [e2, bg_self] at this
        cases this
    | some y =>
      cases y with
      | false => exact stay (.inl (by rw [e]; simp))
      | true =>
        dsimp only
        by_cases hl : k + 1 < s.length
        · rw [if_pos hl]
          have hm := mk_true.mp e
          refine ⟨hl, fun u => ?_, fun hl2 a ha => ?_⟩
          · rw [app_as, h1, ← app_as, hd, e_app]
            constructor
            · intro hu
              obtain ⟨a, ha, v, hv, e2⟩ := mem_cons.mp hu
              have e3 := (hs.pf k _ (getD_some hk) hl).uniq hm ha e2
              rw [← e3] at e2
              rw [app_inj e2]
              exact hv
            · intro hu
              exact mem_cons.mpr ⟨_, hm, u, hu, rfl⟩
          · have hne := hs.ne _ (List.mem_of_getElem? (getD_some hl)) a ha
            rw [bg_no]
            rintro ⟨t, ht⟩
            have := congrArg List.length ht
            rw [List.length_append] at this
            have e5 : (cs a).length = a.length := AL.len_toList a
            have e6 : (cs ("" : Str)).length = 0 := rfl
            omega
        · rw [if_neg hl]
          exact stay (.inr hl)
theorem Sit.to {s : List (List Str)} (hs : Vs s) : ∀ (l : List Nat) {t : Str} {st : Sta}, Sit s t st → Sit s (t ++ ⟨l.toArray⟩) (l.foldl (stp s) st)
  | [], t, st, h => by
    rw [show t ++ (⟨([] : List Nat).toArray⟩ : Str) = t from app_e t]
    exact h
  | c :: l, t, st, h => by
    have := Sit.to hs l (h.next hs c)
    rw [app_as] at this
    have e : oneS c ++ (⟨l.toArray⟩ : Str) = ⟨(c :: l).toArray⟩ := strExt (by rw [cs_app]; simp [cs, oneS])
    rw [e] at this
    exact this
theorem sit_start {s : List (List Str)} (hs : Vs s) : Sit s "" (some (0, "")) := by
  refine ⟨hs.one, fun u => by rw [List.drop_zero], fun hl a ha => ?_⟩
  have hne := hs.ne _ (List.mem_of_getElem? (getD_some hs.one)) a ha
  rw [bg_no]
  rintro ⟨t, ht⟩
  have := congrArg List.length ht
  rw [List.length_append] at this
  have e5 : (cs a).length = a.length := AL.len_toList a
  have e6 : (cs ("" : Str)).length = 0 := rfl
  omega
theorem Sit.mde {s : List (List Str)} {t : Str} {st : Sta} (h : Sit s t st) : mde s st = decide (t ∈ cmb s) := by
  match st, h with
  | none, h =>
    have := h ""
    rw [app_e] at this
    rw [decide_eq_false this]
    rfl
  | some (k, b), ⟨hk, h1, h2⟩ =>
    have h3 := h1 ""
    rw [app_e, app_e] at h3
    have h4 : (t ∈ cmb s) = (b ∈ cmb (s.drop k)) := propext h3
    show (decide (k + 1 = s.length) && (mk (s.getD k []) b).getD false) = _
    rw [drop_getD hk] at h4
    by_cases hl : k + 1 = s.length
    · rw [List.drop_eq_nil_of_le (by omega), cmb_one] at h4
      simp only [h4]
      rw [decide_eq_true hl, Bool.true_and]
      cases e : mk (s.getD k []) b with
      | none => rw [decide_eq_false (fun z => by rw [mk_true.mpr z] at e; cases e)]; rfl
      | some y =>
        cases y with
        | true => rw [decide_eq_true (mk_true.mp e)]; rfl
        | false => rw [decide_eq_false (fun z => by rw [mk_true.mpr z] at e; cases e)]; rfl
    · rw [decide_eq_false hl, Bool.false_and]
      symm
      simp only [h4]
      refine decide_eq_false fun hm => ?_
      obtain ⟨a, ha, v, hv, e⟩ := mem_cons.mp hm
      have := h2 (by omega) a ha
      rw [bg_no] at this
      exact this ⟨cs v, by rw [e, cs_app]⟩
theorem mde_ok {s : List (List Str)} (hs : Vs s) (t : Str) : mde s (wnt s (some (0, "")) t) = decide (t ∈ cmb s) := by
  have := (Sit.to hs (cs t) (sit_start hs)).mde
  rw [e_app] at this
  exact this
def okw (E : List (List (List Str))) (sts : List Sta) (v : Str) : Bool := (E.zip sts).all fun x => !mde x.1 (wnt x.1 x.2 v)
def bhd (E : List (List (List Str))) (sts : List Sta) (v : Str) : List Sta := (E.zip sts).map fun x => wnt x.1 x.2 v
def nws (E : List (List (List Str))) (r : List (List Str)) (sts : List Sta) : List Str := (cmb r).filter (okw E sts)
def lf (E : List (List (List Str))) (r : List (List Str)) (sts : List Sta) : Nat := (nws E r sts).length
theorem bhd_len {E : List (List (List Str))} {sts : List Sta} (h : sts.length = E.length) (v : Str) : (bhd E sts v).length = E.length := by
  unfold bhd
  rw [List.length_map, List.length_zip, h, Nat.min_self]
theorem okw_app : ∀ (E : List (List (List Str))) (sts : List Sta) (a v : Str), okw E sts (a ++ v) = okw E (bhd E sts a) v
  | [], _, _, _ => rfl
  | _ :: _, [], _, _ => rfl
  | e :: E, st :: sts, a, v => by
    have ih := okw_app E sts a v
    show (!mde e (wnt e st (a ++ v)) && okw E sts (a ++ v)) = (!mde e (wnt e (wnt e st a) v) && okw E (bhd E sts a) v)
    rw [ih, wnt_app]
theorem nws_cons (E : List (List (List Str))) (ws : List Str) (r : List (List Str)) (sts : List Sta) : nws E (ws :: r) sts = ws.flatMap fun a => (nws E r (bhd E sts a)).map fun v => a ++ v := by
  unfold nws
  rw [cmb_cons, List.filter_flatMap]
  congr 1
  funext a
  rw [List.filter_map]
  congr 1
  refine List.filter_congr fun v _ => ?_
  exact okw_app E sts a v
theorem lf_cons (E : List (List (List Str))) (ws : List Str) (r : List (List Str)) (sts : List Sta) : lf E (ws :: r) sts = (ws.map fun a => lf E r (bhd E sts a)).sum := by
  unfold lf
  rw [nws_cons, List.length_flatMap]
  congr 2
  funext a
  rw [List.length_map]
def nw (E : List (List (List Str))) (sts : List Sta) : Bool := (E.zip sts).all fun x => !mde x.1 x.2
theorem okw_e (E : List (List (List Str))) (sts : List Sta) : okw E sts "" = nw E sts := rfl
theorem lf_nil (E : List (List (List Str))) (sts : List Sta) : lf E [] sts = if nw E sts = true then 1 else 0 := by
  unfold lf nws
  rw [cmb_nil, List.filter_cons, okw_e]
  split <;> rfl
theorem okw_dead : ∀ (E : List (List (List Str))) (sts : List Sta) (v : Str), (∀ st ∈ sts, st = none) → okw E sts v = true
  | [], _, _, _ => rfl
  | _ :: _, [], _, _ => rfl
  | e :: E, st :: sts, v, h => by
    rw [h st List.mem_cons_self]
    show (!mde e (wnt e none v) && okw E sts v) = true
    rw [okw_dead E sts v fun x hx => h x (List.mem_cons_of_mem _ hx), wnt_none]
    rfl
theorem lf_dead {E : List (List (List Str))} {r : List (List Str)} {sts : List Sta} (h : ∀ st ∈ sts, st = none) : lf E r sts = pls r := by
  unfold lf nws
  rw [List.filter_eq_self.mpr fun v _ => okw_dead E sts v h]
  exact cmb_len r
def beg (E : List (List (List Str))) : List Sta := E.map fun _ => some (0, "")
theorem okw_beg : ∀ {E : List (List (List Str))}, (∀ e ∈ E, Vs e) → ∀ v, okw E (beg E) v = decide (∀ e ∈ E, v ∉ cmb e)
  | [], _, v => by simp [okw]
  | e :: E, h, v => by
    have ih := okw_beg (E := E) (fun x hx => h x (List.mem_cons_of_mem _ hx)) v
    show (!mde e (wnt e (some (0, "")) v) && okw E (beg E) v) = _
    rw [ih, mde_ok (h e List.mem_cons_self)]
    simp [Bool.decide_and]
theorem fold_addW : ∀ (l acc : List Str), l.Nodup → l.foldl addW acc = acc ++ l.filter fun a => decide (a ∉ acc)
  | [], acc, _ => by simp
  | a :: l, acc, h => by
    have h1 := List.nodup_cons.mp h
    rw [List.foldl_cons, fold_addW l _ h1.2, List.filter_cons]
    unfold addW
    by_cases q : a ∈ acc
    · simp [q]
    · rw [if_neg q, if_pos (by simp [q]), List.append_assoc]
      congr 1
      show [a] ++ _ = a :: _
      rw [List.singleton_append]
      congr 1
      refine List.filter_congr fun x hx => ?_
      have : x ≠ a := fun e => h1.1 (e ▸ hx)
      simp [this]
theorem mem_addW {acc : List Str} {a x : Str} : x ∈ addW acc a ↔ x ∈ acc ∨ x = a := by
  unfold addW
  split
  · rename_i h
    exact ⟨.inl, fun q => q.elim id fun e => e ▸ h⟩
  · simp
theorem mem_fold : ∀ (l acc : List Str) (x : Str), x ∈ l.foldl addW acc ↔ x ∈ acc ∨ x ∈ l
  | [], acc, x => by simp
  | a :: l, acc, x => by
    rw [List.foldl_cons, mem_fold l, mem_addW, List.mem_cons, or_assoc]
theorem mem_dd {l : List Str} {x : Str} : x ∈ dd l ↔ x ∈ l := by
  unfold dd
  rw [mem_fold]
  simp
theorem mem_wrds {ps : List (List (List Str))} {x : Str} : x ∈ wrds ps ↔ ∃ s ∈ ps, x ∈ cmb s := by
  unfold wrds
  exact List.mem_flatMap
/-- the tries of each step that no earlier one makes -/
def own (ps : List (List (List Str))) (k : Nat) : List Str := nws (ps.take k) (ps.getD k []) (beg (ps.take k))
theorem row_own : ∀ {ps : List (List (List Str))}, (∀ s ∈ ps, Vs s) → ∀ n, n ≤ ps.length → dd (wrds (ps.take n)) = (List.range n).flatMap (own ps)
  | ps, _, 0, _ => by simp [wrds, dd]
  | ps, h, n + 1, hn => by
    have ih := row_own h n (by omega)
    have e : ps[n]? = some (ps.getD n []) := getD_some hn
    have hv := h _ (List.mem_of_getElem? e)
    rw [List.range_succ, List.flatMap_append, ← ih, List.take_add_one, e, Option.toList_some, wrds_snoc]
    unfold dd
    rw [List.foldl_append, fold_addW _ _ (cmb_nd hv.pf hv.nd)]
    congr 1
    rw [List.flatMap_cons, List.flatMap_nil, List.append_nil]
    unfold own nws
    refine List.filter_congr fun v _ => ?_
    rw [okw_beg (fun x hx => h x (List.mem_of_mem_take hx))]
    refine decide_eq_decide.mpr ?_
    have := mem_dd (l := wrds (ps.take n)) (x := v)
    unfold dd at this
    rw [this, mem_wrds]
    exact ⟨fun q e he hc => q ⟨e, he, hc⟩, fun q ⟨e, he, hc⟩ => q e he hc⟩
theorem row_all {ps : List (List (List Str))} (h : ∀ s ∈ ps, Vs s) : dd (wrds ps) = (List.range ps.length).flatMap (own ps) := by
  have := row_own h ps.length (Nat.le_refl _)
  rwa [List.take_length] at this
end A_k47
namespace A_k47
open PySem L2 AL
theorem putD_len (es : List (Key × D)) (k : Key) (d : D) : (putD es k d).length ≤ es.length + 1 := by
  unfold putD
  split
  · rw [List.length_map]; omega
  · rw [List.length_append]; simp
/-- what a dict of marks holds -/
def MkP (es : List (Key × D)) (T F : Str → Prop) : Prop := ∀ x, (T x → valD es (.inr x) = some (.bl true)) ∧ (¬ T x → F x → valD es (.inr x) = some (.bl false)) ∧ (¬ T x → ¬ F x → valD es (.inr x) = none)
theorem MkP.putT {es : List (Key × D)} {T F : Str → Prop} (h : MkP es T F) (w : Str) : MkP (putD es (.inr w) (.bl true)) (fun x => T x ∨ x = w) F := fun x => by
  rw [valD_put]
  by_cases e : x = w
  · subst e
    rw [if_pos rfl]
    exact ⟨fun _ => rfl, fun q => absurd (.inr rfl) q, fun q => absurd (.inr rfl) q⟩
  · rw [if_neg (fun z => e (Sum.inr.inj z))]
    obtain ⟨h1, h2, h3⟩ := h x
    exact ⟨fun q => h1 (q.resolve_right e), fun q => h2 fun z => q (.inl z), fun q => h3 fun z => q (.inl z)⟩
theorem MkP.putF {es : List (Key × D)} {T F : Str → Prop} (h : MkP es T F) (w : Str) (hn : valD es (.inr w) = none) : MkP (putD es (.inr w) (.bl false)) T (fun x => F x ∨ x = w) := fun x => by
  rw [valD_put]
  obtain ⟨h1, h2, h3⟩ := h x
  by_cases e : x = w
  · subst e
    rw [if_pos rfl]
    exact ⟨fun q => (by rw [h1 q] at hn; cases hn), fun _ _ => rfl, fun _ q => absurd (.inr rfl) q⟩
  · rw [if_neg (fun z => e (Sum.inr.inj z))]
    exact ⟨h1, fun q r => h2 q (r.resolve_right e), fun q r => h3 q fun z => r (.inl z)⟩
theorem MkP.there {es : List (Key × D)} {T F : Str → Prop} (h : MkP es T F) (w : Str) {d : D} (hn : valD es (.inr w) = some d) : MkP es T (fun x => F x ∨ x = w) := fun x => by
  obtain ⟨h1, h2, h3⟩ := h x
  refine ⟨h1, fun q r => ?_, fun q r => h3 q fun z => r (.inl z)⟩
  by_cases e : F x
  · exact h2 q e
  · have := h3 q e
    rw [r.resolve_left e, hn] at this
    cases this
theorem MkP.imp {es : List (Key × D)} {T F T' F' : Str → Prop} (h : MkP es T F) (h1 : ∀ x, T x ↔ T' x) (h2 : ∀ x, F x ↔ F' x) : MkP es T' F' := by
  have e1 : T = T' := funext fun x => propext (h1 x)
  have e2 : F = F' := funext fun x => propext (h2 x)
  subst e1 e2
  exact h
/-- a dict that is a part's marks -/
def MkD (ws : List Str) (es : List (Key × D)) : Prop := ∀ x, valD es (.inr x) = (mk ws x).map D.bl
/-- proper beginnings -/
def PB (w x : Str) : Prop := ∃ n, 1 ≤ n ∧ n < w.length ∧ x = cutS w none (some (n : Int))
theorem PB_iff {w x : Str} : PB w x ↔ 1 ≤ x.length ∧ x.length < w.length ∧ bg w x = true := by
  constructor
  · rintro ⟨n, h1, h2, rfl⟩
    have e : cs (cutS w none (some (n : Int))) = (cs w).take n := cutS_take w n
    have hl : (cutS w none (some (n : Int))).length = n := by
      rw [← AL.len_toList]
      show (cs _).length = n
      rw [e, List.length_take]
      have : (cs w).length = w.length := AL.len_toList w
      omega
    refine ⟨by omega, by omega, bg_iff.mpr ⟨(cs w).drop n, ?_⟩⟩
    rw [e, List.take_append_drop]
  · rintro ⟨h1, h2, h3⟩
    obtain ⟨t, ht⟩ := bg_iff.mp h3
    refine ⟨x.length, h1, h2, strExt ?_⟩
    rw [show cs (cutS w none (some (x.length : Int))) = (cs w).take x.length from cutS_take w _, ht, ← AL.len_toList]
    show cs x = (cs x ++ t).take (cs x).length
    rw [List.take_left]
theorem MkP.mk {ws : List Str} {es : List (Key × D)} (h : MkP es (fun x => x ∈ ws) (fun x => ∃ w ∈ ws, PB w x)) : MkD ws es := fun x => by
  obtain ⟨h1, h2, h3⟩ := h x
  unfold A_k47.mk
  by_cases a : x ∈ ws
  · rw [if_pos a, h1 a]; rfl
  · rw [if_neg a]
    by_cases b : ∃ w ∈ ws, PB w x
    · rw [h2 a b, if_pos]
      · rfl
      · obtain ⟨w, hw, hb⟩ := b
        obtain ⟨q1, q2, q3⟩ := PB_iff.mp hb
        exact List.any_eq_true.mpr ⟨w, hw, by simp [q1, q2, q3]⟩
    · rw [h3 a b, if_neg]
      · rfl
      · intro q
        obtain ⟨w, hw, q⟩ := List.any_eq_true.mp q
        simp only [Bool.and_eq_true, decide_eq_true_eq] at q
        exact b ⟨w, hw, PB_iff.mpr ⟨q.1.1, q.1.2, q.2⟩⟩
/-- marks of a step -/
structure Mks (s : List (List Str)) (M : List (List (Key × D))) : Prop where
  len : M.length = s.length
  at' : ∀ (i : Nat) ws es, s[i]? = some ws → M[i]? = some es → MkD ws es
def marksD (M : List (List (Key × D))) : D := .lst (M.map D.dk)
theorem Mks.snoc {s : List (List Str)} {M : List (List (Key × D))} (h : Mks s M) {ws : List Str} {es : List (Key × D)} (g : MkD ws es) : Mks (s ++ [ws]) (M ++ [es]) := by
  refine ⟨by simp [h.len], fun i us fs hi hj => ?_⟩
  by_cases e : i < s.length
  · rw [List.getElem?_append_left e] at hi
    rw [List.getElem?_append_left (by rw [h.len]; exact e)] at hj
    exact h.at' i us fs hi hj
  · have hl := (List.getElem?_eq_some_iff.mp hi).1
    rw [List.length_append, List.length_singleton] at hl
    have e2 : i = s.length := by omega
    subst e2
    simp at hi
    rw [← h.len] at hj
    simp at hj
    subst hi hj
    exact g
section
variable {C : AH} {P : D → AH → Prop}
theorem marks_ok {s : List (List Str)} (hF : Few s) (h5 : s.length ≤ 5) (k : ∀ M C', AL.Keep C C' → Mks s M → P (marksD M) C') : s_marks_of [stepD s] C P := by
  unfold s_marks_of a_marks_of stepD
  walk_at "go"
  intro p hp
  have hCp : put C p (.lst []) p = some (.lst (([] : List (List (Key × D))).map D.dk)) := put_same
  have hK := (AL.Keep.refl C).put (c := .lst []) hp
  generalize put C p (.lst []) = C1 at hCp hK ⊢
  walk_at "go"
  refine g_kForL (fun i st C' => ∃ (M : List (List (Key × D))) (x2 x3 x4 x5 : Option D), AL.Keep C C' ∧ C' p = some (.lst (M.map D.dk)) ∧ Mks (s.take i) M ∧ st = [some (.tup (s.map partD)), some (.ce p), x2, x3, x4, x5]) ⟨[], none, none, none, none, hK, hCp, ⟨by simp, fun i ws es h => by simp at h⟩, rfl⟩ (fun i y st C' hi hh => ?_) (fun st C' hh => ?_)
  · clear hK hCp
    obtain ⟨M, x2, x3, x4, x5, hK, hCp, hM, rfl⟩ := hh
    rw [List.getElem?_map] at hi
    cases e : s[i]? with
    | none => rw [e] at hi; cases hi
    | some ws =>
      rw [e] at hi
      cases hi
      obtain ⟨h12, h6⟩ := hF ws (List.mem_of_getElem? e)
      have hil : i < s.length := (List.getElem?_eq_some_iff.mp e).1
      walk_at "go"
      intro q hq
      have hpq : p ≠ q := ne_cell hCp hq
      have hq0 := hK.none hq
      have hCp := put_other (d := .dk []) hpq hCp
      have hCq : put C' q (.dk []) q = some (.dk []) := put_same
      have hK := hK.put (c := .dk []) hq0
      generalize put C' q (.dk []) = C2 at hCp hCq hK ⊢
      unfold partD
      walk_at "go"
      refine g_kForL (fun j st C3 => ∃ (es : List (Key × D)) (x4 x5 : Option D), AL.Keep C C3 ∧ C3 p = some (.lst (M.map D.dk)) ∧ C3 q = some (.dk es) ∧ es.length ≤ 10 * j ∧ MkP es (fun x => x ∈ ws.take j) (fun x => ∃ w ∈ ws.take j, PB w x) ∧ st = [some (.tup (s.map fun ws => .tup (strsL ws))), some (.ce p), some (.tup (strsL ws)), some (.ce q), x4, x5]) ⟨[], x4, x5, hK, hCp, hCq, by simp, fun x => ⟨by simp, by simp, fun _ _ => rfl⟩, rfl⟩ (fun j y st C3 hj hh => ?_) (fun st C3 hh => ?_)
      · clear hK hCp hCq
        obtain ⟨es, x4, x5, hK, hCp, hCq, hes, hP, rfl⟩ := hh
        unfold strsL at hj
        rw [List.getElem?_map] at hj
        cases e2 : ws[j]? with
        | none => rw [e2] at hj; cases hj
        | some w =>
          rw [e2] at hj
          cases hj
          have hw6 := h6 w (List.mem_of_getElem? e2)
          have hjl : j < ws.length := (List.getElem?_eq_some_iff.mp e2).1
          walk_at "go"
          refine g_lenS (by simp only [sizeLine]; omega) ?_
          walk_at "go"
          refine g_kForR (fun a st C4 => ∃ (es : List (Key × D)) (x5 : Option D), AL.Keep C C4 ∧ C4 p = some (.lst (M.map D.dk)) ∧ C4 q = some (.dk es) ∧ es.length ≤ 10 * j + a ∧ MkP es (fun x => x ∈ ws.take j) (fun x => (∃ w ∈ ws.take j, PB w x) ∨ ∃ n, 1 ≤ n ∧ n < 1 + a ∧ x = cutS w none (some (n : Int))) ∧ st = [some (.tup (s.map fun ws => .tup (strsL ws))), some (.ce p), some (.tup (strsL ws)), some (.ce q), some (.str w), x5]) ⟨es, x5, hK, hCp, hCq, by omega, hP.imp (fun x => Iff.rfl) (fun x => ⟨.inl, fun z => z.elim id fun ⟨n, h1, h2, _⟩ => by omega⟩), rfl⟩ (fun a st C4 ha hh => ?_) (fun st C4 hh => ?_)
          · clear hK hCp hCq hP hes
            obtain ⟨es, x5, hK, hCp, hCq, hes, hP, rfl⟩ := hh
            have ha2 : a < 6 := by omega
            walk_at "go"
            refine g_kSetd hCq ?_
            walk_at "go"
            rw [show (1 : Int) + (a : Int) = ((a + 1 : Nat) : Int) by omega]
            refine g_cutSt (by omega) ?_
            walk_at "go"
            have grow : ∀ x, ((∃ w ∈ ws.take j, PB w x) ∨ ∃ n, 1 ≤ n ∧ n < 1 + a ∧ x = cutS w none (some (n : Int))) ∨ x = cutS w none (some ((a + 1 : Nat) : Int)) ↔ (∃ w ∈ ws.take j, PB w x) ∨ ∃ n, 1 ≤ n ∧ n < 1 + (a + 1) ∧ x = cutS w none (some (n : Int)) := fun x => by
              constructor
              · rintro ((h | ⟨n, h1, h2, h3⟩) | h)
                · exact .inl h
                · exact .inr ⟨n, h1, by omega, h3⟩
                · exact .inr ⟨a + 1, by omega, by omega, h⟩
              · rintro (h | ⟨n, h1, h2, h3⟩)
                · exact .inl (.inl h)
                · by_cases e : n = a + 1
                  · subst e; exact .inr h3
                  · exact .inl (.inr ⟨n, h1, by omega, h3⟩)
            refine g_kSetd2 hCq (k := .inr (cutS w none (some ((a + 1 : Nat) : Int)))) rfl (by simp only [sizeLine]; omega) (fun d hd => ?_) (fun hn => ?_)
            · exact ⟨es, _, hK, hCp, hCq, by omega, (hP.there _ hd).imp (fun x => Iff.rfl) grow, rfl⟩
            · refine ⟨_, _, hK.put hq0, put_other hpq hCp, put_same, ?_, (hP.putF _ hn).imp (fun x => Iff.rfl) grow, rfl⟩
              have := putD_len es (.inr (cutS w none (some ((a + 1 : Nat) : Int)))) (.bl false)
              omega
          · clear hK hCp hCq hP hes
            obtain ⟨es, x5, hK, hCp, hCq, hes, hP, rfl⟩ := hh
            walk_at "go"
            refine g_putKG ?_
            walk_at "go"
            refine g_kPutKG hCq (k := .inr w) rfl (by simp only [sizeLine]; omega) ?_
            refine ⟨_, _, _, hK.put hq0, put_other hpq hCp, put_same, ?_, (hP.putT w).imp (fun x => ?_) (fun x => ?_), rfl⟩
            · have := putD_len es (.inr w) (.bl true)
              omega
            · rw [List.take_add_one, e2]
              simp
            · rw [List.take_add_one, e2]
              simp only [Option.toList_some, List.mem_append, List.mem_singleton]
              constructor
              · rintro (⟨v, h1, h2⟩ | ⟨n, h1, h2, h3⟩)
                · exact ⟨v, .inl h1, h2⟩
                · exact ⟨w, .inr rfl, n, h1, by omega, h3⟩
              · rintro ⟨v, h1 | h1, h2⟩
                · exact .inl ⟨v, h1, h2⟩
                · subst h1
                  obtain ⟨n, h1, h2, h3⟩ := h2
                  exact .inr ⟨n, h1, by omega, h3⟩
      · clear hK hCp hCq
        obtain ⟨es, x4, x5, hK, hCp, hCq, hes, hP, rfl⟩ := hh
        rw [show (strsL ws).length = ws.length from List.length_map .., List.take_length] at hP
        refine g_frzK rfl hCq ?_
        have hK := hK.del hq0
        have hCp := del_other hpq hCp
        generalize del C3 q = C4 at hK hCp
        walk_at "go"
        refine g_append hCp (by rw [List.length_map, hM.len, List.length_take]; simp only [sizeLine]; omega) ?_
        walk_at "go"
        refine ⟨M ++ [es], _, _, _, _, hK.put hp, by rw [put_same]; simp, ?_, rfl⟩
        rw [List.take_add_one, e]
        exact hM.snoc hP.mk
  · clear hK hCp
    obtain ⟨M, x2, x3, x4, x5, hK, hCp, hM, rfl⟩ := hh
    rw [List.length_map, List.take_length] at hM
    refine g_frzL rfl hCp ?_
    walk_at "go"
    exact k M _ (hK.del hp) hM
end
end A_k47
namespace A_k47
open PySem L2 AL
def staD : Sta → D
  | none => .non
  | some (k, b) => .tup [.int (k : Nat), .str b]
def stsD (sts : List Sta) : D := .tup (sts.map staD)
/-- a stand of a step -/
def Stv (s : List (List Str)) : Sta → Prop
  | none => True
  | some (k, b) => k < s.length ∧ b.length ≤ 6
theorem mk_len {ws : List Str} {x : Str} {y : Bool} (h6 : ∀ w ∈ ws, w.length ≤ 6) (h : mk ws x = some y) : x.length ≤ 6 := by
  unfold mk at h
  split at h
  · rename_i hm; exact h6 x hm
  · split at h
    · rename_i hm
      obtain ⟨w, hw, q⟩ := List.any_eq_true.mp hm
      simp only [Bool.and_eq_true, decide_eq_true_eq] at q
      have := h6 w hw
      omega
    · cases h
theorem stp_v {s : List (List Str)} (hF : Few s) {st : Sta} (h : Stv s st) (c : Nat) : Stv s (stp s st c) := by
  match st, h with
  | none, _ => exact True.intro
  | some (k, b), ⟨hk, hb⟩ =>
    have h6 : ∀ w ∈ s.getD k [], w.length ≤ 6 := (hF _ (List.mem_of_getElem? (getD_some hk))).2
    show Stv s (match mk (s.getD k []) (b ++ oneS c) with
      | none => none
      | some true => if k + 1 < s.length then some (k + 1, "") else some (k, b ++ oneS c)
      | some false => some (k, b ++ oneS c))
    cases e : mk (s.getD k []) (b ++ oneS c) with
    | none => exact True.intro
    | some y =>
      have hl := mk_len h6 e
      cases y with
      | false => exact ⟨hk, hl⟩
      | true =>
        dsimp only
        split
        · rename_i h2; exact ⟨h2, Nat.zero_le _⟩
        · exact ⟨hk, hl⟩
theorem fold_v {s : List (List Str)} (hF : Few s) : ∀ (l : List Nat) {st : Sta}, Stv s st → Stv s (l.foldl (stp s) st)
  | [], _, h => h
  | c :: l, _, h => fold_v hF l (stp_v hF h c)
theorem fold_none (s : List (List Str)) : ∀ l : List Nat, l.foldl (stp s) none = none
  | [] => rfl
  | _ :: l => fold_none s l
theorem Few.app {s : List (List Str)} (h : Few s) {k : Nat} {ws : List Str} (e : s[k]? = some ws) : ∀ w ∈ ws, w.length ≤ 6 := (h ws (List.mem_of_getElem? e)).2
section
variable {C : AH} {P : D → AH → Prop}
theorem went_ok {s : List (List Str)} {M : List (List (Key × D))} {st : Sta} {w : Str} (hF : Few s) (hM : Mks s M) (h5 : s.length ≤ 5) (hv : Stv s st) (k : P (staD (wnt s st w)) C) : s_went [marksD M, staD st, .str w] C P := by
  unfold s_went a_went
  walk_at "go"
  refine g_kForL (fun j st2 C' => C' = C ∧ ∃ (x3 x4 x5 : Option D), st2 = [some (marksD M), some (staD (((cs w).take j).foldl (stp s) st)), some (.str w), x3, x4, x5]) ⟨rfl, none, none, none, rfl⟩ (fun j y st2 C' hj hh => ?_) (fun st2 C' hh => ?_)
  · obtain ⟨rfl, x3, x4, x5, rfl⟩ := hh
    unfold signs at hj
    rw [List.getElem?_map] at hj
    cases e : (cs w)[j]? with
    | none =>
      rw [show w.cps.toList = cs w from rfl, e] at hj
      cases hj
    | some c =>
      rw [show w.cps.toList = cs w from rfl, e] at hj
      cases hj
      have hv2 := fold_v hF ((cs w).take j) hv
      have enext : ((cs w).take (j + 1)).foldl (stp s) st = stp s (((cs w).take j).foldl (stp s) st) c := by
        rw [List.take_add_one, e, Option.toList_some, List.foldl_append]
        rfl
      have eall : ((cs w).take j).foldl (stp s) st = none → wnt s st w = none := fun h => by
        unfold wnt
        rw [← List.take_append_drop j (cs w), List.foldl_append, h, fold_none]
      rw [enext]
      generalize ((cs w).take j).foldl (stp s) st = z at hv2 eall
      match z, hv2 with
      | none, _ =>
        rw [eall rfl] at k
        show aSeq _ _ _ _ _
        walk_at "go"
        refine g_ifT (fun K hK => by walk_at "go"; exact hK) ?_
        walk_at "go"
        exact k
      | some (n, b), ⟨hn, hb⟩ =>
        have hs := getD_some hn
        have hMn : M[n]? = some (M[n]'(by rw [hM.len]; exact hn)) := List.getElem?_eq_getElem _
        have hD := hM.at' n _ _ hs hMn
        generalize M[n]'(by rw [hM.len]; exact hn) = es at hMn hD
        have hix : atI (M.map D.dk) (n : Int) = some (.dk es) := atI_nat' (by rw [List.getElem?_map, hMn]; rfl)
        unfold marksD
        show aSeq _ _ _ _ _
        walk_at "go"
        refine g_ifF (fun K hK => by walk_at "go"; exact hK) ?_
        unfold staD
        walk_at "go"
        refine g_addS (by show b.length + 1 ≤ _; simp only [sizeLine]; omega) ?_
        walk_at "go"
        have hval := hD (b ++ oneS c)
        refine g_ifS ?_
        walk_at "go"
        refine g_inK ?_
        walk_at "go"
        refine g_ixL hix ?_
        refine g_kInK (es := es) (k := .inr (b ++ oneS c)) rfl rfl ?_
        rw [if_pos rfl, hval]
        have estp : stp s (some (n, b)) c = (match mk (s.getD n []) (b ++ oneS c) with
          | none => none
          | some true => if n + 1 < s.length then some (n + 1, "") else some (n, b ++ oneS c)
          | some false => some (n, b ++ oneS c)) := rfl
        cases e2 : mk (s.getD n []) (b ++ oneS c) with
        | none =>
          rw [e2] at estp
          rw [estp]
          rw [show (!(Option.map D.bl (none : Option Bool)).isSome) = true from rfl]
          walk_at "go"
          exact ⟨rfl, _, _, _, rfl⟩
        | some y =>
          rw [e2] at estp hval
          rw [show (!(Option.map D.bl (some y)).isSome) = false from rfl]
          walk_at "go"
          refine g_ifS ?_
          walk_at "go"
          refine g_getK ?_
          walk_at "go"
          refine g_ixL hix ?_
          walk_at "go"
          refine g_kGetK (es := es) (k := .inr (b ++ oneS c)) rfl rfl hval ?_
          walk_at "go"
          cases y with
          | false =>
            rw [estp]
            walk_at "go"
            exact ⟨rfl, _, _, _, rfl⟩
          | true =>
            rw [if_pos rfl]
            walk_at "go"
            rw [List.length_map, hM.len]
            walk_at "go"
            by_cases hl : n + 1 < s.length
            · rw [decide_eq_true (show (n : Int) < (s.length : Int) - 1 by omega)]
              rw [estp]
              dsimp only
              rw [if_pos hl]
              walk_at "go"
              exact ⟨rfl, _, _, _, rfl⟩
            · rw [decide_eq_false (show ¬ (n : Int) < (s.length : Int) - 1 by omega)]
              rw [estp]
              dsimp only
              rw [if_neg hl]
              walk_at "go"
              exact ⟨rfl, _, _, _, rfl⟩
  · obtain ⟨rfl, x3, x4, x5, rfl⟩ := hh
    have e : ((cs w).take (signs w).length).foldl (stp s) st = wnt s st w := by
      rw [show (signs w).length = (cs w).length from List.length_map .., List.take_length]
      rfl
    rw [e]
    walk_at "go"
    exact k
theorem is_made_ok {s : List (List Str)} {M : List (List (Key × D))} {st : Sta} (hM : Mks s M) (h1 : 1 ≤ s.length) (hv : Stv s st) (k : P (.bl (mde s st)) C) : s_is_made [marksD M, staD st] C P := by
  unfold s_is_made a_is_made
  match st, hv with
  | none, _ =>
    unfold staD
    walk_at "go"
    exact g_kAnd (fun h => by cases h) (fun _ => k)
  | some (n, b), ⟨hn, hb⟩ =>
    unfold staD marksD
    walk_at "go"
    refine g_kAnd (fun _ => ?_) (fun h => by cases h)
    walk_at "go"
    rw [List.length_map, hM.len]
    have e0 : mde s (some (n, b)) = (decide (n + 1 = s.length) && (mk (s.getD n []) b).getD false) := rfl
    rw [e0] at k
    by_cases e : n + 1 = s.length
    · rw [decide_eq_true (show (n : Int) = (s.length : Int) - 1 by omega)]
      refine g_kAnd (fun _ => ?_) (fun h => by cases h)
      rw [decide_eq_true e, Bool.true_and] at k
      have hs := getD_some hn
      have hMn : M[n]? = some (M[n]'(by rw [hM.len]; exact hn)) := List.getElem?_eq_getElem _
      have hD := hM.at' n _ _ hs hMn
      generalize M[n]'(by rw [hM.len]; exact hn) = es at hMn hD
      have hix : atI (M.map D.dk) (-1) = some (.dk es) := AL.atI_last (i := n) (by rw [List.length_map, hM.len]; exact e.symm) (by rw [List.getElem?_map, hMn]; rfl)
      walk_at "go"
      refine g_ixL hix ?_
      refine g_kGet2 (es := es) rfl ?_
      walk_at "go"
      refine g_kGet2' (es := es) (k := .inr b) rfl rfl ?_
      rw [hD b]
      cases e3 : mk (s.getD n []) b with
      | none => rw [e3] at k; exact k
      | some y => rw [e3] at k; exact k
    · rw [decide_eq_false (show ¬ (n : Int) = (s.length : Int) - 1 by omega)]
      rw [decide_eq_false e, Bool.false_and] at k
      exact g_kAnd (fun h => by cases h) (fun _ => k)
end
end A_k47
namespace A_k47
open PySem L2 AL
theorem sub_len {α : Type} [DecidableEq α] : ∀ {l m : List α}, l.Nodup → (∀ x ∈ l, x ∈ m) → l.length ≤ m.length
  | [], m, _, _ => Nat.zero_le _
  | x :: l, m, hn, hs => by
    obtain ⟨hx, hn⟩ := List.nodup_cons.mp hn
    have h1 := hs x (List.mem_cons_self ..)
    have := sub_len (m := m.erase x) hn fun y hy => (List.mem_erase_of_ne (fun e => hx (by rw [← e]; exact hy))).mpr (hs y (List.mem_cons_of_mem _ hy))
    rw [List.length_erase_of_mem h1] at this
    have := List.length_pos_of_mem h1
    rw [List.length_cons]
    omega
def staK : Sta → NestedKey
  | none => .none
  | some (k, b) => .tup [.num (k : Nat), .text b]
theorem staK_inj {a b : Sta} (h : staK a = staK b) : a = b := by
  match a, b with
  | none, none => rfl
  | none, some (k, b) => cases h
  | some (k, b), none => cases h
  | some (k, b), some (k', b') =>
    unfold staK at h
    injection h with h1
    injection h1 with h2 h3
    injection h3 with h4 _
    injection h2 with h2
    injection h4 with h4
    rw [h4, Int.ofNat.inj h2]
theorem stas_inj : ∀ {a b : List Sta}, a.map staK = b.map staK → a = b
  | [], [], _ => rfl
  | [], _ :: _, h => by cases h
  | _ :: _, [], h => by cases h
  | x :: a, y :: b, h => by
    rw [List.map_cons, List.map_cons] at h
    injection h with h1 h2
    rw [staK_inj h1, stas_inj h2]
def nkey (k : Nat) (sts : List Sta) : NestedKey := .tup [.num (k : Nat), .tup (sts.map staK)]
theorem nkey_inj {k k' : Nat} {a b : List Sta} (h : nkey k a = nkey k' b) : k = k' ∧ a = b := by
  unfold nkey at h
  injection h with h1
  injection h1 with h2 h3
  injection h3 with h4 _
  injection h2 with h2
  injection h4 with h4
  exact ⟨Int.ofNat.inj h2, stas_inj h4⟩
theorem keyN_sta (st : Sta) : keyN (staD st) = some (staK st) := by
  match st with
  | none => rfl
  | some (k, b) => rfl
theorem keyNs_sta : ∀ sts : List Sta, keyNs (sts.map staD) = some (sts.map staK)
  | [] => rfl
  | x :: xs => by
    rw [List.map_cons]
    unfold keyNs
    rw [keyN_sta, keyNs_sta xs]
    rfl
theorem depth_sta : ∀ sts : List Sta, NestedKey.depthAll (sts.map staK) ≤ 1
  | [] => Nat.zero_le _
  | x :: xs => by
    have := depth_sta xs
    have h2 : (staK x).depth ≤ 1 := by
      match x with
      | none => exact Nat.zero_le _
      | some (k, b) => exact Nat.le_refl _
    rw [List.map_cons]
    show max (staK x).depth (NestedKey.depthAll (xs.map staK)) ≤ 1
    omega
theorem keyT_nkey (k : Nat) (sts : List Sta) : keyT (.tup [.int (k : Nat), stsD sts]) = some (nkey k sts) := by
  have e : keyN (.tup [.int (k : Nat), stsD sts]) = some (nkey k sts) := by
    unfold stsD
    simp only [keyN, keyNs, keyNs_sta, Option.map_some]
    rfl
  unfold keyT
  rw [e]
  have hd : (nkey k sts).depth ≤ 8 := by
    have := depth_sta sts
    simp only [nkey, NestedKey.depth, NestedKey.depthAll]
    omega
  simp [isTup, hd]
/-- what is known of how many words are left -/
structure Kn (E : List (List (List Str))) (s : List (List Str)) (es : List (NestedKey × D)) : Prop where
  nd : (es.map (·.1)).Nodup
  ok : ∀ e ∈ es, ∃ k v, k < s.length ∧ v ∈ cmb (s.take k) ∧ e = (nkey k (bhd E (beg E) v), .int (lf E (s.drop k) (bhd E (beg E) v) : Nat))
theorem Kn.nil (E : List (List (List Str))) (s : List (List Str)) : Kn E s [] := ⟨by simp, by simp⟩
theorem Kn.val {E : List (List (List Str))} {s : List (List Str)} {es : List (NestedKey × D)} (h : Kn E s es) {k : Nat} {sts : List Sta} {d : D} (e : valND es (nkey k sts) = some d) : d = .int (lf E (s.drop k) sts : Nat) := by
  unfold valND at e
  cases q : es.find? fun kv => decide (kv.1 = nkey k sts) with
  | none => rw [q] at e; cases e
  | some kv =>
    rw [q] at e
    cases e
    have h1 := List.find?_some q
    simp only [decide_eq_true_eq] at h1
    obtain ⟨k', v, hk, hv, hkv⟩ := h.ok kv (List.mem_of_find?_eq_some q)
    rw [hkv] at h1 ⊢
    obtain ⟨e1, e2⟩ := nkey_inj h1
    rw [e1, e2]
theorem valND_put {es : List (NestedKey × D)} {k k' : NestedKey} {d : D} : valND (putND es k d) k' = if k' = k then some d else valND es k' := by
  unfold putND
  split
  · rename_i h
    induction es with
    | nil => simp [valND] at h
    | cons e es ih =>
      by_cases e1 : e.1 = k
      · by_cases e2 : k' = k
        · subst e2
          simp [valND, e1]
        · have e3 : ¬ e.1 = k' := fun z => e2 (by rw [← z, e1])
          have e4 : ¬ k = k' := fun z => e2 z.symm
          rw [if_neg e2]
          by_cases hk : (valND es k).isSome = true
          · have := ih hk
            rw [if_neg e2] at this
            unfold valND at this ⊢
            simp only [List.map_cons, e1, if_true, List.find?_cons, e4, decide_false] at this ⊢
            rw [this]
            try simp [e3]
          · have hn : ∀ x ∈ es, ¬ x.1 = k := by
              intro x hx z
              apply hk
              unfold valND
              rw [Option.isSome_map, List.find?_isSome]
              exact ⟨x, hx, decide_eq_true z⟩
            have hm : (es.map fun kv => if kv.1 = k then (kv.1, d) else kv) = es := by
              conv => rhs; rw [← List.map_id es]
              refine List.map_congr_left fun x hx => ?_
              rw [if_neg (hn x hx)]; rfl
            unfold valND
            rw [List.map_cons, if_pos e1, hm, List.find?_cons, List.find?_cons]
            simp [e3]
      · have h' : (valND es k).isSome = true := by
          unfold valND at h ⊢
          rw [List.find?_cons] at h
          simpa [e1] using h
        have := ih h'
        unfold valND at this ⊢
        rw [List.map_cons, if_neg e1, List.find?_cons, List.find?_cons]
        by_cases e2 : e.1 = k'
        · have e5 : ¬ k' = k := fun z => e1 (by rw [e2, z])
          simp [e2, e5]
        · simp only [e2, decide_false]
          exact this
  · rename_i h
    have hn : valND es k = none := by simpa using h
    unfold valND at hn ⊢
    rw [List.find?_append]
    by_cases e2 : k' = k
    · subst e2
      have : es.find? (fun kv => decide (kv.1 = k')) = none := by simpa using hn
      rw [this]
      simp
    · rw [if_neg e2]
      have : ([(k, d)] : List (NestedKey × D)).find? (fun kv => decide (kv.1 = k')) = none := by
        simp [Ne.symm e2]
      rw [this, Option.or_none]
theorem Kn.put {E : List (List (List Str))} {s : List (List Str)} {es : List (NestedKey × D)} (h : Kn E s es) {k : Nat} {v : Str} (hk : k < s.length) (hv : v ∈ cmb (s.take k)) : Kn E s (putND es (nkey k (bhd E (beg E) v)) (.int (lf E (s.drop k) (bhd E (beg E) v) : Nat))) := by
  cases hn : valND es (nkey k (bhd E (beg E) v)) with
  | some d =>
    unfold putND
    rw [hn, if_pos (show (some d).isSome = true from rfl)]
    refine ⟨?_, fun e he => ?_⟩
    · rw [List.map_map]
      have : ((fun x : NestedKey × D => x.1) ∘ fun kv => if kv.1 = nkey k (bhd E (beg E) v) then (kv.1, D.int (lf E (s.drop k) (bhd E (beg E) v) : Nat)) else kv) = fun x => x.1 := by
        funext x
        simp only [Function.comp]
        split <;> rfl
      rw [this]
      exact h.nd
    · obtain ⟨kv, hkv, rfl⟩ := List.mem_map.mp he
      by_cases e : kv.1 = nkey k (bhd E (beg E) v)
      · rw [if_pos e, e]
        exact ⟨k, v, hk, hv, rfl⟩
      · rw [if_neg e]
        exact h.ok kv hkv
  | none =>
    unfold putND
    rw [hn, if_neg (by simp)]
    refine ⟨?_, fun e he => ?_⟩
    · rw [List.map_append]
      refine List.nodup_append.mpr ⟨h.nd, by simp, fun a ha b hb hab => ?_⟩
      rw [List.map_cons, List.map_nil, List.mem_singleton] at hb
      subst hab
      obtain ⟨kv, hkv, e⟩ := List.mem_map.mp ha
      unfold valND at hn
      have : es.find? (fun kv => decide (kv.1 = nkey k (bhd E (beg E) v))) = none := by
        cases q : es.find? (fun kv => decide (kv.1 = nkey k (bhd E (beg E) v))) with
        | none => rfl
        | some x => rw [q] at hn; cases hn
      have h2 := List.find?_eq_none.mp this kv hkv
      simp only [decide_eq_true_eq] at h2
      exact h2 (e.trans hb)
    · rcases List.mem_append.mp he with q | q
      · exact h.ok e q
      · exact ⟨k, v, hk, hv, List.mem_singleton.mp q⟩
theorem Kn.few {E : List (List (List Str))} {s : List (List Str)} {es : List (NestedKey × D)} (h : Kn E s es) (hF : Few s) (h5 : s.length ≤ 5) : es.length ≤ 248832 * 5 := by
  have h1 : (es.map (·.1)).length ≤ ((List.range s.length).flatMap fun k => (cmb (s.take k)).map fun v => nkey k (bhd E (beg E) v)).length := by
    refine sub_len h.nd fun x hx => ?_
    obtain ⟨e, he, rfl⟩ := List.mem_map.mp hx
    obtain ⟨k, v, hk, hv, rfl⟩ := h.ok e he
    exact List.mem_flatMap.mpr ⟨k, List.mem_range.mpr hk, List.mem_map.mpr ⟨v, hv, rfl⟩⟩
  rw [List.length_map, List.length_flatMap] at h1
  refine Nat.le_trans h1 ?_
  have h2 := A_k47.sum_few (L := (List.range s.length).map fun k => ((cmb (s.take k)).map fun v => nkey k (bhd E (beg E) v)).length) (b := 248832) (fun x hx => by
    obtain ⟨k, hk, rfl⟩ := List.mem_map.mp hx
    have hk := List.mem_range.mp hk
    rw [List.length_map]
    refine Nat.le_trans (hF.take k).bound.1 ?_
    exact pow12 (by rw [List.length_take]; omega))
  rw [List.length_map, List.length_range] at h2
  exact Nat.le_trans h2 (Nat.mul_le_mul_left _ h5)
/-- an object of the class -/
structure GoAt (C : AH) (p q : Addr) (E : List (List (List Str))) (s : List (List Str)) : Prop where
  ob : ∃ Ms : List (List (List (Key × D))), C p = some (.ob "Going" [("step", stepD s), ("earlier", .lst (Ms.map marksD)), ("known", .ce q)]) ∧ Ms.length = E.length ∧ ∀ (i : Nat) e M, E[i]? = some e → Ms[i]? = some M → Mks e M
  kn : ∃ es, C q = some (.dn es) ∧ Kn E s es
/-- bounds of a step -/
structure Bd (s : List (List Str)) : Prop where
  one : 1 ≤ s.length
  five : s.length ≤ 5
  few : Few s
theorem Bd.begv {E : List (List (List Str))} (h : ∀ e ∈ E, Bd e) : ∀ (i : Nat) e st, E[i]? = some e → (beg E)[i]? = some st → Stv e st := fun i e st h1 h2 => by
  unfold beg at h2
  rw [List.getElem?_map, h1] at h2
  cases h2
  exact ⟨(h e (List.mem_of_getElem? h1)).one, Nat.zero_le _⟩
/-- stands that may be -/
structure Sts (E : List (List (List Str))) (sts : List Sta) : Prop where
  len : sts.length = E.length
  ok : ∀ (i : Nat) e st, E[i]? = some e → sts[i]? = some st → Stv e st
theorem sts_beg {E : List (List (List Str))} (h : ∀ e ∈ E, Bd e) : Sts E (beg E) := ⟨by unfold beg; rw [List.length_map], Bd.begv h⟩
theorem bhd_at {E : List (List (List Str))} {sts : List Sta} {i : Nat} {e : List (List Str)} {st : Sta} (h1 : E[i]? = some e) (h2 : sts[i]? = some st) (v : Str) : (bhd E sts v)[i]? = some (wnt e st v) := by
  unfold bhd
  rw [List.getElem?_map, show (E.zip sts)[i]? = some (e, st) from List.getElem?_zip_eq_some.mpr ⟨h1, h2⟩]
  rfl
theorem Sts.bhd {E : List (List (List Str))} {sts : List Sta} (hE : ∀ e ∈ E, Bd e) (h : Sts E sts) (v : Str) : Sts E (bhd E sts v) := by
  refine ⟨bhd_len h.len v, fun i e st h1 h2 => ?_⟩
  have hi := (List.getElem?_eq_some_iff.mp h1).1
  have h3 : sts[i]? = some (sts[i]'(by rw [h.len]; exact hi)) := List.getElem?_eq_getElem _
  rw [bhd_at h1 h3] at h2
  cases h2
  exact fold_v (hE e (List.mem_of_getElem? h1)).few (cs v) (h.ok i e _ h1 h3)
theorem bhd_app (E : List (List (List Str))) : ∀ (sts : List Sta) (a v : Str), sts.length = E.length → A_k47.bhd E (A_k47.bhd E sts a) v = A_k47.bhd E sts (a ++ v) := by
  induction E with
  | nil => intro sts a v _; rfl
  | cons e E ih =>
    intro sts a v h
    match sts, h with
    | st :: sts, h =>
      show wnt e (wnt e st a) v :: A_k47.bhd E (A_k47.bhd E sts a) v = wnt e st (a ++ v) :: A_k47.bhd E sts (a ++ v)
      rw [ih sts a v (by simpa using h), wnt_app]
section
variable {C : AH} {P : D → AH → Prop} {p q : Addr} {E : List (List (List Str))} {s : List (List Str)}
theorem begun_ok (h : GoAt C p q E s) (h3 : E.length ≤ 10) (k : P (stsD (beg E)) C) : s_Going_begun [.ce p] C P := by
  obtain ⟨⟨Ms, hp, hl, hM⟩, _⟩ := h
  unfold s_Going_begun a_Going_begun
  walk_at "go"
  refine g_kFld hp rfl ?_
  walk_at "go"
  refine g_kLcMap (fun _ => .tup [.int 0, .str ""]) (by rw [List.length_map, hl]; simp only [sizeLine]; omega) (fun d hd R hR => ?_) ?_
  · walk_at "go"
    exact hR
  · walk_at "go"
    have e : D.tup ((Ms.map marksD).map fun _ => D.tup [.int 0, .str ""]) = stsD (beg E) := by
      unfold stsD beg
      rw [List.map_map, List.map_map]
      refine congrArg D.tup ?_
      rw [show (((fun _ => D.tup [.int 0, .str ""]) : D → D) ∘ marksD) = fun _ => D.tup [.int 0, .str ""] from rfl, show (staD ∘ fun (_ : List (List Str)) => (some (0, "") : Sta)) = fun _ => D.tup [.int 0, .str ""] from rfl, List.map_const', List.map_const', hl]
    rw [e]
    exact k
theorem zip_at {Ms : List (List (List (Key × D)))} {sts : List Sta} {i : Nat} {y : D} (hl : Ms.length = E.length) (hs : sts.length = E.length) (h : (zipD (Ms.map marksD) (sts.map staD))[i]? = some y) : ∃ e M st, E[i]? = some e ∧ Ms[i]? = some M ∧ sts[i]? = some st ∧ y = .tup [marksD M, staD st] := by
  have hi := (List.getElem?_eq_some_iff.mp h).1
  rw [zipD_len, List.length_map, List.length_map, hl, hs, Nat.min_self] at hi
  have h1 : Ms[i]? = some (Ms[i]'(by rw [hl]; exact hi)) := List.getElem?_eq_getElem _
  have h2 : sts[i]? = some (sts[i]'(by rw [hs]; exact hi)) := List.getElem?_eq_getElem _
  have h3 : E[i]? = some E[i] := List.getElem?_eq_getElem hi
  refine ⟨_, _, _, h3, h1, h2, ?_⟩
  rw [zipD_get (x := marksD (Ms[i]'(by rw [hl]; exact hi))) (y := staD (sts[i]'(by rw [hs]; exact hi))) (by rw [List.getElem?_map, h1]; rfl) (by rw [List.getElem?_map, h2]; rfl)] at h
  exact (Option.some.inj h).symm
theorem behind_ok (h : GoAt C p q E s) (hE : ∀ e ∈ E, Bd e) (h3 : E.length ≤ 10) {sts : List Sta} (hs : Sts E sts) {w : Str} (k : P (stsD (bhd E sts w)) C) : s_Going_behind [.ce p, stsD sts, .str w] C P := by
  obtain ⟨⟨Ms, hp, hl, hM⟩, _⟩ := h
  unfold s_Going_behind a_Going_behind
  walk_at "go"
  refine g_izG ?_
  walk_at "go"
  refine g_kFld hp rfl ?_
  walk_at "go"
  refine g_kIZG (ds := Ms.map marksD) (es := sts.map staD) (fun _ => rfl) (fun _ => rfl) ?_
  refine g_kLc (fun i acc C' => acc = ((bhd E sts w).take i).map staD ∧ C' = C) (by rw [zipD_len, List.length_map, List.length_map, hl]; simp only [sizeLine]; omega) ⟨rfl, rfl⟩ (fun i y acc C' hi hw => ?_) (fun acc C' hw => ?_)
  · obtain ⟨rfl, rfl⟩ := hw
    obtain ⟨e, M, st, h1, h2, h4, rfl⟩ := zip_at hl hs.len hi
    have hb := hE e (List.mem_of_getElem? h1)
    walk_at "go"
    refine went_ok hb.few (hM i e M h1 h2) hb.five (hs.ok i e st h1 h4) ?_
    refine ⟨?_, rfl⟩
    rw [List.take_add_one, bhd_at h1 h4, List.map_append]
    rfl
  · obtain ⟨rfl, rfl⟩ := hw
    rw [zipD_len, List.length_map, List.length_map, hl, hs.len, Nat.min_self]
    rw [show ((bhd E sts w).take E.length) = bhd E sts w by rw [← bhd_len hs.len w, List.take_length]]
    walk_at "go"
    exact k
theorem nw_any (E : List (List (List Str))) (sts : List Sta) : (!((E.zip sts).map fun x => mde x.1 x.2).any id) = nw E sts := by
  unfold nw
  rw [List.any_map, List.not_any_eq_all_not]
  rfl
theorem is_new_ok (h : GoAt C p q E s) (hE : ∀ e ∈ E, Bd e) (h3 : E.length ≤ 10) {sts : List Sta} (hs : Sts E sts) (k : P (.bl (nw E sts)) C) : s_Going_is_new [.ce p, stsD sts] C P := by
  obtain ⟨⟨Ms, hp, hl, hM⟩, _⟩ := h
  unfold s_Going_is_new a_Going_is_new
  walk_at "go"
  refine g_izG ?_
  walk_at "go"
  refine g_kFld hp rfl ?_
  walk_at "go"
  refine g_kIZG (ds := Ms.map marksD) (es := sts.map staD) (fun _ => rfl) (fun _ => rfl) ?_
  refine g_kLc (fun i acc C' => acc = (((E.zip sts).map fun x => mde x.1 x.2).take i).map D.bl ∧ C' = C) (by rw [zipD_len, List.length_map, List.length_map, hl]; simp only [sizeLine]; omega) ⟨rfl, rfl⟩ (fun i y acc C' hi hw => ?_) (fun acc C' hw => ?_)
  · obtain ⟨rfl, rfl⟩ := hw
    obtain ⟨e, M, st, h1, h2, h4, rfl⟩ := zip_at hl hs.len hi
    have hb := hE e (List.mem_of_getElem? h1)
    walk_at "go"
    refine is_made_ok (hM i e M h1 h2) hb.one (hs.ok i e st h1 h4) ?_
    refine ⟨?_, rfl⟩
    rw [List.take_add_one, List.getElem?_map, show (E.zip sts)[i]? = some (e, st) from List.getElem?_zip_eq_some.mpr ⟨h1, h4⟩, List.map_append]
    rfl
  · obtain ⟨rfl, rfl⟩ := hw
    have hz : ((E.zip sts).map fun x => mde x.1 x.2).length = E.length := by rw [List.length_map, List.length_zip, hs.len, Nat.min_self]
    rw [zipD_len, List.length_map, List.length_map, hl, hs.len, Nat.min_self]
    rw [show (((E.zip sts).map fun x => mde x.1 x.2).take E.length) = (E.zip sts).map fun x => mde x.1 x.2 by rw [← hz, List.take_length]]
    walk_at "go"
    refine g_any (bs := (E.zip sts).map fun x => mde x.1 x.2) (bls_map _) ?_
    walk_at "go"
    rw [nw_any]
    exact k
end
end A_k47
namespace A_k47
open PySem L2 AL
section
variable {P : D → AH → Prop} {p q : Addr} {E : List (List (List Str))} {s : List (List Str)}
theorem dead_iff (sts : List Sta) : (((sts.map staD).filter fun d => !AL.isNon d).map id).isEmpty = true ↔ ∀ st ∈ sts, st = none := by
  rw [List.map_id, List.isEmpty_iff, List.filter_eq_nil_iff]
  constructor
  · intro h st hst
    have := h (staD st) (List.mem_map.mpr ⟨st, hst, rfl⟩)
    match st, this with
    | none, _ => rfl
    | some (k, b), z => exact absurd rfl z
  · intro h d hd
    obtain ⟨st, hst, rfl⟩ := List.mem_map.mp hd
    rw [h st hst]
    simp [staD, AL.isNon]
theorem GoAt.oth {C C' : AH} (h : GoAt C p q E s) {es : List (NestedKey × D)} (hO : Oth q C C') (hq : C' q = some (.dn es)) (hk : Kn E s es) : GoAt C' p q E s := by
  obtain ⟨⟨Ms, hp, hl, hM⟩, ⟨es0, hq0, _⟩⟩ := h
  have hpq : p ≠ q := fun z => by rw [z, hq0] at hp; cases hp
  exact ⟨⟨Ms, hO p _ hpq hp, hl, hM⟩, es, hq, hk⟩
theorem left_ok (hs : Bd s) (hE : ∀ e ∈ E, Bd e) (h3 : E.length ≤ 10) : ∀ (n k : Nat) (v : Str) (C : AH) (P : D → AH → Prop), s.length = k + n → v ∈ cmb (s.take k) → GoAt C p q E s → ∀ f, n < f →
    (∀ C', GoAt C' p q E s → Oth q C C' → P (.int (lf E (s.drop k) (bhd E (beg E) v) : Nat)) C') → s_Going_left f [.ce p, .int (k : Nat), stsD (bhd E (beg E) v)] C P := by
  intro n
  induction n with
  | zero =>
    intro k v C P hl hv hG f hf K
    match f, hf with
    | f + 1, _ =>
      have hst := (sts_beg hE).bhd hE v
      have hG2 := hG
      obtain ⟨⟨Ms, hp, hMl, hM⟩, ⟨es, hq, hKn⟩⟩ := hG
      have K2 := K C hG2 (Oth.refl _ _)
      rw [List.drop_eq_nil_of_le (by omega), lf_nil] at K2
      show aBody 6 (a_Going_left (s_Going_left f)) _ C P
      unfold a_Going_left
      generalize bhd E (beg E) v = sts at hst K2
      walk_at "go"
      refine g_ifT (fun K hK => ?_) ?_
      · walk_at "go"
        refine g_kFld hp rfl ?_
        unfold stepD
        walk_at "go"
        rw [List.length_map, decide_eq_true (show (k : Int) = (s.length : Int) by omega)]
        exact hK
      walk_at "go"
      refine g_kMth hp rfl ?_
      walk_at "go"
      refine is_new_ok hG2 hE h3 hst ?_
      walk_at "go"
      by_cases e : nw E sts = true
      · rw [if_pos e] at K2; rw [e]; exact K2
      · rw [if_neg e] at K2
        rw [show nw E sts = false from Bool.eq_false_iff.mpr e]
        exact K2
  | succ n ih =>
    intro k v C P hl hv hG f hf K
    match f, hf with
    | f + 1, hf =>
      have hkl : k < s.length := by omega
      have hst := (sts_beg hE).bhd hE v
      have hG2 := hG
      obtain ⟨⟨Ms, hp, hMl, hM⟩, ⟨es, hq, hKn⟩⟩ := hG
      show aBody 6 (a_Going_left (s_Going_left f)) _ C P
      unfold a_Going_left
      walk_at "go"
      refine g_ifF (fun K hK => ?_) ?_
      · walk_at "go"
        refine g_kFld hp rfl ?_
        unfold stepD
        walk_at "go"
        rw [List.length_map, decide_eq_false (show ¬ (k : Int) = (s.length : Int) by omega)]
        exact hK
      generalize hsts : bhd E (beg E) v = sts
      rw [hsts] at hst K
      have tst : ∀ (K : Bool → AH → Prop), K ((((sts.map staD).filter fun d => !AL.isNon d).map id).isEmpty) C → aB (aOp (aEqNil false) (aLc (aIT (aVar 2)) (aGName 5) (aB (aOp aNotN (aVar 5) (aC .non))) (aVar 5) [5]) (aLst (aNil))) [some (.ce p), some (.int (k : Nat)), some (stsD sts), none, none, none] C K := by
        intro K hK
        unfold stsD
        walk_at "go"
        refine g_kLcFilter (fun d => !AL.isNon d) id (by rw [List.length_map, hst.len]; simp only [sizeLine]; omega) (fun d hd R hR => ?_) (fun d hd hpd R hR => ?_) ?_
        · walk_at "go"
          exact hR
        · walk_at "go"
          exact hR
        · walk_at "go"
          exact hK
      by_cases hdead : ∀ st ∈ sts, st = none
      · walk_at "go"
        refine g_ifT (fun K hK => tst _ ?_) ?_
        · rw [(dead_iff sts).mpr hdead]
          exact hK
        walk_at "go"
        refine g_kFld hp rfl ?_
        unfold stepD
        walk_at "go"
        refine g_cutDropT ?_
        rw [← List.map_drop]
        walk_at "go"
        refine size_ok (s := s.drop k) (fun ws hw => hs.few ws (List.mem_of_mem_drop hw)) ?_
        walk_at "go"
        have K2 := K C hG2 (Oth.refl _ _)
        rw [lf_dead hdead] at K2
        exact K2
      · walk_at "go"
        refine g_ifF (fun K hK => tst _ ?_) ?_
        · rw [show (((sts.map staD).filter fun d => !AL.isNon d).map id).isEmpty = false from Bool.eq_false_iff.mpr fun z => hdead ((dead_iff sts).mp z)]
          exact hK
        have hkey := keyT_nkey k sts
        have fin : ∀ (es' : List (NestedKey × D)) (C' : AH) (rt : D → AH → Prop) (nx bk ct : ASt → AH → Prop) (x3 x4 x5 : Option D), GoAt C' p q E s → C' q = some (.dn es') → valND es' (nkey k sts) = some (.int (lf E (s.drop k) sts : Nat)) → rt (.int (lf E (s.drop k) sts : Nat)) C' →
            aRet (aGetN (aFld "Going" "known" (aVar 0)) (aTup (aCons (aVar 1) (aCons (aVar 2) (aNil))))) ⟨nx, rt, bk, ct⟩ [some (.ce p), some (.int (k : Nat)), some (stsD sts), x3, x4, x5] C' := by
          intro es' C' rt nx bk ct x3 x4 x5 hG' hq' hval hrt
          obtain ⟨⟨Ms', hp', _, _⟩, ⟨es2, hq2, _⟩⟩ := hG'
          walk_at "go"
          refine g_kFld hp' rfl ?_
          walk_at "go"
          refine g_kGetN ((lookD_dn hq' hkey).trans (congrArg some hval)) ?_
          exact hrt
        walk_at "go"
        refine g_ifJ (fun st C' => ∃ (es' : List (NestedKey × D)) (x3 x4 : Option D), GoAt C' p q E s ∧ Oth q C C' ∧ C' q = some (.dn es') ∧ valND es' (nkey k sts) = some (.int (lf E (s.drop k) sts : Nat)) ∧ st = [some (.ce p), some (.int (k : Nat)), some (stsD sts), x3, x4, none]) (fun N hN => ?_) (fun st C' hw => ?_)
        rotate_left
        · obtain ⟨es', x3, x4, hG', hO', hq', hval, rfl⟩ := hw
          exact fin es' C' P _ _ _ x3 x4 none hG' hq' hval (K C' hG' hO')
        refine g_ifS ?_
        walk_at "go"
        refine g_kFld hp rfl ?_
        refine g_kInN (lookD_dn hq hkey) ?_
        rw [if_pos rfl]
        cases hval : valND es (nkey k sts) with
        | some d =>
          have hd := hKn.val hval
          rw [show (!(some d).isSome) = false from rfl]
          walk_at "go"
          exact hN _ _ ⟨es, none, none, hG2, Oth.refl _ _, hq, by rw [hval, hd], rfl⟩
        | none =>
          rw [show (!(none : Option D).isSome) = true from rfl]
          walk_at "go"
          refine g_kFld hp rfl ?_
          have hws := getD_some hkl
          generalize hwe : s.getD k [] = ws at hws
          have hd : s.drop k = ws :: s.drop (k + 1) := by rw [drop_getD hkl, hwe]
          unfold stepD
          walk_at "go"
          refine g_ixT (d := partD ws) (atI_nat' (by rw [List.getElem?_map, hws]; rfl)) ?_
          unfold partD
          walk_at "go"
          refine g_kForL (fun j st C' => ∃ (x4 : Option D), GoAt C' p q E s ∧ Oth q C C' ∧ st = [some (.ce p), some (.int (k : Nat)), some (stsD sts), some (.int (((ws.take j).map fun a => lf E (s.drop (k + 1)) (bhd E sts a)).sum : Nat)), x4, none]) ⟨none, hG2, Oth.refl _ _, rfl⟩ (fun j y st C' hj hh => ?_) (fun st C' hh => ?_)
          · obtain ⟨x4, hG', hO', rfl⟩ := hh
            unfold strsL at hj
            rw [List.getElem?_map] at hj
            cases e2 : ws[j]? with
            | none => rw [e2] at hj; cases hj
            | some a =>
              rw [e2] at hj
              cases hj
              have hp' := hG'.ob
              obtain ⟨Ms', hp', _, _⟩ := hp'
              walk_at "go"
              refine g_kMth hp' rfl ?_
              walk_at "go"
              refine g_kMth hp' rfl ?_
              walk_at "go"
              refine behind_ok hG' hE h3 hst ?_
              walk_at "go"
              rw [show (k : Int) + 1 = ((k + 1 : Nat) : Int) by omega]
              have hba : bhd E sts a = bhd E (beg E) (v ++ a) := by rw [← hsts, bhd_app E _ _ _ (by unfold beg; rw [List.length_map])]
              rw [hba]
              refine ih (k + 1) (v ++ a) C' _ (by omega) ?_ hG' f (by omega) (fun C3 hG3 hO3 => ?_)
              · rw [List.take_add_one, hws, Option.toList_some, cmb_snoc]
                exact List.mem_flatMap.mpr ⟨v, hv, List.mem_map.mpr ⟨a, List.mem_of_getElem? e2, rfl⟩⟩
              · walk_at "go"
                refine ⟨some (.str a), hG3, hO'.trans hO3, ?_⟩
                rw [List.take_add_one, e2, List.map_append, List.sum_append, ← hba]
                simp
          · obtain ⟨x4, hG', hO', rfl⟩ := hh
            rw [show (strsL ws).length = ws.length from List.length_map .., List.take_length]
            have hlf : (ws.map fun a => lf E (s.drop (k + 1)) (bhd E sts a)).sum = lf E (s.drop k) sts := by rw [hd, lf_cons]
            rw [hlf]
            have hG2' := hG'
            obtain ⟨⟨Ms', hp', _, _⟩, ⟨es', hq', hKn'⟩⟩ := hG'
            walk_at "go"
            refine g_kFld hp' rfl ?_
            walk_at "go"
            have hlen := hKn'.few hs.few hs.five
            refine g_kPutN hq' hkey (by simp only [sizeLine]; omega) ?_
            have hKn3 := hKn'.put hkl hv
            rw [hsts] at hKn3
            have hO3 := hO'.pen (c := .dn (putND es' (nkey k sts) (.int (lf E (s.drop k) sts : Nat))))
            refine hN _ _ ⟨_, _, _, hG2.oth hO3 put_same hKn3, hO3, put_same, ?_, rfl⟩
            rw [valND_put, if_pos rfl]
end
end A_k47
namespace A_k47
open PySem L2 AL
theorem flat_at {α β : Type} {f : α → List β} : ∀ {ws : List α} {n j : Nat} {u : β} {a : α}, (ws.flatMap f)[n]? = some u → ws[j]? = some a → ((ws.take j).map fun b => (f b).length).sum ≤ n → n - ((ws.take j).map fun b => (f b).length).sum < (f a).length → (f a)[n - ((ws.take j).map fun b => (f b).length).sum]? = some u
  | [], _, _, _, _, _, h, _, _ => by simp at h
  | x :: ws, n, 0, u, a, h, h1, h2, h3 => by
    cases h1
    rw [List.flatMap_cons] at h
    simp only [List.take_zero, List.map_nil, List.sum_nil, Nat.sub_zero] at h3 ⊢
    rwa [List.getElem?_append_left h3] at h
  | x :: ws, n, j + 1, u, a, h, h1, h2, h3 => by
    rw [List.flatMap_cons] at h
    rw [List.take_succ_cons, List.map_cons, List.sum_cons] at h2 h3 ⊢
    rw [List.getElem?_append_right (by omega)] at h
    have := flat_at (f := f) (ws := ws) (n := n - (f x).length) (j := j) h (by simpa using h1) (by omega) (by rw [Nat.sub_sub]; exact h3)
    rwa [Nat.sub_sub] at this
theorem wnt_e (s : List (List Str)) (st : Sta) : wnt s st "" = st := rfl
theorem bhd_e : ∀ (E : List (List (List Str))) (sts : List Sta), sts.length = E.length → bhd E sts "" = sts
  | [], [], _ => rfl
  | e :: E, st :: sts, h => by
    show wnt e st "" :: bhd E sts "" = _
    rw [bhd_e E sts (by simpa using h), wnt_e]
theorem beg_len (E : List (List (List Str))) : (beg E).length = E.length := List.length_map ..
section
variable {C : AH} {P : D → AH → Prop} {p q : Addr} {E : List (List (List Str))} {s : List (List Str)}
theorem at_ok (hs : Bd s) (hE : ∀ e ∈ E, Bd e) (h3 : E.length ≤ 10) {n : Nat} {T : Str} (hG : GoAt C p q E s) (hn : (nws E s (beg E))[n]? = some T) (k : ∀ C', GoAt C' p q E s → Oth q C C' → P (.str T) C') : s_Going_at [.ce p, .int (n : Nat)] C P := by
  have hob := hG.ob
  obtain ⟨Ms, hp, _, _⟩ := hob
  unfold s_Going_at a_Going_at
  walk_at "go"
  refine g_kMth hp rfl ?_
  walk_at "go"
  refine begun_ok hG h3 ?_
  walk_at "go"
  refine g_ieG ?_
  walk_at "go"
  refine g_kFld hp rfl ?_
  unfold stepD
  walk_at "go"
  refine g_kIEG (ds := s.map partD) (fun _ => rfl) ?_
  have hst0 := sts_beg hE
  refine g_kFor (fun i st C' => ∃ (m : Nat) (v u : Str) (x4 x5 x6 x7 x8 : Option D), GoAt C' p q E s ∧ Oth q C C' ∧ v ∈ cmb (s.take i) ∧ (nws E (s.drop i) (bhd E (beg E) v))[m]? = some u ∧ T = v ++ u ∧ st = [some (.ce p), some (.int (m : Nat)), some (stsD (bhd E (beg E) v)), some (.str v), x4, x5, x6, x7, x8]) ⟨n, "", T, none, none, none, none, none, hG, Oth.refl _ _, by rw [List.take_zero, cmb_nil]; simp, by rw [bhd_e E _ (beg_len E)]; exact hn, (e_app T).symm, by rw [bhd_e E _ (beg_len E)]⟩ (fun i y st C' hi hh => ?_) (fun st C' hh => ?_)
  · obtain ⟨m, v, u, x4, x5, x6, x7, x8, hG', hO', hv, hu, hT, rfl⟩ := hh
    have hil := (List.getElem?_eq_some_iff.mp hi).1
    rw [enumD_len, List.length_map] at hil
    have hws := getD_some hil
    generalize hwe : s.getD i [] = ws at hws
    rw [enumD_get (d := partD ws) (by rw [List.getElem?_map, hws]; rfl)] at hi
    cases hi
    have hd : s.drop i = ws :: s.drop (i + 1) := by rw [drop_getD hil, hwe]
    have hst := hst0.bhd hE v
    generalize hsts : bhd E (beg E) v = sts at hu hst
    rw [hd, nws_cons] at hu
    have hob' := hG'.ob
    have hvl := ((hs.few.take i).bound).2 v hv
    rw [List.length_take, Nat.min_eq_left (by omega)] at hvl
    have h5 := hs.five
    walk_at "go"
    unfold partD
    walk_at "go"
    refine g_kForL (fun j st C2 => ∃ (m2 : Nat) (x6 x7 x8 : Option D), GoAt C2 p q E s ∧ Oth q C C2 ∧ m2 + ((ws.take j).map fun a => lf E (s.drop (i + 1)) (bhd E sts a)).sum = m ∧ st = [some (.ce p), some (.int (m2 : Nat)), some (stsD sts), some (.str v), some (.int (i : Nat)), some (.tup (strsL ws)), x6, x7, x8]) ⟨m, x6, x7, x8, hG', hO', by simp, rfl⟩ (fun j y st C2 hj hh => ?_) (fun st C2 hh => ?_)
    · obtain ⟨m2, x6, x7, x8, hG2, hO2, hm2, rfl⟩ := hh
      unfold strsL at hj
      rw [List.getElem?_map] at hj
      cases e2 : ws[j]? with
      | none => rw [e2] at hj; cases hj
      | some a =>
        rw [e2] at hj
        cases hj
        have hob2 := hG2.ob
        obtain ⟨Ms2, hp2, _, _⟩ := hob2
        have ha6 := hs.few.app hws a (List.mem_of_getElem? e2)
        have hba : bhd E sts a = bhd E (beg E) (v ++ a) := by rw [← hsts, bhd_app E _ _ _ (beg_len E)]
        have hva : v ++ a ∈ cmb (s.take (i + 1)) := by
          rw [List.take_add_one, hws, Option.toList_some, cmb_snoc]
          exact List.mem_flatMap.mpr ⟨v, hv, List.mem_map.mpr ⟨a, List.mem_of_getElem? e2, rfl⟩⟩
        walk_at "go"
        refine g_kMth hp2 rfl ?_
        walk_at "go"
        refine behind_ok hG2 hE h3 hst ?_
        walk_at "go"
        refine g_kMth hp2 rfl ?_
        walk_at "go"
        rw [show (i : Int) + 1 = ((i + 1 : Nat) : Int) by omega, hba]
        refine left_ok hs hE h3 (s.length - (i + 1)) (i + 1) (v ++ a) C2 _ (by omega) hva hG2 8 (by omega) (fun C3 hG3 hO3 => ?_)
        have hO3 := hO2.trans hO3
        walk_at "go"
        have hflat : ∀ b : Str, ((nws E (s.drop (i + 1)) (bhd E sts b)).map fun x => b ++ x).length = lf E (s.drop (i + 1)) (bhd E sts b) := fun b => List.length_map ..
        have hsum : ((ws.take j).map fun b => ((nws E (s.drop (i + 1)) (bhd E sts b)).map fun x => b ++ x).length) = (ws.take j).map fun a => lf E (s.drop (i + 1)) (bhd E sts a) := List.map_congr_left fun b _ => hflat b
        by_cases hlt : m2 < lf E (s.drop (i + 1)) (bhd E (beg E) (v ++ a))
        · refine g_ifT (fun K hK => ?_) ?_
          · walk_at "go"
            rw [decide_eq_true (show (m2 : Int) < ((lf E (s.drop (i + 1)) (bhd E (beg E) (v ++ a)) : Nat) : Int) by omega)]
            exact hK
          have hfa := flat_at (f := fun a => (nws E (s.drop (i + 1)) (bhd E sts a)).map fun x => a ++ x) hu e2 (by rw [hsum]; omega) (by rw [hsum, hflat, hba]; omega)
          rw [hsum, show m - ((ws.take j).map fun a => lf E (s.drop (i + 1)) (bhd E sts a)).sum = m2 by omega, List.getElem?_map] at hfa
          cases e3 : (nws E (s.drop (i + 1)) (bhd E sts a))[m2]? with
          | none => rw [e3] at hfa; cases hfa
          | some u2 =>
            rw [e3] at hfa
            have hu2 : a ++ u2 = u := Option.some.inj hfa
            rw [hba] at e3
            show aSeq _ _ _ _ _
            walk_at "go"
            refine g_addS (by simp only [sizeLine]; omega) ?_
            walk_at "go"
            exact ⟨m2, v ++ a, u2, _, _, _, _, _, hG3, hO3, hva, e3, by rw [hT, ← hu2, app_as], rfl⟩
        · refine g_ifF (fun K hK => ?_) ?_
          · walk_at "go"
            rw [decide_eq_false (show ¬ (m2 : Int) < ((lf E (s.drop (i + 1)) (bhd E (beg E) (v ++ a)) : Nat) : Int) by omega)]
            exact hK
          walk_at "go"
          refine ⟨m2 - lf E (s.drop (i + 1)) (bhd E (beg E) (v ++ a)), _, _, _, hG3, hO3, ?_, by rw [show (m2 : Int) - ((lf E (s.drop (i + 1)) (bhd E (beg E) (v ++ a)) : Nat) : Int) = ((m2 - lf E (s.drop (i + 1)) (bhd E (beg E) (v ++ a)) : Nat) : Int) by omega]⟩
          rw [List.take_add_one, e2, Option.toList_some, List.map_append, List.sum_append, List.map_cons, List.map_nil, List.sum_cons, List.sum_nil, hba]
          omega
    · exfalso
      obtain ⟨m2, x6, x7, x8, hG2, hO2, hm2, rfl⟩ := hh
      rw [show (strsL ws).length = ws.length from List.length_map .., List.take_length] at hm2
      have hlt := (List.getElem?_eq_some_iff.mp hu).1
      rw [List.length_flatMap] at hlt
      rw [show (ws.map fun a => ((nws E (s.drop (i + 1)) (bhd E sts a)).map fun v => a ++ v).length) = ws.map fun a => lf E (s.drop (i + 1)) (bhd E sts a) from List.map_congr_left fun b _ => List.length_map ..] at hlt
      omega
  · obtain ⟨m, v, u, x4, x5, x6, x7, x8, hG', hO', hv, hu, hT, rfl⟩ := hh
    rw [enumD_len, List.length_map, List.drop_length] at hu
    have hue : u = "" := by
      have := List.mem_of_getElem? hu
      unfold nws at this
      have := (List.mem_filter.mp this).1
      rw [cmb_nil] at this
      exact List.mem_singleton.mp this
    rw [hue, app_e] at hT
    walk_at "go"
    rw [← hT]
    exact k _ hG' hO'
theorem putFD_new {f : Str} {v : D} : ∀ {es : List (Str × D)}, (∀ e ∈ es, e.1 ≠ f) → putFD f v es = es ++ [(f, v)]
  | [], _ => rfl
  | (g, x) :: r, h => by
    unfold putFD
    rw [if_neg (h (g, x) List.mem_cons_self), putFD_new fun e he => h e (List.mem_cons_of_mem _ he)]
    rfl
theorem init_ok (hs : Bd s) (hE : ∀ e ∈ E, Bd e) (h3 : E.length ≤ 10) (hp : C p = some (.ob "Going" [])) (k : ∀ q C', Oth p C C' → C q = none → q ≠ p → GoAt C' p q E s → P .non C') : s_Going___init__ [.ce p, stepD s, planD E] C P := by
  unfold s_Going___init__ a_Going___init__ planD
  walk_at "go"
  refine g_kFldPut hp (by decide) ?_
  rw [show putFD "step" (stepD s) [] = [(("step" : Str), stepD s)] from rfl]
  have hp1 : put C p (.ob "Going" [(("step" : Str), stepD s)]) p = some (.ob "Going" [(("step" : Str), stepD s)]) := put_same
  have hO := (Oth.refl p C).pen (c := .ob "Going" [(("step" : Str), stepD s)])
  generalize put C p (.ob "Going" [(("step" : Str), stepD s)]) = C1 at hp1 hO ⊢
  walk_at "go"
  refine g_kLc (fun i acc C' => ∃ Ms : List (List (List (Key × D))), Ms.length = i ∧ acc = Ms.map marksD ∧ (∀ (a : Nat) e M, E[a]? = some e → Ms[a]? = some M → Mks e M) ∧ AL.Keep C1 C') (by rw [List.length_map]; simp only [sizeLine]; omega) ⟨[], rfl, rfl, by simp, AL.Keep.refl _⟩ (fun i y acc C' hi hw => ?_) (fun acc C' hw => ?_)
  · obtain ⟨Ms, hl, rfl, hM, hK⟩ := hw
    rw [List.getElem?_map] at hi
    cases e2 : E[i]? with
    | none => rw [e2] at hi; cases hi
    | some e =>
      rw [e2] at hi
      cases hi
      have hb := hE e (List.mem_of_getElem? e2)
      walk_at "go"
      refine marks_ok hb.few hb.five fun M C2 hK2 hM2 => ?_
      refine ⟨Ms ++ [M], by simp [hl], by simp, fun a e' M' h1 h2 => ?_, hK.trans hK2⟩
      by_cases ha : a < Ms.length
      · rw [List.getElem?_append_left ha] at h2
        exact hM a e' M' h1 h2
      · have hl2 := (List.getElem?_eq_some_iff.mp h2).1
        rw [List.length_append, List.length_singleton] at hl2
        have ea : a = Ms.length := by omega
        subst ea
        simp at h2
        rw [hl, e2] at h1
        cases h1
        subst h2
        exact hM2
  · obtain ⟨Ms, hl, rfl, hM, hK⟩ := hw
    rw [List.length_map] at hl
    have hp2 := hK _ _ hp1
    walk_at "go"
    refine g_kFldPut hp2 (by simp) ?_
    rw [putFD_new (by intro e he; rw [List.mem_singleton.mp he]; exact (show ¬ ("step" : Str) = "earlier" by decide +kernel))]
    have hO2 : Oth p C (put C' p (.ob "Going" ([(("step" : Str), stepD s)] ++ [(("earlier" : Str), .lst (Ms.map marksD))]))) := (hO.trans (.of hK)).pen
    have hp3 : put C' p (.ob "Going" ([(("step" : Str), stepD s)] ++ [(("earlier" : Str), .lst (Ms.map marksD))])) p = some (.ob "Going" ([(("step" : Str), stepD s)] ++ [(("earlier" : Str), .lst (Ms.map marksD))])) := put_same
    generalize put C' p (.ob "Going" ([(("step" : Str), stepD s)] ++ [(("earlier" : Str), .lst (Ms.map marksD))])) = C3 at hO2 hp3 ⊢
    walk_at "go"
    intro q hq
    have hqp : q ≠ p := fun z => by rw [z, hp3] at hq; cases hq
    have hq0 : C q = none := hO2.none hqp hq
    have hp4 := put_other (d := .dn []) hqp.symm hp3
    have hq4 : put C3 q (.dn []) q = some (.dn []) := put_same
    have hO4 := hO2.put (c := .dn []) hq0
    generalize put C3 q (.dn []) = C4 at hp4 hq4 hO4 ⊢
    walk_at "go"
    refine g_kFldPut hp4 (by simp) ?_
    rw [putFD_new (by
      intro e he
      rcases List.mem_append.mp he with h | h
      · rw [List.mem_singleton.mp h]; exact (show ¬ ("step" : Str) = "known" by decide +kernel)
      · rw [List.mem_singleton.mp h]; exact (show ¬ ("earlier" : Str) = "known" by decide +kernel))]
    exact k q _ hO4.pen hq0 hqp ⟨⟨Ms, put_same, hl, hM⟩, [], put_other hqp hq4, Kn.nil _ _⟩
end
end A_k47
namespace A_k47
open PySem L2 AL
/-- a going for each step -/
structure Gos (C : AH) (as qs : List Addr) (ps : List (List (List Str))) (n : Nat) : Prop where
  la : as.length = n
  lq : qs.length = n
  nd : qs.Nodup
  at' : ∀ (i : Nat) a q s, as[i]? = some a → qs[i]? = some q → ps[i]? = some s → GoAt C a q (ps.take i) s
theorem GoAt.keep {C C' : AH} {p q : Addr} {E : List (List (List Str))} {s : List (List Str)} (h : GoAt C p q E s) (hK : AL.Keep C C') : GoAt C' p q E s := by
  obtain ⟨⟨Ms, hp, hl, hM⟩, ⟨es, hq, hk⟩⟩ := h
  exact ⟨⟨Ms, hK _ _ hp, hl, hM⟩, es, hK _ _ hq, hk⟩
theorem GoAt.past {C C' : AH} {p q r : Addr} {E : List (List (List Str))} {s : List (List Str)} (h : GoAt C p q E s) {es0 : List (NestedKey × D)} (hr : C r = some (.dn es0)) (hqr : q ≠ r) (hO : Oth r C C') : GoAt C' p q E s := by
  obtain ⟨⟨Ms, hp, hl, hM⟩, ⟨es, hq, hk⟩⟩ := h
  have hpr : p ≠ r := fun z => by rw [z, hr] at hp; cases hp
  exact ⟨⟨Ms, hO _ _ hpr hp, hl, hM⟩, es, hO _ _ hqr hq, hk⟩
/-- one of them has been asked -/
theorem Gos.past {C C' : AH} {as qs : List Addr} {ps : List (List (List Str))} {n i : Nat} {a q : Addr} {s : List (List Str)} (h : Gos C as qs ps n) (ha : as[i]? = some a) (hq : qs[i]? = some q) (hs : ps[i]? = some s) (hG : GoAt C' a q (ps.take i) s) (hO : Oth q C C') : Gos C' as qs ps n := by
  refine ⟨h.la, h.lq, h.nd, fun j b r t hb hr ht => ?_⟩
  by_cases e : j = i
  · subst e
    rw [ha] at hb; rw [hq] at hr; rw [hs] at ht
    cases hb; cases hr; cases ht
    exact hG
  · have hg := h.at' j b r t hb hr ht
    obtain ⟨es, hq0, _⟩ := (h.at' i a q s ha hq hs).kn
    refine hg.past hq0 (fun z => e ?_) hO
    have h1 := (List.getElem?_eq_some_iff.mp hr)
    have h2 := (List.getElem?_eq_some_iff.mp hq)
    obtain ⟨l1, e1⟩ := h1
    obtain ⟨l2, e2⟩ := h2
    exact (List.getElem_inj h.nd).mp (e1.trans (z.trans e2.symm))
theorem keep_oth {C0 C C' : AH} {q : Addr} (hK : AL.Keep C0 C) (h0 : C0 q = none) (hO : Oth q C C') : AL.Keep C0 C' := fun r c e => hO r c (ne_cell e h0) (hK r c e)
section
variable {C : AH} {P : D → AH → Prop} {ps : List (List (List Str))}
theorem cutT_take {us : List D} {j : Nat} (hj : j ≤ us.length) (h0 : P (.tup (us.take j)) C) : aCut (.tup us) none (some (j : Int)) C P := by
  show P (.tup (cutD us none (some (j : Int)))) C
  have e : cutD us none (some (j : Int)) = us.take j := by
    unfold cutD
    simp [HT.sIx]
    rw [if_neg (show ¬ (j : Int) < 0 by omega)]
    omega
  rw [e]
  exact h0
theorem goings_ok (hb : ∀ s ∈ ps, Bd s) (h3 : ps.length ≤ 10) (k : ∀ as qs C', AL.Keep C C' → (∀ q ∈ qs, C q = none) → Gos C' as qs ps ps.length → P (.lst (as.map D.ce)) C') : s_goings [planD ps] C P := by
  unfold s_goings a_goings planD
  walk_at "go"
  refine g_ieG ?_
  walk_at "go"
  refine g_kIEG (ds := ps.map stepD) (fun _ => rfl) ?_
  refine g_kLc (fun i acc C' => ∃ as qs : List Addr, acc = as.map D.ce ∧ AL.Keep C C' ∧ (∀ q ∈ qs, C q = none) ∧ Gos C' as qs ps i) (by rw [enumD_len, List.length_map]; simp only [sizeLine]; omega) ⟨[], [], rfl, AL.Keep.refl _, by simp, ⟨rfl, rfl, List.nodup_nil, fun i a q s h => by simp at h⟩⟩ (fun i y acc C' hi hw => ?_) (fun acc C' hw => ?_)
  · obtain ⟨as, qs, rfl, hK, hqs, hG⟩ := hw
    have hil := (List.getElem?_eq_some_iff.mp hi).1
    rw [enumD_len, List.length_map] at hil
    have hs := getD_some hil
    generalize hse : ps.getD i [] = s at hs
    rw [enumD_get (d := stepD s) (by rw [List.getElem?_map, hs]; rfl)] at hi
    cases hi
    walk_at "go"
    refine cutT_take (by rw [List.length_map]; omega) ?_
    rw [← List.map_take]
    walk_at "go"
    intro p hp
    have hp0 := hK.none hp
    have hK1 := hK.put (c := .ob "Going" []) hp0
    have hp1 : put C' p (.ob "Going" []) p = some (.ob "Going" []) := put_same
    have hG1 : Gos (put C' p (.ob "Going" [])) as qs ps i := ⟨hG.la, hG.lq, hG.nd, fun j a q t h1 h2 h4 => (hG.at' j a q t h1 h2 h4).keep ((AL.Keep.refl C').put hp)⟩
    generalize put C' p (.ob "Going" []) = C1 at hK1 hp1 hG1
    refine init_ok (E := ps.take i) (hb s (List.mem_of_getElem? hs)) (fun e he => hb e (List.mem_of_mem_take he)) (by rw [List.length_take]; omega) hp1 fun q C2 hO2 hq1 hqp hG2 => ⟨rfl, ?_⟩
    have hq0 : C q = none := hK1.none hq1
    have hpa : ∀ (j : Nat) a q t, as[j]? = some a → qs[j]? = some q → ps[j]? = some t → a ≠ p := fun j a q t h1 h2 h4 z => by
      obtain ⟨Ms, ha, _⟩ := (hG1.at' j a q t h1 h2 h4).ob
      rw [z, hp1] at ha
      injection ha with ha
      injection ha with _ ha
      cases ha
    have hqa : ∀ (j : Nat) a r t, as[j]? = some a → qs[j]? = some r → ps[j]? = some t → r ≠ p := fun j a r t h1 h2 h4 z => by
      obtain ⟨es, hr, _⟩ := (hG1.at' j a r t h1 h2 h4).kn
      rw [z, hp1] at hr
      cases hr
    have hqn : ∀ r ∈ qs, r ≠ q := fun r hr z => by
      obtain ⟨j, hj⟩ := List.getElem?_of_mem hr
      have hjl := (List.getElem?_eq_some_iff.mp hj).1
      rw [hG.lq] at hjl
      have h1 : as[j]? = some (as[j]'(by rw [hG.la]; exact hjl)) := List.getElem?_eq_getElem _
      have h4 : ps[j]? = some (ps[j]'(by omega)) := List.getElem?_eq_getElem _
      obtain ⟨es, hr, _⟩ := (hG1.at' j _ r _ h1 hj h4).kn
      rw [z, hq1] at hr
      cases hr
    refine ⟨as ++ [p], qs ++ [q], by simp, fun r c e => hO2 r c (ne_cell e hp0) (hK1 r c e), fun r hr => ?_, ⟨by simp [hG.la], by simp [hG.lq], ?_, fun j a r t h1 h2 h4 => ?_⟩⟩
    · rcases List.mem_append.mp hr with h | h
      · exact hqs r h
      · rw [List.mem_singleton.mp h]; exact hq0
    · refine List.nodup_append.mpr ⟨hG.nd, by simp, fun a ha b hb e => ?_⟩
      rw [List.mem_singleton.mp hb] at e
      exact hqn a ha e
    · by_cases ej : j < i
      · rw [List.getElem?_append_left (by rw [hG.la]; exact ej)] at h1
        rw [List.getElem?_append_left (by rw [hG.lq]; exact ej)] at h2
        obtain ⟨⟨Ms, ha, hl, hM⟩, ⟨es, hr, hk⟩⟩ := hG1.at' j a r t h1 h2 h4
        exact ⟨⟨Ms, hO2 _ _ (hpa j a r t h1 h2 h4) ha, hl, hM⟩, es, hO2 _ _ (hqa j a r t h1 h2 h4) hr, hk⟩
      · have hl2 := (List.getElem?_eq_some_iff.mp h1).1
        rw [List.length_append, List.length_singleton, hG.la] at hl2
        have ej2 : j = i := by omega
        subst ej2
        rw [List.getElem?_append_right (by rw [hG.la]; exact Nat.le_refl _), hG.la, Nat.sub_self] at h1
        rw [List.getElem?_append_right (by rw [hG.lq]; exact Nat.le_refl _), hG.lq, Nat.sub_self] at h2
        cases h1; cases h2
        rw [hs] at h4
        cases h4
        exact hG2
  · obtain ⟨as, qs, rfl, hK, hqs, hG⟩ := hw
    rw [enumD_len, List.length_map] at hG
    walk_at "go"
    exact k as qs _ hK hqs hG
theorem beg_cmb (E : List (List (List Str))) : bhd E (beg E) "" = beg E := bhd_e E _ (beg_len E)
/-- one of them tells how many words of it are new -/
theorem own_left {as qs : List Addr} {n i : Nat} {a q : Addr} {s : List (List Str)} (hb : ∀ s ∈ ps, Bd s) (h3 : ps.length ≤ 10) (hG : Gos C as qs ps n) (ha : as[i]? = some a) (hq : qs[i]? = some q) (hs : ps[i]? = some s)
    (k : ∀ C', Gos C' as qs ps n → Oth q C C' → P (.int ((own ps i).length : Nat)) C') : s_Going_left 8 [.ce a, .int 0, stsD (beg (ps.take i))] C P := by
  have hg := hG.at' i a q s ha hq hs
  have hbs := hb s (List.mem_of_getElem? hs)
  have := hbs.five
  have e : lf (ps.take i) (s.drop 0) (bhd (ps.take i) (beg (ps.take i)) "") = (own ps i).length := by
    rw [List.drop_zero, beg_cmb]
    unfold lf own
    rw [show ps.getD i [] = s by simp [List.getD, hs]]
  have h := left_ok hbs (fun e he => hb e (List.mem_of_mem_take he)) (by rw [List.length_take]; omega) s.length 0 "" C P (by omega) (by rw [List.take_zero, cmb_nil]; simp) hg 8 (by omega) fun C' hG' hO' => by
    rw [e]
    exact k C' (hG.past ha hq hs hG' hO') hO'
  rw [beg_cmb] at h
  exact h
theorem how_ok (hb : ∀ s ∈ ps, Bd s) (hv : ∀ s ∈ ps, Vs s) (h3 : ps.length ≤ 10) (k : ∀ C', AL.Keep C C' → P (.int ((dd (wrds ps)).length : Nat)) C') : s_how_many [planD ps] C P := by
  unfold s_how_many a_how_many
  walk_at "go"
  refine goings_ok hb h3 fun as qs C1 hK hqs hG => ?_
  walk_at "go"
  refine g_kLc (fun i acc C' => acc = natsD ((List.range i).map fun j => (own ps j).length) ∧ AL.Keep C C' ∧ Gos C' as qs ps ps.length) (by rw [List.length_map, hG.la]; simp only [sizeLine]; omega) ⟨rfl, hK, hG⟩ (fun i y acc C' hi hw => ?_) (fun acc C' hw => ?_)
  · clear hK hG
    obtain ⟨rfl, hK, hG⟩ := hw
    rw [List.getElem?_map] at hi
    cases ha : as[i]? with
    | none => rw [ha] at hi; cases hi
    | some a =>
      rw [ha] at hi
      cases hi
      have hil := (List.getElem?_eq_some_iff.mp ha).1
      rw [hG.la] at hil
      have hq : qs[i]? = some (qs[i]'(by rw [hG.lq]; exact hil)) := List.getElem?_eq_getElem _
      have hs : ps[i]? = some ps[i] := List.getElem?_eq_getElem hil
      generalize qs[i]'(by rw [hG.lq]; exact hil) = q at hq
      generalize ps[i] = s at hs
      have hg := hG.at' i a q s ha hq hs
      have hob := hg.ob
      obtain ⟨Ms, hp, _, _⟩ := hob
      walk_at "go"
      refine g_kMth hp rfl ?_
      walk_at "go"
      refine g_kMth hp rfl ?_
      walk_at "go"
      refine begun_ok hg (by rw [List.length_take]; omega) ?_
      walk_at "go"
      refine own_left hb h3 hG ha hq hs fun C2 hG2 hO2 => ?_
      refine ⟨?_, keep_oth hK (hqs q (List.mem_of_getElem? hq)) hO2, hG2⟩
      rw [List.range_succ, List.map_append]
      simp [natsD]
  · clear hK hG
    obtain ⟨rfl, hK, hG⟩ := hw
    rw [List.length_map, hG.la]
    walk_at "go"
    refine g_sumX (L := (List.range ps.length).map fun j => (own ps j).length) rfl ?_
    have e : ((List.range ps.length).map fun j => (own ps j).length).sum = (dd (wrds ps)).length := by
      rw [row_all hv, List.length_flatMap]
    rw [e]
    exact k _ hK
theorem try_ok {PX : Str → AH → Prop} {n : Nat} (hb : ∀ s ∈ ps, Bd s) (hv : ∀ s ∈ ps, Vs s) (h3 : ps.length ≤ 10) (k1 : ∀ T C', (dd (wrds ps))[n]? = some T → AL.Keep C C' → P (.str T) C') (k2 : (dd (wrds ps)).length ≤ n → ∀ C', AL.Keep C C' → PX "NoNumber" C') : s_try_at [planD ps, .int (n : Nat)] C P PX := by
  have hrow := row_all hv
  unfold s_try_at a_try_at
  walk_at "go"
  refine g_ifF (fun K hK => ?_) ?_
  · walk_at "go"
    unfold s_is_whole a_is_whole
    walk_at "go"
    refine g_kAnd (fun _ => ?_) (fun h => by cases h)
    walk_at "go"
    rw [show (!!AL.isT "bool" "int") = false from rfl]
    walk_at "go"
    rw [decide_eq_false (show ¬ (n : Int) < 0 by omega)]
    exact hK
  walk_at "go"
  refine goings_ok hb h3 fun as qs C1 hK hqs hG => ?_
  walk_at "go"
  refine g_kForL (fun i st C' => ∃ (m : Nat) (x2 x3 : Option D), m + ((List.range i).map fun j => (own ps j).length).sum = n ∧ AL.Keep C C' ∧ Gos C' as qs ps ps.length ∧ st = [some (planD ps), some (.int (m : Nat)), x2, x3]) ⟨n, none, none, by simp, hK, hG, rfl⟩ (fun i y st C' hi hh => ?_) (fun st C' hh => ?_)
  · clear hK hG
    obtain ⟨m, x2, x3, hm, hK, hG, rfl⟩ := hh
    rw [List.getElem?_map] at hi
    cases ha : as[i]? with
    | none => rw [ha] at hi; cases hi
    | some a =>
      rw [ha] at hi
      cases hi
      have hil := (List.getElem?_eq_some_iff.mp ha).1
      rw [hG.la] at hil
      have hq : qs[i]? = some (qs[i]'(by rw [hG.lq]; exact hil)) := List.getElem?_eq_getElem _
      have hs : ps[i]? = some ps[i] := List.getElem?_eq_getElem hil
      generalize qs[i]'(by rw [hG.lq]; exact hil) = q at hq
      generalize ps[i] = s at hs
      have hg := hG.at' i a q s ha hq hs
      have hob := hg.ob
      obtain ⟨Ms, hp, _, _⟩ := hob
      walk_at "go"
      refine g_kMth hp rfl ?_
      walk_at "go"
      refine g_kMth hp rfl ?_
      walk_at "go"
      refine begun_ok hg (by rw [List.length_take]; omega) ?_
      walk_at "go"
      refine own_left hb h3 hG ha hq hs fun C2 hG2 hO2 => ?_
      have hK2 := keep_oth hK (hqs q (List.mem_of_getElem? hq)) hO2
      have hri : (List.range ps.length)[i]? = some i := List.getElem?_range hil
      have hts : ((List.range ps.length).take i) = List.range i := by rw [List.take_range, Nat.min_eq_left (by omega)]
      walk_at "go"
      by_cases hlt : m < (own ps i).length
      · refine g_ifT (fun K hK => ?_) ?_
        · walk_at "go"
          rw [decide_eq_true (show (m : Int) < (((own ps i).length : Nat) : Int) by omega)]
          exact hK
        have hg2 := hG2.at' i a q s ha hq hs
        have hob2 := hg2.ob
        obtain ⟨Ms2, hp2, _, _⟩ := hob2
        have how : own ps i = nws (ps.take i) s (beg (ps.take i)) := by
          unfold own
          rw [show ps.getD i [] = s by simp [List.getD, hs]]
        have hT : (own ps i)[m]? = some (own ps i)[m] := List.getElem?_eq_getElem hlt
        have hT2 : (dd (wrds ps))[n]? = some (own ps i)[m] := by
          have hn : n < (dd (wrds ps)).length := by
            rw [hrow, List.length_flatMap]
            have : ((List.range ps.length).map fun a => (own ps a).length).sum = ((List.range i).map fun a => (own ps a).length).sum + (((List.range ps.length).drop i).map fun a => (own ps a).length).sum := by
              rw [← hts, ← List.sum_append, ← List.map_append, List.take_append_drop]
            have h2 : (List.range ps.length).drop i = i :: (List.range ps.length).drop (i + 1) := by
              rw [List.drop_eq_getElem_cons (by rw [List.length_range]; exact hil)]
              simp
            rw [h2, List.map_cons, List.sum_cons] at this
            omega
          have h4 : ((List.range ps.length).flatMap (own ps))[n]? = some ((dd (wrds ps))[n]) := by
            rw [← hrow]
            exact List.getElem?_eq_getElem hn
          have h5 := flat_at (f := own ps) h4 hri (by rw [hts]; omega) (by rw [hts]; omega)
          rw [hts, show n - ((List.range i).map fun b => (own ps b).length).sum = m by omega, hT] at h5
          rw [List.getElem?_eq_getElem hn]
          exact h5.symm
        generalize (own ps i)[m] = T at hT hT2
        rw [how] at hT
        walk_at "go"
        refine g_kMth hp2 rfl ?_
        walk_at "go"
        refine at_ok (hb s (List.mem_of_getElem? hs)) (fun e he => hb e (List.mem_of_mem_take he)) (by rw [List.length_take]; omega) hg2 hT fun C3 hG3 hO3 => ?_
        exact k1 T C3 hT2 (keep_oth hK2 (hqs q (List.mem_of_getElem? hq)) hO3)
      · refine g_ifF (fun K hK => ?_) ?_
        · walk_at "go"
          rw [decide_eq_false (show ¬ (m : Int) < (((own ps i).length : Nat) : Int) by omega)]
          exact hK
        walk_at "go"
        refine ⟨m - (own ps i).length, _, _, ?_, hK2, hG2, by rw [show (m : Int) - (((own ps i).length : Nat) : Int) = ((m - (own ps i).length : Nat) : Int) by omega]⟩
        rw [List.range_succ, List.map_append, List.sum_append]
        simp only [List.map_cons, List.map_nil, List.sum_cons, List.sum_nil]
        omega
  · clear hK hG
    obtain ⟨m, x2, x3, hm, hK, hG, rfl⟩ := hh
    rw [List.length_map, hG.la] at hm
    walk_at "go"
    refine k2 ?_ _ hK
    rw [hrow, List.length_flatMap]
    omega
end
end A_k47
namespace A_k47
open PySem L2 AL
def Pth : List (List Str) → List Nat → Str → Prop
  | [], [], u => u = ""
  | ws :: r, n :: ns, u => ∃ a v, ws[n]? = some a ∧ u = a ++ v ∧ Pth r ns v
  | _, _, _ => False
theorem Pth.len : ∀ {r : List (List Str)} {ns : List Nat} {u : Str}, Pth r ns u → ns.length = r.length
  | [], [], _, _ => rfl
  | _ :: _, _ :: _, _, ⟨_, _, _, _, h⟩ => by rw [List.length_cons, List.length_cons, h.len]
  | [], _ :: _, _, h => h.elim
  | _ :: _, [], _, h => h.elim
theorem Pth.mem : ∀ {r : List (List Str)} {ns : List Nat} {u : Str}, Pth r ns u → u ∈ cmb r
  | [], [], u, h => by rw [cmb_nil, show u = "" from h]; simp
  | _ :: _, _ :: _, _, ⟨a, v, h1, h2, h⟩ => mem_cons.mpr ⟨a, List.mem_of_getElem? h1, v, h.mem, h2⟩
  | [], _ :: _, _, h => h.elim
  | _ :: _, [], _, h => h.elim
theorem bg_cat {u a : Str} (h : bg u a = true) : u = a ++ cutS u (some (a.length : Int)) none := by
  obtain ⟨t, ht⟩ := bg_iff.mp h
  refine strExt ?_
  rw [cs_app, show cs (cutS u (some (a.length : Int)) none) = (cs u).drop a.length from cutS_drop u _, ht]
  have e : (cs a).length = a.length := AL.len_toList a
  rw [← e, List.drop_left]
theorem bg_of {a v : Str} : bg (a ++ v) a = true := bg_iff.mpr ⟨cs v, cs_app a v⟩
/-- which words of a part a text begins with -/
def fit (ws : List Str) (u : Str) (i : Nat) : List Nat := (List.range i).filter fun j => bg u (ws.getD j "")
theorem fit_none {ws : List Str} {u : Str} (h : fit ws u ws.length = []) : ∀ a ∈ ws, bg u a = false := fun a ha => by
  obtain ⟨j, hj⟩ := List.getElem?_of_mem ha
  have hl := (List.getElem?_eq_some_iff.mp hj).1
  have := List.filter_eq_nil_iff.mp h j (List.mem_range.mpr hl)
  rw [show ws.getD j "" = a by simp [List.getD, hj]] at this
  exact Bool.eq_false_iff.mpr this
theorem fit_some {ws : List Str} {u : Str} {n j : Nat} {l : List Nat} (h : fit ws u n = j :: l) (hn : n = ws.length) : ∃ a, ws[j]? = some a ∧ bg u a = true := by
  have hm : j ∈ fit ws u n := by rw [h]; exact List.mem_cons_self
  obtain ⟨h1, h2⟩ := List.mem_filter.mp hm
  have hl := List.mem_range.mp h1
  have hj : ws[j]? = some (ws[j]'(by omega)) := List.getElem?_eq_getElem _
  refine ⟨_, hj, ?_⟩
  rw [show ws.getD j "" = ws[j]'(by omega) by simp [List.getD, hj]] at h2
  exact h2
section
variable {C : AH} {P : D → AH → Prop}
theorem g_ninT {w : Str} {ws : List Str} (h : P (.bl (!decide (w ∈ ws))) C) : aNinL (.str w) (.tup (strsL ws)) C P := by
  show (match toV (.str w), toVs (strsL ws) with | some u, some us => P (.bl (if true then !inV u us else inV u us)) C | _, _ => False)
  rw [toVs_strs]
  show P (.bl (!inV (.str w) (ws.map V.str))) C
  rw [inV_strs]
  exact h
theorem snoc {s : List (List Str)} (h : 1 ≤ s.length) : ∃ r l, s = r ++ [l] := ⟨s.dropLast, s.getLast (by intro e; rw [e] at h; simp at h), (List.dropLast_concat_getLast _).symm⟩
theorem parted_ok {s : List (List Str)} {w : Str} (hb : Bd s) (hv : Vs s) (hw : w.length ≤ 5000) (k1 : ∀ ns C', Pth s ns w → AL.Keep C C' → P (.lst (natsD ns)) C') (k2 : w ∉ cmb s → ∀ C', AL.Keep C C' → P .non C') : s_parted [stepD s, .str w] C P := by
  obtain ⟨r, l, rfl⟩ := snoc hb.one
  have h5 := hb.five
  unfold s_parted a_parted
  walk_at "go"
  intro p hp
  have hCp : put C p (.lst []) p = some (.lst (natsD [])) := put_same
  have hK := (AL.Keep.refl C).put (c := .lst []) hp
  generalize put C p (.lst []) = C1 at hCp hK ⊢
  unfold stepD
  walk_at "go"
  refine g_cutLast (us := r.map partD) (d := partD l) (by rw [List.map_append]; rfl) ?_
  walk_at "go"
  refine g_kForL (fun i st C' => ∃ (ns : List Nat) (u : Str) (x3 x4 : Option D), ns.length = i ∧ u.length ≤ 5000 ∧ (∀ ms, Pth ((r ++ [l]).drop i) ms u → Pth (r ++ [l]) (ns ++ ms) w) ∧ (u ∉ cmb ((r ++ [l]).drop i) → w ∉ cmb (r ++ [l])) ∧ C' p = some (.lst (natsD ns)) ∧ AL.Keep C C' ∧ st = [some (.tup ((r ++ [l]).map partD)), some (.str u), some (.ce p), x3, x4, none, none]) ⟨[], w, none, none, rfl, hw, fun ms h => h, fun h => h, hCp, hK, rfl⟩ (fun i y st C' hi hh => ?_) (fun st C' hh => ?_)
  · clear hCp hK
    obtain ⟨ns, u, x3, x4, hnl, hu, h1, h2, hCp, hK, rfl⟩ := hh
    rw [List.getElem?_map] at hi
    cases e : r[i]? with
    | none => rw [e] at hi; cases hi
    | some ws =>
      rw [e] at hi
      cases hi
      have hil := (List.getElem?_eq_some_iff.mp e).1
      rw [List.length_append, List.length_singleton] at h5
      have hs : (r ++ [l])[i]? = some ws := by rw [List.getElem?_append_left hil]; exact e
      have hd : (r ++ [l]).drop i = ws :: (r ++ [l]).drop (i + 1) := by
        rw [List.drop_eq_getElem_cons (by rw [List.length_append]; omega)]
        rw [List.getElem?_eq_getElem (by rw [List.length_append]; omega)] at hs
        rw [Option.some.inj hs]
      have hpf := hv.pf i ws hs (by rw [List.length_append, List.length_singleton]; omega)
      obtain ⟨hw12, hw6⟩ := hb.few ws (List.mem_of_getElem? hs)
      rw [hd] at h1 h2
      walk_at "go"
      refine g_ieG ?_
      walk_at "go"
      unfold partD
      refine g_kIEG (ds := strsL ws) (fun _ => rfl) ?_
      have hsl : (strsL ws).length = ws.length := List.length_map ..
      refine g_kLc (fun j acc C2 => acc = natsD (fit ws u j) ∧ C2 = C') (by rw [enumD_len, hsl]; simp only [sizeLine]; omega) ⟨rfl, rfl⟩ (fun j y acc C2 hj hw => ?_) (fun acc C2 hw => ?_)
      · obtain ⟨rfl, rfl⟩ := hw
        have hjl := (List.getElem?_eq_some_iff.mp hj).1
        rw [enumD_len, hsl] at hjl
        have hwj : ws[j]? = some (ws[j]'hjl) := List.getElem?_eq_getElem _
        have hga : ws.getD j "" = ws[j]'hjl := by simp [List.getD, hwj]
        generalize ws[j]'hjl = a at hwj hga
        rw [enumD_get (d := .str a) (by unfold strsL; rw [List.getElem?_map, hwj]; rfl)] at hj
        cases hj
        walk_at "go"
        refine g_starts ?_
        have ef : fit ws u (j + 1) = fit ws u j ++ (if bg u a = true then [j] else []) := by
          unfold fit
          rw [List.range_succ, List.filter_append, List.filter_cons, hga, List.filter_nil]
        cases hbg : bg u a with
        | true =>
          rw [show decide (u.cps.toList.take a.length = a.cps.toList) = true from hbg]
          walk_at "go"
          rw [ef, hbg]
          exact ⟨by simp [natsD], rfl⟩
        | false =>
          rw [show decide (u.cps.toList.take a.length = a.cps.toList) = false from hbg]
          walk_at "go"
          rw [ef, hbg]
          exact ⟨by simp [natsD], rfl⟩
      · obtain ⟨rfl, rfl⟩ := hw
        rw [enumD_len, hsl]
        walk_at "go"
        refine g_ifS ?_
        walk_at "go"
        cases hf : fit ws u ws.length with
        | nil =>
          rw [show (natsD []).isEmpty = true from rfl]
          walk_at "go"
          refine k2 (h2 fun hm => ?_) _ hK
          obtain ⟨a, ha, v, _, e2⟩ := mem_cons.mp hm
          have := fit_none hf a ha
          rw [e2, bg_of] at this
          cases this
        | cons j t =>
          obtain ⟨a, ha, hba⟩ := fit_some hf rfl
          rw [show (natsD (j :: t)).isEmpty = false from rfl]
          have ha6 := hw6 a (List.mem_of_getElem? ha)
          have hcat := bg_cat hba
          walk_at "go"
          refine g_ixL (d := .int (j : Nat)) (atI_nat' (i := 0) rfl) ?_
          walk_at "go"
          refine g_append hCp (by rw [show (natsD ns).length = ns.length from List.length_map .., hnl]; simp only [sizeLine]; omega) ?_
          walk_at "go"
          refine g_ixL (d := .int (j : Nat)) (atI_nat' (i := 0) rfl) ?_
          walk_at "go"
          refine g_ixT (d := .str a) (atI_nat' (by unfold strsL; rw [List.getElem?_map, ha]; rfl)) ?_
          walk_at "go"
          refine g_lenS (by simp only [sizeLine]; omega) ?_
          walk_at "go"
          refine g_cutSt (by omega) ?_
          walk_at "go"
          generalize cutS u (some (a.length : Int)) none = v at hcat ⊢
          have hvl : u.length = a.length + v.length := by rw [hcat, app_len]
          refine ⟨ns ++ [j], v, _, _, by simp [hnl], by omega, fun ms hm => ?_, fun hn => h2 fun hm => hn ?_, by rw [put_same]; simp [natsD], hK.put hp, rfl⟩
          · rw [List.append_assoc]
            exact h1 _ ⟨a, v, ha, hcat, hm⟩
          · obtain ⟨a', ha', v', hv', e2⟩ := mem_cons.mp hm
            have e3 := hpf.uniq (List.mem_of_getElem? ha) ha' (hcat.symm.trans e2)
            rw [← e3, hcat] at e2
            rw [app_inj e2]
            exact hv'
  · clear hCp hK
    obtain ⟨ns, u, x3, x4, hnl, hu, h1, h2, hCp, hK, rfl⟩ := hh
    rw [List.length_map] at h1 h2
    rw [List.drop_left] at h1 h2
    rw [cmb_one] at h2
    refine g_frzL rfl hCp ?_
    have hK := hK.del hp
    generalize del C' p = C2 at hK
    have hlast : atI ((r ++ [l]).map partD) (-1) = some (partD l) := AL.atI_last (i := r.length) (by simp) (by rw [List.getElem?_map, List.getElem?_append_right (Nat.le_refl _), Nat.sub_self]; rfl)
    walk_at "go"
    refine g_ifS ?_
    walk_at "go"
    refine g_ixT hlast ?_
    unfold partD
    walk_at "go"
    refine g_ninT ?_
    walk_at "go"
    by_cases hm : u ∈ l
    · rw [decide_eq_true hm, show (!true) = false from rfl]
      walk_at "go"
      refine g_ixT hlast ?_
      unfold partD strsL
      walk_at "go"
      refine g_indexT hm ?_
      walk_at "go"
      refine g_addL (by rw [show (natsD ns).length = ns.length from List.length_map .., hnl, List.length_singleton]; simp only [List.length_map, sizeLine]; rw [List.length_append] at h5; omega) ?_
      rw [show natsD ns ++ [D.int ((l.idxOf u : Nat) : Int)] = natsD (ns ++ [l.idxOf u]) by simp [natsD]]
      refine k1 _ _ (h1 [l.idxOf u] ?_) hK
      refine ⟨u, "", ?_, (app_e u).symm, rfl⟩
      have := List.idxOf_lt_length_of_mem hm
      rw [List.getElem?_eq_getElem this, List.getElem_idxOf]
    · rw [decide_eq_false hm, show (!false) = true from rfl]
      walk_at "go"
      exact k2 (h2 hm) _ hK
end
end A_k47
namespace A_k47
open PySem L2 AL
theorem flat_get {α β : Type} {f : α → List β} : ∀ {ws : List α} {j m : Nat} {u : β} {a : α}, ws[j]? = some a → (f a)[m]? = some u → (ws.flatMap f)[((ws.take j).map fun b => (f b).length).sum + m]? = some u
  | x :: ws, 0, m, u, a, h1, h2 => by
    cases h1
    rw [List.take_zero, List.map_nil, List.sum_nil, Nat.zero_add, List.flatMap_cons, List.getElem?_append_left (List.getElem?_eq_some_iff.mp h2).1]
    exact h2
  | x :: ws, j + 1, m, u, a, h1, h2 => by
    have := flat_get (f := f) (ws := ws) (j := j) (by simpa using h1) h2
    rw [List.flatMap_cons, List.take_succ_cons, List.map_cons, List.sum_cons, List.getElem?_append_right (by omega)]
    rw [show (f x).length + ((ws.take j).map fun b => (f b).length).sum + m - (f x).length = ((ws.take j).map fun b => (f b).length).sum + m by omega]
    exact this
section
variable {C : AH} {P : D → AH → Prop} {p q : Addr} {E : List (List (List Str))} {s : List (List Str)}
theorem ahead_ok (hs : Bd s) (hE : ∀ e ∈ E, Bd e) (h3 : E.length ≤ 10) {ns : List Nat} {w : Str} (hG : GoAt C p q E s) (hn : Pth s ns w) (hw : okw E (beg E) w = true) (k : ∀ t C', (nws E s (beg E))[t]? = some w → GoAt C' p q E s → Oth q C C' → P (.int (t : Nat)) C') : s_Going_ahead [.ce p, .lst (natsD ns)] C P := by
  have hob := hG.ob
  obtain ⟨Ms, hp, _, _⟩ := hob
  have hnl := hn.len
  unfold s_Going_ahead a_Going_ahead
  walk_at "go"
  refine g_kMth hp rfl ?_
  walk_at "go"
  refine begun_ok hG h3 ?_
  walk_at "go"
  have hst0 := sts_beg hE
  refine g_kFor (fun i st C' => ∃ (T : Nat) (v u : Str) (x4 x5 x6 : Option D), GoAt C' p q E s ∧ Oth q C C' ∧ v ∈ cmb (s.take i) ∧ w = v ++ u ∧ Pth (s.drop i) (ns.drop i) u ∧ (∀ t, (nws E (s.drop i) (bhd E (beg E) v))[t]? = some u → (nws E s (beg E))[T + t]? = some w) ∧ st = [some (.ce p), some (.lst (natsD ns)), some (stsD (bhd E (beg E) v)), some (.int (T : Nat)), x4, x5, x6]) ⟨0, "", w, none, none, none, hG, Oth.refl _ _, by rw [List.take_zero, cmb_nil]; simp, (e_app w).symm, hn, by rw [bhd_e E _ (beg_len E)]; exact fun t h => by rw [Nat.zero_add]; exact h, by rw [bhd_e E _ (beg_len E)]; rfl⟩ (fun i y st C' hi hh => ?_) (fun st C' hh => ?_)
  · obtain ⟨T, v, u, x4, x5, x6, hG', hO', hv, hwu, hP, ht, rfl⟩ := hh
    have hil := (List.getElem?_eq_some_iff.mp hi).1
    rw [enumD_len, show (natsD ns).length = ns.length from List.length_map ..] at hil
    have hni : ns[i]? = some (ns[i]'hil) := List.getElem?_eq_getElem _
    rw [show ns.drop i = ns[i]'hil :: ns.drop (i + 1) from List.drop_eq_getElem_cons hil] at hP
    generalize ns[i]'hil = n at hni hP
    rw [enumD_get (d := .int (n : Nat)) (by rw [List.getElem?_map, hni]; rfl)] at hi
    cases hi
    rw [hnl] at hil
    have hws := getD_some hil
    have hd := drop_getD hil
    generalize s.getD i [] = ws at hws hd
    rw [hd] at hP ht
    obtain ⟨a, u2, ha, hu2, hP2⟩ := hP
    have han := (List.getElem?_eq_some_iff.mp ha).1
    have hst := hst0.bhd hE v
    generalize hsts : bhd E (beg E) v = sts at ht hst
    have h5 := hs.five
    have hva : ∀ b ∈ ws, v ++ b ∈ cmb (s.take (i + 1)) := fun b hb => by
      rw [List.take_add_one, hws, Option.toList_some, cmb_snoc]
      exact List.mem_flatMap.mpr ⟨v, hv, List.mem_map.mpr ⟨b, hb, rfl⟩⟩
    have hba : ∀ b, bhd E sts b = bhd E (beg E) (v ++ b) := fun b => by rw [← hsts, bhd_app E _ _ _ (beg_len E)]
    have hob' := hG'.ob
    obtain ⟨Ms1, hp1, _, _⟩ := hob'
    walk_at "go"
    refine g_kFld hp1 rfl ?_
    unfold stepD
    walk_at "go"
    refine g_ixT (d := partD ws) (atI_nat' (by rw [List.getElem?_map, hws]; rfl)) ?_
    unfold partD
    walk_at "go"
    refine cutT_take (by rw [show (strsL ws).length = ws.length from List.length_map ..]; omega) ?_
    walk_at "go"
    refine g_kForL (fun j st C2 => ∃ (x6 : Option D), GoAt C2 p q E s ∧ Oth q C C2 ∧ st = [some (.ce p), some (.lst (natsD ns)), some (stsD sts), some (.int ((T + ((ws.take j).map fun b => lf E (s.drop (i + 1)) (bhd E sts b)).sum : Nat) : Int)), some (.int (i : Nat)), some (.int (n : Nat)), x6]) ⟨x6, hG', hO', by simp⟩ (fun j y st C2 hj hh => ?_) (fun st C2 hh => ?_)
    · obtain ⟨x6, hG2, hO2, rfl⟩ := hh
      have hjl := (List.getElem?_eq_some_iff.mp hj).1
      rw [List.length_take, show (strsL ws).length = ws.length from List.length_map ..] at hjl
      rw [List.getElem?_take_of_lt (by omega)] at hj
      unfold strsL at hj
      rw [List.getElem?_map] at hj
      cases e2 : ws[j]? with
      | none => rw [e2] at hj; cases hj
      | some b =>
        rw [e2] at hj
        cases hj
        have hob2 := hG2.ob
        obtain ⟨Ms2, hp2, _, _⟩ := hob2
        walk_at "go"
        refine g_kMth hp2 rfl ?_
        walk_at "go"
        refine g_kMth hp2 rfl ?_
        walk_at "go"
        refine behind_ok hG2 hE h3 hst ?_
        walk_at "go"
        rw [show (i : Int) + 1 = ((i + 1 : Nat) : Int) by omega, hba]
        refine left_ok hs hE h3 (s.length - (i + 1)) (i + 1) (v ++ b) C2 _ (by omega) (hva b (List.mem_of_getElem? e2)) hG2 8 (by omega) (fun C3 hG3 hO3 => ?_)
        walk_at "go"
        refine ⟨some (.str b), hG3, hO2.trans hO3, ?_⟩
        rw [List.take_add_one, e2, Option.toList_some, List.map_append, List.sum_append, List.map_cons, List.map_nil, List.sum_cons, List.sum_nil, hba b]
        rw [show (((T + ((ws.take j).map fun b => lf E (s.drop (i + 1)) (bhd E sts b)).sum : Nat) : Int)) + ((lf E (s.drop (i + 1)) (bhd E (beg E) (v ++ b)) : Nat) : Int) = ((T + (((ws.take j).map fun b => lf E (s.drop (i + 1)) (bhd E sts b)).sum + (lf E (s.drop (i + 1)) (bhd E (beg E) (v ++ b)) + 0)) : Nat) : Int) by omega]
    · obtain ⟨x6, hG2, hO2, rfl⟩ := hh
      rw [List.length_take, show (strsL ws).length = ws.length from List.length_map .., Nat.min_eq_left (by omega)]
      have hob2 := hG2.ob
      obtain ⟨Ms2, hp2, _, _⟩ := hob2
      walk_at "go"
      refine g_kMth hp2 rfl ?_
      walk_at "go"
      refine g_kFld hp2 rfl ?_
      unfold stepD
      walk_at "go"
      refine g_ixT (d := partD ws) (atI_nat' (by rw [List.getElem?_map, hws]; rfl)) ?_
      unfold partD
      walk_at "go"
      refine g_ixT (d := .str a) (atI_nat' (by unfold strsL; rw [List.getElem?_map, ha]; rfl)) ?_
      walk_at "go"
      refine behind_ok hG2 hE h3 hst ?_
      walk_at "go"
      refine ⟨_, v ++ a, u2, _, _, _, hG2, hO2, hva a (List.mem_of_getElem? ha), by rw [hwu, hu2, app_as], hP2, fun t h => ?_, by rw [hba]⟩
      rw [Nat.add_assoc]
      refine ht _ ?_
      rw [nws_cons, hu2]
      have hsum : ((ws.take n).map fun b => ((nws E (s.drop (i + 1)) (bhd E sts b)).map fun x => b ++ x).length) = (ws.take n).map fun b => lf E (s.drop (i + 1)) (bhd E sts b) := List.map_congr_left fun b _ => List.length_map ..
      have := flat_get (f := fun b => (nws E (s.drop (i + 1)) (bhd E sts b)).map fun x => b ++ x) (m := t) (u := a ++ u2) ha (by rw [hba, List.getElem?_map, h]; rfl)
      rw [hsum] at this
      exact this
  · obtain ⟨T, v, u, x4, x5, x6, hG', hO', hv, hwu, hP, ht, rfl⟩ := hh
    rw [enumD_len, show (natsD ns).length = ns.length from List.length_map .., List.drop_length, hnl, List.drop_length] at hP
    rw [enumD_len, show (natsD ns).length = ns.length from List.length_map .., hnl, List.drop_length] at ht
    have hu : u = "" := hP
    walk_at "go"
    refine k T _ ?_ hG' hO'
    refine ht 0 ?_
    rw [hwu, okw_app, hu, ] at hw
    unfold nws
    rw [cmb_nil, hu, List.filter_cons, hw]
    rfl
end
section
variable {C : AH} {P : D → AH → Prop} {ps : List (List (List Str))}
theorem place_ok {w : Str} (hb : ∀ s ∈ ps, Bd s) (hv : ∀ s ∈ ps, Vs s) (h3 : ps.length ≤ 10) (hw : w.length ≤ 5000) (k1 : ∀ n C', (dd (wrds ps))[n]? = some w → AL.Keep C C' → P (.int (n : Nat)) C') (k2 : w ∉ dd (wrds ps) → ∀ C', AL.Keep C C' → P .non C') : s_place [planD ps, .str w] C P := by
  have hrow := row_all hv
  unfold s_place a_place
  walk_at "go"
  refine goings_ok hb h3 fun as qs C1 hK hqs hG => ?_
  walk_at "go"
  refine g_kForL (fun i st C' => ∃ (x3 x4 : Option D), (∀ s ∈ ps.take i, w ∉ cmb s) ∧ AL.Keep C C' ∧ Gos C' as qs ps ps.length ∧ st = [some (planD ps), some (.str w), some (.int ((((List.range i).map fun j => (own ps j).length).sum : Nat) : Int)), x3, x4]) ⟨none, none, by simp, hK, hG, rfl⟩ (fun i y st C' hi hh => ?_) (fun st C' hh => ?_)
  · clear hK hG
    obtain ⟨x3, x4, hno, hK, hG, rfl⟩ := hh
    rw [List.getElem?_map] at hi
    cases ha : as[i]? with
    | none => rw [ha] at hi; cases hi
    | some a =>
      rw [ha] at hi
      cases hi
      have hil := (List.getElem?_eq_some_iff.mp ha).1
      rw [hG.la] at hil
      have hq : qs[i]? = some (qs[i]'(by rw [hG.lq]; exact hil)) := List.getElem?_eq_getElem _
      have hs : ps[i]? = some ps[i] := List.getElem?_eq_getElem hil
      generalize qs[i]'(by rw [hG.lq]; exact hil) = q at hq
      generalize ps[i] = s at hs
      have hg := hG.at' i a q s ha hq hs
      have hob := hg.ob
      obtain ⟨Ms, hp, _, _⟩ := hob
      have hsm := List.mem_of_getElem? hs
      walk_at "go"
      refine g_kFld hp rfl ?_
      walk_at "go"
      refine parted_ok (hb s hsm) (hv s hsm) hw (fun ns C2 hn hK2 => ?_) (fun hn C2 hK2 => ?_)
      · have hG2 : Gos C2 as qs ps ps.length := ⟨hG.la, hG.lq, hG.nd, fun j a q t h1 h2 h4 => (hG.at' j a q t h1 h2 h4).keep hK2⟩
        have hg2 := hG2.at' i a q s ha hq hs
        have hp2 := hK2 _ _ hp
        walk_at "go"
        refine g_ifT (fun K hK => by walk_at "go"; exact hK) ?_
        walk_at "go"
        refine g_kMth hp2 rfl ?_
        walk_at "go"
        have hok : okw (ps.take i) (beg (ps.take i)) w = true := by
          rw [okw_beg (fun e he => hv e (List.mem_of_mem_take he))]
          exact decide_eq_true hno
        refine ahead_ok (hb s hsm) (fun e he => hb e (List.mem_of_mem_take he)) (by rw [List.length_take]; omega) hg2 hn hok fun t C3 ht hG3 hO3 => ?_
        walk_at "go"
        have hri : (List.range ps.length)[i]? = some i := List.getElem?_range hil
        have hts : ((List.range ps.length).take i) = List.range i := by rw [List.take_range, Nat.min_eq_left (by omega)]
        have how : own ps i = nws (ps.take i) s (beg (ps.take i)) := by
          unfold own
          rw [show ps.getD i [] = s by simp [List.getD, hs]]
        rw [← how] at ht
        have h4 := flat_get (f := own ps) hri ht
        rw [hts, ← hrow] at h4
        exact k1 _ C3 h4 (keep_oth (hK.trans hK2) (hqs q (List.mem_of_getElem? hq)) hO3)
      · have hG2 : Gos C2 as qs ps ps.length := ⟨hG.la, hG.lq, hG.nd, fun j a q t h1 h2 h4 => (hG.at' j a q t h1 h2 h4).keep hK2⟩
        have hg2 := hG2.at' i a q s ha hq hs
        have hp2 := hK2 _ _ hp
        walk_at "go"
        refine g_ifF (fun K hK => by walk_at "go"; exact hK) ?_
        walk_at "go"
        refine g_kMth hp2 rfl ?_
        walk_at "go"
        refine g_kMth hp2 rfl ?_
        walk_at "go"
        refine begun_ok hg2 (by rw [List.length_take]; omega) ?_
        walk_at "go"
        refine own_left hb h3 hG2 ha hq hs fun C3 hG3 hO3 => ?_
        refine ⟨some (.ce a), some .non, fun t ht => ?_, keep_oth (hK.trans hK2) (hqs q (List.mem_of_getElem? hq)) hO3, hG3, ?_⟩
        · rw [List.take_add_one, hs, Option.toList_some] at ht
          rcases List.mem_append.mp ht with h | h
          · exact hno t h
          · rw [List.mem_singleton.mp h]; exact hn
        · rw [List.range_succ, List.map_append, List.sum_append]
          simp only [List.map_cons, List.map_nil, List.sum_cons, List.sum_nil, Nat.add_zero]
          rw [show (((((List.range i).map fun j => (own ps j).length).sum : Nat) : Int)) + (((own ps i).length : Nat) : Int) = ((((List.range i).map fun j => (own ps j).length).sum + (own ps i).length : Nat) : Int) by omega]
          rfl
  · obtain ⟨x3, x4, hno, hK, hG, rfl⟩ := hh
    rw [List.length_map, hG.la, List.take_length] at hno
    walk_at "go"
    refine k2 (fun hm => ?_) _ hK
    obtain ⟨s, hs, hc⟩ := mem_wrds.mp (mem_dd.mp hm)
    exact hno s hs hc
end
end A_k47
namespace A_k47
open PySem L2 AL
def nums : List (List Str) → List (List Nat)
  | [] => [[]]
  | ws :: r => (List.range' 0 ws.length).flatMap fun n => (nums r).map fun ms => n :: ms
def wrd : List (List Str) → List Nat → Str
  | ws :: r, n :: ns => ws.getD n "" ++ wrd r ns
  | _, _ => ""
theorem eta_map : ∀ (ws : List Str), (List.range' 0 ws.length).map (fun n => ws.getD n "") = ws := fun ws => by
  refine List.ext_getElem? fun i => ?_
  rw [List.getElem?_map]
  by_cases h : i < ws.length
  · rw [List.getElem?_range' h, List.getElem?_eq_getElem h]
    simp [List.getD, List.getElem?_eq_getElem h]
  · rw [List.getElem?_eq_none (by rw [List.length_range']; omega), List.getElem?_eq_none (by omega)]
    rfl
theorem cmb_nums : ∀ s, (nums s).map (wrd s) = cmb s
  | [] => rfl
  | ws :: r => by
    rw [cmb_cons, ← cmb_nums r]
    conv => rhs; rw [← eta_map ws]
    rw [List.flatMap_map]
    show ((List.range' 0 ws.length).flatMap fun n => (nums r).map fun ms => n :: ms).map (wrd (ws :: r)) = _
    rw [List.map_flatMap]
    congr 1
    funext n
    rw [List.map_map, List.map_map]
    rfl
theorem nums_len (s : List (List Str)) : (nums s).length = pls s := by rw [← cmb_len, ← cmb_nums, List.length_map]
theorem nums_pth : ∀ {s : List (List Str)} {ms : List Nat}, ms ∈ nums s → Pth s ms (wrd s ms)
  | [], ms, h => by rw [List.mem_singleton.mp h]; exact rfl
  | ws :: r, ms, h => by
    obtain ⟨n, hn, h2⟩ := List.mem_flatMap.mp h
    obtain ⟨ms', hm, rfl⟩ := List.mem_map.mp h2
    have hl : n < ws.length := by
      have := List.mem_range'.mp hn
      omega
    refine ⟨ws[n], wrd r ms', List.getElem?_eq_getElem hl, ?_, nums_pth hm⟩
    show ws.getD n "" ++ _ = _
    rw [show ws.getD n "" = ws[n] by simp [List.getD, List.getElem?_eq_getElem hl]]
theorem pth_nums : ∀ {s : List (List Str)} {ms : List Nat} {u : Str}, Pth s ms u → ms ∈ nums s ∧ u = wrd s ms
  | [], [], u, h => ⟨List.mem_singleton.mpr rfl, h⟩
  | ws :: r, n :: ms, u, ⟨a, v, h1, h2, h⟩ => by
    obtain ⟨i1, i2⟩ := pth_nums h
    have hl := (List.getElem?_eq_some_iff.mp h1).1
    refine ⟨List.mem_flatMap.mpr ⟨n, List.mem_range'.mpr ⟨n, hl, by omega⟩, List.mem_map.mpr ⟨ms, i1, rfl⟩⟩, ?_⟩
    show u = ws.getD n "" ++ wrd r ms
    rw [h2, i2, show ws.getD n "" = a by simp [List.getD, h1]]
  | [], _ :: _, _, h => h.elim
  | _ :: _, [], _, h => h.elim
theorem nd_at {ws : List Str} (h : ws.Nodup) {i j : Nat} {a : Str} (h1 : ws[i]? = some a) (h2 : ws[j]? = some a) : i = j := by
  obtain ⟨l1, e1⟩ := List.getElem?_eq_some_iff.mp h1
  obtain ⟨l2, e2⟩ := List.getElem?_eq_some_iff.mp h2
  exact (List.getElem_inj h).mp (e1.trans e2.symm)
theorem Pth.uniq : ∀ {s : List (List Str)} {a b : List Nat} {w : Str}, (∀ (i : Nat) ws, s[i]? = some ws → i + 1 < s.length → PF ws) → (∀ ws ∈ s, ws.Nodup) → Pth s a w → Pth s b w → a = b
  | [], [], [], _, _, _, _, _ => rfl
  | [ws], [n], [m], w, _, hn, ⟨a, v, h1, h2, h3⟩, ⟨b, u, g1, g2, g3⟩ => by
    have e1 : v = "" := h3
    have e2 : u = "" := g3
    rw [e1, app_e] at h2
    rw [e2, app_e] at g2
    rw [← h2] at h1
    rw [← g2] at g1
    rw [nd_at (hn ws (List.mem_singleton.mpr rfl)) h1 g1]
  | ws :: x :: r, n :: as, m :: bs, w, hp, hn, ⟨a, v, h1, h2, h3⟩, ⟨b, u, g1, g2, g3⟩ => by
    have hab := (hp 0 ws rfl (by simp)).uniq (List.mem_of_getElem? h1) (List.mem_of_getElem? g1) (h2.symm.trans g2)
    subst hab
    have huv := app_inj (h2.symm.trans g2)
    subst huv
    rw [nd_at (hn ws List.mem_cons_self) h1 g1, Pth.uniq (s := x :: r) (fun i us hi hl => hp (i + 1) us hi (by simp only [List.length_cons] at hl ⊢; omega)) (fun us hu => hn us (List.mem_cons_of_mem _ hu)) h3 g3]
  | [], _ :: _, _, _, _, _, h, _ => h.elim
  | [], [], _ :: _, _, _, _, _, h => h.elim
  | _ :: _, [], _, _, _, _, h, _ => h.elim
  | _ :: _, _ :: _, [], _, _, _, _, h => h.elim
  | [_], _ :: _ :: _, _, _, _, _, ⟨_, _, _, _, h⟩, _ => h.elim
  | [_], [_], _ :: _ :: _, _, _, _, _, ⟨_, _, _, _, h⟩ => h.elim
def sucS : List (List Str) → List Nat → Option (List Nat)
  | ws :: r, n :: ms => match sucS r ms with
    | some ms' => some (n :: ms')
    | none => if n + 1 < ws.length then some ((n + 1) :: List.replicate r.length 0) else none
  | _, _ => none
def Nx {α : Type} (suc : α → Option α) : List α → Option α → Prop
  | [], _ => True
  | x :: l, e => suc x = (l.head?).or e ∧ Nx suc l e
theorem Nx.app {α : Type} {suc : α → Option α} {l2 : List α} {e : Option α} : ∀ {l1 : List α}, Nx suc l1 ((l2.head?).or e) → Nx suc l2 e → Nx suc (l1 ++ l2) e
  | [], _, h => h
  | x :: l, ⟨h1, h2⟩, h => ⟨by
    rw [h1]
    show _ = ((l ++ l2).head?).or e
    rw [List.head?_append, Option.or_assoc], Nx.app h2 h⟩
theorem Nx.drop {α : Type} {suc : α → Option α} {l2 : List α} {e : Option α} : ∀ {l1 : List α}, Nx suc (l1 ++ l2) e → Nx suc l2 e
  | [], h => h
  | _ :: l, ⟨_, h⟩ => Nx.drop (l1 := l) h
theorem nums_head : ∀ {s : List (List Str)}, nums s ≠ [] → (nums s).head? = some (List.replicate s.length 0)
  | [], _ => rfl
  | ws :: r, h => by
    have hr : nums r ≠ [] := fun e => h (by
      show ((List.range' 0 ws.length).flatMap fun n => (nums r).map fun ms => n :: ms) = []
      rw [e]
      simp)
    cases hl : ws.length with
    | zero =>
      exfalso
      apply h
      show ((List.range' 0 ws.length).flatMap fun n => (nums r).map fun ms => n :: ms) = []
      rw [hl]
      rfl
    | succ k =>
      show ((List.range' 0 ws.length).flatMap fun n => (nums r).map fun ms => n :: ms).head? = _
      rw [hl, List.range'_succ, List.flatMap_cons, List.head?_append, List.head?_map, nums_head hr]
      rfl
theorem nx_nums : ∀ s : List (List Str), Nx (sucS s) (nums s) none
  | [] => ⟨rfl, trivial⟩
  | ws :: r => by
    have ih := nx_nums r
    have block : ∀ (n : Nat) (l : List (List Nat)), Nx (sucS r) l none → Nx (sucS (ws :: r)) (l.map fun ms => n :: ms) (if n + 1 < ws.length then some ((n + 1) :: List.replicate r.length 0) else none) := by
      intro n l
      induction l with
      | nil => intro _; trivial
      | cons ms l il =>
        rintro ⟨h1, h2⟩
        refine ⟨?_, il h2⟩
        show (match sucS r ms with | some ms' => some (n :: ms') | none => _) = _
        rw [h1, Option.or_none, List.head?_map]
        cases l.head? with
        | none => rfl
        | some y => rfl
    have main : ∀ (c n : Nat), n + c = ws.length → Nx (sucS (ws :: r)) ((List.range' n c).flatMap fun n => (nums r).map fun ms => n :: ms) none := by
      intro c
      induction c with
      | zero => intro n _; trivial
      | succ c ic =>
        intro n hn
        rw [List.range'_succ, List.flatMap_cons]
        refine Nx.app ?_ (ic (n + 1) (by omega))
        rw [Option.or_none]
        by_cases hr : nums r = []
        · rw [hr]; trivial
        · have e : ((List.range' (n + 1) c).flatMap fun n => (nums r).map fun ms => n :: ms).head? = if n + 1 < ws.length then some ((n + 1) :: List.replicate r.length 0) else none := by
            cases c with
            | zero => rw [if_neg (by omega)]; rfl
            | succ c =>
              rw [if_pos (by omega), List.range'_succ, List.flatMap_cons, List.head?_append, List.head?_map, nums_head hr]
              rfl
          rw [e]
          exact block n _ ih
    exact main ws.length 0 (by omega)
theorem dropD {α : Type} {s : List (List α)} {k : Nat} (h : k < s.length) : s.drop k = s.getD k [] :: s.drop (k + 1) := by
  rw [List.drop_eq_getElem_cons h]
  simp [List.getD, List.getElem?_eq_getElem h]
/-- all ways through the steps from the k-th on -/
def spF (k : Nat) : List (List (List Str)) → List (Nat × List Nat)
  | [] => []
  | s :: r => ((nums s).map fun ms => (k, ms)) ++ spF (k + 1) r
def fstF (k : Nat) : List (List (List Str)) → Option (Nat × List Nat)
  | [] => none
  | s :: r => if 0 < pls s then some (k, List.replicate s.length 0) else fstF (k + 1) r
theorem fst_ok : ∀ (l : List (List (List Str))) (k : Nat), (spF k l).head? = fstF k l
  | [], _ => rfl
  | s :: r, k => by
    show (((nums s).map fun ms => (k, ms)) ++ spF (k + 1) r).head? = if 0 < pls s then some (k, List.replicate s.length 0) else fstF (k + 1) r
    rw [List.head?_append, fst_ok r (k + 1), List.head?_map]
    by_cases h : nums s = []
    · rw [← nums_len, h]; rfl
    · rw [nums_head h, if_pos]
      · rfl
      · rw [← nums_len]
        exact List.length_pos_iff.mpr h
def nxt (ps : List (List (List Str))) (x : Nat × List Nat) : Option (Nat × List Nat) := match sucS (ps.getD x.1 []) x.2 with
  | some ms => some (x.1, ms)
  | none => fstF (x.1 + 1) (ps.drop (x.1 + 1))
theorem nx_sp (ps : List (List (List Str))) : ∀ (l : List (List (List Str))) (k : Nat), ps.drop k = l → Nx (nxt ps) (spF k l) none
  | [], _, _ => trivial
  | s :: r, k, h => by
    have hk : k < ps.length := by
      by_cases q : k < ps.length
      · exact q
      · rw [List.drop_eq_nil_of_le (by omega)] at h; cases h
    have hd := dropD hk
    rw [h] at hd
    injection hd with h1 h2
    have block : ∀ l : List (List Nat), Nx (sucS s) l none → Nx (nxt ps) (l.map fun ms => (k, ms)) (fstF (k + 1) r) := by
      intro l
      induction l with
      | nil => intro _; trivial
      | cons ms l il =>
        rintro ⟨g1, g2⟩
        refine ⟨?_, il g2⟩
        show (match sucS (ps.getD k []) ms with | some ms => some (k, ms) | none => fstF (k + 1) (ps.drop (k + 1))) = _
        rw [← h1, ← h2, g1, Option.or_none, List.head?_map]
        cases l.head? with
        | none => rfl
        | some y => rfl
    refine Nx.app ?_ (nx_sp ps r (k + 1) h2.symm)
    rw [Option.or_none, fst_ok]
    exact block _ (nx_nums s)
def wd (ps : List (List (List Str))) (x : Nat × List Nat) : Str := wrd (ps.getD x.1 []) x.2
def fr (ps : List (List (List Str))) (x : Nat × List Nat) : Bool := okw (ps.take x.1) (beg (ps.take x.1)) (wd ps x)
theorem own_sp (ps : List (List (List Str))) (k : Nat) : ((((nums (ps.getD k [])).map fun ms => (k, ms)).filter (fr ps)).map (wd ps)) = own ps k := by
  rw [List.filter_map, List.map_map]
  unfold own nws
  rw [← cmb_nums, List.filter_map]
  rfl
theorem row_sp (ps : List (List (List Str))) : ∀ (l : List (List (List Str))) (k : Nat), ps.drop k = l → ((spF k l).filter (fr ps)).map (wd ps) = (List.range' k l.length).flatMap (own ps)
  | [], _, _ => rfl
  | s :: r, k, h => by
    have hk : k < ps.length := by
      by_cases q : k < ps.length
      · exact q
      · rw [List.drop_eq_nil_of_le (by omega)] at h; cases h
    have hd := dropD hk
    rw [h] at hd
    injection hd with h1 h2
    show ((((nums s).map fun ms => (k, ms)) ++ spF (k + 1) r).filter (fr ps)).map (wd ps) = _
    rw [List.filter_append, List.map_append, row_sp ps r (k + 1) h2.symm, List.length_cons, List.range'_succ, List.flatMap_cons, h1, own_sp]
theorem row_fr {ps : List (List (List Str))} (hv : ∀ s ∈ ps, Vs s) : dd (wrds ps) = ((spF 0 ps).filter (fr ps)).map (wd ps) := by
  rw [row_all hv, row_sp ps ps 0 rfl, List.range_eq_range']
/-- the first way that makes a word -/
structure SpotIs (ps : List (List (List Str))) (w : Str) (x : Nat × List Nat) : Prop where
  lt : x.1 < ps.length
  no : ∀ e ∈ ps.take x.1, w ∉ cmb e
  pt : Pth (ps.getD x.1 []) x.2 w
theorem SpotIs.uniq {ps : List (List (List Str))} (hv : ∀ s ∈ ps, Vs s) {w : Str} {x y : Nat × List Nat} (hx : SpotIs ps w x) (hy : SpotIs ps w y) : x = y := by
  have key : ∀ {x y : Nat × List Nat}, SpotIs ps w x → SpotIs ps w y → ¬ x.1 < y.1 := fun {x y} hx hy h => by
    refine hy.no (ps.getD x.1 []) ?_ hx.pt.mem
    have e : (ps.take y.1)[x.1]? = some (ps.getD x.1 []) := by rw [List.getElem?_take_of_lt h]; exact getD_some hx.lt
    exact List.mem_of_getElem? e
  obtain ⟨k, a⟩ := x
  obtain ⟨j, b⟩ := y
  have e : k = j := by
    have h1 : ¬ k < j := key hx hy
    have h2 : ¬ j < k := key hy hx
    omega
  subst e
  have hs := hv _ (List.mem_of_getElem? (getD_some hx.lt))
  rw [show a = b from Pth.uniq hs.pf hs.nd hx.pt hy.pt]
theorem mem_spF : ∀ {l : List (List (List Str))} {k : Nat} {x : Nat × List Nat}, x ∈ spF k l ↔ ∃ j, j < l.length ∧ x.1 = k + j ∧ x.2 ∈ nums (l.getD j [])
  | [], k, x => by simp [spF]
  | s :: r, k, x => by
    show x ∈ ((nums s).map fun ms => (k, ms)) ++ spF (k + 1) r ↔ _
    rw [List.mem_append, mem_spF]
    constructor
    · rintro (h | ⟨j, h1, h2, h3⟩)
      · obtain ⟨ms, hm, rfl⟩ := List.mem_map.mp h
        exact ⟨0, by simp, rfl, hm⟩
      · exact ⟨j + 1, by simpa using h1, by omega, by simpa [List.getD] using h3⟩
    · rintro ⟨j, h1, h2, h3⟩
      cases j with
      | zero => exact .inl (List.mem_map.mpr ⟨x.2, h3, by rw [show k = x.1 by omega]⟩)
      | succ j => exact .inr ⟨j, by simpa using h1, by omega, by simpa [List.getD] using h3⟩
theorem sp_spot {ps : List (List (List Str))} (hv : ∀ s ∈ ps, Vs s) {x : Nat × List Nat} (hx : x ∈ spF 0 ps) (hf : fr ps x = true) : SpotIs ps (wd ps x) x := by
  obtain ⟨j, h1, h2, h3⟩ := mem_spF.mp hx
  rw [show j = x.1 by omega] at h1 h3
  refine ⟨h1, ?_, nums_pth h3⟩
  unfold fr at hf
  rw [okw_beg (fun e he => hv e (List.mem_of_mem_take he))] at hf
  exact of_decide_eq_true hf
theorem spot_sp {ps : List (List (List Str))} (hv : ∀ s ∈ ps, Vs s) {w : Str} {x : Nat × List Nat} (h : SpotIs ps w x) : x ∈ spF 0 ps ∧ fr ps x = true ∧ wd ps x = w := by
  obtain ⟨h1, h2⟩ := pth_nums h.pt
  refine ⟨mem_spF.mpr ⟨x.1, h.lt, by omega, h1⟩, ?_, h2.symm⟩
  unfold fr
  rw [okw_beg (fun e he => hv e (List.mem_of_mem_take he))]
  refine decide_eq_true ?_
  rw [show wd ps x = w from h2.symm]
  exact h.no
theorem fil_at {α : Type} {q : α → Bool} : ∀ {l : List α} {n : Nat} {x : α}, (l.filter q)[n]? = some x → ∃ A B, l = A ++ x :: B ∧ (A.filter q).length = n ∧ q x = true
  | [], _, _, h => by simp at h
  | y :: l, n, x, h => by
    rw [List.filter_cons] at h
    by_cases e : q y = true
    · rw [if_pos e] at h
      cases n with
      | zero =>
        cases h
        exact ⟨[], l, rfl, rfl, e⟩
      | succ n =>
        obtain ⟨A, B, h1, h2, h3⟩ := fil_at (l := l) (by simpa using h)
        exact ⟨y :: A, B, by rw [h1]; rfl, by rw [List.filter_cons, if_pos e, List.length_cons, h2], h3⟩
    · rw [if_neg e] at h
      obtain ⟨A, B, h1, h2, h3⟩ := fil_at h
      exact ⟨y :: A, B, by rw [h1]; rfl, by rw [List.filter_cons, if_neg e, h2], h3⟩
/-- where the n-th word stands -/
theorem at_spot {ps : List (List (List Str))} (hv : ∀ s ∈ ps, Vs s) {n : Nat} {T : Str} (hT : (dd (wrds ps))[n]? = some T) {x : Nat × List Nat} (hx : SpotIs ps T x) : ∃ A B, spF 0 ps = A ++ x :: B ∧ (A.filter (fr ps)).length = n ∧ fr ps x = true := by
  rw [row_fr hv, List.getElem?_map] at hT
  cases e : ((spF 0 ps).filter (fr ps))[n]? with
  | none => rw [e] at hT; cases hT
  | some y =>
    rw [e] at hT
    have hy : wd ps y = T := Option.some.inj hT
    obtain ⟨A, B, h1, h2, h3⟩ := fil_at e
    have hm : y ∈ spF 0 ps := by rw [h1]; simp
    have hs := sp_spot hv hm h3
    rw [hy] at hs
    have := SpotIs.uniq hv hx hs
    subst this
    exact ⟨A, B, h1, h2, h3⟩
/-- the next fresh one makes the next word -/
theorem next_word {ps : List (List (List Str))} (hv : ∀ s ∈ ps, Vs s) {n : Nat} {x y : Nat × List Nat} {A N R : List (Nat × List Nat)} (h : spF 0 ps = A ++ x :: (N ++ y :: R)) (hA : (A.filter (fr ps)).length = n) (hx : fr ps x = true) (hN : ∀ z ∈ N, fr ps z = false) (hy : fr ps y = true) : (dd (wrds ps))[n + 1]? = some (wd ps y) := by
  have eN : N.filter (fr ps) = [] := List.filter_eq_nil_iff.mpr fun z hz => by rw [hN z hz]; exact Bool.false_ne_true
  rw [row_fr hv, h, List.filter_append, List.filter_cons, if_pos hx, List.filter_append, eN, List.nil_append, List.filter_cons, if_pos hy, List.getElem?_map, List.getElem?_append_right (by omega), hA]
  rw [show n + 1 - n = 1 by omega]
  rfl
theorem last_word {ps : List (List (List Str))} (hv : ∀ s ∈ ps, Vs s) {n : Nat} {x : Nat × List Nat} {A B : List (Nat × List Nat)} (h : spF 0 ps = A ++ x :: B) (hA : (A.filter (fr ps)).length = n) (hx : fr ps x = true) (hB : ∀ z ∈ B, fr ps z = false) : (dd (wrds ps)).length = n + 1 := by
  have eB : B.filter (fr ps) = [] := List.filter_eq_nil_iff.mpr fun z hz => by rw [hB z hz]; exact Bool.false_ne_true
  rw [row_fr hv, h, List.length_map, List.filter_append, List.filter_cons, if_pos hx, eB, List.length_append, hA]
  rfl
end A_k47
namespace A_k47
open PySem L2 AL
def spD (x : Nat × List Nat) : D := .tup [.int (x.1 : Nat), .lst (natsD x.2)]
theorem cut_bg (u a : Str) : decide (cutS u none (some (a.length : Int)) = a) = bg u a := by
  unfold bg
  have h := cutS_take u a.length
  by_cases e : cutS u none (some (a.length : Int)) = a
  · rw [decide_eq_true e, ← h, e]; simp
  · rw [decide_eq_false e]
    symm
    refine decide_eq_false fun q => e (strExt ?_)
    show (cutS u none (some (a.length : Int))).cps.toList = a.cps.toList
    rw [h, q]
/-- where a word stands in a part -/
def hit (ws : List Str) (u : Str) (i : Nat) : List Nat := (List.range i).filter fun j => decide (ws.getD j "" = u)
theorem hit_some {ws : List Str} {u : Str} (h : u ∈ ws) : ∃ j l, hit ws u ws.length = j :: l ∧ ws[j]? = some u := by
  obtain ⟨i, hi⟩ := List.getElem?_of_mem h
  have hl := (List.getElem?_eq_some_iff.mp hi).1
  have hm : i ∈ hit ws u ws.length := List.mem_filter.mpr ⟨List.mem_range.mpr hl, by simp [List.getD, hi]⟩
  cases e : hit ws u ws.length with
  | nil => rw [e] at hm; cases hm
  | cons j l =>
    have hj : j ∈ hit ws u ws.length := by rw [e]; exact List.mem_cons_self
    obtain ⟨h1, h2⟩ := List.mem_filter.mp hj
    have h1 := List.mem_range.mp h1
    have h2 := of_decide_eq_true h2
    refine ⟨j, l, rfl, ?_⟩
    rw [List.getElem?_eq_getElem h1]
    rw [show ws.getD j "" = ws[j] by simp [List.getD, List.getElem?_eq_getElem h1]] at h2
    rw [h2]
section
variable {C : AH} {P : D → AH → Prop}
theorem numbers_ok {s : List (List Str)} {w : Str} (hb : Bd s) (hv : Vs s) (hw : w.length ≤ 5000) (k1 : ∀ ns C', Pth s ns w → AL.Keep C C' → P (.lst (natsD ns)) C') (k2 : w ∉ cmb s → ∀ C', AL.Keep C C' → P .non C') : s_law_numbers [stepD s, .str w] C P := by
  obtain ⟨r, l, rfl⟩ := snoc hb.one
  have h5 := hb.five
  unfold s_law_numbers a_law_numbers
  walk_at "go"
  intro p hp
  have hCp : put C p (.lst []) p = some (.lst (natsD [])) := put_same
  have hK := (AL.Keep.refl C).put (c := .lst []) hp
  generalize put C p (.lst []) = C1 at hCp hK ⊢
  unfold stepD
  walk_at "go"
  refine g_cutLast (us := r.map partD) (d := partD l) (by rw [List.map_append]; rfl) ?_
  walk_at "go"
  refine g_kForL (fun i st C' => ∃ (ns : List Nat) (u : Str) (x3 x4 : Option D), ns.length = i ∧ u.length ≤ 5000 ∧ (∀ ms, Pth ((r ++ [l]).drop i) ms u → Pth (r ++ [l]) (ns ++ ms) w) ∧ (u ∉ cmb ((r ++ [l]).drop i) → w ∉ cmb (r ++ [l])) ∧ C' p = some (.lst (natsD ns)) ∧ AL.Keep C C' ∧ st = [some (.tup ((r ++ [l]).map partD)), some (.str u), some (.ce p), x3, x4, none, none]) ⟨[], w, none, none, rfl, hw, fun ms h => h, fun h => h, hCp, hK, rfl⟩ (fun i y st C' hi hh => ?_) (fun st C' hh => ?_)
  · clear hCp hK
    obtain ⟨ns, u, x3, x4, hnl, hu, h1, h2, hCp, hK, rfl⟩ := hh
    rw [List.getElem?_map] at hi
    cases e : r[i]? with
    | none => rw [e] at hi; cases hi
    | some ws =>
      rw [e] at hi
      cases hi
      have hil := (List.getElem?_eq_some_iff.mp e).1
      rw [List.length_append, List.length_singleton] at h5
      have hs : (r ++ [l])[i]? = some ws := by rw [List.getElem?_append_left hil]; exact e
      have hd : (r ++ [l]).drop i = ws :: (r ++ [l]).drop (i + 1) := by
        rw [List.drop_eq_getElem_cons (by rw [List.length_append]; omega)]
        rw [List.getElem?_eq_getElem (by rw [List.length_append]; omega)] at hs
        rw [Option.some.inj hs]
      have hpf := hv.pf i ws hs (by rw [List.length_append, List.length_singleton]; omega)
      obtain ⟨hw12, hw6⟩ := hb.few ws (List.mem_of_getElem? hs)
      rw [hd] at h1 h2
      walk_at "go"
      refine g_ieG ?_
      walk_at "go"
      unfold partD
      refine g_kIEG (ds := strsL ws) (fun _ => rfl) ?_
      have hsl : (strsL ws).length = ws.length := List.length_map ..
      refine g_kLc (fun j acc C2 => acc = natsD (fit ws u j) ∧ C2 = C') (by rw [enumD_len, hsl]; simp only [sizeLine]; omega) ⟨rfl, rfl⟩ (fun j y acc C2 hj hw => ?_) (fun acc C2 hw => ?_)
      · obtain ⟨rfl, rfl⟩ := hw
        have hjl := (List.getElem?_eq_some_iff.mp hj).1
        rw [enumD_len, hsl] at hjl
        have hwj : ws[j]? = some (ws[j]'hjl) := List.getElem?_eq_getElem _
        have hga : ws.getD j "" = ws[j]'hjl := by simp [List.getD, hwj]
        generalize ws[j]'hjl = a at hwj hga
        have ha6 := hw6 a (List.mem_of_getElem? hwj)
        rw [enumD_get (d := .str a) (by unfold strsL; rw [List.getElem?_map, hwj]; rfl)] at hj
        cases hj
        walk_at "go"
        refine g_lenS (by simp only [sizeLine]; omega) ?_
        walk_at "go"
        refine g_cutSt (by omega) ?_
        walk_at "go"
        rw [cut_bg]
        have ef : fit ws u (j + 1) = fit ws u j ++ (if bg u a = true then [j] else []) := by
          unfold fit
          rw [List.range_succ, List.filter_append, List.filter_cons, hga, List.filter_nil]
        cases hbg : bg u a with
        | true =>
          walk_at "go"
          rw [ef, hbg]
          exact ⟨by simp [natsD], rfl⟩
        | false =>
          walk_at "go"
          rw [ef, hbg]
          exact ⟨by simp [natsD], rfl⟩
      · obtain ⟨rfl, rfl⟩ := hw
        rw [enumD_len, hsl]
        walk_at "go"
        refine g_ifS ?_
        walk_at "go"
        cases hf : fit ws u ws.length with
        | nil =>
          rw [show (natsD []).isEmpty = true from rfl]
          walk_at "go"
          refine k2 (h2 fun hm => ?_) _ hK
          obtain ⟨a, ha, v, _, e2⟩ := mem_cons.mp hm
          have := fit_none hf a ha
          rw [e2, bg_of] at this
          cases this
        | cons j t =>
          obtain ⟨a, ha, hba⟩ := fit_some hf rfl
          rw [show (natsD (j :: t)).isEmpty = false from rfl]
          have ha6 := hw6 a (List.mem_of_getElem? ha)
          have hcat := bg_cat hba
          walk_at "go"
          refine g_ixL (d := .int (j : Nat)) (atI_nat' (i := 0) rfl) ?_
          walk_at "go"
          refine g_append hCp (by rw [show (natsD ns).length = ns.length from List.length_map .., hnl]; simp only [sizeLine]; omega) ?_
          walk_at "go"
          refine g_ixL (d := .int (j : Nat)) (atI_nat' (i := 0) rfl) ?_
          walk_at "go"
          refine g_ixT (d := .str a) (atI_nat' (by unfold strsL; rw [List.getElem?_map, ha]; rfl)) ?_
          walk_at "go"
          refine g_lenS (by simp only [sizeLine]; omega) ?_
          walk_at "go"
          refine g_cutSt (by omega) ?_
          walk_at "go"
          generalize cutS u (some (a.length : Int)) none = v at hcat ⊢
          have hvl : u.length = a.length + v.length := by rw [hcat, app_len]
          refine ⟨ns ++ [j], v, _, _, by simp [hnl], by omega, fun ms hm => ?_, fun hn => h2 fun hm => hn ?_, by rw [put_same]; simp [natsD], hK.put hp, rfl⟩
          · rw [List.append_assoc]
            exact h1 _ ⟨a, v, ha, hcat, hm⟩
          · obtain ⟨a', ha', v', hv', e2⟩ := mem_cons.mp hm
            have e3 := hpf.uniq (List.mem_of_getElem? ha) ha' (hcat.symm.trans e2)
            rw [← e3, hcat] at e2
            rw [app_inj e2]
            exact hv'
  · clear hCp hK
    obtain ⟨ns, u, x3, x4, hnl, hu, h1, h2, hCp, hK, rfl⟩ := hh
    rw [List.length_map] at h1 h2
    rw [List.drop_left] at h1 h2
    rw [cmb_one] at h2
    refine g_frzL rfl hCp ?_
    have hK := hK.del hp
    generalize del C' p = C2 at hK
    have hlast : atI ((r ++ [l]).map partD) (-1) = some (partD l) := AL.atI_last (i := r.length) (by simp) (by rw [List.getElem?_map, List.getElem?_append_right (Nat.le_refl _), Nat.sub_self]; rfl)
    have hl12 := (hb.few l (by simp)).1
    walk_at "go"
    refine g_ifS ?_
    walk_at "go"
    refine g_ixT hlast ?_
    unfold partD
    walk_at "go"
    refine g_ninT ?_
    walk_at "go"
    by_cases hm : u ∈ l
    · rw [decide_eq_true hm, show (!true) = false from rfl]
      obtain ⟨j, t, hj, hlj⟩ := hit_some hm
      walk_at "go"
      refine g_ieG ?_
      walk_at "go"
      refine g_ixT hlast ?_
      unfold partD
      walk_at "go"
      refine g_kIEG (ds := strsL l) (fun _ => rfl) ?_
      have hsl : (strsL l).length = l.length := List.length_map ..
      refine g_kLc (fun j acc C3 => acc = natsD (hit l u j) ∧ C3 = C2) (by rw [enumD_len, hsl]; simp only [sizeLine]; omega) ⟨rfl, rfl⟩ (fun j y acc C3 hj hw => ?_) (fun acc C3 hw => ?_)
      · obtain ⟨rfl, rfl⟩ := hw
        have hjl := (List.getElem?_eq_some_iff.mp hj).1
        rw [enumD_len, hsl] at hjl
        have hwj : l[j]? = some (l[j]'hjl) := List.getElem?_eq_getElem _
        have hga : l.getD j "" = l[j]'hjl := by simp [List.getD, hwj]
        generalize l[j]'hjl = a at hwj hga
        rw [enumD_get (d := .str a) (by unfold strsL; rw [List.getElem?_map, hwj]; rfl)] at hj
        cases hj
        walk_at "go"
        have ef : hit l u (j + 1) = hit l u j ++ (if decide (a = u) = true then [j] else []) := by
          unfold hit
          rw [List.range_succ, List.filter_append, List.filter_cons, hga, List.filter_nil]
        by_cases hau : a = u
        · rw [decide_eq_true hau]
          walk_at "go"
          rw [ef, decide_eq_true hau]
          exact ⟨by simp [natsD], rfl⟩
        · rw [decide_eq_false hau]
          walk_at "go"
          rw [ef, decide_eq_false hau]
          exact ⟨by simp [natsD], rfl⟩
      · obtain ⟨rfl, rfl⟩ := hw
        rw [enumD_len, hsl, hj]
        walk_at "go"
        refine g_ixL (d := .int (j : Nat)) (atI_nat' (i := 0) rfl) ?_
        walk_at "go"
        refine g_addL (by rw [show (natsD ns).length = ns.length from List.length_map .., hnl, List.length_singleton]; simp only [List.length_map, sizeLine]; rw [List.length_append] at h5; omega) ?_
        rw [show natsD ns ++ [D.int (j : Int)] = natsD (ns ++ [j]) by simp [natsD]]
        exact k1 _ _ (h1 [j] ⟨u, "", hlj, (app_e u).symm, rfl⟩) hK
    · rw [decide_eq_false hm, show (!false) = true from rfl]
      walk_at "go"
      exact k2 (h2 hm) _ hK
theorem lsize_ok {s : List (List Str)} (hs : Few s) (k : P (.int (pls s : Nat)) C) : s_law_size [stepD s] C P := by
  unfold s_law_size a_law_size stepD
  walk_at "go"
  refine g_kForL (fun i st C' => ∃ (x2 : Option D), C = C' ∧ st = [some (.tup (s.map partD)), some (.int (pls (s.take i) : Nat)), x2]) ⟨none, rfl, rfl⟩ (fun i y st C' hi hh => ?_) (fun st C' hh => ?_)
  · obtain ⟨x2, rfl, rfl⟩ := hh
    rw [List.getElem?_map] at hi
    cases e : s[i]? with
    | none => rw [e] at hi; cases hi
    | some ws =>
      rw [e] at hi
      cases hi
      have h12 := (hs ws (List.mem_of_getElem? e)).1
      walk_at "go"
      refine len_part ws ?_
      walk_at "go"
      have ep : pls (s.take (i + 1)) = pls (s.take i) * ws.length := by
        rw [List.take_add_one, e]
        exact pls_snoc _ _
      exact ⟨_, rfl, by rw [ep, Int.natCast_mul]⟩
  · obtain ⟨x2, rfl, rfl⟩ := hh
    rw [List.length_map, List.take_length]
    walk_at "go"
    exact k
/-- the pieces of a word -/
def pcs : List (List Str) → List Nat → List Str
  | ws :: r, n :: ns => ws.getD n "" :: pcs r ns
  | _, _ => []
theorem pcs_at : ∀ {s : List (List Str)} {ns : List Nat} {i : Nat} {ws : List Str} {n : Nat}, s[i]? = some ws → ns[i]? = some n → (pcs s ns)[i]? = some (ws.getD n "")
  | ws :: r, n :: ns, 0, _, _, h1, h2 => by cases h1; cases h2; rfl
  | ws :: r, n :: ns, i + 1, _, _, h1, h2 => by
    show (pcs r ns)[i]? = _
    exact pcs_at (by simpa using h1) (by simpa using h2)
  | [], _, _, _, _, h1, _ => by simp at h1
  | _ :: _, [], _, _, _, _, h2 => by simp at h2
theorem pcs_join : ∀ (s : List (List Str)) (ns : List Nat), Txt.join "" (pcs s ns) = wrd s ns
  | ws :: r, n :: ns => by
    show Txt.join "" (ws.getD n "" :: pcs r ns) = ws.getD n "" ++ wrd r ns
    rw [← pcs_join r ns]
    refine strExt ?_
    rw [cs_app]
    show (Txt.join "" _).cps.toList = _ ++ (Txt.join "" _).cps.toList
    rw [join_toList, join_toList]
    rfl
  | [], _ => rfl
  | _ :: _, [] => rfl
theorem pcs_len : ∀ {s : List (List Str)} {ns : List Nat}, ns.length = s.length → (pcs s ns).length = s.length
  | [], [], _ => rfl
  | _ :: r, _ :: ns, h => by
    show (pcs r ns).length + 1 = r.length + 1
    rw [pcs_len (by simpa using h)]
theorem wrd_pth {s : List (List Str)} {ns : List Nat} {w : Str} (h : Pth s ns w) : w = wrd s ns := (pth_nums h).2
theorem pth_at : ∀ {s : List (List Str)} {ns : List Nat} {w : Str} {i : Nat} {ws : List Str} {n : Nat}, Pth s ns w → s[i]? = some ws → ns[i]? = some n → ws[n]? = some (ws.getD n "")
  | ws :: r, n :: ns, _, 0, _, _, ⟨a, _, h, _, _⟩, h1, h2 => by cases h1; cases h2; simp [List.getD, h]
  | ws :: r, n :: ns, _, i + 1, _, _, ⟨_, _, _, _, h⟩, h1, h2 => pth_at h (i := i) (by simpa using h1) (by simpa using h2)
  | [], _, _, _, _, _, _, h1, _ => by simp at h1
  | _ :: _, [], _, _, _, _, _, _, h2 => by simp at h2
theorem word_ok {ps : List (List (List Str))} {x : Nat × List Nat} {w : Str} (hb : ∀ s ∈ ps, Bd s) (hx : x.1 < ps.length) (hp : Pth (ps.getD x.1 []) x.2 w) (k : P (.str w) C) : s_law_word [planD ps, spD x] C P := by
  obtain ⟨j, ns⟩ := x
  have hs := getD_some hx
  have hx : j < ps.length := hx
  have hp : Pth (ps.getD j []) ns w := hp
  have hs : ps[j]? = some (ps.getD j []) := hs
  generalize ps.getD j [] = s at hp hs
  have hbs := hb s (List.mem_of_getElem? hs)
  have h5 := hbs.five
  have hnl := hp.len
  unfold s_law_word a_law_word planD spD
  walk_at "go"
  refine g_izG ?_
  walk_at "go"
  refine g_ixT (d := stepD s) (atI_nat' (by rw [List.getElem?_map, hs]; rfl)) ?_
  unfold stepD
  walk_at "go"
  have e1 : (s.map partD).length = s.length := List.length_map ..
  have e2 : (natsD ns).length = ns.length := List.length_map ..
  refine g_kIZG (ds := s.map partD) (es := natsD ns) (fun _ => rfl) (fun _ => rfl) ?_
  refine g_kLc (fun i acc C' => acc = strsL ((pcs s ns).take i) ∧ C' = C) (by rw [zipD_len, e1, e2, hnl]; simp only [sizeLine]; omega) ⟨rfl, rfl⟩ (fun i y acc C' hi hw => ?_) (fun acc C' hw => ?_)
  · obtain ⟨rfl, rfl⟩ := hw
    have hil := (List.getElem?_eq_some_iff.mp hi).1
    rw [zipD_len, e1, e2, hnl, Nat.min_self] at hil
    have hsi := getD_some hil
    generalize s.getD i [] = ws at hsi
    have hni : ns[i]? = some (ns[i]'(by omega)) := List.getElem?_eq_getElem _
    generalize ns[i]'(by omega) = n at hni
    rw [zipD_get (x := partD ws) (y := .int (n : Nat)) (by rw [List.getElem?_map, hsi]; rfl) (by rw [List.getElem?_map, hni]; rfl)] at hi
    cases hi
    walk_at "go"
    unfold partD
    refine g_ixT (d := .str (ws.getD n "")) (atI_nat' (by unfold strsL; rw [List.getElem?_map, pth_at hp hsi hni]; rfl)) ?_
    refine ⟨?_, rfl⟩
    rw [List.take_add_one, pcs_at hsi hni]
    simp [strsL]
  · obtain ⟨rfl, rfl⟩ := hw
    rw [zipD_len, e1, e2, hnl, Nat.min_self, ← pcs_len hnl, List.take_length]
    walk_at "go"
    refine g_joinE ?_ ?_
    · rw [← join_len, pcs_join, ← wrd_pth hp]
      have := hbs.few.bound.2 w hp.mem
      omega
    · rw [pcs_join, ← wrd_pth hp]
      walk_at "go"
      exact k
theorem spot_ok {ps : List (List (List Str))} {w : Str} (hb : ∀ s ∈ ps, Bd s) (hv : ∀ s ∈ ps, Vs s) (h3 : ps.length ≤ 10) (hw : w.length ≤ 5000) (k1 : ∀ x C', SpotIs ps w x → AL.Keep C C' → P (spD x) C') (k2 : (∀ s ∈ ps, w ∉ cmb s) → ∀ C', AL.Keep C C' → P .non C') : s_law_spot [planD ps, .str w] C P := by
  unfold s_law_spot a_law_spot planD
  walk_at "go"
  refine g_ieG ?_
  walk_at "go"
  refine g_kIEG (ds := ps.map stepD) (fun _ => rfl) ?_
  refine g_kFor (fun i st C' => ∃ (x2 x3 x4 : Option D), (∀ s ∈ ps.take i, w ∉ cmb s) ∧ AL.Keep C C' ∧ st = [some (.tup (ps.map stepD)), some (.str w), x2, x3, x4]) ⟨none, none, none, by simp, AL.Keep.refl _, rfl⟩ (fun i y st C' hi hh => ?_) (fun st C' hh => ?_)
  · obtain ⟨x2, x3, x4, hno, hK, rfl⟩ := hh
    have hil := (List.getElem?_eq_some_iff.mp hi).1
    rw [enumD_len, List.length_map] at hil
    have hs := getD_some hil
    generalize hse : ps.getD i [] = s at hs
    rw [enumD_get (d := stepD s) (by rw [List.getElem?_map, hs]; rfl)] at hi
    cases hi
    have hsm := List.mem_of_getElem? hs
    walk_at "go"
    refine numbers_ok (hb s hsm) (hv s hsm) hw (fun ns C2 hn hK2 => ?_) (fun hn C2 hK2 => ?_)
    · walk_at "go"
      refine g_ifT (fun K hK => by walk_at "go"; exact hK) ?_
      walk_at "go"
      exact k1 (i, ns) _ ⟨hil, hno, by show Pth (ps.getD i []) ns w; rw [hse]; exact hn⟩ (hK.trans hK2)
    · walk_at "go"
      refine g_ifF (fun K hK => by walk_at "go"; exact hK) ?_
      walk_at "go"
      refine ⟨_, _, _, fun t ht => ?_, hK.trans hK2, rfl⟩
      rw [List.take_add_one, hs, Option.toList_some] at ht
      rcases List.mem_append.mp ht with h | h
      · exact hno t h
      · rw [List.mem_singleton.mp h]; exact hn
  · obtain ⟨x2, x3, x4, hno, hK, rfl⟩ := hh
    rw [enumD_len, List.length_map, List.take_length] at hno
    walk_at "go"
    exact k2 hno _ hK
end
end A_k47
namespace A_k47
open PySem L2 AL
def optD : Option (Nat × List Nat) → D
  | none => .non
  | some y => spD y
theorem suc_take : ∀ {s : List (List Str)} {ns : List Nat} {m : Nat} {t : List Nat}, m < s.length → ns.length = s.length → sucS (s.drop m) (ns.drop m) = some t → sucS s ns = some (ns.take m ++ t)
  | s, ns, 0, t, _, _, h => by simpa using h
  | [], _, m + 1, _, h, _, _ => by simp at h
  | _ :: _, [], m + 1, _, _, h, _ => by simp at h
  | ws :: r, n :: ns, m + 1, t, hm, hl, h => by
    have := suc_take (s := r) (ns := ns) (m := m) (t := t) (by simpa using hm) (by simpa using hl) (by simpa using h)
    show (match sucS r ns with | some ms' => some (n :: ms') | none => _) = _
    rw [this]
    rfl
theorem rep0 (n : Nat) : (List.replicate n [D.int 0]).flatten = natsD (List.replicate n 0) := by
  induction n with
  | zero => rfl
  | succ n ih =>
    rw [List.replicate_succ, List.flatten_cons, ih, List.replicate_succ]
    rfl
section
variable {C : AH} {P : D → AH → Prop}
theorem g_rep0 {n : Nat} (hn : n ≤ 1000) (h : P (.lst (natsD (List.replicate n 0))) C) : aRepL false (.lst [.int 0]) (.int (n : Nat)) C P := by
  refine ⟨[.int 0], rfl, by omega, by omega, by simp only [List.length_singleton, Int.toNat_natCast, sizeLine]; omega, ?_⟩
  rw [if_neg Bool.false_ne_true, Int.toNat_natCast, rep0]
  exact h
theorem behind_ok2 {ps : List (List (List Str))} {x : Nat × List Nat} {w : Str} (hb : ∀ s ∈ ps, Bd s) (h3 : ps.length ≤ 10) (hx : x.1 < ps.length) (hp : Pth (ps.getD x.1 []) x.2 w) (k : P (optD (nxt ps x)) C) : s_law_behind [planD ps, spD x] C P := by
  obtain ⟨j, ns⟩ := x
  have hs := getD_some hx
  have hx : j < ps.length := hx
  have hp : Pth (ps.getD j []) ns w := hp
  have hs : ps[j]? = some (ps.getD j []) := hs
  have hn : nxt ps (j, ns) = (match sucS (ps.getD j []) ns with | some ms => some (j, ms) | none => fstF (j + 1) (ps.drop (j + 1))) := rfl
  generalize ps.getD j [] = s at hp hs hn
  have hbs := hb s (List.mem_of_getElem? hs)
  have h5 := hbs.five
  have hnl := hp.len
  have e1 : (s.map partD).length = s.length := List.length_map ..
  have e2 : (natsD ns).length = ns.length := List.length_map ..
  unfold s_law_behind a_law_behind planD spD
  walk_at "go"
  refine g_ixT (d := stepD s) (atI_nat' (by rw [List.getElem?_map, hs]; rfl)) ?_
  unfold stepD
  walk_at "go"
  rw [e1, show (((s.length : Nat) : Int) - 1 - -1).toNat = s.length by omega]
  refine g_kForL (fun i st C' => ∃ (x5 : Option D), sucS (s.drop (s.length - i)) (ns.drop (s.length - i)) = none ∧ C' = C ∧ st = [some (.tup (ps.map stepD)), some (.tup [.int (j : Nat), .lst (natsD ns)]), some (.int (j : Nat)), some (.lst (natsD ns)), some (.tup (s.map partD)), x5, none, none]) ⟨none, by rw [Nat.sub_zero, List.drop_length]; rfl, rfl, rfl⟩ (fun i y st C' hi hh => ?_) (fun st C' hh => ?_)
  · obtain ⟨x5, hz, rfl, rfl⟩ := hh
    have hil := (List.getElem?_eq_some_iff.mp hi).1
    rw [downD_len] at hil
    rw [downD_get hil] at hi
    cases hi
    obtain ⟨m, hm⟩ : ∃ m, m + i + 1 = s.length := ⟨s.length - 1 - i, by omega⟩
    rw [show ((s.length : Nat) : Int) - 1 - (i : Int) = ((m : Nat) : Int) by omega]
    rw [show s.length - i = m + 1 by omega] at hz
    have hml : m < s.length := by omega
    have hsm := getD_some hml
    have hds := drop_getD hml
    generalize s.getD m [] = ws at hsm hds
    have hnm : ns[m]? = some (ns[m]'(by omega)) := List.getElem?_eq_getElem _
    have hdn : ns.drop m = ns[m]'(by omega) :: ns.drop (m + 1) := List.drop_eq_getElem_cons (by omega)
    generalize ns[m]'(by omega) = n at hnm hdn
    have hsuc : sucS (s.drop m) (ns.drop m) = if n + 1 < ws.length then some ((n + 1) :: List.replicate (s.drop (m + 1)).length 0) else none := by
      rw [hds, hdn]
      show (match sucS (s.drop (m + 1)) (ns.drop (m + 1)) with | some ms' => some (n :: ms') | none => _) = _
      rw [hz]
    walk_at "go"
    refine g_ifS ?_
    walk_at "go"
    refine g_ixL (d := .int (n : Nat)) (atI_nat' (by rw [List.getElem?_map, hnm]; rfl)) ?_
    walk_at "go"
    refine g_ixT (d := partD ws) (atI_nat' (by rw [List.getElem?_map, hsm]; rfl)) ?_
    walk_at "go"
    refine len_part ws ?_
    walk_at "go"
    by_cases hlt : n + 1 < ws.length
    · rw [decide_eq_true (show (n : Int) + 1 < ((ws.length : Nat) : Int) by omega)]
      rw [if_pos hlt] at hsuc
      have hfull := suc_take hml hnl hsuc
      walk_at "go"
      rw [e1, show ((s.length : Nat) : Int) - (m : Int) - 1 = ((i : Nat) : Int) by omega]
      refine g_rep0 (by omega) ?_
      walk_at "go"
      refine g_cutTake ?_
      walk_at "go"
      refine g_ixL (d := .int (n : Nat)) (atI_nat' (by rw [List.getElem?_map, hnm]; rfl)) ?_
      walk_at "go"
      refine g_addL (by rw [List.length_take, e2]; simp only [List.length_cons, List.length_nil, sizeLine]; omega) ?_
      walk_at "go"
      refine g_addL (by rw [List.length_append, List.length_take, e2, show (natsD (List.replicate i 0)).length = i by simp [natsD]]; simp only [List.length_cons, List.length_nil, sizeLine]; omega) ?_
      walk_at "go"
      rw [hfull] at hn
      rw [hn] at k
      have e : D.tup [.int (j : Nat), .lst ((natsD ns).take m ++ [D.int ((n : Int) + 1)] ++ natsD (List.replicate i 0))] = optD (some (j, ns.take m ++ ((n + 1) :: List.replicate (s.drop (m + 1)).length 0))) := by
        rw [List.length_drop, show s.length - (m + 1) = i by omega]
        simp [optD, spD, natsD, List.map_take]
      rw [e]
      exact k
    · rw [decide_eq_false (show ¬ (n : Int) + 1 < ((ws.length : Nat) : Int) by omega)]
      rw [if_neg hlt] at hsuc
      walk_at "go"
      exact ⟨_, by rw [show s.length - (i + 1) = m by omega]; exact hsuc, rfl, rfl⟩
  · obtain ⟨x5, hz, rfl, rfl⟩ := hh
    rw [downD_len, Nat.sub_self, List.drop_zero, List.drop_zero] at hz
    rw [hz] at hn
    have hn : nxt ps (j, ns) = fstF (j + 1) (ps.drop (j + 1)) := hn
    walk_at "go"
    rw [List.length_map]
    refine g_kIR2 (by omega) ?_
    rw [show (((ps.length : Nat) : Int) - ((j : Int) + 1)).toNat = ps.length - (j + 1) by omega]
    refine g_kForR (fun i st C2 => ∃ (x7 : Option D), fstF (j + 1) (ps.drop (j + 1)) = fstF (j + 1 + i) (ps.drop (j + 1 + i)) ∧ C2 = C' ∧ st = [some (.tup (ps.map stepD)), some (.tup [.int (j : Nat), .lst (natsD ns)]), some (.int (j : Nat)), some (.lst (natsD ns)), some (.tup (s.map partD)), x5, none, x7]) ⟨none, rfl, rfl, rfl⟩ (fun i st C2 hi hh => ?_) (fun st C2 hh => ?_)
    · obtain ⟨x7, hf, rfl, rfl⟩ := hh
      have hil : j + 1 + i < ps.length := by omega
      have hsi := getD_some hil
      have hdi := dropD hil
      generalize ps.getD (j + 1 + i) [] = t at hsi hdi
      have hbt := hb t (List.mem_of_getElem? hsi)
      rw [hdi] at hf
      have hf : fstF (j + 1) (ps.drop (j + 1)) = if 0 < pls t then some (j + 1 + i, List.replicate t.length 0) else fstF (j + 1 + i + 1) (ps.drop (j + 1 + i + 1)) := hf
      rw [show (j : Int) + 1 + (i : Int) = ((j + 1 + i : Nat) : Int) by omega]
      walk_at "go"
      refine g_ifS ?_
      walk_at "go"
      refine g_ixT (d := stepD t) (atI_nat' (by rw [List.getElem?_map, hsi]; rfl)) ?_
      walk_at "go"
      refine lsize_ok hbt.few ?_
      walk_at "go"
      by_cases hpl : 0 < pls t
      · rw [decide_eq_true (show ((pls t : Nat) : Int) > 0 by omega)]
        rw [if_pos hpl] at hf
        walk_at "go"
        refine g_ixT (d := stepD t) (atI_nat' (by rw [List.getElem?_map, hsi]; rfl)) ?_
        unfold stepD
        walk_at "go"
        rw [List.length_map]
        have := hbt.five
        refine g_rep0 (by omega) ?_
        walk_at "go"
        rw [hn, hf] at k
        exact k
      · rw [decide_eq_false (show ¬ ((pls t : Nat) : Int) > 0 by omega)]
        rw [if_neg hpl] at hf
        walk_at "go"
        exact ⟨_, hf, rfl, rfl⟩
    · obtain ⟨x7, hf, rfl, rfl⟩ := hh
      rw [show j + 1 + (ps.length - (j + 1)) = ps.length by omega, List.drop_length] at hf
      walk_at "go"
      rw [hn, hf] at k
      exact k
def pdP (x : Nat × List Nat) : PyData := .tuple [.int x.1, .list (x.2.map fun (n : Nat) => PyData.int n)]
theorem pdL_nats : ∀ xs : List Nat, pdL (natsD xs) = some (xs.map fun (n : Nat) => PyData.int n)
  | [] => rfl
  | x :: xs => by
    show (match D.pd (.int (x : Int)), pdL (natsD xs) with | some x, some xs => some (x :: xs) | _, _ => none) = _
    rw [pdL_nats xs]
    rfl
theorem pd_sp (x : Nat × List Nat) : (spD x).pd = some (pdP x) := by
  unfold spD pdP
  simp only [D.pd, pdL, pdL_nats, Option.map_some]
theorem eqv_nats : ∀ xs ys : List Nat, PyData.eqvAll (xs.map fun (n : Nat) => PyData.int n) (ys.map fun (n : Nat) => PyData.int n) = decide (xs = ys)
  | [], [] => by simp [PyData.eqvAll]
  | [], y :: ys => by simp [PyData.eqvAll]
  | x :: xs, [] => by simp [PyData.eqvAll]
  | x :: xs, y :: ys => by
    simp only [List.map_cons, PyData.eqvAll, PyData.eqv, eqv_nats xs ys]
    by_cases h : x = y
    · subst h; by_cases h2 : xs = ys <;> simp [h2]
    · have : ¬ (x : Int) = (y : Int) := by omega
      simp [h, this]
theorem ok_sp (x : Nat × List Nat) : okD (spD x) 2 = true := by
  have h : okD (.lst (natsD x.2)) 1 = true := okD_lst fun d hd => by obtain ⟨i, _, rfl⟩ := List.mem_map.mp hd; rfl
  unfold spD
  simp only [okD, okL, Bool.and_true, Bool.true_and]
  exact h
theorem shaped_sp (x : Nat × List Nat) : SeqAt.shaped (pdP x) = true := by
  obtain ⟨y, h1, h2, _⟩ := okD_shaped (ok_sp x) (by decide)
  rw [pd_sp] at h1
  cases h1
  exact h2
theorem eqv_sp (x y : Nat × List Nat) : PyData.eqv (pdP x) (pdP y) = decide (x = y) := by
  obtain ⟨a, b⟩ := x
  obtain ⟨c, d⟩ := y
  simp only [pdP, PyData.eqv, PyData.eqvAll, eqv_nats]
  by_cases h1 : a = c
  · subst h1; by_cases h2 : b = d <;> simp [h2]
  · have : ¬ (a : Int) = (c : Int) := by omega
    simp [h1, this]
theorem g_eqSp {x y : Nat × List Nat} (h : P (.bl (decide (x = y))) C) : aEq (spD x) (spD y) C P := by
  refine g_eqP rfl (by rw [pdC_ok' (ok_sp x), pd_sp]) (by rw [pdC_ok' (ok_sp y), pd_sp]) (shaped_sp x) (shaped_sp y) ?_
  rw [eqv_sp]
  exact h
theorem g_eqSp0 {x : Nat × List Nat} (h : P (.bl false) C) : aEq (spD x) (.int 0) C P := by
  refine g_eqP rfl (by rw [pdC_ok' (ok_sp x), pd_sp]) (v := .int 0) rfl (shaped_sp x) (by decide +kernel) ?_
  rw [show PyData.eqv (pdP x) (.int 0) = false from rfl]
  exact h
end
end A_k47
namespace A_k47
open PySem L2 AL
section
variable {C : AH} {P : D → AH → Prop} {PX : Str → AH → Prop} {ps : List (List (List Str))}
theorem g_eqN0 (h : P (.bl false) C) : aEq .non (.int 0) C P := h
theorem Nx.at {α : Type} {suc : α → Option α} {x : α} {B : List α} (h : Nx suc (x :: B) none) : suc x = B.head? := by
  rw [h.1, Option.or_none]
theorem sp_pth {x : Nat × List Nat} (hx : x ∈ spF 0 ps) : x.1 < ps.length ∧ Pth (ps.getD x.1 []) x.2 (wd ps x) := by
  obtain ⟨j, h1, h2, h3⟩ := mem_spF.mp hx
  rw [show j = x.1 by omega] at h1 h3
  exact ⟨h1, nums_pth h3⟩
theorem wd_len (hb : ∀ s ∈ ps, Bd s) {x : Nat × List Nat} (hx : x ∈ spF 0 ps) : (wd ps x).length ≤ 30 ∧ ∃ s ∈ ps, wd ps x ∈ cmb s := by
  obtain ⟨h1, h2⟩ := sp_pth hx
  have hs := getD_some h1
  have hm := List.mem_of_getElem? hs
  have := (hb _ hm).few.bound.2 _ h2.mem
  have h5 := (hb _ hm).five
  exact ⟨by omega, _, hm, h2.mem⟩
theorem fresh_ok {B : List (Nat × List Nat)} (hb : ∀ s ∈ ps, Bd s) (hv : ∀ s ∈ ps, Vs s) (h3 : ps.length ≤ 10) (hN : Nx (nxt ps) B none) (hm : ∀ z ∈ B, z ∈ spF 0 ps) (k1 : (∀ z ∈ B, fr ps z = false) → ∀ C', AL.Keep C C' → P .non C') (k2 : ∀ N y R, B = N ++ y :: R → (∀ z ∈ N, fr ps z = false) → fr ps y = true → ∀ C', AL.Keep C C' → P (spD y) C') (k3 : ∀ C', AL.Keep C C' → P (.int 0) C') : s_law_fresh [planD ps, optD B.head?, .int 200] C P := by
  unfold s_law_fresh a_law_fresh
  walk_at "go"
  refine g_kForR0 (fun i st C' => ∃ (N R : List (Nat × List Nat)) (x3 x4 : Option D), B = N ++ R ∧ (∀ z ∈ N, fr ps z = false) ∧ AL.Keep C C' ∧ st = [some (planD ps), some (optD R.head?), some (.int 200), x3, x4]) ⟨[], B, none, none, rfl, by simp, AL.Keep.refl _, rfl⟩ (fun i st C' hi hh => ?_) (fun st C' hh => ?_)
  · obtain ⟨N, R, x3, x4, hB, hNf, hK, rfl⟩ := hh
    cases R with
    | nil =>
      rw [List.append_nil] at hB
      show aSeq _ _ _ _ _
      rw [show optD (([] : List (Nat × List Nat)).head?) = .non from rfl]
      walk_at "go"
      refine g_ifT (fun K hK => by walk_at "go"; exact hK) ?_
      walk_at "go"
      exact k1 (by rw [hB]; exact hNf) _ hK
    | cons y R =>
      have hy : y ∈ spF 0 ps := hm y (by rw [hB]; simp)
      obtain ⟨hy1, hy2⟩ := sp_pth hy
      obtain ⟨hl, s, hs, hc⟩ := wd_len hb hy
      rw [hB] at hN
      have hnx := (Nx.drop hN).at
      rw [show optD ((y :: R).head?) = spD y from rfl]
      show aSeq _ _ _ _ _
      walk_at "go"
      refine g_ifF (fun K hK => by walk_at "go"; exact hK) ?_
      walk_at "go"
      refine word_ok hb hy1 hy2 ?_
      walk_at "go"
      refine g_ifS ?_
      walk_at "go"
      refine spot_ok hb hv h3 (by omega) (fun x C2 hx hK2 => ?_) (fun hno => absurd hc (hno s hs))
      walk_at "go"
      refine g_eqSp ?_
      walk_at "go"
      by_cases e : x = y
      · subst e
        rw [decide_eq_true rfl]
        walk_at "go"
        exact k2 N x R hB hNf (spot_sp hv hx).2.1 _ (hK.trans hK2)
      · rw [decide_eq_false e]
        have hf : fr ps y = false := by
          cases q : fr ps y with
          | false => rfl
          | true => exact absurd (SpotIs.uniq hv hx (sp_spot hv hy q)) e
        walk_at "go"
        refine behind_ok2 hb h3 hy1 hy2 ?_
        walk_at "go"
        rw [hnx]
        refine ⟨N ++ [y], R, _, _, by rw [hB]; simp, fun z hz => ?_, hK.trans hK2, rfl⟩
        rcases List.mem_append.mp hz with h | h
        · exact hNf z h
        · rw [List.mem_singleton.mp h]; exact hf
  · obtain ⟨N, R, x3, x4, hB, hNf, hK, rfl⟩ := hh
    walk_at "go"
    exact k3 _ hK
theorem next_right_ok {n : Nat} {T : Str} {x : Nat × List Nat} (hb : ∀ s ∈ ps, Bd s) (hv : ∀ s ∈ ps, Vs s) (h3 : ps.length ≤ 10) (hT : (dd (wrds ps))[n]? = some T) (hx : SpotIs ps T x) (k : ∀ C', AL.Keep C C' → P (.bl true) C') : s_law_next_right [planD ps, .int (n : Nat), .int ((dd (wrds ps)).length : Nat), spD x] C P PX := by
  obtain ⟨A, B, hAB, hA, hf⟩ := at_spot hv hT hx
  have hN := nx_sp ps ps 0 rfl
  rw [hAB] at hN
  have hN2 := Nx.drop hN
  have hnx := hN2.at
  have hm : ∀ z ∈ B, z ∈ spF 0 ps := fun z hz => by rw [hAB]; simp [hz]
  unfold s_law_next_right a_law_next_right
  walk_at "go"
  refine behind_ok2 hb h3 hx.lt hx.pt ?_
  rw [hnx]
  walk_at "go"
  refine fresh_ok hb hv h3 hN2.2 hm (fun hB C2 hK => ?_) (fun N y R hB hNf hy C2 hK => ?_) (fun C2 hK => ?_)
  · walk_at "go"
    refine g_ifF (fun K hK => ?_) ?_
    · walk_at "go"
      refine g_eqN0 ?_
      walk_at "go"
      exact hK
    walk_at "go"
    refine g_ifT (fun K hK => by walk_at "go"; exact hK) ?_
    walk_at "go"
    rw [last_word hv hAB hA hf hB, decide_eq_true (show (n : Int) = ((n + 1 : Nat) : Int) - 1 by omega)]
    exact k _ hK
  · walk_at "go"
    refine g_ifF (fun K hK => ?_) ?_
    · walk_at "go"
      refine g_eqSp0 ?_
      walk_at "go"
      exact hK
    unfold spD
    walk_at "go"
    refine g_ifF (fun K hK => by walk_at "go"; exact hK) ?_
    have hnw := next_word hv (by rw [hAB, hB]) hA hf hNf hy
    have hlt := (List.getElem?_eq_some_iff.mp hnw).1
    have hym : y ∈ spF 0 ps := hm y (by rw [hB]; simp)
    obtain ⟨hy1, hy2⟩ := sp_pth hym
    walk_at "go"
    rw [decide_eq_true (show (n : Int) < (((dd (wrds ps)).length : Nat) : Int) - 1 by omega)]
    refine g_kAnd (fun _ => ?_) (fun h => by cases h)
    walk_at "go"
    rw [show (n : Int) + 1 = ((n + 1 : Nat) : Int) by omega]
    refine try_ok hb hv h3 (fun T2 C3 hT2 hK3 => ?_) (fun h => absurd hlt (by omega))
    rw [hnw] at hT2
    have e := Option.some.inj hT2
    walk_at "go"
    refine word_ok (x := y) hb hy1 hy2 ?_
    walk_at "go"
    rw [decide_eq_true e.symm]
    exact k _ (hK.trans hK3)
  · walk_at "go"
    refine g_ifT (fun K hK => by walk_at "go"; exact hK) ?_
    walk_at "go"
    exact k _ hK
theorem beyond_ok (hb : ∀ s ∈ ps, Bd s) (hv : ∀ s ∈ ps, Vs s) (h3 : ps.length ≤ 10) (k : ∀ C', AL.Keep C C' → P (.bl true) C') : s_law_beyond [planD ps, .int ((dd (wrds ps)).length : Nat)] C P := by
  unfold s_law_beyond a_law_beyond
  walk_at "go"
  refine try_ok hb hv h3 (fun T2 C3 hT2 hK3 => by rw [List.getElem?_eq_none (Nat.le_refl _)] at hT2; cases hT2) (fun _ C1 hK1 => ?_)
  refine g_handA (by decide +kernel) fun a ha => ?_
  have ha0 := hK1.none ha
  have hK := hK1.put (c := .exc "NoNumber") ha0
  have hCa : put C1 a (.exc "NoNumber") a = some (.exc "NoNumber") := put_same
  generalize put C1 a (.exc "NoNumber") = C2 at hK hCa ⊢
  walk_at "go"
  refine g_kIsX (b := true) hCa (by decide +kernel) ?_
  exact k _ hK
end
end A_k47
namespace A_k47
open PySem L2 AL
def pos (ps : List (List (List Str))) (i : Nat) : List Nat := (List.range i).filter fun j => decide (0 < pls (ps.getD j []))
theorem fst_upto {ps : List (List (List Str))} : ∀ (d k : Nat), k + d ≤ ps.length → (∀ j, k ≤ j → j < k + d → pls (ps.getD j []) = 0) → fstF k (ps.drop k) = fstF (k + d) (ps.drop (k + d))
  | 0, _, _, _ => rfl
  | d + 1, k, h, hz => by
    have hk : k < ps.length := by omega
    have e : fstF k (ps.drop k) = fstF (k + 1) (ps.drop (k + 1)) := by
      rw [dropD hk]
      show (if 0 < pls (ps.getD k []) then _ else fstF (k + 1) (ps.drop (k + 1))) = _
      rw [if_neg (by rw [hz k (Nat.le_refl _) (by omega)]; omega)]
    rw [e, fst_upto d (k + 1) (by omega) (fun j h1 h2 => hz j (by omega) (by omega)), show k + 1 + d = k + (d + 1) by omega]
theorem pos_head {ps : List (List (List Str))} {n k : Nat} {t : List Nat} (h : pos ps n = k :: t) : k < n ∧ 0 < pls (ps.getD k []) ∧ ∀ j, j < k → pls (ps.getD j []) = 0 := by
  have h1 : (pos ps n).head? = some k := by rw [h]; rfl
  unfold pos at h1
  rw [List.head?_filter, List.find?_range_eq_some] at h1
  obtain ⟨h1, h2, h3⟩ := h1
  refine ⟨List.mem_range.mp h2, of_decide_eq_true h1, fun j hj => ?_⟩
  have := h3 j hj
  simp only [Bool.not_eq_true', decide_eq_false_iff_not] at this
  omega
theorem pos_nil {ps : List (List (List Str))} (h : pos ps ps.length = []) : (dd (wrds ps)).length = 0 := by
  have h0 : ∀ s ∈ ps, pls s = 0 := fun s hs => by
    obtain ⟨j, hj⟩ := List.getElem?_of_mem hs
    have hl := (List.getElem?_eq_some_iff.mp hj).1
    have := List.filter_eq_nil_iff.mp h j (List.mem_range.mpr hl)
    rw [show ps.getD j [] = s by simp [List.getD, hj]] at this
    simp only [decide_eq_true_eq] at this
    omega
  have : wrds ps = [] := by
    refine List.eq_nil_iff_forall_not_mem.mpr fun w hw => ?_
    obtain ⟨s, hs, hc⟩ := mem_wrds.mp hw
    have := List.length_pos_of_mem hc
    rw [cmb_len, h0 s hs] at this
    omega
  rw [this]
  rfl
/-- the first word -/
theorem first_word {ps : List (List (List Str))} (hv : ∀ s ∈ ps, Vs s) {k : Nat} {t : List Nat} (h : pos ps ps.length = k :: t) : k < ps.length ∧ Pth (ps.getD k []) (List.replicate (ps.getD k []).length 0) (wd ps (k, List.replicate (ps.getD k []).length 0)) ∧ (dd (wrds ps))[0]? = some (wd ps (k, List.replicate (ps.getD k []).length 0)) := by
  obtain ⟨h1, h2, h3⟩ := pos_head h
  have e : (spF 0 ps).head? = some (k, List.replicate (ps.getD k []).length 0) := by
    have e1 := fst_upto (ps := ps) k 0 (by omega) (fun j _ hj => h3 j (by omega))
    rw [Nat.zero_add, List.drop_zero] at e1
    rw [fst_ok, e1, dropD h1]
    show (if 0 < pls (ps.getD k []) then _ else _) = _
    rw [if_pos h2]
  obtain ⟨R, hR⟩ : ∃ R, spF 0 ps = (k, List.replicate (ps.getD k []).length 0) :: R := by
    cases q : spF 0 ps with
    | nil => rw [q] at e; cases e
    | cons y R => rw [q] at e; cases e; exact ⟨R, rfl⟩
  obtain ⟨g1, g2⟩ := sp_pth (ps := ps) (x := (k, List.replicate (ps.getD k []).length 0)) (by rw [hR]; simp)
  refine ⟨h1, g2, ?_⟩
  have hf : fr ps (k, List.replicate (ps.getD k []).length 0) = true := by
    unfold fr
    rw [okw_beg (fun e he => hv e (List.mem_of_mem_take he))]
    refine decide_eq_true fun e he hw => ?_
    obtain ⟨j, hj⟩ := List.getElem?_of_mem he
    have hjl := (List.getElem?_eq_some_iff.mp hj).1
    rw [List.length_take] at hjl
    have hjk : j < k := by
      have : j < min k ps.length := hjl
      omega
    have hj : (ps.take k)[j]? = some e := hj
    rw [List.getElem?_take_of_lt hjk] at hj
    have := h3 j hjk
    rw [show ps.getD j [] = e by simp [List.getD, hj]] at this
    have h4 := List.length_pos_of_mem hw
    rw [cmb_len] at h4
    omega
  rw [row_fr hv, hR, List.filter_cons, if_pos hf]
  rfl
section
variable {C : AH} {P : D → AH → Prop} {PX : Str → AH → Prop} {ps : List (List (List Str))}
theorem size_le (hv : ∀ s ∈ ps, Vs s) {s : List (List Str)} (hs : s ∈ ps) : pls s ≤ (dd (wrds ps)).length := by
  rw [← cmb_len]
  exact sub_len (cmb_nd (hv s hs).pf (hv s hs).nd) fun x hx => mem_dd.mpr (mem_wrds.mpr ⟨s, hs, hx⟩)
theorem le_sum : (dd (wrds ps)).length ≤ (ps.map pls).sum := by
  have f2 := fold_len (wrds ps) []
  have f4 : (dd (wrds ps)).length ≤ (wrds ps).length := by simpa [dd] using f2
  rw [wrds_len] at f4
  exact f4
theorem first_right_ok (hb : ∀ s ∈ ps, Bd s) (hv : ∀ s ∈ ps, Vs s) (h3 : ps.length ≤ 10) (k : ∀ C', AL.Keep C C' → P (.bl true) C') : s_law_first_right [planD ps, .int ((dd (wrds ps)).length : Nat)] C P PX := by
  unfold s_law_first_right a_law_first_right planD
  walk_at "go"
  have e1 : (ps.map stepD).length = ps.length := List.length_map ..
  have e2 : (natsD (ps.map pls)).length = ps.length := by simp [natsD]
  refine g_kLc (fun i acc C' => acc = natsD ((ps.map pls).take i) ∧ C' = C) (by rw [e1]; simp only [sizeLine]; omega) ⟨rfl, rfl⟩ (fun i y acc C' hi hw => ?_) (fun acc C' hw => ?_)
  · obtain ⟨rfl, rfl⟩ := hw
    rw [List.getElem?_map] at hi
    cases e : ps[i]? with
    | none => rw [e] at hi; cases hi
    | some s =>
      rw [e] at hi
      cases hi
      walk_at "go"
      refine lsize_ok (hb s (List.mem_of_getElem? e)).few ?_
      refine ⟨?_, rfl⟩
      rw [List.take_add_one, List.getElem?_map, e]
      simp [natsD]
  · obtain ⟨rfl, rfl⟩ := hw
    rw [e1, show (ps.map pls).take ps.length = ps.map pls by rw [List.take_of_length_le (by rw [List.length_map]; omega)]]
    walk_at "go"
    refine g_kLc (fun i acc C2 => acc = natsD (pos ps i) ∧ C2 = C') (by rw [enumD_len, e2]; simp only [sizeLine]; omega) ⟨rfl, rfl⟩ (fun i y acc C2 hi hw => ?_) (fun acc C2 hw => ?_)
    · obtain ⟨rfl, rfl⟩ := hw
      have hil := (List.getElem?_eq_some_iff.mp hi).1
      rw [enumD_len, e2] at hil
      have hs := getD_some hil
      have hpe : pos ps (i + 1) = pos ps i ++ (if decide (0 < pls (ps.getD i [])) = true then [i] else []) := by
        unfold pos
        rw [List.range_succ, List.filter_append, List.filter_cons, List.filter_nil]
      generalize ps.getD i [] = s at hs hpe
      rw [enumD_get (d := .int (pls s : Nat)) (by simp [natsD, hs])] at hi
      cases hi
      walk_at "go"
      by_cases hp : 0 < pls s
      · rw [decide_eq_true (show ((pls s : Nat) : Int) > 0 by omega)]
        walk_at "go"
        rw [hpe, decide_eq_true hp]
        exact ⟨by simp [natsD], rfl⟩
      · rw [decide_eq_false (show ¬ ((pls s : Nat) : Int) > 0 by omega)]
        walk_at "go"
        rw [hpe, decide_eq_false hp]
        exact ⟨by simp [natsD], rfl⟩
    · obtain ⟨rfl, rfl⟩ := hw
      rw [enumD_len, e2]
      walk_at "go"
      refine g_ifS ?_
      walk_at "go"
      cases hpos : pos ps ps.length with
      | nil =>
        rw [show (natsD []).isEmpty = true from rfl]
        walk_at "go"
        rw [pos_nil hpos]
        exact k _ (AL.Keep.refl _)
      | cons j t =>
        rw [show (natsD (j :: t)).isEmpty = false from rfl]
        obtain ⟨hj, hpt, hrow⟩ := first_word hv hpos
        have hsj := getD_some hj
        have hpl : 0 < (ps.map pls).length := by rw [List.length_map]; omega
        walk_at "go"
        refine g_ifF (fun K hK => ?_) ?_
        · walk_at "go"
          refine g_maxX (L := ps.map pls) rfl hpl fun m hm hmax => ?_
          have hm2 : m ≤ (dd (wrds ps)).length := by
            obtain ⟨s, hs, rfl⟩ := List.mem_map.mp hm
            exact size_le hv hs
          walk_at "go"
          rw [decide_eq_true (show (m : Int) ≤ (((dd (wrds ps)).length : Nat) : Int) by omega)]
          refine g_kChain (fun _ => ?_) (fun h => by cases h)
          walk_at "go"
          refine g_sumX (L := ps.map pls) rfl ?_
          have := le_sum (ps := ps)
          walk_at "go"
          rw [decide_eq_true (show (((dd (wrds ps)).length : Nat) : Int) ≤ (((ps.map pls).sum : Nat) : Int) by omega)]
          walk_at "go"
          exact hK
        walk_at "go"
        have htry : ∀ (P : D → AH → Prop), (∀ C3, AL.Keep C2 C3 → P (.str (wd ps (j, List.replicate (ps.getD j []).length 0))) C3) → s_try_at [planD ps, .int ((0 : Nat) : Int)] C2 P PX := fun P kk => try_ok hb hv h3 (fun T2 C3 hT2 hK3 => by rw [hrow] at hT2; cases hT2; exact kk C3 hK3) (fun h => absurd (List.getElem?_eq_some_iff.mp hrow).1 (by omega))
        refine htry _ fun C3 hK3 => ?_
        walk_at "go"
        refine g_ixL (d := .int (j : Nat)) (atI_nat' (i := 0) rfl) ?_
        walk_at "go"
        refine g_ixL (d := .int (j : Nat)) (atI_nat' (i := 0) rfl) ?_
        walk_at "go"
        refine g_ixT (d := stepD (ps.getD j [])) (atI_nat' (by rw [List.getElem?_map, hsj]; rfl)) ?_
        unfold stepD
        walk_at "go"
        rw [List.length_map]
        have h5 := (hb _ (List.mem_of_getElem? hsj)).five
        refine g_rep0 (by omega) ?_
        walk_at "go"
        refine word_ok (x := (j, List.replicate (ps.getD j []).length 0)) hb hj hpt ?_
        walk_at "go"
        rw [decide_eq_true rfl]
        exact k _ hK3
end
end A_k47
namespace A_k47
open PySem L2 AL
theorem fold_nd : ∀ (l acc : List Str), acc.Nodup → (l.foldl addW acc).Nodup
  | [], _, h => h
  | a :: l, _, h => fold_nd l _ (addW_nd h)
theorem dd_un (l : List Str) : (dd l).Nodup := fold_nd l [] (by simp)
/-- the steps of a drawn plan -/
theorem Sok.vs {zs : List Nat} {pt most : Nat} {s : List (List Str)} (h : Sok zs pt most s) : Vs s := h.stp.vs
theorem Stp.fews {zs : List Nat} {s : List (List Str)} (h : Stp zs s) : Few s := fun ws hw => by
  obtain ⟨i, hi, e⟩ := List.getElem_of_mem hw
  have := h.ok i ws (by rw [List.getElem?_eq_getElem hi, e])
  exact ⟨this.few, fun w hw => (this.ok w hw).six⟩
theorem Stp.bd {zs : List Nat} {s : List (List Str)} (h : Stp zs s) : Bd s := ⟨h.one, h.few, h.fews⟩
theorem g_ixM {C : AH} {P : D → AH → Prop} {v : Int} (e : Nat) (he : e < 4) (hv : v = e) (h : ∀ m : Nat, m ≤ 12 → P (.int m) C) : aIx (.lst [.int 5, .int 5, .int 5, .int 12]) (.int v) C P := by
  subst hv
  match e, he with
  | 0, _ => exact g_ixL (d := .int 5) rfl (h 5 (by decide))
  | 1, _ => exact g_ixL (d := .int 5) rfl (h 5 (by decide))
  | 2, _ => exact g_ixL (d := .int 5) rfl (h 5 (by decide))
  | 3, _ => exact g_ixL (d := .int 12) rfl (h 12 (by decide))
theorem law_true : ∀ ns : List Int, ns.length ≤ 63 → s_law [.scr ns] (fun _ => none) (fun d _ => d = .bl true) := by
  intro ns hns
  unfold s_law a_law a_lawW
  walk_at "go"
  refine g_kForR0 (fun _ st C' => ∃ x1 x2 x3 x4 x5 x6 x7 x8 x9, st = [some (.scr ns), x1, x2, x3, x4, x5, x6, x7, x8, x9]) ⟨none, none, none, none, none, none, none, none, none, rfl⟩ (fun i st C' hi hw => ?_) (fun st C' hw => ?_)
  rotate_left
  · obtain ⟨x1, x2, x3, x4, x5, x6, x7, x8, x9, rfl⟩ := hw
    walk_at "go"
    rfl
  obtain ⟨x1, x2, x3, x4, x5, x6, x7, x8, x9, rfl⟩ := hw
  walk_at "go"
  refine pen_ok (show i < 1000 from Nat.lt_of_lt_of_le hi (by decide)) fun p c hp hc => ?_
  have hP : Pen 1000000 (put C' p c) p := pen_put hc
  generalize put C' p c = C1 at hP ⊢
  walk_at "go"
  refine sized_ok (n := 999000) (m := 4) hP.less (by decide) (by decide) fun tg C2 ht hP2 hO2 => ?_
  walk_at "go"
  refine draw_ok (n := 998999) (m := 4) hP2 (by decide) (by decide) fun c d hc hd => ?_
  have hP3 := pen_put (C := C2) (p := p) hc
  generalize put C2 p c = C3 at hP3 ⊢
  walk_at "go"
  refine joinT_ok ht ?_
  walk_at "go"
  refine g_lenS (by have := ht.size; simp only [sizeLine]; omega) ?_
  walk_at "go"
  generalize decide ((((Txt.join "" tg).length : Nat) : Int) > 5) = long
  obtain ⟨e, he, hv⟩ : ∃ e : Nat, e < 4 ∧ (d : Int) * (if long = true then (1 : Int) else 0) = (e : Int) := by
    cases long with
    | true => exact ⟨d, hd, by simp⟩
    | false => exact ⟨0, by decide, by simp⟩
  refine g_ixM e he hv fun most hmost => ?_
  walk_at "go"
  refine plan_ok (n := 900000) (pt := 5) (most := most) (size := 3) (by decide) (by decide) hmost (by decide) (by decide) ht hP3.less fun ps C4 hl3 hps hP hO3 => ?_
  clear hP2 hO2 hO3 hP3
  have hb : ∀ s ∈ ps, Bd s := fun s hs => (hps s hs).stp.bd
  have hv : ∀ s ∈ ps, Vs s := fun s hs => (hps s hs).vs
  have h10 : ps.length ≤ 10 := by omega
  walk_at "go"
  refine how_ok hb hv h10 fun C5 hK => ?_
  have hP := hP.keep hK
  clear hK
  have hFi := fun (C : AH) (P : D → AH → Prop) (PX : Str → AH → Prop) (k : ∀ C', AL.Keep C C' → P (.bl true) C') => first_right_ok (PX := PX) hb hv h10 k
  have hBe := fun (C : AH) (P : D → AH → Prop) (k : ∀ C', AL.Keep C C' → P (.bl true) C') => beyond_ok hb hv h10 k
  have hNe := fun (n : Nat) (T : Str) (x : Nat × List Nat) (hT : (dd (wrds ps))[n]? = some T) (hx : SpotIs ps T x) (C : AH) (P : D → AH → Prop) (PX : Str → AH → Prop) (k : ∀ C', AL.Keep C C' → P (.bl true) C') => next_right_ok (PX := PX) hb hv h10 hT hx k
  have hT : ∀ (n : Nat) (T : Str), (dd (wrds ps))[n]? = some T → ∀ (C : AH) (P : D → AH → Prop) (PX : Str → AH → Prop), (∀ C', AL.Keep C C' → P (.str T) C') → s_try_at [planD ps, .int (n : Nat)] C P PX := fun n T hT C P PX k =>
    try_ok hb hv h10 (fun T2 C3 hT2 hK3 => by rw [hT] at hT2; cases hT2; exact k C3 hK3) (fun h => by rw [List.getElem?_eq_none h] at hT; cases hT)
  have hbig : (dd (wrds ps)).length ≤ 248832 * 10 := by
    have f2 := fold_len (wrds ps) []
    have f3 : (wrds ps).length ≤ 248832 * ps.length := wrds_few fun t ht => ⟨(hb t ht).few, (hb t ht).five⟩
    have f4 : (dd (wrds ps)).length ≤ (wrds ps).length := by simpa [dd] using f2
    have : 248832 * ps.length ≤ 248832 * 10 := Nat.mul_le_mul_left _ h10
    omega
  have hnd := dd_un (wrds ps)
  have h30 : ∀ w ∈ dd (wrds ps), w.length ≤ 30 := fun w hw => by
    obtain ⟨s, hs, hc⟩ := mem_wrds.mp (mem_dd.mp hw)
    have h1 := (hb s hs).few.bound.2 w hc
    have h2 := (hb s hs).five
    omega
  have hPl : ∀ (w : Str), w.length ≤ 5000 → ∀ (C : AH) (P : D → AH → Prop), (∀ n C', (dd (wrds ps))[n]? = some w → AL.Keep C C' → P (.int (n : Nat)) C') → (w ∉ dd (wrds ps) → ∀ C', AL.Keep C C' → P .non C') → s_place [planD ps, .str w] C P := fun w hw C P k1 k2 => place_ok hb hv h10 hw k1 k2
  have hSp : ∀ (w : Str), w ∈ dd (wrds ps) → ∀ (C : AH) (P : D → AH → Prop), (∀ x C', SpotIs ps w x → AL.Keep C C' → P (spD x) C') → s_law_spot [planD ps, .str w] C P := fun w hw C P k1 => spot_ok hb hv h10 (by have := h30 w hw; omega) k1 (fun hno => by
    obtain ⟨s, hs, hc⟩ := mem_wrds.mp (mem_dd.mp hw)
    exact absurd hc (hno s hs))
  generalize dd (wrds ps) = row at hT hPl hFi hBe hNe hbig hnd h30 hSp ⊢
  walk_at "go"
  refine g_ifFC (Z := fun X => AL.Keep C5 X) (fun K hKK => ?_) (fun C6 hK6 => ?_)
  · walk_at "go"
    rw [show (!AL.isT "int" "int") = false from rfl, if_neg Bool.false_ne_true]
    walk_at "go"
    rw [show AL.isT "bool" "int" = false from rfl, if_neg Bool.false_ne_true]
    walk_at "go"
    refine hFi _ _ _ fun C6 hK6 => ?_
    walk_at "go"
    exact hKK _ hK6
  have hP := hP.keep hK6
  clear hK6
  walk_at "go"
  refine g_ifFC (Z := fun X => AL.Keep C6 X) (fun K hKK => ?_) (fun C7 hK7 => ?_)
  · walk_at "go"
    refine hBe _ _ fun C7 hK7 => ?_
    walk_at "go"
    exact hKK _ hK7
  have hP := hP.keep hK7
  clear hK7
  walk_at "go"
  have hmax : ∀ P : D → AH → Prop, ∀ C : AH, P (.int ((max 1 row.length : Nat) : Int)) C → P (.int (if ((row.length : Nat) : Int) > 1 then ((row.length : Nat) : Int) else 1)) C := fun P C h => by
    rw [show (if ((row.length : Nat) : Int) > 1 then ((row.length : Nat) : Int) else 1) = ((max 1 row.length : Nat) : Int) by split <;> omega]
    exact h
  rw [show (if ((row.length : Nat) : Int) > 1 then ((row.length : Nat) : Int) else 1) = ((max 1 row.length : Nat) : Int) by split <;> omega]
  refine draw_ok (n := 899998) (m := max 1 row.length) hP.less (by omega) (Nat.lt_of_le_of_lt (m := 248832 * 10) (by omega) (by decide +kernel)) fun c u hc hu => ?_
  have hP := pen_put (C := C7) (p := p) hc
  generalize put C7 p c = C8 at hP ⊢
  walk_at "go"
  rw [show (if ((row.length : Nat) : Int) > 1 then ((row.length : Nat) : Int) else 1) = ((max 1 row.length : Nat) : Int) by split <;> omega]
  refine draw_ok (n := 899997) (m := max 1 row.length) hP.less (by omega) (Nat.lt_of_le_of_lt (m := 248832 * 10) (by omega) (by decide +kernel)) fun c v hc hv2 => ?_
  generalize put C8 p c = C9
  clear hP hmax
  walk_at "go"
  refine g_kForL (fun j st C2 => ∃ (x7 x8 x9 : Option D), st = [some (.scr ns), some (.int (i : Nat)), some (.ce p), some (.tup (strsL tg)), some (.int (most : Nat)), some (planD ps), some (.int ((row.length : Nat) : Int)), x7, x8, x9]) ⟨_, _, _, rfl⟩ (fun j y st C2 hj hh => ?_) (fun st C2 hh => ?_)
  · obtain ⟨x7, x8, x9, rfl⟩ := hh
    by_cases hpos : 0 < row.length
    · have hy : ∃ u : Nat, y = .int (u : Nat) ∧ u < row.length := by
        have hm := List.mem_of_getElem? hj
        simp only [List.mem_cons, List.not_mem_nil, or_false] at hm
        rcases hm with rfl | rfl | rfl
        · exact ⟨u, rfl, by omega⟩
        · exact ⟨v, rfl, by omega⟩
        · exact ⟨row.length - 1, by rw [show ((row.length : Nat) : Int) - 1 = ((row.length - 1 : Nat) : Int) by omega], by omega⟩
      obtain ⟨u, rfl, hu⟩ := hy
      have hTu : row[u]? = some row[u] := List.getElem?_eq_getElem hu
      have hTm : row[u] ∈ row := List.getElem_mem hu
      generalize row[u] = T at hTu hTm
      have hT30 := h30 T hTm
      walk_at "go"
      refine g_ifT (fun K hK => ?_) ?_
      · walk_at "go"
        rw [decide_eq_true (show ((row.length : Nat) : Int) > 0 by omega)]
        exact hK
      walk_at "go"
      refine hT u T hTu _ _ _ fun C3 hK3 => ?_
      walk_at "go"
      refine hSp T hTm _ _ fun x C4 hx hK4 => ?_
      walk_at "go"
      refine g_ifFC (Z := fun _ => True) (fun K hKK => ?_) (fun C5 _ => ?_)
      · unfold spD
        walk_at "go"
        rw [show AL.isNon (.tup [.int (x.1 : Nat), .lst (natsD x.2)]) = false from rfl]
        walk_at "go"
        refine word_ok (x := x) hb hx.lt hx.pt ?_
        walk_at "go"
        rw [show (!decide (T = T)) = false by simp]
        walk_at "go"
        refine hPl T (by omega) _ _ (fun n C6 hn hK6 => ?_) (fun hn => absurd hTm hn)
        rw [nd_at hnd hn hTu]
        walk_at "go"
        rw [show (!decide (((u : Nat) : Int) = ((u : Nat) : Int))) = false by simp]
        exact hKK _ trivial
      walk_at "go"
      refine g_ifFC (Z := fun _ => True) (fun K hKK => ?_) (fun C6 _ => ?_)
      · walk_at "go"
        refine hNe u T x hTu hx _ _ _ fun C6 hK6 => ?_
        walk_at "go"
        exact hKK _ trivial
      walk_at "go"
      exact ⟨_, _, _, rfl⟩
    · walk_at "go"
      refine g_ifF (fun K hK => ?_) ?_
      · walk_at "go"
        rw [decide_eq_false (show ¬ ((row.length : Nat) : Int) > 0 by omega)]
        exact hK
      walk_at "go"
      exact ⟨_, _, _, rfl⟩
  · obtain ⟨x7, x8, x9, rfl⟩ := hh
    exact ⟨_, _, _, _, _, _, _, _, _, rfl⟩
end A_k47
namespace A_k47
open PySem PySem.Spec L2 AL
open PyProof.Rows (envOfC)
def topS (i : Nat) : Stmt := PySem.Challenge.pw_wordrules_k47_whole_places_without_the_r.main.body.getD i (.Pass ⟨0, 0, 0, 0⟩)
abbrev st_is_whole : Stmt := topS 4
theorem sc_is_whole : FnScope ["thing"] ["thing"] (defScope st_is_whole) := ⟨rfl, rfl, rfl, by decide +kernel, rfl, by decide +kernel, by decide +kernel⟩
theorem ok_is_whole {P : Program} {w : World} {K : PySem.W.Frag} {mg : Str → Option Value} {base : Heap} {f : Addr} {fd : FuncData} (F : L2.Fun K "is_whole" "is_whole" st_is_whole f fd) (hm : mg "is_whole" = some (.ref f)) (hb : Binds K fd ["thing"] []) (m_bool : mg "bool" = none) (m_int : mg "int" = none) (m_isinstance : mg "isinstance" = none) : Cal P w K mg base 1 "is_whole" 1 s_is_whole := by
  refine calA (b := a_is_whole) F sc_is_whole rfl hm hb ?_ (fun _ _ _ _ h => h)
  intro cdv A outer s H E hr hgd
  have hw : (Bs.nil ⟨w, mg⟩).g = ⟨w, mg⟩ := rfl
  exact ⟨_, ass_one (as_ret (ae_and (K := K) (ae_isi (K := K) (ae_v 0) m_isinstance m_int (by decide +kernel)) (ae_one (ae_not (K := K) (ae_isi (K := K) (ae_v 0) m_isinstance m_bool (by decide +kernel))))))⟩
abbrev st_size_of : Stmt := topS 6
theorem sc_size_of : FnScope ["parts", "size", "part"] ["parts"] (defScope st_size_of) := ⟨rfl, rfl, rfl, by decide +kernel, rfl, by decide +kernel, by decide +kernel⟩
theorem ok_size_of {P : Program} {w : World} {K : PySem.W.Frag} {mg : Str → Option Value} {base : Heap} {f : Addr} {fd : FuncData} (F : L2.Fun K "size_of" "size_of" st_size_of f fd) (hm : mg "size_of" = some (.ref f)) (hb : Binds K fd ["parts"] []) (m_len : mg "len" = none) : Cal P w K mg base 1 "size_of" 1 s_size_of := by
  refine calA (b := a_size_of) F sc_size_of rfl hm hb ?_ (fun _ _ _ _ h => h)
  intro cdv A outer s H E hr hgd
  have hw : (Bs.nil ⟨w, mg⟩).g = ⟨w, mg⟩ := rfl
  exact ⟨_, ass_cons (as_set 1 sc_size_of.nd (ae_int) rfl (.inl rfl))
      (ass_cons (as_for (ai_tup (K := K) (ae_v 0)) (ag_name 2 (vs := [2]) sc_size_of.nd rfl (.inl rfl))
      (ass_one (as_set 1 sc_size_of.nd (ae_op ao_mul (ae_v 1) (ae_callB (ac_len (K := K)) m_len (by decide +kernel) (aa_cons (ae_v 2) (aa_nil)))) rfl (.inl rfl))))
      (ass_one (as_ret (ae_v 1))))⟩
abbrev st_marks_of : Stmt := topS 8
theorem sc_marks_of : FnScope ["step", "marks", "part", "some", "word", "size"] ["step"] (defScope st_marks_of) := ⟨rfl, rfl, rfl, by decide +kernel, rfl, by decide +kernel, by decide +kernel⟩
theorem ok_marks_of {P : Program} {w : World} {K : PySem.W.Frag} {mg : Str → Option Value} {base : Heap} {f : Addr} {fd : FuncData} (F : L2.Fun K "marks_of" "marks_of" st_marks_of f fd) (hm : mg "marks_of" = some (.ref f)) (hb : Binds K fd ["step"] []) (m_len : mg "len" = none) (m_range : mg "range" = none) : Cal P w K mg base 1 "marks_of" 1 s_marks_of := by
  refine calA (b := a_marks_of) F sc_marks_of rfl hm hb ?_ (fun _ _ _ _ h => h)
  intro cdv A outer s H E hr hgd
  have hw : (Bs.nil ⟨w, mg⟩).g = ⟨w, mg⟩ := rfl
  exact ⟨_, ass_cons (as_set 1 sc_marks_of.nd (ae_lstM (aa_nil)) rfl (.inl rfl))
      (ass_cons (as_for (ai_tup (K := K) (ae_v 0)) (ag_name 2 (vs := [2]) sc_marks_of.nd rfl (.inl rfl))
      (ass_cons (as_set 3 sc_marks_of.nd (ae_dict0) rfl (.inl rfl))
      (ass_cons (as_for (ai_tup (K := K) (ae_v 2)) (ag_name 4 (vs := [4]) sc_marks_of.nd rfl (.inl rfl))
      (ass_cons (as_for (ai_range2 m_range (aa_cons (ae_int) (aa_cons (ae_callB (ac_len (K := K)) m_len (by decide +kernel) (aa_cons (ae_v 4) (aa_nil))) (aa_nil)))) (ag_name 5 (vs := [5]) sc_marks_of.nd rfl (.inl rfl))
      (ass_one (as_expr (ae_setd (ae_v 3) (ae_cut (K := K) (ae_v 4) ao_none (ao_some (ae_v 5))) (ae_bl)))))
      (ass_one (as_putK (hu_of hr) (ae_v 3) (ae_v 4) (ae_bl)))))
      (ass_frz 3 (ass_one (as_expr (ae_meth (K := K) PySem.F.plainAttrs_list PySem.F.slot_list_append PySem.F.type_list_append am_append (ae_v 1) (aa_cons (ae_v 3) (aa_nil)))))))))
      (ass_frz 1 (ass_one (as_ret (ae_v 1)))))⟩
abbrev st_went : Stmt := topS 9
theorem sc_went : FnScope ["marks", "state", "text", "sign", "k", "begun"] ["marks", "state", "text"] (defScope st_went) := ⟨rfl, rfl, rfl, by decide +kernel, rfl, by decide +kernel, by decide +kernel⟩
theorem ok_went {P : Program} {w : World} {K : PySem.W.Frag} {mg : Str → Option Value} {base : Heap} {f : Addr} {fd : FuncData} (F : L2.Fun K "went" "went" st_went f fd) (hm : mg "went" = some (.ref f)) (hb : Binds K fd ["marks", "state", "text"] []) (m_len : mg "len" = none) : Cal P w K mg base 1 "went" 3 s_went := by
  refine calA (b := a_went) F sc_went rfl hm hb ?_ (fun _ _ _ _ h => h)
  intro cdv A outer s H E hr hgd
  have hw : (Bs.nil ⟨w, mg⟩).g = ⟨w, mg⟩ := rfl
  exact ⟨_, ass_cons (as_for (ai_str (ae_v 2)) (ag_name 3 (vs := [3]) sc_went.nd rfl (.inl rfl))
      (ass_cons (as_if (at_cmp ao_is (ae_v 1) (ae_non))
      (ass_one (as_ret (ae_non)))
      (ass_nil))
      (ass_cons (as_asg (ae_v 1) (ag_tup (K := K) (ags_cons (ag_name 4 (vs := [4, 5]) sc_went.nd rfl (.inl rfl)) (ags_cons (ag_name 5 (vs := [4, 5]) sc_went.nd rfl (.inl rfl)) (ags_nil)))))
      (ass_cons (as_set 5 sc_went.nd (ae_op (ao_add (K := K)) (ae_v 5) (ae_v 3)) rfl (.inl rfl))
      (ass_one (as_if (at_notInK (hu_of hr) (ae_v 5) (ae_ix (K := K) (ae_v 0) (ae_v 4)))
      (ass_one (as_set 1 sc_went.nd (ae_non) rfl (.inl rfl)))
      (ass_one (as_if (aw_t (aw_and (at_tru (K := K) (ae_getK (hu_of hr) (ae_ix (K := K) (ae_v 0) (ae_v 4)) (ae_v 5))) (aw_and1 (at_cmp ao_lt (ae_v 4) (ae_op ao_sub (ae_callB (ac_len (K := K)) m_len (by decide +kernel) (aa_cons (ae_v 0) (aa_nil))) (ae_int))))))
      (ass_one (as_set 1 sc_went.nd (ae_tup (aa_cons (ae_op (ao_add (K := K)) (ae_v 4) (ae_int)) (aa_cons (ae_str) (aa_nil)))) rfl (.inl rfl)))
      (ass_one (as_set 1 sc_went.nd (ae_tup (aa_cons (ae_v 4) (aa_cons (ae_v 5) (aa_nil)))) rfl (.inl rfl)))))))))))
      (ass_one (as_ret (ae_v 1)))⟩
abbrev st_is_made : Stmt := topS 10
theorem sc_is_made : FnScope ["marks", "state"] ["marks", "state"] (defScope st_is_made) := ⟨rfl, rfl, rfl, by decide +kernel, rfl, by decide +kernel, by decide +kernel⟩
theorem ok_is_made {P : Program} {w : World} {K : PySem.W.Frag} {mg : Str → Option Value} {base : Heap} {f : Addr} {fd : FuncData} (F : L2.Fun K "is_made" "is_made" st_is_made f fd) (hm : mg "is_made" = some (.ref f)) (hb : Binds K fd ["marks", "state"] []) (m_len : mg "len" = none) : Cal P w K mg base 1 "is_made" 2 s_is_made := by
  refine calA (b := a_is_made) F sc_is_made rfl hm hb ?_ (fun _ _ _ _ h => h)
  intro cdv A outer s H E hr hgd
  have hw : (Bs.nil ⟨w, mg⟩).g = ⟨w, mg⟩ := rfl
  exact ⟨_, ass_one (as_ret (ae_and (K := K) (ae_cmp ao_isnot (ae_v 1) (ae_non)) (ae_and (K := K) (ae_cmp (ao_eq (K := K) hr.units) (ae_ix (K := K) (ae_v 1) (ae_int)) (ae_op ao_sub (ae_callB (ac_len (K := K)) m_len (by decide +kernel) (aa_cons (ae_v 0) (aa_nil))) (ae_int))) (ae_one (ae_get2 (hu_of hr) (ae_ix (K := K) (ae_v 0) (ae_neg (ae_int))) (ae_ix (K := K) (ae_v 1) (ae_int)) (ae_bl))))))⟩
abbrev st_parted : Stmt := topS 11
theorem sc_parted : FnScope ["step", "word", "found", "part", "fits", "at", "one"] ["step", "word"] (defScope st_parted) := ⟨rfl, rfl, rfl, by decide +kernel, rfl, by decide +kernel, by decide +kernel⟩
theorem ok_parted {P : Program} {w : World} {K : PySem.W.Frag} {mg : Str → Option Value} {base : Heap} {f : Addr} {fd : FuncData} (F : L2.Fun K "parted" "parted" st_parted f fd) (hm : mg "parted" = some (.ref f)) (hb : Binds K fd ["step", "word"] []) (m_enumerate : mg "enumerate" = none) (m_len : mg "len" = none) : Cal P w K mg base 1 "parted" 2 s_parted := by
  refine calA (b := a_parted) F sc_parted rfl hm hb ?_ (fun _ _ _ _ h => h)
  intro cdv A outer s H E hr hgd
  have hw : (Bs.nil ⟨w, mg⟩).g = ⟨w, mg⟩ := rfl
  exact ⟨_, ass_cons (as_set 2 sc_parted.nd (ae_lstM (aa_nil)) rfl (.inl rfl))
      (ass_cons (as_for (ai_tup (K := K) (ae_cut (K := K) (ae_v 0) ao_none (ao_some (ae_neg (ae_int))))) (ag_name 3 (vs := [3]) sc_parted.nd rfl (.inl rfl))
      (ass_cons (as_setLc 4 [("at", 5), ("one", 6)] sc_parted.nd (ai_enumG (K := K) m_enumerate (aa_cons (ae_v 3) (aa_nil))) (sw_true rfl rfl rfl (by decide +kernel)) (blkOk_by (own := [("at", 5), ("one", 6)]) (N := ["step", "word", "found", "part", "fits", "at", "one"]) (sc := defScope st_parted) (by decide +kernel)) (fun _ _ _ _ _ => ag_tup (K := K) (ags_cons (ag_name 5 (vs := [5, 6]) sc_parted.nd rfl (.inl rfl)) (ags_cons (ag_name 6 (vs := [5, 6]) sc_parted.nd rfl (.inl rfl)) (ags_nil)))) (fun _ _ _ _ _ => ats_one (at_tru (K := K) (ae_meth (K := K) PySem.F.plainAttrs_str PySem.F.slot_str_startswith PySem.F.type_str_startswith am_startswith (ae_v 1) (aa_cons (ae_v 6) (aa_nil))))) (fun _ _ _ _ _ => ae_v 5))
      (ass_cons (as_if (at_cmp (ao_eqNil (K := K) hr.units) (ae_v 4) (ae_lst (aa_nil)))
      (ass_one (as_ret (ae_non)))
      (ass_nil))
      (ass_cons (as_expr (ae_meth (K := K) PySem.F.plainAttrs_list PySem.F.slot_list_append PySem.F.type_list_append am_append (ae_v 2) (aa_cons (ae_ix (K := K) (ae_v 4) (ae_int)) (aa_nil))))
      (ass_one (as_set 1 sc_parted.nd (ae_cut (K := K) (ae_v 1) (ao_some (ae_callB (ac_len (K := K)) m_len (by decide +kernel) (aa_cons (ae_ix (K := K) (ae_v 3) (ae_ix (K := K) (ae_v 4) (ae_int))) (aa_nil)))) ao_none) rfl (.inr rfl)))))))
      (ass_frz 2 (ass_cons (as_if (at_cmp ao_ninL (ae_v 1) (ae_ix (K := K) (ae_v 0) (ae_neg (ae_int))))
      (ass_one (as_ret (ae_non)))
      (ass_nil))
      (ass_one (as_ret (ae_op (ao_add (K := K)) (ae_v 2) (ae_lst (aa_cons (ae_methT PySem.F.plainAttrs_tuple PySem.F.slot_tuple_index PySem.F.type_tuple_index am_indexT (ae_ix (K := K) (ae_v 0) (ae_neg (ae_int))) (aa_cons (ae_v 1) (aa_nil))) (aa_nil)))))))))⟩
abbrev st_Going_begun : Stmt := inClass (topS 12) 1
theorem sc_Going_begun : FnScope ["self", "marks"] ["self"] (defScope st_Going_begun) := ⟨rfl, rfl, rfl, by decide +kernel, rfl, by decide +kernel, by decide +kernel⟩
theorem ok_Going_begun {P : Program} {w : World} {K : PySem.W.Frag} {mg : Str → Option Value} {base : Heap} {f : Addr} {C : Addr} {fd : FuncData} (F : L2.Fun K "begun" "Going.begun" st_Going_begun f fd) (hm : mg "Going" = some (.ref C)) (hc : Cls K C) (hme : Meth K C "begun" f) (hb : Binds K fd ["self"] []) (m_tuple : mg "tuple" = none) (k_Going : ClsF K mg "Going" ["step", "earlier", "known"]) : Met' P w K mg base 1 "Going" "begun" 1 s_Going_begun := by
  refine metA (b := a_Going_begun) F sc_Going_begun rfl hm hc hme hb ?_ (fun _ _ _ _ h => h)
  intro cdv A outer s H E hr hgd
  have hw : (Bs.nil ⟨w, mg⟩).g = ⟨w, mg⟩ := rfl
  exact ⟨_, ass_one (as_ret (ae_callT (ac_tuple (K := K)) m_tuple (by decide +kernel) (aa_cons (ae_lc [("marks", 1)] sc_Going_begun.nd (ai_list (K := K) (ae_fld (g := ⟨w, mg⟩) k_Going (by decide +kernel) (ae_v 0))) (blkOk_by (own := [("marks", 1)]) (N := ["self", "marks"]) (sc := defScope st_Going_begun) (by decide +kernel)) (fun _ _ _ _ _ => ag_name 1 (vs := [1]) sc_Going_begun.nd rfl (.inl rfl)) (fun _ _ _ _ _ => ats_nil) (fun _ _ _ _ _ => ae_tup (aa_cons (ae_int) (aa_cons (ae_str) (aa_nil))))) (aa_nil))))⟩
abbrev st_law_pen : Stmt := topS 18
theorem sc_law_pen : FnScope ["_law_script", "_law_k", "_law_cell"] ["_law_script", "_law_k"] (defScope st_law_pen) := ⟨rfl, rfl, rfl, by decide +kernel, rfl, by decide +kernel, by decide +kernel⟩
theorem ok_law_pen {P : Program} {w : World} {K : PySem.W.Frag} {mg : Str → Option Value} {base : Heap} {f : Addr} {fd : FuncData} (F : L2.Fun K "_law_pen" "_law_pen" st_law_pen f fd) (hm : mg "_law_pen" = some (.ref f)) (hb : Binds K fd ["_law_script", "_law_k"] []) (m_len : mg "len" = none) : Cal P w K mg base 1 "_law_pen" 2 s_law_pen := by
  refine calA (b := a_law_pen) F sc_law_pen rfl hm hb ?_ (fun _ _ _ _ h => h)
  intro cdv A outer s H E hr hgd
  have hw : (Bs.nil ⟨w, mg⟩).g = ⟨w, mg⟩ := rfl
  exact ⟨_, ass_cons (as_set 2 sc_law_pen.nd (ae_op (ao_add (K := K)) (ae_op ao_mul (ae_int) (ae_v 1)) (ae_int)) rfl (.inl rfl))
      (ass_cons (as_if (at_cmp ao_lt (ae_v 1) (ae_callB (ac_len (K := K)) m_len (by decide +kernel) (aa_cons (ae_v 0) (aa_nil))))
      (ass_one (as_set 2 sc_law_pen.nd (ae_ix (K := K) (ae_v 0) (ae_v 1)) rfl (.inl rfl)))
      (ass_one (as_if (at_cmp ao_gt (ae_callB (ac_len (K := K)) m_len (by decide +kernel) (aa_cons (ae_v 0) (aa_nil))) (ae_int))
      (ass_one (as_set 2 sc_law_pen.nd (ae_op (ao_add (K := K)) (ae_op ao_mod (ae_ix (K := K) (ae_v 0) (ae_op ao_mod (ae_v 1) (ae_callB (ac_len (K := K)) m_len (by decide +kernel) (aa_cons (ae_v 0) (aa_nil))))) (ae_int)) (ae_op ao_mul (ae_int) (ae_v 1))) rfl (.inl rfl)))
      (ass_nil))))
      (ass_cons (as_if (at_cmp ao_ge (ae_v 2) (ae_op ao_pow (ae_int) (ae_int)))
      (ass_one (as_ret (ae_lstM (aa_cons (ae_op ao_sub (ae_v 2) (ae_op ao_pow (ae_int) (ae_int))) (aa_cons (ae_op ao_mod (ae_v 2) (ae_int)) (aa_cons (ae_int) (aa_nil)))))))
      (ass_nil))
      (ass_one (as_ret (ae_lstM (aa_cons (ae_int) (aa_cons (ae_op ao_mod (ae_v 2) (ae_int)) (aa_cons (ae_int) (aa_nil)))))))))⟩
abbrev st_law_draw : Stmt := topS 19
theorem sc_law_draw : FnScope ["_law_pen_here", "_law_many", "_law_drawn", "_law_number"] ["_law_pen_here", "_law_many"] (defScope st_law_draw) := ⟨rfl, rfl, rfl, by decide +kernel, rfl, by decide +kernel, by decide +kernel⟩
theorem ok_law_draw {P : Program} {w : World} {K : PySem.W.Frag} {mg : Str → Option Value} {base : Heap} {f : Addr} {fd : FuncData} (F : L2.Fun K "_law_draw" "_law_draw" st_law_draw f fd) (hm : mg "_law_draw" = some (.ref f)) (hb : Binds K fd ["_law_pen_here", "_law_many"] []) : Cal P w K mg base 1 "_law_draw" 2 s_law_draw := by
  refine calA (b := a_law_draw) F sc_law_draw rfl hm hb ?_ (fun _ _ _ _ h => h)
  intro cdv A outer s H E hr hgd
  have hw : (Bs.nil ⟨w, mg⟩).g = ⟨w, mg⟩ := rfl
  exact ⟨_, ass_cons (as_setL (ae_op (ao_add (K := K)) (ae_ix (K := K) (ae_v 0) (ae_int)) (ae_int)) (ae_v 0) (ae_int))
      (ass_cons (as_if (at_cmp ao_gt (ae_ix (K := K) (ae_v 0) (ae_int)) (ae_int))
      (ass_cons (as_set 2 sc_law_draw.nd (ae_op ao_mod (ae_ix (K := K) (ae_v 0) (ae_int)) (ae_v 1)) rfl (.inl rfl))
      (ass_cons (as_setL (ae_op ao_divW (ae_ix (K := K) (ae_v 0) (ae_int)) (ae_v 1)) (ae_v 0) (ae_int))
      (ass_one (as_ret (ae_v 2)))))
      (ass_nil))
      (ass_cons (as_set 3 sc_law_draw.nd (ae_op ao_mod (ae_op (ao_add (K := K)) (ae_op (ao_add (K := K)) (ae_ix (K := K) (ae_v 0) (ae_int)) (ae_op ao_mul (ae_int) (ae_ix (K := K) (ae_v 0) (ae_int)))) (ae_int)) (ae_int)) rfl (.inl rfl))
      (ass_cons (as_set 3 sc_law_draw.nd (ae_op (ao_add (K := K)) (ae_op ao_mod (ae_op ao_mul (ae_v 3) (ae_v 3)) (ae_int)) (ae_op ao_mul (ae_int) (ae_ix (K := K) (ae_v 0) (ae_int)))) rfl (.inl rfl))
      (ass_cons (as_set 3 sc_law_draw.nd (ae_op ao_mod (ae_op ao_mul (ae_v 3) (ae_v 3)) (ae_int)) rfl (.inl rfl))
      (ass_one (as_ret (ae_op ao_mod (ae_op ao_div (ae_v 3) (ae_int)) (ae_v 1))))))))⟩
abbrev st_law_merged : Stmt := topS 24
theorem sc_law_merged : FnScope ["_law_step_here", "_law_words", "_law_one", "_law_other"] ["_law_step_here"] (defScope st_law_merged) := ⟨rfl, rfl, rfl, by decide +kernel, rfl, by decide +kernel, by decide +kernel⟩
theorem ok_law_merged {P : Program} {w : World} {K : PySem.W.Frag} {mg : Str → Option Value} {base : Heap} {f : Addr} {fd : FuncData} (F : L2.Fun K "_law_merged" "_law_merged" st_law_merged f fd) (hm : mg "_law_merged" = some (.ref f)) (hb : Binds K fd ["_law_step_here"] []) (m_len : mg "len" = none) (m_tuple : mg "tuple" = none) : Cal P w K mg base 1 "_law_merged" 1 s_law_merged := by
  refine calA (b := a_law_merged) F sc_law_merged rfl hm hb ?_ (fun _ _ _ _ h => h)
  intro cdv A outer s H E hr hgd
  have hw : (Bs.nil ⟨w, mg⟩).g = ⟨w, mg⟩ := rfl
  exact ⟨_, ass_cons (as_if (aw_t (aw_or (at_cmp ao_lt (ae_callB (ac_len (K := K)) m_len (by decide +kernel) (aa_cons (ae_v 0) (aa_nil))) (ae_int)) (aw_or1 (at_cmp ao_gt (ae_op ao_mul (ae_callB (ac_len (K := K)) m_len (by decide +kernel) (aa_cons (ae_ix (K := K) (ae_v 0) (ae_int)) (aa_nil))) (ae_callB (ac_len (K := K)) m_len (by decide +kernel) (aa_cons (ae_ix (K := K) (ae_v 0) (ae_int)) (aa_nil)))) (ae_int)))))
      (ass_one (as_ret (ae_v 0)))
      (ass_nil))
      (ass_cons (as_set 1 sc_law_merged.nd (ae_lstM (aa_nil)) rfl (.inl rfl))
      (ass_cons (as_for (ai_tup (K := K) (ae_ix (K := K) (ae_v 0) (ae_int))) (ag_name 2 (vs := [2]) sc_law_merged.nd rfl (.inr rfl))
      (ass_one (as_expr (ae_meth (K := K) PySem.F.plainAttrs_list PySem.F.slot_list_extend PySem.F.type_list_extend am_extend (ae_v 1) (aa_cons (ae_lc [("_law_other", 3)] sc_law_merged.nd (ai_tup (K := K) (ae_ix (K := K) (ae_v 0) (ae_int))) (blkOk_by (own := [("_law_other", 3)]) (N := ["_law_step_here", "_law_words", "_law_one", "_law_other"]) (sc := defScope st_law_merged) (by decide +kernel)) (fun _ _ _ _ _ => ag_name 3 (vs := [3]) sc_law_merged.nd rfl (.inl rfl)) (fun _ _ _ _ _ => ats_one (at_cmp ao_le (ae_callB (ac_len (K := K)) m_len (by decide +kernel) (aa_cons (ae_op (ao_add (K := K)) (ae_v 2) (ae_v 3)) (aa_nil))) (ae_int))) (fun _ _ _ _ _ => ae_op (ao_add (K := K)) (ae_v 2) (ae_v 3))) (aa_nil))))))
      (ass_frz 1 (ass_one (as_ret (ae_op (ao_add (K := K)) (ae_tup (aa_cons (ae_callT (ac_tuple (K := K)) m_tuple (by decide +kernel) (aa_cons (ae_v 1) (aa_nil))) (aa_nil))) (ae_cut (K := K) (ae_v 0) (ao_some (ae_int)) ao_none)))))))⟩
abbrev st_law_numbers : Stmt := topS 27
theorem sc_law_numbers : FnScope ["_law_step_here", "_law_word_here", "_law_numbers_here", "_law_part_here", "_law_good", "_law_at", "_law_one"] ["_law_step_here", "_law_word_here"] (defScope st_law_numbers) := ⟨rfl, rfl, rfl, by decide +kernel, rfl, by decide +kernel, by decide +kernel⟩
theorem ok_law_numbers {P : Program} {w : World} {K : PySem.W.Frag} {mg : Str → Option Value} {base : Heap} {f : Addr} {fd : FuncData} (F : L2.Fun K "_law_numbers" "_law_numbers" st_law_numbers f fd) (hm : mg "_law_numbers" = some (.ref f)) (hb : Binds K fd ["_law_step_here", "_law_word_here"] []) (m_enumerate : mg "enumerate" = none) (m_len : mg "len" = none) : Cal P w K mg base 1 "_law_numbers" 2 s_law_numbers := by
  refine calA (b := a_law_numbers) F sc_law_numbers rfl hm hb ?_ (fun _ _ _ _ h => h)
  intro cdv A outer s H E hr hgd
  have hw : (Bs.nil ⟨w, mg⟩).g = ⟨w, mg⟩ := rfl
  exact ⟨_, ass_cons (as_set 2 sc_law_numbers.nd (ae_lstM (aa_nil)) rfl (.inl rfl))
      (ass_cons (as_for (ai_tup (K := K) (ae_cut (K := K) (ae_v 0) ao_none (ao_some (ae_neg (ae_int))))) (ag_name 3 (vs := [3]) sc_law_numbers.nd rfl (.inl rfl))
      (ass_cons (as_setLc 4 [("_law_at", 5), ("_law_one", 6)] sc_law_numbers.nd (ai_enumG (K := K) m_enumerate (aa_cons (ae_v 3) (aa_nil))) (sw_true rfl rfl rfl (by decide +kernel)) (blkOk_by (own := [("_law_at", 5), ("_law_one", 6)]) (N := ["_law_step_here", "_law_word_here", "_law_numbers_here", "_law_part_here", "_law_good", "_law_at", "_law_one"]) (sc := defScope st_law_numbers) (by decide +kernel)) (fun _ _ _ _ _ => ag_tup (K := K) (ags_cons (ag_name 5 (vs := [5, 6]) sc_law_numbers.nd rfl (.inl rfl)) (ags_cons (ag_name 6 (vs := [5, 6]) sc_law_numbers.nd rfl (.inl rfl)) (ags_nil)))) (fun _ _ _ _ _ => ats_one (at_cmp (ao_eq (K := K) hr.units) (ae_cut (K := K) (ae_v 1) ao_none (ao_some (ae_callB (ac_len (K := K)) m_len (by decide +kernel) (aa_cons (ae_v 6) (aa_nil))))) (ae_v 6))) (fun _ _ _ _ _ => ae_v 5))
      (ass_cons (as_if (at_cmp (ao_eqNil (K := K) hr.units) (ae_v 4) (ae_lst (aa_nil)))
      (ass_one (as_ret (ae_non)))
      (ass_nil))
      (ass_cons (as_expr (ae_meth (K := K) PySem.F.plainAttrs_list PySem.F.slot_list_append PySem.F.type_list_append am_append (ae_v 2) (aa_cons (ae_ix (K := K) (ae_v 4) (ae_int)) (aa_nil))))
      (ass_one (as_set 1 sc_law_numbers.nd (ae_cut (K := K) (ae_v 1) (ao_some (ae_callB (ac_len (K := K)) m_len (by decide +kernel) (aa_cons (ae_ix (K := K) (ae_v 3) (ae_ix (K := K) (ae_v 4) (ae_int))) (aa_nil)))) ao_none) rfl (.inr rfl)))))))
      (ass_frz 2 (ass_cons (as_if (at_cmp ao_ninL (ae_v 1) (ae_ix (K := K) (ae_v 0) (ae_neg (ae_int))))
      (ass_one (as_ret (ae_non)))
      (ass_nil))
      (ass_one (as_ret (ae_op (ao_add (K := K)) (ae_v 2) (ae_lst (aa_cons (ae_ix (K := K) (ae_lc [("_law_at", 5), ("_law_one", 6)] sc_law_numbers.nd (ai_enumG (K := K) m_enumerate (aa_cons (ae_ix (K := K) (ae_v 0) (ae_neg (ae_int))) (aa_nil))) (blkOk_by (own := [("_law_at", 5), ("_law_one", 6)]) (N := ["_law_step_here", "_law_word_here", "_law_numbers_here", "_law_part_here", "_law_good", "_law_at", "_law_one"]) (sc := defScope st_law_numbers) (by decide +kernel)) (fun _ _ _ _ _ => ag_tup (K := K) (ags_cons (ag_name 5 (vs := [5, 6]) sc_law_numbers.nd rfl (.inl rfl)) (ags_cons (ag_name 6 (vs := [5, 6]) sc_law_numbers.nd rfl (.inl rfl)) (ags_nil)))) (fun _ _ _ _ _ => ats_one (at_cmp (ao_eq (K := K) hr.units) (ae_v 6) (ae_v 1))) (fun _ _ _ _ _ => ae_v 5)) (ae_int)) (aa_nil)))))))))⟩
abbrev st_law_size : Stmt := topS 29
theorem sc_law_size : FnScope ["_law_step_here", "_law_size_here", "_law_part_here"] ["_law_step_here"] (defScope st_law_size) := ⟨rfl, rfl, rfl, by decide +kernel, rfl, by decide +kernel, by decide +kernel⟩
theorem ok_law_size {P : Program} {w : World} {K : PySem.W.Frag} {mg : Str → Option Value} {base : Heap} {f : Addr} {fd : FuncData} (F : L2.Fun K "_law_size" "_law_size" st_law_size f fd) (hm : mg "_law_size" = some (.ref f)) (hb : Binds K fd ["_law_step_here"] []) (m_len : mg "len" = none) : Cal P w K mg base 1 "_law_size" 1 s_law_size := by
  refine calA (b := a_law_size) F sc_law_size rfl hm hb ?_ (fun _ _ _ _ h => h)
  intro cdv A outer s H E hr hgd
  have hw : (Bs.nil ⟨w, mg⟩).g = ⟨w, mg⟩ := rfl
  exact ⟨_, ass_cons (as_set 1 sc_law_size.nd (ae_int) rfl (.inl rfl))
      (ass_cons (as_for (ai_tup (K := K) (ae_v 0)) (ag_name 2 (vs := [2]) sc_law_size.nd rfl (.inl rfl))
      (ass_one (as_set 1 sc_law_size.nd (ae_op ao_mul (ae_v 1) (ae_callB (ac_len (K := K)) m_len (by decide +kernel) (aa_cons (ae_v 2) (aa_nil)))) rfl (.inl rfl))))
      (ass_one (as_ret (ae_v 1))))⟩
abbrev st_law_word : Stmt := topS 31
theorem sc_law_word : FnScope ["_law_plan_here", "_law_spot_here", "_law_k", "_law_numbers_here", "_law_part_here", "_law_at"] ["_law_plan_here", "_law_spot_here"] (defScope st_law_word) := ⟨rfl, rfl, rfl, by decide +kernel, rfl, by decide +kernel, by decide +kernel⟩
theorem ok_law_word {P : Program} {w : World} {K : PySem.W.Frag} {mg : Str → Option Value} {base : Heap} {f : Addr} {fd : FuncData} (F : L2.Fun K "_law_word" "_law_word" st_law_word f fd) (hm : mg "_law_word" = some (.ref f)) (hb : Binds K fd ["_law_plan_here", "_law_spot_here"] []) (m_zip : mg "zip" = none) : Cal P w K mg base 1 "_law_word" 2 s_law_word := by
  refine calA (b := a_law_word) F sc_law_word rfl hm hb ?_ (fun _ _ _ _ h => h)
  intro cdv A outer s H E hr hgd
  have hw : (Bs.nil ⟨w, mg⟩).g = ⟨w, mg⟩ := rfl
  exact ⟨_, ass_cons (as_asg (ae_v 1) (ag_tup (K := K) (ags_cons (ag_name 2 (vs := [2, 3]) sc_law_word.nd rfl (.inl rfl)) (ags_cons (ag_name 3 (vs := [2, 3]) sc_law_word.nd rfl (.inl rfl)) (ags_nil)))))
      (ass_one (as_ret (ae_meth (K := K) PySem.F.plainAttrs_str PySem.F.slot_str_join PySem.F.type_str_join (am_join (K := K)) (ae_str) (aa_cons (ae_lc [("_law_part_here", 4), ("_law_at", 5)] sc_law_word.nd (ai_zipG (K := K) m_zip (aa_cons (ae_ix (K := K) (ae_v 0) (ae_v 2)) (aa_cons (ae_v 3) (aa_nil)))) (blkOk_by (own := [("_law_part_here", 4), ("_law_at", 5)]) (N := ["_law_plan_here", "_law_spot_here", "_law_k", "_law_numbers_here", "_law_part_here", "_law_at"]) (sc := defScope st_law_word) (by decide +kernel)) (fun _ _ _ _ _ => ag_tup (K := K) (ags_cons (ag_name 4 (vs := [4, 5]) sc_law_word.nd rfl (.inl rfl)) (ags_cons (ag_name 5 (vs := [4, 5]) sc_law_word.nd rfl (.inl rfl)) (ags_nil)))) (fun _ _ _ _ _ => ats_nil) (fun _ _ _ _ _ => ae_ix (K := K) (ae_v 4) (ae_v 5))) (aa_nil)))))⟩
abbrev st_Going___init__ : Stmt := inClass (topS 12) 0
theorem sc_Going___init__ : FnScope ["self", "step", "earlier", "one"] ["self", "step", "earlier"] (defScope st_Going___init__) := ⟨rfl, rfl, rfl, by decide +kernel, rfl, by decide +kernel, by decide +kernel⟩
theorem ok_Going___init__ {P : Program} {w : World} {K : PySem.W.Frag} {mg : Str → Option Value} {base : Heap} {f : Addr} {C : Addr} {fd : FuncData} (F : L2.Fun K "__init__" "Going.__init__" st_Going___init__ f fd) (hm : mg "Going" = some (.ref C)) (M : Mk K C f) (hb : Binds K fd ["self", "step", "earlier"] []) (k_Going : ClsF K mg "Going" ["step", "earlier", "known"]) (c_marks_of : Cal P w K mg base 1 "marks_of" 1 s_marks_of) : MakG P w K mg base 2 "Going" 3 s_Going___init__ := by
  refine makA (b := a_Going___init__) F sc_Going___init__ rfl hm M hb ?_ (fun _ _ _ _ h => h)
  intro cdv A outer s H E hr hgd
  have hw : (Bs.nil ⟨w, mg⟩).g = ⟨w, mg⟩ := rfl
  exact ⟨_, ass_cons (as_fld (g := ⟨w, mg⟩) k_Going (by decide +kernel) (ae_v 0) (ae_v 1))
      (ass_cons (as_fld (g := ⟨w, mg⟩) k_Going (by decide +kernel) (ae_v 0) (ae_lc [("one", 3)] sc_Going___init__.nd (ai_tup (K := K) (ae_v 2)) (blkOk_by (own := [("one", 3)]) (N := ["self", "step", "earlier", "one"]) (sc := defScope st_Going___init__) (by decide +kernel)) (fun _ _ _ _ _ => ag_name 3 (vs := [3]) sc_Going___init__.nd rfl (.inl rfl)) (fun _ _ _ _ _ => ats_nil) (fun _ _ _ _ _ => ae_call (K := K) (g := ⟨w, mg⟩) c_marks_of hr hgd (aa_cons (ae_v 3) (aa_nil)))))
      (ass_one (as_fld (g := ⟨w, mg⟩) k_Going (by decide +kernel) (ae_v 0) (ae_dict0N (g := ⟨w, mg⟩)))))⟩
abbrev st_Going_behind : Stmt := inClass (topS 12) 2
theorem sc_Going_behind : FnScope ["self", "states", "text", "marks", "state"] ["self", "states", "text"] (defScope st_Going_behind) := ⟨rfl, rfl, rfl, by decide +kernel, rfl, by decide +kernel, by decide +kernel⟩
theorem ok_Going_behind {P : Program} {w : World} {K : PySem.W.Frag} {mg : Str → Option Value} {base : Heap} {f : Addr} {C : Addr} {fd : FuncData} (F : L2.Fun K "behind" "Going.behind" st_Going_behind f fd) (hm : mg "Going" = some (.ref C)) (hc : Cls K C) (hme : Meth K C "behind" f) (hb : Binds K fd ["self", "states", "text"] []) (m_tuple : mg "tuple" = none) (m_zip : mg "zip" = none) (k_Going : ClsF K mg "Going" ["step", "earlier", "known"]) (c_went : Cal P w K mg base 1 "went" 3 s_went) : Met' P w K mg base 2 "Going" "behind" 3 s_Going_behind := by
  refine metA (b := a_Going_behind) F sc_Going_behind rfl hm hc hme hb ?_ (fun _ _ _ _ h => h)
  intro cdv A outer s H E hr hgd
  have hw : (Bs.nil ⟨w, mg⟩).g = ⟨w, mg⟩ := rfl
  exact ⟨_, ass_one (as_ret (ae_callT (ac_tuple (K := K)) m_tuple (by decide +kernel) (aa_cons (ae_lc [("marks", 3), ("state", 4)] sc_Going_behind.nd (ai_zipG (K := K) m_zip (aa_cons (ae_fld (g := ⟨w, mg⟩) k_Going (by decide +kernel) (ae_v 0)) (aa_cons (ae_v 1) (aa_nil)))) (blkOk_by (own := [("marks", 3), ("state", 4)]) (N := ["self", "states", "text", "marks", "state"]) (sc := defScope st_Going_behind) (by decide +kernel)) (fun _ _ _ _ _ => ag_tup (K := K) (ags_cons (ag_name 3 (vs := [3, 4]) sc_Going_behind.nd rfl (.inl rfl)) (ags_cons (ag_name 4 (vs := [3, 4]) sc_Going_behind.nd rfl (.inl rfl)) (ags_nil)))) (fun _ _ _ _ _ => ats_nil) (fun _ _ _ _ _ => ae_call (K := K) (g := ⟨w, mg⟩) c_went hr hgd (aa_cons (ae_v 3) (aa_cons (ae_v 4) (aa_cons (ae_v 2) (aa_nil)))))) (aa_nil))))⟩
abbrev st_Going_is_new : Stmt := inClass (topS 12) 3
theorem sc_Going_is_new : FnScope ["self", "states", "marks", "state"] ["self", "states"] (defScope st_Going_is_new) := ⟨rfl, rfl, rfl, by decide +kernel, rfl, by decide +kernel, by decide +kernel⟩
theorem ok_Going_is_new {P : Program} {w : World} {K : PySem.W.Frag} {mg : Str → Option Value} {base : Heap} {f : Addr} {C : Addr} {fd : FuncData} (F : L2.Fun K "is_new" "Going.is_new" st_Going_is_new f fd) (hm : mg "Going" = some (.ref C)) (hc : Cls K C) (hme : Meth K C "is_new" f) (hb : Binds K fd ["self", "states"] []) (m_any : mg "any" = none) (m_zip : mg "zip" = none) (k_Going : ClsF K mg "Going" ["step", "earlier", "known"]) (c_is_made : Cal P w K mg base 1 "is_made" 2 s_is_made) : Met' P w K mg base 2 "Going" "is_new" 2 s_Going_is_new := by
  refine metA (b := a_Going_is_new) F sc_Going_is_new rfl hm hc hme hb ?_ (fun _ _ _ _ h => h)
  intro cdv A outer s H E hr hgd
  have hw : (Bs.nil ⟨w, mg⟩).g = ⟨w, mg⟩ := rfl
  exact ⟨_, ass_one (as_ret (ae_not (K := K) (ae_callB (ac_any (K := K)) m_any (by decide +kernel) (aa_cons (ae_lc [("marks", 2), ("state", 3)] sc_Going_is_new.nd (ai_zipG (K := K) m_zip (aa_cons (ae_fld (g := ⟨w, mg⟩) k_Going (by decide +kernel) (ae_v 0)) (aa_cons (ae_v 1) (aa_nil)))) (blkOk_by (own := [("marks", 2), ("state", 3)]) (N := ["self", "states", "marks", "state"]) (sc := defScope st_Going_is_new) (by decide +kernel)) (fun _ _ _ _ _ => ag_tup (K := K) (ags_cons (ag_name 2 (vs := [2, 3]) sc_Going_is_new.nd rfl (.inl rfl)) (ags_cons (ag_name 3 (vs := [2, 3]) sc_Going_is_new.nd rfl (.inl rfl)) (ags_nil)))) (fun _ _ _ _ _ => ats_nil) (fun _ _ _ _ _ => ae_call (K := K) (g := ⟨w, mg⟩) c_is_made hr hgd (aa_cons (ae_v 2) (aa_cons (ae_v 3) (aa_nil))))) (aa_nil)))))⟩
abbrev st_law_tongue : Stmt := topS 20
theorem sc_law_tongue : FnScope ["_law_pen_here", "_law_most", "_law_signs", "_law_amount", "_law_k", "_law_sizes", "_law_kinds", "_law_size_here", "_law_kind", "_law_at"] ["_law_pen_here", "_law_most"] (defScope st_law_tongue) := ⟨rfl, rfl, rfl, by decide +kernel, rfl, by decide +kernel, by decide +kernel⟩
theorem ok_law_tongue {P : Program} {w : World} {K : PySem.W.Frag} {mg : Str → Option Value} {base : Heap} {f : Addr} {fd : FuncData} (F : L2.Fun K "_law_tongue" "_law_tongue" st_law_tongue f fd) (hm : mg "_law_tongue" = some (.ref f)) (hb : Binds K fd ["_law_pen_here", "_law_most"] []) (m_len : mg "len" = none) (m_max : mg "max" = none) (m_range : mg "range" = none) (m_sum : mg "sum" = none) (m_tuple : mg "tuple" = none) (c_law_draw : Cal P w K mg base 1 "_law_draw" 2 s_law_draw) : Cal P w K mg base 2 "_law_tongue" 2 s_law_tongue := by
  refine calA (b := a_law_tongue) F sc_law_tongue rfl hm hb ?_ (fun _ _ _ _ h => h)
  intro cdv A outer s H E hr hgd
  have hw : (Bs.nil ⟨w, mg⟩).g = ⟨w, mg⟩ := rfl
  exact ⟨_, ass_cons (as_set 2 sc_law_tongue.nd (ae_str) rfl (.inl rfl))
      (ass_cons (as_set 3 sc_law_tongue.nd (ae_op (ao_add (K := K)) (ae_int) (ae_call (K := K) (g := ⟨w, mg⟩) c_law_draw hr hgd (aa_cons (ae_v 0) (aa_cons (ae_int) (aa_nil))))) rfl (.inl rfl))
      (ass_cons (as_setLcM 5 [("_law_k", 4)] sc_law_tongue.nd (ai_range1 m_range (aa_cons (ae_v 3) (aa_nil))) (sw_true rfl rfl rfl (by decide +kernel)) (blkOk_by (own := [("_law_k", 4)]) (N := ["_law_pen_here", "_law_most", "_law_signs", "_law_amount", "_law_k", "_law_sizes", "_law_kinds", "_law_size_here", "_law_kind", "_law_at"]) (sc := defScope st_law_tongue) (by decide +kernel)) (fun _ _ _ _ _ => ag_name 4 (vs := [4]) sc_law_tongue.nd rfl (.inl rfl)) (fun _ _ _ _ _ => ats_nil) (fun _ _ _ _ _ => ae_op (ao_add (K := K)) (ae_int) (ae_call (K := K) (g := ⟨w, mg⟩) c_law_draw hr hgd (aa_cons (ae_v 0) (aa_cons (ae_v 1) (aa_nil))))))
      (ass_cons (as_if (aw_t (aw_and (at_cmp (ao_eq (K := K) hr.units) (ae_v 1) (ae_int)) (aw_and1 (at_cmp (ao_eq (K := K) hr.units) (ae_call (K := K) (g := ⟨w, mg⟩) c_law_draw hr hgd (aa_cons (ae_v 0) (aa_cons (ae_int) (aa_nil)))) (ae_int)))))
      (ass_one (as_set 5 sc_law_tongue.nd (ae_ix (K := K) (ae_lst (aa_cons (ae_lst (aa_cons (ae_int) (aa_cons (ae_int) (aa_nil)))) (aa_cons (ae_lst (aa_cons (ae_int) (aa_cons (ae_int) (aa_cons (ae_int) (aa_nil))))) (aa_cons (ae_lst (aa_cons (ae_int) (aa_cons (ae_int) (aa_cons (ae_int) (aa_cons (ae_int) (aa_nil)))))) (aa_cons (ae_lst (aa_cons (ae_int) (aa_cons (ae_int) (aa_cons (ae_int) (aa_nil))))) (aa_nil)))))) (ae_call (K := K) (g := ⟨w, mg⟩) c_law_draw hr hgd (aa_cons (ae_v 0) (aa_cons (ae_int) (aa_nil))))) rfl (.inl rfl)))
      (ass_nil))
      (ass_cons (as_while (at_cmp ao_gt (ae_callB (ac_sum (K := K)) m_sum (by decide +kernel) (aa_cons (ae_v 5) (aa_nil))) (ae_int))
      (ass_one (as_setL (ae_op ao_sub (ae_callB (ac_maxL (K := K)) m_max (by decide +kernel) (aa_cons (ae_v 5) (aa_nil))) (ae_int)) (ae_v 5) (ae_meth (K := K) PySem.F.plainAttrs_list PySem.F.slot_list_index PySem.F.type_list_index (am_lindex (K := K)) (ae_v 5) (aa_cons (ae_callB (ac_maxL (K := K)) m_max (by decide +kernel) (aa_cons (ae_v 5) (aa_nil))) (aa_nil))))))
      (ass_frz 5 (ass_cons (as_set 6 sc_law_tongue.nd (ae_lstM (aa_nil)) rfl (.inl rfl))
      (ass_cons (as_for (ai_list (K := K) (ae_v 5)) (ag_name 7 (vs := [7]) sc_law_tongue.nd rfl (.inl rfl))
      (ass_cons (as_set 8 sc_law_tongue.nd (ae_str) rfl (.inl rfl))
      (ass_cons (as_for (ai_range1 m_range (aa_cons (ae_v 7) (aa_nil))) (ag_name 4 (vs := [4]) sc_law_tongue.nd rfl (.inl rfl))
      (ass_cons (as_set 9 sc_law_tongue.nd (ae_call (K := K) (g := ⟨w, mg⟩) c_law_draw hr hgd (aa_cons (ae_v 0) (aa_cons (ae_callB (ac_len (K := K)) m_len (by decide +kernel) (aa_cons (ae_v 2) (aa_nil))) (aa_nil)))) rfl (.inl rfl))
      (ass_cons (as_set 8 sc_law_tongue.nd (ae_op (ao_add (K := K)) (ae_v 8) (ae_ix (K := K) (ae_v 2) (ae_v 9))) rfl (.inl rfl))
      (ass_one (as_set 2 sc_law_tongue.nd (ae_op (ao_add (K := K)) (ae_cut (K := K) (ae_v 2) ao_none (ao_some (ae_v 9))) (ae_cut (K := K) (ae_v 2) (ao_some (ae_op (ao_add (K := K)) (ae_v 9) (ae_int))) ao_none)) rfl (.inl rfl))))))
      (ass_one (as_expr (ae_meth (K := K) PySem.F.plainAttrs_list PySem.F.slot_list_append PySem.F.type_list_append am_append (ae_v 6) (aa_cons (ae_v 8) (aa_nil))))))))
      (ass_frz 6 (ass_one (as_ret (ae_callT (ac_tuple (K := K)) m_tuple (by decide +kernel) (aa_cons (ae_v 6) (aa_nil)))))))))))))⟩
abbrev st_law_text : Stmt := topS 21
theorem sc_law_text : FnScope ["_law_pen_here", "_law_tongue_here", "_law_most", "_law_signs", "_law_word_here", "_law_alike", "_law_k", "_law_sign"] ["_law_pen_here", "_law_tongue_here", "_law_most"] (defScope st_law_text) := ⟨rfl, rfl, rfl, by decide +kernel, rfl, by decide +kernel, by decide +kernel⟩
theorem ok_law_text {P : Program} {w : World} {K : PySem.W.Frag} {mg : Str → Option Value} {base : Heap} {f : Addr} {fd : FuncData} (F : L2.Fun K "_law_text" "_law_text" st_law_text f fd) (hm : mg "_law_text" = some (.ref f)) (hb : Binds K fd ["_law_pen_here", "_law_tongue_here", "_law_most"] []) (m_len : mg "len" = none) (m_range : mg "range" = none) (c_law_draw : Cal P w K mg base 1 "_law_draw" 2 s_law_draw) : Cal P w K mg base 2 "_law_text" 3 s_law_text := by
  refine calA (b := a_law_text) F sc_law_text rfl hm hb ?_ (fun _ _ _ _ h => h)
  intro cdv A outer s H E hr hgd
  have hw : (Bs.nil ⟨w, mg⟩).g = ⟨w, mg⟩ := rfl
  exact ⟨_, ass_cons (as_set 3 sc_law_text.nd (ae_meth (K := K) PySem.F.plainAttrs_str PySem.F.slot_str_join PySem.F.type_str_join (am_join (K := K)) (ae_str) (aa_cons (ae_v 1) (aa_nil))) rfl (.inl rfl))
      (ass_cons (as_set 4 sc_law_text.nd (ae_ix (K := K) (ae_v 3) (ae_call (K := K) (g := ⟨w, mg⟩) c_law_draw hr hgd (aa_cons (ae_v 0) (aa_cons (ae_callB (ac_len (K := K)) m_len (by decide +kernel) (aa_cons (ae_v 3) (aa_nil))) (aa_nil))))) rfl (.inl rfl))
      (ass_cons (as_set 5 sc_law_text.nd (ae_cmp (ao_eq (K := K) hr.units) (ae_call (K := K) (g := ⟨w, mg⟩) c_law_draw hr hgd (aa_cons (ae_v 0) (aa_cons (ae_int) (aa_nil)))) (ae_int)) rfl (.inl rfl))
      (ass_cons (as_for (ai_range1 m_range (aa_cons (ae_call (K := K) (g := ⟨w, mg⟩) c_law_draw hr hgd (aa_cons (ae_v 0) (aa_cons (ae_v 2) (aa_nil)))) (aa_nil))) (ag_name 6 (vs := [6]) sc_law_text.nd rfl (.inl rfl))
      (ass_cons (as_set 7 sc_law_text.nd (ae_ix (K := K) (ae_v 3) (ae_call (K := K) (g := ⟨w, mg⟩) c_law_draw hr hgd (aa_cons (ae_v 0) (aa_cons (ae_callB (ac_len (K := K)) m_len (by decide +kernel) (aa_cons (ae_v 3) (aa_nil))) (aa_nil))))) rfl (.inl rfl))
      (ass_cons (as_if (at_tru (K := K) (ae_v 5))
      (ass_one (as_set 7 sc_law_text.nd (ae_ix (K := K) (ae_v 4) (ae_int)) rfl (.inl rfl)))
      (ass_nil))
      (ass_one (as_set 4 sc_law_text.nd (ae_op (ao_add (K := K)) (ae_v 4) (ae_v 7)) rfl (.inl rfl))))))
      (ass_one (as_ret (ae_v 4))))))⟩
abbrev st_law_spot : Stmt := topS 28
theorem sc_law_spot : FnScope ["_law_plan_here", "_law_word_here", "_law_k", "_law_step_here", "_law_numbers_here"] ["_law_plan_here", "_law_word_here"] (defScope st_law_spot) := ⟨rfl, rfl, rfl, by decide +kernel, rfl, by decide +kernel, by decide +kernel⟩
theorem ok_law_spot {P : Program} {w : World} {K : PySem.W.Frag} {mg : Str → Option Value} {base : Heap} {f : Addr} {fd : FuncData} (F : L2.Fun K "_law_spot" "_law_spot" st_law_spot f fd) (hm : mg "_law_spot" = some (.ref f)) (hb : Binds K fd ["_law_plan_here", "_law_word_here"] []) (m_enumerate : mg "enumerate" = none) (c_law_numbers : Cal P w K mg base 1 "_law_numbers" 2 s_law_numbers) : Cal P w K mg base 2 "_law_spot" 2 s_law_spot := by
  refine calA (b := a_law_spot) F sc_law_spot rfl hm hb ?_ (fun _ _ _ _ h => h)
  intro cdv A outer s H E hr hgd
  have hw : (Bs.nil ⟨w, mg⟩).g = ⟨w, mg⟩ := rfl
  exact ⟨_, ass_cons (as_for (ai_enumG (K := K) m_enumerate (aa_cons (ae_v 0) (aa_nil))) (ag_tup (K := K) (ags_cons (ag_name 2 (vs := [2, 3]) sc_law_spot.nd rfl (.inl rfl)) (ags_cons (ag_name 3 (vs := [2, 3]) sc_law_spot.nd rfl (.inl rfl)) (ags_nil))))
      (ass_cons (as_set 4 sc_law_spot.nd (ae_call (K := K) (g := ⟨w, mg⟩) c_law_numbers hr hgd (aa_cons (ae_v 3) (aa_cons (ae_v 1) (aa_nil)))) rfl (.inl rfl))
      (ass_one (as_if (at_cmp ao_isnot (ae_v 4) (ae_non))
      (ass_one (as_ret (ae_tup (aa_cons (ae_v 2) (aa_cons (ae_v 4) (aa_nil))))))
      (ass_nil)))))
      (ass_one (as_ret (ae_non)))⟩
abbrev st_law_behind : Stmt := topS 30
theorem sc_law_behind : FnScope ["_law_plan_here", "_law_spot_here", "_law_k", "_law_numbers_here", "_law_step_here", "_law_at", "_law_rest", "_law_later"] ["_law_plan_here", "_law_spot_here"] (defScope st_law_behind) := ⟨rfl, rfl, rfl, by decide +kernel, rfl, by decide +kernel, by decide +kernel⟩
theorem ok_law_behind {P : Program} {w : World} {K : PySem.W.Frag} {mg : Str → Option Value} {base : Heap} {f : Addr} {fd : FuncData} (F : L2.Fun K "_law_behind" "_law_behind" st_law_behind f fd) (hm : mg "_law_behind" = some (.ref f)) (hb : Binds K fd ["_law_plan_here", "_law_spot_here"] []) (m_len : mg "len" = none) (m_range : mg "range" = none) (c_law_size : Cal P w K mg base 1 "_law_size" 1 s_law_size) : Cal P w K mg base 2 "_law_behind" 2 s_law_behind := by
  refine calA (b := a_law_behind) F sc_law_behind rfl hm hb ?_ (fun _ _ _ _ h => h)
  intro cdv A outer s H E hr hgd
  have hw : (Bs.nil ⟨w, mg⟩).g = ⟨w, mg⟩ := rfl
  exact ⟨_, ass_cons (as_asg (ae_v 1) (ag_tup (K := K) (ags_cons (ag_name 2 (vs := [2, 3]) sc_law_behind.nd rfl (.inl rfl)) (ags_cons (ag_name 3 (vs := [2, 3]) sc_law_behind.nd rfl (.inl rfl)) (ags_nil)))))
      (ass_cons (as_set 4 sc_law_behind.nd (ae_ix (K := K) (ae_v 0) (ae_v 2)) rfl (.inl rfl))
      (ass_cons (as_for (ai_range3 m_range (aa_cons (ae_op ao_sub (ae_callB (ac_len (K := K)) m_len (by decide +kernel) (aa_cons (ae_v 4) (aa_nil))) (ae_int)) (aa_cons (ae_neg (ae_int)) (aa_cons (ae_neg (ae_int)) (aa_nil))))) (ag_name 5 (vs := [5]) sc_law_behind.nd rfl (.inl rfl))
      (ass_one (as_if (at_cmp ao_lt (ae_op (ao_add (K := K)) (ae_ix (K := K) (ae_v 3) (ae_v 5)) (ae_int)) (ae_callB (ac_len (K := K)) m_len (by decide +kernel) (aa_cons (ae_ix (K := K) (ae_v 4) (ae_v 5)) (aa_nil))))
      (ass_cons (as_set 6 sc_law_behind.nd (ae_op ao_repL (ae_lst (aa_cons (ae_int) (aa_nil))) (ae_op ao_sub (ae_op ao_sub (ae_callB (ac_len (K := K)) m_len (by decide +kernel) (aa_cons (ae_v 4) (aa_nil))) (ae_v 5)) (ae_int))) rfl (.inl rfl))
      (ass_one (as_ret (ae_tup (aa_cons (ae_v 2) (aa_cons (ae_op (ao_add (K := K)) (ae_op (ao_add (K := K)) (ae_cut (K := K) (ae_v 3) ao_none (ao_some (ae_v 5))) (ae_lst (aa_cons (ae_op (ao_add (K := K)) (ae_ix (K := K) (ae_v 3) (ae_v 5)) (ae_int)) (aa_nil)))) (ae_v 6)) (aa_nil)))))))
      (ass_nil))))
      (ass_cons (as_for (ai_range2 m_range (aa_cons (ae_op (ao_add (K := K)) (ae_v 2) (ae_int)) (aa_cons (ae_callB (ac_len (K := K)) m_len (by decide +kernel) (aa_cons (ae_v 0) (aa_nil))) (aa_nil)))) (ag_name 7 (vs := [7]) sc_law_behind.nd rfl (.inl rfl))
      (ass_one (as_if (at_cmp ao_gt (ae_call (K := K) (g := ⟨w, mg⟩) c_law_size hr hgd (aa_cons (ae_ix (K := K) (ae_v 0) (ae_v 7)) (aa_nil))) (ae_int))
      (ass_one (as_ret (ae_tup (aa_cons (ae_v 7) (aa_cons (ae_op ao_repL (ae_lst (aa_cons (ae_int) (aa_nil))) (ae_callB (ac_len (K := K)) m_len (by decide +kernel) (aa_cons (ae_ix (K := K) (ae_v 0) (ae_v 7)) (aa_nil)))) (aa_nil))))))
      (ass_nil))))
      (ass_one (as_ret (ae_non))))))⟩
abbrev st_Going_left : Stmt := inClass (topS 12) 4
theorem sc_Going_left : FnScope ["self", "k", "states", "total", "word", "state"] ["self", "k", "states"] (defScope st_Going_left) := ⟨rfl, rfl, rfl, by decide +kernel, rfl, by decide +kernel, by decide +kernel⟩
theorem ok_Going_left {P : Program} {w : World} {K : PySem.W.Frag} {mg : Str → Option Value} {base : Heap} {f : Addr} {C : Addr} {fd : FuncData} (F : L2.Fun K "left" "Going.left" st_Going_left f fd) (hm : mg "Going" = some (.ref C)) (hc : Cls K C) (hme : Meth K C "left" f) (hb : Binds K fd ["self", "k", "states"] []) (m_int : mg "int" = none) (m_len : mg "len" = none) (k_Going : ClsF K mg "Going" ["step", "earlier", "known"]) (c_size_of : Cal P w K mg base 1 "size_of" 1 s_size_of) (c_Going_behind : Met' P w K mg base 2 "Going" "behind" 3 s_Going_behind) (c_Going_is_new : Met' P w K mg base 2 "Going" "is_new" 2 s_Going_is_new) : ∀ d, Met' P w K mg base (3 + d) "Going" "left" 3 (s_Going_left d)
  | 0 => by
    refine metA (b := aNoS) F sc_Going_left rfl hm hc hme hb ?_ (fun _ _ _ _ h => h.elim)
    intro cdv A outer s H E hr hgd
    exact ⟨_, ass_no⟩
  | d + 1 => by
    have c_Going_left := ok_Going_left (P := P) (w := w) (base := base) F hm hc hme hb m_int m_len k_Going c_size_of c_Going_behind c_Going_is_new d
    refine metA (b := a_Going_left (s_Going_left d)) F sc_Going_left rfl hm hc hme hb ?_ (fun _ _ _ _ h => h)
    intro cdv A outer s H E hr hgd
    have hw : (Bs.nil ⟨w, mg⟩).g = ⟨w, mg⟩ := rfl
    exact ⟨_, ass_cons (as_if (at_cmp (ao_eq (K := K) hr.units) (ae_v 1) (ae_callB (ac_len (K := K)) m_len (by decide +kernel) (aa_cons (ae_fld (g := ⟨w, mg⟩) k_Going (by decide +kernel) (ae_v 0)) (aa_nil))))
      (ass_one (as_ret (ae_callT ac_int m_int (by decide +kernel) (aa_cons (ae_mth (g := ⟨w, mg⟩) (hk := by first | exact Nat.le_refl _ | exact Nat.le_trans (by decide) (Nat.le_add_right 3 d)) c_Going_is_new hr hgd (ae_v 0) (aa_cons (ae_v 2) (aa_nil))) (aa_nil)))))
      (ass_nil))
      (ass_cons (as_if (at_cmp (ao_eqNil (K := K) hr.units) (ae_lc [("state", 5)] sc_Going_left.nd (ai_tup (K := K) (ae_v 2)) (blkOk_by (own := [("state", 5)]) (N := ["self", "k", "states", "total", "word", "state"]) (sc := defScope st_Going_left) (by decide +kernel)) (fun _ _ _ _ _ => ag_name 5 (vs := [5]) sc_Going_left.nd rfl (.inl rfl)) (fun _ _ _ _ _ => ats_one (at_cmp ao_isnot (ae_v 5) (ae_non))) (fun _ _ _ _ _ => ae_v 5)) (ae_lst (aa_nil)))
      (ass_one (as_ret (ae_call (K := K) (g := ⟨w, mg⟩) (hk := by first | exact Nat.le_refl _ | exact Nat.le_trans (by decide) (Nat.le_add_right 3 d)) c_size_of hr hgd (aa_cons (ae_cut (K := K) (ae_fld (g := ⟨w, mg⟩) k_Going (by decide +kernel) (ae_v 0)) (ao_some (ae_v 1)) ao_none) (aa_nil)))))
      (ass_nil))
      (ass_cons (as_if (at_notInN (g := ⟨w, mg⟩) (hu16 hr) (ae_tup (aa_cons (ae_v 1) (aa_cons (ae_v 2) (aa_nil)))) (ae_fld (g := ⟨w, mg⟩) k_Going (by decide +kernel) (ae_v 0)))
      (ass_cons (as_set 3 sc_Going_left.nd (ae_int) rfl (.inl rfl))
      (ass_cons (as_for (ai_tup (K := K) (ae_ix (K := K) (ae_fld (g := ⟨w, mg⟩) k_Going (by decide +kernel) (ae_v 0)) (ae_v 1))) (ag_name 4 (vs := [4]) sc_Going_left.nd rfl (.inl rfl))
      (ass_one (as_set 3 sc_Going_left.nd (ae_op (ao_add (K := K)) (ae_v 3) (ae_mth (g := ⟨w, mg⟩) (hk := by first | exact Nat.le_refl _ | exact Nat.le_trans (by decide) (Nat.le_add_right 3 d)) c_Going_left hr hgd (ae_v 0) (aa_cons (ae_op (ao_add (K := K)) (ae_v 1) (ae_int)) (aa_cons (ae_mth (g := ⟨w, mg⟩) (hk := by first | exact Nat.le_refl _ | exact Nat.le_trans (by decide) (Nat.le_add_right 3 d)) c_Going_behind hr hgd (ae_v 0) (aa_cons (ae_v 2) (aa_cons (ae_v 4) (aa_nil)))) (aa_nil))))) rfl (.inl rfl))))
      (ass_one (as_putN (g := ⟨w, mg⟩) (hu16 hr) (ae_fld (g := ⟨w, mg⟩) k_Going (by decide +kernel) (ae_v 0)) (ae_tup (aa_cons (ae_v 1) (aa_cons (ae_v 2) (aa_nil)))) (ae_v 3)))))
      (ass_nil))
      (ass_one (as_ret (ae_getN (g := ⟨w, mg⟩) (hu16 hr) (ae_fld (g := ⟨w, mg⟩) k_Going (by decide +kernel) (ae_v 0)) (ae_tup (aa_cons (ae_v 1) (aa_cons (ae_v 2) (aa_nil)))))))))⟩
abbrev st_law_part : Stmt := topS 22
theorem sc_law_part : FnScope ["_law_pen_here", "_law_tongue_here", "_law_most", "_law_size_here", "_law_free", "_law_part_here", "_law_k", "_law_word_here", "_law_good", "_law_one"] ["_law_pen_here", "_law_tongue_here", "_law_most", "_law_size_here", "_law_free"] (defScope st_law_part) := ⟨rfl, rfl, rfl, by decide +kernel, rfl, by decide +kernel, by decide +kernel⟩
theorem ok_law_part {P : Program} {w : World} {K : PySem.W.Frag} {mg : Str → Option Value} {base : Heap} {f : Addr} {fd : FuncData} (F : L2.Fun K "_law_part" "_law_part" st_law_part f fd) (hm : mg "_law_part" = some (.ref f)) (hb : Binds K fd ["_law_pen_here", "_law_tongue_here", "_law_most", "_law_size_here", "_law_free"] []) (m_range : mg "range" = none) (m_tuple : mg "tuple" = none) (c_law_text : Cal P w K mg base 2 "_law_text" 3 s_law_text) : Cal P w K mg base 3 "_law_part" 5 s_law_part := by
  refine calA (b := a_law_part) F sc_law_part rfl hm hb ?_ (fun _ _ _ _ h => h)
  intro cdv A outer s H E hr hgd
  have hw : (Bs.nil ⟨w, mg⟩).g = ⟨w, mg⟩ := rfl
  exact ⟨_, ass_cons (as_set 5 sc_law_part.nd (ae_lstM (aa_nil)) rfl (.inl rfl))
      (ass_cons (as_for (ai_range1 m_range (aa_cons (ae_v 2) (aa_nil))) (ag_name 6 (vs := [6]) sc_law_part.nd rfl (.inl rfl))
      (ass_cons (as_set 7 sc_law_part.nd (ae_call (K := K) (g := ⟨w, mg⟩) c_law_text hr hgd (aa_cons (ae_v 0) (aa_cons (ae_v 1) (aa_cons (ae_v 3) (aa_nil))))) rfl (.inr rfl))
      (ass_cons (as_set 8 sc_law_part.nd (ae_cmp ao_ninL (ae_v 7) (ae_v 5)) rfl (.inl rfl))
      (ass_cons (as_if (at_not (at_tru (K := K) (ae_v 4)))
      (ass_one (as_set 8 sc_law_part.nd (ae_cmp (ao_eqNil (K := K) hr.units) (ae_lc [("_law_one", 9)] sc_law_part.nd (ai_list (K := K) (ae_v 5)) (blkOk_by (own := [("_law_one", 9)]) (N := ["_law_pen_here", "_law_tongue_here", "_law_most", "_law_size_here", "_law_free", "_law_part_here", "_law_k", "_law_word_here", "_law_good", "_law_one"]) (sc := defScope st_law_part) (by decide +kernel)) (fun _ _ _ _ _ => ag_name 9 (vs := [9]) sc_law_part.nd rfl (.inl rfl)) (fun _ _ _ _ _ => ats_one (aw_t (aw_or (at_tru (K := K) (ae_meth (K := K) PySem.F.plainAttrs_str PySem.F.slot_str_startswith PySem.F.type_str_startswith am_startswith (ae_v 9) (aa_cons (ae_v 7) (aa_nil)))) (aw_or1 (at_tru (K := K) (ae_meth (K := K) PySem.F.plainAttrs_str PySem.F.slot_str_startswith PySem.F.type_str_startswith am_startswith (ae_v 7) (aa_cons (ae_v 9) (aa_nil)))))))) (fun _ _ _ _ _ => ae_v 9)) (ae_lst (aa_nil))) rfl (.inl rfl)))
      (ass_nil))
      (ass_one (as_if (at_tru (K := K) (ae_v 8))
      (ass_one (as_expr (ae_meth (K := K) PySem.F.plainAttrs_list PySem.F.slot_list_append PySem.F.type_list_append am_append (ae_v 5) (aa_cons (ae_v 7) (aa_nil)))))
      (ass_nil)))))))
      (ass_frz 5 (ass_one (as_ret (ae_callT (ac_tuple (K := K)) m_tuple (by decide +kernel) (aa_cons (ae_v 5) (aa_nil)))))))⟩
abbrev st_law_more : Stmt := topS 26
theorem sc_law_more : FnScope ["_law_pen_here", "_law_tongue_here", "_law_part_here", "_law_word_here"] ["_law_pen_here", "_law_tongue_here", "_law_part_here"] (defScope st_law_more) := ⟨rfl, rfl, rfl, by decide +kernel, rfl, by decide +kernel, by decide +kernel⟩
theorem ok_law_more {P : Program} {w : World} {K : PySem.W.Frag} {mg : Str → Option Value} {base : Heap} {f : Addr} {fd : FuncData} (F : L2.Fun K "_law_more" "_law_more" st_law_more f fd) (hm : mg "_law_more" = some (.ref f)) (hb : Binds K fd ["_law_pen_here", "_law_tongue_here", "_law_part_here"] []) (m_len : mg "len" = none) (c_law_text : Cal P w K mg base 2 "_law_text" 3 s_law_text) : Cal P w K mg base 3 "_law_more" 3 s_law_more := by
  refine calA (b := a_law_more) F sc_law_more rfl hm hb ?_ (fun _ _ _ _ h => h)
  intro cdv A outer s H E hr hgd
  have hw : (Bs.nil ⟨w, mg⟩).g = ⟨w, mg⟩ := rfl
  exact ⟨_, ass_cons (as_set 3 sc_law_more.nd (ae_call (K := K) (g := ⟨w, mg⟩) c_law_text hr hgd (aa_cons (ae_v 0) (aa_cons (ae_v 1) (aa_cons (ae_int) (aa_nil))))) rfl (.inl rfl))
      (ass_cons (as_if (aw_t (aw_or (at_cmp ao_inL (ae_v 3) (ae_v 2)) (aw_or1 (at_cmp ao_gt (ae_callB (ac_len (K := K)) m_len (by decide +kernel) (aa_cons (ae_v 2) (aa_nil))) (ae_int)))))
      (ass_one (as_ret (ae_tup (aa_nil))))
      (ass_nil))
      (ass_one (as_ret (ae_tup (aa_cons (ae_v 3) (aa_nil))))))⟩
abbrev st_law_fresh : Stmt := topS 32
theorem sc_law_fresh : FnScope ["_law_plan_here", "_law_spot_here", "_law_most", "_law_turn", "_law_word_here"] ["_law_plan_here", "_law_spot_here", "_law_most"] (defScope st_law_fresh) := ⟨rfl, rfl, rfl, by decide +kernel, rfl, by decide +kernel, by decide +kernel⟩
theorem ok_law_fresh {P : Program} {w : World} {K : PySem.W.Frag} {mg : Str → Option Value} {base : Heap} {f : Addr} {fd : FuncData} (F : L2.Fun K "_law_fresh" "_law_fresh" st_law_fresh f fd) (hm : mg "_law_fresh" = some (.ref f)) (hb : Binds K fd ["_law_plan_here", "_law_spot_here", "_law_most"] []) (m_range : mg "range" = none) (c_law_word : Cal P w K mg base 1 "_law_word" 2 s_law_word) (c_law_spot : Cal P w K mg base 2 "_law_spot" 2 s_law_spot) (c_law_behind : Cal P w K mg base 2 "_law_behind" 2 s_law_behind) : Cal P w K mg base 3 "_law_fresh" 3 s_law_fresh := by
  refine calA (b := a_law_fresh) F sc_law_fresh rfl hm hb ?_ (fun _ _ _ _ h => h)
  intro cdv A outer s H E hr hgd
  have hw : (Bs.nil ⟨w, mg⟩).g = ⟨w, mg⟩ := rfl
  exact ⟨_, ass_cons (as_for (ai_range1 m_range (aa_cons (ae_v 2) (aa_nil))) (ag_name 3 (vs := [3]) sc_law_fresh.nd rfl (.inl rfl))
      (ass_cons (as_if (at_cmp ao_is (ae_v 1) (ae_non))
      (ass_one (as_ret (ae_non)))
      (ass_nil))
      (ass_cons (as_set 4 sc_law_fresh.nd (ae_call (K := K) (g := ⟨w, mg⟩) c_law_word hr hgd (aa_cons (ae_v 0) (aa_cons (ae_v 1) (aa_nil)))) rfl (.inl rfl))
      (ass_cons (as_if (at_cmp (ao_eq (K := K) hr.units) (ae_call (K := K) (g := ⟨w, mg⟩) c_law_spot hr hgd (aa_cons (ae_v 0) (aa_cons (ae_v 4) (aa_nil)))) (ae_v 1))
      (ass_one (as_ret (ae_v 1)))
      (ass_nil))
      (ass_one (as_set 1 sc_law_fresh.nd (ae_call (K := K) (g := ⟨w, mg⟩) c_law_behind hr hgd (aa_cons (ae_v 0) (aa_cons (ae_v 1) (aa_nil)))) rfl (.inl rfl)))))))
      (ass_one (as_ret (ae_int)))⟩
abbrev st_goings : Stmt := topS 13
theorem sc_goings : FnScope ["plan", "k", "step"] ["plan"] (defScope st_goings) := ⟨rfl, rfl, rfl, by decide +kernel, rfl, by decide +kernel, by decide +kernel⟩
theorem ok_goings {P : Program} {w : World} {K : PySem.W.Frag} {mg : Str → Option Value} {base : Heap} {f : Addr} {fd : FuncData} (F : L2.Fun K "goings" "goings" st_goings f fd) (hm : mg "goings" = some (.ref f)) (hb : Binds K fd ["plan"] []) (m_enumerate : mg "enumerate" = none) (c_Going___init__ : MakG P w K mg base 2 "Going" 3 s_Going___init__) : Cal P w K mg base 4 "goings" 1 s_goings := by
  refine calA (b := a_goings) F sc_goings rfl hm hb ?_ (fun _ _ _ _ h => h)
  intro cdv A outer s H E hr hgd
  have hw : (Bs.nil ⟨w, mg⟩).g = ⟨w, mg⟩ := rfl
  exact ⟨_, ass_one (as_ret (ae_lc [("k", 1), ("step", 2)] sc_goings.nd (ai_enumG (K := K) m_enumerate (aa_cons (ae_v 0) (aa_nil))) (blkOk_by (own := [("k", 1), ("step", 2)]) (N := ["plan", "k", "step"]) (sc := defScope st_goings) (by decide +kernel)) (fun _ _ _ _ _ => ag_tup (K := K) (ags_cons (ag_name 1 (vs := [1, 2]) sc_goings.nd rfl (.inl rfl)) (ags_cons (ag_name 2 (vs := [1, 2]) sc_goings.nd rfl (.inl rfl)) (ags_nil)))) (fun _ _ _ _ _ => ats_nil) (fun _ _ _ _ _ => ae_make (g := ⟨w, mg⟩) c_Going___init__ hr hgd (aa_cons (ae_v 2) (aa_cons (ae_cut (K := K) (ae_v 0) ao_none (ao_some (ae_v 1))) (aa_nil))))))⟩
abbrev st_law_step : Stmt := topS 23
theorem sc_law_step : FnScope ["_law_pen_here", "_law_tongue_here", "_law_parts", "_law_most", "_law_size_here", "_law_many", "_law_step_here", "_law_k", "_law_tall"] ["_law_pen_here", "_law_tongue_here", "_law_parts", "_law_most", "_law_size_here"] (defScope st_law_step) := ⟨rfl, rfl, rfl, by decide +kernel, rfl, by decide +kernel, by decide +kernel⟩
theorem ok_law_step {P : Program} {w : World} {K : PySem.W.Frag} {mg : Str → Option Value} {base : Heap} {f : Addr} {fd : FuncData} (F : L2.Fun K "_law_step" "_law_step" st_law_step f fd) (hm : mg "_law_step" = some (.ref f)) (hb : Binds K fd ["_law_pen_here", "_law_tongue_here", "_law_parts", "_law_most", "_law_size_here"] []) (m_range : mg "range" = none) (m_tuple : mg "tuple" = none) (c_law_draw : Cal P w K mg base 1 "_law_draw" 2 s_law_draw) (c_law_part : Cal P w K mg base 3 "_law_part" 5 s_law_part) : Cal P w K mg base 4 "_law_step" 5 s_law_step := by
  refine calA (b := a_law_step) F sc_law_step rfl hm hb ?_ (fun _ _ _ _ h => h)
  intro cdv A outer s H E hr hgd
  have hw : (Bs.nil ⟨w, mg⟩).g = ⟨w, mg⟩ := rfl
  exact ⟨_, ass_cons (as_set 5 sc_law_step.nd (ae_op (ao_add (K := K)) (ae_int) (ae_call (K := K) (g := ⟨w, mg⟩) c_law_draw hr hgd (aa_cons (ae_v 0) (aa_cons (ae_v 2) (aa_nil))))) rfl (.inl rfl))
      (ass_cons (as_set 6 sc_law_step.nd (ae_lstM (aa_nil)) rfl (.inl rfl))
      (ass_cons (as_for (ai_range1 m_range (aa_cons (ae_v 5) (aa_nil))) (ag_name 7 (vs := [7]) sc_law_step.nd rfl (.inl rfl))
      (ass_cons (as_set 8 sc_law_step.nd (ae_op (ao_add (K := K)) (ae_int) (ae_call (K := K) (g := ⟨w, mg⟩) c_law_draw hr hgd (aa_cons (ae_v 0) (aa_cons (ae_v 4) (aa_nil))))) rfl (.inl rfl))
      (ass_one (as_expr (ae_meth (K := K) PySem.F.plainAttrs_list PySem.F.slot_list_append PySem.F.type_list_append am_append (ae_v 6) (aa_cons (ae_call (K := K) (g := ⟨w, mg⟩) c_law_part hr hgd (aa_cons (ae_v 0) (aa_cons (ae_v 1) (aa_cons (ae_call (K := K) (g := ⟨w, mg⟩) c_law_draw hr hgd (aa_cons (ae_v 0) (aa_cons (ae_op (ao_add (K := K)) (ae_v 3) (ae_int)) (aa_nil)))) (aa_cons (ae_v 8) (aa_cons (ae_cmp (ao_eq (K := K) hr.units) (ae_v 7) (ae_op ao_sub (ae_v 5) (ae_int))) (aa_nil))))))) (aa_nil)))))))
      (ass_frz 6 (ass_one (as_ret (ae_callT (ac_tuple (K := K)) m_tuple (by decide +kernel) (aa_cons (ae_v 6) (aa_nil))))))))⟩
abbrev st_law_plan : Stmt := topS 25
theorem sc_law_plan : FnScope ["_law_pen_here", "_law_tongue_here", "_law_parts", "_law_most", "_law_size_here", "_law_plan_here", "_law_k", "_law_step_here", "_law_way", "_law_last", "_law_part_here"] ["_law_pen_here", "_law_tongue_here", "_law_parts", "_law_most", "_law_size_here"] (defScope st_law_plan) := ⟨rfl, rfl, rfl, by decide +kernel, rfl, by decide +kernel, by decide +kernel⟩
theorem ok_law_plan {P : Program} {w : World} {K : PySem.W.Frag} {mg : Str → Option Value} {base : Heap} {f : Addr} {fd : FuncData} (F : L2.Fun K "_law_plan" "_law_plan" st_law_plan f fd) (hm : mg "_law_plan" = some (.ref f)) (hb : Binds K fd ["_law_pen_here", "_law_tongue_here", "_law_parts", "_law_most", "_law_size_here"] []) (m_range : mg "range" = none) (m_tuple : mg "tuple" = none) (c_law_draw : Cal P w K mg base 1 "_law_draw" 2 s_law_draw) (c_law_merged : Cal P w K mg base 1 "_law_merged" 1 s_law_merged) (c_law_part : Cal P w K mg base 3 "_law_part" 5 s_law_part) (c_law_more : Cal P w K mg base 3 "_law_more" 3 s_law_more) (c_law_step : Cal P w K mg base 4 "_law_step" 5 s_law_step) : Cal P w K mg base 5 "_law_plan" 5 s_law_plan := by
  refine calA (b := a_law_plan) F sc_law_plan rfl hm hb ?_ (fun _ _ _ _ h => h)
  intro cdv A outer s H E hr hgd
  have hw : (Bs.nil ⟨w, mg⟩).g = ⟨w, mg⟩ := rfl
  exact ⟨_, ass_cons (as_set 5 sc_law_plan.nd (ae_tup (aa_nil)) rfl (.inl rfl))
      (ass_cons (as_for (ai_range1 m_range (aa_cons (ae_call (K := K) (g := ⟨w, mg⟩) c_law_draw hr hgd (aa_cons (ae_v 0) (aa_cons (ae_int) (aa_nil)))) (aa_nil))) (ag_name 6 (vs := [6]) sc_law_plan.nd rfl (.inl rfl))
      (ass_cons (as_set 7 sc_law_plan.nd (ae_call (K := K) (g := ⟨w, mg⟩) c_law_step hr hgd (aa_cons (ae_v 0) (aa_cons (ae_v 1) (aa_cons (ae_v 2) (aa_cons (ae_v 3) (aa_cons (ae_v 4) (aa_nil))))))) rfl (.inl rfl))
      (ass_cons (as_set 8 sc_law_plan.nd (ae_call (K := K) (g := ⟨w, mg⟩) c_law_draw hr hgd (aa_cons (ae_v 0) (aa_cons (ae_int) (aa_nil)))) rfl (.inl rfl))
      (ass_cons (as_if (aw_t (aw_and (at_cmp ao_gt (ae_v 6) (ae_int)) (aw_and1 (at_cmp (ao_eq (K := K) hr.units) (ae_v 8) (ae_int)))))
      (ass_one (as_set 7 sc_law_plan.nd (ae_call (K := K) (g := ⟨w, mg⟩) c_law_merged hr hgd (aa_cons (ae_ix (K := K) (ae_v 5) (ae_int)) (aa_nil))) rfl (.inl rfl)))
      (ass_nil))
      (ass_cons (as_if (aw_t (aw_and (at_cmp ao_gt (ae_v 6) (ae_int)) (aw_and1 (at_cmp (ao_eq (K := K) hr.units) (ae_v 8) (ae_int)))))
      (ass_cons (as_set 9 sc_law_plan.nd (ae_ix (K := K) (ae_ix (K := K) (ae_v 5) (ae_int)) (ae_neg (ae_int))) rfl (.inl rfl))
      (ass_one (as_set 7 sc_law_plan.nd (ae_op (ao_add (K := K)) (ae_cut (K := K) (ae_ix (K := K) (ae_v 5) (ae_int)) ao_none (ao_some (ae_neg (ae_int)))) (ae_tup (aa_cons (ae_op (ao_add (K := K)) (ae_revT (K := K) (ae_v 9)) (ae_call (K := K) (g := ⟨w, mg⟩) c_law_more hr hgd (aa_cons (ae_v 0) (aa_cons (ae_v 1) (aa_cons (ae_v 9) (aa_nil)))))) (aa_nil)))) rfl (.inl rfl))))
      (ass_nil))
      (ass_cons (as_if (aw_t (aw_and (at_cmp ao_gt (ae_v 6) (ae_int)) (aw_and1 (at_cmp (ao_eq (K := K) hr.units) (ae_v 8) (ae_int)))))
      (ass_one (as_set 7 sc_law_plan.nd (ae_callT (ac_tuple (K := K)) m_tuple (by decide +kernel) (aa_cons (ae_lc [("_law_part_here", 10)] sc_law_plan.nd (ai_tup (K := K) (ae_ix (K := K) (ae_v 5) (ae_op ao_sub (ae_v 6) (ae_int)))) (blkOk_by (own := [("_law_part_here", 10)]) (N := ["_law_pen_here", "_law_tongue_here", "_law_parts", "_law_most", "_law_size_here", "_law_plan_here", "_law_k", "_law_step_here", "_law_way", "_law_last", "_law_part_here"]) (sc := defScope st_law_plan) (by decide +kernel)) (fun _ _ _ _ _ => ag_name 10 (vs := [10]) sc_law_plan.nd rfl (.inl rfl)) (fun _ _ _ _ _ => ats_nil) (fun _ _ _ _ _ => ae_revT (K := K) (ae_v 10))) (aa_nil))) rfl (.inl rfl)))
      (ass_nil))
      (ass_cons (as_if (aw_t (aw_and (at_cmp ao_gt (ae_v 6) (ae_int)) (aw_and1 (at_cmp (ao_eq (K := K) hr.units) (ae_v 8) (ae_int)))))
      (ass_one (as_set 7 sc_law_plan.nd (ae_op (ao_add (K := K)) (ae_tup (aa_cons (ae_call (K := K) (g := ⟨w, mg⟩) c_law_part hr hgd (aa_cons (ae_v 0) (aa_cons (ae_v 1) (aa_cons (ae_int) (aa_cons (ae_int) (aa_cons (ae_bl) (aa_nil))))))) (aa_nil))) (ae_cut (K := K) (ae_ix (K := K) (ae_v 5) (ae_int)) (ao_some (ae_int)) ao_none)) rfl (.inl rfl)))
      (ass_nil))
      (ass_one (as_set 5 sc_law_plan.nd (ae_op (ao_add (K := K)) (ae_v 5) (ae_tup (aa_cons (ae_v 7) (aa_nil)))) rfl (.inl rfl))))))))))
      (ass_one (as_ret (ae_v 5))))⟩
abbrev st_Going_ahead : Stmt := inClass (topS 12) 5
theorem sc_Going_ahead : FnScope ["self", "numbers", "states", "total", "k", "at", "word"] ["self", "numbers"] (defScope st_Going_ahead) := ⟨rfl, rfl, rfl, by decide +kernel, rfl, by decide +kernel, by decide +kernel⟩
theorem ok_Going_ahead {P : Program} {w : World} {K : PySem.W.Frag} {mg : Str → Option Value} {base : Heap} {f : Addr} {C : Addr} {fd : FuncData} (F : L2.Fun K "ahead" "Going.ahead" st_Going_ahead f fd) (hm : mg "Going" = some (.ref C)) (hc : Cls K C) (hme : Meth K C "ahead" f) (hb : Binds K fd ["self", "numbers"] []) (m_enumerate : mg "enumerate" = none) (k_Going : ClsF K mg "Going" ["step", "earlier", "known"]) (c_Going_begun : Met' P w K mg base 1 "Going" "begun" 1 s_Going_begun) (c_Going_behind : Met' P w K mg base 2 "Going" "behind" 3 s_Going_behind) (c_Going_left : Met' P w K mg base 11 "Going" "left" 3 (s_Going_left 8)) : Met' P w K mg base 12 "Going" "ahead" 2 s_Going_ahead := by
  refine metA (b := a_Going_ahead) F sc_Going_ahead rfl hm hc hme hb ?_ (fun _ _ _ _ h => h)
  intro cdv A outer s H E hr hgd
  have hw : (Bs.nil ⟨w, mg⟩).g = ⟨w, mg⟩ := rfl
  exact ⟨_, ass_cons (as_set 2 sc_Going_ahead.nd (ae_mth0 (g := ⟨w, mg⟩) c_Going_begun hr hgd (ae_v 0)) rfl (.inl rfl))
      (ass_cons (as_set 3 sc_Going_ahead.nd (ae_int) rfl (.inl rfl))
      (ass_cons (as_for (ai_enum (K := K) m_enumerate (aa_cons (ae_v 1) (aa_nil))) (ag_tup (K := K) (ags_cons (ag_name 4 (vs := [4, 5]) sc_Going_ahead.nd rfl (.inl rfl)) (ags_cons (ag_name 5 (vs := [4, 5]) sc_Going_ahead.nd rfl (.inl rfl)) (ags_nil))))
      (ass_cons (as_for (ai_tup (K := K) (ae_cut (K := K) (ae_ix (K := K) (ae_fld (g := ⟨w, mg⟩) k_Going (by decide +kernel) (ae_v 0)) (ae_v 4)) ao_none (ao_some (ae_v 5)))) (ag_name 6 (vs := [6]) sc_Going_ahead.nd rfl (.inl rfl))
      (ass_one (as_set 3 sc_Going_ahead.nd (ae_op (ao_add (K := K)) (ae_v 3) (ae_mth (g := ⟨w, mg⟩) c_Going_left hr hgd (ae_v 0) (aa_cons (ae_op (ao_add (K := K)) (ae_v 4) (ae_int)) (aa_cons (ae_mth (g := ⟨w, mg⟩) c_Going_behind hr hgd (ae_v 0) (aa_cons (ae_v 2) (aa_cons (ae_v 6) (aa_nil)))) (aa_nil))))) rfl (.inl rfl))))
      (ass_one (as_set 2 sc_Going_ahead.nd (ae_mth (g := ⟨w, mg⟩) c_Going_behind hr hgd (ae_v 0) (aa_cons (ae_v 2) (aa_cons (ae_ix (K := K) (ae_ix (K := K) (ae_fld (g := ⟨w, mg⟩) k_Going (by decide +kernel) (ae_v 0)) (ae_v 4)) (ae_v 5)) (aa_nil)))) rfl (.inl rfl)))))
      (ass_one (as_ret (ae_v 3)))))⟩
abbrev st_Going_at : Stmt := inClass (topS 12) 6
theorem sc_Going_at : FnScope ["self", "number", "states", "found", "k", "part", "word", "later", "many"] ["self", "number"] (defScope st_Going_at) := ⟨rfl, rfl, rfl, by decide +kernel, rfl, by decide +kernel, by decide +kernel⟩
theorem ok_Going_at {P : Program} {w : World} {K : PySem.W.Frag} {mg : Str → Option Value} {base : Heap} {f : Addr} {C : Addr} {fd : FuncData} (F : L2.Fun K "at" "Going.at" st_Going_at f fd) (hm : mg "Going" = some (.ref C)) (hc : Cls K C) (hme : Meth K C "at" f) (hb : Binds K fd ["self", "number"] []) (m_enumerate : mg "enumerate" = none) (k_Going : ClsF K mg "Going" ["step", "earlier", "known"]) (c_Going_begun : Met' P w K mg base 1 "Going" "begun" 1 s_Going_begun) (c_Going_behind : Met' P w K mg base 2 "Going" "behind" 3 s_Going_behind) (c_Going_left : Met' P w K mg base 11 "Going" "left" 3 (s_Going_left 8)) : Met' P w K mg base 12 "Going" "at" 2 s_Going_at := by
  refine metA (b := a_Going_at) F sc_Going_at rfl hm hc hme hb ?_ (fun _ _ _ _ h => h)
  intro cdv A outer s H E hr hgd
  have hw : (Bs.nil ⟨w, mg⟩).g = ⟨w, mg⟩ := rfl
  exact ⟨_, ass_cons (as_set 2 sc_Going_at.nd (ae_mth0 (g := ⟨w, mg⟩) c_Going_begun hr hgd (ae_v 0)) rfl (.inl rfl))
      (ass_cons (as_set 3 sc_Going_at.nd (ae_str) rfl (.inl rfl))
      (ass_cons (as_for (ai_enumG (K := K) m_enumerate (aa_cons (ae_fld (g := ⟨w, mg⟩) k_Going (by decide +kernel) (ae_v 0)) (aa_nil))) (ag_tup (K := K) (ags_cons (ag_name 4 (vs := [4, 5]) sc_Going_at.nd rfl (.inl rfl)) (ags_cons (ag_name 5 (vs := [4, 5]) sc_Going_at.nd rfl (.inl rfl)) (ags_nil))))
      (ass_cons (as_for (ai_tup (K := K) (ae_v 5)) (ag_name 6 (vs := [6]) sc_Going_at.nd rfl (.inl rfl))
      (ass_cons (as_set 7 sc_Going_at.nd (ae_mth (g := ⟨w, mg⟩) c_Going_behind hr hgd (ae_v 0) (aa_cons (ae_v 2) (aa_cons (ae_v 6) (aa_nil)))) rfl (.inl rfl))
      (ass_cons (as_set 8 sc_Going_at.nd (ae_mth (g := ⟨w, mg⟩) c_Going_left hr hgd (ae_v 0) (aa_cons (ae_op (ao_add (K := K)) (ae_v 4) (ae_int)) (aa_cons (ae_v 7) (aa_nil)))) rfl (.inl rfl))
      (ass_cons (as_if (at_cmp ao_lt (ae_v 1) (ae_v 8))
      (ass_one (as_brk))
      (ass_nil))
      (ass_one (as_set 1 sc_Going_at.nd (ae_op ao_sub (ae_v 1) (ae_v 8)) rfl (.inl rfl)))))))
      (ass_cons (as_set 3 sc_Going_at.nd (ae_op (ao_add (K := K)) (ae_v 3) (ae_v 6)) rfl (.inl rfl))
      (ass_one (as_set 2 sc_Going_at.nd (ae_v 7) rfl (.inl rfl))))))
      (ass_one (as_ret (ae_v 3)))))⟩
abbrev st_how_many : Stmt := topS 14
theorem sc_how_many : FnScope ["plan", "one"] ["plan"] (defScope st_how_many) := ⟨rfl, rfl, rfl, by decide +kernel, rfl, by decide +kernel, by decide +kernel⟩
theorem ok_how_many {P : Program} {w : World} {K : PySem.W.Frag} {mg : Str → Option Value} {base : Heap} {f : Addr} {fd : FuncData} (F : L2.Fun K "how_many" "how_many" st_how_many f fd) (hm : mg "how_many" = some (.ref f)) (hb : Binds K fd ["plan"] []) (m_sum : mg "sum" = none) (c_Going_begun : Met' P w K mg base 1 "Going" "begun" 1 s_Going_begun) (c_Going_left : Met' P w K mg base 11 "Going" "left" 3 (s_Going_left 8)) (c_goings : Cal P w K mg base 4 "goings" 1 s_goings) : Cal P w K mg base 12 "how_many" 1 s_how_many := by
  refine calA (b := a_how_many) F sc_how_many rfl hm hb ?_ (fun _ _ _ _ h => h)
  intro cdv A outer s H E hr hgd
  have hw : (Bs.nil ⟨w, mg⟩).g = ⟨w, mg⟩ := rfl
  exact ⟨_, ass_one (as_ret (ae_callB (ac_sum (K := K)) m_sum (by decide +kernel) (aa_cons (ae_lc [("one", 1)] sc_how_many.nd (ai_list (K := K) (ae_call (K := K) (g := ⟨w, mg⟩) c_goings hr hgd (aa_cons (ae_v 0) (aa_nil)))) (blkOk_by (own := [("one", 1)]) (N := ["plan", "one"]) (sc := defScope st_how_many) (by decide +kernel)) (fun _ _ _ _ _ => ag_name 1 (vs := [1]) sc_how_many.nd rfl (.inl rfl)) (fun _ _ _ _ _ => ats_nil) (fun _ _ _ _ _ => ae_mth (g := ⟨w, mg⟩) c_Going_left hr hgd (ae_v 1) (aa_cons (ae_int) (aa_cons (ae_mth0 (g := ⟨w, mg⟩) c_Going_begun hr hgd (ae_v 1)) (aa_nil))))) (aa_nil))))⟩
abbrev st_place : Stmt := topS 15
theorem sc_place : FnScope ["plan", "word", "total", "one", "numbers"] ["plan", "word"] (defScope st_place) := ⟨rfl, rfl, rfl, by decide +kernel, rfl, by decide +kernel, by decide +kernel⟩
theorem ok_place {P : Program} {w : World} {K : PySem.W.Frag} {mg : Str → Option Value} {base : Heap} {f : Addr} {fd : FuncData} (F : L2.Fun K "place" "place" st_place f fd) (hm : mg "place" = some (.ref f)) (hb : Binds K fd ["plan", "word"] []) (k_Going : ClsF K mg "Going" ["step", "earlier", "known"]) (c_parted : Cal P w K mg base 1 "parted" 2 s_parted) (c_Going_begun : Met' P w K mg base 1 "Going" "begun" 1 s_Going_begun) (c_Going_left : Met' P w K mg base 11 "Going" "left" 3 (s_Going_left 8)) (c_goings : Cal P w K mg base 4 "goings" 1 s_goings) (c_Going_ahead : Met' P w K mg base 12 "Going" "ahead" 2 s_Going_ahead) : Cal P w K mg base 13 "place" 2 s_place := by
  refine calA (b := a_place) F sc_place rfl hm hb ?_ (fun _ _ _ _ h => h)
  intro cdv A outer s H E hr hgd
  have hw : (Bs.nil ⟨w, mg⟩).g = ⟨w, mg⟩ := rfl
  exact ⟨_, ass_cons (as_set 2 sc_place.nd (ae_int) rfl (.inl rfl))
      (ass_cons (as_for (ai_list (K := K) (ae_call (K := K) (g := ⟨w, mg⟩) c_goings hr hgd (aa_cons (ae_v 0) (aa_nil)))) (ag_name 3 (vs := [3]) sc_place.nd rfl (.inl rfl))
      (ass_cons (as_set 4 sc_place.nd (ae_call (K := K) (g := ⟨w, mg⟩) c_parted hr hgd (aa_cons (ae_fld (g := ⟨w, mg⟩) k_Going (by decide +kernel) (ae_v 3)) (aa_cons (ae_v 1) (aa_nil)))) rfl (.inl rfl))
      (ass_cons (as_if (at_cmp ao_isnot (ae_v 4) (ae_non))
      (ass_one (as_ret (ae_op (ao_add (K := K)) (ae_v 2) (ae_mth (g := ⟨w, mg⟩) c_Going_ahead hr hgd (ae_v 3) (aa_cons (ae_v 4) (aa_nil))))))
      (ass_nil))
      (ass_one (as_set 2 sc_place.nd (ae_op (ao_add (K := K)) (ae_v 2) (ae_mth (g := ⟨w, mg⟩) c_Going_left hr hgd (ae_v 3) (aa_cons (ae_int) (aa_cons (ae_mth0 (g := ⟨w, mg⟩) c_Going_begun hr hgd (ae_v 3)) (aa_nil))))) rfl (.inl rfl))))))
      (ass_one (as_ret (ae_non))))⟩
abbrev st_try_at : Stmt := topS 16
theorem sc_try_at : FnScope ["plan", "number", "one", "many"] ["plan", "number"] (defScope st_try_at) := ⟨rfl, rfl, rfl, by decide +kernel, rfl, by decide +kernel, by decide +kernel⟩
theorem ok_try_at {P : Program} {w : World} {K : PySem.W.Frag} {mg : Str → Option Value} {base : Heap} {f : Addr} {fd : FuncData} (F : L2.Fun K "try_at" "try_at" st_try_at f fd) (hm : mg "try_at" = some (.ref f)) (hb : Binds K fd ["plan", "number"] []) (e_NoNumber : ExcF K mg "NoNumber") (c_is_whole : Cal P w K mg base 1 "is_whole" 1 s_is_whole) (c_Going_begun : Met' P w K mg base 1 "Going" "begun" 1 s_Going_begun) (c_Going_left : Met' P w K mg base 11 "Going" "left" 3 (s_Going_left 8)) (c_goings : Cal P w K mg base 4 "goings" 1 s_goings) (c_Going_at : Met' P w K mg base 12 "Going" "at" 2 s_Going_at) : CalX P w K mg base 13 "try_at" 2 s_try_at := by
  refine calX (b := a_try_at) F sc_try_at rfl hm hb ?_ (fun _ _ _ _ _ h => h)
  intro B hw W Wk cdv A outer s H E hr hgd tk rel hp
  exact ⟨_, ass_cons (AS.nox (as_if (aw_t (aw_or (at_not (at_tru (K := K) (ae_call (K := K) (g := ⟨w, mg⟩) c_is_whole hr hgd (aa_cons (ae_v 1) (aa_nil))))) (aw_or1 (at_cmp ao_lt (ae_v 1) (ae_int)))))
      (ass_one (as_no))
      (ass_nil)))
      (ass_cons (AS.nox (as_for (ai_list (K := K) (ae_call (K := K) (g := ⟨w, mg⟩) c_goings hr hgd (aa_cons (ae_v 0) (aa_nil)))) (ag_name 2 (vs := [2]) sc_try_at.nd rfl (.inl rfl))
      (ass_cons (as_set 3 sc_try_at.nd (ae_mth (g := ⟨w, mg⟩) c_Going_left hr hgd (ae_v 2) (aa_cons (ae_int) (aa_cons (ae_mth0 (g := ⟨w, mg⟩) c_Going_begun hr hgd (ae_v 2)) (aa_nil)))) rfl (.inl rfl))
      (ass_cons (as_if (at_cmp ao_lt (ae_v 1) (ae_v 3))
      (ass_one (as_ret (ae_mth (g := ⟨w, mg⟩) c_Going_at hr hgd (ae_v 2) (aa_cons (ae_v 1) (aa_nil)))))
      (ass_nil))
      (ass_one (as_set 1 sc_try_at.nd (ae_op ao_sub (ae_v 1) (ae_v 3)) rfl (.inl rfl)))))))
      (ass_one (as_raise e_NoNumber tk rel)))⟩
abbrev st_law_beyond : Stmt := topS 33
theorem sc_law_beyond : FnScope ["_law_plan_here", "_law_number", "_law_caught", "e"] ["_law_plan_here", "_law_number"] (defScope st_law_beyond) := ⟨rfl, rfl, rfl, by decide +kernel, rfl, by decide +kernel, by decide +kernel⟩
theorem ok_law_beyond {P : Program} {w : World} {K : PySem.W.Frag} {mg : Str → Option Value} {base : Heap} {f : Addr} {fd : FuncData} (F : L2.Fun K "_law_beyond" "_law_beyond" st_law_beyond f fd) (hm : mg "_law_beyond" = some (.ref f)) (hb : Binds K fd ["_law_plan_here", "_law_number"] []) (m_isinstance : mg "isinstance" = none) {C_WordError : Value} (h_WordError : mg "WordError" = some C_WordError) (sf : SubF K mg subE) {R_NoNumber : Addr} (q_NoNumber : mg "NoNumber" = some (.ref R_NoNumber)) (isf : IsF K mg isubE) (c_try_at : CalX P w K mg base 13 "try_at" 2 s_try_at) : Cal P w K mg base 14 "_law_beyond" 2 s_law_beyond := by
  refine calA (b := a_law_beyond) F sc_law_beyond rfl hm hb ?_ (fun _ _ _ _ h => h)
  intro cdv A outer s H E hr hgd
  have hw : (Bs.nil ⟨w, mg⟩).g = ⟨w, mg⟩ := rfl
  exact ⟨_, ass_cons (as_set 2 sc_law_beyond.nd (ae_non) rfl (.inl rfl))
      (ass_cons (as_tryA (sub := subE) sc_law_beyond.nd rfl rfl takes_no wr_no sf hw (fun B' hw W Wk pn xe tk rel hp => ass_one (as_expr (ae_callX (g := ⟨w, mg⟩) c_try_at hr hgd tk rel (aa_cons (ae_v 0) (aa_cons (ae_v 1) (aa_nil)))))) (.cons h_WordError rfl (by decide) rfl rfl (fun B' hw a pn => ass_one (as_set 2 sc_law_beyond.nd (ae_v 3) rfl (.inl rfl))) (.nil)))
      (ass_one (as_ret (ae_isX (ae_v 2) (ac_own q_NoNumber) m_isinstance isf))))⟩
abbrev st_law_next_right : Stmt := topS 34
theorem sc_law_next_right : FnScope ["_law_plan_here", "_law_number", "_law_many", "_law_spot_here", "_law_coming"] ["_law_plan_here", "_law_number", "_law_many", "_law_spot_here"] (defScope st_law_next_right) := ⟨rfl, rfl, rfl, by decide +kernel, rfl, by decide +kernel, by decide +kernel⟩
theorem ok_law_next_right {P : Program} {w : World} {K : PySem.W.Frag} {mg : Str → Option Value} {base : Heap} {f : Addr} {fd : FuncData} (F : L2.Fun K "_law_next_right" "_law_next_right" st_law_next_right f fd) (hm : mg "_law_next_right" = some (.ref f)) (hb : Binds K fd ["_law_plan_here", "_law_number", "_law_many", "_law_spot_here"] []) (c_law_word : Cal P w K mg base 1 "_law_word" 2 s_law_word) (c_law_behind : Cal P w K mg base 2 "_law_behind" 2 s_law_behind) (c_law_fresh : Cal P w K mg base 3 "_law_fresh" 3 s_law_fresh) (c_try_at : CalX P w K mg base 13 "try_at" 2 s_try_at) : CalX P w K mg base 14 "_law_next_right" 4 s_law_next_right := by
  refine calX (b := a_law_next_right) F sc_law_next_right rfl hm hb ?_ (fun _ _ _ _ _ h => h)
  intro B hw W Wk cdv A outer s H E hr hgd tk rel hp
  exact ⟨_, ass_cons (AS.nox (as_set 4 sc_law_next_right.nd (ae_call (K := K) (g := ⟨w, mg⟩) c_law_fresh hr hgd (aa_cons (ae_v 0) (aa_cons (ae_call (K := K) (g := ⟨w, mg⟩) c_law_behind hr hgd (aa_cons (ae_v 0) (aa_cons (ae_v 3) (aa_nil)))) (aa_cons (ae_int) (aa_nil))))) rfl (.inl rfl)))
      (ass_cons (AS.nox (as_if (at_cmp (ao_eq (K := K) hr.units) (ae_v 4) (ae_int))
      (ass_one (as_ret (ae_bl)))
      (ass_nil)))
      (ass_cons (AS.nox (as_if (at_cmp ao_is (ae_v 4) (ae_non))
      (ass_one (as_ret (ae_cmp (ao_eq (K := K) hr.units) (ae_v 1) (ae_op ao_sub (ae_v 2) (ae_int)))))
      (ass_nil)))
      (ass_one (as_ret (ae_and (K := K) (ae_cmp ao_lt (ae_v 1) (ae_op ao_sub (ae_v 2) (ae_int))) (ae_one (ae_cmp (ao_eq (K := K) hr.units) (ae_callX (g := ⟨w, mg⟩) c_try_at hr hgd tk rel (aa_cons (ae_v 0) (aa_cons (ae_op (ao_add (K := K)) (ae_v 1) (ae_int)) (aa_nil)))) (ae_call (K := K) (g := ⟨w, mg⟩) c_law_word hr hgd (aa_cons (ae_v 0) (aa_cons (ae_v 4) (aa_nil)))))))))))⟩
abbrev st_law_first_right : Stmt := topS 35
theorem sc_law_first_right : FnScope ["_law_plan_here", "_law_many", "_law_sizes", "_law_firsts", "_law_step_here", "_law_k", "_law_size_here"] ["_law_plan_here", "_law_many"] (defScope st_law_first_right) := ⟨rfl, rfl, rfl, by decide +kernel, rfl, by decide +kernel, by decide +kernel⟩
theorem ok_law_first_right {P : Program} {w : World} {K : PySem.W.Frag} {mg : Str → Option Value} {base : Heap} {f : Addr} {fd : FuncData} (F : L2.Fun K "_law_first_right" "_law_first_right" st_law_first_right f fd) (hm : mg "_law_first_right" = some (.ref f)) (hb : Binds K fd ["_law_plan_here", "_law_many"] []) (m_enumerate : mg "enumerate" = none) (m_len : mg "len" = none) (m_max : mg "max" = none) (m_sum : mg "sum" = none) (c_law_size : Cal P w K mg base 1 "_law_size" 1 s_law_size) (c_law_word : Cal P w K mg base 1 "_law_word" 2 s_law_word) (c_try_at : CalX P w K mg base 13 "try_at" 2 s_try_at) : CalX P w K mg base 14 "_law_first_right" 2 s_law_first_right := by
  refine calX (b := a_law_first_right) F sc_law_first_right rfl hm hb ?_ (fun _ _ _ _ _ h => h)
  intro B hw W Wk cdv A outer s H E hr hgd tk rel hp
  exact ⟨_, ass_cons (AS.nox (as_setLc 2 [("_law_step_here", 4)] sc_law_first_right.nd (ai_tup (K := K) (ae_v 0)) (sw_true rfl rfl rfl (by decide +kernel)) (blkOk_by (own := [("_law_step_here", 4)]) (N := ["_law_plan_here", "_law_many", "_law_sizes", "_law_firsts", "_law_step_here", "_law_k", "_law_size_here"]) (sc := defScope st_law_first_right) (by decide +kernel)) (fun _ _ _ _ _ => ag_name 4 (vs := [4]) sc_law_first_right.nd rfl (.inl rfl)) (fun _ _ _ _ _ => ats_nil) (fun _ _ _ _ _ => ae_call (K := K) (g := ⟨w, mg⟩) c_law_size hr hgd (aa_cons (ae_v 4) (aa_nil)))))
      (ass_cons (AS.nox (as_setLc 3 [("_law_k", 5), ("_law_size_here", 6)] sc_law_first_right.nd (ai_enum (K := K) m_enumerate (aa_cons (ae_v 2) (aa_nil))) (sw_true rfl rfl rfl (by decide +kernel)) (blkOk_by (own := [("_law_k", 5), ("_law_size_here", 6)]) (N := ["_law_plan_here", "_law_many", "_law_sizes", "_law_firsts", "_law_step_here", "_law_k", "_law_size_here"]) (sc := defScope st_law_first_right) (by decide +kernel)) (fun _ _ _ _ _ => ag_tup (K := K) (ags_cons (ag_name 5 (vs := [5, 6]) sc_law_first_right.nd rfl (.inl rfl)) (ags_cons (ag_name 6 (vs := [5, 6]) sc_law_first_right.nd rfl (.inl rfl)) (ags_nil)))) (fun _ _ _ _ _ => ats_one (at_cmp ao_gt (ae_v 6) (ae_int))) (fun _ _ _ _ _ => ae_v 5)))
      (ass_cons (AS.nox (as_if (at_cmp (ao_eqNil (K := K) hr.units) (ae_v 3) (ae_lst (aa_nil)))
      (ass_one (as_ret (ae_cmp (ao_eq (K := K) hr.units) (ae_v 1) (ae_int))))
      (ass_nil)))
      (ass_cons (AS.nox (as_if (at_not (at_chain ao_le ao_le (ae_callB (ac_maxL (K := K)) m_max (by decide +kernel) (aa_cons (ae_v 2) (aa_nil))) (ae_v 1) (ae_callB (ac_sum (K := K)) m_sum (by decide +kernel) (aa_cons (ae_v 2) (aa_nil)))))
      (ass_one (as_ret (ae_bl)))
      (ass_nil)))
      (ass_one (as_ret (ae_cmp (ao_eq (K := K) hr.units) (ae_callX (g := ⟨w, mg⟩) c_try_at hr hgd tk rel (aa_cons (ae_v 0) (aa_cons (ae_int) (aa_nil)))) (ae_call (K := K) (g := ⟨w, mg⟩) c_law_word hr hgd (aa_cons (ae_v 0) (aa_cons (ae_tup (aa_cons (ae_ix (K := K) (ae_v 3) (ae_int)) (aa_cons (ae_op ao_repL (ae_lst (aa_cons (ae_int) (aa_nil))) (ae_callB (ac_len (K := K)) m_len (by decide +kernel) (aa_cons (ae_ix (K := K) (ae_v 0) (ae_ix (K := K) (ae_v 3) (ae_int))) (aa_nil)))) (aa_nil)))) (aa_nil))))))))))⟩
abbrev st_law : Stmt := topS 36
theorem sc_law : FnScope ["_law_script", "_law_k", "_law_pen_here", "_law_tongue_here", "_law_most", "_law_plan_here", "_law_many", "_law_number", "_law_word_here", "_law_spot_here"] ["_law_script"] (defScope st_law) := ⟨rfl, rfl, rfl, by decide +kernel, rfl, by decide +kernel, by decide +kernel⟩
theorem okF_law {P : Program} {w : World} {K : PySem.W.Frag} {mg : Str → Option Value} {base : Heap} {f : Addr} {fd : FuncData} (F : L2.Fun K "law" "law" st_law f fd) (m_bool : mg "bool" = none) (m_int : mg "int" = none) (m_isinstance : mg "isinstance" = none) (m_len : mg "len" = none) (m_max : mg "max" = none) (m_range : mg "range" = none) (c_law_pen : Cal P w K mg base 1 "_law_pen" 2 s_law_pen) (c_law_draw : Cal P w K mg base 1 "_law_draw" 2 s_law_draw) (c_law_word : Cal P w K mg base 1 "_law_word" 2 s_law_word) (c_law_tongue : Cal P w K mg base 2 "_law_tongue" 2 s_law_tongue) (c_law_spot : Cal P w K mg base 2 "_law_spot" 2 s_law_spot) (c_law_plan : Cal P w K mg base 5 "_law_plan" 5 s_law_plan) (c_how_many : Cal P w K mg base 12 "how_many" 1 s_how_many) (c_place : Cal P w K mg base 13 "place" 2 s_place) (c_try_at : CalX P w K mg base 13 "try_at" 2 s_try_at) (c_law_beyond : Cal P w K mg base 14 "_law_beyond" 2 s_law_beyond) (c_law_next_right : CalX P w K mg base 14 "_law_next_right" 4 s_law_next_right) (c_law_first_right : CalX P w K mg base 14 "_law_first_right" 2 s_law_first_right) : FnG P w K mg base 15 f fd ["_law_script"] (spOf ⟨w, mg⟩ K 1 s_law) := by
  refine fnA (b := a_law) F sc_law ?_ (fun _ _ _ _ h => h)
  intro cdv A outer s H E hr hgd
  have hw : (Bs.nil ⟨w, mg⟩).g = ⟨w, mg⟩ := rfl
  have tk : Takes (cxOf (L2.CX P w) P w K mg base ["_law_script", "_law_k", "_law_pen_here", "_law_tongue_here", "_law_most", "_law_plan_here", "_law_many", "_law_number", "_law_word_here", "_law_spot_here"] "law" (defScope st_law) f cdv A outer s H E).nox (fun _ _ _ _ => False) := takes_no
  have rel : WR (Bs.nil ⟨w, mg⟩) K mg (fun _ _ _ => False) (fun _ _ _ _ => False) := wr_no
  unfold a_law a_lawW
  exact ⟨_, ass_cons (as_for (ai_range1 m_range (aa_cons (ae_int) (aa_nil))) (ag_name 1 (vs := [1]) sc_law.nd rfl (.inl rfl))
      (ass_cons (AS.nox (as_set 2 sc_law.nd (ae_call (K := K) (g := ⟨w, mg⟩) c_law_pen hr hgd (aa_cons (ae_v 0) (aa_cons (ae_v 1) (aa_nil)))) rfl (.inl rfl)))
      (ass_cons (AS.nox (as_set 3 sc_law.nd (ae_call (K := K) (g := ⟨w, mg⟩) c_law_tongue hr hgd (aa_cons (ae_v 2) (aa_cons (ae_int) (aa_nil)))) rfl (.inl rfl)))
      (ass_cons (AS.nox (as_set 4 sc_law.nd (ae_ix (K := K) (ae_lst (aa_cons (ae_int) (aa_cons (ae_int) (aa_cons (ae_int) (aa_cons (ae_int) (aa_nil)))))) (ae_op ao_mul (ae_call (K := K) (g := ⟨w, mg⟩) c_law_draw hr hgd (aa_cons (ae_v 2) (aa_cons (ae_int) (aa_nil)))) (ae_callT ac_int m_int (by decide +kernel) (aa_cons (ae_cmp ao_gt (ae_callB (ac_len (K := K)) m_len (by decide +kernel) (aa_cons (ae_meth (K := K) PySem.F.plainAttrs_str PySem.F.slot_str_join PySem.F.type_str_join (am_join (K := K)) (ae_str) (aa_cons (ae_v 3) (aa_nil))) (aa_nil))) (ae_int)) (aa_nil))))) rfl (.inl rfl)))
      (ass_cons (AS.nox (as_set 5 sc_law.nd (ae_call (K := K) (g := ⟨w, mg⟩) c_law_plan hr hgd (aa_cons (ae_v 2) (aa_cons (ae_v 3) (aa_cons (ae_int) (aa_cons (ae_v 4) (aa_cons (ae_int) (aa_nil))))))) rfl (.inl rfl)))
      (ass_cons (AS.nox (as_set 6 sc_law.nd (ae_call (K := K) (g := ⟨w, mg⟩) c_how_many hr hgd (aa_cons (ae_v 5) (aa_nil))) rfl (.inl rfl)))
      (ass_cons (as_if (aw_t (aw_or (at_not (at_tru (K := K) (ae_isi (K := K) (ae_v 6) m_isinstance m_int (by decide +kernel)))) (aw_or (at_tru (K := K) (ae_isi (K := K) (ae_v 6) m_isinstance m_bool (by decide +kernel))) (aw_or1 (at_not (at_tru (K := K) (ae_callX (g := ⟨w, mg⟩) c_law_first_right hr hgd tk rel (aa_cons (ae_v 5) (aa_cons (ae_v 6) (aa_nil))))))))))
      (ass_one (AS.nox (as_ret (ae_bl))))
      (ass_nil))
      (ass_cons (AS.nox (as_if (at_not (at_tru (K := K) (ae_call (K := K) (g := ⟨w, mg⟩) c_law_beyond hr hgd (aa_cons (ae_v 5) (aa_cons (ae_v 6) (aa_nil))))))
      (ass_one (as_ret (ae_bl)))
      (ass_nil)))
      (ass_one (as_for (ai_list (K := K) (ae_lst (aa_cons (ae_call (K := K) (g := ⟨w, mg⟩) c_law_draw hr hgd (aa_cons (ae_v 2) (aa_cons (ae_callB ac_max2 m_max (by decide +kernel) (aa_cons (ae_int) (aa_cons (ae_v 6) (aa_nil)))) (aa_nil)))) (aa_cons (ae_call (K := K) (g := ⟨w, mg⟩) c_law_draw hr hgd (aa_cons (ae_v 2) (aa_cons (ae_callB ac_max2 m_max (by decide +kernel) (aa_cons (ae_int) (aa_cons (ae_v 6) (aa_nil)))) (aa_nil)))) (aa_cons (ae_op ao_sub (ae_v 6) (ae_int)) (aa_nil)))))) (ag_name 7 (vs := [7]) sc_law.nd rfl (.inl rfl))
      (ass_one (as_if (AT.nox (at_cmp ao_gt (ae_v 6) (ae_int)))
      (ass_cons (as_set 8 sc_law.nd (ae_callX (g := ⟨w, mg⟩) c_try_at hr hgd tk rel (aa_cons (ae_v 5) (aa_cons (ae_v 7) (aa_nil)))) rfl (.inl rfl))
      (ass_cons (AS.nox (as_set 9 sc_law.nd (ae_call (K := K) (g := ⟨w, mg⟩) c_law_spot hr hgd (aa_cons (ae_v 5) (aa_cons (ae_v 8) (aa_nil)))) rfl (.inl rfl)))
      (ass_cons (AS.nox (as_if (aw_t (aw_or (at_cmp ao_is (ae_v 9) (ae_non)) (aw_or (at_cmp (ao_ne (K := K) hr.units) (ae_call (K := K) (g := ⟨w, mg⟩) c_law_word hr hgd (aa_cons (ae_v 5) (aa_cons (ae_v 9) (aa_nil)))) (ae_v 8)) (aw_or1 (at_cmp (ao_ne (K := K) hr.units) (ae_call (K := K) (g := ⟨w, mg⟩) c_place hr hgd (aa_cons (ae_v 5) (aa_cons (ae_v 8) (aa_nil)))) (ae_v 7))))))
      (ass_one (as_ret (ae_bl)))
      (ass_nil)))
      (ass_one (as_if (at_not (at_tru (K := K) (ae_callX (g := ⟨w, mg⟩) c_law_next_right hr hgd tk rel (aa_cons (ae_v 5) (aa_cons (ae_v 7) (aa_cons (ae_v 6) (aa_cons (ae_v 9) (aa_nil))))))))
      (ass_one (AS.nox (as_ret (ae_bl))))
      (ass_nil))))))
      (ass_nil)))))))))))))
      (ass_one (AS.nox (as_ret (ae_bl))))⟩
theorem all_mk {l : PySem.W.OpenLaw} {w : World} {K : PySem.W.Frag} {h : Heap} {mg : Str → Option Value} {fa f1 f2 f3 f4 f5 f6 f7 f8 f9 f10 f11 f12 f13 f14 f15 f16 f17 f18 f19 f20 f21 f22 f23 f24 f25 f26 f27 f28 f29 f30 f31 f32 f33 f34 f35 f36 : Addr} (X : K.In h) (G : h.Ns mainGlobals mg) (hfa : mg "law" = some (.ref fa))
    {od1 an1 od2 an2 od3 an3 od4 an4 od5 an5 od6 an6 od7 an7 od8 an8 od9 an9 od10 an10 od11 an11 od12 an12 od13 an13 od14 an14 od15 an15 od16 an16 od17 an17 od18 an18 od19 an19 od20 an20 od21 an21 od22 an22 od23 an23 od24 an24 od25 an25 od26 an26 od27 an27 od28 an28 od29 an29 od30 an30 od31 an31 od32 an32 od33 an33 od34 an34 od35 an35 od36 an36 : Option Addr} {sl1 sl2 sl3 sl4 sl5 sl6 sl7 sl8 sl9 sl10 sl11 sl12 sl13 sl14 sl15 sl16 sl17 sl18 sl19 sl20 sl21 sl22 sl23 sl24 sl25 sl26 sl27 sl28 sl29 sl30 sl31 sl32 sl33 sl34 sl35 sl36 : Array (Option Value)} {oc1 kV1 dc1 pm1 cd1 ct1 oc2 kV2 dc2 pm2 cd2 ct2 oc3 kV3 dc3 pm3 cd3 ct3 oc4 kV4 dc4 pm4 cd4 ct4 oc5 kV5 dc5 pm5 cd5 ct5 oc6 kV6 dc6 pm6 cd6 ct6 oc7 kV7 dc7 pm7 cd7 ct7 oc8 kV8 dc8 pm8 cd8 ct8 oc9 kV9 dc9 pm9 cd9 ct9 oc10 kV10 dc10 pm10 cd10 ct10 oc11 kV11 dc11 pm11 cd11 ct11 oc12 kV12 dc12 pm12 cd12 ct12 oc13 kV13 dc13 pm13 cd13 ct13 oc14 kV14 dc14 pm14 cd14 ct14 oc15 kV15 dc15 pm15 cd15 ct15 oc16 kV16 dc16 pm16 cd16 ct16 oc17 kV17 dc17 pm17 cd17 ct17 oc18 kV18 dc18 pm18 cd18 ct18 oc19 kV19 dc19 pm19 cd19 ct19 oc20 kV20 dc20 pm20 cd20 ct20 oc21 kV21 dc21 pm21 cd21 ct21 oc22 kV22 dc22 pm22 cd22 ct22 oc23 kV23 dc23 pm23 cd23 ct23 oc24 kV24 dc24 pm24 cd24 ct24 oc25 kV25 dc25 pm25 cd25 ct25 oc26 kV26 dc26 pm26 cd26 ct26 oc27 kV27 dc27 pm27 cd27 ct27 oc28 kV28 dc28 pm28 cd28 ct28 oc29 kV29 dc29 pm29 cd29 ct29 oc30 kV30 dc30 pm30 cd30 ct30 oc31 kV31 dc31 pm31 cd31 ct31 oc32 kV32 dc32 pm32 cd32 ct32 oc33 kV33 dc33 pm33 cd33 ct33 oc34 kV34 dc34 pm34 cd34 ct34 oc35 kV35 dc35 pm35 cd35 ct35 oc36 kV36 dc36 pm36 cd36 ct36 : Value}
    {CG0 : Addr}
    (ca0 : PySem.W.nsIn K mainGlobals "Going" = some (some (.ref CG0))) (cp0 : PySem.W.plainGet K CG0 Str.empty = true) (ch0 : PySem.W.hasDictIn K CG0 = true) (co0 : PySem.W.plainOver K CG0 = true) (cs0 : PySem.W.findIn K (.ref CG0) "__setattr__" = some (some (.builtin "object.__setattr__"))) (cm0 : PySem.W.makesIn K CG0 = true) (ck0 : PySem.W.keepIn K (.ref CG0) = true)
    (cn0_0 : PySem.W.findIn K (.ref CG0) "step" = some none)    (cn0_1 : PySem.W.findIn K (.ref CG0) "earlier" = some none)    (cn0_2 : PySem.W.findIn K (.ref CG0) "known" = some none)
    (a1 : PySem.W.nsIn K mainGlobals "is_whole" = some (some (.ref f1))) (l1 : K.lookup f1 = some ⟨oc1, od1, .func (PySem.W.fnOf "is_whole" "is_whole" (defArgs st_is_whole) (defBody st_is_whole) (defScope st_is_whole) .none kV1 dc1 pm1 an1 cd1 ct1), sl1⟩) (c1 : PySem.W.codeIn K cd1 "is_whole" = true) (k1 : PySem.W.keepIn K (.ref f1) = true)
    (a2 : PySem.W.nsIn K mainGlobals "size_of" = some (some (.ref f2))) (l2 : K.lookup f2 = some ⟨oc2, od2, .func (PySem.W.fnOf "size_of" "size_of" (defArgs st_size_of) (defBody st_size_of) (defScope st_size_of) .none kV2 dc2 pm2 an2 cd2 ct2), sl2⟩) (c2 : PySem.W.codeIn K cd2 "size_of" = true) (k2 : PySem.W.keepIn K (.ref f2) = true)
    (a3 : PySem.W.nsIn K mainGlobals "marks_of" = some (some (.ref f3))) (l3 : K.lookup f3 = some ⟨oc3, od3, .func (PySem.W.fnOf "marks_of" "marks_of" (defArgs st_marks_of) (defBody st_marks_of) (defScope st_marks_of) .none kV3 dc3 pm3 an3 cd3 ct3), sl3⟩) (c3 : PySem.W.codeIn K cd3 "marks_of" = true) (k3 : PySem.W.keepIn K (.ref f3) = true)
    (a4 : PySem.W.nsIn K mainGlobals "went" = some (some (.ref f4))) (l4 : K.lookup f4 = some ⟨oc4, od4, .func (PySem.W.fnOf "went" "went" (defArgs st_went) (defBody st_went) (defScope st_went) .none kV4 dc4 pm4 an4 cd4 ct4), sl4⟩) (c4 : PySem.W.codeIn K cd4 "went" = true) (k4 : PySem.W.keepIn K (.ref f4) = true)
    (a5 : PySem.W.nsIn K mainGlobals "is_made" = some (some (.ref f5))) (l5 : K.lookup f5 = some ⟨oc5, od5, .func (PySem.W.fnOf "is_made" "is_made" (defArgs st_is_made) (defBody st_is_made) (defScope st_is_made) .none kV5 dc5 pm5 an5 cd5 ct5), sl5⟩) (c5 : PySem.W.codeIn K cd5 "is_made" = true) (k5 : PySem.W.keepIn K (.ref f5) = true)
    (a6 : PySem.W.nsIn K mainGlobals "parted" = some (some (.ref f6))) (l6 : K.lookup f6 = some ⟨oc6, od6, .func (PySem.W.fnOf "parted" "parted" (defArgs st_parted) (defBody st_parted) (defScope st_parted) .none kV6 dc6 pm6 an6 cd6 ct6), sl6⟩) (c6 : PySem.W.codeIn K cd6 "parted" = true) (k6 : PySem.W.keepIn K (.ref f6) = true)
    (a7 : PySem.W.findIn K (.ref CG0) "begun" = some (some (.ref f7))) (i7 : PySem.W.isFn K (.ref f7) = true) (l7 : K.lookup f7 = some ⟨oc7, od7, .func (PySem.W.fnOf "begun" "Going.begun" (defArgs st_Going_begun) (defBody st_Going_begun) (defScope st_Going_begun) .none kV7 dc7 pm7 an7 cd7 ct7), sl7⟩) (c7 : PySem.W.codeIn K cd7 "Going.begun" = true) (k7 : PySem.W.keepIn K (.ref f7) = true)
    (a8 : PySem.W.nsIn K mainGlobals "_law_pen" = some (some (.ref f8))) (l8 : K.lookup f8 = some ⟨oc8, od8, .func (PySem.W.fnOf "_law_pen" "_law_pen" (defArgs st_law_pen) (defBody st_law_pen) (defScope st_law_pen) .none kV8 dc8 pm8 an8 cd8 ct8), sl8⟩) (c8 : PySem.W.codeIn K cd8 "_law_pen" = true) (k8 : PySem.W.keepIn K (.ref f8) = true)
    (a9 : PySem.W.nsIn K mainGlobals "_law_draw" = some (some (.ref f9))) (l9 : K.lookup f9 = some ⟨oc9, od9, .func (PySem.W.fnOf "_law_draw" "_law_draw" (defArgs st_law_draw) (defBody st_law_draw) (defScope st_law_draw) .none kV9 dc9 pm9 an9 cd9 ct9), sl9⟩) (c9 : PySem.W.codeIn K cd9 "_law_draw" = true) (k9 : PySem.W.keepIn K (.ref f9) = true)
    (a10 : PySem.W.nsIn K mainGlobals "_law_merged" = some (some (.ref f10))) (l10 : K.lookup f10 = some ⟨oc10, od10, .func (PySem.W.fnOf "_law_merged" "_law_merged" (defArgs st_law_merged) (defBody st_law_merged) (defScope st_law_merged) .none kV10 dc10 pm10 an10 cd10 ct10), sl10⟩) (c10 : PySem.W.codeIn K cd10 "_law_merged" = true) (k10 : PySem.W.keepIn K (.ref f10) = true)
    (a11 : PySem.W.nsIn K mainGlobals "_law_numbers" = some (some (.ref f11))) (l11 : K.lookup f11 = some ⟨oc11, od11, .func (PySem.W.fnOf "_law_numbers" "_law_numbers" (defArgs st_law_numbers) (defBody st_law_numbers) (defScope st_law_numbers) .none kV11 dc11 pm11 an11 cd11 ct11), sl11⟩) (c11 : PySem.W.codeIn K cd11 "_law_numbers" = true) (k11 : PySem.W.keepIn K (.ref f11) = true)
    (a12 : PySem.W.nsIn K mainGlobals "_law_size" = some (some (.ref f12))) (l12 : K.lookup f12 = some ⟨oc12, od12, .func (PySem.W.fnOf "_law_size" "_law_size" (defArgs st_law_size) (defBody st_law_size) (defScope st_law_size) .none kV12 dc12 pm12 an12 cd12 ct12), sl12⟩) (c12 : PySem.W.codeIn K cd12 "_law_size" = true) (k12 : PySem.W.keepIn K (.ref f12) = true)
    (a13 : PySem.W.nsIn K mainGlobals "_law_word" = some (some (.ref f13))) (l13 : K.lookup f13 = some ⟨oc13, od13, .func (PySem.W.fnOf "_law_word" "_law_word" (defArgs st_law_word) (defBody st_law_word) (defScope st_law_word) .none kV13 dc13 pm13 an13 cd13 ct13), sl13⟩) (c13 : PySem.W.codeIn K cd13 "_law_word" = true) (k13 : PySem.W.keepIn K (.ref f13) = true)
    (a14 : PySem.W.findIn K (.ref CG0) "__init__" = some (some (.ref f14))) (i14 : PySem.W.isFn K (.ref f14) = true) (l14 : K.lookup f14 = some ⟨oc14, od14, .func (PySem.W.fnOf "__init__" "Going.__init__" (defArgs st_Going___init__) (defBody st_Going___init__) (defScope st_Going___init__) .none kV14 dc14 pm14 an14 cd14 ct14), sl14⟩) (c14 : PySem.W.codeIn K cd14 "Going.__init__" = true) (k14 : PySem.W.keepIn K (.ref f14) = true)
    (a15 : PySem.W.findIn K (.ref CG0) "behind" = some (some (.ref f15))) (i15 : PySem.W.isFn K (.ref f15) = true) (l15 : K.lookup f15 = some ⟨oc15, od15, .func (PySem.W.fnOf "behind" "Going.behind" (defArgs st_Going_behind) (defBody st_Going_behind) (defScope st_Going_behind) .none kV15 dc15 pm15 an15 cd15 ct15), sl15⟩) (c15 : PySem.W.codeIn K cd15 "Going.behind" = true) (k15 : PySem.W.keepIn K (.ref f15) = true)
    (a16 : PySem.W.findIn K (.ref CG0) "is_new" = some (some (.ref f16))) (i16 : PySem.W.isFn K (.ref f16) = true) (l16 : K.lookup f16 = some ⟨oc16, od16, .func (PySem.W.fnOf "is_new" "Going.is_new" (defArgs st_Going_is_new) (defBody st_Going_is_new) (defScope st_Going_is_new) .none kV16 dc16 pm16 an16 cd16 ct16), sl16⟩) (c16 : PySem.W.codeIn K cd16 "Going.is_new" = true) (k16 : PySem.W.keepIn K (.ref f16) = true)
    (a17 : PySem.W.nsIn K mainGlobals "_law_tongue" = some (some (.ref f17))) (l17 : K.lookup f17 = some ⟨oc17, od17, .func (PySem.W.fnOf "_law_tongue" "_law_tongue" (defArgs st_law_tongue) (defBody st_law_tongue) (defScope st_law_tongue) .none kV17 dc17 pm17 an17 cd17 ct17), sl17⟩) (c17 : PySem.W.codeIn K cd17 "_law_tongue" = true) (k17 : PySem.W.keepIn K (.ref f17) = true)
    (a18 : PySem.W.nsIn K mainGlobals "_law_text" = some (some (.ref f18))) (l18 : K.lookup f18 = some ⟨oc18, od18, .func (PySem.W.fnOf "_law_text" "_law_text" (defArgs st_law_text) (defBody st_law_text) (defScope st_law_text) .none kV18 dc18 pm18 an18 cd18 ct18), sl18⟩) (c18 : PySem.W.codeIn K cd18 "_law_text" = true) (k18 : PySem.W.keepIn K (.ref f18) = true)
    (a19 : PySem.W.nsIn K mainGlobals "_law_spot" = some (some (.ref f19))) (l19 : K.lookup f19 = some ⟨oc19, od19, .func (PySem.W.fnOf "_law_spot" "_law_spot" (defArgs st_law_spot) (defBody st_law_spot) (defScope st_law_spot) .none kV19 dc19 pm19 an19 cd19 ct19), sl19⟩) (c19 : PySem.W.codeIn K cd19 "_law_spot" = true) (k19 : PySem.W.keepIn K (.ref f19) = true)
    (a20 : PySem.W.nsIn K mainGlobals "_law_behind" = some (some (.ref f20))) (l20 : K.lookup f20 = some ⟨oc20, od20, .func (PySem.W.fnOf "_law_behind" "_law_behind" (defArgs st_law_behind) (defBody st_law_behind) (defScope st_law_behind) .none kV20 dc20 pm20 an20 cd20 ct20), sl20⟩) (c20 : PySem.W.codeIn K cd20 "_law_behind" = true) (k20 : PySem.W.keepIn K (.ref f20) = true)
    (a21 : PySem.W.findIn K (.ref CG0) "left" = some (some (.ref f21))) (i21 : PySem.W.isFn K (.ref f21) = true) (l21 : K.lookup f21 = some ⟨oc21, od21, .func (PySem.W.fnOf "left" "Going.left" (defArgs st_Going_left) (defBody st_Going_left) (defScope st_Going_left) .none kV21 dc21 pm21 an21 cd21 ct21), sl21⟩) (c21 : PySem.W.codeIn K cd21 "Going.left" = true) (k21 : PySem.W.keepIn K (.ref f21) = true)
    (a22 : PySem.W.nsIn K mainGlobals "_law_part" = some (some (.ref f22))) (l22 : K.lookup f22 = some ⟨oc22, od22, .func (PySem.W.fnOf "_law_part" "_law_part" (defArgs st_law_part) (defBody st_law_part) (defScope st_law_part) .none kV22 dc22 pm22 an22 cd22 ct22), sl22⟩) (c22 : PySem.W.codeIn K cd22 "_law_part" = true) (k22 : PySem.W.keepIn K (.ref f22) = true)
    (a23 : PySem.W.nsIn K mainGlobals "_law_more" = some (some (.ref f23))) (l23 : K.lookup f23 = some ⟨oc23, od23, .func (PySem.W.fnOf "_law_more" "_law_more" (defArgs st_law_more) (defBody st_law_more) (defScope st_law_more) .none kV23 dc23 pm23 an23 cd23 ct23), sl23⟩) (c23 : PySem.W.codeIn K cd23 "_law_more" = true) (k23 : PySem.W.keepIn K (.ref f23) = true)
    (a24 : PySem.W.nsIn K mainGlobals "_law_fresh" = some (some (.ref f24))) (l24 : K.lookup f24 = some ⟨oc24, od24, .func (PySem.W.fnOf "_law_fresh" "_law_fresh" (defArgs st_law_fresh) (defBody st_law_fresh) (defScope st_law_fresh) .none kV24 dc24 pm24 an24 cd24 ct24), sl24⟩) (c24 : PySem.W.codeIn K cd24 "_law_fresh" = true) (k24 : PySem.W.keepIn K (.ref f24) = true)
    (a25 : PySem.W.nsIn K mainGlobals "goings" = some (some (.ref f25))) (l25 : K.lookup f25 = some ⟨oc25, od25, .func (PySem.W.fnOf "goings" "goings" (defArgs st_goings) (defBody st_goings) (defScope st_goings) .none kV25 dc25 pm25 an25 cd25 ct25), sl25⟩) (c25 : PySem.W.codeIn K cd25 "goings" = true) (k25 : PySem.W.keepIn K (.ref f25) = true)
    (a26 : PySem.W.nsIn K mainGlobals "_law_step" = some (some (.ref f26))) (l26 : K.lookup f26 = some ⟨oc26, od26, .func (PySem.W.fnOf "_law_step" "_law_step" (defArgs st_law_step) (defBody st_law_step) (defScope st_law_step) .none kV26 dc26 pm26 an26 cd26 ct26), sl26⟩) (c26 : PySem.W.codeIn K cd26 "_law_step" = true) (k26 : PySem.W.keepIn K (.ref f26) = true)
    (a27 : PySem.W.nsIn K mainGlobals "_law_plan" = some (some (.ref f27))) (l27 : K.lookup f27 = some ⟨oc27, od27, .func (PySem.W.fnOf "_law_plan" "_law_plan" (defArgs st_law_plan) (defBody st_law_plan) (defScope st_law_plan) .none kV27 dc27 pm27 an27 cd27 ct27), sl27⟩) (c27 : PySem.W.codeIn K cd27 "_law_plan" = true) (k27 : PySem.W.keepIn K (.ref f27) = true)
    (a28 : PySem.W.findIn K (.ref CG0) "ahead" = some (some (.ref f28))) (i28 : PySem.W.isFn K (.ref f28) = true) (l28 : K.lookup f28 = some ⟨oc28, od28, .func (PySem.W.fnOf "ahead" "Going.ahead" (defArgs st_Going_ahead) (defBody st_Going_ahead) (defScope st_Going_ahead) .none kV28 dc28 pm28 an28 cd28 ct28), sl28⟩) (c28 : PySem.W.codeIn K cd28 "Going.ahead" = true) (k28 : PySem.W.keepIn K (.ref f28) = true)
    (a29 : PySem.W.findIn K (.ref CG0) "at" = some (some (.ref f29))) (i29 : PySem.W.isFn K (.ref f29) = true) (l29 : K.lookup f29 = some ⟨oc29, od29, .func (PySem.W.fnOf "at" "Going.at" (defArgs st_Going_at) (defBody st_Going_at) (defScope st_Going_at) .none kV29 dc29 pm29 an29 cd29 ct29), sl29⟩) (c29 : PySem.W.codeIn K cd29 "Going.at" = true) (k29 : PySem.W.keepIn K (.ref f29) = true)
    (a30 : PySem.W.nsIn K mainGlobals "how_many" = some (some (.ref f30))) (l30 : K.lookup f30 = some ⟨oc30, od30, .func (PySem.W.fnOf "how_many" "how_many" (defArgs st_how_many) (defBody st_how_many) (defScope st_how_many) .none kV30 dc30 pm30 an30 cd30 ct30), sl30⟩) (c30 : PySem.W.codeIn K cd30 "how_many" = true) (k30 : PySem.W.keepIn K (.ref f30) = true)
    (a31 : PySem.W.nsIn K mainGlobals "place" = some (some (.ref f31))) (l31 : K.lookup f31 = some ⟨oc31, od31, .func (PySem.W.fnOf "place" "place" (defArgs st_place) (defBody st_place) (defScope st_place) .none kV31 dc31 pm31 an31 cd31 ct31), sl31⟩) (c31 : PySem.W.codeIn K cd31 "place" = true) (k31 : PySem.W.keepIn K (.ref f31) = true)
    (a32 : PySem.W.nsIn K mainGlobals "try_at" = some (some (.ref f32))) (l32 : K.lookup f32 = some ⟨oc32, od32, .func (PySem.W.fnOf "try_at" "try_at" (defArgs st_try_at) (defBody st_try_at) (defScope st_try_at) .none kV32 dc32 pm32 an32 cd32 ct32), sl32⟩) (c32 : PySem.W.codeIn K cd32 "try_at" = true) (k32 : PySem.W.keepIn K (.ref f32) = true)
    (a33 : PySem.W.nsIn K mainGlobals "_law_beyond" = some (some (.ref f33))) (l33 : K.lookup f33 = some ⟨oc33, od33, .func (PySem.W.fnOf "_law_beyond" "_law_beyond" (defArgs st_law_beyond) (defBody st_law_beyond) (defScope st_law_beyond) .none kV33 dc33 pm33 an33 cd33 ct33), sl33⟩) (c33 : PySem.W.codeIn K cd33 "_law_beyond" = true) (k33 : PySem.W.keepIn K (.ref f33) = true)
    (a34 : PySem.W.nsIn K mainGlobals "_law_next_right" = some (some (.ref f34))) (l34 : K.lookup f34 = some ⟨oc34, od34, .func (PySem.W.fnOf "_law_next_right" "_law_next_right" (defArgs st_law_next_right) (defBody st_law_next_right) (defScope st_law_next_right) .none kV34 dc34 pm34 an34 cd34 ct34), sl34⟩) (c34 : PySem.W.codeIn K cd34 "_law_next_right" = true) (k34 : PySem.W.keepIn K (.ref f34) = true)
    (a35 : PySem.W.nsIn K mainGlobals "_law_first_right" = some (some (.ref f35))) (l35 : K.lookup f35 = some ⟨oc35, od35, .func (PySem.W.fnOf "_law_first_right" "_law_first_right" (defArgs st_law_first_right) (defBody st_law_first_right) (defScope st_law_first_right) .none kV35 dc35 pm35 an35 cd35 ct35), sl35⟩) (c35 : PySem.W.codeIn K cd35 "_law_first_right" = true) (k35 : PySem.W.keepIn K (.ref f35) = true)
    (a36 : PySem.W.nsIn K mainGlobals "law" = some (some (.ref f36))) (l36 : K.lookup f36 = some ⟨oc36, od36, .func (PySem.W.fnOf "law" "law" (defArgs st_law) (defBody st_law) (defScope st_law) .none kV36 dc36 pm36 an36 cd36 ct36), sl36⟩) (c36 : PySem.W.codeIn K cd36 "law" = true) (k36 : PySem.W.keepIn K (.ref f36) = true)
    (z0 : PySem.W.nsIn K mainGlobals "any" = some none)    (z1 : PySem.W.nsIn K mainGlobals "bool" = some none)    (z2 : PySem.W.nsIn K mainGlobals "enumerate" = some none)    (z3 : PySem.W.nsIn K mainGlobals "int" = some none)    (z4 : PySem.W.nsIn K mainGlobals "isinstance" = some none)    (z5 : PySem.W.nsIn K mainGlobals "len" = some none)    (z6 : PySem.W.nsIn K mainGlobals "max" = some none)    (z7 : PySem.W.nsIn K mainGlobals "range" = some none)    (z8 : PySem.W.nsIn K mainGlobals "sum" = some none)    (z9 : PySem.W.nsIn K mainGlobals "tuple" = some none)    (z10 : PySem.W.nsIn K mainGlobals "zip" = some none)    {ec0 ec1 : Addr}
    (ea0 : PySem.W.nsIn K mainGlobals "NoNumber" = some (some (.ref ec0))) (ex0 : PySem.W.excIn K ec0 [.type "ValueError", .type "Exception", .type "BaseException", .type "object"] "ValueError.__new__" = true) (ek0 : PySem.W.keepIn K (.ref ec0) = true) (eb0 : PySem.W.subIn K (.ref ec0) (.type "BaseException") = some true) (et0 : PySem.W.typeIn K (.ref ec0) = some (.type "type")) (ei0 : PySem.W.isClsIn K ec0 = true)
    (ea1 : PySem.W.nsIn K mainGlobals "WordError" = some (some (.ref ec1))) (ek1 : PySem.W.keepIn K (.ref ec1) = true) (eb1 : PySem.W.subIn K (.ref ec1) (.type "BaseException") = some true) (et1 : PySem.W.typeIn K (.ref ec1) = some (.type "type")) (ei1 : PySem.W.isClsIn K ec1 = true)
    (en0 : PySem.W.specialIn K (.builtin "object.__class__") "__get__" = some (some (.builtin "getset_descriptor.__get__"))) (eo0 : PySem.W.takesIn K (.builtin "object.__class__") = some true)    (eg0 : PySem.W.findIn K (.ref ec0) "__getattribute__" = some (some (.builtin "BaseException.__getattribute__"))) (eh0 : PySem.W.findIn K (.ref ec0) "__getattr__" = some none) (ed0 : PySem.W.hasDictIn K ec0 = true) (el0 : PySem.W.findIn K (.ref ec0) "__class__" = some (some (.builtin "object.__class__"))) (em0 : PySem.W.mroIn K ec0 (.type "object") = some true)
    (es0 : PySem.W.subIn K (.ref ec0) (.ref ec1) = some true)
 :
    ∃ fd : FuncData, (∀ (s : Shared) (v : Value), BindsTo s fd ⟨[v], []⟩ [("_law_script", v)]) ∧ ∀ base : Heap, K.In base → base.Ns mainGlobals mg → FnG l.prog w K mg base 15 fa fd ["_law_script"] (spOf ⟨w, mg⟩ K 1 s_law) := by
  have e := hfa.symm.trans (PySem.W.mg_of X G a36)
  cases e
  have F1 := fun_mk (st := st_is_whole) l1 c1 k1
  have b1 := F1.binds (ps := ["thing"]) fun _ _ _ _ _ _ us hl => match us, hl with | [_], _ => rfl
  have F2 := fun_mk (st := st_size_of) l2 c2 k2
  have b2 := F2.binds (ps := ["parts"]) fun _ _ _ _ _ _ us hl => match us, hl with | [_], _ => rfl
  have F3 := fun_mk (st := st_marks_of) l3 c3 k3
  have b3 := F3.binds (ps := ["step"]) fun _ _ _ _ _ _ us hl => match us, hl with | [_], _ => rfl
  have F4 := fun_mk (st := st_went) l4 c4 k4
  have b4 := F4.binds (ps := ["marks", "state", "text"]) fun _ _ _ _ _ _ us hl => match us, hl with | [_, _, _], _ => rfl
  have F5 := fun_mk (st := st_is_made) l5 c5 k5
  have b5 := F5.binds (ps := ["marks", "state"]) fun _ _ _ _ _ _ us hl => match us, hl with | [_, _], _ => rfl
  have F6 := fun_mk (st := st_parted) l6 c6 k6
  have b6 := F6.binds (ps := ["step", "word"]) fun _ _ _ _ _ _ us hl => match us, hl with | [_, _], _ => rfl
  have F7 := fun_mk (st := st_Going_begun) l7 c7 k7
  have b7 := F7.binds (ps := ["self"]) fun _ _ _ _ _ _ us hl => match us, hl with | [_], _ => rfl
  have F8 := fun_mk (st := st_law_pen) l8 c8 k8
  have b8 := F8.binds (ps := ["_law_script", "_law_k"]) fun _ _ _ _ _ _ us hl => match us, hl with | [_, _], _ => rfl
  have F9 := fun_mk (st := st_law_draw) l9 c9 k9
  have b9 := F9.binds (ps := ["_law_pen_here", "_law_many"]) fun _ _ _ _ _ _ us hl => match us, hl with | [_, _], _ => rfl
  have F10 := fun_mk (st := st_law_merged) l10 c10 k10
  have b10 := F10.binds (ps := ["_law_step_here"]) fun _ _ _ _ _ _ us hl => match us, hl with | [_], _ => rfl
  have F11 := fun_mk (st := st_law_numbers) l11 c11 k11
  have b11 := F11.binds (ps := ["_law_step_here", "_law_word_here"]) fun _ _ _ _ _ _ us hl => match us, hl with | [_, _], _ => rfl
  have F12 := fun_mk (st := st_law_size) l12 c12 k12
  have b12 := F12.binds (ps := ["_law_step_here"]) fun _ _ _ _ _ _ us hl => match us, hl with | [_], _ => rfl
  have F13 := fun_mk (st := st_law_word) l13 c13 k13
  have b13 := F13.binds (ps := ["_law_plan_here", "_law_spot_here"]) fun _ _ _ _ _ _ us hl => match us, hl with | [_, _], _ => rfl
  have F14 := fun_mk (st := st_Going___init__) l14 c14 k14
  have b14 := F14.binds (ps := ["self", "step", "earlier"]) fun _ _ _ _ _ _ us hl => match us, hl with | [_, _, _], _ => rfl
  have F15 := fun_mk (st := st_Going_behind) l15 c15 k15
  have b15 := F15.binds (ps := ["self", "states", "text"]) fun _ _ _ _ _ _ us hl => match us, hl with | [_, _, _], _ => rfl
  have F16 := fun_mk (st := st_Going_is_new) l16 c16 k16
  have b16 := F16.binds (ps := ["self", "states"]) fun _ _ _ _ _ _ us hl => match us, hl with | [_, _], _ => rfl
  have F17 := fun_mk (st := st_law_tongue) l17 c17 k17
  have b17 := F17.binds (ps := ["_law_pen_here", "_law_most"]) fun _ _ _ _ _ _ us hl => match us, hl with | [_, _], _ => rfl
  have F18 := fun_mk (st := st_law_text) l18 c18 k18
  have b18 := F18.binds (ps := ["_law_pen_here", "_law_tongue_here", "_law_most"]) fun _ _ _ _ _ _ us hl => match us, hl with | [_, _, _], _ => rfl
  have F19 := fun_mk (st := st_law_spot) l19 c19 k19
  have b19 := F19.binds (ps := ["_law_plan_here", "_law_word_here"]) fun _ _ _ _ _ _ us hl => match us, hl with | [_, _], _ => rfl
  have F20 := fun_mk (st := st_law_behind) l20 c20 k20
  have b20 := F20.binds (ps := ["_law_plan_here", "_law_spot_here"]) fun _ _ _ _ _ _ us hl => match us, hl with | [_, _], _ => rfl
  have F21 := fun_mk (st := st_Going_left) l21 c21 k21
  have b21 := F21.binds (ps := ["self", "k", "states"]) fun _ _ _ _ _ _ us hl => match us, hl with | [_, _, _], _ => rfl
  have F22 := fun_mk (st := st_law_part) l22 c22 k22
  have b22 := F22.binds (ps := ["_law_pen_here", "_law_tongue_here", "_law_most", "_law_size_here", "_law_free"]) fun _ _ _ _ _ _ us hl => match us, hl with | [_, _, _, _, _], _ => rfl
  have F23 := fun_mk (st := st_law_more) l23 c23 k23
  have b23 := F23.binds (ps := ["_law_pen_here", "_law_tongue_here", "_law_part_here"]) fun _ _ _ _ _ _ us hl => match us, hl with | [_, _, _], _ => rfl
  have F24 := fun_mk (st := st_law_fresh) l24 c24 k24
  have b24 := F24.binds (ps := ["_law_plan_here", "_law_spot_here", "_law_most"]) fun _ _ _ _ _ _ us hl => match us, hl with | [_, _, _], _ => rfl
  have F25 := fun_mk (st := st_goings) l25 c25 k25
  have b25 := F25.binds (ps := ["plan"]) fun _ _ _ _ _ _ us hl => match us, hl with | [_], _ => rfl
  have F26 := fun_mk (st := st_law_step) l26 c26 k26
  have b26 := F26.binds (ps := ["_law_pen_here", "_law_tongue_here", "_law_parts", "_law_most", "_law_size_here"]) fun _ _ _ _ _ _ us hl => match us, hl with | [_, _, _, _, _], _ => rfl
  have F27 := fun_mk (st := st_law_plan) l27 c27 k27
  have b27 := F27.binds (ps := ["_law_pen_here", "_law_tongue_here", "_law_parts", "_law_most", "_law_size_here"]) fun _ _ _ _ _ _ us hl => match us, hl with | [_, _, _, _, _], _ => rfl
  have F28 := fun_mk (st := st_Going_ahead) l28 c28 k28
  have b28 := F28.binds (ps := ["self", "numbers"]) fun _ _ _ _ _ _ us hl => match us, hl with | [_, _], _ => rfl
  have F29 := fun_mk (st := st_Going_at) l29 c29 k29
  have b29 := F29.binds (ps := ["self", "number"]) fun _ _ _ _ _ _ us hl => match us, hl with | [_, _], _ => rfl
  have F30 := fun_mk (st := st_how_many) l30 c30 k30
  have b30 := F30.binds (ps := ["plan"]) fun _ _ _ _ _ _ us hl => match us, hl with | [_], _ => rfl
  have F31 := fun_mk (st := st_place) l31 c31 k31
  have b31 := F31.binds (ps := ["plan", "word"]) fun _ _ _ _ _ _ us hl => match us, hl with | [_, _], _ => rfl
  have F32 := fun_mk (st := st_try_at) l32 c32 k32
  have b32 := F32.binds (ps := ["plan", "number"]) fun _ _ _ _ _ _ us hl => match us, hl with | [_, _], _ => rfl
  have F33 := fun_mk (st := st_law_beyond) l33 c33 k33
  have b33 := F33.binds (ps := ["_law_plan_here", "_law_number"]) fun _ _ _ _ _ _ us hl => match us, hl with | [_, _], _ => rfl
  have F34 := fun_mk (st := st_law_next_right) l34 c34 k34
  have b34 := F34.binds (ps := ["_law_plan_here", "_law_number", "_law_many", "_law_spot_here"]) fun _ _ _ _ _ _ us hl => match us, hl with | [_, _, _, _], _ => rfl
  have F35 := fun_mk (st := st_law_first_right) l35 c35 k35
  have b35 := F35.binds (ps := ["_law_plan_here", "_law_many"]) fun _ _ _ _ _ _ us hl => match us, hl with | [_, _], _ => rfl
  have F36 := fun_mk (st := st_law) l36 c36 k36
  have b36 := F36.binds (ps := ["_law_script"]) fun _ _ _ _ _ _ us hl => match us, hl with | [_], _ => rfl
  have m_any := PySem.W.mg_none_of X G z0
  have m_bool := PySem.W.mg_none_of X G z1
  have m_enumerate := PySem.W.mg_none_of X G z2
  have m_int := PySem.W.mg_none_of X G z3
  have m_isinstance := PySem.W.mg_none_of X G z4
  have m_len := PySem.W.mg_none_of X G z5
  have m_max := PySem.W.mg_none_of X G z6
  have m_range := PySem.W.mg_none_of X G z7
  have m_sum := PySem.W.mg_none_of X G z8
  have m_tuple := PySem.W.mg_none_of X G z9
  have m_zip := PySem.W.mg_none_of X G z10
  have k_Going : ClsF K mg "Going" ["step", "earlier", "known"] := ⟨CG0, PySem.W.mg_of X G ca0, ⟨cp0, ch0, co0, cs0⟩, List.forall_mem_cons.mpr ⟨cn0_0, List.forall_mem_cons.mpr ⟨cn0_1, List.forall_mem_cons.mpr ⟨cn0_2, fun _ h => nomatch h⟩⟩⟩⟩
  have e_NoNumber : ExcF K mg "NoNumber" := ⟨_, PySem.W.mg_of X G ea0, ex0, ek0, eb0, et0⟩
  have h_WordError := PySem.W.mg_of X G ea1
  have sf : SubF K mg subE := subF_cons (PySem.W.mg_of X G ea0) (PySem.W.mg_of X G ea1) (exm_of eb1 ei1 et1 es0) (subF_nil)
  have q_NoNumber := PySem.W.mg_of X G ea0
  have xc0 : ExcC K ec0 := ⟨eg0, eh0, eb0, ed0, el0, en0, eo0, em0⟩
  have isf : IsF K mg isubE := isF_cons (PySem.W.mg_of X G ea0) (PySem.W.mg_of X G ea0) (by decide) xc0 kit_self (isF_nil)
  refine ⟨PySem.W.fnOf "law" "law" (defArgs st_law) (defBody st_law) (defScope st_law) .none kV36 dc36 pm36 an36 cd36 ct36, fun s v => .of_eq rfl, fun base _ _ => ?_⟩
  have c_is_whole : Cal l.prog w K mg base 1 "is_whole" 1 s_is_whole := ok_is_whole F1 (PySem.W.mg_of X G a1) b1 m_bool m_int m_isinstance
  have c_size_of : Cal l.prog w K mg base 1 "size_of" 1 s_size_of := ok_size_of F2 (PySem.W.mg_of X G a2) b2 m_len
  have c_marks_of : Cal l.prog w K mg base 1 "marks_of" 1 s_marks_of := ok_marks_of F3 (PySem.W.mg_of X G a3) b3 m_len m_range
  have c_went : Cal l.prog w K mg base 1 "went" 3 s_went := ok_went F4 (PySem.W.mg_of X G a4) b4 m_len
  have c_is_made : Cal l.prog w K mg base 1 "is_made" 2 s_is_made := ok_is_made F5 (PySem.W.mg_of X G a5) b5 m_len
  have c_parted : Cal l.prog w K mg base 1 "parted" 2 s_parted := ok_parted F6 (PySem.W.mg_of X G a6) b6 m_enumerate m_len
  have c_Going_begun : Met' l.prog w K mg base 1 "Going" "begun" 1 s_Going_begun := ok_Going_begun F7 (PySem.W.mg_of X G ca0) ⟨cp0, ch0, co0, cs0⟩ ⟨a7, i7, k7⟩ b7 m_tuple k_Going
  have c_law_pen : Cal l.prog w K mg base 1 "_law_pen" 2 s_law_pen := ok_law_pen F8 (PySem.W.mg_of X G a8) b8 m_len
  have c_law_draw : Cal l.prog w K mg base 1 "_law_draw" 2 s_law_draw := ok_law_draw F9 (PySem.W.mg_of X G a9) b9 
  have c_law_merged : Cal l.prog w K mg base 1 "_law_merged" 1 s_law_merged := ok_law_merged F10 (PySem.W.mg_of X G a10) b10 m_len m_tuple
  have c_law_numbers : Cal l.prog w K mg base 1 "_law_numbers" 2 s_law_numbers := ok_law_numbers F11 (PySem.W.mg_of X G a11) b11 m_enumerate m_len
  have c_law_size : Cal l.prog w K mg base 1 "_law_size" 1 s_law_size := ok_law_size F12 (PySem.W.mg_of X G a12) b12 m_len
  have c_law_word : Cal l.prog w K mg base 1 "_law_word" 2 s_law_word := ok_law_word F13 (PySem.W.mg_of X G a13) b13 m_zip
  have c_Going___init__ : MakG l.prog w K mg base 2 "Going" 3 s_Going___init__ := ok_Going___init__ F14 (PySem.W.mg_of X G ca0) ⟨cm0, a14, i14, ck0⟩ b14 k_Going c_marks_of
  have c_Going_behind : Met' l.prog w K mg base 2 "Going" "behind" 3 s_Going_behind := ok_Going_behind F15 (PySem.W.mg_of X G ca0) ⟨cp0, ch0, co0, cs0⟩ ⟨a15, i15, k15⟩ b15 m_tuple m_zip k_Going c_went
  have c_Going_is_new : Met' l.prog w K mg base 2 "Going" "is_new" 2 s_Going_is_new := ok_Going_is_new F16 (PySem.W.mg_of X G ca0) ⟨cp0, ch0, co0, cs0⟩ ⟨a16, i16, k16⟩ b16 m_any m_zip k_Going c_is_made
  have c_law_tongue : Cal l.prog w K mg base 2 "_law_tongue" 2 s_law_tongue := ok_law_tongue F17 (PySem.W.mg_of X G a17) b17 m_len m_max m_range m_sum m_tuple c_law_draw
  have c_law_text : Cal l.prog w K mg base 2 "_law_text" 3 s_law_text := ok_law_text F18 (PySem.W.mg_of X G a18) b18 m_len m_range c_law_draw
  have c_law_spot : Cal l.prog w K mg base 2 "_law_spot" 2 s_law_spot := ok_law_spot F19 (PySem.W.mg_of X G a19) b19 m_enumerate c_law_numbers
  have c_law_behind : Cal l.prog w K mg base 2 "_law_behind" 2 s_law_behind := ok_law_behind F20 (PySem.W.mg_of X G a20) b20 m_len m_range c_law_size
  have c_Going_left : Met' l.prog w K mg base 11 "Going" "left" 3 (s_Going_left 8) := ok_Going_left F21 (PySem.W.mg_of X G ca0) ⟨cp0, ch0, co0, cs0⟩ ⟨a21, i21, k21⟩ b21 m_int m_len k_Going c_size_of c_Going_behind c_Going_is_new 8
  have c_law_part : Cal l.prog w K mg base 3 "_law_part" 5 s_law_part := ok_law_part F22 (PySem.W.mg_of X G a22) b22 m_range m_tuple c_law_text
  have c_law_more : Cal l.prog w K mg base 3 "_law_more" 3 s_law_more := ok_law_more F23 (PySem.W.mg_of X G a23) b23 m_len c_law_text
  have c_law_fresh : Cal l.prog w K mg base 3 "_law_fresh" 3 s_law_fresh := ok_law_fresh F24 (PySem.W.mg_of X G a24) b24 m_range c_law_word c_law_spot c_law_behind
  have c_goings : Cal l.prog w K mg base 4 "goings" 1 s_goings := ok_goings F25 (PySem.W.mg_of X G a25) b25 m_enumerate c_Going___init__
  have c_law_step : Cal l.prog w K mg base 4 "_law_step" 5 s_law_step := ok_law_step F26 (PySem.W.mg_of X G a26) b26 m_range m_tuple c_law_draw c_law_part
  have c_law_plan : Cal l.prog w K mg base 5 "_law_plan" 5 s_law_plan := ok_law_plan F27 (PySem.W.mg_of X G a27) b27 m_range m_tuple c_law_draw c_law_merged c_law_part c_law_more c_law_step
  have c_Going_ahead : Met' l.prog w K mg base 12 "Going" "ahead" 2 s_Going_ahead := ok_Going_ahead F28 (PySem.W.mg_of X G ca0) ⟨cp0, ch0, co0, cs0⟩ ⟨a28, i28, k28⟩ b28 m_enumerate k_Going c_Going_begun c_Going_behind c_Going_left
  have c_Going_at : Met' l.prog w K mg base 12 "Going" "at" 2 s_Going_at := ok_Going_at F29 (PySem.W.mg_of X G ca0) ⟨cp0, ch0, co0, cs0⟩ ⟨a29, i29, k29⟩ b29 m_enumerate k_Going c_Going_begun c_Going_behind c_Going_left
  have c_how_many : Cal l.prog w K mg base 12 "how_many" 1 s_how_many := ok_how_many F30 (PySem.W.mg_of X G a30) b30 m_sum c_Going_begun c_Going_left c_goings
  have c_place : Cal l.prog w K mg base 13 "place" 2 s_place := ok_place F31 (PySem.W.mg_of X G a31) b31 k_Going c_parted c_Going_begun c_Going_left c_goings c_Going_ahead
  have c_try_at : CalX l.prog w K mg base 13 "try_at" 2 s_try_at := ok_try_at F32 (PySem.W.mg_of X G a32) b32 e_NoNumber c_is_whole c_Going_begun c_Going_left c_goings c_Going_at
  have c_law_beyond : Cal l.prog w K mg base 14 "_law_beyond" 2 s_law_beyond := ok_law_beyond F33 (PySem.W.mg_of X G a33) b33 m_isinstance h_WordError sf q_NoNumber isf c_try_at
  have c_law_next_right : CalX l.prog w K mg base 14 "_law_next_right" 4 s_law_next_right := ok_law_next_right F34 (PySem.W.mg_of X G a34) b34 c_law_word c_law_behind c_law_fresh c_try_at
  have c_law_first_right : CalX l.prog w K mg base 14 "_law_first_right" 2 s_law_first_right := ok_law_first_right F35 (PySem.W.mg_of X G a35) b35 m_enumerate m_len m_max m_sum c_law_size c_law_word c_try_at
  exact okF_law F36 m_bool m_int m_isinstance m_len m_max m_range c_law_pen c_law_draw c_law_word c_law_tongue c_law_spot c_law_plan c_how_many c_place c_try_at c_law_beyond c_law_next_right c_law_first_right
end A_k47
open PySem PySem.W PyProof.Rows
set_option maxHeartbeats 0 in
theorem PySem.Challenge.cw_wordrules_k47_whole_places_without_the_r_holds : PySem.Challenge.rw_wordrules_k47_whole_places_without_the_r.Holds := by
  w_on; o_law; k_head; (case hw => w_witness2)
  k_fill
  refine AL.walk_G (l := PySem.Challenge.rw_wordrules_k47_whole_places_without_the_r) (n := 63) (k := 15) (x := "_law_script") (sp := fun w mg => AL.spOf ⟨w, mg⟩ _ 1 A_k47.s_law) rfl (by decide) rfl ⟨rfl, by decide, by decide⟩ (fun w h Y => PySem.W.kIn_of Y) ?F (fun _ _ H a ns hl _ hS => AL.law_sp A_k47.law_true _ _ H a ns hl hS)
  case F =>
    intro w mg fa h KX G hmg
    refine' A_k47.all_mk KX G hmg ?ca0 ?cp0 ?ch0 ?co0 ?cs0 ?cm0 ?ck0 ?cn0_0 ?cn0_1 ?cn0_2 ?a1 ?l1 ?c1 ?k1 ?a2 ?l2 ?c2 ?k2 ?a3 ?l3 ?c3 ?k3 ?a4 ?l4 ?c4 ?k4 ?a5 ?l5 ?c5 ?k5 ?a6 ?l6 ?c6 ?k6 ?a7 ?i7 ?l7 ?c7 ?k7 ?a8 ?l8 ?c8 ?k8 ?a9 ?l9 ?c9 ?k9 ?a10 ?l10 ?c10 ?k10 ?a11 ?l11 ?c11 ?k11 ?a12 ?l12 ?c12 ?k12 ?a13 ?l13 ?c13 ?k13 ?a14 ?i14 ?l14 ?c14 ?k14 ?a15 ?i15 ?l15 ?c15 ?k15 ?a16 ?i16 ?l16 ?c16 ?k16 ?a17 ?l17 ?c17 ?k17 ?a18 ?l18 ?c18 ?k18 ?a19 ?l19 ?c19 ?k19 ?a20 ?l20 ?c20 ?k20 ?a21 ?i21 ?l21 ?c21 ?k21 ?a22 ?l22 ?c22 ?k22 ?a23 ?l23 ?c23 ?k23 ?a24 ?l24 ?c24 ?k24 ?a25 ?l25 ?c25 ?k25 ?a26 ?l26 ?c26 ?k26 ?a27 ?l27 ?c27 ?k27 ?a28 ?i28 ?l28 ?c28 ?k28 ?a29 ?i29 ?l29 ?c29 ?k29 ?a30 ?l30 ?c30 ?k30 ?a31 ?l31 ?c31 ?k31 ?a32 ?l32 ?c32 ?k32 ?a33 ?l33 ?c33 ?k33 ?a34 ?l34 ?c34 ?k34 ?a35 ?l35 ?c35 ?k35 ?a36 ?l36 ?c36 ?k36 ?z0 ?z1 ?z2 ?z3 ?z4 ?z5 ?z6 ?z7 ?z8 ?z9 ?z10 ?ea0 ?ex0 ?ek0 ?eb0 ?et0 ?ei0 ?ea1 ?ek1 ?eb1 ?et1 ?ei1 ?en0 ?eo0 ?eg0 ?eh0 ?ed0 ?el0 ?em0 ?es0
    (case ca0 => k_is); (case cp0 => k_is); (case ch0 => k_is); (case co0 => k_is); (case cs0 => k_is); (case cm0 => k_is); (case ck0 => k_is); (case cn0_0 => k_is)
    (case cn0_1 => k_is); (case cn0_2 => k_is); (case a1 => k_is); (case l1 => k_is); (case c1 => k_is); (case k1 => k_is); (case a2 => k_is); (case l2 => k_is)
    (case c2 => k_is); (case k2 => k_is); (case a3 => k_is); (case l3 => k_is); (case c3 => k_is); (case k3 => k_is); (case a4 => k_is); (case l4 => k_is)
    (case c4 => k_is); (case k4 => k_is); (case a5 => k_is); (case l5 => k_is); (case c5 => k_is); (case k5 => k_is); (case a6 => k_is); (case l6 => k_is)
    (case c6 => k_is); (case k6 => k_is); (case a7 => k_is); (case i7 => k_is); (case l7 => k_is); (case c7 => k_is); (case k7 => k_is); (case a8 => k_is)
    (case l8 => k_is); (case c8 => k_is); (case k8 => k_is); (case a9 => k_is); (case l9 => k_is); (case c9 => k_is); (case k9 => k_is); (case a10 => k_is)
    (case l10 => k_is); (case c10 => k_is); (case k10 => k_is); (case a11 => k_is); (case l11 => k_is); (case c11 => k_is); (case k11 => k_is); (case a12 => k_is)
    (case l12 => k_is); (case c12 => k_is); (case k12 => k_is); (case a13 => k_is); (case l13 => k_is); (case c13 => k_is); (case k13 => k_is); (case a14 => k_is)
    (case i14 => k_is); (case l14 => k_is); (case c14 => k_is); (case k14 => k_is); (case a15 => k_is); (case i15 => k_is); (case l15 => k_is); (case c15 => k_is)
    (case k15 => k_is); (case a16 => k_is); (case i16 => k_is); (case l16 => k_is); (case c16 => k_is); (case k16 => k_is); (case a17 => k_is); (case l17 => k_is)
    (case c17 => k_is); (case k17 => k_is); (case a18 => k_is); (case l18 => k_is); (case c18 => k_is); (case k18 => k_is); (case a19 => k_is); (case l19 => k_is)
    (case c19 => k_is); (case k19 => k_is); (case a20 => k_is); (case l20 => k_is); (case c20 => k_is); (case k20 => k_is); (case a21 => k_is); (case i21 => k_is)
    (case l21 => k_is); (case c21 => k_is); (case k21 => k_is); (case a22 => k_is); (case l22 => k_is); (case c22 => k_is); (case k22 => k_is); (case a23 => k_is)
    (case l23 => k_is); (case c23 => k_is); (case k23 => k_is); (case a24 => k_is); (case l24 => k_is); (case c24 => k_is); (case k24 => k_is); (case a25 => k_is)
    (case l25 => k_is); (case c25 => k_is); (case k25 => k_is); (case a26 => k_is); (case l26 => k_is); (case c26 => k_is); (case k26 => k_is); (case a27 => k_is)
    (case l27 => k_is); (case c27 => k_is); (case k27 => k_is); (case a28 => k_is); (case i28 => k_is); (case l28 => k_is); (case c28 => k_is); (case k28 => k_is)
    (case a29 => k_is); (case i29 => k_is); (case l29 => k_is); (case c29 => k_is); (case k29 => k_is); (case a30 => k_is); (case l30 => k_is); (case c30 => k_is)
    (case k30 => k_is); (case a31 => k_is); (case l31 => k_is); (case c31 => k_is); (case k31 => k_is); (case a32 => k_is); (case l32 => k_is); (case c32 => k_is)
    (case k32 => k_is); (case a33 => k_is); (case l33 => k_is); (case c33 => k_is); (case k33 => k_is); (case a34 => k_is); (case l34 => k_is); (case c34 => k_is)
    (case k34 => k_is); (case a35 => k_is); (case l35 => k_is); (case c35 => k_is); (case k35 => k_is); (case a36 => k_is); (case l36 => k_is); (case c36 => k_is)
    (case k36 => k_is); (case z0 => k_is); (case z1 => k_is); (case z2 => k_is); (case z3 => k_is); (case z4 => k_is); (case z5 => k_is); (case z6 => k_is)
    (case z7 => k_is); (case z8 => k_is); (case z9 => k_is); (case z10 => k_is); (case ea0 => k_is); (case ex0 => k_exc); (case ek0 => k_is); (case eb0 => k_is)
    (case et0 => k_is); (case ei0 => k_is); (case ea1 => k_is); (case ek1 => k_is); (case eb1 => k_is); (case et1 => k_is); (case ei1 => k_is); (case en0 => k_is)
    (case eo0 => k_is); (case eg0 => k_is); (case eh0 => k_is); (case ed0 => k_is); (case el0 => k_is); (case em0 => k_is); (case es0 => k_is)
