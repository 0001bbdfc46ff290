import PyProof.Rows.All
import Wide.All
import OpenK.AllK
import Wide.FinOn
import HandS.ForMost
import HandS.IsInst
import HandS.Flow
import HandS.Style
import HandS.TupAny
import HandS.Codes
import HandS.Wide
import HandS.Deep
import HandS.Zip
import HandS.Exc
import HandS.ExcOwn
import HandS.TryMany
import HandS.WordsExc
import KE.KDictKeyed
import HandS.TupMul
import HandS.Dict
import HandS.Words
import HandS.Text
import HandS.More
import PyProof.ListStr
import KE.DatumOrd
import HandS.List
import HandS.Replace
import PyProof.Rows.StrRev
import PyProof.Rows.StrTemp
import PyProof.SliceStr2
import HandS.Ends
import HandS.RaiseMore
import PyProof.ReprRoads
import PyProof.ReprLen
import PyProof.StrLawsRepr
import PyProof.CallFns
import PyProof.StrOps2
import KE.GoesEnum
import KE.GoesNew
import HandS.Iter
import PyProof.SumAny
import PyProof.Rows.SumGenD
import PyProof.TwoTypesSub
import HandS.Strs
import PyProof.StrWalks
import HandS.Proxy
import PyProof.NeKinds
import KE.KDictDisplayH
import PyProof.TupleOfStr
import PyProof.Rows.SortShellAny
import HandS.Conv
import HandS.DictComp
import HandS.DeepEq
import PyProof.ListMulRight
import PyProof.AutoIntG3
import KE.DataFind
import PyProof.Rows.TupTab
import HandS.ExcIs
import PyProof.Rows.CountFlat
import HandS.TupLen
import HandS.SetKeys
import PyProof.CollectStr
import HandS.ExcInit
import PySem.Challenge.RW_wordrules_k53_undone
set_option Elab.async false
set_option linter.all false
set_option maxRecDepth 100000
set_option maxHeartbeats 4000000
namespace AL
open PySem PySem.Spec L2
inductive D where
  | non | bl (b : Bool) | int (i : Int) | str (x : Str) | lst (xs : List D) | tup (xs : List D) | dk (kvs : List (Key × D)) | scr (ns : List Int) | ce (a : Addr)
  deriving Inhabited
inductive Cell where
  | lst (xs : List D) | dk (kvs : List (Key × D)) | dn (kvs : List (NestedKey × D)) | exc (nm : Str) | ob (nm : Str) (fs : List (Str × D))
abbrev AH := Addr → Option Cell
def put (C : AH) (a : Addr) (c : Cell) : AH := fun b => if b = a then some c else C b
def del (C : AH) (a : Addr) : AH := fun b => if b = a then none else C b
@[simp] theorem put_same {C : AH} {a : Addr} {c : Cell} : put C a c a = some c := by unfold put; rw [if_pos rfl]
theorem put_ne {C : AH} {a b : Addr} {c : Cell} (h : b ≠ a) : put C a c b = C b := by unfold put; rw [if_neg h]
@[simp] theorem put_put {C : AH} {a : Addr} {c d : Cell} : put (put C a c) a d = put C a d := by
  funext b; unfold put; split <;> rfl
def Ex (H H' : Hp) : Prop := ∀ a o, H a = some o → H' a = some o
theorem Ex.refl (H : Hp) : Ex H H := fun _ _ h => h
theorem Ex.trans {H H1 H2 : Hp} (a : Ex H H1) (b : Ex H1 H2) : Ex H H2 := fun x o h => b x o (a x o h)
theorem Ex.new {H : Hp} {p : Addr} {o : HO} (h : H p = none) : Ex H (upd H p o) := fun a u e => by
  rw [upd_ne (ne_of_none e h)]
  exact e
theorem Ex.l {K : PySem.W.Frag} {H H' : Hp} {a : Addr} {xs : List V} (e : Ex H H') (h : SqL K H a xs) : SqL K H' a xs := by
  rcases h with (h | ⟨o, h⟩) | h
  · exact Or.inl (Or.inl (e a _ h))
  · exact Or.inl (Or.inr ⟨o, e a _ h⟩)
  · exact Or.inr h
theorem Ex.back {H H' : Hp} {p : Addr} (e : Ex H H') (h : H' p = none) : H p = none := by
  cases h1 : H p with
  | none => rfl
  | some o => rw [e p o h1] at h; cases h
def wkP : List D → Bool
  | [.int _, _] => true
  | _ => false
/-- at a stands a tuple -/
def TupS (F : Hp) (a : Addr) (xs : List V) (ds : List D) : Prop := Rd F a (.tup xs) ∧ (wkP ds = false → ∃ o : Obj, o.dict = none ∧ F a = some (.frz o (.tup xs)))
theorem rdUp {F F' : Hp} {a : Addr} {u : HO} (h : Rd F a u) (e : Ex F F') : Rd F' a u := by
  rcases h with h | ⟨o, h⟩
  · exact .inl (e a _ h)
  · exact .inr ⟨o, e a _ h⟩
theorem TupS.mono {F F' : Hp} {a : Addr} {xs : List V} {ds : List D} (h : TupS F a xs ds) (e : Ex F F') : TupS F' a xs ds :=
  ⟨rdUp h.1 e, fun q => let ⟨o, h1, h2⟩ := h.2 q; ⟨o, h1, e a _ h2⟩⟩
theorem TupS.sq {K : PySem.W.Frag} {F H : Hp} {a : Addr} {xs : List V} {ds : List D} (h : TupS F a xs ds) (e : Ex F H) : SqT K H a xs := .inl (rdUp h.1 e)
theorem SqT.of {K : PySem.W.Frag} {H : Hp} {a : Addr} {xs : List V} (h : Rd H a (.tup xs)) : SqT K H a xs := .inl h
theorem TupS.frz {F : Hp} {a : Addr} {xs : List V} {ds : List D} {o : Obj} (h1 : o.dict = none) (h2 : F a = some (.frz o (.tup xs))) : TupS F a xs ds := ⟨.inr ⟨o, h2⟩, fun _ => ⟨o, h1, h2⟩⟩
mutual
inductive Rep (K : PySem.W.Frag) (F : Hp) : V → D → Prop
  | non : Rep K F .non .non
  | bl (b : Bool) : Rep K F (.bl b) (.bl b)
  | int (i : Int) : Rep K F (.int i) (.int i)
  | str (x : Str) : Rep K F (.str x) (.str x)
  | lst {a : Addr} {xs : List V} {ds : List D} : F a = some (.lst xs) → RepL K F xs ds → Rep K F (.ref a) (.lst ds)
  | tup {a : Addr} {xs : List V} {ds : List D} : TupS F a xs ds → RepL K F xs ds → Rep K F (.ref a) (.tup ds)
  | dk {a : Addr} {kvs : List (Key × V)} {es : List (Key × D)} : F a = some (.dK kvs) → RepK K F kvs es → Rep K F (.ref a) (.dk es)
  | scr {a : Addr} {ns : List Int} : SqL K F a (ns.map V.int) → Rep K F (.ref a) (.scr ns)
  | ce (a : Addr) : Rep K F (.ref a) (.ce a)
inductive RepL (K : PySem.W.Frag) (F : Hp) : List V → List D → Prop
  | nil : RepL K F [] []
  | cons {v : V} {vs : List V} {d : D} {ds : List D} : Rep K F v d → RepL K F vs ds → RepL K F (v :: vs) (d :: ds)
inductive RepK (K : PySem.W.Frag) (F : Hp) : List (Key × V) → List (Key × D) → Prop
  | nil : RepK K F [] []
  | cons {k : Key} {v : V} {vs : List (Key × V)} {d : D} {ds : List (Key × D)} : Rep K F v d → RepK K F vs ds → RepK K F ((k, v) :: vs) ((k, d) :: ds)
end
mutual
theorem Rep.mono {K : PySem.W.Frag} {F F' : Hp} (e : Ex F F') : ∀ {v : V} {d : D}, Rep K F v d → Rep K F' v d
  | _, _, .non => .non
  | _, _, .bl b => .bl b
  | _, _, .int i => .int i
  | _, _, .str x => .str x
  | _, _, .lst h r => .lst (e _ _ h) (RepL.mono e r)
  | _, _, .tup h r => .tup (h.mono e) (RepL.mono e r)
  | _, _, .dk h r => .dk (e _ _ h) (RepK.mono e r)
  | _, _, .scr h => .scr (e.l h)
  | _, _, .ce a => .ce a
theorem RepL.mono {K : PySem.W.Frag} {F F' : Hp} (e : Ex F F') : ∀ {vs : List V} {ds : List D}, RepL K F vs ds → RepL K F' vs ds
  | _, _, .nil => .nil
  | _, _, .cons r t => .cons (Rep.mono e r) (RepL.mono e t)
theorem RepK.mono {K : PySem.W.Frag} {F F' : Hp} (e : Ex F F') : ∀ {vs : List (Key × V)} {ds : List (Key × D)}, RepK K F vs ds → RepK K F' vs ds
  | _, _, .nil => .nil
  | _, _, .cons r t => .cons (Rep.mono e r) (RepK.mono e t)
end
section
variable {K : PySem.W.Frag} {F F' : Hp}
theorem RepL.length : ∀ {vs : List V} {ds : List D}, RepL K F vs ds → vs.length = ds.length
  | _, _, .nil => rfl
  | _, _, .cons _ t => by rw [List.length_cons, List.length_cons, RepL.length t]
theorem RepL.get : ∀ {vs : List V} {ds : List D} {i : Nat} {v : V}, RepL K F vs ds → vs[i]? = some v → ∃ d, ds[i]? = some d ∧ Rep K F v d
  | _, _, _, _, .nil, e => by simp at e
  | _, _, 0, _, .cons r _, e => by simp at e; subst e; exact ⟨_, rfl, r⟩
  | _, _, i + 1, v, .cons _ t, e => by
    obtain ⟨u, h1, h2⟩ := RepL.get (i := i) (v := v) t (by simpa using e)
    exact ⟨u, by simpa using h1, h2⟩
theorem RepL.getD : ∀ {vs : List V} {ds : List D} {i : Nat} {d : D}, RepL K F vs ds → ds[i]? = some d → ∃ v, vs[i]? = some v ∧ Rep K F v d
  | _, _, _, _, .nil, e => by simp at e
  | _, _, 0, _, .cons r _, e => by simp at e; subst e; exact ⟨_, rfl, r⟩
  | _, _, i + 1, v, .cons _ t, e => by
    obtain ⟨u, h1, h2⟩ := RepL.getD (i := i) (d := v) t (by simpa using e)
    exact ⟨u, by simpa using h1, h2⟩
theorem RepL.set {x : V} {u : D} (r : Rep K F x u) : ∀ {xs : List V} {us : List D} (i : Nat), RepL K F xs us → RepL K F (xs.set i x) (us.set i u)
  | _, _, _, .nil => .nil
  | _, _, 0, .cons _ t => .cons r t
  | _, _, i + 1, .cons q t => .cons q (RepL.set r i t)
theorem RepL.append : ∀ {xs ys : List V} {us ws : List D}, RepL K F xs us → RepL K F ys ws → RepL K F (xs ++ ys) (us ++ ws)
  | _, _, _, _, .nil, s => s
  | _, _, _, _, .cons r t, s => .cons r (RepL.append t s)
theorem RepL.take : ∀ {xs : List V} {us : List D} (n : Nat), RepL K F xs us → RepL K F (xs.take n) (us.take n)
  | _, _, 0, _ => .nil
  | _, _, _ + 1, .nil => .nil
  | _, _, n + 1, .cons r t => .cons r (RepL.take n t)
theorem RepL.drop : ∀ {xs : List V} {us : List D} (n : Nat), RepL K F xs us → RepL K F (xs.drop n) (us.drop n)
  | _, _, 0, r => r
  | _, _, _ + 1, .nil => .nil
  | _, _, n + 1, .cons _ t => RepL.drop n t
theorem RepL.reverse : ∀ {xs : List V} {us : List D}, RepL K F xs us → RepL K F xs.reverse us.reverse
  | _, _, .nil => .nil
  | _, _, .cons r t => by
    rw [List.reverse_cons, List.reverse_cons]
    exact RepL.append (RepL.reverse t) (.cons r .nil)
theorem RepL.dropLast {xs : List V} {us : List D} (h : RepL K F xs us) : RepL K F xs.dropLast us.dropLast := by
  rw [List.dropLast_eq_take, List.dropLast_eq_take, h.length]
  exact h.take _
theorem RepL.erase : ∀ {xs : List V} {us : List D} (i : Nat), RepL K F xs us → RepL K F (xs.eraseIdx i) (us.eraseIdx i)
  | _, _, _, .nil => .nil
  | _, _, 0, .cons _ t => t
  | _, _, i + 1, .cons q t => .cons q (RepL.erase i t)
theorem RepL.ints : ∀ ns : List Int, RepL K F (ns.map V.int) (ns.map D.int)
  | [] => .nil
  | n :: ns => .cons (.int n) (RepL.ints ns)
theorem RepL.ofInts : ∀ {xs : List V} {ns : List Int}, RepL K F xs (ns.map D.int) → xs = ns.map V.int
  | _, [], .nil => rfl
  | _, n :: ns, .cons (.int _) t => by rw [List.map_cons, RepL.ofInts t]
theorem RepL.ofStrs : ∀ {xs : List V} {ns : List Str}, RepL K F xs (ns.map D.str) → xs = ns.map V.str
  | _, [], .nil => rfl
  | _, n :: ns, .cons (.str _) t => by rw [List.map_cons, RepL.ofStrs t]
theorem RepL.ofBls : ∀ {xs : List V} {ns : List Bool}, RepL K F xs (ns.map D.bl) → xs = ns.map V.bl
  | _, [], .nil => rfl
  | _, n :: ns, .cons (.bl _) t => by rw [List.map_cons, RepL.ofBls t]
end
/-- entries whose keys are tuples -/
inductive RepT (K : PySem.W.Frag) (F : Hp) : List (List Key × V) → List (List Key × D) → Prop
  | nil : RepT K F [] []
  | cons {k : List Key} {v : V} {vs : List (List Key × V)} {d : D} {ds : List (List Key × D)} : Rep K F v d → RepT K F vs ds → RepT K F ((k, v) :: vs) ((k, d) :: ds)
theorem RepT.mono {K : PySem.W.Frag} {F F' : Hp} (e : Ex F F') : ∀ {vs : List (List Key × V)} {ds : List (List Key × D)}, RepT K F vs ds → RepT K F' vs ds
  | _, _, .nil => .nil
  | _, _, .cons r t => .cons (r.mono e) (t.mono e)
mutual
/-- a value that is a key -/
inductive VKey (F : Hp) : V → NestedKey → Prop
  | non : VKey F .non .none
  | bl (b : Bool) : VKey F (.bl b) (.num (if b = true then 1 else 0))
  | int (i : Int) : VKey F (.int i) (.num i)
  | str (x : Str) : VKey F (.str x) (.text x)
  | tup {a : Addr} {vs : List V} {ks : List NestedKey} : Rd F a (.tup vs) → VKeys F vs ks → VKey F (.ref a) (.tup ks)
inductive VKeys (F : Hp) : List V → List NestedKey → Prop
  | nil : VKeys F [] []
  | cons {v : V} {vs : List V} {k : NestedKey} {ks : List NestedKey} : VKey F v k → VKeys F vs ks → VKeys F (v :: vs) (k :: ks)
end
mutual
theorem VKey.mono {F F' : Hp} (e : Ex F F') : ∀ {v : V} {k : NestedKey}, VKey F v k → VKey F' v k
  | _, _, .non => .non
  | _, _, .bl b => .bl b
  | _, _, .int i => .int i
  | _, _, .str x => .str x
  | _, _, .tup h r => .tup (rdUp h e) (VKeys.mono e r)
theorem VKeys.mono {F F' : Hp} (e : Ex F F') : ∀ {v : List V} {k : List NestedKey}, VKeys F v k → VKeys F' v k
  | _, _, .nil => .nil
  | _, _, .cons r t => .cons (VKey.mono e r) (VKeys.mono e t)
end
inductive RepN (K : PySem.W.Frag) (F : Hp) : List (NestedKey × Addr × V) → List (NestedKey × D) → Prop
  | nil : RepN K F [] []
  | cons {k : NestedKey} {a : Addr} {v : V} {vs : List (NestedKey × Addr × V)} {d : D} {ds : List (NestedKey × D)} : VKey F (.ref a) k → k.depth ≤ 8 → Rep K F v d → RepN K F vs ds → RepN K F ((k, a, v) :: vs) ((k, d) :: ds)
theorem RepN.mono {K : PySem.W.Frag} {F F' : Hp} (e : Ex F F') : ∀ {vs : List (NestedKey × Addr × V)} {ds : List (NestedKey × D)}, RepN K F vs ds → RepN K F' vs ds
  | _, _, .nil => .nil
  | _, _, .cons a b r t => .cons (a.mono e) b (r.mono e) (t.mono e)
/-- at p stands a dict with these entries -/
def DictN (w : World) (p : Addr) (xs : List (NestedKey × Addr × V)) : Heap → Prop := fun h => xs.length ≤ sizeLine ∧ (p == sysModules) = false ∧
  ∃ ys : List (NestedKey × Addr × Value), Paired (fun (x : NestedKey × Addr × V) (y : NestedKey × Addr × Value) => x.1 = y.1 ∧ x.2.1 = y.2.1 ∧ RelV x.2.2 y.2.2) xs ys ∧
  ∃ (o : Obj) (es : Array DictEntry) (ep : Nat), h.get? p = some o ∧ o.ExactDict ∧ o.data = .dict es ep ∧ es.toList = ys.map (fun x => (⟨x.1.hash w, .ref x.2.1, x.2.2⟩ : DictEntry)) ∧ (ys.map (·.1)).Nodup
/-- fields of an object -/
inductive RepF (K : PySem.W.Frag) (F : Hp) : List (Str × V) → List (Str × D) → Prop
  | nil : RepF K F [] []
  | cons {k : Str} {v : V} {vs : List (Str × V)} {d : D} {ds : List (Str × D)} : Rep K F v d → RepF K F vs ds → RepF K F ((k, v) :: vs) ((k, d) :: ds)
theorem RepF.mono {K : PySem.W.Frag} {F F' : Hp} (e : Ex F F') : ∀ {vs : List (Str × V)} {ds : List (Str × D)}, RepF K F vs ds → RepF K F' vs ds
  | _, _, .nil => .nil
  | _, _, .cons r t => .cons (r.mono e) (t.mono e)
/-- the grounds: the world, the module's names -/
structure Gd where
  w : World
  mg : Str → Option Value
/-- at p stands an exception of a class, without attributes -/
def ExcAt (cls : Value) (p : Addr) : Heap → Prop := fun h => ∃ (oe : Obj) (vs : Array Value), h.get? p = some oe ∧ oe.cls = cls ∧ oe.dict = none ∧ oe.data = .fields vs
/-- what a cell holds -/
inductive CellC (w : Gd) (K : PySem.W.Frag) (F : Hp) (p : Addr) : HO → Cell → Prop
  | lst {xs : List V} {ds : List D} : RepL K F xs ds → CellC w K F p (.lst xs) (.lst ds)
  | dk {kvs : List (Key × V)} {es : List (Key × D)} : RepK K F kvs es → CellC w K F p (.dK kvs) (.dk es)
  | dn {xs : List (NestedKey × Addr × V)} {es : List (NestedKey × D)} : RepN K F xs es → CellC w K F p (.ext (DictN w.w p xs)) (.dn es)
  | exc {nm : Str} {cls : Value} : w.mg nm = some cls → CellC w K F p (.ext (ExcAt cls p)) (.exc nm)
  | ob {nm : Str} {C dx : Addr} {fs : List (Str × V)} {es : List (Str × D)} : w.mg nm = some (.ref C) → RepF K F fs es → CellC w K F p (.ins C dx fs) (.ob nm es)
theorem CellC.mono {w : Gd} {K : PySem.W.Frag} {F F' : Hp} {p : Addr} (e : Ex F F') {o : HO} {c : Cell} : CellC w K F p o c → CellC w K F' p o c
  | .lst r => .lst (r.mono e)
  | .dk r => .dk (r.mono e)
  | .dn r => .dn (r.mono e)
  | .exc h => .exc h
  | .ob h r => .ob h (r.mono e)
/-- what was known, and kept aside, where the def, or the try, was entered -/
structure Bs where
  F0 : Hp
  R0 : Hp
  g : Gd
/-- the empty ground -/
def Bs.nil (w : Gd) : Bs := ⟨fun _ => none, fun _ => none, w⟩
/-- F: what is known for good; C: the cells; R: what is kept aside -/
structure Sat (B : Bs) (K : PySem.W.Frag) (F : Hp) (C : AH) (R H : Hp) : Prop where
  bF : Ex B.F0 F
  bR : Ex B.R0 R
  ex : Ex F H
  cell : ∀ p c, C p = some c → F p = none ∧ ∃ o, H p = some o ∧ CellC B.g K F p o c
  priv : ∀ p o, R p = some o → F p = none ∧ C p = none ∧ H p = some o
section
variable {B : Bs} {K : PySem.W.Frag} {F F' : Hp} {C : AH} {R H : Hp} {p : Addr}
theorem Sat.rebase {B' : Bs} (S : Sat B K F C R H) (hw : B'.g = B.g) (h1 : Ex B'.F0 F) (h2 : Ex B'.R0 R) : Sat B' K F C R H := ⟨h1, h2, S.ex, fun p c e => by rw [hw]; exact S.cell p c e, S.priv⟩
theorem Sat.nil (S : Sat B K F C R H) : Sat (Bs.nil B.g) K F C R H := S.rebase rfl (fun _ _ e => by cases e) (fun _ _ e => by cases e)
/-- back behind a call -/
theorem Sat.back {C0 : AH} {H0 : Hp} {F1 : Hp} {C1 : AH} {H1 : Hp} (S : Sat B K F C0 R H0) (e : Ex F F1) (S1 : Sat (Bs.nil B.g) K F1 C1 R H1) : Sat B K F1 C1 R H1 := S1.rebase rfl (S.bF.trans e) S.bR
theorem Sat.freeB (S : Sat B K F C R H) (h : R p = none) : B.R0 p = none := S.bR.back h
theorem Sat.freeF (S : Sat B K F C R H) (h : H p = none) : F p = none := S.ex.back h
theorem Sat.freeC (S : Sat B K F C R H) (h : H p = none) : C p = none := by
  cases q : C p with
  | none => rfl
  | some c => obtain ⟨_, o, e, _⟩ := S.cell p c q; rw [h] at e; cases e
theorem Sat.freeR (S : Sat B K F C R H) (h : H p = none) : R p = none := by
  cases q : R p with
  | none => rfl
  | some c => have e := (S.priv p c q).2.2; rw [h] at e; cases e
/-- a new object, known for good -/
theorem Sat.newF (S : Sat B K F C R H) (h : H p = none) (o : HO) : Sat B K (upd F p o) C R (upd H p o) := by
  have hF := S.freeF h
  refine ⟨S.bF.trans (Ex.new hF), S.bR, fun a u e => ?_, fun q c e => ?_, fun q u e => ?_⟩
  · by_cases ha : a = p
    · subst ha; rw [upd_same] at e ⊢; exact e
    · rw [upd_ne ha] at e ⊢; exact S.ex _ _ e
  · obtain ⟨h1, u, h2, h3⟩ := S.cell q c e
    have hq : q ≠ p := ne_of_none h2 h
    exact ⟨by rw [upd_ne hq]; exact h1, u, by rw [upd_ne hq]; exact h2, h3.mono (Ex.new hF)⟩
  · obtain ⟨h1, h2, h3⟩ := S.priv q u e
    have hq : q ≠ p := ne_of_none h3 h
    exact ⟨by rw [upd_ne hq]; exact h1, h2, by rw [upd_ne hq]; exact h3⟩
/-- a cell is made, or changed -/
theorem Sat.setC (S : Sat B K F C R H) (hF : F p = none) (hR : R p = none) {o : HO} {c : Cell} (h : CellC B.g K F p o c) : Sat B K F (put C p c) R (upd H p o) := by
  refine ⟨S.bF, S.bR, fun a u e => ?_, fun q d e => ?_, fun q u e => ?_⟩
  · rw [upd_ne (ne_of_none e hF)]; exact S.ex _ _ e
  · by_cases hq : q = p
    · subst hq; rw [put_same] at e; cases e; exact ⟨hF, o, upd_same, h⟩
    · rw [put_ne hq] at e
      obtain ⟨h1, u, h2, h3⟩ := S.cell q d e
      exact ⟨h1, u, by rw [upd_ne hq]; exact h2, h3⟩
  · have hq : q ≠ p := ne_of_none e hR
    obtain ⟨h1, h2, h3⟩ := S.priv q u e
    exact ⟨h1, by rw [put_ne hq]; exact h2, by rw [upd_ne hq]; exact h3⟩
theorem Sat.newC (S : Sat B K F C R H) (h : H p = none) {o : HO} {c : Cell} (hc : CellC B.g K F p o c) : Sat B K F (put C p c) R (upd H p o) := S.setC (S.freeF h) (S.freeR h) hc
theorem Sat.mutC (S : Sat B K F C R H) {c0 : Cell} (h : C p = some c0) {o : HO} {c : Cell} (hc : CellC B.g K F p o c) : Sat B K F (put C p c) R (upd H p o) := by
  refine S.setC (S.cell p c0 h).1 ?_ hc
  cases q : R p with
  | none => rfl
  | some u => have e := (S.priv p u q).2.1; rw [h] at e; cases e
/-- kept aside -/
theorem Sat.setR (S : Sat B K F C R H) (hF : F p = none) (hC : C p = none) (hB : B.R0 p = none) (o : HO) : Sat B K F C (upd R p o) (upd H p o) := by
  refine ⟨S.bF, fun q u e => by rw [upd_ne (ne_of_none e hB)]; exact S.bR q u e, fun a u e => ?_, fun q d e => ?_, fun q u e => ?_⟩
  · rw [upd_ne (ne_of_none e hF)]; exact S.ex _ _ e
  · have hq : q ≠ p := fun z => by rw [z, hC] at e; cases e
    obtain ⟨h1, u, h2, h3⟩ := S.cell q d e
    exact ⟨h1, u, by rw [upd_ne hq]; exact h2, h3⟩
  · by_cases hq : q = p
    · subst hq; rw [upd_same] at e; cases e; exact ⟨hF, hC, upd_same⟩
    · rw [upd_ne hq] at e
      obtain ⟨h1, h2, h3⟩ := S.priv q u e
      exact ⟨h1, h2, by rw [upd_ne hq]; exact h3⟩
/-- what was kept aside is known for good, is a cell -/
theorem Sat.outF (S : Sat B K F C (upd R p o) H) (hR : R p = none) (hB : B.R0 p = none) : Sat B K (upd F p o) C R H := by
  obtain ⟨f, c, h⟩ := S.priv p o upd_same
  refine ⟨S.bF.trans (Ex.new f), fun q u e => by have := S.bR q u e; rwa [upd_ne (ne_of_none e hB)] at this, fun a u e => ?_, fun q d e => ?_, fun q u e => ?_⟩
  · by_cases ha : a = p
    · subst ha; rw [upd_same] at e; cases e; exact h
    · rw [upd_ne ha] at e; exact S.ex _ _ e
  · have hq : q ≠ p := fun z => by rw [z, c] at e; cases e
    obtain ⟨h1, u, h2, h3⟩ := S.cell q d e
    exact ⟨by rw [upd_ne hq]; exact h1, u, h2, h3.mono (Ex.new f)⟩
  · have hq : q ≠ p := ne_of_none e hR
    obtain ⟨h1, h2, h3⟩ := S.priv q u (by rw [upd_ne hq]; exact e)
    exact ⟨by rw [upd_ne hq]; exact h1, h2, h3⟩
/-- a cell is changed no more -/
theorem Sat.freeze {o : HO} {c : Cell} (S : Sat B K F C R H) (h : C p = some c) (hH : H p = some o) : Sat B K (upd F p o) (del C p) R H := by
  obtain ⟨f, _, _⟩ := S.cell p c h
  refine ⟨S.bF.trans (Ex.new f), S.bR, fun a u e => ?_, fun q d e => ?_, fun q u e => ?_⟩
  · by_cases ha : a = p
    · subst ha; rw [upd_same] at e; cases e; exact hH
    · rw [upd_ne ha] at e; exact S.ex _ _ e
  · by_cases hq : q = p
    · subst hq; unfold del at e; rw [if_pos rfl] at e; cases e
    · unfold del at e; rw [if_neg hq] at e
      obtain ⟨h1, u, h2, h3⟩ := S.cell q d e
      exact ⟨by rw [upd_ne hq]; exact h1, u, h2, h3.mono (Ex.new f)⟩
  · obtain ⟨h1, h2, h3⟩ := S.priv q u e
    have hq : q ≠ p := fun z => by rw [z, h] at h2; cases h2
    refine ⟨by rw [upd_ne hq]; exact h1, ?_, h3⟩
    unfold del; rw [if_neg hq]; exact h2
end
abbrev ASt := List (Option D)
structure Slo (K : PySem.W.Frag) (F : Hp) (s : ASt) (σ : St) : Prop where
  len : s.length = σ.length
  at' : ∀ (i : Nat) (d : D), s[i]? = some (some d) → ∃ v, σ[i]? = some (some v) ∧ Rep K F v d
section
variable {K : PySem.W.Frag} {F F' : Hp} {s : ASt} {σ : St}
theorem Slo.mono (r : Slo K F s σ) (e : Ex F F') : Slo K F' s σ := ⟨r.len, fun i d h => let ⟨v, a, b⟩ := r.at' i d h; ⟨v, a, b.mono e⟩⟩
theorem Slo.set (r : Slo K F s σ) {v : V} {d : D} (h : Rep K F v d) (i : Nat) : Slo K F (s.set i (some d)) (σ.set i (some v)) := by
  refine ⟨by rw [List.length_set, List.length_set, r.len], fun j e q => ?_⟩
  by_cases hj : i = j
  · subst hj
    by_cases hi : i < s.length
    · rw [List.getElem?_set_self hi] at q
      cases q
      exact ⟨v, List.getElem?_set_self (by rw [← r.len]; exact hi), h⟩
    · rw [List.getElem?_eq_none (by simpa using hi)] at q; cases q
  · rw [List.getElem?_set_ne hj] at q ⊢
    exact r.at' j e q
theorem Slo.forget (r : Slo K F s σ) (i : Nat) : Slo K F (s.set i none) (σ.set i none) := by
  refine ⟨by rw [List.length_set, List.length_set, r.len], fun j e q => ?_⟩
  by_cases hj : i = j
  · subst hj
    by_cases hi : i < s.length
    · rw [List.getElem?_set_self hi] at q; cases q
    · rw [List.getElem?_eq_none (by simpa using hi)] at q; cases q
  · rw [List.getElem?_set_ne hj] at q ⊢
    exact r.at' j e q
/-- only the abstract slot changes -/
theorem Slo.reset (r : Slo K F s σ) {i : Nat} {d0 d : D} (h0 : s[i]? = some (some d0)) (h : ∀ v, Rep K F v d0 → Rep K F v d) : Slo K F (s.set i (some d)) σ := by
  refine ⟨by rw [List.length_set, r.len], fun j e q => ?_⟩
  by_cases hj : i = j
  · subst hj
    have hi : i < s.length := (List.getElem?_eq_some_iff.mp h0).1
    rw [List.getElem?_set_self hi] at q
    cases q
    obtain ⟨v, h1, h2⟩ := r.at' i d0 h0
    exact ⟨v, h1, h v h2⟩
  · rw [List.getElem?_set_ne hj] at q
    exact r.at' j e q
def wipeA (s : ASt) : List Nat → ASt
  | [] => s
  | v :: vs => (wipeA s vs).set v none
theorem Slo.wipe (r : Slo K F s σ) : ∀ vs : List Nat, Slo K F (wipeA s vs) (L2.wipe σ vs)
  | [] => r
  | v :: vs => (Slo.wipe r vs).forget v
theorem Slo.start {vs : List V} {ds : List D} (h : RepL K F vs ds) (n : Nat) : Slo K F (ds.map some ++ List.replicate (n - ds.length) none) (vs.map some ++ List.replicate (n - vs.length) none) := by
  have e := h.length
  refine ⟨by simp [e], fun i d q => ?_⟩
  by_cases hi : i < ds.length
  · rw [List.getElem?_append_left (by simpa using hi), List.getElem?_map] at q
    rw [List.getElem?_append_left (by simpa [e] using hi), List.getElem?_map]
    cases z : ds[i]? with
    | none => rw [z] at q; cases q
    | some d' =>
      rw [z] at q
      cases q
      obtain ⟨v, h1, h2⟩ := h.getD z
      exact ⟨v, by rw [h1]; rfl, h2⟩
  · rw [List.getElem?_append_right (by simpa using hi), List.getElem?_replicate] at q
    split at q <;> cases q
end
end AL
namespace AL
open PySem PySem.Spec PyProof.Rows L2
def NewT (xs : List V) (Q : VK) (H : Hp) : Prop := ∀ (p : Addr) (ob : Obj), ob.dict = none → H p = none → Q (.ref p) (upd H p (.frz ob (.tup xs)))
section
variable {X : Cx} {pins : List (Addr × Obj)} {σ : L2.St} {H : Hp} {s : Shared}
theorem laidT {xs : List V} {its : List Value} {Q : VK} {h' : Heap} {tk : Nat} (I : Inv X pins σ H { s with heap := h' }) (hz : xs.length ≤ sizeLine) (r : L2.Vals xs its) (q : NewT xs Q H) :
    EP X pins σ Q (.ref h'.objs.size) { s with heap := h'.push { cls := .type "tuple", data := .seq its.toArray } } := by
  refine ⟨.ref h'.objs.size, upd H h'.objs.size (.frz { cls := .type "tuple", data := .seq its.toArray } (.tup xs)), I.laid (t' := s.toks) (fun b u e => Heap.get?_push_of_some _ e) (Nat.le_refl _) ?_, rfl, q _ _ rfl (I.hok.fresh (Nat.le_refl _))⟩
  exact ⟨Heap.get?_push_size _ rfl, hz, its, r, ⟨_, Heap.get?_push_size _ rfl, rfl, _, rfl⟩⟩
end
def tTupN (t : TA) : TE := fun σ H Q => t σ H fun xs H1 => xs.length ≤ sizeLine ∧ NewT xs Q H1
section
variable {X : Cx} {es : List Expr} {t : TA} {pos : Pos}
theorem pe_tupN {x1} (h : PA X es t) : PE X (.Tuple es x1 pos) (tTupN t) := by
  refine ⟨fun pins s σ H Q I hq => ?_⟩
  refine wpAny_Tuple_spliced (thn (h.run pos pins s σ H _ I hq) fun us s1 ⟨xs, H1, I1, r, z, q⟩ => ⟨by rw [← r.length]; exact z, ?_⟩)
  exact laidT (tk := s1.toks) I1 z r q
def rCatTN (K : PySem.W.Frag) : R2 := fun x y H Q => ∃ a b xs ys, x = .ref a ∧ y = .ref b ∧ SqT K H a xs ∧ SqT K H b ys ∧ xs.length + ys.length ≤ sizeLine ∧
  (xs = [] → Q (.ref b) H) ∧ (xs ≠ [] → ys = [] → Q (.ref a) H) ∧ (xs ≠ [] → ys ≠ [] → NewT (xs ++ ys) Q H)
theorem op_catTN : OpR X (binaryOp .Add) (rCatTN X.K) := by
  intro pins s σ H x y v u Q I rx ry h
  obtain ⟨a, b, xs, ys, rfl, rfl, ha, hb, hz, q0, q1, q2⟩ := h
  by_cases hx : xs = []
  · exact op_catA pins s σ H _ _ v u Q I rx ry ⟨a, b, xs, ys, rfl, rfl, ha, hb, hz, q0, q1, fun h => absurd hx h⟩
  by_cases hy : ys = []
  · exact op_catA pins s σ H _ _ v u Q I rx ry ⟨a, b, xs, ys, rfl, rfl, ha, hb, hz, q0, q1, fun _ h => absurd hy h⟩
  cases rx
  cases ry
  obtain ⟨its, r1, p1, _⟩ := I.tuple ha
  obtain ⟨its2, r2, p2, _⟩ := I.tuple hb
  refine HT.cat_tup p1 p2 (fun z => hx (r1.nil_iff.mp z)) (fun z => absurd (r2.nil_iff.mp z) hy) (fun z => ?_) (by rw [← r1.length, ← r2.length]; exact hz)
  exact laidT (tk := s.toks) I (by rw [List.length_append]; exact hz) (r1.append r2) (q2 hx hy)
def rSlTN (K : PySem.W.Frag) : V → Option Int → Option Int → Hp → VK → Prop := fun x lo hi H Q => ∃ a xs, x = .ref a ∧ SqT K H a xs ∧
  (HT.sIx xs.length 0 lo = 0 ∧ HT.sIx xs.length xs.length hi = xs.length → Q (.ref a) H) ∧ (¬ (HT.sIx xs.length 0 lo = 0 ∧ HT.sIx xs.length xs.length hi = xs.length) → NewT (cutV xs lo hi) Q H)
theorem sl_tupN : SlR X (rSlTN X.K) := by
  intro pins s σ H x v vl vu lo hi sl Q I rx hs pl pu h
  obtain ⟨a, xs, rfl, hx, q1, q2⟩ := h
  by_cases hw : HT.sIx xs.length 0 lo = 0 ∧ HT.sIx xs.length xs.length hi = xs.length
  · exact sl_tupA pins s σ H _ v vl vu lo hi sl Q I rx hs pl pu ⟨a, xs, rfl, hx, q1, fun h => absurd hw h⟩
  · cases rx
    obtain ⟨its, r, ht, hz⟩ := I.tuple hx
    have hlen : its.toArray.size = xs.length := by rw [List.size_toArray]; exact r.length.symm
    refine ⟨"tuple", _, PyProof.Rows.slot_tuple_getitem.lookup, ht.typeIs, ?_⟩
    refine HT.getItem_tuple_cut ht hs pl pu (by rw [hlen]; exact hw) ?_ (by rw [hlen]; exact hz)
    rw [hlen]
    exact laidT (tk := s.toks) I (Nat.le_trans (cutV_length xs lo hi) hz) ((r.drop (HT.sIx xs.length 0 lo)).take (HT.sIx xs.length xs.length hi - HT.sIx xs.length 0 lo)) (q2 hw)
def rTupOfN (K : PySem.W.Frag) : List V → Hp → VK → Prop := fun xs H Q => ∃ p ys, xs = [.ref p] ∧ ((SqL K H p ys ∧ NewT ys Q H) ∨ (SqT K H p ys ∧ Q (.ref p) H))
theorem call_tuple_ofN : CallR X (.type "tuple") (rTupOfN X.K) := by
  intro pins s σ H xs us Q I r h
  obtain ⟨p, ys, rfl, h⟩ := h
  rcases h with ⟨hq, q⟩ | h
  · obtain ⟨u, rfl, rx⟩ := vals1 r
    cases rx
    obtain ⟨its, r', pl, hz⟩ := I.list hq
    have hlen := r'.length
    refine call_tuple_list pl.isList (fun h' kp => ?_) (by simp only [List.size_toArray] <;> omega)
    have I1 : Inv X pins σ H { s with heap := h' } := I.kept (t' := s.toks) kp
    exact laidT (tk := s.toks) I1 hz r' q
  · exact call_tuple_of pins s σ H _ us Q I r ⟨p, ys, rfl, .inr h⟩
end
end AL
namespace AL
open PySem PySem.Spec L2
variable {B : Bs}
abbrev AE' := ASt → AH → (D → AH → Prop) → Prop
abbrev AT' := ASt → AH → (Bool → AH → Prop) → Prop
abbrev AA' := ASt → AH → (List D → AH → Prop) → Prop
structure AEnds where
  nx : ASt → AH → Prop
  rt : D → AH → Prop
  bk : ASt → AH → Prop := fun _ _ => False
  ct : ASt → AH → Prop := fun _ _ => False
abbrev AS' := AEnds → ASt → AH → Prop
abbrev AG' := D → ASt → AH → (ASt → AH → Prop) → Prop
/-- what is walked: the items, what must stay so, the cells -/
abbrev AI' := ASt → AH → (List D → (AH → Prop) → AH → Prop) → Prop
abbrev ASp := List D → AH → (D → AH → Prop) → Prop
section
variable (B : Bs) (K : PySem.W.Frag)
def SimE (te : TE) (a : AE') : Prop := ∀ (σ : L2.St) (s : ASt) (F : Hp) (C : AH) (R H : Hp) (Q : VK) (P : D → AH → Prop), Slo K F s σ → Sat B K F C R H → a s C P →
  (∀ d v F' C' H', Ex F F' → Sat B K F' C' R H' → Rep K F' v d → P d C' → Q v H') → te σ H Q
def SimT (tt : TT) (a : AT') : Prop := ∀ (σ : L2.St) (s : ASt) (F : Hp) (C : AH) (R H : Hp) (Q : Bool → Hp → Prop) (P : Bool → AH → Prop), Slo K F s σ → Sat B K F C R H → a s C P →
  (∀ b F' C' H', Ex F F' → Sat B K F' C' R H' → P b C' → Q b H') → tt σ H Q
def SimA (n : Nat) (ta : TA) (a : AA') : Prop := ∀ (σ : L2.St) (s : ASt) (F : Hp) (C : AH) (R H : Hp) (Q : List V → Hp → Prop) (P : List D → AH → Prop), Slo K F s σ → Sat B K F C R H → a s C P →
  (∀ ds vs F' C' H', Ex F F' → Sat B K F' C' R H' → RepL K F' vs ds → ds.length = n → P ds C' → Q vs H') → ta σ H Q
structure EndsR (F R : Hp) (E : AEnds) (D' : Ends) : Prop where
  nx : ∀ s σ F' C' H', Ex F F' → Slo K F' s σ → Sat B K F' C' R H' → E.nx s C' → D'.nx σ H'
  rt : ∀ d v F' C' H', Ex F F' → Rep K F' v d → Sat B K F' C' R H' → E.rt d C' → D'.rt v H'
  bk : ∀ s σ F' C' H', Ex F F' → Slo K F' s σ → Sat B K F' C' R H' → E.bk s C' → D'.bk σ H'
  ct : ∀ s σ F' C' H', Ex F F' → Slo K F' s σ → Sat B K F' C' R H' → E.ct s C' → D'.ct σ H'
def SimS (ts : TS) (a : AS') : Prop := ∀ (D' : Ends) (E : AEnds) (σ : L2.St) (s : ASt) (F : Hp) (C : AH) (R H : Hp), EndsR B K F R E D' → Slo K F s σ → Sat B K F C R H → a E s C → ts D' σ H
def SimG (g : TG) (a : AG') : Prop := ∀ (v : V) (d : D) (σ : L2.St) (s : ASt) (F : Hp) (C : AH) (R H : Hp) (Q : L2.St → Hp → Prop) (P : ASt → AH → Prop), Slo K F s σ → Sat B K F C R H → Rep K F v d → a d s C P →
  (∀ s' σ' F' C' H', Ex F F' → Slo K F' s' σ' → Sat B K F' C' R H' → P s' C' → Q σ' H') → g v σ H Q
/-- an iterator walks the items -/
structure Walks (F : Hp) (items : List D) (hold : AH → Prop) (J : It) : Prop where
  stop : ∀ F' C' R' H', Ex F F' → Sat B K F' C' R' H' → hold C' → J.stop items.length H'
  go : ∀ F' C' R' H' i, Ex F F' → Sat B K F' C' R' H' → hold C' → i < items.length → J.go i H'
  yld : ∀ F' C' R' H' i x H'', Ex F F' → Sat B K F' C' R' H' → hold C' → i < items.length → J.yld i H' x H'' → ∃ d F'', items[i]? = some d ∧ Ex F' F'' ∧ Sat B K F'' C' R' H'' ∧ Rep K F'' x d
def SimI (wi : TI) (a : AI') : Prop := ∀ (σ : L2.St) (s : ASt) (F : Hp) (C : AH) (R H : Hp) (Q : It → Hp → Prop) (P : List D → (AH → Prop) → AH → Prop), Slo K F s σ → Sat B K F C R H → a s C P →
  (∀ items hold J F' C' H', Ex F F' → Sat B K F' C' R H' → Walks B K F' items hold J → P items hold C' → Q J H') → wi σ H Q
def SimR2 (r : R2) (a : D → D → AH → (D → AH → Prop) → Prop) : Prop := ∀ (v w : V) (d e : D) (F : Hp) (C : AH) (R H : Hp) (Q : VK) (P : D → AH → Prop), Sat B K F C R H → Rep K F v d → Rep K F w e → a d e C P →
  (∀ d v F' C' H', Ex F F' → Sat B K F' C' R H' → Rep K F' v d → P d C' → Q v H') → r v w H Q
def SimR1 (r : V → Hp → VK → Prop) (a : D → AH → (D → AH → Prop) → Prop) : Prop := ∀ (v : V) (d : D) (F : Hp) (C : AH) (R H : Hp) (Q : VK) (P : D → AH → Prop), Sat B K F C R H → Rep K F v d → a d C P →
  (∀ d v F' C' H', Ex F F' → Sat B K F' C' R H' → Rep K F' v d → P d C' → Q v H') → r v H Q
def SimRL (r : List V → Hp → VK → Prop) (a : ASp) : Prop := ∀ (vs : List V) (ds : List D) (F : Hp) (C : AH) (R H : Hp) (Q : VK) (P : D → AH → Prop), Sat B K F C R H → RepL K F vs ds → a ds C P →
  (∀ d v F' C' H', Ex F F' → Sat B K F' C' R H' → Rep K F' v d → P d C' → Q v H') → r vs H Q
def SimRM (r : V → List V → Hp → VK → Prop) (a : D → ASp) : Prop := ∀ (v : V) (d : D) (vs : List V) (ds : List D) (F : Hp) (C : AH) (R H : Hp) (Q : VK) (P : D → AH → Prop), Sat B K F C R H → Rep K F v d → RepL K F vs ds → a d ds C P →
  (∀ d v F' C' H', Ex F F' → Sat B K F' C' R H' → Rep K F' v d → P d C' → Q v H') → r v vs H Q
end
structure AE (B : Bs) (X : Cx) (e : Expr) (te : TE) (a : AE') : Prop where
  pe : PE X e te
  sim : SimE B X.K te a
structure AT (B : Bs) (X : Cx) (e : Expr) (tt : TT) (a : AT') : Prop where
  pt : PT X e tt
  sim : SimT B X.K tt a
structure AW (B : Bs) (X : Cx) (e : Expr) (tt : TT) (a : AT') : Prop where
  pw : PW X e tt
  sim : SimT B X.K tt a
structure ATs (B : Bs) (X : Cx) (es : List Expr) (tt : TT) (a : AT') : Prop where
  pts : PTs X es tt
  sim : SimT B X.K tt a
structure AA (B : Bs) (X : Cx) (es : List Expr) (n : Nat) (ta : TA) (a : AA') : Prop where
  pa : PA X es ta
  sim : SimA B X.K n ta a
structure AS (B : Bs) (X : Cx) (st : Stmt) (ts : TS) (a : AS') : Prop where
  ps : PS X st ts
  sim : SimS B X.K ts a
structure ASs (B : Bs) (X : Cx) (st : List Stmt) (ts : TS) (a : AS') : Prop where
  ps : PSs X st ts
  sim : SimS B X.K ts a
/-- a target stores to the slots vs alone -/
def GIn (vs : List Nat) (g : TG) : Prop := ∀ x σ H (Q Q' : L2.St → Hp → Prop), g x σ H Q → (∀ σ2 H2, L2.wipe σ2 vs = L2.wipe σ vs → Q σ2 H2 → Q' σ2 H2) → g x σ H Q'
structure AG (B : Bs) (X : Cx) (e : Expr) (vs : List Nat) (g : TG) (a : AG') : Prop where
  pg : PG X e g
  sim : SimG B X.K g a
  inn : GIn vs g
structure AI (B : Bs) (X : Cx) (tg e : Expr) (wi : TI) (a : AI') : Prop where
  pi : PI X tg e wi
  sim : SimI B X.K wi a
def aVar (i : Nat) : AE' := fun s C P => match s[i]? with | some (some d) => P d C | _ => False
def aC (d : D) : AE' := fun _ C P => P d C
section
variable {X : Cx} {pos : Pos} {K : PySem.W.Frag}
theorem sim_var (i : Nat) : SimE B K (tVar i) (aVar i) := by
  intro σ s F C R H Q P hs hS h k
  unfold aVar at h
  split at h
  · rename_i d e
    obtain ⟨v, h1, h2⟩ := hs.at' i d e
    exact ⟨v, h1, k d v F C H (Ex.refl F) hS h2 h⟩
  · exact h.elim
theorem ae_v (i : Nat) {x : Str} (hN : X.N[i]? = some x := by rfl) (hv : Vis X.env.scope x := by first | exact Or.inl rfl | exact Or.inr (Or.inl rfl) | exact Or.inr (Or.inr rfl)) (hd : (x == ("__debug__" : Str)) = false := by decide)
    (hcd : (x == ("__classdict__" : Str)) = false := by decide) : AE B X (.Name x pos) (tVar i) (aVar i) := ⟨pe_var hN hv hd hcd, sim_var i⟩
theorem sim_c {v : V} {d : D} (h : ∀ F, Rep K F v d) : SimE B K (tC v) (aC d) := fun σ s F C R H Q P hs hS a k => k d v F C H (Ex.refl F) hS (h F) a
theorem ae_int {i j} : AE B X (.Constant (.int i) j pos) (tC (.int i)) (aC (.int i)) := ⟨pe_int, sim_c fun _ => .int i⟩
theorem ae_bl {b j} : AE B X (.Constant (.bool b) j pos) (tC (.bl b)) (aC (.bl b)) := ⟨pe_bl, sim_c fun _ => .bl b⟩
theorem ae_non {j} : AE B X (.Constant .none j pos) (tC .non) (aC .non) := ⟨pe_non, sim_c fun _ => .non⟩
theorem ae_str {x j} : AE B X (.Constant (.str x) j pos) (tC (.str x)) (aC (.str x)) := ⟨pe_str, sim_c fun _ => .str x⟩
theorem ae_gint {x : Str} {i : Int} (h : ∃ u, X.mg x = some u ∧ RelV (.int i) u) (hg : Gl X x := by rfl) (hd : (x == ("__debug__" : Str)) = false := by decide) : AE B X (.Name x pos) (tC (.int i)) (aC (.int i)) :=
  let ⟨_, h1, h2⟩ := h
  ⟨pe_glob hg h1 h2 hd, sim_c fun _ => .int i⟩
def aOp (r : D → D → AH → (D → AH → Prop) → Prop) (a b : AE') : AE' := fun s C P => a s C fun x C1 => b s C1 fun y C2 => r x y C2 P
def aUn (r : D → AH → (D → AH → Prop) → Prop) (a : AE') : AE' := fun s C P => a s C fun x C1 => r x C1 P
theorem sim_op {r : R2} {ar} {ta tb : TE} {a b : AE'} (hr : SimR2 B K r ar) (ha : SimE B K ta a) (hb : SimE B K tb b) : SimE B K (tOp r ta tb) (aOp ar a b) := by
  intro σ s F C R H Q P hs hS h k
  refine ha σ s F C R H _ _ hs hS h fun x v F1 C1 H1 e1 S1 r1 h1 => ?_
  refine hb σ s F1 C1 R H1 _ _ (hs.mono e1) S1 h1 fun y w F2 C2 H2 e2 S2 r2 h2 => ?_
  exact hr v w x y F2 C2 R H2 Q P S2 (r1.mono e2) r2 h2 fun d u F3 C3 H3 e3 S3 r3 h3 => k d u F3 C3 H3 ((e1.trans e2).trans e3) S3 r3 h3
theorem sim_un {r : V → Hp → VK → Prop} {ar} {ta : TE} {a : AE'} (hr : SimR1 B K r ar) (ha : SimE B K ta a) : SimE B K (tUn r ta) (aUn ar a) := by
  intro σ s F C R H Q P hs hS h k
  refine ha σ s F C R H _ _ hs hS h fun x v F1 C1 H1 e1 S1 r1 h1 => ?_
  exact hr v x F1 C1 R H1 Q P S1 r1 h1 fun d u F3 C3 H3 e3 S3 r3 h3 => k d u F3 C3 H3 (e1.trans e3) S3 r3 h3
/-- an operation f by values -/
structure AOp (B : Bs) (X : Cx) (f : Value → Value → Sem Value) (r : R2) (a : D → D → AH → (D → AH → Prop) → Prop) : Prop where
  op : OpR X f r
  sim : SimR2 B X.K r a
theorem ae_op {o : Operator} {r ar} {a b : Expr} {ta tb : TE} {aa ab : AE'} (ho : AOp B X (binaryOp o) r ar) (ha : AE B X a ta aa) (hb : AE B X b tb ab) : AE B X (.BinOp a o b pos) (tOp r ta tb) (aOp ar aa ab) := ⟨pe_op ho.op ha.pe hb.pe, sim_op ho.sim ha.sim hb.sim⟩
theorem ae_cmp {o : CmpOp} {r ar} {a b : Expr} {ta tb : TE} {aa ab : AE'} (ho : AOp B X (compareOp o) r ar) (ha : AE B X a ta aa) (hb : AE B X b tb ab) (hm : behindInMarks o b = false := by first | exact nomark _ | with_unfolding_all rfl) : AE B X (.Compare a [o] [b] pos) (tOp r ta tb) (aOp ar aa ab) :=
  ⟨pe_cmpR ho.op ha.pe hb.pe hm, sim_op ho.sim ha.sim hb.sim⟩
theorem SimR2.or {r r' : R2} {ar ar'} (h : SimR2 B K r ar) (h' : SimR2 B K r' ar') : SimR2 B K (fun x y H Q => r x y H Q ∨ r' x y H Q) (fun x y C P => ar x y C P ∨ ar' x y C P) := by
  intro v w d e F C R H Q P hS r1 r2 h0 k
  rcases h0 with q | q
  · exact .inl (h v w d e F C R H Q P hS r1 r2 q k)
  · exact .inr (h' v w d e F C R H Q P hS r1 r2 q k)
theorem SimR2.imp {r : R2} {ar ar' : D → D → AH → (D → AH → Prop) → Prop} (h : SimR2 B K r ar) (i : ∀ d e C P, ar' d e C P → ar d e C P) : SimR2 B K r ar' := fun v w d e F C R H Q P hS r1 r2 h0 k => h v w d e F C R H Q P hS r1 r2 (i d e C P h0) k
/-- ints in, a flat value out -/
def aI (c : Int → Int → Prop) (g : Int → Int → D) : D → D → AH → (D → AH → Prop) → Prop := fun x y C P => match x, y with
  | .int i, .int j => c i j ∧ P (g i j) C
  | _, _ => False
theorem simI {c : Int → Int → Prop} {g : Int → Int → V} {g' : Int → Int → D} (hg : ∀ F i j, Rep K F (g i j) (g' i j)) : SimR2 B K (rI c g) (aI c g') := by
  intro v w d e F C R H Q P hS r1 r2 h k
  unfold aI at h
  split at h
  · cases r1; cases r2
    exact ⟨_, _, rfl, rfl, h.1, k _ _ F C H (Ex.refl F) hS (hg F _ _) h.2⟩
  · exact h.elim
def aI0 (g : Int → Int → D) : D → D → AH → (D → AH → Prop) → Prop := fun x y C P => match x, y with
  | .int i, .int j => P (g i j) C
  | _, _ => False
theorem simI0 {g : Int → Int → V} {g' : Int → Int → D} (hg : ∀ F i j, Rep K F (g i j) (g' i j)) : SimR2 B K (rI0 g) (aI0 g') := by
  intro v w d e F C R H Q P hS r1 r2 h k
  unfold aI0 at h
  split at h
  · cases r1; cases r2
    exact ⟨_, _, rfl, rfl, k _ _ F C H (Ex.refl F) hS (hg F _ _) h⟩
  · exact h.elim
def aSub := aI0 fun i j => .int (i - j)
def aMul := aI CMul fun i j => .int (i * j)
def aDiv := aI CDiv fun i j => .int (i / j)
def aMod := aI (fun _ j => 0 < j) fun i j => .int (i % j)
def aLt := aI0 fun i j => .bl (decide (i < j))
def aLe := aI0 fun i j => .bl (decide (i ≤ j))
def aGt := aI0 fun i j => .bl (decide (j < i))
def aGe := aI0 fun i j => .bl (decide (j ≤ i))
def aPow := aI CPow fun i j => .int (i ^ j.toNat)
theorem ao_sub : AOp B X (binaryOp .Sub) (rI0 fun i j => .int (i - j)) aSub := ⟨op_sub, simI0 fun _ _ _ => .int _⟩
theorem ao_mul : AOp B X (binaryOp .Mult) (rI CMul fun i j => .int (i * j)) aMul := ⟨op_mul, simI fun _ _ _ => .int _⟩
theorem ao_div : AOp B X (binaryOp .FloorDiv) (rI CDiv fun i j => .int (i / j)) aDiv := ⟨op_fdiv, simI fun _ _ _ => .int _⟩
theorem ao_mod : AOp B X (binaryOp .Mod) (rI (fun _ j => 0 < j) fun i j => .int (i % j)) aMod := ⟨op_mod, simI fun _ _ _ => .int _⟩
theorem ao_pow : AOp B X (binaryOp .Pow) (rI CPow fun i j => .int (i ^ j.toNat)) aPow := ⟨op_pow, simI fun _ _ _ => .int _⟩
theorem ao_lt : AOp B X (compareOp .Lt) (rI0 fun i j => .bl (decide (i < j))) aLt := ⟨op_lt, simI0 fun _ _ _ => .bl _⟩
theorem ao_le : AOp B X (compareOp .LtE) (rI0 fun i j => .bl (decide (i ≤ j))) aLe := ⟨op_le, simI0 fun _ _ _ => .bl _⟩
theorem ao_gt : AOp B X (compareOp .Gt) (rI0 fun i j => .bl (decide (j < i))) aGt := ⟨op_gt, simI0 fun _ _ _ => .bl _⟩
theorem ao_ge : AOp B X (compareOp .GtE) (rI0 fun i j => .bl (decide (j ≤ i))) aGe := ⟨op_ge, simI0 fun _ _ _ => .bl _⟩
def asL (C : AH) : D → Option (List D)
  | .lst ds => some ds
  | .ce p => match C p with | some (.lst ds) => some ds | _ => none
  | _ => none
def asLr (C : AH) : D → Option (List D)
  | .scr ns => some (ns.map D.int)
  | d => asL C d
def asT : D → Option (List D)
  | .tup ds => some ds
  | _ => none
section
variable {F : Hp} {C : AH} {R H : Hp} {v : V} {d : D} {ds : List D}
theorem asL_ok (hS : Sat B K F C R H) (r : Rep K F v d) (h : asL C d = some ds) : ∃ a xs, v = .ref a ∧ H a = some (.lst xs) ∧ RepL K F xs ds := by
  cases r with
  | lst e q => cases h; exact ⟨_, _, rfl, hS.ex _ _ e, q⟩
  | ce p =>
    simp only [asL] at h
    split at h
    · rename_i e
      cases h
      obtain ⟨_, o, h1, h2⟩ := hS.cell p _ e
      cases h2 with
      | lst q => exact ⟨p, _, rfl, h1, q⟩
    · cases h
  | _ => cases h
theorem asLr_ok (hS : Sat B K F C R H) (r : Rep K F v d) (h : asLr C d = some ds) : ∃ a xs, v = .ref a ∧ SqL K H a xs ∧ RepL K F xs ds := by
  cases d with
  | scr ns =>
    cases r with
    | scr e => cases h; exact ⟨_, _, rfl, hS.ex.l e, .ints ns⟩
  | _ =>
    obtain ⟨a, xs, h1, h2, h3⟩ := asL_ok hS r (show asL C _ = some ds from h)
    exact ⟨a, xs, h1, SqL.of h2, h3⟩
theorem asT_ok (hS : Sat B K F C R H) (r : Rep K F v d) (h : asT d = some ds) : ∃ a xs, v = .ref a ∧ Rd H a (.tup xs) ∧ RepL K F xs ds := by
  cases r with
  | tup e q => cases h; exact ⟨_, _, rfl, rdUp e.1 hS.ex, q⟩
  | _ => cases h
end
/-- the order matters: what stands ahead is tried first -/
def aAdd : D → D → AH → (D → AH → Prop) → Prop := fun x y C P => match x, y with
  | .int i, .int j => P (.int (i + j)) C
  | .str i, .str j => i.length + j.length ≤ sizeLine ∧ P (.str (i ++ j)) C
  | .tup xs, .tup ys => xs.length + ys.length ≤ sizeLine ∧ P (.tup (xs ++ ys)) C
  | x, y => ∃ xs ys, asL C x = some xs ∧ asL C y = some ys ∧ xs.length + ys.length ≤ sizeLine ∧ P (.lst (xs ++ ys)) C
def rAddA (K : PySem.W.Frag) : R2 := fun x y H Q => (rI0 (fun i j => .int (i + j)) x y H Q ∨ (∃ i j, x = .str i ∧ y = .str j ∧ i.length + j.length ≤ sizeLine ∧ Q (.str (i ++ j)) H)) ∨ rCatTN K x y H Q ∨ rCat x y H Q
theorem sim_add : SimR2 B K (rAddA K) aAdd := by
  intro v w d e F C R H Q P hS r1 r2 h k
  unfold aAdd at h
  split at h
  · cases r1; cases r2
    exact .inl (.inl ⟨_, _, rfl, rfl, k _ _ F C H (Ex.refl F) hS (.int _) h⟩)
  · cases r1; cases r2
    exact .inl (.inr ⟨_, _, rfl, rfl, h.1, k _ _ F C H (Ex.refl F) hS (.str _) h.2⟩)
  · cases r1 with
    | @tup a xs us h1 q1 =>
      cases r2 with
      | @tup b ys ws h2 q2 =>
        refine .inr (.inl ⟨a, b, xs, ys, rfl, rfl, h1.sq hS.ex, h2.sq hS.ex, by rw [q1.length, q2.length]; exact h.1, fun z => ?_, fun _ z => ?_, fun _ _ p ob hob hp => ?_⟩)
        · subst z
          cases q1
          exact k _ _ F C H (Ex.refl F) hS (.tup h2 q2) h.2
        · subst z
          cases q2
          have := h.2
          rw [List.append_nil] at this
          exact k _ _ F C H (Ex.refl F) hS (.tup h1 q1) this
        · have e := Ex.new (o := .frz ob (.tup (xs ++ ys))) (hS.freeF hp)
          exact k _ _ _ C _ e (hS.newF hp _) (.tup (.frz hob upd_same) ((q1.append q2).mono e)) h.2
  · obtain ⟨xs', ys', h1, h2, hl, h3⟩ := h
    obtain ⟨a, xs, e1, ha, q1⟩ := asL_ok hS r1 h1
    obtain ⟨b, ys, e2, hb, q2⟩ := asL_ok hS r2 h2
    refine .inr (.inr ⟨a, b, xs, ys, e1, e2, ha, hb, by rw [q1.length, q2.length]; exact hl, fun p hp => ?_⟩)
    have e := Ex.new (o := .lst (xs ++ ys)) (hS.freeF hp)
    exact k _ _ _ C _ e (hS.newF hp _) (.lst upd_same ((q1.append q2).mono e)) h3
theorem ao_add (hK : X.K = K := by rfl) : AOp B X (binaryOp .Add) (rAddA K) aAdd := by
  subst hK
  exact ⟨(op_add.or op_add_str).or (op_catTN.or op_cat), sim_add⟩
/-- xs + ys, a list that will be changed -/
def aAddM : D → D → AH → (D → AH → Prop) → Prop := fun x y C P => ∃ xs ys, asL C x = some xs ∧ asL C y = some ys ∧ xs.length + ys.length ≤ sizeLine ∧ ∀ p, C p = none → P (.ce p) (put C p (.lst (xs ++ ys)))
theorem sim_addM : SimR2 B K rCat aAddM := by
  intro v w d e F C R H Q P hS r1 r2 h k
  obtain ⟨xs', ys', h1, h2, hl, h3⟩ := h
  obtain ⟨a, xs, e1, ha, q1⟩ := asL_ok hS r1 h1
  obtain ⟨b, ys, e2, hb, q2⟩ := asL_ok hS r2 h2
  refine ⟨a, b, xs, ys, e1, e2, ha, hb, by rw [q1.length, q2.length]; exact hl, fun p hp => ?_⟩
  exact k _ _ F _ _ (Ex.refl F) (hS.newC hp (.lst (q1.append q2))) (.ce p) (h3 p (hS.freeC hp))
theorem ao_addM : AOp B X (binaryOp .Add) rCat aAddM := ⟨op_cat, sim_addM⟩
end
end AL
namespace AL
open PySem PySem.Spec L2
variable {B : Bs}
section
variable {X : Cx} {pos : Pos} {K : PySem.W.Frag}
mutual
/-- the tree as the library's data (none: a cell within it) -/
def D.pd : D → Option PyData
  | .non => some .none
  | .bl b => some (.bool b)
  | .int i => some (.int i)
  | .str x => some (.str x)
  | .lst ds => (pdL ds).map .list
  | .tup ds => (pdL ds).map .tuple
  | .scr ns => some (.list (ns.map .int))
  | _ => none
def pdL : List D → Option (List PyData)
  | [] => some []
  | d :: ds => match D.pd d, pdL ds with | some x, some xs => some (x :: xs) | _, _ => none
end
def pdC (C : AH) : D → Option PyData
  | .ce p => match C p with | some (.lst ds) => (pdL ds).map .list | _ => none
  | d => d.pd
mutual
theorem Rep.dp {F H : Hp} (e : Ex F H) : ∀ {d : D} {v : V} {x : PyData}, Rep K F v d → d.pd = some x → Dp K H v x
  | .non, _, _, r, h => by cases r; cases h; exact .non
  | .bl b, _, _, r, h => by cases r; cases h; exact .bl b
  | .int i, _, _, r, h => by cases r; cases h; exact .int i
  | .str x, _, _, r, h => by cases r; cases h; exact .str x
  | .lst ds, _, _, r, h => by
    cases r with
    | lst h1 h2 =>
      unfold D.pd at h
      cases q : pdL ds with
      | none => rw [q] at h; cases h
      | some xs => rw [q] at h; cases h; exact .lst (SqL.of (e _ _ h1)) (RepL.dp e h2 q)
  | .tup ds, _, _, r, h => by
    cases r with
    | tup h1 h2 =>
      unfold D.pd at h
      cases q : pdL ds with
      | none => rw [q] at h; cases h
      | some xs => rw [q] at h; cases h; exact .tup (h1.sq e) (RepL.dp e h2 q)
  | .scr ns, _, _, r, h => by
    cases r with
    | scr h1 => 
      cases h
      refine .lst (e.l h1) ?_
      clear h1
      induction ns with
      | nil => exact .nil
      | cons n ns ih => exact .cons (.int n) ih
  | .dk _, _, _, _, h => by unfold D.pd at h; cases h
  | .ce _, _, _, _, h => by unfold D.pd at h; cases h
theorem RepL.dp {F H : Hp} (e : Ex F H) : ∀ {ds : List D} {vs : List V} {xs : List PyData}, RepL K F vs ds → pdL ds = some xs → DpAll K H vs xs
  | [], _, _, r, h => by cases r; cases h; exact .nil
  | d :: ds, _, _, r, h => by
    cases r with
    | cons r1 r2 =>
      unfold pdL at h
      split at h
      · rename_i q1 q2
        cases h
        exact .cons (Rep.dp e r1 q1) (RepL.dp e r2 q2)
      · cases h
end
theorem pdC_ok {F : Hp} {C : AH} {R H : Hp} {v : V} {d : D} {x : PyData} (hS : Sat B K F C R H) (r : Rep K F v d) (h : pdC C d = some x) : Dp K H v x := by
  cases d with
  | ce p =>
    cases r
    simp only [pdC] at h
    split at h
    · rename_i ds e
      cases q : pdL ds with
      | none => rw [q] at h; cases h
      | some xs =>
        rw [q] at h; cases h
        obtain ⟨_, o, h1, h2⟩ := hS.cell p _ e
        cases h2 with
        | lst h3 => exact .lst (SqL.of h1) (RepL.dp hS.ex h3 q)
    · cases h
  | _ => exact Rep.dp hS.ex r h
/-- flat values, == by itself -/
def eqS : D → D → Option Bool
  | .non, .non => some true
  | .non, .int _ => some false
  | .int _, .non => some false
  | .non, .bl _ => some false
  | .bl _, .non => some false
  | .non, .str _ => some false
  | .str _, .non => some false
  | .int i, .int j => some (decide (i = j))
  | .bl i, .bl j => some (decide (i = j))
  | .str i, .str j => some (decide (i = j))
  | .int _, .str _ => some false
  | .str _, .int _ => some false
  | .bl _, .str _ => some false
  | .str _, .bl _ => some false
  | _, _ => none
theorem eqS_ok {F : Hp} {v w : V} {d e : D} {b : Bool} (r1 : Rep K F v d) (r2 : Rep K F w e) (h : eqS d e = some b) : scal v w = true ∧ decide (v = w) = b := by
  unfold eqS at h
  split at h <;> first | (cases h; done) | (cases r1; cases r2; cases h; refine ⟨rfl, ?_⟩; first | rfl | (apply Bool.eq_iff_iff.mpr; simp; done))
def aEqN (neg : Bool) : D → D → AH → (D → AH → Prop) → Prop := fun x y C P => match eqS x y with
  | some b => P (.bl (if neg then !b else b)) C
  | none => ∃ d e, pdC C x = some d ∧ pdC C y = some e ∧ SeqAt.shaped d = true ∧ SeqAt.shaped e = true ∧ P (.bl (if neg then !PyData.eqv d e else PyData.eqv d e)) C
def aEq := aEqN false
def aNe := aEqN true
theorem sim_eq : SimR2 B K (fun x y H Q => rEq x y H Q ∨ rEqD K x y H Q) aEq := by
  intro v w d e F C R H Q P hS r1 r2 h k
  unfold aEq aEqN at h
  split at h
  · rename_i b q
    obtain ⟨h1, h2⟩ := eqS_ok r1 r2 q
    exact .inl ⟨h1, k _ _ F C H (Ex.refl F) hS (by rw [h2]; exact .bl b) h⟩
  · obtain ⟨d', e', h1, h2, s1, s2, h3⟩ := h
    exact .inr ⟨d', e', pdC_ok hS r1 h1, pdC_ok hS r2 h2, s1, s2, k _ _ F C H (Ex.refl F) hS (.bl _) h3⟩
theorem sim_ne : SimR2 B K (fun x y H Q => rNe x y H Q ∨ rNeD K x y H Q) aNe := by
  intro v w d e F C R H Q P hS r1 r2 h k
  unfold aNe aEqN at h
  split at h
  · rename_i b q
    obtain ⟨h1, h2⟩ := eqS_ok r1 r2 q
    exact .inl ⟨h1, k _ _ F C H (Ex.refl F) hS (by rw [h2]; exact .bl _) h⟩
  · obtain ⟨d', e', h1, h2, s1, s2, h3⟩ := h
    exact .inr ⟨d', e', pdC_ok hS r1 h1, pdC_ok hS r2 h2, s1, s2, k _ _ F C H (Ex.refl F) hS (.bl _) h3⟩
theorem ao_eq (hu : X.A.units + 64 < cLine) (hK : X.K = K := by rfl) : AOp B X (compareOp .Eq) (fun x y H Q => rEq x y H Q ∨ rEqD K x y H Q) aEq := by
  subst hK
  exact ⟨op_eq.or (op_eqD hu), sim_eq⟩
theorem ao_ne (hu : X.A.units + 64 < cLine) (hK : X.K = K := by rfl) : AOp B X (compareOp .NotEq) (fun x y H Q => rNe x y H Q ∨ rNeD K x y H Q) aNe := by
  subst hK
  exact ⟨op_ne.or (op_neD hu), sim_ne⟩
/-- is None -/
def isNon : D → Bool
  | .non => true
  | _ => false
def aIsN : D → D → AH → (D → AH → Prop) → Prop := fun x y C P => isNon y = true ∧ P (.bl (isNon x)) C
def aNotN : D → D → AH → (D → AH → Prop) → Prop := fun x y C P => isNon y = true ∧ P (.bl (!isNon x)) C
theorem isNon_ok {F : Hp} {v : V} {d : D} (r : Rep K F v d) : decide (v = .non) = isNon d := by
  cases r <;> rfl
theorem ao_is : AOp B X (compareOp .Is) (fun x y H Q => y = .non ∧ Q (.bl (decide (x = .non))) H) aIsN := ⟨op_isN, by
  intro v w d e F C R H Q P hS r1 r2 h k
  refine ⟨of_decide_eq_true ((isNon_ok r2).trans h.1), k _ _ F C H (Ex.refl F) hS (by rw [isNon_ok r1]; exact .bl _) h.2⟩⟩
theorem ao_isnot : AOp B X (compareOp .IsNot) (fun x y H Q => y = .non ∧ Q (.bl (!decide (x = .non))) H) aNotN := ⟨op_notN, by
  intro v w d e F C R H Q P hS r1 r2 h k
  refine ⟨of_decide_eq_true ((isNon_ok r2).trans h.1), k _ _ F C H (Ex.refl F) hS (by rw [isNon_ok r1]; exact .bl _) h.2⟩⟩
def truth (C : AH) : D → Option Bool
  | .non => some false
  | .bl b => some b
  | .int i => some (i != 0)
  | .str x => if x.length ≤ sizeLine then some ((x.length : Int) != 0) else none
  | .lst ds => some (!ds.isEmpty)
  | .tup ds => some (!ds.isEmpty)
  | .scr ns => some (!ns.isEmpty)
  | .dk kvs => some (!kvs.isEmpty)
  | .ce p => match C p with | some (.lst ds) => some (!ds.isEmpty) | some (.dk kvs) => some (!kvs.isEmpty) | _ => none
theorem RepL.empty {F : Hp} {vs : List V} {ds : List D} (r : RepL K F vs ds) : (!vs.isEmpty) = !ds.isEmpty := by cases r <;> rfl
theorem RepK.empty {F : Hp} {vs : List (Key × V)} {ds : List (Key × D)} (r : RepK K F vs ds) : (!vs.isEmpty) = !ds.isEmpty := by cases r <;> rfl
theorem truth_ok {F : Hp} {C : AH} {R H : Hp} {v : V} {d : D} {b : Bool} (hS : Sat B K F C R H) (r : Rep K F v d) (h : truth C d = some b) : TruV K v H b := by
  cases r with
  | non => cases h; rfl
  | bl b => cases h; rfl
  | int i => cases h; rfl
  | str x =>
    simp only [truth] at h
    split at h
    · rename_i hz
      cases h
      exact ⟨hz, rfl⟩
    · cases h
  | lst e q => cases h; exact .inl ⟨_, SqL.of (hS.ex _ _ e), q.empty.symm⟩
  | tup e q => cases h; exact .inr (.inl ⟨_, e.sq hS.ex, q.empty.symm⟩)
  | dk e q => cases h; exact .inr (.inr ⟨_, hS.ex _ _ e, q.empty.symm⟩)
  | scr e =>
    cases h
    refine .inl ⟨_, hS.ex.l e, ?_⟩
    rename_i ns
    cases ns <;> rfl
  | ce p =>
    simp only [truth] at h
    split at h
    · rename_i e
      cases h
      obtain ⟨_, o, h1, h2⟩ := hS.cell p _ e
      cases h2 with
      | lst q => exact .inl ⟨_, SqL.of h1, q.empty.symm⟩
    · rename_i e
      cases h
      obtain ⟨_, o, h1, h2⟩ := hS.cell p _ e
      cases h2 with
      | dk q => exact .inr (.inr ⟨_, h1, q.empty.symm⟩)
    · cases h
def aTru (a : AE') : AT' := fun s C P => a s C fun x C1 => match truth C1 x with | some b => P b C1 | none => False
theorem sim_tru {ta : TE} {a : AE'} (ha : SimE B K ta a) : SimT B K (fun σ H Q => ta σ H fun x H' => ∃ k, TruV K x H' k ∧ Q k H') (aTru a) := by
  intro σ s F C R H Q P hs hS h k
  refine ha σ s F C R H _ _ hs hS h fun x v F1 C1 H1 e1 S1 r1 h1 => ?_
  split at h1
  · rename_i b q
    exact ⟨b, truth_ok S1 r1 q, k b F1 C1 H1 e1 S1 h1⟩
  · exact h1.elim
theorem at_tru {e : Expr} {te : TE} {a : AE'} (h : AE B X e te a) (he : ∀ whole, isTrue e X.env whole = (do let v ← whole; standAt e.pos; holding [v] (truthy v)) := by intro _; rfl) (hK : X.K = K := by rfl) :
    AT B X e (fun σ H Q => te σ H fun x H' => ∃ k, TruV K x H' k ∧ Q k H') (aTru a) := by
  subst hK
  exact ⟨pt_truth h.pe he, sim_tru h.sim⟩
/-- a comparison's value as a test -/
def aB (a : AE') : AT' := fun s C P => a s C fun x C1 => match x with | .bl b => P b C1 | _ => False
theorem sim_B {ta : TE} {a : AE'} (ha : SimE B K ta a) : SimT B K (tTest ta) (aB a) := by
  intro σ s F C R H Q P hs hS h k
  refine ha σ s F C R H _ _ hs hS h fun x v F1 C1 H1 e1 S1 r1 h1 => ?_
  split at h1
  · cases r1
    exact ⟨_, rfl, k _ F1 C1 H1 e1 S1 h1⟩
  · exact h1.elim
theorem at_cmp {o : CmpOp} {r ar} {a b : Expr} {ta tb : TE} {aa ab : AE'} (ho : AOp B X (compareOp o) r ar) (ha : AE B X a ta aa) (hb : AE B X b tb ab) (hm : behindInMarks o b = false := by first | exact nomark _ | with_unfolding_all rfl) : AT B X (.Compare a [o] [b] pos) (tTest (tOp r ta tb)) (aB (aOp ar aa ab)) :=
  ⟨pt_cmpR ho.op ha.pe hb.pe hm, sim_B (sim_op ho.sim ha.sim hb.sim)⟩
/-- a < b < c -/
def aChain (r r' : D → D → AH → (D → AH → Prop) → Prop) (a b c : AE') : AE' := fun s C P => a s C fun x C1 => b s C1 fun y C2 => r x y C2 fun z C3 => match z with
  | .bl true => c s C3 fun w C4 => r' y w C4 P
  | .bl false => P (.bl false) C3
  | _ => False
theorem sim_chain {r r' : R2} {ar ar'} {ta tb tc : TE} {a b c : AE'} (hr : SimR2 B K r ar) (hr' : SimR2 B K r' ar') (ha : SimE B K ta a) (hb : SimE B K tb b) (hc : SimE B K tc c) : SimE B K (tChain r r' ta tb tc) (aChain ar ar' a b c) := by
  intro σ s F C R H Q P hs hS h k
  refine ha σ s F C R H _ _ hs hS h fun x v F1 C1 H1 e1 S1 r1 h1 => ?_
  refine hb σ s F1 C1 R H1 _ _ (hs.mono e1) S1 h1 fun y w F2 C2 H2 e2 S2 r2 h2 => ?_
  refine hr v w x y F2 C2 R H2 _ _ S2 (r1.mono e2) r2 h2 fun z u F3 C3 H3 e3 S3 r3 h3 => ?_
  split at h3
  · cases r3
    refine ⟨true, rfl, ?_⟩
    rw [if_pos rfl]
    refine hc σ s F3 C3 R H3 _ _ (hs.mono ((e1.trans e2).trans e3)) S3 h3 fun w' u' F4 C4 H4 e4 S4 r4 h4 => ?_
    exact hr' w u' y w' F4 C4 R H4 Q P S4 (r2.mono (e3.trans e4)) r4 h4 fun d u F5 C5 H5 e5 S5 r5 h5 => k d u F5 C5 H5 ((((e1.trans e2).trans e3).trans e4).trans e5) S5 r5 h5
  · cases r3
    refine ⟨false, rfl, ?_⟩
    rw [if_neg Bool.false_ne_true]
    exact k _ _ F3 C3 H3 ((e1.trans e2).trans e3) S3 (.bl false) h3
  · exact h3.elim
theorem ae_chain {o o' : CmpOp} {r r' ar ar'} {a b c : Expr} {ta tb tc : TE} {aa ab ac : AE'} (ho : AOp B X (compareOp o) r ar) (ho' : AOp B X (compareOp o') r' ar') (ha : AE B X a ta aa) (hb : AE B X b tb ab) (hc : AE B X c tc ac)
    (hm : lastMarks [o, o'] [b, c] = false := by first | rfl | with_unfolding_all rfl) : AE B X (.Compare a [o, o'] [b, c] pos) (tChain r r' ta tb tc) (aChain ar ar' aa ab ac) :=
  ⟨pe_chain ho.op ho'.op ha.pe hb.pe hc.pe hm, sim_chain ho.sim ho'.sim ha.sim hb.sim hc.sim⟩
def aAnd (a b : AT') : AT' := fun s C P => a s C fun c C1 => if c = true then b s C1 P else P false C1
def aOr (a b : AT') : AT' := fun s C P => a s C fun c C1 => if c = true then P true C1 else b s C1 P
def aNot (a : AT') : AT' := fun s C P => a s C fun c C1 => P (!c) C1
theorem sim_and {t u : TT} {a b : AT'} (ha : SimT B K t a) (hb : SimT B K u b) : SimT B K (tAnd t u) (aAnd a b) := by
  intro σ s F C R H Q P hs hS h k
  refine ha σ s F C R H _ _ hs hS h fun c F1 C1 H1 e1 S1 h1 => ?_
  cases c with
  | true => exact hb σ s F1 C1 R H1 Q P (hs.mono e1) S1 h1 fun c F2 C2 H2 e2 S2 h2 => k c F2 C2 H2 (e1.trans e2) S2 h2
  | false => exact k false F1 C1 H1 e1 S1 h1
theorem sim_or {t u : TT} {a b : AT'} (ha : SimT B K t a) (hb : SimT B K u b) : SimT B K (tOr t u) (aOr a b) := by
  intro σ s F C R H Q P hs hS h k
  refine ha σ s F C R H _ _ hs hS h fun c F1 C1 H1 e1 S1 h1 => ?_
  cases c with
  | false => exact hb σ s F1 C1 R H1 Q P (hs.mono e1) S1 h1 fun c F2 C2 H2 e2 S2 h2 => k c F2 C2 H2 (e1.trans e2) S2 h2
  | true => exact k true F1 C1 H1 e1 S1 h1
theorem sim_not {t : TT} {a : AT'} (ha : SimT B K t a) : SimT B K (tNot t) (aNot a) := by
  intro σ s F C R H Q P hs hS h k
  exact ha σ s F C R H _ _ hs hS h fun c F1 C1 H1 e1 S1 h1 => k (!c) F1 C1 H1 e1 S1 h1
section
variable {a b : Expr} {t u : TT} {ta tb : TE} {xa xb : AT'} {aa ab : AE'} {rest : List Expr}
theorem aw_and1 (h : AT B X a t xa) : AW B X (.BoolOp .And [a] pos) t xa := ⟨pw_and1 h.pt, h.sim⟩
theorem aw_or1 (h : AT B X a t xa) : AW B X (.BoolOp .Or [a] pos) t xa := ⟨pw_or1 h.pt, h.sim⟩
theorem aw_and (h : AT B X a t xa) (g : AW B X (.BoolOp .And (b :: rest) pos) u xb) : AW B X (.BoolOp .And (a :: b :: rest) pos) (tAnd t u) (aAnd xa xb) := ⟨pw_and h.pt g.pw, sim_and h.sim g.sim⟩
theorem aw_or (h : AT B X a t xa) (g : AW B X (.BoolOp .Or (b :: rest) pos) u xb) : AW B X (.BoolOp .Or (a :: b :: rest) pos) (tOr t u) (aOr xa xb) := ⟨pw_or h.pt g.pw, sim_or h.sim g.sim⟩
theorem aw_t (h : AW B X a t xa) : AT B X a t xa := ⟨h.pw.pt, h.sim⟩
theorem at_not (h : AT B X a t xa) : AT B X (.UnaryOp .Not a pos) (tNot t) (aNot xa) := ⟨pt_not h.pt, sim_not h.sim⟩
/-- as values -/
def aAndV (a b : AE') : AE' := fun s C P => a s C fun x C1 => match truth C1 x with | some true => b s C1 P | some false => P x C1 | none => False
def aOrV (a b : AE') : AE' := fun s C P => a s C fun x C1 => match truth C1 x with | some true => P x C1 | some false => b s C1 P | none => False
def aNotV (a : AE') : AE' := fun s C P => a s C fun x C1 => match truth C1 x with | some b => P (.bl (!b)) C1 | none => False
theorem sim_andV (ha : SimE B K ta aa) (hb : SimE B K tb ab) : SimE B K (tAndT K ta tb) (aAndV aa ab) := by
  intro σ s F C R H Q P hs hS h k
  refine ha σ s F C R H _ _ hs hS h fun x v F1 C1 H1 e1 S1 r1 h1 => ?_
  split at h1
  · rename_i q
    refine ⟨true, truth_ok S1 r1 q, ?_⟩
    rw [if_pos rfl]
    exact hb σ s F1 C1 R H1 Q P (hs.mono e1) S1 h1 fun d u F2 C2 H2 e2 S2 r2 h2 => k d u F2 C2 H2 (e1.trans e2) S2 r2 h2
  · rename_i q
    refine ⟨false, truth_ok S1 r1 q, ?_⟩
    rw [if_neg Bool.false_ne_true]
    exact k x v F1 C1 H1 e1 S1 r1 h1
  · exact h1.elim
theorem sim_orV (ha : SimE B K ta aa) (hb : SimE B K tb ab) : SimE B K (tOrT K ta tb) (aOrV aa ab) := by
  intro σ s F C R H Q P hs hS h k
  refine ha σ s F C R H _ _ hs hS h fun x v F1 C1 H1 e1 S1 r1 h1 => ?_
  split at h1
  · rename_i q
    refine ⟨true, truth_ok S1 r1 q, ?_⟩
    rw [if_pos rfl]
    exact k x v F1 C1 H1 e1 S1 r1 h1
  · rename_i q
    refine ⟨false, truth_ok S1 r1 q, ?_⟩
    rw [if_neg Bool.false_ne_true]
    exact hb σ s F1 C1 R H1 Q P (hs.mono e1) S1 h1 fun d u F2 C2 H2 e2 S2 r2 h2 => k d u F2 C2 H2 (e1.trans e2) S2 r2 h2
  · exact h1.elim
theorem sim_notV (ha : SimE B K ta aa) : SimE B K (tNotT K ta) (aNotV aa) := by
  intro σ s F C R H Q P hs hS h k
  refine ha σ s F C R H _ _ hs hS h fun x v F1 C1 H1 e1 S1 r1 h1 => ?_
  split at h1
  · rename_i b q
    exact ⟨b, truth_ok S1 r1 q, k _ _ F1 C1 H1 e1 S1 (.bl _) h1⟩
  · exact h1.elim
theorem ae_one {op} (h : AE B X a ta aa) : AE B X (.BoolOp op [a] pos) ta aa := ⟨pe_one h.pe, h.sim⟩
theorem ae_and (h : AE B X a ta aa) (g : AE B X (.BoolOp .And (b :: rest) pos) tb ab) (hK : X.K = K := by rfl) : AE B X (.BoolOp .And (a :: b :: rest) pos) (tAndT K ta tb) (aAndV aa ab) := by
  subst hK
  exact ⟨pe_andT h.pe g.pe, sim_andV h.sim g.sim⟩
theorem ae_or (h : AE B X a ta aa) (g : AE B X (.BoolOp .Or (b :: rest) pos) tb ab) (hK : X.K = K := by rfl) : AE B X (.BoolOp .Or (a :: b :: rest) pos) (tOrT K ta tb) (aOrV aa ab) := by
  subst hK
  exact ⟨pe_orT h.pe g.pe, sim_orV h.sim g.sim⟩
theorem ae_not (h : AE B X a ta aa) (hK : X.K = K := by rfl) : AE B X (.UnaryOp .Not a pos) (tNotT K ta) (aNotV aa) := by
  subst hK
  exact ⟨pe_notT h.pe, sim_notV h.sim⟩
def aIf (t : AT') (a b : AE') : AE' := fun s C P => t s C fun c C1 => if c = true then a s C1 P else b s C1 P
theorem ae_if {c : Expr} {tc : TT} {xc : AT'} (hc : AT B X c tc xc) (h : AE B X a ta aa) (g : AE B X b tb ab) : AE B X (.IfExp c a b pos) (tIf tc ta tb) (aIf xc aa ab) := ⟨pe_ifExp hc.pt h.pe g.pe, by
  intro σ s F C R H Q P hs hS h0 k
  refine hc.sim σ s F C R H _ _ hs hS h0 fun c F1 C1 H1 e1 S1 h1 => ?_
  cases c with
  | true => exact h.sim σ s F1 C1 R H1 Q P (hs.mono e1) S1 h1 fun d u F2 C2 H2 e2 S2 r2 h2 => k d u F2 C2 H2 (e1.trans e2) S2 r2 h2
  | false => exact g.sim σ s F1 C1 R H1 Q P (hs.mono e1) S1 h1 fun d u F2 C2 H2 e2 S2 r2 h2 => k d u F2 C2 H2 (e1.trans e2) S2 r2 h2⟩
def aNeg : D → AH → (D → AH → Prop) → Prop := fun x C P => match x with | .int i => P (.int (-i)) C | _ => False
theorem ae_neg (h : AE B X a ta aa) : AE B X (.UnaryOp .USub a pos) (tUn (rU fun i => .int (-i)) ta) (aUn aNeg aa) := ⟨pe_un un_neg h.pe, sim_un (by
  intro v d F C R H Q P hS r h0 k
  unfold aNeg at h0
  split at h0
  · cases r; exact ⟨_, rfl, k _ _ F C H (Ex.refl F) hS (.int _) h0⟩
  · exact h0.elim) h.sim⟩
end
def aNil : AA' := fun _ C P => P [] C
def aCons (a : AE') (r : AA') : AA' := fun s C P => a s C fun x C1 => r s C1 fun xs C2 => P (x :: xs) C2
theorem sim_nil : SimA B K 0 tNil aNil := fun σ s F C R H Q P hs hS h k => k [] [] F C H (Ex.refl F) hS .nil rfl h
theorem sim_cons {n : Nat} {ta : TE} {tr : TA} {a : AE'} {r : AA'} (ha : SimE B K ta a) (hr : SimA B K n tr r) : SimA B K (n + 1) (tCons ta tr) (aCons a r) := by
  intro σ s F C R H Q P hs hS h k
  refine ha σ s F C R H _ _ hs hS h fun x v F1 C1 H1 e1 S1 r1 h1 => ?_
  refine hr σ s F1 C1 R H1 _ _ (hs.mono e1) S1 h1 fun xs vs F2 C2 H2 e2 S2 r2 hl h2 => ?_
  exact k (x :: xs) (v :: vs) F2 C2 H2 (e1.trans e2) S2 (.cons (r1.mono e2) r2) (by rw [List.length_cons, hl]) h2
theorem aa_nil : AA B X [] 0 tNil aNil := ⟨pa_nil, sim_nil⟩
theorem aa_cons {e : Expr} {es : List Expr} {n : Nat} {te : TE} {t : TA} {a : AE'} {r : AA'} (h : AE B X e te a) (g : AA B X es n t r) (hs : starEach (e :: es) X.env = (false, eval e X.env) :: starEach es X.env := by rfl) : AA B X (e :: es) (n + 1) (tCons te t) (aCons a r) := ⟨pa_cons h.pe g.pa hs, sim_cons h.sim g.sim⟩
def aTup (a : AA') : AE' := fun s C P => a s C fun ds C1 => ds.length ≤ sizeLine ∧ P (.tup ds) C1
def aLst (a : AA') : AE' := fun s C P => a s C fun ds C1 => ds.length ≤ sizeLine ∧ P (.lst ds) C1
def aLstM (a : AA') : AE' := fun s C P => a s C fun ds C1 => ds.length ≤ sizeLine ∧ ∀ p, C1 p = none → P (.ce p) (put C1 p (.lst ds))
theorem ae_tup {es : List Expr} {n : Nat} {t : TA} {a : AA'} {x1} (h : AA B X es n t a) : AE B X (.Tuple es x1 pos) (tTupN t) (aTup a) := ⟨pe_tupN h.pa, by
  intro σ s F C R H Q P hs hS h0 k
  refine h.sim σ s F C R H _ _ hs hS h0 fun ds vs F1 C1 H1 e1 S1 r1 hl h1 => ⟨by rw [r1.length]; exact h1.1, fun p ob hob hp => ?_⟩
  have e := Ex.new (o := .frz ob (.tup vs)) (S1.freeF hp)
  exact k _ _ _ C1 _ (e1.trans e) (S1.newF hp _) (.tup (.frz hob upd_same) (r1.mono e)) h1.2⟩
theorem ae_lst {es : List Expr} {n : Nat} {t : TA} {a : AA'} (h : AA B X es n t a) : AE B X (.List es pos) (tLst t) (aLst a) := ⟨pe_lst h.pa, by
  intro σ s F C R H Q P hs hS h0 k
  refine h.sim σ s F C R H _ _ hs hS h0 fun ds vs F1 C1 H1 e1 S1 r1 hl h1 => ⟨by rw [r1.length]; exact h1.1, fun p hp => ?_⟩
  have e := Ex.new (o := .lst vs) (S1.freeF hp)
  exact k _ _ _ C1 _ (e1.trans e) (S1.newF hp _) (.lst upd_same (r1.mono e)) h1.2⟩
theorem ae_lstM {es : List Expr} {n : Nat} {t : TA} {a : AA'} (h : AA B X es n t a) : AE B X (.List es pos) (tLst t) (aLstM a) := ⟨pe_lst h.pa, by
  intro σ s F C R H Q P hs hS h0 k
  refine h.sim σ s F C R H _ _ hs hS h0 fun ds vs F1 C1 H1 e1 S1 r1 hl h1 => ⟨by rw [r1.length]; exact h1.1, fun p hp => ?_⟩
  exact k _ _ F1 _ _ e1 (S1.newC hp (.lst r1)) (.ce p) (h1.2 p (S1.freeC hp))⟩
end
end AL
namespace AL
open PySem PySem.Spec L2
variable {B : Bs}
section
variable {X : Cx} {pos : Pos} {K : PySem.W.Frag}
def asS (C : AH) : D → Option (List D)
  | .tup ds => some ds
  | d => asLr C d
def aIx : D → D → AH → (D → AH → Prop) → Prop := fun x y C P => match x, y with
  | .str z, .int i => z.length ≤ sizeLine ∧ (match atI z.cps.toList i with | some c => P (.str ⟨#[c]⟩) C | none => False)
  | x, .int i => (match asS C x with | some ds => (match atI ds i with | some d => P d C | none => False) | none => False)
  | _, _ => False
theorem RepL.atI {F : Hp} {vs : List V} {ds : List D} {i : Int} {d : D} (r : RepL K F vs ds) (h : atI ds i = some d) : ∃ v, L2.atI vs i = some v ∧ Rep K F v d := by
  unfold L2.atI at h ⊢
  rw [r.length]
  cases q : ixN ds.length i with
  | none => rw [q] at h; cases h
  | some j =>
    rw [q] at h
    obtain ⟨v, h1, h2⟩ := r.getD (show ds[j]? = some d from h)
    exact ⟨v, h1, h2⟩
theorem sim_ix : SimR2 B K (rIx K) aIx := by
  intro v w d e F C R H Q P hS r1 r2 h k
  unfold aIx at h
  split at h
  · cases r1; cases r2
    obtain ⟨hz, h⟩ := h
    split at h
    · rename_i c q
      exact .inr (.inr ⟨_, _, c, rfl, rfl, hz, q, k _ _ F C H (Ex.refl F) hS (.str _) h⟩)
    · exact h.elim
  · cases r2
    split at h
    · rename_i ds q
      split at h
      · rename_i d' q2
        cases d with
        | tup us =>
          cases q
          obtain ⟨a, xs, e1, h1, h2⟩ := asT_ok hS r1 rfl
          obtain ⟨v', h3, h4⟩ := h2.atI q2
          exact .inr (.inl ⟨a, xs, _, v', e1, rfl, SqT.of h1, h3, k _ _ F C H (Ex.refl F) hS h4 h⟩)
        | _ =>
          obtain ⟨a, xs, e1, h1, h2⟩ := asLr_ok hS r1 (show asLr C _ = some ds from q)
          obtain ⟨v', h3, h4⟩ := h2.atI q2
          exact .inl ⟨a, xs, _, v', e1, rfl, h1, h3, k _ _ F C H (Ex.refl F) hS h4 h⟩
      · exact h.elim
    · exact h.elim
  · exact h.elim
theorem ae_ix {a b : Expr} {ta tb : TE} {aa ab : AE'} (ha : AE B X a ta aa) (hb : AE B X b tb ab) (hs : PlainIx b := by exact fun _ _ => rfl) (hK : X.K = K := by rfl) : AE B X (.Subscript a b pos) (tOp (rIx K) ta tb) (aOp aIx aa ab) := by
  subst hK
  exact ⟨pe_ix ix_seq ha.pe hb.pe hs, sim_op sim_ix ha.sim hb.sim⟩
abbrev AO' := ASt → AH → (Option Int → AH → Prop) → Prop
def SimO (B : Bs) (K : PySem.W.Frag) (to : TO) (a : AO') : Prop := ∀ (σ : L2.St) (s : ASt) (F : Hp) (C : AH) (R H : Hp) (Q : Option Int → Hp → Prop) (P : Option Int → AH → Prop), Slo K F s σ → Sat B K F C R H → a s C P →
  (∀ o F' C' H', Ex F F' → Sat B K F' C' R H' → P o C' → Q o H') → to σ H Q
structure AO (B : Bs) (X : Cx) (e : Option Expr) (to : TO) (a : AO') : Prop where
  po : PO X e to
  sim : SimO B X.K to a
def aNoPart : AO' := fun _ C P => P none C
def aPart (a : AE') : AO' := fun s C P => a s C fun x C1 => match x with | .int i => P (some i) C1 | _ => False
theorem ao_none : AO B X none tNoPart aNoPart := ⟨po_none, fun σ s F C R H Q P hs hS h k => k none F C H (Ex.refl F) hS h⟩
theorem ao_some {e : Expr} {te : TE} {a : AE'} (h : AE B X e te a) : AO B X (some e) (tPart te) (aPart a) := ⟨po_some h.pe, by
  intro σ s F C R H Q P hs hS h0 k
  refine h.sim σ s F C R H _ _ hs hS h0 fun x v F1 C1 H1 e1 S1 r1 h1 => ?_
  split at h1
  · cases r1
    exact ⟨_, rfl, k _ F1 C1 H1 e1 S1 h1⟩
  · exact h1.elim⟩
def cutD (xs : List D) (lo hi : Option Int) : List D := (xs.drop (HT.sIx xs.length 0 lo)).take (HT.sIx xs.length xs.length hi - HT.sIx xs.length 0 lo)
theorem RepL.cut {F : Hp} {vs : List V} {ds : List D} (r : RepL K F vs ds) (lo hi : Option Int) : RepL K F (cutV vs lo hi) (cutD ds lo hi) := by
  unfold cutV cutD
  rw [r.length]
  exact (r.drop _).take _
def aSl (r : D → Option Int → Option Int → AH → (D → AH → Prop) → Prop) (a : AE') (l h : AO') : AE' := fun s C P => a s C fun x C1 => l s C1 fun i C2 => h s C2 fun j C3 => r x i j C3 P
def SimRS (B : Bs) (K : PySem.W.Frag) (r : V → Option Int → Option Int → Hp → VK → Prop) (a : D → Option Int → Option Int → AH → (D → AH → Prop) → Prop) : Prop := ∀ (v : V) (d : D) (lo hi : Option Int) (F : Hp) (C : AH) (R H : Hp) (Q : VK) (P : D → AH → Prop), Sat B K F C R H → Rep K F v d → a d lo hi C P →
  (∀ d v F' C' H', Ex F F' → Sat B K F' C' R H' → Rep K F' v d → P d C' → Q v H') → r v lo hi H Q
theorem sim_sl {r ar} {ta : TE} {tl th : TO} {a : AE'} {l h : AO'} (hr : SimRS B K r ar) (ha : SimE B K ta a) (hl : SimO B K tl l) (hh : SimO B K th h) : SimE B K (tSl r ta tl th) (aSl ar a l h) := by
  intro σ s F C R H Q P hs hS h0 k
  refine ha σ s F C R H _ _ hs hS h0 fun x v F1 C1 H1 e1 S1 r1 h1 => ?_
  refine hl σ s F1 C1 R H1 _ _ (hs.mono e1) S1 h1 fun i F2 C2 H2 e2 S2 h2 => ?_
  refine hh σ s F2 C2 R H2 _ _ (hs.mono (e1.trans e2)) S2 h2 fun j F3 C3 H3 e3 S3 h3 => ?_
  exact hr v x i j F3 C3 R H3 Q P S3 (r1.mono (e2.trans e3)) h3 fun d u F4 C4 H4 e4 S4 r4 h4 => k d u F4 C4 H4 (((e1.trans e2).trans e3).trans e4) S4 r4 h4
def aCut : D → Option Int → Option Int → AH → (D → AH → Prop) → Prop := fun x lo hi C P => match x with
  | .str z => z.length ≤ sizeLine ∧ P (.str (cutS z lo hi)) C
  | .tup ds => P (.tup (cutD ds lo hi)) C
  | x => (match asLr C x with | some ds => P (.lst (cutD ds lo hi)) C | none => False)
def rCutA (K : PySem.W.Frag) : V → Option Int → Option Int → Hp → VK → Prop := fun x lo hi H Q => (rSlS x lo hi H Q ∨ rSlTN K x lo hi H Q) ∨ rSlL K x lo hi H Q
theorem cutD_all {ds : List D} {lo hi : Option Int} (h : HT.sIx ds.length 0 lo = 0 ∧ HT.sIx ds.length ds.length hi = ds.length) : cutD ds lo hi = ds := by
  unfold cutD
  rw [h.1, h.2, List.drop_zero, Nat.sub_zero, List.take_length]
theorem sim_cut : SimRS B K (rCutA K) aCut := by
  intro v d lo hi F C R H Q P hS r1 h k
  unfold aCut at h
  split at h
  · cases r1
    exact .inl (.inl ⟨_, rfl, h.1, k _ _ F C H (Ex.refl F) hS (.str _) h.2⟩)
  · cases r1 with
    | @tup a xs us h1 q1 =>
      refine .inl (.inr ⟨a, xs, rfl, h1.sq hS.ex, fun z => ?_, fun _ p ob hob hp => ?_⟩)
      · rw [q1.length] at z
        rw [cutD_all z] at h
        exact k _ _ F C H (Ex.refl F) hS (.tup h1 q1) h
      · have e := Ex.new (o := .frz ob (.tup (cutV xs lo hi))) (hS.freeF hp)
        exact k _ _ _ C _ e (hS.newF hp _) (.tup (.frz hob upd_same) ((q1.cut lo hi).mono e)) h
  · split at h
    · rename_i ds q
      obtain ⟨a, xs, e1, h1, h2⟩ := asLr_ok hS r1 q
      refine .inr ⟨a, xs, e1, h1, fun p hp => ?_⟩
      have e := Ex.new (o := .lst (cutV xs lo hi)) (hS.freeF hp)
      exact k _ _ _ C _ e (hS.newF hp _) (.lst upd_same ((h2.cut lo hi).mono e)) h
    · exact h.elim
theorem ae_cut {e : Expr} {lo hi : Option Expr} {te : TE} {tl th : TO} {a : AE'} {l h : AO'} {p2 : Pos} (he : AE B X e te a) (hl : AO B X lo tl l) (hh : AO B X hi th h) (hK : X.K = K := by rfl) : AE B X (.Subscript e (.Slice lo hi none p2) pos) (tSl (rCutA K) te tl th) (aSl aCut a l h) := by
  subst hK
  exact ⟨pe_slice ((sl_str.or sl_tupN).or sl_list) he.pe hl.po hh.po, sim_sl sim_cut he.sim hl.sim hh.sim⟩
/-- xs[::-1], a list -/
def aRev : D → AH → (D → AH → Prop) → Prop := fun x C P => match asLr C x with | some ds => P (.lst ds.reverse) C | none => False
structure ACa (B : Bs) (X : Cx) (f : Value) (r : List V → Hp → VK → Prop) (a : ASp) : Prop where
  op : CallR X f r
  sim : SimRL B X.K r a
def aCall (asp : ASp) (a : AA') : AE' := fun s C P => a s C fun ds C1 => asp ds C1 P
theorem sim_callB {n : Nat} {r : List V → Hp → VK → Prop} {ar : ASp} {ta : TA} {a : AA'} (hr : SimRL B K r ar) (ha : SimA B K n ta a) : SimE B K (tCB r ta) (aCall ar a) := by
  intro σ s F C R H Q P hs hS h k
  refine ha σ s F C R H _ _ hs hS h fun ds vs F1 C1 H1 e1 S1 r1 hl h1 => ?_
  exact hr vs ds F1 C1 R H1 Q P S1 r1 h1 fun d u F3 C3 H3 e3 S3 r3 h3 => k d u F3 C3 H3 (e1.trans e3) S3 r3 h3
section
variable {e : Expr} {es : List Expr} {n : Nat} {t : TA} {a : AA'} {r : List V → Hp → VK → Prop} {ar : ASp} {x : Str} {p : Pos} {id T : String}
theorem ae_callB (hc : ACa B X (.builtin id) r ar) (hm : X.mg x = none) (hv : bootBuiltins x = some (.builtin id)) (ha : AA B X (e :: es) n t a) (hg : Gl X x := by rfl) (hn : x ≠ "__name__" := by decide) (hdb : (x == ("__debug__" : Str)) = false := by decide)
    (he : starEach (e :: es) X.env = (false, eval e X.env) :: starEach es X.env := by rfl) (hpl : (backTo pos (starEach es X.env)).any (·.1) = false := by rfl) : AE B X (.Call (.Name x p) (e :: es) [] pos) (tCB r t) (aCall ar a) :=
  ⟨pe_callB hc.op hg hm hv ha.pa hn hdb he hpl, sim_callB hc.sim ha.sim⟩
theorem ae_callT (hc : ACa B X (.type T) r ar) (hm : X.mg x = none) (hv : bootBuiltins x = some (.type T)) (ha : AA B X (e :: es) n t a) (hg : Gl X x := by rfl) (hn : x ≠ "__name__" := by decide) (hdb : (x == ("__debug__" : Str)) = false := by decide)
    (he : starEach (e :: es) X.env = (false, eval e X.env) :: starEach es X.env := by rfl) (hpl : (backTo pos (starEach es X.env)).any (·.1) = false := by rfl) : AE B X (.Call (.Name x p) (e :: es) [] pos) (tCB r t) (aCall ar a) :=
  ⟨pe_callTy hc.op hg hm hv ha.pa hn hdb he hpl, sim_callB hc.sim ha.sim⟩
end
theorem asS_ok {F : Hp} {C : AH} {R H : Hp} {v : V} {d : D} {ds : List D} (hS : Sat B K F C R H) (r : Rep K F v d) (h : asS C d = some ds) : ∃ a xs, v = .ref a ∧ (SqL K H a xs ∨ SqT K H a xs) ∧ RepL K F xs ds := by
  cases d with
  | tup ws =>
    cases h
    obtain ⟨a, xs, e1, h1, h2⟩ := asT_ok hS r rfl
    exact ⟨a, xs, e1, .inr (SqT.of h1), h2⟩
  | _ =>
    obtain ⟨a, xs, e1, h1, h2⟩ := asLr_ok hS r (show asLr C _ = some ds from h)
    exact ⟨a, xs, e1, .inl h1, h2⟩
def aLen : ASp := fun ds C P => match ds with
  | [.str z] => z.length ≤ sizeLine ∧ P (.int z.length) C
  | [.ce q] => (match C q with | some (.lst us) => P (.int us.length) C | some (.dk us) => P (.int us.length) C | _ => False)
  | [.dk kvs] => P (.int kvs.length) C
  | [d] => (match asS C d with | some us => P (.int us.length) C | none => False)
  | _ => False
def rLenA (K : PySem.W.Frag) : List V → Hp → VK → Prop := fun xs H Q => (∃ x n, xs = [x] ∧ LenV K x H n ∧ Q (.int n) H) ∨ (∃ a kvs, xs = [V.ref a] ∧ H a = some (.dK kvs) ∧ Q (.int kvs.length) H)
theorem RepK.length {F : Hp} : ∀ {vs : List (Key × V)} {ds : List (Key × D)}, RepK K F vs ds → vs.length = ds.length
  | _, _, .nil => rfl
  | _, _, .cons _ t => by rw [List.length_cons, List.length_cons, RepK.length t]
theorem simLen : SimRL B K (rLenA K) aLen := by
  intro vs ds F C R H Q P hS r h k
  unfold aLen at h
  split at h
  · cases r with | cons r1 r2 => cases r2; cases r1; exact .inl ⟨_, _, rfl, ⟨h.1, rfl⟩, k _ _ F C H (Ex.refl F) hS (.int _) h.2⟩
  · cases r with
    | cons r1 r2 =>
      cases r2; cases r1
      split at h
      · rename_i e
        obtain ⟨_, o, h1, h2⟩ := hS.cell _ _ e
        cases h2 with
        | lst q => exact .inl ⟨_, _, rfl, .inl ⟨_, SqL.of h1, q.length.symm⟩, k _ _ F C H (Ex.refl F) hS (.int _) h⟩
      · rename_i e
        obtain ⟨_, o, h1, h2⟩ := hS.cell _ _ e
        cases h2 with
        | dk q => exact .inr ⟨_, _, rfl, h1, by rw [q.length]; exact k _ _ F C H (Ex.refl F) hS (.int _) h⟩
      · exact h.elim
  · cases r with | cons r1 r2 => cases r2; cases r1 with | dk e q => exact .inr ⟨_, _, rfl, hS.ex _ _ e, by rw [q.length]; exact k _ _ F C H (Ex.refl F) hS (.int _) h⟩
  · cases r with
    | cons r1 r2 =>
      cases r2
      split at h
      · rename_i us q
        obtain ⟨a, xs, e1, h1, h2⟩ := asS_ok hS r1 q
        subst e1
        rcases h1 with h1 | h1
        · exact .inl ⟨.ref a, _, rfl, .inl ⟨xs, h1, h2.length.symm⟩, k _ _ F C H (Ex.refl F) hS (.int _) h⟩
        · exact .inl ⟨.ref a, _, rfl, .inr ⟨xs, h1, h2.length.symm⟩, k _ _ F C H (Ex.refl F) hS (.int _) h⟩
      · exact h.elim
  · exact h.elim
theorem ac_len (hK : X.K = K := by rfl) : ACa B X (.builtin "len") (rLenA K) aLen := by
  subst hK
  exact ⟨call_len.or call_lenD, simLen⟩
def aAbs : ASp := fun ds C P => match ds with | [.int i] => P (.int (if i < 0 then -i else i)) C | _ => False
theorem ac_abs : ACa B X (.builtin "abs") (fun xs H Q => ∃ i, xs = [.int i] ∧ Q (.int (if i < 0 then -i else i)) H) aAbs := ⟨call_abs, by
  intro vs ds F C R H Q P hS r h k
  unfold aAbs at h
  split at h
  · cases r with | cons r1 r2 => cases r2; cases r1; exact ⟨_, rfl, k _ _ F C H (Ex.refl F) hS (.int _) h⟩
  · exact h.elim⟩
def aMax2 : ASp := fun ds C P => match ds with | [.int i, .int j] => P (.int (if j > i then j else i)) C | _ => False
def aMin2 : ASp := fun ds C P => match ds with | [.int i, .int j] => P (.int (if j < i then j else i)) C | _ => False
theorem ac_max2 (hc : X.calm = true := by rfl) : ACa B X (.builtin "max") (fun xs H Q => ∃ i j, xs = [.int i, .int j] ∧ Q (.int (if j > i then j else i)) H) aMax2 := ⟨call_max2 hc, by
  intro vs ds F C R H Q P hS r h k
  unfold aMax2 at h
  split at h
  · cases r with | cons r1 r2 => cases r2 with | cons r2 r3 => cases r3; cases r1; cases r2; exact ⟨_, _, rfl, k _ _ F C H (Ex.refl F) hS (.int _) h⟩
  · exact h.elim⟩
theorem ac_min2 (hc : X.calm = true := by rfl) : ACa B X (.builtin "min") (fun xs H Q => ∃ i j, xs = [.int i, .int j] ∧ Q (.int (if j < i then j else i)) H) aMin2 := ⟨call_min2 hc, by
  intro vs ds F C R H Q P hS r h k
  unfold aMin2 at h
  split at h
  · cases r with | cons r1 r2 => cases r2 with | cons r2 r3 => cases r3; cases r1; cases r2; exact ⟨_, _, rfl, k _ _ F C H (Ex.refl F) hS (.int _) h⟩
  · exact h.elim⟩
def aInt : ASp := fun ds C P => match ds with | [.int i] => P (.int i) C | [.bl b] => P (.int (if b then 1 else 0)) C | _ => False
theorem ac_int : ACa B X (.type "int") (fun xs H Q => (∃ i, xs = [.int i] ∧ Q (.int i) H) ∨ ∃ k, xs = [.bl k] ∧ Q (.int (if k then 1 else 0)) H) aInt := ⟨call_int1, by
  intro vs ds F C R H Q P hS r h k
  unfold aInt at h
  split at h
  · cases r with | cons r1 r2 => cases r2; cases r1; exact .inl ⟨_, rfl, k _ _ F C H (Ex.refl F) hS (.int _) h⟩
  · cases r with | cons r1 r2 => cases r2; cases r1; exact .inr ⟨_, rfl, k _ _ F C H (Ex.refl F) hS (.int _) h⟩
  · exact h.elim⟩
/-- list(xs), tuple(xs) of a list, a tuple -/
def aListOf : ASp := fun ds C P => match ds with | [d] => (match asS C d with | some us => P (.lst us) C | none => False) | _ => False
def aTupleOf : ASp := fun ds C P => match ds with | [.tup us] => P (.tup us) C | [d] => (match asS C d with | some us => P (.tup us) C | none => False) | _ => False
theorem ac_list (hK : X.K = K := by rfl) : ACa B X (.type "list") (fun xs H Q => ∃ p ys, xs = [.ref p] ∧ (SqL K H p ys ∨ SqT K H p ys) ∧ ∀ l, H l = none → Q (.ref l) (upd H l (.lst ys))) aListOf := by
  subst hK
  exact ⟨call_list_of, by
  intro vs ds F C R H Q P hS r h k
  unfold aListOf at h
  split at h
  · cases r with
    | cons r1 r2 =>
      cases r2
      split at h
      · rename_i us q
        obtain ⟨a, xs, e1, h1, h2⟩ := asS_ok hS r1 q
        refine ⟨a, xs, by rw [e1], h1, fun p hp => ?_⟩
        have e := Ex.new (o := .lst xs) (hS.freeF hp)
        exact k _ _ _ C _ e (hS.newF hp _) (.lst upd_same (h2.mono e)) h
      · exact h.elim
  · exact h.elim⟩
theorem ac_tuple (hK : X.K = K := by rfl) : ACa B X (.type "tuple") (rTupOfN K) aTupleOf := by
  subst hK
  exact ⟨call_tuple_ofN, by
  intro vs ds F C R H Q P hS r h k
  unfold aTupleOf at h
  split at h
  · cases r with
    | cons r1 r2 =>
      cases r2
      cases r1 with
      | tup h1 h2 => exact ⟨_, _, rfl, .inr ⟨h1.sq hS.ex, k _ _ F C H (Ex.refl F) hS (.tup h1 h2) h⟩⟩
  · rename_i d hd
    cases r with
    | cons r1 r2 =>
      cases r2
      split at h
      · rename_i us q
        have q' : asLr C d = some us := by
          cases d <;> first | exact q | exact absurd rfl (hd _)
        obtain ⟨a, xs, e1, h1, h2⟩ := asLr_ok hS r1 q'
        refine ⟨a, xs, by rw [e1], .inl ⟨h1, fun p ob hob hp => ?_⟩⟩
        have e := Ex.new (o := .frz ob (.tup xs)) (hS.freeF hp)
        exact k _ _ _ C _ e (hS.newF hp _) (.tup (.frz hob upd_same) (h2.mono e)) h
      · exact h.elim
  · exact h.elim⟩
/-- all, any, sum of a list -/
def blsD : List D → Option (List Bool)
  | [] => some []
  | .bl b :: ds => (blsD ds).map (b :: ·)
  | _ => none
def intsD : List D → Option (List Int)
  | [] => some []
  | .int b :: ds => (intsD ds).map (b :: ·)
  | _ => none
def strsD : List D → Option (List Str)
  | [] => some []
  | .str b :: ds => (strsD ds).map (b :: ·)
  | _ => none
theorem bls_ok : ∀ {ds : List D} {bs : List Bool}, blsD ds = some bs → ds = bs.map .bl
  | [], _, h => by cases h; rfl
  | .bl b :: ds, bs, h => by
    simp only [blsD] at h
    cases q : blsD ds with
    | none => rw [q] at h; cases h
    | some cs => rw [q] at h; cases h; rw [bls_ok q]; rfl
  | .non :: _, _, h => by cases h
  | .int _ :: _, _, h => by cases h
  | .str _ :: _, _, h => by cases h
  | .lst _ :: _, _, h => by cases h
  | .tup _ :: _, _, h => by cases h
  | .dk _ :: _, _, h => by cases h
  | .scr _ :: _, _, h => by cases h
  | .ce _ :: _, _, h => by cases h
theorem strs_ok : ∀ {ds : List D} {bs : List Str}, strsD ds = some bs → ds = bs.map .str
  | [], _, h => by cases h; rfl
  | .str b :: ds, bs, h => by
    simp only [strsD] at h
    cases q : strsD ds with
    | none => rw [q] at h; cases h
    | some cs => rw [q] at h; cases h; rw [strs_ok q]; rfl
  | .non :: _, _, h => by cases h
  | .bl _ :: _, _, h => by cases h
  | .int _ :: _, _, h => by cases h
  | .lst _ :: _, _, h => by cases h
  | .tup _ :: _, _, h => by cases h
  | .dk _ :: _, _, h => by cases h
  | .scr _ :: _, _, h => by cases h
  | .ce _ :: _, _, h => by cases h
@[simp] theorem bls_map (bs : List Bool) : blsD (bs.map D.bl) = some bs := by
  induction bs with
  | nil => rfl
  | cons b bs ih => simp [blsD, ih]
@[simp] theorem ints_map (bs : List Int) : intsD (bs.map D.int) = some bs := by
  induction bs with
  | nil => rfl
  | cons b bs ih => simp [intsD, ih]
@[simp] theorem strs_map (bs : List Str) : strsD (bs.map D.str) = some bs := by
  induction bs with
  | nil => rfl
  | cons b bs ih => simp [strsD, ih]
def aAll : ASp := fun ds C P => match ds with | [d] => (match (asLr C d).bind blsD with | some bs => P (.bl (bs.all id)) C | none => False) | _ => False
theorem ac_all (hc : X.calm = true := by rfl) (hK : X.K = K := by rfl) : ACa B X (.builtin "all") (rAll K) aAll := by
  subst hK
  exact ⟨cr_all hc, by
  intro vs ds F C R H Q P hS r h k
  unfold aAll at h
  split at h
  · cases r with
    | cons r1 r2 =>
      cases r2
      split at h
      · rename_i bs q
        obtain ⟨us, q1, q2⟩ := Option.bind_eq_some_iff.mp q
        obtain ⟨a, xs, e1, h1, h2⟩ := asLr_ok hS r1 q1
        rw [bls_ok q2] at h2
        have e3 := h2.ofBls
        subst e3
        exact ⟨a, bs, by rw [e1], h1, k _ _ F C H (Ex.refl F) hS (.bl _) h⟩
      · exact h.elim
  · exact h.elim⟩
def kindOf (C : AH) : D → Option String
  | .non => some "NoneType" | .bl _ => some "bool" | .int _ => some "int" | .str _ => some "str" | .lst _ => some "list" | .tup _ => some "tuple" | .dk _ => some "dict" | .scr _ => some "list"
  | .ce p => match C p with | some (.lst _) => some "list" | some (.dk _) => some "dict" | _ => none
theorem kindOf_ok {F : Hp} {C : AH} {R H : Hp} {v : V} {d : D} {t : String} (hS : Sat B K F C R H) (r : Rep K F v d) (h : kindOf C d = some t) : TyX K H v (.type t) := by
  cases r with
  | non => cases h; exact .base .non
  | bl b => cases h; exact .base (.bl b)
  | int i => cases h; exact .base (.int i)
  | str x => cases h; exact .base (.str x)
  | lst e q => cases h; exact .base (.lst (hS.ex _ _ e))
  | tup e q =>
    cases h
    rcases e.1 with e | ⟨o, e⟩
    · exact .base (.tup (hS.ex _ _ e))
    · exact .fTuple (hS.ex _ _ e)
  | dk e q => cases h; exact .base (.dK (hS.ex _ _ e))
  | scr e =>
    cases h
    rcases hS.ex.l e with (e | ⟨o, e⟩) | ⟨o, its, n, e, c, _⟩
    · exact .base (.lst e)
    · exact .base (.frz e)
    · exact .kList e c
  | ce p =>
    simp only [kindOf] at h
    split at h
    · rename_i e; cases h
      obtain ⟨_, o, h1, h2⟩ := hS.cell p _ e
      cases h2; exact .base (.lst h1)
    · rename_i e; cases h
      obtain ⟨_, o, h1, h2⟩ := hS.cell p _ e
      cases h2; exact .base (.dK h1)
    · cases h
def isT (T t : String) : Bool := t == T || (t == "bool" && T == "int")
theorem isT_ok : ∀ t ∈ ["NoneType", "bool", "int", "str", "list", "tuple", "dict"], ∀ T ∈ ["bool", "int", "str", "list", "tuple", "dict"], kitB t T = some (isT T t) := by decide +kernel
theorem kindOf_mem {C : AH} {d : D} {t : String} (h : kindOf C d = some t) : t ∈ ["NoneType", "bool", "int", "str", "list", "tuple", "dict"] := by
  unfold kindOf at h
  split at h <;> first | (cases h; decide) | (split at h <;> first | (cases h; decide) | cases h)
def aIsi (T : String) (a : AE') : AE' := fun s C P => a s C fun x C1 => match kindOf C1 x with | some t => P (.bl (isT T t)) C1 | none => False
theorem ae_isi {e : Expr} {te : TE} {a : AE'} {T : Str} {Tn : String} {p p2 : Pos} (h : AE B X e te a) (hm : X.mg "isinstance" = none) (hmT : X.mg T = none) (hv : bootBuiltins T = some (.type Tn)) (hT : Tn ∈ ["bool", "int", "str", "list", "tuple", "dict"] := by decide)
    (hg : Gl X "isinstance" := by rfl) (hgT : Gl X T := by rfl) (hb : bootBuiltins "isinstance" = some (.builtin "isinstance") := by decide +kernel) (hnT : T ≠ "__name__" := by decide) (hdT : (T == ("__debug__" : Str)) = false := by decide)
    (he : starEach [e, .Name T p2] X.env = (false, eval e X.env) :: starEach [.Name T p2] X.env := by rfl) (hpl : (backTo pos (starEach [.Name T p2] X.env)).any (·.1) = false := by rfl) (h2 : starEach [.Name T p2] X.env = (false, eval (.Name T p2) X.env) :: starEach [] X.env := by rfl) (hK : X.K = K := by rfl) :
    AE B X (.Call (.Name "isinstance" p) [e, .Name T p2] [] pos) (tCB (rIsi K) (tCons te (tCons (tC (.ty Tn)) tNil))) (aIsi Tn a) := by
  subst hK
  exact ⟨pe_callB call_isi hg hm hb (pa_cons h.pe (pa_cons (pe_bltn hgT hmT hv rfl hnT hdT) pa_nil h2) he) (by decide) (by decide) he hpl, by
    intro σ s F C R H Q P hs hS h0 k
    refine h.sim σ s F C R H _ _ hs hS h0 fun x v F1 C1 H1 e1 S1 r1 h1 => ?_
    split at h1
    · rename_i t q
      exact ⟨v, .ty Tn, .type t, .type Tn, isT Tn t, rfl, .ty Tn, kindOf_ok S1 r1 q, kit_ty (isT_ok t (kindOf_mem q) Tn hT), k _ _ F1 C1 H1 e1 S1 (.bl _) h1⟩
    · exact h1.elim⟩
end
end AL
namespace AL
open PySem PySem.Spec L2
variable {B : Bs}
open PyProof.Rows (envOfC)
section
variable {X : Cx} {pos : Pos} {K : PySem.W.Frag}
def spOf (w : Gd) (K : PySem.W.Frag) (n : Nat) (asp : ASp) : Sp := fun vs H Q _ => vs.length = n ∧ ∃ F C R ds P, Sat (Bs.nil w) K F C R H ∧ RepL K F vs ds ∧ asp ds C P ∧ ∀ d v F' C' H', Ex F F' → Sat (Bs.nil w) K F' C' R H' → Rep K F' v d → P d C' → Q v H'
/-- a def's promise, where no guard stands (so that repr may be asked) -/
structure FnG (P : Program) (w : World) (K : PySem.W.Frag) (mg : Str → Option Value) (base : Heap) (k : Nat) (f : Addr) (fd : FuncData) (ps : List Str) (sp : Sp) : Prop where
  len : ∀ vs H Q E, sp vs H Q E → vs.length = ps.length
  run : ∀ (A : Around) (out : List Env) (s : Shared) (H : Hp) (args : Args) (us : List Value) (vs : List V) (Q : VK) (E : XK), Room k A → A.guards = some [] → Env0 P w K mg base A out s H →
    BindsTo s fd args (ps.zip us) → Vals vs us → sp vs H Q E → codeAny (model P w) A (.call (.ref f) args) (CR (L2.CX P w) out P w H s Q E) s
theorem FnG.imp {P : Program} {w : World} {K : PySem.W.Frag} {mg : Str → Option Value} {base : Heap} {k : Nat} {f : Addr} {fd : FuncData} {ps : List Str} {sp sp' : Sp} (G : FnG P w K mg base k f fd ps sp) (h : ∀ vs H Q E, sp' vs H Q E → sp vs H Q E) : FnG P w K mg base k f fd ps sp' :=
  ⟨fun vs H Q E q => G.len vs H Q E (h _ _ _ _ q), fun A out s H args us vs Q E hr hg he hb hv hs => G.run A out s H args us vs Q E hr hg he hb hv (h _ _ _ _ hs)⟩
theorem FnG.up {P : Program} {w : World} {K : PySem.W.Frag} {mg : Str → Option Value} {base : Heap} {j k : Nat} {f : Addr} {fd : FuncData} {ps : List Str} {sp : Sp} (G : FnG P w K mg base j f fd ps sp) (h : j ≤ k) : FnG P w K mg base k f fd ps sp :=
  ⟨G.len, fun A out s H args us vs Q E hr hg he hb hv hs => G.run A out s H args us vs Q E (hr.mono h) hg he hb hv hs⟩
/-- by its body -/
theorem fnG_of {P : Program} {w : World} {K : PySem.W.Frag} {mg : Str → Option Value} {base : Heap} {x qual : Str} {st : Stmt} {f : Addr} {fd : FuncData} {N ps : List Str} {k : Nat} {sp : Sp} (F : L2.Fun K x qual st f fd) (S : FnScope N ps (defScope st)) (len : ∀ vs H Q E, sp vs H Q E → vs.length = ps.length)
    (hbody : ∀ (cdv : Value) (A : Around) (out : List Env) (s : Shared) (H : Hp) (vs : List V) (Q : VK) (E : XK), Room k (A.deeper (envOfC qual (defScope st) s.heap.objs.size f cdv)) → A.guards = some [] → sp vs H Q E →
      ∃ t, PSs (cxOf (L2.CX P w) P w K mg base N qual (defScope st) f cdv A out s H E) (defBody st) t ∧ t { nx := fun _ H1 => Q .non H1, rt := Q } (start N vs) H) : FnG P w K mg base (k + 1) f fd ps sp := by
  obtain ⟨oc, od, kV, doc, pm, an, cdv, ct, osl, rfl, lk, hcd⟩ := F.ex
  refine ⟨len, fun A out s H args us vs Q E hr hg e0 hb rv hsp => ?_⟩
  have kin := e0.mod.kin.keeps fun b o e => (e0.bs b o e).1
  have nol := e0.mod.nolimit.keeps fun b o e => (e0.bs b o e).1
  have knd : ∀ z ∈ ps.zip us, (defScope st).names.lookup z.1 = some .local ∨ ((defScope st).names.lookup z.1 = some .cell ∧ ((cellsFrom (s.heap.objs.size + 1) (defScope st).names []).lookup z.1).isSome = true) := by
    intro z hz
    obtain ⟨n, v⟩ := z
    exact (S.par n (List.of_mem_zip hz).1).elim .inl fun q => .inr ⟨q, PySem.W.cellsFrom_some _ _ _ (.inl q)⟩
  refine codeAny_call_function hr.depth (kin _ _ lk) rfl S.co S.gen rfl (PySem.W.codeRec_of kin hcd) (hb _ _ _ _ (wpAny_newFunctionEnv_cells S.kind knd fun env he s1 made => ?_))
  subst he
  refine ⟨nol.keeps made.toInCall.keep, codeAny_func ?_⟩
  obtain ⟨t, ht, q0⟩ := hbody cdv A out s H vs Q E (hr.deeper _) hg hsp
  refine wpAny_mono (ht.run [] s1 (start N vs) H _ (inv_start S hr.hd e0 (len _ _ _ _ hsp) rv made) q0) (fun fl s2 z => ?_) fun _ _ z => z
  have done : ∀ {σ2 : L2.St} {H2 : Hp} {v : V} {u : Value}, Inv (cxOf (L2.CX P w) P w K mg base N qual (defScope st) f cdv A out s H E) [] σ2 H2 s2 → RelV v u → Q v H2 → CE out P w H s Q u s2 := fun J r q => ⟨_, _, J.os, J.bare, J.base, J.hok, r, q⟩
  cases fl with
  | next => obtain ⟨σ2, H2, J, q⟩ := z; exact done (v := .non) (u := .none) J rfl q
  | ret u => obtain ⟨v, σ2, H2, J, r, q⟩ := z; exact done J r q
  | brk => obtain ⟨_, _, _, q⟩ := z; exact q.elim
  | cont => obtain ⟨_, _, _, q⟩ := z; exact q.elim
section
variable {k : Nat} {f : Addr} {fd : FuncData} {ps : List Str} {sp : Sp} {E : L2.St → XK} {x : Str} {p : Pos} {e : Expr} {es : List Expr} {t : TA}
theorem run_G {pins : List (Addr × Obj)} {σ : L2.St} {H : Hp} {s : Shared} {Q : VK} {us : List Value} {vs : List V} (G : FnG X.prog X.w X.K X.mg X.base k f fd ps sp) (hr : Room k X.A) (hgd : X.A.guards = some []) (hb : Binds X.K fd ps []) (hx : PassesAt (L2.CX X.prog X.w) X σ (E σ))
    (I : Inv X pins σ H s) (r : Vals vs us) (h : sp vs H Q (E σ)) : wpAny (model X.prog X.w) X.A (call (.ref f) us) (EP X pins σ Q) X.xe s := by
  have hl : us.length = ps.length := r.length.symm.trans (G.len _ _ _ _ h)
  have b := hb s us I.kIn ((congrArg List.length (List.append_nil us)).trans hl)
  rw [List.append_nil] at b
  refine wpAny_call (codeAny_mono (G.run X.A X.stack s H ⟨us, []⟩ us vs Q (E σ) hr hgd I.env0 b r h) fun res s2 z => ?_)
  match res, z with
  | .error e, z => exact hx pins H s e s2 I z
  | .ok (.ret u), z => exact I.after z
  | .ok .next, z => exact False.elim z
  | .ok .brk, z => exact False.elim z
  | .ok .cont, z => exact False.elim z
theorem pe_callG (G : FnG X.prog X.w X.K X.mg X.base k f fd ps sp) (hr : Room k X.A) (hgd : X.A.guards = some []) (hg : Gl X x) (hm : X.mg x = some (.ref f)) (hk : PySem.W.keepIn X.K (.ref f) = true) (hb : Binds X.K fd ps []) (hx : ∀ σ, PassesAt (L2.CX X.prog X.w) X σ (E σ))
    (ha : PA X (e :: es) t) (hdb : (x == ("__debug__" : Str)) = false := by decide) (he : starEach (e :: es) X.env = (false, eval e X.env) :: starEach es X.env := by rfl) (hpl : (backTo pos (starEach es X.env)).any (·.1) = false := by rfl) : PE X (.Call (.Name x p) (e :: es) [] pos) (tCallS sp E t) :=
  ⟨fun pins s σ H Q I h => wpAny_Call_Name_kw (ld_glob I hg hm (PySem.W.callWith_K (h₀ := X.base) I.ok.mod.kin hk (thn (ha.run pos pins s σ H _ I h) fun us s1 ⟨vs, H1, I1, r, q⟩ => ⟨I1.kIn, run_G G hr hgd hb (hx σ) I1 r q⟩) he hpl) hdb)⟩
theorem pe_callG0 (G : FnG X.prog X.w X.K X.mg X.base k f fd ps sp) (hr : Room k X.A) (hgd : X.A.guards = some []) (hg : Gl X x) (hm : X.mg x = some (.ref f)) (hk : PySem.W.keepIn X.K (.ref f) = true) (hb : Binds X.K fd ps []) (hx : ∀ σ, PassesAt (L2.CX X.prog X.w) X σ (E σ))
    (hdb : (x == ("__debug__" : Str)) = false := by decide) : PE X (.Call (.Name x p) [] [] pos) (tCallS sp E tNil) :=
  ⟨fun pins s σ H Q I h => wpAny_Call_Name_kw (ld_glob I hg hm (PySem.W.callWith_K0 I.kIn hk (run_G (us := []) G hr hgd hb (hx σ) I .nil h)) hdb)⟩
end
abbrev E0S : L2.St → XK := fun _ _ _ _ => False
theorem passG {X : Cx} : ∀ σ, PassesAt (L2.CX X.prog X.w) X σ (E0S σ) := fun _ _ _ _ _ _ _ h => by
  obtain ⟨_, _, _, _, _, _, _, _, _, _, _, _, z⟩ := h
  exact z.elim
structure Cal (P : Program) (w : World) (K : PySem.W.Frag) (mg : Str → Option Value) (base : Heap) (k : Nat) (x : Str) (n : Nat) (asp : ASp) : Prop where
  ex : ∃ (f : Addr) (fd : FuncData) (ps : List Str), FnG P w K mg base k f fd ps (spOf ⟨w, mg⟩ K n asp) ∧ mg x = some (.ref f) ∧ PySem.W.keepIn K (.ref f) = true ∧ Binds K fd ps []
theorem sim_call {w : Gd} (hw : B.g = w) {n : Nat} {asp : ASp} {E : L2.St → XK} {ta : TA} {a : AA'} (ha : SimA B K n ta a) : SimE B K (tCallS (spOf w K n asp) E ta) (aCall asp a) := by
  subst hw
  intro σ s F C R H Q P hs hS h k
  refine ha σ s F C R H _ _ hs hS h fun ds vs F1 C1 H1 e1 S1 r1 hl h1 => ?_
  exact ⟨by rw [r1.length, hl], F1, C1, R, ds, P, S1.nil, r1, h1, fun d v F2 C2 H2 e2 S2 r2 h2 => k d v F2 C2 H2 (e1.trans e2) (S1.back e2 S2) r2 h2⟩
section
variable {e : Expr} {es : List Expr} {n : Nat} {t : TA} {a : AA'} {x : Str} {p : Pos} {asp : ASp} {k j : Nat}
theorem ae_call {g : Gd} (c : Cal X.prog X.w X.K X.mg X.base k x n asp) (hr : Room j X.A) (hgd : X.A.guards = some []) (ha : AA B X (e :: es) n t a) (hw : B.g = g := by first | rfl | assumption) (hX : (⟨X.w, X.mg⟩ : Gd) = g := by rfl) (hk : k ≤ j := by decide) (hg : Gl X x := by rfl)
    (hdb : (x == ("__debug__" : Str)) = false := by decide) (he : starEach (e :: es) X.env = (false, eval e X.env) :: starEach es X.env := by rfl) (hpl : (backTo pos (starEach es X.env)).any (·.1) = false := by rfl) (hK : X.K = K := by rfl) :
    AE B X (.Call (.Name x p) (e :: es) [] pos) (tCallS (spOf g K n asp) E0S t) (aCall asp a) := by
  subst hK
  exact ⟨by
  obtain ⟨f, fd, ps, F, hm, kp, b⟩ := c.ex
  rw [← hX]
  exact pe_callG F (hr.mono hk) hgd hg hm kp b passG ha.pa hdb he hpl, sim_call hw ha.sim⟩
theorem ae_call0 {g : Gd} (c : Cal X.prog X.w X.K X.mg X.base k x 0 asp) (hr : Room j X.A) (hgd : X.A.guards = some []) (hw : B.g = g := by first | rfl | assumption) (hX : (⟨X.w, X.mg⟩ : Gd) = g := by rfl) (hk : k ≤ j := by decide) (hg : Gl X x := by rfl)
    (hdb : (x == ("__debug__" : Str)) = false := by decide) (hK : X.K = K := by rfl) : AE B X (.Call (.Name x p) [] [] pos) (tCallS (spOf g K 0 asp) E0S tNil) (aCall asp aNil) := by
  subst hK
  exact ⟨by
  obtain ⟨f, fd, ps, F, hm, kp, b⟩ := c.ex
  rw [← hX]
  exact pe_callG0 F (hr.mono hk) hgd hg hm kp b passG hdb, sim_call hw sim_nil⟩
end
/-- a def's body as what the def does -/
def aBody (n : Nat) (b : AS') : ASp := fun ds C P => b ⟨fun _ C' => P .non C', P, fun _ _ => False, fun _ _ => False⟩ (ds.map some ++ List.replicate (n - ds.length) none) C
theorem fnA {P : Program} {w : World} {K : PySem.W.Frag} {mg : Str → Option Value} {base : Heap} {x qual : Str} {st : Stmt} {f : Addr} {fd : FuncData} {N ps : List Str} {k : Nat} {b : AS'} {asp : ASp} (F : L2.Fun K x qual st f fd) (S : FnScope N ps (defScope st))
    (hbody : ∀ (cdv : Value) (A : Around) (outer : List Env) (s : Shared) (H : Hp) (E : XK), Room k (A.deeper (envOfC qual (defScope st) s.heap.objs.size f cdv)) → A.guards = some [] → ∃ ts, ASs (Bs.nil ⟨w, mg⟩) (cxOf (L2.CX P w) P w K mg base N qual (defScope st) f cdv A outer s H E).nox (defBody st) ts b)
    (h : ∀ ds C P, ds.length = ps.length → asp ds C P → aBody N.length b ds C P) : FnG P w K mg base (k + 1) f fd ps (spOf ⟨w, mg⟩ K ps.length asp) := by
  refine fnG_of F S (fun vs H Q E z => z.1) (fun cdv A outer s H vs Q E hr hg z => ?_)
  obtain ⟨ts, hps⟩ := hbody cdv A outer s H E hr hg
  obtain ⟨hl, F1, C, R, ds, P1, hS, hR, ha, hk⟩ := z
  refine ⟨ts, hps.ps.nox, ?_⟩
  have hb := h ds C P1 (by rw [← hR.length, hl]) ha
  refine hps.sim { nx := fun _ H' => Q .non H', rt := Q } ⟨fun _ C' => P1 .non C', P1, fun _ _ => False, fun _ _ => False⟩ _ _ F1 C R H ⟨fun s σ F' C' H' e _ S h => ?_, fun d v F' C' H' e r S h => ?_, fun _ _ _ _ _ _ _ _ h => h.elim, fun _ _ _ _ _ _ _ _ h => h.elim⟩ (Slo.start hR N.length) hS hb
  · exact hk .non .non F' C' H' e S .non h
  · exact hk d v F' C' H' e S r h
theorem calA {P : Program} {w : World} {K : PySem.W.Frag} {mg : Str → Option Value} {base : Heap} {x y qual : Str} {st : Stmt} {f : Addr} {fd : FuncData} {N ps : List Str} {k n : Nat} {b : AS'} {asp : ASp} (F : L2.Fun K x qual st f fd) (S : FnScope N ps (defScope st)) (hn : ps.length = n) (hm : mg y = some (.ref f)) (hb : Binds K fd ps [])
    (hbody : ∀ (cdv : Value) (A : Around) (outer : List Env) (s : Shared) (H : Hp) (E : XK), Room k (A.deeper (envOfC qual (defScope st) s.heap.objs.size f cdv)) → A.guards = some [] → ∃ ts, ASs (Bs.nil ⟨w, mg⟩) (cxOf (L2.CX P w) P w K mg base N qual (defScope st) f cdv A outer s H E).nox (defBody st) ts b)
    (h : ∀ ds C P, ds.length = n → asp ds C P → aBody N.length b ds C P) : Cal P w K mg base (k + 1) y n asp := by
  subst hn
  exact ⟨f, fd, ps, fnA F S hbody h, hm, F.kp, hb⟩
structure AMt (B : Bs) (X : Cx) (id : String) (r : V → List V → Hp → VK → Prop) (a : D → ASp) : Prop where
  op : MtR X id r
  sim : SimRM B X.K r a
def isTy (T : String) (C : AH) (d : D) : Bool := match d with
  | .str _ => T == "str"
  | .lst _ => T == "list"
  | .scr _ => T == "list"
  | .dk _ => T == "dict"
  | .ce p => (match C p with | some (.lst _) => T == "list" | some (.dk _) => T == "dict" | _ => false)
  | _ => false
theorem isTy_ok {F : Hp} {C : AH} {R H : Hp} {v : V} {d : D} {T : String} (hS : Sat B K F C R H) (r : Rep K F v d) (h : isTy T C d = true) : tyV K T v H := by
  cases r with
  | str x => simpa [isTy, tyV] using h
  | lst e q => exact .inl ⟨by simpa [isTy] using h, _, SqL.of (hS.ex _ _ e)⟩
  | scr e => exact .inl ⟨by simpa [isTy] using h, _, hS.ex.l e⟩
  | dk e q => exact .inr (.inr (.inl ⟨by simpa [isTy] using h, .inl ⟨_, hS.ex _ _ e⟩⟩))
  | ce p =>
    simp only [isTy] at h
    split at h
    · rename_i e
      obtain ⟨_, o, h1, h2⟩ := hS.cell p _ e
      cases h2; exact .inl ⟨by simpa using h, _, SqL.of h1⟩
    · rename_i e
      obtain ⟨_, o, h1, h2⟩ := hS.cell p _ e
      cases h2; exact .inr (.inr (.inl ⟨by simpa using h, .inl ⟨_, h1⟩⟩))
    · cases h
  | _ => cases h
def aMeth (T : String) (m : D → ASp) (o : AE') (a : AA') : AE' := fun s C P => o s C fun x C1 => isTy T C1 x = true ∧ a s C1 fun ds C2 => m x ds C2 P
def aMeth0 (T : String) (m : D → ASp) (o : AE') : AE' := fun s C P => o s C fun x C1 => isTy T C1 x = true ∧ m x [] C1 P
section
variable {o e : Expr} {es : List Expr} {n : Nat} {to : TE} {t : TA} {ao : AE'} {a : AA'} {T id : String} {name : Str} {r : V → List V → Hp → VK → Prop} {ar : D → ASp} {apos cpos : Pos}
theorem ae_meth (pa : PlainAttrs T) (slot : Slot T name id) (hty : typeOf (.builtin id) = pure (.type "method_descriptor")) (hm : AMt B X id r ar) (ho : AE B X o to ao) (ha : AA B X (e :: es) n t a)
    (hbase : attributeBase o name X.env (eval o X.env) = eval o X.env := by rfl)
    (hfew : ((backTo cpos (starEach (e :: es) X.env)).all (fun x => !x.1) && (backToKw cpos (keywordEach [] X.env)).all (fun x => x.1.isSome)
      && decide ((e :: es).length + ([] : List Keyword).length + (if ([] : List Keyword).isEmpty then 0 else 1) < 30)) = true := by rfl)
    (hline : (apos.endLine == cpos.line) = true := by rfl) (hs : starEach (e :: es) X.env = (false, eval e X.env) :: starEach es X.env := by rfl) (hplain : (backTo cpos (starEach es X.env)).any (·.1) = false := by rfl) (hK : X.K = K := by rfl) :
    AE B X (.Call (.Attribute o name apos) (e :: es) [] cpos) (tBM K T r to t) (aMeth T ar ao a) := by
  subst hK
  exact ⟨pe_bm pa slot hty hm.op ho.pe ha.pa hbase hfew hline hs hplain, by
  intro σ s F C R H Q P hs hS h0 k
  refine ho.sim σ s F C R H _ _ hs hS h0 fun x v F1 C1 H1 e1 S1 r1 h1 => ⟨isTy_ok S1 r1 h1.1, ?_⟩
  refine ha.sim σ s F1 C1 R H1 _ _ (hs.mono e1) S1 h1.2 fun ds vs F2 C2 H2 e2 S2 r2 hl h2 => ?_
  exact hm.sim v x vs ds F2 C2 R H2 Q P S2 (r1.mono e2) r2 h2 fun d u F3 C3 H3 e3 S3 r3 h3 => k d u F3 C3 H3 ((e1.trans e2).trans e3) S3 r3 h3⟩
theorem ae_meth0 (pa : PlainAttrs T) (slot : Slot T name id) (hty : typeOf (.builtin id) = pure (.type "method_descriptor")) (hm : AMt B X id r ar) (ho : AE B X o to ao)
    (hbase : attributeBase o name X.env (eval o X.env) = eval o X.env := by rfl) (hline : (apos.endLine == cpos.line) = true := by rfl) (hK : X.K = K := by rfl) :
    AE B X (.Call (.Attribute o name apos) [] [] cpos) (tBM0 K T r to) (aMeth0 T ar ao) := by
  subst hK
  exact ⟨pe_bm0 pa slot hty hm.op ho.pe hbase hline, by
  intro σ s F C R H Q P hs hS h0 k
  refine ho.sim σ s F C R H _ _ hs hS h0 fun x v F1 C1 H1 e1 S1 r1 h1 => ⟨isTy_ok S1 r1 h1.1, ?_⟩
  exact hm.sim v x [] [] F1 C1 R H1 Q P S1 r1 .nil h1.2 fun d u F3 C3 H3 e3 S3 r3 h3 => k d u F3 C3 H3 (e1.trans e3) S3 r3 h3⟩
end
theorem cellL {F : Hp} {C : AH} {R H : Hp} {p : Addr} {ds : List D} (hS : Sat B K F C R H) (e : C p = some (.lst ds)) : ∃ xs, H p = some (.lst xs) ∧ RepL K F xs ds := by
  obtain ⟨_, o, h1, h2⟩ := hS.cell p _ e
  cases h2
  exact ⟨_, h1, by assumption⟩
def aAppend : D → ASp := fun x ds C P => match x, ds with
  | .ce p, [d] => (match C p with | some (.lst us) => us.length < sizeLine ∧ P .non (put C p (.lst (us ++ [d]))) | _ => False)
  | _, _ => False
theorem am_append : AMt B X "list.append" rAppend aAppend := ⟨fun pins s σ H x xs v us Q I r1 r2 h => mt_append pins s σ H x xs v us Q I r1 r2 h, by
  intro v d vs ds F C R H Q P hS r1 r2 h k
  unfold aAppend at h
  split at h
  · cases r1
    cases r2 with
    | cons r2 r3 =>
      cases r3
      split at h
      · rename_i e
        obtain ⟨xs, h1, h2⟩ := cellL hS e
        exact ⟨_, xs, _, rfl, rfl, h1, by rw [h2.length]; exact h.1, k _ _ F _ _ (Ex.refl F) (hS.mutC e (.lst (h2.append (.cons r2 .nil)))) .non h.2⟩
      · exact h.elim
  · exact h.elim⟩
/-- xs.extend(ys), ys a list -/
def aExtend : D → ASp := fun x ds C P => match x, ds with
  | .ce p, [d] => (match C p, asL C d with | some (.lst us), some ws => us.length + ws.length ≤ sizeLine ∧ P .non (put C p (.lst (us ++ ws))) | _, _ => False)
  | _, _ => False
theorem am_extend : AMt B X "list.extend" rExtend aExtend := ⟨fun pins s σ H x xs v us Q I r1 r2 h => mt_extend pins s σ H x xs v us Q I r1 r2 h, by
  intro v d vs ds F C R H Q P hS r1 r2 h k
  unfold aExtend at h
  split at h
  · cases r1
    cases r2 with
    | cons r2 r3 =>
      cases r3
      split at h
      · rename_i e e2
        obtain ⟨xs, h1, h2⟩ := cellL hS e
        obtain ⟨a, ys, e3, h3, h4⟩ := asL_ok hS r2 e2
        exact ⟨_, a, xs, ys, rfl, by rw [e3], h1, h3, by rw [h2.length, h4.length]; exact h.1, k _ _ F _ _ (Ex.refl F) (hS.mutC e (.lst (h2.append h4))) .non h.2⟩
      · exact h.elim
  · exact h.elim⟩
def aPop : D → ASp := fun x ds C P => match x, ds with
  | .ce p, [] => (match C p with | some (.lst us) => (match us[us.length - 1]? with | some d => P d (put C p (.lst us.dropLast)) | none => False) | _ => False)
  | _, _ => False
theorem am_pop : AMt B X "list.pop" rPop aPop := ⟨fun pins s σ H x xs v us Q I r1 r2 h => mt_pop pins s σ H x xs v us Q I r1 r2 h, by
  intro v d vs ds F C R H Q P hS r1 r2 h k
  unfold aPop at h
  split at h
  · cases r1
    cases r2
    split at h
    · rename_i us e
      split at h
      · rename_i d e2
        obtain ⟨xs, h1, h2⟩ := cellL hS e
        obtain ⟨u, h3, h4⟩ := h2.getD e2
        exact ⟨_, xs, u, rfl, rfl, h1, by rw [h2.length]; exact h3, k _ _ F _ _ (Ex.refl F) (hS.mutC e (.lst h2.dropLast)) h4 h⟩
      · exact h.elim
    · exact h.elim
  · exact h.elim⟩
def aPopAt : D → ASp := fun x ds C P => match x, ds with
  | .ce p, [.int i] => (match C p with | some (.lst us) => -(2 ^ 63) ≤ i ∧ i < 2 ^ 63 ∧ (match seqIndex? i us.length with | some k => (match us[k]? with | some d => P d (put C p (.lst (us.eraseIdx k))) | none => False) | none => False) | _ => False)
  | _, _ => False
theorem am_popAt : AMt B X "list.pop" rPopAt aPopAt := ⟨fun pins s σ H x xs v us Q I r1 r2 h => mt_popAt pins s σ H x xs v us Q I r1 r2 h, by
  intro v d vs ds F C R H Q P hS r1 r2 h k
  unfold aPopAt at h
  split at h
  · cases r1
    cases r2 with
    | cons r2 r3 =>
      cases r3; cases r2
      split at h
      · rename_i us e
        obtain ⟨b1, b2, h⟩ := h
        split at h
        · rename_i j ej
          split at h
          · rename_i d e2
            obtain ⟨xs, h1, h2⟩ := cellL hS e
            obtain ⟨u, h3, h4⟩ := h2.getD e2
            exact ⟨_, xs, _, j, u, rfl, rfl, h1, b1, b2, by rw [h2.length]; exact ej, h3, k _ _ F _ _ (Ex.refl F) (hS.mutC e (.lst (h2.erase j))) h4 h⟩
          · exact h.elim
        · exact h.elim
      · exact h.elim
  · exact h.elim⟩
theorem walk_l {F : Hp} {a : Addr} {ds : List D} {hold : AH → Prop} (h : ∀ F' C' R' H', Ex F F' → Sat B K F' C' R' H' → hold C' → ∃ xs, SqL K H' a xs ∧ RepL K F' xs ds) : Walks B K F ds hold (Itl K a) := by
  refine ⟨fun F' C' R' H' e S hc => ?_, fun F' C' R' H' i e S hc hi => ?_, fun F' C' R' H' i x H'' e S hc hi y => ?_⟩
  · obtain ⟨xs, h1, h2⟩ := h F' C' R' H' e S hc
    exact ⟨xs, h1, by rw [h2.length]; exact Nat.le_refl _⟩
  · obtain ⟨xs, h1, h2⟩ := h F' C' R' H' e S hc
    exact ⟨xs, xs[i]'(by rw [h2.length]; exact hi), h1, by simp⟩
  · obtain ⟨xs, h1, h2⟩ := h F' C' R' H' e S hc
    obtain ⟨e1, y⟩ := y
    subst e1
    obtain ⟨d, h3, h4⟩ := h2.get (y xs h1)
    exact ⟨d, F', h3, Ex.refl F', S, h4⟩
theorem asL_later {F F' : Hp} {C C' : AH} {R R' H H' : Hp} {v : V} {d : D} {ds : List D} (hS : Sat B K F C R H) (r : Rep K F v d) (h : asLr C d = some ds) (e : Ex F F') (S' : Sat B K F' C' R' H') (hc : asLr C' d = some ds) : ∀ a, v = .ref a → ∃ xs, SqL K H' a xs ∧ RepL K F' xs ds := by
  intro a ea
  obtain ⟨b, xs, e1, h1, h2⟩ := asLr_ok S' (r.mono e) hc
  rw [ea] at e1
  cases e1
  exact ⟨xs, h1, h2⟩
/-- for x in a list -/
def aIL (a : AE') : AI' := fun s C P => a s C fun x C1 => match asLr C1 x with | some ds => P ds (fun C' => asLr C' x = some ds) C1 | none => False
theorem ai_list {tg e : Expr} {te : TE} {a : AE'} (h : AE B X e te a) (hK : X.K = K := by rfl) : AI B X tg e (iList K te) (aIL a) := by
  subst hK
  exact ⟨pi_list h.pe, by
  intro σ s F C R H Q P hs hS h0 k
  refine h.sim σ s F C R H _ _ hs hS h0 fun x v F1 C1 H1 e1 S1 r1 h1 => ?_
  split at h1
  · rename_i ds q
    obtain ⟨b, xs, e2, h2, h3⟩ := asLr_ok S1 r1 q
    exact ⟨b, e2, ⟨xs, h2⟩, k ds _ _ F1 C1 H1 e1 S1 (walk_l fun F' C' R' H' e' S' hc => asL_later S1 r1 q e' S' hc b e2) h1⟩
  · exact h1.elim⟩
/-- for x in a tuple -/
def aIT (a : AE') : AI' := fun s C P => a s C fun x C1 => match asT x with | some ds => P ds (fun _ => True) C1 | none => False
theorem ai_tup {tg e : Expr} {te : TE} {a : AE'} (h : AE B X e te a) (hK : X.K = K := by rfl) : AI B X tg e (iTup K te) (aIT a) := by
  subst hK
  exact ⟨pi_tup h.pe, by
  intro σ s F C R H Q P hs hS h0 k
  refine h.sim σ s F C R H _ _ hs hS h0 fun x v F1 C1 H1 e1 S1 r1 h1 => ?_
  split at h1
  · rename_i ds q
    obtain ⟨b, xs, e2, h2, h3⟩ := asT_ok S1 r1 q
    refine ⟨b, e2, ⟨xs, SqT.of h2⟩, k ds _ _ F1 C1 H1 e1 S1 ⟨fun F' C' R' H' e S _ => ?_, fun F' C' R' H' i e S _ hi => ?_, fun F' C' R' H' i x H'' e S _ hi y => ?_⟩ h1⟩
    · obtain ⟨b', xs', e2', h2', h3'⟩ := asT_ok S (r1.mono e) q
      rw [e2] at e2'; cases e2'
      exact ⟨xs', SqT.of h2', by rw [h3'.length]; exact Nat.le_refl _⟩
    · obtain ⟨b', xs', e2', h2', h3'⟩ := asT_ok S (r1.mono e) q
      rw [e2] at e2'; cases e2'
      exact ⟨xs', xs'[i]'(by rw [h3'.length]; exact hi), SqT.of h2', by simp⟩
    · obtain ⟨b', xs', e2', h2', h3'⟩ := asT_ok S (r1.mono e) q
      rw [e2] at e2'; cases e2'
      obtain ⟨e3, y⟩ := y
      subst e3
      obtain ⟨d, h4, h5⟩ := h3'.get (y xs' (SqT.of h2'))
      exact ⟨d, F', h4, Ex.refl F', S, h5⟩
  · exact h1.elim⟩
def rangeD (lo : Int) (n : Nat) : List D := (List.range n).map fun (i : Nat) => D.int (lo + i)
theorem rangeD_get {lo : Int} {n i : Nat} (h : i < n) : (rangeD lo n)[i]? = some (.int (lo + i)) := by
  unfold rangeD
  rw [List.getElem?_map, List.getElem?_range h]
  rfl
theorem rangeD_len (lo : Int) (n : Nat) : (rangeD lo n).length = n := by
  unfold rangeD
  rw [List.length_map, List.length_range]
theorem walk_r {F : Hp} (lo : Int) (n : Nat) : Walks B K F (rangeD lo n) (fun _ => True) (Itr lo n) := by
  refine ⟨fun F' C' R' H' e S _ => ?_, fun F' C' R' H' i e S _ hi => ?_, fun F' C' R' H' i x H'' e S _ hi y => ?_⟩
  · rw [rangeD_len]; exact Nat.le_refl _
  · rw [rangeD_len] at hi; exact hi
  · rw [rangeD_len] at hi
    obtain ⟨e1, y⟩ := y
    subst e1; subst y
    exact ⟨_, F', rangeD_get hi, Ex.refl F', S, .int _⟩
def aIR1 (a : AA') : AI' := fun s C P => a s C fun ds C1 => match ds with | [.int j] => -(2 ^ 62) ≤ j ∧ j < 2 ^ 62 ∧ P (rangeD 0 j.toNat) (fun _ => True) C1 | _ => False
def aIR2 (a : AA') : AI' := fun s C P => a s C fun ds C1 => match ds with | [.int i, .int j] => (-(2 ^ 62) ≤ i ∧ i < 2 ^ 62 ∧ -(2 ^ 62) ≤ j ∧ j < 2 ^ 62) ∧ P (rangeD i (j - i).toNat) (fun _ => True) C1 | _ => False
theorem ai_range1 {tg e : Expr} {n : Nat} {ta : TA} {a : AA'} {p : Pos} (hm : X.mg "range" = none) (h : AA B X [e] n ta a) (hg : Gl X "range" := by rfl) (hs : starEach [e] X.env = [(false, eval e X.env)] := by rfl) : AI B X tg (.Call (.Name "range" p) [e] [] pos) (iRng1 ta) (aIR1 a) := ⟨pi_range1 hg hm h.pa hs, by
  intro σ s F C R H Q P hs hS h0 k
  refine h.sim σ s F C R H _ _ hs hS h0 fun ds vs F1 C1 H1 e1 S1 r1 hl h1 => ?_
  split at h1
  · cases r1 with | cons r1 r2 => cases r2; cases r1; exact ⟨_, rfl, h1.1, h1.2.1, k _ _ _ F1 C1 H1 e1 S1 (walk_r 0 _) h1.2.2⟩
  · exact h1.elim⟩
theorem ai_range2 {tg e e2 : Expr} {n : Nat} {ta : TA} {a : AA'} {p : Pos} (hm : X.mg "range" = none) (h : AA B X [e, e2] n ta a) (hg : Gl X "range" := by rfl) (hs : starEach [e, e2] X.env = [(false, eval e X.env), (false, eval e2 X.env)] := by rfl) (hs2 : starEach [e2] X.env = [(false, eval e2 X.env)] := by rfl) : AI B X tg (.Call (.Name "range" p) [e, e2] [] pos) (iRng2 ta) (aIR2 a) := ⟨pi_range2 hg hm h.pa hs hs2, by
  intro σ s F C R H Q P hs hS h0 k
  refine h.sim σ s F C R H _ _ hs hS h0 fun ds vs F1 C1 H1 e1 S1 r1 hl h1 => ?_
  split at h1
  · cases r1 with | cons r1 r2 => cases r2 with | cons r2 r3 => cases r3; cases r1; cases r2; exact ⟨_, _, rfl, h1.1, k _ _ _ F1 C1 H1 e1 S1 (walk_r _ _) h1.2⟩
  · exact h1.elim⟩
/-- a text, sign by sign -/
def signs (z : Str) : List D := z.cps.toList.map fun c => D.str ⟨#[c]⟩
def aIS (a : AE') : AI' := fun s C P => a s C fun x C1 => match x with | .str z => P (signs z) (fun _ => True) C1 | _ => False
theorem ai_str {tg e : Expr} {te : TE} {a : AE'} (h : AE B X e te a) : AI B X tg e (iStr te) (aIS a) := ⟨pi_str h.pe, by
  intro σ s F C R H Q P hs hS h0 k
  refine h.sim σ s F C R H _ _ hs hS h0 fun x v F1 C1 H1 e1 S1 r1 h1 => ?_
  split at h1
  · rename_i z
    cases r1
    refine ⟨z, rfl, k _ _ _ F1 C1 H1 e1 S1 ⟨fun F' C' R' H' e S _ => ?_, fun F' C' R' H' i e S _ hi => ?_, fun F' C' R' H' i x H'' e S _ hi y => ?_⟩ h1⟩
    · unfold signs; rw [List.length_map, Array.length_toList]; exact Nat.le_refl _
    · unfold signs at hi; rw [List.length_map, Array.length_toList] at hi; exact hi
    · obtain ⟨e3, c, y1, y2⟩ := y
      subst e3; subst y2
      refine ⟨_, F', ?_, Ex.refl F', S, .str _⟩
      unfold signs
      rw [List.getElem?_map, Array.getElem?_toList, y1]
      rfl
  · exact h1.elim⟩
/-- enumerate of a list -/
def enumD (ds : List D) : List D := (List.range ds.length).map fun (i : Nat) => D.tup [.int i, ds.getD i .non]
def aIE (a : AA') : AI' := fun s C P => a s C fun us C1 => match us with | [x] => (match asLr C1 x with | some ds => P (enumD ds) (fun C' => asLr C' x = some ds) C1 | none => False) | _ => False
/-- zip of two lists -/
def zipD (xs ys : List D) : List D := (xs.zip ys).map fun p => D.tup [p.1, p.2]
theorem zipD_len (xs ys : List D) : (zipD xs ys).length = min xs.length ys.length := by unfold zipD; rw [List.length_map, List.length_zip]
theorem zipD_get {xs ys : List D} {i : Nat} {x y : D} (h : xs[i]? = some x) (g : ys[i]? = some y) : (zipD xs ys)[i]? = some (.tup [x, y]) := by
  unfold zipD
  rw [List.getElem?_map, show (xs.zip ys)[i]? = some (x, y) from List.getElem?_zip_eq_some.mpr ⟨h, g⟩]
  rfl
def aIZ (a : AA') : AI' := fun s C P => a s C fun us C1 => match us with | [x, y] => (match asLr C1 x, asLr C1 y with | some ds, some es => P (zipD ds es) (fun C' => asLr C' x = some ds ∧ asLr C' y = some es) C1 | _, _ => False) | _ => False
end
end AL
namespace AL
open PySem PySem.Spec L2
variable {B : Bs}
section
variable {X : Cx} {pos : Pos} {K : PySem.W.Frag}
theorem EndsR.mono {F F' R : Hp} {E : AEnds} {D' : Ends} (h : EndsR B K F R E D') (e : Ex F F') : EndsR B K F' R E D' :=
  ⟨fun s σ G C H e1 hs S z => h.nx s σ G C H (e.trans e1) hs S z, fun d v G C H e1 r S z => h.rt d v G C H (e.trans e1) r S z, fun s σ G C H e1 hs S z => h.bk s σ G C H (e.trans e1) hs S z, fun s σ G C H e1 hs S z => h.ct s σ G C H (e.trans e1) hs S z⟩
def aGName (i : Nat) : AG' := fun d s C P => P (s.set i (some d)) C
theorem wipe_get (σ : L2.St) (i : Nat) : ∀ vs : List Nat, (L2.wipe σ vs)[i]? = if i ∈ vs then (if i < σ.length then some none else none) else σ[i]?
  | [] => by simp [L2.wipe]
  | v :: vs => by
    unfold L2.wipe
    by_cases h : i = v
    · subst h
      rw [if_pos List.mem_cons_self]
      by_cases hl : i < σ.length
      · rw [if_pos hl, List.getElem?_set_self (by rw [L2.wipe_length]; exact hl)]
      · rw [if_neg hl, List.getElem?_eq_none (by rw [List.length_set, L2.wipe_length]; omega)]
    · rw [List.getElem?_set_ne (Ne.symm h), wipe_get σ i vs]
      by_cases h2 : i ∈ vs
      · rw [if_pos h2, if_pos (List.mem_cons_of_mem _ h2)]
      · rw [if_neg h2, if_neg (by simp [h, h2])]
theorem wipe_set {σ : L2.St} {j : Nat} {x : Option V} {vs : List Nat} (h : j ∈ vs) : L2.wipe (σ.set j x) vs = L2.wipe σ vs := by
  apply List.ext_getElem?
  intro i
  rw [wipe_get, wipe_get, List.length_set]
  by_cases h2 : i ∈ vs
  · rw [if_pos h2, if_pos h2]
  · rw [if_neg h2, if_neg h2, List.getElem?_set_ne (fun z => h2 (by rw [← z]; exact h))]
theorem wipe_wipe (σ : L2.St) (vs : List Nat) : L2.wipe (L2.wipe σ vs) vs = L2.wipe σ vs := by
  apply List.ext_getElem?
  intro i
  rw [wipe_get, L2.wipe_length]
  by_cases h2 : i ∈ vs
  · rw [if_pos h2, wipe_get, if_pos h2]
  · rw [if_neg h2]
theorem ag_name (i : Nat) {vs : List Nat} {x : Str} (hN : X.N.Nodup) (hi : X.N[i]? = some x := by rfl) (hx : Loc X.env.scope x := by exact Or.inl rfl) (hv : i ∈ vs := by decide) (hf : X.fn x = true ∨ X.env.scope.names.lookup x = some .local := by first | exact .inl rfl | exact .inr rfl) : AG B X (.Name x pos) vs (gName i) (aGName i) :=
  ⟨pg_name hN hi hx hf, fun v d σ s F C R H Q P hs hS r h k => k _ _ F C H (Ex.refl F) (hs.set r i) hS h, fun x σ H Q Q' h k => k _ _ (wipe_set hv) h⟩
abbrev AGs' := List D → ASt → AH → (ASt → AH → Prop) → Prop
def SimGs (B : Bs) (K : PySem.W.Frag) (g : TGs) (a : AGs') : Prop := ∀ (vs : List V) (ds : List D) (σ : L2.St) (s : ASt) (F : Hp) (C : AH) (R H : Hp) (Q : L2.St → Hp → Prop) (P : ASt → AH → Prop), Slo K F s σ → Sat B K F C R H → RepL K F vs ds → a ds s C P →
  (∀ s' σ' F' C' H', Ex F F' → Slo K F' s' σ' → Sat B K F' C' R H' → P s' C' → Q σ' H') → g vs σ H Q
structure AGs (B : Bs) (X : Cx) (es : List Expr) (vs : List Nat) (g : TGs) (a : AGs') : Prop where
  pg : PGs X es g
  sim : SimGs B X.K g a
  inn : ∀ xs σ H (Q Q' : L2.St → Hp → Prop), g xs σ H Q → (∀ σ2 H2, L2.wipe σ2 vs = L2.wipe σ vs → Q σ2 H2 → Q' σ2 H2) → g xs σ H Q'
def aGNil : AGs' := fun ds s C P => match ds with | [] => P s C | _ => False
def aGCons (g : AG') (r : AGs') : AGs' := fun ds s C P => match ds with | d :: ds => g d s C fun s' C' => r ds s' C' P | [] => False
theorem ags_nil {vs : List Nat} : AGs B X [] vs gNil aGNil := ⟨pgs_nil, fun vs ds σ s F C R H Q P hs hS r h k => by
  unfold aGNil at h
  split at h
  · cases r
    exact ⟨rfl, k s σ F C H (Ex.refl F) hs hS h⟩
  · exact h.elim, fun xs σ H Q Q' h k => ⟨h.1, k _ _ rfl h.2⟩⟩
theorem ags_cons {e : Expr} {es : List Expr} {vs : List Nat} {g : TG} {r : TGs} {a : AG'} {b : AGs'} (h1 : AG B X e vs g a) (h2 : AGs B X es vs r b) (hs : (assignEach (e :: es) X.env).map (·.2) = assign e X.env :: (assignEach es X.env).map (·.2) := by rfl) : AGs B X (e :: es) vs (gCons g r) (aGCons a b) :=
  ⟨pgs_cons h1.pg h2.pg hs, fun vs ds σ s F C R H Q P hs hS rr h k => by
    unfold aGCons at h
    split at h
    · cases rr with
      | cons r1 r2 =>
        refine ⟨_, _, rfl, ?_⟩
        refine h1.sim _ _ σ s F C R H _ _ hs hS r1 h fun s1 σ1 F1 C1 H1 e1 hs1 S1 q1 => ?_
        exact h2.sim _ _ σ1 s1 F1 C1 R H1 Q P hs1 S1 (r2.mono e1) q1 fun s2 σ2 F2 C2 H2 e2 => k s2 σ2 F2 C2 H2 (e1.trans e2)
    · exact h.elim, fun xs σ H Q Q' h k => by
    obtain ⟨v, r, e, h⟩ := h
    refine ⟨v, r, e, ?_⟩
    exact h1.inn v σ H _ _ h fun σ1 H1 w1 q => h2.inn r σ1 H1 _ _ q fun σ2 H2 w2 q2 => k σ2 H2 (w2.trans w1) q2⟩
def aGTup (n : Nat) (g : AGs') : AG' := fun d s C P => match d with | .tup ds => ds.length = n ∧ g ds s C P | _ => False
theorem ag_tup {es : List Expr} {k n : Nat} {vs : List Nat} {t : TGs} {a : AGs'} (h : AGs B X es vs t a) (hc : X.calm = true := by rfl) (hn : (assignEach es X.env).length = n := by rfl) (hst : (assignEach es X.env).findIdx? (·.1) = none := by rfl) (hK : X.K = K := by rfl) : AG B X (.Tuple es k pos) vs (gTup K n t) (aGTup n a) := by
  subst hK
  exact ⟨pg_tup hc h.pg hn hst, fun v d σ s F C R H Q P hs hS r h0 kk => by
    unfold aGTup at h0
    split at h0
    · cases r with
      | tup e q =>
        exact ⟨_, _, rfl, e.sq hS.ex, by rw [q.length]; exact h0.1, h.sim _ _ σ s F C R H Q P hs hS q h0.2 kk⟩
    · exact h0.elim, fun x σ H Q Q' h0 kk => by
    obtain ⟨a, xs, e, hq, hl, h0⟩ := h0
    exact ⟨a, xs, e, hq, hl, h.inn xs σ H _ _ h0 kk⟩⟩
/-- xs[i] = .., a list -/
def aGSet (o i : AE') : AG' := fun d s C P => o s C fun x C1 => i s C1 fun y C2 => match x, y with
  | .ce p, .int j => (match C2 p with | some (.lst us) => (match ixN us.length j with | some k => P s (put C2 p (.lst (us.set k d))) | none => False) | _ => False)
  | _, _ => False
theorem sim_set {to ti : TE} {ao ai : AE'} (ho : SimE B K to ao) (hi : SimE B K ti ai) : SimG B K (gSub to ti rSetL) (aGSet ao ai) := by
  intro v d σ s F C R H Q P hs hS r h k
  refine ho σ s F C R H _ _ hs hS h fun x w F1 C1 H1 e1 S1 r1 h1 => ?_
  refine hi σ s F1 C1 R H1 _ _ (hs.mono e1) S1 h1 fun y w2 F2 C2 H2 e2 S2 r2 h2 => ?_
  split at h2
  · cases r1
    cases r2
    split at h2
    · rename_i us e
      split at h2
      · rename_i j q
        obtain ⟨xs, h3, h4⟩ := cellL S2 e
        exact ⟨_, xs, _, j, rfl, rfl, h3, by rw [h4.length]; exact q, k s σ F2 _ _ (e1.trans e2) (hs.mono (e1.trans e2)) (S2.mutC e (.lst (h4.set (r.mono (e1.trans e2)) j))) h2⟩
      · exact h2.elim
    · exact h2.elim
  · exact h2.elim
def aNext : AS' := fun E s C => E.nx s C
def aSeq (a b : AS') : AS' := fun E s C => a { E with nx := b E } s C
theorem sim_next : SimS B K tNext aNext := fun D' E σ s F C R H hE hs hS h => hE.nx s σ F C H (Ex.refl F) hs hS h
theorem sim_seq {t u : TS} {a b : AS'} (ha : SimS B K t a) (hb : SimS B K u b) : SimS B K (tSeq t u) (aSeq a b) := fun D' E σ s F C R H hE hs hS h =>
  ha { D' with nx := u D' } { E with nx := b E } σ s F C R H ⟨fun s σ F' C' H' e hs S z => hb D' E σ s F' C' R H' (hE.mono e) hs S z, hE.rt, hE.bk, hE.ct⟩ hs hS h
theorem ass_nil : ASs B X [] tNext aNext := ⟨pss_nil, sim_next⟩
theorem ass_one {st : Stmt} {t : TS} {a : AS'} (h : AS B X st t a) : ASs B X [st] t a := ⟨pss_one h.ps, h.sim⟩
theorem ass_cons {st : Stmt} {rest : List Stmt} {t u : TS} {a b : AS'} (h : AS B X st t a) (g : ASs B X rest u b) : ASs B X (st :: rest) (tSeq t u) (aSeq a b) := ⟨pss_cons h.ps g.ps, sim_seq h.sim g.sim⟩
/-- a cell that is changed no more, in a slot -/
def aFrz (i : Nat) (a : AS') : AS' := fun E s C => match s[i]? with
  | some (some (.ce p)) => (match C p with | some (.lst ds) => a E (s.set i (some (.lst ds))) (del C p) | some (.dk es) => a E (s.set i (some (.dk es))) (del C p) | _ => False)
  | _ => False
theorem sim_frz {t : TS} {a : AS'} (i : Nat) (h : SimS B K t a) : SimS B K t (aFrz i a) := fun D' E σ s F C R H hE hs hS h0 => by
  unfold aFrz at h0
  split at h0
  · rename_i p e
    split at h0
    · rename_i ds e2
      obtain ⟨hF, o, h1, h2⟩ := hS.cell p _ e2
      have eN := Ex.new (o := o) hF
      refine h D' E σ _ (upd F p o) _ R H (hE.mono eN) ((hs.mono eN).reset e fun v r => ?_) (hS.freeze e2 h1) h0
      cases r
      cases h2 with
      | lst q => exact .lst upd_same (q.mono eN)
    · rename_i ds e2
      obtain ⟨hF, o, h1, h2⟩ := hS.cell p _ e2
      have eN := Ex.new (o := o) hF
      refine h D' E σ _ (upd F p o) _ R H (hE.mono eN) ((hs.mono eN).reset e fun v r => ?_) (hS.freeze e2 h1) h0
      cases r
      cases h2 with
      | dk q => exact .dk upd_same (q.mono eN)
    · exact h0.elim
  · exact h0.elim
theorem ass_frz {sts : List Stmt} {t : TS} {a : AS'} (i : Nat) (h : ASs B X sts t a) : ASs B X sts t (aFrz i a) := ⟨h.ps, sim_frz i h.sim⟩
def aAsg (e : AE') (g : AG') : AS' := fun E s C => e s C fun x C1 => g x s C1 E.nx
theorem sim_asg {te : TE} {g : TG} {a : AE'} {b : AG'} (ha : SimE B K te a) (hb : SimG B K g b) : SimS B K (tAsg te g) (aAsg a b) := fun D' E σ s F C R H hE hs hS h => by
  refine ha σ s F C R H _ _ hs hS h fun x v F1 C1 H1 e1 S1 r1 h1 => ?_
  exact hb v x σ s F1 C1 R H1 _ _ (hs.mono e1) S1 r1 h1 fun s2 σ2 F2 C2 H2 e2 hs2 S2 h2 => hE.nx s2 σ2 F2 C2 H2 (e1.trans e2) hs2 S2 h2
section
variable {e : Expr} {te : TE} {a : AE'}
theorem sim_name (i : Nat) : SimG B K (gName i) (aGName i) := fun v d σ s F C R H Q P hs hS r h k => k _ _ F C H (Ex.refl F) (hs.set r i) hS h
theorem as_set (i : Nat) {x : Str} {pos' : Pos} (hN : X.N.Nodup) (h : AE B X e te a) (hi : X.N[i]? = some x := by rfl) (hx : Loc X.env.scope x := by exact Or.inl rfl) (hs : swapsWith e (some (.Name x pos')) pos.line X.env = pure false := by rfl) (hf : X.fn x = true ∨ X.env.scope.names.lookup x = some .local := by first | exact .inl rfl | exact .inr rfl) :
    AS B X (.Assign [.Name x pos'] e pos) (tAsg te (gName i)) (aAsg a (aGName i)) := ⟨ps_set hN hi hx h.pe hs hf, sim_asg h.sim (sim_name i)⟩
theorem as_asg {tg : Expr} {vs : List Nat} {g : TG} {b : AG'} (h : AE B X e te a) (hg : AG B X tg vs g b) (hs : swapsWithSole [tg] e pos.line X.env = pure false := by rfl) (hw : swappedStores [tg] e X.env = pure none := by rfl)
    (h1 : (assignEach [tg] X.env).map (·.2) = [assign tg X.env] := by rfl) : AS B X (.Assign [tg] e pos) (tAsg te g) (aAsg a b) := ⟨ps_asg h.pe hg.pg hs hw h1, sim_asg h.sim hg.sim⟩
/-- xs[i] = e -/
theorem as_setL {o i : Expr} {to ti : TE} {ao ai : AE'} {p2 : Pos} (h : AE B X e te a) (ho : AE B X o to ao) (hi : AE B X i ti ai) (hs : swapsWithSole [.Subscript o i p2] e pos.line X.env = pure false := by rfl) (hw : swappedStores [.Subscript o i p2] e X.env = pure none := by rfl)
    (h1 : (assignEach [.Subscript o i p2] X.env).map (·.2) = [assign (.Subscript o i p2) X.env] := by rfl)
    (ha : ∀ v, assign (.Subscript o i p2) X.env v = (do
      let ov ← holding [v] (eval o X.env)
      let iv ← holding [v, ov] (eval i X.env)
      standAt p2
      holding [v, ov, iv] (setItem ov iv v)
      release [v, ov, iv] []) := by intro _; rfl) : AS B X (.Assign [.Subscript o i p2] e pos) (tAsg te (gSub to ti rSetL)) (aAsg a (aGSet ao ai)) :=
  ⟨ps_asg h.pe (pg_sub ho.pe hi.pe set_list ha) hs hw h1, sim_asg h.sim (sim_set ho.sim hi.sim)⟩
def aDrop (a : AE') : AS' := fun E s C => a s C fun _ C1 => E.nx s C1
theorem as_expr (h : AE B X e te a) (hs : swapsWith e none pos.line X.env = pure false := by rfl) : AS B X (.Expr e pos) (tDrop te) (aDrop a) := ⟨ps_expr h.pe hs, fun D' E σ s F C R H hE hs hS h0 => by
  exact h.sim σ s F C R H _ _ hs hS h0 fun x v F1 C1 H1 e1 S1 r1 h1 => hE.nx s σ F1 C1 H1 e1 (hs.mono e1) S1 h1⟩
def aRet (a : AE') : AS' := fun E s C => a s C E.rt
theorem as_ret (h : AE B X e te a) : AS B X (.Return (some e) pos) (tRet te) (aRet a) := ⟨ps_ret h.pe, fun D' E σ s F C R H hE hs hS h0 => by
  exact h.sim σ s F C R H _ _ hs hS h0 fun x v F1 C1 H1 e1 S1 r1 h1 => hE.rt x v F1 C1 H1 e1 r1 S1 h1⟩
end
def aRetN : AS' := fun E _ C => E.rt .non C
def aIfS (c : AT') (a b : AS') : AS' := fun E s C => c s C fun t C1 => if t = true then a E s C1 else b E s C1
theorem as_if {c : Expr} {p q : List Stmt} {tc : TT} {t u : TS} {ac : AT'} {a b : AS'} (hc : AT B X c tc ac) (ha : ASs B X p t a) (hb : ASs B X q u b) : AS B X (.If c p q pos) (tIfS tc t u) (aIfS ac a b) := ⟨ps_if hc.pt ha.ps hb.ps, fun D' E σ s F C R H hE hs hS h0 => by
  refine hc.sim σ s F C R H _ _ hs hS h0 fun t F1 C1 H1 e1 S1 h1 => ?_
  cases t with
  | true => exact ha.sim D' E σ s F1 C1 R H1 (hE.mono e1) (hs.mono e1) S1 h1
  | false => exact hb.sim D' E σ s F1 C1 R H1 (hE.mono e1) (hs.mono e1) S1 h1⟩
def aFor (w : AI') (g : AG') (b : AS') : AS' := fun E s C => w s C fun items hold C1 => ∃ W : Nat → ASt → AH → Prop, W 0 s C1 ∧ (∀ i s' C', i ≤ items.length → W i s' C' → hold C') ∧
  (∀ i d s' C', items[i]? = some d → W i s' C' → g d s' C' fun s2 C2 => b { E with nx := W (i + 1), ct := W (i + 1), bk := E.nx } s2 C2) ∧ ∀ s' C', W items.length s' C' → E.nx s' C'
theorem sim_for {wi : TI} {g : TG} {tb : TS} {aw : AI'} {ag : AG'} {ab : AS'} (hi : SimI B K wi aw) (hg : SimG B K g ag) (hb : SimS B K tb ab) : SimS B K (tFor wi g tb) (aFor aw ag ab) := fun D' E σ s F C R H hE hs hS h => by
  refine hi σ s F C R H _ _ hs hS h fun items hold J F1 C1 H1 e1 S1 Wk h1 => ?_
  obtain ⟨W, h0, hh, hstep, hend⟩ := h1
  refine ⟨fun i m σ' H' => m = items.length - i ∧ i ≤ items.length ∧ ∃ s' F' C', Ex F1 F' ∧ Slo K F' s' σ' ∧ Sat B K F' C' R H' ∧ W i s' C', ⟨items.length, by simp, Nat.zero_le _, s, F1, C1, Ex.refl F1, hs.mono e1, S1, h0⟩, ?_⟩
  rintro i m σ' H' ⟨rfl, hi, s', F', C', e', hs', S', w⟩
  by_cases hlt : i < items.length
  · refine .inr ⟨Wk.go F' C' R H' i e' S' (hh i s' C' hi w) hlt, fun σ2 H2 => ∃ s2 F2 C2, Ex F1 F2 ∧ Slo K F2 s2 σ2 ∧ Sat B K F2 C2 R H2 ∧ W (i + 1) s2 C2, fun σ2 H2 z => ⟨items.length - (i + 1), by omega, rfl, hlt, z⟩, fun x H'' y => ?_⟩
    obtain ⟨d, F'', hd, e'', S'', r⟩ := Wk.yld F' C' R H' i x H'' e' S' (hh i s' C' hi w) hlt y
    refine hg x d σ' s' F'' C' R H'' _ _ (hs'.mono e'') S'' r (hstep i d s' C' hd w) fun s2 σ2 F2 C2 H2 e2 hs2 S2 h2 => ?_
    have eA : Ex F1 F2 := (e'.trans e'').trans e2
    refine hb _ { E with nx := W (i + 1), ct := W (i + 1), bk := E.nx } σ2 s2 F2 C2 R H2 ⟨fun s3 σ3 F3 C3 H3 e3 hs3 S3 z => ⟨s3, F3, C3, eA.trans e3, hs3, S3, z⟩, fun d v F3 C3 H3 e3 r3 S3 z => hE.rt d v F3 C3 H3 ((e1.trans eA).trans e3) r3 S3 z,
      fun s3 σ3 F3 C3 H3 e3 hs3 S3 z => hE.nx s3 σ3 F3 C3 H3 ((e1.trans eA).trans e3) hs3 S3 z, fun s3 σ3 F3 C3 H3 e3 hs3 S3 z => ⟨s3, F3, C3, eA.trans e3, hs3, S3, z⟩⟩ hs2 S2 h2
  · have e : i = items.length := by omega
    subst e
    exact .inl ⟨Wk.stop F' C' R H' e' S' (hh _ s' C' (Nat.le_refl _) w), hE.nx s' σ' F' C' H' (e1.trans e') hs' S' (hend s' C' w)⟩
theorem as_for {tg iter : Expr} {body : List Stmt} {wi : TI} {vs : List Nat} {g : TG} {tb : TS} {aw : AI'} {ag : AG'} {ab : AS'} (hi : AI B X tg iter wi aw) (hg : AG B X tg vs g ag) (hb : ASs B X body tb ab) (hp : PassesOwn (model X.prog X.w) X.A X.env X.xe := by exact PassesOwn.never) (hc : X.calm = true := by rfl)
    (hs : ∀ x, foldedSetIterable iter X.env x = pure x := by intro _; rfl) : AS B X (.For tg iter body [] pos) (tFor wi g tb) (aFor aw ag ab) := ⟨ps_for hp hc hi.pi hg.pg hb.ps hs, sim_for hi.sim hg.sim hb.sim⟩
def aWhile (c : AT') (b : AS') : AS' := fun E s C => ∃ W : Nat → ASt → AH → Prop, (∃ m, W m s C) ∧ ∀ m s' C', W m s' C' → c s' C' fun t C1 => if t = true then b { E with nx := fun s2 C2 => ∃ m', m' < m ∧ W m' s2 C2, ct := fun s2 C2 => ∃ m', m' < m ∧ W m' s2 C2, bk := E.nx } s' C1 else E.nx s' C1
theorem sim_while {tc : TT} {tb : TS} {ac : AT'} {ab : AS'} (hc : SimT B K tc ac) (hb : SimS B K tb ab) : SimS B K (tWhile tc tb) (aWhile ac ab) := fun D' E σ s F C R H hE hs hS h => by
  obtain ⟨W, ⟨m0, h0⟩, hstep⟩ := h
  refine ⟨fun m σ' H' => ∃ s' F' C', Ex F F' ∧ Slo K F' s' σ' ∧ Sat B K F' C' R H' ∧ W m s' C', ⟨m0, s, F, C, Ex.refl F, hs, hS, h0⟩, ?_⟩
  rintro m σ' H' ⟨s', F', C', e', hs', S', w⟩
  refine hc σ' s' F' C' R H' _ _ hs' S' (hstep m s' C' w) fun t F1 C1 H1 e1 S1 h1 => ?_
  have eA : Ex F F1 := e'.trans e1
  cases t with
  | true =>
    refine ⟨fun σ2 H2 => ∃ m', m' < m ∧ ∃ s2 F2 C2, Ex F F2 ∧ Slo K F2 s2 σ2 ∧ Sat B K F2 C2 R H2 ∧ W m' s2 C2, fun σ2 H2 z => z, ?_⟩
    refine hb _ { E with nx := fun s2 C2 => ∃ m', m' < m ∧ W m' s2 C2, ct := fun s2 C2 => ∃ m', m' < m ∧ W m' s2 C2, bk := E.nx } σ' s' F1 C1 R H1 ⟨fun s3 σ3 F3 C3 H3 e3 hs3 S3 z => ?_, fun d v F3 C3 H3 e3 r3 S3 z => hE.rt d v F3 C3 H3 (eA.trans e3) r3 S3 z,
      fun s3 σ3 F3 C3 H3 e3 hs3 S3 z => hE.nx s3 σ3 F3 C3 H3 (eA.trans e3) hs3 S3 z, fun s3 σ3 F3 C3 H3 e3 hs3 S3 z => ?_⟩ (hs'.mono e1) S1 h1
    · obtain ⟨m', hm, z⟩ := z
      exact ⟨m', hm, s3, F3, C3, eA.trans e3, hs3, S3, z⟩
    · obtain ⟨m', hm, z⟩ := z
      exact ⟨m', hm, s3, F3, C3, eA.trans e3, hs3, S3, z⟩
  | false => exact hE.nx s' σ' F1 C1 H1 eA (hs'.mono e1) S1 h1
theorem as_while {c : Expr} {body : List Stmt} {tc : TT} {tb : TS} {ac : AT'} {ab : AS'} (hc : AT B X c tc ac) (hb : ASs B X body tb ab) (hp : PassesOwn (model X.prog X.w) X.A X.env X.xe := by exact PassesOwn.never) : AS B X (.While c body [] pos) (tWhile tc tb) (aWhile ac ab) := ⟨ps_while hp hc.pt hb.ps, sim_while hc.sim hb.sim⟩
def aYes : AT' := fun _ C P => P true C
theorem ats_nil : ATs B X [] tYes aYes := ⟨pts_nil, fun σ s F C R H Q P hs hS h k => k true F C H (Ex.refl F) hS h⟩
theorem ats_one {c : Expr} {t : TT} {a : AT'} (h : AT B X c t a) : ATs B X [c] t a := ⟨pts_one h.pt, h.sim⟩
/-- the list as it is made; fin: what becomes of it -/
def aLcW (w : AI') (g : AG') (t : AT') (e : AE') (vs : List Nat) (fin : List D → AH → Prop) : ASt → AH → Prop := fun s C => w s C fun items hold C1 => items.length ≤ sizeLine ∧ ∃ W : Nat → List D → AH → Prop, W 0 [] C1 ∧ (∀ i acc C', i ≤ items.length → W i acc C' → hold C') ∧
  (∀ i d acc C', items[i]? = some d → W i acc C' → g d (wipeA s vs) C' fun s2 C2 => t s2 C2 fun b C3 => if b = true then e s2 C3 fun y C4 => W (i + 1) (acc ++ [y]) C4 else W (i + 1) acc C3) ∧ ∀ acc C', W items.length acc C' → fin acc C'
def aLc (w : AI') (g : AG') (t : AT') (e : AE') (vs : List Nat) : AE' := fun s C P => aLcW w g t e vs (fun acc C' => P (.lst acc) C') s C
def aLcM (w : AI') (g : AG') (t : AT') (e : AE') (vs : List Nat) : AE' := fun s C P => aLcW w g t e vs (fun acc C' => ∀ p, C' p = none → P (.ce p) (put C' p (.lst acc))) s C
theorem lc_sim {wi : TI} {g : TG} {tt : TT} {te : TE} {vs : List Nat} {aw : AI'} {ag : AG'} {at' : AT'} {ae : AE'} {fin : List D → AH → Prop} (hi : SimI B K wi aw) (hg : SimG B K g ag) (hin : GIn vs g) (ht : SimT B K tt at') (he : SimE B K te ae)
    {σ : L2.St} {s : ASt} {F : Hp} {C : AH} {R H : Hp} {Q : VK} (hs : Slo K F s σ) (hS : Sat B K F C R H) (h : aLcW aw ag at' ae vs fin s C)
    (k : ∀ Dl acc accD F' C' H', Ex F F' → R Dl = none → Sat B K F' C' (upd R Dl (.lst acc)) H' → RepL K F' acc accD → fin accD C' → Q (.ref Dl) H') : tLc wi g tt te vs σ H Q := by
  refine hi σ s F C R H _ _ hs hS h fun items hold J F1 C1 H1 e1 S1 Wk h1 => ?_
  obtain ⟨hz, W, h0, hh, hstep, hend⟩ := h1
  intro Dl hD
  have hR := S1.freeR hD
  refine ⟨fun i m H' => m = items.length - i ∧ i ≤ items.length ∧ ∃ F' C' acc accD, Ex F1 F' ∧ Sat B K F' C' (upd R Dl (.lst acc)) H' ∧ RepL K F' acc accD ∧ accD.length ≤ i ∧ W i accD C',
    ⟨items.length, by simp, Nat.zero_le _, F1, C1, [], [], Ex.refl F1, S1.setR (S1.freeF hD) (S1.freeC hD) (S1.freeB hR) _, .nil, Nat.le_refl _, h0⟩, ?_⟩
  rintro i m H' ⟨rfl, hi, F', C', acc, accD, e', S', ra, hl, w⟩
  by_cases hlt : i < items.length
  · refine .inr ⟨Wk.go F' C' _ H' i e' S' (hh i accD C' hi w) hlt, fun H2 => ∃ F2 C2 acc accD, Ex F1 F2 ∧ Sat B K F2 C2 (upd R Dl (.lst acc)) H2 ∧ RepL K F2 acc accD ∧ accD.length ≤ i + 1 ∧ W (i + 1) accD C2, fun H2 z => ⟨items.length - (i + 1), by omega, rfl, hlt, z⟩, fun x H'' y => ?_⟩
    obtain ⟨d, F'', hd, e'', S'', r⟩ := Wk.yld F' C' _ H' i x H'' e' S' (hh i accD C' hi w) hlt y
    refine hin x _ H'' (fun σ2 H2 => tt σ2 H2 fun b H3 => if b = true then te σ2 H3 fun y H4 => ∃ acc, H4 Dl = some (.lst acc) ∧ acc.length < sizeLine ∧ ∃ F2 C2 acc2 accD, Ex F1 F2 ∧ Sat B K F2 C2 (upd R Dl (.lst acc2)) (upd H4 Dl (.lst (acc ++ [y]))) ∧ RepL K F2 acc2 accD ∧ accD.length ≤ i + 1 ∧ W (i + 1) accD C2
      else ∃ F2 C2 acc accD, Ex F1 F2 ∧ Sat B K F2 C2 (upd R Dl (.lst acc)) H3 ∧ RepL K F2 acc accD ∧ accD.length ≤ i + 1 ∧ W (i + 1) accD C2) _ ?_ fun σ2 H2 w2 q => ⟨w2.trans (wipe_wipe σ vs), q⟩
    refine hg x d _ (wipeA s vs) F'' C' _ H'' _ _ ((hs.mono ((e1.trans e').trans e'')).wipe vs) S'' r (hstep i d accD C' hd w) fun s2 σ2 F2 C2 H2 e2 hs2 S2 h2 => ?_
    refine ht σ2 s2 F2 C2 _ H2 _ _ hs2 S2 h2 fun b F3 C3 H3 e3 S3 h3 => ?_
    have eA : Ex F' F3 := (e''.trans e2).trans e3
    cases b with
    | true =>
      refine he σ2 s2 F3 C3 _ H3 _ _ (hs2.mono e3) S3 h3 fun y v F4 C4 H4 e4 S4 r4 h4 => ?_
      obtain ⟨f4, c4, d4⟩ := S4.priv Dl _ upd_same
      refine ⟨acc, d4, ?_, F4, C4, acc ++ [v], accD ++ [y], (e'.trans eA).trans e4, ?_, (ra.mono (eA.trans e4)).append (.cons r4 .nil), by rw [List.length_append]; exact Nat.succ_le_succ hl, h4⟩
      · rw [ra.length]; omega
      · have := S4.setR f4 c4 (S1.freeB hR) (.lst (acc ++ [v]))
        rw [upd_upd] at this
        exact this
    | false => exact ⟨F3, C3, acc, accD, e'.trans eA, S3, ra.mono eA, Nat.le_succ_of_le hl, h3⟩
  · have e : i = items.length := by omega
    subst e
    exact .inl ⟨Wk.stop F' C' _ H' e' S' (hh _ accD C' (Nat.le_refl _) w), k Dl acc accD F' C' H' (e1.trans e') hR S' ra (hend accD C' w)⟩
theorem sim_lc {wi : TI} {g : TG} {tt : TT} {te : TE} {vs : List Nat} {aw : AI'} {ag : AG'} {at' : AT'} {ae : AE'} (hi : SimI B K wi aw) (hg : SimG B K g ag) (hin : GIn vs g) (ht : SimT B K tt at') (he : SimE B K te ae) : SimE B K (tLc wi g tt te vs) (aLc aw ag at' ae vs) := fun σ s F C R H Q P hs hS h k => by
  refine lc_sim hi hg hin ht he hs hS h fun Dl acc accD F' C' H' e1 hR S r h1 => ?_
  have eN := Ex.new (o := .lst acc) (S.priv Dl _ upd_same).1
  exact k _ _ _ C' H' (e1.trans eN) (S.outF hR (hS.freeB hR)) (.lst upd_same (r.mono eN)) h1
section
variable {elt tg iter : Expr} {ifs : List Expr} {scope : Scope} {own : List (Str × Nat)} {wi : TI} {g : TG} {tt : TT} {te : TE} {aw : AI'} {ag : AG'} {at' : AT'} {ae : AE'}
theorem ae_lc (own : List (Str × Nat)) (hN : X.N.Nodup) (hi : AI B X tg iter wi aw) (ok : BlkOk X.N X.env.scope scope own)
    (hg : ∀ (s : Shared) (H : Hp) (C : Addr) (cl : List (Str × Addr)) (fp : List Addr), AG B (X.blk s H scope (compEnvC scope cl C X.env) fp) tg (own.map (·.2)) g ag) (ht : ∀ (s : Shared) (H : Hp) (C : Addr) (cl : List (Str × Addr)) (fp : List Addr), ATs B (X.blk s H scope (compEnvC scope cl C X.env) fp) ifs tt at')
    (he : ∀ (s : Shared) (H : Hp) (C : Addr) (cl : List (Str × Addr)) (fp : List Addr), AE B (X.blk s H scope (compEnvC scope cl C X.env) fp) elt te ae) (hc : X.calm = true := by rfl) (hs : ∀ x, foldedSetIterable iter X.env x = pure x := by intro _; rfl) :
    AE B X (.ListComp elt [⟨tg, iter, ifs, 0⟩] scope pos) (tLc wi g tt te (own.map (·.2))) (aLc aw ag at' ae (own.map (·.2))) :=
  ⟨pe_lc hc hN hi.pi ok (fun s H C cl fp => (hg s H C cl fp).pg) (fun s H C cl fp => (ht s H C cl fp).pts) (fun s H C cl fp => (he s H C cl fp).pe) hs,
    let G := hg X.s_0 (fun _ => none) 0 [] []
    sim_lc hi.sim G.sim G.inn (ht X.s_0 (fun _ => none) 0 [] []).sim (he X.s_0 (fun _ => none) 0 [] []).sim⟩
/-- name = [..] -/
theorem as_setLc (i : Nat) (own : List (Str × Nat)) {y : Str} {py spos : Pos} (hN : X.N.Nodup) (hi : AI B X tg iter wi aw) (hsw : swapsWith (.ListComp elt [⟨tg, iter, ifs, 0⟩] scope pos) (some (.Name y py)) spos.line X.env = pure true) (ok : BlkOk X.N X.env.scope scope own)
    (hg : ∀ (s : Shared) (H : Hp) (C : Addr) (cl : List (Str × Addr)) (fp : List Addr), AG B (X.blk s H scope (compEnvC scope cl C X.env) fp) tg (own.map (·.2)) g ag) (ht : ∀ (s : Shared) (H : Hp) (C : Addr) (cl : List (Str × Addr)) (fp : List Addr), ATs B (X.blk s H scope (compEnvC scope cl C X.env) fp) ifs tt at')
    (he : ∀ (s : Shared) (H : Hp) (C : Addr) (cl : List (Str × Addr)) (fp : List Addr), AE B (X.blk s H scope (compEnvC scope cl C X.env) fp) elt te ae) (hy : X.N[i]? = some y := by rfl) (hyl : X.env.scope.names.lookup y = some .local := by rfl) (hc : X.calm = true := by rfl) (hs : ∀ x, foldedSetIterable iter X.env x = pure x := by intro _; rfl) :
    AS B X (.Assign [.Name y py] (.ListComp elt [⟨tg, iter, ifs, 0⟩] scope pos) spos) (tAsg (tLc wi g tt te (own.map (·.2))) (gName i)) (aAsg (aLc aw ag at' ae (own.map (·.2))) (aGName i)) :=
  ⟨ps_setLc hc hN hy hyl hsw hi.pi ok (fun s H C cl fp => (hg s H C cl fp).pg) (fun s H C cl fp => (ht s H C cl fp).pts) (fun s H C cl fp => (he s H C cl fp).pe) hs,
    let G := hg X.s_0 (fun _ => none) 0 [] []
    sim_asg (sim_lc hi.sim G.sim G.inn (ht X.s_0 (fun _ => none) 0 [] []).sim (he X.s_0 (fun _ => none) 0 [] []).sim) (sim_name i)⟩
end
end
end AL
namespace AL
open PySem PySem.Spec L2
variable {B : Bs}
theorem law_sp {asp : ASp} {n : Nat} (h : ∀ ns : List Int, ns.length ≤ n → asp [.scr ns] (fun _ => none) (fun d _ => d = .bl true)) (w : Gd) (K : PySem.W.Frag) (H : Hp) (a : Addr) (ns : List Int) (hn : ns.length ≤ n) (hS : SqL K H a (ns.map V.int)) :
    spOf w K 1 asp [.ref a] H (fun v _ => v = .bl true) fun _ _ _ => False := by
  refine ⟨rfl, H, fun _ => none, fun _ => none, [.scr ns], fun d _ => d = .bl true, ⟨fun _ _ z => (by cases z), fun _ _ z => (by cases z), Ex.refl H, fun _ _ z => (by cases z), fun _ _ z => (by cases z)⟩, .cons (.scr hS) .nil, h ns hn, fun d v F' C' H' _ _ r e => ?_⟩
  subst e
  cases r
  rfl
end AL
namespace AL
open PySem L2
theorem atI_nat' {α : Type} {xs : List α} {i : Nat} {x : α} (h : xs[i]? = some x) : atI xs (i : Int) = some x := by
  have hi := (List.getElem?_eq_some_iff.mp h).1
  unfold atI ixN
  rw [if_pos (by omega), if_pos (by omega)]
  simpa using h
section
variable {a b : AS'} {nx : ASt → AH → Prop} {rt : D → AH → Prop} {bk ct : ASt → AH → Prop} {s : ASt} {C : AH} {e e1 e2 e3 : AE'} {t t1 t2 : AT'} {g : AG'} {P : D → AH → Prop} {PB : Bool → AH → Prop} {PA : List D → AH → Prop} {w : AI'} {aa : AA'}
theorem g_body' {n : Nat} {ds : List D} {s : ASt} (h0 : ds.map some ++ List.replicate (n - ds.length) none = s) (h : a ⟨fun _ C' => P .non C', P, fun _ _ => False, fun _ _ => False⟩ s C) : aBody n a ds C P := by
  subst h0
  exact h
theorem g_gname' {i : Nat} {d : D} {Q : ASt → AH → Prop} {s' : ASt} (h0 : s.set i (some d) = s') (h : Q s' C) : aGName i d s C Q := by
  subst h0
  exact h
theorem g_seq (h : a ⟨b ⟨nx, rt, bk, ct⟩, rt, bk, ct⟩ s C) : aSeq a b ⟨nx, rt, bk, ct⟩ s C := h
theorem g_next (h : nx s C) : aNext ⟨nx, rt, bk, ct⟩ s C := h
theorem g_asg (h : e s C fun x C1 => g x s C1 nx) : aAsg e g ⟨nx, rt, bk, ct⟩ s C := h
theorem g_drop (h : e s C fun _ C1 => nx s C1) : aDrop e ⟨nx, rt, bk, ct⟩ s C := h
theorem g_ret (h : e s C rt) : aRet e ⟨nx, rt, bk, ct⟩ s C := h
theorem g_retN (h : rt .non C) : aRetN ⟨nx, rt, bk, ct⟩ s C := h
theorem g_ifS (h : t s C fun k C1 => if k = true then a ⟨nx, rt, bk, ct⟩ s C1 else b ⟨nx, rt, bk, ct⟩ s C1) : aIfS t a b ⟨nx, rt, bk, ct⟩ s C := h
theorem g_ifF (ht : ∀ K : Bool → AH → Prop, K false C → t s C K) (h : b ⟨nx, rt, bk, ct⟩ s C) : aIfS t a b ⟨nx, rt, bk, ct⟩ s C := ht _ h
theorem g_ifT (ht : ∀ K : Bool → AH → Prop, K true C → t s C K) (h : a ⟨nx, rt, bk, ct⟩ s C) : aIfS t a b ⟨nx, rt, bk, ct⟩ s C := ht _ h
/-- the cells may have turned -/
theorem g_ifFC {Z : AH → Prop} (ht : ∀ K : Bool → AH → Prop, (∀ C', Z C' → K false C') → t s C K) (h : ∀ C', Z C' → b ⟨nx, rt, bk, ct⟩ s C') : aIfS t a b ⟨nx, rt, bk, ct⟩ s C := ht _ h
theorem g_ifJ (M : ASt → AH → Prop) (h : ∀ N : ASt → AH → Prop, (∀ s' C', M s' C' → N s' C') → aIfS t a b ⟨N, rt, bk, ct⟩ s C) (k : ∀ s' C', M s' C' → nx s' C') : aIfS t a b ⟨nx, rt, bk, ct⟩ s C := h nx k
theorem g_gtup {n : Nat} {ds : List D} {gs : AGs'} {Q : ASt → AH → Prop} (hn : ds.length = n) (h : gs ds s C Q) : aGTup n gs (.tup ds) s C Q := ⟨hn, h⟩
theorem g_gcons {d : D} {ds : List D} {gs : AGs'} {Q : ASt → AH → Prop} (h : g d s C fun s' C' => gs ds s' C' Q) : aGCons g gs (d :: ds) s C Q := h
theorem g_gnil {Q : ASt → AH → Prop} (h : Q s C) : aGNil [] s C Q := h
def kSet (p : Addr) (d : D) (s : ASt) (Q : ASt → AH → Prop) : D → AH → Prop := fun y C2 => match y with | .int j => (match C2 p with | some (.lst us) => (match ixN us.length j with | some k => Q s (put C2 p (.lst (us.set k d))) | none => False) | _ => False) | _ => False
/-- xs[i] = d, xs a name's cell -/
theorem g_gsetV {i : Nat} {d : D} {p : Addr} {Q : ASt → AH → Prop} (hi : s[i]? = some (some (.ce p))) (h : e2 s C (kSet p d s Q)) : aGSet (aVar i) e2 d s C Q := by
  unfold aGSet aVar
  rw [hi]
  refine (congrArg (e2 s C) ?_).mpr h
  funext y C2
  cases y <;> rfl
theorem g_kSet {j : Int} {p : Addr} {us : List D} {k : Nat} {d : D} {Q : ASt → AH → Prop} (h1 : C p = some (.lst us)) (h2 : ixN us.length j = some k) (h : Q s (put C p (.lst (us.set k d)))) : kSet p d s Q (.int j) C := by
  unfold kSet
  simp only [h1, h2]
  exact h
theorem g_frzL {i : Nat} {p : Addr} {ds : List D} {E : AEnds} (h0 : s[i]? = some (some (.ce p))) (h1 : C p = some (.lst ds)) (h : a E (s.set i (some (.lst ds))) (del C p)) : aFrz i a E s C := by
  unfold aFrz
  rw [h0]
  show (match C p with | some (.lst ds) => a E (s.set i (some (.lst ds))) (del C p) | some (.dk es) => a E (s.set i (some (.dk es))) (del C p) | _ => False)
  rw [h1]
  exact h
theorem g_var {i : Nat} {d : D} (hi : s[i]? = some (some d)) (h : P d C) : aVar i s C P := by
  unfold aVar
  rw [hi]
  exact h
theorem g_yes (h : PB true C) : aYes s C PB := h
theorem g_c {d : D} (h : P d C) : aC d s C P := h
theorem g_op {r : D → D → AH → (D → AH → Prop) → Prop} (h : e1 s C fun x C1 => e2 s C1 fun y C2 => r x y C2 P) : aOp r e1 e2 s C P := h
theorem g_un {r : D → AH → (D → AH → Prop) → Prop} (h : e1 s C fun x C1 => r x C1 P) : aUn r e1 s C P := h
theorem g_sub {i j : Int} (h : P (.int (i - j)) C) : aSub (.int i) (.int j) C P := h
theorem g_lt {i j : Int} (h : P (.bl (decide (i < j))) C) : aLt (.int i) (.int j) C P := h
theorem g_le {i j : Int} (h : P (.bl (decide (i ≤ j))) C) : aLe (.int i) (.int j) C P := h
theorem g_gt {i j : Int} (h : P (.bl (decide (j < i))) C) : aGt (.int i) (.int j) C P := h
theorem g_ge {i j : Int} (h : P (.bl (decide (j ≤ i))) C) : aGe (.int i) (.int j) C P := h
theorem g_mul {i j : Int} (h1 : CMul i j) (h : P (.int (i * j)) C) : aMul (.int i) (.int j) C P := ⟨h1, h⟩
theorem g_div {i j : Int} (h1 : CDiv i j) (h : P (.int (i / j)) C) : aDiv (.int i) (.int j) C P := ⟨h1, h⟩
theorem g_mod {i j : Int} (h1 : 0 < j) (h : P (.int (i % j)) C) : aMod (.int i) (.int j) C P := ⟨h1, h⟩
theorem g_pow {i j : Int} (h1 : CPow i j) (h : P (.int (i ^ j.toNat)) C) : aPow (.int i) (.int j) C P := ⟨h1, h⟩
theorem g_addI {i j : Int} (h : P (.int (i + j)) C) : aAdd (.int i) (.int j) C P := h
theorem g_addS {i j : Str} (h1 : i.length + j.length ≤ sizeLine) (h : P (.str (i ++ j)) C) : aAdd (.str i) (.str j) C P := ⟨h1, h⟩
theorem g_addT {i j : List D} (h1 : i.length + j.length ≤ sizeLine) (h : P (.tup (i ++ j)) C) : aAdd (.tup i) (.tup j) C P := ⟨h1, h⟩
theorem g_addL {i j : List D} (h1 : i.length + j.length ≤ sizeLine) (h : P (.lst (i ++ j)) C) : aAdd (.lst i) (.lst j) C P := ⟨i, j, rfl, rfl, h1, h⟩
theorem g_eqII {i j : Int} (h : P (.bl (decide (i = j))) C) : aEq (.int i) (.int j) C P := h
theorem g_neII {i j : Int} (h : P (.bl (!decide (i = j))) C) : aNe (.int i) (.int j) C P := h
theorem g_eqBB {i j : Bool} (h : P (.bl (decide (i = j))) C) : aEq (.bl i) (.bl j) C P := h
theorem g_neBB {i j : Bool} (h : P (.bl (!decide (i = j))) C) : aNe (.bl i) (.bl j) C P := h
theorem g_eqTT {i j : Str} (h : P (.bl (decide (i = j))) C) : aEq (.str i) (.str j) C P := h
theorem g_neTT {i j : Str} (h : P (.bl (!decide (i = j))) C) : aNe (.str i) (.str j) C P := h
theorem g_eqP {x y : D} {u v : PyData} (h0 : eqS x y = none) (h1 : pdC C x = some u) (h2 : pdC C y = some v) (h3 : SeqAt.shaped u = true) (h4 : SeqAt.shaped v = true) (h : P (.bl (PyData.eqv u v)) C) : aEq x y C P := by
  unfold aEq aEqN
  rw [h0]
  exact ⟨u, v, h1, h2, h3, h4, h⟩
theorem g_neP {x y : D} {u v : PyData} (h0 : eqS x y = none) (h1 : pdC C x = some u) (h2 : pdC C y = some v) (h3 : SeqAt.shaped u = true) (h4 : SeqAt.shaped v = true) (h : P (.bl (!PyData.eqv u v)) C) : aNe x y C P := by
  unfold aNe aEqN
  rw [h0]
  exact ⟨u, v, h1, h2, h3, h4, h⟩
theorem g_is {x : D} (h : P (.bl (isNon x)) C) : aIsN x .non C P := ⟨rfl, h⟩
theorem g_isnot {x : D} (h : P (.bl (!isNon x)) C) : aNotN x .non C P := ⟨rfl, h⟩
def kTru (PB : Bool → AH → Prop) : D → AH → Prop := fun x C1 => match truth C1 x with | some b => PB b C1 | none => False
theorem g_tru (h : e s C (kTru PB)) : aTru e s C PB := h
theorem g_kTruB {k : Bool} (h : PB k C) : kTru PB (.bl k) C := h
def kB (PB : Bool → AH → Prop) : D → AH → Prop := fun x C1 => match x with | .bl b => PB b C1 | _ => False
theorem g_B (h : e s C (kB PB)) : aB e s C PB := h
theorem g_kB {k : Bool} (h : PB k C) : kB PB (.bl k) C := h
theorem g_and (h : t1 s C fun c C1 => if c = true then t2 s C1 PB else PB false C1) : aAnd t1 t2 s C PB := h
theorem g_or (h : t1 s C fun c C1 => if c = true then PB true C1 else t2 s C1 PB) : aOr t1 t2 s C PB := h
theorem g_not (h : t1 s C fun c C1 => PB (!c) C1) : aNot t1 s C PB := h
def kAndV (e2 : AE') (s : ASt) (P : D → AH → Prop) : D → AH → Prop := fun x C1 => match truth C1 x with | some true => e2 s C1 P | some false => P x C1 | none => False
def kOrV (e2 : AE') (s : ASt) (P : D → AH → Prop) : D → AH → Prop := fun x C1 => match truth C1 x with | some true => P x C1 | some false => e2 s C1 P | none => False
def kNotV (P : D → AH → Prop) : D → AH → Prop := fun x C1 => match truth C1 x with | some b => P (.bl (!b)) C1 | none => False
theorem g_andV (h : e1 s C (kAndV e2 s P)) : aAndV e1 e2 s C P := h
theorem g_orV (h : e1 s C (kOrV e2 s P)) : aOrV e1 e2 s C P := h
theorem g_notV (h : e1 s C (kNotV P)) : aNotV e1 s C P := h
theorem g_kAnd {k : Bool} (h1 : k = true → e2 s C P) (h2 : k = false → P (.bl false) C) : kAndV e2 s P (.bl k) C := by
  cases k
  · exact h2 rfl
  · exact h1 rfl
theorem g_kOr {k : Bool} (h1 : k = true → P (.bl true) C) (h2 : k = false → e2 s C P) : kOrV e2 s P (.bl k) C := by
  cases k
  · exact h2 rfl
  · exact h1 rfl
theorem g_kNot {k : Bool} (h : P (.bl (!k)) C) : kNotV P (.bl k) C := h
theorem g_if (h : t s C fun c C1 => if c = true then e1 s C1 P else e2 s C1 P) : aIf t e1 e2 s C P := h
theorem g_iteD {A B : Prop} {p : Prop} [Decidable p] (h1 : p → A) (h2 : ¬ p → B) : if decide p = true then A else B := by
  by_cases h : p
  · rw [decide_eq_true h]; exact h1 h
  · rw [decide_eq_false h]; exact h2 h
theorem g_iteT {A B : Prop} (h : A) : if true = true then A else B := h
theorem g_iteF {A B : Prop} (h : B) : if false = true then A else B := h
theorem g_iteNT {A B : Prop} (h : B) : if (!true) = true then A else B := h
theorem g_iteNF {A B : Prop} (h : A) : if (!false) = true then A else B := h
theorem g_nil (h : PA [] C) : aNil s C PA := h
theorem g_cons (h : e s C fun x C1 => aa s C1 fun xs C2 => PA (x :: xs) C2) : aCons e aa s C PA := h
theorem g_tup (h : aa s C fun ds C1 => ds.length ≤ sizeLine ∧ P (.tup ds) C1) : aTup aa s C P := h
theorem g_lst (h : aa s C fun ds C1 => ds.length ≤ sizeLine ∧ P (.lst ds) C1) : aLst aa s C P := h
theorem g_lstM (h : aa s C fun ds C1 => ds.length ≤ sizeLine ∧ ∀ p, C1 p = none → P (.ce p) (put C1 p (.lst ds))) : aLstM aa s C P := h
theorem g_call {asp : ASp} (h : aa s C fun ds C1 => asp ds C1 P) : aCall asp aa s C P := h
def kIsi (T : String) (P : D → AH → Prop) : D → AH → Prop := fun x C1 => match kindOf C1 x with | some t => P (.bl (isT T t)) C1 | none => False
theorem g_isi {T : String} (h : e s C (kIsi T P)) : aIsi T e s C P := h
theorem g_kIsiI {T : String} {i : Int} (h : P (.bl (isT T "int")) C) : kIsi T P (.int i) C := h
theorem g_kIsiB {T : String} {i : Bool} (h : P (.bl (isT T "bool")) C) : kIsi T P (.bl i) C := h
theorem g_kIsiN {T : String} (h : P (.bl (isT T "NoneType")) C) : kIsi T P .non C := h
theorem g_kIsiS {T : String} {i : Str} (h : P (.bl (isT T "str")) C) : kIsi T P (.str i) C := h
theorem g_kIsiL {T : String} {i : List D} (h : P (.bl (isT T "list")) C) : kIsi T P (.lst i) C := h
theorem g_kIsiT {T : String} {i : List D} (h : P (.bl (isT T "tuple")) C) : kIsi T P (.tup i) C := h
theorem g_kIsiK {T : String} {i : List (Key × D)} (h : P (.bl (isT T "dict")) C) : kIsi T P (.dk i) C := h
theorem g_meth {T : String} {m : D → ASp} (h : e s C fun x C1 => isTy T C1 x = true ∧ aa s C1 fun ds C2 => m x ds C2 P) : aMeth T m e aa s C P := h
theorem g_meth0 {T : String} {m : D → ASp} (h : e s C fun x C1 => isTy T C1 x = true ∧ m x [] C1 P) : aMeth0 T m e s C P := h
theorem g_append {p : Addr} {us : List D} {d : D} (h1 : C p = some (.lst us)) (h2 : us.length < sizeLine) (h : P .non (put C p (.lst (us ++ [d])))) : aAppend (.ce p) [d] C P := by
  unfold aAppend
  show (match C p with | some (.lst us) => us.length < sizeLine ∧ P .non (put C p (.lst (us ++ [d]))) | _ => False)
  rw [h1]
  exact ⟨h2, h⟩
theorem isTy_ce {T : String} {p : Addr} {us : List D} (h1 : C p = some (.lst us)) (h2 : T = "list") : isTy T C (.ce p) = true := by
  subst h2
  simp [isTy, h1]
theorem g_ixL {us : List D} {i : Int} {d : D} (h1 : atI us i = some d) (h : P d C) : aIx (.lst us) (.int i) C P := by
  show (match atI us i with | some d => P d C | none => False)
  rw [h1]; exact h
theorem g_ixT {us : List D} {i : Int} {d : D} (h1 : atI us i = some d) (h : P d C) : aIx (.tup us) (.int i) C P := by
  show (match atI us i with | some d => P d C | none => False)
  rw [h1]; exact h
theorem g_ixL0 {d : D} {us : List D} (h : P d C) : aIx (.lst (d :: us)) (.int 0) C P := g_ixL (atI_nat' (i := 0) rfl) h
theorem g_ixL1 {a d : D} {us : List D} (h : P d C) : aIx (.lst (a :: d :: us)) (.int 1) C P := g_ixL (atI_nat' (i := 1) rfl) h
theorem g_ixL2 {a b d : D} {us : List D} (h : P d C) : aIx (.lst (a :: b :: d :: us)) (.int 2) C P := g_ixL (atI_nat' (i := 2) rfl) h
theorem g_ixT0 {d : D} {us : List D} (h : P d C) : aIx (.tup (d :: us)) (.int 0) C P := g_ixT (atI_nat' (i := 0) rfl) h
theorem g_ixT1 {a d : D} {us : List D} (h : P d C) : aIx (.tup (a :: d :: us)) (.int 1) C P := g_ixT (atI_nat' (i := 1) rfl) h
theorem g_ixT2 {a b d : D} {us : List D} (h : P d C) : aIx (.tup (a :: b :: d :: us)) (.int 2) C P := g_ixT (atI_nat' (i := 2) rfl) h
theorem g_ixT3 {a b c d : D} {us : List D} (h : P d C) : aIx (.tup (a :: b :: c :: d :: us)) (.int 3) C P := g_ixT (atI_nat' (i := 3) rfl) h
theorem g_ixR {ns : List Int} {i : Int} {d : D} (h1 : atI (ns.map D.int) i = some d) (h : P d C) : aIx (.scr ns) (.int i) C P := by
  show (match atI (ns.map D.int) i with | some d => P d C | none => False)
  rw [h1]; exact h
theorem g_ixC {p : Addr} {us : List D} {i : Int} (h0 : C p = some (.lst us)) (h : aIx (.lst us) (.int i) C P) : aIx (.ce p) (.int i) C P := by
  show (match (match C p with | some (.lst us) => some us | _ => none) with | some ds => (match atI ds i with | some d => P d C | none => False) | none => False)
  rw [h0]
  exact h
theorem g_lenL {us : List D} (h : P (.int us.length) C) : aLen [.lst us] C P := h
theorem g_lenT {us : List D} (h : P (.int us.length) C) : aLen [.tup us] C P := h
theorem g_lenS {z : Str} (h1 : z.length ≤ sizeLine) (h : P (.int z.length) C) : aLen [.str z] C P := ⟨h1, h⟩
theorem g_lenR {ns : List Int} (h : P (.int ns.length) C) : aLen [.scr ns] C P := by
  show P (.int (ns.map D.int).length) C
  rw [List.length_map]; exact h
theorem g_lenC {p : Addr} {us : List D} (h0 : C p = some (.lst us)) (h : P (.int us.length) C) : aLen [.ce p] C P := by
  show (match C p with | some (.lst us) => P (.int us.length) C | some (.dk us) => P (.int us.length) C | _ => False)
  rw [h0]; exact h
theorem g_abs {i : Int} (h : P (.int (if i < 0 then -i else i)) C) : aAbs [.int i] C P := h
theorem g_max2 {i j : Int} (h : P (.int (if j > i then j else i)) C) : aMax2 [.int i, .int j] C P := h
theorem g_min2 {i j : Int} (h : P (.int (if j < i then j else i)) C) : aMin2 [.int i, .int j] C P := h
theorem g_intI {i : Int} (h : P (.int i) C) : aInt [.int i] C P := h
theorem g_intB {k : Bool} (h : P (.int (if k then 1 else 0)) C) : aInt [.bl k] C P := h
theorem g_listL {us : List D} (h : P (.lst us) C) : aListOf [.lst us] C P := h
theorem g_listT {us : List D} (h : P (.lst us) C) : aListOf [.tup us] C P := h
theorem g_listC {p : Addr} {us : List D} (h0 : C p = some (.lst us)) (h : P (.lst us) C) : aListOf [.ce p] C P := by
  show (match (match C p with | some (.lst us) => some us | _ => none) with | some us => P (.lst us) C | none => False)
  rw [h0]; exact h
theorem g_tupleL {us : List D} (h : P (.tup us) C) : aTupleOf [.lst us] C P := h
theorem g_tupleT {us : List D} (h : P (.tup us) C) : aTupleOf [.tup us] C P := h
theorem g_all {us : List D} {bs : List Bool} (h1 : blsD us = some bs) (h : P (.bl (bs.all id)) C) : aAll [.lst us] C P := by
  show (match (some us).bind blsD with | some bs => P (.bl (bs.all id)) C | none => False)
  rw [Option.bind_some, h1]; exact h
theorem g_rev {us : List D} (h : P (.lst us.reverse) C) : aRev (.lst us) C P := h
variable {PI : List D → (AH → Prop) → AH → Prop}
def kIL (PI : List D → (AH → Prop) → AH → Prop) : D → AH → Prop := fun x C1 => match asLr C1 x with | some ds => PI ds (fun C' => asLr C' x = some ds) C1 | none => False
theorem g_il (h : e s C (kIL PI)) : aIL e s C PI := h
theorem g_kIL {us : List D} (h : PI us (fun _ => True) C) (e : ∀ C' : AH, asLr C' (.lst us) = some us) (m : (fun _ : AH => True) = fun C' : AH => asLr C' (.lst us) = some us) : kIL PI (.lst us) C := by
  show PI us (fun C' => asLr C' (.lst us) = some us) C
  rw [← m]
  exact h
theorem g_kILl {us : List D} (h : PI us (fun _ => True) C) : kIL PI (.lst us) C := g_kIL h (fun _ => rfl) (by funext C'; simp [asLr, asL])
theorem g_kILr {ns : List Int} (h : PI (ns.map D.int) (fun _ => True) C) : kIL PI (.scr ns) C := by
  show PI (ns.map D.int) (fun C' => asLr C' (.scr ns) = some (ns.map D.int)) C
  have m : (fun _ : AH => True) = fun C' : AH => asLr C' (.scr ns) = some (ns.map D.int) := by funext C'; simp [asLr]
  rw [← m]
  exact h
def kIT (PI : List D → (AH → Prop) → AH → Prop) : D → AH → Prop := fun x C1 => match asT x with | some ds => PI ds (fun _ => True) C1 | none => False
theorem g_it (h : e s C (kIT PI)) : aIT e s C PI := h
theorem g_kIT {us : List D} (h : PI us (fun _ => True) C) : kIT PI (.tup us) C := h
def kIS (PI : List D → (AH → Prop) → AH → Prop) : D → AH → Prop := fun x C1 => match x with | .str z => PI (signs z) (fun _ => True) C1 | _ => False
theorem g_is' (h : e s C (kIS PI)) : aIS e s C PI := h
theorem g_kIS {z : Str} (h : PI (signs z) (fun _ => True) C) : kIS PI (.str z) C := h
def kIR1 (PI : List D → (AH → Prop) → AH → Prop) : List D → AH → Prop := fun ds C1 => match ds with | [.int j] => -(2 ^ 62) ≤ j ∧ j < 2 ^ 62 ∧ PI (rangeD 0 j.toNat) (fun _ => True) C1 | _ => False
theorem g_ir1 (h : aa s C (kIR1 PI)) : aIR1 aa s C PI := h
theorem g_kIR1 {j : Int} (h1 : -(2 ^ 62) ≤ j) (h2 : j < 2 ^ 62) (h : PI (rangeD 0 j.toNat) (fun _ => True) C) : kIR1 PI [.int j] C := ⟨h1, h2, h⟩
def kIR2 (PI : List D → (AH → Prop) → AH → Prop) : List D → AH → Prop := fun ds C1 => match ds with | [.int i, .int j] => (-(2 ^ 62) ≤ i ∧ i < 2 ^ 62 ∧ -(2 ^ 62) ≤ j ∧ j < 2 ^ 62) ∧ PI (rangeD i (j - i).toNat) (fun _ => True) C1 | _ => False
theorem g_ir2 (h : aa s C (kIR2 PI)) : aIR2 aa s C PI := h
theorem g_kIR2 {i j : Int} (h1 : -(2 ^ 62) ≤ i ∧ i < 2 ^ 62 ∧ -(2 ^ 62) ≤ j ∧ j < 2 ^ 62) (h : PI (rangeD i (j - i).toNat) (fun _ => True) C) : kIR2 PI [.int i, .int j] C := ⟨h1, h⟩
def kIE (PI : List D → (AH → Prop) → AH → Prop) : List D → AH → Prop := fun us C1 => match us with | [x] => (match asLr C1 x with | some ds => PI (enumD ds) (fun C' => asLr C' x = some ds) C1 | none => False) | _ => False
theorem g_ie (h : aa s C (kIE PI)) : aIE aa s C PI := h
theorem g_kIE {us : List D} (h : PI (enumD us) (fun _ => True) C) : kIE PI [.lst us] C := by
  show PI (enumD us) (fun C' => asLr C' (.lst us) = some us) C
  have m : (fun _ : AH => True) = fun C' : AH => asLr C' (.lst us) = some us := by funext C'; simp [asLr, asL]
  rw [← m]
  exact h
def kIZ (PI : List D → (AH → Prop) → AH → Prop) : List D → AH → Prop := fun us C1 => match us with | [x, y] => (match asLr C1 x, asLr C1 y with | some ds, some es => PI (zipD ds es) (fun C' => asLr C' x = some ds ∧ asLr C' y = some es) C1 | _, _ => False) | _ => False
theorem g_iz (h : aa s C (kIZ PI)) : aIZ aa s C PI := h
theorem g_kIZ {us ws : List D} (h : PI (zipD us ws) (fun _ => True) C) : kIZ PI [.lst us, .lst ws] C := by
  show PI (zipD us ws) (fun C' => asLr C' (.lst us) = some us ∧ asLr C' (.lst ws) = some ws) C
  have m : (fun _ : AH => True) = fun C' : AH => asLr C' (.lst us) = some us ∧ asLr C' (.lst ws) = some ws := by funext C'; simp [asLr, asL]
  rw [← m]
  exact h
/-- a loop whose items are known -/
def kFor (g : AG') (ab : AS') (nx : ASt → AH → Prop) (rt : D → AH → Prop) (s : ASt) : List D → (AH → Prop) → AH → Prop := fun items hold C => ∃ W : Nat → ASt → AH → Prop, W 0 s C ∧ (∀ i s' C', i ≤ items.length → W i s' C' → hold C') ∧
  (∀ i d s' C', items[i]? = some d → W i s' C' → g d s' C' fun s2 C2 => ab ⟨W (i + 1), rt, nx, W (i + 1)⟩ s2 C2) ∧ ∀ s' C', W items.length s' C' → nx s' C'
theorem g_for {ab : AS'} (h : w s C (kFor g ab nx rt s)) : aFor w g ab ⟨nx, rt, bk, ct⟩ s C := h
theorem g_kFor {ab : AS'} {items : List D} (W : Nat → ASt → AH → Prop) (h0 : W 0 s C)
    (hs : ∀ i d s' C', items[i]? = some d → W i s' C' → g d s' C' fun s2 C2 => ab ⟨W (i + 1), rt, nx, W (i + 1)⟩ s2 C2) (hd : ∀ s' C', W items.length s' C' → nx s' C') : kFor g ab nx rt s items (fun _ => True) C :=
  ⟨W, h0, fun _ _ _ _ _ => trivial, hs, hd⟩
/-- over a range -/
theorem g_kForR {ab : AS'} {lo : Int} {n j : Nat} (W : Nat → ASt → AH → Prop) (h0 : W 0 s C)
    (hs : ∀ (i : Nat) s' C', i < n → W i s' C' → ab ⟨W (i + 1), rt, nx, W (i + 1)⟩ (s'.set j (some (.int (lo + i)))) C') (hd : ∀ s' C', W n s' C' → nx s' C') : kFor (aGName j) ab nx rt s (rangeD lo n) (fun _ => True) C := by
  refine g_kFor W h0 (fun i d s' C' hi hw => ?_) (fun s' C' hw => hd s' C' (by rw [rangeD_len] at hw; exact hw))
  have hl : i < n := by
    have := (List.getElem?_eq_some_iff.mp hi).1
    rw [rangeD_len] at this
    exact this
  rw [rangeD_get hl] at hi
  cases hi
  exact hs i s' C' hl hw
theorem g_kForR0 {ab : AS'} {n j : Nat} (W : Nat → ASt → AH → Prop) (h0 : W 0 s C)
    (hs : ∀ (i : Nat) s' C', i < n → W i s' C' → ab ⟨W (i + 1), rt, nx, W (i + 1)⟩ (s'.set j (some (.int (i : Int)))) C') (hd : ∀ s' C', W n s' C' → nx s' C') : kFor (aGName j) ab nx rt s (rangeD 0 n) (fun _ => True) C :=
  g_kForR W h0 (fun i s' C' hi w => by rw [Int.zero_add]; exact hs i s' C' hi w) hd
/-- over a list of which something is known of each item -/
theorem g_kForL {ab : AS'} {items : List D} {j : Nat} (W : Nat → ASt → AH → Prop) (h0 : W 0 s C)
    (hs : ∀ (i : Nat) d s' C', items[i]? = some d → W i s' C' → ab ⟨W (i + 1), rt, nx, W (i + 1)⟩ (s'.set j (some d)) C') (hd : ∀ s' C', W items.length s' C' → nx s' C') : kFor (aGName j) ab nx rt s items (fun _ => True) C := g_kFor W h0 hs hd
theorem g_while {t : AT'} {ab : AS'} (W : Nat → ASt → AH → Prop) (m : Nat) (h0 : W m s C) (hs : ∀ m s' C', W m s' C' → t s' C' fun k C1 => if k = true then ab ⟨fun s2 C2 => ∃ m', m' < m ∧ W m' s2 C2, rt, nx, fun s2 C2 => ∃ m', m' < m ∧ W m' s2 C2⟩ s' C1 else nx s' C1) : aWhile t ab ⟨nx, rt, bk, ct⟩ s C := ⟨W, ⟨m, h0⟩, hs⟩
def kLc (g : AG') (t : AT') (e : AE') (vs : List Nat) (fin : List D → AH → Prop) (s : ASt) : List D → (AH → Prop) → AH → Prop := fun items hold C1 => items.length ≤ sizeLine ∧ ∃ W : Nat → List D → AH → Prop, W 0 [] C1 ∧ (∀ i acc C', i ≤ items.length → W i acc C' → hold C') ∧
  (∀ i d acc C', items[i]? = some d → W i acc C' → g d (wipeA s vs) C' fun s2 C2 => t s2 C2 fun b C3 => if b = true then e s2 C3 fun y C4 => W (i + 1) (acc ++ [y]) C4 else W (i + 1) acc C3) ∧ ∀ acc C', W items.length acc C' → fin acc C'
theorem g_lc {t : AT'} {vs : List Nat} (h : w s C (kLc g t e vs (fun acc C' => P (.lst acc) C') s)) : aLc w g t e vs s C P := h
theorem g_lcM {t : AT'} {vs : List Nat} (h : w s C (kLc g t e vs (fun acc C' => ∀ p, C' p = none → P (.ce p) (put C' p (.lst acc))) s)) : aLcM w g t e vs s C P := h
theorem g_kLc {t : AT'} {vs : List Nat} {fin : List D → AH → Prop} {items : List D} (W : Nat → List D → AH → Prop) (hl : items.length ≤ sizeLine) (h0 : W 0 [] C)
    (hs : ∀ i d acc C', items[i]? = some d → W i acc C' → g d (wipeA s vs) C' fun s2 C2 => t s2 C2 fun b C3 => if b = true then e s2 C3 fun y C4 => W (i + 1) (acc ++ [y]) C4 else W (i + 1) acc C3) (hd : ∀ acc C', W items.length acc C' → fin acc C') : kLc g t e vs fin s items (fun _ => True) C :=
  ⟨hl, W, h0, fun _ _ _ _ _ => trivial, hs, hd⟩
/-- [f x for x in items], each as it stands, the cells stay -/
theorem g_kLcMap {vs : List Nat} {fin : List D → AH → Prop} {items : List D} {j : Nat} (f : D → D) (hl : items.length ≤ sizeLine) (hs : ∀ d, d ∈ items → ∀ R : D → AH → Prop, R (f d) C → e ((wipeA s vs).set j (some d)) C R) (hd : fin (items.map f) C) : kLc (aGName j) aYes e vs fin s items (fun _ => True) C := by
  refine g_kLc (fun i acc C' => acc = (items.take i).map f ∧ C' = C) hl ⟨rfl, rfl⟩ (fun i d acc C' hi hw => ?_) (fun acc C' hw => ?_)
  · obtain ⟨rfl, rfl⟩ := hw
    refine hs d (List.mem_of_getElem? hi) _ ⟨?_, rfl⟩
    rw [List.take_add_one, hi, List.map_append]
    rfl
  · obtain ⟨rfl, rfl⟩ := hw
    rw [List.take_length]
    exact hd
end
theorem g_sz {n : Nat} {A : Prop} (h1 : n ≤ sizeLine) (h : A) : n ≤ sizeLine ∧ A := ⟨h1, h⟩
theorem g_ty {T : String} {C : AH} {d : D} {A : Prop} (h1 : isTy T C d = true) (h : A) : isTy T C d = true ∧ A := ⟨h1, h⟩
theorem ne_cell {C : AH} {p q : Addr} {c : Cell} (h : C p = some c) (g : C q = none) : p ≠ q := fun z => by rw [z, g] at h; cases h
theorem put_other {C : AH} {p q : Addr} {o : Option Cell} {d : Cell} (hn : p ≠ q) (h : C p = o) : put C q d p = o := by rw [put_ne hn]; exact h
theorem del_other {C : AH} {p q : Addr} {o : Option Cell} (hn : p ≠ q) (h : C p = o) : del C q p = o := by unfold del; rw [if_neg hn]; exact h
theorem del_same {C : AH} {p : Addr} : del C p p = none := by unfold del; rw [if_pos rfl]
end AL
namespace AL
open PySem L2
mutual
def okD : D → Nat → Bool
  | .non, _ => true
  | .bl _, _ => true
  | .int _, _ => true
  | .str x, _ => x.cps.all (· < 0x110000)
  | .lst ds, n + 1 => okL ds n
  | .tup ds, n + 1 => okL ds n
  | _, _ => false
def okL : List D → Nat → Bool
  | [], _ => true
  | d :: ds, n => okD d n && okL ds n
end
theorem okL_all {ds : List D} {n : Nat} : okL ds n = true ↔ ∀ d ∈ ds, okD d n = true := by
  induction ds with
  | nil => simp [okL]
  | cons d ds ih => simp [okL, ih]
mutual
theorem okD_pd : ∀ (d : D) (n : Nat), okD d n = true → ∃ x, d.pd = some x ∧ x.canLay0 = true ∧ x.depth ≤ n
  | .non, n, _ => ⟨.none, by simp [D.pd], by simp [PyData.canLay0], by simp [PyData.depth]⟩
  | .bl b, n, _ => ⟨.bool b, by simp [D.pd], by simp [PyData.canLay0], by simp [PyData.depth]⟩
  | .int i, n, _ => ⟨.int i, by simp [D.pd], by simp [PyData.canLay0], by simp [PyData.depth]⟩
  | .str x, n, h => ⟨.str x, by simp [D.pd], by simpa [PyData.canLay0, PyData.strOk, okD] using h, by simp [PyData.depth]⟩
  | .lst ds, 0, h => by simp [okD] at h
  | .lst ds, n + 1, h => by
    obtain ⟨xs, h1, h2, h3⟩ := okL_pd ds n (by simpa [okD] using h)
    exact ⟨.list xs, by simp [D.pd, h1], by simpa [PyData.canLay0] using h2, by simp [PyData.depth]; omega⟩
  | .tup ds, 0, h => by simp [okD] at h
  | .tup ds, n + 1, h => by
    obtain ⟨xs, h1, h2, h3⟩ := okL_pd ds n (by simpa [okD] using h)
    exact ⟨.tuple xs, by simp [D.pd, h1], by simpa [PyData.canLay0] using h2, by simp [PyData.depth]; omega⟩
  | .dk _, _, h => by simp [okD] at h
  | .scr _, _, h => by simp [okD] at h
  | .ce _, _, h => by simp [okD] at h
theorem okL_pd : ∀ (ds : List D) (n : Nat), okL ds n = true → ∃ xs, pdL ds = some xs ∧ PyData.canLayAll0 xs = true ∧ PyData.depthAll xs ≤ n
  | [], n, _ => ⟨[], by simp [pdL], by simp [PyData.canLayAll0], by simp [PyData.depthAll]⟩
  | d :: ds, n, h => by
    simp only [okL, Bool.and_eq_true] at h
    obtain ⟨x, a1, a2, a3⟩ := okD_pd d n h.1
    obtain ⟨xs, b1, b2, b3⟩ := okL_pd ds n h.2
    exact ⟨x :: xs, by simp [pdL, a1, b1], by simp [PyData.canLayAll0, a2, b2], by simp [PyData.depthAll]; omega⟩
end
theorem okD_shaped {d : D} {n : Nat} (h : okD d n = true) (hn : n ≤ 64) : ∃ x, d.pd = some x ∧ SeqAt.shaped x = true ∧ PyData.eqv x x = true := by
  obtain ⟨x, h1, h2, h3⟩ := okD_pd d n h
  refine ⟨x, h1, ?_, SeqAt.eqv_refl x h2⟩
  unfold SeqAt.shaped
  rw [h2, decide_eq_true (show x.depth ≤ 64 by omega)]
  rfl
theorem eqS_self {d : D} {b : Bool} (h : eqS d d = some b) : b = true := by
  cases d <;> simp [eqS] at h <;> exact h
theorem pdC_ok' {C : AH} {d : D} {n : Nat} (h : okD d n = true) : pdC C d = d.pd := by
  cases d <;> first | rfl | (simp [okD] at h)
/-- a thing and itself -/
theorem g_eqR {C : AH} {d : D} {P : D → AH → Prop} (n : Nat) (h : okD d n = true) (hn : n ≤ 64) (k : P (.bl true) C) : aEq d d C P := by
  unfold aEq aEqN
  split
  · rename_i b e
    rw [eqS_self e]
    exact k
  · obtain ⟨x, h1, h2, h3⟩ := okD_shaped h hn
    exact ⟨x, x, (pdC_ok' h).trans h1, (pdC_ok' h).trans h1, h2, h2, by rw [h3]; exact k⟩
theorem g_neR {C : AH} {d : D} {P : D → AH → Prop} (n : Nat) (h : okD d n = true) (hn : n ≤ 64) (k : P (.bl false) C) : aNe d d C P := by
  unfold aNe aEqN
  split
  · rename_i b e
    rw [eqS_self e]
    exact k
  · obtain ⟨x, h1, h2, h3⟩ := okD_shaped h hn
    exact ⟨x, x, (pdC_ok' h).trans h1, (pdC_ok' h).trans h1, h2, h2, by rw [h3]; exact k⟩
theorem okD_lst {ds : List D} {n : Nat} (h : ∀ d ∈ ds, okD d n = true) : okD (.lst ds) (n + 1) = true := by
  simp only [okD]; exact okL_all.mpr h
theorem okD_tup {ds : List D} {n : Nat} (h : ∀ d ∈ ds, okD d n = true) : okD (.tup ds) (n + 1) = true := by
  simp only [okD]; exact okL_all.mpr h
def oD : Option Nat → D
  | none => .non
  | some n => .int (n : Int)
@[simp] theorem okD_oD (o : Option Nat) (n : Nat) : okD (oD o) n = true := by cases o <;> simp [oD, okD]
/-- sg signs; every stand that is led to is there -/
structure Mach (sg : Nat) (ends : List Bool) (goes : List (List (Option Nat))) : Prop where
  len : ends.length = goes.length
  pos : 0 < ends.length
  most : ends.length ≤ 1000
  row : ∀ r ∈ goes, r.length = sg
  go : ∀ r ∈ goes, ∀ t, some t ∈ r → t < ends.length
def stepO (goes : List (List (Option Nat))) (s : Option Nat) (n : Nat) : Option Nat := match s with
  | none => none
  | some t => match goes[t]? with
    | some r => (match r[n]? with | some o => o | none => none)
    | none => none
def runO (goes : List (List (Option Nat))) (s : Option Nat) (row : List Nat) : Option Nat := row.foldl (stepO goes) s
def inn (n : Nat) (s : Option Nat) : Prop := ∀ t, s = some t → t < n
theorem Mach.step {sg : Nat} {ends : List Bool} {goes : List (List (Option Nat))} (M : Mach sg ends goes) {s : Option Nat} {n : Nat} (hs : inn ends.length s) (hn : n < sg) : inn ends.length (stepO goes s n) := by
  intro t ht
  cases s with
  | none => cases ht
  | some u =>
    have hu := hs u rfl
    have hu' : u < goes.length := by rw [← M.len]; exact hu
    have hr := M.row goes[u] (List.getElem_mem hu')
    simp only [stepO, List.getElem?_eq_getElem hu', List.getElem?_eq_getElem (show n < goes[u].length by rw [hr]; exact hn)] at ht
    exact M.go goes[u] (List.getElem_mem hu') t (by rw [← ht]; exact List.getElem_mem _)
theorem Mach.run {sg : Nat} {ends : List Bool} {goes : List (List (Option Nat))} (M : Mach sg ends goes) : ∀ (row : List Nat) {s : Option Nat}, inn ends.length s → (∀ n ∈ row, n < sg) → inn ends.length (runO goes s row)
  | [], _, hs, _ => hs
  | n :: row, _, hs, hr => M.run row (M.step hs (hr n (List.mem_cons_self))) fun k hk => hr k (List.mem_cons_of_mem _ hk)
end AL
namespace AL
open PySem L2
abbrev natsD (row : List Nat) : List D := row.map fun (n : Nat) => D.int (n : Int)
@[simp] theorem natsD_len (row : List Nat) : (natsD row).length = row.length := by unfold natsD; rw [List.length_map]
theorem okD_nats (row : List Nat) (n : Nat) : okD (.lst (natsD row)) (n + 1) = true := by
  refine okD_lst fun d hd => ?_
  obtain ⟨r, _, rfl⟩ := List.mem_map.mp hd
  simp [okD]
end AL
namespace AL
open PySem PySem.Spec L2
variable {B : Bs}
def keyOf : D → Option Key
  | .int i => some (.inl i)
  | .str x => some (.inr x)
  | _ => none
def valD (es : List (Key × D)) (k : Key) : Option D := (es.find? fun kv => decide (kv.1 = k)).map (·.2)
def putD (es : List (Key × D)) (k : Key) (d : D) : List (Key × D) :=
  if (es.any fun kv => decide (kv.1 = k)) = true then es.map (fun kv => if kv.1 = k then (kv.1, d) else kv) else es ++ [(k, d)]
def asK (C : AH) : D → Option (List (Key × D))
  | .dk es => some es
  | .ce p => (match C p with | some (.dk es) => some es | _ => none)
  | _ => none
section
variable {K : PySem.W.Frag} {F F' : Hp} {C : AH} {R H : Hp}
theorem RepK.val (k : Key) : ∀ {vs : List (Key × V)} {ds : List (Key × D)}, RepK K F vs ds → (match valD ds k with | some d => ∃ v, valV vs k = some v ∧ Rep K F v d | none => valV vs k = none)
  | _, _, .nil => rfl
  | (j, v) :: vs, (_, d) :: ds, .cons r t => by
    have ih := RepK.val k t
    unfold valD valV at ih ⊢
    by_cases e : j = k
    · subst e
      simp only [List.find?_cons, decide_true, Option.map_some]
      exact ⟨v, rfl, r⟩
    · simp only [List.find?_cons, decide_eq_false e]
      exact ih
theorem RepK.any (k : Key) : ∀ {vs : List (Key × V)} {ds : List (Key × D)}, RepK K F vs ds → (vs.any fun kv => decide (kv.1 = k)) = ds.any fun kv => decide (kv.1 = k)
  | _, _, .nil => rfl
  | _, _, .cons r t => by rw [List.any_cons, List.any_cons, RepK.any k t]
theorem RepK.repl (k : Key) {v : V} {d : D} (r : Rep K F v d) : ∀ {vs : List (Key × V)} {ds : List (Key × D)}, RepK K F vs ds → RepK K F (vs.map fun kv => if kv.1 = k then (kv.1, v) else kv) (ds.map fun kv => if kv.1 = k then (kv.1, d) else kv)
  | _, _, .nil => .nil
  | (j, _) :: _, _, .cons q t => by
    rw [List.map_cons, List.map_cons]
    by_cases e : j = k
    · rw [if_pos e, if_pos e]; exact .cons r (RepK.repl k r t)
    · rw [if_neg e, if_neg e]; exact .cons q (RepK.repl k r t)
theorem RepK.snoc (k : Key) {v : V} {d : D} (r : Rep K F v d) : ∀ {vs : List (Key × V)} {ds : List (Key × D)}, RepK K F vs ds → RepK K F (vs ++ [(k, v)]) (ds ++ [(k, d)])
  | _, _, .nil => .cons r .nil
  | _, _, .cons q t => .cons q (RepK.snoc k r t)
theorem RepK.put (k : Key) {v : V} {d : D} (r : Rep K F v d) {vs : List (Key × V)} {ds : List (Key × D)} (h : RepK K F vs ds) : RepK K F (putK vs k v) (putD ds k d) := by
  unfold putK putD
  rw [RepK.any k h]
  split
  · exact RepK.repl k r h
  · exact RepK.snoc k r h
end
/-- d[k] -/
def aGetK (o i : AE') : AE' := fun s C P => o s C fun x C1 => i s C1 fun y C2 => match asK C2 x, keyOf y with
  | some es, some k => (match valD es k with | some d => P d C2 | none => False)
  | _, _ => False
section
variable {X : Cx} {pos : Pos} {o i e : Expr} {to ti te : TE} {ao ai a : AE'}
/-- d[k] = e -/
def aPutK (o i e : AE') : AS' := fun E s C => e s C fun d C1 => o s C1 fun x C2 => i s C2 fun y C3 => match x, keyOf y with
  | .ce p, some k => (match C3 p with | some (.dk es) => es.length < sizeLine ∧ E.nx s (put C3 p (.dk (putD es k d))) | _ => False)
  | _, _ => False
end
/-- a, b = x, y -/
def aPar (i j : Nat) (aa : AA') : AS' := fun E s C => aa s C fun ds C1 => match ds with
  | [d, e] => E.nx ((s.set i (some d)).set j (some e)) C1
  | _ => False
section
variable {nx : ASt → AH → Prop} {rt : D → AH → Prop} {bk ct : ASt → AH → Prop} {s : ASt} {C : AH} {P : D → AH → Prop} {aa : AA'} {e : AE'} {i j : Nat} {p : Addr}
def kPar (i j : Nat) (nx : ASt → AH → Prop) (s : ASt) : List D → AH → Prop := fun ds C1 => match ds with
  | [d, e] => nx ((s.set i (some d)).set j (some e)) C1
  | _ => False
theorem g_par (h : aa s C (kPar i j nx s)) : aPar i j aa ⟨nx, rt, bk, ct⟩ s C := (congrArg (aa s C) (by funext ds C1; rfl)).mpr h
theorem g_kPar {d e : D} {s' : ASt} (h0 : (s.set i (some d)).set j (some e) = s') (h : nx s' C) : kPar i j nx s [d, e] C := by
  subst h0
  exact h
theorem g_neg {z : Int} (h : P (.int (-z)) C) : aNeg (.int z) C P := h
def penD (x y z : D) : Cell := .dk [(.inr "script", x), (.inr "at", y), (.inr "left", z)]
theorem g_pen0 {x y z : D} (hi : s[i]? = some (some (.ce p))) (h1 : C p = some (penD x y z)) (h : P x C) : aGetK (aVar i) (aC (.str "script")) s C P := by
  refine g_var hi ?_
  show (match (match C p with | some (.dk es) => some es | _ => none), keyOf (.str "script") with | some es, some k => (match valD es k with | some d => P d C | none => False) | _, _ => False)
  rw [h1]
  exact h
theorem g_pen1 {x y z : D} (hi : s[i]? = some (some (.ce p))) (h1 : C p = some (penD x y z)) (h : P y C) : aGetK (aVar i) (aC (.str "at")) s C P := by
  refine g_var hi ?_
  show (match (match C p with | some (.dk es) => some es | _ => none), keyOf (.str "at") with | some es, some k => (match valD es k with | some d => P d C | none => False) | _, _ => False)
  rw [h1]
  exact h
theorem g_pen2 {x y z : D} (hi : s[i]? = some (some (.ce p))) (h1 : C p = some (penD x y z)) (h : P z C) : aGetK (aVar i) (aC (.str "left")) s C P := by
  refine g_var hi ?_
  show (match (match C p with | some (.dk es) => some es | _ => none), keyOf (.str "left") with | some es, some k => (match valD es k with | some d => P d C | none => False) | _, _ => False)
  rw [h1]
  exact h
def kPut (i : Nat) (x : Str) (nx : ASt → AH → Prop) (s : ASt) : D → AH → Prop := fun d C1 => aVar i s C1 fun x' C2 => match x' with
  | .ce p => (match C2 p with | some (.dk es) => es.length < sizeLine ∧ nx s (put C2 p (.dk (putD es (.inr x) d))) | _ => False)
  | _ => False
theorem g_putK {x : Str} (h : e s C (kPut i x nx s)) : aPutK (aVar i) (aC (.str x)) e ⟨nx, rt, bk, ct⟩ s C := by
  refine (congrArg (e s C) ?_).mpr h
  funext d C1
  refine congrArg (aVar i s C1) ?_
  funext y C2
  cases y <;> rfl
theorem g_kPut1 {x y z d : D} (hi : s[i]? = some (some (.ce p))) (h1 : C p = some (penD x y z)) (h : nx s (put C p (penD x d z))) : kPut i "at" nx s d C := by
  refine g_var hi ?_
  show (match C p with | some (.dk es) => es.length < sizeLine ∧ nx s (put C p (.dk (putD es (.inr "at") d))) | _ => False)
  rw [h1]
  exact ⟨by show 3 < sizeLine; decide, h⟩
theorem g_kPut2 {x y z d : D} (hi : s[i]? = some (some (.ce p))) (h1 : C p = some (penD x y z)) (h : nx s (put C p (penD x y d))) : kPut i "left" nx s d C := by
  refine g_var hi ?_
  show (match C p with | some (.dk es) => es.length < sizeLine ∧ nx s (put C p (.dk (putD es (.inr "left") d))) | _ => False)
  rw [h1]
  exact ⟨by show 3 < sizeLine; decide, h⟩
end
end AL
namespace AL
open PySem PySem.Spec L2
variable {B : Bs}
section
variable {s : ASt} {C : AH} {P : D → AH → Prop} {a e : AE'} {l h : AO'} {PO : Option Int → AH → Prop}
theorem g_sl {r : D → Option Int → Option Int → AH → (D → AH → Prop) → Prop} (h0 : a s C fun x C1 => l s C1 fun i C2 => h s C2 fun j C3 => r x i j C3 P) : aSl r a l h s C P := h0
theorem g_noPart (h0 : PO none C) : aNoPart s C PO := h0
def kPart (PO : Option Int → AH → Prop) : D → AH → Prop := fun x C1 => match x with | .int i => PO (some i) C1 | _ => False
theorem g_part (h0 : e s C (kPart PO)) : aPart e s C PO := (congrArg (e s C) (by funext x C1; cases x <;> rfl)).mpr h0
theorem g_kPart {i : Int} (h0 : PO (some i) C) : kPart PO (.int i) C := h0
theorem cutD_drop (ds : List D) (j : Nat) : cutD ds (some (j : Int)) none = ds.drop j := by
  unfold cutD
  rw [HT.sIx_none, HT.sIx_nat]
  by_cases hj : j ≤ ds.length
  · rw [Nat.min_eq_left hj, List.take_of_length_le (by rw [List.length_drop]; omega)]
  · rw [Nat.min_eq_right (by omega), List.drop_eq_nil_of_le (Nat.le_refl _), List.drop_eq_nil_of_le (by omega)]
    simp
theorem g_cutDrop {us : List D} {j : Nat} (h0 : P (.lst (us.drop j)) C) : aCut (.lst us) (some (j : Int)) none C P := by
  show P (.lst (cutD us (some (j : Int)) none)) C
  rw [cutD_drop]; exact h0
theorem g_extend {p : Addr} {us ws : List D} (h1 : C p = some (.lst us)) (h2 : us.length + ws.length ≤ sizeLine) (h0 : P .non (put C p (.lst (us ++ ws)))) : aExtend (.ce p) [.lst ws] C P := by
  show (match C p, asL C (.lst ws) with | some (.lst us), some ws => us.length + ws.length ≤ sizeLine ∧ P .non (put C p (.lst (us ++ ws))) | _, _ => False)
  rw [h1]
  exact ⟨h2, h0⟩
end
end AL
namespace AL
open PySem PySem.Spec PyProof.Rows L2
variable {B : Bs}
section
variable {X : Cx} {K : PySem.W.Frag}
def signsV (z : Str) : List V := z.cps.toList.map fun c => V.str ⟨#[c]⟩
def kLstS (x : V) (H : Hp) (Q : VK) : Prop := ∃ z, x = .str z ∧ z.cps.size ≤ sizeLine ∧ ∀ q, H q = none → Q (.ref q) (upd H q (.lst (signsV z)))
theorem rl_listS (hc : X.calm = true) (pins : List (Addr × Obj)) (s : Shared) (σ : L2.St) (H : Hp) (x : V) (v : Value) (Q : VK) (I : Inv X pins σ H s) (r : RelV x v) (h : kLstS x H Q) :
    wpAny (model X.prog X.w) X.A (call (.type "list") [v]) (EP X pins σ Q) X.xe s := by
  obtain ⟨z, rfl, hz, q⟩ := h
  obtain ⟨t, rfl⟩ := r
  refine PySem.call_list_str (I.ok.hd hc) z t (hn := hz) fun h' tk acc c' hk e hi => ?_
  refine ⟨.ref s.heap.objs.size, upd H s.heap.objs.size (.lst (signsV z)), I.laid hk (Nat.le_refl _) ⟨by unfold signsV; rw [List.length_map, Array.length_toList]; exact hz, acc.toList, c', ?_, by rw [Array.toArray_toList]; exact e⟩, rfl, q _ (I.hok.fresh (Nat.le_refl _))⟩
  refine vals_of_idx _ _ (by unfold signsV; rw [List.length_map, Array.length_toList, Array.length_toList]; exact hi.1) fun j u hj => ?_
  obtain ⟨c, t', hc, rfl⟩ := hi.2 j u (by rw [← Array.getElem?_toList]; exact hj)
  refine ⟨.str ⟨#[c]⟩, ?_, ⟨_, rfl⟩⟩
  unfold signsV
  rw [List.getElem?_map, Array.getElem?_toList, hc]
  rfl
theorem signs_rep {F : Hp} (z : Str) : RepL K F (signsV z) (signs z) := by
  unfold signsV signs
  induction z.cps.toList with
  | nil => exact .nil
  | cons c l ih => exact .cons (.str _) ih
def aListSM : ASp := fun ds C P => match ds with | [.str z] => z.cps.size ≤ sizeLine ∧ ∀ p, C p = none → P (.ce p) (put C p (.lst (signs z))) | _ => False
theorem ac_listSM (hc : X.calm = true := by rfl) : ACa B X (.type "list") (r1 kLstS) aListSM := ⟨call_r1 (rl_listS hc), by
  intro vs ds F C R H Q P hS r h k
  unfold aListSM at h
  split at h
  · cases r with
    | cons r1 r2 =>
      cases r2
      cases r1
      refine ⟨_, rfl, h.1, fun p hp => ?_⟩
      exact k _ _ _ _ _ (Ex.refl F) (hS.newC hp (.lst (signs_rep _))) (.ce p) (h.2 p (hS.freeC hp))
  · exact h.elim⟩
def aJoin : D → ASp := fun x ds C P => match x, ds with
  | .str a, [d] => (match (asS C d).bind strsD with | some ys => (ys.map (·.length)).sum + ys.length * a.length ≤ 16777216 ∧ P (.str (Txt.join a ys)) C | none => False)
  | _, _ => False
theorem am_join (hK : X.K = K := by rfl) : AMt B X "str.join" (fun x xs H Q => ∃ a p, ∃ ys : List Str, x = .str a ∧ xs = [.ref p] ∧ (SqL K H p (ys.map V.str) ∨ SqT K H p (ys.map V.str)) ∧
    (ys.map (·.length)).sum + ys.length * a.length ≤ 16777216 ∧ Q (.str (Txt.join a ys)) H) aJoin := by
  subst hK
  exact ⟨fun pins s σ H x xs v us Q I r1 r2 h => mt_join pins s σ H x xs v us Q I r1 r2 h, by
  intro v d vs ds F C R H Q P hS r1 r2 h k
  unfold aJoin at h
  split at h
  · cases r1
    cases r2 with
    | cons r2 r3 =>
      cases r3
      split at h
      · rename_i ys e
        obtain ⟨us, e1, e2⟩ := Option.bind_eq_some_iff.mp e
        obtain ⟨a, xs, e3, h1, h2⟩ := asS_ok hS r2 e1
        have e4 := strs_ok e2
        subst e4
        have e5 := h2.ofStrs
        subst e5
        exact ⟨_, a, ys, rfl, by rw [e3], h1, h.1, k _ _ F C H (Ex.refl F) hS (.str _) h.2⟩
      · exact h.elim
  · exact h.elim⟩
def toV : D → Option V
  | .non => some .non
  | .bl b => some (.bl b)
  | .int i => some (.int i)
  | .str x => some (.str x)
  | _ => none
def toVs : List D → Option (List V)
  | [] => some []
  | d :: ds => match toV d, toVs ds with | some v, some vs => some (v :: vs) | _, _ => none
theorem toV_ok {F : Hp} {v u : V} {d : D} (r : Rep K F v d) (h : toV d = some u) : v = u ∧ flatV u = true := by
  cases r <;> simp [toV] at h <;> subst h <;> exact ⟨rfl, rfl⟩
theorem toVs_ok {F : Hp} : ∀ {vs us : List V} {ds : List D}, RepL K F vs ds → toVs ds = some us → vs = us ∧ us.all flatV = true
  | _, _, _, .nil, h => by cases h; exact ⟨rfl, rfl⟩
  | _, us, d :: ds, .cons r t, h => by
    unfold toVs at h
    split at h
    · rename_i v vs e1 e2
      cases h
      obtain ⟨a1, a2⟩ := toV_ok r e1
      obtain ⟨b1, b2⟩ := toVs_ok t e2
      subst a1 b1
      exact ⟨rfl, by simp [a2, b2]⟩
    · cases h
def aIn (neg : Bool) : D → D → AH → (D → AH → Prop) → Prop := fun x y C P => match toV x, (asS C y).bind toVs with
  | some u, some us => P (.bl (if neg then !inV u us else inV u us)) C
  | _, _ => False
abbrev aInL := aIn false
theorem sim_in (neg : Bool) : SimR2 B K (rIn K neg) (aIn neg) := by
  intro v w d e F C R H Q P hS r1 r2 h k
  unfold aIn at h
  split at h
  · rename_i u us e1 e2
    obtain ⟨ds, e3, e4⟩ := Option.bind_eq_some_iff.mp e2
    obtain ⟨a, xs, rfl, h1, h2⟩ := asS_ok hS r2 e3
    obtain ⟨a1, a2⟩ := toV_ok r1 e1
    obtain ⟨b1, b2⟩ := toVs_ok h2 e4
    subst a1 b1
    exact ⟨a, xs, rfl, h1, a2, b2, k _ _ F C H (Ex.refl F) hS (.bl _) h⟩
  · exact h.elim
theorem ao_inL (hK : X.K = K := by rfl) : AOp B X (compareOp .In) (rIn K false) aInL := by subst hK; exact ⟨op_in_seq, sim_in false⟩
def aNoS : AS' := fun _ _ _ => False
theorem as_no {st : Stmt} : AS B X st (fun _ _ _ => False) aNoS := ⟨⟨fun _ _ _ _ _ _ h => h.elim⟩, fun _ _ _ _ _ _ _ _ _ _ _ h => h.elim⟩
end
section
variable {s : ASt} {C : AH} {P : D → AH → Prop}
theorem g_listSM {z : Str} (h1 : z.cps.size ≤ sizeLine) (h : ∀ p, C p = none → P (.ce p) (put C p (.lst (signs z)))) : aListSM [.str z] C P := ⟨h1, h⟩
theorem g_joinL {a : Str} {ys : List Str} (h1 : (ys.map (·.length)).sum + ys.length * a.length ≤ 16777216) (h : P (.str (Txt.join a ys)) C) : aJoin (.str a) [.lst (ys.map D.str)] C P := by
  show (match strsD (ys.map D.str) with | some ys => _ | none => False)
  rw [strs_map]
  exact ⟨h1, h⟩
theorem g_joinT {a : Str} {ys : List Str} (h1 : (ys.map (·.length)).sum + ys.length * a.length ≤ 16777216) (h : P (.str (Txt.join a ys)) C) : aJoin (.str a) [.tup (ys.map D.str)] C P := by
  show (match strsD (ys.map D.str) with | some ys => _ | none => False)
  rw [strs_map]
  exact ⟨h1, h⟩
theorem g_in {neg : Bool} {x : D} {u : V} {ds : List D} {us : List V} (h1 : toV x = some u) (h2 : toVs ds = some us) (h : P (.bl (if neg then !inV u us else inV u us)) C) : aIn neg x (.tup ds) C P := by
  show (match toV x, toVs ds with | some u, some us => P (.bl (if neg then !inV u us else inV u us)) C | _, _ => False)
  rw [h1, h2]
  exact h
theorem g_popAt {p : Addr} {us : List D} {i : Nat} {d : D} (h1 : C p = some (.lst us)) (hi : i < 2 ^ 63) (h2 : us[i]? = some d) (h : P d (put C p (.lst (us.eraseIdx i)))) : aPopAt (.ce p) [.int (i : Int)] C P := by
  show (match C p with | some (.lst us) => -(2 ^ 63) ≤ (i : Int) ∧ (i : Int) < 2 ^ 63 ∧ (match seqIndex? (i : Int) us.length with | some k => (match us[k]? with | some d => P d (put C p (.lst (us.eraseIdx k))) | none => False) | none => False) | _ => False)
  rw [h1]
  refine ⟨by omega, by omega, ?_⟩
  have hl := (List.getElem?_eq_some_iff.mp h2).1
  have e : seqIndex? (i : Int) us.length = some i := by
    unfold seqIndex?
    simp
    omega
  rw [e]
  show (match us[i]? with | some d => P d (put C p (.lst (us.eraseIdx i))) | none => False)
  rw [h2]
  exact h
end
end AL
namespace AL
open PySem PySem.Spec L2
variable {B : Bs}
theorem ass_no {X : Cx} {st : List Stmt} : ASs B X st (fun _ _ _ => False) aNoS := ⟨⟨fun _ _ _ _ _ _ h => h.elim⟩, fun _ _ _ _ _ _ _ _ _ _ _ h => h.elim⟩
end AL
namespace AL
open PySem PySem.Spec PyProof.Rows L2
variable {B : Bs}
def okS (z : Str) : Prop := ∀ c ∈ z.cps.toList, c < 0x110000
def One (z : Str) : Prop := ∃ c : Nat, z = ⟨#[c]⟩ ∧ c < 0x110000
abbrev strsL (ys : List Str) : List D := ys.map D.str
def chars (z : Str) : List Str := z.cps.toList.map fun c => ⟨#[c]⟩
theorem len_toList (z : Str) : z.cps.toList.length = z.length := Array.length_toList
theorem One.len {z : Str} (h : One z) : z.length = 1 := by obtain ⟨c, rfl, _⟩ := h; rfl
theorem One.ok {z : Str} (h : One z) : okS z := by
  obtain ⟨c, rfl, hc⟩ := h
  intro d hd
  have : d = c := by simpa using hd
  rw [this]; exact hc
theorem signs_chars (z : Str) : signs z = strsL (chars z) := by
  unfold signs strsL chars
  rw [List.map_map]
  rfl
theorem joinL_nil : ∀ ps : List (List Nat), TL.joinL [] ps = ps.flatten
  | [] => rfl
  | [p] => by simp [TL.joinL]
  | p :: q :: r => by
    show p ++ ([] ++ TL.joinL [] (q :: r)) = _
    rw [joinL_nil (q :: r), List.nil_append]
    simp
theorem join_toList (ys : List Str) : (Txt.join "" ys).cps.toList = (ys.map fun y => y.cps.toList).flatten := by
  rw [TL.join_eq]
  have h := TL.tl_join "" ys
  have e : TL.tl "" = [] := by decide +kernel
  rw [e, joinL_nil] at h
  exact h
theorem join_len (ys : List Str) : (Txt.join "" ys).length = (ys.map (·.length)).sum := by
  rw [← len_toList, join_toList, List.length_flatten, List.map_map]
  congr 1
theorem ones_len {ys : List Str} (h : ∀ y ∈ ys, One y) : (ys.map (·.length)).sum = ys.length := by
  induction ys with
  | nil => rfl
  | cons y ys ih =>
    rw [List.map_cons, List.sum_cons, ih fun z hz => h z (List.mem_cons_of_mem _ hz), (h y (List.mem_cons_self ..)).len, List.length_cons]
    omega
theorem erase_map (ys : List Str) : ∀ i, (strsL ys).eraseIdx i = strsL (ys.eraseIdx i) := by
  induction ys with
  | nil => intro i; rfl
  | cons y ys ih =>
    intro i
    cases i with
    | zero => rfl
    | succ i =>
      show D.str y :: (strsL ys).eraseIdx i = D.str y :: strsL (ys.eraseIdx i)
      rw [ih]
section
variable {C : AH} {P : D → AH → Prop}
theorem len_empty : ("" : Str).length = 0 := by decide +kernel
theorem g_joinE {ys : List Str} (h1 : (ys.map (·.length)).sum ≤ 16777216) (h : P (.str (Txt.join "" ys)) C) : aJoin (.str "") [.lst (strsL ys)] C P := g_joinL (by rw [len_empty]; omega) h
theorem g_joinET {ys : List Str} (h1 : (ys.map (·.length)).sum ≤ 16777216) (h : P (.str (Txt.join "" ys)) C) : aJoin (.str "") [.tup (strsL ys)] C P := g_joinT (by rw [len_empty]; omega) h
theorem g_popS {p : Addr} {ys : List Str} {i : Nat} (h1 : C p = some (.lst (strsL ys))) (hi : i < ys.length) (h64 : ys.length < 2 ^ 62) (h : P (.str ys[i]) (put C p (.lst (strsL (ys.eraseIdx i))))) : aPopAt (.ce p) [.int (i : Int)] C P := by
  refine g_popAt (d := .str ys[i]) h1 (by omega) ?_ ?_
  · unfold strsL
    rw [List.getElem?_map, List.getElem?_eq_getElem hi]
    rfl
  · rw [erase_map]; exact h
end
end AL
namespace AL
open PySem PySem.Spec PyProof.Rows L2
variable {B : Bs}
section
variable {X : Cx} {K : PySem.W.Frag}
def revS (z : Str) : Str := ⟨((PySem.Builtin.Str.strSliceIndices none none (-1) z.length).filterMap (z.cps[·]?)).toArray⟩
theorem revS_toList (z : Str) : (revS z).cps.toList = z.cps.toList.reverse := by
  unfold revS
  rw [List.toList_toArray, PyProof.Rows.picked_rev, PyProof.Rows.filterMap_get]
  · rw [List.map_map]
    refine List.ext_getElem (by simp [Str.length]) fun i h1 h2 => ?_
    have hi : i < z.cps.size := by simpa [Str.length] using h1
    simp only [List.getElem_map, List.getElem_range, Function.comp, List.getElem_reverse, Array.getElem_toList, Array.length_toList]
    have hj : z.length - 1 - i < z.cps.size := by show z.cps.size - 1 - i < _; omega
    rw [Array.getD, dif_pos hj]
    rfl
  · intro i hi
    obtain ⟨k, hk, rfl⟩ := List.mem_map.mp hi
    have hk' : k < z.length := List.mem_range.mp hk
    show z.length - 1 - k < z.length
    omega
theorem revS_len (z : Str) : (revS z).length = z.length := by rw [← len_toList, revS_toList, List.length_reverse, len_toList]
def tRevS (te : TE) : TE := fun σ H Q => te σ H fun x H1 => ∃ z, x = .str z ∧ z.length ≤ sizeLine ∧ Q (.str (revS z)) H1
theorem pe_revS {e : Expr} {te : TE} {k : Nat} {p1 p2 p3 pos : Pos} (he : PE X e te) : PE X (.Subscript e (.Slice none none (some (.UnaryOp .USub (.Constant (.int 1) k p1) p2)) p3) pos) (tRevS te) := by
  refine ⟨fun pins s σ H Q I h => ?_⟩
  refine Subscript_ (thn (he.run pins s σ H _ I h) fun v s1 ⟨x, H1, I1, r1, q1⟩ => ?_)
  obtain ⟨z, ex, hz, q⟩ := q1
  subst ex
  obtain ⟨t, rfl⟩ := r1
  have hst : PO X (some (.UnaryOp .USub (.Constant (.int 1) k p1) p2)) (tPart (tUn (rU fun i => .int (-i)) (tC (.int 1)))) := po_some (pe_un un_neg pe_int)
  refine wpAny_Slice (thn (po_none.run pins s1 σ H1 (fun o H2 => o = none ∧ H2 = H1) I1 ⟨rfl, rfl⟩) fun vl s2 ⟨l, H2, I2, pl, el, e2⟩ => ?_)
  subst el e2
  refine thn (po_none.run pins s2 σ H2 (fun o H3 => o = none ∧ H3 = H2) I2 ⟨rfl, rfl⟩) fun vu s3 ⟨u, H3, I3, pu, eu, e3⟩ => ?_
  subst eu e3
  refine thn (hst.run pins s3 σ H3 (fun o H4 => o = some (-1) ∧ H4 = H3) I3 ⟨1, rfl, -1, rfl, rfl, rfl⟩) fun vs s4 ⟨o, H4, I4, ps, eo, e4⟩ => ?_
  subst eo e4
  have I5 : Inv X pins σ H4 { s4 with heap := s4.heap.push { cls := .type "slice", data := .fields #[vl, vu, vs] } } := I4.kept (t' := s4.toks) fun b ob q => Heap.get?_push_of_some _ q
  obtain ⟨l, rfl, e1⟩ := IsPart.raw pl
  obtain ⟨u, rfl, e2⟩ := IsPart.raw pu
  obtain ⟨w, rfl, e3⟩ := IsPart.raw ps
  show wpAny (model X.prog X.w) X.A (subscriptTail e (.Slice none none (some (.UnaryOp .USub (.Constant (.int 1) k p1) p2)) p3) (.str z t) (.ref s4.heap.objs.size)) (EP X pins σ Q) X.xe { s4 with heap := s4.heap.push { cls := .type "slice", data := .fields #[partValue l, partValue u, partValue w] } }
  refine tail_any (ops := [.str z t, .ref s4.heap.objs.size]) (typeIs_str _ _ _) (PySem.F.slot_str_getitem.lookup) ?_ (by with_unfolding_all rfl)
  refine wpAny_getItem_str_slice (l := l) (u := u) (st := w) ⟨_, Heap.get?_push_size _ rfl, rfl, rfl⟩ ?_ ?_
  · rw [e3]; rfl
  · have hl : (revS z).length ≤ sizeLine := by rw [revS_len]; exact hz
    unfold sliceMade slicePicked
    rw [e1, e2, e3]
    rw [if_neg (by simp)]
    exact ⟨hl, .str _, H4, I5.tok _, ⟨_, rfl⟩, q⟩
def aRevS : D → AH → (D → AH → Prop) → Prop := fun x C P => match x with | .str z => z.length ≤ sizeLine ∧ P (.str (revS z)) C | _ => False
theorem ae_revS {pos : Pos} {e : Expr} {te : TE} {a : AE'} {k : Nat} {p1 p2 p3 : Pos} (he : AE B X e te a) : AE B X (.Subscript e (.Slice none none (some (.UnaryOp .USub (.Constant (.int 1) k p1) p2)) p3) pos) (tRevS te) (aUn aRevS a) :=
  ⟨pe_revS he.pe, by
  intro σ s F C R H Q P hs hS h0 k
  refine he.sim σ s F C R H _ _ hs hS h0 fun x v F1 C1 H1 e1 S1 r1 h1 => ?_
  unfold aRevS at h1
  split at h1
  · cases r1
    exact ⟨_, rfl, h1.1, k _ _ F1 C1 H1 e1 S1 (.str _) h1.2⟩
  · exact h1.elim⟩
end
end AL
namespace AL
open PySem PySem.Spec PyProof.Rows L2
variable {B : Bs}
section
variable {X : Cx} {K : PySem.W.Frag}
variable {C : AH} {P : D → AH → Prop}
theorem g_revS {z : Str} (h1 : z.length ≤ sizeLine) (h : P (.str (revS z)) C) : aRevS (.str z) C P := ⟨h1, h⟩
end
end AL
namespace AL
open PySem PySem.Spec PyProof.Rows L2
end AL
namespace AL
open PySem PySem.Spec PyProof.Rows L2
end AL
namespace AL
open PySem
def Keep (C C' : AH) : Prop := ∀ r c, C r = some c → C' r = some c
theorem Keep.refl (C : AH) : Keep C C := fun _ _ h => h
theorem Keep.trans {C C1 C2 : AH} (a : Keep C C1) (b : Keep C1 C2) : Keep C C2 := fun r c h => b r c (a r c h)
theorem Keep.put {C C' : AH} {q : Addr} {c : Cell} (h : Keep C C') (hq : C q = none) : Keep C (AL.put C' q c) := fun r d e => by rw [put_ne (ne_cell e hq)]; exact h r d e
theorem Keep.del {C C' : AH} {q : Addr} (h : Keep C C') (hq : C q = none) : Keep C (AL.del C' q) := fun r d e => by
  unfold AL.del
  rw [if_neg (ne_cell e hq)]
  exact h r d e
theorem Keep.none {C C' : AH} {q : Addr} (h : Keep C C') (hq : C' q = Option.none) : C q = Option.none := by
  cases e : C q with
  | none => rfl
  | some c => rw [h q c e] at hq; cases hq
/-- all but p -/
def Oth (p : Addr) (C C' : AH) : Prop := ∀ r c, r ≠ p → C r = some c → C' r = some c
theorem Oth.refl (p : Addr) (C : AH) : Oth p C C := fun _ _ _ h => h
theorem Oth.trans {p : Addr} {C C1 C2 : AH} (a : Oth p C C1) (b : Oth p C1 C2) : Oth p C C2 := fun r c n h => b r c n (a r c n h)
theorem Oth.of {p : Addr} {C C' : AH} (a : Keep C C') : Oth p C C' := fun r c _ h => a r c h
theorem Oth.pen {p : Addr} {C C' : AH} {c : Cell} (h : Oth p C C') : Oth p C (AL.put C' p c) := fun r d n e => by rw [put_ne n]; exact h r d n e
theorem Oth.put {p q : Addr} {C C' : AH} {c : Cell} (h : Oth p C C') (hq : C q = none) : Oth p C (AL.put C' q c) := fun r d n e => by rw [put_ne (ne_cell e hq)]; exact h r d n e
theorem Oth.del {p q : Addr} {C C' : AH} (h : Oth p C C') (hq : C q = none) : Oth p C (AL.del C' q) := fun r d n e => by
  unfold AL.del
  rw [if_neg (ne_cell e hq)]
  exact h r d n e
theorem Oth.none {p q : Addr} {C C' : AH} (h : Oth p C C') (hn : q ≠ p) (hq : C' q = Option.none) : C q = Option.none := by
  cases e : C q with
  | none => rfl
  | some c => rw [h q c hn e] at hq; cases hq
theorem zipD_inv {xs ys : List D} {i : Nat} {d : D} (h : (zipD xs ys)[i]? = some d) : ∃ x y, xs[i]? = some x ∧ ys[i]? = some y ∧ d = .tup [x, y] := by
  unfold zipD at h
  rw [List.getElem?_map] at h
  cases e : (xs.zip ys)[i]? with
  | none => rw [e] at h; cases h
  | some p =>
    rw [e] at h
    cases h
    obtain ⟨h1, h2⟩ := List.getElem?_zip_eq_some.mp (show (xs.zip ys)[i]? = some (p.1, p.2) from e)
    exact ⟨p.1, p.2, h1, h2, rfl⟩
end AL
namespace AL
open PySem PySem.Spec PyProof.Rows L2
section
variable {P : Program} {w : World} {K : PySem.W.Frag} {mg mb : Str → Option Value} {k : Nat} {fa a : Addr} {fd : FuncData} {x : Str} {sp : Sp} {s₁ : Shared} {vs : List Value} {ns : List Int}
theorem core_G (hns : s₁.heap.Ns mainGlobals mg) (hb : s₁.heap.Ns builtinsNs mb) (hbb : ∀ x : Str, x ≠ "__name__" → mb x = bootBuiltins x) (hlim : s₁.heap.NoLimit) (hg : s₁.gens = #[]) (KX : K.In s₁.heap)
    (ha : s₁.heap.get? a = some { cls := .type "list", data := .seq vs.toArray }) (hr : Room k callerA)
    (F : ∀ base : Heap, K.In base → base.Ns mainGlobals mg → FnG P w K mg base k fa fd [x] sp) (hbind : ∀ (s : Shared) (u : Value), BindsTo s fd ⟨[u], []⟩ [(x, u)])
    {H : Hp} (hO : Only H) (hsp : sp [.ref a] H (fun v _ => v = .bl true) fun _ _ _ => False) (hok : HOk P w H s₁.heap) (hA : ∀ b, H b ≠ none → b = a) (hK : H a ≠ none → K.lookup a = none) :
    codeAny (model P w) callerA (.call (.ref fa) ⟨[.ref a], []⟩) (fun r s' => r = .ok (.ret (.bool true)) ∧ OldK s₁.heap s'.heap ∧ s'.os = s₁.os ∧ AllBare s'.gens) s₁ := by
  have free : ∀ {b : Addr} {o : Obj}, s₁.heap.get? b = some o → (b = a → False) → H b = none := fun {b o} e n => by
    cases q : H b with
    | none => rfl
    | some u => exact (n (hA b (by rw [q]; simp))).elim
  have dictFree : ∀ {b : Addr} {m : Str → Option Value}, s₁.heap.Ns b m → (hidT s₁.heap H).Ns b m := by
    rintro b m ⟨o, es, ep, e, d, r⟩
    refine ⟨o, es, ep, hidT_get e (free e fun z => ?_), d, r⟩
    subst z
    rw [ha] at e
    cases e
    cases (show Data.seq vs.toArray _ = Data.dict es ep from d)
  have kin : K.In (hidT s₁.heap H) := fun b o e => hidT_get (KX b o e) (by
    cases q : H b with
    | none => rfl
    | some u =>
      have z : b = a := hA b (by rw [q]; simp)
      subst z
      rw [hK (by rw [q]; simp)] at e
      cases e)
  obtain ⟨mc, l1, l2⟩ := hlim
  have md : Mod K mg (hidT s₁.heap H) := ⟨kin, dictFree hns, ⟨mb, dictFree hb, hbb⟩, ⟨mc, dictFree l1, l2⟩⟩
  have e0 : Env0 P w K mg (hidT s₁.heap H) callerA [] s₁ H :=
    { frames := rfl, mod := md, bs := fun b o e => of_hidT e, bsz := Nat.le_of_eq (hidT_size _ _), funs := trivial, frf := fun b z => (by cases z), hok := hok, bare := .of_eq hg }
  refine codeAny_mono ((F _ kin (dictFree hns)).run callerA [] s₁ H ⟨[.ref a], []⟩ [.ref a] [.ref a] _ _ hr rfl e0 (hbind s₁ (.ref a)) (.cons rfl .nil) hsp) fun res s2 z => ?_
  match res, z with
  | .error e, z =>
    obtain ⟨_, _, _, _, _, _, _, _, _, _, _, _, z⟩ := z
    exact z.elim
  | .ok .next, z => exact False.elim z
  | .ok .brk, z => exact False.elim z
  | .ok .cont, z => exact False.elim z
  | .ok (.ret u), z =>
    obtain ⟨v, H2, os, bare, un, hok2, r, q⟩ := z
    cases (show v = .bl true from q)
    obtain rfl : u = Value.bool true := r
    refine ⟨rfl, OldK.of_keep fun b o e => ?_, os, bare⟩
    rcases hO b with z | ⟨ob, xs, z⟩
    · exact un.keep b o e z (by intro y; cases y) (by simp)
    · have e1 := (hok b _ z).1
      have e2 := (hok2 b _ (un.frzs b ob _ z)).1
      rw [e] at e1
      cases e1
      exact e2
theorem law_G (KX : K.In s₁.heap) (hns : s₁.heap.Ns mainGlobals mg) (hb : s₁.heap.Ns builtinsNs mb) (hbb : ∀ x : Str, x ≠ "__name__" → mb x = bootBuiltins x) (hlim : s₁.heap.NoLimit) (hg : s₁.gens = #[])
    (ha : s₁.heap.get? a = some { cls := .type "list", data := .seq vs.toArray }) (hi : IntsAre vs ns) (hl : ns.length ≤ sizeLine) (hr : Room k callerA)
    (F : ∀ base : Heap, K.In base → base.Ns mainGlobals mg → FnG P w K mg base k fa fd [x] sp) (hbind : ∀ (s : Shared) (u : Value), BindsTo s fd ⟨[u], []⟩ [(x, u)])
    (hsp : ∀ H : Hp, Only H → SqL K H a (ns.map V.int) → sp [.ref a] H (fun v _ => v = .bl true) fun _ _ _ => False) :
    codeAny (model P w) callerA (.call (.ref fa) ⟨[.ref a], []⟩) (fun r s' => r = .ok (.ret (.bool true)) ∧ OldK s₁.heap s'.heap ∧ s'.os = s₁.os ∧ AllBare s'.gens) s₁ := by
  have go := fun {H : Hp} (hO : Only H) (hS : SqL K H a (ns.map V.int)) => core_G hns hb hbb hlim hg KX ha hr F hbind hO (hsp H hO hS)
  cases hk : K.lookup a with
  | some o =>
    have e := KX a o hk
    rw [ha] at e
    cases e
    refine go (H := fun _ => none) (fun _ => .inl rfl) (.inr ⟨_, vs.toArray, _, hk, rfl, rfl, rfl, ?_, ?_⟩) (fun b u z => ?_) (fun b z => (z rfl).elim) fun z => (z rfl).elim
    · rw [List.size_toArray, hi.length]; exact hl
    · simpa using vals_ints hi
    · cases (show (none : Option HO) = some u from z)
  | none =>
    let oL : Obj := { cls := .type "list", data := .seq vs.toArray }
    let H0 : Hp := fun b => if b = a then some (.frz oL (.lst (ns.map V.int))) else none
    have at_a : H0 a = some (.frz oL (.lst (ns.map V.int))) := if_pos rfl
    have off : ∀ b, b ≠ a → H0 b = none := fun b n => if_neg n
    refine go (H := H0) (fun b => ?_) (.inl (.inr ⟨oL, at_a⟩)) (fun b u z => ?_) (fun b z => ?_) fun _ => hk
    · by_cases n : b = a
      · rw [n]; exact .inr ⟨_, _, at_a⟩
      · exact .inl (off b n)
    · by_cases n : b = a
      · subst n
        rw [at_a] at z
        cases z
        exact ⟨ha, by rw [List.length_map]; exact hl, vs, _, vals_ints hi, ha⟩
      · rw [off b n] at z; cases z
    · by_cases n : b = a
      · exact n
      · exact (z (off b n)).elim
end
theorem walk_G {l : PySem.W.OpenLaw} {n k : Nat} {q : Program} {loose : List Str} {XP : (Str → Option Value) → Heap → Prop} {YP : World → Heap → Prop} {d : DefRec} {K : Params → PySem.W.Frag} {sp : World → (Str → Option Value) → Sp} {x : Str}
    (hn : l.most = some n) (hn2 : n ≤ sizeLine) (hdf : d.params.defaults = []) (hr : Room k callerA) (hY : ∀ (w : World) (h : Heap), YP w h → (K w.params).In h)
    (F : ∀ (w : World) (mg : Str → Option Value) (fa : Addr) (h : Heap), (K w.params).In h → h.Ns mainGlobals mg → mg d.name = some (.ref fa) →
      ∃ fd : FuncData, (∀ (s : Shared) (u : Value), BindsTo s fd ⟨[u], []⟩ [(x, u)]) ∧ ∀ base : Heap, (K w.params).In base → base.Ns mainGlobals mg → FnG l.prog w (K w.params) mg base k fa fd [x] (sp w mg))
    (hsp : ∀ (w : World) (mg : Str → Option Value) (H : Hp) (a : Addr) (ns : List Int), ns.length ≤ n → Only H → SqL (K w.params) H a (ns.map V.int) → sp w mg [.ref a] H (fun v _ => v = .bl true) fun _ _ _ => False) :
    PySem.W.WalkO q loose XP YP l.row.toRowW d [] (fun f vs => PySem.call f vs) :=
  Att.attach_call hn hdf fun w s₀ s₁ mg mb fa o pm cd doc a vs ns G Y ho hd hcd hmg hobj hints hlen hg => by
    obtain ⟨fd, hb, hF⟩ := F w mg fa _ (hY w _ Y) G.T.g hmg
    exact law_G (hY w _ Y) G.T.g G.T.b G.T.builtins G.T.nolimit hg hobj hints (Nat.le_trans hlen hn2) hr hF hb fun H hO hS => hsp w mg H a ns hlen hO hS
end AL
namespace AL
open PySem PySem.Spec PyProof.Rows L2
end AL
namespace AL
open PySem PySem.Spec PyProof.Rows L2
variable {B : Bs}
mutual
def D.pe : D → Option PyData
  | .non => some .none
  | .bl b => some (.bool b)
  | .int i => some (.int i)
  | .str x => some (.str x)
  | .lst ds => (peL ds).map .list
  | .tup ds => (peL ds).map .tuple
  | .dk es => (peK es).map .dict
  | _ => none
def peL : List D → Option (List PyData)
  | [] => some []
  | d :: ds => match D.pe d, peL ds with | some x, some xs => some (x :: xs) | _, _ => none
def peK : List (Key × D) → Option (List (PyData × PyData))
  | [] => some []
  | (k, d) :: es => match D.pe d, peK es with | some x, some xs => some ((match k with | .inl i => PyData.int i | .inr z => PyData.str z, x) :: xs) | _, _ => none
end
section
variable {X : Cx} {K : PySem.W.Frag} {pins : List (Addr × Obj)} {σ : L2.St} {H F : Hp} {s : Shared}
/-- shown, one way or another -/
def Shw (X : Cx) (h : Heap) (u : Value) (x : PyData) : Prop := (∃ as, Reads h u x as) ∧ ∃ bs, ReadAtMost h x.depth bs ∧ ReprK X.prog X.w bs h x.depth u x.shown
def ShwL (X : Cx) (h : Heap) (us : List Value) (xs : List PyData) : Prop := (∃ as, ReadsAll h us xs as) ∧ ∃ bs, ReadAtMost h (PyData.depthAll xs) bs ∧ ReprAllK X.prog X.w bs h (PyData.depthAll xs) us (PyData.shownAll xs)
theorem ShwL.nil {h : Heap} : ShwL X h [] [] := ⟨⟨_, .nil⟩, [], fun _ z => (by cases z), by simp only [PyData.shownAll]; exact .nil⟩
theorem ShwL.cons {h : Heap} {u : Value} {us : List Value} {x : PyData} {xs : List PyData} (a : Shw X h u x) (b : ShwL X h us xs) : ShwL X h (u :: us) (x :: xs) := by
  obtain ⟨⟨_, r1⟩, b1, m1, k1⟩ := a
  obtain ⟨⟨_, r2⟩, b2, m2, k2⟩ := b
  have ed : PyData.depthAll (x :: xs) = max x.depth (PyData.depthAll xs) := by simp only [PyData.depthAll]
  refine ⟨⟨_, .cons r1 r2⟩, b1 ++ b2, ?_, ?_⟩
  · rw [ed]
    exact (m1.mono (Nat.le_max_left _ _)).append (m2.mono (Nat.le_max_right _ _))
  · rw [ed]
    simp only [PyData.shownAll]
    exact .cons ((k1.more fun z hz => List.mem_append_left _ hz).level_le (Nat.le_max_left _ _)) (k2.more_le (fun z hz => List.mem_append_right _ hz) (Nat.le_max_right _ _))
end
def blkKey : Key → Nat
  | .inl _ => 0
  | .inr x => x.length
mutual
def blk : D → Nat
  | .str x => x.length
  | .lst ds => blks ds
  | .tup ds => blks ds
  | .dk es => blkk es
  | _ => 0
def blks : List D → Nat
  | [] => 0
  | d :: ds => blk d + 1 + blks ds
def blkk : List (Key × D) → Nat
  | [] => 0
  | (k, d) :: es => blkKey k + blk d + 2 + blkk es
end
section
variable {X : Cx} {K : PySem.W.Frag}
/-- x is True -/
def aIsB (neg : Bool) : D → D → AH → (D → AH → Prop) → Prop := fun x y C P => match x, y with | .bl a, .bl b => P (.bl (if neg then !decide (a = b) else decide (a = b))) C | _, _ => False
abbrev aIsBl := aIsB false
abbrev aNotBl := aIsB true
theorem ao_isB : AOp B X (compareOp .Is) rIsB aIsBl := ⟨op_isBl, by
  intro v w d e F C R H Q P hS r1 r2 h k
  unfold aIsBl aIsB at h
  split at h
  · cases r1; cases r2
    exact ⟨_, _, rfl, rfl, k _ _ F C H (Ex.refl F) hS (.bl _) h⟩
  · exact h.elim⟩
theorem ao_isnotB : AOp B X (compareOp .IsNot) rNotB aNotBl := ⟨op_notBl, by
  intro v w d e F C R H Q P hS r1 r2 h k
  unfold aNotBl aIsB at h
  split at h
  · cases r1; cases r2
    exact ⟨_, _, rfl, rfl, k _ _ F C H (Ex.refl F) hS (.bl _) h⟩
  · exact h.elim⟩
def aDict0F : AE' := fun _ C P => P (.dk []) C
theorem ae_dict0F {pos : Pos} : AE B X (.Dict [] [] pos) tDNewK aDict0F := ⟨pe_dnewK, fun σ s F C R H Q P hs hS h k p hp => by
  have eN := Ex.new (o := .dK []) (hS.freeF hp)
  exact k _ _ _ C _ eN (hS.newF hp _) (.dk upd_same .nil) h⟩
end
end AL
namespace AL
open PySem PySem.Spec PyProof.Rows L2
end AL
namespace AL
open PySem PySem.Spec PyProof.Rows L2
variable {B : Bs}
section
variable {X : Cx} {K : PySem.W.Frag}
def timesL (x : Str) (n : Nat) : Str := ⟨(List.replicate n x.cps).foldl (· ++ ·) #[]⟩
theorem timesF_toList (l : List (Array Nat)) : ∀ acc : Array Nat, (l.foldl (· ++ ·) acc).toList = acc.toList ++ (l.map Array.toList).flatten := by
  induction l with
  | nil => intro acc; simp
  | cons a l ih => intro acc; simp [ih]
theorem timesL_toList (x : Str) (n : Nat) : (timesL x n).cps.toList = (List.replicate n x.cps.toList).flatten := by
  unfold timesL
  rw [timesF_toList]
  simp
theorem timesL_len (x : Str) (n : Nat) : (timesL x n).length = n * x.length := by
  show (timesL x n).cps.size = _
  rw [← Array.length_toList, timesL_toList, List.length_flatten, List.map_replicate]
  simp
  rfl
theorem timesL_one (x : Str) : timesL x 1 = x := by
  have : (timesL x 1).cps.toList = x.cps.toList := by rw [timesL_toList]; simp
  cases x with
  | mk c =>
    have := Array.toList_inj.mp this
    show Str.mk _ = _
    exact congrArg Str.mk this
def rMulS : R2 := fun x y H Q => ∃ z n, x = .str z ∧ y = .int n ∧ -1000000 ≤ n ∧ n ≤ 1000000 ∧ z.length * n.toNat ≤ 16000000 ∧ Q (.str (timesL z n.toNat)) H
theorem op_mulS : OpR X (binaryOp .Mult) rMulS := by
  intro pins s σ H x y v u Q I rx ry h
  obtain ⟨z, n, rfl, rfl, h1, h2, h3, q⟩ := h
  obtain ⟨t, rfl⟩ := rx
  obtain ⟨t2, rfl⟩ := ry
  have fin : ∀ (tk t3 : Tok) (y : Str), y = timesL z n.toNat → EP X pins σ Q (.str y t3) { s with toks := tk } := fun tk t3 y e => ⟨.str _, H, I.tok _, ⟨_, rfl⟩, by rw [e]; exact q⟩
  refine P.mul_str ?_ (fun a _ => ?_) (fun a _ => ?_) ?_
  · rw [decide_eq_false (by omega), decide_eq_false (by omega)]; rfl
  · have hl : z.length ≤ z.length * n.toNat := Nat.le_mul_of_pos_right _ (by omega)
    have e : (2 ^ 63 - 1) / (1000000 : Int) ≤ (2 ^ 63 - 1) / n := by
      refine (Int.le_ediv_iff_mul_le (by omega)).mpr ?_
      have : (2 ^ 63 - 1) / (1000000 : Int) * n ≤ (2 ^ 63 - 1) / (1000000 : Int) * 1000000 := Int.mul_le_mul_of_nonneg_left h2 (by decide)
      have : (2 ^ 63 - 1) / (1000000 : Int) * 1000000 ≤ 2 ^ 63 - 1 := by decide
      omega
    have e2 : (16000000 : Int) ≤ (2 ^ 63 - 1) / (1000000 : Int) := by decide
    omega
  · unfold Builtin.Str.tooLong
    rw [decide_eq_false_iff_not, sizeLine_eq]
    omega
  · split
    · rename_i a
      refine ⟨by decide, fin _ _ _ ?_⟩
      rw [show n.toNat = 0 by omega]
      rfl
    · rename_i a
      split
      · rename_i b
        refine fin _ _ _ ?_
        simp only [Bool.or_eq_true, beq_iff_eq] at b
        rcases b with b | b
        · subst b; exact (timesL_one z).symm
        · have e : (timesL z n.toNat).length = 0 := by rw [timesL_len, b, Nat.mul_zero]
          cases z with
          | mk c =>
            have c0 : c = #[] := Array.eq_empty_of_size_eq_zero b
            have d0 : (timesL ⟨c⟩ n.toNat).cps = #[] := Array.eq_empty_of_size_eq_zero e
            show Str.mk c = timesL ⟨c⟩ n.toNat
            rw [c0] at d0 ⊢
            exact congrArg Str.mk d0.symm
      · refine ⟨?_, fin _ _ _ rfl⟩
        show (timesL z n.toNat).length ≤ sizeLine
        rw [timesL_len, sizeLine_eq, Nat.mul_comm]
        omega
def aMulS : D → D → AH → (D → AH → Prop) → Prop := fun x y C P => match x, y with
  | .str z, .int n => -1000000 ≤ n ∧ n ≤ 1000000 ∧ z.length * n.toNat ≤ 16000000 ∧ P (.str (timesL z n.toNat)) C
  | _, _ => False
theorem ao_mulS : AOp B X (binaryOp .Mult) rMulS aMulS := ⟨op_mulS, by
  intro v w d e F C R H Q P hS r1 r2 h k
  unfold aMulS at h
  split at h
  · cases r1; cases r2
    exact ⟨_, _, rfl, rfl, h.1, h.2.1, h.2.2.1, k _ _ F C H (Ex.refl F) hS (.str _) h.2.2.2⟩
  · exact h.elim⟩
theorem g_mulS {C : AH} {P : D → AH → Prop} {z : Str} {n : Nat} (h1 : n ≤ 1000000) (h2 : z.length * n ≤ 16000000) (h : P (.str (timesL z n)) C) : aMulS (.str z) (.int n) C P := ⟨by omega, by omega, h2, h⟩
end
end AL
namespace AL
open PySem PySem.Spec PyProof.Rows L2
variable {B : Bs}
inductive Src where
  | ls (a : Addr) | tp (a : Addr) | tx (z : Str)
def Src.holds (K : PySem.W.Frag) (H : Hp) : Src → List V → Prop
  | .ls a, xs => SqL K H a xs
  | .tp a, xs => SqT K H a xs
  | .tx z, xs => xs = signsV z
def Src.v : Src → V
  | .ls a => .ref a
  | .tp a => .ref a
  | .tx z => .str z
/-- the iterator at it, i items taken -/
def Src.iter (h : Heap) (it : Addr) (i : Nat) : Src → Prop
  | .ls a => h.IsListIter it a i
  | .tp a => h.IsTupleIter it a i
  | .tx z => ∃ t, h.IsStrIter it (strIterType z) z t i
def Src.ref : Src → Option Addr
  | .ls a => some a
  | .tp a => some a
  | .tx _ => none
theorem Src.iter_at {h h' : Heap} {it : Addr} {i : Nat} : ∀ {x : Src}, x.iter h it i → (∀ o, h.get? it = some o → h'.get? it = some o) → x.iter h' it i
  | .ls a, st, k => st.at k
  | .tp a, st, k => st.at k
  | .tx z, ⟨t, o, e, c, d⟩, k => ⟨t, o, k _ e, c, d⟩
theorem Src.iter_obj {h : Heap} {it : Addr} {i : Nat} : ∀ {x : Src}, x.iter h it i → ∃ o, h.get? it = some o ∧ ∀ v, o.data ≠ .cell v
  | .ls a, ⟨o, e, _, d⟩ => ⟨o, e, fun v q => by rw [d] at q; cases q⟩
  | .tp a, ⟨o, e, _, d⟩ => ⟨o, e, fun v q => by rw [d] at q; cases q⟩
  | .tx z, ⟨t, o, e, _, d⟩ => ⟨o, e, fun v q => by rw [d] at q; cases q⟩
section
variable {X : Cx} {pins : List (Addr × Obj)} {σ : L2.St} {H : Hp} {s : Shared}
theorem vals_back : ∀ {xs : List V} {us : List Value} {i : Nat} {u : Value}, Vals xs us → us[i]? = some u → ∃ x, xs[i]? = some x ∧ RelV x u
  | _, _, _, _, .nil, e => by simp at e
  | _, _, 0, _, .cons r _, e => by simp at e; subst e; exact ⟨_, rfl, r⟩
  | _, _, i + 1, u, .cons _ t, e => by
    obtain ⟨x, h1, h2⟩ := vals_back (i := i) (u := u) t (by simpa using e)
    exact ⟨x, by simpa using h1, h2⟩
theorem Src.inj (I : Inv X pins σ H s) : ∀ {x : Src} {xs ys : List V}, x.holds X.K H xs → x.holds X.K H ys → xs = ys
  | .ls a, _, _, h, g => I.list_inj h g
  | .tp a, _, _, h, g => I.tuple_inj h g
  | .tx z, _, _, h, g => h.trans g.symm
/-- one step's draws -/
structure Drw (X : Cx) (A : Around) (x : Src) (xs : List V) (it : Addr) (fp : List Addr) (P : Nat → Value → Prop) (St : Nat → Heap → Prop) : Prop where
  D : Draws X.prog X.w A it fp xs.length P St
  val : ∀ i u, P i u → ∃ v, xs[i]? = some v ∧ RelV v u
  back : ∀ i h, St i h → x.iter h it i
  mem : it ∈ fp
  low : ∀ h i, St i h → ∀ b ∈ fp, b < h.objs.size
  sub : ∀ b ∈ fp, b = it ∨ x.ref = some b
theorem Src.drw (I : Inv X pins σ H s) {A : Around} (hh : A.handled = none) {it : Addr} {i : Nat} : ∀ {x : Src} {xs : List V}, x.holds X.K H xs → x.iter s.heap it i → x.ref ≠ some it → ∃ fp P St, Drw X A x xs it fp P St ∧ St i s.heap
  | .ls a, xs, h, st, hn => by
    obtain ⟨its, rv, p, _⟩ := I.list h
    have l := rv.length
    have hne : a ≠ it := fun z => hn (by rw [z]; rfl)
    have D := Draws.list (prog := X.prog) (w := X.w) hh it a hne its.toArray
    rw [show its.toArray.size = xs.length by simpa using l.symm] at D
    refine ⟨_, _, _, ⟨D, fun j u hu => ?_, fun j h st => st.1, by simp, fun h j st b hb => ?_, fun b hb => ?_⟩, st, p.isList⟩
    · obtain ⟨v, h1, h2⟩ := vals_back rv (by simpa using hu)
      exact ⟨v, h1, h2⟩
    · have e : b = it ∨ b = a := by simpa using hb
      obtain ⟨⟨o, e1, _⟩, ⟨o2, e2, _⟩⟩ := st
      rcases e with z | z
      · rw [z]; exact Heap.lt_size e1
      · rw [z]; exact Heap.lt_size e2
    · have e : b = it ∨ b = a := by simpa using hb
      exact e.imp id fun z => by rw [z]; rfl
  | .tp a, xs, h, st, hn => by
    obtain ⟨its, rv, p, _⟩ := I.tuple h
    have l := rv.length
    have hne : a ≠ it := fun z => hn (by rw [z]; rfl)
    have D := Draws.tuple (prog := X.prog) (w := X.w) hh it a hne its.toArray
    rw [show its.toArray.size = xs.length by simpa using l.symm] at D
    refine ⟨_, _, _, ⟨D, fun j u hu => ?_, fun j h st => st.1, by simp, fun h j st b hb => ?_, fun b hb => ?_⟩, st, p⟩
    · obtain ⟨v, h1, h2⟩ := vals_back rv (by simpa using hu)
      exact ⟨v, h1, h2⟩
    · have e : b = it ∨ b = a := by simpa using hb
      obtain ⟨⟨o, e1, _⟩, ⟨o2, e2, _⟩⟩ := st
      rcases e with z | z
      · rw [z]; exact Heap.lt_size e1
      · rw [z]; exact Heap.lt_size e2
    · have e : b = it ∨ b = a := by simpa using hb
      exact e.imp id fun z => by rw [z]; rfl
  | .tx z, xs, h, ⟨t, st⟩, hn => by
    have h : xs = signsV z := h
    have D := Draws.text (prog := X.prog) (w := X.w) hh it z t
    have l : xs.length = z.cps.size := by rw [h]; unfold signsV; rw [List.length_map, Array.length_toList]
    rw [← l] at D
    refine ⟨_, _, _, ⟨D, fun j u hu => ?_, fun j h st => ⟨t, st⟩, by simp, fun h j st b hb => ?_, fun b hb => .inl (by simpa using hb)⟩, st⟩
    · obtain ⟨c, t2, hc, rfl⟩ := hu
      refine ⟨.str ⟨#[c]⟩, ?_, t2, rfl⟩
      rw [h]
      unfold signsV
      rw [List.getElem?_map, Array.getElem?_toList, hc]
      rfl
    · have e : b = it := by simpa using hb
      obtain ⟨o, e1, _⟩ := st
      rw [e]; exact Heap.lt_size e1
def ItzG (K : PySem.W.Frag) (a b : Src) : It :=
  ⟨fun i H => ∃ (xs ys : List V) (x y : V), a.holds K H xs ∧ b.holds K H ys ∧ xs[i]? = some x ∧ ys[i]? = some y,
    fun i H v H' => ∃ T ob x y, v = .ref T ∧ ob.dict = none ∧ H T = none ∧ H' = upd H T (.frz ob (.tup [x, y])) ∧ (∀ xs, a.holds K H xs → xs[i]? = some x) ∧ ∀ ys, b.holds K H ys → ys[i]? = some y,
    fun i H => ∃ xs ys : List V, a.holds K H xs ∧ b.holds K H ys ∧ i = min xs.length ys.length⟩
structure ZApart (a b : Src) (z TI TO i1 i2 : Addr) : Prop where
  TIz : TI ≠ z
  TOz : TO ≠ z
  TITO : TI ≠ TO
  TIi1 : TI ≠ i1
  TIi2 : TI ≠ i2
  TOi1 : TO ≠ i1
  TOi2 : TO ≠ i2
  zi1 : z ≠ i1
  zi2 : z ≠ i2
  i12 : i1 ≠ i2
  ra : ∀ c ∈ [z, TI, TO, i1, i2], a.ref ≠ some c
  rb : ∀ c ∈ [z, TI, TO, i1, i2], b.ref ≠ some c
theorem sep_of {a b : Src} {z TI TO i1 i2 : Addr} {fp1 fp2 : List Addr} (Z : ZApart a b z TI TO i1 i2) (m1 : i1 ∈ fp1) (m2 : i2 ∈ fp2) (s1 : ∀ c ∈ fp1, c = i1 ∨ a.ref = some c) (s2 : ∀ c ∈ fp2, c = i2 ∨ b.ref = some c) : ZipSep2 z TI TO i1 i2 fp1 fp2 :=
  { TIz := Z.TIz, TOz := Z.TOz, TITO := Z.TITO, TIi1 := Z.TIi1, mem1 := m1, TIi2 := Z.TIi2, mem2 := m2,
    zf1 := fun h => (s1 _ h).elim Z.zi1 (Z.ra z (by simp)), Tf1 := fun h => (s1 _ h).elim Z.TOi1 (Z.ra TO (by simp)),
    zf2 := fun h => (s2 _ h).elim Z.zi2 (Z.rb z (by simp)), Tf2 := fun h => (s2 _ h).elim Z.TOi2 (Z.rb TO (by simp)),
    sep1_2 := fun h => (s2 _ h).elim Z.i12 (Z.rb i1 (by simp)), sep2_1 := fun h => (s1 _ h).elim (fun e => Z.i12 e.symm) (Z.ra i2 (by simp)) }
theorem turn_zipG {P : Program} {w : World} {K : PySem.W.Frag} {elts : List Expr} {kk : Nat} {tpos : Pos} {a b : Src} {z TI TO i1 i2 : Addr} (Z : ZApart a b z TI TO i1 i2) :
    Turn P w K (.Tuple elts kk tpos) (ItzG K a b) [z, TI, TO, i1, i2] z (fun i h => IsZip h z TI TO .none ∧ IsTupOf2 h TI (.ref i1) (.ref i2) ∧ (∃ x y, IsTupOf2 h TO x y) ∧ a.iter h i1 i ∧ b.iter h i2 i) where
  mem := by simp
  obj := fun i h st c hc => by
    obtain ⟨hz, hTI, ⟨x, y, hTO⟩, h1, h2⟩ := st
    simp only [List.mem_cons, List.not_mem_nil, or_false] at hc
    rcases hc with q | q | q | q | q <;> rw [q]
    · exact ⟨_, hz, fun v q => nomatch q⟩
    · exact ⟨_, hTI, fun v q => nomatch q⟩
    · exact ⟨_, hTO, fun v q => nomatch q⟩
    · exact Src.iter_obj h1
    · exact Src.iter_obj h2
  keep := fun i h h' st k => by
    obtain ⟨hz, hTI, ⟨x, y, hTO⟩, h1, h2⟩ := st
    exact ⟨k z (by simp) _ hz, k TI (by simp) _ hTI, ⟨x, y, k TO (by simp) _ hTO⟩, Src.iter_at h1 fun o q => k i1 (by simp) o q, Src.iter_at h2 fun o q => k i2 (by simp) o q⟩
  item := by
    intro X hP hw hK hc i pins s σ H E I hf st hg
    subst hP hw hK
    obtain ⟨hz, hTI, hTO, h1, h2⟩ := st
    obtain ⟨xs, ys, x, y, hqx, hqy, hx, hy⟩ := hg
    have hh : X.A.in1.handled = none := I.ok.hd hc
    obtain ⟨fp1, P1, St1, D1, st1⟩ := Src.drw I hh hqx h1 (Z.ra i1 (by simp))
    obtain ⟨fp2, P2, St2, D2, st2⟩ := Src.drw I hh hqy h2 (Z.rb i2 (by simp))
    have S := sep_of Z D1.mem D2.mem D1.sub D2.sub
    have lx := (List.getElem?_eq_some_iff.mp hx).1
    have ly := (List.getElem?_eq_some_iff.mp hy).1
    obtain ⟨x0, y0, hTO0⟩ := id hTO
    have lt : ∀ {c : Addr} {o : Obj}, s.heap.get? c = some o → s.heap.objs.size ≠ c := fun e => Nat.ne_of_gt (Heap.lt_size e)
    refine wpAny_pyNext_zipD2_item S D1.D D2.D hz hTI hTO0 st1 st2 (by omega) (by omega) fun u1 u2 h₁ tk p1 p2 b1 b2 d1 d2 b5 b6 hk => ?_
    refine ⟨.ref s.heap.objs.size, rfl, ?_⟩
    refine wpAny_letOwnedTupleGo_zip b1 fun h' hz' hs' => ?_
    · have hT : s.heap.objs.size ≤ s.heap.objs.size := Nat.le_refl _
      obtain ⟨v1, e1, r1⟩ := D1.val i u1 p1
      obtain ⟨v2, e2, r2⟩ := D2.val i u2 p2
      have ho := hs'.extBut _ _ (lt hz) b5
      have new : ObjOk X.prog X.w (upd H s.heap.objs.size (.frz { cls := .type "tuple", data := .seq #[u1, u2] } (.tup [v1, v2]))) h' s.heap.objs.size (.frz { cls := .type "tuple", data := .seq #[u1, u2] } (.tup [v1, v2])) := ⟨ho, by show 2 ≤ sizeLine; decide, [u1, u2], .cons r1 (.cons r2 .nil), ⟨_, ho, rfl, _, rfl⟩⟩
      have I1 : Inv X pins σ (upd H s.heap.objs.size (.frz { cls := .type "tuple", data := .seq #[u1, u2] } (.tup [v1, v2]))) { s with heap := h', toks := tk } :=
        I.turnedNew (ch := [z, TI, TO, i1, i2]) (fun c o hb q => by
          simp only [List.mem_cons, List.not_mem_nil, or_false, not_or] at hb
          exact hs'.extBut _ _ hb.1 (hk c o hb.1 hb.2.2.1 hb.2.2.2.1 hb.2.2.2.2 q)) hf hT new
      have a1 := hz'
      have a2 := hs'.extBut _ _ S.TIz (hk _ _ S.TIz S.TITO S.TIi1 S.TIi2 hTI)
      have a3 := hs'.extBut _ _ S.TOz b2
      have a4 := D1.D.over d1 hs' S.zf1
      have a5 := D2.D.over d2 hs' S.zf2
      refine ⟨.ref s.heap.objs.size, _, I1, rfl, ⟨s.heap.objs.size, _, v1, v2, rfl, rfl, I.hok.fresh hT, rfl, fun l hl => by rw [Src.inj I hl hqx]; exact e1, fun l hl => by rw [Src.inj I hl hqy]; exact e2⟩, ⟨a1, a2, ⟨_, _, a3⟩, D1.back _ _ a4, D2.back _ _ a5⟩, fun c hcm => ?_⟩
      have hlt : c < s.heap.objs.size := by
        obtain ⟨x0, y0, hTO⟩ := hTO
        simp only [List.mem_cons, List.not_mem_nil, or_false] at hcm
        rcases hcm with q | q | q | q | q <;> rw [q]
        · exact Heap.lt_size hz
        · exact Heap.lt_size hTI
        · exact Heap.lt_size hTO
        · exact D1.low _ _ st1 _ D1.mem
        · exact D2.low _ _ st2 _ D2.mem
      rw [upd_ne (Nat.ne_of_lt (Nat.lt_of_lt_of_le hlt hT))]
      exact (hf c hcm).1
  done := by
    intro X hP hw hK hc i pins s σ H E I hf st hg
    subst hP hw hK
    obtain ⟨hz, hTI, hTO, h1, h2⟩ := st
    obtain ⟨xs, ys, hqx, hqy, hend⟩ := hg
    have hh : X.A.in1.handled = none := I.ok.hd hc
    obtain ⟨fp1, P1, St1, D1, st1⟩ := Src.drw I hh hqx h1 (Z.ra i1 (by simp))
    obtain ⟨fp2, P2, St2, D2, st2⟩ := Src.drw I hh hqy h2 (Z.rb i2 (by simp))
    have G := GoesN.zip2 (elts := elts) (x1 := kk) (pos := tpos) (sep_of Z D1.mem D2.mem D1.sub D2.sub) D1.D D2.D
    subst hend
    exact G.stops s _ E ⟨hz, hTI, hTO, st1, st2⟩ fun h' tk keep _ => I.turnedL (ch := [z, TI, TO, i1, i2]) (fun c o hb q => keep c o (fun hm => hb (by simp only [List.mem_cons, List.not_mem_nil, or_false] at hm ⊢; rcases hm with q | q | q | q <;> simp [q])) q) hf
  self := fun A i s Q E st h => wpAny_pyIter_zip st.1 h
/-- how a source's iterator begins -/
theorem Src.begins (I : Inv X pins σ H s) : ∀ {x : Src} {xs : List V} {u : Value}, x.holds X.K H xs → RelV x.v u → ∃ o Hh, Begins u o Hh ∧ Hh s.heap ∧ ∀ (h : Heap) (it : Addr), h.get? it = some o → x.iter h it 0
  | .ls a, xs, u, h, r => by
    cases r
    obtain ⟨its, rv, p, _⟩ := I.list h
    exact ⟨_, _, begins_list a its.toArray, p.isList, fun h it e => ⟨_, e, rfl, rfl⟩⟩
  | .tp a, xs, u, h, r => by
    cases r
    obtain ⟨its, rv, p, _⟩ := I.tuple h
    exact ⟨_, _, begins_tuple a its.toArray, p, fun h it e => ⟨_, e, rfl, rfl⟩⟩
  | .tx z, xs, u, h, r => by
    obtain ⟨t, rfl⟩ := r
    exact ⟨_, _, begins_text z t, trivial, fun h it e => ⟨t, _, e, rfl, rfl⟩⟩
theorem Src.low (I : Inv X pins σ H s) : ∀ {x : Src} {xs : List V} {a : Addr}, x.holds X.K H xs → x.ref = some a → a < s.heap.objs.size
  | .ls a, xs, b, h, e => by
    cases e
    obtain ⟨its, rv, p, _⟩ := I.list h
    obtain ⟨o, e, _⟩ := p.isList
    exact Heap.lt_size e
  | .tp a, xs, b, h, e => by
    cases e
    obtain ⟨its, rv, ⟨o, e, _⟩, _⟩ := I.tuple h
    exact Heap.lt_size e
  | .tx z, xs, b, h, e => by cases e
def iZipG (K : PySem.W.Frag) (ta : TA) : TI := fun σ H R => ta σ H fun vs H1 => ∃ (a b : Src) (xs ys : List V), vs = [a.v, b.v] ∧ a.holds K H1 xs ∧ b.holds K H1 ys ∧ R (ItzG K a b) H1
theorem pi_zipG {e e2 : Expr} {ta : TA} {p pos tpos : Pos} {elts : List Expr} {kk : Nat} (hg : Gl X "zip") (hm : X.mg "zip" = none) (ha : PA X [e, e2] ta)
    (hs : starEach [e, e2] X.env = (false, eval e X.env) :: starEach [e2] X.env := by rfl) (hpl : (backTo pos (starEach [e2] X.env)).any (·.1) = false := by rfl) :
    PI X (.Tuple elts kk tpos) (.Call (.Name "zip" p) [e, e2] [] pos) (iZipG X.K ta) := by
  refine ⟨fun pins s σ H R I h => Call_ (ld_blt I hg hm PyProof.Rows.boot_zip (PyProof.Rows.callWith_type1 (thn (ha.run pos pins s σ H _ I h) fun us s1 ⟨vs, H1, I1, r1, q1⟩ => ?_) hs hpl))⟩
  obtain ⟨a, b, xs, ys, ex, h1, h2, q⟩ := q1
  subst ex
  cases r1 with
  | cons ra rr =>
    cases rr with
    | cons rb rr =>
      cases rr
      obtain ⟨o1, B1, b1, k1, i1⟩ := Src.begins I1 h1 ra
      obtain ⟨o2, B2, b2, k2, i2⟩ := Src.begins I1 h2 rb
      refine zip_begins2 b1 b2 k1 k2 fun h' hz hTI hTO g1 g2 hsz hk => wpAny_pyIter_zip hz ?_
      have I2 : Inv X pins σ H1 { s1 with heap := h' } := I1.kept (t' := s1.toks) hk
      have fr : ∀ c ∈ [s1.heap.objs.size + 4, s1.heap.objs.size + 2, s1.heap.objs.size + 3, s1.heap.objs.size, s1.heap.objs.size + 1], s1.heap.objs.size ≤ c := fun c hc => by
        simp only [List.mem_cons, List.not_mem_nil, or_false] at hc
        rcases hc with z | z | z | z | z <;> rw [z]
        · exact Nat.le_add_right _ _
        · exact Nat.le_add_right _ _
        · exact Nat.le_add_right _ _
        · exact Nat.le_refl _
        · exact Nat.le_add_right _ _
      have ap : ∀ {x : Src} {l : List V}, x.holds X.K H1 l → ∀ c ∈ [s1.heap.objs.size + 4, s1.heap.objs.size + 2, s1.heap.objs.size + 3, s1.heap.objs.size, s1.heap.objs.size + 1], x.ref ≠ some c := fun hx c hc z => absurd (Src.low I1 hx z) (Nat.not_lt.mpr (fr c hc))
      have ne : ∀ i j : Nat, i ≠ j → (s1.heap.objs.size + i : Nat) ≠ s1.heap.objs.size + j := fun i j h e => h (Nat.add_left_cancel e)
      refine ⟨s1.heap.objs.size + 4, [s1.heap.objs.size + 4, s1.heap.objs.size + 2, s1.heap.objs.size + 3, s1.heap.objs.size, s1.heap.objs.size + 1], _, _, H1, rfl, I2, turn_zipG (a := a) (b := b)
        { TIz := ne 2 4 (by decide), TOz := ne 3 4 (by decide), TITO := ne 2 3 (by decide), TIi1 := ne 2 0 (by decide), TIi2 := ne 2 1 (by decide), TOi1 := ne 3 0 (by decide), TOi2 := ne 3 1 (by decide), zi1 := ne 4 0 (by decide), zi2 := ne 4 1 (by decide), i12 := ne 0 1 (by decide), ra := ap h1, rb := ap h2 },
        ⟨hz, hTI, ⟨_, _, hTO⟩, i1 _ _ g1, i2 _ _ g2⟩, fun c hc => I1.fpOk (fr c hc) (I1.hok.fresh (fr c hc)), q⟩
end
end AL
namespace AL
open PySem PySem.Spec PyProof.Rows L2
variable {B : Bs}
section
variable {X : Cx} {pos : Pos} {K : PySem.W.Frag}
def srcD (C : AH) : D → Option (List D)
  | .str z => some (signs z)
  | .tup ds => some ds
  | d => asLr C d
theorem src_ok {F : Hp} {C : AH} {R H : Hp} {v : V} {d : D} {ds : List D} (hS : Sat B K F C R H) (r : Rep K F v d) (h : srcD C d = some ds) :
    ∃ a : Src, v = a.v ∧ ∀ F' C' R' H', Ex F F' → Sat B K F' C' R' H' → srcD C' d = some ds → ∃ xs, a.holds K H' xs ∧ RepL K F' xs ds := by
  cases d with
  | str z =>
    cases r
    exact ⟨.tx z, rfl, fun F' C' R' H' _ _ h' => ⟨_, rfl, by cases h'; exact signs_rep z⟩⟩
  | tup us =>
    obtain ⟨p, xs, e1, h1, h2⟩ := asT_ok hS r rfl
    refine ⟨.tp p, e1, fun F' C' R' H' e S' h' => ?_⟩
    cases h'
    obtain ⟨p', xs', e2, h3, h4⟩ := asT_ok S' (r.mono e) rfl
    rw [e1] at e2; cases e2
    exact ⟨xs', SqT.of h3, h4⟩
  | _ =>
    obtain ⟨p, xs, e1, h1, h2⟩ := asLr_ok hS r (show asLr C _ = some ds from h)
    refine ⟨.ls p, e1, fun F' C' R' H' e S' h' => ?_⟩
    obtain ⟨p', xs', e2, h3, h4⟩ := asLr_ok S' (r.mono e) (show asLr C' _ = some ds from h')
    rw [e1] at e2; cases e2
    exact ⟨xs', h3, h4⟩
def aIZG (a : AA') : AI' := fun s C P => a s C fun us C1 => match us with | [x, y] => (match srcD C1 x, srcD C1 y with | some ds, some es => P (zipD ds es) (fun C' => srcD C' x = some ds ∧ srcD C' y = some es) C1 | _, _ => False) | _ => False
theorem ai_zipG {e e2 : Expr} {elts : List Expr} {kk n : Nat} {tpos p : Pos} {ta : TA} {a : AA'} (hm : X.mg "zip" = none) (h : AA B X [e, e2] n ta a) (hg : Gl X "zip" := by rfl) (hs : starEach [e, e2] X.env = (false, eval e X.env) :: starEach [e2] X.env := by rfl) (hpl : (backTo pos (starEach [e2] X.env)).any (·.1) = false := by rfl) (hK : X.K = K := by rfl) :
    AI B X (.Tuple elts kk tpos) (.Call (.Name "zip" p) [e, e2] [] pos) (iZipG K ta) (aIZG a) := by
  subst hK
  exact ⟨pi_zipG hg hm h.pa hs hpl, by
  intro σ s F C R H Q P hs hS h0 k
  refine h.sim σ s F C R H _ _ hs hS h0 fun us vs F1 C1 H1 e1 S1 r0 hl h1 => ?_
  split at h1
  · rename_i x y
    cases r0 with
    | cons r1 r2 =>
      cases r2 with
      | cons r2 r3 =>
      cases r3
      split at h1
      · rename_i ds es q q2
        obtain ⟨a, e2, l1⟩ := src_ok S1 r1 q
        obtain ⟨b, e3, l2⟩ := src_ok S1 r2 q2
        obtain ⟨xs, g1, g2⟩ := l1 F1 C1 R H1 (Ex.refl F1) S1 q
        obtain ⟨ys, g3, g4⟩ := l2 F1 C1 R H1 (Ex.refl F1) S1 q2
        refine ⟨a, b, xs, ys, by rw [e2, e3], g1, g3, k _ _ _ F1 C1 H1 e1 S1 ⟨fun F' C' R' H' e S hc => ?_, fun F' C' R' H' i e S hc hi => ?_, fun F' C' R' H' i x H'' e S hc hi y => ?_⟩ h1⟩
        · obtain ⟨xs', h4, h5⟩ := l1 F' C' R' H' e S hc.1
          obtain ⟨ys', g4, g5⟩ := l2 F' C' R' H' e S hc.2
          refine ⟨xs', ys', h4, g4, ?_⟩
          rw [h5.length, g5.length, zipD_len]
        · obtain ⟨xs', h4, h5⟩ := l1 F' C' R' H' e S hc.1
          obtain ⟨ys', g4, g5⟩ := l2 F' C' R' H' e S hc.2
          rw [zipD_len] at hi
          exact ⟨xs', ys', xs'[i]'(by rw [h5.length]; omega), ys'[i]'(by rw [g5.length]; omega), h4, g4, by simp, by simp⟩
        · obtain ⟨xs', h4, h5⟩ := l1 F' C' R' H' e S hc.1
          obtain ⟨ys', g4, g5⟩ := l2 F' C' R' H' e S hc.2
          obtain ⟨T, ob, v, w', y1, hob, y2, y3, y4, y5⟩ := y
          subst y1; subst y3
          obtain ⟨d, h6, h7⟩ := h5.get (y4 xs' h4)
          obtain ⟨d2, g6, g7⟩ := g5.get (y5 ys' g4)
          have eN := Ex.new (o := .frz ob (.tup [v, w'])) (S.freeF y2)
          exact ⟨_, _, zipD_get h6 g6, eN, S.newF y2 _, .tup (.frz hob upd_same) (.cons (h7.mono eN) (.cons (g7.mono eN) .nil))⟩
      · exact h1.elim
  · exact h1.elim⟩
def aInT (neg : Bool) : D → D → AH → (D → AH → Prop) → Prop := fun x y C P => match x, y with
  | .str i, .str j => P (.bl (if neg then !(!(Builtin.Str.occurrences j i 0 j.length 1).isEmpty) else !(Builtin.Str.occurrences j i 0 j.length 1).isEmpty)) C
  | _, _ => False
abbrev aInS := aInT false
abbrev aNinS := aInT true
theorem ao_inS : AOp B X (compareOp .In) (fun x y H Q => ∃ i j, x = .str i ∧ y = .str j ∧ Q (.bl (!(Builtin.Str.occurrences j i 0 j.length 1).isEmpty)) H) aInS := ⟨op_in_str, by
  intro v w d e F C R H Q P hS r1 r2 h k
  unfold aInS aInT at h
  split at h
  · cases r1; cases r2
    exact ⟨_, _, rfl, rfl, k _ _ F C H (Ex.refl F) hS (.bl _) h⟩
  · exact h.elim⟩
theorem ao_ninS : AOp B X (compareOp .NotIn) (fun x y H Q => ∃ i j, x = .str i ∧ y = .str j ∧ Q (.bl (!(!(Builtin.Str.occurrences j i 0 j.length 1).isEmpty))) H) aNinS := ⟨op_notin_str, by
  intro v w d e F C R H Q P hS r1 r2 h k
  unfold aNinS aInT at h
  split at h
  · cases r1; cases r2
    exact ⟨_, _, rfl, rfl, k _ _ F C H (Ex.refl F) hS (.bl _) h⟩
  · exact h.elim⟩
end
section
variable {s : ASt} {C : AH} {P : D → AH → Prop} {aa : AA'} {PI : List D → (AH → Prop) → AH → Prop}
def kIZG (PI : List D → (AH → Prop) → AH → Prop) : List D → AH → Prop := fun us C1 => match us with | [x, y] => (match srcD C1 x, srcD C1 y with | some ds, some es => PI (zipD ds es) (fun C' => srcD C' x = some ds ∧ srcD C' y = some es) C1 | _, _ => False) | _ => False
theorem g_izG (h : aa s C (kIZG PI)) : aIZG aa s C PI := h
theorem g_kIZG {x y : D} {ds es : List D} (h1 : ∀ C' : AH, srcD C' x = some ds) (h2 : ∀ C' : AH, srcD C' y = some es) (h : PI (zipD ds es) (fun _ => True) C) : kIZG PI [x, y] C := by
  unfold kIZG
  simp only [h1, h2]
  have m : (fun _ : AH => True) = fun _ : AH => (True ∧ True) := by funext C'; simp
  rw [← m]
  exact h
theorem g_inS {i j : Str} (h : P (.bl (!(Builtin.Str.occurrences j i 0 j.length 1).isEmpty)) C) : aInS (.str i) (.str j) C P := h
theorem g_ninS {i j : Str} (h : P (.bl (!(!(Builtin.Str.occurrences j i 0 j.length 1).isEmpty))) C) : aNinS (.str i) (.str j) C P := h
end
end AL
namespace AL
open PySem PySem.Spec PyProof.Rows L2
variable {B : Bs}
section
variable {X : Cx} {pos : Pos} {K : PySem.W.Frag}
def aStartswith : D → ASp := fun x ds C P => match x, ds with
  | .str a, [.str b] => P (.bl (Txt.startswith a b)) C
  | _, _ => False
def aEndswith : D → ASp := fun x ds C P => match x, ds with
  | .str a, [.str b] => P (.bl (Txt.endswith a b)) C
  | _, _ => False
def aScount : D → ASp := fun x ds C P => match x, ds with
  | .str a, [.str b] => P (.int (Txt.count a b)) C
  | _, _ => False
theorem am_startswith : AMt B X "str.startswith" (fun x xs H Q => ∃ a b, x = .str a ∧ xs = [.str b] ∧ Q (.bl (Txt.startswith a b)) H) aStartswith := ⟨fun pins s σ H x xs v us Q I r1 r2 h => mt_startswith pins s σ H x xs v us Q I r1 r2 h, by
  intro v d vs ds F C R H Q P hS r1 r2 h k
  unfold aStartswith at h
  split at h
  · cases r1
    cases r2 with
    | cons r2 r3 =>
      cases r3
      cases r2
      exact ⟨_, _, rfl, rfl, k _ _ F C H (Ex.refl F) hS (.bl _) h⟩
  · exact h.elim⟩
theorem am_endswith : AMt B X "str.endswith" (fun x xs H Q => ∃ a b, x = .str a ∧ xs = [.str b] ∧ Q (.bl (Txt.endswith a b)) H) aEndswith := ⟨fun pins s σ H x xs v us Q I r1 r2 h => mt_endswith pins s σ H x xs v us Q I r1 r2 h, by
  intro v d vs ds F C R H Q P hS r1 r2 h k
  unfold aEndswith at h
  split at h
  · cases r1
    cases r2 with
    | cons r2 r3 =>
      cases r3
      cases r2
      exact ⟨_, _, rfl, rfl, k _ _ F C H (Ex.refl F) hS (.bl _) h⟩
  · exact h.elim⟩
theorem am_scount : AMt B X "str.count" (fun x xs H Q => ∃ a b, x = .str a ∧ xs = [.str b] ∧ Q (.int (Txt.count a b)) H) aScount := ⟨fun pins s σ H x xs v us Q I r1 r2 h => mt_count pins s σ H x xs v us Q I r1 r2 h, by
  intro v d vs ds F C R H Q P hS r1 r2 h k
  unfold aScount at h
  split at h
  · cases r1
    cases r2 with
    | cons r2 r3 =>
      cases r3
      cases r2
      exact ⟨_, _, rfl, rfl, k _ _ F C H (Ex.refl F) hS (.int _) h⟩
  · exact h.elim⟩
end
section
variable {C : AH} {P : D → AH → Prop}
theorem g_starts {a b : Str} (h : P (.bl (decide (a.cps.toList.take b.length = b.cps.toList))) C) : aStartswith (.str a) [.str b] C P := by
  show P (.bl (Txt.startswith a b)) C
  have e : Txt.startswith a b = decide (a.cps.toList.take b.length = b.cps.toList) := by
    unfold Txt.startswith
    rw [PySem.StrLaws.subAt_eq]
    rw [Bool.eq_iff_iff, Bool.and_eq_true, decide_eq_true_eq, decide_eq_true_eq, beq_iff_eq, List.drop_zero]
    refine ⟨fun z => z.2, fun z => ⟨?_, z⟩⟩
    have := congrArg List.length z
    rw [List.length_take] at this
    have h1 : b.length = b.cps.toList.length := by show b.cps.size = _; simp
    have h2 : a.length = a.cps.toList.length := by show a.cps.size = _; simp
    omega
  rw [e]; exact h
theorem g_ends {a b : Str} (h : P (.bl (decide (b.length ≤ a.length ∧ a.cps.toList.drop (a.length - b.length) = b.cps.toList))) C) : aEndswith (.str a) [.str b] C P := by
  show P (.bl (Txt.endswith a b)) C
  have e : Txt.endswith a b = decide (b.length ≤ a.length ∧ a.cps.toList.drop (a.length - b.length) = b.cps.toList) := by
    unfold Txt.endswith
    rw [Bool.eq_iff_iff, Bool.and_eq_true, decide_eq_true_eq, decide_eq_true_eq, PySem.StrLaws.subAt_eq, beq_iff_eq]
    rw [Nat.zero_add]
    refine and_congr_right fun z => ?_
    rw [List.take_of_length_le]
    have h2 : a.length = a.cps.toList.length := by show a.cps.size = _; simp
    rw [List.length_drop]
    omega
  rw [e]; exact h
/-- the places of one sign -/
theorem occ_one_list (s : Str) (c hi limit : Nat) : ∀ (l : List Nat) (st : Array Nat × Nat), (∀ i ∈ l, st.snd ≤ i) → l.Pairwise (· < ·) → st.fst.size + l.length ≤ limit →
    (forIn l st (PySem.StrLaws.occBody s ⟨#[c]⟩ hi limit)).run.fst.toList = st.fst.toList ++ l.filter fun i => decide (i + 1 ≤ hi) && Builtin.Str.subAt s ⟨#[c]⟩ i
  | [], st, _, _, _ => by simp
  | a :: l, st, h, hp, hl => by
    obtain ⟨hp1, hp2⟩ := List.pairwise_cons.mp hp
    rw [List.length_cons] at hl
    rw [List.forIn_cons]
    unfold PySem.StrLaws.occBody
    have e1 : (⟨#[c]⟩ : Str).length = 1 := rfl
    rw [e1]
    have ha := h a (List.mem_cons_self ..)
    split
    · rename_i hc
      have ih := occ_one_list s c hi limit l (st.fst.push a, a + 1) (fun i hi' => by have := hp1 i hi'; exact this) hp2 (by simp; omega)
      unfold PySem.StrLaws.occBody at ih
      rw [e1] at ih
      rw [List.filter_cons, if_pos (by simp [hc.2, hc.1.2])]
      refine Eq.trans ih ?_
      simp
    · rename_i hc
      have ih := occ_one_list s c hi limit l st (fun i hi' => h i (List.mem_cons_of_mem _ hi')) hp2 (by omega)
      unfold PySem.StrLaws.occBody at ih
      rw [e1] at ih
      rw [List.filter_cons, if_neg (by
        intro z
        simp only [Bool.and_eq_true, decide_eq_true_eq] at z
        exact hc ⟨⟨⟨by omega, ha⟩, z.1⟩, z.2⟩)]
      exact ih
theorem range_filter (c : Nat) : ∀ (xs : List Nat) (k : Nat) (f : Nat → Bool), (∀ i, f (k + i) = decide (xs[i]? = some c)) → ((List.range' k (xs.length + 1)).filter f).length = (xs.filter fun b => decide (b = c)).length
  | [], k, f, hf => by
    have := hf 0
    simp at this
    simp [this]
  | x :: xs, k, f, hf => by
    have h0 := hf 0
    have ih := range_filter c xs (k + 1) f fun i => by
      have := hf (i + 1)
      rw [show k + (i + 1) = k + 1 + i by omega] at this
      simpa using this
    simp only [Nat.add_zero, List.getElem?_cons_zero, Option.some.injEq] at h0
    rw [List.length_cons, List.range'_succ, List.filter_cons, List.filter_cons, h0]
    split
    · rw [List.length_cons, List.length_cons, ih]
    · exact ih
theorem count_one (s : Str) (c : Nat) : Txt.count s ⟨#[c]⟩ = (s.cps.toList.filter fun b => decide (b = c)).length := by
  unfold Txt.count
  rw [PySem.StrLaws.occ_eq, occ_one_list s c _ _ _ _ (fun _ _ => Nat.zero_le _) List.pairwise_lt_range' (by simp)]
  have hl : s.length = s.cps.toList.length := by show s.cps.size = _; simp
  rw [show s.length + 1 - 0 = s.cps.toList.length + 1 by omega]
  refine congrArg (fun n : Nat => (n : Int)) (range_filter c s.cps.toList 0 (fun i => decide (i + 1 ≤ s.length) && Builtin.Str.subAt s ⟨#[c]⟩ i) fun i => ?_)
  have := PySem.StrLaws.subAt_one s c i
  rw [Nat.zero_add, Bool.eq_iff_iff, Bool.and_eq_true, decide_eq_true_eq, decide_eq_true_eq]
  exact this
end
end AL
namespace AL
open PySem PySem.Spec PyProof.Rows L2
end AL
namespace AL
open PySem PySem.Spec PyProof.Rows L2
end AL
namespace AL
open PySem PySem.Spec PyProof.Rows L2
variable {B : Bs}
def ddS (σ : List Str) (v : Str) : List Str := if σ.any (· == v) then σ else σ ++ [v]
def dd (xs : List Str) : List Str := xs.foldl ddS []
theorem dd_snoc (xs : List Str) (v : Str) : dd (xs ++ [v]) = ddS (dd xs) v := by unfold dd; rw [List.foldl_append]; rfl
theorem ddS_any (σ : List Str) (v k : Str) : (ddS σ v).any (· == k) = (σ.any (· == k) || decide (k = v)) := by
  unfold ddS
  by_cases h : σ.any (· == v) = true
  · rw [if_pos h]
    by_cases e : k = v
    · rw [e, h]; simp
    · simp [e]
  · rw [if_neg h, List.any_append]
    by_cases e : k = v
    · rw [e]; simp
    · have hb : (v == k) = false := by simpa [beq_iff_eq] using (fun q : v = k => e q.symm)
      simp [hb, e]
theorem ddS_len (σ : List Str) (v : Str) : (ddS σ v).length = if σ.any (· == v) then σ.length else σ.length + 1 := by unfold ddS; split <;> simp
theorem foldl_le : ∀ (xs σ : List Str), (xs.foldl ddS σ).length ≤ σ.length + xs.length
  | [], σ => Nat.le_refl _
  | x :: xs, σ => by
    rw [List.foldl_cons, List.length_cons]
    have := foldl_le xs (ddS σ x)
    rw [ddS_len] at this
    split at this <;> omega
theorem dd_le (xs : List Str) : (dd xs).length ≤ xs.length := by
  have := foldl_le xs []
  rw [List.length_nil, Nat.zero_add] at this
  exact this
/-- the signs of a text, as texts -/
def sgS (z : Str) : List Str := z.cps.toList.map fun c => ⟨#[c]⟩
theorem sgS_len (z : Str) : (sgS z).length = z.length := by unfold sgS; rw [List.length_map, Array.length_toList]; rfl
section
variable {prog : Program} {w : World} {A : Around} {R : Result → Shared → Prop} {I : Addr} {fp wr : List Addr} {G : Array GenState → Array GenState → Prop} {n : Nat} {P : Nat → Value → Prop} {St : Nat → Shared → Prop}
abbrev SetS (prog : Program) (w : World) (h : Heap) (S : Addr) (xs : List Str) : Prop := h.SetOf (PySem.strKind prog w) S (fun k => (dd xs).any (· == k)) (dd xs).length
theorem SetS.keep {h h' : Heap} {S : Addr} {xs : List Str} (q : SetS prog w h S xs) (hk : ∀ o, h.get? S = some o → h'.get? S = some o) : SetS prog w h' S xs := by
  obtain ⟨o, es, ep, t, ho, r⟩ := q
  exact ⟨o, es, ep, t, hk _ ho, r⟩
theorem setLoop (W : WalksS prog w A.in1 I fp wr G n P St) (S : Addr) (hSf : S ∉ fp) (xs : List Str) (hxs : xs.length = n) (hval : ∀ i v, P i v → ∃ t z, xs[i]? = some z ∧ v = .str z t) (hb : n + 1 < scanBound) : ∀ (k i : Nat), n - i = k → i ≤ n → ∀ (s : Shared), St i s → SetS prog w s.heap S (xs.take i) →
    (∀ z, Moved (S :: wr) G s z → SetS prog w z.heap S xs → R (.ok (.ret .none)) z) → codeAny (model prog w) A (.builtin "set.update.loop" ⟨[.ref S, .ref I], []⟩) R s := by
  have hSw : S ∉ wr := fun y => hSf (W.sub _ y)
  have hin : ∀ b ∈ wr, b ∈ S :: wr := fun b y => List.mem_cons_of_mem _ y
  intro k
  induction k with
  | zero =>
    intro i hk hi s hst hS hR
    obtain rfl : i = n := by omega
    refine codeAny_builtin (b := Builtin.«set.update.loop») PyProof.Rows.F.entry_set_update_loop ?_; rw [Around.under_plainId PyProof.Rows.F.plain_set_update_loop]
    refine wpAny_bind (m := pyNext (.ref I)) (W.done s _ _ hst fun z hm => wpAny_pure (hR z (hm.mono hin) ?_))
    rw [← hxs, List.take_length] at hS
    exact hS.keep fun o e => hm.heap S _ hSw e
  | succ k ih =>
    intro i hk hi s hst hS hR
    have hlt : i < n := by omega
    refine codeAny_builtin (b := Builtin.«set.update.loop») PyProof.Rows.F.entry_set_update_loop ?_; rw [Around.under_plainId PyProof.Rows.F.plain_set_update_loop]
    refine wpAny_bind (m := pyNext (.ref I)) (W.item i s _ _ hlt hst fun v y hP hst' hm => ?_)
    obtain ⟨t, z, hz, rfl⟩ := hval i v hP
    have hS' : SetS prog w y.heap S (xs.take i) := hS.keep fun o e => hm.heap S _ hSw e
    show wpAny _ A.in1 (holding [Value.str z t] (setAdd S (.str z t)) >>= _) _ _ y
    refine wpAny_bind (wpAny_holding ?_); unfold setAdd
    refine wpAny_holding (wpAny_bind ((PySem.strKind prog w).pyHash (k := z) (strKind_is _ _ _ _) ?_))
    have hroom : (dd (xs.take i)).length + 1 < scanBound := by have := dd_le (xs.take i); rw [List.length_take] at this; omega
    refine wpAny_setAddHashed_of (knd := PySem.strKind prog w) (s := { y with toks := y.toks + 1 }) (strKind_is _ _ _ _) rfl hS' hroom fun h' hsb hS2 => ?_
    have e1 : xs.take (i + 1) = xs.take i ++ [z] := by rw [List.take_add_one, hz]; rfl
    have hSi : SetS prog w h' S (xs.take (i + 1)) := SetOf_congr hS2 (fun k' => by rw [e1, dd_snoc, ddS_any]) (by rw [e1, dd_snoc, ddS_len])
    refine wpAny_pure ⟨plainId_quiet PyProof.Rows.F.plain_set_update_loop _, ih (i + 1) (by omega) hlt _ (W.frame _ y _ _ hst' (Nat.le_succ _) fun b hb o e => ?_) hSi fun z2 hm2 hS3 => ?_⟩
    · rw [hsb.2 b (fun q : b = S => hSf (by rw [← q]; exact hb))]; exact e
    · refine hR z2 (Moved.trans W.gtrans ((hm.mono hin).then_heap (Nat.le_succ _) fun b o hb e => ?_) hm2) hS3
      rw [hsb.2 b (fun q : b = S => hb (by rw [q]; exact List.mem_cons_self))]; exact e
end
section
variable {prog : Program} {w : World} {A : Around} {E : Value → Shared → Prop} {s : Shared}
set_option maxHeartbeats 3200000 in
theorem callSetStr {x : Str} {t : Tok} {Q : Value → Shared → Prop} (hh : A.handled = none) (hb : x.length + 1 < scanBound)
    (h : ∀ (h' : Heap) (tk : Nat), SetS prog w h' s.heap.objs.size (sgS x) → (∀ b o, b < s.heap.objs.size → s.heap.get? b = some o → h'.get? b = some o) → Q (.ref s.heap.objs.size) { s with heap := h', toks := tk }) :
    wpAny (model prog w) A (call (.type "set") [.str x t]) Q E s := by
  obtain ⟨c, tl, hmro⟩ := PySem.F.called_set.mro
  have hmade := PySem.F.called_set.made; have hsub := PySem.F.called_set.sub
  refine wpAny_call (codeAny_of_tree (show wpAny _ _ (callAny (.type "set") _) _ _ _ from ?_))
  refine wpAny_pure ⟨Code.quiet_builtin _ (by decide +kernel), codeAny_builtin PySem.F.entry_type_call ?_⟩; rw [Around.under_plain (weight_type_call_type "set" [.str x t] []) rfl]
  have h1 := PySem.F.called_set.notType; have h2 := PySem.F.called_set.canCreate; have hct := PySem.F.typeCall_set_1 (.str x t)
  repeat (any_goals first | assumption | wp_step)
  let fo : Bool → Obj := fun led => { cls := .type "set", dict := none, data := .set #[] 0 (.fresh 0 0 led) }
  refine codeAny_mono (code_set_new_1 (.str x t) (E := E) (Q₁ := fun obj z => ∃ led : Bool, obj = .ref s.heap.objs.size ∧ z = { s with heap := s.heap.push (fo led) }) fun led => ⟨led, rfl, rfl⟩) fun r s₁ hr => ?_
  cases r with
  | error e => exact hr
  | ok fl =>
    cases fl with
    | ret obj =>
      obtain ⟨led, rfl, rfl⟩ := hr
      have hS : (s.heap.push (fo led)).get? s.heap.objs.size = some (fo led) := Heap.get?_push_size _ rfl
      have hT : Shared.TypeIs { s with heap := s.heap.push (fo led) } (.ref s.heap.objs.size) "set" := ⟨_, hS, rfl⟩
      have hli := PySem.F.called_set.init.lookup; have hbi := PySem.F.called_set.init.bind (.ref s.heap.objs.size)
      repeat (any_goals first | assumption | wp_step)
      refine codeAny_mono (codeAny_call_builtin (R := wants (fun r z => r = .none ∧ ∃ h' tk, z = { s with heap := h', toks := tk } ∧ SetS prog w h' s.heap.objs.size (sgS x) ∧ (∀ b o, b < s.heap.objs.size → s.heap.get? b = some o → h'.get? b = some o)) E) PySem.F.called_set.init.plain PySem.F.entry_set_init (check_set_init_1 hT ?_)) fun r₂ s₂ hr₂ => ?_
      · have hsls := PySem.F.sub_str_set; have hslf := PySem.F.sub_str_frozenset
        have hne : (Value.type "str" == Value.type "dict") = false := by decide
        unfold Builtin.«set.__init__» noKeywords Builtin.Frozenset.updateFrom
        generalize hPI : pyIter = PI
        wp_walk
        subst hPI
        refine PySem.wpAny_pyIter_str fun o St hW hst => ?_
        refine wpAny_bind (wpAny_runValue ?_)
        have hh3 : A.in1.in1.in1.handled = none := by simp [hh]
        have hne2 : s.heap.objs.size ∉ [(s.heap.push (fo led)).objs.size] := by
          rw [Heap.size_push, List.mem_singleton]; exact Nat.ne_of_lt (Nat.lt_succ_self _)
        refine setLoop (hW _ hh3).toS s.heap.objs.size hne2 (sgS x) (by rw [sgS_len]; rfl) (fun i v hv => ?_) hb (x.cps.size - 0) 0 (by omega) (Nat.zero_le _) _ hst ?_ fun z hm hS3 => ?_
        · obtain ⟨c, u, e1, e2⟩ := hv
          exact ⟨u, _, by unfold sgS; rw [List.getElem?_map, Array.getElem?_toList, e1]; rfl, e2⟩
        · have hget : ((s.heap.push (fo led)).push o).get? s.heap.objs.size = some (fo led) := Heap.get?_push_of_some _ hS
          exact PyProof.Rows.SetOf_congr ((PyProof.Rows.setObjOf_fresh (knd := PySem.strKind prog w) led).setOf hget (by unfold scanBound; omega)) (fun _ => rfl) rfl
        · obtain ⟨h', g', d', tk', os'⟩ := z
          cases (show g' = s.gens from hm.gens); cases (show d' = s.drawn from hm.drawn); cases (show os' = s.os from hm.os)
          refine wpAny_pure (wpAny_pure ⟨rfl, h', tk', rfl, hS3, fun b o2 hb e => ?_⟩)
          have hb1 : b ≠ s.heap.objs.size := Nat.ne_of_lt hb
          have hb2 : b ≠ (s.heap.push (fo led)).objs.size := by rw [Heap.size_push]; exact Nat.ne_of_lt (Nat.lt_succ_of_lt hb)
          exact hm.heap b o2 (by simp only [List.mem_cons, List.mem_singleton, List.not_mem_nil, or_false, not_or]; exact ⟨hb1, hb2⟩) (Heap.get?_push_of_some _ (Heap.get?_push_of_some _ e))
      · cases r₂ with
        | error e => exact hr₂
        | ok fl₂ =>
          cases fl₂ with
          | ret r =>
            obtain ⟨rfl, h', tk, rfl, hS', hk'⟩ := hr₂
            repeat (any_goals first | assumption | wp_step)
            exact h _ _ hS' hk'
          | _ => exact hr₂.elim
    | _ => exact hr.elim
end
end AL
namespace AL
open PySem PySem.Spec PyProof.Rows L2
variable {B : Bs}
def tLenSetT (ta : TE) : TE := fun σ H Q => ta σ H fun x H1 => ∃ z, x = .str z ∧ z.length ≤ 4000 ∧ Q (.int (dd (sgS z)).length) H1
section
variable {X : Cx} {K : PySem.W.Frag}
theorem pe_lenSetT {a : Expr} {ta : TE} {p p2 q pos : Pos} (hm : X.mg "len" = none) (hm2 : X.mg "set" = none) (ha : PE X a ta) (hc : X.calm = true := by rfl) (hg : Gl X "len" := by rfl) (hg2 : Gl X "set" := by rfl)
    (na : starEach [a] X.env = (false, eval a X.env) :: starEach [] X.env := by rfl) : PE X (.Call (.Name "len" p) [.Call (.Name "set" p2) [a] [] q] [] pos) (tLenSetT ta) := by
  refine ⟨fun pins s σ H Q I h => PyProof.Rows.Call_ (ld_blt I hg hm boot_len (PyProof.Rows.callWith_builtin1 (PyProof.Rows.args_cons (PyProof.Rows.Call_ (ld_blt I hg2 hm2 boot_set ?_)) rfl) rfl rfl))⟩
  refine PyProof.Rows.callWith_type1 (PyProof.Rows.args_cons (thn (ha.run pins s σ H _ I h) fun v s1 ⟨x, H1, I1, r1, q1⟩ => PyProof.Rows.args_nil ?_) na) na rfl
  obtain ⟨z, rfl, hz, q1⟩ := q1
  obtain ⟨t, rfl⟩ := r1
  refine callSetStr (I1.ok.hd hc) (by unfold scanBound; omega) fun h' tk hS hk => PyProof.Rows.args_nil ?_
  have hle := dd_le (sgS z)
  rw [sgS_len] at hle
  obtain ⟨o, es, ep, tb, ho, hex, hd, _, _, _, hf, hn⟩ := hS
  have I2 : Inv X pins σ H1 { s1 with heap := h', toks := tk } := I1.kept fun b o e => hk b o (Heap.lt_size e) e
  exact call_len_set ho hex hd hf (by rw [hn] <;> omega) ⟨.int (dd (sgS z)).length, H1, I2.tok _, ⟨_, by rw [hn]⟩, q1⟩
def aLenSet (a : AE') : AE' := fun s C P => a s C fun x C1 => match x with | .str z => z.length ≤ 4000 ∧ P (.int (dd (sgS z)).length) C1 | _ => False
theorem ae_lenSetT {a : Expr} {ta : TE} {aa : AE'} {p p2 q pos : Pos} (hm : X.mg "len" = none) (hm2 : X.mg "set" = none) (ha : AE B X a ta aa) (hc : X.calm = true := by rfl) (hg : Gl X "len" := by rfl) (hg2 : Gl X "set" := by rfl)
    (na : starEach [a] X.env = (false, eval a X.env) :: starEach [] X.env := by rfl) : AE B X (.Call (.Name "len" p) [.Call (.Name "set" p2) [a] [] q] [] pos) (tLenSetT ta) (aLenSet aa) := ⟨pe_lenSetT hm hm2 ha.pe hc hg hg2 na, by
  intro σ s F C R H Q P hs hS h0 k
  refine ha.sim σ s F C R H _ _ hs hS h0 fun x v F1 C1 H1 e1 S1 r1 h1 => ?_
  split at h1
  · cases r1
    exact ⟨_, rfl, h1.1, k _ _ F1 C1 H1 e1 S1 (.int _) h1.2⟩
  · exact h1.elim⟩
end
section
variable {C : AH} {P : D → AH → Prop} {s : ASt} {e : AE'}
def kLenSet (P : D → AH → Prop) : D → AH → Prop := fun x C1 => match x with | .str z => z.length ≤ 4000 ∧ P (.int (dd (sgS z)).length) C1 | _ => False
theorem g_lenSet (h : e s C (kLenSet P)) : aLenSet e s C P := h
theorem g_kLenSet {z : Str} (h1 : z.length ≤ 4000) (h : P (.int (dd (sgS z)).length) C) : kLenSet P (.str z) C := ⟨h1, h⟩
end
end AL
namespace AL
open PySem PySem.Spec PyProof.Rows L2
variable {B : Bs}
def TabI (P : Params) : List DictEntry → List (Str × Int) → Prop
  | [], [] => True
  | e :: r, (x, i) :: q => (∃ t u, e.key = .str x t ∧ e.val = .int i u ∧ e.hash = PyData.keyHash P x) ∧ TabI P r q
  | _, _ => False
def tabAt : List (Str × Int) → Str → Option Int
  | [], _ => none
  | (x, i) :: q, z => if x = z then some i else tabAt q z
theorem TabI.lit {P : Params} : ∀ {es : List DictEntry} {tab : List (Str × Int)}, TabI P es tab → PySem.W.KeysLit P es
  | [], _, _ => trivial
  | e :: r, (x, i) :: q, ⟨⟨t, u, h1, h2, h3⟩, h⟩ => ⟨⟨x, t, h1, h3⟩, TabI.lit h⟩
  | e :: r, [], h => h.elim
theorem TabI.noRef {P : Params} : ∀ {es : List DictEntry} {tab : List (Str × Int)}, TabI P es tab → es.any (·.refKey) = false
  | [], _, _ => rfl
  | e :: r, (x, i) :: q, ⟨⟨t, u, h1, h2, h3⟩, h⟩ => by
    rw [List.any_cons, TabI.noRef h, Bool.or_false]
    unfold DictEntry.refKey
    rw [h1]
  | e :: r, [], h => h.elim
theorem TabI.find {P : Params} : ∀ {es : List DictEntry} {tab : List (Str × Int)} (z : Str), TabI P es tab → match tabAt tab z with | some i => ∃ e u, es.find? (·.key.isStr z) = some e ∧ e.val = .int i u | none => es.find? (·.key.isStr z) = none
  | [], [], _, _ => rfl
  | [], _ :: _, _, h => h.elim
  | e :: r, (x, i) :: q, z, ⟨⟨t, u, h1, h2, h3⟩, h⟩ => by
    unfold tabAt
    by_cases hx : x = z
    · rw [if_pos hx]
      refine ⟨e, u, ?_, h2⟩
      rw [List.find?_cons_of_pos]
      rw [h1, hx]
      simp [Value.isStr]
    · rw [if_neg hx, List.find?_cons_of_neg]
      · exact TabI.find z h
      · rw [h1]
        simp [Value.isStr, hx]
  | e :: r, [], _, h => h.elim
structure KTab (K : PySem.W.Frag) (P : Params) (d : Addr) (tab : List (Str × Int)) : Prop where
  ex : ∃ es n, K.lookup d = some ⟨.type "dict", none, .dict es n, #[]⟩ ∧ TabI P es.toList tab
  low : (d == sysModules) = false
theorem KTab.ns {K : PySem.W.Frag} {P : Params} {d : Addr} {tab : List (Str × Int)} (T : KTab K P d tab) (z : Str) : match tabAt tab z with | some i => ∃ u, PySem.W.nsIn K d z = some (some (.int i u)) | none => PySem.W.nsIn K d z = some none := by
  obtain ⟨es, n, h1, h2⟩ := T.ex
  have h := h2.find z
  unfold PySem.W.nsIn
  rw [h1]
  dsimp only
  cases q : tabAt tab z with
  | some i =>
    rw [q] at h
    obtain ⟨e, u, e1, e2⟩ := h
    exact ⟨u, by rw [e1]; dsimp only; rw [e2]⟩
  | none =>
    rw [q] at h
    rw [h]
    dsimp only
    rw [h2.noRef]
    rfl
section
variable {X : Cx} {K : PySem.W.Frag} {x : Str} {d : Addr} {tab : List (Str × Int)} {e : Expr} {te : TE} {a : AE'} {p pos : Pos}
def rInTab (d : Addr) (tab : List (Str × Int)) (neg : Bool) : R2 := fun v y H Q => ∃ z, v = .str z ∧ y = .ref d ∧ Q (.bl (if neg then !(tabAt tab z).isSome else (tabAt tab z).isSome)) H
theorem op_inTab (T : KTab X.K X.w.params d tab) : OpR X (compareOp .In) (rInTab d tab false) := by
  obtain ⟨es, n, h1, h2⟩ := T.ex
  have D : KDict X.K X.w d es n := ⟨h1, h2.lit, T.low⟩
  intro pins s σ H x y v u Q I rx ry h
  obtain ⟨z, e1, e2, q⟩ := h
  have hn := T.ns z
  cases hz : tabAt tab z with
  | some i =>
    rw [hz] at hn q
    obtain ⟨w, hn⟩ := hn
    exact op_in_kd D pins s σ H x y v u Q I rx ry ⟨z, _, e1, e2, hn, q⟩
  | none =>
    rw [hz] at hn q
    exact op_in_kd D pins s σ H x y v u Q I rx ry ⟨z, _, e1, e2, hn, q⟩
def aInTab (tab : List (Str × Int)) (neg : Bool) (a : AE') : AE' := fun s C P => a s C fun x C1 => match x with | .str z => P (.bl (if neg then !(tabAt tab z).isSome else (tabAt tab z).isSome)) C1 | _ => False
theorem sim_inTab {neg : Bool} (h : SimE B K te a) : SimE B K (tOp (rInTab d tab neg) te (tC (.ref d))) (aInTab tab neg a) := by
  intro σ s F C R H Q P hs hS h0 k
  refine h σ s F C R H _ _ hs hS h0 fun y v F1 C1 H1 e1 S1 r1 h1 => ?_
  split at h1
  · cases r1
    exact ⟨_, rfl, rfl, k _ _ F1 C1 H1 e1 S1 (.bl _) h1⟩
  · exact h1.elim
theorem ae_inTab (h : AE B X e te a) (T : KTab X.K X.w.params d tab) (hm : X.mg x = some (.ref d)) (hg : Gl X x := by rfl) (hd : (x == ("__debug__" : Str)) = false := by decide) (hb : behindInMarks .In (.Name x p) = false := by first | exact nomark _ | with_unfolding_all rfl) :
    AE B X (.Compare e [.In] [.Name x p] pos) (tOp (rInTab d tab false) te (tC (.ref d))) (aInTab tab false a) := ⟨pe_cmpR (op_inTab T) h.pe (pe_glob (v := .ref d) hg hm rfl hd) hb, sim_inTab h.sim⟩
/-- TABLE[e] -/
def rIxTab (d : Addr) (tab : List (Str × Int)) : R2 := fun v y H Q => ∃ z i, v = .ref d ∧ y = .str z ∧ tabAt tab z = some i ∧ Q (.int i) H
theorem ix_tab (T : KTab X.K X.w.params d tab) : IxR X (rIxTab d tab) := by
  obtain ⟨es, n, h1, h2⟩ := T.ex
  have D : KDict X.K X.w d es n := ⟨h1, h2.lit, T.low⟩
  intro value slice pins s σ H x y v u Q I rx ry h hs
  obtain ⟨z, i, e1, e2, hz, q⟩ := h
  have hn := T.ns z
  rw [hz] at hn
  obtain ⟨w, hn⟩ := hn
  subst e1
  cases rx
  refine tail_any (kd_type D I) PySem.F.slot_dict_getitem.lookup ?_ hs
  exact op_item_kd D pins s σ H (.ref d) y (.ref d) u Q I rfl ry ⟨z, _, .int i, rfl, e2, hn, ⟨_, rfl⟩, q⟩
def aIxTab (tab : List (Str × Int)) (a : AE') : AE' := fun s C P => a s C fun x C1 => match x with | .str z => (match tabAt tab z with | some i => P (.int i) C1 | none => False) | _ => False
theorem ae_ixTab (h : AE B X e te a) (T : KTab X.K X.w.params d tab) (hm : X.mg x = some (.ref d)) (hg : Gl X x := by rfl) (hd : (x == ("__debug__" : Str)) = false := by decide) (hs : PlainIx e := by exact fun _ _ => rfl) :
    AE B X (.Subscript (.Name x p) e pos) (tOp (rIxTab d tab) (tC (.ref d)) te) (aIxTab tab a) := ⟨pe_ix (ix_tab T) (pe_glob (v := .ref d) hg hm rfl hd) h.pe hs, by
  intro σ s F C R H Q P hs hS h0 k
  refine h.sim σ s F C R H _ _ hs hS h0 fun y v F1 C1 H1 e1 S1 r1 h1 => ?_
  split at h1
  · cases r1
    split at h1
    · rename_i i hi
      exact ⟨_, i, rfl, rfl, hi, k _ _ F1 C1 H1 e1 S1 (.int _) h1⟩
    · exact h1.elim
  · exact h1.elim⟩
end
section
variable {C : AH} {P : D → AH → Prop} {s : ASt} {e : AE'} {tab : List (Str × Int)}
def kInTab (tab : List (Str × Int)) (neg : Bool) (P : D → AH → Prop) : D → AH → Prop := fun x C1 => match x with | .str z => P (.bl (if neg then !(tabAt tab z).isSome else (tabAt tab z).isSome)) C1 | _ => False
def kIxTab (tab : List (Str × Int)) (P : D → AH → Prop) : D → AH → Prop := fun x C1 => match x with | .str z => (match tabAt tab z with | some i => P (.int i) C1 | none => False) | _ => False
theorem g_inTab {neg : Bool} (h : e s C (kInTab tab neg P)) : aInTab tab neg e s C P := h
theorem g_kInTab {z : Str} (h : P (.bl (tabAt tab z).isSome) C) : kInTab tab false P (.str z) C := h
theorem g_kNotInTab {z : Str} (h : P (.bl (!(tabAt tab z).isSome)) C) : kInTab tab true P (.str z) C := h
theorem g_ixTab (h : e s C (kIxTab tab P)) : aIxTab tab e s C P := h
theorem g_kIxTab {z : Str} {i : Int} (h1 : tabAt tab z = some i) (h : P (.int i) C) : kIxTab tab P (.str z) C := by
  unfold kIxTab
  simp only [h1]
  exact h
end
end AL
namespace AL
open PySem PySem.Spec PyProof.Rows L2
variable {B : Bs}
def rEqE (K : PySem.W.Frag) (neg : Bool) : R2 := fun x y H Q => ∃ a b xs, x = .ref a ∧ y = .ref b ∧ SqL K H a xs ∧ SqL K H b [] ∧ Q (.bl (if neg then !xs.isEmpty else xs.isEmpty)) H
section
variable {X : Cx} {K : PySem.W.Frag}
theorem op_eqE (hu : X.A.units + 64 < cLine) : OpR X (compareOp .Eq) (rEqE X.K false) := by
  intro pins s σ H x y v u Q I rx ry h
  obtain ⟨a, b, xs, rfl, rfl, h1, h2, q⟩ := h
  cases xs with
  | nil => exact op_eqD hu pins s σ H _ _ v u Q I rx ry ⟨.list [], .list [], .lst h1 .nil, .lst h2 .nil, rfl, rfl, q⟩
  | cons e es =>
    cases rx; cases ry
    obtain ⟨its, r, pl, _⟩ := I.list h1
    obtain ⟨its2, r2, pl2, _⟩ := I.list h2
    have l1 := r.length
    have l2 := r2.length
    refine SeqAt.RcAt.lists_lengths pl.isList pl2.isList ?_ (by omega) X.prog X.w _ _ ⟨.bl false, H, I, rfl, q⟩
    rw [List.size_toArray, List.size_toArray, ← l1, ← l2]
    simp
theorem op_neE (hu : X.A.units + 64 < cLine) : OpR X (compareOp .NotEq) (rEqE X.K true) := by
  intro pins s σ H x y v u Q I rx ry h
  obtain ⟨a, b, xs, rfl, rfl, h1, h2, q⟩ := h
  cases xs with
  | nil => exact op_neD hu pins s σ H _ _ v u Q I rx ry ⟨.list [], .list [], .lst h1 .nil, .lst h2 .nil, rfl, rfl, q⟩
  | cons e es =>
    cases rx; cases ry
    obtain ⟨its, r, pl, _⟩ := I.list h1
    obtain ⟨its2, r2, pl2, _⟩ := I.list h2
    have l1 := r.length
    have l2 := r2.length
    refine SeqAt.RcNeAt.lists_lengths pl.isList pl2.isList ?_ (by omega) X.prog X.w _ _ ⟨.bl true, H, I, rfl, q⟩
    rw [List.size_toArray, List.size_toArray, ← l1, ← l2]
    simp
/-- the right side is [] -/
def aEqNil (neg : Bool) : D → D → AH → (D → AH → Prop) → Prop := fun x y C P => match asLr C x, y with
  | some us, .lst [] => P (.bl (if neg then !us.isEmpty else us.isEmpty)) C
  | _, _ => False
theorem sim_eqNil (neg : Bool) : SimR2 B K (rEqE K neg) (aEqNil neg) := by
  intro v w d e F C R H Q P hS r1 r2 h k
  unfold aEqNil at h
  split at h
  · rename_i us q
    obtain ⟨a, xs, e1, h1, h2⟩ := asLr_ok hS r1 q
    obtain ⟨b, ys, e2, h3, h4⟩ := asLr_ok (C := C) (d := .lst []) (ds := []) hS r2 rfl
    cases h4
    have he : xs.isEmpty = us.isEmpty := by cases h2 <;> rfl
    exact ⟨a, b, xs, e1, e2, h1, h3, k _ _ F C H (Ex.refl F) hS (by rw [he]; exact .bl _) h⟩
  · exact h.elim
theorem ao_eqNil (hu : X.A.units + 64 < cLine) (hK : X.K = K := by rfl) : AOp B X (compareOp .Eq) (rEqE K false) (aEqNil false) := by
  subst hK
  exact ⟨op_eqE hu, sim_eqNil false⟩
theorem ao_neNil (hu : X.A.units + 64 < cLine) (hK : X.K = K := by rfl) : AOp B X (compareOp .NotEq) (rEqE K true) (aEqNil true) := by
  subst hK
  exact ⟨op_neE hu, sim_eqNil true⟩
end
section
variable {C : AH} {P : D → AH → Prop}
theorem g_eqNil {us : List D} (h : P (.bl us.isEmpty) C) : aEqNil false (.lst us) (.lst []) C P := h
theorem g_neNil {us : List D} (h : P (.bl (!us.isEmpty)) C) : aEqNil true (.lst us) (.lst []) C P := h
end
section
variable {C : AH} {P : D → AH → Prop} {s : ASt} {a b c : AE'} {r r' : D → D → AH → (D → AH → Prop) → Prop}
def kChain (r' : D → D → AH → (D → AH → Prop) → Prop) (c : AE') (y : D) (s : ASt) (P : D → AH → Prop) : D → AH → Prop := fun z C3 => match z with
  | .bl true => c s C3 fun w C4 => r' y w C4 P
  | .bl false => P (.bl false) C3
  | _ => False
theorem g_chain (h : a s C fun x C1 => b s C1 fun y C2 => r x y C2 (kChain r' c y s P)) : aChain r r' a b c s C P := h
theorem g_kChain {y : D} {k : Bool} (h1 : k = true → c s C fun w C4 => r' y w C4 P) (h2 : k = false → P (.bl false) C) : kChain r' c y s P (.bl k) C := by
  cases k
  · exact h2 rfl
  · exact h1 rfl
end
end AL
namespace AL
open PySem PySem.Spec PyProof.Rows L2
end AL
namespace AL
open PySem PySem.Spec PyProof.Rows L2
end AL
namespace AL
open PySem PySem.Spec PyProof.Rows L2
variable {B : Bs}
section
variable {X : Cx} {K : PySem.W.Frag}
def aMaxL : ASp := fun ds C P => match ds with
  | [d] => ∃ (es : List D) (ks : List Int), asLr C d = some es ∧ es = ks.map D.int ∧ 0 < ks.length ∧ ∀ m : Int, m ∈ ks → (∀ y, y ∈ ks → y ≤ m) → P (.int m) C
  | _ => False
theorem ac_maxL (hc : X.calm = true := by rfl) (hK : X.K = K := by rfl) : ACa B X (.builtin "max") (rMax K) aMaxL := by
  subst hK
  exact ⟨cr_max hc, by
  intro vs ds F C R H Q P hS r h k
  unfold aMaxL at h
  split at h
  · cases r with
    | cons r1 r2 =>
      cases r2
      obtain ⟨es, ks, h1, h2, h3, h4⟩ := h
      subst h2
      obtain ⟨a, kvs, rfl, g1, g2⟩ := asLr_ok hS r1 h1
      rw [g2.ofInts] at g1
      exact ⟨a, ks, rfl, g1, h3, fun m e1 e2 => k _ _ F C H (Ex.refl F) hS (.int _) (h4 m e1 e2)⟩
  · exact h.elim⟩
end
end AL
namespace AL
open PySem PySem.Spec PyProof.Rows L2
end AL
namespace AL
open PySem L2
def nk (n : Nat) : Key := .inl (n : Int)
theorem nk_inj {a b : Nat} (h : nk a = nk b) : a = b := by have := Sum.inl.inj h; omega
def Ky (es : List (Key × D)) (L : List Nat) : Prop := es.map (·.1) = L.map nk
def addN (L : List Nat) (n : Nat) : List Nat := if n ∈ L then L else L ++ [n]
theorem Ky.nil : Ky [] [] := rfl
theorem Ky.len {es : List (Key × D)} {L : List Nat} (h : Ky es L) : es.length = L.length := by
  have := congrArg List.length h
  simpa using this
theorem Ky.any {es : List (Key × D)} {L : List Nat} (h : Ky es L) (n : Nat) : (es.any fun kv => decide (kv.1 = nk n)) = decide (n ∈ L) := by
  have e : (es.any fun kv => decide (kv.1 = nk n)) = (es.map (·.1)).any fun k => decide (k = nk n) := by rw [List.any_map]; rfl
  rw [e, show es.map (·.1) = L.map nk from h, List.any_map, Bool.eq_iff_iff, List.any_eq_true, decide_eq_true_iff]
  constructor
  · rintro ⟨m, hm, e⟩
    have := nk_inj (of_decide_eq_true e)
    rw [← this]; exact hm
  · intro hm
    exact ⟨n, hm, decide_eq_true rfl⟩
theorem Ky.val {es : List (Key × D)} {L : List Nat} (h : Ky es L) (n : Nat) : (valD es (nk n)).isSome = decide (n ∈ L) := by
  rw [← h.any n]
  unfold valD
  rw [Option.isSome_map, Bool.eq_iff_iff, List.find?_isSome, List.any_eq_true]
theorem Ky.put {es : List (Key × D)} {L : List Nat} {d : D} (h : Ky es L) (n : Nat) : Ky (putD es (nk n) d) (addN L n) := by
  unfold putD addN
  rw [h.any]
  by_cases hn : n ∈ L
  · rw [decide_eq_true hn, if_pos rfl, if_pos hn]
    show (es.map _).map _ = _
    rw [List.map_map]
    have e : ((fun kv : Key × D => kv.1) ∘ fun kv : Key × D => if kv.1 = nk n then (kv.1, d) else kv) = fun kv => kv.1 := by
      funext kv
      simp only [Function.comp]
      split <;> rfl
    rw [e]
    exact h
  · rw [decide_eq_false hn, if_neg (by decide), if_neg hn]
    show (es ++ [_]).map _ = _
    rw [List.map_append, List.map_append, show es.map (·.1) = L.map nk from h]
    rfl
theorem nodup_addN {L : List Nat} {n : Nat} (h : L.Nodup) : (addN L n).Nodup := by
  unfold addN
  split
  · exact h
  · rename_i hn
    refine List.nodup_append.mpr ⟨h, by simp, ?_⟩
    intro a ha b hb e
    have : b = n := by simpa using hb
    exact hn (by rw [← this, ← e]; exact ha)
section
variable {C : AH} {P : D → AH → Prop} {s : ASt} {q : Addr} {es : List (Key × D)} {L : List Nat} {n : Nat} {nx : ASt → AH → Prop} {rt : D → AH → Prop} {bk ct : ASt → AH → Prop}
theorem toVs_nats : ∀ ns : List Nat, toVs (natsD ns) = some (ns.map fun (n : Nat) => V.int n)
  | [] => rfl
  | n :: ns => by
    show (match toV (.int (n : Int)), toVs (natsD ns) with | some v, some vs => some (v :: vs) | _, _ => none) = _
    rw [toVs_nats ns]
    rfl
theorem inV_nats (n : Nat) (ns : List Nat) : inV (.int (n : Int)) (ns.map fun (n : Nat) => V.int n) = decide (n ∈ ns) := by
  induction ns with
  | nil => rfl
  | cons a ns ih =>
    have : inV (.int (n : Int)) ((a :: ns).map fun (n : Nat) => V.int n) = (eqV (.int (a : Int)) (.int (n : Int)) || inV (.int (n : Int)) (ns.map fun (n : Nat) => V.int n)) := rfl
    rw [this, ih]
    have e : eqV (.int (a : Int)) (.int (n : Int)) = decide (n = a) := by
      show (((a : Int)) == (n : Int)) = _
      rw [Bool.eq_iff_iff, beq_iff_eq, decide_eq_true_iff]
      omega
    rw [e]
    simp [Bool.decide_or]
theorem g_popN {ns : List Nat} {a : Nat} (hC : C q = some (.lst (natsD (ns ++ [a])))) (h : P (.int (a : Int)) (put C q (.lst (natsD ns)))) : aPop (.ce q) [] C P := by
  show (match C q with | some (.lst us) => (match us[us.length - 1]? with | some d => P d (put C q (.lst us.dropLast)) | none => False) | _ => False)
  rw [hC]
  have e : natsD (ns ++ [a]) = natsD ns ++ [.int (a : Int)] := by unfold natsD; rw [List.map_append]; rfl
  rw [e]
  show (match (natsD ns ++ [D.int (a : Int)])[(natsD ns ++ [D.int (a : Int)]).length - 1]? with | some d => P d (put C q (.lst (natsD ns ++ [D.int (a : Int)]).dropLast)) | none => False)
  rw [List.length_append, show (natsD ns).length + [D.int (a : Int)].length - 1 = (natsD ns).length by simp, List.getElem?_append_right (Nat.le_refl _), Nat.sub_self, List.dropLast_concat]
  exact h
end
end AL
namespace AL
open PySem PySem.Spec PyProof.Rows L2
open AutoSeq1 (wpAny_loadPart')
end AL
namespace AL
open PySem PySem.Spec PyProof.Rows L2
end AL
namespace AL
open PySem PySem.Spec PyProof.Rows L2
end AL
namespace AL
open PySem PySem.Spec PyProof.Rows L2
end AL
namespace AL
open PySem PySem.Spec PyProof.Rows L2
open AutoSeq1 (wpAny_loadPart')
end AL
namespace AL
open PySem PySem.Spec PyProof.Rows L2
end AL
namespace AL
open PySem PySem.Spec PyProof.Rows L2
open PyProof.Rows (envOfC)
variable {B : Bs}
/-- what is asked where a class's exception flies out, the slots and the cells as they are then -/
abbrev AX' := ASt → Str → AH → Prop
abbrev ASpX := List D → AH → (D → AH → Prop) → (Str → AH → Prop) → Prop
theorem Sat.at0 {K : PySem.W.Frag} {F : Hp} {C : AH} {R H : Hp} (S : Sat B K F C R H) : Sat B K F C B.R0 H := ⟨S.bF, Ex.refl _, S.ex, S.cell, fun p o e => S.priv p o (S.bR p o e)⟩
/-- only an exception of a class with its own __init__ has a dict -/
def dOf (nm : Str) (d : Option Addr) : Prop := nm = "NoSentence" ∨ d = none
def WR (B : Bs) (K : PySem.W.Frag) (mg : Str → Option Value) (W : AX') (Wk : WX) : Prop :=
  ∀ nm cls d s σ F C H, mg nm = some cls → dOf nm d → Slo K F s σ → Sat B K F C B.R0 H → W s nm C → Wk cls d σ H
/-- facts of an own exception class without own __init__ over ValueError -/
def ExcF (K : PySem.W.Frag) (mg : Str → Option Value) (x : Str) : Prop :=
  ∃ C, mg x = some (.ref C) ∧ PySem.W.excIn K C [.type "ValueError", .type "Exception", .type "BaseException", .type "object"] "ValueError.__new__" = true ∧ PySem.W.keepIn K (.ref C) = true ∧ PySem.W.subIn K (.ref C) (.type "BaseException") = some true ∧ PySem.W.typeIn K (.ref C) = some (.type "type")
def aRaise (W : AX') (nm : Str) : AS' := fun _ s C => W s nm C
def tRaise (mg : Str → Option Value) (nm : Str) (Wk : WX) : TS := fun _ σ H => ∃ C, mg nm = some (.ref C) ∧ Wk (.ref C) none σ H
section
variable {X : Cx} {K : PySem.W.Frag} {W : AX'} {Wk : WX} {x m : Str} {j : Nat} {p p2 p3 pos : Pos}
theorem as_raise {mg : Str → Option Value} (f : ExcF K mg x) (tk : Takes X Wk) (rel : WR B K mg W Wk) (hc : X.calm = true := by rfl) (hg : Gl X x := by rfl) (hdb : (x == ("__debug__" : Str)) = false := by decide) (hK : X.K = K := by rfl) (hmg : X.mg = mg := by rfl) :
    AS B X (.Raise (some (.Call (.Name x p) [.Constant (.str m) j p2] [] p3)) none pos) (tRaise mg x Wk) (aRaise W x) := by
  subst hK hmg
  obtain ⟨C, gC, xC, kC, bC, tC⟩ := f
  have h := ps_raise (pos := pos) hc tk (pmk_own (m := m) (j := j) (p := p) (p2 := p2) (pos := p3) PySem.F.excBase_ValueError xC gC kC (raises_own bC tC) hg hdb)
  refine ⟨⟨fun pins s σ H D I hh => h.run pins s σ H D I ?_⟩, fun D' E σ s F C' R H hE hs hS h0 => ?_⟩
  · obtain ⟨C2, g2, w⟩ := hh
    rw [gC] at g2
    cases g2
    exact w
  · exact ⟨C, gC, rel x _ none s σ F C' H gC (.inr rfl) hs hS.at0 h0⟩
def spOfX (g : Gd) (K : PySem.W.Frag) (n : Nat) (asp : ASpX) : Sp := fun vs H Q E => vs.length = n ∧ ∃ F C R ds P PX, Sat (Bs.nil g) K F C R H ∧ RepL K F vs ds ∧ asp ds C P PX ∧ (∀ d v F' C' H', Ex F F' → Sat (Bs.nil g) K F' C' R H' → Rep K F' v d → P d C' → Q v H') ∧
  ∀ nm cls d F' C' H', g.mg nm = some cls → dOf nm d → Ex F F' → Sat (Bs.nil g) K F' C' R H' → PX nm C' → E cls d H'
structure CalX (P : Program) (w : World) (K : PySem.W.Frag) (mg : Str → Option Value) (base : Heap) (k : Nat) (x : Str) (n : Nat) (asp : ASpX) : Prop where
  ex : ∃ (f : Addr) (fd : FuncData) (ps : List Str), FnG P w K mg base k f fd ps (spOfX ⟨w, mg⟩ K n asp) ∧ mg x = some (.ref f) ∧ PySem.W.keepIn K (.ref f) = true ∧ Binds K fd ps []
def aCallX (W : AX') (asp : ASpX) (a : AA') : AE' := fun s C P => a s C fun ds C1 => asp ds C1 P (W s)
theorem sim_callX {g : Gd} (hw : B.g = g) {n : Nat} {asp : ASpX} {ta : TA} {a : AA'} (rel : WR B K g.mg W Wk) (ha : SimA B K n ta a) : SimE B K (tCallS (spOfX g K n asp) (WE Wk) ta) (aCallX W asp a) := by
  subst hw
  intro σ s F C R H Q P hs hS h k
  refine ha σ s F C R H _ _ hs hS h fun ds vs F1 C1 H1 e1 S1 r1 hl h1 => ?_
  exact ⟨by rw [r1.length, hl], F1, C1, R, ds, P, W s, S1.nil, r1, h1, fun d v F2 C2 H2 e2 S2 r2 h2 => k d v F2 C2 H2 (e1.trans e2) (S1.back e2 S2) r2 h2,
    fun nm cls d F2 C2 H2 hm hd e2 S2 h2 => rel nm cls d s σ F2 C2 H2 hm hd (hs.mono (e1.trans e2)) (S1.back e2 S2).at0 h2⟩
variable {e : Expr} {es : List Expr} {n : Nat} {t : TA} {a : AA'} {asp : ASpX} {k i : Nat}
theorem ae_callX {g : Gd} (c : CalX X.prog X.w K X.mg X.base k x n asp) (hr : Room i X.A) (hgd : X.A.guards = some []) (tk : Takes X Wk) (rel : WR B K g.mg W Wk) (ha : AA B X (e :: es) n t a) (hw : B.g = g := by first | rfl | assumption) (hX : (⟨X.w, X.mg⟩ : Gd) = g := by rfl) (hk : k ≤ i := by decide) (hg : Gl X x := by rfl)
    (hdb : (x == ("__debug__" : Str)) = false := by decide) (he : starEach (e :: es) X.env = (false, eval e X.env) :: starEach es X.env := by rfl) (hpl : (backTo pos (starEach es X.env)).any (·.1) = false := by rfl) (hK : X.K = K := by rfl) :
    AE B X (.Call (.Name x p) (e :: es) [] pos) (tCallS (spOfX g K n asp) (WE Wk) t) (aCallX W asp a) := by
  subst hK
  exact ⟨by
  obtain ⟨f, fd, ps, F, hm, kp, b⟩ := c.ex
  rw [← hX]
  exact pe_callG F (hr.mono hk) hgd hg hm kp b (fun σ => passAt tk σ) ha.pa hdb he hpl, sim_callX hw rel ha.sim⟩
end
def aBodyX (n : Nat) (b : AX' → AS') : ASpX := fun ds C P PX => b (fun _ nm C' => PX nm C') ⟨fun _ C' => P .non C', P, fun _ _ => False, fun _ _ => False⟩ (ds.map some ++ List.replicate (n - ds.length) none) C
theorem calX {P : Program} {w : World} {K : PySem.W.Frag} {mg : Str → Option Value} {base : Heap} {x y qual : Str} {st : Stmt} {f : Addr} {fd : FuncData} {N ps : List Str} {k n : Nat} {b : AX' → AS'} {asp : ASpX} (F : L2.Fun K x qual st f fd) (S : FnScope N ps (defScope st)) (hn : ps.length = n) (hm : mg y = some (.ref f)) (hb : Binds K fd ps [])
    (hbody : ∀ (B : Bs) (hw : B.g = ⟨w, mg⟩) (W : AX') (Wk : WX) (cdv : Value) (A : Around) (outer : List Env) (s : Shared) (H : Hp) (E : XK), Room k (A.deeper (envOfC qual (defScope st) s.heap.objs.size f cdv)) → A.guards = some [] →
      Takes (cxOf (L2.CX P w) P w K mg base N qual (defScope st) f cdv A outer s H E) Wk → WR B K mg W Wk →
      PassesOwn (model P w) (cxOf (L2.CX P w) P w K mg base N qual (defScope st) f cdv A outer s H E).A (cxOf (L2.CX P w) P w K mg base N qual (defScope st) f cdv A outer s H E).env (cxOf (L2.CX P w) P w K mg base N qual (defScope st) f cdv A outer s H E).xe →
      ∃ ts, ASs B (cxOf (L2.CX P w) P w K mg base N qual (defScope st) f cdv A outer s H E) (defBody st) ts (b W))
    (h : ∀ ds C P PX, ds.length = n → asp ds C P PX → aBodyX N.length b ds C P PX) : CalX P w K mg base (k + 1) y n asp := by
  subst hn
  refine ⟨f, fd, ps, fnG_of F S (fun vs H Q E z => z.1) (fun cdv A outer s H vs Q E hr hg z => ?_), hm, F.kp, hb⟩
  obtain ⟨hl, F1, C, R, ds, P1, PX, hS, hR, ha, hk, hx⟩ := z
  obtain ⟨ts, hps⟩ := hbody ⟨F1, R, ⟨w, mg⟩⟩ rfl (fun _ nm C' => PX nm C') (fun cls d _ H' => E cls d H') cdv A outer s H E hr hg (takes_of rfl rfl rfl rfl)
    (fun nm cls d s2 σ2 F2 C2 H2 hm2 hd2 hs2 S2 h2 => hx nm cls d F2 C2 H2 hm2 hd2 S2.bF S2.nil h2) (passes_of rfl)
  refine ⟨ts, hps.ps, ?_⟩
  have hb2 := h ds C P1 PX (by rw [← hR.length, hl]) ha
  refine hps.sim { nx := fun _ H' => Q .non H', rt := Q } ⟨fun _ C' => P1 .non C', P1, fun _ _ => False, fun _ _ => False⟩ _ _ F1 C R H ⟨fun s σ F' C' H' e _ S h => ?_, fun d v F' C' H' e r S h => ?_, fun _ _ _ _ _ _ _ _ h => h.elim, fun _ _ _ _ _ _ _ _ h => h.elim⟩ (Slo.start hR N.length) (hS.rebase rfl (Ex.refl _) (Ex.refl _)) hb2
  · exact hk .non .non F' C' H' e S.nil .non h
  · exact hk d v F' C' H' e S.nil r h
def aHand (sub : Str → Str → Option Bool) (Wout : AX') (E : AEnds) : List (Str × AS') → AX'
  | [] => Wout
  | (c, h) :: r => fun s nm C => match sub nm c with | some true => h E s C | some false => aHand sub Wout E r s nm C | none => False
def aTry (sub : Str → Str → Option Bool) (body : AX' → AS') (hds : List (Str × AS')) (Wout : AX') : AS' := fun E s C => body (aHand sub Wout E hds) E s C
/-- what is known of which class is below which -/
def SubF (K : PySem.W.Frag) (mg : Str → Option Value) (sub : Str → Str → Option Bool) : Prop := ∀ nm c b cls cc, sub nm c = some b → mg nm = some cls → mg c = some cc → PySem.W.exmOne K cls cc = some b
inductive AHds (X : Cx) : List ExceptHandler → List (Value × (Addr → Value → Option Addr → TS)) → List (Str × AS') → Prop
  | nil : AHds X [] [] []
  | cons {x : Str} {c : Value} {ts : TS} {ha : AS'} {b₀ : Stmt} {suite : List Stmt} {np pos' : Pos} {hds : List ExceptHandler} {l : List (Value × (Addr → Value → Option Addr → TS))} {la : List (Str × AS')} (hm : X.mg x = some c) (hg : Gl X x) (hdb : (x == ("__debug__" : Str)) = false)
      (hsu : ∀ (B : Bs) (hw : B.g = ⟨X.w, X.mg⟩) (a : Addr) (oe : Obj) (pn : List (Addr × Obj)), ASs B (X.suite a ((a, oe) :: pn)) (b₀ :: suite) ts ha) (r : AHds X hds l la) :
      AHds X (.ExceptHandler (some (.Name x np)) none (b₀ :: suite) pos' :: hds) ((c, fun _ _ _ => ts) :: l) ((x, ha) :: la)
section
variable {X : Cx} {body : List Stmt} {h₀ : ExceptHandler} {hds : List ExceptHandler} {l : List (Value × (Addr → Value → Option Addr → TS))} {la : List (Str × AS')} {pos : Pos} {tb : WX → TS} {W : AX'} {Wk : WX} {ab : AX' → AS'} {sub : Str → Str → Option Bool}
theorem AHds.ok {hds : List ExceptHandler} (h : AHds X hds l la) : HdsOk X hds l := by
  induction h with
  | nil => exact .nil
  | cons hm hg hdb hsu r ih => exact .cons ⟨hg, hdb, .inl hm⟩ (fun a oe cls d pn _ _ => (hsu (Bs.nil ⟨X.w, X.mg⟩) rfl a oe pn).ps) ih
theorem takes_any (hs : X.stack = X.env :: X.outer) (hf : X.env.frame = some X.env.locals) (pn : List (Addr × Obj)) : Takes (X.tr pn fun e s₁ => wpAny (model X.prog X.w) X.A (noteFrame e X.env) (fun _ _ => True) (fun _ _ => True) s₁) Wk := by
  intro u s' xx
  obtain ⟨a, B, sI, pins', σ', H', cls, d, rfl, J', nb, up, sky, na, os, ag, w⟩ := xx
  have hfr : X.A.frames = some (X.env :: X.outer) := by
    have := J'.ok.frames
    rw [show (X.tr pn fun e s₁ => wpAny (model X.prog X.w) X.A (noteFrame e X.env) (fun _ _ => True) (fun _ _ => True) s₁).stack = X.stack from rfl, hs] at this
    exact this
  have sky' : Sky B (X.env :: X.outer) a (Zc cls d) X.env.locals s'.heap := by rw [← hs]; exact sky
  exact wpAny_mono (Sky.land (Q := fun _ _ => True) (E₁ := fun _ _ => True) Zc.steady hfr hf sky' fun _ _ _ => trivial) (fun _ _ _ => trivial) (fun _ _ _ => trivial)
theorem EndsR.ground {K : PySem.W.Frag} {F R : Hp} {E : AEnds} {D' : Ends} (hE : EndsR B K F R E D') (hbF : Ex B.F0 F) (hbR : Ex B.R0 R) : EndsR ⟨F, R, B.g⟩ K F R E D' :=
  ⟨fun s σ F' C' H' e hs S h => hE.nx s σ F' C' H' e hs (S.rebase rfl (hbF.trans e) hbR) h, fun d v F' C' H' e r S h => hE.rt d v F' C' H' e r (S.rebase rfl (hbF.trans e) hbR) h,
    fun s σ F' C' H' e hs S h => hE.bk s σ F' C' H' e hs (S.rebase rfl (hbF.trans e) hbR) h, fun s σ F' C' H' e hs S h => hE.ct s σ F' C' H' e hs (S.rebase rfl (hbF.trans e) hbR) h⟩
/-- a def that lets nothing out, from one whose walk tells so -/
theorem AE.nox {e : Expr} {t : TE} {a : AE'} (h : AE B X.nox e t a) : AE B X e t a := ⟨h.pe.nox, h.sim⟩
theorem ASs.nox {st : List Stmt} {t : TS} {a : AS'} (h : ASs B X.nox st t a) : ASs B X st t a := ⟨h.ps.nox, h.sim⟩
theorem PS.nox {st : Stmt} {t : TS} (h : PS X.nox st t) : PS X st t := ⟨fun pins s σ H D I hw =>
  wpAny_mono (h.run pins s σ H D (I.wish _) hw) (fun _ _ q => q.unwish) fun _ _ z => False.elim z⟩
theorem AS.nox {st : Stmt} {t : TS} {a : AS'} (h : AS B X.nox st t a) : AS B X st t a := ⟨PS.nox h.ps, h.sim⟩
theorem AT.nox {e : Expr} {t : TT} {a : AT'} (h : AT B X.nox e t a) : AT B X e t a := ⟨h.pt.nox, h.sim⟩
theorem takes_no : Takes X fun _ _ _ _ => False := fun u s' x => by
  obtain ⟨_, _, _, _, _, _, _, _, _, _, _, _, _, _, _, _, w⟩ := x
  exact w.elim
theorem wr_no {K : PySem.W.Frag} {mg : Str → Option Value} : WR B K mg (fun _ _ _ => False) fun _ _ _ _ => False := fun _ _ _ _ _ _ _ _ _ _ _ _ h => h
end
/-- which class is below which, by a list -/
def subL (l : List (Str × Str × Bool)) : Str → Str → Option Bool := fun nm c => match l with
  | [] => none
  | (a, b, r) :: l => if nm = a ∧ c = b then some r else subL l nm c
theorem subF_nil {K : PySem.W.Frag} {mg : Str → Option Value} : SubF K mg (subL []) := fun _ _ _ _ _ h => by cases h
theorem subF_cons {K : PySem.W.Frag} {mg : Str → Option Value} {a b : Str} {r : Bool} {l : List (Str × Str × Bool)} {C1 C2 : Value} (h1 : mg a = some C1) (h2 : mg b = some C2) (h : PySem.W.exmOne K C1 C2 = some r) (t : SubF K mg (subL l)) : SubF K mg (subL ((a, b, r) :: l)) := by
  intro nm c q cls cc e m1 m2
  unfold subL at e
  split at e
  · rename_i z
    obtain ⟨rfl, rfl⟩ := z
    rw [h1] at m1; rw [h2] at m2
    cases m1; cases m2; cases e
    exact h
  · exact t nm c q cls cc e m1 m2
theorem exm_of {K : PySem.W.Frag} {S T : Addr} {r : Bool} (h1 : PySem.W.subIn K (.ref T) (.type "BaseException") = some true) (h2 : PySem.W.isClsIn K T = true) (h3 : PySem.W.typeIn K (.ref T) = some (.type "type")) (h4 : PySem.W.subIn K (.ref S) (.ref T) = some r) :
    PySem.W.exmOne K (.ref S) (.ref T) = some r := by
  have e1 : (PySem.W.subIn K (.ref T) (.type "BaseException") == some true) = true := by rw [h1] <;> rfl
  have e2 : ((PySem.W.clsIn K T).isSome && PySem.W.typeIn K (.ref T) == some (.type "type")) = true := by
    have h2' : (PySem.W.clsIn K T).isSome = true := h2
    rw [h2', h3] <;> rfl
  show (if (PySem.W.subIn K (.ref T) (.type "BaseException") == some true) = true then (if ((PySem.W.clsIn K T).isSome && PySem.W.typeIn K (.ref T) == some (.type "type")) = true then PySem.W.subIn K (.ref S) (.ref T) else none) else none) = some r
  rw [if_pos e1, if_pos e2]
  exact h4
section
variable {C : AH} {P : D → AH → Prop} {PX : Str → AH → Prop} {W : AX'} {E : AEnds} {s : ASt}
theorem g_bodyX {n : Nat} {b : AX' → AS'} {ds : List D} {s : ASt} (h0 : ds.map some ++ List.replicate (n - ds.length) none = s) (h : b (fun _ nm C' => PX nm C') ⟨fun _ C' => P .non C', P, fun _ _ => False, fun _ _ => False⟩ s C) : aBodyX n b ds C P PX := by
  subst h0
  exact h
theorem g_callX {asp : ASpX} {a : AA'} (h : a s C fun ds C1 => asp ds C1 P (W s)) : aCallX W asp a s C P := h
theorem g_raise {nm : Str} (h : W s nm C) : aRaise W nm E s C := h
theorem g_try {sub : Str → Str → Option Bool} {body : AX' → AS'} {hds : List (Str × AS')} (h : body (aHand sub W E hds) E s C) : aTry sub body hds W E s C := h
end
end AL
namespace AL
open PySem PySem.Spec PyProof.Rows L2
end AL
namespace AL
open PySem PySem.Spec PyProof.Rows L2
variable {B : Bs}
section
variable {X : Cx} {pos cpos apos : Pos} {o i e : Expr} {to ti te : TE} {ao ai ae : AE'} {K : PySem.W.Frag}
def aGet1 (o i : AE') : AE' := fun s C P => o s C fun x C1 => (asK C1 x).isSome = true ∧ i s C1 fun y C2 => match asK C2 x, keyOf y with
  | some es, some k => P ((valD es k).getD .non) C2
  | _, _ => False
def aGet2 (o i e : AE') : AE' := fun s C P => o s C fun x C1 => (asK C1 x).isSome = true ∧ i s C1 fun y C2 => e s C2 fun z C3 => match asK C3 x, keyOf y with
  | some es, some k => P ((valD es k).getD z) C3
  | _, _ => False
/-- {k: v}, k of any kind that may be -/
def aDispV (ak av : AE') : AE' := fun s C P => ak s C fun dk C1 => av s C1 fun dv C2 => match keyOf dk with
  | some k => ∀ p, C2 p = none → P (.ce p) (put C2 p (.dk [(k, dv)]))
  | none => False
end
section
variable {C : AH} {P : D → AH → Prop} {s : ASt} {o i e : AE'}
def kGet1 (i : AE') (s : ASt) (P : D → AH → Prop) : D → AH → Prop := fun x C1 => (asK C1 x).isSome = true ∧ i s C1 fun y C2 => match asK C2 x, keyOf y with
  | some es, some k => P ((valD es k).getD .non) C2
  | _, _ => False
theorem g_get1 (h : o s C (kGet1 i s P)) : aGet1 o i s C P := h
def kGet2 (i e : AE') (s : ASt) (P : D → AH → Prop) : D → AH → Prop := fun x C1 => (asK C1 x).isSome = true ∧ i s C1 fun y C2 => e s C2 fun z C3 => match asK C3 x, keyOf y with
  | some es, some k => P ((valD es k).getD z) C3
  | _, _ => False
theorem g_get2 (h : o s C (kGet2 i e s P)) : aGet2 o i e s C P := h
def kDispV (P : D → AH → Prop) (dk : D) : D → AH → Prop := fun dv C2 => match keyOf dk with
  | some k => ∀ p, C2 p = none → P (.ce p) (put C2 p (.dk [(k, dv)]))
  | none => False
theorem g_dispV {ak av : AE'} (h : ak s C fun dk C1 => av s C1 (kDispV P dk)) : aDispV ak av s C P := h
theorem g_kDispVI {i : Int} {dv : D} (h : ∀ p, C p = none → P (.ce p) (put C p (.dk [(.inl i, dv)]))) : kDispV P (.int i) dv C := h
end
end AL
namespace AL
open PySem PySem.Spec PyProof.Rows L2
variable {B : Bs}
abbrev KN : List (NestedKey × Addr × V) → List (NestedKey × Addr × Value) → Prop := Paired fun x y => x.1 = y.1 ∧ x.2.1 = y.2.1 ∧ RelV x.2.2 y.2.2
def valN {α : Type} (xs : List (NestedKey × Addr × α)) (k : NestedKey) : Option α := (xs.find? fun x => decide (x.1 = k)).map (·.2.2)
theorem valN_pos {α : Type} {x : NestedKey × Addr × α} {xs : List (NestedKey × Addr × α)} {k : NestedKey} (e : x.1 = k) : valN (x :: xs) k = some x.2.2 := by simp [valN, e]
theorem valN_neg {α : Type} {x : NestedKey × Addr × α} {xs : List (NestedKey × Addr × α)} {k : NestedKey} (e : ¬ x.1 = k) : valN (x :: xs) k = valN xs k := by simp [valN, e]
def putN (xs : List (NestedKey × Addr × V)) (k : NestedKey) (a : Addr) (v : V) : List (NestedKey × Addr × V) :=
  if (valN xs k).isSome = true then xs.map (fun x => if x.1 = k then (x.1, x.2.1, v) else x) else xs ++ [(k, a, v)]
theorem KN.val {xs : List (NestedKey × Addr × V)} {ys : List (NestedKey × Addr × Value)} (r : KN xs ys) (k : NestedKey) : RelO (valN xs k) ((atKey ys k).map (·.2)) := by
  induction r with
  | nil => exact True.intro
  | @cons p q ps qs h t ih =>
    obtain ⟨h1, _, h2⟩ := h
    by_cases e : p.1 = k
    · have e' : q.1 = k := h1.symm.trans e
      have b : atKey (q :: qs) k = some q.2 := by simp [atKey, List.find?_cons, e']
      rw [valN_pos e, b]; exact h2
    · have e' : ¬ q.1 = k := fun z => e (h1.trans z)
      have b : atKey (q :: qs) k = atKey qs k := by simp [atKey, List.find?_cons, e']
      rw [valN_neg e, b]; exact ih
theorem KN.put {xs : List (NestedKey × Addr × V)} {ys : List (NestedKey × Addr × Value)} (r : KN xs ys) (k : NestedKey) (b : Addr) {y : V} {u : Value} (ry : RelV y u) : KN (putN xs k b y) (storedH ys k b u) := by
  have e : (valN xs k).isSome = (atKey ys k).isSome := by rw [(r.val k).isSome_eq, Option.isSome_map]
  unfold putN storedH
  rw [e]
  by_cases q : (atKey ys k).isSome = true
  · rw [if_pos q, if_pos q]
    clear e q
    induction r with
    | nil => exact .nil
    | @cons p q ps qs h t ih =>
      rw [List.map_cons, List.map_cons]
      refine .cons ?_ ih
      obtain ⟨h1, h2, h3⟩ := h
      unfold putAt
      by_cases e : p.1 = k
      · rw [if_pos e, if_pos (h1.symm.trans e)]; exact ⟨h1, h2, ry⟩
      · rw [if_neg e, if_neg (fun z => e (h1.trans z))]; exact ⟨h1, h2, h3⟩
  · rw [if_neg q, if_neg q]; exact Paired.snoc r ⟨rfl, rfl, ry⟩
/-- the keys of the entries stand -/
def KeysN (H : Hp) (xs : List (NestedKey × Addr × V)) : Prop := ∀ x ∈ xs, VKey H (.ref x.2.1) x.1 ∧ x.1.depth ≤ 8
theorem KeysN.put {H : Hp} {xs : List (NestedKey × Addr × V)} (r : KeysN H xs) {k : NestedKey} {a : Addr} {v : V} (hk : VKey H (.ref a) k) (hd : k.depth ≤ 8) : KeysN H (putN xs k a v) := by
  unfold putN
  intro x hx
  split at hx
  · obtain ⟨y, hy, rfl⟩ := List.mem_map.mp hx
    split
    · exact r y hy
    · exact r y hy
  · rcases List.mem_append.mp hx with q | q
    · exact r x q
    · rw [List.mem_singleton.mp q]; exact ⟨hk, hd⟩
end AL
namespace AL
open PySem PySem.Spec PyProof.Rows L2
end AL
namespace AL
open PySem PySem.Spec PyProof.Rows L2
variable {B : Bs}
mutual
def keyN : D → Option NestedKey
  | .non => some .none
  | .bl b => some (.num (if b = true then 1 else 0))
  | .int i => some (.num i)
  | .str x => some (.text x)
  | .tup ds => (keyNs ds).map .tup
  | _ => none
def keyNs : List D → Option (List NestedKey)
  | [] => some []
  | d :: ds => match keyN d, keyNs ds with | some k, some ks => some (k :: ks) | _, _ => none
end
def isTup : D → Bool
  | .tup _ => true
  | _ => false
/-- a tuple that is a key -/
def keyT (d : D) : Option NestedKey := if isTup d = true then (match keyN d with | some k => if k.depth ≤ 8 then some k else none | none => none) else none
def asN (C : AH) : D → Option (List (NestedKey × D))
  | .ce p => (match C p with | some (.dn es) => some es | _ => none)
  | _ => none
def valND (es : List (NestedKey × D)) (k : NestedKey) : Option D := (es.find? fun kv => decide (kv.1 = k)).map (·.2)
def putND (es : List (NestedKey × D)) (k : NestedKey) (d : D) : List (NestedKey × D) :=
  if (valND es k).isSome = true then es.map (fun kv => if kv.1 = k then (kv.1, d) else kv) else es ++ [(k, d)]
/-- what a dict holds at a key; none: not to be told -/
def lookD (C : AH) (x y : D) : Option (Option D) := match asK C x with
  | some es => (match keyOf y with | some k => some (valD es k) | none => if isNon y = true then some none else none)
  | none => (match asN C x, keyT y with | some es, some k => some (valND es k) | _, _ => none)
section
variable {K : PySem.W.Frag} {F F' : Hp} {C : AH} {R H : Hp}
theorem RepN.val (k : NestedKey) : ∀ {xs : List (NestedKey × Addr × V)} {es : List (NestedKey × D)}, RepN K F xs es → (match valND es k with | some d => ∃ v, valN xs k = some v ∧ Rep K F v d | none => valN xs k = none)
  | _, _, .nil => rfl
  | (j, a, v) :: xs, (_, d) :: es, .cons q b r t => by
    have ih := RepN.val k t
    by_cases e : j = k
    · subst e
      rw [valN_pos rfl]
      simp only [valND, List.find?_cons, decide_true, Option.map_some]
      exact ⟨v, rfl, r⟩
    · rw [valN_neg e]
      simp only [valND, List.find?_cons, decide_eq_false e]
      exact ih
theorem RepN.len : ∀ {xs : List (NestedKey × Addr × V)} {es : List (NestedKey × D)}, RepN K F xs es → xs.length = es.length
  | _, _, .nil => rfl
  | _, _, .cons _ _ _ t => by rw [List.length_cons, List.length_cons, RepN.len t]
theorem RepN.some_eq (k : NestedKey) {xs : List (NestedKey × Addr × V)} {es : List (NestedKey × D)} (h : RepN K F xs es) : (valN xs k).isSome = (valND es k).isSome := by
  have := h.val k
  cases q : valND es k with
  | none => rw [q] at this; rw [show valN xs k = none from this]; rfl
  | some d => rw [q] at this; obtain ⟨v, e, _⟩ := this; rw [e]; rfl
theorem RepN.repl (k : NestedKey) {v : V} {d : D} (r : Rep K F v d) : ∀ {xs : List (NestedKey × Addr × V)} {es : List (NestedKey × D)}, RepN K F xs es → RepN K F (xs.map fun x => if x.1 = k then (x.1, x.2.1, v) else x) (es.map fun kv => if kv.1 = k then (kv.1, d) else kv)
  | _, _, .nil => .nil
  | (j, a, _) :: _, _, .cons q1 q2 q t => by
    rw [List.map_cons, List.map_cons]
    by_cases e : j = k
    · rw [if_pos e, if_pos e]; exact .cons q1 q2 r (RepN.repl k r t)
    · rw [if_neg e, if_neg e]; exact .cons q1 q2 q (RepN.repl k r t)
theorem RepN.snoc {k : NestedKey} {a : Addr} {v : V} {d : D} (h1 : VKey F (.ref a) k) (h2 : k.depth ≤ 8) (r : Rep K F v d) : ∀ {xs : List (NestedKey × Addr × V)} {es : List (NestedKey × D)}, RepN K F xs es → RepN K F (xs ++ [(k, a, v)]) (es ++ [(k, d)])
  | _, _, .nil => .cons h1 h2 r .nil
  | _, _, .cons q1 q2 q t => .cons q1 q2 q (RepN.snoc h1 h2 r t)
theorem RepN.put {k : NestedKey} {a : Addr} {v : V} {d : D} (h1 : VKey F (.ref a) k) (h2 : k.depth ≤ 8) (r : Rep K F v d) {xs : List (NestedKey × Addr × V)} {es : List (NestedKey × D)} (h : RepN K F xs es) : RepN K F (putN xs k a v) (putND es k d) := by
  unfold putN putND
  rw [h.some_eq k]
  split
  · exact RepN.repl k r h
  · exact RepN.snoc h1 h2 r h
def OkO (K : PySem.W.Frag) (F : Hp) (o : Option V) (r : Option D) : Prop := match r with | some d => ∃ z, o = some z ∧ Rep K F z d | none => o = none
theorem OkO.k {kvs : List (Key × V)} {es : List (Key × D)} {k : Key} (h : RepK K F kvs es) : OkO K F (valV kvs k) (valD es k) := by
  have := RepK.val k h
  unfold OkO
  cases q : valD es k with
  | none => rw [q] at this; exact this
  | some d => rw [q] at this; exact this
theorem OkO.n {xs : List (NestedKey × Addr × V)} {es : List (NestedKey × D)} {k : NestedKey} (h : RepN K F xs es) : OkO K F (valN xs k) (valND es k) := by
  have := RepN.val k h
  unfold OkO
  cases q : valND es k with
  | none => rw [q] at this; exact this
  | some d => rw [q] at this; exact this
end
section
variable {X : Cx} {pos cpos apos p2 : Pos} {o i e : Expr} {to ti te : TE} {ao ai a : AE'} {K : PySem.W.Frag}
def aGetN (o i : AE') : AE' := fun s C P => o s C fun x C1 => i s C1 fun y C2 => match lookD C2 x y with
  | some (some d) => P d C2
  | _ => False
def aInN (neg : Bool) (i o : AE') : AE' := fun s C P => i s C fun y C1 => o s C1 fun x C2 => match lookD C2 x y with
  | some r => P (.bl (if neg then !r.isSome else r.isSome)) C2
  | none => False
def isDic (C : AH) (x : D) : Bool := (asK C x).isSome || (asN C x).isSome
def aGet1N (o i : AE') : AE' := fun s C P => o s C fun x C1 => isDic C1 x = true ∧ i s C1 fun y C2 => match lookD C2 x y with
  | some r => P (r.getD .non) C2
  | none => False
/-- d[k] = e -/
def aPutN (o i e : AE') : AS' := fun E s C => e s C fun d C1 => o s C1 fun x C2 => i s C2 fun y C3 => match x with
  | .ce p => (match C3 p with
    | some (.dk es) => (match keyOf y with | some k => es.length < sizeLine ∧ E.nx s (put C3 p (.dk (putD es k d))) | none => False)
    | some (.dn es) => (match keyT y with | some k => es.length < sizeLine ∧ E.nx s (put C3 p (.dn (putND es k d))) | none => False)
    | _ => False)
  | _ => False
end
end AL
namespace AL
open PySem PySem.Spec PyProof.Rows L2
variable {B : Bs}
theorem inv_known {X : Cx} {pins : List (Addr × Obj)} {σ : L2.St} {H : Hp} {s sI : Shared} {a : Addr} {o : HO} (I : Inv X pins σ H s) (J : Inv X pins σ H sI) (hI : sI.heap.get? a = none) (na : H a = none) (nL : a ≠ X.env.locals) (nF : a ∉ X.fs)
    (hc : ∀ v, ¬ s.heap.IsCell a v) (new : ObjOk X.prog X.w (upd H a o) s.heap a o) : Inv X pins σ (upd H a o) s := by
  have nit : ∀ b u, H b = some u → b ≠ a := fun b u e z => by rw [z, na] at e; cases e
  have up : ∀ b u, H b = some u → upd H a o b = some u := fun b u e => by rw [upd_ne (nit b u e)]; exact e
  have old : ∀ ob, X.s_0.heap.get? a = some ob → a ∈ X.ex := fun ob e => by
    by_cases hx : a ∈ X.ex
    · exact hx
    · obtain ⟨o', e'⟩ := J.base.there a ob e hx
      rw [hI] at e'; cases e'
  refine ⟨I.ok, I.os, I.bare, ⟨I.base.keep, I.base.slot, fun b ob e n hx => ?_, I.base.there, fun b xs e => up b _ (I.base.tups b xs e), fun b ob u e => up b _ (I.base.frzs b ob u e), fun b ps e => ?_⟩, I.loc, I.cell, ?_, fun x c e => ?_, fun p hp => ?_, fun b u e => ?_, I.len⟩
  · have hb : b ≠ a := fun z => by subst z; exact hx (old ob e)
    rw [upd_ne hb]
    exact I.base.free b ob e n hx
  · obtain ⟨more, e'⟩ := I.base.tbls b ps e
    exact ⟨more, up b _ e'⟩
  · rw [upd_ne (Ne.symm nL)]
    exact I.free
  · have hb : c ≠ a := fun z => by
      obtain ⟨v, q⟩ := I.cell x c e
      rw [z] at q
      exact hc v q
    rw [upd_ne hb]
    exact I.freeC x c e
  · obtain ⟨h1, h2, h3⟩ := I.pin p hp
    have hb : p.1 ≠ a := fun z => by
      have := (J.pin p hp).1
      rw [z, hI] at this; cases this
    exact ⟨h1, by rw [upd_ne hb]; exact h2, h3⟩
  · by_cases hb : b = a
    · rw [hb, upd_same] at e
      cases e
      rw [hb]
      exact new
    · rw [upd_ne hb] at e
      exact (I.hok b u e).stay (fun c v _ q => q) (fun c q => up c _ q) fun c _ q => up c _ q
theorem inv_suite {X : Cx} {pins : List (Addr × Obj)} {σ : L2.St} {H : Hp} {s : Shared} (I : Inv X pins σ H s) (a : Addr) : Inv (X.suite a (X.pn ++ pins)) [] σ H s :=
  ⟨I.ok.suite _ _, I.os, I.bare, I.base, I.loc, I.cell, I.free, I.freeC, fun p hp => by
    have hp' : p ∈ X.pn ++ pins := by rw [List.append_nil] at hp; exact hp
    exact I.pin p hp', I.hok, I.len⟩
theorem inv_unsuite {X : Cx} {pins : List (Addr × Obj)} {σ : L2.St} {H : Hp} {s : Shared} {a : Addr} (I : Inv (X.suite a (X.pn ++ pins)) [] σ H s) (ok : X.Ok) : Inv X pins σ H s :=
  ⟨ok, I.os, I.bare, I.base, I.loc, I.cell, I.free, I.freeC, fun p hp => I.pin p (by show p ∈ (X.pn ++ pins) ++ []; rw [List.append_nil]; exact hp), I.hok, I.len⟩
/-- the ends behind a suite whose clause names slot i -/
def goneE (i : Nat) (D : Ends) : Ends := { nx := fun σ' H' => D.nx (σ'.set i none) H', rt := D.rt, bk := fun σ' H' => D.bk (σ'.set i none) H', ct := fun σ' H' => D.ct (σ'.set i none) H' }
/-- what the clauses wish, one after the other: (classes, slot, suite) -/
def wManyA (K : PySem.W.Frag) (Wout : WX) (D : Ends) : List (List Value × Nat × TS) → WX
  | [] => Wout
  | (c, i, ts) :: r => fun cls d σ H => ∃ b, PySem.W.exmAny K cls c = some b ∧ (b = true → if i = 999 then ts D σ H else d = none ∧ ∀ a, H a = none → ts (goneE i D) (σ.set i (some (.ref a))) (upd H a (.ext (ExcAt cls a)))) ∧ (b = false → wManyA K Wout D r cls d σ H)
inductive HdsA (X : Cx) : List ExceptHandler → List (List Value × Nat × TS) → Prop
  | nil : HdsA X [] []
  | cons {x n : Str} {c : Value} {i : Nat} {ts : TS} {b₀ : Stmt} {suite : List Stmt} {np pos' : Pos} {hds : List ExceptHandler} {l : List (List Value × Nat × TS)} (hc : Names X x c) (hi : X.N[i]? = some n) (hln : X.env.kindOf n = some .local)
      (hsu : ∀ (a : Addr) (pn : List (Addr × Obj)), PSs (X.suite a pn) (b₀ :: suite) ts) (r : HdsA X hds l) (h9 : i ≠ 999) :
      HdsA X (.ExceptHandler (some (.Name x np)) (some n) (b₀ :: suite) pos' :: hds) (([c], i, ts) :: l)
  | cons2 {x x2 n : Str} {c c2 : Value} {i kk : Nat} {ts : TS} {b₀ : Stmt} {suite : List Stmt} {np np2 tp pos' : Pos} {hds : List ExceptHandler} {l : List (List Value × Nat × TS)} (hc : Names X x c) (hc2 : Names X x2 c2) (hi : X.N[i]? = some n) (hln : X.env.kindOf n = some .local)
      (hsu : ∀ (a : Addr) (pn : List (Addr × Obj)), PSs (X.suite a pn) (b₀ :: suite) ts) (r : HdsA X hds l) (h9 : i ≠ 999) :
      HdsA X (.ExceptHandler (some (.Tuple [.Name x np, .Name x2 np2] kk tp)) (some n) (b₀ :: suite) pos' :: hds) (([c, c2], i, ts) :: l)
  | cons3 {x x2 x3 : Str} {c c2 c3 : Value} {kk : Nat} {ts : TS} {b₀ : Stmt} {suite : List Stmt} {np np2 np3 tp pos' : Pos} {hds : List ExceptHandler} {l : List (List Value × Nat × TS)} (hc : Names X x c) (hc2 : Names X x2 c2) (hc3 : Names X x3 c3)
      (hsu : ∀ (a : Addr) (oe : Obj) (pn : List (Addr × Obj)), PSs (X.suite a ((a, oe) :: pn)) (b₀ :: suite) ts) (r : HdsA X hds l) :
      HdsA X (.ExceptHandler (some (.Tuple [.Name x np, .Name x2 np2, .Name x3 np3] kk tp)) none (b₀ :: suite) pos' :: hds) (([c, c2, c3], 999, ts) :: l)
theorem flyZ_keeps {base h h' : Heap} {l : List Env} {e : Addr} {Z : Obj → Prop} (x : HandSPX.FlyingZ base l e Z h) (k : ∀ b o, h.get? b = some o → h'.get? b = some o) : HandSPX.FlyingZ base l e Z h' := by
  obtain ⟨f1, f2, f3, oe, vs, T, oT, ts, he, hz, hd, h1, hnT, hTe, hT, hdT, h3⟩ := x
  exact ⟨fun b o hb => k b o (f1 b o hb), f2, f3.of_keeps fun b o ho _ => ⟨o, k b o ho, rfl⟩, oe, vs, T, oT, ts, k _ _ he, hz, hd, h1, hnT, hTe, k _ _ hT, hdT, h3⟩
theorem excAt_ok {P : Program} {w : World} {H : Hp} {h : Heap} {a : Addr} {cls : Value} {oe : Obj} (he : h.get? a = some oe) (hz : Zc cls none oe) (hd : ∃ vs, oe.data = .fields vs) : ObjOk P w H h a (.ext (ExcAt cls a)) := by
  obtain ⟨vs, hd⟩ := hd
  exact ⟨⟨oe, vs, he, hz.1, hz.2, hd⟩, ⟨oe, he⟩, fun h1 h2 ⟨o, vs, e, r⟩ k => ⟨o, vs, k o e, r⟩⟩
section
variable {X : Cx} {body : List Stmt} {h₀ : ExceptHandler} {hds : List ExceptHandler} {l : List (List Value × Nat × TS)} {pos : Pos} {tb : WX → TS} {Wout : WX}
theorem ps_try_manyA (hN : X.N.Nodup) (hs : X.stack = X.env :: X.outer) (hf : X.env.frame = some X.env.locals) (tk : Takes X Wout)
    (hb : ∀ (W : WX) (pn : List (Addr × Obj)) (xe : Value → Shared → Prop), Takes (X.tr pn xe) W → PassesOwn (model X.prog X.w) X.A X.env xe → PSs (X.tr pn xe) body (tb W))
    (hh : HdsA X (h₀ :: hds) l) : PS X (.Try body (h₀ :: hds) [] [] pos) (fun D σ H => tb (wManyA X.K Wout D l) D σ H) := by
  refine ⟨fun pins s σ H D I h => ?_⟩
  have ok := I.ok
  have hfr : X.A.frames = some (X.env :: X.outer) := by rw [ok.frames, hs]
  refine wpAny_Try_except ?_
  refine wpAny_mono ((hb (wManyA X.K Wout D l) (X.pn ++ pins) (fun e s₁ => wpAny (model X.prog X.w) X.A (noteFrame e X.env) (fun _ s₂ => wpAny (model X.prog X.w) X.A (setFlight e none) (fun _ s₃ =>
    wpAny (model X.prog X.w) X.A (handleBy e X.env (h₀ :: hds)) (SP X pins D) X.xe s₃) X.xe s₂) X.xe s₁) (fun u s' xx => ?_) PassesOwn.looking).run [] s σ H D (I.toTry _) h) (fun f s1 hsp => ?_) (fun e s1 he => he)
  · -- the catch
    obtain ⟨a, B, sI, pins', σ', H', cls, d, rfl, J', nb, up, sky, na, os, ag, w⟩ := xx
    have J : Inv X pins σ' H' sI := J'.ofTry ok
    have sky' : Sky B (X.env :: X.outer) a (Zc cls d) X.env.locals s'.heap := by rw [← hs]; exact sky
    show wpAny (model X.prog X.w) X.A (noteFrame (.ref a) X.env) _ _ _
    refine Sky.land Zc.steady hfr hf sky' fun h3 fl0 up3 => ?_
    have go : ∀ {hds' : List ExceptHandler} {l' : List (List Value × Nat × TS)}, HdsA X hds' l' → ∀ h3, HandSPX.FlyingZ B (X.env :: X.outer) a (Zc cls d) h3 → s'.heap.UpToSlots h3 → wManyA X.K Wout D l' cls d σ' H' →
        wpAny (model X.prog X.w) X.A (handleBy (.ref a) X.env hds') (SP X pins D) X.xe { s' with heap := h3 } := by
      intro hds' l' hk
      have notFr : ∀ {h : Heap} {o : Obj} {vs : Array Value}, h.FunFrames B (X.env :: X.outer) → h.get? a = some o → o.data = .fields vs → a ∉ frs (X.env :: X.outer) := fun {h o vs} ff e dd hm => by
        obtain ⟨_, o', e', hnf⟩ := ff.mem hm
        rw [e] at e'; cases e'
        exact hnf _ dd
      obtain ⟨oe0, vs0, he0, hz0, hd0⟩ := fl0.there
      have nfr := notFr fl0.2.2.1 he0 hd0
      have hI : sI.heap.get? a = none := by
        cases q : sI.heap.get? a with
        | none => rfl
        | some o =>
          have := nb a o q (by rw [hs]; exact nfr)
          rw [fl0.2.1] at this; cases this
      have nL : a ≠ X.env.locals := fun z => nfr (List.mem_filterMap.mpr ⟨X.env, List.mem_cons_self, by rw [hf, z]⟩)
      have nF : a ∉ X.fs := fun hm => by
        obtain ⟨e, he, q⟩ := List.mem_filterMap.mp hm
        exact nfr (List.mem_filterMap.mpr ⟨e, List.mem_cons_of_mem _ he, q⟩)
      -- the suite of a clause that catches
      have suite_ : ∀ {n : Str} {i : Nat} {ts : TS} {b₀ : Stmt} {suite : List Stmt} {pos' : Pos}, X.N[i]? = some n → X.env.kindOf n = some .local → (∀ (a : Addr) (pn : List (Addr × Obj)), PSs (X.suite a pn) (b₀ :: suite) ts) →
          d = none → (∀ a, H' a = none → ts (goneE i D) (σ'.set i (some (.ref a))) (upd H' a (.ext (ExcAt cls a)))) → ∀ h3, HandSPX.FlyingZ B (X.env :: X.outer) a (Zc cls d) h3 → s'.heap.UpToSlots h3 → ∀ {E : Value → Shared → Prop},
          wpAny (model X.prog X.w) (X.A.mark (some (.ref a))) (setFlight (.ref a) none) (fun _ s5 => wpAny (model X.prog X.w) (X.A.mark (some (.ref a))) (storeName X.env n (.ref a)) (fun _ s6 => wpAny (model X.prog X.w) (X.A.mark (some (.ref a))) (execs (b₀ :: suite) X.env)
            (fun f s7 => wpAny (model X.prog X.w) X.A (do bindName X.env n .none; unbindBehindTheSuite X.env n pos') (fun _ s8 => SP X pins D f s8) X.xe s7) (fun _ _ => False) s6) (fun _ _ => False) s5) (fun _ _ => False) { s' with heap := h3 } := by
        intro n i ts b₀ suite pos' hi hln hsu hdn hy2 h3 fl3 up3 E
        subst hdn
        have hloc : Loc X.env.scope n := .inl hln
        refine HandSPX.lands_againZ fl3 fun h4 fl4 up4 => ?_
        have J4 : Inv X pins σ' H' { s' with heap := h4 } := J.landed nb fl4.1 ((up.trans up3).trans up4) os ag
        obtain ⟨oe4, vs4, he4, hz4, hd4⟩ := fl4.there
        have J5 := inv_known (o := .ext (ExcAt cls a)) J4 J hI na nL nF (fun v ⟨o, ho, hd⟩ => by
          have ho' : h4.get? a = some o := ho
          rw [he4] at ho'; cases ho'; rw [hd4] at hd; cases hd) (excAt_ok he4 hz4 ⟨_, hd4⟩)
        have S5 := inv_suite J5 a
        refine store_ok (X := X.suite a (X.pn ++ pins)) (v := .ref a) S5 hN hi hloc rfl (fun s6 S6 => ?_) (.inr hln)
        refine wpAny_mono ((hsu a (X.pn ++ pins)).run [] s6 _ _ _ S6 (hy2 a na)) (fun f s7 hsp => ?_) (fun _ _ z => False.elim z)
        have end_ : ∀ {σ6 : L2.St} {H6 : Hp} {Q : Shared → Prop} {s7 : Shared}, Inv (X.suite a (X.pn ++ pins)) [] σ6 H6 s7 → (∀ s8, Inv X pins (σ6.set i none) H6 s8 → Q s8) →
            wpAny (model X.prog X.w) X.A (do bindName X.env n .none; unbindBehindTheSuite X.env n pos') (fun _ s8 => Q s8) X.xe s7 := fun {σ6 H6 Q s7} S7 hq => L2.gone_ok (inv_unsuite S7 ok) hN hi hln hq
        cases f with
        | next =>
          obtain ⟨σ6, H6, S7, q6⟩ := hsp
          exact end_ S7 fun s8 J8 => ⟨_, _, J8, q6⟩
        | brk =>
          obtain ⟨σ6, H6, S7, q6⟩ := hsp
          exact end_ S7 fun s8 J8 => ⟨_, _, J8, q6⟩
        | cont =>
          obtain ⟨σ6, H6, S7, q6⟩ := hsp
          exact end_ S7 fun s8 J8 => ⟨_, _, J8, q6⟩
        | ret u =>
          obtain ⟨v6, σ6, H6, S7, r6, q6⟩ := hsp
          exact end_ S7 fun s8 J8 => ⟨_, _, _, J8, r6, q6⟩
      induction hk with
      | nil =>
        intro h3 fl3 up3 w
        refine wpAny_handleBy_nil ?_
        obtain ⟨k1, k2, k3, oe, vs, T, oT, ts', he, hz, hd, h1, hr⟩ := id fl3
        unfold PySem.passOn
        refine wpAny_bind (wpAny_field he hd h1 ?_)
        rw [if_neg (show ¬ ((Value.ref T == Value.none) = true) from by simp)]
        have fin : wpAny (model X.prog X.w) X.A (setFlight (.ref a) X.env.frame) (fun _ s4 => wpAny (model X.prog X.w) X.A (throw (.ref a) : Sem Flow) (SP X pins D) X.xe s4) X.xe { s' with heap := h3 } := by
          rw [hf]
          refine HandSPX.setFlight_upZ fl3 fun h4 hh4 up4 => wpAny_throw (tk _ _ ?_)
          exact ⟨a, B, sI, pins, σ', H', cls, d, rfl, J, nb, (up.trans up3).trans up4, .inr (.inr (by rw [hs]; exact hh4)), na, os, ag, w⟩
        first
          | exact wpAny_bind (wpAny_pure (wpAny_bind fin))
          | exact wpAny_bind fin
      | @cons x n c i ts b₀ suite np pos' hds2 l2 hc hi hln hsu r h9 ih =>
        intro h3 fl3 up3 w
        obtain ⟨b, hb1, hyes, hno⟩ := w
        have J3 : Inv X pins σ' H' { s' with heap := h3 } := J.landed nb fl3.1 (up.trans up3) os ag
        obtain ⟨oe3, vs3, he3, hz3, hd3⟩ := fl3.there
        have S3 := J3.suite he3 hd3 na nL nF
        refine wpAny_handleBy_cons (codeAny_handlers_test ?_) (by intro q; cases q)
        have LT : PySem.W.Looks (model X.prog X.w) h3 (typeOf (.ref a)) cls := fun A Q E s k q => wpAny_typeOf_ref (k _ _ he3) (by rw [hz3.1]; exact q)
        have hb0 : PySem.W.exmOne X.K cls c = some b := by
          obtain ⟨b1, d1, e1, e2, e3⟩ := PySem.W.exmAny_cons hb1
          cases e2
          rw [e1, e3, Bool.or_false]
        have LM := PySem.W.exm_one (M := model X.prog X.w) (J3.kIn) LT hb0
        have test : ∀ {Q : Value → Shared → Prop} {E : Value → Shared → Prop}, Q c { s' with heap := h3 } → wpAny (model X.prog X.w) (X.A.mark (some (.ref a))) (eval (.Name x np) X.env) Q E { s' with heap := h3 } := fun {Q E} q => by
          obtain ⟨hg, hdbg, hm | ⟨hm, hv, hnn⟩⟩ := hc
          · exact ld_glob (X := X.suite a ((a, oe3) :: (X.pn ++ pins))) S3 hg hm q hdbg
          · exact ld_blt (X := X.suite a ((a, oe3) :: (X.pn ++ pins))) S3 hg hm hv q hnn hdbg
        refine test (LM.here ?_)
        cases b with
        | true =>
          have hy0 := hyes rfl
          rw [if_neg h9] at hy0
          obtain ⟨hdn, hy2⟩ := hy0
          refine codeAny_handlers_suite_as ?_
          exact wpAny_mono (suite_ hi hln hsu hdn hy2 h3 fl3 up3 (E := fun _ _ => True)) (fun _ _ z => wpAny_mono z (fun _ _ z => wpAny_mono z (fun _ _ z => z) (fun _ _ z => z.elim)) (fun _ _ z => z.elim)) (fun _ _ z => z.elim)
        | false =>
          show wpAny _ X.A (handleBy (.ref a) X.env hds2) _ _ _
          exact ih h3 fl3 up3 (hno rfl)
      | @cons2 x x2 n c c2 i kk ts b₀ suite np np2 tp pos' hds2 l2 hc hc2 hi hln hsu r h9 ih =>
        intro h3 fl3 up3 w
        obtain ⟨b, hb1, hyes, hno⟩ := w
        have J3 : Inv X pins σ' H' { s' with heap := h3 } := J.landed nb fl3.1 (up.trans up3) os ag
        obtain ⟨oe3, vs3, he3, hz3, hd3⟩ := fl3.there
        have S3 := J3.suite he3 hd3 na nL nF
        refine wpAny_handleBy_cons (codeAny_handlers_test ?_) (by intro q; cases q)
        have LT : PySem.W.Looks (model X.prog X.w) h3 (typeOf (.ref a)) cls := fun A Q E s k q => wpAny_typeOf_ref (k _ _ he3) (by rw [hz3.1]; exact q)
        have test : ∀ {x : Str} {c : Value} {np : Pos} {Q : Value → Shared → Prop} {E : Value → Shared → Prop}, Names X x c → Q c { s' with heap := h3 } → wpAny (model X.prog X.w) (X.A.mark (some (.ref a))) (eval (.Name x np) X.env) Q E { s' with heap := h3 } := fun {x c np Q E} hc q => by
          obtain ⟨hg, hdbg, hm | ⟨hm, hv, hnn⟩⟩ := hc
          · exact ld_glob (X := X.suite a ((a, oe3) :: (X.pn ++ pins))) S3 hg hm q hdbg
          · exact ld_blt (X := X.suite a ((a, oe3) :: (X.pn ++ pins))) S3 hg hm hv q hnn hdbg
        refine wpAny_Tuple ?_
        refine wpAny_items_cons (test hc ?_)
        refine wpAny_items_cons (test hc2 ?_)
        refine wpAny_items_nil ⟨by size_fits, ?_⟩
        have kp : ∀ q o, h3.get? q = some o → (h3.push { cls := .type "tuple", data := .seq [c, c2].toArray }).get? q = some o := fun _ _ z => Heap.get?_push_of_some _ z
        have LM := PySem.W.exm_tup2 (M := model X.prog X.w) ((J3.kIn).keeps kp) (LT.keeps kp) (Heap.get?_push_size h3 rfl) hb1
        have fl5 := flyZ_keeps fl3 kp
        have up5 := up3.trans (Heap.UpToSlots.of_keeps kp)
        refine LM.here ?_
        cases b with
        | true =>
          have hy0 := hyes rfl
          rw [if_neg h9] at hy0
          obtain ⟨hdn, hy2⟩ := hy0
          refine codeAny_handlers_suite_as ?_
          exact wpAny_mono (suite_ hi hln hsu hdn hy2 _ fl5 up5 (E := fun _ _ => True)) (fun _ _ z => wpAny_mono z (fun _ _ z => wpAny_mono z (fun _ _ z => z) (fun _ _ z => z.elim)) (fun _ _ z => z.elim)) (fun _ _ z => z.elim)
        | false =>
          show wpAny _ X.A (handleBy (.ref a) X.env hds2) _ _ _
          exact ih _ fl5 up5 (hno rfl)
      | @cons3 x x2 x3 c c2 c3 kk ts b₀ suite np np2 np3 tp pos' hds2 l2 hc hc2 hc3 hsu r ih =>
        intro h3 fl3 up3 w
        obtain ⟨b, hb1, hyes, hno⟩ := w
        have J3 : Inv X pins σ' H' { s' with heap := h3 } := J.landed nb fl3.1 (up.trans up3) os ag
        obtain ⟨oe3, vs3, he3, hz3, hd3⟩ := fl3.there
        have S3 := J3.suite he3 hd3 na nL nF
        refine wpAny_handleBy_cons (codeAny_handlers_test ?_) (by intro q; cases q)
        have LT : PySem.W.Looks (model X.prog X.w) h3 (typeOf (.ref a)) cls := fun A Q E s k q => wpAny_typeOf_ref (k _ _ he3) (by rw [hz3.1]; exact q)
        have test : ∀ {x : Str} {c : Value} {np : Pos} {Q : Value → Shared → Prop} {E : Value → Shared → Prop}, Names X x c → Q c { s' with heap := h3 } → wpAny (model X.prog X.w) (X.A.mark (some (.ref a))) (eval (.Name x np) X.env) Q E { s' with heap := h3 } := fun {x c np Q E} hc q => by
          obtain ⟨hg, hdbg, hm | ⟨hm, hv, hnn⟩⟩ := hc
          · exact ld_glob (X := X.suite a ((a, oe3) :: (X.pn ++ pins))) S3 hg hm q hdbg
          · exact ld_blt (X := X.suite a ((a, oe3) :: (X.pn ++ pins))) S3 hg hm hv q hnn hdbg
        refine wpAny_Tuple ?_
        refine wpAny_items_cons (test hc ?_)
        refine wpAny_items_cons (test hc2 ?_)
        refine wpAny_items_cons (test hc3 ?_)
        refine wpAny_items_nil ⟨by size_fits, ?_⟩
        have kp : ∀ q o, h3.get? q = some o → (h3.push { cls := .type "tuple", data := .seq [c, c2, c3].toArray }).get? q = some o := fun _ _ z => Heap.get?_push_of_some _ z
        have LM := PySem.W.exm_tup3 (M := model X.prog X.w) ((J3.kIn).keeps kp) (LT.keeps kp) (Heap.get?_push_size h3 rfl) hb1
        have fl5 := flyZ_keeps fl3 kp
        have up5 := up3.trans (Heap.UpToSlots.of_keeps kp)
        refine LM.here ?_
        cases b with
        | true =>
          have hy0 := hyes rfl
          rw [if_pos rfl] at hy0
          refine codeAny_handlers_suite ?_
          refine HandSPX.lands_againZ fl5 fun h4 fl4 up4 => ?_
          have J4 : Inv X pins σ' H' { s' with heap := h4 } := J.landed nb fl4.1 ((up.trans up5).trans up4) os ag
          obtain ⟨oe4, vs4, he4, hz4, hd4⟩ := fl4.there
          have S4 := J4.suite he4 hd4 na nL nF
          refine wpAny_mono ((hsu a oe4 (X.pn ++ pins)).run [] _ _ H' _ S4 hy0) (fun f s6 hsp => ?_) (fun _ _ z => False.elim z)
          cases f with
          | next =>
            obtain ⟨σ6, H6, S6, q6⟩ := hsp
            exact ⟨_, _, S6.unsuite ok, q6⟩
          | brk =>
            obtain ⟨σ6, H6, S6, q6⟩ := hsp
            exact ⟨_, _, S6.unsuite ok, q6⟩
          | cont =>
            obtain ⟨σ6, H6, S6, q6⟩ := hsp
            exact ⟨_, _, S6.unsuite ok, q6⟩
          | ret u =>
            obtain ⟨v6, σ6, H6, S6, r6, q6⟩ := hsp
            exact ⟨_, _, _, S6.unsuite ok, r6, q6⟩
        | false =>
          show wpAny _ X.A (handleBy (.ref a) X.env hds2) _ _ _
          exact ih _ fl5 up5 (hno rfl)
    exact go hh h3 fl0 up3 w
  · cases f with
    | next =>
      obtain ⟨σ', H', J', q⟩ := hsp
      exact wpAny_execs_nil ⟨σ', H', J'.ofTry ok, q⟩
    | brk =>
      obtain ⟨σ', H', J', q⟩ := hsp
      exact ⟨σ', H', J'.ofTry ok, q⟩
    | cont =>
      obtain ⟨σ', H', J', q⟩ := hsp
      exact ⟨σ', H', J'.ofTry ok, q⟩
    | ret u =>
      obtain ⟨v, σ', H', J', r, q⟩ := hsp
      exact ⟨v, σ', H', J'.ofTry ok, r, q⟩
end
end AL
namespace AL
open PySem PySem.Spec PyProof.Rows L2
variable {B : Bs}
def goneA (i : Nat) (E : AEnds) : AEnds := ⟨fun s C => E.nx (s.set i none) C, E.rt, fun s C => E.bk (s.set i none) C, fun s C => E.ct (s.set i none) C⟩
/-- whether a class is below one of some, where each is known -/
def anyS (sub : Str → Str → Option Bool) (nm : Str) : List Str → Option Bool
  | [] => some false
  | c :: r => match sub nm c, anyS sub nm r with
    | some b, some d => some (b || d)
    | _, _ => none
def aHandA (sub : Str → Str → Option Bool) (Wout : AX') (E : AEnds) : List (List Str × Nat × AS') → AX'
  | [] => Wout
  | (c, i, h) :: r => fun s nm C => match anyS sub nm c with | some true => if i = 999 then h E s C else nm ≠ "NoSentence" ∧ ∀ a, C a = none → h (goneA i E) (s.set i (some (.ce a))) (put C a (.exc nm)) | some false => aHandA sub Wout E r s nm C | none => False
def aTryA (sub : Str → Str → Option Bool) (body : AX' → AS') (hds : List (List Str × Nat × AS')) (Wout : AX') : AS' := fun E s C => body (aHandA sub Wout E hds) E s C
theorem Slo.unset {K : PySem.W.Frag} {F : Hp} {s : ASt} {σ : L2.St} (r : Slo K F s σ) (i : Nat) : Slo K F (s.set i none) (σ.set i none) := by
  refine ⟨by rw [List.length_set, List.length_set, r.len], fun j e q => ?_⟩
  by_cases hj : i = j
  · subst hj
    by_cases hi : i < s.length
    · rw [List.getElem?_set_self hi] at q; cases q
    · rw [List.getElem?_eq_none (by rw [List.length_set]; omega)] at q; cases q
  · rw [List.getElem?_set_ne hj] at q
    obtain ⟨v, h1, h2⟩ := r.at' j e q
    exact ⟨v, by rw [List.getElem?_set_ne hj]; exact h1, h2⟩
theorem EndsR.gone {K : PySem.W.Frag} {F R : Hp} {E : AEnds} {D' : Ends} (hE : EndsR B K F R E D') (i : Nat) : EndsR B K F R (goneA i E) (goneE i D') :=
  ⟨fun s σ F' C' H' e hs S h => hE.nx _ _ F' C' H' e (hs.unset i) S h, hE.rt, fun s σ F' C' H' e hs S h => hE.bk _ _ F' C' H' e (hs.unset i) S h, fun s σ F' C' H' e hs S h => hE.ct _ _ F' C' H' e (hs.unset i) S h⟩
theorem anyS_cons {sub : Str → Str → Option Bool} {nm c : Str} {r : List Str} {b : Bool} (h : anyS sub nm (c :: r) = some b) : ∃ b1 d1, sub nm c = some b1 ∧ anyS sub nm r = some d1 ∧ b = (b1 || d1) := by
  unfold anyS at h
  split at h
  · rename_i b1 d1 h1 h2
    exact ⟨b1, d1, h1, h2, (Option.some.inj h).symm⟩
  · cases h
theorem exmAny_mk {K : PySem.W.Frag} {cls c : Value} {r : List Value} {b d e : Bool} (h1 : PySem.W.exmOne K cls c = some b) (h2 : PySem.W.exmAny K cls r = some d) (h3 : e = (b || d)) : PySem.W.exmAny K cls (c :: r) = some e := by
  unfold PySem.W.exmAny
  rw [h1, h2, h3]
inductive AHdsA (X : Cx) : List ExceptHandler → List (List Value × Nat × TS) → List (List Str × Nat × AS') → Prop
  | nil : AHdsA X [] [] []
  | cons {x n : Str} {c : Value} {i : Nat} {ts : TS} {ha : AS'} {b₀ : Stmt} {suite : List Stmt} {np pos' : Pos} {hds : List ExceptHandler} {l : List (List Value × Nat × TS)} {la : List (List Str × Nat × AS')} (hm : X.mg x = some c) (hg : Gl X x) (hdb : (x == ("__debug__" : Str)) = false)
      (hi : X.N[i]? = some n) (hln : X.env.kindOf n = some .local)
      (hsu : ∀ (B : Bs) (hw : B.g = ⟨X.w, X.mg⟩) (a : Addr) (pn : List (Addr × Obj)), ASs B (X.suite a pn) (b₀ :: suite) ts ha) (r : AHdsA X hds l la) (h9 : i ≠ 999 := by decide) :
      AHdsA X (.ExceptHandler (some (.Name x np)) (some n) (b₀ :: suite) pos' :: hds) (([c], i, ts) :: l) (([x], i, ha) :: la)
  | cons2 {x x2 n : Str} {c c2 : Value} {i kk : Nat} {ts : TS} {ha : AS'} {b₀ : Stmt} {suite : List Stmt} {np np2 tp pos' : Pos} {hds : List ExceptHandler} {l : List (List Value × Nat × TS)} {la : List (List Str × Nat × AS')} (hm : X.mg x = some c) (hg : Gl X x) (hdb : (x == ("__debug__" : Str)) = false)
      (hm2 : X.mg x2 = some c2) (hg2 : Gl X x2) (hdb2 : (x2 == ("__debug__" : Str)) = false) (hi : X.N[i]? = some n) (hln : X.env.kindOf n = some .local)
      (hsu : ∀ (B : Bs) (hw : B.g = ⟨X.w, X.mg⟩) (a : Addr) (pn : List (Addr × Obj)), ASs B (X.suite a pn) (b₀ :: suite) ts ha) (r : AHdsA X hds l la) (h9 : i ≠ 999 := by decide) :
      AHdsA X (.ExceptHandler (some (.Tuple [.Name x np, .Name x2 np2] kk tp)) (some n) (b₀ :: suite) pos' :: hds) (([c, c2], i, ts) :: l) (([x, x2], i, ha) :: la)
  | cons3 {x x2 x3 : Str} {c c2 c3 : Value} {kk : Nat} {ts : TS} {ha : AS'} {b₀ : Stmt} {suite : List Stmt} {np np2 np3 tp pos' : Pos} {hds : List ExceptHandler} {l : List (List Value × Nat × TS)} {la : List (List Str × Nat × AS')} (hm : X.mg x = some c) (hg : Gl X x) (hdb : (x == ("__debug__" : Str)) = false)
      (hm2 : X.mg x2 = some c2) (hg2 : Gl X x2) (hdb2 : (x2 == ("__debug__" : Str)) = false) (hm3 : X.mg x3 = some c3) (hg3 : Gl X x3) (hdb3 : (x3 == ("__debug__" : Str)) = false)
      (hsu : ∀ (B : Bs) (hw : B.g = ⟨X.w, X.mg⟩) (a : Addr) (oe : Obj) (pn : List (Addr × Obj)), ASs B (X.suite a ((a, oe) :: pn)) (b₀ :: suite) ts ha) (r : AHdsA X hds l la) :
      AHdsA X (.ExceptHandler (some (.Tuple [.Name x np, .Name x2 np2, .Name x3 np3] kk tp)) none (b₀ :: suite) pos' :: hds) (([c, c2, c3], 999, ts) :: l) (([x, x2, x3], 999, ha) :: la)
section
variable {X : Cx} {body : List Stmt} {h₀ : ExceptHandler} {hds : List ExceptHandler} {l : List (List Value × Nat × TS)} {la : List (List Str × Nat × AS')} {pos : Pos} {tb : WX → TS} {W : AX'} {Wk : WX} {ab : AX' → AS'} {sub : Str → Str → Option Bool}
theorem AHdsA.ok {hds : List ExceptHandler} (h : AHdsA X hds l la) : HdsA X hds l := by
  induction h with
  | nil => exact .nil
  | cons hm hg hdb hi hln hsu r h9 ih => exact .cons ⟨hg, hdb, .inl hm⟩ hi hln (fun a pn => (hsu (Bs.nil ⟨X.w, X.mg⟩) rfl a pn).ps) ih h9
  | cons2 hm hg hdb hm2 hg2 hdb2 hi hln hsu r h9 ih => exact .cons2 ⟨hg, hdb, .inl hm⟩ ⟨hg2, hdb2, .inl hm2⟩ hi hln (fun a pn => (hsu (Bs.nil ⟨X.w, X.mg⟩) rfl a pn).ps) ih h9
  | cons3 hm hg hdb hm2 hg2 hdb2 hm3 hg3 hdb3 hsu r ih => exact .cons3 ⟨hg, hdb, .inl hm⟩ ⟨hg2, hdb2, .inl hm2⟩ ⟨hg3, hdb3, .inl hm3⟩ (fun a oe pn => (hsu (Bs.nil ⟨X.w, X.mg⟩) rfl a oe pn).ps) ih
theorem hand_okA (hw : B.g = ⟨X.w, X.mg⟩) {F R : Hp} {E : AEnds} {D' : Ends} {hds : List ExceptHandler} (h : AHdsA X hds l la) (rel : WR B X.K X.mg W Wk) (sf : SubF X.K X.mg sub) (hbF : Ex B.F0 F) (hbR : Ex B.R0 R) (hE : EndsR B X.K F R E D') :
    WR ⟨F, R, B.g⟩ X.K X.mg (aHandA sub W E la) (wManyA X.K Wk D' l) := by
  induction h with
  | nil => exact fun nm cls d s σ F' C' H' hm hd hs S h => rel nm cls d s σ F' C' H' hm hd hs (S.rebase (B' := B) rfl (hbF.trans S.bF) hbR).at0 h
  | @cons x n c i ts ha b₀ suite np pos' hds l la hmx hg hdb hi hln hsu r h9 ih =>
    intro nm cls d s σ F' C' H' hm hd hs S h
    have ex : ∀ b, anyS sub nm [x] = some b → PySem.W.exmAny X.K cls [c] = some b := fun b e => by
      obtain ⟨b1, d1, e1, e2, e3⟩ := anyS_cons e
      cases e2
      exact exmAny_mk (d := false) (sf nm x b1 cls c e1 hm hmx) rfl e3
    unfold aHandA at h
    split at h
    · rename_i e
      rw [if_neg h9] at h
      obtain ⟨hns, h⟩ := h
      refine ⟨true, ex _ e, fun _ => ?_, fun q => nomatch q⟩
      rw [if_neg h9]
      refine ⟨hd.resolve_left hns, fun a na => ?_⟩
      have S1 : Sat B X.K F' C' R H' := S.rebase rfl (hbF.trans S.bF) hbR
      have hc : CellC B.g X.K F' a (.ext (ExcAt cls a)) (.exc nm) := .exc (by rw [hw]; exact hm)
      have S2 := S1.newC na hc
      exact (hsu B hw a []).sim (goneE i D') (goneA i E) _ _ F' _ R _ ((hE.gone i).mono S.bF) (hs.set (.ce a) i) S2 (h a (S1.freeC na))
    · rename_i e
      exact ⟨false, ex _ e, (fun q => by cases q), fun _ => ih nm cls d s σ F' C' H' hm hd hs S h⟩
    · exact h.elim
  | @cons2 x x2 n c c2 i kk ts ha b₀ suite np np2 tp pos' hds l la hmx hg hdb hmx2 hg2 hdb2 hi hln hsu r h9 ih =>
    intro nm cls d s σ F' C' H' hm hd hs S h
    have ex : ∀ b, anyS sub nm [x, x2] = some b → PySem.W.exmAny X.K cls [c, c2] = some b := fun b e => by
      obtain ⟨b1, d1, e1, e2, e3⟩ := anyS_cons e
      obtain ⟨b2, d2, f1, f2, f3⟩ := anyS_cons e2
      cases f2
      exact exmAny_mk (sf nm x b1 cls c e1 hm hmx) (exmAny_mk (d := false) (sf nm x2 b2 cls c2 f1 hm hmx2) rfl f3) e3
    unfold aHandA at h
    split at h
    · rename_i e
      rw [if_neg h9] at h
      obtain ⟨hns, h⟩ := h
      refine ⟨true, ex _ e, fun _ => ?_, fun q => nomatch q⟩
      rw [if_neg h9]
      refine ⟨hd.resolve_left hns, fun a na => ?_⟩
      have S1 : Sat B X.K F' C' R H' := S.rebase rfl (hbF.trans S.bF) hbR
      have hc : CellC B.g X.K F' a (.ext (ExcAt cls a)) (.exc nm) := .exc (by rw [hw]; exact hm)
      have S2 := S1.newC na hc
      exact (hsu B hw a []).sim (goneE i D') (goneA i E) _ _ F' _ R _ ((hE.gone i).mono S.bF) (hs.set (.ce a) i) S2 (h a (S1.freeC na))
    · rename_i e
      exact ⟨false, ex _ e, (fun q => by cases q), fun _ => ih nm cls d s σ F' C' H' hm hd hs S h⟩
    · exact h.elim
  | @cons3 x x2 x3 c c2 c3 kk ts ha b₀ suite np np2 np3 tp pos' hds l la hmx hg hdb hmx2 hg2 hdb2 hmx3 hg3 hdb3 hsu r ih =>
    intro nm cls d s σ F' C' H' hm hd hs S h
    have ex : ∀ b, anyS sub nm [x, x2, x3] = some b → PySem.W.exmAny X.K cls [c, c2, c3] = some b := fun b e => by
      obtain ⟨b1, d1, e1, e2, e3⟩ := anyS_cons e
      obtain ⟨b2, d2, f1, f2, f3⟩ := anyS_cons e2
      obtain ⟨b3, d3, g1, g2, g3⟩ := anyS_cons f2
      cases g2
      exact exmAny_mk (sf nm x b1 cls c e1 hm hmx) (exmAny_mk (sf nm x2 b2 cls c2 f1 hm hmx2) (exmAny_mk (d := false) (sf nm x3 b3 cls c3 g1 hm hmx3) rfl g3) f3) e3
    unfold aHandA at h
    split at h
    · rename_i e
      rw [if_pos rfl] at h
      refine ⟨true, ex _ e, fun _ => ?_, fun q => nomatch q⟩
      rw [if_pos rfl]
      exact (hsu B hw 0 { cls := cls, dict := none, data := .fields #[] } []).sim D' E σ s F' C' R H' (hE.mono S.bF) hs (S.rebase rfl (hbF.trans S.bF) hbR) h
    · rename_i e
      exact ⟨false, ex _ e, (fun q => by cases q), fun _ => ih nm cls d s σ F' C' H' hm hd hs S h⟩
    · exact h.elim
theorem as_tryA (hN : X.N.Nodup) (hs : X.stack = X.env :: X.outer) (hf : X.env.frame = some X.env.locals) (tk : Takes X Wk) (rel : WR B X.K X.mg W Wk) (sf : SubF X.K X.mg sub) (hw : B.g = ⟨X.w, X.mg⟩)
    (hb : ∀ (B' : Bs) (hw : B'.g = ⟨X.w, X.mg⟩) (W' : AX') (Wk' : WX) (pn : List (Addr × Obj)) (xe : Value → Shared → Prop), Takes (X.tr pn xe) Wk' → WR B' X.K X.mg W' Wk' → PassesOwn (model X.prog X.w) X.A X.env xe → ASs B' (X.tr pn xe) body (tb Wk') (ab W'))
    (hh : AHdsA X (h₀ :: hds) l la) : AS B X (.Try body (h₀ :: hds) [] [] pos) (fun D σ H => tb (wManyA X.K Wk D l) D σ H) (aTryA sub ab la W) := by
  refine ⟨ps_try_manyA hN hs hf tk (fun Wk' pn xe tk' hp => (hb (Bs.nil ⟨X.w, X.mg⟩) rfl (fun _ _ _ => False) Wk' pn xe tk' (fun _ _ _ _ _ _ _ _ _ _ _ _ h => h.elim) hp).ps) hh.ok, fun D' E σ s F C R H hE hs' hS h => ?_⟩
  exact (hb ⟨F, R, B.g⟩ hw (aHandA sub W E la) (wManyA X.K Wk D' l) [] _ (takes_any hs hf []) (hand_okA hw hh rel sf hS.bF hS.bR hE) PassesOwn.looking).sim D' E σ s F C R H (hE.ground hS.bF hS.bR) hs' (hS.rebase rfl (Ex.refl _) (Ex.refl _)) h
end
section
variable {C : AH} {W : AX'} {E : AEnds} {s : ASt}
theorem g_tryA {sub : Str → Str → Option Bool} {body : AX' → AS'} {hds : List (List Str × Nat × AS')} (h : body (aHandA sub W E hds) E s C) : aTryA sub body hds W E s C := h
theorem g_handAT {sub : Str → Str → Option Bool} {c : List Str} {nm : Str} {i : Nat} {ha : AS'} {r : List (List Str × Nat × AS')} (e : anyS sub nm c = some true) (h : ∀ a, C a = none → ha (goneA i E) (s.set i (some (.ce a))) (put C a (.exc nm))) (h9 : i ≠ 999 := by decide) (hn : nm ≠ "NoSentence" := by decide +kernel) : aHandA sub W E ((c, i, ha) :: r) s nm C := by
  unfold aHandA
  rw [e]
  show (if i = 999 then _ else _)
  rw [if_neg h9]
  exact ⟨hn, h⟩
theorem g_handA3 {sub : Str → Str → Option Bool} {c : List Str} {nm : Str} {ha : AS'} {r : List (List Str × Nat × AS')} (e : anyS sub nm c = some true) (h : ha E s C) : aHandA sub W E ((c, 999, ha) :: r) s nm C := by
  unfold aHandA
  rw [e]
  show (if (999 : Nat) = 999 then _ else _)
  rw [if_pos rfl]
  exact h
end
end AL
namespace AL
open PySem PySem.Spec PyProof.Rows L2
variable {B : Bs}
/-- a class by its name: an own one, or the built-in ValueError -/
def clsN (mg : Str → Option Value) (c : Str) (u : Value) : Prop := (mg c = some u ∧ ∃ C, u = .ref C) ∨ (c = "ValueError" ∧ u = .type "ValueError")
/-- what is known of which class an exception is -/
def IsF (K : PySem.W.Frag) (mg : Str → Option Value) (isub : Str → Str → Option Bool) : Prop := ∀ nm c b cls u, isub nm c = some b → mg nm = some cls → clsN mg c u → ∃ D, cls = .ref D ∧ ExcC K D ∧ PySem.W.kitOne K cls u = some b
def isAny (isub : Str → Str → Option Bool) (nm : Str) : List Str → Option Bool
  | [] => some false
  | c :: r => match isub nm c with
    | some true => some true
    | some false => isAny isub nm r
    | none => none
def aIsX (isub : Str → Str → Option Bool) (cs : List Str) (a : AE') : AE' := fun s C P => a s C fun d C1 => match d with
  | .ce p => (match C1 p with | some (.exc nm) => (match isAny isub nm cs with | some b => P (.bl b) C1 | none => False) | _ => False)
  | _ => False
/-- a class's expression -/
structure AC (X : Cx) (e : Expr) (v : V) (u : Value) (x : Str) : Prop where
  pe : PE X e (tC v)
  cv : ClsV v u
  cn : clsN X.mg x u
theorem ac_own {X : Cx} {x : Str} {C : Addr} {p : Pos} (h : X.mg x = some (.ref C)) (hg : Gl X x := by rfl) (hdb : (x == ("__debug__" : Str)) = false := by decide) : AC X (.Name x p) (.ref C) (.ref C) x :=
  ⟨pe_glob hg h rfl hdb, .own C, .inl ⟨h, C, rfl⟩⟩
theorem ac_val {X : Cx} {p : Pos} (hm : X.mg "ValueError" = none) (hg : Gl X "ValueError" := by rfl) : AC X (.Name "ValueError" p) (.ty "ValueError") (.type "ValueError") "ValueError" :=
  ⟨pe_bltn hg hm (by decide +kernel) rfl (by decide) (by decide), .ty _, .inr ⟨rfl, rfl⟩⟩
inductive ACs (X : Cx) : List Expr → TA → List V → List Value → List Str → Prop
  | nil : ACs X [] tNil [] [] []
  | cons {e : Expr} {es : List Expr} {v : V} {u : Value} {x : Str} {t : TA} {vs : List V} {us : List Value} {xs : List Str} (h : AC X e v u x) (r : ACs X es t vs us xs) (he : starEach (e :: es) X.env = (false, eval e X.env) :: starEach es X.env) :
      ACs X (e :: es) (tCons (tC v) t) (v :: vs) (u :: us) (x :: xs)
section
variable {X : Cx} {es : List Expr} {t : TA} {vs : List V} {us : List Value} {xs : List Str}
theorem ACs.pa (h : ACs X es t vs us xs) : PA X es t := by
  induction h with
  | nil => exact pa_nil
  | cons h r he ih => exact pa_cons h.pe ih he
theorem ACs.run (h : ACs X es t vs us xs) : ∀ {σ : L2.St} {H : Hp} {Q : List V → Hp → Prop}, Q vs H → t σ H Q := by
  induction h with
  | nil => exact fun q => q
  | cons h r he ih => exact fun {σ H Q} q => ih (Q := fun ws H2 => Q (_ :: ws) H2) q
theorem ACs.cv (h : ACs X es t vs us xs) : Paired ClsV vs us := by
  induction h with
  | nil => exact .nil
  | cons h r he ih => exact .cons h.cv ih
theorem ACs.len (h : ACs X es t vs us xs) : vs.length = es.length := by
  induction h with
  | nil => rfl
  | cons h r he ih => rw [List.length_cons, List.length_cons, ih]
theorem ACs.any (h : ACs X es t vs us xs) {isub : Str → Str → Option Bool} (f : IsF X.K X.mg isub) {nm : Str} {cls : Value} {b : Bool} (hm : X.mg nm = some cls) : isAny isub nm xs = some b → PySem.W.kitAny X.K cls us = some b := by
  induction h with
  | nil => exact fun e => e
  | @cons e es v u x t vs us xs h r he ih =>
    intro e
    unfold isAny at e
    unfold PySem.W.kitAny
    split at e
    · rename_i q
      obtain ⟨D, _, _, k⟩ := f nm x true cls u q hm h.cn
      rw [k]
      exact e
    · rename_i q
      obtain ⟨D, _, _, k⟩ := f nm x false cls u q hm h.cn
      rw [k]
      exact ih e
    · cases e
end
/-- a tracked exception of the class D -/
def ExcT (K : PySem.W.Frag) (H : Hp) (x : V) (t : Value) : Prop := ∃ a D, x = .ref a ∧ H a = some (.ext (ExcAt (.ref D) a)) ∧ t = .ref D ∧ ExcC K D
def rIsX (K : PySem.W.Frag) : List V → Hp → VK → Prop := fun xs H Q => ∃ (x c : V) (t u : Value) (b : Bool), xs = [x, c] ∧ ClsV c u ∧ ExcT K H x t ∧ PySem.W.kitOne K t u = some b ∧ Q (.bl b) H
def rIsXT (K : PySem.W.Frag) : List V → Hp → VK → Prop := fun xs H Q => ∃ (x : V) (tp : Addr) (cs : List V) (t : Value) (us : List Value) (b : Bool), xs = [x, .ref tp] ∧ H tp = some (.tup cs) ∧ Paired ClsV cs us ∧ ExcT K H x t ∧ PySem.W.kitAny K t us = some b ∧ Q (.bl b) H
section
variable {X : Cx}
theorem kit_exc {pins : List (Addr × Obj)} {σ : L2.St} {H : Hp} {s : Shared} {x : V} {u t : Value} (I : Inv X pins σ H s) (rx : RelV x u) (ty : ExcT X.K H x t) : ∃ P : Heap → Prop, PySem.W.KitX X.K u t P ∧ P s.heap ∧ u ≠ .builtin "__main__.__loader__#opaque" := by
  obtain ⟨a, D, rfl, e, rfl, C⟩ := ty
  cases rx
  obtain ⟨⟨oe, vs, h1, h2, h3, h4⟩, _, _⟩ := (show ObjOk X.prog X.w H s.heap a (.ext (ExcAt (.ref D) a)) from I.hok a _ e)
  have J : PySem.W.InstAt s.heap a oe D none := by
    obtain ⟨oc, od, oda, osl⟩ := oe
    dsimp only at h2 h3 h4
    subst h2 h3 h4
    exact ⟨h1, rfl, rfl, trivial⟩
  exact ⟨_, PySem.W.handS_kitx_exc C.hg C.hk C.hs C.hd C.ha C.hn C.ht C.hm, J, fun z => nomatch z⟩
theorem call_isX : CallR X (.builtin "isinstance") (rIsX X.K) := by
  intro pins s σ H xs us Q I r h
  obtain ⟨x, c, t, u, b, rfl, k, ty, e, q⟩ := h
  obtain ⟨u1, u2, rfl, r1, r2⟩ := vals2 r
  have e2 := k.eq r2
  subst e2
  obtain ⟨P, Z, p, hx⟩ := kit_exc I r1 ty
  exact PySem.W.kia_one Z I.kIn p e hx fun tk => ⟨.bl b, H, I.tok tk, rfl, q⟩
theorem call_isXT : CallR X (.builtin "isinstance") (rIsXT X.K) := by
  intro pins s σ H xs us Q I r h
  obtain ⟨x, tp, cs, t, ws, b, rfl, hT, k, ty, e, q⟩ := h
  obtain ⟨u1, u2, rfl, r1, r2⟩ := vals2 r
  cases (show u2 = Value.ref tp from r2)
  obtain ⟨P, Z, p, hx⟩ := kit_exc I r1 ty
  obtain ⟨_, its, rv, o, h1, h2, n, h3⟩ := (show ObjOk X.prog X.w H s.heap tp (.tup cs) from I.hok tp _ hT)
  have e3 := ClsV.all k rv
  subst e3
  obtain ⟨oc, od, dt, sl⟩ := o
  simp only at h2 h3
  subst h2 h3
  exact PySem.W.kia_tup Z I.kIn p h1 e hx fun tk => ⟨.bl b, H, I.tok tk, rfl, q⟩
variable {pos p p4 : Pos} {k4 : Nat} {K : PySem.W.Frag} {e c : Expr} {cs : List Expr} {te : TE} {a : AE'} {v : V} {u : Value} {x : Str} {t : TA} {vs : List V} {us : List Value} {xs : List Str} {isub : Str → Str → Option Bool}
theorem exc_at {F : Hp} {C : AH} {R H : Hp} {p : Addr} {nm : Str} {mg : Str → Option Value} (hS : Sat B K F C R H) (hmg : B.g.mg = mg) (q : C p = some (.exc nm)) : ∃ cls, mg nm = some cls ∧ H p = some (.ext (ExcAt cls p)) := by
  obtain ⟨_, o, h1, h2⟩ := hS.cell p _ q
  cases h2 with
  | exc h => exact ⟨_, by rw [← hmg]; exact h, h1⟩
theorem ae_isX (h : AE B X e te a) (hc : AC X c v u x) (hm : X.mg "isinstance" = none) (isf : IsF X.K X.mg isub) (hw : B.g = ⟨X.w, X.mg⟩ := by first | rfl | assumption) (hg : Gl X "isinstance" := by rfl)
    (he : starEach [e, c] X.env = (false, eval e X.env) :: starEach [c] X.env := by rfl) (hpl : (backTo pos (starEach [c] X.env)).any (·.1) = false := by rfl) (h2 : starEach [c] X.env = (false, eval c X.env) :: starEach [] X.env := by rfl) :
    AE B X (.Call (.Name "isinstance" p) [e, c] [] pos) (tCB (rIsX X.K) (tCons te (tCons (tC v) tNil))) (aIsX isub [x] a) := by
  refine ⟨pe_callB call_isX hg hm (by decide +kernel) (pa_cons h.pe (pa_cons hc.pe pa_nil h2) he) (by decide) (by decide) he hpl, ?_⟩
  intro σ s F C R H Q P hs hS h0 k
  refine h.sim σ s F C R H _ _ hs hS h0 fun d w F1 C1 H1 e1 S1 r1 h1 => ?_
  split at h1
  · rename_i q0
    cases r1
    split at h1
    · rename_i nm q
      split at h1
      · rename_i b q2
        obtain ⟨cls, g1, g2⟩ := exc_at S1 (by rw [hw]) q
        have g3 : ∃ b', isub nm x = some b' ∧ b' = b := by
          unfold isAny at q2
          split at q2
          · rename_i z; cases q2; exact ⟨_, z, rfl⟩
          · rename_i z; cases q2; exact ⟨_, z, rfl⟩
          · cases q2
        obtain ⟨b', g3, rfl⟩ := g3
        obtain ⟨D, rfl, g4, g5⟩ := isf nm x b' cls u g3 g1 hc.cn
        exact ⟨.ref q0, v, .ref D, u, b', rfl, hc.cv, ⟨q0, D, rfl, g2, rfl, g4⟩, g5, k _ _ F1 C1 H1 e1 S1 (.bl _) h1⟩
      · exact h1.elim
    · exact h1.elim
  · exact h1.elim
theorem ae_isXT (h : AE B X e te a) (hc : ACs X cs t vs us xs) (hl : cs.length ≤ 100) (hm : X.mg "isinstance" = none) (isf : IsF X.K X.mg isub) (h1 : xs ≠ []) (hw : B.g = ⟨X.w, X.mg⟩ := by first | rfl | assumption) (hg : Gl X "isinstance" := by rfl)
    (he : starEach [e, .Tuple cs k4 p4] X.env = (false, eval e X.env) :: starEach [.Tuple cs k4 p4] X.env := by rfl) (hpl : (backTo pos (starEach [.Tuple cs k4 p4] X.env)).any (·.1) = false := by rfl) (h2 : starEach [.Tuple cs k4 p4] X.env = (false, eval (.Tuple cs k4 p4) X.env) :: starEach [] X.env := by rfl) :
    AE B X (.Call (.Name "isinstance" p) [e, .Tuple cs k4 p4] [] pos) (tCB (rIsXT X.K) (tCons te (tCons (tTup t) tNil))) (aIsX isub xs a) := by
  refine ⟨pe_callB call_isXT hg hm (by decide +kernel) (pa_cons h.pe (pa_cons (pe_tup hc.pa) pa_nil h2) he) (by decide) (by decide) he hpl, ?_⟩
  intro σ s F C R H Q P hs hS h0 k
  refine h.sim σ s F C R H _ _ hs hS h0 fun d w F1 C1 H1 e1 S1 r1 h1' => ?_
  split at h1'
  · rename_i q0
    cases r1
    split at h1'
    · rename_i nm q
      split at h1'
      · rename_i b q2
        obtain ⟨cls, g1, g2⟩ := exc_at S1 (by rw [hw]) q
        refine hc.run ⟨by rw [hc.len, sizeLine_eq]; omega, fun tp hp => ?_⟩
        have eN := Ex.new (o := .tup vs) (S1.freeF hp)
        have S2 := S1.newF hp (.tup vs)
        have hne : q0 ≠ tp := ne_of_none g2 hp
        have g5 := hc.any isf g1 q2
        obtain ⟨x0, xs0, rfl⟩ : ∃ x0 xs0, xs = x0 :: xs0 := by
          cases xs with
          | nil => exact absurd rfl h1
          | cons x0 xs0 => exact ⟨x0, xs0, rfl⟩
        cases hc with
        | cons hcx _ _ =>
          obtain ⟨b0, g3⟩ : ∃ b0, isub nm x0 = some b0 := by
            unfold isAny at q2
            split at q2
            · rename_i z; exact ⟨_, z⟩
            · rename_i z; exact ⟨_, z⟩
            · cases q2
          obtain ⟨D, rfl, g4, _⟩ := isf nm x0 b0 cls _ g3 g1 hcx.cn
          exact ⟨.ref q0, tp, _, .ref D, _, b, rfl, upd_same, .cons hcx.cv (by rename_i r _; exact r.cv), ⟨q0, D, rfl, by rw [upd_ne hne]; exact g2, rfl, g4⟩, g5, k _ _ _ _ _ (e1.trans eN) S2 (.bl _) h1'⟩
      · exact h1'.elim
    · exact h1'.elim
  · exact h1'.elim
end
theorem isF_nil {K : PySem.W.Frag} {mg : Str → Option Value} : IsF K mg (subL []) := fun _ _ _ _ _ h => by cases h
theorem isF_cons {K : PySem.W.Frag} {mg : Str → Option Value} {a b : Str} {r : Bool} {l : List (Str × Str × Bool)} {D : Addr} {u : Value} (h1 : mg a = some (.ref D)) (h2 : mg b = some u) (hb : b ≠ "ValueError") (c : ExcC K D) (h : PySem.W.kitOne K (.ref D) u = some r) (t : IsF K mg (subL l)) : IsF K mg (subL ((a, b, r) :: l)) := by
  intro nm c' q cls cc e m1 m2
  unfold subL at e
  split at e
  · rename_i z
    obtain ⟨rfl, rfl⟩ := z
    rw [h1] at m1
    cases m1; cases e
    rcases m2 with ⟨m2, _⟩ | ⟨m2, _⟩
    · rw [h2] at m2; cases m2
      exact ⟨D, rfl, c, h⟩
    · exact absurd m2 hb
  · exact t nm c' q cls cc e m1 m2
theorem isF_val {K : PySem.W.Frag} {mg : Str → Option Value} {a : Str} {r : Bool} {l : List (Str × Str × Bool)} {D : Addr} (h1 : mg a = some (.ref D)) (h2 : mg "ValueError" = none) (c : ExcC K D) (h : PySem.W.kitOne K (.ref D) (.type "ValueError") = some r) (t : IsF K mg (subL l)) : IsF K mg (subL ((a, "ValueError", r) :: l)) := by
  intro nm c' q cls cc e m1 m2
  unfold subL at e
  split at e
  · rename_i z
    obtain ⟨rfl, rfl⟩ := z
    rw [h1] at m1
    cases m1; cases e
    rcases m2 with ⟨m2, _⟩ | ⟨_, rfl⟩
    · rw [h2] at m2; cases m2
    · exact ⟨D, rfl, c, h⟩
  · exact t nm c' q cls cc e m1 m2
theorem kit_ne {K : PySem.W.Frag} {S T : Addr} {r : Bool} (hn : decide (S = T) = false) (h2 : PySem.W.isClsIn K T = true) (h3 : PySem.W.typeIn K (.ref T) = some (.type "type")) (h4 : PySem.W.subIn K (.ref S) (.ref T) = some r) : PySem.W.kitOne K (.ref S) (.ref T) = some r := by
  have hne : S ≠ T := of_decide_eq_false hn
  have e2 : ((PySem.W.clsIn K T).isSome && PySem.W.typeIn K (.ref T) == some (.type "type")) = true := by
    have h2' : (PySem.W.clsIn K T).isSome = true := h2
    rw [h2', h3] <;> rfl
  unfold PySem.W.kitOne
  rw [if_neg (by intro z; exact hne (Value.ref.inj (beq_iff_eq.mp z)))]
  show (if ((PySem.W.clsIn K T).isSome && PySem.W.typeIn K (.ref T) == some (.type "type")) = true then PySem.W.subIn K (.ref S) (.ref T) else none) = some r
  rw [if_pos e2]
  exact h4
theorem kit_self {K : PySem.W.Frag} {S : Addr} : PySem.W.kitOne K (.ref S) (.ref S) = some true := by
  unfold PySem.W.kitOne
  rw [if_pos (beq_self_eq_true _)]
theorem kit_val {K : PySem.W.Frag} {S : Addr} {r : Bool} (h4 : PySem.W.subIn K (.ref S) (.type "ValueError") = some r) : PySem.W.kitOne K (.ref S) (.type "ValueError") = some r := by
  unfold PySem.W.kitOne
  rw [if_neg (by intro z; exact nomatch (beq_iff_eq.mp z))]
  show (if PySem.W.kitMeta "ValueError" = true then PySem.W.subIn K (.ref S) (.type "ValueError") else none) = some r
  rw [if_pos (by decide +kernel)]
  exact h4
section
variable {C : AH} {P : D → AH → Prop} {s : ASt} {e : AE'}
def kIsX (isub : Str → Str → Option Bool) (cs : List Str) (P : D → AH → Prop) : D → AH → Prop := fun d C1 => match d with
  | .ce p => (match C1 p with | some (.exc nm) => (match isAny isub nm cs with | some b => P (.bl b) C1 | none => False) | _ => False)
  | _ => False
theorem g_isX {isub : Str → Str → Option Bool} {cs : List Str} (h : e s C (kIsX isub cs P)) : aIsX isub cs e s C P := h
theorem g_kIsX {isub : Str → Str → Option Bool} {cs : List Str} {p : Addr} {nm : Str} {b : Bool} (h1 : C p = some (.exc nm)) (h2 : isAny isub nm cs = some b) (h : P (.bl b) C) : kIsX isub cs P (.ce p) C := by
  unfold kIsX
  simp only [h1, h2]
  exact h
end
end AL
namespace AL
open PySem PySem.Spec PyProof.Rows L2
end AL
namespace AL
open PySem L2
end AL
namespace AL
open PySem L2
theorem valD_put (es : List (Key × D)) (k k' : Key) (d : D) : valD (putD es k d) k' = if k' = k then some d else valD es k' := by
  induction es with
  | nil =>
    unfold putD
    rw [if_neg (by simp)]
    by_cases e : k' = k
    · subst e; simp [valD]
    · rw [if_neg e]
      have : ¬ k = k' := fun z => e z.symm
      simp [valD, this]
  | cons x es ih =>
    unfold putD at ih ⊢
    by_cases hx : x.1 = k
    · rw [if_pos (by simp [hx])]
      rw [List.map_cons, if_pos hx]
      by_cases e : k' = k
      · subst e
        rw [if_pos rfl]
        simp [valD, hx]
      · rw [if_neg e]
        have hne : ¬ x.1 = k' := fun z => e (by rw [← z, hx])
        have ih2 : valD (es.map fun kv => if kv.1 = k then (kv.1, d) else kv) k' = valD es k' := by
          by_cases ha : (es.any fun kv => decide (kv.1 = k)) = true
          · rw [if_pos ha, if_neg e] at ih; exact ih
          · have : es.map (fun kv => if kv.1 = k then (kv.1, d) else kv) = es := by
              refine (List.map_congr_left fun kv hkv => ?_).trans (List.map_id es)
              have : ¬ kv.1 = k := fun z => ha (List.any_eq_true.mpr ⟨kv, hkv, decide_eq_true z⟩)
              rw [if_neg this]; rfl
            rw [this]
        simp only [valD, List.find?_cons, decide_eq_false hne] at ih2 ⊢
        exact ih2
    · by_cases ha : (es.any fun kv => decide (kv.1 = k)) = true
      · rw [if_pos ha] at ih
        rw [if_pos (by simp only [List.any_cons, ha, Bool.or_true])]
        rw [List.map_cons, if_neg hx]
        by_cases h2 : x.1 = k'
        · have e : ¬ k' = k := fun z => hx (h2.trans z)
          rw [if_neg e]
          simp [valD, h2]
        · simp only [valD, List.find?_cons, decide_eq_false h2] at ih ⊢
          exact ih
      · rw [if_neg ha] at ih
        rw [if_neg (by simp only [List.any_cons, decide_eq_false hx, Bool.false_or]; exact ha)]
        rw [List.cons_append]
        by_cases h2 : x.1 = k'
        · have e : ¬ k' = k := fun z => hx (h2.trans z)
          rw [if_neg e]
          simp [valD, h2]
        · simp only [valD, List.find?_cons, decide_eq_false h2] at ih ⊢
          exact ih
/-- a dict with numbers from 0 for keys, as what it holds -/
structure Mp (es : List (Key × D)) (L : List Nat) (f : Nat → Option D) : Prop where
  ky : Ky es L
  nd : L.Nodup
  at' : ∀ m, valD es (nk m) = f m
theorem Mp.nil : Mp [] [] fun _ => none := ⟨rfl, List.nodup_nil, fun _ => rfl⟩
theorem Mp.put {es : List (Key × D)} {L : List Nat} {f : Nat → Option D} (h : Mp es L f) (n : Nat) (d : D) : Mp (putD es (nk n) d) (addN L n) fun m => if m = n then some d else f m := by
  refine ⟨h.ky.put n, nodup_addN h.nd, fun m => ?_⟩
  rw [valD_put, h.at']
  by_cases e : m = n
  · subst e; rw [if_pos rfl, if_pos rfl]
  · rw [if_neg e, if_neg (fun z => e (nk_inj z))]
theorem Mp.mem {es : List (Key × D)} {L : List Nat} {f : Nat → Option D} (h : Mp es L f) (n : Nat) : n ∈ L ↔ (f n).isSome = true := by
  rw [← h.at', h.ky.val, decide_eq_true_iff]
section
variable {C : AH} {P : D → AH → Prop} {s : ASt} {q : Addr} {es : List (Key × D)} {o i e : AE'} {nx : ASt → AH → Prop} {rt : D → AH → Prop} {bk ct : ASt → AH → Prop}
def kGetN (x : D) (P : D → AH → Prop) : D → AH → Prop := fun y C2 => match lookD C2 x y with
  | some (some d) => P d C2
  | _ => False
theorem g_getN (h : o s C fun x C1 => i s C1 (kGetN x P)) : aGetN o i s C P := h
def kInN (neg : Bool) (y : D) (P : D → AH → Prop) : D → AH → Prop := fun x C2 => match lookD C2 x y with
  | some r => P (.bl (if neg then !r.isSome else r.isSome)) C2
  | none => False
theorem g_inN {neg : Bool} (h : i s C fun y C1 => o s C1 (kInN neg y P)) : aInN neg i o s C P := h
def kGet1N (i : AE') (s : ASt) (P : D → AH → Prop) : D → AH → Prop := fun x C1 => isDic C1 x = true ∧ i s C1 fun y C2 => match lookD C2 x y with
  | some r => P (r.getD .non) C2
  | none => False
theorem g_get1N (h : o s C (kGet1N i s P)) : aGet1N o i s C P := h
def kPutN (d x : D) (nx : ASt → AH → Prop) (s : ASt) : D → AH → Prop := fun y C3 => match x with
  | .ce p => (match C3 p with
    | some (.dk es) => (match AL.keyOf y with | some k => es.length < sizeLine ∧ nx s (put C3 p (.dk (putD es k d))) | none => False)
    | some (.dn es) => (match keyT y with | some k => es.length < sizeLine ∧ nx s (put C3 p (.dn (putND es k d))) | none => False)
    | _ => False)
  | _ => False
theorem g_putN (h : e s C fun d C1 => o s C1 fun x C2 => i s C2 (kPutN d x nx s)) : aPutN o i e ⟨nx, rt, bk, ct⟩ s C := h
end
end AL
namespace AL
open PySem L2
/-- a dict from numbers to numbers -/
abbrev Mn (es : List (Key × D)) (L : List Nat) (f : Nat → Option Nat) : Prop := Mp es L fun m => (f m).map fun (v : Nat) => D.int (v : Int)
theorem Mn.put {es : List (Key × D)} {L : List Nat} {f : Nat → Option Nat} (h : Mn es L f) (n v : Nat) : Mn (putD es (nk n) (.int (v : Int))) (addN L n) fun m => if m = n then some v else f m := by
  have := Mp.put h n (.int (v : Int))
  refine ⟨this.ky, this.nd, fun m => ?_⟩
  rw [this.at' m]
  by_cases e : m = n
  · simp [e]
  · simp [e]
section
variable {C : AH} {W : AX'} {nx : ASt → AH → Prop} {rt : D → AH → Prop} {bk ct : ASt → AH → Prop} {s : ASt}
theorem g_handA {sub : Str → Str → Option Bool} {c : List Str} {nm : Str} {i : Nat} {ha : AS'} {r : List (List Str × Nat × AS')} (e : anyS sub nm c = some true) (h : ∀ a, C a = none → ha ⟨fun s C => nx (s.set i none) C, rt, fun s C => bk (s.set i none) C, fun s C => ct (s.set i none) C⟩ (s.set i (some (.ce a))) (put C a (.exc nm))) (h9 : i ≠ 999 := by decide) (hn : nm ≠ "NoSentence" := by decide +kernel) : aHandA sub W ⟨nx, rt, bk, ct⟩ ((c, i, ha) :: r) s nm C := g_handAT e h h9 hn
end
end AL
namespace AL
open PySem PySem.Spec PyProof.Rows L2
end AL
namespace AL
open PySem PySem.Spec PyProof.Rows L2
end AL
namespace AL
open PySem PySem.Spec PyProof.Rows L2
end AL
namespace AL
open PySem PySem.Spec PyProof.Rows L2
end AL
namespace AL
open PySem PySem.Spec PyProof.Rows L2
end AL
namespace AL
open PySem PySem.Spec PyProof.Rows L2
end AL
namespace AL
open PySem PySem.Spec PyProof.Rows L2
end AL
namespace AL
open PySem PySem.Spec PyProof.Rows L2
open PyProof.Rows (envOfC)
variable {B : Bs}
theorem Sat.room {K : PySem.W.Frag} {F : Hp} {C : AH} {R H : Hp} {p : Addr} (S : Sat B K F C R H) (h : H p = none) (o : HO) : Sat B K F C R (upd H p o) :=
  ⟨S.bF, S.bR, fun a u e => by rw [upd_ne (ne_of_none (S.ex a u e) h)]; exact S.ex _ _ e,
    fun q c e => let ⟨h1, u, h2, h3⟩ := S.cell q c e; ⟨h1, u, by rw [upd_ne (ne_of_none h2 h)]; exact h2, h3⟩,
    fun q u e => let ⟨h1, h2, h3⟩ := S.priv q u e; ⟨h1, h2, by rw [upd_ne (ne_of_none h3 h)]; exact h3⟩⟩
def putFD (f : Str) (v : D) : List (Str × D) → List (Str × D)
  | [] => [(f, v)]
  | (g, x) :: r => if g = f then (g, v) :: r else (g, x) :: putFD f v r
theorem RepF.put {K : PySem.W.Frag} {F : Hp} {f : Str} {v : V} {d : D} (q : Rep K F v d) : ∀ {fs : List (Str × V)} {es : List (Str × D)}, RepF K F fs es → RepF K F (putF f v fs) (putFD f d es)
  | _, _, .nil => .cons q .nil
  | _, _, .cons (k := k) r t => by
    unfold putF putFD
    by_cases h : k = f
    · rw [if_pos h, if_pos h]; exact .cons q t
    · rw [if_neg h, if_neg h]; exact .cons r (RepF.put q t)
theorem RepF.look {K : PySem.W.Frag} {F : Hp} {f : Str} {d : D} : ∀ {fs : List (Str × V)} {es : List (Str × D)}, RepF K F fs es → es.lookup f = some d → ∃ v, fs.lookup f = some v ∧ Rep K F v d
  | _, _, .nil, h => by cases h
  | _, _, .cons (k := k) r t, h => by
    unfold List.lookup at h ⊢
    split at h
    · cases h; exact ⟨_, rfl, r⟩
    · exact RepF.look t h
theorem RepF.lookN {K : PySem.W.Frag} {F : Hp} {f : Str} : ∀ {fs : List (Str × V)} {es : List (Str × D)}, RepF K F fs es → es.lookup f = none → fs.lookup f = none
  | _, _, .nil, _ => rfl
  | _, _, .cons (k := k) r t, h => by
    unfold List.lookup at h ⊢
    split at h
    · cases h
    · exact RepF.lookN t h
theorem RepF.length {K : PySem.W.Frag} {F : Hp} : ∀ {fs : List (Str × V)} {es : List (Str × D)}, RepF K F fs es → fs.length = es.length
  | _, _, .nil => rfl
  | _, _, .cons _ t => by rw [List.length_cons, List.length_cons, RepF.length t]
theorem cellO {K : PySem.W.Frag} {F : Hp} {C : AH} {R H : Hp} {p : Addr} {nm : Str} {es : List (Str × D)} (hS : Sat B K F C R H) (h : C p = some (.ob nm es)) : ∃ (A dx : Addr) (fs : List (Str × V)), H p = some (.ins A dx fs) ∧ B.g.mg nm = some (.ref A) ∧ RepF K F fs es := by
  obtain ⟨_, o, h1, h2⟩ := hS.cell p _ h
  cases h2 with
  | ob e r => exact ⟨_, _, _, h1, e, r⟩
/-- what is known of a class: by its name; the fields' names -/
structure ClsF (K : PySem.W.Frag) (mg : Str → Option Value) (nm : Str) (fl : List Str) : Prop where
  ex : ∃ C, mg nm = some (.ref C) ∧ Cls K C ∧ ∀ f ∈ fl, NoAttr K C f
/-- o.f -/
def aFld (nm f : Str) (a : AE') : AE' := fun s C P => a s C fun x C1 => match x with
  | .ce p => (match C1 p with | some (.ob n es) => n = nm ∧ (match es.lookup f with | some d => P d C1 | none => False) | _ => False)
  | _ => False
/-- o.f = e -/
def aFldPut (nm f : Str) (o v : AE') : AS' := fun E s C => v s C fun y C1 => o s C1 fun x C2 => match x with
  | .ce p => (match C2 p with | some (.ob n es) => n = nm ∧ es.length < 1000 ∧ E.nx s (put C2 p (.ob nm (putFD f y es))) | _ => False)
  | _ => False
section
variable {X : Cx} {K : PySem.W.Frag} {nm f : Str} {fl : List Str} {e o : Expr} {te to : TE} {a ao : AE'} {pos p2 : Pos} {g : Gd}
theorem ae_fld (c : ClsF K g.mg nm fl) (hf : f ∈ fl) (h : AE B X e te a) (hw : B.g = g := by first | rfl | assumption) (hb : attributeBase e f X.env (eval e X.env) = eval e X.env := by rfl) (hK : X.K = K := by rfl) : AE B X (.Attribute e f pos) (tFld K te f) (aFld nm f a) := by
  subst hK
  refine ⟨pe_fld h.pe hb, fun σ s F C R H Q P hs hS h0 k => h.sim σ s F C R H _ _ hs hS h0 fun x v F1 C1 H1 e1 S1 r1 h1 => ?_⟩
  split at h1
  · rename_i p
    split at h1
    · rename_i n es q
      obtain ⟨rfl, h1⟩ := h1
      split at h1
      · rename_i d q2
        cases r1
        obtain ⟨A, dx, fs, g1, g2, g3⟩ := cellO S1 q
        obtain ⟨u, g4, g5⟩ := g3.look q2
        obtain ⟨C', g6, g7, g8⟩ := c.ex
        rw [hw, g6] at g2
        cases g2
        exact ⟨p, _, dx, fs, u, rfl, g1, g7, g8 f hf, g4, k d u F1 C1 H1 e1 S1 g5 h1⟩
      · exact h1.elim
    · exact h1.elim
  · exact h1.elim
theorem as_fld (c : ClsF K g.mg nm fl) (hf : f ∈ fl) (ho : AE B X o to ao) (h : AE B X e te a) (hw : B.g = g := by first | rfl | assumption) (hs : swapsWith e (some (.Attribute o f p2)) pos.line X.env = pure false := by rfl) (hK : X.K = K := by rfl) : AS B X (.Assign [.Attribute o f p2] e pos) (sFld K to te f) (aFldPut nm f ao a) := by
  subst hK
  refine ⟨ps_fld ho.pe h.pe hs, fun D' E σ s F C R H hE hs hS h0 => h.sim σ s F C R H _ _ hs hS h0 fun y v F1 C1 H1 e1 S1 r1 h1 => ?_⟩
  refine ho.sim σ s F1 C1 R H1 _ _ (hs.mono e1) S1 h1 fun x u F2 C2 H2 e2 S2 r2 h2 => ?_
  split at h2
  · rename_i p
    split at h2
    · rename_i n es q
      obtain ⟨rfl, hl, h2⟩ := h2
      cases r2
      obtain ⟨A, dx, fs, g1, g2, g3⟩ := cellO S2 q
      obtain ⟨C', g6, g7, g8⟩ := c.ex
      have g2' := g2
      rw [hw, g6] at g2
      cases g2
      exact ⟨p, _, dx, fs, rfl, g1, g7, g8 f hf, by rw [g3.length]; exact hl, hE.nx s σ F2 _ _ (e1.trans e2) (hs.mono (e1.trans e2)) (S2.mutC q (.ob g2' (g3.put (r1.mono e2)))) h2⟩
    · exact h2.elim
  · exact h2.elim
end
structure MetG (P : Program) (w : World) (K : PySem.W.Frag) (mg : Str → Option Value) (base : Heap) (k : Nat) (nm m : Str) (n : Nat) (sp : Sp) : Prop where
  ex : ∃ (C f : Addr) (fd : FuncData) (ps : List Str), mg nm = some (.ref C) ∧ Cls K C ∧ Meth K C m f ∧ FnG P w K mg base k f fd ps sp ∧ Binds K fd ps []
abbrev Met' (P : Program) (w : World) (K : PySem.W.Frag) (mg : Str → Option Value) (base : Heap) (k : Nat) (nm m : Str) (n : Nat) (asp : ASp) : Prop := MetG P w K mg base k nm m n (spOf ⟨w, mg⟩ K n asp)
abbrev MetX (P : Program) (w : World) (K : PySem.W.Frag) (mg : Str → Option Value) (base : Heap) (k : Nat) (nm m : Str) (n : Nat) (asp : ASpX) : Prop := MetG P w K mg base k nm m n (spOfX ⟨w, mg⟩ K n asp)
def tMethG (g : Gd) (nm m : Str) (sp : Sp) (E : L2.St → XK) (ta : TE) (t : TA) : TE := fun σ H Q => ta σ H fun x H1 => ∃ a C dx fs, g.mg nm = some (.ref C) ∧ x = .ref a ∧ H1 a = some (.ins C dx fs) ∧ fs.lookup m = none ∧ t σ H1 fun vs H2 => sp (x :: vs) H2 Q (E σ)
section
variable {X : Cx} {k : Nat} {nm m : Str} {n : Nat} {sp : Sp} {E : L2.St → XK} {o e : Expr} {es : List Expr} {ta : TE} {t : TA} {pos apos : Pos}
theorem pe_methG {g : Gd} {pl : Sem Bool} (G : MetG X.prog X.w X.K X.mg X.base k nm m n sp) (hg : g.mg = X.mg) (hr : Room k X.A) (hgd : X.A.guards = some []) (hx : ∀ σ, PassesAt (L2.CX X.prog X.w) X σ (E σ)) (he : PE X o ta) (ha : PA X (e :: es) t)
    (hst : starEach (e :: es) X.env = (false, eval e X.env) :: starEach es X.env) (hpl : (backTo pos (starEach es X.env)).any (·.1) = false)
    (ht : eval (.Call (.Attribute o m apos) (e :: es) [] pos) X.env = (do
      let ov ← eval o X.env
      standAt apos.atName
      let (f, first) ← holding [ov] (getMethod ov m pl)
      callWith pos f first (backTo pos (starEach (e :: es) X.env)) (backToKw pos (keywordEach [] X.env)))) :
    PE X (.Call (.Attribute o m apos) (e :: es) [] pos) (tMethG g nm m sp E ta t) := by
  obtain ⟨C, f, fd, ps, hC, c, hm, F, b⟩ := G.ex
  refine ⟨fun pins s σ H Q I h => ?_⟩
  refine PySem.W.methodCall_KW (pl := pl) (thn (he.run pins s σ H _ I h) fun u s1 ⟨x, H1, I1, rx, a, C2, dx, fs, gC, ex, ea, l, q⟩ => ?_) ht
  rw [hg, hC] at gC
  cases gC
  subst ex
  obtain rfl : u = Value.ref a := rx
  refine getmeth_ok I1 ea c hm l ?_
  refine PySem.W.callWith_K (first := [.ref a]) (h₀ := X.base) I.ok.mod.kin hm.kp (thn (ha.run pos pins s1 σ H1 _ I1 q) fun us s2 ⟨vs, H2, I2, r, q2⟩ => ⟨I2.kIn, ?_⟩) hst hpl
  exact run_G (us := .ref a :: us) (vs := .ref a :: vs) F hr hgd b (hx σ) I2 (.cons rfl r) q2
theorem pe_methG0 {g : Gd} {pl : Sem Bool} (G : MetG X.prog X.w X.K X.mg X.base k nm m n sp) (hg : g.mg = X.mg) (hr : Room k X.A) (hgd : X.A.guards = some []) (hx : ∀ σ, PassesAt (L2.CX X.prog X.w) X σ (E σ)) (he : PE X o ta)
    (ht : eval (.Call (.Attribute o m apos) [] [] pos) X.env = (do
      let ov ← eval o X.env
      standAt apos.atName
      let (f, first) ← holding [ov] (getMethod ov m pl)
      callWith pos f first (backTo pos (starEach [] X.env)) (backToKw pos (keywordEach [] X.env)))) :
    PE X (.Call (.Attribute o m apos) [] [] pos) (tMethG g nm m sp E ta tNil) := by
  obtain ⟨C, f, fd, ps, hC, c, hm, F, b⟩ := G.ex
  refine ⟨fun pins s σ H Q I h => ?_⟩
  refine PySem.W.methodCall_KW (pl := pl) (thn (he.run pins s σ H _ I h) fun u s1 ⟨x, H1, I1, rx, a, C2, dx, fs, gC, ex, ea, l, q⟩ => ?_) ht
  rw [hg, hC] at gC
  cases gC
  subst ex
  obtain rfl : u = Value.ref a := rx
  refine getmeth_ok I1 ea c hm l ?_
  exact PySem.W.callWith_K0 (first := [.ref a]) I1.kIn hm.kp (run_G (us := [.ref a]) (vs := [.ref a]) F hr hgd b (hx σ) I1 (.cons rfl .nil) q)
end
/-- o.m(..) -/
def aMth (nm m : Str) (asp : ASp) (o : AE') (a : AA') : AE' := fun s C P => o s C fun x C1 => match x with
  | .ce p => (match C1 p with | some (.ob n es) => n = nm ∧ es.lookup m = none ∧ a s C1 fun ds C2 => asp (.ce p :: ds) C2 P | _ => False)
  | _ => False
def aMthX (W : AX') (nm m : Str) (asp : ASpX) (o : AE') (a : AA') : AE' := fun s C P => o s C fun x C1 => match x with
  | .ce p => (match C1 p with | some (.ob n es) => n = nm ∧ es.lookup m = none ∧ a s C1 fun ds C2 => asp (.ce p :: ds) C2 P (W s) | _ => False)
  | _ => False
theorem sim_meth {K : PySem.W.Frag} {g : Gd} (hw : B.g = g) {nm m : Str} {n : Nat} {asp : ASp} {E : L2.St → XK} {to : TE} {ao : AE'} {ta : TA} {a : AA'} (ho : SimE B K to ao) (ha : SimA B K n ta a) : SimE B K (tMethG g nm m (spOf g K (n + 1) asp) E to ta) (aMth nm m asp ao a) := by
  subst hw
  intro σ s F C R H Q P hs hS h k
  refine ho σ s F C R H _ _ hs hS h fun x v F1 C1 H1 e1 S1 r1 h1 => ?_
  split at h1
  · rename_i p
    split at h1
    · rename_i nm' es q
      obtain ⟨rfl, hl, h1⟩ := h1
      cases r1
      obtain ⟨A, dx, fs, g1, g2, g3⟩ := cellO S1 q
      refine ⟨p, A, dx, fs, g2, rfl, g1, g3.lookN hl, ha σ s F1 C1 R H1 _ _ (hs.mono e1) S1 h1 fun ds vs F2 C2 H2 e2 S2 r2 hl2 h2 => ?_⟩
      exact ⟨by rw [List.length_cons, r2.length, hl2], F2, C2, R, _, P, S2.nil, .cons (.ce p) r2, h2, fun d v F3 C3 H3 e3 S3 r3 h3 => k d v F3 C3 H3 ((e1.trans e2).trans e3) (S2.back e3 S3) r3 h3⟩
    · exact h1.elim
  · exact h1.elim
theorem sim_methX {K : PySem.W.Frag} {g : Gd} (hw : B.g = g) {W : AX'} {Wk : WX} {nm m : Str} {n : Nat} {asp : ASpX} {to : TE} {ao : AE'} {ta : TA} {a : AA'} (rel : WR B K g.mg W Wk) (ho : SimE B K to ao) (ha : SimA B K n ta a) : SimE B K (tMethG g nm m (spOfX g K (n + 1) asp) (WE Wk) to ta) (aMthX W nm m asp ao a) := by
  subst hw
  intro σ s F C R H Q P hs hS h k
  refine ho σ s F C R H _ _ hs hS h fun x v F1 C1 H1 e1 S1 r1 h1 => ?_
  split at h1
  · rename_i p
    split at h1
    · rename_i nm' es q
      obtain ⟨rfl, hl, h1⟩ := h1
      cases r1
      obtain ⟨A, dx, fs, g1, g2, g3⟩ := cellO S1 q
      refine ⟨p, A, dx, fs, g2, rfl, g1, g3.lookN hl, ha σ s F1 C1 R H1 _ _ (hs.mono e1) S1 h1 fun ds vs F2 C2 H2 e2 S2 r2 hl2 h2 => ?_⟩
      exact ⟨by rw [List.length_cons, r2.length, hl2], F2, C2, R, _, P, W s, S2.nil, .cons (.ce p) r2, h2, fun d v F3 C3 H3 e3 S3 r3 h3 => k d v F3 C3 H3 ((e1.trans e2).trans e3) (S2.back e3 S3) r3 h3,
        fun nm cls d F3 C3 H3 hm hd e3 S3 h3 => rel nm cls d s σ F3 C3 H3 hm hd (hs.mono ((e1.trans e2).trans e3)) (S2.back e3 S3).at0 h3⟩
    · exact h1.elim
  · exact h1.elim
section
variable {X : Cx} {K : PySem.W.Frag} {k j : Nat} {nm m : Str} {n : Nat} {o e : Expr} {es : List Expr} {to : TE} {ao : AE'} {t : TA} {a : AA'} {pos apos : Pos} {g : Gd} {W : AX'} {Wk : WX}
theorem ae_mth {asp : ASp} {pl : Sem Bool} (c : Met' X.prog X.w X.K X.mg X.base k nm m (n + 1) asp) (hr : Room j X.A) (hgd : X.A.guards = some []) (ho : AE B X o to ao) (ha : AA B X (e :: es) n t a) (hw : B.g = g := by first | rfl | assumption) (hX : (⟨X.w, X.mg⟩ : Gd) = g := by rfl) (hk : k ≤ j := by decide)
    (hst : starEach (e :: es) X.env = (false, eval e X.env) :: starEach es X.env := by rfl) (hpl : (backTo pos (starEach es X.env)).any (·.1) = false := by rfl)
    (ht : eval (.Call (.Attribute o m apos) (e :: es) [] pos) X.env = (do
      let ov ← eval o X.env
      standAt apos.atName
      let (f, first) ← holding [ov] (getMethod ov m pl)
      callWith pos f first (backTo pos (starEach (e :: es) X.env)) (backToKw pos (keywordEach [] X.env))) := by rfl) (hK : X.K = K := by rfl) :
    AE B X (.Call (.Attribute o m apos) (e :: es) [] pos) (tMethG g nm m (spOf g K (n + 1) asp) E0S to t) (aMth nm m asp ao a) := by
  subst hK hX
  exact ⟨pe_methG c rfl (hr.mono hk) hgd passG ho.pe ha.pa hst hpl ht, sim_meth hw ho.sim ha.sim⟩
theorem ae_mth0 {asp : ASp} {pl : Sem Bool} (c : Met' X.prog X.w X.K X.mg X.base k nm m 1 asp) (hr : Room j X.A) (hgd : X.A.guards = some []) (ho : AE B X o to ao) (hw : B.g = g := by first | rfl | assumption) (hX : (⟨X.w, X.mg⟩ : Gd) = g := by rfl) (hk : k ≤ j := by decide)
    (ht : eval (.Call (.Attribute o m apos) [] [] pos) X.env = (do
      let ov ← eval o X.env
      standAt apos.atName
      let (f, first) ← holding [ov] (getMethod ov m pl)
      callWith pos f first (backTo pos (starEach [] X.env)) (backToKw pos (keywordEach [] X.env))) := by rfl) (hK : X.K = K := by rfl) :
    AE B X (.Call (.Attribute o m apos) [] [] pos) (tMethG g nm m (spOf g K 1 asp) E0S to tNil) (aMth nm m asp ao aNil) := by
  subst hK hX
  exact ⟨pe_methG0 c rfl (hr.mono hk) hgd passG ho.pe ht, sim_meth (n := 0) hw ho.sim sim_nil⟩
theorem ae_mthX {asp : ASpX} {pl : Sem Bool} (c : MetX X.prog X.w X.K X.mg X.base k nm m (n + 1) asp) (hr : Room j X.A) (hgd : X.A.guards = some []) (tk : Takes X Wk) (rel : WR B K g.mg W Wk) (ho : AE B X o to ao) (ha : AA B X (e :: es) n t a) (hw : B.g = g := by first | rfl | assumption) (hX : (⟨X.w, X.mg⟩ : Gd) = g := by rfl) (hk : k ≤ j := by decide)
    (hst : starEach (e :: es) X.env = (false, eval e X.env) :: starEach es X.env := by rfl) (hpl : (backTo pos (starEach es X.env)).any (·.1) = false := by rfl)
    (ht : eval (.Call (.Attribute o m apos) (e :: es) [] pos) X.env = (do
      let ov ← eval o X.env
      standAt apos.atName
      let (f, first) ← holding [ov] (getMethod ov m pl)
      callWith pos f first (backTo pos (starEach (e :: es) X.env)) (backToKw pos (keywordEach [] X.env))) := by rfl) (hK : X.K = K := by rfl) :
    AE B X (.Call (.Attribute o m apos) (e :: es) [] pos) (tMethG g nm m (spOfX g K (n + 1) asp) (WE Wk) to t) (aMthX W nm m asp ao a) := by
  subst hK hX
  exact ⟨pe_methG c rfl (hr.mono hk) hgd (fun σ => passAt tk σ) ho.pe ha.pa hst hpl ht, sim_methX hw rel ho.sim ha.sim⟩
theorem ae_mthX0 {asp : ASpX} {pl : Sem Bool} (c : MetX X.prog X.w X.K X.mg X.base k nm m 1 asp) (hr : Room j X.A) (hgd : X.A.guards = some []) (tk : Takes X Wk) (rel : WR B K g.mg W Wk) (ho : AE B X o to ao) (hw : B.g = g := by first | rfl | assumption) (hX : (⟨X.w, X.mg⟩ : Gd) = g := by rfl) (hk : k ≤ j := by decide)
    (ht : eval (.Call (.Attribute o m apos) [] [] pos) X.env = (do
      let ov ← eval o X.env
      standAt apos.atName
      let (f, first) ← holding [ov] (getMethod ov m pl)
      callWith pos f first (backTo pos (starEach [] X.env)) (backToKw pos (keywordEach [] X.env))) := by rfl) (hK : X.K = K := by rfl) :
    AE B X (.Call (.Attribute o m apos) [] [] pos) (tMethG g nm m (spOfX g K 1 asp) (WE Wk) to tNil) (aMthX W nm m asp ao aNil) := by
  subst hK hX
  exact ⟨pe_methG0 c rfl (hr.mono hk) hgd (fun σ => passAt tk σ) ho.pe ht, sim_methX (n := 0) hw rel ho.sim sim_nil⟩
end
theorem make_guards {A : Around} {C : Addr} {us : List Value} {kw : List (Str × Value)} (h : A.guards = some []) : (A.under (.builtin "type.__call__" ⟨.ref C :: us, kw⟩)).guards = some [] := by
  first | exact h | simpa [Around.under, Code.weight, Code.isCreation, Code.isGuard, Code.isCaller, Code.frames, Code.isFrame, guardIds] using h
structure MakG (P : Program) (w : World) (K : PySem.W.Frag) (mg : Str → Option Value) (base : Heap) (k : Nat) (nm : Str) (n : Nat) (asp : ASp) : Prop where
  ex : ∃ (C f : Addr) (fd : FuncData) (ps : List Str), mg nm = some (.ref C) ∧ Mk K C f ∧ FnG P w K mg base k f fd ps (spOf ⟨w, mg⟩ K n asp) ∧ Binds K fd ps []
def tMakeG (g : Gd) (nm : Str) (sp : Sp) (E : L2.St → XK) (t : TA) : TE := fun σ H Q => t σ H fun vs H1 => ∃ C, g.mg nm = some (.ref C) ∧ ∀ x dx, H1 x = none → H1 dx = none → dx ≠ x → sp (.ref x :: vs) (upd (upd H1 dx (.own x)) x (.ins C dx [])) (fun v H2 => v = .non ∧ Q (.ref x) H2) (E σ)
section
variable {X : Cx} {k : Nat} {nm : Str} {sp : Sp} {E : L2.St → XK} {e : Expr} {es : List Expr} {t : TA} {pos p : Pos} {C f : Addr} {fd : FuncData} {ps : List Str}
theorem run_makeG {pins : List (Addr × Obj)} {σ : L2.St} {H : Hp} {s : Shared} {Q : VK} {us : List Value} {vs : List V} (M : Mk X.K C f) (F : FnG X.prog X.w X.K X.mg X.base k f fd ps sp) (hr : Room (k + 1) X.A) (hgd : X.A.guards = some []) (hb : Binds X.K fd ps []) (hx : PassesAt (L2.CX X.prog X.w) X σ (E σ)) (I : Inv X pins σ H s) (r : Vals vs us)
    (h : ∀ x dx, H x = Option.none → H dx = Option.none → dx ≠ x → sp (V.ref x :: vs) (upd (upd H dx (.own x)) x (.ins C dx [])) (fun v H2 => v = .non ∧ Q (.ref x) H2) (E σ)) :
    wpAny (model X.prog X.w) X.A (call (.ref C) us) (EP X pins σ Q) X.xe s := by
  have hq := h (s.heap.objs.size + 1) s.heap.objs.size (I.hok.fresh (Nat.le_succ _)) (I.hok.fresh (Nat.le_refl _)) (Nat.ne_of_lt (Nat.lt_succ_self _))
  have I2 := Inv.made (C := C) I
  have r2 : Vals (V.ref (s.heap.objs.size + 1) :: vs) (Value.ref (s.heap.objs.size + 1) :: us) := .cons rfl r
  have hl : (Value.ref (s.heap.objs.size + 1) :: us).length = ps.length := r2.length.symm.trans (F.len _ _ _ _ hq)
  have b := hb _ (Value.ref (s.heap.objs.size + 1) :: us) I2.kIn ((congrArg List.length (List.append_nil _)).trans hl)
  rw [List.append_nil] at b
  refine wpAny_call (make_map (f := f) I.kIn M.makes M.init (beq_iff_eq.mp M.fn) (codeAny_mono (F.run _ X.stack _ _ ⟨Value.ref (s.heap.objs.size + 1) :: us, []⟩ (Value.ref (s.heap.objs.size + 1) :: us) _ _ (E σ) (hr.make C us []) (make_guards hgd) (I2.env0.make C us []) b r2 hq) fun r s' hq' => ?_))
  cases r with
  | error e => exact hx pins _ _ e s' I2 hq'
  | ok fl =>
    cases fl with
    | ret u =>
      obtain ⟨v, H', I3, rv, ev, q3⟩ := I2.after hq'
      subst ev
      exact ⟨rv, ⟨V.ref (s.heap.objs.size + 1), H', I3, rfl, q3⟩⟩
    | next => exact False.elim hq'
    | brk => exact False.elim hq'
    | cont => exact False.elim hq'
end
/-- C(..) -/
def aMake (nm : Str) (asp : ASp) (a : AA') : AE' := fun s C P => a s C fun ds C1 => ∀ p, C1 p = none → asp (.ce p :: ds) (put C1 p (.ob nm [])) fun v C2 => v = .non ∧ P (.ce p) C2
section
variable {X : Cx} {K : PySem.W.Frag} {k j n : Nat} {nm : Str} {asp : ASp} {e : Expr} {es : List Expr} {t : TA} {a : AA'} {pos p : Pos} {g : Gd}
theorem sim_make (hw : B.g = g) {C : Addr} (hC : g.mg nm = some (.ref C)) (ha : SimA B K n t a) : SimE B K (tMakeG g nm (spOf g K (n + 1) asp) E0S t) (aMake nm asp a) := by
  subst hw
  intro σ s F C0 R H Q P hs hS h k
  refine ha σ s F C0 R H _ _ hs hS h fun ds vs F1 C1 H1 e1 S1 r1 hl h1 => ⟨C, hC, fun x dx hx hdx ne => ?_⟩
  have S2 := (S1.room hdx (.own x)).newC (p := x) (c := .ob nm []) (o := .ins C dx []) (by rw [upd_ne (fun z => ne z.symm)]; exact hx) (.ob hC .nil)
  exact ⟨by rw [List.length_cons, r1.length, hl], F1, _, R, _, _, S2.nil, .cons (.ce x) r1, h1 x (S1.freeC hx), fun d v F2 C2 H2 e2 S3 r3 h3 => by
    obtain ⟨h3, h4⟩ := h3
    subst h3
    cases r3
    exact ⟨rfl, k _ _ F2 C2 H2 (e1.trans e2) (S2.back e2 S3) (.ce x) h4⟩⟩
theorem ae_make (c : MakG X.prog X.w X.K X.mg X.base k nm (n + 1) asp) (hr : Room j X.A) (hgd : X.A.guards = some []) (ha : AA B X (e :: es) n t a) (hw : B.g = g := by first | rfl | assumption) (hX : (⟨X.w, X.mg⟩ : Gd) = g := by rfl) (hk : k + 1 ≤ j := by decide) (hg : Gl X nm := by rfl)
    (hdb : (nm == ("__debug__" : Str)) = false := by decide) (he : starEach (e :: es) X.env = (false, eval e X.env) :: starEach es X.env := by rfl) (hpl : (backTo pos (starEach es X.env)).any (·.1) = false := by rfl) (hK : X.K = K := by rfl) :
    AE B X (.Call (.Name nm p) (e :: es) [] pos) (tMakeG g nm (spOf g K (n + 1) asp) E0S t) (aMake nm asp a) := by
  subst hK hX
  obtain ⟨C, f, fd, ps, hC, M, F, b⟩ := c.ex
  refine ⟨⟨fun pins s σ H Q I h => ?_⟩, sim_make hw hC ha.sim⟩
  refine wpAny_Call_Name_kw (ld_glob I hg hC ?_ hdb)
  refine PySem.W.callWith_K (h₀ := X.base) I.ok.mod.kin M.kp (thn (ha.pa.run pos pins s σ H _ I h) fun us s1 ⟨vs, H1, I1, r, C2, g2, q⟩ => ⟨I1.kIn, ?_⟩) he hpl
  have g3 := hC.symm.trans g2
  cases g3
  exact run_makeG M F (hr.mono hk) hgd b (passG σ) I1 r q
end
section
variable {P : Program} {w : World} {K : PySem.W.Frag} {mg : Str → Option Value} {base : Heap} {x m qual : Str} {st : Stmt} {f C : Addr} {fd : FuncData} {N ps : List Str} {k n : Nat}
theorem metA {b : AS'} {asp : ASp} (F : L2.Fun K m qual st f fd) (S : FnScope N ps (defScope st)) (hn : ps.length = n) (hm : mg x = some (.ref C)) (hc : Cls K C) (hme : Meth K C m f) (hb : Binds K fd ps [])
    (hbody : ∀ (cdv : Value) (A : Around) (outer : List Env) (s : Shared) (H : Hp) (E : XK), Room k (A.deeper (envOfC qual (defScope st) s.heap.objs.size f cdv)) → A.guards = some [] → ∃ ts, ASs (Bs.nil ⟨w, mg⟩) (cxOf (L2.CX P w) P w K mg base N qual (defScope st) f cdv A outer s H E).nox (defBody st) ts b)
    (h : ∀ ds C P, ds.length = n → asp ds C P → aBody N.length b ds C P) : Met' P w K mg base (k + 1) x m n asp := by
  subst hn
  exact ⟨C, f, fd, ps, hm, hc, hme, fnA F S hbody h, hb⟩
theorem makA {b : AS'} {asp : ASp} (F : L2.Fun K "__init__" qual st f fd) (S : FnScope N ps (defScope st)) (hn : ps.length = n) (hm : mg x = some (.ref C)) (M : Mk K C f) (hb : Binds K fd ps [])
    (hbody : ∀ (cdv : Value) (A : Around) (outer : List Env) (s : Shared) (H : Hp) (E : XK), Room k (A.deeper (envOfC qual (defScope st) s.heap.objs.size f cdv)) → A.guards = some [] → ∃ ts, ASs (Bs.nil ⟨w, mg⟩) (cxOf (L2.CX P w) P w K mg base N qual (defScope st) f cdv A outer s H E).nox (defBody st) ts b)
    (h : ∀ ds C P, ds.length = n → asp ds C P → aBody N.length b ds C P) : MakG P w K mg base (k + 1) x n asp := by
  subst hn
  exact ⟨C, f, fd, ps, hm, M, fnA F S hbody h, hb⟩
end
def aSetd (o i e : AE') : AE' := fun s C P => o s C fun x C1 => (asK C1 x).isSome = true ∧ i s C1 fun y C2 => e s C2 fun z C3 => match x, keyOf y with
  | .ce p, some k => (match C3 p with | some (.dk es) => es.length < sizeLine ∧ (match valD es k with | some d => P d C3 | none => P z (put C3 p (.dk (putD es k z)))) | _ => False)
  | _, _ => False
end AL
namespace AL
open PySem L2
section
variable {C : AH} {P : D → AH → Prop} {s : ASt} {q : Addr} {es : List (Str × D)} {o v a i e : AE'} {as : AA'} {asp : ASp} {nm f m : Str} {nx : ASt → AH → Prop} {rt : D → AH → Prop} {bk ct : ASt → AH → Prop}
def kFld (nm f : Str) (P : D → AH → Prop) : D → AH → Prop := fun x C1 => match x with
  | .ce p => (match C1 p with | some (.ob n es) => n = nm ∧ (match es.lookup f with | some d => P d C1 | none => False) | _ => False)
  | _ => False
theorem g_fld (h : a s C (kFld nm f P)) : aFld nm f a s C P := h
theorem g_kFld {d : D} (hC : C q = some (.ob nm es)) (h2 : es.lookup f = some d) (h : P d C) : kFld nm f P (.ce q) C := by
  show (match C q with | some (.ob n es) => n = nm ∧ (match es.lookup f with | some d => P d C | none => False) | _ => False)
  rw [hC]
  show nm = nm ∧ (match es.lookup f with | some d => P d C | none => False)
  rw [h2]
  exact ⟨rfl, h⟩
def kFldPut (nm f : Str) (y : D) (nx : ASt → AH → Prop) (s : ASt) : D → AH → Prop := fun x C2 => match x with
  | .ce p => (match C2 p with | some (.ob n es) => n = nm ∧ es.length < 1000 ∧ nx s (put C2 p (.ob nm (putFD f y es))) | _ => False)
  | _ => False
theorem g_fldPut (h : v s C fun y C1 => o s C1 (kFldPut nm f y nx s)) : aFldPut nm f o v ⟨nx, rt, bk, ct⟩ s C := h
theorem g_kFldPut {y : D} (hC : C q = some (.ob nm es)) (hl : es.length < 1000) (h : nx s (put C q (.ob nm (putFD f y es)))) : kFldPut nm f y nx s (.ce q) C := by
  show (match C q with | some (.ob n es) => n = nm ∧ es.length < 1000 ∧ nx s (put C q (.ob nm (putFD f y es))) | _ => False)
  rw [hC]
  exact ⟨rfl, hl, h⟩
def kMth (nm m : Str) (asp : ASp) (as : AA') (s : ASt) (P : D → AH → Prop) : D → AH → Prop := fun x C1 => match x with
  | .ce p => (match C1 p with | some (.ob n es) => n = nm ∧ es.lookup m = none ∧ as s C1 fun ds C2 => asp (.ce p :: ds) C2 P | _ => False)
  | _ => False
theorem g_mth (h : o s C (kMth nm m asp as s P)) : aMth nm m asp o as s C P := h
theorem g_kMth (hC : C q = some (.ob nm es)) (hl : es.lookup m = none) (h : as s C fun ds C2 => asp (.ce q :: ds) C2 P) : kMth nm m asp as s P (.ce q) C := by
  show (match C q with | some (.ob n es) => n = nm ∧ es.lookup m = none ∧ as s C fun ds C2 => asp (.ce q :: ds) C2 P | _ => False)
  rw [hC]
  exact ⟨rfl, hl, h⟩
def kMthX (W : AX') (nm m : Str) (asp : ASpX) (as : AA') (s : ASt) (P : D → AH → Prop) : D → AH → Prop := fun x C1 => match x with
  | .ce p => (match C1 p with | some (.ob n es) => n = nm ∧ es.lookup m = none ∧ as s C1 fun ds C2 => asp (.ce p :: ds) C2 P (W s) | _ => False)
  | _ => False
theorem g_mthX {W : AX'} {asp : ASpX} (h : o s C (kMthX W nm m asp as s P)) : aMthX W nm m asp o as s C P := h
theorem g_kMthX {W : AX'} {asp : ASpX} (hC : C q = some (.ob nm es)) (hl : es.lookup m = none) (h : as s C fun ds C2 => asp (.ce q :: ds) C2 P (W s)) : kMthX W nm m asp as s P (.ce q) C := by
  show (match C q with | some (.ob n es) => n = nm ∧ es.lookup m = none ∧ as s C fun ds C2 => asp (.ce q :: ds) C2 P (W s) | _ => False)
  rw [hC]
  exact ⟨rfl, hl, h⟩
theorem g_make (h : as s C fun ds C1 => ∀ p, C1 p = none → asp (.ce p :: ds) (put C1 p (.ob nm [])) fun v C2 => v = .non ∧ P (.ce p) C2) : aMake nm asp as s C P := h
def kSetd2 (x y : D) (P : D → AH → Prop) : D → AH → Prop := fun z C3 => match x, AL.keyOf y with
  | .ce p, some k => (match C3 p with | some (.dk es) => es.length < sizeLine ∧ (match valD es k with | some d => P d C3 | none => P z (put C3 p (.dk (putD es k z)))) | _ => False)
  | _, _ => False
def kSetd (i e : AE') (s : ASt) (P : D → AH → Prop) : D → AH → Prop := fun x C1 => (asK C1 x).isSome = true ∧ i s C1 fun y C2 => e s C2 (kSetd2 x y P)
theorem g_setd (h : o s C (kSetd i e s P)) : aSetd o i e s C P := h
end
end AL
namespace AL
open PySem PySem.Spec PyProof.Rows L2
end AL
namespace AL
open PySem PySem.Spec PyProof.Rows L2
variable {B : Bs}
def aChain3 (r r' r'' : D → D → AH → (D → AH → Prop) → Prop) (a b c d : AE') : AE' := fun s C P => a s C fun x C1 => b s C1 fun y C2 => r x y C2 fun z C3 => match z with
  | .bl true => c s C3 fun w C4 => r' y w C4 fun z2 C5 => (match z2 with
    | .bl true => d s C5 fun v C6 => r'' w v C6 P
    | .bl false => P (.bl false) C5
    | _ => False)
  | .bl false => P (.bl false) C3
  | _ => False
section
variable {C : AH} {P : D → AH → Prop} {s : ASt} {a b c d : AE'} {r r' r'' : D → D → AH → (D → AH → Prop) → Prop}
def kChain3 (r' r'' : D → D → AH → (D → AH → Prop) → Prop) (c d : AE') (y : D) (s : ASt) (P : D → AH → Prop) : D → AH → Prop := fun z C3 => match z with
  | .bl true => c s C3 fun w C4 => r' y w C4 (kChain r'' d w s P)
  | .bl false => P (.bl false) C3
  | _ => False
theorem g_chain3 (h : a s C fun x C1 => b s C1 fun y C2 => r x y C2 (kChain3 r' r'' c d y s P)) : aChain3 r r' r'' a b c d s C P := h
end
end AL
namespace AL
open PySem PySem.Spec PyProof.Rows L2
open PyProof.Rows (envOfC)
variable {B : Bs}
theorem metX {P : Program} {w : World} {K : PySem.W.Frag} {mg : Str → Option Value} {base : Heap} {x m qual : Str} {st : Stmt} {f C : Addr} {fd : FuncData} {N ps : List Str} {k n : Nat} {b : AX' → AS'} {asp : ASpX} (F : L2.Fun K m qual st f fd) (S : FnScope N ps (defScope st)) (hn : ps.length = n) (hm : mg x = some (.ref C)) (hc : Cls K C) (hme : Meth K C m f) (hb : Binds K fd ps [])
    (hbody : ∀ (B : Bs) (hw : B.g = ⟨w, mg⟩) (W : AX') (Wk : WX) (cdv : Value) (A : Around) (outer : List Env) (s : Shared) (H : Hp) (E : XK), Room k (A.deeper (envOfC qual (defScope st) s.heap.objs.size f cdv)) → A.guards = some [] →
      Takes (cxOf (L2.CX P w) P w K mg base N qual (defScope st) f cdv A outer s H E) Wk → WR B K mg W Wk →
      PassesOwn (model P w) (cxOf (L2.CX P w) P w K mg base N qual (defScope st) f cdv A outer s H E).A (cxOf (L2.CX P w) P w K mg base N qual (defScope st) f cdv A outer s H E).env (cxOf (L2.CX P w) P w K mg base N qual (defScope st) f cdv A outer s H E).xe →
      ∃ ts, ASs B (cxOf (L2.CX P w) P w K mg base N qual (defScope st) f cdv A outer s H E) (defBody st) ts (b W))
    (h : ∀ ds C P PX, ds.length = n → asp ds C P PX → aBodyX N.length b ds C P PX) : MetX P w K mg base (k + 1) x m n asp := by
  subst hn
  refine ⟨C, f, fd, ps, hm, hc, hme, fnG_of F S (fun vs H Q E z => z.1) (fun cdv A outer s H vs Q E hr hg z => ?_), hb⟩
  obtain ⟨hl, F1, C, R, ds, P1, PX, hS, hR, ha, hk, hx⟩ := z
  obtain ⟨ts, hps⟩ := hbody ⟨F1, R, ⟨w, mg⟩⟩ rfl (fun _ nm C' => PX nm C') (fun cls d _ H' => E cls d H') cdv A outer s H E hr hg (takes_of rfl rfl rfl rfl)
    (fun nm cls d s2 σ2 F2 C2 H2 hm2 hd2 hs2 S2 h2 => hx nm cls d F2 C2 H2 hm2 hd2 S2.bF S2.nil h2) (passes_of rfl)
  refine ⟨ts, hps.ps, ?_⟩
  have hb2 := h ds C P1 PX (by rw [← hR.length, hl]) ha
  refine hps.sim { nx := fun _ H' => Q .non H', rt := Q } ⟨fun _ C' => P1 .non C', P1, fun _ _ => False, fun _ _ => False⟩ _ _ F1 C R H ⟨fun s σ F' C' H' e _ S h => ?_, fun d v F' C' H' e r S h => ?_, fun _ _ _ _ _ _ _ _ h => h.elim, fun _ _ _ _ _ _ _ _ h => h.elim⟩ (Slo.start hR N.length) (hS.rebase rfl (Ex.refl _) (Ex.refl _)) hb2
  · exact hk .non .non F' C' H' e S.nil .non h
  · exact hk d v F' C' H' e S.nil r h
end AL
namespace AL
open PySem PySem.Spec PyProof.Rows L2
end AL
namespace AL
open PySem PySem.Spec PyProof.Rows L2
variable {B : Bs}
def isTupM : D → Bool
  | .tup ds => !wkP ds
  | _ => false
def aMethT (m : D → ASp) (o : AE') (a : AA') : AE' := fun s C P => o s C fun x C1 => isTupM x = true ∧ a s C1 fun ds C2 => m x ds C2 P
section
variable {C : AH} {P : D → AH → Prop} {s : ASt} {e : AE'} {aa : AA'}
theorem g_methT {m : D → ASp} (h : e s C fun x C1 => isTupM x = true ∧ aa s C1 fun ds C2 => m x ds C2 P) : aMethT m e aa s C P := h
theorem isTupM_map (ys : List Str) : isTupM (.tup (ys.map D.str)) = true := by
  cases ys with
  | nil => rfl
  | cons y l => rfl
theorem g_tyT {ys : List Str} {A : Prop} (h : A) : isTupM (.tup (ys.map D.str)) = true ∧ A := ⟨isTupM_map ys, h⟩
end
end AL
namespace AL
open PySem PySem.Spec PyProof.Rows L2
end AL
namespace AL
open PySem PySem.Spec PyProof.Rows L2
variable {B : Bs}
def downD (hi : Int) (n : Nat) : List D := (List.range n).map fun (i : Nat) => D.int (hi - i)
def aIR3 (a : AA') : AI' := fun s C P => a s C fun ds C1 => match ds with | [.int i, .int j, .int c] => (c = -1 ∧ -(2 ^ 62) ≤ i ∧ i < 2 ^ 62 ∧ -(2 ^ 62) ≤ j ∧ j < 2 ^ 62) ∧ P (downD i (i - j).toNat) (fun _ => True) C1 | _ => False
section
variable {s : ASt} {C : AH} {PI : List D → (AH → Prop) → AH → Prop} {aa : AA'}
def kIR3 (PI : List D → (AH → Prop) → AH → Prop) : List D → AH → Prop := fun ds C1 => match ds with | [.int i, .int j, .int c] => (c = -1 ∧ -(2 ^ 62) ≤ i ∧ i < 2 ^ 62 ∧ -(2 ^ 62) ≤ j ∧ j < 2 ^ 62) ∧ PI (downD i (i - j).toNat) (fun _ => True) C1 | _ => False
theorem g_ir3 (h : aa s C (kIR3 PI)) : aIR3 aa s C PI := h
theorem g_kIR3 {i j : Int} (h1 : -(2 ^ 62) ≤ i ∧ i < 2 ^ 62 ∧ -(2 ^ 62) ≤ j ∧ j < 2 ^ 62) (h : PI (downD i (i - j).toNat) (fun _ => True) C) : kIR3 PI [.int i, .int j, .int (-1)] C := ⟨⟨rfl, h1⟩, h⟩
end
end AL
namespace AL
open PySem PySem.Spec PyProof.Rows L2
open PyProof.Rows (envOfC)
variable {B : Bs}
def oexIn (K : PySem.W.Frag) (C : Addr) : Bool := match K.lookup C with
  | some ⟨.type "type", _, .cls cd, sl⟩ => (match cd.mro, sl.toList with
    | .ref C' :: bm, [_, _, _, _, some (.builtin n), _] => C' == C && n == "ValueError.__new__" && !cd.hasDel && PySem.HandSPX.refsVE bm && cd.hasDict
    | _, _ => false)
  | _ => false
theorem oexC_of {K : PySem.W.Frag} {C : Addr} (q : oexIn K C = true) (sa : PySem.W.findIn K (.ref C) "__setattr__" = some (some (.builtin "object.__setattr__"))) (exC : PySem.W.subIn K (.ref C) (.type "BaseException") = some true) (tyC : PySem.W.typeIn K (.ref C) = some (.type "type")) (kC : PySem.W.keepIn K (.ref C) = true) : OexC K C := by
  refine ⟨?_, sa, exC, tyC, kC⟩
  unfold oexIn at q
  split at q
  · rename_i dd cd sl ho
    split at q
    · rename_i C' bm k0 k1 k2 k3 n k5 hm hs
      simp only [Bool.and_eq_true, beq_iff_eq, Bool.not_eq_true'] at q
      obtain ⟨⟨⟨⟨rfl, rfl⟩, hdel⟩, ht⟩, hdc⟩ := q
      obtain ⟨nm, bs, mro, ns, qn, hd, sn, sub, ab, col, del⟩ := cd
      dsimp only at hm hdel hdc
      subst hm hdel hdc
      have hsl : sl = #[k0, k1, k2, k3, some (.builtin "ValueError.__new__"), k5] := by
        obtain ⟨l⟩ := sl
        simp only at hs
        rw [hs]
      subst hsl
      exact ⟨nm, qn, ns, bs, bm, sn, sub, ab, col, dd, k0, k1, k2, k3, k5, ho, ht⟩
    · cases q
  · cases q
section
variable {X : Cx} {x : Str} {e : Expr} {es : List Expr} {ta : TA} {p1 p2 pos : Pos}
/-- W.__init__(self, ..), W an own class over ValueError without own __init__ -/
theorem pe_oinit {pl : Sem Bool} {CW : Addr} (hg : Gl X x) (hm : X.mg x = some (.ref CW)) (sp : PySem.W.specialIn X.K (.ref CW) "__getattribute__" = some (some (.builtin "type.__getattribute__"))) (hr : PySem.W.readsIn X.K CW (.type "type") = true)
    (vV : PySem.W.findCls X.K (.ref CW) (.type "type") "__init__" = some (.val (.builtin "ValueError.__init__"))) (ha : PA X (e :: es) ta) (hdb : (x == ("__debug__" : Str)) = false := by decide)
    (hc : eval (.Call (.Attribute (.Name x p1) "__init__" p2) (e :: es) [] pos) X.env = (do
      let ov ← eval (.Name x p1) X.env
      standAt p2.atName
      let (f, first) ← holding [ov] (getMethod ov "__init__" pl)
      callWith pos f first (backTo pos (starEach (e :: es) X.env)) (backToKw pos (keywordEach [] X.env))) := by rfl)
    (he : starEach (e :: es) X.env = (false, eval e X.env) :: starEach es X.env := by rfl) (hpl : (backTo pos (starEach es X.env)).any (·.1) = false := by rfl) :
    PE X (.Call (.Attribute (.Name x p1) "__init__" p2) (e :: es) [] pos) (tVeI X.K ta) := by
  refine ⟨fun pins s σ H Q I h => ?_⟩
  refine PySem.W.methodCall_KW (ld_glob I hg hm ?_ hdb) hc
  refine PySem.W.method_cls I.kIn sp (PySem.W.cls_value I.kIn hr vV (by decide +kernel) ?_)
  show wpAny _ _ (callWith pos (Value.builtin "ValueError.__init__") [] (backTo pos (starEach (e :: es) X.env)) []) _ _ _
  refine PyProof.Rows.callWith_method1 (thn (ha.run pos pins _ σ H _ (I.tok _) h) fun us s1 ⟨vs, H1, I1, r1, a, C, ws, ev, hl, T, ea, q⟩ => ?_) he hpl
  subst ev
  cases r1 with
  | @cons _ u0 _ ur ra rw' =>
    obtain rfl : u0 = Value.ref a := ra
    have hlen : ur.length ≤ sizeLine := by
      rw [← Paired.length rw', sizeLine_eq]
      omega
    exact oinit_ok T I1 ea hlen fun s' J => ⟨.non, H1, J, rfl, q⟩
end
/-- what its __init__ does: one field -/
def spI (K : PySem.W.Frag) (f : Str) : Sp := fun vs H Q E => ∃ (a C : Addr) (y : V), vs = [.ref a, y] ∧ OexC K C ∧ PySem.W.findIn K (.ref C) f = some none ∧ H a = some (exo a C none) ∧
  ∀ dx, H dx = none → dx ≠ a → Q .non (upd (upd H dx (exd dx [(f, y)])) a (exo a C (some dx)))
/-- the facts of such a class -/
def IniF (P : Program) (w : World) (K : PySem.W.Frag) (mg : Str → Option Value) (base : Heap) (k : Nat) (x f : Str) : Prop :=
  ∃ (C fI : Addr) (fd : FuncData) (ps : List Str), mg x = some (.ref C) ∧ OexC K C ∧ PySem.W.findIn K (.ref C) "__init__" = some (some (.ref fI)) ∧ PySem.W.typeIn K (.ref fI) = some (.type "function") ∧ PySem.W.findIn K (.ref C) f = some none ∧
    FnOk P w K mg base (L2.CX P w) k fI fd ps (spI K f) ∧ Binds K fd ps []
theorem iniF {P : Program} {w : World} {K : PySem.W.Frag} {mg : Str → Option Value} {base : Heap} {x qual f m : Str} {st : Stmt} {fI C : Addr} {fd : FuncData} {N ps : List Str} (F : L2.Fun K "__init__" qual st fI fd) (S : FnScope N ps (defScope st)) (hps : ps.length = 2) (hN : N.length = 2)
    (hm : mg x = some (.ref C)) (T : OexC K C) (iC : PySem.W.findIn K (.ref C) "__init__" = some (some (.ref fI))) (tI : PySem.W.typeIn K (.ref fI) = some (.type "function")) (hf : PySem.W.findIn K (.ref C) f = some none) (hb : Binds K fd ps [])
    (hbody : ∀ (cdv : Value) (A : Around) (outer : List Env) (s : Shared) (H : Hp) (E : XK),
      PSs (cxOf (L2.CX P w) P w K mg base N qual (defScope st) fI cdv A outer s H E) (defBody st) (tSeq (tDrop (tVeI K (tCons (tVar 0) (tCons (tC (.str m)) tNil)))) (tOst K f (tVar 0) (tVar 1)))) : IniF P w K mg base 1 x f := by
  obtain ⟨oc, od, kV, doc, pm, an, cdv, ct, osl, hfd, lk, hcd⟩ := F.ex
  subst hfd
  refine ⟨C, fI, _, ps, hm, T, iC, tI, hf, ?_, hb⟩
  refine fn_of lk hcd S (fun vs H Q E z => ?_) (fun A outer s H vs Q E hr z => ?_)
  · obtain ⟨a, C', y, e, _⟩ := z
    rw [e, hps]; rfl
  · obtain ⟨a, C', y, rfl, T', hf', ha, hq⟩ := z
    refine ⟨_, hbody cdv A outer s H E, ?_⟩
    have hst : L2.start N [V.ref a, y] = [some (.ref a), some y] := by
      unfold L2.start
      rw [hN]
      rfl
    rw [hst]
    refine ⟨.ref a, rfl, a, C', [.str m], rfl, by simp, T', ha, y, rfl, .ref a, rfl, a, C', rfl, T', hf', .inl ⟨ha, fun dx h1 h2 => hq dx h1 h2⟩⟩
def tRaiseI (K : PySem.W.Frag) (mg : Str → Option Value) (x f : Str) (ta : TA) (Wk : WX) : TS := fun _ σ H => ∃ C, mg x = some (.ref C) ∧ tMkO C (spI K f) [] ta σ H fun cls d H' => Wk cls d σ H'
/-- raise X(e), X a class whose __init__ stores e -/
def aRaiseI (W : AX') (nm : Str) (a : AA') : AS' := fun _ s C => a s C fun ds C1 => ds.length = 1 ∧ W s nm C1
theorem Sat.laidFree {B : Bs} {K : PySem.W.Frag} {F : Hp} {C : AH} {R H : Hp} {p : Addr} {o : HO} (S : Sat B K F C R H) (h : H p = none) : Sat B K F C R (upd H p o) := by
  have nit : ∀ b u, H b = some u → upd H p o b = some u := fun b u e => by
    have : b ≠ p := fun z => by rw [z, h] at e; cases e
    rw [upd_ne this]; exact e
  refine ⟨S.bF, S.bR, fun b u e => nit b u (S.ex b u e), fun q c e => ?_, fun b u e => let ⟨q1, q2, q3⟩ := S.priv b u e; ⟨q1, q2, nit b u q3⟩⟩
  obtain ⟨h1, o', h2, h3⟩ := S.cell q c e
  exact ⟨h1, o', nit q _ h2, h3⟩
section
variable {X : Cx} {K : PySem.W.Frag} {W : AX'} {Wk : WX} {x f : Str} {p p3 pos : Pos} {e : Expr} {ta : TA} {a : AA'} {k j : Nat}
theorem as_raiseI {mg : Str → Option Value} (F1 : IniF X.prog X.w K mg X.base k x f) (hr : Room j X.A) (tk : Takes X Wk) (rel : WR B K mg W Wk) (ha : AA B X [e] 1 ta a) (hx : x = "NoSentence" := by rfl) (hk : k + 1 ≤ j := by decide) (hc : X.calm = true := by rfl) (hg : Gl X x := by rfl) (hdb : (x == ("__debug__" : Str)) = false := by decide)
    (he : starEach [e] X.env = (false, eval e X.env) :: starEach [] X.env := by rfl) (hpl : (backTo p3 (starEach [] X.env)).any (·.1) = false := by rfl) (hK : X.K = K := by rfl) (hmg : X.mg = mg := by rfl) :
    AS B X (.Raise (some (.Call (.Name x p) [e] [] p3)) none pos) (tRaiseI K mg x f ta Wk) (aRaiseI W x a) := by
  subst hK hmg
  obtain ⟨C, fI, fd, ps, hm, T, iC, tI, hf, Fn, hb⟩ := F1
  have h := ps_raise (pos := pos) hc tk (pmk_oex (p := p) (pos := p3) T iC tI Fn (hr.mono hk) hb (dvs := []) (ds := []) Paired.nil (passes_call takes_no fun _ _ _ _ h => h) hg hm ha.pa hdb he hpl)
  refine ⟨⟨fun pins s σ H D I hh => h.run pins s σ H D I ?_⟩, fun D' E σ s F C' R H hE hs hS h0 => ?_⟩
  · obtain ⟨C2, g2, w⟩ := hh
    rw [hm] at g2
    cases g2
    exact w
  · refine ⟨C, hm, ha.sim σ s F C' R H _ _ hs hS h0 fun ds vs F1 C1 H1 e1 S1 r1 hl h1 => ?_⟩
    obtain ⟨hd1, hW⟩ := h1
    have hvl : vs.length = 1 := by rw [r1.length]; exact hd1
    refine ⟨by omega, fun b hb0 => ?_⟩
    obtain ⟨y, rfl⟩ : ∃ y, vs = [y] := by
      match vs, hvl with
      | [y], _ => exact ⟨y, rfl⟩
    refine ⟨b, C, y, rfl, T, hf, upd_same, fun dx hdx hne => ⟨rfl, dx, [(f, y)], upd_same, ?_, ?_, ?_⟩⟩
    · rw [upd_ne hne, upd_same]
    · rw [upd_ne hne] at hdx; exact hdx
    · have hdx1 : H1 dx = none := by rw [upd_ne hne] at hdx; exact hdx
      have eH : upd (L2.del (upd (upd (upd H1 b (exo b C none)) dx (exd dx [(f, y)])) b (exo b C (some dx))) b) dx (.xd [(f, y)]) = upd H1 dx (.xd [(f, y)]) := by
        funext z
        by_cases h1 : z = dx
        · rw [h1, upd_same, upd_same]
        · rw [upd_ne h1, upd_ne h1]
          by_cases h2 : z = b
          · rw [h2, L2.del_same, hb0]
          · rw [L2.del_ne h2, upd_ne h2, upd_ne h1, upd_ne h2]
      rw [eH]
      exact rel x _ (some dx) s σ F1 C1 _ hm (.inl hx) (hs.mono e1) (S1.laidFree hdx1).at0 hW
end
section
variable {W : AX'} {s : ASt} {C : AH} {nm : Str} {a : AA'} {E : AEnds}
def kRI (W : AX') (nm : Str) (s : ASt) : List D → AH → Prop := fun ds C1 => ds.length = 1 ∧ W s nm C1
theorem g_raiseI (h : a s C (kRI W nm s)) : aRaiseI W nm a E s C := h
theorem g_kRI {d : D} (h : W s nm C) : kRI W nm s [d] C := ⟨rfl, h⟩
end
end AL
local macro_rules | `(tactic| walk_at "ne") => `(tactic| first | with_reducible assumption | ((with_reducible refine Ne.symm ?_); (with_reducible assumption)))
local macro_rules | `(tactic| walk_at "look") => `(tactic| first
  | with_reducible assumption
  | with_reducible exact AL.put_same
  | ((with_reducible apply AL.put_other); (walk_at "ne"); (walk_at "look"))
  | ((with_reducible apply AL.del_other); (walk_at "ne"); (walk_at "look")))
local macro_rules | `(tactic| walk_at "mul") => `(tactic| first | exact Or.inr ⟨by omega, by omega⟩ | exact Or.inl ⟨by omega, by omega⟩)
local macro_rules | `(tactic| walk_at "go1") => `(tactic| first
  | with_reducible apply AL.g_seq
  | with_reducible apply AL.g_raiseI
  | with_reducible apply AL.g_kRI
  | with_reducible apply AL.g_asg
  | with_reducible apply AL.g_op
  | with_reducible apply AL.g_un
  | ((with_reducible apply AL.g_var); exact rfl)
  | with_reducible apply AL.g_c
  | ((with_reducible apply AL.g_gname'); (simp only [AL.wipeA, List.foldl_cons, List.foldl_nil, List.set_cons_zero, List.set_cons_succ]; exact rfl))
  | with_reducible apply AL.g_call
  | with_reducible apply AL.g_cons
  | with_reducible apply AL.g_nil
  | with_reducible apply AL.g_addI
  | with_reducible apply AL.g_sub
  | ((with_reducible apply AL.g_mul); (walk_at "mul"))
  | ((with_reducible apply AL.g_mod); (omega))
  | ((with_reducible apply AL.g_div); (exact ⟨by omega, by omega⟩))
  | ((with_reducible apply AL.g_pow); (exact ⟨by decide, by decide, by decide⟩))
  | with_reducible apply AL.g_lt
  | with_reducible apply AL.g_le
  | with_reducible apply AL.g_gt
  | with_reducible apply AL.g_ge
  | with_reducible apply AL.g_eqII
  | with_reducible apply AL.g_neII
  | with_reducible apply AL.g_eqBB
  | with_reducible apply AL.g_neBB
  | with_reducible apply AL.g_eqTT
  | with_reducible apply AL.g_neTT
  | with_reducible apply AL.g_is
  | with_reducible apply AL.g_isnot
  | with_reducible apply AL.g_B
  | with_reducible apply AL.g_kB
  | with_reducible apply AL.g_tru
  | with_reducible apply AL.g_kTruB
  | with_reducible apply AL.g_and
  | with_reducible apply AL.g_or
  | with_reducible apply AL.g_not
  | with_reducible apply AL.g_andV
  | with_reducible apply AL.g_orV
  | with_reducible apply AL.g_notV
  | with_reducible apply AL.g_kNot
  | with_reducible apply AL.g_if
  | with_reducible apply AL.g_ixL0
  | with_reducible apply AL.g_ixL1
  | with_reducible apply AL.g_ixL2
  | with_reducible apply AL.g_ixT0
  | with_reducible apply AL.g_ixT1
  | with_reducible apply AL.g_ixT2
  | with_reducible apply AL.g_ixT3
  | ((with_reducible apply AL.g_ixC); (walk_at "look"))
  | with_reducible apply AL.g_lenL
  | with_reducible apply AL.g_lenT
  | with_reducible apply AL.g_lenR
  | ((with_reducible apply AL.g_lenC); (walk_at "look"))
  | with_reducible apply AL.g_abs
  | with_reducible apply AL.g_max2
  | with_reducible apply AL.g_min2
  | with_reducible apply AL.g_intI
  | with_reducible apply AL.g_intB
  | with_reducible apply AL.g_listL
  | with_reducible apply AL.g_listT
  | with_reducible apply AL.g_tupleL
  | with_reducible apply AL.g_tupleT
  | with_reducible apply AL.g_rev
  | with_reducible apply AL.g_ret
  | with_reducible apply AL.g_drop
  | with_reducible apply AL.g_next
  | with_reducible apply AL.g_retN
  | with_reducible apply AL.g_tup
  | with_reducible apply AL.g_lst
  | with_reducible apply AL.g_lstM
  | with_reducible apply AL.g_isi
  | with_reducible apply AL.g_kIsiI
  | with_reducible apply AL.g_kIsiB
  | with_reducible apply AL.g_kIsiN
  | with_reducible apply AL.g_kIsiS
  | with_reducible apply AL.g_kIsiL
  | with_reducible apply AL.g_kIsiT
  | with_reducible apply AL.g_kIsiK
  | with_reducible apply AL.g_meth
  | with_reducible apply AL.g_methT
  | with_reducible apply AL.g_tyT
  | with_reducible apply AL.g_meth0
  | ((with_reducible apply AL.g_gsetV); exact rfl)
  | ((with_reducible apply AL.g_kSet); (walk_at "look"); exact rfl)
  | ((with_reducible apply AL.g_frzL); exact rfl; (walk_at "look"))
  | ((with_reducible apply AL.g_gtup); exact rfl)
  | with_reducible apply AL.g_gcons
  | with_reducible apply AL.g_gnil
  | with_reducible apply AL.g_yes
  | with_reducible apply AL.g_sl
  | with_reducible apply AL.g_noPart
  | with_reducible apply AL.g_part
  | with_reducible apply AL.g_kPart
  | ((with_reducible apply AL.g_pen0); exact rfl; (walk_at "look"))
  | ((with_reducible apply AL.g_pen1); exact rfl; (walk_at "look"))
  | ((with_reducible apply AL.g_pen2); exact rfl; (walk_at "look"))
  | with_reducible apply AL.g_putK
  | ((with_reducible apply AL.g_kPut1); exact rfl; (walk_at "look"))
  | ((with_reducible apply AL.g_kPut2); exact rfl; (walk_at "look"))
  | with_reducible apply AL.g_par
  | ((with_reducible apply AL.g_kPar); (simp only [List.set_cons_zero, List.set_cons_succ]; exact rfl))
  | with_reducible apply AL.g_neg
  | with_reducible apply AL.g_chain
  | with_reducible apply AL.g_chain3
  | with_reducible apply AL.g_lenSet
  | with_reducible apply AL.g_inTab
  | with_reducible apply AL.g_kInTab
  | with_reducible apply AL.g_kNotInTab
  | with_reducible apply AL.g_ixTab
  | with_reducible apply AL.g_eqNil
  | with_reducible apply AL.g_neNil
  | with_reducible apply AL.g_iteT
  | with_reducible apply AL.g_iteF
  | with_reducible apply AL.g_iteNT
  | with_reducible apply AL.g_iteNF
  | with_reducible apply AL.g_for
  | with_reducible apply AL.g_il
  | with_reducible apply AL.g_it
  | with_reducible apply AL.g_is'
  | with_reducible apply AL.g_ir1
  | with_reducible apply AL.g_ir3
  | ((with_reducible apply AL.g_kIR3); (omega))
  | with_reducible apply AL.g_ir2
  | with_reducible apply AL.g_ie
  | with_reducible apply AL.g_iz
  | with_reducible apply AL.g_kILl
  | with_reducible apply AL.g_kILr
  | with_reducible apply AL.g_kIT
  | with_reducible apply AL.g_kIS
  | with_reducible apply AL.g_kIE
  | with_reducible apply AL.g_kIZ
  | ((with_reducible apply AL.g_kIR1); (omega); (omega))
  | ((with_reducible apply AL.g_kIR2); (omega))
  | with_reducible apply AL.g_lc
  | with_reducible apply AL.g_lcM
  | ((with_reducible apply AL.g_bodyX); (simp only [List.map_cons, List.map_nil, List.length_cons, List.length_nil, List.cons_append, List.nil_append, List.reduceReplicate, Nat.reduceAdd, Nat.reduceSub]; exact rfl))
  | with_reducible apply AL.g_callX
  | with_reducible apply AL.g_raise
  | with_reducible apply AL.g_try
  | with_reducible apply AL.g_tryA
  | with_reducible apply AL.g_isX
  | with_reducible apply AL.g_get1
  | with_reducible apply AL.g_get2
  | with_reducible apply AL.g_getN
  | with_reducible apply AL.g_inN
  | with_reducible apply AL.g_get1N
  | with_reducible apply AL.g_putN
  | with_reducible apply AL.g_fld
  | with_reducible apply AL.g_fldPut
  | with_reducible apply AL.g_mth
  | with_reducible apply AL.g_mthX
  | with_reducible apply AL.g_make
  | with_reducible apply AL.g_setd
  | with_reducible apply AL.g_dispV
  | with_reducible apply AL.g_kDispVI
  | ((with_reducible apply AL.g_body'); (simp only [List.map_cons, List.map_nil, List.length_cons, List.length_nil, List.cons_append, List.nil_append, List.reduceReplicate, Nat.reduceAdd, Nat.reduceSub]; exact rfl))
  | ((with_reducible apply AL.g_sz); (simp only [List.length_cons, List.length_nil, PySem.sizeLine]; try omega))
  | ((with_reducible apply AL.g_ty); first | exact rfl | exact AL.isTy_ce (by walk_at "look") rfl))
local macro_rules | `(tactic| walk_at "go") => `(tactic| repeat walk_at "go1")
namespace A_k53
open PySem AL
def isubE : Str → Str → Option Bool := subL (("NoBack", "Elder", false) :: ("NoBack", "Near", false) :: ("NoBack", "NoBack", true) :: ("NoBack", "NoFit", false) :: ("NoBack", "NoLine", false) :: ("NoBack", "NoName", false) :: ("NoBack", "NoNumber", false) :: ("NoBack", "NoSentence", false) :: ("NoBack", "NoText", false) :: ("NoBack", "NoTongue", false) :: ("NoBack", "NoWord", false) :: ("NoBack", "TooMany", false) :: ("NoBack", "TooMuch", false) :: ("NoSentence", "Elder", false) :: ("NoSentence", "Near", false) :: ("NoSentence", "NoBack", false) :: ("NoSentence", "NoFit", false) :: ("NoSentence", "NoLine", false) :: ("NoSentence", "NoName", false) :: ("NoSentence", "NoNumber", false) :: ("NoSentence", "NoSentence", true) :: ("NoSentence", "NoText", false) :: ("NoSentence", "NoTongue", false) :: ("NoSentence", "NoWord", false) :: ("NoSentence", "TooMany", false) :: ("NoSentence", "TooMuch", false) :: ("TooMany", "Elder", false) :: ("TooMany", "Near", false) :: ("TooMany", "NoBack", false) :: ("TooMany", "NoFit", false) :: ("TooMany", "NoLine", false) :: ("TooMany", "NoName", false) :: ("TooMany", "NoNumber", false) :: ("TooMany", "NoSentence", false) :: ("TooMany", "NoText", false) :: ("TooMany", "NoTongue", false) :: ("TooMany", "NoWord", false) :: ("TooMany", "TooMany", true) :: ("TooMany", "TooMuch", false) :: ("TooMuch", "Elder", false) :: ("TooMuch", "Near", false) :: ("TooMuch", "NoBack", false) :: ("TooMuch", "NoFit", false) :: ("TooMuch", "NoLine", false) :: ("TooMuch", "NoName", false) :: ("TooMuch", "NoNumber", false) :: ("TooMuch", "NoSentence", false) :: ("TooMuch", "NoText", false) :: ("TooMuch", "NoTongue", false) :: ("TooMuch", "NoWord", false) :: ("TooMuch", "TooMany", false) :: ("TooMuch", "TooMuch", true) :: ("NoBack", "ValueError", true) :: ("NoSentence", "ValueError", true) :: ("TooMany", "ValueError", true) :: ("TooMuch", "ValueError", true) :: [])
def subE : Str → Str → Option Bool := subL [("NoBack", "NoSentence", false), ("NoBack", "TooMany", false), ("NoBack", "TooMuch", false), ("NoBack", "WordError", true), ("NoSentence", "NoSentence", true), ("NoSentence", "TooMany", false), ("NoSentence", "TooMuch", false), ("NoSentence", "WordError", true), ("TooMany", "NoSentence", false), ("TooMany", "TooMany", true), ("TooMany", "TooMuch", false), ("TooMany", "WordError", true), ("TooMuch", "NoSentence", false), ("TooMuch", "TooMany", false), ("TooMuch", "TooMuch", true), ("TooMuch", "WordError", true)]
def tab_LENGTHS : List (Str × Int) := [("long", 3), ("least", 3), ("often", 3), ("apart", 1), ("without", 2), ("begins", 2), ("ends", 2), ("not", 2), ("both", 3), ("either", 3)]
def a_is_whole : AS' :=
  aRet (aAndV (aIsi "int" (aVar 0)) (aNotV (aIsi "bool" (aVar 0))))
def s_is_whole : ASp := aBody 1 a_is_whole
def a_signs_of : AS' :=
  aRet (aMeth "str" aJoin (aC (.str "")) (aCons (aVar 0) (aNil)))
def s_signs_of : ASp := aBody 1 a_signs_of
def a_parts_of : AS' :=
  aSeq (aIfS (aB (aOp aInL (aOp aIx (aVar 0) (aC (.int 0))) (aTup (aCons (aC (.str "not")) (aCons (aC (.str "both")) (aCons (aC (.str "either")) (aNil)))))))
  (aRet (aCall aListOf (aCons (aSl aCut (aVar 0) (aPart (aC (.int 1))) aNoPart) (aNil))))
  (aNext))
  (aRet (aLst (aNil)))
def s_parts_of : ASp := aBody 1 a_parts_of
def a_plain_holds : AS' :=
  aSeq (aAsg (aOp aIx (aVar 1) (aC (.int 0))) (aGName 3))
  (aSeq (aIfS (aB (aOp aEq (aVar 3) (aC (.str "long"))))
  (aRet (aAndV (aOp aLe (aOp aIx (aVar 1) (aC (.int 1))) (aCall aLen (aCons (aVar 2) (aNil)))) (aOrV (aOp aIsN (aOp aIx (aVar 1) (aC (.int 2))) (aC .non)) (aOp aLe (aCall aLen (aCons (aVar 2) (aNil))) (aOp aIx (aVar 1) (aC (.int 2)))))))
  (aNext))
  (aSeq (aIfS (aB (aOp aEq (aVar 3) (aC (.str "least"))))
  (aRet (aOp aGe (aCall aLen (aCons (aLc (aIS (aVar 2)) (aGName 4) (aB (aOp aInS (aVar 4) (aOp aIx (aVar 0) (aOp aIx (aVar 1) (aC (.int 1)))))) (aVar 4) [4]) (aNil))) (aOp aIx (aVar 1) (aC (.int 2)))))
  (aNext))
  (aSeq (aIfS (aB (aOp aEq (aVar 3) (aC (.str "often"))))
  (aRet (aCall aAll (aCons (aLc (aIS (aOp aIx (aVar 1) (aC (.int 1)))) (aGName 4) (aYes) (aOp aLe (aMeth "str" aScount (aVar 2) (aCons (aVar 4) (aNil))) (aOp aIx (aVar 1) (aC (.int 2)))) [4]) (aNil))))
  (aNext))
  (aSeq (aIfS (aB (aOp aEq (aVar 3) (aC (.str "apart"))))
  (aRet (aCall aAll (aCons (aLc (aIZG (aCons (aVar 2) (aCons (aSl aCut (aVar 2) (aPart (aC (.int 1))) aNoPart) (aNil)))) (aGTup 2 (aGCons (aGName 5) (aGCons (aGName 6) (aGNil)))) (aYes) (aOp aNe (aVar 5) (aVar 6)) [5, 6]) (aNil))))
  (aNext))
  (aSeq (aIfS (aB (aOp aEq (aVar 3) (aC (.str "without"))))
  (aRet (aOp aNinS (aOp aIx (aVar 1) (aC (.int 1))) (aVar 2)))
  (aNext))
  (aSeq (aIfS (aB (aOp aEq (aVar 3) (aC (.str "begins"))))
  (aRet (aMeth "str" aStartswith (aVar 2) (aCons (aOp aIx (aVar 1) (aC (.int 1))) (aNil))))
  (aNext))
  (aRet (aMeth "str" aEndswith (aVar 2) (aCons (aOp aIx (aVar 1) (aC (.int 1))) (aNil))))))))))
def s_plain_holds : ASp := aBody 7 a_plain_holds
def a_power : AS' :=
  aSeq (aAsg (aC (.int 1)) (aGName 2))
  (aSeq (aFor (aIR1 (aCons (aVar 1) (aNil))) (aGName 3)
  (aAsg (aOp aMul (aVar 2) (aVar 0)) (aGName 2)))
  (aRet (aVar 2)))
def s_power : ASp := aBody 4 a_power
def a_unlike_at : AS' :=
  aRet (aCall aLen (aCons (aLc (aIR1 (aCons (aCall aLen (aCons (aVar 0) (aNil))) (aNil))) (aGName 2) (aB (aOp aNe (aOp aIx (aVar 0) (aVar 2)) (aOp aIx (aVar 1) (aVar 2)))) (aVar 2) [2]) (aNil)))
def s_unlike_at : ASp := aBody 3 a_unlike_at
def a_Keeper___init__ : AS' :=
  aSeq (aFldPut "Keeper" "its_rule" (aVar 0) (aVar 1))
  (aSeq (aFldPut "Keeper" "look" (aVar 0) (aVar 2))
  (aSeq (aFldPut "Keeper" "unlike" (aVar 0) (aVar 3))
  (aSeq (aFldPut "Keeper" "words" (aVar 0) (aLstM (aNil)))
  (aFldPut "Keeper" "deeds" (aVar 0) (aLstM (aNil))))))
def s_Keeper___init__ : ASp := aBody 4 a_Keeper___init__
def a_Keeper_word : AS' :=
  aRet (aIf (aB (aOp (aEqNil true) (aFld "Keeper" "words" (aVar 0)) (aLst (aNil)))) (aOp aIx (aFld "Keeper" "words" (aVar 0)) (aUn aNeg (aC (.int 1)))) (aC .non))
def s_Keeper_word : ASp := aBody 1 a_Keeper_word
def a_Keeper_taken : AS' :=
  aRet (aCall aListOf (aCons (aFld "Keeper" "words" (aVar 0)) (aNil)))
def s_Keeper_taken : ASp := aBody 1 a_Keeper_taken
def a_Keeper_rule : AS' :=
  aRet (aFld "Keeper" "its_rule" (aVar 0))
def s_Keeper_rule : ASp := aBody 1 a_Keeper_rule
def a_Keeper_elder : AS' :=
  aRet (aSl aCut (aFld "Keeper" "words" (aVar 0)) (aPart (aCall aMax2 (aCons (aC (.int 0)) (aCons (aOp aSub (aCall aLen (aCons (aFld "Keeper" "words" (aVar 0)) (aNil))) (aFld "Keeper" "look" (aVar 0))) (aNil))))) aNoPart)
def s_Keeper_elder : ASp := aBody 1 a_Keeper_elder
def a_Keeper_undo (W : AX') : AS' :=
  aSeq (aIfS (aB (aOp (aEqNil false) (aFld "Keeper" "deeds" (aVar 0)) (aLst (aNil))))
  (aRaise W "NoBack")
  (aNext))
  (aSeq (aAsg (aMeth0 "list" aPop (aFld "Keeper" "deeds" (aVar 0))) (aGName 1))
  (aIfS (aB (aOp aIsN (aVar 1) (aC .non)))
  (aDrop (aMeth0 "list" aPop (aFld "Keeper" "words" (aVar 0))))
  (aFldPut "Keeper" "its_rule" (aVar 0) (aVar 1))))
def s_Keeper_undo : ASpX := aBodyX 2 a_Keeper_undo
def a_law_pen : AS' :=
  aSeq (aAsg (aOp aAdd (aOp aMul (aC (.int 40009)) (aVar 1)) (aC (.int 7))) (aGName 2))
  (aSeq (aIfS (aB (aOp aGt (aCall aLen (aCons (aVar 0) (aNil))) (aC (.int 0))))
  (aAsg (aOp aAdd (aOp aIx (aVar 0) (aOp aMod (aVar 1) (aCall aLen (aCons (aVar 0) (aNil))))) (aOp aMul (aC (.int 65003)) (aOp aDiv (aVar 1) (aCall aLen (aCons (aVar 0) (aNil)))))) (aGName 2))
  (aNext))
  (aSeq (aAsg (aC (.int 0)) (aGName 3))
  (aSeq (aIfS (aB (aOp aGe (aCall aAbs (aCons (aVar 2) (aNil))) (aOp aPow (aC (.int 10)) (aC (.int 18)))))
  (aAsg (aCall aAbs (aCons (aVar 2) (aNil))) (aGName 3))
  (aNext))
  (aRet (aLstM (aCons (aVar 3) (aCons (aOp aMod (aOp aAdd (aOp aAdd (aOp aMul (aOp aMod (aVar 2) (aC (.int 2147483629))) (aC (.int 48271))) (aOp aMul (aC (.int 69621)) (aVar 1))) (aC (.int 1))) (aC (.int 2147483647))) (aNil))))))))
def s_law_pen : ASp := aBody 4 a_law_pen
def a_law_take : AS' :=
  aSeq (aIfS (aB (aOp aGt (aOp aIx (aVar 0) (aC (.int 0))) (aC (.int 0))))
  (aSeq (aAsg (aOp aMod (aOp aIx (aVar 0) (aC (.int 0))) (aVar 1)) (aGName 2))
  (aSeq (aAsg (aOp aDiv (aOp aIx (aVar 0) (aC (.int 0))) (aVar 1)) (aGSet (aVar 0) (aC (.int 0))))
  (aRet (aVar 2))))
  (aNext))
  (aSeq (aAsg (aOp aMod (aOp aAdd (aOp aMul (aOp aIx (aVar 0) (aC (.int 1))) (aC (.int 69621))) (aC (.int 11))) (aC (.int 2147483629))) (aGName 3))
  (aSeq (aAsg (aVar 3) (aGSet (aVar 0) (aC (.int 1))))
  (aRet (aOp aMod (aOp aDiv (aOp aMod (aOp aAdd (aOp aMul (aVar 3) (aOp aAdd (aOp aMod (aVar 3) (aC (.int 65519))) (aC (.int 3)))) (aOp aDiv (aVar 3) (aC (.int 65519)))) (aC (.int 2147483587))) (aC (.int 64))) (aVar 1)))))
def s_law_take : ASp := aBody 4 a_law_take
def a_law_signs : AS' :=
  aSeq (aAsg (aC (.str "!\"#$&'()*+,-./0123456789:;<=>?@ABCDEFGHIJKLMNOPQRSTUVWXYZ[\\]^_")) (aGName 0))
  (aRet (aOp aAdd (aVar 0) (aC (.str "`abcdefghijklmnopqrstuvwxyz{|}~"))))
def s_law_signs : ASp := aBody 1 a_law_signs
def a_law_weight (s_law_weight : ASp) : AS' :=
  aSeq (aAsg (aOp aIx (aVar 1) (aC (.int 0))) (aGName 2))
  (aSeq (aIfS (aB (aOp aEq (aVar 2) (aC (.str "long"))))
  (aRet (aOp aIx (aLst (aCons (aOp aAdd (aOp aIx (aVar 1) (aC (.int 1))) (aC (.int 1))) (aCons (aOp aAdd (aOrV (aOp aIx (aVar 1) (aC (.int 2))) (aC (.int 0))) (aC (.int 2))) (aNil)))) (aCall aInt (aCons (aOp aNotN (aOp aIx (aVar 1) (aC (.int 2))) (aC .non)) (aNil)))))
  (aNext))
  (aSeq (aIfS (aB (aOp aEq (aVar 2) (aC (.str "least"))))
  (aRet (aOp aAdd (aOp aIx (aVar 1) (aC (.int 2))) (aC (.int 1))))
  (aNext))
  (aSeq (aIfS (aB (aOp aEq (aVar 2) (aC (.str "apart"))))
  (aRet (aOp aAdd (aCall aLen (aCons (aMeth "str" aJoin (aC (.str "")) (aCons (aVar 0) (aNil))) (aNil))) (aC (.int 2))))
  (aNext))
  (aSeq (aIfS (aB (aOp aInL (aVar 2) (aTup (aCons (aC (.str "without")) (aCons (aC (.str "begins")) (aCons (aC (.str "ends")) (aNil)))))))
  (aRet (aOp aAdd (aOp aAdd (aCall aLen (aCons (aOp aIx (aVar 1) (aC (.int 1))) (aNil))) (aC (.int 1))) (aCall aInt (aCons (aOp aEq (aVar 2) (aC (.str "begins"))) (aNil)))))
  (aNext))
  (aSeq (aAsg (aC (.int 1)) (aGName 3))
  (aSeq (aIfS (aB (aOp aEq (aVar 2) (aC (.str "often"))))
  (aSeq (aFor (aIS (aOp aIx (aVar 1) (aC (.int 1)))) (aGName 4)
  (aAsg (aOp aMul (aVar 3) (aOp aAdd (aOp aIx (aVar 1) (aC (.int 2))) (aC (.int 1)))) (aGName 3)))
  (aRet (aOp aAdd (aVar 3) (aC (.int 1)))))
  (aNext))
  (aSeq (aFor (aIT (aSl aCut (aVar 1) (aPart (aC (.int 1))) aNoPart)) (aGName 5)
  (aAsg (aOp aMul (aVar 3) (aCall s_law_weight (aCons (aVar 0) (aCons (aVar 5) (aNil))))) (aGName 3)))
  (aRet (aVar 3)))))))))
def s_law_weight : Nat → ASp
  | 0 => fun _ _ _ => False
  | n + 1 => aBody 6 (a_law_weight (s_law_weight n))
def a_law_plain_holds : AS' :=
  aSeq (aAsg (aOp aIx (aVar 1) (aC (.int 0))) (aGName 3))
  (aSeq (aIfS (aB (aOp aEq (aVar 3) (aC (.str "long"))))
  (aRet (aAndV (aOp aLe (aOp aIx (aVar 1) (aC (.int 1))) (aCall aLen (aCons (aVar 2) (aNil)))) (aOrV (aOp aIsN (aOp aIx (aVar 1) (aC (.int 2))) (aC .non)) (aOp aLe (aCall aLen (aCons (aVar 2) (aNil))) (aOp aIx (aVar 1) (aC (.int 2)))))))
  (aNext))
  (aSeq (aIfS (aB (aOp aEq (aVar 3) (aC (.str "least"))))
  (aRet (aOp aGe (aCall aLen (aCons (aLc (aIS (aVar 2)) (aGName 8) (aB (aOp aInS (aVar 8) (aOp aIx (aVar 0) (aOp aIx (aVar 1) (aC (.int 1)))))) (aVar 8) [8]) (aNil))) (aOp aIx (aVar 1) (aC (.int 2)))))
  (aNext))
  (aSeq (aIfS (aB (aOp aEq (aVar 3) (aC (.str "often"))))
  (aSeq (aAsg (aLc (aIS (aOp aIx (aVar 1) (aC (.int 1)))) (aGName 7) (aYes) (aCall aLen (aCons (aLc (aIS (aVar 2)) (aGName 8) (aB (aOp aEq (aVar 8) (aVar 7))) (aVar 8) [8]) (aNil))) [7]) (aGName 4))
  (aRet (aOp aLe (aCall aMaxL (aCons (aVar 4) (aNil))) (aOp aIx (aVar 1) (aC (.int 2))))))
  (aNext))
  (aSeq (aIfS (aB (aOp aEq (aVar 3) (aC (.str "apart"))))
  (aRet (aOp aEq (aLc (aIR2 (aCons (aC (.int 1)) (aCons (aCall aLen (aCons (aVar 2) (aNil))) (aNil)))) (aGName 6) (aB (aOp aEq (aOp aIx (aVar 2) (aVar 6)) (aOp aIx (aVar 2) (aOp aSub (aVar 6) (aC (.int 1)))))) (aVar 6) [6]) (aLst (aNil))))
  (aNext))
  (aSeq (aAsg (aLc (aIR1 (aCons (aCall aLen (aCons (aVar 2) (aNil))) (aNil))) (aGName 6) (aB (aOp aEq (aSl aCut (aVar 2) (aPart (aVar 6)) (aPart (aOp aAdd (aVar 6) (aCall aLen (aCons (aOp aIx (aVar 1) (aC (.int 1))) (aNil)))))) (aOp aIx (aVar 1) (aC (.int 1))))) (aVar 6) [6]) (aGName 5))
  (aSeq (aIfS (aB (aOp aEq (aVar 3) (aC (.str "without"))))
  (aRet (aOp aEq (aVar 5) (aLst (aNil))))
  (aNext))
  (aSeq (aIfS (aB (aOp aEq (aVar 3) (aC (.str "begins"))))
  (aRet (aOp aInL (aC (.int 0)) (aVar 5)))
  (aNext))
  (aRet (aOp aInL (aOp aSub (aCall aLen (aCons (aVar 2) (aNil))) (aCall aLen (aCons (aOp aIx (aVar 1) (aC (.int 1))) (aNil)))) (aVar 5))))))))))
def s_law_plain_holds : ASp := aBody 9 a_law_plain_holds
def a_has_signs : AS' :=
  aSeq (aAsg (aCall s_signs_of (aCons (aVar 0) (aNil))) (aGName 2))
  (aRet (aCall aAll (aCons (aLc (aIS (aVar 1)) (aGName 3) (aYes) (aOp aInS (aVar 3) (aVar 2)) [3]) (aNil))))
def s_has_signs : ASp := aBody 4 a_has_signs
def a_is_within : AS' :=
  aRet (aAndV (aCall s_is_whole (aCons (aVar 0) (aNil))) (aChain aLe aLe (aVar 1) (aVar 0) (aVar 2)))
def s_is_within : ASp := aBody 3 a_is_within
def a_holds (s_holds : ASp) : AS' :=
  aSeq (aAsg (aLc (aIL (aCall s_parts_of (aCons (aVar 1) (aNil)))) (aGName 4) (aYes) (aCall s_holds (aCons (aVar 0) (aCons (aVar 4) (aCons (aVar 2) (aNil))))) [4]) (aGName 3))
  (aSeq (aIfS (aB (aOp aEq (aOp aIx (aVar 1) (aC (.int 0))) (aC (.str "not"))))
  (aRet (aNotV (aOp aIx (aVar 3) (aC (.int 0)))))
  (aNext))
  (aSeq (aIfS (aB (aOp aEq (aOp aIx (aVar 1) (aC (.int 0))) (aC (.str "both"))))
  (aRet (aAndV (aOp aIx (aVar 3) (aC (.int 0))) (aOp aIx (aVar 3) (aC (.int 1)))))
  (aNext))
  (aSeq (aIfS (aB (aOp aEq (aOp aIx (aVar 1) (aC (.int 0))) (aC (.str "either"))))
  (aRet (aOrV (aOp aIx (aVar 3) (aC (.int 0))) (aOp aIx (aVar 3) (aC (.int 1)))))
  (aNext))
  (aRet (aCall s_plain_holds (aCons (aVar 0) (aCons (aVar 1) (aCons (aVar 2) (aNil)))))))))
def s_holds : Nat → ASp
  | 0 => fun _ _ _ => False
  | n + 1 => aBody 5 (a_holds (s_holds n))
def a_plain_weight : AS' :=
  aSeq (aAsg (aOp aIx (aVar 1) (aC (.int 0))) (aGName 2))
  (aSeq (aIfS (aB (aOp aEq (aVar 2) (aC (.str "long"))))
  (aSeq (aIfS (aB (aOp aIsN (aOp aIx (aVar 1) (aC (.int 2))) (aC .non)))
  (aRet (aOp aAdd (aOp aIx (aVar 1) (aC (.int 1))) (aC (.int 1))))
  (aNext))
  (aRet (aOp aAdd (aOp aIx (aVar 1) (aC (.int 2))) (aC (.int 2)))))
  (aNext))
  (aSeq (aIfS (aB (aOp aEq (aVar 2) (aC (.str "least"))))
  (aRet (aOp aAdd (aOp aIx (aVar 1) (aC (.int 2))) (aC (.int 1))))
  (aNext))
  (aSeq (aIfS (aB (aOp aEq (aVar 2) (aC (.str "often"))))
  (aRet (aOp aAdd (aCall s_power (aCons (aOp aAdd (aOp aIx (aVar 1) (aC (.int 2))) (aC (.int 1))) (aCons (aCall aLen (aCons (aOp aIx (aVar 1) (aC (.int 1))) (aNil))) (aNil)))) (aC (.int 1))))
  (aNext))
  (aSeq (aIfS (aB (aOp aEq (aVar 2) (aC (.str "apart"))))
  (aRet (aOp aAdd (aCall aLen (aCons (aCall s_signs_of (aCons (aVar 0) (aNil))) (aNil))) (aC (.int 2))))
  (aNext))
  (aSeq (aIfS (aB (aOp aEq (aVar 2) (aC (.str "begins"))))
  (aRet (aOp aAdd (aCall aLen (aCons (aOp aIx (aVar 1) (aC (.int 1))) (aNil))) (aC (.int 2))))
  (aNext))
  (aRet (aOp aAdd (aCall aLen (aCons (aOp aIx (aVar 1) (aC (.int 1))) (aNil))) (aC (.int 1)))))))))
def s_plain_weight : ASp := aBody 3 a_plain_weight
def a_Keeper_is_near : AS' :=
  aSeq (aAsg (aMth "Keeper" "word" s_Keeper_word (aVar 0) aNil) (aGName 2))
  (aRet (aAndV (aOp aNotN (aVar 2) (aC .non)) (aAndV (aOp aEq (aCall aLen (aCons (aVar 2) (aNil))) (aCall aLen (aCons (aVar 1) (aNil)))) (aOp aLt (aCall s_unlike_at (aCons (aVar 2) (aCons (aVar 1) (aNil)))) (aFld "Keeper" "unlike" (aVar 0))))))
def s_Keeper_is_near : ASp := aBody 3 a_Keeper_is_near
def a_law_tongue : AS' :=
  aSeq (aAsg (aCall aListSM (aCons (aCall s_law_signs aNil) (aNil))) (aGName 2))
  (aSeq (aAsg (aOp aAdd (aC (.int 1)) (aCall s_law_take (aCons (aVar 0) (aCons (aVar 1) (aNil))))) (aGName 3))
  (aSeq (aAsg (aLstM (aNil)) (aGName 4))
  (aSeq (aWhile (aAnd (aB (aOp aGt (aVar 3) (aC (.int 0)))) (aB (aOp aLt (aCall aLen (aCons (aVar 4) (aNil))) (aC (.int 4)))))
  (aSeq (aAsg (aOp aAdd (aC (.int 1)) (aCall s_law_take (aCons (aVar 0) (aCons (aCall aMin2 (aCons (aC (.int 6)) (aCons (aVar 3) (aNil)))) (aNil))))) (aGName 5))
  (aSeq (aDrop (aMeth "list" aAppend (aVar 4) (aCons (aMeth "str" aJoin (aC (.str "")) (aCons (aLc (aIR1 (aCons (aVar 5) (aNil))) (aGName 6) (aYes) (aMeth "list" aPopAt (aVar 2) (aCons (aCall s_law_take (aCons (aVar 0) (aCons (aCall aLen (aCons (aVar 2) (aNil))) (aNil)))) (aNil))) [6]) (aNil))) (aNil))))
  (aAsg (aOp aSub (aVar 3) (aVar 5)) (aGName 3)))))
  (aFrz 4 (aRet (aCall aTupleOf (aCons (aVar 4) (aNil))))))))
def s_law_tongue : ASp := aBody 7 a_law_tongue
def a_law_word : AS' :=
  aSeq (aAsg (aMeth "str" aJoin (aC (.str "")) (aCons (aVar 1) (aNil))) (aGName 3))
  (aSeq (aAsg (aLc (aIR1 (aCons (aOp aAdd (aC (.int 1)) (aCall s_law_take (aCons (aVar 0) (aCons (aC (.int 3)) (aNil))))) (aNil))) (aGName 5) (aYes) (aOp aIx (aVar 3) (aCall s_law_take (aCons (aVar 0) (aCons (aCall aLen (aCons (aVar 3) (aNil))) (aNil))))) [5]) (aGName 4))
  (aRet (aMeth "str" aJoin (aC (.str "")) (aCons (aLc (aIR1 (aCons (aVar 2) (aNil))) (aGName 5) (aYes) (aOp aIx (aVar 4) (aCall s_law_take (aCons (aVar 0) (aCons (aCall aLen (aCons (aVar 4) (aNil))) (aNil))))) [5]) (aNil)))))
def s_law_word : ASp := aBody 6 a_law_word
def a_law_holds (s_law_holds : ASp) : AS' :=
  aSeq (aAsg (aOp aIx (aVar 1) (aC (.int 0))) (aGName 3))
  (aSeq (aIfS (aB (aOp aEq (aVar 3) (aC (.str "not"))))
  (aRet (aNotV (aCall s_law_holds (aCons (aVar 0) (aCons (aOp aIx (aVar 1) (aC (.int 1))) (aCons (aVar 2) (aNil)))))))
  (aNext))
  (aSeq (aIfS (aB (aOp aInL (aVar 3) (aTup (aCons (aC (.str "both")) (aCons (aC (.str "either")) (aNil))))))
  (aSeq (aAsg (aCall s_law_holds (aCons (aVar 0) (aCons (aOp aIx (aVar 1) (aC (.int 1))) (aCons (aVar 2) (aNil))))) (aGName 4))
  (aSeq (aAsg (aCall s_law_holds (aCons (aVar 0) (aCons (aOp aIx (aVar 1) (aC (.int 2))) (aCons (aVar 2) (aNil))))) (aGName 5))
  (aRet (aOp aIx (aLst (aCons (aAndV (aVar 4) (aVar 5)) (aCons (aOrV (aVar 4) (aVar 5)) (aNil)))) (aCall aInt (aCons (aOp aEq (aVar 3) (aC (.str "either"))) (aNil)))))))
  (aNext))
  (aRet (aCall s_law_plain_holds (aCons (aVar 0) (aCons (aVar 1) (aCons (aVar 2) (aNil))))))))
def s_law_holds : Nat → ASp
  | 0 => fun _ _ _ => False
  | n + 1 => aBody 6 (a_law_holds (s_law_holds n))
def a_law_undone : AS' :=
  aSeq (aAsg (aC .non) (aGName 1))
  (aSeq (aAsg (aC .non) (aGName 2))
  (aSeq (aTryA subE (fun W => aAsg (aMthX W "Keeper" "undo" s_Keeper_undo (aVar 0) aNil) (aGName 2)) [(["WordError"], 3, aAsg (aVar 3) (aGName 1))] (fun _ _ _ => False))
  (aSeq (aIfS (aB (aOp aIsN (aVar 1) (aC .non)))
  (aRet (aOp aIx (aLst (aCons (aC .non) (aCons (aC (.bl true)) (aNil)))) (aCall aInt (aCons (aOp aIsN (aVar 2) (aC .non)) (aNil)))))
  (aNext))
  (aSeq (aIfS (aTru (aIsX isubE ["Elder", "Near", "NoFit", "NoLine", "NoName", "NoNumber", "NoSentence", "NoText", "NoTongue", "NoWord"] (aVar 1)))
  (aRet (aC .non))
  (aNext))
  (aSeq (aIfS (aOr (aTru (aIsX isubE ["TooMany", "TooMuch"] (aVar 1))) (aOr (aNot (aTru (aIsX isubE ["NoBack"] (aVar 1)))) (aNot (aTru (aIsX isubE ["ValueError"] (aVar 1))))))
  (aRet (aC .non))
  (aNext))
  (aRet (aC (.bl false))))))))
def s_law_undone : ASp := aBody 4 a_law_undone
def a_is_word : AS' :=
  aRet (aAndV (aIsi "str" (aVar 1)) (aAndV (aOp aLe (aCall aLen (aCons (aVar 1) (aNil))) (aC (.int 60))) (aCall s_has_signs (aCons (aVar 0) (aCons (aVar 1) (aNil))))))
def s_is_word : ASp := aBody 2 a_is_word
def a_is_piece : AS' :=
  aRet (aAndV (aIsi "str" (aVar 1)) (aAndV (aChain aLe aLe (aC (.int 1)) (aCall aLen (aCons (aVar 1) (aNil))) (aVar 2)) (aCall s_has_signs (aCons (aVar 0) (aCons (aVar 1) (aNil))))))
def s_is_piece : ASp := aBody 3 a_is_piece
def a_weight (s_weight : ASp) : AS' :=
  aSeq (aAsg (aCall s_parts_of (aCons (aVar 1) (aNil))) (aGName 2))
  (aSeq (aIfS (aB (aOp aEq (aVar 2) (aLst (aNil))))
  (aRet (aCall s_plain_weight (aCons (aVar 0) (aCons (aVar 1) (aNil)))))
  (aNext))
  (aSeq (aAsg (aC (.int 1)) (aGName 3))
  (aSeq (aFor (aIL (aVar 2)) (aGName 4)
  (aAsg (aOp aMul (aVar 3) (aCall s_weight (aCons (aVar 0) (aCons (aVar 4) (aNil))))) (aGName 3)))
  (aRet (aVar 3)))))
def s_weight : Nat → ASp
  | 0 => fun _ _ _ => False
  | n + 1 => aBody 5 (a_weight (s_weight n))
def a_law_plain : AS' :=
  aSeq (aAsg (aCall s_law_take (aCons (aVar 0) (aCons (aC (.int 7)) (aNil)))) (aGName 3))
  (aSeq (aIfS (aB (aOp aEq (aVar 3) (aC (.int 0))))
  (aSeq (aAsg (aCall s_law_take (aCons (aVar 0) (aCons (aOp aIx (aLst (aCons (aC (.int 4)) (aCons (aC (.int 31)) (aNil)))) (aVar 2)) (aNil)))) (aGName 4))
  (aSeq (aAsg (aCall aMin2 (aCons (aC (.int 30)) (aCons (aOp aAdd (aVar 4) (aCall s_law_take (aCons (aVar 0) (aCons (aOp aIx (aLst (aCons (aC (.int 4)) (aCons (aOp aSub (aC (.int 31)) (aVar 4)) (aNil)))) (aVar 2)) (aNil))))) (aNil)))) (aGName 5))
  (aRet (aTup (aCons (aC (.str "long")) (aCons (aVar 4) (aCons (aOp aIx (aLst (aCons (aVar 5) (aCons (aC .non) (aCons (aVar 4) (aCons (aVar 5) (aNil)))))) (aCall s_law_take (aCons (aVar 0) (aCons (aC (.int 4)) (aNil))))) (aNil))))))))
  (aNext))
  (aSeq (aIfS (aB (aOp aEq (aVar 3) (aC (.int 1))))
  (aRet (aTup (aCons (aC (.str "least")) (aCons (aCall s_law_take (aCons (aVar 0) (aCons (aCall aLen (aCons (aVar 1) (aNil))) (aNil)))) (aCons (aCall s_law_take (aCons (aVar 0) (aCons (aOp aIx (aLst (aCons (aC (.int 3)) (aCons (aC (.int 10)) (aNil)))) (aVar 2)) (aNil)))) (aNil))))))
  (aNext))
  (aSeq (aIfS (aB (aOp aEq (aVar 3) (aC (.int 2))))
  (aSeq (aAsg (aCall aListSM (aCons (aMeth "str" aJoin (aC (.str "")) (aCons (aVar 1) (aNil))) (aNil))) (aGName 6))
  (aSeq (aAsg (aOp aAdd (aC (.int 1)) (aCall s_law_take (aCons (aVar 0) (aCons (aCall aMin2 (aCons (aOp aIx (aLst (aCons (aC (.int 2)) (aCons (aC (.int 4)) (aNil)))) (aVar 2)) (aCons (aCall aLen (aCons (aVar 6) (aNil))) (aNil)))) (aNil))))) (aGName 7))
  (aSeq (aAsg (aMeth "str" aJoin (aC (.str "")) (aCons (aLc (aIR1 (aCons (aVar 7) (aNil))) (aGName 9) (aYes) (aMeth "list" aPopAt (aVar 6) (aCons (aCall s_law_take (aCons (aVar 0) (aCons (aCall aLen (aCons (aVar 6) (aNil))) (aNil)))) (aNil))) [9]) (aNil))) (aGName 8))
  (aRet (aTup (aCons (aC (.str "often")) (aCons (aVar 8) (aCons (aCall s_law_take (aCons (aVar 0) (aCons (aOp aIx (aLst (aCons (aC (.int 2)) (aCons (aC (.int 4)) (aNil)))) (aVar 2)) (aNil)))) (aNil)))))))))
  (aNext))
  (aSeq (aIfS (aB (aOp aEq (aVar 3) (aC (.int 3))))
  (aRet (aTup (aCons (aC (.str "apart")) (aNil))))
  (aNext))
  (aRet (aTup (aCons (aOp aIx (aLst (aCons (aC (.str "without")) (aCons (aC (.str "begins")) (aCons (aC (.str "ends")) (aNil))))) (aOp aSub (aVar 3) (aC (.int 4)))) (aCons (aCall s_law_word (aCons (aVar 0) (aCons (aVar 1) (aCons (aOp aAdd (aC (.int 1)) (aCall s_law_take (aCons (aVar 0) (aCons (aOp aIx (aLst (aCons (aC (.int 3)) (aCons (aC (.int 6)) (aNil)))) (aVar 2)) (aNil))))) (aNil))))) (aNil)))))))))
def s_law_plain : ASp := aBody 10 a_law_plain
def a_law_thing : AS' :=
  aSeq (aAsg (aMeth "str" aJoin (aC (.str "")) (aCons (aVar 1) (aNil))) (aGName 3))
  (aSeq (aAsg (aCall s_law_take (aCons (aVar 0) (aCons (aC (.int 10)) (aNil)))) (aGName 4))
  (aSeq (aAsg (aOp aIx (aOrV (aVar 2) (aLst (aCons (aC (.str "")) (aNil)))) (aUn aNeg (aC (.int 1)))) (aGName 5))
  (aSeq (aIfS (aB (aOp aEq (aVar 4) (aC (.int 0))))
  (aSeq (aAsg (aLc (aIS (aOp aAdd (aCall s_law_signs aNil) (aC (.str " ")))) (aGName 11) (aB (aOp aNinS (aVar 11) (aVar 3))) (aVar 11) [11]) (aGName 6))
  (aSeq (aAsg (aOp aAdd (aVar 5) (aOp aIx (aVar 6) (aCall s_law_take (aCons (aVar 0) (aCons (aCall aLen (aCons (aVar 6) (aNil))) (aNil)))))) (aGName 7))
  (aSeq (aAsg (aLst (aCons (aC .non) (aCons (aC (.int 7)) (aCons (aC (.bl true)) (aCons (aLst (aNil)) (aCons (aLst (aCons (aVar 5) (aNil))) (aCons (aTup (aCons (aVar 5) (aNil))) (aCons (aDict0F) (aCons (aVar 7) (aCons (aUn aRevS (aVar 7)) (aCons (aOp aMulS (aOp aIx (aVar 3) (aC (.int 0))) (aC (.int 25))) (aCons (aOp aMulS (aOp aIx (aVar 3) (aUn aNeg (aC (.int 1)))) (aC (.int 61))) (aCons (aOp aMulS (aVar 7) (aC (.int 30))) (aNil)))))))))))))) (aGName 8))
  (aRet (aOp aIx (aVar 8) (aCall s_law_take (aCons (aVar 0) (aCons (aCall aLen (aCons (aVar 8) (aNil))) (aNil)))))))))
  (aNext))
  (aSeq (aIfS (aAnd (aB (aOp aEq (aVar 4) (aC (.int 1)))) (aB (aOp (aEqNil true) (aVar 2) (aLst (aNil)))))
  (aRet (aOp aIx (aVar 2) (aOp aSub (aUn aNeg (aC (.int 1))) (aCall s_law_take (aCons (aVar 0) (aCons (aCall aMin2 (aCons (aC (.int 12)) (aCons (aCall aLen (aCons (aVar 2) (aNil))) (aNil)))) (aNil)))))))
  (aNext))
  (aSeq (aIfS (aB (aOp aLt (aVar 4) (aC (.int 5))))
  (aSeq (aAsg (aCall aListSM (aCons (aVar 5) (aNil))) (aGName 9))
  (aSeq (aFor (aIR1 (aCons (aOp aMul (aCall s_law_take (aCons (aVar 0) (aCons (aC (.int 4)) (aNil)))) (aCall aInt (aCons (aOp (aEqNil true) (aVar 9) (aLst (aNil))) (aNil)))) (aNil))) (aGName 10)
  (aAsg (aOp aIx (aVar 3) (aCall s_law_take (aCons (aVar 0) (aCons (aCall aLen (aCons (aVar 3) (aNil))) (aNil))))) (aGSet (aVar 9) (aCall s_law_take (aCons (aVar 0) (aCons (aCall aLen (aCons (aVar 9) (aNil))) (aNil)))))))
  (aFrz 9 (aRet (aMeth "str" aJoin (aC (.str "")) (aCons (aVar 9) (aNil)))))))
  (aNext))
  (aSeq (aIfS (aB (aOp aEq (aVar 4) (aC (.int 5))))
  (aRet (aOp aIx (aLst (aCons (aSl aCut (aVar 5) (aPart (aC (.int 1))) aNoPart) (aCons (aOp aAdd (aVar 5) (aOp aIx (aVar 3) (aCall s_law_take (aCons (aVar 0) (aCons (aCall aLen (aCons (aVar 3) (aNil))) (aNil)))))) (aCons (aSl aCut (aVar 5) aNoPart (aPart (aUn aNeg (aC (.int 1))))) (aNil))))) (aCall s_law_take (aCons (aVar 0) (aCons (aC (.int 3)) (aNil))))))
  (aNext))
  (aRet (aCall s_law_word (aCons (aVar 0) (aCons (aVar 1) (aCons (aCall s_law_take (aCons (aVar 0) (aCons (aOp aIx (aLst (aCons (aC (.int 4)) (aCons (aC (.int 4)) (aCons (aC (.int 7)) (aCons (aC (.int 25)) (aNil)))))) (aCall s_law_take (aCons (aVar 0) (aCons (aC (.int 4)) (aNil))))) (aNil)))) (aNil))))))))))))
def s_law_thing : ASp := aBody 12 a_law_thing
def a_fits : AS' :=
  aSeq (aAsg (aOp aIx (aVar 1) (aC (.int 0))) (aGName 2))
  (aSeq (aIfS (aB (aOp aEq (aVar 2) (aC (.str "long"))))
  (aSeq (aIfS (aNot (aTru (aCall s_is_within (aCons (aOp aIx (aVar 1) (aC (.int 1))) (aCons (aC (.int 0)) (aCons (aC (.int 30)) (aNil)))))))
  (aRet (aC (.bl false)))
  (aNext))
  (aRet (aOrV (aOp aIsN (aOp aIx (aVar 1) (aC (.int 2))) (aC .non)) (aCall s_is_within (aCons (aOp aIx (aVar 1) (aC (.int 2))) (aCons (aOp aIx (aVar 1) (aC (.int 1))) (aCons (aC (.int 30)) (aNil))))))))
  (aNext))
  (aSeq (aIfS (aB (aOp aEq (aVar 2) (aC (.str "least"))))
  (aRet (aAndV (aCall s_is_within (aCons (aOp aIx (aVar 1) (aC (.int 1))) (aCons (aC (.int 0)) (aCons (aOp aSub (aCall aLen (aCons (aVar 0) (aNil))) (aC (.int 1))) (aNil))))) (aCall s_is_within (aCons (aOp aIx (aVar 1) (aC (.int 2))) (aCons (aC (.int 0)) (aCons (aC (.int 9)) (aNil)))))))
  (aNext))
  (aSeq (aIfS (aB (aOp aEq (aVar 2) (aC (.str "often"))))
  (aSeq (aIfS (aOr (aNot (aTru (aCall s_is_piece (aCons (aVar 0) (aCons (aOp aIx (aVar 1) (aC (.int 1))) (aCons (aC (.int 4)) (aNil))))))) (aNot (aTru (aCall s_is_within (aCons (aOp aIx (aVar 1) (aC (.int 2))) (aCons (aC (.int 0)) (aCons (aC (.int 3)) (aNil))))))))
  (aRet (aC (.bl false)))
  (aNext))
  (aRet (aOp aEq (aLenSet (aOp aIx (aVar 1) (aC (.int 1)))) (aCall aLen (aCons (aOp aIx (aVar 1) (aC (.int 1))) (aNil))))))
  (aNext))
  (aSeq (aIfS (aB (aOp aInL (aVar 2) (aTup (aCons (aC (.str "without")) (aCons (aC (.str "begins")) (aCons (aC (.str "ends")) (aNil)))))))
  (aRet (aCall s_is_piece (aCons (aVar 0) (aCons (aOp aIx (aVar 1) (aC (.int 1))) (aCons (aC (.int 6)) (aNil))))))
  (aNext))
  (aRet (aC (.bl true)))))))
def s_fits : ASp := aBody 3 a_fits
def a_law_sentence (s_law_sentence : ASp) : AS' :=
  aSeq (aAsg (aOp aSub (aOp aIx (aVar 4) (aC (.int 0))) (aC (.int 1))) (aGSet (aVar 4) (aC (.int 0))))
  (aSeq (aAsg (aCall s_law_take (aCons (aVar 0) (aCons (aC (.int 8)) (aNil)))) (aGName 5))
  (aSeq (aIfS (aAnd (aB (aOp aEq (aVar 5) (aC (.int 0)))) (aAnd (aB (aOp aGt (aVar 3) (aC (.int 1)))) (aB (aOp aGt (aOp aIx (aVar 4) (aC (.int 0))) (aC (.int 0))))))
  (aRet (aTup (aCons (aC (.str "not")) (aCons (aCall s_law_sentence (aCons (aVar 0) (aCons (aVar 1) (aCons (aVar 2) (aCons (aOp aSub (aVar 3) (aC (.int 1))) (aCons (aVar 4) (aNil))))))) (aNil)))))
  (aNext))
  (aSeq (aIfS (aAnd (aB (aOp aInL (aVar 5) (aTup (aCons (aC (.int 1)) (aCons (aC (.int 2)) (aNil)))))) (aAnd (aB (aOp aGt (aVar 3) (aC (.int 1)))) (aB (aOp aGt (aOp aIx (aVar 4) (aC (.int 0))) (aC (.int 1))))))
  (aSeq (aAsg (aOp aSub (aOp aIx (aVar 4) (aC (.int 0))) (aC (.int 1))) (aGSet (aVar 4) (aC (.int 0))))
  (aSeq (aAsg (aCall s_law_sentence (aCons (aVar 0) (aCons (aVar 1) (aCons (aVar 2) (aCons (aOp aSub (aVar 3) (aC (.int 1))) (aCons (aVar 4) (aNil))))))) (aGName 6))
  (aSeq (aAsg (aOp aAdd (aOp aIx (aVar 4) (aC (.int 0))) (aC (.int 1))) (aGSet (aVar 4) (aC (.int 0))))
  (aRet (aTup (aCons (aOp aIx (aLst (aCons (aC (.str "both")) (aCons (aC (.str "either")) (aNil)))) (aOp aSub (aVar 5) (aC (.int 1)))) (aCons (aVar 6) (aCons (aCall s_law_sentence (aCons (aVar 0) (aCons (aVar 1) (aCons (aVar 2) (aCons (aOp aSub (aVar 3) (aC (.int 1))) (aCons (aVar 4) (aNil))))))) (aNil)))))))))
  (aNext))
  (aRet (aCall s_law_plain (aCons (aVar 0) (aCons (aVar 1) (aCons (aVar 2) (aNil)))))))))
def s_law_sentence : Nat → ASp
  | 0 => fun _ _ _ => False
  | n + 1 => aBody 7 (a_law_sentence (s_law_sentence n))
def a_is_formed : AS' :=
  aSeq (aIfS (aOr (aNot (aTru (aIsi "tuple" (aVar 1)))) (aOr (aB (aOp aEq (aCall aLen (aCons (aVar 1) (aNil))) (aC (.int 0)))) (aNot (aTru (aIsi "str" (aOp aIx (aVar 1) (aC (.int 0))))))))
  (aRet (aC (.bl false)))
  (aNext))
  (aRet (aAndV (aInTab tab_LENGTHS false (aOp aIx (aVar 1) (aC (.int 0)))) (aAndV (aOp aEq (aCall aLen (aCons (aVar 1) (aNil))) (aIxTab tab_LENGTHS (aOp aIx (aVar 1) (aC (.int 0))))) (aCall s_fits (aCons (aVar 0) (aCons (aVar 1) (aNil)))))))
def s_is_formed : ASp := aBody 2 a_is_formed
def a_is_sentence : AS' :=
  aSeq (aAsg (aLst (aCons (aVar 1) (aNil))) (aGName 2))
  (aSeq (aAsg (aC (.int 0)) (aGName 3))
  (aSeq (aFor (aIR1 (aCons (aC (.int 4)) (aNil))) (aGName 4)
  (aSeq (aAsg (aOp aAdd (aVar 3) (aCall aLen (aCons (aVar 2) (aNil)))) (aGName 3))
  (aSeq (aIfS (aOr (aB (aOp aGt (aVar 3) (aC (.int 9)))) (aNot (aTru (aCall aAll (aCons (aLc (aIL (aVar 2)) (aGName 5) (aYes) (aCall s_is_formed (aCons (aVar 0) (aCons (aVar 5) (aNil)))) [5]) (aNil))))))
  (aRet (aC (.bl false)))
  (aNext))
  (aSeq (aAsg (aLstM (aNil)) (aGName 6))
  (aSeq (aFor (aIL (aVar 2)) (aGName 5)
  (aDrop (aMeth "list" aExtend (aVar 6) (aCons (aCall s_parts_of (aCons (aVar 5) (aNil))) (aNil)))))
  (aFrz 6 (aAsg (aVar 6) (aGName 2))))))))
  (aRet (aOp aEq (aVar 2) (aLst (aNil))))))
def s_is_sentence : ASp := aBody 7 a_is_sentence
def a_law_fine : AS' :=
  aSeq (aAsg (aC (.int 1)) (aGName 2))
  (aSeq (aFor (aIT (aVar 1)) (aGName 3)
  (aAsg (aOp aMul (aVar 2) (aCall (s_law_weight 8) (aCons (aVar 0) (aCons (aVar 3) (aNil))))) (aGName 2)))
  (aRet (aAndV (aOp aLe (aVar 2) (aC (.int 600))) (aOp aLe (aCall aLen (aCons (aVar 1) (aNil))) (aC (.int 8))))))
def s_law_fine : ASp := aBody 4 a_law_fine
def a_keeps : AS' :=
  aRet (aCall aAll (aCons (aLc (aIT (aOp aIx (aVar 0) (aC (.int 1)))) (aGName 2) (aYes) (aCall (s_holds 8) (aCons (aOp aIx (aVar 0) (aC (.int 0))) (aCons (aVar 2) (aCons (aVar 1) (aNil))))) [2]) (aNil)))
def s_keeps : ASp := aBody 3 a_keeps
def a_law_why : AS' :=
  aSeq (aAsg (aVar 0) (aGTup 5 (aGCons (aGName 2) (aGCons (aGName 3) (aGCons (aGName 4) (aGCons (aGName 5) (aGCons (aGName 6) (aGNil))))))))
  (aSeq (aAsg (aMeth "str" aJoin (aC (.str "")) (aCons (aVar 2) (aNil))) (aGName 7))
  (aSeq (aIfS (aOr (aNot (aTru (aIsi "str" (aVar 1)))) (aOr (aB (aOp aGt (aCall aLen (aCons (aVar 1) (aNil))) (aC (.int 24)))) (aB (aOp (aEqNil true) (aLc (aIS (aVar 1)) (aGName 9) (aB (aOp aNinS (aVar 9) (aVar 7))) (aVar 9) [9]) (aLst (aNil))))))
  (aRet (aC (.str "word")))
  (aNext))
  (aSeq (aIfS (aB (aOp aInL (aC (.bl false)) (aLc (aIT (aVar 3)) (aGName 8) (aYes) (aCall (s_law_holds 8) (aCons (aVar 2) (aCons (aVar 8) (aCons (aVar 1) (aNil))))) [8])))
  (aRet (aC (.str "fit")))
  (aNext))
  (aSeq (aIfS (aAnd (aB (aOp aGt (aVar 5) (aC (.int 0)))) (aB (aOp aInL (aVar 1) (aSl aCut (aVar 4) (aPart (aUn aNeg (aVar 5))) aNoPart))))
  (aRet (aC (.str "elder")))
  (aNext))
  (aSeq (aIfS (aAnd (aB (aOp (aEqNil true) (aVar 4) (aLst (aNil)))) (aB (aOp aEq (aCall aLen (aCons (aOp aIx (aVar 4) (aUn aNeg (aC (.int 1)))) (aNil))) (aCall aLen (aCons (aVar 1) (aNil))))))
  (aIfS (aB (aOp aLt (aCall aLen (aCons (aLc (aIR1 (aCons (aCall aLen (aCons (aVar 1) (aNil))) (aNil))) (aGName 10) (aB (aOp aNe (aOp aIx (aVar 1) (aVar 10)) (aOp aIx (aOp aIx (aVar 4) (aUn aNeg (aC (.int 1)))) (aVar 10)))) (aVar 10) [10]) (aNil))) (aVar 6)))
  (aRet (aC (.str "near")))
  (aNext))
  (aNext))
  (aRet (aC .non)))))))
def s_law_why : ASp := aBody 11 a_law_why
def a_rule_weight : AS' :=
  aSeq (aAsg (aC (.int 1)) (aGName 1))
  (aSeq (aFor (aIT (aOp aIx (aVar 0) (aC (.int 1)))) (aGName 2)
  (aAsg (aOp aMul (aVar 1) (aCall (s_weight 8) (aCons (aOp aIx (aVar 0) (aC (.int 0))) (aCons (aVar 2) (aNil))))) (aGName 1)))
  (aRet (aVar 1)))
def s_rule_weight : ASp := aBody 3 a_rule_weight
def a_Keeper_due : AS' :=
  aRet (aOrV (aOp (aEqNil false) (aFld "Keeper" "words" (aVar 0)) (aLst (aNil))) (aNotV (aCall s_keeps (aCons (aFld "Keeper" "its_rule" (aVar 0)) (aCons (aOp aIx (aFld "Keeper" "words" (aVar 0)) (aUn aNeg (aC (.int 1)))) (aNil))))))
def s_Keeper_due : ASp := aBody 1 a_Keeper_due
def a_Keeper_why_not : AS' :=
  aSeq (aIfS (aOr (aNot (aTru (aCall s_is_word (aCons (aOp aIx (aFld "Keeper" "its_rule" (aVar 0)) (aC (.int 0))) (aCons (aVar 1) (aNil)))))) (aB (aOp aGt (aCall aLen (aCons (aVar 1) (aNil))) (aC (.int 24)))))
  (aRet (aC (.str "word")))
  (aNext))
  (aSeq (aIfS (aNot (aTru (aCall s_keeps (aCons (aFld "Keeper" "its_rule" (aVar 0)) (aCons (aVar 1) (aNil))))))
  (aRet (aC (.str "fit")))
  (aNext))
  (aSeq (aIfS (aB (aOp aInL (aVar 1) (aMth "Keeper" "elder" s_Keeper_elder (aVar 0) aNil)))
  (aRet (aC (.str "elder")))
  (aNext))
  (aSeq (aIfS (aTru (aMth "Keeper" "is_near" s_Keeper_is_near (aVar 0) (aCons (aVar 1) (aNil))))
  (aRet (aC (.str "near")))
  (aNext))
  (aRet (aC .non)))))
def s_Keeper_why_not : ASp := aBody 2 a_Keeper_why_not
def a_Keeper_take : AS' :=
  aSeq (aAsg (aMth "Keeper" "why_not" s_Keeper_why_not (aVar 0) (aCons (aVar 1) (aNil))) (aGName 2))
  (aSeq (aIfS (aB (aOp aEq (aVar 2) (aC (.str "word"))))
  (aNoS)
  (aNext))
  (aSeq (aIfS (aB (aOp aEq (aVar 2) (aC (.str "fit"))))
  (aNoS)
  (aNext))
  (aSeq (aIfS (aB (aOp aEq (aVar 2) (aC (.str "elder"))))
  (aNoS)
  (aNext))
  (aSeq (aIfS (aB (aOp aEq (aVar 2) (aC (.str "near"))))
  (aNoS)
  (aNext))
  (aSeq (aDrop (aMeth "list" aAppend (aFld "Keeper" "words" (aVar 0)) (aCons (aVar 1) (aNil))))
  (aDrop (aMeth "list" aAppend (aFld "Keeper" "deeds" (aVar 0)) (aCons (aC .non) (aNil)))))))))
def s_Keeper_take : ASp := aBody 3 a_Keeper_take
def a_Keeper_harder (W : AX') : AS' :=
  aSeq (aAsg (aFld "Keeper" "its_rule" (aVar 0)) (aGTup 2 (aGCons (aGName 2) (aGCons (aGName 3) (aGNil)))))
  (aSeq (aIfS (aNot (aTru (aCall s_is_sentence (aCons (aVar 2) (aCons (aVar 1) (aNil))))))
  (aRaiseI W "NoSentence" (aCons (aCall aLen (aCons (aVar 3) (aNil))) (aNil)))
  (aNext))
  (aSeq (aIfS (aB (aOp aGe (aCall aLen (aCons (aVar 3) (aNil))) (aC (.int 8))))
  (aRaise W "TooMany")
  (aNext))
  (aSeq (aAsg (aTup (aCons (aVar 2) (aCons (aOp aAdd (aVar 3) (aTup (aCons (aVar 1) (aNil)))) (aNil)))) (aGName 4))
  (aSeq (aIfS (aB (aOp aGt (aCall s_rule_weight (aCons (aVar 4) (aNil))) (aC (.int 600))))
  (aRaise W "TooMuch")
  (aNext))
  (aSeq (aDrop (aMeth "list" aAppend (aFld "Keeper" "deeds" (aVar 0)) (aCons (aFld "Keeper" "its_rule" (aVar 0)) (aNil))))
  (aFldPut "Keeper" "its_rule" (aVar 0) (aVar 4)))))))
def s_Keeper_harder : ASpX := aBodyX 5 a_Keeper_harder
def a_law_rule : AS' :=
  aSeq (aAsg (aLstM (aNil)) (aGName 4))
  (aSeq (aAsg (aC (.int 1)) (aGName 5))
  (aSeq (aFor (aIR1 (aCons (aCall s_law_take (aCons (aVar 0) (aCons (aOp aAdd (aVar 3) (aC (.int 1))) (aNil)))) (aNil))) (aGName 6)
  (aSeq (aAsg (aCall (s_law_sentence 8) (aCons (aVar 0) (aCons (aVar 1) (aCons (aC (.int 0)) (aCons (aC (.int 3)) (aCons (aLstM (aCons (aC (.int 4)) (aNil))) (aNil))))))) (aGName 7))
  (aIfS (aB (aOp aLe (aOp aMul (aVar 5) (aCall (s_law_weight 8) (aCons (aVar 1) (aCons (aVar 7) (aNil))))) (aVar 2)))
  (aSeq (aDrop (aMeth "list" aAppend (aVar 4) (aCons (aVar 7) (aNil))))
  (aAsg (aOp aMul (aVar 5) (aCall (s_law_weight 8) (aCons (aVar 1) (aCons (aVar 7) (aNil))))) (aGName 5)))
  (aNext))))
  (aFrz 4 (aRet (aCall aTupleOf (aCons (aVar 4) (aNil)))))))
def s_law_rule : ASp := aBody 8 a_law_rule
def a_law_stands : AS' :=
  aSeq (aAsg (aVar 1) (aGTup 5 (aGCons (aGName 3) (aGCons (aGName 4) (aGCons (aGName 5) (aGCons (aGName 6) (aGCons (aGName 7) (aGNil))))))))
  (aSeq (aIfS (aOr (aB (aOp aNe (aMth "Keeper" "taken" s_Keeper_taken (aVar 0) aNil) (aVar 5))) (aOr (aB (aOp aNe (aMth "Keeper" "word" s_Keeper_word (aVar 0) aNil) (aOp aIx (aOrV (aVar 5) (aLst (aCons (aC .non) (aNil)))) (aUn aNeg (aC (.int 1)))))) (aB (aOp aNe (aMth "Keeper" "rule" s_Keeper_rule (aVar 0) aNil) (aTup (aCons (aVar 3) (aCons (aVar 4) (aNil))))))))
  (aRet (aC (.bl false)))
  (aNext))
  (aSeq (aAsg (aAndV (aOp (aEqNil true) (aVar 5) (aLst (aNil))) (aOp aInL (aC (.bl false)) (aLc (aIT (aVar 4)) (aGName 10) (aYes) (aCall (s_law_holds 8) (aCons (aVar 3) (aCons (aVar 10) (aCons (aOp aIx (aVar 5) (aUn aNeg (aC (.int 1)))) (aNil))))) [10]))) (aGName 8))
  (aSeq (aIfS (aB (aOp aNe (aMth "Keeper" "due" s_Keeper_due (aVar 0) aNil) (aOrV (aOp (aEqNil false) (aVar 5) (aLst (aNil))) (aVar 8))))
  (aRet (aC (.bl false)))
  (aNext))
  (aRet (aOp aEq (aLc (aIL (aVar 2)) (aGName 9) (aYes) (aMth "Keeper" "why_not" s_Keeper_why_not (aVar 0) (aCons (aVar 9) (aNil))) [9]) (aLc (aIL (aVar 2)) (aGName 9) (aYes) (aCall s_law_why (aCons (aVar 1) (aCons (aVar 9) (aNil)))) [9]))))))
def s_law_stands : ASp := aBody 11 a_law_stands
def a_law_harder (W : AX') : AS' :=
  aSeq (aTryA subE (fun W => aDrop (aMthX W "Keeper" "harder" s_Keeper_harder (aVar 0) (aCons (aVar 1) (aNil)))) [(["NoSentence", "TooMany", "TooMuch"], 999, aRet (aC (.bl false)))] W)
  (aRet (aC (.bl true)))
def s_law_harder : ASpX := aBodyX 2 a_law_harder
def a_law_deed (W : AX') : AS' :=
  aSeq (aAsg (aVar 2) (aGTup 5 (aGCons (aGName 5) (aGCons (aGName 6) (aGCons (aGName 7) (aGCons (aGName 8) (aGCons (aGName 9) (aGNil))))))))
  (aSeq (aAsg (aCall s_law_take (aCons (aVar 0) (aCons (aC (.int 9)) (aNil)))) (aGName 10))
  (aSeq (aIfS (aB (aOp aLt (aVar 10) (aC (.int 3))))
  (aSeq (aIfS (aB (aOp aNe (aCall s_law_undone (aCons (aVar 1) (aNil))) (aOp (aEqNil true) (aVar 3) (aLst (aNil)))))
  (aRet (aC .non))
  (aNext))
  (aRet (aIf (aB (aOp (aEqNil false) (aVar 3) (aLst (aNil)))) (aVar 2) (aMeth0 "list" aPop (aVar 3)))))
  (aNext))
  (aSeq (aIfS (aB (aOp aEq (aVar 10) (aC (.int 3))))
  (aSeq (aAsg (aOp aIx (aLst (aCons (aTup (aCons (aC (.str "apart")) (aNil))) (aCons (aTup (aCons (aC (.str "long")) (aCons (aC (.int 1)) (aCons (aC .non) (aNil))))) (aCons (aTup (aCons (aC (.str "least")) (aCons (aC (.int 0)) (aCons (aC (.int 1)) (aNil))))) (aCons (aTup (aCons (aC (.str "often")) (aCons (aSl aCut (aOp aIx (aVar 5) (aC (.int 0))) aNoPart (aPart (aC (.int 1)))) (aCons (aC (.int 1)) (aNil))))) (aCons (aC .non) (aNil))))))) (aCall s_law_take (aCons (aVar 0) (aCons (aC (.int 5)) (aNil))))) (aGName 11))
  (aSeq (aAsg (aAndV (aOp aNotN (aVar 11) (aC .non)) (aCall s_law_fine (aCons (aVar 5) (aCons (aOp aAdd (aVar 6) (aTup (aCons (aVar 11) (aNil)))) (aNil))))) (aGName 12))
  (aSeq (aIfS (aB (aOp aNe (aCallX W s_law_harder (aCons (aVar 1) (aCons (aVar 11) (aNil)))) (aVar 12)))
  (aRet (aC .non))
  (aNext))
  (aSeq (aIfS (aNot (aTru (aVar 12)))
  (aRet (aVar 2))
  (aNext))
  (aSeq (aDrop (aMeth "list" aAppend (aVar 3) (aCons (aVar 2) (aNil))))
  (aRet (aTup (aCons (aVar 5) (aCons (aOp aAdd (aVar 6) (aTup (aCons (aVar 11) (aNil)))) (aCons (aVar 7) (aCons (aVar 8) (aCons (aVar 9) (aNil)))))))))))))
  (aNext))
  (aSeq (aAsg (aCall s_law_why (aCons (aVar 2) (aCons (aVar 4) (aNil)))) (aGName 13))
  (aSeq (aIfS (aB (aOp aNe (aMth "Keeper" "why_not" s_Keeper_why_not (aVar 1) (aCons (aVar 4) (aNil))) (aVar 13)))
  (aRet (aC .non))
  (aNext))
  (aSeq (aIfS (aB (aOp aNotN (aVar 13) (aC .non)))
  (aRet (aVar 2))
  (aNext))
  (aSeq (aDrop (aMth "Keeper" "take" s_Keeper_take (aVar 1) (aCons (aVar 4) (aNil))))
  (aSeq (aDrop (aMeth "list" aAppend (aVar 3) (aCons (aVar 2) (aNil))))
  (aRet (aTup (aCons (aVar 5) (aCons (aVar 6) (aCons (aOp aAddM (aVar 7) (aLst (aCons (aVar 4) (aNil)))) (aCons (aVar 8) (aCons (aVar 9) (aNil))))))))))))))))
def s_law_deed : ASpX := aBodyX 14 a_law_deed
def a_lawW (W : AX') : AS' :=
  aSeq (aAsg (aCall s_law_pen (aCons (aVar 0) (aCons (aC (.int 0)) (aNil)))) (aGName 1))
  (aSeq (aAsg (aCall s_law_tongue (aCons (aVar 1) (aCons (aOp aIx (aLst (aCons (aC (.int 4)) (aCons (aC (.int 4)) (aCons (aC (.int 4)) (aCons (aC (.int 12)) (aNil)))))) (aCall s_law_take (aCons (aVar 1) (aCons (aC (.int 4)) (aNil))))) (aNil)))) (aGName 2))
  (aSeq (aAsg (aTup (aCons (aCall s_law_take (aCons (aVar 1) (aCons (aOp aIx (aLst (aCons (aC (.int 3)) (aCons (aC (.int 10)) (aNil)))) (aCall s_law_take (aCons (aVar 1) (aCons (aC (.int 2)) (aNil))))) (aNil)))) (aCons (aCall s_law_take (aCons (aVar 1) (aCons (aOp aIx (aLst (aCons (aC (.int 3)) (aCons (aC (.int 10)) (aNil)))) (aCall s_law_take (aCons (aVar 1) (aCons (aC (.int 2)) (aNil))))) (aNil)))) (aNil)))) (aGName 3))
  (aSeq (aAsg (aOp aAdd (aTup (aCons (aVar 2) (aCons (aCall s_law_rule (aCons (aCall s_law_pen (aCons (aVar 0) (aCons (aC (.int 1)) (aNil)))) (aCons (aVar 2) (aCons (aC (.int 12)) (aCons (aC (.int 2)) (aNil)))))) (aCons (aLstM (aNil)) (aNil))))) (aVar 3)) (aGName 4))
  (aSeq (aAsg (aMake "Keeper" s_Keeper___init__ (aCons (aSl aCut (aVar 4) aNoPart (aPart (aC (.int 2)))) (aCons (aOp aIx (aVar 3) (aC (.int 0))) (aCons (aOp aIx (aVar 3) (aC (.int 1))) (aNil))))) (aGName 5))
  (aSeq (aAsg (aLstM (aNil)) (aGName 6))
  (aSeq (aAsg (aLst (aCons (aC (.str "")) (aCons (aSl aCut (aMeth "str" aJoin (aC (.str "")) (aCons (aVar 2) (aNil))) aNoPart (aPart (aC (.int 1)))) (aCons (aC .non) (aNil))))) (aGName 7))
  (aSeq (aFor (aIR1 (aCons (aCall aMax2 (aCons (aC (.int 16)) (aCons (aCall aMin2 (aCons (aC (.int 30)) (aCons (aCall aLen (aCons (aVar 0) (aNil))) (aNil)))) (aNil)))) (aNil))) (aGName 8)
  (aSeq (aAsg (aCall s_law_pen (aCons (aVar 0) (aCons (aOp aAdd (aC (.int 2)) (aVar 8)) (aNil)))) (aGName 9))
  (aSeq (aAsg (aOp aAdd (aSl aCut (aVar 7) (aPart (aC (.int 1))) aNoPart) (aLst (aCons (aCall s_law_thing (aCons (aVar 9) (aCons (aVar 2) (aCons (aOp aIx (aVar 4) (aC (.int 2))) (aNil))))) (aNil)))) (aGName 7))
  (aSeq (aAsg (aCallX W s_law_deed (aCons (aVar 9) (aCons (aVar 5) (aCons (aVar 4) (aCons (aVar 6) (aCons (aOp aIx (aVar 7) (aUn aNeg (aC (.int 1)))) (aNil))))))) (aGName 4))
  (aIfS (aOr (aB (aOp aIsN (aVar 4) (aC .non))) (aNot (aTru (aCall s_law_stands (aCons (aVar 5) (aCons (aVar 4) (aCons (aVar 7) (aNil))))))))
  (aRet (aC (.bl false)))
  (aNext))))))
  (aSeq (aWhile (aB (aOp (aEqNil true) (aVar 6) (aLst (aNil))))
  (aSeq (aAsg (aMeth0 "list" aPop (aVar 6)) (aGName 4))
  (aIfS (aOr (aB (aOp aNotBl (aCall s_law_undone (aCons (aVar 5) (aNil))) (aC (.bl true)))) (aNot (aTru (aCall s_law_stands (aCons (aVar 5) (aCons (aVar 4) (aCons (aVar 7) (aNil))))))))
  (aRet (aC (.bl false)))
  (aNext))))
  (aRet (aAndV (aOp aIsBl (aCall s_law_undone (aCons (aVar 5) (aNil))) (aC (.bl false))) (aAndV (aCall s_law_stands (aCons (aVar 5) (aCons (aVar 4) (aCons (aVar 7) (aNil))))) (aOp aIsBl (aCall s_law_undone (aCons (aVar 5) (aNil))) (aC (.bl false))))))))))))))
def a_law : AS' := a_lawW (fun _ _ _ => False)
def s_law : ASp := aBody 10 a_law
end A_k53
namespace A_k53
open PySem L2 AL
def PenC (c : Cell) : Prop := ∃ f g : Int, c = .lst [.int f, .int g] ∧ 0 ≤ f
def Pen (C : AH) (p : Addr) : Prop := ∃ c, C p = some c ∧ PenC c
theorem pen_put {C : AH} {p : Addr} {c : Cell} (h : PenC c) : Pen (put C p c) p := ⟨c, put_same, h⟩
theorem take_ok {p : Addr} {m : Int} {C : AH} {P : D → AH → Prop} (hp : Pen C p) (hm : 0 < m) (hm2 : m < 1073741824)
    (k : ∀ c d, PenC c → 0 ≤ d → d < m → P (.int d) (put C p c)) : s_law_take [.ce p, .int m] C P := by
  obtain ⟨_, hC, f, g, rfl, hf⟩ := hp
  unfold s_law_take a_law_take
  walk_at "go"
  refine g_ifS ?_
  walk_at "go"
  refine g_iteD (fun h => ?_) (fun h => ?_)
  · walk_at "go"
    exact k _ _ ⟨_, _, rfl, Int.ediv_nonneg hf (by omega)⟩ (Int.emod_nonneg _ (by omega)) (Int.emod_lt_of_pos _ hm)
  · walk_at "go"
    exact k _ _ ⟨_, _, rfl, hf⟩ (Int.emod_nonneg _ (by omega)) (Int.emod_lt_of_pos _ hm)
theorem pen_ok {ns : List Int} {j : Nat} {C : AH} {P : D → AH → Prop} (hj : j < 1000) (hn : ns.length ≤ 63) (k : ∀ p c, C p = none → PenC c → P (.ce p) (put C p c)) : s_law_pen [.scr ns, .int j] C P := by
  unfold s_law_pen a_law_pen
  walk_at "go"
  refine g_ifJ (fun st C' => ∃ x : Int, st = [some (.scr ns), some (.int j), some (.int x), none] ∧ C' = C) (fun N hN => ?_) (fun st C' hw => ?_)
  · refine g_ifS ?_
    walk_at "go"
    refine g_iteD (fun h => ?_) (fun h => ?_)
    · walk_at "go"
      refine g_ixR (d := .int (ns.getD (j % ns.length) 0)) ?_ ?_
      · have e : (j : Int) % (ns.length : Int) = ((j % ns.length : Nat) : Int) := by omega
        rw [e]
        refine atI_nat' ?_
        have hl : j % ns.length < ns.length := Nat.mod_lt _ (by omega)
        rw [List.getElem?_map, List.getElem?_eq_getElem hl]
        simp [List.getD, List.getElem?_eq_getElem hl]
      walk_at "go"
      exact hN _ _ ⟨_, rfl, rfl⟩
    · walk_at "go"
      exact hN _ _ ⟨_, rfl, rfl⟩
  · obtain ⟨x, rfl, rfl⟩ := hw
    walk_at "go"
    refine g_ifS ?_
    walk_at "go"
    refine g_iteD (fun h => ?_) (fun h => ?_)
    · walk_at "go"
      intro p hp
      refine k p _ hp ⟨_, _, rfl, ?_⟩
      split <;> omega
    · walk_at "go"
      intro p hp
      exact k p _ hp ⟨_, _, rfl, by omega⟩
theorem take_nat {p : Addr} {m : Nat} {C : AH} {P : D → AH → Prop} (hp : Pen C p) (hm : 0 < m) (hm2 : m < 1073741824)
    (k : ∀ c (d : Nat), PenC c → d < m → P (.int d) (put C p c)) : s_law_take [.ce p, .int m] C P := by
  refine take_ok hp (by omega) (by omega) fun c d hc h0 h1 => ?_
  have e : d = ((d.toNat : Nat) : Int) := by omega
  rw [e]
  exact k c d.toNat hc (by omega)
/-- only the cells of L may have turned -/
def Keep (L : List Addr) (C C' : AH) : Prop := ∀ q, q ∉ L → C' q = C q
theorem Keep.refl (L : List Addr) (C : AH) : Keep L C C := fun _ _ => rfl
theorem Keep.put {L : List Addr} {C C' : AH} {p : Addr} {c : Cell} (h : Keep L C C') (hp : p ∈ L) : Keep L C (put C' p c) := fun q hq => by
  rw [put_ne (fun z => hq (by rw [z]; exact hp))]
  exact h q hq
theorem Keep.del {L : List Addr} {C C' : AH} {p : Addr} (h : Keep L C C') (hp : p ∈ L) : Keep L C (del C' p) := fun q hq => by
  unfold AL.del
  rw [if_neg (fun z => hq (by rw [z]; exact hp))]
  exact h q hq
/-- a cell that was not there, and is there no more -/
theorem Keep.drop {L : List Addr} {C C' : AH} {p : Addr} (h : Keep (p :: L) C C') (hp : C p = none) (h' : C' p = none) : Keep L C C' := fun q hq => by
  by_cases e : q = p
  · rw [e, hp, h']
  · exact h q (by simp [e, hq])
theorem Keep.trans {L : List Addr} {C C' C2 : AH} (h : Keep L C C') (g : Keep L C' C2) : Keep L C C2 := fun q hq => (g q hq).trans (h q hq)
theorem Pen.other {C : AH} {p q : Addr} {c : Cell} (h : Pen C p) (hn : p ≠ q) : Pen (put C q c) p := by
  obtain ⟨d, h1, h2⟩ := h
  exact ⟨d, put_other hn h1, h2⟩
theorem Pen.otherD {C : AH} {p q : Addr} (h : Pen C p) (hn : p ≠ q) : Pen (del C q) p := by
  obtain ⟨d, h1, h2⟩ := h
  exact ⟨d, del_other hn h1, h2⟩
end A_k53
namespace A_k53
open PySem L2 AL
inductive Sent where
  | long (lo : Nat) (hi : Option Nat)
  | least (k m : Nat)
  | often (own : Str) (m : Nat)
  | apart
  | without (own : Str)
  | begins (own : Str)
  | ends (own : Str)
  | no (s : Sent)
  | both (s t : Sent)
  | either (s t : Sent)
def tree : Sent → D
  | .long lo hi => .tup [.str "long", .int lo, oD hi]
  | .least k m => .tup [.str "least", .int k, .int m]
  | .often own m => .tup [.str "often", .str own, .int m]
  | .apart => .tup [.str "apart"]
  | .without own => .tup [.str "without", .str own]
  | .begins own => .tup [.str "begins", .str own]
  | .ends own => .tup [.str "ends", .str own]
  | .no s => .tup [.str "not", tree s]
  | .both s t => .tup [.str "both", tree s, tree t]
  | .either s t => .tup [.str "either", tree s, tree t]
/-- the places where a text stands -/
def stands (w own : List Nat) : List Nat := (List.range (w.length + 1 - own.length)).filter fun i => decide ((w.drop i).take own.length = own)
/-- neighbours alike -/
def dbl (w : List Nat) : List Nat := (List.range (w.length - 1)).filter fun i => decide (w.getD i 0 = w.getD (i + 1) 0)
def hold (tg : List Str) (w : List Nat) : Sent → Bool
  | .long lo none => decide (lo ≤ w.length)
  | .long lo (some h) => decide (lo ≤ w.length) && decide (w.length ≤ h)
  | .least k m => decide (m ≤ (w.filter fun c => decide (c ∈ (tg.getD k "").cps.toList)).length)
  | .often own m => own.cps.toList.all fun c => decide ((w.filter fun b => decide (b = c)).length ≤ m)
  | .apart => (dbl w).isEmpty
  | .without own => (stands w own.cps.toList).isEmpty
  | .begins own => decide (w.take own.length = own.cps.toList)
  | .ends own => decide (own.length ≤ w.length ∧ w.drop (w.length - own.length) = own.cps.toList)
  | .no s => !hold tg w s
  | .both s t => hold tg w s && hold tg w t
  | .either s t => hold tg w s || hold tg w t
end A_k53
namespace A_k53
open PySem L2 AL
inductive S where
  | n (k : Nat)
  | t (o : Option Nat)
  | c (l : List Nat)
  deriving DecidableEq
/-- whether a text ends with another -/
def sfx (a b : List Nat) : Bool := decide (a.length ≤ b.length ∧ b.drop (b.length - a.length) = a)
theorem sfx_iff {a b : List Nat} : sfx a b = true ↔ ∃ x, b = x ++ a := by
  unfold sfx
  rw [decide_eq_true_iff]
  constructor
  · rintro ⟨h1, h2⟩
    exact ⟨b.take (b.length - a.length), by have := (List.take_append_drop (b.length - a.length) b).symm; rw [h2] at this; exact this⟩
  · rintro ⟨x, rfl⟩
    simp
/-- the greatest number up to j of a text's first signs at the end of another -/
def tae (own t : List Nat) : Nat → Nat
  | 0 => 0
  | j + 1 => if sfx (own.take (j + 1)) t = true then j + 1 else tae own t j
theorem tae_le (own t : List Nat) : ∀ j, tae own t j ≤ j
  | 0 => Nat.le_refl _
  | j + 1 => by
    unfold tae
    split
    · exact Nat.le_refl _
    · exact Nat.le_succ_of_le (tae_le own t j)
theorem sfx_nil (t : List Nat) : sfx [] t = true := sfx_iff.mpr ⟨t, by simp⟩
theorem tae_sfx (own t : List Nat) : ∀ j, sfx (own.take (tae own t j)) t = true
  | 0 => by unfold tae; rw [List.take_zero]; exact sfx_nil t
  | j + 1 => by
    unfold tae
    split
    · assumption
    · exact tae_sfx own t j
theorem tae_max (own t : List Nat) : ∀ j i, i ≤ j → sfx (own.take i) t = true → i ≤ tae own t j
  | 0, i, h, _ => by omega
  | j + 1, i, h, hs => by
    unfold tae
    split
    · exact h
    · rename_i hn
      by_cases e : i = j + 1
      · rw [e] at hs; exact absurd hs hn
      · exact tae_max own t j i (by omega) hs
/-- how many of a text's first signs stand at a word's end -/
def Bd (own v : List Nat) (k : Nat) : Prop := k ≤ own.length ∧ sfx (own.take k) v = true ∧ ∀ j, j ≤ own.length → sfx (own.take j) v = true → j ≤ k
theorem sfx_snoc {a b : List Nat} {x y : Nat} : sfx (a ++ [x]) (b ++ [y]) = true ↔ x = y ∧ sfx a b = true := by
  rw [sfx_iff, sfx_iff]
  constructor
  · rintro ⟨z, hz⟩
    rw [← List.append_assoc] at hz
    obtain ⟨h1, h2⟩ := List.append_inj' hz rfl
    exact ⟨by simpa using h2.symm, z, h1⟩
  · rintro ⟨rfl, z, rfl⟩
    exact ⟨z, by rw [List.append_assoc]⟩
theorem sfx_trans {a b c : List Nat} (h : sfx a b = true) (h' : sfx b c = true) : sfx a c = true := by
  rw [sfx_iff] at *
  obtain ⟨x, rfl⟩ := h
  obtain ⟨y, rfl⟩ := h'
  exact ⟨y ++ x, by rw [List.append_assoc]⟩
theorem sfx_both {a b c : List Nat} (h : sfx a c = true) (h' : sfx b c = true) (hl : a.length ≤ b.length) : sfx a b = true := by
  rw [sfx_iff] at *
  obtain ⟨x, rfl⟩ := h
  obtain ⟨y, hy⟩ := h'
  have hxy : y.length ≤ x.length := by have := congrArg List.length hy; simp at this; omega
  refine ⟨x.drop y.length, ?_⟩
  have := congrArg (List.drop y.length) hy
  rw [List.drop_append_of_le_length hxy, List.drop_left] at this
  exact this.symm
theorem take_snoc {own : List Nat} {j : Nat} (h : j < own.length) : own.take (j + 1) = own.take j ++ [own[j]] := by
  rw [List.take_add_one, List.getElem?_eq_getElem h]; rfl
theorem Bd.step {own v : List Nat} {n c : Nat} (h : Bd own v n) : Bd own (v ++ [c]) (tae own (own.take n ++ [c]) (min (n + 1) own.length)) := by
  obtain ⟨h1, h2, h3⟩ := h
  have hle := tae_le own (own.take n ++ [c]) (min (n + 1) own.length)
  refine ⟨by omega, ?_, fun j hj hs => ?_⟩
  · refine sfx_trans (tae_sfx own (own.take n ++ [c]) _) ?_
    exact sfx_snoc.mpr ⟨rfl, h2⟩
  · cases j with
    | zero => exact Nat.zero_le _
    | succ j =>
      rw [take_snoc (by omega)] at hs
      obtain ⟨e, hs'⟩ := sfx_snoc.mp hs
      have hjn := h3 j (by omega) hs'
      refine tae_max own _ _ (j + 1) (by omega) ?_
      rw [take_snoc (by omega)]
      refine sfx_snoc.mpr ⟨e, sfx_both hs' h2 ?_⟩
      rw [List.length_take, List.length_take]
      omega
theorem Bd.nil (own : List Nat) : Bd own [] 0 := by
  refine ⟨Nat.zero_le _, by rw [List.take_zero]; exact sfx_nil _, fun j hj hs => ?_⟩
  obtain ⟨x, hx⟩ := sfx_iff.mp hs
  have := congrArg List.length hx
  simp at this
  omega
theorem Bd.full {own v : List Nat} {k : Nat} (h : Bd own v k) : k = own.length ↔ sfx own v = true := by
  constructor
  · intro e
    have := h.2.1
    rw [e, List.take_length] at this
    exact this
  · intro hs
    have := h.2.2 own.length (Nat.le_refl _) (by rw [List.take_length]; exact hs)
    have := h.1
    omega
/-- a text stands in a word with a sign more where it stood, or ends it -/
theorem stands_snoc {own v : List Nat} {c : Nat} (ho : own ≠ []) : (stands (v ++ [c]) own).isEmpty = ((stands v own).isEmpty && !sfx own (v ++ [c])) := by
  have key : ∀ w : List Nat, (stands w own).isEmpty = false ↔ ∃ x y, w = x ++ own ++ y := fun w => by
    have e : (stands w own).isEmpty = false ↔ ∃ i, i ∈ stands w own := by
      cases q : stands w own with
      | nil => simp
      | cons a l => simp
    rw [e]
    unfold stands
    constructor
    · rintro ⟨i, hi⟩
      obtain ⟨_, h2⟩ := List.mem_filter.mp hi
      have h2 := of_decide_eq_true h2
      refine ⟨w.take i, (w.drop i).drop own.length, ?_⟩
      conv => lhs; rw [← List.take_append_drop i w, ← List.take_append_drop own.length (w.drop i), h2]
      rw [List.append_assoc]
    · rintro ⟨x, y, rfl⟩
      refine ⟨x.length, List.mem_filter.mpr ⟨List.mem_range.mpr ?_, decide_eq_true ?_⟩⟩
      · simp only [List.length_append]; omega
      · rw [List.append_assoc, List.drop_left, List.take_left]
  have hb : ∀ {a b c : Bool}, (a = false ↔ b = false ∨ c = true) → a = (b && !c) := fun {a b c} h => by
    cases a <;> cases b <;> cases c <;> simp at h ⊢
  refine hb ?_
  rw [key, key, sfx_iff]
  constructor
  · rintro ⟨x, y, h⟩
    cases hy : y.reverse with
    | nil =>
      have : y = [] := by simpa using hy
      subst this
      exact .inr ⟨x, by rw [h, List.append_nil]⟩
    | cons d r =>
      have hy2 : y = r.reverse ++ [d] := by have := congrArg List.reverse hy; simpa using this
      subst hy2
      rw [← List.append_assoc] at h
      obtain ⟨h1, _⟩ := List.append_inj' h rfl
      exact .inl ⟨x, r.reverse, h1⟩
  · rintro (⟨x, y, rfl⟩ | ⟨x, h⟩)
    · exact ⟨x, y ++ [c], by simp [List.append_assoc]⟩
    · exact ⟨x, [], by rw [List.append_nil]; exact h⟩
end A_k53
namespace A_k53
open PySem L2 AL
/-- all signs of a tongue -/
def zs (tg : List Str) : List Nat := (Txt.join "" tg).cps.toList
/-- the signs of a text -/
abbrev cs (z : Str) : List Nat := z.cps.toList
/-- how often a sign stands in a word -/
def cnt (v : List Nat) (c : Nat) : Nat := (v.filter fun b => decide (b = c)).length
def kcnt (tg : List Str) (a : Nat) (v : List Nat) : Nat := (v.filter fun c => decide (c ∈ cs (tg.getD a ""))).length
def first : Sent → S
  | .often own _ => .c (List.replicate (cs own).length 0)
  | .apart => .t none
  | _ => .n 0
def kept (tg : List Str) (s : Sent) (st : S) (c : Nat) : Option S := match s, st with
  | .long lo none, .n k => some (.n (min lo (k + 1)))
  | .long _ (some h), .n k => if k = h then none else some (.n (k + 1))
  | .least a m, .n k => some (.n (min m (k + if c ∈ cs (tg.getD a "") then 1 else 0)))
  | .often own m, .c l => if ((l.zip (cs own)).map (fun p => p.1 + if p.2 = c then 1 else 0)).all (fun x => decide (x ≤ m)) = true then some (.c ((l.zip (cs own)).map fun p => p.1 + if p.2 = c then 1 else 0)) else none
  | .apart, .t o => if o = some c then none else some (.t (some c))
  | .without own, .n k => if tae (cs own) ((cs own).take k ++ [c]) (min (k + 1) own.length) = own.length then none else some (.n (tae (cs own) ((cs own).take k ++ [c]) (min (k + 1) own.length)))
  | .begins own, .n k => if k = own.length then some (.n k) else if (cs own)[k]? = some c then some (.n (k + 1)) else none
  | .ends own, .n k => some (.n (tae (cs own) ((cs own).take k ++ [c]) (min (k + 1) own.length)))
  | _, _ => none
/-- what is kept behind a word; none where nothing can follow -/
def St (tg : List Str) : Sent → List Nat → Option S → Prop
  | .long lo none, v, o => o = some (.n (min lo v.length))
  | .long _ (some h), v, o => o = if v.length ≤ h then some (.n v.length) else none
  | .least a m, v, o => o = some (.n (min m (kcnt tg a v)))
  | .often own m, v, o => o = if ∀ c ∈ cs own, cnt v c ≤ m then some (.c ((cs own).map (cnt v))) else none
  | .apart, v, o => o = if (dbl v).isEmpty = true then some (.t v.getLast?) else none
  | .without own, v, o => if (stands v (cs own)).isEmpty = true then ∃ k, o = some (.n k) ∧ Bd (cs own) v k else o = none
  | .begins own, v, o => o = if v.take own.length = (cs own).take v.length then some (.n (min v.length own.length)) else none
  | .ends own, v, o => ∃ k, o = some (.n k) ∧ Bd (cs own) v k
  | _, _, _ => False
theorem kept_without (tg : List Str) (own : Str) (k c : Nat) : kept tg (.without own) (.n k) c = if tae (cs own) ((cs own).take k ++ [c]) (min (k + 1) own.length) = own.length then none else some (.n (tae (cs own) ((cs own).take k ++ [c]) (min (k + 1) own.length))) := rfl
theorem St_without (tg : List Str) (own : Str) (v : List Nat) (o : Option S) : St tg (.without own) v o = if (stands v (cs own)).isEmpty = true then ∃ k, o = some (.n k) ∧ Bd (cs own) v k else o = none := rfl
/-- a sentence without parts -/
def Pln : Sent → Prop
  | .no _ => False
  | .both _ _ => False
  | .either _ _ => False
  | .without own => cs own ≠ []
  | .long lo (some h) => lo ≤ h
  | _ => True
theorem cnt_snoc (v : List Nat) (c b : Nat) : cnt (v ++ [c]) b = cnt v b + if b = c then 1 else 0 := by
  unfold cnt
  rw [List.filter_append, List.length_append]
  by_cases e : b = c
  · simp [e]
  · have : ¬ c = b := fun z => e z.symm
    simp [e, this]
theorem kcnt_snoc (tg : List Str) (a : Nat) (v : List Nat) (c : Nat) : kcnt tg a (v ++ [c]) = kcnt tg a v + if c ∈ cs (tg.getD a "") then 1 else 0 := by
  unfold kcnt
  rw [List.filter_append, List.length_append]
  by_cases e : c ∈ cs (tg.getD a "")
  · rw [if_pos e, List.filter_cons, if_pos (decide_eq_true e)]; rfl
  · rw [if_neg e, List.filter_cons, if_neg (by rw [decide_eq_false e]; exact Bool.false_ne_true)]; rfl
theorem dbl_snoc (v : List Nat) (c : Nat) : (dbl (v ++ [c])).isEmpty = ((dbl v).isEmpty && !decide (v.getLast? = some c)) := by
  cases hv : v.reverse with
  | nil =>
    have : v = [] := by simpa using hv
    subst this
    rfl
  | cons d r =>
    have hv2 : v = r.reverse ++ [d] := by have := congrArg List.reverse hv; simpa using this
    subst hv2
    generalize r.reverse = u
    unfold dbl
    have e1 : (u ++ [d] ++ [c]).length - 1 = u.length + 1 := by simp
    have e2 : (u ++ [d]).length - 1 = u.length := by simp
    rw [e1, e2, List.range_succ, List.filter_append]
    have e3 : ((List.range u.length).filter fun i => decide ((u ++ [d] ++ [c]).getD i 0 = (u ++ [d] ++ [c]).getD (i + 1) 0)) = (List.range u.length).filter fun i => decide ((u ++ [d]).getD i 0 = (u ++ [d]).getD (i + 1) 0) := by
      refine List.filter_congr fun i hi => ?_
      have hi := List.mem_range.mp hi
      rw [List.getD_eq_getElem?_getD, List.getD_eq_getElem?_getD, List.getD_eq_getElem?_getD, List.getD_eq_getElem?_getD, List.getElem?_append_left (by simp; omega), List.getElem?_append_left (l₁ := u ++ [d]) (i := i + 1) (by simp; omega)]
    rw [e3]
    have e4 : (u ++ [d] ++ [c]).getD u.length 0 = d := by simp [List.getD_eq_getElem?_getD]
    have e5 : (u ++ [d] ++ [c]).getD (u.length + 1) 0 = c := by simp [List.getD_eq_getElem?_getD]
    have e6 : (u ++ [d]).getLast? = some d := by simp
    rw [e6]
    by_cases hdc : d = c
    · subst hdc
      simp [e4, e5]
    · have : ¬ some d = some c := fun z => hdc (Option.some.inj z)
      simp only [List.filter_cons, e4, e5, hdc, decide_false, List.filter_nil, this]
      simp
theorem St.first (tg : List Str) {s : Sent} (hs : Pln s) : St tg s [] (some (first s)) := by
  cases s with
  | long lo hi => cases hi <;> simp [St, A_k53.first]
  | least a m => simp [St, A_k53.first, kcnt]
  | often own m =>
    show some (S.c (List.replicate (cs own).length 0)) = if ∀ c ∈ cs own, cnt [] c ≤ m then some (S.c ((cs own).map (cnt []))) else none
    have hz : ∀ c ∈ cs own, cnt [] c ≤ m := fun c _ => Nat.zero_le _
    rw [if_pos hz]
    congr 2
    show _ = (cs own).map (fun _ => 0)
    rw [List.map_const']
  | apart => simp [St, A_k53.first, dbl]
  | without own =>
    have : (stands [] (cs own)).isEmpty = true := by
      have h0 : cs own ≠ [] := hs
      generalize cs own = l at h0
      cases l with
      | nil => exact absurd rfl h0
      | cons a l =>
        show ((List.range (0 + 1 - (l.length + 1))).filter _).isEmpty = true
        rw [show 0 + 1 - (l.length + 1) = 0 by omega]
        rfl
    show if (stands [] (cs own)).isEmpty = true then ∃ k, some (A_k53.first (Sent.without own)) = some (S.n k) ∧ Bd (cs own) [] k else some (A_k53.first (Sent.without own)) = none
    rw [if_pos this]
    exact ⟨0, rfl, Bd.nil _⟩
  | begins own => simp [St, A_k53.first]
  | ends own => exact ⟨0, rfl, Bd.nil _⟩
  | _ => exact hs.elim
theorem St.step (tg : List Str) {s : Sent} (hs : Pln s) {v : List Nat} {st : S} (h : St tg s v (some st)) (c : Nat) : St tg s (v ++ [c]) (kept tg s st c) := by
  cases s with
  | long lo hi =>
    cases hi with
    | none =>
      have h : some st = some (S.n (min lo v.length)) := h
      cases h
      show kept tg _ _ c = some (.n (min lo (v ++ [c]).length))
      rw [List.length_append, List.length_singleton]
      show some (S.n (min lo (min lo v.length + 1))) = _
      congr 2
      omega
    | some hh =>
      have h : some st = if v.length ≤ hh then some (S.n v.length) else none := h
      split at h
      · rename_i hle
        cases h
        show kept tg _ _ c = if (v ++ [c]).length ≤ hh then some (.n (v ++ [c]).length) else none
        rw [List.length_append, List.length_singleton]
        show (if v.length = hh then none else some (S.n (v.length + 1))) = _
        by_cases e : v.length = hh
        · rw [if_pos e, if_neg (by omega)]
        · rw [if_neg e, if_pos (by omega)]
      · cases h
  | least a m =>
    have h : some st = some (S.n (min m (kcnt tg a v))) := h
    cases h
    show kept tg _ _ c = some (.n (min m (kcnt tg a (v ++ [c]))))
    rw [kcnt_snoc]
    show some (S.n (min m (min m (kcnt tg a v) + if c ∈ cs (tg.getD a "") then 1 else 0))) = _
    congr 2
    split <;> omega
  | often own m =>
    have h : some st = if ∀ c ∈ cs own, cnt v c ≤ m then some (S.c ((cs own).map (cnt v))) else none := h
    split at h
    · rename_i hle
      cases h
      show kept tg _ _ c = if ∀ b ∈ cs own, cnt (v ++ [c]) b ≤ m then some (.c ((cs own).map (cnt (v ++ [c])))) else none
      have e : (((cs own).map (cnt v)).zip (cs own)).map (fun p => p.1 + if p.2 = c then 1 else 0) = (cs own).map (cnt (v ++ [c])) := by
        have key : ∀ l : List Nat, ((l.map (cnt v)).zip l).map (fun p => p.1 + if p.2 = c then 1 else 0) = l.map (cnt (v ++ [c])) := fun l => by
          induction l with
          | nil => rfl
          | cons b l ih =>
            rw [List.map_cons, List.zip_cons_cons, List.map_cons, List.map_cons, ih, cnt_snoc]
        exact key _
      unfold kept
      simp only [e]
      have e2 : ((cs own).map (cnt (v ++ [c]))).all (fun x => decide (x ≤ m)) = true ↔ ∀ b ∈ cs own, cnt (v ++ [c]) b ≤ m := by
        rw [List.all_eq_true]
        constructor
        · intro h b hb
          exact of_decide_eq_true (h _ (List.mem_map.mpr ⟨b, hb, rfl⟩))
        · intro h x hx
          obtain ⟨b, hb, rfl⟩ := List.mem_map.mp hx
          exact decide_eq_true (h b hb)
      by_cases h3 : ∀ b ∈ cs own, cnt (v ++ [c]) b ≤ m
      · rw [if_pos (e2.mpr h3), if_pos h3]
      · rw [if_neg (fun z => h3 (e2.mp z)), if_neg h3]
    · cases h
  | apart =>
    have h : some st = if (dbl v).isEmpty = true then some (S.t v.getLast?) else none := h
    split at h
    · rename_i he
      cases h
      show kept tg _ _ c = if (dbl (v ++ [c])).isEmpty = true then some (.t (v ++ [c]).getLast?) else none
      rw [dbl_snoc, he]
      show (if v.getLast? = some c then none else some (S.t (some c))) = _
      by_cases e : v.getLast? = some c
      · simp [e]
      · simp [e]
    · cases h
  | without own =>
    rw [St_without] at h
    split at h
    · rename_i he
      obtain ⟨k, hk, hB⟩ := h
      cases hk
      have hB2 := hB.step (c := c)
      have hl : (cs own).length = own.length := len_toList own
      rw [St_without, stands_snoc hs, he, Bool.true_and]
      rw [kept_without]
      rw [hl] at hB2
      have hfull := hB2.full
      rw [hl] at hfull
      by_cases e : tae (cs own) ((cs own).take k ++ [c]) (min (k + 1) own.length) = own.length
      · rw [if_pos e]
        rw [hfull.mp e]
        simp
      · rw [if_neg e]
        have : sfx (cs own) (v ++ [c]) = false := by
          cases q : sfx (cs own) (v ++ [c]) with
          | false => rfl
          | true => exact absurd (hfull.mpr q) e
        rw [this, if_pos (show (!false) = true from rfl)]
        exact ⟨_, rfl, hB2⟩
    · cases h
  | begins own =>
    have hl : (cs own).length = own.length := len_toList own
    have h : some st = if v.take own.length = (cs own).take v.length then some (S.n (min v.length own.length)) else none := h
    split at h
    · rename_i he
      cases h
      show kept tg _ _ c = if (v ++ [c]).take own.length = (cs own).take (v ++ [c]).length then some (.n (min (v ++ [c]).length own.length)) else none
      rw [List.length_append, List.length_singleton]
      unfold kept
      by_cases e : own.length ≤ v.length
      · have e1 : min v.length own.length = own.length := by omega
        simp only [e1, if_pos]
        rw [List.take_append_of_le_length e, he, List.take_of_length_le (by omega), List.take_of_length_le (by omega), if_pos rfl]
        congr 2
        omega
      · have e1 : min v.length own.length = v.length := by omega
        simp only [e1]
        rw [if_neg (by omega)]
        have e2 : v.take own.length = v := List.take_of_length_le (by omega)
        rw [e2] at he
        have e3 : (v ++ [c]).take own.length = v ++ [c] := List.take_of_length_le (by simp; omega)
        have hlt : v.length < (cs own).length := by omega
        rw [e3, take_snoc hlt, ← he, List.getElem?_eq_getElem hlt]
        have e4 : (v ++ [c] = v ++ [(cs own)[v.length]]) ↔ some (cs own)[v.length] = some c := by
          constructor
          · intro z
            have := (List.append_inj' z rfl).2
            rw [show (cs own)[v.length] = c by simpa using this.symm]
          · intro z
            rw [Option.some.inj z]
        by_cases z : some (cs own)[v.length] = some c
        · rw [if_pos z, if_pos (e4.mpr z)]
          congr 2
          omega
        · rw [if_neg z, if_neg (fun y => z (e4.mp y))]
    · cases h
  | ends own =>
    have hl : (cs own).length = own.length := len_toList own
    obtain ⟨k, hk, hB⟩ := h
    cases hk
    have hB2 := hB.step (c := c)
    rw [hl] at hB2
    exact ⟨_, rfl, hB2⟩
  | _ => exact hs.elim
theorem St.stop (tg : List Str) {s : Sent} (hs : Pln s) {v : List Nat} (h : St tg s v none) (c : Nat) : St tg s (v ++ [c]) none := by
  cases s with
  | long lo hi =>
    cases hi with
    | none => cases h
    | some hh =>
      have h : none = if v.length ≤ hh then some (S.n v.length) else none := h
      split at h
      · cases h
      · show none = if (v ++ [c]).length ≤ hh then _ else none
        rw [List.length_append, List.length_singleton, if_neg (by omega)]
  | least a m => cases h
  | often own m =>
    have h : none = if ∀ c ∈ cs own, cnt v c ≤ m then some (S.c ((cs own).map (cnt v))) else none := h
    split at h
    · cases h
    · rename_i hn
      show none = if ∀ b ∈ cs own, cnt (v ++ [c]) b ≤ m then _ else none
      rw [if_neg (fun z => hn fun b hb => ?_)]
      have := z b hb
      rw [cnt_snoc] at this
      omega
  | apart =>
    have h : none = if (dbl v).isEmpty = true then some (S.t v.getLast?) else none := h
    split at h
    · cases h
    · rename_i hn
      show none = if (dbl (v ++ [c])).isEmpty = true then _ else none
      rw [dbl_snoc, if_neg]
      simp only [Bool.and_eq_true]
      exact fun z => hn z.1
  | without own =>
    rw [St_without] at h ⊢
    split at h
    · obtain ⟨k, hk, _⟩ := h; cases hk
    · rename_i hn
      rw [stands_snoc hs, if_neg]
      simp only [Bool.and_eq_true]
      exact fun z => hn z.1
  | begins own =>
    have hl : (cs own).length = own.length := len_toList own
    have h : none = if v.take own.length = (cs own).take v.length then some (S.n (min v.length own.length)) else none := h
    split at h
    · cases h
    · rename_i hn
      show none = if (v ++ [c]).take own.length = (cs own).take (v ++ [c]).length then _ else none
      rw [if_neg]
      intro z
      apply hn
      have := congrArg (List.take v.length) z
      rw [List.length_append, List.take_take, List.take_take, Nat.min_eq_left (by omega : v.length ≤ v.length + [c].length)] at this
      rw [← this]
      by_cases e : own.length ≤ v.length
      · rw [Nat.min_eq_right e, List.take_append_of_le_length e]
      · rw [Nat.min_eq_left (by omega), List.take_left, List.take_of_length_le (by omega)]
  | ends own => obtain ⟨k, hk, _⟩ := h; cases hk
  | _ => exact hs.elim
end A_k53
namespace A_k53
open PySem L2 AL
/-- what is kept behind a word, from a state on -/
def runS (tg : List Str) (s : Sent) : Option S → List Nat → Option S
  | o, [] => o
  | none, _ :: _ => none
  | some st, c :: v => runS tg s (kept tg s st c) v
theorem runS_none (tg : List Str) (s : Sent) : ∀ v, runS tg s none v = none
  | [] => rfl
  | _ :: _ => rfl
theorem runS_snoc (tg : List Str) (s : Sent) : ∀ (v : List Nat) (o : Option S) (c : Nat), runS tg s o (v ++ [c]) = (runS tg s o v).bind fun st => kept tg s st c
  | [], none, c => rfl
  | [], some st, c => rfl
  | a :: v, none, c => by rw [runS_none, runS_none]; rfl
  | a :: v, some st, c => runS_snoc tg s v (kept tg s st a) c
theorem St.run (tg : List Str) {s : Sent} (hs : Pln s) (v : List Nat) : St tg s v (runS tg s (some (A_k53.first s)) v) := by
  have key : ∀ r : List Nat, St tg s r.reverse (runS tg s (some (A_k53.first s)) r.reverse) := fun r => by
    induction r with
    | nil => exact St.first tg hs
    | cons c r ih =>
      rw [List.reverse_cons, runS_snoc]
      cases e : runS tg s (some (A_k53.first s)) r.reverse with
      | none => rw [e] at ih; exact ih.stop tg hs c
      | some st => rw [e] at ih; exact ih.step tg hs c
  have := key v.reverse
  rwa [List.reverse_reverse] at this
/-- what can be kept -/
def Val (tg : List Str) : Sent → S → Prop
  | .long lo none, .n k => k ≤ lo
  | .long _ (some h), .n k => k ≤ h
  | .least _ m, .n k => k ≤ m
  | .often own m, .c l => l.length = own.length ∧ ∀ x ∈ l, x ≤ m
  | .apart, .t o => ∀ c, o = some c → c ∈ zs tg
  | .without own, .n k => k < own.length
  | .begins own, .n k => k ≤ own.length
  | .ends own, .n k => k ≤ own.length
  | _, _ => False
theorem Val.step (tg : List Str) {s : Sent} (hs : Pln s) {st st' : S} (h : Val tg s st) {c : Nat} (hc : c ∈ zs tg) (e : kept tg s st c = some st') : Val tg s st' := by
  cases s with
  | long lo hi =>
    cases hi with
    | none =>
      cases st with
      | n k => cases e; show min lo (k + 1) ≤ lo; omega
      | _ => exact h.elim
    | some hh =>
      cases st with
      | n k =>
        have h : k ≤ hh := h
        have e : (if k = hh then none else some (S.n (k + 1))) = some st' := e
        split at e
        · cases e
        · cases e; show k + 1 ≤ hh; omega
      | _ => exact h.elim
  | least a m =>
    cases st with
    | n k => cases e; show min m _ ≤ m; omega
    | _ => exact h.elim
  | often own m =>
    cases st with
    | c l =>
      obtain ⟨h1, h2⟩ := h
      have e : (if ((l.zip (cs own)).map (fun p => p.1 + if p.2 = c then 1 else 0)).all (fun x => decide (x ≤ m)) = true then some (S.c ((l.zip (cs own)).map fun p => p.1 + if p.2 = c then 1 else 0)) else none) = some st' := e
      split at e
      · rename_i ha
        cases e
        refine ⟨by rw [List.length_map, List.length_zip, h1, len_toList, Nat.min_self], fun x hx => of_decide_eq_true (List.all_eq_true.mp ha x hx)⟩
      · cases e
    | _ => exact h.elim
  | apart =>
    cases st with
    | t o =>
      have e : (if o = some c then none else some (S.t (some c))) = some st' := e
      split at e
      · cases e
      · cases e; exact fun b hb => by cases hb; exact hc
    | _ => exact h.elim
  | without own =>
    have hl : (cs own).length = own.length := len_toList own
    cases st with
    | n k =>
      rw [kept_without] at e
      split at e
      · cases e
      · rename_i hn
        cases e
        show _ < own.length
        have := tae_le (cs own) ((cs own).take k ++ [c]) (min (k + 1) own.length)
        omega
    | _ => exact h.elim
  | begins own =>
    have hl : (cs own).length = own.length := len_toList own
    cases st with
    | n k =>
      have h : k ≤ own.length := h
      have e : (if k = own.length then some (S.n k) else if (cs own)[k]? = some c then some (S.n (k + 1)) else none) = some st' := e
      split at e
      · cases e; exact h
      · split at e
        · cases e; show k + 1 ≤ own.length; omega
        · cases e
    | _ => exact h.elim
  | ends own =>
    cases st with
    | n k =>
      cases e
      show _ ≤ own.length
      have := tae_le (cs own) ((cs own).take k ++ [c]) (min (k + 1) own.length)
      omega
    | _ => exact h.elim
  | _ => exact hs.elim
end A_k53
namespace A_k53
open PySem L2 AL
abbrev ones (l : List Nat) : List Str := l.map fun c => ⟨#[c]⟩
structure Tng (tg : List Str) : Prop where
  pos : 1 ≤ tg.length
  most : tg.length ≤ 4
  one : ∀ y ∈ tg, 1 ≤ y.length
  few : (zs tg).length ≤ 12
  nd : (zs tg).Nodup
  asc : ∀ c ∈ zs tg, c < 128
theorem zs_eq (tg : List Str) : zs tg = (tg.map cs).flatten := join_toList tg
theorem cs_ones (l : List Nat) : cs (Txt.join "" (ones l)) = l := by
  unfold cs
  rw [join_toList, List.map_map]
  induction l with
  | nil => rfl
  | cons a l ih => rw [List.map_cons, List.flatten_cons, ih]; rfl
theorem ones_len (l : List Nat) : ((ones l).map (·.length)).sum = l.length := by
  induction l with
  | nil => rfl
  | cons a l ih => rw [ones, List.map_cons, List.map_cons, List.sum_cons, ih, List.length_cons]; show 1 + _ = _; omega
def ink : Str := "!\"#$&'()*+,-./0123456789:;<=>?\x40ABCDEFGHIJKLMNOPQRSTUVWXYZ[\\]^_" ++ "`abcdefghijklmnopqrstuvwxyz{|}~"
theorem ink_ok : ((cs ink).length = 93 ∧ (cs ink).Nodup ∧ ∀ c ∈ cs ink, c < 128) := by decide +kernel
section
variable {C : AH} {P : D → AH → Prop}
theorem lsigns_ok (k : P (.str ink) C) : s_law_signs [] C P := by
  unfold s_law_signs a_law_signs
  walk_at "go"
  refine g_addS (by decide +kernel) ?_
  exact k
theorem erase_onesP (l : List Nat) : ∀ i, (ones l).eraseIdx i = ones (l.eraseIdx i) := by
  induction l with
  | nil => intro i; rfl
  | cons a l ih =>
    intro i
    cases i with
    | zero => rfl
    | succ i =>
      show _ :: (ones l).eraseIdx i = _
      rw [ih]
      rfl
theorem erase_perm : ∀ (ys : List Nat) (j : Nat) (h : j < ys.length), (ys[j] :: ys.eraseIdx j).Perm ys
  | y :: ys, 0, _ => List.Perm.refl _
  | y :: ys, j + 1, h => by
    have hj : j < ys.length := by simpa using h
    exact (List.Perm.swap y ys[j] (ys.eraseIdx j)).trans ((erase_perm ys j hj).cons y)
theorem g_popN {p : Addr} {l : List Nat} {i : Nat} (h1 : C p = some (.lst (strsL (ones l)))) (hi : i < l.length) (h64 : l.length < 2 ^ 62) (h : P (.str ⟨#[l[i]]⟩) (put C p (.lst (strsL (ones (l.eraseIdx i)))))) : aPopAt (.ce p) [.int (i : Int)] C P := by
  refine g_popS h1 (by rw [List.length_map]; exact hi) (by rw [List.length_map]; exact h64) ?_
  have e : (ones l).eraseIdx i = ones (l.eraseIdx i) := erase_onesP l i
  rw [e, List.getElem_map]
  exact h
theorem tongue_ok {p : Addr} {m : Nat} (hp : Pen C p) (h1 : 1 ≤ m) (hm : m ≤ 12) (k : ∀ tg C', Tng tg → Pen C' p → Oth p C C' → P (.tup (strsL tg)) C') : s_law_tongue [.ce p, .int m] C P := by
  unfold s_law_tongue a_law_tongue
  obtain ⟨hl, hnd, hasc⟩ := ink_ok
  walk_at "go"
  refine lsigns_ok ?_
  walk_at "go"
  refine g_listSM (by show ink.length ≤ _; rw [← len_toList]; rw [hl]; simp only [sizeLine]; omega) fun q hq => ?_
  rw [signs_chars]
  show _ 
  have hpq : p ≠ q := by obtain ⟨_, h, _⟩ := hp; exact ne_cell h hq
  have hP := hp.other (c := .lst (strsL (ones (cs ink)))) hpq
  have hCq : (put C q (.lst (strsL (ones (cs ink))))) q = some (.lst (strsL (ones (cs ink)))) := put_same
  have hO := (Oth.refl p C).put (c := .lst (strsL (ones (cs ink)))) hq
  rw [show chars ink = ones (cs ink) from rfl]
  generalize cs ink = all at hP hCq hO hl hnd hasc
  generalize put C q (.lst (strsL (ones all))) = C1 at hP hCq hO
  walk_at "go"
  refine take_nat hP (by omega) (by omega) fun c room hc hroom => ?_
  have hpq2 := hpq.symm
  have hP := pen_put (C := C1) (p := p) hc
  have hCq := put_other (d := c) hpq2 hCq
  have hO := hO.pen (c := c)
  generalize put C1 p c = C2 at hP hCq hO
  walk_at "go"
  intro g hg
  have hpg : p ≠ g := by obtain ⟨_, h, _⟩ := hP; exact ne_cell h hg
  have hqg : q ≠ g := ne_cell hCq hg
  have hg0 : C g = none := hO.none hpg.symm hg
  have hq0 : C q = none := hq
  have e1 : (1 : Int) + (room : Int) = ((room + 1 : Nat) : Int) := by omega
  rw [e1]
  have hr12 : room + 1 ≤ 12 := by omega
  have hr1 : 1 ≤ room + 1 := by omega
  generalize room + 1 = room at hr12 hr1
  have hP := hP.other (c := .lst []) hpg
  have hCq := put_other (d := .lst []) hqg hCq
  have hO := hO.put (c := .lst []) hg0
  have hCg : (put C2 g (.lst [])) g = some (.lst (strsL [])) := put_same
  generalize put C2 g (.lst []) = C3 at hP hCq hO hCg
  walk_at "go"
  refine g_while (fun n st C' => ∃ (kinds : List Str) (left : List Nat) (x5 : Option D), kinds.length ≤ 4 ∧ (∀ y ∈ kinds, 1 ≤ y.length) ∧ ((kinds.map cs).flatten ++ left).Perm all ∧ ((kinds.map cs).flatten).length + n = room ∧ (1 ≤ kinds.length ∨ n = room) ∧ C' q = some (.lst (strsL (ones left))) ∧ C' g = some (.lst (strsL kinds)) ∧ Pen C' p ∧ Oth p C C' ∧
    st = [some (.ce p), some (.int m), some (.ce q), some (.int (n : Nat)), some (.ce g), x5, none]) room ⟨[], all, none, by simp, by simp, by simp, by simp, .inr rfl, hCq, hCg, hP, hO, rfl⟩ (fun n st C' hw => ?_)
  obtain ⟨kinds, left, x5, hk4, hk1, hperm, hsum, hne, hCq, hCg, hP, hO, rfl⟩ := hw
  have hll : ((kinds.map cs).flatten).length + left.length = 93 := by rw [← hl, ← hperm.length_eq, List.length_append]
  walk_at "go"
  have hend : (0 < n ∧ kinds.length < 4) ∨ ¬ (0 < n ∧ kinds.length < 4) := Classical.em _
  rcases hend with ⟨hn, hk⟩ | hno
  · rw [decide_eq_true (show (0 : Int) < (n : Int) by omega), if_pos rfl]
    walk_at "go"
    rw [List.length_map, decide_eq_true (show ((kinds.length : Nat) : Int) < 4 by omega), if_pos rfl]
    walk_at "go"
    obtain ⟨mo, hmo1, hmo2, emo⟩ : ∃ mo : Nat, 1 ≤ mo ∧ mo ≤ n ∧ (if (n : Int) < 6 then (n : Int) else 6) = (mo : Int) := by
      refine ⟨min 6 n, by omega, by omega, ?_⟩
      split <;> omega
    rw [emo]
    refine take_nat hP (by omega) (by omega) fun c sz hc hsz => ?_
    have hP := pen_put (C := C') (p := p) hc
    have hCq := put_other (d := c) hpq2 hCq
    have hCg := put_other (d := c) hpg.symm hCg
    have hO := hO.pen (c := c)
    generalize put C' p c = C2 at hP hCq hCg hO
    walk_at "go"
    rw [show (1 : Int) + (sz : Int) = ((sz + 1 : Nat) : Int) by omega]
    have hsz1 : 1 ≤ sz + 1 := by omega
    have hszn : sz + 1 ≤ n := by omega
    generalize sz + 1 = sz at hsz1 hszn
    have hrl : (rangeD 0 (sz : Int).toNat).length = sz := by rw [rangeD_len]; rfl
    refine g_kLc (fun i acc C9 => ∃ (xs ys : List Nat), acc = strsL (ones xs) ∧ xs.length = i ∧ (xs ++ ys).Perm left ∧ C9 q = some (.lst (strsL (ones ys))) ∧ C9 g = some (.lst (strsL kinds)) ∧ Pen C9 p ∧ Oth p C C9) (by rw [hrl]; simp only [sizeLine]; omega) ⟨[], left, rfl, rfl, List.Perm.refl _, hCq, hCg, hP, hO⟩ (fun i d acc C9 hi hw => ?_) (fun acc C9 hw => ?_)
    · have hi12 : i < sz := by have := (List.getElem?_eq_some_iff.mp hi).1; rw [hrl] at this; exact this
      obtain ⟨xs, ys, rfl, hxl, hp9, hCq, hCg, hP, hO⟩ := hw
      have hyl := hp9.length_eq
      rw [List.length_append] at hyl
      walk_at "go"
      rw [List.length_map, List.length_map]
      refine take_nat hP (by omega) (by omega) fun c j hc hj => ?_
      walk_at "go"
      refine g_popN (put_other hpq2 hCq) hj (by omega) ?_
      refine ⟨xs ++ [ys[j]], ys.eraseIdx j, by simp [ones], by simp [hxl], ?_, put_same, put_other hqg.symm (put_other hpg.symm hCg), (pen_put hc).other hpq, hO.pen.put hq0⟩
      refine List.Perm.trans ?_ hp9
      rw [List.append_assoc]
      exact List.Perm.append_left xs (erase_perm ys j hj)
    · obtain ⟨xs, ys, rfl, hxl, hp9, hCq, hCg, hP, hO⟩ := hw
      rw [hrl] at hxl
      walk_at "go"
      refine g_joinE (by rw [ones_len]; omega) ?_
      walk_at "go"
      refine g_append hCg (by rw [List.length_map]; simp only [sizeLine]; omega) ?_
      walk_at "go"
      have hcs := cs_ones xs
      refine ⟨n - sz, by omega, kinds ++ [Txt.join "" (ones xs)], ys, some (.int (sz : Nat)), by rw [List.length_append, List.length_singleton]; omega, fun y hy => ?_, ?_, ?_, .inl (by rw [List.length_append, List.length_singleton]; omega), put_other hqg hCq, ?_, hP.other hpg, hO.put hg0, ?_⟩
      · rcases List.mem_append.mp hy with h | h
        · exact hk1 y h
        · rw [List.mem_singleton.mp h, ← len_toList]
          show 1 ≤ (cs _).length
          rw [hcs]; omega
      · refine List.Perm.trans ?_ hperm
        rw [List.map_append, List.flatten_append, List.append_assoc]
        refine List.Perm.append_left _ ?_
        simp only [List.map_cons, List.map_nil, List.flatten_cons, List.flatten_nil, List.append_nil]
        rw [hcs]
        exact hp9
      · rw [List.map_append, List.flatten_append, List.length_append]
        simp only [List.map_cons, List.map_nil, List.flatten_cons, List.flatten_nil, List.append_nil]
        rw [hcs]
        omega
      · rw [put_same]; simp [strsL]
      · rw [show (n : Int) - (sz : Int) = ((n - sz : Nat) : Int) by omega]
  · have hnd2 : ((kinds.map cs).flatten ++ left).Nodup := hperm.nodup_iff.mpr hnd
    have hT : 1 ≤ kinds.length → Tng kinds := fun h => ⟨h, hk4, hk1, by rw [zs_eq]; omega, by rw [zs_eq]; exact (List.nodup_append.mp hnd2).1, fun c hc => by
      rw [zs_eq] at hc
      exact hasc c (hperm.mem_iff.mp (List.mem_append_left _ hc))⟩
    by_cases hn : 0 < n
    · rw [decide_eq_true (show (0 : Int) < (n : Int) by omega), if_pos rfl]
      walk_at "go"
      rw [List.length_map, decide_eq_false (show ¬ ((kinds.length : Nat) : Int) < 4 by omega), if_neg Bool.false_ne_true]
      walk_at "go"
      exact k kinds _ (hT (by omega)) (hP.otherD hpg) (hO.del hg0)
    · rw [decide_eq_false (show ¬ (0 : Int) < (n : Int) by omega), if_neg Bool.false_ne_true, if_neg Bool.false_ne_true]
      walk_at "go"
      exact k kinds _ (hT (by omega)) (hP.otherD hpg) (hO.del hg0)
end
end A_k53
namespace A_k53
open PySem L2 AL
def In (tg : List Str) (w : Str) : Prop := ∀ c ∈ cs w, c ∈ zs tg
/-- a sentence without parts, of a tongue -/
def Lf (tg : List Str) : Sent → Prop
  | .long lo hi => lo ≤ 590 ∧ ∀ h, hi = some h → lo ≤ h ∧ h ≤ 590
  | .least k m => k < tg.length ∧ m ≤ 590
  | .often own m => 1 ≤ own.length ∧ own.length ≤ 4 ∧ In tg own ∧ m ≤ 3
  | .apart => True
  | .without own => 1 ≤ own.length ∧ own.length ≤ 590 ∧ In tg own
  | .begins own => 1 ≤ own.length ∧ own.length ≤ 590 ∧ In tg own
  | .ends own => 1 ≤ own.length ∧ own.length ≤ 590 ∧ In tg own
  | _ => False
theorem zT_len (tg : List Str) : (Txt.join "" tg).length = (zs tg).length := (len_toList _).symm
theorem Tng.sum {tg : List Str} (T : Tng tg) : (tg.map (·.length)).sum ≤ 12 := by
  have := T.few
  rw [← zT_len, show (Txt.join "" tg).length = _ from join_len tg] at this
  exact this
theorem Tng.zpos {tg : List Str} (T : Tng tg) : 1 ≤ (zs tg).length := by
  have h1 := T.pos
  cases tg with
  | nil => simp at h1
  | cons y ys =>
    have := T.one y (List.mem_cons_self ..)
    rw [zs_eq, List.map_cons, List.flatten_cons, List.length_append]
    have e : (cs y).length = y.length := len_toList y
    omega
theorem Tng.ok {tg : List Str} (T : Tng tg) {w : Str} (h : In tg w) : okS w := fun c hc => by have := T.asc c (h c hc); omega
section
variable {C : AH} {P : D → AH → Prop}
theorem g_ixSc {z : Str} {i c : Nat} (hl : z.length ≤ 10000) (h : (cs z)[i]? = some c) (k : P (.str ⟨#[c]⟩) C) : aIx (.str z) (.int (i : Int)) C P := by
  show z.length ≤ sizeLine ∧ (match atI z.cps.toList (i : Int) with | some c => P (.str ⟨#[c]⟩) C | none => False)
  refine ⟨by simp only [sizeLine]; omega, ?_⟩
  rw [atI_nat' h]
  exact k
theorem lword_ok {p : Addr} {tg : List Str} {m : Nat} (hp : Pen C p) (T : Tng tg) (hm : m ≤ 1000) (k : ∀ w C', In tg w → w.length = m → Pen C' p → Oth p C C' → P (.str w) C') : s_law_word [.ce p, .tup (strsL tg), .int m] C P := by
  unfold s_law_word a_law_word
  have h1 := T.zpos
  have h2 := T.few
  have hzl := zT_len tg
  walk_at "go"
  refine g_joinET (by have := T.sum; omega) ?_
  walk_at "go"
  refine take_nat (m := 3) hp (by omega) (by omega) fun c n hc hn => ?_
  have hP := pen_put (C := C) (p := p) hc
  have hO := (Oth.refl p C).pen (c := c)
  generalize put C p c = C1 at hP hO
  walk_at "go"
  rw [show (1 : Int) + (n : Int) = ((n + 1 : Nat) : Int) by omega]
  have hn1 : 1 ≤ n + 1 := by omega
  have hn3 : n + 1 ≤ 3 := by omega
  generalize n + 1 = n at hn1 hn3
  have hrl : (rangeD 0 (n : Int).toNat).length = n := by rw [rangeD_len]; rfl
  refine g_kLc (fun i acc C9 => ∃ (xs : List Nat), acc = strsL (ones xs) ∧ xs.length = i ∧ (∀ c ∈ xs, c ∈ zs tg) ∧ Pen C9 p ∧ Oth p C C9) (by rw [hrl]; simp only [sizeLine]; omega) ⟨[], rfl, rfl, by simp, hP, hO⟩ (fun i d acc C9 hi hw => ?_) (fun acc C9 hw => ?_)
  · obtain ⟨xs, rfl, hxl, hx, hP, hO⟩ := hw
    walk_at "go"
    refine g_lenS (by simp only [sizeLine]; omega) ?_
    walk_at "go"
    refine take_nat hP (by omega) (by omega) fun c j hc hj => ?_
    have hjz : j < (zs tg).length := by omega
    refine g_ixSc (c := (zs tg)[j]) (by omega) (List.getElem?_eq_getElem hjz) ?_
    refine ⟨xs ++ [(zs tg)[j]], by simp [strsL, ones], by simp [hxl], fun c hc => ?_, pen_put hc, hO.pen⟩
    rcases List.mem_append.mp hc with h | h
    · exact hx c h
    · rw [List.mem_singleton.mp h]; exact List.getElem_mem hjz
  obtain ⟨few, rfl, hfl, hf, hP, hO⟩ := hw
  rw [hrl] at hfl
  walk_at "go"
  have hrl : (rangeD 0 (m : Int).toNat).length = m := by rw [rangeD_len]; rfl
  refine g_kLc (fun i acc C9 => ∃ (xs : List Nat), acc = strsL (ones xs) ∧ xs.length = i ∧ (∀ c ∈ xs, c ∈ zs tg) ∧ Pen C9 p ∧ Oth p C C9) (by rw [hrl]; simp only [sizeLine]; omega) ⟨[], rfl, rfl, by simp, hP, hO⟩ (fun i d acc C9 hi hw => ?_) (fun acc C9 hw => ?_)
  · obtain ⟨xs, rfl, hxl, hx, hP, hO⟩ := hw
    walk_at "go"
    rw [List.length_map, List.length_map]
    refine take_nat hP (by omega) (by omega) fun c j hc hj => ?_
    have hjz : j < few.length := by omega
    refine g_ixL (d := .str ⟨#[few[j]]⟩) (atI_nat' (by rw [List.getElem?_map, List.getElem?_map, List.getElem?_eq_getElem hjz]; rfl)) ?_
    refine ⟨xs ++ [few[j]], by simp [strsL, ones], by simp [hxl], fun c hc => ?_, pen_put hc, hO.pen⟩
    rcases List.mem_append.mp hc with h | h
    · exact hx c h
    · rw [List.mem_singleton.mp h]; exact hf _ (List.getElem_mem hjz)
  obtain ⟨xs, rfl, hxl, hx, hP, hO⟩ := hw
  rw [hrl] at hxl
  walk_at "go"
  refine g_joinE (by rw [ones_len]; omega) ?_
  refine k _ _ (fun c hc => ?_) ?_ hP hO
  · rw [cs_ones] at hc; exact hx c hc
  · rw [← len_toList]
    show (cs _).length = m
    rw [cs_ones]; exact hxl
theorem lplain_ok {p : Addr} {tg : List Str} {g : Nat} (hp : Pen C p) (T : Tng tg) (hg : g ≤ 1) (k : ∀ s C', Lf tg s → Pen C' p → Oth p C C' → P (tree s) C') : s_law_plain [.ce p, .tup (strsL tg), .int g] C P := by
  unfold s_law_plain a_law_plain
  have h1 := T.zpos
  have h2 := T.few
  have hzl := zT_len tg
  have ht1 := T.pos
  have ht4 := T.most
  have two : ∀ (a b : Nat) (Q : D → AH → Prop) (C : AH), (∀ x : Nat, (x = a ∨ x = b) → Q (.int x) C) → aIx (.lst [.int a, .int b]) (.int (g : Nat)) C Q := by
    intro a b Q C h
    have : g = 0 ∨ g = 1 := by omega
    rcases this with rfl | rfl
    · exact g_ixL (d := .int (a : Nat)) rfl (h a (.inl rfl))
    · exact g_ixL (d := .int (b : Nat)) rfl (h b (.inr rfl))
  walk_at "go"
  refine take_nat (m := 7) hp (by omega) (by omega) fun c way hc hway => ?_
  have hP := pen_put (C := C) (p := p) hc
  have hO := (Oth.refl p C).pen (c := c)
  generalize put C p c = C1 at hP hO
  walk_at "go"
  refine g_ifS ?_
  walk_at "go"
  refine g_iteD (fun h0 => ?_) (fun h0 => ?_)
  · walk_at "go"
    refine two 4 31 _ _ fun x hx => ?_
    walk_at "go"
    refine take_nat hP (by omega) (by omega) fun c lo hc hlo => ?_
    have hP := pen_put (C := C1) (p := p) hc
    have hO := hO.pen (c := c)
    generalize put C1 p c = C2 at hP hO
    walk_at "go"
    have hlo30 : lo ≤ 30 := by omega
    rw [show (31 : Int) - (lo : Int) = ((31 - lo : Nat) : Int) by omega]
    refine two 4 (31 - lo) _ _ fun y hy => ?_
    walk_at "go"
    refine take_nat hP (by omega) (by omega) fun c d hc hd => ?_
    have hP := pen_put (C := C2) (p := p) hc
    have hO := hO.pen (c := c)
    generalize put C2 p c = C3 at hP hO
    walk_at "go"
    obtain ⟨hi, hhi1, hhi2, ehi⟩ : ∃ hi : Nat, lo ≤ hi ∧ hi ≤ 30 ∧ (if (lo : Int) + (d : Int) < 30 then (lo : Int) + (d : Int) else 30) = (hi : Int) := by
      refine ⟨min 30 (lo + d), by omega, by omega, ?_⟩
      split <;> omega
    rw [ehi]
    walk_at "go"
    refine take_nat (m := 4) hP (by omega) (by omega) fun c b hc hb => ?_
    have hP := pen_put (C := C3) (p := p) hc
    have hO := hO.pen (c := c)
    generalize put C3 p c = C4 at hP hO
    obtain ⟨o, eo, ho⟩ : ∃ o : Option Nat, atI [D.int (hi : Nat), .non, .int (lo : Nat), .int (hi : Nat)] (b : Int) = some (oD o) ∧ ∀ h, o = some h → lo ≤ h ∧ h ≤ 590 := by
      have : b = 0 ∨ b = 1 ∨ b = 2 ∨ b = 3 := by omega
      rcases this with rfl | rfl | rfl | rfl
      · exact ⟨some hi, rfl, fun h e => by cases e; omega⟩
      · exact ⟨none, rfl, fun h e => by cases e⟩
      · exact ⟨some lo, rfl, fun h e => by cases e; omega⟩
      · exact ⟨some hi, rfl, fun h e => by cases e; omega⟩
    refine g_ixL eo ?_
    walk_at "go"
    exact k (.long lo o) _ ⟨by omega, ho⟩ hP hO
  walk_at "go"
  refine g_ifS ?_
  walk_at "go"
  refine g_iteD (fun h0 => ?_) (fun h0 => ?_)
  · walk_at "go"
    rw [List.length_map]
    refine take_nat hP (by omega) (by omega) fun c a hc ha => ?_
    have hP := pen_put (C := C1) (p := p) hc
    have hO := hO.pen (c := c)
    generalize put C1 p c = C2 at hP hO
    walk_at "go"
    refine two 3 10 _ _ fun x hx => ?_
    walk_at "go"
    refine take_nat hP (by omega) (by omega) fun c m hc hm => ?_
    walk_at "go"
    exact k (.least a m) _ ⟨ha, by omega⟩ (pen_put hc) hO.pen
  walk_at "go"
  refine g_ifS ?_
  walk_at "go"
  refine g_iteD (fun h0 => ?_) (fun h0 => ?_)
  · walk_at "go"
    refine g_joinET (by have := T.sum; omega) ?_
    walk_at "go"
    refine g_listSM (by show (Txt.join "" tg).length ≤ sizeLine; simp only [sizeLine]; omega) fun q hq => ?_
    have hpq : p ≠ q := by obtain ⟨_, h, _⟩ := hP; exact ne_cell h hq
    rw [signs_chars]
    rw [show chars (Txt.join "" tg) = ones (zs tg) from rfl]
    have hP := hP.other (c := .lst (strsL (ones (zs tg)))) hpq
    have hq0 : C q = none := hO.none hpq.symm hq
    have hO := hO.put (c := .lst (strsL (ones (zs tg)))) hq0
    have hCq : (put C1 q (.lst (strsL (ones (zs tg))))) q = some (.lst (strsL (ones (zs tg)))) := put_same
    generalize put C1 q (.lst (strsL (ones (zs tg)))) = C5 at hP hCq hO
    walk_at "go"
    refine two 2 4 _ _ fun x hx => ?_
    walk_at "go"
    rw [List.length_map, List.length_map]
    obtain ⟨mo, hmo1, hmo2, hmo3, emo⟩ : ∃ mo : Nat, 1 ≤ mo ∧ mo ≤ 4 ∧ mo ≤ (zs tg).length ∧ (if ((zs tg).length : Int) < (x : Int) then ((zs tg).length : Int) else (x : Int)) = (mo : Int) := by
      refine ⟨min x (zs tg).length, by omega, by omega, by omega, ?_⟩
      split <;> omega
    rw [emo]
    refine take_nat hP (by omega) (by omega) fun c sz hc hsz => ?_
    have hP := pen_put (C := C5) (p := p) hc
    have hCq := put_other (d := c) hpq.symm hCq
    have hO := hO.pen (c := c)
    generalize put C5 p c = C6 at hP hCq hO
    walk_at "go"
    rw [show (1 : Int) + (sz : Int) = ((sz + 1 : Nat) : Int) by omega]
    have hsz1 : 1 ≤ sz + 1 := by omega
    have hsz4 : sz + 1 ≤ 4 := by omega
    have hszn : sz + 1 ≤ (zs tg).length := by omega
    generalize sz + 1 = sz at hsz1 hszn hsz4
    walk_at "go"
    have hrl : (rangeD 0 (sz : Int).toNat).length = sz := by rw [rangeD_len]; rfl
    refine g_kLc (fun i acc C9 => ∃ (xs ys : List Nat), acc = strsL (ones xs) ∧ xs.length = i ∧ (xs ++ ys).Perm (zs tg) ∧ C9 q = some (.lst (strsL (ones ys))) ∧ Pen C9 p ∧ Oth p C C9) (by rw [hrl]; simp only [sizeLine]; omega) ⟨[], zs tg, rfl, rfl, List.Perm.refl _, hCq, hP, hO⟩ (fun i d acc C9 hi hw => ?_) (fun acc C9 hw => ?_)
    · have hi12 : i < sz := by have := (List.getElem?_eq_some_iff.mp hi).1; rw [hrl] at this; exact this
      obtain ⟨xs, ys, rfl, hxl, hp9, hCq, hP, hO⟩ := hw
      have hyl := hp9.length_eq
      rw [List.length_append] at hyl
      walk_at "go"
      rw [List.length_map, List.length_map]
      refine take_nat hP (by omega) (by omega) fun c j hc hj => ?_
      walk_at "go"
      refine g_popN (put_other hpq.symm hCq) hj (by omega) ?_
      refine ⟨xs ++ [ys[j]], ys.eraseIdx j, by simp [ones], by simp [hxl], ?_, put_same, (pen_put hc).other hpq, hO.pen.put hq0⟩
      refine List.Perm.trans ?_ hp9
      rw [List.append_assoc]
      exact List.Perm.append_left xs (erase_perm ys j hj)
    · obtain ⟨xs, ys, rfl, hxl, hp9, hCq, hP, hO⟩ := hw
      rw [hrl] at hxl
      walk_at "go"
      refine g_joinE (by rw [ones_len]; omega) ?_
      walk_at "go"
      refine two 2 4 _ _ fun x hx => ?_
      walk_at "go"
      refine take_nat hP (by omega) (by omega) fun c m hc hm => ?_
      walk_at "go"
      have hcs := cs_ones xs
      have hl : (Txt.join "" (ones xs)).length = xs.length := by rw [← len_toList]; show (cs _).length = _; rw [hcs]
      refine k (.often _ m) _ ⟨by omega, by omega, fun c hc => ?_, by omega⟩ (pen_put hc) hO.pen
      rw [hcs] at hc
      exact hp9.mem_iff.mp (List.mem_append_left _ hc)
  walk_at "go"
  refine g_ifS ?_
  walk_at "go"
  refine g_iteD (fun h0 => ?_) (fun h0 => ?_)
  · walk_at "go"
    exact k .apart _ trivial hP hO
  walk_at "go"
  have hwy : ∃ x : Str, atI [D.str "without", D.str "begins", D.str "ends"] ((way : Int) - 4) = some (.str x) ∧ (x = "without" ∨ x = "begins" ∨ x = "ends") := by
    have : way = 4 ∨ way = 5 ∨ way = 6 := by omega
    rcases this with rfl | rfl | rfl
    · exact ⟨"without", rfl, .inl rfl⟩
    · exact ⟨"begins", rfl, .inr (.inl rfl)⟩
    · exact ⟨"ends", rfl, .inr (.inr rfl)⟩
  obtain ⟨x, hx, hxx⟩ := hwy
  refine g_ixL hx ?_
  walk_at "go"
  refine two 3 6 _ _ fun y hy => ?_
  walk_at "go"
  refine take_nat hP (by omega) (by omega) fun c d hc hd => ?_
  have hP := pen_put (C := C1) (p := p) hc
  have hO := hO.pen (c := c)
  generalize put C1 p c = C2 at hP hO
  walk_at "go"
  rw [show (1 : Int) + (d : Int) = ((1 + d : Nat) : Int) by omega]
  refine lword_ok hP T (by omega) fun w C3 hwi hwl hP hO3 => ?_
  walk_at "go"
  have ho : 1 ≤ w.length ∧ w.length ≤ 590 ∧ In tg w := ⟨by omega, by omega, hwi⟩
  rcases hxx with rfl | rfl | rfl
  · exact k (.without w) _ ho hP (hO.trans hO3)
  · exact k (.begins w) _ ho hP (hO.trans hO3)
  · exact k (.ends w) _ ho hP (hO.trans hO3)
end
end A_k53
namespace A_k53
open PySem L2 AL
theorem in_one (c : Nat) (z : Str) : (!(Builtin.Str.occurrences z ⟨#[c]⟩ 0 z.length 1).isEmpty) = decide (c ∈ z.cps.toList) := PySem.StrLaws.found_one ..
theorem filter_take (p : Nat → Bool) (l : List Nat) (i : Nat) (c : Nat) (h : l[i]? = some c) : (l.take (i + 1)).filter p = (l.take i).filter p ++ (if p c then [c] else []) := by
  rw [List.take_add_one, h, List.filter_append]
  cases q : p c <;> simp [q]
theorem signs_at {z : Str} {i : Nat} {d : D} (h : (signs z)[i]? = some d) : ∃ c, (cs z)[i]? = some c ∧ d = .str ⟨#[c]⟩ := by
  unfold signs at h
  rw [List.getElem?_map] at h
  cases e : z.cps.toList[i]? with
  | none => rw [e] at h; cases h
  | some c => rw [e] at h; cases h; exact ⟨c, rfl, rfl⟩
theorem cs_add (x y : Str) : cs (x ++ y) = cs x ++ cs y := TL.tl_append x y
theorem signs_size (z : Str) : (signs z).length = z.length := by unfold signs; rw [List.length_map, len_toList]
section
variable {C : AH} {P : D → AH → Prop}
theorem g_cutT' {us : List D} {lo hi : Option Int} (k : P (.tup (cutD us lo hi)) C) : aCut (.tup us) lo hi C P := k
end
end A_k53
namespace A_k53
open PySem L2 AL
section
variable {C : AH} {P : D → AH → Prop}
theorem signs_of_ok {tg : List Str} (T : Tng tg) (k : P (.str (Txt.join "" tg)) C) : s_signs_of [.tup (strsL tg)] C P := by
  unfold s_signs_of a_signs_of
  walk_at "go"
  exact g_joinET (by have := T.sum; omega) k
theorem cutS_l (x : Str) (lo hi : Option Int) : (cutS x lo hi).cps.toList = (x.cps.toList.drop (HT.sIx x.length 0 lo)).take (HT.sIx x.length x.length hi - HT.sIx x.length 0 lo) := rfl
theorem cutS_take (x : Str) (j : Nat) : cs (cutS x none (some (j : Int))) = (cs x).take j := by
  unfold cs
  rw [cutS_l, HT.sIx_nat]
  rw [show HT.sIx x.length 0 none = 0 from rfl, List.drop_zero, Nat.sub_zero, ← AL.len_toList]
  by_cases h : j ≤ x.cps.toList.length
  · rw [Nat.min_eq_left h]
  · rw [Nat.min_eq_right (by omega), List.take_of_length_le (Nat.le_refl _), List.take_of_length_le (by omega)]
theorem csl (z : Str) : (cs z).length = z.length := len_toList z
theorem g_maxX {d : D} {L : List Nat} (h : asLr C d = some (natsD L)) (hl : 0 < L.length) (k : ∀ m, m ∈ L → (∀ y ∈ L, y ≤ m) → P (.int (m : Nat)) C) : aMaxL [d] C P := by
  refine ⟨natsD L, L.map fun (n : Nat) => (n : Int), h, by unfold natsD; rw [List.map_map]; rfl, by rw [List.length_map]; exact hl, fun m hm hmax => ?_⟩
  obtain ⟨n, hn, rfl⟩ := List.mem_map.mp hm
  refine k n hn fun y hy => ?_
  have := hmax y (List.mem_map.mpr ⟨y, hy, rfl⟩)
  omega
end
end A_k53
namespace A_k53
open PySem L2 AL
section
variable {C : AH} {P : D → AH → Prop}
theorem g_inB {x : Str} {ds : List D} {us : List V} {b : Bool} (h2 : toVs ds = some us) (hx : inV (.str x) us = b) (k : P (.bl b) C) : aInL (.str x) (.tup ds) C P := by
  refine g_in rfl h2 ?_
  rw [if_neg (by decide), hx]
  exact k
theorem one_eq (a b : Nat) : decide ((⟨#[a]⟩ : Str) = ⟨#[b]⟩) = decide (a = b) := by
  by_cases q : a = b
  · rw [q, decide_eq_true rfl, decide_eq_true rfl]
  · rw [decide_eq_false q, decide_eq_false (fun z => q (by cases z; rfl))]
end
end A_k53
namespace A_k53
open PySem L2 AL
/-- a sentence's weight -/
def wt (tg : List Str) : Sent → Nat
  | .long lo none => lo + 1
  | .long _ (some h) => h + 2
  | .least _ m => m + 1
  | .often own m => (m + 1) ^ own.length + 1
  | .apart => (zs tg).length + 2
  | .without own => own.length + 1
  | .begins own => own.length + 2
  | .ends own => own.length + 1
  | .no s => wt tg s
  | .both s t => wt tg s * wt tg t
  | .either s t => wt tg s * wt tg t
theorem Lf.wt {tg : List Str} (T : Tng tg) {s : Sent} (h : Lf tg s) : wt tg s ≤ 600 := by
  have h12 := T.few
  cases s with
  | long lo hi =>
    cases hi with
    | none => have := h.1; show lo + 1 ≤ 600; omega
    | some u => have := (h.2 u rfl).2; show u + 2 ≤ 600; omega
  | least a m => have := h.2; show m + 1 ≤ 600; omega
  | often own m =>
    obtain ⟨h1, h2, h3, h4⟩ := h
    show (m + 1) ^ own.length + 1 ≤ 600
    have a1 : (m + 1) ^ own.length ≤ 4 ^ own.length := Nat.pow_le_pow_left (by omega) _
    have a2 : 4 ^ own.length ≤ 4 ^ 4 := Nat.pow_le_pow_right (by omega) h2
    have : (4 : Nat) ^ 4 = 256 := by decide
    omega
  | apart => show (zs tg).length + 2 ≤ 600; omega
  | without own => have := h.2.1; show own.length + 1 ≤ 600; omega
  | begins own => have := h.2.1; show own.length + 2 ≤ 600; omega
  | ends own => have := h.2.1; show own.length + 1 ≤ 600; omega
  | no a => exact h.elim
  | both a b => exact h.elim
  | either a b => exact h.elim
section
variable {C : AH} {P : D → AH → Prop}
theorem pow_small {b n i : Nat} (hb : b ≤ 4) (hn : n ≤ 4) (hi : i ≤ n) : b ^ i ≤ 256 := by
  have a1 : b ^ i ≤ 4 ^ i := Nat.pow_le_pow_left hb _
  have a2 : 4 ^ i ≤ 4 ^ 4 := Nat.pow_le_pow_right (by omega) (by omega)
  have : (4 : Nat) ^ 4 = 256 := by decide
  omega
theorem power_ok {b n : Nat} (hb : b ≤ 4) (hn : n ≤ 4) (k : P (.int ((b ^ n : Nat) : Int)) C) : s_power [.int b, .int n] C P := by
  unfold s_power a_power
  walk_at "go"
  refine g_kForR0 (fun i st C' => ∃ x3, C' = C ∧ st = [some (.int b), some (.int n), some (.int ((b ^ i : Nat) : Int)), x3]) ⟨_, rfl, rfl⟩ (fun i st C' hi hw => ?_) (fun st C' hw => ?_)
  · obtain ⟨x3, rfl, rfl⟩ := hw
    have := pow_small hb hn (show i ≤ n by omega)
    walk_at "go"
    exact ⟨_, rfl, by rw [Nat.pow_succ, Int.natCast_mul]⟩
  · obtain ⟨x3, rfl, rfl⟩ := hw
    walk_at "go"
    exact k
theorem parts_leaf {x : Str} {ds : List D} (hx : inV (.str x) [.str "not", .str "both", .str "either"] = false) (k : P (.lst []) C) : s_parts_of [.tup (.str x :: ds)] C P := by
  unfold s_parts_of a_parts_of
  walk_at "go"
  refine g_ifF (fun K hK => ?_) ?_
  · walk_at "go"
    exact g_inB rfl hx hK
  walk_at "go"
  exact k
theorem parts_node {x : Str} {ds : List D} (hx : inV (.str x) [.str "not", .str "both", .str "either"] = true) (k : P (.lst ds) C) : s_parts_of [.tup (.str x :: ds)] C P := by
  unfold s_parts_of a_parts_of
  walk_at "go"
  refine g_ifT (fun K hK => ?_) ?_
  · walk_at "go"
    exact g_inB rfl hx hK
  walk_at "go"
  refine g_cutT' ?_
  rw [show (some (1 : Int)) = some ((1 : Nat) : Int) from rfl, cutD_drop]
  walk_at "go"
  exact k
def kids : Sent → List Sent
  | .no s => [s]
  | .both s t => [s, t]
  | .either s t => [s, t]
  | _ => []
theorem parts_ok {s : Sent} (k : P (.lst ((kids s).map tree)) C) : s_parts_of [tree s] C P := by
  cases s with
  | no s => exact parts_node (x := "not") (ds := [tree s]) (by decide +kernel) k
  | both s t => exact parts_node (x := "both") (ds := [tree s, tree t]) (by decide +kernel) k
  | either s t => exact parts_node (x := "either") (ds := [tree s, tree t]) (by decide +kernel) k
  | long lo hi => exact parts_leaf (x := "long") (by decide +kernel) k
  | least a m => exact parts_leaf (x := "least") (by decide +kernel) k
  | often a m => exact parts_leaf (x := "often") (by decide +kernel) k
  | apart => exact parts_leaf (x := "apart") (by decide +kernel) k
  | without a => exact parts_leaf (x := "without") (by decide +kernel) k
  | begins a => exact parts_leaf (x := "begins") (by decide +kernel) k
  | ends a => exact parts_leaf (x := "ends") (by decide +kernel) k
theorem plainw_ok {tg : List Str} {s : Sent} (T : Tng tg) (hs : Lf tg s) (k : P (.int (wt tg s : Nat)) C) : s_plain_weight [.tup (strsL tg), tree s] C P := by
  unfold s_plain_weight a_plain_weight
  cases s with
  | long lo hi =>
    cases hi with
    | none =>
      unfold tree
      walk_at "go"
      refine g_ifT (fun K hK => by walk_at "go"; exact hK) ?_
      walk_at "go"
      refine g_ifT (fun K hK => by walk_at "go"; exact hK) ?_
      walk_at "go"
      exact k
    | some u =>
      unfold tree
      walk_at "go"
      refine g_ifT (fun K hK => by walk_at "go"; exact hK) ?_
      walk_at "go"
      refine g_ifF (fun K hK => by walk_at "go"; exact hK) ?_
      walk_at "go"
      exact k
  | least a m =>
    unfold tree
    walk_at "go"
    refine g_ifF (fun K hK => by walk_at "go"; exact hK) ?_
    walk_at "go"
    refine g_ifT (fun K hK => by walk_at "go"; exact hK) ?_
    walk_at "go"
    exact k
  | often own m =>
    obtain ⟨h1, h2, h3, h4⟩ := hs
    unfold tree
    walk_at "go"
    refine g_ifF (fun K hK => by walk_at "go"; exact hK) ?_
    walk_at "go"
    refine g_ifF (fun K hK => by walk_at "go"; exact hK) ?_
    walk_at "go"
    refine g_ifT (fun K hK => by walk_at "go"; exact hK) ?_
    walk_at "go"
    refine g_lenS (by simp only [sizeLine]; omega) ?_
    walk_at "go"
    rw [show (m : Int) + 1 = ((m + 1 : Nat) : Int) by omega]
    refine power_ok (by omega) (by omega) ?_
    walk_at "go"
    exact k
  | apart =>
    unfold tree
    walk_at "go"
    refine g_ifF (fun K hK => by walk_at "go"; exact hK) ?_
    walk_at "go"
    refine g_ifF (fun K hK => by walk_at "go"; exact hK) ?_
    walk_at "go"
    refine g_ifF (fun K hK => by walk_at "go"; exact hK) ?_
    walk_at "go"
    refine g_ifT (fun K hK => by walk_at "go"; exact hK) ?_
    walk_at "go"
    refine signs_of_ok T ?_
    walk_at "go"
    have h12 := T.few
    have hzl := zT_len tg
    refine g_lenS (by simp only [sizeLine]; omega) ?_
    walk_at "go"
    rw [zT_len]
    exact k
  | begins own =>
    have hs1 : own.length ≤ 600 := Nat.le_trans hs.2.1 (by decide)
    unfold tree
    walk_at "go"
    refine g_ifF (fun K hK => by walk_at "go"; exact hK) ?_
    walk_at "go"
    refine g_ifF (fun K hK => by walk_at "go"; exact hK) ?_
    walk_at "go"
    refine g_ifF (fun K hK => by walk_at "go"; exact hK) ?_
    walk_at "go"
    refine g_ifF (fun K hK => by walk_at "go"; exact hK) ?_
    walk_at "go"
    refine g_ifT (fun K hK => by walk_at "go"; exact hK) ?_
    walk_at "go"
    refine g_lenS (by simp only [sizeLine]; omega) ?_
    walk_at "go"
    exact k
  | without own =>
    have hs1 : own.length ≤ 600 := Nat.le_trans hs.2.1 (by decide)
    unfold tree
    walk_at "go"
    refine g_ifF (fun K hK => by walk_at "go"; exact hK) ?_
    walk_at "go"
    refine g_ifF (fun K hK => by walk_at "go"; exact hK) ?_
    walk_at "go"
    refine g_ifF (fun K hK => by walk_at "go"; exact hK) ?_
    walk_at "go"
    refine g_ifF (fun K hK => by walk_at "go"; exact hK) ?_
    walk_at "go"
    refine g_ifF (fun K hK => by walk_at "go"; exact hK) ?_
    walk_at "go"
    refine g_lenS (by simp only [sizeLine]; omega) ?_
    walk_at "go"
    exact k
  | ends own =>
    have hs1 : own.length ≤ 600 := Nat.le_trans hs.2.1 (by decide)
    unfold tree
    walk_at "go"
    refine g_ifF (fun K hK => by walk_at "go"; exact hK) ?_
    walk_at "go"
    refine g_ifF (fun K hK => by walk_at "go"; exact hK) ?_
    walk_at "go"
    refine g_ifF (fun K hK => by walk_at "go"; exact hK) ?_
    walk_at "go"
    refine g_ifF (fun K hK => by walk_at "go"; exact hK) ?_
    walk_at "go"
    refine g_ifF (fun K hK => by walk_at "go"; exact hK) ?_
    walk_at "go"
    refine g_lenS (by simp only [sizeLine]; omega) ?_
    walk_at "go"
    exact k
  | no a => exact hs.elim
  | both a b => exact hs.elim
  | either a b => exact hs.elim
theorem Lf.kids {tg : List Str} {s : Sent} (h : Lf tg s) : A_k53.kids s = [] := by
  cases s with
  | no a => exact h.elim
  | both a b => exact h.elim
  | either a b => exact h.elim
  | _ => rfl
theorem weight_leaf {tg : List Str} {s : Sent} {n : Nat} (T : Tng tg) (hs : Lf tg s) (k : P (.int (wt tg s : Nat)) C) : s_weight (n + 1) [.tup (strsL tg), tree s] C P := by
  show aBody 5 (a_weight (s_weight n)) _ C P
  unfold a_weight
  walk_at "go"
  refine parts_ok ?_
  rw [hs.kids]
  walk_at "go"
  refine g_ifT (fun K hK => ?_) ?_
  · walk_at "go"
    exact g_eqR 1 rfl (by decide) hK
  walk_at "go"
  exact plainw_ok T hs k
end
end A_k53
namespace A_k53
open PySem L2 AL
/-- x or z -/
def orN (z : Nat) : Option Nat → Nat
  | none => z
  | some u => if u = 0 then z else u
section
variable {C : AH} {P : D → AH → Prop}
theorem g_kOrO {e2 : AE'} {s : ASt} {o : Option Nat} {z : Nat} (h0 : ∀ R : D → AH → Prop, R (.int (z : Nat)) C → e2 s C R) (k : P (.int (orN z o : Nat)) C) : kOrV e2 s P (oD o) C := by
  cases o with
  | none => exact h0 _ k
  | some u =>
    by_cases h : u = 0
    · subst h; exact h0 _ k
    · show (match truth C (.int (u : Nat)) with | some true => P (.int (u : Nat)) C | some false => e2 s C P | none => False)
      have e : truth C (.int (u : Nat)) = some true := by
        show some ((u : Int) != 0) = some true
        rw [bne_iff_ne.mpr (show (u : Int) ≠ 0 by omega)]
      rw [e]
      simp only [orN, if_neg h] at k
      exact k
/-- the law's weight -/
theorem lweight_leaf {tg : List Str} {s : Sent} {n : Nat} (T : Tng tg) (hs : Lf tg s) (k : P (.int (wt tg s : Nat)) C) : s_law_weight (n + 1) [.tup (strsL tg), tree s] C P := by
  show aBody 6 (a_law_weight (s_law_weight n)) _ C P
  unfold a_law_weight
  cases s with
  | long lo hi =>
    unfold tree
    walk_at "go"
    refine g_ifT (fun K hK => by walk_at "go"; exact hK) ?_
    walk_at "go"
    refine g_kOrO (z := 0) (fun R hR => hR) ?_
    cases hi with
    | none =>
      walk_at "go"
      rw [show isNon (oD none) = true from rfl]
      walk_at "go"
      exact k
    | some u =>
      walk_at "go"
      rw [show isNon (oD (some u)) = false from rfl]
      walk_at "go"
      by_cases h : u = 0
      · subst h; exact k
      · simp only [orN, if_neg h]
        exact k
  | least a m =>
    unfold tree
    walk_at "go"
    refine g_ifF (fun K hK => by walk_at "go"; exact hK) ?_
    walk_at "go"
    refine g_ifT (fun K hK => by walk_at "go"; exact hK) ?_
    walk_at "go"
    exact k
  | apart =>
    unfold tree
    walk_at "go"
    refine g_ifF (fun K hK => by walk_at "go"; exact hK) ?_
    walk_at "go"
    refine g_ifF (fun K hK => by walk_at "go"; exact hK) ?_
    walk_at "go"
    refine g_ifT (fun K hK => by walk_at "go"; exact hK) ?_
    walk_at "go"
    refine g_joinET (by have := T.sum; omega) ?_
    walk_at "go"
    have h12 := T.few
    have hzl := zT_len tg
    refine g_lenS (by simp only [sizeLine]; omega) ?_
    walk_at "go"
    rw [zT_len]
    exact k
  | often own m =>
    obtain ⟨h1, h2, h3, h4⟩ := hs
    unfold tree
    walk_at "go"
    refine g_ifF (fun K hK => by walk_at "go"; exact hK) ?_
    walk_at "go"
    refine g_ifF (fun K hK => by walk_at "go"; exact hK) ?_
    walk_at "go"
    refine g_ifF (fun K hK => by walk_at "go"; exact hK) ?_
    walk_at "go"
    refine g_ifF (fun K hK => by walk_at "go"; exact g_inB (b := false) rfl (by decide) hK) ?_
    walk_at "go"
    refine g_ifT (fun K hK => by walk_at "go"; exact hK) ?_
    walk_at "go"
    refine g_kForL (fun i st C' => ∃ x4, C' = C ∧ st = [some (.tup (strsL tg)), some (.tup [.str "often", .str own, .int m]), some (.str "often"), some (.int (((m + 1) ^ i : Nat) : Int)), x4, none]) ⟨_, rfl, rfl⟩ (fun i d st C' hi hw => ?_) (fun st C' hw => ?_)
    · obtain ⟨x4, rfl, rfl⟩ := hw
      have hi2 := (List.getElem?_eq_some_iff.mp hi).1
      rw [signs_size] at hi2
      have := pow_small (b := m + 1) (by omega) h2 (show i ≤ own.length by omega)
      walk_at "go"
      exact ⟨_, rfl, by rw [Nat.pow_succ, Int.natCast_mul]; rfl⟩
    · obtain ⟨x4, rfl, rfl⟩ := hw
      rw [signs_size]
      walk_at "go"
      exact k
  | without own =>
    have hs1 : own.length ≤ 600 := Nat.le_trans hs.2.1 (by decide)
    unfold tree
    walk_at "go"
    refine g_ifF (fun K hK => by walk_at "go"; exact hK) ?_
    walk_at "go"
    refine g_ifF (fun K hK => by walk_at "go"; exact hK) ?_
    walk_at "go"
    refine g_ifF (fun K hK => by walk_at "go"; exact hK) ?_
    walk_at "go"
    refine g_ifT (fun K hK => by walk_at "go"; exact g_inB (b := true) rfl (by decide) hK) ?_
    walk_at "go"
    refine g_lenS (by simp only [sizeLine]; omega) ?_
    walk_at "go"
    exact k
  | begins own =>
    have hs1 : own.length ≤ 600 := Nat.le_trans hs.2.1 (by decide)
    unfold tree
    walk_at "go"
    refine g_ifF (fun K hK => by walk_at "go"; exact hK) ?_
    walk_at "go"
    refine g_ifF (fun K hK => by walk_at "go"; exact hK) ?_
    walk_at "go"
    refine g_ifF (fun K hK => by walk_at "go"; exact hK) ?_
    walk_at "go"
    refine g_ifT (fun K hK => by walk_at "go"; exact g_inB (b := true) rfl (by decide) hK) ?_
    walk_at "go"
    refine g_lenS (by simp only [sizeLine]; omega) ?_
    walk_at "go"
    exact k
  | ends own =>
    have hs1 : own.length ≤ 600 := Nat.le_trans hs.2.1 (by decide)
    unfold tree
    walk_at "go"
    refine g_ifF (fun K hK => by walk_at "go"; exact hK) ?_
    walk_at "go"
    refine g_ifF (fun K hK => by walk_at "go"; exact hK) ?_
    walk_at "go"
    refine g_ifF (fun K hK => by walk_at "go"; exact hK) ?_
    walk_at "go"
    refine g_ifT (fun K hK => by walk_at "go"; exact g_inB (b := true) rfl (by decide) hK) ?_
    walk_at "go"
    refine g_lenS (by simp only [sizeLine]; omega) ?_
    walk_at "go"
    exact k
  | no a => exact hs.elim
  | both a b => exact hs.elim
  | either a b => exact hs.elim
end
end A_k53
namespace A_k53
open PySem L2 AL
section
variable {C : AH} {P : D → AH → Prop}
theorem pdL_nats : ∀ xs : List Nat, pdL (natsD xs) = some (xs.map fun (n : Nat) => PyData.int (n : Int))
  | [] => by simp [natsD, pdL]
  | x :: xs => by
    have := pdL_nats xs
    simp only [natsD, List.map_cons] at this ⊢
    simp only [pdL, D.pd, this]
theorem g_eqN0 {xs : List Nat} (k : P (.bl xs.isEmpty) C) : aEq (.lst (natsD xs)) (.lst []) C P := by
  obtain ⟨x, h1, h2, _⟩ := okD_shaped (okD_nats xs 0) (by decide)
  obtain ⟨y, g1, g2, _⟩ := okD_shaped (okD_nats [] 0) (by decide)
  refine g_eqP rfl ((pdC_ok' (okD_nats xs 0)).trans h1) ((pdC_ok' (okD_nats [] 0)).trans g1) h2 g2 ?_
  simp only [D.pd, pdL_nats, Option.map_some, Option.some.injEq] at h1 g1
  subst h1 g1
  simp only [PyData.eqv]
  cases xs with
  | nil => simpa [PyData.eqvAll] using k
  | cons a b => simpa [PyData.eqvAll] using k
theorem toVs_nats : ∀ xs : List Nat, toVs (natsD xs) = some (xs.map fun (n : Nat) => V.int (n : Int))
  | [] => rfl
  | x :: xs => by
    have := toVs_nats xs
    simp only [natsD, List.map_cons] at this ⊢
    simp only [toVs, toV, this]
theorem inV_nats (i : Int) : ∀ xs : List Nat, inV (.int i) (xs.map fun (n : Nat) => V.int (n : Int)) = decide (∃ n ∈ xs, ((n : Nat) : Int) = i)
  | [] => by simp [inV]
  | x :: xs => by
    have := inV_nats i xs
    unfold inV at this ⊢
    rw [List.map_cons, List.any_cons, this]
    simp only [eqV]
    rw [Bool.eq_iff_iff]
    simp
theorem g_inN {i : Int} {xs : List Nat} (k : P (.bl (decide (∃ n ∈ xs, ((n : Nat) : Int) = i))) C) : aInL (.int i) (.lst (natsD xs)) C P := by
  show (match toV (.int i), (asS C (.lst (natsD xs))).bind toVs with | some u, some us => P (.bl (if false then !inV u us else inV u us)) C | _, _ => False)
  show (match some (V.int i), (some (natsD xs)).bind toVs with | some u, some us => P (.bl (if false then !inV u us else inV u us)) C | _, _ => False)
  rw [Option.bind_some, toVs_nats]
  show P (.bl (inV (.int i) _)) C
  rw [inV_nats]
  exact k
theorem natsD_snoc (l : List Nat) (n : Nat) : natsD l ++ [.int (n : Int)] = natsD (l ++ [n]) := by simp [natsD]
theorem filter_range (p : Nat → Bool) (i : Nat) : (List.range (i + 1)).filter p = (List.range i).filter p ++ (if p i then [i] else []) := by
  rw [List.range_succ, List.filter_append]
  congr 1
  cases e : p i <;> simp [e]
theorem stands_mem {w own : List Nat} {n : Nat} : n ∈ stands w own ↔ n + own.length ≤ w.length ∧ (w.drop n).take own.length = own := by
  unfold stands
  rw [List.mem_filter, List.mem_range, decide_eq_true_eq]
  constructor
  · rintro ⟨h1, h2⟩
    refine ⟨?_, h2⟩
    have := congrArg List.length h2
    rw [List.length_take, List.length_drop] at this
    omega
  · rintro ⟨h1, h2⟩
    exact ⟨by omega, h2⟩
theorem all_filter {p : Nat → Bool} : ∀ l : List Nat, (l.all fun x => !p x) = (l.filter p).isEmpty
  | [] => rfl
  | a :: l => by
    rw [List.all_cons, all_filter l, List.filter_cons]
    cases p a <;> rfl
theorem g_ixTg {us : List D} {n : Nat} {d : D} (h1 : us[n]? = some d) (h : P d C) : aIx (.tup us) (.int (n : Int)) C P := g_ixT (atI_nat' h1) h
theorem dI (a b : Nat) : decide ((a : Int) ≤ (b : Int)) = decide (a ≤ b) := decide_eq_decide.mpr Int.ofNat_le
theorem spots_eq {w own : List Nat} (ho : own ≠ []) : ((List.range w.length).filter fun i => decide ((w.drop i).take own.length = own)) = stands w own := by
  have hpos : 1 ≤ own.length := by cases own with | nil => exact absurd rfl ho | cons a l => simp
  have key : ∀ d, ((List.range (w.length + 1 - own.length + d)).filter fun i => decide ((w.drop i).take own.length = own)) = stands w own := by
    intro d
    induction d with
    | zero => rfl
    | succ d ih =>
      rw [show w.length + 1 - own.length + (d + 1) = w.length + 1 - own.length + d + 1 by omega, filter_range, ih, if_neg, List.append_nil]
      intro z
      have := congrArg List.length (of_decide_eq_true z)
      rw [List.length_take, List.length_drop] at this
      omega
  by_cases h : own.length ≤ w.length + 1
  · have := key (own.length - 1)
    rw [show w.length + 1 - own.length + (own.length - 1) = w.length by omega] at this
    exact this
  · have := key w.length
    rw [show w.length + 1 - own.length + w.length = w.length by omega] at this
    exact this
theorem str_eq (a b : Str) : decide (a = b) = decide (cs a = cs b) := decide_eq_decide.mpr ⟨fun z => by rw [z], fun z => by
  cases a; cases b
  exact congrArg Str.mk (Array.toList_inj.mp z)⟩
theorem cutS_at (x : Str) (j n : Nat) : cs (cutS x (some (j : Int)) (some ((j : Int) + (n : Int)))) = ((cs x).drop j).take n := by
  unfold cs
  rw [cutS_l, show (j : Int) + (n : Int) = ((j + n : Nat) : Int) by omega, HT.sIx_nat, HT.sIx_nat, ← AL.len_toList]
  by_cases h : j ≤ x.cps.toList.length
  · rw [Nat.min_eq_left h]
    by_cases h2 : j + n ≤ x.cps.toList.length
    · rw [Nat.min_eq_left h2, show j + n - j = n by omega]
    · rw [Nat.min_eq_right (by omega), List.take_of_length_le (by rw [List.length_drop]; omega), List.take_of_length_le (by rw [List.length_drop]; omega)]
  · rw [Nat.min_eq_right (show x.cps.toList.length ≤ j by omega), Nat.min_eq_right (show x.cps.toList.length ≤ j + n by omega), List.drop_eq_nil_of_le (Nat.le_refl _), List.drop_eq_nil_of_le (show x.cps.toList.length ≤ j by omega)]
    simp
theorem lp_piece {tg : List Str} {x own w : Str} (hx : x = "without" ∨ x = "begins" ∨ x = "ends") (hw : w.length ≤ 1000) (hol : own.length ≤ 600) (ho : 1 ≤ own.length)
    (k : P (.bl (if x = "without" then (stands (cs w) (cs own)).isEmpty else if x = "begins" then decide ((cs w).take own.length = cs own) else decide (own.length ≤ w.length ∧ (cs w).drop (w.length - own.length) = cs own))) C) : s_law_plain_holds [.tup (strsL tg), .tup [.str x, .str own], .str w] C P := by
  have hne : cs own ≠ [] := fun z => by have := csl own; rw [z] at this; simp at this; omega
  have hcw := csl w
  have hco := csl own
  have hx1 : decide (x = "long") = false ∧ decide (x = "least") = false ∧ decide (x = "often") = false ∧ decide (x = "apart") = false := by rcases hx with rfl | rfl | rfl <;> decide +kernel
  obtain ⟨h1, h2, h3, h4⟩ := hx1
  unfold s_law_plain_holds a_law_plain_holds
  walk_at "go"
  refine g_ifF (fun K hK => by walk_at "go"; rw [h1]; exact hK) ?_
  walk_at "go"
  refine g_ifF (fun K hK => by walk_at "go"; rw [h2]; exact hK) ?_
  walk_at "go"
  refine g_ifF (fun K hK => by walk_at "go"; rw [h3]; exact hK) ?_
  walk_at "go"
  refine g_ifF (fun K hK => by walk_at "go"; rw [h4]; exact hK) ?_
  walk_at "go"
  refine g_lenS (by simp only [sizeLine]; omega) ?_
  walk_at "go"
  rw [show ((w.length : Nat) : Int).toNat = w.length from rfl]
  refine g_kLc (fun i acc C' => acc = natsD ((List.range i).filter fun j => decide (((cs w).drop j).take (cs own).length = cs own)) ∧ C' = C) (by rw [rangeD_len]; simp only [sizeLine]; omega) ⟨rfl, rfl⟩ (fun i d acc C' hi hh => ?_) (fun acc C' hh => ?_)
  · obtain ⟨rfl, rfl⟩ := hh
    have hi2 : i < w.length := by have := (List.getElem?_eq_some_iff.mp hi).1; rw [rangeD_len] at this; exact this
    rw [rangeD_get hi2] at hi
    cases hi
    rw [Int.zero_add]
    walk_at "go"
    refine g_lenS (by simp only [sizeLine]; omega) ?_
    walk_at "go"
    refine ⟨by simp only [sizeLine]; omega, ?_⟩
    walk_at "go"
    rw [str_eq, cutS_at, filter_range, hco]
    by_cases q : ((cs w).drop i).take own.length = cs own
    · rw [decide_eq_true q]
      walk_at "go"
      refine ⟨?_, rfl⟩
      rw [if_pos rfl]
      exact natsD_snoc _ _
    · rw [decide_eq_false q]
      walk_at "go"
      refine ⟨?_, rfl⟩
      rw [if_neg Bool.false_ne_true, List.append_nil]
  · obtain ⟨rfl, rfl⟩ := hh
    rw [rangeD_len, ← csl w, spots_eq hne]
    walk_at "go"
    rcases hx with rfl | rfl | rfl
    · rw [if_pos rfl] at k
      refine g_ifT (fun K hK => by walk_at "go"; exact hK) ?_
      walk_at "go"
      exact g_eqN0 k
    · rw [if_neg (by decide), if_pos rfl] at k
      refine g_ifF (fun K hK => by walk_at "go"; exact hK) ?_
      walk_at "go"
      refine g_ifT (fun K hK => by walk_at "go"; exact hK) ?_
      walk_at "go"
      refine g_inN ?_
      have e : decide (∃ n ∈ stands (cs w) (cs own), ((n : Nat) : Int) = 0) = decide ((cs w).take own.length = cs own) := by
        refine decide_eq_decide.mpr ⟨?_, fun h => ⟨0, stands_mem.mpr ⟨?_, ?_⟩, rfl⟩⟩
        · rintro ⟨n, g1, g2⟩
          have : n = 0 := by omega
          subst this
          have := (stands_mem.mp g1).2
          rw [List.drop_zero, hco] at this
          exact this
        · have := congrArg List.length h
          rw [List.length_take] at this
          omega
        · rw [List.drop_zero, hco]; exact h
      rw [e]
      exact k
    · rw [if_neg (by decide), if_neg (by decide)] at k
      refine g_ifF (fun K hK => by walk_at "go"; exact hK) ?_
      walk_at "go"
      refine g_ifF (fun K hK => by walk_at "go"; exact hK) ?_
      walk_at "go"
      refine g_lenS (by simp only [sizeLine]; omega) ?_
      walk_at "go"
      refine g_lenS (by simp only [sizeLine]; omega) ?_
      walk_at "go"
      refine g_inN ?_
      have e : decide (∃ n ∈ stands (cs w) (cs own), ((n : Nat) : Int) = (w.length : Int) - (own.length : Int)) = decide (own.length ≤ w.length ∧ (cs w).drop (w.length - own.length) = cs own) := by
        refine decide_eq_decide.mpr ⟨?_, fun h => ⟨w.length - own.length, stands_mem.mpr ⟨by omega, ?_⟩, by omega⟩⟩
        · rintro ⟨n, g1, g2⟩
          obtain ⟨g3, g4⟩ := stands_mem.mp g1
          have : n = w.length - own.length := by omega
          subst this
          rw [List.take_of_length_le (by rw [List.length_drop]; omega)] at g4
          exact ⟨by omega, g4⟩
        · rw [List.take_of_length_le (by rw [List.length_drop]; omega)]
          exact h.2
      rw [e]
      exact k
end
end A_k53
namespace A_k53
open PySem L2 AL
section
variable {C : AH} {P : D → AH → Prop}
/-- the law's own look -/
theorem lp_ok {tg : List Str} {s : Sent} {w : Str} (hs : Lf tg s) (hw : w.length ≤ 1000) (k : P (.bl (hold tg (cs w) s)) C) : s_law_plain_holds [.tup (strsL tg), tree s, .str w] C P := by
  have hwl := csl w
  cases s with
  | long lo hi =>
    unfold s_law_plain_holds a_law_plain_holds
    unfold tree
    walk_at "go"
    refine g_ifT (fun K hK => by walk_at "go"; exact hK) ?_
    walk_at "go"
    refine g_lenS (by simp only [sizeLine]; omega) ?_
    walk_at "go"
    rw [dI]
    cases hi with
    | none =>
      simp only [hold] at k
      rw [hwl] at k
      refine g_kAnd (fun e => ?_) (fun e => ?_)
      · rw [e] at k
        walk_at "go"
        exact g_kOr (fun _ => k) (fun e => by cases e)
      · rw [e] at k
        exact k
    | some h =>
      simp only [hold] at k
      rw [hwl] at k
      refine g_kAnd (fun e => ?_) (fun e => ?_)
      · rw [e, Bool.true_and] at k
        walk_at "go"
        refine g_kOr (fun e => by cases e) (fun _ => ?_)
        walk_at "go"
        refine g_lenS (by simp only [sizeLine]; omega) ?_
        walk_at "go"
        show aLe (.int _) (.int (h : Int)) C P
        refine g_le ?_
        rw [dI]
        exact k
      · rw [e, Bool.false_and] at k
        exact k
  | least a m =>
    have ha : a < tg.length := hs.1
    unfold s_law_plain_holds a_law_plain_holds
    unfold tree
    walk_at "go"
    refine g_ifF (fun K hK => by walk_at "go"; exact hK) ?_
    walk_at "go"
    refine g_ifT (fun K hK => by walk_at "go"; exact hK) ?_
    walk_at "go"
    refine g_kLc (fun i acc C' => acc = (((cs w).take i).filter fun c => decide (c ∈ (tg.getD a "").cps.toList)).map (fun c => D.str ⟨#[c]⟩) ∧ C' = C) (by rw [signs_size]; simp only [sizeLine]; omega) ⟨rfl, rfl⟩ (fun i d acc C' hi hh => ?_) (fun acc C' hh => ?_)
    · obtain ⟨rfl, rfl⟩ := hh
      obtain ⟨c, hc, rfl⟩ := signs_at hi
      rw [filter_take _ _ _ _ hc]
      walk_at "go"
      refine g_ixTg (d := .str (tg.getD a "")) (by unfold strsL; rw [List.getElem?_map, List.getElem?_eq_getElem ha]; simp [List.getD, List.getElem?_eq_getElem ha]) ?_
      walk_at "go"
      refine g_inS ?_
      rw [in_one]
      walk_at "go"
      by_cases hm : c ∈ (tg.getD a "").cps.toList
      · rw [decide_eq_true hm]
        walk_at "go"
        exact ⟨by simp, rfl⟩
      · rw [decide_eq_false hm]
        exact ⟨by simp, rfl⟩
    · obtain ⟨rfl, rfl⟩ := hh
      rw [signs_size, ← hwl, List.take_length]
      walk_at "go"
      rw [List.length_map]
      refine g_ge ?_
      rw [dI]
      exact k
  | often own m =>
    obtain ⟨h1, h2, h3, h4⟩ := hs
    have hol := csl own
    unfold s_law_plain_holds a_law_plain_holds
    unfold tree
    walk_at "go"
    refine g_ifF (fun K hK => by walk_at "go"; exact hK) ?_
    walk_at "go"
    refine g_ifF (fun K hK => by walk_at "go"; exact hK) ?_
    walk_at "go"
    refine g_ifT (fun K hK => by walk_at "go"; exact hK) ?_
    walk_at "go"
    refine g_kLc (fun i acc C' => acc = natsD (((cs own).take i).map fun c => cnt (cs w) c) ∧ C' = C) (by rw [signs_size]; simp only [sizeLine]; omega) ⟨rfl, rfl⟩ (fun i d acc C' hi hh => ?_) (fun acc C' hh => ?_)
    · obtain ⟨rfl, rfl⟩ := hh
      obtain ⟨c, hc, rfl⟩ := signs_at hi
      walk_at "go"
      refine g_kLc (fun i acc C2 => acc = (((cs w).take i).filter fun b => decide (b = c)).map (fun c => D.str ⟨#[c]⟩) ∧ C2 = C') (by rw [signs_size]; simp only [sizeLine]; omega) ⟨rfl, rfl⟩ (fun i d acc C2 hi hh => ?_) (fun acc C2 hh => ?_)
      · obtain ⟨rfl, rfl⟩ := hh
        obtain ⟨b, hb, rfl⟩ := signs_at hi
        rw [filter_take _ _ _ _ hb]
        walk_at "go"
        rw [one_eq]
        by_cases hm : b = c
        · rw [decide_eq_true hm]
          walk_at "go"
          exact ⟨by simp, rfl⟩
        · rw [decide_eq_false hm]
          exact ⟨by simp, rfl⟩
      · obtain ⟨rfl, rfl⟩ := hh
        rw [signs_size, ← hwl, List.take_length]
        walk_at "go"
        rw [List.length_map]
        refine ⟨?_, rfl⟩
        rw [List.take_add_one, hc, List.map_append]
        exact natsD_snoc _ _
    · obtain ⟨rfl, rfl⟩ := hh
      rw [signs_size, ← hol, List.take_length]
      walk_at "go"
      refine g_maxX rfl (by rw [List.length_map]; omega) fun mx g1 g2 => ?_
      walk_at "go"
      have e : decide ((mx : Int) ≤ (m : Int)) = hold tg (cs w) (.often own m) := by
        rw [dI]
        show _ = (cs own).all fun c => decide (cnt (cs w) c ≤ m)
        by_cases q : mx ≤ m
        · rw [decide_eq_true q]
          exact (List.all_eq_true.mpr fun c hc => decide_eq_true (Nat.le_trans (g2 _ (List.mem_map_of_mem hc)) q)).symm
        · rw [decide_eq_false q]
          cases z : (cs own).all fun c => decide (cnt (cs w) c ≤ m) with
          | false => rfl
          | true =>
            obtain ⟨c, hc, rfl⟩ := List.mem_map.mp g1
            exact absurd (of_decide_eq_true (List.all_eq_true.mp z c hc)) q
      rw [e]
      exact k
  | apart =>
    unfold s_law_plain_holds a_law_plain_holds
    unfold tree
    walk_at "go"
    refine g_ifF (fun K hK => by walk_at "go"; exact hK) ?_
    walk_at "go"
    refine g_ifF (fun K hK => by walk_at "go"; exact hK) ?_
    walk_at "go"
    refine g_ifF (fun K hK => by walk_at "go"; exact hK) ?_
    walk_at "go"
    refine g_ifT (fun K hK => by walk_at "go"; exact hK) ?_
    walk_at "go"
    refine g_lenS (by simp only [sizeLine]; omega) ?_
    walk_at "go"
    have en : ((w.length : Int) - 1).toNat = w.length - 1 := by omega
    rw [en]
    refine g_kLc (fun i acc C' => acc = ((List.range i).filter fun j => decide ((cs w).getD j 0 = (cs w).getD (j + 1) 0)).map (fun j => D.int ((j + 1 : Nat) : Int)) ∧ C' = C) (by rw [rangeD_len]; simp only [sizeLine]; omega) ⟨rfl, rfl⟩ (fun i d acc C' hi hh => ?_) (fun acc C' hh => ?_)
    · obtain ⟨rfl, rfl⟩ := hh
      have hi2 : i < w.length - 1 := by have := (List.getElem?_eq_some_iff.mp hi).1; rw [rangeD_len] at this; exact this
      rw [rangeD_get hi2] at hi
      cases hi
      rw [filter_range]
      have g1 : (cs w)[i]? = some ((cs w).getD i 0) := by rw [List.getElem?_eq_getElem (by omega)]; simp [List.getD, List.getElem?_eq_getElem (show i < (cs w).length by omega)]
      have g2 : (cs w)[i + 1]? = some ((cs w).getD (i + 1) 0) := by rw [List.getElem?_eq_getElem (by omega)]; simp [List.getD, List.getElem?_eq_getElem (show i + 1 < (cs w).length by omega)]
      walk_at "go"
      rw [show (1 : Int) + (i : Int) = ((i + 1 : Nat) : Int) by omega]
      refine g_ixSc (by omega) g2 ?_
      walk_at "go"
      rw [show ((i + 1 : Nat) : Int) - 1 = ((i : Nat) : Int) by omega]
      refine g_ixSc (by omega) g1 ?_
      walk_at "go"
      rw [one_eq, show decide ((cs w).getD (i + 1) 0 = (cs w).getD i 0) = decide ((cs w).getD i 0 = (cs w).getD (i + 1) 0) from decide_eq_decide.mpr eq_comm]
      cases decide ((cs w).getD i 0 = (cs w).getD (i + 1) 0) with
      | true =>
        walk_at "go"
        exact ⟨by simp, rfl⟩
      | false => exact ⟨by simp, rfl⟩
    · obtain ⟨rfl, rfl⟩ := hh
      rw [rangeD_len]
      simp only [hold, dbl] at k
      rw [hwl] at k
      have e : ((List.range (w.length - 1)).filter fun j => decide ((cs w).getD j 0 = (cs w).getD (j + 1) 0)).map (fun j => D.int ((j + 1 : Nat) : Int)) = natsD (((List.range (w.length - 1)).filter fun j => decide ((cs w).getD j 0 = (cs w).getD (j + 1) 0)).map (· + 1)) := by
        unfold natsD
        rw [List.map_map]
        rfl
      rw [e]
      walk_at "go"
      refine g_eqN0 ?_
      rw [List.isEmpty_map]
      exact k
  | without own =>
    refine lp_piece (.inl rfl) hw (Nat.le_trans hs.2.1 (by decide)) hs.1 ?_
    rw [if_pos rfl]
    exact k
  | begins own =>
    refine lp_piece (.inr (.inl rfl)) hw (Nat.le_trans hs.2.1 (by decide)) hs.1 ?_
    rw [if_neg (by decide), if_pos rfl]
    exact k
  | ends own =>
    simp only [hold] at k
    rw [hwl] at k
    refine lp_piece (.inr (.inr rfl)) hw (Nat.le_trans hs.2.1 (by decide)) hs.1 ?_
    rw [if_neg (by decide), if_neg (by decide)]
    exact k
  | no a => exact hs.elim
  | both a b => exact hs.elim
  | either a b => exact hs.elim
end
end A_k53
namespace A_k53
open PySem L2 AL
section
variable {C : AH} {P : D → AH → Prop}
/-- sentences of some depth -/
def Fit (tg : List Str) : Nat → Sent → Prop
  | 0, _ => False
  | n + 1, .no s => Fit tg n s
  | n + 1, .both s t => Fit tg n s ∧ Fit tg n t
  | n + 1, .either s t => Fit tg n s ∧ Fit tg n t
  | _ + 1, s => Lf tg s
theorem Fit.wpos {tg : List Str} : ∀ {d : Nat} {s : Sent}, Fit tg d s → 0 < wt tg s
  | 0, _, h => h.elim
  | d + 1, .no s, h => Fit.wpos (d := d) (s := s) h
  | d + 1, .both s t, h => Nat.mul_pos (Fit.wpos h.1) (Fit.wpos h.2)
  | d + 1, .either s t, h => Nat.mul_pos (Fit.wpos h.1) (Fit.wpos h.2)
  | _ + 1, .long lo hi, _ => by cases hi <;> simp [wt]
  | _ + 1, .least a m, _ => by simp [wt]
  | _ + 1, .often own m, _ => by simp [wt]
  | _ + 1, .apart, _ => by simp [wt]
  | _ + 1, .without own, _ => by simp [wt]
  | _ + 1, .begins own, _ => by simp [wt]
  | _ + 1, .ends own, _ => by simp [wt]
theorem Fit.up {tg : List Str} : ∀ {d : Nat} {s : Sent}, Fit tg d s → Fit tg (d + 1) s
  | 0, _, h => h.elim
  | d + 1, .no s, h => Fit.up (d := d) (s := s) h
  | d + 1, .both s t, h => ⟨Fit.up h.1, Fit.up h.2⟩
  | d + 1, .either s t, h => ⟨Fit.up h.1, Fit.up h.2⟩
  | _ + 1, .long lo hi, h => h
  | _ + 1, .least a m, h => h
  | _ + 1, .often own m, h => h
  | _ + 1, .apart, h => h
  | _ + 1, .without own, h => h
  | _ + 1, .begins own, h => h
  | _ + 1, .ends own, h => h
end
end A_k53
namespace A_k53
open PySem L2 AL
def prodL : List Nat → Nat
  | [] => 1
  | x :: l => x * prodL l
theorem prodL_snoc (y : Nat) : ∀ l : List Nat, prodL (l ++ [y]) = prodL l * y
  | [] => by simp [prodL]
  | x :: l => by
    show x * prodL (l ++ [y]) = x * prodL l * y
    rw [prodL_snoc y l, Nat.mul_assoc]
section
variable {tg : List Str}
theorem Fit.kid {d : Nat} {s : Sent} (h : Fit tg (d + 1) s) : (kids s = [] ∧ Lf tg s) ∨ (kids s ≠ [] ∧ (∀ c ∈ kids s, Fit tg d c ∧ wt tg c ≤ wt tg s) ∧ wt tg s = prodL ((kids s).map (wt tg)) ∧ (kids s).length ≤ 2) := by
  cases s with
  | no a => exact .inr ⟨by simp [kids], fun c hc => by rw [List.mem_singleton.mp hc]; exact ⟨h, Nat.le_refl _⟩, by simp [kids, prodL, wt], by simp [kids]⟩
  | both a b =>
    have p1 := Fit.wpos h.1
    have p2 := Fit.wpos h.2
    refine .inr ⟨by simp [kids], fun c hc => ?_, by simp [kids, prodL, wt], by simp [kids]⟩
    simp only [kids, List.mem_cons, List.not_mem_nil, or_false] at hc
    rcases hc with rfl | rfl
    · exact ⟨h.1, Nat.le_mul_of_pos_right _ p2⟩
    · exact ⟨h.2, Nat.le_mul_of_pos_left _ p1⟩
  | either a b =>
    have p1 := Fit.wpos h.1
    have p2 := Fit.wpos h.2
    refine .inr ⟨by simp [kids], fun c hc => ?_, by simp [kids, prodL, wt], by simp [kids]⟩
    simp only [kids, List.mem_cons, List.not_mem_nil, or_false] at hc
    rcases hc with rfl | rfl
    · exact ⟨h.1, Nat.le_mul_of_pos_right _ p2⟩
    · exact ⟨h.2, Nat.le_mul_of_pos_left _ p1⟩
  | _ => exact .inl ⟨rfl, h⟩
end
section
variable {C : AH} {P : D → AH → Prop}
theorem okS_all {z : Str} (h : okS z) : z.cps.all (· < 0x110000) = true := by
  rw [Array.all_eq_true_iff_forall_mem]
  intro c hc
  exact decide_eq_true (h c (Array.mem_toList_iff.mpr hc))
theorem fit_ok {tg : List Str} (T : Tng tg) : ∀ {d : Nat} {s : Sent}, Fit tg d s → okD (tree s) d = true := by
  intro d
  induction d with
  | zero => intro s h; exact h.elim
  | succ d ih =>
    intro s h
    have key : ∀ (x : Str) (ds : List D), x.cps.all (· < 0x110000) = true → (∀ y ∈ ds, okD y d = true) → okD (.tup (.str x :: ds)) (d + 1) = true := by
      intro x ds hx hds
      refine okD_tup fun y hy => ?_
      rcases List.mem_cons.mp hy with e | e
      · rw [e]; simp only [okD]; exact hx
      · exact hds y e
    have ks : ∀ x : Str, okS x → okD (.str x) d = true := fun x hx => by simp only [okD]; exact okS_all hx
    cases s with
    | long lo hi =>
      refine key _ _ (by decide +kernel) fun y hy => ?_
      simp only [List.mem_cons, List.not_mem_nil, or_false] at hy
      rcases hy with rfl | rfl
      · simp [okD]
      · exact okD_oD hi d
    | least k m =>
      refine key _ _ (by decide +kernel) fun y hy => ?_
      simp only [List.mem_cons, List.not_mem_nil, or_false] at hy
      rcases hy with rfl | rfl <;> simp [okD]
    | often own m =>
      refine key _ _ (by decide +kernel) fun y hy => ?_
      simp only [List.mem_cons, List.not_mem_nil, or_false] at hy
      rcases hy with rfl | rfl
      · exact ks _ (T.ok h.2.2.1)
      · simp [okD]
    | apart => exact key _ _ (by decide +kernel) fun y hy => by cases hy
    | without own => exact key _ _ (by decide +kernel) fun y hy => by rw [List.mem_singleton.mp hy]; exact ks _ (T.ok h.2.2)
    | begins own => exact key _ _ (by decide +kernel) fun y hy => by rw [List.mem_singleton.mp hy]; exact ks _ (T.ok h.2.2)
    | ends own => exact key _ _ (by decide +kernel) fun y hy => by rw [List.mem_singleton.mp hy]; exact ks _ (T.ok h.2.2)
    | no s => exact key _ _ (by decide +kernel) fun y hy => by rw [List.mem_singleton.mp hy]; exact ih h
    | both s t =>
      refine key _ _ (by decide +kernel) fun y hy => ?_
      simp only [List.mem_cons, List.not_mem_nil, or_false] at hy
      rcases hy with rfl | rfl
      · exact ih h.1
      · exact ih h.2
    | either s t =>
      refine key _ _ (by decide +kernel) fun y hy => ?_
      simp only [List.mem_cons, List.not_mem_nil, or_false] at hy
      rcases hy with rfl | rfl
      · exact ih h.1
      · exact ih h.2
theorem ne_nil {d : D} {ds : List D} {n : Nat} (h : okD (.lst (d :: ds)) n = true) (hn : n ≤ 64) (k : P (.bl false) C) : aEq (.lst (d :: ds)) (.lst []) C P := by
  obtain ⟨x, h1, h2, h3⟩ := okD_shaped h hn
  obtain ⟨y, g1, g2, g3⟩ := okD_shaped (show okD (.lst []) 1 = true from rfl) (by decide)
  refine g_eqP rfl ((pdC_ok' h).trans h1) ((pdC_ok' (show okD (.lst []) 1 = true from rfl)).trans g1) h2 g2 ?_
  have e : PyData.eqv x y = false := by
    have ey : y = .list [] := by simp [D.pd, pdL] at g1; exact g1.symm
    subst ey
    simp only [D.pd, pdL] at h1
    cases e1 : d.pd with
    | none => rw [e1] at h1; cases h1
    | some u =>
      rw [e1] at h1
      cases e2 : pdL ds with
      | none => rw [e2] at h1; cases h1
      | some us =>
        rw [e2] at h1
        cases h1
        rfl
  rw [e]
  exact k
theorem weight_ok {tg : List Str} (T : Tng tg) : ∀ (d : Nat) (s : Sent), d ≤ 20 → Fit tg d s → wt tg s < 2 ^ 64 → ∀ (f : Nat), d ≤ f → ∀ (C : AH) (P : D → AH → Prop), P (.int (wt tg s : Nat)) C → s_weight f [.tup (strsL tg), tree s] C P := by
  intro d
  induction d with
  | zero => intro s _ h; exact h.elim
  | succ d ih =>
    intro s hd20 h hw f hf C P k
    cases f with
    | zero => omega
    | succ f =>
      rcases h.kid with ⟨_, hl⟩ | ⟨hne, hk, he, hl2⟩
      · exact weight_leaf T hl k
      · show aBody 5 (a_weight (s_weight f)) _ C P
        unfold a_weight
        walk_at "go"
        refine parts_ok ?_
        walk_at "go"
        refine g_ifF (fun K hK => ?_) ?_
        · walk_at "go"
          have hok : ∀ y ∈ (kids s).map tree, okD y d = true := fun y hy => by
            obtain ⟨c, hc, rfl⟩ := List.mem_map.mp hy
            exact fit_ok T (hk c hc).1
          cases e : (kids s).map tree with
          | nil => exact absurd (List.map_eq_nil_iff.mp e) hne
          | cons c r =>
            rw [e] at hok
            exact ne_nil (n := d + 1) (okD_lst hok) (by omega) hK
        walk_at "go"
        refine g_kForL (fun i st C' => ∃ x4, C' = C ∧ st = [some (.tup (strsL tg)), some (tree s), some (.lst ((kids s).map tree)), some (.int (prodL (((kids s).take i).map (wt tg)) : Nat)), x4]) ⟨_, rfl, rfl⟩ (fun i x st C' hi hh => ?_) (fun st C' hh => ?_)
        · obtain ⟨x4, rfl, rfl⟩ := hh
          rw [List.getElem?_map] at hi
          cases e : (kids s)[i]? with
          | none => rw [e] at hi; cases hi
          | some c =>
            rw [e] at hi
            cases hi
            obtain ⟨hc, hcw⟩ := hk c (List.mem_of_getElem? e)
            have hc64 : wt tg c < 2 ^ 64 := Nat.lt_of_le_of_lt hcw hw
            walk_at "go"
            refine ih c (by omega) hc hc64 f (by omega) _ _ ?_
            walk_at "go"
            have ep : prodL (((kids s).take (i + 1)).map (wt tg)) = prodL (((kids s).take i).map (wt tg)) * wt tg c := by
              rw [List.take_add_one, e, List.map_append]
              exact prodL_snoc _ _
            exact ⟨some (tree c), rfl, by rw [ep, Int.natCast_mul]⟩
        · obtain ⟨x4, rfl, rfl⟩ := hh
          rw [List.length_map, List.take_length, ← he]
          walk_at "go"
          exact k
end
end A_k53
namespace A_k53
open PySem L2 AL
section
variable {C : AH} {P : D → AH → Prop}
/-- the law's weight -/
theorem lweight_ok {tg : List Str} (T : Tng tg) : ∀ (d : Nat) (s : Sent), d ≤ 20 → Fit tg d s → wt tg s < 2 ^ 64 → ∀ (f : Nat), d ≤ f → ∀ (C : AH) (P : D → AH → Prop), P (.int (wt tg s : Nat)) C → s_law_weight f [.tup (strsL tg), tree s] C P := by
  intro d
  induction d with
  | zero => intro s _ h; exact h.elim
  | succ d ih =>
    intro s hd20 h hw f hf C P k
    cases f with
    | zero => omega
    | succ f =>
      rcases h.kid with ⟨_, hl⟩ | ⟨hne, hk, he, hl2⟩
      · exact lweight_leaf T hl k
      · have go : ∃ (x : Str), tree s = .tup (.str x :: (kids s).map tree) ∧ decide (x = "long") = false ∧ decide (x = "least") = false ∧ decide (x = "apart") = false ∧ decide (x = "often") = false ∧ inV (.str x) [.str "without", .str "begins", .str "ends"] = false := by
          cases s with
          | no a => exact ⟨_, rfl, by decide +kernel, by decide +kernel, by decide +kernel, by decide +kernel, by decide +kernel⟩
          | both a b => exact ⟨_, rfl, by decide +kernel, by decide +kernel, by decide +kernel, by decide +kernel, by decide +kernel⟩
          | either a b => exact ⟨_, rfl, by decide +kernel, by decide +kernel, by decide +kernel, by decide +kernel, by decide +kernel⟩
          | _ => exact absurd rfl hne
        obtain ⟨x, ex, h1, h2, h3, h4, h5⟩ := go
        show aBody 6 (a_law_weight (s_law_weight f)) _ C P
        unfold a_law_weight
        rw [ex]
        walk_at "go"
        refine g_ifF (fun K hK => by walk_at "go"; rw [h1]; exact hK) ?_
        walk_at "go"
        refine g_ifF (fun K hK => by walk_at "go"; rw [h2]; exact hK) ?_
        walk_at "go"
        refine g_ifF (fun K hK => by walk_at "go"; rw [h3]; exact hK) ?_
        walk_at "go"
        refine g_ifF (fun K hK => by walk_at "go"; exact g_inB rfl h5 hK) ?_
        walk_at "go"
        refine g_ifF (fun K hK => by walk_at "go"; rw [h4]; exact hK) ?_
        walk_at "go"
        refine g_cutT' ?_
        rw [show (some (1 : Int)) = some ((1 : Nat) : Int) from rfl, cutD_drop]
        walk_at "go"
        refine g_kForL (fun i st C' => ∃ x5, C' = C ∧ st = [some (.tup (strsL tg)), some (.tup (.str x :: (kids s).map tree)), some (.str x), some (.int (prodL (((kids s).take i).map (wt tg)) : Nat)), none, x5]) ⟨_, rfl, rfl⟩ (fun i y st C' hi hh => ?_) (fun st C' hh => ?_)
        · obtain ⟨x4, rfl, rfl⟩ := hh
          have hi : ((kids s).map tree)[i]? = some y := hi
          rw [List.getElem?_map] at hi
          cases e : (kids s)[i]? with
          | none => rw [e] at hi; cases hi
          | some c =>
            rw [e] at hi
            cases hi
            obtain ⟨hc, hcw⟩ := hk c (List.mem_of_getElem? e)
            have hc64 : wt tg c < 2 ^ 64 := Nat.lt_of_le_of_lt hcw hw
            walk_at "go"
            refine ih c (by omega) hc hc64 f (by omega) _ _ ?_
            walk_at "go"
            have ep : prodL (((kids s).take (i + 1)).map (wt tg)) = prodL (((kids s).take i).map (wt tg)) * wt tg c := by
              rw [List.take_add_one, e, List.map_append]
              exact prodL_snoc _ _
            exact ⟨some (tree c), rfl, by rw [ep, Int.natCast_mul]⟩
        · obtain ⟨x4, rfl, rfl⟩ := hh
          rw [show ((D.str x :: (kids s).map tree).drop 1).length = (kids s).length from List.length_map .., List.take_length, ← he]
          walk_at "go"
          exact k
end
end A_k53
namespace A_k53
open PySem L2 AL
theorem prod_pos {tg : List Str} {ss : List Sent} (h : ∀ s ∈ ss, 0 < wt tg s) : 0 < prodL (ss.map (wt tg)) := by
  induction ss with
  | nil => exact Nat.one_pos
  | cons s ss ih => exact Nat.mul_pos (h s (List.mem_cons_self ..)) (ih fun t ht => h t (List.mem_cons_of_mem _ ht))
theorem prod_ge {tg : List Str} : ∀ {ss : List Sent}, (∀ s ∈ ss, 0 < wt tg s) → ∀ s ∈ ss, wt tg s ≤ prodL (ss.map (wt tg))
  | t :: ss, h, s, hs => by
    have h1 := h t (List.mem_cons_self ..)
    have h2 := prod_pos (fun s hs => h s (List.mem_cons_of_mem _ hs))
    show wt tg s ≤ wt tg t * prodL (ss.map (wt tg))
    rcases List.mem_cons.mp hs with rfl | hs
    · exact Nat.le_mul_of_pos_right _ h2
    · exact Nat.le_trans (prod_ge (fun s hs => h s (List.mem_cons_of_mem _ hs)) s hs) (Nat.le_mul_of_pos_left _ h1)
theorem prod_take {tg : List Str} : ∀ {ss : List Sent}, (∀ s ∈ ss, 0 < wt tg s) → ∀ i, prodL ((ss.take i).map (wt tg)) ≤ prodL (ss.map (wt tg))
  | [], _, i => by rw [List.take_nil]; exact Nat.le_refl _
  | t :: ss, h, 0 => prod_pos h
  | t :: ss, h, i + 1 => Nat.mul_le_mul_left _ (prod_take (fun s hs => h s (List.mem_cons_of_mem _ hs)) i)
section
variable {C : AH} {P : D → AH → Prop}
def ruleD (tg : List Str) (ss : List Sent) : D := .tup [.tup (strsL tg), .tup (ss.map tree)]
theorem rulew_ok {tg : List Str} (T : Tng tg) {ss : List Sent} (hs : ∀ s ∈ ss, Fit tg 8 s ∧ wt tg s ≤ 600) (k : P (.int (prodL (ss.map (wt tg)) : Nat)) C) : s_rule_weight [ruleD tg ss] C P := by
  unfold s_rule_weight a_rule_weight ruleD
  walk_at "go"
  refine g_kForL (fun i st C' => ∃ x2, C' = C ∧ st = [some (.tup [.tup (strsL tg), .tup (ss.map tree)]), some (.int (prodL ((ss.take i).map (wt tg)) : Nat)), x2]) ⟨_, rfl, rfl⟩ (fun i y st C' hi hh => ?_) (fun st C' hh => ?_)
  · obtain ⟨x2, rfl, rfl⟩ := hh
    rw [List.getElem?_map] at hi
    cases e : ss[i]? with
    | none => rw [e] at hi; cases hi
    | some c =>
      rw [e] at hi
      cases hi
      obtain ⟨hc, hcw⟩ := hs c (List.mem_of_getElem? e)
      walk_at "go"
      refine weight_ok T 8 c (by omega) hc (by omega) 8 (Nat.le_refl _) _ _ ?_
      walk_at "go"
      have ep : prodL ((ss.take (i + 1)).map (wt tg)) = prodL ((ss.take i).map (wt tg)) * wt tg c := by
        rw [List.take_add_one, e, List.map_append]
        exact prodL_snoc _ _
      exact ⟨some (tree c), rfl, by rw [ep, Int.natCast_mul]⟩
  · obtain ⟨x2, rfl, rfl⟩ := hh
    rw [List.length_map, List.take_length]
    walk_at "go"
    exact k
end
end A_k53
namespace A_k53
open PySem L2 AL
section
variable {C : AH} {P : D → AH → Prop}
theorem ruleOk {tg : List Str} (T : Tng tg) {ss : List Sent} (hs : ∀ s ∈ ss, Fit tg 8 s) : okD (ruleD tg ss) 10 = true := by
  refine okD_tup fun y hy => ?_
  simp only [List.mem_cons, List.not_mem_nil, or_false] at hy
  rcases hy with rfl | rfl
  · refine okD_tup fun y hy => ?_
    obtain ⟨z, hz, rfl⟩ := List.mem_map.mp hy
    simp only [okD]
    refine okS_all (T.ok fun c hc => ?_)
    rw [zs_eq]
    exact List.mem_flatten.mpr ⟨_, List.mem_map.mpr ⟨z, hz, rfl⟩, hc⟩
  · refine okD_tup fun y hy => ?_
    obtain ⟨z, hz, rfl⟩ := List.mem_map.mp hy
    exact fit_ok T (hs z hz)
end
end A_k53
namespace A_k53
open PySem L2 AL
def Room1 (C : AH) (r : Addr) : Prop := ∃ z : Int, C r = some (.lst [.int z])
theorem Lf.fit {tg : List Str} {s : Sent} (h : Lf tg s) (d : Nat) : Fit tg (d + 1) s := by
  cases s with
  | no a => exact h.elim
  | both a b => exact h.elim
  | either a b => exact h.elim
  | _ => exact h
theorem in12 {way : Nat} (h : way < 8) : inV (.int (way : Nat)) [.int 1, .int 2] = decide (way = 1 ∨ way = 2) := by
  have : way = 0 ∨ way = 1 ∨ way = 2 ∨ way = 3 ∨ way = 4 ∨ way = 5 ∨ way = 6 ∨ way = 7 := by omega
  rcases this with rfl | rfl | rfl | rfl | rfl | rfl | rfl | rfl <;> decide +kernel
end A_k53
namespace A_k53
open PySem L2 AL
def BB : Nat → Nat
  | 0 => 600
  | d + 1 => BB d * BB d
theorem BB_ge : ∀ d, 600 ≤ BB d
  | 0 => Nat.le_refl _
  | d + 1 => Nat.le_trans (BB_ge d) (Nat.le_mul_of_pos_left _ (Nat.lt_of_lt_of_le (by decide) (BB_ge d)))
theorem fit_wt {tg : List Str} (T : Tng tg) : ∀ {d : Nat} {s : Sent}, Fit tg (d + 1) s → wt tg s ≤ BB d := by
  intro d
  induction d with
  | zero =>
    intro s h
    cases s with
    | no a => exact h.elim
    | both a b => exact h.1.elim
    | either a b => exact h.1.elim
    | _ => exact Lf.wt T h
  | succ d ih =>
    intro s h
    have hle : BB d ≤ BB (d + 1) := Nat.le_mul_of_pos_left _ (Nat.lt_of_lt_of_le (by decide) (BB_ge d))
    cases s with
    | no a => exact Nat.le_trans (ih (s := a) h) hle
    | both a b => exact Nat.mul_le_mul (ih h.1) (ih h.2)
    | either a b => exact Nat.mul_le_mul (ih h.1) (ih h.2)
    | _ => exact Nat.le_trans (Lf.wt T h) (BB_ge _)
end A_k53
namespace A_k53
open PySem L2 AL
theorem Fit.to {tg : List Str} {d e : Nat} {s : Sent} (h : Fit tg d s) (hde : d ≤ e) : Fit tg e s := by
  induction e with
  | zero => have : d = 0 := by omega
            subst this; exact h
  | succ e ih =>
    by_cases q : d = e + 1
    · subst q; exact h
    · exact (ih (by omega)).up
end A_k53
namespace A_k53.H
open PySem L2 AL
/-- a text of a sentence -/
def Own (own : Str) : Prop := okS own ∧ own.length ≤ 600
def leaf (n : Nat) : Sent → Prop
  | .long _ _ => True
  | .least k _ => k < n
  | .often own _ => Own own
  | .apart => True
  | .without own => Own own
  | .begins own => Own own
  | .ends own => Own own
  | .no _ => False
  | .both _ _ => False
  | .either _ _ => False
def Fit (n : Nat) : Nat → Sent → Prop
  | 0, _ => False
  | d + 1, .no s => Fit n d s
  | d + 1, .both s t => Fit n d s ∧ Fit n d t
  | d + 1, .either s t => Fit n d s ∧ Fit n d t
  | _ + 1, s => leaf n s
section
variable {C : AH} {P : D → AH → Prop}
theorem find_stands (w own : Str) : (!(Builtin.Str.occurrences w own 0 w.length 1).isEmpty) = !(stands w.cps.toList own.cps.toList).isEmpty := by
  rw [Bool.eq_iff_iff, PySem.StrLaws.found_iff]
  have hl : own.cps.toList.length = own.length := len_toList own
  have hw : w.cps.toList.length = w.length := len_toList w
  constructor
  · rintro ⟨i, h1, h2⟩
    rw [PySem.StrLaws.subAt_eq, beq_iff_eq] at h2
    have : i ∈ stands w.cps.toList own.cps.toList := by
      unfold stands
      rw [hl, hw]
      exact List.mem_filter.mpr ⟨List.mem_range.mpr (by omega), decide_eq_true h2⟩
    cases e : stands w.cps.toList own.cps.toList with
    | nil => rw [e] at this; cases this
    | cons a b => rfl
  · intro h
    cases e : stands w.cps.toList own.cps.toList with
    | nil => rw [e] at h; cases h
    | cons i b =>
      have hi : i ∈ stands w.cps.toList own.cps.toList := by rw [e]; exact List.mem_cons_self ..
      unfold stands at hi
      obtain ⟨h1, h2⟩ := List.mem_filter.mp hi
      rw [hl, hw] at h1
      rw [hl] at h2
      have h3 := List.mem_range.mp h1
      have h4 := of_decide_eq_true h2
      refine ⟨i, ?_, ?_⟩
      · have := congrArg List.length h4
        rw [List.length_take, List.length_drop, hl, hw] at this
        omega
      · rw [PySem.StrLaws.subAt_eq, beq_iff_eq]; exact h4
theorem g_ixTg {us : List D} {n : Nat} {d : D} (h1 : us[n]? = some d) (h : P d C) : aIx (.tup us) (.int (n : Int)) C P := g_ixT (atI_nat' h1) h
theorem blsD_map {α : Type} (f : α → Bool) : ∀ l : List α, blsD (l.map fun c => D.bl (f c)) = some (l.map f)
  | [] => rfl
  | a :: l => by
    show (blsD (l.map fun c => D.bl (f c))).map (f a :: ·) = _
    rw [blsD_map f l]
    rfl
theorem in_one (c : Nat) (z : Str) : (!(Builtin.Str.occurrences z ⟨#[c]⟩ 0 z.length 1).isEmpty) = decide (c ∈ z.cps.toList) := PySem.StrLaws.found_one ..
theorem signs_get {z : Str} {i : Nat} {d : D} (h : (signs z)[i]? = some d) : ∃ c, z.cps.toList[i]? = some c ∧ d = .str ⟨#[c]⟩ := by
  unfold signs at h
  rw [List.getElem?_map] at h
  cases e : z.cps.toList[i]? with
  | none => rw [e] at h; cases h
  | some c => rw [e] at h; exact ⟨c, rfl, (Option.some.inj h).symm⟩
theorem signs_len (z : Str) : (signs z).length = z.length := by unfold signs; rw [List.length_map, len_toList]
theorem filter_take (p : Nat → Bool) (l : List Nat) (i : Nat) (c : Nat) (h : l[i]? = some c) : (l.take (i + 1)).filter p = (l.take i).filter p ++ (if p c then [c] else []) := by
  rw [List.take_add_one, h, List.filter_append]
  congr 1
  cases e : p c <;> simp [e]
theorem g_scount {a : Str} {c : Nat} (h : P (.int ((a.cps.toList.filter fun b => decide (b = c)).length : Nat)) C) : aScount (.str a) [.str ⟨#[c]⟩] C P := by
  show P (.int (Txt.count a ⟨#[c]⟩)) C
  rw [count_one]
  exact h
theorem dI (a b : Nat) : decide ((a : Int) ≤ (b : Int)) = decide (a ≤ b) := decide_eq_decide.mpr Int.ofNat_le
theorem all_filter {p : Nat → Bool} : ∀ l : List Nat, (l.all fun x => !p x) = (l.filter p).isEmpty
  | [] => rfl
  | a :: l => by
    rw [List.all_cons, all_filter l, List.filter_cons]
    cases p a <;> rfl
theorem cut1_toList (w : Str) : (cutS w (some 1) none).cps.toList = w.cps.toList.drop 1 := by
  have e : (cutS w (some 1) none).cps.toList = (w.cps.toList.drop (HT.sIx w.length 0 (some 1))).take (HT.sIx w.length w.length none - HT.sIx w.length 0 (some 1)) := rfl
  have hl := len_toList w
  rw [e, HT.sIx_none, List.take_of_length_le (by rw [List.length_drop]; omega)]
  by_cases h : 1 ≤ w.length
  · have : HT.sIx w.length 0 (some 1) = 1 := by
      show HT.sIx w.length 0 (some ((1 : Nat) : Int)) = 1
      rw [HT.sIx_nat]; omega
    rw [this]
  · have h0 : w.cps.toList = [] := List.eq_nil_of_length_eq_zero (by omega)
    rw [h0]
    simp
set_option maxHeartbeats 4000000 in
theorem plain_ok {tg : List Str} {s : Sent} {w : Str} (hs : leaf tg.length s) (hw : w.length ≤ 1000) (k : P (.bl (hold tg w.cps.toList s)) C) : s_plain_holds [.tup (strsL tg), tree s, .str w] C P := by
  unfold s_plain_holds a_plain_holds
  have hwl := len_toList w
  cases s with
  | long lo hi =>
    unfold tree
    walk_at "go"
    refine g_ifT (fun K hK => by walk_at "go"; exact hK) ?_
    walk_at "go"
    refine g_lenS (by simp only [sizeLine]; omega) ?_
    walk_at "go"
    rw [dI]
    cases hi with
    | none =>
      simp only [hold] at k
      rw [hwl] at k
      refine g_kAnd (fun e => ?_) (fun e => ?_)
      · rw [e] at k
        walk_at "go"
        exact g_kOr (fun _ => k) (fun e => by cases e)
      · rw [e] at k
        exact k
    | some h =>
      simp only [hold] at k
      rw [hwl] at k
      refine g_kAnd (fun e => ?_) (fun e => ?_)
      · rw [e, Bool.true_and] at k
        walk_at "go"
        refine g_kOr (fun e => by cases e) (fun _ => ?_)
        walk_at "go"
        refine g_lenS (by simp only [sizeLine]; omega) ?_
        walk_at "go"
        show aLe (.int _) (.int (h : Int)) C P
        refine g_le ?_
        rw [dI]
        exact k
      · rw [e, Bool.false_and] at k
        exact k
  | least a m =>
    have ha : a < tg.length := hs
    unfold tree
    walk_at "go"
    refine g_ifF (fun K hK => by walk_at "go"; exact hK) ?_
    walk_at "go"
    refine g_ifT (fun K hK => by walk_at "go"; exact hK) ?_
    walk_at "go"
    refine g_kLc (fun i acc C' => acc = ((w.cps.toList.take i).filter fun c => decide (c ∈ (tg.getD a "").cps.toList)).map (fun c => D.str ⟨#[c]⟩) ∧ C' = C) (by rw [signs_len]; simp only [sizeLine]; omega) ⟨rfl, rfl⟩ (fun i d acc C' hi hw => ?_) (fun acc C' hw => ?_)
    · obtain ⟨rfl, rfl⟩ := hw
      obtain ⟨c, hc, rfl⟩ := signs_get hi
      rw [filter_take _ _ _ _ hc]
      walk_at "go"
      refine g_ixTg (d := .str (tg.getD a "")) (by unfold strsL; rw [List.getElem?_map, List.getElem?_eq_getElem ha]; simp [List.getD, List.getElem?_eq_getElem ha]) ?_
      walk_at "go"
      refine g_inS ?_
      rw [in_one]
      walk_at "go"
      by_cases hm : c ∈ (tg.getD a "").cps.toList
      · rw [decide_eq_true hm]
        walk_at "go"
        exact ⟨by simp, rfl⟩
      · rw [decide_eq_false hm]
        exact ⟨by simp, rfl⟩
    · obtain ⟨rfl, rfl⟩ := hw
      rw [signs_len, ← hwl, List.take_length]
      walk_at "go"
      rw [List.length_map]
      refine g_ge ?_
      rw [dI]
      exact k
  | often own m =>
    have h2 := hs.2
    unfold tree
    walk_at "go"
    refine g_ifF (fun K hK => by walk_at "go"; exact hK) ?_
    walk_at "go"
    refine g_ifF (fun K hK => by walk_at "go"; exact hK) ?_
    walk_at "go"
    refine g_ifT (fun K hK => by walk_at "go"; exact hK) ?_
    walk_at "go"
    refine g_kLcMap (fun d => match d with | .str y => .bl (decide ((w.cps.toList.filter fun b => decide (b = y.cps.getD 0 0)).length ≤ m)) | d => d) ?_ (fun d hd R hR => ?_) ?_
    · rw [signs_len]; simp only [sizeLine]; omega
    · obtain ⟨c, hc, rfl⟩ := List.mem_map.mp (show d ∈ own.cps.toList.map fun c => D.str ⟨#[c]⟩ from hd)
      walk_at "go"
      refine g_scount ?_
      walk_at "go"
      refine g_le ?_
      rw [dI]
      exact hR
    have e2 : (signs own).map (fun d => match d with | .str y => .bl (decide ((w.cps.toList.filter fun b => decide (b = y.cps.getD 0 0)).length ≤ m)) | d => d) = own.cps.toList.map fun c => D.bl (decide ((w.cps.toList.filter fun b => decide (b = c)).length ≤ m)) := by
      unfold signs
      rw [List.map_map]
      rfl
    rw [e2]
    walk_at "go"
    refine g_all (blsD_map _ _) ?_
    rw [List.all_map]
    exact k
  | apart =>
    unfold tree
    walk_at "go"
    refine g_ifF (fun K hK => by walk_at "go"; exact hK) ?_
    walk_at "go"
    refine g_ifF (fun K hK => by walk_at "go"; exact hK) ?_
    walk_at "go"
    refine g_ifF (fun K hK => by walk_at "go"; exact hK) ?_
    walk_at "go"
    refine g_ifT (fun K hK => by walk_at "go"; exact hK) ?_
    walk_at "go"
    refine g_izG ?_
    walk_at "go"
    refine ⟨by simp only [sizeLine]; omega, ?_⟩
    walk_at "go"
    refine g_kIZG (fun _ => rfl) (fun _ => rfl) ?_
    have hzl : (zipD (signs w) (signs (cutS w (some 1) none))).length = w.length - 1 := by
      unfold zipD
      rw [List.length_map, List.length_zip, signs_len, signs_len, ← len_toList (cutS w (some 1) none), cut1_toList, List.length_drop, hwl]
      omega
    refine g_kLc (fun i acc C' => acc = (List.range i).map (fun j => D.bl (!decide (w.cps.toList.getD j 0 = w.cps.toList.getD (j + 1) 0))) ∧ C' = C) (by rw [hzl]; simp only [sizeLine]; omega) ⟨rfl, rfl⟩ (fun i d acc C' hi hw => ?_) (fun acc C' hw => ?_)
    · obtain ⟨rfl, rfl⟩ := hw
      obtain ⟨x, y, hx, hy, rfl⟩ := zipD_inv hi
      obtain ⟨c, hc, rfl⟩ := signs_get hx
      obtain ⟨b, hb, rfl⟩ := signs_get hy
      rw [cut1_toList, List.getElem?_drop] at hb
      rw [Nat.add_comm 1 i] at hb
      walk_at "go"
      refine ⟨?_, rfl⟩
      rw [List.range_succ, List.map_append]
      simp only [List.map_cons, List.map_nil, List.getD, hc, hb, Option.getD_some]
      have e : decide ((⟨#[c]⟩ : Str) = ⟨#[b]⟩) = decide (c = b) := decide_eq_decide.mpr ⟨fun z => by have := congrArg (fun s : Str => s.cps.toList) z; simpa using this, fun z => by rw [z]⟩
      rw [e]
    · obtain ⟨rfl, rfl⟩ := hw
      rw [hzl]
      walk_at "go"
      refine g_all (blsD_map _ _) ?_
      rw [List.all_map]
      have e := all_filter (p := fun j => decide (w.cps.toList.getD j 0 = w.cps.toList.getD (j + 1) 0)) (List.range (w.length - 1))
      simp only [hold, dbl] at k
      rw [hwl, ← e] at k
      exact k
  | without own =>
    unfold tree
    walk_at "go"
    refine g_ifF (fun K hK => by walk_at "go"; exact hK) ?_
    walk_at "go"
    refine g_ifF (fun K hK => by walk_at "go"; exact hK) ?_
    walk_at "go"
    refine g_ifF (fun K hK => by walk_at "go"; exact hK) ?_
    walk_at "go"
    refine g_ifF (fun K hK => by walk_at "go"; exact hK) ?_
    walk_at "go"
    refine g_ifT (fun K hK => by walk_at "go"; exact hK) ?_
    walk_at "go"
    refine g_ninS ?_
    rw [find_stands, Bool.not_not]
    exact k
  | begins own =>
    unfold tree
    walk_at "go"
    refine g_ifF (fun K hK => by walk_at "go"; exact hK) ?_
    walk_at "go"
    refine g_ifF (fun K hK => by walk_at "go"; exact hK) ?_
    walk_at "go"
    refine g_ifF (fun K hK => by walk_at "go"; exact hK) ?_
    walk_at "go"
    refine g_ifF (fun K hK => by walk_at "go"; exact hK) ?_
    walk_at "go"
    refine g_ifF (fun K hK => by walk_at "go"; exact hK) ?_
    walk_at "go"
    refine g_ifT (fun K hK => by walk_at "go"; exact hK) ?_
    walk_at "go"
    exact g_starts k
  | ends own =>
    simp only [hold] at k
    rw [hwl] at k
    unfold tree
    walk_at "go"
    refine g_ifF (fun K hK => by walk_at "go"; exact hK) ?_
    walk_at "go"
    refine g_ifF (fun K hK => by walk_at "go"; exact hK) ?_
    walk_at "go"
    refine g_ifF (fun K hK => by walk_at "go"; exact hK) ?_
    walk_at "go"
    refine g_ifF (fun K hK => by walk_at "go"; exact hK) ?_
    walk_at "go"
    refine g_ifF (fun K hK => by walk_at "go"; exact hK) ?_
    walk_at "go"
    refine g_ifF (fun K hK => by walk_at "go"; exact hK) ?_
    walk_at "go"
    exact g_ends k
  | _ => exact hs.elim
end
end A_k53.H
namespace A_k53.H
open PySem L2 AL
def kids : Sent → List Sent
  | .no s => [s]
  | .both s t => [s, t]
  | .either s t => [s, t]
  | _ => []
def size : Sent → Nat
  | .no s => 1 + size s
  | .both s t => 1 + size s + size t
  | .either s t => 1 + size s + size t
  | _ => 1
theorem fit_kids {n d : Nat} {s : Sent} (h : Fit n (d + 1) s) : ∀ c ∈ kids s, Fit n d c := by
  cases s with
  | no s => exact fun c hc => by rw [List.mem_singleton.mp hc]; exact h
  | both s t =>
      intro c hc
      simp only [kids, List.mem_cons, List.not_mem_nil, or_false] at hc
      rcases hc with rfl | rfl
      · exact h.1
      · exact h.2
  | either s t =>
      intro c hc
      simp only [kids, List.mem_cons, List.not_mem_nil, or_false] at hc
      rcases hc with rfl | rfl
      · exact h.1
      · exact h.2
  | _ => exact fun c hc => by cases hc
section
variable {C : AH} {P : D → AH → Prop}
theorem g_cutDropT {us : List D} {j : Nat} (h0 : P (.tup (us.drop j)) C) : aCut (.tup us) (some (j : Int)) none C P := by
  show P (.tup (cutD us (some (j : Int)) none)) C
  rw [cutD_drop]; exact h0
theorem parts_leaf {x : Str} {ds : List D} (hx : inV (.str x) [.str "not", .str "both", .str "either"] = false) (k : P (.lst []) C) : s_parts_of [.tup (.str x :: ds)] C P := by
  unfold s_parts_of a_parts_of
  walk_at "go"
  refine g_ifF (fun K hK => ?_) ?_
  · walk_at "go"
    refine g_in rfl rfl ?_
    rw [if_neg (by decide), hx]
    exact hK
  walk_at "go"
  exact k
theorem parts_node {x : Str} {ds : List D} (hx : inV (.str x) [.str "not", .str "both", .str "either"] = true) (k : P (.lst ds) C) : s_parts_of [.tup (.str x :: ds)] C P := by
  unfold s_parts_of a_parts_of
  walk_at "go"
  refine g_ifT (fun K hK => ?_) ?_
  · walk_at "go"
    refine g_in rfl rfl ?_
    rw [if_neg (by decide), hx]
    exact hK
  walk_at "go"
  refine g_cutDropT (j := 1) ?_
  walk_at "go"
  exact k
theorem parts_ok {s : Sent} (k : P (.lst ((kids s).map tree)) C) : s_parts_of [tree s] C P := by
  cases s with
  | no s => exact parts_node (x := "not") (ds := [tree s]) (by decide +kernel) k
  | both s t => exact parts_node (x := "both") (ds := [tree s, tree t]) (by decide +kernel) k
  | either s t => exact parts_node (x := "either") (ds := [tree s, tree t]) (by decide +kernel) k
  | long lo hi => exact parts_leaf (x := "long") (by decide +kernel) k
  | least a m => exact parts_leaf (x := "least") (by decide +kernel) k
  | often a m => exact parts_leaf (x := "often") (by decide +kernel) k
  | apart => exact parts_leaf (x := "apart") (by decide +kernel) k
  | without a => exact parts_leaf (x := "without") (by decide +kernel) k
  | begins a => exact parts_leaf (x := "begins") (by decide +kernel) k
  | ends a => exact parts_leaf (x := "ends") (by decide +kernel) k
end
set_option maxHeartbeats 4000000 in
theorem holds_ok {tg : List Str} {w : Str} (hw : w.length ≤ 1000) : ∀ (d : Nat) (s : Sent), Fit tg.length d s → ∀ (k' : Nat), d ≤ k' → ∀ (C : AH) (P : D → AH → Prop), P (.bl (hold tg w.cps.toList s)) C → s_holds k' [.tup (strsL tg), tree s, .str w] C P := by
  intro d
  induction d with
  | zero => intro s h; exact h.elim
  | succ d ih =>
    intro s hs k' hk C P k
    obtain ⟨k', rfl⟩ : ∃ k'', k' = k'' + 1 := ⟨k' - 1, by omega⟩
    show aBody 5 (a_holds (s_holds k')) _ C P
    unfold a_holds
    walk_at "go"
    refine parts_ok ?_
    walk_at "go"
    have hc := fit_kids hs
    have h2 : (kids s).length ≤ 2 := by cases s <;> simp [kids]
    refine g_kLc (fun i acc C' => acc = ((kids s).take i).map (fun c => D.bl (hold tg w.cps.toList c)) ∧ C' = C) (by rw [List.length_map]; simp only [sizeLine]; omega) ⟨rfl, rfl⟩ (fun i d acc C' hi hh => ?_) (fun acc C' hh => ?_)
    · obtain ⟨rfl, rfl⟩ := hh
      rw [List.getElem?_map] at hi
      cases e : (kids s)[i]? with
      | none => rw [e] at hi; cases hi
      | some c =>
        rw [e] at hi
        cases hi
        walk_at "go"
        refine ih c (hc c (List.mem_of_getElem? e)) k' (by omega) _ _ ⟨?_, rfl⟩
        rw [List.take_add_one, e, List.map_append]
        rfl
    obtain ⟨rfl, rfl⟩ := hh
    rw [List.length_map, List.take_length]
    cases s with
    | no s =>
      simp only [kids, List.map_cons, List.map_nil]
      unfold tree
      walk_at "go"
      refine g_ifT (fun K hK => by walk_at "go"; exact hK) ?_
      walk_at "go"
      exact k
    | both s t =>
      simp only [kids, List.map_cons, List.map_nil]
      unfold tree
      walk_at "go"
      refine g_ifF (fun K hK => by walk_at "go"; exact hK) ?_
      walk_at "go"
      refine g_ifT (fun K hK => by walk_at "go"; exact hK) ?_
      walk_at "go"
      simp only [hold] at k
      refine g_kAnd (fun e => ?_) (fun e => ?_)
      · rw [e, Bool.true_and] at k
        walk_at "go"
        exact k
      · rw [e, Bool.false_and] at k
        exact k
    | either s t =>
      simp only [kids, List.map_cons, List.map_nil]
      unfold tree
      walk_at "go"
      refine g_ifF (fun K hK => by walk_at "go"; exact hK) ?_
      walk_at "go"
      refine g_ifF (fun K hK => by walk_at "go"; exact hK) ?_
      walk_at "go"
      refine g_ifT (fun K hK => by walk_at "go"; exact hK) ?_
      walk_at "go"
      simp only [hold] at k
      refine g_kOr (fun e => ?_) (fun e => ?_)
      · rw [e, Bool.true_or] at k
        exact k
      · rw [e, Bool.false_or] at k
        walk_at "go"
        exact k
    | _ =>
      have q := plain_ok (P := P) (C := C') hs hw k
      unfold tree at q ⊢
      walk_at "go"
      refine g_ifF (fun K hK => by walk_at "go"; exact hK) ?_
      walk_at "go"
      refine g_ifF (fun K hK => by walk_at "go"; exact hK) ?_
      walk_at "go"
      refine g_ifF (fun K hK => by walk_at "go"; exact hK) ?_
      walk_at "go"
      exact q
end A_k53.H
namespace A_k53
open PySem L2 AL
section
def Ot2 (p r : Addr) (C C' : AH) : Prop := ∀ a c, a ≠ p → a ≠ r → C a = some c → C' a = some c
theorem Ot2.trans {p r : Addr} {C C1 C2 : AH} (a : Ot2 p r C C1) (b : Ot2 p r C1 C2) : Ot2 p r C C2 := fun x c n m h => b x c n m (a x c n m h)
theorem Ot2.r {p r : Addr} {C : AH} {c : Cell} : Ot2 p r C (put C r c) := fun x d n m h => put_other m h
theorem Ot2.p {p r : Addr} {C : AH} {c : Cell} : Ot2 p r C (put C p c) := fun x d n m h => put_other n h
theorem Ot2.of {p r : Addr} {C C' : AH} (h : Oth p C C') : Ot2 p r C C' := fun x c n m e => h x c n e
theorem lsent2_ok {tg : List Str} (T : Tng tg) {g : Nat} (hg : g ≤ 1) : ∀ (d : Nat), ∀ (f : Nat), d ≤ f → ∀ (C : AH) (P : D → AH → Prop) (p r : Addr), Pen C p → Room1 C r → p ≠ r →
    (∀ s C', Fit tg (d + 1) s → Pen C' p → Room1 C' r → Ot2 p r C C' → P (tree s) C') → s_law_sentence (f + 1) [.ce p, .tup (strsL tg), .int g, .int ((d + 1 : Nat) : Int), .ce r] C P := by
  intro d
  induction d with
  | zero =>
    intro f hf C P p r hp hr hpr k
    show aBody 7 (a_law_sentence (s_law_sentence f)) _ C P
    unfold a_law_sentence
    obtain ⟨y, hr⟩ := hr
    walk_at "go"
    rw [show [D.int y].set (Int.toNat 0) (D.int (y - 1)) = [D.int (y - 1)] from rfl]
    have hP := hp.other (c := .lst [.int (y - 1)]) hpr
    have hC : (put C r (.lst [.int (y - 1)])) r = some (.lst [.int (y - 1)]) := put_same
    have hO := Ot2.r (p := p) (r := r) (C := C) (c := .lst [.int (y - 1)])
    generalize put C r (.lst [.int (y - 1)]) = C1 at hP hC hO ⊢
    walk_at "go"
    refine take_nat (m := 8) hP (by omega) (by omega) fun c way hc hway => ?_
    have hP2 := pen_put (C := C1) (p := p) hc
    have hC2 := put_other (d := c) hpr.symm hC
    have hO := hO.trans (Ot2.p (r := r) (C := C1) (c := c))
    generalize put C1 p c = C2 at hP2 hC2 hO ⊢
    walk_at "go"
    refine g_ifF (fun K hK => ?_) ?_
    · walk_at "go"
      by_cases hA : (way : Int) = 0
      · rw [decide_eq_true hA, if_pos rfl]
        walk_at "go"
        rw [decide_eq_false (show ¬ (1 : Int) < ((0 + 1 : Nat) : Int) by omega), if_neg Bool.false_ne_true]
        exact hK
      · rw [decide_eq_false hA, if_neg Bool.false_ne_true]
        exact hK
    walk_at "go"
    refine g_ifF (fun K hK => ?_) ?_
    · walk_at "go"
      refine g_in rfl rfl ?_
      rw [if_neg (by decide)]
      rw [in12 hway]
      by_cases hA : way = 1 ∨ way = 2
      · rw [decide_eq_true hA]
        walk_at "go"
        rw [decide_eq_false (show ¬ (1 : Int) < ((0 + 1 : Nat) : Int) by omega)]
        walk_at "go"
        exact hK
      · rw [decide_eq_false hA]
        walk_at "go"
        exact hK
    walk_at "go"
    exact lplain_ok hP2 T hg fun s C' hs hP' hS => k s C' (Lf.fit hs 0) hP' ⟨_, hS r _ hpr.symm hC2⟩ (hO.trans (.of hS))
  | succ d ih =>
    intro f hf C P p r hp hr hpr k
    obtain ⟨f', rfl⟩ : ∃ f', f = f' + 1 := ⟨f - 1, by omega⟩
    show aBody 7 (a_law_sentence (s_law_sentence (f' + 1))) _ C P
    unfold a_law_sentence
    obtain ⟨y, hr⟩ := hr
    walk_at "go"
    rw [show [D.int y].set (Int.toNat 0) (D.int (y - 1)) = [D.int (y - 1)] from rfl]
    have hP := hp.other (c := .lst [.int (y - 1)]) hpr
    have hC : (put C r (.lst [.int (y - 1)])) r = some (.lst [.int (y - 1)]) := put_same
    have hO := Ot2.r (p := p) (r := r) (C := C) (c := .lst [.int (y - 1)])
    generalize put C r (.lst [.int (y - 1)]) = C1 at hP hC hO ⊢
    generalize y - 1 = y at hC ⊢
    walk_at "go"
    refine take_nat (m := 8) hP (by omega) (by omega) fun c way hc hway => ?_
    have hP2 := pen_put (C := C1) (p := p) hc
    have hC2 := put_other (d := c) hpr.symm hC
    have hO := hO.trans (Ot2.p (r := r) (C := C1) (c := c))
    generalize put C1 p c = C2 at hP2 hC2 hO ⊢
    walk_at "go"
    have e1 : ((d + 1 + 1 : Nat) : Int) - 1 = ((d + 1 : Nat) : Int) := by omega
    by_cases h1 : way = 0 ∧ 0 < y
    · refine g_ifT (fun K hK => ?_) ?_
      · walk_at "go"
        rw [decide_eq_true (show (way : Int) = 0 by omega), if_pos rfl]
        walk_at "go"
        rw [decide_eq_true (show (1 : Int) < ((d + 1 + 1 : Nat) : Int) by omega), if_pos rfl]
        walk_at "go"
        rw [decide_eq_true h1.2]
        exact hK
      walk_at "go"
      rw [e1]
      refine ih f' (by omega) _ _ p r hP2 ⟨_, hC2⟩ hpr fun s C' hs hP' hR' hO' => ?_
      walk_at "go"
      exact k (.no s) _ hs hP' hR' (hO.trans hO')
    refine g_ifF (fun K hK => ?_) ?_
    · walk_at "go"
      by_cases hA : (way : Int) = 0
      · rw [decide_eq_true hA, if_pos rfl]
        walk_at "go"
        rw [decide_eq_true (show (1 : Int) < ((d + 1 + 1 : Nat) : Int) by omega), if_pos rfl]
        walk_at "go"
        rw [decide_eq_false (fun z => h1 ⟨by omega, z⟩)]
        exact hK
      · rw [decide_eq_false hA, if_neg Bool.false_ne_true]
        exact hK
    walk_at "go"
    by_cases h2 : (way = 1 ∨ way = 2) ∧ 1 < y
    · refine g_ifT (fun K hK => ?_) ?_
      · walk_at "go"
        refine g_in rfl rfl ?_
        rw [if_neg (by decide)]
        rw [in12 hway, decide_eq_true h2.1]
        walk_at "go"
        rw [decide_eq_true (show (1 : Int) < ((d + 1 + 1 : Nat) : Int) by omega)]
        walk_at "go"
        rw [decide_eq_true h2.2]
        exact hK
      walk_at "go"
      rw [show [D.int y].set (Int.toNat 0) (D.int (y - 1)) = [D.int (y - 1)] from rfl]
      have hP3 := hP2.other (c := .lst [.int (y - 1)]) hpr
      have hC3 : (put C2 r (.lst [.int (y - 1)])) r = some (.lst [.int (y - 1)]) := put_same
      have hO := hO.trans (Ot2.r (p := p) (C := C2) (c := .lst [.int (y - 1)]))
      generalize put C2 r (.lst [.int (y - 1)]) = C3 at hP3 hC3 hO ⊢
      walk_at "go"
      rw [e1]
      refine ih f' (by omega) _ _ p r hP3 ⟨_, hC3⟩ hpr fun s C4 hs hP4 hR4 hO4 => ?_
      obtain ⟨z, hR4⟩ := hR4
      walk_at "go"
      rw [show [D.int z].set (Int.toNat 0) (D.int (z + 1)) = [D.int (z + 1)] from rfl]
      have hP5 := hP4.other (c := .lst [.int (z + 1)]) hpr
      have hC5 : (put C4 r (.lst [.int (z + 1)])) r = some (.lst [.int (z + 1)]) := put_same
      have hO := (hO.trans hO4).trans (Ot2.r (p := p) (C := C4) (c := .lst [.int (z + 1)]))
      generalize put C4 r (.lst [.int (z + 1)]) = C5 at hP5 hC5 hO ⊢
      walk_at "go"
      have hwy : (atI [D.str "both", D.str "either"] ((way : Int) - 1) = some (.str "both")) ∨ (atI [D.str "both", D.str "either"] ((way : Int) - 1) = some (.str "either")) := by
        rcases h2.1 with rfl | rfl
        · exact .inl rfl
        · exact .inr rfl
      rcases hwy with hx | hx
      · refine g_ixL hx ?_
        walk_at "go"
        rw [e1]
        refine ih f' (by omega) _ _ p r hP5 ⟨_, hC5⟩ hpr fun t C6 ht hP6 hR6 hO6 => ?_
        walk_at "go"
        exact k (.both s t) _ ⟨hs, ht⟩ hP6 hR6 (hO.trans hO6)
      · refine g_ixL hx ?_
        walk_at "go"
        rw [e1]
        refine ih f' (by omega) _ _ p r hP5 ⟨_, hC5⟩ hpr fun t C6 ht hP6 hR6 hO6 => ?_
        walk_at "go"
        exact k (.either s t) _ ⟨hs, ht⟩ hP6 hR6 (hO.trans hO6)
    refine g_ifF (fun K hK => ?_) ?_
    · walk_at "go"
      refine g_in rfl rfl ?_
      rw [if_neg (by decide)]
      rw [in12 hway]
      by_cases hA : way = 1 ∨ way = 2
      · rw [decide_eq_true hA]
        walk_at "go"
        rw [decide_eq_true (show (1 : Int) < ((d + 1 + 1 : Nat) : Int) by omega)]
        walk_at "go"
        rw [decide_eq_false (fun z => h2 ⟨hA, z⟩)]
        exact hK
      · rw [decide_eq_false hA]
        walk_at "go"
        exact hK
    walk_at "go"
    exact lplain_ok hP2 T hg fun s C' hs hP' hS => k s C' (Lf.fit hs (d + 1)) hP' ⟨_, hS r _ hpr.symm hC2⟩ (hO.trans (.of hS))
end
end A_k53
namespace A_k53
open PySem L2 AL
theorem toVs_strs : ∀ ys : List Str, toVs (strsL ys) = some (ys.map V.str)
  | [] => rfl
  | y :: ys => by
    show (match toV (.str y), toVs (strsL ys) with | some v, some vs => some (v :: vs) | _, _ => none) = _
    rw [toVs_strs ys]
    rfl
theorem beq_swap (a w : Str) : (a == w) = decide (w = a) := by
  by_cases h : w = a
  · subst h; simp
  · rw [decide_eq_false h]
    exact beq_eq_false_iff_ne.mpr (Ne.symm h)
theorem inV_strs (w : Str) : ∀ ys : List Str, inV (.str w) (ys.map V.str) = decide (w ∈ ys)
  | [] => rfl
  | y :: ys => by
    have : inV (.str w) ((y :: ys).map V.str) = (eqV (.str y) (.str w) || inV (.str w) (ys.map V.str)) := rfl
    rw [this, inV_strs w ys, show eqV (.str y) (.str w) = (y == w) from rfl, beq_swap]
    simp [Bool.decide_or]
theorem toVs_bls : ∀ bs : List Bool, toVs (bs.map D.bl) = some (bs.map V.bl)
  | [] => rfl
  | b :: bs => by
    show (match toV (.bl b), toVs (bs.map D.bl) with | some v, some vs => some (v :: vs) | _, _ => none) = _
    rw [toVs_bls bs]
    rfl
theorem inV_bls : ∀ bs : List Bool, inV (.bl false) (bs.map V.bl) = !bs.all id
  | [] => rfl
  | b :: bs => by
    have : inV (.bl false) ((b :: bs).map V.bl) = (eqV (.bl b) (.bl false) || inV (.bl false) (bs.map V.bl)) := rfl
    rw [this, inV_bls bs]
    cases b <;> rfl
section
variable {C : AH} {P : D → AH → Prop}
theorem g_inStrs {w : Str} {ys : List Str} (k : P (.bl (decide (w ∈ ys))) C) : aInL (.str w) (.lst (strsL ys)) C P := by
  show (match some (V.str w), (some (strsL ys)).bind toVs with | some u, some us => P (.bl (if false then !inV u us else inV u us)) C | _, _ => False)
  rw [Option.bind_some, toVs_strs]
  show P (.bl (inV (.str w) _)) C
  rw [inV_strs]
  exact k
theorem g_inBls {bs : List Bool} (k : P (.bl (!bs.all id)) C) : aInL (.bl false) (.lst (bs.map D.bl)) C P := by
  show (match some (V.bl false), (some (bs.map D.bl)).bind toVs with | some u, some us => P (.bl (if false then !inV u us else inV u us)) C | _, _ => False)
  rw [Option.bind_some, toVs_bls]
  show P (.bl (inV (.bl false) _)) C
  rw [inV_bls]
  exact k
theorem Lf.leaf {tg : List Str} (T : Tng tg) {s : Sent} (h : Lf tg s) : H.leaf tg.length s := by
  cases s with
  | long => trivial
  | least a m => exact h.1
  | often own m => exact ⟨T.ok h.2.2.1, by have := h.2.1; omega⟩
  | apart => trivial
  | without own => exact ⟨T.ok h.2.2, by have := h.2.1; omega⟩
  | begins own => exact ⟨T.ok h.2.2, by have := h.2.1; omega⟩
  | ends own => exact ⟨T.ok h.2.2, by have := h.2.1; omega⟩
  | _ => exact h.elim
theorem Fit.hfit {tg : List Str} (T : Tng tg) : ∀ {d : Nat} {s : Sent}, Fit tg d s → H.Fit tg.length d s
  | 0, _, h => h.elim
  | d + 1, s, h => by
    cases s with
    | no a => exact Fit.hfit T (d := d) h
    | both a b => exact ⟨Fit.hfit T (d := d) h.1, Fit.hfit T (d := d) h.2⟩
    | either a b => exact ⟨Fit.hfit T (d := d) h.1, Fit.hfit T (d := d) h.2⟩
    | _ => exact Lf.leaf T h
theorem holds8 {tg : List Str} (T : Tng tg) {d : Nat} {s : Sent} {w : Str} (h : Fit tg d s) (hd : d ≤ 8) (hw : w.length ≤ 1000) (k : P (.bl (hold tg (cs w) s)) C) : s_holds 8 [.tup (strsL tg), tree s, .str w] C P := H.holds_ok hw d s (h.hfit T) 8 hd C P k
/-- the law's own look -/
theorem lholds_ok {tg : List Str} (T : Tng tg) {w : Str} (hw : w.length ≤ 1000) : ∀ (d : Nat) (s : Sent), d ≤ 20 → Fit tg d s → ∀ (f : Nat), d ≤ f → ∀ (C : AH) (P : D → AH → Prop), P (.bl (hold tg (cs w) s)) C → s_law_holds f [.tup (strsL tg), tree s, .str w] C P := by
  intro d
  induction d with
  | zero => intro s _ h; exact h.elim
  | succ d ih =>
    intro s hd20 h f hf C P k
    cases f with
    | zero => omega
    | succ f =>
      have leaf : Lf tg s → (∃ x ds, tree s = .tup (.str x :: ds) ∧ decide (x = "not") = false ∧ inV (.str x) [.str "both", .str "either"] = false) → s_law_holds (f + 1) [.tup (strsL tg), tree s, .str w] C P := fun hl ⟨x, ds, ex, h1, h2⟩ => by
        have q := lp_ok (P := P) (C := C) hl hw k
        show aBody 6 (a_law_holds (s_law_holds f)) _ C P
        unfold a_law_holds
        rw [ex] at q ⊢
        walk_at "go"
        refine g_ifF (fun K hK => by walk_at "go"; rw [h1]; exact hK) ?_
        walk_at "go"
        refine g_ifF (fun K hK => by walk_at "go"; exact g_inB rfl h2 hK) ?_
        walk_at "go"
        exact q
      cases s with
      | no a =>
        show aBody 6 (a_law_holds (s_law_holds f)) _ C P
        unfold a_law_holds tree
        walk_at "go"
        refine g_ifT (fun K hK => by walk_at "go"; exact hK) ?_
        walk_at "go"
        refine ih a (by omega) h f (by omega) _ _ ?_
        walk_at "go"
        exact k
      | both a b =>
        show aBody 6 (a_law_holds (s_law_holds f)) _ C P
        unfold a_law_holds tree
        walk_at "go"
        refine g_ifF (fun K hK => by walk_at "go"; exact hK) ?_
        walk_at "go"
        refine g_ifT (fun K hK => by walk_at "go"; exact g_inB rfl (by decide +kernel) hK) ?_
        walk_at "go"
        refine ih a (by omega) h.1 f (by omega) _ _ ?_
        walk_at "go"
        refine ih b (by omega) h.2 f (by omega) _ _ ?_
        simp only [hold] at k
        generalize hold tg (cs w) a = x at k ⊢
        generalize hold tg (cs w) b = y at k ⊢
        walk_at "go"
        refine g_kAnd (fun e => ?_) (fun e => ?_)
        · walk_at "go"
          refine g_kOr (fun e2 => ?_) (fun e2 => by rw [e] at e2; cases e2)
          walk_at "go"
          rw [e, Bool.true_and] at k
          exact g_ixL0 k
        · walk_at "go"
          refine g_kOr (fun e2 => by rw [e] at e2; cases e2) (fun e2 => ?_)
          walk_at "go"
          rw [e, Bool.false_and] at k
          exact g_ixL0 k
      | either a b =>
        show aBody 6 (a_law_holds (s_law_holds f)) _ C P
        unfold a_law_holds tree
        walk_at "go"
        refine g_ifF (fun K hK => by walk_at "go"; exact hK) ?_
        walk_at "go"
        refine g_ifT (fun K hK => by walk_at "go"; exact g_inB rfl (by decide +kernel) hK) ?_
        walk_at "go"
        refine ih a (by omega) h.1 f (by omega) _ _ ?_
        walk_at "go"
        refine ih b (by omega) h.2 f (by omega) _ _ ?_
        simp only [hold] at k
        generalize hold tg (cs w) a = x at k ⊢
        generalize hold tg (cs w) b = y at k ⊢
        walk_at "go"
        refine g_kAnd (fun e => ?_) (fun e => ?_)
        · walk_at "go"
          refine g_kOr (fun e2 => ?_) (fun e2 => by rw [e] at e2; cases e2)
          walk_at "go"
          rw [e, Bool.true_or] at k
          exact g_ixL1 k
        · walk_at "go"
          refine g_kOr (fun e2 => by rw [e] at e2; cases e2) (fun e2 => ?_)
          walk_at "go"
          rw [e, Bool.false_or] at k
          exact g_ixL1 k
      | long lo hi => exact leaf h ⟨_, _, rfl, by decide +kernel, by decide +kernel⟩
      | least a m => exact leaf h ⟨_, _, rfl, by decide +kernel, by decide +kernel⟩
      | often own m => exact leaf h ⟨_, _, rfl, by decide +kernel, by decide +kernel⟩
      | apart => exact leaf h ⟨_, _, rfl, by decide +kernel, by decide +kernel⟩
      | without own => exact leaf h ⟨_, _, rfl, by decide +kernel, by decide +kernel⟩
      | begins own => exact leaf h ⟨_, _, rfl, by decide +kernel, by decide +kernel⟩
      | ends own => exact leaf h ⟨_, _, rfl, by decide +kernel, by decide +kernel⟩
/-- all of a rule -/
theorem keeps_ok {tg : List Str} (T : Tng tg) {ss : List Sent} {w : Str} (hs : ∀ s ∈ ss, Fit tg 8 s) (hl : ss.length ≤ 1000) (hw : w.length ≤ 1000) (k : P (.bl (ss.all fun s => hold tg (cs w) s)) C) : s_keeps [ruleD tg ss, .str w] C P := by
  unfold s_keeps a_keeps ruleD
  walk_at "go"
  refine g_kLc (fun i acc C' => acc = ((ss.take i).map fun s => D.bl (hold tg (cs w) s)) ∧ C' = C) (by rw [List.length_map]; simp only [sizeLine]; omega) ⟨rfl, rfl⟩ (fun i d acc C' hi hw' => ?_) (fun acc C' hw' => ?_)
  · obtain ⟨rfl, rfl⟩ := hw'
    rw [List.getElem?_map] at hi
    cases e : ss[i]? with
    | none => rw [e] at hi; cases hi
    | some s =>
      rw [e] at hi
      cases hi
      walk_at "go"
      refine holds8 T (hs s (List.mem_of_getElem? e)) (Nat.le_refl _) hw ?_
      refine ⟨?_, rfl⟩
      rw [List.take_add_one, e, List.map_append]
      rfl
  · obtain ⟨rfl, rfl⟩ := hw'
    rw [List.length_map, List.take_length]
    walk_at "go"
    refine g_all (H.blsD_map _ _) ?_
    rw [List.all_map]
    exact k
theorem has_ok {tg : List Str} (T : Tng tg) {z : Str} (hz : z.length ≤ 8000) (k : P (.bl ((cs z).all fun c => decide (c ∈ zs tg))) C) : s_has_signs [.tup (strsL tg), .str z] C P := by
  unfold s_has_signs a_has_signs
  walk_at "go"
  refine signs_of_ok T ?_
  walk_at "go"
  refine g_kLcMap (fun d => match d with | .str y => .bl (decide (y.cps.getD 0 0 ∈ zs tg)) | d => d) ?_ (fun d hd R hR => ?_) ?_
  · unfold signs; rw [List.length_map, len_toList]; simp only [sizeLine]; omega
  · obtain ⟨c, hc, rfl⟩ := List.mem_map.mp (show d ∈ z.cps.toList.map fun c => D.str ⟨#[c]⟩ from hd)
    walk_at "go"
    refine g_inS ?_
    rw [in_one]
    exact hR
  have e2 : (signs z).map (fun d => match d with | .str y => .bl (decide (y.cps.getD 0 0 ∈ zs tg)) | d => d) = z.cps.toList.map fun c => D.bl (decide (c ∈ zs tg)) := by
    unfold signs
    rw [List.map_map]
    rfl
  rw [e2]
  walk_at "go"
  refine g_all (H.blsD_map _ _) ?_
  rw [List.all_map]
  exact k
end
end A_k53
namespace A_k53
open PySem L2 AL
def unl (a b : List Nat) : Nat := ((List.range a.length).filter fun i => !decide (a.getD i 0 = b.getD i 0)).length
theorem unl_swap {a b : List Nat} (h : a.length = b.length) : unl a b = unl b a := by
  unfold unl
  rw [h]
  congr 1
  refine List.filter_congr fun i _ => ?_
  rw [decide_eq_decide.mpr ⟨Eq.symm, Eq.symm⟩]
def wyZ (tg : List Str) (ss : List Sent) (words : List Str) (look spots : Nat) (z : Str) : D :=
  if (decide (24 < z.length) || !((cs z).all fun c => decide (c ∈ zs tg))) = true then .str "word"
  else if (ss.all fun s => hold tg (cs z) s) = false then .str "fit"
  else if z ∈ words.drop (words.length - look) then .str "elder"
  else match words.getLast? with
    | some l => if l.length = z.length ∧ unl (cs l) (cs z) < spots then .str "near" else .non
    | none => .non
def wy (tg : List Str) (ss : List Sent) (words : List Str) (look spots : Nat) : D → D
  | .str z => wyZ tg ss words look spots z
  | _ => .str "word"
inductive Thg : D → Prop where
  | txt (z : Str) (hl : z.length ≤ 3000) : Thg (.str z)
  | non : Thg .non
  | sev : Thg (.int 7)
  | tru : Thg (.bl true)
  | nil : Thg (.lst [])
  | one (z : Str) (hl : z.length ≤ 3000) : Thg (.lst [.str z])
  | tup (z : Str) (hl : z.length ≤ 3000) : Thg (.tup [.str z])
  | dic : Thg (.dk [])
def isW (tg : List Str) : D → Bool
  | .str z => decide (z.length ≤ 60) && (cs z).all fun c => decide (c ∈ zs tg)
  | _ => false
def nrB (words : List Str) (spots : Nat) (z : Str) : Bool := match words.getLast? with | some l => decide (l.length = z.length ∧ unl (cs l) (cs z) < spots) | none => false
theorem nrB_some {words : List Str} {l : Str} (e : words.getLast? = some l) (spots : Nat) (z : Str) : nrB words spots z = decide (l.length = z.length ∧ unl (cs l) (cs z) < spots) := by unfold nrB; rw [e]
theorem nrB_none {words : List Str} (e : words.getLast? = none) (spots : Nat) (z : Str) : nrB words spots z = false := by unfold nrB; rw [e]
def lastD (words : List Str) : D := match words.getLast? with | some l => .str l | none => .non
/-- words that are taken -/
def Wds (tg : List Str) (words : List Str) : Prop := words.length ≤ 40 ∧ ∀ w ∈ words, In tg w ∧ w.length ≤ 24
def kpC (tg : List Str) (ss : List Sent) (look spots : Nat) (pw pd : Addr) : Cell := .ob "Keeper" [("its_rule", ruleD tg ss), ("look", .int (look : Nat)), ("unlike", .int (spots : Nat)), ("words", .ce pw), ("deeds", .ce pd)]
/-- a keeper -/
structure Kp (C : AH) (o pw pd : Addr) (tg : List Str) (ss : List Sent) (look spots : Nat) (words : List Str) : Prop where
  ob : C o = some (kpC tg ss look spots pw pd)
  ws : C pw = some (.lst (strsL words))
  ds : ∃ l, C pd = some (.lst l) ∧ l.length ≤ 200
section
variable {C : AH} {P : D → AH → Prop}
theorem g_neNilC {p : Addr} {us : List D} (h1 : C p = some (.lst us)) (h : P (.bl (!us.isEmpty)) C) : aEqNil true (.ce p) (.lst []) C P := by
  show (match (match C p with | some (.lst us) => some us | _ => none), (D.lst []) with | some us, .lst [] => P (.bl (if true then !us.isEmpty else us.isEmpty)) C | _, _ => False)
  rw [h1]
  exact h
theorem last_at {α : Type} {us : List α} {d : α} (h : us.getLast? = some d) (h62 : us.length < 2 ^ 60) : atI us (-1) = some d := by
  have hn : us ≠ [] := fun z => by rw [z] at h; cases h
  have hp := List.length_pos_iff.mpr hn
  rw [List.getLast?_eq_getElem?] at h
  unfold L2.atI L2.ixN
  rw [if_neg (by omega), if_pos (by omega)]
  show us[((-1 : Int) + (us.length : Int)).toNat]? = _
  rw [show ((-1 : Int) + (us.length : Int)).toNat = us.length - 1 by omega]
  exact h
theorem g_ixLastC {p : Addr} {us : List D} {d : D} (h1 : C p = some (.lst us)) (h2 : us.getLast? = some d) (h62 : us.length < 2 ^ 60) (h : P d C) : aIx (.ce p) (.int (-1)) C P := by
  show (match asS C (.ce p) with | some ds => (match atI ds (-1) with | some d => P d C | none => False) | none => False)
  rw [show asS C (.ce p) = some us from by show (match C p with | some (.lst us) => some us | _ => none) = _; rw [h1]]
  show (match atI us (-1) with | some d => P d C | none => False)
  rw [last_at h2 h62]
  exact h
theorem g_cutC {p : Addr} {us : List D} {lo hi : Option Int} (h1 : C p = some (.lst us)) (h : P (.lst (cutD us lo hi)) C) : aCut (.ce p) lo hi C P := by
  show (match (match C p with | some (.lst us) => some us | _ => none) with | some ds => P (.lst (cutD ds lo hi)) C | none => False)
  rw [h1]
  exact h
theorem strs_last {words : List Str} {l : Str} (h : words.getLast? = some l) : (strsL words).getLast? = some (.str l) := by
  unfold strsL
  rw [List.getLast?_map, h]
  rfl
theorem cut_last {α : Type} (words : List Str) {look : Nat} (h : 1 ≤ look) : cutD (strsL words) (some (-(look : Int))) none = strsL (words.drop (words.length - look)) := by
  unfold cutD
  have hl : (strsL words).length = words.length := List.length_map ..
  rw [hl, HT.sIx_none]
  have : HT.sIx words.length 0 (some (-(look : Int))) = words.length - look := by
    show (if (-(look : Int)) < 0 then ((-(look : Int)) + (words.length : Int)).toNat else _) = _
    rw [if_pos (by omega)]
    omega
  rw [this, List.take_of_length_le (by rw [List.length_drop, hl]; omega)]
  unfold strsL
  rw [List.map_drop]
theorem unlike_ok {a b : Str} (h : a.length = b.length) (ha : a.length ≤ 1000) (k : P (.int (unl (cs a) (cs b) : Nat)) C) : s_unlike_at [.str a, .str b] C P := by
  unfold s_unlike_at a_unlike_at
  have hca := csl a
  have hcb := csl b
  walk_at "go"
  refine g_lenS (by simp only [sizeLine]; omega) ?_
  walk_at "go"
  rw [show ((a.length : Nat) : Int).toNat = a.length from rfl]
  refine g_kLc (fun i acc C' => acc = natsD ((List.range i).filter fun j => !decide ((cs a).getD j 0 = (cs b).getD j 0)) ∧ C' = C) (by rw [rangeD_len]; simp only [sizeLine]; omega) ⟨rfl, rfl⟩ (fun i d acc C' hi hh => ?_) (fun acc C' hh => ?_)
  · obtain ⟨rfl, rfl⟩ := hh
    have hi2 : i < a.length := by have := (List.getElem?_eq_some_iff.mp hi).1; rw [rangeD_len] at this; exact this
    rw [rangeD_get hi2] at hi
    cases hi
    rw [Int.zero_add]
    walk_at "go"
    refine g_ixSc (c := (cs a).getD i 0) (by omega) (by rw [List.getElem?_eq_getElem (by omega)]; simp [List.getD, List.getElem?_eq_getElem (show i < (cs a).length by omega)]) ?_
    walk_at "go"
    refine g_ixSc (c := (cs b).getD i 0) (by omega) (by rw [List.getElem?_eq_getElem (by omega)]; simp [List.getD, List.getElem?_eq_getElem (show i < (cs b).length by omega)]) ?_
    walk_at "go"
    rw [one_eq, filter_range]
    cases q : decide ((cs a).getD i 0 = (cs b).getD i 0)
    · walk_at "go"
      refine ⟨?_, rfl⟩
      rw [Bool.not_false, if_pos rfl]
      exact natsD_snoc _ _
    · walk_at "go"
      refine ⟨?_, rfl⟩
      rw [Bool.not_true, if_neg Bool.false_ne_true, List.append_nil]
  · obtain ⟨rfl, rfl⟩ := hh
    rw [rangeD_len]
    walk_at "go"
    unfold unl at k
    rw [hca] at k
    rw [show (natsD ((List.range a.length).filter fun j => !decide ((cs a).getD j 0 = (cs b).getD j 0))).length = _ from List.length_map ..]
    exact k
variable {o pw pd : Addr} {tg : List Str} {ss : List Sent} {look spots : Nat} {words : List Str}
theorem word_ok (K : Kp C o pw pd tg ss look spots words) (hw : Wds tg words) (k : P (lastD words) C) : s_Keeper_word [.ce o] C P := by
  unfold s_Keeper_word a_Keeper_word
  walk_at "go"
  refine g_kFld K.ob rfl ?_
  walk_at "go"
  refine g_neNilC K.ws ?_
  unfold lastD at k
  cases e : words.getLast? with
  | none =>
    rw [e] at k
    rw [List.getLast?_eq_none_iff.mp e]
    walk_at "go"
    exact k
  | some l =>
    rw [e] at k
    have hn : (strsL words).isEmpty = false := by
      cases words with
      | nil => cases e
      | cons a b => rfl
    rw [hn]
    walk_at "go"
    refine g_kFld K.ob rfl ?_
    walk_at "go"
    exact g_ixLastC K.ws (strs_last e) (by have := hw.1; rw [show (strsL words).length = words.length from List.length_map ..]; omega) k
theorem elder_ok (K : Kp C o pw pd tg ss look spots words) (hw : Wds tg words) (k : P (.lst (strsL (words.drop (words.length - look)))) C) : s_Keeper_elder [.ce o] C P := by
  have h40 := hw.1
  unfold s_Keeper_elder a_Keeper_elder
  walk_at "go"
  refine g_kFld K.ob rfl ?_
  walk_at "go"
  refine g_kFld K.ob rfl ?_
  walk_at "go"
  refine g_lenC K.ws ?_
  walk_at "go"
  refine g_kFld K.ob rfl ?_
  walk_at "go"
  rw [show (strsL words).length = words.length from List.length_map ..]
  have e : (if (words.length : Int) - (look : Int) > 0 then (words.length : Int) - (look : Int) else 0) = ((words.length - look : Nat) : Int) := by
    split <;> omega
  rw [e]
  refine g_cutC K.ws ?_
  rw [cutD_drop]
  unfold strsL at k ⊢
  rw [List.map_drop] at k
  exact k
theorem near_ok (K : Kp C o pw pd tg ss look spots words) (hw : Wds tg words) {z : Str} (hz : z.length ≤ 1000) (k : P (.bl (nrB words spots z)) C) : s_Keeper_is_near [.ce o, .str z] C P := by
  unfold s_Keeper_is_near a_Keeper_is_near
  walk_at "go"
  refine g_kMth K.ob rfl ?_
  walk_at "go"
  refine word_ok K hw ?_
  unfold lastD
  cases e : words.getLast? with
  | none =>
    rw [nrB_none e] at k
    walk_at "go"
    refine g_kAnd (fun h => by cases h) (fun _ => k)
  | some l =>
    rw [nrB_some e] at k
    have hl := (hw.2 l (List.mem_of_getLast? e)).2
    walk_at "go"
    refine g_kAnd (fun _ => ?_) (fun h => by cases h)
    walk_at "go"
    refine g_lenS (by simp only [sizeLine]; omega) ?_
    walk_at "go"
    refine g_lenS (by simp only [sizeLine]; omega) ?_
    walk_at "go"
    by_cases hle : l.length = z.length
    · rw [decide_eq_true (show (l.length : Int) = (z.length : Int) by omega)]
      refine g_kAnd (fun _ => ?_) (fun h => by cases h)
      walk_at "go"
      refine unlike_ok hle (by omega) ?_
      walk_at "go"
      refine g_kFld K.ob rfl ?_
      walk_at "go"
      have : decide ((unl (cs l) (cs z) : Int) < (spots : Int)) = decide (l.length = z.length ∧ unl (cs l) (cs z) < spots) := decide_eq_decide.mpr ⟨fun h => ⟨hle, by omega⟩, fun h => by omega⟩
      rw [this]
      exact k
    · rw [decide_eq_false (show ¬ (l.length : Int) = (z.length : Int) by omega)]
      refine g_kAnd (fun h => by cases h) (fun _ => ?_)
      rw [decide_eq_false (fun h => hle h.1)] at k
      exact k
theorem is_word_ok (T : Tng tg) {d : D} (hd : Thg d) (k : P (.bl (isW tg d)) C) : s_is_word [.tup (strsL tg), d] C P := by
  unfold s_is_word a_is_word
  cases hd with
  | txt z hl =>
    walk_at "go"
    rw [show isT "str" "str" = true from rfl]
    refine g_kAnd (fun _ => ?_) (fun h => by cases h)
    walk_at "go"
    refine g_lenS (by simp only [sizeLine]; omega) ?_
    walk_at "go"
    refine g_kAnd (fun e => ?_) (fun e => ?_)
    · walk_at "go"
      refine has_ok T (by omega) ?_
      have e2 : decide (z.length ≤ 60) = true := decide_eq_true (by have := of_decide_eq_true e; omega)
      simp only [isW, e2, Bool.true_and] at k
      exact k
    · have e2 : decide (z.length ≤ 60) = false := decide_eq_false (by have := of_decide_eq_false e; omega)
      simp only [isW, e2, Bool.false_and] at k
      exact k
  | _ =>
    walk_at "go"
    refine g_kAnd (fun h => by cases h) (fun _ => ?_)
    exact k
theorem why_not_ok (T : Tng tg) (hs : ∀ s ∈ ss, Fit tg 8 s) (hsl : ss.length ≤ 1000) (K : Kp C o pw pd tg ss look spots words) (hw : Wds tg words) {d : D} (hd : Thg d) (k : P (wy tg ss words look spots d) C) : s_Keeper_why_not [.ce o, d] C P := by
  have odd : (∀ z, d ≠ .str z) → wy tg ss words look spots d = .str "word" := fun h => by
    cases hd with
    | txt z _ => exact absurd rfl (h z)
    | _ => rfl
  unfold s_Keeper_why_not a_Keeper_why_not
  walk_at "go"
  by_cases hstr : ∃ z, d = .str z
  · obtain ⟨z, rfl⟩ := hstr
    have hz : z.length ≤ 3000 := by cases hd; assumption
    have k : P (wyZ tg ss words look spots z) C := k
    unfold wyZ at k
    by_cases hbad : (decide (24 < z.length) || !((cs z).all fun c => decide (c ∈ zs tg))) = true
    · rw [if_pos hbad] at k
      refine g_ifT (fun Q hQ => ?_) ?_
      · walk_at "go"
        refine g_kFld K.ob rfl ?_
        walk_at "go"
        refine g_ixT0 ?_
        walk_at "go"
        refine is_word_ok T hd ?_
        rw [show isW tg (.str z) = (decide (z.length ≤ 60) && (cs z).all fun c => decide (c ∈ zs tg)) from rfl]
        cases e : (decide (z.length ≤ 60) && (cs z).all fun c => decide (c ∈ zs tg))
        · walk_at "go"
          exact hQ
        · walk_at "go"
          refine g_lenS (by simp only [sizeLine]; omega) ?_
          walk_at "go"
          have hall : ((cs z).all fun c => decide (c ∈ zs tg)) = true := by
            rw [Bool.and_eq_true] at e
            exact e.2
          rw [hall] at hbad
          rw [decide_eq_true (show (24 : Int) < (z.length : Int) by simp at hbad; omega)]
          exact hQ
      walk_at "go"
      exact k
    · rw [if_neg hbad] at k
      have h24 : z.length ≤ 24 := by
        have : decide (24 < z.length) = false := by
          cases q : decide (24 < z.length)
          · rfl
          · rw [q] at hbad; simp at hbad
        have := of_decide_eq_false this
        omega
      have hall : ((cs z).all fun c => decide (c ∈ zs tg)) = true := by
        cases q : ((cs z).all fun c => decide (c ∈ zs tg))
        · rw [q] at hbad; simp at hbad
        · rfl
      refine g_ifF (fun Q hQ => ?_) ?_
      · walk_at "go"
        refine g_kFld K.ob rfl ?_
        walk_at "go"
        refine g_ixT0 ?_
        walk_at "go"
        refine is_word_ok T hd ?_
        rw [show isW tg (.str z) = (decide (z.length ≤ 60) && (cs z).all fun c => decide (c ∈ zs tg)) from rfl]
        rw [hall, decide_eq_true (show z.length ≤ 60 by omega), Bool.and_true]
        walk_at "go"
        refine g_lenS (by simp only [sizeLine]; omega) ?_
        walk_at "go"
        rw [decide_eq_false (show ¬ (24 : Int) < (z.length : Int) by omega)]
        exact hQ
      walk_at "go"
      cases hall2 : ss.all fun s => hold tg (cs z) s
      · rw [if_pos hall2] at k
        refine g_ifT (fun Q hQ => ?_) ?_
        · walk_at "go"
          refine g_kFld K.ob rfl ?_
          walk_at "go"
          refine keeps_ok T hs hsl (by omega) ?_
          rw [hall2]
          walk_at "go"
          exact hQ
        walk_at "go"
        exact k
      · rw [if_neg (by rw [hall2]; decide)] at k
        refine g_ifF (fun Q hQ => ?_) ?_
        · walk_at "go"
          refine g_kFld K.ob rfl ?_
          walk_at "go"
          refine keeps_ok T hs hsl (by omega) ?_
          rw [hall2]
          walk_at "go"
          exact hQ
        walk_at "go"
        by_cases hel : z ∈ words.drop (words.length - look)
        · rw [if_pos hel] at k
          refine g_ifT (fun Q hQ => ?_) ?_
          · walk_at "go"
            refine g_kMth K.ob rfl ?_
            walk_at "go"
            refine elder_ok K hw ?_
            refine g_inStrs ?_
            rw [decide_eq_true hel]
            exact hQ
          walk_at "go"
          exact k
        · rw [if_neg hel] at k
          refine g_ifF (fun Q hQ => ?_) ?_
          · walk_at "go"
            refine g_kMth K.ob rfl ?_
            walk_at "go"
            refine elder_ok K hw ?_
            refine g_inStrs ?_
            rw [decide_eq_false hel]
            exact hQ
          walk_at "go"
          cases e : words.getLast? with
          | none =>
            rw [e] at k
            refine g_ifF (fun Q hQ => ?_) ?_
            · walk_at "go"
              refine g_kMth K.ob rfl ?_
              walk_at "go"
              refine near_ok K hw (by omega) ?_
              rw [nrB_none e]
              walk_at "go"
              exact hQ
            walk_at "go"
            exact k
          | some l =>
            rw [e] at k
            have k : P (if l.length = z.length ∧ unl (cs l) (cs z) < spots then .str "near" else .non) C := k
            by_cases hn : l.length = z.length ∧ unl (cs l) (cs z) < spots
            · rw [if_pos hn] at k
              refine g_ifT (fun Q hQ => ?_) ?_
              · walk_at "go"
                refine g_kMth K.ob rfl ?_
                walk_at "go"
                refine near_ok K hw (by omega) ?_
                rw [nrB_some e, decide_eq_true hn]
                walk_at "go"
                exact hQ
              walk_at "go"
              exact k
            · rw [if_neg hn] at k
              refine g_ifF (fun Q hQ => ?_) ?_
              · walk_at "go"
                refine g_kMth K.ob rfl ?_
                walk_at "go"
                refine near_ok K hw (by omega) ?_
                rw [nrB_some e, decide_eq_false hn]
                walk_at "go"
                exact hQ
              walk_at "go"
              exact k
  · rw [odd fun z h => hstr ⟨z, h⟩] at k
    refine g_ifT (fun Q hQ => ?_) ?_
    · walk_at "go"
      refine g_kFld K.ob rfl ?_
      walk_at "go"
      refine g_ixT0 ?_
      walk_at "go"
      refine is_word_ok T hd ?_
      have e : isW tg d = false := by
        cases hd with
        | txt z _ => exact absurd ⟨z, rfl⟩ hstr
        | _ => rfl
      rw [e]
      walk_at "go"
      exact hQ
    walk_at "go"
    exact k
end
end A_k53
namespace A_k53
open PySem L2 AL
section
variable {C : AH} {P : D → AH → Prop} {tg : List Str} {ss : List Sent} {look spots : Nat} {words : List Str}
def kpg (tg : List Str) (ss : List Sent) (q : Addr) (look spots : Nat) : D := .tup [.tup (strsL tg), .tup (ss.map tree), .ce q, .int (look : Nat), .int (spots : Nat)]
theorem g_kIsiK {t : D} {s : String} (h : kindOf C t = some s) {T : String} (k : P (.bl (isT T s)) C) : kIsi T P t C := by
  unfold kIsi
  rw [h]
  exact k
theorem law_why_ok (T : Tng tg) (hs : ∀ s ∈ ss, Fit tg 8 s) (hsl : ss.length ≤ 1000) {q : Addr} (hq : C q = some (.lst (strsL words))) (hw : Wds tg words) {d : D} (hd : Thg d) (k : P (wy tg ss words look spots d) C) : s_law_why [kpg tg ss q look spots, d] C P := by
  have h12 := T.zpos
  unfold s_law_why a_law_why kpg
  walk_at "go"
  refine g_joinET (by have := T.sum; omega) ?_
  walk_at "go"
  by_cases hstr : ∃ z, d = .str z
  · obtain ⟨z, rfl⟩ := hstr
    have hz : z.length ≤ 3000 := by cases hd; assumption
    have k : P (wyZ tg ss words look spots z) C := k
    have hcz := csl z
    unfold wyZ at k
    have htest : ∀ (K : Bool → AH → Prop), K (decide (24 < z.length) || !((cs z).all fun c => decide (c ∈ zs tg))) C → aOr (aNot (aTru (aIsi "str" (aVar 1)))) (aOr (aB (aOp aGt (aCall aLen (aCons (aVar 1) (aNil))) (aC (.int 24)))) (aB (aOp (aEqNil true) (aLc (aIS (aVar 1)) (aGName 9) (aB (aOp aNinS (aVar 9) (aVar 7))) (aVar 9) [9]) (aLst (aNil))))) [some (kpg tg ss q look spots), some (.str z), some (.tup (strsL tg)), some (.tup (ss.map tree)), some (.ce q), some (.int (look : Nat)), some (.int (spots : Nat)), some (.str (Txt.join "" tg)), none, none, none] C K := by
      intro K hK
      walk_at "go"
      rw [show isT "str" "str" = true from rfl]
      walk_at "go"
      refine g_lenS (by simp only [sizeLine]; omega) ?_
      walk_at "go"
      by_cases h24 : 24 < z.length
      · rw [decide_eq_true h24] at hK
        rw [decide_eq_true (show (24 : Int) < (z.length : Int) by omega)]
        exact hK
      · rw [decide_eq_false h24, Bool.false_or] at hK
        rw [decide_eq_false (show ¬ (24 : Int) < (z.length : Int) by omega)]
        walk_at "go"
        refine g_kLc (fun i acc C' => acc = (((cs z).take i).filter fun c => !decide (c ∈ zs tg)).map (fun c => D.str ⟨#[c]⟩) ∧ C' = C) (by rw [signs_size]; simp only [sizeLine]; omega) ⟨rfl, rfl⟩ (fun i d acc C' hi hh => ?_) (fun acc C' hh => ?_)
        · obtain ⟨rfl, rfl⟩ := hh
          obtain ⟨c, hc, rfl⟩ := signs_at hi
          rw [filter_take _ _ _ _ hc]
          walk_at "go"
          refine g_ninS ?_
          rw [in_one]
          show _
          by_cases q : c ∈ zs tg
          · rw [show decide (c ∈ (Txt.join "" tg).cps.toList) = true from decide_eq_true q, decide_eq_true q]
            walk_at "go"
            exact ⟨by simp, rfl⟩
          · rw [show decide (c ∈ (Txt.join "" tg).cps.toList) = false from decide_eq_false q, decide_eq_false q]
            walk_at "go"
            exact ⟨by simp, rfl⟩
        · obtain ⟨rfl, rfl⟩ := hh
          rw [signs_size, ← hcz, List.take_length]
          walk_at "go"
          have e : (((cs z).filter fun c => !decide (c ∈ zs tg)).map fun c => D.str ⟨#[c]⟩).isEmpty = ((cs z).all fun c => decide (c ∈ zs tg)) := by
            rw [List.isEmpty_map]
            induction cs z with
            | nil => rfl
            | cons a l ih =>
              rw [List.filter_cons, List.all_cons, ← ih]
              cases decide (a ∈ zs tg) <;> rfl
          rw [e]
          exact hK
    by_cases hbad : (decide (24 < z.length) || !((cs z).all fun c => decide (c ∈ zs tg))) = true
    · rw [if_pos hbad] at k
      refine g_ifT (fun Q hQ => htest _ (by rw [hbad]; exact hQ)) ?_
      walk_at "go"
      exact k
    · rw [if_neg hbad] at k
      have hbad : (decide (24 < z.length) || !((cs z).all fun c => decide (c ∈ zs tg))) = false := by simpa using hbad
      have h24 : z.length ≤ 24 := by
        rw [Bool.or_eq_false_iff] at hbad
        have := of_decide_eq_false hbad.1
        omega
      refine g_ifF (fun Q hQ => htest _ (by rw [hbad]; exact hQ)) ?_
      clear htest
      walk_at "go"
      have htest : ∀ (K : D → AH → Prop), K (.bl (!(ss.all fun s => hold tg (cs z) s))) C → aOp aInL (aC (.bl false)) (aLc (aIT (aVar 3)) (aGName 8) (aYes) (aCall (s_law_holds 8) (aCons (aVar 2) (aCons (aVar 8) (aCons (aVar 1) (aNil))))) [8]) [some (kpg tg ss q look spots), some (.str z), some (.tup (strsL tg)), some (.tup (ss.map tree)), some (.ce q), some (.int (look : Nat)), some (.int (spots : Nat)), some (.str (Txt.join "" tg)), none, none, none] C K := by
        intro K hK
        walk_at "go"
        refine g_kLc (fun i acc C' => acc = ((ss.take i).map fun s => D.bl (hold tg (cs z) s)) ∧ C' = C) (by rw [List.length_map]; simp only [sizeLine]; omega) ⟨rfl, rfl⟩ (fun i d acc C' hi hw' => ?_) (fun acc C' hw' => ?_)
        · obtain ⟨rfl, rfl⟩ := hw'
          rw [List.getElem?_map] at hi
          cases e : ss[i]? with
          | none => rw [e] at hi; cases hi
          | some s =>
            rw [e] at hi
            cases hi
            walk_at "go"
            refine lholds_ok T (by omega) 8 s (by decide) (hs s (List.mem_of_getElem? e)) 8 (Nat.le_refl _) _ _ ?_
            refine ⟨?_, rfl⟩
            rw [List.take_add_one, e, List.map_append]
            rfl
        · obtain ⟨rfl, rfl⟩ := hw'
          rw [List.length_map, List.take_length]
          have : (ss.map fun s => D.bl (hold tg (cs z) s)) = (ss.map fun s => hold tg (cs z) s).map D.bl := by rw [List.map_map]; rfl
          rw [this]
          refine g_inBls ?_
          rw [List.all_map]
          exact hK
      cases hall2 : ss.all fun s => hold tg (cs z) s
      · rw [if_pos hall2] at k
        refine g_ifT (fun Q hQ => ?_) ?_
        · walk_at "go"
          refine htest _ ?_
          rw [hall2]
          exact hQ
        walk_at "go"
        exact k
      · rw [if_neg (by rw [hall2]; decide)] at k
        refine g_ifF (fun Q hQ => ?_) ?_
        · walk_at "go"
          refine htest _ ?_
          rw [hall2]
          exact hQ
        clear htest
        walk_at "go"
        have hel0 : look = 0 → ¬ z ∈ words.drop (words.length - look) := fun h => by
          subst h
          rw [Nat.sub_zero, List.drop_length]
          exact fun h => by cases h
        by_cases hel : z ∈ words.drop (words.length - look)
        · rw [if_pos hel] at k
          have hlk : 1 ≤ look := by
            rcases Nat.eq_zero_or_pos look with h | h
            · exact absurd hel (hel0 h)
            · exact h
          refine g_ifT (fun Q hQ => ?_) ?_
          · walk_at "go"
            rw [decide_eq_true (show (0 : Int) < (look : Int) by omega)]
            walk_at "go"
            refine g_cutC hq ?_
            rw [cut_last (α := Nat) _ hlk]
            refine g_inStrs ?_
            rw [decide_eq_true hel]
            exact hQ
          walk_at "go"
          exact k
        · rw [if_neg hel] at k
          refine g_ifF (fun Q hQ => ?_) ?_
          · walk_at "go"
            rcases Nat.eq_zero_or_pos look with h | hlk
            · subst h
              rw [decide_eq_false (show ¬ (0 : Int) < ((0 : Nat) : Int) by omega)]
              exact hQ
            · rw [decide_eq_true (show (0 : Int) < (look : Int) by omega)]
              walk_at "go"
              refine g_cutC hq ?_
              rw [cut_last (α := Nat) _ hlk]
              refine g_inStrs ?_
              rw [decide_eq_false hel]
              exact hQ
          walk_at "go"
          cases e : words.getLast? with
          | none =>
            rw [e] at k
            have he := List.getLast?_eq_none_iff.mp e
            refine g_ifF (fun Q hQ => ?_) ?_
            · walk_at "go"
              refine g_neNilC hq ?_
              rw [he]
              walk_at "go"
              exact hQ
            walk_at "go"
            exact k
          | some l =>
            rw [e] at k
            have k : P (if l.length = z.length ∧ unl (cs l) (cs z) < spots then .str "near" else .non) C := k
            have hl24 := (hw.2 l (List.mem_of_getLast? e)).2
            have hcl := csl l
            have hw40 := hw.1
            have hn : (strsL words).isEmpty = false := by
              cases words with
              | nil => cases e
              | cons a b => rfl
            have hlen : (strsL words).length < 2 ^ 60 := by rw [show (strsL words).length = words.length from List.length_map ..]; omega
            by_cases hle : l.length = z.length
            · refine g_ifT (fun Q hQ => ?_) ?_
              · walk_at "go"
                refine g_neNilC hq ?_
                rw [hn]
                walk_at "go"
                refine g_ixL (last_at (strs_last e) hlen) ?_
                walk_at "go"
                refine g_lenS (by simp only [sizeLine]; omega) ?_
                walk_at "go"
                refine g_lenS (by simp only [sizeLine]; omega) ?_
                walk_at "go"
                rw [decide_eq_true (show (l.length : Int) = (z.length : Int) by omega)]
                exact hQ
              walk_at "go"
              have htest : ∀ (K : D → AH → Prop), K (.int (unl (cs l) (cs z) : Nat)) C → aCall aLen (aCons (aLc (aIR1 (aCons (aCall aLen (aCons (aVar 1) (aNil))) (aNil))) (aGName 10) (aB (aOp aNe (aOp aIx (aVar 1) (aVar 10)) (aOp aIx (aOp aIx (aVar 4) (aUn aNeg (aC (.int 1)))) (aVar 10)))) (aVar 10) [10]) (aNil)) [some (kpg tg ss q look spots), some (.str z), some (.tup (strsL tg)), some (.tup (ss.map tree)), some (.ce q), some (.int (look : Nat)), some (.int (spots : Nat)), some (.str (Txt.join "" tg)), none, none, none] C K := by
                intro K hK
                walk_at "go"
                refine g_lenS (by simp only [sizeLine]; omega) ?_
                walk_at "go"
                rw [show ((z.length : Nat) : Int).toNat = z.length from rfl]
                refine g_kLc (fun i acc C' => acc = natsD ((List.range i).filter fun j => !decide ((cs z).getD j 0 = (cs l).getD j 0)) ∧ C' = C) (by rw [rangeD_len]; simp only [sizeLine]; omega) ⟨rfl, rfl⟩ (fun i d acc C' hi hh => ?_) (fun acc C' hh => ?_)
                · obtain ⟨rfl, rfl⟩ := hh
                  have hi2 : i < z.length := by have := (List.getElem?_eq_some_iff.mp hi).1; rw [rangeD_len] at this; exact this
                  rw [rangeD_get hi2] at hi
                  cases hi
                  rw [Int.zero_add]
                  walk_at "go"
                  refine g_ixSc (c := (cs z).getD i 0) (by omega) (by rw [List.getElem?_eq_getElem (by omega)]; simp [List.getD, List.getElem?_eq_getElem (show i < (cs z).length by omega)]) ?_
                  walk_at "go"
                  refine g_ixL (last_at (strs_last e) hlen) ?_
                  walk_at "go"
                  refine g_ixSc (c := (cs l).getD i 0) (by omega) (by rw [List.getElem?_eq_getElem (by omega)]; simp [List.getD, List.getElem?_eq_getElem (show i < (cs l).length by omega)]) ?_
                  walk_at "go"
                  rw [one_eq, filter_range]
                  cases q : decide ((cs z).getD i 0 = (cs l).getD i 0)
                  · walk_at "go"
                    refine ⟨?_, rfl⟩
                    rw [Bool.not_false, if_pos rfl]
                    exact natsD_snoc _ _
                  · walk_at "go"
                    refine ⟨?_, rfl⟩
                    rw [Bool.not_true, if_neg Bool.false_ne_true, List.append_nil]
                · obtain ⟨rfl, rfl⟩ := hh
                  rw [rangeD_len]
                  walk_at "go"
                  rw [unl_swap (show (cs l).length = (cs z).length by omega)] at hK
                  unfold unl at hK
                  rw [hcz] at hK
                  rw [show (natsD ((List.range z.length).filter fun j => !decide ((cs z).getD j 0 = (cs l).getD j 0))).length = _ from List.length_map ..]
                  exact hK
              by_cases hn2 : unl (cs l) (cs z) < spots
              · rw [if_pos ⟨hle, hn2⟩] at k
                refine g_ifT (fun Q hQ => ?_) ?_
                · walk_at "go"
                  refine htest _ ?_
                  walk_at "go"
                  rw [decide_eq_true (show (unl (cs l) (cs z) : Int) < (spots : Int) by omega)]
                  exact hQ
                walk_at "go"
                exact k
              · rw [if_neg (fun h => hn2 h.2)] at k
                refine g_ifF (fun Q hQ => ?_) ?_
                · walk_at "go"
                  refine htest _ ?_
                  walk_at "go"
                  rw [decide_eq_false (show ¬ (unl (cs l) (cs z) : Int) < (spots : Int) by omega)]
                  exact hQ
                walk_at "go"
                exact k
            · rw [if_neg (fun h => hle h.1)] at k
              refine g_ifF (fun Q hQ => ?_) ?_
              · walk_at "go"
                refine g_neNilC hq ?_
                rw [hn]
                walk_at "go"
                refine g_ixL (last_at (strs_last e) hlen) ?_
                walk_at "go"
                refine g_lenS (by simp only [sizeLine]; omega) ?_
                walk_at "go"
                refine g_lenS (by simp only [sizeLine]; omega) ?_
                walk_at "go"
                rw [decide_eq_false (show ¬ (l.length : Int) = (z.length : Int) by omega)]
                exact hQ
              walk_at "go"
              exact k
  · have odd : wy tg ss words look spots d = .str "word" := by
      cases hd with
      | txt z _ => exact absurd ⟨z, rfl⟩ hstr
      | _ => rfl
    rw [odd] at k
    have hk : ∃ s, kindOf C d = some s ∧ isT "str" s = false := by
      cases hd with
      | txt z _ => exact absurd ⟨z, rfl⟩ hstr
      | _ => exact ⟨_, rfl, rfl⟩
    obtain ⟨s, h1, h2⟩ := hk
    refine g_ifT (fun Q hQ => ?_) ?_
    · walk_at "go"
      refine g_kIsiK h1 ?_
      rw [h2]
      walk_at "go"
      exact hQ
    walk_at "go"
    exact k
end
end A_k53
namespace A_k53
open PySem L2 AL
section
variable {C : AH} {P : D → AH → Prop}
theorem In.nil (tg : List Str) : In tg "" := fun c hc => by cases hc
theorem add_len (x y : Str) : (x ++ y).length = x.length + y.length := by
  rw [← csl, ← csl, ← csl, cs_add, List.length_append]
theorem g_kOrC {e2 : AE'} {s : ASt} {q : Addr} {us : List D} (h1 : C q = some (.lst us)) (ht : us ≠ [] → P (.ce q) C) (hf : us = [] → e2 s C P) : kOrV e2 s P (.ce q) C := by
  have e : truth C (.ce q) = some (!us.isEmpty) := by
    show (match C q with | some (.lst ds) => some (!ds.isEmpty) | some (.dk kvs) => some (!kvs.isEmpty) | _ => none) = _
    rw [h1]
  unfold kOrV
  rw [e]
  cases us with
  | nil => exact hf rfl
  | cons a b => exact ht (by simp)
theorem sub_len {α : Type} [DecidableEq α] : ∀ {l m : List α}, l.Nodup → (∀ x ∈ l, x ∈ m) → l.length ≤ m.length
  | [], m, _, _ => Nat.zero_le _
  | x :: l, m, hn, hs => by
    obtain ⟨hx, hn⟩ := List.nodup_cons.mp hn
    have h1 := hs x (List.mem_cons_self ..)
    have := sub_len (m := m.erase x) hn fun y hy => (List.mem_erase_of_ne (fun e => hx (by rw [← e]; exact hy))).mpr (hs y (List.mem_cons_of_mem _ hy))
    rw [List.length_erase_of_mem h1] at this
    have := List.length_pos_of_mem h1
    rw [List.length_cons]
    omega
theorem ink2_ok : ((cs (ink ++ " ")).Nodup ∧ (cs (ink ++ " ")).length = 94) := by decide +kernel
theorem ink3_ok : ink.length + (" " : Str).length ≤ sizeLine := by decide +kernel
theorem strange_ne {tg : List Str} (T : Tng tg) : (cs (ink ++ " ")).filter (fun c => !decide (c ∈ zs tg)) ≠ [] := fun h => by
  have h2 : ∀ c ∈ cs (ink ++ " "), c ∈ zs tg := fun c hc => by
    have := List.filter_eq_nil_iff.mp h c hc
    simpa using this
  have := sub_len ink2_ok.1 h2
  rw [ink2_ok.2] at this
  have := T.few
  omega
/-- the word taken last, or none -/
def lastW (words : List Str) : Str := match words.getLast? with | some l => l | none => ""
theorem lastW_ok {tg : List Str} {words : List Str} (hw : Wds tg words) : In tg (lastW words) ∧ (lastW words).length ≤ 24 := by
  unfold lastW
  cases e : words.getLast? with
  | none => exact ⟨In.nil tg, by decide⟩
  | some l => exact hw.2 l (List.mem_of_getLast? e)
theorem ixN_nat {n j : Nat} (h : j < n) : L2.ixN n (j : Int) = some j := by
  unfold L2.ixN
  rw [if_pos (by omega), if_pos (by omega), Int.toNat_natCast]
theorem one_len (c n : Nat) (h : n ≤ 16000000) : (⟨#[c]⟩ : Str).length * n ≤ 16000000 := by
  rw [show (⟨#[c]⟩ : Str).length = 1 from rfl, Nat.one_mul]; exact h
theorem g_mulX {z : Str} {n : Nat} (h1 : n ≤ 1000000) (h2 : z.length * n ≤ 16000000) (k : ∀ t : Str, t.length = n * z.length → P (.str t) C) : aMulS (.str z) (.int n) C P := g_mulS h1 h2 (k _ (timesL_len z n))
theorem g_dict0F {s : ASt} (k : P (.dk []) C) : aDict0F s C P := k
theorem g_ixSl {z : Str} (hl : z.length ≤ 10000) (h1 : 1 ≤ z.length) (k : ∀ c : Nat, P (.str ⟨#[c]⟩) C) : aIx (.str z) (.int (-1)) C P := by
  have hc := csl z
  have : atI (cs z) (-1) = some ((cs z)[(cs z).length - 1]'(by omega)) := last_at (by rw [List.getLast?_eq_getElem?]; exact List.getElem?_eq_getElem _) (by omega)
  refine ⟨by simp only [sizeLine]; omega, ?_⟩
  show (match atI (cs z) (-1) with | some c => P (.str ⟨#[c]⟩) C | none => False)
  rw [this]
  exact k _
theorem law_thing_ok {p q : Addr} {tg : List Str} {words : List Str} (T : Tng tg) (hP : Pen C p) (hq : C q = some (.lst (strsL words))) (hpq : p ≠ q) (hw : Wds tg words) (k : ∀ d C', Thg d → Pen C' p → Oth p C C' → P d C') : s_law_thing [.ce p, .tup (strsL tg), .ce q] C P := by
  have hz1 := T.zpos
  have hz2 := T.few
  have hzl := zT_len tg
  have h40 := hw.1
  have hsl : (strsL words).length = words.length := List.length_map ..
  obtain ⟨hlin, hl24⟩ := lastW_ok hw
  unfold s_law_thing a_law_thing
  walk_at "go"
  refine g_joinET (by have := T.sum; omega) ?_
  walk_at "go"
  refine take_nat (m := 10) hP (by omega) (by omega) fun c way hc hway => ?_
  have hP1 := pen_put (C := C) (p := p) hc
  have hO1 := (Oth.refl p C).pen (c := c)
  have hq1 := hO1 q _ hpq.symm hq
  generalize put C p c = C1 at hP1 hO1 hq1
  walk_at "go"
  have hlast : ∀ (K : D → AH → Prop), K (.str (lastW words)) C1 → kOrV (aLst (aCons (aC (.str "")) aNil)) [some (.ce p), some (.tup (strsL tg)), some (.ce q), some (.str (Txt.join "" tg)), some (.int (way : Nat)), none, none, none, none, none, none, none] (fun x C2 => aUn aNeg (aC (.int 1)) [some (.ce p), some (.tup (strsL tg)), some (.ce q), some (.str (Txt.join "" tg)), some (.int (way : Nat)), none, none, none, none, none, none, none] C2 fun y C3 => aIx x y C3 K) (.ce q) C1 := fun K hK => by
    refine g_kOrC hq1 (fun hn => ?_) (fun hn => ?_)
    · walk_at "go"
      cases e : words.getLast? with
      | none => rw [List.getLast?_eq_none_iff.mp e] at hn; exact absurd rfl hn
      | some l =>
        rw [show lastW words = l by unfold lastW; rw [e]] at hK
        first
          | exact g_ixLastC hq1 (strs_last e) (by omega) hK
          | exact g_ixL (last_at (strs_last e) (by omega)) hK
    · walk_at "go"
      have : words = [] := by cases words with | nil => rfl | cons a b => cases hn
      subst this
      exact g_ixL rfl hK
  refine hlast _ ?_
  clear hlast
  generalize lastW words = lw at hlin hl24 ⊢
  walk_at "go"
  refine g_ifS ?_
  walk_at "go"
  refine g_iteD (fun h0 => ?_) (fun h0 => ?_)
  · -- what is no word
    walk_at "go"
    refine lsigns_ok ?_
    walk_at "go"
    refine g_addS ink3_ok ?_
    have hne := strange_ne T
    have hle : ((cs (ink ++ " ")).filter fun c => !decide (c ∈ zs tg)).length ≤ 94 := by
      have := List.length_filter_le (fun c => !decide (c ∈ zs tg)) (cs (ink ++ " "))
      rw [ink2_ok.2] at this
      exact this
    have hZl : (ink ++ " ").length = 94 := by rw [← csl]; exact ink2_ok.2
    generalize ink ++ " " = Z at hne hle hZl ⊢
    walk_at "go"
    refine g_kLc (fun i acc C' => acc = (((cs Z).take i).filter fun c => !decide (c ∈ zs tg)).map (fun c => D.str ⟨#[c]⟩) ∧ C' = C1) (by rw [signs_size, hZl]; simp only [sizeLine]; omega) ⟨rfl, rfl⟩ (fun i d acc C' hi hh => ?_) (fun acc C' hh => ?_)
    · obtain ⟨rfl, rfl⟩ := hh
      obtain ⟨c, hc, rfl⟩ := signs_at hi
      rw [filter_take _ _ _ _ hc]
      walk_at "go"
      refine g_ninS ?_
      rw [in_one]
      show _
      by_cases q : c ∈ zs tg
      · rw [show decide (c ∈ (Txt.join "" tg).cps.toList) = true from decide_eq_true q, decide_eq_true q]
        walk_at "go"
        exact ⟨by simp, rfl⟩
      · rw [show decide (c ∈ (Txt.join "" tg).cps.toList) = false from decide_eq_false q, decide_eq_false q]
        walk_at "go"
        exact ⟨by simp, rfl⟩
    obtain ⟨rfl, rfl⟩ := hh
    rw [signs_size, ← csl, List.take_length]
    generalize (cs Z).filter (fun c => !decide (c ∈ zs tg)) = st at hne hle ⊢
    have hpos := List.length_pos_iff.mpr hne
    walk_at "go"
    rw [List.length_map]
    refine take_nat hP1 (by omega) (by omega) fun c j hc hj => ?_
    have hP2 := pen_put (C := C') (p := p) hc
    have hO2 := hO1.pen (c := c)
    generalize put C' p c = C2 at hP2 hO2
    refine g_ixL (d := .str ⟨#[st[j]]⟩) (atI_nat' (by rw [List.getElem?_map, List.getElem?_eq_getElem hj]; rfl)) ?_
    walk_at "go"
    refine g_addS (by show _ + 1 ≤ _; simp only [sizeLine]; omega) ?_
    have hol : (lw ++ (⟨#[st[j]]⟩ : Str)).length ≤ 25 := by rw [add_len]; show _ + 1 ≤ 25; omega
    generalize lw ++ (⟨#[st[j]]⟩ : Str) = odd at hol ⊢
    walk_at "go"
    refine g_dict0F ?_
    walk_at "go"
    refine g_revS (by simp only [sizeLine]; omega) ?_
    walk_at "go"
    refine g_ixSc (c := (zs tg)[0]) (i := 0) (by omega) (List.getElem?_eq_getElem (show 0 < (zs tg).length by omega)) ?_
    walk_at "go"
    refine g_mulX (n := 25) (by omega) (one_len _ _ (by omega)) fun t1 ht1 => ?_
    have ht1 : t1.length ≤ 3000 := by rw [ht1, show (⟨#[(zs tg)[0]]⟩ : Str).length = 1 from rfl]; omega
    walk_at "go"
    refine g_ixSl (by omega) (by omega) fun c2 => ?_
    walk_at "go"
    refine g_mulX (n := 61) (by omega) (one_len _ _ (by omega)) fun t2 ht2 => ?_
    have ht2 : t2.length ≤ 3000 := by rw [ht2, show (⟨#[c2]⟩ : Str).length = 1 from rfl]; omega
    walk_at "go"
    refine g_mulX (n := 30) (by omega) (by omega) fun t3 ht3 => ?_
    have ht3 : t3.length ≤ 3000 := by omega
    walk_at "go"
    refine take_nat (m := 12) hP2 (by omega) (by omega) fun c j2 hc hj2 => ?_
    have hP3 := pen_put (C := C2) (p := p) hc
    have hO3 := hO2.pen (c := c)
    generalize put C2 p c = C3 at hP3 hO3
    have hk := fun d (h : Thg d) => k d C3 h hP3 hO3
    match j2, hj2 with
    | 0, _ => exact g_ixL rfl (hk _ .non)
    | 1, _ => exact g_ixL rfl (hk _ .sev)
    | 2, _ => exact g_ixL rfl (hk _ .tru)
    | 3, _ => exact g_ixL rfl (hk _ .nil)
    | 4, _ => exact g_ixL rfl (hk _ (.one _ (by omega)))
    | 5, _ => exact g_ixL rfl (hk _ (.tup _ (by omega)))
    | 6, _ => exact g_ixL rfl (hk _ .dic)
    | 7, _ => exact g_ixL rfl (hk _ (.txt _ (by omega)))
    | 8, _ => exact g_ixL rfl (hk _ (.txt _ (by rw [revS_len]; omega)))
    | 9, _ => exact g_ixL rfl (hk _ (.txt _ ht1))
    | 10, _ => exact g_ixL rfl (hk _ (.txt _ ht2))
    | 11, _ => exact g_ixL rfl (hk _ (.txt _ ht3))
  walk_at "go"
  have hlast1 : way = 1 → words ≠ [] → ∀ (K : D → AH → Prop), (∀ cc (j : Nat), PenC cc → j < words.length → ∀ l, words[words.length - 1 - j]? = some l → K (.str l) (put C1 p cc)) → s_law_take [.ce p, .int (if (words.length : Int) < 12 then (words.length : Int) else 12)] C1 fun y C2 => aSub (.int (-1)) y C2 fun y C3 => aIx (.ce q) y C3 K := fun _ hn K hK => by
    have hwp := List.length_pos_iff.mpr hn
    have hmn : (if (words.length : Int) < 12 then (words.length : Int) else 12) = ((min words.length 12 : Nat) : Int) := by split <;> omega
    rw [hmn]
    refine take_nat hP1 (by omega) (by omega) fun cc j hc hj => ?_
    have hjl : words.length - 1 - j < words.length := by omega
    have hq2 : (put C1 p cc) q = some (.lst (strsL words)) := put_other hpq.symm hq1
    refine g_sub ?_
    show (match asS (put C1 p cc) (.ce q) with | some ds => (match atI ds (-1 - (j : Int)) with | some d => K d (put C1 p cc) | none => False) | none => False)
    rw [show asS (put C1 p cc) (.ce q) = some (strsL words) from by show (match (put C1 p cc) q with | some (.lst us) => some us | _ => none) = _; rw [hq2]]
    have e : atI (strsL words) (-1 - (j : Int)) = some (.str words[words.length - 1 - j]) := by
      unfold L2.atI L2.ixN
      rw [hsl, if_neg (by omega), if_pos (by omega)]
      show (strsL words)[((-1 - (j : Int)) + (words.length : Int)).toNat]? = _
      rw [show ((-1 - (j : Int)) + (words.length : Int)).toNat = words.length - 1 - j by omega]
      unfold strsL
      rw [List.getElem?_map, List.getElem?_eq_getElem hjl]
      rfl
    show (match atI (strsL words) (-1 - (j : Int)) with | some d => K d (put C1 p cc) | none => False)
    rw [e]
    exact hK cc j hc (by omega) _ (List.getElem?_eq_getElem hjl)
  by_cases h1 : way = 1 ∧ words ≠ []
  · obtain ⟨hw1, hn⟩ := h1
    have hn2 : (strsL words).isEmpty = false := by
      cases words with
      | nil => exact absurd rfl hn
      | cons a b => rfl
    refine g_ifT (fun K hK => ?_) ?_
    · walk_at "go"
      rw [decide_eq_true (show (way : Int) = 1 by omega)]
      walk_at "go"
      refine g_neNilC hq1 ?_
      rw [hn2]
      walk_at "go"
      exact hK
    walk_at "go"
    rw [hsl]
    refine hlast1 hw1 hn _ fun cc j hc hj l hl => ?_
    have := hw.2 l (List.mem_of_getElem? hl)
    exact k _ _ (.txt _ (by omega)) (pen_put hc) hO1.pen
  clear hlast1
  refine g_ifF (fun K hK => ?_) ?_
  · walk_at "go"
    by_cases hw1 : way = 1
    · have he : words = [] := Decidable.byContradiction fun h => h1 ⟨hw1, h⟩
      rw [decide_eq_true (show (way : Int) = 1 by omega)]
      walk_at "go"
      refine g_neNilC hq1 ?_
      rw [he]
      walk_at "go"
      exact hK
    · rw [decide_eq_false (show ¬ (way : Int) = 1 by omega)]
      walk_at "go"
      exact hK
  walk_at "go"
  refine g_ifS ?_
  walk_at "go"
  refine g_iteD (fun h5 => ?_) (fun h5 => ?_)
  · walk_at "go"
    refine g_listSM (by show lw.length ≤ sizeLine; simp only [sizeLine]; omega) fun q2 hq2 => ?_
    have hpq2 : p ≠ q2 := by obtain ⟨_, h, _⟩ := hP1; exact ne_cell h hq2
    rw [signs_chars, show chars lw = ones (cs lw) from rfl]
    have hq0 : C q2 = none := hO1.none hpq2.symm hq2
    have hP2 := hP1.other (c := .lst (strsL (ones (cs lw)))) hpq2
    have hO2 := hO1.put (c := .lst (strsL (ones (cs lw)))) hq0
    have hC2 : (put C1 q2 (.lst (strsL (ones (cs lw))))) q2 = some (.lst (strsL (ones (cs lw)))) := put_same
    generalize put C1 q2 (.lst (strsL (ones (cs lw)))) = C2 at hP2 hO2 hC2
    walk_at "go"
    refine take_nat (m := 4) hP2 (by omega) (by omega) fun c d hc hd => ?_
    have hP3 := pen_put (C := C2) (p := p) hc
    have hO3 := hO2.pen (c := c)
    have hC3 := put_other (d := c) hpq2.symm hC2
    generalize put C2 p c = C3 at hP3 hO3 hC3
    walk_at "go"
    refine g_neNilC hC3 ?_
    walk_at "go"
    obtain ⟨n, en, hn⟩ : ∃ n : Nat, (d : Int) * (if (!(strsL (ones (cs lw))).isEmpty) = true then 1 else 0) = (n : Int) ∧ (n < 100 ∧ (0 < n → 0 < (cs lw).length)) := by
      cases hcl : cs lw with
      | nil => exact ⟨0, by simp, by omega, fun h => by omega⟩
      | cons a b => exact ⟨d, by simp, by omega, fun _ => by simp⟩
    rw [en]
    walk_at "go"
    rw [show ((n : Nat) : Int).toNat = n from rfl]
    have hlen : (cs lw).length ≤ 24 := by rw [csl]; exact hl24
    refine g_kForR0 (fun i st C' => ∃ (l : List Nat) (x10 : Option D), l.length = (cs lw).length ∧ (∀ c ∈ l, c ∈ zs tg) ∧ C' q2 = some (.lst (strsL (ones l))) ∧ Pen C' p ∧ Oth p C C' ∧ st = [some (.ce p), some (.tup (strsL tg)), some (.ce q), some (.str (Txt.join "" tg)), some (.int (way : Nat)), some (.str lw), none, none, none, some (.ce q2), x10, none]) ⟨cs lw, none, rfl, hlin, hC3, hP3, hO3, rfl⟩ (fun i st C' hi hh => ?_) (fun st C' hh => ?_)
    · obtain ⟨l, x10, hll, hlz, hC, hP, hO, rfl⟩ := hh
      have hlp := hn.2 (by omega)
      walk_at "go"
      refine g_lenS (by simp only [sizeLine]; omega) ?_
      walk_at "go"
      refine take_nat hP (by omega) (by omega) fun c j hc hj => ?_
      have hjz : j < (zs tg).length := by omega
      have hP' := pen_put (C := C') (p := p) hc
      have hO' := hO.pen (c := c)
      have hC' := put_other (d := c) hpq2.symm hC
      generalize put C' p c = C5 at hP' hO' hC'
      refine g_ixSc (c := (zs tg)[j]) (by omega) (List.getElem?_eq_getElem hjz) ?_
      walk_at "go"
      rw [List.length_map, List.length_map]
      refine take_nat hP' (by omega) (by omega) fun c j2 hc hj2 => ?_
      refine g_kSet (k := j2) (put_other (d := c) hpq2.symm hC') (by rw [List.length_map, List.length_map]; exact ixN_nat hj2) ?_
      refine ⟨l.set j2 (zs tg)[j], some (.int (i : Nat)), by rw [List.length_set]; exact hll, fun c hc => ?_, ?_, (pen_put hc).other hpq2, hO'.pen.put hq0, by simp⟩
      · rcases List.mem_or_eq_of_mem_set hc with h | h
        · exact hlz c h
        · rw [h]; exact List.getElem_mem hjz
      · rw [put_same]
        simp [List.map_set]
    obtain ⟨l, x10, hll, hlz, hC, hP, hO, rfl⟩ := hh
    refine g_frzL rfl hC ?_
    walk_at "go"
    refine g_joinE (by rw [ones_len]; omega) ?_
    refine k _ _ (.txt _ ?_) (hP.otherD hpq2) (hO.del hq0)
    rw [← csl, cs_ones]
    omega
  walk_at "go"
  refine g_ifS ?_
  walk_at "go"
  refine g_iteD (fun h6 => ?_) (fun h6 => ?_)
  · walk_at "go"
    refine ⟨by simp only [sizeLine]; omega, ?_⟩
    walk_at "go"
    refine g_lenS (by simp only [sizeLine]; omega) ?_
    walk_at "go"
    refine take_nat hP1 (by omega) (by omega) fun c j hc hj => ?_
    have hjz : j < (zs tg).length := by omega
    have hP2 := pen_put (C := C1) (p := p) hc
    have hO2 := hO1.pen (c := c)
    generalize put C1 p c = C2 at hP2 hO2
    refine g_ixSc (c := (zs tg)[j]) (by omega) (List.getElem?_eq_getElem hjz) ?_
    walk_at "go"
    refine g_addS (by rw [show (⟨#[(zs tg)[j]]⟩ : Str).length = 1 from rfl]; simp only [sizeLine]; omega) ?_
    have hol : (lw ++ (⟨#[(zs tg)[j]]⟩ : Str)).length ≤ 25 := by rw [add_len, show (⟨#[(zs tg)[j]]⟩ : Str).length = 1 from rfl]; omega
    walk_at "go"
    refine ⟨by simp only [sizeLine]; omega, ?_⟩
    walk_at "go"
    refine take_nat (m := 3) hP2 (by omega) (by omega) fun c j2 hc hj2 => ?_
    have hk := fun d (h : Thg d) => k d _ h (pen_put hc) (hO2.pen (c := c))
    have hc1 : (cutS lw (some 1) none).length ≤ 3000 := by
      rw [← len_toList, cutS_l, List.length_take, List.length_drop, len_toList]
      omega
    have hc2 : (cutS lw none (some (-1))).length ≤ 3000 := by
      rw [← len_toList, cutS_l, List.length_take, List.length_drop, len_toList]
      omega
    match j2, hj2 with
    | 0, _ => exact g_ixL rfl (hk _ (.txt _ hc1))
    | 1, _ => exact g_ixL rfl (hk _ (.txt _ (by omega)))
    | 2, _ => exact g_ixL rfl (hk _ (.txt _ hc2))
  walk_at "go"
  refine take_nat (m := 4) hP1 (by omega) (by omega) fun c j hc hj => ?_
  have hP2 := pen_put (C := C1) (p := p) hc
  have hO2 := hO1.pen (c := c)
  generalize put C1 p c = C2 at hP2 hO2
  have hsz : ∀ (K : D → AH → Prop), (∀ m : Nat, 0 < m → m ≤ 25 → K (.int (m : Nat)) C2) → aIx (.lst [.int 4, .int 4, .int 7, .int 25]) (.int (j : Nat)) C2 K := fun K hK => by
    match j, hj with
    | 0, _ => exact g_ixL rfl (hK 4 (by omega) (by omega))
    | 1, _ => exact g_ixL rfl (hK 4 (by omega) (by omega))
    | 2, _ => exact g_ixL rfl (hK 7 (by omega) (by omega))
    | 3, _ => exact g_ixL rfl (hK 25 (by omega) (by omega))
  refine hsz _ fun m hm0 hm => ?_
  walk_at "go"
  refine take_nat hP2 hm0 (by omega) fun c m2 hc hm2 => ?_
  have hP3 := pen_put (C := C2) (p := p) hc
  have hO3 := hO2.pen (c := c)
  generalize put C2 p c = C3 at hP3 hO3
  walk_at "go"
  refine lword_ok hP3 T (by omega) fun w C4 hw hwl hP4 hO4 => ?_
  exact k _ _ (.txt _ (by omega)) hP4 (hO3.trans hO4)
end
end A_k53
namespace A_k53
open PySem L2 AL
def Lz (tg : List Str) : Sent → Prop
  | .long lo hi => lo ≤ 3 ∧ ∀ h, hi = some h → lo ≤ h ∧ h ≤ 6
  | .least k m => k < tg.length ∧ m ≤ 2
  | .often own m => 1 ≤ own.length ∧ own.length ≤ 2 ∧ In tg own ∧ (cs own).Nodup ∧ m ≤ 1
  | .apart => True
  | .without own => 1 ≤ own.length ∧ own.length ≤ 3 ∧ In tg own
  | .begins own => 1 ≤ own.length ∧ own.length ≤ 3 ∧ In tg own
  | .ends own => 1 ≤ own.length ∧ own.length ≤ 3 ∧ In tg own
  | _ => False
theorem Lz.lf {tg : List Str} {s : Sent} (h : Lz tg s) : Lf tg s := by
  cases s with
  | long lo hi => exact ⟨by have := h.1; omega, fun x e => by have := h.2 x e; omega⟩
  | least k m => exact ⟨h.1, by have := h.2; omega⟩
  | often own m => exact ⟨h.1, by have := h.2.1; omega, h.2.2.1, by have := h.2.2.2.2; omega⟩
  | apart => trivial
  | without own => exact ⟨h.1, by have := h.2.1; omega, h.2.2⟩
  | begins own => exact ⟨h.1, by have := h.2.1; omega, h.2.2⟩
  | ends own => exact ⟨h.1, by have := h.2.1; omega, h.2.2⟩
  | _ => exact h.elim
theorem Lz.wt {tg : List Str} (T : Tng tg) {s : Sent} (h : Lz tg s) : wt tg s ≤ 14 := by
  have h12 := T.few
  cases s with
  | long lo hi =>
    cases hi with
    | none => show lo + 1 ≤ 14; have := h.1; omega
    | some x => show x + 2 ≤ 14; have := h.2 x rfl; omega
  | least k m => show m + 1 ≤ 14; have := h.2; omega
  | often own m =>
    show (m + 1) ^ own.length + 1 ≤ 14
    have h2 := h.2.1
    have h1 := h.2.2.2.2
    have : (m + 1) ^ own.length ≤ 2 ^ 2 := Nat.le_trans (Nat.pow_le_pow_left (by omega) _) (Nat.pow_le_pow_right (by decide) h2)
    omega
  | apart => show (zs tg).length + 2 ≤ 14; omega
  | without own => show own.length + 1 ≤ 14; have := h.2.1; omega
  | begins own => show own.length + 2 ≤ 14; have := h.2.1; omega
  | ends own => show own.length + 1 ≤ 14; have := h.2.1; omega
  | _ => exact h.elim
end A_k53
namespace A_k53
open PySem L2 AL
section
variable {C : AH} {P : D → AH → Prop} {o pw pd : Addr} {tg : List Str} {ss : List Sent} {look spots : Nat} {words : List Str}
theorem pl (f : Str) (v : D) : ∀ (es : List (Str × D)) (n : Nat), es.length ≤ n → (putFD f v es).length ≤ n + 1
  | [], n, _ => Nat.succ_le_succ (Nat.zero_le n)
  | (g, x) :: r, n, h => by
    unfold putFD
    split
    · rw [List.length_cons] at h ⊢; omega
    · rw [List.length_cons] at h ⊢
      cases n with
      | zero => omega
      | succ n => exact Nat.succ_le_succ (pl f v r n (by omega))
theorem init_ok (hC : C o = some (.ob "Keeper" [])) (k : ∀ pw pd C', Kp C' o pw pd tg ss look spots [] → C' pd = some (.lst []) → C pw = none → C pd = none → pw ≠ pd → Oth o C C' → P .non C') : s_Keeper___init__ [.ce o, ruleD tg ss, .int (look : Nat), .int (spots : Nat)] C P := by
  unfold s_Keeper___init__ a_Keeper___init__
  walk_at "go"
  refine g_kFldPut hC (by decide) ?_
  walk_at "go"
  refine g_kFldPut put_same (Nat.lt_of_le_of_lt (pl _ _ _ 0 (Nat.zero_le 0)) (by decide)) ?_
  walk_at "go"
  refine g_kFldPut put_same (Nat.lt_of_le_of_lt (pl _ _ _ 1 (pl _ _ _ 0 (Nat.zero_le 0))) (by decide)) ?_
  walk_at "go"
  intro q hq
  have hoq : o ≠ q := fun h => by subst h; rw [put_same] at hq; cases hq
  have hq0 : C q = none := by rw [put_ne hoq.symm, put_ne hoq.symm, put_ne hoq.symm] at hq; exact hq
  walk_at "go"
  refine g_kFldPut (put_other hoq put_same) (Nat.lt_of_le_of_lt (pl _ _ _ 2 (pl _ _ _ 1 (pl _ _ _ 0 (Nat.zero_le 0)))) (by decide)) ?_
  walk_at "go"
  intro r hr
  have hor : o ≠ r := fun h => by subst h; rw [put_same] at hr; cases hr
  have hqr : q ≠ r := fun h => by subst h; rw [put_ne hoq.symm, put_same] at hr; cases hr
  have hr0 : C r = none := by rw [put_ne hor.symm, put_ne hqr.symm, put_ne hor.symm, put_ne hor.symm, put_ne hor.symm] at hr; exact hr
  walk_at "go"
  refine g_kFldPut (put_other hor put_same) (Nat.lt_of_le_of_lt (pl _ _ _ 3 (pl _ _ _ 2 (pl _ _ _ 1 (pl _ _ _ 0 (Nat.zero_le 0))))) (by decide)) ?_
  walk_at "go"
  refine k q r _ ⟨put_same, ?_, ⟨[], ?_, by decide⟩⟩ ?_ hq0 hr0 hqr ?_
  · rw [put_ne hoq.symm, put_ne hqr, put_ne hoq.symm, put_same]; rfl
  · rw [put_ne hor.symm, put_same]
  · rw [put_ne hor.symm, put_same]
  · intro x c n e
    have h1 : x ≠ q := ne_cell e hq0
    have h2 : x ≠ r := ne_cell e hr0
    rw [put_ne n, put_ne h2, put_ne n, put_ne h1, put_ne n, put_ne n, put_ne n]
    exact e
theorem take_ok' (T : Tng tg) (hs : ∀ s ∈ ss, Fit tg 8 s) (hsl : ss.length ≤ 1000) (K : Kp C o pw pd tg ss look spots words) (hop : o ≠ pw) (hod : o ≠ pd) (hpd : pw ≠ pd) (hw : Wds tg words) {z : Str} (hz : z.length ≤ 3000) (hy : wy tg ss words look spots (.str z) = .non) (hdl : ∀ l, C pd = some (.lst l) → l.length < 200)
    (k : ∀ l, C pd = some (.lst l) → P .non (put (put C pw (.lst (strsL (words ++ [z])))) pd (.lst (l ++ [.non])))) : s_Keeper_take [.ce o, .str z] C P := by
  obtain ⟨l, hl, hl200⟩ := K.ds
  have hw40 := hw.1
  unfold s_Keeper_take a_Keeper_take
  walk_at "go"
  refine g_kMth K.ob rfl ?_
  walk_at "go"
  refine why_not_ok T hs hsl K hw (.txt z hz) ?_
  rw [hy]
  walk_at "go"
  refine g_ifF (fun Q hQ => by walk_at "go"; exact hQ) ?_
  walk_at "go"
  refine g_ifF (fun Q hQ => by walk_at "go"; exact hQ) ?_
  walk_at "go"
  refine g_ifF (fun Q hQ => by walk_at "go"; exact hQ) ?_
  walk_at "go"
  refine g_ifF (fun Q hQ => by walk_at "go"; exact hQ) ?_
  walk_at "go"
  refine g_kFld K.ob rfl ?_
  have hws := K.ws
  have hob2 : (put C pw (.lst (words.map D.str ++ [D.str z]))) o = _ := put_other hop K.ob
  have hpd2 : (put C pw (.lst (words.map D.str ++ [D.str z]))) pd = _ := put_other hpd.symm hl
  walk_at "go"
  refine g_append hws (by rw [List.length_map]; simp only [sizeLine]; omega) ?_
  walk_at "go"
  refine g_kFld hob2 rfl ?_
  walk_at "go"
  refine g_append hpd2 (by simp only [sizeLine]; omega) ?_
  walk_at "go"
  have := k l hl
  rw [show strsL (words ++ [z]) = words.map D.str ++ [D.str z] from List.map_append ..] at this
  exact this
end
end A_k53
namespace A_k53
open PySem L2 AL
theorem dd_iff : ∀ (xs σ : List Str), (xs.foldl ddS σ).length = σ.length + xs.length ↔ xs.Nodup ∧ ∀ x ∈ xs, x ∉ σ
  | [], σ => by simp
  | x :: xs, σ => by
    rw [List.foldl_cons, List.length_cons]
    by_cases h : x ∈ σ
    · have e : ddS σ x = σ := by unfold ddS; rw [if_pos (by simpa using h)]
      rw [e]
      have := foldl_le xs σ
      refine ⟨fun q => by omega, fun q => absurd h (q.2 x List.mem_cons_self)⟩
    · have e : ddS σ x = σ ++ [x] := by unfold ddS; rw [if_neg (by simpa using h)]
      rw [e]
      have ih := dd_iff xs (σ ++ [x])
      rw [List.length_append, List.length_singleton] at ih
      rw [show σ.length + (xs.length + 1) = σ.length + 1 + xs.length by omega, ih, List.nodup_cons]
      refine ⟨fun q => ⟨⟨fun hx => q.2 x hx (by simp), q.1⟩, fun y hy => ?_⟩, fun q => ⟨q.1.2, fun y hy => ?_⟩⟩
      · rcases List.mem_cons.mp hy with rfl | hy
        · exact h
        · exact fun hs => q.2 y hy (by simp [hs])
      · have := q.2 y (List.mem_cons_of_mem _ hy)
        simp only [List.mem_append, List.mem_singleton, not_or]
        exact ⟨this, fun z => q.1.1 (z ▸ hy)⟩
theorem sgS_nodup (z : Str) : (sgS z).Nodup ↔ z.cps.toList.Nodup := by
  unfold sgS List.Nodup
  rw [List.pairwise_map]
  refine ⟨fun h => h.imp fun {a b} q e => q (by rw [e]), fun h => h.imp fun {a b} q e => q ?_⟩
  injection e with e
  have := congrArg Array.toList e
  simpa using this
theorem lenset {z : Str} : decide (((dd (sgS z)).length : Int) = (z.length : Int)) = decide z.cps.toList.Nodup := by
  have h := dd_iff (sgS z) []
  rw [List.length_nil, Nat.zero_add, sgS_len, sgS_nodup] at h
  refine decide_eq_decide.mpr ⟨fun e => (h.mp (by unfold dd at e; omega)).1, fun e => ?_⟩
  have := h.mpr ⟨e, by simp⟩
  unfold dd
  omega
section
variable {C : AH} {P : D → AH → Prop} {tg : List Str}
theorem within_ok {n lo hi : Int} (h1 : lo ≤ n) (h2 : n ≤ hi) (k : P (.bl true) C) : s_is_within [.int n, .int lo, .int hi] C P := by
  unfold s_is_within a_is_within
  walk_at "go"
  unfold s_is_whole a_is_whole
  walk_at "go"
  rw [show isT "int" "int" = true from rfl]
  refine g_kAnd (fun _ => ?_) (fun h => by cases h)
  walk_at "go"
  rw [show (!isT "bool" "int") = true from rfl]
  refine g_kAnd (fun _ => ?_) (fun h => by cases h)
  walk_at "go"
  rw [decide_eq_true h1]
  refine g_kChain (fun _ => ?_) (fun h => by cases h)
  walk_at "go"
  rw [decide_eq_true h2]
  exact k
theorem piece_ok (T : Tng tg) {z : Str} {m : Nat} (h1 : 1 ≤ z.length) (h2 : z.length ≤ m) (hm : m ≤ 100) (hin : In tg z) (k : P (.bl true) C) : s_is_piece [.tup (strsL tg), .str z, .int (m : Nat)] C P := by
  unfold s_is_piece a_is_piece
  walk_at "go"
  rw [show isT "str" "str" = true from rfl]
  refine g_kAnd (fun _ => ?_) (fun h => by cases h)
  walk_at "go"
  refine g_lenS (by simp only [sizeLine]; omega) ?_
  walk_at "go"
  rw [decide_eq_true (show (1 : Int) ≤ (z.length : Int) by omega)]
  refine g_kChain (fun _ => ?_) (fun h => by cases h)
  walk_at "go"
  rw [decide_eq_true (show (z.length : Int) ≤ (m : Int) by omega)]
  refine g_kAnd (fun _ => ?_) (fun h => by cases h)
  walk_at "go"
  refine has_ok T (by omega) ?_
  rw [show ((cs z).all fun c => decide (c ∈ zs tg)) = true from List.all_eq_true.mpr fun c hc => decide_eq_true (hin c hc)]
  exact k
theorem fits_ok (T : Tng tg) {s : Sent} (h : Lz tg s) (k : P (.bl true) C) : s_fits [.tup (strsL tg), tree s] C P := by
  have ht1 := T.pos
  unfold s_fits a_fits
  cases s with
  | long lo hi =>
    unfold tree
    walk_at "go"
    refine g_ifT (fun K hK => by walk_at "go"; exact hK) ?_
    walk_at "go"
    refine g_ifF (fun K hK => ?_) ?_
    · walk_at "go"
      refine within_ok (by omega) (by have := h.1; omega) ?_
      walk_at "go"
      exact hK
    walk_at "go"
    cases hi with
    | none =>
      walk_at "go"
      exact g_kOr (fun _ => k) (fun e => by cases e)
    | some x =>
      have := h.2 x rfl
      walk_at "go"
      refine g_kOr (fun e => by cases e) (fun _ => ?_)
      walk_at "go"
      exact within_ok (n := (x : Int)) (by omega) (by omega) k
  | least a m =>
    unfold tree
    walk_at "go"
    refine g_ifF (fun K hK => by walk_at "go"; exact hK) ?_
    walk_at "go"
    refine g_ifT (fun K hK => by walk_at "go"; exact hK) ?_
    walk_at "go"
    rw [List.length_map]
    refine within_ok (by omega) (by have := h.1; omega) ?_
    refine g_kAnd (fun _ => ?_) (fun h => by cases h)
    walk_at "go"
    exact within_ok (by omega) (by have := h.2; omega) k
  | often own m =>
    unfold tree
    walk_at "go"
    refine g_ifF (fun K hK => by walk_at "go"; exact hK) ?_
    walk_at "go"
    refine g_ifF (fun K hK => by walk_at "go"; exact hK) ?_
    walk_at "go"
    refine g_ifT (fun K hK => by walk_at "go"; exact hK) ?_
    walk_at "go"
    refine g_ifF (fun K hK => ?_) ?_
    · walk_at "go"
      refine piece_ok T (m := 4) h.1 (by have := h.2.1; omega) (by omega) h.2.2.1 ?_
      walk_at "go"
      refine within_ok (by omega) (by have := h.2.2.2.2; omega) ?_
      walk_at "go"
      exact hK
    walk_at "go"
    have := h.2.1
    refine g_kLenSet (by omega) ?_
    walk_at "go"
    refine g_lenS (by simp only [sizeLine]; omega) ?_
    walk_at "go"
    rw [lenset, decide_eq_true h.2.2.2.1]
    exact k
  | apart =>
    unfold tree
    walk_at "go"
    refine g_ifF (fun K hK => by walk_at "go"; exact hK) ?_
    walk_at "go"
    refine g_ifF (fun K hK => by walk_at "go"; exact hK) ?_
    walk_at "go"
    refine g_ifF (fun K hK => by walk_at "go"; exact hK) ?_
    walk_at "go"
    refine g_ifF (fun K hK => by walk_at "go"; exact g_inB rfl (by decide +kernel) hK) ?_
    walk_at "go"
    exact k
  | without own =>
    unfold tree
    walk_at "go"
    refine g_ifF (fun K hK => by walk_at "go"; exact hK) ?_
    walk_at "go"
    refine g_ifF (fun K hK => by walk_at "go"; exact hK) ?_
    walk_at "go"
    refine g_ifF (fun K hK => by walk_at "go"; exact hK) ?_
    walk_at "go"
    refine g_ifT (fun K hK => by walk_at "go"; exact g_inB rfl (by decide +kernel) hK) ?_
    walk_at "go"
    exact piece_ok T (m := 6) h.1 (by have := h.2.1; omega) (by omega) h.2.2 k
  | begins own =>
    unfold tree
    walk_at "go"
    refine g_ifF (fun K hK => by walk_at "go"; exact hK) ?_
    walk_at "go"
    refine g_ifF (fun K hK => by walk_at "go"; exact hK) ?_
    walk_at "go"
    refine g_ifF (fun K hK => by walk_at "go"; exact hK) ?_
    walk_at "go"
    refine g_ifT (fun K hK => by walk_at "go"; exact g_inB rfl (by decide +kernel) hK) ?_
    walk_at "go"
    exact piece_ok T (m := 6) h.1 (by have := h.2.1; omega) (by omega) h.2.2 k
  | ends own =>
    unfold tree
    walk_at "go"
    refine g_ifF (fun K hK => by walk_at "go"; exact hK) ?_
    walk_at "go"
    refine g_ifF (fun K hK => by walk_at "go"; exact hK) ?_
    walk_at "go"
    refine g_ifF (fun K hK => by walk_at "go"; exact hK) ?_
    walk_at "go"
    refine g_ifT (fun K hK => by walk_at "go"; exact g_inB rfl (by decide +kernel) hK) ?_
    walk_at "go"
    exact piece_ok T (m := 6) h.1 (by have := h.2.1; omega) (by omega) h.2.2 k
  | _ => exact h.elim
end
end A_k53
namespace A_k53
open PySem L2 AL
section
variable {C : AH} {P : D → AH → Prop} {tg : List Str}
theorem del_put {C : AH} {q : Addr} {c : Cell} (hq : C q = none) : del (put C q c) q = C := by
  funext a
  unfold AL.del
  split
  · rename_i e; rw [e, hq]
  · rename_i e; exact put_ne e
theorem formed_ok (T : Tng tg) {s : Sent} (h : Lz tg s) (k : P (.bl true) C) : s_is_formed [.tup (strsL tg), tree s] C P := by
  have go : ∃ (x : Str) (r : List D) (l : Int), tree s = .tup (.str x :: r) ∧ tabAt tab_LENGTHS x = some l ∧ (((r.length + 1 : Nat)) : Int) = l := by
    cases s with
    | long lo hi => exact ⟨_, _, 3, rfl, by decide +kernel, rfl⟩
    | least a m => exact ⟨_, _, 3, rfl, by decide +kernel, rfl⟩
    | often own m => exact ⟨_, _, 3, rfl, by decide +kernel, rfl⟩
    | apart => exact ⟨_, _, 1, rfl, by decide +kernel, rfl⟩
    | without own => exact ⟨_, _, 2, rfl, by decide +kernel, rfl⟩
    | begins own => exact ⟨_, _, 2, rfl, by decide +kernel, rfl⟩
    | ends own => exact ⟨_, _, 2, rfl, by decide +kernel, rfl⟩
    | _ => exact h.elim
  obtain ⟨x, r, l, e, hl, hr⟩ := go
  have q := fits_ok (C := C) (P := P) T h k
  unfold s_is_formed a_is_formed
  rw [e] at q ⊢
  walk_at "go"
  refine g_ifF (fun K hK => ?_) ?_
  · walk_at "go"
    rw [show isT "tuple" "tuple" = true from rfl]
    walk_at "go"
    rw [decide_eq_false (show ¬ (((D.str x :: r).length : Nat) : Int) = 0 by rw [List.length_cons]; omega)]
    walk_at "go"
    rw [show isT "str" "str" = true from rfl]
    walk_at "go"
    exact hK
  walk_at "go"
  rw [hl]
  refine g_kAnd (fun _ => ?_) (fun e => by cases e)
  walk_at "go"
  refine g_kIxTab hl ?_
  walk_at "go"
  rw [List.length_cons, decide_eq_true hr]
  refine g_kAnd (fun _ => ?_) (fun e => by cases e)
  walk_at "go"
  exact q
theorem leaf_parts {s : Sent} (h : Lz tg s) (k : P (.lst []) C) : s_parts_of [tree s] C P := by
  refine parts_ok ?_
  rw [Lf.kids h.lf]
  exact k
theorem sentence_ok (T : Tng tg) {s : Sent} (h : Lz tg s) (k : P (.bl true) C) : s_is_sentence [.tup (strsL tg), tree s] C P := by
  unfold s_is_sentence a_is_sentence
  walk_at "go"
  refine g_kForR0 (fun i st C9 => C9 = C ∧ ∃ (L : List D) (m : Nat) (x4 x5 x6 : Option D), ((i = 0 ∧ L = [tree s] ∧ m = 0) ∨ (0 < i ∧ L = [] ∧ m = 1)) ∧ st = [some (.tup (strsL tg)), some (tree s), some (.lst L), some (.int (m : Nat)), x4, x5, x6]) ⟨rfl, [tree s], 0, none, none, none, .inl ⟨rfl, rfl, rfl⟩, rfl⟩ (fun i st C9 hi hw => ?_) (fun st C9 hw => ?_)
  · obtain ⟨rfl, L, m, x4, x5, x6, hcase, rfl⟩ := hw
    rcases hcase with ⟨rfl, rfl, rfl⟩ | ⟨hi0, rfl, rfl⟩
    · walk_at "go"
      rw [show ((0 : Nat) : Int) + (([tree s].length : Nat) : Int) = 1 from rfl]
      refine g_ifF (fun K hK => ?_) ?_
      · walk_at "go"
        rw [show decide ((9 : Int) < 1) = false from rfl]
        walk_at "go"
        refine g_kLcMap (items := [tree s]) (fun _ => .bl true) (by simp only [sizeLine, List.length_singleton]; omega) (fun e he R hR => ?_) ?_
        · rw [List.mem_singleton.mp he]
          walk_at "go"
          exact formed_ok T h hR
        walk_at "go"
        refine g_all (bs := [true]) rfl ?_
        walk_at "go"
        exact hK
      walk_at "go"
      intro q hq
      walk_at "go"
      refine g_kForL (fun j st C3 => C3 = put C9 q (.lst []) ∧ ∃ x5, st = [some (.tup (strsL tg)), some (tree s), some (.lst [tree s]), some (.int 1), some (.int (0 : Nat)), x5, some (.ce q)]) ⟨rfl, _, rfl⟩ (fun j e st C3 hj hw => ?_) (fun st C3 hw => ?_)
      · obtain ⟨rfl, x5, rfl⟩ := hw
        have he : e = tree s := List.mem_singleton.mp (List.mem_of_getElem? hj)
        subst he
        walk_at "go"
        refine leaf_parts h ?_
        walk_at "go"
        refine g_extend put_same (by simp only [sizeLine, List.length_nil]; omega) ?_
        walk_at "go"
        exact ⟨by rw [put_put]; rfl, _, rfl⟩
      · obtain ⟨rfl, x5, rfl⟩ := hw
        refine g_frzL rfl put_same ?_
        walk_at "go"
        exact ⟨del_put hq, [], 1, _, _, _, .inr ⟨by omega, rfl, rfl⟩, rfl⟩
    · walk_at "go"
      rw [show ((1 : Nat) : Int) + ((([] : List D).length : Nat) : Int) = 1 from rfl]
      refine g_ifF (fun K hK => ?_) ?_
      · walk_at "go"
        rw [show decide ((9 : Int) < 1) = false from rfl]
        walk_at "go"
        refine g_kLcMap (items := []) (fun _ => .bl true) (by simp only [sizeLine, List.length_nil]; omega) (fun e he R hR => by cases he) ?_
        walk_at "go"
        refine g_all (bs := []) rfl ?_
        walk_at "go"
        exact hK
      walk_at "go"
      intro q hq
      walk_at "go"
      refine g_kForL (fun j st C3 => C3 = put C9 q (.lst []) ∧ ∃ x5, st = [some (.tup (strsL tg)), some (tree s), some (.lst []), some (.int 1), some (.int (i : Nat)), x5, some (.ce q)]) ⟨rfl, _, rfl⟩ (fun j e st C3 hj hw => by cases hj) (fun st C3 hw => ?_)
      obtain ⟨rfl, x5, rfl⟩ := hw
      refine g_frzL rfl put_same ?_
      walk_at "go"
      exact ⟨del_put hq, [], 1, _, _, _, .inr ⟨by omega, rfl, rfl⟩, rfl⟩
  · obtain ⟨rfl, L, m, x4, x5, x6, hcase, rfl⟩ := hw
    rcases hcase with ⟨h4, _, _⟩ | ⟨_, rfl, rfl⟩
    · cases h4
    walk_at "go"
    exact g_eqR 2 (by decide) (by decide) k
end
end A_k53
namespace A_k53
open PySem L2 AL
section
variable {C : AH} {P : D → AH → Prop}
theorem law_rule12_ok {p : Addr} {tg : List Str} (T : Tng tg) (hP : Pen C p) (k : ∀ (ss : List Sent) C', (∀ s ∈ ss, Fit tg 3 s) → ss.length ≤ 2 → prodL (ss.map (wt tg)) ≤ 12 → Oth p C C' → P (.tup (ss.map tree)) C') : s_law_rule [.ce p, .tup (strsL tg), .int 12, .int 2] C P := by
  unfold s_law_rule a_law_rule
  walk_at "go"
  intro q hq
  have hpq : p ≠ q := by obtain ⟨_, h, _⟩ := hP; exact ne_cell h hq
  have hP1 := hP.other (c := .lst []) hpq
  have hO1 := (Oth.refl p C).put (c := .lst []) hq
  have hC1 : (put C q (.lst [])) q = some (.lst []) := put_same
  generalize put C q (.lst []) = C1 at hP1 hO1 hC1 ⊢
  walk_at "go"
  refine take_nat (m := 3) hP1 (by omega) (by omega) fun c n hc hn => ?_
  have hP2 := pen_put (C := C1) (p := p) hc
  have hO2 := hO1.pen (c := c)
  have hC2 := put_other (d := c) hpq.symm hC1
  generalize put C1 p c = C2 at hP2 hO2 hC2
  walk_at "go"
  rw [show ((n : Nat) : Int).toNat = n from rfl]
  refine g_kForR0 (fun i st C' => ∃ (ss : List Sent) (x6 x7 : Option D), ss.length ≤ i ∧ (∀ s ∈ ss, Fit tg 3 s) ∧ prodL (ss.map (wt tg)) ≤ 12 ∧ C' q = some (.lst (ss.map tree)) ∧ Pen C' p ∧ Oth p C C' ∧ st = [some (.ce p), some (.tup (strsL tg)), some (.int 12), some (.int 2), some (.ce q), some (.int (prodL (ss.map (wt tg)) : Nat)), x6, x7]) ⟨[], none, none, Nat.le_refl _, by simp, (by show 1 ≤ 12; omega), hC2, hP2, hO2, rfl⟩ (fun i st C' hi hh => ?_) (fun st C' hh => ?_)
  · obtain ⟨ss, x6, x7, hl, hf, hw, hC, hP, hO, rfl⟩ := hh
    walk_at "go"
    intro r hr
    have hpr : p ≠ r := by obtain ⟨_, h, _⟩ := hP; exact ne_cell h hr
    have hqr : q ≠ r := ne_cell hC hr
    have hr0 : C r = none := hO.none hpr.symm hr
    have hP3 := hP.other (c := .lst [.int 4]) hpr
    have hR : Room1 (put C' r (.lst [.int 4])) r := ⟨4, put_same⟩
    have hO3 := hO.put (c := .lst [.int 4]) hr0
    have hC3 := put_other (d := .lst [.int 4]) hqr hC
    generalize put C' r (.lst [.int 4]) = C3 at hP3 hR hO3 hC3 ⊢
    walk_at "go"
    refine lsent2_ok T (g := 0) (by omega) 2 7 (by omega) _ _ p r hP3 hR hpr fun s C4 hs hP4 _ hO4 => ?_
    have hC4 := hO4 q _ hpq.symm hqr hC3
    have hO5 : Oth p C C4 := fun x d n e => by
      have h1 := hO3 x d n e
      exact hO4 x d n (fun z => by rw [z, hr0] at e; cases e) h1
    have hb : wt tg s < 2 ^ 64 := by
      have h1 := fit_wt T hs
      have h2 : BB 2 < 2 ^ 64 := by decide
      omega
    walk_at "go"
    refine g_ifS ?_
    walk_at "go"
    refine lweight_ok T 3 s (by omega) hs hb 8 (by omega) _ _ ?_
    walk_at "go"
    have ep : prodL ((ss ++ [s]).map (wt tg)) = prodL (ss.map (wt tg)) * wt tg s := by
      rw [List.map_append]
      exact prodL_snoc _ _
    refine g_iteD (fun hle => ?_) (fun hle => ?_)
    · walk_at "go"
      refine g_append hC4 (by rw [List.length_map]; simp only [sizeLine]; omega) ?_
      walk_at "go"
      refine lweight_ok T 3 s (by omega) hs hb 8 (by omega) _ _ ?_
      walk_at "go"
      refine ⟨ss ++ [s], some (.int (i : Nat)), some (tree s), by simp; omega, fun x hx => ?_, ?_, ?_, hP4.other hpq, hO5.put hq, ?_⟩
      · rcases List.mem_append.mp hx with h | h
        · exact hf x h
        · rw [List.mem_singleton.mp h]; exact hs
      · rw [ep]
        have : ((prodL (ss.map (wt tg)) * A_k53.wt tg s : Nat) : Int) ≤ 12 := by rw [Int.natCast_mul]; exact hle
        omega
      · rw [put_same, List.map_append]; rfl
      · rw [ep, Int.natCast_mul]
    · walk_at "go"
      exact ⟨ss, _, _, by omega, hf, hw, hC4, hP4, hO5, rfl⟩
  · obtain ⟨ss, x6, x7, hl, hf, hw, hC, hP, hO, rfl⟩ := hh
    refine g_frzL rfl hC ?_
    walk_at "go"
    exact k ss _ hf (by omega) hw (hO.del hq)
end
end A_k53
namespace A_k53
open PySem L2 AL
def dueB (tg : List Str) (ss : List Sent) (words : List Str) : Bool := match words.getLast? with | none => true | some l => !(ss.all fun s => hold tg (cs l) s)
section
variable {C : AH} {P : D → AH → Prop} {PX : Str → AH → Prop} {o pw pd : Addr} {tg : List Str} {ss : List Sent} {look spots : Nat} {words : List Str}
theorem taken_ok (K : Kp C o pw pd tg ss look spots words) (k : P (.lst (strsL words)) C) : s_Keeper_taken [.ce o] C P := by
  unfold s_Keeper_taken a_Keeper_taken
  walk_at "go"
  refine g_kFld K.ob rfl ?_
  walk_at "go"
  exact g_listC K.ws k
theorem krule_ok (K : Kp C o pw pd tg ss look spots words) (k : P (ruleD tg ss) C) : s_Keeper_rule [.ce o] C P := by
  unfold s_Keeper_rule a_Keeper_rule
  walk_at "go"
  exact g_kFld K.ob rfl k
theorem g_eqNilC {p : Addr} {us : List D} (h1 : C p = some (.lst us)) (h : P (.bl us.isEmpty) C) : aEqNil false (.ce p) (.lst []) C P := by
  show (match asLr C (.ce p), D.lst [] with | some us, .lst [] => P (.bl (if false = true then !us.isEmpty else us.isEmpty)) C | _, _ => False)
  rw [show asLr C (.ce p) = some us from by simp [asLr, asL, h1]]
  exact h
theorem g_popC {p : Addr} {us : List D} {d : D} (h1 : C p = some (.lst (us ++ [d]))) (h : P d (put C p (.lst us))) : aPop (.ce p) [] C P := by
  show (match C p with | some (.lst us) => (match us[us.length - 1]? with | some d => P d (put C p (.lst us.dropLast)) | none => False) | _ => False)
  rw [h1]
  show (match (us ++ [d])[(us ++ [d]).length - 1]? with | some d' => P d' (put C p (.lst (us ++ [d]).dropLast)) | none => False)
  rw [List.length_append, List.length_singleton, Nat.add_sub_cancel, List.getElem?_append_right (Nat.le_refl _), Nat.sub_self, List.dropLast_concat]
  exact h
theorem due_ok (T : Tng tg) (hs : ∀ s ∈ ss, Fit tg 8 s) (hsl : ss.length ≤ 1000) (K : Kp C o pw pd tg ss look spots words) (hw : Wds tg words) (k : P (.bl (dueB tg ss words)) C) : s_Keeper_due [.ce o] C P := by
  unfold s_Keeper_due a_Keeper_due
  walk_at "go"
  refine g_kFld K.ob rfl ?_
  walk_at "go"
  refine g_eqNilC K.ws ?_
  unfold dueB at k
  cases e : words.getLast? with
  | none =>
    rw [List.getLast?_eq_none_iff.mp e] at k ⊢
    rw [show (strsL []).isEmpty = true from rfl]
    exact g_kOr (fun _ => k) (fun h => by cases h)
  | some l =>
    rw [e] at k
    have hne : (strsL words).isEmpty = false := by
      cases words with
      | nil => cases e
      | cons a b => rfl
    rw [hne]
    have hlm := List.mem_of_getLast? e
    have hl24 := (hw.2 l hlm).2
    have h40 := hw.1
    refine g_kOr (fun h => by cases h) (fun _ => ?_)
    walk_at "go"
    refine g_kFld K.ob rfl ?_
    walk_at "go"
    refine g_kFld K.ob rfl ?_
    walk_at "go"
    refine g_ixLastC K.ws (strs_last e) (by rw [show (strsL words).length = words.length from List.length_map ..]; omega) ?_
    walk_at "go"
    refine keeps_ok T hs hsl (by omega) ?_
    walk_at "go"
    exact k
theorem undo_no (K : Kp C o pw pd tg ss look spots words) (hl : C pd = some (.lst [])) (k : PX "NoBack" C) : s_Keeper_undo [.ce o] C P PX := by
  unfold s_Keeper_undo a_Keeper_undo
  walk_at "go"
  refine g_ifT (fun Q hQ => ?_) ?_
  · walk_at "go"
    refine g_kFld K.ob rfl ?_
    walk_at "go"
    refine g_eqNilC hl ?_
    walk_at "go"
    exact hQ
  walk_at "go"
  exact k
theorem undo_word (K : Kp C o pw pd tg ss look spots words) (hpd : pw ≠ pd) (hop : o ≠ pd) {l : List D} (hl : C pd = some (.lst (l ++ [.non]))) {w : List Str} {z : Str} (hw : words = w ++ [z]) (k : P .non (put (put C pd (.lst l)) pw (.lst (strsL w)))) : s_Keeper_undo [.ce o] C P PX := by
  subst hw
  unfold s_Keeper_undo a_Keeper_undo
  walk_at "go"
  refine g_ifF (fun Q hQ => ?_) ?_
  · walk_at "go"
    refine g_kFld K.ob rfl ?_
    walk_at "go"
    refine g_eqNilC hl ?_
    rw [show (l ++ [D.non]).isEmpty = false by cases l <;> rfl]
    walk_at "go"
    exact hQ
  walk_at "go"
  refine g_kFld K.ob rfl ?_
  walk_at "go"
  refine g_popC hl ?_
  walk_at "go"
  have hob := put_other (d := .lst l) hop K.ob
  have hws := put_other (d := .lst l) hpd K.ws
  refine g_ifT (fun Q hQ => by walk_at "go"; exact hQ) ?_
  walk_at "go"
  refine g_kFld hob rfl ?_
  walk_at "go"
  refine g_popC (us := strsL w) (d := .str z) (by rw [hws]; simp [strsL]) ?_
  walk_at "go"
  exact k
theorem undo_rule (K : Kp C o pw pd tg ss look spots words) (hop : o ≠ pd) {l : List D} {ss' : List Sent} (hl : C pd = some (.lst (l ++ [ruleD tg ss']))) (k : P .non (put (put C pd (.lst l)) o (kpC tg ss' look spots pw pd))) : s_Keeper_undo [.ce o] C P PX := by
  unfold s_Keeper_undo a_Keeper_undo
  walk_at "go"
  refine g_ifF (fun Q hQ => ?_) ?_
  · walk_at "go"
    refine g_kFld K.ob rfl ?_
    walk_at "go"
    refine g_eqNilC hl ?_
    rw [show (l ++ [ruleD tg ss']).isEmpty = false by cases l <;> rfl]
    walk_at "go"
    exact hQ
  walk_at "go"
  refine g_kFld K.ob rfl ?_
  walk_at "go"
  refine g_popC hl ?_
  walk_at "go"
  have hob := put_other (d := .lst l) hop K.ob
  unfold ruleD
  refine g_ifF (fun Q hQ => by walk_at "go"; exact hQ) ?_
  walk_at "go"
  refine g_kFldPut hob (by show 5 < 1000; omega) ?_
  walk_at "go"
  exact k
theorem undone_no (K : Kp C o pw pd tg ss look spots words) (hl : C pd = some (.lst [])) (k : ∀ C', AL.Keep C C' → P (.bl false) C') : s_law_undone [.ce o] C P := by
  unfold s_law_undone a_law_undone
  walk_at "go"
  refine g_kMthX K.ob rfl ?_
  walk_at "go"
  refine undo_no K hl ?_
  refine g_handA (by decide +kernel) fun a ha => ?_
  have hK := (AL.Keep.refl C).put (c := .exc "NoBack") ha
  have hCa : put C a (.exc "NoBack") a = some (.exc "NoBack") := put_same
  generalize put C a (.exc "NoBack") = C2 at hK hCa ⊢
  walk_at "go"
  refine g_ifF (fun Q hQ => by walk_at "go"; exact hQ) ?_
  walk_at "go"
  refine g_ifF (fun Q hQ => ?_) ?_
  · walk_at "go"
    refine g_kIsX (b := false) hCa (by decide +kernel) ?_
    walk_at "go"
    exact hQ
  walk_at "go"
  refine g_ifF (fun Q hQ => ?_) ?_
  · walk_at "go"
    refine g_kIsX (b := false) hCa (by decide +kernel) ?_
    walk_at "go"
    refine g_kIsX (b := true) hCa (by decide +kernel) ?_
    walk_at "go"
    refine g_kIsX (b := true) hCa (by decide +kernel) ?_
    walk_at "go"
    exact hQ
  walk_at "go"
  exact k _ hK
theorem undone_yes {C' : AH} (K : Kp C o pw pd tg ss look spots words) (hu : ∀ (P : D → AH → Prop) (PX : Str → AH → Prop), P .non C' → s_Keeper_undo [.ce o] C P PX) (k : P (.bl true) C') : s_law_undone [.ce o] C P := by
  unfold s_law_undone a_law_undone
  walk_at "go"
  refine g_kMthX K.ob rfl ?_
  walk_at "go"
  refine hu _ _ ?_
  walk_at "go"
  refine g_ifT (fun Q hQ => by walk_at "go"; exact hQ) ?_
  walk_at "go"
  refine g_ixL (d := .bl true) rfl ?_
  walk_at "go"
  exact k
end
end A_k53
namespace A_k53
open PySem L2 AL
/-- whether a rule may have one sentence more -/
def good (tg : List Str) (ss : List Sent) (s : Sent) : Bool := decide (prodL ((ss ++ [s]).map (wt tg)) ≤ 600) && decide ((ss ++ [s]).length ≤ 8)
section
variable {C : AH} {P : D → AH → Prop} {PX : Str → AH → Prop} {o pw pd : Addr} {tg : List Str} {ss : List Sent} {look spots : Nat} {words : List Str}
theorem formed_none (k : P (.bl false) C) : s_is_formed [.tup (strsL tg), .non] C P := by
  unfold s_is_formed a_is_formed
  walk_at "go"
  refine g_ifT (fun K hK => ?_) ?_
  · walk_at "go"
    exact hK
  walk_at "go"
  exact k
theorem sentence_none (k : P (.bl false) C) : s_is_sentence [.tup (strsL tg), .non] C P := by
  unfold s_is_sentence a_is_sentence
  walk_at "go"
  refine g_kForR0 (fun i st C9 => C9 = C ∧ i = 0 ∧ st = [some (.tup (strsL tg)), some .non, some (.lst [.non]), some (.int 0), none, none, none]) ⟨rfl, rfl, rfl⟩ (fun i st C9 hi hw => ?_) (fun st C9 hw => ?_)
  · obtain ⟨rfl, rfl, rfl⟩ := hw
    walk_at "go"
    refine g_ifT (fun K hK => ?_) ?_
    · walk_at "go"
      rw [show decide ((9 : Int) < 0 + (([D.non].length : Nat) : Int)) = false from rfl]
      walk_at "go"
      refine g_kLcMap (items := [.non]) (fun _ => .bl false) (by simp only [sizeLine, List.length_singleton]; omega) (fun e he R hR => ?_) ?_
      · rw [List.mem_singleton.mp he]
        walk_at "go"
        exact formed_none hR
      walk_at "go"
      refine g_all (bs := [false]) rfl ?_
      walk_at "go"
      exact hK
    walk_at "go"
    exact k
  · obtain ⟨_, h, _⟩ := hw
    cases h
theorem harder_none (K : Kp C o pw pd tg ss look spots words) (k : PX "NoSentence" C) : s_Keeper_harder [.ce o, .non] C P PX := by
  unfold s_Keeper_harder a_Keeper_harder
  walk_at "go"
  refine g_kFld K.ob rfl ?_
  unfold ruleD
  walk_at "go"
  refine g_ifT (fun Q hQ => ?_) ?_
  · walk_at "go"
    refine sentence_none ?_
    walk_at "go"
    exact hQ
  walk_at "go"
  exact k
theorem harder_ok (T : Tng tg) (hs : ∀ s ∈ ss, Fit tg 8 s) (hsl : ss.length ≤ 8) (hwt : prodL (ss.map (wt tg)) ≤ 600) (K : Kp C o pw pd tg ss look spots words) (hod : o ≠ pd) {l : List D} (hl : C pd = some (.lst l)) (hl200 : l.length < 200) {s : Sent} (h : Lz tg s)
    (kb : good tg ss s = false → ∀ nm, nm = "TooMany" ∨ nm = "TooMuch" → PX nm C) (kg : good tg ss s = true → P .non (put (put C pd (.lst (l ++ [ruleD tg ss]))) o (kpC tg (ss ++ [s]) look spots pw pd))) : s_Keeper_harder [.ce o, tree s] C P PX := by
  have hw14 := h.wt T
  have hll : (ss ++ [s]).length = ss.length + 1 := by rw [List.length_append, List.length_singleton]
  unfold s_Keeper_harder a_Keeper_harder
  walk_at "go"
  refine g_kFld K.ob rfl ?_
  unfold ruleD
  walk_at "go"
  refine g_ifF (fun Q hQ => ?_) ?_
  · walk_at "go"
    refine sentence_ok T h ?_
    walk_at "go"
    exact hQ
  walk_at "go"
  refine g_ifS ?_
  walk_at "go"
  rw [List.length_map]
  by_cases h8 : 8 ≤ ss.length
  · rw [decide_eq_true (show (8 : Int) ≤ (ss.length : Int) by omega)]
    walk_at "go"
    refine kb ?_ _ (.inl rfl)
    unfold good
    rw [hll, decide_eq_false (show ¬ ss.length + 1 ≤ 8 by omega), Bool.and_false]
  rw [decide_eq_false (show ¬ (8 : Int) ≤ (ss.length : Int) by omega)]
  walk_at "go"
  refine g_addT (by rw [List.length_map]; simp only [sizeLine, List.length_singleton]; omega) ?_
  walk_at "go"
  have er : D.tup [.tup (strsL tg), .tup (ss.map tree ++ [tree s])] = ruleD tg (ss ++ [s]) := by
    unfold ruleD
    rw [List.map_append]
    rfl
  rw [er]
  have ep : prodL ((ss ++ [s]).map (wt tg)) = prodL (ss.map (wt tg)) * wt tg s := by
    rw [List.map_append]
    exact prodL_snoc _ _
  have hsp : ∀ y ∈ ss, 0 < wt tg y := fun y hy => (hs y hy).wpos
  have hfit : ∀ x ∈ ss ++ [s], Fit tg 8 x ∧ wt tg x ≤ 600 := fun x hx => by
    rcases List.mem_append.mp hx with q | q
    · have := prod_ge hsp x q
      exact ⟨hs x q, by omega⟩
    · rw [List.mem_singleton.mp q]
      exact ⟨h.lf.fit 7, by omega⟩
  refine g_ifS ?_
  walk_at "go"
  refine rulew_ok T hfit ?_
  walk_at "go"
  by_cases hp : prodL ((ss ++ [s]).map (wt tg)) ≤ 600
  · rw [decide_eq_false (show ¬ (600 : Int) < ((prodL ((ss ++ [s]).map (wt tg)) : Nat) : Int) by omega)]
    walk_at "go"
    refine g_kFld K.ob rfl ?_
    walk_at "go"
    refine g_kFld K.ob rfl ?_
    walk_at "go"
    refine g_append hl (by simp only [sizeLine]; omega) ?_
    walk_at "go"
    have hob2 : (put C pd (.lst (l ++ [ruleD tg ss]))) o = _ := put_other hod K.ob
    refine g_kFldPut hob2 (by show 5 < 1000; omega) ?_
    walk_at "go"
    refine kg ?_
    unfold good
    rw [decide_eq_true hp, hll, decide_eq_true (show ss.length + 1 ≤ 8 by omega)]
    rfl
  · rw [decide_eq_true (show (600 : Int) < ((prodL ((ss ++ [s]).map (wt tg)) : Nat) : Int) by omega)]
    walk_at "go"
    refine kb ?_ _ (.inr rfl)
    unfold good
    rw [decide_eq_false hp, Bool.false_and]
theorem lharder_no {d : D} {C' : AH} (K : Kp C o pw pd tg ss look spots words) (hh : ∀ (P : D → AH → Prop) (PX : Str → AH → Prop), (∀ nm, nm = "NoSentence" ∨ nm = "TooMany" ∨ nm = "TooMuch" → PX nm C') → s_Keeper_harder [.ce o, d] C P PX) (k : P (.bl false) C') : s_law_harder [.ce o, d] C P PX := by
  unfold s_law_harder a_law_harder
  walk_at "go"
  refine g_kMthX K.ob rfl ?_
  walk_at "go"
  refine hh _ _ fun nm hnm => ?_
  refine g_handA3 (by rcases hnm with rfl | rfl | rfl <;> decide +kernel) ?_
  walk_at "go"
  exact k
theorem lharder_yes {d : D} {C' : AH} (K : Kp C o pw pd tg ss look spots words) (hh : ∀ (P : D → AH → Prop) (PX : Str → AH → Prop), P .non C' → s_Keeper_harder [.ce o, d] C P PX) (k : P (.bl true) C') : s_law_harder [.ce o, d] C P PX := by
  unfold s_law_harder a_law_harder
  walk_at "go"
  refine g_kMthX K.ob rfl ?_
  walk_at "go"
  refine hh _ _ ?_
  walk_at "go"
  exact k
theorem fine_ok (T : Tng tg) (hs : ∀ s ∈ ss, Fit tg 8 s) (hsl : ss.length ≤ 8) (hwt : prodL (ss.map (wt tg)) ≤ 600) {s : Sent} (h : Lz tg s) (k : P (.bl (good tg ss s)) C) : s_law_fine [.tup (strsL tg), .tup (ss.map tree ++ [tree s])] C P := by
  have hw14 := h.wt T
  have hll : (ss ++ [s]).length = ss.length + 1 := by rw [List.length_append, List.length_singleton]
  have ep : prodL ((ss ++ [s]).map (wt tg)) = prodL (ss.map (wt tg)) * wt tg s := by
    rw [List.map_append]
    exact prodL_snoc _ _
  have hle : prodL ((ss ++ [s]).map (wt tg)) ≤ 8400 := by
    rw [ep]
    exact Nat.mul_le_mul hwt hw14
  have hfit : ∀ x ∈ ss ++ [s], Fit tg 8 x := fun x hx => by
    rcases List.mem_append.mp hx with q | q
    · exact hs x q
    · rw [List.mem_singleton.mp q]
      exact h.lf.fit 7
  have hpos : ∀ x ∈ ss ++ [s], 0 < wt tg x := fun x hx => (hfit x hx).wpos
  rw [show ss.map tree ++ [tree s] = (ss ++ [s]).map tree by rw [List.map_append]; rfl]
  unfold good at k
  generalize ss ++ [s] = xs at hll hle hfit hpos k
  unfold s_law_fine a_law_fine
  walk_at "go"
  refine g_kForL (fun i st C' => C' = C ∧ ∃ (x3 : Option D), st = [some (.tup (strsL tg)), some (.tup (xs.map tree)), some (.int (prodL ((xs.take i).map (wt tg)) : Nat)), x3]) ⟨rfl, none, rfl⟩ (fun i y st C' hi hh => ?_) (fun st C' hh => ?_)
  · obtain ⟨rfl, x3, rfl⟩ := hh
    rw [List.getElem?_map] at hi
    cases e : xs[i]? with
    | none => rw [e] at hi; cases hi
    | some x =>
      rw [e] at hi
      cases hi
      have hxm := List.mem_of_getElem? e
      have h1 := prod_take (ss := xs) hpos i
      have h2 := prod_ge hpos x hxm
      walk_at "go"
      refine lweight_ok T 8 x (by omega) (hfit x hxm) (Nat.lt_of_le_of_lt (Nat.le_trans h2 hle) (by decide)) 8 (Nat.le_refl _) _ _ ?_
      walk_at "go"
      refine ⟨rfl, some (tree x), ?_⟩
      rw [List.take_add_one, e, Option.toList_some, List.map_append]
      rw [show prodL ((xs.take i).map (wt tg) ++ [x].map (wt tg)) = prodL ((xs.take i).map (wt tg)) * wt tg x from prodL_snoc _ _]
      rw [Int.natCast_mul]
  · obtain ⟨rfl, x3, rfl⟩ := hh
    rw [List.length_map, List.take_length]
    walk_at "go"
    by_cases hp : prodL (xs.map (wt tg)) ≤ 600
    · rw [decide_eq_true (show ((prodL (xs.map (wt tg)) : Nat) : Int) ≤ 600 by omega)]
      rw [decide_eq_true hp, Bool.true_and] at k
      refine g_kAnd (fun _ => ?_) (fun h => by cases h)
      walk_at "go"
      rw [List.length_map]
      by_cases h8 : xs.length ≤ 8
      · rw [decide_eq_true h8] at k
        rw [decide_eq_true (show ((xs.length : Nat) : Int) ≤ 8 by omega)]
        exact k
      · rw [decide_eq_false h8] at k
        rw [decide_eq_false (show ¬ ((xs.length : Nat) : Int) ≤ 8 by omega)]
        exact k
    · rw [decide_eq_false (show ¬ ((prodL (xs.map (wt tg)) : Nat) : Int) ≤ 600 by omega)]
      rw [decide_eq_false hp, Bool.false_and] at k
      exact g_kAnd (fun h => by cases h) (fun _ => k)
end
end A_k53
namespace A_k53
open PySem L2 AL
section
variable {C : AH} {P : D → AH → Prop} {o pw pd : Addr} {tg : List Str} {ss : List Sent} {look spots : Nat} {words : List Str}
theorem Kp.keep {C C' : AH} {o pw pd : Addr} {tg : List Str} {ss : List Sent} {look spots : Nat} {words : List Str} (K : Kp C o pw pd tg ss look spots words) (h1 : C' o = C o) (h2 : C' pw = C pw) (h3 : C' pd = C pd) : Kp C' o pw pd tg ss look spots words := by
  obtain ⟨a, b, l, c, d⟩ := K
  exact ⟨h1.trans a, h2.trans b, l, h3.trans c, d⟩
theorem wordsOk (T : Tng tg) (hw : Wds tg words) : okD (.lst (strsL words)) 2 = true := by
  refine okD_lst fun y hy => ?_
  obtain ⟨z, hz, rfl⟩ := List.mem_map.mp hy
  simp only [okD]
  exact okS_all (T.ok (hw.2 z hz).1)
theorem neLC (T : Tng tg) (hw : Wds tg words) {q : Addr} (hq : C q = some (.lst (strsL words))) (h : P (.bl false) C) : aNe (.lst (strsL words)) (.ce q) C P := by
  have ok := wordsOk T hw
  obtain ⟨x, h1, h2, h3⟩ := okD_shaped ok (by decide)
  have e : pdC C (.ce q) = some x := by
    show (match C q with | some (.lst ds) => (pdL ds).map .list | _ => none) = some x
    rw [hq]
    exact h1
  refine g_neP rfl ((pdC_ok' ok).trans h1) e h2 h2 ?_
  rw [h3]
  exact h
theorem g_neR {d : D} (n : Nat) (h0 : eqS d d = none) (h : okD d n = true) (hn : n ≤ 64) (k : P (.bl false) C) : aNe d d C P := by
  obtain ⟨x, h1, h2, h3⟩ := okD_shaped h hn
  refine g_neP h0 ((pdC_ok' h).trans h1) ((pdC_ok' h).trans h1) h2 h2 ?_
  rw [h3]
  exact k
theorem wy_kind (d : D) : wy tg ss words look spots d = .non ∨ wy tg ss words look spots d = .str "word" ∨ wy tg ss words look spots d = .str "fit" ∨ wy tg ss words look spots d = .str "elder" ∨ wy tg ss words look spots d = .str "near" := by
  cases d with
  | str z =>
    show wyZ tg ss words look spots z = .non ∨ _
    show wyZ tg ss words look spots z = .non ∨ wyZ tg ss words look spots z = .str "word" ∨ wyZ tg ss words look spots z = .str "fit" ∨ wyZ tg ss words look spots z = .str "elder" ∨ wyZ tg ss words look spots z = .str "near"
    unfold wyZ
    split
    · exact .inr (.inl rfl)
    · split
      · exact .inr (.inr (.inl rfl))
      · split
        · exact .inr (.inr (.inr (.inl rfl)))
        · split
          · split
            · exact .inr (.inr (.inr (.inr rfl)))
            · exact .inl rfl
          · exact .inl rfl
  | _ => exact .inr (.inl rfl)
theorem wy_okD (d : D) : okD (wy tg ss words look spots d) 1 = true := by
  rcases wy_kind (tg := tg) (ss := ss) (words := words) (look := look) (spots := spots) d with e | e | e | e | e <;> rw [e] <;> decide +kernel
theorem stands_ok (T : Tng tg) (hs : ∀ s ∈ ss, Fit tg 8 s) (hsl : ss.length ≤ 1000) (K : Kp C o pw pd tg ss look spots words) (hw : Wds tg words) {q : Addr} (hq : C q = some (.lst (strsL words))) {ts : List D} (ht : ∀ t ∈ ts, Thg t) (hts : ts.length ≤ 1000) (k : P (.bl true) C) : s_law_stands [.ce o, kpg tg ss q look spots, .lst ts] C P := by
  have lastne : ∀ (Q : D → AH → Prop), Q (.bl false) C → aNe (lastD words) (lastD words) C Q := fun Q hQ => by
    unfold lastD
    cases e : words.getLast? with
    | none => walk_at "go"; exact hQ
    | some l => walk_at "go"; rw [decide_eq_true (rfl : l = l)]; exact hQ
  have h40 := hw.1
  have hsl2 : (strsL words).length = words.length := List.length_map ..
  unfold s_law_stands a_law_stands kpg
  walk_at "go"
  refine g_ifF (fun Q hQ => ?_) ?_
  · walk_at "go"
    refine g_kMth K.ob rfl ?_
    walk_at "go"
    refine taken_ok K ?_
    walk_at "go"
    refine neLC T hw hq ?_
    walk_at "go"
    refine g_kMth K.ob rfl ?_
    walk_at "go"
    refine word_ok K hw ?_
    walk_at "go"
    refine g_kOrC hq (fun hn => ?_) (fun hn => ?_)
    · walk_at "go"
      cases e : words.getLast? with
      | none => rw [List.getLast?_eq_none_iff.mp e] at hn; exact absurd rfl hn
      | some l =>
        have hl := lastne
        unfold lastD at hl ⊢
        rw [e] at hl ⊢
        refine g_ixL (last_at (strs_last e) (by omega)) ?_
        refine hl _ ?_
        walk_at "go"
        refine g_kMth K.ob rfl ?_
        walk_at "go"
        refine krule_ok K ?_
        walk_at "go"
        refine g_neR 10 rfl (ruleOk T hs) (by decide) ?_
        walk_at "go"
        exact hQ
    · walk_at "go"
      have : words = [] := by cases words with | nil => rfl | cons a b => cases hn
      have hl := lastne
      unfold lastD at hl ⊢
      subst this
      refine g_ixL rfl ?_
      refine hl _ ?_
      walk_at "go"
      refine g_kMth K.ob rfl ?_
      walk_at "go"
      refine krule_ok K ?_
      walk_at "go"
      refine g_neR 10 rfl (ruleOk T hs) (by decide) ?_
      walk_at "go"
      exact hQ
  walk_at "go"
  refine g_neNilC hq ?_
  cases e : words.getLast? with
  | none =>
    have he := List.getLast?_eq_none_iff.mp e
    rw [show (!(strsL words).isEmpty) = false by rw [he]; rfl]
    have hdue : dueB tg ss words = true := by unfold dueB; rw [e]
    refine g_kAnd (fun h => by cases h) (fun _ => ?_)
    walk_at "go"
    refine g_ifF (fun Q hQ => ?_) ?_
    · walk_at "go"
      refine g_kMth K.ob rfl ?_
      walk_at "go"
      refine due_ok T hs hsl K hw ?_
      walk_at "go"
      refine g_eqNilC hq ?_
      rw [show (strsL words).isEmpty = true by rw [he]; rfl, hdue]
      walk_at "go"
      exact hQ
    walk_at "go"
    refine g_kLcMap (wy tg ss words look spots) (by simp only [sizeLine]; omega) (fun d hd R hR => ?_) ?_
    · walk_at "go"
      refine g_kMth K.ob rfl ?_
      walk_at "go"
      exact why_not_ok T hs hsl K hw (ht d hd) hR
    walk_at "go"
    refine g_kLcMap (wy tg ss words look spots) (by simp only [sizeLine]; omega) (fun d hd R hR => ?_) ?_
    · walk_at "go"
      exact law_why_ok T hs hsl hq hw (ht d hd) hR
    walk_at "go"
    exact g_eqR 2 (okD_lst fun y hy => by obtain ⟨d, _, rfl⟩ := List.mem_map.mp hy; exact wy_okD d) (by decide) k
  | some l =>
    have hne : (strsL words).isEmpty = false := by
      cases words with
      | nil => cases e
      | cons a b => rfl
    have hl24 := (hw.2 l (List.mem_of_getLast? e)).2
    rw [hne]
    have hdue : dueB tg ss words = !(ss.all fun s => hold tg (cs l) s) := by unfold dueB; rw [e]
    refine g_kAnd (fun _ => ?_) (fun h => by cases h)
    walk_at "go"
    refine g_kLc (fun i acc C' => acc = ((ss.take i).map fun s => hold tg (cs l) s).map D.bl ∧ C' = C) (by rw [List.length_map]; simp only [sizeLine]; omega) ⟨rfl, rfl⟩ (fun i d acc C' hi hh => ?_) (fun acc C' hh => ?_)
    · obtain ⟨rfl, rfl⟩ := hh
      rw [List.getElem?_map] at hi
      cases e2 : ss[i]? with
      | none => rw [e2] at hi; cases hi
      | some s =>
        rw [e2] at hi
        cases hi
        walk_at "go"
        refine g_ixL (last_at (strs_last e) (by omega)) ?_
        walk_at "go"
        refine lholds_ok T (by omega) 8 s (by omega) (hs s (List.mem_of_getElem? e2)) 8 (Nat.le_refl _) _ _ ?_
        refine ⟨?_, rfl⟩
        rw [List.take_add_one, e2]
        simp
    · obtain ⟨rfl, rfl⟩ := hh
      rw [List.length_map, List.take_length]
      walk_at "go"
      refine g_inBls ?_
      walk_at "go"
      refine g_ifF (fun Q hQ => ?_) ?_
      · walk_at "go"
        refine g_kMth K.ob rfl ?_
        walk_at "go"
        refine due_ok T hs hsl K hw ?_
        walk_at "go"
        refine g_eqNilC hq ?_
        rw [hne, hdue]
        refine g_kOr (fun h => by cases h) (fun _ => ?_)
        walk_at "go"
        rw [show ((ss.map fun s => hold tg (cs l) s).all id) = ss.all fun s => hold tg (cs l) s by rw [List.all_map]; rfl]
        rw [show (!decide ((!ss.all fun s => hold tg (cs l) s) = (!ss.all fun s => hold tg (cs l) s))) = false by simp]
        exact hQ
      walk_at "go"
      refine g_kLcMap (wy tg ss words look spots) (by simp only [sizeLine]; omega) (fun d hd R hR => ?_) ?_
      · walk_at "go"
        refine g_kMth K.ob rfl ?_
        walk_at "go"
        exact why_not_ok T hs hsl K hw (ht d hd) hR
      walk_at "go"
      refine g_kLcMap (wy tg ss words look spots) (by simp only [sizeLine]; omega) (fun d hd R hR => ?_) ?_
      · walk_at "go"
        exact law_why_ok T hs hsl hq hw (ht d hd) hR
      walk_at "go"
      exact g_eqR 2 (okD_lst fun y hy => by obtain ⟨d, _, rfl⟩ := List.mem_map.mp hy; exact wy_okD d) (by decide) k
end
end A_k53
namespace A_k53
open PySem L2 AL
abbrev Ent := List Sent × List Str × Addr
inductive Hist (tg : List Str) : List Ent → List D → List Sent → List Str → Prop
  | nil {ss : List Sent} {words : List Str} : Hist tg [] [] ss words
  | word {A : List Ent} {l : List D} {ss : List Sent} {words : List Str} (q : Addr) (z : Str) : Hist tg A l ss words → Hist tg (A ++ [(ss, words, q)]) (l ++ [.non]) ss (words ++ [z])
  | hard {A : List Ent} {l : List D} {ss : List Sent} {words : List Str} (q : Addr) (ss2 : List Sent) : Hist tg A l ss words → Hist tg (A ++ [(ss, words, q)]) (l ++ [ruleD tg ss]) ss2 words
theorem Hist.inv {tg : List Str} {A : List Ent} {l : List D} {ss : List Sent} {words : List Str} (h : Hist tg A l ss words) : (A = [] ∧ l = []) ∨ ∃ A' ss' w' q' l', A = A' ++ [(ss', w', q')] ∧ Hist tg A' l' ss' w' ∧ ((l = l' ++ [.non] ∧ ss = ss' ∧ ∃ z, words = w' ++ [z]) ∨ (l = l' ++ [ruleD tg ss'] ∧ words = w')) := by
  cases h with
  | nil => exact .inl ⟨rfl, rfl⟩
  | word q z h => exact .inr ⟨_, _, _, _, _, rfl, h, .inl ⟨rfl, rfl, z, rfl⟩⟩
  | hard q ss2 h => exact .inr ⟨_, _, _, _, _, rfl, h, .inr ⟨rfl, rfl⟩⟩
theorem Hist.len {tg : List Str} {A : List Ent} {l : List D} {ss : List Sent} {words : List Str} (h : Hist tg A l ss words) : l.length = A.length := by
  induction h with
  | nil => rfl
  | word q z h ih => rw [List.length_append, List.length_append, ih]; rfl
  | hard q ss2 h ih => rw [List.length_append, List.length_append, ih]; rfl
structure OkR (tg : List Str) (ss : List Sent) : Prop where
  fit : ∀ s ∈ ss, Fit tg 8 s
  few : ss.length ≤ 8
  wt : prodL (ss.map (wt tg)) ≤ 600
def keptD (tg : List Str) (look spots : Nat) (A : List Ent) : List D := A.map fun e => kpg tg e.1 e.2.2 look spots
structure Sx (C : AH) (o pw pd pa q : Addr) (tg : List Str) (look spots : Nat) (ss : List Sent) (words : List Str) (A : List Ent) (l : List D) (m : Nat) : Prop where
  ob : C o = some (kpC tg ss look spots pw pd)
  ws : C pw = some (.lst (strsL words))
  ds : C pd = some (.lst l)
  ah : C pa = some (.lst (keptD tg look spots A))
  wc : C q = some (.lst (strsL words))
  hi : Hist tg A l ss words
  ok : OkR tg ss
  wd : Wds tg words
  ent : ∀ e ∈ A, OkR tg e.1 ∧ Wds tg e.2.1 ∧ C e.2.2 = some (.lst (strsL e.2.1))
  n1 : o ≠ pw ∧ o ≠ pd ∧ o ≠ pa ∧ pw ≠ pd ∧ pw ≠ pa ∧ pd ≠ pa
  n2 : q ≠ o ∧ q ≠ pw ∧ q ≠ pd ∧ q ≠ pa
  n3 : ∀ e ∈ A, e.2.2 ≠ o ∧ e.2.2 ≠ pw ∧ e.2.2 ≠ pd ∧ e.2.2 ≠ pa
  fw : words.length ≤ m
  fa : A.length ≤ m
section
variable {C C' : AH} {o pw pd pa q : Addr} {tg : List Str} {look spots : Nat} {ss : List Sent} {words : List Str} {A : List Ent} {l : List D} {m : Nat}
theorem Sx.kp (S : Sx C o pw pd pa q tg look spots ss words A l m) (hm : m ≤ 200) : Kp C o pw pd tg ss look spots words := ⟨S.ob, S.ws, l, S.ds, by rw [S.hi.len]; have := S.fa; omega⟩
theorem Sx.mono {m' : Nat} (S : Sx C o pw pd pa q tg look spots ss words A l m) (h : m ≤ m') : Sx C o pw pd pa q tg look spots ss words A l m' :=
  ⟨S.ob, S.ws, S.ds, S.ah, S.wc, S.hi, S.ok, S.wd, S.ent, S.n1, S.n2, S.n3, by have := S.fw; omega, by have := S.fa; omega⟩
/-- another cell is changed -/
theorem Sx.to (S : Sx C o pw pd pa q tg look spots ss words A l m) {p : Addr} (hO : Oth p C C') (hp : ∀ x, x = p → C x = none ∨ (x ≠ o ∧ x ≠ pw ∧ x ≠ pd ∧ x ≠ pa ∧ x ≠ q ∧ ∀ e ∈ A, x ≠ e.2.2)) : Sx C' o pw pd pa q tg look spots ss words A l m := by
  have key : ∀ x c, C x = some c → (C p = none ∨ x ≠ p) → C' x = some c := fun x c e h => by
    by_cases hx : x = p
    · subst hx
      rcases h with h | h
      · rw [h] at e; cases e
      · exact absurd rfl h
    · exact hO x c hx e
  rcases hp p rfl with h | ⟨h1, h2, h3, h4, h5, h6⟩
  · exact ⟨key _ _ S.ob (.inl h), key _ _ S.ws (.inl h), key _ _ S.ds (.inl h), key _ _ S.ah (.inl h), key _ _ S.wc (.inl h), S.hi, S.ok, S.wd, fun e he => ⟨(S.ent e he).1, (S.ent e he).2.1, key _ _ (S.ent e he).2.2 (.inl h)⟩, S.n1, S.n2, S.n3, S.fw, S.fa⟩
  · exact ⟨key _ _ S.ob (.inr h1.symm), key _ _ S.ws (.inr h2.symm), key _ _ S.ds (.inr h3.symm), key _ _ S.ah (.inr h4.symm), key _ _ S.wc (.inr h5.symm), S.hi, S.ok, S.wd, fun e he => ⟨(S.ent e he).1, (S.ent e he).2.1, key _ _ (S.ent e he).2.2 (.inr (h6 e he).symm)⟩, S.n1, S.n2, S.n3, S.fw, S.fa⟩
theorem Sx.keep (S : Sx C o pw pd pa q tg look spots ss words A l m) (hK : AL.Keep C C') : Sx C' o pw pd pa q tg look spots ss words A l m :=
  ⟨hK _ _ S.ob, hK _ _ S.ws, hK _ _ S.ds, hK _ _ S.ah, hK _ _ S.wc, S.hi, S.ok, S.wd, fun e he => ⟨(S.ent e he).1, (S.ent e he).2.1, hK _ _ (S.ent e he).2.2⟩, S.n1, S.n2, S.n3, S.fw, S.fa⟩
/-- a pen's address is none of them -/
theorem Sx.apart {p : Addr} (S : Sx C o pw pd pa q tg look spots ss words A l m) (hp : C p = none) : p ≠ o ∧ p ≠ pw ∧ p ≠ pd ∧ p ≠ pa ∧ p ≠ q ∧ ∀ e ∈ A, p ≠ e.2.2 := by
  have f : ∀ x c, C x = some c → p ≠ x := fun x c e z => by rw [z, e] at hp; cases hp
  exact ⟨f _ _ S.ob, f _ _ S.ws, f _ _ S.ds, f _ _ S.ah, f _ _ S.wc, fun e he => f _ _ (S.ent e he).2.2⟩
/-- a word is taken -/
theorem Sx.take {z : Str} {r : Addr} {C1 C2 : AH} (S : Sx C o pw pd pa q tg look spots ss words A l m) (hm : m < 40) (hz : In tg z ∧ z.length ≤ 24) (h1 : C1 = put (put C pw (.lst (strsL (words ++ [z])))) pd (.lst (l ++ [.non]))) (h2 : C2 = put C1 pa (.lst (keptD tg look spots (A ++ [(ss, words, q)])))) (hr : C2 r = none) :
    Sx (put C2 r (.lst (strsL (words ++ [z])))) o pw pd pa r tg look spots ss (words ++ [z]) (A ++ [(ss, words, q)]) (l ++ [.non]) (m + 1) := by
  obtain ⟨n11, n12, n13, n14, n15, n16⟩ := S.n1
  obtain ⟨n21, n22, n23, n24⟩ := S.n2
  have eo : C2 o = some (kpC tg ss look spots pw pd) := by rw [h2, put_ne n13, h1, put_ne n12, put_ne n11, S.ob]
  have ew : C2 pw = some (.lst (strsL (words ++ [z]))) := by rw [h2, put_ne n15, h1, put_ne n14, put_same]
  have ed : C2 pd = some (.lst (l ++ [.non])) := by rw [h2, put_ne n16, h1, put_same]
  have ea : C2 pa = some (.lst (keptD tg look spots (A ++ [(ss, words, q)]))) := by rw [h2, put_same]
  have eq0 : C2 q = some (.lst (strsL words)) := by rw [h2, put_ne n24, h1, put_ne n23, put_ne n22, S.wc]
  have ee : ∀ e ∈ A, C2 e.2.2 = some (.lst (strsL e.2.1)) := fun e he => by
    obtain ⟨a1, a2, a3, a4⟩ := S.n3 e he
    rw [h2, put_ne a4, h1, put_ne a3, put_ne a2, (S.ent e he).2.2]
  have nr : ∀ x c, C2 x = some c → r ≠ x := fun x c e z => by rw [z, e] at hr; cases hr
  have up : ∀ x c, C2 x = some c → (put C2 r (.lst (strsL (words ++ [z])))) x = some c := fun x c e => by rw [put_ne (nr x c e).symm]; exact e
  refine ⟨up _ _ eo, up _ _ ew, up _ _ ed, up _ _ ea, put_same, .word q z S.hi, S.ok, ⟨?_, fun w hw => ?_⟩, fun e he => ?_, S.n1, ⟨nr _ _ eo, nr _ _ ew, nr _ _ ed, nr _ _ ea⟩, fun e he => ?_, ?_, ?_⟩
  · have := S.fw
    rw [List.length_append, List.length_singleton]
    omega
  · rcases List.mem_append.mp hw with h | h
    · exact S.wd.2 w h
    · rw [List.mem_singleton.mp h]; exact hz
  · rcases List.mem_append.mp he with h | h
    · exact ⟨(S.ent e h).1, (S.ent e h).2.1, up _ _ (ee e h)⟩
    · rw [List.mem_singleton.mp h]
      exact ⟨S.ok, S.wd, up _ _ eq0⟩
  · rcases List.mem_append.mp he with h | h
    · exact S.n3 e h
    · rw [List.mem_singleton.mp h]; exact S.n2
  · have := S.fw; rw [List.length_append, List.length_singleton]; omega
  · have := S.fa; rw [List.length_append, List.length_singleton]; omega
/-- the rule is made harder -/
theorem Sx.hard {s : Sent} {C1 C2 : AH} (S : Sx C o pw pd pa q tg look spots ss words A l m) (hg : OkR tg (ss ++ [s])) (h1 : C1 = put (put C pd (.lst (l ++ [ruleD tg ss]))) o (kpC tg (ss ++ [s]) look spots pw pd)) (h2 : C2 = put C1 pa (.lst (keptD tg look spots (A ++ [(ss, words, q)])))) :
    Sx C2 o pw pd pa q tg look spots (ss ++ [s]) words (A ++ [(ss, words, q)]) (l ++ [ruleD tg ss]) (m + 1) := by
  obtain ⟨n11, n12, n13, n14, n15, n16⟩ := S.n1
  obtain ⟨n21, n22, n23, n24⟩ := S.n2
  have oth : ∀ x c, x ≠ o → x ≠ pd → x ≠ pa → C x = some c → C2 x = some c := fun x c a1 a2 a3 e => by rw [h2, put_ne a3, h1, put_ne a1, put_ne a2, e]
  refine ⟨by rw [h2, put_ne n13, h1, put_same], oth _ _ n11.symm n14 n15 S.ws, by rw [h2, put_ne n16, h1, put_ne n12.symm, put_same], by rw [h2, put_same], oth _ _ n21 n23 n24 S.wc, .hard q _ S.hi, hg, S.wd, fun e he => ?_, S.n1, S.n2, fun e he => ?_, by have := S.fw; omega, ?_⟩
  · rcases List.mem_append.mp he with h | h
    · obtain ⟨a1, a2, a3, a4⟩ := S.n3 e h
      exact ⟨(S.ent e h).1, (S.ent e h).2.1, oth _ _ a1 a3 a4 (S.ent e h).2.2⟩
    · rw [List.mem_singleton.mp h]
      exact ⟨S.ok, S.wd, oth _ _ n21 n23 n24 S.wc⟩
  · rcases List.mem_append.mp he with h | h
    · exact S.n3 e h
    · rw [List.mem_singleton.mp h]; exact S.n2
  · have := S.fa; rw [List.length_append, List.length_singleton]; omega
/-- one deed is undone -/
theorem Sx.undo {A' : List Ent} {ss' : List Sent} {w' : List Str} {q' : Addr} {l' : List D} {C2 : AH} (S : Sx C o pw pd pa q tg look spots ss words A l m) (hA : A = A' ++ [(ss', w', q')]) (hH : Hist tg A' l' ss' w')
    (eo : C2 o = some (kpC tg ss' look spots pw pd)) (ew : C2 pw = some (.lst (strsL w'))) (ed : C2 pd = some (.lst l')) (ea : C2 pa = some (.lst (keptD tg look spots A'))) (oth : ∀ x c, x ≠ o → x ≠ pw → x ≠ pd → x ≠ pa → C x = some c → C2 x = some c) :
    Sx C2 o pw pd pa q' tg look spots ss' w' A' l' m := by
  subst hA
  have hlast : (ss', w', q') ∈ A' ++ [(ss', w', q')] := by simp
  obtain ⟨b1, b2, b3⟩ := S.ent _ hlast
  have hn := S.n3 _ hlast
  refine ⟨eo, ew, ed, ea, oth _ _ hn.1 hn.2.1 hn.2.2.1 hn.2.2.2 b3, hH, b1, b2, fun e he => ?_, S.n1, hn, fun e he => S.n3 e (List.mem_append_left _ he), ?_, ?_⟩
  · have he' := List.mem_append_left [(ss', w', q')] he
    obtain ⟨a1, a2, a3, a4⟩ := S.n3 e he'
    exact ⟨(S.ent e he').1, (S.ent e he').2.1, oth _ _ a1 a2 a3 a4 (S.ent e he').2.2⟩
  · have h1 := S.fw
    rcases S.hi.inv with ⟨h, _⟩ | ⟨A2, s2, w2, q2, l2, h, _, h3⟩
    · exact absurd h (by simp)
    · have := List.append_inj' h rfl
      have e2 := List.singleton_inj.mp this.2
      rcases h3 with ⟨_, _, z, hz⟩ | ⟨_, hz⟩
      · rw [hz, List.length_append] at h1
        have : w' = w2 := congrArg (fun e : Ent => e.2.1) e2
        rw [this]; omega
      · have : w' = w2 := congrArg (fun e : Ent => e.2.1) e2
        rw [this, ← hz]; exact h1
  · have h1 := S.fa
    rw [List.length_append] at h1
    omega
end
end A_k53
namespace A_k53
open PySem L2 AL
theorem kept_snoc (tg : List Str) (look spots : Nat) (A : List Ent) (e : Ent) : keptD tg look spots (A ++ [e]) = keptD tg look spots A ++ [kpg tg e.1 e.2.2 look spots] := by unfold keptD; rw [List.map_append]; rfl
theorem kept_ne (tg : List Str) (look spots : Nat) (A : List Ent) (e : Ent) : (keptD tg look spots (A ++ [e])).isEmpty = false := by rw [kept_snoc]; cases keptD tg look spots A <;> rfl
section
variable {C : AH} {P : D → AH → Prop} {PX : Str → AH → Prop} {o pw pd pa q : Addr} {tg : List Str} {look spots : Nat} {ss : List Sent} {words : List Str} {A : List Ent} {l : List D} {m : Nat}
theorem few1000 (S : Sx C o pw pd pa q tg look spots ss words A l m) : ss.length ≤ 1000 := Nat.le_trans S.ok.few (by decide)
theorem cut1 {tg : List Str} (T : Tng tg) : ∃ y, tg[0]? = some y ∧ Lz tg (.often (cutS y none (some 1)) 1) ∧ y.length ≤ 12 := by
  have hp := T.pos
  cases tg with
  | nil => simp at hp
  | cons y r =>
    have h1 := T.one y List.mem_cons_self
    have hs := T.sum
    rw [List.map_cons, List.sum_cons] at hs
    have hc : cs (cutS y none (some ((1 : Nat) : Int))) = (cs y).take 1 := cutS_take y 1
    have hy : (cs y).length = y.length := csl y
    have hl : (cutS y none (some ((1 : Nat) : Int))).length = 1 := by
      rw [← csl, hc, List.length_take]; omega
    refine ⟨y, rfl, ⟨by show 1 ≤ (cutS y none (some ((1 : Nat) : Int))).length; omega, by show (cutS y none (some ((1 : Nat) : Int))).length ≤ 2; omega, fun c h => ?_, ?_, Nat.le_refl 1⟩, by omega⟩
    · have h : c ∈ cs (cutS y none (some ((1 : Nat) : Int))) := h
      rw [hc] at h
      rw [zs_eq]
      exact List.mem_flatten.mpr ⟨cs y, List.mem_map.mpr ⟨y, List.mem_cons_self, rfl⟩, List.mem_of_mem_take h⟩
    · show (cs (cutS y none (some ((1 : Nat) : Int)))).Nodup
      rw [hc]
      match cs y with
      | [] => simp
      | a :: l => simp
theorem wy_none {d : D} (h : wy tg ss words look spots d = .non) : ∃ z, d = .str z ∧ In tg z ∧ z.length ≤ 24 := by
  cases d with
  | str z =>
    refine ⟨z, rfl, ?_⟩
    have h : wyZ tg ss words look spots z = .non := h
    unfold wyZ at h
    by_cases hb : (decide (24 < z.length) || !((cs z).all fun c => decide (c ∈ zs tg))) = true
    · rw [if_pos hb] at h; cases h
    · have hb : (decide (24 < z.length) || !((cs z).all fun c => decide (c ∈ zs tg))) = false := by simpa using hb
      rw [Bool.or_eq_false_iff] at hb
      refine ⟨fun c hc => ?_, by have := of_decide_eq_false hb.1; omega⟩
      have := hb.2
      rw [Bool.not_eq_false', List.all_eq_true] at this
      exact of_decide_eq_true (this c hc)
  | _ => cases h
/-- one undoing, told by the law's own list -/
theorem undo_step (S : Sx C o pw pd pa q tg look spots ss words A l m) (hm : m ≤ 200) {A' : List Ent} {e : Ent} (hA : A = A' ++ [e]) : ∃ C2 l', (∀ (P : D → AH → Prop) (PX : Str → AH → Prop), P .non C2 → s_Keeper_undo [.ce o] C P PX) ∧ C2 pa = some (.lst (keptD tg look spots A)) ∧
    (∀ x, x ≠ o → x ≠ pw → x ≠ pd → C2 x = C x) ∧ Sx (put C2 pa (.lst (keptD tg look spots A'))) o pw pd pa e.2.2 tg look spots e.1 e.2.1 A' l' m := by
  obtain ⟨n11, n12, n13, n14, n15, n16⟩ := S.n1
  have K := S.kp hm
  rcases S.hi.inv with ⟨h, _⟩ | ⟨A2, ss', w', q', l', h2, hH, hc⟩
  · rw [h] at hA
    exact absurd hA (by simp)
  · have e1 := List.append_inj' (hA.symm.trans h2) rfl
    obtain ⟨e2, e3⟩ := e1
    have e3 := List.singleton_inj.mp e3
    subst e2
    subst e3
    rcases hc with ⟨hl, hss, z, hz⟩ | ⟨hl, hw⟩
    · refine ⟨put (put C pd (.lst l')) pw (.lst (strsL w')), l', fun P PX k => undo_word K n14 n12 (by rw [S.ds, hl]) hz k, ?_, fun x a1 a2 a3 => by rw [put_ne a2, put_ne a3], ?_⟩
      · rw [put_ne n15.symm, put_ne n16.symm, S.ah]
      · refine S.undo h2 hH ?_ ?_ ?_ put_same (fun x c a1 a2 a3 a4 hx => ?_)
        · rw [put_ne n13, put_ne n11, put_ne n12, S.ob, hss]
        · rw [put_ne n15, put_same]
        · rw [put_ne n16, put_ne n14.symm, put_same]
        · rw [put_ne a4, put_ne a2, put_ne a3, hx]
    · refine ⟨put (put C pd (.lst l')) o (kpC tg ss' look spots pw pd), l', fun P PX k => undo_rule K n12 (by rw [S.ds, hl]) k, ?_, fun x a1 a2 a3 => by rw [put_ne a1, put_ne a3], ?_⟩
      · rw [put_ne n13.symm, put_ne n16.symm, S.ah]
      · refine S.undo h2 hH ?_ ?_ ?_ put_same (fun x c a1 a2 a3 a4 hx => ?_)
        · rw [put_ne n13, put_same]
        · rw [put_ne n15, put_ne n11.symm, put_ne n14, S.ws, hw]
        · rw [put_ne n16, put_ne n12.symm, put_same]
        · rw [put_ne a4, put_ne a1, put_ne a3, hx]
theorem deed_ok {p : Addr} {d : D} (T : Tng tg) (S : Sx C o pw pd pa q tg look spots ss words A l m) (hm : m < 40) (hP : Pen C p) (hp : p ≠ o ∧ p ≠ pw ∧ p ≠ pd ∧ p ≠ pa ∧ p ≠ q ∧ ∀ e ∈ A, p ≠ e.2.2) (hd : Thg d)
    (k : ∀ q' ss' words' A' l' C', Sx C' o pw pd pa q' tg look spots ss' words' A' l' (m + 1) → P (kpg tg ss' q' look spots) C') : s_law_deed [.ce p, .ce o, kpg tg ss q look spots, .ce pa, d] C P PX := by
  unfold s_law_deed a_law_deed
  rw [show kpg tg ss q look spots = .tup [.tup (strsL tg), .tup (ss.map tree), .ce q, .int (look : Nat), .int (spots : Nat)] from rfl]
  walk_at "go"
  refine take_nat (m := 9) hP (by omega) (by omega) fun c n hc hn => ?_
  have S1 : Sx (put C p c) o pw pd pa q tg look spots ss words A l m := S.to (p := p) ((Oth.refl p C).pen) (fun x hx => .inr (by rw [hx]; exact hp))
  have P1 : Pen (put C p c) p := pen_put hc
  generalize put C p c = C1 at S1 P1
  have K := S1.kp (by omega)
  obtain ⟨n11, n12, n13, n14, n15, n16⟩ := S1.n1
  walk_at "go"
  refine g_ifS ?_
  walk_at "go"
  by_cases h3 : n < 3
  · rw [decide_eq_true (show ((n : Nat) : Int) < 3 by omega)]
    walk_at "go"
    rcases List.eq_nil_or_concat A with rfl | ⟨A', e, hA⟩
    · have hl : l = [] := List.eq_nil_of_length_eq_zero S1.hi.len
      subst hl
      refine g_ifFC (Z := fun X => AL.Keep C1 X) (fun Q hQ => ?_) (fun C2 hK2 => ?_)
      · walk_at "go"
        refine undone_no K S1.ds fun C2 hK2 => ?_
        walk_at "go"
        refine g_neNilC (hK2 _ _ S1.ah) ?_
        walk_at "go"
        exact hQ _ hK2
      walk_at "go"
      refine g_eqNilC (hK2 _ _ S1.ah) ?_
      walk_at "go"
      exact k _ _ _ _ _ _ ((S1.keep hK2).mono (Nat.le_succ m))
    · rw [List.concat_eq_append] at hA
      obtain ⟨C2, l', hu, ha2, _, S2⟩ := undo_step S1 (by omega) hA
      refine g_ifFC (Z := fun X => X = C2) (fun Q hQ => ?_) (fun C3 hC3 => ?_)
      · walk_at "go"
        refine undone_yes K hu ?_
        walk_at "go"
        refine g_neNilC ha2 ?_
        rw [hA, kept_ne]
        walk_at "go"
        exact hQ _ rfl
      subst hC3
      walk_at "go"
      refine g_eqNilC ha2 ?_
      rw [hA, kept_ne]
      walk_at "go"
      rw [hA, kept_snoc] at ha2
      refine g_popC ha2 ?_
      walk_at "go"
      exact k _ _ _ _ _ _ (S2.mono (Nat.le_succ m))
  rw [decide_eq_false (show ¬ ((n : Nat) : Int) < 3 by omega)]
  walk_at "go"
  refine g_ifS ?_
  walk_at "go"
  by_cases h4 : n = 3
  · rw [decide_eq_true (show ((n : Nat) : Int) = 3 by omega)]
    walk_at "go"
    obtain ⟨y, hy, hLy, hy12⟩ := cut1 T
    refine g_ixT (d := .str y) (atI_nat' (i := 0) (by unfold strsL; rw [List.getElem?_map, hy]; rfl)) ?_
    walk_at "go"
    refine ⟨by simp only [sizeLine]; omega, ?_⟩
    walk_at "go"
    refine take_nat (m := 5) P1 (by omega) (by omega) fun c5 n5 hc5 hn5 => ?_
    have S2 : Sx (put C1 p c5) o pw pd pa q tg look spots ss words A l m := S1.to (p := p) ((Oth.refl p C1).pen) (fun x hx => .inr (by rw [hx]; exact hp))
    generalize put C1 p c5 = C2 at S2
    have K := S2.kp (by omega)
    have hx : ∃ x, ([.tup [.str "apart"], .tup [.str "long", .int 1, .non], .tup [.str "least", .int 0, .int 1], .tup [.str "often", .str (cutS y none (some 1)), .int 1], .non] : List D)[n5]? = some x ∧ (x = .non ∨ ∃ s, x = tree s ∧ Lz tg s) := by
      match n5, hn5 with
      | 0, _ => exact ⟨_, rfl, .inr ⟨.apart, rfl, trivial⟩⟩
      | 1, _ => exact ⟨_, rfl, .inr ⟨.long 1 none, rfl, by decide, fun h e => by cases e⟩⟩
      | 2, _ => exact ⟨_, rfl, .inr ⟨.least 0 1, rfl, T.pos, by decide⟩⟩
      | 3, _ => exact ⟨_, rfl, .inr ⟨_, rfl, hLy⟩⟩
      | 4, _ => exact ⟨_, rfl, .inl rfl⟩
    obtain ⟨x, hx, hxs⟩ := hx
    walk_at "go"
    refine g_ixL (d := x) (atI_nat' hx) ?_
    clear hx
    walk_at "go"
    rcases hxs with rfl | ⟨s, rfl, hLz⟩
    · refine g_kAnd (fun h => by cases h) (fun _ => ?_)
      walk_at "go"
      refine g_ifF (fun Q hQ => ?_) ?_
      · walk_at "go"
        refine lharder_no K (fun P PX kx => harder_none K (kx _ (.inl rfl))) ?_
        walk_at "go"
        exact hQ
      walk_at "go"
      refine g_ifT (fun Q hQ => by walk_at "go"; exact hQ) ?_
      walk_at "go"
      exact k _ _ _ _ _ _ (S2.mono (Nat.le_succ m))
    · rw [show isNon (tree s) = false by cases s <;> rfl]
      refine g_kAnd (fun _ => ?_) (fun h => by cases h)
      walk_at "go"
      refine g_addT (by rw [List.length_map]; have := S2.ok.few; simp only [sizeLine, List.length_singleton]; omega) ?_
      walk_at "go"
      refine fine_ok T S2.ok.fit S2.ok.few S2.ok.wt hLz ?_
      walk_at "go"
      have hl200 : l.length < 200 := by rw [S2.hi.len]; have := S2.fa; omega
      cases hg : good tg ss s with
      | false =>
        refine g_ifF (fun Q hQ => ?_) ?_
        · walk_at "go"
          refine lharder_no (C' := C2) K (fun P PX kx => harder_ok T S2.ok.fit S2.ok.few S2.ok.wt K n12 S2.ds hl200 hLz (fun _ nm h => kx nm (.inr h)) (fun h => by rw [hg] at h; cases h)) ?_
          walk_at "go"
          exact hQ
        walk_at "go"
        refine g_ifT (fun Q hQ => by walk_at "go"; exact hQ) ?_
        walk_at "go"
        exact k _ _ _ _ _ _ (S2.mono (Nat.le_succ m))
      | true =>
        obtain ⟨C3, hC3⟩ : ∃ X, X = put (put C2 pd (.lst (l ++ [ruleD tg ss]))) o (kpC tg (ss ++ [s]) look spots pw pd) := ⟨_, rfl⟩
        refine g_ifFC (Z := fun X => X = C3) (fun Q hQ => ?_) (fun C4 hC4 => ?_)
        · walk_at "go"
          refine lharder_yes (C' := C3) K (fun P PX kx => harder_ok T S2.ok.fit S2.ok.few S2.ok.wt K n12 S2.ds hl200 hLz (fun h => by rw [hg] at h; cases h) (fun _ => by rw [← hC3]; exact kx)) ?_
          walk_at "go"
          exact hQ _ rfl
        subst hC4
        have ha3 : C4 pa = some (.lst (keptD tg look spots A)) := by rw [hC3, put_ne n13.symm, put_ne n16.symm, S2.ah]
        walk_at "go"
        refine g_ifF (fun Q hQ => by walk_at "go"; exact hQ) ?_
        walk_at "go"
        refine g_append ha3 (by unfold keptD; rw [List.length_map]; have := S2.fa; simp only [sizeLine]; omega) ?_
        walk_at "go"
        refine g_addT (by rw [List.length_map]; have := S2.ok.few; simp only [sizeLine, List.length_singleton]; omega) ?_
        walk_at "go"
        have ek : keptD tg look spots A ++ [.tup [.tup (strsL tg), .tup (ss.map tree), .ce q, .int (look : Nat), .int (spots : Nat)]] = keptD tg look spots (A ++ [(ss, words, q)]) := (kept_snoc tg look spots A (ss, words, q)).symm
        rw [ek, show ss.map tree ++ [tree s] = (ss ++ [s]).map tree by rw [List.map_append]; rfl]
        have hok : OkR tg (ss ++ [s]) := by
          unfold good at hg
          rw [Bool.and_eq_true] at hg
          refine ⟨fun x hx => ?_, of_decide_eq_true hg.2, of_decide_eq_true hg.1⟩
          rcases List.mem_append.mp hx with h | h
          · exact S2.ok.fit x h
          · rw [List.mem_singleton.mp h]; exact hLz.lf.fit 7
        exact k _ _ _ _ _ _ (S2.hard hok hC3 rfl)
  · rw [decide_eq_false (show ¬ ((n : Nat) : Int) = 3 by omega)]
    walk_at "go"
    refine law_why_ok T S1.ok.fit (few1000 S1) S1.wc S1.wd hd ?_
    walk_at "go"
    have why2 : ∀ (Q : D → AH → Prop), Q (wy tg ss words look spots d) C1 → s_Keeper_why_not [.ce o, d] C1 Q := fun Q hQ => why_not_ok T S1.ok.fit (few1000 S1) K S1.wd hd hQ
    rcases wy_kind (tg := tg) (ss := ss) (words := words) (look := look) (spots := spots) d with e | e | e | e | e
    · rw [e] at why2 ⊢
      refine g_ifF (fun Q hQ => ?_) ?_
      · walk_at "go"
        refine g_kMth K.ob rfl ?_
        walk_at "go"
        refine why2 _ ?_
        walk_at "go"
        exact hQ
      walk_at "go"
      refine g_ifF (fun Q hQ => by walk_at "go"; exact hQ) ?_
      walk_at "go"
      obtain ⟨z, rfl, hz⟩ := wy_none e
      refine g_kMth K.ob rfl ?_
      walk_at "go"
      refine take_ok' T S1.ok.fit (few1000 S1) K n11 n12 n14 S1.wd (by omega) e (fun l2 h2 => by rw [S1.ds] at h2; cases h2; rw [S1.hi.len]; have := S1.fa; omega) fun l2 h2 => ?_
      rw [S1.ds] at h2
      cases h2
      obtain ⟨C2, hC2⟩ : ∃ X, X = put (put C1 pw (.lst (strsL (words ++ [z])))) pd (.lst (l ++ [.non])) := ⟨_, rfl⟩
      rw [← hC2]
      have ha2 : C2 pa = some (.lst (keptD tg look spots A)) := by rw [hC2, put_ne n16.symm, put_ne n15.symm, S1.ah]
      walk_at "go"
      refine g_append ha2 (by unfold keptD; rw [List.length_map]; have := S1.fa; simp only [sizeLine]; omega) ?_
      walk_at "go"
      have ek : keptD tg look spots A ++ [.tup [.tup (strsL tg), .tup (ss.map tree), .ce q, .int (look : Nat), .int (spots : Nat)]] = keptD tg look spots (A ++ [(ss, words, q)]) := (kept_snoc tg look spots A (ss, words, q)).symm
      rw [ek]
      obtain ⟨C3, hC3⟩ : ∃ X, X = put C2 pa (.lst (keptD tg look spots (A ++ [(ss, words, q)]))) := ⟨_, rfl⟩
      rw [← hC3]
      have hq3 : C3 q = some (.lst (strsL words)) := by
        obtain ⟨n21, n22, n23, n24⟩ := S1.n2
        rw [hC3, put_ne n24, hC2, put_ne n23, put_ne n22, S1.wc]
      refine ⟨strsL words, [.str z], by simp [asL, hq3], rfl, by rw [show (strsL words).length = words.length from List.length_map ..]; have := S1.fw; simp only [sizeLine, List.length_singleton]; omega, fun r hr => ?_⟩
      walk_at "go"
      have := S1.take (z := z) (r := r) (C1 := C2) (C2 := C3) hm hz hC2 hC3 hr
      rw [show strsL words ++ [.str z] = strsL (words ++ [z]) by simp [strsL]]
      exact k _ _ _ _ _ _ this
    all_goals
      rw [e] at why2 ⊢
      refine g_ifF (fun Q hQ => ?_) ?_
      · walk_at "go"
        refine g_kMth K.ob rfl ?_
        walk_at "go"
        refine why2 _ ?_
        walk_at "go"
        rw [decide_eq_true rfl]
        exact hQ
      walk_at "go"
      refine g_ifT (fun Q hQ => by walk_at "go"; exact hQ) ?_
      walk_at "go"
      exact k _ _ _ _ _ _ (S1.mono (Nat.le_succ m))
end
end A_k53
namespace A_k53
open PySem L2 AL
section
variable {C : AH} {o pw pd pa q : Addr} {tg : List Str} {look spots : Nat} {ss : List Sent} {words : List Str} {A : List Ent} {l : List D} {m : Nat}
/-- one undoing, the law's own list popped first -/
theorem undo_step2 (S : Sx C o pw pd pa q tg look spots ss words A l m) (hm : m ≤ 200) {A' : List Ent} {e : Ent} (hA : A = A' ++ [e]) {C1 : AH} (hC1 : C1 = put C pa (.lst (keptD tg look spots A'))) : Kp C1 o pw pd tg ss look spots words ∧ ∃ C2 l', (∀ (P : D → AH → Prop) (PX : Str → AH → Prop), P .non C2 → s_Keeper_undo [.ce o] C1 P PX) ∧
    Sx C2 o pw pd pa e.2.2 tg look spots e.1 e.2.1 A' l' m := by
  obtain ⟨n11, n12, n13, n14, n15, n16⟩ := S.n1
  have K := (S.kp hm).keep (C' := C1) (by rw [hC1, put_ne n13]) (by rw [hC1, put_ne n15]) (by rw [hC1, put_ne n16])
  have hds : C1 pd = some (.lst l) := by rw [hC1, put_ne n16, S.ds]
  refine ⟨K, ?_⟩
  rcases S.hi.inv with ⟨h, _⟩ | ⟨A2, ss', w', q', l', h2, hH, hc⟩
  · rw [h] at hA
    exact absurd hA (by simp)
  · have e1 := List.append_inj' (hA.symm.trans h2) rfl
    obtain ⟨e2, e3⟩ := e1
    have e3 := List.singleton_inj.mp e3
    subst e2
    subst e3
    rcases hc with ⟨hl, hss, z, hz⟩ | ⟨hl, hw⟩
    · refine ⟨put (put C1 pd (.lst l')) pw (.lst (strsL w')), l', fun P PX k => undo_word K n14 n12 (by rw [hds, hl]) hz k, ?_⟩
      refine S.undo h2 hH ?_ ?_ ?_ ?_ (fun x c a1 a2 a3 a4 hx => ?_)
      · rw [put_ne n11, put_ne n12, hC1, put_ne n13, S.ob, hss]
      · rw [put_same]
      · rw [put_ne n14.symm, put_same]
      · rw [put_ne n15.symm, put_ne n16.symm, hC1, put_same]
      · rw [put_ne a2, put_ne a3, hC1, put_ne a4, hx]
    · refine ⟨put (put C1 pd (.lst l')) o (kpC tg ss' look spots pw pd), l', fun P PX k => undo_rule K n12 (by rw [hds, hl]) k, ?_⟩
      refine S.undo h2 hH ?_ ?_ ?_ ?_ (fun x c a1 a2 a3 a4 hx => ?_)
      · rw [put_same]
      · rw [put_ne n11.symm, put_ne n14, hC1, put_ne n15, S.ws, hw]
      · rw [put_ne n12.symm, put_same]
      · rw [put_ne n13.symm, put_ne n16.symm, hC1, put_same]
      · rw [put_ne a1, put_ne a3, hC1, put_ne a4, hx]
end
section
variable {C : AH} {P : D → AH → Prop}
theorem g_isBlB {a b : Bool} (h : P (.bl (decide (a = b))) C) : aIsBl (.bl a) (.bl b) C P := h
theorem g_notBlB {a b : Bool} (h : P (.bl (!decide (a = b))) C) : aNotBl (.bl a) (.bl b) C P := h
end
theorem law_true : ∀ ns : List Int, ns.length ≤ 63 → s_law [.scr ns] (fun _ => none) (fun d _ => d = .bl true) := by
  intro ns hns
  unfold s_law a_law a_lawW
  walk_at "go"
  refine pen_ok (j := 0) (by omega) hns fun p c hp hc => ?_
  have hP := pen_put (C := fun _ => none) (p := p) hc
  generalize put (fun _ => none) p c = C1 at hP ⊢
  walk_at "go"
  refine take_nat (m := 4) hP (by omega) (by omega) fun c g hc hg => ?_
  have hP := pen_put (C := C1) (p := p) hc
  generalize put C1 p c = C2 at hP ⊢
  obtain ⟨m, em, hm1, hm2⟩ : ∃ m : Nat, atI [D.int 4, .int 4, .int 4, .int 12] (g : Int) = some (.int (m : Nat)) ∧ 1 ≤ m ∧ m ≤ 12 := by
    have : g = 0 ∨ g = 1 ∨ g = 2 ∨ g = 3 := by omega
    rcases this with rfl | rfl | rfl | rfl
    · exact ⟨4, rfl, by omega, by omega⟩
    · exact ⟨4, rfl, by omega, by omega⟩
    · exact ⟨4, rfl, by omega, by omega⟩
    · exact ⟨12, rfl, by omega, by omega⟩
  refine g_ixL em ?_
  walk_at "go"
  refine tongue_ok hP hm1 hm2 fun tg C3 T hP _ => ?_
  have two : ∀ (g : Nat) (C : AH) (Q : D → AH → Prop), g < 2 → (∀ x : Nat, 1 ≤ x → x ≤ 10 → Q (.int (x : Nat)) C) → aIx (.lst [.int 3, .int 10]) (.int (g : Nat)) C Q := fun g C Q hg h => by
    have : g = 0 ∨ g = 1 := by omega
    rcases this with rfl | rfl
    · exact g_ixL (d := .int (3 : Nat)) rfl (h 3 (by omega) (by omega))
    · exact g_ixL (d := .int (10 : Nat)) rfl (h 10 (by omega) (by omega))
  walk_at "go"
  refine take_nat (m := 2) hP (by omega) (by omega) fun c g hc hg => ?_
  have hP := pen_put (C := C3) (p := p) hc
  generalize put C3 p c = C6 at hP ⊢
  refine two g _ _ hg fun x hx1 hx2 => ?_
  walk_at "go"
  refine take_nat hP (by omega) (by omega) fun c look hc hlook => ?_
  have hP := pen_put (C := C6) (p := p) hc
  generalize put C6 p c = C7 at hP ⊢
  walk_at "go"
  refine take_nat (m := 2) hP (by omega) (by omega) fun c g hc hg => ?_
  have hP := pen_put (C := C7) (p := p) hc
  generalize put C7 p c = C8 at hP ⊢
  refine two g _ _ hg fun y hy1 hy2 => ?_
  walk_at "go"
  refine take_nat hP (by omega) (by omega) fun c spots hc hspots => ?_
  generalize put C8 p c = C9
  clear hP two
  walk_at "go"
  refine pen_ok (j := 1) (by omega) hns fun r c hr hc => ?_
  have hPq := pen_put (C := C9) (p := r) hc
  generalize put C9 r c = C4 at hPq ⊢
  walk_at "go"
  refine law_rule12_ok T hPq fun ss C5 hs hsl hwt _ => ?_
  walk_at "go"
  intro w hw
  have hw1 : put C5 w (.lst []) w = some (.lst (strsL [])) := put_same
  generalize put C5 w (.lst []) = C6 at hw1 ⊢
  walk_at "go"
  refine g_addT (by simp only [sizeLine, List.length_cons, List.length_nil]; omega) ?_
  rw [show D.tup ([.tup (strsL tg), .tup (ss.map tree), .ce w] ++ [.int (look : Nat), .int (spots : Nat)]) = kpg tg ss w look spots from rfl]
  walk_at "go"
  have cutk : ∀ (C : AH) (Q : D → AH → Prop), Q (ruleD tg ss) C → aCut (kpg tg ss w look spots) none (some 2) C Q := fun C Q h => h
  refine cutk _ _ ?_
  walk_at "go"
  intro o ho
  have hwo : w ≠ o := fun e => by rw [e, ho] at hw1; cases hw1
  have hw2 : put C6 o (.ob "Keeper" []) w = some (.lst (strsL [])) := by rw [put_ne hwo, hw1]
  refine init_ok (tg := tg) (ss := ss) (look := look) (spots := spots) put_same fun a b C10 K1 hd1 ha0 hb0 hn1 hO1 => ⟨rfl, ?_⟩
  have hoa : o ≠ a := fun e => by rw [← e, put_same] at ha0; cases ha0
  have hob : o ≠ b := fun e => by rw [← e, put_same] at hb0; cases hb0
  have hwa : w ≠ a := fun e => by rw [← e, hw2] at ha0; cases ha0
  have hwb : w ≠ b := fun e => by rw [← e, hw2] at hb0; cases hb0
  have hw3 := hO1 _ _ hwo hw2
  clear hO1 ha0 hb0 ho hw2 hw1
  walk_at "go"
  intro pa hpa
  have ne : ∀ x c, C10 x = some c → x ≠ pa := fun x c e z => by rw [z, hpa] at e; cases e
  have S0 : Sx (put C10 pa (.lst [])) o a b pa w tg look spots ss [] [] [] 0 := by
    have up : ∀ x c, C10 x = some c → put C10 pa (.lst []) x = some c := fun x c e => by rw [put_ne (ne x c e)]; exact e
    exact ⟨up _ _ K1.ob, up _ _ K1.ws, up _ _ hd1, put_same, up _ _ hw3, .nil, ⟨fun s h => (hs s h).to (by decide), by omega, by omega⟩, ⟨Nat.zero_le _, fun w h => (nomatch h)⟩, fun e he => (nomatch he), ⟨hoa, hob, ne _ _ K1.ob, hn1, ne _ _ K1.ws, ne _ _ hd1⟩, ⟨hwo, hwa, hwb, ne _ _ hw3⟩, fun e he => (nomatch he), Nat.le_refl _, Nat.le_refl _⟩
  generalize put C10 pa (.lst []) = C11 at S0 ⊢
  clear hw3 hd1 K1 hpa ne cutk
  have hsum := T.sum
  walk_at "go"
  refine g_joinET (by omega) ?_
  walk_at "go"
  have hjl : (Txt.join "" tg).length ≤ 12 := by rw [join_len]; exact hsum
  refine ⟨by simp only [sizeLine]; omega, ?_⟩
  walk_at "go"
  have hc1 : (cutS (Txt.join "" tg) none (some 1)).length ≤ 3000 := by
    rw [← csl, show cs (cutS (Txt.join "" tg) none (some 1)) = (cs (Txt.join "" tg)).take 1 from cutS_take _ 1, List.length_take]; omega
  generalize cutS (Txt.join "" tg) none (some 1) = sg at hc1
  obtain ⟨n, hn, en⟩ : ∃ n : Nat, n ≤ 30 ∧ (if (if (ns.length : Int) < 30 then (ns.length : Int) else 30) > 16 then (if (ns.length : Int) < 30 then (ns.length : Int) else 30) else 16) = (n : Int) := ⟨max 16 (min 30 ns.length), by omega, by split <;> split <;> omega⟩
  rw [en, show ((n : Nat) : Int).toNat = n from rfl]
  refine g_kForR0 (fun i st C' => ∃ (q : Addr) (ss : List Sent) (words : List Str) (A : List Ent) (l : List D) (ts : List D) (x8 x9 : Option D), Sx C' o a b pa q tg look spots ss words A l i ∧ ts.length = 3 ∧ (∀ t ∈ ts, Thg t) ∧
    st = [some (.scr ns), some (.ce p), some (.tup (strsL tg)), some (.tup [.int (look : Nat), .int (spots : Nat)]), some (kpg tg ss q look spots), some (.ce o), some (.ce pa), some (.lst ts), x8, x9])
    ⟨w, ss, [], [], [], [.str "", .str sg, .non], none, none, S0, rfl, fun t ht => by
      simp only [List.mem_cons, List.not_mem_nil, or_false] at ht
      rcases ht with rfl | rfl | rfl
      · exact .txt _ (by decide)
      · exact .txt _ hc1
      · exact .non, rfl⟩ (fun i st C' hi hh => ?_) (fun st C' hh => ?_)
  · clear S0
    obtain ⟨q, ss, words, A, l, ts, x8, x9, S, htl, hts, rfl⟩ := hh
    walk_at "go"
    rw [show (2 : Int) + (i : Int) = ((2 + i : Nat) : Int) by omega]
    refine pen_ok (j := 2 + i) (by omega) hns fun r c hr hc => ?_
    have hap := S.apart hr
    have hP := pen_put (C := C') (p := r) hc
    have S1 := S.keep ((AL.Keep.refl C').put (c := c) hr)
    generalize put C' r c = C1 at hP S1 ⊢
    walk_at "go"
    show aCut (.lst ts) (some ((1 : Nat) : Int)) none _ _
    refine g_cutDrop ?_
    walk_at "go"
    refine g_ixT (d := .ce q) rfl ?_
    walk_at "go"
    refine law_thing_ok T hP S1.wc hap.2.2.2.2.1 S1.wd fun d C2 hd hP2 hO2 => ?_
    have S2 := S1.to hO2 (fun x hx => .inr (by rw [hx]; exact hap))
    walk_at "go"
    refine g_addL (by rw [List.length_drop, htl]; simp only [sizeLine, List.length_singleton]; omega) ?_
    have htl2 : (ts.drop 1 ++ [d]).length = 3 := by rw [List.length_append, List.length_drop, htl]; rfl
    have hlast : (ts.drop 1 ++ [d]).getLast? = some d := by simp
    have hts2 : ∀ t ∈ ts.drop 1 ++ [d], Thg t := fun t ht => by
      rcases List.mem_append.mp ht with h | h
      · exact hts t (List.mem_of_mem_drop h)
      · rw [List.mem_singleton.mp h]; exact hd
    generalize ts.drop 1 ++ [d] = ts2 at htl2 hlast hts2
    walk_at "go"
    refine g_ixL (last_at hlast (by omega)) ?_
    walk_at "go"
    refine deed_ok T S2 (by omega) hP2 hap hd fun q' ss' words' A' l' C3 S3 => ?_
    walk_at "go"
    refine g_ifF (fun Q hQ => ?_) ?_
    · walk_at "go"
      rw [show isNon (kpg tg ss' q' look spots) = false from rfl]
      walk_at "go"
      refine stands_ok T S3.ok.fit (few1000 S3) (S3.kp (by omega)) S3.wd S3.wc hts2 (by omega) ?_
      walk_at "go"
      exact hQ
    walk_at "go"
    exact ⟨q', ss', words', A', l', ts2, _, _, S3, htl2, hts2, rfl⟩
  · clear S0
    obtain ⟨q, ss, words, A, l, ts, x8, x9, S, htl, hts, rfl⟩ := hh
    walk_at "go"
    refine g_while (fun k st C' => ∃ (q : Addr) (ss : List Sent) (words : List Str) (A : List Ent) (l : List D) (x8 x9 : Option D), A.length = k ∧ Sx C' o a b pa q tg look spots ss words A l n ∧
      st = [some (.scr ns), some (.ce p), some (.tup (strsL tg)), some (.tup [.int (look : Nat), .int (spots : Nat)]), some (kpg tg ss q look spots), some (.ce o), some (.ce pa), some (.lst ts), x8, x9]) A.length ⟨q, ss, words, A, l, x8, x9, rfl, S, rfl⟩ (fun k st C2 hw => ?_)
    clear S
    obtain ⟨q, ss, words, A, l, x8, x9, rfl, S, rfl⟩ := hw
    walk_at "go"
    refine g_neNilC S.ah ?_
    walk_at "go"
    rcases List.eq_nil_or_concat A with rfl | ⟨A', e, hA⟩
    · have hl : l = [] := List.eq_nil_of_length_eq_zero S.hi.len
      subst hl
      rw [show (!(keptD tg look spots []).isEmpty) = false from rfl, if_neg Bool.false_ne_true]
      walk_at "go"
      refine undone_no (S.kp (by omega)) S.ds fun C3 hK3 => ?_
      have S3 := S.keep hK3
      walk_at "go"
      refine g_isBlB ?_
      refine g_kAnd (fun _ => ?_) (fun h => by cases h)
      walk_at "go"
      refine stands_ok T S3.ok.fit (few1000 S3) (S3.kp (by omega)) S3.wd S3.wc hts (by omega) ?_
      refine g_kAnd (fun _ => ?_) (fun h => by cases h)
      walk_at "go"
      refine undone_no (S3.kp (by omega)) S3.ds fun C4 hK4 => ?_
      walk_at "go"
      refine g_isBlB ?_
      rfl
    · rw [List.concat_eq_append] at hA
      subst hA
      rw [kept_ne, show (!false) = true from rfl, if_pos rfl]
      obtain ⟨C3, hC3⟩ : ∃ X, X = put C2 pa (.lst (keptD tg look spots A')) := ⟨_, rfl⟩
      obtain ⟨K3, C4, l', hu, S4⟩ := undo_step2 S (by omega) rfl hC3
      have ha2 : C2 pa = some (.lst (keptD tg look spots A' ++ [kpg tg e.1 e.2.2 look spots])) := by rw [S.ah, kept_snoc]
      walk_at "go"
      refine g_popC (us := keptD tg look spots A') (d := kpg tg e.1 e.2.2 look spots) ha2 ?_
      rw [← hC3]
      walk_at "go"
      refine g_ifFC (Z := fun X => X = C4) (fun Q hQ => ?_) (fun C5 hC5 => ?_)
      · walk_at "go"
        refine undone_yes K3 hu ?_
        walk_at "go"
        refine g_notBlB ?_
        walk_at "go"
        refine stands_ok T S4.ok.fit (few1000 S4) (S4.kp (by omega)) S4.wd S4.wc hts (by omega) ?_
        walk_at "go"
        exact hQ _ rfl
      subst hC5
      walk_at "go"
      exact ⟨A'.length, by simp, _, _, _, A', _, _, _, rfl, S4, rfl⟩
end A_k53
namespace A_k53
open PySem PySem.Spec L2 AL
open PyProof.Rows (envOfC)
def topS (i : Nat) : Stmt := PySem.Challenge.pw_wordrules_k53_undone.main.body.getD i (.Pass ⟨0, 0, 0, 0⟩)
abbrev st_is_whole : Stmt := topS 18
theorem sc_is_whole : FnScope ["thing"] ["thing"] (defScope st_is_whole) := ⟨rfl, rfl, rfl, by decide +kernel, rfl, by decide +kernel, by decide +kernel⟩
theorem ok_is_whole {P : Program} {w : World} {K : PySem.W.Frag} {mg : Str → Option Value} {base : Heap} {f : Addr} {fd : FuncData} (F : L2.Fun K "is_whole" "is_whole" st_is_whole f fd) (hm : mg "is_whole" = some (.ref f)) (hb : Binds K fd ["thing"] []) (m_bool : mg "bool" = none) (m_int : mg "int" = none) (m_isinstance : mg "isinstance" = none) : Cal P w K mg base 1 "is_whole" 1 s_is_whole := by
  refine calA (b := a_is_whole) F sc_is_whole rfl hm hb ?_ (fun _ _ _ _ h => h)
  intro cdv A outer s H E hr hgd
  have hw : (Bs.nil ⟨w, mg⟩).g = ⟨w, mg⟩ := rfl
  exact ⟨_, ass_one (as_ret (ae_and (K := K) (ae_isi (K := K) (ae_v 0) m_isinstance m_int (by decide +kernel)) (ae_one (ae_not (K := K) (ae_isi (K := K) (ae_v 0) m_isinstance m_bool (by decide +kernel))))))⟩
abbrev st_signs_of : Stmt := topS 19
theorem sc_signs_of : FnScope ["tongue"] ["tongue"] (defScope st_signs_of) := ⟨rfl, rfl, rfl, by decide +kernel, rfl, by decide +kernel, by decide +kernel⟩
theorem ok_signs_of {P : Program} {w : World} {K : PySem.W.Frag} {mg : Str → Option Value} {base : Heap} {f : Addr} {fd : FuncData} (F : L2.Fun K "signs_of" "signs_of" st_signs_of f fd) (hm : mg "signs_of" = some (.ref f)) (hb : Binds K fd ["tongue"] []) : Cal P w K mg base 1 "signs_of" 1 s_signs_of := by
  refine calA (b := a_signs_of) F sc_signs_of rfl hm hb ?_ (fun _ _ _ _ h => h)
  intro cdv A outer s H E hr hgd
  have hw : (Bs.nil ⟨w, mg⟩).g = ⟨w, mg⟩ := rfl
  exact ⟨_, ass_one (as_ret (ae_meth (K := K) PySem.F.plainAttrs_str PySem.F.slot_str_join PySem.F.type_str_join (am_join (K := K)) (ae_str) (aa_cons (ae_v 0) (aa_nil))))⟩
abbrev st_parts_of : Stmt := topS 32
theorem sc_parts_of : FnScope ["sentence"] ["sentence"] (defScope st_parts_of) := ⟨rfl, rfl, rfl, by decide +kernel, rfl, by decide +kernel, by decide +kernel⟩
theorem ok_parts_of {P : Program} {w : World} {K : PySem.W.Frag} {mg : Str → Option Value} {base : Heap} {f : Addr} {fd : FuncData} (F : L2.Fun K "parts_of" "parts_of" st_parts_of f fd) (hm : mg "parts_of" = some (.ref f)) (hb : Binds K fd ["sentence"] []) (m_list : mg "list" = none) : Cal P w K mg base 1 "parts_of" 1 s_parts_of := by
  refine calA (b := a_parts_of) F sc_parts_of rfl hm hb ?_ (fun _ _ _ _ h => h)
  intro cdv A outer s H E hr hgd
  have hw : (Bs.nil ⟨w, mg⟩).g = ⟨w, mg⟩ := rfl
  exact ⟨_, ass_cons (as_if (at_cmp ao_inL (ae_ix (K := K) (ae_v 0) (ae_int)) (ae_tup (aa_cons (ae_str) (aa_cons (ae_str) (aa_cons (ae_str) (aa_nil))))))
      (ass_one (as_ret (ae_callT (ac_list (K := K)) m_list (by decide +kernel) (aa_cons (ae_cut (K := K) (ae_v 0) (ao_some (ae_int)) ao_none) (aa_nil)))))
      (ass_nil))
      (ass_one (as_ret (ae_lst (aa_nil))))⟩
abbrev st_plain_holds : Stmt := topS 34
theorem sc_plain_holds : FnScope ["tongue", "sentence", "word", "kind", "sign", "one", "other"] ["tongue", "sentence", "word"] (defScope st_plain_holds) := ⟨rfl, rfl, rfl, by decide +kernel, rfl, by decide +kernel, by decide +kernel⟩
theorem ok_plain_holds {P : Program} {w : World} {K : PySem.W.Frag} {mg : Str → Option Value} {base : Heap} {f : Addr} {fd : FuncData} (F : L2.Fun K "plain_holds" "plain_holds" st_plain_holds f fd) (hm : mg "plain_holds" = some (.ref f)) (hb : Binds K fd ["tongue", "sentence", "word"] []) (m_all : mg "all" = none) (m_len : mg "len" = none) (m_zip : mg "zip" = none) : Cal P w K mg base 1 "plain_holds" 3 s_plain_holds := by
  refine calA (b := a_plain_holds) F sc_plain_holds rfl hm hb ?_ (fun _ _ _ _ h => h)
  intro cdv A outer s H E hr hgd
  have hw : (Bs.nil ⟨w, mg⟩).g = ⟨w, mg⟩ := rfl
  exact ⟨_, ass_cons (as_set 3 sc_plain_holds.nd (ae_ix (K := K) (ae_v 1) (ae_int)) rfl (.inl rfl))
      (ass_cons (as_if (at_cmp (ao_eq (K := K) hr.units) (ae_v 3) (ae_str))
      (ass_one (as_ret (ae_and (K := K) (ae_cmp ao_le (ae_ix (K := K) (ae_v 1) (ae_int)) (ae_callB (ac_len (K := K)) m_len (by decide +kernel) (aa_cons (ae_v 2) (aa_nil)))) (ae_one (ae_or (K := K) (ae_cmp ao_is (ae_ix (K := K) (ae_v 1) (ae_int)) (ae_non)) (ae_one (ae_cmp ao_le (ae_callB (ac_len (K := K)) m_len (by decide +kernel) (aa_cons (ae_v 2) (aa_nil))) (ae_ix (K := K) (ae_v 1) (ae_int)))))))))
      (ass_nil))
      (ass_cons (as_if (at_cmp (ao_eq (K := K) hr.units) (ae_v 3) (ae_str))
      (ass_one (as_ret (ae_cmp ao_ge (ae_callB (ac_len (K := K)) m_len (by decide +kernel) (aa_cons (ae_lc [("sign", 4)] sc_plain_holds.nd (ai_str (ae_v 2)) (blkOk_by (own := [("sign", 4)]) (N := ["tongue", "sentence", "word", "kind", "sign", "one", "other"]) (sc := defScope st_plain_holds) (by decide +kernel)) (fun _ _ _ _ _ => ag_name 4 (vs := [4]) sc_plain_holds.nd rfl (.inl rfl)) (fun _ _ _ _ _ => ats_one (at_cmp ao_inS (ae_v 4) (ae_ix (K := K) (ae_v 0) (ae_ix (K := K) (ae_v 1) (ae_int))))) (fun _ _ _ _ _ => ae_v 4)) (aa_nil))) (ae_ix (K := K) (ae_v 1) (ae_int)))))
      (ass_nil))
      (ass_cons (as_if (at_cmp (ao_eq (K := K) hr.units) (ae_v 3) (ae_str))
      (ass_one (as_ret (ae_callB (ac_all (K := K)) m_all (by decide +kernel) (aa_cons (ae_lc [("sign", 4)] sc_plain_holds.nd (ai_str (ae_ix (K := K) (ae_v 1) (ae_int))) (blkOk_by (own := [("sign", 4)]) (N := ["tongue", "sentence", "word", "kind", "sign", "one", "other"]) (sc := defScope st_plain_holds) (by decide +kernel)) (fun _ _ _ _ _ => ag_name 4 (vs := [4]) sc_plain_holds.nd rfl (.inl rfl)) (fun _ _ _ _ _ => ats_nil) (fun _ _ _ _ _ => ae_cmp ao_le (ae_meth (K := K) PySem.F.plainAttrs_str PySem.F.slot_str_count PySem.F.type_str_count am_scount (ae_v 2) (aa_cons (ae_v 4) (aa_nil))) (ae_ix (K := K) (ae_v 1) (ae_int)))) (aa_nil)))))
      (ass_nil))
      (ass_cons (as_if (at_cmp (ao_eq (K := K) hr.units) (ae_v 3) (ae_str))
      (ass_one (as_ret (ae_callB (ac_all (K := K)) m_all (by decide +kernel) (aa_cons (ae_lc [("one", 5), ("other", 6)] sc_plain_holds.nd (ai_zipG (K := K) m_zip (aa_cons (ae_v 2) (aa_cons (ae_cut (K := K) (ae_v 2) (ao_some (ae_int)) ao_none) (aa_nil)))) (blkOk_by (own := [("one", 5), ("other", 6)]) (N := ["tongue", "sentence", "word", "kind", "sign", "one", "other"]) (sc := defScope st_plain_holds) (by decide +kernel)) (fun _ _ _ _ _ => ag_tup (K := K) (ags_cons (ag_name 5 (vs := [5, 6]) sc_plain_holds.nd rfl (.inl rfl)) (ags_cons (ag_name 6 (vs := [5, 6]) sc_plain_holds.nd rfl (.inl rfl)) (ags_nil)))) (fun _ _ _ _ _ => ats_nil) (fun _ _ _ _ _ => ae_cmp (ao_ne (K := K) hr.units) (ae_v 5) (ae_v 6))) (aa_nil)))))
      (ass_nil))
      (ass_cons (as_if (at_cmp (ao_eq (K := K) hr.units) (ae_v 3) (ae_str))
      (ass_one (as_ret (ae_cmp ao_ninS (ae_ix (K := K) (ae_v 1) (ae_int)) (ae_v 2))))
      (ass_nil))
      (ass_cons (as_if (at_cmp (ao_eq (K := K) hr.units) (ae_v 3) (ae_str))
      (ass_one (as_ret (ae_meth (K := K) PySem.F.plainAttrs_str PySem.F.slot_str_startswith PySem.F.type_str_startswith am_startswith (ae_v 2) (aa_cons (ae_ix (K := K) (ae_v 1) (ae_int)) (aa_nil)))))
      (ass_nil))
      (ass_one (as_ret (ae_meth (K := K) PySem.F.plainAttrs_str PySem.F.slot_str_endswith PySem.F.type_str_endswith am_endswith (ae_v 2) (aa_cons (ae_ix (K := K) (ae_v 1) (ae_int)) (aa_nil)))))))))))⟩
abbrev st_power : Stmt := topS 36
theorem sc_power : FnScope ["base", "many", "found", "turn"] ["base", "many"] (defScope st_power) := ⟨rfl, rfl, rfl, by decide +kernel, rfl, by decide +kernel, by decide +kernel⟩
theorem ok_power {P : Program} {w : World} {K : PySem.W.Frag} {mg : Str → Option Value} {base : Heap} {f : Addr} {fd : FuncData} (F : L2.Fun K "power" "power" st_power f fd) (hm : mg "power" = some (.ref f)) (hb : Binds K fd ["base", "many"] []) (m_range : mg "range" = none) : Cal P w K mg base 1 "power" 2 s_power := by
  refine calA (b := a_power) F sc_power rfl hm hb ?_ (fun _ _ _ _ h => h)
  intro cdv A outer s H E hr hgd
  have hw : (Bs.nil ⟨w, mg⟩).g = ⟨w, mg⟩ := rfl
  exact ⟨_, ass_cons (as_set 2 sc_power.nd (ae_int) rfl (.inl rfl))
      (ass_cons (as_for (ai_range1 m_range (aa_cons (ae_v 1) (aa_nil))) (ag_name 3 (vs := [3]) sc_power.nd rfl (.inl rfl))
      (ass_one (as_set 2 sc_power.nd (ae_op ao_mul (ae_v 2) (ae_v 0)) rfl (.inl rfl))))
      (ass_one (as_ret (ae_v 2))))⟩
abbrev st_unlike_at : Stmt := topS 45
theorem sc_unlike_at : FnScope ["one", "other", "k"] ["one", "other"] (defScope st_unlike_at) := ⟨rfl, rfl, rfl, by decide +kernel, rfl, by decide +kernel, by decide +kernel⟩
theorem ok_unlike_at {P : Program} {w : World} {K : PySem.W.Frag} {mg : Str → Option Value} {base : Heap} {f : Addr} {fd : FuncData} (F : L2.Fun K "unlike_at" "unlike_at" st_unlike_at f fd) (hm : mg "unlike_at" = some (.ref f)) (hb : Binds K fd ["one", "other"] []) (m_len : mg "len" = none) (m_range : mg "range" = none) : Cal P w K mg base 1 "unlike_at" 2 s_unlike_at := by
  refine calA (b := a_unlike_at) F sc_unlike_at rfl hm hb ?_ (fun _ _ _ _ h => h)
  intro cdv A outer s H E hr hgd
  have hw : (Bs.nil ⟨w, mg⟩).g = ⟨w, mg⟩ := rfl
  exact ⟨_, ass_one (as_ret (ae_callB (ac_len (K := K)) m_len (by decide +kernel) (aa_cons (ae_lc [("k", 2)] sc_unlike_at.nd (ai_range1 m_range (aa_cons (ae_callB (ac_len (K := K)) m_len (by decide +kernel) (aa_cons (ae_v 0) (aa_nil))) (aa_nil))) (blkOk_by (own := [("k", 2)]) (N := ["one", "other", "k"]) (sc := defScope st_unlike_at) (by decide +kernel)) (fun _ _ _ _ _ => ag_name 2 (vs := [2]) sc_unlike_at.nd rfl (.inl rfl)) (fun _ _ _ _ _ => ats_one (at_cmp (ao_ne (K := K) hr.units) (ae_ix (K := K) (ae_v 0) (ae_v 2)) (ae_ix (K := K) (ae_v 1) (ae_v 2)))) (fun _ _ _ _ _ => ae_v 2)) (aa_nil))))⟩
abbrev st_Keeper___init__ : Stmt := inClass (topS 46) 0
theorem sc_Keeper___init__ : FnScope ["self", "rule", "look_back", "places"] ["self", "rule", "look_back", "places"] (defScope st_Keeper___init__) := ⟨rfl, rfl, rfl, by decide +kernel, rfl, by decide +kernel, by decide +kernel⟩
theorem ok_Keeper___init__ {P : Program} {w : World} {K : PySem.W.Frag} {mg : Str → Option Value} {base : Heap} {f : Addr} {C : Addr} {fd : FuncData} (F : L2.Fun K "__init__" "Keeper.__init__" st_Keeper___init__ f fd) (hm : mg "Keeper" = some (.ref C)) (M : Mk K C f) (hb : Binds K fd ["self", "rule", "look_back", "places"] []) (k_Keeper : ClsF K mg "Keeper" ["its_rule", "look", "unlike", "words", "deeds"]) : MakG P w K mg base 1 "Keeper" 4 s_Keeper___init__ := by
  refine makA (b := a_Keeper___init__) F sc_Keeper___init__ rfl hm M hb ?_ (fun _ _ _ _ h => h)
  intro cdv A outer s H E hr hgd
  have hw : (Bs.nil ⟨w, mg⟩).g = ⟨w, mg⟩ := rfl
  exact ⟨_, ass_cons (as_fld (g := ⟨w, mg⟩) k_Keeper (by decide +kernel) (ae_v 0) (ae_v 1))
      (ass_cons (as_fld (g := ⟨w, mg⟩) k_Keeper (by decide +kernel) (ae_v 0) (ae_v 2))
      (ass_cons (as_fld (g := ⟨w, mg⟩) k_Keeper (by decide +kernel) (ae_v 0) (ae_v 3))
      (ass_cons (as_fld (g := ⟨w, mg⟩) k_Keeper (by decide +kernel) (ae_v 0) (ae_lstM (aa_nil)))
      (ass_one (as_fld (g := ⟨w, mg⟩) k_Keeper (by decide +kernel) (ae_v 0) (ae_lstM (aa_nil)))))))⟩
abbrev st_Keeper_word : Stmt := inClass (topS 46) 1
theorem sc_Keeper_word : FnScope ["self"] ["self"] (defScope st_Keeper_word) := ⟨rfl, rfl, rfl, by decide +kernel, rfl, by decide +kernel, by decide +kernel⟩
theorem ok_Keeper_word {P : Program} {w : World} {K : PySem.W.Frag} {mg : Str → Option Value} {base : Heap} {f : Addr} {C : Addr} {fd : FuncData} (F : L2.Fun K "word" "Keeper.word" st_Keeper_word f fd) (hm : mg "Keeper" = some (.ref C)) (hc : Cls K C) (hme : Meth K C "word" f) (hb : Binds K fd ["self"] []) (k_Keeper : ClsF K mg "Keeper" ["its_rule", "look", "unlike", "words", "deeds"]) : Met' P w K mg base 1 "Keeper" "word" 1 s_Keeper_word := by
  refine metA (b := a_Keeper_word) F sc_Keeper_word rfl hm hc hme hb ?_ (fun _ _ _ _ h => h)
  intro cdv A outer s H E hr hgd
  have hw : (Bs.nil ⟨w, mg⟩).g = ⟨w, mg⟩ := rfl
  exact ⟨_, ass_one (as_ret (ae_if (at_cmp (ao_neNil (K := K) hr.units) (ae_fld (g := ⟨w, mg⟩) k_Keeper (by decide +kernel) (ae_v 0)) (ae_lst (aa_nil))) (ae_ix (K := K) (ae_fld (g := ⟨w, mg⟩) k_Keeper (by decide +kernel) (ae_v 0)) (ae_neg (ae_int))) (ae_non)))⟩
abbrev st_Keeper_taken : Stmt := inClass (topS 46) 2
theorem sc_Keeper_taken : FnScope ["self"] ["self"] (defScope st_Keeper_taken) := ⟨rfl, rfl, rfl, by decide +kernel, rfl, by decide +kernel, by decide +kernel⟩
theorem ok_Keeper_taken {P : Program} {w : World} {K : PySem.W.Frag} {mg : Str → Option Value} {base : Heap} {f : Addr} {C : Addr} {fd : FuncData} (F : L2.Fun K "taken" "Keeper.taken" st_Keeper_taken f fd) (hm : mg "Keeper" = some (.ref C)) (hc : Cls K C) (hme : Meth K C "taken" f) (hb : Binds K fd ["self"] []) (m_list : mg "list" = none) (k_Keeper : ClsF K mg "Keeper" ["its_rule", "look", "unlike", "words", "deeds"]) : Met' P w K mg base 1 "Keeper" "taken" 1 s_Keeper_taken := by
  refine metA (b := a_Keeper_taken) F sc_Keeper_taken rfl hm hc hme hb ?_ (fun _ _ _ _ h => h)
  intro cdv A outer s H E hr hgd
  have hw : (Bs.nil ⟨w, mg⟩).g = ⟨w, mg⟩ := rfl
  exact ⟨_, ass_one (as_ret (ae_callT (ac_list (K := K)) m_list (by decide +kernel) (aa_cons (ae_fld (g := ⟨w, mg⟩) k_Keeper (by decide +kernel) (ae_v 0)) (aa_nil))))⟩
abbrev st_Keeper_rule : Stmt := inClass (topS 46) 3
theorem sc_Keeper_rule : FnScope ["self"] ["self"] (defScope st_Keeper_rule) := ⟨rfl, rfl, rfl, by decide +kernel, rfl, by decide +kernel, by decide +kernel⟩
theorem ok_Keeper_rule {P : Program} {w : World} {K : PySem.W.Frag} {mg : Str → Option Value} {base : Heap} {f : Addr} {C : Addr} {fd : FuncData} (F : L2.Fun K "rule" "Keeper.rule" st_Keeper_rule f fd) (hm : mg "Keeper" = some (.ref C)) (hc : Cls K C) (hme : Meth K C "rule" f) (hb : Binds K fd ["self"] []) (k_Keeper : ClsF K mg "Keeper" ["its_rule", "look", "unlike", "words", "deeds"]) : Met' P w K mg base 1 "Keeper" "rule" 1 s_Keeper_rule := by
  refine metA (b := a_Keeper_rule) F sc_Keeper_rule rfl hm hc hme hb ?_ (fun _ _ _ _ h => h)
  intro cdv A outer s H E hr hgd
  have hw : (Bs.nil ⟨w, mg⟩).g = ⟨w, mg⟩ := rfl
  exact ⟨_, ass_one (as_ret (ae_fld (g := ⟨w, mg⟩) k_Keeper (by decide +kernel) (ae_v 0)))⟩
abbrev st_Keeper_elder : Stmt := inClass (topS 46) 5
theorem sc_Keeper_elder : FnScope ["self"] ["self"] (defScope st_Keeper_elder) := ⟨rfl, rfl, rfl, by decide +kernel, rfl, by decide +kernel, by decide +kernel⟩
theorem ok_Keeper_elder {P : Program} {w : World} {K : PySem.W.Frag} {mg : Str → Option Value} {base : Heap} {f : Addr} {C : Addr} {fd : FuncData} (F : L2.Fun K "elder" "Keeper.elder" st_Keeper_elder f fd) (hm : mg "Keeper" = some (.ref C)) (hc : Cls K C) (hme : Meth K C "elder" f) (hb : Binds K fd ["self"] []) (m_len : mg "len" = none) (m_max : mg "max" = none) (k_Keeper : ClsF K mg "Keeper" ["its_rule", "look", "unlike", "words", "deeds"]) : Met' P w K mg base 1 "Keeper" "elder" 1 s_Keeper_elder := by
  refine metA (b := a_Keeper_elder) F sc_Keeper_elder rfl hm hc hme hb ?_ (fun _ _ _ _ h => h)
  intro cdv A outer s H E hr hgd
  have hw : (Bs.nil ⟨w, mg⟩).g = ⟨w, mg⟩ := rfl
  exact ⟨_, ass_one (as_ret (ae_cut (K := K) (ae_fld (g := ⟨w, mg⟩) k_Keeper (by decide +kernel) (ae_v 0)) (ao_some (ae_callB ac_max2 m_max (by decide +kernel) (aa_cons (ae_int) (aa_cons (ae_op ao_sub (ae_callB (ac_len (K := K)) m_len (by decide +kernel) (aa_cons (ae_fld (g := ⟨w, mg⟩) k_Keeper (by decide +kernel) (ae_v 0)) (aa_nil))) (ae_fld (g := ⟨w, mg⟩) k_Keeper (by decide +kernel) (ae_v 0))) (aa_nil))))) ao_none))⟩
abbrev st_Keeper_undo : Stmt := inClass (topS 46) 10
theorem sc_Keeper_undo : FnScope ["self", "before"] ["self"] (defScope st_Keeper_undo) := ⟨rfl, rfl, rfl, by decide +kernel, rfl, by decide +kernel, by decide +kernel⟩
theorem ok_Keeper_undo {P : Program} {w : World} {K : PySem.W.Frag} {mg : Str → Option Value} {base : Heap} {f : Addr} {C : Addr} {fd : FuncData} (F : L2.Fun K "undo" "Keeper.undo" st_Keeper_undo f fd) (hm : mg "Keeper" = some (.ref C)) (hc : Cls K C) (hme : Meth K C "undo" f) (hb : Binds K fd ["self"] []) (k_Keeper : ClsF K mg "Keeper" ["its_rule", "look", "unlike", "words", "deeds"]) (e_NoBack : ExcF K mg "NoBack") : MetX P w K mg base 1 "Keeper" "undo" 1 s_Keeper_undo := by
  refine metX (b := a_Keeper_undo) F sc_Keeper_undo rfl hm hc hme hb ?_ (fun _ _ _ _ _ h => h)
  intro B hw W Wk cdv A outer s H E hr hgd tk rel hp
  exact ⟨_, ass_cons (as_if (AT.nox (at_cmp (ao_eqNil (K := K) hr.units) (ae_fld (g := ⟨w, mg⟩) k_Keeper (by decide +kernel) (ae_v 0)) (ae_lst (aa_nil))))
      (ass_one (as_raise e_NoBack tk rel))
      (ass_nil))
      (ass_cons (AS.nox (as_set 1 sc_Keeper_undo.nd (ae_meth0 (K := K) PySem.F.plainAttrs_list PySem.F.slot_list_pop PySem.F.type_list_pop am_pop (ae_fld (g := ⟨w, mg⟩) k_Keeper (by decide +kernel) (ae_v 0))) rfl (.inl rfl)))
      (ass_one (AS.nox (as_if (at_cmp ao_is (ae_v 1) (ae_non))
      (ass_one (as_expr (ae_meth0 (K := K) PySem.F.plainAttrs_list PySem.F.slot_list_pop PySem.F.type_list_pop am_pop (ae_fld (g := ⟨w, mg⟩) k_Keeper (by decide +kernel) (ae_v 0)))))
      (ass_one (as_fld (g := ⟨w, mg⟩) k_Keeper (by decide +kernel) (ae_v 0) (ae_v 1)))))))⟩
abbrev st_law_pen : Stmt := topS 48
theorem sc_law_pen : FnScope ["_law_script", "_law_k", "_law_cell", "_law_far"] ["_law_script", "_law_k"] (defScope st_law_pen) := ⟨rfl, rfl, rfl, by decide +kernel, rfl, by decide +kernel, by decide +kernel⟩
theorem ok_law_pen {P : Program} {w : World} {K : PySem.W.Frag} {mg : Str → Option Value} {base : Heap} {f : Addr} {fd : FuncData} (F : L2.Fun K "_law_pen" "_law_pen" st_law_pen f fd) (hm : mg "_law_pen" = some (.ref f)) (hb : Binds K fd ["_law_script", "_law_k"] []) (m_abs : mg "abs" = none) (m_len : mg "len" = none) : Cal P w K mg base 1 "_law_pen" 2 s_law_pen := by
  refine calA (b := a_law_pen) F sc_law_pen rfl hm hb ?_ (fun _ _ _ _ h => h)
  intro cdv A outer s H E hr hgd
  have hw : (Bs.nil ⟨w, mg⟩).g = ⟨w, mg⟩ := rfl
  exact ⟨_, ass_cons (as_set 2 sc_law_pen.nd (ae_op (ao_add (K := K)) (ae_op ao_mul (ae_int) (ae_v 1)) (ae_int)) rfl (.inl rfl))
      (ass_cons (as_if (at_cmp ao_gt (ae_callB (ac_len (K := K)) m_len (by decide +kernel) (aa_cons (ae_v 0) (aa_nil))) (ae_int))
      (ass_one (as_set 2 sc_law_pen.nd (ae_op (ao_add (K := K)) (ae_ix (K := K) (ae_v 0) (ae_op ao_mod (ae_v 1) (ae_callB (ac_len (K := K)) m_len (by decide +kernel) (aa_cons (ae_v 0) (aa_nil))))) (ae_op ao_mul (ae_int) (ae_op ao_div (ae_v 1) (ae_callB (ac_len (K := K)) m_len (by decide +kernel) (aa_cons (ae_v 0) (aa_nil)))))) rfl (.inl rfl)))
      (ass_nil))
      (ass_cons (as_set 3 sc_law_pen.nd (ae_int) rfl (.inl rfl))
      (ass_cons (as_if (at_cmp ao_ge (ae_callB ac_abs m_abs (by decide +kernel) (aa_cons (ae_v 2) (aa_nil))) (ae_op ao_pow (ae_int) (ae_int)))
      (ass_one (as_set 3 sc_law_pen.nd (ae_callB ac_abs m_abs (by decide +kernel) (aa_cons (ae_v 2) (aa_nil))) rfl (.inl rfl)))
      (ass_nil))
      (ass_one (as_ret (ae_lstM (aa_cons (ae_v 3) (aa_cons (ae_op ao_mod (ae_op (ao_add (K := K)) (ae_op (ao_add (K := K)) (ae_op ao_mul (ae_op ao_mod (ae_v 2) (ae_int)) (ae_int)) (ae_op ao_mul (ae_int) (ae_v 1))) (ae_int)) (ae_int)) (aa_nil)))))))))⟩
abbrev st_law_take : Stmt := topS 49
theorem sc_law_take : FnScope ["_law_pen_here", "_law_many", "_law_digit", "_law_one"] ["_law_pen_here", "_law_many"] (defScope st_law_take) := ⟨rfl, rfl, rfl, by decide +kernel, rfl, by decide +kernel, by decide +kernel⟩
theorem ok_law_take {P : Program} {w : World} {K : PySem.W.Frag} {mg : Str → Option Value} {base : Heap} {f : Addr} {fd : FuncData} (F : L2.Fun K "_law_take" "_law_take" st_law_take f fd) (hm : mg "_law_take" = some (.ref f)) (hb : Binds K fd ["_law_pen_here", "_law_many"] []) : Cal P w K mg base 1 "_law_take" 2 s_law_take := by
  refine calA (b := a_law_take) F sc_law_take rfl hm hb ?_ (fun _ _ _ _ h => h)
  intro cdv A outer s H E hr hgd
  have hw : (Bs.nil ⟨w, mg⟩).g = ⟨w, mg⟩ := rfl
  exact ⟨_, ass_cons (as_if (at_cmp ao_gt (ae_ix (K := K) (ae_v 0) (ae_int)) (ae_int))
      (ass_cons (as_set 2 sc_law_take.nd (ae_op ao_mod (ae_ix (K := K) (ae_v 0) (ae_int)) (ae_v 1)) rfl (.inl rfl))
      (ass_cons (as_setL (ae_op ao_div (ae_ix (K := K) (ae_v 0) (ae_int)) (ae_v 1)) (ae_v 0) (ae_int))
      (ass_one (as_ret (ae_v 2)))))
      (ass_nil))
      (ass_cons (as_set 3 sc_law_take.nd (ae_op ao_mod (ae_op (ao_add (K := K)) (ae_op ao_mul (ae_ix (K := K) (ae_v 0) (ae_int)) (ae_int)) (ae_int)) (ae_int)) rfl (.inl rfl))
      (ass_cons (as_setL (ae_v 3) (ae_v 0) (ae_int))
      (ass_one (as_ret (ae_op ao_mod (ae_op ao_div (ae_op ao_mod (ae_op (ao_add (K := K)) (ae_op ao_mul (ae_v 3) (ae_op (ao_add (K := K)) (ae_op ao_mod (ae_v 3) (ae_int)) (ae_int))) (ae_op ao_div (ae_v 3) (ae_int))) (ae_int)) (ae_int)) (ae_v 1))))))⟩
abbrev st_law_signs : Stmt := topS 50
theorem sc_law_signs : FnScope ["_law_some"] [] (defScope st_law_signs) := ⟨rfl, rfl, rfl, by decide +kernel, rfl, by decide +kernel, by decide +kernel⟩
theorem ok_law_signs {P : Program} {w : World} {K : PySem.W.Frag} {mg : Str → Option Value} {base : Heap} {f : Addr} {fd : FuncData} (F : L2.Fun K "_law_signs" "_law_signs" st_law_signs f fd) (hm : mg "_law_signs" = some (.ref f)) (hb : Binds K fd [] []) : Cal P w K mg base 1 "_law_signs" 0 s_law_signs := by
  refine calA (b := a_law_signs) F sc_law_signs rfl hm hb ?_ (fun _ _ _ _ h => h)
  intro cdv A outer s H E hr hgd
  have hw : (Bs.nil ⟨w, mg⟩).g = ⟨w, mg⟩ := rfl
  exact ⟨_, ass_cons (as_set 0 sc_law_signs.nd (ae_str) rfl (.inl rfl))
      (ass_one (as_ret (ae_op (ao_add (K := K)) (ae_v 0) (ae_str))))⟩
abbrev st_law_weight : Stmt := topS 55
theorem sc_law_weight : FnScope ["_law_tongue_here", "_law_sentence_here", "_law_kind", "_law_heavy", "_law_sign", "_law_part"] ["_law_tongue_here", "_law_sentence_here"] (defScope st_law_weight) := ⟨rfl, rfl, rfl, by decide +kernel, rfl, by decide +kernel, by decide +kernel⟩
theorem ok_law_weight {P : Program} {w : World} {K : PySem.W.Frag} {mg : Str → Option Value} {base : Heap} {f : Addr} {fd : FuncData} (F : L2.Fun K "_law_weight" "_law_weight" st_law_weight f fd) (hm : mg "_law_weight" = some (.ref f)) (hb : Binds K fd ["_law_tongue_here", "_law_sentence_here"] []) (m_int : mg "int" = none) (m_len : mg "len" = none) : ∀ d, Cal P w K mg base (1 + d) "_law_weight" 2 (s_law_weight d)
  | 0 => by
    refine calA (b := aNoS) F sc_law_weight rfl hm hb ?_ (fun _ _ _ _ h => h.elim)
    intro cdv A outer s H E hr hgd
    exact ⟨_, ass_no⟩
  | d + 1 => by
    have c_law_weight := ok_law_weight (P := P) (w := w) (base := base) F hm hb m_int m_len d
    refine calA (b := a_law_weight (s_law_weight d)) F sc_law_weight rfl hm hb ?_ (fun _ _ _ _ h => h)
    intro cdv A outer s H E hr hgd
    have hw : (Bs.nil ⟨w, mg⟩).g = ⟨w, mg⟩ := rfl
    exact ⟨_, ass_cons (as_set 2 sc_law_weight.nd (ae_ix (K := K) (ae_v 1) (ae_int)) rfl (.inl rfl))
      (ass_cons (as_if (at_cmp (ao_eq (K := K) hr.units) (ae_v 2) (ae_str))
      (ass_one (as_ret (ae_ix (K := K) (ae_lst (aa_cons (ae_op (ao_add (K := K)) (ae_ix (K := K) (ae_v 1) (ae_int)) (ae_int)) (aa_cons (ae_op (ao_add (K := K)) (ae_or (K := K) (ae_ix (K := K) (ae_v 1) (ae_int)) (ae_one (ae_int))) (ae_int)) (aa_nil)))) (ae_callT ac_int m_int (by decide +kernel) (aa_cons (ae_cmp ao_isnot (ae_ix (K := K) (ae_v 1) (ae_int)) (ae_non)) (aa_nil))))))
      (ass_nil))
      (ass_cons (as_if (at_cmp (ao_eq (K := K) hr.units) (ae_v 2) (ae_str))
      (ass_one (as_ret (ae_op (ao_add (K := K)) (ae_ix (K := K) (ae_v 1) (ae_int)) (ae_int))))
      (ass_nil))
      (ass_cons (as_if (at_cmp (ao_eq (K := K) hr.units) (ae_v 2) (ae_str))
      (ass_one (as_ret (ae_op (ao_add (K := K)) (ae_callB (ac_len (K := K)) m_len (by decide +kernel) (aa_cons (ae_meth (K := K) PySem.F.plainAttrs_str PySem.F.slot_str_join PySem.F.type_str_join (am_join (K := K)) (ae_str) (aa_cons (ae_v 0) (aa_nil))) (aa_nil))) (ae_int))))
      (ass_nil))
      (ass_cons (as_if (at_cmp ao_inL (ae_v 2) (ae_tup (aa_cons (ae_str) (aa_cons (ae_str) (aa_cons (ae_str) (aa_nil))))))
      (ass_one (as_ret (ae_op (ao_add (K := K)) (ae_op (ao_add (K := K)) (ae_callB (ac_len (K := K)) m_len (by decide +kernel) (aa_cons (ae_ix (K := K) (ae_v 1) (ae_int)) (aa_nil))) (ae_int)) (ae_callT ac_int m_int (by decide +kernel) (aa_cons (ae_cmp (ao_eq (K := K) hr.units) (ae_v 2) (ae_str)) (aa_nil))))))
      (ass_nil))
      (ass_cons (as_set 3 sc_law_weight.nd (ae_int) rfl (.inl rfl))
      (ass_cons (as_if (at_cmp (ao_eq (K := K) hr.units) (ae_v 2) (ae_str))
      (ass_cons (as_for (ai_str (ae_ix (K := K) (ae_v 1) (ae_int))) (ag_name 4 (vs := [4]) sc_law_weight.nd rfl (.inl rfl))
      (ass_one (as_set 3 sc_law_weight.nd (ae_op ao_mul (ae_v 3) (ae_op (ao_add (K := K)) (ae_ix (K := K) (ae_v 1) (ae_int)) (ae_int))) rfl (.inl rfl))))
      (ass_one (as_ret (ae_op (ao_add (K := K)) (ae_v 3) (ae_int)))))
      (ass_nil))
      (ass_cons (as_for (ai_tup (K := K) (ae_cut (K := K) (ae_v 1) (ao_some (ae_int)) ao_none)) (ag_name 5 (vs := [5]) sc_law_weight.nd rfl (.inl rfl))
      (ass_one (as_set 3 sc_law_weight.nd (ae_op ao_mul (ae_v 3) (ae_call (K := K) (g := ⟨w, mg⟩) (hk := by first | exact Nat.le_refl _ | exact Nat.le_trans (by decide) (Nat.le_add_right 1 d)) c_law_weight hr hgd (aa_cons (ae_v 0) (aa_cons (ae_v 5) (aa_nil))))) rfl (.inl rfl))))
      (ass_one (as_ret (ae_v 3))))))))))⟩
abbrev st_law_plain_holds : Stmt := topS 57
theorem sc_law_plain_holds : FnScope ["_law_tongue_here", "_law_sentence_here", "_law_word_here", "_law_kind", "_law_many", "_law_spots", "_law_k", "_law_one", "_law_sign"] ["_law_tongue_here", "_law_sentence_here", "_law_word_here"] (defScope st_law_plain_holds) := ⟨rfl, rfl, rfl, by decide +kernel, rfl, by decide +kernel, by decide +kernel⟩
theorem ok_law_plain_holds {P : Program} {w : World} {K : PySem.W.Frag} {mg : Str → Option Value} {base : Heap} {f : Addr} {fd : FuncData} (F : L2.Fun K "_law_plain_holds" "_law_plain_holds" st_law_plain_holds f fd) (hm : mg "_law_plain_holds" = some (.ref f)) (hb : Binds K fd ["_law_tongue_here", "_law_sentence_here", "_law_word_here"] []) (m_len : mg "len" = none) (m_max : mg "max" = none) (m_range : mg "range" = none) : Cal P w K mg base 1 "_law_plain_holds" 3 s_law_plain_holds := by
  refine calA (b := a_law_plain_holds) F sc_law_plain_holds rfl hm hb ?_ (fun _ _ _ _ h => h)
  intro cdv A outer s H E hr hgd
  have hw : (Bs.nil ⟨w, mg⟩).g = ⟨w, mg⟩ := rfl
  exact ⟨_, ass_cons (as_set 3 sc_law_plain_holds.nd (ae_ix (K := K) (ae_v 1) (ae_int)) rfl (.inl rfl))
      (ass_cons (as_if (at_cmp (ao_eq (K := K) hr.units) (ae_v 3) (ae_str))
      (ass_one (as_ret (ae_and (K := K) (ae_cmp ao_le (ae_ix (K := K) (ae_v 1) (ae_int)) (ae_callB (ac_len (K := K)) m_len (by decide +kernel) (aa_cons (ae_v 2) (aa_nil)))) (ae_one (ae_or (K := K) (ae_cmp ao_is (ae_ix (K := K) (ae_v 1) (ae_int)) (ae_non)) (ae_one (ae_cmp ao_le (ae_callB (ac_len (K := K)) m_len (by decide +kernel) (aa_cons (ae_v 2) (aa_nil))) (ae_ix (K := K) (ae_v 1) (ae_int)))))))))
      (ass_nil))
      (ass_cons (as_if (at_cmp (ao_eq (K := K) hr.units) (ae_v 3) (ae_str))
      (ass_one (as_ret (ae_cmp ao_ge (ae_callB (ac_len (K := K)) m_len (by decide +kernel) (aa_cons (ae_lc [("_law_sign", 8)] sc_law_plain_holds.nd (ai_str (ae_v 2)) (blkOk_by (own := [("_law_sign", 8)]) (N := ["_law_tongue_here", "_law_sentence_here", "_law_word_here", "_law_kind", "_law_many", "_law_spots", "_law_k", "_law_one", "_law_sign"]) (sc := defScope st_law_plain_holds) (by decide +kernel)) (fun _ _ _ _ _ => ag_name 8 (vs := [8]) sc_law_plain_holds.nd rfl (.inl rfl)) (fun _ _ _ _ _ => ats_one (at_cmp ao_inS (ae_v 8) (ae_ix (K := K) (ae_v 0) (ae_ix (K := K) (ae_v 1) (ae_int))))) (fun _ _ _ _ _ => ae_v 8)) (aa_nil))) (ae_ix (K := K) (ae_v 1) (ae_int)))))
      (ass_nil))
      (ass_cons (as_if (at_cmp (ao_eq (K := K) hr.units) (ae_v 3) (ae_str))
      (ass_cons (as_setLc 4 [("_law_one", 7)] sc_law_plain_holds.nd (ai_str (ae_ix (K := K) (ae_v 1) (ae_int))) (sw_true rfl rfl rfl (by decide +kernel)) (blkOk_by (own := [("_law_one", 7)]) (N := ["_law_tongue_here", "_law_sentence_here", "_law_word_here", "_law_kind", "_law_many", "_law_spots", "_law_k", "_law_one", "_law_sign"]) (sc := defScope st_law_plain_holds) (by decide +kernel)) (fun _ _ _ _ _ => ag_name 7 (vs := [7]) sc_law_plain_holds.nd rfl (.inr rfl)) (fun _ _ _ _ _ => ats_nil) (fun _ _ _ _ _ => ae_callB (ac_len (K := K)) m_len (by decide +kernel) (aa_cons (ae_lc [("_law_sign", 8)] sc_law_plain_holds.nd (ai_str (ae_v 2)) (blkOk_by rfl) (fun _ _ _ _ _ => ag_name 8 (vs := [8]) sc_law_plain_holds.nd rfl (.inl rfl)) (fun _ _ _ _ _ => ats_one (at_cmp (ao_eq (K := K) hr.units) (ae_v 8) (ae_v 7))) (fun _ _ _ _ _ => ae_v 8)) (aa_nil))))
      (ass_one (as_ret (ae_cmp ao_le (ae_callB (ac_maxL (K := K)) m_max (by decide +kernel) (aa_cons (ae_v 4) (aa_nil))) (ae_ix (K := K) (ae_v 1) (ae_int))))))
      (ass_nil))
      (ass_cons (as_if (at_cmp (ao_eq (K := K) hr.units) (ae_v 3) (ae_str))
      (ass_one (as_ret (ae_cmp (ao_eq (K := K) hr.units) (ae_lc [("_law_k", 6)] sc_law_plain_holds.nd (ai_range2 m_range (aa_cons (ae_int) (aa_cons (ae_callB (ac_len (K := K)) m_len (by decide +kernel) (aa_cons (ae_v 2) (aa_nil))) (aa_nil)))) (blkOk_by (own := [("_law_k", 6)]) (N := ["_law_tongue_here", "_law_sentence_here", "_law_word_here", "_law_kind", "_law_many", "_law_spots", "_law_k", "_law_one", "_law_sign"]) (sc := defScope st_law_plain_holds) (by decide +kernel)) (fun _ _ _ _ _ => ag_name 6 (vs := [6]) sc_law_plain_holds.nd rfl (.inl rfl)) (fun _ _ _ _ _ => ats_one (at_cmp (ao_eq (K := K) hr.units) (ae_ix (K := K) (ae_v 2) (ae_v 6)) (ae_ix (K := K) (ae_v 2) (ae_op ao_sub (ae_v 6) (ae_int))))) (fun _ _ _ _ _ => ae_v 6)) (ae_lst (aa_nil)))))
      (ass_nil))
      (ass_cons (as_setLc 5 [("_law_k", 6)] sc_law_plain_holds.nd (ai_range1 m_range (aa_cons (ae_callB (ac_len (K := K)) m_len (by decide +kernel) (aa_cons (ae_v 2) (aa_nil))) (aa_nil))) (sw_true rfl rfl rfl (by decide +kernel)) (blkOk_by (own := [("_law_k", 6)]) (N := ["_law_tongue_here", "_law_sentence_here", "_law_word_here", "_law_kind", "_law_many", "_law_spots", "_law_k", "_law_one", "_law_sign"]) (sc := defScope st_law_plain_holds) (by decide +kernel)) (fun _ _ _ _ _ => ag_name 6 (vs := [6]) sc_law_plain_holds.nd rfl (.inl rfl)) (fun _ _ _ _ _ => ats_one (at_cmp (ao_eq (K := K) hr.units) (ae_cut (K := K) (ae_v 2) (ao_some (ae_v 6)) (ao_some (ae_op (ao_add (K := K)) (ae_v 6) (ae_callB (ac_len (K := K)) m_len (by decide +kernel) (aa_cons (ae_ix (K := K) (ae_v 1) (ae_int)) (aa_nil)))))) (ae_ix (K := K) (ae_v 1) (ae_int)))) (fun _ _ _ _ _ => ae_v 6))
      (ass_cons (as_if (at_cmp (ao_eq (K := K) hr.units) (ae_v 3) (ae_str))
      (ass_one (as_ret (ae_cmp (ao_eq (K := K) hr.units) (ae_v 5) (ae_lst (aa_nil)))))
      (ass_nil))
      (ass_cons (as_if (at_cmp (ao_eq (K := K) hr.units) (ae_v 3) (ae_str))
      (ass_one (as_ret (ae_cmp ao_inL (ae_int) (ae_v 5))))
      (ass_nil))
      (ass_one (as_ret (ae_cmp ao_inL (ae_op ao_sub (ae_callB (ac_len (K := K)) m_len (by decide +kernel) (aa_cons (ae_v 2) (aa_nil))) (ae_callB (ac_len (K := K)) m_len (by decide +kernel) (aa_cons (ae_ix (K := K) (ae_v 1) (ae_int)) (aa_nil)))) (ae_v 5)))))))))))⟩
abbrev st_has_signs : Stmt := topS 20
theorem sc_has_signs : FnScope ["tongue", "text", "signs", "sign"] ["tongue", "text"] (defScope st_has_signs) := ⟨rfl, rfl, rfl, by decide +kernel, rfl, by decide +kernel, by decide +kernel⟩
theorem ok_has_signs {P : Program} {w : World} {K : PySem.W.Frag} {mg : Str → Option Value} {base : Heap} {f : Addr} {fd : FuncData} (F : L2.Fun K "has_signs" "has_signs" st_has_signs f fd) (hm : mg "has_signs" = some (.ref f)) (hb : Binds K fd ["tongue", "text"] []) (m_all : mg "all" = none) (c_signs_of : Cal P w K mg base 1 "signs_of" 1 s_signs_of) : Cal P w K mg base 2 "has_signs" 2 s_has_signs := by
  refine calA (b := a_has_signs) F sc_has_signs rfl hm hb ?_ (fun _ _ _ _ h => h)
  intro cdv A outer s H E hr hgd
  have hw : (Bs.nil ⟨w, mg⟩).g = ⟨w, mg⟩ := rfl
  exact ⟨_, ass_cons (as_set 2 sc_has_signs.nd (ae_call (K := K) (g := ⟨w, mg⟩) c_signs_of hr hgd (aa_cons (ae_v 0) (aa_nil))) rfl (.inr rfl))
      (ass_one (as_ret (ae_callB (ac_all (K := K)) m_all (by decide +kernel) (aa_cons (ae_lc [("sign", 3)] sc_has_signs.nd (ai_str (ae_v 1)) (blkOk_by (own := [("sign", 3)]) (N := ["tongue", "text", "signs", "sign"]) (sc := defScope st_has_signs) (by decide +kernel)) (fun _ _ _ _ _ => ag_name 3 (vs := [3]) sc_has_signs.nd rfl (.inl rfl)) (fun _ _ _ _ _ => ats_nil) (fun _ _ _ _ _ => ae_cmp ao_inS (ae_v 3) (ae_v 2))) (aa_nil)))))⟩
abbrev st_is_within : Stmt := topS 28
theorem sc_is_within : FnScope ["thing", "low", "high"] ["thing", "low", "high"] (defScope st_is_within) := ⟨rfl, rfl, rfl, by decide +kernel, rfl, by decide +kernel, by decide +kernel⟩
theorem ok_is_within {P : Program} {w : World} {K : PySem.W.Frag} {mg : Str → Option Value} {base : Heap} {f : Addr} {fd : FuncData} (F : L2.Fun K "is_within" "is_within" st_is_within f fd) (hm : mg "is_within" = some (.ref f)) (hb : Binds K fd ["thing", "low", "high"] []) (c_is_whole : Cal P w K mg base 1 "is_whole" 1 s_is_whole) : Cal P w K mg base 2 "is_within" 3 s_is_within := by
  refine calA (b := a_is_within) F sc_is_within rfl hm hb ?_ (fun _ _ _ _ h => h)
  intro cdv A outer s H E hr hgd
  have hw : (Bs.nil ⟨w, mg⟩).g = ⟨w, mg⟩ := rfl
  exact ⟨_, ass_one (as_ret (ae_and (K := K) (ae_call (K := K) (g := ⟨w, mg⟩) c_is_whole hr hgd (aa_cons (ae_v 0) (aa_nil))) (ae_one (ae_chain ao_le ao_le (ae_v 1) (ae_v 0) (ae_v 2)))))⟩
abbrev st_holds : Stmt := topS 35
theorem sc_holds : FnScope ["tongue", "sentence", "word", "told", "part"] ["tongue", "sentence", "word"] (defScope st_holds) := ⟨rfl, rfl, rfl, by decide +kernel, rfl, by decide +kernel, by decide +kernel⟩
theorem ok_holds {P : Program} {w : World} {K : PySem.W.Frag} {mg : Str → Option Value} {base : Heap} {f : Addr} {fd : FuncData} (F : L2.Fun K "holds" "holds" st_holds f fd) (hm : mg "holds" = some (.ref f)) (hb : Binds K fd ["tongue", "sentence", "word"] []) (c_parts_of : Cal P w K mg base 1 "parts_of" 1 s_parts_of) (c_plain_holds : Cal P w K mg base 1 "plain_holds" 3 s_plain_holds) : ∀ d, Cal P w K mg base (2 + d) "holds" 3 (s_holds d)
  | 0 => by
    refine calA (b := aNoS) F sc_holds rfl hm hb ?_ (fun _ _ _ _ h => h.elim)
    intro cdv A outer s H E hr hgd
    exact ⟨_, ass_no⟩
  | d + 1 => by
    have c_holds := ok_holds (P := P) (w := w) (base := base) F hm hb c_parts_of c_plain_holds d
    refine calA (b := a_holds (s_holds d)) F sc_holds rfl hm hb ?_ (fun _ _ _ _ h => h)
    intro cdv A outer s H E hr hgd
    have hw : (Bs.nil ⟨w, mg⟩).g = ⟨w, mg⟩ := rfl
    exact ⟨_, ass_cons (as_setLc 3 [("part", 4)] sc_holds.nd (ai_list (K := K) (ae_call (K := K) (g := ⟨w, mg⟩) (hk := by first | exact Nat.le_refl _ | exact Nat.le_trans (by decide) (Nat.le_add_right 2 d)) c_parts_of hr hgd (aa_cons (ae_v 1) (aa_nil)))) (sw_true rfl rfl rfl (by decide +kernel)) (blkOk_by (own := [("part", 4)]) (N := ["tongue", "sentence", "word", "told", "part"]) (sc := defScope st_holds) (by decide +kernel)) (fun _ _ _ _ _ => ag_name 4 (vs := [4]) sc_holds.nd rfl (.inl rfl)) (fun _ _ _ _ _ => ats_nil) (fun _ _ _ _ _ => ae_call (K := K) (g := ⟨w, mg⟩) (hk := by first | exact Nat.le_refl _ | exact Nat.le_trans (by decide) (Nat.le_add_right 2 d)) c_holds hr hgd (aa_cons (ae_v 0) (aa_cons (ae_v 4) (aa_cons (ae_v 2) (aa_nil))))))
      (ass_cons (as_if (at_cmp (ao_eq (K := K) hr.units) (ae_ix (K := K) (ae_v 1) (ae_int)) (ae_str))
      (ass_one (as_ret (ae_not (K := K) (ae_ix (K := K) (ae_v 3) (ae_int)))))
      (ass_nil))
      (ass_cons (as_if (at_cmp (ao_eq (K := K) hr.units) (ae_ix (K := K) (ae_v 1) (ae_int)) (ae_str))
      (ass_one (as_ret (ae_and (K := K) (ae_ix (K := K) (ae_v 3) (ae_int)) (ae_one (ae_ix (K := K) (ae_v 3) (ae_int))))))
      (ass_nil))
      (ass_cons (as_if (at_cmp (ao_eq (K := K) hr.units) (ae_ix (K := K) (ae_v 1) (ae_int)) (ae_str))
      (ass_one (as_ret (ae_or (K := K) (ae_ix (K := K) (ae_v 3) (ae_int)) (ae_one (ae_ix (K := K) (ae_v 3) (ae_int))))))
      (ass_nil))
      (ass_one (as_ret (ae_call (K := K) (g := ⟨w, mg⟩) (hk := by first | exact Nat.le_refl _ | exact Nat.le_trans (by decide) (Nat.le_add_right 2 d)) c_plain_holds hr hgd (aa_cons (ae_v 0) (aa_cons (ae_v 1) (aa_cons (ae_v 2) (aa_nil))))))))))⟩
abbrev st_plain_weight : Stmt := topS 37
theorem sc_plain_weight : FnScope ["tongue", "sentence", "kind"] ["tongue", "sentence"] (defScope st_plain_weight) := ⟨rfl, rfl, rfl, by decide +kernel, rfl, by decide +kernel, by decide +kernel⟩
theorem ok_plain_weight {P : Program} {w : World} {K : PySem.W.Frag} {mg : Str → Option Value} {base : Heap} {f : Addr} {fd : FuncData} (F : L2.Fun K "plain_weight" "plain_weight" st_plain_weight f fd) (hm : mg "plain_weight" = some (.ref f)) (hb : Binds K fd ["tongue", "sentence"] []) (m_len : mg "len" = none) (c_signs_of : Cal P w K mg base 1 "signs_of" 1 s_signs_of) (c_power : Cal P w K mg base 1 "power" 2 s_power) : Cal P w K mg base 2 "plain_weight" 2 s_plain_weight := by
  refine calA (b := a_plain_weight) F sc_plain_weight rfl hm hb ?_ (fun _ _ _ _ h => h)
  intro cdv A outer s H E hr hgd
  have hw : (Bs.nil ⟨w, mg⟩).g = ⟨w, mg⟩ := rfl
  exact ⟨_, ass_cons (as_set 2 sc_plain_weight.nd (ae_ix (K := K) (ae_v 1) (ae_int)) rfl (.inl rfl))
      (ass_cons (as_if (at_cmp (ao_eq (K := K) hr.units) (ae_v 2) (ae_str))
      (ass_cons (as_if (at_cmp ao_is (ae_ix (K := K) (ae_v 1) (ae_int)) (ae_non))
      (ass_one (as_ret (ae_op (ao_add (K := K)) (ae_ix (K := K) (ae_v 1) (ae_int)) (ae_int))))
      (ass_nil))
      (ass_one (as_ret (ae_op (ao_add (K := K)) (ae_ix (K := K) (ae_v 1) (ae_int)) (ae_int)))))
      (ass_nil))
      (ass_cons (as_if (at_cmp (ao_eq (K := K) hr.units) (ae_v 2) (ae_str))
      (ass_one (as_ret (ae_op (ao_add (K := K)) (ae_ix (K := K) (ae_v 1) (ae_int)) (ae_int))))
      (ass_nil))
      (ass_cons (as_if (at_cmp (ao_eq (K := K) hr.units) (ae_v 2) (ae_str))
      (ass_one (as_ret (ae_op (ao_add (K := K)) (ae_call (K := K) (g := ⟨w, mg⟩) c_power hr hgd (aa_cons (ae_op (ao_add (K := K)) (ae_ix (K := K) (ae_v 1) (ae_int)) (ae_int)) (aa_cons (ae_callB (ac_len (K := K)) m_len (by decide +kernel) (aa_cons (ae_ix (K := K) (ae_v 1) (ae_int)) (aa_nil))) (aa_nil)))) (ae_int))))
      (ass_nil))
      (ass_cons (as_if (at_cmp (ao_eq (K := K) hr.units) (ae_v 2) (ae_str))
      (ass_one (as_ret (ae_op (ao_add (K := K)) (ae_callB (ac_len (K := K)) m_len (by decide +kernel) (aa_cons (ae_call (K := K) (g := ⟨w, mg⟩) c_signs_of hr hgd (aa_cons (ae_v 0) (aa_nil))) (aa_nil))) (ae_int))))
      (ass_nil))
      (ass_cons (as_if (at_cmp (ao_eq (K := K) hr.units) (ae_v 2) (ae_str))
      (ass_one (as_ret (ae_op (ao_add (K := K)) (ae_callB (ac_len (K := K)) m_len (by decide +kernel) (aa_cons (ae_ix (K := K) (ae_v 1) (ae_int)) (aa_nil))) (ae_int))))
      (ass_nil))
      (ass_one (as_ret (ae_op (ao_add (K := K)) (ae_callB (ac_len (K := K)) m_len (by decide +kernel) (aa_cons (ae_ix (K := K) (ae_v 1) (ae_int)) (aa_nil))) (ae_int)))))))))⟩
abbrev st_Keeper_is_near : Stmt := inClass (topS 46) 6
theorem sc_Keeper_is_near : FnScope ["self", "word", "last"] ["self", "word"] (defScope st_Keeper_is_near) := ⟨rfl, rfl, rfl, by decide +kernel, rfl, by decide +kernel, by decide +kernel⟩
theorem ok_Keeper_is_near {P : Program} {w : World} {K : PySem.W.Frag} {mg : Str → Option Value} {base : Heap} {f : Addr} {C : Addr} {fd : FuncData} (F : L2.Fun K "is_near" "Keeper.is_near" st_Keeper_is_near f fd) (hm : mg "Keeper" = some (.ref C)) (hc : Cls K C) (hme : Meth K C "is_near" f) (hb : Binds K fd ["self", "word"] []) (m_len : mg "len" = none) (k_Keeper : ClsF K mg "Keeper" ["its_rule", "look", "unlike", "words", "deeds"]) (c_unlike_at : Cal P w K mg base 1 "unlike_at" 2 s_unlike_at) (c_Keeper_word : Met' P w K mg base 1 "Keeper" "word" 1 s_Keeper_word) : Met' P w K mg base 2 "Keeper" "is_near" 2 s_Keeper_is_near := by
  refine metA (b := a_Keeper_is_near) F sc_Keeper_is_near rfl hm hc hme hb ?_ (fun _ _ _ _ h => h)
  intro cdv A outer s H E hr hgd
  have hw : (Bs.nil ⟨w, mg⟩).g = ⟨w, mg⟩ := rfl
  exact ⟨_, ass_cons (as_set 2 sc_Keeper_is_near.nd (ae_mth0 (g := ⟨w, mg⟩) c_Keeper_word hr hgd (ae_v 0)) rfl (.inl rfl))
      (ass_one (as_ret (ae_and (K := K) (ae_cmp ao_isnot (ae_v 2) (ae_non)) (ae_and (K := K) (ae_cmp (ao_eq (K := K) hr.units) (ae_callB (ac_len (K := K)) m_len (by decide +kernel) (aa_cons (ae_v 2) (aa_nil))) (ae_callB (ac_len (K := K)) m_len (by decide +kernel) (aa_cons (ae_v 1) (aa_nil)))) (ae_one (ae_cmp ao_lt (ae_call (K := K) (g := ⟨w, mg⟩) c_unlike_at hr hgd (aa_cons (ae_v 2) (aa_cons (ae_v 1) (aa_nil)))) (ae_fld (g := ⟨w, mg⟩) k_Keeper (by decide +kernel) (ae_v 0))))))))⟩
abbrev st_law_tongue : Stmt := topS 51
theorem sc_law_tongue : FnScope ["_law_pen_here", "_law_most", "_law_left", "_law_room", "_law_kinds", "_law_size", "_law_k"] ["_law_pen_here", "_law_most"] (defScope st_law_tongue) := ⟨rfl, rfl, rfl, by decide +kernel, rfl, by decide +kernel, by decide +kernel⟩
theorem ok_law_tongue {P : Program} {w : World} {K : PySem.W.Frag} {mg : Str → Option Value} {base : Heap} {f : Addr} {fd : FuncData} (F : L2.Fun K "_law_tongue" "_law_tongue" st_law_tongue f fd) (hm : mg "_law_tongue" = some (.ref f)) (hb : Binds K fd ["_law_pen_here", "_law_most"] []) (m_len : mg "len" = none) (m_list : mg "list" = none) (m_min : mg "min" = none) (m_range : mg "range" = none) (m_tuple : mg "tuple" = none) (c_law_take : Cal P w K mg base 1 "_law_take" 2 s_law_take) (c_law_signs : Cal P w K mg base 1 "_law_signs" 0 s_law_signs) : Cal P w K mg base 2 "_law_tongue" 2 s_law_tongue := by
  refine calA (b := a_law_tongue) F sc_law_tongue rfl hm hb ?_ (fun _ _ _ _ h => h)
  intro cdv A outer s H E hr hgd
  have hw : (Bs.nil ⟨w, mg⟩).g = ⟨w, mg⟩ := rfl
  exact ⟨_, ass_cons (as_set 2 sc_law_tongue.nd (ae_callT ac_listSM m_list (by decide +kernel) (aa_cons (ae_call0 (K := K) (g := ⟨w, mg⟩) c_law_signs hr hgd) (aa_nil))) rfl (.inr rfl))
      (ass_cons (as_set 3 sc_law_tongue.nd (ae_op (ao_add (K := K)) (ae_int) (ae_call (K := K) (g := ⟨w, mg⟩) c_law_take hr hgd (aa_cons (ae_v 0) (aa_cons (ae_v 1) (aa_nil))))) rfl (.inl rfl))
      (ass_cons (as_set 4 sc_law_tongue.nd (ae_lstM (aa_nil)) rfl (.inl rfl))
      (ass_cons (as_while (aw_t (aw_and (at_cmp ao_gt (ae_v 3) (ae_int)) (aw_and1 (at_cmp ao_lt (ae_callB (ac_len (K := K)) m_len (by decide +kernel) (aa_cons (ae_v 4) (aa_nil))) (ae_int)))))
      (ass_cons (as_set 5 sc_law_tongue.nd (ae_op (ao_add (K := K)) (ae_int) (ae_call (K := K) (g := ⟨w, mg⟩) c_law_take hr hgd (aa_cons (ae_v 0) (aa_cons (ae_callB ac_min2 m_min (by decide +kernel) (aa_cons (ae_int) (aa_cons (ae_v 3) (aa_nil)))) (aa_nil))))) rfl (.inl rfl))
      (ass_cons (as_expr (ae_meth (K := K) PySem.F.plainAttrs_list PySem.F.slot_list_append PySem.F.type_list_append am_append (ae_v 4) (aa_cons (ae_meth (K := K) PySem.F.plainAttrs_str PySem.F.slot_str_join PySem.F.type_str_join (am_join (K := K)) (ae_str) (aa_cons (ae_lc [("_law_k", 6)] sc_law_tongue.nd (ai_range1 m_range (aa_cons (ae_v 5) (aa_nil))) (blkOk_by (own := [("_law_k", 6)]) (N := ["_law_pen_here", "_law_most", "_law_left", "_law_room", "_law_kinds", "_law_size", "_law_k"]) (sc := defScope st_law_tongue) (by decide +kernel)) (fun _ _ _ _ _ => ag_name 6 (vs := [6]) sc_law_tongue.nd rfl (.inl rfl)) (fun _ _ _ _ _ => ats_nil) (fun _ _ _ _ _ => ae_meth (K := K) PySem.F.plainAttrs_list PySem.F.slot_list_pop PySem.F.type_list_pop am_popAt (ae_v 2) (aa_cons (ae_call (K := K) (g := ⟨w, mg⟩) c_law_take hr hgd (aa_cons (ae_v 0) (aa_cons (ae_callB (ac_len (K := K)) m_len (by decide +kernel) (aa_cons (ae_v 2) (aa_nil))) (aa_nil)))) (aa_nil)))) (aa_nil))) (aa_nil))))
      (ass_one (as_set 3 sc_law_tongue.nd (ae_op ao_sub (ae_v 3) (ae_v 5)) rfl (.inl rfl))))))
      (ass_frz 4 (ass_one (as_ret (ae_callT (ac_tuple (K := K)) m_tuple (by decide +kernel) (aa_cons (ae_v 4) (aa_nil)))))))))⟩
abbrev st_law_word : Stmt := topS 52
theorem sc_law_word : FnScope ["_law_pen_here", "_law_tongue_here", "_law_size", "_law_signs_here", "_law_few", "_law_k"] ["_law_pen_here", "_law_tongue_here", "_law_size"] (defScope st_law_word) := ⟨rfl, rfl, rfl, by decide +kernel, rfl, by decide +kernel, by decide +kernel⟩
theorem ok_law_word {P : Program} {w : World} {K : PySem.W.Frag} {mg : Str → Option Value} {base : Heap} {f : Addr} {fd : FuncData} (F : L2.Fun K "_law_word" "_law_word" st_law_word f fd) (hm : mg "_law_word" = some (.ref f)) (hb : Binds K fd ["_law_pen_here", "_law_tongue_here", "_law_size"] []) (m_len : mg "len" = none) (m_range : mg "range" = none) (c_law_take : Cal P w K mg base 1 "_law_take" 2 s_law_take) : Cal P w K mg base 2 "_law_word" 3 s_law_word := by
  refine calA (b := a_law_word) F sc_law_word rfl hm hb ?_ (fun _ _ _ _ h => h)
  intro cdv A outer s H E hr hgd
  have hw : (Bs.nil ⟨w, mg⟩).g = ⟨w, mg⟩ := rfl
  exact ⟨_, ass_cons (as_set 3 sc_law_word.nd (ae_meth (K := K) PySem.F.plainAttrs_str PySem.F.slot_str_join PySem.F.type_str_join (am_join (K := K)) (ae_str) (aa_cons (ae_v 1) (aa_nil))) rfl (.inr rfl))
      (ass_cons (as_set 4 sc_law_word.nd (ae_lc [("_law_k", 5)] sc_law_word.nd (ai_range1 m_range (aa_cons (ae_op (ao_add (K := K)) (ae_int) (ae_call (K := K) (g := ⟨w, mg⟩) c_law_take hr hgd (aa_cons (ae_v 0) (aa_cons (ae_int) (aa_nil))))) (aa_nil))) (blkOk_by (own := [("_law_k", 5)]) (N := ["_law_pen_here", "_law_tongue_here", "_law_size", "_law_signs_here", "_law_few", "_law_k"]) (sc := defScope st_law_word) (by decide +kernel)) (fun _ _ _ _ _ => ag_name 5 (vs := [5]) sc_law_word.nd rfl (.inl rfl)) (fun _ _ _ _ _ => ats_nil) (fun _ _ _ _ _ => ae_ix (K := K) (ae_v 3) (ae_call (K := K) (g := ⟨w, mg⟩) c_law_take hr hgd (aa_cons (ae_v 0) (aa_cons (ae_callB (ac_len (K := K)) m_len (by decide +kernel) (aa_cons (ae_v 3) (aa_nil))) (aa_nil)))))) rfl (.inr rfl))
      (ass_one (as_ret (ae_meth (K := K) PySem.F.plainAttrs_str PySem.F.slot_str_join PySem.F.type_str_join (am_join (K := K)) (ae_str) (aa_cons (ae_lc [("_law_k", 5)] sc_law_word.nd (ai_range1 m_range (aa_cons (ae_v 2) (aa_nil))) (blkOk_by (own := [("_law_k", 5)]) (N := ["_law_pen_here", "_law_tongue_here", "_law_size", "_law_signs_here", "_law_few", "_law_k"]) (sc := defScope st_law_word) (by decide +kernel)) (fun _ _ _ _ _ => ag_name 5 (vs := [5]) sc_law_word.nd rfl (.inl rfl)) (fun _ _ _ _ _ => ats_nil) (fun _ _ _ _ _ => ae_ix (K := K) (ae_v 4) (ae_call (K := K) (g := ⟨w, mg⟩) c_law_take hr hgd (aa_cons (ae_v 0) (aa_cons (ae_callB (ac_len (K := K)) m_len (by decide +kernel) (aa_cons (ae_v 4) (aa_nil))) (aa_nil)))))) (aa_nil))))))⟩
abbrev st_law_holds : Stmt := topS 58
theorem sc_law_holds : FnScope ["_law_tongue_here", "_law_sentence_here", "_law_word_here", "_law_kind", "_law_one", "_law_other"] ["_law_tongue_here", "_law_sentence_here", "_law_word_here"] (defScope st_law_holds) := ⟨rfl, rfl, rfl, by decide +kernel, rfl, by decide +kernel, by decide +kernel⟩
theorem ok_law_holds {P : Program} {w : World} {K : PySem.W.Frag} {mg : Str → Option Value} {base : Heap} {f : Addr} {fd : FuncData} (F : L2.Fun K "_law_holds" "_law_holds" st_law_holds f fd) (hm : mg "_law_holds" = some (.ref f)) (hb : Binds K fd ["_law_tongue_here", "_law_sentence_here", "_law_word_here"] []) (m_int : mg "int" = none) (c_law_plain_holds : Cal P w K mg base 1 "_law_plain_holds" 3 s_law_plain_holds) : ∀ d, Cal P w K mg base (2 + d) "_law_holds" 3 (s_law_holds d)
  | 0 => by
    refine calA (b := aNoS) F sc_law_holds rfl hm hb ?_ (fun _ _ _ _ h => h.elim)
    intro cdv A outer s H E hr hgd
    exact ⟨_, ass_no⟩
  | d + 1 => by
    have c_law_holds := ok_law_holds (P := P) (w := w) (base := base) F hm hb m_int c_law_plain_holds d
    refine calA (b := a_law_holds (s_law_holds d)) F sc_law_holds rfl hm hb ?_ (fun _ _ _ _ h => h)
    intro cdv A outer s H E hr hgd
    have hw : (Bs.nil ⟨w, mg⟩).g = ⟨w, mg⟩ := rfl
    exact ⟨_, ass_cons (as_set 3 sc_law_holds.nd (ae_ix (K := K) (ae_v 1) (ae_int)) rfl (.inl rfl))
      (ass_cons (as_if (at_cmp (ao_eq (K := K) hr.units) (ae_v 3) (ae_str))
      (ass_one (as_ret (ae_not (K := K) (ae_call (K := K) (g := ⟨w, mg⟩) (hk := by first | exact Nat.le_refl _ | exact Nat.le_trans (by decide) (Nat.le_add_right 2 d)) c_law_holds hr hgd (aa_cons (ae_v 0) (aa_cons (ae_ix (K := K) (ae_v 1) (ae_int)) (aa_cons (ae_v 2) (aa_nil))))))))
      (ass_nil))
      (ass_cons (as_if (at_cmp ao_inL (ae_v 3) (ae_tup (aa_cons (ae_str) (aa_cons (ae_str) (aa_nil)))))
      (ass_cons (as_set 4 sc_law_holds.nd (ae_call (K := K) (g := ⟨w, mg⟩) (hk := by first | exact Nat.le_refl _ | exact Nat.le_trans (by decide) (Nat.le_add_right 2 d)) c_law_holds hr hgd (aa_cons (ae_v 0) (aa_cons (ae_ix (K := K) (ae_v 1) (ae_int)) (aa_cons (ae_v 2) (aa_nil))))) rfl (.inl rfl))
      (ass_cons (as_set 5 sc_law_holds.nd (ae_call (K := K) (g := ⟨w, mg⟩) (hk := by first | exact Nat.le_refl _ | exact Nat.le_trans (by decide) (Nat.le_add_right 2 d)) c_law_holds hr hgd (aa_cons (ae_v 0) (aa_cons (ae_ix (K := K) (ae_v 1) (ae_int)) (aa_cons (ae_v 2) (aa_nil))))) rfl (.inl rfl))
      (ass_one (as_ret (ae_ix (K := K) (ae_lst (aa_cons (ae_and (K := K) (ae_v 4) (ae_one (ae_v 5))) (aa_cons (ae_or (K := K) (ae_v 4) (ae_one (ae_v 5))) (aa_nil)))) (ae_callT ac_int m_int (by decide +kernel) (aa_cons (ae_cmp (ao_eq (K := K) hr.units) (ae_v 3) (ae_str)) (aa_nil))))))))
      (ass_nil))
      (ass_one (as_ret (ae_call (K := K) (g := ⟨w, mg⟩) (hk := by first | exact Nat.le_refl _ | exact Nat.le_trans (by decide) (Nat.le_add_right 2 d)) c_law_plain_holds hr hgd (aa_cons (ae_v 0) (aa_cons (ae_v 1) (aa_cons (ae_v 2) (aa_nil)))))))))⟩
abbrev st_law_undone : Stmt := topS 61
theorem sc_law_undone : FnScope ["_law_keeper", "_law_caught", "_law_told", "e"] ["_law_keeper"] (defScope st_law_undone) := ⟨rfl, rfl, rfl, by decide +kernel, rfl, by decide +kernel, by decide +kernel⟩
theorem ok_law_undone {P : Program} {w : World} {K : PySem.W.Frag} {mg : Str → Option Value} {base : Heap} {f : Addr} {fd : FuncData} (F : L2.Fun K "_law_undone" "_law_undone" st_law_undone f fd) (hm : mg "_law_undone" = some (.ref f)) (hb : Binds K fd ["_law_keeper"] []) (m_ValueError : mg "ValueError" = none) (m_int : mg "int" = none) (m_isinstance : mg "isinstance" = none) {C_WordError : Value} (h_WordError : mg "WordError" = some C_WordError) (sf : SubF K mg subE) {R_Elder : Addr} (q_Elder : mg "Elder" = some (.ref R_Elder)) {R_Near : Addr} (q_Near : mg "Near" = some (.ref R_Near)) {R_NoBack : Addr} (q_NoBack : mg "NoBack" = some (.ref R_NoBack)) {R_NoFit : Addr} (q_NoFit : mg "NoFit" = some (.ref R_NoFit)) {R_NoLine : Addr} (q_NoLine : mg "NoLine" = some (.ref R_NoLine)) {R_NoName : Addr} (q_NoName : mg "NoName" = some (.ref R_NoName)) {R_NoNumber : Addr} (q_NoNumber : mg "NoNumber" = some (.ref R_NoNumber)) {R_NoSentence : Addr} (q_NoSentence : mg "NoSentence" = some (.ref R_NoSentence)) {R_NoText : Addr} (q_NoText : mg "NoText" = some (.ref R_NoText)) {R_NoTongue : Addr} (q_NoTongue : mg "NoTongue" = some (.ref R_NoTongue)) {R_NoWord : Addr} (q_NoWord : mg "NoWord" = some (.ref R_NoWord)) {R_TooMany : Addr} (q_TooMany : mg "TooMany" = some (.ref R_TooMany)) {R_TooMuch : Addr} (q_TooMuch : mg "TooMuch" = some (.ref R_TooMuch)) (isf : IsF K mg isubE) (c_Keeper_undo : MetX P w K mg base 1 "Keeper" "undo" 1 s_Keeper_undo) : Cal P w K mg base 2 "_law_undone" 1 s_law_undone := by
  refine calA (b := a_law_undone) F sc_law_undone rfl hm hb ?_ (fun _ _ _ _ h => h)
  intro cdv A outer s H E hr hgd
  have hw : (Bs.nil ⟨w, mg⟩).g = ⟨w, mg⟩ := rfl
  exact ⟨_, ass_cons (as_set 1 sc_law_undone.nd (ae_non) rfl (.inl rfl))
      (ass_cons (as_set 2 sc_law_undone.nd (ae_non) rfl (.inl rfl))
      (ass_cons (as_tryA (sub := subE) sc_law_undone.nd rfl rfl takes_no wr_no sf hw (fun B' hw W Wk pn xe tk rel hp => ass_one (as_set 2 sc_law_undone.nd (ae_mthX0 (g := ⟨w, mg⟩) c_Keeper_undo hr hgd tk rel (ae_v 0)) rfl (.inl rfl))) (.cons h_WordError rfl (by decide) rfl rfl (fun B' hw a pn => ass_one (as_set 1 sc_law_undone.nd (ae_v 3) rfl (.inl rfl))) (.nil)))
      (ass_cons (as_if (at_cmp ao_is (ae_v 1) (ae_non))
      (ass_one (as_ret (ae_ix (K := K) (ae_lst (aa_cons (ae_non) (aa_cons (ae_bl) (aa_nil)))) (ae_callT ac_int m_int (by decide +kernel) (aa_cons (ae_cmp ao_is (ae_v 2) (ae_non)) (aa_nil))))))
      (ass_nil))
      (ass_cons (as_if (at_tru (K := K) (ae_isXT (ae_v 1) (.cons (ac_own q_Elder) (.cons (ac_own q_Near) (.cons (ac_own q_NoFit) (.cons (ac_own q_NoLine) (.cons (ac_own q_NoName) (.cons (ac_own q_NoNumber) (.cons (ac_own q_NoSentence) (.cons (ac_own q_NoText) (.cons (ac_own q_NoTongue) (.cons (ac_own q_NoWord) (.nil) rfl) rfl) rfl) rfl) rfl) rfl) rfl) rfl) rfl) rfl) (by decide) m_isinstance isf (by simp)))
      (ass_one (as_ret (ae_non)))
      (ass_nil))
      (ass_cons (as_if (aw_t (aw_or (at_tru (K := K) (ae_isXT (ae_v 1) (.cons (ac_own q_TooMany) (.cons (ac_own q_TooMuch) (.nil) rfl) rfl) (by decide) m_isinstance isf (by simp))) (aw_or (at_not (at_tru (K := K) (ae_isX (ae_v 1) (ac_own q_NoBack) m_isinstance isf))) (aw_or1 (at_not (at_tru (K := K) (ae_isX (ae_v 1) (ac_val m_ValueError) m_isinstance isf)))))))
      (ass_one (as_ret (ae_non)))
      (ass_nil))
      (ass_one (as_ret (ae_bl))))))))⟩
abbrev st_is_word : Stmt := topS 21
theorem sc_is_word : FnScope ["tongue", "thing"] ["tongue", "thing"] (defScope st_is_word) := ⟨rfl, rfl, rfl, by decide +kernel, rfl, by decide +kernel, by decide +kernel⟩
theorem ok_is_word {P : Program} {w : World} {K : PySem.W.Frag} {mg : Str → Option Value} {base : Heap} {f : Addr} {fd : FuncData} (F : L2.Fun K "is_word" "is_word" st_is_word f fd) (hm : mg "is_word" = some (.ref f)) (hb : Binds K fd ["tongue", "thing"] []) (m_isinstance : mg "isinstance" = none) (m_len : mg "len" = none) (m_str : mg "str" = none) (g_MOST_LONG : ∃ u, mg "MOST_LONG" = some u ∧ RelV (.int 60) u) (c_has_signs : Cal P w K mg base 2 "has_signs" 2 s_has_signs) : Cal P w K mg base 3 "is_word" 2 s_is_word := by
  refine calA (b := a_is_word) F sc_is_word rfl hm hb ?_ (fun _ _ _ _ h => h)
  intro cdv A outer s H E hr hgd
  have hw : (Bs.nil ⟨w, mg⟩).g = ⟨w, mg⟩ := rfl
  exact ⟨_, ass_one (as_ret (ae_and (K := K) (ae_isi (K := K) (ae_v 1) m_isinstance m_str (by decide +kernel)) (ae_and (K := K) (ae_cmp ao_le (ae_callB (ac_len (K := K)) m_len (by decide +kernel) (aa_cons (ae_v 1) (aa_nil))) (ae_gint g_MOST_LONG)) (ae_one (ae_call (K := K) (g := ⟨w, mg⟩) c_has_signs hr hgd (aa_cons (ae_v 0) (aa_cons (ae_v 1) (aa_nil))))))))⟩
abbrev st_is_piece : Stmt := topS 29
theorem sc_is_piece : FnScope ["tongue", "thing", "most"] ["tongue", "thing", "most"] (defScope st_is_piece) := ⟨rfl, rfl, rfl, by decide +kernel, rfl, by decide +kernel, by decide +kernel⟩
theorem ok_is_piece {P : Program} {w : World} {K : PySem.W.Frag} {mg : Str → Option Value} {base : Heap} {f : Addr} {fd : FuncData} (F : L2.Fun K "is_piece" "is_piece" st_is_piece f fd) (hm : mg "is_piece" = some (.ref f)) (hb : Binds K fd ["tongue", "thing", "most"] []) (m_isinstance : mg "isinstance" = none) (m_len : mg "len" = none) (m_str : mg "str" = none) (c_has_signs : Cal P w K mg base 2 "has_signs" 2 s_has_signs) : Cal P w K mg base 3 "is_piece" 3 s_is_piece := by
  refine calA (b := a_is_piece) F sc_is_piece rfl hm hb ?_ (fun _ _ _ _ h => h)
  intro cdv A outer s H E hr hgd
  have hw : (Bs.nil ⟨w, mg⟩).g = ⟨w, mg⟩ := rfl
  exact ⟨_, ass_one (as_ret (ae_and (K := K) (ae_isi (K := K) (ae_v 1) m_isinstance m_str (by decide +kernel)) (ae_and (K := K) (ae_chain ao_le ao_le (ae_int) (ae_callB (ac_len (K := K)) m_len (by decide +kernel) (aa_cons (ae_v 1) (aa_nil))) (ae_v 2)) (ae_one (ae_call (K := K) (g := ⟨w, mg⟩) c_has_signs hr hgd (aa_cons (ae_v 0) (aa_cons (ae_v 1) (aa_nil))))))))⟩
abbrev st_weight : Stmt := topS 38
theorem sc_weight : FnScope ["tongue", "sentence", "parts", "found", "part"] ["tongue", "sentence"] (defScope st_weight) := ⟨rfl, rfl, rfl, by decide +kernel, rfl, by decide +kernel, by decide +kernel⟩
theorem ok_weight {P : Program} {w : World} {K : PySem.W.Frag} {mg : Str → Option Value} {base : Heap} {f : Addr} {fd : FuncData} (F : L2.Fun K "weight" "weight" st_weight f fd) (hm : mg "weight" = some (.ref f)) (hb : Binds K fd ["tongue", "sentence"] []) (c_parts_of : Cal P w K mg base 1 "parts_of" 1 s_parts_of) (c_plain_weight : Cal P w K mg base 2 "plain_weight" 2 s_plain_weight) : ∀ d, Cal P w K mg base (3 + d) "weight" 2 (s_weight d)
  | 0 => by
    refine calA (b := aNoS) F sc_weight rfl hm hb ?_ (fun _ _ _ _ h => h.elim)
    intro cdv A outer s H E hr hgd
    exact ⟨_, ass_no⟩
  | d + 1 => by
    have c_weight := ok_weight (P := P) (w := w) (base := base) F hm hb c_parts_of c_plain_weight d
    refine calA (b := a_weight (s_weight d)) F sc_weight rfl hm hb ?_ (fun _ _ _ _ h => h)
    intro cdv A outer s H E hr hgd
    have hw : (Bs.nil ⟨w, mg⟩).g = ⟨w, mg⟩ := rfl
    exact ⟨_, ass_cons (as_set 2 sc_weight.nd (ae_call (K := K) (g := ⟨w, mg⟩) (hk := by first | exact Nat.le_refl _ | exact Nat.le_trans (by decide) (Nat.le_add_right 3 d)) c_parts_of hr hgd (aa_cons (ae_v 1) (aa_nil))) rfl (.inl rfl))
      (ass_cons (as_if (at_cmp (ao_eq (K := K) hr.units) (ae_v 2) (ae_lst (aa_nil)))
      (ass_one (as_ret (ae_call (K := K) (g := ⟨w, mg⟩) (hk := by first | exact Nat.le_refl _ | exact Nat.le_trans (by decide) (Nat.le_add_right 3 d)) c_plain_weight hr hgd (aa_cons (ae_v 0) (aa_cons (ae_v 1) (aa_nil))))))
      (ass_nil))
      (ass_cons (as_set 3 sc_weight.nd (ae_int) rfl (.inl rfl))
      (ass_cons (as_for (ai_list (K := K) (ae_v 2)) (ag_name 4 (vs := [4]) sc_weight.nd rfl (.inl rfl))
      (ass_one (as_set 3 sc_weight.nd (ae_op ao_mul (ae_v 3) (ae_call (K := K) (g := ⟨w, mg⟩) (hk := by first | exact Nat.le_refl _ | exact Nat.le_trans (by decide) (Nat.le_add_right 3 d)) c_weight hr hgd (aa_cons (ae_v 0) (aa_cons (ae_v 4) (aa_nil))))) rfl (.inl rfl))))
      (ass_one (as_ret (ae_v 3))))))⟩
abbrev st_law_plain : Stmt := topS 53
theorem sc_law_plain : FnScope ["_law_pen_here", "_law_tongue_here", "_law_great", "_law_kind", "_law_low", "_law_high", "_law_left", "_law_size", "_law_some", "_law_k"] ["_law_pen_here", "_law_tongue_here", "_law_great"] (defScope st_law_plain) := ⟨rfl, rfl, rfl, by decide +kernel, rfl, by decide +kernel, by decide +kernel⟩
theorem ok_law_plain {P : Program} {w : World} {K : PySem.W.Frag} {mg : Str → Option Value} {base : Heap} {f : Addr} {fd : FuncData} (F : L2.Fun K "_law_plain" "_law_plain" st_law_plain f fd) (hm : mg "_law_plain" = some (.ref f)) (hb : Binds K fd ["_law_pen_here", "_law_tongue_here", "_law_great"] []) (m_len : mg "len" = none) (m_list : mg "list" = none) (m_min : mg "min" = none) (m_range : mg "range" = none) (c_law_take : Cal P w K mg base 1 "_law_take" 2 s_law_take) (c_law_word : Cal P w K mg base 2 "_law_word" 3 s_law_word) : Cal P w K mg base 3 "_law_plain" 3 s_law_plain := by
  refine calA (b := a_law_plain) F sc_law_plain rfl hm hb ?_ (fun _ _ _ _ h => h)
  intro cdv A outer s H E hr hgd
  have hw : (Bs.nil ⟨w, mg⟩).g = ⟨w, mg⟩ := rfl
  exact ⟨_, ass_cons (as_set 3 sc_law_plain.nd (ae_call (K := K) (g := ⟨w, mg⟩) c_law_take hr hgd (aa_cons (ae_v 0) (aa_cons (ae_int) (aa_nil)))) rfl (.inl rfl))
      (ass_cons (as_if (at_cmp (ao_eq (K := K) hr.units) (ae_v 3) (ae_int))
      (ass_cons (as_set 4 sc_law_plain.nd (ae_call (K := K) (g := ⟨w, mg⟩) c_law_take hr hgd (aa_cons (ae_v 0) (aa_cons (ae_ix (K := K) (ae_lst (aa_cons (ae_int) (aa_cons (ae_int) (aa_nil)))) (ae_v 2)) (aa_nil)))) rfl (.inl rfl))
      (ass_cons (as_set 5 sc_law_plain.nd (ae_callB ac_min2 m_min (by decide +kernel) (aa_cons (ae_int) (aa_cons (ae_op (ao_add (K := K)) (ae_v 4) (ae_call (K := K) (g := ⟨w, mg⟩) c_law_take hr hgd (aa_cons (ae_v 0) (aa_cons (ae_ix (K := K) (ae_lst (aa_cons (ae_int) (aa_cons (ae_op ao_sub (ae_int) (ae_v 4)) (aa_nil)))) (ae_v 2)) (aa_nil))))) (aa_nil)))) rfl (.inl rfl))
      (ass_one (as_ret (ae_tup (aa_cons (ae_str) (aa_cons (ae_v 4) (aa_cons (ae_ix (K := K) (ae_lst (aa_cons (ae_v 5) (aa_cons (ae_non) (aa_cons (ae_v 4) (aa_cons (ae_v 5) (aa_nil)))))) (ae_call (K := K) (g := ⟨w, mg⟩) c_law_take hr hgd (aa_cons (ae_v 0) (aa_cons (ae_int) (aa_nil))))) (aa_nil)))))))))
      (ass_nil))
      (ass_cons (as_if (at_cmp (ao_eq (K := K) hr.units) (ae_v 3) (ae_int))
      (ass_one (as_ret (ae_tup (aa_cons (ae_str) (aa_cons (ae_call (K := K) (g := ⟨w, mg⟩) c_law_take hr hgd (aa_cons (ae_v 0) (aa_cons (ae_callB (ac_len (K := K)) m_len (by decide +kernel) (aa_cons (ae_v 1) (aa_nil))) (aa_nil)))) (aa_cons (ae_call (K := K) (g := ⟨w, mg⟩) c_law_take hr hgd (aa_cons (ae_v 0) (aa_cons (ae_ix (K := K) (ae_lst (aa_cons (ae_int) (aa_cons (ae_int) (aa_nil)))) (ae_v 2)) (aa_nil)))) (aa_nil)))))))
      (ass_nil))
      (ass_cons (as_if (at_cmp (ao_eq (K := K) hr.units) (ae_v 3) (ae_int))
      (ass_cons (as_set 6 sc_law_plain.nd (ae_callT ac_listSM m_list (by decide +kernel) (aa_cons (ae_meth (K := K) PySem.F.plainAttrs_str PySem.F.slot_str_join PySem.F.type_str_join (am_join (K := K)) (ae_str) (aa_cons (ae_v 1) (aa_nil))) (aa_nil))) rfl (.inr rfl))
      (ass_cons (as_set 7 sc_law_plain.nd (ae_op (ao_add (K := K)) (ae_int) (ae_call (K := K) (g := ⟨w, mg⟩) c_law_take hr hgd (aa_cons (ae_v 0) (aa_cons (ae_callB ac_min2 m_min (by decide +kernel) (aa_cons (ae_ix (K := K) (ae_lst (aa_cons (ae_int) (aa_cons (ae_int) (aa_nil)))) (ae_v 2)) (aa_cons (ae_callB (ac_len (K := K)) m_len (by decide +kernel) (aa_cons (ae_v 6) (aa_nil))) (aa_nil)))) (aa_nil))))) rfl (.inl rfl))
      (ass_cons (as_set 8 sc_law_plain.nd (ae_meth (K := K) PySem.F.plainAttrs_str PySem.F.slot_str_join PySem.F.type_str_join (am_join (K := K)) (ae_str) (aa_cons (ae_lc [("_law_k", 9)] sc_law_plain.nd (ai_range1 m_range (aa_cons (ae_v 7) (aa_nil))) (blkOk_by (own := [("_law_k", 9)]) (N := ["_law_pen_here", "_law_tongue_here", "_law_great", "_law_kind", "_law_low", "_law_high", "_law_left", "_law_size", "_law_some", "_law_k"]) (sc := defScope st_law_plain) (by decide +kernel)) (fun _ _ _ _ _ => ag_name 9 (vs := [9]) sc_law_plain.nd rfl (.inl rfl)) (fun _ _ _ _ _ => ats_nil) (fun _ _ _ _ _ => ae_meth (K := K) PySem.F.plainAttrs_list PySem.F.slot_list_pop PySem.F.type_list_pop am_popAt (ae_v 6) (aa_cons (ae_call (K := K) (g := ⟨w, mg⟩) c_law_take hr hgd (aa_cons (ae_v 0) (aa_cons (ae_callB (ac_len (K := K)) m_len (by decide +kernel) (aa_cons (ae_v 6) (aa_nil))) (aa_nil)))) (aa_nil)))) (aa_nil))) rfl (.inl rfl))
      (ass_one (as_ret (ae_tup (aa_cons (ae_str) (aa_cons (ae_v 8) (aa_cons (ae_call (K := K) (g := ⟨w, mg⟩) c_law_take hr hgd (aa_cons (ae_v 0) (aa_cons (ae_ix (K := K) (ae_lst (aa_cons (ae_int) (aa_cons (ae_int) (aa_nil)))) (ae_v 2)) (aa_nil)))) (aa_nil))))))))))
      (ass_nil))
      (ass_cons (as_if (at_cmp (ao_eq (K := K) hr.units) (ae_v 3) (ae_int))
      (ass_one (as_ret (ae_tup (aa_cons (ae_str) (aa_nil)))))
      (ass_nil))
      (ass_one (as_ret (ae_tup (aa_cons (ae_ix (K := K) (ae_lst (aa_cons (ae_str) (aa_cons (ae_str) (aa_cons (ae_str) (aa_nil))))) (ae_op ao_sub (ae_v 3) (ae_int))) (aa_cons (ae_call (K := K) (g := ⟨w, mg⟩) c_law_word hr hgd (aa_cons (ae_v 0) (aa_cons (ae_v 1) (aa_cons (ae_op (ao_add (K := K)) (ae_int) (ae_call (K := K) (g := ⟨w, mg⟩) c_law_take hr hgd (aa_cons (ae_v 0) (aa_cons (ae_ix (K := K) (ae_lst (aa_cons (ae_int) (aa_cons (ae_int) (aa_nil)))) (ae_v 2)) (aa_nil))))) (aa_nil))))) (aa_nil))))))))))⟩
abbrev st_law_thing : Stmt := topS 59
theorem sc_law_thing : FnScope ["_law_pen_here", "_law_tongue_here", "_law_words", "_law_signs_here", "_law_way", "_law_last", "_law_strange", "_law_odd", "_law_some", "_law_text", "_law_k", "_law_sign"] ["_law_pen_here", "_law_tongue_here", "_law_words"] (defScope st_law_thing) := ⟨rfl, rfl, rfl, by decide +kernel, rfl, by decide +kernel, by decide +kernel⟩
theorem ok_law_thing {P : Program} {w : World} {K : PySem.W.Frag} {mg : Str → Option Value} {base : Heap} {f : Addr} {fd : FuncData} (F : L2.Fun K "_law_thing" "_law_thing" st_law_thing f fd) (hm : mg "_law_thing" = some (.ref f)) (hb : Binds K fd ["_law_pen_here", "_law_tongue_here", "_law_words"] []) (m_int : mg "int" = none) (m_len : mg "len" = none) (m_list : mg "list" = none) (m_min : mg "min" = none) (m_range : mg "range" = none) (c_law_take : Cal P w K mg base 1 "_law_take" 2 s_law_take) (c_law_signs : Cal P w K mg base 1 "_law_signs" 0 s_law_signs) (c_law_word : Cal P w K mg base 2 "_law_word" 3 s_law_word) : Cal P w K mg base 3 "_law_thing" 3 s_law_thing := by
  refine calA (b := a_law_thing) F sc_law_thing rfl hm hb ?_ (fun _ _ _ _ h => h)
  intro cdv A outer s H E hr hgd
  have hw : (Bs.nil ⟨w, mg⟩).g = ⟨w, mg⟩ := rfl
  exact ⟨_, ass_cons (as_set 3 sc_law_thing.nd (ae_meth (K := K) PySem.F.plainAttrs_str PySem.F.slot_str_join PySem.F.type_str_join (am_join (K := K)) (ae_str) (aa_cons (ae_v 1) (aa_nil))) rfl (.inr rfl))
      (ass_cons (as_set 4 sc_law_thing.nd (ae_call (K := K) (g := ⟨w, mg⟩) c_law_take hr hgd (aa_cons (ae_v 0) (aa_cons (ae_int) (aa_nil)))) rfl (.inl rfl))
      (ass_cons (as_set 5 sc_law_thing.nd (ae_ix (K := K) (ae_or (K := K) (ae_v 2) (ae_one (ae_lst (aa_cons (ae_str) (aa_nil))))) (ae_neg (ae_int))) rfl (.inl rfl))
      (ass_cons (as_if (at_cmp (ao_eq (K := K) hr.units) (ae_v 4) (ae_int))
      (ass_cons (as_setLc 6 [("_law_sign", 11)] sc_law_thing.nd (ai_str (ae_op (ao_add (K := K)) (ae_call0 (K := K) (g := ⟨w, mg⟩) c_law_signs hr hgd) (ae_str))) (sw_true rfl rfl rfl (by decide +kernel)) (blkOk_by (own := [("_law_sign", 11)]) (N := ["_law_pen_here", "_law_tongue_here", "_law_words", "_law_signs_here", "_law_way", "_law_last", "_law_strange", "_law_odd", "_law_some", "_law_text", "_law_k", "_law_sign"]) (sc := defScope st_law_thing) (by decide +kernel)) (fun _ _ _ _ _ => ag_name 11 (vs := [11]) sc_law_thing.nd rfl (.inl rfl)) (fun _ _ _ _ _ => ats_one (at_cmp ao_ninS (ae_v 11) (ae_v 3))) (fun _ _ _ _ _ => ae_v 11))
      (ass_cons (as_set 7 sc_law_thing.nd (ae_op (ao_add (K := K)) (ae_v 5) (ae_ix (K := K) (ae_v 6) (ae_call (K := K) (g := ⟨w, mg⟩) c_law_take hr hgd (aa_cons (ae_v 0) (aa_cons (ae_callB (ac_len (K := K)) m_len (by decide +kernel) (aa_cons (ae_v 6) (aa_nil))) (aa_nil)))))) rfl (.inl rfl))
      (ass_cons (as_set 8 sc_law_thing.nd (ae_lst (aa_cons (ae_non) (aa_cons (ae_int) (aa_cons (ae_bl) (aa_cons (ae_lst (aa_nil)) (aa_cons (ae_lst (aa_cons (ae_v 5) (aa_nil))) (aa_cons (ae_tup (aa_cons (ae_v 5) (aa_nil))) (aa_cons (ae_dict0F) (aa_cons (ae_v 7) (aa_cons (ae_revS (ae_v 7)) (aa_cons (ae_op ao_mulS (ae_ix (K := K) (ae_v 3) (ae_int)) (ae_int)) (aa_cons (ae_op ao_mulS (ae_ix (K := K) (ae_v 3) (ae_neg (ae_int))) (ae_int)) (aa_cons (ae_op ao_mulS (ae_v 7) (ae_int)) (aa_nil)))))))))))))) rfl (.inl rfl))
      (ass_one (as_ret (ae_ix (K := K) (ae_v 8) (ae_call (K := K) (g := ⟨w, mg⟩) c_law_take hr hgd (aa_cons (ae_v 0) (aa_cons (ae_callB (ac_len (K := K)) m_len (by decide +kernel) (aa_cons (ae_v 8) (aa_nil))) (aa_nil))))))))))
      (ass_nil))
      (ass_cons (as_if (aw_t (aw_and (at_cmp (ao_eq (K := K) hr.units) (ae_v 4) (ae_int)) (aw_and1 (at_cmp (ao_neNil (K := K) hr.units) (ae_v 2) (ae_lst (aa_nil))))))
      (ass_one (as_ret (ae_ix (K := K) (ae_v 2) (ae_op ao_sub (ae_neg (ae_int)) (ae_call (K := K) (g := ⟨w, mg⟩) c_law_take hr hgd (aa_cons (ae_v 0) (aa_cons (ae_callB ac_min2 m_min (by decide +kernel) (aa_cons (ae_int) (aa_cons (ae_callB (ac_len (K := K)) m_len (by decide +kernel) (aa_cons (ae_v 2) (aa_nil))) (aa_nil)))) (aa_nil))))))))
      (ass_nil))
      (ass_cons (as_if (at_cmp ao_lt (ae_v 4) (ae_int))
      (ass_cons (as_set 9 sc_law_thing.nd (ae_callT ac_listSM m_list (by decide +kernel) (aa_cons (ae_v 5) (aa_nil))) rfl (.inl rfl))
      (ass_cons (as_for (ai_range1 m_range (aa_cons (ae_op ao_mul (ae_call (K := K) (g := ⟨w, mg⟩) c_law_take hr hgd (aa_cons (ae_v 0) (aa_cons (ae_int) (aa_nil)))) (ae_callT ac_int m_int (by decide +kernel) (aa_cons (ae_cmp (ao_neNil (K := K) hr.units) (ae_v 9) (ae_lst (aa_nil))) (aa_nil)))) (aa_nil))) (ag_name 10 (vs := [10]) sc_law_thing.nd rfl (.inl rfl))
      (ass_one (as_setL (ae_ix (K := K) (ae_v 3) (ae_call (K := K) (g := ⟨w, mg⟩) c_law_take hr hgd (aa_cons (ae_v 0) (aa_cons (ae_callB (ac_len (K := K)) m_len (by decide +kernel) (aa_cons (ae_v 3) (aa_nil))) (aa_nil))))) (ae_v 9) (ae_call (K := K) (g := ⟨w, mg⟩) c_law_take hr hgd (aa_cons (ae_v 0) (aa_cons (ae_callB (ac_len (K := K)) m_len (by decide +kernel) (aa_cons (ae_v 9) (aa_nil))) (aa_nil)))))))
      (ass_frz 9 (ass_one (as_ret (ae_meth (K := K) PySem.F.plainAttrs_str PySem.F.slot_str_join PySem.F.type_str_join (am_join (K := K)) (ae_str) (aa_cons (ae_v 9) (aa_nil))))))))
      (ass_nil))
      (ass_cons (as_if (at_cmp (ao_eq (K := K) hr.units) (ae_v 4) (ae_int))
      (ass_one (as_ret (ae_ix (K := K) (ae_lst (aa_cons (ae_cut (K := K) (ae_v 5) (ao_some (ae_int)) ao_none) (aa_cons (ae_op (ao_add (K := K)) (ae_v 5) (ae_ix (K := K) (ae_v 3) (ae_call (K := K) (g := ⟨w, mg⟩) c_law_take hr hgd (aa_cons (ae_v 0) (aa_cons (ae_callB (ac_len (K := K)) m_len (by decide +kernel) (aa_cons (ae_v 3) (aa_nil))) (aa_nil)))))) (aa_cons (ae_cut (K := K) (ae_v 5) ao_none (ao_some (ae_neg (ae_int)))) (aa_nil))))) (ae_call (K := K) (g := ⟨w, mg⟩) c_law_take hr hgd (aa_cons (ae_v 0) (aa_cons (ae_int) (aa_nil)))))))
      (ass_nil))
      (ass_one (as_ret (ae_call (K := K) (g := ⟨w, mg⟩) c_law_word hr hgd (aa_cons (ae_v 0) (aa_cons (ae_v 1) (aa_cons (ae_call (K := K) (g := ⟨w, mg⟩) c_law_take hr hgd (aa_cons (ae_v 0) (aa_cons (ae_ix (K := K) (ae_lst (aa_cons (ae_int) (aa_cons (ae_int) (aa_cons (ae_int) (aa_cons (ae_int) (aa_nil)))))) (ae_call (K := K) (g := ⟨w, mg⟩) c_law_take hr hgd (aa_cons (ae_v 0) (aa_cons (ae_int) (aa_nil))))) (aa_nil)))) (aa_nil)))))))))))))⟩
abbrev st_fits : Stmt := topS 30
theorem sc_fits : FnScope ["tongue", "thing", "word"] ["tongue", "thing"] (defScope st_fits) := ⟨rfl, rfl, rfl, by decide +kernel, rfl, by decide +kernel, by decide +kernel⟩
theorem ok_fits {P : Program} {w : World} {K : PySem.W.Frag} {mg : Str → Option Value} {base : Heap} {f : Addr} {fd : FuncData} (F : L2.Fun K "fits" "fits" st_fits f fd) (hm : mg "fits" = some (.ref f)) (hb : Binds K fd ["tongue", "thing"] []) (m_len : mg "len" = none) (m_set : mg "set" = none) (g_MOST_LOW : ∃ u, mg "MOST_LOW" = some u ∧ RelV (.int 30) u) (g_MOST_PIECE : ∃ u, mg "MOST_PIECE" = some u ∧ RelV (.int 6) u) (c_is_within : Cal P w K mg base 2 "is_within" 3 s_is_within) (c_is_piece : Cal P w K mg base 3 "is_piece" 3 s_is_piece) : Cal P w K mg base 4 "fits" 2 s_fits := by
  refine calA (b := a_fits) F sc_fits rfl hm hb ?_ (fun _ _ _ _ h => h)
  intro cdv A outer s H E hr hgd
  have hw : (Bs.nil ⟨w, mg⟩).g = ⟨w, mg⟩ := rfl
  exact ⟨_, ass_cons (as_set 2 sc_fits.nd (ae_ix (K := K) (ae_v 1) (ae_int)) rfl (.inl rfl))
      (ass_cons (as_if (at_cmp (ao_eq (K := K) hr.units) (ae_v 2) (ae_str))
      (ass_cons (as_if (at_not (at_tru (K := K) (ae_call (K := K) (g := ⟨w, mg⟩) c_is_within hr hgd (aa_cons (ae_ix (K := K) (ae_v 1) (ae_int)) (aa_cons (ae_int) (aa_cons (ae_gint g_MOST_LOW) (aa_nil)))))))
      (ass_one (as_ret (ae_bl)))
      (ass_nil))
      (ass_one (as_ret (ae_or (K := K) (ae_cmp ao_is (ae_ix (K := K) (ae_v 1) (ae_int)) (ae_non)) (ae_one (ae_call (K := K) (g := ⟨w, mg⟩) c_is_within hr hgd (aa_cons (ae_ix (K := K) (ae_v 1) (ae_int)) (aa_cons (ae_ix (K := K) (ae_v 1) (ae_int)) (aa_cons (ae_gint g_MOST_LOW) (aa_nil))))))))))
      (ass_nil))
      (ass_cons (as_if (at_cmp (ao_eq (K := K) hr.units) (ae_v 2) (ae_str))
      (ass_one (as_ret (ae_and (K := K) (ae_call (K := K) (g := ⟨w, mg⟩) c_is_within hr hgd (aa_cons (ae_ix (K := K) (ae_v 1) (ae_int)) (aa_cons (ae_int) (aa_cons (ae_op ao_sub (ae_callB (ac_len (K := K)) m_len (by decide +kernel) (aa_cons (ae_v 0) (aa_nil))) (ae_int)) (aa_nil))))) (ae_one (ae_call (K := K) (g := ⟨w, mg⟩) c_is_within hr hgd (aa_cons (ae_ix (K := K) (ae_v 1) (ae_int)) (aa_cons (ae_int) (aa_cons (ae_int) (aa_nil)))))))))
      (ass_nil))
      (ass_cons (as_if (at_cmp (ao_eq (K := K) hr.units) (ae_v 2) (ae_str))
      (ass_cons (as_if (aw_t (aw_or (at_not (at_tru (K := K) (ae_call (K := K) (g := ⟨w, mg⟩) c_is_piece hr hgd (aa_cons (ae_v 0) (aa_cons (ae_ix (K := K) (ae_v 1) (ae_int)) (aa_cons (ae_int) (aa_nil))))))) (aw_or1 (at_not (at_tru (K := K) (ae_call (K := K) (g := ⟨w, mg⟩) c_is_within hr hgd (aa_cons (ae_ix (K := K) (ae_v 1) (ae_int)) (aa_cons (ae_int) (aa_cons (ae_int) (aa_nil))))))))))
      (ass_one (as_ret (ae_bl)))
      (ass_nil))
      (ass_one (as_ret (ae_cmp (ao_eq (K := K) hr.units) (ae_lenSetT m_len m_set (ae_ix (K := K) (ae_v 1) (ae_int))) (ae_callB (ac_len (K := K)) m_len (by decide +kernel) (aa_cons (ae_ix (K := K) (ae_v 1) (ae_int)) (aa_nil)))))))
      (ass_nil))
      (ass_cons (as_if (at_cmp ao_inL (ae_v 2) (ae_tup (aa_cons (ae_str) (aa_cons (ae_str) (aa_cons (ae_str) (aa_nil))))))
      (ass_one (as_ret (ae_call (K := K) (g := ⟨w, mg⟩) c_is_piece hr hgd (aa_cons (ae_v 0) (aa_cons (ae_ix (K := K) (ae_v 1) (ae_int)) (aa_cons (ae_gint g_MOST_PIECE) (aa_nil)))))))
      (ass_nil))
      (ass_one (as_ret (ae_bl)))))))⟩
abbrev st_law_sentence : Stmt := topS 54
theorem sc_law_sentence : FnScope ["_law_pen_here", "_law_tongue_here", "_law_great", "_law_deep", "_law_room", "_law_way", "_law_one"] ["_law_pen_here", "_law_tongue_here", "_law_great", "_law_deep", "_law_room"] (defScope st_law_sentence) := ⟨rfl, rfl, rfl, by decide +kernel, rfl, by decide +kernel, by decide +kernel⟩
theorem ok_law_sentence {P : Program} {w : World} {K : PySem.W.Frag} {mg : Str → Option Value} {base : Heap} {f : Addr} {fd : FuncData} (F : L2.Fun K "_law_sentence" "_law_sentence" st_law_sentence f fd) (hm : mg "_law_sentence" = some (.ref f)) (hb : Binds K fd ["_law_pen_here", "_law_tongue_here", "_law_great", "_law_deep", "_law_room"] []) (c_law_take : Cal P w K mg base 1 "_law_take" 2 s_law_take) (c_law_plain : Cal P w K mg base 3 "_law_plain" 3 s_law_plain) : ∀ d, Cal P w K mg base (4 + d) "_law_sentence" 5 (s_law_sentence d)
  | 0 => by
    refine calA (b := aNoS) F sc_law_sentence rfl hm hb ?_ (fun _ _ _ _ h => h.elim)
    intro cdv A outer s H E hr hgd
    exact ⟨_, ass_no⟩
  | d + 1 => by
    have c_law_sentence := ok_law_sentence (P := P) (w := w) (base := base) F hm hb c_law_take c_law_plain d
    refine calA (b := a_law_sentence (s_law_sentence d)) F sc_law_sentence rfl hm hb ?_ (fun _ _ _ _ h => h)
    intro cdv A outer s H E hr hgd
    have hw : (Bs.nil ⟨w, mg⟩).g = ⟨w, mg⟩ := rfl
    exact ⟨_, ass_cons (as_setL (ae_op ao_sub (ae_ix (K := K) (ae_v 4) (ae_int)) (ae_int)) (ae_v 4) (ae_int))
      (ass_cons (as_set 5 sc_law_sentence.nd (ae_call (K := K) (g := ⟨w, mg⟩) (hk := by first | exact Nat.le_refl _ | exact Nat.le_trans (by decide) (Nat.le_add_right 4 d)) c_law_take hr hgd (aa_cons (ae_v 0) (aa_cons (ae_int) (aa_nil)))) rfl (.inl rfl))
      (ass_cons (as_if (aw_t (aw_and (at_cmp (ao_eq (K := K) hr.units) (ae_v 5) (ae_int)) (aw_and (at_cmp ao_gt (ae_v 3) (ae_int)) (aw_and1 (at_cmp ao_gt (ae_ix (K := K) (ae_v 4) (ae_int)) (ae_int))))))
      (ass_one (as_ret (ae_tup (aa_cons (ae_str) (aa_cons (ae_call (K := K) (g := ⟨w, mg⟩) (hk := by first | exact Nat.le_refl _ | exact Nat.le_trans (by decide) (Nat.le_add_right 4 d)) c_law_sentence hr hgd (aa_cons (ae_v 0) (aa_cons (ae_v 1) (aa_cons (ae_v 2) (aa_cons (ae_op ao_sub (ae_v 3) (ae_int)) (aa_cons (ae_v 4) (aa_nil))))))) (aa_nil))))))
      (ass_nil))
      (ass_cons (as_if (aw_t (aw_and (at_cmp ao_inL (ae_v 5) (ae_tup (aa_cons (ae_int) (aa_cons (ae_int) (aa_nil))))) (aw_and (at_cmp ao_gt (ae_v 3) (ae_int)) (aw_and1 (at_cmp ao_gt (ae_ix (K := K) (ae_v 4) (ae_int)) (ae_int))))))
      (ass_cons (as_setL (ae_op ao_sub (ae_ix (K := K) (ae_v 4) (ae_int)) (ae_int)) (ae_v 4) (ae_int))
      (ass_cons (as_set 6 sc_law_sentence.nd (ae_call (K := K) (g := ⟨w, mg⟩) (hk := by first | exact Nat.le_refl _ | exact Nat.le_trans (by decide) (Nat.le_add_right 4 d)) c_law_sentence hr hgd (aa_cons (ae_v 0) (aa_cons (ae_v 1) (aa_cons (ae_v 2) (aa_cons (ae_op ao_sub (ae_v 3) (ae_int)) (aa_cons (ae_v 4) (aa_nil))))))) rfl (.inl rfl))
      (ass_cons (as_setL (ae_op (ao_add (K := K)) (ae_ix (K := K) (ae_v 4) (ae_int)) (ae_int)) (ae_v 4) (ae_int))
      (ass_one (as_ret (ae_tup (aa_cons (ae_ix (K := K) (ae_lst (aa_cons (ae_str) (aa_cons (ae_str) (aa_nil)))) (ae_op ao_sub (ae_v 5) (ae_int))) (aa_cons (ae_v 6) (aa_cons (ae_call (K := K) (g := ⟨w, mg⟩) (hk := by first | exact Nat.le_refl _ | exact Nat.le_trans (by decide) (Nat.le_add_right 4 d)) c_law_sentence hr hgd (aa_cons (ae_v 0) (aa_cons (ae_v 1) (aa_cons (ae_v 2) (aa_cons (ae_op ao_sub (ae_v 3) (ae_int)) (aa_cons (ae_v 4) (aa_nil))))))) (aa_nil))))))))))
      (ass_nil))
      (ass_one (as_ret (ae_call (K := K) (g := ⟨w, mg⟩) (hk := by first | exact Nat.le_refl _ | exact Nat.le_trans (by decide) (Nat.le_add_right 4 d)) c_law_plain hr hgd (aa_cons (ae_v 0) (aa_cons (ae_v 1) (aa_cons (ae_v 2) (aa_nil))))))))))⟩
abbrev st_is_formed : Stmt := topS 31
theorem sc_is_formed : FnScope ["tongue", "thing"] ["tongue", "thing"] (defScope st_is_formed) := ⟨rfl, rfl, rfl, by decide +kernel, rfl, by decide +kernel, by decide +kernel⟩
theorem ok_is_formed {P : Program} {w : World} {K : PySem.W.Frag} {mg : Str → Option Value} {base : Heap} {f : Addr} {fd : FuncData} (F : L2.Fun K "is_formed" "is_formed" st_is_formed f fd) (hm : mg "is_formed" = some (.ref f)) (hb : Binds K fd ["tongue", "thing"] []) (m_isinstance : mg "isinstance" = none) (m_len : mg "len" = none) (m_str : mg "str" = none) (m_tuple : mg "tuple" = none) {d_LENGTHS : Addr} (g_LENGTHS : KTab K w.params d_LENGTHS tab_LENGTHS ∧ mg "LENGTHS" = some (.ref d_LENGTHS)) (c_fits : Cal P w K mg base 4 "fits" 2 s_fits) : Cal P w K mg base 5 "is_formed" 2 s_is_formed := by
  refine calA (b := a_is_formed) F sc_is_formed rfl hm hb ?_ (fun _ _ _ _ h => h)
  intro cdv A outer s H E hr hgd
  have hw : (Bs.nil ⟨w, mg⟩).g = ⟨w, mg⟩ := rfl
  exact ⟨_, ass_cons (as_if (aw_t (aw_or (at_not (at_tru (K := K) (ae_isi (K := K) (ae_v 1) m_isinstance m_tuple (by decide +kernel)))) (aw_or (at_cmp (ao_eq (K := K) hr.units) (ae_callB (ac_len (K := K)) m_len (by decide +kernel) (aa_cons (ae_v 1) (aa_nil))) (ae_int)) (aw_or1 (at_not (at_tru (K := K) (ae_isi (K := K) (ae_ix (K := K) (ae_v 1) (ae_int)) m_isinstance m_str (by decide +kernel))))))))
      (ass_one (as_ret (ae_bl)))
      (ass_nil))
      (ass_one (as_ret (ae_and (K := K) (ae_inTab (ae_ix (K := K) (ae_v 1) (ae_int)) g_LENGTHS.1 g_LENGTHS.2) (ae_and (K := K) (ae_cmp (ao_eq (K := K) hr.units) (ae_callB (ac_len (K := K)) m_len (by decide +kernel) (aa_cons (ae_v 1) (aa_nil))) (ae_ixTab (ae_ix (K := K) (ae_v 1) (ae_int)) g_LENGTHS.1 g_LENGTHS.2)) (ae_one (ae_call (K := K) (g := ⟨w, mg⟩) c_fits hr hgd (aa_cons (ae_v 0) (aa_cons (ae_v 1) (aa_nil)))))))))⟩
abbrev st_is_sentence : Stmt := topS 33
theorem sc_is_sentence : FnScope ["tongue", "thing", "layer", "many", "deep", "one", "further"] ["tongue", "thing"] (defScope st_is_sentence) := ⟨rfl, rfl, rfl, by decide +kernel, rfl, by decide +kernel, by decide +kernel⟩
theorem ok_is_sentence {P : Program} {w : World} {K : PySem.W.Frag} {mg : Str → Option Value} {base : Heap} {f : Addr} {fd : FuncData} (F : L2.Fun K "is_sentence" "is_sentence" st_is_sentence f fd) (hm : mg "is_sentence" = some (.ref f)) (hb : Binds K fd ["tongue", "thing"] []) (m_all : mg "all" = none) (m_len : mg "len" = none) (m_range : mg "range" = none) (g_MOST_DEEP : ∃ u, mg "MOST_DEEP" = some u ∧ RelV (.int 4) u) (g_MOST_PARTS : ∃ u, mg "MOST_PARTS" = some u ∧ RelV (.int 9) u) (c_parts_of : Cal P w K mg base 1 "parts_of" 1 s_parts_of) (c_is_formed : Cal P w K mg base 5 "is_formed" 2 s_is_formed) : Cal P w K mg base 6 "is_sentence" 2 s_is_sentence := by
  refine calA (b := a_is_sentence) F sc_is_sentence rfl hm hb ?_ (fun _ _ _ _ h => h)
  intro cdv A outer s H E hr hgd
  have hw : (Bs.nil ⟨w, mg⟩).g = ⟨w, mg⟩ := rfl
  exact ⟨_, ass_cons (as_set 2 sc_is_sentence.nd (ae_lst (aa_cons (ae_v 1) (aa_nil))) rfl (.inl rfl))
      (ass_cons (as_set 3 sc_is_sentence.nd (ae_int) rfl (.inl rfl))
      (ass_cons (as_for (ai_range1 m_range (aa_cons (ae_gint g_MOST_DEEP) (aa_nil))) (ag_name 4 (vs := [4]) sc_is_sentence.nd rfl (.inl rfl))
      (ass_cons (as_set 3 sc_is_sentence.nd (ae_op (ao_add (K := K)) (ae_v 3) (ae_callB (ac_len (K := K)) m_len (by decide +kernel) (aa_cons (ae_v 2) (aa_nil)))) rfl (.inl rfl))
      (ass_cons (as_if (aw_t (aw_or (at_cmp ao_gt (ae_v 3) (ae_gint g_MOST_PARTS)) (aw_or1 (at_not (at_tru (K := K) (ae_callB (ac_all (K := K)) m_all (by decide +kernel) (aa_cons (ae_lc [("one", 5)] sc_is_sentence.nd (ai_list (K := K) (ae_v 2)) (blkOk_by (own := [("one", 5)]) (N := ["tongue", "thing", "layer", "many", "deep", "one", "further"]) (sc := defScope st_is_sentence) (by decide +kernel)) (fun _ _ _ _ _ => ag_name 5 (vs := [5]) sc_is_sentence.nd rfl (.inl rfl)) (fun _ _ _ _ _ => ats_nil) (fun _ _ _ _ _ => ae_call (K := K) (g := ⟨w, mg⟩) c_is_formed hr hgd (aa_cons (ae_v 0) (aa_cons (ae_v 5) (aa_nil))))) (aa_nil))))))))
      (ass_one (as_ret (ae_bl)))
      (ass_nil))
      (ass_cons (as_set 6 sc_is_sentence.nd (ae_lstM (aa_nil)) rfl (.inl rfl))
      (ass_cons (as_for (ai_list (K := K) (ae_v 2)) (ag_name 5 (vs := [5]) sc_is_sentence.nd rfl (.inl rfl))
      (ass_one (as_expr (ae_meth (K := K) PySem.F.plainAttrs_list PySem.F.slot_list_extend PySem.F.type_list_extend am_extend (ae_v 6) (aa_cons (ae_call (K := K) (g := ⟨w, mg⟩) c_parts_of hr hgd (aa_cons (ae_v 5) (aa_nil))) (aa_nil))))))
      (ass_frz 6 (ass_one (as_set 2 sc_is_sentence.nd (ae_v 6) rfl (.inl rfl)))))))))
      (ass_one (as_ret (ae_cmp (ao_eq (K := K) hr.units) (ae_v 2) (ae_lst (aa_nil)))))))⟩
abbrev st_law_fine : Stmt := topS 63
theorem sc_law_fine : FnScope ["_law_tongue_here", "_law_sentences", "_law_heavy", "_law_one"] ["_law_tongue_here", "_law_sentences"] (defScope st_law_fine) := ⟨rfl, rfl, rfl, by decide +kernel, rfl, by decide +kernel, by decide +kernel⟩
theorem ok_law_fine {P : Program} {w : World} {K : PySem.W.Frag} {mg : Str → Option Value} {base : Heap} {f : Addr} {fd : FuncData} (F : L2.Fun K "_law_fine" "_law_fine" st_law_fine f fd) (hm : mg "_law_fine" = some (.ref f)) (hb : Binds K fd ["_law_tongue_here", "_law_sentences"] []) (m_len : mg "len" = none) (c_law_weight : Cal P w K mg base 9 "_law_weight" 2 (s_law_weight 8)) : Cal P w K mg base 10 "_law_fine" 2 s_law_fine := by
  refine calA (b := a_law_fine) F sc_law_fine rfl hm hb ?_ (fun _ _ _ _ h => h)
  intro cdv A outer s H E hr hgd
  have hw : (Bs.nil ⟨w, mg⟩).g = ⟨w, mg⟩ := rfl
  exact ⟨_, ass_cons (as_set 2 sc_law_fine.nd (ae_int) rfl (.inl rfl))
      (ass_cons (as_for (ai_tup (K := K) (ae_v 1)) (ag_name 3 (vs := [3]) sc_law_fine.nd rfl (.inl rfl))
      (ass_one (as_set 2 sc_law_fine.nd (ae_op ao_mul (ae_v 2) (ae_call (K := K) (g := ⟨w, mg⟩) c_law_weight hr hgd (aa_cons (ae_v 0) (aa_cons (ae_v 3) (aa_nil))))) rfl (.inl rfl))))
      (ass_one (as_ret (ae_and (K := K) (ae_cmp ao_le (ae_v 2) (ae_int)) (ae_one (ae_cmp ao_le (ae_callB (ac_len (K := K)) m_len (by decide +kernel) (aa_cons (ae_v 1) (aa_nil))) (ae_int)))))))⟩
abbrev st_keeps : Stmt := topS 40
theorem sc_keeps : FnScope ["rule", "word", "sentence"] ["rule", "word"] (defScope st_keeps) := ⟨rfl, rfl, rfl, by decide +kernel, rfl, by decide +kernel, by decide +kernel⟩
theorem ok_keeps {P : Program} {w : World} {K : PySem.W.Frag} {mg : Str → Option Value} {base : Heap} {f : Addr} {fd : FuncData} (F : L2.Fun K "keeps" "keeps" st_keeps f fd) (hm : mg "keeps" = some (.ref f)) (hb : Binds K fd ["rule", "word"] []) (m_all : mg "all" = none) (c_holds : Cal P w K mg base 10 "holds" 3 (s_holds 8)) : Cal P w K mg base 11 "keeps" 2 s_keeps := by
  refine calA (b := a_keeps) F sc_keeps rfl hm hb ?_ (fun _ _ _ _ h => h)
  intro cdv A outer s H E hr hgd
  have hw : (Bs.nil ⟨w, mg⟩).g = ⟨w, mg⟩ := rfl
  exact ⟨_, ass_one (as_ret (ae_callB (ac_all (K := K)) m_all (by decide +kernel) (aa_cons (ae_lc [("sentence", 2)] sc_keeps.nd (ai_tup (K := K) (ae_ix (K := K) (ae_v 0) (ae_int))) (blkOk_by (own := [("sentence", 2)]) (N := ["rule", "word", "sentence"]) (sc := defScope st_keeps) (by decide +kernel)) (fun _ _ _ _ _ => ag_name 2 (vs := [2]) sc_keeps.nd rfl (.inl rfl)) (fun _ _ _ _ _ => ats_nil) (fun _ _ _ _ _ => ae_call (K := K) (g := ⟨w, mg⟩) c_holds hr hgd (aa_cons (ae_ix (K := K) (ae_v 0) (ae_int)) (aa_cons (ae_v 2) (aa_cons (ae_v 1) (aa_nil)))))) (aa_nil))))⟩
abbrev st_law_why : Stmt := topS 60
theorem sc_law_why : FnScope ["_law_keeping", "_law_thing_here", "_law_tongue_here", "_law_sentences", "_law_words", "_law_look", "_law_spots", "_law_signs_here", "_law_one", "_law_sign", "_law_k"] ["_law_keeping", "_law_thing_here"] (defScope st_law_why) := ⟨rfl, rfl, rfl, by decide +kernel, rfl, by decide +kernel, by decide +kernel⟩
theorem ok_law_why {P : Program} {w : World} {K : PySem.W.Frag} {mg : Str → Option Value} {base : Heap} {f : Addr} {fd : FuncData} (F : L2.Fun K "_law_why" "_law_why" st_law_why f fd) (hm : mg "_law_why" = some (.ref f)) (hb : Binds K fd ["_law_keeping", "_law_thing_here"] []) (m_isinstance : mg "isinstance" = none) (m_len : mg "len" = none) (m_range : mg "range" = none) (m_str : mg "str" = none) (c_law_holds : Cal P w K mg base 10 "_law_holds" 3 (s_law_holds 8)) : Cal P w K mg base 11 "_law_why" 2 s_law_why := by
  refine calA (b := a_law_why) F sc_law_why rfl hm hb ?_ (fun _ _ _ _ h => h)
  intro cdv A outer s H E hr hgd
  have hw : (Bs.nil ⟨w, mg⟩).g = ⟨w, mg⟩ := rfl
  exact ⟨_, ass_cons (as_asg (ae_v 0) (ag_tup (K := K) (ags_cons (ag_name 2 (vs := [2, 3, 4, 5, 6]) sc_law_why.nd rfl (.inr rfl)) (ags_cons (ag_name 3 (vs := [2, 3, 4, 5, 6]) sc_law_why.nd rfl (.inl rfl)) (ags_cons (ag_name 4 (vs := [2, 3, 4, 5, 6]) sc_law_why.nd rfl (.inr rfl)) (ags_cons (ag_name 5 (vs := [2, 3, 4, 5, 6]) sc_law_why.nd rfl (.inl rfl)) (ags_cons (ag_name 6 (vs := [2, 3, 4, 5, 6]) sc_law_why.nd rfl (.inl rfl)) (ags_nil))))))))
      (ass_cons (as_set 7 sc_law_why.nd (ae_meth (K := K) PySem.F.plainAttrs_str PySem.F.slot_str_join PySem.F.type_str_join (am_join (K := K)) (ae_str) (aa_cons (ae_v 2) (aa_nil))) rfl (.inr rfl))
      (ass_cons (as_if (aw_t (aw_or (at_not (at_tru (K := K) (ae_isi (K := K) (ae_v 1) m_isinstance m_str (by decide +kernel)))) (aw_or (at_cmp ao_gt (ae_callB (ac_len (K := K)) m_len (by decide +kernel) (aa_cons (ae_v 1) (aa_nil))) (ae_int)) (aw_or1 (at_cmp (ao_neNil (K := K) hr.units) (ae_lc [("_law_sign", 9)] sc_law_why.nd (ai_str (ae_v 1)) (blkOk_by (own := [("_law_sign", 9)]) (N := ["_law_keeping", "_law_thing_here", "_law_tongue_here", "_law_sentences", "_law_words", "_law_look", "_law_spots", "_law_signs_here", "_law_one", "_law_sign", "_law_k"]) (sc := defScope st_law_why) (by decide +kernel)) (fun _ _ _ _ _ => ag_name 9 (vs := [9]) sc_law_why.nd rfl (.inl rfl)) (fun _ _ _ _ _ => ats_one (at_cmp ao_ninS (ae_v 9) (ae_v 7))) (fun _ _ _ _ _ => ae_v 9)) (ae_lst (aa_nil)))))))
      (ass_one (as_ret (ae_str)))
      (ass_nil))
      (ass_cons (as_if (at_cmp ao_inL (ae_bl) (ae_lc [("_law_one", 8)] sc_law_why.nd (ai_tup (K := K) (ae_v 3)) (blkOk_by (own := [("_law_one", 8)]) (N := ["_law_keeping", "_law_thing_here", "_law_tongue_here", "_law_sentences", "_law_words", "_law_look", "_law_spots", "_law_signs_here", "_law_one", "_law_sign", "_law_k"]) (sc := defScope st_law_why) (by decide +kernel)) (fun _ _ _ _ _ => ag_name 8 (vs := [8]) sc_law_why.nd rfl (.inl rfl)) (fun _ _ _ _ _ => ats_nil) (fun _ _ _ _ _ => ae_call (K := K) (g := ⟨w, mg⟩) c_law_holds hr hgd (aa_cons (ae_v 2) (aa_cons (ae_v 8) (aa_cons (ae_v 1) (aa_nil)))))))
      (ass_one (as_ret (ae_str)))
      (ass_nil))
      (ass_cons (as_if (aw_t (aw_and (at_cmp ao_gt (ae_v 5) (ae_int)) (aw_and1 (at_cmp ao_inL (ae_v 1) (ae_cut (K := K) (ae_v 4) (ao_some (ae_neg (ae_v 5))) ao_none)))))
      (ass_one (as_ret (ae_str)))
      (ass_nil))
      (ass_cons (as_if (aw_t (aw_and (at_cmp (ao_neNil (K := K) hr.units) (ae_v 4) (ae_lst (aa_nil))) (aw_and1 (at_cmp (ao_eq (K := K) hr.units) (ae_callB (ac_len (K := K)) m_len (by decide +kernel) (aa_cons (ae_ix (K := K) (ae_v 4) (ae_neg (ae_int))) (aa_nil))) (ae_callB (ac_len (K := K)) m_len (by decide +kernel) (aa_cons (ae_v 1) (aa_nil)))))))
      (ass_one (as_if (at_cmp ao_lt (ae_callB (ac_len (K := K)) m_len (by decide +kernel) (aa_cons (ae_lc [("_law_k", 10)] sc_law_why.nd (ai_range1 m_range (aa_cons (ae_callB (ac_len (K := K)) m_len (by decide +kernel) (aa_cons (ae_v 1) (aa_nil))) (aa_nil))) (blkOk_by (own := [("_law_k", 10)]) (N := ["_law_keeping", "_law_thing_here", "_law_tongue_here", "_law_sentences", "_law_words", "_law_look", "_law_spots", "_law_signs_here", "_law_one", "_law_sign", "_law_k"]) (sc := defScope st_law_why) (by decide +kernel)) (fun _ _ _ _ _ => ag_name 10 (vs := [10]) sc_law_why.nd rfl (.inl rfl)) (fun _ _ _ _ _ => ats_one (at_cmp (ao_ne (K := K) hr.units) (ae_ix (K := K) (ae_v 1) (ae_v 10)) (ae_ix (K := K) (ae_ix (K := K) (ae_v 4) (ae_neg (ae_int))) (ae_v 10)))) (fun _ _ _ _ _ => ae_v 10)) (aa_nil))) (ae_v 6))
      (ass_one (as_ret (ae_str)))
      (ass_nil)))
      (ass_nil))
      (ass_one (as_ret (ae_non))))))))⟩
abbrev st_rule_weight : Stmt := topS 41
theorem sc_rule_weight : FnScope ["rule", "found", "sentence"] ["rule"] (defScope st_rule_weight) := ⟨rfl, rfl, rfl, by decide +kernel, rfl, by decide +kernel, by decide +kernel⟩
theorem ok_rule_weight {P : Program} {w : World} {K : PySem.W.Frag} {mg : Str → Option Value} {base : Heap} {f : Addr} {fd : FuncData} (F : L2.Fun K "rule_weight" "rule_weight" st_rule_weight f fd) (hm : mg "rule_weight" = some (.ref f)) (hb : Binds K fd ["rule"] []) (c_weight : Cal P w K mg base 11 "weight" 2 (s_weight 8)) : Cal P w K mg base 12 "rule_weight" 1 s_rule_weight := by
  refine calA (b := a_rule_weight) F sc_rule_weight rfl hm hb ?_ (fun _ _ _ _ h => h)
  intro cdv A outer s H E hr hgd
  have hw : (Bs.nil ⟨w, mg⟩).g = ⟨w, mg⟩ := rfl
  exact ⟨_, ass_cons (as_set 1 sc_rule_weight.nd (ae_int) rfl (.inl rfl))
      (ass_cons (as_for (ai_tup (K := K) (ae_ix (K := K) (ae_v 0) (ae_int))) (ag_name 2 (vs := [2]) sc_rule_weight.nd rfl (.inl rfl))
      (ass_one (as_set 1 sc_rule_weight.nd (ae_op ao_mul (ae_v 1) (ae_call (K := K) (g := ⟨w, mg⟩) c_weight hr hgd (aa_cons (ae_ix (K := K) (ae_v 0) (ae_int)) (aa_cons (ae_v 2) (aa_nil))))) rfl (.inl rfl))))
      (ass_one (as_ret (ae_v 1))))⟩
abbrev st_Keeper_due : Stmt := inClass (topS 46) 4
theorem sc_Keeper_due : FnScope ["self"] ["self"] (defScope st_Keeper_due) := ⟨rfl, rfl, rfl, by decide +kernel, rfl, by decide +kernel, by decide +kernel⟩
theorem ok_Keeper_due {P : Program} {w : World} {K : PySem.W.Frag} {mg : Str → Option Value} {base : Heap} {f : Addr} {C : Addr} {fd : FuncData} (F : L2.Fun K "due" "Keeper.due" st_Keeper_due f fd) (hm : mg "Keeper" = some (.ref C)) (hc : Cls K C) (hme : Meth K C "due" f) (hb : Binds K fd ["self"] []) (k_Keeper : ClsF K mg "Keeper" ["its_rule", "look", "unlike", "words", "deeds"]) (c_keeps : Cal P w K mg base 11 "keeps" 2 s_keeps) : Met' P w K mg base 12 "Keeper" "due" 1 s_Keeper_due := by
  refine metA (b := a_Keeper_due) F sc_Keeper_due rfl hm hc hme hb ?_ (fun _ _ _ _ h => h)
  intro cdv A outer s H E hr hgd
  have hw : (Bs.nil ⟨w, mg⟩).g = ⟨w, mg⟩ := rfl
  exact ⟨_, ass_one (as_ret (ae_or (K := K) (ae_cmp (ao_eqNil (K := K) hr.units) (ae_fld (g := ⟨w, mg⟩) k_Keeper (by decide +kernel) (ae_v 0)) (ae_lst (aa_nil))) (ae_one (ae_not (K := K) (ae_call (K := K) (g := ⟨w, mg⟩) c_keeps hr hgd (aa_cons (ae_fld (g := ⟨w, mg⟩) k_Keeper (by decide +kernel) (ae_v 0)) (aa_cons (ae_ix (K := K) (ae_fld (g := ⟨w, mg⟩) k_Keeper (by decide +kernel) (ae_v 0)) (ae_neg (ae_int))) (aa_nil))))))))⟩
abbrev st_Keeper_why_not : Stmt := inClass (topS 46) 7
theorem sc_Keeper_why_not : FnScope ["self", "thing"] ["self", "thing"] (defScope st_Keeper_why_not) := ⟨rfl, rfl, rfl, by decide +kernel, rfl, by decide +kernel, by decide +kernel⟩
theorem ok_Keeper_why_not {P : Program} {w : World} {K : PySem.W.Frag} {mg : Str → Option Value} {base : Heap} {f : Addr} {C : Addr} {fd : FuncData} (F : L2.Fun K "why_not" "Keeper.why_not" st_Keeper_why_not f fd) (hm : mg "Keeper" = some (.ref C)) (hc : Cls K C) (hme : Meth K C "why_not" f) (hb : Binds K fd ["self", "thing"] []) (m_len : mg "len" = none) (k_Keeper : ClsF K mg "Keeper" ["its_rule", "look", "unlike", "words", "deeds"]) (g_LONG : ∃ u, mg "LONG" = some u ∧ RelV (.int 24) u) (c_Keeper_elder : Met' P w K mg base 1 "Keeper" "elder" 1 s_Keeper_elder) (c_Keeper_is_near : Met' P w K mg base 2 "Keeper" "is_near" 2 s_Keeper_is_near) (c_is_word : Cal P w K mg base 3 "is_word" 2 s_is_word) (c_keeps : Cal P w K mg base 11 "keeps" 2 s_keeps) : Met' P w K mg base 12 "Keeper" "why_not" 2 s_Keeper_why_not := by
  refine metA (b := a_Keeper_why_not) F sc_Keeper_why_not rfl hm hc hme hb ?_ (fun _ _ _ _ h => h)
  intro cdv A outer s H E hr hgd
  have hw : (Bs.nil ⟨w, mg⟩).g = ⟨w, mg⟩ := rfl
  exact ⟨_, ass_cons (as_if (aw_t (aw_or (at_not (at_tru (K := K) (ae_call (K := K) (g := ⟨w, mg⟩) c_is_word hr hgd (aa_cons (ae_ix (K := K) (ae_fld (g := ⟨w, mg⟩) k_Keeper (by decide +kernel) (ae_v 0)) (ae_int)) (aa_cons (ae_v 1) (aa_nil)))))) (aw_or1 (at_cmp ao_gt (ae_callB (ac_len (K := K)) m_len (by decide +kernel) (aa_cons (ae_v 1) (aa_nil))) (ae_gint g_LONG)))))
      (ass_one (as_ret (ae_str)))
      (ass_nil))
      (ass_cons (as_if (at_not (at_tru (K := K) (ae_call (K := K) (g := ⟨w, mg⟩) c_keeps hr hgd (aa_cons (ae_fld (g := ⟨w, mg⟩) k_Keeper (by decide +kernel) (ae_v 0)) (aa_cons (ae_v 1) (aa_nil))))))
      (ass_one (as_ret (ae_str)))
      (ass_nil))
      (ass_cons (as_if (at_cmp ao_inL (ae_v 1) (ae_mth0 (g := ⟨w, mg⟩) c_Keeper_elder hr hgd (ae_v 0)))
      (ass_one (as_ret (ae_str)))
      (ass_nil))
      (ass_cons (as_if (at_tru (K := K) (ae_mth (g := ⟨w, mg⟩) c_Keeper_is_near hr hgd (ae_v 0) (aa_cons (ae_v 1) (aa_nil))))
      (ass_one (as_ret (ae_str)))
      (ass_nil))
      (ass_one (as_ret (ae_non))))))⟩
abbrev st_Keeper_take : Stmt := inClass (topS 46) 8
theorem sc_Keeper_take : FnScope ["self", "word", "why"] ["self", "word"] (defScope st_Keeper_take) := ⟨rfl, rfl, rfl, by decide +kernel, rfl, by decide +kernel, by decide +kernel⟩
theorem ok_Keeper_take {P : Program} {w : World} {K : PySem.W.Frag} {mg : Str → Option Value} {base : Heap} {f : Addr} {C : Addr} {fd : FuncData} (F : L2.Fun K "take" "Keeper.take" st_Keeper_take f fd) (hm : mg "Keeper" = some (.ref C)) (hc : Cls K C) (hme : Meth K C "take" f) (hb : Binds K fd ["self", "word"] []) (k_Keeper : ClsF K mg "Keeper" ["its_rule", "look", "unlike", "words", "deeds"]) (c_Keeper_why_not : Met' P w K mg base 12 "Keeper" "why_not" 2 s_Keeper_why_not) : Met' P w K mg base 13 "Keeper" "take" 2 s_Keeper_take := by
  refine metA (b := a_Keeper_take) F sc_Keeper_take rfl hm hc hme hb ?_ (fun _ _ _ _ h => h)
  intro cdv A outer s H E hr hgd
  have hw : (Bs.nil ⟨w, mg⟩).g = ⟨w, mg⟩ := rfl
  exact ⟨_, ass_cons (as_set 2 sc_Keeper_take.nd (ae_mth (g := ⟨w, mg⟩) c_Keeper_why_not hr hgd (ae_v 0) (aa_cons (ae_v 1) (aa_nil))) rfl (.inl rfl))
      (ass_cons (as_if (at_cmp (ao_eq (K := K) hr.units) (ae_v 2) (ae_str))
      (ass_one (as_no))
      (ass_nil))
      (ass_cons (as_if (at_cmp (ao_eq (K := K) hr.units) (ae_v 2) (ae_str))
      (ass_one (as_no))
      (ass_nil))
      (ass_cons (as_if (at_cmp (ao_eq (K := K) hr.units) (ae_v 2) (ae_str))
      (ass_one (as_no))
      (ass_nil))
      (ass_cons (as_if (at_cmp (ao_eq (K := K) hr.units) (ae_v 2) (ae_str))
      (ass_one (as_no))
      (ass_nil))
      (ass_cons (as_expr (ae_meth (K := K) PySem.F.plainAttrs_list PySem.F.slot_list_append PySem.F.type_list_append am_append (ae_fld (g := ⟨w, mg⟩) k_Keeper (by decide +kernel) (ae_v 0)) (aa_cons (ae_v 1) (aa_nil))))
      (ass_one (as_expr (ae_meth (K := K) PySem.F.plainAttrs_list PySem.F.slot_list_append PySem.F.type_list_append am_append (ae_fld (g := ⟨w, mg⟩) k_Keeper (by decide +kernel) (ae_v 0)) (aa_cons (ae_non) (aa_nil))))))))))⟩
abbrev st_Keeper_harder : Stmt := inClass (topS 46) 9
theorem sc_Keeper_harder : FnScope ["self", "sentence", "tongue", "sentences", "rule"] ["self", "sentence"] (defScope st_Keeper_harder) := ⟨rfl, rfl, rfl, by decide +kernel, rfl, by decide +kernel, by decide +kernel⟩
theorem ok_Keeper_harder {P : Program} {w : World} {K : PySem.W.Frag} {mg : Str → Option Value} {base : Heap} {f : Addr} {C : Addr} {fd : FuncData} (F : L2.Fun K "harder" "Keeper.harder" st_Keeper_harder f fd) (hm : mg "Keeper" = some (.ref C)) (hc : Cls K C) (hme : Meth K C "harder" f) (hb : Binds K fd ["self", "sentence"] []) (m_len : mg "len" = none) (k_Keeper : ClsF K mg "Keeper" ["its_rule", "look", "unlike", "words", "deeds"]) (g_HEAVY : ∃ u, mg "HEAVY" = some u ∧ RelV (.int 600) u) (e_TooMany : ExcF K mg "TooMany") (e_TooMuch : ExcF K mg "TooMuch") (i_NoSentence : IniF P w K mg base 1 "NoSentence" "number") (c_is_sentence : Cal P w K mg base 6 "is_sentence" 2 s_is_sentence) (c_rule_weight : Cal P w K mg base 12 "rule_weight" 1 s_rule_weight) : MetX P w K mg base 13 "Keeper" "harder" 2 s_Keeper_harder := by
  refine metX (b := a_Keeper_harder) F sc_Keeper_harder rfl hm hc hme hb ?_ (fun _ _ _ _ _ h => h)
  intro B hw W Wk cdv A outer s H E hr hgd tk rel hp
  exact ⟨_, ass_cons (AS.nox (as_asg (ae_fld (g := ⟨w, mg⟩) k_Keeper (by decide +kernel) (ae_v 0)) (ag_tup (K := K) (ags_cons (ag_name 2 (vs := [2, 3]) sc_Keeper_harder.nd rfl (.inl rfl)) (ags_cons (ag_name 3 (vs := [2, 3]) sc_Keeper_harder.nd rfl (.inl rfl)) (ags_nil))))))
      (ass_cons (as_if (AT.nox (at_not (at_tru (K := K) (ae_call (K := K) (g := ⟨w, mg⟩) c_is_sentence hr hgd (aa_cons (ae_v 2) (aa_cons (ae_v 1) (aa_nil)))))))
      (ass_one (as_raiseI i_NoSentence hr tk rel (aa_cons (ae_callB (ac_len (K := K)) m_len (by decide +kernel) (aa_cons (ae_v 3) (aa_nil))) (aa_nil))))
      (ass_nil))
      (ass_cons (as_if (AT.nox (at_cmp ao_ge (ae_callB (ac_len (K := K)) m_len (by decide +kernel) (aa_cons (ae_v 3) (aa_nil))) (ae_int)))
      (ass_one (as_raise e_TooMany tk rel))
      (ass_nil))
      (ass_cons (AS.nox (as_set 4 sc_Keeper_harder.nd (ae_tup (aa_cons (ae_v 2) (aa_cons (ae_op (ao_add (K := K)) (ae_v 3) (ae_tup (aa_cons (ae_v 1) (aa_nil)))) (aa_nil)))) rfl (.inl rfl)))
      (ass_cons (as_if (AT.nox (at_cmp ao_gt (ae_call (K := K) (g := ⟨w, mg⟩) c_rule_weight hr hgd (aa_cons (ae_v 4) (aa_nil))) (ae_gint g_HEAVY)))
      (ass_one (as_raise e_TooMuch tk rel))
      (ass_nil))
      (ass_cons (AS.nox (as_expr (ae_meth (K := K) PySem.F.plainAttrs_list PySem.F.slot_list_append PySem.F.type_list_append am_append (ae_fld (g := ⟨w, mg⟩) k_Keeper (by decide +kernel) (ae_v 0)) (aa_cons (ae_fld (g := ⟨w, mg⟩) k_Keeper (by decide +kernel) (ae_v 0)) (aa_nil)))))
      (ass_one (AS.nox (as_fld (g := ⟨w, mg⟩) k_Keeper (by decide +kernel) (ae_v 0) (ae_v 4)))))))))⟩
abbrev st_law_rule : Stmt := topS 56
theorem sc_law_rule : FnScope ["_law_pen_here", "_law_tongue_here", "_law_most", "_law_many", "_law_sentences", "_law_heavy", "_law_k", "_law_one"] ["_law_pen_here", "_law_tongue_here", "_law_most", "_law_many"] (defScope st_law_rule) := ⟨rfl, rfl, rfl, by decide +kernel, rfl, by decide +kernel, by decide +kernel⟩
theorem ok_law_rule {P : Program} {w : World} {K : PySem.W.Frag} {mg : Str → Option Value} {base : Heap} {f : Addr} {fd : FuncData} (F : L2.Fun K "_law_rule" "_law_rule" st_law_rule f fd) (hm : mg "_law_rule" = some (.ref f)) (hb : Binds K fd ["_law_pen_here", "_law_tongue_here", "_law_most", "_law_many"] []) (m_range : mg "range" = none) (m_tuple : mg "tuple" = none) (c_law_take : Cal P w K mg base 1 "_law_take" 2 s_law_take) (c_law_weight : Cal P w K mg base 9 "_law_weight" 2 (s_law_weight 8)) (c_law_sentence : Cal P w K mg base 12 "_law_sentence" 5 (s_law_sentence 8)) : Cal P w K mg base 13 "_law_rule" 4 s_law_rule := by
  refine calA (b := a_law_rule) F sc_law_rule rfl hm hb ?_ (fun _ _ _ _ h => h)
  intro cdv A outer s H E hr hgd
  have hw : (Bs.nil ⟨w, mg⟩).g = ⟨w, mg⟩ := rfl
  exact ⟨_, ass_cons (as_set 4 sc_law_rule.nd (ae_lstM (aa_nil)) rfl (.inl rfl))
      (ass_cons (as_set 5 sc_law_rule.nd (ae_int) rfl (.inl rfl))
      (ass_cons (as_for (ai_range1 m_range (aa_cons (ae_call (K := K) (g := ⟨w, mg⟩) c_law_take hr hgd (aa_cons (ae_v 0) (aa_cons (ae_op (ao_add (K := K)) (ae_v 3) (ae_int)) (aa_nil)))) (aa_nil))) (ag_name 6 (vs := [6]) sc_law_rule.nd rfl (.inl rfl))
      (ass_cons (as_set 7 sc_law_rule.nd (ae_call (K := K) (g := ⟨w, mg⟩) c_law_sentence hr hgd (aa_cons (ae_v 0) (aa_cons (ae_v 1) (aa_cons (ae_int) (aa_cons (ae_int) (aa_cons (ae_lstM (aa_cons (ae_int) (aa_nil))) (aa_nil))))))) rfl (.inl rfl))
      (ass_one (as_if (at_cmp ao_le (ae_op ao_mul (ae_v 5) (ae_call (K := K) (g := ⟨w, mg⟩) c_law_weight hr hgd (aa_cons (ae_v 1) (aa_cons (ae_v 7) (aa_nil))))) (ae_v 2))
      (ass_cons (as_expr (ae_meth (K := K) PySem.F.plainAttrs_list PySem.F.slot_list_append PySem.F.type_list_append am_append (ae_v 4) (aa_cons (ae_v 7) (aa_nil))))
      (ass_one (as_set 5 sc_law_rule.nd (ae_op ao_mul (ae_v 5) (ae_call (K := K) (g := ⟨w, mg⟩) c_law_weight hr hgd (aa_cons (ae_v 1) (aa_cons (ae_v 7) (aa_nil))))) rfl (.inl rfl))))
      (ass_nil)))))
      (ass_frz 4 (ass_one (as_ret (ae_callT (ac_tuple (K := K)) m_tuple (by decide +kernel) (aa_cons (ae_v 4) (aa_nil))))))))⟩
abbrev st_law_stands : Stmt := topS 64
theorem sc_law_stands : FnScope ["_law_keeper", "_law_keeping", "_law_things", "_law_tongue_here", "_law_sentences", "_law_words", "_law_look", "_law_spots", "_law_bent", "_law_thing_here", "_law_one"] ["_law_keeper", "_law_keeping", "_law_things"] (defScope st_law_stands) := ⟨rfl, rfl, rfl, by decide +kernel, rfl, by decide +kernel, by decide +kernel⟩
theorem ok_law_stands {P : Program} {w : World} {K : PySem.W.Frag} {mg : Str → Option Value} {base : Heap} {f : Addr} {fd : FuncData} (F : L2.Fun K "_law_stands" "_law_stands" st_law_stands f fd) (hm : mg "_law_stands" = some (.ref f)) (hb : Binds K fd ["_law_keeper", "_law_keeping", "_law_things"] []) (c_Keeper_word : Met' P w K mg base 1 "Keeper" "word" 1 s_Keeper_word) (c_Keeper_taken : Met' P w K mg base 1 "Keeper" "taken" 1 s_Keeper_taken) (c_Keeper_rule : Met' P w K mg base 1 "Keeper" "rule" 1 s_Keeper_rule) (c_law_holds : Cal P w K mg base 10 "_law_holds" 3 (s_law_holds 8)) (c_law_why : Cal P w K mg base 11 "_law_why" 2 s_law_why) (c_Keeper_due : Met' P w K mg base 12 "Keeper" "due" 1 s_Keeper_due) (c_Keeper_why_not : Met' P w K mg base 12 "Keeper" "why_not" 2 s_Keeper_why_not) : Cal P w K mg base 13 "_law_stands" 3 s_law_stands := by
  refine calA (b := a_law_stands) F sc_law_stands rfl hm hb ?_ (fun _ _ _ _ h => h)
  intro cdv A outer s H E hr hgd
  have hw : (Bs.nil ⟨w, mg⟩).g = ⟨w, mg⟩ := rfl
  exact ⟨_, ass_cons (as_asg (ae_v 1) (ag_tup (K := K) (ags_cons (ag_name 3 (vs := [3, 4, 5, 6, 7]) sc_law_stands.nd rfl (.inr rfl)) (ags_cons (ag_name 4 (vs := [3, 4, 5, 6, 7]) sc_law_stands.nd rfl (.inl rfl)) (ags_cons (ag_name 5 (vs := [3, 4, 5, 6, 7]) sc_law_stands.nd rfl (.inr rfl)) (ags_cons (ag_name 6 (vs := [3, 4, 5, 6, 7]) sc_law_stands.nd rfl (.inl rfl)) (ags_cons (ag_name 7 (vs := [3, 4, 5, 6, 7]) sc_law_stands.nd rfl (.inl rfl)) (ags_nil))))))))
      (ass_cons (as_if (aw_t (aw_or (at_cmp (ao_ne (K := K) hr.units) (ae_mth0 (g := ⟨w, mg⟩) c_Keeper_taken hr hgd (ae_v 0)) (ae_v 5)) (aw_or (at_cmp (ao_ne (K := K) hr.units) (ae_mth0 (g := ⟨w, mg⟩) c_Keeper_word hr hgd (ae_v 0)) (ae_ix (K := K) (ae_or (K := K) (ae_v 5) (ae_one (ae_lst (aa_cons (ae_non) (aa_nil))))) (ae_neg (ae_int)))) (aw_or1 (at_cmp (ao_ne (K := K) hr.units) (ae_mth0 (g := ⟨w, mg⟩) c_Keeper_rule hr hgd (ae_v 0)) (ae_tup (aa_cons (ae_v 3) (aa_cons (ae_v 4) (aa_nil)))))))))
      (ass_one (as_ret (ae_bl)))
      (ass_nil))
      (ass_cons (as_set 8 sc_law_stands.nd (ae_and (K := K) (ae_cmp (ao_neNil (K := K) hr.units) (ae_v 5) (ae_lst (aa_nil))) (ae_one (ae_cmp ao_inL (ae_bl) (ae_lc [("_law_one", 10)] sc_law_stands.nd (ai_tup (K := K) (ae_v 4)) (blkOk_by (own := [("_law_one", 10)]) (N := ["_law_keeper", "_law_keeping", "_law_things", "_law_tongue_here", "_law_sentences", "_law_words", "_law_look", "_law_spots", "_law_bent", "_law_thing_here", "_law_one"]) (sc := defScope st_law_stands) (by decide +kernel)) (fun _ _ _ _ _ => ag_name 10 (vs := [10]) sc_law_stands.nd rfl (.inl rfl)) (fun _ _ _ _ _ => ats_nil) (fun _ _ _ _ _ => ae_call (K := K) (g := ⟨w, mg⟩) c_law_holds hr hgd (aa_cons (ae_v 3) (aa_cons (ae_v 10) (aa_cons (ae_ix (K := K) (ae_v 5) (ae_neg (ae_int))) (aa_nil))))))))) rfl (.inl rfl))
      (ass_cons (as_if (at_cmp (ao_ne (K := K) hr.units) (ae_mth0 (g := ⟨w, mg⟩) c_Keeper_due hr hgd (ae_v 0)) (ae_or (K := K) (ae_cmp (ao_eqNil (K := K) hr.units) (ae_v 5) (ae_lst (aa_nil))) (ae_one (ae_v 8))))
      (ass_one (as_ret (ae_bl)))
      (ass_nil))
      (ass_one (as_ret (ae_cmp (ao_eq (K := K) hr.units) (ae_lc [("_law_thing_here", 9)] sc_law_stands.nd (ai_list (K := K) (ae_v 2)) (blkOk_by (own := [("_law_thing_here", 9)]) (N := ["_law_keeper", "_law_keeping", "_law_things", "_law_tongue_here", "_law_sentences", "_law_words", "_law_look", "_law_spots", "_law_bent", "_law_thing_here", "_law_one"]) (sc := defScope st_law_stands) (by decide +kernel)) (fun _ _ _ _ _ => ag_name 9 (vs := [9]) sc_law_stands.nd rfl (.inl rfl)) (fun _ _ _ _ _ => ats_nil) (fun _ _ _ _ _ => ae_mth (g := ⟨w, mg⟩) c_Keeper_why_not hr hgd (ae_v 0) (aa_cons (ae_v 9) (aa_nil)))) (ae_lc [("_law_thing_here", 9)] sc_law_stands.nd (ai_list (K := K) (ae_v 2)) (blkOk_by (own := [("_law_thing_here", 9)]) (N := ["_law_keeper", "_law_keeping", "_law_things", "_law_tongue_here", "_law_sentences", "_law_words", "_law_look", "_law_spots", "_law_bent", "_law_thing_here", "_law_one"]) (sc := defScope st_law_stands) (by decide +kernel)) (fun _ _ _ _ _ => ag_name 9 (vs := [9]) sc_law_stands.nd rfl (.inl rfl)) (fun _ _ _ _ _ => ats_nil) (fun _ _ _ _ _ => ae_call (K := K) (g := ⟨w, mg⟩) c_law_why hr hgd (aa_cons (ae_v 1) (aa_cons (ae_v 9) (aa_nil)))))))))))⟩
abbrev st_law_harder : Stmt := topS 62
theorem sc_law_harder : FnScope ["_law_keeper", "_law_sentence_here"] ["_law_keeper", "_law_sentence_here"] (defScope st_law_harder) := ⟨rfl, rfl, rfl, by decide +kernel, rfl, by decide +kernel, by decide +kernel⟩
theorem ok_law_harder {P : Program} {w : World} {K : PySem.W.Frag} {mg : Str → Option Value} {base : Heap} {f : Addr} {fd : FuncData} (F : L2.Fun K "_law_harder" "_law_harder" st_law_harder f fd) (hm : mg "_law_harder" = some (.ref f)) (hb : Binds K fd ["_law_keeper", "_law_sentence_here"] []) {C_NoSentence : Value} (h_NoSentence : mg "NoSentence" = some C_NoSentence) {C_TooMany : Value} (h_TooMany : mg "TooMany" = some C_TooMany) {C_TooMuch : Value} (h_TooMuch : mg "TooMuch" = some C_TooMuch) (sf : SubF K mg subE) (c_Keeper_harder : MetX P w K mg base 13 "Keeper" "harder" 2 s_Keeper_harder) : CalX P w K mg base 14 "_law_harder" 2 s_law_harder := by
  refine calX (b := a_law_harder) F sc_law_harder rfl hm hb ?_ (fun _ _ _ _ _ h => h)
  intro B hw W Wk cdv A outer s H E hr hgd tk rel hp
  exact ⟨_, ass_cons (as_tryA (sub := subE) sc_law_harder.nd rfl rfl tk rel sf hw (fun B' hw W Wk pn xe tk rel hp => ass_one (as_expr (ae_mthX (g := ⟨w, mg⟩) c_Keeper_harder hr hgd tk rel (ae_v 0) (aa_cons (ae_v 1) (aa_nil))))) (.cons3 h_NoSentence rfl (by decide) h_TooMany rfl (by decide) h_TooMuch rfl (by decide) (fun B' hw a oe pn => ass_one (as_ret (ae_bl))) (.nil)))
      (ass_one (AS.nox (as_ret (ae_bl))))⟩
abbrev st_law_deed : Stmt := topS 65
theorem sc_law_deed : FnScope ["_law_pen_here", "_law_keeper", "_law_keeping", "_law_ahead", "_law_thing_here", "_law_tongue_here", "_law_sentences", "_law_words", "_law_look", "_law_spots", "_law_way", "_law_extra", "_law_good", "_law_due"] ["_law_pen_here", "_law_keeper", "_law_keeping", "_law_ahead", "_law_thing_here"] (defScope st_law_deed) := ⟨rfl, rfl, rfl, by decide +kernel, rfl, by decide +kernel, by decide +kernel⟩
theorem ok_law_deed {P : Program} {w : World} {K : PySem.W.Frag} {mg : Str → Option Value} {base : Heap} {f : Addr} {fd : FuncData} (F : L2.Fun K "_law_deed" "_law_deed" st_law_deed f fd) (hm : mg "_law_deed" = some (.ref f)) (hb : Binds K fd ["_law_pen_here", "_law_keeper", "_law_keeping", "_law_ahead", "_law_thing_here"] []) (c_law_take : Cal P w K mg base 1 "_law_take" 2 s_law_take) (c_law_undone : Cal P w K mg base 2 "_law_undone" 1 s_law_undone) (c_law_fine : Cal P w K mg base 10 "_law_fine" 2 s_law_fine) (c_law_why : Cal P w K mg base 11 "_law_why" 2 s_law_why) (c_Keeper_why_not : Met' P w K mg base 12 "Keeper" "why_not" 2 s_Keeper_why_not) (c_Keeper_take : Met' P w K mg base 13 "Keeper" "take" 2 s_Keeper_take) (c_law_harder : CalX P w K mg base 14 "_law_harder" 2 s_law_harder) : CalX P w K mg base 15 "_law_deed" 5 s_law_deed := by
  refine calX (b := a_law_deed) F sc_law_deed rfl hm hb ?_ (fun _ _ _ _ _ h => h)
  intro B hw W Wk cdv A outer s H E hr hgd tk rel hp
  exact ⟨_, ass_cons (AS.nox (as_asg (ae_v 2) (ag_tup (K := K) (ags_cons (ag_name 5 (vs := [5, 6, 7, 8, 9]) sc_law_deed.nd rfl (.inl rfl)) (ags_cons (ag_name 6 (vs := [5, 6, 7, 8, 9]) sc_law_deed.nd rfl (.inl rfl)) (ags_cons (ag_name 7 (vs := [5, 6, 7, 8, 9]) sc_law_deed.nd rfl (.inl rfl)) (ags_cons (ag_name 8 (vs := [5, 6, 7, 8, 9]) sc_law_deed.nd rfl (.inl rfl)) (ags_cons (ag_name 9 (vs := [5, 6, 7, 8, 9]) sc_law_deed.nd rfl (.inl rfl)) (ags_nil)))))))))
      (ass_cons (AS.nox (as_set 10 sc_law_deed.nd (ae_call (K := K) (g := ⟨w, mg⟩) c_law_take hr hgd (aa_cons (ae_v 0) (aa_cons (ae_int) (aa_nil)))) rfl (.inl rfl)))
      (ass_cons (AS.nox (as_if (at_cmp ao_lt (ae_v 10) (ae_int))
      (ass_cons (as_if (at_cmp (ao_ne (K := K) hr.units) (ae_call (K := K) (g := ⟨w, mg⟩) c_law_undone hr hgd (aa_cons (ae_v 1) (aa_nil))) (ae_cmp (ao_neNil (K := K) hr.units) (ae_v 3) (ae_lst (aa_nil))))
      (ass_one (as_ret (ae_non)))
      (ass_nil))
      (ass_one (as_ret (ae_if (at_cmp (ao_eqNil (K := K) hr.units) (ae_v 3) (ae_lst (aa_nil))) (ae_v 2) (ae_meth0 (K := K) PySem.F.plainAttrs_list PySem.F.slot_list_pop PySem.F.type_list_pop am_pop (ae_v 3))))))
      (ass_nil)))
      (ass_cons (as_if (AT.nox (at_cmp (ao_eq (K := K) hr.units) (ae_v 10) (ae_int)))
      (ass_cons (AS.nox (as_set 11 sc_law_deed.nd (ae_ix (K := K) (ae_lst (aa_cons (ae_tup (aa_cons (ae_str) (aa_nil))) (aa_cons (ae_tup (aa_cons (ae_str) (aa_cons (ae_int) (aa_cons (ae_non) (aa_nil))))) (aa_cons (ae_tup (aa_cons (ae_str) (aa_cons (ae_int) (aa_cons (ae_int) (aa_nil))))) (aa_cons (ae_tup (aa_cons (ae_str) (aa_cons (ae_cut (K := K) (ae_ix (K := K) (ae_v 5) (ae_int)) ao_none (ao_some (ae_int))) (aa_cons (ae_int) (aa_nil))))) (aa_cons (ae_non) (aa_nil))))))) (ae_call (K := K) (g := ⟨w, mg⟩) c_law_take hr hgd (aa_cons (ae_v 0) (aa_cons (ae_int) (aa_nil))))) rfl (.inl rfl)))
      (ass_cons (AS.nox (as_set 12 sc_law_deed.nd (ae_and (K := K) (ae_cmp ao_isnot (ae_v 11) (ae_non)) (ae_one (ae_call (K := K) (g := ⟨w, mg⟩) c_law_fine hr hgd (aa_cons (ae_v 5) (aa_cons (ae_op (ao_add (K := K)) (ae_v 6) (ae_tup (aa_cons (ae_v 11) (aa_nil)))) (aa_nil)))))) rfl (.inl rfl)))
      (ass_cons (as_if (at_cmp (ao_ne (K := K) hr.units) (ae_callX (g := ⟨w, mg⟩) c_law_harder hr hgd tk rel (aa_cons (ae_v 1) (aa_cons (ae_v 11) (aa_nil)))) (ae_v 12))
      (ass_one (AS.nox (as_ret (ae_non))))
      (ass_nil))
      (ass_cons (AS.nox (as_if (at_not (at_tru (K := K) (ae_v 12)))
      (ass_one (as_ret (ae_v 2)))
      (ass_nil)))
      (ass_cons (AS.nox (as_expr (ae_meth (K := K) PySem.F.plainAttrs_list PySem.F.slot_list_append PySem.F.type_list_append am_append (ae_v 3) (aa_cons (ae_v 2) (aa_nil)))))
      (ass_one (AS.nox (as_ret (ae_tup (aa_cons (ae_v 5) (aa_cons (ae_op (ao_add (K := K)) (ae_v 6) (ae_tup (aa_cons (ae_v 11) (aa_nil)))) (aa_cons (ae_v 7) (aa_cons (ae_v 8) (aa_cons (ae_v 9) (aa_nil)))))))))))))))
      (ass_nil))
      (ass_cons (AS.nox (as_set 13 sc_law_deed.nd (ae_call (K := K) (g := ⟨w, mg⟩) c_law_why hr hgd (aa_cons (ae_v 2) (aa_cons (ae_v 4) (aa_nil)))) rfl (.inl rfl)))
      (ass_cons (AS.nox (as_if (at_cmp (ao_ne (K := K) hr.units) (ae_mth (g := ⟨w, mg⟩) c_Keeper_why_not hr hgd (ae_v 1) (aa_cons (ae_v 4) (aa_nil))) (ae_v 13))
      (ass_one (as_ret (ae_non)))
      (ass_nil)))
      (ass_cons (AS.nox (as_if (at_cmp ao_isnot (ae_v 13) (ae_non))
      (ass_one (as_ret (ae_v 2)))
      (ass_nil)))
      (ass_cons (AS.nox (as_expr (ae_mth (g := ⟨w, mg⟩) c_Keeper_take hr hgd (ae_v 1) (aa_cons (ae_v 4) (aa_nil)))))
      (ass_cons (AS.nox (as_expr (ae_meth (K := K) PySem.F.plainAttrs_list PySem.F.slot_list_append PySem.F.type_list_append am_append (ae_v 3) (aa_cons (ae_v 2) (aa_nil)))))
      (ass_one (AS.nox (as_ret (ae_tup (aa_cons (ae_v 5) (aa_cons (ae_v 6) (aa_cons (ae_op ao_addM (ae_v 7) (ae_lst (aa_cons (ae_v 4) (aa_nil)))) (aa_cons (ae_v 8) (aa_cons (ae_v 9) (aa_nil))))))))))))))))))⟩
abbrev st_law : Stmt := topS 66
theorem sc_law : FnScope ["_law_script", "_law_pen_here", "_law_tongue_here", "_law_sizes", "_law_keeping", "_law_keeper", "_law_ahead", "_law_things", "_law_turn", "_law_more"] ["_law_script"] (defScope st_law) := ⟨rfl, rfl, rfl, by decide +kernel, rfl, by decide +kernel, by decide +kernel⟩
theorem okF_law {P : Program} {w : World} {K : PySem.W.Frag} {mg : Str → Option Value} {base : Heap} {f : Addr} {fd : FuncData} (F : L2.Fun K "law" "law" st_law f fd) (m_len : mg "len" = none) (m_max : mg "max" = none) (m_min : mg "min" = none) (m_range : mg "range" = none) (c_Keeper___init__ : MakG P w K mg base 1 "Keeper" 4 s_Keeper___init__) (c_law_pen : Cal P w K mg base 1 "_law_pen" 2 s_law_pen) (c_law_take : Cal P w K mg base 1 "_law_take" 2 s_law_take) (c_law_tongue : Cal P w K mg base 2 "_law_tongue" 2 s_law_tongue) (c_law_undone : Cal P w K mg base 2 "_law_undone" 1 s_law_undone) (c_law_thing : Cal P w K mg base 3 "_law_thing" 3 s_law_thing) (c_law_rule : Cal P w K mg base 13 "_law_rule" 4 s_law_rule) (c_law_stands : Cal P w K mg base 13 "_law_stands" 3 s_law_stands) (c_law_deed : CalX P w K mg base 15 "_law_deed" 5 s_law_deed) : FnG P w K mg base 16 f fd ["_law_script"] (spOf ⟨w, mg⟩ K 1 s_law) := by
  refine fnA (b := a_law) F sc_law ?_ (fun _ _ _ _ h => h)
  intro cdv A outer s H E hr hgd
  have hw : (Bs.nil ⟨w, mg⟩).g = ⟨w, mg⟩ := rfl
  have tk : Takes (cxOf (L2.CX P w) P w K mg base ["_law_script", "_law_pen_here", "_law_tongue_here", "_law_sizes", "_law_keeping", "_law_keeper", "_law_ahead", "_law_things", "_law_turn", "_law_more"] "law" (defScope st_law) f cdv A outer s H E).nox (fun _ _ _ _ => False) := takes_no
  have rel : WR (Bs.nil ⟨w, mg⟩) K mg (fun _ _ _ => False) (fun _ _ _ _ => False) := wr_no
  unfold a_law a_lawW
  exact ⟨_, ass_cons (AS.nox (as_set 1 sc_law.nd (ae_call (K := K) (g := ⟨w, mg⟩) c_law_pen hr hgd (aa_cons (ae_v 0) (aa_cons (ae_int) (aa_nil)))) rfl (.inl rfl)))
      (ass_cons (AS.nox (as_set 2 sc_law.nd (ae_call (K := K) (g := ⟨w, mg⟩) c_law_tongue hr hgd (aa_cons (ae_v 1) (aa_cons (ae_ix (K := K) (ae_lst (aa_cons (ae_int) (aa_cons (ae_int) (aa_cons (ae_int) (aa_cons (ae_int) (aa_nil)))))) (ae_call (K := K) (g := ⟨w, mg⟩) c_law_take hr hgd (aa_cons (ae_v 1) (aa_cons (ae_int) (aa_nil))))) (aa_nil)))) rfl (.inl rfl)))
      (ass_cons (AS.nox (as_set 3 sc_law.nd (ae_tup (aa_cons (ae_call (K := K) (g := ⟨w, mg⟩) c_law_take hr hgd (aa_cons (ae_v 1) (aa_cons (ae_ix (K := K) (ae_lst (aa_cons (ae_int) (aa_cons (ae_int) (aa_nil)))) (ae_call (K := K) (g := ⟨w, mg⟩) c_law_take hr hgd (aa_cons (ae_v 1) (aa_cons (ae_int) (aa_nil))))) (aa_nil)))) (aa_cons (ae_call (K := K) (g := ⟨w, mg⟩) c_law_take hr hgd (aa_cons (ae_v 1) (aa_cons (ae_ix (K := K) (ae_lst (aa_cons (ae_int) (aa_cons (ae_int) (aa_nil)))) (ae_call (K := K) (g := ⟨w, mg⟩) c_law_take hr hgd (aa_cons (ae_v 1) (aa_cons (ae_int) (aa_nil))))) (aa_nil)))) (aa_nil)))) rfl (.inl rfl)))
      (ass_cons (AS.nox (as_set 4 sc_law.nd (ae_op (ao_add (K := K)) (ae_tup (aa_cons (ae_v 2) (aa_cons (ae_call (K := K) (g := ⟨w, mg⟩) c_law_rule hr hgd (aa_cons (ae_call (K := K) (g := ⟨w, mg⟩) c_law_pen hr hgd (aa_cons (ae_v 0) (aa_cons (ae_int) (aa_nil)))) (aa_cons (ae_v 2) (aa_cons (ae_int) (aa_cons (ae_int) (aa_nil)))))) (aa_cons (ae_lstM (aa_nil)) (aa_nil))))) (ae_v 3)) rfl (.inl rfl)))
      (ass_cons (AS.nox (as_set 5 sc_law.nd (ae_make (g := ⟨w, mg⟩) c_Keeper___init__ hr hgd (aa_cons (ae_cut (K := K) (ae_v 4) ao_none (ao_some (ae_int))) (aa_cons (ae_ix (K := K) (ae_v 3) (ae_int)) (aa_cons (ae_ix (K := K) (ae_v 3) (ae_int)) (aa_nil))))) rfl (.inl rfl)))
      (ass_cons (AS.nox (as_set 6 sc_law.nd (ae_lstM (aa_nil)) rfl (.inl rfl)))
      (ass_cons (AS.nox (as_set 7 sc_law.nd (ae_lst (aa_cons (ae_str) (aa_cons (ae_cut (K := K) (ae_meth (K := K) PySem.F.plainAttrs_str PySem.F.slot_str_join PySem.F.type_str_join (am_join (K := K)) (ae_str) (aa_cons (ae_v 2) (aa_nil))) ao_none (ao_some (ae_int))) (aa_cons (ae_non) (aa_nil))))) rfl (.inl rfl)))
      (ass_cons (as_for (ai_range1 m_range (aa_cons (ae_callB ac_max2 m_max (by decide +kernel) (aa_cons (ae_int) (aa_cons (ae_callB ac_min2 m_min (by decide +kernel) (aa_cons (ae_int) (aa_cons (ae_callB (ac_len (K := K)) m_len (by decide +kernel) (aa_cons (ae_v 0) (aa_nil))) (aa_nil)))) (aa_nil)))) (aa_nil))) (ag_name 8 (vs := [8]) sc_law.nd rfl (.inl rfl))
      (ass_cons (AS.nox (as_set 9 sc_law.nd (ae_call (K := K) (g := ⟨w, mg⟩) c_law_pen hr hgd (aa_cons (ae_v 0) (aa_cons (ae_op (ao_add (K := K)) (ae_int) (ae_v 8)) (aa_nil)))) rfl (.inl rfl)))
      (ass_cons (AS.nox (as_set 7 sc_law.nd (ae_op (ao_add (K := K)) (ae_cut (K := K) (ae_v 7) (ao_some (ae_int)) ao_none) (ae_lst (aa_cons (ae_call (K := K) (g := ⟨w, mg⟩) c_law_thing hr hgd (aa_cons (ae_v 9) (aa_cons (ae_v 2) (aa_cons (ae_ix (K := K) (ae_v 4) (ae_int)) (aa_nil))))) (aa_nil)))) rfl (.inl rfl)))
      (ass_cons (as_set 4 sc_law.nd (ae_callX (g := ⟨w, mg⟩) c_law_deed hr hgd tk rel (aa_cons (ae_v 9) (aa_cons (ae_v 5) (aa_cons (ae_v 4) (aa_cons (ae_v 6) (aa_cons (ae_ix (K := K) (ae_v 7) (ae_neg (ae_int))) (aa_nil))))))) rfl (.inl rfl))
      (ass_one (AS.nox (as_if (aw_t (aw_or (at_cmp ao_is (ae_v 4) (ae_non)) (aw_or1 (at_not (at_tru (K := K) (ae_call (K := K) (g := ⟨w, mg⟩) c_law_stands hr hgd (aa_cons (ae_v 5) (aa_cons (ae_v 4) (aa_cons (ae_v 7) (aa_nil))))))))))
      (ass_one (as_ret (ae_bl)))
      (ass_nil))))))))
      (ass_cons (AS.nox (as_while (at_cmp (ao_neNil (K := K) hr.units) (ae_v 6) (ae_lst (aa_nil)))
      (ass_cons (as_set 4 sc_law.nd (ae_meth0 (K := K) PySem.F.plainAttrs_list PySem.F.slot_list_pop PySem.F.type_list_pop am_pop (ae_v 6)) rfl (.inl rfl))
      (ass_one (as_if (aw_t (aw_or (at_cmp ao_isnotB (ae_call (K := K) (g := ⟨w, mg⟩) c_law_undone hr hgd (aa_cons (ae_v 5) (aa_nil))) (ae_bl)) (aw_or1 (at_not (at_tru (K := K) (ae_call (K := K) (g := ⟨w, mg⟩) c_law_stands hr hgd (aa_cons (ae_v 5) (aa_cons (ae_v 4) (aa_cons (ae_v 7) (aa_nil))))))))))
      (ass_one (as_ret (ae_bl)))
      (ass_nil))))))
      (ass_one (AS.nox (as_ret (ae_and (K := K) (ae_cmp ao_isB (ae_call (K := K) (g := ⟨w, mg⟩) c_law_undone hr hgd (aa_cons (ae_v 5) (aa_nil))) (ae_bl)) (ae_and (K := K) (ae_call (K := K) (g := ⟨w, mg⟩) c_law_stands hr hgd (aa_cons (ae_v 5) (aa_cons (ae_v 4) (aa_cons (ae_v 7) (aa_nil))))) (ae_one (ae_cmp ao_isB (ae_call (K := K) (g := ⟨w, mg⟩) c_law_undone hr hgd (aa_cons (ae_v 5) (aa_nil))) (ae_bl))))))))))))))))⟩
abbrev st_NoSentence : Stmt := inClass (topS 4) 0
theorem sc_NoSentence : FnScope ["self", "number"] ["self", "number"] (defScope st_NoSentence) := ⟨rfl, rfl, rfl, by decide +kernel, rfl, by decide +kernel, by decide +kernel⟩
theorem ok_NoSentence {P : Program} {w : World} {K : PySem.W.Frag} {mg : Str → Option Value} {base : Heap} {f C CW : Addr} {fd : FuncData} (F : L2.Fun K "__init__" "NoSentence.__init__" st_NoSentence f fd) (hm : mg "NoSentence" = some (.ref C)) (hw : mg "WordError" = some (.ref CW)) (T : OexC K C) (iC : PySem.W.findIn K (.ref C) "__init__" = some (some (.ref f))) (tI : PySem.W.typeIn K (.ref f) = some (.type "function")) (hf : PySem.W.findIn K (.ref C) "number" = some none) (hb : Binds K fd ["self", "number"] [])
    (sp : PySem.W.specialIn K (.ref CW) "__getattribute__" = some (some (.builtin "type.__getattribute__"))) (hr : PySem.W.readsIn K CW (.type "type") = true) (vV : PySem.W.findCls K (.ref CW) (.type "type") "__init__" = some (.val (.builtin "ValueError.__init__"))) : IniF P w K mg base 1 "NoSentence" "number" :=
  iniF (m := "no sentence") F sc_NoSentence rfl rfl hm T iC tI hf hb fun cdv A outer s H E => pss_cons (ps_expr (pe_oinit rfl hw sp hr vV (pa_cons (pe_var (i := 0) rfl (Or.inl rfl)) (pa_cons pe_str pa_nil)))) (pss_one (ps_ost (pe_var (i := 0) rfl (Or.inl rfl)) (pe_var (i := 1) rfl (Or.inl rfl))))
theorem all_mk {l : PySem.W.OpenLaw} {w : World} {K : PySem.W.Frag} {h : Heap} {mg : Str → Option Value} {fa f1 f2 f3 f4 f5 f6 f7 f8 f9 f10 f11 f12 f13 f14 f15 f16 f17 f18 f19 f20 f21 f22 f23 f24 f25 f26 f27 f28 f29 f30 f31 f32 f33 f34 f35 f36 f37 f38 f39 f40 f41 f42 f43 f44 f45 f46 f47 f48 : Addr} (X : K.In h) (G : h.Ns mainGlobals mg) (hfa : mg "law" = some (.ref fa))
    {od1 an1 od2 an2 od3 an3 od4 an4 od5 an5 od6 an6 od7 an7 od8 an8 od9 an9 od10 an10 od11 an11 od12 an12 od13 an13 od14 an14 od15 an15 od16 an16 od17 an17 od18 an18 od19 an19 od20 an20 od21 an21 od22 an22 od23 an23 od24 an24 od25 an25 od26 an26 od27 an27 od28 an28 od29 an29 od30 an30 od31 an31 od32 an32 od33 an33 od34 an34 od35 an35 od36 an36 od37 an37 od38 an38 od39 an39 od40 an40 od41 an41 od42 an42 od43 an43 od44 an44 od45 an45 od46 an46 od47 an47 od48 an48 : Option Addr} {sl1 sl2 sl3 sl4 sl5 sl6 sl7 sl8 sl9 sl10 sl11 sl12 sl13 sl14 sl15 sl16 sl17 sl18 sl19 sl20 sl21 sl22 sl23 sl24 sl25 sl26 sl27 sl28 sl29 sl30 sl31 sl32 sl33 sl34 sl35 sl36 sl37 sl38 sl39 sl40 sl41 sl42 sl43 sl44 sl45 sl46 sl47 sl48 : Array (Option Value)} {oc1 kV1 dc1 pm1 cd1 ct1 oc2 kV2 dc2 pm2 cd2 ct2 oc3 kV3 dc3 pm3 cd3 ct3 oc4 kV4 dc4 pm4 cd4 ct4 oc5 kV5 dc5 pm5 cd5 ct5 oc6 kV6 dc6 pm6 cd6 ct6 oc7 kV7 dc7 pm7 cd7 ct7 oc8 kV8 dc8 pm8 cd8 ct8 oc9 kV9 dc9 pm9 cd9 ct9 oc10 kV10 dc10 pm10 cd10 ct10 oc11 kV11 dc11 pm11 cd11 ct11 oc12 kV12 dc12 pm12 cd12 ct12 oc13 kV13 dc13 pm13 cd13 ct13 oc14 kV14 dc14 pm14 cd14 ct14 oc15 kV15 dc15 pm15 cd15 ct15 oc16 kV16 dc16 pm16 cd16 ct16 oc17 kV17 dc17 pm17 cd17 ct17 oc18 kV18 dc18 pm18 cd18 ct18 oc19 kV19 dc19 pm19 cd19 ct19 oc20 kV20 dc20 pm20 cd20 ct20 oc21 kV21 dc21 pm21 cd21 ct21 oc22 kV22 dc22 pm22 cd22 ct22 oc23 kV23 dc23 pm23 cd23 ct23 oc24 kV24 dc24 pm24 cd24 ct24 oc25 kV25 dc25 pm25 cd25 ct25 oc26 kV26 dc26 pm26 cd26 ct26 oc27 kV27 dc27 pm27 cd27 ct27 oc28 kV28 dc28 pm28 cd28 ct28 oc29 kV29 dc29 pm29 cd29 ct29 oc30 kV30 dc30 pm30 cd30 ct30 oc31 kV31 dc31 pm31 cd31 ct31 oc32 kV32 dc32 pm32 cd32 ct32 oc33 kV33 dc33 pm33 cd33 ct33 oc34 kV34 dc34 pm34 cd34 ct34 oc35 kV35 dc35 pm35 cd35 ct35 oc36 kV36 dc36 pm36 cd36 ct36 oc37 kV37 dc37 pm37 cd37 ct37 oc38 kV38 dc38 pm38 cd38 ct38 oc39 kV39 dc39 pm39 cd39 ct39 oc40 kV40 dc40 pm40 cd40 ct40 oc41 kV41 dc41 pm41 cd41 ct41 oc42 kV42 dc42 pm42 cd42 ct42 oc43 kV43 dc43 pm43 cd43 ct43 oc44 kV44 dc44 pm44 cd44 ct44 oc45 kV45 dc45 pm45 cd45 ct45 oc46 kV46 dc46 pm46 cd46 ct46 oc47 kV47 dc47 pm47 cd47 ct47 oc48 kV48 dc48 pm48 cd48 ct48 : Value} {t0 t2 t3 t4 t5 t6 t7 : Tok} {dG1 : Addr} {esG1 : Array DictEntry} {nG1 : Nat}
    {CG0 : Addr}
    (ca0 : PySem.W.nsIn K mainGlobals "Keeper" = some (some (.ref CG0))) (cp0 : PySem.W.plainGet K CG0 Str.empty = true) (ch0 : PySem.W.hasDictIn K CG0 = true) (co0 : PySem.W.plainOver K CG0 = true) (cs0 : PySem.W.findIn K (.ref CG0) "__setattr__" = some (some (.builtin "object.__setattr__"))) (cm0 : PySem.W.makesIn K CG0 = true) (ck0 : PySem.W.keepIn K (.ref CG0) = true)
    (cn0_0 : PySem.W.findIn K (.ref CG0) "its_rule" = some none)    (cn0_1 : PySem.W.findIn K (.ref CG0) "look" = some none)    (cn0_2 : PySem.W.findIn K (.ref CG0) "unlike" = some none)    (cn0_3 : PySem.W.findIn K (.ref CG0) "words" = some none)    (cn0_4 : PySem.W.findIn K (.ref CG0) "deeds" = some none)
    (a1 : PySem.W.nsIn K mainGlobals "is_whole" = some (some (.ref f1))) (l1 : K.lookup f1 = some ⟨oc1, od1, .func (PySem.W.fnOf "is_whole" "is_whole" (defArgs st_is_whole) (defBody st_is_whole) (defScope st_is_whole) .none kV1 dc1 pm1 an1 cd1 ct1), sl1⟩) (c1 : PySem.W.codeIn K cd1 "is_whole" = true) (k1 : PySem.W.keepIn K (.ref f1) = true)
    (a2 : PySem.W.nsIn K mainGlobals "signs_of" = some (some (.ref f2))) (l2 : K.lookup f2 = some ⟨oc2, od2, .func (PySem.W.fnOf "signs_of" "signs_of" (defArgs st_signs_of) (defBody st_signs_of) (defScope st_signs_of) .none kV2 dc2 pm2 an2 cd2 ct2), sl2⟩) (c2 : PySem.W.codeIn K cd2 "signs_of" = true) (k2 : PySem.W.keepIn K (.ref f2) = true)
    (a3 : PySem.W.nsIn K mainGlobals "parts_of" = some (some (.ref f3))) (l3 : K.lookup f3 = some ⟨oc3, od3, .func (PySem.W.fnOf "parts_of" "parts_of" (defArgs st_parts_of) (defBody st_parts_of) (defScope st_parts_of) .none kV3 dc3 pm3 an3 cd3 ct3), sl3⟩) (c3 : PySem.W.codeIn K cd3 "parts_of" = true) (k3 : PySem.W.keepIn K (.ref f3) = true)
    (a4 : PySem.W.nsIn K mainGlobals "plain_holds" = some (some (.ref f4))) (l4 : K.lookup f4 = some ⟨oc4, od4, .func (PySem.W.fnOf "plain_holds" "plain_holds" (defArgs st_plain_holds) (defBody st_plain_holds) (defScope st_plain_holds) .none kV4 dc4 pm4 an4 cd4 ct4), sl4⟩) (c4 : PySem.W.codeIn K cd4 "plain_holds" = true) (k4 : PySem.W.keepIn K (.ref f4) = true)
    (a5 : PySem.W.nsIn K mainGlobals "power" = some (some (.ref f5))) (l5 : K.lookup f5 = some ⟨oc5, od5, .func (PySem.W.fnOf "power" "power" (defArgs st_power) (defBody st_power) (defScope st_power) .none kV5 dc5 pm5 an5 cd5 ct5), sl5⟩) (c5 : PySem.W.codeIn K cd5 "power" = true) (k5 : PySem.W.keepIn K (.ref f5) = true)
    (a6 : PySem.W.nsIn K mainGlobals "unlike_at" = some (some (.ref f6))) (l6 : K.lookup f6 = some ⟨oc6, od6, .func (PySem.W.fnOf "unlike_at" "unlike_at" (defArgs st_unlike_at) (defBody st_unlike_at) (defScope st_unlike_at) .none kV6 dc6 pm6 an6 cd6 ct6), sl6⟩) (c6 : PySem.W.codeIn K cd6 "unlike_at" = true) (k6 : PySem.W.keepIn K (.ref f6) = true)
    (a7 : PySem.W.findIn K (.ref CG0) "__init__" = some (some (.ref f7))) (i7 : PySem.W.isFn K (.ref f7) = true) (l7 : K.lookup f7 = some ⟨oc7, od7, .func (PySem.W.fnOf "__init__" "Keeper.__init__" (defArgs st_Keeper___init__) (defBody st_Keeper___init__) (defScope st_Keeper___init__) .none kV7 dc7 pm7 an7 cd7 ct7), sl7⟩) (c7 : PySem.W.codeIn K cd7 "Keeper.__init__" = true) (k7 : PySem.W.keepIn K (.ref f7) = true)
    (a8 : PySem.W.findIn K (.ref CG0) "word" = some (some (.ref f8))) (i8 : PySem.W.isFn K (.ref f8) = true) (l8 : K.lookup f8 = some ⟨oc8, od8, .func (PySem.W.fnOf "word" "Keeper.word" (defArgs st_Keeper_word) (defBody st_Keeper_word) (defScope st_Keeper_word) .none kV8 dc8 pm8 an8 cd8 ct8), sl8⟩) (c8 : PySem.W.codeIn K cd8 "Keeper.word" = true) (k8 : PySem.W.keepIn K (.ref f8) = true)
    (a9 : PySem.W.findIn K (.ref CG0) "taken" = some (some (.ref f9))) (i9 : PySem.W.isFn K (.ref f9) = true) (l9 : K.lookup f9 = some ⟨oc9, od9, .func (PySem.W.fnOf "taken" "Keeper.taken" (defArgs st_Keeper_taken) (defBody st_Keeper_taken) (defScope st_Keeper_taken) .none kV9 dc9 pm9 an9 cd9 ct9), sl9⟩) (c9 : PySem.W.codeIn K cd9 "Keeper.taken" = true) (k9 : PySem.W.keepIn K (.ref f9) = true)
    (a10 : PySem.W.findIn K (.ref CG0) "rule" = some (some (.ref f10))) (i10 : PySem.W.isFn K (.ref f10) = true) (l10 : K.lookup f10 = some ⟨oc10, od10, .func (PySem.W.fnOf "rule" "Keeper.rule" (defArgs st_Keeper_rule) (defBody st_Keeper_rule) (defScope st_Keeper_rule) .none kV10 dc10 pm10 an10 cd10 ct10), sl10⟩) (c10 : PySem.W.codeIn K cd10 "Keeper.rule" = true) (k10 : PySem.W.keepIn K (.ref f10) = true)
    (a11 : PySem.W.findIn K (.ref CG0) "elder" = some (some (.ref f11))) (i11 : PySem.W.isFn K (.ref f11) = true) (l11 : K.lookup f11 = some ⟨oc11, od11, .func (PySem.W.fnOf "elder" "Keeper.elder" (defArgs st_Keeper_elder) (defBody st_Keeper_elder) (defScope st_Keeper_elder) .none kV11 dc11 pm11 an11 cd11 ct11), sl11⟩) (c11 : PySem.W.codeIn K cd11 "Keeper.elder" = true) (k11 : PySem.W.keepIn K (.ref f11) = true)
    (a12 : PySem.W.findIn K (.ref CG0) "undo" = some (some (.ref f12))) (i12 : PySem.W.isFn K (.ref f12) = true) (l12 : K.lookup f12 = some ⟨oc12, od12, .func (PySem.W.fnOf "undo" "Keeper.undo" (defArgs st_Keeper_undo) (defBody st_Keeper_undo) (defScope st_Keeper_undo) .none kV12 dc12 pm12 an12 cd12 ct12), sl12⟩) (c12 : PySem.W.codeIn K cd12 "Keeper.undo" = true) (k12 : PySem.W.keepIn K (.ref f12) = true)
    (a13 : PySem.W.nsIn K mainGlobals "_law_pen" = some (some (.ref f13))) (l13 : K.lookup f13 = some ⟨oc13, od13, .func (PySem.W.fnOf "_law_pen" "_law_pen" (defArgs st_law_pen) (defBody st_law_pen) (defScope st_law_pen) .none kV13 dc13 pm13 an13 cd13 ct13), sl13⟩) (c13 : PySem.W.codeIn K cd13 "_law_pen" = true) (k13 : PySem.W.keepIn K (.ref f13) = true)
    (a14 : PySem.W.nsIn K mainGlobals "_law_take" = some (some (.ref f14))) (l14 : K.lookup f14 = some ⟨oc14, od14, .func (PySem.W.fnOf "_law_take" "_law_take" (defArgs st_law_take) (defBody st_law_take) (defScope st_law_take) .none kV14 dc14 pm14 an14 cd14 ct14), sl14⟩) (c14 : PySem.W.codeIn K cd14 "_law_take" = true) (k14 : PySem.W.keepIn K (.ref f14) = true)
    (a15 : PySem.W.nsIn K mainGlobals "_law_signs" = some (some (.ref f15))) (l15 : K.lookup f15 = some ⟨oc15, od15, .func (PySem.W.fnOf "_law_signs" "_law_signs" (defArgs st_law_signs) (defBody st_law_signs) (defScope st_law_signs) .none kV15 dc15 pm15 an15 cd15 ct15), sl15⟩) (c15 : PySem.W.codeIn K cd15 "_law_signs" = true) (k15 : PySem.W.keepIn K (.ref f15) = true)
    (a16 : PySem.W.nsIn K mainGlobals "_law_weight" = some (some (.ref f16))) (l16 : K.lookup f16 = some ⟨oc16, od16, .func (PySem.W.fnOf "_law_weight" "_law_weight" (defArgs st_law_weight) (defBody st_law_weight) (defScope st_law_weight) .none kV16 dc16 pm16 an16 cd16 ct16), sl16⟩) (c16 : PySem.W.codeIn K cd16 "_law_weight" = true) (k16 : PySem.W.keepIn K (.ref f16) = true)
    (a17 : PySem.W.nsIn K mainGlobals "_law_plain_holds" = some (some (.ref f17))) (l17 : K.lookup f17 = some ⟨oc17, od17, .func (PySem.W.fnOf "_law_plain_holds" "_law_plain_holds" (defArgs st_law_plain_holds) (defBody st_law_plain_holds) (defScope st_law_plain_holds) .none kV17 dc17 pm17 an17 cd17 ct17), sl17⟩) (c17 : PySem.W.codeIn K cd17 "_law_plain_holds" = true) (k17 : PySem.W.keepIn K (.ref f17) = true)
    (a18 : PySem.W.nsIn K mainGlobals "has_signs" = some (some (.ref f18))) (l18 : K.lookup f18 = some ⟨oc18, od18, .func (PySem.W.fnOf "has_signs" "has_signs" (defArgs st_has_signs) (defBody st_has_signs) (defScope st_has_signs) .none kV18 dc18 pm18 an18 cd18 ct18), sl18⟩) (c18 : PySem.W.codeIn K cd18 "has_signs" = true) (k18 : PySem.W.keepIn K (.ref f18) = true)
    (a19 : PySem.W.nsIn K mainGlobals "is_within" = some (some (.ref f19))) (l19 : K.lookup f19 = some ⟨oc19, od19, .func (PySem.W.fnOf "is_within" "is_within" (defArgs st_is_within) (defBody st_is_within) (defScope st_is_within) .none kV19 dc19 pm19 an19 cd19 ct19), sl19⟩) (c19 : PySem.W.codeIn K cd19 "is_within" = true) (k19 : PySem.W.keepIn K (.ref f19) = true)
    (a20 : PySem.W.nsIn K mainGlobals "holds" = some (some (.ref f20))) (l20 : K.lookup f20 = some ⟨oc20, od20, .func (PySem.W.fnOf "holds" "holds" (defArgs st_holds) (defBody st_holds) (defScope st_holds) .none kV20 dc20 pm20 an20 cd20 ct20), sl20⟩) (c20 : PySem.W.codeIn K cd20 "holds" = true) (k20 : PySem.W.keepIn K (.ref f20) = true)
    (a21 : PySem.W.nsIn K mainGlobals "plain_weight" = some (some (.ref f21))) (l21 : K.lookup f21 = some ⟨oc21, od21, .func (PySem.W.fnOf "plain_weight" "plain_weight" (defArgs st_plain_weight) (defBody st_plain_weight) (defScope st_plain_weight) .none kV21 dc21 pm21 an21 cd21 ct21), sl21⟩) (c21 : PySem.W.codeIn K cd21 "plain_weight" = true) (k21 : PySem.W.keepIn K (.ref f21) = true)
    (a22 : PySem.W.findIn K (.ref CG0) "is_near" = some (some (.ref f22))) (i22 : PySem.W.isFn K (.ref f22) = true) (l22 : K.lookup f22 = some ⟨oc22, od22, .func (PySem.W.fnOf "is_near" "Keeper.is_near" (defArgs st_Keeper_is_near) (defBody st_Keeper_is_near) (defScope st_Keeper_is_near) .none kV22 dc22 pm22 an22 cd22 ct22), sl22⟩) (c22 : PySem.W.codeIn K cd22 "Keeper.is_near" = true) (k22 : PySem.W.keepIn K (.ref f22) = true)
    (a23 : PySem.W.nsIn K mainGlobals "_law_tongue" = some (some (.ref f23))) (l23 : K.lookup f23 = some ⟨oc23, od23, .func (PySem.W.fnOf "_law_tongue" "_law_tongue" (defArgs st_law_tongue) (defBody st_law_tongue) (defScope st_law_tongue) .none kV23 dc23 pm23 an23 cd23 ct23), sl23⟩) (c23 : PySem.W.codeIn K cd23 "_law_tongue" = true) (k23 : PySem.W.keepIn K (.ref f23) = true)
    (a24 : PySem.W.nsIn K mainGlobals "_law_word" = some (some (.ref f24))) (l24 : K.lookup f24 = some ⟨oc24, od24, .func (PySem.W.fnOf "_law_word" "_law_word" (defArgs st_law_word) (defBody st_law_word) (defScope st_law_word) .none kV24 dc24 pm24 an24 cd24 ct24), sl24⟩) (c24 : PySem.W.codeIn K cd24 "_law_word" = true) (k24 : PySem.W.keepIn K (.ref f24) = true)
    (a25 : PySem.W.nsIn K mainGlobals "_law_holds" = some (some (.ref f25))) (l25 : K.lookup f25 = some ⟨oc25, od25, .func (PySem.W.fnOf "_law_holds" "_law_holds" (defArgs st_law_holds) (defBody st_law_holds) (defScope st_law_holds) .none kV25 dc25 pm25 an25 cd25 ct25), sl25⟩) (c25 : PySem.W.codeIn K cd25 "_law_holds" = true) (k25 : PySem.W.keepIn K (.ref f25) = true)
    (a26 : PySem.W.nsIn K mainGlobals "_law_undone" = some (some (.ref f26))) (l26 : K.lookup f26 = some ⟨oc26, od26, .func (PySem.W.fnOf "_law_undone" "_law_undone" (defArgs st_law_undone) (defBody st_law_undone) (defScope st_law_undone) .none kV26 dc26 pm26 an26 cd26 ct26), sl26⟩) (c26 : PySem.W.codeIn K cd26 "_law_undone" = true) (k26 : PySem.W.keepIn K (.ref f26) = true)
    (a27 : PySem.W.nsIn K mainGlobals "is_word" = some (some (.ref f27))) (l27 : K.lookup f27 = some ⟨oc27, od27, .func (PySem.W.fnOf "is_word" "is_word" (defArgs st_is_word) (defBody st_is_word) (defScope st_is_word) .none kV27 dc27 pm27 an27 cd27 ct27), sl27⟩) (c27 : PySem.W.codeIn K cd27 "is_word" = true) (k27 : PySem.W.keepIn K (.ref f27) = true)
    (a28 : PySem.W.nsIn K mainGlobals "is_piece" = some (some (.ref f28))) (l28 : K.lookup f28 = some ⟨oc28, od28, .func (PySem.W.fnOf "is_piece" "is_piece" (defArgs st_is_piece) (defBody st_is_piece) (defScope st_is_piece) .none kV28 dc28 pm28 an28 cd28 ct28), sl28⟩) (c28 : PySem.W.codeIn K cd28 "is_piece" = true) (k28 : PySem.W.keepIn K (.ref f28) = true)
    (a29 : PySem.W.nsIn K mainGlobals "weight" = some (some (.ref f29))) (l29 : K.lookup f29 = some ⟨oc29, od29, .func (PySem.W.fnOf "weight" "weight" (defArgs st_weight) (defBody st_weight) (defScope st_weight) .none kV29 dc29 pm29 an29 cd29 ct29), sl29⟩) (c29 : PySem.W.codeIn K cd29 "weight" = true) (k29 : PySem.W.keepIn K (.ref f29) = true)
    (a30 : PySem.W.nsIn K mainGlobals "_law_plain" = some (some (.ref f30))) (l30 : K.lookup f30 = some ⟨oc30, od30, .func (PySem.W.fnOf "_law_plain" "_law_plain" (defArgs st_law_plain) (defBody st_law_plain) (defScope st_law_plain) .none kV30 dc30 pm30 an30 cd30 ct30), sl30⟩) (c30 : PySem.W.codeIn K cd30 "_law_plain" = true) (k30 : PySem.W.keepIn K (.ref f30) = true)
    (a31 : PySem.W.nsIn K mainGlobals "_law_thing" = some (some (.ref f31))) (l31 : K.lookup f31 = some ⟨oc31, od31, .func (PySem.W.fnOf "_law_thing" "_law_thing" (defArgs st_law_thing) (defBody st_law_thing) (defScope st_law_thing) .none kV31 dc31 pm31 an31 cd31 ct31), sl31⟩) (c31 : PySem.W.codeIn K cd31 "_law_thing" = true) (k31 : PySem.W.keepIn K (.ref f31) = true)
    (a32 : PySem.W.nsIn K mainGlobals "fits" = some (some (.ref f32))) (l32 : K.lookup f32 = some ⟨oc32, od32, .func (PySem.W.fnOf "fits" "fits" (defArgs st_fits) (defBody st_fits) (defScope st_fits) .none kV32 dc32 pm32 an32 cd32 ct32), sl32⟩) (c32 : PySem.W.codeIn K cd32 "fits" = true) (k32 : PySem.W.keepIn K (.ref f32) = true)
    (a33 : PySem.W.nsIn K mainGlobals "_law_sentence" = some (some (.ref f33))) (l33 : K.lookup f33 = some ⟨oc33, od33, .func (PySem.W.fnOf "_law_sentence" "_law_sentence" (defArgs st_law_sentence) (defBody st_law_sentence) (defScope st_law_sentence) .none kV33 dc33 pm33 an33 cd33 ct33), sl33⟩) (c33 : PySem.W.codeIn K cd33 "_law_sentence" = true) (k33 : PySem.W.keepIn K (.ref f33) = true)
    (a34 : PySem.W.nsIn K mainGlobals "is_formed" = some (some (.ref f34))) (l34 : K.lookup f34 = some ⟨oc34, od34, .func (PySem.W.fnOf "is_formed" "is_formed" (defArgs st_is_formed) (defBody st_is_formed) (defScope st_is_formed) .none kV34 dc34 pm34 an34 cd34 ct34), sl34⟩) (c34 : PySem.W.codeIn K cd34 "is_formed" = true) (k34 : PySem.W.keepIn K (.ref f34) = true)
    (a35 : PySem.W.nsIn K mainGlobals "is_sentence" = some (some (.ref f35))) (l35 : K.lookup f35 = some ⟨oc35, od35, .func (PySem.W.fnOf "is_sentence" "is_sentence" (defArgs st_is_sentence) (defBody st_is_sentence) (defScope st_is_sentence) .none kV35 dc35 pm35 an35 cd35 ct35), sl35⟩) (c35 : PySem.W.codeIn K cd35 "is_sentence" = true) (k35 : PySem.W.keepIn K (.ref f35) = true)
    (a36 : PySem.W.nsIn K mainGlobals "_law_fine" = some (some (.ref f36))) (l36 : K.lookup f36 = some ⟨oc36, od36, .func (PySem.W.fnOf "_law_fine" "_law_fine" (defArgs st_law_fine) (defBody st_law_fine) (defScope st_law_fine) .none kV36 dc36 pm36 an36 cd36 ct36), sl36⟩) (c36 : PySem.W.codeIn K cd36 "_law_fine" = true) (k36 : PySem.W.keepIn K (.ref f36) = true)
    (a37 : PySem.W.nsIn K mainGlobals "keeps" = some (some (.ref f37))) (l37 : K.lookup f37 = some ⟨oc37, od37, .func (PySem.W.fnOf "keeps" "keeps" (defArgs st_keeps) (defBody st_keeps) (defScope st_keeps) .none kV37 dc37 pm37 an37 cd37 ct37), sl37⟩) (c37 : PySem.W.codeIn K cd37 "keeps" = true) (k37 : PySem.W.keepIn K (.ref f37) = true)
    (a38 : PySem.W.nsIn K mainGlobals "_law_why" = some (some (.ref f38))) (l38 : K.lookup f38 = some ⟨oc38, od38, .func (PySem.W.fnOf "_law_why" "_law_why" (defArgs st_law_why) (defBody st_law_why) (defScope st_law_why) .none kV38 dc38 pm38 an38 cd38 ct38), sl38⟩) (c38 : PySem.W.codeIn K cd38 "_law_why" = true) (k38 : PySem.W.keepIn K (.ref f38) = true)
    (a39 : PySem.W.nsIn K mainGlobals "rule_weight" = some (some (.ref f39))) (l39 : K.lookup f39 = some ⟨oc39, od39, .func (PySem.W.fnOf "rule_weight" "rule_weight" (defArgs st_rule_weight) (defBody st_rule_weight) (defScope st_rule_weight) .none kV39 dc39 pm39 an39 cd39 ct39), sl39⟩) (c39 : PySem.W.codeIn K cd39 "rule_weight" = true) (k39 : PySem.W.keepIn K (.ref f39) = true)
    (a40 : PySem.W.findIn K (.ref CG0) "due" = some (some (.ref f40))) (i40 : PySem.W.isFn K (.ref f40) = true) (l40 : K.lookup f40 = some ⟨oc40, od40, .func (PySem.W.fnOf "due" "Keeper.due" (defArgs st_Keeper_due) (defBody st_Keeper_due) (defScope st_Keeper_due) .none kV40 dc40 pm40 an40 cd40 ct40), sl40⟩) (c40 : PySem.W.codeIn K cd40 "Keeper.due" = true) (k40 : PySem.W.keepIn K (.ref f40) = true)
    (a41 : PySem.W.findIn K (.ref CG0) "why_not" = some (some (.ref f41))) (i41 : PySem.W.isFn K (.ref f41) = true) (l41 : K.lookup f41 = some ⟨oc41, od41, .func (PySem.W.fnOf "why_not" "Keeper.why_not" (defArgs st_Keeper_why_not) (defBody st_Keeper_why_not) (defScope st_Keeper_why_not) .none kV41 dc41 pm41 an41 cd41 ct41), sl41⟩) (c41 : PySem.W.codeIn K cd41 "Keeper.why_not" = true) (k41 : PySem.W.keepIn K (.ref f41) = true)
    (a42 : PySem.W.findIn K (.ref CG0) "take" = some (some (.ref f42))) (i42 : PySem.W.isFn K (.ref f42) = true) (l42 : K.lookup f42 = some ⟨oc42, od42, .func (PySem.W.fnOf "take" "Keeper.take" (defArgs st_Keeper_take) (defBody st_Keeper_take) (defScope st_Keeper_take) .none kV42 dc42 pm42 an42 cd42 ct42), sl42⟩) (c42 : PySem.W.codeIn K cd42 "Keeper.take" = true) (k42 : PySem.W.keepIn K (.ref f42) = true)
    (a43 : PySem.W.findIn K (.ref CG0) "harder" = some (some (.ref f43))) (i43 : PySem.W.isFn K (.ref f43) = true) (l43 : K.lookup f43 = some ⟨oc43, od43, .func (PySem.W.fnOf "harder" "Keeper.harder" (defArgs st_Keeper_harder) (defBody st_Keeper_harder) (defScope st_Keeper_harder) .none kV43 dc43 pm43 an43 cd43 ct43), sl43⟩) (c43 : PySem.W.codeIn K cd43 "Keeper.harder" = true) (k43 : PySem.W.keepIn K (.ref f43) = true)
    (a44 : PySem.W.nsIn K mainGlobals "_law_rule" = some (some (.ref f44))) (l44 : K.lookup f44 = some ⟨oc44, od44, .func (PySem.W.fnOf "_law_rule" "_law_rule" (defArgs st_law_rule) (defBody st_law_rule) (defScope st_law_rule) .none kV44 dc44 pm44 an44 cd44 ct44), sl44⟩) (c44 : PySem.W.codeIn K cd44 "_law_rule" = true) (k44 : PySem.W.keepIn K (.ref f44) = true)
    (a45 : PySem.W.nsIn K mainGlobals "_law_stands" = some (some (.ref f45))) (l45 : K.lookup f45 = some ⟨oc45, od45, .func (PySem.W.fnOf "_law_stands" "_law_stands" (defArgs st_law_stands) (defBody st_law_stands) (defScope st_law_stands) .none kV45 dc45 pm45 an45 cd45 ct45), sl45⟩) (c45 : PySem.W.codeIn K cd45 "_law_stands" = true) (k45 : PySem.W.keepIn K (.ref f45) = true)
    (a46 : PySem.W.nsIn K mainGlobals "_law_harder" = some (some (.ref f46))) (l46 : K.lookup f46 = some ⟨oc46, od46, .func (PySem.W.fnOf "_law_harder" "_law_harder" (defArgs st_law_harder) (defBody st_law_harder) (defScope st_law_harder) .none kV46 dc46 pm46 an46 cd46 ct46), sl46⟩) (c46 : PySem.W.codeIn K cd46 "_law_harder" = true) (k46 : PySem.W.keepIn K (.ref f46) = true)
    (a47 : PySem.W.nsIn K mainGlobals "_law_deed" = some (some (.ref f47))) (l47 : K.lookup f47 = some ⟨oc47, od47, .func (PySem.W.fnOf "_law_deed" "_law_deed" (defArgs st_law_deed) (defBody st_law_deed) (defScope st_law_deed) .none kV47 dc47 pm47 an47 cd47 ct47), sl47⟩) (c47 : PySem.W.codeIn K cd47 "_law_deed" = true) (k47 : PySem.W.keepIn K (.ref f47) = true)
    (a48 : PySem.W.nsIn K mainGlobals "law" = some (some (.ref f48))) (l48 : K.lookup f48 = some ⟨oc48, od48, .func (PySem.W.fnOf "law" "law" (defArgs st_law) (defBody st_law) (defScope st_law) .none kV48 dc48 pm48 an48 cd48 ct48), sl48⟩) (c48 : PySem.W.codeIn K cd48 "law" = true) (k48 : PySem.W.keepIn K (.ref f48) = true)
    (z0 : PySem.W.nsIn K mainGlobals "ValueError" = some none)    (z1 : PySem.W.nsIn K mainGlobals "abs" = some none)    (z2 : PySem.W.nsIn K mainGlobals "all" = some none)    (z3 : PySem.W.nsIn K mainGlobals "bool" = some none)    (z4 : PySem.W.nsIn K mainGlobals "int" = some none)    (z5 : PySem.W.nsIn K mainGlobals "isinstance" = some none)    (z6 : PySem.W.nsIn K mainGlobals "len" = some none)    (z7 : PySem.W.nsIn K mainGlobals "list" = some none)    (z8 : PySem.W.nsIn K mainGlobals "max" = some none)    (z9 : PySem.W.nsIn K mainGlobals "min" = some none)    (z10 : PySem.W.nsIn K mainGlobals "range" = some none)    (z11 : PySem.W.nsIn K mainGlobals "set" = some none)    (z12 : PySem.W.nsIn K mainGlobals "str" = some none)    (z13 : PySem.W.nsIn K mainGlobals "tuple" = some none)    (z14 : PySem.W.nsIn K mainGlobals "zip" = some none)    (y0 : PySem.W.nsIn K mainGlobals "HEAVY" = some (some (.int 600 t0)))    (y1 : PySem.W.nsIn K mainGlobals "LENGTHS" = some (some (.ref dG1))) (ll1 : K.lookup dG1 = some ⟨.type "dict", none, .dict esG1 nG1, #[]⟩) (tt1 : TabI w.params esG1.toList tab_LENGTHS) (oo1 : (dG1 == sysModules) = false)    (y2 : PySem.W.nsIn K mainGlobals "LONG" = some (some (.int 24 t2)))    (y3 : PySem.W.nsIn K mainGlobals "MOST_DEEP" = some (some (.int 4 t3)))    (y4 : PySem.W.nsIn K mainGlobals "MOST_LONG" = some (some (.int 60 t4)))    (y5 : PySem.W.nsIn K mainGlobals "MOST_LOW" = some (some (.int 30 t5)))    (y6 : PySem.W.nsIn K mainGlobals "MOST_PARTS" = some (some (.int 9 t6)))    (y7 : PySem.W.nsIn K mainGlobals "MOST_PIECE" = some (some (.int 6 t7)))    {ec0 ec1 ec2 ec3 ec4 ec5 ec6 ec7 ec8 ec9 ec10 ec11 ec12 ec13 : Addr}
    (ea0 : PySem.W.nsIn K mainGlobals "Elder" = some (some (.ref ec0))) (ek0 : PySem.W.keepIn K (.ref ec0) = true) (eb0 : PySem.W.subIn K (.ref ec0) (.type "BaseException") = some true) (et0 : PySem.W.typeIn K (.ref ec0) = some (.type "type")) (ei0 : PySem.W.isClsIn K ec0 = true)
    (ea1 : PySem.W.nsIn K mainGlobals "Near" = some (some (.ref ec1))) (ek1 : PySem.W.keepIn K (.ref ec1) = true) (eb1 : PySem.W.subIn K (.ref ec1) (.type "BaseException") = some true) (et1 : PySem.W.typeIn K (.ref ec1) = some (.type "type")) (ei1 : PySem.W.isClsIn K ec1 = true)
    (ea2 : PySem.W.nsIn K mainGlobals "NoBack" = some (some (.ref ec2))) (ex2 : PySem.W.excIn K ec2 [.type "ValueError", .type "Exception", .type "BaseException", .type "object"] "ValueError.__new__" = true) (ek2 : PySem.W.keepIn K (.ref ec2) = true) (eb2 : PySem.W.subIn K (.ref ec2) (.type "BaseException") = some true) (et2 : PySem.W.typeIn K (.ref ec2) = some (.type "type")) (ei2 : PySem.W.isClsIn K ec2 = true)
    (ea3 : PySem.W.nsIn K mainGlobals "NoFit" = some (some (.ref ec3))) (ek3 : PySem.W.keepIn K (.ref ec3) = true) (eb3 : PySem.W.subIn K (.ref ec3) (.type "BaseException") = some true) (et3 : PySem.W.typeIn K (.ref ec3) = some (.type "type")) (ei3 : PySem.W.isClsIn K ec3 = true)
    (ea4 : PySem.W.nsIn K mainGlobals "NoLine" = some (some (.ref ec4))) (ek4 : PySem.W.keepIn K (.ref ec4) = true) (eb4 : PySem.W.subIn K (.ref ec4) (.type "BaseException") = some true) (et4 : PySem.W.typeIn K (.ref ec4) = some (.type "type")) (ei4 : PySem.W.isClsIn K ec4 = true)
    (ea5 : PySem.W.nsIn K mainGlobals "NoName" = some (some (.ref ec5))) (ek5 : PySem.W.keepIn K (.ref ec5) = true) (eb5 : PySem.W.subIn K (.ref ec5) (.type "BaseException") = some true) (et5 : PySem.W.typeIn K (.ref ec5) = some (.type "type")) (ei5 : PySem.W.isClsIn K ec5 = true)
    (ea6 : PySem.W.nsIn K mainGlobals "NoNumber" = some (some (.ref ec6))) (ek6 : PySem.W.keepIn K (.ref ec6) = true) (eb6 : PySem.W.subIn K (.ref ec6) (.type "BaseException") = some true) (et6 : PySem.W.typeIn K (.ref ec6) = some (.type "type")) (ei6 : PySem.W.isClsIn K ec6 = true)
    (ea7 : PySem.W.nsIn K mainGlobals "NoSentence" = some (some (.ref ec7))) (ek7 : PySem.W.keepIn K (.ref ec7) = true) (eb7 : PySem.W.subIn K (.ref ec7) (.type "BaseException") = some true) (et7 : PySem.W.typeIn K (.ref ec7) = some (.type "type")) (ei7 : PySem.W.isClsIn K ec7 = true)
    (ea8 : PySem.W.nsIn K mainGlobals "NoText" = some (some (.ref ec8))) (ek8 : PySem.W.keepIn K (.ref ec8) = true) (eb8 : PySem.W.subIn K (.ref ec8) (.type "BaseException") = some true) (et8 : PySem.W.typeIn K (.ref ec8) = some (.type "type")) (ei8 : PySem.W.isClsIn K ec8 = true)
    (ea9 : PySem.W.nsIn K mainGlobals "NoTongue" = some (some (.ref ec9))) (ek9 : PySem.W.keepIn K (.ref ec9) = true) (eb9 : PySem.W.subIn K (.ref ec9) (.type "BaseException") = some true) (et9 : PySem.W.typeIn K (.ref ec9) = some (.type "type")) (ei9 : PySem.W.isClsIn K ec9 = true)
    (ea10 : PySem.W.nsIn K mainGlobals "NoWord" = some (some (.ref ec10))) (ek10 : PySem.W.keepIn K (.ref ec10) = true) (eb10 : PySem.W.subIn K (.ref ec10) (.type "BaseException") = some true) (et10 : PySem.W.typeIn K (.ref ec10) = some (.type "type")) (ei10 : PySem.W.isClsIn K ec10 = true)
    (ea11 : PySem.W.nsIn K mainGlobals "TooMany" = some (some (.ref ec11))) (ex11 : PySem.W.excIn K ec11 [.type "ValueError", .type "Exception", .type "BaseException", .type "object"] "ValueError.__new__" = true) (ek11 : PySem.W.keepIn K (.ref ec11) = true) (eb11 : PySem.W.subIn K (.ref ec11) (.type "BaseException") = some true) (et11 : PySem.W.typeIn K (.ref ec11) = some (.type "type")) (ei11 : PySem.W.isClsIn K ec11 = true)
    (ea12 : PySem.W.nsIn K mainGlobals "TooMuch" = some (some (.ref ec12))) (ex12 : PySem.W.excIn K ec12 [.type "ValueError", .type "Exception", .type "BaseException", .type "object"] "ValueError.__new__" = true) (ek12 : PySem.W.keepIn K (.ref ec12) = true) (eb12 : PySem.W.subIn K (.ref ec12) (.type "BaseException") = some true) (et12 : PySem.W.typeIn K (.ref ec12) = some (.type "type")) (ei12 : PySem.W.isClsIn K ec12 = true)
    (ea13 : PySem.W.nsIn K mainGlobals "WordError" = some (some (.ref ec13))) (ek13 : PySem.W.keepIn K (.ref ec13) = true) (eb13 : PySem.W.subIn K (.ref ec13) (.type "BaseException") = some true) (et13 : PySem.W.typeIn K (.ref ec13) = some (.type "type")) (ei13 : PySem.W.isClsIn K ec13 = true)
    (en0 : PySem.W.specialIn K (.builtin "object.__class__") "__get__" = some (some (.builtin "getset_descriptor.__get__"))) (eo0 : PySem.W.takesIn K (.builtin "object.__class__") = some true)    (eg2 : PySem.W.findIn K (.ref ec2) "__getattribute__" = some (some (.builtin "BaseException.__getattribute__"))) (eh2 : PySem.W.findIn K (.ref ec2) "__getattr__" = some none) (ed2 : PySem.W.hasDictIn K ec2 = true) (el2 : PySem.W.findIn K (.ref ec2) "__class__" = some (some (.builtin "object.__class__"))) (em2 : PySem.W.mroIn K ec2 (.type "object") = some true)
    (ev2 : PySem.W.subIn K (.ref ec2) (.type "ValueError") = some true)
    (eg7 : PySem.W.findIn K (.ref ec7) "__getattribute__" = some (some (.builtin "BaseException.__getattribute__"))) (eh7 : PySem.W.findIn K (.ref ec7) "__getattr__" = some none) (ed7 : PySem.W.hasDictIn K ec7 = true) (el7 : PySem.W.findIn K (.ref ec7) "__class__" = some (some (.builtin "object.__class__"))) (em7 : PySem.W.mroIn K ec7 (.type "object") = some true)
    (ev7 : PySem.W.subIn K (.ref ec7) (.type "ValueError") = some true)
    (eg11 : PySem.W.findIn K (.ref ec11) "__getattribute__" = some (some (.builtin "BaseException.__getattribute__"))) (eh11 : PySem.W.findIn K (.ref ec11) "__getattr__" = some none) (ed11 : PySem.W.hasDictIn K ec11 = true) (el11 : PySem.W.findIn K (.ref ec11) "__class__" = some (some (.builtin "object.__class__"))) (em11 : PySem.W.mroIn K ec11 (.type "object") = some true)
    (ev11 : PySem.W.subIn K (.ref ec11) (.type "ValueError") = some true)
    (eg12 : PySem.W.findIn K (.ref ec12) "__getattribute__" = some (some (.builtin "BaseException.__getattribute__"))) (eh12 : PySem.W.findIn K (.ref ec12) "__getattr__" = some none) (ed12 : PySem.W.hasDictIn K ec12 = true) (el12 : PySem.W.findIn K (.ref ec12) "__class__" = some (some (.builtin "object.__class__"))) (em12 : PySem.W.mroIn K ec12 (.type "object") = some true)
    (ev12 : PySem.W.subIn K (.ref ec12) (.type "ValueError") = some true)
    (ooN0 : decide (ec2 = ec0) = false) (et90 : PySem.W.subIn K (.ref ec2) (.ref ec0) = some false)
    (ooN1 : decide (ec2 = ec1) = false) (et91 : PySem.W.subIn K (.ref ec2) (.ref ec1) = some false)
    (ooN3 : decide (ec2 = ec3) = false) (et93 : PySem.W.subIn K (.ref ec2) (.ref ec3) = some false)
    (ooN4 : decide (ec2 = ec4) = false) (et94 : PySem.W.subIn K (.ref ec2) (.ref ec4) = some false)
    (ooN5 : decide (ec2 = ec5) = false) (et95 : PySem.W.subIn K (.ref ec2) (.ref ec5) = some false)
    (ooN6 : decide (ec2 = ec6) = false) (et96 : PySem.W.subIn K (.ref ec2) (.ref ec6) = some false)
    (ooN7 : decide (ec2 = ec7) = false) (et97 : PySem.W.subIn K (.ref ec2) (.ref ec7) = some false)
    (ooN8 : decide (ec2 = ec8) = false) (et98 : PySem.W.subIn K (.ref ec2) (.ref ec8) = some false)
    (ooN9 : decide (ec2 = ec9) = false) (et99 : PySem.W.subIn K (.ref ec2) (.ref ec9) = some false)
    (ooN10 : decide (ec2 = ec10) = false) (et910 : PySem.W.subIn K (.ref ec2) (.ref ec10) = some false)
    (ooN11 : decide (ec2 = ec11) = false) (et911 : PySem.W.subIn K (.ref ec2) (.ref ec11) = some false)
    (ooN12 : decide (ec2 = ec12) = false) (et912 : PySem.W.subIn K (.ref ec2) (.ref ec12) = some false)
    (ooN13 : decide (ec7 = ec0) = false) (et913 : PySem.W.subIn K (.ref ec7) (.ref ec0) = some false)
    (ooN14 : decide (ec7 = ec1) = false) (et914 : PySem.W.subIn K (.ref ec7) (.ref ec1) = some false)
    (ooN15 : decide (ec7 = ec2) = false) (et915 : PySem.W.subIn K (.ref ec7) (.ref ec2) = some false)
    (ooN16 : decide (ec7 = ec3) = false) (et916 : PySem.W.subIn K (.ref ec7) (.ref ec3) = some false)
    (ooN17 : decide (ec7 = ec4) = false) (et917 : PySem.W.subIn K (.ref ec7) (.ref ec4) = some false)
    (ooN18 : decide (ec7 = ec5) = false) (et918 : PySem.W.subIn K (.ref ec7) (.ref ec5) = some false)
    (ooN19 : decide (ec7 = ec6) = false) (et919 : PySem.W.subIn K (.ref ec7) (.ref ec6) = some false)
    (ooN21 : decide (ec7 = ec8) = false) (et921 : PySem.W.subIn K (.ref ec7) (.ref ec8) = some false)
    (ooN22 : decide (ec7 = ec9) = false) (et922 : PySem.W.subIn K (.ref ec7) (.ref ec9) = some false)
    (ooN23 : decide (ec7 = ec10) = false) (et923 : PySem.W.subIn K (.ref ec7) (.ref ec10) = some false)
    (ooN24 : decide (ec7 = ec11) = false) (et924 : PySem.W.subIn K (.ref ec7) (.ref ec11) = some false)
    (ooN25 : decide (ec7 = ec12) = false) (et925 : PySem.W.subIn K (.ref ec7) (.ref ec12) = some false)
    (ooN26 : decide (ec11 = ec0) = false) (et926 : PySem.W.subIn K (.ref ec11) (.ref ec0) = some false)
    (ooN27 : decide (ec11 = ec1) = false) (et927 : PySem.W.subIn K (.ref ec11) (.ref ec1) = some false)
    (ooN28 : decide (ec11 = ec2) = false) (et928 : PySem.W.subIn K (.ref ec11) (.ref ec2) = some false)
    (ooN29 : decide (ec11 = ec3) = false) (et929 : PySem.W.subIn K (.ref ec11) (.ref ec3) = some false)
    (ooN30 : decide (ec11 = ec4) = false) (et930 : PySem.W.subIn K (.ref ec11) (.ref ec4) = some false)
    (ooN31 : decide (ec11 = ec5) = false) (et931 : PySem.W.subIn K (.ref ec11) (.ref ec5) = some false)
    (ooN32 : decide (ec11 = ec6) = false) (et932 : PySem.W.subIn K (.ref ec11) (.ref ec6) = some false)
    (ooN33 : decide (ec11 = ec7) = false) (et933 : PySem.W.subIn K (.ref ec11) (.ref ec7) = some false)
    (ooN34 : decide (ec11 = ec8) = false) (et934 : PySem.W.subIn K (.ref ec11) (.ref ec8) = some false)
    (ooN35 : decide (ec11 = ec9) = false) (et935 : PySem.W.subIn K (.ref ec11) (.ref ec9) = some false)
    (ooN36 : decide (ec11 = ec10) = false) (et936 : PySem.W.subIn K (.ref ec11) (.ref ec10) = some false)
    (ooN38 : decide (ec11 = ec12) = false) (et938 : PySem.W.subIn K (.ref ec11) (.ref ec12) = some false)
    (ooN39 : decide (ec12 = ec0) = false) (et939 : PySem.W.subIn K (.ref ec12) (.ref ec0) = some false)
    (ooN40 : decide (ec12 = ec1) = false) (et940 : PySem.W.subIn K (.ref ec12) (.ref ec1) = some false)
    (ooN41 : decide (ec12 = ec2) = false) (et941 : PySem.W.subIn K (.ref ec12) (.ref ec2) = some false)
    (ooN42 : decide (ec12 = ec3) = false) (et942 : PySem.W.subIn K (.ref ec12) (.ref ec3) = some false)
    (ooN43 : decide (ec12 = ec4) = false) (et943 : PySem.W.subIn K (.ref ec12) (.ref ec4) = some false)
    (ooN44 : decide (ec12 = ec5) = false) (et944 : PySem.W.subIn K (.ref ec12) (.ref ec5) = some false)
    (ooN45 : decide (ec12 = ec6) = false) (et945 : PySem.W.subIn K (.ref ec12) (.ref ec6) = some false)
    (ooN46 : decide (ec12 = ec7) = false) (et946 : PySem.W.subIn K (.ref ec12) (.ref ec7) = some false)
    (ooN47 : decide (ec12 = ec8) = false) (et947 : PySem.W.subIn K (.ref ec12) (.ref ec8) = some false)
    (ooN48 : decide (ec12 = ec9) = false) (et948 : PySem.W.subIn K (.ref ec12) (.ref ec9) = some false)
    (ooN49 : decide (ec12 = ec10) = false) (et949 : PySem.W.subIn K (.ref ec12) (.ref ec10) = some false)
    (ooN50 : decide (ec12 = ec11) = false) (et950 : PySem.W.subIn K (.ref ec12) (.ref ec11) = some false)
    (es0 : PySem.W.subIn K (.ref ec2) (.ref ec7) = some false)
    (es1 : PySem.W.subIn K (.ref ec2) (.ref ec11) = some false)
    (es2 : PySem.W.subIn K (.ref ec2) (.ref ec12) = some false)
    (es3 : PySem.W.subIn K (.ref ec2) (.ref ec13) = some true)
    (es4 : PySem.W.subIn K (.ref ec7) (.ref ec7) = some true)
    (es5 : PySem.W.subIn K (.ref ec7) (.ref ec11) = some false)
    (es6 : PySem.W.subIn K (.ref ec7) (.ref ec12) = some false)
    (es7 : PySem.W.subIn K (.ref ec7) (.ref ec13) = some true)
    (es8 : PySem.W.subIn K (.ref ec11) (.ref ec7) = some false)
    (es9 : PySem.W.subIn K (.ref ec11) (.ref ec11) = some true)
    (es10 : PySem.W.subIn K (.ref ec11) (.ref ec12) = some false)
    (es11 : PySem.W.subIn K (.ref ec11) (.ref ec13) = some true)
    (es12 : PySem.W.subIn K (.ref ec12) (.ref ec7) = some false)
    (es13 : PySem.W.subIn K (.ref ec12) (.ref ec11) = some false)
    (es14 : PySem.W.subIn K (.ref ec12) (.ref ec12) = some true)
    (es15 : PySem.W.subIn K (.ref ec12) (.ref ec13) = some true)
    {CW0 fI0 : Addr} {odI0 anI0 : Option Addr} {slI0 : Array (Option Value)} {ocI0 kVI0 dcI0 pmI0 cdI0 ctI0 : Value}
    (iw0 : PySem.W.nsIn K mainGlobals "WordError" = some (some (.ref CW0))) (oi0 : oexIn K ec7 = true) (is0 : PySem.W.findIn K (.ref ec7) "__setattr__" = some (some (.builtin "object.__setattr__"))) (ii0 : PySem.W.findIn K (.ref ec7) "__init__" = some (some (.ref fI0))) (it0 : PySem.W.typeIn K (.ref fI0) = some (.type "function")) (il0 : K.lookup fI0 = some ⟨ocI0, odI0, .func (PySem.W.fnOf "__init__" "NoSentence.__init__" (defArgs st_NoSentence) (defBody st_NoSentence) (defScope st_NoSentence) .none kVI0 dcI0 pmI0 anI0 cdI0 ctI0), slI0⟩) (ic0 : PySem.W.codeIn K cdI0 "NoSentence.__init__" = true) (ik0 : PySem.W.keepIn K (.ref fI0) = true) (in0 : PySem.W.findIn K (.ref ec7) "number" = some none) (ip0 : PySem.W.specialIn K (.ref CW0) "__getattribute__" = some (some (.builtin "type.__getattribute__"))) (oir0 : PySem.W.readsIn K CW0 (.type "type") = true) (oiv0 : PySem.W.findCls K (.ref CW0) (.type "type") "__init__" = some (.val (.builtin "ValueError.__init__")))
 :
    ∃ fd : FuncData, (∀ (s : Shared) (v : Value), BindsTo s fd ⟨[v], []⟩ [("_law_script", v)]) ∧ ∀ base : Heap, K.In base → base.Ns mainGlobals mg → FnG l.prog w K mg base 16 fa fd ["_law_script"] (spOf ⟨w, mg⟩ K 1 s_law) := by
  have e := hfa.symm.trans (PySem.W.mg_of X G a48)
  cases e
  have F1 := fun_mk (st := st_is_whole) l1 c1 k1
  have b1 := F1.binds (ps := ["thing"]) fun _ _ _ _ _ _ us hl => match us, hl with | [_], _ => rfl
  have F2 := fun_mk (st := st_signs_of) l2 c2 k2
  have b2 := F2.binds (ps := ["tongue"]) fun _ _ _ _ _ _ us hl => match us, hl with | [_], _ => rfl
  have F3 := fun_mk (st := st_parts_of) l3 c3 k3
  have b3 := F3.binds (ps := ["sentence"]) fun _ _ _ _ _ _ us hl => match us, hl with | [_], _ => rfl
  have F4 := fun_mk (st := st_plain_holds) l4 c4 k4
  have b4 := F4.binds (ps := ["tongue", "sentence", "word"]) fun _ _ _ _ _ _ us hl => match us, hl with | [_, _, _], _ => rfl
  have F5 := fun_mk (st := st_power) l5 c5 k5
  have b5 := F5.binds (ps := ["base", "many"]) fun _ _ _ _ _ _ us hl => match us, hl with | [_, _], _ => rfl
  have F6 := fun_mk (st := st_unlike_at) l6 c6 k6
  have b6 := F6.binds (ps := ["one", "other"]) fun _ _ _ _ _ _ us hl => match us, hl with | [_, _], _ => rfl
  have F7 := fun_mk (st := st_Keeper___init__) l7 c7 k7
  have b7 := F7.binds (ps := ["self", "rule", "look_back", "places"]) fun _ _ _ _ _ _ us hl => match us, hl with | [_, _, _, _], _ => rfl
  have F8 := fun_mk (st := st_Keeper_word) l8 c8 k8
  have b8 := F8.binds (ps := ["self"]) fun _ _ _ _ _ _ us hl => match us, hl with | [_], _ => rfl
  have F9 := fun_mk (st := st_Keeper_taken) l9 c9 k9
  have b9 := F9.binds (ps := ["self"]) fun _ _ _ _ _ _ us hl => match us, hl with | [_], _ => rfl
  have F10 := fun_mk (st := st_Keeper_rule) l10 c10 k10
  have b10 := F10.binds (ps := ["self"]) fun _ _ _ _ _ _ us hl => match us, hl with | [_], _ => rfl
  have F11 := fun_mk (st := st_Keeper_elder) l11 c11 k11
  have b11 := F11.binds (ps := ["self"]) fun _ _ _ _ _ _ us hl => match us, hl with | [_], _ => rfl
  have F12 := fun_mk (st := st_Keeper_undo) l12 c12 k12
  have b12 := F12.binds (ps := ["self"]) fun _ _ _ _ _ _ us hl => match us, hl with | [_], _ => rfl
  have F13 := fun_mk (st := st_law_pen) l13 c13 k13
  have b13 := F13.binds (ps := ["_law_script", "_law_k"]) fun _ _ _ _ _ _ us hl => match us, hl with | [_, _], _ => rfl
  have F14 := fun_mk (st := st_law_take) l14 c14 k14
  have b14 := F14.binds (ps := ["_law_pen_here", "_law_many"]) fun _ _ _ _ _ _ us hl => match us, hl with | [_, _], _ => rfl
  have F15 := fun_mk (st := st_law_signs) l15 c15 k15
  have b15 := F15.binds (ps := []) fun _ _ _ _ _ _ us hl => match us, hl with | [], _ => rfl
  have F16 := fun_mk (st := st_law_weight) l16 c16 k16
  have b16 := F16.binds (ps := ["_law_tongue_here", "_law_sentence_here"]) fun _ _ _ _ _ _ us hl => match us, hl with | [_, _], _ => rfl
  have F17 := fun_mk (st := st_law_plain_holds) l17 c17 k17
  have b17 := F17.binds (ps := ["_law_tongue_here", "_law_sentence_here", "_law_word_here"]) fun _ _ _ _ _ _ us hl => match us, hl with | [_, _, _], _ => rfl
  have F18 := fun_mk (st := st_has_signs) l18 c18 k18
  have b18 := F18.binds (ps := ["tongue", "text"]) fun _ _ _ _ _ _ us hl => match us, hl with | [_, _], _ => rfl
  have F19 := fun_mk (st := st_is_within) l19 c19 k19
  have b19 := F19.binds (ps := ["thing", "low", "high"]) fun _ _ _ _ _ _ us hl => match us, hl with | [_, _, _], _ => rfl
  have F20 := fun_mk (st := st_holds) l20 c20 k20
  have b20 := F20.binds (ps := ["tongue", "sentence", "word"]) fun _ _ _ _ _ _ us hl => match us, hl with | [_, _, _], _ => rfl
  have F21 := fun_mk (st := st_plain_weight) l21 c21 k21
  have b21 := F21.binds (ps := ["tongue", "sentence"]) fun _ _ _ _ _ _ us hl => match us, hl with | [_, _], _ => rfl
  have F22 := fun_mk (st := st_Keeper_is_near) l22 c22 k22
  have b22 := F22.binds (ps := ["self", "word"]) fun _ _ _ _ _ _ us hl => match us, hl with | [_, _], _ => rfl
  have F23 := fun_mk (st := st_law_tongue) l23 c23 k23
  have b23 := F23.binds (ps := ["_law_pen_here", "_law_most"]) fun _ _ _ _ _ _ us hl => match us, hl with | [_, _], _ => rfl
  have F24 := fun_mk (st := st_law_word) l24 c24 k24
  have b24 := F24.binds (ps := ["_law_pen_here", "_law_tongue_here", "_law_size"]) fun _ _ _ _ _ _ us hl => match us, hl with | [_, _, _], _ => rfl
  have F25 := fun_mk (st := st_law_holds) l25 c25 k25
  have b25 := F25.binds (ps := ["_law_tongue_here", "_law_sentence_here", "_law_word_here"]) fun _ _ _ _ _ _ us hl => match us, hl with | [_, _, _], _ => rfl
  have F26 := fun_mk (st := st_law_undone) l26 c26 k26
  have b26 := F26.binds (ps := ["_law_keeper"]) fun _ _ _ _ _ _ us hl => match us, hl with | [_], _ => rfl
  have F27 := fun_mk (st := st_is_word) l27 c27 k27
  have b27 := F27.binds (ps := ["tongue", "thing"]) fun _ _ _ _ _ _ us hl => match us, hl with | [_, _], _ => rfl
  have F28 := fun_mk (st := st_is_piece) l28 c28 k28
  have b28 := F28.binds (ps := ["tongue", "thing", "most"]) fun _ _ _ _ _ _ us hl => match us, hl with | [_, _, _], _ => rfl
  have F29 := fun_mk (st := st_weight) l29 c29 k29
  have b29 := F29.binds (ps := ["tongue", "sentence"]) fun _ _ _ _ _ _ us hl => match us, hl with | [_, _], _ => rfl
  have F30 := fun_mk (st := st_law_plain) l30 c30 k30
  have b30 := F30.binds (ps := ["_law_pen_here", "_law_tongue_here", "_law_great"]) fun _ _ _ _ _ _ us hl => match us, hl with | [_, _, _], _ => rfl
  have F31 := fun_mk (st := st_law_thing) l31 c31 k31
  have b31 := F31.binds (ps := ["_law_pen_here", "_law_tongue_here", "_law_words"]) fun _ _ _ _ _ _ us hl => match us, hl with | [_, _, _], _ => rfl
  have F32 := fun_mk (st := st_fits) l32 c32 k32
  have b32 := F32.binds (ps := ["tongue", "thing"]) fun _ _ _ _ _ _ us hl => match us, hl with | [_, _], _ => rfl
  have F33 := fun_mk (st := st_law_sentence) l33 c33 k33
  have b33 := F33.binds (ps := ["_law_pen_here", "_law_tongue_here", "_law_great", "_law_deep", "_law_room"]) fun _ _ _ _ _ _ us hl => match us, hl with | [_, _, _, _, _], _ => rfl
  have F34 := fun_mk (st := st_is_formed) l34 c34 k34
  have b34 := F34.binds (ps := ["tongue", "thing"]) fun _ _ _ _ _ _ us hl => match us, hl with | [_, _], _ => rfl
  have F35 := fun_mk (st := st_is_sentence) l35 c35 k35
  have b35 := F35.binds (ps := ["tongue", "thing"]) fun _ _ _ _ _ _ us hl => match us, hl with | [_, _], _ => rfl
  have F36 := fun_mk (st := st_law_fine) l36 c36 k36
  have b36 := F36.binds (ps := ["_law_tongue_here", "_law_sentences"]) fun _ _ _ _ _ _ us hl => match us, hl with | [_, _], _ => rfl
  have F37 := fun_mk (st := st_keeps) l37 c37 k37
  have b37 := F37.binds (ps := ["rule", "word"]) fun _ _ _ _ _ _ us hl => match us, hl with | [_, _], _ => rfl
  have F38 := fun_mk (st := st_law_why) l38 c38 k38
  have b38 := F38.binds (ps := ["_law_keeping", "_law_thing_here"]) fun _ _ _ _ _ _ us hl => match us, hl with | [_, _], _ => rfl
  have F39 := fun_mk (st := st_rule_weight) l39 c39 k39
  have b39 := F39.binds (ps := ["rule"]) fun _ _ _ _ _ _ us hl => match us, hl with | [_], _ => rfl
  have F40 := fun_mk (st := st_Keeper_due) l40 c40 k40
  have b40 := F40.binds (ps := ["self"]) fun _ _ _ _ _ _ us hl => match us, hl with | [_], _ => rfl
  have F41 := fun_mk (st := st_Keeper_why_not) l41 c41 k41
  have b41 := F41.binds (ps := ["self", "thing"]) fun _ _ _ _ _ _ us hl => match us, hl with | [_, _], _ => rfl
  have F42 := fun_mk (st := st_Keeper_take) l42 c42 k42
  have b42 := F42.binds (ps := ["self", "word"]) fun _ _ _ _ _ _ us hl => match us, hl with | [_, _], _ => rfl
  have F43 := fun_mk (st := st_Keeper_harder) l43 c43 k43
  have b43 := F43.binds (ps := ["self", "sentence"]) fun _ _ _ _ _ _ us hl => match us, hl with | [_, _], _ => rfl
  have F44 := fun_mk (st := st_law_rule) l44 c44 k44
  have b44 := F44.binds (ps := ["_law_pen_here", "_law_tongue_here", "_law_most", "_law_many"]) fun _ _ _ _ _ _ us hl => match us, hl with | [_, _, _, _], _ => rfl
  have F45 := fun_mk (st := st_law_stands) l45 c45 k45
  have b45 := F45.binds (ps := ["_law_keeper", "_law_keeping", "_law_things"]) fun _ _ _ _ _ _ us hl => match us, hl with | [_, _, _], _ => rfl
  have F46 := fun_mk (st := st_law_harder) l46 c46 k46
  have b46 := F46.binds (ps := ["_law_keeper", "_law_sentence_here"]) fun _ _ _ _ _ _ us hl => match us, hl with | [_, _], _ => rfl
  have F47 := fun_mk (st := st_law_deed) l47 c47 k47
  have b47 := F47.binds (ps := ["_law_pen_here", "_law_keeper", "_law_keeping", "_law_ahead", "_law_thing_here"]) fun _ _ _ _ _ _ us hl => match us, hl with | [_, _, _, _, _], _ => rfl
  have F48 := fun_mk (st := st_law) l48 c48 k48
  have b48 := F48.binds (ps := ["_law_script"]) fun _ _ _ _ _ _ us hl => match us, hl with | [_], _ => rfl
  have m_ValueError := PySem.W.mg_none_of X G z0
  have m_abs := PySem.W.mg_none_of X G z1
  have m_all := PySem.W.mg_none_of X G z2
  have m_bool := PySem.W.mg_none_of X G z3
  have m_int := PySem.W.mg_none_of X G z4
  have m_isinstance := PySem.W.mg_none_of X G z5
  have m_len := PySem.W.mg_none_of X G z6
  have m_list := PySem.W.mg_none_of X G z7
  have m_max := PySem.W.mg_none_of X G z8
  have m_min := PySem.W.mg_none_of X G z9
  have m_range := PySem.W.mg_none_of X G z10
  have m_set := PySem.W.mg_none_of X G z11
  have m_str := PySem.W.mg_none_of X G z12
  have m_tuple := PySem.W.mg_none_of X G z13
  have m_zip := PySem.W.mg_none_of X G z14
  have g_HEAVY : ∃ u, mg "HEAVY" = some u ∧ RelV (.int 600) u := ⟨_, PySem.W.mg_of X G y0, ⟨_, rfl⟩⟩
  have g_LENGTHS : KTab K w.params dG1 tab_LENGTHS ∧ mg "LENGTHS" = some (.ref dG1) := ⟨⟨⟨_, _, ll1, tt1⟩, oo1⟩, PySem.W.mg_of X G y1⟩
  have g_LONG : ∃ u, mg "LONG" = some u ∧ RelV (.int 24) u := ⟨_, PySem.W.mg_of X G y2, ⟨_, rfl⟩⟩
  have g_MOST_DEEP : ∃ u, mg "MOST_DEEP" = some u ∧ RelV (.int 4) u := ⟨_, PySem.W.mg_of X G y3, ⟨_, rfl⟩⟩
  have g_MOST_LONG : ∃ u, mg "MOST_LONG" = some u ∧ RelV (.int 60) u := ⟨_, PySem.W.mg_of X G y4, ⟨_, rfl⟩⟩
  have g_MOST_LOW : ∃ u, mg "MOST_LOW" = some u ∧ RelV (.int 30) u := ⟨_, PySem.W.mg_of X G y5, ⟨_, rfl⟩⟩
  have g_MOST_PARTS : ∃ u, mg "MOST_PARTS" = some u ∧ RelV (.int 9) u := ⟨_, PySem.W.mg_of X G y6, ⟨_, rfl⟩⟩
  have g_MOST_PIECE : ∃ u, mg "MOST_PIECE" = some u ∧ RelV (.int 6) u := ⟨_, PySem.W.mg_of X G y7, ⟨_, rfl⟩⟩
  have k_Keeper : ClsF K mg "Keeper" ["its_rule", "look", "unlike", "words", "deeds"] := ⟨CG0, PySem.W.mg_of X G ca0, ⟨cp0, ch0, co0, cs0⟩, List.forall_mem_cons.mpr ⟨cn0_0, List.forall_mem_cons.mpr ⟨cn0_1, List.forall_mem_cons.mpr ⟨cn0_2, List.forall_mem_cons.mpr ⟨cn0_3, List.forall_mem_cons.mpr ⟨cn0_4, fun _ h => nomatch h⟩⟩⟩⟩⟩⟩
  have e_NoBack : ExcF K mg "NoBack" := ⟨_, PySem.W.mg_of X G ea2, ex2, ek2, eb2, et2⟩
  have h_NoSentence := PySem.W.mg_of X G ea7
  have e_TooMany : ExcF K mg "TooMany" := ⟨_, PySem.W.mg_of X G ea11, ex11, ek11, eb11, et11⟩
  have h_TooMany := PySem.W.mg_of X G ea11
  have e_TooMuch : ExcF K mg "TooMuch" := ⟨_, PySem.W.mg_of X G ea12, ex12, ek12, eb12, et12⟩
  have h_TooMuch := PySem.W.mg_of X G ea12
  have h_WordError := PySem.W.mg_of X G ea13
  have sf : SubF K mg subE := subF_cons (PySem.W.mg_of X G ea2) (PySem.W.mg_of X G ea7) (exm_of eb7 ei7 et7 es0) (subF_cons (PySem.W.mg_of X G ea2) (PySem.W.mg_of X G ea11) (exm_of eb11 ei11 et11 es1) (subF_cons (PySem.W.mg_of X G ea2) (PySem.W.mg_of X G ea12) (exm_of eb12 ei12 et12 es2) (subF_cons (PySem.W.mg_of X G ea2) (PySem.W.mg_of X G ea13) (exm_of eb13 ei13 et13 es3) (subF_cons (PySem.W.mg_of X G ea7) (PySem.W.mg_of X G ea7) (exm_of eb7 ei7 et7 es4) (subF_cons (PySem.W.mg_of X G ea7) (PySem.W.mg_of X G ea11) (exm_of eb11 ei11 et11 es5) (subF_cons (PySem.W.mg_of X G ea7) (PySem.W.mg_of X G ea12) (exm_of eb12 ei12 et12 es6) (subF_cons (PySem.W.mg_of X G ea7) (PySem.W.mg_of X G ea13) (exm_of eb13 ei13 et13 es7) (subF_cons (PySem.W.mg_of X G ea11) (PySem.W.mg_of X G ea7) (exm_of eb7 ei7 et7 es8) (subF_cons (PySem.W.mg_of X G ea11) (PySem.W.mg_of X G ea11) (exm_of eb11 ei11 et11 es9) (subF_cons (PySem.W.mg_of X G ea11) (PySem.W.mg_of X G ea12) (exm_of eb12 ei12 et12 es10) (subF_cons (PySem.W.mg_of X G ea11) (PySem.W.mg_of X G ea13) (exm_of eb13 ei13 et13 es11) (subF_cons (PySem.W.mg_of X G ea12) (PySem.W.mg_of X G ea7) (exm_of eb7 ei7 et7 es12) (subF_cons (PySem.W.mg_of X G ea12) (PySem.W.mg_of X G ea11) (exm_of eb11 ei11 et11 es13) (subF_cons (PySem.W.mg_of X G ea12) (PySem.W.mg_of X G ea12) (exm_of eb12 ei12 et12 es14) (subF_cons (PySem.W.mg_of X G ea12) (PySem.W.mg_of X G ea13) (exm_of eb13 ei13 et13 es15) (subF_nil))))))))))))))))
  have q_Elder := PySem.W.mg_of X G ea0
  have q_Near := PySem.W.mg_of X G ea1
  have q_NoBack := PySem.W.mg_of X G ea2
  have q_NoFit := PySem.W.mg_of X G ea3
  have q_NoLine := PySem.W.mg_of X G ea4
  have q_NoName := PySem.W.mg_of X G ea5
  have q_NoNumber := PySem.W.mg_of X G ea6
  have q_NoSentence := PySem.W.mg_of X G ea7
  have q_NoText := PySem.W.mg_of X G ea8
  have q_NoTongue := PySem.W.mg_of X G ea9
  have q_NoWord := PySem.W.mg_of X G ea10
  have q_TooMany := PySem.W.mg_of X G ea11
  have q_TooMuch := PySem.W.mg_of X G ea12
  have xc2 : ExcC K ec2 := ⟨eg2, eh2, eb2, ed2, el2, en0, eo0, em2⟩
  have xc7 : ExcC K ec7 := ⟨eg7, eh7, eb7, ed7, el7, en0, eo0, em7⟩
  have xc11 : ExcC K ec11 := ⟨eg11, eh11, eb11, ed11, el11, en0, eo0, em11⟩
  have xc12 : ExcC K ec12 := ⟨eg12, eh12, eb12, ed12, el12, en0, eo0, em12⟩
  have isf : IsF K mg isubE := isF_cons (PySem.W.mg_of X G ea2) (PySem.W.mg_of X G ea0) (by decide) xc2 (kit_ne ooN0 ei0 et0 et90) (isF_cons (PySem.W.mg_of X G ea2) (PySem.W.mg_of X G ea1) (by decide) xc2 (kit_ne ooN1 ei1 et1 et91) (isF_cons (PySem.W.mg_of X G ea2) (PySem.W.mg_of X G ea2) (by decide) xc2 kit_self (isF_cons (PySem.W.mg_of X G ea2) (PySem.W.mg_of X G ea3) (by decide) xc2 (kit_ne ooN3 ei3 et3 et93) (isF_cons (PySem.W.mg_of X G ea2) (PySem.W.mg_of X G ea4) (by decide) xc2 (kit_ne ooN4 ei4 et4 et94) (isF_cons (PySem.W.mg_of X G ea2) (PySem.W.mg_of X G ea5) (by decide) xc2 (kit_ne ooN5 ei5 et5 et95) (isF_cons (PySem.W.mg_of X G ea2) (PySem.W.mg_of X G ea6) (by decide) xc2 (kit_ne ooN6 ei6 et6 et96) (isF_cons (PySem.W.mg_of X G ea2) (PySem.W.mg_of X G ea7) (by decide) xc2 (kit_ne ooN7 ei7 et7 et97) (isF_cons (PySem.W.mg_of X G ea2) (PySem.W.mg_of X G ea8) (by decide) xc2 (kit_ne ooN8 ei8 et8 et98) (isF_cons (PySem.W.mg_of X G ea2) (PySem.W.mg_of X G ea9) (by decide) xc2 (kit_ne ooN9 ei9 et9 et99) (isF_cons (PySem.W.mg_of X G ea2) (PySem.W.mg_of X G ea10) (by decide) xc2 (kit_ne ooN10 ei10 et10 et910) (isF_cons (PySem.W.mg_of X G ea2) (PySem.W.mg_of X G ea11) (by decide) xc2 (kit_ne ooN11 ei11 et11 et911) (isF_cons (PySem.W.mg_of X G ea2) (PySem.W.mg_of X G ea12) (by decide) xc2 (kit_ne ooN12 ei12 et12 et912) (isF_cons (PySem.W.mg_of X G ea7) (PySem.W.mg_of X G ea0) (by decide) xc7 (kit_ne ooN13 ei0 et0 et913) (isF_cons (PySem.W.mg_of X G ea7) (PySem.W.mg_of X G ea1) (by decide) xc7 (kit_ne ooN14 ei1 et1 et914) (isF_cons (PySem.W.mg_of X G ea7) (PySem.W.mg_of X G ea2) (by decide) xc7 (kit_ne ooN15 ei2 et2 et915) (isF_cons (PySem.W.mg_of X G ea7) (PySem.W.mg_of X G ea3) (by decide) xc7 (kit_ne ooN16 ei3 et3 et916) (isF_cons (PySem.W.mg_of X G ea7) (PySem.W.mg_of X G ea4) (by decide) xc7 (kit_ne ooN17 ei4 et4 et917) (isF_cons (PySem.W.mg_of X G ea7) (PySem.W.mg_of X G ea5) (by decide) xc7 (kit_ne ooN18 ei5 et5 et918) (isF_cons (PySem.W.mg_of X G ea7) (PySem.W.mg_of X G ea6) (by decide) xc7 (kit_ne ooN19 ei6 et6 et919) (isF_cons (PySem.W.mg_of X G ea7) (PySem.W.mg_of X G ea7) (by decide) xc7 kit_self (isF_cons (PySem.W.mg_of X G ea7) (PySem.W.mg_of X G ea8) (by decide) xc7 (kit_ne ooN21 ei8 et8 et921) (isF_cons (PySem.W.mg_of X G ea7) (PySem.W.mg_of X G ea9) (by decide) xc7 (kit_ne ooN22 ei9 et9 et922) (isF_cons (PySem.W.mg_of X G ea7) (PySem.W.mg_of X G ea10) (by decide) xc7 (kit_ne ooN23 ei10 et10 et923) (isF_cons (PySem.W.mg_of X G ea7) (PySem.W.mg_of X G ea11) (by decide) xc7 (kit_ne ooN24 ei11 et11 et924) (isF_cons (PySem.W.mg_of X G ea7) (PySem.W.mg_of X G ea12) (by decide) xc7 (kit_ne ooN25 ei12 et12 et925) (isF_cons (PySem.W.mg_of X G ea11) (PySem.W.mg_of X G ea0) (by decide) xc11 (kit_ne ooN26 ei0 et0 et926) (isF_cons (PySem.W.mg_of X G ea11) (PySem.W.mg_of X G ea1) (by decide) xc11 (kit_ne ooN27 ei1 et1 et927) (isF_cons (PySem.W.mg_of X G ea11) (PySem.W.mg_of X G ea2) (by decide) xc11 (kit_ne ooN28 ei2 et2 et928) (isF_cons (PySem.W.mg_of X G ea11) (PySem.W.mg_of X G ea3) (by decide) xc11 (kit_ne ooN29 ei3 et3 et929) (isF_cons (PySem.W.mg_of X G ea11) (PySem.W.mg_of X G ea4) (by decide) xc11 (kit_ne ooN30 ei4 et4 et930) (isF_cons (PySem.W.mg_of X G ea11) (PySem.W.mg_of X G ea5) (by decide) xc11 (kit_ne ooN31 ei5 et5 et931) (isF_cons (PySem.W.mg_of X G ea11) (PySem.W.mg_of X G ea6) (by decide) xc11 (kit_ne ooN32 ei6 et6 et932) (isF_cons (PySem.W.mg_of X G ea11) (PySem.W.mg_of X G ea7) (by decide) xc11 (kit_ne ooN33 ei7 et7 et933) (isF_cons (PySem.W.mg_of X G ea11) (PySem.W.mg_of X G ea8) (by decide) xc11 (kit_ne ooN34 ei8 et8 et934) (isF_cons (PySem.W.mg_of X G ea11) (PySem.W.mg_of X G ea9) (by decide) xc11 (kit_ne ooN35 ei9 et9 et935) (isF_cons (PySem.W.mg_of X G ea11) (PySem.W.mg_of X G ea10) (by decide) xc11 (kit_ne ooN36 ei10 et10 et936) (isF_cons (PySem.W.mg_of X G ea11) (PySem.W.mg_of X G ea11) (by decide) xc11 kit_self (isF_cons (PySem.W.mg_of X G ea11) (PySem.W.mg_of X G ea12) (by decide) xc11 (kit_ne ooN38 ei12 et12 et938) (isF_cons (PySem.W.mg_of X G ea12) (PySem.W.mg_of X G ea0) (by decide) xc12 (kit_ne ooN39 ei0 et0 et939) (isF_cons (PySem.W.mg_of X G ea12) (PySem.W.mg_of X G ea1) (by decide) xc12 (kit_ne ooN40 ei1 et1 et940) (isF_cons (PySem.W.mg_of X G ea12) (PySem.W.mg_of X G ea2) (by decide) xc12 (kit_ne ooN41 ei2 et2 et941) (isF_cons (PySem.W.mg_of X G ea12) (PySem.W.mg_of X G ea3) (by decide) xc12 (kit_ne ooN42 ei3 et3 et942) (isF_cons (PySem.W.mg_of X G ea12) (PySem.W.mg_of X G ea4) (by decide) xc12 (kit_ne ooN43 ei4 et4 et943) (isF_cons (PySem.W.mg_of X G ea12) (PySem.W.mg_of X G ea5) (by decide) xc12 (kit_ne ooN44 ei5 et5 et944) (isF_cons (PySem.W.mg_of X G ea12) (PySem.W.mg_of X G ea6) (by decide) xc12 (kit_ne ooN45 ei6 et6 et945) (isF_cons (PySem.W.mg_of X G ea12) (PySem.W.mg_of X G ea7) (by decide) xc12 (kit_ne ooN46 ei7 et7 et946) (isF_cons (PySem.W.mg_of X G ea12) (PySem.W.mg_of X G ea8) (by decide) xc12 (kit_ne ooN47 ei8 et8 et947) (isF_cons (PySem.W.mg_of X G ea12) (PySem.W.mg_of X G ea9) (by decide) xc12 (kit_ne ooN48 ei9 et9 et948) (isF_cons (PySem.W.mg_of X G ea12) (PySem.W.mg_of X G ea10) (by decide) xc12 (kit_ne ooN49 ei10 et10 et949) (isF_cons (PySem.W.mg_of X G ea12) (PySem.W.mg_of X G ea11) (by decide) xc12 (kit_ne ooN50 ei11 et11 et950) (isF_cons (PySem.W.mg_of X G ea12) (PySem.W.mg_of X G ea12) (by decide) xc12 kit_self (isF_val (PySem.W.mg_of X G ea2) m_ValueError xc2 (kit_val ev2) (isF_val (PySem.W.mg_of X G ea7) m_ValueError xc7 (kit_val ev7) (isF_val (PySem.W.mg_of X G ea11) m_ValueError xc11 (kit_val ev11) (isF_val (PySem.W.mg_of X G ea12) m_ValueError xc12 (kit_val ev12) (isF_nil))))))))))))))))))))))))))))))))))))))))))))))))))))))))
  refine ⟨PySem.W.fnOf "law" "law" (defArgs st_law) (defBody st_law) (defScope st_law) .none kV48 dc48 pm48 an48 cd48 ct48, fun s v => .of_eq rfl, fun base _ _ => ?_⟩
  have FI0 := fun_mk (st := st_NoSentence) il0 ic0 ik0
  have bI0 := FI0.binds (ps := ["self", "number"]) fun _ _ _ _ _ _ us hl => match us, hl with | [_, _], _ => rfl
  have i_NoSentence : IniF l.prog w K mg base 1 "NoSentence" "number" := ok_NoSentence FI0 (PySem.W.mg_of X G ea7) (PySem.W.mg_of X G iw0) (oexC_of oi0 is0 eb7 et7 ek7) ii0 it0 in0 bI0 ip0 oir0 oiv0
  have c_is_whole : Cal l.prog w K mg base 1 "is_whole" 1 s_is_whole := ok_is_whole F1 (PySem.W.mg_of X G a1) b1 m_bool m_int m_isinstance
  have c_signs_of : Cal l.prog w K mg base 1 "signs_of" 1 s_signs_of := ok_signs_of F2 (PySem.W.mg_of X G a2) b2 
  have c_parts_of : Cal l.prog w K mg base 1 "parts_of" 1 s_parts_of := ok_parts_of F3 (PySem.W.mg_of X G a3) b3 m_list
  have c_plain_holds : Cal l.prog w K mg base 1 "plain_holds" 3 s_plain_holds := ok_plain_holds F4 (PySem.W.mg_of X G a4) b4 m_all m_len m_zip
  have c_power : Cal l.prog w K mg base 1 "power" 2 s_power := ok_power F5 (PySem.W.mg_of X G a5) b5 m_range
  have c_unlike_at : Cal l.prog w K mg base 1 "unlike_at" 2 s_unlike_at := ok_unlike_at F6 (PySem.W.mg_of X G a6) b6 m_len m_range
  have c_Keeper___init__ : MakG l.prog w K mg base 1 "Keeper" 4 s_Keeper___init__ := ok_Keeper___init__ F7 (PySem.W.mg_of X G ca0) ⟨cm0, a7, i7, ck0⟩ b7 k_Keeper
  have c_Keeper_word : Met' l.prog w K mg base 1 "Keeper" "word" 1 s_Keeper_word := ok_Keeper_word F8 (PySem.W.mg_of X G ca0) ⟨cp0, ch0, co0, cs0⟩ ⟨a8, i8, k8⟩ b8 k_Keeper
  have c_Keeper_taken : Met' l.prog w K mg base 1 "Keeper" "taken" 1 s_Keeper_taken := ok_Keeper_taken F9 (PySem.W.mg_of X G ca0) ⟨cp0, ch0, co0, cs0⟩ ⟨a9, i9, k9⟩ b9 m_list k_Keeper
  have c_Keeper_rule : Met' l.prog w K mg base 1 "Keeper" "rule" 1 s_Keeper_rule := ok_Keeper_rule F10 (PySem.W.mg_of X G ca0) ⟨cp0, ch0, co0, cs0⟩ ⟨a10, i10, k10⟩ b10 k_Keeper
  have c_Keeper_elder : Met' l.prog w K mg base 1 "Keeper" "elder" 1 s_Keeper_elder := ok_Keeper_elder F11 (PySem.W.mg_of X G ca0) ⟨cp0, ch0, co0, cs0⟩ ⟨a11, i11, k11⟩ b11 m_len m_max k_Keeper
  have c_Keeper_undo : MetX l.prog w K mg base 1 "Keeper" "undo" 1 s_Keeper_undo := ok_Keeper_undo F12 (PySem.W.mg_of X G ca0) ⟨cp0, ch0, co0, cs0⟩ ⟨a12, i12, k12⟩ b12 k_Keeper e_NoBack
  have c_law_pen : Cal l.prog w K mg base 1 "_law_pen" 2 s_law_pen := ok_law_pen F13 (PySem.W.mg_of X G a13) b13 m_abs m_len
  have c_law_take : Cal l.prog w K mg base 1 "_law_take" 2 s_law_take := ok_law_take F14 (PySem.W.mg_of X G a14) b14 
  have c_law_signs : Cal l.prog w K mg base 1 "_law_signs" 0 s_law_signs := ok_law_signs F15 (PySem.W.mg_of X G a15) b15 
  have c_law_weight : Cal l.prog w K mg base 9 "_law_weight" 2 (s_law_weight 8) := ok_law_weight F16 (PySem.W.mg_of X G a16) b16 m_int m_len 8
  have c_law_plain_holds : Cal l.prog w K mg base 1 "_law_plain_holds" 3 s_law_plain_holds := ok_law_plain_holds F17 (PySem.W.mg_of X G a17) b17 m_len m_max m_range
  have c_has_signs : Cal l.prog w K mg base 2 "has_signs" 2 s_has_signs := ok_has_signs F18 (PySem.W.mg_of X G a18) b18 m_all c_signs_of
  have c_is_within : Cal l.prog w K mg base 2 "is_within" 3 s_is_within := ok_is_within F19 (PySem.W.mg_of X G a19) b19 c_is_whole
  have c_holds : Cal l.prog w K mg base 10 "holds" 3 (s_holds 8) := ok_holds F20 (PySem.W.mg_of X G a20) b20 c_parts_of c_plain_holds 8
  have c_plain_weight : Cal l.prog w K mg base 2 "plain_weight" 2 s_plain_weight := ok_plain_weight F21 (PySem.W.mg_of X G a21) b21 m_len c_signs_of c_power
  have c_Keeper_is_near : Met' l.prog w K mg base 2 "Keeper" "is_near" 2 s_Keeper_is_near := ok_Keeper_is_near F22 (PySem.W.mg_of X G ca0) ⟨cp0, ch0, co0, cs0⟩ ⟨a22, i22, k22⟩ b22 m_len k_Keeper c_unlike_at c_Keeper_word
  have c_law_tongue : Cal l.prog w K mg base 2 "_law_tongue" 2 s_law_tongue := ok_law_tongue F23 (PySem.W.mg_of X G a23) b23 m_len m_list m_min m_range m_tuple c_law_take c_law_signs
  have c_law_word : Cal l.prog w K mg base 2 "_law_word" 3 s_law_word := ok_law_word F24 (PySem.W.mg_of X G a24) b24 m_len m_range c_law_take
  have c_law_holds : Cal l.prog w K mg base 10 "_law_holds" 3 (s_law_holds 8) := ok_law_holds F25 (PySem.W.mg_of X G a25) b25 m_int c_law_plain_holds 8
  have c_law_undone : Cal l.prog w K mg base 2 "_law_undone" 1 s_law_undone := ok_law_undone F26 (PySem.W.mg_of X G a26) b26 m_ValueError m_int m_isinstance h_WordError sf q_Elder q_Near q_NoBack q_NoFit q_NoLine q_NoName q_NoNumber q_NoSentence q_NoText q_NoTongue q_NoWord q_TooMany q_TooMuch isf c_Keeper_undo
  have c_is_word : Cal l.prog w K mg base 3 "is_word" 2 s_is_word := ok_is_word F27 (PySem.W.mg_of X G a27) b27 m_isinstance m_len m_str g_MOST_LONG c_has_signs
  have c_is_piece : Cal l.prog w K mg base 3 "is_piece" 3 s_is_piece := ok_is_piece F28 (PySem.W.mg_of X G a28) b28 m_isinstance m_len m_str c_has_signs
  have c_weight : Cal l.prog w K mg base 11 "weight" 2 (s_weight 8) := ok_weight F29 (PySem.W.mg_of X G a29) b29 c_parts_of c_plain_weight 8
  have c_law_plain : Cal l.prog w K mg base 3 "_law_plain" 3 s_law_plain := ok_law_plain F30 (PySem.W.mg_of X G a30) b30 m_len m_list m_min m_range c_law_take c_law_word
  have c_law_thing : Cal l.prog w K mg base 3 "_law_thing" 3 s_law_thing := ok_law_thing F31 (PySem.W.mg_of X G a31) b31 m_int m_len m_list m_min m_range c_law_take c_law_signs c_law_word
  have c_fits : Cal l.prog w K mg base 4 "fits" 2 s_fits := ok_fits F32 (PySem.W.mg_of X G a32) b32 m_len m_set g_MOST_LOW g_MOST_PIECE c_is_within c_is_piece
  have c_law_sentence : Cal l.prog w K mg base 12 "_law_sentence" 5 (s_law_sentence 8) := ok_law_sentence F33 (PySem.W.mg_of X G a33) b33 c_law_take c_law_plain 8
  have c_is_formed : Cal l.prog w K mg base 5 "is_formed" 2 s_is_formed := ok_is_formed F34 (PySem.W.mg_of X G a34) b34 m_isinstance m_len m_str m_tuple g_LENGTHS c_fits
  have c_is_sentence : Cal l.prog w K mg base 6 "is_sentence" 2 s_is_sentence := ok_is_sentence F35 (PySem.W.mg_of X G a35) b35 m_all m_len m_range g_MOST_DEEP g_MOST_PARTS c_parts_of c_is_formed
  have c_law_fine : Cal l.prog w K mg base 10 "_law_fine" 2 s_law_fine := ok_law_fine F36 (PySem.W.mg_of X G a36) b36 m_len c_law_weight
  have c_keeps : Cal l.prog w K mg base 11 "keeps" 2 s_keeps := ok_keeps F37 (PySem.W.mg_of X G a37) b37 m_all c_holds
  have c_law_why : Cal l.prog w K mg base 11 "_law_why" 2 s_law_why := ok_law_why F38 (PySem.W.mg_of X G a38) b38 m_isinstance m_len m_range m_str c_law_holds
  have c_rule_weight : Cal l.prog w K mg base 12 "rule_weight" 1 s_rule_weight := ok_rule_weight F39 (PySem.W.mg_of X G a39) b39 c_weight
  have c_Keeper_due : Met' l.prog w K mg base 12 "Keeper" "due" 1 s_Keeper_due := ok_Keeper_due F40 (PySem.W.mg_of X G ca0) ⟨cp0, ch0, co0, cs0⟩ ⟨a40, i40, k40⟩ b40 k_Keeper c_keeps
  have c_Keeper_why_not : Met' l.prog w K mg base 12 "Keeper" "why_not" 2 s_Keeper_why_not := ok_Keeper_why_not F41 (PySem.W.mg_of X G ca0) ⟨cp0, ch0, co0, cs0⟩ ⟨a41, i41, k41⟩ b41 m_len k_Keeper g_LONG c_Keeper_elder c_Keeper_is_near c_is_word c_keeps
  have c_Keeper_take : Met' l.prog w K mg base 13 "Keeper" "take" 2 s_Keeper_take := ok_Keeper_take F42 (PySem.W.mg_of X G ca0) ⟨cp0, ch0, co0, cs0⟩ ⟨a42, i42, k42⟩ b42 k_Keeper c_Keeper_why_not
  have c_Keeper_harder : MetX l.prog w K mg base 13 "Keeper" "harder" 2 s_Keeper_harder := ok_Keeper_harder F43 (PySem.W.mg_of X G ca0) ⟨cp0, ch0, co0, cs0⟩ ⟨a43, i43, k43⟩ b43 m_len k_Keeper g_HEAVY e_TooMany e_TooMuch i_NoSentence c_is_sentence c_rule_weight
  have c_law_rule : Cal l.prog w K mg base 13 "_law_rule" 4 s_law_rule := ok_law_rule F44 (PySem.W.mg_of X G a44) b44 m_range m_tuple c_law_take c_law_weight c_law_sentence
  have c_law_stands : Cal l.prog w K mg base 13 "_law_stands" 3 s_law_stands := ok_law_stands F45 (PySem.W.mg_of X G a45) b45 c_Keeper_word c_Keeper_taken c_Keeper_rule c_law_holds c_law_why c_Keeper_due c_Keeper_why_not
  have c_law_harder : CalX l.prog w K mg base 14 "_law_harder" 2 s_law_harder := ok_law_harder F46 (PySem.W.mg_of X G a46) b46 h_NoSentence h_TooMany h_TooMuch sf c_Keeper_harder
  have c_law_deed : CalX l.prog w K mg base 15 "_law_deed" 5 s_law_deed := ok_law_deed F47 (PySem.W.mg_of X G a47) b47 c_law_take c_law_undone c_law_fine c_law_why c_Keeper_why_not c_Keeper_take c_law_harder
  exact okF_law F48 m_len m_max m_min m_range c_Keeper___init__ c_law_pen c_law_take c_law_tongue c_law_undone c_law_thing c_law_rule c_law_stands c_law_deed
end A_k53
open PySem PySem.W PyProof.Rows
set_option maxHeartbeats 0 in
theorem PySem.Challenge.cw_wordrules_k53_undone_holds : PySem.Challenge.rw_wordrules_k53_undone.Holds := by
  w_on; o_law; k_head; (case hw => w_witness2)
  k_fill
  refine AL.walk_G (l := PySem.Challenge.rw_wordrules_k53_undone) (n := 63) (k := 16) (x := "_law_script") (sp := fun w mg => AL.spOf ⟨w, mg⟩ _ 1 A_k53.s_law) rfl (by decide) rfl ⟨rfl, by decide, by decide⟩ (fun w h Y => PySem.W.kIn_of Y) ?F (fun _ _ H a ns hl _ hS => AL.law_sp A_k53.law_true _ _ H a ns hl hS)
  case F =>
    intro w mg fa h KX G hmg
    refine' A_k53.all_mk KX G hmg ?ca0 ?cp0 ?ch0 ?co0 ?cs0 ?cm0 ?ck0 ?cn0_0 ?cn0_1 ?cn0_2 ?cn0_3 ?cn0_4 ?a1 ?l1 ?c1 ?k1 ?a2 ?l2 ?c2 ?k2 ?a3 ?l3 ?c3 ?k3 ?a4 ?l4 ?c4 ?k4 ?a5 ?l5 ?c5 ?k5 ?a6 ?l6 ?c6 ?k6 ?a7 ?i7 ?l7 ?c7 ?k7 ?a8 ?i8 ?l8 ?c8 ?k8 ?a9 ?i9 ?l9 ?c9 ?k9 ?a10 ?i10 ?l10 ?c10 ?k10 ?a11 ?i11 ?l11 ?c11 ?k11 ?a12 ?i12 ?l12 ?c12 ?k12 ?a13 ?l13 ?c13 ?k13 ?a14 ?l14 ?c14 ?k14 ?a15 ?l15 ?c15 ?k15 ?a16 ?l16 ?c16 ?k16 ?a17 ?l17 ?c17 ?k17 ?a18 ?l18 ?c18 ?k18 ?a19 ?l19 ?c19 ?k19 ?a20 ?l20 ?c20 ?k20 ?a21 ?l21 ?c21 ?k21 ?a22 ?i22 ?l22 ?c22 ?k22 ?a23 ?l23 ?c23 ?k23 ?a24 ?l24 ?c24 ?k24 ?a25 ?l25 ?c25 ?k25 ?a26 ?l26 ?c26 ?k26 ?a27 ?l27 ?c27 ?k27 ?a28 ?l28 ?c28 ?k28 ?a29 ?l29 ?c29 ?k29 ?a30 ?l30 ?c30 ?k30 ?a31 ?l31 ?c31 ?k31 ?a32 ?l32 ?c32 ?k32 ?a33 ?l33 ?c33 ?k33 ?a34 ?l34 ?c34 ?k34 ?a35 ?l35 ?c35 ?k35 ?a36 ?l36 ?c36 ?k36 ?a37 ?l37 ?c37 ?k37 ?a38 ?l38 ?c38 ?k38 ?a39 ?l39 ?c39 ?k39 ?a40 ?i40 ?l40 ?c40 ?k40 ?a41 ?i41 ?l41 ?c41 ?k41 ?a42 ?i42 ?l42 ?c42 ?k42 ?a43 ?i43 ?l43 ?c43 ?k43 ?a44 ?l44 ?c44 ?k44 ?a45 ?l45 ?c45 ?k45 ?a46 ?l46 ?c46 ?k46 ?a47 ?l47 ?c47 ?k47 ?a48 ?l48 ?c48 ?k48 ?z0 ?z1 ?z2 ?z3 ?z4 ?z5 ?z6 ?z7 ?z8 ?z9 ?z10 ?z11 ?z12 ?z13 ?z14 ?y0 ?y1 ?ll1 ?tt1 ?oo1 ?y2 ?y3 ?y4 ?y5 ?y6 ?y7 ?ea0 ?ek0 ?eb0 ?et0 ?ei0 ?ea1 ?ek1 ?eb1 ?et1 ?ei1 ?ea2 ?ex2 ?ek2 ?eb2 ?et2 ?ei2 ?ea3 ?ek3 ?eb3 ?et3 ?ei3 ?ea4 ?ek4 ?eb4 ?et4 ?ei4 ?ea5 ?ek5 ?eb5 ?et5 ?ei5 ?ea6 ?ek6 ?eb6 ?et6 ?ei6 ?ea7 ?ek7 ?eb7 ?et7 ?ei7 ?ea8 ?ek8 ?eb8 ?et8 ?ei8 ?ea9 ?ek9 ?eb9 ?et9 ?ei9 ?ea10 ?ek10 ?eb10 ?et10 ?ei10 ?ea11 ?ex11 ?ek11 ?eb11 ?et11 ?ei11 ?ea12 ?ex12 ?ek12 ?eb12 ?et12 ?ei12 ?ea13 ?ek13 ?eb13 ?et13 ?ei13 ?en0 ?eo0 ?eg2 ?eh2 ?ed2 ?el2 ?em2 ?ev2 ?eg7 ?eh7 ?ed7 ?el7 ?em7 ?ev7 ?eg11 ?eh11 ?ed11 ?el11 ?em11 ?ev11 ?eg12 ?eh12 ?ed12 ?el12 ?em12 ?ev12 ?ooN0 ?et90 ?ooN1 ?et91 ?ooN3 ?et93 ?ooN4 ?et94 ?ooN5 ?et95 ?ooN6 ?et96 ?ooN7 ?et97 ?ooN8 ?et98 ?ooN9 ?et99 ?ooN10 ?et910 ?ooN11 ?et911 ?ooN12 ?et912 ?ooN13 ?et913 ?ooN14 ?et914 ?ooN15 ?et915 ?ooN16 ?et916 ?ooN17 ?et917 ?ooN18 ?et918 ?ooN19 ?et919 ?ooN21 ?et921 ?ooN22 ?et922 ?ooN23 ?et923 ?ooN24 ?et924 ?ooN25 ?et925 ?ooN26 ?et926 ?ooN27 ?et927 ?ooN28 ?et928 ?ooN29 ?et929 ?ooN30 ?et930 ?ooN31 ?et931 ?ooN32 ?et932 ?ooN33 ?et933 ?ooN34 ?et934 ?ooN35 ?et935 ?ooN36 ?et936 ?ooN38 ?et938 ?ooN39 ?et939 ?ooN40 ?et940 ?ooN41 ?et941 ?ooN42 ?et942 ?ooN43 ?et943 ?ooN44 ?et944 ?ooN45 ?et945 ?ooN46 ?et946 ?ooN47 ?et947 ?ooN48 ?et948 ?ooN49 ?et949 ?ooN50 ?et950 ?es0 ?es1 ?es2 ?es3 ?es4 ?es5 ?es6 ?es7 ?es8 ?es9 ?es10 ?es11 ?es12 ?es13 ?es14 ?es15 ?iw0 ?oi0 ?is0 ?ii0 ?it0 ?il0 ?ic0 ?ik0 ?in0 ?ip0 ?oir0 ?oiv0
    (case ca0 => k_is); (case cp0 => k_is); (case ch0 => k_is); (case co0 => k_is); (case cs0 => k_is); (case cm0 => k_is); (case ck0 => k_is); (case cn0_0 => k_is)
    (case cn0_1 => k_is); (case cn0_2 => k_is); (case cn0_3 => k_is); (case cn0_4 => k_is); (case a1 => k_is); (case l1 => k_is); (case c1 => k_is); (case k1 => k_is)
    (case a2 => k_is); (case l2 => k_is); (case c2 => k_is); (case k2 => k_is); (case a3 => k_is); (case l3 => k_is); (case c3 => k_is); (case k3 => k_is)
    (case a4 => k_is); (case l4 => k_is); (case c4 => k_is); (case k4 => k_is); (case a5 => k_is); (case l5 => k_is); (case c5 => k_is); (case k5 => k_is)
    (case a6 => k_is); (case l6 => k_is); (case c6 => k_is); (case k6 => k_is); (case a7 => k_is); (case i7 => k_is); (case l7 => k_is); (case c7 => k_is)
    (case k7 => k_is); (case a8 => k_is); (case i8 => k_is); (case l8 => k_is); (case c8 => k_is); (case k8 => k_is); (case a9 => k_is); (case i9 => k_is)
    (case l9 => k_is); (case c9 => k_is); (case k9 => k_is); (case a10 => k_is); (case i10 => k_is); (case l10 => k_is); (case c10 => k_is); (case k10 => k_is)
    (case a11 => k_is); (case i11 => k_is); (case l11 => k_is); (case c11 => k_is); (case k11 => k_is); (case a12 => k_is); (case i12 => k_is); (case l12 => k_is)
    (case c12 => k_is); (case k12 => k_is); (case a13 => k_is); (case l13 => k_is); (case c13 => k_is); (case k13 => k_is); (case a14 => k_is); (case l14 => k_is)
    (case c14 => k_is); (case k14 => k_is); (case a15 => k_is); (case l15 => k_is); (case c15 => k_is); (case k15 => k_is); (case a16 => k_is); (case l16 => k_is)
    (case c16 => k_is); (case k16 => k_is); (case a17 => k_is); (case l17 => k_is); (case c17 => k_is); (case k17 => k_is); (case a18 => k_is); (case l18 => k_is)
    (case c18 => k_is); (case k18 => k_is); (case a19 => k_is); (case l19 => k_is); (case c19 => k_is); (case k19 => k_is); (case a20 => k_is); (case l20 => k_is)
    (case c20 => k_is); (case k20 => k_is); (case a21 => k_is); (case l21 => k_is); (case c21 => k_is); (case k21 => k_is); (case a22 => k_is); (case i22 => k_is)
    (case l22 => k_is); (case c22 => k_is); (case k22 => k_is); (case a23 => k_is); (case l23 => k_is); (case c23 => k_is); (case k23 => k_is); (case a24 => k_is)
    (case l24 => k_is); (case c24 => k_is); (case k24 => k_is); (case a25 => k_is); (case l25 => k_is); (case c25 => k_is); (case k25 => k_is); (case a26 => k_is)
    (case l26 => k_is); (case c26 => k_is); (case k26 => k_is); (case a27 => k_is); (case l27 => k_is); (case c27 => k_is); (case k27 => k_is); (case a28 => k_is)
    (case l28 => k_is); (case c28 => k_is); (case k28 => k_is); (case a29 => k_is); (case l29 => k_is); (case c29 => k_is); (case k29 => k_is); (case a30 => k_is)
    (case l30 => k_is); (case c30 => k_is); (case k30 => k_is); (case a31 => k_is); (case l31 => k_is); (case c31 => k_is); (case k31 => k_is); (case a32 => k_is)
    (case l32 => k_is); (case c32 => k_is); (case k32 => k_is); (case a33 => k_is); (case l33 => k_is); (case c33 => k_is); (case k33 => k_is); (case a34 => k_is)
    (case l34 => k_is); (case c34 => k_is); (case k34 => k_is); (case a35 => k_is); (case l35 => k_is); (case c35 => k_is); (case k35 => k_is); (case a36 => k_is)
    (case l36 => k_is); (case c36 => k_is); (case k36 => k_is); (case a37 => k_is); (case l37 => k_is); (case c37 => k_is); (case k37 => k_is); (case a38 => k_is)
    (case l38 => k_is); (case c38 => k_is); (case k38 => k_is); (case a39 => k_is); (case l39 => k_is); (case c39 => k_is); (case k39 => k_is); (case a40 => k_is)
    (case i40 => k_is); (case l40 => k_is); (case c40 => k_is); (case k40 => k_is); (case a41 => k_is); (case i41 => k_is); (case l41 => k_is); (case c41 => k_is)
    (case k41 => k_is); (case a42 => k_is); (case i42 => k_is); (case l42 => k_is); (case c42 => k_is); (case k42 => k_is); (case a43 => k_is); (case i43 => k_is)
    (case l43 => k_is); (case c43 => k_is); (case k43 => k_is); (case a44 => k_is); (case l44 => k_is); (case c44 => k_is); (case k44 => k_is); (case a45 => k_is)
    (case l45 => k_is); (case c45 => k_is); (case k45 => k_is); (case a46 => k_is); (case l46 => k_is); (case c46 => k_is); (case k46 => k_is); (case a47 => k_is)
    (case l47 => k_is); (case c47 => k_is); (case k47 => k_is); (case a48 => k_is); (case l48 => k_is); (case c48 => k_is); (case k48 => k_is); (case z0 => k_is)
    (case z1 => k_is); (case z2 => k_is); (case z3 => k_is); (case z4 => k_is); (case z5 => k_is); (case z6 => k_is); (case z7 => k_is); (case z8 => k_is)
    (case z9 => k_is); (case z10 => k_is); (case z11 => k_is); (case z12 => k_is); (case z13 => k_is); (case z14 => k_is); (case y0 => k_is); (case y1 => k_is)
    (case ll1 => k_is); (case tt1 => repeat (first | exact True.intro | refine And.intro ⟨_, _, rfl, rfl, rfl⟩ ?_)); (case oo1 => decide); (case y2 => k_is); (case y3 => k_is); (case y4 => k_is); (case y5 => k_is); (case y6 => k_is)
    (case y7 => k_is); (case ea0 => k_is); (case ek0 => k_is); (case eb0 => k_is); (case et0 => k_is); (case ei0 => k_is); (case ea1 => k_is); (case ek1 => k_is)
    (case eb1 => k_is); (case et1 => k_is); (case ei1 => k_is); (case ea2 => k_is); (case ex2 => k_exc); (case ek2 => k_is); (case eb2 => k_is); (case et2 => k_is)
    (case ei2 => k_is); (case ea3 => k_is); (case ek3 => k_is); (case eb3 => k_is); (case et3 => k_is); (case ei3 => k_is); (case ea4 => k_is); (case ek4 => k_is)
    (case eb4 => k_is); (case et4 => k_is); (case ei4 => k_is); (case ea5 => k_is); (case ek5 => k_is); (case eb5 => k_is); (case et5 => k_is); (case ei5 => k_is)
    (case ea6 => k_is); (case ek6 => k_is); (case eb6 => k_is); (case et6 => k_is); (case ei6 => k_is); (case ea7 => k_is); (case ek7 => k_is); (case eb7 => k_is)
    (case et7 => k_is); (case ei7 => k_is); (case ea8 => k_is); (case ek8 => k_is); (case eb8 => k_is); (case et8 => k_is); (case ei8 => k_is); (case ea9 => k_is)
    (case ek9 => k_is); (case eb9 => k_is); (case et9 => k_is); (case ei9 => k_is); (case ea10 => k_is); (case ek10 => k_is); (case eb10 => k_is); (case et10 => k_is)
    (case ei10 => k_is); (case ea11 => k_is); (case ex11 => k_exc); (case ek11 => k_is); (case eb11 => k_is); (case et11 => k_is); (case ei11 => k_is); (case ea12 => k_is)
    (case ex12 => k_exc); (case ek12 => k_is); (case eb12 => k_is); (case et12 => k_is); (case ei12 => k_is); (case ea13 => k_is); (case ek13 => k_is); (case eb13 => k_is)
    (case et13 => k_is); (case ei13 => k_is); (case en0 => k_is); (case eo0 => k_is); (case eg2 => k_is); (case eh2 => k_is); (case ed2 => k_is); (case el2 => k_is)
    (case em2 => k_is); (case ev2 => k_is); (case eg7 => k_is); (case eh7 => k_is); (case ed7 => k_is); (case el7 => k_is); (case em7 => k_is); (case ev7 => k_is)
    (case eg11 => k_is); (case eh11 => k_is); (case ed11 => k_is); (case el11 => k_is); (case em11 => k_is); (case ev11 => k_is); (case eg12 => k_is); (case eh12 => k_is)
    (case ed12 => k_is); (case el12 => k_is); (case em12 => k_is); (case ev12 => k_is); (case ooN0 => decide); (case et90 => k_is); (case ooN1 => decide); (case et91 => k_is)
    (case ooN3 => decide); (case et93 => k_is); (case ooN4 => decide); (case et94 => k_is); (case ooN5 => decide); (case et95 => k_is); (case ooN6 => decide); (case et96 => k_is)
    (case ooN7 => decide); (case et97 => k_is); (case ooN8 => decide); (case et98 => k_is); (case ooN9 => decide); (case et99 => k_is); (case ooN10 => decide); (case et910 => k_is)
    (case ooN11 => decide); (case et911 => k_is); (case ooN12 => decide); (case et912 => k_is); (case ooN13 => decide); (case et913 => k_is); (case ooN14 => decide); (case et914 => k_is)
    (case ooN15 => decide); (case et915 => k_is); (case ooN16 => decide); (case et916 => k_is); (case ooN17 => decide); (case et917 => k_is); (case ooN18 => decide); (case et918 => k_is)
    (case ooN19 => decide); (case et919 => k_is); (case ooN21 => decide); (case et921 => k_is); (case ooN22 => decide); (case et922 => k_is); (case ooN23 => decide); (case et923 => k_is)
    (case ooN24 => decide); (case et924 => k_is); (case ooN25 => decide); (case et925 => k_is); (case ooN26 => decide); (case et926 => k_is); (case ooN27 => decide); (case et927 => k_is)
    (case ooN28 => decide); (case et928 => k_is); (case ooN29 => decide); (case et929 => k_is); (case ooN30 => decide); (case et930 => k_is); (case ooN31 => decide); (case et931 => k_is)
    (case ooN32 => decide); (case et932 => k_is); (case ooN33 => decide); (case et933 => k_is); (case ooN34 => decide); (case et934 => k_is); (case ooN35 => decide); (case et935 => k_is)
    (case ooN36 => decide); (case et936 => k_is); (case ooN38 => decide); (case et938 => k_is); (case ooN39 => decide); (case et939 => k_is); (case ooN40 => decide); (case et940 => k_is)
    (case ooN41 => decide); (case et941 => k_is); (case ooN42 => decide); (case et942 => k_is); (case ooN43 => decide); (case et943 => k_is); (case ooN44 => decide); (case et944 => k_is)
    (case ooN45 => decide); (case et945 => k_is); (case ooN46 => decide); (case et946 => k_is); (case ooN47 => decide); (case et947 => k_is); (case ooN48 => decide); (case et948 => k_is)
    (case ooN49 => decide); (case et949 => k_is); (case ooN50 => decide); (case et950 => k_is); (case es0 => k_is); (case es1 => k_is); (case es2 => k_is); (case es3 => k_is)
    (case es4 => k_is); (case es5 => k_is); (case es6 => k_is); (case es7 => k_is); (case es8 => k_is); (case es9 => k_is); (case es10 => k_is); (case es11 => k_is)
    (case es12 => k_is); (case es13 => k_is); (case es14 => k_is); (case es15 => k_is); (case iw0 => k_is); (case oi0 => first | k_is | decide +kernel | exact Eq.refl _); (case is0 => k_is); (case ii0 => k_is)
    (case it0 => k_is); (case il0 => k_is); (case ic0 => k_is); (case ik0 => k_is); (case in0 => k_is); (case ip0 => k_is); (case oir0 => first | k_is | decide +kernel | exact Eq.refl _); (case oiv0 => first | k_is | decide +kernel | exact Eq.refl _)
